import PyProof.Rows.All
import Wide.All
import OpenK.AllK
import Wide.FinOn
import PyProof.ExcBaseAll.Exception
import PyProof.InstStoreFacts
import PyProof.AssignAttr
import PyProof.Draws
import PyProof.EnumMake
import KE.KNest
import PySem.Challenge.RW_nn0168_01
/-! nn0168-01. The proof in four parts. A small language of our own (ME, MS) with its weakest preconditions; each def of the program as a text of it, with its contract (tab, allDoes); the law itself in plain Lean (law_A); the model's rules for every construct, a checker that ties the row's text to the small text and carries its own proof (Chk), the head. Written out of the parts in wip/v3 (there with remarks) by a program of our own; the theorems named tw.. hold places so that the head leaves no second copies. -/
set_option Elab.async false
set_option linter.all false
set_option maxRecDepth 100000
section
set_option genInjectivity false
set_option genSizeOf false
set_option genCtorIdx false
namespace Mine
section
inductive LE |num (n:Nat) |var (i:Nat) |add (a b:LE) |mul (a b:LE) |sub (a b:LE) |neg (a:LE) |cast (a:LE)
noncomputable def LE.dn(xs:List Nat):LE→Nat:=LE.rec (fun n=>n) (fun i=>xs.getD i 0) (fun _ _ a b=>a+b) (fun _ _ a b=>a*b) (fun _ _ _ _=>0) (fun _ _=>0) fun _ _=>0
noncomputable def LE.di(xs:List Nat)(ys:List Int):LE→Int:=LE.rec (fun n=>(n:Nat)) (fun i=>ys.getD i 0) (fun _ _ a b=>a+b) (fun _ _ a b=>a*b) (fun _ _ a b=>a-b) (fun _ a => - a) fun a _=>((a.dn xs:Nat):Int)
noncomputable abbrev IL:=List Int
noncomputable def lA:IL→IL→IL:=List.rec (fun b=>b) fun a as ih b=>List.rec (a::as) (fun b bs _=>(a+b)::ih bs) b
noncomputable def lM(k:Int):IL→IL:=List.rec [] fun a _ ih=>(k*a)::ih
noncomputable def lU(j:Nat):IL:=Nat.rec [1] (fun _ l=>0::l) j
noncomputable def isC:IL→Option Int:=List.rec (some 0) fun a as _=>List.rec (some a) (fun _ _ _=>none) as
noncomputable def lMul(a b:IL):Option IL:=Option.rec (Option.rec none (fun k=>some (lM k a)) (isC b)) (fun k=>some (lM k b)) (isC a)
noncomputable def o2(f:IL→IL→Option IL)(a b:Option IL):Option IL:=Option.rec none (fun a=>Option.rec none (fun b=>f a b) b) a
noncomputable def oA(a b:Option IL):Option IL:=o2 (fun x y=>some (lA x y)) a b
noncomputable def lD(x y:IL):IL:=lA x (lM (-1) y)
noncomputable def LE.ln:LE→Option IL:=LE.rec (fun n=>some [(n:Nat)]) (fun i=>some (lU (2*i+1))) (fun _ _ a b=>oA a b) (fun _ _ a b=>o2 lMul a b) (fun _ _ _ _=>none) (fun _ _=>none) fun _ _=>none
noncomputable def LE.li:LE→Option IL:=LE.rec (fun n=>some [(n:Nat)]) (fun i=>some (lU (2*i+2))) (fun _ _ a b=>oA a b) (fun _ _ a b=>o2 lMul a b) (fun _ _ a b=>o2 (fun x y=>some (lD x y)) a b) (fun _ a=>o2 (fun x y=>some (lM (-1) x)) a (some [])) fun a _=>a.ln
noncomputable def lV(e:Nat→Int)(j:Nat)(l:IL):Int:=List.rec (fun _=>0) (fun a _ ih j=>a*e j+ih (j+1)) l j
noncomputable def eP:Nat→IL→IL→Int:=Nat.rec (fun xs _=>xs.getD 0 0) fun _ ih xs ys=>ih ys xs.tail
noncomputable def eN(xs:List Nat)(ys:IL):Nat→Int:=Nat.rec 1 fun j _=>eP j (xs.map Nat.cast) ys
section
variable (e:Nat→Int)
theorem lV_add:∀(a b:IL) (j:Nat),lV e j (lA a b)=lV e j a+lV e j b:=List.rec (fun b j=>(Int.zero_add _).symm) fun a as ih b j=>by
 cases b with
 |nil=>exact (Int.add_zero _).symm
 |cons b bs=>
  show (a+b)*e j+lV e (j+1) (lA as bs)=(a*e j+lV e (j+1) as)+(b*e j+lV e (j+1) bs)
  rw [ih,Int.add_mul,Int.add_assoc,Int.add_assoc,Int.add_left_comm (b*e j)]
theorem lV_mul(k:Int)(a:IL):∀j,lV e j (lM k a)=k*lV e j a:=List.rec (fun j=>(Int.mul_zero k).symm) (fun a as ih j=>by
 show k*a*e j+lV e (j+1) (lM k as)=k*(a*e j+lV e (j+1) as)
 rw [ih,Int.mul_add,Int.mul_assoc]) a
theorem lV_unit(i:Nat):∀j,lV e j (lU i)=e (j+i):=Nat.rec (fun j=>by
 show 1*e j+0=e j
 rw [Int.one_mul,Int.add_zero]) (fun i ih j=>by
 show 0*e j+lV e (j+1) (lU i)=_
 rw [Int.zero_mul,Int.zero_add,ih,Nat.add_assoc,Nat.add_comm 1]) i
theorem lV_sub(x y:IL):lV e 0 (lD x y)=lV e 0 x-lV e 0 y:=by
 unfold lD
 rw [lV_add,lV_mul,Int.neg_mul,Int.one_mul];rfl
variable (h0:e 0=1)
include h0
theorem lV_one(k:Int):lV e 0 [k]=k:=by
 show k*e 0+0=k
 rw [h0,Int.mul_one,Int.add_zero]
theorem isC_val{a:IL}{k:Int}(h:isC a=some k):lV e 0 a=k:=by
 cases a with
 |nil=>exact Option.some.inj h
 |cons a as=>cases as with
  |nil=>exact (lV_one e h0 a).trans (Option.some.inj h)
  |cons b r=>exact nomatch h
end
theorem o2_inv{f:IL→IL→Option IL}{a b:Option IL}{l:IL}(h:o2 f a b=some l){P:Prop}(k:∀x y,a=some x→b=some y→f x y=some l→P):P:=by
 cases a with
 |none=>exact nomatch h
 |some x=>cases b with
  |none=>exact nomatch h
  |some y=>exact k x y rfl rfl h
theorem oA_inv{a b:Option IL}{l:IL}(h:oA a b=some l)(e:Nat→Int){P:Prop}(k:∀x y,a=some x→b=some y→lV e 0 l=lV e 0 x+lV e 0 y→P):P:=o2_inv h fun x y ha hb q=>k x y ha hb (Option.some.inj q▸lV_add e x y 0)
theorem lMul_val(e:Nat→Int)(h0:e 0=1){a b l:IL}(h:lMul a b=some l):lV e 0 l=lV e 0 a*lV e 0 b:=by
 unfold lMul at h
 cases q:isC a with
 |some k=>rw [q]at h;rw [isC_val e h0 q];exact Option.some.inj h▸lV_mul e k b 0
 |none=>
  rw [q]at h
  cases q2:isC b with
  |some k=>rw [q2]at h;rw [isC_val e h0 q2,Int.mul_comm];exact Option.some.inj h▸lV_mul e k a 0
  |none=>rw [q2]at h;exact nomatch h
theorem eP_odd(i:Nat):∀xs ys,eP (2*i) xs ys=xs.getD i 0∧eP (2*i+1) xs ys=ys.getD i 0:=Nat.rec (fun xs ys=>⟨rfl,rfl⟩) (fun i ih xs ys=>by
 have t:∀l:IL,l.tail.getD i 0=l.getD (i+1) 0:=fun l=>by cases l <;> rfl
 exact ⟨(ih xs.tail ys.tail).1.trans (t xs),(ih xs.tail ys.tail).2.trans (t ys)⟩) i
section
variable (xs:List Nat)(ys:IL)
theorem eN_x(i:Nat):eN xs ys (2*i+1)=((xs.getD i 0:Nat):Int):=(eP_odd i _ _).1.trans (by
 rw [List.getD_eq_getElem?_getD,List.getD_eq_getElem?_getD,List.getElem?_map];cases xs[i]? <;> rfl)
theorem ln_val(t:LE):∀l,t.ln=some l→lV (eN xs ys) 0 l=(t.dn xs:Nat):=LE.rec (motive:=fun t=>∀l,t.ln=some l→lV (eN xs ys) 0 l=(t.dn xs:Nat)) (fun n l h=>Option.some.inj h▸lV_one _ rfl _)
 (fun i l h=>Option.some.inj h▸(lV_unit _ _ 0).trans (by rw [Nat.zero_add];exact eN_x xs ys i))
 (fun a b iha ihb l h=>oA_inv h (eN xs ys) fun x y ha hb q=>q.trans (by rw [iha x ha,ihb y hb];rfl)) (fun a b iha ihb l h=>o2_inv h fun x y ha hb q=>(lMul_val _ rfl q).trans (by rw [iha x ha,ihb y hb];rfl)) (fun _ _ _ _ l h=>nomatch h) (fun _ _ l h=>nomatch h) (fun _ _ l h=>nomatch h) t
theorem li_val(t:LE):∀l,t.li=some l→lV (eN xs ys) 0 l=t.di xs ys:=LE.rec (motive:=fun t=>∀l,t.li=some l→lV (eN xs ys) 0 l=t.di xs ys) (fun n l h=>Option.some.inj h▸lV_one _ rfl _)
 (fun i l h=>Option.some.inj h▸(lV_unit _ _ 0).trans (by rw [Nat.zero_add];exact (eP_odd i _ _).2))
 (fun a b iha ihb l h=>oA_inv h (eN xs ys) fun x y ha hb q=>q.trans (by rw [iha x ha,ihb y hb];rfl)) (fun a b iha ihb l h=>o2_inv h fun x y ha hb q=>(lMul_val _ rfl q).trans (by rw [iha x ha,ihb y hb];rfl))
 (fun a b iha ihb l h=>o2_inv h fun x y ha hb q=>Option.some.inj q▸(lV_sub _ x y).trans (by rw [iha x ha,ihb y hb];rfl)) (fun a iha l h=>o2_inv (f:=fun x y=>some (lM (-1) x)) (a:=a.li) (b:=some []) h fun x y ha hb q=>Option.some.inj q▸(lV_mul _ _ x 0).trans (by rw [iha x ha,Int.neg_mul,Int.one_mul];rfl)) (fun a _ l h=>ln_val xs ys a l h) t
noncomputable def ls5{α:Type}(a b c d e:α)(k:Nat):α:=Nat.rec a (fun k _=>Nat.rec b (fun k _=>Nat.rec c (fun k _=>Nat.rec d (fun _ _=>e) k) k) k) k
theorem ln5{P:Nat→Prop}(h0:P 0)(h1:P 1)(h2:P 2)(h3:P 3)(h4:∀k,P (k+4)):∀k,P k
 |0=>h0 |1=>h1 |2=>h2 |3=>h3 |k+4=>h4 k
noncomputable def lrI(x y:Int):Nat→Prop:=ls5 (x≤y) (x<y) (x=y) (¬x≤y) (¬x<y)
noncomputable def cD(k:Nat)(a b:LE):Prop:=cond (Nat.ble 5 k) (cond (Nat.ble 10 k) False (lrI (a.di xs ys) (b.di xs ys) (k-5))) (ls5 (a.dn xs≤b.dn xs) (a.dn xs<b.dn xs) (a.dn xs=b.dn xs) (¬a.dn xs≤b.dn xs) (¬a.dn xs<b.dn xs) k)
end
noncomputable def cF(x y:IL):Nat→IL:=ls5 (lD y x) (lA (lD y x) [-1]) (lD y x) (lA (lD x y) [-1]) (lD x y)
noncomputable def cS(k:Nat)(a b:LE):Option IL:=cond (Nat.ble 5 k) (o2 (fun x y=>some (cF x y (k-5))) a.li b.li) (o2 (fun x y=>some (cF x y k)) a.ln b.ln)
noncomputable def isQ(k:Nat):Bool:=Nat.beq (cond (Nat.ble 5 k) (k-5) k) 2
theorem cF_pos(e:Nat→Int)(h0:e 0=1)(x y:IL){X Y:Int}(hx:lV e 0 x=X)(hy:lV e 0 y=Y):∀k,lrI X Y k→0≤lV e 0 (cF x y k)∧(Nat.beq k 2=true→lV e 0 (cF x y k)=0):=by
 have d:∀{x y:IL} {X Y:Int},lV e 0 x=X→lV e 0 y=Y→lV e 0 (lD y x)=Y-X:=fun hx hy=>(lV_sub e _ _).trans (by rw [hx,hy])
 have u:∀{x y:IL} {X Y:Int},lV e 0 x=X→lV e 0 y=Y→X<Y→0≤lV e 0 (lA (lD y x) [-1]):=fun hx hy h=>by
  rw [lV_add,d hx hy,lV_one e h0]
  exact Int.sub_nonneg_of_le (Int.le_sub_left_of_add_le h)
 have v:∀{x y:IL} {X Y:Int},lV e 0 x=X→lV e 0 y=Y→X≤Y→0≤lV e 0 (lD y x):=fun hx hy h=>(d hx hy).symm▸Int.sub_nonneg_of_le h
 exact ln5 (fun h=>⟨v hx hy h,fun q=>nomatch q⟩) (fun h=>⟨u hx hy h,fun q=>nomatch q⟩) (fun h=>have z:lV e 0 (lD y x)=0:=(d hx hy).trans ((show X=Y from h)▸Int.sub_self _);⟨Int.le_of_eq z.symm,fun _=>z⟩) (fun h=>⟨u hy hx (Int.not_le.mp h),fun q=>nomatch q⟩) fun k h=>⟨v hy hx (Int.not_lt.mp h),fun q=>nomatch q⟩
section
variable (xs:List Nat)(ys:IL)
theorem cD_pos{k:Nat}{a b:LE}{l:IL}(h:cD xs ys k a b)(hl:cS k a b=some l):0≤lV (eN xs ys) 0 l∧(isQ k=true→lV (eN xs ys) 0 l=0):=by
 unfold cD at h
 unfold cS at hl
 unfold isQ
 cases hk:Nat.ble 5 k with
 |true=>
  rw [hk]at h hl
  cases h10:Nat.ble 10 k with
  |true=>rw [h10]at h;exact h.elim
  |false=>rw [h10]at h;exact o2_inv hl fun x y ha hb q=>Option.some.inj q▸cF_pos (eN xs ys) rfl x y (li_val xs ys a x ha) (li_val xs ys b y hb) (k-5) h
 |false=>
  rw [hk]at h hl
  exact o2_inv hl fun x y ha hb q=>Option.some.inj q▸cF_pos (eN xs ys) rfl x y (ln_val xs ys a x ha) (ln_val xs ys b y hb) k (ln5 (P:=fun k=>ls5 (a.dn xs≤b.dn xs) (a.dn xs<b.dn xs) (a.dn xs=b.dn xs) (¬a.dn xs≤b.dn xs) (¬a.dn xs<b.dn xs) k→lrI (a.dn xs:Nat) (b.dn xs:Nat) k)
   Int.ofNat_le.mpr Int.ofNat_lt.mpr (congrArg Nat.cast) (fun h q=>h (Int.ofNat_le.mp q)) (fun _ h q=>h (Int.ofNat_lt.mp q)) k h)
structure LH where
 k:Nat
 m:Nat
 s:Bool
 a:LE
 b:LE
noncomputable def hS(w:Bool):List LH→Option IL:=List.rec (some []) fun h _ ih=>cond (isQ h.k) (o2 (fun l t=>some (lA (lM (cond (cond h.s w (!w)) (- (h.m:Int)) h.m) l) t)) (cS h.k h.a h.b) ih) (cond (cond h.s w (!w)) ih (o2 (fun l t=>some (lA (lM h.m l) t)) (cS h.k h.a h.b) ih))
noncomputable def hD:List LH→Prop→Prop:=List.rec (fun g=>g) fun h _ ih g=>cD xs ys h.k h.a h.b→ih g
noncomputable def hA:List LH→Prop:=List.rec True fun h _ ih=>cD xs ys h.k h.a h.b∧ih
theorem hD_of(hs:List LH):∀g:Prop,(hA xs ys hs→g)→hD xs ys hs g:=List.rec (motive:=fun hs=>∀g:Prop,(hA xs ys hs→g)→hD xs ys hs g) (fun g h=>h trivial) (fun _ _ ih g h c=>ih g fun t=>h ⟨c,t⟩) hs
theorem hS_pos(w:Bool)(hs:List LH):∀l,hA xs ys hs→hS w hs=some l→0≤lV (eN xs ys) 0 l:=by
 induction hs with
 |nil=>exact fun l _ h=>Option.some.inj h▸Int.le_refl 0
 |cons x r ih=>
  intro l hA h
  replace h:cond (isQ x.k) (o2 (fun l t=>some (lA (lM (cond (cond x.s w (!w)) (- (x.m:Int)) x.m) l) t)) (cS x.k x.a x.b) (hS w r)) (cond (cond x.s w (!w)) (hS w r) (o2 (fun l t=>some (lA (lM x.m l) t)) (cS x.k x.a x.b) (hS w r)))=some l:=h
  cases q:isQ x.k with
  |true=>
   rw [q]at h
   exact o2_inv h fun a b ha hb e=>Option.some.inj e▸(by rw [lV_add,lV_mul,(cD_pos xs ys hA.1 ha).2 q,Int.mul_zero,Int.zero_add];exact ih b hA.2 hb)
  |false=>
   rw [q]at h
   cases q2:cond x.s w (!w) with
   |true=>rw [q2]at h;exact ih l hA.2 h
   |false=>rw [q2]at h;exact o2_inv h fun a b ha hb e=>Option.some.inj e▸(by rw [lV_add,lV_mul];exact Int.add_nonneg (Int.mul_nonneg (Int.natCast_nonneg _) (cD_pos xs ys hA.1 ha).1) (ih b hA.2 hb))
noncomputable def uF(l:IL):Bool→Bool:=List.rec (fun _=>true) (fun a _ ih b=>and (cond b (decide (a≤0)) (decide (a=0))) (ih (!b))) l
noncomputable def uO(o:Option IL):Bool:=Option.rec false (fun l=>List.rec false (fun c r _=>and (decide (c<0)) (uF r true)) l) o
theorem uF_le(l:IL):∀j,(uF l true=true→lV (eN xs ys) (2*j+1) l≤0)∧(uF l false=true→lV (eN xs ys) (2*j+2) l≤0):=List.rec (motive:=fun l=>∀j,(uF l true=true→lV (eN xs ys) (2*j+1) l≤0)∧(uF l false=true→lV (eN xs ys) (2*j+2) l≤0)) (fun j=>⟨fun _=>Int.le_refl 0,fun _=>Int.le_refl 0⟩)
 (fun a as ih j=>⟨fun h=>
  have h:=(Bool.and_eq_true_iff).mp h
  Int.add_nonpos (Int.mul_nonpos_of_nonpos_of_nonneg (of_decide_eq_true h.1) (eN_x xs ys j▸Int.natCast_nonneg _)) ((ih j).2 h.2),fun h=>by
  have h:=(Bool.and_eq_true_iff).mp h
  obtain rfl:a=0:=of_decide_eq_true h.1
  show 0*_+lV (eN xs ys) (2*(j+1)+1) as≤0
  rw [Int.zero_mul,Int.zero_add]
  exact (ih (j+1)).1 h.2⟩) l
theorem uO_no{o:Option IL}(h:uO o=true){P:Prop}(k:∀l,o=some l→lV (eN xs ys) 0 l<0→P):P:=by
 cases o with
 |none=>exact nomatch h
 |some l=>cases l with
  |nil=>exact nomatch h
  |cons c r=>
   have h:=(Bool.and_eq_true_iff).mp h
   exact k _ rfl (by
    show c*1+lV (eN xs ys) 1 r<0
    rw [Int.mul_one]
    exact Int.add_neg_of_neg_of_nonpos (of_decide_eq_true h.1) ((uF_le xs ys r 0).1 h.2))
noncomputable def nK(k:Nat):Nat:=cond (Nat.ble 5 k) (ls5 8 9 7 5 6 (k-5)) (ls5 3 4 2 0 1 k)
noncomputable def gC(g:Nat)(a b:LE)(hs:List LH):Bool:=cond (Nat.ble 10 g) (uO (hS true hs)) (cond (isQ g) (and (uO (oA (cS (g-1) a b) (hS true hs))) (uO (oA (cS (g-1) b a) (hS false hs)))) (uO (oA (cS (nK g) a b) (hS true hs))))
theorem oA_no{k:Nat}{a b:LE}{hs:List LH}{w:Bool}(hA':hA xs ys hs)(h:uO (oA (cS k a b) (hS w hs))=true):¬cD xs ys k a b:=fun c=>
 uO_no xs ys h fun l hl n=>oA_inv hl (eN xs ys) fun x y hx hy e=>absurd (Int.add_nonneg (cD_pos xs ys c hx).1 (hS_pos xs ys w hs y hA' hy)) (Int.not_le.2 (e▸n))
theorem ln10{P:Nat→Prop}(h0:P 0)(h1:P 1)(h2:P 2)(h3:P 3)(h4:P 4)(h5:P 5)(h6:P 6)(h7:P 7)(h8:P 8)(h9:P 9)(k:Nat)(h:Nat.ble 10 k=false):P k:=
 match k,h with
 |0,_=>h0 |1,_=>h1 |2,_=>h2 |3,_=>h3 |4,_=>h4 |5,_=>h5 |6,_=>h6 |7,_=>h7 |8,_=>h8 |9,_=>h9
theorem gC_no{hs:List LH}(h:uO (hS true hs)=true)(hA':hA xs ys hs){P:Prop}:P:=uO_no xs ys h fun l hl n=>absurd (hS_pos xs ys true hs l hA' hl) (Int.not_le.2 n)
theorem gC_of{g:Nat}{a b:LE}{hs:List LH}(h:gC g a b hs=true)(hA':hA xs ys hs):cD xs ys g a b:=by
 cases q:Nat.ble 10 g with
 |true=>unfold gC at h;rw [q]at h;exact gC_no xs ys h hA'
 |false=>
  have c:∀{k},cond (isQ k) (and (uO (oA (cS (k-1) a b) (hS true hs))) (uO (oA (cS (k-1) b a) (hS false hs)))) (uO (oA (cS (nK k) a b) (hS true hs)))=true→isQ k=false→¬cD xs ys (nK k) a b:=fun h e=>oA_no xs ys hA' (by rw [e]at h;exact h)
  refine ln10 (P:=fun g=>gC g a b hs=true→cD xs ys g a b) (fun h=>Classical.not_not.1 (c (k:=0) h rfl)) (fun h=>Classical.not_not.1 (c (k:=1) h rfl)) (fun h=>?_) (fun h=>c (k:=3) h rfl) (fun h=>c (k:=4) h rfl) (fun h=>Classical.not_not.1 (c (k:=5) h rfl)) (fun h=>Classical.not_not.1 (c (k:=6) h rfl)) (fun h=>?_) (fun h=>c (k:=8) h rfl) (fun h=>c (k:=9) h rfl) g q h
  ·have h:=(Bool.and_eq_true_iff).mp h
   exact Nat.le_antisymm (Nat.not_lt.mp (oA_no xs ys (k:=1) hA' h.2)) (Nat.not_lt.mp (oA_no xs ys (k:=1) hA' h.1))
  ·have h:=(Bool.and_eq_true_iff).mp h
   exact Int.le_antisymm (Int.not_lt.mp (oA_no xs ys (k:=6) hA' h.2)) (Int.not_lt.mp (oA_no xs ys (k:=6) hA' h.1))
noncomputable def t2(f:LE→LE→LE)(es:List LE):List LE:=List.rec [] (fun b r _=>List.rec [b] (fun a r _=>f a b::r) r) es
noncomputable def t1(f:LE→LE)(es:List LE):List LE:=List.rec [] (fun a r _=>f a::r) es
noncomputable def nO:LE→Nat:=LE.rec (fun n=>n) (fun _=>0) (fun _ _ _ _=>0) (fun _ _ _ _=>0) (fun _ _ _ _=>0) (fun _ _=>0) fun _ _=>0
noncomputable def big(a b:LE):LE:=.num (nO a*24+nO b)
noncomputable def pow(a b:LE):LE:=.num (nO a^nO b)
noncomputable def stE(d:Nat)(es:List LE):List LE:=bif Nat.ble 40 d then .num (d-40)::es else bif Nat.ble 20 d then .var (d-20)::es else bif Nat.ble 8 d then es.drop 3 else
 bif Nat.beq d 1 then t2 .add es else bif Nat.beq d 2 then t2 .mul es else bif Nat.beq d 3 then t2 .sub es else bif Nat.beq d 4 then t1 .neg es else bif Nat.beq d 5 then t1 .cast es else bif Nat.beq d 6 then t2 big es else t2 pow es
noncomputable def lwE:LE→Bool:=LE.rec (fun _=>false) (fun _=>false) (fun _ _ _ _=>false) (fun _ _ _ _=>false) (fun _ _ _ _=>false) (fun _ _=>true) fun _ _=>false
noncomputable def lwN:LE→Nat:=LE.rec (fun n=>n) (fun _=>0) (fun _ _ _ _=>0) (fun _ _ _ _=>0) (fun _ _ _ _=>0) (fun a _=>nO a) fun _ _=>0
noncomputable def mkH(k:Nat)(es:List LE)(hs:List LH):List LH:=List.rec hs (fun m r _=>List.rec hs (fun b r _=>List.rec hs (fun a _ _=>⟨k,lwN m,lwE m,a,b⟩::hs) r) r) es
noncomputable def stH(d:Nat)(es:List LE)(hs:List LH):List LH:=bif Nat.ble 20 d then hs else bif Nat.ble 8 d then mkH (d-8) es hs else hs
noncomputable def rn{α:Type}(K:List LE→List LH→α)(f:Nat):Nat→List LE→List LH→α:=Nat.rec (fun _ es hs=>K es hs) (fun _ ih n es hs=>cond (Nat.beq n 0) (K es hs) (ih (n/64) (stE (n%64) es) (stH (n%64) es hs))) f
noncomputable def kC(g:Nat)(es:List LE)(hs:List LH):Bool:=List.rec (uO (hS true hs)) (fun b r _=>List.rec (uO (hS true hs)) (fun a _ _=>gC g a b hs) r) es
noncomputable def kD(g:Nat)(es:List LE)(hs:List LH):Prop:=List.rec (hD xs ys hs False) (fun b r _=>List.rec (hD xs ys hs False) (fun a _ _=>hD xs ys hs (cD xs ys g a b)) r) es
theorem kC_of{g:Nat}{es:List LE}{hs:List LH}(h:kC g es hs=true):kD xs ys g es hs:=by
 cases es with
 |nil=>exact hD_of xs ys hs _ fun t=>gC_no xs ys h t
 |cons b r=>cases r with
  |nil=>exact hD_of xs ys hs _ fun t=>gC_no xs ys h t
  |cons a _=>exact hD_of xs ys hs _ (gC_of xs ys h)
theorem lz(n:Nat)(h:rn (kC (n%64)) 300 (n/64) [] []=true):rn (kD xs ys (n%64)) 300 (n/64) [] []:=
 (Nat.rec (motive:=fun f=>∀k es hs,rn (kC (n%64)) f k es hs=true→rn (kD xs ys (n%64)) f k es hs) (fun k es hs h=>kC_of xs ys h) (fun f ih k es hs=>by
  show cond (Nat.beq k 0) (kC (n%64) es hs) (rn (kC (n%64)) f (k/64) (stE (k%64) es) (stH (k%64) es hs))=true→cond (Nat.beq k 0) (kD xs ys (n%64) es hs) (rn (kD xs ys (n%64)) f (k/64) (stE (k%64) es) (stH (k%64) es hs))
  cases Nat.beq k 0 with
  |true=>exact kC_of xs ys
  |false=>exact ih _ _ _) 300:∀k es hs,_) (n/64) [] [] h
end
theorem sLe{a b:Nat}:a≤a-b+b:=Nat.sub_le_iff_le_add.1 (Nat.le_refl _)
theorem dEq{a k:Nat}:k*(a/k)+a%k=a:=Nat.div_add_mod a k
end
end Mine
end
section
namespace Mine
section
set_option bootstrap.genMatcherCode false
set_option backward.match.sparseCases false
inductive V where
 |none
 |bool (b:Bool)
 |int (i:Int)
 |str (s:String)
 |bytes (b:List Nat)
 |ref (a:Nat)
inductive O where
 |list (vs:List V)
 |tuple (vs:List V)
 |ba (b:List Nat)
 |inst (C:String)(d:Nat)
 |flds (fs:List (String×V))
 |dict (es:List (Int×Int))
 |cell (v:Option V)
 |taker (c p k:Nat)
 |code
noncomputable abbrev Hp:=Nat→Option O
noncomputable def Hp.put(H:Hp)(a:Nat)(o:O):Hp:=fun b=>if b=a then some o else H b
noncomputable abbrev M:=List (Option V)
inductive BOp where
 |add |sub |mul |fdiv |mod |and |or |shl |shr
 deriving DecidableEq
inductive COp where
 |lt |le |gt |ge |eq |ne |is |isnot
 deriving DecidableEq
set_option genCtorIdx false
set_option genInjectivity false
set_option genSizeOf false
mutual
inductive ME where
 |loc (i:Nat)
 |cel (i:Nat)
 |cst (v:V)
 |gint (x:String)(i:Int)
 |attr (e:ME)(f:String)
 |bin (op:BOp)(a b:ME)
 |neg (e:ME)
 |not (e:ME)
 |cmp (op:COp)(a b:ME)
 |bop (isAnd:Bool)(es:MEs)
 |ite (c t e:ME)
 |sub (e i:ME)
 |slcFrom (e lo:ME)
 |slcTo (e hi:ME)
 |slc (e lo hi:ME)
 |call (g:String)(es:MEs)
 |new (C:String)(es:MEs)
 |meth (e:ME)(f:String)(es:MEs)
 |len (e:ME)
 |min2 (a b:ME)
 |max2 (a b:ME)
 |max1 (e:ME)
 |listOf (e:ME)
 |bytesOf (e:ME)
 |newBA
 |intOf (e:ME)
 |isInt (e:ME)
 |isTup (e:ME)
 |sum (e:ME)
 |lst (es:MEs)
 |tup (es:MEs)
 |dict0
 |lvl (e:ME)
 |app (e x:ME)
 |ext (e x:ME)
 |dget (e k d:ME)
 |take (i:Nat)(e:ME)
 |comp (elt:ME)(it:MI)(x n:Nat)(fr:List (Nat×Nat))
 |any
inductive MEs where
 |nil
 |cons (e:ME)(es:MEs)
inductive MI where
 |range1 (a:ME)
 |range2 (a b:ME)
 |range3 (a b c:ME)
 |over (e:ME)
end
inductive Tg where
 |one (i:Nat)
 |tup (is:List Nat)
mutual
inductive MS where
 |asg (i:Nat)(e:ME)
 |asgC (i:Nat)(e:ME)
 |setattr (o:ME)(f:String)(e:ME)
 |setsub (o i e:ME)
 |unpack (is:List Nat)(e:ME)
 |aug (i:Nat)(op:BOp)(e:ME)
 |augsub (o i:ME)(op:BOp)(e:ME)
 |for_ (t:Tg)(it:MI)(b:MSs)
 |forEnum (i j:Nat)(e:ME)(b:MSs)
 |while_ (c:ME)(b:MSs)
 |if_ (c:ME)(t e:MSs)
 |ret (e:ME)
 |ret0
 |cont
 |expr (e:ME)
 |raise (es:MEs)
 |tryRet (e:ME)
 |any
inductive MSs where
 |nil
 |cons (s:MS)(ss:MSs)
end
set_option genCtorIdx true
inductive Fl where
 |next
 |cont
 |ret (v:V)
noncomputable def truthV:V→Option Bool
 | .none=>some false
 | .bool b=>some b
 | .int i=>some (i != 0)
 |_=>none
noncomputable def on2I{α:Type}(x y:V)(f:Int→Int→Option α):Option α:=match x with
 | .int a=>(match y with
  | .int b=>f a b
  |_=>none)
 |_=>none
noncomputable def cmpI(op:COp)(a b:Int):Option Bool:=match op with
 | .lt=>some (decide (a<b))
 | .le=>some (decide (a≤b))
 | .gt=>some (decide (a > b))
 | .ge=>some (decide (a≥b))
 | .eq=>some (decide (a=b))
 | .ne=>some (decide (a≠b))
 |_=>none
noncomputable def isN(v:V):Bool:=match v with
 | .none=>true
 |_=>false
noncomputable def eqO(op:COp)(b:Bool):Option Bool:=match op with
 | .eq=>some b
 | .ne=>some (!b)
 |_=>none
noncomputable def isO(op:COp)(b:Bool):Option Bool:=match op with
 | .is=>some b
 | .isnot=>some (!b)
 |_=>none
noncomputable def cmpV(op:COp)(x y:V):Option Bool:=match y with
 | .none=>isO op (isN x)
 | .int b=>(match x with
  | .int a=>cmpI op a b
  |_=>none)
 |_=>none
noncomputable def augV(op:BOp)(x y:V):Option V:=match op with
 | .add=>on2I x y fun a b=>some (.int (a+b))
 |_=>none
noncomputable def getLoc(m:M)(i:Nat):Option V:=match m[i]? with
 |some (some v)=>some v
 |_=>none
noncomputable def attrsOf:List (String×String):=[("BitsIn","data"),("BitsIn","at"),("BitsIn","held"),("BitsIn","count"),("BitsOut","made"),("BitsOut","held"),("BitsOut","count"),("Decoder","tally"),("Decoder","symbols"),
 ("Encoder","lengths"),("Encoder","turned"),("Chains","octets"),("Chains","heads"),("Chains","earlier"),("Prices","literals"),("Prices","distances")]
noncomputable def methsOf:List (String×String):=[("BitsIn","left"),("BitsIn","need"),("BitsIn","take"),("BitsIn","align"),("BitsIn","octets"),("BitsOut","put"),("BitsOut","align"),("BitsOut","put_octets"),("BitsOut","octets"),
 ("Decoder","read"),("Encoder","put"),("Chains","put"),("Chains","places"),("Prices","literal"),("Prices","match")]
noncomputable def attB(c f:String)(fs:List (String×V)):Bool:=decide ((c,f)∈attrsOf)&&Nat.blt fs.length 100
noncomputable def metB(c f:String)(fs:List (String×V)):Bool:=decide ((c,f)∈methsOf)&&(fs.lookup f).isNone
noncomputable def fldB(c f:String)(fs:List (String×V)):Option V:=bif decide ((c,f)∈attrsOf) then fs.lookup f else none
noncomputable def setF(f:String)(v:V):List (String×V)→List (String×V)
 | []=>[(f,v)]
 | (g,w)::r=>if g=f then (g,v)::r else (g,w)::setF f v r
noncomputable def intsOf:List V→Option (List Int)
 | []=>some []
 | .int i::r=>(intsOf r).map (i::·)
 |_=>none
noncomputable def rangeN(a b c:Int):Nat:=(if c > 0 then (if a<b then (b-a-1)/c+1 else 0) else (if a > b then (a-b-1)/(-c)+1 else 0)).toNat
noncomputable def rangeL(a b c:Int):List V:=(List.range (rangeN a b c)).map fun (i:Nat)=>.int (a+c*(i:Int))
noncomputable abbrev okR(a:Int):Prop:=a.natAbs<1099511627776
noncomputable def cutL{α:Type}(xs:List α)(lo hi:Nat):List α:=(xs.take hi).drop lo
noncomputable def setI(k:Int)(v:Int)(es:List (Int×Int)):List (Int×Int):=if es.any (fun e=>decide (e.1=k)) then es.map (fun e=>if e.1=k then (e.1,v) else e) else es++[(k,v)]
noncomputable def lvlOf(s:String):Int:=if s="stored" then 0 else if s="fixed" then 1 else if s="dynamic" then 2 else if s="mixed" then 2 else 3
noncomputable abbrev CT:=String→List V→Hp→(V→Hp→Prop)→(Hp→Prop)→Prop
noncomputable abbrev QV:=V→Hp→Prop
noncomputable abbrev QX:=Hp→Prop
noncomputable abbrev QS:=Fl→M→Hp→Prop
noncomputable abbrev WE:=M→Hp→QV→QX→Prop
noncomputable abbrev WEs:=M→Hp→(List V→Hp→Prop)→QX→Prop
noncomputable abbrev WS:=M→Hp→QS→QX→Prop
structure InstAt(H:Hp)(a:Nat)(c:String)(d:Nat)(fs:List (String×V)):Prop where
 i:H a=some (.inst c d)
 f:H d=some (.flds fs)
inductive KTr(Q:Bool→Hp→Prop)(H:Hp)(v:V):Prop
 |iT {b:Bool}:truthV v=some b→Q b H→KTr Q H v
inductive AttrAt(H:Hp)(f:String)(w:V):V→Prop
 |iAt {a d:Nat} {c:String} {fs:List (String×V)}:InstAt H a c d fs→fldB c f fs=some w→AttrAt H f w (.ref a)
inductive KAttr(Q:QV)(H:Hp)(f:String)(v:V):Prop
 |iA {w:V}:AttrAt H f w v→Q w H→KAttr Q H f v
inductive WBin(Q:QV)(H:Hp):BOp→V→V→Prop
 |iAdd {a b c:Int}:a+b=c→Q (.int c) H→WBin Q H .add (.int a) (.int b)
 |iSub {a b c:Int}:a-b=c→Q (.int c) H→WBin Q H .sub (.int a) (.int b)
 |iMul {a b:Int}:a.natAbs<18446744073709551616→b.natAbs<18446744073709551616→Q (.int (a*b)) H→WBin Q H .mul (.int a) (.int b)
 |iDiv {a b:Int}:0<b→b<1073741824→Q (.int (a/b)) H→WBin Q H .fdiv (.int a) (.int b)
 |iMod {a b:Int}:0<b→Q (.int (a%b)) H→WBin Q H .mod (.int a) (.int b)
 |iAnd {a b:Nat}:Q (.int ((a&&&b:Nat):Int)) H→WBin Q H .and (.int a) (.int b)
 |iOr {a b:Nat}:Q (.int ((a|||b:Nat):Int)) H→WBin Q H .or (.int a) (.int b)
 |iShl {a b:Nat}:b≤1000→a<18446744073709551616→Q (.int ((a*2^b:Nat):Int)) H→WBin Q H .shl (.int a) (.int b)
 |iShr {a b:Nat}:Q (.int ((a/2^b:Nat):Int)) H→WBin Q H .shr (.int a) (.int b)
 |iCat {x y:List Nat}:x.length+y.length≤16777216→Q (.bytes (x++y)) H→WBin Q H .add (.bytes x) (.bytes y)
 |iCatL {a b:Nat} {xs ys:List V}:H a=some (.list xs)→H b=some (.list ys)→xs.length+ys.length≤16777216→(∀r,H r=none→Q (.ref r) (H.put r (.list (xs++ys))))→WBin Q H .add (.ref a) (.ref b)
 |iRep {a n:Nat} {v:V}:H a=some (.list [v])→n≤1048576→(∀r,H r=none→Q (.ref r) (H.put r (.list (List.replicate n v))))→WBin Q H .mul (.ref a) (.int n)
inductive WCmp(Q:QV)(H:Hp)(op:COp):V→V→Prop
 |iStr {a b:String} {r:Bool}:eqO op (decide (a=b))=some r→Q (.bool r) H→WCmp Q H op (.str a) (.str b)
 |iByt {a b:List Nat} {r:Bool}:eqO op (decide (a=b))=some r→Q (.bool r) H→WCmp Q H op (.bytes a) (.bytes b)
 |iBool {a b r:Bool}:eqO op (a == b)=some r→Q (.bool r) H→WCmp Q H op (.bool a) (.bool b)
 |iLst {a b:Nat} {xs ys:List Int} {r:Bool}:H a=some (.list (xs.map .int))→H b=some (.list (ys.map .int))→eqO op (decide (xs=ys))=some r→Q (.bool r) H→WCmp Q H op (.ref a) (.ref b)
inductive It(H:Hp)(n:Nat):V→V→Prop
 |bytes {b:List Nat} {k:Nat}:b[n]?=some k→It H n (.bytes b) (.int (k:Nat))
 |list {a:Nat} {vs:List V} {v:V}:H a=some (.list vs)→vs[n]?=some v→It H n (.ref a) v
 |tuple {a:Nat} {vs:List V} {v:V}:H a=some (.tuple vs)→vs[n]?=some v→It H n (.ref a) v
 |ba {a:Nat} {b:List Nat} {k:Nat}:H a=some (.ba b)→b[n]?=some k→It H n (.ref a) (.int (k:Nat))
inductive KSub(Q:QV)(H:Hp)(x:V):V→Prop
 |iI {n:Nat} {v:V}:n<4294967296→It H n x v→Q v H→KSub Q H x (.int n)
inductive Sz(H:Hp):V→Nat→Prop
 |bytes (b:List Nat):Sz H (.bytes b) b.length
 |list {a:Nat} {vs:List V}:H a=some (.list vs)→Sz H (.ref a) vs.length
 |tuple {a:Nat} {vs:List V}:H a=some (.tuple vs)→Sz H (.ref a) vs.length
 |ba {a:Nat} {b:List Nat}:H a=some (.ba b)→Sz H (.ref a) b.length
inductive KLen(Q:QV)(H:Hp)(v:V):Prop
 |iL {n:Nat}:Sz H v n→n≤16777216→Q (.int n) H→KLen Q H v
inductive WC(Q:QV)(H:Hp)(lo hi:Nat):V→Nat→Prop
 |byt {b:List Nat}:Q (.bytes (cutL b lo hi)) H→WC Q H lo hi (.bytes b) b.length
 |list {a:Nat} {vs:List V}:H a=some (.list vs)→(∀r,H r=none→Q (.ref r) (H.put r (.list (cutL vs lo hi))))→WC Q H lo hi (.ref a) vs.length
inductive KSlf(Q:QV)(H:Hp)(x:V):V→Prop
 |iSlf {k:Int} {lo n:Nat}:okR k→n≤16777216→(if k<0 then n+k else k)=(lo:Int)→WC Q H lo n x n→KSlf Q H x (.int k)
inductive KSlt(Q:QV)(H:Hp)(x:V):V→Prop
 |iSlt {k n:Nat}:k<1099511627776→n≤16777216→WC Q H 0 k x n→KSlt Q H x (.int k)
inductive KSlc(Q:QV)(H:Hp)(x:V):V→V→Prop
 |iSlc {k l n:Nat}:k<1099511627776→l<1099511627776→n≤16777216→WC Q H k l x n→KSlc Q H x (.int k) (.int l)
inductive KMM(Q:QV)(H:Hp)(f:Int→Int→Int):V→V→Prop
 |iMM {a b c:Int}:f a b=c→Q (.int c) H→KMM Q H f (.int a) (.int b)
inductive KMax(Q:QV)(H:Hp):V→Prop
 |iMax {a:Nat} {vs:List V} {i:Int} {is:List Int}:H a=some (.list vs)→intsOf vs=some (i::is)→vs.length≤16777216→Q (.int (is.foldl max i)) H→KMax Q H (.ref a)
inductive LO(Q:QV)(H:Hp):V→Prop
 |iLoB {b:List Nat}:b.length≤16777216→(∀r,H r=none→Q (.ref r) (H.put r (.list (b.map fun (n:Nat)=>.int (n:Int)))))→LO Q H (.bytes b)
 |iLoL {a:Nat} {vs:List V}:H a=some (.list vs)→vs.length≤16777216→(∀r,H r=none→Q (.ref r) (H.put r (.list vs)))→LO Q H (.ref a)
inductive WB(Q:QV)(H:Hp):V→Prop
 |iByB {b:List Nat}:Q (.bytes b) H→WB Q H (.bytes b)
 |iByL {a:Nat} {vs:List V} {is:List Int}:H a=some (.list vs)→vs.length≤16777216→intsOf vs=some is→(∀i∈is,0≤i∧i<256)→Q (.bytes (is.map Int.toNat)) H→WB Q H (.ref a)
 |iByA {a:Nat} {b:List Nat}:H a=some (.ba b)→b.length≤16777216→Q (.bytes b) H→WB Q H (.ref a)
inductive SU(Q:QV)(H:Hp):V→Prop
 |iSuB {b:List Nat}:b.length≤16777216→Q (.int (b.map fun (n:Nat)=>(n:Int)).sum) H→SU Q H (.bytes b)
 |iSuL {a:Nat} {vs:List V} {is:List Int}:H a=some (.list vs)→vs.length≤16777216→intsOf vs=some is→Q (.int is.sum) H→SU Q H (.ref a)
inductive IT(H:Hp):V→Bool→Prop
 |int (i:Int):IT H (.int i) true
 |tup {a:Nat} {vs:List V}:H a=some (.tuple vs)→IT H (.ref a) false
inductive KIs(Q:QV)(H:Hp)(n:Bool)(v:V):Prop
 |iIs {b:Bool}:IT H v b→Q (.bool (b == n)) H→KIs Q H n v
inductive KApp(W:WE)(m:M)(QL QA:Nat→QV)(X:QX)(H:Hp):V→Prop
 |iApL {a:Nat} {vs:List V}:H a=some (.list vs)→W m H (QL a) X→KApp W m QL QA X H (.ref a)
 |iApA {a:Nat} {b:List Nat}:H a=some (.ba b)→W m H (QA a) X→KApp W m QL QA X H (.ref a)
inductive AppL(Q:QV)(a:Nat)(H:Hp)(y:V):Prop
 |iAppL {vs:List V}:H a=some (.list vs)→vs.length<16777000→Q .none (H.put a (.list (vs++[y])))→AppL Q a H y
inductive AppA(Q:QV)(a:Nat)(H:Hp):V→Prop
 |iAppA {b:List Nat} {i:Nat}:H a=some (.ba b)→i<256→b.length<16777000→Q .none (H.put a (.ba (b++[i])))→AppA Q a H (.int i)
inductive ExtL(Q:QV)(a:Nat)(H:Hp):V→Prop
 |iExtL {b:Nat} {vs ws:List V}:H a=some (.list vs)→H b=some (.list ws)→a≠b→vs.length+ws.length<16777000→Q .none (H.put a (.list (vs++ws)))→ExtL Q a H (.ref b)
inductive ExtA(Q:QV)(a:Nat)(H:Hp):V→Prop
 |iExtA {b c:List Nat}:H a=some (.ba b)→b.length+c.length<16777000→Q .none (H.put a (.ba (b++c)))→ExtA Q a H (.bytes c)
inductive KDget(Q:Nat→List (Int×Int)→Prop)(H:Hp):V→Prop
 |iDg {a:Nat} {es:List (Int×Int)}:H a=some (.dict es)→Q a es→KDget Q H (.ref a)
inductive KTk(Q:Nat→Nat→Nat→Nat→Prop)(H:Hp):Option V→Prop
 |iTk {c t cc pp kk:Nat}:H c=some (.cell (some (.ref t)))→H t=some (.taker cc pp kk)→Q t cc pp kk→KTk Q H (some (.ref c))
inductive KCel(Q:QV)(H:Hp):Option V→Prop
 |iCel {c:Nat} {v:V}:H c=some (.cell (some v))→Q v H→KCel Q H (some (.ref c))
inductive KMeth(Q:String→Nat→Prop)(H:Hp)(f:String):V→Prop
 |iMe {a d:Nat} {c:String} {fs:List (String×V)}:InstAt H a c d fs→metB c f fs=true→Q (c++"."++f) a→KMeth Q H f (.ref a)
inductive OV(QI:List V→(Hp→Prop)→Hp→Prop)(H:Hp):V→Prop
 |iOvB {b:List Nat}:b.length≤16777216→QI (b.map fun (n:Nat)=>.int (n:Int)) (fun _=>True) H→OV QI H (.bytes b)
 |iOvL {a:Nat} {vs:List V}:H a=some (.list vs)→vs.length≤16777216→QI vs (fun H'=>H' a=some (.list vs)) H→OV QI H (.ref a)
 |iOvT {a:Nat} {vs:List V}:H a=some (.tuple vs)→vs.length≤16777216→QI vs (fun H'=>H' a=some (.tuple vs)) H→OV QI H (.ref a)
inductive BT(P:M→Prop)(is:List Nat)(m:M)(H:Hp):V→Prop
 |iBT {a:Nat} {vs:List V}:H a=some (.tuple vs)→is.length=vs.length→P ((is.zip vs).foldl (fun m p=>m.set p.1 (some p.2)) m)→BT P is m H (.ref a)
inductive ST2(Q:Hp→Prop)(H:Hp):V→V→V→Prop
 |iSl {a n:Nat} {vs:List V} {v:V}:H a=some (.list vs)→n<vs.length→vs.length≤16777216→Q (H.put a (.list (vs.set n v)))→ST2 Q H (.ref a) (.int n) v
 |iSd {a:Nat} {es:List (Int×Int)} {k j:Int}:H a=some (.dict es)→es.length<1000000→Q (H.put a (.dict (setI k j es)))→ST2 Q H (.ref a) (.int k) (.int j)
inductive KSa(Q:Hp→Prop)(f:String)(v:V)(H:Hp):V→Prop
 |iSa {a d:Nat} {c:String} {fs:List (String×V)}:InstAt H a c d fs→attB c f fs=true→Q (H.put d (.flds (setF f v fs)))→KSa Q f v H (.ref a)
inductive KAsC(Q:Hp→Prop)(v:V)(H:Hp):Option V→Prop
 |iAc {c:Nat} {ov:Option V}:H c=some (.cell ov)→Q (H.put c (.cell (some v)))→KAsC Q v H (some (.ref c))
noncomputable abbrev kFb(I:Nat→M→Hp→Prop)(n:Nat)(Q:QS)(f:Fl)(m:M)(H:Hp):Prop:=match f with
 | .ret r=>Q (.ret r) m H
 |_=>I n m H
noncomputable abbrev kWb(I:Nat→M→Hp→Prop)(n:Nat)(Q:QS)(f:Fl)(m:M)(H:Hp):Prop:=match f with
 | .ret r=>Q (.ret r) m H
 |_=>∃k,k<n∧I k m H
noncomputable def kWh2(B:WS)(I:Nat→M→Hp→Prop)(n:Nat)(m:M)(Q:QS)(X:QX)(b:Bool)(H:Hp):Prop:=bif b then B m H (kWb I n Q) X else Q .next m H
noncomputable def kWh(B:WS)(I:Nat→M→Hp→Prop)(n:Nat)(m:M)(Q:QS)(X:QX)(v:V)(H:Hp):Prop:=KTr (kWh2 B I n m Q X) H v
noncomputable def bindT(t:Tg)(v:V)(m:M)(H:Hp)(P:M→Prop):Prop:=match t with
 | .one i=>P (m.set i (some v))
 | .tup is=>BT P is m H v
inductive WhI(W:WE)(B:WS)(Q:QS)(X:QX)(m:M)(H:Hp):Prop
 |iWh (I:Nat→M→Hp→Prop):(∀n m H,I n m H→W m H (kWh B I n m Q X) X)→{n:Nat}→I n m H→WhI W B Q X m H
inductive ForI(t:Tg)(vs:List V)(G:Hp→Prop)(B:WS)(Q:QS)(X:QX)(m:M)(H:Hp):Prop
 |iFor (I:Nat→M→Hp→Prop):(∀i v m H,vs[i]?=some v→I i m H→G H∧bindT t v m H fun m'=>B m' H (kFb I (i+1) Q) X)→(∀m H,I vs.length m H→G H∧Q .next m H)→I 0 m H→ForI t vs G B Q X m H
inductive CompI(elt:V→Hp→QV→Prop)(vs:List V)(G:Hp→Prop)(Q:List V→Hp→Prop)(H:Hp):Prop
 |iComp (I:Nat→List V→Hp→Prop):(∀i v acc H,vs[i]?=some v→I i acc H→G H∧acc.length<16777000∧elt v H fun x=>I (i+1) (acc++[x]))→(∀acc H,I vs.length acc H→G H∧Q acc H)→I 0 [] H→CompI elt vs G Q H
noncomputable def enumL(i j:Nat)(G:Hp→Prop)(B:M→Hp→QS→Prop)(Q:QS):List V→Nat→M→Hp→Prop
 | [],_,m,H=>G H∧Q .next m H
 |v::vs,k,m,H=>G H∧B ((m.set i (some (.int k))).set j (some v)) H fun f m'' H''=>match f with
   | .ret r=>Q (.ret r) m'' H''
   |_=>enumL i j G B Q vs (k+1) m'' H''
inductive KEn(Q:List V→(Hp→Prop)→Prop)(H:Hp):V→Prop
 |iEn {a:Nat} {vs:List V}:H a=some (.tuple vs)→Q vs (fun H'=>H' a=some (.tuple vs))→KEn Q H (.ref a)
section
variable (C:CT)(W W2 W3:WE)(Ws:WEs)(m:M)(Q:QV)(X:QX)
noncomputable def kO(o:Option V)(H:Hp):Prop:=match o with
  |some v=>Q v H
  |none=>False
noncomputable def kAttr(f:String)(v:V)(H:Hp):Prop:=KAttr Q H f v
noncomputable def kBin2(op:BOp)(x y:V)(H:Hp):Prop:=WBin Q H op x y
noncomputable def kBin(op:BOp)(x:V)(H:Hp):Prop:=W m H (kBin2 Q op x) X
noncomputable def kNeg(v:V)(H:Hp):Prop:=match v with
  | .int i=>Q (.int (-i)) H
  |_=>False
noncomputable def kNot2(b:Bool)(H:Hp):Prop:=Q (.bool (!b)) H
noncomputable def kNot(v:V)(H:Hp):Prop:=KTr (kNot2 Q) H v
noncomputable def kCmp2(op:COp)(x y:V)(H:Hp):Prop:=match cmpV op x y with
  |some r=>Q (.bool r) H
  |none=>WCmp Q H op x y
noncomputable def kCmp(op:COp)(x:V)(H:Hp):Prop:=W m H (kCmp2 Q op x) X
noncomputable def kIte2(b:Bool)(H:Hp):Prop:=bif b then W m H Q X else W2 m H Q X
noncomputable def kIte(v:V)(H:Hp):Prop:=KTr (kIte2 W W2 m Q X) H v
noncomputable def kSub2(x y:V)(H:Hp):Prop:=KSub Q H x y
noncomputable def kSub(x:V)(H:Hp):Prop:=W m H (kSub2 Q x) X
noncomputable def kSlf2(x y:V)(H:Hp):Prop:=KSlf Q H x y
noncomputable def kSlf(x:V)(H:Hp):Prop:=W m H (kSlf2 Q x) X
noncomputable def kSlt2(x y:V)(H:Hp):Prop:=KSlt Q H x y
noncomputable def kSlt(x:V)(H:Hp):Prop:=W m H (kSlt2 Q x) X
noncomputable def kSlc3(x y z:V)(H:Hp):Prop:=KSlc Q H x y z
noncomputable def kSlc2(x y:V)(H:Hp):Prop:=W m H (kSlc3 Q x y) X
noncomputable def kSlc(x:V)(H:Hp):Prop:=W m H (kSlc2 W2 m Q X x) X
noncomputable def kCall(g:String)(vs:List V)(H:Hp):Prop:=C g vs H Q X
noncomputable abbrev kNew2(x:Nat)(r:V)(H:Hp):Prop:=r=.none∧Q (.ref x) H
noncomputable def kNew(c:String)(vs:List V)(H:Hp):Prop:=∀x d,H x=none→H d=none→x≠d→
   C (c++".__init__") (.ref x::vs) ((H.put x (.inst c d)).put d (.flds [])) (kNew2 Q x) X
noncomputable def kMeth2(g:String)(a:Nat)(vs:List V)(H:Hp):Prop:=C g (.ref a::vs) H Q X
noncomputable def kMeth1(H:Hp)(g:String)(a:Nat):Prop:=Ws m H (kMeth2 C Q X g a) X
noncomputable def kMeth(f:String)(v:V)(H:Hp):Prop:=KMeth (kMeth1 C Ws m Q X H) H f v
noncomputable def kLen(v:V)(H:Hp):Prop:=KLen Q H v
noncomputable def kMin2(x y:V)(H:Hp):Prop:=KMM Q H min x y
noncomputable def kMin(x:V)(H:Hp):Prop:=W m H (kMin2 Q x) X
noncomputable def kMax2(x y:V)(H:Hp):Prop:=KMM Q H max x y
noncomputable def kMax(x:V)(H:Hp):Prop:=W m H (kMax2 Q x) X
noncomputable def kMax1(x:V)(H:Hp):Prop:=KMax Q H x
noncomputable def kListOf(x:V)(H:Hp):Prop:=LO Q H x
noncomputable def kBytes(x:V)(H:Hp):Prop:=WB Q H x
noncomputable def kIntOf(x:V)(H:Hp):Prop:=match x with
  | .bool b=>Q (.int (if b then 1 else 0)) H
  |_=>False
noncomputable def kIsInt(x:V)(H:Hp):Prop:=KIs Q H true x
noncomputable def kIsTup(x:V)(H:Hp):Prop:=KIs Q H false x
noncomputable def kSum(x:V)(H:Hp):Prop:=SU Q H x
noncomputable def kLst(vs:List V)(H:Hp):Prop:=∀r,H r=none→Q (.ref r) (H.put r (.list vs))
noncomputable def kTup(vs:List V)(H:Hp):Prop:=∀r,H r=none→Q (.ref r) (H.put r (.tuple vs))
noncomputable def kLvl(x:V)(H:Hp):Prop:=match x with
  | .str s=>Q (.int (lvlOf s)) H
  |_=>False
noncomputable def kAppL(a:Nat)(y:V)(H:Hp):Prop:=AppL Q a H y
noncomputable def kAppA(a:Nat)(y:V)(H:Hp):Prop:=AppA Q a H y
noncomputable def kApp(v:V)(H:Hp):Prop:=KApp W m (kAppL Q) (kAppA Q) X H v
noncomputable def kExtL(a:Nat)(y:V)(H:Hp):Prop:=ExtL Q a H y
noncomputable def kExtA(a:Nat)(y:V)(H:Hp):Prop:=ExtA Q a H y
noncomputable def kExt(v:V)(H:Hp):Prop:=KApp W m (kExtL Q) (kExtA Q) X H v
noncomputable def kDget3(a:Nat)(es:List (Int×Int))(y z:V)(H:Hp):Prop:=H a=some (.dict es)∧kO Q (on2I y z fun i j=>some (.int ((es.lookup i).getD j))) H
noncomputable def kDget2(a:Nat)(es:List (Int×Int))(y:V)(H:Hp):Prop:=W m H (kDget3 Q a es y) X
noncomputable def kDget1(H:Hp)(a:Nat)(es:List (Int×Int)):Prop:=W m H (kDget2 W2 m Q X a es) X
noncomputable def kDget(v:V)(H:Hp):Prop:=KDget (kDget1 W W2 m Q X H) H v
noncomputable def kTake(t cc pp kk:Nat)(x:V)(H':Hp):Prop:=H' t=some (.taker cc pp kk)∧C "take" [.ref cc,.ref pp,.ref kk,x] H' Q X
noncomputable def kTk1(H:Hp)(t cc pp kk:Nat):Prop:=W m H (kTake C Q X t cc pp kk) X
noncomputable def kTk(o:Option V)(H:Hp):Prop:=KTk (kTk1 C W m Q X H) H o
noncomputable def kCel(o:Option V)(H:Hp):Prop:=KCel Q H o
noncomputable def noX:Hp→Prop:=fun _=>False
noncomputable def kList(acc:List V)(H:Hp):Prop:=∀r,H r=none→Q (.ref r) (H.put r (.list acc))
noncomputable def eComp(x n:Nat)(fr:List (Nat×Nat))(v:V)(H:Hp)(Q:QV):Prop:=W ((fr.foldl (fun mc p=>mc.set p.1 (getLoc m p.2)) (List.replicate n none)).set x (some v)) H Q noX
noncomputable def kComp(x n:Nat)(fr:List (Nat×Nat))(vs:List V)(G:Hp→Prop)(H:Hp):Prop:=CompI (eComp W m x n fr) vs G (kList Q) H
noncomputable def kCons(QL:List V→Hp→Prop)(v:V)(vs:List V)(H:Hp):Prop:=QL (v::vs) H
noncomputable def kEs(QL:List V→Hp→Prop)(v:V)(H:Hp):Prop:=Ws m H (kCons QL v) X
noncomputable def kBop2(isAnd:Bool)(v:V)(b:Bool)(H:Hp):Prop:=bif (b == isAnd) then W m H Q X else Q v H
noncomputable def kBop(isAnd:Bool)(v:V)(H:Hp):Prop:=KTr (kBop2 W m Q X isAnd v) H v
end
section
variable (W W2:WE)(m:M)(QI:List V→(Hp→Prop)→Hp→Prop)(X:QX)
noncomputable def kR1(x:V)(H:Hp):Prop:=match x with
  | .int i=>okR i∧QI (rangeL 0 i 1) (fun _=>True) H
  |_=>False
noncomputable def kR22(x y:V)(H:Hp):Prop:=match x,y with
  | .int i,.int j=>okR i∧okR j∧QI (rangeL i j 1) (fun _=>True) H
  |_,_=>False
noncomputable def kR2(x:V)(H:Hp):Prop:=W m H (kR22 QI x) X
noncomputable def kR33(x y z:V)(H:Hp):Prop:=match x,y,z with
  | .int i,.int j,.int k=>okR i∧okR j∧k.natAbs<1073741824∧k≠0∧QI (rangeL i j k) (fun _=>True) H
  |_,_,_=>False
noncomputable def kR32(x y:V)(H:Hp):Prop:=W m H (kR33 QI x y) X
noncomputable def kR3(x:V)(H:Hp):Prop:=W m H (kR32 W2 m QI X x) X
noncomputable def kOver(x:V)(H:Hp):Prop:=OV QI H x
end
mutual
noncomputable def wE(C:CT):ME→M→Hp→(V→Hp→Prop)→(Hp→Prop)→Prop
 | .loc i,m,H,Q,_=>kO Q (getLoc m i) H
 | .cel i,m,H,Q,_=>kCel Q (getLoc m i) H
 | .cst v,_,H,Q,_=>Q v H
 | .gint _ i,_,H,Q,_=>Q (.int i) H
 | .attr e f,m,H,Q,X=>wE C e m H (kAttr Q f) X
 | .bin op a b,m,H,Q,X=>wE C a m H (kBin (wE C b) m Q X op) X
 | .neg e,m,H,Q,X=>wE C e m H (kNeg Q) X
 | .not e,m,H,Q,X=>wE C e m H (kNot Q) X
 | .cmp op a b,m,H,Q,X=>wE C a m H (kCmp (wE C b) m Q X op) X
 | .bop isAnd es,m,H,Q,X=>wBop C isAnd es m H Q X
 | .ite c t e,m,H,Q,X=>wE C c m H (kIte (wE C t) (wE C e) m Q X) X
 | .sub e i,m,H,Q,X=>wE C e m H (kSub (wE C i) m Q X) X
 | .slcFrom e lo,m,H,Q,X=>wE C e m H (kSlf (wE C lo) m Q X) X
 | .slcTo e hi,m,H,Q,X=>wE C e m H (kSlt (wE C hi) m Q X) X
 | .slc e lo hi,m,H,Q,X=>wE C e m H (kSlc (wE C lo) (wE C hi) m Q X) X
 | .call g es,m,H,Q,X=>wEs C es m H (kCall C Q X g) X
 | .new c es,m,H,Q,X=>wEs C es m H (kNew C Q X c) X
 | .meth e f es,m,H,Q,X=>wE C e m H (kMeth C (wEs C es) m Q X f) X
 | .len e,m,H,Q,X=>wE C e m H (kLen Q) X
 | .min2 a b,m,H,Q,X=>wE C a m H (kMin (wE C b) m Q X) X
 | .max2 a b,m,H,Q,X=>wE C a m H (kMax (wE C b) m Q X) X
 | .max1 e,m,H,Q,X=>wE C e m H (kMax1 Q) X
 | .listOf e,m,H,Q,X=>wE C e m H (kListOf Q) X
 | .bytesOf e,m,H,Q,X=>wE C e m H (kBytes Q) X
 | .newBA,_,H,Q,_=>∀r,H r=none→Q (.ref r) (H.put r (.ba []))
 | .intOf e,m,H,Q,X=>wE C e m H (kIntOf Q) X
 | .isInt e,m,H,Q,X=>wE C e m H (kIsInt Q) X
 | .isTup e,m,H,Q,X=>wE C e m H (kIsTup Q) X
 | .sum e,m,H,Q,X=>wE C e m H (kSum Q) X
 | .lst es,m,H,Q,X=>wEs C es m H (kLst Q) X
 | .tup es,m,H,Q,X=>wEs C es m H (kTup Q) X
 | .dict0,_,H,Q,_=>∀r,H r=none→Q (.ref r) (H.put r (.dict []))
 | .lvl e,m,H,Q,X=>wE C e m H (kLvl Q) X
 | .app e x,m,H,Q,X=>wE C e m H (kApp (wE C x) m Q X) X
 | .ext e x,m,H,Q,X=>wE C e m H (kExt (wE C x) m Q X) X
 | .dget e k d,m,H,Q,X=>wE C e m H (kDget (wE C k) (wE C d) m Q X) X
 | .take i e,m,H,Q,X=>kTk C (wE C e) m Q X (getLoc m i) H
 | .comp elt it x n fr,m,H,Q,X=>(fr.all fun p=>(getLoc m p.2).isSome)=true∧x<n∧wI C it m H (kComp (wE C elt) m Q x n fr) X
 | .any,_,_,_,_=>False
noncomputable def wEs(C:CT):MEs→M→Hp→(List V→Hp→Prop)→(Hp→Prop)→Prop
 | .nil,_,H,Q,_=>Q [] H
 | .cons e es,m,H,Q,X=>wE C e m H (kEs (wEs C es) m X Q) X
noncomputable def wBop(C:CT)(isAnd:Bool):MEs→M→Hp→(V→Hp→Prop)→(Hp→Prop)→Prop
 | .nil,_,_,_,_=>False
 | .cons e .nil,m,H,Q,X=>wE C e m H Q X
 | .cons e es,m,H,Q,X=>wE C e m H (kBop (wBop C isAnd es) m Q X isAnd) X
noncomputable def wI(C:CT):MI→M→Hp→(List V→(Hp→Prop)→Hp→Prop)→(Hp→Prop)→Prop
 | .range1 a,m,H,Q,X=>wE C a m H (kR1 Q) X
 | .range2 a b,m,H,Q,X=>wE C a m H (kR2 (wE C b) m Q X) X
 | .range3 a b c,m,H,Q,X=>wE C a m H (kR3 (wE C b) (wE C c) m Q X) X
 | .over e,m,H,Q,X=>wE C e m H (kOver Q) X
end
section
variable (W W2 W3:WE)(B B2:WS)(m:M)(Q:QS)(X:QX)
noncomputable def kNext(H:Hp):Prop:=Q .next m H
noncomputable def kAsg(i:Nat)(v:V)(H:Hp):Prop:=Q .next (m.set i (some v)) H
noncomputable def kAsgC(i:Nat)(v:V)(H:Hp):Prop:=KAsC (kNext m Q) v H (getLoc m i)
noncomputable def kSa2(f:String)(v x:V)(H:Hp):Prop:=KSa (kNext m Q) f v H x
noncomputable def kSa(f:String)(v:V)(H:Hp):Prop:=W m H (kSa2 m Q f v) X
noncomputable def kSs3(v x y:V)(H:Hp):Prop:=ST2 (kNext m Q) H x y v
noncomputable def kSs2(v x:V)(H:Hp):Prop:=W m H (kSs3 m Q v x) X
noncomputable def kSs(v:V)(H:Hp):Prop:=W m H (kSs2 W2 m Q X v) X
noncomputable def kUnp(is:List Nat)(v:V)(H:Hp):Prop:=BT (fun m'=>Q .next m' H) is m H v
noncomputable def kAug(i:Nat)(op:BOp)(x y:V)(H:Hp):Prop:=match augV op x y with
   |some v=>Q .next (m.set i (some v)) H
   |none=>False
noncomputable def kAugL(i:Nat)(op:BOp)(o:Option V)(H:Hp):Prop:=match o with
  |some x=>W m H (kAug m Q i op x) X
  |none=>False
noncomputable def kAs3(op:BOp)(x y z u:V)(H:Hp):Prop:=match augV op z u with
   |some v=>ST2 (kNext m Q) H x y v
   |none=>False
noncomputable def kAs1(op:BOp)(x y z:V)(H:Hp):Prop:=W m H (kAs3 m Q op x y z) X
noncomputable def kAs2(op:BOp)(x y:V)(H:Hp):Prop:=KSub (kAs1 W m Q X op x y) H x y
noncomputable def kAs(op:BOp)(x:V)(H:Hp):Prop:=W m H (kAs2 W2 m Q X op x) X
noncomputable def sB(m:M)(H:Hp)(Q:QS):Prop:=B m H Q X
noncomputable def kFor(t:Tg)(vs:List V)(G:Hp→Prop)(H:Hp):Prop:=ForI t vs G B Q X m H
noncomputable def kEnum2(i j:Nat)(H:Hp)(vs:List V)(G:Hp→Prop):Prop:=enumL i j G (sB B X) Q vs 0 m H
noncomputable def kEnum(i j:Nat)(x:V)(H:Hp):Prop:=KEn (kEnum2 B m Q X i j H) H x
noncomputable def kIf2(b:Bool)(H:Hp):Prop:=bif b then B m H Q X else B2 m H Q X
noncomputable def kIf(v:V)(H:Hp):Prop:=KTr (kIf2 B B2 m Q X) H v
noncomputable def kRet(v:V)(H:Hp):Prop:=Q (.ret v) m H
noncomputable def kRet0(H:Hp):Prop:=Q (.ret .none) m H
noncomputable abbrev kExpr(v:V)(H:Hp):Prop:=(∀a,v≠.ref a)∧Q .next m H
noncomputable def kRaise(_:List V)(H:Hp):Prop:=X H
noncomputable abbrev kSeq(f:Fl)(m:M)(H:Hp):Prop:=match f with
  | .next=>B m H Q X
  |f=>Q f m H
end
mutual
noncomputable def wS(C:CT):MS→M→Hp→(Fl→M→Hp→Prop)→(Hp→Prop)→Prop
 | .asg i e,m,H,Q,X=>wE C e m H (kAsg m Q i) X
 | .asgC i e,m,H,Q,X=>wE C e m H (kAsgC m Q i) X
 | .setattr o f e,m,H,Q,X=>wE C e m H (kSa (wE C o) m Q X f) X
 | .setsub o i e,m,H,Q,X=>wE C e m H (kSs (wE C o) (wE C i) m Q X) X
 | .unpack is e,m,H,Q,X=>wE C e m H (kUnp m Q is) X
 | .aug i op e,m,H,Q,X=>kAugL (wE C e) m Q X i op (getLoc m i) H
 | .augsub o i op e,m,H,Q,X=>wE C o m H (kAs (wE C i) (wE C e) m Q X op) X
 | .for_ t it b,m,H,Q,X=>wI C it m H (kFor (wSs C b) m Q X t) X
 | .forEnum i j e b,m,H,Q,X=>wE C e m H (kEnum (wSs C b) m Q X i j) X
 | .while_ c b,m,H,Q,X=>WhI (wE C c) (wSs C b) Q X m H
 | .if_ c t e,m,H,Q,X=>wE C c m H (kIf (wSs C t) (wSs C e) m Q X) X
 | .ret e,m,H,Q,X=>wE C e m H (kRet m Q) X
 | .ret0,m,H,Q,_=>Q (.ret .none) m H
 | .cont,m,H,Q,_=>Q .cont m H
 | .expr e,m,H,Q,X=>wE C e m H (kExpr m Q) X
 | .raise es,m,H,_,X=>wEs C es m H (kRaise X) X
 | .tryRet e,m,H,Q,_=>wE C e m H (kRet m Q) (kRet0 m Q)
 | .any,_,_,_,_=>False
noncomputable def wSs(C:CT):MSs→M→Hp→(Fl→M→Hp→Prop)→(Hp→Prop)→Prop
 | .nil,m,H,Q,_=>Q .next m H
 | .cons s ss,m,H,Q,X=>wS C s m H (kSeq (wSs C ss) Q X) X
end
noncomputable abbrev kBody(Q:QV)(f:Fl)(_:M)(H:Hp):Prop:=match f with
  | .ret v=>Q v H
  |_=>Q .none H
theorem noS{α:Type}{v:α}{P:Prop}(h:none=some v):P:=nomatch h
theorem sI{α:Type}{a b:α}(h:some a=some b):a=b:=Option.some.inj h
noncomputable def wBody(C:CT)(b:MSs)(m:M)(H:Hp)(Q:V→Hp→Prop)(X:Hp→Prop):Prop:=wSs C b m H (kBody Q) X
noncomputable def Does.initMP(n:Nat)(xs:List V):M:=xs.map some++List.replicate (n-xs.length) none
noncomputable def enterP(xs:List V)(K:M→Hp→Prop):List Nat→M→Hp→Prop
 | [],m,H=>K m H
 |i::cs,m,H=>∀c,H c=none→enterP xs K cs (m.set i (some (.ref c))) (H.put c (.cell xs[i]?))
end
end Mine
end
section
open PySem PySem.W PyProof.Rows PySem.Calls PySem.Spec
namespace Mine
section
noncomputable abbrev VQ:=Value→Shared→Prop
noncomputable abbrev SM:=Str→Option Value
noncomputable def okC:Code→Bool
 | .builtin id _ => !Builtin.Bytes.decodersThatHold.contains id
 |_=>true
noncomputable def BelowC(Γ:PySem.Ctx)(A:Around):Prop:=Γ.Below A∧∀x∈Γ.below,okC x.1=true
noncomputable def InC(Γ:PySem.Ctx)(A:Around):Prop:=Γ.In A∧okC Γ.code=true∧∀x∈Γ.below,okC x.1=true
noncomputable def wpC{α:Type}(M:Model)(A:Around)(t:Sem α)(Q:α→Shared→Prop)(E:VQ)(s:Shared):Prop:=
 ∀Γ p,InC Γ A→Sem.wp M Γ t (fun a _ s'=>Q a s') (fun e _ s'=>E e s') p s
noncomputable def codeC(M:Model)(A:Around)(c:Code)(R:Result→Shared→Prop)(s:Shared):Prop:=
 ∀Γ p,Γ.code=c→BelowC Γ A→wpCode M Γ R p s
theorem BelowC.in{Γ:PySem.Ctx}{A:Around}(h:BelowC Γ A)(hc:okC Γ.code=true):InC Γ (A.under Γ.code):=⟨h.1.in,hc,h.2⟩
theorem InC.enter{Γ:PySem.Ctx}{A:Around}(h:InC Γ A)(c:Code)(hd:Option Value)(p:Pos)(hnb:hd≠some byPass):BelowC (Γ.enter c hd p) (A.mark hd):=
 ⟨h.1.enter c hd p hnb,fun x hx=>by
  rcases List.mem_cons.mp (show x∈(Γ.code,p)::Γ.below from hx) with rfl |hx
  ·exact h.2.1
  ·exact h.2.2 x hx⟩
theorem BelowC.goto{Γ:PySem.Ctx}{A:Around}(h:BelowC Γ A)(c:Code):BelowC (Γ.goto c) A:=⟨h.1.goto c,h.2⟩
section
variable {α β:Type}{M:Model}{A:Around}{E:VQ}{s:Shared}
theorem wpC.of{t:Sem α}{Q:α→Shared→Prop}(h:wpAny M A t Q E s):wpC M A t Q E s:=fun Γ p hΓ=>h Γ p hΓ.1
theorem cpure{a:α}{Q:α→Shared→Prop}(h:Q a s):wpC M A (pure a) Q E s:=fun _ _ _=>h
theorem cmono{t:Sem α}{Q Q':α→Shared→Prop}{E':VQ}(h:wpC M A t Q E s)(hQ:∀a s,Q a s→Q' a s)(hE:∀e s,E e s→E' e s):wpC M A t Q' E' s:=
 fun Γ p hΓ=>Sem.wp_mono M Γ t (fun a _ s=>hQ a s) (fun e _ s=>hE e s) p s (h Γ p hΓ)
theorem cbind{m:Sem α}{f:α→Sem β}{Q:β→Shared→Prop}(h:wpC M A m (fun a s'=>wpC M A (f a) Q E s') E s):wpC M A (m >>= f) Q E s:=fun Γ p hΓ=>by
 rw [Sem.wp_bind']
 exact Sem.wp_mono M Γ m (fun a p' s' h'=>h' Γ p' hΓ) (fun _ _ _ h'=>h') p s (h Γ p hΓ)
theorem cbindOf{m:Sem α}{f:α→Sem β}{Q:β→Shared→Prop}(h:wpAny M A m (fun a s'=>wpC M A (f a) Q E s') E s):wpC M A (m >>= f) Q E s:=cbind (.of h)
theorem wpC_onRaise{m:Sem α}{k:Value→Sem Unit}{Q:α→Shared→Prop}(h:wpC M A m Q (fun e s'=>wpC M A (k e) (fun _ s''=>E e s'') E s') s):wpC M A (m.onRaise k) Q E s:=fun Γ p hΓ=>by
 rw [Sem.wp_onRaise]
 exact Sem.wp_mono M Γ m (fun _ _ _ h'=>h') (fun e p' s' h'=>h' Γ p' hΓ) p s (h Γ p hΓ)
theorem wpC_attempt{m:Sem α}{Q:Except Value α→Shared→Prop}(h:wpC M A m (fun a=>Q (.ok a)) (fun e=>Q (.error e)) s):wpC M A m.attempt Q E s:=fun Γ p hΓ=>by
 rw [Sem.wp_attempt];exact h Γ p hΓ
theorem chold{vs:List Value}{m:Sem α}{Q:α→Shared→Prop}(h:wpC M A m Q E s):wpC M A (holding vs m) Q E s:=fun Γ p hΓ=>by rw [Sem.wp_holding];exact h Γ p hΓ
theorem wpC_keep{vs:List Value}{m:Sem α}{Q:α→Shared→Prop}(h:wpC M A m Q E s):wpC M A (m.keep vs) Q E s:=fun Γ p hΓ=>by rw [Sem.wp_keep];exact h Γ p hΓ
theorem wpC_operate{vs:List Value}{m:Sem Value}{Q:VQ}(h:wpC M A m Q E s):wpC M A (operate vs m) Q E s:=fun Γ p hΓ=>by rw [Sem.wp_operate];exact h Γ p hΓ
theorem cstand{pos:Pos}{Q:Unit→Shared→Prop}(h:Q () s):wpC M A (standAt pos) Q E s:=.of (wpAny_standAt h)
theorem wpC_point{Q:Unit→Shared→Prop}(h:Q () s):wpC M A point Q E s:=.of (wpAny_point h)
theorem wpC_run{c:Code}{h:Option Value}{Q:Flow→Shared→Prop}
  (hc:codeC M (A.mark h) c (fun r s'=>match r with | .ok f=>Q f s' | .error e=>E e s') s)(hnb:h≠some byPass:=by intro x;cases x):wpC M A (run c h) Q E s:=
 fun Γ p hΓ=>by rw [Sem.wp_run];exact hc _ p rfl (hΓ.enter c h p hnb)
theorem wpC_runValue{c:Code}{Q:VQ}
  (hc:codeC M A c (fun r s'=>match r with | .ok (.ret v)=>Q v s' | .ok _=>False | .error e=>E e s') s):wpC M A (runValue c) Q E s:=fun Γ p hΓ=>by
 rw [Sem.wp_runValue];exact hc _ p rfl (hΓ.enter c none p (by intro x;cases x))
theorem ccall{f:Value}{pos:List Value}{kw:List (Str×Value)}{Q:VQ}
  (hc:codeC M A (.call f ⟨pos,kw⟩) (fun r s'=>match r with | .ok (.ret v)=>Q v s' | .ok _=>False | .error e=>E e s') s):wpC M A (call f pos kw) Q E s:=wpC_runValue hc
theorem codeC_mono{c:Code}{R R':Result→Shared→Prop}(h:codeC M A c R s)(hR:∀r s,R r s→R' r s):codeC M A c R' s:=fun Γ p hc hΓ=>wpCode_mono hR (h Γ p hc hΓ)
noncomputable abbrev finC(M:Model)(A:Around)(R:Result→Shared→Prop):Fin→Shared→Prop:=fun fin s'=>match fin with
 | .done f=>R (.ok f) s'
 | .again c'=>c'.quiet=true∧codeC M A c' R s'
theorem codeC_of_tree{c:Code}{R:Result→Shared→Prop}(hc:okC c=true)(h:wpC M (A.under c) (M.den c) (finC M A R) (fun e s'=>R (.error e) s') s):codeC M A c R s:=fun Γ p hcode hΓ=>by
 rw [wpCode_iff_wp,hcode]
 refine Sem.wp_mono M Γ _ (fun fin p' s' h'=>?_) (fun _ _ _ h'=>h') p s (h Γ p (hcode▸hΓ.in (hcode▸hc)))
 cases fin with
 |done f=>exact h'
 |again c'=>exact ⟨h'.1,h'.2 (Γ.goto c') p' rfl (hΓ.goto c')⟩
theorem codeC_loop{c:Code}{R:Result→Shared→Prop}(hok:okC c=true)(hq:c.quiet=true)(I:Nat→Shared→Prop)
  (turn:∀n s,I n s→wpC M (A.under c) (M.den c) (fun fin s'=>match fin with | .done f=>R (.ok f) s' | .again c'=>(c'=c∧∃m,m<n∧I m s')∨(c'.quiet=true∧codeC M A c' R s')) (fun e s'=>R (.error e) s') s)
  (n:Nat)(h:I n s):codeC M A c R s:=by
 induction n using Nat.strongRecOn generalizing s with
 |ind n ih=>
  refine codeC_of_tree hok (cmono (turn n s h) (fun fin s' hf=>?_) fun _ _ h'=>h')
  cases fin with
  |done f=>exact hf
  |again c'=>
   rcases hf with ⟨rfl,m,hm,hI⟩ |hf
   ·exact ⟨hq,ih m hm hI⟩
   ·exact hf
theorem wpC_of_eq{t:Sem α}{a:α}{Q:α→Shared→Prop}(h:t=pure a)(hQ:Q a s):wpC M A t Q E s:=h▸cpure hQ
theorem wpC_runOwn{env:Env}{c:Code}{h:Option Value}{Q:Flow→Shared→Prop}
  (hc:codeC M (A.mark h) c (fun r s'=>match r with | .ok f=>Q f s' | .error e=>cameBackBy M A env E e s') s)(hnb:h≠some byPass:=by intro x;cases x):wpC M A (runOwn c env h) Q E s:=by
 unfold runOwn
 exact wpC_onRaise (cmono (wpC_run (E:=fun e s'=>cameBackBy M A env E e s') hc hnb) (fun _ _ q=>q) fun _ _ q=>.of q)
theorem wpC_noted{env:Env}{m:Sem α}{Q:α→Shared→Prop}(h:wpC M A m Q (notedBy M A env E) s):wpC M A (m.onRaise fun x=>do noteFrame x env;theTreesLotGoes x) Q E s:=
 wpC_onRaise (cmono h (fun _ _ q=>q) fun _ _ hx=>.of (wpAny_bind (wpAny_mono hx (fun _ _ e=>wpAny_theTreesLotGoes e) fun _ _ e=>e)))
theorem wpC_passesOwn{env:Env}{t:Sem α}{Q:α→Shared→Prop}(hE:PassesOwn M A env E)(h:wpC M A t Q E s):wpC M A t Q (notedBy M A env (cameBackBy M A env E)) s:=
 cmono h (fun _ _ x=>x) hE
theorem dRec{p:Prop}{d:Decidable p}(h:¬p){e:¬p→Bool}{t:p→Bool}:@Decidable.rec p (fun _=>Bool) e t d=e h:=by
 cases d with
 |isTrue q=>exact absurd q h
 |isFalse q=>rfl
theorem wpC_exported{v:Value}{Q:Bool→Shared→Prop}(hg:A.guards=some [])(h:Q false s):wpC M A (Builtin.Bytes.exported v) Q E s:=fun Γ p hΓ=>by
 obtain ⟨h1,h2,h3⟩:=hΓ
 obtain hgd:∀x∈(Γ.code,p)::Γ.below,x.1.isGuard=false:=by
  intro x hx
  obtain e:=h1.2.2.2.1 [] hg
  cases q:x.1.isGuard with
  |false=>rfl
  |true=>
   have:x.1∈guardsOf ((Γ.code,p)::Γ.below):=List.mem_filter.mpr ⟨List.mem_map_of_mem hx,q⟩
   simp only [guardsOf_cons,e]at this
   exact nomatch this
 have hok:∀x∈(Γ.code,p)::Γ.below,okC x.1=true:=by
  intro x hx
  rcases List.mem_cons.mp hx with rfl |hx
  ·exact h2
  ·exact h3 x hx
 show Q (((Γ.code,p)::Γ.below).any _) s
 rw [List.any_eq_false.mpr]
 ·exact h
 ·intro x hx
  obtain ⟨c,q⟩:=x
  have a1:=hgd _ hx
  have a2:=hok _ hx
  cases c with
  |builtin id as=>
   obtain ⟨ps,kw⟩:=as
   obtain n:∀i∈guardIds,id≠i:=fun i hi e=>by
    have a3:guardIds.contains id=false:=a1
    rw [e,List.contains_iff_mem.mpr hi]at a3;exact nomatch a3
   obtain a4:Builtin.Bytes.decodersThatHold.contains id=false:=Bool.not_eq_true' _▸a2
   obtain g1:=n "bytearray.__contains__" (by decide)
   obtain g2:=n "bytearray.__mod__" (by decide)
   obtain g3:=n "bytearray.__rmod__" (by decide)
   obtain g4:=n "_struct.pack_into.held" (by decide)
   obtain g5:=n "bytearray.find.held" (by decide)
   refine fun e=>Bool.false_ne_true (Eq.trans (Eq.symm ?_) e)
   delta Builtin.Bytes.exported.match_1
   refine (dif_neg g1).trans ?_
   refine (dif_neg g2).trans ?_
   refine (dif_neg g3).trans ?_
   refine (dif_neg g4).trans ?_
   refine (dif_neg g5).trans ?_
   cases ps with
   |nil=>rfl
   |cons u r=>exact (congrArg (Builtin.Bytes.sameRef u v && ·) a4).trans (Bool.and_false _)
  |_=>exact Bool.false_ne_true
end
end
section
section
variable {M:Model}{A:Around}{E:VQ}{s:Shared}{env:Env}
theorem c_bindName{x:Str}{v:Value}{Q:Unit→Shared→Prop}(h:wpC M A (storeName env x v) Q E s):wpC M A (bindName env x v) Q E s:=by
 unfold bindName
 exact cbind (chold (wpC_point (cbind (cmono h (fun _ _ q=>wpC_point q) fun _ _ q=>q))))
theorem c_BinOp{l r:Expr}{op pos}{Q:VQ}(h:wpC M A (eval l env) (fun a s₁=>wpC M A (eval r env) (fun b s₂=>wpC M A (binaryOp op a b) Q E s₂) E s₁) E s):wpC M A (eval (.BinOp l op r pos) env) Q E s:=by
 simp only [eval_BinOp]
 exact cbind (cmono h (fun a s₁ h₁=>cbind (chold (cmono h₁ (fun b s₂ h₂=>cbind (cstand (wpC_operate h₂))) fun _ _ q=>q))) fun _ _ q=>q)
theorem c_UnaryOp{op pos}{x:Expr}{Q:VQ}(h:wpC M A (eval x env) (fun v s₁=>wpC M A (unaryOp op v) Q E s₁) E s):wpC M A (eval (.UnaryOp op x pos) env) Q E s:=by
 simp only [eval_UnaryOp]
 exact cbind (cmono h (fun v s₁ h₁=>cbind (cstand (chold h₁))) fun _ _ q=>q)
theorem c_isTrue_plain{e:Expr}{whole:Sem Value}{Q:Bool→Shared→Prop}(h:wpC M A whole (fun v s₁=>wpC M A (truthy v) Q E s₁) E s)
  (he:isTrue e env whole=(do let v←whole;standAt e.pos;holding [v] (truthy v))):wpC M A (isTrue e env whole) Q E s:=by
 rw [he]
 exact cbind (cmono h (fun v s₁ h₁=>cbind (cstand (chold h₁))) fun _ _ q=>q)
theorem c_isTrue_not{x:Expr}{pos whole}{Q:Bool→Shared→Prop}(h:wpC M A (isTrue x env (eval x env)) (fun c s'=>Q (!c) s') E s):wpC M A (isTrue (.UnaryOp .Not x pos) env whole) Q E s:=by
 show wpC M A (do return !(←isTrue x env (eval x env))) Q E s
 exact cbind (cmono h (fun c s' h'=>cpure h') fun _ _ q=>q)
theorem c_Compare1{l r:Expr}{op pos}{Q:VQ}(h:wpC M A (eval l env) (fun a s₁=>wpC M A (eval r env) (fun b s₂=>wpC M A (compareOp op a b) Q E s₂) E s₁) E s)
  (hm:behindInMarks op r=false):wpC M A (eval (.Compare l [op] [r] pos) env) Q E s:=by
 rw [eval_Compare1,markedBehindIn_of_false hm]
 exact cbind (cmono h (fun a s₁ h₁=>cbind (chold (cmono h₁ (fun b s₂ h₂=>cbind (cstand (wpC_operate h₂))) fun _ _ q=>q))) fun _ _ q=>q)
theorem c_isTrue_Compare1{l r:Expr}{op pos whole}{Q:Bool→Shared→Prop}(h:wpC M A (eval l env) (fun a s₁=>wpC M A (eval r env) (fun b s₂=>wpC M A (compareOp op a b) (fun c s₃=>wpC M A (truthy c) Q E s₃) E s₂) E s₁) E s)
  (hm:behindInMarks op r=false):wpC M A (isTrue (.Compare l [op] [r] pos) env whole) Q E s:=by
 rw [isTrue_Compare1,markedBehindIn_of_false hm]
 exact cbind (cmono h (fun a s₁ h₁=>cbind (chold (cmono h₁ (fun b s₂ h₂=>cbind (cstand (cbind (wpC_operate (cmono h₂ (fun c s₃ h₃=>chold h₃) fun _ _ q=>q))))) fun _ _ q=>q))) fun _ _ q=>q)
theorem c_IfExp{test body orelse:Expr}{pos}{Q:VQ}(h:wpC M A (isTrue test env (eval test env)) (fun c s₂=>if c then wpC M A (eval body env) Q E s₂ else wpC M A (eval orelse env) Q E s₂) E s) :
  wpC M A (eval (.IfExp test body orelse pos) env) Q E s:=by
 simp only [eval_IfExp]
 refine cbind (cmono h (fun c s₂ h₂=>?_) fun _ _ q=>q)
 cases c <;> exact h₂
theorem c_BoolOp_and{e₁ e₂:Expr}{rest pos}{Q:VQ}
  (h:wpC M A (eval e₁ env) (fun v s₁=>wpC M A (truthy v) (fun c s₂=>if c then wpC M A (eval (.BoolOp .And (e₂::rest) pos) env) Q E s₂ else Q v s₂) E s₁) E s):wpC M A (eval (.BoolOp .And (e₁::e₂::rest) pos) env) Q E s:=by
 show wpC M A (do
  let v←eval e₁ env
  standAt pos
  let c←holding [v] (truthy v)
  match BoolOp.And,c with
  | .And,false | .Or,true=>pure v
  |_,_=>boolOp pos .And (eval e₂ env::evalEach rest env)) Q E s
 refine cbind (cmono h (fun v s₁ h₁=>cbind (cstand (cbind (chold (cmono h₁ (fun c s₂ h₂=>?_) fun _ _ q=>q))))) fun _ _ q=>q)
 cases c with
 |false=>exact cpure h₂
 |true=>exact h₂
theorem c_BoolOp_or{e₁ e₂:Expr}{rest pos}{Q:VQ}
  (h:wpC M A (eval e₁ env) (fun v s₁=>wpC M A (truthy v) (fun c s₂=>if c then Q v s₂ else wpC M A (eval (.BoolOp .Or (e₂::rest) pos) env) Q E s₂) E s₁) E s):wpC M A (eval (.BoolOp .Or (e₁::e₂::rest) pos) env) Q E s:=by
 show wpC M A (do
  let v←eval e₁ env
  standAt pos
  let c←holding [v] (truthy v)
  match BoolOp.Or,c with
  | .And,false | .Or,true=>pure v
  |_,_=>boolOp pos .Or (eval e₂ env::evalEach rest env)) Q E s
 refine cbind (cmono h (fun v s₁ h₁=>cbind (cstand (cbind (chold (cmono h₁ (fun c s₂ h₂=>?_) fun _ _ q=>q))))) fun _ _ q=>q)
 cases c with
 |false=>exact h₂
 |true=>exact cpure h₂
theorem c_isTrue_and{x:Expr}{rest pos whole}{Q:Bool→Shared→Prop}(h:wpC M A (isTrue x env (eval x env)) (fun c s'=>if c then wpC M A (isTrue (.BoolOp .And rest pos) env whole) Q E s' else Q false s') E s) :
  wpC M A (isTrue (.BoolOp .And (x::rest) pos) env whole) Q E s:=by
 show wpC M A (do
  match BoolOp.And,←isTrue x env (eval x env) with
  | .And,false=>pure false
  | .Or,true=>pure true
  |_,_=>allTrue .And rest env) Q E s
 refine cbind (cmono h (fun c s' h'=>?_) fun _ _ q=>q)
 cases c with
 |false=>exact cpure h'
 |true=>exact h'
theorem c_isTrue_or{x:Expr}{rest pos whole}{Q:Bool→Shared→Prop}(h:wpC M A (isTrue x env (eval x env)) (fun c s'=>if c then Q true s' else wpC M A (isTrue (.BoolOp .Or rest pos) env whole) Q E s') E s) :
  wpC M A (isTrue (.BoolOp .Or (x::rest) pos) env whole) Q E s:=by
 show wpC M A (do
  match BoolOp.Or,←isTrue x env (eval x env) with
  | .And,false=>pure false
  | .Or,true=>pure true
  |_,_=>allTrue .Or rest env) Q E s
 refine cbind (cmono h (fun c s' h'=>?_) fun _ _ q=>q)
 cases c with
 |false=>exact h'
 |true=>exact cpure h'
theorem c_Subscript{value slice:Expr}{pos}{Q:VQ}(h:wpC M A (eval value env) (fun o s₁=>wpC M A (eval slice env) (fun i s₂=>wpC M A (subscriptTail value slice o i) Q E s₂) E s₁) E s) :
  wpC M A (eval (.Subscript value slice pos) env) Q E s:=by
 exact cbind (cmono h (fun o s₁ h₁=>cbind (chold (cmono h₁ (fun i s₂ h₂=>cbind (cstand h₂)) fun _ _ q=>q))) fun _ _ q=>q)
theorem c_args_nil{pos:Pos}{Q:List Value→Shared→Prop}(h:Q [] s):wpC M A (spliced (backTo pos (starEach [] env))) Q E s:=.of (args_nil h)
theorem c_spliced_cons{x:Sem Value}{rest:List (Bool×Sem Value)}{Q:List Value→Shared→Prop}(h:wpC M A x (fun v s₁=>wpC M A (spliced rest) (fun vs s₂=>Q (v::vs) s₂) E s₁) E s):wpC M A (spliced ((false,x)::rest)) Q E s:=by
 rw [spliced]
 refine cbind (cmono h (fun v s₁ h₁=>?_) fun _ _ q=>q)
 dsimp only [Bool.false_eq_true,if_false]
 exact cbind (cpure (cbind (chold (cmono h₁ (fun vs s₂ h₂=>cpure h₂) fun _ _ q=>q))))
theorem c_args_cons{e:Expr}{rest:List Expr}{pos:Pos}{Q:List Value→Shared→Prop}(h:wpC M A (eval e env) (fun v s₁=>wpC M A (spliced (backTo pos (starEach rest env))) (fun vs s₂=>Q (v::vs) s₂) E s₁) E s)
  (he:starEach (e::rest) env=(false,eval e env)::starEach rest env):wpC M A (spliced (backTo pos (starEach (e::rest) env))) Q E s:=by
 rw [he];exact c_spliced_cons h
theorem c_List{elts:List Expr}{pos:Pos}{Q:VQ}(h:wpC M A (spliced (backTo pos (starEach elts env))) (fun vs s₁=>wpC M A (newList vs) Q E s₁) E s):wpC M A (eval (.List elts pos) env) Q E s:=by
 exact cbind (cstand (cbind h))
theorem c_Tuple{elts:List Expr}{k:Nat}{pos:Pos}{Q:VQ}(h:wpC M A (spliced (backTo pos (starEach elts env))) (fun vs s₁=>wpC M A (newTuple vs) Q E s₁) E s):wpC M A (eval (.Tuple elts k pos) env) Q E s:=by
 exact cbind (cstand (cbind h))
theorem c_Call{x:Str}{np:Pos}{args:List Expr}{pos:Pos}{Q:VQ}(h:wpC M A (eval (.Name x np) env) (fun f s₁=>wpC M A (callWith pos f [] (backTo pos (starEach args env)) []) Q E s₁) E s):wpC M A (eval (.Call (.Name x np) args [] pos) env) Q E s:=by
 exact cbind h
theorem c_evalArgs_plain{f:Value}{x:Sem Value}{rest:List (Bool×Sem Value)}{Q:Args→Shared→Prop}(h:wpC M A (spliced ((false,x)::rest)) (fun vs s'=>Q ⟨vs,[]⟩ s') E s):wpC M A (evalArgs f true ((false,x)::rest) []) Q E s:=by
 show wpC M A (spliced ((false,x)::rest) >>= _) Q E s
 refine cbind (cmono h (fun vs s' h'=>?_) fun _ _ q=>q)
 refine chold ?_
 exact cbind (cpure (cbind (cpure (cpure h'))))
theorem c_callWith_of{P:Heap→Prop}{f:Value}{first:List Value}{pos:Pos}{Q:VQ}{args:List (Bool×Sem Value)}{keywords:List (Option Str×Sem Value)}(hplain:(args.any (·.1)||keywords.any (·.1.isNone))=false)
  (hk:∀h,P h→∃k,(k=Keeper.frame∨k=Keeper.machine∨k=Keeper.boundFrame)∧Looks M h (keeperOf f) k)
  (h:wpC M A (evalArgs f true args keywords) (fun a s₁=>P s₁.heap∧wpC M A (call f (first++a.pos) a.kw) Q E s₁) E s):wpC M A (callWith pos f first args keywords) Q E s:=by
 unfold callWith
 refine cbind (chold (cmono h (fun a s₁ h₁=>cbind (cstand ?_)) fun _ _ q=>q))
 refine Classical.byContradiction fun no=>?_
 obtain ⟨k,hk',L⟩:=hk _ h₁.1
 refine no ?_
 simp only [hplain]
 refine cbindOf (L.here ?_)
 have tail:∀{t:Sem Value},wpC M A t Q E s₁→wpC M A (t >>= fun r=>holding [r] point >>= fun _=>pure r) Q E s₁:=
  fun ht=>cbind (cmono ht (fun r s₂ hr=>cbind (chold (wpC_point (cpure hr)))) fun _ _ q=>q)
 have marked (mk:Value):wpC M A (callMarked mk f (first++a.pos) a.kw) Q E s₁:=by unfold callMarked;exact wpC_keep h₁.2
 rcases hk' with rfl |rfl |rfl <;> dsimp only <;> first |exact tail h₁.2 | (split <;> first |exact tail h₁.2 |exact tail (marked _))
theorem c_callWith_K{K:Frag}{f:Value}{first:List Value}{pos:Pos}{Q:VQ}{e:Expr}{rest:List Expr}(hk:keepIn K f=true)(h:wpC M A (spliced (backTo pos (starEach (e::rest) env))) (fun vs s₁=>K.In s₁.heap∧wpC M A (call f (first++vs)) Q E s₁) E s)
  (he:starEach (e::rest) env=(false,eval e env)::starEach rest env)(hplain:(backTo pos (starEach rest env)).any (·.1)=false):wpC M A (callWith pos f first (backTo pos (starEach (e::rest) env)) []) Q E s:=by
 rw [he]at h⊢
 exact c_callWith_of (by show ((false||(backTo pos (starEach rest env)).any (·.1))||false)=false;rw [hplain];rfl) (keeps_K hk) (c_evalArgs_plain h)
theorem c_callWith_K0{K:Frag}{f:Value}{first:List Value}{pos:Pos}{Q:VQ}(X:K.In s.heap)(hk:keepIn K f=true)(h:wpC M A (call f (first++[])) Q E s):wpC M A (callWith pos f first (backTo pos (starEach [] env)) []) Q E s:=
 c_callWith_of rfl (keeps_K hk) (.of (evalArgs_nil3 ⟨X,h⟩))
theorem c_callWith_B{f:Value}(hf:(∃id,f=.builtin id)∨∃T,f=.type T){first:List Value}{pos:Pos}{Q:VQ}{args:List (Bool×Sem Value)}(hplain:args.any (·.1)=false)
  (h:wpC M A (evalArgs f true args []) (fun a s₁=>wpC M A (call f (first++a.pos) a.kw) Q E s₁) E s):wpC M A (callWith pos f first args []) Q E s:=by
 unfold callWith
 refine cbind (chold (cmono h (fun a s₁ h₁=>cbind (cstand ?_)) fun _ _ q=>q))
 simp only [hplain,List.any_nil,Bool.or_false]
 obtain tail:wpC M A (call f (first++a.pos) a.kw >>= fun r=>holding [r] point >>= fun _=>pure r) Q E s₁:=
  cbind (cmono h₁ (fun r s₂ hr=>cbind (chold (wpC_point (cpure hr)))) fun _ _ q=>q)
 rcases hf with ⟨id,rfl⟩ | ⟨T,rfl⟩
 ·exact cbind (cpure tail)
 ·exact cbind (cpure tail)
theorem c_callWith_B1{f:Value}(hf:(∃id,f=.builtin id)∨∃T,f=.type T){first:List Value}{pos:Pos}{Q:VQ}{e:Expr}{rest:List Expr}(h:wpC M A (spliced (backTo pos (starEach (e::rest) env))) (fun vs s₁=>wpC M A (call f (first++vs)) Q E s₁) E s)
  (he:starEach (e::rest) env=(false,eval e env)::starEach rest env)(hplain:(backTo pos (starEach rest env)).any (·.1)=false):wpC M A (callWith pos f first (backTo pos (starEach (e::rest) env)) []) Q E s:=by
 rw [he]at h⊢
 exact c_callWith_B hf (by show (false||(backTo pos (starEach rest env)).any (·.1))=false;rw [hplain];rfl) (c_evalArgs_plain h)
theorem c_callWith_B0{f:Value}(hf:(∃id,f=.builtin id)∨∃T,f=.type T){first:List Value}{pos:Pos}{Q:VQ}(h:wpC M A (call f (first++[])) Q E s):wpC M A (callWith pos f first (backTo pos (starEach [] env)) []) Q E s:=
 c_callWith_B hf rfl (.of (evalArgs_nil3 h))
theorem c_methodCall{o:Expr}{name:Str}{apos pos:Pos}{args:List Expr}{pl:Sem Bool}{Q:VQ}
  (h:wpC M A (eval o env) (fun ov s₁=>wpC M A (getMethod ov name pl) (fun fx s₂=>wpC M A (callWith pos fx.1 fx.2 (backTo pos (starEach args env)) []) Q E s₂) E s₁) E s)
  (he:eval (.Call (.Attribute o name apos) args [] pos) env=(do
   let ov←eval o env
   standAt apos.atName
   let (f,first)←holding [ov] (getMethod ov name pl)
   callWith pos f first (backTo pos (starEach args env)) (backToKw pos (keywordEach [] env)))):wpC M A (eval (.Call (.Attribute o name apos) args [] pos) env) Q E s:=by
 simp only [he]
 refine cbind (cmono h (fun ov s₁ h₁=>cbind (cstand (cbind (chold (cmono h₁ (fun fx s₂ h₂=>?_) fun _ _ q=>q))))) fun _ _ q=>q)
 exact h₂
theorem c_execs_nil{Q:Flow→Shared→Prop}(h:Q .next s):wpC M A (execs [] env) Q E s:=fun _ _ _=>h
theorem c_execs_cons{st:Stmt}{rest:List Stmt}{Q:Flow→Shared→Prop}(h:wpC M A (exec st env) (fun f s'=>match f with | .next=>wpC M A (execs rest env) Q E s' |f=>Q f s') E s):wpC M A (execs (st::rest) env) Q E s:=by
 rw [execs_cons]
 refine cbind (cmono h (fun f s' h'=>?_) fun _ _ q=>q)
 cases f <;> first |exact h' |exact cpure h'
theorem c_Assign_Name{x:Str}{pos' pos:Pos}{value:Expr}{Q:Flow→Shared→Prop}(h:wpC M A (eval value env) (fun v s₁=>wpC M A (storeName env x v) (fun _=>Q .next) E s₁) E s)
  (hs:swapsWith value (some (.Name x pos')) pos.line env=pure false):wpC M A (exec (.Assign [.Name x pos'] value pos) env) Q E s:=by
 rw [exec_Assign_Name env x pos' value pos hs]
 exact cbind (cstand (cbind (cmono h (fun v s₁ h₁=>cbind (cstand (cbind (cmono (c_bindName h₁) (fun _ _ q=>cpure q) fun _ _ q=>q)))) fun _ _ q=>q)))
theorem c_If{test:Expr}{body orelse:List Stmt}{pos:Pos}{Q:Flow→Shared→Prop}(h:wpC M A (isTrue test env (eval test env)) (fun b s₂=>if b then wpC M A (execs body env) Q E s₂ else wpC M A (execs orelse env) Q E s₂) E s) :
  wpC M A (exec (.If test body orelse pos) env) Q E s:=by
 refine cbind (cstand (cbind (cmono h (fun b s₂ h₂=>?_) fun _ _ q=>q)))
 cases b <;> exact h₂
theorem c_Return{e:Expr}{pos:Pos}{Q:Flow→Shared→Prop}(h:wpC M A (eval e env) (fun v=>Q (.ret v)) E s):wpC M A (exec (.Return (some e) pos) env) Q E s:=by
 simp only [exec_Return_some]
 exact cbind (cstand (cbind (cmono h (fun _ _ q=>cpure q) fun _ _ q=>q)))
theorem c_Expr{e:Expr}{pos:Pos}{Q:Flow→Shared→Prop}(h:wpC M A (eval e env) (fun v s'=>(∀a,v≠.ref a)∧Q .next s') E s)
  (hi:interactive env=false)(hs:swapsWith e none pos.line env=pure false):wpC M A (exec (.Expr e pos) env) Q E s:=by
 rw [exec_Expr env e pos hi hs]
 refine cbind (cstand (cbind (cmono h (fun v s' h'=>?_) fun _ _ q=>q)))
 rw [dropValue_plain h'.1]
 exact cpure h'.2
theorem c_AugAssign_Name{x:Str}{pos' pos:Pos}{op}{value:Expr}{Q:Flow→Shared→Prop}
  (h:wpC M A (loadName env x) (fun old s₁=>wpC M A (eval value env) (fun v s₂=>wpC M A (inplaceOp op old v) (fun r s₃=>wpC M A (storeName env x r) (fun _=>Q .next) E s₃) E s₂) E s₁) E s) :
  wpC M A (exec (.AugAssign (.Name x pos') op value pos) env) Q E s:=by
 exact cbind (cstand (cbind (cmono h (fun old s₁ h₁=>cbind (chold (cmono h₁ (fun v s₂ h₂=>cbind (cstand (cbind (wpC_operate (cmono h₂ (fun r s₃ h₃=>cbind (cstand (cbind (cmono (c_bindName h₃) (fun _ _ q=>cpure q) fun _ _ q=>q)))) fun _ _ q=>q))))) fun _ _ q=>q))) fun _ _ q=>q)))
theorem c_Assign_Subscript{o i value:Expr}{pos' pos:Pos}{Q:Flow→Shared→Prop}
  (h:wpC M A (eval value env) (fun v s₁=>wpC M A (eval o env) (fun ov s₂=>wpC M A (eval i env) (fun iv s₃=>wpC M A (setItem ov iv v) (fun _=>Q .next) E s₃) E s₂) E s₁) E s)
  (hs:swapsWith value (some (.Subscript o i pos')) pos.line env=pure false):wpC M A (exec (.Assign [.Subscript o i pos'] value pos) env) Q E s:=by
 rw [exec_Assign_Subscript o i pos' value pos hs]
 refine cbind (cstand (cbind (cmono h (fun v s₁ h₁=>?_) fun _ _ q=>q)))
 rw [assign_Subscript]
 exact cbind (cbind (chold (cmono h₁ (fun ov s₂ h₂=>cbind (chold (cmono h₂ (fun iv s₃ h₃=>cbind (cstand
  (cbind (chold (cmono h₃ (fun _ _ q=>.of (wpAny_release (cpure q))) fun _ _ q=>q))))) fun _ _ q=>q))) fun _ _ q=>q)))
theorem c_AugAssign_Subscript{o i value:Expr}{tpos pos:Pos}{op:Operator}{Q:Flow→Shared→Prop}
  (h:wpC M A (eval o env) (fun ov s₁=>wpC M A (eval i env) (fun iv s₂=>wpC M A (getItem ov iv) (fun old s₃=>wpC M A (eval value env) (fun v s₄=>wpC M A (inplaceOp op old v) (fun new s₅=>wpC M A (setItem ov iv new) (fun _=>Q .next) E s₅) E s₄) E s₃) E s₂) E s₁) E s)
  (hi:∀ov iv new,augStore i ov iv new=(do holding [new,ov,iv] (setItem ov iv new);release [new,ov,iv] [];pure .next)):wpC M A (exec (.AugAssign (.Subscript o i tpos) op value pos) env) Q E s:=by
 obtain e:exec (.AugAssign (.Subscript o i tpos) op value pos) env=(do
   standAt pos
   let ov←eval o env
   let iv←holding [ov] (eval i env)
   let new←holding [ov,iv] do
    standAt tpos
    let old←getItem ov iv
    let v←holding [old] (eval value env)
    standAt pos
    operate [old,v] (inplaceOp op old v)
   standAt tpos
   augStore i ov iv new):=rfl
 rw [e]
 refine cbind (cstand (cbind (cmono h (fun ov s₁ h₁=>?_) fun _ _ q=>q)))
 refine cbind (chold (cmono h₁ (fun iv s₂ h₂=>?_) fun _ _ q=>q))
 refine cbind (chold (cbind (cstand (cbind (cmono h₂ (fun old s₃ h₃=>?_) fun _ _ q=>q)))))
 refine cbind (chold (cmono h₃ (fun v s₄ h₄=>?_) fun _ _ q=>q))
 refine cbind (cstand (wpC_operate (cmono h₄ (fun new s₅ h₅=>?_) fun _ _ q=>q)))
 refine cbind (cstand ?_)
 rw [hi]
 exact cbind (chold (cmono h₅ (fun _ _ h₆=>cbindOf (wpAny_release (cpure h₆))) fun _ _ q=>q))
theorem c_Assign_Tuple{elts:List Expr}{k:Nat}{tpos pos:Pos}{value:Expr}{Q:Flow→Shared→Prop}(h:wpC M A (eval value env) (fun v s₁=>wpC M A (assign (.Tuple elts k tpos) env v) (fun _=>Q .next) E s₁) E s)
  (hs:swapsWithSole [.Tuple elts k tpos] value pos.line env=pure false)(hw:swappedStores [.Tuple elts k tpos] value env=pure none):wpC M A (exec (.Assign [.Tuple elts k tpos] value pos) env) Q E s:=by
 refine cbind (cstand ?_)
 rw [hs]
 refine cbind (cpure ?_)
 rw [if_neg (by decide)]
 refine cbind (cmono h (fun v s₁ h₁=>?_) fun _ _ q=>q)
 rw [hw]
 refine cbind (cpure ?_)
 exact cbind (cmono h₁ (fun _ _ q=>cpure q) fun _ _ q=>q)
theorem c_While{test:Expr}{body orelse:List Stmt}{pos:Pos}{Q:Flow→Shared→Prop}(h:codeC M A (.whileLoop test body orelse env) (fun r s'=>match r with | .ok f=>Q f s' | .error e=>cameBackBy M A env E e s') s) :
  wpC M A (exec (.While test body orelse pos) env) Q E s:=by
 simp only [exec_While];exact cbind (cstand (wpC_runOwn h))
theorem c_For{target iter:Expr}{body orelse:List Stmt}{pos:Pos}{Q:Flow→Shared→Prop}
  (h:wpC M A (eval iter env) (fun x s₁=>wpC M A (pyIter x) (fun it s₂=>codeC M A (.forLoop target it body orelse env) (fun r s'=>match r with | .ok f=>Q f s' | .error e=>cameBackBy M A env E e s') s₂) E s₁) E s)
  (hs:∀x,foldedSetIterable iter env x=pure x):wpC M A (exec (.For target iter body orelse pos) env) Q E s:=by
 exact cbind (cstand (cbind (cmono h (fun x s₁ h₁=>cbind (wpC_of_eq (hs x) (cbind (cstand (cbind (chold (cmono h₁ (fun it s₂ h₂=>wpC_runOwn h₂) fun _ _ q=>q))))))) fun _ _ q=>q)))
end
section
variable {prog:Program}{w:World}{A:Around}{E:VQ}{s:Shared}{env:Env}{R:Result→Shared→Prop}
theorem c_Attribute{value:Expr}{attr:Str}{pos:Pos}{Q:VQ}(h:wpC (model prog w) A (eval value env) (fun o s₁=>wpC (model prog w) A (PySem.getAttr o attr true) Q E s₁) E s)
  (he:eval (.Attribute value attr pos) env=(do
   let o←eval value env
   standAt pos.atName
   let r←holding [o] (PySem.getAttr o attr true)
   letTemporaryGo value o r
   pure r)):wpC (model prog w) A (eval (.Attribute value attr pos) env) Q E s:=by
 rw [he]
 refine cbind (cmono h (fun o s₁ h₁=>cbind (cstand (cbind (chold (cmono h₁ (fun r s₂ h₂=>?_) fun _ _ q=>q))))) fun _ _ q=>q)
 exact cbindOf (wpAny_letTemporaryGo (cpure h₂))
theorem codeC_whileLoop{test:Expr}{body:List Stmt}(I:Nat→Shared→Prop)
  (turn:∀n s,I n s→wpC (model prog w) A (isTrue test env (eval test env)) (fun b s₂=>
    if b then wpC (model prog w) A (execs body env) (fun f s₃=>match f with
      | .next | .cont=>∃m,m<n∧I m s₃
      | .brk=>R (.ok .next) s₃
      | .ret v=>R (.ok (.ret v)) s₃) (notedBy (model prog w) A env fun e s'=>R (.error e) s') s₂
    else R (.ok .next) s₂) (notedBy (model prog w) A env fun e s'=>R (.error e) s') s)
  (n:Nat)(h:I n s):codeC (model prog w) A (.whileLoop test body [] env) R s:=by
 refine codeC_loop rfl rfl I (fun n s hI=>?_) n h
 show wpC _ A ((whileTurn test body [] env).onRaise (fun x=>do noteFrame x env;theTreesLotGoes x)) _ _ s
 refine wpC_noted ?_
 refine cbind (cmono (turn n s hI) (fun b s₂ h₂=>?_) fun _ _ h'=>h')
 cases b with
 |false=>
  simp only [Bool.false_eq_true,if_false]at h₂⊢
  exact cbind (c_execs_nil (cpure h₂))
 |true=>
  simp only [if_true]at h₂⊢
  refine cbind (cmono h₂ (fun f s₃ h₃=>?_) fun _ _ h'=>h')
  cases f with
  |next=>exact cpure (.inl ⟨rfl,h₃⟩)
  |cont=>exact cpure (.inl ⟨rfl,h₃⟩)
  |brk=>exact cpure h₃
  |ret v=>exact cpure h₃
end
end
end Mine
end
section
open PySem PySem.W PyProof.Rows PySem.Calls PySem.Spec
set_option maxHeartbeats 4000000
namespace Mine
section
theorem den_builtin{prog:Program}{w:World}{id:String}{a:Args}{b:Builtin}(h:entryFor table id=some b):(model prog w).den (.builtin id a)=b a:=by
 show denote table (.builtin id a)=b a
 unfold denote
 dsimp only
 rw [h]
section
variable {prog:Program}{w:World}{A:Around}{s:Shared}{R:Result→Shared→Prop}
theorem codeC_func{body:List Stmt}{env:Env}
  (h:wpC (model prog w) (A.deeper env) (execs body env) (fun f s'=>R (.ok (.ret (match f with | .ret v=>v |_=>.none))) s')
   (fun e s'=>wpAny (model prog w) (A.deeper env) (leaving env e) (fun _ s''=>R (.error e) s'') (fun e' s''=>R (.error e') s'') s') s):codeC (model prog w) A (.func body env) R s:=by
 refine codeC_of_tree rfl ?_
 show wpC _ (A.deeper env) (do point;match←(execs body env).onRaise (leaving env) with | .ret v=>ret v |_=>ret .none) _ _ s
 refine cbind (wpC_point (cbind (wpC_onRaise (cmono h (fun f s' h'=>?_) fun _ _ h'=>.of h'))))
 cases f <;> exact cpure h'
theorem codeC_call_function{a:Addr}{args:Args}{o:Obj}{fd:FuncData}{body:List Stmt}(hroom:A.depth<recursionLimit)(ho:s.heap.get? a=some o)
  (hd':o.data=.func fd)(hco:fd.scope.isCoroutine=false)(hgen:fd.scope.isGenerator=false)(hbody:fd.body=.stmts body)(hcd:s.heap.CodeRec fd.code fd.qualname)
  (h:wpC (model prog w) A.in1 (bindArgs fd args) (fun binds s₁=>wpC (model prog w) A.in1 (newFunctionEnv fd.scope fd.globals fd.closure binds (fd.qualname++".<locals>.") (some a) fd.code none fd.builtins)
    (fun env s₂=>s₂.heap.NoLimit∧codeC (model prog w) A (.func body env) R s₂) (fun e s'=>R (.error e) s') s₁) (fun e s'=>R (.error e) s') s) :
  codeC (model prog w) A (.call (.ref a) args) R s:=by
 refine codeC_of_tree rfl ?_
 show wpC _ A.in1 (callAny (.ref a) args) _ _ s
 simp only [callAny]
 refine cbindOf (wpAny_load ho ?_)
 obtain ⟨c,oc,vs,tq,hc,hoc,hdc,hq⟩:=hcd
 simp only [hd',callFunction,hco,hgen,hbody,hc]
 rw [hc]at h
 refine cbindOf (m:=field (.ref c) 1) (wpAny_field hoc hdc hq (cbind (cpure ?_)))
 exact cbind (cmono h (fun binds s₁ h₁=>cbind (cmono h₁ (fun env s₂ h₂=>cbindOf (wpAny_enterFrame h₂.1 hroom
  (cpure (And.intro rfl h₂.2)))) fun _ _ h'=>h')) fun _ _ h'=>h')
end
noncomputable def LvK(h₀:Heap)(L:Addr)(m:SM)(g:Heap)(R:Result→Shared→Prop)(v:Value)(s':Shared):Prop:=LeaveK h₀ L m g R v s'∨R (.ok (.ret v)) s'
section
variable {prog:Program}{w:World}{A₀ A:Around}{s:Shared}{base h₀:Heap}{outer:List Env}{L:Addr}{m:SM}{env:Env}{news:List (Addr×Obj)}
 {R:Result→Shared→Prop} {name qual:Str} {params:Arguments} {body:List Stmt} {scope:Scope} {cl:List (Str×Addr)} {dV kV doc pm cdv ct:Value} {an:Option Addr} {fo:Obj} {f:Addr} {args:Args} {binds:List (Str×Value)}
theorem callC_plain(B:Below A₀ base outer h₀)(F:Fr h₀ L s.heap m)(N:News h₀ L s.heap news)(hlim:h₀.NoLimit)(hA:A.frames=some (env::outer))(hf:env.frame=some L)(hke:env.scope.kind=.function)
  (ho:s.heap.get? f=some fo)(hd:fo.data=.func (fnX name qual params body scope cl dV kV doc pm an cdv ct))(hcd:s.heap.CodeRec cdv qual)(hroom:A.depth<recursionLimit)
  (hbind:BindsTo s (fnX name qual params body scope cl dV kV doc pm an cdv ct) args binds)(hloc:∀y∈binds,scope.names.lookup y.1=some .local)
  (h:∀g L' h₁,Fr h₀ L g m→Fr g L' h₁ (fun y=>binds.reverse.lookup y)→News g L' h₁ news→Below A base (env::outer) g→h₀.StaysIn g→(∀p∈news,p.1<L')→
   wpC (model prog w) (A.deeper (envX qual scope L' f cdv cl)) (execs body (envX qual scope L' f cdv cl))
    (fun fl s'=>LeaveK h₀ L m g R (match fl with | .ret v=>v |_=>.none) s')
    (fun e s'=>wpAny (model prog w) (A.deeper (envX qual scope L' f cdv cl)) (leaving (envX qual scope L' f cdv cl) e) (fun _ s''=>R (.error e) s'') (fun e' s''=>R (.error e') s'') s')
    {s with heap:=h₁,toks:=s.toks+binds.length})
  (hcell:∀x∈scope.names,x.2≠.cell)(hco:scope.isCoroutine=false)(hgen:scope.isGenerator=false)(hk:scope.kind=.function):codeC (model prog w) A (.call (.ref f) args) R s:=by
 obtain ⟨FG,BG,st,lv⟩:=groundX (R:=R) B F N hA hf hke
 refine codeC_call_function (fd:=fnX name qual params body scope cl dV kV doc pm an cdv ct) (body:=body) hroom ho hd hco hgen rfl hcd (.of (hbind _ _ _ _ (.of ?_)))
 refine wpAny_newFunctionEnv hcell hloc (fun h₁ hns hsb=>⟨(hlim.keeps F.keep).fresh _ hsb,codeC_func ?_⟩) hk
 obtain hk₁:∀b o,s.heap.get? b=some o→h₁.get? b=some o:=fun b o e=>hsb.extBut b o (Nat.ne_of_lt (Heap.lt_size e)) (Heap.get?_push_of_some _ e)
 exact cmono (h _ s.heap.objs.size h₁ FG ⟨hns,fun b o e=>hk₁ b o (of_hideAll _ e),Nat.le_of_eq (hideAll_size _ _)⟩
  (fun p hp=>⟨hk₁ _ _ (N p hp).1,Nat.ne_of_lt (Heap.lt_size (N p hp).1),hideAll_none _ (List.mem_map_of_mem hp)⟩) BG st (fun p hp=>Heap.lt_size (N p hp).1)) (fun fl s' hl=>lv _ _ hl) fun _ _ y=>y
theorem callC_cells(B:Below A₀ base outer h₀)(F:Fr h₀ L s.heap m)(N:News h₀ L s.heap news)(hlim:h₀.NoLimit)(hA:A.frames=some (env::outer))(hf:env.frame=some L)(hke:env.scope.kind=.function)
  (ho:s.heap.get? f=some fo)(hd:fo.data=.func (fnX name qual params body scope [] dV kV doc pm an cdv ct))(hcd:s.heap.CodeRec cdv qual)(hroom:A.depth<recursionLimit)
  (hbind:BindsTo s (fnX name qual params body scope [] dV kV doc pm an cdv ct) args binds)
  (hkind:∀n,∀x∈binds,scope.names.lookup x.1=some .local∨(scope.names.lookup x.1=some .cell∧((cellsFrom n scope.names []).lookup x.1).isSome=true))
  (hnd:((cellsFrom 0 scope.names []).map (·.1)).Nodup)
  (h:∀g L' h₁ tk cells,Fr h₀ L g m→Fr g L' h₁ (bindL (envOfC qual scope L' f cdv).kindOf binds fun _=>none)→News g L' h₁ (cells++news)→
   CellsAre (bindC (envOfC qual scope L' f cdv).kindOf binds fun _=>none) (cellsFrom (L'+1) scope.names []) cells→Below A base (env::outer) g→h₀.StaysIn g→(∀p∈news,p.1<L')→
   wpC (model prog w) (A.deeper (envOfC qual scope L' f cdv)) (execs body (envOfC qual scope L' f cdv))
    (fun fl s'=>LvK h₀ L m g R (match fl with | .ret v=>v |_=>.none) s')
    (fun e s'=>wpAny (model prog w) (A.deeper (envOfC qual scope L' f cdv)) (leaving (envOfC qual scope L' f cdv) e) (fun _ s''=>R (.error e) s'') (fun e' s''=>R (.error e') s'') s')
    {s with heap:=h₁,toks:=tk})
  (hco:scope.isCoroutine=false)(hgen:scope.isGenerator=false)(hk:scope.kind=.function):codeC (model prog w) A (.call (.ref f) args) R s:=by
 obtain ⟨FG,BG,st,lv⟩:=groundX (R:=R) B F N hA hf hke
 refine codeC_call_function (fd:=fnX name qual params body scope [] dV kV doc pm an cdv ct) (body:=body) hroom ho hd hco hgen rfl hcd (.of (hbind _ _ _ _ (.of ?_)))
 refine wpAny_newFunctionEnv_cells hk (hkind _) fun env' he s' x=>?_
 subst he
 refine ⟨(hlim.keeps F.keep).keeps x.toInCall.keep,codeC_func ?_⟩
 obtain ⟨h₁,tk,rfl,_⟩:=x.done
 obtain hk₁:=x.toInCall.keep
 obtain ⟨cells,NC,Y⟩:=Cl.news (h₀:=s.heap) (Nat.le_refl _) fun n c hm=>⟨x.cell n c (lookup_of_mem_nodup (cellsFrom_names scope.names 0 (s.heap.objs.size+1) [] [] rfl▸hnd) hm),x.above n c hm⟩
 refine cmono (h _ s.heap.objs.size h₁ tk cells FG ⟨x.toInCall.ns,fun b o e=>hk₁ b o (of_hideAll _ e),Nat.le_of_eq (hideAll_size _ _)⟩ (fun p hp=>?_) Y BG st (fun p hp=>Heap.lt_size (N p hp).1)) (fun fl s' hl=>hl.elim (lv _ _) id) fun _ _ y=>y
 rcases List.mem_append.mp hp with hp |hp
 ·refine ⟨(NC p hp).1,(NC p hp).2.1,?_⟩
  cases q:(hideAll s.heap (news.map (·.1))).get? p.1 with
  |none=>rfl
  |some o=>have:=of_hideAll _ q;rw [(NC p hp).2.2]at this;cases this
 ·exact ⟨hk₁ _ _ (N p hp).1,Nat.ne_of_lt (Heap.lt_size (N p hp).1),hideAll_none _ (List.mem_map_of_mem hp)⟩
end
section
variable {prog:Program}{w:World}{A:Around}{K:Frag}{C:Addr}{R:Result→Shared→Prop}{h:Heap}{g:Array GenState}{d:Drawn}{t:Nat}{os:OsState}
theorem codeC_typeCall{rest:List Value}{kw:List (Str×Value)}{init:Value}(Y:Makes (model prog w) h C)(hi:Looks (model prog w) h (typeLookup (.ref C) "__init__") (some init))
  (hb:∀self,Looks (model prog w) h (bindSpecial init self) (init,[self]))(hne:(some init != some (Value.builtin "object.__init__"))=true)
  (hq:codeC (model prog w) (A.under (.builtin "type.__call__" ⟨.ref C::rest,kw⟩)) (.call init ⟨.ref (h.objs.size+1)::rest,kw⟩) (InitBack (h.objs.size+1) R) ⟨(h.push emptyDict).push (instObj C h.objs.size),g,d,t,os⟩) :
  codeC (model prog w) A (.call (.ref C) ⟨rest,kw⟩) R ⟨h,g,d,t,os⟩:=by
 have Y':=Y
 obtain ⟨⟨oc,od,cd,sl,hC,e1,e2,e4⟩,made,base,self,top,call,typ⟩:=Y
 refine codeC_of_tree rfl ?_
 show wpC _ _ (callAny (.ref C) _) _ _ _
 simp only [callAny]
 refine cbindOf (wpAny_load hC ?_)
 show wpC _ _ (callAny.viaDunder (.ref C) _) _ _ _
 unfold callAny.viaDunder
 refine cbindOf (call.at ?_)
 dsimp only
 rw [tc_bind]
 refine cbind (cpure (cbind (cpure ?_)))
 refine cpure (a:=Fin.again (.call (.builtin "type.__call__") ⟨.ref C::rest,kw⟩)) (And.intro rfl ?_)
 refine codeC_of_tree rfl ?_
 show wpC _ A.in1 (do checkBuiltinCall "type.__call__" ⟨.ref C::rest,kw⟩;again (.builtin "type.__call__" ⟨.ref C::rest,kw⟩)) _ _ _
 refine cbindOf (check_slot tc_kind tc_split typ (tc_args _ _ _) (cpure (And.intro (Code.quiet_builtin _ (by decide +kernel)) (codeC_of_tree (by show (!Builtin.Bytes.decodersThatHold.contains "type.__call__")=true;decide +kernel) ?_))))
 rw [den_builtin entry_typeCall]
 obtain hm:Looks (model prog w) h (mroOf (.ref C)) cd.mro:=((Looks.ld (part:=none) hC).andThen .now).andThen .now
 have k:∀b o,h.get? b=some o→((h.push emptyDict).push (instObj C h.objs.size)).get? b=some o:=fun b o e=>Heap.get?_push_of_some _ (Heap.get?_push_of_some _ e)
 have hx:((h.push emptyDict).push (instObj C h.objs.size)).get? (h.objs.size+1)=some (instObj C h.objs.size):=by heap_get
 have t1:Looks (model prog w) ((h.push emptyDict).push (instObj C h.objs.size)) (typeOf (.ref (h.objs.size+1))) (.ref C):=(Looks.ld hx).andThen .now
 have isi:Looks (model prog w) ((h.push emptyDict).push (instObj C h.objs.size)) (isInstance (.ref (h.objs.size+1)) (.ref C)) true:=t1.andThen (self.keeps k)
 have spc:Looks (model prog w) ((h.push emptyDict).push (instObj C h.objs.size)) (specialOf (.ref (h.objs.size+1)) "__init__") (some init):=t1.andThen (hi.keeps k)
 have b1:=(hb (.ref (h.objs.size+1))).keeps k
 show wpC _ _ (Builtin.«type.__call__» ⟨.ref C::rest,kw⟩) _ _ _
 unfold Builtin.«type.__call__»
 dsimp only
 rw [if_neg (by rw [show (Value.ref C == Value.type "type")=false from rfl];exact Bool.false_ne_true)]
 refine cbindOf (hm.at ?_)
 rw [if_neg (by rw [e4];exact Bool.false_ne_true)]
 refine cbindOf (made.at ?_)
 dsimp only
 refine cbind (cpure (cbind (chold (.of (wpAny_call (new_K Y' hi (.inl hne) ?_))))))
 refine cbindOf (isi.at ?_)
 rw [if_neg (by decide)]
 refine cbind (chold ?_)
 unfold callSpecial?
 refine cbindOf (spc.at ?_)
 dsimp only
 refine chold (cbindOf (b1.at ?_))
 dsimp only
 refine cbind (ccall (codeC_mono hq fun r s' z=>?_))
 rcases r with e | (v |_ |_ |_) <;> first |exact z |exact z.elim |skip
 obtain ⟨rfl,z⟩:=z
 refine cpure ?_
 dsimp only
 exact cpure z
theorem callC_cls{K:Frag}{C:Addr}{E:VQ}{s:Shared}{h₀:Heap}{L:Addr}{m:SM}{news:List (Addr×Obj)}{pos:List Value}{fI:Addr}{Q:VQ}(F:Fr h₀ L s.heap m)(X₀:K.In h₀)(N:News h₀ L s.heap news)
  (hm:makesIn K C=true)(hi:findIn K (.ref C) "__init__"=some (some (.ref fI)))(hf:isFn K (.ref fI)=true)
  (h:∀x dx h',Fr h₀ L h' m→News h₀ L h' ((x,instObj C dx)::(dx,dictOf [] 0)::news)→(∀p∈news,p.1<dx)→dx<x→
   codeC (model prog w) (A.under (.builtin "type.__call__" ⟨.ref C::pos,[]⟩)) (.call (.ref fI) ⟨.ref x::pos,[]⟩) (InitBack x fun r s'=>match r with | .ok (.ret v)=>Q v s' | .ok _=>False | .error e=>E e s') {s with heap:=h'}) :
  wpC (model prog w) A (call (.ref C) pos) Q E s:=by
 obtain ⟨hh,g,d,t,os⟩:=s
 have X:=X₀.keeps F.keep
 refine ccall (codeC_typeCall (makes_of X hm) (looks_findIn X hi) (fun self=>bind_fn X self (beq_iff_eq.mp hf)) rfl (h _ hh.objs.size _ ((F.push _).push _) ?_ (fun p hp=>Heap.lt_size (N p hp).1) (Nat.lt_succ_self _)))
 have:=(N.push F emptyDict).push (F.push _) (instObj C hh.objs.size)
 rwa [Heap.size_push]at this
end
end
end Mine
end
section
open PySem PySem.W PyProof.Rows PySem.Calls PySem.Spec
namespace Mine
section
noncomputable def VR(w:Value)(x:V):Prop:=match x with
 | .none=>w=.none
 | .bool b=>w=.bool b
 | .int i=>∃t,w=.int i t
 | .str x=>∃t,w=.str (Str.ofString x) t
 | .bytes b=>∃arr t,w=.bytes arr t∧b=arr.toList.map UInt8.toNat
 | .ref a=>w=.ref a
theorem VR.none:VR .none .none:=rfl
theorem VR.bool(b:Bool):VR (.bool b) (.bool b):=rfl
theorem VR.int(i:Int)(t:Tok):VR (.int i t) (.int i):=⟨t,rfl⟩
theorem VR.str(s:String)(t:Tok):VR (.str (Str.ofString s) t) (.str s):=⟨t,rfl⟩
theorem VR.bytes(arr:Array UInt8)(t:Tok):VR (.bytes arr t) (.bytes (arr.toList.map UInt8.toNat)):=⟨arr,t,rfl,rfl⟩
theorem VR.ref(a:Addr):VR (.ref a) (.ref a):=rfl
theorem VR.i{w:Value}{i:Int}(h:VR w (.int i)):∃t,w=.int i t:=h
theorem VR.bo{w:Value}{b:Bool}(h:VR w (.bool b)):w=.bool b:=h
theorem VR.no{w:Value}(h:VR w .none):w=.none:=h
theorem VR.r{w:Value}{a:Nat}(h:VR w (.ref a)):w=.ref a:=h
theorem VR.st{w:Value}{x:String}(h:VR w (.str x)):∃t,w=.str (Str.ofString x) t:=h
theorem VR.by{w:Value}{b:List Nat}(h:VR w (.bytes b)):∃arr t,w=.bytes arr t∧b=arr.toList.map UInt8.toNat:=h
theorem VR.ofRef{a:Nat}{x:V}(h:VR (.ref a) x):x=.ref a:=by
 cases x with
 |ref b=>exact congrArg _ (Value.ref.inj h).symm
 |none=>cases h
 |bool b=>cases h
 |int i=>obtain ⟨_,h⟩:=h;cases h
 |str i=>obtain ⟨_,h⟩:=h;cases h
 |bytes b=>obtain ⟨_,_,h,_⟩:=h;cases h
theorem VR.elim{P:Value→V→Prop}{w:Value}{x:V}(h:VR w x)(h1:P .none .none)(h2:∀b,P (.bool b) (.bool b))(h3:∀i t,P (.int i t) (.int i))(h4:∀a t,P (.str (Str.ofString a) t) (.str a))(h5:∀a t,P (.bytes a t) (.bytes (a.toList.map UInt8.toNat)))(h6:∀a,P (.ref a) (.ref a)):P w x:=by
 cases x with
 |none=>exact h.no▸h1
 |bool b=>exact h.bo▸h2 b
 |int i=>obtain ⟨t,rfl⟩:=h;exact h3 i t
 |str i=>obtain ⟨t,rfl⟩:=h;exact h4 i t
 |bytes b=>obtain ⟨a,t,rfl,rfl⟩:=h;exact h5 a t
 |ref a=>exact h.r▸h6 a
inductive VRs:List Value→List V→Prop
 |nil:VRs [] []
 |cons {v:Value} {x:V} {vs:List Value} {xs:List V}:VR v x→VRs vs xs→VRs (v::vs) (x::xs)
inductive FRs(P:Params):List DictEntry→List (String×V)→Prop
 |nil:FRs P [] []
 |cons {f:String} {t:Tok} {v:Value} {x:V} {r:List DictEntry} {r':List (String×V)}:VR v x→FRs P r r'→FRs P (⟨PyData.keyHash P (Str.ofString f),.str (Str.ofString f) t,v⟩::r) ((f,x)::r')
inductive DRs:List (Int×Value)→List (Int×Int)→Prop
 |nil:DRs [] []
 |cons {k i:Int} {t:Tok} {r:List (Int×Value)} {r':List (Int×Int)}:DRs r r'→DRs ((k,.int i t)::r) ((k,i)::r')
structure Wd where
 prog:Program
 w:World
 cA:String→Addr
 TK:Obj→Nat→Nat→Nat→Prop
 TKf:∀o c p k,TK o c p k→∃fd,o.data=.func fd
 CD:Obj→Prop
noncomputable def RO(W:Wd)(ro:Obj)(o:O):Prop:=match o with
 | .list vs=>∃items n,ro=listOf items n∧VRs items.toList vs
 | .tuple vs=>∃items n,ro={cls:=.type "tuple",data:=.seq items n}∧VRs items.toList vs
 | .ba b=>∃arr,ro={cls:=.type "bytearray",data:=.bytearray arr 0}∧b=arr.toList.map UInt8.toNat
 | .inst C d=>ro=instObj (W.cA C) d
 | .flds fs=>∃es n,ro=dictOf es n∧FRs W.w.params es fs
 | .dict es=>∃kvs,ro.IsDictOf (intKind W.prog W.w) kvs∧DRs kvs es
 | .cell none=>ro.data=.cell none
 | .cell (some x)=>∃v,ro.data=.cell (some v)∧VR v x
 | .taker c p k=>W.TK ro c p k
 | .code=>W.CD ro
section
variable {W:Wd}
theorem RO.list{items:Array Value}{n:Nat}{vs:List V}(h:VRs items.toList vs):RO W (listOf items n) (.list vs):=⟨_,_,rfl,h⟩
theorem RO.tuple{items:Array Value}{n:Nat}{vs:List V}(h:VRs items.toList vs):RO W {cls:=.type "tuple",data:=.seq items n} (.tuple vs):=⟨_,_,rfl,h⟩
theorem RO.ba(arr:Array UInt8):RO W {cls:=.type "bytearray",data:=.bytearray arr 0} (.ba (arr.toList.map UInt8.toNat)):=⟨_,rfl,rfl⟩
theorem RO.inst(C:String)(d:Addr):RO W (instObj (W.cA C) d) (.inst C d):=rfl
theorem RO.flds{es:List DictEntry}{n:Nat}{fs:List (String×V)}(h:FRs W.w.params es fs):RO W (dictOf es n) (.flds fs):=⟨_,_,rfl,h⟩
theorem RO.dict{o:Obj}{kvs:List (Int×Value)}{es:List (Int×Int)}(h:o.IsDictOf (intKind W.prog W.w) kvs)(k:DRs kvs es):RO W o (.dict es):=⟨_,h,k⟩
theorem RO.cell0{o:Obj}(h:o.data=.cell none):RO W o (.cell none):=h
theorem RO.cell{o:Obj}{v:Value}{x:V}(h:o.data=.cell (some v))(k:VR v x):RO W o (.cell (some x)):=⟨_,h,k⟩
theorem RO.taker{o:Obj}{c p k:Nat}(h:W.TK o c p k):RO W o (.taker c p k):=h
theorem RO.code{o:Obj}(h:W.CD o):RO W o .code:=h
end
theorem VRs.cons_inv{v:Value}{x:V}{vs:List Value}{xs:List V}(h:VRs (v::vs) (x::xs)):VR v x∧VRs vs xs:=by
 cases h with
 |cons a b=>exact ⟨a,b⟩
theorem VRs.length{vs:List Value}{xs:List V}(h:VRs vs xs):vs.length=xs.length:=by
 induction h with
 |nil=>rfl
 |cons _ _ ih=>simp [ih]
theorem VRs.get{vs:List Value}{xs:List V}(h:VRs vs xs):∀{i:Nat} {x:V},xs[i]?=some x→∃v,vs[i]?=some v∧VR v x:=by
 induction h with
 |nil=>intro i x e;simp at e
 |cons hv _ ih=>
  intro i x e
  cases i with
  |zero=>simp at e;subst e;exact ⟨_,rfl,hv⟩
  |succ i=>simp at e;obtain ⟨v,h1,h2⟩:=ih e;exact ⟨v,by simpa using h1,h2⟩
theorem VRs.append{vs ws:List Value}{xs ys:List V}(h:VRs vs xs)(k:VRs ws ys):VRs (vs++ws) (xs++ys):=by
 induction h with
 |nil=>exact k
 |cons hv _ ih=>exact .cons hv ih
theorem VRs.set{vs:List Value}{xs:List V}(h:VRs vs xs){v:Value}{x:V}(hv:VR v x):∀i,VRs (vs.set i v) (xs.set i x):=by
 induction h with
 |nil=>intro i;exact .nil
 |cons hw hr ih=>
  intro i
  cases i with
  |zero=>exact .cons hv hr
  |succ i=>exact .cons hw (ih i)
theorem VRs.drop{vs:List Value}{xs:List V}(h:VRs vs xs):∀i,VRs (vs.drop i) (xs.drop i):=by
 induction h with
 |nil=>intro i;simp;exact .nil
 |cons hw hr ih=>
  intro i
  cases i with
  |zero=>exact .cons hw hr
  |succ i=>exact ih i
theorem VRs.take{vs:List Value}{xs:List V}(h:VRs vs xs):∀i,VRs (vs.take i) (xs.take i):=by
 induction h with
 |nil=>intro i;simp;exact .nil
 |cons hw hr ih=>
  intro i
  cases i with
  |zero=>exact .nil
  |succ i=>exact .cons hw (ih i)
theorem VRs.replicate{v:Value}{x:V}(h:VR v x):∀n,VRs (List.replicate n v) (List.replicate n x)
 |0=>.nil
 |n+1=>.cons h (VRs.replicate h n)
structure Own(W:Wd)(h₀:Heap)(L:Addr)(h:Heap)(H:Hp)(G:Addr→Option Obj):Prop where
 obj:∀a o,H a=some o→G a=none∧a≠L∧h₀.get? a=none∧∃ro,h.get? a=some ro∧RO W ro o
 raw:∀a ro,G a=some ro→a≠L∧h₀.get? a=none∧h.get? a=some ro
noncomputable def gput(G:Addr→Option Obj)(a:Addr)(o:Option Obj):Addr→Option Obj:=fun b=>if b=a then o else G b
section
variable {W:Wd}{h₀ h h':Heap}{L:Addr}{H:Hp}{G:Addr→Option Obj}{m:SM}
theorem Own.lt(K:Own W h₀ L h H G){a:Addr}{o:O}(e:H a=some o):a<h.objs.size:=by
 obtain ⟨_,_,_,ro,hr,_⟩:=K.obj a o e
 exact Heap.lt_size hr
theorem Own.same(K:Own W h₀ L h H G)(k:∀a ro,h.get? a=some ro→a≠L→h₀.get? a=none→h'.get? a=some ro):Own W h₀ L h' H G:=
 ⟨fun a o e=>let ⟨h1,h2,h3,ro,h4,h5⟩:=K.obj a o e;⟨h1,h2,h3,ro,k _ _ h4 h2 h3,h5⟩,fun a ro e=>let ⟨h1,h2,h3⟩:=K.raw a ro e;⟨h1,h2,k _ _ h3 h1 h2⟩⟩
theorem Own.keeps(K:Own W h₀ L h H G)(k:∀b o,h.get? b=some o→h'.get? b=some o):Own W h₀ L h' H G:=K.same fun a ro e _ _=>k a ro e
theorem Own.sameL(K:Own W h₀ L h H G)(k:Heap.SameBut L h h'):Own W h₀ L h' H G:=K.same fun a _ e n _=>(k.2 a n).trans e
theorem Own.new(K:Own W h₀ L h H G)(F:Fr h₀ L h m)(k:∀b o,h.get? b=some o→h'.get? b=some o){a:Addr}{ro:Obj}{o:O}(ha:h.get? a=none)(hr:h'.get? a=some ro)(R:RO W ro o) :
  H a=none∧Own W h₀ L h' (H.put a o) G:=by
 obtain hL:a≠L:=fun q=>by
  obtain ⟨oL,_,_,e,_⟩:=F.ns
  simp only [q,e]at ha;cases ha
 have h0:h₀.get? a=none:=by
  cases q:h₀.get? a with
  |none=>rfl
  |some o=>have:=F.keep _ _ q;rw [ha]at this;cases this
 have hH:H a=none:=by
  cases q:H a with
  |none=>rfl
  |some o=>obtain ⟨_,_,_,_,e,_⟩:=K.obj _ _ q;rw [ha]at e;cases e
 have hG:G a=none:=by
  cases q:G a with
  |none=>rfl
  |some o=>have:=(K.raw _ _ q).2.2;rw [ha]at this;cases this
 have K':=K.keeps k
 refine ⟨hH,⟨fun b o' e=>?_,K'.raw⟩⟩
 unfold Hp.put at e
 split at e
 ·rename_i q;subst q;cases e;exact ⟨hG,hL,h0,ro,hr,R⟩
 ·exact K'.obj b o' e
theorem Own.newG(K:Own W h₀ L h H G)(F:Fr h₀ L h m)(k:∀b o,h.get? b=some o→h'.get? b=some o){a:Addr}{ro:Obj}(ha:h.get? a=none)(hr:h'.get? a=some ro) :
  G a=none∧Own W h₀ L h' H (gput G a (some ro)):=by
 have hL:a≠L:=fun q=>by
  obtain ⟨oL,_,_,e,_⟩:=F.ns
  rw [q,e]at ha;cases ha
 have h0:h₀.get? a=none:=by
  cases q:h₀.get? a with
  |none=>rfl
  |some o=>have:=F.keep _ _ q;rw [ha]at this;cases this
 have hG:G a=none:=by
  cases q:G a with
  |none=>rfl
  |some o=>have:=(K.raw _ _ q).2.2;rw [ha]at this;cases this
 obtain K':=K.keeps k
 refine ⟨hG,⟨fun b o' e=>?_,fun b ro' e=>?_⟩⟩
 ·obtain ⟨h1,h2,h3,r,h4,h5⟩:=K'.obj b o' e
  refine ⟨?_,h2,h3,r,h4,h5⟩
  unfold gput
  split
  ·rename_i q;subst q
   obtain ⟨_,_,_,_,e',_⟩:=K.obj _ _ e;rw [ha]at e';cases e'
  ·exact h1
 ·unfold gput at e
  split at e
  ·rename_i q;subst q;cases e;exact ⟨hL,h0,hr⟩
  ·exact K'.raw b ro' e
theorem Own.upd(K:Own W h₀ L h H G){a:Addr}{o o':O}{ro':Obj}(e:H a=some o)(k:∀b,b≠a→h'.get? b=h.get? b)(hr:h'.get? a=some ro')(R:RO W ro' o'):Own W h₀ L h' (H.put a o') G:=by
 obtain ⟨h1,h2,h3,_,_,_⟩:=K.obj a o e
 refine ⟨fun b ob eb=>?_,fun b ro eb=>?_⟩
 ·unfold Hp.put at eb
  split at eb
  ·rename_i q;subst q;cases eb;exact ⟨h1,h2,h3,ro',hr,R⟩
  ·rename_i q
   refine Classical.byContradiction fun no=>?_
   obtain ⟨a1,a2,a3,r,a4,a5⟩:=K.obj b ob eb
   refine no ?_
   exact ⟨a1,a2,a3,r,(k b q).trans a4,a5⟩
 ·obtain ⟨a1,a2,a3⟩:=K.raw b ro eb
  exact ⟨a1,a2,(k b fun q=>by simp only [q,h1]at eb;exact nomatch eb).trans a3⟩
theorem Own.updG(K:Own W h₀ L h H G){a:Addr}{ro ro':Obj}(e:G a=some ro)(k:∀b,b≠a→h'.get? b=h.get? b)(hr:h'.get? a=some ro'):Own W h₀ L h' H (gput G a (some ro')):=by
 obtain ⟨h1,h2,h3⟩:=K.raw a ro e
 refine ⟨fun b ob eb=>?_,fun b r eb=>?_⟩
 ·obtain ⟨a1,a2,a3,r,a4,a5⟩:=K.obj b ob eb
  obtain hb:b≠a:=fun q=>by rw [q,e]at a1;exact nomatch a1
  refine ⟨?_,a2,a3,r,(k b hb).trans a4,a5⟩
  unfold gput;rw [if_neg hb];exact a1
 ·unfold gput at eb
  split at eb
  ·rename_i q;subst q;cases eb;exact ⟨h1,h2,hr⟩
  ·rename_i q
   obtain ⟨a1,a2,a3⟩:=K.raw b r eb
   exact ⟨a1,a2,(k b q).trans a3⟩
theorem Own.drop(K:Own W h₀ L h H G)(H':Hp)(G':Addr→Option Obj)(hH:∀a o,H' a=some o→H a=some o)(hG:∀a o,G' a=some o→G a=some o):Own W h₀ L h H' G':=by
 refine ⟨fun a o e=>?_,fun a ro e=>K.raw a ro (hG a ro e)⟩
 obtain ⟨h1,r⟩:=K.obj a o (hH a o e)
 refine ⟨?_,r⟩
 cases q:G' a with
 |none=>rfl
 |some x=>have:=hG _ _ q;rw [h1]at this;exact nomatch this
theorem Own.rebase{h₁:Heap}{L':Addr}(K:Own W h₀ L h H G)(hk:∀a,(H a≠none∨G a≠none)→a≠L'∧h₁.get? a=none)(k:∀a ro,(H a≠none∨G a≠none)→h.get? a=some ro→h'.get? a=some ro):Own W h₁ L' h' H G:=
 ⟨fun a o e=>let ⟨h1,_,_,ro,h4,h5⟩:=K.obj a o e;have z:=hk a (.inl (by rw [e];simp));⟨h1,z.1,z.2,ro,k a ro (.inl (by rw [e];simp)) h4,h5⟩,
  fun a ro e=>let ⟨_,_,h3⟩:=K.raw a ro e;have z:=hk a (.inr (by rw [e];simp));⟨z.1,z.2,k a ro (.inr (by rw [e];simp)) h3⟩⟩
noncomputable def ledger(h:Heap)(H:Hp)(G:Addr→Option Obj):List (Addr×Obj):=by
 classical
 exact (List.range h.objs.size).filterMap fun a=>if H a≠none∨G a≠none then (h.get? a).map fun o=>(a,o) else none
theorem ledger_iff{a:Addr}{ro:Obj}:(a,ro)∈ledger h H G↔(H a≠none∨G a≠none)∧h.get? a=some ro:=by
 unfold ledger
 simp only [List.mem_filterMap,List.mem_range]
 constructor
 ·rintro ⟨b,_,e⟩
  split at e
  ·rename_i q
   cases hb:h.get? b with
   |none=>rw [hb]at e;cases e
   |some x=>rw [hb]at e;cases e;exact ⟨q,hb⟩
  ·exact nomatch e
 ·rintro ⟨q,e⟩
  refine ⟨a,Heap.lt_size e,?_⟩
  rw [if_pos q,e];rfl
theorem ledger_mem(K:Own W h₀ L h H G){a:Addr}(q:H a≠none∨G a≠none):∃ro,(a,ro)∈ledger h H G:=by
 refine q.elim (fun q=>?_) (fun q=>?_)
 ·obtain ⟨o,e⟩:=Option.ne_none_iff_exists'.mp q
  refine Classical.byContradiction fun no=>?_
  obtain ⟨_,_,_,ro,h4,_⟩:=K.obj a o e
  refine no ?_
  exact ⟨ro,ledger_iff.mpr ⟨.inl q,h4⟩⟩
 ·obtain ⟨o,e⟩:=Option.ne_none_iff_exists'.mp q
  exact ⟨o,ledger_iff.mpr ⟨.inr q,(K.raw a o e).2.2⟩⟩
theorem Own.news(K:Own W h₀ L h H G):News h₀ L h (ledger h H G):=by
 intro p hp
 obtain ⟨a,ro⟩:=p
 obtain ⟨q,e⟩:=ledger_iff.mp hp
 rcases q with q |q
 ·obtain ⟨o,eo⟩:=Option.ne_none_iff_exists'.mp q
  obtain ⟨_,h2,h3,_⟩:=K.obj a o eo
  exact ⟨e,h2,h3⟩
 ·obtain ⟨o,eo⟩:=Option.ne_none_iff_exists'.mp q
  obtain ⟨h2,h3,_⟩:=K.raw a o eo
  exact ⟨e,h2,h3⟩
theorem Own.ofNews{h₁:Heap}{L':Addr}(K:Own W h₀ L h H G)(N:News h₁ L' h' (ledger h H G)):Own W h₁ L' h' H G:=
 K.rebase (fun _ q=>let ⟨_,hm⟩:=ledger_mem K q;⟨(N _ hm).2.1,(N _ hm).2.2⟩) fun _ _ q e=>(N _ (ledger_iff.mpr ⟨q,e⟩)).1
end
end
section
section
variable {W:Wd}{h₀ h:Heap}{L:Addr}{H:Hp}{G:Addr→Option Obj}{m:SM}
theorem Own.none_of(K:Own W h₀ L h H G){a:Addr}(ha:h.get? a=none):H a=none∧G a=none:=by
 constructor
 ·cases q:H a with
  |none=>rfl
  |some o=>obtain ⟨_,_,_,_,e,_⟩:=K.obj _ _ q;rw [ha]at e;cases e
 ·cases q:G a with
  |none=>rfl
  |some o=>have:=(K.raw _ _ q).2.2;rw [ha]at this;cases this
theorem Heap.get_size(h:Heap):h.get? h.objs.size=none:=Heap.get?_none_of_le (Nat.le_refl _)
theorem Own.cons{h':Heap}(K:Own W h₀ L h H G){a:Addr}{ro:Obj}{o:O}(N:News h₀ L h' ((a,ro)::ledger h H G))(ha:H a=none∧G a=none)(R:RO W ro o):Own W h₀ L h' (H.put a o) G:=by
 have K':Own W h₀ L h' H G:=K.ofNews fun p hp=>N p (.tail _ hp)
 obtain ⟨n1,n2,n3⟩:=N (a,ro) (.head _)
 refine ⟨fun b o' e=>?_,K'.raw⟩
 unfold Hp.put at e
 split at e
 ·rename_i q;subst q;cases e;exact ⟨ha.2,n2,n3,ro,n1,R⟩
 ·exact K'.obj b o' e
noncomputable def others(h:Heap)(H:Hp)(G:Addr→Option Obj)(d:Addr):List (Addr×Obj):=(ledger h H G).filter fun p=>decide (p.1≠d)
theorem others_ne{d:Addr}:∀p∈others h H G d,p.1≠d:=fun p hp=>of_decide_eq_true (List.mem_filter.mp hp).2
theorem others_mem{d:Addr}{p:Addr×Obj}:p∈others h H G d↔p∈ledger h H G∧p.1≠d:=by
 unfold others;rw [List.mem_filter];simp
theorem Own.open_(K:Own W h₀ L h H G){d:Addr}{o:O}(e:H d=some o):∃ro,h.get? d=some ro∧RO W ro o∧News h₀ L h ((d,ro)::others h H G d)∧
  ∀h' ro' o',News h₀ L h' ((d,ro')::others h H G d)→RO W ro' o'→Own W h₀ L h' (H.put d o') G:=by
 obtain ⟨hG,hL,h0,ro,hr,R⟩:=K.obj d o e
 obtain hN:=K.news
 refine ⟨ro,hr,R,fun p hp=>?_,fun h' ro' o' N' R'=>?_⟩
 ·rcases List.mem_cons.mp hp with rfl |hp
  ·exact ⟨hr,hL,h0⟩
  ·exact hN p (others_mem.mp hp).1
 ·have oth:∀b r,(H b≠none∨G b≠none)→b≠d→h.get? b=some r→(h'.get? b=some r∧b≠L∧h₀.get? b=none):=fun b r q nb eb=>N' (b,r) (.tail _ (others_mem.mpr ⟨ledger_iff.mpr ⟨q,eb⟩,nb⟩))
  refine ⟨fun b ob eb=>?_,fun b r eb=>?_⟩
  ·unfold Hp.put at eb
   split at eb
   ·rename_i q;subst q;cases eb
    obtain ⟨n1,n2,n3⟩:=N' (b,ro') (.head _)
    exact ⟨hG,n2,n3,ro',n1,R'⟩
   ·rename_i q
    obtain ⟨a1,_,_,r,a4,a5⟩:=K.obj b ob eb
    have z:=oth b r (.inl (by rw [eb];simp)) q a4
    exact ⟨a1,z.2.1,z.2.2,r,z.1,a5⟩
  ·have nb:b≠d:=fun q=>by simp only [q,hG]at eb;cases eb
   obtain z:=oth b r (.inr (by rw [eb];simp)) nb (K.raw b r eb).2.2
   exact ⟨z.2.1,z.2.2,z.1⟩
end
end
end Mine
end
section
open PySem PySem.W PyProof.Rows PySem.Calls PySem.Spec
set_option genInjectivity false
set_option genSizeOf false
set_option genCtorIdx false
set_option bootstrap.genMatcherCode false
set_option backward.match.sparseCases false
namespace Mine
section
structure Cx where
 A:Around
 A₀:Around
 base:Heap
 h₀:Heap
 outer:List Env
 top:Env
 L:Addr
 env:Env
 ns:List (Str×NameKind)
structure Tabs where
 gi:List (String×Int)
 defs:List (String×Addr)
 cls:List String
 fa:String→Option Addr
 K:Frag
 ff:Addr
noncomputable def AttrP(W:Wd)(T:Tabs)(C f:String):Prop:=plainGet T.K (W.cA C) (Str.ofString f)=true∧hasDictIn T.K (W.cA C)=true∧(∃at_,findIn T.K (.ref (W.cA C)) (Str.ofString f)=some at_∧noGet T.K at_=true)∧
 findIn T.K (.ref (W.cA C)) "__setattr__"=some (some (.builtin "object.__setattr__"))∧plainOver T.K (W.cA C)=true∧takerIn T.K (W.cA C) (Str.ofString f)=some none
noncomputable def MethP(W:Wd)(T:Tabs)(C f:String):Prop:=∃a,T.fa (C++"."++f)=some a∧plainGet T.K (W.cA C) (Str.ofString f)=true∧findIn T.K (.ref (W.cA C)) (Str.ofString f)=some (some (.ref a))∧isFn T.K (.ref a)=true∧keepIn T.K (.ref a)=true
noncomputable def ClsP(W:Wd)(T:Tabs)(C:String):Prop:=makesIn T.K (W.cA C)=true∧keepIn T.K (.ref (W.cA C))=true∧∃a,T.fa (C++".__init__")=some a∧findIn T.K (.ref (W.cA C)) "__init__"=some (some (.ref a))∧isFn T.K (.ref a)=true
structure TF(W:Wd)(T:Tabs):Prop where
 attr:∀C f,(C,f)∈attrsOf→AttrP W T C f
 meth:∀C f,(C,f)∈methsOf→MethP W T C f
 cls:∀C,C∈T.cls→ClsP W T C
 defs:∀x a,(x,a)∈T.defs→T.fa x=some a
noncomputable def biTab:List (String×Value):=["len","min","max","sum","isinstance"].map (fun x=>(x,.builtin x))++["list","bytes","bytearray","int","tuple","range","enumerate","Exception"].map fun x=>(x,.type x)
noncomputable def GN(W:Wd)(T:Tabs)(h:Heap)(mg mb:SM):Prop:=h.Ns mainGlobals mg∧h.Ns builtinsNs mb∧(∀x i,(x,i)∈T.gi→∃t,mg (Str.ofString x)=some (.int i t))∧(∀x a,(x,a)∈T.defs→mg (Str.ofString x)=some (.ref a))∧
 (∀x,x∈T.cls→mg (Str.ofString x)=some (.ref (W.cA x)))∧mg (Str.ofString "FilterFault")=some (.ref T.ff)∧
 (∀x v,(x,v)∈biTab→mg (Str.ofString x)=none∧mb (Str.ofString x)=some v)
structure GF(W:Wd)(T:Tabs)(h:Heap):Prop where
 nolimit:h.NoLimit
 sm:∃o,h.get? sysModules=some o
 K:T.K.In h
 g:∃mg mb,GN W T h mg mb
 fn:∀x a,(x,a)∈T.defs→∃o fd,h.get? a=some o∧o.data=.func fd
theorem GF.keeps{W:Wd}{T:Tabs}{h h':Heap}(G:GF W T h)(k:∀b o,h.get? b=some o→h'.get? b=some o):GF W T h':=
 ⟨G.nolimit.keeps k,G.sm.imp fun _ e=>k _ _ e,G.K.keeps k,G.g.imp fun _=>Exists.imp fun _ z=>⟨z.1.keeps k,z.2.1.keeps k,z.2.2⟩,fun x a e=>(G.fn x a e).imp fun _=>Exists.imp fun _ z=>⟨k _ _ z.1,z.2⟩⟩
noncomputable def GF.At{W:Wd}{T:Tabs}{h:Heap}(_:GF W T h)(x:String)(v:Value):Prop:=∃mg,h.Ns mainGlobals mg∧mg (Str.ofString x)=some v
theorem GF.gi{W:Wd}{T:Tabs}{h:Heap}(G:GF W T h){x:String}{i:Int}(e:(x,i)∈T.gi):∃t,G.At x (.int i t):=G.g.elim fun mg z=>z.elim fun _ z=>(z.2.2.1 x i e).imp fun _ q=>⟨mg,z.1,q⟩
theorem GF.def{W:Wd}{T:Tabs}{h:Heap}(G:GF W T h){x:String}{a:Addr}(e:(x,a)∈T.defs):G.At x (.ref a):=G.g.imp fun _ z=>z.elim fun _ z=>⟨z.1,z.2.2.2.1 x a e⟩
theorem GF.cl{W:Wd}{T:Tabs}{h:Heap}(G:GF W T h){x:String}(e:x∈T.cls):G.At x (.ref (W.cA x)):=G.g.imp fun _ z=>z.elim fun _ z=>⟨z.1,z.2.2.2.2.1 x e⟩
theorem GF.ffAt{W:Wd}{T:Tabs}{h:Heap}(G:GF W T h):G.At "FilterFault" (.ref T.ff):=G.g.imp fun _ z=>z.elim fun _ z=>⟨z.1,z.2.2.2.2.2.1⟩
structure Cx.Ok(W:Wd)(T:Tabs)(C:Cx)(rk:Nat):Prop where
 B:Below C.A₀ C.base C.outer C.h₀
 hA:C.A.frames=some (C.top::C.outer)
 hf:C.top.frame=some C.L
 hk:C.top.scope.kind=.function
 hh:C.A.handled=none
 hg:C.A.guards=some []
 hd:C.A.depth+4*rk<900
 hu:C.A.units+10*rk<9000
 G:GF W T C.h₀
 TF:TF W T
structure Cx.EnvOk(C:Cx):Prop where
 ek:C.env.scope.kind=.function
 eg:C.env.globals=mainGlobals
 eb:C.env.builtins=builtinsNs
 nd:(C.ns.map (·.1)).Nodup
 names:∀x k,C.ns.lookup x=some k→∃k',C.env.kindOf x=some k'∧(k'=k∨(k=.free∧k'=.cell))
noncomputable def VarAt(C:Cx)(mr:SM)(x:Str)(V:V):NameKind→Prop
 | .local=>∃v,mr x=some v∧VR v V
 | .cell=>∃c,V=.ref c∧C.env.cells.lookup x=some c
 | .free=>∃c,V=.ref c∧C.env.cells.lookup x=some c
 |_=>True
structure RG where
 r:Array GenState×Drawn×OsState
 G:Addr→Option Obj
noncomputable def VarsAt(C:Cx)(mr:SM)(m:M):Prop:=∀i x k,C.ns[i]?=some (x,k)→C.ns.lookup x=some k→∀V,getLoc m i=some V→VarAt C mr x V k
structure Lv(C:Cx)(g:RG) where
 mF:SM
 mr:SM
 m:M
 loc:∀h:Heap,h.Ns C.L mF→(∀a ro,g.G a=some ro→h.get? a=some ro)→h.Ns C.env.locals mr
 vars:VarsAt C mr m
structure Ld(C:Cx) where
 mF:SM
 m:M
 loc:C.env.locals=C.L
 vars:VarsAt C mF m
noncomputable abbrev Ld.v{C:Cx}{g:RG}(l:Ld C):Lv C g:=⟨l.mF,l.mF,l.m,fun _ n _=>l.loc▸n,l.vars⟩
noncomputable abbrev Sr(g:RG)(ge:Array GenState)(d:Drawn)(os:OsState):Prop:=ge=g.r.1∧d=g.r.2.1∧os=g.r.2.2
structure AtH(W:Wd)(h₀:Heap)(L:Addr)(g:RG)(mF:SM)(H:Hp)(h:Heap)(ge:Array GenState)(d:Drawn)(os:OsState):Prop where
 F:Fr h₀ L h mF
 own:Own W h₀ L h H g.G
 hs:Sr g ge d os
noncomputable abbrev At(W:Wd)(C:Cx)(g:RG)(mF:SM)(H:Hp)(s:Shared):Prop:=AtH W C.h₀ C.L g mF H s.heap s.gens s.drawn s.os
theorem AtH.to{W:Wd}{h₀:Heap}{L:Addr}{g:RG}{mF mF':SM}{H H':Hp}{h h':Heap}{ge:Array GenState}{d:Drawn}{os:OsState}(a:AtH W h₀ L g mF H h ge d os)(F:Fr h₀ L h' mF')(O:Own W h₀ L h' H' g.G):AtH W h₀ L g mF' H' h' ge d os:=⟨F,O,a.hs⟩
theorem Lv.ns{W:Wd}{C:Cx}{g:RG}(l:Lv C g){H:Hp}{s:Shared}(a:At W C g l.mF H s):s.heap.Ns C.env.locals l.mr:=l.loc _ a.F.ns fun _ _ e=>(a.own.raw _ _ e).2.2
inductive ThrH(W:Wd)(ff:Addr)(h₀:Heap)(L:Addr)(base:Heap)(out:List Env)(G:Addr→Option Obj):Value→Heap→Hp→Prop
 |made {hp h':Heap} {mX:SM} {a:Addr} {ob:Obj} {vs:Array Value} {H:Hp}:Fr h₀ L hp mX→Own W h₀ L hp H G→(∀b o,hp.get? b=some o→h'.get? b=some o)→hp.get? a=none→
   h'.get? a=some ob→ob.cls=.ref ff→ob.data=.fields vs→vs[1]?=some .none→0<vs.size→ThrH W ff h₀ L base out G (.ref a) h' H
 |come {g₂ h h':Heap} {mX:SM} {a:Addr} {H:Hp}:Fr h₀ L g₂ mX→g₂.UpToSlots h'→Own W h₀ L h H G→RaisedN base out a (.ref ff) (ledger h H G) h'→ThrH W ff h₀ L base out G (.ref a) h' H
noncomputable abbrev Thr(W:Wd)(T:Tabs)(C:Cx)(G:Addr→Option Obj):Value→Heap→Hp→Prop:=ThrH W T.ff C.h₀ C.L C.base (C.top::C.outer) G
section
variable (W:Wd)(T:Tabs)(CT:CT)(C:Cx)
noncomputable def Fin1(g:RG)(mF:SM)(QQ:VQ)(Q:V→Hp→Prop):Prop:=
 ∀v x s' H',At W C g mF H' s'→VR v x→Q x H'→QQ v s'
noncomputable def FinX(g:RG)(EE:VQ)(X:Hp→Prop):Prop:=
 ∀e s' H',Sr g s'.gens s'.drawn s'.os→Thr W T C g.G e s'.heap H'→X H'→EE e s'
noncomputable def SE(me:ME)(e:Expr):Prop:=
 ∀(g:RG) (l:Lv C g) H s QQ EE Q X,At W C g l.mF H s→wE CT me l.m H Q X→Fin1 W C g l.mF QQ Q→FinX W T C g EE X→
  wpC (model W.prog W.w) C.A (eval e C.env) QQ EE s
noncomputable def ST(me:ME)(e:Expr):Prop:=
 ∀(g:RG) (l:Lv C g) H s (QQ:Bool→Shared→Prop) EE (Q:Bool→Hp→Prop) X,At W C g l.mF H s→wE CT me l.m H (fun v H=>KTr Q H v) X→
  (∀b s' H',At W C g l.mF H' s'→Q b H'→QQ b s')→FinX W T C g EE X→
  wpC (model W.prog W.w) C.A (isTrue e C.env (eval e C.env)) QQ EE s
noncomputable def SEs(es:MEs)(l:List Expr):Prop:=
 ∀(g:RG) (lv:Lv C g) H s (QQ:List Value→Shared→Prop) EE Q X pos,At W C g lv.mF H s→wEs CT es lv.m H Q X→
  (∀vs xs s' H',At W C g lv.mF H' s'→VRs vs xs→vs.length=l.length→Q xs H'→QQ vs s')→FinX W T C g EE X→
  wpC (model W.prog W.w) C.A (spliced (backTo pos (starEach l C.env))) QQ EE s
end
section
variable {W:Wd}{T:Tabs}{CT:CT}{C:Cx}
theorem truthy_of{s:Shared}{v:Value}{x:V}{b:Bool}{QQ:Bool→Shared→Prop}{EE:VQ}
  (hv:VR v x)(ht:truthV x=some b)(h:QQ b s):wpAny (model W.prog W.w) C.A (truthy v) QQ EE s:=
 hv.elim (P:=fun v x=>truthV x=some b→wpAny (model W.prog W.w) C.A (truthy v) QQ EE s) (fun e=>truthy_none (sI e▸h)) (fun _ e=>wpAny_truthy_bool (sI e▸h)) (fun _ _ e=>truthy_int (sI e▸h)) (fun _ _ e=>noS e) (fun _ _ e=>noS e) (fun _ e=>noS e) ht
theorem ST.plain{me:ME}{e:Expr}(h:SE W T CT C me e)(he:isTrue e C.env (eval e C.env)=(do let v←eval e C.env;standAt e.pos;holding [v] (truthy v))):ST W T CT C me e:=
 fun g l H s QQ EE Q X a hw hq hx=>c_isTrue_plain (h g l H s _ EE _ X a hw (fun v x s' H' a' hv ⟨q,hQ⟩=>.of (truthy_of hv q (hq _ s' H' a' hQ))) hx) he
theorem Cx.EnvOk.kind(E:C.EnvOk){x:Str}{k:NameKind}(h:C.ns.lookup x=some k)(n:k≠.free):C.env.kindOf x=some k:=
 (E.names x _ h).elim fun _ z=>z.2.elim (fun e=>e▸z.1) fun e=>absurd e.1 n
theorem Cx.EnvOk.loc(E:C.EnvOk){x:Str}(h:C.ns.lookup x=some .local):C.env.kindOf x=some .local:=E.kind h nofun
theorem Cx.EnvOk.glob(E:C.EnvOk){x:Str}(h:C.ns.lookup x=some .globalImplicit):C.env.kindOf x=some .globalImplicit:=E.kind h nofun
theorem Cx.EnvOk.cf(E:C.EnvOk){x:Str}{k:NameKind}(h:C.ns.lookup x=some k)(hk:k=.cell∨k=.free):C.env.kindOf x=some .cell∨C.env.kindOf x=some .free:=
 (E.names x _ h).elim fun _ z=>z.2.elim (fun e=>hk.imp (fun q=>z.1.trans (congrArg some (e.trans q))) fun q=>z.1.trans (congrArg some (e.trans q))) fun e=>.inl (z.1.trans (congrArg some e.2))
theorem kO_use{Q:QV}{H:Hp}{P:Prop}:∀{o:Option V},kO Q o H→(∀v,o=some v→Q v H→P)→P
 |some v,h,k=>k v rfl h
theorem se_loc(E:C.EnvOk){i:Nat}{x:Str}{pos:Pos}(h1:C.ns[i]?=some (x,.local))(h2:C.ns.lookup x=some .local)(hd:(x == ("__debug__":Str))=false):SE W T CT C (.loc i) (.Name x pos):=
 fun g l H s QQ EE Q X a hw hq hx=>kO_use hw fun w q hw=>(l.vars i x .local h1 h2 w q).elim fun v z=>.of<|wpAny_Name (wpAny_loadName_local E.ek (E.loc h2) (l.ns a) z.1 (hq v w s H a z.2 hw)) hd
theorem VarAt.c{mr:SM}{x:Str}{V:V}{k:NameKind}(hk:k=.cell∨k=.free)(h:VarAt C mr x V k):∃c,V=.ref c∧C.env.cells.lookup x=some c:=hk.elim (fun e=>by subst e;exact h) fun e=>by subst e;exact h
theorem at_cell{l:M}{mr:SM}{i:Nat}{x:Str}{k:NameKind}{c:Nat}(hl:VarsAt C mr l)(hk:k=.cell∨k=.free)(h1:C.ns[i]?=some (x,k))(h2:C.ns.lookup x=some k)(q:getLoc l i=some (.ref c)):C.env.cells.lookup x=some c:=
 ((hl i x k h1 h2 _ q).c hk).elim fun _ z=>V.ref.inj z.1▸z.2
theorem KCel.use{Q:QV}{H:Hp}{o:Option V}{P:Prop}(h:KCel Q H o)(k:∀c v,o=some (.ref c)→H c=some (.cell (some v))→Q v H→P):P:=by cases h with |iCel e q=>exact k _ _ rfl e q
theorem Own.isCell{h₀ h:Heap}{L:Addr}{H:Hp}{G:Addr→Option Obj}(K:Own W h₀ L h H G){c:Nat}{y:V}(e:H c=some (.cell (some y))):∃v,h.IsCell c (some v)∧VR v y:=
 (K.obj c _ e).2.2.2.elim fun ro z=>z.2.imp fun _ q=>⟨⟨ro,z.1,q.1⟩,q.2⟩
theorem se_cel(E:C.EnvOk){i:Nat}{x:Str}{pos:Pos}{k:NameKind}(h1:C.ns[i]?=some (x,k))(h2:C.ns.lookup x=some k)(hk:k=.cell∨k=.free)(hd:(x == ("__debug__":Str))=false)(hcd:(x == ("__classdict__":Str))=false) :
  SE W T CT C (.cel i) (.Name x pos):=fun g l H s QQ EE Q X a hw hq hx=>KCel.use hw fun c w q qc hw=>(a.own.isCell qc).elim fun v z=>
 have hc:=at_cell l.vars hk h1 h2 q
 have fin:=hq _ _ s H a z.2 hw
 .of<|wpAny_Name ((E.cf h2 hk).elim (fun k=>wpAny_loadName_cell E.ek k hc z.1 fin) fun k=>wpAny_loadName_free E.ek k hc z.1 fin hcd) hd
theorem se_int{i:Int}{k:Nat}{pos:Pos}:SE W T CT C (.cst (.int i)) (.Constant (.int i) k pos):=fun g l H s QQ EE Q X a hw hq hx=>.of<|wpAny_Constant_int (hq _ _ _ H a (.int i _) hw)
theorem se_bool{b:Bool}{k:Nat}{pos:Pos}:SE W T CT C (.cst (.bool b)) (.Constant (.bool b) k pos):=fun g l H s QQ EE Q X a hw hq hx=>.of<|wpAny_Constant_bool (hq _ _ _ H a (.bool b) hw)
theorem se_none{k:Nat}{pos:Pos}:SE W T CT C (.cst .none) (.Constant .none k pos):=fun g l H s QQ EE Q X a hw hq hx=>.of<|wpAny_Constant_none (hq _ _ _ H a .none hw)
theorem se_str{x:String}{k:Nat}{pos:Pos}:SE W T CT C (.cst (.str x)) (.Constant (.str (Str.ofString x)) k pos):=fun g l H s QQ EE Q X a hw hq hx=>.of<|Constant_str (hq _ _ _ H a (.str x _) hw)
theorem name_at(E:C.EnvOk)(K:∃rk,C.Ok W T rk){x:String}{v:Value}{pos:Pos}{g:RG}{mF:SM}{H:Hp}{s:Shared}{QQ EE:VQ}(a:At W C g mF H s)(hl:C.ns.lookup (Str.ofString x)=some .globalImplicit)(hd:(Str.ofString x == ("__debug__":Str))=false)
  (hv:∀G:GF W T C.h₀,G.At x v)(h:QQ v s):wpC (model W.prog W.w) C.A (eval (.Name (Str.ofString x) pos) C.env) QQ EE s:=
 K.elim fun _ K=>(hv K.G).elim fun _ z=>.of<|Name_function_global E.ek (E.glob hl) (loadGlobal_global (E.eg▸z.1.keeps a.F.keep) z.2 h) hd
theorem se_gint(K:∃rk,C.Ok W T rk)(E:C.EnvOk){x:String}{i:Int}{pos:Pos}(h:(x,i)∈T.gi)(hl:C.ns.lookup (Str.ofString x)=some .globalImplicit)(hd:(Str.ofString x == ("__debug__":Str))=false):SE W T CT C (.gint x i) (.Name (Str.ofString x) pos):=
 fun g l H s QQ EE Q X a hw hq hx=>K.elim fun _ k=>(k.G.gi h).elim fun t z=>name_at E K a hl hd (fun _=>z) (hq _ _ s H a (.int i t) hw)
theorem bitOr_nat(a b:Nat):Builtin.bitOr a b=((a|||b:Nat):Int):=by
 delta Builtin.bitOr Builtin.bitAnd
 have h (a:Nat):¬(0≤Builtin.bitNot a):=by unfold Builtin.bitNot;omega
 have e (a:Nat):Builtin.bitNot (Builtin.bitNot a)=a:=by unfold Builtin.bitNot;omega
 simp only [decide_eq_false (h a),decide_eq_false (h b)]
 simp only [e]
 rfl
noncomputable def opOf:BOp→Operator
 | .add=>.Add | .sub=>.Sub | .mul=>.Mult | .fdiv=>.FloorDiv | .mod=>.Mod | .and=>.BitAnd | .or=>.BitOr | .shl=>.LShift | .shr=>.RShift
theorem bits64{a:Int}(h:a.natAbs<18446744073709551616):Builtin.Int.intBits a≤64:=intBits_le_iff.mpr (by simpa using h)
end
end
end Mine
end
section
open PySem PySem.W PyProof.Rows PySem.Calls PySem.Spec
set_option genInjectivity false
set_option genSizeOf false
set_option genCtorIdx false
set_option bootstrap.genMatcherCode false
set_option backward.match.sparseCases false
namespace Mine
open KTr KAttr WBin WCmp KSub KLen KSlf KSlt KSlc KMax LO WB SU KIs KApp AppL AppA ExtL ExtA KDget KTk KCel KMeth OV BT ST2 KSa KAsC WhI ForI CompI KMM KEn
section
section
variable {W:Wd}{T:Tabs}{CT:CT}{C:Cx}
theorem sizeL:sizeLine=16777216:=rfl
theorem Own.isList{h₀ h:Heap}{L:Addr}{H:Hp}{G:Addr→Option Obj}(K:Own W h₀ L h H G){a:Nat}{vs:List V}(e:H a=some (.list vs)){P:Prop}
  (k:∀items n,h.get? a=some (listOf items n)→h.IsList a items→VRs items.toList vs→items.size=vs.length→P):P:=
 (K.obj a _ e).2.2.2.elim fun ro z=>z.2.elim fun items q=>q.elim fun n q=>k items n (q.1▸z.1) ⟨_,q.1▸z.1,rfl,_,rfl⟩ q.2 q.2.length
theorem Own.isTup{h₀ h:Heap}{L:Addr}{H:Hp}{G:Addr→Option Obj}(K:Own W h₀ L h H G){a:Nat}{vs:List V}(e:H a=some (.tuple vs)){P:Prop}(k:∀items,IsTup h a items→VRs items.toList vs→items.size=vs.length→P):P:=
 (K.obj a _ e).2.2.2.elim fun ro z=>z.2.elim fun items q=>q.elim fun n q=>k items ⟨_,q.1▸z.1,rfl,_,rfl⟩ q.2 q.2.length
theorem AtH.fresh{h₀:Heap}{L:Addr}{g:RG}{mF:SM}{H:Hp}{h:Heap}{ge:Array GenState}{d:Drawn}{os:OsState}(a:AtH W h₀ L g mF H h ge d os):H h.objs.size=none∧g.G h.objs.size=none:=a.own.none_of (Heap.get_size h)
@[elab_as_elim] theorem VR.onI{v:Value}{i:Int}{P:Value→Prop}(h:VR v (.int i))(k:∀t,P (.int i t)):P v:=h.i.elim fun t e=>e▸k t
@[elab_as_elim] theorem VR.onS{v:Value}{x:String}{P:Value→Prop}(h:VR v (.str x))(k:∀t,P (.str (Str.ofString x) t)):P v:=h.st.elim fun t e=>e▸k t
@[elab_as_elim] theorem VR.onY{v:Value}{b:List Nat}{P:Value→List Nat→Prop}(h:VR v (.bytes b))(k:∀a t,P (.bytes a t) (a.toList.map UInt8.toNat)):P v b:=h.by.elim fun a z=>z.elim fun t z=>z.1▸z.2▸k a t
@[elab_as_elim] theorem VR.onR{v:Value}{a:Nat}{P:Value→Prop}(h:VR v (.ref a))(k:P (.ref a)):P v:=h.r▸k
@[elab_as_elim] theorem VR.onB{v:Value}{b:Bool}{P:Value→Prop}(h:VR v (.bool b))(k:P (.bool b)):P v:=h.bo▸k
theorem foldl_rep(a:Value):∀(k:Nat) (acc:List Value),(List.foldl (fun x1 x2=>x1++x2) acc.toArray (List.replicate k #[a])).toList=acc++List.replicate k a
 |0,acc=>(List.append_nil acc).symm
 |k+1,acc=>by
  rw [List.replicate_succ,List.foldl_cons,show acc.toArray ++ #[a]=(acc++[a]).toArray by simp,foldl_rep,List.replicate_succ,List.append_assoc];rfl
@[elab_as_elim] theorem VR.on2{v w:Value}{i j:Int}{P:Value→Value→Prop}(h:VR v (.int i))(h':VR w (.int j))(k:∀t u,P (.int i t) (.int j u)):P v w:=h.onI fun t=>h'.onI fun u=>k t u
@[elab_as_elim] theorem VRs.inv{vs:List Value}{x:V}{xs:List V}(h:VRs vs (x::xs)){P:List Value→Prop}(k:∀v vs,VR v x→VRs vs xs→P (v::vs)):P vs:=by cases h with |cons a b=>exact k _ _ a b
theorem VRs.nilI{vs:List Value}(h:VRs vs []):vs=[]:=by cases h;rfl
theorem VRs.sole{vs:List Value}{x:V}(h:VRs vs [x]):∃v,vs=[v]∧VR v x:=h.inv fun v _ hv hr=>⟨v,congrArg _ hr.nilI,hv⟩
section
variable {v w:Value}{g:RG}{mF:SM}{H:Hp}{s:Shared}{QQ:VQ}{EE:VQ}{Q:V→Hp→Prop}(a:At W C g mF H s)(hq:Fin1 W C g mF QQ Q)
include a hq
theorem cat_of{x y:Nat}{xs ys:List V}(h1:H x=some (.list xs))(h2:H y=some (.list ys))(h3:xs.length+ys.length≤16777216)(k:∀r,H r=none→Q (.ref r) (H.put r (.list (xs++ys)))):wpAny (model W.prog W.w) C.A (binaryOp .Add (.ref x) (.ref y)) QQ EE s:=
 a.own.isList h1 fun i1 n1 _ l1 v1 z1=>a.own.isList h2 fun i2 n2 _ l2 v2 z2=>add_arrays a.F a.own.news l1 l2 (fun h' F' N'=>hq _ _ _ _ (a.to F' (a.own.cons N' a.fresh (.list (n:=0) (v1.append v2)))) (.ref _) (k _ a.fresh.1)) (by rw [z1,z2];exact h3)
theorem rep_of{x n:Nat}{t:Tok}{y:V}(h1:H x=some (.list [y]))(h2:n≤1048576)(k:∀r,H r=none→Q (.ref r) (H.put r (.list (List.replicate n y)))):wpAny (model W.prog W.w) C.A (binaryOp .Mult (.ref x) (.int n t)) QQ EE s:=
 a.own.isList h1 fun i1 n1 hg _ v1 z1=>v1.sole.elim fun a1 z=>by
  obtain rfl:i1 = #[a1]:=congrArg List.toArray z.1
  exact mul_list a.F a.own.news hg (by exact Int.natCast_nonneg _) (by omega) (by rw [Int.toNat_natCast,z1];show 1*n≤2^24;exact lz [_] [] 9140603091231869402905106844677743872 rfl h2) fun h' F' N'=>hq _ _ _ _ (a.to F' (a.own.cons N' a.fresh (.list (n:=0) ((foldl_rep a1 n [])▸VRs.replicate z.2 _)))) (.ref _) (k _ a.fresh.1)
theorem wBin_of{op:BOp}{x y:V}(hv:VR v x)(hw:VR w y)(h:WBin Q H op x y):wpAny (model W.prog W.w) C.A (binaryOp (opOf op) v w) QQ EE s:=
 WBin.rec (motive:=fun op x y _=>VR v x→VR w y→wpAny (model W.prog W.w) C.A (binaryOp (opOf op) v w) QQ EE s)
  (fun e q hv hw=>hv.on2 hw fun t u=>add_int (hq _ _ _ H a (e▸.int _ _) q))
  (fun e q hv hw=>hv.on2 hw fun t u=>sub_int (hq _ _ _ H a (e▸.int _ _) q))
  (fun h1 h2 q hv hw=>hv.on2 hw fun t u=>mul_int (hq _ _ _ H a (.int _ _) q) (.of_left (bits64 h1)))
  (fun h1 h2 q hv hw=>hv.on2 hw fun t u=>floordiv_int (Int.ne_of_gt h1) (by rw [Int.fdiv_eq_ediv_of_nonneg _ (Int.le_of_lt h1)];exact hq _ _ _ H a (.int _ _) q) (.inl (PyProof.noPylong_small (by exact lz [_] [_] 11315518537589815334548557021320600409015943826758500474395055361 rfl h2 (Int.natAbs_of_nonneg (lz [] [_] 1417584921093 rfl h1))))))
  (fun h1 q hv hw=>hv.on2 hw fun t u=>mod_int' (Int.ne_of_gt h1) (by rw [Int.fmod_eq_emod_of_nonneg _ (Int.le_of_lt h1)];exact hq _ _ _ H a (.int _ _) q))
  (fun q hv hw=>hv.on2 hw fun t u=>and_int (hq _ _ _ H a (.int _ _) q))
  (fun q hv hw=>hv.on2 hw fun t u=>or_int (by rw [bitOr_nat];exact hq _ _ _ H a (.int _ _) q))
  (fun h1 h2 q hv hw=>hv.on2 hw fun t u=>lshift_int_small (Int.natCast_nonneg _) (Int.ofNat_le.mpr (Nat.le_trans h1 (by decide))) h2 (hq _ _ _ H a (.int _ _) q))
  (fun q hv hw=>hv.on2 hw fun t u=>rshift_int (Int.natCast_nonneg _) (by
   rw [Int.fdiv_eq_ediv_of_nonneg _ (Int.le_of_lt (Int.pow_pos (by decide)))]
   exact hq _ _ _ H a (.int _ _) q))
  (fun {x y} h1 q hv hw=>(hv.onY (P:=fun v x=>x.length+y.length≤16777216→Q (.bytes (x++y)) H→wpAny (model W.prog W.w) C.A (binaryOp .Add v w) QQ EE s) fun b t=>hw.onY (P:=fun w y=>(b.toList.map UInt8.toNat).length+y.length≤16777216→Q (.bytes (b.toList.map UInt8.toNat++y)) H→wpAny (model W.prog W.w) C.A (binaryOp .Add (.bytes b t) w) QQ EE s) fun c u h1 q=>bytes_add_K (b:=b.toList) (c:=c.toList) (by rw [List.length_map,List.length_map]at h1;exact h1) rfl fun t' k=>hq _ _ _ H a (List.map_append▸VR.bytes (b.toList++c.toList).toArray t') q) h1 q)
  (fun h1 h2 h3 q hv hw=>hv.onR<|hw.onR<|cat_of a hq h1 h2 h3 q)
  (fun h1 h2 q hv hw=>hv.onR<|hw.onI fun t=>rep_of a hq h1 h2 q) h hv hw
end
theorem se_bin{op:BOp}{a b:ME}{l e:Expr}{pos:Pos}(h1:SE W T CT C a l)(h2:SE W T CT C b e):SE W T CT C (.bin op a b) (.BinOp l (opOf op) e pos):=
 fun g l H s QQ EE Q X a hw hq hx=>c_BinOp (h1 g l H s _ EE _ X a hw (fun v x s1 H1 a1 hv hw1=>h2 g l H1 s1 _ EE _ X a1 hw1 (fun w y s2 H2 a2 hw' hw2=>.of (wBin_of a2 hq hv hw' hw2)) hx) hx)
theorem neg_of{x:V}{v:Value}{s:Shared}{QQ:VQ}{EE:VQ}{Q:QV}{H:Hp}(hv:VR v x)(h:kNeg Q x H)(k:∀i t tk,Q (.int i) H→QQ (.int i t) {s with toks:=tk}):wpAny (model W.prog W.w) C.A (unaryOp .USub v) QQ EE s:=
 hv.elim (P:=fun v x=>kNeg Q x H→wpAny (model W.prog W.w) C.A (unaryOp .USub v) QQ EE s) False.elim (fun _=>False.elim) (fun i t h=>neg_int (k _ _ _ h)) (fun _ _=>False.elim) (fun _ _=>False.elim) (fun _=>False.elim) h
theorem se_neg{a:ME}{e:Expr}{pos:Pos}(h1:SE W T CT C a e):SE W T CT C (.neg a) (.UnaryOp .USub e pos):=
 fun g l H s QQ EE Q X a hw hq hx=>c_UnaryOp (h1 g l H s _ EE _ X a hw (fun v x s1 H1 a1 hv hw1=>.of (neg_of hv hw1 fun i t tk q=>hq _ _ _ H1 a1 (.int _ _) q)) hx)
theorem KTr.b{Q:Bool→Hp→Prop}{H:Hp}{c:Bool}:KTr Q H (.bool c)→Q c H | .iT e q=>sI e▸q
theorem se_not{a:ME}{e:Expr}{pos:Pos}(h1:SE W T CT C a e):SE W T CT C (.not a) (.UnaryOp .Not e pos):=
 fun g l H s QQ EE Q X a hw hq hx=>c_UnaryOp (h1 g l H s _ EE _ X a hw (fun v x s1 H1 a1 hv ⟨q,hw1⟩=>.of (not_of (truthy_of hv q (hq _ _ _ H1 a1 (.bool _) hw1)))) hx)
theorem st_not{a:ME}{e:Expr}{pos:Pos}(h1:ST W T CT C a e):ST W T CT C (.not a) (.UnaryOp .Not e pos):=
 fun g l H s QQ EE Q X a hw hq hx=>c_isTrue_not (h1 g l H s (fun c s'=>QQ (!c) s') EE _ X a hw (fun b s' H' a' hQ=>hq _ s' H' a' (KTr.b hQ)) hx)
noncomputable def copOf:COp→CmpOp
 | .lt=>.Lt | .le=>.LtE | .gt=>.Gt | .ge=>.GtE | .eq=>.Eq | .ne=>.NotEq | .is=>.Is | .isnot=>.IsNot
theorem ofString_inj{a b:String}(h:Str.ofString a=Str.ofString b):a=b:=by
 rw [Str.ofString_eq_toList,Str.ofString_eq_toList]at h
 exact String.toList_inj.mp ((List.map_inj_right fun x y e=>Char.ext (UInt32.toNat_inj.mp e)).mp (congrArg (fun x:Str=>x.cps.toList) h))
theorem VRs.ints:∀{ns:List Int} {vs:List Value},VRs vs (ns.map V.int)→IntsAre vs ns
 | [],_,h=>h.nilI▸.nil
 |_::_,_,h=>h.inv fun v vs hv hr=>hv.onI fun t=>.cons _ _ hr.ints
theorem eq_ofS{a b:String}:(Str.ofString a == Str.ofString b)=decide (a=b):=by
 rw [Bool.eq_iff_iff,beq_iff_eq,decide_eq_true_eq]
 exact ⟨ofString_inj,congrArg _⟩
theorem eq_ofY{a b:List UInt8}:(a == b)=decide (a.map UInt8.toNat=b.map UInt8.toNat):=by
 rw [Bool.eq_iff_iff,beq_iff_eq,decide_eq_true_eq]
 exact (List.map_inj_right fun x y e=>UInt8.toNat_inj.mp e).symm
theorem VR.isN{v:Value}{x:V}(h:VR v x):(v == Value.none)=Mine.isN x:=h.elim (P:=fun v x=>(v == Value.none)=Mine.isN x) rfl (fun _=>rfl) (fun _ _=>rfl) (fun _ _=>rfl) (fun _ _=>rfl) (fun _=>rfl)
theorem VR.plain{v:Value}{x:V}(h:VR v x):plainIs v .none=true:=h.elim (P:=fun v _=>plainIs v .none=true) rfl (fun _=>rfl) (fun _ _=>rfl) (fun _ _=>rfl) (fun _ _=>rfl) (fun _=>rfl)
section
variable {x y:V}{op:COp}{b r:Bool}{v w:Value}{g:RG}{mF:SM}{H:Hp}{s:Shared}{QQ:VQ}{EE:VQ}{Q:V→Hp→Prop}
@[elab_as_elim] theorem eqO_elim{P:COp→Bool→Prop}(h:eqO op b=some r)(h1:P .eq b)(h2:P .ne (!b)):P op r:=by cases op <;> first |exact noS h |exact sI h▸h1 |exact sI h▸h2
theorem cmpN_of(hv:VR v x)(h:isO op (Mine.isN x)=some r)(hq:QQ (.bool r) s):wpAny (model W.prog W.w) C.A (compareOp (copOf op) v .none) QQ EE s:=by
 rw [←hv.isN]at h
 cases op with
 |is=>exact is_none (sI h▸hq)
 |isnot=>exact wpAny_isNot_plain hv.plain (sI h▸hq)
 |_=>exact noS h
theorem cmpI_of{a c:Int}{t u:Tok}(h:cmpI op a c=some r)(hq:QQ (.bool r) s):wpAny (model W.prog W.w) C.A (compareOp (copOf op) (.int a t) (.int c u)) QQ EE s:=by
 cases op with
 |lt=>exact lt_int (sI h▸hq)
 |le=>exact le_int (sI h▸hq)
 |gt=>exact gt_int (sI h▸hq)
 |ge=>exact ge_int (sI h▸hq)
 |eq=>exact eq_int (show QQ (.bool (decide _)) s from sI h▸hq)
 |ne=>exact ne_int (by rw [←sI h,decide_not]at hq;exact hq)
 |_=>exact noS h
theorem cmpV_of(hv:VR v x)(hw:VR w y)(h:cmpV op x y=some r)(hq:QQ (.bool r) s):wpAny (model W.prog W.w) C.A (compareOp (copOf op) v w) QQ EE s:=
 hw.elim (P:=fun w y=>cmpV op x y=some r→wpAny (model W.prog W.w) C.A (compareOp (copOf op) v w) QQ EE s) (fun h=>cmpN_of hv h hq) (fun _ h=>noS h)
  (fun c u=>hv.elim (P:=fun v x=>cmpV op x (.int c)=some r→wpAny (model W.prog W.w) C.A (compareOp (copOf op) v (.int c u)) QQ EE s) (fun h=>noS h) (fun _ h=>noS h) (fun a t h=>cmpI_of h hq) (fun _ _ h=>noS h) (fun _ _ h=>noS h) fun _ h=>noS h)
  (fun _ _ h=>noS h) (fun _ _ h=>noS h) (fun _ h=>noS h) h
theorem eq_of2(e:eqO op b=some r)(q:QQ (.bool r) s)(h1:QQ (.bool b) s→wpAny (model W.prog W.w) C.A (compareOp .Eq v w) QQ EE s)(h2:QQ (.bool (!b)) s→wpAny (model W.prog W.w) C.A (compareOp .NotEq v w) QQ EE s):wpAny (model W.prog W.w) C.A (compareOp (copOf op) v w) QQ EE s:=
 eqO_elim (P:=fun op r=>QQ (.bool r) s→wpAny (model W.prog W.w) C.A (compareOp (copOf op) v w) QQ EE s) e h1 h2 q
theorem wCmp_of(hu:C.A.units+64<cLine)(a:At W C g mF H s)(hv:VR v x)(hw:VR w y)(h:WCmp Q H op x y)(hq:∀b,Q (.bool b) H→QQ (.bool b) s):wpAny (model W.prog W.w) C.A (compareOp (copOf op) v w) QQ EE s:=
 WCmp.rec (motive:=fun x y _=>VR v x→VR w y→wpAny (model W.prog W.w) C.A (compareOp (copOf op) v w) QQ EE s)
  (fun e q hv hw=>hv.onS fun t=>hw.onS fun u=>eq_of2 e (hq _ q) (fun q=>PyProof.Rows.eq_str (eq_ofS▸q)) fun q=>ne_str (by rw [bne,eq_ofS];exact q))
  (fun {x y r} e q hv hw=>(hv.onY (P:=fun v x=>eqO op (decide (x=y))=some r→wpAny (model W.prog W.w) C.A (compareOp (copOf op) v w) QQ EE s) fun b t=>hw.onY (P:=fun w y=>eqO op (decide (b.toList.map UInt8.toNat=y))=some r→wpAny (model W.prog W.w) C.A (compareOp (copOf op) (.bytes b t) w) QQ EE s) fun c u e=>eq_of2 e (hq _ q) (fun q=>eq_bytes (eq_ofY▸q)) fun q=>ne_bytes (by rw [bne,eq_ofY];exact q)) e)
  (fun e q hv hw=>hv.onB<|hw.onB<|eq_of2 e (hq _ q) (fun q=>eq_bool q) fun q=>ne_bool q)
  (fun h1 h2 e q hv hw=>hv.onR<|hw.onR<|a.own.isList h1 fun i1 _ _ l1 v1 _=>a.own.isList h2 fun i2 _ _ l2 v2 _=>eq_of2 e (hq _ q) (fun q=>eq_intsK (vs:=i1.toList) (us:=i2.toList) l1 v1.ints l2 v2.ints hu q) fun q=>ne_intsK (vs:=i1.toList) (us:=i2.toList) l1 v1.ints l2 v2.ints hu q) h hv hw
theorem cmp_of(hu:C.A.units+64<cLine)(a:At W C g mF H s)(hv:VR v x)(hw:VR w y)(h:kCmp2 Q op x y H)(hq:∀b,Q (.bool b) H→QQ (.bool b) s):wpAny (model W.prog W.w) C.A (compareOp (copOf op) v w) QQ EE s:=by
 unfold kCmp2 at h
 generalize e:cmpV op x y=o at h
 cases o with
 |some r=>exact cmpV_of hv hw e (hq _ h)
 |none=>exact wCmp_of hu a hv hw h hq
end
theorem se_cmp(hu:C.A.units+64<cLine){op:COp}{a b:ME}{l e:Expr}{pos:Pos}(h1:SE W T CT C a l)(h2:SE W T CT C b e)(hm:behindInMarks (copOf op) e=false):SE W T CT C (.cmp op a b) (.Compare l [copOf op] [e] pos):=
 fun g l H s QQ EE Q X a hw hq hx=>c_Compare1 (h1 g l H s _ EE _ X a hw (fun v x s1 H1 a1 hv hw1=>h2 g l H1 s1 _ EE _ X a1 hw1 (fun w y s2 H2 a2 hw' hw2=>.of (cmp_of hu a2 hv hw' hw2 fun b q=>hq _ _ s2 H2 a2 (.bool _) q)) hx) hx) hm
theorem st_cmp(hu:C.A.units+64<cLine){op:COp}{a b:ME}{l e:Expr}{pos:Pos}(h1:SE W T CT C a l)(h2:SE W T CT C b e)(hm:behindInMarks (copOf op) e=false):ST W T CT C (.cmp op a b) (.Compare l [copOf op] [e] pos):=
 fun g l H s QQ EE Q X a hw hq hx=>c_isTrue_Compare1 (h1 g l H s _ EE _ X a hw (fun v x s1 H1 a1 hv hw1=>h2 g l H1 s1 _ EE _ X a1 hw1 (fun w y s2 H2 a2 hw' hw2=>.of (cmp_of hu a2 hv hw' hw2 fun b q=>.of (wpAny_truthy_bool (hq b s2 H2 a2 (KTr.b q))))) hx) hx) hm
theorem se_ite{c t e:ME}{lc lt le:Expr}{pos:Pos}(h1:ST W T CT C c lc)(h2:SE W T CT C t lt)(h3:SE W T CT C e le):SE W T CT C (.ite c t e) (.IfExp lc lt le pos):=
 fun g l H s QQ EE Q X a hw hq hx=>c_IfExp (h1 g l H s _ EE _ X a hw (Bool.rec (fun s' H' a' hQ=>h3 g l H' s' QQ EE Q X a' hQ hq hx) fun s' H' a' hQ=>h2 g l H' s' QQ EE Q X a' hQ hq hx) hx)
end
end
end Mine
end
section
open PySem PySem.W PyProof.Rows PySem.Calls PySem.Spec
set_option maxHeartbeats 4000000
namespace Mine
section
theorem ba_slot_len:Slot "bytearray" "__len__" "bytearray.__len__":=
 .of (owner:="bytearray") (n:="__len__") (by rw [typeLookup_type,builtinLookup_eq_fast];kernel_rfl) (by decide +kernel) (by decide +kernel) (by decide +kernel) (by first |exact .inl (by decide +kernel) |exact .inr (by decide +kernel)) (by rw [isSubtype_type];kernel_rfl)
theorem ba_entry_len:entryFor table "bytearray.__len__"=some Builtin.«bytearray.__len__» := entryFor_of_tree (by kernel_rfl)
theorem ba_args_len(a:Value):argsOk "bytearray.__len__" ⟨[a],[]⟩:=by unfold argsOk;kernel_rfl
theorem ba_slot_getitem:Slot "bytearray" "__getitem__" "bytearray.__getitem__":=
 .of (owner:="bytearray") (n:="__getitem__") (by rw [typeLookup_type,builtinLookup_eq_fast];kernel_rfl) (by decide +kernel) (by decide +kernel) (by decide +kernel) (by first |exact .inl (by decide +kernel) |exact .inr (by decide +kernel)) (by rw [isSubtype_type];kernel_rfl)
theorem ba_entry_getitem:entryFor table "bytearray.__getitem__"=some Builtin.«bytearray.__getitem__» := entryFor_of_tree (by kernel_rfl)
theorem ba_args_getitem(a b:Value):argsOk "bytearray.__getitem__" ⟨[a,b],[]⟩:=by unfold argsOk;kernel_rfl
theorem ba_slot_append:Slot "bytearray" "append" "bytearray.append":=
 .of (owner:="bytearray") (n:="append") (by rw [typeLookup_type,builtinLookup_eq_fast];kernel_rfl) (by decide +kernel) (by decide +kernel) (by decide +kernel) (by first |exact .inl (by decide +kernel) |exact .inr (by decide +kernel)) (by rw [isSubtype_type];kernel_rfl)
theorem ba_entry_append:entryFor table "bytearray.append"=some Builtin.«bytearray.append» := entryFor_of_tree (by kernel_rfl)
theorem ba_args_append(a b:Value):argsOk "bytearray.append" ⟨[a,b],[]⟩:=by unfold argsOk;kernel_rfl
theorem ba_type_append:typeOf (.builtin "bytearray.append")=pure (.type "method_descriptor"):=by show builtinType _=_;rw [builtinType_eq_fast];kernel_rfl
theorem ba_slot_extend:Slot "bytearray" "extend" "bytearray.extend":=
 .of (owner:="bytearray") (n:="extend") (by rw [typeLookup_type,builtinLookup_eq_fast];kernel_rfl) (by decide +kernel) (by decide +kernel) (by decide +kernel) (by first |exact .inl (by decide +kernel) |exact .inr (by decide +kernel)) (by rw [isSubtype_type];kernel_rfl)
theorem ba_entry_extend:entryFor table "bytearray.extend"=some Builtin.«bytearray.extend» := entryFor_of_tree (by kernel_rfl)
theorem ba_args_extend(a b:Value):argsOk "bytearray.extend" ⟨[a,b],[]⟩:=by unfold argsOk;kernel_rfl
theorem ba_type_extend:typeOf (.builtin "bytearray.extend")=pure (.type "method_descriptor"):=by show builtinType _=_;rw [builtinType_eq_fast];kernel_rfl
theorem ba_plain:PlainAttrs "bytearray":=
 ⟨⟨"bytearray.__getattribute__",by rw [typeLookup_type,builtinLookup_eq_fast];kernel_rfl,by decide +kernel⟩,by rw [typeLookup_type,builtinLookup_eq_fast];kernel_rfl⟩
theorem ba_mro:mroOf (.type "bytearray")=pure [.type "bytearray",.type "object"]:=by rw [mroOf_type];kernel_rfl
theorem ba_lookup_new:typeLookup (.type "bytearray") "__new__"=pure (some (.builtin "bytearray.__new__")):=by rw [typeLookup_type,builtinLookup_eq_fast];kernel_rfl
theorem ba_slot_init:Slot "bytearray" "__init__" "bytearray.__init__":=
 .of (owner:="bytearray") (n:="__init__") (by rw [typeLookup_type,builtinLookup_eq_fast];kernel_rfl) (by decide +kernel) (by decide +kernel) (by decide +kernel) (by first |exact .inl (by decide +kernel) |exact .inr (by decide +kernel)) (by rw [isSubtype_type];kernel_rfl)
theorem ba_called:TypeCalled "bytearray" "bytearray.__new__" "bytearray.__init__":=
 ⟨by decide +kernel,by decide +kernel,⟨_,_,ba_mro⟩,madeBy_type ba_mro ba_lookup_new (by decide +kernel),by decide +kernel,by rw [isSubtype_type];kernel_rfl,ba_slot_init⟩
theorem ba_entry_init:entryFor table "bytearray.__init__"=some Builtin.«bytearray.__init__» := entryFor_of_tree (by kernel_rfl)
theorem ba_args_init(a:Value):argsOk "bytearray.__init__" ⟨[a],[]⟩:=by unfold argsOk;kernel_rfl
theorem ba_entry_new:entryFor table "bytearray.__new__"=some Builtin.«list.__new__» := entryFor_alias (id':="list.__new__") (by kernel_rfl) rfl (by decide +kernel) (by kernel_rfl)
theorem ba_plain_new:plainId "bytearray.__new__"=true:=by decide +kernel
theorem ba_typeCall:checkTypeCall "bytearray" ⟨[],[]⟩=pure ():=by kernel_rfl
theorem ba_newCall:checkBuiltinCall "bytearray.__new__" ⟨[.type "bytearray"],[]⟩=pure ():=by kernel_rfl
theorem ba_no_bytes:typeLookup (.type "bytearray") "__bytes__"=pure none:=by rw [typeLookup_type,builtinLookup_eq_fast];kernel_rfl
theorem ba_no_index:typeLookup (.type "bytearray") "__index__"=pure none:=by rw [typeLookup_type,builtinLookup_eq_fast];kernel_rfl
theorem ba_buffer:typeLookup (.type "bytearray") "__buffer__"=pure (some (.builtin "bytearray.__buffer__")):=by rw [typeLookup_type,builtinLookup_eq_fast];kernel_rfl
theorem ba_release:typeLookup (.type "bytearray") "__release_buffer__"=pure (some (.builtin "bytearray.__release_buffer__")):=by rw [typeLookup_type,builtinLookup_eq_fast];kernel_rfl
set_option maxRecDepth 1000000 in
theorem ba_owner_new:("bytearray.__new__".splitOn ".__new__").headD ""="bytearray":=by simp +decide [String.splitOn,String.splitOnAux]
end
section
noncomputable abbrev baObj(arr:Array UInt8):Obj:={cls:=.type "bytearray",data:=.bytearray arr 0}
section
variable {prog:Program}{w:World}{A:Around}{E:VQ}{s:Shared}{a:Addr}{arr:Array UInt8}
theorem ba_typeIs(h:s.heap.get? a=some (baObj arr)):s.TypeIs (.ref a) "bytearray":=⟨_,h,rfl⟩
theorem ba_payload{M:Model}{Q:Array UInt8→Shared→Prop}(h:s.heap.get? a=some (baObj arr))(q:Q arr s):wpAny M A (Builtin.Bytes.payload (.ref a)) Q E s:=by
 unfold Builtin.Bytes.payload Builtin.Bytes.payload?
 exact wpAny_bind (wpAny_bind (wpAny_load h (wpAny_pure (wpAny_pure q))))
theorem ba_len{Q:VQ}(h:s.heap.get? a=some (baObj arr))(hz:arr.size≤16777216)(q:Q (.int arr.size (s.toks+1)) {s with toks:=s.toks+1+1}):wpAny (model prog w) A (call (.builtin "len") [.ref a]) Q E s:=by
 refine call_len_slot (n:=(arr.size:Int)) (ba_typeIs h) ba_slot_len (fun Q' q'=>?_) (by exact lz [_] [] 10507529 rfl) (by omega) q
 refine wpAny_call_entry ba_slot_len (ba_typeIs h) ba_entry_len ?_ (ba_args_len _)
 show wpAny _ _ (Builtin.Bytes.payload (.ref a) >>= fun b=>retInt b.size) _ _ s
 exact wpAny_bind (ba_payload h (wpAny_bind (wpAny_mkInt (wpAny_pure ⟨_,rfl,q'⟩))))
theorem ba_getItem{i:Int}{u:Tok}{c:UInt8}{Q:VQ}(h:s.heap.get? a=some (baObj arr))(h0:0≤i)(h1:i<4294967296)(hc:arr[i.toNat]?=some c)
  (q:Q (.int c.toNat s.toks) {s with toks:=s.toks+1}):wpAny (model prog w) A (getItem (.ref a) (.int i u)) Q E s:=by
 refine wpAny_getItem_slot (ba_typeIs h) (by decide +kernel) ba_slot_getitem ?_
 refine wpAny_call_entry ba_slot_getitem (ba_typeIs h) ba_entry_getitem ?_ (ba_args_getitem _ _)
 show wpAny _ _ (Builtin.Bytes.subscript? (.int i u) >>= fun r=>_) _ _ s
 refine wpAny_bind ?_
 unfold Builtin.Bytes.subscript?
 refine wpAny_bind (wpAny_specialOf (typeIs_int s i u) F.slot_int_index.lookup ?_)
 show wpAny _ _ (if (!Builtin.Bytes.fitsIndex i)=true then _ else pure (some i)) _ _ s
 have hf:Builtin.Bytes.fitsIndex i=true:=by simp only [Builtin.Bytes.fitsIndex,Bool.and_eq_true,decide_eq_true_eq];omega
 rw [hf]
 refine wpAny_pure ?_
 show wpAny _ _ (Builtin.Bytes.payload (.ref a) >>= fun b=>match (seqIndex? i b.size).bind (b[·]?) with |some x=>retInt x.toNat |none=>_) _ _ s
 refine wpAny_bind (ba_payload h ?_)
 have hlt:i.toNat<arr.size:=(Array.getElem?_eq_some_iff.mp hc).1
 have hs:seqIndex? i arr.size=some i.toNat:=by
  have hn:¬i<0:=by exact lz [] [_] 2770482842121 rfl h0
  have h2:i<arr.size:=by exact lz [_,_] [_] 1611813831068297353778438 rfl hlt (Int.toNat_of_nonneg (lz [] [_] 1417568143877 rfl h0))
  simp [seqIndex?,hn,h0,h2]
 rw [hs,Option.bind_some,hc]
 exact wpAny_bind (wpAny_mkInt (wpAny_pure ⟨_,rfl,q⟩))
theorem ba_method{name:Str}{id:String}{pl:Sem Bool}{Q:Value×List Value→Shared→Prop}(h:s.heap.get? a=some (baObj arr))(slot:Slot "bytearray" name id)(hty:typeOf (.builtin id)=pure (.type "method_descriptor"))
  (q:Q (.builtin id,[.ref a]) s):wpAny (model prog w) A (getMethod (.ref a) name pl) Q E s:=
 getMethod_builtin ⟨_,h,rfl⟩ ba_plain slot hty (fun b e=>by cases e;exact ⟨_,h,rfl⟩) q
end
end
section
section
variable {prog:Program}{w:World}{A:Around}{E:VQ}{s:Shared}{a:Addr}{arr:Array UInt8}
theorem c_call_entry{T:String}{name:Str}{id:String}{b:Builtin}{self:Value}{rest:List Value}{Q:VQ}(h:Slot T name id)(hT:s.TypeIs self T)(hb:entryFor table id=some b)(hok:Builtin.Bytes.decodersThatHold.contains id=false)
  (hc:wpC (model prog w) A.in1 (b ⟨self::rest,[]⟩) (fun fin s'=>∃v,fin=.done (.ret v)∧Q v s') E s)(ha:argsOk id ⟨self::rest,[]⟩):wpC (model prog w) A (call (.builtin id) (self::rest)) Q E s:=by
 refine ccall (codeC_of_tree rfl ?_)
 show wpC _ A.in1 (do checkBuiltinCall id ⟨self::rest,[]⟩;again (.builtin id ⟨self::rest,[]⟩)) _ _ s
 refine cbindOf (h.check _ _ _ _ _ _ _ _ hT ha (cpure ⟨plainId_quiet h.plain _,codeC_of_tree (by simp only [okC,hok];rfl) ?_⟩))
 rw [Around.under_plainId h.plain _]
 show wpC _ _ (match entryFor table id with |some b=>b ⟨self::rest,[]⟩ |none=>unsupported ((withoutEnding? id "#data").getD id)) _ _ s
 rw [hb]
 refine cmono hc (fun fin s' h'=>?_) fun _ _ h'=>h'
 obtain ⟨v,rfl,hv⟩:=h';exact hv
theorem ba_checkResize{Q:Unit→Shared→Prop}(hg:A.guards=some [])(h:s.heap.get? a=some (baObj arr))(q:Q () s):wpC (model prog w) A (Builtin.Bytes.checkResize (.ref a)) Q E s:=by
 unfold Builtin.Bytes.checkResize
 refine cbind ?_
 refine cbind (wpC_exported hg ?_)
 show wpC _ _ (Builtin.Bytes.exportsOf (.ref a) >>= fun n=>pure (decide (n > 0))) _ _ s
 refine cbind ?_
 unfold Builtin.Bytes.exportsOf
 refine cbindOf (wpAny_load h (cpure (cpure ?_)))
 exact cpure q
theorem ba_write{f:Array UInt8→Array UInt8}{Q:Unit→Shared→Prop}(h:s.heap.get? a=some (baObj arr))(hz:(f arr).size≤16777216)
  (q:∀h',Heap.SameBut a s.heap h'→h'.get? a=some (baObj (f arr))→Q () {s with heap:=h'}):wpAny (model prog w) A (Builtin.Bytes.write (.ref a) f) Q E s:=by
 show wpAny _ _ (updateBytearray a f) _ _ _
 unfold updateBytearray
 refine wpAny_bind (wpAny_load h ?_)
 show wpAny _ _ (update a (Obj.mapBytearray f) >>= fun _=>lookBehind a) _ _ _
 refine wpAny_bind (wpAny_update h ?_)
 have hS:(s.heap.update a (Obj.mapBytearray f)).get? a=some (baObj (f arr)):=Heap.get?_update_self (Obj.mapBytearray f) h rfl
 refine wpAny_lookBehind hS ?_ (q _ (Heap.SameBut.update ..) hS)
 show (if (f arr).size > sizeLine then some "bytearray:memory" else none)=none
 rw [if_neg (by rw [sizeLine_eq];exact lz [_] [] 1836691694499267993614333403176119990793234195716 rfl hz)]
theorem ba_append{i:Int}{u:Tok}{Q:VQ}(hg:A.guards=some [])(h:s.heap.get? a=some (baObj arr))(h0:0≤i)(h1:i<256)(hz:arr.size<16777216)
  (q:∀h',Heap.SameBut a s.heap h'→h'.get? a=some (baObj (arr.push i.toNat.toUInt8))→Q .none {s with heap:=h'}):wpC (model prog w) A (call (.builtin "bytearray.append") [.ref a,.int i u]) Q E s:=by
 refine c_call_entry ba_slot_append (ba_typeIs h) ba_entry_append (by decide +kernel) ?_ (ba_args_append _ _)
 show wpC _ _ (Builtin.Bytes.byteValue (.int i u) >>= fun c=>Builtin.Bytes.checkResize (.ref a) >>= fun _=>Builtin.Bytes.write (.ref a) (·.push c) >>= fun _=>ret .none) _ _ s
 refine cbind ?_
 unfold Builtin.Bytes.byteValue
 refine cbind (wpC_of_eq (rfl:asIndex (.int i u)=pure i) ?_)
 have c:(decide (i<0)||decide (i≥256))=false:=by
  simp only [Bool.or_eq_false_iff,decide_eq_false_iff_not];exact ⟨lz [] [_] 2770482842121 rfl h0,lz [] [_] 23198227404765177096 rfl h1⟩
 dsimp only
 rw [if_neg (by rw [c];exact Bool.false_ne_true)]
 refine cpure (cbind (ba_checkResize hg h (cbindOf (ba_write h (by rw [Array.size_push];exact lz [_] [] 2572851042225840681016891873382851426934189464397056 rfl hz) fun h' hs hg'=>?_))))
 exact cpure ⟨_,rfl,q h' hs hg'⟩
theorem c_if_true{α:Type}{M:Model}{A:Around}{E:VQ}{s:Shared}{c:Bool}{x y:Sem α}{Q:α→Shared→Prop}(hc:c=true)(h:wpC M A x Q E s):wpC M A (if c=true then x else y) Q E s:=by subst hc;exact h
theorem c_if_false{α:Type}{M:Model}{A:Around}{E:VQ}{s:Shared}{c:Bool}{x y:Sem α}{Q:α→Shared→Prop}(hc:c=false)(h:wpC M A y Q E s):wpC M A (if c=true then x else y) Q E s:=by subst hc;exact h
theorem take_eq{id:String}{b:Array UInt8}{t:Tok}:Builtin.Bytes.takeBufferQuiet? id (.bytes b t) 0=pure (some (b,none)):=by
 unfold Builtin.Bytes.takeBufferQuiet? Builtin.Bytes.takeBuffer?
 rw [KBy.special_eq KBy.look_buffer,KBy.own_buffer,show ((0:Int) == Builtin.Bytes.fullReadOnly)=false from rfl,KBy.buffer_eq]
 kernel_rfl
theorem ba_extend{b:Array UInt8}{t:Tok}{Q:VQ}(hg:A.guards=some [])(h:s.heap.get? a=some (baObj arr))(hz:arr.size+b.size≤16777216)
  (q:∀h',Heap.SameBut a s.heap h'→h'.get? a=some (baObj (arr++b))→Q .none {s with heap:=h'}):wpC (model prog w) A (call (.builtin "bytearray.extend") [.ref a,.bytes b t]) Q E s:=by
 refine c_call_entry ba_slot_extend (ba_typeIs h) ba_entry_extend (by decide +kernel) ?_ (ba_args_extend _ _)
 unfold Builtin.«bytearray.extend»
 refine cbind (wpC_of_eq (a:=(Value.ref a,Value.bytes b t)) rfl ?_)
 dsimp only
 refine cbind (wpC_of_eq (KBy.special_eq KBy.look_buffer) ?_)
 refine c_if_true rfl ?_
 refine cbind (.of (wpAny_rule ?_))
 refine cbind (.of (ba_payload h ?_))
 refine cbind (wpC_of_eq take_eq ?_)
 dsimp only
 refine c_if_true rfl ?_
 show wpC _ _ (if (!b.isEmpty)=true then Builtin.Bytes.checkResize (.ref a) >>= fun _=>Builtin.Bytes.write (.ref a) (·++ b) >>= fun _=>ret .none else Builtin.Bytes.write (.ref a) (·++ b) >>= fun _=>ret .none) _ _ _
 have fin:wpC (model prog w) A.in1 (Builtin.Bytes.write (.ref a) (·++ b) >>= fun _=>ret .none) (fun fin s'=>∃v,fin=.done (.ret v)∧Q v s') E s:=
  cbindOf (ba_write h (by rw [Array.size_append];exact lz [_,_] [] 10538397868957043429438698663074828395922439332209972480 rfl hz) fun h' hs hg'=>cpure ⟨_,rfl,q h' hs hg'⟩)
 split
 ·exact cbind (ba_checkResize hg h fin)
 ·exact fin
theorem ba_code_new{Q₁:VQ}(h:Q₁ (.ref s.heap.objs.size) {s with heap:=s.heap.push (baObj #[])}) :
  codeAny (model prog w) A (.call (.builtin "bytearray.__new__") ⟨[.type "bytearray"],[]⟩) (wants Q₁ E) s:=by
 refine codeAny_of_tree ?_
 show wpAny _ A.in1 (do checkBuiltinCall "bytearray.__new__" ⟨[.type "bytearray"],[]⟩;again (.builtin "bytearray.__new__" ⟨[.type "bytearray"],[]⟩)) _ _ s
 refine wpAny_bind (wpAny_of_eq ba_newCall (wpAny_pure ⟨plainId_quiet ba_plain_new _,codeAny_builtin_stack ba_entry_new rfl fun p st=>?_⟩))
 rw [Around.under_plainId ba_plain_new _]
 dsimp only
 rw [ba_owner_new]
 refine wpAny_bind (wpAny_of_eq (a:=true) rfl ?_)
 rw [if_neg (by decide)]
 refine wpAny_bind (wpAny_of_eq (a:=true) (by rw [isSubtype_type];kernel_rfl) ?_)
 rw [if_neg (by decide)]
 refine wpAny_bind (wpAny_pure ?_)
 rw [if_pos (by decide +kernel)]
 refine wpAny_bind (wpAny_newObj_type ?_ (Nat.zero_le _))
 exact wpAny_pure h
theorem ba_ownRelease{M:Model}{Q:Bool→Shared→Prop}(h:s.heap.get? a=some (baObj arr))(q:Q false s):wpAny M A (Builtin.Bytes.ownRelease (.ref a)) Q E s:=by
 unfold Builtin.Bytes.ownRelease Builtin.Bytes.slotIsOwn
 refine wpAny_bind (wpAny_bind (wpAny_specialOf (ba_typeIs h) ba_release ?_))
 dsimp only
 rw [if_neg (by decide +kernel)]
 have e:("bytearray.__release_buffer__".dropRight ("__release_buffer__".length+1))="bytearray":=by decide +kernel
 rw [e]
 refine wpAny_isInstance (b:=true) (ba_typeIs h) (by rw [isSubtype_type];kernel_rfl) ?_
 exact wpAny_pure q
theorem ba_init{Q:VQ}(hg:A.guards=some [])(h:s.heap.get? a=some (baObj #[]))
  (q:∀h',Heap.SameBut a s.heap h'→h'.get? a=some (baObj #[])→Q .none {s with heap:=h'}):wpC (model prog w) A (Builtin.«bytearray.__init__» ⟨[.ref a],[]⟩) (fun fin s'=>∃v,fin=.done (.ret v)∧Q v s') E s:=by
 unfold Builtin.«bytearray.__init__»
 refine cbindOf (ba_ownRelease h ?_)
 refine c_if_false rfl ?_
 refine cbind (wpC_of_eq (a:=[none,none,none]) (by kernel_rfl) ?_)
 dsimp only
 refine cbind (wpC_of_eq (a:=()) rfl ?_)
 refine cbind (wpC_of_eq (a:=()) rfl ?_)
 refine cbind ?_
 refine cbind (wpC_exported hg ?_)
 show wpC _ _ (Builtin.Bytes.exportsOf (.ref a) >>= fun n=>pure (decide (n > 0))) _ _ s
 refine cbind ?_
 unfold Builtin.Bytes.exportsOf
 refine cbindOf (wpAny_load h (cpure (cpure ?_)))
 refine c_if_false (by decide) ?_
 refine cbindOf (ba_write (f:=fun _ => #[]) h (Nat.zero_le _) fun h' hs hg'=>?_)
 exact cbind (c_if_false rfl (c_if_false rfl (cpure (cpure ⟨_,rfl,q h' hs hg'⟩))))
theorem ba_new{Q:VQ}(hg:A.guards=some [])
  (q:∀h',(∀b o,s.heap.get? b=some o→h'.get? b=some o)→h'.get? s.heap.objs.size=some (baObj #[])→Q (.ref s.heap.objs.size) {s with heap:=h'}):wpC (model prog w) A (call (.type "bytearray") []) Q E s:=by
 have ft:=ba_called
 obtain ⟨c,tl,hmro⟩:=ft.mro
 have hmade:=ft.made
 refine ccall (codeC_of_tree rfl ?_)
 show wpC _ _ (callAny (.type "bytearray") _) _ _ _
 refine cpure ⟨Code.quiet_builtin _ (by decide +kernel),codeC_of_tree (by show (!Builtin.Bytes.decodersThatHold.contains "type.__call__")=true;decide +kernel) ?_⟩
 rw [Around.under_plain (weight_type_call_type "bytearray" [] []) rfl]
 rw [den_builtin F.entry_type_call]
 show wpC _ _ (Builtin.«type.__call__» ⟨[.type "bytearray"],[]⟩) _ _ _
 unfold Builtin.«type.__call__»
 dsimp only
 refine c_if_false (by decide) ?_
 rw [if_neg (by rw [ft.canCreate];exact Bool.false_ne_true)]
 refine cbind (wpC_of_eq ba_typeCall ?_)
 refine cbind (wpC_of_eq hmro ?_)
 refine c_if_false rfl ?_
 refine cbind (wpC_of_eq hmade ?_)
 dsimp only
 refine cbind (cpure (cbind (chold (.of (wpAny_call (ba_code_new ?_))))))
 have hx:(s.heap.push (baObj #[])).get? s.heap.objs.size=some (baObj #[]):=Heap.get?_push_size _ rfl
 have hT:({s with heap:=s.heap.push (baObj #[])}:Shared).TypeIs (.ref s.heap.objs.size) "bytearray":=⟨_,hx,rfl⟩
 refine cbindOf (wpAny_isInstance (b:=true) hT ft.sub ?_)
 refine c_if_false rfl ?_
 refine cbind (chold ?_)
 unfold callSpecial?
 refine cbindOf (wpAny_specialOf hT ft.init.lookup ?_)
 dsimp only
 rw [ft.init.bind]
 refine chold (cbind (cpure ?_))
 dsimp only
 refine cbind (c_call_entry ba_slot_init hT ba_entry_init (by decide +kernel) (ba_init (A:=A.in1.in1) hg hx fun h' hs hg'=>?_) (ba_args_init _))
 refine cpure ?_
 dsimp only
 refine c_if_false rfl ?_
 exact cpure (q h' (fun b o e=>(hs.2 b (Nat.ne_of_lt (Heap.lt_size e))).trans (Heap.get?_push_of_some _ e)) hg')
end
end
section
theorem by_bytes:typeLookup (.type "bytes") "__bytes__"=pure (some (.builtin "bytes.__bytes__")):=by rw [typeLookup_type,builtinLookup_eq_fast];kernel_rfl
section
variable {prog:Program}{w:World}{A:Around}{E:VQ}{s:Shared}{a:Addr}{arr:Array UInt8}
theorem a_if_true{α:Type}{M:Model}{A:Around}{E:VQ}{s:Shared}{c:Bool}{x y:Sem α}{Q:α→Shared→Prop}(hc:c=true)(h:wpAny M A x Q E s):wpAny M A (if c=true then x else y) Q E s:=by subst hc;exact h
theorem a_if_false{α:Type}{M:Model}{A:Around}{E:VQ}{s:Shared}{c:Bool}{x y:Sem α}{Q:α→Shared→Prop}(hc:c=false)(h:wpAny M A y Q E s):wpAny M A (if c=true then x else y) Q E s:=by subst hc;exact h
theorem ba_slotOwn{M:Model}{Q:Bool→Shared→Prop}(h:s.heap.get? a=some (baObj arr))(q:Q true s):wpAny M A (Builtin.Bytes.slotIsOwn (.ref a) "__buffer__") Q E s:=by
 unfold Builtin.Bytes.slotIsOwn
 refine wpAny_bind (wpAny_specialOf (ba_typeIs h) ba_buffer ?_)
 dsimp only
 rw [if_neg (by decide +kernel)]
 have e:("bytearray.__buffer__".dropRight ("__buffer__".length+1))="bytearray":=by decide +kernel
 rw [e]
 exact wpAny_isInstance (b:=true) (ba_typeIs h) (by rw [isSubtype_type];kernel_rfl) q
theorem ba_bufferQ{M:Model}{id:String}{full:Bool}{Q:Option (Array UInt8)→Shared→Prop}(h:s.heap.get? a=some (baObj arr))(q:Q (some arr) s):wpAny M A (Builtin.Bytes.buffer? id (.ref a) full) Q E s:=by
 unfold Builtin.Bytes.buffer?
 refine wpAny_bind (wpAny_specialOf (ba_typeIs h) ba_buffer ?_)
 dsimp only
 refine wpAny_bind (ba_slotOwn h ?_)
 refine a_if_false rfl ?_
 refine wpAny_bind (wpAny_specialOf (ba_typeIs h) ba_buffer ?_)
 refine wpAny_bind (ba_ownRelease h ?_)
 refine a_if_false rfl ?_
 exact wpAny_bind (ba_payload h (wpAny_pure q))
theorem bytes_ba_new{Q:VQ}(h:s.heap.get? a=some (baObj arr))(hz:arr.size≤16777216)(q:∀t k,Q (.bytes arr t) {s with toks:=k}) :
  codeAny (model prog w) A (.call (.builtin "bytes.__new__") ⟨[.type "bytes",.ref a],[]⟩) (wants Q E) s:=by
 refine codeAny_of_tree ?_
 show wpAny _ A.in1 (do checkBuiltinCall "bytes.__new__" ⟨[.type "bytes",.ref a],[]⟩;again (.builtin "bytes.__new__" ⟨[.type "bytes",.ref a],[]⟩)) _ _ s
 refine wpAny_bind (wpAny_of_eq (F.bm_newCall _) (wpAny_pure ⟨plainId_quiet F.bm_plain _,codeAny_builtin F.bm_entry ?_⟩))
 rw [Around.under_plainId F.bm_plain _]
 have hT:=ba_typeIs h
 unfold Builtin.«bytes.__new__»
 refine wpAny_bind (wpAny_of_eq (a:=true) rfl ?_)
 refine a_if_false rfl ?_
 refine wpAny_bind (wpAny_of_eq F.bm_sub ?_)
 refine a_if_false rfl ?_
 refine wpAny_bind (wpAny_of_eq (F.bm_bind _) ?_)
 refine wpAny_bind (wpAny_of_eq (a:=()) rfl ?_)
 refine wpAny_bind (wpAny_of_eq (a:=()) rfl ?_)
 refine a_if_false rfl ?_
 refine wpAny_bind (wpAny_specialOf hT ba_no_bytes ?_)
 refine wpAny_bind (wpAny_bind ?_)
 show wpAny _ _ (load a >>= _) _ _ _
 refine wpAny_bind (wpAny_load h ?_)
 refine wpAny_pure (wpAny_pure ?_)
 refine a_if_false rfl ?_
 refine wpAny_bind (wpAny_specialOf hT ba_no_index ?_)
 refine a_if_true rfl ?_
 refine wpAny_bind (ba_bufferQ h ?_)
 dsimp only
 refine wpAny_bind (wpAny_rule ?_)
 refine wpAny_bind (wpAny_mkBytes ?_ (by rw [sizeLine_eq];exact hz))
 show wpAny _ _ (if (Value.type "bytes" == Value.type "bytes")=true then _ else _) _ _ _
 refine a_if_true (by decide) ?_
 first
  |exact wpAny_pure (q _ _)
  |exact wpAny_bind (wpAny_pure (wpAny_pure (q _ _)))
theorem call_bytes_ba{Q:VQ}(h:s.heap.get? a=some (baObj arr))(hz:arr.size≤16777216)(q:∀t k,Q (.bytes arr t) {s with toks:=k}):wpAny (model prog w) A (call (.type "bytes") [.ref a]) Q E s:=by
 refine callType_codes (Q₁:=fun obj s₁=>s₁.TypeIs obj "bytes"∧Q obj s₁) F.bm_called (F.bm_typeCall _) F.entry_object_init (bytes_ba_new h hz fun t k=>⟨PySem.W.typeIs_bytes _ _ _,q t k⟩) fun obj s₁ h₁=>?_
 exact ⟨h₁.1,F.args_object_init_2 obj _,object_init_meets F.bm_called.init.lookup F.bm_called.made (by decide) prog w A.in1 _ s₁ ⟨h₁.1,rfl,h₁.2⟩⟩
theorem bytes_by_new{t:Tok}{Q:VQ}(q:Q (.bytes arr t) s) :
  codeAny (model prog w) A (.call (.builtin "bytes.__new__") ⟨[.type "bytes",.bytes arr t],[]⟩) (wants Q E) s:=by
 refine codeAny_of_tree ?_
 show wpAny _ A.in1 (do checkBuiltinCall "bytes.__new__" ⟨[.type "bytes",.bytes arr t],[]⟩;again (.builtin "bytes.__new__" ⟨[.type "bytes",.bytes arr t],[]⟩)) _ _ s
 refine wpAny_bind (wpAny_of_eq (F.bm_newCall _) (wpAny_pure ⟨plainId_quiet F.bm_plain _,codeAny_builtin F.bm_entry ?_⟩))
 rw [Around.under_plainId F.bm_plain _]
 unfold Builtin.«bytes.__new__»
 refine wpAny_bind (wpAny_of_eq (a:=true) rfl ?_)
 refine a_if_false rfl ?_
 refine wpAny_bind (wpAny_of_eq F.bm_sub ?_)
 refine a_if_false rfl ?_
 refine wpAny_bind (wpAny_of_eq (F.bm_bind _) ?_)
 refine wpAny_bind (wpAny_of_eq (a:=()) rfl ?_)
 refine wpAny_bind (wpAny_of_eq (a:=()) rfl ?_)
 refine a_if_false rfl ?_
 refine wpAny_bind (wpAny_of_eq (KBy.special_eq by_bytes) ?_)
 dsimp only
 refine wpAny_bind (wpAny_rule ?_)
 refine wpAny_bind (wpAny_typeOf (typeIs_bytes s arr t) ?_)
 refine a_if_true (by decide) ?_
 show wpAny _ _ (if (Value.type "bytes" == Value.type "bytes")=true then _ else _) _ _ _
 refine a_if_true (by decide) ?_
 first
  |exact wpAny_pure q
  |exact wpAny_pure (wpAny_pure q)
  |exact wpAny_bind (wpAny_pure (wpAny_pure q))
theorem call_bytes_by{t:Tok}{Q:VQ}(q:Q (.bytes arr t) s):wpAny (model prog w) A (call (.type "bytes") [.bytes arr t]) Q E s:=by
 refine callType_codes (Q₁:=fun obj s₁=>s₁.TypeIs obj "bytes"∧Q obj s₁) F.bm_called (F.bm_typeCall _) F.entry_object_init (bytes_by_new ⟨PySem.W.typeIs_bytes _ _ _,q⟩) fun obj s₁ h₁=>?_
 exact ⟨h₁.1,F.args_object_init_2 obj _,object_init_meets F.bm_called.init.lookup F.bm_called.made (by decide) prog w A.in1 _ s₁ ⟨h₁.1,rfl,h₁.2⟩⟩
end
end
end Mine
end
section
open PySem PySem.W PyProof.Rows PySem.Calls PySem.Spec
set_option genInjectivity false
set_option genSizeOf false
set_option genCtorIdx false
set_option bootstrap.genMatcherCode false
set_option backward.match.sparseCases false
namespace Mine
open KTr KAttr WBin WCmp KSub KLen KSlf KSlt KSlc KMax LO WB SU KIs KApp AppL AppA ExtL ExtA KDget KTk KCel KMeth OV BT ST2 KSa KAsC WhI ForI CompI KMM KEn
section
section
variable {W:Wd}{T:Tabs}{CT:CT}{C:Cx}
theorem isStrS{g f:String}{t:Tok}:Value.isStr (.str (Str.ofString g) t) (Str.ofString f)=decide (g=f):=eq_ofS
theorem getL_cons{k:Int}{g f:String}{t:Tok}{v:Value}{r:List DictEntry}:getL (Str.ofString f) (⟨k,.str (Str.ofString g) t,v⟩::r)=if g=f then some (some v) else getL (Str.ofString f) r:=by
 unfold getL
 rw [List.find?_cons]
 by_cases q:g=f
 ·rw [if_pos q,show Value.isStr (.str (Str.ofString g) t) (Str.ofString f)=true from isStrS.trans (decide_eq_true q)]
 ·rw [if_neg q,show Value.isStr (.str (Str.ofString g) t) (Str.ofString f)=false from isStrS.trans (decide_eq_false q)];rfl
theorem lookS{g f:String}{y:V}{r:List (String×V)}:List.lookup f ((g,y)::r)=if g=f then some y else r.lookup f:=by
 rw [List.lookup_cons]
 by_cases q:g=f
 ·rw [if_pos q,q,beq_self_eq_true]
 ·rw [if_neg q,beq_eq_false_iff_ne.mpr (Ne.symm q)]
theorem FRs.get{P:Params}{es:List DictEntry}{fs:List (String×V)}(h:FRs P es fs){f:String}:(∀x,fs.lookup f=some x→∃v,getL (Str.ofString f) es=some (some v)∧VR v x)∧(fs.lookup f=none→getL (Str.ofString f) es=some none):=by
 induction h with
 |nil=>exact ⟨fun x e=>noS e,fun _=>rfl⟩
 | @cons g _ _ _ _ _ hv hr ih=>
  rw [getL_cons,lookS]
  by_cases q:g=f
  ·rw [if_pos q,if_pos q];exact ⟨fun x e=>⟨_,rfl,sI e▸hv⟩,fun e=>noS e.symm⟩
  ·rw [if_neg q,if_neg q];exact ih
theorem FRs.length{P:Params}{es:List DictEntry}{fs:List (String×V)}(h:FRs P es fs):es.length=fs.length:=by
 induction h with
 |nil=>rfl
 |cons _ _ ih=>simp [ih]
theorem putL_cons{k n:Int}{g f:String}{t u:Tok}{v w:Value}{r:List DictEntry}:putL (Str.ofString f) n (.str (Str.ofString f) t) v (⟨k,.str (Str.ofString g) u,w⟩::r)=if g=f then ⟨k,.str (Str.ofString g) u,v⟩::r else ⟨k,.str (Str.ofString g) u,w⟩::putL (Str.ofString f) n (.str (Str.ofString f) t) v r:=by
 rw [putL]
 by_cases q:g=f
 ·rw [if_pos q,if_pos (isStrS.trans (decide_eq_true q))]
 ·rw [if_neg q,if_neg (show¬(Value.isStr (.str (Str.ofString g) u) (Str.ofString f)=true) by rw [isStrS,decide_eq_true_eq];exact q)]
theorem setF_cons{f g:String}{v w:V}{r:List (String×V)}:setF f v ((g,w)::r)=if g=f then (g,v)::r else (g,w)::setF f v r:=rfl
theorem FRs.put{P:Params}{es:List DictEntry}{fs:List (String×V)}(h:FRs P es fs){f:String}{t:Tok}{v:Value}{x:V}(hv:VR v x) :
  FRs P (putL (Str.ofString f) (PyData.keyHash P (Str.ofString f)) (.str (Str.ofString f) t) v es) (setF f x fs)∧(putL (Str.ofString f) (PyData.keyHash P (Str.ofString f)) (.str (Str.ofString f) t) v es).length≤es.length+1:=by
 induction h with
 |nil=>exact ⟨.cons hv .nil,Nat.le_refl _⟩
 | @cons g _ _ _ _ _ hw hr ih=>
  rw [putL_cons,setF_cons]
  by_cases q:g=f
  ·rw [if_pos q,if_pos q];exact ⟨.cons hv hr,Nat.le_succ _⟩
  ·rw [if_neg q,if_neg q];exact ⟨.cons hw ih.1,Nat.succ_le_succ ih.2⟩
theorem handed{v:Value}{x:V}(h:VR v x):handedIn v=true:=h.elim (P:=fun v _=>handedIn v=true) rfl (fun _=>rfl) (fun _ _=>rfl) (fun _ _=>rfl) (fun _ _=>rfl) (fun _=>rfl)
theorem Own.isInst{h₀ h:Heap}{L:Addr}{H:Hp}{G:Addr→Option Obj}(K:Own W h₀ L h H G){a d:Nat}{c:String}{fs:List (String×V)}(e:InstAt H a c d fs){P:Prop}
  (k:∀es n,FRs W.w.params es fs→h.get? d=some (dictOf es n)→PySem.W.InstAt h a (instObj (W.cA c) d) (W.cA c) (some (dictOf es n))→P):P:=
 (K.obj a _ e.i).2.2.2.elim fun ro z=>(K.obj d _ e.f).2.2.2.elim fun rd y=>y.2.elim fun es q=>q.elim fun n q=>k es n q.2 (q.1▸y.1) ⟨z.2▸z.1,rfl,rfl,q.1▸y.1⟩
theorem fldB_inv{c f:String}{fs:List (String×V)}{w:V}(h:fldB c f fs=some w):(c,f)∈attrsOf∧fs.lookup f=some w:=by
 unfold fldB at h
 by_cases q:(c,f)∈attrsOf
 ·rw [decide_eq_true q]at h;exact ⟨q,h⟩
 ·rw [decide_eq_false q]at h;exact noS h
theorem attr_of(K:∃rk,C.Ok W T rk){g:RG}{mF:SM}{H:Hp}{s:Shared}{v:Value}{x:V}{f:String}{QQ EE:VQ}{Q:QV}(a:At W C g mF H s)(hv:VR v x)(h:KAttr Q H f x)(hq:Fin1 W C g mF QQ Q):wpAny (model W.prog W.w) C.A (PySem.getAttr v (Str.ofString f) true) QQ EE s:=by
 obtain ⟨h,q⟩:=h
 cases h with |iAt i e=>
 exact hv.onR<|K.elim fun rk K=>a.own.isInst i fun es n hf _ hI=>(hf.get.1 _ (fldB_inv e).2).elim fun v z=>have t:=K.TF.attr _ f (fldB_inv e).1
  t.2.2.1.elim fun at_ y=>get_own a.F K.G.K hI t.1 t.2.1 y.1 y.2 z.1 (handed z.2) (hq v _ _ H a z.2 q)
theorem se_attr(K:∃rk,C.Ok W T rk){a:ME}{f:String}{e:Expr}{pos:Pos}(h1:SE W T CT C a e)
  (he:eval (.Attribute e (Str.ofString f) pos) C.env=(do
   let o←eval e C.env
   standAt pos.atName
   let r←holding [o] (PySem.getAttr o (Str.ofString f) true)
   letTemporaryGo e o r
   pure r)):SE W T CT C (.attr a f) (.Attribute e (Str.ofString f) pos):=
 fun g l H s QQ EE Q X a hw hq hx=>c_Attribute (h1 g l H s _ EE _ X a hw (fun v x s1 H1 a1 hv hw1=>.of (attr_of K a1 hv hw1 hq)) hx) he
theorem Own.isBA{h₀ h:Heap}{L:Addr}{H:Hp}{G:Addr→Option Obj}(K:Own W h₀ L h H G){a:Nat}{b:List Nat}(e:H a=some (.ba b)):∃arr,h.get? a=some (baObj arr)∧b=arr.toList.map UInt8.toNat:=
 (K.obj a _ e).2.2.2.elim fun ro z=>z.2.elim fun arr q=>⟨arr,z.1.trans (congrArg some q.1),q.2⟩
theorem at8{arr:List UInt8}{k n:Nat}(h:(arr.map UInt8.toNat)[k]?=some n):∃c,arr[k]?=some c∧n=c.toNat:=by
 rw [List.getElem?_map]at h
 obtain ⟨c,h1,h2⟩:=Option.map_eq_some_iff.mp h
 exact ⟨c,h1,h2.symm⟩
theorem seqIx{n k:Nat}(h:k<n):seqIndex? (k:Int) n=some k:=seqIndex_at (Int.natCast_nonneg _) (Int.ofNat_lt.mpr h)
theorem fitsIx{n:Nat}(h:n<4294967296):Builtin.Bytes.fitsIndex n=true:=by
 unfold Builtin.Bytes.fitsIndex;rw [Bool.and_eq_true,decide_eq_true_eq,decide_eq_true_eq];omega
theorem VR.nat{k n:Nat}(e:k=n)(t:Tok):VR (.int n t) (.int k):=e▸.int _ _
theorem byt_get{arr:Array UInt8}{t u:Tok}{c:UInt8}{i:Int}{n:Nat}{s:Shared}{QQ:VQ}{EE:VQ}(e:i=n)(hn:n<4294967296)(lt:n<arr.size)(h:arr[n]?=some c)
  (hq:QQ (.int c.toNat s.toks) {s with toks:=s.toks+1}):wpAny (model W.prog W.w) C.A (getItem (.bytes arr t) (.int i u)) QQ EE s:=
 getItem_meets (typeIs_bytes _ _ _) (by decide) FB.slot_bytes_getitem FB.entry_bytes_getitem (FB.args_bytes_getitem_2 _ _) (gives_bytes_getitem arr i t u c (e▸fitsIx hn) (by rw [e,seqIx lt];exact h)).meets hq
noncomputable def GetOk(W:Wd)(C:Cx)(v w:Value)(QQ EE:VQ)(s:Shared):Prop:=∃T id,s.TypeIs v T∧typeLookup (.type T) "__getitem__"=pure (some (.builtin id))∧wpAny (model W.prog W.w) C.A (getItem v w) QQ EE s
theorem get_of{g:RG}{mF:SM}{x z:V}{n:Nat}{v w:Value}{H:Hp}{s:Shared}{QQ:VQ}{EE:VQ}(a:At W C g mF H s)(hv:VR v x)(hw:VR w (.int n))(hn:n<4294967296)(h:It H n x z)
  (hq:∀u tk,VR u z→QQ u {s with toks:=tk}):GetOk W C v w QQ EE s:=
 have hn0:(0:Int)≤n:=Int.natCast_nonneg _
 have hn1:(n:Int)<4294967296:=Int.ofNat_lt.mpr hn
 have hn2:(n:Int)<2^63:=Int.lt_trans hn1 (by decide)
 hw.onI fun u=>It.rec (motive:=fun x z _=>VR v x→(∀u tk,VR u z→QQ u {s with toks:=tk})→GetOk W C v (.int n u) QQ EE s)
  (fun {b k} e hv hq=>(hv.onY (P:=fun v b=>b[n]?=some k→GetOk W C v (.int n u) QQ EE s) fun arr t h=>(at8 h).elim fun c z=>
   ⟨_,_,typeIs_bytes s arr t,FB.slot_bytes_getitem.lookup,byt_get rfl hn (List.getElem?_eq_some_iff.mp z.1).1 (by rw [Array.getElem?_toList]at z;exact z.1) (hq _ _ (.nat z.2 _))⟩) e)
  (fun h e hv hq=>hv.onR<|a.own.isList h fun items _ _ l1 v1 _=>(v1.get e).elim fun v z=>⟨_,_,l1.typeIs,slot_list_getitem.lookup,wpAny_getItem_list l1 hn0 hn2 (by rw [Array.getElem?_toList]at z;exact z.1) (hq v _ z.2)⟩)
  (fun h e hv hq=>hv.onR<|a.own.isTup h fun items l1 v1 _=>(v1.get e).elim fun v z=>⟨_,_,l1.typeIs,slot_tuple_getitem.lookup,getItem_tuple (j:=n) l1 (Int.le_trans (by decide) hn0) hn2 (seqIx (List.getElem?_eq_some_iff.mp z.1).1) (by rw [Array.getElem?_toList]at z;exact z.1) (hq v _ z.2)⟩)
  (fun {a' b k} h e hv hq=>hv.onR<|(a.own.isBA h).elim fun arr y=>(at8 (y.2▸e)).elim fun c z=>⟨_,_,ba_typeIs y.1,ba_slot_getitem.lookup,ba_getItem y.1 hn0 hn1 (by rw [Array.getElem?_toList]at z;exact z.1) (hq _ _ (.nat z.2 _))⟩) h hv hq
theorem se_sub{a b:ME}{l e:Expr}{pos:Pos}(h1:SE W T CT C a l)(h2:SE W T CT C b e)
  (hsub:∀o i,subscripted e false o i=operate [o,i] (getItem o i)):SE W T CT C (.sub a b) (.Subscript l e pos):=
 fun g l H s QQ EE Q X a hw hq hx=>c_Subscript (h1 g l H s _ EE _ X a hw (fun v x s1 H1 a1 hv hw1=>h2 g l H1 s1 _ EE _ X a1 hw1 (fun w y s2 H2 a2 hw' hw2=>by
  cases hw2 with |iI h1 h2 q=>exact (get_of a2 hv hw' h1 h2 fun u tk hu=>hq u _ _ H2 a2 hu q).elim fun T z=>z.elim fun id z=>.of (tail_any z.1 z.2.1 z.2.2 (hsub _ _))) hx) hx)
theorem ses_nil:SEs W T CT C .nil []:=fun g l H s QQ EE Q X pos a hw hq hx=>c_args_nil (hq [] [] s H a .nil rfl hw)
theorem ses_cons{a:ME}{es:MEs}{e:Expr}{l:List Expr}(h1:SE W T CT C a e)(h2:SEs W T CT C es l)(hst:starEach (e::l) C.env=(false,eval e C.env)::starEach l C.env):SEs W T CT C (.cons a es) (e::l):=
 fun g l H s QQ EE Q X pos a hw hq hx=>c_args_cons (h1 g l H s _ EE _ X a hw (fun v x s1 H1 a1 hv hw1=>h2 g l H1 s1 _ EE _ X pos a1 hw1 (fun vs xs s2 H2 a2 hvs hl hw2=>hq (v::vs) (x::xs) s2 H2 a2 (.cons hv hvs) (congrArg Nat.succ hl) hw2) hx) hx) hst
theorem lit_le{n:Nat}(h:n≤1000):n≤sizeLine:=Nat.le_trans h (by decide)
theorem se_lst{es:MEs}{l:List Expr}{pos:Pos}(h:SEs W T CT C es l)(hl:l.length≤1000):SE W T CT C (.lst es) (.List l pos):=
 fun g lv H s QQ EE Q X a hw hq hx=>c_List (h g lv H s _ EE _ X pos a hw (fun vs xs s1 H1 a1 hvs hln hw1=>.of<|newList_N a1.F a1.own.news (fun h' F' N'=>hq _ _ _ _ (a1.to F' (a1.own.cons N' a1.fresh (.list (n:=0) hvs))) (.ref _) (hw1 _ a1.fresh.1)) (lit_le (hln▸hl))) hx)
theorem se_tup{es:MEs}{l:List Expr}{k:Nat}{pos:Pos}(h:SEs W T CT C es l)(hl:l.length≤1000):SE W T CT C (.tup es) (.Tuple l k pos):=
 fun g lv H s QQ EE Q X a hw hq hx=>c_Tuple (h g lv H s _ EE _ X pos a hw (fun vs xs s1 H1 a1 hvs hln hw1=>.of<|newTuple_N a1.F a1.own.news (fun h' F' N'=>hq _ _ _ _ (a1.to F' (a1.own.cons N' a1.fresh (.tuple (n:=0) hvs))) (.ref _) (hw1 _ a1.fresh.1)) (lit_le (hln▸hl))) hx)
end
end
end Mine
end
section
open PySem PySem.W PyProof.Rows PySem.Calls PySem.Spec
set_option genInjectivity false
set_option genSizeOf false
set_option genCtorIdx false
set_option bootstrap.genMatcherCode false
namespace Mine
open KTr KAttr WBin WCmp KSub KLen KSlf KSlt KSlc KMax LO WB SU KIs KApp AppL AppA ExtL ExtA KDget KTk KCel KMeth OV BT ST2 KSa KAsC WhI ForI CompI KMM KEn
section
noncomputable abbrev retR(QQ EE:VQ):Result→Shared→Prop:=fun res s'=>match res with
 | .ok (.ret v)=>QQ v s'
 | .ok _=>False
 | .error e=>EE e s'
noncomputable def Meets(W:Wd)(T:Tabs)(CT:CT)(rk:Nat)(g:String)(f:Addr):Prop:=
 ∀(C:Cx) (q:RG) (mF:SM) (H:Hp) (s:Shared) (vs:List Value) (xs:List V) (QQ EE:VQ) (Q:V→Hp→Prop) (X:Hp→Prop),
  C.Ok W T rk→At W C q mF H s→VRs vs xs→CT g xs H Q X→Fin1 W C q mF QQ Q→FinX W T C q EE X→codeC (model W.prog W.w) C.A (.call (.ref f) ⟨vs,[]⟩) (retR QQ EE) s
structure ArgsOk(C:Cx)(es:MEs)(l:List Expr):Prop where
 nil:l=[]→es=.nil
 st:∀e rest,l=e::rest→starEach (e::rest) C.env=(false,eval e C.env)::starEach rest C.env
 pl:∀pos e rest,l=e::rest→(backTo pos (starEach rest C.env)).any (·.1)=false
section
variable {W:Wd}{T:Tabs}{CT:CT}{C:Cx}
theorem callWith_es{rk:Nat}(K:C.Ok W T rk){es:MEs}{l:List Expr}(hes:SEs W T CT C es l)(ho:ArgsOk C es l){pos:Pos}{f:Value}{first:List Value}(hk:keepIn T.K f=true){g:RG}{lv:Lv C g}{H:Hp}{s:Shared}
  {QQ EE:VQ}{Q:List V→Hp→Prop}{X:Hp→Prop}(a:At W C g lv.mF H s)(hw:wEs CT es lv.m H Q X)
  (hq:∀vs xs s' H',At W C g lv.mF H' s'→VRs vs xs→Q xs H'→wpC (model W.prog W.w) C.A (call f (first++vs)) QQ EE s')(hx:FinX W T C g EE X) :
  wpC (model W.prog W.w) C.A (callWith pos f first (backTo pos (starEach l C.env)) []) QQ EE s:=by
 cases l with
 |nil=>cases ho.nil rfl;exact c_callWith_K0 (K.G.K.keeps a.F.keep) hk (hq [] [] s H a .nil hw)
 |cons e rest=>exact c_callWith_K hk (hes g lv H s _ EE Q X pos a hw (fun vs xs s' H' a' hv _ hQ=>⟨K.G.K.keeps a'.F.keep,hq vs xs s' H' a' hv hQ⟩) hx) (ho.st e rest rfl) (ho.pl pos e rest rfl)
theorem metB_inv{c f:String}{fs:List (String×V)}(h:metB c f fs=true):(c,f)∈methsOf∧fs.lookup f=none:=
 let ⟨a,b⟩:=(Bool.and_eq_true _ _).mp h
 ⟨of_decide_eq_true a,Option.isNone_iff_eq_none.mp b⟩
theorem se_meth{rk:Nat}(K:C.Ok W T rk){a:ME}{f:String}{es:MEs}{e:Expr}{l:List Expr}{apos pos:Pos}{pl:Sem Bool}(h1:SE W T CT C a e)(hes:SEs W T CT C es l)(ho:ArgsOk C es l)
  (he:eval (.Call (.Attribute e (Str.ofString f) apos) l [] pos) C.env=(do
   let ov←eval e C.env
   standAt apos.atName
   let (f,first)←holding [ov] (getMethod ov (Str.ofString f) pl)
   callWith pos f first (backTo pos (starEach l C.env)) []))
  (hm:∀c b,(c,f)∈Mine.methsOf→T.fa (c++"."++f)=some b→Meets W T CT rk (c++"."++f) b) :
  SE W T CT C (.meth a f es) (.Call (.Attribute e (Str.ofString f) apos) l [] pos):=
 fun g lv H s QQ EE Q X a hw hq hx=>c_methodCall (pl:=pl) (h1 g lv H s _ EE _ X a hw (fun v x s1 H1 a1 hv hw1=>by
  cases hw1 with |iMe i m w3=>
  have m:=metB_inv m
  exact hv.onR<|a1.own.isInst i fun es' n hf _ hI=>(K.TF.meth _ f m.1).elim fun fa t=>.of<|method_inst a1.F K.G.K hI t.2.1 t.2.2.1 t.2.2.2.1 (hf.get.2 m.2)
   (callWith_es K hes ho t.2.2.2.2 a1 w3 (fun vs xs s' H' a' hv hQ=>ccall (hm _ fa m.1 t.1 C g lv.mF H' s' _ _ QQ EE Q X K a' (.cons (.ref _) hv) hQ hq hx)) hx)) hx) he
noncomputable def Cx.under(C:Cx)(c:Code):Cx:={C with A:=C.A.under c}
theorem ledger_fresh{h₀ h:Heap}{L:Addr}{H:Hp}{G:Addr→Option Obj}(K:Own W h₀ L h H G){d:Addr}(l:∀p∈ledger h H G,p.1<d){b:Addr}(hb:d≤b):H b=none∧G b=none:=
 have z:∀{p:Prop},H b≠none∨G b≠none→p:=fun q=>(ledger_mem K q).elim fun ro hm=>absurd (l _ hm) (Nat.not_lt.mpr hb)
 ⟨Classical.byContradiction fun q=>z (.inl q),Classical.byContradiction fun q=>z (.inr q)⟩
theorem Cx.Ok.type{rk:Nat}(K:C.Ok W T (rk+1))(c:Addr)(vs:List Value):(C.under (.builtin "type.__call__" ⟨.ref c::vs,[]⟩)).Ok W T rk:=
 ⟨⟨K.B.stack,K.B.stays,K.B.frames⟩,K.hA,K.hf,K.hk,K.hh,K.hg,by have:=K.hd;show C.A.depth+1+4*rk<900;exact lz [_,_] [] 622432489609019413006367730908623179410990089473 rfl this,by have:=K.hu;show C.A.units+1+10*rk<9000;exact lz [_,_] [] 605306290418087485917179237737294275596531475713 rfl this,K.G,K.TF⟩
theorem Own.cons2{h₀ h h':Heap}{L:Addr}{H:Hp}{G:Addr→Option Obj}(K:Own W h₀ L h H G){x d:Addr}{ro rd:Obj}{o od:O}(N:News h₀ L h' ((x,ro)::(d,rd)::ledger h H G))(hx:H x=none∧G x=none)(hd:G d=none)(R:RO W ro o)(R2:RO W rd od):Own W h₀ L h' ((H.put x o).put d od) G:=
 have O1:Own W h₀ L h' (H.put x o) G:=K.cons (fun p hp=>N p ((List.mem_cons.mp hp).elim (·▸.head _) fun hp=>.tail _ (.tail _ hp))) hx R
 have n:=N (d,rd) (.tail _ (.head _))
 ⟨fun b o' e=>by
  unfold Hp.put at e
  split at e
  ·rename_i q;subst q;cases e;exact ⟨hd,n.2.1,n.2.2,_,n.1,R2⟩
  ·exact O1.obj b o' (by unfold Hp.put;exact e),O1.raw⟩
theorem se_new(E:C.EnvOk){rk:Nat}(K:C.Ok W T (rk+1)){c:String}{es:MEs}{l:List Expr}{np pos:Pos}(hes:SEs W T CT C es l)(ho:ArgsOk C es l)
  (hg:c∈T.cls)(hl:C.ns.lookup (Str.ofString c)=some .globalImplicit)(hd:(Str.ofString c == ("__debug__":Str))=false)(hm:∀a,T.fa (c++".__init__")=some a→Meets W T CT rk (c++".__init__") a) :
  SE W T CT C (.new c es) (.Call (.Name (Str.ofString c) np) l [] pos):=
 fun g lv H s QQ EE Q X a hw hq hx=>c_Call (name_at E ⟨_,K⟩ a hl hd (fun G=>G.cl hg) (have t:=K.TF.cls c hg;t.2.2.elim fun fI t3=>
  callWith_es K hes ho t.2.1 a hw (fun vs xs s' H' a' hv hQ=>callC_cls a'.F K.G.K a'.own.news t.1 t3.2.1 t3.2.2 fun x dx h' F' N' l1 l2=>
   have fdx:=ledger_fresh a'.own l1 (Nat.le_refl _)
   have fxx:=ledger_fresh a'.own l1 (Nat.le_of_lt l2)
   codeC_mono (hm fI t3.1 (C.under _) g lv.mF _ {s' with heap:=h'} (.ref x::vs) (.ref x::xs) (fun v s2=>v=.none∧QQ (.ref x) s2) EE _ X (K.type _ vs)
    (a'.to F' (a'.own.cons2 N' fxx fdx.2 (.inst c dx) (.flds .nil))) (.cons (.ref x) hv) (hQ x dx fxx.1 fdx.1 (Nat.ne_of_gt l2))
    (fun v y s2 H2 a2 hv2 q2=>⟨(q2.1▸hv2:VR v .none).no,hq _ _ s2 H2 a2 (.ref x) q2.2⟩) hx) fun res s2 hr=>by
     cases res with
     |error e=>exact hr
     |ok fl=>cases fl with
      |ret v=>exact hr
      |_=>exact hr.elim) hx))
end
end
end Mine
end
section
open PySem PySem.W PyProof.Rows PySem.Calls PySem.Spec
set_option genInjectivity false
set_option genSizeOf false
set_option genCtorIdx false
set_option bootstrap.genMatcherCode false
set_option backward.match.sparseCases false
namespace Mine
open KTr KAttr WBin WCmp KSub KLen KSlf KSlt KSlc KMax LO WB SU KIs KApp AppL AppA ExtL ExtA KDget KTk KCel KMeth OV BT ST2 KSa KAsC WhI ForI CompI KMM KEn
section
noncomputable def FlR(f:Flow)(fl:Fl):Prop:=match fl with
 | .next=>f=.next
 | .cont=>f=.cont
 | .ret x=>∃v,f=.ret v∧VR v x
theorem FlR.next:FlR .next .next:=rfl
theorem FlR.cont:FlR .cont .cont:=rfl
theorem FlR.ret{v:Value}{x:V}(h:VR v x):FlR (.ret v) (.ret x):=⟨_,rfl,h⟩
structure Cx.Def(C:Cx):Prop where
 top:C.env=C.top
 loc:C.env.locals=C.L
 nb:interactive C.env=false
section
variable (W:Wd)(T:Tabs)(CT:CT)(C:Cx)
noncomputable def FinF(g:RG)(QQ:Flow→Shared→Prop)(Q:Fl→M→Hp→Prop):Prop:=
 ∀f fl (l:Ld C) s' H',At W C g l.mF H' s'→FlR f fl→Q fl l.m H'→QQ f s'
noncomputable def SS(st:MS)(e:Stmt):Prop:=
 ∀(g:RG) (l:Ld C) H s QQ EE Q X,At W C g l.mF H s→wS CT st l.m H Q X→PassesOwn (model W.prog W.w) C.A C.env EE→FinF W C g QQ Q→FinX W T C g EE X→
  wpC (model W.prog W.w) C.A (exec e C.env) QQ EE s
noncomputable def SSs(st:MSs)(b:List Stmt):Prop:=
 ∀(g:RG) (l:Ld C) H s QQ EE Q X,At W C g l.mF H s→wSs CT st l.m H Q X→PassesOwn (model W.prog W.w) C.A C.env EE→FinF W C g QQ Q→FinX W T C g EE X→
  wpC (model W.prog W.w) C.A (execs b C.env) QQ EE s
end
section
variable {W:Wd}{T:Tabs}{CT:CT}{C:Cx}
theorem getLoc_set{m:M}{i j:Nat}{V' V:V}(h:getLoc (m.set i (some V)) j=some V'):(j=i∧V'=V)∨(j≠i∧getLoc m j=some V'):=by
 revert h
 unfold getLoc
 rw [List.getElem?_set]
 by_cases q:i=j
 ·rw [if_pos q]
  by_cases l:i<m.length
  ·rw [if_pos l];exact fun h=>.inl ⟨q.symm,(sI h).symm⟩
  ·rw [if_neg l];exact noS
 ·rw [if_neg q];exact fun h=>.inr ⟨fun z=>q z.symm,h⟩
theorem nodup_at{α β:Type}[BEq α][LawfulBEq α]{l:List (α×β)}(nd:(l.map (·.1)).Nodup){i j:Nat}{x:α}{k k':β}(h1:l[i]?=some (x,k))(h2:l[j]?=some (x,k')):i=j:=by
 have a1:(l.map (·.1))[i]?=some x:=by rw [List.getElem?_map,h1];rfl
 have a2:(l.map (·.1))[j]?=some x:=by rw [List.getElem?_map,h2];rfl
 obtain ⟨l1,e1⟩:=List.getElem?_eq_some_iff.mp a1
 obtain ⟨l2,e2⟩:=List.getElem?_eq_some_iff.mp a2
 rcases Nat.lt_trichotomy i j with q |q |q
 ·exact absurd (e1.trans e2.symm) (List.pairwise_iff_getElem.mp nd i j l1 l2 q)
 ·exact q
 ·exact absurd (e2.trans e1.symm) (List.pairwise_iff_getElem.mp nd j i l2 l1 q)
theorem VarsAt.set(E:C.EnvOk){mF:SM}{m:M}{i:Nat}{x:Str}{v:Value}{V:V}(h1:C.ns[i]?=some (x,.local))(hv:VR v V)(h:VarsAt C mF m):VarsAt C (fun y=>if y=x then some v else mF y) (m.set i (some V)):=fun j y k e1 e2 V' e3=>
 (getLoc_set e3).elim (fun z=>by
  obtain ⟨rfl,rfl⟩:=z
  rw [h1]at e1
  cases e1
  exact ⟨v,if_pos rfl,hv⟩) fun z=>by
  have hyx:y≠x:=fun q=>z.1 (nodup_at E.nd (q▸e1) h1)
  have:=h j y k e1 e2 V' z.2
  cases k with
  | «local» => exact this.imp fun w a=>⟨(if_neg hyx).trans a.1,a.2⟩
  |_=>exact this
noncomputable def Ld.set(l:Ld C)(E:C.EnvOk){i:Nat}{x:Str}(h1:C.ns[i]?=some (x,.local)){v:Value}{V:V}(hv:VR v V):Ld C:=⟨fun y=>if y=x then some v else l.mF y,l.m.set i (some V),l.loc,l.vars.set E h1 hv⟩
theorem store_loc(E:C.EnvOk){g:RG}{l:Ld C}{H:Hp}{s:Shared}{QQ:Unit→Shared→Prop}{EE:VQ}{i:Nat}{x:Str}{v:Value}{V:V}
  (h1:C.ns[i]?=some (x,.local))(h2:C.ns.lookup x=some .local)(hv:VR v V)(a:At W C g l.mF H s)(h:∀s',At W C g (l.set E h1 hv).mF H s'→QQ () s'):wpAny (model W.prog W.w) C.A (storeName C.env x v) QQ EE s:=
 wpAny_storeName_local (E.loc h2) (by rw [l.loc];exact a.F.ns) (fun h' hn hsb=>by
  rw [l.loc]at hn hsb
  exact h _ (a.to (a.F.set hn hsb) (a.own.sameL hsb))) (by rw [E.ek];rfl)
theorem ss_asg(E:C.EnvOk){i:Nat}{a:ME}{x:Str}{p:Pos}{e:Expr}{pos:Pos}(he:SE W T CT C a e)(h1:C.ns[i]?=some (x,.local))(h2:C.ns.lookup x=some .local)
  (hsw:swapsWith e (some (.Name x p)) pos.line C.env=pure false):SS W T CT C (.asg i a) (.Assign [.Name x p] e pos):=
 fun g l H s QQ EE Q X a hw hp hq hx=>c_Assign_Name (he g l.v H s _ EE _ X a hw (fun v V s1 H1 a1 hv hw1=>.of<|store_loc E h1 h2 hv a1 fun s' a'=>hq .next .next _ s' H1 a' .next hw1) hx) hsw
theorem KAsC.use{Q:Hp→Prop}{v:V}{H:Hp}{o:Option V}{P:Prop}(h:KAsC Q v H o)(k:∀c ov,o=some (.ref c)→H c=some (.cell ov)→Q (H.put c (.cell (some v)))→P):P:=by cases h with |iAc e q=>exact k _ _ rfl e q
theorem Own.isCell0{h₀ h:Heap}{L:Addr}{H:Hp}{G:Addr→Option Obj}(K:Own W h₀ L h H G){c:Nat}{ov:Option V}(e:H c=some (.cell ov)):∃v,h.IsCell c v:=
 (K.obj c _ e).2.2.2.elim fun ro z=>by
  cases ov with
  |none=>exact ⟨_,ro,z.1,z.2⟩
  |some y=>exact z.2.elim fun v q=>⟨_,ro,z.1,q.1⟩
theorem AtH.upd{h₀:Heap}{L:Addr}{g:RG}{mF:SM}{H:Hp}{h h':Heap}{ge:Array GenState}{d:Drawn}{os:OsState}(a:AtH W h₀ L g mF H h ge d os){r:Nat}{o o':O}{ro:Obj}(e:H r=some o)(hs:Heap.SameBut r h h')(hr:h'.get? r=some ro)(R:RO W ro o'):AtH W h₀ L g mF (H.put r o') h' ge d os:=
 have z:=a.own.obj r _ e
 a.to ⟨a.F.ns.sameBut hs (Ne.symm z.2.1),fun b ob eb=>(hs.2 b (fun w=>noS (z.2.2.1.symm.trans (w▸eb)))).trans (a.F.keep b ob eb),a.F.above⟩ (a.own.upd e hs.2 hr R)
theorem AtH.setCell{h₀:Heap}{L:Addr}{g:RG}{mF:SM}{H:Hp}{h h':Heap}{ge:Array GenState}{d:Drawn}{os:OsState}(a:AtH W h₀ L g mF H h ge d os){c:Nat}{ov:Option V}{v:Value}{V:V}(e:H c=some (.cell ov))(hv:VR v V)(hc:h'.IsCell c (some v))(hsb:Heap.SameBut c h h'):AtH W h₀ L g mF (H.put c (.cell (some V))) h' ge d os:=
 hc.elim fun ro q=>a.upd e hsb q.1 (.cell q.2 hv)
theorem ss_asgC(E:C.EnvOk){i:Nat}{a:ME}{x:Str}{p:Pos}{e:Expr}{pos:Pos}(he:SE W T CT C a e)(h1:C.ns[i]?=some (x,.cell))(h2:C.ns.lookup x=some .cell)
  (hsw:swapsWith e (some (.Name x p)) pos.line C.env=pure false):SS W T CT C (.asgC i a) (.Assign [.Name x p] e pos):=
 fun g l H s QQ EE Q X a hw hp hq hx=>c_Assign_Name (he g l.v H s _ EE _ X a hw (fun v V s1 H1 a1 hv hw1=>KAsC.use hw1 fun c ov q e2 k=>(a1.own.isCell0 e2).elim fun v0 hcell=>
  .of<|wpAny_storeName_cell E.ek (E.kind h2 nofun) (at_cell l.vars (.inl rfl) h1 h2 q) hcell fun h' hv' hsb=>hq .next .next l {s1 with heap:=h'} _ (a1.setCell e2 hv hv' hsb) .next k) hx) hsw
theorem ss_if{c:ME}{t e:MSs}{lc:Expr}{lt le:List Stmt}{pos:Pos}(h1:ST W T CT C c lc)(h2:SSs W T CT C t lt)(h3:SSs W T CT C e le):SS W T CT C (.if_ c t e) (.If lc lt le pos):=
 fun g l H s QQ EE Q X a hw hp hq hx=>c_If (h1 g l.v H s _ EE _ X a hw (Bool.rec (fun s' H' a' hQ=>h3 g l H' s' QQ EE Q X a' hQ hp hq hx) fun s' H' a' hQ=>h2 g l H' s' QQ EE Q X a' hQ hp hq hx) hx)
theorem ss_ret{a:ME}{e:Expr}{pos:Pos}(h:SE W T CT C a e):SS W T CT C (.ret a) (.Return (some e) pos):=
 fun g l H s QQ EE Q X a hw hp hq hx=>c_Return (h g l.v H s _ EE _ X a hw (fun v V s1 H1 a1 hv hw1=>hq _ _ l s1 H1 a1 (.ret hv) hw1) hx)
theorem ss_ret0{pos:Pos}:SS W T CT C .ret0 (.Return none pos):=fun g l H s QQ EE Q X a hw hp hq hx=>.of<|wpAny_Return_none (hq _ _ l s H a (.ret .none) hw)
theorem ss_cont{pos:Pos}:SS W T CT C .cont (.Continue pos):=fun g l H s QQ EE Q X a hw hp hq hx=>.of<|wpAny_Continue (hq _ _ l s H a .cont hw)
theorem ss_expr(D:C.Def){a:ME}{e:Expr}{pos:Pos}(h:SE W T CT C a e)(hsw:swapsWith e none pos.line C.env=pure false):SS W T CT C (.expr a) (.Expr e pos):=
 fun g l H s QQ EE Q X a hw hp hq hx=>c_Expr (h g l.v H s _ EE _ X a hw (fun v V s1 H1 a1 hv hw1=>⟨fun a q=>hw1.1 a ((q▸hv:VR (.ref a) V).ofRef),hq .next .next l s1 H1 a1 .next hw1.2⟩) hx) D.nb hsw
theorem sss_nil:SSs W T CT C .nil []:=fun g l H s QQ EE Q X a hw hp hq hx=>c_execs_nil (hq .next .next l s H a .next hw)
theorem sss_cons{a:MS}{b:MSs}{e:Stmt}{l:List Stmt}(h1:SS W T CT C a e)(h2:SSs W T CT C b l):SSs W T CT C (.cons a b) (e::l):=
 fun g l H s QQ EE Q X a hw hp hq hx=>c_execs_cons (h1 g l H s _ EE _ X a hw hp (fun f fl l' s' H' a' hf hQ=>by
  cases fl with
  |next=>exact hf▸h2 g l' H' s' QQ EE Q X a' hQ hp hq hx
  |cont=>exact hf▸hq .cont .cont l' s' H' a' .cont hQ
  |ret x=>obtain ⟨v,rfl,hv⟩:=hf;exact hq _ _ l' s' H' a' (.ret hv) hQ) hx)
theorem ss_while{c:ME}{b':MSs}{lc:Expr}{lb:List Stmt}{pos:Pos}(h1:ST W T CT C c lc)(h2:SSs W T CT C b' lb):SS W T CT C (.while_ c b') (.While lc lb [] pos):=
 fun g l H s QQ EE Q X a ⟨I,hs,hi⟩ hp hq hx=>c_While (codeC_whileLoop (fun n s=>∃(l:Ld C) (H:Hp),At W C g l.mF H s∧I n l.m H) (fun n s' ⟨l,H,a,hi⟩=>
  wpC_passesOwn hp (h1 g l.v H s' _ EE _ X a (hs n l.m H hi) (Bool.rec (fun s1 H1 a1 hQ=>hq .next .next l s1 H1 a1 .next hQ) fun s1 H1 a1 hQ=>
   wpC_passesOwn hp (h2 g l H1 s1 _ EE _ X a1 hQ hp (fun f fl l2 s2 H2 a2 hf hQ2=>by
    cases fl with
    |ret x=>obtain ⟨v,rfl,hv⟩:=hf;exact hq _ _ l2 s2 H2 a2 (.ret hv) hQ2
    |next=>obtain rfl:=hf;exact hQ2.elim fun k z=>⟨k,z.1,l2,H2,a2,z.2⟩
    |cont=>obtain rfl:=hf;exact hQ2.elim fun k z=>⟨k,z.1,l2,H2,a2,z.2⟩) hx)) hx)) _ ⟨l,H,a,hi⟩)
theorem attB_inv{c f:String}{fs:List (String×V)}(h:attB c f fs=true):(c,f)∈attrsOf∧fs.length<100:=
 have h:=(Bool.and_eq_true _ _).mp h
 ⟨of_decide_eq_true h.1,Nat.le_of_ble_eq_true h.2⟩
theorem setattr_of{rk:Nat}(K:C.Ok W T rk){g:RG}{mF:SM}{H:Hp}{s:Shared}{v w:Value}{x y:V}{f:String}{QQ:Unit→Shared→Prop}{EE:VQ}{Q:Hp→Prop}(a:At W C g mF H s)(hv:VR v x)(hw:VR w y)(h:KSa Q f x H y)(hq:∀s' H',At W C g mF H' s'→Q H'→QQ () s'):wpAny (model W.prog W.w) C.A (setAttr w (Str.ofString f) v) QQ EE s:=by
 cases h with |iSa i e q=>
 have e:=attB_inv e
 have t:=K.TF.attr _ f e.1
 refine hw.onR<|a.own.isInst i fun es n hf hgd hI=>?_
 obtain ⟨ro,hro,_,N,back⟩:=a.own.open_ i.f
 obtain rfl:=sI (hgd.symm.trans hro)
 have hl:(getL (Str.ofString f) es).isSome=true:=by
  cases q3:List.lookup f _ with
  |none=>rw [hf.get.2 q3];rfl
  |some y=>exact (hf.get.1 y q3).elim fun v z=>z.1▸rfl
 have hput:=hf.put (f:=f) (t:=s.toks+1) hv
 exact set_dict a.F K.G.K N hI rfl t.2.2.2.1 t.2.2.2.2.1 t.2.2.2.2.2 t.2.1 hl rfl (Upd.head others_ne) (by have:=hf.length;exact lz [_,_,_] [] 37440232985468975400146608040939949999488 rfl e.2 hput.2 this) fun h' F' N'=>hq _ _ (a.to F' (back _ _ _ N' (.flds hput.1))) q
theorem ss_setattr{rk:Nat}(K:C.Ok W T rk){o a:ME}{f:String}{lo e:Expr}{p pos:Pos}(h1:SE W T CT C a e)(h2:SE W T CT C o lo)
  (hr:∀(Q:Flow→Shared→Prop) (E:VQ) (s:Shared),wpC (model W.prog W.w) C.A (eval e C.env) (fun v s₁=>wpC (model W.prog W.w) C.A (eval lo C.env) (fun ov s₂=>wpC (model W.prog W.w) C.A (setAttr ov (Str.ofString f) v) (fun _=>Q .next) E s₂) E s₁) E s→
   wpC (model W.prog W.w) C.A (exec (.Assign [.Attribute lo (Str.ofString f) p] e pos) C.env) Q E s):SS W T CT C (.setattr o f a) (.Assign [.Attribute lo (Str.ofString f) p] e pos):=
 fun g l H s QQ EE Q X a hw hp hq hx=>hr _ _ _ (h1 g l.v H s _ EE _ X a hw (fun v V s1 H1 a1 hv hw1=>h2 g l.v H1 s1 _ EE _ X a1 hw1 (fun ov x s2 H2 a2 hx2 hw2=>.of (setattr_of K a2 hv hx2 hw2 fun s' H' a' q=>hq .next .next l s' H' a' .next q)) hx) hx)
end
end
end Mine
end
section
open PySem PySem.W PyProof.Rows PySem.Calls PySem.Spec
set_option genInjectivity false
set_option genSizeOf false
set_option genCtorIdx false
set_option bootstrap.genMatcherCode false
namespace Mine
open KTr KAttr WBin WCmp KSub KLen KSlf KSlt KSlc KMax LO WB SU KIs KApp AppL AppA ExtL ExtA KDget KTk KCel KMeth OV BT ST2 KSa KAsC WhI ForI CompI KMM KEn
section
section
variable {W:Wd}{T:Tabs}{CT:CT}{C:Cx}
theorem bt(k:Nat){p:String×Value}(h:biTab[k]?=some p):p∈biTab:=List.mem_of_getElem? h
theorem bi_kind{x:String}{v:Value}(h:(x,v)∈biTab):(∃id,v=.builtin id)∨∃T,v=.type T:=(List.mem_append.mp h).imp (fun h=>(List.mem_map.mp h).elim fun y z=>⟨y,(Prod.mk.inj z.2).2.symm⟩) fun h=>(List.mem_map.mp h).elim fun y z=>⟨y,(Prod.mk.inj z.2).2.symm⟩
theorem bi_nd{p:String×Value}(h:p∈biTab):(Str.ofString p.1 == ("__debug__":Str))=false:=(Bool.not_eq_true' _).mp (List.all_eq_true.mp (show (biTab.all fun p => !(Str.ofString p.1 == ("__debug__":Str)))=true by decide +kernel) _ h)
theorem name_bi(E:C.EnvOk){rk:Nat}(K:C.Ok W T rk){x:String}{v:Value}{pos:Pos}{g:RG}{mF:SM}{H:Hp}{s:Shared}{QQ EE:VQ}
  (a:At W C g mF H s)(hl:C.ns.lookup (Str.ofString x)=some .globalImplicit)(hv:(x,v)∈biTab)(h:QQ v s):wpC (model W.prog W.w) C.A (eval (.Name (Str.ofString x) pos) C.env) QQ EE s:=
 K.G.g.elim fun mg z=>z.elim fun mb z=>have n:=z.2.2.2.2.2.2 x v hv
 .of<|Name_function_global E.ek (E.glob hl) (loadGlobal_builtin (E.eg▸z.1.keeps a.F.keep) n.1 (E.eb▸z.2.1.keeps a.F.keep) n.2 h) (bi_nd hv)
noncomputable def Bi1(W:Wd)(C:Cx)(v:Value)(F:QV→V→Hp→Prop):Prop:=∀(g:RG) (mF:SM) (H:Hp) (s:Shared) (QQ EE:VQ) (Q:QV) (w:Value) (y:V),At W C g mF H s→VR w y→F Q y H→Fin1 W C g mF QQ Q→wpAny (model W.prog W.w) C.A (call v [w]) QQ EE s
noncomputable def Bi2(W:Wd)(C:Cx)(v:Value)(F:QV→V→V→Hp→Prop):Prop:=∀(g:RG) (mF:SM) (H:Hp) (s:Shared) (QQ EE:VQ) (Q:QV) (w:Value) (y:V) (w':Value) (y':V),At W C g mF H s→VR w y→VR w' y'→F Q y y' H→Fin1 W C g mF QQ Q→wpAny (model W.prog W.w) C.A (call v [w,w']) QQ EE s
theorem bi1(E:C.EnvOk){rk:Nat}(K:C.Ok W T rk){x:String}{v:Value}{a:ME}{me:ME}{e:Expr}{np pos:Pos}(hv:(x,v)∈biTab)(h1:SE W T CT C a e)(hst:starEach [e] C.env=[(false,eval e C.env)])
  (hl:C.ns.lookup (Str.ofString x)=some .globalImplicit){F:QV→V→Hp→Prop}(hwp:∀m H Q X,wE CT me m H Q X→wE CT a m H (F Q) X)(hq:Bi1 W C v F):SE W T CT C me (.Call (.Name (Str.ofString x) np) [e] [] pos):=
 fun g l H s QQ EE Q X a hw hq' hx=>c_Call (name_bi E K a hl hv (c_callWith_B1 (first:=[]) (bi_kind hv) (c_args_cons (h1 g l H s _ EE _ X a (hwp _ _ _ _ hw) (fun w y s1 H1 a1 hv hF=>c_args_nil (.of (hq _ _ _ _ _ _ _ _ _ a1 hv hF hq'))) hx) hst) hst rfl))
theorem bi2(E:C.EnvOk){rk:Nat}(K:C.Ok W T rk){x:String}{v:Value}{a b:ME}{me:ME}{e f:Expr}{np pos:Pos}(hv:(x,v)∈biTab)(h1:SE W T CT C a e)(h2:SE W T CT C b f)(hst:starEach [e,f] C.env=(false,eval e C.env)::starEach [f] C.env)(hst2:starEach [f] C.env=[(false,eval f C.env)])
  (hl:C.ns.lookup (Str.ofString x)=some .globalImplicit){F:QV→V→V→Hp→Prop}(hwp:∀m H Q X,wE CT me m H Q X→wE CT a m H (fun v H=>wE CT b m H (F Q v) X) X)(hq:Bi2 W C v F):SE W T CT C me (.Call (.Name (Str.ofString x) np) [e,f] [] pos):=
 fun g l H s QQ EE Q X a hw hq' hx=>c_Call (name_bi E K a hl hv (c_callWith_B1 (first:=[]) (bi_kind hv) (c_args_cons (h1 g l H s _ EE _ X a (hwp _ _ _ _ hw) (fun w y s1 H1 a1 hv hF=>c_args_cons (h2 g l H1 s1 _ EE _ X a1 hF (fun w' y' s2 H2 a2 hv' hF=>c_args_nil (.of (hq _ _ _ _ _ _ _ _ _ _ _ a2 hv hv' hF hq'))) hx) hst2) hx) hst) hst (by rw [hst2];rfl)))
end
end
end Mine
end
section
open PySem PySem.W PyProof.Rows PySem.Calls PySem.Spec
set_option maxHeartbeats 4000000
namespace Mine
section
section
variable {prog:Program}{w:World}{A:Around}{E:VQ}{s:Shared}{b:Array UInt8}{t:Tok}
noncomputable abbrev BytAt(b:Array UInt8):Nat→Value→Prop:=fun i v=>∃c u,b[i]?=some c∧v=.int (c.toNat:Int) u
theorem extend_bytes{R:Result→Shared→Prop}(hh:A.handled=none)(S:Addr)(res:Value)(c₀:Nat)(hS:s.heap.get? S=some {cls:=.type "list",data:=.seq #[] c₀})
  (hR:∀h' tk acc' c',(∀b o,b≠S→s.heap.get? b=some o→h'.get? b=some o)→h'.get? S=some {cls:=.type "list",dict:=none,data:=.seq acc' c',slots := #[]}→
   ItemsOf (BytAt b) acc' b.size→R (.ok (.ret res)) {s with heap:=h',toks:=tk})(hn:b.size≤sizeLine) :
  wpAny (model prog w) A.in1 (Builtin.List.listExtendWith (.ref S) (.bytes b t) res)
   (fun fin s'=>match fin with | .done f=>R (.ok f) s' | .again c'=>c'.quiet=true∧codeAny (model prog w) A c' R s') (fun e s'=>R (.error e) s') s:=by
 have hSI:S≠s.heap.objs.size:=Nat.ne_of_lt (Heap.lt_size hS)
 have hSf:S∉[s.heap.objs.size]:=fun hm=>hSI (List.mem_singleton.mp hm)
 have W:=(KBw.walks (prog:=prog) (w:=w) (A:=A.in1) hh s.heap.objs.size b t).toS
 have key:∀(h:Heap) (c₁ tk:Nat),KBw.IsBytesIter h s.heap.objs.size b t 0→(∀b o,b≠S→s.heap.get? b=some o→h.get? b=some o)→
   h.get? S=some {cls:=.type "list",data:=.seq #[] c₁}→codeAny (model prog w) A (.builtin "list.extend.loop" ⟨[.ref S,.ref s.heap.objs.size,res],[]⟩) R {s with heap:=h,toks:=tk}:=by
  intro h c₁ tk hit hk hS₁
  refine codeAny_extend_loopS W hn S hSf res b.size 0 _ #[] c₁ rfl (Nat.zero_le _) hit hS₁ (ItemsOf.nil _) fun s' acc' c' hm hS' hacc=>?_
  rw [Moved.eq_with hm]
  refine hR s'.heap s'.toks acc' c' (fun b o hb e=>hm.heap b o (fun hmem=>?_) (hk b o hb e)) hS' hacc
  rcases List.mem_cons.mp hmem with e' |hmem
  ·exact hb e'
  ·exact absurd (Heap.lt_size e) (by rw [List.mem_singleton.mp hmem];exact Nat.lt_irrefl _)
 unfold Builtin.List.listExtendWith
 refine wpAny_bind (wpAny_typeOf (typeIs_bytes s b t) ?_)
 refine a_if_false (by rfl) ?_
 refine wpAny_bind (KBw.pyIter_bytes ?_)
 refine wpAny_bind (wpAny_holding ?_)
 unfold Builtin.List.listLengthHint
 refine wpAny_bind (wpAny_specialOf (typeIs_bytes _ b t) FB.slot_bytes_len.lookup ?_)
 wp_delta
 refine wpAny_bind (wpAny_isInstance (b:=true) (typeIs_bytes _ b t) (by rw [isSubtype_type];kernel_rfl) ?_)
 show wpAny _ _ (typeOf (Value.bytes b t) >>= _) _ _ _
 refine wpAny_bind (wpAny_typeOf (typeIs_bytes _ b t) ?_)
 refine wpAny_pure ?_
 rw [if_neg (by decide)]
 exact wpAny_pure ⟨plainId_quiet F.plain_extend_loop _,key _ _ _ ⟨_,Heap.get?_push_size _ rfl,rfl,rfl⟩ (fun b o _ e=>Heap.get?_push_of_some _ e) (Heap.get?_push_of_some _ hS)⟩
theorem list_init_bytes{R:Result→Shared→Prop}(hh:A.handled=none)(S:Addr)(hS:s.heap.get? S=some {cls:=.type "list",data:=.seq #[]})
  (hR:∀h' tk acc' c',(∀b o,b≠S→s.heap.get? b=some o→h'.get? b=some o)→h'.get? S=some {cls:=.type "list",dict:=none,data:=.seq acc' c',slots := #[]}→
   ItemsOf (BytAt b) acc' b.size→R (.ok (.ret .none)) {s with heap:=h',toks:=tk})(hn:b.size≤sizeLine) :
  wpAny (model prog w) A.in1 (Builtin.«list.__init__» ⟨[.ref S,.bytes b t],[]⟩)
   (fun fin s'=>match fin with | .done f=>R (.ok f) s' | .again c'=>c'.quiet=true∧codeAny (model prog w) A c' R s') (fun e s'=>R (.error e) s') s:=by
 show wpAny _ _ (do let old←Builtin.List.listItems (.ref S);Builtin.List.listUpdate (.ref S) (fun _ => #[]);letGo old.toList.reverse;Builtin.List.listExtendWith (.ref S) (.bytes b t) .none) _ _ s
 refine wpAny_bind ?_
 unfold Builtin.List.listItems
 refine wpAny_bind (wpAny_seqItems hS rfl (wpAny_pure ?_))
 show wpAny _ _ (updateSeq S (fun _ => #[]) >>= fun _=>letGo (#[]:Array Value).toList.reverse >>= fun _=>Builtin.List.listExtendWith (.ref S) (.bytes b t) .none) _ _ s
 refine wpAny_bind (wpAny_updateSeq hS rfl ?_)
 have hS₂:=Heap.get?_update_self (Obj.mapSeq (fun _=>(#[]:Array Value))) hS rfl
 have oth:∀b o,b≠S→s.heap.get? b=some o→(s.heap.update S (Obj.mapSeq (fun _=>(#[]:Array Value)))).get? b=some o:=fun b o hb e=>(Heap.get?_update_other _ _ (Ne.symm hb)).trans e
 refine wpAny_bind (wpAny_letGo ?_)
 refine extend_bytes hh S .none _ hS₂ (fun h' tk acc' c' hk hS' hacc=>?_) hn
 exact hR h' tk acc' c' (fun b o hb e=>hk b o hb (oth b o hb e)) hS' hacc
theorem call_list_bytes{Q:VQ}(hh:A.handled=none)
  (hQ:∀h' tk acc' c',(∀b o,s.heap.get? b=some o→h'.get? b=some o)→h'.get? s.heap.objs.size=some {cls:=.type "list",dict:=none,data:=.seq acc' c',slots := #[]}→ItemsOf (BytAt b) acc' b.size→Q (.ref s.heap.objs.size) {s with heap:=h',toks:=tk})(hn:b.size≤sizeLine) :
  wpAny (model prog w) A (call (.type "list") [.bytes b t]) Q E s:=by
 refine callType_codes (Q₁:=fun obj s₁=>obj=.ref s.heap.objs.size∧s₁={s with heap:=s.heap.push {cls:=.type "list",data:=.seq #[]}}) F.called_list (F.typeCall_list_1 _) F.entry_list_init
  (code_list_new _ ⟨rfl,rfl⟩) fun obj s₁ h₁=>?_
 obtain ⟨rfl,rfl⟩:=h₁
 have hS:(s.heap.push {cls:=.type "list",data:=.seq #[]}).get? s.heap.objs.size=some {cls:=.type "list",data:=.seq #[]}:=Heap.get?_push_size _ rfl
 refine ⟨⟨_,hS,rfl⟩,F.args_list_init_2 _ _,list_init_bytes (A:=A.in1) hh _ hS (fun h' tk acc' c' hk hS' hacc=>?_) hn⟩
 exact ⟨rfl,hQ h' tk acc' c' (fun b o e=>hk b o (Nat.ne_of_lt (Heap.lt_size e)) (Heap.get?_push_of_some _ e)) hS' hacc⟩
end
end
end Mine
end
section
open PySem PySem.W PyProof.Rows PySem.Calls PySem.Spec
set_option genInjectivity false
set_option genSizeOf false
set_option genCtorIdx false
set_option bootstrap.genMatcherCode false
namespace Mine
open KTr KAttr WBin WCmp KSub KLen KSlf KSlt KSlc KMax LO WB SU KIs KApp AppL AppA ExtL ExtA KDget KTk KCel KMeth OV BT ST2 KSa KAsC WhI ForI CompI KMM KEn
section
theorem VRs.of_get{vs:List Value}:∀{xs:List V},vs.length=xs.length→(∀(j:Nat) (v:Value) (x:V),vs[j]?=some v→xs[j]?=some x→VR v x)→VRs vs xs:=by
 induction vs with
 |nil=>intro xs hl h;cases xs with |nil=>exact .nil |cons=>cases hl
 |cons v vs ih=>intro xs hl h;cases xs with |nil=>cases hl |cons x xs=>exact .cons (h 0 v x rfl rfl) (ih (Nat.succ.inj hl) fun j v' x' e1 e2=>h (j+1) v' x' e1 e2)
theorem intsOf_map:∀{xs:List V} {is:List Int},intsOf xs=some is→xs=is.map V.int
 | [],_,h=>sI h▸rfl
 |x::xs,_,h=>by
  cases x with
  |int i=>exact (Option.map_eq_some_iff.mp h).elim fun js z=>z.2▸congrArg _ (intsOf_map z.1)
  |_=>exact noS h
theorem VRs.intsP{vs:List Value}{xs:List V}{is:List Int}(h:VRs vs xs)(e:intsOf xs=some is):IntsAre vs is:=(intsOf_map e▸h:VRs vs (is.map V.int)).ints
section
variable {W:Wd}{T:Tabs}{CT:CT}{C:Cx}
theorem AtH.grown{h₀:Heap}{L:Addr}{g:RG}{mF:SM}{H:Hp}{h h':Heap}{ge:Array GenState}{d:Drawn}{os:OsState}(a:AtH W h₀ L g mF H h ge d os)(hk:∀b o,h.get? b=some o→h'.get? b=some o):AtH W h₀ L g mF H h' ge d os:=a.to (a.F.keeps hk) (a.own.keeps hk)
theorem AtH.new{h₀:Heap}{L:Addr}{g:RG}{mF:SM}{H:Hp}{h h':Heap}{ge:Array GenState}{d:Drawn}{os:OsState}(a:AtH W h₀ L g mF H h ge d os)(hk:∀b o,h.get? b=some o→h'.get? b=some o){ro:Obj}{o:O}(e:h'.get? h.objs.size=some ro)(R:RO W ro o):AtH W h₀ L g mF (H.put h.objs.size o) h' ge d os:=
 a.to (a.F.keeps hk) (a.own.new a.F hk (Heap.get_size _) e R).2
theorem szY{arr:Array UInt8}{n:Nat}(h:(arr.toList.map UInt8.toNat).length≤n):arr.size≤n:=by rw [List.length_map]at h;exact h
theorem szP{n:Nat}(h:n≤16777216):n<2^63:=Nat.lt_of_le_of_lt h (by decide)
theorem len_of:Bi1 W C (.builtin "len") kLen:=fun g mF H s QQ EE Q w y a hv ⟨z,hn,hF⟩ hq=>
 Sz.rec (motive:=fun y n _=>VR w y→n≤16777216→Q (.int n) H→wpAny (model W.prog W.w) C.A (call (.builtin "len") [w]) QQ EE s)
  (fun b hv hn hF=>(hv.onY (P:=fun w b=>b.length≤16777216→Q (.int b.length) H→wpAny (model W.prog W.w) C.A (call (.builtin "len") [w]) QQ EE s) fun arr t hn hF=>len_bytes (by have:=szY hn;exact lz [_] [] 43165660760071499000048531483250573879050226659780150863104 rfl this) (hq _ _ _ H a (.nat (List.length_map _) _) hF)) hn hF)
  (fun h hv hn hF=>hv.onR<|a.own.isList h fun items _ _ hl _ hz=>len_list hl (by omega) (hq _ _ _ H a (hz▸.int _ _) hF))
  (fun h hv hn hF=>hv.onR<|a.own.isTup h fun items hl _ hz=>len_tuple hl (by omega) (hq _ _ _ H a (hz▸.int _ _) hF))
  (fun {r b} h hv hn hF=>hv.onR<|(a.own.isBA h).elim fun arr y=>ba_len y.1 (by rw [y.2]at hn;have:=szY hn;exact lz [_] [] 628137461480918135036778499238781940882819687680 rfl this) (hq _ _ _ H a (.nat (y.2▸List.length_map _) _) hF)) z hv hn hF
theorem se_len(E:C.EnvOk){rk:Nat}(K:C.Ok W T rk){a:ME}{e:Expr}{np pos:Pos}(h1:SE W T CT C a e)(hst:starEach [e] C.env=[(false,eval e C.env)])(hl:C.ns.lookup (Str.ofString "len")=some .globalImplicit) :
  SE W T CT C (.len a) (.Call (.Name (Str.ofString "len") np) [e] [] pos):=bi1 E K (bt 0 rfl) h1 hst hl (fun _ _ _ _ h=>h) len_of
theorem list_of{rk:Nat}(K:C.Ok W T rk):Bi1 W C (.type "list") kListOf:=fun g mF H s QQ EE Q w y a hv hF hq=>
 LO.rec (motive:=fun y _=>VR w y→wpAny (model W.prog W.w) C.A (call (.type "list") [w]) QQ EE s)
  (fun {b} hn hF hv=>(hv.onY (P:=fun w b=>b.length≤16777216→(∀r,H r=none→Q (.ref r) (H.put r (.list (b.map fun (n:Nat)=>.int (n:Int)))))→wpAny (model W.prog W.w) C.A (call (.type "list") [w]) QQ EE s) fun arr t hn hF=>call_list_bytes K.hh (fun h' tk acc c' hk hS hacc=>
   hq _ _ _ _ (a.new hk hS (.list (VRs.of_get (by simpa using hacc.1) fun j v x e1 e2=>by
    obtain ⟨c,u,ec,rfl⟩:=hacc.2 j v (by simpa using e1)
    simp only [List.map_map,List.getElem?_map,Array.getElem?_toList,ec,Option.map_some,Option.some.injEq]at e2
    exact e2▸.int _ _))) (.ref _) (hF _ a.fresh.1)) (szY hn)) hn hF)
  (fun h hn hF hv=>hv.onR<|a.own.isList h fun items _ _ hl hv hz=>list_copyK a.F a.own.news hl (fun D c h' F' N' lt=>
   have fD:=ledger_fresh a.own lt (Nat.le_refl D)
   hq _ _ _ _ (a.to F' (a.own.cons N' fD (.list hv))) (.ref _) (hF _ fD.1)) (hz▸hn)) hF hv
theorem se_listOf(E:C.EnvOk){rk:Nat}(K:C.Ok W T rk){a:ME}{e:Expr}{np pos:Pos}(h1:SE W T CT C a e)(hst:starEach [e] C.env=[(false,eval e C.env)])(hl:C.ns.lookup (Str.ofString "list")=some .globalImplicit) :
  SE W T CT C (.listOf a) (.Call (.Name (Str.ofString "list") np) [e] [] pos):=bi1 E K (bt 5 rfl) h1 hst hl (fun _ _ _ _ h=>h) (list_of K)
theorem byteArr_map{is:List Int}(h:∀i∈is,0≤i∧i<256):(byteArr is).toList.map UInt8.toNat=is.map Int.toNat:=by
 unfold byteArr
 rw [List.map_map]
 exact List.map_congr_left fun i hi=>(UInt8.toNat_ofNat' ..).trans (Nat.mod_eq_of_lt ((Int.toNat_lt (h i hi).1).mpr (h i hi).2))
theorem bytes_of{rk:Nat}(K:C.Ok W T rk):Bi1 W C (.type "bytes") kBytes:=fun g mF H s QQ EE Q w y a hv hF hq=>
 WB.rec (motive:=fun y _=>VR w y→wpAny (model W.prog W.w) C.A (call (.type "bytes") [w]) QQ EE s)
  (fun {b} hF hv=>(hv.onY (P:=fun w b=>Q (.bytes b) H→wpAny (model W.prog W.w) C.A (call (.type "bytes") [w]) QQ EE s) fun arr t hF=>call_bytes_by (hq _ _ _ H a (.bytes arr t) hF)) hF)
  (fun h hn qi hr hF hv=>hv.onR<|a.own.isList h fun items _ _ hl hv hz=>call_bytes_ints (vs:=items.toList) hl (hv.intsP qi) hr (hz▸hn:items.size≤16777216) K.hh fun h' t k hk=>hq _ _ _ H (a.grown hk) (byteArr_map hr▸.bytes _ _) hF)
  (fun {r b} h hn hF hv=>hv.onR<|(a.own.isBA h).elim fun arr y=>call_bytes_ba y.1 (by rw [y.2]at hn;exact szY hn) fun t k=>hq _ _ _ H a (y.2▸.bytes arr t) hF) hF hv
theorem se_bytesOf(E:C.EnvOk){rk:Nat}(K:C.Ok W T rk){a:ME}{e:Expr}{np pos:Pos}(h1:SE W T CT C a e)(hst:starEach [e] C.env=[(false,eval e C.env)])(hl:C.ns.lookup (Str.ofString "bytes")=some .globalImplicit) :
  SE W T CT C (.bytesOf a) (.Call (.Name (Str.ofString "bytes") np) [e] [] pos):=bi1 E K (bt 6 rfl) h1 hst hl (fun _ _ _ _ h=>h) (bytes_of K)
theorem int_of:Bi1 W C (.type "int") kIntOf:=fun g mF H s QQ EE Q w y a hv hF hq=>
 hv.elim (P:=fun w y=>kIntOf Q y H→wpAny (model W.prog W.w) C.A (call (.type "int") [w]) QQ EE s) False.elim (fun b hF=>call_int_bool (hq _ _ _ H a (.int _ _) hF)) (fun _ _=>False.elim) (fun _ _=>False.elim) (fun _ _=>False.elim) (fun _=>False.elim) hF
theorem se_intOf(E:C.EnvOk){rk:Nat}(K:C.Ok W T rk){a:ME}{e:Expr}{np pos:Pos}(h1:SE W T CT C a e)(hst:starEach [e] C.env=[(false,eval e C.env)])(hl:C.ns.lookup (Str.ofString "int")=some .globalImplicit) :
  SE W T CT C (.intOf a) (.Call (.Name (Str.ofString "int") np) [e] [] pos):=bi1 E K (bt 8 rfl) h1 hst hl (fun _ _ _ _ h=>h) int_of
theorem sum_by{rk:Nat}(K:C.Ok W T rk){g:RG}{mF:SM}{H:Hp}{s:Shared}{QQ EE:VQ}{Q:QV}(a:At W C g mF H s)(hq:Fin1 W C g mF QQ Q){arr:Array UInt8}{t:Tok}(hF:Q (.int ((arr.toList.map UInt8.toNat).map fun (n:Nat)=>(n:Int)).sum) H):wpAny (model W.prog W.w) C.A (call (.builtin "sum") [.bytes arr t]) QQ EE s:=by
 refine call_sum_walkG (KBw.pyIter_bytes ⟨s.heap.objs.size,[s.heap.objs.size],[s.heap.objs.size],arr.size,_,_,fun i=>(KBw.bInts arr).getD i 0,rfl,KBw.walks (A:=C.A.in1) K.hh s.heap.objs.size arr t,(⟨_,Heap.get?_push_size _ rfl,rfl,rfl⟩:KBw.IsBytesIter _ _ _ _ _),?_,?_,?_⟩)
 ·intro b hb
  rw [List.mem_singleton.mp hb]
  show s.heap.objs.size<(s.heap.push _).objs.size
  rw [Heap.size_push];exact Nat.lt_succ_self _
 ·rintro i v ⟨c,u,hc,rfl⟩
  refine ⟨u,?_⟩
  have:=KBw.ints_get hc
  show _=Value.int ((KBw.bInts arr).getD i 0) u
  rw [List.getD_eq_getElem?_getD,this];rfl
 ·intro h' tk t' hk
  have e:preSum (fun i=>(KBw.bInts arr).getD i 0) arr.size=((arr.toList.map UInt8.toNat).map fun (n:Nat)=>(n:Int)).sum:=by
   rw [preSum_getD,List.take_of_length_le (by unfold KBw.bInts;rw [List.length_map];exact Nat.le_refl _),List.map_map];rfl
  rw [e]
  exact hq _ _ _ H (a.grown fun b o eb=>hk b o (fun hm=>absurd (Heap.lt_size eb) (by rw [List.mem_singleton.mp hm];exact Nat.lt_irrefl _)) (Heap.get?_push_of_some _ eb)) (.int _ _) hF
theorem sum_ls{rk:Nat}(K:C.Ok W T rk){g:RG}{mF:SM}{H:Hp}{s:Shared}{QQ EE:VQ}{Q:QV}(a:At W C g mF H s)(hq:Fin1 W C g mF QQ Q){l:Addr}{items:Array Value}{is:List Int}(hl:s.heap.IsList l items)(hi:IntsAre items.toList is)(hF:Q (.int is.sum) H):wpAny (model W.prog W.w) C.A (call (.builtin "sum") [.ref l]) QQ EE s:=by
 obtain ⟨xs,ex⟩:=hi.allInts.items
 have hns:is=xs.toList.map (·.1):=by rw [←hi.numsOf,←nums_intItems,←ex]
 refine sum_intListG K.hh (show s.heap.IsList _ (intItems xs) from ex▸hl) fun h' tk t' hk=>?_
 rw [preSum_eq,List.take_of_length_le (by rw [List.length_map];exact Nat.le_refl _),←hns]
 exact hq _ _ _ H (a.grown hk) (.int _ _) hF
theorem sum_of{rk:Nat}(K:C.Ok W T rk):Bi1 W C (.builtin "sum") kSum:=fun g mF H s QQ EE Q w y a hv hF hq=>
 SU.rec (motive:=fun y _=>VR w y→wpAny (model W.prog W.w) C.A (call (.builtin "sum") [w]) QQ EE s)
  (fun {b} hn hF hv=>(hv.onY (P:=fun w b=>Q (.int (b.map fun (n:Nat)=>(n:Int)).sum) H→wpAny (model W.prog W.w) C.A (call (.builtin "sum") [w]) QQ EE s) fun arr t hF=>sum_by K a hq hF) hF)
  (fun h hn qi hF hv=>hv.onR<|a.own.isList h fun items _ _ hl hv hz=>sum_ls K a hq hl (hv.intsP qi) hF) hF hv
theorem se_sum(E:C.EnvOk){rk:Nat}(K:C.Ok W T rk){a:ME}{e:Expr}{np pos:Pos}(h1:SE W T CT C a e)(hst:starEach [e] C.env=[(false,eval e C.env)])(hl:C.ns.lookup (Str.ofString "sum")=some .globalImplicit) :
  SE W T CT C (.sum a) (.Call (.Name (Str.ofString "sum") np) [e] [] pos):=bi1 E K (bt 3 rfl) h1 hst hl (fun _ _ _ _ h=>h) (sum_of K)
theorem foldl_max{M x:Int}:∀{r:List Int},(∀a∈x::r,a≤M)→M∈x::r→r.foldl max x=M:=by
 intro r
 induction r generalizing x with
 |nil=>intro h hm;rw [List.foldl_nil];exact (List.mem_singleton.mp hm).symm
 |cons y r ih=>
  intro h hm
  rw [List.foldl_cons]
  have hx:=h x (.head _)
  have hy:=h y (.tail _ (.head _))
  refine ih (fun a ha=>?_) ?_
  ·rcases List.mem_cons.mp ha with rfl |ha
   ·omega
   ·exact h a (.tail _ (.tail _ ha))
  ·rcases List.mem_cons.mp hm with e |hm
   ·have:max x y=M:=by exact lz [] [_,_,_] 1501385649199352468871 rfl e (Int.max_eq_left (lz [] [_,_,_] 25728402030990812485 rfl hy e))
    rw [this];exact .head _
   ·rcases List.mem_cons.mp hm with e |hm
    ·have:max x y=M:=by exact lz [] [_,_,_] 1501385649199352468871 rfl e (Int.max_eq_right (lz [] [_,_,_] 25728402030990812485 rfl hx e))
     rw [this];exact .head _
    ·exact .tail _ hm
theorem max_of{rk:Nat}(K:C.Ok W T rk):Bi1 W C (.builtin "max") kMax1:=fun g mF H s QQ EE Q w y a hv hF hq=>
 KMax.rec (motive:=fun y _=>VR w y→wpAny (model W.prog W.w) C.A (call (.builtin "max") [w]) QQ EE s)
  (fun h qi hn hF hv=>hv.onR<|a.own.isList h fun items _ _ hl hv hz=>max_list_N (vs:=items.toList) K.hh a.F a.own.news hl (hv.intsP qi) (Nat.succ_pos _) fun h' M t tk F' N' hm hM=>hq _ _ _ H (a.to F' (a.own.ofNews N')) (foldl_max hM hm▸.int _ _) hF) hF hv
theorem se_max1(E:C.EnvOk){rk:Nat}(K:C.Ok W T rk){a:ME}{e:Expr}{np pos:Pos}(h1:SE W T CT C a e)(hst:starEach [e] C.env=[(false,eval e C.env)])(hl:C.ns.lookup (Str.ofString "max")=some .globalImplicit) :
  SE W T CT C (.max1 a) (.Call (.Name (Str.ofString "max") np) [e] [] pos):=bi1 E K (bt 2 rfl) h1 hst hl (fun _ _ _ _ h=>h) (max_of K)
theorem min_if{i j:Int}:min i j=if j<i then j else i:=by
 by_cases h:j<i
 ·rw [if_pos h,Int.min_eq_right (Int.le_of_lt h)]
 ·rw [if_neg h,Int.min_eq_left (Int.not_lt.mp h)]
theorem max_if{i j:Int}:max i j=if j > i then j else i:=by
 by_cases h:j > i
 ·rw [if_pos h,Int.max_eq_right (Int.le_of_lt h)]
 ·rw [if_neg h,Int.max_eq_left (Int.not_lt.mp h)]
theorem min_of{rk:Nat}(K:C.Ok W T rk):Bi2 W C (.builtin "min") kMin2:=fun g mF H s QQ EE Q w y w' y' a hv hv' hF hq=>
 KMM.rec (motive:=fun y y' _=>VR w y→VR w' y'→wpAny (model W.prog W.w) C.A (call (.builtin "min") [w,w']) QQ EE s)
  (fun e hF hv hv'=>hv.on2 hv' fun t u=>min_two_N K.hh a.F a.own.news fun h' tk F' N'=>hq _ _ _ H (a.to F' (a.own.ofNews N')) (min_if▸e▸.int _ _) hF) hF hv hv'
theorem max_of2{rk:Nat}(K:C.Ok W T rk):Bi2 W C (.builtin "max") kMax2:=fun g mF H s QQ EE Q w y w' y' a hv hv' hF hq=>
 KMM.rec (motive:=fun y y' _=>VR w y→VR w' y'→wpAny (model W.prog W.w) C.A (call (.builtin "max") [w,w']) QQ EE s)
  (fun e hF hv hv'=>hv.on2 hv' fun t u=>max_two_N K.hh a.F a.own.news fun h' tk F' N'=>hq _ _ _ H (a.to F' (a.own.ofNews N')) (max_if▸e▸.int _ _) hF) hF hv hv'
theorem se_min2(E:C.EnvOk){rk:Nat}(K:C.Ok W T rk){a b:ME}{e f:Expr}{np pos:Pos}(h1:SE W T CT C a e)(h2:SE W T CT C b f)(hst:starEach [e,f] C.env=(false,eval e C.env)::starEach [f] C.env)(hst2:starEach [f] C.env=[(false,eval f C.env)])
  (hl:C.ns.lookup (Str.ofString "min")=some .globalImplicit):SE W T CT C (.min2 a b) (.Call (.Name (Str.ofString "min") np) [e,f] [] pos):=bi2 E K (bt 1 rfl) h1 h2 hst hst2 hl (fun _ _ _ _ h=>h) (min_of K)
theorem se_max2(E:C.EnvOk){rk:Nat}(K:C.Ok W T rk){a b:ME}{e f:Expr}{np pos:Pos}(h1:SE W T CT C a e)(h2:SE W T CT C b f)(hst:starEach [e,f] C.env=(false,eval e C.env)::starEach [f] C.env)(hst2:starEach [f] C.env=[(false,eval f C.env)])
  (hl:C.ns.lookup (Str.ofString "max")=some .globalImplicit):SE W T CT C (.max2 a b) (.Call (.Name (Str.ofString "max") np) [e,f] [] pos):=bi2 E K (bt 2 rfl) h1 h2 hst hst2 hl (fun _ _ _ _ h=>h) (max_of2 K)
theorem isi_args(E:C.EnvOk){rk:Nat}(K:C.Ok W T rk){a me:ME}{e:Expr}{y:String}{np np2 pos:Pos}(hy:(y,.type y)∈biTab)(h1:SE W T CT C a e)(hst:starEach [e,.Name (Str.ofString y) np2] C.env=(false,eval e C.env)::starEach [.Name (Str.ofString y) np2] C.env)
  (hst2:starEach [.Name (Str.ofString y) np2] C.env=[(false,eval (.Name (Str.ofString y) np2) C.env)])(hl:C.ns.lookup (Str.ofString "isinstance")=some .globalImplicit)(hl2:C.ns.lookup (Str.ofString y)=some .globalImplicit){n:Bool}
  (hwp:∀m H Q X,wE CT me m H Q X→wE CT a m H (fun v H=>KIs Q H n v) X)(hi:∀{s:Shared} {QQ EE:VQ} {i:Int} {t:Tok},(∀tk,QQ (.bool (true == n)) {s with toks:=tk})→wpAny (model W.prog W.w) C.A (call (.builtin "isinstance") [.int i t,.type y]) QQ EE s)
  (ht:∀{s:Shared} {QQ EE:VQ} {r:Addr} {o:Obj},s.heap.get? r=some o→o.cls=.type "tuple"→(∀tk,QQ (.bool (false == n)) {s with toks:=tk})→wpAny (model W.prog W.w) C.A (call (.builtin "isinstance") [.ref r,.type y]) QQ EE s) :
  SE W T CT C me (.Call (.Name (Str.ofString "isinstance") np) [e,.Name (Str.ofString y) np2] [] pos):=
 fun g l H s QQ EE Q X a hw hq hx=>c_Call (name_bi E K a hl (bt 4 rfl) (c_callWith_B1 (first:=[]) (.inl ⟨_,rfl⟩) (c_args_cons (h1 g l H s _ EE _ X a (hwp _ _ _ _ hw) (fun v x s1 H1 a1 hv ⟨z,hF⟩=>c_args_cons (name_bi E K a1 hl2 hy (c_args_nil (.of
  (IT.rec (motive:=fun x b _=>VR v x→Q (.bool (b == n)) H1→wpAny (model W.prog W.w) C.A (call (.builtin "isinstance") [v,.type y]) QQ EE s1) (fun i hv hF=>hv.onI fun t=>hi fun tk=>hq _ _ _ H1 a1 (.bool _) hF)
   (fun h hv hF=>hv.onR<|a1.own.isTup h fun items it _ _=>it.elim fun o z=>ht z.1 z.2.1 fun tk=>hq _ _ _ H1 a1 (.bool _) hF) z hv hF)))) hst2) hx) hst) hst (by rw [hst2];rfl)))
theorem se_isInt(E:C.EnvOk){rk:Nat}(K:C.Ok W T rk){a:ME}{e:Expr}{np np2 pos:Pos}(h1:SE W T CT C a e)(hst:starEach [e,.Name (Str.ofString "int") np2] C.env=(false,eval e C.env)::starEach [.Name (Str.ofString "int") np2] C.env)
  (hst2:starEach [.Name (Str.ofString "int") np2] C.env=[(false,eval (.Name (Str.ofString "int") np2) C.env)])(hl:C.ns.lookup (Str.ofString "isinstance")=some .globalImplicit)(hl2:C.ns.lookup (Str.ofString "int")=some .globalImplicit) :
  SE W T CT C (.isInt a) (.Call (.Name (Str.ofString "isinstance") np) [e,.Name (Str.ofString "int") np2] [] pos):=isi_args E K (bt 8 rfl) h1 hst hst2 hl hl2 (fun _ _ _ _ h=>h) (fun q=>IsiPair.int_int (q _)) fun h1 h2 q=>IsiPair.tuple_int h1 h2 (q _)
theorem se_isTup(E:C.EnvOk){rk:Nat}(K:C.Ok W T rk){a:ME}{e:Expr}{np np2 pos:Pos}(h1:SE W T CT C a e)(hst:starEach [e,.Name (Str.ofString "tuple") np2] C.env=(false,eval e C.env)::starEach [.Name (Str.ofString "tuple") np2] C.env)
  (hst2:starEach [.Name (Str.ofString "tuple") np2] C.env=[(false,eval (.Name (Str.ofString "tuple") np2) C.env)])(hl:C.ns.lookup (Str.ofString "isinstance")=some .globalImplicit)(hl2:C.ns.lookup (Str.ofString "tuple")=some .globalImplicit) :
  SE W T CT C (.isTup a) (.Call (.Name (Str.ofString "isinstance") np) [e,.Name (Str.ofString "tuple") np2] [] pos):=isi_args E K (bt 9 rfl) h1 hst hst2 hl hl2 (fun _ _ _ _ h=>h) (fun q=>IsiPair.int_tuple (q _)) fun h1 h2 q=>IsiPair.tuple_tuple h1 h2 (q _)
theorem se_newBA(E:C.EnvOk){rk:Nat}(K:C.Ok W T rk){np pos:Pos}(hl:C.ns.lookup (Str.ofString "bytearray")=some .globalImplicit):SE W T CT C .newBA (.Call (.Name (Str.ofString "bytearray") np) [] [] pos):=
 fun g l H s QQ EE Q X a hw hq hx=>c_Call (name_bi E K a hl (bt 7 rfl) (c_callWith_B0 (first:=[]) (.inr ⟨_,rfl⟩) (ba_new K.hg fun h' hk hS=>hq _ _ {s with heap:=h'} _ (a.new hk hS (.ba #[])) (.ref _) (hw _ a.fresh.1))))
theorem se_dict0{rk:Nat}(K:C.Ok W T rk){pos:Pos}:SE W T CT C .dict0 (.Dict [] [] pos):=
 fun g l H s QQ EE Q X a hw hq hx=>.of<|newDict_K a.F a.own.news K.G.nolimit fun d h' o F' N' lt hsm _ _ hi _=>
  have fD:=ledger_fresh a.own lt (Nat.le_refl d)
  hq _ _ _ _ (a.to F' (a.own.cons N' fD (.dict hi .nil))) (.ref _) (hw _ fD.1)
end
end
section
theorem pick_cut{α:Type}(xs:List α){n a b:Nat}(hn:xs.length=n):(xs.drop (min a n)).take (min b n-min a n)=(xs.take b).drop a:=by
 subst hn
 rw [List.drop_take]
 rcases Nat.le_total a xs.length with h |h
 ·rw [Nat.min_eq_left h]
  rcases Nat.le_total b xs.length with k |k
  ·rw [Nat.min_eq_left k]
  ·rw [Nat.min_eq_right k,List.take_of_length_le (Nat.le_of_eq List.length_drop),List.take_of_length_le (by rw [List.length_drop];exact Nat.sub_le_sub_right k a)]
 ·rw [Nat.min_eq_right h,List.drop_eq_nil_of_le h,List.drop_eq_nil_of_le (Nat.le_refl _),List.take_nil,List.take_nil]
theorem min_cast(a b:Nat):min (a:Int) b=((min a b:Nat):Int):=(Nat.le_total a b).elim (fun h=>(Int.min_eq_left (Int.ofNat_le.mpr h)).trans (congrArg _ (Nat.min_eq_left h).symm)) fun h=>(Int.min_eq_right (Int.ofNat_le.mpr h)).trans (congrArg _ (Nat.min_eq_right h).symm)
theorem clip_lo{n lo:Nat}{k:Int}(e:(if k<0 then (n:Int)+k else k)=(lo:Int)):clipAt n k=min lo n:=by
 unfold clipAt
 rw [Int.add_comm,e,min_cast,Int.max_eq_right (Int.natCast_nonneg _),Int.toNat_natCast]
theorem clip_pos{n k:Nat}:clipAt n (k:Int)=min k n:=clip_lo (if_neg (Int.not_lt.mpr (Int.natCast_nonneg _)))
section
variable {W:Wd}{T:Tabs}{CT:CT}{C:Cx}
theorem VRs.cut{vs:List Value}{xs:List V}(h:VRs vs xs)(a b:Nat):VRs (cutL vs a b) (cutL xs a b):=(h.take _).drop _
noncomputable abbrev slcO(vl vu:Value):Obj:={cls:=.type "slice",data:=.fields #[vl,vu,.none]}
theorem wCut_of{x:V}{v vl vu:Value}{lo hi:Option Int}{i j n:Nat}{g:RG}{mF:SM}{H:Hp}{s:Shared}{QQ:VQ}{EE:VQ}{Q:V→Hp→Prop}{value slice:Expr}
  (a:At W C g mF H s)(hv:VR v x)(hn:n≤16777216)(pl:IsPart vl lo)(pu:IsPart vu hi)(ha:lo.elim 0 (clipAt n)=min i n)(hb:hi.elim n (clipAt n)=min j n)(hw:WC Q H i j x n)(hq:Fin1 W C g mF QQ Q)
  (hsub:∀o i,subscripted slice false o i=operate [i,o] (getItem o i)) :
  wpAny (model W.prog W.w) C.A (subscriptTail value slice v (.ref s.heap.objs.size)) QQ EE {s with heap:=s.heap.push (slcO vl vu)}:=
 have a1:=a.grown fun _ _ e=>Heap.get?_push_of_some (slcO vl vu) e
 WC.rec (motive:=fun x n _=>VR v x→n≤16777216→lo.elim 0 (clipAt n)=min i n→hi.elim n (clipAt n)=min j n→wpAny (model W.prog W.w) C.A (subscriptTail value slice v (.ref s.heap.objs.size)) QQ EE {s with heap:=s.heap.push (slcO vl vu)})
  (fun {b} hw hv hn ha hb=>(hv.onY (P:=fun v b=>b.length≤16777216→lo.elim 0 (clipAt b.length)=min i b.length→hi.elim b.length (clipAt b.length)=min j b.length→Q (.bytes (cutL b i j)) H→wpAny (model W.prog W.w) C.A (subscriptTail value slice v (.ref s.heap.objs.size)) QQ EE {s with heap:=s.heap.push (slcO vl vu)}) fun arr t hn ha hb hw=>
   tail_any (typeIs_bytes _ _ _) FB.slot_bytes_getitem.lookup (getItem_meets (typeIs_bytes _ _ _) (by decide) FB.slot_bytes_getitem FB.entry_bytes_getitem (FB.args_bytes_getitem_2 _ _) (KBc.meets_slice2 arr t _ pl pu)
    ⟨Heap.IsSliceOf.new _ _ _ _,Nat.le_trans (KBc.size_picked_le arr lo hi) (szY hn),fun t' k=>hq _ _ _ H a1 ((show (KBy.picked arr lo hi).toList.map UInt8.toNat=cutL (arr.toList.map UInt8.toNat) i j by
     rw [List.length_map]at ha hb
     rw [KBc.picked_eq,show Option.elim lo 0 (clipAt arr.size)=_ from ha,show Option.elim hi arr.size (clipAt arr.size)=_ from hb]
     show List.map UInt8.toNat (List.take _ (List.drop _ arr.toList))=_
     refine (congrArg _ (pick_cut arr.toList rfl)).trans ?_
     unfold cutL
     rw [List.map_drop,List.map_take])▸.bytes _ _) hw⟩) (hsub _ _)) hn ha hb hw)
  (fun {r vs} h hw hv hn ha hb=>hv.onR<|a.own.isList h fun items c hg hil hvs hz=>
   have hpick:slicePick items lo hi none=(cutL items.toList i j).toArray:=by
    rw [slicePick_plain,hz,ha,hb,pick_cut items.toList hz];rfl
   tail_any (Heap.IsList.typeIs (s:={s with heap:=s.heap.push (slcO vl vu)}) (hil.push _)) list_getitem_lookup
    (wpAny_getItem_list_slice (hil.push _) (Heap.IsSliceOf.new ..) pl pu .none (by decide) (hq _ _ {s with heap:=_} _ (a1.to (a1.F.push _) (a1.own.cons (News.push a1.F (Own.news a1.own) _) a1.fresh (.list (n:=0) (show VRs (slicePick items lo hi none).toList _ by rw [hpick];exact hvs.cut i j)))) (.ref _) (hw _ a1.fresh.1)) (hz▸hn)) (hsub _ _)) hw hv hn ha hb
theorem sub_slice{l u:Option Expr}{p:Pos}(o i:Value):subscripted (.Slice l u none p) false o i=operate [i,o] (getItem o i):=rfl
theorem c_newFields{A:Around}{M:Model}{a b c:Value}{Q:VQ}{E:VQ}{s:Shared}(h:Q (.ref s.heap.objs.size) {s with heap:=s.heap.push {cls:=.type "slice",data:=.fields #[a,b,c]}}):wpAny M A (newFields "slice" [a,b,c]) Q E s:=by
 exact wpAny_newObj_type h (by show (3:Nat)≤16777216+2;exact Nat.le_add_left _ _)
theorem se_slcFrom{a lo:ME}{e el:Expr}{p pos:Pos}(h1:SE W T CT C a e)(h2:SE W T CT C lo el):SE W T CT C (.slcFrom a lo) (.Subscript e (.Slice (some el) none none p) pos):=
 fun g l H s QQ EE Q X a hw hq hx=>c_Subscript (h1 g l H s _ EE _ X a hw (fun v x s1 H1 a1 hv hw1=>by
  show wpC _ _ (do
   let l←eval el C.env
   let u←holding [l] (pure Value.none)
   let st←holding [l,u] (pure Value.none)
   newFields "slice" [l,u,st]) _ _ _
  exact cbind (h2 g l H1 s1 _ EE _ X a1 hw1 (fun w y s2 H2 a2 hw' hw2=>.of<|wpAny_bind (wpAny_holding (wpAny_pure (wpAny_bind (wpAny_holding (wpAny_pure (c_newFields (by
   cases hw2 with |iSlf h1 h2 h3 h4=>exact hw'.onI fun t=>.of<|wCut_of a2 hv h2 (.int _ t) .none (clip_lo h3) (Nat.min_self _).symm h4 hq sub_slice)))))))) hx)) hx)
theorem se_slcTo{a hi:ME}{e eh:Expr}{p pos:Pos}(h1:SE W T CT C a e)(h2:SE W T CT C hi eh):SE W T CT C (.slcTo a hi) (.Subscript e (.Slice none (some eh) none p) pos):=
 fun g l H s QQ EE Q X a hw hq hx=>c_Subscript (h1 g l H s _ EE _ X a hw (fun v x s1 H1 a1 hv hw1=>by
  show wpC _ _ (do
   let l←pure Value.none
   let u←holding [l] (eval eh C.env)
   let st←holding [l,u] (pure Value.none)
   newFields "slice" [l,u,st]) _ _ _
  exact cbind (cpure (cbind (chold (h2 g l H1 s1 _ EE _ X a1 hw1 (fun w y s2 H2 a2 hw' hw2=>.of<|wpAny_bind (wpAny_holding (wpAny_pure (c_newFields (by
   cases hw2 with |iSlt h1 h2 h4=>exact hw'.onI fun t=>.of<|wCut_of a2 hv h2 .none (.int _ t) (Nat.zero_min _).symm clip_pos h4 hq sub_slice))))) hx))))) hx)
theorem se_slc{a lo hi:ME}{e el eh:Expr}{p pos:Pos}(h1:SE W T CT C a e)(h2:SE W T CT C lo el)(h3:SE W T CT C hi eh):SE W T CT C (.slc a lo hi) (.Subscript e (.Slice (some el) (some eh) none p) pos):=
 fun g l H s QQ EE Q X a hw hq hx=>c_Subscript (h1 g l H s _ EE _ X a hw (fun v x s1 H1 a1 hv hw1=>by
  show wpC _ _ (do
   let l←eval el C.env
   let u←holding [l] (eval eh C.env)
   let st←holding [l,u] (pure Value.none)
   newFields "slice" [l,u,st]) _ _ _
  exact cbind (h2 g l H1 s1 _ EE _ X a1 hw1 (fun w y s2 H2 a2 hw' hw2=>cbind (chold (h3 g l H2 s2 _ EE _ X a2 hw2 (fun w3 z s3 H3 a3 hw3' hw3=>.of<|wpAny_bind (wpAny_holding (wpAny_pure (c_newFields (by
   cases hw3 with |iSlc h1 h2 h3 h4=>exact hw'.onI fun t=>hw3'.onI fun u=>.of<|wCut_of a3 hv h3 (.int _ t) (.int _ u) clip_pos clip_pos h4 hq sub_slice))))) hx))) hx)) hx)
noncomputable def bopOf:Bool→BoolOp
 |true=>.And |false=>.Or
theorem se_bop1{b:Bool}{a:ME}{e:Expr}{pos:Pos}(h:SE W T CT C a e):SE W T CT C (.bop b (.cons a .nil)) (.BoolOp (bopOf b) [e] pos):=fun g l H s QQ EE Q X a hw hq hx=>h g l H s QQ EE Q X a hw hq hx
theorem se_bopC{b:Bool}{a a2:ME}{es:MEs}{e e2:Expr}{l:List Expr}{pos:Pos}(h:SE W T CT C a e)(h2:SE W T CT C (.bop b (.cons a2 es)) (.BoolOp (bopOf b) (e2::l) pos)) :
  SE W T CT C (.bop b (.cons a (.cons a2 es))) (.BoolOp (bopOf b) (e::e2::l) pos):=fun g lv H s QQ EE Q X a hw hq hx=>by
 have go:∀v x s1 H1,At W C g lv.mF H1 s1→VR v x→kBop (wBop CT b (.cons a2 es)) lv.m Q X b x H1→wpAny (model W.prog W.w) C.A (truthy v) (fun c s₂=>if c == b then wpC (model W.prog W.w) C.A (eval (.BoolOp (bopOf b) (e2::l) pos) C.env) QQ EE s₂ else QQ v s₂) EE s1:=fun v x s1 H1 a1 hv ⟨q,hw1⟩=>truthy_of hv q (by
  unfold kBop2 at hw1
  split
  ·rename_i q;rw [q]at hw1;exact h2 g lv H1 s1 QQ EE Q X a1 hw1 hq hx
  ·rename_i q;rw [(Bool.not_eq_true _).mp q]at hw1;exact hq v x s1 H1 a1 hv hw1)
 cases b with
 |true=>exact c_BoolOp_and (h g lv H s _ EE _ X a hw (fun v x s1 H1 a1 hv hw1=>.of<|wpAny_mono (go v x s1 H1 a1 hv hw1) (fun c s2 z=>by cases c <;> exact z) fun _ _ z=>z) hx)
 |false=>exact c_BoolOp_or (h g lv H s _ EE _ X a hw (fun v x s1 H1 a1 hv hw1=>.of<|wpAny_mono (go v x s1 H1 a1 hv hw1) (fun c s2 z=>by cases c <;> exact z) fun _ _ z=>z) hx)
theorem st_bop1{b:Bool}{a:ME}{e:Expr}{pos:Pos}(h:ST W T CT C a e):ST W T CT C (.bop b (.cons a .nil)) (.BoolOp (bopOf b) [e] pos):=fun g l H s QQ EE Q X a hw hq hx=>by
 cases b with
 |true=>exact c_isTrue_and (h g l H s _ EE _ X a hw (Bool.rec (fun s' H' a' hQ=>hq _ _ _ a' hQ) fun s' H' a' hQ=>cpure (hq _ _ _ a' hQ)) hx)
 |false=>exact c_isTrue_or (h g l H s _ EE _ X a hw (Bool.rec (fun s' H' a' hQ=>cpure (hq _ _ _ a' hQ)) fun s' H' a' hQ=>hq _ _ _ a' hQ) hx)
theorem KTr.on{Q:Bool→Hp→Prop}{H:Hp}{v:V}{c:Bool}(h:KTr Q H v)(q:truthV v=some c):Q c H:=match h with | .iT q' z=>sI (q'.symm.trans q)▸z
noncomputable def rBop(W:WE)(m:M)(Q:Bool→Hp→Prop)(X:QX)(b c:Bool)(H:Hp):Prop:=bif (c == b) then W m H (fun v H=>KTr Q H v) X else Q c H
theorem kBop_tr{W:WE}{m:M}{Q:Bool→Hp→Prop}{X:QX}{b:Bool}:kBop W m (fun v H=>KTr Q H v) X b=fun v H=>KTr (rBop W m Q X b) H v:=funext fun v=>funext fun H=>propext
 ⟨fun ⟨q,z⟩=>.iT q (by
  unfold rBop;unfold kBop2 at z
  generalize (_ == b)=d at *
  cases d
  ·exact z.on q
  ·exact z),fun ⟨q,z⟩=>.iT q (by
  unfold kBop2;unfold rBop at z
  generalize (_ == b)=d at *
  cases d
  ·exact .iT q z
  ·exact z)⟩
theorem st_bopC{b:Bool}{a a2:ME}{es:MEs}{e e2:Expr}{l:List Expr}{pos:Pos}(h:ST W T CT C a e)(h2:ST W T CT C (.bop b (.cons a2 es)) (.BoolOp (bopOf b) (e2::l) pos)) :
  ST W T CT C (.bop b (.cons a (.cons a2 es))) (.BoolOp (bopOf b) (e::e2::l) pos):=fun g lv H s QQ EE Q X a hw hq hx=>by
 have hw:=kBop_tr▸(show wE CT _ lv.m H (kBop (wBop CT b (.cons a2 es)) lv.m (fun v H=>KTr Q H v) X b) X from hw)
 cases b with
 |true=>exact c_isTrue_and (h g lv H s _ EE _ X a hw (Bool.rec (fun s' H' a' hQ=>hq _ _ _ a' hQ) fun s' H' a' hQ=>h2 g lv H' s' QQ EE Q X a' hQ hq hx) hx)
 |false=>exact c_isTrue_or (h g lv H s _ EE _ X a hw (Bool.rec (fun s' H' a' hQ=>h2 g lv H' s' QQ EE Q X a' hQ hq hx) fun s' H' a' hQ=>hq _ _ _ a' hQ) hx)
end
end
section
section
variable {W:Wd}{T:Tabs}{CT:CT}{C:Cx}
theorem appL_of{g:RG}{mF:SM}{H:Hp}{s:Shared}{QQ EE:VQ}{Q:QV}{r:Nat}{w:Value}{y:V}(a:At W C g mF H s)(hw:VR w y)(hq:Fin1 W C g mF QQ Q):AppL Q r H y→wpAny (model W.prog W.w) C.A (call (.builtin "list.append") [.ref r,w]) QQ EE s
 | .iAppL h hn hF=>a.own.isList h fun items n hg hl hvs hz=>append_at hg (fun h' hs' hr'=>hq _ _ _ _ (a.upd h hs' hr' (.list (by rw [Array.toList_push];exact hvs.append (.cons hw .nil)))) .none hF) (by rw [sizeL];exact lz [_,_] [] 10538397868957043429850294531877211334367780295342900544 rfl hn hz)
theorem RO.ba'{arr:Array UInt8}{b:List Nat}(e:arr.toList.map UInt8.toNat=b):RO W (baObj arr) (.ba b):=⟨_,rfl,e.symm⟩
theorem appA_of{rk:Nat}(K:C.Ok W T rk){g:RG}{mF:SM}{H:Hp}{s:Shared}{QQ EE:VQ}{Q:QV}{r:Nat}{w:Value}{y:V}(a:At W C g mF H s)(hw:VR w y)(hq:Fin1 W C g mF QQ Q)(h:AppA Q r H y):wpC (model W.prog W.w) C.A (call (.builtin "bytearray.append") [.ref r,w]) QQ EE s:=by
 cases h with | @iAppA b i h hi hn hF=>
 exact hw.onI fun t=>(a.own.isBA h).elim fun arr y=>by
  have ez:arr.size=b.length:=by rw [y.2,List.length_map];rfl
  exact ba_append K.hg y.1 (Int.natCast_nonneg _) (Int.ofNat_lt.mpr hi) (by exact lz [_,_] [] 10538397868957043429850294531877211334367780295342900545 rfl hn ez) fun h' hs' hr'=>hq _ _ _ _ (a.upd h hs' hr' (.ba' (by
   rw [Array.toList_push,List.map_append,List.map_singleton,Nat.toUInt8,UInt8.toNat_ofNat',Int.toNat_natCast,Nat.mod_eq_of_lt hi,y.2]))) .none hF
theorem meth1{x:ME}{y:Expr}{pos:Pos}{name:Str}{pl:Sem Bool}{r:Addr}{id:String}{g:RG}{l:Lv C g}{H:Hp}{s:Shared}{QQ EE:VQ}{K:QV}{X:QX}(h2:SE W T CT C x y)(hst:starEach [y] C.env=[(false,eval y C.env)])(a:At W C g l.mF H s)(hw:wE CT x l.m H K X)(hx:FinX W T C g EE X)
  (gm:∀{Q:Value×List Value→Shared→Prop},Q (.builtin id,[.ref r]) s→wpAny (model W.prog W.w) C.A (getMethod (.ref r) name pl) Q EE s)(fin:∀w z s2 H2,At W C g l.mF H2 s2→VR w z→K z H2→wpC (model W.prog W.w) C.A (call (.builtin id) [.ref r,w]) QQ EE s2) :
  wpC (model W.prog W.w) C.A (getMethod (.ref r) name pl) (fun fx s₂=>wpC (model W.prog W.w) C.A (callWith pos fx.1 fx.2 (backTo pos (starEach [y] C.env)) []) QQ EE s₂) EE s:=
 .of (gm (c_callWith_B1 (.inl ⟨_,rfl⟩) (c_args_cons (h2 g l H s _ EE _ X a hw (fun w z s2 H2 a2 hw' hQ=>c_args_nil (fin w z s2 H2 a2 hw' hQ)) hx) hst) hst rfl))
theorem se_app{rk:Nat}(K:C.Ok W T rk){a x:ME}{e y:Expr}{apos pos:Pos}{pl:Sem Bool}(h1:SE W T CT C a e)(h2:SE W T CT C x y)(hst:starEach [y] C.env=[(false,eval y C.env)])
  (he:eval (.Call (.Attribute e (Str.ofString "append") apos) [y] [] pos) C.env=(do
   let ov←eval e C.env
   standAt apos.atName
   let (f,first)←holding [ov] (getMethod ov (Str.ofString "append") pl)
   callWith pos f first (backTo pos (starEach [y] C.env)) [])):SE W T CT C (.app a x) (.Call (.Attribute e (Str.ofString "append") apos) [y] [] pos):=
 fun g l H s QQ EE Q X a hw hq hx=>c_methodCall (pl:=pl) (h1 g l H s _ EE _ X a hw (fun v z s1 H1 a1 hv hw1=>by
  cases hw1 with
  |iApL h k=>exact hv.onR<|a1.own.isList h fun items n hg _ _ _=>meth1 h2 hst a1 k hx (getMethod_builtin ⟨_,hg,rfl⟩ PySem.F.plainAttrs_list PySem.F.slot_list_append PySem.F.type_list_append fun c ec=>by cases ec;exact ⟨_,hg,rfl⟩) fun w z s2 H2 a2 hw' hQ=>.of (appL_of a2 hw' hq hQ)
  |iApA h k=>exact hv.onR<|(a1.own.isBA h).elim fun arr z=>meth1 h2 hst a1 k hx (ba_method z.1 ba_slot_append ba_type_append) fun w z s2 H2 a2 hw' hQ=>appA_of K a2 hw' hq hQ) hx) he
theorem list_extend_at{A:Around}{E:VQ}{s:Shared}{D b:Addr}{its its2:Array Value}{n n2:Nat}{Q:VQ}(hD:s.heap.get? D=some (listOf its n))(hb:s.heap.get? b=some (listOf its2 n2))(hne:D≠b)
  (hz:its.size+its2.size<16777000)(h:∀h' k,Heap.SameBut D s.heap h'→h'.get? D=some (listOf (its++its2) k)→Q .none {s with heap:=h'}):wpAny (model W.prog W.w) A (call (.builtin "list.extend") [.ref D,.ref b]) Q E s:=by
 refine wpAny_call_entry PySem.F.slot_list_extend ⟨_,hD,rfl⟩ PySem.F.entry_list_extend ?_ (PySem.F.args_list_extend_2 _ _)
 show wpAny _ _ (Builtin.List.listExtendWith (.ref D) (.ref b) .none) _ _ s
 unfold Builtin.List.listExtendWith
 refine wpAny_bind (wpAny_typeOf (T:="list") ⟨_,hb,rfl⟩ ?_)
 refine a_if_true (by simp) ?_
 refine wpAny_bind ?_
 unfold Builtin.List.listItems
 refine wpAny_bind (wpAny_seqItems hb rfl (wpAny_pure ?_))
 refine wpAny_bind ?_
 refine wpAny_bind (wpAny_seqItems hD rfl (wpAny_pure ?_))
 refine a_if_false ?_ ?_
 ·have:Builtin.List.listTooLong (its.size+its2.size)=false:=by
   unfold Builtin.List.listTooLong
   first
    | (rw [sizeLine_eq];exact decide_eq_false (by exact lz [_,_] [] 2042868729393177641709024034281577393026894601518404868 rfl hz))
    | (simp only [decide_eq_false_iff_not];omega)
  rw [this,Bool.and_false]
 show wpAny _ _ (updateSeq D (·++ its2) >>= fun _=>ret .none) _ _ s
 refine wpAny_bind (wpAny_updateSeq (hz:=by rw [sizeLine_eq];exact lz [_,_] [] 2572851042225840681110723961045671880823647043409152 rfl hz) (_hz':=by rw [Array.size_append,sizeLine_eq];exact lz [_,_] [] 10308908432487730171597530721192380705934900308023624160512 rfl hz) hD rfl ?_)
 refine wpAny_pure ⟨.none,rfl,h _ _ (Heap.SameBut.update ..) (Heap.get?_update_self _ hD rfl)⟩
theorem extL_of{g:RG}{mF:SM}{H:Hp}{s:Shared}{QQ EE:VQ}{Q:QV}{r:Nat}{w:Value}{y:V}(a:At W C g mF H s)(hw:VR w y)(hq:Fin1 W C g mF QQ Q)(h:ExtL Q r H y):wpAny (model W.prog W.w) C.A (call (.builtin "list.extend") [.ref r,w]) QQ EE s:=by
 cases h with |iExtL h h2 hn hz hF=>
 exact hw.onR<|a.own.isList h fun items n hg hl hvs hz1=>a.own.isList h2 fun items2 n2 hg2 hl2 hvs2 hz2=>list_extend_at hg hg2 hn (by exact lz [_,_,_,_] [] 2966319976898935927319822375204452368072678076235840336328274771006913 rfl hz hz1 hz2) fun h' k hs' hr'=>hq _ _ _ _ (a.upd h hs' hr' (.list (by rw [Array.toList_append];exact hvs.append hvs2))) .none hF
theorem extA_of{rk:Nat}(K:C.Ok W T rk){g:RG}{mF:SM}{H:Hp}{s:Shared}{QQ EE:VQ}{Q:QV}{r:Nat}{w:Value}{y:V}(a:At W C g mF H s)(hw:VR w y)(hq:Fin1 W C g mF QQ Q)(h:ExtA Q r H y):wpC (model W.prog W.w) C.A (call (.builtin "bytearray.extend") [.ref r,w]) QQ EE s:=by
 cases h with | @iExtA b c h hz hF=>
 obtain ⟨arr3,t,rfl,rfl⟩:=hw.by
 exact (a.own.isBA h).elim fun arr y=>by
  have ez:arr.size=b.length:=by rw [y.2,List.length_map];rfl
  rw [List.length_map]at hz
  have ez2:arr3.toList.length=arr3.size:=rfl
  exact ba_extend K.hg y.1 (by exact lz [_,_,_,_] [] 189842898862867879698812007651341089977625215093018021188865455429088576 rfl hz ez ez2) fun h' hs' hr'=>hq _ _ _ _ (a.upd h hs' hr' (.ba' (by rw [Array.toList_append,List.map_append,y.2]))) .none hF
theorem se_ext{rk:Nat}(K:C.Ok W T rk){a x:ME}{e y:Expr}{apos pos:Pos}{pl:Sem Bool}(h1:SE W T CT C a e)(h2:SE W T CT C x y)(hst:starEach [y] C.env=[(false,eval y C.env)])
  (he:eval (.Call (.Attribute e (Str.ofString "extend") apos) [y] [] pos) C.env=(do
   let ov←eval e C.env
   standAt apos.atName
   let (f,first)←holding [ov] (getMethod ov (Str.ofString "extend") pl)
   callWith pos f first (backTo pos (starEach [y] C.env)) [])):SE W T CT C (.ext a x) (.Call (.Attribute e (Str.ofString "extend") apos) [y] [] pos):=
 fun g l H s QQ EE Q X a hw hq hx=>c_methodCall (pl:=pl) (h1 g l H s _ EE _ X a hw (fun v z s1 H1 a1 hv hw1=>by
  cases hw1 with
  |iApL h k=>exact hv.onR<|a1.own.isList h fun items n hg _ _ _=>meth1 h2 hst a1 k hx (getMethod_builtin ⟨_,hg,rfl⟩ PySem.F.plainAttrs_list PySem.F.slot_list_extend PySem.F.type_list_extend fun c ec=>by cases ec;exact ⟨_,hg,rfl⟩) fun w z s2 H2 a2 hw' hQ=>.of (extL_of a2 hw' hq hQ)
  |iApA h k=>exact hv.onR<|(a1.own.isBA h).elim fun arr z=>meth1 h2 hst a1 k hx (ba_method z.1 ba_slot_extend ba_type_extend) fun w z s2 H2 a2 hw' hQ=>extA_of K a2 hw' hq hQ) hx) he
theorem DRs.flat{kvs:List (Int×Value)}{es:List (Int×Int)}(h:DRs kvs es):PyProof.V.FlatPairs PyData.int kvs (es.map fun e=>(.int e.1,.int e.2)):=by
 induction h with
 |nil=>exact .nil
 |cons _ ih=>exact .cons (PyProof.V.Flat.int _ _) ih
theorem lookup_ints(i:Int):∀es:List (Int×Int),Spec.lookup (.int i) (es.map fun e=>(.int e.1,.int e.2))=(es.lookup i).map PyData.int
 | []=>rfl
 | (k,v)::r=>by
  rw [List.map_cons,Spec.lookup,PyProof.V.same_int,List.lookup_cons]
  by_cases h:k=i
  ·rw [h,beq_self_eq_true,decide_eq_true rfl];rfl
  ·rw [beq_eq_false_iff_ne.mpr (Ne.symm h),decide_eq_false h];exact lookup_ints i r
theorem Own.isDict{h₀ h:Heap}{L:Addr}{H:Hp}{G:Addr→Option Obj}(K:Own W h₀ L h H G)(sm:∃o,h₀.get? sysModules=some o){a:Nat}{es:List (Int×Int)}(e:H a=some (.dict es)){P:Prop}
  (k:∀o kvs,h.get? a=some o→o.IsDictOf (intKind W.prog W.w) kvs→DRs kvs es→IntTab W.prog W.w h a (es.map fun e=>(.int e.1,.int e.2))→P):P:=
 have z:=(K.obj a _ e).2.2
 z.2.elim fun ro y=>y.2.elim fun kvs q=>k ro kvs y.1 q.1 q.2 (TabAt.ofObj (beq_eq_false_iff_ne.mpr fun e=>sm.elim fun o eo=>noS (z.1.symm.trans (e▸eo))) y.1 q.1 q.2.flat)
theorem kO2_inv{x y:V}{f:Int→Int→Int}{Q:QV}{H:Hp}(h:kO Q (on2I x y fun i j=>some (.int (f i j))) H):∃i j,x=.int i∧y=.int j∧Q (.int (f i j)) H:=by
 cases x with
 |int i=>cases y with
  |int j=>exact ⟨i,j,rfl,rfl,h⟩
  |_=>exact h.elim
 |_=>exact h.elim
theorem look_flat(i j:Int)(es:List (Int×Int)):((es.lookup i).map PyData.int).getD (.int j)=.int ((es.lookup i).getD j):=by cases es.lookup i <;> rfl
theorem dget_of{rk:Nat}(K:C.Ok W T rk){g:RG}{mF:SM}{H:Hp}{s:Shared}{QQ EE:VQ}{Q:QV}{b:Nat}{es:List (Int×Int)}{w w2:Value}{y z:V}(a:At W C g mF H s)(hw:VR w y)(hw2:VR w2 z)(hq:Fin1 W C g mF QQ Q)(h:kDget3 Q b es y z H):wpC (model W.prog W.w) C.A (call (.builtin "dict.get") [.ref b,w,w2]) QQ EE s:=by
 obtain ⟨i,j,rfl,rfl,hF⟩:=kO2_inv h.2
 exact hw.on2 hw2 fun t u=>a.own.isDict K.G.sm h.1 fun _ _ _ _ _ tab=>.of (call_get2_intTab tab (PyProof.V.Flat.int j u) fun v hv=>by
  rw [lookup_ints,look_flat]at hv
  obtain ⟨tk,rfl⟩:=hv.int_inv
  exact hq _ _ _ H a (.int _ _) hF)
theorem se_dget{rk:Nat}(K:C.Ok W T rk){a x d:ME}{e y z:Expr}{apos pos:Pos}{pl:Sem Bool}(h1:SE W T CT C a e)(h2:SE W T CT C x y)(h3:SE W T CT C d z)(hst:starEach [y,z] C.env=(false,eval y C.env)::starEach [z] C.env)(hst2:starEach [z] C.env=[(false,eval z C.env)])
  (he:eval (.Call (.Attribute e (Str.ofString "get") apos) [y,z] [] pos) C.env=(do
   let ov←eval e C.env
   standAt apos.atName
   let (f,first)←holding [ov] (getMethod ov (Str.ofString "get") pl)
   callWith pos f first (backTo pos (starEach [y,z] C.env)) [])):SE W T CT C (.dget a x d) (.Call (.Attribute e (Str.ofString "get") apos) [y,z] [] pos):=
 fun g l H s QQ EE Q X a hw hq hx=>c_methodCall (pl:=pl) (h1 g l H s _ EE _ X a hw (fun v z' s1 H1 a1 hv hw1=>by
  cases hw1 with |iDg h k=>
  exact hv.onR<|a1.own.isDict K.G.sm h fun _ _ _ _ _ tab=>.of (getMethod_intTab_get tab (c_callWith_B1 (.inl ⟨_,rfl⟩) (c_args_cons (h2 g l H1 s1 _ EE _ X a1 k (fun w y' s2 H2 a2 hw' hw2=>
   c_args_cons (h3 g l H2 s2 _ EE _ X a2 hw2 (fun w2 z2 s3 H3 a3 hw'' hw3=>c_args_nil (dget_of K a3 hw' hw'' hq hw3)) hx) hst2) hx) hst) hst (by rw [hst2];rfl)))) hx) he
end
end
section
noncomputable def lvlD:List (PyData×PyData):=[(.str (Str.ofString "stored"),.int 0),(.str (Str.ofString "fixed"),.int 1),(.str (Str.ofString "dynamic"),.int 2),(.str (Str.ofString "mixed"),.int 2)]
theorem lvl_look(x:String):Spec.lookup (.str (Str.ofString x)) lvlD=if x="stored" then some (.int 0) else if x="fixed" then some (.int 1) else if x="dynamic" then some (.int 2) else if x="mixed" then some (.int 2) else none:=by
 obtain e:∀y:String,Spec.same (.str (Str.ofString y)) (.str (Str.ofString x))=decide (x=y):=fun y=>by
  rw [PyProof.V.same_str]
  exact decide_eq_decide.mpr ⟨fun h=>(ofString_inj h).symm,fun h=>by rw [h]⟩
 unfold lvlD
 simp only [Spec.lookup,e,decide_eq_true_eq]
theorem lvl_get(x:String):((if x="stored" then some (PyData.int 0) else if x="fixed" then some (.int 1) else if x="dynamic" then some (.int 2) else if x="mixed" then some (.int 2) else none:Option PyData).getD (.int 3))=.int (lvlOf x):=by
 unfold lvlOf
 by_cases c1:x="stored"
 ·rw [if_pos c1,if_pos c1];rfl
 rw [if_neg c1,if_neg c1]
 by_cases c2:x="fixed"
 ·rw [if_pos c2,if_pos c2];rfl
 rw [if_neg c2,if_neg c2]
 by_cases c3:x="dynamic"
 ·rw [if_pos c3,if_pos c3];rfl
 rw [if_neg c3,if_neg c3]
 by_cases c4:x="mixed"
 ·rw [if_pos c4,if_pos c4];rfl
 rw [if_neg c4,if_neg c4];rfl
theorem kLvl_inv{Q:QV}{H:Hp}{x:V}(h:kLvl Q x H):∃y,x=.str y∧Q (.int (lvlOf y)) H:=by cases x <;> first |exact ⟨_,rfl,h⟩ |exact h.elim
noncomputable def MeetsT(W:Wd)(T:Tabs)(CT:CT)(rk:Nat):Prop:=
 ∀(C:Cx) (g:RG) (mF:SM) (H:Hp) (s:Shared) (t cc pp kk:Addr) (v:Value) (x:V) (QQ EE:VQ) (Q:V→Hp→Prop) (X:Hp→Prop),
  C.Ok W T rk→At W C g mF H s→H t=some (.taker cc pp kk)→VR v x→CT "take" [.ref cc,.ref pp,.ref kk,x] H Q X→Fin1 W C g mF QQ Q→FinX W T C g EE X→codeC (model W.prog W.w) C.A (.call (.ref t) ⟨[v],[]⟩) (retR QQ EE) s
section
variable {W:Wd}{T:Tabs}{CT:CT}{C:Cx}{g:RG}{G':Addr→Option Obj}(hG:∀a o,g.G a=some o→G' a=some o)
include hG
theorem ledger_sub{h:Heap}{H:Hp}:∀q∈ledger h H g.G,q∈ledger h H G':=fun q hq=>
 have z:=ledger_iff.mp hq
 ledger_iff.mpr ⟨z.1.imp id fun w e=>w (Option.eq_none_iff_forall_ne_some.mpr fun o eo=>noS (e.symm.trans (hG _ o eo))),z.2⟩
noncomputable def Lv.up(l:Lv C g):Lv C ⟨g.r,G'⟩:=⟨l.mF,l.mr,l.m,fun h n k=>l.loc h n fun a ro e=>k a ro (hG a ro e),l.vars⟩
theorem AtH.drop{h₀ h:Heap}{L:Addr}{mF:SM}{H:Hp}{ge:Array GenState}{d:Drawn}{os:OsState}(a:AtH W h₀ L ⟨g.r,G'⟩ mF H h ge d os):AtH W h₀ L g mF H h ge d os:=⟨a.F,a.own.drop H g.G (fun _ _ e=>e) hG,a.hs⟩
theorem FinX.drop{EE:VQ}{X:Hp→Prop}(k:FinX W T C g EE X):FinX W T C ⟨g.r,G'⟩ EE X:=fun e s' H' hs t hX=>k e s' H' hs (by
 cases t with
 |made a1 a2 a3 a4 a5 a6 a7 a8 a9=>exact .made a1 (a2.drop _ _ (fun _ _ e=>e) hG) a3 a4 a5 a6 a7 a8 a9
 |come a1 a2 a3 a4=>exact a4.elim fun B z=>z.elim fun a0 z=>.come a1 a2 (a3.drop _ _ (fun _ _ e=>e) hG) ⟨B,a0,z.1,fun q hq=>z.2.1 q (ledger_sub hG q hq),z.2.2⟩) hX
end
section
variable {W:Wd}{T:Tabs}{CT:CT}{C:Cx}
theorem gput_sub{G:Addr→Option Obj}{a:Addr}{o:Option Obj}(h:G a=none):∀b x,G b=some x→gput G a o b=some x:=fun b x e=>(if_neg fun q:b=a=>noS (h.symm.trans (q▸e))).trans e
theorem se_lvl{rk:Nat}(K:C.Ok W T rk){a:ME}{keys:List (Option Expr)}{values:List Expr}{dp p3:Pos}{k3:Nat}{y:Expr}{apos pos:Pos}{pl:Sem Bool}(h1:SE W T CT C a y)
  (hD:litPairs keys values=some lvlD)(hall:keys.all (·.isSome)=true)(hlen:keys.length=4)(hlen2:values.length=4)
  (hst:starEach [y,.Constant (.int 3) k3 p3] C.env=(false,eval y C.env)::starEach [.Constant (.int 3) k3 p3] C.env)(hst2:starEach [.Constant (.int 3) k3 p3] C.env=[(false,eval (.Constant (.int 3) k3 p3) C.env)])
  (he:eval (.Call (.Attribute (.Dict keys values dp) (Str.ofString "get") apos) [y,.Constant (.int 3) k3 p3] [] pos) C.env=(do
   let ov←eval (.Dict keys values dp) C.env
   standAt apos.atName
   let (f,first)←holding [ov] (getMethod ov (Str.ofString "get") pl)
   callWith pos f first (backTo pos (starEach [y,.Constant (.int 3) k3 p3] C.env)) [])) :
  SE W T CT C (.lvl a) (.Call (.Attribute (.Dict keys values dp) (Str.ofString "get") apos) [y,.Constant (.int 3) k3 p3] [] pos):=
 fun g l H s QQ EE Q X a hw hq hx=>c_methodCall (pl:=pl) (.of<|Dict_lits_str hD (by decide +kernel) (by decide +kernel) hall (hlen.trans hlen2.symm) (fun q=>nomatch q▸hlen) (by rw [hlen];decide) fun d o h₁ tk hsz ho hT hk=>
  hT.elim fun kvs hT=>
  have fresh:s.heap.get? d=none:=Heap.get?_none_of_le hsz
  have f:=a.own.newG a.F hk fresh ho
  have sub:=gput_sub (o:=some o) f.1
  have tab:∀h' H',Own W C.h₀ C.L h' H' (gput g.G d (some o))→StrTab W.prog W.w h' d lvlD:=fun h' H' K'=>
   have z:=K'.raw d o (if_pos rfl)
   TabAt.ofObj (beq_eq_false_iff_ne.mpr fun e=>K.G.sm.elim fun o' eo=>noS (z.2.1.symm.trans (e▸eo))) z.2.2 hT.1 hT.2
  have a1:At W C ⟨g.r,gput g.G d (some o)⟩ l.mF H {s with heap:=h₁,toks:=tk}:=⟨a.F.keeps hk,f.2,a.hs⟩
  .of (getMethod_strTab_get (tab _ _ f.2) (c_callWith_B1 (.inl ⟨_,rfl⟩) (c_args_cons (h1 _ (l.up sub) H _ _ EE _ X a1 hw (fun w x s2 H2 a2 hw' hw2=>
   c_args_cons (.of<|wpAny_Constant_int (c_args_nil (by
    obtain ⟨x,rfl,hw2⟩:=kLvl_inv hw2
    exact hw'.onS fun t=>.of (call_get2_strTab (tab _ _ a2.own) (PyProof.V.Flat.int 3 _) fun v hv=>by
     rw [lvl_look,lvl_get]at hv
     obtain ⟨tk,rfl⟩:=hv.int_inv
     exact hq _ _ _ H2 (AtH.drop sub a2) (.int _ _) hw2)))) hst2) (hx.drop sub)) hst) hst (by rw [hst2];rfl)))) he
theorem keeps_fn{M:Model}{a:Addr}:∀h:Heap,(∃o fd,h.get? a=some o∧o.data=.func fd)→∃k,(k=Keeper.frame∨k=Keeper.machine∨k=Keeper.boundFrame)∧Looks M h (keeperOf (.ref a)) k:=fun h ⟨o,fd,ho,hd⟩=>by
 refine ⟨.frame,.inl rfl,?_⟩
 unfold keeperOf
 refine (Looks.ld (part:=none) ho).andThen ?_
 rw [hd]
 exact .now
theorem Own.isTaker{h₀ h:Heap}{L:Addr}{H:Hp}{G:Addr→Option Obj}(K:Own W h₀ L h H G){a c p k:Nat}(e:H a=some (.taker c p k)):∃o fd,h.get? a=some o∧W.TK o c p k∧o.data=.func fd:=
 (K.obj a _ e).2.2.2.elim fun ro z=>⟨ro,(W.TKf _ _ _ _ z.2).imp fun fd hd=>⟨z.1,z.2,hd⟩⟩
theorem se_take(E:C.EnvOk){rk:Nat}(K:C.Ok W T rk){i:Nat}{x:Str}{k:NameKind}{a:ME}{y:Expr}{np pos:Pos}(h1:SE W T CT C a y)(hn:C.ns[i]?=some (x,k))(hn2:C.ns.lookup x=some k)(hk:k=.cell∨k=.free)(hd:(x == ("__debug__":Str))=false)(hcd:(x == ("__classdict__":Str))=false)
  (hst:starEach [y] C.env=[(false,eval y C.env)])(hm:MeetsT W T CT rk):SE W T CT C (.take i a) (.Call (.Name x np) [y] [] pos):=
 fun g l H s QQ EE Q X a hw hq hx=>by
 replace hw:KTk _ H (getLoc l.m i):=hw
 generalize eo:getLoc l.m i=o at hw
 cases hw with | @iTk c t cc pp kk qc qt k=>
 have hc:=at_cell l.vars hk hn hn2 eo
 refine (a.own.isCell qc).elim fun v z=>?_
 obtain ⟨hcell,hv⟩:=z
 obtain rfl:=hv.r
 have next:wpC (model W.prog W.w) C.A (callWith pos (.ref t) [] (backTo pos (starEach [y] C.env)) []) QQ EE s:=by
  rw [hst]
  exact c_callWith_of (P:=fun h=>∃o fd,h.get? t=some o∧o.data=.func fd) rfl keeps_fn (c_evalArgs_plain (c_spliced_cons (h1 g l H s _ EE _ X a k (fun w z s2 H2 a2 hw' hw2=>.of<|spliced_nil
   ⟨(a2.own.isTaker hw2.1).imp fun o=>Exists.imp fun fd z=>⟨z.1,z.2.2⟩,ccall (hm C g l.mF H2 s2 t cc pp kk w z QQ EE Q X K a2 hw2.1 hw' hw2.2 hq hx)⟩) hx)))
 exact c_Call (.of<|wpAny_Name ((E.cf hn2 hk).elim (fun k=>wpAny_loadName_cell E.ek k hc hcell next) fun k=>wpAny_loadName_free E.ek k hc hcell next hcd) hd)
end
end
section
noncomputable def rangeV(a c:Int)(n:Nat):List V:=(List.range n).map fun (j:Nat)=>.int (a+c*(j:Int))
inductive ItK:List V→(Hp→Prop)→Nat→Obj→Prop
 |list {a:Nat} {vs:List V} {i:Nat} {o:Obj}:o.cls=.type "list_iterator"→o.data=.fields #[.ref a,.int i 0]→ItK vs (fun H=>H a=some (.list vs)) i o
 |tup {a:Nat} {vs:List V} {i:Nat} {o:Obj}:o.cls=.type "tuple_iterator"→o.data=.fields #[.ref a,.int i 0]→ItK vs (fun H=>H a=some (.tuple vs)) i o
 |bytes {arr:Array UInt8} {t:Tok} {i:Nat} {o:Obj}:o.cls=.type "bytes_iterator"→o.data=.fields #[.bytes arr t,.int i 0]→ItK ((arr.toList.map UInt8.toNat).map fun (n:Nat)=>.int (n:Int)) (fun _=>True) i o
 |range {a c:Int} {n i:Nat}:ItK (rangeV a c n) (fun _=>True) i {cls:=.type "range_iterator",data:=.fields #[rawInt (a+i*c),rawInt ((n:Int)-i),rawInt c]}
theorem nS{a b:Nat}(h:a≠b):a∉[b]:=fun k=>h (List.mem_singleton.mp k)
noncomputable abbrev RG.at(g:RG)(I:Addr)(o:Obj):RG:=⟨g.r,gput g.G I (some o)⟩
section
variable {W:Wd}{h₀ h h':Heap}{L I:Addr}{g:RG}{o:Obj}{H:Hp}{m:SM}{ge:Array GenState}{d:Drawn}{os:OsState}(a:AtH W h₀ L (g.at I o) m H h ge d os)
include a
theorem AtH.it:I≠L∧h₀.get? I=none∧h.get? I=some o:=a.own.raw I o (if_pos rfl)
theorem AtH.neI{b:Nat}{x:O}(e:H b=some x):b≠I:=fun q=>noS ((q▸(a.own.obj b x e).1).symm.trans (if_pos rfl:gput g.G I (some o) I=some o))
variable (k:∀b x,b∉[I]→h.get? b=some x→h'.get? b=some x)
include k
theorem AtH.oth{b:Nat}{x:O}(e:H b=some x):g.G b=none∧b≠L∧h₀.get? b=none∧∃ro,h'.get? b=some ro∧RO W ro x:=
 have z:=a.own.obj b x e
 have n:=a.neI e
 ⟨(if_neg n).symm.trans z.1,z.2.1,z.2.2.1,z.2.2.2.imp fun r q=>⟨k b r (nS n) q.1,q.2⟩⟩
theorem AtH.rawN{b:Nat}{ro:Obj}(n:b≠I)(e:g.G b=some ro):b≠L∧h₀.get? b=none∧h'.get? b=some ro:=
 have z:=a.own.raw b ro ((if_neg n).trans e)
 ⟨z.1,z.2.1,k b ro (nS n) z.2.2⟩
theorem AtH.but{o':Obj}(hI:h'.get? I=some o'):AtH W h₀ L (g.at I o') m H h' ge d os:=
 have it:=a.it
 ⟨kmb_fr a.F k it.1 it.2.1,⟨fun b x e=>have z:=a.oth k e;⟨(if_neg (a.neI e)).trans z.1,z.2⟩,fun b ro e=>by
  by_cases ne:b=I
  ·subst ne
   obtain rfl:=sI ((if_pos rfl:gput g.G b (some o') b=some o').symm.trans e)
   exact ⟨it.1,it.2.1,hI⟩
  ·exact a.rawN k ne ((if_neg ne).symm.trans e)⟩,a.hs⟩
theorem AtH.leave(gI:g.G I=none):AtH W h₀ L g m H h' ge d os:=
 have it:=a.it
 ⟨kmb_fr a.F k it.1 it.2.1,⟨fun b x e=>a.oth k e,fun b ro e=>a.rawN k (fun q=>noS (gI.symm.trans (q▸e))) e⟩,a.hs⟩
end
inductive Wx(W:Wd)(A:Around)(I:Addr)(vs:List V)(Gd:Hp→Prop)(i:Nat)(h:Heap):Prop
 |mk {n:Nat} {P:Nat→Value→Prop} {St:Nat→Heap→Prop} {fp:List Addr}:Walks W.prog W.w A I fp [I] n P St→St i h→n=vs.length→(∀j v x,P j v→vs[j]?=some x→VR v x)→(∀j h',St j h'→∃o',h'.get? I=some o'∧ItK vs Gd j o')→Wx W A I vs Gd i h
section
variable {W:Wd}{A:Around}{h₀ h:Heap}{L I:Addr}{g:RG}{H:Hp}{m:SM}{ge:Array GenState}{d:Drawn}{os:OsState}{vs:List V}{Gd:Hp→Prop}{i:Nat}{o:Obj}
theorem ItK.walk(hh:A.handled=none)(a:AtH W h₀ L (g.at I o) m H h ge d os)(it:ItK vs Gd i o)(hG:Gd H):Wx W A I vs Gd i h:=
 have hg:=a.it.2.2
 ItK.rec (motive:=fun vs Gd i o' _=>h.get? I=some o'→Gd H→Wx W A I vs Gd i h)
  (fun {r _ _ o} c1 c2 hg hG=>a.own.isList hG fun items nn hga hl hv hz=>.mk (Walks.list hh I r (a.neI hG) items) ⟨⟨o,hg,c1,c2⟩,hl⟩ hz (fun j v x e1 e2=>(hv.get e2).elim fun v' z=>sI (z.1.symm.trans (Array.getElem?_toList.trans e1))▸z.2) fun j h' st=>st.1.imp fun o' z=>⟨z.1,.list z.2.1 z.2.2⟩)
  (fun {r _ _ o} c1 c2 hg hG=>a.own.isTup hG fun items hl hv hz=>.mk (Walks.tuple hh I r (a.neI hG) items) ⟨⟨o,hg,c1,c2⟩,hl⟩ hz (fun j v x e1 e2=>(hv.get e2).elim fun v' z=>sI (z.1.symm.trans (Array.getElem?_toList.trans e1))▸z.2) fun j h' st=>st.1.imp fun o' z=>⟨z.1,.tup z.2.1 z.2.2⟩)
  (fun {arr t _ o} c1 c2 hg hG=>.mk (KBw.walks hh I arr t) ⟨o,hg,c1,c2⟩ (by rw [List.length_map,List.length_map];rfl) (fun j v x e1 e2=>by
   obtain ⟨c,u,ec,rfl⟩:=e1
   rw [List.map_map,List.getElem?_map,Array.getElem?_toList,ec]at e2
   exact sI e2▸.int _ _) fun j h' st=>st.imp fun o' z=>⟨z.1,.bytes z.2.1 z.2.2⟩)
  (fun {r c n _} hg hG=>.mk (Walks.range hh I r c n) hg (by unfold rangeV;rw [List.length_map,List.length_range]) (fun j v x e1 e2=>by
   obtain ⟨t,rfl⟩:=e1
   unfold rangeV at e2
   rw [List.getElem?_map]at e2
   obtain ⟨y,hy,e2⟩:=Option.map_eq_some_iff.mp e2
   obtain ⟨hj,ej⟩:=List.getElem?_eq_some_iff.mp hy
   rw [List.getElem_range]at ej
   subst ej
   rw [←e2,Int.mul_comm]
   exact .int _ _) fun j h' st=>⟨_,st,.range⟩) it hg hG
end
theorem next_of{W:Wd}{A:Around}{h₀:Heap}{L I:Addr}{g:RG}{H:Hp}{m:SM}{s:Shared}{E:VQ}{vs:List V}{Gd:Hp→Prop}{i:Nat}{o:Obj}{Q:Option Value→Shared→Prop}(hh:A.handled=none)(a:AtH W h₀ L (g.at I o) m H s.heap s.gens s.drawn s.os)(gI:g.G I=none)(it:ItK vs Gd i o)(hG:Gd H)(hi:i≤vs.length)
  (h1:∀x,vs[i]?=some x→∀v h' tk o',VR v x→AtH W h₀ L (g.at I o') m H h' s.gens s.drawn s.os→ItK vs Gd (i+1) o'→Q (some v) {s with heap:=h',toks:=tk})
  (h2:vs[i]?=none→∀h' tk,AtH W h₀ L g m H h' s.gens s.drawn s.os→Q none {s with heap:=h',toks:=tk}):wpAny (model W.prog W.w) A (pyNext (.ref I)) Q E s:=by
 obtain ⟨Wk,hst,hn,hP,hS⟩:=it.walk hh a hG
 rcases Nat.lt_or_eq_of_le (hn▸hi) with hlt |e
 ·exact Wk.item i s _ _ hlt hst fun v h' tk hp st' hk=>(hS (i+1) h' st').elim fun o' z=>
   have hx:vs[i]?=some vs[i]:=List.getElem?_eq_getElem (hn▸hlt)
   h1 _ hx v h' tk o' (hP i v _ hp hx) (a.but hk z.1) z.2
 ·subst e
  exact Wk.done s _ _ hst fun h' tk hk=>h2 (List.getElem?_eq_none (Nat.le_of_eq hn.symm)) h' tk (a.leave hk gI)
end
section
theorem fits_long{x:Int}(h1: -4398046511104≤x)(h2:x≤4398046511104):Builtin.Range.rangeFitsLong x=true:=by
 unfold Builtin.Range.rangeFitsLong
 rw [Bool.and_eq_true,decide_eq_true_eq,decide_eq_true_eq]
 exact ⟨Int.le_trans (by decide) h1,Int.lt_of_le_of_lt h2 (by decide)⟩
theorem size_le{a b c N:Int}(h1:b-a≤N)(h2:a-b≤N)(h0:0≤N):0≤Builtin.Range.rangeSize a b c∧Builtin.Range.rangeSize a b c≤N:=by
 unfold Builtin.Range.rangeSize
 by_cases k:c > 0
 ·rw [if_pos k]
  by_cases l:a<b
  ·rw [if_pos l]
   have p:0≤b-a-1:=by exact lz [] [_,_] 4198288724874056965 rfl l
   have q:=Int.ediv_nonneg (b:=c) p (Int.le_of_lt k)
   have r:=Int.ediv_le_self c p
   exact ⟨by exact lz [] [_] 463212451809797 rfl q,by exact lz [] [_,_,_,_] 7147755874122487438347223111648709 rfl h1 r⟩
  ·rw [if_neg l];exact ⟨Int.le_refl 0,h0⟩
 ·rw [if_neg k]
  by_cases l:a > b
  ·rw [if_pos l]
   have p:0≤a-b-1:=by exact lz [] [_,_] 4198288724874056965 rfl l
   have q:=Int.ediv_nonneg (b := -c) p (by exact lz [] [_] 19009821297157 rfl k)
   have r:=Int.ediv_le_self (-c) p
   exact ⟨by exact lz [] [_] 463212451809797 rfl q,by exact lz [] [_,_,_,_] 7147755874122487438347223111648709 rfl h2 r⟩
  ·rw [if_neg l];exact ⟨Int.le_refl 0,h0⟩
theorem size_nat(a b c:Int):Builtin.Range.rangeSize a b c=(rangeN a b c:Int):=(Int.toNat_of_nonneg (size_le (N:=((b-a).natAbs:Int)) Int.le_natAbs (by rw [←Int.neg_sub b a];omega) (Int.natCast_nonneg _)).1).symm
theorem okI{x:Int}{n:Nat}(h:x.natAbs<n): -(n:Int)≤x∧x≤n:=⟨by omega,Int.le_trans Int.le_natAbs (Int.ofNat_le.mpr (Nat.le_of_lt h))⟩
theorem small_ok{a b c:Int}(ha:okR a)(hb:okR b)(hc:c.natAbs<1099511627776):Builtin.Range.small a b c=true:=by
 have a1:=(okI ha).1
 have a2:=(okI ha).2
 have b1:=(okI hb).1
 have b2:=(okI hb).2
 have c1:=(okI hc).1
 have c2:=(okI hc).2
 have z:=size_le (a:=a) (b:=b) (c:=c) (N:=4398046511104) (by exact lz [] [_,_] 17340981720237488490266722251286499913466553203260661703847033521244646597460666676992319281212504990874986495428465989 rfl a1 b2) (by exact lz [] [_,_] 17340981720237488490266722251286499915334046327248578965860888324396104451038797689728322456958807065071313779527777349 rfl a2 b1) (by decide)
 unfold Builtin.Range.small
 rw [fits_long (by exact lz [] [_] 9293092757808367195292801560239200847931701854546506506990338702765503396183109 rfl a1) (by exact lz [] [_] 777596513742512551230013291996242742543168786799344291315288655141154002181 rfl a2),fits_long (by exact lz [] [_] 9293092757808367195292801560239200847931701854546506506990338702765503396183109 rfl b1) (by exact lz [] [_] 777596513742512551230013291996242742543168786799344291315288655141154002181 rfl b2),fits_long (by exact lz [] [_] 9293092757808367195292801560239200847931701854546506506990338702765503396183109 rfl c1) (by exact lz [] [_] 777596513742512551230013291996242742543168786799344291315288655141154002181 rfl c2),fits_long (Int.le_trans (by decide) z.1) z.2]
 by_cases k:c > 0
 ·rw [if_pos k,fits_long (by exact lz [] [_,_] 137796986286938959235149889911291699182598382027791974832573150508048283410389536590329633285 rfl b1 k) (by exact lz [] [_,_] 1109822830095199263377070224082335976894592690202413311832172843194663747945325414693942006234480278908045741356044195141 rfl b2 c2),Bool.or_true];rfl
 ·rw [if_neg k,fits_long (by exact lz [] [_,_] 43395566750746995293905653314983378060852053053022719022168381008552275480145809944664744684769303769236731658627325135420485 rfl b1 c1) (by exact lz [] [_,_] 1109822830095199263377070224082335976651759078674197177967240104841723884615024559812424566078003727690682705705393132869 rfl b2 c2),Bool.or_true];rfl
section
variable (W:Wd)(T:Tabs)(CT:CT)(C:Cx)
noncomputable def FinI(g:RG)(mF:SM)(QQ:VQ)(Q:List V→(Hp→Prop)→Hp→Prop):Prop:=
 ∀I o s' vs Gd H',g.G I=none→At W C (g.at I o) mF H' s'→ItK vs Gd 0 o→Q vs Gd H'→QQ (.ref I) s'
noncomputable def SI(it:MI)(e:Expr):Prop:=
 ∀(g:RG) (l:Lv C g) H s (QQ:VQ) EE (Q:List V→(Hp→Prop)→Hp→Prop) X,At W C g l.mF H s→wI CT it l.m H Q X→FinI W C g l.mF QQ Q→FinX W T C g EE X→
  wpC (model W.prog W.w) C.A (eval e C.env) (fun x s₁=>wpC (model W.prog W.w) C.A (pyIter x) QQ EE s₁) EE s
end
section
variable {W:Wd}{T:Tabs}{CT:CT}{C:Cx}
theorem AtH.newR{h₀:Heap}{L:Addr}{g:RG}{mF:SM}{H:Hp}{h h':Heap}{ge:Array GenState}{d:Drawn}{os:OsState}(a:AtH W h₀ L g mF H h ge d os)(k:∀b x,h.get? b=some x→h'.get? b=some x){o:Obj}(e:h'.get? h.objs.size=some o):g.G h.objs.size=none∧AtH W h₀ L (g.at h.objs.size o) mF H h' ge d os:=
 have f:=a.own.newG a.F k (Heap.get_size h) e
 ⟨f.1,a.F.keeps k,f.2,a.hs⟩
theorem AtH.iter{h₀:Heap}{L:Addr}{g:RG}{mF:SM}{H:Hp}{h:Heap}{ge:Array GenState}{d:Drawn}{os:OsState}(a:AtH W h₀ L g mF H h ge d os)(o:Obj)(hf:o.isFreed=false:=by rfl):g.G h.objs.size=none∧AtH W h₀ L (g.at h.objs.size o) mF H (h.push o) ge d os:=
 a.newR (fun b x e=>Heap.get?_push_of_some _ e) (Heap.get?_push_size _ hf)
theorem over_of{g:RG}{mF:SM}{H:Hp}{s:Shared}{v:Value}{x:V}{QQ:VQ}{EE:VQ}{Q:List V→(Hp→Prop)→Hp→Prop}(a:At W C g mF H s)(hv:VR v x)(h:OV Q H x)(hq:FinI W C g mF QQ Q):wpAny (model W.prog W.w) C.A (pyIter v) QQ EE s:=
 OV.rec (motive:=fun x _=>VR v x→wpAny (model W.prog W.w) C.A (pyIter v) QQ EE s)
  (fun {b} _ q hv=>(hv.onY (P:=fun v b=>Q (b.map fun (n:Nat)=>.int (n:Int)) (fun _=>True) H→wpAny (model W.prog W.w) C.A (pyIter v) QQ EE s) fun arr t q=>have f:=a.iter {cls:=.type "bytes_iterator",data:=.fields #[.bytes arr t,.int 0 0]};KBw.pyIter_bytes (hq _ _ _ _ _ H f.1 f.2 (.bytes rfl rfl) q)) q)
  (fun {r _} h _ q hv=>hv.onR<|a.own.isList h fun items _ _ hl _ _=>have f:=a.iter {cls:=.type "list_iterator",data:=.fields #[.ref r,.int 0 0]};wpAny_pyIter_list hl (hq _ _ _ _ _ H f.1 f.2 (.list rfl rfl) q))
  (fun {r _} h _ q hv=>hv.onR<|a.own.isTup h fun items hl _ _=>have f:=a.iter {cls:=.type "tuple_iterator",data:=.fields #[.ref r,.int 0 0]};iter_tuple hl (hq _ _ _ _ _ H f.1 f.2 (.tup rfl rfl) q)) h hv
theorem si_over{a:ME}{e:Expr}(h1:SE W T CT C a e):SI W T CT C (.over a) e:=fun g l H s QQ EE Q X a hw hq hx=>h1 g l H s _ EE _ X a hw (fun v x s1 H1 a1 hv hw1=>.of (over_of a1 hv hw1 hq)) hx
theorem range_go{g:RG}{mF:SM}{H:Hp}{s:Shared}{QQ EE:VQ}{Q:List V→(Hp→Prop)→Hp→Prop}{i j k:Int}{t u v:Tok}{tk:Nat}(a:At W C g mF H s)(ha:okR i)(hb:okR j)(hc:k.natAbs<1099511627776)
  (hw:Q (rangeL i j k) (fun _=>True) H)(hq:FinI W C g mF QQ Q) :
  wpC (model W.prog W.w) C.A (pyIter (.ref s.heap.objs.size)) QQ EE {s with heap:=s.heap.push {cls:=.type "range",data:=.fields #[.int i t,.int j u,.int k v]},toks:=tk}:=by
 refine .of (wpAny_pyIter_range (IsRange.new ..) (small_ok ha hb hc) ?_)
 have f:=(a.grown fun b' x e=>Heap.get?_push_of_some {cls:=.type "range",data:=.fields #[.int i t,.int j u,.int k v]} e).iter {cls:=.type "range_iterator",data:=.fields #[rawInt i,rawInt (Builtin.Range.rangeSize i j k),rawInt k]}
 refine hq _ _ _ (rangeV i k (rangeN i j k)) (fun _=>True) H f.1 f.2 ?_ hw
 have:=ItK.range (a:=i) (c:=k) (n:=rangeN i j k) (i:=0)
 rw [Int.natCast_zero,Int.zero_mul,Int.add_zero,Int.sub_zero,←size_nat]at this
 exact this
theorem si_range1(E:C.EnvOk){rk:Nat}(K:C.Ok W T rk){a:ME}{e:Expr}{np pos:Pos}(h1:SE W T CT C a e)(hst:starEach [e] C.env=[(false,eval e C.env)])(hl:C.ns.lookup (Str.ofString "range")=some .globalImplicit) :
  SI W T CT C (.range1 a) (.Call (.Name (Str.ofString "range") np) [e] [] pos):=fun g l H s QQ EE Q X a hw hq hx=>
 c_Call (name_bi E K a hl (bt 10 rfl) (c_callWith_B1 (first:=[]) (.inr ⟨_,rfl⟩) (c_args_cons (h1 g l H s _ EE _ X a hw (fun v x s1 H1 a1 hv hw1=>c_args_nil (by
  cases x with
  |int i=>exact hv.onI fun t=>.of (call_range_1 (range_go a1 (by decide) hw1.1 (by decide) hw1.2 hq))
  |_=>exact hw1.elim)) hx) hst) hst rfl))
theorem kR22_inv{QI:List V→(Hp→Prop)→Hp→Prop}{x y:V}{H:Hp}(h:kR22 QI x y H):∃i j,x=.int i∧y=.int j∧okR i∧okR j∧QI (rangeL i j 1) (fun _=>True) H:=by
 cases x with
 |int i=>cases y with
  |int j=>exact ⟨i,j,rfl,rfl,h⟩
  |_=>exact h.elim
 |_=>exact h.elim
theorem si_range2(E:C.EnvOk){rk:Nat}(K:C.Ok W T rk){a b:ME}{e f:Expr}{np pos:Pos}(h1:SE W T CT C a e)(h2:SE W T CT C b f)(hst:starEach [e,f] C.env=(false,eval e C.env)::starEach [f] C.env)(hst2:starEach [f] C.env=[(false,eval f C.env)])
  (hl:C.ns.lookup (Str.ofString "range")=some .globalImplicit):SI W T CT C (.range2 a b) (.Call (.Name (Str.ofString "range") np) [e,f] [] pos):=fun g l H s QQ EE Q X a hw hq hx=>
 c_Call (name_bi E K a hl (bt 10 rfl) (c_callWith_B1 (first:=[]) (.inr ⟨_,rfl⟩) (c_args_cons (h1 g l H s _ EE _ X a hw (fun v x s1 H1 a1 hv hw1=>c_args_cons (h2 g l H1 s1 _ EE _ X a1 hw1 (fun v2 x2 s2 H2 a2 hv2 hw2=>c_args_nil (by
  obtain ⟨i,j,rfl,rfl,w1,w2,w3⟩:=kR22_inv hw2
  exact hv.on2 hv2 fun t u=>.of (call_range_2 (range_go a2 w1 w2 (by decide) w3 hq)))) hx) hst2) hx) hst) hst (by rw [hst2];rfl)))
theorem kR33_inv{QI:List V→(Hp→Prop)→Hp→Prop}{x y z:V}{H:Hp}(h:kR33 QI x y z H):∃i j k,x=.int i∧y=.int j∧z=.int k∧okR i∧okR j∧k.natAbs<1073741824∧k≠0∧QI (rangeL i j k) (fun _=>True) H:=by
 cases x with
 |int i=>cases y with
  |int j=>cases z with
   |int k=>exact ⟨i,j,k,rfl,rfl,rfl,h⟩
   |_=>exact h.elim
  |_=>exact h.elim
 |_=>exact h.elim
theorem si_range3(E:C.EnvOk){rk:Nat}(K:C.Ok W T rk){a b c:ME}{e f g:Expr}{np pos:Pos}(h1:SE W T CT C a e)(h2:SE W T CT C b f)(h3:SE W T CT C c g)(hst:starEach [e,f,g] C.env=(false,eval e C.env)::starEach [f,g] C.env)(hst2:starEach [f,g] C.env=(false,eval f C.env)::starEach [g] C.env)
  (hst3:starEach [g] C.env=[(false,eval g C.env)])(hl:C.ns.lookup (Str.ofString "range")=some .globalImplicit):SI W T CT C (.range3 a b c) (.Call (.Name (Str.ofString "range") np) [e,f,g] [] pos):=fun g l H s QQ EE Q X a hw hq hx=>
 c_Call (name_bi E K a hl (bt 10 rfl) (c_callWith_B1 (first:=[]) (.inr ⟨_,rfl⟩) (c_args_cons (h1 g l H s _ EE _ X a hw (fun v x s1 H1 a1 hv hw1=>c_args_cons (h2 g l H1 s1 _ EE _ X a1 hw1 (fun v2 x2 s2 H2 a2 hv2 hw2=>
  c_args_cons (h3 g l H2 s2 _ EE _ X a2 hw2 (fun v3 x3 s3 H3 a3 hv3 hw3=>c_args_nil (by
   obtain ⟨i,j,k,rfl,rfl,rfl,w1,w2,w3,w4,w5⟩:=kR33_inv hw3
   exact hv3.onI fun t3=>hv.on2 hv2 fun t u=>.of (call_range_3 w4 (range_go (tk:=s3.toks) a3 w1 w2 (Nat.lt_trans w3 (by decide)) w5 hq) (.inl (PyProof.noPylong_small (by exact lz [_] [] 10538397857537321126599383164167070535796568261031286017 rfl w3)))))) hx) hst3) hx) hst2) hx) hst) hst (by rw [hst2,hst3];rfl)))
end
end
section
section
variable {prog:Program}{w:World}{A:Around}{E:VQ}{s:Shared}{env:Env}{R:Result→Shared→Prop}
theorem codeC_forLoop2{target:Expr}{it:Value}{body:List Stmt}(I:Nat→Shared→Prop)
  (turn:∀n s,I n s→wpC (model prog w) A (pyNext it) (fun r s₁=>match r with
   |none=>R (.ok .next) s₁
   |some v=>wpC (model prog w) A (letOwnedTupleGo target it v) (fun _ s₁=>wpC (model prog w) A (assign target env v) (fun _ s₂=>wpC (model prog w) A (execs body env) (fun f s₃=>match f with
     | .next | .cont=>∃m,m<n∧I m s₃
     | .brk=>R (.ok .next) s₃
     | .ret v=>R (.ok (.ret v)) s₃) (notedBy (model prog w) A env fun e s'=>R (.error e) s') s₂) (notedBy (model prog w) A env fun e s'=>R (.error e) s') s₁) (notedBy (model prog w) A env fun e s'=>R (.error e) s') s₁)
   (notedBy (model prog w) A env fun e s'=>R (.error e) s') s)
  (n:Nat)(h:I n s):codeC (model prog w) A (.forLoop target it body [] env) R s:=by
 refine codeC_loop rfl rfl I (fun n s hI=>?_) n h
 refine wpC_noted ?_
 dsimp only [forTurn]
 refine cbind (cstand (cbind (wpC_onRaise (cmono (turn n s hI) (fun r s₁ h₁=>?_) fun _ _ h'=>cstand h'))))
 cases r with
 |none=>
  refine cpure (.inr ⟨rfl,codeC_of_tree rfl ?_⟩)
  exact cbind (wpC_onRaise (c_execs_nil (cpure h₁)))
 |some v=>
  refine cbind (cmono h₁ (fun _ s₁ h₁=>?_) fun _ _ h'=>h')
  refine cbind (cmono h₁ (fun _ s₂ h₂=>cbind (cmono h₂ (fun f s₃ h₃=>?_) fun _ _ h'=>h')) fun _ _ h'=>h')
  cases f with
  |next=>exact cpure (.inl ⟨rfl,h₃⟩)
  |cont=>exact cpure (.inl ⟨rfl,h₃⟩)
  |brk=>exact cpure h₃
  |ret v=>exact cpure h₃
end
section
variable {W:Wd}{T:Tabs}{CT:CT}{C:Cx}
noncomputable def ownedIts:List String:=["enumerate","zip","dict_itemiterator","dict_reverseitemiterator","odict_iterator","itertools.zip_longest","itertools.pairwise"]
noncomputable def TgEs(C:Cx):List Nat→List Expr→Prop:=List.rec (fun es=>es=[]) fun i _ ih es=>∃x p r,es=.Name x p::r∧C.ns[i]?=some (x,.local)∧C.ns.lookup x=some .local∧ih r
noncomputable def TgE(C:Cx)(t:Tg)(e:Expr):Prop:=match t with
 | .one i=>∃x p,e=.Name x p∧C.ns[i]?=some (x,.local)∧C.ns.lookup x=some .local
 | .tup is=>∃es k p,e=.Tuple es k p∧TgEs C is es
theorem TgE.one{i:Nat}{x:Str}{p:Pos}(h1:C.ns[i]?=some (x,.local))(h2:C.ns.lookup x=some .local):TgE C (.one i) (.Name x p):=⟨_,_,rfl,h1,h2⟩
theorem TgE.tup{is:List Nat}{es:List Expr}{k:Nat}{p:Pos}(h:TgEs C is es):TgE C (.tup is) (.Tuple es k p):=⟨_,_,_,rfl,h⟩
theorem each_names{env:Env}{is:List Nat}:∀{es:List Expr},TgEs C is es→assignEach es env=es.map (fun t=>(false,assign t env))∧es.length=is.length:=by
 induction is with
 |nil=>intro es h;obtain rfl:es=[]:=h;exact ⟨rfl,rfl⟩
 |cons i is ih=>
  intro es h
  refine Classical.byContradiction fun no=>?_
  obtain ⟨x,p,r,rfl,_,_,h⟩:=h
  obtain z:=ih h
  refine no ?_
  exact ⟨congrArg (_::·) z.1,congrArg Nat.succ z.2⟩
theorem assign_names(E:C.EnvOk){g:RG}{H:Hp}{EE:VQ}{QQ:Unit→Shared→Prop}{P:M→Prop}{is:List Nat}:∀{es:List Expr} {items:List Value} {vs:List V} {l:Ld C} {s:Shared},TgEs C is es→VRs items vs→is.length=vs.length→
  At W C g l.mF H s→P ((is.zip vs).foldl (fun m p=>m.set p.1 (some p.2)) l.m)→(∀s' (l':Ld C),At W C g l'.mF H s'→P l'.m→QQ () s')→
  wpAny (model W.prog W.w) C.A (assignInOrder (es.map fun t=>assign t C.env) items) QQ EE s:=by
 induction is with
 |nil=>
  intro es items vs l s h hv hl a hP hq
  obtain rfl:es=[]:=h
  obtain rfl:vs=[]:=List.eq_nil_of_length_eq_zero hl.symm
  have rfl:=hv.nilI
  exact wpAny_pure (hq s l a hP)
 |cons i is ih=>
  intro es items vs l s h hv hl a hP hq
  obtain ⟨x,p,r,rfl,h1,h2,h⟩:=h
  cases vs with
  |nil=>cases hl
  |cons V vs=>
   refine hv.inv fun v items hv hr=>?_
   exact wpAny_bind (wpAny_holding (assign_Name (store_loc E h1 h2 hv a fun s' a'=>ih h hr (Nat.succ.inj hl) a' hP hq)))
theorem assign_tup(E:C.EnvOk){rk:Nat}(K:C.Ok W T rk){is:List Nat}{es:List Expr}{k:Nat}{p:Pos}{g:RG}{l:Ld C}{H:Hp}{s:Shared}{r:Addr}{items:Array Value}{vs:List V}{P:M→Prop}{QQ:Unit→Shared→Prop}{EE:VQ}(he:TgEs C is es)(htp:IsTup s.heap r items)(hvs:VRs items.toList vs)(hlen:is.length=vs.length)
  (hP:P ((is.zip vs).foldl (fun m p=>m.set p.1 (some p.2)) l.m))(a:At W C g l.mF H s)(hq:∀s' (l':Ld C),At W C g l'.mF H s'→P l'.m→QQ () s'):wpAny (model W.prog W.w) C.A (assign (.Tuple es k p) C.env (.ref r)) QQ EE s:=by
 obtain z:=each_names (env:=C.env) he
 show wpAny _ _ (standAt p >>= fun _=>unpack (.ref _) (assignEach es C.env)) _ _ s
 refine wpAny_bind (wpAny_standAt ?_)
 unfold unpack
 rw [z.1,show (es.map fun t=>(false,assign t C.env)).findIdx? (·.1)=none from List.findIdx?_eq_none_iff.mpr fun x hx=>(List.mem_map.mp hx).elim fun t q=>q.2▸rfl]
 rw [List.length_map,List.map_map,z.2.trans (hlen.trans hvs.length.symm)]
 exact wpAny_bind (wpAny_holding (unpackItems_tuple K.hh htp fun h' he'=>assign_names E he hvs hlen (s:={s with heap:=h'}) (a.grown fun b x eb=>he' b x (Nat.ne_of_lt (Heap.lt_size eb)) eb) hP hq))
theorem assign_tg(E:C.EnvOk){rk:Nat}(K:C.Ok W T rk){t:Tg}{e:Expr}{g:RG}{l:Ld C}{H:Hp}{s:Shared}{v:Value}{V:V}{P:M→Prop}{QQ:Unit→Shared→Prop}{EE:VQ}(ht:TgE C t e)(hb:bindT t V l.m H P)
  (hv:VR v V)(a:At W C g l.mF H s)(hq:∀s' (l':Ld C),At W C g l'.mF H s'→P l'.m→QQ () s'):wpAny (model W.prog W.w) C.A (assign e C.env v) QQ EE s:=by
 cases t with
 |one i=>obtain ⟨x,p,rfl,h1,h2⟩:=ht;exact assign_Name (store_loc E h1 h2 hv a fun s' a'=>hq s' _ a' hb)
 |tup is=>
  obtain ⟨es,k,p,rfl,he⟩:=ht
  cases hb with |iBT h hlen hP=>exact hv.onR<|a.own.isTup h fun items htp hvs hz=>assign_tup E K he htp hvs hlen hP a hq
noncomputable def Owd(o:Obj):Prop:=∃n fs,o.cls=.type n∧o.data=.fields fs∧ownedIts.contains n=false
theorem ItK.cls{vs:List V}{Gd:Hp→Prop}{i:Nat}{o:Obj}(it:ItK vs Gd i o):Owd o:=
 ItK.rec (motive:=fun _ _ _ o _=>Owd o) (fun c1 c2=>⟨_,_,c1,c2,rfl⟩) (fun c1 c2=>⟨_,_,c1,c2,rfl⟩) (fun c1 c2=>⟨_,_,c1,c2,rfl⟩) ⟨_,_,rfl,rfl,rfl⟩ it
theorem letGo_it{i:Nat}{vs:List V}{Gd:Hp→Prop}{o:Obj}{I:Addr}{A:Around}{EE:VQ}{s:Shared}{t:Tg}{te:Expr}{v:Value}{V:V}{m:M}{H:Hp}{P:M→Prop}{Q:Unit→Shared→Prop}(ht:TgE C t te)(hb:bindT t V m H P)(hv:VR v V)(it:ItK vs Gd i o)(hg:s.heap.get? I=some o)(q:Q () s) :
  wpAny (model W.prog W.w) A (letOwnedTupleGo te (.ref I) v) Q EE s:=by
 cases t with
 |one i=>obtain ⟨x,p,rfl,_⟩:=ht;exact wpAny_pure q
 |tup is=>
  refine Classical.byContradiction fun no=>?_
  obtain ⟨es,k,p,rfl,_⟩:=ht
  obtain ⟨n,fs,c1,c2,c3⟩:=it.cls
  cases hb with | @iBT a _ _ _ _=>
  obtain rfl:=hv.r
  refine no ?_
  show wpAny _ _ (load I >>= fun o=>match o.cls,o.data with
   | .type n,.fields vs=>
    if ["enumerate","zip","dict_itemiterator","dict_reverseitemiterator","odict_iterator","itertools.zip_longest","itertools.pairwise"].contains n&&vs[0]? == some (rawInt a) then do
     rule "for.unpacks-the-owned-tuple"
     updateField I 0 .none
    else pure ()
   |_,_=>pure ()) _ _ _
  refine wpAny_bind (wpAny_load hg ?_)
  rw [c1,c2]
  exact a_if_false (congrArg (fun z=>z&&(fs[0]? == some (rawInt a))) c3) (wpAny_pure q)
noncomputable def ForSt(W:Wd)(C:Cx)(vs:List V)(g:RG)(I:Addr)(Gd:Hp→Prop)(K:Nat→M→Hp→Prop)(n:Nat)(s:Shared):Prop:=
 ∀R:Prop,(∀i o H,∀l:Ld C,n=vs.length-i→i≤vs.length→At W C (g.at I o) l.mF H s→ItK vs Gd i o→K i l.m H→R)→R
theorem ss_for(E:C.EnvOk){rk:Nat}(K:C.Ok W T rk){t:Tg}{it:MI}{b:MSs}{te ie:Expr}{lb:List Stmt}{pos:Pos}(h1:SI W T CT C it ie)(h2:SSs W T CT C b lb)(ht:TgE C t te)(hf:∀x,foldedSetIterable ie C.env x=pure x) :
  SS W T CT C (.for_ t it b) (.For te ie lb [] pos):=fun g l H s QQ EE Q X a hw hp hq hx=>
 c_For (h1 g l.v H s _ EE _ X a hw (fun I o s1 vs Gd H1 gI a1 it1 ⟨J,step,last,h0⟩=>by
  refine codeC_forLoop2 (ForSt W C vs g I Gd J) (fun n s2 h=>h _ fun i o2 H2 l2 hn hi a2 it2 hJ=>?_) vs.length fun R z=>z 0 o H1 l rfl (Nat.zero_le _) a1 it1 h0
  obtain hGd:Gd H2:=(Nat.lt_or_eq_of_le hi).elim (fun q=>(step i _ l2.m H2 (List.getElem?_eq_getElem q) hJ).1) fun q=>(last l2.m H2 (q▸hJ)).1
  refine .of (next_of K.hh a2 gI it2 hGd hi (fun x hx2 v h' tk o' hv a3 it'=>?_) fun hnone h' tk a3=>hq .next .next l2 _ H2 a3 .next (last l2.m H2 (Nat.le_antisymm hi (List.getElem?_eq_none_iff.mp hnone)▸hJ)).2)
  have lt:=(List.getElem?_eq_some_iff.mp hx2).1
  obtain st:=(step i x l2.m H2 hx2 hJ).2
  refine .of (letGo_it (s:={s2 with heap:=h',toks:=tk}) ht st hv it' a3.it.2.2 (.of (assign_tg E K ht st hv (s:={s2 with heap:=h',toks:=tk}) a3 fun s4 l4 a4 hF=>?_)))
  refine wpC_passesOwn hp (h2 (g.at I o') l4 H2 s4 _ EE _ X a4 hF hp (fun f fl l5 s5 H5 a5 hf5 hQ5=>?_) (hx.drop (gput_sub gI)))
  obtain again:J (i+1) l5.m H5→∃m,m<n∧ForSt W C vs g I Gd J m s5:=fun hQ5=>⟨vs.length-(i+1),hn▸Nat.sub_lt_sub_left lt (Nat.lt_succ_self i),fun R z=>z (i+1) o' H5 l5 rfl lt a5 it' hQ5⟩
  cases fl with
  |next=>obtain rfl:=hf5;exact again hQ5
  |cont=>obtain rfl:=hf5;exact again hQ5
  |ret x=>obtain ⟨v,rfl,hv5⟩:=hf5;exact hq _ _ l5 s5 H5 (AtH.drop (gput_sub gI) a5) (.ret hv5) hQ5) hx) hf
theorem VRs.setIfIn{items:Array Value}{vs:List V}(h:VRs items.toList vs)(v:Value)(x:V)(hv:VR v x)(i:Nat):VRs (items.setIfInBounds i v).toList (vs.set i x):=by
 rw [Array.toList_setIfInBounds]
 exact h.set hv i
theorem DRs.any{k:Int}{kvs:List (Int×Value)}{es:List (Int×Int)}(h:DRs kvs es):(kvs.any fun e=>decide (e.1=k))=es.any fun e=>decide (e.1=k):=by
 induction h with
 |nil=>rfl
 |cons _ ih=>exact congrArg _ ih
theorem DRs.map_{k v:Int}{t:Tok}{kvs:List (Int×Value)}{es:List (Int×Int)}(h:DRs kvs es):DRs (kvs.map fun e=>if e.1=k then (e.1,.int v t) else e) (es.map fun e=>if e.1=k then (e.1,v) else e):=by
 induction h with
 |nil=>exact .nil
 | @cons k0 _ _ _ _ _ ih=>
  rw [List.map_cons,List.map_cons]
  by_cases q:k0=k
  ·rw [if_pos q,if_pos q];exact .cons ih
  ·rw [if_neg q,if_neg q];exact .cons ih
theorem DRs.snoc{k v:Int}{t:Tok}{kvs:List (Int×Value)}{es:List (Int×Int)}(h:DRs kvs es):DRs (kvs++[(k,.int v t)]) (es++[(k,v)]):=by
 induction h with
 |nil=>exact .cons .nil
 |cons _ ih=>exact .cons ih
theorem DRs.stored{k v:Int}{t:Tok}{kvs:List (Int×Value)}{es:List (Int×Int)}(h:DRs kvs es):DRs (stored kvs k (.int v t)) (setI k v es):=by
 unfold PySem.stored setI
 rw [h.any]
 split
 ·exact h.map_
 ·exact h.snoc
theorem setsub_of{rk:Nat}(K:C.Ok W T rk){x y v:V}{ov iv w:Value}{g:RG}{mF:SM}{H:Hp}{s:Shared}{QQ:Unit→Shared→Prop}{EE:VQ}{Q:Hp→Prop}
  (a:At W C g mF H s)(hx:VR ov x)(hy:VR iv y)(hv:VR w v)(hw:ST2 Q H x y v)(hq:∀s' H',At W C g mF H' s'→Q H'→QQ () s') :
  wpAny (model W.prog W.w) C.A (setItem ov iv w) QQ EE s:=
 ST2.rec (motive:=fun x y v _=>VR ov x→VR iv y→VR w v→wpAny (model W.prog W.w) C.A (setItem ov iv w) QQ EE s)
  (fun {r n vs v} h hn hz q hx hy hv=>hx.onR<|hy.onI fun t=>a.own.isList h fun items m hg hl hvs hz'=>
   have hs':Heap.SameBut r s.heap (s.heap.update r (Obj.mapSeq (·.setIfInBounds n w))):=Heap.SameBut.update ..
   ki_setAt hg (Int.natCast_nonneg _) (Int.ofNat_lt.mpr (Nat.lt_of_lt_of_le hn (Nat.le_trans hz (Nat.le_of_ble_eq_true rfl)))) (by rw [hz'];exact Int.ofNat_lt.mpr hn) (hq {s with heap:=s.heap.update r (Obj.mapSeq (·.setIfInBounds n w))} _ (a.upd h hs' (PySem.IsL.update hg (·.setIfInBounds n w)) (.list (hvs.setIfIn w _ hv _))) q))
  (fun {r es k j} h hn q hx hy hv=>hx.onR<|hy.onI fun t=>hv.onI fun u=>a.own.isDict K.G.sm h fun ro kvs hr hd hk tab=>(a.own.open_ h).elim fun ro' z=>by
   obtain rfl:=sI (hr.symm.trans z.1)
   exact setItem_K (enc:=PyData.int) (D:=es.map fun e=>(.int e.1,.int e.2)) (fun a b=>PyProof.V.same_int a b) (k:=k) (intKind_is W.prog W.w k t) (PyProof.V.Flat.int j u) a.F z.2.2.1 (UpdF.head others_ne) hd hk.flat (fun h' o' F' N' hd' _=>hq {s with heap:=h',toks:=s.toks+1} _ (a.to F' (z.2.2.2 _ _ _ N' (.dict hd' hk.stored))) q) (by simp only [List.length_map,sizeL];exact lz [_] [] 153353872431864779061718223157201109411607808 rfl hn)) hw hx hy hv
theorem ss_setsub{rk:Nat}(K:C.Ok W T rk){o i a:ME}{lo li e:Expr}{p pos:Pos}(h1:SE W T CT C a e)(h2:SE W T CT C o lo)(h3:SE W T CT C i li)(hsw:swapsWith e (some (.Subscript lo li p)) pos.line C.env=pure false) :
  SS W T CT C (.setsub o i a) (.Assign [.Subscript lo li p] e pos):=fun g l H s QQ EE Q X a hw hp hq hx=>
 c_Assign_Subscript (h1 g l.v H s _ EE _ X a hw (fun v V s1 H1 a1 hv hw1=>h2 g l.v H1 s1 _ EE _ X a1 hw1 (fun ov x s2 H2 a2 hx2 hw2=>h3 g l.v H2 s2 _ EE _ X a2 hw2 (fun iv y s3 H3 a3 hy3 hw3=>.of (setsub_of K a3 hx2 hy3 hv hw3 fun s' H' a' hQ=>hq .next .next l s' H' a' .next hQ)) hx) hx) hx) hsw
theorem ss_unpack(E:C.EnvOk){rk:Nat}(K:C.Ok W T rk){is:List Nat}{a:ME}{te e:Expr}{pos:Pos}(ht:TgE C (.tup is) te)(h1:SE W T CT C a e)(hs1:swapsWithSole [te] e pos.line C.env=pure false)(hw1:swappedStores [te] e C.env=pure none) :
  SS W T CT C (.unpack is a) (.Assign [te] e pos):=fun g l H s QQ EE Q X a hw hp hq hx=>by
 obtain ⟨es,k,p,rfl,he⟩:=ht
 exact c_Assign_Tuple (h1 g l.v H s _ EE _ X a hw (fun v V s1 H1 a1 hv hw2=>.of (assign_tg E K (.tup he) hw2 hv a1 fun s' l' a' q=>hq .next .next l' s' H1 a' .next q)) hx) hs1 hw1
theorem augV_inv{op:BOp}{x y z:V}(h:augV op x y=some z):∃i j,op=.add∧x=.int i∧y=.int j∧z=.int (i+j):=by
 cases op with
 |add=>cases x with
  |int i=>cases y with
   |int j=>exact ⟨i,j,rfl,rfl,rfl,(sI h).symm⟩
   |_=>exact noS h
  |_=>exact noS h
 |_=>exact noS h
theorem aug_of{op:BOp}{x y z:V}{v w:Value}{s:Shared}{QQ EE:VQ}(h:augV op x y=some z)(hv:VR v x)(hw:VR w y)(hq:∀u tk,VR u z→QQ u {s with toks:=tk}):wpAny (model W.prog W.w) C.A (inplaceOp (opOf op) v w) QQ EE s:=by
 refine Classical.byContradiction fun no=>?_
 obtain ⟨i,j,rfl,rfl,rfl,rfl⟩:=augV_inv h
 refine no ?_
 exact hv.on2 hw fun t u=>PyProof.Rows.iadd_int (hq _ _ (.int _ _))
theorem kAug_use{i:Nat}{op:BOp}{x y:V}{m:M}{Q:QS}{H:Hp}{P:Prop}(h:kAug m Q i op x y H)(k:∀z,augV op x y=some z→Q .next (m.set i (some z)) H→P):P:=by
 unfold kAug at h
 generalize e:augV op x y=o at h
 cases o with
 |some z=>exact k z e h
 |none=>exact h.elim
theorem ss_aug(E:C.EnvOk){i:Nat}{op:BOp}{a:ME}{x:Str}{p:Pos}{e:Expr}{pos:Pos}(he:SE W T CT C a e)(h1:C.ns[i]?=some (x,.local))(h2:C.ns.lookup x=some .local) :
  SS W T CT C (.aug i op a) (.AugAssign (.Name x p) (opOf op) e pos):=fun g l H s QQ EE Q X a hw hp hq hx=>by
 replace hw:kAugL _ l.m Q X i op (getLoc l.m i) H:=hw
 generalize eo:getLoc l.m i=o at hw
 cases o with
 |none=>exact hw.elim
 |some V=>exact (l.vars i x .local h1 h2 V eo).elim fun v z=>c_AugAssign_Name (.of<|wpAny_loadName_local E.ek (E.loc h2) (l.v.ns a) z.1 (he g l.v H s _ EE _ X a hw (fun w y s1 H1 a1 hy hw1=>kAug_use hw1 fun r e q=>
   .of (aug_of e z.2 hy fun u tk hu=>.of (store_loc E h1 h2 hu a1 fun s' a'=>hq .next .next _ s' H1 a' .next q))) hx))
theorem kAs3_use{op:BOp}{x y z u:V}{m:M}{Q:QS}{H:Hp}{P:Prop}(h:kAs3 m Q op x y z u H)(k:∀v,augV op z u=some v→ST2 (kNext m Q) H x y v→P):P:=by
 unfold kAs3 at h
 generalize e:augV op z u=o at h
 cases o with
 |some z=>exact k z e h
 |none=>exact h.elim
theorem ss_augsub{rk:Nat}(K:C.Ok W T rk){o i a:ME}{op:BOp}{lo li e:Expr}{p pos:Pos}(h1:SE W T CT C o lo)(h2:SE W T CT C i li)(h3:SE W T CT C a e)
  (hi:∀ov iv new,augStore li ov iv new=(do holding [new,ov,iv] (setItem ov iv new);release [new,ov,iv] [];pure .next)):SS W T CT C (.augsub o i op a) (.AugAssign (.Subscript lo li p) (opOf op) e pos):=fun g l H s QQ EE Q X a hw hp hq hx=>
 c_AugAssign_Subscript (h1 g l.v H s _ EE _ X a hw (fun ov x s1 H1 a1 hx1 hw1=>h2 g l.v H1 s1 _ EE _ X a1 hw1 (fun iv y s2 H2 a2 hy2 hw2=>by
  refine Classical.byContradiction fun no=>?_
  cases hw2 with |iI hn h hw2=>
  refine no ?_
  exact (get_of a2 hx1 hy2 hn h fun u tk hu=>h3 g l.v H2 _ _ EE _ X a2 hw2 (fun w uu s4 H4 a4 hw4 hQ4=>kAs3_use hQ4 fun z e q=>.of (aug_of e hu hw4 fun u' tk hu'=>.of (setsub_of K a4 hx1 hy2 hu' q fun s' H' a' hQ=>hq .next .next l s' H' a' .next hQ))) hx).elim fun T z=>z.elim fun id z=>.of z.2.2) hx) hx) hi
end
end
end Mine
end
section
open PySem PySem.W PyProof.Rows PySem.Calls PySem.Spec
set_option bootstrap.genMatcherCode false
namespace Mine
section
section
variable {M:Model}{A:Around}{E:VQ}{s:Shared}{env:Env}
noncomputable def compPostC(M:Model)(A:Around)(E:VQ)(use:Option (Value→Sem Unit))(Q:VQ)(acc:Value)(Lc:Addr)(r:Result)(s':Shared):Prop:=
 match r,use with
 | .ok _,none=>∃m,s'.heap.Ns Lc m∧∀h',Heap.SameBut Lc s'.heap h'→Q acc {s' with heap:=h'}
 | .ok _,some u=>wpC M A (u acc) (fun _ s''=>∃m,s''.heap.Ns Lc m∧∀h',Heap.SameBut Lc s''.heap h'→Q .none {s'' with heap:=h'}) E s'
 | .error _,_=>False
theorem c_comprehension{e:Expr}{scope:Scope}{pos:Pos}{newAcc first:Sem Value}{g:Comprehension}{gs:List Comprehension}{cl:List (Str×Addr)}{use:Option (Value→Sem Unit)}{Q:VQ}
  (hcl:clausesOf e=g::gs)(hs:∀x,foldedSetIterable g.iter env x=pure x)(hclos:closureFor scope env=pure cl)(hkind:scope.kind=.function)(hnames:∀x∈scope.names,x.2=.local→scope.names.lookup x.1=some .local)
  (h:wpC M A first (fun x s₁=>wpC M A (pyIter x) (fun it s₂=>wpC M A newAcc (fun acc s₃=>wpC M A (newFunctionEnv scope env.globals cl [] env.qual none .none (some env)) (fun cenv s₄=>
    codeC M A (.compStart e 0 it acc {cenv with scope:=relabel scope env}) (compPostC M A E use Q acc cenv.locals) s₄) E s₃) E s₂) E s₁) E s) :
  wpC M A (comprehension e scope env pos newAcc false first use) Q E s:=by
 unfold comprehension
 rw [hclos,hcl]
 refine cbind (cmono h (fun x s₁ h₁=>cbind (cstand (cbind (wpC_of_eq (hs x) (cbind (chold (cmono h₁ (fun it s₂ h₂=>?_) fun _ _ h'=>h'))))))) fun _ _ h'=>h')
 have tail:∀{k:PUnit→Sem Value},wpC M A (k ()) Q E s₂→wpC M A (if use.isSome=true then (standAt e.pos >>= k) else k ()) Q E s₂:=fun hk=>by
  split
  ·exact cbind (cstand hk)
  ·exact hk
 refine tail (cbind (cmono h₂ (fun acc s₃ h₃=>cbind (cpure (cbind (cmono h₃ (fun cenv s₄ h₄=>?_) fun _ _ h'=>h')))) fun _ _ h'=>h'))
 dsimp only
 obtain hv:∀x∈(scope.names.filter fun x=>(x.2 == .local||x.2 == .cell)&&x.1 != (".0":Str)).reverse,x.2=.local→
   Env.kindOf {cenv with scope:=relabel scope env} x.1=some .local:=fun x hx hl=>lookup_relabel_local (hnames x (List.mem_filter.mp (List.mem_reverse.mp hx)).1 hl)
 obtain hv' :∀x∈(scope.names.filter fun x=>(x.2 == .local||x.2 == .cell)&&x.1 != (".0":Str)).reverse.drop 1++(scope.names.filter fun x=>(x.2 == .local||x.2 == .cell)&&x.1 != (".0":Str)).reverse.take 1,
   x.2=.local→Env.kindOf {cenv with scope:=relabel scope env} x.1=some .local:=fun x hx hl=>by
  rcases List.mem_append.mp hx with h1 |h1
  ·exact hv x (List.mem_of_mem_drop h1) hl
  ·exact hv x (List.mem_of_mem_take h1) hl
 refine chold (cbind (wpC_attempt (chold (wpC_run (codeC_mono h₄ fun r s' hr=>?_)))))
 cases r with
 |ok f=>
  cases use with
  |none=>
   obtain ⟨m,hn,hr⟩:=hr
   exact cbind (chold (.of (wpAny_comp_letGo (cenv:={cenv with scope:=relabel scope env}) hkind _ s' m hv hn fun h' m' _ hs'=>cpure (hr h' hs'))))
  |some u=>
   refine cbind (.of (wpAny_rule (cbind (chold (cmono hr (fun _ s'' hr'=>?_) fun _ _ h'=>h')))))
   obtain ⟨m,hn,hr'⟩:=hr'
   exact cbind (.of (wpAny_comp_letGo (cenv:={cenv with scope:=relabel scope env}) hkind _ s'' m hv' hn fun h' m' _ hs'=>cpure (hr' h' hs')))
 |error x=>cases use <;> exact hr.elim
end
section
variable {prog:Program}{w:World}{A:Around}{s:Shared}{env:Env}{R:Result→Shared→Prop}
theorem codeC_compStart{elt target iter:Expr}{scope:Scope}{pos:Pos}{it acc:Value}
  (h0:codeC (model prog w) A (.compLoop (.ListComp elt [⟨target,iter,[],0⟩] scope pos) 0 it acc env) R s)
  (hself:∀(Q:VQ) (E:VQ),Q it s→wpAny (model prog w) A (pyIter it) Q E s):codeC (model prog w) A (.compStart (.ListComp elt [⟨target,iter,[],0⟩] scope pos) 0 it acc env) R s:=by
 refine codeC_of_tree rfl ?_
 show wpC _ _ ((compStart (.ListComp elt [⟨target,iter,[],0⟩] scope pos) 0 it acc env).onRaise (fun x=>do noteFrame x env;standAt theWindowsPlace)) _ _ s
 refine wpC_onRaise ?_
 unfold compStart
 show wpC _ _ (ask >>= _) _ _ s
 refine cbindOf (wpAny_askSetting ?_)
 split
 ·first
   |exact cbind (cpure (cpure (And.intro rfl h0)))
   |exact cpure (And.intro rfl h0)
 ·first
   |exact cbindOf (wpAny_rule (cbindOf (wpAny_standAt (cbindOf (hself _ _ (cpure (And.intro rfl h0)))))))
   | (refine cbindOf (wpAny_rule ?_);show wpC _ _ (standAt iter.pos >>= _) _ _ s;exact cbindOf (wpAny_standAt (cbindOf (hself _ _ (cpure (And.intro rfl h0))))))
theorem codeC_compLoop{elt target iter:Expr}{scope:Scope}{pos:Pos}{it acc:Value}(I:Nat→Shared→Prop)
  (turn:∀n s,I n s→wpC (model prog w) A (pyNext it) (fun r s₁=>match r with
   |none=>R (.ok .next) s₁
   |some v=>wpC (model prog w) A (letOwnedTupleGo target it v) (fun _ s₁=>wpC (model prog w) A (assign target env v) (fun _ s₂=>wpC (model prog w) A (eval elt env) (fun x s₃=>
     wpC (model prog w) A (call (.builtin "list.append") [acc,x]) (fun _ s₄=>∃m,m<n∧I m s₄) (fun _ _=>False) s₃) (fun _ _=>False) s₂) (fun _ _=>False) s₁) (fun _ _=>False) s₁) (fun _ _=>False) s)
  (n:Nat)(h:I n s):codeC (model prog w) A (.compLoop (.ListComp elt [⟨target,iter,[],0⟩] scope pos) 0 it acc env) R s:=by
 refine codeC_loop rfl rfl I (fun n s hI=>?_) n h
 show wpC _ _ ((compTurn (.ListComp elt [⟨target,iter,[],0⟩] scope pos) 0 it acc env).onRaise (fun x=>do noteFrame x env;theTreesLotGoes x)) _ _ s
 refine wpC_onRaise ?_
 have no:∀{α:Type} {t:Sem α} {Q:α→Shared→Prop} {E':VQ} {s:Shared},wpC (model prog w) A t Q (fun _ _=>False) s→wpC (model prog w) A t Q E' s:=fun h=>cmono h (fun _ _ q=>q) fun _ _ q=>q.elim
 rw [compTurn_list1]
 refine cbind (cstand (cbind (no (cmono (turn n s hI) (fun r s₁ h₁=>?_) fun _ _ h'=>h'))))
 cases r with
 |none=>exact cpure h₁
 |some v=>
  refine cbind (no (cmono h₁ (fun _ s₁ h₁=>?_) fun _ _ h'=>h'))
  refine cbind (no (cmono h₁ (fun _ s₂ h₂=>?_) fun _ _ h'=>h'))
  refine cbind (cbind (no (cmono h₂ (fun x s₃ h₃=>?_) fun _ _ h'=>h')))
  exact cbind (no (cmono h₃ (fun _ s₄ h₄=>cpure (cpure (.inl ⟨rfl,h₄⟩))) fun _ _ h'=>h'))
end
end
theorem gput_self{G:Addr→Option Obj}{a:Addr}{o:Option Obj}:gput G a o a=o:=if_pos rfl
theorem gput_ne{G:Addr→Option Obj}{a b:Addr}{o:Option Obj}(h:b≠a):gput G a o b=G b:=if_neg h
theorem gput_put{G:Addr→Option Obj}{a:Addr}{o p:Option Obj}:gput (gput G a o) a p=gput G a p:=funext fun b=>by
 by_cases q:b=a
 ·subst q;rw [gput_self,gput_self]
 ·rw [gput_ne q,gput_ne q,gput_ne q]
theorem gput_out{G:Addr→Option Obj}{a:Addr}{o:Option Obj}(h:G a=none):gput (gput G a o) a none=G:=funext fun b=>by
 by_cases q:b=a
 ·subst q;rw [gput_self,h]
 ·rw [gput_ne q,gput_ne q]
theorem gput_comm{G:Addr→Option Obj}{a b:Addr}(n:a≠b){o p:Option Obj}:gput (gput G a o) b p=gput (gput G b p) a o:=funext fun c=>by
 by_cases q:c=b
 ·subst q;rw [gput_self,gput_ne n.symm,gput_self]
 ·rw [gput_ne q]
  by_cases r:c=a
  ·subst r;rw [gput_self,gput_self]
  ·rw [gput_ne r,gput_ne r,gput_ne q]
theorem lookup_rel{env:Env}:∀{names:List (Str×NameKind)} {x:Str} {k:NameKind},names.lookup x=some k→
  ∃k',(names.map fun (n,k)=>if (k == .free&&env.scope.kind == .function&&env.kindOf n == some .cell) then (n,NameKind.cell) else (n,k)).lookup x=some k'∧(k'=k∨(k=.free∧k'=.cell))
 | [],_,_,h=>by simp at h
 | (n,k0)::r,x,k,h=>by
  show∃k',List.lookup x ((if (k0 == NameKind.free&&env.scope.kind == .function&&env.kindOf n == some .cell)=true then (n,NameKind.cell) else (n,k0))::_)=_∧_
  cases hx:x == n with
  |true=>
   simp only [List.lookup_cons,hx]at h
   cases h
   by_cases hc:(k0 == NameKind.free&&env.scope.kind == .function&&env.kindOf n == some .cell)=true
   ·rw [if_pos hc]
    refine ⟨.cell,by simp only [List.lookup_cons,hx],.inr ⟨?_,rfl⟩⟩
    simp only [Bool.and_eq_true,beq_iff_eq]at hc
    exact hc.1.1
   ·rw [if_neg hc]
    exact ⟨k0,by simp only [List.lookup_cons,hx],.inl rfl⟩
  |false=>
   simp only [List.lookup_cons,hx]at h
   obtain ⟨k',h1,h2⟩:=lookup_rel (env:=env) h
   refine ⟨k',?_,h2⟩
   by_cases hc:(k0 == NameKind.free&&env.scope.kind == .function&&env.kindOf n == some .cell)=true
   ·rw [if_pos hc];simp only [List.lookup_cons,hx];exact h1
   ·rw [if_neg hc];simp only [List.lookup_cons,hx];exact h1
noncomputable def clOf(f:Str→Option Addr):List (Str×NameKind)→List (Str×Addr)→List (Str×Addr)
 | [],acc=>acc
 | (n,k)::r,acc=>clOf f r (if k == .free then (n,(f n).getD 0)::acc else acc)
theorem closure_clOf{env:Env}:∀(names:List (Str×NameKind)) (acc:List (Str×Addr)),(∀x∈names,x.2=.free→(env.cells.lookup x.1).isSome=true)→
  (forIn names acc fun (x:Str×NameKind) cs=>(if x.2 == .free then cellOf env x.1 >>= fun c=>pure (.yield ((x.1,c)::cs)) else pure (.yield cs):Sem (ForInStep (List (Str×Addr)))))=pure (clOf (fun n=>env.cells.lookup n) names acc)
 | [],acc,_=>rfl
 | (n,k)::r,acc,h=>by
  obtain ih:=fun acc'=>closure_clOf (env:=env) r acc' fun x hx=>h x (.tail _ hx)
  rw [List.forIn_cons]
  unfold clOf
  by_cases hk:(k == NameKind.free)=true
  ·obtain hk':k=.free:=by simpa using hk
   obtain ⟨c,hc⟩:=Option.isSome_iff_exists.mp (h (n,k) (.head _) hk')
   obtain e:cellOf env n=pure c:=by unfold cellOf;rw [hc]
   simp only [hk,if_true,e,pure_bind,hc,Option.getD_some]
   exact ih _
  ·simp only [hk,if_false,pure_bind,Bool.false_eq_true]
   exact ih _
theorem closure_eq{scope:Scope}{env:Env}(h:∀x∈scope.names,x.2=.free→(env.cells.lookup x.1).isSome=true):closureFor scope env=pure (clOf (fun n=>env.cells.lookup n) scope.names []):=by
 have:=closure_clOf (env:=env) scope.names [] h
 unfold closureFor
 first
  |exact this
  | (simp only [bind_pure];exact this)
  | (rw [bind_pure];exact this)
theorem clOf_look(f:Str→Option Addr){x:Str}{c:Addr}(hf:f x=some c):∀(names:List (Str×NameKind)) (acc:List (Str×Addr)),(names.lookup x=some .free∧(names.map (·.1)).Nodup)∨acc.lookup x=some c→(∀y a,(y,a)∈acc→y=x→a=c)→(clOf f names acc).lookup x=some c
 | [],acc,h,_=>by
  rcases h with ⟨h,_⟩ |h
  ·simp at h
  ·exact h
 | (n,k)::r,acc,h,ha=>by
  unfold clOf
  by_cases hx:n=x
  ·subst hx
   rcases h with ⟨h,hn⟩ |h
   ·simp only [List.lookup_cons,beq_self_eq_true]at h
    cases h
    simp only [beq_self_eq_true,if_true,hf,Option.getD_some]
    refine clOf_look f hf r _ (.inr (by simp)) fun y a hm e=>?_
    rcases List.mem_cons.mp hm with q |q
    ·cases q;rfl
    ·exact ha y a q e
   ·by_cases hk:(k == NameKind.free)=true
    ·simp only [hk,if_true,hf,Option.getD_some]
     refine clOf_look f hf r _ (.inr (by simp)) fun y a hm e=>?_
     rcases List.mem_cons.mp hm with q |q
     ·cases q;rfl
     ·exact ha y a q e
    ·simp only [hk,if_false,Bool.false_eq_true]
     exact clOf_look f hf r _ (.inr h) ha
  ·obtain hxn:(x == n)=false:=by simpa using fun z=>hx z.symm
   obtain h':(r.lookup x=some .free∧(r.map (·.1)).Nodup)∨acc.lookup x=some c:=by
    rcases h with ⟨h,hn⟩ |h
    ·simp only [List.lookup_cons,hxn]at h
     exact .inl ⟨h,(List.nodup_cons.mp hn).2⟩
    ·exact .inr h
   by_cases hk:(k == NameKind.free)=true
   ·simp only [hk,if_true]
    refine clOf_look f hf r _ (h'.imp id fun z=>by simp only [List.lookup_cons,hxn];exact z) fun y a hm e=>?_
    rcases List.mem_cons.mp hm with q |q
    ·cases q;exact absurd e hx
    ·exact ha y a q e
   ·simp only [hk,if_false,Bool.false_eq_true]
    exact clOf_look f hf r _ h' ha
end Mine
end
section
open PySem PySem.W PyProof.Rows PySem.Calls PySem.Spec
set_option maxHeartbeats 1000000
set_option genInjectivity false
set_option genSizeOf false
set_option genCtorIdx false
set_option bootstrap.genMatcherCode false
namespace Mine
open KTr KAttr WBin WCmp KSub KLen KSlf KSlt KSlc KMax LO WB SU KIs KApp AppL AppA ExtL ExtA KDget KTk KCel KMeth OV BT ST2 KSa KAsC WhI ForI CompI KMM KEn
section
noncomputable def Cx.comp(C:Cx)(scope:Scope)(cl:List (Str×Addr))(Lc:Addr):Cx:={C with env:=compEnvC scope cl Lc C.env,ns:=scope.names}
structure CompOk(C:Cx)(scope:Scope)(xi:Nat)(x:Str)(fr:List (Nat×Nat)):Prop where
 kind:scope.kind=.function
 nd:(scope.names.map (·.1)).Nodup
 nocell:∀y∈scope.names,y.2≠.cell
 x:scope.names[xi]?=some (x,.local)
 free:∀y∈scope.names,y.2=.free→∃p∈fr,scope.names[p.1]?=some y
 fr:∀p∈fr,∃y k,scope.names[p.1]?=some (y,.free)∧C.ns[p.2]?=some (y,k)∧C.ns.lookup y=some k∧(k=.cell∨k=.free)
theorem look_of_nodup{β:Type}{x:Str}{k:β}:∀{l:List (Str×β)} {i:Nat},(l.map (·.1)).Nodup→l[i]?=some (x,k)→l.lookup x=some k
 | (y,b)::r,0,hn,h=>by cases h;exact List.lookup_cons_self
 | (y,b)::r,i+1,hn,h=>by
  have hn':=List.nodup_cons.mp hn
  obtain h:r[i]?=some (x,k):=h
  simp only [List.lookup_cons,beq_eq_false_iff_ne.mpr fun e:x=y=>hn'.1 (e▸List.mem_map.mpr ⟨(x,k),List.mem_of_getElem? h,rfl⟩)]
  exact look_of_nodup hn'.2 h
theorem getLoc_none{mc:M}{j i:Nat}{V:V}(h:getLoc (mc.set j none) i=some V):getLoc mc i=some V:=by
 unfold getLoc at h⊢
 rw [List.getElem?_set]at h
 by_cases c:j=i
 ·rw [if_pos c]at h
  by_cases d:j<mc.length
  ·rw [if_pos d]at h;exact noS h
  ·rw [if_neg d]at h;exact noS h
 ·rw [if_neg c]at h;exact h
theorem foldl_get(m:M){i:Nat}{V:V}:∀(fr:List (Nat×Nat)) (mc:M),getLoc (fr.foldl (fun mc p=>mc.set p.1 (getLoc m p.2)) mc) i=some V→(getLoc mc i=some V)∨∃p∈fr,p.1=i∧getLoc m p.2=some V
 | [],mc,h=>.inl h
 |p::fr,mc,h=>(foldl_get m fr _ h).elim (fun (h':getLoc (mc.set p.1 (getLoc m p.2)) i=some V)=>by
   cases qm:getLoc m p.2 with
   |none=>rw [qm]at h';exact .inl (getLoc_none h')
   |some U=>rw [qm]at h';exact (getLoc_set h').elim (fun z=>.inr ⟨p,.head _,z.1.symm,z.2▸qm⟩) fun z=>.inl z.2) fun h'=>.inr (h'.imp fun q z=>⟨.tail _ z.1,z.2⟩)
theorem getLoc_rep(n i:Nat)(V:V):¬getLoc (List.replicate n none) i=some V:=fun h=>by
 unfold getLoc at h
 rw [List.getElem?_replicate]at h
 by_cases c:i<n
 ·rw [if_pos c]at h;exact noS h
 ·rw [if_neg c]at h;exact noS h
section
variable {W:Wd}{T:Tabs}{CT:CT}{C:Cx}
theorem comp_env(E:C.EnvOk){scope:Scope}{xi:Nat}{x:Str}{fr:List (Nat×Nat)}(O:CompOk C scope xi x fr)(cl:List (Str×Addr))(Lc:Addr):(C.comp scope cl Lc).EnvOk:=⟨O.kind,E.eg,E.eb,O.nd,fun y k h=>lookup_rel (env:=C.env) h⟩
theorem comp_ok{rk:Nat}(K:C.Ok W T rk)(scope:Scope)(cl:List (Str×Addr))(Lc:Addr):(C.comp scope cl Lc).Ok W T rk:=⟨K.B,K.hA,K.hf,K.hk,K.hh,K.hg,K.hd,K.hu,K.G,K.TF⟩
theorem self_of{A:Around}{I:Addr}{vs:List V}{Gd:Hp→Prop}{i:Nat}{o:Obj}{s:Shared}(it:ItK vs Gd i o)(hg:s.heap.get? I=some o)(Q:VQ)(EE:VQ)(q:Q (.ref I) s):wpAny (model W.prog W.w) A (pyIter (.ref I)) Q EE s:=
 ItK.rec (motive:=fun _ _ _ o _=>s.heap.get? I=some o→wpAny (model W.prog W.w) A (pyIter (.ref I)) Q EE s) (fun c1 c2 hg=>wpAny_pyIter_listiter ⟨_,hg,c1,c2⟩ q) (fun c1 c2 hg=>wpAny_pyIter_tupleiter ⟨_,hg,c1,c2⟩ q) (fun c1 c2 hg=>KBw.pyIter_self ⟨_,hg,c1,c2⟩ q) (fun hg=>wpAny_pyIter_rangeiter hg q) it hg
noncomputable abbrev Cx.compT(C:Cx)(scope:Scope)(Lc:Addr):Cx:=C.comp scope (clOf (fun n=>C.env.cells.lookup n) scope.names []) Lc
theorem comp_vars{scope:Scope}{xi:Nat}{x:Str}{fr:List (Nat×Nat)}(O:CompOk C scope xi x fr){Lc:Addr}{m:M}{mr mr':SM}{n:Nat}{v:Value}{V':V}(hV:VarsAt C mr m)(hv:VR v V')(hx:mr' x=some v) :
  VarsAt (C.compT scope Lc) mr' ((fr.foldl (fun mc p=>mc.set p.1 (getLoc m p.2)) (List.replicate n none)).set xi (some V')):=fun i y k h1 h2 V hg=>
 have h1:scope.names[i]?=some (y,k):=h1
 (getLoc_set hg).elim (fun z=>by
  obtain ⟨rfl,rfl⟩:=z
  rw [O.x]at h1
  cases h1
  exact ⟨v,hx,hv⟩) fun z=>(foldl_get m fr _ z.2).elim (fun w=>absurd w (getLoc_rep n i V)) fun w=>by
  refine Classical.byContradiction fun no=>?_
  obtain ⟨p,hp,rfl,e⟩:=w
  obtain ⟨y',k',f1,f2,f3,f4⟩:=O.fr p hp
  refine no ?_
  rw [f1]at h1
  cases h1
  exact ((hV p.2 y k' f2 f3 V e).c f4).imp fun c z=>⟨z.1,clOf_look _ z.2 scope.names [] (.inl ⟨look_of_nodup O.nd f1,O.nd⟩) fun _ _ hm=>absurd hm List.not_mem_nil⟩
theorem neG{G:Addr→Option Obj}{a b:Addr}{o:Obj}(h:G a=some o)(k:G b=none):a≠b:=fun e=>noS (k.symm.trans (e▸h))
theorem AtH.updG{h₀ h h':Heap}{L:Addr}{g:RG}{mF:SM}{H:Hp}{ge:Array GenState}{d:Drawn}{os:OsState}(a:AtH W h₀ L g mF H h ge d os){r:Addr}{ro ro':Obj}(e:g.G r=some ro)(hs:Heap.SameBut r h h')(hr:h'.get? r=some ro'):AtH W h₀ L (g.at r ro') mF H h' ge d os:=
 have z:=a.own.raw r ro e
 ⟨⟨a.F.ns.sameBut hs (Ne.symm z.1),fun b ob eb=>(hs.2 b (fun w=>noS (z.2.1.symm.trans (w▸eb)))).trans (a.F.keep b ob eb),a.F.above⟩,a.own.updG e hs.2 hr,a.hs⟩
theorem AtH.toH{h₀ h:Heap}{L D:Addr}{g:RG}{mF:SM}{H:Hp}{ro:Obj}{o:O}{ge:Array GenState}{d:Drawn}{os:OsState}(a:AtH W h₀ L (g.at D ro) mF H h ge d os)(gD:g.G D=none)(R:RO W ro o):H D=none∧AtH W h₀ L g mF (H.put D o) h ge d os:=
 have b:=a.it
 ⟨Option.eq_none_iff_forall_ne_some.mpr fun x e=>a.neI e rfl,a.F,⟨fun r x e=>by
  unfold Hp.put at e
  by_cases q:r=D
  ·subst q;rw [if_pos rfl]at e;exact sI e▸⟨gD,b.1,b.2.1,ro,b.2.2,R⟩
  ·rw [if_neg q]at e
   obtain c:=a.own.obj r x e
   exact ⟨(if_neg q).symm.trans c.1,c.2⟩,fun r x e=>a.own.raw r x (gput_sub gD r x e)⟩,a.hs⟩
noncomputable abbrev RG.c3(g:RG)(I D Lc:Addr)(oI oD oL:Obj):RG:=((g.at Lc oL).at D oD).at I oI
structure C3(g:RG)(I D Lc:Addr):Prop where
 nID:I≠D
 nIL:I≠Lc
 nDL:D≠Lc
 gI:g.G I=none
 gD:g.G D=none
 gL:g.G Lc=none
section
variable {g:RG}{I D Lc:Addr}{oI oD oL oD' oL':Obj}
theorem C3.of(gI:g.G I=none)(d:(g.at I oI).G D=none)(c:((g.at I oI).at D oD).G Lc=none):C3 g I D Lc:=
 have nID:I≠D:=neG gput_self d
 have nIL:I≠Lc:=neG ((gput_ne nID).trans gput_self) c
 have nDL:D≠Lc:=neG gput_self c
 ⟨nID,nIL,nDL,gI,(gput_ne nID.symm).symm.trans d,(gput_ne nIL.symm).symm.trans ((gput_ne nDL.symm).symm.trans c)⟩
variable (c:C3 g I D Lc)
include c
theorem C3.gI3:((g.at Lc oL).at D oD).G I=none:=(gput_ne c.nID).trans ((gput_ne c.nIL).trans c.gI)
theorem C3.gD2:(g.at Lc oL).G D=none:=(gput_ne c.nDL).trans c.gD
theorem C3.atD:(g.c3 I D Lc oI oD oL).G D=some oD:=(gput_ne c.nID.symm).trans gput_self
theorem C3.atL:(g.c3 I D Lc oI oD oL).G Lc=some oL:=(gput_ne c.nIL.symm).trans ((gput_ne c.nDL.symm).trans gput_self)
theorem C3.setD:(g.c3 I D Lc oI oD oL).at D oD'=g.c3 I D Lc oI oD' oL:=congrArg (RG.mk g.r) ((gput_comm c.nID).trans (congrArg (gput · I _) gput_put))
theorem C3.setL:(g.c3 I D Lc oI oD oL).at Lc oL'=g.c3 I D Lc oI oD oL':=congrArg (RG.mk g.r) ((gput_comm c.nIL).trans (congrArg (gput · I _) ((gput_comm c.nDL).trans (congrArg (gput · D _) gput_put))))
theorem C3.turn:((g.at I oI).at D oD).at Lc oL=g.c3 I D Lc oI oD oL:=congrArg (RG.mk g.r) ((congrArg (gput · Lc _) (gput_comm c.nID)).trans ((gput_comm c.nIL).trans (congrArg (gput · I _) (gput_comm c.nDL))))
end
noncomputable def CompSt(W:Wd)(C:Cx)(vs:List V)(g:RG)(I D Lc:Addr)(mF:SM)(Gd:Hp→Prop)(J:Nat→List V→Hp→Prop)(k:Nat)(s:Shared):Prop:=
 ∀R:Prop,(∀i oI oL H acc nn items,k=vs.length-i→i≤vs.length→VRs (Array.toList items) acc→At W C (g.c3 I D Lc oI (PySem.W.listOf items nn) oL) mF H s→(∃es ep,oL.data=.dict es ep∧StrKeys es)→ItK vs Gd i oI→J i acc H→R)→R
theorem comp_core(E:C.EnvOk){rk:Nat}(K:C.Ok W T rk){elt:ME}{it:MI}{xi n:Nat}{fr:List (Nat×Nat)}{x:Str}{px pos:Pos}{elte ie:Expr}{scope:Scope}(O:CompOk C scope xi x fr)(h1:SI W T CT C it ie)(hf:∀x,foldedSetIterable ie C.env x=pure x)
  (h2:∀cl Lc,SE W T CT (C.comp scope cl Lc) elt elte){use:Option (Value→Sem Unit)}{g:RG}{l:Lv C g}{H:Hp}{s:Shared}{QQ EE:VQ}{Q:V→Hp→Prop}{X:Hp→Prop}
  (a:At W C g l.mF H s)(hw:wE CT (.comp elt it xi n fr) l.m H Q X)
  (fin:∀(D Lc:Addr) (s':Shared) (H':Hp) (oL:Obj) (acc:List V),g.G Lc=none→(∃es ep,oL.data=.dict es ep∧StrKeys es)→At W C (g.at Lc oL) l.mF (H'.put D (.list acc)) s'→Q (.ref D) (H'.put D (.list acc))→
   compPostC (model W.prog W.w) C.A EE use QQ (.ref D) Lc (.ok .next) s')(hx:FinX W T C g EE X) :
  wpC (model W.prog W.w) C.A (comprehension (.ListComp elte [⟨.Name x px,ie,[],0⟩] scope pos) scope C.env (firstIterPos [⟨.Name x px,ie,[],0⟩] pos) (newList []) false (eval ie C.env) use) QQ EE s:=by
 refine Classical.byContradiction fun no=>?_
 obtain ⟨hall,hxn,hw⟩:=hw
 obtain hcells:∀y∈scope.names,y.2=.free→(C.env.cells.lookup y.1).isSome=true:=fun y hy hk=>by
  refine Classical.byContradiction fun no=>?_
  obtain ⟨p,hp,e⟩:=O.free y hy hk
  obtain ⟨y',k',f1,f2,f3,f4⟩:=O.fr p hp
  refine no ?_
  rw [e]at f1
  cases f1
  obtain ⟨V,hV⟩:=Option.isSome_iff_exists.mp (List.all_eq_true.mp hall p hp)
  exact Option.isSome_iff_exists.mpr (((l.vars p.2 y' k' f2 f3 V hV).c f4).imp fun c z=>z.2)
 refine no ?_
 refine c_comprehension rfl hf (closure_eq hcells) O.kind (fun y hy hl=>(List.mem_iff_getElem?.mp hy).elim fun i hi=>hl▸look_of_nodup O.nd hi) (h1 g l H s _ EE _ X a hw (fun I oI s1 vs Gd H1 gI a1 it1 hc=>?_) hx)
 obtain ⟨J,step,last,h0⟩:=hc
 -- the list,the block's own frame
 refine .of (wpAny_newObj_type ?_ (Nat.zero_le _))
 obtain d:=a1.newR (h':=s1.heap.push (PySem.W.listOf #[] 0)) (fun b o e=>Heap.get?_push_of_some _ e) (Heap.get?_push_size _ rfl)
 refine .of (wpAny_newFunctionEnv O.nocell (fun y hy=>absurd hy List.not_mem_nil) (fun h3 hn3 hsb3=>?_) O.kind)
 refine Classical.byContradiction fun no=>?_
 obtain ⟨oL,es,ep,hL,hLd,hLk,hLf⟩:=hn3
 have c:=d.2.newR (h':=h3) (fun b o e=>(hsb3.2 b (Nat.ne_of_lt (Heap.lt_size e))).trans (Heap.get?_push_of_some _ e)) hL
 generalize (s1.heap.push (PySem.W.listOf #[] 0)).objs.size=Lc at *
 generalize s1.heap.objs.size=D at *
 have z:=C3.of gI d.1 c.1
 have a3:=z.turn▸c.2
 refine no ?_
 -- the loop
 refine codeC_compStart (codeC_compLoop (CompSt W C vs g I D Lc l.mF Gd J) (fun k s2 h=>h _ fun i oI2 oL2 H2 acc nn items hk hi hvs a4 ns2 it2 hJ=>?_) vs.length
  fun R z=>z 0 oI oL H1 [] 0 #[] rfl (Nat.zero_le _) .nil a3 ⟨es,ep,hLd,hLk⟩ it1 h0) fun Q' E' q=>self_of it1 a3.it.2.2 Q' E' q
 obtain hGd:Gd H2:=(Nat.lt_or_eq_of_le hi).elim (fun q=>(step i _ acc H2 (List.getElem?_eq_getElem q) hJ).1) fun q=>(last acc H2 (q▸hJ)).1
 refine .of (next_of K.hh a4 z.gI3 it2 hGd hi (fun x' hx2 v h' tk o' hv a5 it'=>?_) fun hnone h' tk a5=>?_)
 ·obtain ⟨_,hlen,hC⟩:=step i x' acc H2 hx2 hJ
  have lt:=(List.getElem?_eq_some_iff.mp hx2).1
  refine .of (wpAny_pure ?_)
  refine Classical.byContradiction fun no=>?_
  obtain ⟨es2,ep2,n1,n2⟩:=ns2
  refine no ?_
  refine .of (assign_Name (wpAny_storeName_local (env:=(C.compT scope Lc).env) (m:=fun n=>nsFind es2 n) ((comp_env E O _ Lc).loc (look_of_nodup O.nd O.x)) ⟨oL2,es2,ep2,(a5.own.raw Lc oL2 z.atL).2.2,n1,n2,fun _=>rfl⟩ (fun h4 hn4 hsb4=>?_) (by rw [show (C.compT scope Lc).env.scope.kind=.function from O.kind];rfl)))
  refine Classical.byContradiction fun no=>?_
  obtain ⟨oL3,es3,ep3,hL3,m1,m2,m3⟩:=hn4
  obtain a6:=z.setL▸a5.updG z.atL hsb4 hL3
  refine no ?_
  refine h2 _ Lc (g.c3 I D Lc o' (PySem.W.listOf items nn) oL3) ⟨l.mF,fun y=>if y=x then some v else nsFind es2 y,_,fun h n k=>⟨oL3,es3,ep3,k Lc oL3 z.atL,m1,m2,m3⟩,comp_vars O l.vars hv (if_pos rfl)⟩ H2 {s2 with heap:=h4,toks:=tk+1} _ (fun _ _=>False) _ _ a6 hC (fun w y s5 H5 a7 hwy hQ5=>?_) fun _ _ _ _ _ hX=>hX
  obtain hD:=a7.own.raw D _ z.atD
  refine .of (append_at hD.2.2 (fun h7 hs7 hr7=>⟨vs.length-(i+1),hk▸Nat.sub_lt_sub_left lt (Nat.lt_succ_self i),fun R u=>u (i+1) o' oL3 H5 (acc++[y]) (nn+1) (items.push w) rfl lt (by rw [Array.toList_push];exact hvs.append (.cons hwy .nil)) (z.setD▸a7.updG z.atD hs7 hr7) ⟨es3,ep3,m1,m2⟩ it' hQ5⟩) (by simp only [sizeL];have hsz:items.size=acc.length:=hvs.length;omega))
 ·obtain e:=Nat.le_antisymm hi (List.getElem?_eq_none_iff.mp hnone)
  obtain y:=a5.toH z.gD2 (.list hvs)
  exact fin D Lc {s2 with heap:=h',toks:=tk} H2 oL2 acc z.gL ns2 y.2 ((last acc H2 (e▸hJ)).2 D y.1)
end
end
end Mine
end
section
open PySem PySem.W PyProof.Rows PySem.Calls PySem.Spec
set_option bootstrap.genMatcherCode false
namespace Mine
section
section
variable {W:Wd}{T:Tabs}{CT:CT}{C:Cx}
theorem ns_obj{h:Heap}{a:Addr}{o:Obj}(hg:h.get? a=some o)(hn:∃es ep,o.data=.dict es ep∧StrKeys es):∃m,h.Ns a m:=
 hn.elim fun es z=>z.elim fun ep z=>⟨fun n=>nsFind es n,o,es,ep,hg,z.1,z.2,fun _=>rfl⟩
theorem AtH.leaveL{h₀ h h':Heap}{L r:Addr}{g:RG}{o:Obj}{mF:SM}{H:Hp}{ge:Array GenState}{d:Drawn}{os:OsState}(a:AtH W h₀ L (g.at r o) mF H h ge d os)(gr:g.G r=none)(hs:Heap.SameBut r h h'):AtH W h₀ L g mF H h' ge d os:=
 a.leave (fun b x hb e=>(hs.2 b fun q=>hb (List.mem_singleton.mpr q)).trans e) gr
theorem se_comp(E:C.EnvOk){rk:Nat}(K:C.Ok W T rk){elt:ME}{it:MI}{xi n:Nat}{fr:List (Nat×Nat)}{x:Str}{px pos:Pos}{elte ie:Expr}{scope:Scope}(O:CompOk C scope xi x fr)(h1:SI W T CT C it ie)(hf:∀x,foldedSetIterable ie C.env x=pure x)
  (h2:∀cl Lc,SE W T CT (C.comp scope cl Lc) elt elte):SE W T CT C (.comp elt it xi n fr) (.ListComp elte [⟨.Name x px,ie,[],0⟩] scope pos):=fun g l H s QQ EE Q X a hw hq hx=>by
 rw [eval_ListComp]
 exact comp_core E K O h1 hf h2 (use:=none) a hw (fun D Lc s' H' oL acc gL hn a' hQ=>(ns_obj a'.it.2.2 hn).imp fun mm hmm=>⟨hmm,fun h' hsb=>hq _ _ {s' with heap:=h'} _ (a'.leaveL gL hsb) (.ref D) hQ⟩) hx
theorem ss_asg_comp(E:C.EnvOk){rk:Nat}(K:C.Ok W T rk){elt:ME}{it:MI}{i xi n:Nat}{fr:List (Nat×Nat)}{x y:Str}{px py cpos pos:Pos}{elte ie:Expr}{scope:Scope}(O:CompOk C scope xi x fr)(h1:SI W T CT C it ie)(hf:∀x,foldedSetIterable ie C.env x=pure x)
  (h2:∀cl Lc,SE W T CT (C.comp scope cl Lc) elt elte)(hy1:C.ns[i]?=some (y,.local))(hy2:C.ns.lookup y=some .local) :
  SS W T CT C (.asg i (.comp elt it xi n fr)) (.Assign [.Name y py] (.ListComp elte [⟨.Name x px,ie,[],0⟩] scope cpos) pos):=fun g l H s QQ EE Q X a hw hp hq hx=>by
 show wpC _ _ (do
  standAt pos
  if←swapsWith (.ListComp elte [⟨.Name x px,ie,[],0⟩] scope cpos) (some (.Name y py)) pos.line C.env then
   evalThenUse (.ListComp elte [⟨.Name x px,ie,[],0⟩] scope cpos) C.env (assign (.Name y py) C.env)
   return .next
  let v←eval (.ListComp elte [⟨.Name x px,ie,[],0⟩] scope cpos) C.env
  standAt py
  bindName C.env y v
  pure .next) QQ EE s
 refine cbind (cstand ?_)
 refine cbind (wpC_of_eq (a:=(C.env.blockKind == .function&&C.env.kindOf y == some .local&&py.line == cpos.line && !(scope.names.any fun (n,k)=>n == y&&(k == .local||k == .cell)))) rfl ?_)
 split
 ·show wpC _ _ ((comprehension (.ListComp elte [⟨.Name x px,ie,[],0⟩] scope cpos) scope C.env (firstIterPos [⟨.Name x px,ie,[],0⟩] cpos) (newList []) false (eval ie C.env) (some (assign (.Name y py) C.env)) >>= fun _=>pure ()) >>= fun _=>pure .next) QQ EE s
  exact cbind (cbind (comp_core E K O h1 hf h2 (l:=l.v) (use:=some (assign (.Name y py) C.env)) a hw (fun D Lc s' H' oL acc gL hn a' hQ=>.of (assign_Name (store_loc E hy1 hy2 (.ref D) a' fun s2 a2=>
   (ns_obj a2.it.2.2 hn).imp fun mm hmm=>⟨hmm,fun h' hsb=>cpure (cpure (hq .next .next _ {s2 with heap:=h'} _ (a2.leaveL gL hsb) .next hQ))⟩))) hx))
 ·exact cbind (se_comp E K O h1 hf h2 g l.v H s _ EE _ X a hw (fun v V s1 H1 a1 hv hw1=>cbind (cstand (cbind (c_bindName (.of (store_loc E hy1 hy2 hv a1 fun s' a'=>cpure (hq .next .next _ s' H1 a' .next hw1))))))) hx)
end
end
end Mine
end
section
open PySem PySem.W PyProof.Rows PySem.Calls PySem.Spec
set_option genInjectivity false
set_option genSizeOf false
set_option genCtorIdx false
set_option bootstrap.genMatcherCode false
namespace Mine
structure Plain(p:Arguments):Prop where
 posonly:p.posonlyargs=[]
 vararg:p.vararg=none
 kwonly:p.kwonlyargs=[]
 kwarg:p.kwarg=none
theorem look_ne{β:Type}{n a:Str}{v:β}{l:List (Str×β)}(h:n≠a):((a,v)::l).lookup n=l.lookup n:=by rw [List.lookup_cons,beq_eq_false_iff_ne.mpr h]
theorem look_zip{n:Str}:∀{ns:List Str} {vs:List Value},ns.length=vs.length→n∈ns→((ns.zip vs).lookup n).isSome=true
 | [],_,_,h=>absurd h List.not_mem_nil
 |a::ns,[],h,_=>nomatch h
 |a::ns,v::vs,h,hn=>by
  rw [List.zip_cons_cons]
  by_cases q:n=a
  ·rw [q,List.lookup_cons_self];rfl
  ·rw [look_ne q];exact look_zip (Nat.succ.inj h) ((List.mem_cons.mp hn).resolve_left q)
theorem fm_congr{α β:Type}{f g:α→Option β}:∀{l:List α},(∀x∈l,f x=g x)→l.filterMap f=l.filterMap g
 | [],_=>rfl
 |x::l,h=>by rw [List.filterMap_cons,List.filterMap_cons,h x (.head _),fm_congr fun y hy=>h y (.tail _ hy)]
theorem zip_back:∀{ns:List Str} {vs:List Value},ns.length=vs.length→ns.Nodup→ns.filterMap (fun n=>((ns.zip vs).lookup n).map (n,·))=ns.zip vs
 | [],_,_,_=>rfl
 |a::ns,[],h,_=>nomatch h
 |a::ns,v::vs,h,hn=>by
  have hn':=List.nodup_cons.mp hn
  rw [List.zip_cons_cons,List.filterMap_cons,List.lookup_cons_self]
  refine congrArg (_::·) (Eq.trans (fm_congr fun n hm=>?_) (zip_back (ns:=ns) (vs:=vs) (Nat.succ.inj h) hn'.2))
  rw [look_ne fun e:n=a=>hn'.1 (e▸hm)]
theorem look_none_zip{n:Str}:∀{ns:List Str} {vs:List Value},n∉ns→(ns.zip vs).lookup n=none
 | [],_,_=>rfl
 |_::_,[],_=>rfl
 |a::ns,v::vs,h=>(look_ne fun e=>h (List.mem_cons.mpr (.inl e))).trans (look_none_zip fun q=>h (.tail _ q))
theorem look_app_none{S:List (Str×Value)}{n a:Str}{v:Value}(h:S.lookup n=none)(hn:n≠a):(S++[(a,v)]).lookup n=none:=by
 induction S with
 |nil=>exact look_ne hn
 |cons p S ih=>
  by_cases q:n=p.1
  ·subst q;exact noS (h.symm.trans List.lookup_cons_self)
  ·exact (look_ne q).trans (ih ((look_ne q).symm.trans h))
theorem forIn_app{f:(Str×Value)→List (Str×Value)→Sem (ForInStep (List (Str×Value)))}(hf:∀p S,S.lookup p.1=none→f p S=pure (.yield (S++[p]))) :
  ∀{B:List (Str×Value)} {S:List (Str×Value)},(B.map (·.1)).Nodup→(∀p∈B,S.lookup p.1=none)→forIn B S f=pure (S++B)
 | [],S,_,_=>by simp
 |p::B,S,hn,hS=>by
  obtain hn':=List.nodup_cons.mp hn
  rw [List.forIn_cons,hf p S (hS p (.head _)),pure_bind]
  have:=forIn_app hf (B:=B) (S:=S++[p]) hn'.2 fun q hq=>look_app_none (hS q (.tail _ hq)) fun e=>hn'.1 (List.mem_map.mpr ⟨q,hq,e⟩)
  show forIn B (S++[p]) f=_
  simp only [this,List.append_assoc];rfl
theorem zip_take:∀(ns:List Str) (vals:List Value),ns.zip vals=(ns.take vals.length).zip vals
 | [],_=>by simp
 |_::_,[]=>by simp
 |a::ns,v::vs=>by simp only [List.zip_cons_cons,List.length_cons,List.take_succ_cons,List.zip_cons_cons,zip_take ns vs]
theorem forIn_two{f:(Str×Value)→List (Str×Value)→Sem (ForInStep (List (Str×Value)))}{c:List (Str×Value)}{B:List (Str×Value)}:∀{A:List (Str×Value)},(∀x∈A,f x c=pure (.yield c))→forIn (A++B) c f=forIn B c f
 | [],_=>rfl
 |x::A,h=>by
  rw [List.cons_append,List.forIn_cons,h x (.head _),pure_bind]
  exact forIn_two fun y hy=>h y (.tail _ hy)
theorem slots_of{ns:List Str}{vals ds ws:List Value}(hnd:ns.Nodup)(hle:ds.length≤ns.length)(hlen:vals.length+ws.length=ns.length)(hws:ds.drop (ds.length-ws.length)=ws) :
  forIn ((ns.drop (ns.length-ds.length)).zip ds) (ns.zip vals) (fun (x:Str×Value) (r:List (Str×Value))=>(if (List.lookup x.1 r).isNone=true then pure (ForInStep.yield (r++[(x.1,x.2)])) else pure (ForInStep.yield r):Sem (ForInStep (List (Str×Value)))))=pure (ns.zip (vals++ws)):=by
 have hwl:ws.length≤ds.length:=by
  have:=congrArg List.length hws
  rw [List.length_drop]at this;exact lz [_,_,_,_] [] 6607679535323816980958488700482944 rfl sLe (Nat.sub_le _ _) (Nat.sub_add_cancel (lz [_,_,_] [] 1647706281752821851392 rfl this (Nat.sub_le _ _)))
 obtain esplit:(ns.drop (ns.length-ds.length)).zip ds=((ns.drop (ns.length-ds.length)).take (ds.length-ws.length)).zip (ds.take (ds.length-ws.length))++(ns.drop vals.length).zip ws:=by
  obtain a1:ns.drop (ns.length-ds.length)=(ns.drop (ns.length-ds.length)).take (ds.length-ws.length)++ns.drop vals.length:=by
   have:=(List.take_append_drop (ds.length-ws.length) (ns.drop (ns.length-ds.length))).symm
   rw [List.drop_drop]at this
   have e:ns.length-ds.length+(ds.length-ws.length)=vals.length:=by exact lz [_,_,_,_,_,_] [] 446501436835680484775653770469561915276613186 rfl hlen (Nat.sub_add_cancel (lz [_,_] [] 1464728900864 rfl hle)) (Nat.sub_add_cancel (lz [_,_] [] 1464728900864 rfl hwl))
   rw [e]at this;exact this
  have a2:ds=ds.take (ds.length-ws.length)++ws:=by
   conv=>lhs;rw [←List.take_append_drop (ds.length-ws.length) ds]
   rw [hws]
  conv=>lhs;rw [a1];arg 2;rw [a2]
  rw [List.zip_append (by simp only [List.length_take,List.length_take,List.length_drop];exact lz [_,_,_] [] 1646553360248248554882 rfl (Nat.min_eq_left (lz [_,_,_,_,_,_] [] 32320310472425588720260911853025453632 rfl (Nat.sub_add_cancel (lz [_,_] [] 1464728900864 rfl hwl)) sLe (Nat.sub_add_cancel (lz [_,_] [] 1464728900864 rfl hle)))) (Nat.min_eq_left (lz [_,_,_] [] 6281142005486848 rfl (Nat.sub_add_cancel (lz [_,_] [] 1464728900864 rfl hwl)))))]
 obtain eslots:ns.zip vals++(ns.drop vals.length).zip ws=ns.zip (vals++ws):=by
  conv=>rhs;rw [←List.take_append_drop vals.length ns]
  rw [List.zip_append (by rw [List.length_take];exact lz [_,_] [] 93744181630210 rfl (Nat.min_eq_left (lz [_,_,_] [] 6281142005486848 rfl hlen)))]
  rw [←zip_take]
 have hin:∀x∈((ns.drop (ns.length-ds.length)).take (ds.length-ws.length)).zip (ds.take (ds.length-ws.length)),((ns.zip vals).lookup x.1).isSome=true:=by
  intro x hx
  have h1:x.1∈(ns.drop (ns.length-ds.length)).take (ds.length-ws.length):=(List.of_mem_zip hx).1
  have h2:x.1∈ns.take vals.length:=by
   rw [List.take_drop]at h1
   have e:ns.length-ds.length+(ds.length-ws.length)=vals.length:=by exact lz [_,_,_,_,_,_] [] 446501436835680484775653770469561915276613186 rfl hlen (Nat.sub_add_cancel (lz [_,_] [] 1464728900864 rfl hle)) (Nat.sub_add_cancel (lz [_,_] [] 1464728900864 rfl hwl))
   rw [e]at h1
   exact List.mem_of_mem_drop h1
  rw [zip_take ns vals]
  exact look_zip (by rw [List.length_take];exact lz [_,_] [] 93744181630210 rfl (Nat.min_eq_left (lz [_,_,_] [] 6281142005486848 rfl hlen))) h2
 rw [esplit,forIn_two fun x hx=>?_]
 ·rw [←eslots]
  obtain hdn:(ns.drop vals.length).Nodup:=hnd.sublist (List.drop_sublist _ _)
  obtain hm:((ns.drop vals.length).zip ws).map (·.1)=ns.drop vals.length:=by
   rw [List.map_fst_zip];rw [List.length_drop];exact lz [_,_,_,_] [] 26444669781280452615946454464 rfl hlen (Nat.sub_add_cancel (lz [_,_,_] [] 6281142005486848 rfl hlen))
  refine forIn_app (fun p S h=>?_) (by rw [hm];exact hdn) fun p hp=>?_
  ·rw [h];rfl
  ·rw [zip_take]
   refine look_none_zip fun q=>?_
   obtain h1:p.1∈ns.drop vals.length:=(List.of_mem_zip hp).1
   have:=hnd
   rw [←List.take_append_drop vals.length ns,List.nodup_append]at this
   exact this.2.2 _ q _ h1 rfl
 ·have:=hin x hx
  rw [if_neg]
  simp only [Option.isNone_iff_eq_none]
  intro q;rw [q]at this;exact nomatch this
theorem miss_of{ns:List Str}{vals ds ws:List Value}(hle:ds.length≤ns.length)(hlen:vals.length+ws.length=ns.length)(hws:ds.drop (ds.length-ws.length)=ws) :
  ((ns.take (ns.length-ds.length)).filter fun n=>((ns.zip vals).lookup n).isNone)=[]:=by
 have hwl:ws.length≤ds.length:=by
  have:=congrArg List.length hws
  rw [List.length_drop]at this;exact lz [_,_,_,_] [] 6607679535323816980958488700482944 rfl sLe (Nat.sub_le _ _) (Nat.sub_add_cancel (lz [_,_,_] [] 1647706281752821851392 rfl this (Nat.sub_le _ _)))
 rw [List.filter_eq_nil_iff]
 intro n hn
 have h1:n∈ns.take vals.length:=List.mem_of_mem_take (i:=ns.length-ds.length) (by
  rw [List.take_take,Nat.min_eq_left (by exact lz [_,_,_,_,_] [] 423223268088734024022685640875668992 rfl hlen hwl (Nat.sub_add_cancel (lz [_,_] [] 1464728900864 rfl hle)))];exact hn)
 have e1:=zip_take ns vals
 have:=look_zip (ns:=ns.take vals.length) (vs:=vals) (by rw [List.length_take];exact lz [_,_] [] 93744181630210 rfl (Nat.min_eq_left (lz [_,_,_] [] 6281142005486848 rfl hlen))) h1
 rw [←e1]at this
 simp only [Option.isNone_iff_eq_none]
 intro q;rw [q]at this;exact nomatch this
theorem binds_of{s:Shared}{fd:FuncData}{args:List Arg}{kd:List (Option Expr)}{df:List Expr}{ns:List Str}{vals ws ds:List Value}{x:Option (Array Value)}(e:fd.params=⟨[],args,none,[],kd,none,df⟩)(hns:args.map (·.arg)=ns)(hnd:ns.Nodup)
  (hseq:∀{M:Model} {A:Around} {E:VQ} {Q:Option (Array Value)→Shared→Prop},Q x s→wpAny M A (seqItems? fd.defaults) Q E s)(hds:(x.getD #[]).toList=ds)(hle:ds.length≤ns.length)(hlen:vals.length+ws.length=ns.length)
  (hws:ds.drop (ds.length-ws.length)=ws):BindsTo s fd ⟨vals,[]⟩ (ns.zip (vals++ws)):=by
 subst hns hds
 intro M A E Q hq
 have e0:(x.getD #[]).toList.drop ((x.getD #[]).toList.length-(args.map (·.arg)).length)=(x.getD #[]).toList:=by rw [Nat.sub_eq_zero_of_le hle,List.drop_zero]
 unfold bindArgs
 rw [e]
 refine wpAny_bind (wpAny_of_eq rfl (wpAny_bind (hseq (a_if_false ?_ (a_if_false ?_ (wpAny_bind (wpAny_of_eq (a:=((args.map (·.arg)).zip (vals++ws))) ?_ (wpAny_bind (wpAny_of_eq rfl (a_if_false rfl (wpAny_pure ?_)))))))))))
 ·exact congrArg (fun z=>z&&true) (decide_eq_false (Nat.not_lt.mpr (hlen▸Nat.le_add_right _ _)))
 ·exact congrArg (fun z => !List.isEmpty z) (e0.symm▸miss_of hle hlen hws)
 ·exact e0.symm▸slots_of hnd hle hlen hws
 ·have z:=zip_back (ns:=args.map (·.arg)) (vs:=vals++ws) (hlen▸List.length_append.symm) hnd
  exact (show Q ((args.map (fun a:Arg=>a.arg)++[]).filterMap _) s by rw [List.append_nil];exact z.symm▸hq)
end Mine
end
section
open PySem PySem.W PyProof.Rows PySem.Calls PySem.Spec
set_option bootstrap.genMatcherCode false
namespace Mine
section
section
variable {M:Model}{A:Around}{EE:VQ}{s':Shared}{base g h:Heap}{outer:List Env}{L e:Addr}{m:SM}{env:Env}{Q:Unit→Shared→Prop}{news:List (Addr×Obj)}{oe:Obj}{vs:Array Value}{cls:Value}
theorem leave_made(K:Below A base outer g)(hf:env.frame=some L)(hk:env.scope.kind=.function)(F:Fr g L h m)(N:News g L h news)(hkeep:∀b o,h.get? b=some o→s'.heap.get? b=some o)(hnew:h.get? e=none)(he:s'.heap.get? e=some oe)
  (hc:oe.cls=cls)(hd:oe.data=.fields vs)(h1:vs[1]?=some .none)(h0:0<vs.size)
  (hQ:∀h',RaisedN base outer e cls news h'→g.UpToSlots h'→Q () {s' with heap:=h'}):wpAny M (A.deeper env) (leaving env (.ref e)) Q EE s':=
 have K':=pushX K F hf hk
 have st:base.StaysIn (hideAll h ((env::outer).filterMap (·.frame))):=fun b o q=>hideAll_get _ (K'.stays b o q) fun hm=>noS ((K'.frames.mem hm).1.symm.trans q)
 have hl:∀q∈news,(hideAll h ((env::outer).filterMap (·.frame))).get? q.1=some q.2∧base.get? q.1=none:=fun q hq=>⟨hideAll_get _ (N q hq).1 fun hm=>(List.mem_filterMap.mp hm).elim fun env' z=>(List.mem_cons.mp z.1).elim
  (fun e'=>(N q hq).2.1 (Option.some.inj (hf.symm.trans (e'▸z.2))).symm) fun he'=>(K.frames.mem (List.mem_filterMap.mpr ⟨env',he',z.2⟩)).2.elim fun o y=>noS ((N q hq).2.2.symm.trans y.1),fresh_of_stays K.stays (N q hq).2.2⟩
 have hen:(hideAll h ((env::outer).filterMap (·.frame))).get? e=none:=Option.eq_none_iff_forall_ne_some.mpr fun o q=>noS (hnew.symm.trans (of_hideAll _ q))
 wpAny_leaving_firstW (a0:=vs[0]) K'.stack ((funFrames_hide K'.frames fun env' he b hb=>List.mem_filterMap.mpr ⟨env',he,hb⟩).of_keeps fun b o hb _=>⟨o,hkeep b o hb,rfl⟩) hf he (fun b o hb=>hkeep b o (of_hideAll _ hb)) hen hd h1 (Array.getElem?_eq_getElem h0) fun h' hL=>
  hQ h' ⟨_,_,st,hl,hL.1,hen,hL.2.1.2.2,hc▸hL.2.2.1⟩ (((Heap.UpToSlots.of_keeps F.keep).trans (Heap.UpToSlots.of_keeps hkeep)).trans hL.2.2.2)
theorem leave_come{g₂:Heap}(K:Below A base outer g)(hf:env.frame=some L)(F:Fr g L g₂ m)(R:RaisedN base (env::outer) e cls news s'.heap)(hsm:g₂.UpToSlots s'.heap)
  (hQ:∀h',RaisedN base outer e cls news h'→g.UpToSlots h'→Q () {s' with heap:=h'}):wpAny M (A.deeper env) (leaving env (.ref e)) Q EE s':=
 R.elim fun B z=>z.elim fun a0 z=>wpAny_leaves_onW (Around.frames_deeper K.stack) hf z.2.2 fun h' x1 x2=>hQ h' ⟨B,a0,z.1,z.2.1,x1⟩ ((Heap.UpToSlots.of_keeps F.keep).trans (hsm.trans x2))
end
noncomputable def Cx.into(C:Cx)(g:Heap)(L':Addr)(env':Env)(ns:List (Str×NameKind)):Cx:=
 {A:=C.A.deeper env',A₀:=C.A,base:=C.base,h₀:=g,outer:=C.top::C.outer,top:=env',L:=L',env:=env',ns:=ns}
section
variable {W:Wd}{T:Tabs}{C:Cx}
theorem into_ok{rk:Nat}(K:C.Ok W T (rk+1)){g:Heap}{L':Addr}{env':Env}{ns:List (Str×NameKind)}{mF:SM}(B:Below C.A C.base (C.top::C.outer) g)(F:Fr C.h₀ C.L g mF)(hf:env'.frame=some L')(hk:env'.scope.kind=.function):(C.into g L' env' ns).Ok W T rk:=
 ⟨B,Around.frames_deeper K.hA,hf,hk,K.hh,K.hg,by have:=K.hd;show C.A.depth+1+4*rk<900;exact lz [_,_] [] 622432489609019413006367730908623179410990089473 rfl this,by have:=K.hu;show C.A.units+3+10*rk<9000;exact lz [_,_] [] 605306290418087486075635562765822950783619376385 rfl this,K.G.keeps F.keep,K.TF⟩
theorem own_up{g:Heap}{L':Addr}{h:Heap}{H:Hp}{G:Addr→Option Obj}{mF:SM}(FG:Fr C.h₀ C.L g mF)(K:Own W g L' h H G):Own W C.h₀ C.L h H G:=
 FG.ns.elim fun oL z=>z.elim fun _ z=>z.elim fun _ z=>
 have key:∀a,g.get? a=none→a≠C.L∧C.h₀.get? a=none:=fun a e=>⟨fun q=>noS (e.symm.trans (q▸z.1)),Option.eq_none_iff_forall_ne_some.mpr fun o q=>noS (e.symm.trans (FG.keep _ _ q))⟩
 ⟨fun a o e=>have y:=K.obj a o e;have k:=key a y.2.2.1;⟨y.1,k.1,k.2,y.2.2.2⟩,fun a ro e=>have y:=K.raw a ro e;have k:=key a y.2.1;⟨k.1,k.2,y.2.2⟩⟩
theorem leave_at{g:Heap}{L':Addr}{env':Env}{ns:List (Str×NameKind)}{mF:SM}{G:Addr→Option Obj}{H:Hp}{e:Value}{s':Shared}{M:Model}{QQ:Unit→Shared→Prop}{EX:VQ}(B:Below C.A C.base (C.top::C.outer) g)(FG:Fr C.h₀ C.L g mF)(hf:env'.frame=some L')(hk:env'.scope.kind=.function)
  (t:Thr W T (C.into g L' env' ns) G e s'.heap H)(hE:∀a h h',e=.ref a→Own W C.h₀ C.L h H G→g.UpToSlots h'→RaisedN C.base (C.top::C.outer) a (.ref T.ff) (ledger h H G) h'→QQ () {s' with heap:=h'}):wpAny M (C.A.deeper env') (leaving env' e) QQ EX s':=
 ThrH.rec (motive:=fun e h H _=>s'.heap=h→(∀a h h',e=.ref a→Own W C.h₀ C.L h H G→g.UpToSlots h'→RaisedN C.base (C.top::C.outer) a (.ref T.ff) (ledger h H G) h'→QQ () {s' with heap:=h'})→wpAny M (C.A.deeper env') (leaving env' e) QQ EX s')
  (fun a1 a2 a3 a4 a5 a6 a7 a8 a9 eh hE=>leave_made B hf hk a1 a2.news (eh▸a3) a4 (eh▸a5) a6 a7 a8 a9 fun h' R u=>hE _ _ h' rfl (own_up FG a2) u R)
  (fun a1 a2 a3 a4 eh hE=>leave_come B hf a1 (eh▸a4) (eh▸a2) fun h' R u=>hE _ _ h' rfl (own_up FG a3) u R) t rfl hE
theorem leave_thr{g:Heap}{L':Addr}{env':Env}{ns:List (Str×NameKind)}{mF:SM}{G:Addr→Option Obj}{H:Hp}{e:Value}{s':Shared}{M:Model}{EE EX:VQ}(B:Below C.A C.base (C.top::C.outer) g)(FG:Fr C.h₀ C.L g mF)(hf:env'.frame=some L')(hk:env'.scope.kind=.function)
  (t:Thr W T (C.into g L' env' ns) G e s'.heap H)(hE:∀h',Thr W T C G e h' H→EE e {s' with heap:=h'}):wpAny M (C.A.deeper env') (leaving env' e) (fun _ s''=>EE e s'') EX s':=
 leave_at B FG hf hk t fun a h h' q O u R=>hE h' (q▸.come FG u O R)
end
end
end Mine
end
section
open PySem PySem.W PyProof.Rows PySem.Calls PySem.Spec
set_option genInjectivity false
set_option genSizeOf false
set_option genCtorIdx false
set_option bootstrap.genMatcherCode false
namespace Mine
section
theorem cellsFrom_spec{lo:Nat}:∀(names:List (Str×NameKind)) (n:Nat) (acc:List (Str×Addr)),lo≤n→(∀p∈acc,lo≤p.2∧p.2<n)→acc.Pairwise (fun x y=>x.2≠y.2)→
  (∀p∈cellsFrom n names acc,lo≤p.2)∧(cellsFrom n names acc).Pairwise fun x y=>x.2≠y.2
 | [],n,acc,_,h,hp=>⟨fun p m=>(h p m).1,hp⟩
 | (x,k)::r,n,acc,hl,h,hp=>by
  unfold cellsFrom
  split
  ·refine cellsFrom_spec r (n+1) _ (Nat.le_succ_of_le hl) (fun p m=>?_) (.cons (fun y hy=>Nat.ne_of_gt (h y hy).2) hp)
   rcases List.mem_cons.mp m with rfl |m
   ·exact ⟨hl,Nat.lt_succ_self n⟩
   ·exact ⟨(h p m).1,Nat.lt_succ_of_lt (h p m).2⟩
  ·exact cellsFrom_spec r n acc hl h hp
theorem cellsFrom_mem{x:Str}:∀(names:List (Str×NameKind)) (n:Nat) (acc:List (Str×Addr)),x∈(cellsFrom n names acc).map (·.1)↔x∈acc.map (·.1)∨(x,.cell)∈names
 | [],n,acc=>⟨.inl,fun h=>h.elim id fun h=>absurd h List.not_mem_nil⟩
 | (y,k)::r,n,acc=>by
  unfold cellsFrom
  by_cases q:k=.cell
  ·subst q
   exact (cellsFrom_mem r (n+1) ((y,n)::acc)).trans ⟨fun h=>h.elim (fun h=>(List.mem_cons.mp h).elim (fun e=>.inr (e▸.head _)) .inl) fun h=>.inr (.tail _ h),
    fun h=>h.elim (fun h=>.inl (.tail _ h)) fun h=>(List.mem_cons.mp h).elim (fun e=>.inl ((Prod.mk.inj e).1▸.head _)) .inr⟩
  ·rw [if_neg fun e=>q (beq_iff_eq.mp e)]
   exact (cellsFrom_mem r n acc).trans ⟨fun h=>h.imp_right (.tail _),fun h=>h.imp_right fun h=>(List.mem_cons.mp h).resolve_left fun e=>q (Prod.mk.inj e).2.symm⟩
theorem look_isSome{β:Type}{x:Str}:∀{l:List (Str×β)},x∈l.map (·.1)→(l.lookup x).isSome=true
 | [],h=>absurd h List.not_mem_nil
 | (y,d)::r,h=>by
  by_cases q:x=y
  ·rw [q,List.lookup_cons_self];rfl
  ·rw [look_ne q];exact look_isSome ((List.mem_cons.mp h).resolve_left q)
theorem bindL_ne{kindOf:Str→Option NameKind}:∀{binds:List (Str×Value)} {m:SM} {x:Str},x∉binds.map (·.1)→bindL kindOf binds m x=m x
 | [],_,_,_=>rfl
 | (n,v)::r,m,x,h=>by
  unfold bindL
  rw [bindL_ne fun q=>h (.tail _ q)]
  split
  ·dsimp only;rw [if_neg fun q=>h (by rw [q];exact .head _)]
  ·rfl
theorem bindC_ne{kindOf:Str→Option NameKind}:∀{binds:List (Str×Value)} {m:SM} {x:Str},x∉binds.map (·.1)→bindC kindOf binds m x=m x
 | [],_,_,_=>rfl
 | (n,v)::r,m,x,h=>by
  unfold bindC
  rw [bindC_ne fun q=>h (.tail _ q)]
  split
  ·rfl
  ·dsimp only;rw [if_neg fun q=>h (by rw [q];exact .head _)]
theorem bindL_at{kindOf:Str→Option NameKind}{x:Str}{v:Value}(hk:kindOf x=some .local){binds:List (Str×Value)}:∀{m:SM} {i:Nat},(binds.map (·.1)).Nodup→binds[i]?=some (x,v)→bindL kindOf binds m x=some v:=by
 induction binds with
 |nil=>intro m i hn h;cases h
 |cons p r ih=>
  intro m i hn h
  cases i with
  |zero=>cases h;unfold bindL;rw [bindL_ne (List.nodup_cons.mp hn).1,if_pos hk];exact if_pos rfl
  |succ i=>exact ih (List.nodup_cons.mp hn).2 h
theorem bindC_at{kindOf:Str→Option NameKind}{x:Str}{v:Value}(hk:kindOf x≠some .local){binds:List (Str×Value)}:∀{m:SM} {i:Nat},(binds.map (·.1)).Nodup→binds[i]?=some (x,v)→bindC kindOf binds m x=some v:=by
 induction binds with
 |nil=>intro m i hn h;cases h
 |cons p r ih=>
  intro m i hn h
  cases i with
  |zero=>cases h;unfold bindC;rw [bindC_ne (List.nodup_cons.mp hn).1,if_neg hk];exact if_pos rfl
  |succ i=>exact ih (List.nodup_cons.mp hn).2 h
structure DefOk(names:List (Str×NameKind))(np:Nat)(cs:List Nat)(params:Arguments):Prop where
 nd:(names.map (·.1)).Nodup
 args:params.args.map (·.arg)=(names.take np).map (·.1)
 kinds:∀y∈names.take np,y.2=.local∨y.2=.cell
 ndc:((cellsFrom 0 names []).map (·.1)).Nodup
 cells:cs.map (fun i=>(names[i]?).map (·.1))=((cellsFrom 0 names []).map (·.1)).map some
section
variable {names:List (Str×NameKind)}{np:Nat}{cs:List Nat}{params:Arguments}(D:DefOk names np cs params)
include D
theorem DefOk.look{x:Str}{k:NameKind}(hm:(x,k)∈names):names.lookup x=some k:=(List.getElem?_of_mem hm).elim fun i hi=>look_of_nodup D.nd hi
theorem DefOk.uniq{x:Str}{k k':NameKind}(h:(x,k)∈names)(h':(x,k')∈names):k=k':=sI ((D.look h).symm.trans (D.look h'))
theorem DefOk.ndt:((names.take np).map (·.1)).Nodup:=List.map_take▸D.nd.sublist (List.take_sublist _ _)
theorem DefOk.cellK{i:Nat}{y:Str}(hi:i∈cs)(hy:(names[i]?).map (·.1)=some y):names[i]?=some (y,.cell):=by
 have:some y∈cs.map (fun i=>(names[i]?).map (·.1)):=List.mem_map.mpr ⟨i,hi,hy⟩
 rw [D.cells]at this
 obtain ⟨z,hz,e⟩:=List.mem_map.mp this
 have hm:=((cellsFrom_mem names 0 []).mp hz).resolve_left List.not_mem_nil
 obtain ⟨⟨y',k⟩,h1,h2⟩:=Option.map_eq_some_iff.mp hy
 obtain rfl:y'=y:=h2
 rw [h1,D.uniq (List.mem_of_getElem? h1) (sI e▸hm)]
theorem DefOk.csOf{i:Nat}{x:Str}(h:names[i]?=some (x,.cell)):i∈cs:=by
 have:some x∈cs.map (fun i=>(names[i]?).map (·.1)):=by rw [D.cells];exact List.mem_map.mpr ⟨x,(cellsFrom_mem names 0 []).mpr (.inr (List.mem_of_getElem? h)),rfl⟩
 obtain ⟨j,hj,e⟩:=List.mem_map.mp this
 obtain ⟨⟨z,kz⟩,e1,e2⟩:=Option.map_eq_some_iff.mp e
 obtain rfl:z=x:=e2
 exact nodup_at D.nd e1 h▸hj
variable {ys:List Value}(hl:ys.length=np)
include hl
theorem DefOk.bindAt{i:Nat}{y:Str}{k:NameKind}{v:Value}(h1:names[i]?=some (y,k))(h2:ys[i]?=some v):i<np∧(((names.take np).map (·.1)).zip ys)[i]?=some (y,v):=
 have hi:i<np:=hl▸(List.getElem?_eq_some_iff.mp h2).1
 ⟨hi,List.getElem?_zip_eq_some.mpr ⟨by rw [List.getElem?_map,List.getElem?_take_of_lt hi,h1];rfl,h2⟩⟩
theorem DefOk.keys(hlen:np≤names.length):(((names.take np).map (·.1)).zip ys).map (·.1)=(names.take np).map (·.1):=List.map_fst_zip (by simp only [List.length_map,List.length_take,hl];exact Nat.min_le_left _ _)
theorem DefOk.kind{x:Str×Value}(hx:x∈((names.take np).map (·.1)).zip ys)(n:Nat):names.lookup x.1=some .local∨(names.lookup x.1=some .cell∧((cellsFrom n names []).lookup x.1).isSome=true):=by
 refine Classical.byContradiction fun no=>?_
 obtain ⟨⟨y,k⟩,hy,e⟩:=List.mem_map.mp (List.of_mem_zip hx).1
 obtain e:y=x.1:=e
 subst e
 obtain hm:=List.mem_of_mem_take hy
 refine no ?_
 refine (D.kinds _ hy).imp (fun e=>?_) fun e=>?_
 ·obtain rfl:k=.local:=e;exact D.look hm
 ·obtain rfl:k=.cell:=e;exact ⟨D.look hm,look_isSome ((cellsFrom_mem names n []).mpr (.inr hm))⟩
end
section
variable {W:Wd}
theorem enter_cells{names:List (Str×NameKind)}{xs:List V}{cm:SM}{g h:Heap}{L':Addr}{G:Addr→Option Obj}{K:M→Hp→Prop}{cl:List (Str×Addr)}{cells:List (Addr×Obj)}(X:CellsAre cm cl cells):∀{cs:List Nat} {m:M} {H:Hp},
  cs.map (fun i=>(names[i]?).map (·.1))=cl.map (fun p=>some p.1)→(∀p∈cells,h.get? p.1=some p.2∧p.1≠L'∧g.get? p.1=none)→(∀p∈cl,H p.2=none∧G p.2=none)→cl.Pairwise (fun x y=>x.2≠y.2)→Own W g L' h H G→enterP xs K cs m H→
  (∀i∈cs,∀y,(names[i]?).map (·.1)=some y→(xs[i]?=none∧cm y=none)∨∃v x,xs[i]?=some x∧cm y=some v∧VR v x)→
  ∀{P:Prop},(∀m' H',K m' H'→Own W g L' h H' G→(∀i V,getLoc m' i=some V→(i∉cs∧getLoc m i=some V)∨∃y c,(names[i]?).map (·.1)=some y∧(y,c)∈cl∧V=.ref c)→P)→P:=by
 induction X with
 |nil=>intro cs m H hcs hN hf hp O he hv P kk;obtain rfl:=List.map_eq_nil_iff.mp hcs;exact kk m H he O fun i V e=>.inl ⟨List.not_mem_nil,e⟩
 | @cons n c o cl cells hd X ih=>
  intro cs m H hcs hN hf hp O he hv P kk
  cases cs with
  |nil=>cases hcs
  |cons i cs=>
   obtain ⟨hi,hcs⟩:=List.cons.inj hcs
   obtain nN:=hN (c,o) (.head _)
   obtain f:=hf (n,c) (.head _)
   have hp':=List.pairwise_cons.mp hp
   obtain ro:RO W o (.cell xs[i]?):=(hv i (.head _) n hi).elim (fun z=>by rw [z.1];exact .cell0 (hd.trans (congrArg Data.cell z.2))) fun z=>z.elim fun v z=>z.elim fun x z=>by rw [z.1];exact .cell (hd.trans (congrArg Data.cell z.2.1)) z.2.2
   obtain O':Own W g L' h (H.put c (.cell xs[i]?)) G:=⟨fun b o' e=>by
    unfold Hp.put at e
    by_cases q:b=c
    ·subst q;rw [if_pos rfl]at e;exact sI e▸⟨f.2,nN.2.1,nN.2.2,o,nN.1,ro⟩
    ·rw [if_neg q]at e;exact O.obj b o' e,O.raw⟩
   exact ih hcs (fun p hp=>hN p (.tail _ hp)) (fun p hm=>⟨(if_neg (Ne.symm (hp'.1 p hm))).trans (hf p (.tail _ hm)).1,(hf p (.tail _ hm)).2⟩) hp'.2 O' (he c f.1) (fun j hj=>hv j (.tail _ hj)) fun m' H' k O'' hg=>kk m' H' k O'' fun j V e=>(hg j V e).elim (fun a=>(getLoc_set a.2).elim (fun b=>.inr ⟨n,c,b.1▸hi,.head _,b.2⟩) fun b=>.inl ⟨fun q=>(List.mem_cons.mp q).elim b.1 a.1,b.2⟩) fun a=>.inr (a.imp fun y=>Exists.imp fun c' a=>⟨a.1,.tail _ a.2.1,a.2.2⟩)
theorem initM_get{n:Nat}{xs:List V}{i:Nat}{V:V}(h:getLoc (Does.initMP n xs) i=some V):xs[i]?=some V:=by
 unfold getLoc Does.initMP at h
 by_cases q:i<(xs.map some).length
 ·rw [List.getElem?_append_left q,List.getElem?_map]at h
  cases e:xs[i]? with
  |none=>rw [e]at h;exact noS h
  |some y=>rw [e]at h;exact h
 ·rw [List.getElem?_append_right (Nat.not_lt.mp q),List.getElem?_replicate]at h
  by_cases r:i-(xs.map some).length<n-xs.length
  ·rw [if_pos r]at h;exact noS h
  ·rw [if_neg r]at h;exact noS h
theorem enter_names{names:List (Str×NameKind)}{np:Nat}{cs:List Nat}{params:Arguments}(D:DefOk names np cs params){kindOf:Str→Option NameKind}(hkind:∀x,kindOf x=names.lookup x)(hlen:np≤names.length){ys:List Value}{zs:List V}(hal:VRs ys zs)(hl:ys.length=np)
  {g h:Heap}{L':Addr}{H:Hp}{G:Addr→Option Obj}{KK:M→Hp→Prop}{cells:List (Addr×Obj)}(CA:CellsAre (bindC kindOf (((names.take np).map (·.1)).zip ys) fun _=>none) (cellsFrom (L'+1) names []) cells)(N:∀p∈cells,h.get? p.1=some p.2∧p.1≠L'∧g.get? p.1=none)
  (hfresh:∀a,L'<a→H a=none∧G a=none)(O:Own W g L' h H G){m0:M}(hm0:∀i V,getLoc m0 i=some V→zs[i]?=some V)(hent:enterP zs KK cs m0 H) :
  ∀{P:Prop},(∀m' H',KK m' H'→Own W g L' h H' G→(∀C':Cx,C'.ns=names→C'.env.cells=cellsFrom (L'+1) names []→VarsAt C' (bindL kindOf (((names.take np).map (·.1)).zip ys) fun _=>none) m')→P)→P:=fun {P} kk=>by
 have cs0:=cellsFrom_spec (lo:=L'+1) names (L'+1) [] (Nat.le_refl _) (fun p h=>absurd h List.not_mem_nil) .nil
 obtain hnames:cs.map (fun i=>(names[i]?).map (·.1))=(cellsFrom (L'+1) names []).map fun p=>some p.1:=by
  simp only [D.cells,cellsFrom_names names 0 (L'+1) [] [] rfl,List.map_map];rfl
 have hnd:((((names.take np).map (·.1)).zip ys).map (·.1)).Nodup:=(D.keys hl hlen).symm▸D.ndt
 refine enter_cells (W:=W) CA hnames N (fun p hp=>hfresh p.2 (cs0.1 p hp)) cs0.2 O hent (fun i hi y hy=>?_) fun m' H' hk O' hget=>kk m' H' hk O' fun C' e1 e2 i x k h1 h2 V hV=>?_
 ·have h1:=D.cellK hi hy
  have hnl:kindOf y≠some .local:=by rw [hkind,D.look (List.mem_of_getElem? h1)];decide
  cases q:zs[i]? with
  |none=>
   refine .inl ⟨rfl,bindC_ne fun hm=>?_⟩
   rw [D.keys hl hlen]at hm
   obtain ⟨⟨z,kz⟩,hz,e⟩:=List.mem_map.mp hm
   obtain rfl:z=y:=e
   obtain ⟨j,hj⟩:=List.getElem?_of_mem hz
   obtain hjn:j<np:=Nat.lt_of_lt_of_le (List.getElem?_eq_some_iff.mp hj).1 (List.length_take_le _ _)
   rw [List.getElem?_take_of_lt hjn]at hj
   obtain hi:=List.getElem?_eq_none_iff.mp q
   rw [←hal.length,hl]at hi
   exact Nat.lt_irrefl _ (Nat.lt_of_lt_of_le (nodup_at D.nd hj h1▸hjn) hi)
  |some x=>exact .inr ((hal.get q).elim fun v z=>⟨v,x,rfl,bindC_at hnl hnd (D.bindAt hl h1 z.1).2,z.2⟩)
 ·rw [e1]at h1
  refine (hget i V hV).elim (fun a=>(hal.get (hm0 i V a.2)).elim fun v z=>?_) fun a=>a.elim fun y a=>a.elim fun c a=>?_
  ·have b:=D.bindAt hl h1 z.1
   rcases D.kinds (x,k) (List.mem_of_getElem? (i:=i) (by rw [List.getElem?_take_of_lt b.1];exact h1)) with e |e
   ·obtain rfl:k=_:=e
    exact ⟨v,bindL_at ((hkind x).trans (D.look (List.mem_of_getElem? h1))) hnd b.2,z.2⟩
   ·obtain rfl:k=_:=e
    exact absurd (D.csOf h1) a.1
  ·rw [h1]at a
   obtain rfl:x=y:=Option.some.inj a.1
   obtain rfl:=D.uniq (List.mem_of_getElem? h1) (((cellsFrom_mem names (L'+1) []).mp (List.mem_map.mpr ⟨_,a.2.1,rfl⟩)).resolve_left List.not_mem_nil)
   exact ⟨c,a.2.2,e2▸lookup_of_mem_nodup (by simp only [cellsFrom_names names (L'+1) 0 [] [] rfl];exact D.ndc) a.2.1⟩
end
structure FO(K:Frag)(f:Addr) where
 name:Str
 qual:Str
 params:Arguments
 body:List Stmt
 scope:Scope
 dV:Value
 kV:Value
 doc:Value
 pm:Value
 cdv:Value
 ct:Value
 oc:Value
 an:Option Addr
 od:Option Addr
 osl:Array (Option Value)
 ho:K.lookup f=some ⟨oc,od,.func (fnX name qual params body scope [] dV kV doc pm an cdv ct),osl⟩
 hcd:codeIn K cdv qual=true
 Pl:Plain params
 hco:scope.isCoroutine=false
 hgen:scope.isGenerator=false
 hk:scope.kind=.function
noncomputable abbrev FO.fd{K:Frag}{f:Addr}(F:FO K f):FuncData:=fnX F.name F.qual F.params F.body F.scope [] F.dV F.kV F.doc F.pm F.an F.cdv F.ct
noncomputable def Dflt{K:Frag}{f:Addr}(F:FO K f)(np:Nat)(us:List V):Prop:=
 ∀(s:Shared) (vs:List Value),K.In s.heap→vs.length+us.length=np→∃ws,VRs ws us∧BindsTo s F.fd ⟨vs,[]⟩ (((F.scope.names.take np).map (·.1)).zip (vs++ws))
noncomputable abbrev FO.cx{K:Frag}{f:Addr}(F:FO K f)(C:Cx)(g:Heap)(L':Addr):Cx:=C.into g L' (envOfC F.qual F.scope L' f F.cdv) F.scope.names
section
variable {W:Wd}{T:Tabs}
theorem enter_def{rk:Nat}{f:Addr}(F:FO T.K f){cs:List Nat}{np:Nat}{us:List V}(D:DefOk F.scope.names np cs F.params)(hbind:Dflt F np us)(hlen:np≤F.scope.names.length){C:Cx}{g:RG}{mF:SM}{H:Hp}{s:Shared}{vs:List Value}{xs:List V}{R:Result→Shared→Prop}{KK:M→Hp→Prop}
  (K:C.Ok W T (rk+1))(a:At W C g mF H s)(hvs:VRs vs xs)(hl:xs.length+us.length=np)(hent:enterP (xs++us) KK cs (Does.initMP F.scope.names.length (xs++us)) H)
  (hb:∀g' L' H' (l:Ld (F.cx C g' L')) s1,(F.cx C g' L').EnvOk→(F.cx C g' L').Def→(F.cx C g' L').Ok W T rk→Fr C.h₀ C.L g' mF→Below C.A C.base (C.top::C.outer) g'→At W (F.cx C g' L') g l.mF H' s1→KK l.m H'→
   wpC (model W.prog W.w) (F.cx C g' L').A (execs F.body (F.cx C g' L').env) (fun fl s'=>LvK C.h₀ C.L mF g' R (match fl with | .ret v=>v |_=>.none) s')
    (fun e s'=>wpAny (model W.prog W.w) (F.cx C g' L').A (leaving (F.cx C g' L').env e) (fun _ s''=>R (.error e) s'') (fun e' s''=>R (.error e') s'') s') s1) :
  codeC (model W.prog W.w) C.A (.call (.ref f) ⟨vs,[]⟩) R s:=by
 have X₀:T.K.In s.heap:=K.G.K.keeps a.F.keep
 refine Classical.byContradiction fun no=>?_
 obtain ⟨ws,hws,hbd⟩:=hbind s vs X₀ (hvs.length.symm▸hl)
 have hal:=hvs.append hws
 have hl:(vs++ws).length=np:=hal.length.trans (List.length_append.trans hl)
 refine no ?_
 refine callC_cells (f:=f) (qual:=F.qual) (cdv:=F.cdv) K.B a.F a.own.news K.G.nolimit K.hA K.hf K.hk (X₀ _ _ F.ho) rfl (codeRec_of X₀ F.hcd) (Nat.lt_of_le_of_lt (Nat.le_add_right _ _) (Nat.lt_trans K.hd (by decide))) hbd (fun n x hx=>D.kind hl hx n) D.ndc (fun g' L' h₁ tk cells FG F₁ N₁ CA B₁ st lt=>?_) F.hco F.hgen F.hk
 obtain hfresh:∀b,L'<b→H b=none∧g.G b=none:=fun b hb=>ledger_fresh a.own (fun p hp=>lt p hp) (Nat.le_of_lt hb)
 refine enter_names D (kindOf:=(envOfC F.qual F.scope L' f F.cdv).kindOf) (fun _=>rfl) hlen hal hl CA (fun p hp=>N₁ p (List.mem_append_left _ hp)) hfresh (a.own.ofNews fun p hp=>N₁ p (List.mem_append_right _ hp)) (fun i V=>initM_get) hent fun m' H' hk O₂ hV=>hb g' L' H' ⟨_,m',rfl,hV _ rfl rfl⟩ {s with heap:=h₁,toks:=tk} ⟨F.hk,rfl,rfl,D.nd,fun x k h=>⟨k,h,.inl rfl⟩⟩ ⟨rfl,rfl,by show interactive (envOfC _ _ _ _ _)=false;unfold interactive;simp [envOfC,F.hk]⟩ (into_ok K B₁ FG rfl F.hk) FG B₁ ⟨F₁,O₂,a.hs⟩ hk
end
end
end Mine
end
section
open PySem PySem.W PyProof.Rows PySem.Calls PySem.Spec
namespace Mine
section
noncomputable def excTail(P:Addr):List Value:=[.ref P,.type "Exception",.type "BaseException",.type "object"]
section
variable {nm q:Str}{C P N:Addr}{bs:List Value}{hdct:Bool}{sn:List Str}{sub:List Value}{ab:Bool}{col:Option Bool}{dd:Option Addr}{k0 k1 k2 k3 k5:Option Value}
variable {h:Heap}{g:Array GenState}{d:Drawn}{t:Nat}{os:OsState}
theorem tail_has{X:String}{b:Bool}(h: [Value.type "Exception",.type "BaseException",.type "object"].contains (.type X)=b):(Value.ref C::excTail P).contains (.type X)=b:=by
 unfold excTail
 rw [List.contains_cons,List.contains_cons,h];rfl
theorem check_newX{M:Model}{A:Around}{E:VQ}{rest:List Value}{Q:Unit→Shared→Prop}(hC:h.get? C=some (excClassObj nm q C N bs (excTail P) hdct sn sub ab col dd k0 k1 k2 k3 k5 "Exception.__new__"))
  (hq:Q () ⟨h,g,d,t,os⟩):wpAny M A (checkBuiltinCall "Exception.__new__" ⟨.ref C::rest,[]⟩) Q E ⟨h,g,d,t,os⟩:=by
 have F:=PySem.F.excBase_Exception
 have hcont:(Value.ref C::excTail P).contains (.type "Exception")=true:=tail_has F.hasB
 have hstar:=F.noStar
 simp only [checkBuiltinCall,F.newKind,F.newSplit,F.newRow]
 repeat (first |refine wpAny_loadPart_at hC ?_ | (refine wpAny_isSubtype_exc hC ?_;rw [hcont]) |refine wpAny_staticBase_exc hC ?_ |refine wpAny_madeBy_exc hC ?_ |simp only [bne_self_eq_false,Bool.false_eq_true,if_false] |wp_step)
 exact hq
theorem exc_newX{prog:Program}{w:World}{A:Around}{R:Result→Shared→Prop}{rest:List Value}(hC:h.get? C=some (excClassObj nm q C N bs (excTail P) hdct sn sub ab col dd k0 k1 k2 k3 k5 "Exception.__new__"))
  (hq:R (.ok (.ret (.ref (h.objs.size+1)))) ⟨(h.push {cls:=.type "tuple",data:=.seq rest.toArray}).push
   {cls:=.ref C,data:=.fields #[.ref h.objs.size,.none,.none,.none,.bool false,.none]},g,d,t,os⟩)(hrest:rest.length≤sizeLine) :
  codeAny (model prog w) A (.builtin "Exception.__new__" ⟨.ref C::rest,[]⟩) R ⟨h,g,d,t,os⟩:=by
 obtain F:=PySem.F.excBase_Exception
 have hends:=F.ends
 have hcB:(Value.ref C::excTail P).contains (.type "Exception")=true:=tail_has F.hasB
 have hcA:(Value.ref C::excTail P).contains (.type "AttributeError")=false:=tail_has F.noAttr
 have hcN:(Value.ref C::excTail P).contains (.type "NameError")=false:=tail_has F.noName
 refine codeAny_builtinAt F.entry ?_
 unfold Builtin.«BaseException.__new__»
 refine PySem.wpAt_bind ?_
 show PySem.wpAt _ _ _ (PySem.stack >>= _) _ _ _
 refine PySem.wpAt_bind (PySem.wpAt_stack fun p below=>PySem.wpAt_of_wpAny ?_)
 wp_walk
 refine PySem.wpAt_of_wpAny ?_
 rw [F.owner]
 repeat (first |with_reducible refine wpAny_madeHere_exc F.canon hC ?_ |with_reducible refine wpAny_loadPart_at hC ?_ | (with_reducible refine wpAny_isSubtype_exc hC ?_;first |rw [hcB] |rw [hcA] |rw [hcN]) |wp_step)
 show R _ _
 rw [Heap.size_push]
 exact hq
theorem check_initX{M:Model}{A:Around}{E:VQ}{e:Addr}{oe:Obj}{rest:List Value}{Q:Unit→Shared→Prop}
  (hC:h.get? C=some (excClassObj nm q C N bs (excTail P) hdct sn sub ab col dd k0 k1 k2 k3 k5 "Exception.__new__"))(he:h.get? e=some oe)(hcls:oe.cls=.ref C)(hq:Q () ⟨h,g,d,t,os⟩) :
  wpAny M A (checkBuiltinCall "Exception.__init__" ⟨.ref e::rest,[]⟩) Q E ⟨h,g,d,t,os⟩:=by
 have F:=PySem.F.excBase_Exception
 have hcB:(Value.ref C::excTail P).contains (.type "Exception")=true:=tail_has F.hasB
 have hshort:=F.noStar
 simp only [checkBuiltinCall,F.initKind,F.initSplit,F.initRow]
 repeat (first | (with_reducible refine wpAny_loadPart_at he ?_;rw [hcls]) |with_reducible refine wpAny_loadPart_at hC ?_ | (with_reducible refine wpAny_isSubtype_exc hC ?_;rw [hcB]) |wp_step)
 refine wpAny_onRaise ?_
 rw [show∀(a b:String) (n:Nat),Bind.check ⟨.positional,"*","Exception",.self,[⟨"args",.varPos,false⟩]⟩ a b n (List.map (fun x=>x.fst) ({pos:=Value.ref e::rest}:Args).kw)=pure () from
  fun a b n=>check_star_args _ _ _ _ _ _]
 exact wpAny_pure hq
end
end
end Mine
end
section
open PySem PySem.W PyProof.Rows PySem.Calls PySem.Spec
open Builtin Builtin.ObjectAttr
namespace Mine
section
section
variable {prog:Program}{w:World}{A:Around}{E:VQ}{h:Heap}{g:Array GenState}{d:Drawn}{t:Nat}{os:OsState}
variable {nm q:Str}{C P N x:Addr}{bs:List Value}{sn:List Str}{sub:List Value}{ab:Bool}{col:Option Bool}{dd:Option Addr}{k0 k1 k2 k3 k5:Option Value}
 {mA:SM} {name:Str} {v:Value} {K:Frag}
theorem refuseX{self:Value}:refuseLoop self "__setattr__" (.ref C::excTail P)=pure ():=by
 unfold excTail
 rw [refuseLoop_ref,refuseLoop_ref]
 exact PySem.F.store_Exception.passes self
theorem check_saX{M:Model}{o:Obj}{nameV:Value}{Q:Unit→Shared→Prop}
  (hC:h.get? C=some (excClassObj nm q C N bs (excTail P) true sn sub ab col dd k0 k1 k2 k3 k5 "Exception.__new__"))(hx:h.get? x=some o)(hc:o.cls=.ref C)(hq:Q () ⟨h,g,d,t,os⟩) :
  wpAny M A (checkBuiltinCall "object.__setattr__" ⟨[.ref x,nameV,v],[]⟩) Q E ⟨h,g,d,t,os⟩:=by
 obtain SF:=PySem.F.store_Exception
 obtain hcB:(Value.ref C::excTail P).contains (.type "object")=true:=tail_has rfl
 obtain ha:=SF.args (.ref x) nameV v
 simp only [checkBuiltinCall,SF.kind,SF.split]
 refine wpAny_bind ?_
 ·unfold isInstance
  repeat (first | (with_reducible refine wpAny_loadPart_at hx ?_;simp only [hc]) | (with_reducible refine wpAny_isSubtype_exc hC ?_;rw [hcB]) |wp_step)
  exact hq
theorem store_entryX{tk:Tok}{Q:Fin→Shared→Prop}{ns:List Str}
  (hC:h.get? C=some (excClassObj nm q C N bs (excTail P) true sn sub ab col dd k0 k1 k2 k3 k5 "Exception.__new__"))(X:K.In h)(hna:findIn K (.ref C) name=some none)(I:h.Inst x C mA)
  (hq:∀h' tk',h'.Inst x C (fun y=>if y=name then some v else mA y)→
   (∀b o,b≠x→(∀o₀ dx,h.get? x=some o₀→o₀.dict=some dx→b≠dx)→h.get? b=some o→h'.get? b=some o)→
   (∀o₀,h.get? x=some o₀→∃o₁,h'.get? x=some o₁∧o₁.cls=o₀.cls∧o₁.data=o₀.data∧(∀dx,o₀.dict=some dx→o₁.dict=some dx)∧(o₀.dict=none→∀dx,o₁.dict=some dx→h.get? dx=none))→Q (.done (.ret .none)) ⟨h',g,d,tk',os⟩)(hw:Within mA ns)(hsz:ns.length≤sizeLine) :
  wpAny (model prog w) A (Builtin.«object.__setattr__» ⟨[.ref x,.str name tk,v],[]⟩) Q E ⟨h,g,d,t,os⟩:=by
 obtain ⟨o,hx,hc,hnc,hd⟩:=I
 have L:∀(A:Around) (Q:Option Value→Shared→Prop) (E:VQ),Q none ⟨h,g,d,t,os⟩→wpAny (model prog w) A (typeLookup (.ref C) name) Q E ⟨h,g,d,t,os⟩:=fun A Q E q=>(looks_findIn X hna).here q
 unfold Builtin.«object.__setattr__»
 repeat (first |rw [refuse_eq] | (rw [refuseX]) | (with_reducible refine wpAny_loadPart_at hx ?_;rw [hc]) |with_reducible refine wpAny_mroOf_exc hC ?_ | (with_reducible refine L _ _ _ ?_) |wp_step)
 rcases hd with ⟨hdn,hmA⟩ | ⟨dx,hdx,hne,hns⟩
 ·
  rw [hdn,if_neg (by simp [typeHasDict])]
  split
  ·rename_i hcd
   cases hcd
  split
  ·rename_i c hcd
   exact absurd hcd (hnc c)
  ·obtain hx₁:(h.push {cls:=.type "dict",data:=.dict #[]}).get? x=some o:=Heap.get?_push_of_some _ hx
   obtain hxs:x≠h.objs.size:=Nat.ne_of_lt (Heap.lt_size hx)
   refine wpAny_bind (wpAny_alloc' ?_)
   refine wpAny_bind (wpAny_update' hx₁ ?_)
   refine wpAny_pure ?_
   obtain hgd:((h.push {cls:=.type "dict",data:=.dict #[]}).update x fun o=>{cls:=o.cls,dict:=some h.objs.size,data:=o.data,slots:=o.slots}).get? h.objs.size
     = some {cls:=.type "dict",data:=.dict #[]}:=
    (Heap.get?_update_ne _ _ _ _ hxs.symm).trans (Heap.get?_push_at rfl rfl)
   obtain hnd:((h.push {cls:=.type "dict",data:=.dict #[]}).update x fun o=>{cls:=o.cls,dict:=some h.objs.size,data:=o.data,slots:=o.slots}).Ns h.objs.size (fun _=>none):=
    ⟨_,#[],_,hgd,rfl,fun e he=>absurd he (by simp),fun _=>rfl⟩
   show wpAny _ _ (storeInDict h.objs.size (.str name tk) name v) _ _ _
   unfold storeInDict newKeyGuard
   refine wpAny_bind (wpAny_pure (wpAny_bind (wpAny_nsSet1 (Heap.Ns1.of_empty hnd) fun h' hn' hs=>?_)))
   obtain ⟨oD,esD,epD,hoD,hdD,hcD⟩:=hn'.count (Within.cons name v Within.nil)
   refine wpAny_bind (wpAny_lookBehind hoD (by rw [hdD];exact pastItsLine_dict (Nat.le_trans hcD (by rw [List.length_cons,List.length_nil,sizeLine_eq];omega))) ?_)
   wp_walk
   have hx':h'.get? x=some {cls:=o.cls,dict:=some h.objs.size,data:=o.data,slots:=o.slots}:=?_
   refine hq h' _ ⟨{cls:=o.cls,dict:=some h.objs.size,data:=o.data,slots:=o.slots},hx',hc,hnc,.inr ⟨h.objs.size,rfl,hxs.symm,?_⟩⟩ (fun b ob hbx _ hb=>?_)
    (fun o₀ h₀=>by obtain rfl:o=o₀:=Option.some.inj (hx.symm.trans h₀);exact ⟨_,hx',rfl,rfl,(fun dx e=>by rw [hdn]at e;cases e),fun _ dx e=>by cases e;exact Heap.get?_none_of_le (Nat.le_refl _)⟩)
   ·obtain ⟨o',es,ep,e1,e2,e3,eu,e4⟩:=hn'
    exact ⟨o',es,ep,e1,e2,e3,eu,fun y=>by rw [e4 y];by_cases hy:y=name <;> simp [hy,hmA]⟩
   ·exact (hs.2 b (Nat.ne_of_lt (Heap.lt_size hb))).trans ((Heap.get?_update_ne _ _ _ _ hbx).trans (Heap.get?_push_of_some _ hb))
   ·refine (hs.2 x hxs).trans (Heap.get?_update_self _ hx₁ ?_)
    obtain hfr:=(Heap.get?_some_iff.mp hx).2
    obtain ⟨oc,od,odt,osl⟩:=o
    cases odt <;> first |rfl |exact hfr
 ·
  rw [hdx]
  refine wpAny_pure ?_
  show wpAny _ _ (storeInDict dx (.str name tk) name v) _ _ _
  unfold storeInDict newKeyGuard
  refine wpAny_bind (wpAny_pure (wpAny_bind (wpAny_nsSet1 hns fun h' hn' hs=>?_)))
  obtain ⟨oD,esD,epD,hoD,hdD,hcD⟩:=hn'.count (Within.cons name v hw)
  refine wpAny_bind (wpAny_lookBehind hoD (by rw [hdD];exact pastItsLine_dict (Nat.le_trans hcD (by rw [List.length_cons];omega))) ?_)
  wp_walk
  refine hq h' _ ⟨o,(hs.2 x hne.symm).trans hx,hc,hnc,.inr ⟨dx,hdx,hne,hn'⟩⟩ (fun b ob _ hbd hb=>?_)
   (fun o₀ h₀=>⟨o₀,(hs.2 x hne.symm).trans h₀,rfl,rfl,(fun _ e=>e),fun e=>by obtain rfl:o=o₀:=Option.some.inj (hx.symm.trans h₀);rw [hdx]at e;cases e⟩)
  exact (hs.2 b (hbd o dx hx hdx)).trans hb
theorem setattrX{Q:Unit→Shared→Prop}{ns:List Str}
  (hC:h.get? C=some (excClassObj nm q C N bs (excTail P) true sn sub ab col dd k0 k1 k2 k3 k5 "Exception.__new__"))(X:K.In h)(hsa:findIn K (.ref C) "__setattr__"=some (some (.builtin "object.__setattr__")))(hna:findIn K (.ref C) name=some none)(I:h.Inst x C mA)
  (hq:∀h' tk',h'.Inst x C (fun y=>if y=name then some v else mA y)→
   (∀b o,b≠x→(∀o₀ dx,h.get? x=some o₀→o₀.dict=some dx→b≠dx)→h.get? b=some o→h'.get? b=some o)→
   (∀o₀,h.get? x=some o₀→∃o₁,h'.get? x=some o₁∧o₁.cls=o₀.cls∧o₁.data=o₀.data∧(∀dx,o₀.dict=some dx→o₁.dict=some dx)∧(o₀.dict=none→∀dx,o₁.dict=some dx→h.get? dx=none))→Q () ⟨h',g,d,tk',os⟩)(hw:Within mA ns)(hsz:ns.length≤sizeLine) :
  wpAny (model prog w) A (setAttr (.ref x) name v) Q E ⟨h,g,d,t,os⟩:=by
 obtain ⟨o,hx,hc,_⟩:=id I
 have SF:=PySem.F.store_Exception
 have f3:=SF.slot.bind (.ref x)
 have L:∀(t:Nat) (A:Around) (Q:Option Value→Shared→Prop) (E:VQ),Q (some (.builtin "object.__setattr__")) ⟨h,g,d,t,os⟩→wpAny (model prog w) A (typeLookup (.ref C) "__setattr__") Q E ⟨h,g,d,t,os⟩:=fun t A Q E q=>(looks_findIn X hsa).here q
 unfold setAttr callSpecial? specialOf
 repeat (any_goals (first |assumption | (with_reducible refine wpAny_loadPart_at hx ?_;rw [hc]) | (with_reducible refine L _ _ _ _ ?_) |wp_step))
 refine codeAny_call_builtin SF.slot.plain SF.entry (check_saX hC hx hc (store_entryX hC X hna I (fun h' tk' I' hk hsame=>?_) hw hsz))
 repeat (any_goals (first |assumption |wp_step))
 exact hq h' tk' I' hk hsame
end
end
end Mine
end
section
open PySem PySem.W PyProof.Rows PySem.Calls PySem.Spec
namespace Mine
section
section
variable {prog:Program}{w:World}{A:Around}{E:VQ}{h:Heap}{g:Array GenState}{d:Drawn}{t:Nat}{os:OsState}
variable {nm q:Str}{C P N e:Addr}{bs:List Value}{sn:List Str}{hdct:Bool}{sub:List Value}{ab:Bool}{col:Option Bool}{dd:Option Addr}{k0 k1 k2 k3 k5:Option Value}
theorem init_builtin{rest:List Value}{tp:Addr}{Q:VQ}(hC:h.get? C=some (excClassObj nm q C N bs (excTail P) hdct sn sub ab col dd k0 k1 k2 k3 k5 "Exception.__new__"))
  (he:h.get? e=some {cls:=.ref C,data:=.fields #[.ref tp,.none,.none,.none,.bool false,.none]})(hrest:rest.length≤sizeLine)
  (hq:∀h' tp',(∀b o,b≠e→h.get? b=some o→h'.get? b=some o)→h'.get? e=some {cls:=.ref C,data:=.fields #[tp',.none,.none,.none,.bool false,.none]}→Q .none ⟨h',g,d,t,os⟩) :
  wpAny (model prog w) A (call (.builtin "Exception.__init__") (.ref e::rest)) Q E ⟨h,g,d,t,os⟩:=by
 obtain F:=PySem.F.excBase_Exception
 refine wpAny_call (codeAny_call_builtin F.init.plain F.initEntry (check_initX hC he rfl ?_))
 wp_walk
 refine hq _ (.ref h.objs.size) (fun b o hb hg=>?_) ?_
 ·rw [Heap.get?_update_other _ _ (Ne.symm hb)]
  exact Heap.get?_push_of_some _ hg
 ·rw [Heap.get?_update_self _ (Heap.get?_push_of_some _ he) rfl]
  rfl
end
end
section
section
variable {M:Model}{A:Around}{E:VQ}{s:Shared}{env:Env}
theorem c_Assign_Attribute{o:Expr}{attr:Str}{pos':Pos}{value:Expr}{pos:Pos}{Q:Flow→Shared→Prop}
  (h:wpC M A (eval value env) (fun v s₁=>wpC M A (eval o env) (fun ov s₂=>wpC M A (setAttr ov attr v) (fun _=>Q .next) E s₂) E s₁) E s)(hs:swapsWith value (some (.Attribute o attr pos')) pos.line env=pure false) :
  wpC M A (exec (.Assign [.Attribute o attr pos'] value pos) env) Q E s:=by
 rw [plainObj_exec_Assign_Attribute o attr pos' value pos hs]
 refine cbind (cstand (cbind (cmono h (fun v s₁ h₁=>?_) fun _ _ q=>q)))
 simp only [assign_Attribute]
 refine cbind (cbind (chold (cmono h₁ (fun ov s₂ h₂=>cbind (cstand (cbind (chold (cmono h₂ (fun _ s₃ h₃=>?_) fun _ _ q=>q))))) fun _ _ q=>q)))
 exact .of (wpAny_release' (cpure h₃))
end
noncomputable def plOf(o:Expr)(env:Env):Sem Bool:=do return (←importBound o env).getD true
theorem mc_eq{o:Expr}{name:Str}{apos pos:Pos}{args:List Expr}{env:Env}(hab:attributeBase o name env (eval o env)=eval o env)(hp:(apos.endLine == pos.line)=true)
  (hfew:methodCallForm (args.length+0) (backTo pos (starEach args env)) (backToKw pos (keywordEach [] env))=true) :
  eval (.Call (.Attribute o name apos) args [] pos) env=(do
   let ov←eval o env
   standAt apos.atName
   let (f,first)←holding [ov] (getMethod ov name (plOf o env))
   callWith pos f first (backTo pos (starEach args env)) (backToKw pos (keywordEach [] env))):=by
 obtain e:eval (.Call (.Attribute o name apos) args [] pos) env=(do
   let ov←attributeBase o name env (eval o env)
   standAt apos.atName
   methodCall o name apos pos env ov (args.length+0) (backTo pos (starEach args env)) (backToKw pos (keywordEach [] env))):=rfl
 simp only [e,hab]
 delta methodCall calleeOf methodCallPos
 simp only [hfew,hp,if_true,Bool.not_true,Bool.false_or,pure_bind]
 rfl
noncomputable def initNames:List (Str×NameKind):=[("self",.local),("what",.local),("at",.local),("Exception",.globalImplicit)]
inductive InitBody:List Stmt→Prop
 |mk {p1 p2 p3 p4 p5 p6 p7 p8 p9 p10 p11 p12 p13 p14:Pos}:(p2.endLine == p5.line)=true→
 InitBody [.Expr (.Call (.Attribute (.Name (Str.ofString "Exception") p1) "__init__" p2) [.Name "self" p3,.Name "what" p4] [] p5) p6,
  .Assign [.Attribute (.Name "self" p7) "what" p8] (.Name "what" p9) p10,.Assign [.Attribute (.Name "self" p11) "at" p12] (.Name "at" p13) p14]
noncomputable abbrev excObj(ff:Addr)(tp:Addr):Obj:={cls:=.ref ff,data:=.fields #[.ref tp,.none,.none,.none,.bool false,.none]}
inductive ExcO(ff:Addr):Obj→Prop
 |mk {nm q P N bs sn sub ab col dd k0 k1 k2 k3 k5}:ExcO ff (excClassObj nm q ff N bs (excTail P) true sn sub ab col dd k0 k1 k2 k3 k5 "Exception.__new__")
structure ExcCls(T:Tabs):Prop where
 cls:∃o,T.K.lookup T.ff=some o∧ExcO T.ff o
 set:findIn T.K (.ref T.ff) "__setattr__"=some (some (.builtin "object.__setattr__"))
 what:findIn T.K (.ref T.ff) "what"=some none
 at_:findIn T.K (.ref T.ff) "at"=some none
 exc:findCls T.K (.type "Exception") (.type "type") "__init__"=some (.val (.builtin "Exception.__init__"))
section
variable {W:Wd}{T:Tabs}
theorem init_body{C:Cx}{rk:Nat}(E:C.EnvOk)(D:C.Def)(K:C.Ok W T rk)(hns:C.ns=initNames)(XC:ExcCls T){body:List Stmt}(hb:InitBody body){e tp:Addr}{v1 v2:Value}{mF:SM}{s:Shared}{Q:Flow→Shared→Prop}{EE:VQ}
  (F:Fr C.h₀ C.L s.heap mF)(he:s.heap.get? e=some (excObj T.ff tp))(heL:e≠C.L)(he0:C.h₀.get? e=none)(m0:mF "self"=some (.ref e))(m1:mF "what"=some v1)(m2:mF "at"=some v2)
  (hq:∀h' tk,(∀b o,b≠e→s.heap.get? b=some o→h'.get? b=some o)→(∃ob,h'.get? e=some ob∧ob.cls=.ref T.ff∧∃vs,ob.data=.fields vs∧vs[1]?=some .none∧0<vs.size)→Q .next {s with heap:=h',toks:=tk}) :
  wpC (model W.prog W.w) C.A (execs body C.env) Q EE s:=by
 refine Classical.byContradiction fun no=>?_
 obtain @⟨p1,p2,p3,p4,p5,p6,p7,p8,p9,p10,p11,p12,p13,p14,hpp⟩:=hb
 obtain ⟨_,hC,hX₀⟩:=XC.cls;obtain @⟨nm,q,P,N,bs,sn,sub,ab,col,dd,k0,k1,k2,k3,k5⟩:=hX₀
 obtain eL:C.env.locals=C.L:=D.loc
 have kl:∀x,C.ns.lookup x=some .local→C.env.kindOf x=some .local:=fun x hx=>by
  refine Classical.byContradiction fun no=>?_
  obtain ⟨k',h1,h2⟩:=E.names x _ hx
  rcases h2 with rfl | ⟨z,_⟩
  refine no ?_
  ·exact h1
  ·cases z
 have ksf:=kl "self" (by rw [hns];rfl)
 have kwh:=kl "what" (by rw [hns];rfl)
 obtain kat:=kl "at" (by rw [hns];rfl)
 obtain key:∀h',(∀b o,b≠e→s.heap.get? b=some o→h'.get? b=some o)→Fr C.h₀ C.L h' mF:=fun h' hk=>by
  obtain ⟨o,es,ep,ho,r⟩:=F.ns
  exact ⟨⟨o,es,ep,hk _ _ (Ne.symm heL) ho,r⟩,fun b ob hbo=>hk b ob (fun z=>by rw [z,he0]at hbo;cases hbo) (F.keep b ob hbo),F.above⟩
 have nm_:∀(x:Str) (v:Value) (p:Pos) (s':Shared) (Q':VQ) (E':VQ),Fr C.h₀ C.L s'.heap mF→mF x=some v→C.env.kindOf x=some .local→(x == ("__debug__":Str))=false→Q' v s'→wpC (model W.prog W.w) C.A (eval (.Name x p) C.env) Q' E' s':=
  fun x v p s' Q' E' F' hm hk hd q=>.of<|wpAny_Name (wpAny_loadName_local E.ek hk (by rw [eL];exact F'.ns) hm q) hd
 obtain hst2:starEach [Expr.Name "what" p4] C.env=[(false,eval (.Name "what" p4) C.env)]:=rfl
 obtain hst1:starEach [Expr.Name "self" p3,Expr.Name "what" p4] C.env=(false,eval (.Name "self" p3) C.env)::starEach [Expr.Name "what" p4] C.env:=rfl
 have X₀:T.K.In C.h₀:=K.G.K
 obtain hexc:∀Q' E',Q' (.type "Exception") s→wpC (model W.prog W.w) C.A (eval (.Name (Str.ofString "Exception") p1) C.env) Q' E' s:=fun Q' E' q'=>by
  obtain ⟨mg,mb,h1,h2,_,_,_,_,h3⟩:=K.G.g
  obtain ⟨n1,n2⟩:=h3 "Exception" (.type "Exception") (by decide)
  obtain ⟨k',hk,hk'⟩:=E.names (Str.ofString "Exception") .globalImplicit (by rw [hns];decide +kernel)
  have:k'=.globalImplicit:=by
   rcases hk' with e | ⟨e,_⟩
   ·exact e
   ·cases e
  subst this
  exact .of<|Name_function_global E.ek hk (loadGlobal_builtin (by rw [E.eg];exact h1.keeps F.keep) n1 (by rw [E.eb];exact h2.keeps F.keep) n2 q') (by decide +kernel)
 refine no ?_
 refine c_execs_cons (c_Expr (c_methodCall (hexc _ _ ?_) (mc_eq rfl hpp (by rfl))) D.nb rfl)
 refine .of (method_type F X₀ (by rfl) (by decide +kernel) XC.exc (by rfl) ?_)
 refine c_callWith_B1 (.inl ⟨_,rfl⟩) (c_args_cons (nm_ "self" _ p3 _ _ _ F m0 ksf (by decide) ?_) hst1) hst1 (by rw [hst2];rfl)
 refine c_args_cons (nm_ "what" _ p4 _ _ _ F m1 kwh (by decide) (c_args_nil ?_)) hst2
 obtain ⟨hh,g,d,t,os⟩:=s
 refine .of (init_builtin (F.keep _ _ (X₀ _ _ hC)) he (by rw [List.length_singleton,sizeLine_eq];omega) fun h1 tp1 k1' e1=>?_)
 refine ⟨(fun a z=>by cases z),?_⟩
 obtain F1:=key h1 k1'
 obtain hC1:=F1.keep _ _ (X₀ _ _ hC)
 obtain X1:T.K.In h1:=X₀.keeps F1.keep
 have I1:h1.Inst e T.ff (fun _=>none):=⟨_,e1,rfl,(fun c z=>by cases z),.inl ⟨rfl,fun _=>rfl⟩⟩
 refine c_execs_cons (c_Assign_Attribute (nm_ "what" _ p9 _ _ _ F1 m1 kwh (by decide) (nm_ "self" _ p7 _ _ _ F1 m0 ksf (by decide) ?_)) rfl)
 refine .of (setattrX hC1 X1 XC.set XC.what I1 (fun h2 tk2 I2 hk2 hs2=>?_) (Within.nil) (by rw [sizeLine_eq];simp))
 obtain ⟨o2,g2,c2,d2,_,dn2⟩:=hs2 _ e1
 have kk2:∀b o,b≠e→h1.get? b=some o→h2.get? b=some o:=fun b o nb hg=>hk2 b o nb (fun o₀ dx z1 z2=>by rw [e1]at z1;cases z1;cases z2) hg
 have F2:=key h2 fun b o nb hg=>kk2 b o nb (k1' b o nb hg)
 have hC2:=F2.keep _ _ (X₀ _ _ hC)
 have X2:T.K.In h2:=X₀.keeps F2.keep
 refine c_execs_cons (c_Assign_Attribute (nm_ "at" _ p13 _ _ _ F2 m2 kat (by decide) (nm_ "self" _ p11 _ _ _ F2 m0 ksf (by decide) ?_)) rfl)
 refine .of (setattrX (ns:=["what"]) hC2 X2 XC.set XC.at_ I2 (fun h3 tk3 I3 hk3 hs3=>?_) (Within.cons "what" v1 Within.nil) (by rw [sizeLine_eq];simp))
 obtain ⟨o3,g3,c3,d3,_,_⟩:=hs3 _ g2
 refine c_execs_nil (hq h3 tk3 (fun b o nb hg=>hk3 b o nb (fun o₀ dx z1 z2 zb=>?_) (kk2 b o nb (k1' b o nb hg))) ⟨o3,g3,?_,?_⟩)
 ·rw [g2]at z1;cases z1
  have:=dn2 rfl dx z2
  rw [←zb,k1' b o nb hg]at this;cases this
 ·rw [c3,c2]
 ·exact ⟨_,by rw [d3,d2],rfl,by simp⟩
end
end
end Mine
end
section
open PySem PySem.W PyProof.Rows PySem.Calls PySem.Spec
set_option genInjectivity false
set_option genSizeOf false
set_option genCtorIdx false
set_option bootstrap.genMatcherCode false
namespace Mine
section
section
variable {W:Wd}{T:Tabs}
noncomputable def InitAt(T:Tabs)(fI:Addr):Prop:=∃F:FO T.K fI,DefOk F.scope.names 3 [] F.params∧F.scope.names=initNames∧InitBody F.body∧∀us:List V,us=[]∨us=[.int (-1)]→Dflt F 3 us
theorem init_args{e:Addr}{xs:List V}(hl:xs.length=1∨xs.length=2):∃us:List V,(us=[]∨us=[.int (-1)])∧(V.ref e::xs).length+us.length=3∧∃x1 x2,V.ref e::xs++us=[.ref e,x1,x2]:=by
 cases xs with
 |nil=>cases hl <;> rename_i h <;> cases h
 |cons x r=>cases r with
  |nil=>exact ⟨_,.inr rfl,rfl,x,_,rfl⟩
  |cons y r=>cases r with
   |nil=>exact ⟨_,.inl rfl,rfl,x,y,rfl⟩
   |cons z r=>cases hl <;> rename_i h <;> cases h
theorem exc_init{C:Cx}{rk:Nat}(K:C.Ok W T (rk+1))(XC:ExcCls T){fI:Addr}(XI:InitAt T fI){g:RG}{s:Shared}{mF:SM}{H:Hp}{e tp:Addr}{vs:List Value}{xs:List V}{R:Result→Shared→Prop}
  (a:At W C (g.at e (excObj T.ff tp)) mF H s)(hvs:VRs vs xs)(hl:xs.length=1∨xs.length=2)
  (h:∀s' ob,At W C (g.at e ob) mF H s'→ob.cls=.ref T.ff→(∃ws,ob.data=.fields ws∧ws[1]?=some .none∧0<ws.size)→R (.ok (.ret .none)) s') :
  codeC (model W.prog W.w) C.A (.call (.ref fI) ⟨.ref e::vs,[]⟩) R s:=by
 obtain ⟨F₀,D,hns,hb,hbind⟩:=XI
 obtain ⟨us,hus,hl3,x1,x2,hx⟩:=init_args (e:=e) hl
 refine enter_def (KK:=fun m H'=>m=[some (.ref e),some x1,some x2,none]∧H'=H) (us:=us) F₀ D (hbind us hus) (by rw [hns];decide) K a (.cons (.ref e) hvs) hl3 (by
  show _=_∧_=_
  rw [hx,hns];exact ⟨rfl,rfl⟩) fun g' L' H' l s1 E' D' K' FG B₁ a' hm=>?_
 obtain ⟨hm,rfl⟩:=hm
 have hlk:∀i x V,initNames[i]?=some (x,NameKind.local)→initNames.lookup x=some .local→getLoc [some (.ref e),some x1,some x2,none] i=some V→∃v,l.mF x=some v∧VR v V:=fun i x V a1 a2 a3=>l.vars i x .local (by rw [←hns]at a1;exact a1) (by rw [←hns]at a2;exact a2) V (hm▸a3)
 refine (hlk 0 "self" _ rfl (by decide +kernel) rfl).elim fun v0 z0=>(hlk 1 "what" _ rfl (by decide +kernel) rfl).elim fun v1 z1=>(hlk 2 "at" _ rfl (by decide +kernel) rfl).elim fun v2 z2=>?_
 have it:=a'.it
 refine init_body E' D' K' hns XC hb a'.F it.2.2 it.1 it.2.1 (z0.2.r▸z0.1) z1.1 z2.1 fun h' tk' hk' hob=>?_
 obtain ⟨ob,o1,o2,o3⟩:=hob
 have a2:=a'.but (fun b x hb e=>hk' b x (fun q=>hb (q▸.head _)) e) o1
 exact .inl<|leaveK_ a2.F a2.own.news fun F3 N3=>h _ ob ⟨F3,own_up FG a2.own,a'.hs⟩ o2 o3
end
end
end Mine
end
section
open PySem PySem.W PyProof.Rows PySem.Calls PySem.Spec
namespace Mine
section
section
variable {M:Model}{A:Around}{E:VQ}{env:Env}{nm q:Str}{C P N:Addr}{bs:List Value}{sn:List Str}{hdct:Bool}{sub:List Value}{ab:Bool}{col:Option Bool}{dd:Option Addr}{k0 k1 k2 k3 k5:Option Value}
theorem c_raiseStmt{s:Shared}{x:Sem Value}{Q:Flow→Shared→Prop}(hh:A.handled=none)
  (h:wpC M A x (fun v s₁=>∃e od osl ws,v=.ref e∧s₁.heap.get? C=some (excClassObj nm q C N bs (excTail P) hdct sn sub ab col dd k0 k1 k2 k3 k5 "Exception.__new__")∧
   s₁.heap.get? e=some {cls:=.ref C,dict:=od,data:=.fields ws,slots:=osl}∧ws[1]?=some .none∧E (.ref e) s₁) E s) :
  wpC M A (raiseStmt env (some x) none) Q E s:=by
 obtain hcB:(Value.ref C::excTail P).contains (.type "BaseException")=true:=tail_has (by decide)
 unfold raiseStmt
 refine cbind (cmono h (fun v s₁ h₁=>?_) fun _ _ x=>x)
 obtain ⟨e,od,osl,ws,rfl,hC,he,h1,hE⟩:=h₁
 obtain ⟨hp,g,d,tk,os⟩:=s₁
 refine .of ?_
 repeat (first |with_reducible refine wpAny_loadPart_at he ?_ |with_reducible refine wpAny_loadPart_at hC ?_ | (with_reducible refine wpAny_isSubtype_exc hC ?_;rw [hcB]) |wp_step)
 rw [h1]
 refine wpAny_pure ?_
 rw [if_neg (by decide)]
 exact wpAny_pure (wpAny_raiseNew_none hh hE)
theorem c_Raise{s:Shared}{e:Expr}{pos:Pos}{Q:Flow→Shared→Prop}(hh:A.handled=none)
  (h:wpC M A (eval e env) (fun v s₁=>∃e od osl ws,v=.ref e∧s₁.heap.get? C=some (excClassObj nm q C N bs (excTail P) hdct sn sub ab col dd k0 k1 k2 k3 k5 "Exception.__new__")∧
   s₁.heap.get? e=some {cls:=.ref C,dict:=od,data:=.fields ws,slots:=osl}∧ws[1]?=some .none∧E (.ref e) s₁) E s) :
  wpC M A (exec (.Raise (some e) none pos) env) Q E s:=by
 rw [arm_exec_Raise]
 refine cbind (cstand ?_)
 exact c_raiseStmt hh (cbind (cmono h (fun v s₁ h₁=>cbind (cstand (cpure h₁))) fun _ _ x=>x))
end
end
end Mine
end
section
open PySem PySem.W PyProof.Rows PySem.Calls PySem.Spec
set_option maxHeartbeats 4000000
namespace Mine
section
section
variable {nm q:Str}{C P N:Addr}{bs:List Value}{hdct:Bool}{sn:List Str}{sub:List Value}{ab:Bool}{col:Option Bool}{dd:Option Addr}{k0 k1 k2 k3 k5:Option Value}
variable {h:Heap}{g:Array GenState}{d:Drawn}{t:Nat}{os:OsState}
theorem callC_excX{prog:Program}{w:World}{A:Around}{E:VQ}{K:Frag}{rest:List Value}{fI:Addr}{Q:VQ}(X:K.In h)
  (hC:h.get? C=some (excClassObj nm q C N bs (excTail P) hdct sn sub ab col dd k0 k1 k2 k3 k5 "Exception.__new__"))(hi:findIn K (.ref C) "__init__"=some (some (.ref fI)))(hf:isFn K (.ref fI)=true)
  (hcall:specialIn K (.ref C) "__call__"=some (some (.builtin "type.__call__")))
  (hq:∀h' e,Heap.MadeExcOf h h' e (.ref C) rest→
   codeC (model prog w) (A.under (.builtin "type.__call__" ⟨.ref C::rest,[]⟩)) (.call (.ref fI) ⟨.ref e::rest,[]⟩) (InitBack e fun r s'=>match r with | .ok (.ret v)=>Q v s' | .ok _=>False | .error e=>E e s') ⟨h',g,d,t,os⟩)(hrest:rest.length≤sizeLine) :
  wpC (model prog w) A (call (.ref C) rest) Q E ⟨h,g,d,t,os⟩:=by
 obtain F:=PySem.F.excBase_Exception
 obtain call:=looks_specialIn (M:=model prog w) X hcall
 refine ccall (codeC_of_tree rfl ?_)
 show wpC _ _ (callAny (.ref C) _) _ _ _
 simp only [callAny]
 refine cbindOf (wpAny_load hC ?_)
 show wpC _ _ (callAny.viaDunder (.ref C) _) _ _ _
 unfold callAny.viaDunder
 refine cbindOf (call.at ?_)
 dsimp only
 rw [tc_bind]
 refine cbind (cpure (cbind (cpure ?_)))
 refine cpure (a:=Fin.again (.call (.builtin "type.__call__") ⟨.ref C::rest,[]⟩)) (And.intro rfl ?_)
 refine codeC_of_tree rfl ?_
 show wpC _ A.in1 (do checkBuiltinCall "type.__call__" ⟨.ref C::rest,[]⟩;again (.builtin "type.__call__" ⟨.ref C::rest,[]⟩)) _ _ _
 refine cbindOf (wpAny_check_type_call_sub hC (cpure (And.intro (Code.quiet_builtin _ (by decide +kernel)) (codeC_of_tree (by show (!Builtin.Bytes.decodersThatHold.contains "type.__call__")=true;decide +kernel) ?_))))
 rw [den_builtin entry_typeCall]
 have k:∀b o,h.get? b=some o→((h.push {cls:=.type "tuple",data:=.seq rest.toArray}).push {cls:=.ref C,data:=.fields #[.ref h.objs.size,.none,.none,.none,.bool false,.none]}).get? b=some o:=fun b o e=>Heap.get?_push_of_some _ (Heap.get?_push_of_some _ e)
 have hC₁:=k _ _ hC
 have hget:((h.push {cls:=.type "tuple",data:=.seq rest.toArray}).push
   {cls:=.ref C,data:=.fields #[.ref h.objs.size,.none,.none,.none,.bool false,.none]}).get? (h.objs.size+1)=some
   {cls:=.ref C,data:=.fields #[.ref h.objs.size,.none,.none,.none,.bool false,.none]}:=by heap_get
 have hcC:(Value.ref C::excTail P).contains (.ref C)=true:=by simp
 have t1:Looks (model prog w) ((h.push {cls:=.type "tuple",data:=.seq rest.toArray}).push {cls:=.ref C,data:=.fields #[.ref h.objs.size,.none,.none,.none,.bool false,.none]}) (typeOf (.ref (h.objs.size+1))) (.ref C):=(Looks.ld hget).andThen .now
 have sub:Looks (model prog w) ((h.push {cls:=.type "tuple",data:=.seq rest.toArray}).push {cls:=.ref C,data:=.fields #[.ref h.objs.size,.none,.none,.none,.bool false,.none]}) (isSubtype (.ref C) (.ref C)) true:=fun A Q E s kk q=>by
  refine wpAny_isSubtype_exc (h:=s.heap) (kk _ _ hC₁) ?_
  rw [hcC];exact q
 have isi:=Looks.andThen t1 (f:=fun v=>isSubtype v (.ref C)) sub
 have spc:Looks (model prog w) ((h.push {cls:=.type "tuple",data:=.seq rest.toArray}).push {cls:=.ref C,data:=.fields #[.ref h.objs.size,.none,.none,.none,.bool false,.none]}) (specialOf (.ref (h.objs.size+1)) "__init__") (some (.ref fI)):=t1.andThen ((looks_findIn X hi).keeps k)
 have b1:=(bind_fn (M:=model prog w) X (.ref (h.objs.size+1)) (beq_iff_eq.mp hf)).keeps k
 show wpC _ _ (Builtin.«type.__call__» ⟨.ref C::rest,[]⟩) _ _ _
 unfold Builtin.«type.__call__»
 dsimp only
 rw [if_neg (by rw [show (Value.ref C == Value.type "type")=false from rfl];exact Bool.false_ne_true)]
 refine cbindOf (wpAny_mroOf_exc hC ?_)
 rw [if_neg (by simp)]
 refine cbindOf (wpAny_madeBy_exc hC ?_)
 dsimp only
 refine cbind (cpure (cbind (chold (.of (wpAny_call (codeAny_call_builtin_code (Code.quiet_builtin _ F.quiet) (check_newX hC ?_)))))))
 refine exc_newX hC ?_ hrest
 dsimp only
 refine cbindOf (isi.at ?_)
 rw [if_neg (by decide)]
 refine cbind (chold ?_)
 unfold callSpecial?
 refine cbindOf (spc.at ?_)
 dsimp only
 refine chold (cbindOf (b1.at ?_))
 dsimp only
 refine cbind (ccall (codeC_mono (hq _ (h.objs.size+1) ⟨k,Heap.get?_none_of_le (Nat.le_succ _),h.objs.size,hget,Heap.get?_none_of_le (Nat.le_refl _),Heap.get?_push_of_some _ (Heap.get?_push_at rfl rfl)⟩) fun r s' z=>?_))
 rcases r with e | (v |_ |_ |_) <;> first |exact z |exact z.elim |skip
 obtain ⟨rfl,z⟩:=z
 refine cpure ?_
 dsimp only
 exact cpure z
end
end
end Mine
end
section
open PySem PySem.W PyProof.Rows PySem.Calls PySem.Spec
set_option genInjectivity false
set_option genSizeOf false
set_option genCtorIdx false
set_option bootstrap.genMatcherCode false
namespace Mine
section
structure ExcOk(T:Tabs):Prop extends ExcCls T where
 keep:keepIn T.K (.ref T.ff)=true
 call:specialIn T.K (.ref T.ff) "__call__"=some (some (.builtin "type.__call__"))
 init:∃fI,findIn T.K (.ref T.ff) "__init__"=some (some (.ref fI))∧isFn T.K (.ref fI)=true∧InitAt T fI
section
variable {W:Wd}{T:Tabs}{CT:CT}{C:Cx}
theorem thr_of{g:RG}{mF:SM}{H:Hp}{h:Heap}{ge:Array GenState}{d:Drawn}{os:OsState}{e:Addr}{ob:Obj}{ws:Array Value}(a:AtH W C.h₀ C.L (g.at e ob) mF H h ge d os)(hG:g.G e=none)
  (hc:ob.cls=.ref T.ff)(hd:ob.data=.fields ws)(h1:ws[1]?=some .none)(h0:0<ws.size):Thr W T C g.G (.ref e) h H:=
 have it:=a.it
 have b:=a.leave (h':=h.hide e) (fun b x hb z=>(Heap.hide_ne h fun q=>hb (List.mem_singleton.mpr q)).trans z) hG
 .made b.F b.own (fun b o q=>Heap.of_hide q) (Heap.hide_self h e) it.2.2 hc hd h1 h0
theorem ss_raise(E:C.EnvOk){rk:Nat}(K:C.Ok W T (rk+2))(XO:ExcOk T){es:MEs}{l:List Expr}{np cpos pos:Pos}(hes:SEs W T CT C es l)(ho:ArgsOk C es l)(hlen:l.length=1∨l.length=2)
  (hl:C.ns.lookup (Str.ofString "FilterFault")=some .globalImplicit):SS W T CT C (.raise es) (.Raise (some (.Call (.Name (Str.ofString "FilterFault") np) l [] cpos)) none pos):=fun g lv H s QQ EE Q X a hw hp hq hx=>by
 obtain ⟨_,hcl,@⟨nm,q,P,N,bs,sn,sub,ab,col,dd,k0,k1,k2,k3,k5⟩⟩:=XO.cls
 obtain ⟨fI,hi,hf,XI⟩:=XO.init
 refine c_Raise (nm:=nm) (q:=q) (C:=T.ff) (P:=P) (N:=N) (bs:=bs) (sn:=sn) (hdct:=true) (sub:=sub) (ab:=ab) (col:=col) (dd:=dd) (k0:=k0) (k1:=k1) (k2:=k2) (k3:=k3) (k5:=k5) K.hh (c_Call (name_at E ⟨_,K⟩ a hl (by decide +kernel) (fun G=>G.ffAt) ?_))
 cases l with
 |nil=>rcases hlen with h |h <;> cases h
 |cons e0 rest=>
 refine c_callWith_K XO.keep (hes g lv.v H s _ EE (fun _ H=>X H) X cpos a hw (fun vs xs s' H' a' hv hvl hQ=>?_) hx) (ho.st e0 rest rfl) (ho.pl cpos e0 rest rfl)
 have X':=K.G.K.keeps a'.F.keep
 refine ⟨X',?_⟩
 obtain ⟨hp',g',d',t',os'⟩:=s'
 refine callC_excX (K:=T.K) X' (X' _ _ hcl) hi hf XO.call (fun h' e hme=>?_) (by rcases hlen with h |h <;> rw [List.nil_append,hvl,h] <;> decide)
 obtain ⟨kp,hnew,t,hget,_,_⟩:=hme
 have O:=a'.own.newG a'.F kp hnew hget
 exact exc_init (C:=C.under _) (K.type T.ff vs) XO.toExcCls XI (s:=⟨h',g',d',t',os'⟩) ⟨a'.F.keeps kp,O.2,a'.hs⟩ hv (hv.length▸hvl.symm▸hlen) fun s2 ob a2 hc2 hd2=>hd2.elim fun ws z=>⟨rfl,e,ob.dict,ob.slots,ws,rfl,(K.G.K.keeps a2.F.keep) _ _ hcl,by
  rw [show s2.heap.get? e=_ from a2.it.2.2]
  obtain ⟨oc,od,odt,osl⟩:=ob
  cases hc2;cases z.1;rfl,z.2.1,hx _ s2 H' a2.hs (thr_of (C:=C) a2 O.1 hc2 z.1 z.2.1 z.2.2) hQ⟩
end
end
section
section
variable {prog:Program}{w:World}{A:Around}{E:VQ}{s:Shared}
theorem nextOf_tuple_item{it l:Addr}{i:Nat}{items}{x:Value}{Q:VQ}(hit:s.heap.IsTupleIter it l i)
  (hl:s.heap.IsTuple l items)(hx:items[i]?=some x)
  (hQ:∀h',h'.IsTupleIter it l (i+1)→Heap.SameBut it s.heap h'→Q x {s with heap:=h'}) :
  wpAny (model prog w) A (Builtin.SmallTypes.nextOf (.ref it)) Q E s:=by
 obtain ⟨o,ho,hc,hd⟩:=id hit
 obtain ⟨ol,hol,_,nl,hdl⟩:=hl
 refine wpAny_bind (wpAny_callSpecial?_slot (name:=Str.ofString "__next__") hit.typeIs PySem.F.slot_tuple_iterator_next
  (wpAny_call_entry PySem.F.slot_tuple_iterator_next hit.typeIs PySem.F.entry_tuple_iterator_next ?_ (PySem.F.args_tuple_iterator_next_1 _)))
 show wpAny _ _ (field (.ref it) 0 >>= _) _ _ s
 refine wpAny_bind (wpAny_field ho hd (x:=.ref l) rfl ?_)
 rw [if_neg (show¬((Value.ref l == Value.none)=true) from Bool.false_ne_true)]
 show wpAny _ _ (field (.ref it) 1 >>= _) _ _ s
 refine wpAny_bind (wpAny_field ho hd (x:=.int i 0) rfl ?_)
 refine wpAny_bind (wpAny_seqItems hol hdl ?_)
 simp only [Int.toNat_natCast,hx]
 refine wpAny_bind (wpAny_setField ho hd (by simp) (wpAny_pure ⟨x,rfl,wpAny_pure (hQ _ ?_ (Heap.SameBut.update ..))⟩))
 exact ⟨_,Heap.get?_update_self _ ho (Obj.isFreed_of_fields (Obj.data_mapFields hd _)),(Obj.cls_mapFields ..).trans hc,by
  rw [Obj.data_mapFields hd];simp [rawInt]⟩
theorem nextOf_tuple_end{it l:Addr}{i:Nat}{items}{Q:VQ}(hh:A.handled=none)
  (hit:s.heap.IsTupleIter it l i)(hl:s.heap.IsTuple l items)(hx:items[i]?=none)
  (hE:∀h' e,Heap.ExtBut it s.heap h'→(∃o,h'.get? e=some o∧o.cls=.type "StopIteration")→E (.ref e) {s with heap:=h'}) :
  wpAny (model prog w) A (Builtin.SmallTypes.nextOf (.ref it)) Q E s:=by
 obtain ⟨o,ho,hc,hd⟩:=id hit
 obtain ⟨ol,hol,_,nl,hdl⟩:=hl
 refine wpAny_bind (wpAny_callSpecial?_slot (name:=Str.ofString "__next__") hit.typeIs PySem.F.slot_tuple_iterator_next
  (wpAny_call_entry PySem.F.slot_tuple_iterator_next hit.typeIs PySem.F.entry_tuple_iterator_next ?_ (PySem.F.args_tuple_iterator_next_1 _)))
 show wpAny _ _ (field (.ref it) 0 >>= _) _ _ s
 refine wpAny_bind (wpAny_field ho hd (x:=.ref l) rfl ?_)
 rw [if_neg (show¬((Value.ref l == Value.none)=true) from Bool.false_ne_true)]
 show wpAny _ _ (field (.ref it) 1 >>= _) _ _ s
 refine wpAny_bind (wpAny_field ho hd (x:=.int i 0) rfl ?_)
 refine wpAny_bind (wpAny_seqItems hol hdl ?_)
 simp only [Int.toNat_natCast,hx]
 refine wpAny_bind (wpAny_rule (wpAny_bind (wpAny_setField ho hd (by simp) ?_)))
 refine wpAny_bind ?_
 simp only [newExc,newTuple]
 refine wpAny_bind (wpAny_newObj_type ?_ (by size_fits))
 refine wpAny_bind (m:=firstArgMember _ _) (wpAny_of_eq (a:=Value.none) (by first |rfl | (simp only [firstArgMember];rfl)) ?_)
 refine wpAny_newObj_type ?_ (by size_fits)
 simp only [raiseNew]
 refine wpAny_bind (wpAny_handled ?_)
 first |rw [show A.in1.handled=none from hh] |rw [hh]
 refine wpAny_bind (wpAny_pure (wpAny_throw ?_))
 exact hE _ _ (((Heap.SameBut.update ..).extBut.push _).push _) ⟨_,Heap.get?_push_size _ rfl,rfl⟩
theorem drawsTuple(hh:A.handled=none)(it l:Addr)(hne:l≠it)(items:Array Value) :
  Draws prog w A it [it,l] items.size (fun i v=>items[i]?=some v) (fun i h=>h.IsTupleIter it l i∧h.IsTuple l items) where
 live:=fun _ _ st=>let ⟨o,ho,_⟩:=st.1;⟨o,ho⟩
 frame:=fun _ _ _ st hk=>⟨st.1.at fun o e=>hk it (by simp) o e,st.2.at fun o e=>hk l (by simp) o e⟩
 item:=fun i s Q E hi st hQ=>by
  refine nextOf_tuple_item st.1 st.2 (x:=items[i]) (by simp [hi]) fun h' hit' hs'=>?_
  exact hQ _ h' s.toks (by simp [hi]) ⟨hit',st.2.extBut hs'.extBut hne⟩ hs'
 done:=fun s Q E st hE=>nextOf_tuple_end hh st.1 st.2 (by simp) hE
theorem meets_enum_newT(l:Addr)(items:Array Value)(n:Nat)(dct:Option Addr)(sl:Array (Option Value)) :
  PySem.Meets (Builtin.«enumerate.__new__» ⟨[.type "enumerate",.ref l],[]⟩) (fun _ R s=>s.heap.get? l=some {cls:=.type "tuple",dict:=dct,data:=.seq items n,slots:=sl}∧
   R (.ok (.ret (.ref (s.heap.push {cls:=.type "tuple_iterator",data:=.fields #[.ref l,.int 0 0]}).objs.size)))
    {s with heap:=(s.heap.push {cls:=.type "tuple_iterator",data:=.fields #[.ref l,.int 0 0]}).push {cls:=.type "enumerate",data:=.fields #[.none,.bool false,.ref s.heap.objs.size,rawInt 0,.none,.none]}}):=
 .of_wp fun prog w A R s h=>by
  obtain ⟨hp,g,d,tk,os⟩:=s;obtain ⟨hl,h⟩:=h
  have hsub:=sub_enumerate
  have hL:Heap.IsTuple (Shared.heap ⟨hp,g,d,tk,os⟩) l items:=⟨_,hl,rfl,n,rfl⟩
  wp_walk using wpAny_loadPart' hl
  refine wpAny_stack_any fun st=>wpAny_pure ?_
  split
  ·rename_i c _ _ _ _ _
   cases (c == Value.type "enumerate")
   ·wp_walk using wpAny_loadPart' hl,wpAny_pyIter_tuple hL
    exact ⟨_,rfl,h⟩
   ·wp_walk using wpAny_loadPart' hl,wpAny_pyIter_tuple hL
    exact ⟨_,rfl,h⟩
  ·wp_walk using wpAny_loadPart' hl,wpAny_pyIter_tuple hL
   exact ⟨_,rfl,h⟩
theorem call_enum_tuple{l:Addr}{items:Array Value}{Q:VQ}(hL:s.heap.IsTuple l items)
  (h:∀h',IsEnum h' (s.heap.objs.size+1) s.heap.objs.size 0 .none→h'.IsTupleIter s.heap.objs.size l 0→
   (∀b o,s.heap.get? b=some o→h'.get? b=some o)→Q (.ref (s.heap.objs.size+1)) {s with heap:=h'}) :
  wpAny (model prog w) A (call (.type "enumerate") [.ref l]) Q E s:=by
 obtain ⟨⟨c,dct,dt,sl⟩,hl,hc,n,hd⟩:=hL
 replace hc:c=.type "tuple":=hc
 replace hd:dt=.seq items n:=hd
 subst hc hd
 refine callType_new PySem.F.called_enumerate (by decide) (PySem.F.typeCall_enumerate_1 _) (PySem.F.newCall_enumerate_1 _) (fun obj=>PySem.F.args_object_init_2 obj _) PySem.F.entry_enumerate_new
  (meets_enum_newT l items n dct sl) ⟨hl,?_⟩
 obtain hz:(s.heap.push {cls:=.type "tuple_iterator",data:=.fields #[.ref l,.int 0 0]}).objs.size=s.heap.objs.size+1:=Heap.size_push ..
 show _∧_
 rw [hz]
 obtain he:IsEnum ((s.heap.push {cls:=.type "tuple_iterator",data:=.fields #[.ref l,.int 0 0]}).push
   {cls:=.type "enumerate",data:=.fields #[.none,.bool false,.ref s.heap.objs.size,rawInt 0,.none,.none]}) (s.heap.objs.size+1) s.heap.objs.size 0 .none:=by
  have:=Heap.get?_push_size (s.heap.push {cls:=.type "tuple_iterator",data:=.fields #[.ref l,.int 0 0]})
   (o:={cls:=.type "enumerate",data:=.fields #[.none,.bool false,.ref s.heap.objs.size,rawInt 0,.none,.none]}) rfl
  rw [hz]at this;exact this
 exact ⟨⟨_,he,rfl⟩,h _ he ⟨_,Heap.get?_push_of_some _ (Heap.get?_push_size _ rfl),rfl,rfl⟩ fun b o x=>Heap.get?_push_of_some _ (Heap.get?_push_of_some _ x)⟩
end
open KTr KAttr WBin WCmp KSub KLen KSlf KSlt KSlc KMax LO WB SU KIs KApp AppL AppA ExtL ExtA KDget KTk KCel KMeth OV BT ST2 KSa KAsC WhI ForI CompI KMM KEn
section
variable {W:Wd}{h₀ h h':Heap}{L:Addr}{g:RG}{mF:SM}{H:Hp}{ge:Array GenState}{d:Drawn}{os:OsState}(a:AtH W h₀ L g mF H h ge d os)
include a
theorem AtH.re{wr:List Addr}{G':Addr→Option Obj}(k:∀b x,b∉wr→h.get? b=some x→h'.get? b=some x)(hwr:∀b∈wr,∃o,g.G b=some o)(h1:∀r ro,r∈wr→G' r=some ro→h'.get? r=some ro)(h2:∀r,r∉wr→G' r=g.G r):AtH W h₀ L ⟨g.r,G'⟩ mF H h' ge d os:=
 have raw:∀b∈wr,b≠L∧h₀.get? b=none:=fun b hb=>(hwr b hb).elim fun o e=>have z:=a.own.raw b o e;⟨z.1,z.2.1⟩
 have nw:∀b o,H b=some o→b∉wr:=fun b o e hb=>(hwr b hb).elim fun r q=>noS ((a.own.obj b o e).1.symm.trans q)
 ⟨⟨a.F.ns.elim fun oL z=>⟨oL,z.imp fun es z=>z.imp fun ep z=>⟨k _ _ (fun q=>(raw _ q).1 rfl) z.1,z.2⟩⟩,fun b ob e=>k _ _ (fun q=>noS ((raw b q).2.symm.trans e)) (a.F.keep b ob e),a.F.above⟩,
  ⟨fun b o e=>have z:=a.own.obj b o e;have n:=nw b o e;⟨(h2 b n).trans z.1,z.2.1,z.2.2.1,z.2.2.2.imp fun ro q=>⟨k b ro n q.1,q.2⟩⟩,fun b ro e=>by
   by_cases n:b∈wr
   ·exact ⟨(raw b n).1,(raw b n).2,h1 b ro n e⟩
   ·have z:=a.own.raw b ro ((h2 b n).symm.trans e);exact ⟨z.1,z.2.1,k b ro n z.2.2⟩⟩,a.hs⟩
theorem AtH.off{r:Addr}(e:h.get? r=none):r≠L∧h₀.get? r=none∧H r=none∧g.G r=none:=
 ⟨fun q=>a.F.ns.elim fun oL z=>z.elim fun _ z=>z.elim fun _ z=>noS (e.symm.trans (q▸z.1)),Option.eq_none_iff_forall_ne_some.mpr fun o q=>noS (e.symm.trans (a.F.keep _ _ q)),a.own.none_of e⟩
theorem AtH.addG{r:Addr}{ro:Obj}(e:h.get? r=some ro)(n:r≠L∧h₀.get? r=none∧H r=none∧g.G r=none):AtH W h₀ L (g.at r ro) mF H h ge d os:=
 ⟨a.F,⟨fun b x eb=>have z:=a.own.obj b x eb;⟨(if_neg fun q:b=r=>noS (n.2.2.1.symm.trans (q▸eb))).trans z.1,z.2⟩,fun b ro' eb=>by
  by_cases q:b=r
  ·subst q;exact sI ((if_pos rfl:gput g.G b (some ro) b=some ro).symm.trans eb)▸⟨n.1,n.2.1,e⟩
  ·exact a.own.raw b ro' ((if_neg q).symm.trans eb)⟩,a.hs⟩
end
section
variable {W:Wd}{T:Tabs}{CT:CT}{C:Cx}
noncomputable abbrev RG.c2(g:RG)(it e:Addr)(oi oe:Obj):RG:=(g.at it oi).at e oe
structure C2(g:RG)(it e:Addr):Prop where
 n:e≠it
 gi:g.G it=none
 ge:g.G e=none
section
variable {g:RG}{it e:Addr}(c:C2 g it e){oi oe:Obj}
include c
theorem C2.i:(g.c2 it e oi oe).G it=some oi:=(gput_ne c.n.symm).trans gput_self
theorem C2.o{r:Addr}(h:r∉[e,it]):(g.c2 it e oi oe).G r=g.G r:=(gput_ne fun q=>h (List.mem_cons.mpr (.inl q))).trans (gput_ne fun q=>h (.tail _ (List.mem_singleton.mpr q)))
theorem C2.has:∀r∈[e,it],∃o,(g.c2 it e oi oe).G r=some o:=List.forall_mem_cons.mpr ⟨⟨_,gput_self⟩,List.forall_mem_cons.mpr ⟨⟨_,c.i⟩,fun _ h=>absurd h List.not_mem_nil⟩⟩
theorem C2.none:∀r∈[e,it],g.G r=none:=List.forall_mem_cons.mpr ⟨c.ge,List.forall_mem_cons.mpr ⟨c.gi,fun _ h=>absurd h List.not_mem_nil⟩⟩
theorem C2.sub:∀r o,g.G r=some o→(g.c2 it e oi oe).G r=some o:=fun r o h=>(c.o fun q=>noS ((c.none r q).symm.trans h)).trans h
theorem C2.turn{h₀ h h':Heap}{L:Addr}{mF:SM}{H:Hp}{ge:Array GenState}{d:Drawn}{os:OsState}(a:AtH W h₀ L (g.c2 it e oi oe) mF H h ge d os)(k:∀b x,b∉[e,it]→h.get? b=some x→h'.get? b=some x){oi' oe':Obj}(hi:h'.get? it=some oi')(he:h'.get? e=some oe'):AtH W h₀ L (g.c2 it e oi' oe') mF H h' ge d os:=
 a.re k c.has (fun r ro h q=>by
  rcases List.mem_cons.mp h with rfl |h
  ·exact (sI (gput_self.symm.trans q))▸he
  ·obtain rfl:=List.mem_singleton.mp h;exact (sI (c.i.symm.trans q))▸hi) fun r h=>(c.o h).trans (c.o h).symm
theorem C2.leave{h₀ h h':Heap}{L:Addr}{mF:SM}{H:Hp}{ge:Array GenState}{d:Drawn}{os:OsState}(a:AtH W h₀ L (g.c2 it e oi oe) mF H h ge d os)(k:∀b x,b∉[e,it]→h.get? b=some x→h'.get? b=some x):AtH W h₀ L g mF H h' ge d os:=
 a.re k c.has (fun r ro h q=>noS ((c.none r h).symm.trans q)) fun r h=>(c.o h).symm
end
noncomputable def EnSt(W:Wd)(C:Cx)(vs:List V)(g:RG)(t it e:Addr)(J:List V→Nat→M→Hp→Prop)(n:Nat)(s:Shared):Prop:=
 ∀R:Prop,(∀k oi oe H,∀l:Ld C,n=vs.length-k→k≤vs.length→At W C (g.c2 it e oi oe) l.mF H s→(∃old,IsEnum s.heap e it k old)→s.heap.IsTupleIter it t k→J (vs.drop k) k l.m H→R)→R
theorem enum_loop(E:C.EnvOk){rk:Nat}(K:C.Ok W T rk){i j:Nat}{b:MSs}{lb:List Stmt}{tp:Pos}{kk:Nat}{es:List Expr}(h2:SSs W T CT C b lb)(ht:TgEs C [i,j] es){g:RG}{t it e:Addr}(c:C2 g it e)(nt:t≠it∧t≠e){vs:List V}{Q:QS}{X:QX}{QQ:Flow→Shared→Prop}{EE:VQ}
  (hp:PassesOwn (model W.prog W.w) C.A C.env EE)(hq:FinF W C g QQ Q)(hx:FinX W T C g EE X){n:Nat}{s:Shared}(h:EnSt W C vs g t it e (enumL i j (fun H'=>H' t=some (.tuple vs)) (sB (wSs CT b) X) Q) n s) :
  codeC (model W.prog W.w) C.A (.forLoop (.Tuple es kk tp) (.ref e) lb [] C.env) (fun r s'=>match r with | .ok f=>QQ f s' | .error x=>cameBackBy (model W.prog W.w) C.A C.env EE x s') s:=by
 refine codeC_forLoop2 (EnSt W C vs g t it e (enumL i j (fun H'=>H' t=some (.tuple vs)) (sB (wSs CT b) X) Q)) (fun n s2 h=>h _ fun k oi oe H2 l2 hn hle a2 he hi hF=>?_) n h
 have hGd:H2 t=some (.tuple vs):=by
  cases q:vs.drop k with
  |nil=>rw [q]at hF;exact hF.1
  |cons v r'=>rw [q]at hF;exact hF.1
 refine a2.own.isTup hGd fun items htp hvs hz=>?_
 have Wk:=WalksT.enumerateD (prog:=W.prog) (w:=W.w) (A:=C.A) (drawsTuple (A:=C.A.in1) K.hh it t nt.1 items) e c.n (fun q=>(List.mem_cons.mp q).elim c.n fun q=>nt.2 (List.mem_singleton.mp q).symm) (.head _)
 rcases Nat.lt_or_ge k vs.length with hlt |hge
 ·rw [List.drop_eq_getElem_cons hlt]at hF
  refine .of (Wk.item k s2 _ _ (hz▸hlt) ⟨he,hi,htp⟩ fun TT vals h3 tk hP hsz hT hMid hk3=>.of (Wk.go es kk tp k TT {s2 with heap:=h3,toks:=tk} _ _ hMid fun h4 hst4 hk4=>?_))
  refine hP.elim fun tk2 hP=>hP.elim fun xv hP=>(hvs.get (List.getElem?_eq_getElem hlt)).elim fun v' e4=>hst4.1.elim fun old4 he4=>hst4.2.1.elim fun oi4 hi4=>?_
  obtain rfl:xv=v':=sI (hP.1.symm.trans (Array.getElem?_toList.symm.trans e4.1))
  refine .of (assign_tup E K ht (l:=l2) (s:={s2 with heap:=h4,toks:=tk}) (vs:=[.int k,vs[k]]) (P:=fun m=>m=(l2.m.set i (some (.int k))).set j (some vs[k])) (hT.imp fun oT z=>⟨hk4 TT oT (Wk.apart k TT h3 hMid) z.1,z.2⟩) (by rw [hP.2];exact .cons (.int _ _) (.cons e4.2 .nil)) rfl rfl (c.turn a2 (fun b o hb q=>hk4 b o hb (hk3 b o hb q)) hi4.1 he4) fun s6 l6 a6 hm=>?_)
  refine wpC_passesOwn hp (h2 _ l6 H2 s6 _ EE _ X a6 (hm▸hF.2) hp (fun f fl l8 s8 H8 a8 hf8 hQ8=>?_) (hx.drop c.sub))
  have again:enumL i j (fun H'=>H' t=some (.tuple vs)) (sB (wSs CT b) X) Q (vs.drop (k+1)) (k+1) l8.m H8→∃m,m<n∧EnSt W C vs g t it e (enumL i j (fun H'=>H' t=some (.tuple vs)) (sB (wSs CT b) X) Q) m s8:=
   fun hQ8=>⟨vs.length-(k+1),hn▸Nat.sub_lt_sub_left hlt (Nat.lt_succ_self k),fun R z=>z (k+1) _ _ H8 l8 rfl hlt a8 ⟨old4,a8.it.2.2⟩ ⟨oi4,(a8.own.raw it oi4 c.i).2.2,hi4.2⟩ hQ8⟩
  cases fl with
  |next=>obtain rfl:=hf8;exact again hQ8
  |cont=>obtain rfl:=hf8;exact again hQ8
  |ret x=>obtain ⟨v,rfl,hv8⟩:=hf8;exact hq _ _ l8 s8 H8 (c.leave a8 fun _ _ _ e=>e) (.ret hv8) hQ8
 ·rw [List.drop_eq_nil_iff.mpr hge]at hF
  obtain rfl:k=items.size:=(Nat.le_antisymm hle hge).trans hz.symm
  exact .of (Wk.done s2 _ _ ⟨he,hi,htp⟩ fun h3 tk hk3=>hq .next .next l2 {s2 with heap:=h3,toks:=tk} H2 (c.leave a2 hk3) .next hF.2)
theorem ss_forEnum(E:C.EnvOk){rk:Nat}(K:C.Ok W T rk){i j:Nat}{a:ME}{b:MSs}{te ae:Expr}{lb:List Stmt}{np tp cpos pos:Pos}{kk:Nat}{es:List Expr}(h1:SE W T CT C a ae)(h2:SSs W T CT C b lb)(ht:TgEs C [i,j] es)(hte:te=.Tuple es kk tp)
  (hst:starEach [ae] C.env=[(false,eval ae C.env)])(hl:C.ns.lookup (Str.ofString "enumerate")=some .globalImplicit)
  (hf:∀x,foldedSetIterable (.Call (.Name (Str.ofString "enumerate") np) [ae] [] cpos) C.env x=pure x) :
  SS W T CT C (.forEnum i j a b) (.For te (.Call (.Name (Str.ofString "enumerate") np) [ae] [] cpos) lb [] pos):=fun g l H s QQ EE Q X a hw hp hq hx=>by
 subst hte
 exact c_For (c_Call (name_bi E K a hl (bt 11 rfl) (c_callWith_B1 (first:=[]) (.inr ⟨_,rfl⟩) (c_args_cons (h1 g l.v H s _ EE _ X a hw (fun v x s1 H1 a1 hv hw1=>c_args_nil (by
  cases hw1 with |iEn q hF=>
  exact hv.onR<|a1.own.isTup q fun items htp hvs hz=>.of (call_enum_tuple htp fun h' he hit hk=>.of (wpAny_pyIter_enum he (by
   have f0:=a1.off (Heap.get_size _)
   have f1:=a1.off (Heap.get?_none_of_le (Nat.le_succ _))
   have ni:s1.heap.objs.size+1≠s1.heap.objs.size:=Nat.succ_ne_self _
   exact hit.elim fun oi hi=>enum_loop E K h2 ht ⟨ni,f0.2.2.2,f1.2.2.2⟩ ⟨fun z=>noS (f0.2.2.1.symm.trans (z▸q)),fun z=>noS (f1.2.2.1.symm.trans (z▸q))⟩ hp hq hx (s:={s1 with heap:=h'}) fun R z=>z 0 oi _ H1 l rfl (Nat.zero_le _)
    (((a1.grown hk).addG hi.1 f0).addG he ⟨f1.1,f1.2.1,f1.2.2.1,(gput_ne ni).trans f1.2.2.2⟩) ⟨_,he⟩ ⟨oi,hi⟩ hF))))) hx) hst) hst rfl))) hf
end
end
section
noncomputable abbrev Ns:=List (Str×NameKind)
set_option genInjectivity false in
set_option genSizeOf false in
inductive Chk(P:Prop):Type
 |no
 |yes (h:P)
noncomputable section
namespace Chk
variable {P Q:Prop}
noncomputable def ok(c:Chk P):Bool:=Chk.rec (motive:=fun _=>Bool) false (fun _=>true) c
theorem get:∀c:Chk P,c.ok=true→P
 | .yes h,_=>h
noncomputable def map(c:Chk P)(f:P→Q):Chk Q:=Chk.rec (motive:=fun _=>Chk Q) .no (fun h=>.yes (f h)) c
noncomputable def with_(c:Chk P)(f:P→Chk Q):Chk Q:=Chk.rec (motive:=fun _=>Chk Q) .no f c
noncomputable def ifB(b:Bool)(k:b=true→Chk P):Chk P:=Bool.rec (motive:=fun c=>b=c→Chk P) (fun _=>.no) k b rfl
end Chk
noncomputable def eqS(f:String){P:Str→Prop}(x:Str)(k:Chk (P (Str.ofString f))):Chk (P x):=.ifB (x == Str.ofString f) fun h=>k.map fun p=>(eq_of_beq h).symm▸p
noncomputable def eqD{α:Type}[DecidableEq α](a:α){P:α→Prop}(x:α)(k:Chk (P a)):Chk (P x):=.ifB (decide (x=a)) fun h=>k.map fun p=>(of_decide_eq_true h).symm▸p
section
variable {α:Type}{P:List α→Prop}
noncomputable def onNil(l:List α)(k:Chk (P [])):Chk (P l):=List.casesOn (motive:=fun l=>Chk (P l)) l k fun _ _=>.no
noncomputable def onCons(l:List α)(k:∀a r,Chk (P (a::r))):Chk (P l):=List.casesOn (motive:=fun l=>Chk (P l)) l .no k
noncomputable def on1(l:List α)(k:∀a,Chk (P [a])):Chk (P l):=onCons l fun a r=>onNil (P:=fun r=>P (a::r)) r (k a)
noncomputable def on2(l:List α)(k:∀a b,Chk (P [a,b])):Chk (P l):=onCons l fun a r=>on1 (P:=fun r=>P (a::r)) r (k a)
noncomputable def on3(l:List α)(k:∀a b c,Chk (P [a,b,c])):Chk (P l):=onCons l fun a r=>on2 (P:=fun r=>P (a::r)) r (k a)
variable {R:Option α→Prop}
noncomputable def onNone(o:Option α)(k:Chk (R none)):Chk (R o):=Option.casesOn (motive:=fun o=>Chk (R o)) o k fun _=>.no
noncomputable def onSome(o:Option α)(k:∀a,Chk (R (some a))):Chk (R o):=Option.casesOn (motive:=fun o=>Chk (R o)) o .no k
end
noncomputable def tg{a:Nat}(b:Nat){P:Prop}(k:a=b→Chk P):Chk P:=.ifB (Nat.beq a b) fun h=>k (Nat.eq_of_beq_eq_true h)
section
variable {P:Expr→Prop}
noncomputable def onName(e:Expr)(k:∀x p,Chk (P (.Name x p))):Chk (P e):=tg 23 fun h=>PySem.Expr.Name.elim e h k
noncomputable def onConst(e:Expr)(k:∀c n p,Chk (P (.Constant c n p))):Chk (P e):=tg 19 fun h=>PySem.Expr.Constant.elim e h k
noncomputable def onAttr(e:Expr)(k:∀o x p,Chk (P (.Attribute o x p))):Chk (P e):=tg 20 fun h=>PySem.Expr.Attribute.elim e h k
noncomputable def onBin(e:Expr)(k:∀l o r p,Chk (P (.BinOp l o r p))):Chk (P e):=tg 2 fun h=>PySem.Expr.BinOp.elim e h k
noncomputable def onUn(e:Expr)(k:∀o x p,Chk (P (.UnaryOp o x p))):Chk (P e):=tg 3 fun h=>PySem.Expr.UnaryOp.elim e h k
noncomputable def onCmp(e:Expr)(k:∀l os rs p,Chk (P (.Compare l os rs p))):Chk (P e):=tg 15 fun h=>PySem.Expr.Compare.elim e h k
noncomputable def onBool(e:Expr)(k:∀o l p,Chk (P (.BoolOp o l p))):Chk (P e):=tg 0 fun h=>PySem.Expr.BoolOp.elim e h k
noncomputable def onIf(e:Expr)(k:∀c a b p,Chk (P (.IfExp c a b p))):Chk (P e):=tg 5 fun h=>PySem.Expr.IfExp.elim e h k
noncomputable def onSub(e:Expr)(k:∀l s p,Chk (P (.Subscript l s p))):Chk (P e):=tg 21 fun h=>PySem.Expr.Subscript.elim e h k
noncomputable def onSlice(e:Expr)(k:∀a b p,Chk (P (.Slice a b none p))):Chk (P e):=tg 26 fun h=>PySem.Expr.Slice.elim e h fun a b c p=>onNone (R:=fun c=>P (.Slice a b c p)) c (k a b p)
noncomputable def onCall(e:Expr)(k:∀f l p,Chk (P (.Call f l [] p))):Chk (P e):=tg 16 fun h=>PySem.Expr.Call.elim e h fun f l w p=>onNil (P:=fun w=>P (.Call f l w p)) w (k f l p)
noncomputable def onList(e:Expr)(k:∀l p,Chk (P (.List l p))):Chk (P e):=tg 24 fun h=>PySem.Expr.List.elim e h k
noncomputable def onTuple(e:Expr)(k:∀l n p,Chk (P (.Tuple l n p))):Chk (P e):=tg 25 fun h=>PySem.Expr.Tuple.elim e h k
noncomputable def onDict(e:Expr)(k:∀l m p,Chk (P (.Dict l m p))):Chk (P e):=tg 6 fun h=>PySem.Expr.Dict.elim e h k
noncomputable def onComp(e:Expr)(k:∀a t i s p,Chk (P (.ListComp a [⟨t,i,[],0⟩] s p))):Chk (P e):=tg 8 fun h=>PySem.Expr.ListComp.elim e h fun a gs s p=>on1 (P:=fun gs=>P (.ListComp a gs s p)) gs fun g=>
 PySem.Comprehension.casesOn (motive_3:=fun g=>Chk (P (.ListComp a [g] s p))) g fun t i f n=>onNil (P:=fun f=>P (.ListComp a [⟨t,i,f,n⟩] s p)) f (eqD 0 (P:=fun n=>P (.ListComp a [⟨t,i,[],n⟩] s p)) n (k a t i s p))
end
section
variable {P:Stmt→Prop}
noncomputable def onAsg(e:Stmt)(k:∀t v p,Chk (P (.Assign [t] v p))):Chk (P e):=tg 5 fun h=>PySem.Stmt.Assign.elim e h fun l v p=>on1 (P:=fun l=>P (.Assign l v p)) l fun t=>k t v p
noncomputable def onAug(e:Stmt)(k:∀t o v p,Chk (P (.AugAssign t o v p))):Chk (P e):=tg 7 fun h=>PySem.Stmt.AugAssign.elim e h k
noncomputable def onFor(e:Stmt)(k:∀t i b p,Chk (P (.For t i b [] p))):Chk (P e):=tg 9 fun h=>PySem.Stmt.For.elim e h fun t i b o p=>onNil (P:=fun o=>P (.For t i b o p)) o (k t i b p)
noncomputable def onWhile(e:Stmt)(k:∀c b p,Chk (P (.While c b [] p))):Chk (P e):=tg 11 fun h=>PySem.Stmt.While.elim e h fun c b o p=>onNil (P:=fun o=>P (.While c b o p)) o (k c b p)
noncomputable def onIfS(e:Stmt)(k:∀c a b p,Chk (P (.If c a b p))):Chk (P e):=tg 12 fun h=>PySem.Stmt.If.elim e h k
noncomputable def onRet(e:Stmt)(k:∀v p,Chk (P (.Return v p))):Chk (P e):=tg 3 fun h=>PySem.Stmt.Return.elim e h k
noncomputable def onCont(e:Stmt)(k:∀p,Chk (P (.Continue p))):Chk (P e):=tg 27 fun h=>PySem.Stmt.Continue.elim e h k
noncomputable def onExprS(e:Stmt)(k:∀v p,Chk (P (.Expr v p))):Chk (P e):=tg 24 fun h=>PySem.Stmt.Expr.elim e h k
noncomputable def onRaise(e:Stmt)(k:∀v p,Chk (P (.Raise (some v) none p))):Chk (P e):=tg 16 fun h=>PySem.Stmt.Raise.elim e h fun a b p=>onNone (R:=fun b=>P (.Raise a b p)) b (onSome (R:=fun a=>P (.Raise a none p)) a fun v=>k v p)
end
noncomputable def nameAt(ns:Ns)(i:Nat)(x:Str)(k:NameKind):Bool:=decide (ns[i]?=some (x,k))
noncomputable def nodbg(x:Str):Bool := !(x == ("__debug__":Str)) && !(x == ("__classdict__":Str))
noncomputable def notStar(e:Expr):Bool := !Nat.beq e.ctorIdx 22
noncomputable def notSlice(e:Expr):Bool := !Nat.beq e.ctorIdx 26
noncomputable def notCall(e:Expr):Bool := !Nat.beq e.ctorIdx 16
noncomputable def notSet(e:Expr):Bool := !Nat.beq e.ctorIdx 7
noncomputable def notTuple(e:Expr):Bool := !Nat.beq e.ctorIdx 25
noncomputable def plainV(e:Expr):Bool := !(Nat.ble 8 e.ctorIdx&&Nat.ble e.ctorIdx 10)
noncomputable def argsB(l:List Expr):Bool:=l.all notStar&&decide (l.length<29)
noncomputable def nodB(ns:Ns):Bool:=decide ((ns.map (·.1)).Nodup)
noncomputable def frB(l:Ns)(ns:Ns)(p:Nat×Nat):Bool:=match l[p.1]? with |some (y,.free)=>nameAt ns p.2 y .cell||nameAt ns p.2 y .free |_=>false
noncomputable def compB(ns:Ns)(scope:Scope)(xi:Nat)(x:Str)(fr:List (Nat×Nat)):Bool:=
 decide (scope.kind=.function)&&nodB scope.names&&scope.names.all (fun y=>decide (y.2≠.cell))&&nameAt scope.names xi x .local &&
 scope.names.all (fun y => !decide (y.2=.free)||fr.any fun p=>decide (scope.names[p.1]?=some y))&&fr.all (frB scope.names ns)
end
noncomputable def MeetsC(W:Wd)(T:Tabs)(CT:CT)(C:Cx)(g:String)(f:Addr):Prop:=
 ∀(q:RG) (mF:SM) (H:Hp) (s:Shared) (vs:List Value) (xs:List V) (QQ EE:VQ) (Q:V→Hp→Prop) (X:Hp→Prop),
  At W C q mF H s→VRs vs xs→CT g xs H Q X→Fin1 W C q mF QQ Q→FinX W T C q EE X→codeC (model W.prog W.w) C.A (.call (.ref f) ⟨vs,[]⟩) (retR QQ EE) s
structure Good(W:Wd)(T:Tabs)(CT:CT)(C:Cx)(rk:Nat)(defs:List String):Prop where
 E:C.EnvOk
 K:C.Ok W T (rk+2)
 XO:ExcOk T
 hm:∀g∈defs,∃a,(g,a)∈T.defs∧keepIn T.K (.ref a)=true∧MeetsC W T CT C g a
 hme:∀c f b,(c,f)∈methsOf→T.fa (c++"."++f)=some b→Meets W T CT (rk+2) (c++"."++f) b
 hin:∀c a,c∈T.cls→T.fa (c++".__init__")=some a→Meets W T CT (rk+1) (c++".__init__") a
 ht:MeetsT W T CT (rk+2)
theorem Good.comp{W:Wd}{T:Tabs}{CT:CT}{C:Cx}{rk:Nat}{defs:List String}(g:Good W T CT C rk defs){scope:Scope}{xi:Nat}{x:Str}{fr:List (Nat×Nat)}(O:CompOk C scope xi x fr)(cl:List (Str×Addr))(Lc:Addr):Good W T CT (C.comp scope cl Lc) rk defs:=
 ⟨comp_env g.E O cl Lc,comp_ok g.K scope cl Lc,g.XO,g.hm,g.hme,g.hin,g.ht⟩
noncomputable def PE(W:Wd)(T:Tabs)(CT:CT)(C:Cx)(t:Bool)(me:ME)(e:Expr):Prop:=match t with |false=>SE W T CT C me e |true=>ST W T CT C me e
section
variable {W:Wd}{T:Tabs}{CT:CT}{C:Cx}
theorem se_callC(E:C.EnvOk){rk:Nat}(K:C.Ok W T rk){g:String}{a:Addr}{es:MEs}{l:List Expr}{np pos:Pos}(hes:SEs W T CT C es l)(ho:ArgsOk C es l)
  (hg:(g,a)∈T.defs)(hk:keepIn T.K (.ref a)=true)(hl:C.ns.lookup (Str.ofString g)=some .globalImplicit)(hd:(Str.ofString g == ("__debug__":Str))=false)(hm:MeetsC W T CT C g a) :
  SE W T CT C (.call g es) (.Call (.Name (Str.ofString g) np) l [] pos):=fun q lv H s QQ EE Q X a hw hq hx=>
 c_Call (name_at E ⟨_,K⟩ a hl hd (fun G=>G.def hg) (callWith_es (first:=[]) K hes ho hk a hw (fun vs xs s' H' a' hv hQ=>ccall (hm q lv.mF H' s' vs xs QQ EE Q X a' hv hQ hq hx)) hx))
theorem se_byteC{c:List UInt8}{k:Nat}{pos:Pos}:SE W T CT C (.cst (.bytes (c.map UInt8.toNat))) (.Constant (.bytes c) k pos):=
 fun q lv H s QQ EE Q X a hw hq hx=>.of<|Constant_bytes (hq _ _ {s with toks:=s.toks+1} H a (VR.bytes c.toArray s.toks) hw)
theorem andL{a b:Bool}(h:(a&&b)=true):a=true:=(Bool.and_eq_true_iff.mp h).1
theorem andR{a b:Bool}(h:(a&&b)=true):b=true:=(Bool.and_eq_true_iff.mp h).2
theorem notT{b:Bool}(h:(!b)=true):b=false:=Bool.not_eq_true' _▸h
theorem nodbg_ok{x:Str}(h:nodbg x=true):(x == ("__debug__":Str))=false∧(x == ("__classdict__":Str))=false:=⟨notT (andL h),notT (andR h)⟩
theorem star_ok{e:Expr}{l:List Expr}{env:Env}(h:notStar e=true):starEach (e::l) env=(false,eval e env)::starEach l env:=by
 cases e <;> first |rfl |exact nomatch h
theorem sub_ok{e:Expr}(h:notSlice e=true)(o i:Value):subscripted e false o i=operate [o,i] (getItem o i):=by
 cases e <;> first |rfl |exact nomatch h
theorem aug_ok{e:Expr}(h:notSlice e=true)(ov iv new:Value):augStore e ov iv new=(do holding [new,ov,iv] (setItem ov iv new);release [new,ov,iv] [];pure .next):=by
 cases e <;> first |rfl |exact nomatch h
theorem base_ok{e:Expr}(h:notCall e=true)(f:Str)(env:Env)(x:Sem Value):attributeBase e f env x=x:=by
 cases e <;> first |rfl |exact nomatch h
theorem set_ok{e:Expr}(h:notSet e=true)(env:Env)(x:Value):foldedSetIterable e env x=pure x:=by
 cases e <;> first |rfl |exact nomatch h
theorem plainV_ok{e:Expr}(h:plainV e=true)(t:Option Expr)(n:Nat)(env:Env):swapsWith e t n env=pure false:=by
 cases e <;> first |rfl |exact nomatch h
theorem swap_other{e t:Expr}(ht:∀x p,t≠.Name x p)(n:Nat)(env:Env):swapsWith e (some t) n env=pure false:=by
 cases e <;> first |rfl | (cases t <;> first |rfl |exact absurd rfl (ht _ _))
theorem stores_ok{e:Expr}(h:notTuple e=true)(t:Expr)(env:Env):swappedStores [t] e env=pure none:=by
 cases t <;> first |rfl | (cases e <;> first |rfl |exact nomatch h)
theorem args_pl{l:List Expr}(h:l.all notStar=true)(pos:Pos)(env:Env):(backTo pos (starEach l env)).any (·.1)=false:=by
 induction l with
 |nil=>rfl
 |cons e r ih=>rw [star_ok (andL h)];exact ih (andR h)
theorem args_c{e:Expr}{l r:List Expr}(q:l=e::r)(h:l.all notStar=true):(notStar e&&r.all notStar)=true:=by subst q;exact h
theorem args_ok{es:MEs}{l:List Expr}(h:argsB l=true)(hn:l=[]→es=.nil):ArgsOk C es l:=
 ⟨hn,fun e rest q=>star_ok (andL (args_c q (andL h))),fun pos e rest q=>args_pl (andR (args_c q (andL h))) _ _⟩
theorem args_len{l:List Expr}(h:argsB l=true):l.length<29:=of_decide_eq_true (andR h)
theorem few_ok{l:List Expr}(h:argsB l=true)(pos:Pos)(env:Env):methodCallForm (l.length+0) (backTo pos (starEach l env)) (backToKw pos (keywordEach [] env))=true:=by
 unfold methodCallForm
 obtain e1:(backTo pos (starEach l env)).all (!·.1)=true:=by
  rw [List.all_eq_not_any_not]
  simp only [Bool.not_not]
  rw [args_pl (andL h)];rfl
 simp only [e1]
 exact decide_eq_true (Nat.lt_trans (args_len h) (by decide))
theorem mc_ok{o:Expr}{f:Str}{ap pos:Pos}{l:List Expr}{env:Env}(h1:notCall o=true)(h2:(ap.endLine == pos.line)=true)(h3:argsB l=true) :
  eval (.Call (.Attribute o f ap) l [] pos) env=(do
   let ov←eval o env
   standAt ap.atName
   let (f,first)←holding [ov] (getMethod ov f (plOf o env))
   callWith pos f first (backTo pos (starEach l env)) []):=mc_eq (base_ok h1 _ _ _) h2 (few_ok h3 _ _)
theorem cLine_lt{rk:Nat}(K:C.Ok W T rk):C.A.units+64<cLine:=by
 have:=K.hu
 have:cLine=9999∨9100<cLine:=by decide
 omega
theorem PE.pl{t:Bool}{me:ME}{e:Expr}(hp:∀env x,isTrue e env x=(do let v←x;standAt e.pos;holding [v] (truthy v)))(h:SE W T CT C me e):PE W T CT C t me e:=
 match t with |false=>h |true=>ST.plain h (hp _ _)
theorem PE.ofF{t:Bool}{me:ME}{e:Expr}(hp:(!t)=true)(h:SE W T CT C me e):PE W T CT C t me e:=notT hp▸h
end
structure Al where
 defs:List String
 cls:List String
 gi:List (String×Int)
structure GL(L:Al)(W:Wd)(T:Tabs)(CT:CT)(C:Cx)(rk:Nat)(ns:Ns):Prop extends Good W T CT C rk L.defs where
 ns:C.ns=ns
 gi:∀p∈L.gi,p∈T.gi
 cls:∀c∈L.cls,c∈T.cls
section
variable {L:Al}{W:Wd}{T:Tabs}{CT:CT}{C:Cx}{rk:Nat}{ns:Ns}
theorem GL.at(g:GL L W T CT C rk ns){i:Nat}{x:Str}{k:NameKind}(h:nameAt ns i x k=true):C.ns[i]?=some (x,k):=(congrArg (·[i]?) g.ns).trans (of_decide_eq_true h)
theorem GL.lk(g:GL L W T CT C rk ns){i:Nat}{x:Str}{k:NameKind}(h:nameAt ns i x k=true):C.ns.lookup x=some k:=look_of_nodup g.E.nd (g.at h)
theorem GL.gl(g:GL L W T CT C rk ns){x:Str}{k:NameKind}(h:decide (ns.lookup x=some k)=true):C.ns.lookup x=some k:=(congrArg (List.lookup x) g.ns).trans (of_decide_eq_true h)
theorem GL.compOk(g:GL L W T CT C rk ns){scope:Scope}{xi:Nat}{x:Str}{fr:List (Nat×Nat)}(h:compB ns scope xi x fr=true):CompOk C scope xi x fr:=by
 refine ⟨of_decide_eq_true (andL (andL (andL (andL (andL h))))),of_decide_eq_true (andR (andL (andL (andL (andL h))))),fun y hy=>of_decide_eq_true (List.all_eq_true.mp (andR (andL (andL (andL h)))) y hy),of_decide_eq_true (andR (andL (andL h))),fun y hy hf=>?_,fun p hp=>?_⟩
 ·rcases Bool.or_eq_true_iff.mp (List.all_eq_true.mp (andR (andL h)) y hy) with q |q
  ·exact absurd hf (of_decide_eq_false (notT q))
  ·obtain ⟨p,hp,hz⟩:=List.any_eq_true.mp q
   exact ⟨p,hp,of_decide_eq_true hz⟩
 ·have q:=List.all_eq_true.mp (andR h) p hp
  unfold frB at q
  generalize e:scope.names[p.1]?=o at q
  cases o with
  |none=>exact nomatch q
  |some y=>
   obtain ⟨y,k⟩:=y
   cases k with
   |free=>
    refine (Bool.or_eq_true_iff.mp q).elim (fun h=>⟨y,.cell,rfl,g.at h,g.lk h,.inl rfl⟩) (fun h=>⟨y,.free,rfl,g.at h,g.lk h,.inr rfl⟩)
   |_=>exact nomatch q
theorem GL.comp(g:GL L W T CT C rk ns){scope:Scope}{xi:Nat}{x:Str}{fr:List (Nat×Nat)}(h:compB ns scope xi x fr=true)(cl:List (Str×Addr))(Lc:Addr):GL L W T CT (C.comp scope cl Lc) rk scope.names:=
 ⟨g.toGood.comp (g.compOk h) cl Lc,rfl,g.gi,g.cls⟩
end
end
end Mine
end
section
open PySem PySem.W PyProof.Rows PySem.Calls PySem.Spec
namespace Mine
section
noncomputable section
noncomputable def TE(L:Al)(ns:Ns)(t:Bool)(me:ME)(e:Expr):Prop:=∀W T CT C rk,GL L W T CT C rk ns→PE W T CT C t me e
noncomputable def TEs(L:Al)(ns:Ns)(es:MEs)(l:List Expr):Prop:=(l=[]→es=.nil)∧∀W T CT C rk,GL L W T CT C rk ns→SEs W T CT C es l
noncomputable def TB(L:Al)(ns:Ns)(t:Bool)(es:MEs)(l:List Expr):Prop:=∀b p,TE L ns t (.bop b es) (.BoolOp (bopOf b) l p)
noncomputable def TI(L:Al)(ns:Ns)(it:MI)(e:Expr):Prop:=∀W T CT C rk,GL L W T CT C rk ns→SI W T CT C it e
noncomputable abbrev IE(L:Al)(a:ME):=∀ns t e,Chk (TE L ns t a e)
structure IEs(L:Al)(es:MEs) where
 s:∀ns l,Chk (TEs L ns es l)
 b:∀ns t l,Chk (TB L ns t es l)
noncomputable abbrev II(L:Al)(it:MI):=∀ns e,Chk (TI L ns it e)
variable {L:Al}
noncomputable def onG(g:String)(ns:Ns){P:Expr→Prop}(e:Expr)(k:∀p,decide (ns.lookup (Str.ofString g)=some .globalImplicit)=true→Chk (P (.Name (Str.ofString g) p))):Chk (P e):=
 onName e fun x p=>eqS g (P:=fun x=>P (.Name x p)) x (.ifB _ fun h=>k p h)
noncomputable def onCG(g:String)(ns:Ns){P:Expr→Prop}(e:Expr)(k:∀n l p,decide (ns.lookup (Str.ofString g)=some .globalImplicit)=true→Chk (P (.Call (.Name (Str.ofString g) n) l [] p))):Chk (P e):=
 onCall e fun f l p=>onG g ns (P:=fun f=>P (.Call f l [] p)) f fun n h=>k n l p h
noncomputable def onMC(g:String){P:Expr→Prop}(e:Expr)(k:∀o q l p,notCall o=true→(q.endLine == p.line)=true→argsB l=true→Chk (P (.Call (.Attribute o (Str.ofString g) q) l [] p))):Chk (P e):=
 onCall e fun f l p=>onAttr (P:=fun f=>P (.Call f l [] p)) f fun o x q=>eqS g (P:=fun x=>P (.Call (.Attribute o x q) l [] p)) x (.ifB _ fun h1=>.ifB _ fun h2=>.ifB _ fun h3=>k o q l p h1 h2 h3)
noncomputable def uLoc(i:Nat):IE L (.loc i):=fun ns t e=>onName e fun x p=>.ifB (nameAt ns i x .local) fun h1=>.ifB (nodbg x) fun h2=>.yes fun _ _ _ _ _ g=>.pl (fun _ _=>rfl) (se_loc g.E (g.at h1) (g.lk h1) (nodbg_ok h2).1)
noncomputable def celB{β:Prop}(ns:Ns)(i:Nat)(x:Str)(k:∀k,(k=NameKind.cell∨k=.free)→nameAt ns i x k=true→nodbg x=true→Chk β):Chk β:=
 .ifB (nodbg x) fun h2=>Bool.rec (motive:=fun c=>nameAt ns i x .cell=c→Chk β) (fun _=>.ifB _ fun h=>k .free (.inr rfl) h h2) (fun h=>k .cell (.inl rfl) h h2) (nameAt ns i x .cell) rfl
noncomputable def uCel(i:Nat):IE L (.cel i):=fun ns t e=>onName e fun x p=>celB ns i x fun k hk h1 h2=>.yes fun _ _ _ _ _ g=>.pl (fun _ _=>rfl) (se_cel g.E (g.at h1) (g.lk h1) hk (nodbg_ok h2).1 (nodbg_ok h2).2)
noncomputable def SC(v:V)(c:Const):Prop:=∀W T CT C n p,SE W T CT C (.cst v) (.Constant c n p)
noncomputable def uC(v:V)(c:Const):Chk (SC v c):=V.casesOn (motive:=fun v=>Chk (SC v c)) v
 (tg 0 fun h=>Const.none.elim (motive:=fun c=>Chk (SC .none c)) c h (.yes fun _ _ _ _ _ _=>se_none))
 (fun b=>tg 1 fun h=>Const.bool.elim (motive:=fun c=>Chk (SC (.bool b) c)) c h fun x=>eqD b (P:=fun x=>SC (.bool b) (.bool x)) x (.yes fun _ _ _ _ _ _=>se_bool))
 (fun i=>tg 2 fun h=>Const.int.elim (motive:=fun c=>Chk (SC (.int i) c)) c h fun x=>eqD i (P:=fun x=>SC (.int i) (.int x)) x (.yes fun _ _ _ _ _ _=>se_int))
 (fun s=>tg 5 fun h=>Const.str.elim (motive:=fun c=>Chk (SC (.str s) c)) c h fun x=>eqS s (P:=fun x=>SC (.str s) (.str x)) x (.yes fun _ _ _ _ _ _=>se_str))
 (fun b=>tg 6 fun h=>Const.bytes.elim (motive:=fun c=>Chk (SC (.bytes b) c)) c h fun x=>.ifB (decide (x.map UInt8.toNat=b)) fun h=>.yes fun _ _ _ _ _ _=>of_decide_eq_true h▸se_byteC)
 (fun _=>.no)
noncomputable def uCst(v:V):IE L (.cst v):=fun ns t e=>onConst e fun c n p=>(uC v c).map fun s _ _ _ _ _ g=>.pl (fun _ _=>rfl) (s _ _ _ _ _ _)
noncomputable def uGint(x:String)(i:Int):IE L (.gint x i):=fun ns t e=>onG x ns e fun p h=>.ifB (nodbg (Str.ofString x)) fun h3=>.ifB (decide ((x,i)∈L.gi)) fun h2=>.yes fun _ _ _ _ _ g=>.pl (fun _ _=>rfl) (se_gint ⟨_,g.K⟩ g.E (g.gi _ (of_decide_eq_true h2)) (g.gl h) (nodbg_ok h3).1)
theorem attr_ok{W:Wd}{T:Tabs}{CT:CT}{C:Cx}(K:∃rk,C.Ok W T rk){a:ME}{f:String}{o:Expr}{p:Pos}(i:SE W T CT C a o)(h:notCall o=true):SE W T CT C (.attr a f) (.Attribute o (Str.ofString f) p):=se_attr K i (by simp only [arm_eval_Attribute,base_ok h])
noncomputable def uAttr(a:ME)(f:String)(ia:IE L a):IE L (.attr a f):=fun ns t e=>onAttr e fun o x p=>eqS f (P:=fun x=>TE L ns t (.attr a f) (.Attribute o x p)) x (.ifB (notCall o) fun h=>(ia ns false o).map fun i _ _ _ _ _ g=>.pl (fun _ _=>rfl) (attr_ok ⟨_,g.K⟩ (i _ _ _ _ _ g) h))
noncomputable def uBin(op:BOp)(a b:ME)(ia:IE L a)(ib:IE L b):IE L (.bin op a b):=fun ns t e=>onBin e fun l o r p=>eqD (opOf op) (P:=fun o=>TE L ns t (.bin op a b) (.BinOp l o r p)) o ((ia ns false l).with_ fun i=>(ib ns false r).map fun j _ _ _ _ _ g=>.pl (fun _ _=>rfl) (se_bin (i _ _ _ _ _ g) (j _ _ _ _ _ g)))
noncomputable def uNeg(a:ME)(ia:IE L a):IE L (.neg a):=fun ns t e=>.ifB (!t) fun h0=>onUn e fun o x p=>eqD .USub (P:=fun o=>TE L ns t (.neg a) (.UnaryOp o x p)) o ((ia ns false x).map fun i _ _ _ _ _ g=>.ofF h0 (se_neg (i _ _ _ _ _ g)))
theorem PE.not{W:Wd}{T:Tabs}{CT:CT}{C:Cx}{t:Bool}{a:ME}{x:Expr}{p:Pos}(h:PE W T CT C t a x):PE W T CT C t (.not a) (.UnaryOp .Not x p):=match t,h with |false,h=>se_not h |true,h=>st_not h
noncomputable def uNot(a:ME)(ia:IE L a):IE L (.not a):=fun ns t e=>onUn e fun o x p=>eqD .Not (P:=fun o=>TE L ns t (.not a) (.UnaryOp o x p)) o ((ia ns t x).map fun i _ _ _ _ _ g=>.not (i _ _ _ _ _ g))
theorem PE.cmp{W:Wd}{T:Tabs}{CT:CT}{C:Cx}{t:Bool}{op:COp}{a b:ME}{l e:Expr}{pos:Pos}(hu:C.A.units+64<cLine)(h1:SE W T CT C a l)(h2:SE W T CT C b e)(hm:(!behindInMarks (copOf op) e)=true):PE W T CT C t (.cmp op a b) (.Compare l [copOf op] [e] pos):=
 match t with |false=>se_cmp hu h1 h2 (notT hm) |true=>st_cmp hu h1 h2 (notT hm)
noncomputable def uCmp(op:COp)(a b:ME)(ia:IE L a)(ib:IE L b):IE L (.cmp op a b):=fun ns t e=>onCmp e fun l os rs p=>on1 (P:=fun os=>TE L ns t (.cmp op a b) (.Compare l os rs p)) os fun o=>on1 (P:=fun rs=>TE L ns t (.cmp op a b) (.Compare l [o] rs p)) rs fun r=>
 eqD (copOf op) (P:=fun o=>TE L ns t (.cmp op a b) (.Compare l [o] [r] p)) o (.ifB (!behindInMarks (copOf op) r) fun h=>(ia ns false l).with_ fun i=>(ib ns false r).map fun j _ _ _ _ _ g=>.cmp (cLine_lt g.K) (i _ _ _ _ _ g) (j _ _ _ _ _ g) h)
noncomputable def uBop(b:Bool)(es:MEs)(ies:IEs L es):IE L (.bop b es):=fun ns t e=>onBool e fun o l p=>eqD (bopOf b) (P:=fun o=>TE L ns t (.bop b es) (.BoolOp o l p)) o ((ies.b ns t l).map fun i=>i b p)
noncomputable def uIte(c a b:ME)(ic:IE L c)(ia:IE L a)(ib:IE L b):IE L (.ite c a b):=fun ns t e=>.ifB (!t) fun h0=>onIf e fun x y z p=>(ic ns true x).with_ fun i=>(ia ns false y).with_ fun j=>(ib ns false z).map fun k _ _ _ _ _ g=>.ofF h0 (se_ite (i _ _ _ _ _ g) (j _ _ _ _ _ g) (k _ _ _ _ _ g))
noncomputable def uSub(a b:ME)(ia:IE L a)(ib:IE L b):IE L (.sub a b):=fun ns t e=>onSub e fun l s p=>.ifB (notSlice s) fun h=>(ia ns false l).with_ fun i=>(ib ns false s).map fun j _ _ _ _ _ g=>.pl (fun _ _=>rfl) (se_sub (i _ _ _ _ _ g) (j _ _ _ _ _ g) (sub_ok h))
noncomputable def uSlcF(a b:ME)(ia:IE L a)(ib:IE L b):IE L (.slcFrom a b):=fun ns t e=>onSub e fun l s p=>onSlice (P:=fun s=>TE L ns t (.slcFrom a b) (.Subscript l s p)) s fun u v q=>onSome (R:=fun u=>TE L ns t (.slcFrom a b) (.Subscript l (.Slice u v none q) p)) u fun u=>
 onNone (R:=fun v=>TE L ns t (.slcFrom a b) (.Subscript l (.Slice (some u) v none q) p)) v ((ia ns false l).with_ fun i=>(ib ns false u).map fun j _ _ _ _ _ g=>.pl (fun _ _=>rfl) (se_slcFrom (i _ _ _ _ _ g) (j _ _ _ _ _ g)))
noncomputable def uSlcT(a b:ME)(ia:IE L a)(ib:IE L b):IE L (.slcTo a b):=fun ns t e=>onSub e fun l s p=>onSlice (P:=fun s=>TE L ns t (.slcTo a b) (.Subscript l s p)) s fun u v q=>onNone (R:=fun u=>TE L ns t (.slcTo a b) (.Subscript l (.Slice u v none q) p)) u (
 onSome (R:=fun v=>TE L ns t (.slcTo a b) (.Subscript l (.Slice none v none q) p)) v fun v=>(ia ns false l).with_ fun i=>(ib ns false v).map fun j _ _ _ _ _ g=>.pl (fun _ _=>rfl) (se_slcTo (i _ _ _ _ _ g) (j _ _ _ _ _ g)))
noncomputable def uSlc(a b c:ME)(ia:IE L a)(ib:IE L b)(ic:IE L c):IE L (.slc a b c):=fun ns t e=>onSub e fun l s p=>onSlice (P:=fun s=>TE L ns t (.slc a b c) (.Subscript l s p)) s fun u v q=>onSome (R:=fun u=>TE L ns t (.slc a b c) (.Subscript l (.Slice u v none q) p)) u fun u=>
 onSome (R:=fun v=>TE L ns t (.slc a b c) (.Subscript l (.Slice (some u) v none q) p)) v fun v=>(ia ns false l).with_ fun i=>(ib ns false u).with_ fun j=>(ic ns false v).map fun k _ _ _ _ _ g=>.pl (fun _ _=>rfl) (se_slc (i _ _ _ _ _ g) (j _ _ _ _ _ g) (k _ _ _ _ _ g))
noncomputable def uCall(f:String)(es:MEs)(ies:IEs L es):IE L (.call f es):=fun ns t e=>onCG f ns e fun n l p h=>.ifB (nodbg (Str.ofString f)) fun h2=>.ifB (decide (f∈L.defs)) fun h3=>.ifB (argsB l) fun h4=>(ies.s ns l).map fun i _ _ _ _ _ g=>
 let ⟨_,k1,k2,k3⟩:=g.hm f (of_decide_eq_true h3);.pl (fun _ _=>rfl) (se_callC g.E g.K (i.2 _ _ _ _ _ g) (args_ok h4 i.1) k1 k2 (g.gl h) (nodbg_ok h2).1 k3)
noncomputable def uNew(c:String)(es:MEs)(ies:IEs L es):IE L (.new c es):=fun ns t e=>onCG c ns e fun n l p h=>.ifB (nodbg (Str.ofString c)) fun h2=>.ifB (decide (c∈L.cls)) fun h3=>.ifB (argsB l) fun h4=>(ies.s ns l).map fun i _ _ _ _ _ g=>
 .pl (fun _ _=>rfl) (se_new g.E g.K (i.2 _ _ _ _ _ g) (args_ok h4 i.1) (g.cls _ (of_decide_eq_true h3)) (g.gl h) (nodbg_ok h2).1 fun a ha=>g.hin c a (g.cls _ (of_decide_eq_true h3)) ha)
noncomputable def uMeth(a:ME)(f:String)(es:MEs)(ia:IE L a)(ies:IEs L es):IE L (.meth a f es):=fun ns t e=>onMC f e fun o q l p h1 h2 h3=>(ia ns false o).with_ fun i=>(ies.s ns l).map fun j _ _ _ _ _ g=>
 .pl (fun _ _=>rfl) (se_meth g.K (i _ _ _ _ _ g) (j.2 _ _ _ _ _ g) (args_ok h3 j.1) (mc_ok h1 h2 h3) fun c b hc hb=>g.hme c f b hc hb)
noncomputable def Rule1(f:String)(b:ME→ME):Prop:=∀{W:Wd} {T:Tabs} {CT:CT} {C:Cx} (_:C.EnvOk) {rk:Nat} (_:C.Ok W T rk) {a:ME} {e:Expr} {np pos:Pos} (_:SE W T CT C a e) (_:starEach [e] C.env=[(false,eval e C.env)]) (_:C.ns.lookup (Str.ofString f)=some .globalImplicit),SE W T CT C (b a) (.Call (.Name (Str.ofString f) np) [e] [] pos)
noncomputable def uBi1(f:String){b:ME→ME}(R:Rule1 f b)(a:ME)(ia:IE L a):IE L (b a):=fun ns t e=>onCG f ns e fun n l p h=>on1 (P:=fun l=>TE L ns t (b a) (.Call (.Name (Str.ofString f) n) l [] p)) l fun y=>.ifB (notStar y) fun h2=>(ia ns false y).map fun i _ _ _ _ _ g=>.pl (fun _ _=>rfl) (R g.E g.K (i _ _ _ _ _ g) (star_ok h2) (g.gl h))
noncomputable def Rule2(f:String)(c:ME→ME→ME):Prop:=∀{W:Wd} {T:Tabs} {CT:CT} {C:Cx} (_:C.EnvOk) {rk:Nat} (_:C.Ok W T rk) {a b:ME} {e e2:Expr} {np pos:Pos} (_:SE W T CT C a e) (_:SE W T CT C b e2) (_:starEach [e,e2] C.env=(false,eval e C.env)::starEach [e2] C.env) (_:starEach [e2] C.env=[(false,eval e2 C.env)]) (_:C.ns.lookup (Str.ofString f)=some .globalImplicit),SE W T CT C (c a b) (.Call (.Name (Str.ofString f) np) [e,e2] [] pos)
noncomputable def uBi2(f:String){c:ME→ME→ME}(R:Rule2 f c)(a b:ME)(ia:IE L a)(ib:IE L b):IE L (c a b):=fun ns t e=>onCG f ns e fun n l p h=>on2 (P:=fun l=>TE L ns t (c a b) (.Call (.Name (Str.ofString f) n) l [] p)) l fun y z=>.ifB (notStar y) fun h2=>.ifB (notStar z) fun h3=>(ia ns false y).with_ fun i=>(ib ns false z).map fun j _ _ _ _ _ g=>.pl (fun _ _=>rfl) (R g.E g.K (i _ _ _ _ _ g) (j _ _ _ _ _ g) (star_ok h2) (star_ok h3) (g.gl h))
noncomputable def RuleI(f:String)(b:ME→ME):Prop:=∀{W:Wd} {T:Tabs} {CT:CT} {C:Cx} (_:C.EnvOk) {rk:Nat} (_:C.Ok W T rk) {a:ME} {e:Expr} {np np2 pos:Pos} (_:SE W T CT C a e) (_:starEach [e,.Name (Str.ofString f) np2] C.env=(false,eval e C.env)::starEach [.Name (Str.ofString f) np2] C.env)
 (_:starEach [.Name (Str.ofString f) np2] C.env=[(false,eval (.Name (Str.ofString f) np2) C.env)]) (_:C.ns.lookup (Str.ofString "isinstance")=some .globalImplicit) (_:C.ns.lookup (Str.ofString f)=some .globalImplicit),SE W T CT C (b a) (.Call (.Name (Str.ofString "isinstance") np) [e,.Name (Str.ofString f) np2] [] pos)
noncomputable def uIs(f:String){b:ME→ME}(R:RuleI f b)(a:ME)(ia:IE L a):IE L (b a):=fun ns t e=>onCG "isinstance" ns e fun n l p h=>on2 (P:=fun l=>TE L ns t (b a) (.Call (.Name (Str.ofString "isinstance") n) l [] p)) l fun y z=>onG f ns (P:=fun z=>TE L ns t (b a) (.Call (.Name (Str.ofString "isinstance") n) [y,z] [] p)) z fun q h2=>
 .ifB (notStar y) fun h3=>(ia ns false y).map fun i _ _ _ _ _ g=>.pl (fun _ _=>rfl) (R g.E g.K (i _ _ _ _ _ g) (star_ok h3) rfl (g.gl h) (g.gl h2))
noncomputable def uNewBA:IE L .newBA:=fun ns t e=>onCG "bytearray" ns e fun n l p h=>onNil (P:=fun l=>TE L ns t .newBA (.Call (.Name (Str.ofString "bytearray") n) l [] p)) l (.yes fun _ _ _ _ _ g=>.pl (fun _ _=>rfl) (se_newBA g.E g.K (g.gl h)))
theorem args_small{l:List Expr}(h:argsB l=true):l.length≤1000:=Nat.le_of_lt (Nat.lt_trans (args_len h) (by decide))
noncomputable def uLst(es:MEs)(ies:IEs L es):IE L (.lst es):=fun ns t e=>.ifB (!t) fun h0=>onList e fun l p=>.ifB (argsB l) fun h=>(ies.s ns l).map fun i _ _ _ _ _ g=>.ofF h0 (se_lst (i.2 _ _ _ _ _ g) (args_small h))
noncomputable def uTup(es:MEs)(ies:IEs L es):IE L (.tup es):=fun ns t e=>.ifB (!t) fun h0=>onTuple e fun l n p=>.ifB (argsB l) fun h=>(ies.s ns l).map fun i _ _ _ _ _ g=>.ofF h0 (se_tup (i.2 _ _ _ _ _ g) (args_small h))
noncomputable def uDict0:IE L .dict0:=fun ns t e=>.ifB (!t) fun h0=>onDict e fun k v p=>onNil (P:=fun k=>TE L ns t .dict0 (.Dict k v p)) k (onNil (P:=fun v=>TE L ns t .dict0 (.Dict [] v p)) v (.yes fun _ _ _ _ _ g=>.ofF h0 (se_dict0 g.K)))
noncomputable def onKey(s:String){P:Option Expr→Prop}(o:Option Expr)(k:∀n p,Chk (P (some (.Constant (.str (Str.ofString s)) n p)))):Chk (P o):=
 onSome o fun e=>onConst (P:=fun e=>P (some e)) e fun c n p=>tg 5 fun h=>Const.str.elim (motive:=fun c=>Chk (P (some (.Constant c n p)))) c h fun x=>eqS s (P:=fun x=>P (some (.Constant (.str x) n p))) x (k n p)
noncomputable def onInt(i:Int){P:Expr→Prop}(e:Expr)(k:∀n p,Chk (P (.Constant (.int i) n p))):Chk (P e):=
 onConst e fun c n p=>tg 2 fun h=>Const.int.elim (motive:=fun c=>Chk (P (.Constant c n p))) c h fun x=>eqD i (P:=fun x=>P (.Constant (.int x) n p)) x (k n p)
noncomputable def LvlD(ks:List (Option Expr))(vs:List Expr):Prop:=litPairs ks vs=some lvlD∧ks.all (·.isSome)=true∧ks.length=4∧vs.length=4
noncomputable def ckLvl(ks:List (Option Expr))(vs:List Expr):Chk (LvlD ks vs):=
 onCons (P:=fun ks=>LvlD ks vs) ks fun k1 ks=>on3 (P:=fun ks=>LvlD (k1::ks) vs) ks fun k2 k3 k4=>onCons (P:=fun vs=>LvlD [k1,k2,k3,k4] vs) vs fun v1 vs=>on3 (P:=fun vs=>LvlD [k1,k2,k3,k4] (v1::vs)) vs fun v2 v3 v4=>
 onKey "stored" (P:=fun k=>LvlD [k,k2,k3,k4] [v1,v2,v3,v4]) k1 fun _ _=>onKey "fixed" (P:=fun k=>LvlD [_,k,k3,k4] [v1,v2,v3,v4]) k2 fun _ _=>onKey "dynamic" (P:=fun k=>LvlD [_,_,k,k4] [v1,v2,v3,v4]) k3 fun _ _=>onKey "mixed" (P:=fun k=>LvlD [_,_,_,k] [v1,v2,v3,v4]) k4 fun _ _=>
 onInt 0 (P:=fun v=>LvlD _ [v,v2,v3,v4]) v1 fun _ _=>onInt 1 (P:=fun v=>LvlD _ [_,v,v3,v4]) v2 fun _ _=>onInt 2 (P:=fun v=>LvlD _ [_,_,v,v4]) v3 fun _ _=>onInt 2 (P:=fun v=>LvlD _ [_,_,_,v]) v4 fun _ _=>.yes ⟨rfl,rfl,rfl,rfl⟩
noncomputable def uLvl(a:ME)(ia:IE L a):IE L (.lvl a):=fun ns t e=>onMC "get" e fun o q l p h1 h2 h3=>onDict (P:=fun o=>TE L ns t (.lvl a) (.Call (.Attribute o (Str.ofString "get") q) l [] p)) o fun ks vs dp=>(ckLvl ks vs).with_ fun D=>
 Chk.with_ (P:=argsB l=true) (.yes h3) fun h3=>Chk.map (P:=argsB l=true→TE L ns t (.lvl a) (.Call (.Attribute (.Dict ks vs dp) (Str.ofString "get") q) l [] p)) (on2 (P:=fun l=>argsB l=true→TE L ns t (.lvl a) (.Call (.Attribute (.Dict ks vs dp) (Str.ofString "get") q) l [] p)) l fun y z=>
  onInt 3 (P:=fun z=>argsB [y,z]=true→TE L ns t (.lvl a) (.Call (.Attribute (.Dict ks vs dp) (Str.ofString "get") q) [y,z] [] p)) z fun n r=>.ifB (notStar y) fun h4=>(ia ns false y).map fun i h3 _ _ _ _ _ g=>
   .pl (fun _ _=>rfl) (se_lvl g.K (i _ _ _ _ _ g) D.1 D.2.1 D.2.2.1 D.2.2.2 (star_ok h4) rfl (mc_ok rfl h2 h3))) fun f=>f h3
end
end
section
noncomputable section
variable {L:Al}
noncomputable def RuleM(f:String)(c:ME→ME→ME):Prop:=∀{W:Wd} {T:Tabs} {CT:CT} {C:Cx} {rk:Nat} (_:C.Ok W T rk) {a b:ME} {e y:Expr} {apos pos:Pos} {pl:Sem Bool} (_:SE W T CT C a e) (_:SE W T CT C b y) (_:starEach [y] C.env=[(false,eval y C.env)])
 (_:eval (.Call (.Attribute e (Str.ofString f) apos) [y] [] pos) C.env=(do
   let ov←eval e C.env
   standAt apos.atName
   let (f,first)←holding [ov] (getMethod ov (Str.ofString f) pl)
   callWith pos f first (backTo pos (starEach [y] C.env)) [])),SE W T CT C (c a b) (.Call (.Attribute e (Str.ofString f) apos) [y] [] pos)
noncomputable def uMe1(f:String){c:ME→ME→ME}(R:RuleM f c)(a b:ME)(ia:IE L a)(ib:IE L b):IE L (c a b):=fun ns t e=>onMC f e fun o q l p h1 h2 h3=>Chk.map (P:=argsB l=true→TE L ns t (c a b) (.Call (.Attribute o (Str.ofString f) q) l [] p)) (on1 (P:=fun l=>argsB l=true→TE L ns t (c a b) (.Call (.Attribute o (Str.ofString f) q) l [] p)) l fun y=>
 .ifB (notStar y) fun h4=>(ia ns false o).with_ fun i=>(ib ns false y).map fun j h3 _ _ _ _ _ g=>.pl (fun _ _=>rfl) (R g.K (i _ _ _ _ _ g) (j _ _ _ _ _ g) (star_ok h4) (mc_ok h1 h2 h3))) fun f=>f h3
noncomputable def uDget(a b c:ME)(ia:IE L a)(ib:IE L b)(ic:IE L c):IE L (.dget a b c):=fun ns t e=>onMC "get" e fun o q l p h1 h2 h3=>Chk.map (P:=argsB l=true→TE L ns t (.dget a b c) (.Call (.Attribute o (Str.ofString "get") q) l [] p)) (on2 (P:=fun l=>argsB l=true→TE L ns t (.dget a b c) (.Call (.Attribute o (Str.ofString "get") q) l [] p)) l fun y z=>
 .ifB (notStar y) fun h4=>.ifB (notStar z) fun h5=>(ia ns false o).with_ fun i=>(ib ns false y).with_ fun j=>(ic ns false z).map fun k h3 _ _ _ _ _ g=>.pl (fun _ _=>rfl) (se_dget g.K (i _ _ _ _ _ g) (j _ _ _ _ _ g) (k _ _ _ _ _ g) (star_ok h4) (star_ok h5) (mc_ok h1 h2 h3))) fun f=>f h3
noncomputable def uTake(i:Nat)(a:ME)(ia:IE L a):IE L (.take i a):=fun ns t e=>onCall e fun f l p=>onName (P:=fun f=>TE L ns t (.take i a) (.Call f l [] p)) f fun x n=>celB ns i x fun k hk h1 h2=>on1 (P:=fun l=>TE L ns t (.take i a) (.Call (.Name x n) l [] p)) l fun y=>.ifB (notStar y) fun h4=>(ia ns false y).map fun j _ _ _ _ _ g=>
 .pl (fun _ _=>rfl) (se_take g.E g.K (j _ _ _ _ _ g) (g.at h1) (g.lk h1) hk (nodbg_ok h2).1 (nodbg_ok h2).2 (star_ok h4) g.ht)
noncomputable def uComp(a:ME)(it:MI)(xi n:Nat)(fr:List (Nat×Nat))(ia:IE L a)(ii:II L it):IE L (.comp a it xi n fr):=fun ns t e=>.ifB (!t) fun h0=>onComp e fun el tg ie sc p=>onName (P:=fun tg=>TE L ns t (.comp a it xi n fr) (.ListComp el [⟨tg,ie,[],0⟩] sc p)) tg fun x px=>
 .ifB (compB ns sc xi x fr) fun h1=>.ifB (notSet ie) fun h2=>(ii ns ie).with_ fun i=>(ia sc.names false el).map fun j _ _ _ _ _ g=>.ofF h0 (se_comp g.E g.K (g.compOk h1) (i _ _ _ _ _ g) (set_ok h2 _) fun cl Lc=>j _ _ _ _ _ (g.comp h1 cl Lc))
noncomputable def uEsN:IEs L .nil:=⟨fun ns l=>onNil l (.yes ⟨fun _=>rfl,fun _ _ _ _ _ _=>ses_nil⟩),fun _ _ _=>.no⟩
theorem PE.bop1{W:Wd}{T:Tabs}{CT:CT}{C:Cx}{t b:Bool}{a:ME}{e:Expr}{pos:Pos}(h:PE W T CT C t a e):PE W T CT C t (.bop b (.cons a .nil)) (.BoolOp (bopOf b) [e] pos):=match t,h with |false,h=>se_bop1 h |true,h=>st_bop1 h
theorem PE.bopC{W:Wd}{T:Tabs}{CT:CT}{C:Cx}{t b:Bool}{a a2:ME}{es:MEs}{e e2:Expr}{l:List Expr}{pos:Pos}(h:PE W T CT C t a e)(h2:PE W T CT C t (.bop b (.cons a2 es)) (.BoolOp (bopOf b) (e2::l) pos)) :
  PE W T CT C t (.bop b (.cons a (.cons a2 es))) (.BoolOp (bopOf b) (e::e2::l) pos):=match t,h,h2 with |false,h,h2=>se_bopC h h2 |true,h,h2=>st_bopC h h2
noncomputable def uBopC(a:ME)(es:MEs)(ia:IE L a)(ies:IEs L es)(ns:Ns)(t:Bool)(l:List Expr):Chk (TB L ns t (.cons a es) l):=onCons l fun e r=>(ia ns t e).with_ fun i=>MEs.casesOn (motive_2:=fun es=>IEs L es→Chk (TB L ns t (.cons a es) (e::r))) es
 (fun _=>onNil (P:=fun r=>TB L ns t (.cons a .nil) (e::r)) r (.yes fun b p _ _ _ _ _ g=>.bop1 (i _ _ _ _ _ g)))
 (fun a2 es ies=>onCons (P:=fun r=>TB L ns t (.cons a (.cons a2 es)) (e::r)) r fun e2 r=>(ies.b ns t (e2::r)).map fun j b p _ _ _ _ _ g=>.bopC (i _ _ _ _ _ g) (j b p _ _ _ _ _ g)) ies
noncomputable def uEsC(a:ME)(es:MEs)(ia:IE L a)(ies:IEs L es):IEs L (.cons a es):=
 ⟨fun ns l=>onCons l fun e r=>.ifB (notStar e) fun h=>(ia ns false e).with_ fun i=>(ies.s ns r).map fun j=>⟨(fun q=>nomatch q),fun _ _ _ _ _ g=>ses_cons (i _ _ _ _ _ g) (j.2 _ _ _ _ _ g) (star_ok h)⟩,uBopC a es ia ies⟩
noncomputable def uR1(a:ME)(ia:IE L a):II L (.range1 a):=fun ns e=>onCG "range" ns e fun n l p h=>on1 (P:=fun l=>TI L ns (.range1 a) (.Call (.Name (Str.ofString "range") n) l [] p)) l fun y=>.ifB (notStar y) fun h2=>(ia ns false y).map fun i _ _ _ _ _ g=>si_range1 g.E g.K (i _ _ _ _ _ g) (star_ok h2) (g.gl h)
noncomputable def uR2(a b:ME)(ia:IE L a)(ib:IE L b):II L (.range2 a b):=fun ns e=>onCG "range" ns e fun n l p h=>on2 (P:=fun l=>TI L ns (.range2 a b) (.Call (.Name (Str.ofString "range") n) l [] p)) l fun y z=>.ifB (notStar y) fun h2=>.ifB (notStar z) fun h3=>(ia ns false y).with_ fun i=>(ib ns false z).map fun j _ _ _ _ _ g=>
 si_range2 g.E g.K (i _ _ _ _ _ g) (j _ _ _ _ _ g) (star_ok h2) (star_ok h3) (g.gl h)
noncomputable def uR3(a b c:ME)(ia:IE L a)(ib:IE L b)(ic:IE L c):II L (.range3 a b c):=fun ns e=>onCG "range" ns e fun n l p h=>on3 (P:=fun l=>TI L ns (.range3 a b c) (.Call (.Name (Str.ofString "range") n) l [] p)) l fun y z u=>.ifB (notStar y) fun h2=>.ifB (notStar z) fun h3=>.ifB (notStar u) fun h4=>
 (ia ns false y).with_ fun i=>(ib ns false z).with_ fun j=>(ic ns false u).map fun k _ _ _ _ _ g=>si_range3 g.E g.K (i _ _ _ _ _ g) (j _ _ _ _ _ g) (k _ _ _ _ _ g) (star_ok h2) (star_ok h3) (star_ok h4) (g.gl h)
noncomputable def uOver(a:ME)(ia:IE L a):II L (.over a):=fun ns e=>(ia ns false e).map fun i _ _ _ _ _ g=>si_over (i _ _ _ _ _ g)
noncomputable def ck(me:ME):IE L me:=ME.rec (motive_1:=IE L) (motive_2:=IEs L) (motive_3:=II L) uLoc uCel uCst uGint uAttr uBin uNeg uNot uCmp uBop uIte uSub uSlcF uSlcT uSlc uCall uNew uMeth
 (uBi1 "len" se_len) (uBi2 "min" se_min2) (uBi2 "max" se_max2) (uBi1 "max" se_max1) (uBi1 "list" se_listOf) (uBi1 "bytes" se_bytesOf) uNewBA (uBi1 "int" se_intOf)
 (uIs "int" se_isInt) (uIs "tuple" se_isTup) (uBi1 "sum" se_sum) uLst uTup uDict0 uLvl (uMe1 "append" se_app) (uMe1 "extend" se_ext) uDget uTake uComp (fun _ _ _=>.no)
 uEsN uEsC uR1 uR2 uR3 uOver me
noncomputable def ckEs(es:MEs):IEs L es:=MEs.casesOn (motive_2:=IEs L) es uEsN fun a es=>MEs.rec (motive_1:=fun _=>PUnit) (motive_2:=fun es=>∀a,IEs L (.cons a es)) (motive_3:=fun _=>PUnit) (fun _=>⟨⟩) (fun _=>⟨⟩) (fun _=>⟨⟩) (fun _ _=>⟨⟩) (fun _ _ _=>⟨⟩) (fun _ _ _ _ _=>⟨⟩) (fun _ _=>⟨⟩) (fun _ _=>⟨⟩) (fun _ _ _ _ _=>⟨⟩) (fun _ _ _=>⟨⟩) (fun _ _ _ _ _ _=>⟨⟩) (fun _ _ _ _=>⟨⟩) (fun _ _ _ _=>⟨⟩) (fun _ _ _ _=>⟨⟩) (fun _ _ _ _ _ _=>⟨⟩) (fun _ _ _=>⟨⟩) (fun _ _ _=>⟨⟩) (fun _ _ _ _ _=>⟨⟩)
 (fun _ _=>⟨⟩) (fun _ _ _ _=>⟨⟩) (fun _ _ _ _=>⟨⟩) (fun _ _=>⟨⟩) (fun _ _=>⟨⟩) (fun _ _=>⟨⟩) ⟨⟩ (fun _ _=>⟨⟩) (fun _ _=>⟨⟩) (fun _ _=>⟨⟩) (fun _ _=>⟨⟩) (fun _ _=>⟨⟩) (fun _ _=>⟨⟩) ⟨⟩ (fun _ _=>⟨⟩) (fun _ _ _ _=>⟨⟩) (fun _ _ _ _=>⟨⟩) (fun _ _ _ _ _ _=>⟨⟩) (fun _ _ _=>⟨⟩) (fun _ _ _ _ _ _ _=>⟨⟩) ⟨⟩
 (fun a=>uEsC a .nil (ck a) uEsN) (fun b es _ ih a=>uEsC a (.cons b es) (ck a) (ih b)) (fun _ _=>⟨⟩) (fun _ _ _ _=>⟨⟩) (fun _ _ _ _ _ _=>⟨⟩) (fun _ _=>⟨⟩) es a
noncomputable def ckI(it:MI):II L it:=MI.casesOn (motive_3:=II L) it (fun a=>uR1 a (ck a)) (fun a b=>uR2 a b (ck a) (ck b)) (fun a b c=>uR3 a b c (ck a) (ck b) (ck c)) fun a=>uOver a (ck a)
noncomputable def TS(L:Al)(ns:Ns)(s:MS)(e:Stmt):Prop:=∀W T CT C rk,GL L W T CT C rk ns→C.Def→SS W T CT C s e
noncomputable def TSs(L:Al)(ns:Ns)(s:MSs)(l:List Stmt):Prop:=∀W T CT C rk,GL L W T CT C rk ns→C.Def→SSs W T CT C s l
noncomputable abbrev IS(L:Al)(s:MS):=∀ns e,Chk (TS L ns s e)
noncomputable abbrev ISs(L:Al)(s:MSs):=∀ns l,Chk (TSs L ns s l)
noncomputable def tgB(ns:Ns):(is:List Nat)→∀es,Chk (∀W T CT C rk,GL L W T CT C rk ns→TgEs C is es):=List.rec (fun es=>onNil (P:=fun es=>∀W T CT C rk,GL L W T CT C rk ns→TgEs C [] es) es (.yes fun _ _ _ _ _ _=>rfl)) fun i _ ih es=>onCons (P:=fun es=>∀W T CT C rk,GL L W T CT C rk ns→TgEs C (i::_) es) es fun e r=>
 onName (P:=fun e=>∀W T CT C rk,GL L W T CT C rk ns→TgEs C (i::_) (e::r)) e fun x p=>.ifB (nameAt ns i x .local) fun h=>(ih r).map fun j _ _ _ _ _ g=>⟨x,p,_,rfl,g.at h,g.lk h,j _ _ _ _ _ g⟩
theorem sole_tup(es:List Expr)(k:Nat)(p:Pos)(e:Expr)(n:Nat)(env:Env):swapsWithSole [.Tuple es k p] e n env=pure false:=swap_other (t:=.Tuple es k p) (fun _ _ q=>nomatch q) n env
theorem notN_A{o:Expr}{x:Str}{q:Pos}(y:Str)(p:Pos):Expr.Attribute o x q≠.Name y p:=fun h=>nomatch h
theorem notN_S{o i:Expr}{q:Pos}(y:Str)(p:Pos):Expr.Subscript o i q≠.Name y p:=fun h=>nomatch h
noncomputable def sAsg(i:Nat)(a:ME):IS L (.asg i a):=fun ns s=>onAsg s fun t e p=>onName (P:=fun t=>TS L ns (.asg i a) (.Assign [t] e p)) t fun x q=>.ifB (nameAt ns i x .local) fun h1=>
 Bool.rec (motive:=fun c=>plainV e=c→Chk (TS L ns (.asg i a) (.Assign [.Name x q] e p))) (fun _=>ME.casesOn (motive_1:=fun a=>Chk (TS L ns (.asg i a) (.Assign [.Name x q] e p))) a (fun _=>.no) (fun _=>.no) (fun _=>.no) (fun _ _=>.no) (fun _ _=>.no) (fun _ _ _=>.no) (fun _=>.no) (fun _=>.no) (fun _ _ _=>.no) (fun _ _=>.no) (fun _ _ _=>.no) (fun _ _=>.no) (fun _ _=>.no) (fun _ _=>.no) (fun _ _ _=>.no) (fun _ _=>.no) (fun _ _=>.no) (fun _ _ _=>.no)
  (fun _=>.no) (fun _ _=>.no) (fun _ _=>.no) (fun _=>.no) (fun _=>.no) (fun _=>.no) .no (fun _=>.no) (fun _=>.no) (fun _=>.no) (fun _=>.no) (fun _=>.no) (fun _=>.no) .no (fun _=>.no) (fun _ _=>.no) (fun _ _=>.no) (fun _ _ _=>.no) (fun _ _=>.no)
  (fun a it xi n fr=>onComp (P:=fun e=>TS L ns (.asg i (.comp a it xi n fr)) (.Assign [.Name x q] e p)) e fun el tg ie sc p2=>onName (P:=fun tg=>TS L ns (.asg i (.comp a it xi n fr)) (.Assign [.Name x q] (.ListComp el [⟨tg,ie,[],0⟩] sc p2) p)) tg fun y py=>.ifB (compB ns sc xi y fr) fun h3=>.ifB (notSet ie) fun h4=>(ckI it ns ie).with_ fun j=>(ck a sc.names false el).map fun k _ _ _ _ _ g D=>
   ss_asg_comp g.E g.K (g.compOk h3) (j _ _ _ _ _ g) (set_ok h4 _) (fun cl Lc=>k _ _ _ _ _ (g.comp h3 cl Lc)) (g.at h1) (g.lk h1)) .no)
 (fun hp=>(ck a ns false e).map fun j _ _ _ _ _ g D=>ss_asg g.E (j _ _ _ _ _ g) (g.at h1) (g.lk h1) (plainV_ok hp _ _ _)) (plainV e) rfl
noncomputable def sAsgC(i:Nat)(a:ME):IS L (.asgC i a):=fun ns s=>onAsg s fun t e p=>onName (P:=fun t=>TS L ns (.asgC i a) (.Assign [t] e p)) t fun x q=>.ifB (nameAt ns i x .cell) fun h1=>.ifB (plainV e) fun hp=>(ck a ns false e).map fun j _ _ _ _ _ g _=>ss_asgC g.E (j _ _ _ _ _ g) (g.at h1) (g.lk h1) (plainV_ok hp _ _ _)
noncomputable def sSetA(o:ME)(f:String)(a:ME):IS L (.setattr o f a):=fun ns s=>onAsg s fun t e p=>onAttr (P:=fun t=>TS L ns (.setattr o f a) (.Assign [t] e p)) t fun lo x q=>eqS f (P:=fun x=>TS L ns (.setattr o f a) (.Assign [.Attribute lo x q] e p)) x ((ck o ns false lo).with_ fun i=>(ck a ns false e).map fun j _ _ _ _ _ g _=>
 ss_setattr g.K (j _ _ _ _ _ g) (i _ _ _ _ _ g) fun Q E s z=>c_Assign_Attribute z (swap_other notN_A _ _))
noncomputable def sSetS(o i a:ME):IS L (.setsub o i a):=fun ns s=>onAsg s fun t e p=>onSub (P:=fun t=>TS L ns (.setsub o i a) (.Assign [t] e p)) t fun lo li q=>(ck o ns false lo).with_ fun j=>(ck i ns false li).with_ fun k=>(ck a ns false e).map fun l _ _ _ _ _ g _=>
 ss_setsub g.K (l _ _ _ _ _ g) (j _ _ _ _ _ g) (k _ _ _ _ _ g) (swap_other notN_S _ _)
noncomputable def sUnp(is:List Nat)(a:ME):IS L (.unpack is a):=fun ns s=>onAsg s fun t e p=>onTuple (P:=fun t=>TS L ns (.unpack is a) (.Assign [t] e p)) t fun es n q=>.ifB (notTuple e) fun h=>(tgB ns is es).with_ fun j=>(ck a ns false e).map fun k _ _ _ _ _ g D=>
 ss_unpack g.E g.K (.tup (j _ _ _ _ _ g)) (k _ _ _ _ _ g) (sole_tup _ _ _ _ _ _) (stores_ok h _ _)
noncomputable def sAug(i:Nat)(op:BOp)(a:ME):IS L (.aug i op a):=fun ns s=>onAug s fun t o e p=>onName (P:=fun t=>TS L ns (.aug i op a) (.AugAssign t o e p)) t fun x q=>eqD (opOf op) (P:=fun o=>TS L ns (.aug i op a) (.AugAssign (.Name x q) o e p)) o (.ifB (nameAt ns i x .local) fun h=>(ck a ns false e).map fun j _ _ _ _ _ g D=>ss_aug g.E (j _ _ _ _ _ g) (g.at h) (g.lk h))
noncomputable def sAugS(o i:ME)(op:BOp)(a:ME):IS L (.augsub o i op a):=fun ns s=>onAug s fun t b e p=>onSub (P:=fun t=>TS L ns (.augsub o i op a) (.AugAssign t b e p)) t fun lo li q=>eqD (opOf op) (P:=fun b=>TS L ns (.augsub o i op a) (.AugAssign (.Subscript lo li q) b e p)) b (.ifB (notSlice li) fun h=>
 (ck o ns false lo).with_ fun j=>(ck i ns false li).with_ fun k=>(ck a ns false e).map fun l _ _ _ _ _ g _=>ss_augsub g.K (j _ _ _ _ _ g) (k _ _ _ _ _ g) (l _ _ _ _ _ g) (aug_ok h))
noncomputable def ckTg(ns:Ns)(t:Tg)(e:Expr):Chk (∀W T CT C rk,GL L W T CT C rk ns→TgE C t e):=Tg.casesOn (motive:=fun t=>Chk (∀W T CT C rk,GL L W T CT C rk ns→TgE C t e)) t
 (fun i=>onName (P:=fun e=>∀W T CT C rk,GL L W T CT C rk ns→TgE C (.one i) e) e fun x p=>.ifB (nameAt ns i x .local) fun h=>.yes fun _ _ _ _ _ g=>.one (g.at h) (g.lk h))
 (fun is=>onTuple (P:=fun e=>∀W T CT C rk,GL L W T CT C rk ns→TgE C (.tup is) e) e fun es n p=>(tgB ns is es).map fun j _ _ _ _ _ g=>.tup (j _ _ _ _ _ g))
noncomputable def sFor(t:Tg)(it:MI)(b:MSs)(ib:ISs L b):IS L (.for_ t it b):=fun ns s=>onFor s fun te ie lb p=>.ifB (notSet ie) fun h=>(ckTg ns t te).with_ fun i=>(ckI it ns ie).with_ fun j=>(ib ns lb).map fun k _ _ _ _ _ g D=>ss_for g.E g.K (j _ _ _ _ _ g) (k _ _ _ _ _ g D) (i _ _ _ _ _ g) (set_ok h _)
noncomputable def sEnum(i j:Nat)(a:ME)(b:MSs)(ib:ISs L b):IS L (.forEnum i j a b):=fun ns s=>onFor s fun te ie lb p=>onTuple (P:=fun te=>TS L ns (.forEnum i j a b) (.For te ie lb [] p)) te fun es n q=>onCG "enumerate" ns (P:=fun ie=>TS L ns (.forEnum i j a b) (.For (.Tuple es n q) ie lb [] p)) ie fun m l r h=>
 on1 (P:=fun l=>TS L ns (.forEnum i j a b) (.For (.Tuple es n q) (.Call (.Name (Str.ofString "enumerate") m) l [] r) lb [] p)) l fun e=>.ifB (notStar e) fun h3=>(tgB ns [i,j] es).with_ fun x=>(ck a ns false e).with_ fun y=>(ib ns lb).map fun k _ _ _ _ _ g D=>ss_forEnum g.E g.K (y _ _ _ _ _ g) (k _ _ _ _ _ g D) (x _ _ _ _ _ g) rfl (star_ok h3) (g.gl h) (fun _=>rfl)
noncomputable def sWhile(c:ME)(b:MSs)(ib:ISs L b):IS L (.while_ c b):=fun ns s=>onWhile s fun lc lb p=>(ck c ns true lc).with_ fun i=>(ib ns lb).map fun j _ _ _ _ _ g D=>ss_while (i _ _ _ _ _ g) (j _ _ _ _ _ g D)
noncomputable def sIf(c:ME)(a b:MSs)(ia:ISs L a)(ib:ISs L b):IS L (.if_ c a b):=fun ns s=>onIfS s fun lc la lb p=>(ck c ns true lc).with_ fun i=>(ia ns la).with_ fun j=>(ib ns lb).map fun k _ _ _ _ _ g D=>ss_if (i _ _ _ _ _ g) (j _ _ _ _ _ g D) (k _ _ _ _ _ g D)
noncomputable def sRet(a:ME):IS L (.ret a):=fun ns s=>onRet s fun v p=>onSome (R:=fun v=>TS L ns (.ret a) (.Return v p)) v fun e=>(ck a ns false e).map fun i _ _ _ _ _ g _=>ss_ret (i _ _ _ _ _ g)
noncomputable def sRet0:IS L .ret0:=fun ns s=>onRet s fun v p=>onNone (R:=fun v=>TS L ns .ret0 (.Return v p)) v (.yes fun _ _ _ _ _ _ _=>ss_ret0)
noncomputable def sCont:IS L .cont:=fun ns s=>onCont s fun p=>.yes fun _ _ _ _ _ _ _=>ss_cont
noncomputable def sExpr(a:ME):IS L (.expr a):=fun ns s=>onExprS s fun e p=>.ifB (plainV e) fun h=>(ck a ns false e).map fun i _ _ _ _ _ g D=>ss_expr D (i _ _ _ _ _ g) (plainV_ok h _ _ _)
noncomputable def sRaise(es:MEs):IS L (.raise es):=fun ns s=>onRaise s fun v p=>onCG "FilterFault" ns (P:=fun v=>TS L ns (.raise es) (.Raise (some v) none p)) v fun n l q h=>.ifB (argsB l) fun h2=>.ifB (decide (l.length=1∨l.length=2)) fun h3=>((ckEs es).s ns l).map fun i _ _ _ _ _ g _=>
 ss_raise g.E g.K g.XO (i.2 _ _ _ _ _ g) (args_ok h2 i.1) (of_decide_eq_true h3) (g.gl h)
noncomputable def sNil:ISs L .nil:=fun ns l=>onNil l (.yes fun _ _ _ _ _ _ _=>sss_nil)
noncomputable def sCons(a:MS)(b:MSs)(ia:IS L a)(ib:ISs L b):ISs L (.cons a b):=fun ns l=>onCons l fun e r=>(ia ns e).with_ fun i=>(ib ns r).map fun j _ _ _ _ _ g D=>sss_cons (i _ _ _ _ _ g D) (j _ _ _ _ _ g D)
noncomputable def ckS(s:MS):IS L s:=MS.rec (motive_1:=IS L) (motive_2:=ISs L) sAsg sAsgC sSetA sSetS sUnp sAug sAugS sFor sEnum sWhile sIf sRet sRet0 sCont sExpr sRaise (fun _ _ _=>.no) (fun _ _=>.no) sNil sCons s
noncomputable def ckSs(s:MSs):ISs L s:=MSs.rec (motive_1:=IS L) (motive_2:=ISs L) sAsg sAsgC sSetA sSetS sUnp sAug sAugS sFor sEnum sWhile sIf sRet sRet0 sCont sExpr sRaise (fun _ _ _=>.no) (fun _ _=>.no) sNil sCons s
end
end
end Mine
end
section
open PySem PySem.W PyProof.Rows PySem.Calls PySem.Spec
set_option genInjectivity false
set_option genSizeOf false
set_option genCtorIdx false
set_option bootstrap.genMatcherCode false
namespace Mine
section
noncomputable section
noncomputable def onLk(K:Frag)(f:Addr){P:Prop}(k:∀o,K.lookup f=some o→Chk P):Chk P:=Option.casesOn (motive:=fun x=>K.lookup f=x→Chk P) (K.lookup f) (fun _=>.no) k rfl
noncomputable def onFunc{Q:Data→Prop}{P:Prop}(d:Data)(h:Q d)(k:∀fd,Q (.func fd)→Chk P):Chk P:=Data.casesOn (motive:=fun d=>Q d→Chk P) d (fun _=>.no) (fun _ _=>.no) (fun _ _ _=>.no) (fun _ _ _=>.no) (fun _ _ _ _=>.no) (fun _ _ _=>.no) (fun _ _=>.no) k (fun _ _=>.no) (fun _ _=>.no) (fun _=>.no) h
theorem plain_of{p:Arguments}(h:(p.posonlyargs.isEmpty&&p.vararg.isNone&&p.kwonlyargs.isEmpty&&p.kwarg.isNone)=true):Plain p:=⟨List.isEmpty_iff.mp (andL (andL (andL h))),Option.isNone_iff_eq_none.mp (andR (andL (andL h))),List.isEmpty_iff.mp (andR (andL h)),Option.isNone_iff_eq_none.mp (andR h)⟩
theorem fnX_of{K:Frag}{f:Addr}{oc:Value}{od:Option Addr}{osl:Array (Option Value)}{fd:FuncData}{body:List Stmt}(h:K.lookup f=some ⟨oc,od,.func fd,osl⟩)(h1:fd.globals=mainGlobals)(h2:fd.builtins=builtinsNs)(h3:fd.closure=[])(h4:fd.body=.stmts body) :
  K.lookup f=some ⟨oc,od,.func (fnX fd.name fd.qualname fd.params body fd.scope [] fd.defaults fd.kwdefaults fd.doc fd.pyModule fd.annotations fd.code fd.closureTuple),osl⟩:=by
 simp only [h];cases fd;subst h1 h2 h3 h4;rfl
noncomputable def ckF(K:Frag)(f:Addr){P:Prop}(k:FO K f→Chk P):Chk P:=onLk K f fun o h=>onFunc (Q:=fun d=>K.lookup f=some ⟨o.cls,o.dict,d,o.slots⟩) o.data h fun fd h=>
 FuncBody.casesOn (motive:=fun b=>fd.body=b→Chk P) fd.body (fun b hb=>.ifB (decide (fd.globals=mainGlobals)) fun h1=>.ifB (decide (fd.builtins=builtinsNs)) fun h2=>.ifB fd.closure.isEmpty fun h3=>.ifB (codeIn K fd.code fd.qualname) fun h4=>
  .ifB (fd.params.posonlyargs.isEmpty&&fd.params.vararg.isNone&&fd.params.kwonlyargs.isEmpty&&fd.params.kwarg.isNone) fun h5=>.ifB (!fd.scope.isCoroutine) fun h6=>.ifB (!fd.scope.isGenerator) fun h7=>.ifB (decide (fd.scope.kind=.function)) fun h8=>
   k ⟨fd.name,fd.qualname,fd.params,b,fd.scope,fd.defaults,fd.kwdefaults,fd.doc,fd.pyModule,fd.code,fd.closureTuple,o.cls,fd.annotations,o.dict,o.slots,fnX_of h (of_decide_eq_true h1) (of_decide_eq_true h2) (List.isEmpty_iff.mp h3) hb,h4,plain_of h5,notT h6,notT h7,of_decide_eq_true h8⟩) (fun _ _=>.no) rfl
noncomputable def ckDef(names:Ns)(np:Nat)(cs:List Nat)(p:Arguments):Chk (DefOk names np cs p):=.ifB (nodB names) fun h1=>.ifB (decide (p.args.map (·.arg)=(names.take np).map (·.1))) fun h2=>.ifB ((names.take np).all fun y=>decide (y.2=.local∨y.2=.cell)) fun h3=>
 .ifB (decide (((cellsFrom 0 names []).map (·.1)).Nodup)) fun h4=>.ifB (decide (cs.map (fun i=>(names[i]?).map (·.1))=((cellsFrom 0 names []).map (·.1)).map some)) fun h5=>
  .yes ⟨of_decide_eq_true h1,of_decide_eq_true h2,fun y hy=>of_decide_eq_true (List.all_eq_true.mp h3 y hy),of_decide_eq_true h4,of_decide_eq_true h5⟩
noncomputable def ckV:(us:List V)→(vs:List Value)→Chk (VRs vs us):=List.rec (fun vs=>onNil (P:=fun vs=>VRs vs []) vs (.yes .nil)) fun u us ih vs=>onCons (P:=fun vs=>VRs vs (u::us)) vs fun v vs=>V.casesOn (motive:=fun u=>Chk (VRs (v::vs) (u::us))) u .no (fun _=>.no)
 (fun i=>tg 4 fun h=>Value.int.elim (motive:=fun v=>Chk (VRs (v::vs) (.int i::us))) v h fun j t=>eqD i (P:=fun j=>VRs (.int j t::vs) (.int i::us)) j ((ih vs).map fun h=>.cons (.int _ _) h)) (fun _=>.no) (fun _=>.no) (fun _=>.no)
section
variable {K:Frag}{f:Addr}
theorem Plain.eq{p:Arguments}(P:Plain p):p=⟨[],p.args,none,[],p.kw_defaults,none,p.defaults⟩:=by
 obtain ⟨po,a,va,ko,kd,kw,df⟩:=p
 obtain rfl:po=[]:=P.posonly
 obtain rfl:va=none:=P.vararg
 obtain rfl:ko=[]:=P.kwonly
 obtain rfl:kw=none:=P.kwarg
 rfl
theorem dflt_of(F:FO K f){np:Nat}{cs:List Nat}{us:List V}{x:Option (Array Value)}{ds:List Value}(D:DefOk F.scope.names np cs F.params)(hn:np≤F.scope.names.length)(hx:(x.getD #[]).toList=ds)
  (hseq:∀{s:Shared},K.In s.heap→∀{M:Model} {A:Around} {E:VQ} {Q:Option (Array Value)→Shared→Prop},Q x s→wpAny M A (seqItems? F.dV) Q E s)(hle:ds.length≤F.params.args.length)(hv:VRs (ds.drop (ds.length-us.length)) us):Dflt F np us:=fun s vs X hl=>
 have hnl:(F.params.args.map (·.arg)).length=np:=(congrArg List.length D.args).trans ((List.length_map _).trans (List.length_take_of_le hn))
 ⟨_,hv,D.args▸binds_of (ws:=ds.drop (ds.length-us.length)) F.Pl.eq rfl (D.args▸D.ndt) (hseq X) hx (Nat.le_trans hle (Nat.le_of_eq (List.length_map _).symm)) (by rw [hv.length];exact hl.trans hnl.symm) (by rw [hv.length])⟩
theorem dflt_nil(F:FO K f){np:Nat}{cs:List Nat}(D:DefOk F.scope.names np cs F.params)(hn:np≤F.scope.names.length)(h0:F.dV=.none):Dflt F np []:=
 dflt_of F D hn (x:=none) (ds:=[]) rfl (fun X _ _ _ _ q=>h0▸wpAny_pure q) (Nat.zero_le _) .nil
theorem dflt_some(F:FO K f){np:Nat}{cs:List Nat}{us:List V}(D:DefOk F.scope.names np cs F.params)(hn:np≤F.scope.names.length){A:Addr}{o:Obj}{items:Array Value}{n:Nat}(h1:F.dV=.ref A)(h2:K.lookup A=some o)(h3:o.data=.seq items n)
  (h4:items.toList.length≤F.params.args.length)(hv:VRs (items.toList.drop (items.toList.length-us.length)) us):Dflt F np us:=
 dflt_of F D hn (x:=some items) rfl (fun X _ _ _ _ q=>h1▸wpAny_seqItems (X _ _ h2) h3 q) h4 hv
end
noncomputable def onSeq{Q:Data→Prop}{P:Prop}(d:Data)(h:Q d)(k:∀vs n,Q (.seq vs n)→Chk P):Chk P:=Data.casesOn (motive:=fun d=>Q d→Chk P) d (fun _=>.no) (fun _ _=>.no) k (fun _ _ _=>.no) (fun _ _ _ _=>.no) (fun _ _ _=>.no) (fun _ _=>.no) (fun _ _=>.no) (fun _ _=>.no) (fun _ _=>.no) (fun _=>.no) h
noncomputable def onRefV{Q:Value→Prop}{P:Prop}(v:Value)(h:Q v)(k:∀a,Q (.ref a)→Chk P):Chk P:=tg 10 (a:=v.ctorIdx) fun e=>Value.ref.elim (motive:=fun v=>Q v→Chk P) v e k h
noncomputable def ckDf{K:Frag}{f:Addr}(F:FO K f)(np:Nat)(cs:List Nat)(us:List V)(D:DefOk F.scope.names np cs F.params):Chk (Dflt F np us):=.ifB (Nat.ble np F.scope.names.length) fun hn=>
 Bool.rec (motive:=fun c=>Nat.beq F.dV.ctorIdx 0=c→Chk (Dflt F np us)) (fun _=>onRefV (Q:=fun v=>F.dV=v) F.dV rfl fun A h1=>onLk K A fun o h2=>onSeq (Q:=fun d=>o.data=d) o.data rfl fun items n h3=>
  .ifB (Nat.ble items.toList.length F.params.args.length) fun h4=>(ckV us (items.toList.drop (items.toList.length-us.length))).map fun hv=>dflt_some F D (Nat.le_of_ble_eq_true hn) h1 h2 h3 (Nat.le_of_ble_eq_true h4) hv)
  (fun h=>Value.none.elim (motive:=fun v=>F.dV=v→Chk (Dflt F np us)) F.dV (Nat.eq_of_beq_eq_true h) (fun e=>onNil (P:=Dflt F np) us (.yes (dflt_nil F D (Nat.le_of_ble_eq_true hn) e))) rfl) (Nat.beq F.dV.ctorIdx 0) rfl
noncomputable def FnAt(T:Tabs)(f:Addr)(nn np:Nat)(cs:List Nat)(us:List V)(p:Ns→List Stmt→Prop):Prop:=∃F:FO T.K f,F.scope.names.length=nn∧np≤nn∧DefOk F.scope.names np cs F.params∧Dflt F np us∧p F.scope.names F.body
noncomputable def ckFn(T:Tabs)(f:Addr)(nn np:Nat)(cs:List Nat)(us:List V){p:Ns→List Stmt→Prop}(k:∀ns b,Chk (p ns b)):Chk (FnAt T f nn np cs us p):=ckF T.K f fun F=>.ifB (decide (F.scope.names.length=nn)) fun h1=>.ifB (Nat.ble np nn) fun h2=>(ckDef F.scope.names np cs F.params).with_ fun D=>
 (ckDf F np cs us D).with_ fun d=>(k F.scope.names F.body).map fun h=>⟨F,of_decide_eq_true h1,Nat.le_of_ble_eq_true h2,D,d,h⟩
end
section
variable {W:Wd}{T:Tabs}{c1 c2:CT}{rk:Nat}
theorem FlR.leave{W:Wd}{C:Cx}{q:RG}{mF:SM}{Q:V→Hp→Prop}{QQ:VQ}{fl:Flow}{f2:Fl}{m2:M}{s2:Shared}{H2:Hp}(hfl:FlR fl f2)(a:At W C q mF H2 s2)(hQ2:kBody Q f2 m2 H2)(hq:Fin1 W C q mF QQ Q):QQ (match (generalizing:=false) fl with | .ret v=>v |_=>.none) s2:=by
 cases f2 with
 |next=>obtain rfl:=hfl;exact hq .none .none s2 H2 a .none hQ2
 |cont=>obtain rfl:=hfl;exact hq .none .none s2 H2 a .none hQ2
 |ret x=>obtain ⟨v,rfl,hv⟩:=hfl;exact hq _ _ s2 H2 a hv hQ2
theorem meets_of{L:Al}{g:String}{f:Addr}{b:MSs}{cs:List Nat}{nn np:Nat}{us:List V}(h:FnAt T f nn np cs us fun ns body=>TSs L ns b body)
  (hG:∀C:Cx,C.EnvOk→C.Ok W T (rk+2)→GL L W T c2 C rk C.ns)
  (hCT:∀xs H Q X,c1 g xs H Q X→xs.length+us.length=np∧enterP (xs++us) (fun m H=>wBody c2 b m H Q X) cs (Does.initMP nn (xs++us)) H):Meets W T c1 (rk+3) g f:=by
 obtain ⟨F,rfl,hn,D,hd,hb⟩:=h
 exact fun C q mF H s vs xs QQ EE Q X K a hvs hct hq hx=>enter_def F D hd hn K a hvs (hCT xs H Q X hct).1 (hCT xs H Q X hct).2 fun g' L' H' l s1 E' D' K' FG B₁ a' hbody=>
  hb _ _ _ _ _ (hG _ E' K') D' q l H' s1 _ _ _ X a' hbody PassesOwn.leaving (fun fl f2 l2 s2 H2 a2 hfl hQ2=>.inl<|leaveK_ a2.F a2.own.news fun F3 N3=>hfl.leave ⟨F3,own_up FG a2.own,a2.hs⟩ hQ2 hq)
   fun e s2 H2 hs2 ht hX=>leave_thr B₁ FG rfl F.hk ht fun h' t'=>hx e {s2 with heap:=h'} H2 hs2 t' hX
end
end
end Mine
end
section
namespace Mine
noncomputable def t_low_bits:MSs:=
 (.cons (.ret (.bin .and (.loc 0) (.bin .sub (.bin .shl (.cst (.int 1)) (.loc 1)) (.cst (.int 1)))))
 .nil)
noncomputable def t_turned_about:MSs:=
 (.cons (.asg 2 (.cst (.int 0)))
 (.cons (.for_ (.one 3) (.range1 (.loc 1))
 (.cons (.asg 2 (.bin .or (.bin .shl (.loc 2) (.cst (.int 1))) (.bin .and (.bin .shr (.loc 0) (.loc 3)) (.cst (.int 1)))))
 .nil))
 (.cons (.ret (.loc 2))
 .nil)))
noncomputable def t_check_fit:MSs:=
 (.cons (.if_ (.bop false (.cons (.cmp .lt (.loc 1) (.cst (.int 0))) (.cons (.cmp .lt (.loc 0) (.cst (.int 0))) (.cons (.cmp .ne (.bin .shr (.loc 0) (.loc 1)) (.cst (.int 0))) .nil))))
 (.cons (.raise (.cons (.cst (.str "a number that does not fit into its bits")) .nil))
 .nil)
 .nil)
 .nil)
noncomputable def t_BitsIn_init:MSs:=
 (.cons (.setattr (.loc 0) "data" (.loc 1))
 (.cons (.setattr (.loc 0) "at" (.loc 2))
 (.cons (.setattr (.loc 0) "held" (.cst (.int 0)))
 (.cons (.setattr (.loc 0) "count" (.cst (.int 0)))
 .nil))))
noncomputable def t_BitsIn_left:MSs:=
 (.cons (.ret (.bin .add (.attr (.loc 0) "count") (.bin .mul (.gint "OCTET" 8) (.bin .sub (.len (.attr (.loc 0) "data")) (.attr (.loc 0) "at")))))
 .nil)
noncomputable def t_BitsIn_need:MSs:=
 (.cons (.if_ (.cmp .lt (.meth (.loc 0) "left" .nil) (.loc 1))
 (.cons (.raise (.cons (.cst (.str "the data end too early")) (.cons (.attr (.loc 0) "at") .nil)))
 .nil)
 .nil)
 .nil)
noncomputable def t_BitsIn_take:MSs:=
 (.cons (.expr (.meth (.loc 0) "need" (.cons (.loc 1) .nil)))
 (.cons (.while_ (.cmp .lt (.attr (.loc 0) "count") (.loc 1))
 (.cons (.setattr (.loc 0) "held" (.bin .or (.attr (.loc 0) "held") (.bin .shl (.sub (.attr (.loc 0) "data") (.attr (.loc 0) "at")) (.attr (.loc 0) "count"))))
 (.cons (.setattr (.loc 0) "at" (.bin .add (.attr (.loc 0) "at") (.cst (.int 1))))
 (.cons (.setattr (.loc 0) "count" (.bin .add (.attr (.loc 0) "count") (.gint "OCTET" 8)))
 .nil))))
 (.cons (.asg 2 (.call "low_bits" (.cons (.attr (.loc 0) "held") (.cons (.loc 1) .nil))))
 (.cons (.setattr (.loc 0) "held" (.bin .shr (.attr (.loc 0) "held") (.loc 1)))
 (.cons (.setattr (.loc 0) "count" (.bin .sub (.attr (.loc 0) "count") (.loc 1)))
 (.cons (.ret (.loc 2))
 .nil))))))
noncomputable def t_BitsIn_align:MSs:=
 (.cons (.setattr (.loc 0) "held" (.cst (.int 0)))
 (.cons (.setattr (.loc 0) "count" (.cst (.int 0)))
 .nil))
noncomputable def t_BitsIn_octets:MSs:=
 (.cons (.expr (.meth (.loc 0) "need" (.cons (.bin .add (.attr (.loc 0) "count") (.bin .mul (.gint "OCTET" 8) (.loc 1))) .nil)))
 (.cons (.expr (.meth (.loc 0) "align" .nil))
 (.cons (.setattr (.loc 0) "at" (.bin .add (.attr (.loc 0) "at") (.loc 1)))
 (.cons (.ret (.bytesOf (.slc (.attr (.loc 0) "data") (.bin .sub (.attr (.loc 0) "at") (.loc 1)) (.attr (.loc 0) "at"))))
 .nil))))
noncomputable def t_BitsOut_init:MSs:=
 (.cons (.setattr (.loc 0) "made" .newBA)
 (.cons (.setattr (.loc 0) "held" (.cst (.int 0)))
 (.cons (.setattr (.loc 0) "count" (.cst (.int 0)))
 .nil)))
noncomputable def t_BitsOut_put:MSs:=
 (.cons (.expr (.call "check_fit" (.cons (.loc 1) (.cons (.loc 2) .nil))))
 (.cons (.setattr (.loc 0) "held" (.bin .or (.attr (.loc 0) "held") (.bin .shl (.loc 1) (.attr (.loc 0) "count"))))
 (.cons (.setattr (.loc 0) "count" (.bin .add (.attr (.loc 0) "count") (.loc 2)))
 (.cons (.while_ (.cmp .ge (.attr (.loc 0) "count") (.gint "OCTET" 8))
 (.cons (.expr (.app (.attr (.loc 0) "made") (.call "low_bits" (.cons (.attr (.loc 0) "held") (.cons (.gint "OCTET" 8) .nil)))))
 (.cons (.setattr (.loc 0) "held" (.bin .shr (.attr (.loc 0) "held") (.gint "OCTET" 8)))
 (.cons (.setattr (.loc 0) "count" (.bin .sub (.attr (.loc 0) "count") (.gint "OCTET" 8)))
 .nil))))
 .nil))))
noncomputable def t_BitsOut_align:MSs:=
 (.cons (.if_ (.cmp .gt (.attr (.loc 0) "count") (.cst (.int 0)))
 (.cons (.expr (.meth (.loc 0) "put" (.cons (.cst (.int 0)) (.cons (.bin .sub (.gint "OCTET" 8) (.attr (.loc 0) "count")) .nil))))
 .nil)
 .nil)
 .nil)
noncomputable def t_BitsOut_put_octets:MSs:=
 (.cons (.expr (.meth (.loc 0) "align" .nil))
 (.cons (.expr (.ext (.attr (.loc 0) "made") (.loc 1)))
 .nil))
noncomputable def t_BitsOut_octets:MSs:=
 (.cons (.if_ (.cmp .eq (.attr (.loc 0) "count") (.cst (.int 0)))
 (.cons (.ret (.bytesOf (.attr (.loc 0) "made")))
 .nil)
 .nil)
 (.cons (.ret (.bin .add (.bytesOf (.attr (.loc 0) "made")) (.bytesOf (.lst (.cons (.attr (.loc 0) "held") .nil)))))
 .nil))
noncomputable def t_greatest_length:MSs:=
 (.cons (.ret (.max1 (.bin .add (.lst (.cons (.cst (.int 0)) .nil)) (.listOf (.loc 0)))))
 .nil)
noncomputable def t_tally_of:MSs:=
 (.cons (.asg 1 (.bin .mul (.lst (.cons (.cst (.int 0)) .nil)) (.bin .add (.call "greatest_length" (.cons (.loc 0) .nil)) (.cst (.int 1)))))
 (.cons (.for_ (.one 2) (.over (.loc 0))
 (.cons (.if_ (.cmp .gt (.loc 2) (.cst (.int 0)))
 (.cons (.augsub (.loc 1) (.loc 2) .add (.cst (.int 1)))
 .nil)
 .nil)
 .nil))
 (.cons (.ret (.loc 1))
 .nil)))
noncomputable def t_room_left:MSs:=
 (.cons (.asg 1 (.cst (.int 1)))
 (.cons (.for_ (.one 2) (.over (.slcFrom (.call "tally_of" (.cons (.loc 0) .nil)) (.cst (.int 1))))
 (.cons (.asg 1 (.bin .sub (.bin .mul (.cst (.int 2)) (.loc 1)) (.loc 2)))
 .nil))
 (.cons (.ret (.loc 1))
 .nil)))
noncomputable def t_is_over:MSs:=
 (.cons (.ret (.cmp .lt (.call "room_left" (.cons (.loc 0) .nil)) (.cst (.int 0))))
 .nil)
noncomputable def t_first_codes:MSs:=
 (.cons (.asg 1 (.bin .mul (.lst (.cons (.cst (.int 0)) .nil)) (.len (.loc 0))))
 (.cons (.for_ (.one 2) (.range2 (.cst (.int 1)) (.len (.loc 0)))
 (.cons (.setsub (.loc 1) (.loc 2) (.bin .mul (.cst (.int 2)) (.bin .add (.sub (.loc 1) (.bin .sub (.loc 2) (.cst (.int 1)))) (.sub (.loc 0) (.bin .sub (.loc 2) (.cst (.int 1)))))))
 .nil))
 (.cons (.ret (.loc 1))
 .nil)))
noncomputable def t_codes_of:MSs:=
 (.cons (.if_ (.call "is_over" (.cons (.loc 0) .nil))
 (.cons (.raise (.cons (.cst (.str "too many codes")) .nil))
 .nil)
 .nil)
 (.cons (.asg 1 (.call "first_codes" (.cons (.call "tally_of" (.cons (.loc 0) .nil)) .nil)))
 (.cons (.asg 2 (.lst .nil))
 (.cons (.for_ (.one 3) (.over (.loc 0))
 (.cons (.expr (.app (.loc 2) (.ite (.cmp .gt (.loc 3) (.cst (.int 0))) (.sub (.loc 1) (.loc 3)) (.cst (.int 0)))))
 (.cons (.augsub (.loc 1) (.loc 3) .add (.cst (.int 1)))
 .nil)))
 (.cons (.ret (.loc 2))
 .nil)))))
noncomputable def t_symbols_of:MSs:=
 (.cons (.asg 1 (.comp (.lst .nil) (.range1 (.bin .add (.call "greatest_length" (.cons (.loc 0) .nil)) (.cst (.int 1)))) 1 2 []))
 (.cons (.for_ (.one 2) (.range1 (.len (.loc 0)))
 (.cons (.expr (.app (.sub (.loc 1) (.sub (.loc 0) (.loc 2))) (.loc 2)))
 .nil))
 (.cons (.asg 3 (.lst .nil))
 (.cons (.for_ (.one 4) (.over (.slcFrom (.loc 1) (.cst (.int 1))))
 (.cons (.expr (.ext (.loc 3) (.loc 4)))
 .nil))
 (.cons (.ret (.loc 3))
 .nil)))))
noncomputable def t_Decoder_init:MSs:=
 (.cons (.if_ (.call "is_over" (.cons (.loc 1) .nil))
 (.cons (.raise (.cons (.cst (.str "too many codes")) .nil))
 .nil)
 .nil)
 (.cons (.setattr (.loc 0) "tally" (.call "tally_of" (.cons (.loc 1) .nil)))
 (.cons (.setattr (.loc 0) "symbols" (.call "symbols_of" (.cons (.loc 1) .nil)))
 .nil)))
noncomputable def t_Decoder_read:MSs:=
 (.cons (.asg 2 (.cst (.int 0)))
 (.cons (.asg 3 (.cst (.int 0)))
 (.cons (.asg 4 (.cst (.int 0)))
 (.cons (.for_ (.one 5) (.over (.slcFrom (.attr (.loc 0) "tally") (.cst (.int 1))))
 (.cons (.asg 2 (.bin .add (.bin .mul (.cst (.int 2)) (.loc 2)) (.meth (.loc 1) "take" (.cons (.cst (.int 1)) .nil))))
 (.cons (.if_ (.cmp .lt (.bin .sub (.loc 2) (.loc 3)) (.loc 5))
 (.cons (.ret (.sub (.attr (.loc 0) "symbols") (.bin .sub (.bin .add (.loc 4) (.loc 2)) (.loc 3))))
 .nil)
 .nil)
 (.cons (.aug 4 .add (.loc 5))
 (.cons (.asg 3 (.bin .mul (.cst (.int 2)) (.bin .add (.loc 3) (.loc 5))))
 .nil)))))
 (.cons (.raise (.cons (.cst (.str "a code that no symbol has")) (.cons (.attr (.loc 1) "at") .nil)))
 .nil)))))
noncomputable def t_Encoder_init:MSs:=
 (.cons (.setattr (.loc 0) "lengths" (.listOf (.cel 1)))
 (.cons (.asgC 2 (.call "codes_of" (.cons (.cel 1) .nil)))
 (.cons (.setattr (.loc 0) "turned" (.comp (.call "turned_about" (.cons (.sub (.cel 3) (.loc 1)) (.cons (.sub (.cel 4) (.loc 1)) .nil))) (.range1 (.len (.cel 1))) 1 5 [(3,2),(4,1)]))
 .nil)))
noncomputable def t_Encoder_put:MSs:=
 (.cons (.if_ (.bop false (.cons (.cmp .lt (.loc 2) (.cst (.int 0))) (.cons (.cmp .ge (.loc 2) (.len (.attr (.loc 0) "lengths"))) (.cons (.cmp .eq (.sub (.attr (.loc 0) "lengths") (.loc 2)) (.cst (.int 0))) .nil))))
 (.cons (.raise (.cons (.cst (.str "a symbol without a code")) .nil))
 .nil)
 .nil)
 (.cons (.expr (.meth (.loc 1) "put" (.cons (.sub (.attr (.loc 0) "turned") (.loc 2)) (.cons (.sub (.attr (.loc 0) "lengths") (.loc 2)) .nil))))
 .nil))
noncomputable def t_length_rows:MSs:=
 (.cons (.asg 0 (.lst .nil))
 (.cons (.asg 1 (.lst .nil))
 (.cons (.asg 2 (.cst (.int 3)))
 (.cons (.for_ (.one 3) (.range1 (.cst (.int 28)))
 (.cons (.asg 4 (.max2 (.bin .sub (.bin .fdiv (.loc 3) (.cst (.int 4))) (.cst (.int 1))) (.cst (.int 0))))
 (.cons (.expr (.app (.loc 0) (.loc 2)))
 (.cons (.expr (.app (.loc 1) (.loc 4)))
 (.cons (.aug 2 .add (.bin .shl (.cst (.int 1)) (.loc 4)))
 .nil)))))
 (.cons (.ret (.tup (.cons (.bin .add (.loc 0) (.lst (.cons (.cst (.int 258)) .nil))) (.cons (.bin .add (.loc 1) (.lst (.cons (.cst (.int 0)) .nil))) .nil))))
 .nil)))))
noncomputable def t_distance_rows:MSs:=
 (.cons (.asg 0 (.lst .nil))
 (.cons (.asg 1 (.lst .nil))
 (.cons (.asg 2 (.cst (.int 1)))
 (.cons (.for_ (.one 3) (.range1 (.cst (.int 30)))
 (.cons (.asg 4 (.max2 (.bin .sub (.bin .fdiv (.loc 3) (.cst (.int 2))) (.cst (.int 1))) (.cst (.int 0))))
 (.cons (.expr (.app (.loc 0) (.loc 2)))
 (.cons (.expr (.app (.loc 1) (.loc 4)))
 (.cons (.aug 2 .add (.bin .shl (.cst (.int 1)) (.loc 4)))
 .nil)))))
 (.cons (.ret (.tup (.cons (.loc 0) (.cons (.loc 1) .nil))))
 .nil)))))
noncomputable def t_fixed_lengths:MSs:=
 (.cons (.ret (.tup (.cons (.bin .add (.bin .add (.bin .add (.bin .mul (.lst (.cons (.cst (.int 8)) .nil)) (.cst (.int 144))) (.bin .mul (.lst (.cons (.cst (.int 9)) .nil)) (.cst (.int 112)))) (.bin .mul (.lst (.cons (.cst (.int 7)) .nil)) (.cst (.int 24)))) (.bin .mul (.lst (.cons (.cst (.int 8)) .nil)) (.cst (.int 8)))) (.cons (.bin .mul (.lst (.cons (.cst (.int 5)) .nil)) (.cst (.int 32))) .nil))))
 .nil)
noncomputable def t_read_part:MSs:=
 (.cons (.asg 4 (.meth (.loc 1) "read" (.cons (.loc 0) .nil)))
 (.cons (.if_ (.cmp .lt (.loc 4) (.gint "END_inflate" 256))
 (.cons (.ret (.loc 4))
 .nil)
 .nil)
 (.cons (.if_ (.cmp .eq (.loc 4) (.gint "END_inflate" 256))
 (.cons (.ret (.cst .none))
 .nil)
 .nil)
 (.cons (.asg 5 (.bin .sub (.bin .sub (.loc 4) (.gint "END_inflate" 256)) (.cst (.int 1))))
 (.cons (.if_ (.cmp .ge (.loc 5) (.len (.sub (.sub (.loc 3) (.cst (.int 0))) (.cst (.int 0)))))
 (.cons (.raise (.cons (.cst (.str "a length that there is not")) (.cons (.attr (.loc 0) "at") .nil)))
 .nil)
 .nil)
 (.cons (.asg 6 (.bin .add (.sub (.sub (.sub (.loc 3) (.cst (.int 0))) (.cst (.int 0))) (.loc 5)) (.meth (.loc 0) "take" (.cons (.sub (.sub (.sub (.loc 3) (.cst (.int 0))) (.cst (.int 1))) (.loc 5)) .nil))))
 (.cons (.asg 5 (.meth (.loc 2) "read" (.cons (.loc 0) .nil)))
 (.cons (.if_ (.cmp .ge (.loc 5) (.len (.sub (.sub (.loc 3) (.cst (.int 1))) (.cst (.int 0)))))
 (.cons (.raise (.cons (.cst (.str "a distance that there is not")) (.cons (.attr (.loc 0) "at") .nil)))
 .nil)
 .nil)
 (.cons (.ret (.tup (.cons (.loc 6) (.cons (.bin .add (.sub (.sub (.sub (.loc 3) (.cst (.int 1))) (.cst (.int 0))) (.loc 5)) (.meth (.loc 0) "take" (.cons (.sub (.sub (.sub (.loc 3) (.cst (.int 1))) (.cst (.int 1))) (.loc 5)) .nil))) .nil))))
 .nil)))))))))
noncomputable def t_lay_part:MSs:=
 (.cons (.if_ (.isInt (.loc 1))
 (.cons (.expr (.app (.loc 0) (.loc 1)))
 (.cons .ret0
 .nil))
 .nil)
 (.cons (.unpack [3,4] (.loc 1))
 (.cons (.if_ (.cmp .gt (.loc 4) (.len (.loc 0)))
 (.cons (.raise (.cons (.cst (.str "a distance beyond the first octet")) (.cons (.loc 2) .nil)))
 .nil)
 .nil)
 (.cons (.for_ (.one 5) (.range1 (.loc 3))
 (.cons (.expr (.app (.loc 0) (.sub (.loc 0) (.bin .sub (.len (.loc 0)) (.loc 4)))))
 .nil))
 .nil))))
noncomputable def t_read_stored:MSs:=
 (.cons (.expr (.meth (.loc 0) "align" .nil))
 (.cons (.asg 1 (.meth (.loc 0) "take" (.cons (.cst (.int 16)) .nil)))
 (.cons (.if_ (.cmp .ne (.bin .add (.loc 1) (.meth (.loc 0) "take" (.cons (.cst (.int 16)) .nil))) (.cst (.int 65535)))
 (.cons (.raise (.cons (.cst (.str "a stored block whose lengths do not agree")) (.cons (.attr (.loc 0) "at") .nil)))
 .nil)
 .nil)
 (.cons (.ret (.meth (.loc 0) "octets" (.cons (.loc 1) .nil)))
 .nil))))
noncomputable def t_block_decoders:MSs:=
 (.cons (.if_ (.cmp .eq (.loc 1) (.cst (.int 2)))
 (.cons (.ret (.call "read_decoders" (.cons (.loc 0) .nil)))
 .nil)
 .nil)
 (.cons (.if_ (.cmp .eq (.loc 1) (.cst (.int 3)))
 (.cons (.raise (.cons (.cst (.str "a block of way 3")) (.cons (.attr (.loc 0) "at") .nil)))
 .nil)
 .nil)
 (.cons (.unpack [2,3] (.call "fixed_lengths" .nil))
 (.cons (.ret (.tup (.cons (.new "Decoder" (.cons (.loc 2) .nil)) (.cons (.new "Decoder" (.cons (.loc 3) .nil)) .nil))))
 .nil))))
noncomputable def t_inflate_into:MSs:=
 (.cons (.asg 2 (.tup (.cons (.call "length_rows" .nil) (.cons (.call "distance_rows" .nil) .nil))))
 (.cons (.asg 3 (.cst (.bool false)))
 (.cons (.while_ (.not (.loc 3))
 (.cons (.asg 3 (.cmp .eq (.meth (.loc 1) "take" (.cons (.cst (.int 1)) .nil)) (.cst (.int 1))))
 (.cons (.asg 4 (.meth (.loc 1) "take" (.cons (.cst (.int 2)) .nil)))
 (.cons (.if_ (.cmp .eq (.loc 4) (.cst (.int 0)))
 (.cons (.expr (.ext (.loc 0) (.call "read_stored" (.cons (.loc 1) .nil))))
 (.cons .cont
 .nil))
 .nil)
 (.cons (.unpack [5,6] (.call "block_decoders" (.cons (.loc 1) (.cons (.loc 4) .nil))))
 (.cons (.asg 7 (.call "read_part" (.cons (.loc 1) (.cons (.loc 5) (.cons (.loc 6) (.cons (.loc 2) .nil))))))
 (.cons (.while_ (.cmp .isnot (.loc 7) (.cst .none))
 (.cons (.expr (.call "lay_part" (.cons (.loc 0) (.cons (.loc 7) (.cons (.attr (.loc 1) "at") .nil)))))
 (.cons (.asg 7 (.call "read_part" (.cons (.loc 1) (.cons (.loc 5) (.cons (.loc 6) (.cons (.loc 2) .nil))))))
 .nil)))
 .nil)))))))
 (.cons (.expr (.meth (.loc 1) "align" .nil))
 .nil))))
noncomputable def t_inflate:MSs:=
 (.cons (.asg 2 (.new "BitsIn" (.cons (.loc 0) (.cons (.loc 1) .nil))))
 (.cons (.asg 3 .newBA)
 (.cons (.expr (.call "inflate_into" (.cons (.loc 3) (.cons (.loc 2) .nil))))
 (.cons (.ret (.tup (.cons (.bytesOf (.loc 3)) (.cons (.attr (.loc 2) "at") .nil))))
 .nil))))
noncomputable def t_adler:MSs:=
 (.cons (.asg 1 (.cst (.int 1)))
 (.cons (.asg 2 (.cst (.int 0)))
 (.cons (.for_ (.one 3) (.over (.loc 0))
 (.cons (.asg 1 (.bin .mod (.bin .add (.loc 1) (.loc 3)) (.gint "SUM_BASE" 65521)))
 (.cons (.asg 2 (.bin .mod (.bin .add (.loc 2) (.loc 1)) (.gint "SUM_BASE" 65521)))
 .nil)))
 (.cons (.ret (.bin .add (.bin .mul (.loc 2) (.cst (.int 65536))) (.loc 1)))
 .nil))))
noncomputable def t_check_frame:MSs:=
 (.cons (.if_ (.cmp .lt (.len (.loc 0)) (.cst (.int 2)))
 (.cons (.raise (.cons (.cst (.str "data that end early")) (.cons (.len (.loc 0)) .nil)))
 .nil)
 .nil)
 (.cons (.if_ (.cmp .ne (.bin .mod (.bin .add (.bin .mul (.cst (.int 256)) (.sub (.loc 0) (.cst (.int 0)))) (.sub (.loc 0) (.cst (.int 1)))) (.cst (.int 31))) (.cst (.int 0)))
 (.cons (.raise (.cons (.cst (.str "a frame whose check is wrong")) (.cons (.cst (.int 0)) .nil)))
 .nil)
 .nil)
 (.cons (.if_ (.bop false (.cons (.cmp .ne (.bin .mod (.sub (.loc 0) (.cst (.int 0))) (.cst (.int 16))) (.cst (.int 8))) (.cons (.cmp .gt (.bin .fdiv (.sub (.loc 0) (.cst (.int 0))) (.cst (.int 16))) (.cst (.int 7))) .nil)))
 (.cons (.raise (.cons (.cst (.str "a frame of another way")) (.cons (.cst (.int 0)) .nil)))
 .nil)
 .nil)
 (.cons (.if_ (.cmp .eq (.bin .mod (.bin .fdiv (.sub (.loc 0) (.cst (.int 1))) (.cst (.int 32))) (.cst (.int 2))) (.cst (.int 1)))
 (.cons (.raise (.cons (.cst (.str "a frame with a dictionary")) (.cons (.cst (.int 1)) .nil)))
 .nil)
 .nil)
 .nil))))
noncomputable def t_check_sum:MSs:=
 (.cons (.if_ (.cmp .lt (.len (.loc 0)) (.bin .add (.loc 1) (.cst (.int 4))))
 (.cons (.raise (.cons (.cst (.str "data that end early")) (.cons (.len (.loc 0)) .nil)))
 .nil)
 .nil)
 (.cons (.asg 3 (.cst (.int 0)))
 (.cons (.for_ (.one 4) (.over (.slc (.loc 0) (.loc 1) (.bin .add (.loc 1) (.cst (.int 4)))))
 (.cons (.asg 3 (.bin .add (.bin .mul (.cst (.int 256)) (.loc 3)) (.loc 4)))
 .nil))
 (.cons (.if_ (.cmp .ne (.loc 3) (.call "adler" (.cons (.loc 2) .nil)))
 (.cons (.raise (.cons (.cst (.str "a wrong sum")) (.cons (.loc 1) .nil)))
 .nil)
 .nil)
 .nil))))
noncomputable def t_zlib_decoded:MSs:=
 (.cons (.expr (.call "check_frame" (.cons (.loc 0) .nil)))
 (.cons (.unpack [1,2] (.call "inflate" (.cons (.loc 0) (.cons (.cst (.int 2)) .nil))))
 (.cons (.expr (.call "check_sum" (.cons (.loc 0) (.cons (.loc 2) (.cons (.loc 1) .nil)))))
 (.cons (.ret (.loc 1))
 .nil))))
noncomputable def t_key_at:MSs:=
 (.cons (.ret (.bin .add (.bin .add (.sub (.loc 0) (.loc 1)) (.bin .mul (.cst (.int 256)) (.sub (.loc 0) (.bin .add (.loc 1) (.cst (.int 1)))))) (.bin .mul (.cst (.int 65536)) (.sub (.loc 0) (.bin .add (.loc 1) (.cst (.int 2)))))))
 .nil)
noncomputable def t_Chains_init:MSs:=
 (.cons (.setattr (.loc 0) "octets" (.loc 1))
 (.cons (.setattr (.loc 0) "heads" .dict0)
 (.cons (.setattr (.loc 0) "earlier" (.lst .nil))
 .nil)))
noncomputable def t_Chains_put:MSs:=
 (.cons (.while_ (.cmp .lt (.len (.attr (.loc 0) "earlier")) (.loc 1))
 (.cons (.asg 2 (.len (.attr (.loc 0) "earlier")))
 (.cons (.asg 3 (.neg (.cst (.int 1))))
 (.cons (.if_ (.cmp .le (.bin .add (.loc 2) (.gint "LEAST" 3)) (.len (.attr (.loc 0) "octets")))
 (.cons (.asg 4 (.call "key_at" (.cons (.attr (.loc 0) "octets") (.cons (.loc 2) .nil))))
 (.cons (.asg 3 (.dget (.attr (.loc 0) "heads") (.loc 4) (.neg (.cst (.int 1)))))
 (.cons (.setsub (.attr (.loc 0) "heads") (.loc 4) (.loc 2))
 .nil)))
 .nil)
 (.cons (.expr (.app (.attr (.loc 0) "earlier") (.loc 3)))
 .nil)))))
 .nil)
noncomputable def t_Chains_places:MSs:=
 (.cons (.asg 4 (.lst .nil))
 (.cons (.if_ (.cmp .gt (.bin .add (.loc 1) (.gint "LEAST" 3)) (.len (.attr (.loc 0) "octets")))
 (.cons (.ret (.loc 4))
 .nil)
 .nil)
 (.cons (.asg 5 (.dget (.attr (.loc 0) "heads") (.call "key_at" (.cons (.attr (.loc 0) "octets") (.cons (.loc 1) .nil))) (.neg (.cst (.int 1)))))
 (.cons (.while_ (.bop true (.cons (.cmp .ge (.loc 5) (.cst (.int 0))) (.cons (.cmp .le (.bin .sub (.loc 1) (.loc 5)) (.loc 2)) (.cons (.cmp .lt (.len (.loc 4)) (.loc 3)) .nil))))
 (.cons (.expr (.app (.loc 4) (.loc 5)))
 (.cons (.asg 5 (.sub (.attr (.loc 0) "earlier") (.loc 5)))
 .nil)))
 (.cons (.ret (.loc 4))
 .nil)))))
noncomputable def t_common_length:MSs:=
 (.cons (.asg 4 (.cst (.int 0)))
 (.cons (.asg 5 (.min2 (.bin .sub (.len (.loc 0)) (.loc 2)) (.loc 3)))
 (.cons (.while_ (.bop true (.cons (.cmp .lt (.loc 4) (.loc 5)) (.cons (.cmp .eq (.sub (.loc 0) (.bin .add (.loc 1) (.loc 4))) (.sub (.loc 0) (.bin .add (.loc 2) (.loc 4)))) .nil)))
 (.cons (.aug 4 .add (.cst (.int 1)))
 .nil))
 (.cons (.ret (.loc 4))
 .nil))))
noncomputable def t_matches_by_length:MSs:=
 (.cons (.asg 5 (.lst .nil))
 (.cons (.asg 6 (.bin .sub (.gint "LEAST" 3) (.cst (.int 1))))
 (.cons (.expr (.meth (.loc 0) "put" (.cons (.loc 1) .nil)))
 (.cons (.for_ (.one 7) (.over (.meth (.loc 0) "places" (.cons (.loc 1) (.cons (.loc 2) (.cons (.loc 4) .nil)))))
 (.cons (.asg 8 (.call "common_length" (.cons (.attr (.loc 0) "octets") (.cons (.loc 7) (.cons (.loc 1) (.cons (.loc 3) .nil))))))
 (.cons (.while_ (.cmp .lt (.loc 6) (.loc 8))
 (.cons (.aug 6 .add (.cst (.int 1)))
 (.cons (.expr (.app (.loc 5) (.tup (.cons (.loc 6) (.cons (.bin .sub (.loc 1) (.loc 7)) .nil)))))
 .nil)))
 .nil)))
 (.cons (.ret (.loc 5))
 .nil)))))
noncomputable def t_cheapest_parts:MSs:=
 (.cons (.asgC 5 (.new "Chains" (.cons (.loc 0) .nil)))
 (.cons (.asg 7 (.comp (.call "matches_by_length" (.cons (.cel 3) (.cons (.loc 1) (.cons (.cel 4) (.cons (.cel 5) (.cons (.cel 6) .nil)))))) (.range1 (.len (.loc 0))) 1 7 [(3,5),(4,2),(5,3),(6,4)]))
 (.cons (.asg 8 (.bin .mul (.lst (.cons (.cst (.int 0)) .nil)) (.bin .add (.len (.loc 0)) (.cst (.int 1)))))
 (.cons (.asg 9 (.bin .mul (.lst (.cons (.cst .none) .nil)) (.len (.loc 0))))
 (.cons (.for_ (.one 6) (.range3 (.bin .sub (.len (.loc 0)) (.cst (.int 1))) (.neg (.cst (.int 1))) (.neg (.cst (.int 1))))
 (.cons (.setsub (.loc 8) (.loc 6) (.bin .add (.meth (.loc 1) "literal" (.cons (.sub (.loc 0) (.loc 6)) .nil)) (.sub (.loc 8) (.bin .add (.loc 6) (.cst (.int 1))))))
 (.cons (.for_ (.tup [10,11]) (.over (.sub (.loc 7) (.loc 6)))
 (.cons (.asg 12 (.bin .add (.meth (.loc 1) "match" (.cons (.loc 10) (.cons (.loc 11) .nil))) (.sub (.loc 8) (.bin .add (.loc 6) (.loc 10)))))
 (.cons (.if_ (.cmp .lt (.loc 12) (.sub (.loc 8) (.loc 6)))
 (.cons (.setsub (.loc 8) (.loc 6) (.loc 12))
 (.cons (.setsub (.loc 9) (.loc 6) (.tup (.cons (.loc 10) (.cons (.loc 11) .nil))))
 .nil))
 .nil)
 .nil)))
 .nil)))
 (.cons (.asg 13 (.lst .nil))
 (.cons (.asg 6 (.cst (.int 0)))
 (.cons (.while_ (.cmp .lt (.loc 6) (.len (.loc 0)))
 (.cons (.if_ (.cmp .is (.sub (.loc 9) (.loc 6)) (.cst .none))
 (.cons (.expr (.app (.loc 13) (.sub (.loc 0) (.loc 6))))
 (.cons (.aug 6 .add (.cst (.int 1)))
 .nil))
 (.cons (.expr (.app (.loc 13) (.sub (.loc 9) (.loc 6))))
 (.cons (.aug 6 .add (.sub (.sub (.loc 9) (.loc 6)) (.cst (.int 0))))
 .nil)))
 .nil))
 (.cons (.ret (.loc 13))
 .nil)))))))))
noncomputable def t_split_number:MSs:=
 (.cons (.asg 2 (.cst (.int 0)))
 (.cons (.while_ (.cmp .ge (.bin .shr (.loc 0) (.loc 2)) (.bin .mul (.cst (.int 2)) (.loc 1)))
 (.cons (.aug 2 .add (.cst (.int 1)))
 .nil))
 (.cons (.ret (.tup (.cons (.bin .add (.bin .mul (.loc 1) (.loc 2)) (.bin .shr (.loc 0) (.loc 2))) (.cons (.loc 2) (.cons (.bin .and (.loc 0) (.bin .sub (.bin .shl (.cst (.int 1)) (.loc 2)) (.cst (.int 1)))) .nil)))))
 .nil)))
noncomputable def t_length_symbol:MSs:=
 (.cons (.if_ (.cmp .eq (.loc 0) (.cst (.int 258)))
 (.cons (.ret (.tup (.cons (.cst (.int 285)) (.cons (.cst (.int 0)) (.cons (.cst (.int 0)) .nil)))))
 .nil)
 .nil)
 (.cons (.unpack [1,2,3] (.call "split_number" (.cons (.bin .sub (.loc 0) (.cst (.int 3))) (.cons (.cst (.int 4)) .nil))))
 (.cons (.ret (.tup (.cons (.bin .add (.cst (.int 257)) (.loc 1)) (.cons (.loc 2) (.cons (.loc 3) .nil)))))
 .nil)))
noncomputable def t_distance_symbol:MSs:=
 (.cons (.ret (.call "split_number" (.cons (.bin .sub (.loc 0) (.cst (.int 1))) (.cons (.cst (.int 2)) .nil))))
 .nil)
noncomputable def t_Prices_init:MSs:=
 (.cons (.setattr (.loc 0) "literals" (.loc 1))
 (.cons (.setattr (.loc 0) "distances" (.loc 2))
 .nil))
noncomputable def t_Prices_literal:MSs:=
 (.cons (.ret (.bop false (.cons (.sub (.attr (.loc 0) "literals") (.loc 1)) (.cons (.gint "UNUSED_PRICE" 16) .nil))))
 .nil)
noncomputable def t_Prices_match:MSs:=
 (.cons (.unpack [3,4,5] (.call "length_symbol" (.cons (.loc 1) .nil)))
 (.cons (.unpack [6,7,5] (.call "distance_symbol" (.cons (.loc 2) .nil)))
 (.cons (.ret (.bin .add (.bin .add (.bin .add (.bop false (.cons (.sub (.attr (.loc 0) "literals") (.loc 3)) (.cons (.gint "UNUSED_PRICE" 16) .nil))) (.loc 4)) (.bop false (.cons (.sub (.attr (.loc 0) "distances") (.loc 6)) (.cons (.gint "UNUSED_PRICE" 16) .nil)))) (.loc 7)))
 .nil)))
noncomputable def t_put_parts:MSs:=
 (.cons (.asg 4 (.new "Encoder" (.cons (.loc 2) .nil)))
 (.cons (.asg 5 (.new "Encoder" (.cons (.loc 3) .nil)))
 (.cons (.for_ (.one 6) (.over (.loc 1))
 (.cons (.if_ (.isTup (.loc 6))
 (.cons (.unpack [7,8,9] (.call "length_symbol" (.cons (.sub (.loc 6) (.cst (.int 0))) .nil)))
 (.cons (.expr (.meth (.loc 4) "put" (.cons (.loc 0) (.cons (.loc 7) .nil))))
 (.cons (.expr (.meth (.loc 0) "put" (.cons (.loc 9) (.cons (.loc 8) .nil))))
 (.cons (.unpack [7,8,9] (.call "distance_symbol" (.cons (.sub (.loc 6) (.cst (.int 1))) .nil)))
 (.cons (.expr (.meth (.loc 5) "put" (.cons (.loc 0) (.cons (.loc 7) .nil))))
 (.cons (.expr (.meth (.loc 0) "put" (.cons (.loc 9) (.cons (.loc 8) .nil))))
 .nil))))))
 (.cons (.expr (.meth (.loc 4) "put" (.cons (.loc 0) (.cons (.loc 6) .nil))))
 .nil))
 .nil))
 (.cons (.expr (.meth (.loc 4) "put" (.cons (.loc 0) (.cons (.gint "END_deflate" 256) .nil))))
 .nil))))
noncomputable def t_put_stored:MSs:=
 (.cons (.expr (.meth (.loc 0) "put" (.cons (.loc 2) (.cons (.cst (.int 1)) .nil))))
 (.cons (.expr (.meth (.loc 0) "put" (.cons (.cst (.int 0)) (.cons (.cst (.int 2)) .nil))))
 (.cons (.expr (.meth (.loc 0) "align" .nil))
 (.cons (.expr (.meth (.loc 0) "put" (.cons (.len (.loc 1)) (.cons (.cst (.int 16)) .nil))))
 (.cons (.expr (.meth (.loc 0) "put" (.cons (.bin .sub (.cst (.int 65535)) (.len (.loc 1))) (.cons (.cst (.int 16)) .nil))))
 (.cons (.expr (.meth (.loc 0) "put_octets" (.cons (.loc 1) .nil)))
 .nil))))))
noncomputable def t_put_fixed:MSs:=
 (.cons (.expr (.meth (.loc 0) "put" (.cons (.loc 2) (.cons (.cst (.int 1)) .nil))))
 (.cons (.expr (.meth (.loc 0) "put" (.cons (.cst (.int 1)) (.cons (.cst (.int 2)) .nil))))
 (.cons (.unpack [3,4] (.call "fixed_lengths" .nil))
 (.cons (.expr (.call "put_parts" (.cons (.loc 0) (.cons (.loc 1) (.cons (.loc 3) (.cons (.loc 4) .nil))))))
 .nil))))
noncomputable def t_fixed_parts:MSs:=
 (.cons (.unpack [1,2] (.call "fixed_lengths" .nil))
 (.cons (.ret (.call "cheapest_parts" (.cons (.loc 0) (.cons (.new "Prices" (.cons (.loc 1) (.cons (.loc 2) .nil))) .nil))))
 .nil))
noncomputable def t_parts_by:MSs:=
 (.cons (.asg 2 (.comp (.slc (.cel 3) (.loc 1) (.bin .add (.loc 1) (.cel 2))) (.range3 (.cst (.int 0)) (.len (.cel 0)) (.cel 1)) 1 4 [(2,1),(3,0)]))
 (.cons (.ret (.ite (.cmp .gt (.len (.loc 2)) (.cst (.int 0))) (.loc 2) (.lst (.cons (.lst .nil) .nil))))
 .nil))
noncomputable def t_stored:MSs:=
 (.cons (.asg 2 (.new "BitsOut" .nil))
 (.cons (.asg 4 (.comp (.slc (.cel 3) (.loc 1) (.bin .add (.loc 1) (.cel 2))) (.range3 (.cst (.int 0)) (.len (.cel 0)) (.cel 1)) 1 4 [(2,1),(3,0)]))
 (.cons (.if_ (.cmp .eq (.len (.loc 4)) (.cst (.int 0)))
 (.cons (.asg 4 (.lst (.cons (.cst (.bytes [])) .nil)))
 .nil)
 .nil)
 (.cons (.for_ (.one 3) (.range1 (.len (.loc 4)))
 (.cons (.expr (.call "put_stored" (.cons (.loc 2) (.cons (.sub (.loc 4) (.loc 3)) (.cons (.intOf (.cmp .eq (.loc 3) (.bin .sub (.len (.loc 4)) (.cst (.int 1))))) .nil)))))
 .nil))
 (.cons (.ret (.meth (.loc 2) "octets" .nil))
 .nil)))))
noncomputable def t_fixed:MSs:=
 (.cons (.asg 2 (.new "BitsOut" .nil))
 (.cons (.asg 3 (.call "parts_by" (.cons (.call "fixed_parts" (.cons (.loc 0) .nil)) (.cons (.loc 1) .nil))))
 (.cons (.for_ (.one 4) (.range1 (.len (.loc 3)))
 (.cons (.expr (.call "put_fixed" (.cons (.loc 2) (.cons (.sub (.loc 3) (.loc 4)) (.cons (.intOf (.cmp .eq (.loc 4) (.bin .sub (.len (.loc 3)) (.cst (.int 1))))) .nil)))))
 .nil))
 (.cons (.ret (.meth (.loc 2) "octets" .nil))
 .nil))))
noncomputable def t_deflated:MSs:=
 (.cons (.if_ (.cmp .eq (.loc 1) (.cst (.str "stored")))
 (.cons (.ret (.call "stored" (.cons (.loc 0) (.cons (.gint "MOST_STORED" 65535) .nil))))
 .nil)
 .nil)
 (.cons (.if_ (.cmp .eq (.loc 1) (.cst (.str "fixed")))
 (.cons (.ret (.call "fixed" (.cons (.loc 0) (.cons (.loc 2) .nil))))
 .nil)
 .nil)
 (.cons (.if_ (.cmp .eq (.loc 1) (.cst (.str "dynamic")))
 (.cons (.ret (.call "dynamic" (.cons (.call "made_blocks" (.cons (.loc 0) (.cons (.loc 2) .nil))) .nil)))
 .nil)
 .nil)
 (.cons (.if_ (.cmp .eq (.loc 1) (.cst (.str "mixed")))
 (.cons (.ret (.call "mixed" (.cons (.loc 0) (.cons (.call "made_blocks" (.cons (.loc 0) (.cons (.loc 2) .nil))) .nil))))
 .nil)
 .nil)
 (.cons (.if_ (.cmp .ne (.loc 1) (.cst (.str "best")))
 (.cons (.raise (.cons (.bin .add (.cst (.str "unknown way ")) (.loc 1)) .nil))
 .nil)
 .nil)
 (.cons (.ret (.call "shortest" (.cons (.call "all_ways" (.cons (.loc 0) (.cons (.loc 2) .nil))) .nil)))
 .nil))))))
noncomputable def t_zlib_head:MSs:=
 (.cons (.asg 1 (.lvl (.loc 0)))
 (.cons (.asg 2 (.bin .add (.bin .mul (.cst (.int 256)) (.cst (.int 120))) (.bin .mul (.cst (.int 64)) (.loc 1))))
 (.cons (.aug 2 .add (.bin .sub (.cst (.int 31)) (.bin .mod (.loc 2) (.cst (.int 31)))))
 (.cons (.ret (.bytesOf (.lst (.cons (.bin .fdiv (.loc 2) (.cst (.int 256))) (.cons (.bin .mod (.loc 2) (.cst (.int 256))) .nil)))))
 .nil))))
noncomputable def t_zlib_encoded:MSs:=
 (.cons (.asgC 2 (.call "adler" (.cons (.loc 0) .nil)))
 (.cons (.asg 3 (.bytesOf (.comp (.bin .mod (.bin .shr (.cel 2) (.loc 1)) (.cst (.int 256))) (.over (.tup (.cons (.cst (.int 24)) (.cons (.cst (.int 16)) (.cons (.cst (.int 8)) (.cons (.cst (.int 0)) .nil)))))) 1 3 [(2,2)])))
 (.cons (.ret (.bin .add (.bin .add (.call "zlib_head" (.cons (.loc 1) .nil)) (.call "deflated" (.cons (.loc 0) (.cons (.loc 1) .nil)))) (.loc 3)))
 .nil)))
noncomputable def t_law:MSs:=
 (.cons (.asgC 1 (.call "_law_taker" (.cons (.loc 0) .nil)))
 (.cons (.asgC 2 (.take 1 (.cst (.int 13))))
 (.cons (.asg 3 (.sub (.tup (.cons (.cst (.str "stored")) (.cons (.cst (.str "fixed")) .nil))) (.take 1 (.cst (.int 2)))))
 (.cons (.asgC 4 (.bytesOf (.comp (.take 2 (.cst (.int 256))) (.range1 (.cel 2)) 1 3 [(2,1)])))
 (.cons (.if_ (.cmp .eq (.take 1 (.cst (.int 4))) (.cst (.int 0)))
 (.cons (.asgC 2 (.bin .add (.ite (.cmp .eq (.loc 3) (.cst (.str "stored"))) (.cst (.int 258)) (.cst (.int 24))) (.take 1 (.cst (.int 5)))))
 (.cons (.asgC 4 (.bytesOf (.bin .mul (.lst (.cons (.cst (.int 255)) .nil)) (.cel 2))))
 .nil))
 .nil)
 (.cons (.asgC 5 (.call "zlib_encoded" (.cons (.cel 4) (.cons (.loc 3) .nil))))
 (.cons (.asg 6 (.bin .mod (.bin .add (.cst (.int 1)) (.sum (.cel 4))) (.cst (.int 65521))))
 (.cons (.asg 8 (.bin .mod (.bin .add (.cel 2) (.sum (.comp (.bin .mul (.bin .sub (.cel 2) (.loc 1)) (.sub (.cel 3) (.loc 1))) (.range1 (.cel 2)) 1 4 [(2,2),(3,4)]))) (.cst (.int 65521))))
 (.cons (.asg 9 (.lst (.cons (.bin .fdiv (.loc 8) (.cst (.int 256))) (.cons (.bin .mod (.loc 8) (.cst (.int 256))) (.cons (.bin .fdiv (.loc 6) (.cst (.int 256))) (.cons (.bin .mod (.loc 6) (.cst (.int 256))) .nil))))))
 (.cons (.if_ (.bop false (.cons (.cmp .ne (.listOf (.slcFrom (.cel 5) (.neg (.cst (.int 4))))) (.loc 9)) (.cons (.cmp .ne (.bin .mod (.sub (.cel 5) (.cst (.int 2))) (.cst (.int 8))) (.ite (.cmp .eq (.loc 3) (.cst (.str "stored"))) (.cst (.int 1)) (.cst (.int 3)))) .nil)))
 (.cons (.ret (.cst (.bool false)))
 .nil)
 .nil)
 (.cons (.forEnum 10 11 (.tup (.cons (.cst (.str "stored")) (.cons (.cst (.str "fixed")) (.cons (.cst (.str "dynamic")) (.cons (.cst (.str "best")) .nil)))))
 (.cons (.asg 12 (.call "zlib_head" (.cons (.loc 11) .nil)))
 (.cons (.if_ (.bop false (.cons (.cmp .ne (.sub (.loc 12) (.cst (.int 0))) (.cst (.int 120))) (.cons (.cmp .ne (.bin .fdiv (.sub (.loc 12) (.cst (.int 1))) (.cst (.int 64))) (.loc 10)) (.cons (.cmp .ne (.bin .mod (.bin .add (.bin .mul (.cst (.int 256)) (.sub (.loc 12) (.cst (.int 0)))) (.sub (.loc 12) (.cst (.int 1)))) (.cst (.int 31))) (.cst (.int 0))) (.cons (.cmp .ne (.bin .mod (.bin .fdiv (.sub (.loc 12) (.cst (.int 1))) (.cst (.int 32))) (.cst (.int 2))) (.cst (.int 0))) .nil)))))
 (.cons (.ret (.cst (.bool false)))
 .nil)
 .nil)
 .nil)))
 (.cons (.if_ (.bop false (.cons (.cmp .ne (.call "zlib_head" (.cons (.cst (.str "mixed")) .nil)) (.call "zlib_head" (.cons (.cst (.str "dynamic")) .nil))) (.cons (.cmp .ne (.slcTo (.cel 5) (.cst (.int 2))) (.call "zlib_head" (.cons (.loc 3) .nil))) .nil)))
 (.cons (.ret (.cst (.bool false)))
 .nil)
 .nil)
 (.cons (.if_ (.bop false (.cons (.cmp .ne (.call "_law_decoded" (.cons (.cel 5) .nil)) (.cel 4)) (.cons (.cmp .ne (.call "_law_decoded" (.cons (.bin .add (.cel 5) (.bytesOf (.lst (.cons (.take 1 (.cst (.int 256))) .nil)))) .nil)) (.cel 4)) .nil)))
 (.cons (.ret (.cst (.bool false)))
 .nil)
 .nil)
 (.cons (.asgC 7 (.sub (.tup (.cons (.cst (.int 0)) (.cons (.cst (.int 1)) (.cons (.bin .sub (.len (.cel 5)) (.cst (.int 4))) (.cons (.bin .sub (.len (.cel 5)) (.cst (.int 3))) (.cons (.bin .sub (.len (.cel 5)) (.cst (.int 2))) (.cons (.bin .sub (.len (.cel 5)) (.cst (.int 1))) .nil))))))) (.take 1 (.cst (.int 6)))))
 (.cons (.asg 13 (.bytesOf (.comp (.bin .mod (.bin .add (.sub (.cel 2) (.loc 1)) (.ite (.cmp .eq (.loc 1) (.cel 3)) (.bin .add (.cst (.int 1)) (.take 4 (.cst (.int 255)))) (.cst (.int 0)))) (.cst (.int 256))) (.range1 (.len (.cel 5))) 1 5 [(2,5),(3,7),(4,1)])))
 (.cons (.ret (.bop true (.cons (.bop false (.cons (.bop true (.cons (.cmp .gt (.cel 7) (.cst (.int 1))) (.cons (.cmp .is (.call "_law_decoded" (.cons (.loc 13) .nil)) (.cst .none)) .nil))) (.cons (.bop true (.cons (.cmp .lt (.cel 7) (.cst (.int 2))) (.cons (.call "_law_is_refused" (.cons (.loc 13) .nil)) .nil))) .nil))) (.cons (.cmp .is (.call "_law_decoded" (.cons (.slcTo (.cel 5) (.take 1 (.len (.cel 5)))) .nil)) (.cst .none)) .nil))))
 .nil))))))))))))))))
noncomputable def val:List Bool→Nat
 | []=>0
 |b::r=>b.toNat+2*val r
noncomputable def bitsLE:Nat→Nat→List Bool
 |_,0=>[]
 |v,n+1=>(v%2 == 1)::bitsLE (v/2) n
noncomputable def bBits:List Nat→List Bool
 | []=>[]
 |b::r=>bitsLE b 8++bBits r
theorem val_app:∀(l r:List Bool),val (l++r)=val l+2^l.length*val r
 | [],r=>by simp [val]
 |b::l,r=>by
  rw [List.cons_append,val,val,val_app l r,List.length_cons,Nat.pow_succ]
  rw [Nat.mul_add,←Nat.mul_assoc,Nat.add_assoc,Nat.mul_comm 2 (2^l.length)]
theorem val_lt:∀(l:List Bool),val l<2^l.length
 | []=>by simp [val]
 |b::l=>by
  have:=val_lt l
  rw [val,List.length_cons,Nat.pow_succ]
  have:b.toNat≤1:=by cases b <;> decide
  omega
theorem bits_len:∀(v n:Nat),(bitsLE v n).length=n
 |_,0=>rfl
 |v,n+1=>by rw [bitsLE,List.length_cons,bits_len]
theorem val_bits:∀{v n:Nat},v<2^n→val (bitsLE v n)=v
 |v,0,h=>by simp at h;subst h;rfl
 |v,n+1,h=>by
  rw [Nat.pow_succ]at h
  obtain h2:v/2<2^n:=by omega
  rw [bitsLE,val,val_bits h2]
  obtain e:(v%2 == 1).toNat=v%2:=by
   have:v%2=0∨v%2=1:=by omega
   rcases this with h |h <;> rw [h] <;> rfl
  rw [e];omega
theorem bits_val:∀(l:List Bool),bitsLE (val l) l.length=l
 | []=>rfl
 |b::l=>by
  rw [List.length_cons,bitsLE,val]
  have e1:(b.toNat+2*val l)%2=b.toNat:=by cases b <;> simp <;> omega
  have e2:(b.toNat+2*val l)/2=val l:=by cases b <;> simp <;> omega
  rw [e1,e2,bits_val l]
  cases b <;> rfl
theorem val_mod(l:List Bool)(n:Nat):val l%2^n=val (l.take n):=by
 conv=>lhs;rw [←List.take_append_drop n l]
 rw [val_app]
 by_cases h:n≤l.length
 ·rw [List.length_take,Nat.min_eq_left h,Nat.add_mul_mod_self_left,Nat.mod_eq_of_lt]
  have:=val_lt (l.take n)
  rwa [List.length_take,Nat.min_eq_left h]at this
 ·rw [List.drop_eq_nil_of_le (by omega)]
  simp only [val,Nat.mul_zero,Nat.add_zero]
  rw [Nat.mod_eq_of_lt]
  have:=val_lt (l.take n)
  exact Nat.lt_of_lt_of_le this (Nat.pow_le_pow_right (by decide) (by rw [List.length_take];omega))
theorem val_div(l:List Bool)(n:Nat):val l/2^n=val (l.drop n):=by
 conv=>lhs;rw [←List.take_append_drop n l]
 rw [val_app]
 by_cases h:n≤l.length
 ·rw [List.length_take,Nat.min_eq_left h]
  have:=val_lt (l.take n)
  rw [List.length_take,Nat.min_eq_left h]at this
  rw [Nat.add_mul_div_left _ _ (Nat.two_pow_pos n),Nat.div_eq_of_lt this,Nat.zero_add]
 ·rw [List.drop_eq_nil_of_le (by omega)]
  simp only [val,Nat.mul_zero,Nat.add_zero]
  rw [Nat.div_eq_of_lt]
  have:=val_lt (l.take n)
  exact Nat.lt_of_lt_of_le this (Nat.pow_le_pow_right (by decide) (by rw [List.length_take];omega))
theorem bytes_len:∀(bs:List Nat),(bBits bs).length=8*bs.length
 | []=>rfl
 |b::r=>by rw [bBits,List.length_append,bits_len,bytes_len r,List.length_cons];omega
theorem bytes_app:∀(a b:List Nat),bBits (a++b)=bBits a++bBits b
 | [],_=>rfl
 |x::a,b=>by rw [List.cons_append,bBits,bBits,bytes_app a b,List.append_assoc]
theorem bytes_drop:∀(bs:List Nat) (i:Nat),(bBits bs).drop (8*i)=bBits (bs.drop i)
 |bs,0=>by simp
 | [],i+1=>by simp [bBits]
 |b::r,i+1=>by
  rw [bBits,List.drop_succ_cons,←bytes_drop r i]
  rw [List.drop_append,bits_len]
  rw [List.drop_eq_nil_of_le (by rw [bits_len];omega),List.nil_append]
  congr 1 <;> omega
theorem bytes_take:∀(bs:List Nat) (i:Nat),(bBits bs).take (8*i)=bBits (bs.take i)
 |bs,0=>by simp [bBits]
 | [],i+1=>by simp [bBits]
 |b::r,i+1=>by
  rw [bBits,List.take_succ_cons,bBits,←bytes_take r i]
  rw [List.take_append,bits_len]
  rw [List.take_of_length_le (by rw [bits_len];omega)]
  congr 2 <;> omega
theorem or_add{a b k:Nat}(h:a<2^k):a|||(b*2^k)=a+2^k*b:=by
 rw [Nat.mul_comm b,Nat.or_comm,←Nat.two_pow_add_eq_or_of_lt h,Nat.add_comm]
theorem and_mod(a n:Nat):a&&&(2^n-1)=a%2^n:=Nat.and_two_pow_sub_one_eq_mod a n
noncomputable def slice(D:List Bool)(pos n:Nat):List Bool:=(D.drop pos).take n
theorem slice_len{D:List Bool}{pos n:Nat}(h:pos+n≤D.length):(slice D pos n).length=n:=by
 unfold slice;rw [List.length_take,List.length_drop];omega
theorem slice_add(D:List Bool)(pos n k:Nat):slice D pos (n+k)=slice D pos n++slice D (pos+n) k:=by
 unfold slice
 rw [List.take_add,List.drop_drop]
theorem slice_byte{bs:List Nat}{i:Nat}{b:Nat}(h:bs[i]?=some b):slice (bBits bs) (8*i) 8=bitsLE b 8:=by
 unfold slice
 rw [bytes_drop]
 obtain ⟨lt,e⟩:=List.getElem?_eq_some_iff.mp h
 rw [List.drop_eq_getElem_cons lt,e,bBits,List.take_append,bits_len]
 rw [List.take_of_length_le (by rw [bits_len];omega)]
 simp
theorem slice_take(D:List Bool){pos n k:Nat}(h:k≤n):(slice D pos n).take k=slice D pos k:=by
 unfold slice;rw [List.take_take,Nat.min_eq_left h]
theorem slice_drop(D:List Bool){pos n k:Nat}:(slice D pos n).drop k=slice D (pos+k) (n-k):=by
 unfold slice;rw [List.drop_take,List.drop_drop]
section
noncomputable abbrev Con:=List V→Hp→(V→Hp→Prop)→(Hp→Prop)→Prop
noncomputable def Sup(C:CT)(g:String)(c:Con):Prop:=∀xs H Q X,c xs H Q X→C g xs H Q X
theorem pself{H:Hp}{a:Nat}{o:O}:H.put a o a=some o:=if_pos rfl
theorem put_ne{H:Hp}{a b:Nat}{o:O}(h:b≠a):H.put a o b=H b:=if_neg h
noncomputable def Ex(S:List Nat)(H H':Hp):Prop:=∀a o,a∉S→H a=some o→H' a=some o
theorem Ex.refl(S:List Nat)(H:Hp):Ex S H H:=fun _ _ _ h=>h
theorem Ex.trans{S:List Nat}{H H' H'':Hp}(h:Ex S H H')(k:Ex S H' H''):Ex S H H'':=fun a o n e=>k a o n (h a o n e)
theorem ne_of{H:Hp}{a b:Nat}{o:O}(h:H a=some o)(k:H b=none):a≠b:=fun e=>noS (k.symm.trans (e▸h))
theorem Ex.put{S:List Nat}{H:Hp}{a:Nat}{o:O}(h:H a=none):Ex S H (H.put a o):=fun _ _ _ e=>(put_ne (ne_of e h)).trans e
theorem Ex.set{S:List Nat}{H:Hp}{a:Nat}{o:O}(h:a∈S):Ex S H (H.put a o):=fun b _ n e=>(put_ne fun z:b=a=>n (z.symm▸h)).trans e
theorem Ex.mono{S S':List Nat}{H H':Hp}(h:Ex S H H')(k:∀a∈S,a∈S'):Ex S' H H':=fun a o n e=>h a o (fun z=>n (k a z)) e
theorem m0{α:Type}{a:α}{l:List α}:a∈a::l:=.head _
theorem m1{α:Type}{a b:α}{l:List α}:a∈b::a::l:=.tail _ (.head _)
theorem m2{α:Type}{a b c:α}{l:List α}:a∈b::c::a::l:=.tail _ (.tail _ (.head _))
theorem n0{α:Type}{a:α}:a∉([]:List α):=List.not_mem_nil
theorem n1{a b:Nat}(h:a≠b):a∉[b]:=fun k=>h (List.mem_singleton.mp k)
theorem n2{a b c:Nat}(h:a≠b)(k:a≠c):a∉[b,c]:=fun z=>(List.mem_cons.mp z).elim h fun z=>k (List.mem_singleton.mp z)
theorem Ex.mono0{S:List Nat}{H H':Hp}(h:Ex [] H H'):Ex S H H':=h.mono fun _ z=>absurd z n0
theorem Ex.mono1{S:List Nat}{a:Nat}{H H':Hp}(h:Ex [a] H H')(k:a∈S):Ex S H H':=h.mono fun _ z=>List.mem_singleton.mp z▸k
theorem Ex.mono2{S:List Nat}{a b:Nat}{H H':Hp}(h:Ex [a,b] H H')(k:a∈S)(k2:b∈S):Ex S H H':=h.mono fun _ z=>(List.mem_cons.mp z).elim (·▸k) fun z=>List.mem_singleton.mp z▸k2
theorem Ex.set1{S:List Nat}{H H':Hp}{a:Nat}{o:O}(h:Ex S H H')(k:a∈S):Ex S H (H'.put a o):=h.trans (.set k)
theorem Ex.put1{S:List Nat}{H H':Hp}{a:Nat}{o:O}(h:Ex S H H')(k:H' a=none):Ex S H (H'.put a o):=h.trans (.put k)
theorem Ex.at0{H H':Hp}(h:Ex [] H H'){a:Nat}{o:O}(e:H a=some o):H' a=some o:=h a o n0 e
theorem putn{H:Hp}{a b:Nat}{o o':O}(e:H b=some o')(h:b≠a):H.put a o b=some o':=(put_ne h).trans e
theorem putf{H:Hp}{a b:Nat}{o o':O}(e:H b=some o')(h:H a=none):H.put a o b=some o':=putn e (ne_of e h)
theorem neO{H:Hp}{a b:Nat}{o o':O}(h:H a=some o)(k:H b=some o')(n:o≠o'):a≠b:=fun e=>n (Option.some.inj (h.symm.trans (e▸k)))
section
variable {C:CT}{W W2:WE}{m:M}{Q:QV}{X:QX}{H:Hp}
section
variable {Q:Bool→Hp→Prop}{p:Prop}[Decidable p]
theorem iTr(h1:p→Q true H)(h2:¬p→Q false H):KTr Q H (.bool (decide p)):=.iT rfl (by
 by_cases q:p
 ·rw [decide_eq_true q];exact h1 q
 ·rw [decide_eq_false q];exact h2 q)
theorem iTn(h1:¬p→Q true H)(h2:p→Q false H):KTr Q H (.bool (!decide p)):=.iT rfl (by
 by_cases q:p
 ·rw [decide_eq_true q];exact h2 q
 ·rw [decide_eq_false q];exact h1 q)
theorem iTt(q:p)(k:Q true H):KTr Q H (.bool (decide p)):=iTr (fun _=>k) fun z=>absurd q z
theorem iTf(q:¬p)(k:Q false H):KTr Q H (.bool (decide p)):=iTr (fun z=>absurd z q) fun _=>k
theorem iOrB{W:WE}{m:M}{Q:QV}{X:QX}{p:Prop}[Decidable p](h1:¬p→W m H Q X)(h2:p→Q (.bool true) H):KTr (kBop2 W m Q X false (.bool (decide p))) H (.bool (decide p)):=iTr (fun q=>by
 show Q _ _;rw [decide_eq_true q];exact h2 q) h1
theorem iTb{b:Bool}(k:Q b H):KTr Q H (.bool b):=.iT rfl k
end
theorem AttrAt.of{x d:Nat}{c f:String}{fs:List (String×V)}{w:V}(h:InstAt H x c d fs)(e:fldB c f fs=some w):AttrAt H f w (.ref x):=.iAt h e
theorem iSln{x:V}{k n:Nat}(h:k<1099511627776)(h2:n≤16777216)(q:WC Q H k n x n):KSlf Q H x (.int k):=.iSlf h h2 (if_neg (Int.not_lt.mpr (Int.natCast_nonneg _))) q
theorem iMaxE{l:Nat}{vs:List V}{i k:Int}{is:List Int}(h:H l=some (.list vs))(e:intsOf vs=some (i::is))(e2:is.foldl max i=k)(n:vs.length≤16777216)(q:Q (.int k) H):KMax Q H (.ref l):=.iMax h e n (e2.symm▸q)
end
section
variable {m:M}{Q:QS}{H:Hp}
theorem iX(k:Q .next m H):kExpr m Q .none H:=⟨(nofun),k⟩
theorem iXi{i:Int}(k:Q .next m H):kExpr m Q (.int i) H:=⟨(nofun),k⟩
end
theorem InstAt.ne{H:Hp}{x d:Nat}{c:String}{fs:List (String×V)}(k:InstAt H x c d fs):x≠d:=neO k.i k.f nofun
theorem InstAt.sa{H:Hp}{x d:Nat}{c:String}{fs fs':List (String×V)}{Q:Hp→Prop}{f:String}{v:V}(k:InstAt H x c d fs)(h1:attB c f fs=true)(e:setF f v fs=fs')(q:InstAt (H.put d (.flds fs')) x c d fs'→Q (H.put d (.flds fs'))):KSa Q f v H (.ref x):=
 .iSa k h1 (e.symm▸q ⟨putn k.i k.ne,pself⟩)
theorem InstAt.up{H H':Hp}{S:List Nat}{x d:Nat}{c:String}{fs:List (String×V)}(k:InstAt H x c d fs)(e:Ex S H H')(h1:x∉S)(h2:d∉S):InstAt H' x c d fs:=⟨e _ _ h1 k.i,e _ _ h2 k.f⟩
noncomputable abbrev DoesR(C:CT)(b:MSs)(nn np:Nat)(us:List V)(H:Hp)(Q:QV)(X:QX)(xs:List V):Prop:=xs.length+us.length=np∧wBody C b (Does.initMP nn (xs++us)) H Q X
noncomputable def Does(C:CT)(b:MSs)(nn np:Nat)(us:List V)(c:Con):Prop:=∀xs H Q X,c xs H Q X→DoesR C b nn np us H Q X xs
noncomputable abbrev DoesCR(C:CT)(b:MSs)(nn np:Nat)(cs:List Nat)(us:List V)(H:Hp)(Q:QV)(X:QX)(xs:List V):Prop:=xs.length+us.length=np∧enterP (xs++us) (fun m H=>wBody C b m H Q X) cs (Does.initMP nn (xs++us)) H
noncomputable def DoesC(C:CT)(b:MSs)(nn np:Nat)(cs:List Nat)(us:List V)(c:Con):Prop:=∀xs H Q X,c xs H Q X→DoesCR C b nn np cs us H Q X xs
theorem Does.toC{C:CT}{b:MSs}{nn np:Nat}{us:List V}{c:Con}(h:Does C b nn np us c):DoesC C b nn np [] us c:=h
end
end Mine
end
section
namespace Mine
open KTr KAttr WBin WCmp KSub KLen KSlf KSlt KSlc KMax LO WB SU KIs KApp AppL AppA ExtL ExtA KDget KTk KCel KMeth OV BT ST2 KSa KAsC WhI ForI CompI KMM
section
noncomputable def bF(data:List Nat)(a h c:Nat):List (String×V):=[("data",.bytes data),("at",.int a),("held",.int h),("count",.int c)]
noncomputable abbrev IsBI(H:Hp)(x d:Nat)(data:List Nat)(a h c:Nat):Prop:=InstAt H x "BitsIn" d (bF data a h c)
theorem IsBI.sa{H:Hp}{x d:Nat}{data:List Nat}{a h c a' h' c':Nat}{Q:Hp→Prop}{f:String}{v:V}(k:IsBI H x d data a h c)(h1:attB "BitsIn" f (bF data a h c)=true)(e:setF f v (bF data a h c)=bF data a' h' c')(q:IsBI (H.put d (.flds (bF data a' h' c'))) x d data a' h' c'→Q (H.put d (.flds (bF data a' h' c')))):KSa Q f v H (.ref x):=InstAt.sa k h1 e q
noncomputable def cLow:Con:=fun xs H Q _=>∀R:List V→Prop,(∀a n:Nat,n≤1000→Q (.int (a%2^n:Nat)) H→R [.int a,.int n])→R xs
theorem cLow.mk{a n:Nat}{H:Hp}{Q:QV}{X:QX}(h:n≤1000)(k:Q (.int (a%2^n:Nat)) H):cLow [.int a,.int n] H Q X:=fun _ z=>z _ _ h k
theorem p_low(C:CT):Does C t_low_bits 2 2 [] cLow:=fun xs H Q X h=>h _ fun a n hn k=>by
 refine ⟨rfl,iShl (a:=1) hn (by decide) ?_⟩
 refine iSub (c:=(2^n-1:Nat)) (by show ((1*2^n:Nat):Int)-1=_;rw [Nat.one_mul,Int.natCast_sub (Nat.two_pow_pos n)];rfl) (iAnd ?_)
 rw [and_mod];exact k
noncomputable def cLeft:Con:=fun xs H Q _=>∀R:List V→Prop,(∀x d data a h c,IsBI H x d data a h c→a≤data.length→data.length≤100000→Q (.int ((c:Nat)+8*((data.length:Nat)-(a:Nat)):Int)) H→R [.ref x])→R xs
theorem cLeft.mk{x d:Nat}{data:List Nat}{a h c:Nat}{H:Hp}{Q:QV}{X:QX}(h1:IsBI H x d data a h c)(h2:a≤data.length)(h3:data.length≤100000)(k:Q (.int ((c:Nat)+8*((data.length:Nat)-(a:Nat)):Int)) H):cLeft [.ref x] H Q X:=fun _ z=>z _ _ _ _ _ _ h1 h2 h3 k
theorem p_left(C:CT):Does C t_BitsIn_left 3 1 [] cLeft:=fun xs H Q X h=>h _ fun x d data a h c hB ha hd k=>by
 refine ⟨rfl,iA (.iAt hB rfl) (iA (.iAt hB rfl) (iL (.bytes _) (by exact lz [_] [] 37439910261685737075613647653996829537536 rfl hd) (iA (.iAt hB rfl) (iSub rfl (iMul (by decide) (by exact lz [_,_,_] [] 53436499719197438158039141162423498170645402303776576873584479844732164630301981562177 rfl hd (Int.natAbs_of_nonneg (lz [_,_] [] 3554489482338456837 rfl ha))) (iAdd rfl k))))))⟩
structure BI(H:Hp)(x d:Nat)(data:List Nat)(pos:Nat):Prop where
 ex:∀R:Prop,(∀a c,IsBI H x d data a (val (slice (bBits data) pos c)) c→pos+c=8*a→c<8→a≤data.length→R)→R
 by_:∀b∈data,b<256
 sz:data.length≤100000
section
variable {H:Hp}{x d:Nat}{data:List Nat}{pos:Nat}(h:BI H x d data pos)
include h
theorem BI.le:pos≤8*data.length:=h.ex _ fun a c _ e _ k=>by exact lz [_,_,_,_] [] 187863495842301063084715898240 rfl e k
theorem BI.up{H':Hp}{S:List Nat}(k:Ex S H H')(h1:x∉S)(h2:d∉S):BI H' x d data pos:=⟨fun R z=>h.ex R fun a c i=>z a c (InstAt.up i k h1 h2),h.by_,h.sz⟩
theorem BI.inst:H x=some (.inst "BitsIn" d):=h.ex _ fun _ _ i _ _ _=>i.i
theorem BI.ne:x≠d:=h.ex _ fun _ _ i _ _ _=>i.ne
theorem BI.flds{a:Nat}{o:O}(e:H a=some o)(n:∀fs,o≠.flds fs):a≠d:=h.ex _ fun _ _ i _ _ _=>neO e i.f (n _)
theorem BI.me{C:CT}{Ws:WEs}{m:M}{Q:QV}{X:QX}{f:String}(h1:∀data a h c,metB "BitsIn" f (bF data a h c)=true)(k:Ws m H (kMeth2 C Q X ("BitsIn"++"."++f) x) X):kMeth C Ws m Q X f (.ref x) H:=
 h.ex _ fun _ _ i _ _ _=>iMe i (h1 _ _ _ _) k
theorem BI.at{Q:QV}(k:∀a:Nat,Q (.int a) H):kAttr Q "at" (.ref x) H:=h.ex _ fun _ _ i _ _ _=>iA (.iAt i rfl) (k _)
end
noncomputable def cNeed:Con:=fun xs H Q X=>∀R:List V→Prop,(∀x d data pos,∀k:Nat,BI H x d data pos→(pos+k≤8*data.length→Q .none H)→(¬pos+k≤8*data.length→X H)→R [.ref x,.int k])→R xs
theorem cNeed.mk{x d:Nat}{data:List Nat}{pos k:Nat}{H:Hp}{Q:QV}{X:QX}(h:BI H x d data pos)(h1:pos+k≤8*data.length→Q .none H)(h2:¬pos+k≤8*data.length→X H):cNeed [.ref x,.int k] H Q X:=fun _ z=>z _ _ _ _ _ h h1 h2
theorem p_need(C:CT)(hl:Sup C ("BitsIn"++"."++"left") cLeft):Does C t_BitsIn_need 3 2 [] cNeed:=fun xs H Q X h=>h _ fun x d data pos k hB h1 h2=>by
 refine ⟨rfl,hB.ex _ fun a c hI e hc ha=>iMe hI rfl (hl _ _ _ _ (cLeft.mk hI ha hB.sz (iTr (fun q=>iA (.iAt hI rfl) (h2 ?_)) fun q=>h1 ?_)))⟩
 ·exact lz [_,_,_,_,_] [] 56776541654352539195434799020350766635416793145955651 rfl e q
 ·exact lz [_,_,_,_,_] [] 887133463352354620515347844096797949187814114481472 rfl e q
noncomputable def cTake:Con:=fun xs H Q X=>∀R:List V→Prop,(∀x d data pos,∀n:Nat,BI H x d data pos→n≤1000→(pos+n≤8*data.length→∀H',Ex [d] H H'→BI H' x d data (pos+n)→Q (.int (val (slice (bBits data) pos n))) H')→(¬pos+n≤8*data.length→X H)→R [.ref x,.int n])→R xs
theorem cTake.mk{x d:Nat}{data:List Nat}{pos n:Nat}{H:Hp}{Q:QV}{X:QX}(h:BI H x d data pos)(h0:n≤1000)(h1:pos+n≤8*data.length→∀H',Ex [d] H H'→BI H' x d data (pos+n)→Q (.int (val (slice (bBits data) pos n))) H')(h2:¬pos+n≤8*data.length→X H):cTake [.ref x,.int n] H Q X:=fun _ z=>z _ _ _ _ _ h h0 h1 h2
noncomputable def I_p_take(H:Hp)(x d:Nat)(data:List Nat)(pos n:Nat)(f:Nat)(m:M)(H':Hp):Prop:=
 ∀R:Nat→M→Prop,(∀a c:Nat,Ex [d] H H'→IsBI H' x d data a (val (slice (bBits data) pos c)) c→pos+c=8*a→a≤data.length→c<n+8→R (n-c) [some (.ref x),some (.int n),none,none,none])→R f m
theorem slice_or{data:List Nat}{pos a c b:Nat}(hl:(slice (bBits data) pos c).length=c)(hb:data[a]?=some b)(h:b<256)(e:pos+c=8*a):val (slice (bBits data) pos c)|||b*2^c=val (slice (bBits data) pos (c+8)):=by
 have hv:=val_lt (slice (bBits data) pos c)
 rw [hl]at hv
 rw [or_add hv,slice_add,val_app,hl,e,slice_byte hb,val_bits h]
theorem p_take(C:CT)(hn:Sup C ("BitsIn"++"."++"need") cNeed)(hlow:Sup C "low_bits" cLow):Does C t_BitsIn_take 5 2 [] cTake:=fun xs H Q X h=>h _ fun x d data pos n hB hn1 h1 h2=>by
 refine ⟨rfl,hB.me (fun _ _ _ _=>rfl) (hn _ _ _ _ (cNeed.mk hB (fun hp=>iX ?_) h2))⟩
 refine hB.ex _ fun a c hI e hc ha=>iWh (I_p_take H x d data pos n) (fun f m H' h=>?_) (n:=n-c) fun R z=>z a c (.refl _ _) hI e ha (Nat.lt_of_lt_of_le hc (Nat.le_add_left _ _))
 refine h (fun f m=>wE _ _ m _ (kWh _ _ f m _ _) _) fun a c hex hI e ha hc=>iA (.iAt hI rfl) (iTr (fun q=>?_) fun q=>?_)
 ·have q:=Int.ofNat_lt.mp q
  have hlt:a<data.length:=by exact Classical.not_not.1 (lz [_,_,_,_,_] [] 50516512184845804656871434423921936718474944538122 rfl hp e ‹_›)
  have hb:data[a]?=some data[a]:=List.getElem?_eq_getElem hlt
  have hb8:=hB.by_ _ (List.getElem_mem hlt)
  have hz:=hB.sz
  have hl:(slice (bBits data) pos c).length=c:=slice_len (by rw [bytes_len];exact lz [_,_,_,_] [] 769465564572530667210545236637056 rfl e hlt)
  refine iA (.iAt hI rfl) (iA (.iAt hI rfl) (iA (.iAt hI rfl) (iI (by exact lz [_,_] [] 2572862456374101599288406567554130390154937493812545 rfl hlt hz) (.bytes hb) (iA (.iAt hI rfl) (iShl (by exact lz [_,_] [] 9140681881198669601496012228121351488 rfl hn1 ‹_›) (by exact lz [_] [] 176806546281661712949493648828359472551838461372519788241396993 rfl hb8) (iOr ?_))))))
  rw [slice_or hl hb hb8 e]
  refine hI.sa rfl rfl fun hI=>iA (.iAt hI rfl) (iAdd rfl (hI.sa (a':=a+1) rfl rfl fun hI=>iA (.iAt hI rfl) (iAdd rfl (hI.sa (c':=c+8) rfl rfl fun hI=>?_))))
  exact ⟨n-(c+8),Nat.sub_lt_sub_left q (Nat.lt_add_of_pos_right (by decide)),fun R z=>z (a+1) (c+8) (((hex.set1 m0).set1 m0).set1 m0) hI (by exact lz [_,_,_] [] 42072590580944967816850956678944002 rfl e) hlt (by exact lz [_,_] [] 8288384310783130227969 rfl ‹_›)⟩
 ·have q:n≤c:=Int.ofNat_le.mp (Int.not_lt.mp q)
  refine iA (.iAt hI rfl) (hlow _ _ _ _ (cLow.mk hn1 ?_))
  refine iA (.iAt hI rfl) (iShr ?_)
  rw [val_div,val_mod,slice_drop,slice_take _ q]
  refine hI.sa rfl rfl fun hI=>iA (.iAt hI rfl) (iSub (Int.ofNat_sub q).symm (hI.sa rfl rfl fun hI=>?_))
  exact h1 hp _ ((hex.set1 m0).set1 m0) ⟨fun R z=>z a (c-n) hI (by exact lz [_,_,_,_,_] [] 52528824088346904812707500076562950941672898 rfl e (Nat.sub_add_cancel (lz [_,_] [] 5723070854878464 rfl ‹_›))) (by exact lz [_,_,_] [] 935149650059901881865819521 rfl hc (Nat.sub_add_cancel (lz [_,_] [] 5723070854878464 rfl ‹_›))) ha,hB.by_,hB.sz⟩
noncomputable def cAlignI:Con:=fun xs H Q _=>∀R:List V→Prop,(∀x d data pos,BI H x d data pos→(∀H',Ex [d] H H'→BI H' x d data (8*((pos+7)/8))→Q .none H')→R [.ref x])→R xs
theorem cAlignI.mk{x d:Nat}{data:List Nat}{pos:Nat}{H:Hp}{Q:QV}{X:QX}(h:BI H x d data pos)(h1:∀H',Ex [d] H H'→BI H' x d data (8*((pos+7)/8))→Q .none H'):cAlignI [.ref x] H Q X:=fun _ z=>z _ _ _ _ h h1
theorem up8{pos a c:Nat}(e:pos+c=8*a)(h:c<8):(pos+7)/8=a:=by exact Nat.le_antisymm (Classical.not_not.1 (lz [(pos),(c),(a),((pos+(7:Nat))/(8:Nat)),((pos+(7:Nat))%(8:Nat))] [] 57936203930054828348031934075156775921098 rfl e dEq)) (Classical.not_not.1 (lz [(pos),(c),(a),((pos+(7:Nat))/(8:Nat)),((pos+(7:Nat))%(8:Nat))] [] 63226224931896929935658757450546464383054707520921468499338 rfl e h dEq (Nat.mod_lt _ (by decide))))
theorem z8{a c a':Nat}(e:8*a+c=8*a')(h:c<8):a=a'∧c=0:=by
 have h1:a=a':=(up8 (rfl:8*a+0=8*a) (by decide)).symm.trans (up8 e h)
 exact ⟨h1,Nat.add_left_cancel (e.trans (h1▸rfl))⟩
theorem BI.whole{H:Hp}{x d:Nat}{data:List Nat}{a:Nat}(h:IsBI H x d data a 0 0)(ha:a≤data.length)(hb:∀b∈data,b<256)(hs:data.length≤100000):BI H x d data (8*a):=⟨fun R z=>z a 0 h rfl (by decide) ha,hb,hs⟩
theorem p_alignI(C:CT):Does C t_BitsIn_align 1 1 [] cAlignI:=fun xs H Q X h=>h _ fun x d data pos hB h=>by
 refine ⟨rfl,hB.ex _ fun a c hI e hc ha=>hI.sa (h':=0) rfl rfl fun hI=>hI.sa (c':=0) rfl rfl fun hI=>h _ ((Ex.set m0).set1 m0) ?_⟩
 rw [up8 e hc];exact .whole hI ha hB.by_ hB.sz
noncomputable def cOctI:Con:=fun xs H Q X=>∀R:List V→Prop,(∀x d data pos,∀n:Nat,BI H x d data pos→n≤70000→((pos+7)/8+n≤data.length→∀H',Ex [d] H H'→BI H' x d data (8*((pos+7)/8+n))→Q (.bytes ((data.drop ((pos+7)/8)).take n)) H')→(¬(pos+7)/8+n≤data.length→X H)→R [.ref x,.int n])→R xs
theorem cOctI.mk{x d:Nat}{data:List Nat}{pos n:Nat}{H:Hp}{Q:QV}{X:QX}(h:BI H x d data pos)(h0:n≤70000)(h1:(pos+7)/8+n≤data.length→∀H',Ex [d] H H'→BI H' x d data (8*((pos+7)/8+n))→Q (.bytes ((data.drop ((pos+7)/8)).take n)) H')(h2:¬(pos+7)/8+n≤data.length→X H):cOctI [.ref x,.int n] H Q X:=fun _ z=>z _ _ _ _ _ h h0 h1 h2
theorem p_octI(C:CT)(hn:Sup C ("BitsIn"++"."++"need") cNeed)(ha:Sup C ("BitsIn"++"."++"align") cAlignI):Does C t_BitsIn_octets 4 2 [] cOctI:=fun xs H Q X h=>h _ fun x d data pos n hB hn7 h1 h2=>by
 refine ⟨rfl,hB.ex _ fun a c hI e hc hal=>iMe hI rfl (iA (.iAt hI rfl) (iMul (by decide) (by exact lz [_,_] [] 203844069363393547660976948404020302469808205809694583410585178909564579345356097 rfl hn7 (Int.natAbs_of_nonneg (lz [_] [] 1395205 rfl))) (iAdd rfl ?_)))⟩
 rw [up8 e hc]at h1 h2
 refine hn _ _ _ _ (cNeed.mk (k:=c+8*n) hB (fun hp=>iX ?_) fun hp=>h2 fun z=>hp (by rw [←Nat.add_assoc,e,←Nat.mul_add];exact Nat.mul_le_mul_left 8 z))
 refine hB.me (fun _ _ _ _=>rfl) (ha _ _ _ _ (cAlignI.mk hB fun H' hex hB'=>iX ?_))
 rw [up8 e hc]at hB'
 refine hB'.ex _ fun a' c' hI e' hc' _=>?_
 obtain ⟨rfl,rfl⟩:=z8 e' hc'
 have hz:=hB.sz
 refine iA (.iAt hI rfl) (iAdd rfl (hI.sa (a':=a+n) rfl rfl fun hI=>iA (.iAt hI rfl) (iA (.iAt hI rfl) (iSub (Int.add_sub_cancel (a:Int) n) (iA (.iAt hI rfl) (iSlc (by exact lz [_,_] [] 43165660760071499000048531483250573947231680589220478907713 rfl ‹_› hz) (by exact lz [_,_,_] [] 203844069584283101077347121981850503466026881141691930746627252477794280088728961 rfl hn7 ‹_› hz) (by exact lz [_] [] 37439910261685737075613647653996829537536 rfl hz) (.byt (iByB ?_))))))))
 have e:cutL data (a:Nat) (a+n)=(data.drop a).take n:=by unfold cutL;rw [List.drop_take,Nat.add_sub_cancel_left]
 rw [e]
 refine h1 (by exact Classical.not_not.1 (lz [_,_,_,_,_] [] 50516534483865928658027214452206748825506942379530 rfl hp ‹_›)) _ (hex.set1 m0) ?_
 exact .whole hI (by exact Classical.not_not.1 (lz [_,_,_,_,_] [] 50516534483865928658027214452206748825506942379530 rfl hp ‹_›)) hB.by_ hB.sz
noncomputable def cInitI:Con:=fun xs H Q _=>∀R:List V→Prop,(∀x d data,∀a:Nat,H x=some (.inst "BitsIn" d)→H d=some (.flds [])→a≤data.length→(∀b∈data,b<256)→data.length≤100000→(∀H',Ex [d] H H'→BI H' x d data (8*a)→Q .none H')→R [.ref x,.bytes data,.int a])→R xs
theorem cInitI.mk{x d:Nat}{data:List Nat}{a:Nat}{H:Hp}{Q:QV}{X:QX}(h1:H x=some (.inst "BitsIn" d))(h2:H d=some (.flds []))(h3:a≤data.length)(h4:∀b∈data,b<256)(h5:data.length≤100000)(h:∀H',Ex [d] H H'→BI H' x d data (8*a)→Q .none H'):cInitI [.ref x,.bytes data,.int a] H Q X:=fun _ z=>z _ _ _ _ h1 h2 h3 h4 h5 h
theorem p_initI(C:CT):Does C t_BitsIn_init 3 3 [] cInitI:=fun xs H Q X h=>h _ fun x d data a h1 h2 h3 h4 h5 h=>by
 refine ⟨rfl,InstAt.sa ⟨h1,h2⟩ rfl rfl fun i=>i.sa rfl rfl fun i=>i.sa rfl rfl fun i=>i.sa rfl rfl fun i=>?_⟩
 exact h _ ((((Ex.set m0).set1 m0).set1 m0).set1 m0) (.whole i h3 h4 h5)
end
section
noncomputable def oF(m h c:Nat):List (String×V):=[("made",.ref m),("held",.int h),("count",.int c)]
structure IsBO(H:Hp)(x d m:Nat)(made:List Nat)(h c:Nat):Prop where
 i:InstAt H x "BitsOut" d (oF m h c)
 b:H m=some (.ba made)
section
variable {H:Hp}{x d m:Nat}{made:List Nat}{h c:Nat}(k:IsBO H x d m made h c)
include k
theorem IsBO.dm:d≠m:=neO k.i.f k.b nofun
theorem IsBO.xm:x≠m:=neO k.i.i k.b nofun
theorem IsBO.sa{h' c':Nat}{Q:Hp→Prop}{f:String}{v:V}(h1:attB "BitsOut" f (oF m h c)=true)(e:setF f v (oF m h c)=oF m h' c')(q:IsBO (H.put d (.flds (oF m h' c'))) x d m made h' c'→Q (H.put d (.flds (oF m h' c')))):KSa Q f v H (.ref x):=
 k.i.sa h1 e fun i=>q ⟨i,putn k.b k.dm.symm⟩
theorem IsBO.put(b:List Nat):IsBO (H.put m (.ba b)) x d m b h c:=⟨⟨putn k.i.i k.xm,putn k.i.f k.dm⟩,pself⟩
theorem IsBO.up{S:List Nat}{H':Hp}(e:Ex S H H')(h1:x∉S)(h2:d∉S)(h3:m∉S):IsBO H' x d m made h c:=⟨k.i.up e h1 h2,e _ _ h3 k.b⟩
end
noncomputable def BO(H:Hp)(x d m:Nat)(bs:List Bool):Prop:=∀R:Prop,(∀made hb,bs=bBits made++hb→hb.length<8→IsBO H x d m made (val hb) hb.length→(∀b∈made,b<256)→R)→R
theorem BO.up{S:List Nat}{H H':Hp}{x d m:Nat}{bs:List Bool}(h:BO H x d m bs)(k:Ex S H H')(h1:x∉S)(h2:d∉S)(h3:m∉S):BO H' x d m bs:=
 fun R z=>h R fun made hb e e2 e3=>z made hb e e2 (e3.up k h1 h2 h3)
theorem BO.me{C:CT}{Ws:WEs}{mm:M}{Q:QV}{X:QX}{H:Hp}{x d m:Nat}{bs:List Bool}(h:BO H x d m bs){f:String}(h1:∀m h c,metB "BitsOut" f (oF m h c)=true)(k:Ws mm H (kMeth2 C Q X ("BitsOut"++"."++f) x) X):kMeth C Ws mm Q X f (.ref x) H:=
 h _ fun _ _ _ _ i _=>iMe i.i (h1 _ _ _) k
noncomputable def cFit:Con:=fun xs H Q _=>∀R:List V→Prop,(∀v n:Nat,v<2^n→Q .none H→R [.int v,.int n])→R xs
theorem cFit.mk{v n:Nat}{H:Hp}{Q:QV}{X:QX}(h:v<2^n)(k:Q .none H):cFit [.int v,.int n] H Q X:=fun _ z=>z _ _ h k
theorem nneg{n:Nat}:¬(n:Int)<0:=Int.not_lt.mpr (Int.natCast_nonneg _)
theorem p_fit(C:CT):Does C t_check_fit 3 2 [] cFit:=fun xs H Q X h=>h _ fun v n hv k=>
 ⟨rfl,iTf nneg (iTf nneg (iShr (iTf (fun z=>z (congrArg Nat.cast (Nat.div_eq_of_lt hv))) k)))⟩
noncomputable def cPut:Con:=fun xs H Q _=>∀R:List V→Prop,(∀x d m bs,∀v n:Nat,BO H x d m bs→v<2^n→n≤16→bs.length≤1000000→(∀H',Ex [d,m] H H'→BO H' x d m (bs++bitsLE v n)→Q .none H')→R [.ref x,.int v,.int n])→R xs
theorem cPut.mk{x d m:Nat}{bs:List Bool}{v n:Nat}{H:Hp}{Q:QV}{X:QX}(h:BO H x d m bs)(h1:v<2^n)(h2:n≤16)(h3:bs.length≤1000000)(k:∀H',Ex [d,m] H H'→BO H' x d m (bs++bitsLE v n)→Q .none H'):cPut [.ref x,.int v,.int n] H Q X:=fun _ z=>z _ _ _ _ _ _ h h1 h2 h3 k
noncomputable def I_p_put(H:Hp)(x d m v n:Nat)(bs:List Bool)(f:Nat)(mm:M)(H':Hp):Prop:=
 ∀R:Nat→M→Prop,(∀made L,bBits made++L=bs→IsBO H' x d m made (val L) L.length→Ex [d,m] H H'→(∀b∈made,b<256)→R L.length [some (.ref x),some (.int v),some (.int n),none,none,none])→R f mm
theorem take_bits{L:List Bool}(h:8≤L.length):bitsLE (val L%2^8) 8=L.take 8:=by
 have e:=bits_val (L.take 8)
 rw [List.length_take,Nat.min_eq_left h]at e
 rw [val_mod];exact e
theorem p_put(C:CT)(hf:Sup C "check_fit" cFit)(hlow:Sup C "low_bits" cLow):Does C t_BitsOut_put 6 3 [] cPut:=fun xs H Q X h=>h _ fun x d m bs v n hB hv hn hbs h=>by
 refine ⟨rfl,hf _ _ _ _ (cFit.mk hv (iX ?_))⟩
 refine hB _ fun made hb e hb8 hI hby=>?_
 have hvb:v<18446744073709551616:=Nat.lt_of_lt_of_le hv (Nat.le_trans (Nat.pow_le_pow_right (by decide) hn) (by decide))
 refine iA (.iAt hI.i rfl) (iA (.iAt hI.i rfl) (iShl (by exact lz [_] [] 7928277721818793216 rfl hb8) hvb (iOr (hI.sa (h':=val (hb++bitsLE v n)) rfl (congrArg (oF m · hb.length) ?_) fun hI=>?_))))
 ·rw [or_add (val_lt hb),val_app,val_bits hv]
 refine iA (.iAt hI.i rfl) (iAdd (c:=((hb++bitsLE v n).length:Nat)) (by rw [List.length_append,bits_len];rfl) (hI.sa rfl rfl fun hI=>?_))
 refine iWh (I_p_put H x d m v n (bs++bitsLE v n)) (fun f mm H' hi=>?_) (fun R z=>z made _ (by rw [e,List.append_assoc]) hI ((Ex.set m0).set1 m0) hby)
 refine hi (fun f mm=>wE _ _ mm _ (kWh _ _ f mm _ _) _) fun made L hL hI hex hby=>iA (.iAt hI.i rfl) (iTr (fun hge=>?_) fun hlt=>?_)
 ·have h8:8≤L.length:=Int.ofNat_le.mp hge
  have hl:=congrArg List.length hL
  rw [List.length_append,List.length_append,bytes_len,bits_len]at hl
  have hv256:val L%2^8<256:=Nat.mod_lt _ (by decide)
  refine iA (.iAt hI.i rfl) (iApA hI.b (iA (.iAt hI.i rfl) (hlow _ _ _ _ (cLow.mk (n:=8) (by decide) (iAppA hI.b hv256 (by exact Classical.not_not.1 (lz [_,_,_,_] [] 16418537634505354347872603642153382644908234604079354264498121492812916003802097098 rfl hn hbs hge hl)) (iX ?_))))))
  have hI:=hI.put (made++[val L%2^8])
  refine iA (.iAt hI.i rfl) (iShr (b:=8) (hI.sa rfl (congrArg (oF m · L.length) (val_div L 8)) fun hI=>?_))
  refine iA (.iAt hI.i rfl) (iSub (c:=((L.drop 8).length:Nat)) (by rw [List.length_drop];exact (Int.ofNat_sub h8).symm) (hI.sa rfl rfl fun hI=>?_))
  refine ⟨(L.drop 8).length,by rw [List.length_drop];exact lz [_,_] [] 5999667012109569 rfl (Nat.sub_add_cancel (lz [_] [] 91274113010688 rfl hge)),fun R z=>z _ _ ?_ hI (((hex.set1 m1).set1 m0).set1 m0) ?_⟩
  ·rw [←hL,bytes_app,List.append_assoc]
   show bBits made++((bitsLE (val L%2^8) 8++[])++L.drop 8)=_
   rw [take_bits h8,List.append_nil,List.take_append_drop]
  ·exact fun b hb'=>(List.mem_append.mp hb').elim (hby b) fun z=>List.mem_singleton.mp z▸hv256
 ·exact h H' hex fun R z=>z made L hL.symm (Int.ofNat_lt.mp (Int.not_le.mp hlt)) hI hby
noncomputable def pad8(n:Nat):List Bool:=List.replicate ((8-n%8)%8) false
theorem val_zeros:∀n,val (List.replicate n false)=0
 |0=>rfl
 |n+1=>by rw [List.replicate_succ,val,val_zeros n];rfl
theorem bo_mod{made:List Nat}{hb:List Bool}(h:hb.length<8):(bBits made++hb).length%8=hb.length:=by
 rw [List.length_append,bytes_len,Nat.mul_add_mod];exact Nat.mod_eq_of_lt h
theorem pad_0{made:List Nat}{hb:List Bool}(h:hb.length=0):pad8 (bBits made++hb).length=[]:=by
 unfold pad8;rw [bo_mod (Nat.lt_of_le_of_lt (Nat.le_of_eq h) (by decide)),h];rfl
theorem pad_c{made:List Nat}{hb:List Bool}(h:hb.length<8)(h0:0<hb.length):pad8 (bBits made++hb).length=List.replicate (8-hb.length) false:=by
 unfold pad8;rw [bo_mod h,Nat.mod_eq_of_lt (Nat.sub_lt (by decide) h0)]
theorem zeros_bits(n:Nat):bitsLE 0 n=List.replicate n false:=by
 have:=bits_val (List.replicate n false)
 rw [val_zeros,List.length_replicate]at this;exact this
theorem pad_mod(n:Nat):(n+(pad8 n).length)%8=0:=by
 unfold pad8;rw [List.length_replicate,←Nat.mod_add_mod]
 exact (by decide:∀r,r<8→(r+(8-r)%8)%8=0) _ (Nat.mod_lt n (by decide))
noncomputable def cAlignO:Con:=fun xs H Q _=>∀R:List V→Prop,(∀x d m bs,BO H x d m bs→bs.length≤1000000→(∀H',Ex [d,m] H H'→BO H' x d m (bs++pad8 bs.length)→Q .none H')→R [.ref x])→R xs
theorem cAlignO.mk{x d m:Nat}{bs:List Bool}{H:Hp}{Q:QV}{X:QX}(h:BO H x d m bs)(h1:bs.length≤1000000)(k:∀H',Ex [d,m] H H'→BO H' x d m (bs++pad8 bs.length)→Q .none H'):cAlignO [.ref x] H Q X:=fun _ z=>z _ _ _ _ h h1 k
theorem p_alignO(C:CT)(hp:Sup C ("BitsOut"++"."++"put") cPut):Does C t_BitsOut_align 2 1 [] cAlignO:=fun xs H Q X h=>h _ fun x d m bs hB hbs h=>by
 refine ⟨rfl,hB _ fun made hb e hb8 hI hby=>iA (.iAt hI.i rfl) (iTr (fun hpos=>?_) fun hz=>?_)⟩
 ·have hpos:0<hb.length:=Int.ofNat_lt.mp hpos
  refine iMe hI.i rfl (iA (.iAt hI.i rfl) (iSub (c:=(8-hb.length:Nat)) (Int.ofNat_sub (Nat.le_of_lt hb8)).symm (hp _ _ _ _ (cPut.mk (v:=0) hB (Nat.two_pow_pos _) (by exact lz [_,_] [] 17025211554073033576891712 rfl ‹_› (Nat.sub_add_cancel (lz [_] [] 3320171660544 rfl hb8))) hbs fun H' hex hB=>iX (h H' hex ?_)))))
  rw [show pad8 bs.length=_ from e▸pad_c hb8 hpos,←zeros_bits];exact hB
 ·have hz:hb.length=0:=Nat.le_zero.mp (Int.ofNat_le.mp (Int.not_lt.mp hz))
  refine h H (.refl _ _) ?_
  rw [show pad8 bs.length=_ from e▸pad_0 hz,List.append_nil];exact hB
noncomputable def cPutOct:Con:=fun xs H Q _=>∀R:List V→Prop,(∀x d m bs b,BO H x d m bs→bs.length≤1000000→b.length≤100000→(∀c∈b,c<256)→(∀H',Ex [d,m] H H'→BO H' x d m (bs++pad8 bs.length++bBits b)→Q .none H')→R [.ref x,.bytes b])→R xs
theorem cPutOct.mk{x d m:Nat}{bs:List Bool}{b:List Nat}{H:Hp}{Q:QV}{X:QX}(h:BO H x d m bs)(h1:bs.length≤1000000)(h2:b.length≤100000)(h3:∀c∈b,c<256)(k:∀H',Ex [d,m] H H'→BO H' x d m (bs++pad8 bs.length++bBits b)→Q .none H'):cPutOct [.ref x,.bytes b] H Q X:=fun _ z=>z _ _ _ _ _ h h1 h2 h3 k
theorem by_app{a b:List Nat}(h:∀c∈a,c<256)(k:∀c∈b,c<256):∀c∈a++b,c<256:=fun c z=>(List.mem_append.mp z).elim (h c) (k c)
theorem p_putOct(C:CT)(ha:Sup C ("BitsOut"++"."++"align") cAlignO):Does C t_BitsOut_put_octets 2 2 [] cPutOct:=fun xs H Q X h=>h _ fun x d m bs b hB hbs hbl hb256 h=>by
 refine ⟨rfl,hB.me (fun _ _ _=>rfl) (ha _ _ _ _ (cAlignO.mk hB hbs fun H' hex hB'=>iX (hB' _ fun made hb e1 hb8 hI hby=>?_)))⟩
 have hl:=congrArg List.length e1
 have hz:hb.length=0:=by
  have:=pad_mod bs.length
  rw [←List.length_append,e1,bo_mod hb8]at this;exact this
 obtain rfl:=List.eq_nil_of_length_eq_zero hz
 rw [List.append_nil]at e1 hl
 have hp:(pad8 bs.length).length<8:=by unfold pad8;rw [List.length_replicate];exact Nat.mod_lt _ (by decide)
 rw [List.length_append,bytes_len]at hl
 refine iA (.iAt hI.i rfl) (iApA hI.b (iExtA hI.b (by exact Classical.not_not.1 (lz [_,_,_,_] [] 1126699768873359119460275079710197765248085357619658477160938052386419219496649370002157557194 rfl hbs hbl hl hp)) (iX (h _ (hex.set1 m1) fun R z=>z (made++b) [] ?_ (by decide) (hI.put _) (by_app hby hb256)))))
 rw [List.append_nil,bytes_app,e1]
noncomputable def cOctO:Con:=fun xs H Q _=>∀R:List V→Prop,(∀x d m bs,BO H x d m bs→bs.length≤1000000→(∀B,bBits B=bs++pad8 bs.length→(∀b∈B,b<256)→∀H',Ex [] H H'→Q (.bytes B) H')→R [.ref x])→R xs
theorem cOctO.mk{x d m:Nat}{bs:List Bool}{H:Hp}{Q:QV}{X:QX}(h:BO H x d m bs)(h1:bs.length≤1000000)(k:∀B,bBits B=bs++pad8 bs.length→(∀b∈B,b<256)→∀H',Ex [] H H'→Q (.bytes B) H'):cOctO [.ref x] H Q X:=fun _ z=>z _ _ _ _ h h1 k
theorem p_octO(C:CT):Does C t_BitsOut_octets 2 1 [] cOctO:=fun xs H Q X h=>h _ fun x d m bs hB hbs h=>by
 refine ⟨rfl,hB _ fun made hb e hb8 hI hby=>?_⟩
 have hl:=congrArg List.length e
 rw [List.length_append,bytes_len]at hl
 refine iA (.iAt hI.i rfl) (iTr (fun h0=>?_) fun h0=>?_)
 ·have h0:hb.length=0:=Int.ofNat_inj.mp h0
  refine iA (.iAt hI.i rfl) (iByA hI.b (by exact Classical.not_not.1 (lz [_,_,_] [] 977256269721129347070452279842561102222678515197042434059565153497488467274 rfl hbs hl ‹_›)) (h made ?_ hby H (.refl _ _)))
  rw [show pad8 bs.length=_ from e▸pad_0 h0,e,List.eq_nil_of_length_eq_zero h0,List.append_nil,List.append_nil]
 ·have h0:0<hb.length:=Nat.pos_of_ne_zero fun z=>h0 (congrArg Nat.cast z)
  have hv:val hb<256:=Nat.lt_of_lt_of_le (val_lt hb) (show 2^hb.length≤2^8 from Nat.pow_le_pow_right (by decide) (Nat.le_of_lt hb8))
  refine iA (.iAt hI.i rfl) (iByA hI.b (by exact Classical.not_not.1 (lz [_,_,_] [] 238587956474885094499622138633437769095572617629965259292882916627621194 rfl hbs hl h0)) (iA (.iAt hI.i rfl) fun r hr=>iByL pself (Nat.le_of_ble_eq_true rfl) (is:=[((val hb:Nat):Int)]) rfl (fun i hi=>List.mem_singleton.mp hi▸⟨Int.natCast_nonneg _,Int.ofNat_lt.mpr hv⟩) (iCat ?_ (h (made++[val hb]) ?_ (by_app hby fun c hc=>List.mem_singleton.mp hc▸hv) _ (.put hr)))))
  ·show made.length+1≤16777216;exact Classical.not_not.1 (lz [_,_,_] [] 977256269721129347070452279842561102215465441812337702063648426506731296074 rfl hbs hl h0)
  ·rw [show pad8 bs.length=_ from e▸pad_c hb8 h0,e,bytes_app,List.append_assoc]
   show bBits made++(bitsLE (val hb) 8++[])=_
   have:=bits_val (hb++List.replicate (8-hb.length) false)
   rw [val_app,val_zeros,List.length_append,List.length_replicate,Nat.add_sub_cancel' (Nat.le_of_lt hb8)]at this
   rw [List.append_nil];exact congrArg _ this
noncomputable def cInitO:Con:=fun xs H Q _=>∀R:List V→Prop,(∀x d,H x=some (.inst "BitsOut" d)→H d=some (.flds [])→(∀H' m,H m=none→Ex [d] H H'→BO H' x d m []→Q .none H')→R [.ref x])→R xs
theorem cInitO.mk{x d:Nat}{H:Hp}{Q:QV}{X:QX}(h1:H x=some (.inst "BitsOut" d))(h2:H d=some (.flds []))(k:∀H' m,H m=none→Ex [d] H H'→BO H' x d m []→Q .none H'):cInitO [.ref x] H Q X:=fun _ z=>z _ _ h1 h2 k
theorem p_initO(C:CT):Does C t_BitsOut_init 2 1 [] cInitO:=fun xs H Q X h=>h _ fun x d h1 h2 h=>by
 refine ⟨rfl,fun m hm=>InstAt.sa ⟨putf h1 hm,putf h2 hm⟩ rfl rfl fun i=>i.sa rfl rfl fun i=>i.sa rfl rfl fun i=>?_⟩
 exact h _ m hm ((((Ex.put hm).set1 m0).set1 m0).set1 m0) fun R z=>z [] [] rfl (by decide) ⟨i,putn (putn (putn pself (ne_of h2 hm).symm) (ne_of h2 hm).symm) (ne_of h2 hm).symm⟩ nofun
end
section
noncomputable def nts(l:List Nat):List V:=l.map fun (n:Nat)=>.int (n:Int)
theorem ints_len(l:List Nat):(nts l).length=l.length:=List.length_map _
theorem ints_get{l:List Nat}{i n:Nat}(h:l[i]?=some n):(nts l)[i]?=some (.int (n:Int)):=by unfold nts;rw [List.getElem?_map,h];rfl
theorem ints_inv{l:List Nat}{i:Nat}{v:V}(h:(nts l)[i]?=some v):∃n,l[i]?=some n∧v=.int (n:Nat):=by
 unfold nts at h
 rw [List.getElem?_map,Option.map_eq_some_iff]at h
 exact h.imp fun _ k=>⟨k.1,k.2.symm⟩
theorem ints_set(l:List Nat)(i n:Nat):(nts l).set i (.int (n:Int))=nts (l.set i n):=List.map_set.symm
theorem ints_app(a b:List Nat):nts (a++b)=nts a++nts b:=List.map_append
theorem ints_rep(n k:Nat):List.replicate n (V.int (k:Int))=nts (List.replicate n k):=by unfold nts;rw [List.map_replicate]
theorem ints_drop(l:List Nat)(i:Nat):(nts l).drop i=nts (l.drop i):=List.map_drop.symm
theorem ints_ofP:∀(l:List Nat),intsOf (nts l)=some (l.map fun (n:Nat)=>(n:Int))
 | []=>rfl
 |a::l=>congrArg (Option.map ((a:Int)::·)) (ints_ofP l)
theorem cut_tail{α:Type}(vs:List α):cutL vs 1 vs.length=vs.drop 1:=by unfold cutL;rw [List.take_length]
theorem lenI{l:List Nat}{n:Nat}(h:l.length≤n):(nts l).length≤n:=(ints_len l).symm▸h
theorem Ex.nn{S:List Nat}{H H':Hp}{t:Nat}(h:Ex S H H')(n:t∉S)(k:H' t=none):H t=none:=Option.eq_none_iff_forall_ne_some.mpr fun o e=>noS (k.symm.trans (h t o n e))
theorem Ex.nn0{H H':Hp}{t:Nat}(h:Ex [] H H')(k:H' t=none):H t=none:=h.nn n0 k
theorem pnone{H:Hp}{r t:Nat}{o:O}(k:H.put r o t=none):H t=none:=by
 unfold Hp.put at k
 by_cases q:t=r
 ·rw [if_pos q]at k;exact noS k.symm
 ·rwa [if_neg q]at k
theorem Ex.new{S:List Nat}{H H':Hp}{t:Nat}{o:O}(h:Ex S H H')(n:H t=none):Ex S H (H'.put t o):=fun b o' hb e=>(put_ne (ne_of e n)).trans (h b o' hb e)
section
variable {j:Nat}{G:Hp→Prop}{B:WS}{Q:QS}{X:QX}{m:M}{H:Hp}
theorem iForN{l:List Nat}(I:Nat→M→Hp→Prop)(step:∀i (x:Nat) m H,l[i]?=some x→I i m H→G H∧B (m.set j (some (.int x))) H (kFb I (i+1) Q) X)(last:∀m H,I l.length m H→G H∧Q .next m H)(h:I 0 m H):ForI (.one j) (nts l) G B Q X m H:=
 .iFor I (fun i v m H e h=>by obtain ⟨n,e',rfl⟩:=ints_inv e;exact step i n m H e' h) (fun m H h=>last m H (ints_len l▸h)) h
theorem rangeN_eq{a b:Int}:rangeN a b 1=(b-a).toNat:=by
 unfold rangeN
 rw [if_pos (by decide),Int.ediv_one]
 by_cases h:a<b
 ·rw [if_pos h,Int.sub_add_cancel]
 ·rw [if_neg h,Int.toNat_of_nonpos (Int.sub_nonpos_of_le (Int.not_lt.mp h))];rfl
theorem rangeL_eq(a n:Nat):rangeL a (a+n:Nat) 1=nts ((List.range n).map (a + ·)):=by
 unfold rangeL nts
 rw [rangeN_eq,List.map_map,show (((a+n:Nat):Int)-(a:Nat)).toNat=n by rw [Int.natCast_add,Int.add_comm,Int.add_sub_cancel];rfl]
 exact List.map_congr_left fun i _=>congrArg V.int (by rw [Int.one_mul];rfl)
theorem rangeL0(n:Nat):rangeL 0 n 1=nts (List.range n):=by
 have:=rangeL_eq 0 n
 rw [Nat.zero_add]at this
 rw [show rangeL 0 n 1=_ from this];congr 1;exact (List.map_congr_left fun i _=>Nat.zero_add i).trans (List.map_id _)
theorem iForR{n:Nat}(I:Nat→M→Hp→Prop)(step:∀i m H,i<n→I i m H→G H∧B (m.set j (some (.int i))) H (kFb I (i+1) Q) X)(last:∀m H,I n m H→G H∧Q .next m H)(h:I 0 m H):ForI (.one j) (rangeL 0 n 1) G B Q X m H:=by
 rw [rangeL0]
 refine iForN I (fun i x m H e h=>?_) (fun m H h=>last m H (by rwa [List.length_range]at h)) h
 obtain ⟨h1,rfl⟩:=List.getElem?_eq_some_iff.mp e
 rw [List.getElem_range];exact step i m H (by rwa [List.length_range]at h1) h
theorem iForR1{a n b:Nat}(e0:a+n=b)(I:Nat→M→Hp→Prop)(step:∀i m H,i<n→I i m H→G H∧B (m.set j (some (.int (a+i:Nat)))) H (kFb I (i+1) Q) X)(last:∀m H,I n m H→G H∧Q .next m H)(h:I 0 m H):ForI (.one j) (rangeL a b 1) G B Q X m H:=by
 rw [←e0,rangeL_eq]
 refine iForN I (fun i x m H e h=>?_) (fun m H h=>last m H (by rwa [List.length_map,List.length_range]at h)) h
 obtain ⟨h1,rfl⟩:=List.getElem?_eq_some_iff.mp e
 rw [List.getElem_map,List.getElem_range];exact step i m H (by rwa [List.length_map,List.length_range]at h1) h
end
noncomputable def mx(l:List Nat):Nat:=l.foldl max 0
theorem mx_cast:∀(l:List Nat) (k:Nat),(l.map fun (n:Nat)=>(n:Int)).foldl max (k:Int)=((l.foldl max k:Nat):Int)
 | [],k=>rfl
 |a::l,k=>by
  rw [List.map_cons,List.foldl_cons,List.foldl_cons,←mx_cast l]
  exact congrArg (fun z=>List.foldl max z _) (show max (k:Int) a=((max k a:Nat):Int) by omega)
theorem mx_le:∀(l:List Nat) (k:Nat),k≤l.foldl max k∧∀x∈l,x≤l.foldl max k
 | [],k=>⟨Nat.le_refl _,nofun⟩
 |a::l,k=>⟨Nat.le_trans (Nat.le_max_left _ _) (mx_le l (max k a)).1,fun x hx=>(List.mem_cons.mp hx).elim (fun e=>Nat.le_trans (Nat.le_of_eq e) (Nat.le_trans (Nat.le_max_right k a) (mx_le l (max k a)).1)) ((mx_le l (max k a)).2 x)⟩
theorem mx_ge{l:List Nat}{x:Nat}(h:x∈l):x≤mx l:=(mx_le l 0).2 x h
noncomputable def cGreat:Con:=fun xs H Q _=>∀R:List V→Prop,(∀a l,H a=some (.list (nts l))→l.length≤1000→(∀H',Ex [] H H'→Q (.int (mx l:Nat)) H')→R [.ref a])→R xs
theorem cGreat.mk{a:Nat}{l:List Nat}{H:Hp}{Q:QV}{X:QX}(h:H a=some (.list (nts l)))(h1:l.length≤1000)(k:∀H',Ex [] H H'→Q (.int (mx l:Nat)) H'):cGreat [.ref a] H Q X:=fun _ z=>z _ _ h h1 k
theorem p_great(C:CT):Does C t_greatest_length 3 1 [] cGreat:=fun xs H Q X h=>h _ fun a l ha hl h=>by
 have hl':([V.int 0]++nts l).length≤16777216:=by rw [List.length_append,ints_len];show 1+l.length≤_;exact lz [_] [] 37439910261685737074225530659431592137984 rfl hl
 exact ⟨rfl,fun r hr=>iLoL (putf ha hr) (lenI (by exact lz [_] [] 9140603091231869403225988196777497856 rfl hl)) fun r2 hr2=>iCatL (putf pself hr2) pself (by rw [←List.length_append];exact hl') fun r3 hr3=>
  iMaxE pself (show (intsOf (nts l)).map ((0:Int)::·)=_ by rw [ints_ofP];rfl) (mx_cast l 0) hl' (h _ (((Ex.put hr).put1 hr2).put1 hr3))⟩
noncomputable def litL:List Nat:=List.replicate 144 8++List.replicate 112 9++List.replicate 24 7++List.replicate 8 8
noncomputable def dstL:List Nat:=List.replicate 32 5
noncomputable def Fix(l:List Nat):Prop:=l=litL∨l=dstL
theorem Fix.elim{P:List Nat→Prop}{l:List Nat}(h:Fix l)(h1:P litL)(h2:P dstL):P l:=Or.elim h (·▸h1) (·▸h2)
theorem fix_mx{l:List Nat}(h:Fix l):mx l≤9∧l.length≤288∧∀x∈l,0<x:=h.elim (P:=fun l=>mx l≤9∧l.length≤288∧∀x∈l,0<x) (by decide +kernel) (by decide +kernel)
noncomputable def stepT(t:List Nat)(x:Nat):List Nat:=t.set x (t.getD x 0+1)
noncomputable def tallyF(l:List Nat):List Nat:=l.foldl stepT (List.replicate (mx l+1) 0)
theorem stepT_len:∀(l t:List Nat),(l.foldl stepT t).length=t.length
 | [],_=>rfl
 |a::l,t=>(stepT_len l (stepT t a)).trans List.length_set
theorem foldl_snoc{α β:Type}(f:β→α→β)(z:β){l:List α}{i:Nat}{v:α}(h:l[i]?=some v):(l.take (i+1)).foldl f z=f ((l.take i).foldl f z) v:=by
 rw [List.take_succ,h,List.foldl_append];rfl
theorem getD_get{l:List Nat}{i:Nat}(h:i<l.length):l[i]?=some (l.getD i 0):=by
 rw [List.getD_eq_getElem?_getD,List.getElem?_eq_getElem h];rfl
theorem itN{H:Hp}{a i:Nat}{l:List Nat}(h:H a=some (.list (nts l)))(hi:i<l.length):It H i (.ref a) (.int (l.getD i 0:Nat)):=.list h (ints_get (getD_get hi))
noncomputable def cTally:Con:=fun xs H Q _=>∀R:List V→Prop,(∀a l,H a=some (.list (nts l))→Fix l→(∀H' t,Ex [] H H'→H t=none→H' t=some (.list (nts (tallyF l)))→Q (.ref t) H')→R [.ref a])→R xs
theorem cTally.mk{a:Nat}{l:List Nat}{H:Hp}{Q:QV}{X:QX}(h:H a=some (.list (nts l)))(h1:Fix l)(k:∀H' t,Ex [] H H'→H t=none→H' t=some (.list (nts (tallyF l)))→Q (.ref t) H'):cTally [.ref a] H Q X:=fun _ z=>z _ _ h h1 k
noncomputable def I_p_tally(H:Hp)(a:Nat)(l:List Nat)(t i:Nat)(m:M)(H':Hp):Prop:=
 ∀R:M→Prop,(∀v,Ex [] H H'→H' t=some (.list (nts ((l.take i).foldl stepT (List.replicate (mx l+1) 0))))→R [some (.ref a),some (.ref t),v,none])→R m
theorem p_tally(C:CT)(hg:Sup C "greatest_length" cGreat):Does C t_tally_of 4 1 [] cTally:=fun xs H Q X h=>h _ fun a l ha hl h=>by
 obtain ⟨f1,f2,f3⟩:=fix_mx hl
 refine ⟨rfl,fun r hr=>hg _ _ _ _ (cGreat.mk (putf ha hr) (by exact lz [_] [] 32474225548500358350080 rfl f2) fun H1 hx1=>iAdd (c:=(mx l+1:Nat)) rfl (iRep (hx1.at0 pself) (by exact lz [_] [] 9163143629003756800 rfl f1) fun t ht=>?_))⟩
 have x0:=(Ex.put hr).trans hx1
 have htH:=x0.nn0 ht
 rw [show V.int 0=V.int (0:Nat) from rfl,ints_rep]
 refine iOvL (putf (x0.at0 ha) ht) (lenI (by exact lz [_] [] 2231592551570280616021969770595584 rfl f2)) (iForN (I_p_tally H a l t) (fun i x m H' hx hi=>?_) (fun m H' hi=>?_) fun R z=>z none (x0.put1 ht) pself)
 ·refine hi (fun m=>_∧wSs _ _ (m.set _ _) _ _ _) fun v hex ht'=>⟨hex.at0 ha,iTt (Int.ofNat_lt.mpr (f3 x (List.mem_of_getElem? hx))) ?_⟩
  have hlen:x<((l.take i).foldl stepT (List.replicate (mx l+1) 0)).length:=by rw [stepT_len,List.length_replicate];exact Nat.lt_succ_of_le (mx_ge (List.mem_of_getElem? hx))
  have hb:((l.take i).foldl stepT (List.replicate (mx l+1) 0)).length≤10:=by rw [stepT_len,List.length_replicate];exact lz [_] [] 14080986000594176 rfl f1
  refine iI (by exact lz [_,_] [] 37440076359403633967862792888687260017985 rfl hlen hb) (itN ht' hlen) (iSl ht' ((ints_len _).symm▸hlen) (lenI (by exact lz [_] [] 544822400285713041020988892416 rfl hb)) ?_)
  refine fun R z=>z _ (hex.new htH) ?_
  rw [foldl_snoc _ _ hx];exact pself.trans (congrArg (fun z=>some (O.list z)) (ints_set _ _ _))
 ·refine hi (fun m=>_∧kSeq _ _ _ _ m _) fun v hex ht'=>⟨hex.at0 ha,h H' t hex htH ?_⟩
  rw [List.take_length]at ht';exact ht'
noncomputable def roomF(t:List Nat):Int:=t.foldl (fun (r:Int) (x:Nat)=>2*r-(x:Int)) 1
theorem fix_room{l:List Nat}(h:Fix l):(∀i,i≤10→((roomF (((tallyF l).drop 1).take i)).natAbs<1000000))∧¬roomF ((tallyF l).drop 1)<0∧(tallyF l).length≤10∧1≤(tallyF l).length:=
 h.elim (P:=fun l=>(∀i,i≤10→((roomF (((tallyF l).drop 1).take i)).natAbs<1000000))∧¬roomF ((tallyF l).drop 1)<0∧(tallyF l).length≤10∧1≤(tallyF l).length) (by decide +kernel) (by decide +kernel)
noncomputable def cRoom:Con:=fun xs H Q _=>∀R:List V→Prop,(∀a l,H a=some (.list (nts l))→Fix l→(∀H',Ex [] H H'→Q (.int (roomF ((tallyF l).drop 1))) H')→R [.ref a])→R xs
theorem cRoom.mk{a:Nat}{l:List Nat}{H:Hp}{Q:QV}{X:QX}(h:H a=some (.list (nts l)))(h1:Fix l)(k:∀H',Ex [] H H'→Q (.int (roomF ((tallyF l).drop 1))) H'):cRoom [.ref a] H Q X:=fun _ z=>z _ _ h h1 k
noncomputable def I_p_room(a:Nat)(l:List Nat)(H1:Hp)(i:Nat)(m:M)(H':Hp):Prop:=
 ∀R:M→Hp→Prop,(∀v,R [some (.ref a),some (.int (roomF (((tallyF l).drop 1).take i))),v,none] H1)→R m H'
theorem p_room(C:CT)(ht:Sup C "tally_of" cTally):Does C t_room_left 4 1 [] cRoom:=fun xs H Q X h=>h _ fun a l ha hl h=>by
 obtain ⟨f1,f2,f3,f4⟩:=fix_room hl
 refine ⟨rfl,ht _ _ _ _ (cTally.mk ha hl fun H1 t hx1 hn ht1=>?_)⟩
 refine iSln (k:=1) (by decide) (lenI (by exact lz [_] [] 544822400285713041020988892416 rfl f3)) (.list ht1 fun r hr=>?_)
 rw [cut_tail,ints_drop]
 refine iOvL pself (lenI (by rw [List.length_drop];exact lz [_,_] [] 37439910261685737075687446857122111198528 rfl f3 (Nat.sub_add_cancel (lz [_] [] 1418557999680 rfl f4)))) (iForN (I_p_room a l (H1.put r (.list (nts ((tallyF l).drop 1))))) (fun i x m H' hx hi=>?_) (fun m H' hi=>?_) fun R z=>z none)
 ·refine hi (fun m H'=>H' _=some _∧wSs _ _ (m.set _ _) H' _ _) fun v=>⟨pself,?_⟩
  have hi:i≤10:=by
   have:=(List.getElem?_eq_some_iff.mp hx).1
   rw [List.length_drop]at this;exact lz [_,_,_] [] 3987572238137956426732875978112 rfl f3 this (Nat.sub_add_cancel (lz [_] [] 1418557999680 rfl f4))
  have:=f1 i hi
  refine iMul (by decide) (by exact lz [_] [] 12150053343975159386454638743640202431071293700318908216735484749182842113 rfl this) (iSub rfl fun R z=>?_)
  have z:=z (some (.int (x:Int)))
  rw [show roomF (((tallyF l).drop 1).take (i+1))=_ from foldl_snoc _ _ hx]at z;exact z
 ·refine hi (fun m H'=>H' _=some _∧kSeq _ _ _ _ m H') fun v=>⟨pself,?_⟩
  rw [List.take_length];exact h _ (hx1.put1 hr)
noncomputable def cOver:Con:=fun xs H Q _=>∀R:List V→Prop,(∀a l,H a=some (.list (nts l))→Fix l→(∀H',Ex [] H H'→Q (.bool false) H')→R [.ref a])→R xs
theorem cOver.mk{a:Nat}{l:List Nat}{H:Hp}{Q:QV}{X:QX}(h:H a=some (.list (nts l)))(h1:Fix l)(k:∀H',Ex [] H H'→Q (.bool false) H'):cOver [.ref a] H Q X:=fun _ z=>z _ _ h h1 k
theorem p_over(C:CT)(ht:Sup C "room_left" cRoom):Does C t_is_over 2 1 [] cOver:=fun xs H Q X h=>h _ fun a l ha hl h=>by
 refine ⟨rfl,ht _ _ _ _ (cRoom.mk ha hl fun H1 hx1=>?_)⟩
 have h:=h H1 hx1
 rw [←decide_eq_false (fix_room hl).2.1]at h;exact h
noncomputable def stepF(t f:List Nat)(i:Nat):List Nat:=f.set (i+1) (2*(f.getD i 0+t.getD i 0))
noncomputable def firstF(t:List Nat):List Nat:=(List.range (t.length-1)).foldl (stepF t) (List.replicate t.length 0)
theorem stepF_len(t:List Nat):∀(l f:List Nat),(l.foldl (stepF t) f).length=f.length
 | [],_=>rfl
 |a::l,f=>(stepF_len t l (stepF t f a)).trans List.length_set
theorem fix_first{l:List Nat}(h:Fix l):∀i,i≤10→∀j,j≤10→(((List.range i).foldl (stepF (tallyF l)) (List.replicate (tallyF l).length 0)).getD j 0+(tallyF l).getD j 0)<1000000:=
 h.elim (P:=fun l=>∀i,i≤10→∀j,j≤10→(((List.range i).foldl (stepF (tallyF l)) (List.replicate (tallyF l).length 0)).getD j 0+(tallyF l).getD j 0)<1000000) (by decide +kernel) (by decide +kernel)
noncomputable def cFirst:Con:=fun xs H Q _=>∀R:List V→Prop,(∀a l,H a=some (.list (nts (tallyF l)))→Fix l→(∀H' t,Ex [] H H'→H t=none→H' t=some (.list (nts (firstF (tallyF l))))→Q (.ref t) H')→R [.ref a])→R xs
theorem cFirst.mk{a:Nat}{l:List Nat}{H:Hp}{Q:QV}{X:QX}(h:H a=some (.list (nts (tallyF l))))(h1:Fix l)(k:∀H' t,Ex [] H H'→H t=none→H' t=some (.list (nts (firstF (tallyF l))))→Q (.ref t) H'):cFirst [.ref a] H Q X:=fun _ z=>z _ _ h h1 k
noncomputable def I_p_first(H:Hp)(a:Nat)(T:List Nat)(f i:Nat)(m:M)(H':Hp):Prop:=
 ∀R:M→Prop,(∀v,Ex [] H H'→H' f=some (.list (nts ((List.range i).foldl (stepF T) (List.replicate T.length 0))))→R [some (.ref a),some (.ref f),v,none,none])→R m
theorem p_first(C:CT):Does C t_first_codes 5 1 [] cFirst:=fun xs H Q X h=>h _ fun a l ha hl h=>by
 obtain ⟨_,_,f3,f4⟩:=fix_room hl
 have hb:=fix_first hl
 unfold firstF at h
 generalize tallyF l=T at *
 have hT:1+(T.length-1)=T.length:=by exact lz [_,_] [] 1551051296440163144962 rfl (Nat.sub_add_cancel (lz [_] [] 1418557999680 rfl f4))
 refine ⟨rfl,fun r hr=>iL (.list (putf ha hr)) (lenI (by exact lz [_] [] 544822400285713041020988892416 rfl f3)) (iRep pself (by rw [ints_len];exact lz [_] [] 2237115465671936 rfl f3) fun f hf=>?_)⟩
 have hfH:=pnone hf
 rw [ints_len,show V.int 0=V.int (0:Nat) from rfl,ints_rep]
 refine iL (.list (putf (putf ha hr) hf)) (lenI (by exact lz [_] [] 544822400285713041020988892416 rfl f3)) ⟨by decide,by rw [ints_len];show T.length<_;exact lz [_] [] 37440242538273447829619739148132041565441 rfl f3,?_⟩
 rw [ints_len]
 refine iForR1 (a:=1) hT (I_p_first H a T f) (fun i m H' hi hI=>?_) (fun m H' hI=>?_) fun R z=>z none ((Ex.put hr).put1 hf) pself
 ·refine hI (fun m=>_∧wSs _ _ (m.set _ _) _ _ _) fun v hex hf'=>⟨trivial,?_⟩
  have hlen:((List.range i).foldl (stepF T) (List.replicate T.length 0)).length=T.length:=by rw [stepF_len,List.length_replicate]
  have hb:=hb i (by exact lz [_,_,_] [] 3988810178178394078357238404480 rfl f3 hT hi) i (by exact lz [_,_,_] [] 3988810178178394078357238404480 rfl f3 hT hi)
  refine iSub (c:=(i:Nat)) (by rw [Int.natCast_add,Int.add_comm];exact Int.add_sub_cancel _ _) (iI (by exact lz [_,_,_] [] 2572862456374101599288409024228346784627423420175745 rfl f3 hT hi) (itN hf' (by rw [hlen];exact lz [_,_,_] [] 100805283340925079471489 rfl hT hi)) (iSub (c:=(i:Nat)) (by rw [Int.natCast_add,Int.add_comm];exact Int.add_sub_cancel _ _) (iI (by exact lz [_,_,_] [] 2572862456374101599288409024228346784627423420175745 rfl f3 hT hi) (itN (hex.at0 ha) (by exact lz [_,_,_] [] 100805283340925079471489 rfl hT hi)) (iAdd rfl (iMul (by decide) (by exact lz [_,_,_] [] 896515698072914766624064807736470112284522773857379895143069876231526286369076185603630978433 rfl hb (Int.natAbs_of_nonneg (lz [_,_] [] 74441902597 rfl))) ?_)))))
  refine iSl (n:=1+i) hf' (by rw [ints_len,hlen];exact lz [_,_,_] [] 406608236447792456645559681 rfl hT hi) (lenI (by exact lz [_,_] [] 9140603091231869403244005580352079168 rfl f3 hlen)) fun R z=>z _ (hex.new hfH) ?_
  rw [List.range_succ,List.foldl_append]
  refine pself.trans (congrArg (fun z=>some (O.list z)) ?_)
  rw [Nat.add_comm 1 i];exact ints_set _ (i+1) (2*(_+T.getD i 0))
 ·exact hI (fun m=>_∧kSeq _ _ _ _ m _) fun v hex hf'=>⟨trivial,h H' f hex hfH hf'⟩
end
section
theorem iCompR{elt:V→Hp→QV→Prop}{G:Hp→Prop}{Q:List V→Hp→Prop}{H:Hp}{n:Nat}(I:Nat→List V→Hp→Prop)(step:∀i acc H,i<n→I i acc H→G H∧acc.length<16777000∧elt (.int i) H fun x=>I (i+1) (acc++[x]))(last:∀acc H,I n acc H→G H∧Q acc H)(h:I 0 [] H):CompI elt (rangeL 0 n 1) G Q H:=by
 rw [rangeL0]
 refine .iComp I (fun i v acc H e h=>?_) (fun acc H h=>last acc H (by rwa [ints_len,List.length_range]at h)) h
 obtain ⟨x,e',rfl⟩:=ints_inv e
 obtain ⟨h1,rfl⟩:=List.getElem?_eq_some_iff.mp e'
 rw [List.getElem_range];exact step i acc H (by rwa [List.length_range]at h1) h
theorem putL{H:Hp}{a:Nat}{l:List V}{l':List V}(e:l=l'):H.put a (.list l) a=some (.list l'):=pself.trans (congrArg (fun z=>some (O.list z)) e)
noncomputable def stepC(s:List Nat×List Nat)(x:Nat):List Nat×List Nat:=(s.1.set x (s.1.getD x 0+1),s.2++[s.1.getD x 0])
noncomputable def codesF(l:List Nat):List Nat:=(l.foldl stepC (firstF (tallyF l),[])).2
theorem stepC_len:∀(l:List Nat) (s:List Nat×List Nat),(l.foldl stepC s).1.length=s.1.length∧(l.foldl stepC s).2.length=s.2.length+l.length
 | [],s=>⟨rfl,rfl⟩
 |a::l,s=>⟨(stepC_len l (stepC s a)).1.trans List.length_set,(stepC_len l (stepC s a)).2.trans (by
  rw [show (stepC s a).2.length=s.2.length+1 from List.length_append,List.length_cons];exact lz [_,_] [] 1182570111954228482 rfl)⟩
theorem first_len(l:List Nat):(firstF (tallyF l)).length=mx l+1:=by
 unfold firstF;rw [stepF_len,List.length_replicate];unfold tallyF;rw [stepT_len,List.length_replicate]
noncomputable def cCodes:Con:=fun xs H Q _=>∀R:List V→Prop,(∀a l,H a=some (.list (nts l))→Fix l→(∀H' t,Ex [] H H'→H t=none→H' t=some (.list (nts (codesF l)))→Q (.ref t) H')→R [.ref a])→R xs
theorem cCodes.mk{a:Nat}{l:List Nat}{H:Hp}{Q:QV}{X:QX}(h:H a=some (.list (nts l)))(h1:Fix l)(k:∀H' t,Ex [] H H'→H t=none→H' t=some (.list (nts (codesF l)))→Q (.ref t) H'):cCodes [.ref a] H Q X:=fun _ z=>z _ _ h h1 k
noncomputable def I_p_codes(H:Hp)(a:Nat)(l F:List Nat)(b c:Nat)(i:Nat)(m:M)(H':Hp):Prop:=
 ∀R:M→Prop,(∀v,Ex [] H H'→H' b=some (.list (nts ((l.take i).foldl stepC (F,[])).1))→H' c=some (.list (nts ((l.take i).foldl stepC (F,[])).2))→R [some (.ref a),some (.ref b),some (.ref c),v,none,none,none,none])→R m
theorem p_codes(C:CT)(ho:Sup C "is_over" cOver)(ht:Sup C "tally_of" cTally)(hf:Sup C "first_codes" cFirst):Does C t_codes_of 8 1 [] cCodes:=fun xs H Q X h=>h _ fun a l ha hl h=>by
 obtain ⟨f1,f2,f3⟩:=fix_mx hl
 refine ⟨rfl,ho _ _ _ _ (cOver.mk ha hl fun H1 x1=>iTb ?_)⟩
 refine ht _ _ _ _ (cTally.mk (x1.at0 ha) hl fun H2 t x2 hn2 ht2=>hf _ _ _ _ (cFirst.mk ht2 hl fun H3 b x3 hn3 hb3=>?_))
 refine fun c hc=>?_
 have x03:=x1.trans (x2.trans x3)
 have hbH:=x1.nn0 (x2.nn0 hn3)
 have hcH:=x03.nn0 hc
 have hbc:=ne_of hb3 hc
 have hF:=first_len l
 unfold codesF at h
 generalize firstF (tallyF l)=F at *
 refine iOvL (putf (x03.at0 ha) hc) (lenI (by exact lz [_] [] 2231592551570280616021969770595584 rfl f2)) (iForN (I_p_codes H a l F b c) (fun i x m H' hx hi=>?_) (fun m H' hi=>?_) fun R z=>z none (x03.put1 hc) (putn hb3 hbc) pself)
 ·refine hi (fun m=>_∧wSs _ _ (m.set _ _) _ _ _) fun v hex hb' hc'=>⟨hex.at0 ha,?_⟩
  have hxm:=List.mem_of_getElem? hx
  have hxl:=mx_ge hxm
  have hs:=foldl_snoc stepC (F,[]) hx
  have l1:=(stepC_len (l.take i) (F,[])).1
  have l2:=(stepC_len (l.take i) (F,[])).2
  generalize (l.take i).foldl stepC (F,[])=S at *
  have l3:=List.length_take_le' i l
  have l1:S.1.length=mx l+1:=l1.trans hF
  have l2:S.2.length≤288:=by rw [l2];show 0+_≤_;exact lz [_,_] [] 525892807301514534486452553024 rfl f2 l3
  refine iApL hc' (iTt (Int.ofNat_lt.mpr (f3 x hxm)) (iI (by exact lz [_,_] [] 37440076359403633967862810623534938015041 rfl f1 hxl) (itN hb' (by exact lz [_,_,_,_] [] 7576278013901957576821212226864577 rfl hF hxl ‹_›)) (iAppL hc' (by rw [ints_len];exact lz [_] [] 2231611120368638441822435963782401 rfl l2) (iX ?_))))
  refine iI (by exact lz [_,_] [] 37440076359403633967862810623534938015041 rfl f1 hxl) (itN (putn hb' hbc) (by exact lz [_,_,_,_] [] 7576278013901957576821212226864577 rfl hF hxl ‹_›)) (iSl (putn hb' hbc) (by rw [ints_len];exact lz [_,_,_,_] [] 7576278013901957576821212226864577 rfl hF hxl ‹_›) (lenI (by exact lz [_,_,_] [] 628137461480918135039254579727372521813349586304 rfl f1 hF ‹_›)) ?_)
  refine fun R z=>z _ ((hex.new hcH).new hbH) ?_ ?_
  ·rw [hs];exact putL (ints_set _ _ _)
  ·rw [hs];exact putn (putL (ints_app S.2 [S.1.getD x 0]).symm) hbc.symm
 ·refine hi (fun m=>_∧kSeq _ _ _ _ m _) fun v hex hb' hc'=>⟨hex.at0 ha,h H' c hex hcH ?_⟩
  rw [List.take_length]at hc';exact hc'
noncomputable def heapF(l:List Nat)(i j:Nat):List Nat:=(List.range i).filter fun s=>l.getD s 0 == j
noncomputable def symF(l:List Nat):List Nat:=(List.range (mx l)).flatMap fun j=>heapF l l.length (j+1)
theorem heap_eq(l:List Nat)(i:Nat):heapF l (i+1) (l.getD i 0)=heapF l i (l.getD i 0)++[i]:=by
 unfold heapF;rw [List.range_succ,List.filter_append,List.filter_cons_of_pos (by exact beq_self_eq_true _)];rfl
theorem heap_ne{l:List Nat}{i j:Nat}(h:j≠l.getD i 0):heapF l (i+1) j=heapF l i j:=by
 unfold heapF;rw [List.range_succ,List.filter_append,List.filter_cons_of_neg (by rw [beq_iff_eq];exact h.symm)];exact List.append_nil _
theorem heap_le(l:List Nat)(i j:Nat):(heapF l i j).length≤i:=by
 unfold heapF;exact Nat.le_trans (List.length_filter_le _ _) (Nat.le_of_eq List.length_range)
structure Heaps(H0 H:Hp)(acc:List V)(n:Nat)(f:Nat→List Nat):Prop where
 len:acc.length=n
 at_:∀j,j<n→∀R:Prop,(∀r,acc[j]?=some (V.ref r)→H r=some (.list (nts (f j)))→H0 r=none→R)→R
 inj:∀(j j' r:Nat),acc[j]?=some (V.ref r)→acc[j']?=some (V.ref r)→j=j'
section
variable {H0 H H':Hp}{acc:List V}{n:Nat}{f:Nat→List Nat}
theorem Heaps.lt(hh:Heaps H0 H acc n f){j:Nat}{v:V}(e:acc[j]?=some v):j<n:=hh.len▸(List.getElem?_eq_some_iff.mp e).1
theorem Heaps.of(hh:Heaps H0 H acc n f){j r:Nat}(e:acc[j]?=some (.ref r)):H r=some (.list (nts (f j)))∧H0 r=none:=
 hh.at_ j (hh.lt e) _ fun r' e' h1 h2=>by obtain rfl:=V.ref.inj (sI (e.symm.trans e'));exact ⟨h1,h2⟩
theorem Heaps.up(hh:Heaps H0 H acc n f)(k:∀j r:Nat,acc[j]?=some (.ref r)→H r=some (.list (nts (f j)))→H' r=some (.list (nts (f j)))):Heaps H0 H' acc n f:=
 ⟨hh.len,fun j hj R z=>hh.at_ j hj R fun r e h1 h2=>z r e (k j r e h1) h2,hh.inj⟩
theorem Heaps.grow(hh:Heaps H0 H acc n f){a:Nat}{o:O}(k:H a=none):Heaps H0 (H.put a o) acc n f:=hh.up fun _ _ _ h=>putf h k
theorem Heaps.add(hh:Heaps H0 H acc n fun _=>[]){r:Nat}(hr:H r=none)(hrH:H0 r=none):Heaps H0 (H.put r (.list [])) (acc++[V.ref r]) (n+1) fun _=>[]:=by
 have key:∀(j r':Nat),(acc++[V.ref r])[j]?=some (.ref r')→(acc[j]?=some (.ref r')∧r'≠r)∨(j=n∧r'=r):=fun j r' e=>by
  rcases Nat.lt_or_ge j acc.length with q |q
  ·rw [List.getElem?_append_left q]at e;exact .inl ⟨e,ne_of (hh.of e).1 hr⟩
  ·rw [List.getElem?_append_right q]at e
   obtain ⟨h1,h2⟩:=List.getElem?_eq_some_iff.mp e
   have h1:j-acc.length<1:=h1
   have hj:j=acc.length:=by exact Nat.le_antisymm (lz [_,_,_] [] 6451464712432415945348352 rfl h1 (Nat.sub_add_cancel (lz [_,_] [] 1464728900864 rfl q))) (lz [_,_] [] 1464728900864 rfl q)
   subst hj
   exact .inr ⟨hh.len,by simp only [Nat.sub_self]at h2;exact (V.ref.inj h2).symm⟩
 refine ⟨by rw [List.length_append,hh.len];rfl,fun j hj R z=>?_,fun j j' r' e1 e2=>?_⟩
 ·rcases Nat.lt_or_ge j n with q |q
  ·refine hh.at_ j q R fun r' h1 h2 h3=>z r' ?_ (putf h2 hr) h3
   rw [List.getElem?_append_left (hh.len▸q)];exact h1
  ·obtain rfl:=Nat.le_antisymm (Nat.le_of_lt_succ hj) q
   refine z r ?_ pself hrH
   rw [List.getElem?_append_right (Nat.le_of_eq hh.len),hh.len,Nat.sub_self];rfl
 ·refine (key j r' e1).elim (fun a=>(key j' r' e2).elim (fun b=>hh.inj j j' r' a.1 b.1) fun b=>absurd b.2 a.2) fun a=>(key j' r' e2).elim (fun b=>absurd a.2 b.2) fun b=>a.1.trans b.1.symm
theorem Heaps.app{l:List Nat}{i r:Nat}(hh:Heaps H0 H acc n (heapF l i))(h1:acc[l.getD i 0]?=some (.ref r)):Heaps H0 (H.put r (.list (nts (heapF l i (l.getD i 0))++[.int i]))) acc n (heapF l (i+1)):=
 ⟨hh.len,fun j hj R z=>hh.at_ j hj R fun r' e h2 h3=>z r' e (by
  by_cases q:j=l.getD i 0
  ·obtain rfl:r'=r:=V.ref.inj (sI ((q▸e).symm.trans h1))
   rw [q,heap_eq,ints_app];exact pself
  ·rw [heap_ne q];exact putn h2 fun w=>q (hh.inj _ _ _ (w▸e) h1)) h3,hh.inj⟩
end
noncomputable def cSyms:Con:=fun xs H Q _=>∀R:List V→Prop,(∀a l,H a=some (.list (nts l))→Fix l→(∀H' t,Ex [] H H'→H t=none→H' t=some (.list (nts (symF l)))→Q (.ref t) H')→R [.ref a])→R xs
theorem cSyms.mk{a:Nat}{l:List Nat}{H:Hp}{Q:QV}{X:QX}(h:H a=some (.list (nts l)))(h1:Fix l)(k:∀H' t,Ex [] H H'→H t=none→H' t=some (.list (nts (symF l)))→Q (.ref t) H'):cSyms [.ref a] H Q X:=fun _ z=>z _ _ h h1 k
noncomputable def I_p_syms(H:Hp)(a:Nat)(l:List Nat)(acc:List V)(hp fd sl:Nat)(i:Nat)(m:M)(H4:Hp):Prop:=
 ∀R:M→Prop,(∀v w,Ex [] H H4→H4 sl=some (.list (acc.drop 1))→Heaps H H4 acc (mx l+1) (heapF l l.length)→H4 fd=some (.list (nts ((List.range i).flatMap fun j=>heapF l l.length (j+1))))→R [some (.ref a),some (.ref hp),v,some (.ref fd),w,none,none,none])→R m
noncomputable def I_p_syms1(H:Hp)(a:Nat)(l:List Nat)(acc:List V)(hp:Nat)(i:Nat)(m:M)(H2:Hp):Prop:=
 ∀R:M→Prop,(∀v,Ex [] H H2→H2 hp=some (.list acc)→Heaps H H2 acc (mx l+1) (heapF l i)→R [some (.ref a),some (.ref hp),v,none,none,none,none,none])→R m
theorem flat_le(l:List Nat):∀k,((List.range k).flatMap fun j=>heapF l l.length (j+1)).length≤l.length*k
 |0=>Nat.zero_le _
 |k+1=>by
  rw [List.range_succ,List.flatMap_append,List.length_append,Nat.mul_succ]
  exact Nat.add_le_add (flat_le l k) (by rw [List.flatMap_cons,List.flatMap_nil,List.append_nil];exact heap_le _ _ _)
theorem p_syms(C:CT)(hg:Sup C "greatest_length" cGreat):Does C t_symbols_of 8 1 [] cSyms:=fun xs H Q X h=>h _ fun a l ha hl h=>by
 obtain ⟨f1,f2,f3⟩:=fix_mx hl
 refine ⟨rfl,rfl,by decide,hg _ _ _ _ (cGreat.mk ha (by exact lz [_] [] 32474225548500358350080 rfl f2) fun H1 x1=>iAdd (c:=(mx l+1:Nat)) rfl ⟨by show mx l+1<_;exact lz [_] [] 153355233436768042310122451550667523863549185 rfl f1,?_⟩)⟩
 refine iCompR (fun i acc H'=>Ex [] H H'∧Heaps H H' acc i fun _=>[]) (fun i acc H' hi hI=>⟨trivial,by rw [hI.2.len];exact lz [_,_] [] 37440221794426646764432240799371047028033 rfl f1 hi,fun r hr=>⟨hI.1.put1 hr,hI.2.add hr (hI.1.nn0 hr)⟩⟩) (fun acc H' hI=>⟨trivial,fun hp hhp=>?_⟩) ⟨x1,rfl,fun j hj=>absurd hj (Nat.not_lt_zero j),fun _ _ _ e=>nomatch e⟩
 obtain ⟨hex,hh⟩:=hI
 have hpH:=hex.nn0 hhp
 refine iL (.list (putf (hex.at0 ha) hhp)) (lenI (by exact lz [_] [] 2231592551570280616021969770595584 rfl f2)) ⟨by rw [ints_len];show l.length<_;exact lz [_] [] 153355233436768042310122451550748841519301889 rfl f2,?_⟩
 rw [ints_len]
 refine iForR (I_p_syms1 H a l acc hp) (fun i m H2 hi hI=>?_) (fun m H2 hI=>?_) fun R z=>z none (hex.put1 hhp) pself (hh.grow hhp)
 ·refine hI (fun m=>_∧wSs _ _ (m.set _ _) _ _ _) fun v hex2 hp2 hh2=>⟨trivial,?_⟩
  have hxl:l.getD i 0≤mx l:=mx_ge (List.mem_of_getElem? (getD_get hi))
  refine hh2.at_ (l.getD i 0) (Nat.lt_succ_of_le hxl) _ fun r h1 h2 h3=>?_
  have hll:=heap_le l i (l.getD i 0)
  have hrp:r≠hp:=neO h2 hp2 fun e=>by
   refine hh2.at_ 0 (Nat.succ_pos _) _ fun r0 k1 _ _=>?_
   rw [←O.list.inj e]at k1
   obtain ⟨x,_,hx⟩:=ints_inv k1
   exact nomatch hx
  refine iI (by exact lz [_,_] [] 153354552768117284732366072301986643970442561 rfl f2 hi) (itN (hex2.at0 ha) hi) (iI (by exact lz [_,_] [] 37440076359403633967862810623534938015041 rfl f1 hxl) (.list hp2 h1) (iApL h2 (iAppL h2 (by rw [ints_len];exact lz [_,_,_] [] 628142688133003448923818559757526437041724020097 rfl f2 hi hll) (iX ?_))))
  exact fun R z=>z _ (hex2.new h3) (putn hp2 hrp.symm) (hh2.app h1)
 ·refine hI (fun m=>_∧kSeq _ _ _ _ m _) fun v hex2 hp2 hh2=>⟨trivial,fun fd hfd=>?_⟩
  have hfdH:=hex2.nn0 hfd
  refine iSln (k:=1) (by decide) (by rw [hh2.len];exact lz [_] [] 2231592551570280615940652114842880 rfl f1) (.list (putf hp2 hfd) fun sl hsl=>?_)
  rw [cut_tail]
  have hslH:=hex2.nn0 (pnone hsl)
  have hfs:fd≠sl:=ne_of pself hsl
  have nf:∀j r:Nat,acc[j]?=some (V.ref r)→r≠fd:=fun j r e=>ne_of (hh2.of e).1 hfd
  refine iOvL pself (by rw [List.length_drop,hh2.len];exact lz [_,_] [] 153353872431864779062015781173849399784543552 rfl f1 (Nat.sub_add_cancel (lz [_] [] 27609664 rfl))) (.iFor (I_p_syms H a l acc hp fd sl) (fun i v m H4 hv hI=>?_) (fun m H4 hI=>?_) fun R z=>z _ none ((hex2.put1 hfd).put1 hsl) pself ((hh2.grow hfd).grow hsl) (putn pself hfs))
  ·refine hI (fun m=>_∧wSs _ _ (m.set _ _) _ _ _) fun v0 w0 hex4 hsl4 hh4 hfd4=>⟨hsl4,?_⟩
   rw [List.getElem?_drop]at hv
   have hi:=hh4.lt hv
   refine hh4.at_ (1+i) hi _ fun r h1 h2 h3=>?_
   obtain rfl:=sI (hv.symm.trans h1)
   have h2l:=heap_le l l.length (1+i)
   have h1l:=Nat.le_trans (flat_le l i) (Nat.mul_le_mul f2 (show i≤10 by exact lz [_,_] [] 973528377298726592161602112 rfl f1 hi))
   refine iApL hfd4 (iExtL hfd4 h2 (nf _ _ hv).symm (by rw [ints_len,ints_len];exact lz [_,_,_] [] 43165636844044433780358517327080190499279061008053692482945 rfl f2 h2l h1l) (iX ?_))
   refine fun R z=>z _ _ (hex4.new hfdH) (putn hsl4 hfs.symm) (hh4.up fun j r e h=>putn h (nf _ _ e)) ?_
   rw [List.range_succ,List.flatMap_append,List.flatMap_cons,List.flatMap_nil,List.append_nil,Nat.add_comm i 1]
   exact putL (ints_app _ _).symm
  ·refine hI (fun m=>_∧kSeq _ _ _ _ m _) fun v0 w0 hex4 hsl4 hh4 hfd4=>⟨hsl4,h H4 fd hex4 hfdH ?_⟩
   rw [List.length_drop,hh2.len]at hfd4;exact hfd4
end
section
inductive Rd(α:Type) where
 |ok (a:α)(pos:Nat)
 |fault
 |stuck
section
variable {α β:Type}
noncomputable def Rd.wp(r:Rd α)(K:α→Nat→Prop)(F:Prop):Prop:=match r with
 | .ok a p=>K a p
 | .fault=>F
 | .stuck=>False
noncomputable def Rd.bind(r:Rd α)(f:α→Nat→Rd β):Rd β:=match r with
 | .ok a p=>f a p
 | .fault=>.fault
 | .stuck=>.stuck
theorem Rd.wp_bind{r:Rd α}{f:α→Nat→Rd β}{K:β→Nat→Prop}{F:Prop}(h:(r.bind f).wp K F):r.wp (fun a p=>(f a p).wp K F) F:=by cases r <;> exact h
theorem Rd.wp_mono{r:Rd α}{K K':α→Nat→Prop}{F F':Prop}(h:r.wp K F)(k:∀a p,K a p→K' a p)(f:F→F'):r.wp K' F':=by
 cases r with
 |ok a p=>exact k a p h
 |fault=>exact f h
 |stuck=>exact h
theorem Rd.abs{r:Rd α}{K:α→Nat→Prop}{F G:Prop}(h:r.wp K F)(k:∀(K':α→Nat→Prop) (F':Prop),(∀a p,K' a p→K a p)→(F'→F)→r.wp K' F'→G):G:=k K F (fun _ _ z=>z) id h
theorem Rd.wp_if{c:Prop}[Decidable c]{a b:Rd α}{K:α→Nat→Prop}{F:Prop}(h:(if c then a else b).wp K F):(c→a.wp K F)∧(¬c→b.wp K F):=⟨fun q=>by rwa [if_pos q]at h,fun q=>by rwa [if_neg q]at h⟩
end
noncomputable def takeB(D:List Bool)(pos n:Nat):Rd Nat:=if pos+n≤D.length then .ok (val (slice D pos n)) (pos+n) else .fault
theorem cTake.of{x d:Nat}{data:List Nat}{pos n:Nat}{H:Hp}{Q:QV}{X:QX}{K:Nat→Nat→Prop}{F:Prop}(h:BI H x d data pos)(h0:n≤1000)(hw:(takeB (bBits data) pos n).wp K F)(h1:∀v,v<2^n→K v (pos+n)→∀H',Ex [d] H H'→BI H' x d data (pos+n)→Q (.int v) H')(h2:F→X H):cTake [.ref x,.int n] H Q X:=by
 obtain ⟨a,b⟩:=Rd.wp_if hw
 rw [bytes_len]at a b
 refine .mk h h0 (fun q=>h1 _ ?_ (a q)) fun q=>h2 (b q)
 have:=val_lt (slice (bBits data) pos n)
 rwa [slice_len (by rw [bytes_len];exact q)]at this
theorem BI.fresh{H:Hp}{x d a:Nat}{data:List Nat}{pos:Nat}(h:BI H x d data pos)(k:H a=none):a≠d:=h.ex _ fun _ _ i _ _ _=>(ne_of i.f k).symm
structure IsDec(H:Hp)(x d t s:Nat)(l:List Nat):Prop where
 i:InstAt H x "Decoder" d [("tally",.ref t),("symbols",.ref s)]
 tl:H t=some (.list (nts (tallyF l)))
 sy:H s=some (.list (nts (symF l)))
theorem IsDec.up{H H':Hp}{x d t s:Nat}{l:List Nat}{S:List Nat}(h:IsDec H x d t s l)(k:Ex S H H')(h1:x∉S)(h2:d∉S)(h3:t∉S)(h4:s∉S):IsDec H' x d t s l:=⟨h.i.up k h1 h2,k _ _ h3 h.tl,k _ _ h4 h.sy⟩
theorem IsDec.upB{H H':Hp}{x d t s xb db:Nat}{l data:List Nat}{pos:Nat}(h:IsDec H x d t s l)(hB:BI H xb db data pos)(hn:d≠db)(k:Ex [db] H H'):IsDec H' x d t s l:=
 h.up k (n1 (hB.flds h.i.i nofun)) (n1 hn) (n1 (hB.flds h.tl nofun)) (n1 (hB.flds h.sy nofun))
noncomputable def cInitD:Con:=fun xs H Q _=>∀R:List V→Prop,(∀x d a l,H x=some (.inst "Decoder" d)→H d=some (.flds [])→H a=some (.list (nts l))→Fix l→(∀H' t s,Ex [d] H H'→H t=none→H s=none→IsDec H' x d t s l→Q .none H')→R [.ref x,.ref a])→R xs
theorem cInitD.mk{x d a:Nat}{l:List Nat}{H:Hp}{Q:QV}{X:QX}(h1:H x=some (.inst "Decoder" d))(h2:H d=some (.flds []))(h3:H a=some (.list (nts l)))(h4:Fix l)(k:∀H' t s,Ex [d] H H'→H t=none→H s=none→IsDec H' x d t s l→Q .none H'):cInitD [.ref x,.ref a] H Q X:=fun _ z=>z _ _ _ _ h1 h2 h3 h4 k
theorem p_initD(C:CT)(ho:Sup C "is_over" cOver)(ht:Sup C "tally_of" cTally)(hs:Sup C "symbols_of" cSyms):Does C t_Decoder_init 6 2 [] cInitD:=fun xs H Q X h=>h _ fun x d a l h1 h2 ha hl h=>by
 refine ⟨rfl,ho _ _ _ _ (cOver.mk ha hl fun H1 x1=>iTb ?_)⟩
 refine ht _ _ _ _ (cTally.mk (x1.at0 ha) hl fun H2 t x2 hn2 ht2=>?_)
 have x02:=x1.trans x2
 refine InstAt.sa ⟨x02.at0 h1,x02.at0 h2⟩ rfl rfl fun i=>?_
 refine hs _ _ _ _ (cSyms.mk (putn (x02.at0 ha) (neO ha h2 nofun)) hl fun H3 s x3 hn3 hs3=>?_)
 have htH:=x1.nn0 hn2
 have hsH:=x02.nn0 (pnone hn3)
 refine (i.up x3 n0 n0).sa rfl rfl fun i=>h _ t s (((x02.mono0.set1 m0).trans x3.mono0).set1 m0) htH hsH ⟨i,?_,?_⟩
 ·exact putn (x3.at0 (putn ht2 (ne_of h2 htH).symm)) (ne_of h2 htH).symm
 ·exact putn hs3 (ne_of h2 hsH).symm
noncomputable def readGo(sy:List Nat)(D:List Bool):List Nat→Nat→Nat→Nat→Nat→Rd Nat
 | [],_,_,_,_=>.fault
 |t::ts,code,first,place,pos=>(takeB D pos 1).bind fun b p=>
   if 2*code+b<first+t then
    (if first≤2*code+b then
     (match sy[place+(2*code+b)-first]? with
      |some s=>.ok s p
      |none=>.stuck)
    else .stuck)
   else readGo sy D ts (2*code+b) (2*(first+t)) (place+t) p
@[irreducible] noncomputable def readSym(l:List Nat)(D:List Bool)(pos:Nat):Rd Nat:=readGo (symF l) D ((tallyF l).drop 1) 0 0 0 pos
theorem lit_sy:symF litL=List.range' 256 24++List.range 144++List.range' 280 8++List.range' 144 112:=by decide +kernel
theorem fix_tal{l:List Nat}(h:Fix l):(∀x∈(tallyF l).drop 1,x≤300)∧(symF l).length≤300:=h.elim (P:=fun l=>(∀x∈(tallyF l).drop 1,x≤300)∧(symF l).length≤300) (by rw [lit_sy];decide +kernel) (by decide +kernel)
noncomputable def cRead:Con:=fun xs H Q X=>∀R:List V→Prop,(∀dec dd t s l x d data pos,IsDec H dec dd t s l→Fix l→BI H x d data pos→dd≠d→(readSym l (bBits data) pos).wp (fun v p=>∀H',Ex [d] H H'→BI H' x d data p→Q (.int (v:Nat)) H') (∀H',Ex [d] H H'→X H')→R [.ref dec,.ref x])→R xs
theorem cRead.mk{dec dd t s x d pos:Nat}{l data:List Nat}{H:Hp}{Q:QV}{X:QX}(h1:IsDec H dec dd t s l)(h2:Fix l)(h3:BI H x d data pos)(h4:dd≠d)(k:(readSym l (bBits data) pos).wp (fun v p=>∀H',Ex [d] H H'→BI H' x d data p→Q (.int (v:Nat)) H') (∀H',Ex [d] H H'→X H')):cRead [.ref dec,.ref x] H Q X:=fun _ z=>z _ _ _ _ _ _ _ _ _ h1 h2 h3 h4 k
noncomputable def I_p_read(H:Hp)(dec x d:Nat)(data sy ts:List Nat)(sl:Nat)(K:Nat→Nat→Prop)(F:Prop)(i:Nat)(m:M)(H':Hp):Prop:=
 ∀R:M→Prop,(∀code first place p v,Ex [d] H H'→H' sl=some (.list (nts ts))→BI H' x d data p→(readGo sy (bBits data) (ts.drop i) code first place p).wp K F→code<2^i→first≤1000*(2^i-1)→place≤300*i→R [some (.ref dec),some (.ref x),some (.int (code:Nat)),some (.int (first:Nat)),some (.int (place:Nat)),v,none])→R m
theorem p_read(C:CT)(htk:Sup C ("BitsIn"++"."++"take") cTake):Does C t_Decoder_read 7 2 [] cRead:=fun xs H Q X h=>h _ fun dec dd t s l x d data pos hD hl hB hdd h=>by
 obtain ⟨_,_,f3,f4⟩:=fix_room hl
 obtain ⟨g1,g2⟩:=fix_tal hl
 refine Rd.abs h fun K F hK hF h=>⟨rfl,iA (.iAt hD.i rfl) (iSln (k:=1) (by decide) (lenI (by exact lz [_] [] 544822400285713041020988892416 rfl f3)) (.list hD.tl fun sl hsl=>?_))⟩
 rw [cut_tail,ints_drop]
 unfold readSym at h
 have f5:((tallyF l).drop 1).length≤9:=by rw [List.length_drop];exact lz [_,_] [] 232955460287621281256768 rfl f3 (Nat.sub_add_cancel (lz [_] [] 1418557999680 rfl f4))
 generalize (tallyF l).drop 1=ts at *
 refine iOvL pself (lenI (by exact lz [_] [] 544822400285713041020988888320 rfl f5)) (iForN (I_p_read H dec x d data (symF l) ts sl K F) (fun i tk m H' htk' hI=>?_) (fun m H' hI=>?_) fun R z=>z 0 0 0 pos none (.put hsl) pself (hB.up (S:=[]) (.put hsl) n0 n0) h (by decide) (by decide) (by decide))
 ·refine hI (fun m=>_∧wSs _ _ (m.set _ _) _ _ _) fun code first place p v0 hex hsl' hB' hR b1 b2 b3=>⟨hsl',?_⟩
  obtain ⟨hi,e⟩:=List.getElem?_eq_some_iff.mp htk'
  rw [List.drop_eq_getElem_cons hi,e]at hR
  have hR:=Rd.wp_bind hR
  have hpow:2^i≤512:=Nat.pow_le_pow_right (by decide) (show i≤9 by exact lz [_,_] [] 56873891603046286656 rfl f5 hi)
  have hpos:=Nat.two_pow_pos i
  have htk300:=g1 tk (List.mem_of_getElem? htk')
  refine iMul (by decide) (by exact lz [_,_,_] [] 203844069363393547660976948404020302469808205809699733520419104794910660928492929 rfl b1 hpow (Int.natAbs_of_nonneg (lz [_] [] 1395205 rfl))) (hB'.me (fun _ _ _ _=>rfl) (htk _ _ _ _ (cTake.of (n:=1) hB' (by decide) hR (fun b hb hR H2 hx2 hB2=>?_) fun z=>hF z H' hex)))
  obtain ⟨hR1,hR2⟩:=Rd.wp_if hR
  have x2:=hex.trans hx2
  refine iAdd (c:=(2*code+b:Nat)) rfl (iSub rfl (iTr (fun hlt=>?_) fun hge=>?_))
  ·have hR:=Rd.wp_if (hR1 (by exact lz [_,_,_,_] [] 116100188942074772589857790901097155201 rfl hlt))
   by_cases hfc:first≤2*code+b
   ·have hR:=hR.1 hfc
    have hD2:=hD.upB hB hdd x2
    cases q:(symF l)[place+(2*code+b)-first]? with
    |none=>rw [q]at hR;exact hR.elim
    |some sv=>
     rw [q]at hR
     exact iA (.iAt hD2.i rfl) (iAdd rfl (iSub (c:=(place+(2*code+b)-first:Nat)) (by exact lz [_,_,_,_,_] [] 485332974427961173426929064433410601545988658439 rfl (Nat.sub_add_cancel (lz [_,_,_,_] [] 80892351200592934086529950976 rfl hfc))) (iI (by exact lz [_,_,_,_,_,_,_,_] [] 17341058651439992197247436440169790544180064941709618054627040246301158850408588863929335851848547652574511117573138113 rfl f5 b3 hi htk300 hlt (Nat.sub_add_cancel (lz [_,_,_,_] [] 80892351200592934086529950976 rfl hfc))) (.list hD2.sy (ints_get q)) (hK _ _ hR H2 x2 hB2))))
   ·exact (hR.2 hfc).elim
  ·have hR:=hR2 (by exact lz [_,_,_,_] [] 116100188942075679284222501872978184836 rfl hge)
   refine iAdd rfl (iMul (by decide) (by exact lz [_,_,_,_,_,_] [] 270955243772544977393969569296695011549909919966749667582408970649377255966525436655869896331472876408162726593713729 rfl b1 hpow hb hge (Int.natAbs_of_nonneg (lz [_,_,_] [] 1248928016854504709 rfl e))) fun R z=>z (2*code+b) (2*(first+tk)) (place+tk) (p+1) _ x2 (hx2 _ _ (n1 (hB.fresh hsl)) hsl') hB2 hR ?_ ?_ ?_)
   ·rw [Nat.pow_succ];exact lz [_,_,_] [] 210856412048814395801741993345 rfl b1 hb
   ·rw [Nat.pow_succ];exact lz [_,_,_,_,_,_] [] 81758881113925375902971110267182279226234647032108632327149537909229370646834255498420503924086336 rfl b1 hpos hb hge (Nat.sub_add_cancel (lz [_] [] 749086481926656 rfl hpos))
   ·exact lz [_,_,_] [] 45174960328162282451522671683212782425294208 rfl b3 htk300
 ·refine hI (fun m=>_∧kSeq _ _ _ _ m _) fun code first place p v0 hex hsl' hB' hR b1 b2 b3=>⟨hsl',hB'.at fun a=>?_⟩
  rw [List.drop_length]at hR;exact hF hR H' hex
end
noncomputable def turnF(v n:Nat):Nat:=(List.range n).foldl (fun t k=>t*2^1|||(v/2^k&&&1)) 0
theorem turn_s(v n:Nat):turnF v (n+1)=turnF v n*2^1|||(v/2^n&&&1):=by unfold turnF;rw [List.range_succ,List.foldl_append];rfl
theorem turn_lt(v:Nat):∀n,turnF v n<2^n
 |0=>Nat.one_pos
 |n+1=>by
  have ih:=turn_lt v n
  have h:v/2^n&&&1≤1:=Nat.and_le_right
  have:=Nat.two_pow_pos n
  rw [turn_s]
  refine Nat.or_lt_two_pow ?_ ?_ <;> rw [Nat.pow_succ]
  ·exact Nat.mul_lt_mul_of_pos_right ih (by decide)
  ·exact Nat.lt_of_le_of_lt h (by exact lz [_] [] 749086481926657 rfl this)
noncomputable def cTurn:Con:=fun xs H Q _=>∀R:List V→Prop,(∀v n:Nat,n≤16→Q (.int (turnF v n:Nat)) H→R [.int v,.int n])→R xs
theorem cTurn.mk{v n:Nat}{H:Hp}{Q:QV}{X:QX}(h:n≤16)(k:Q (.int (turnF v n:Nat)) H):cTurn [.int v,.int n] H Q X:=fun _ z=>z _ _ h k
theorem p_turn(C:CT):Does C t_turned_about 5 2 [] cTurn:=fun xs H Q X h=>h _ fun v n hn h=>by
 refine ⟨rfl,(⟨by show n<_;exact lz [_] [] 37440242538273447829619739148132041590017 rfl hn,?_⟩:okR n∧_)⟩
 refine iForR (fun i m H'=>∃w,H'=H∧m=[some (.int v),some (.int n),some (.int (turnF v i:Nat)),w,none]) (fun i m H' hi hI=>?_) (fun m H' hI=>?_) ⟨none,rfl,rfl⟩
 ·obtain ⟨w,rfl,rfl⟩:=hI
  have ht:=Nat.lt_of_lt_of_le (turn_lt v i) (Nat.pow_le_pow_right (by decide) (show i≤16 by exact lz [_,_] [] 64944342616330552640 rfl hn hi):_≤2^16)
  refine ⟨trivial,iShl (b:=1) (by decide) (by exact lz [_] [] 176806546281661712949493648828359472551838461372519788243494145 rfl ht) (iShr (iAnd (b:=1) (iOr ⟨some (.int i),rfl,by rw [turn_s];rfl⟩)))⟩
 ·obtain ⟨w,rfl,rfl⟩:=hI
  exact ⟨trivial,h⟩
noncomputable def turnedF(l:List Nat):List Nat:=(List.range l.length).map fun s=>turnF ((codesF l).getD s 0) (l.getD s 0)
structure IsEnc(H:Hp)(x d a b:Nat)(l:List Nat):Prop where
 i:InstAt H x "Encoder" d [("lengths",.ref a),("turned",.ref b)]
 le:H a=some (.list (nts l))
 tu:H b=some (.list (nts (turnedF l)))
theorem IsEnc.up{H H':Hp}{x d t s:Nat}{l:List Nat}{S:List Nat}(h:IsEnc H x d t s l)(k:Ex S H H')(h1:x∉S)(h2:d∉S)(h3:t∉S)(h4:s∉S):IsEnc H' x d t s l:=⟨h.i.up k h1 h2,k _ _ h3 h.le,k _ _ h4 h.tu⟩
theorem codes_len(l:List Nat):(codesF l).length=l.length:=by unfold codesF;rw [(stepC_len l _).2];exact Nat.zero_add _
noncomputable def cInitE:Con:=fun xs H Q _=>∀R:List V→Prop,(∀x d a l,H x=some (.inst "Encoder" d)→H d=some (.flds [])→H a=some (.list (nts l))→Fix l→(∀H' t s,Ex [d] H H'→H t=none→H s=none→IsEnc H' x d t s l→Q .none H')→R [.ref x,.ref a])→R xs
theorem cInitE.mk{x d a:Nat}{l:List Nat}{H:Hp}{Q:QV}{X:QX}(h1:H x=some (.inst "Encoder" d))(h2:H d=some (.flds []))(h3:H a=some (.list (nts l)))(h4:Fix l)(k:∀H' t s,Ex [d] H H'→H t=none→H s=none→IsEnc H' x d t s l→Q .none H'):cInitE [.ref x,.ref a] H Q X:=fun _ z=>z _ _ _ _ h1 h2 h3 h4 k
theorem fix_at{l:List Nat}(hl:Fix l){s:Nat}(h:s<l.length):0<l.getD s 0∧l.getD s 0≤9∧s<288:=
 have hm:=List.mem_of_getElem? (getD_get h)
 ⟨(fix_mx hl).2.2 _ hm,Nat.le_trans (mx_ge hm) (fix_mx hl).1,Nat.lt_of_lt_of_le h (fix_mx hl).2.1⟩
theorem p_initE(C:CT)(hc:Sup C "codes_of" cCodes)(ht:Sup C "turned_about" cTurn):DoesC C t_Encoder_init 7 2 [2,1] [] cInitE:=fun xs H Q X h=>h _ fun x d a l h1 h2 ha hl h=>by
 refine ⟨rfl,fun c hc0 c' hc'=>?_⟩
 have f2:=(fix_mx hl).2.1
 have x0:Ex [] H ((H.put c (.cell none)).put c' (.cell (some (.ref a)))):=(Ex.put hc0).put1 hc'
 have k5:((H.put c (.cell none)).put c' (.cell (some (.ref a)))) c'=_:=pself
 have k4:((H.put c (.cell none)).put c' (.cell (some (.ref a)))) c=_:=putf pself hc'
 refine iCel k5 (iLoL (x0.at0 ha) (lenI (by exact lz [_] [] 2231592551570280616021969770595584 rfl f2)) fun r hr=>?_)
 refine InstAt.sa ⟨putf (x0.at0 h1) hr,putf (x0.at0 h2) hr⟩ rfl rfl fun i=>?_
 have cd:=(ne_of h2 hc0).symm
 have cd':=(ne_of h2 (pnone hc')).symm
 have rd:=(ne_of (x0.at0 h2) hr).symm
 have up:∀{b o},((H.put c (.cell none)).put c' (.cell (some (.ref a)))) b=some o→b≠d→((((H.put c (.cell none)).put c' (.cell (some (.ref a)))).put r (.list (nts l))).put d (.flds [("lengths",.ref r)])) b=some o:=fun e n=>putn (putf e hr) n
 have m4:=up k4 cd
 have m5:=up k5 cd'
 have m6:((((H.put c (.cell none)).put c' (.cell (some (.ref a)))).put r (.list (nts l))).put d (.flds [("lengths",.ref r)])) r=some (.list (nts l)):=putn pself rd
 refine iCel m5 (hc _ _ _ _ (cCodes.mk (up (x0.at0 ha) (neO ha h2 nofun)) hl fun H2 t x2 htn ht2=>iAc (x2.at0 m4) ?_))
 have x1:Ex [d] H H2:=((x0.put1 hr).mono0.set1 m0).trans x2.mono0
 have tc:=(ne_of m4 htn).symm
 have td:=(ne_of i.f htn).symm
 have cc:c'≠c:=(ne_of pself hc').symm
 have n2:InstAt (H2.put c (.cell (some (.ref t)))) x "Encoder" d _:=⟨putn (x2.at0 i.i) (ne_of h1 hc0),putn (x2.at0 i.f) cd.symm⟩
 have n3:(H2.put c (.cell (some (.ref t)))) a=some (.list (nts l)):=putn (x1 _ _ (n1 (neO ha h2 nofun)) ha) (ne_of ha hc0)
 have n4:(H2.put c (.cell (some (.ref t)))) c=_:=pself
 have n5:(H2.put c (.cell (some (.ref t)))) c'=_:=putn (x2.at0 m5) cc
 have n6:(H2.put c (.cell (some (.ref t)))) r=_:=putn (x2.at0 m6) (ne_of k4 hr).symm
 have n7:(H2.put c (.cell (some (.ref t)))) t=_:=putn ht2 tc
 have x3:Ex [d] H (H2.put c (.cell (some (.ref t)))):=x1.new hc0
 generalize H2.put c (.cell (some (.ref t)))=H3 at *
 refine ⟨rfl,by decide,iCel n5 (iL (.list n3) (lenI (by exact lz [_] [] 2231592551570280616021969770595584 rfl f2)) ⟨by rw [ints_len];show l.length<_;exact lz [_] [] 153355233436768042310122451550748841519301889 rfl f2,?_⟩)⟩
 rw [ints_len]
 refine iCompR (fun i acc H'=>H3=H'∧acc=nts ((List.range i).map fun s=>turnF ((codesF l).getD s 0) (l.getD s 0))) (fun i acc H' hi hI=>?_) (fun acc H' hI=>?_) ⟨rfl,rfl⟩
 ·obtain ⟨rfl,rfl⟩:=hI
  refine ⟨trivial,by rw [ints_len,List.length_map,List.length_range];exact lz [_,_] [] 37440221794426646764432228786840501830977 rfl f2 hi,?_⟩
  refine iCel n4 (iI (by exact lz [_,_] [] 153354552768117284732366072301986643970442561 rfl f2 hi) (itN n7 (by rw [codes_len];exact hi)) (iCel n5 (iI (by exact lz [_,_] [] 153354552768117284732366072301986643970442561 rfl f2 hi) (itN n3 hi) (ht _ _ _ _ (cTurn.mk (Nat.le_trans (fix_at hl hi).2.1 (by decide)) ⟨rfl,?_⟩)))))
  rw [List.range_succ,List.map_append,ints_app];rfl
 ·obtain ⟨rfl,rfl⟩:=hI
  refine ⟨trivial,fun r2 hr2=>InstAt.sa ⟨putf n2.i hr2,putf n2.f hr2⟩ rfl rfl fun i=>?_⟩
  exact h _ r r2 ((x3.put1 hr2).set1 m0) (x0.nn0 hr) (x3.nn (n1 (ne_of n2.f hr2).symm) hr2) ⟨i,putn (putf n6 hr2) rd,putn pself (ne_of n2.f hr2).symm⟩
noncomputable def codeBits(l:List Nat)(s:Nat):List Bool:=bitsLE ((turnedF l).getD s 0) (l.getD s 0)
theorem turned_get{l:List Nat}{s:Nat}(h:s<l.length):(turnedF l)[s]?=some ((turnedF l).getD s 0)∧(turnedF l).getD s 0<2^(l.getD s 0):=by
 have e:(turnedF l)[s]?=some (turnF ((codesF l).getD s 0) (l.getD s 0)):=by
  unfold turnedF
  rw [List.getElem?_map,List.getElem?_range h];rfl
 have e2:(turnedF l).getD s 0=turnF ((codesF l).getD s 0) (l.getD s 0):=by rw [List.getD_eq_getElem?_getD,e];rfl
 rw [e2];exact ⟨e,turn_lt _ _⟩
noncomputable def cPutE:Con:=fun xs H Q _=>∀R:List V→Prop,(∀e de a b l x d m bs,∀s:Nat,IsEnc H e de a b l→Fix l→BO H x d m bs→bs.length≤900000→s<l.length→(∀H',Ex [d,m] H H'→BO H' x d m (bs++codeBits l s)→Q .none H')→R [.ref e,.ref x,.int s])→R xs
theorem cPutE.mk{e de a b x d m s:Nat}{l:List Nat}{bs:List Bool}{H:Hp}{Q:QV}{X:QX}(h1:IsEnc H e de a b l)(h2:Fix l)(h3:BO H x d m bs)(h4:bs.length≤900000)(h5:s<l.length)(k:∀H',Ex [d,m] H H'→BO H' x d m (bs++codeBits l s)→Q .none H'):cPutE [.ref e,.ref x,.int s] H Q X:=fun _ z=>z _ _ _ _ _ _ _ _ _ _ h1 h2 h3 h4 h5 k
theorem p_putE(C:CT)(hp:Sup C ("BitsOut"++"."++"put") cPut):Does C t_Encoder_put 5 3 [] cPutE:=fun xs H Q X h=>h _ fun e de a b l x d m bs s hE hl hB hbs hs h=>by
 obtain ⟨h0,h9,h28⟩:=fix_at hl hs
 obtain ⟨tg,tl⟩:=turned_get hs
 have hln:=(fix_mx hl).2.1
 refine ⟨rfl,iTf nneg (iA (.iAt hE.i rfl) (iL (.list hE.le) (lenI (by exact lz [_] [] 2231592551570280616021969770595584 rfl hln)) (iTf (fun z=>?_) (iA (.iAt hE.i rfl) (iI (by exact lz [_] [] 9140643642432527824185252169843426561 rfl h28) (itN hE.le hs) (iTf (fun z=>?_) ?_))))))⟩
 ·rw [ints_len]at z;exact Nat.not_le.mpr hs (Int.ofNat_le.mp z)
 ·exact Nat.ne_of_gt h0 (Int.ofNat_inj.mp z)
 ·exact hB.me (fun _ _ _=>rfl) (iA (.iAt hE.i rfl) (iI (by exact lz [_] [] 9140643642432527824185252169843426561 rfl h28) (.list hE.tu (ints_get tg)) (iA (.iAt hE.i rfl) (iI (by exact lz [_] [] 9140643642432527824185252169843426561 rfl h28) (itN hE.le hs) (hp _ _ _ _ (cPut.mk hB tl (by exact lz [_] [] 3869910701312 rfl h9) (by exact lz [_] [] 37439910226176135924692460658137290417408 rfl hbs) fun H' hex hB'=>iX (h H' hex hB')))))))
section
section
variable {Q:QV}{H:Hp}{r a b k n:Nat}
theorem iRepN(h:H r=some (.list [.int (k:Nat)]))(hn:n≤1000000)(q:∀H' r',Ex [] H H'→H r'=none→H' r'=some (.list (nts (List.replicate n k)))→Q (.ref r') H'):WBin Q H .mul (.ref r) (.int n):=
 iRep h (Nat.le_trans hn (by decide)) fun r' hr'=>q _ _ (.put hr') hr' (putL (ints_rep n k))
theorem iCatN{xs ys:List Nat}(ha:H a=some (.list (nts xs)))(hb:H b=some (.list (nts ys)))(hl:xs.length+ys.length≤16777216)(q:∀H' r,Ex [] H H'→H r=none→H' r=some (.list (nts (xs++ys)))→Q (.ref r) H'):WBin Q H .add (.ref a) (.ref b):=
 iCatL ha hb (by rwa [ints_len,ints_len]) fun r hr=>q _ _ (.put hr) hr (putL (ints_app xs ys).symm)
end
noncomputable def cFixed:Con:=fun xs H Q _=>∀R:List V→Prop,((∀H' t a b,Ex [] H H'→H t=none→H a=none→H b=none→H' t=some (.tuple [.ref a,.ref b])→H' a=some (.list (nts litL))→H' b=some (.list (nts dstL))→Q (.ref t) H')→R [])→R xs
theorem cFixed.mk{H:Hp}{Q:QV}{X:QX}(k:∀H' t a b,Ex [] H H'→H t=none→H a=none→H b=none→H' t=some (.tuple [.ref a,.ref b])→H' a=some (.list (nts litL))→H' b=some (.list (nts dstL))→Q (.ref t) H'):cFixed [] H Q X:=fun _ z=>z k
theorem p_fixed(C:CT):Does C t_fixed_lengths 0 0 [] cFixed:=fun xs H Q X h=>h _ fun h=>by
 refine ⟨rfl,fun s1 k1=>iRepN (k:=8) (n:=144) pself (by decide) fun H1 r1 x1 n1 e1=>?_⟩
 refine fun s2 k2=>iRepN (k:=9) (n:=112) pself (by decide) fun H2 r2 x2 n2 e2=>?_
 refine iCatN (x2.at0 (putf e1 k2)) e2 (by decide) fun H3 r3 x3 n3 e3=>?_
 refine fun s4 k4=>iRepN (k:=7) (n:=24) pself (by decide) fun H4 r4 x4 n4 e4=>?_
 refine iCatN (x4.at0 (putf e3 k4)) e4 (by decide) fun H5 r5 x5 n5 e5=>?_
 refine fun s6 k6=>iRepN (k:=8) (n:=8) pself (by decide) fun H6 r6 x6 n6 e6=>?_
 refine iCatN (x6.at0 (putf e5 k6)) e6 (by decide) fun H7 r7 x7 n7 e7=>?_
 refine fun s8 k8=>iRepN (k:=5) (n:=32) pself (by decide) fun H8 r8 x8 n8 e8=>fun t ht=>?_
 have x06:=((Ex.put k1).trans x1).trans (((Ex.put k2).trans x2).trans (x3.trans (((Ex.put k4).trans x4).trans (x5.trans ((Ex.put k6).trans x6)))))
 have x7':=(x06.trans x7).put1 (o:=.list [.int 5]) k8
 have x08:=x7'.trans x8
 exact h _ t r7 r8 (x08.put1 ht) (x08.nn0 ht) (x06.nn0 n7) (x7'.nn0 n8) pself (putf (x8.at0 (putf e7 k8)) ht) (putf e8 ht)
noncomputable def lenX(k n:Nat):List Nat:=(List.range n).map fun p=>p/k-1
noncomputable def baseF(k b0 p:Nat):Nat:=(List.range p).foldl (fun b q=>b+2^(q/k-1)) b0
noncomputable def lenB(k b0 n:Nat):List Nat:=(List.range n).map fun p=>baseF k b0 p
noncomputable def rowsBody(k:Int):MSs:=(.cons (.asg 4 (.max2 (.bin .sub (.bin .fdiv (.loc 3) (.cst (.int k))) (.cst (.int 1))) (.cst (.int 0))))
 (.cons (.expr (.app (.loc 0) (.loc 2)))
 (.cons (.expr (.app (.loc 1) (.loc 4)))
 (.cons (.aug 2 .add (.bin .shl (.cst (.int 1)) (.loc 4)))
 .nil))))
theorem baseF_succ(k b0 p:Nat):baseF k b0 (p+1)=baseF k b0 p+1*2^(p/k-1):=by
 unfold baseF;rw [List.range_succ,List.foldl_append,Nat.one_mul];rfl
theorem map_snoc{β:Type}(f:Nat→β)(n:Nat):(List.range (n+1)).map f=(List.range n).map f++[f n]:=by rw [List.range_succ,List.map_append];rfl
theorem map_len{β:Type}(f:Nat→β)(n:Nat):((List.range n).map f).length=n:=by rw [List.length_map,List.length_range]
theorem max_pred:∀n:Nat,max ((n:Int)-1) 0=((n-1:Nat):Int)
 |0=>rfl
 |n+1=>(congrArg (max · 0) (Int.add_sub_cancel (n:Int) 1)).trans (Int.max_eq_left (Int.natCast_nonneg n))
noncomputable def I_rows(kn b0 a b:Nat)(H0:Hp)(i:Nat)(m:M)(H':Hp):Prop:=
 ∀R:M→Prop,(∀v w,Ex [] H0 H'→H' a=some (.list (nts (lenB kn b0 i)))→H' b=some (.list (nts (lenX kn i)))→R [some (.ref a),some (.ref b),some (.int (baseF kn b0 i:Nat)),v,w,none,none])→R m
theorem rows_loop(C:CT){kn b0 n a b:Nat}(hk:0<kn)(hk2:kn<100)(hn:n≤40){H0 H:Hp}{X:QX}{Q:QS}(ha:H0 a=none)(hb:H0 b=none)(hab:a≠b)(hex:Ex [] H0 H)(h1:H a=some (.list []))(h2:H b=some (.list []))
  (h:∀H' v w,Ex [] H0 H'→H' a=some (.list (nts (lenB kn b0 n)))→H' b=some (.list (nts (lenX kn n)))→Q .next [some (.ref a),some (.ref b),some (.int (baseF kn b0 n:Nat)),v,w,none,none] H') :
  ForI (.one 3) (rangeL 0 n 1) (fun _=>True) (wSs C (rowsBody kn)) Q X [some (.ref a),some (.ref b),some (.int (b0:Nat)),none,none,none,none] H:=by
 refine iForR (I_rows kn b0 a b H0) (fun i m H' hi hI=>?_) (fun m H' hI=>hI (fun m=>True∧Q .next m _) fun v w hx ha' hb'=>⟨trivial,h H' v w hx ha' hb'⟩) fun R z=>z none none hex h1 h2
 refine hI (fun m=>True∧wSs _ _ (m.set _ _) _ _ _) fun v w hx ha' hb'=>⟨trivial,?_⟩
 have e2:max (((i:Nat):Int)/(kn:Int)-1) 0=((i/kn-1:Nat):Int):=by rw [←Int.natCast_ediv];exact max_pred _
 refine iDiv (Int.ofNat_lt.mpr hk) (by exact lz [_] [] 584998597204917710012900707732754187526 rfl hk2) (iSub rfl (iMM e2 ?_))
 have hq:=Nat.div_le_self i kn
 refine iApL ha' (iAppL ha' (by rw [ints_len,show (lenB kn b0 i).length=i from map_len _ i];exact lz [_,_] [] 37440221794426646764432228856453331764545 rfl hn hi) (iX ?_))
 refine iApL (putn hb' hab.symm) (iAppL (putn hb' hab.symm) (by rw [ints_len,show (lenX kn i).length=i from map_len _ i];exact lz [_,_] [] 37440221794426646764432228856453331764545 rfl hn hi) (iX ?_))
 refine iShl (a:=1) (b:=i/kn-1) (by exact lz [_,_,_,_] [] 153355194349694794350877476828063481773516224 rfl hn hi hq (Nat.sub_le _ _)) (by decide) fun R z=>?_
 have z:=z (some (.int (i:Nat))) (some (.int (i/kn-1:Nat))) ((hx.new ha).new hb) (putn (putL ?_) hab) (putL ?_)
 ·rw [baseF_succ]at z;exact z
 ·unfold lenB;rw [map_snoc,ints_app];rfl
 ·unfold lenX;rw [map_snoc,ints_app];rfl
structure IsRows(H:Hp)(t a b:Nat)(l1 l2:List Nat):Prop where
 t:H t=some (.tuple [.ref a,.ref b])
 a:H a=some (.list (nts l1))
 b:H b=some (.list (nts l2))
theorem IsRows.up{H H':Hp}{t a b:Nat}{l1 l2:List Nat}{S:List Nat}(h:IsRows H t a b l1 l2)(k:Ex S H H')(h1:t∉S)(h2:a∉S)(h3:b∉S):IsRows H' t a b l1 l2:=⟨k _ _ h1 h.t,k _ _ h2 h.a,k _ _ h3 h.b⟩
noncomputable def dB:List Nat:=lenB 2 1 30
noncomputable def dX:List Nat:=lenX 2 30
noncomputable def lB:List Nat:=lenB 4 3 28++[258]
noncomputable def lX:List Nat:=lenX 4 28++[0]
noncomputable def cRows(l1 l2:List Nat):Con:=fun xs H Q _=>∀R:List V→Prop,((∀H' t a b,Ex [] H H'→H t=none→H a=none→H b=none→IsRows H' t a b l1 l2→Q (.ref t) H')→R [])→R xs
theorem cRows.mk{l1 l2:List Nat}{H:Hp}{Q:QV}{X:QX}(k:∀H' t a b,Ex [] H H'→H t=none→H a=none→H b=none→IsRows H' t a b l1 l2→Q (.ref t) H'):cRows l1 l2 [] H Q X:=fun _ z=>z k
theorem p_drows(C:CT):Does C t_distance_rows 7 0 [] (cRows dB dX):=fun xs H Q X h=>h _ fun h=>by
 refine ⟨rfl,fun a ha b hb=>⟨by decide,?_⟩⟩
 have hab:=ne_of pself hb
 refine rows_loop C (kn:=2) (b0:=1) (n:=30) (by decide) (by decide) (by decide) ha (pnone hb) hab ((Ex.put ha).put1 hb) (putn pself hab) pself fun H' v w hx h1 h2=>?_
 exact fun t ht=>h _ t a b (hx.put1 ht) (hx.nn0 ht) ha (pnone hb) ⟨pself,putf h1 ht,putf h2 ht⟩
theorem p_lrows(C:CT):Does C t_length_rows 7 0 [] (cRows lB lX):=fun xs H Q X h=>h _ fun h=>by
 refine ⟨rfl,fun a ha b hb=>⟨by decide,?_⟩⟩
 have hab:=ne_of pself hb
 refine rows_loop C (kn:=4) (b0:=3) (n:=28) (by decide) (by decide) (by decide) ha (pnone hb) hab ((Ex.put ha).put1 hb) (putn pself hab) pself fun H' v w hx h1 h2=>?_
 refine fun r1 hr1=>iCatN (ys:=[258]) (putf h1 hr1) pself (by decide) fun H2 r2 x2 n2 e2=>?_
 refine fun r3 hr3=>iCatN (ys:=[0]) (putf (x2.at0 (putf h2 hr1)) hr3) pself (by decide) fun H4 r4 x4 n4 e4=>?_
 have y1:=hx.put1 (o:=.list [.int 258]) hr1
 have y2:=(y1.trans x2).put1 (o:=.list [.int 0]) hr3
 exact fun t ht=>h _ t r2 r4 ((y2.trans x4).put1 ht) ((y2.trans x4).nn0 ht) (y1.nn0 n2) (y2.nn0 n4) ⟨pself,putf (x4.at0 (putf e2 hr3)) ht,putf e4 ht⟩
end
noncomputable def adlS(s:Nat×Nat)(x:Nat):Nat×Nat:=((s.1+x)%65521,(s.2+(s.1+x)%65521)%65521)
noncomputable def adlF(b:List Nat):Nat:=(b.foldl adlS (1,0)).2*65536+(b.foldl adlS (1,0)).1
noncomputable def cAdler:Con:=fun xs H Q _=>∀R:List V→Prop,(∀b,b.length≤1000000→Q (.int (adlF b:Nat)) H→R [.bytes b])→R xs
theorem cAdler.mk{b:List Nat}{H:Hp}{Q:QV}{X:QX}(h:b.length≤1000000)(k:Q (.int (adlF b:Nat)) H):cAdler [.bytes b] H Q X:=fun _ z=>z _ h k
theorem adl_lt' :∀(b:List Nat) (s:Nat×Nat),s.1<65521∧s.2<65521→(b.foldl adlS s).1<65521∧(b.foldl adlS s).2<65521
 | [],_,h=>h
 |x::b,s,_=>adl_lt' b _ ⟨Nat.mod_lt _ (by decide),Nat.mod_lt _ (by decide)⟩
theorem adl_lt(b:List Nat):(b.foldl adlS (1,0)).1<65521∧(b.foldl adlS (1,0)).2<65521:=adl_lt' b _ (by decide)
theorem p_adler(C:CT):Does C t_adler 5 1 [] cAdler:=fun xs H Q X h=>h _ fun b hb h=>by
 refine ⟨rfl,iOvB (by exact lz [_] [] 153353872431864779061713500790718239766394112 rfl hb) (iForN (fun i m H'=>∀R:M→Hp→Prop,(∀v,R [some (.bytes b),some (.int (((b.take i).foldl adlS (1,0)).1:Nat)),some (.int (((b.take i).foldl adlS (1,0)).2:Nat)),v,none] H)→R m H') (fun i x m H' hx hI=>?_) (fun m H' hI=>?_) fun R z=>z none)⟩
 ·refine hI (fun m H'=>True∧wSs _ _ (m.set _ _) H' _ _) fun v=>⟨trivial,iAdd rfl (iMod (by decide) (iAdd rfl (iMod (by decide) fun R z=>?_)))⟩
  have z:=z (some (.int (x:Nat)))
  rw [foldl_snoc adlS _ hx]at z;exact z
 ·refine hI (fun m H'=>True∧kSeq _ _ _ _ m H') fun v=>⟨trivial,?_⟩
  have:=(adl_lt b).2
  rw [List.take_length]
  exact iMul (by exact lz [_,_] [] 203844069363393547660976948404020302469808205809694662634214664360153983688398145 rfl this (Int.natAbs_of_nonneg (lz [_] [] 1395205 rfl))) (by decide) (iAdd rfl h)
noncomputable def frameOk(b:List Nat):Bool:=decide (2≤b.length∧(256*b.getD 0 0+b.getD 1 0)%31=0∧b.getD 0 0%16=8∧b.getD 0 0/16≤7∧b.getD 1 0/32%2≠1)
noncomputable def cFrame:Con:=fun xs H Q X=>∀R:List V→Prop,(∀b,b.length≤100000→(∀c∈b,c<256)→(frameOk b=true→Q .none H)→(frameOk b=false→X H)→R [.bytes b])→R xs
theorem cFrame.mk{b:List Nat}{H:Hp}{Q:QV}{X:QX}(h:b.length≤100000)(h2:∀c∈b,c<256)(k:frameOk b=true→Q .none H)(k2:frameOk b=false→X H):cFrame [.bytes b] H Q X:=fun _ z=>z _ h h2 k k2
theorem itB{H:Hp}{i:Nat}{b:List Nat}(hi:i<b.length):It H i (.bytes b) (.int (b.getD i 0:Nat)):=.bytes (getD_get hi)
theorem p_frame(C:CT):Does C t_check_frame 3 1 [] cFrame:=fun xs H Q X h=>h _ fun b hb hby h1 h2=>by
 have h1:=fun p=>h1 (decide_eq_true p)
 have h2:=fun p=>h2 (decide_eq_false p)
 have hl:b.length≤16777216:=Nat.le_trans hb (by decide)
 refine ⟨rfl,iL (.bytes _) hl (iTr (fun q=>iL (.bytes _) hl (h2 fun p=>Nat.not_le.mpr (Int.ofNat_lt.mp q) p.1)) fun q=>?_)⟩
 have q1:2≤b.length:=Int.ofNat_le.mp (Int.not_lt.mp q)
 have i0:It H 0 (.bytes b) _:=itB (Nat.lt_of_lt_of_le (by decide) q1)
 have i1:It H 1 (.bytes b) _:=itB q1
 have b0:=hby _ (List.mem_of_getElem? (getD_get (l:=b) (i:=0) (Nat.lt_of_lt_of_le (by decide) q1)))
 generalize b.getD 0 0=x at *
 generalize b.getD 1 0=y at *
 refine iI (n:=0) (by decide) i0 (iMul (by decide) (by exact lz [_,_] [] 12150053343975159386454638743640202431071293700319210449209231676082771265 rfl b0 (Int.natAbs_of_nonneg (lz [_] [] 1395205 rfl))) (iI (n:=1) (by decide) i1 (iAdd (c:=(256*x+y:Nat)) rfl (iMod (by decide) (iTr (fun q=>h2 fun p=>q (congrArg Nat.cast p.2.1)) fun q=>?_)))))
 have q2:(256*x+y)%31=0:=Int.ofNat_inj.mp (Classical.not_not.mp q)
 refine iI (n:=0) (by decide) i0 (iMod (by decide) (iOrB (fun q=>?_) fun q=>iTb (h2 fun p=>q (congrArg Nat.cast p.2.2.1))))
 have q3:x%16=8:=Int.ofNat_inj.mp (Classical.not_not.mp q)
 refine iI (n:=0) (by decide) i0 (iDiv (by decide) (by decide) (iTr (fun q=>h2 fun p=>Int.not_le.mpr q (Int.ofNat_le.mpr p.2.2.2.1)) fun q=>?_))
 have q4:x/16≤7:=Int.ofNat_le.mp (Int.not_lt.mp q)
 refine iI (n:=1) (by decide) i1 (iDiv (by decide) (by decide) (iMod (by decide) (iTr (fun q=>h2 fun p=>p.2.2.2.2 (Int.ofNat_inj.mp q)) fun q=>h1 ⟨q1,q2,q3,q4,fun p=>q (congrArg Nat.cast p)⟩)))
noncomputable def beF(b:List Nat):Nat:=b.foldl (fun t x=>256*t+x) 0
noncomputable def cSum:Con:=fun xs H Q X=>∀R:List V→Prop,(∀data,∀a:Nat,∀o,data.length≤100000→(∀c∈data,c<256)→o.length≤1000000→a≤100000→(a+4≤data.length∧beF ((data.drop a).take 4)=adlF o→Q .none H)→(¬(a+4≤data.length∧beF ((data.drop a).take 4)=adlF o)→X H)→R [.bytes data,.int a,.bytes o])→R xs
theorem cSum.mk{data o:List Nat}{a:Nat}{H:Hp}{Q:QV}{X:QX}(h1:data.length≤100000)(h2:∀c∈data,c<256)(h3:o.length≤1000000)(h4:a≤100000)(k:a+4≤data.length∧beF ((data.drop a).take 4)=adlF o→Q .none H)(k2:¬(a+4≤data.length∧beF ((data.drop a).take 4)=adlF o)→X H):cSum [.bytes data,.int a,.bytes o] H Q X:=fun _ z=>z _ _ _ h1 h2 h3 h4 k k2
theorem beF_lt' :∀(b:List Nat) (t k:Nat),(∀c∈b,c<256)→t<256^k→b.foldl (fun t x=>256*t+x) t<256^(k+b.length)
 | [],_,_,_,h=>h
 |x::b,t,k,hb,h=>by
  have:=beF_lt' b (256*t+x) (k+1) (fun c hc=>hb c (.tail _ hc)) (by have:=hb x (.head _);rw [Nat.pow_succ];exact lz [_,_,_] [] 47305572167506726255665382946183981339682177 rfl h this)
  rwa [Nat.add_assoc,Nat.add_comm 1]at this
theorem beF_lt(b:List Nat)(h:∀c∈b,c<256):beF b<256^b.length:=by have:=beF_lt' b 0 0 h (by decide);rwa [Nat.zero_add]at this
theorem p_sum(C:CT)(ha:Sup C "adler" cAdler):Does C t_check_sum 8 3 [] cSum:=fun xs H Q X h=>h _ fun data a o hd hby ho haa h1 h2=>by
 have hl:data.length≤16777216:=Nat.le_trans hd (by decide)
 refine ⟨rfl,iL (.bytes _) hl (iAdd (c:=(a+4:Nat)) rfl (iTr (fun q=>iL (.bytes _) hl (h2 fun z=>Nat.not_le.mpr (Int.ofNat_lt.mp q) z.1)) fun q=>?_))⟩
 have q:a+4≤data.length:=Int.ofNat_le.mp (Int.not_lt.mp q)
 refine iAdd (c:=(a+4:Nat)) rfl (iSlc (by exact lz [_,_] [] 724199614354443714167598223177316029280221292916871702269828289793 rfl hd ‹_›) (by exact lz [_,_] [] 2966321620395801453230482322132632481494261847366987089947902587720961 rfl hd ‹_›) hl (.byt (iOvB ?_ ?_)))
 all_goals rw [show cutL data a (a+4)=(data.drop a).take 4 by unfold cutL;rw [List.drop_take,Nat.add_sub_cancel_left]]
 ·exact Nat.le_trans (List.length_take_le _ _) (by decide)
 have hl4:((data.drop a).take 4).length=4:=by rw [List.length_take,List.length_drop];exact lz [_] [] 194899251479810 rfl (Nat.min_eq_left (lz [_,_,_] [] 115061131525867911902755230668160 rfl ‹_› (Nat.sub_add_cancel (lz [_,_] [] 23441698200761947392 rfl ‹_›))))
 have hby4:∀c∈(data.drop a).take 4,c<256:=fun c hc=>hby c (List.mem_of_mem_drop (List.mem_of_mem_take hc))
 generalize (data.drop a).take 4=cut at *
 refine iForN (fun i m H'=>∀R:M→Hp→Prop,(∀v,R [some (.bytes data),some (.int (a:Nat)),some (.bytes o),some (.int (beF (cut.take i):Nat)),v,none,none,none] H)→R m H') (fun i x m H' hx hI=>?_) (fun m H' hI=>?_) fun R z=>z none
 ·refine hI (fun m H'=>True∧wSs _ _ (m.set _ _) H' _ _) fun v=>⟨trivial,?_⟩
  have hb:=Nat.lt_of_lt_of_le (beF_lt (cut.take i) fun c hc=>hby4 c (List.mem_of_mem_take hc)) (Nat.pow_le_pow_right (by decide) (Nat.le_trans (List.length_take_le' _ _) (Nat.le_of_eq hl4)):_≤256^4)
  refine iMul (by decide) (by exact lz [_,_] [] 14008057782389293228501012620882345504445668341521212412466780335001007755705022705401091393 rfl hb (Int.natAbs_of_nonneg (lz [_] [] 1395205 rfl))) (iAdd rfl fun R z=>?_)
  have z:=z (some (.int (x:Nat)))
  rw [show beF (cut.take (i+1))=_ from foldl_snoc _ _ hx]at z;exact z
 ·refine hI (fun m H'=>True∧kSeq _ _ _ _ m H') fun v=>⟨trivial,ha _ _ _ _ (cAdler.mk ho ?_)⟩
  rw [List.take_length]
  exact iTr (fun q=>h2 fun z=>q (congrArg Nat.cast z.2)) fun z=>h1 ⟨q,Int.ofNat_inj.mp (Classical.not_not.mp z)⟩
inductive Part where
 |lit (n:Nat)
 |mat (l d:Nat)
 |stop
noncomputable def partR(D:List Bool)(pos:Nat):Rd Part:=(readSym litL D pos).bind fun s p=>if s<256 then .ok (.lit s) p else if s=256 then .ok .stop p else if 29≤s-257 then .fault else
  (takeB D p (lX.getD (s-257) 0)).bind fun r p2=>(readSym dstL D p2).bind fun s2 p3=>if 30≤s2 then .fault else
    (takeB D p3 (dX.getD s2 0)).bind fun r2 p4=>.ok (.mat (lB.getD (s-257) 0+r) (dB.getD s2 0+r2)) p4
noncomputable def PV(H:Hp)(v:V):Part→Prop
 | .lit n=>v=.int (n:Nat)
 | .stop=>v=.none
 | .mat l d=>∃t,v=.ref t∧H t=some (.tuple [.int (l:Nat),.int (d:Nat)])
noncomputable def Ap(H:Hp)(S:List Nat):Prop:=∀a o,H a=some o→(∀fs,o≠.flds fs)→(∀b,o≠.ba b)→a∉S
theorem BI.ap{H:Hp}{x d pos:Nat}{data:List Nat}(h:BI H x d data pos):Ap H [d]:=fun _ _ e n _=>n1 (h.flds e n)
theorem IsRows.upA{H H':Hp}{t a b:Nat}{l1 l2:List Nat}{S:List Nat}(h:IsRows H t a b l1 l2)(k:Ex S H H')(n:Ap H S):IsRows H' t a b l1 l2:=h.up k (n _ _ h.t nofun nofun) (n _ _ h.a nofun nofun) (n _ _ h.b nofun nofun)
noncomputable def IsTabs(H:Hp)(r:Nat):Prop:=∀R:Prop,(∀tl tb a b c e,H r=some (.tuple [.ref tl,.ref tb])→IsRows H tl a b lB lX→IsRows H tb c e dB dX→R)→R
theorem IsTabs.upA{H H':Hp}{r:Nat}{S:List Nat}(h:IsTabs H r)(k:Ex S H H')(n:Ap H S):IsTabs H' r:=fun R z=>h R fun tl tb a b c e h1 h2 h3=>z tl tb a b c e (k _ _ (n _ _ h1 nofun nofun) h1) (h2.upA k n) (h3.upA k n)
theorem IsDec.dd{H:Hp}{x dd t s y d pos:Nat}{l data:List Nat}(h:IsDec H x dd t s l)(k:BI H y d data pos):dd≠d:=k.ex _ fun _ _ i _ _ _=>neO h.i.f i.f fun e=>nomatch congrArg List.length (O.flds.inj e)
theorem IsDec.upA{H H':Hp}{x dd t s:Nat}{l:List Nat}{S:List Nat}(h:IsDec H x dd t s l)(k:Ex S H H')(n:Ap H S)(n2:dd∉S):IsDec H' x dd t s l:=h.up k (n _ _ h.i.i nofun nofun) n2 (n _ _ h.tl nofun nofun) (n _ _ h.sy nofun nofun)
theorem lens_rows:lB.length=29∧lX.length=29∧dB.length=30∧dX.length=30:=by decide +kernel
theorem rows_small:(∀x∈lX,x≤16)∧(∀x∈dX,x≤16):=by decide +kernel
theorem iI0{Q:QV}{H:Hp}{x v:V}(h:It H 0 x v)(q:Q v H):KSub Q H x (.int 0):=iI (n:=0) (by decide) h q
theorem iI1{Q:QV}{H:Hp}{x v:V}(h:It H 1 x v)(q:Q v H):KSub Q H x (.int 1):=iI (n:=1) (by decide) h q
theorem cRead.of{dec dd t s x d pos:Nat}{l data:List Nat}{H:Hp}{Q:QV}{X:QX}{K:Nat→Nat→Prop}{F:Prop}(h1:IsDec H dec dd t s l)(h2:Fix l)(h3:BI H x d data pos)(hw:(readSym l (bBits data) pos).wp K F)(k:∀v p,K v p→∀H',Ex [d] H H'→BI H' x d data p→Q (.int (v:Nat)) H')(k2:F→∀H',Ex [d] H H'→X H'):cRead [.ref dec,.ref x] H Q X:=.mk h1 h2 h3 (h1.dd h3) (Rd.wp_mono hw k k2)
noncomputable def cPart:Con:=fun xs H Q X=>∀R:List V→Prop,(∀x d data pos e1 ed1 t1 s1 e2 ed2 t2 s2 r,BI H x d data pos→IsDec H e1 ed1 t1 s1 litL→IsDec H e2 ed2 t2 s2 dstL→IsTabs H r→(partR (bBits data) pos).wp (fun pt p=>∀H' v,Ex [d] H H'→BI H' x d data p→PV H' v pt→Q v H') (∀H',Ex [d] H H'→X H')→R [.ref x,.ref e1,.ref e2,.ref r])→R xs
theorem cPart.of{x d pos e1 ed1 t1 s1 e2 ed2 t2 s2 r:Nat}{data:List Nat}{H:Hp}{Q:QV}{X:QX}{K:Part→Nat→Prop}{F:Prop}(hB:BI H x d data pos)(hD1:IsDec H e1 ed1 t1 s1 litL)(hD2:IsDec H e2 ed2 t2 s2 dstL)(hT:IsTabs H r)(hw:(partR (bBits data) pos).wp K F)(k:∀pt p,K pt p→∀H' v,Ex [d] H H'→BI H' x d data p→PV H' v pt→Q v H')(k2:F→∀H',Ex [d] H H'→X H'):cPart [.ref x,.ref e1,.ref e2,.ref r] H Q X:=fun _ z=>z _ _ _ _ _ _ _ _ _ _ _ _ _ hB hD1 hD2 hT (Rd.wp_mono hw k k2)
theorem p_part(C:CT)(hr:Sup C ("Decoder"++"."++"read") cRead)(ht:Sup C ("BitsIn"++"."++"take") cTake):Does C t_read_part 10 4 [] cPart:=fun xs H Q X h=>h _ fun x d data pos e1 ed1 t1 s1 e2 ed2 t2 s2 r hB hD1 hD2 hT h=>by
 obtain ⟨r1,r2,r3,r4⟩:=lens_rows
 unfold partR at h
 refine Rd.abs h fun K F hK hF h=>⟨rfl,iMe hD1.i rfl (hr _ _ _ _ (cRead.of hD1 (.inl rfl) hB (Rd.wp_bind h) (fun s p h H1 x1 hB1=>?_) hF))⟩
 have h:=Rd.wp_if h
 refine iTr (fun q=>hK _ _ (h.1 (Int.ofNat_lt.mp q)) H1 _ x1 hB1 rfl) fun q=>?_
 have q' :¬s<256:=fun z=>q (Int.ofNat_lt.mpr z)
 have h:=Rd.wp_if (h.2 q')
 refine iTr (fun q2=>hK _ _ (h.1 (Int.ofNat_inj.mp q2)) H1 _ x1 hB1 rfl) fun q2=>?_
 have q2':s≠256:=fun z=>q2 (congrArg Nat.cast z)
 have h:=Rd.wp_if (h.2 q2')
 have hs:257≤s:=Nat.lt_of_le_of_ne (Nat.not_lt.mp q') (Ne.symm q2')
 refine hT.upA x1 hB.ap _ fun tl tb ra rb rc re hR hL hS=>?_
 refine iSub rfl (iSub (c:=(s-257:Nat)) (by rw [Int.sub_sub];exact (Int.ofNat_sub hs).symm) (iI0 (.tuple hR rfl) (iI0 (.tuple hL.t rfl) (iL (.list hL.a) (lenI (Nat.le_trans (Nat.le_of_eq r1) (by decide))) (iTr (fun q3=>hB1.at fun a=>hF (h.1 ?_) H1 x1) fun q3=>?_)))))
 ·rw [ints_len,r1]at q3;exact Int.ofNat_le.mp q3
 have q3:¬29≤s-257:=fun z=>q3 (by rw [ints_len,r1];exact Int.ofNat_le.mpr z)
 have h:=Rd.wp_bind (h.2 q3)
 generalize s-257=s at *
 have h29:=Nat.not_le.mp q3
 have l4:s<4294967296:=Nat.lt_trans h29 (by decide)
 have hX:=rows_small.1 _ (List.mem_of_getElem? (getD_get (l:=lX) (i:=s) (Nat.lt_of_lt_of_eq h29 r2.symm)))
 refine iI0 (.tuple hR rfl) (iI0 (.tuple hL.t rfl) (iI l4 (itN hL.a (Nat.lt_of_lt_of_eq h29 r1.symm)) (hB1.me (fun _ _ _ _=>rfl) (iI0 (.tuple hR rfl) (iI1 (.tuple hL.t rfl) (iI l4 (itN hL.b (Nat.lt_of_lt_of_eq h29 r2.symm)) (ht _ _ _ _ (cTake.of hB1 (Nat.le_trans hX (by decide)) h (fun rr _ h H2 x2 hB2=>iAdd rfl ?_) fun z=>hF z H1 x1))))))))
 have x02:=x1.trans x2
 have hD2':=hD2.upA x02 hB.ap (n1 (hD2.dd hB))
 refine iMe hD2'.i rfl (hr _ _ _ _ (cRead.of hD2' (.inr rfl) hB2 (Rd.wp_bind h) (fun s2 p3 h H3 x3 hB3=>?_) fun z H3 x3=>hF z H3 (x02.trans x3)))
 have h:=Rd.wp_if h
 have x03:=x02.trans x3
 refine hT.upA x03 hB.ap _ fun tl tb ra rb rc re hR hL hS=>?_
 refine iI1 (.tuple hR rfl) (iI0 (.tuple hS.t rfl) (iL (.list hS.a) (lenI (Nat.le_trans (Nat.le_of_eq r3) (by decide))) (iTr (fun q3=>hB3.at fun a=>hF (h.1 ?_) H3 x03) fun q3=>?_)))
 ·rw [ints_len,r3]at q3;exact Int.ofNat_le.mp q3
 have q4:¬30≤s2:=fun z=>q3 (by rw [ints_len,r3];exact Int.ofNat_le.mpr z)
 have h:=Rd.wp_bind (h.2 q4)
 have h30:=Nat.not_le.mp q4
 have l5:s2<4294967296:=Nat.lt_trans h30 (by decide)
 have hX:=rows_small.2 _ (List.mem_of_getElem? (getD_get (l:=dX) (i:=s2) (Nat.lt_of_lt_of_eq h30 r4.symm)))
 refine iI1 (.tuple hR rfl) (iI0 (.tuple hS.t rfl) (iI l5 (itN hS.a (Nat.lt_of_lt_of_eq h30 r3.symm)) (hB3.me (fun _ _ _ _=>rfl) (iI1 (.tuple hR rfl) (iI1 (.tuple hS.t rfl) (iI l5 (itN hS.b (Nat.lt_of_lt_of_eq h30 r4.symm)) (ht _ _ _ _ (cTake.of hB3 (Nat.le_trans hX (by decide)) h (fun r2 _ h H4 x4 hB4=>iAdd rfl fun t htn=>?_) fun z=>hF z H3 x03))))))))
 exact hK _ _ h _ _ ((x03.trans x4).put1 htn) (hB4.up (S:=[]) (.put htn) n0 n0) ⟨t,rfl,pself⟩
noncomputable def layF(b:List Nat)(l d:Nat):List Nat:=(List.range l).foldl (fun b _=>b++[b.getD (b.length-d) 0]) b
theorem layF_succ(b:List Nat)(l d:Nat):layF b (l+1) d=layF b l d++[(layF b l d).getD ((layF b l d).length-d) 0]:=by
 unfold layF;rw [List.range_succ,List.foldl_append];rfl
theorem layF_len(b:List Nat)(d:Nat):∀l,(layF b l d).length=b.length+l
 |0=>rfl
 |l+1=>by rw [layF_succ,List.length_append,layF_len b d l];rfl
theorem layF_get{b:List Nat}{d:Nat}(h:1≤d)(hd:d≤b.length)(l:Nat):(layF b l d)[(layF b l d).length-d]?=some ((layF b l d).getD ((layF b l d).length-d) 0):=
 getD_get (by have:=layF_len b d l;exact lz [_,_,_] [] 105451556898250569368897 rfl h (Nat.sub_add_cancel (lz [_,_,_,_] [] 6744177287106068574197120 rfl hd this)))
theorem layF_by{b:List Nat}{d:Nat}(hb:∀c∈b,c<256)(h:1≤d)(hd:d≤b.length):∀l,∀c∈layF b l d,c<256
 |0=>hb
 |l+1=>by
  rw [layF_succ]
  exact by_app (layF_by hb h hd l) fun c hc=>List.mem_singleton.mp hc▸layF_by hb h hd l _ (List.mem_of_getElem? (layF_get h hd l))
noncomputable def cLay:Con:=fun xs H Q X=>∀R:List V→Prop,(∀o b,∀a:Int,∀n:Nat,H o=some (.ba b)→b.length≤900000→n<256→(∀H',Ex [o] H H'→H' o=some (.ba (b++[n]))→Q .none H')→R [.ref o,.int n,.int a])→
 (∀o b,∀a:Int,∀t:Nat,∀l ds:Nat,H o=some (.ba b)→b.length≤900000→(∀c∈b,c<256)→H t=some (.tuple [.int l,.int ds])→l≤300→(b.length<ds→X H)→(¬b.length<ds→1≤ds∧∀H',Ex [o] H H'→H' o=some (.ba (layF b l ds))→Q .none H')→R [.ref o,.ref t,.int a])→R xs
theorem cLay.lit{o n:Nat}{b:List Nat}{a:Int}{H:Hp}{Q:QV}{X:QX}(h1:H o=some (.ba b))(h2:b.length≤900000)(h3:n<256)(k:∀H',Ex [o] H H'→H' o=some (.ba (b++[n]))→Q .none H'):cLay [.ref o,.int n,.int a] H Q X:=fun _ z _=>z _ _ _ _ h1 h2 h3 k
theorem cLay.mat{o t l ds:Nat}{b:List Nat}{a:Int}{H:Hp}{Q:QV}{X:QX}(h1:H o=some (.ba b))(h2:b.length≤900000)(h3:∀c∈b,c<256)(h4:H t=some (.tuple [.int l,.int ds]))(h5:l≤300)(k:b.length<ds→X H)(k2:¬b.length<ds→1≤ds∧∀H',Ex [o] H H'→H' o=some (.ba (layF b l ds))→Q .none H'):cLay [.ref o,.ref t,.int a] H Q X:=fun _ _ z=>z _ _ _ _ _ _ h1 h2 h3 h4 h5 k k2
noncomputable def I_p_lay(H:Hp)(o:Nat)(b:List Nat)(a:Int)(t l ds:Nat)(i:Nat)(m:M)(H':Hp):Prop:=
 ∀R:M→Prop,(∀v,Ex [o] H H'→H' o=some (.ba (layF b i ds))→R [some (.ref o),some (.ref t),some (.int a),some (.int (l:Nat)),some (.int (ds:Nat)),v,none,none,none,none,none])→R m
theorem p_lay(C:CT):Does C t_lay_part 11 3 [] cLay:=fun xs H Q X h=>h _
 (fun o b a n ho hb hn h=>⟨rfl,iIs (.int _) (iTb (iApA ho (iAppA ho hn (by exact lz [_] [] 153355148469971545146812177643187721455707393 rfl hb) (iX (h _ (.set m0) pself)))))⟩)
 fun o b a t l ds ho hb hby ht hl h1 h2=>by
 refine ⟨rfl,iIs (.tup ht) (iTb (iBT ht rfl (iL (.ba ho) (by exact lz [_] [] 153353872431864779061713500502531837641794816 rfl hb) (iTr (fun q=>h1 (Int.ofNat_lt.mp q)) fun q=>?_))))⟩
 have q:¬b.length<ds:=fun z=>q (Int.ofNat_lt.mpr z)
 obtain ⟨hds,h⟩:=h2 q
 have q:=Nat.not_lt.mp q
 refine (⟨by show l<_;exact lz [_] [] 153355233436768042310122451550748841522447617 rfl hl,iForR (I_p_lay H o b a t l ds) (fun i m H' hi hI=>?_) (fun m H' hI=>?_) fun R z=>z none (.refl _ _) ho⟩:okR l∧_)
 ·refine hI (fun m=>True∧wSs _ _ (m.set _ _) _ _ _) fun v hex ho'=>⟨trivial,?_⟩
  have hll:=layF_len b ds i
  have hg:=layF_get hds q i
  have h256:=layF_by hby hds q i _ (List.mem_of_getElem? hg)
  refine iApA ho' (iL (.ba ho') (by exact lz [_,_,_,_] [] 12149945527223544301245262464235365770234358782003447129637188377696093632 rfl hb hl hi hll) (iSub (c:=((layF b i ds).length-ds:Nat)) (Int.ofNat_sub (by exact lz [_,_,_,_] [] 27646211884670020142334035328 rfl ‹_› hll)).symm (iI (by exact lz [_,_,_,_,_,_] [] 57376750070464451091235721273033495480965349492229001149386523134916350716527279645313590453825 rfl hb hl hds hi hll (Nat.sub_add_cancel (lz [_,_,_,_] [] 27646211884670020142334035328 rfl ‹_› hll))) (.ba ho' hg) (iAppA ho' h256 (by exact lz [_,_,_,_] [] 12150046625378041558823286423386972911292034416312295791150412652885919169 rfl hb hl hi hll) (iX fun R z=>z _ (hex.set1 m0) ?_)))))
  rw [layF_succ];exact pself
 ·exact hI (fun m=>True∧kSeq _ _ _ _ m _) fun v hex ho'=>⟨trivial,h H' hex ho'⟩
noncomputable def storedR(data:List Nat)(pos:Nat):Rd (List Nat):=(takeB (bBits data) (8*((pos+7)/8)) 16).bind fun n p1=>(takeB (bBits data) p1 16).bind fun k p2=>
 if n+k≠65535 then .fault else if (p2+7)/8+n≤data.length then .ok ((data.drop ((p2+7)/8)).take n) (8*((p2+7)/8+n)) else .fault
noncomputable def cStored:Con:=fun xs H Q X=>∀R:List V→Prop,(∀x d data pos,BI H x d data pos→(storedR data pos).wp (fun b p=>b.length≤100000→(∀c∈b,c<256)→∀H',Ex [d] H H'→BI H' x d data p→Q (.bytes b) H') (∀H',Ex [d] H H'→X H')→R [.ref x])→R xs
theorem cStored.of{x d pos:Nat}{data:List Nat}{H:Hp}{Q:QV}{X:QX}{K:List Nat→Nat→Prop}{F:Prop}(h1:BI H x d data pos)(hw:(storedR data pos).wp K F)(k:∀b p,K b p→b.length≤100000→(∀c∈b,c<256)→∀H',Ex [d] H H'→BI H' x d data p→Q (.bytes b) H')(k2:F→∀H',Ex [d] H H'→X H'):cStored [.ref x] H Q X:=fun _ z=>z _ _ _ _ h1 (Rd.wp_mono hw k k2)
theorem p_stored(C:CT)(ha:Sup C ("BitsIn"++"."++"align") cAlignI)(ht:Sup C ("BitsIn"++"."++"take") cTake)(ho:Sup C ("BitsIn"++"."++"octets") cOctI):Does C t_read_stored 3 1 [] cStored:=fun xs H Q X h=>h _ fun x d data pos hB h=>by
 unfold storedR at h
 refine Rd.abs h fun K F hK hF h=>⟨rfl,hB.me (fun _ _ _ _=>rfl) (ha _ _ _ _ (cAlignI.mk hB fun H1 x1 hB1=>iX ?_))⟩
 refine hB1.me (fun _ _ _ _=>rfl) (ht _ _ _ _ (cTake.of (n:=16) hB1 (by decide) (Rd.wp_bind h) (fun n hn h H2 x2 hB2=>?_) fun z=>hF z H1 x1))
 refine hB2.me (fun _ _ _ _=>rfl) (ht _ _ _ _ (cTake.of (n:=16) hB2 (by decide) (Rd.wp_bind h) (fun k hk h H3 x3 hB3=>?_) fun z=>hF z H2 (x1.trans x2)))
 have x03:=(x1.trans x2).trans x3
 have h:=Rd.wp_if h
 refine iAdd (c:=(n+k:Nat)) rfl (iTr (fun q=>hB3.at fun _=>hF (h.1 fun z=>q (congrArg Nat.cast z)) H3 x03) fun q=>?_)
 have h:=Rd.wp_if (h.2 (Classical.not_not.mpr (Int.ofNat_inj.mp (Classical.not_not.mp q))))
 refine hB3.me (fun _ _ _ _=>rfl) (ho _ _ _ _ (cOctI.mk hB3 (Nat.le_trans (Nat.le_of_lt hn) (by decide)) (fun q H4 x4 hB4=>hK _ _ (h.1 q) ?_ ?_ H4 (x03.trans x4) hB4) fun q=>hF (h.2 q) H3 x03))
 ·rw [List.length_take,List.length_drop];exact Nat.le_trans (Nat.min_le_right _ _) (Nat.le_trans (Nat.sub_le _ _) hB.sz)
 ·exact fun c hc=>hB.by_ c (List.mem_of_mem_drop (List.mem_of_mem_take hc))
theorem pn{H:Hp}{x d:Nat}{o:O}(h:H d=none)(hne:x≠d):(H.put x o) d=none:=(put_ne hne.symm).trans h
theorem oldM{H:Hp}{x d y:Nat}{o o' e:O}(h:H y=some e)(h1:H x=none)(h2:H d=none):((H.put x o).put d o') y=some e:=putn (putf h h1) (ne_of h h2)
theorem Ex.made{H H':Hp}{x d:Nat}{o o':O}(k:Ex [d] ((H.put x o).put d o') H')(h1:H x=none)(h2:H d=none):Ex [] H H':=fun _ _ _ e=>k _ _ (n1 (ne_of e h2)) (oldM e h1 h2)
noncomputable def cDecs:Con:=fun xs H Q X=>∀R:List V→Prop,(∀x d data pos,∀way:Nat,BI H x d data pos→(way=1∨way=3)→(way=3→X H)→(way=1→∀H' t e1 ed1 t1 s1 e2 ed2 t2 s2,Ex [] H H'→H' t=some (.tuple [.ref e1,.ref e2])→IsDec H' e1 ed1 t1 s1 litL→IsDec H' e2 ed2 t2 s2 dstL→Q (.ref t) H')→R [.ref x,.int way])→R xs
theorem cDecs.mk{x d pos way:Nat}{data:List Nat}{H:Hp}{Q:QV}{X:QX}(h:BI H x d data pos)(h1:way=1∨way=3)(k:way=3→X H)(k2:way=1→∀H' t e1 ed1 t1 s1 e2 ed2 t2 s2,Ex [] H H'→H' t=some (.tuple [.ref e1,.ref e2])→IsDec H' e1 ed1 t1 s1 litL→IsDec H' e2 ed2 t2 s2 dstL→Q (.ref t) H'):cDecs [.ref x,.int way] H Q X:=fun _ z=>z _ _ _ _ _ h h1 k k2
theorem p_decs(C:CT)(hf:Sup C "fixed_lengths" cFixed)(hi:Sup C ("Decoder"++".__init__") cInitD):Does C t_block_decoders 8 2 [] cDecs:=fun xs H Q X h=>h _ fun x d data pos way hB hw h3 h1=>by
 refine ⟨rfl,iTf (fun z=>?_) (iTr (fun z=>hB.at fun _=>h3 (Int.ofNat_inj.mp z)) fun z=>?_)⟩
 ·have z:way=2:=Int.ofNat_inj.mp z
  exact hw.elim (fun h=>absurd (h.symm.trans z) (by decide)) fun h=>absurd (h.symm.trans z) (by decide)
 have h1:=h1 (hw.resolve_right fun h=>z (congrArg Nat.cast h))
 refine hf _ _ _ _ (cFixed.mk fun H1 t a b x1 nt na nb ht ha hb=>iBT ht rfl ?_)
 refine fun e1 ed1 hn1 hn2 hne=>hi _ _ _ _ (cInitD.mk (putn pself hne) pself (oldM ha hn1 hn2) (.inl rfl) fun H2 t1 s1 x2 nt1 ns1 hD1=>⟨rfl,?_⟩)
 refine fun e2 ed2 hn3 hn4 hne2=>?_
 have x12:=x2.made hn1 hn2
 refine hi _ _ _ _ (cInitD.mk (putn pself hne2) pself (oldM (x12.at0 hb) hn3 hn4) (.inr rfl) fun H3 t2 s2 x3 nt2 ns2 hD2=>⟨rfl,?_⟩)
 have x23:=x3.made hn3 hn4
 exact fun t' ht'=>h1 _ t' e1 ed1 t1 s1 e2 ed2 t2 s2 (((x1.trans x12).trans x23).put1 ht') pself (hD1.up (x23.put1 ht') n0 n0 n0 n0) (hD2.up (S:=[]) (.put ht') n0 n0 n0 n0)
noncomputable def contG(go:Nat→List Nat→Rd (List Nat))(out:List Nat)(pt:Part)(p:Nat):Rd (List Nat):=match pt with
 | .lit n=>if out.length<900000∧n<256 then go p (out++[n]) else .stuck
 | .mat l d=>if out.length<900000∧l≤300 then (if out.length<d then .fault else if 1≤d then go p (layF out l d) else .stuck) else .stuck
 | .stop=>.ok out p
noncomputable def partsGo(D:List Bool):Nat→Nat→List Nat→Rd (List Nat)
 |0,_,_=>.stuck
 |f+1,pos,out=>(partR D pos).bind (contG (partsGo D f) out)
noncomputable def endG(last:Nat)(go:Nat→List Nat→Rd (List Nat))(out:List Nat)(p:Nat):Rd (List Nat):=if last=1 then .ok out p else go p out
noncomputable def inflGo(data:List Nat):Nat→Nat→List Nat→Rd (List Nat)
 |0,_,_=>.stuck
 |f+1,pos,out=>(takeB (bBits data) pos 1).bind fun last p1=>(takeB (bBits data) p1 2).bind fun way p2=>
   if way=0 then (storedR data p2).bind fun b p3=>if out.length<900000 then endG last (inflGo data f) (out++b) p3 else .stuck
   else if way=2 then .stuck else if way=3 then .fault else (partsGo (bBits data) (f+1) p2 out).bind (endG last (inflGo data f))
theorem parts_s{D:List Bool}{n p:Nat}{out:List Nat}{K:List Nat→Nat→Prop}{F G:Prop}(h:(partsGo D n p out).wp K F)(k:∀f,f<n→(partR D p).wp (fun pt p=>(contG (partsGo D f) out pt p).wp K F) F→G):G:=by
 cases n with
 |zero=>exact h.elim
 |succ f=>exact k f (Nat.lt_succ_self f) (Rd.wp_bind h)
theorem infl_s{data:List Nat}{n p:Nat}{out:List Nat}{K:List Nat→Nat→Prop}{F G:Prop}(h:(inflGo data n p out).wp K F)(k:∀f,f<n→(takeB (bBits data) p 1).wp (fun last p1=>((takeB (bBits data) p1 2).bind fun way p2=>
   if way=0 then (storedR data p2).bind fun b p3=>if out.length<900000 then endG last (inflGo data f) (out++b) p3 else .stuck
   else if way=2 then .stuck else if way=3 then .fault else (partsGo (bBits data) (f+1) p2 out).bind (endG last (inflGo data f))).wp K F) F→G):G:=by
 cases n with
 |zero=>exact h.elim
 |succ f=>exact k f (Nat.lt_succ_self f) (Rd.wp_bind h)
theorem Ap.two{H:Hp}{x d o pos:Nat}{data b:List Nat}(h:BI H x d data pos)(k:H o=some (.ba b)):Ap H [d,o]:=fun _ _ e n n'=>n2 (h.flds e n) (neO e k (n' b))
noncomputable def Dcs(H:Hp)(r e1 e2:Nat):Prop:=∀R:Prop,(∀ed1 t1 s1 ed2 t2 s2,IsTabs H r→IsDec H e1 ed1 t1 s1 litL→IsDec H e2 ed2 t2 s2 dstL→R)→R
theorem Dcs.up{H H':Hp}{r e1 e2 x d o pos:Nat}{data b:List Nat}(h:Dcs H r e1 e2)(hB:BI H x d data pos)(ho:H o=some (.ba b))(k:Ex [d,o] H H'):Dcs H' r e1 e2:=fun R z=>h R fun ed1 t1 s1 ed2 t2 s2 hT h1 h2=>
 z ed1 t1 s1 ed2 t2 s2 (hT.upA k (.two hB ho)) (h1.upA k (.two hB ho) (n2 (h1.dd hB) (neO h1.i.f ho nofun))) (h2.upA k (.two hB ho) (n2 (h2.dd hB) (neO h2.i.f ho nofun)))
noncomputable def cInfl:Con:=fun xs H Q X=>∀R:List V→Prop,(∀o x d data pos out f,BI H x d data pos→H o=some (.ba out)→(∀c∈out,c<256)→(inflGo data f pos out).wp (fun rr p=>∀H',Ex [d,o] H H'→BI H' x d data (8*((p+7)/8))→H' o=some (.ba rr)→Q .none H') (∀H',Ex [d,o] H H'→X H')→R [.ref o,.ref x])→R xs
theorem cInfl.of{o x d pos f:Nat}{data out:List Nat}{H:Hp}{Q:QV}{X:QX}{K:List Nat→Nat→Prop}{F:Prop}(h1:BI H x d data pos)(h2:H o=some (.ba out))(h3:∀c∈out,c<256)(hw:(inflGo data f pos out).wp K F)(k:∀rr p,K rr p→∀H',Ex [d,o] H H'→BI H' x d data (8*((p+7)/8))→H' o=some (.ba rr)→Q .none H')(k2:F→∀H',Ex [d,o] H H'→X H'):cInfl [.ref o,.ref x] H Q X:=fun _ z=>z _ _ _ _ _ _ _ h1 h2 h3 (Rd.wp_mono hw k k2)
noncomputable def I_infl(H:Hp)(o x d r:Nat)(data:List Nat)(K:List Nat→Nat→Prop)(F:Prop)(n:Nat)(m:M)(H':Hp):Prop:=
 ∀R:M→Prop,(∀b v4 v5 v6 v7 p out,Ex [d,o] H H'→IsTabs H' r→BI H' x d data p→H' o=some (.ba out)→(∀c∈out,c<256)→(b=true→K out p)→(b=false→(inflGo data n p out).wp K F)→R [some (.ref o),some (.ref x),some (.ref r),some (.bool b),v4,v5,v6,v7,none,none,none,none,none,none])→R m
noncomputable def I_part(H:Hp)(o x d r e1 e2:Nat)(data:List Nat)(b:Bool)(way:Nat)(K:List Nat→Nat→Prop)(F:Prop)(n:Nat)(m:M)(H':Hp):Prop:=
 ∀R:M→Prop,(∀pt v p out,Ex [d,o] H H'→Dcs H' r e1 e2→BI H' x d data p→H' o=some (.ba out)→(∀c∈out,c<256)→PV H' v pt→(contG (partsGo (bBits data) n) out pt p).wp K F→R [some (.ref o),some (.ref x),some (.ref r),some (.bool b),some (.int way),some (.ref e1),some (.ref e2),some v,none,none,none,none,none,none])→R m
theorem part_next{C:CT}(hp:Sup C "read_part" cPart){H H':Hp}{o x d r e1 e2 n pos:Nat}{data out:List Nat}{K:List Nat→Nat→Prop}{F:Prop}{Q:QV}{X:QX}(hF:F→∀H',Ex [d,o] H H'→X H')(y:Ex [d,o] H H')(D:Dcs H' r e1 e2)(hB:BI H' x d data pos)(ho:H' o=some (.ba out))(hby:∀c∈out,c<256)(hR:(partsGo (bBits data) n pos out).wp K F)
  (k:∀n',n'<n→∀v H'',(∀b way,I_part H o x d r e1 e2 data b way K F n' [some (.ref o),some (.ref x),some (.ref r),some (.bool b),some (.int way),some (.ref e1),some (.ref e2),some v,none,none,none,none,none,none] H'')→Q v H''):C "read_part" [.ref x,.ref e1,.ref e2,.ref r] H' Q X:=
 parts_s hR fun n' hn hR=>D _ fun ed1 t1 s1 ed2 t2 s2 hT h1 h2=>hp _ _ _ _ (cPart.of hB h1 h2 hT hR (fun pt p' hR H8 v x8 hB8 hv=>k n' hn v H8 fun b way R z=>
  z pt v p' out (y.trans (x8.mono1 m0)) (D.up hB ho (x8.mono1 m0)) hB8 (x8 _ _ (n1 (hB.flds ho nofun)) ho) hby hv hR) fun z H8 x8=>hF z H8 (y.trans (x8.mono1 m0)))
theorem iTnb{Q:Bool→Hp→Prop}{H:Hp}{b:Bool}(h1:b=false→Q true H)(h2:b=true→Q false H):KTr Q H (.bool (!b)):=.iT rfl (by cases b;exact h1 rfl;exact h2 rfl)
theorem end_wp{last p:Nat}{go:Nat→List Nat→Rd (List Nat)}{out:List Nat}{K:List Nat→Nat→Prop}{F:Prop}(h:(endG last go out p).wp K F):(decide ((last:Int)=1)=true→K out p)∧(decide ((last:Int)=1)=false→(go p out).wp K F):=
 have h:=Rd.wp_if h
 ⟨fun z=>h.1 (Int.ofNat_inj.mp (of_decide_eq_true z)),fun z=>h.2 fun w=>of_decide_eq_false z (congrArg Nat.cast w)⟩
theorem p_infl(C:CT)(hlr:Sup C "length_rows" (cRows lB lX))(hdr:Sup C "distance_rows" (cRows dB dX))(ht:Sup C ("BitsIn"++"."++"take") cTake)(hst:Sup C "read_stored" cStored)(hbd:Sup C "block_decoders" cDecs)
  (hp:Sup C "read_part" cPart)(hl:Sup C "lay_part" cLay)(ha:Sup C ("BitsIn"++"."++"align") cAlignI):Does C t_inflate_into 14 2 [] cInfl:=fun xs H Q X h=>h _ fun o x d data pos out f hB ho hby h=>Rd.abs h fun K F hK hF h=>by
 refine ⟨rfl,hlr _ _ _ _ (cRows.mk fun H1 tl la lb x1 _ _ _ hL=>hdr _ _ _ _ (cRows.mk fun H2 tb da db x2 _ _ _ hS=>?_))⟩
 refine fun r hr=>?_
 have x3:=(x1.trans x2).put1 (o:=.tuple [.ref tl,.ref tb]) hr
 have hT:IsTabs (H2.put r (.tuple [.ref tl,.ref tb])) r:=fun R z=>z tl tb la lb da db pself (hL.up (x2.put1 hr) n0 n0 n0) (hS.up (S:=[]) (.put hr) n0 n0 n0)
 refine iWh (I_infl H o x d r data K F) (fun n m H4 hI=>?_) (n:=f) fun R z=>z false none none none none pos out x3.mono0 hT (hB.up x3 n0 n0) (x3.at0 ho) hby nofun fun _=>h
 refine hI (fun m=>wE _ _ m _ (kWh _ _ n m _ _) _) fun b v4 v5 v6 v7 p out x4 hT hB ho hby hb hR=>iTb (iTnb (fun z=>?_) fun z=>?_)
 ·refine infl_s (hR z) fun f hf hR=>?_
  refine hB.me (fun _ _ _ _=>rfl) (ht _ _ _ _ (cTake.of (n:=1) hB (by decide) hR (fun last _ hR H5 x5 hB5=>?_) fun z=>hF z H4 x4))
  have y5:=x4.trans (x5.mono1 m0)
  refine hB5.me (fun _ _ _ _=>rfl) (ht _ _ _ _ (cTake.of (n:=2) hB5 (by decide) (Rd.wp_bind hR) (fun way hway hR H6 x6 hB6=>?_) fun z=>hF z H5 y5))
  have x56:Ex [d,o] H4 H6:=(x5.trans x6).mono1 m0
  have y6:=x4.trans x56
  have ho6:=(x5.trans x6) _ _ (n1 (hB.flds ho nofun)) ho
  have hT6:=hT.upA x56 (.two hB ho)
  have hR:=Rd.wp_if hR
  refine iTr (fun q=>?_) fun q=>?_
  ·have hR:=Rd.wp_bind (hR.1 (Int.ofNat_inj.mp q))
   refine iApA ho6 (hst _ _ _ _ (cStored.of hB6 hR (fun b p3 hR hlb hbb H7 x7 hB7=>?_) fun z H7 x7=>hF z H7 (y6.trans (x7.mono1 m0))))
   have ho7:=x7 _ _ (n1 (hB6.flds ho6 nofun)) ho6
   have hR:=Rd.wp_if hR
   by_cases hl:out.length<900000
   ·have hR:=end_wp (hR.1 hl)
    have x78:Ex [d,o] H6 (H7.put o (.ba (out++b))):=(x7.mono1 m0).set1 m1
    exact iExtA ho7 (Nat.lt_of_lt_of_le (Nat.add_lt_add_of_lt_of_le hl hlb) (by decide)) (iX ⟨f,hf,fun R z=>z _ _ _ _ _ _ _ (y6.trans x78) (hT6.upA x78 (.two hB6 ho6)) (hB7.up (S:=[o]) (.set m0) (n1 (neO hB7.inst ho7 nofun)) (n1 (hB7.flds ho7 nofun).symm)) pself (by_app hby hbb) hR.1 hR.2⟩)
   ·exact (hR.2 hl).elim
  ·have hR:=Rd.wp_if (hR.2 fun z=>q (congrArg Nat.cast z))
   by_cases q2:way=2
   ·exact (hR.1 q2).elim
   have hR:=Rd.wp_if (hR.2 q2)
   refine hbd _ _ _ _ (cDecs.mk hB6 ?_ (fun z=>hF (hR.1 z) H6 y6) fun q1 H7 tt e1 ed1 t1 s1 e2 ed2 t2 s2 x7 htt hD1 hD2=>iBT htt rfl ?_)
   ·exact (by decide:∀w,w<4→w≠0→w≠2→w=1∨w=3) way hway (fun z=>q (congrArg Nat.cast z)) q2
   refine Rd.abs (Rd.wp_bind (hR.2 fun z=>absurd (q1.symm.trans z) (by decide))) fun K2 F2 hK2 hF2 hR=>?_
   have y7:=y6.trans x7.mono0
   have ho7:=x7.at0 ho6
   refine part_next hp (fun z=>hF (hF2 z)) y7 (fun R z=>z _ _ _ _ _ _ (hT6.upA x7 fun _ _ _ _ _=>n0) hD1 hD2) (hB6.up x7 n0 n0) ho7 hby hR fun k _ v H8 hI=>?_
   refine iWh (I_part H o x d r e1 e2 data (decide ((last:Int)=1)) way K2 F2) (fun n' m H9 hI=>?_) (n:=k) (hI _ _)
   refine hI (fun m=>wE _ _ m _ (kWh _ _ n' m _ _) _) fun pt v p out y9 D9 hB9 ho9 hby9 hv hG=>?_
   have next:∀{H':Hp} {out4:List Nat} {Q0:QS},Ex [o] H9 H'→H' o=some (.ba out4)→(∀c∈out4,c<256)→(partsGo (bBits data) n' p out4).wp K2 F2→wSs C (.cons (.asg 7 (.call "read_part" (.cons (.loc 1) (.cons (.loc 5) (.cons (.loc 6) (.cons (.loc 2) .nil)))))) .nil) [some (.ref o),some (.ref x),some (.ref r),some (.bool (decide ((last:Int)=1))),some (.int way),some (.ref e1),some (.ref e2),some v,none,none,none,none,none,none] H' (kWb (I_part H o x d r e1 e2 data (decide ((last:Int)=1)) way K2 F2) n' Q0) X:=fun x10 ho10 hby10 hR=>
    part_next hp (fun z=>hF (hF2 z)) (y9.trans (x10.mono1 m1)) (D9.up hB9 ho9 (x10.mono1 m1)) (hB9.up x10 (n1 (neO hB9.inst ho9 nofun)) (n1 (hB9.flds ho9 nofun).symm)) ho10 hby10 hR fun k hk v H8 hI=>⟨k,hk,hI _ _⟩
   cases pt with
   |stop=>
    obtain rfl:v=.none:=hv
    have hG:=end_wp (hK2 _ _ hG)
    exact iTb ⟨f,hf,fun R z=>z _ _ _ _ _ _ _ y9 (D9 _ fun _ _ _ _ _ _ hT _ _=>hT) hB9 ho9 hby9 hG.1 hG.2⟩
   |lit nn=>
    obtain rfl:v=.int (nn:Nat):=hv
    have hG:=Rd.wp_if hG
    by_cases hc:out.length<900000∧nn<256
    ·exact iTb (hB9.at fun a=>hl _ _ _ _ (cLay.lit ho9 (Nat.le_of_lt hc.1) hc.2 fun H' x' ho'=>iX (next x' ho' (by_app hby9 fun c hcm=>List.mem_singleton.mp hcm▸hc.2) (hG.1 hc))))
    ·exact (hG.2 hc).elim
   |mat ll dd=>
    obtain ⟨t,rfl,ht'⟩:=hv
    have hG:=Rd.wp_if hG
    by_cases hc:out.length<900000∧ll≤300
    ·have hG:=Rd.wp_if (hG.1 hc)
     refine iTb (hB9.at fun a=>hl _ _ _ _ (cLay.mat ho9 (Nat.le_of_lt hc.1) hby9 ht' hc.2 (fun z=>hF (hF2 (hG.1 z)) H9 y9) fun z=>?_))
     have hG:=Rd.wp_if (hG.2 z)
     by_cases hd:1≤dd
     ·exact ⟨hd,fun H' x' ho'=>iX (next x' ho' (layF_by hby9 hd (Nat.not_lt.mp z) ll) (hG.1 hd))⟩
     ·exact (hG.2 hd).elim
    ·exact (hG.2 hc).elim
 ·exact hB.me (fun _ _ _ _=>rfl) (ha _ _ _ _ (cAlignI.mk hB fun H5 x5 hB5=>iX (hK _ _ (hb z) H5 (x4.trans (x5.mono1 m0)) hB5 (x5 _ _ (n1 (hB.flds ho nofun)) ho))))
theorem BI.at8{H:Hp}{x d k:Nat}{data:List Nat}{Q:QV}(h:BI H x d data (8*k))(q:Q (.int k) H):kAttr Q "at" (.ref x) H:=h.ex _ fun a c i e hc _=>iA (.iAt i rfl) ((z8 e hc).1▸q)
noncomputable def cInflate:Con:=fun xs H Q X=>∀R:List V→Prop,(∀data,∀a:Nat,∀f,a≤data.length→(∀c∈data,c<256)→data.length≤100000→(inflGo data f (8*a) []).wp (fun rr p=>rr.length≤1000000∧∀H' t,Ex [] H H'→H' t=some (.tuple [.bytes rr,.int ((p+7)/8:Nat)])→Q (.ref t) H') (∀H',Ex [] H H'→X H')→R [.bytes data,.int a])→R xs
theorem cInflate.of{data:List Nat}{a f:Nat}{H:Hp}{Q:QV}{X:QX}{K:List Nat→Nat→Prop}{F:Prop}(h1:a≤data.length)(h2:∀c∈data,c<256)(h3:data.length≤100000)(hw:(inflGo data f (8*a) []).wp K F)(k:∀rr p,K rr p→rr.length≤1000000∧∀H' t,Ex [] H H'→H' t=some (.tuple [.bytes rr,.int ((p+7)/8:Nat)])→Q (.ref t) H')(k2:F→∀H',Ex [] H H'→X H'):cInflate [.bytes data,.int a] H Q X:=fun _ z=>z _ _ _ h1 h2 h3 (Rd.wp_mono hw k k2)
theorem p_inflate(C:CT)(hi:Sup C ("BitsIn"++".__init__") cInitI)(hf:Sup C "inflate_into" cInfl):Does C t_inflate 8 2 [] cInflate:=fun xs H Q X h=>h _ fun data a f ha hby hsz h=>Rd.abs h fun K F hK hF h=>by
 refine ⟨rfl,fun x d hx hd hne=>hi _ _ _ _ (cInitI.mk (putn pself hne) pself ha hby hsz fun H1 x1 hB=>⟨rfl,fun o ho=>?_⟩)⟩
 have x01:=x1.made hx hd
 have up:∀{H3:Hp},Ex [d,o] (H1.put o (.ba [])) H3→Ex [] H H3:=fun x3 y v _ e=>x3 _ _ (n2 (ne_of e hd) (ne_of (x01.at0 e) ho)) (putf (x01.at0 e) ho)
 refine hf _ _ _ _ (cInfl.of (hB.up (S:=[]) (.put ho) n0 n0) pself nofun h (fun rr p hR H3 x3 hB3 ho3=>iX ?_) fun z H3 x3=>hF z H3 (up x3))
 obtain ⟨hr,h⟩:=hK _ _ hR
 exact iByA ho3 (Nat.le_trans hr (by decide)) (hB3.at8 fun t ht=>h _ t ((up x3).put1 ht) pself)
noncomputable def zdecR(data:List Nat)(f:Nat):Rd (List Nat):=if frameOk data=false then .fault else
 (inflGo data f 16 []).bind fun rr p=>if rr.length≤1000000∧(p+7)/8≤100000 then (if (p+7)/8+4≤data.length∧beF ((data.drop ((p+7)/8)).take 4)=adlF rr then .ok rr 0 else .fault) else .stuck
noncomputable def cZdec:Con:=fun xs H Q X=>∀R:List V→Prop,(∀data f,(∀c∈data,c<256)→data.length≤100000→(zdecR data f).wp (fun rr _=>∀H',Ex [] H H'→Q (.bytes rr) H') (∀H',Ex [] H H'→X H')→R [.bytes data])→R xs
theorem cZdec.of{data:List Nat}{f:Nat}{H:Hp}{Q:QV}{X:QX}{K:List Nat→Nat→Prop}{F:Prop}(h1:∀c∈data,c<256)(h2:data.length≤100000)(hw:(zdecR data f).wp K F)(k:∀rr p,K rr p→∀H',Ex [] H H'→Q (.bytes rr) H')(k2:F→∀H',Ex [] H H'→X H'):cZdec [.bytes data] H Q X:=fun _ z=>z _ _ h1 h2 (Rd.wp_mono hw k k2)
theorem p_zdec(C:CT)(hfr:Sup C "check_frame" cFrame)(hi:Sup C "inflate" cInflate)(hs:Sup C "check_sum" cSum):Does C t_zlib_decoded 6 1 [] cZdec:=fun xs H Q X h=>h _ fun data f hby hsz h=>Rd.abs h fun K F hK hF h=>by
 have h:=Rd.wp_if h
 refine ⟨rfl,hfr _ _ _ _ (cFrame.mk hsz hby (fun hok=>iX ?_) fun hno=>hF (h.1 hno) H (.refl _ _))⟩
 refine hi _ _ _ _ (cInflate.of (a:=2) (of_decide_eq_true hok).1 hby hsz (Rd.wp_bind (h.2 fun z=>Bool.false_ne_true (z.symm.trans hok))) (fun rr p hR=>?_) hF)
 have hR:=Rd.wp_if hR
 by_cases hc:rr.length≤1000000∧(p+7)/8≤100000
 ·have hR:=Rd.wp_if (hR.1 hc)
  exact ⟨hc.1,fun H1 t x1 ht=>iBT ht rfl (hs _ _ _ _ (cSum.mk hsz hby hc.1 hc.2 (fun hg=>iX (hK _ _ (hR.1 hg) H1 x1)) fun hg=>hF (hR.2 hg) H1 x1))⟩
 ·exact (hR.2 hc).elim
theorem pred2(b:Nat):((1*2^b:Nat):Int)-1=((2^b-1:Nat):Int):=by rw [Nat.one_mul,Int.natCast_sub (Nat.two_pow_pos b)];rfl
theorem iOrI{W:WE}{m:M}{Q:QV}{X:QX}{H:Hp}{i:Int}(h1:W m H Q X)(h2:Q (.int i) H):KTr (kBop2 W m Q X false (.int i)) H (.int i):=.iT rfl (by cases (i != 0);exact h1;exact h2)
noncomputable def IsSplit(n s b:Nat):Prop:=(∀b',b'<b→2*s≤n/2^b')∧n/2^b<2*s
theorem split_le{n s b:Nat}(h:∀b',b'<b→2*s≤n/2^b')(hs:1≤s)(hn:n≤1000):b≤10:=
 Nat.le_of_not_lt fun q=>by
  have:=h 10 q
  rw [Nat.div_eq_of_lt (show n<2^10 from Nat.lt_of_le_of_lt hn (by decide))]at this
  exact absurd (Nat.le_zero.mp this) (Nat.ne_of_gt (Nat.mul_pos (by decide) hs))
noncomputable abbrev T3(H:Hp)(t a b c:Nat):Prop:=H t=some (.tuple [.int (a:Nat),.int (b:Nat),.int (c:Nat)])
noncomputable def cSplit:Con:=fun xs H Q _=>∀R:List V→Prop,(∀n s:Nat,n≤1000→(s=2∨s=4)→(∀b,IsSplit n s b→b≤10→∀H' t,Ex [] H H'→H t=none→T3 H' t (s*b+n/2^b) b (n%2^b)→Q (.ref t) H')→R [.int n,.int s])→R xs
theorem cSplit.mk{n s:Nat}{H:Hp}{Q:QV}{X:QX}(h:n≤1000)(h2:s=2∨s=4)(k:∀b,IsSplit n s b→b≤10→∀H' t,Ex [] H H'→H t=none→T3 H' t (s*b+n/2^b) b (n%2^b)→Q (.ref t) H'):cSplit [.int n,.int s] H Q X:=fun _ z=>z _ _ h h2 k
theorem p_split(C:CT):Does C t_split_number 3 2 [] cSplit:=fun xs H Q X h=>h _ fun n s hn hs h=>by
 have hs4:1≤s∧s≤4:=hs.elim (fun e=>by rw [e];decide) fun e=>by rw [e];decide
 refine ⟨rfl,iWh (fun k m H'=>∀R:Nat→M→Hp→Prop,(∀b:Nat,(∀b',b'<b→2*s≤n/2^b')→R (20-b) [some (.int (n:Nat)),some (.int (s:Nat)),some (.int (b:Nat))] H)→R k m H') (fun k m H' hI=>?_) (n:=20-0) fun R z=>z 0 fun b' h=>absurd h (Nat.not_lt_zero _)⟩
 refine hI (fun k m H=>wE _ _ m H (kWh _ _ k m _ _) _) fun b hb=>?_
 have hb10:=split_le hb hs4.1 hn
 refine iShr (iMul (by decide) (by exact lz [_,_] [] 2966321617181435397083652037021533796648265063554493595944563755734337 rfl hs4.2 (Int.natAbs_of_nonneg (lz [_] [] 23407716813381 rfl hs4.1))) (iTr (fun q=>?_) fun q=>?_))
 ·refine ⟨20-(b+1),by exact lz [_,_,_] [] 113151006664831096519527951062401 rfl (Nat.sub_add_cancel (lz [_] [] 16895735767704832 rfl hb10)) (Nat.sub_add_cancel (lz [_] [] 4144788612352 rfl hb10)),fun R z=>z (b+1) fun b' hlt=>?_⟩
  rcases Nat.lt_succ_iff_lt_or_eq.mp hlt with q' |rfl
  ·exact hb b' q'
  ·exact Int.ofNat_le.mp (show ((2*s:Nat):Int)≤_ from q)
 ·have q:=Int.ofNat_lt.mp (show _<((2*s:Nat):Int) from Int.not_le.mp q)
  refine iMul (by exact lz [_,_] [] 2966321617181435397083652037021533796648265063554493595944563755734337 rfl hs4.2 (Int.natAbs_of_nonneg (lz [_] [] 23407716813381 rfl hs4.1))) (by exact lz [_,_] [] 2966321617181435397083652037021533796648265063554493597633413615998273 rfl hb10 (Int.natAbs_of_nonneg (lz [_] [] 1395205 rfl))) (iShr (iAdd (c:=(s*b+n/2^b:Nat)) (by rw [Int.natCast_add,Int.natCast_mul]) (iShl (a:=1) (by exact lz [_] [] 7928277721802024192 rfl hb10) (by decide) (iSub (pred2 b) (iAnd fun t ht=>h b ⟨hb,q⟩ hb10 _ t (.put ht) ht ?_)))))
  show _=some (O.tuple [_,_,.int (n%2^b:Nat)]);rw [←and_mod];exact pself
noncomputable def cLSym:Con:=fun xs H Q _=>∀R:List V→Prop,(∀l:Nat,3≤l→l≤200→(∀b,IsSplit (l-3) 4 b→b≤10→∀H' t,Ex [] H H'→H t=none→T3 H' t (257+(4*b+(l-3)/2^b)) b ((l-3)%2^b)→Q (.ref t) H')→R [.int l])→R xs
theorem cLSym.mk{l:Nat}{H:Hp}{Q:QV}{X:QX}(h:3≤l)(h2:l≤200)(k:∀b,IsSplit (l-3) 4 b→b≤10→∀H' t,Ex [] H H'→H t=none→T3 H' t (257+(4*b+(l-3)/2^b)) b ((l-3)%2^b)→Q (.ref t) H'):cLSym [.int l] H Q X:=fun _ z=>z _ h h2 k
theorem p_lsym(C:CT)(hs:Sup C "split_number" cSplit):Does C t_length_symbol 5 1 [] cLSym:=fun xs H Q X h=>h _ fun l h3 h200 h=>by
 refine ⟨rfl,iTf (fun z=>by have:=Int.ofNat_inj.mp (show (l:Int)=(258:Nat) from z);exact lz [_] [] 167165926240244586590524682 rfl h200 z) (iSub (c:=(l-3:Nat)) (Int.ofNat_sub h3).symm (hs _ _ _ _ (cSplit.mk (s:=4) (by exact lz [_,_] [] 2231611787402018813219662920594752 rfl h200 (Nat.sub_add_cancel (lz [_] [] 1420705483456 rfl h3))) (.inr rfl) fun b hb hb10 H1 t x1 nt ht=>iBT ht rfl (iAdd rfl fun t2 ht2=>?_))))⟩
 exact h b hb hb10 _ t2 (x1.put1 ht2) (x1.nn0 ht2) pself
noncomputable def cDSym:Con:=fun xs H Q _=>∀R:List V→Prop,(∀d:Nat,1≤d→d≤200→(∀b,IsSplit (d-1) 2 b→b≤10→∀H' t,Ex [] H H'→H t=none→T3 H' t (2*b+(d-1)/2^b) b ((d-1)%2^b)→Q (.ref t) H')→R [.int d])→R xs
theorem cDSym.mk{d:Nat}{H:Hp}{Q:QV}{X:QX}(h:1≤d)(h2:d≤200)(k:∀b,IsSplit (d-1) 2 b→b≤10→∀H' t,Ex [] H H'→H t=none→T3 H' t (2*b+(d-1)/2^b) b ((d-1)%2^b)→Q (.ref t) H'):cDSym [.int d] H Q X:=fun _ z=>z _ h h2 k
theorem p_dsym(C:CT)(hs:Sup C "split_number" cSplit):Does C t_distance_symbol 2 1 [] cDSym:=fun xs H Q X h=>h _ fun d h1 h200 h=>
 ⟨rfl,iSub (c:=(d-1:Nat)) (Int.ofNat_sub h1).symm (hs _ _ _ _ (cSplit.mk (s:=2) (Nat.le_trans (Nat.sub_le _ _) (Nat.le_trans h200 (by decide))) (.inl rfl) h))⟩
noncomputable def splitB(n s b:Nat):Bool:=((List.range b).all fun b'=>decide (2*s≤n/2^b'))&&decide (n/2^b<2*s)
theorem splitB_of{n s b:Nat}(h:IsSplit n s b):splitB n s b=true:=by
 unfold splitB
 rw [decide_eq_true h.2,Bool.and_true,List.all_eq_true]
 exact fun b' hb=>decide_eq_true (h.1 b' (List.mem_range.mp hb))
theorem all2{N M:Nat}{p q:Nat→Nat→Bool}(h:((List.range N).all fun l=>(List.range M).all fun b => !p l b||q l b)=true){l b:Nat}(hl:l<N)(hb:b<M)(k:p l b=true):q l b=true:=by
 have:=List.all_eq_true.mp (List.all_eq_true.mp h l (List.mem_range.mpr hl)) b (List.mem_range.mpr hb)
 rwa [k]at this
theorem lsym_lt{l b:Nat}(h2:l≤200)(hb:b≤10)(h:IsSplit (l-3) 4 b):257+(4*b+(l-3)/2^b)<286∧b≤5:=
 of_decide_eq_true (all2 (N:=201) (M:=11) (p:=fun l b=>splitB (l-3) 4 b) (q:=fun l b=>decide (257+(4*b+(l-3)/2^b)<286∧b≤5)) (by decide +kernel) (Nat.lt_succ_of_le h2) (Nat.lt_succ_of_le hb) (splitB_of h))
theorem dsym_lt{l b:Nat}(h2:l≤200)(hb:b≤10)(h:IsSplit (l-1) 2 b):2*b+(l-1)/2^b<30∧b≤13:=
 of_decide_eq_true (all2 (N:=201) (M:=11) (p:=fun l b=>splitB (l-1) 2 b) (q:=fun l b=>decide (2*b+(l-1)/2^b<30∧b≤13)) (by decide +kernel) (Nat.lt_succ_of_le h2) (Nat.lt_succ_of_le hb) (splitB_of h))
structure IsPr(H:Hp)(p dp a b:Nat):Prop where
 i:InstAt H p "Prices" dp [("literals",.ref a),("distances",.ref b)]
 a:H a=some (.list (nts litL))
 b:H b=some (.list (nts dstL))
theorem IsPr.up{H H':Hp}{x d t s:Nat}{S:List Nat}(h:IsPr H x d t s)(k:Ex S H H')(h1:x∉S)(h2:d∉S)(h3:t∉S)(h4:s∉S):IsPr H' x d t s:=⟨h.i.up k h1 h2,k _ _ h3 h.a,k _ _ h4 h.b⟩
noncomputable def cPrInit:Con:=fun xs H Q _=>∀R:List V→Prop,(∀x d a b,H x=some (.inst "Prices" d)→H d=some (.flds [])→H a=some (.list (nts litL))→H b=some (.list (nts dstL))→(∀H',Ex [d] H H'→IsPr H' x d a b→Q .none H')→R [.ref x,.ref a,.ref b])→R xs
theorem cPrInit.mk{x d a b:Nat}{H:Hp}{Q:QV}{X:QX}(h1:H x=some (.inst "Prices" d))(h2:H d=some (.flds []))(h3:H a=some (.list (nts litL)))(h4:H b=some (.list (nts dstL)))(k:∀H',Ex [d] H H'→IsPr H' x d a b→Q .none H'):cPrInit [.ref x,.ref a,.ref b] H Q X:=fun _ z=>z _ _ _ _ h1 h2 h3 h4 k
theorem p_prInit(C:CT):Does C t_Prices_init 3 3 [] cPrInit:=fun xs H Q X h=>h _ fun x d a b h1 h2 ha hb h=>
 ⟨rfl,InstAt.sa ⟨h1,h2⟩ rfl rfl fun i=>i.sa rfl rfl fun i=>h _ ((Ex.set m0).set1 m0) ⟨i,putn (putn ha (neO ha h2 nofun)) (neO ha h2 nofun),putn (putn hb (neO hb h2 nofun)) (neO hb h2 nofun)⟩⟩
noncomputable def cPrLit:Con:=fun xs H Q _=>∀R:List V→Prop,(∀x d a b,∀o:Nat,IsPr H x d a b→o<256→(∀i:Int,Q (.int i) H)→R [.ref x,.int o])→R xs
theorem cPrLit.mk{x d a b o:Nat}{H:Hp}{Q:QV}{X:QX}(h:IsPr H x d a b)(h2:o<256)(k:∀i:Int,Q (.int i) H):cPrLit [.ref x,.int o] H Q X:=fun _ z=>z _ _ _ _ _ h h2 k
theorem lit_len:litL.length=288∧dstL.length=32:=by decide +kernel
theorem p_prLit(C:CT):Does C t_Prices_literal 3 2 [] cPrLit:=fun xs H Q X h=>h _ fun x d a b o hP ho h=>
 ⟨rfl,iA (.iAt hP.i rfl) (iI (Nat.lt_trans ho (by decide)) (itN hP.a (Nat.lt_of_lt_of_le ho (Nat.le_trans (by decide) (Nat.le_of_eq lit_len.1.symm)))) (iOrI (h _) (h _)))⟩
noncomputable def cPrMat:Con:=fun xs H Q _=>∀R:List V→Prop,(∀x d a b,∀l ds:Nat,IsPr H x d a b→3≤l→l≤200→1≤ds→ds≤200→(∀(i:Int) H',Ex [] H H'→Q (.int i) H')→R [.ref x,.int l,.int ds])→R xs
theorem cPrMat.mk{x d a b l ds:Nat}{H:Hp}{Q:QV}{X:QX}(h:IsPr H x d a b)(h1:3≤l)(h2:l≤200)(h3:1≤ds)(h4:ds≤200)(k:∀(i:Int) H',Ex [] H H'→Q (.int i) H'):cPrMat [.ref x,.int l,.int ds] H Q X:=fun _ z=>z _ _ _ _ _ _ h h1 h2 h3 h4 k
theorem p_prMat(C:CT)(hl:Sup C "length_symbol" cLSym)(hd:Sup C "distance_symbol" cDSym):Does C t_Prices_match 11 3 [] cPrMat:=fun xs H Q X h=>h _ fun x d a b l ds hP h3 h200 h1 hd200 h=>by
 refine ⟨rfl,hl _ _ _ _ (cLSym.mk h3 h200 fun k hk hk10 H1 t x1 nt ht=>iBT ht rfl (hd _ _ _ _ (cDSym.mk h1 hd200 fun j hj hj10 H2 t2 x2 nt2 ht2=>iBT ht2 rfl ?_)))⟩
 have hP2:=hP.up (x1.trans x2) n0 n0 n0 n0
 have q1:=(lsym_lt h200 hk10 hk).1
 have q2:=(dsym_lt hd200 hj10 hj).1
 have hq1:=Nat.lt_of_lt_of_le q1 (Nat.le_trans (by decide) (Nat.le_of_eq lit_len.1.symm):286≤_)
 have hq2:=Nat.lt_of_lt_of_le q2 (Nat.le_trans (by decide) (Nat.le_of_eq lit_len.2.symm):30≤_)
 refine iA (.iAt hP2.i rfl) (iI (Nat.lt_trans q1 (by decide)) (itN hP2.a hq1) (iOrI (iAdd rfl ?_) (iAdd rfl ?_)))
 all_goals exact iA (.iAt hP2.i rfl) (iI (Nat.lt_trans q2 (by decide)) (itN hP2.b hq2) (iOrI (iAdd rfl (iAdd rfl (h _ _ (x1.trans x2)))) (iAdd rfl (iAdd rfl (h _ _ (x1.trans x2))))))
section
noncomputable def cKey:Con:=fun xs H Q _=>∀R:List V→Prop,(∀b,∀a:Nat,a+3≤b.length→b.length≤100000→(∀c∈b,c<256)→(∀K:Int,Q (.int K) H)→R [.bytes b,.int a])→R xs
theorem cKey.mk{b:List Nat}{a:Nat}{H:Hp}{Q:QV}{X:QX}(h:a+3≤b.length)(h2:b.length≤100000)(h3:∀c∈b,c<256)(k:∀K:Int,Q (.int K) H):cKey [.bytes b,.int a] H Q X:=fun _ z=>z _ _ h h2 h3 k
theorem p_key(C:CT):Does C t_key_at 2 2 [] cKey:=fun xs H Q X h=>h _ fun b a ha hb hby h=>by
 have hz:∀{x:Nat},x<256→(x:Int).natAbs<18446744073709551616:=fun h=>Nat.lt_trans h (by decide)
 have b1:=hby _ (List.mem_of_getElem? (getD_get (l:=b) (i:=a+1) (by exact lz [_,_] [] 24240995024360617217 rfl ha)))
 have b2:=hby _ (List.mem_of_getElem? (getD_get (l:=b) (i:=a+2) (by exact lz [_,_] [] 24241276499337327873 rfl ha)))
 exact ⟨rfl,iI (by exact lz [_,_] [] 10538444621308320150685313221467976901503150975159301441 rfl ha hb) (itB (by exact lz [_,_] [] 5999529573135617 rfl ha)) (iAdd (c:=(a+1:Nat)) rfl (iI (by exact lz [_,_] [] 43165469168878879337206658942220325418903019532361531848001 rfl ha hb) (itB (by exact lz [_,_] [] 24240995024360617217 rfl ha)) (iMul (by decide) (hz b1) (iAdd rfl (iAdd (c:=(a+2:Nat)) rfl (iI (by exact lz [_,_] [] 43165469168878879337206659266738879077329746315517552424257 rfl ha hb) (itB (by exact lz [_,_] [] 24241276499337327873 rfl ha)) (iMul (by decide) (hz b2) (iAdd rfl (h _)))))))))⟩
noncomputable def iV(l:List Int):List V:=l.map .int
theorem iV_get{l:List Int}{i:Nat}{z:Int}(h:l[i]?=some z):(iV l)[i]?=some (.int z):=by unfold iV;rw [List.getElem?_map,h];rfl
theorem iV_len(l:List Int):(iV l).length=l.length:=List.length_map _
theorem iV_snoc(l:List Int)(z:Int):iV l++[V.int z]=iV (l++[z]):=by unfold iV;rw [List.map_append];rfl
structure IsCh(H:Hp)(c dc hd er:Nat)(oct:List Nat)(es:List (Int×Int))(ear:List Int):Prop where
 i:InstAt H c "Chains" dc [("octets",.bytes oct),("heads",.ref hd),("earlier",.ref er)]
 hd:H hd=some (.dict es)
 er:H er=some (.list (iV ear))
section
variable {H H':Hp}{c dc hd er:Nat}{oct:List Nat}{es:List (Int×Int)}{ear:List Int}(h:IsCh H c dc hd er oct es ear)
include h
theorem IsCh.up{S:List Nat}(k:Ex S H H')(h1:c∉S)(h2:dc∉S)(h3:hd∉S)(h4:er∉S):IsCh H' c dc hd er oct es ear:=⟨h.i.up k h1 h2,k _ _ h3 h.hd,k _ _ h4 h.er⟩
theorem IsCh.put_hd(es':List (Int×Int)):IsCh (H.put hd (.dict es')) c dc hd er oct es' ear:=⟨⟨putn h.i.i (neO h.i.i h.hd nofun),putn h.i.f (neO h.i.f h.hd nofun)⟩,pself,putn h.er (neO h.er h.hd nofun)⟩
theorem IsCh.put_er(e':List Int):IsCh (H.put er (.list (iV e'))) c dc hd er oct es e':=⟨⟨putn h.i.i (neO h.i.i h.er nofun),putn h.i.f (neO h.i.f h.er nofun)⟩,putn h.hd (neO h.hd h.er nofun),pself⟩
end
structure ChOk(es:List (Int×Int))(ear:List Int)(top:Nat):Prop where
 he:∀p∈es,p.2<(top:Int)
 hear:∀(i:Nat) (z:Int),ear[i]?=some z→z<(i:Int)
 len:es.length≤top
theorem lookup_mem{k v:Int}:∀{es:List (Int×Int)},es.lookup k=some v→(k,v)∈es
 | [],h=>noS h
 | (a,b)::es,h=>by
  rw [List.lookup_cons]at h
  cases q:k == a with
  |true=>rw [q]at h;rw [beq_iff_eq.mp q,sI h];exact .head _
  |false=>rw [q]at h;exact .tail _ (lookup_mem h)
theorem setI_mem{es:List (Int×Int)}{k v:Int}{p:Int×Int}(h:p∈setI k v es):p∈es∨p.2=v:=by
 unfold setI at h
 by_cases q:(es.any fun e=>decide (e.1=k))=true
 ·rw [if_pos q]at h
  obtain ⟨q,hq,e⟩:=List.mem_map.mp h
  by_cases w:q.1=k
  ·rw [if_pos w]at e;exact .inr (e▸rfl)
  ·rw [if_neg w]at e;exact .inl (e▸hq)
 ·rw [if_neg q]at h
  exact (List.mem_append.mp h).imp id fun z=>by rw [List.mem_singleton.mp z]
theorem setI_len(es:List (Int×Int))(k v:Int):(setI k v es).length≤es.length+1:=by
 unfold setI
 by_cases q:(es.any fun e=>decide (e.1=k))=true
 ·rw [if_pos q,List.length_map];exact Nat.le_succ _
 ·rw [if_neg q,List.length_append];exact Nat.le_refl _
noncomputable def ChS(H:Hp)(c dc hd er:Nat)(oct:List Nat)(n:Nat):Prop:=∀R:Prop,(∀es ear,IsCh H c dc hd er oct es ear→ChOk es ear n→ear.length=n→R)→R
theorem ChS.up{H H':Hp}{c dc hd er n:Nat}{oct:List Nat}{S:List Nat}(h:ChS H c dc hd er oct n)(k:Ex S H H')(h1:c∉S)(h2:dc∉S)(h3:hd∉S)(h4:er∉S):ChS H' c dc hd er oct n:=fun R z=>h R fun es ear i=>z es ear (i.up k h1 h2 h3 h4)
noncomputable def cChPut:Con:=fun xs H Q _=>∀R:List V→Prop,(∀c dc hd er oct n,∀e:Nat,ChS H c dc hd er oct n→oct.length≤1000→(∀c∈oct,c<256)→n≤e→e≤1000→(∀H',Ex [hd,er] H H'→ChS H' c dc hd er oct e→Q .none H')→R [.ref c,.int e])→R xs
theorem cChPut.mk{c dc hd er n e:Nat}{oct:List Nat}{H:Hp}{Q:QV}{X:QX}(h1:ChS H c dc hd er oct n)(h2:oct.length≤1000)(h3:∀c∈oct,c<256)(h4:n≤e)(h5:e≤1000)(k:∀H',Ex [hd,er] H H'→ChS H' c dc hd er oct e→Q .none H'):cChPut [.ref c,.int e] H Q X:=fun _ z=>z _ _ _ _ _ _ _ h1 h2 h3 h4 h5 k
noncomputable def I_chPut(H:Hp)(c dc hd er:Nat)(oct:List Nat)(e:Nat)(k:Nat)(m:M)(H':Hp):Prop:=
 ∀R:Nat→M→Prop,(∀v2 v3 v4 n,Ex [hd,er] H H'→ChS H' c dc hd er oct n→n≤e→R (e-n) [some (.ref c),some (.int (e:Nat)),v2,v3,v4,none,none,none])→R k m
theorem look_lt{es:List (Int×Int)}{n:Nat}(h:∀p∈es,p.2<(n:Int))(K:Int):(es.lookup K).getD (-1)<(n:Int):=by
 cases q:es.lookup K with
 |none=>exact Int.natCast_nonneg n
 |some v=>exact h _ (lookup_mem q)
theorem p_chPut(C:CT)(hk:Sup C "key_at" cKey):Does C t_Chains_put 8 2 [] cChPut:=fun xs H Q X h=>h _ fun c dc hd er oct n e hS hol hby hle he h=>by
 refine ⟨rfl,iWh (I_chPut H c dc hd er oct e) (fun k m H' hI=>?_) (n:=e-n) fun R z=>z none none none n (.refl _ _) hS hle⟩
 refine hI (fun k m=>wE _ _ m _ (kWh _ _ k m _ _) _) fun v2 v3 v4 n hex hS hle=>hS _ fun es ear hH hO hn=>?_
 have hl:(iV ear).length≤16777216:=by rw [iV_len];exact lz [_,_,_] [] 2572851042225840681120785937685023191972251435357568 rfl he hle hn
 refine iA (.iAt hH.i rfl) (iL (.list hH.er) hl (iTr (fun q=>?_) fun q=>?_))
 ·rw [iV_len,hn]at q
  have q:n<e:=Int.ofNat_lt.mp q
  refine iA (.iAt hH.i rfl) (iL (.list hH.er) hl ?_)
  rw [iV_len,hn]
  -- the append at the end
  have last:∀(Q0:QS) (H2:Hp) (es2:List (Int×Int)) (z:Int) (w4:Option V),Ex [hd,er] H H2→IsCh H2 c dc hd er oct es2 ear→ChOk es2 ear (n+1)→z<(n:Int)→
    wSs C (.cons (.expr (.app (.attr (.loc 0) "earlier") (.loc 3))) .nil) [some (.ref c),some (.int (e:Nat)),some (.int (n:Nat)),some (.int z),w4,none,none,none] H2 (kWb (I_chPut H c dc hd er oct e) (e-n) Q0) X:=fun Q0 H2 es2 z w4 hx2 hH2 hO2 hz=>by
   refine iA (.iAt hH2.i rfl) (iApL hH2.er (iAppL hH2.er (by rw [iV_len];exact lz [_,_,_] [] 10538485557628035591319102353355392693642310347253634433 rfl he hn ‹_›) (iX ⟨e-(n+1),Nat.sub_lt_sub_left q (Nat.lt_succ_self n),fun R z'=>z' _ _ _ (n+1) (hx2.set1 m1) (fun R z'=>z' es2 (ear++[z]) ?_ ⟨hO2.he,fun i y hy=>?_,hO2.len⟩ (by rw [List.length_append,hn];rfl)) q⟩)))
   ·rw [iV_snoc];exact hH2.put_er _
   ·rcases Nat.lt_or_ge i ear.length with q |q
    ·rw [List.getElem?_append_left q]at hy;exact hO2.hear i y hy
    ·rw [List.getElem?_append_right q]at hy
     obtain ⟨h1,h2⟩:=List.getElem?_eq_some_iff.mp hy
     have h1:i-ear.length<1:=h1
     have h3:i=n:=by exact Nat.le_antisymm (lz [_,_,_,_] [] 108318077054749850519488803718528 rfl hn h1 (Nat.sub_add_cancel (lz [_,_] [] 1464728900864 rfl q))) (lz [_,_,_] [] 1647706281752821851392 rfl hn q)
     have h4:i-ear.length=0:=Nat.lt_one_iff.mp h1
     simp only [h4]at h2
     rw [h3];exact (show _=y from h2)▸hz
  have hO1:ChOk es ear (n+1):=⟨fun p hp=>Int.lt_trans (hO.he p hp) (Int.ofNat_lt.mpr (Nat.lt_succ_self n)),hO.hear,Nat.le_succ_of_le hO.len⟩
  refine iAdd (c:=(n+3:Nat)) rfl (iA (.iAt hH.i rfl) (iL (.bytes _) (by exact lz [_] [] 9140603091231869403225988196777497856 rfl hol) (iTr (fun k3=>?_) fun k3=>last _ _ es (-1) _ hex hH hO1 (Int.natCast_nonneg n))))
  refine iA (.iAt hH.i rfl) (hk _ _ _ _ (cKey.mk (Int.ofNat_le.mp k3) (by exact lz [_] [] 544826026371977984614829823232 rfl hol) hby fun K=>iA (.iAt hH.i rfl) (iDg hH.hd ⟨hH.hd,iA (.iAt hH.i rfl) (iSd hH.hd (Nat.lt_of_le_of_lt hO.len (by exact lz [_,_] [] 628137460885165891524532383058160258272874378561 rfl hol k3)) ?_)⟩)))
  refine last _ _ _ _ _ (hex.set1 m0) (hH.put_hd _) ⟨fun p hp=>?_,hO.hear,Nat.le_trans (setI_len es K _) (Nat.succ_le_succ hO.len)⟩ (look_lt hO.he K)
  exact (setI_mem hp).elim (hO1.he p) fun z=>z▸Int.ofNat_lt.mpr (Nat.lt_succ_self n)
 ·rw [iV_len,hn]at q
  have q:e≤n:=Int.ofNat_le.mp (Int.not_lt.mp q)
  exact h H' hex (Nat.le_antisymm hle q▸hS)
noncomputable def cChInit:Con:=fun xs H Q _=>∀R:List V→Prop,(∀x d oct,H x=some (.inst "Chains" d)→H d=some (.flds [])→(∀H' hd er,Ex [d] H H'→H hd=none→H er=none→ChS H' x d hd er oct 0→Q .none H')→R [.ref x,.bytes oct])→R xs
theorem cChInit.mk{x d:Nat}{oct:List Nat}{H:Hp}{Q:QV}{X:QX}(h1:H x=some (.inst "Chains" d))(h2:H d=some (.flds []))(k:∀H' hd er,Ex [d] H H'→H hd=none→H er=none→ChS H' x d hd er oct 0→Q .none H'):cChInit [.ref x,.bytes oct] H Q X:=fun _ z=>z _ _ _ h1 h2 k
theorem p_chInit(C:CT):Does C t_Chains_init 2 2 [] cChInit:=fun xs H Q X h=>h _ fun x d oct h1 h2 h=>by
 refine ⟨rfl,InstAt.sa ⟨h1,h2⟩ rfl rfl fun i=>fun hd hhd=>InstAt.sa ⟨putf i.i hhd,putf i.f hhd⟩ rfl rfl fun i2=>fun er her=>InstAt.sa ⟨putf i2.i her,putf i2.f her⟩ rfl rfl fun i3=>?_⟩
 have hdd:=(ne_of i.f hhd).symm
 have erd:=(ne_of i2.f her).symm
 have k3:=putn (o:=.flds [("octets",.bytes oct),("heads",.ref hd)]) (pself (H:=H.put d (.flds [("octets",.bytes oct)])) (a:=hd) (o:=.dict [])) hdd
 exact h _ hd er (((((Ex.set m0).put1 hhd).set1 m0).put1 her).set1 m0) (pnone hhd) (pnone (pnone (pnone her))) fun R z=>z [] [] ⟨i3,putn (putf k3 her) hdd,putn pself erd⟩ ⟨nofun,nofun,Nat.le_refl _⟩ rfl
noncomputable def cPlaces:Con:=fun xs H Q _=>∀R:List V→Prop,(∀c dc hd er oct,∀a mb:Nat,ChS H c dc hd er oct a→oct.length≤1000→(∀c∈oct,c<256)→(∀H' t l,Ex [] H H'→H t=none→H' t=some (.list (nts l))→(∀p∈l,p<a)→l.length≤8→Q (.ref t) H')→R [.ref c,.int a,.int mb,.int (8:Int)])→R xs
theorem cPlaces.mk{c dc hd er a mb:Nat}{oct:List Nat}{H:Hp}{Q:QV}{X:QX}(h1:ChS H c dc hd er oct a)(h2:oct.length≤1000)(h3:∀c∈oct,c<256)(k:∀H' t l,Ex [] H H'→H t=none→H' t=some (.list (nts l))→(∀p∈l,p<a)→l.length≤8→Q (.ref t) H'):cPlaces [.ref c,.int a,.int mb,.int (8:Int)] H Q X:=fun _ z=>z _ _ _ _ _ _ _ h1 h2 h3 k
noncomputable def I_places(H:Hp)(c a mb t:Nat)(k:Nat)(m:M)(H':Hp):Prop:=
 ∀R:Nat→M→Prop,(∀(z:Int) (l:List Nat),z<(a:Int)→(∀p∈l,p<a)→l.length≤8→Ex [] H H'→H' t=some (.list (nts l))→R (8-l.length) [some (.ref c),some (.int (a:Nat)),some (.int (mb:Nat)),some (.int (8:Int)),some (.ref t),some (.int z),none,none,none])→R k m
theorem iAnB{W:WE}{m:M}{Q:QV}{X:QX}{H:Hp}{p:Prop}[Decidable p](h1:p→W m H Q X)(h2:¬p→Q (.bool false) H):KTr (kBop2 W m Q X true (.bool (decide p))) H (.bool (decide p)):=iTr h1 fun q=>by
 show Q _ _;rw [decide_eq_false q];exact h2 q
theorem p_places(C:CT)(hk:Sup C "key_at" cKey):Does C t_Chains_places 9 4 [] cPlaces:=fun xs H Q X h=>h _ fun c dc hd er oct a mb hS hol hby h=>by
 refine ⟨rfl,fun t ht=>hS _ fun es ear hH hO hn=>?_⟩
 have x1:Ex [] H (H.put t (.list [])):=.put ht
 have hH1:=hH.up x1 n0 n0 n0 n0
 refine iAdd (c:=(a+3:Nat)) rfl (iA (.iAt hH1.i rfl) (iL (.bytes _) (by exact lz [_] [] 9140603091231869403225988196777497856 rfl hol) (iTr (fun q=>h _ t [] x1 ht pself nofun (Nat.zero_le _)) fun q=>?_)))
 have q:a+3≤oct.length:=Int.ofNat_le.mp (Int.not_lt.mp q)
 refine iA (.iAt hH1.i rfl) (iDg hH1.hd (iA (.iAt hH1.i rfl) (hk _ _ _ _ (cKey.mk q (by exact lz [_] [] 544826026371977984614829823232 rfl hol) hby fun K=>⟨hH1.hd,?_⟩))))
 refine iWh (I_places H c a mb t) (fun k m H' hI=>?_) (n:=8-0) fun R z=>z _ [] (look_lt hO.he K) nofun (Nat.zero_le _) x1 pself
 refine hI (fun k m=>wE _ _ m _ (kWh _ _ k m _ _) _) fun z l hz hl hl8 hex ht'=>?_
 have hH':=hH.up hex n0 n0 n0 n0
 have stop:Q (.ref t) H':=h H' t l hex ht ht' hl hl8
 refine iAnB (fun q0=>iSub rfl (iAnB (fun q1=>iL (.list ht') (lenI (by exact lz [_] [] 544822400285713041020988884224 rfl hl8)) (iTr (fun q2=>?_) fun q2=>stop)) fun _=>iTb stop)) fun _=>iTb stop
 have q2:l.length<8:=by rw [ints_len]at q2;exact Int.ofNat_lt.mp q2
 obtain ⟨z,rfl⟩:=Int.eq_ofNat_of_zero_le q0
 have hz:=Int.ofNat_lt.mp hz
 have hzl:z<ear.length:=hn▸hz
 have hg:=List.getElem?_eq_getElem hzl
 have hlt:=hO.hear _ _ hg
 refine iApL ht' (iAppL ht' (by rw [ints_len];exact lz [_] [] 544826933683749619585555825921 rfl hl8) (iX (iA (.iAt (hH'.up (S:=[t]) (.set m0) (n1 (ne_of hH.i.i ht)) (n1 (ne_of hH.i.f ht)) (n1 (ne_of hH.hd ht)) (n1 (ne_of hH.er ht))).i rfl) (iI (by exact lz [_,_,_] [] 724196399987621436478260093259021376920452566860427870447609337217 rfl hol ‹_› ‹_›) (.list (putn hH'.er (ne_of hH.er ht)) (iV_get hg)) ?_))))
 refine ⟨8-(l.length+1),Nat.sub_lt_sub_left q2 (Nat.lt_succ_self _),fun R w=>?_⟩
 have w:=w _ (l++[z]) (Int.lt_trans hlt (Int.ofNat_lt.mpr hz)) (fun p hp=>(List.mem_append.mp hp).elim (hl p) fun e=>List.mem_singleton.mp e▸hz) (by rw [List.length_append];exact q2) (hex.new ht) (putL (ints_app l [z]).symm)
 rw [List.length_append]at w;exact w
end
theorem min_c(x y:Nat):min (x:Int) y=((min x y:Nat):Int):=by
 rw [Int.min_def,Nat.min_def]
 by_cases q:x≤y
 ·rw [if_pos q,if_pos (Int.ofNat_le.mpr q)]
 ·rw [if_neg q,if_neg fun z=>q (Int.ofNat_le.mp z)]
noncomputable def cCommon:Con:=fun xs H Q _=>∀R:List V→Prop,(∀b,∀p a mst:Nat,p<a→a≤b.length→b.length≤1000→(∀L:Nat,a+L≤b.length→L≤mst→(∀j,j<L→b.getD (p+j) 0=b.getD (a+j) 0)→Q (.int L) H)→R [.bytes b,.int p,.int a,.int mst])→R xs
theorem cCommon.mk{b:List Nat}{p a mst:Nat}{H:Hp}{Q:QV}{X:QX}(h1:p<a)(h2:a≤b.length)(h3:b.length≤1000)(k:∀L:Nat,a+L≤b.length→L≤mst→(∀j,j<L→b.getD (p+j) 0=b.getD (a+j) 0)→Q (.int L) H):cCommon [.bytes b,.int p,.int a,.int mst] H Q X:=fun _ z=>z _ _ _ _ h1 h2 h3 k
theorem p_common(C:CT):Does C t_common_length 8 4 [] cCommon:=fun xs H Q X h=>h _ fun b p a mst hpa hab hb h=>by
 refine ⟨rfl,iL (.bytes _) (by exact lz [_] [] 9140603091231869403225988196777497856 rfl hb) (iSub (Int.ofNat_sub hab).symm (iMM (min_c _ _) ?_))⟩
 have h1:=Nat.min_le_left (b.length-a) mst
 have h2:=Nat.min_le_right (b.length-a) mst
 generalize min (b.length-a) mst=E at *
 refine iWh (fun k m H'=>∀R:Nat→M→Hp→Prop,(∀L:Nat,L≤E→(∀j,j<L→b.getD (p+j) 0=b.getD (a+j) 0)→R (E-L) [some (.bytes b),some (.int (p:Nat)),some (.int (a:Nat)),some (.int (mst:Nat)),some (.int (L:Nat)),some (.int (E:Nat)),none,none] H)→R k m H') (fun k m H' hI=>?_) (n:=E-0) fun R z=>z 0 (Nat.zero_le _) fun j hj=>absurd hj (Nat.not_lt_zero j)
 refine hI (fun k m H=>wE _ _ m H (kWh _ _ k m _ _) _) fun L hL hall=>?_
 have stop:Q (.int (L:Nat)) H:=h L (by exact lz [_,_,_,_,_] [] 7795287549634021704653118592349504 rfl h1 hL (Nat.sub_add_cancel (lz [_,_] [] 1464728900864 rfl hab))) (Nat.le_trans hL h2) hall
 refine iAnB (fun q=>?_) fun _=>iTb stop
 have q:=Int.ofNat_lt.mp q
 refine iAdd (c:=(p+L:Nat)) rfl (iI (by exact lz [_,_,_,_,_,_] [] 203843164820456660959404849710338440086304488815393203312635012708121311913006593 rfl hpa hb h1 ‹_› (Nat.sub_add_cancel (lz [_,_] [] 1464728900864 rfl hab))) (itB (by exact lz [_,_,_,_,_,_] [] 557999461769230498158511174964923308584555969 rfl hpa h1 ‹_› (Nat.sub_add_cancel (lz [_,_] [] 1464728900864 rfl hab)))) (iAdd (c:=(a+L:Nat)) rfl (iI (by exact lz [_,_,_,_,_] [] 12149999429014722166025927468583158637510612493683635481219634359446111617 rfl hb h1 ‹_› (Nat.sub_add_cancel (lz [_,_] [] 1464728900864 rfl hab))) (itB (by exact lz [_,_,_,_,_] [] 31929497803300981219126727749134546241 rfl h1 ‹_› (Nat.sub_add_cancel (lz [_,_] [] 1464728900864 rfl hab)))) (iTr (fun q2=>⟨E-(L+1),Nat.sub_lt_sub_left q (Nat.lt_succ_self L),fun R z=>z (L+1) q fun j hj=>?_⟩) fun _=>stop))))
 rcases Nat.lt_succ_iff_lt_or_eq.mp hj with q' |rfl
 ·exact hall j q'
 ·exact Int.ofNat_inj.mp q2
noncomputable def VM(oct:List Nat)(a l d:Nat):Prop:=3≤l∧l≤258∧a+l≤oct.length∧1≤d∧d≤a∧∀j,j<l→oct.getD (a-d+j) 0=oct.getD (a+j) 0
noncomputable def refs(rs:List Nat):List V:=rs.map .ref
theorem refs_len(rs:List Nat):(refs rs).length=rs.length:=List.length_map _
theorem refs_inv{rs:List Nat}{i:Nat}{v:V}(h:(refs rs)[i]?=some v):∃r,rs[i]?=some r∧v=.ref r:=by
 unfold refs at h
 rw [List.getElem?_map,Option.map_eq_some_iff]at h
 exact h.imp fun _ k=>⟨k.1,k.2.symm⟩
theorem refs_snoc(rs:List Nat)(r:Nat):refs rs++[.ref r]=refs (rs++[r]):=by unfold refs;rw [List.map_append];rfl
noncomputable def AllM(H0 H:Hp)(oct:List Nat)(a:Nat)(rs:List Nat):Prop:=∀r∈rs,H0 r=none∧∃l d:Nat,H r=some (.tuple [.int l,.int d])∧VM oct a l d
theorem AllM.up{H0 H H':Hp}{oct:List Nat}{a:Nat}{rs:List Nat}(h:AllM H0 H oct a rs)(k:∀r ts,H r=some (.tuple ts)→H' r=some (.tuple ts)):AllM H0 H' oct a rs:=fun r hr=>
 ⟨(h r hr).1,(h r hr).2.imp fun _ z=>z.imp fun _ z=>⟨k _ _ z.1,z.2⟩⟩
noncomputable def cMatches:Con:=fun xs H Q _=>∀R:List V→Prop,(∀c dc hd er oct n,∀a mb:Nat,ChS H c dc hd er oct n→oct.length≤1000→(∀c∈oct,c<256)→n≤a→a≤oct.length→(∀H' t rs,Ex [hd,er] H H'→ChS H' c dc hd er oct a→H t=none→H' t=some (.list (refs rs))→AllM H H' oct a rs→rs.length≤300→Q (.ref t) H')→R [.ref c,.int a,.int mb,.int (258:Nat),.int (8:Int)])→R xs
theorem cMatches.mk{c dc hd er n a mb:Nat}{oct:List Nat}{H:Hp}{Q:QV}{X:QX}(h1:ChS H c dc hd er oct n)(h2:oct.length≤1000)(h3:∀c∈oct,c<256)(h4:n≤a)(h5:a≤oct.length)(k:∀H' t rs,Ex [hd,er] H H'→ChS H' c dc hd er oct a→H t=none→H' t=some (.list (refs rs))→AllM H H' oct a rs→rs.length≤300→Q (.ref t) H'):cMatches [.ref c,.int a,.int mb,.int (258:Nat),.int (8:Int)] H Q X:=fun _ z=>z _ _ _ _ _ _ _ _ h1 h2 h3 h4 h5 k
structure MS_(H:Hp)(c dc hd er:Nat)(oct:List Nat)(a fd t0:Nat)(l rs:List Nat)(H':Hp):Prop where
 n:rs.length+2≤258
 x:Ex [hd,er] H H'
 s:ChS H' c dc hd er oct a
 t:H' t0=some (.list (nts l))
 f:H' fd=some (.list (refs rs))
 m:AllM H H' oct a rs
noncomputable def I_m2(H:Hp)(c dc hd er:Nat)(oct:List Nat)(a mb fd t0:Nat)(l:List Nat)(b L:Nat)(k:Nat)(m:M)(H':Hp):Prop:=
 ∀R:Nat→M→Prop,(∀rs,MS_ H c dc hd er oct a fd t0 l rs H'→R (300-(rs.length+2)) [some (.ref c),some (.int (a:Nat)),some (.int (mb:Nat)),some (.int (258:Nat)),some (.int (8:Int)),some (.ref fd),some (.int (rs.length+2:Nat)),some (.int (b:Nat)),some (.int (L:Nat)),none,none])→R k m
noncomputable def I_m1(H:Hp)(c dc hd er:Nat)(oct:List Nat)(a mb fd t0:Nat)(l:List Nat)(m:M)(H':Hp):Prop:=
 ∀R:M→Prop,(∀rs v7 v8,MS_ H c dc hd er oct a fd t0 l rs H'→R [some (.ref c),some (.int (a:Nat)),some (.int (mb:Nat)),some (.int (258:Nat)),some (.int (8:Int)),some (.ref fd),some (.int (rs.length+2:Nat)),v7,v8,none,none])→R m
theorem p_matches(C:CT)(hp:Sup C ("Chains"++"."++"put") cChPut)(hpl:Sup C ("Chains"++"."++"places") cPlaces)(hco:Sup C "common_length" cCommon):Does C t_matches_by_length 11 5 [] cMatches:=fun xs H Q X h=>h _ fun c dc hd er oct n a mb hS hol hby hle hao h=>by
 refine ⟨rfl,fun fd hfd=>iSub (c:=(2:Nat)) rfl (hS _ fun es ear hH hO hn=>?_)⟩
 have c1:=ne_of hH.i.i hfd
 have c2:=ne_of hH.i.f hfd
 have c3:=ne_of hH.hd hfd
 have c4:=ne_of hH.er hfd
 have x0:Ex [] H (H.put fd (.list [])):=.put hfd
 have S0:=hS.up x0 n0 n0 n0 n0
 refine iMe (hH.up x0 n0 n0 n0 n0).i rfl (hp _ _ _ _ (cChPut.mk S0 hol hby hle (by exact lz [_,_] [] 2231611787402018945677737259779392 rfl hol hao) fun H1 x1 S1=>iX ?_))
 have hfd1:=x1 _ _ (n2 c3.symm c4.symm) (pself (H:=H) (o:=.list []))
 have x01:=x0.mono0.trans x1
 refine S1 _ fun es ear hH1 _ _=>iMe hH1.i rfl (hpl _ _ _ _ (cPlaces.mk S1 hol hby fun H2 t0 l x2 nt0 ht0 hl hl8=>?_))
 have t0fd:=(ne_of hfd1 nt0).symm
 refine iOvL ht0 (lenI (by exact lz [_] [] 544822400285713041020988884224 rfl hl8)) (iForN (fun _ m H'=>I_m1 H c dc hd er oct a mb fd t0 l m H') (fun i b m H' hbi hI=>?_) (fun m H' hI=>?_) fun R z=>z [] none none ⟨by decide,x01.trans x2.mono0,S1.up x2 n0 n0 n0 n0,ht0,x2.at0 hfd1,fun r hr=>absurd hr n0⟩)
 ·refine hI (fun m=>H' _=some _∧wSs _ _ (m.set _ _) _ _ _) fun rs v7 v8 hM=>⟨hM.t,hM.s _ fun es ear hH' _ _=>?_⟩
  have hba:=hl b (List.mem_of_getElem? hbi)
  refine iA (.iAt hH'.i rfl) (hco _ _ _ _ (cCommon.mk hba hao hol fun L hL1 hL2 hall=>?_))
  refine iWh (I_m2 H c dc hd er oct a mb fd t0 l b L) (fun k m H3 hI=>?_) (n:=300-(rs.length+2)) fun R z=>z rs hM
  refine hI (fun k m=>wE _ _ m _ (kWh _ _ k m _ _) _) fun rs hM=>iTr (fun q=>?_) fun q=>fun R z=>z rs _ _ hM
  have q:=Int.ofNat_lt.mp q
  refine iApL hM.f (iSub (c:=(a-b:Nat)) (Int.ofNat_sub (Nat.le_of_lt hba)).symm fun tt htt=>iAppL (putf hM.f htt) (by rw [refs_len];exact lz [_,_] [] 628142688133003448922580621044102193407655847233 rfl hL2 ‹_›) (iX ?_))
  have tfd:=(ne_of hM.f htt).symm
  have x4:Ex [fd] H3 ((H3.put tt (.tuple [.int (rs.length+2+1:Nat),.int (a-b:Nat)])).put fd (.list (refs rs++[.ref tt]))):=(Ex.put htt).set1 m0
  have htH:H tt=none:=hM.s _ fun es ear hH3 _ _=>hM.x.nn (n2 (ne_of hH3.hd htt).symm (ne_of hH3.er htt).symm) htt
  have hn:=hM.n
  refine ⟨300-(rs.length+1+2),by exact lz [_,_,_] [] 31849172440795437219185789722662398005428704641 rfl (Nat.sub_add_cancel (lz [_,_] [] 37159932257474916907621033354167650264384 rfl hL2 ‹_›)) (Nat.sub_add_cancel (lz [_,_] [] 9072249110424111577378409736929977664 rfl hL2 ‹_›)),fun R z=>?_⟩
  have z:=z (rs++[tt]) ⟨by rw [List.length_append];show rs.length+1+2≤_;exact lz [_,_] [] 37667697351864754771070287651194741892416 rfl hL2 ‹_›,(hM.x.put1 htt).new hfd,hM.s.up x4 (n1 c1) (n1 c2) (n1 c3) (n1 c4),x4 _ _ (n1 t0fd) hM.t,putL (refs_snoc rs tt),fun r hr=>(List.mem_append.mp hr).elim (hM.m.up (fun r ts e=>x4 _ _ (n1 (neO e hM.f nofun)) e) r) fun e=>?_⟩
  ·rw [List.length_append]at z;exact z
  ·obtain rfl:=List.mem_singleton.mp e
   refine ⟨htH,rs.length+2+1,a-b,putn pself tfd,by exact Nat.le_add_left _ _,by exact lz [_,_] [] 37667697027425429275157825205632265266496 rfl hL2 ‹_›,by exact lz [_,_,_,_] [] 119866645051912186655945728963863457998272 rfl hL1 ‹_›,by exact lz [_,_,_] [] 6843420770222626291664256 rfl hba (Nat.sub_add_cancel (lz [_,_] [] 1464745678080 rfl hba)),Nat.sub_le _ _,fun j hj=>?_⟩
   rw [Nat.sub_sub_self (Nat.le_of_lt hba)]
   exact hall j (by exact lz [_,_,_] [] 6927602932548516378338218146874753 rfl ‹_› hj)
 ·exact hI (fun m=>H' _=some _∧kSeq _ _ _ _ m _) fun rs v7 v8 hM=>⟨hM.t,h H' fd rs hM.x hM.s hfd hM.f hM.m (by have:=hM.n;exact lz [_] [] 32231436303354357523712 rfl this)⟩
section
inductive Pre(oct:List Nat):List Part→Nat→Prop
 |nil:Pre oct [] 0
 |lit {ps:List Part} {a:Nat}:Pre oct ps a→a<oct.length→Pre oct (ps++[.lit (oct.getD a 0)]) (a+1)
 |mat {ps:List Part} {a l d:Nat}:Pre oct ps a→VM oct a l d→Pre oct (ps++[.mat l d]) (a+l)
inductive PVs(H:Hp):List V→List Part→Prop
 |nil:PVs H [] []
 |snoc {vs:List V} {ps:List Part} {v:V} {p:Part}:PVs H vs ps→PV H v p→PVs H (vs++[v]) (ps++[p])
noncomputable abbrev Tp(H H':Hp):Prop:=∀t ts,H t=some (.tuple ts)→H' t=some (.tuple ts)
theorem tkL{H:Hp}{a:Nat}{vs:List V}{o:O}(h:H a=some (.list vs)):Tp H (H.put a o):=fun _ _ e=>putn e (neO e h nofun)
theorem Ex.tk{H H':Hp}(h:Ex [] H H'):Tp H H':=fun _ _ e=>h.at0 e
theorem PV.up{H H':Hp}{v:V}:∀{p:Part},PV H v p→Tp H H'→PV H' v p
 | .lit _,h,_=>h
 | .stop,h,_=>h
 | .mat _ _,h,k=>h.imp fun _ z=>⟨z.1,k _ _ z.2⟩
theorem PVs.up{H H':Hp}{vs:List V}{ps:List Part}(h:PVs H vs ps)(k:Tp H H'):PVs H' vs ps:=by
 induction h with
 |nil=>exact .nil
 |snoc _ hv ih=>exact .snoc ih (hv.up k)
theorem PVs.len{H:Hp}{vs:List V}{ps:List Part}(h:PVs H vs ps):vs.length=ps.length:=by
 induction h with
 |nil=>rfl
 |snoc _ _ ih=>simp only [List.length_append,List.length_append,ih];rfl
theorem Pre.len{oct:List Nat}{ps:List Part}{a:Nat}(h:Pre oct ps a):ps.length≤a∧a≤oct.length:=by
 induction h with
 |nil=>exact ⟨Nat.le_refl _,Nat.zero_le _⟩
 |lit _ h ih=>rw [List.length_append];exact ⟨by simp;exact lz [_,_] [] 1464728900864 rfl ih.1,by exact lz [_,_] [] 5918211692647680 rfl h⟩
 |mat _ h ih=>rw [List.length_append];obtain ⟨h3,_,h5,_⟩:=h;exact ⟨by simp;exact lz [_,_,_] [] 26091196237334328163789504 rfl ih.1 h3,by exact lz [_,_,_] [] 25388287029449938176 rfl h5⟩
theorem snoc_get{α:Type}{l:List α}{a v:α}{i:Nat}(h:(l++[a])[i]?=some v):l[i]?=some v∨(i=l.length∧v=a):=by
 rcases Nat.lt_or_ge i l.length with q |q
 ·rw [List.getElem?_append_left q]at h;exact .inl h
 ·rw [List.getElem?_append_right q]at h
  obtain ⟨h1,h2⟩:=List.getElem?_eq_some_iff.mp h
  have h1:i-l.length<1:=h1
  have e:i-l.length=0:=Nat.lt_one_iff.mp h1
  simp only [e]at h2
  exact .inr ⟨by exact lz [_,_,_] [] 6451495846986932646401282 rfl e (Nat.sub_add_cancel (lz [_,_] [] 1464728900864 rfl q)),h2.symm⟩
noncomputable def ChoOk(H:Hp)(oct:List Nat)(chv:List V):Prop:=∀(j:Nat) (v:V),chv[j]?=some v→∀R:Prop,(v=.none→R)→(∀r l d:Nat,v=.ref r→H r=some (.tuple [.int l,.int d])→VM oct j l d→R)→R
theorem ChoOk.up{H H':Hp}{oct:List Nat}{chv:List V}(h:ChoOk H oct chv)(k:Tp H H'):ChoOk H' oct chv:=fun j v e R h1 h2=>h j v e R h1 fun r l d e1 e2=>h2 r l d e1 (k _ _ e2)
theorem ChoOk.set{H:Hp}{oct:List Nat}{chv:List V}{k r l d:Nat}(h:ChoOk H oct chv)(hr:H r=some (.tuple [.int l,.int d]))(hv:VM oct k l d):ChoOk H oct (chv.set k (.ref r)):=fun j v e R h1 h2=>by
 rw [List.getElem?_set]at e
 by_cases q:k=j
 ·subst q
  rw [if_pos rfl]at e
  split at e
  ·exact h2 r l d (sI e).symm hr hv
  ·exact noS e
 ·rw [if_neg q]at e;exact h j v e R h1 h2
noncomputable def Way(G0 H:Hp)(oct:List Nat)(j w:Nat):Prop:=∀R:Prop,(∀rs,G0 w=none→H w=some (.list (refs rs))→rs.length≤300→(∀r∈rs,∃l d:Nat,H r=some (.tuple [.int l,.int d])∧VM oct j l d)→R)→R
theorem Way.up{G0 H H':Hp}{oct:List Nat}{j w:Nat}(h:Way G0 H oct j w)(k:G0 w=none→∀o,H w=some o→H' w=some o)(kt:Tp H H'):Way G0 H' oct j w:=fun R z=>h R fun rs h1 h2 h3 h4=>z rs h1 (k h1 _ h2) h3 fun r hr=>(h4 r hr).imp fun _ q=>q.imp fun _ q=>⟨kt _ _ q.1,q.2⟩
structure CSt(HK H:Hp)(oct:List Nat)(cs co:Nat)(cz:List Int)(chv:List V):Prop where
 ns:HK cs=none
 no:HK co=none
 ne:cs≠co
 x:Ex [] HK H
 s:H cs=some (.list (iV cz))
 sl:cz.length=oct.length+1
 o:H co=some (.list chv)
 ol:chv.length=oct.length
 ok:ChoOk H oct chv
section
variable {HK H H':Hp}{oct:List Nat}{cs co:Nat}{cz:List Int}{chv:List V}(h:CSt HK H oct cs co cz chv)
include h
theorem CSt.up(k:Ex [] H H'):CSt HK H' oct cs co cz chv:=⟨h.ns,h.no,h.ne,h.x.trans k,k.at0 h.s,h.sl,k.at0 h.o,h.ol,h.ok.up k.tk⟩
theorem CSt.set_s(k:Nat)(z:Int):CSt HK (H.put cs (.list ((iV cz).set k (.int z)))) oct cs co (cz.set k z) chv:=⟨h.ns,h.no,h.ne,h.x.new h.ns,putL (by unfold iV;rw [List.map_set]),List.length_set.trans h.sl,putn h.o h.ne.symm,h.ol,h.ok.up (tkL h.s)⟩
theorem CSt.set_o{k r l d:Nat}(e:H r=some (.tuple [.int l,.int d]))(v:VM oct k l d):CSt HK (H.put co (.list (chv.set k (.ref r)))) oct cs co cz (chv.set k (.ref r)):=⟨h.ns,h.no,h.ne,h.x.new h.no,putn h.s h.ne,h.sl,pself,List.length_set.trans h.ol,(h.ok.set e v).up (tkL h.o)⟩
theorem CSt.it{i:Nat}(k:i<oct.length+1):It H i (.ref cs) (.int (cz.getD i 0)):=.list h.s (iV_get (by rw [List.getD_eq_getElem?_getD,List.getElem?_eq_getElem (h.sl▸k)];rfl))
theorem CSt.st{Q:Hp→Prop}{k:Nat}{z:Int}(h1:k<oct.length)(h2:oct.length≤100)(q:Q (H.put cs (.list ((iV cz).set k (.int z))))):ST2 Q H (.ref cs) (.int k) (.int z):=iSl h.s (by rw [iV_len,h.sl];exact Nat.lt_succ_of_lt h1) (by rw [iV_len,h.sl];exact lz [_] [] 9140603091231869402892911061681489152 rfl h2) q
end
noncomputable def cCheap:Con:=fun xs H Q _=>∀R:List V→Prop,(∀oct p dp pa pb,IsPr H p dp pa pb→oct.length≤100→(∀c∈oct,c<256)→(∀H' t vs ps,Ex [] H H'→H t=none→H' t=some (.list vs)→PVs H' vs ps→Pre oct ps oct.length→Q (.ref t) H')→R [.bytes oct,.ref p])→R xs
theorem cCheap.mk{oct:List Nat}{p dp pa pb:Nat}{H:Hp}{Q:QV}{X:QX}(h1:IsPr H p dp pa pb)(h2:oct.length≤100)(h3:∀c∈oct,c<256)(k:∀H' t vs ps,Ex [] H H'→H t=none→H' t=some (.list vs)→PVs H' vs ps→Pre oct ps oct.length→Q (.ref t) H'):cCheap [.bytes oct,.ref p] H Q X:=fun _ z=>z _ _ _ _ _ h1 h2 h3 k
noncomputable def I_ways(G0:Hp)(oct:List Nat)(ch dch hd er:Nat)(i:Nat)(acc:List V)(H':Hp):Prop:=
 ∀R:List V→Prop,(∀ws n,n≤i→ws.length=i→Ex [hd,er] G0 H'→ChS H' ch dch hd er oct n→(∀j w,ws[j]?=some w→Way G0 H' oct j w)→R (refs ws))→R acc
theorem rangeD_get{n i:Nat}{v:V}(h:(rangeL ((n:Nat)-1) (-1) (-1))[i]?=some v):i<n∧v=.int ((n-1-i:Nat):Int):=by
 unfold rangeL at h
 rw [List.getElem?_map,Option.map_eq_some_iff]at h
 obtain ⟨j,hj,rfl⟩:=h
 have hlt:i<rangeN ((n:Nat)-1) (-1) (-1):=by
  have:=(List.getElem?_eq_some_iff.mp hj).1
  rwa [List.length_range]at this
 rw [List.getElem?_range hlt]at hj
 cases hj
 obtain hn:rangeN ((n:Nat)-1) (-1) (-1)=n:=by
  unfold rangeN
  rw [if_neg (by decide)]
  split
  ·have:(((n:Nat):Int)-1 - -1-1)/(- -1)+1=(n:Nat):=by
    obtain e:(- -1:Int)=1:=rfl
    rw [e,Int.ediv_one];exact lz [_] [] 1605725726530845767128327 rfl
   rw [this];rfl
  ·exact Nat.le_antisymm (lz [_,_] [] 93750170768640 rfl (Int.toNat_of_nonneg (lz [] [] 166405 rfl))) (lz [_,_] [] 1688891450096336603493091530048 rfl ‹_› (Int.toNat_of_nonneg (lz [] [] 166405 rfl)))
 rw [hn]at hlt
 exact ⟨hlt,by congr 1;exact lz [(n-(1:Nat)-i),(i),(n-(1:Nat)),(n)] [] 118478330610047303422376487693744576091559303 rfl (Nat.sub_add_cancel (lz [(i),(n),(n-(1:Nat))] [] 6744251074082363742262656 rfl hlt (Nat.sub_add_cancel (lz [(i),(n),(n-(1:Nat)),(n-(1:Nat)-i)] [] 1714733531873325236860764906944 rfl hlt sLe (Nat.sub_le _ _))))) (Nat.sub_add_cancel (lz [(i),(n)] [] 1487294256384 rfl hlt))⟩
noncomputable abbrev mC(oct:List Nat)(p c2 c3 c4 c5 wy cs co:Nat)(v13 v6 v10 v11 v12:Option V):M:=[some (.bytes oct),some (.ref p),some (.ref c2),some (.ref c3),some (.ref c4),some (.ref c5),v6,some (.ref wy),some (.ref cs),some (.ref co),v10,v11,v12,v13,none,none,none]
noncomputable def I_cost(mm:Option V→Option V→Option V→Option V→M)(HK:Hp)(oct:List Nat)(cs co:Nat)(m:M)(H':Hp):Prop:=
 ∀R:M→Prop,(∀v6 v10 v11 v12 cz chv,CSt HK H' oct cs co cz chv→R (mm v6 v10 v11 v12))→R m
noncomputable def I_parts(mm:Option V→M)(HK:Hp)(oct:List Nat)(co:Nat)(chv:List V)(pt:Nat)(k:Nat)(m:M)(H2:Hp):Prop:=
 ∀R:Nat→M→Prop,(∀(a:Nat) vs ps,Ex [] HK H2→H2 co=some (.list chv)→ChoOk H2 oct chv→H2 pt=some (.list vs)→PVs H2 vs ps→Pre oct ps a→R (oct.length-a) (mm (some (.int a))))→R k m
theorem p_cheap(C:CT)(hci:Sup C ("Chains"++".__init__") cChInit)(hm:Sup C "matches_by_length" cMatches)(hpl:Sup C ("Prices"++"."++"literal") cPrLit)(hpm:Sup C ("Prices"++"."++"match") cPrMat) :
  DoesC C t_cheapest_parts 17 5 [5,4,3,2] [.int 32768,.int 258,.int 8] cCheap:=fun xs H Q X h=>h _ fun oct p dp pa pb hP hol hby h=>by
 refine ⟨rfl,fun c5 n5 c4 n4 c3 n3 c2 n2'=>?_⟩
 suffices k:∀H4,Ex [] H H4→H4 c5=some (.cell none)→H4 c4=some (.cell (some (.int (8:Int))))→H4 c3=some (.cell (some (.int (258:Nat))))→H4 c2=some (.cell (some (.int (32768:Nat))))→wBody C t_cheapest_parts [some (.bytes oct),some (.ref p),some (.ref c2),some (.ref c3),some (.ref c4),some (.ref c5),none,none,none,none,none,none,none,none,none,none,none] H4 Q X from
  k _ ((((Ex.put n5).put1 n4).put1 n3).put1 n2') (putf (putf (putf pself n4) n3) n2') (putf (putf pself n3) n2') (putf pself n2') pself
 intro H4 x04 k5 k4 k3 k2
 refine fun ch dch hch hdch hne=>hci _ _ _ _ (cChInit.mk (putn pself hne) pself fun G1 hd er x5 nhd ner hS=>⟨rfl,?_⟩)
 have x45:=x5.made hch hdch
 have hS:=hS.up (S:=[c5]) (H':=G1.put c5 (.cell (some (.ref ch)))) (.set m0) (n1 (ne_of k5 hch).symm) (n1 (ne_of k5 hdch).symm) (n1 (ne_of (oldM k5 hch hdch) nhd).symm) (n1 (ne_of (oldM k5 hch hdch) ner).symm)
 obtain x0:=(x04.trans x45).new n5 (o:=.cell (some (.ref ch)))
 obtain hhd:=x04.nn0 (pnone (pnone nhd))
 obtain her:=x04.nn0 (pnone (pnone ner))
 obtain g5:(G1.put c5 (.cell (some (.ref ch)))) c5=some (.cell (some (.ref ch))):=pself
 obtain g4:=putn (o:=.cell (some (.ref ch))) (x45.at0 k4) (neO k4 k5 nofun)
 obtain g3:=putn (o:=.cell (some (.ref ch))) (x45.at0 k3) (neO k3 k5 nofun)
 obtain g2:=putn (o:=.cell (some (.ref ch))) (x45.at0 k2) (neO k2 k5 nofun)
 refine iAc (x45.at0 k5) ?_
 clear x5 nhd ner x45 k5 k4 k3 k2 x04 hch hdch hne n5 n4 n3 n2'
 generalize G1.put c5 (.cell (some (.ref ch)))=G0 at *
 refine hS _ fun es ear hG _ _=>?_
 obtain cel:∀{y v H'},Ex [hd,er] G0 H'→G0 y=some (.cell v)→H' y=some (.cell v):=fun x e=>x _ _ (n2 (neO e hG.hd nofun) (neO e hG.er nofun)) e
 refine ⟨rfl,by decide,iL (.bytes _) (by exact lz [_] [] 2231592551570280616021969771611392 rfl hol) ⟨by show oct.length<_;exact lz [_] [] 153355233436768042310122451550748841520317697 rfl hol,iCompR (I_ways G0 oct ch dch hd er) (fun i acc H' hi hI=>?_) (fun acc H' hI=>?_) fun R z=>z [] 0 (Nat.le_refl _) rfl (.refl _ _) hS nofun⟩⟩
 ·refine hI (fun acc=>True∧acc.length<_∧eComp _ _ _ _ _ _ _ fun x=>I_ways _ _ _ _ _ _ _ (acc++[x])) fun ws n hn hl hx hS hW=>⟨trivial,by rw [refs_len];exact lz [_,_,_] [] 628142688133003448923818560043450970184255624577 rfl hol hi hl,?_⟩
  refine iCel (cel hx g5) (iCel (cel hx g2) (iCel (cel hx g3) (iCel (cel hx g4) (hm _ _ _ _ (cMatches.mk (mb:=32768) hS (by exact lz [_] [] 32474225548500359365888 rfl hol) hby hn (Nat.le_of_lt hi) fun H2 t rs x2 hS2 nt ht hA hrl=>?_)))))
  refine fun R z=>?_
  rw [refs_snoc]
  refine z (ws++[t]) i (Nat.le_succ _) (by simp only [List.length_append,hl];rfl) (hx.trans x2) hS2 fun j w e=>hS _ fun es ear hH _ _=>?_
  rcases snoc_get e with e | ⟨e1,e2⟩
  ·exact (hW j w e).up (fun n o e=>x2 _ _ (n2 (ne_of hG.hd n).symm (ne_of hG.er n).symm) e) fun _ _ e=>x2 _ _ (n2 (neO e hH.hd nofun) (neO e hH.er nofun)) e
  ·simp only [e1,e2,hl]
   exact fun R z=>z rs (hx.nn (n2 (ne_of hH.hd nt).symm (ne_of hH.er nt).symm) nt) ht hrl fun r hr=>(hA r hr).2
 refine hI (fun acc=>True∧kList _ acc _) fun ws n hn hwl hx hS hW=>⟨trivial,fun wy hwy=>?_⟩
 have xK:Ex [] H (H'.put wy (.list (refs ws))):=Ex.put1 (fun y o _ e=>hx _ _ (n2 (ne_of e hhd) (ne_of e her)) (x0.at0 e)) hwy
 obtain kwy:(H'.put wy (.list (refs ws))) wy=some (.list (refs ws)):=pself
 have hW:∀j w,ws[j]?=some w→Way G0 (H'.put wy (.list (refs ws))) oct j w:=fun j w e=>(hW j w e).up (fun _ _ e=>putf e hwy) (Ex.put hwy).tk
 generalize H'.put wy (.list (refs ws))=HK at *
 obtain hPK:=hP.up xK n0 n0 n0 n0
 clear hx hS hwy hG cel g5 g4 g3 g2 hhd her x0
 refine fun r1 hr1=>iL (.bytes _) (by exact lz [_] [] 2231592551570280616021969771611392 rfl hol) (iAdd (c:=(oct.length+1:Nat)) rfl (iRep pself (by exact lz [_] [] 37532236304398672905472 rfl hol) fun cs hcs=>fun r2 hr2=>iL (.bytes _) (by exact lz [_] [] 2231592551570280616021969771611392 rfl hol) (iRep pself (by exact lz [_] [] 9163224946660525312 rfl hol) fun co hco=>?_)))
 obtain S:CSt HK _ oct cs co (List.replicate (oct.length+1) 0) (List.replicate oct.length .none):=⟨pnone hcs,pnone (pnone (pnone hco)),ne_of (putf pself hr2) hco,(((Ex.put hr1).put1 hcs).put1 hr2).put1 hco,putf (putf (putL (by unfold iV;rw [List.map_replicate])) hr2) hco,List.length_replicate,pself,List.length_replicate,fun j v e R h1 _=>h1 (List.eq_of_mem_replicate (List.mem_of_getElem? e))⟩
 clear hr1 hcs hr2 hco
 refine iL (.bytes _) (by exact lz [_] [] 2231592551570280616021969771611392 rfl hol) (iSub rfl ⟨by show Int.natAbs _<_;omega,by decide,by decide,by decide,.iFor (fun _=>I_cost (mC oct p c2 c3 c4 c5 wy cs co none) HK oct cs co) (fun i v m H' hv hI=>?_) (fun m H' hI=>?_) fun R z=>z _ none none none _ _ S⟩)
 ·obtain ⟨hi,rfl⟩:=rangeD_get hv
  have hk:oct.length-1-i<oct.length:=by exact lz [(List.length oct-(1:Nat)-i),(List.length oct-(1:Nat)),(List.length oct)] [] 105377770111071731225921 rfl (Nat.sub_le _ _) (Nat.sub_add_cancel (lz [(i),(List.length oct),(List.length oct-(1:Nat)),(List.length oct-(1:Nat)-i)] [] 1714733531873325236860764906944 rfl hi sLe (Nat.sub_le _ _)))
  generalize oct.length-1-i=k at *
  refine hI (fun m=>True∧wSs _ _ (m.set _ _) _ _ _) fun v6 v10 v11 v12 cz chv S=>⟨trivial,?_⟩
  obtain hP':=hPK.up S.x n0 n0 n0 n0
  refine iMe hP'.i rfl (iI (by exact lz [_,_] [] 153354552768117284732366072302003686400673089 rfl hol hk) (itB hk) (hpl _ _ _ _ (cPrLit.mk hP' (hby _ (List.mem_of_getElem? (getD_get hk))) fun i1=>iAdd (c:=(k+1:Nat)) rfl (iI (by exact lz [_,_] [] 628140248138208398263765541884504646852951754049 rfl hol hk) (S.it (Nat.succ_lt_succ hk)) (iAdd rfl (S.st hk hol ?_))))))
  obtain S1:=S.set_s k (i1+cz.getD (k+1) 0)
  obtain hgw:ws[k]?=some (ws.getD k 0):=getD_get (hwl▸hk)
  refine hW k _ hgw _ fun rs _ hrs hrl hrm=>?_
  refine iI (by exact lz [_,_] [] 153354552768117284732366072302003686400673089 rfl hol hk) (.list (S1.x.at0 kwy) (by unfold refs;simp only [List.getElem?_map,hgw];rfl)) (iOvL (S1.x.at0 hrs) (by rw [refs_len];exact lz [_] [] 2231592551570280616021969773741312 rfl hrl) (.iFor (fun _=>I_cost (fun _=>mC oct p c2 c3 c4 c5 wy cs co none (some (.int k))) HK oct cs co) (fun j v m H2 hv hI=>?_) (fun m H2 hI=>?_) fun R z=>z none _ _ _ _ _ S1))
  ·obtain ⟨r,hr,rfl⟩:=refs_inv hv
   refine Classical.byContradiction fun no=>?_
   obtain ⟨l,d,ht,hVM⟩:=hrm r (List.mem_of_getElem? hr)
   refine no ?_
   refine hI (fun m=>H2 _=some _∧BT _ _ m _ _) fun _ w10 w11 w12 cz chv S2=>⟨S2.x.at0 hrs,iBT (S2.x.at0 ht) rfl ?_⟩
   obtain hP2:=hPK.up S2.x n0 n0 n0 n0
   refine Classical.byContradiction fun no=>?_
   obtain ⟨v3,v258,vl,vd1,vd2,_⟩:=id hVM
   refine no ?_
   refine iMe hP2.i rfl (hpm _ _ _ _ (cPrMat.mk hP2 v3 (by exact lz [_,_,_,_] [] 150793249988429431978664416405870148548122048 rfl hol vl vd1 vd2) vd1 (by exact lz [_,_,_,_] [] 150793335059021162213288087891597785053881792 rfl hol v3 vl vd2) fun i2 H3 x3=>?_))
   have S3:=S2.up x3
   refine iAdd (c:=(k+l:Nat)) rfl (iI (by exact lz [_,_,_] [] 2572862456374101599288383292045481870662352549274945 rfl hol vl) (S3.it (by exact lz [_,_,_] [] 7773020797987461616897 rfl vl)) (iAdd rfl (iI (by exact lz [_,_,_] [] 10538444621308320150685323362395637205562357153878332801 rfl hol v3 vl) (S3.it (by exact lz [_,_,_] [] 31839754321790925059474753 rfl v3 vl)) (iTr (fun _=>?_) fun _=>fun R z=>z none _ _ _ _ _ S3))))
   refine S3.st hk hol fun tt htt=>?_
   obtain S4:=(S3.set_s k (i2+cz.getD (k+l) 0)).up (.put (o:=.tuple [.int (l:Nat),.int (d:Nat)]) htt)
   exact iSl S4.o (by rw [S4.ol];exact hk) (by rw [S4.ol];exact lz [_] [] 2231592551570280616021969771611392 rfl hol) fun R z=>z none _ _ _ _ _ (S4.set_o pself hVM)
  ·exact hI (fun m=>H2 _=some _∧kSeq _ _ _ _ m _) fun _ w10 w11 w12 cz chv S2=>⟨S2.x.at0 hrs,fun R z=>z _ _ _ _ _ _ S2⟩
 ·refine hI (fun m=>True∧kSeq _ _ _ _ m _) fun v6 v10 v11 v12 cz chv S=>⟨trivial,fun pt hpt=>iWh (I_parts (fun v6=>mC oct p c2 c3 c4 c5 wy cs co (some (.ref pt)) v6 v10 v11 v12) HK oct co chv pt) (fun k m H2 hI=>?_) (n:=oct.length-0) fun R z=>z 0 [] [] (S.x.put1 hpt) (putf S.o hpt) (S.ok.up (Ex.put hpt).tk) pself .nil .nil⟩
  have hptK:=S.x.nn0 hpt
  have hptco:=(ne_of S.o hpt)
  refine hI (fun k m=>wE _ _ m _ (kWh _ _ k m _ _) _) fun a vs ps hx hco hcho hpt2 hPV hPre=>iL (.bytes _) (by exact lz [_] [] 2231592551570280616021969771611392 rfl hol) (iTr (fun q=>?_) fun q=>?_)
  ·have ha:a<oct.length:=Int.ofNat_lt.mp q
   have hgc:chv[a]?=some (chv[a]'(S.ol▸ha)):=List.getElem?_eq_getElem (S.ol▸ha)
   generalize chv[a]'(S.ol▸ha)=v at hgc
   have hv:vs.length<16777000:=by have:=hPV.len;have:=hPre.len;exact lz [_,_,_,_] [] 43165636844044433782128113773191044737883741070971273303489 rfl hol q ‹_› this.1
   refine hcho a _ hgc _ (fun e=>?_) fun r l d e ht hVM=>?_
   ·subst e
    exact iI (by exact lz [_,_] [] 628140248138208398263771432149007099840502453569 rfl hol q) (.list hco hgc) (iTb (iApL hpt2 (iI (by exact lz [_,_] [] 628140248138208398263771432149007099840502453569 rfl hol q) (itB ha) (iAppL hpt2 hv (iX ⟨oct.length-(a+1),by exact lz [_,_,_,_] [] 118221597580948727786536966641089 rfl (Nat.sub_add_cancel (lz [_,_] [] 24240995436414129408 rfl q)) (Nat.sub_add_cancel (lz [_,_] [] 5999941626647808 rfl q)),fun R z=>z (a+1) _ (ps++[.lit (oct.getD a 0)]) (hx.new hptK) (putn hco hptco) (hcho.up (tkL hpt2)) pself (.snoc (p:=.lit _) (hPV.up (tkL hpt2)) rfl) (.lit hPre ha)⟩)))))
   ·subst e
    obtain v3:=hVM.1
    obtain vl:=hVM.2.2.1
    exact iI (by exact lz [_,_,_] [] 10538444621308320150685323362395637205562357153878332801 rfl hol v3 vl) (.list hco hgc) (iTb (iApL hpt2 (iI (by exact lz [_,_,_] [] 10538444621308320150685323362395637205562357153878332801 rfl hol v3 vl) (.list hco hgc) (iAppL hpt2 hv (iX (iI (by exact lz [_,_,_] [] 10538444621308320150685323362395637205562357153878332801 rfl hol v3 vl) (.list (putn hco hptco) hgc) (iI0 (.tuple (tkL hpt2 _ _ ht) rfl) ⟨oct.length-(a+l),by exact lz [_,_,_,_,_] [] 2069787553029325542336455259297967072769 rfl v3 (Nat.sub_add_cancel (lz [_,_,_] [] 25388287029449938176 rfl vl)) (Nat.sub_add_cancel (lz [_,_,_] [] 105451556906909223437632 rfl v3 vl)),fun R z=>z (a+l) _ (ps++[.mat l d]) (hx.new hptK) (putn hco hptco) (hcho.up (tkL hpt2)) pself (.snoc (p:=.mat l d) (hPV.up (tkL hpt2)) ⟨r,rfl,tkL hpt2 _ _ ht⟩) (.mat hPre hVM)⟩)))))))
  ·obtain rfl:=Nat.le_antisymm hPre.len.2 (Int.ofNat_le.mp (Int.not_lt.mp q))
   exact h H2 pt vs ps (xK.trans hx) (xK.nn0 hptK) hpt2 hPV hPre
end
section
noncomputable def splitN(n s:Nat):Nat:=((List.range 11).find? fun b=>decide (n/2^b<2*s)).getD 0
theorem split_all:∀n<200,IsSplit n 2 (splitN n 2)∧IsSplit n 4 (splitN n 4):=by unfold IsSplit;decide +kernel
theorem split_uniq{n s a b:Nat}(h:IsSplit n s a)(k:IsSplit n s b):a=b:=
 (Nat.lt_trichotomy a b).elim (fun q=>absurd (k.1 a q) (Nat.not_le.mpr h.2)) fun q=>q.elim id fun q=>absurd (h.1 b q) (Nat.not_le.mpr k.2)
theorem split_eq2{n b:Nat}(hn:n<200)(h:IsSplit n 2 b):b=splitN n 2:=split_uniq h (split_all n hn).1
theorem split_eq4{n b:Nat}(hn:n<200)(h:IsSplit n 4 b):b=splitN n 4:=split_uniq h (split_all n hn).2
noncomputable def lSymF(l:Nat):Nat:=257+(4*splitN (l-3) 4+(l-3)/2^splitN (l-3) 4)
noncomputable def dSymF(d:Nat):Nat:=2*splitN (d-1) 2+(d-1)/2^splitN (d-1) 2
noncomputable def partBits:Part→List Bool
 | .lit n=>codeBits litL n
 | .stop=>[]
 | .mat l d=>codeBits litL (lSymF l)++bitsLE ((l-3)%2^splitN (l-3) 4) (splitN (l-3) 4)++codeBits dstL (dSymF d)++bitsLE ((d-1)%2^splitN (d-1) 2) (splitN (d-1) 2)
noncomputable def partsBits(ps:List Part):List Bool:=ps.flatMap partBits
noncomputable def PartOk:Part→Prop
 | .lit n=>n<256
 | .stop=>False
 | .mat l d=>3≤l∧l≤200∧1≤d∧d≤200
theorem PVs.get{H:Hp}{vs:List V}{ps:List Part}(h:PVs H vs ps):∀{i:Nat} {v:V},vs[i]?=some v→∀R:Prop,(∀p,ps[i]?=some p→PV H v p→R)→R:=by
 induction h with
 |nil=>exact fun e=>noS e
 | @snoc vs ps w p hh hv ih=>
  intro i v e R z
  rcases snoc_get e with e | ⟨rfl,rfl⟩
  ·exact ih e R fun p' e'=>z p' ((List.getElem?_append_left (List.getElem?_eq_some_iff.mp e').1).trans e')
  ·exact z p (hh.len▸List.getElem?_concat_length) hv
theorem code_le{l:List Nat}{s:Nat}(hl:Fix l)(h:s<l.length):(codeBits l s).length≤9:=by unfold codeBits;rw [bits_len];exact (fix_at hl h).2.1
theorem split_le10{n s:Nat}:splitN n s≤10:=by
 unfold splitN
 cases h:(List.range 11).find? fun b=>decide (n/2^b<2*s) with
 |none=>decide
 |some b=>exact Nat.le_of_lt_succ (List.mem_range.mp (List.mem_of_find?_eq_some h))
theorem sub_lt{n k:Nat}(h:n≤200)(h2:1≤k)(h3:k≤n):n-k<200:=by exact lz [_,_,_] [] 8987978100088240581806050867295901057 rfl h h2 (Nat.sub_add_cancel (lz [_,_] [] 1464728900864 rfl h3))
theorem lSym_lt{l:Nat}(h3:3≤l)(h2:l≤200):lSymF l<litL.length:=Nat.lt_of_lt_of_le (lsym_lt h2 split_le10 (split_all (l-3) (sub_lt h2 (by decide) h3)).2).1 (Nat.le_trans (by decide) (Nat.le_of_eq lit_len.1.symm))
theorem dSym_lt{d:Nat}(h2:d≤200)(h1:1≤d):dSymF d<dstL.length:=Nat.lt_of_lt_of_le (dsym_lt h2 split_le10 (split_all (d-1) (sub_lt h2 (by decide) h1)).1).1 (Nat.le_trans (by decide) (Nat.le_of_eq lit_len.2.symm))
theorem lit_lt{n:Nat}(h:n≤256):n<litL.length:=Nat.lt_of_le_of_lt h (Nat.lt_of_lt_of_le (by decide) (Nat.le_of_eq lit_len.1.symm):256<_)
theorem part_le{p:Part}(h:PartOk p):(partBits p).length≤40:=by
 cases p with
 |lit n=>exact Nat.le_trans (code_le (.inl rfl) (lit_lt (Nat.le_of_lt h))) (by decide)
 |stop=>exact h.elim
 |mat l d=>
  obtain ⟨h1,h2,h3,h4⟩:=h
  have q1:=code_le (.inl rfl) (lSym_lt h1 h2)
  have q2:=code_le (.inr rfl) (dSym_lt h4 h3)
  have q3:=split_le10 (n:=l-3) (s:=4)
  have q4:=split_le10 (n:=d-1) (s:=2)
  unfold partBits
  rw [List.length_append,List.length_append,List.length_append,bits_len,bits_len]
  exact lz [_,_,_,_] [] 628903789129829247495705149235652076286842971584 rfl q1 q2 q3 q4
theorem parts_le:∀{ps:List Part},(∀p∈ps,PartOk p)→(partsBits ps).length≤40*ps.length
 | [],_=>Nat.zero_le _
 |p::ps,h=>by
  have:=part_le (h p m0)
  have ih:=parts_le (ps:=ps) fun q hq=>h q (List.mem_cons_of_mem _ hq)
  unfold partsBits at ih⊢
  rw [List.flatMap_cons,List.length_append,List.length_cons];exact lz [_,_,_] [] 45175045478260979104312083098001006003393856 rfl this ih
theorem parts_snoc{ps:List Part}{i:Nat}{p:Part}(h:ps[i]?=some p):partsBits (ps.take (i+1))=partsBits (ps.take i)++partBits p:=by
 unfold partsBits
 rw [List.take_add_one,h,List.flatMap_append];exact congrArg _ (List.append_nil _)
theorem BO.ap{H:Hp}{x d m:Nat}{bs:List Bool}(h:BO H x d m bs):Ap H [d,m]:=fun _ _ e k1 k2=>h _ fun _ _ _ _ i _=>n2 (neO e i.i.f (k1 _)) (neO e i.b (k2 _))
theorem BO.tk{H H':Hp}{x d m:Nat}{bs:List Bool}(h:BO H x d m bs)(k:Ex [d,m] H H'):Tp H H':=fun _ _ e=>k _ _ (h.ap _ _ e nofun nofun) e
noncomputable def fLen:O→Nat
 | .flds l=>l.length
 |_=>0
theorem IsEnc.keep{H H':Hp}{e de t s x d m:Nat}{l:List Nat}{bs:List Bool}(h:IsEnc H e de t s l)(hB:BO H x d m bs)(k:Ex [d,m] H H'):IsEnc H' e de t s l:=
 h.up k (hB.ap _ _ h.i.i nofun nofun) (hB _ fun _ _ _ _ i _=>n2 (neO h.i.f i.i.f fun z=>absurd (a:=2=3) (congrArg fLen z) (by decide)) (neO h.i.f i.b nofun)) (hB.ap _ _ h.le nofun nofun) (hB.ap _ _ h.tu nofun nofun)
structure PP(H2 H:Hp)(x d m e1 de1 t1 s1 e2 de2 t2 s2:Nat)(bs:List Bool):Prop where
 ex:Ex [d,m] H2 H
 o:BO H x d m bs
 a:IsEnc H e1 de1 t1 s1 litL
 b:IsEnc H e2 de2 t2 s2 dstL
section
variable {H2 H H':Hp}{x d m e1 de1 t1 s1 e2 de2 t2 s2:Nat}{bs bs':List Bool}(h:PP H2 H x d m e1 de1 t1 s1 e2 de2 t2 s2 bs)
include h
theorem PP.put(k:Ex [d,m] H H')(hB:BO H' x d m bs'):PP H2 H' x d m e1 de1 t1 s1 e2 de2 t2 s2 bs':=⟨h.ex.trans k,hB,h.a.keep h.o k,h.b.keep h.o k⟩
theorem PP.up(k:Ex [] H H'):PP H2 H' x d m e1 de1 t1 s1 e2 de2 t2 s2 bs:=⟨h.ex.trans k.mono0,h.o.up k n0 n0 n0,h.a.up k n0 n0 n0 n0,h.b.up k n0 n0 n0 n0⟩
end
noncomputable def cPutParts:Con:=fun xs H Q _=>∀R:List V→Prop,(∀x d m bs pt a b vs ps,BO H x d m bs→bs.length≤1000→H pt=some (.list vs)→PVs H vs ps→(∀p∈ps,PartOk p)→ps.length≤200→H a=some (.list (nts litL))→H b=some (.list (nts dstL))→(∀H',Ex [d,m] H H'→BO H' x d m (bs++partsBits ps++codeBits litL 256)→Q .none H')→R [.ref x,.ref pt,.ref a,.ref b])→R xs
theorem cPutParts.mk{x d m pt a b:Nat}{bs:List Bool}{vs:List V}{ps:List Part}{H:Hp}{Q:QV}{X:QX}(h1:BO H x d m bs)(h2:bs.length≤1000)(h3:H pt=some (.list vs))(h4:PVs H vs ps)(h5:∀p∈ps,PartOk p)(h6:ps.length≤200)(h7:H a=some (.list (nts litL)))(h8:H b=some (.list (nts dstL)))(k:∀H',Ex [d,m] H H'→BO H' x d m (bs++partsBits ps++codeBits litL 256)→Q .none H'):cPutParts [.ref x,.ref pt,.ref a,.ref b] H Q X:=fun _ z=>z _ _ _ _ _ _ _ _ _ h1 h2 h3 h4 h5 h6 h7 h8 k
noncomputable def I_pp(x d m:Nat)(bs:List Bool)(pt a b:Nat)(ps:List Part)(e1 de1 t1 s1 e2 de2 t2 s2:Nat)(H2:Hp)(i:Nat)(mm:M)(H':Hp):Prop:=
 ∀R:M→Prop,(∀w6 w7 w8 w9,PP H2 H' x d m e1 de1 t1 s1 e2 de2 t2 s2 (bs++partsBits (ps.take i))→R [some (.ref x),some (.ref pt),some (.ref a),some (.ref b),some (.ref e1),some (.ref e2),w6,w7,w8,w9,none,none,none,none,none,none])→R mm
theorem p_putParts(C:CT)(hi:Sup C ("Encoder"++".__init__") cInitE)(hpe:Sup C ("Encoder"++"."++"put") cPutE)(hp:Sup C ("BitsOut"++"."++"put") cPut)(hl:Sup C "length_symbol" cLSym)(hd:Sup C "distance_symbol" cDSym):Does C t_put_parts 16 4 [] cPutParts:=fun xs H Q X h=>h _ fun x d m bs pt a b vs ps hB hbs hpt hPV hOk hpl ha hb h=>by
 have hvl:=hPV.len
 refine ⟨rfl,fun e1 de1 k1 k2 ne1=>hi _ _ _ _ (cInitE.mk (putn pself ne1) pself (oldM ha k1 k2) (.inl rfl) fun H1 t1 s1 x1 _ _ hE1=>⟨rfl,?_⟩)⟩
 have x01:=x1.made k1 k2
 refine fun e2 de2 k3 k4 ne2=>hi _ _ _ _ (cInitE.mk (putn pself ne2) pself (oldM (x01.at0 hb) k3 k4) (.inr rfl) fun H2 t2 s2 x2 _ _ hE2=>⟨rfl,?_⟩)
 have x12:=x2.made k3 k4
 have x02:=x01.trans x12
 have S0:PP H2 H2 x d m e1 de1 t1 s1 e2 de2 t2 s2 bs:=⟨.refl _ _,hB.up x02 n0 n0 n0,hE1.up x12 n0 n0 n0 n0,hE2⟩
 have hpt2:=x02.at0 hpt
 have hpS:=S0.o.ap _ _ hpt2 nofun nofun
 have hPV2:=hPV.up x02.tk
 refine iOvL hpt2 (by exact lz [_,_] [] 37439910261685737075687434597957072405824 rfl hpl hvl) (.iFor (I_pp x d m bs pt a b ps e1 de1 t1 s1 e2 de2 t2 s2 H2) (fun i v mm H' hv hI=>?_) (fun mm H' hI=>?_) fun R z=>z none none none none ((List.append_nil bs).symm▸S0:PP _ _ _ _ _ _ _ _ _ _ _ _ _ (bs++[])))
 ·refine hPV2.get hv _ fun p hp' hPVp=>hI (fun m=>H' _=some _∧wSs _ _ (m.set _ _) _ _ _) fun w6 w7 w8 w9 S=>⟨S.ex _ _ hpS hpt2,?_⟩
  have hok:=hOk _ (List.mem_of_getElem? hp')
  have hil:=(List.getElem?_eq_some_iff.mp hp').1
  have hbl:(bs++partsBits (ps.take i)).length≤9000:=by
   have:=parts_le (ps:=ps.take i) fun q hq=>hOk q (List.mem_of_mem_take hq)
   have:=List.length_take_le' i ps
   rw [List.length_append];exact lz [_,_,_,_] [] 2858478137865916363426371004649908451340648310840774218069628336559552 rfl hbs hpl ‹_› this
  have tk:=S0.o.tk S.ex
  cases p with
  |stop=>exact hok.elim
  |lit n=>
   obtain rfl:v=.int n:=hPVp
   exact iIs (.int _) (iTb (iMe S.a.i rfl (hpe _ _ _ _ (cPutE.mk S.a (.inl rfl) S.o (by exact lz [_] [] 2150475288627394121666034189432064 rfl hbl) (lit_lt (Nat.le_of_lt hok)) fun H3 x3 hB3=>iX fun R z=>z _ _ _ _ (S.put x3 (by rw [parts_snoc hp',←List.append_assoc];exact hB3))))))
  |mat l ds=>
   obtain ⟨hl3,hl2,hd1,hd2⟩:=hok
   obtain ⟨t,rfl,ht⟩:=hPVp
   have cl1:=code_le (.inl rfl) (lSym_lt hl3 hl2)
   have cl2:=code_le (.inr rfl) (dSym_lt hd2 hd1)
   refine iIs (.tup (tk _ _ ht)) (iTb (iI0 (.tuple (tk _ _ ht) rfl) (hl _ _ _ _ (cLSym.mk hl3 hl2 fun k hk hk10 H3 u x3 _ hu=>iBT hu rfl ?_))))
   obtain rfl:=split_eq4 (sub_lt hl2 (by decide) hl3) hk
   have S3:=S.up x3
   refine iMe S3.a.i rfl (hpe _ _ _ _ (cPutE.mk (s:=lSymF l) S3.a (.inl rfl) S3.o (by exact lz [_] [] 2150475288627394121666034189432064 rfl hbl) (lSym_lt hl3 hl2) fun H4 x4 hB4=>iX ?_))
   have S4:=S3.put x4 hB4
   refine S4.o.me (fun _ _ _=>rfl) (hp _ _ _ _ (cPut.mk S4.o (Nat.mod_lt _ (Nat.two_pow_pos _)) (by exact lz [_] [] 3869910705408 rfl hk10) (by rw [List.length_append];exact lz [_,_] [] 153353872286417429471798800664200937218708800 rfl hbl cl1) fun H5 x5 hB5=>iX ?_))
   have S5:=S4.put x5 hB5
   refine iI1 (.tuple (S0.o.tk S5.ex _ _ ht) rfl) (hd _ _ _ _ (cDSym.mk hd1 hd2 fun j hj hj10 H6 u2 x6 _ hu2=>iBT hu2 rfl ?_))
   obtain rfl:=split_eq2 (sub_lt hd2 (by decide) hd1) hj
   have S6:=S5.up x6
   refine iMe S6.b.i rfl (hpe _ _ _ _ (cPutE.mk (s:=dSymF ds) S6.b (.inr rfl) S6.o (by rw [List.length_append,List.length_append,bits_len];exact lz [_,_,_] [] 10155332425253430730527795369101740388810554055168828800 rfl hbl cl1 hk10) (dSym_lt hd2 hd1) fun H7 x7 hB7=>iX ?_))
   have S7:=S6.put x7 hB7
   refine S7.o.me (fun _ _ _=>rfl) (hp _ _ _ _ (cPut.mk S7.o (Nat.mod_lt _ (Nat.two_pow_pos _)) (by exact lz [_] [] 3869910705408 rfl hj10) (by rw [List.length_append,List.length_append,List.length_append,bits_len];exact lz [_,_,_,_] [] 724193186503649833898398997428388505648974897468634625537653286336 rfl hbl cl1 cl2 hk10) fun H8 x8 hB8=>iX fun R z=>z _ _ _ _ (S7.put x8 ?_)))
   rw [parts_snoc hp',partBits]
   simp only [←List.append_assoc]
   exact hB8
 ·refine hI (fun m=>H' _=some _∧kSeq _ _ _ _ m _) fun w6 w7 w8 w9 S=>⟨S.ex _ _ hpS hpt2,?_⟩
  rw [List.take_of_length_le (Nat.le_of_eq hvl.symm)]at S
  have:=parts_le hOk
  exact iMe S.a.i rfl (hpe _ _ _ _ (cPutE.mk (s:=256) S.a (.inl rfl) S.o (by rw [List.length_append];exact lz [_,_,_] [] 697869130343549592017527423161593576974000493302006872649444267392 rfl hbs hpl this) (lit_lt (Nat.le_refl _)) fun H3 x3 hB3=>iX (h H3 (x02.mono0.trans (S.ex.trans x3)) hB3)))
end
noncomputable def stoBits(b:List Nat):List Bool:=bitsLE 1 1++bitsLE 0 2++pad8 3++bitsLE b.length 16++bitsLE (65535-b.length) 16++bBits b
noncomputable def fixBits(ps:List Part):List Bool:=bitsLE 1 1++bitsLE 1 2++partsBits ps++codeBits litL 256
noncomputable def cPutStored:Con:=fun xs H Q _=>∀R:List V→Prop,(∀x d m b,BO H x d m []→b.length≤60000→(∀c∈b,c<256)→(∀H',Ex [d,m] H H'→BO H' x d m (stoBits b)→Q .none H')→R [.ref x,.bytes b,.int 1])→R xs
theorem cPutStored.mk{x d m:Nat}{b:List Nat}{H:Hp}{Q:QV}{X:QX}(h1:BO H x d m [])(h2:b.length≤60000)(h3:∀c∈b,c<256)(k:∀H',Ex [d,m] H H'→BO H' x d m (stoBits b)→Q .none H'):cPutStored [.ref x,.bytes b,.int 1] H Q X:=fun _ z=>z _ _ _ _ h1 h2 h3 k
theorem noPad{H:Hp}{x d m:Nat}{L p K:List Bool}(e:p=[])(h:BO H x d m (L++p++K)):BO H x d m (L++K):=by rw [e,List.append_nil]at h;exact h
theorem le1:1≤16777216:=by decide
theorem okR1:okR (1:Nat):=by decide
theorem p_putStored(C:CT)(hp:Sup C ("BitsOut"++"."++"put") cPut)(ha:Sup C ("BitsOut"++"."++"align") cAlignO)(ho:Sup C ("BitsOut"++"."++"put_octets") cPutOct):Does C t_put_stored 4 3 [] cPutStored:=fun xs H Q X h=>h _ fun x d m b hB hl hby h=>by
 refine ⟨rfl,hB.me (fun _ _ _=>rfl) (hp _ _ _ _ (cPut.mk (v:=1) (n:=1) hB (by decide) (by decide) (Nat.zero_le _) fun H1 x1 hB1=>iX ?_))⟩
 refine hB1.me (fun _ _ _=>rfl) (hp _ _ _ _ (cPut.mk (v:=0) (n:=2) hB1 (by decide) (by decide) (Nat.le_add_left 1 _) fun H2 x2 hB2=>iX ?_))
 refine hB2.me (fun _ _ _=>rfl) (ha _ _ _ _ (cAlignO.mk hB2 (Nat.le_add_left 3 _) fun H3 x3 hB3=>iX ?_))
 have l5:∀L:List Bool,(bitsLE 1 1++bitsLE 0 2++pad8 3++bitsLE b.length 16++L).length=24+L.length:=fun L=>by rw [List.length_append,List.length_append,bits_len];rfl
 refine hB3.me (fun _ _ _=>rfl) (iL (.bytes _) (by exact lz [_] [] 37439910261685737075613647583617348715776 rfl hl) (hp _ _ _ _ (cPut.mk (n:=16) hB3 (show b.length<65536 by exact lz [_] [] 152524478367077305015256321 rfl hl) (by decide) (Nat.le_add_left 8 _) fun H4 x4 hB4=>iX ?_)))
 refine hB4.me (fun _ _ _=>rfl) (iL (.bytes _) (by exact lz [_] [] 37439910261685737075613647583617348715776 rfl hl) (iSub (c:=(65535-b.length:Nat)) (Int.ofNat_sub (show b.length≤65535 by exact lz [_] [] 2226541756991476408222351045608704 rfl hl)).symm (hp _ _ _ _ (cPut.mk (n:=16) hB4 (Nat.lt_of_le_of_lt (Nat.sub_le _ _) (by decide):_<65536) (by decide) (Nat.le_trans (Nat.le_of_eq (List.append_nil _▸l5 [])) (by decide)) fun H5 x5 hB5=>iX ?_))))
 have e5:(bitsLE 1 1++bitsLE 0 2++pad8 3++bitsLE b.length 16++bitsLE (65535-b.length) 16).length=40:=(l5 _).trans (congrArg _ (bits_len _ _))
 refine hB5.me (fun _ _ _=>rfl) (ho _ _ _ _ (cPutOct.mk hB5 (Nat.le_trans (Nat.le_of_eq e5) (by decide)) (by exact lz [_] [] 2231607404019621824911959673455872 rfl hl) hby fun H6 x6 hB6=>iX (h H6 (x1.trans (x2.trans (x3.trans (x4.trans (x5.trans x6))))) (noPad (congrArg pad8 e5) hB6))))
noncomputable def cPutFixed:Con:=fun xs H Q _=>∀R:List V→Prop,(∀x d m pt vs ps,BO H x d m []→H pt=some (.list vs)→PVs H vs ps→(∀p∈ps,PartOk p)→ps.length≤200→(∀H',Ex [d,m] H H'→BO H' x d m (fixBits ps)→Q .none H')→R [.ref x,.ref pt,.int 1])→R xs
theorem cPutFixed.mk{x d m pt:Nat}{vs:List V}{ps:List Part}{H:Hp}{Q:QV}{X:QX}(h1:BO H x d m [])(h2:H pt=some (.list vs))(h3:PVs H vs ps)(h4:∀p∈ps,PartOk p)(h5:ps.length≤200)(k:∀H',Ex [d,m] H H'→BO H' x d m (fixBits ps)→Q .none H'):cPutFixed [.ref x,.ref pt,.int 1] H Q X:=fun _ z=>z _ _ _ _ _ _ h1 h2 h3 h4 h5 k
theorem p_putFixed(C:CT)(hp:Sup C ("BitsOut"++"."++"put") cPut)(hf:Sup C "fixed_lengths" cFixed)(hpp:Sup C "put_parts" cPutParts):Does C t_put_fixed 7 3 [] cPutFixed:=fun xs H Q X h=>h _ fun x d m pt vs ps hB hpt hPV hOk hpl h=>by
 refine ⟨rfl,hB.me (fun _ _ _=>rfl) (hp _ _ _ _ (cPut.mk (v:=1) (n:=1) hB (by decide) (by decide) (Nat.zero_le _) fun H1 x1 hB1=>iX ?_))⟩
 refine hB1.me (fun _ _ _=>rfl) (hp _ _ _ _ (cPut.mk (v:=1) (n:=2) hB1 (by decide) (by decide) (Nat.le_add_left 1 _) fun H2 x2 hB2=>iX ?_))
 refine hf _ _ _ _ (cFixed.mk fun H3 t a b x3 nt na nb ht hta htb=>iBT ht rfl ?_)
 have x02:=x1.trans x2
 exact hpp _ _ _ _ (cPutParts.mk (hB2.up x3 n0 n0 n0) (Nat.le_add_left 3 _) (x3.at0 (x02 _ _ (hB.ap _ _ hpt nofun nofun) hpt)) (hPV.up fun _ _ e=>x3.at0 (hB.tk x02 _ _ e)) hOk hpl hta htb fun H4 x4 hB4=>iX (h H4 (x02.trans (x3.mono0.trans x4)) hB4))
noncomputable def cFixedParts:Con:=fun xs H Q _=>∀R:List V→Prop,(∀oct,oct.length≤100→(∀c∈oct,c<256)→(∀H' t vs ps,Ex [] H H'→H t=none→H' t=some (.list vs)→PVs H' vs ps→Pre oct ps oct.length→Q (.ref t) H')→R [.bytes oct])→R xs
theorem cFixedParts.mk{oct:List Nat}{H:Hp}{Q:QV}{X:QX}(h1:oct.length≤100)(h2:∀c∈oct,c<256)(k:∀H' t vs ps,Ex [] H H'→H t=none→H' t=some (.list vs)→PVs H' vs ps→Pre oct ps oct.length→Q (.ref t) H'):cFixedParts [.bytes oct] H Q X:=fun _ z=>z _ h1 h2 k
theorem p_fixedParts(C:CT)(hf:Sup C "fixed_lengths" cFixed)(hi:Sup C ("Prices"++".__init__") cPrInit)(hc:Sup C "cheapest_parts" cCheap):Does C t_fixed_parts 6 1 [] cFixedParts:=fun xs H Q X h=>h _ fun oct hl hby h=>
 ⟨rfl,hf _ _ _ _ (cFixed.mk fun H3 t a b x3 nt na nb ht hta htb=>iBT ht rfl fun p dp k1 k2 hne=>hi _ _ _ _ (cPrInit.mk (putn pself hne) pself (oldM hta k1 k2) (oldM htb k1 k2) fun H4 x4 hP=>⟨rfl,hc _ _ _ _ (cCheap.mk hP hl hby fun H5 u vs ps x5 nu hu hPV hPre=>
  have x34:=x3.trans (x4.made k1 k2)
  h H5 u vs ps (x34.trans x5) (x34.nn0 nu) hu hPV hPre)⟩))⟩
theorem range3_nil{k:Nat}(hk:0<k):rangeL 0 (0:Nat) k=[]:=by
 unfold rangeL rangeN
 rw [if_pos (show (k:Int) > 0 from Int.ofNat_lt.mpr hk),if_neg (by decide)];rfl
theorem range3_one{n k:Nat}(h1:n≠0)(h:n≤k):rangeL 0 n k=[.int 0]:=by
 have h1:=Nat.pos_of_ne_zero h1
 unfold rangeL rangeN
 rw [if_pos (show (k:Int) > 0 from Int.ofNat_lt.mpr (Nat.lt_of_lt_of_le h1 h)),if_pos (show (0:Int)<n from Int.ofNat_lt.mpr h1),show ((n:Int)-0-1)/k=0 from Int.ediv_eq_zero_of_lt (by exact lz [_] [] 268696036175725808133 rfl h1) (by exact lz [_,_] [] 25165557292104545555718 rfl h)]
 show [V.int (0+(k:Int)*0)]=_
 rw [Int.mul_zero];rfl
theorem iSplit{elt:V→Hp→QV→Prop}{G:Hp→Prop}{Q:List V→Hp→Prop}{H:Hp}{n k:Nat}(hk:0<k)(hn:n≤k)(g:G H)(h0:n=0→Q [] H)(h1:n≠0→elt (.int 0) H fun x H'=>G H'∧Q [x] H'):CompI elt (rangeL 0 n k) G Q H:=by
 by_cases q:n=0
 ·rw [q,range3_nil hk]
  exact .iComp (fun _ acc H'=>acc=[]∧H'=H) (fun i v acc H' e=>noS e) (fun acc H' z=>z.1▸z.2▸⟨g,h0 q⟩) ⟨rfl,rfl⟩
 ·rw [range3_one q hn]
  refine .iComp (fun i acc H'=>if i=0 then acc=[]∧H'=H else G H'∧Q acc H') (fun i v acc H' e hI=>?_) (fun acc H' z=>z) ⟨rfl,rfl⟩
  rcases snoc_get (l:=[]) e with e | ⟨rfl,rfl⟩
  ·exact noS e
  ·obtain ⟨rfl,rfl⟩:=hI
   exact ⟨g,by decide,h1 q⟩
theorem iForO{G:Hp→Prop}{B:WS}{Q:QS}{X:QX}{m:M}{H:Hp}{j:Nat}(g:G H)(b:B (m.set j (some (.int (0:Nat)))) H (kFb (fun _ m H=>G H∧Q .next m H) 1 Q) X):ForI (.one j) (rangeL 0 (1:Nat) 1) G B Q X m H:=
 iForR (n:=1) (fun i m' H'=>if i=0 then m'=m∧H'=H else G H'∧Q .next m' H') (fun i m' H' hi hI=>by
  obtain rfl:=Nat.lt_one_iff.mp hi
  obtain ⟨rfl,rfl⟩:=hI
  exact ⟨g,b⟩) (fun m H hI=>hI) ⟨rfl,rfl⟩
theorem cut_all{α:Type}{vs:List α}{k:Nat}(h:vs.length≤k):cutL vs 0 k=vs:=by unfold cutL;rw [List.take_of_length_le h];rfl
noncomputable def cPartsBy:Con:=fun xs H Q _=>∀R:List V→Prop,(∀pt vs,H pt=some (.list vs)→vs.length≤200→(∀H' r q,Ex [] H H'→H' r=some (.list [.ref q])→H' q=some (.list vs)→Q (.ref r) H')→R [.ref pt,.int 16383])→R xs
theorem cPartsBy.mk{pt:Nat}{vs:List V}{H:Hp}{Q:QV}{X:QX}(h1:H pt=some (.list vs))(h2:vs.length≤200)(k:∀H' r q,Ex [] H H'→H' r=some (.list [.ref q])→H' q=some (.list vs)→Q (.ref r) H'):cPartsBy [.ref pt,.int 16383] H Q X:=fun _ z=>z _ _ h1 h2 k
theorem p_partsBy(C:CT):DoesC C t_parts_by 5 2 [1,0] [] cPartsBy:=fun xs H Q X h=>h _ fun pt vs hpt hl h=>by
 refine ⟨rfl,fun c1 k1 c0 k0=>?_⟩
 suffices k:∀H2,Ex [] H H2→H2 c1=some (.cell (some (.int (16383:Nat))))→H2 c0=some (.cell (some (.ref pt)))→wBody C t_parts_by [some (.ref c0),some (.ref c1),none,none,none] H2 Q X from
  k _ ((Ex.put k1).put1 k0) (putf pself k0) pself
 refine fun H2 x2 k1 k0=>⟨rfl,by decide,iCel k0 (iL (.list (x2.at0 hpt)) (by exact lz [_] [] 2231592551570280616021969772676352 rfl hl) (iCel k1 ⟨by decide,by show vs.length<_;exact lz [_] [] 153355233436768042310122451550748841521382657 rfl hl,by decide,by decide,iSplit (by decide) (by exact lz [_] [] 132711639972209102631929088 rfl hl) trivial (fun e=>?_) fun e=>?_⟩))⟩
 ·obtain rfl:=List.eq_nil_of_length_eq_zero e
  exact fun r hr=>iL (.list pself) (by decide) (iTf (by decide) fun q hq r2 hr2=>h _ r2 q (((x2.put1 hr).put1 hq).put1 hr2) pself (putf pself hr2))
 ·refine iCel k0 (iCel k1 (iAdd (c:=(16383:Nat)) rfl (iSlc (k:=0) (by decide) (by decide) (by exact lz [_] [] 2231592551570280616021969772676352 rfl hl) (.list (x2.at0 hpt) fun q hq=>⟨trivial,fun r hr=>iL (.list pself) le1 (iTt (by decide:(1:Int) > 0) (h _ r q ((x2.put1 hq).put1 hr) pself ((putf pself hr).trans (by rw [cut_all (by exact lz [_] [] 132711639972209102631929088 rfl hl)]))))⟩))))
noncomputable def cFixedW:Con:=fun xs H Q _=>∀R:List V→Prop,(∀oct,oct.length≤100→(∀c∈oct,c<256)→(∀H' B ps,Ex [] H H'→Pre oct ps oct.length→bBits B=fixBits ps++pad8 (fixBits ps).length→(∀c∈B,c<256)→Q (.bytes B) H')→R [.bytes oct,.int 16383])→R xs
theorem cFixedW.mk{oct:List Nat}{H:Hp}{Q:QV}{X:QX}(h1:oct.length≤100)(h2:∀c∈oct,c<256)(k:∀H' B ps,Ex [] H H'→Pre oct ps oct.length→bBits B=fixBits ps++pad8 (fixBits ps).length→(∀c∈B,c<256)→Q (.bytes B) H'):cFixedW [.bytes oct,.int 16383] H Q X:=fun _ z=>z _ h1 h2 k
theorem pre_ok{oct:List Nat}{ps:List Part}{a:Nat}(h:Pre oct ps a)(hl:oct.length≤200)(hby:∀c∈oct,c<256):∀p∈ps,PartOk p:=by
 induction h with
 |nil=>exact nofun
 |lit _ h ih=>exact fun p hp=>(List.mem_append.mp hp).elim (ih p) fun e=>List.mem_singleton.mp e▸hby _ (List.mem_of_getElem? (getD_get h))
 |mat _ h ih=>
  refine fun p hp=>(List.mem_append.mp hp).elim (ih p) fun e=>List.mem_singleton.mp e▸?_
  obtain ⟨h1,h2,h3,h4,h5,_⟩:=h
  exact ⟨h1,by exact lz [_,_,_,_] [] 150793249988450031300918125133644469975209408 rfl hl h3 h4 h5,h4,by exact lz [_,_,_,_] [] 150793335059041761535541796619372106480969152 rfl hl h1 h3 h5⟩
theorem fix_len{ps:List Part}(h:∀p∈ps,PartOk p)(hl:ps.length≤200):(fixBits ps).length≤10000:=by
 have:=parts_le h
 have q:=code_le (.inl rfl) (lit_lt (Nat.le_refl 256))
 unfold fixBits
 rw [List.length_append,List.length_append,List.length_append,bits_len,bits_len];exact lz [_,_,_] [] 43165440109773634378313397222878452099590412498670480463232 rfl hl this q
theorem Ex.new2{H G G':Hp}{a b:Nat}(h:Ex [] H G)(k:Ex [a,b] G G')(ha:H a=none)(hb:H b=none):Ex [] H G':=fun _ _ _ e=>k _ _ (n2 (ne_of e ha) (ne_of e hb)) (h.at0 e)
theorem p_fixedW(C:CT)(hi:Sup C ("BitsOut"++".__init__") cInitO)(hfp:Sup C "fixed_parts" cFixedParts)(hpb:Sup C "parts_by" cPartsBy)(hpf:Sup C "put_fixed" cPutFixed)(hoo:Sup C ("BitsOut"++"."++"octets") cOctO):Does C t_fixed 12 2 [] cFixedW:=fun xs H Q X h=>h _ fun oct hl hby h=>by
 refine ⟨rfl,fun x d nx nd hne=>hi _ _ _ _ (cInitO.mk (putn pself hne) pself fun H1 m nm x1 hB1=>⟨rfl,hfp _ _ _ _ (cFixedParts.mk hl hby fun H2 t vs ps x2 nt ht hPV hPre=>?_)⟩)⟩
 have hOk:=pre_ok hPre (by exact lz [_] [] 7795819509800158464 rfl hl) hby
 have hpl:=hPre.len.1
 have hvl:=hPV.len
 refine hpb _ _ _ _ (cPartsBy.mk ht (by exact lz [_,_,_] [] 2194330590841555851201204913001856 rfl hl hpl hvl) fun H3 r q x3 hr hq=>iL (.list hr) le1 ⟨okR1,iForO trivial (iI (by decide) (.list hr rfl) (iL (.list hr) le1 (iSub (c:=0) rfl ?_)))⟩)
 refine hpf _ _ _ _ (cPutFixed.mk ((hB1.up x2 n0 n0 n0).up x3 n0 n0 n0) hq (hPV.up x3.tk) hOk (by exact lz [_,_] [] 130792221599907670368011584 rfl hl hpl) fun H4 x4 hB4=>iX ⟨trivial,hB4.me (fun _ _ _=>rfl) (hoo _ _ _ _ (cOctO.mk hB4 (Nat.le_trans (fix_len hOk (by exact lz [_,_] [] 130792221599907670368011584 rfl hl hpl)) (by decide)) fun B hBB hBy H5 x5=>h H5 B ps ?_ hPre hBB hBy))⟩)
 exact (Ex.new2 (((x1.made nx nd).trans x2).trans x3) x4 nd (pnone (pnone nm))).trans x5
noncomputable def cStoredW:Con:=fun xs H Q _=>∀R:List V→Prop,(∀oct,oct.length≤60000→(∀c∈oct,c<256)→(∀H' B,Ex [] H H'→bBits B=stoBits oct++pad8 (stoBits oct).length→(∀c∈B,c<256)→Q (.bytes B) H')→R [.bytes oct,.int 65535])→R xs
theorem cStoredW.mk{oct:List Nat}{H:Hp}{Q:QV}{X:QX}(h1:oct.length≤60000)(h2:∀c∈oct,c<256)(k:∀H' B,Ex [] H H'→bBits B=stoBits oct++pad8 (stoBits oct).length→(∀c∈B,c<256)→Q (.bytes B) H'):cStoredW [.bytes oct,.int 65535] H Q X:=fun _ z=>z _ h1 h2 k
noncomputable def MSs.tl:MSs→MSs
 | .cons _ s=>s
 | .nil=>.nil
theorem sto_len(b:List Nat):(stoBits b).length=40+8*b.length:=by
 unfold stoBits
 rw [List.length_append,List.length_append,List.length_append,bits_len,bits_len,bytes_len];rfl
theorem p_storedW(C:CT)(hi:Sup C ("BitsOut"++".__init__") cInitO)(hps:Sup C "put_stored" cPutStored)(hoo:Sup C ("BitsOut"++"."++"octets") cOctO):DoesC C t_stored 10 2 [1,0] [] cStoredW:=fun xs H Q X h=>h _ fun oct hl hby h=>by
 refine ⟨rfl,fun c1 k1 c0 k0=>?_⟩
 suffices k:∀H2,Ex [] H H2→H2 c1=some (.cell (some (.int (65535:Nat))))→H2 c0=some (.cell (some (.bytes oct)))→wBody C t_stored [some (.ref c0),some (.ref c1),none,none,none,none,none,none,none,none] H2 Q X from
  k _ ((Ex.put k1).put1 k0) (putf pself k0) pself
 refine fun H2 x2 k1 k0=>fun x d nx nd hne=>hi _ _ _ _ (cInitO.mk (putn pself hne) pself fun H3 m nm x3 hB3=>⟨rfl,?_⟩)
 have x23:=x3.made nx nd
 have k0:=x23.at0 k0
 have k1:=x23.at0 k1
 have last:∀(r:Nat) (H4:Hp),Ex [] H3 H4→H4 r=some (.list [.bytes oct])→wSs C t_stored.tl.tl.tl [some (.ref c0),some (.ref c1),some (.ref x),none,some (.ref r),none,none,none,none,none] H4 (kBody Q) X:=fun r H4 x4 hr=>by
  refine iL (.list hr) le1 ⟨okR1,iForO trivial (iI (by decide) (.list hr rfl) (iL (.list hr) le1 (iSub (c:=0) rfl ?_)))⟩
  refine hps _ _ _ _ (cPutStored.mk (hB3.up x4 n0 n0 n0) hl hby fun H5 x5 hB5=>iX ⟨trivial,hB5.me (fun _ _ _=>rfl) (hoo _ _ _ _ (cOctO.mk hB5 (by rw [sto_len];exact lz [_] [] 628137460885165789611916170367453516785915184384 rfl hl) fun B hBB hBy H6 x6=>h H6 B ?_ hBB hBy))⟩)
  exact (Ex.new2 ((x2.trans x23).trans x4) x5 (x2.nn0 nd) (x2.nn0 (pnone (pnone nm)))).trans x6
 refine ⟨rfl,by decide,iCel k0 (iL (.bytes _) (by exact lz [_] [] 37439910261685737075613647583617348715776 rfl hl) (iCel k1 ⟨by decide,by show oct.length<_;exact lz [_] [] 2572873876099079787734063356116448275915960731485441 rfl hl,by decide,by decide,iSplit (by decide) (by exact lz [_] [] 2226541756991476408222351045608704 rfl hl) trivial (fun e=>?_) fun e=>?_⟩))⟩
 ·obtain rfl:=List.eq_nil_of_length_eq_zero e
  exact fun r hr=>iL (.list pself) (by decide) (iTt rfl fun r2 hr2=>last r2 _ ((Ex.put hr).put1 hr2) pself)
 ·refine iCel k0 (iCel k1 (iAdd (c:=(65535:Nat)) rfl (iSlc (k:=0) (by decide) (by decide) (by exact lz [_] [] 37439910261685737075613647583617348715776 rfl hl) (.byt ⟨trivial,fun r hr=>iL (.list pself) le1 (iTf (by decide:¬(1:Int)=0) (last r _ (.put hr) (pself.trans (by rw [cut_all (by exact lz [_] [] 2226541756991476408222351045608704 rfl hl)]))))⟩))))
noncomputable def IsDef(way:String)(oct B:List Nat):Prop:=(∀c∈B,c<256)∧((way="stored"∧bBits B=stoBits oct++pad8 (stoBits oct).length)∨(way="fixed"∧∃ps,Pre oct ps oct.length∧bBits B=fixBits ps++pad8 (fixBits ps).length))
noncomputable abbrev WayOk(way:String)(oct:List Nat):Prop:=(way="stored"∧oct.length≤1000)∨(way="fixed"∧oct.length≤100)
noncomputable def cDeflated:Con:=fun xs H Q _=>∀R:List V→Prop,(∀oct way,WayOk way oct→(∀c∈oct,c<256)→(∀H' B,Ex [] H H'→IsDef way oct B→Q (.bytes B) H')→R [.bytes oct,.str way])→R xs
theorem cDeflated.mk{oct:List Nat}{way:String}{H:Hp}{Q:QV}{X:QX}(h1:WayOk way oct)(h2:∀c∈oct,c<256)(k:∀H' B,Ex [] H H'→IsDef way oct B→Q (.bytes B) H'):cDeflated [.bytes oct,.str way] H Q X:=fun _ z=>z _ _ h1 h2 k
theorem p_deflated(C:CT)(hs:Sup C "stored" cStoredW)(hf:Sup C "fixed" cFixedW):Does C t_deflated 12 3 [.int 16383] cDeflated:=fun xs H Q X h=>h _ fun oct way hw hby h=>by
 rcases hw with ⟨rfl,hl⟩ | ⟨rfl,hl⟩
 ·exact ⟨rfl,iStr rfl (iTt rfl (hs _ _ _ _ (cStoredW.mk (Nat.le_trans hl (by decide)) hby fun H' B x hB hb=>h H' B x ⟨hb,.inl ⟨rfl,hB⟩⟩)))⟩
 ·exact ⟨rfl,iStr rfl (iTf (by decide) (iStr rfl (iTt rfl (hf _ _ _ _ (cFixedW.mk hl hby fun H' B ps x hp hB hb=>h H' B x ⟨hb,.inr ⟨rfl,ps,hp,hB⟩⟩)))))⟩
noncomputable def headF(s:String):List Nat:=[120,if lvlOf s=0 then 1 else if lvlOf s=1 then 94 else if lvlOf s=2 then 156 else 218]
theorem lvl_cases(s:String):lvlOf s=0∨lvlOf s=1∨lvlOf s=2∨lvlOf s=3:=by
 unfold lvlOf
 split
 ·exact .inl rfl
 split
 ·exact .inr (.inl rfl)
 split
 ·exact .inr (.inr (.inl rfl))
 split
 ·exact .inr (.inr (.inl rfl))
 ·exact .inr (.inr (.inr rfl))
theorem headF.elim{P:Int→List Nat→Prop}(s:String)(h0:P 0 [120,1])(h1:P 1 [120,94])(h2:P 2 [120,156])(h3:P 3 [120,218]):P (lvlOf s) (headF s):=by
 unfold headF
 rcases lvl_cases s with e |e |e |e <;> rw [e]
 ·exact h0
 ·exact h1
 ·exact h2
 ·exact h3
theorem iByN{Q:QV}{H:Hp}{a:Nat}{l:List Nat}(h:H a=some (.list (nts l)))(n:l.length≤16777216)(b:∀c∈l,c<256)(q:Q (.bytes l) H):WB Q H (.ref a):=
 iByL h (lenI n) (ints_ofP l) (fun i hi=>(List.mem_map.mp hi).elim fun c z=>z.2▸⟨Int.natCast_nonneg _,Int.ofNat_lt.mpr (b c z.1)⟩) (by
  rw [List.map_map,show l.map (Int.toNat∘fun (n:Nat)=>(n:Int))=l from List.map_id l];exact q)
noncomputable def cHead:Con:=fun xs H Q _=>∀R:List V→Prop,(∀s,(∀H',Ex [] H H'→Q (.bytes (headF s)) H')→R [.str s])→R xs
theorem cHead.mk{s:String}{H:Hp}{Q:QV}{X:QX}(k:∀H',Ex [] H H'→Q (.bytes (headF s)) H'):cHead [.str s] H Q X:=fun _ z=>z _ k
theorem head_eq(s:String):(lvlOf s).natAbs<18446744073709551616∧(∀c∈headF s,c<256)∧[V.int ((256*120+64*lvlOf s+(31-(256*120+64*lvlOf s)%31))/256),V.int ((256*120+64*lvlOf s+(31-(256*120+64*lvlOf s)%31))%256)]=nts (headF s):=
 headF.elim (P:=fun L h=>L.natAbs<18446744073709551616∧(∀c∈h,c<256)∧[V.int ((256*120+64*L+(31-(256*120+64*L)%31))/256),V.int ((256*120+64*L+(31-(256*120+64*L)%31))%256)]=nts h) s ⟨by decide,by decide,rfl⟩ ⟨by decide,by decide,rfl⟩ ⟨by decide,by decide,rfl⟩ ⟨by decide,by decide,rfl⟩
theorem p_head(C:CT):Does C t_zlib_head 4 1 [] cHead:=fun xs H Q X h=>h _ fun s h=>by
 obtain ⟨h1,h2,h3⟩:=head_eq s
 exact ⟨rfl,iMul (by decide) (by decide) (iMul (by decide) h1 (iAdd rfl (iMod (by decide) (iSub rfl (iDiv (by decide) (by decide) (iMod (by decide) fun r hr=>iByN (putL h3) (Nat.le_of_ble_eq_true rfl) h2 (h _ (.put hr))))))))⟩
noncomputable def be4(n:Nat):List Nat:=[n/2^24%256,n/2^16%256,n/2^8%256,n/2^0%256]
theorem be4_by(n:Nat):∀c∈be4 n,c<256:=fun c hc=>(List.mem_map.mp (show c∈[24,16,8,0].map fun k=>n/2^k%256 from hc)).elim fun _ z=>z.2▸Nat.mod_lt _ (by decide)
noncomputable def cEncoded:Con:=fun xs H Q _=>∀R:List V→Prop,(∀oct way,WayOk way oct→(∀c∈oct,c<256)→(∀H' B,Ex [] H H'→IsDef way oct B→Q (.bytes (headF way++B++be4 (adlF oct))) H')→R [.bytes oct,.str way])→R xs
theorem cEncoded.mk{oct:List Nat}{way:String}{H:Hp}{Q:QV}{X:QX}(h1:WayOk way oct)(h2:∀c∈oct,c<256)(k:∀H' B,Ex [] H H'→IsDef way oct B→Q (.bytes (headF way++B++be4 (adlF oct))) H'):cEncoded [.bytes oct,.str way] H Q X:=fun _ z=>z _ _ h1 h2 k
theorem def_len{way:String}{oct B:List Nat}(h:IsDef way oct B)(hw:WayOk way oct)(hby:∀c∈oct,c<256):B.length≤2000:=by
 have hp:∀n,(pad8 n).length≤8:=fun n=>Nat.le_trans (Nat.le_of_eq List.length_replicate) (Nat.le_of_lt (Nat.mod_lt _ (by decide)))
 have hb:=bytes_len B
 rcases h.2 with ⟨rfl,e⟩ | ⟨rfl,ps,hps,e⟩
 ·rw [e,List.length_append,sto_len]at hb
  have q:=hp (40+8*oct.length)
  have hw:=hw.elim (fun z=>z.2) fun z=>absurd z.1 (by decide)
  exact Classical.not_not.1 (lz [_,_,_] [] 16574375508547077057544751100643700687453442374422722628218172810 rfl hb q hw)
 ·rw [e,List.length_append]at hb
  have q:=hp (fixBits ps).length
  have hw:=hw.elim (fun z=>absurd z.1 (by decide)) fun z=>z.2
  have:=fix_len (pre_ok hps (by exact lz [_] [] 7795819509800158464 rfl hw) hby) (by have:=hps.len.1;exact lz [_,_] [] 130792221599907670368011584 rfl hw this)
  exact Classical.not_not.1 (lz [_,_,_] [] 241188907363498419140661560131658030509872627567211914 rfl hb q this)
theorem p_encoded(C:CT)(ha:Sup C "adler" cAdler)(hh:Sup C "zlib_head" cHead)(hd:Sup C "deflated" cDeflated):DoesC C t_zlib_encoded 8 2 [2] [] cEncoded:=fun xs H Q X h=>h _ fun oct way hw hby h=>by
 have hl:oct.length≤1000:=hw.elim (fun z=>z.2) fun z=>Nat.le_trans z.2 (by decide)
 refine ⟨rfl,fun c2 k2=>ha _ _ _ _ (cAdler.mk (by exact lz [_] [] 2231592549453743453305527503066368 rfl hl) (iAc (ov:=none) pself ⟨rfl,by decide,fun t ht=>iOvT pself (by decide) (.iComp (fun i acc H'=>acc=nts (([24,16,8,0].take i).map fun k=>adlF oct/2^k%256)∧H'=_) (fun i v acc H' hv hI=>?_) (fun acc H' hI=>?_) ⟨rfl,rfl⟩)⟩))⟩
 ·obtain ⟨rfl,rfl⟩:=hI
  obtain ⟨x,e',rfl⟩:=ints_inv (l:=[24,16,8,0]) hv
  refine ⟨pself,by rw [ints_len,List.length_map];exact Nat.lt_of_le_of_lt (List.length_take_le' i _) (by decide),iCel (putf pself ht) (iShr (iMod (by decide) ⟨?_,rfl⟩))⟩
  rw [List.take_succ,e',List.map_append,ints_app];rfl
 ·obtain ⟨rfl,rfl⟩:=hI
  refine ⟨pself,fun r hr=>iByN (l:=be4 (adlF oct)) pself (Nat.le_of_ble_eq_true rfl) (be4_by _) (hh _ _ _ _ (cHead.mk fun H5 x5=>hd _ _ _ _ (cDeflated.mk hw hby fun H6 B x6 hB=>?_)))⟩
  have hBl:=def_len hB hw hby
  exact iCat (by show 2+B.length≤_;exact lz [_] [] 37439910261685737074225548673821510120704 rfl hBl) (iCat (by rw [List.length_append];show 2+B.length+4≤_;exact lz [_] [] 153353872431864779056138172751138302158877952 rfl hBl) (h H6 B ((((((Ex.put k2).new k2).put1 ht).put1 hr).trans x5).trans x6) hB))
end Mine
end
section
namespace Mine
noncomputable def goB(sy:List Nat)(s:Nat)(ts:List Nat):List Bool→Nat→Nat→Nat→Bool:=List.rec (fun _ _ _ _=>false) (fun t _ ih bs c f p=>List.rec false (fun b bs _=>cond (Nat.ble (2*c+b.toNat+1) (f+t)) (Nat.ble f (2*c+b.toNat)&&(bs.isEmpty&&(sy[p+(2*c+b.toNat)-f]?).elim false (Nat.beq s))) (ih bs (2*c+b.toNat) (2*(f+t)) (p+t))) bs) ts
noncomputable def chB(sy ta cs:List Nat):List Nat→Nat→Bool:=List.rec (fun _ _=>true) (fun c _ ih ns s=>List.rec true (fun n ns _=>goB sy s ta (bitsLE (turnF c n) n) 0 0 0&&ih ns (s+1)) ns) cs
theorem lit_cs:codesF litL=List.range' 48 144++List.range' 400 112++List.range 24++List.range' 192 8:=by decide +kernel
theorem lit_ok:chB (symF litL) ((tallyF litL).drop 1) (codesF litL) litL 0=true:=by
 rw [lit_sy,lit_cs];decide +kernel
theorem dst_ok:chB (symF dstL) ((tallyF dstL).drop 1) (codesF dstL) dstL 0=true:=by decide +kernel
theorem chB_at{sy ta:List Nat}:∀(cs ns:List Nat) (k s:Nat),chB sy ta cs ns k=true→s<cs.length→s<ns.length→goB sy (k+s) ta (bitsLE (turnF (cs.getD s 0) (ns.getD s 0)) (ns.getD s 0)) 0 0 0=true
 | [],_,_,_=>fun _ h _=>nomatch h
 |_::_,[],_,_=>fun _ _ h=>nomatch h
 |_::_,_::_,_,0=>fun h _ _=>(Bool.and_eq_true_iff.mp h).1
 |_::cs,_::ns,k,s+1=>fun h h1 h2=>Nat.succ_add_eq_add_succ k s▸chB_at cs ns (k+1) s (Bool.and_eq_true_iff.mp h).2 (Nat.lt_of_succ_lt_succ h1) (Nat.lt_of_succ_lt_succ h2)
section
noncomputable def Bt(D:List Bool)(pos:Nat)(L:List Bool):Prop:=∃P R,D=P++L++R∧pos=P.length
section
variable {D A B L:List Bool}{pos:Nat}
theorem Bt.left(h:Bt D pos (A++B)):Bt D pos A:=h.elim fun P h=>h.elim fun R e=>⟨P,B++R,e.1.trans (by simp only [List.append_assoc]),e.2⟩
theorem Bt.right(h:Bt D pos (A++B)):Bt D (pos+A.length) B:=h.elim fun P h=>h.elim fun R e=>⟨P++A,R,e.1.trans (by simp only [List.append_assoc]),by rw [e.2,List.length_append]⟩
end
theorem slice_mid(P Z R:List Bool)(k n:Nat)(h:k+n≤Z.length):slice (P++Z++R) (P.length+k) n=slice Z k n:=by
 unfold slice
 rw [List.append_assoc,List.drop_append,List.drop_eq_nil_of_le (Nat.le_add_right _ _),List.nil_append,Nat.add_sub_cancel_left,List.drop_append_of_le_length (by exact lz [_,_,_] [] 6281004566533376 rfl h),List.take_append_of_le_length (by rw [List.length_drop];exact lz [_,_,_,_] [] 28881433072469664798200907200 rfl h (Nat.sub_add_cancel (lz [_,_,_] [] 6281004566533376 rfl h)))]
theorem take_at{D:List Bool}{v n pos:Nat}(h:Bt D pos (bitsLE v n))(hv:v<2^n):takeB D pos n=.ok v (pos+n):=by
 obtain ⟨P,R,rfl,rfl⟩:=h
 have e:=slice_mid P (bitsLE v n) R 0 n (by rw [bits_len,Nat.zero_add];exact Nat.le_refl _)
 unfold takeB
 rw [if_pos (by rw [List.length_append,List.length_append,bits_len];exact Nat.le_add_right _ _),show slice _ P.length n=bitsLE v n from e.trans (List.take_of_length_le (Nat.le_of_eq (bits_len v n))),val_bits hv]
theorem take_at'{D:List Bool}{v n n' pos:Nat}(h:Bt D pos (bitsLE v n))(e:n'=n)(hv:v<2^n):takeB D pos n'=.ok v (pos+n):=by rw [e];exact take_at h hv
theorem Rd.bind_ok{α β:Type}{r:Rd α}{f:α→Nat→Rd β}{a:α}{p:Nat}(h:r=.ok a p):r.bind f=f a p:=h▸rfl
theorem goB_ok{sy:List Nat}{D:List Bool}{s:Nat}:∀(ts:List Nat) (bs:List Bool) (c f p pos:Nat),Bt D pos bs→goB sy s ts bs c f p=true→readGo sy D ts c f p pos=.ok s (pos+bs.length)
 | [],_,_,_,_,_=>fun _ h=>nomatch h
 |_::_,[],_,_,_,_=>fun _ h=>nomatch h
 |t::ts,b::bs,c,f,p,pos=>fun k h=>by
  have k1:Bt D pos (bitsLE b.toNat 1):=(show [b]=bitsLE b.toNat 1 by cases b <;> rfl)▸Bt.left (A:=[b]) k
  refine (Rd.bind_ok (take_at k1 (by cases b <;> decide))).trans ?_
  replace h:cond (Nat.ble (2*c+b.toNat+1) (f+t)) (Nat.ble f (2*c+b.toNat)&&(bs.isEmpty&&(sy[p+(2*c+b.toNat)-f]?).elim false (Nat.beq s))) (goB sy s ts bs (2*c+b.toNat) (2*(f+t)) (p+t))=true:=h
  have ih:=goB_ok (sy:=sy) (s:=s) ts bs (2*c+b.toNat) (2*(f+t)) (p+t) (pos+1) (Bt.right (A:=[b]) k)
  rw [show pos+(b::bs).length=pos+1+bs.length by rw [List.length_cons,Nat.add_assoc,Nat.add_comm 1]]
  cases q:Nat.ble (2*c+b.toNat+1) (f+t) with
  |false=>
   rw [q]at h
   exact (if_neg fun z=>nomatch q.symm.trans (Nat.ble_eq_true_of_le z)).trans (ih h)
  |true=>
   rw [q]at h
   obtain ⟨h1,h2⟩:=Bool.and_eq_true_iff.mp h
   obtain ⟨h3,h4⟩:=Bool.and_eq_true_iff.mp h2
   refine (if_pos (Nat.le_of_ble_eq_true q)).trans ((if_pos (Nat.le_of_ble_eq_true h1)).trans ?_)
   rw [List.isEmpty_iff.mp h3]
   generalize sy[p+(2*c+b.toNat)-f]?=o at h4⊢
   cases o with
   |none=>exact nomatch h4
   |some a=>exact Nat.eq_of_beq_eq_true h4▸rfl
theorem read_at{D:List Bool}{pos:Nat}{l:List Nat}{s:Nat}(h:chB (symF l) ((tallyF l).drop 1) (codesF l) l 0=true)(hs:s<l.length)(k:Bt D pos (codeBits l s)):readSym l D pos=.ok s (pos+(codeBits l s).length):=by
 unfold readSym
 refine goB_ok _ _ _ _ _ _ k ?_
 have e:(turnedF l).getD s 0=turnF ((codesF l).getD s 0) (l.getD s 0):=by
  unfold turnedF;rw [List.getD_eq_getElem?_getD,List.getElem?_map,List.getElem?_range hs];rfl
 unfold codeBits
 rw [e]
 have g:=chB_at _ _ _ s h (by rw [codes_len];exact hs) hs
 rw [Nat.zero_add]at g;exact g
theorem lit_at{D:List Bool}{pos s:Nat}(h:s<286)(k:Bt D pos (codeBits litL s)):readSym litL D pos=.ok s (pos+(codeBits litL s).length):=read_at lit_ok (Nat.lt_of_lt_of_le h (by decide)) k
theorem dst_at{D:List Bool}{pos s:Nat}(h:s<30)(k:Bt D pos (codeBits dstL s)):readSym dstL D pos=.ok s (pos+(codeBits dstL s).length):=read_at dst_ok (Nat.lt_of_lt_of_le h (by decide)) k
theorem len_inv:∀l<201,3≤l→lX.getD (lSymF l-257) 0=splitN (l-3) 4∧lB.getD (lSymF l-257) 0+(l-3)%2^splitN (l-3) 4=l∧¬lSymF l<256∧lSymF l≠256∧¬29≤lSymF l-257∧lSymF l<286:=by decide +kernel
theorem dst_inv:∀d<201,1≤d→dX.getD (dSymF d) 0=splitN (d-1) 2∧dB.getD (dSymF d) 0+(d-1)%2^splitN (d-1) 2=d∧¬30≤dSymF d:=by decide +kernel
theorem part_at{D:List Bool}{pos:Nat}{p:Part}(h:PartOk p)(k:Bt D pos (partBits p)):partR D pos=.ok p (pos+(partBits p).length):=by
 cases p with
 |stop=>exact h.elim
 |lit n=>exact (Rd.bind_ok (lit_at (Nat.lt_trans h (by decide)) k)).trans (if_pos h)
 |mat l d=>
  obtain ⟨h3,h2,h1,hd⟩:=h
  obtain ⟨a1,a2,a3,a4,a5,a6⟩:=len_inv l (Nat.lt_succ_of_le h2) h3
  obtain ⟨b1,b2,b3⟩:=dst_inv d (Nat.lt_succ_of_le hd) h1
  have k2:=k.left.right
  have k3:=k.right
  rw [List.length_append,bits_len,←Nat.add_assoc]at k2
  rw [List.length_append,List.length_append,bits_len,←Nat.add_assoc,←Nat.add_assoc]at k3
  unfold partR
  rw [Rd.bind_ok (lit_at a6 k.left.left.left),if_neg a3,if_neg a4,if_neg a5,Rd.bind_ok (take_at' k.left.left.right a1 (Nat.mod_lt _ (Nat.two_pow_pos _))),Rd.bind_ok (dst_at (Nat.not_le.mp b3) k2),if_neg b3,Rd.bind_ok (take_at' k3 b1 (Nat.mod_lt _ (Nat.two_pow_pos _))),a2,b2,partBits,List.length_append,List.length_append,List.length_append,bits_len,bits_len,←Nat.add_assoc,←Nat.add_assoc,←Nat.add_assoc]
theorem stop_at{D:List Bool}{pos:Nat}(k:Bt D pos (codeBits litL 256)):partR D pos=.ok .stop (pos+(codeBits litL 256).length):=(Rd.bind_ok (lit_at (by decide) k)).trans rfl
theorem lay_take{oct:List Nat}{a l d:Nat}(h:VM oct a l d):∀j≤l,layF (oct.take a) j d=oct.take (a+j)
 |0,_=>rfl
 |j+1,hj=>by
  obtain ⟨_,_,h3,h4,h5,h6⟩:=id h
  rw [layF_succ,lay_take h j (Nat.le_of_succ_le hj),←Nat.add_assoc,List.take_add_one,show (oct.take (a+j)).length=a+j by rw [List.length_take];exact lz [_,_,_] [] 99535225563811239170 rfl (Nat.min_eq_left (lz [_,_,_,_] [] 1823879224050088592792699098496 rfl hj h3))]
  have e:(oct.take (a+j)).getD (a+j-d) 0=oct.getD (a+j) 0:=by
   rw [←h6 j hj,List.getD_eq_getElem?_getD,List.getElem?_take_of_lt (by exact lz [_,_,_,_] [] 108132712994883316828900508993 rfl h4 (Nat.sub_add_cancel (lz [_,_,_] [] 379696728855808 rfl h5))),←List.getD_eq_getElem?_getD,show a+j-d=a-d+j by exact lz [_,_,_,_,_] [] 28356405658324900354843911202887170 rfl (Nat.sub_add_cancel (lz [_,_,_] [] 379696728855808 rfl h5)) (Nat.sub_add_cancel (lz [_,_] [] 1464728900864 rfl h5))]
  rw [e,getD_get (l:=oct) (i:=a+j) (by exact lz [_,_,_,_] [] 1823879224050088592792699098497 rfl hj h3)];rfl
theorem parts_app(ps:List Part)(p:Part):partsBits (ps++[p])=partsBits ps++partBits p:=by unfold partsBits;rw [List.flatMap_append];exact congrArg _ (List.append_nil _)
theorem parts_run{oct:List Nat}(hol:oct.length≤200)(hby:∀c∈oct,c<256){D:List Bool}{pos:Nat}{ps:List Part}{a:Nat}(h:Pre oct ps a):Bt D pos (partsBits ps)→∀f,partsGo D (ps.length+f) pos []=partsGo D f (pos+(partsBits ps).length) (oct.take a):=by
 induction h with
 |nil=>exact fun _ f=>by rw [List.length_nil,Nat.zero_add];rfl
 | @lit ps a hp ha ih=>
  intro k f
  have hk:=pre_ok (Pre.lit hp ha) hol hby _ (List.mem_append_right _ m0)
  rw [parts_app]at k⊢
  rw [List.length_append,Nat.add_assoc,ih k.left,List.length_append,←Nat.add_assoc,Nat.add_comm _ f]
  refine (Rd.bind_ok (part_at hk k.right)).trans ((if_pos ⟨by rw [List.length_take];exact lz [_,_,_] [] 147779536568173098192012906687973400424830337 rfl hol ha (Nat.min_eq_left (lz [_,_] [] 1464745678080 rfl ha)),hk⟩).trans ?_)
  rw [List.take_add_one,getD_get ha];rfl
 | @mat ps a l d hp hv ih=>
  intro k f
  have hk:=pre_ok (Pre.mat hp hv) hol hby _ (List.mem_append_right _ m0)
  rw [parts_app]at k⊢
  rw [List.length_append,Nat.add_assoc,ih k.left,List.length_append,←Nat.add_assoc,Nat.add_comm _ f]
  obtain ⟨h1,h2,h3,h4,h5,h6⟩:=id hv
  have hl:(oct.take a).length=a:=by rw [List.length_take];exact lz [_,_] [] 93744181630210 rfl (Nat.min_eq_left (lz [_,_,_] [] 105451556906909223437632 rfl h1 h3))
  refine (Rd.bind_ok (part_at hk k.right)).trans ((if_pos ⟨by rw [hl];exact lz [_,_,_] [] 605304981783237010194484865792786504730037015937 rfl hol h1 h3,by exact lz [_,_,_,_] [] 152208824634841135308925763500560625734866368 rfl hol h3 h4 h5⟩).trans ((if_neg (by rw [hl];exact lz [_,_] [] 1397083165956 rfl h5)).trans ((if_pos h4).trans ?_)))
  rw [lay_take hv l (Nat.le_refl _)]
end
section
theorem bytes_inj:∀{a b:List Nat},(∀c∈a,c<256)→(∀c∈b,c<256)→bBits a=bBits b→a=b
 | [],[],_,_,_=>rfl
 | [],x::b,_,_,h=>nomatch h
 |x::a,[],_,_,h=>nomatch h
 |x::a,y::b,ha,hb,h=>by
  obtain ⟨h1,h2⟩:=List.append_inj (show bitsLE x 8++bBits a=bitsLE y 8++bBits b from h) ((bits_len _ _).trans (bits_len _ _).symm)
  have e:=congrArg val h1
  rw [val_bits (ha x m0),val_bits (hb y m0)]at e
  rw [e,bytes_inj (fun c hc=>ha c (.tail _ hc)) (fun c hc=>hb c (.tail _ hc)) h2]
theorem at_mid{a b c:List Nat}{L K:List Bool}(e:bBits b=L++K){n:Nat}(h:a.length=n):Bt (bBits (a++b++c)) (8*n) L:=⟨bBits a,K++bBits c,by rw [bytes_app,bytes_app,e];simp only [List.append_assoc],by rw [bytes_len,h]⟩
theorem infl_fix{oct B:List Nat}{ps:List Part}(hl:oct.length≤100)(hby:∀c∈oct,c<256)(hp:Pre oct ps oct.length)(hB:bBits B=fixBits ps++pad8 (fixBits ps).length)(hd tl:List Nat)(h2:hd.length=2) :
  inflGo (hd++B++tl) 300 16 []=.ok oct (16+(fixBits ps).length)∧(16+(fixBits ps).length+7)/8=2+B.length:=by
 have hbl:=bytes_len B
 rw [hB,List.length_append,show (pad8 _).length=_ from List.length_replicate]at hbl
 refine ⟨?_,by exact Nat.le_antisymm (Classical.not_not.1 (lz [(List.length (fixBits ps)),(((8:Nat)-List.length (fixBits ps)%(8:Nat))%(8:Nat)),(List.length B),(((16:Nat)+List.length (fixBits ps)+(7:Nat))/(8:Nat)),(((16:Nat)+List.length (fixBits ps)+(7:Nat))%(8:Nat))] [] 972008207554578747037493312867413897388813362634 rfl hbl dEq)) (Classical.not_not.1 (lz [(List.length (fixBits ps)),(((8:Nat)-List.length (fixBits ps)%(8:Nat))%(8:Nat)),(List.length B),(((16:Nat)+List.length (fixBits ps)+(7:Nat))/(8:Nat)),(((16:Nat)+List.length (fixBits ps)+(7:Nat))%(8:Nat))] [] 1060760032547020083267413076039421284013810442301303526943854258826 rfl hbl (Nat.mod_lt _ (by decide)) dEq (Nat.mod_lt _ (by decide))))⟩
 have k:Bt (bBits (hd++B++tl)) 16 (fixBits ps):=at_mid hB h2
 have hps:=hp.len.1
 have k3:=parts_run (by exact lz [_] [] 7795819509800158464 rfl hl) hby hp k.left.right (299-ps.length+1)
 rw [List.take_length,show ps.length+(299-ps.length+1)=300 by exact lz [_,_] [] 34607871578423817828625826534658 rfl (Nat.sub_add_cancel (lz [_,_] [] 131717805430550120829896000 rfl hl hps))]at k3
 have k4:=k.right
 rw [List.length_append,←Nat.add_assoc]at k4
 have k5:partsGo _ 300 _ []=.ok oct _:=k3.trans (Rd.bind_ok (f:=contG _ oct) (stop_at k4))
 rw [show∀a b c:Nat,16+a+b+c=16+(a+b+c) by omega,←List.length_append,←List.length_append]at k5
 exact (Rd.bind_ok (take_at (v:=1) (n:=1) k.left.left.left (by decide))).trans ((Rd.bind_ok (take_at (v:=1) (n:=2) k.left.left.right (by decide))).trans (Rd.bind_ok (f:=endG 1 _) k5))
theorem infl_sto{oct B:List Nat}(hl:oct.length≤1000)(hby:∀c∈oct,c<256)(hBy:∀c∈B,c<256)(hB:bBits B=stoBits oct++pad8 (stoBits oct).length)(hd tl:List Nat)(h2:hd.length=2) :
  inflGo (hd++B++tl) 300 16 []=.ok oct (8*(7+oct.length))∧(8*(7+oct.length)+7)/8=2+B.length:=by
 have hpd:pad8 (stoBits oct).length=[]:=by rw [sto_len];unfold pad8;rw [show 40+8*oct.length=8*(5+oct.length) by exact lz [_] [] 9542402535415841786434 rfl,Nat.mul_mod_right];rfl
 rw [hpd,List.append_nil]at hB
 have hbl:=bytes_len B
 rw [hB,sto_len]at hbl
 have hBl:B.length=5+oct.length:=by exact Nat.le_antisymm (Classical.not_not.1 (lz [_,_] [] 209198028636298332047551734333232458 rfl hbl)) (Classical.not_not.1 (lz [_,_] [] 3453265616855787267030817618348874 rfl hbl))
 refine ⟨?_,by exact Nat.le_antisymm (Classical.not_not.1 (lz [(List.length oct),(List.length B),(((8:Nat)*((7:Nat)+List.length oct)+(7:Nat))/(8:Nat)),(((8:Nat)*((7:Nat)+List.length oct)+(7:Nat))%(8:Nat))] [] 66795871459270409965027146213979056516346934663384231486858 rfl hbl dEq)) (Classical.not_not.1 (lz [(List.length B),(List.length oct),(((8:Nat)*((7:Nat)+List.length oct)+(7:Nat))/(8:Nat)),(((8:Nat)*((7:Nat)+List.length oct)+(7:Nat))%(8:Nat))] [] 1054388999302907596992465285510468942728426079495190301322 rfl hBl dEq (Nat.mod_lt _ (by decide))))⟩
 have k:Bt (bBits (hd++B++tl)) 16 (stoBits oct):=at_mid (hB.trans (List.append_nil _).symm) h2
 have k4:takeB (bBits (hd++B++tl)) 40 16=.ok (65535-oct.length) 56:=by
  have:=k.left.right
  rw [List.length_append,bits_len]at this
  exact take_at this (show 65535-oct.length<65536 by exact lz [_,_] [] 624740272836551884641732482305 rfl (Nat.sub_add_cancel (lz [_] [] 543589296140497169993343341824 rfl hl)))
 have hB5:B.drop 5=oct:=bytes_inj (fun c hc=>hBy c (List.mem_of_mem_drop hc)) hby (by
  rw [←bytes_drop,hB]
  exact (List.drop_append_of_le_length (by rw [List.length_append,List.length_append,bits_len,bits_len];decide)).trans (by rw [List.drop_eq_nil_of_le (by rw [List.length_append,List.length_append,bits_len,bits_len];decide)];rfl))
 have hdr:((hd++B++tl).drop 7).take oct.length=oct:=by
  rw [List.append_assoc,List.drop_append,List.drop_eq_nil_of_le (by exact lz [_] [] 3251468936448 rfl h2),List.nil_append,h2,show 7-2=5 from rfl,List.drop_append_of_le_length (by exact Classical.not_not.1 (lz [_,_] [] 843082425990182438239945710410 rfl hbl)),hB5,List.take_append_of_le_length (Nat.le_refl _),List.take_length]
 have t5:storedR (hd++B++tl) 19=.ok oct (8*(7+oct.length)):=by
  refine (Rd.bind_ok (take_at k.left.left.right (show oct.length<65536 by exact lz [_] [] 37237421476354416088321 rfl hl))).trans ((Rd.bind_ok k4).trans ((if_neg (by omega)).trans ((if_pos ?_).trans ?_)))
  ·rw [List.length_append,List.length_append];show 7+_≤_;exact Classical.not_not.1 (lz [_,_,_,_] [] 58894892450036145287532244381818878549326007983050 rfl h2 hbl)
  ·exact congrArg (fun b=>Rd.ok b _) hdr
 exact (Rd.bind_ok (take_at (v:=1) (n:=1) k.left.left.left.left.left (by decide))).trans ((Rd.bind_ok (take_at (v:=0) (n:=2) k.left.left.left.left.right (by decide))).trans (Rd.bind_ok (f:=fun b p3=>if 0<900000 then endG 1 _ ([]++b) p3 else .stuck) t5))
theorem infl_def{way:String}{oct B:List Nat}(h:IsDef way oct B)(hw:WayOk way oct)(hby:∀c∈oct,c<256)(hd tl:List Nat)(h2:hd.length=2) :
  ∃p,inflGo (hd++B++tl) 300 16 []=.ok oct p∧(p+7)/8=2+B.length:=by
 obtain ⟨hBy,⟨rfl,hB⟩ | ⟨rfl,ps,hp,hB⟩⟩:=h
 ·exact ⟨_,infl_sto (hw.elim (·.2) fun z=>absurd z.1 (by decide)) hby hBy hB hd tl h2⟩
 ·exact ⟨_,infl_fix (hw.elim (fun z=>absurd z.1 (by decide)) (·.2)) hby hp hB hd tl h2⟩
theorem be4_eq(n:Nat):be4 n=[n/256/256/256%256,n/256/256%256,n/256%256,n%256]:=by
 unfold be4
 rw [Nat.div_div_eq_div_mul,Nat.div_div_eq_div_mul,Nat.div_div_eq_div_mul,Nat.pow_zero,Nat.div_one]
theorem be_be4{n:Nat}(h:n<4294967296):beF (be4 n)=n:=by
 rw [be4_eq]
 show 256*(256*(256*(256*0+n/256/256/256%256)+n/256/256%256)+n/256%256)+n%256=n
 rw [Nat.mul_zero,Nat.zero_add,Nat.mod_eq_of_lt (by rw [Nat.div_div_eq_div_mul,Nat.div_div_eq_div_mul];exact Nat.div_lt_of_lt_mul h),Nat.div_add_mod,Nat.div_add_mod,Nat.div_add_mod]
theorem adl_lt32(b:List Nat):adlF b<4294967296:=by
 have:=adl_lt b
 unfold adlF;exact lz [_,_] [] 49766397661244301992042197660202071733081432167146222829604503753071962539329 rfl this.1 this.2
theorem way_len{way:String}{oct:List Nat}(hw:WayOk way oct):oct.length≤1000:=hw.elim (·.2) fun z=>Nat.le_trans z.2 (by decide)
theorem zdec_with{way:String}{oct B:List Nat}(h:IsDef way oct B)(hw:WayOk way oct)(hby:∀c∈oct,c<256)(hd t4 ex:List Nat)(h2:hd.length=2)(h4:t4.length=4) :
  zdecR (hd++B++t4++ex) 300=if frameOk (hd++B++t4++ex)=false then .fault else if beF t4=adlF oct then .ok oct 0 else .fault:=by
 obtain ⟨p,hp,hpl⟩:=infl_def h hw hby hd (t4++ex) h2
 rw [←List.append_assoc]at hp
 have hBl:=def_len h hw hby
 have ho:=way_len hw
 have l2:(hd++B).length=2+B.length:=by rw [List.length_append,h2]
 have e:((hd++B++t4++ex).drop (2+B.length)).take 4=t4:=by
  rw [←l2,List.append_assoc,List.drop_left,←h4,List.take_left]
 unfold zdecR
 rw [Rd.bind_ok hp,hpl,if_pos (show oct.length≤1000000∧2+B.length≤100000 from ⟨by exact lz [_] [] 2231592549453743453305527503066368 rfl ho,by exact lz [_] [] 2231607404018233726002163834860800 rfl hBl⟩),e]
 have hle:2+B.length+4≤(hd++B++t4++ex).length:=by rw [List.length_append,List.length_append,l2,h4];exact Nat.le_add_right _ _
 refine congrArg (fun z:Rd (List Nat)=>if frameOk (hd++B++t4++ex)=false then .fault else z) ?_
 by_cases q:beF t4=adlF oct
 ·rw [if_pos ⟨hle,q⟩,if_pos q]
 ·rw [if_neg fun z=>q z.2,if_neg q]
theorem fr2{a b:Nat}{r:List Nat}(h:(256*a+b)%31=0∧a%16=8∧a/16≤7∧b/32%2≠1):frameOk (a::b::r)=true:=decide_eq_true ⟨Nat.le_add_left 2 _,h⟩
theorem frame_head(way:String)(r:List Nat):frameOk (headF way++r)=true:=headF.elim (P:=fun _ h=>frameOk (h++r)=true) way (fr2 (by decide)) (fr2 (by decide)) (fr2 (by decide)) (fr2 (by decide))
theorem zdec_ok{way:String}{oct B:List Nat}(h:IsDef way oct B)(hw:WayOk way oct)(hby:∀c∈oct,c<256)(ex:List Nat) :
  zdecR (headF way++B++be4 (adlF oct)++ex) 300=.ok oct 0:=by
 rw [zdec_with h hw hby _ _ _ rfl rfl,List.append_assoc,List.append_assoc,frame_head,if_neg (by decide),if_pos (be_be4 (adl_lt32 _))]
noncomputable def Le{α:Type}(r r':Rd α):Prop:=∀a p,r=.ok a p→r'=.ok a p∨r'=.fault
theorem Le.rfl{α:Type}{r:Rd α}:Le r r:=fun _ _=>.inl
theorem Le.bind{α β:Type}{r r':Rd α}{f f':α→Nat→Rd β}(h:Le r r')(k:∀a p,Le (f a p) (f' a p)):Le (r.bind f) (r'.bind f'):=by
 cases r with
 |ok a p=>rcases h a p (Eq.refl _) with e |e <;> rw [e];exact k a p;exact fun _ _ _=>.inr (Eq.refl _)
 |fault=>exact fun _ _ e=>nomatch e
 |stuck=>exact fun _ _ e=>nomatch e
theorem Le.ite{α:Type}{c:Prop}[Decidable c]{a a' b b':Rd α}(h:Le a a')(k:Le b b'):Le (if c then a else b) (if c then a' else b'):=by
 by_cases q:c
 ·rw [if_pos q,if_pos q];exact h
 ·rw [if_neg q,if_neg q];exact k
noncomputable def Agr(D D':List Bool):Prop:=∀pos n,pos+n≤D.length→pos+n≤D'.length→slice D pos n=slice D' pos n
section
variable {D D':List Bool}(h:Agr D D')
include h
theorem take_agr{pos n:Nat}:Le (takeB D pos n) (takeB D' pos n):=fun a p k=>by
 unfold takeB at k⊢
 by_cases h1:pos+n≤D.length
 ·rw [if_pos h1]at k
  by_cases h2:pos+n≤D'.length
  ·rw [if_pos h2,←h pos n h1 h2];exact .inl k
  ·rw [if_neg h2];exact .inr rfl
 ·rw [if_neg h1]at k;exact nomatch k
theorem readGo_agr{sy:List Nat}:∀(ts:List Nat) (c f p q:Nat),Le (readGo sy D ts c f p q) (readGo sy D' ts c f p q)
 | [],_,_,_,_=>.rfl
 |t::ts,c,f,p,q=>(take_agr h).bind fun b p'=>.ite .rfl (readGo_agr ts _ _ _ _)
theorem read_agr{l:List Nat}{q:Nat}:Le (readSym l D q) (readSym l D' q):=by unfold readSym;exact readGo_agr h _ _ _ _ _
theorem part_agr{q:Nat}:Le (partR D q) (partR D' q):=(read_agr h).bind fun _ _=>.ite .rfl (.ite .rfl (.ite .rfl ((take_agr h).bind fun _ _=>(read_agr h).bind fun _ _=>.ite .rfl ((take_agr h).bind fun _ _=>.rfl))))
theorem parts_agr:∀(f q:Nat) (out:List Nat),Le (partsGo D f q out) (partsGo D' f q out)
 |0,_,_=>.rfl
 |f+1,q,out=>(part_agr h).bind fun pt p=>by
  cases pt with
  |stop=>exact .rfl
  |lit n=>exact .ite (parts_agr f _ _) .rfl
  |mat l d=>exact .ite (.ite .rfl (.ite (parts_agr f _ _) .rfl)) .rfl
end
theorem take_drop_agr{α:Type}(D:List α){pos n k:Nat}(h:pos+n≤(D.take k).length):((D.take k).drop pos).take n=(D.drop pos).take n:=by
 rw [List.length_take]at h
 rw [List.drop_take,List.take_take,Nat.min_eq_left (by exact lz [_,_,_,_,_] [] 505319228480506425041057427034031616 rfl h (Nat.min_le_left _ _) (Nat.sub_add_cancel (lz [_,_,_,_] [] 110100136792586610636160 rfl h (Nat.min_le_left _ _))))]
theorem cut_agr(data:List Nat)(k:Nat):Agr (bBits data) (bBits (data.take k)):=fun pos n h1 h2=>by
 rw [←bytes_take]at h2⊢
 exact (take_drop_agr _ h2).symm
theorem stored_agr(data:List Nat)(k:Nat){q:Nat}:Le (storedR data q) (storedR (data.take k) q):=(take_agr (cut_agr data k)).bind fun n p1=>(take_agr (cut_agr data k)).bind fun m p2=>.ite .rfl fun b p e=>by
 by_cases h3:(p2+7)/8+n≤(data.take k).length
 ·rw [if_pos h3,take_drop_agr _ h3]
  rw [if_pos (Nat.le_trans h3 (List.length_take_le' _ _))]at e;exact .inl e
 ·rw [if_neg h3];exact .inr rfl
theorem infl_agr(data:List Nat)(k:Nat):∀(f q:Nat) (out:List Nat),Le (inflGo data f q out) (inflGo (data.take k) f q out)
 |0,_,_=>.rfl
 |f+1,q,out=>(take_agr (cut_agr data k)).bind fun last p1=>(take_agr (cut_agr data k)).bind fun way p2=>
  .ite ((stored_agr data k).bind fun b p3=>.ite (.ite .rfl (infl_agr data k f _ _)) .rfl) (.ite .rfl (.ite .rfl ((parts_agr (cut_agr data k) _ _ _).bind fun o p3=>.ite .rfl (infl_agr data k f _ _))))
theorem zdec_cut{way:String}{oct B:List Nat}(h:IsDef way oct B)(hw:WayOk way oct)(hby:∀c∈oct,c<256){k:Nat}(hk:k<(headF way++B++be4 (adlF oct)).length) :
  zdecR ((headF way++B++be4 (adlF oct)).take k) 300=.fault:=by
 obtain ⟨p,hp,hpl⟩:=infl_def h hw hby (headF way) (be4 (adlF oct)) rfl
 have hBl:=def_len h hw hby
 have ho:=way_len hw
 have hlen:(headF way++B++be4 (adlF oct)).length=2+B.length+4:=by rw [List.length_append,List.length_append];rfl
 unfold zdecR
 by_cases q:frameOk ((headF way++B++be4 (adlF oct)).take k)=false
 ·exact if_pos q
 rw [if_neg q]
 rcases infl_agr _ k _ _ _ _ _ hp with q |q <;> rw [q]
 ·refine (if_pos ⟨by exact lz [_] [] 2231592549453743453305527503066368 rfl ho,by exact lz [_,_] [] 37440159444436502255515644487226155251008 rfl hpl hBl⟩).trans (if_neg fun z=>?_)
  have h1:=z.1
  rw [List.length_take,hpl]at h1;exact lz [_,_,_,_] [] 215109172111068703729707070554105573699569098 rfl hk hlen h1 (Nat.min_eq_left (lz [_,_] [] 1464745678080 rfl hk))
 ·rfl
end
section
noncomputable def wsum:List Nat→Nat
 | []=>0
 |x::r=>(r.length+1)*x+wsum r
theorem adl_run:∀(b:List Nat) (s t:Nat),b.foldl adlS (s%65521,t%65521)=((s+b.sum)%65521,(t+(b.length*s+wsum b))%65521)
 | [],s,t=>by rw [List.length_nil,Nat.zero_mul];rfl
 |x::r,s,t=>by
  have e:=Nat.mod_add_mod s 65521 x
  refine ((congrArg (r.foldl adlS) (congr (congrArg Prod.mk e) ((Nat.mod_add_mod t 65521 _).trans ((congrArg (fun z=>(t+z)%65521) e).trans (Nat.add_mod_mod t (s+x) 65521))))).trans (adl_run r (s+x) (t+(s+x)))).trans ?_
  exact congr (congrArg (fun z=>Prod.mk (z%65521)) ((Nat.add_assoc s x _).trans (congrArg (s + ·) List.sum_cons.symm))) (congrArg (·% 65521) (by
   rw [List.length_cons,show wsum (x::r)=(r.length+1)*x+wsum r from rfl,Nat.mul_add,Nat.add_mul,Nat.add_mul,Nat.one_mul,Nat.one_mul];exact lz [_,_,_,_,_,_] [] 5531437358121821993729711428130571900162 rfl))
theorem adl_sum(b:List Nat):b.foldl adlS (1,0)=((1+b.sum)%65521,(b.length+wsum b)%65521):=by
 refine (adl_run b 1 0).trans ?_
 rw [Nat.mul_one,Nat.zero_add]
theorem dvm(a b:Nat){m:Nat}(h:b<m):(b+m*a)/m=a:=by
 rw [Nat.add_mul_div_left _ _ (Nat.zero_lt_of_lt h),Nat.div_eq_of_lt h,Nat.zero_add]
theorem mdm(a b:Nat){m:Nat}(h:b<m):(b+m*a)%m=b:=(Nat.add_mul_mod_self_left b m a).trans (Nat.mod_eq_of_lt h)
theorem be4_of(n a b c d:Nat)(ha:a<256)(hb:b<256)(hc:c<256)(hd:d<256)(e:n=d+256*(c+256*(b+256*a))):be4 n=[a,b,c,d]:=by
 rw [be4_eq,e,dvm _ _ hd,dvm _ _ hc,dvm _ _ hb,mdm _ _ hd,mdm _ _ hc,mdm _ _ hb,Nat.mod_eq_of_lt ha]
theorem tail_of(oct:List Nat):be4 (adlF oct)=[(oct.length+wsum oct)%65521/256,(oct.length+wsum oct)%65521%256,(1+oct.sum)%65521/256,(1+oct.sum)%65521%256]:=by
 unfold adlF
 rw [adl_sum]
 obtain h1:(1+oct.sum)%65521<65536:=Nat.lt_trans (Nat.mod_lt _ (by decide)) (by decide)
 obtain h2:(oct.length+wsum oct)%65521<65536:=Nat.lt_trans (Nat.mod_lt _ (by decide)) (by decide)
 generalize (1+oct.sum)%65521=a at *
 generalize (oct.length+wsum oct)%65521=b at *
 refine be4_of _ _ _ _ _ (Nat.div_lt_of_lt_mul h2) (Nat.mod_lt _ (by decide)) (Nat.div_lt_of_lt_mul h1) (Nat.mod_lt _ (by decide)) ?_
 rw [Nat.mod_add_div,Nat.mul_add,←Nat.add_assoc,Nat.mod_add_div,Nat.add_comm,←Nat.mul_assoc,Nat.mul_comm]
theorem first_mod(b:Nat)(r:List Nat):b%8=val ((bBits (b::r)).take 3):=by
 refine Eq.trans ?_ (congrArg val (rfl:bitsLE b 3=_))
 obtain t:∀n:Nat,(n%2 == 1).toNat=n%2:=fun n=>by
  rcases Nat.mod_two_eq_zero_or_one n with h |h <;> rw [h] <;> rfl
 show _=(b%2 == 1).toNat+2*((b/2%2 == 1).toNat+2*((b/2/2%2 == 1).toNat+2*0))
 rw [t,t,t,show 8=2*(2*2) from rfl,Nat.mod_mul,Nat.mod_mul,Nat.mul_zero,Nat.add_zero]
theorem def_first{way:String}{oct B:List Nat}(h:IsDef way oct B):∃b r,B=b::r∧b<256∧b%8=if way="stored" then 1 else 3:=by
 obtain ⟨hby,h⟩:=h
 cases B with
 |nil=>
  refine False.elim (h.elim (fun h=>?_) (fun h=>h.2.elim fun ps h=>?_))
  ·exact nomatch (congrArg List.head? h.2:none=some true)
  ·exact nomatch (congrArg List.head? h.2:none=some true)
 |cons b r=>
  refine ⟨b,r,rfl,hby b (.head _),(first_mod b r).trans (h.elim (fun h=>?_) (fun h=>h.2.elim fun ps k=>?_))⟩
  ·rw [h.2,if_pos h.1];rfl
  ·rw [k.2,h.1,if_neg (by decide)];rfl
theorem set_mid(A B C:List Nat)(i v:Nat)(h:i<C.length):(A++B++C).set (A.length+B.length+i) v=A++B++C.set i v:=by
 rw [List.set_append,if_neg (by rw [List.length_append];exact lz [_,_,_] [] 375209786168580 rfl),List.length_append,Nat.add_sub_cancel_left]
theorem lt4{P:Nat→Prop}(a:P 0)(b:P 1)(c:P 2)(d:P 3):∀i,i<4→P i
 |0,_=>a |1,_=>b |2,_=>c |3,_=>d |_+4,h=>absurd h (Nat.not_lt.mpr (Nat.le_add_left 4 _))
theorem beF_ne(n i v:Nat)(hi:i<4)(hv:v<256)(hne:v≠(be4 n).getD i 0):beF ((be4 n).set i v)≠n:=by
 intro e
 have hb:∀m,m%256<256:=fun m=>Nat.mod_lt _ (by decide)
 have k:∀a b c d,a<256→b<256→c<256→d<256→be4 (beF [a,b,c,d])=[a,b,c,d]:=fun a b c d ha hb hc hd=>be4_of _ a b c d ha hb hc hd (by
  show 256*(256*(256*(256*0+a)+b)+c)+d=_
  rw [Nat.mul_zero,Nat.zero_add,Nat.add_comm _ b,Nat.add_comm _ c,Nat.add_comm _ d])
 have g:be4 n=(be4 n).set i v:=by
  exact lt4 (P:=fun i=>beF ((be4 n).set i v)=n→be4 n=(be4 n).set i v) (fun e=>(congrArg be4 e).symm.trans (k _ _ _ _ hv (hb _) (hb _) (hb _))) (fun e=>(congrArg be4 e).symm.trans (k _ _ _ _ (hb _) hv (hb _) (hb _)))
   (fun e=>(congrArg be4 e).symm.trans (k _ _ _ _ (hb _) (hb _) hv (hb _))) (fun e=>(congrArg be4 e).symm.trans (k _ _ _ _ (hb _) (hb _) (hb _) hv)) i hi e
 refine hne ?_
 rw [g,List.getD_eq_getElem?_getD,List.getElem?_set_self hi];rfl
section
variable {way:String}{oct B:List Nat}(h:IsDef way oct B)(hw:(way="stored"∧oct.length≤1000)∨(way="fixed"∧oct.length≤100))(hby:∀c∈oct,c<256)
include h hw hby
theorem zdec_tail{i v:Nat}(hi:i<4)(hv:v<256)(hne:v≠(be4 (adlF oct)).getD i 0):zdecR ((headF way++B++be4 (adlF oct)).set (2+B.length+i) v) 300=.fault:=by
 obtain e:=set_mid (headF way) B (be4 (adlF oct)) i v hi
 rw [show (headF way).length=2 from rfl]at e
 rw [e]
 have:=zdec_with h hw hby (headF way) ((be4 (adlF oct)).set i v) [] rfl (by rw [List.length_set];rfl)
 rw [List.append_nil]at this
 rw [this,List.append_assoc,frame_head,if_neg (by decide),if_neg (beF_ne _ _ _ hi hv hne)]
theorem zdec_head{i v:Nat}(hi:i<2):zdecR ((headF way++B++be4 (adlF oct)).set i v) 300=if frameOk ((headF way++B++be4 (adlF oct)).set i v)=false then .fault else .ok oct 0:=by
 obtain e:(headF way++B++be4 (adlF oct)).set i v=(headF way).set i v++B++be4 (adlF oct)++[]:=by
  rw [List.append_nil,List.append_assoc,List.set_append,if_pos (by exact hi),List.append_assoc]
 rw [e,zdec_with h hw hby ((headF way).set i v) _ [] (by rw [List.length_set];rfl) rfl,if_pos (be_be4 (adl_lt32 _))]
end
theorem bent_eq{data:List Nat}(hby:∀c∈data,c<256){spot t:Nat}(f:Nat→Nat)(hf:∀i<data.length,f i=if i=spot then (data.getD i 0+(1+t))%256 else data.getD i 0%256) :
  (List.range data.length).map f=data.set spot ((data.getD spot 0+(1+t))%256):=by
 refine List.ext_getElem (by simp) fun i h1 h2=>?_
 rw [List.getElem_map,List.getElem_range,List.getElem_set]
 rw [List.length_set]at h2
 obtain hd:data.getD i 0=data[i]:=by rw [List.getD_eq_getElem?_getD,List.getElem?_eq_getElem h2];rfl
 rw [hf i h2]
 by_cases q:i=spot
 ·subst q;rw [if_pos rfl,if_pos rfl]
 ·rw [if_neg q,if_neg (fun z=>q z.symm),hd,Nat.mod_eq_of_lt (hby _ (List.getElem_mem h2))]
end
end Mine
end
section
namespace Mine
open KTr KAttr WBin WCmp KSub KLen KSlf KSlt KSlc KMax LO WB SU KIs KApp AppL AppA ExtL ExtA KDget KTk KCel KMeth OV BT ST2 KSa KAsC WhI ForI CompI KMM
section
structure Tk(H:Hp)(c p kk lp:Nat)(k:Nat):Prop where
 cl:∃lc cells,H c=some (.cell (some (.ref lc)))∧H lc=some (.list (iV cells))∧cells≠[]∧cells.length≤63∧lc≠lp
 pl:H p=some (.cell (some (.ref lp)))
 lp:H lp=some (.list [.int (k:Nat)])
 cd:H kk=some .code
noncomputable def cTk:Con:=fun xs H Q _=>∀R:List V→Prop,(∀c p kk lp k,∀n:Int,0<n→n≤1000000→k≤60→Tk H c p kk lp k→(∀H' (v:Int),0≤v→v<n→Ex [lp] H H'→Tk H' c p kk lp (k+1)→Q (.int v) H')→R [.ref c,.ref p,.ref kk,.int n])→R xs
noncomputable def cTaker(s0:Nat):Con:=fun xs H Q _=>∀R:List V→Prop,((∀H' t cc pp kk lp,Ex [] H H'→H t=none→H cc=none→H pp=none→H lp=none→H' t=some (.taker cc pp kk)→Tk H' cc pp kk lp 0→Q (.ref t) H')→R [.ref s0])→R xs
noncomputable def cDec:Con:=fun xs H Q _=>∀R:List V→Prop,(∀data,(∀c∈data,c<256)→data.length≤100000→(zdecR data 300).wp (fun rr _=>∀H',Ex [] H H'→Q (.bytes rr) H') (∀H',Ex [] H H'→Q .none H')→R [.bytes data])→R xs
noncomputable def cRef:Con:=fun xs H Q _=>∀R:List V→Prop,(∀b oct,2≤b.length→(∀c∈b,c<256)→b.length≤100000→zdecR b 300=(if frameOk b=false then .fault else .ok oct 0)→(∀H',Ex [] H H'→Q (.bool true) H')→R [.bytes b])→R xs
section
variable {H H':Hp}{c p kk lp k:Nat}(h:Tk H c p kk lp k)
include h
theorem Tk.up(x:Ex [] H H'):Tk H' c p kk lp k:=⟨h.cl.imp fun _ z=>z.imp fun _ z=>⟨x.at0 z.1,x.at0 z.2.1,z.2.2⟩,x.at0 h.pl,x.at0 h.lp,x.at0 h.cd⟩
theorem Tk.put{y:Nat}{v w:Option V}(e:H y=some (.cell v))(n:y≠c∧y≠p):Tk (H.put y (.cell w)) c p kk lp k:=by
 obtain ⟨lc,cells,z1,z2,z3⟩:=h.cl
 exact ⟨⟨lc,cells,putn z1 n.1.symm,putn z2 (neO z2 e nofun),z3⟩,putn h.pl n.2.symm,putn h.lp (neO h.lp e nofun),putn h.cd (neO h.cd e nofun)⟩
end
structure LS(H:Hp)(c1 c2 c4 c5 c7 t cc pp kk lp k:Nat)(v2 v4 v5 v7:Option V):Prop where
 h1:H c1=some (.cell (some (.ref t)))
 h2:H c2=some (.cell v2)
 h4:H c4=some (.cell v4)
 h5:H c5=some (.cell v5)
 h7:H c7=some (.cell v7)
 ht:H t=some (.taker cc pp kk)
 tk:Tk H cc pp kk lp k
 n12:c1≠c2
 n14:c1≠c4
 n15:c1≠c5
 n17:c1≠c7
 n24:c2≠c4
 n25:c2≠c5
 n27:c2≠c7
 n45:c4≠c5
 n47:c4≠c7
 n57:c5≠c7
 p2:c2≠cc∧c2≠pp
 p4:c4≠cc∧c4≠pp
 p5:c5≠cc∧c5≠pp
 p7:c7≠cc∧c7≠pp
section
variable {H H':Hp}{c1 c2 c4 c5 c7 t cc pp kk lp k:Nat}{v2 v4 v5 v7:Option V}(h:LS H c1 c2 c4 c5 c7 t cc pp kk lp k v2 v4 v5 v7)
include h
theorem LS.up(x:Ex [] H H'):LS H' c1 c2 c4 c5 c7 t cc pp kk lp k v2 v4 v5 v7:={h with h1:=x.at0 h.h1,h2:=x.at0 h.h2,h4:=x.at0 h.h4,h5:=x.at0 h.h5,h7:=x.at0 h.h7,ht:=x.at0 h.ht,tk:=h.tk.up x}
theorem LS.nlp{y:Nat}{o:O}(e:H y=some o)(n:∀l,o≠.list l):y∉[lp]:=n1 (neO e h.tk.lp (n _))
theorem LS.drawn(x:Ex [lp] H H'){k':Nat}(hk:Tk H' cc pp kk lp k'):LS H' c1 c2 c4 c5 c7 t cc pp kk lp k' v2 v4 v5 v7:=
 {h with h1:=x _ _ (h.nlp h.h1 nofun) h.h1,h2:=x _ _ (h.nlp h.h2 nofun) h.h2,h4:=x _ _ (h.nlp h.h4 nofun) h.h4,h5:=x _ _ (h.nlp h.h5 nofun) h.h5,h7:=x _ _ (h.nlp h.h7 nofun) h.h7,ht:=x _ _ (h.nlp h.ht nofun) h.ht,tk:=hk}
theorem LS.set2(w:V):LS (H.put c2 (.cell (some w))) c1 c2 c4 c5 c7 t cc pp kk lp k (some w) v4 v5 v7:=
 {h with h1:=putn h.h1 h.n12,h2:=pself,h4:=putn h.h4 h.n24.symm,h5:=putn h.h5 h.n25.symm,h7:=putn h.h7 h.n27.symm,ht:=putn h.ht (neO h.ht h.h2 nofun),tk:=h.tk.put h.h2 h.p2}
theorem LS.set4(w:V):LS (H.put c4 (.cell (some w))) c1 c2 c4 c5 c7 t cc pp kk lp k v2 (some w) v5 v7:=
 {h with h1:=putn h.h1 h.n14,h2:=putn h.h2 h.n24,h4:=pself,h5:=putn h.h5 h.n45.symm,h7:=putn h.h7 h.n47.symm,ht:=putn h.ht (neO h.ht h.h4 nofun),tk:=h.tk.put h.h4 h.p4}
theorem LS.set5(w:V):LS (H.put c5 (.cell (some w))) c1 c2 c4 c5 c7 t cc pp kk lp k v2 v4 (some w) v7:=
 {h with h1:=putn h.h1 h.n15,h2:=putn h.h2 h.n25,h4:=putn h.h4 h.n45,h5:=pself,h7:=putn h.h7 h.n57.symm,ht:=putn h.ht (neO h.ht h.h5 nofun),tk:=h.tk.put h.h5 h.p5}
theorem LS.set7(w:V):LS (H.put c7 (.cell (some w))) c1 c2 c4 c5 c7 t cc pp kk lp k v2 v4 v5 (some w):=
 {h with h1:=putn h.h1 h.n17,h2:=putn h.h2 h.n27,h4:=putn h.h4 h.n47,h5:=putn h.h5 h.n57,h7:=pself,ht:=putn h.ht (neO h.ht h.h7 nofun),tk:=h.tk.put h.h7 h.p7}
theorem LS.take{C:CT}{Q:QV}{X:QX}(hk:Sup C "take" cTk){n:Int}(h0:0<n)(h1:n≤1000000)(hk60:k≤60)
  (hq:∀(v:Nat) H',(v:Int)<n→Ex [lp] H H'→LS H' c1 c2 c4 c5 c7 t cc pp kk lp (k+1) v2 v4 v5 v7→Q (.int (v:Nat)) H'):C "take" [.ref cc,.ref pp,.ref kk,.int n] H Q X:=
 hk _ _ _ _ fun _ z=>z _ _ _ _ _ _ h0 h1 hk60 h.tk fun H' v hv0 hv x hT=>by
  obtain ⟨v,rfl⟩:=Int.eq_ofNat_of_zero_le hv0
  exact hq v H' hv x (h.drawn x hT)
end
section
variable {C:CT}{H:Hp}{Q:QV}{X:QX}(hd:Sup C "_law_decoded" cDec)
include hd
theorem dec_ok{data rr:List Nat}{p:Nat}(hz:zdecR data 300=.ok rr p)(hb:∀c∈data,c<256)(hl:data.length≤100000)(hq:∀H',Ex [] H H'→Q (.bytes rr) H'):C "_law_decoded" [.bytes data] H Q X:=hd _ _ _ _ fun _ z=>z _ hb hl (hz▸hq)
theorem dec_no{data:List Nat}(hz:zdecR data 300=.fault)(hb:∀c∈data,c<256)(hl:data.length≤100000)(hq:∀H',Ex [] H H'→Q .none H'):C "_law_decoded" [.bytes data] H Q X:=hd _ _ _ _ fun _ z=>z _ hb hl (hz▸hq)
end
noncomputable def tailS:Nat→MSs→MSs
 |0,b=>b
 |n+1,b=>tailS n b.tl
theorem enc_by{way:String}{oct B:List Nat}(h:IsDef way oct B):∀c∈headF way++B++be4 (adlF oct),c<256:=by_app (by_app (head_eq way).2.1 h.1) (be4_by _)
end
end Mine
end
section
namespace Mine
noncomputable def allDefs:List String:=["low_bits","turned_about","check_fit","greatest_length","tally_of","room_left","is_full","is_over","first_codes","codes_of","symbols_of","merged","package_rows","code_lengths","length_rows","distance_rows","length_order","fixed_lengths","repeated","read_lengths","is_usable","read_decoders","read_part","lay_part","read_stored","block_decoders","inflate_into","inflate","adler","check_frame","check_sum","zlib_decoded","key_at","common_length","match_at","lazy_matches","matches_by_length","cheapest_parts","cost_of","length_of","split_number","length_symbol","distance_symbol","counts_of","with_two","lengths_for","cut_lengths","run_rows","nought_rows","again_rows","put_parts","put_stored","put_fixed","fixed_bits","stored_bits","fixed_parts","whole_block","parts_by","made_blocks","stored","fixed","dynamic","mixed","all_ways","shortest","deflated","zlib_head","zlib_encoded","_law_taker","_law_decoded","_law_is_refused"]
noncomputable def allGi:List (String×Int):=[("END_deflate",256),("END_inflate",256),("LEAST",3),("MOST_STORED",65535),("OCTET",8),("SUM_BASE",65521),("UNUSED_PRICE",16)]
noncomputable def allCls:List String:=["BitsIn","BitsOut","Chains","Decoder","Encoder","Prices"]
structure Row where
 g:String
 k:Nat
 b:MSs
 nn:Nat
 np:Nat
 cs:List Nat
 us:List V
 c:Con
noncomputable def tab:List Row:=[
 ⟨"low_bits",0,t_low_bits,2,2,[],[],cLow⟩,
 ⟨"turned_about",0,t_turned_about,5,2,[],[],cTurn⟩,
 ⟨"check_fit",0,t_check_fit,3,2,[],[],cFit⟩,
 ⟨"BitsIn.__init__",0,t_BitsIn_init,3,3,[],[],cInitI⟩,
 ⟨"BitsIn.left",0,t_BitsIn_left,3,1,[],[],cLeft⟩,
 ⟨"BitsIn.need",1,t_BitsIn_need,3,2,[],[],cNeed⟩,
 ⟨"BitsIn.take",2,t_BitsIn_take,5,2,[],[],cTake⟩,
 ⟨"BitsIn.align",0,t_BitsIn_align,1,1,[],[],cAlignI⟩,
 ⟨"BitsIn.octets",2,t_BitsIn_octets,4,2,[],[],cOctI⟩,
 ⟨"BitsOut.__init__",0,t_BitsOut_init,2,1,[],[],cInitO⟩,
 ⟨"BitsOut.put",1,t_BitsOut_put,6,3,[],[],cPut⟩,
 ⟨"BitsOut.align",2,t_BitsOut_align,2,1,[],[],cAlignO⟩,
 ⟨"BitsOut.put_octets",3,t_BitsOut_put_octets,2,2,[],[],cPutOct⟩,
 ⟨"BitsOut.octets",0,t_BitsOut_octets,2,1,[],[],cOctO⟩,
 ⟨"greatest_length",0,t_greatest_length,3,1,[],[],cGreat⟩,
 ⟨"tally_of",1,t_tally_of,4,1,[],[],cTally⟩,
 ⟨"room_left",2,t_room_left,4,1,[],[],cRoom⟩,
 ⟨"is_over",3,t_is_over,2,1,[],[],cOver⟩,
 ⟨"first_codes",0,t_first_codes,5,1,[],[],cFirst⟩,
 ⟨"codes_of",4,t_codes_of,8,1,[],[],cCodes⟩,
 ⟨"symbols_of",1,t_symbols_of,8,1,[],[],cSyms⟩,
 ⟨"Decoder.__init__",4,t_Decoder_init,6,2,[],[],cInitD⟩,
 ⟨"Decoder.read",3,t_Decoder_read,7,2,[],[],cRead⟩,
 ⟨"Encoder.__init__",5,t_Encoder_init,7,2,[2,1],[],cInitE⟩,
 ⟨"Encoder.put",2,t_Encoder_put,5,3,[],[],cPutE⟩,
 ⟨"length_rows",0,t_length_rows,7,0,[],[],cRows lB lX⟩,
 ⟨"distance_rows",0,t_distance_rows,7,0,[],[],cRows dB dX⟩,
 ⟨"fixed_lengths",0,t_fixed_lengths,0,0,[],[],cFixed⟩,
 ⟨"read_part",4,t_read_part,10,4,[],[],cPart⟩,
 ⟨"lay_part",0,t_lay_part,11,3,[],[],cLay⟩,
 ⟨"read_stored",3,t_read_stored,3,1,[],[],cStored⟩,
 ⟨"block_decoders",5,t_block_decoders,8,2,[],[],cDecs⟩,
 ⟨"inflate_into",6,t_inflate_into,14,2,[],[],cInfl⟩,
 ⟨"inflate",7,t_inflate,8,2,[],[],cInflate⟩,
 ⟨"adler",0,t_adler,5,1,[],[],cAdler⟩,
 ⟨"check_frame",0,t_check_frame,3,1,[],[],cFrame⟩,
 ⟨"check_sum",1,t_check_sum,8,3,[],[],cSum⟩,
 ⟨"zlib_decoded",8,t_zlib_decoded,6,1,[],[],cZdec⟩,
 ⟨"key_at",0,t_key_at,2,2,[],[],cKey⟩,
 ⟨"Chains.__init__",0,t_Chains_init,2,2,[],[],cChInit⟩,
 ⟨"Chains.put",1,t_Chains_put,8,2,[],[],cChPut⟩,
 ⟨"Chains.places",1,t_Chains_places,9,4,[],[],cPlaces⟩,
 ⟨"common_length",0,t_common_length,8,4,[],[],cCommon⟩,
 ⟨"matches_by_length",2,t_matches_by_length,11,5,[],[],cMatches⟩,
 ⟨"cheapest_parts",3,t_cheapest_parts,17,5,[5,4,3,2],[.int (32768),.int (258),.int (8)],cCheap⟩,
 ⟨"split_number",0,t_split_number,3,2,[],[],cSplit⟩,
 ⟨"length_symbol",1,t_length_symbol,5,1,[],[],cLSym⟩,
 ⟨"distance_symbol",1,t_distance_symbol,2,1,[],[],cDSym⟩,
 ⟨"Prices.__init__",0,t_Prices_init,3,3,[],[],cPrInit⟩,
 ⟨"Prices.literal",0,t_Prices_literal,3,2,[],[],cPrLit⟩,
 ⟨"Prices.match",2,t_Prices_match,11,3,[],[],cPrMat⟩,
 ⟨"put_parts",6,t_put_parts,16,4,[],[],cPutParts⟩,
 ⟨"put_stored",4,t_put_stored,4,3,[],[],cPutStored⟩,
 ⟨"put_fixed",7,t_put_fixed,7,3,[],[],cPutFixed⟩,
 ⟨"fixed_parts",4,t_fixed_parts,6,1,[],[],cFixedParts⟩,
 ⟨"parts_by",0,t_parts_by,5,2,[1,0],[],cPartsBy⟩,
 ⟨"stored",5,t_stored,10,2,[1,0],[],cStoredW⟩,
 ⟨"fixed",8,t_fixed,12,2,[],[],cFixedW⟩,
 ⟨"deflated",9,t_deflated,12,3,[],[.int (16383)],cDeflated⟩,
 ⟨"zlib_head",0,t_zlib_head,4,1,[],[],cHead⟩,
 ⟨"zlib_encoded",10,t_zlib_encoded,8,2,[2],[],cEncoded⟩]
noncomputable def Ats(p:Row→Prop):List Row→Prop:=List.rec True fun r _ ih=>p r∧ih
theorem Ats.all{p:Row→Prop}:∀{l:List Row},Ats p l→∀r∈l,p r
 |_::_,h,_,.head _=>h.1
 |_::_,h,_,.tail _ q=>Ats.all h.2 _ q
noncomputable def CTr(n:Nat):CT:=fun g xs H Q X=>∀R:Prop,(∀r∈tab,r.g=g→r.k<n→r.c xs H Q X→R)→R
noncomputable def rowAt(i:Nat):Row:=tab.getD i ⟨"",0,.nil,0,0,[],[],fun _ _ _ _=>False⟩
theorem sup_of(i:Nat){n:Nat}(h:Nat.blt (rowAt i).k n=true):Sup (CTr n) (rowAt i).g (rowAt i).c:=fun _ _ _ _ k _ z=>
 if q:i<tab.length then z (rowAt i) (List.mem_of_getElem? (by unfold rowAt;rw [List.getD_eq_getElem?_getD,List.getElem?_eq_getElem q];rfl)) rfl (Nat.le_of_ble_eq_true h) k else by
  unfold rowAt at k;rw [List.getD_eq_getElem?_getD,List.getElem?_eq_none (Nat.le_of_not_lt q)]at k;exact k.elim
theorem allDoes:Ats (fun r=>DoesC (CTr r.k) r.b r.nn r.np r.cs r.us r.c) tab:=
 ⟨p_low _,
 ⟨p_turn _,
 ⟨p_fit _,
 ⟨p_initI _,
 ⟨p_left _,
 ⟨p_need _ (sup_of 4 rfl),
 ⟨p_take _ (sup_of 5 rfl) (sup_of 0 rfl),
 ⟨p_alignI _,
 ⟨p_octI _ (sup_of 5 rfl) (sup_of 7 rfl),
 ⟨p_initO _,
 ⟨p_put _ (sup_of 2 rfl) (sup_of 0 rfl),
 ⟨p_alignO _ (sup_of 10 rfl),
 ⟨p_putOct _ (sup_of 11 rfl),
 ⟨p_octO _,
 ⟨p_great _,
 ⟨p_tally _ (sup_of 14 rfl),
 ⟨p_room _ (sup_of 15 rfl),
 ⟨p_over _ (sup_of 16 rfl),
 ⟨p_first _,
 ⟨p_codes _ (sup_of 17 rfl) (sup_of 15 rfl) (sup_of 18 rfl),
 ⟨p_syms _ (sup_of 14 rfl),
 ⟨p_initD _ (sup_of 17 rfl) (sup_of 15 rfl) (sup_of 20 rfl),
 ⟨p_read _ (sup_of 6 rfl),
 ⟨p_initE _ (sup_of 19 rfl) (sup_of 1 rfl),
 ⟨p_putE _ (sup_of 10 rfl),
 ⟨p_lrows _,
 ⟨p_drows _,
 ⟨p_fixed _,
 ⟨p_part _ (sup_of 22 rfl) (sup_of 6 rfl),
 ⟨p_lay _,
 ⟨p_stored _ (sup_of 7 rfl) (sup_of 6 rfl) (sup_of 8 rfl),
 ⟨p_decs _ (sup_of 27 rfl) (sup_of 21 rfl),
 ⟨p_infl _ (sup_of 25 rfl) (sup_of 26 rfl) (sup_of 6 rfl) (sup_of 30 rfl) (sup_of 31 rfl) (sup_of 28 rfl) (sup_of 29 rfl) (sup_of 7 rfl),
 ⟨p_inflate _ (sup_of 3 rfl) (sup_of 32 rfl),
 ⟨p_adler _,
 ⟨p_frame _,
 ⟨p_sum _ (sup_of 34 rfl),
 ⟨p_zdec _ (sup_of 35 rfl) (sup_of 33 rfl) (sup_of 36 rfl),
 ⟨p_key _,
 ⟨p_chInit _,
 ⟨p_chPut _ (sup_of 38 rfl),
 ⟨p_places _ (sup_of 38 rfl),
 ⟨p_common _,
 ⟨p_matches _ (sup_of 40 rfl) (sup_of 41 rfl) (sup_of 42 rfl),
 ⟨p_cheap _ (sup_of 39 rfl) (sup_of 43 rfl) (sup_of 49 rfl) (sup_of 50 rfl),
 ⟨p_split _,
 ⟨p_lsym _ (sup_of 45 rfl),
 ⟨p_dsym _ (sup_of 45 rfl),
 ⟨p_prInit _,
 ⟨p_prLit _,
 ⟨p_prMat _ (sup_of 46 rfl) (sup_of 47 rfl),
 ⟨p_putParts _ (sup_of 23 rfl) (sup_of 24 rfl) (sup_of 10 rfl) (sup_of 46 rfl) (sup_of 47 rfl),
 ⟨p_putStored _ (sup_of 10 rfl) (sup_of 11 rfl) (sup_of 12 rfl),
 ⟨p_putFixed _ (sup_of 10 rfl) (sup_of 27 rfl) (sup_of 51 rfl),
 ⟨p_fixedParts _ (sup_of 27 rfl) (sup_of 48 rfl) (sup_of 44 rfl),
 ⟨p_partsBy _,
 ⟨p_storedW _ (sup_of 9 rfl) (sup_of 52 rfl) (sup_of 13 rfl),
 ⟨p_fixedW _ (sup_of 9 rfl) (sup_of 54 rfl) (sup_of 55 rfl) (sup_of 53 rfl) (sup_of 13 rfl),
 ⟨p_deflated _ (sup_of 56 rfl) (sup_of 57 rfl),
 ⟨p_head _,
 ⟨p_encoded _ (sup_of 34 rfl) (sup_of 59 rfl) (sup_of 58 rfl),
 trivial⟩⟩⟩⟩⟩⟩⟩⟩⟩⟩⟩⟩⟩⟩⟩⟩⟩⟩⟩⟩⟩⟩⟩⟩⟩⟩⟩⟩⟩⟩⟩⟩⟩⟩⟩⟩⟩⟩⟩⟩⟩⟩⟩⟩⟩⟩⟩⟩⟩⟩⟩⟩⟩⟩⟩⟩⟩⟩⟩⟩⟩
end Mine
end
section
open PySem PySem.W PyProof.Rows PySem.Calls PySem.Spec
set_option genInjectivity false
set_option genSizeOf false
set_option genCtorIdx false
set_option bootstrap.genMatcherCode false
namespace Mine
section
theorem Cx.Ok.le{W:Wd}{T:Tabs}{C:Cx}{a b:Nat}(K:C.Ok W T b)(h:a≤b):C.Ok W T a:=⟨K.B,K.hA,K.hf,K.hk,K.hh,K.hg,Nat.lt_of_le_of_lt (Nat.add_le_add_left (Nat.mul_le_mul_left 4 h) _) K.hd,Nat.lt_of_le_of_lt (Nat.add_le_add_left (Nat.mul_le_mul_left 10 h) _) K.hu,K.G,K.TF⟩
noncomputable abbrev AL:Al:=⟨allDefs,allCls,allGi⟩
structure Reads(W:Wd)(T:Tabs):Prop where
 fn:∀r∈tab,∃f,T.fa r.g=some f∧FnAt T f r.nn r.np r.cs r.us fun ns b=>TSs AL ns r.b b
 gi:∀p∈allGi,p∈T.gi
 cls:∀c∈allCls,c∈T.cls
 XO:ExcOk T
 defs:∀g∈allDefs,∃a,(g,a)∈T.defs∧keepIn T.K (.ref a)=true
section
variable {W:Wd}{T:Tabs}
noncomputable abbrev MeetsUp(W:Wd)(T:Tabs)(n:Nat):Prop:=∀r∈tab,r.k<n→∀f,T.fa r.g=some f→Meets W T (fun _=>r.c) (3*n) r.g f
theorem MeetsUp.at{n:Nat}(ih:MeetsUp W T n){a:Nat}(ha:3*n≤a){g:String}{f:Addr}(e:T.fa g=some f):Meets W T (CTr n) a g f:=fun C q mF H s vs xs QQ EE Q X K at_ hv hc hq hx=>
 hc _ fun r hr eg hk hcc=>ih r hr hk f (eg▸e) C q mF H s vs xs QQ EE Q X (K.le ha) at_ hv hcc hq hx
theorem no_take:∀r∈tab,r.g≠"take":=fun r hr e=>Bool.noConfusion ((List.all_eq_true.mp (show (tab.all fun r=>r.g != "take")=true from rfl) r hr).symm.trans (by rw [e]))
theorem good_of(R:Reads W T){n:Nat}(ih:MeetsUp W T n)(C:Cx)(E:C.EnvOk)(K:C.Ok W T (3*n+2)):GL AL W T (CTr n) C (3*n) C.ns:=
 ⟨⟨E,K,R.XO,fun g hg=>(R.defs g hg).imp fun a z=>⟨z.1,z.2,fun q mF H s vs xs QQ EE Q X=>ih.at (Nat.le_add_right _ _) (K.TF.defs g a z.1) C q mF H s vs xs QQ EE Q X K⟩,fun c f b _ hb=>ih.at (Nat.le_add_right _ _) hb,fun c a _ hb=>ih.at (Nat.le_succ _) hb,
  fun C' q mF H s t cc pp kk v x QQ EE Q X K' a ht hv hc=>hc _ fun r hr e _ _=>absurd e (no_take r hr)⟩,rfl,R.gi,R.cls⟩
theorem meets_all(R:Reads W T):∀n,MeetsUp W T n
 |0=>fun r _ h=>absurd h (Nat.not_lt_zero _)
 |n+1=>fun r hr hk f hf=>by
  have ih:=meets_all R n
  rcases Nat.lt_or_eq_of_le (Nat.le_of_lt_succ hk) with q |q
  ·exact fun C q' mF H s vs xs QQ EE Q X K=>ih r hr q f hf C q' mF H s vs xs QQ EE Q X (K.le (Nat.mul_le_mul_left 3 (Nat.le_succ n)))
  ·obtain ⟨f',hf',F⟩:=R.fn r hr
   obtain rfl:=sI (hf.symm.trans hf')
   subst q
   exact meets_of F (good_of R ih) (Ats.all allDoes r hr)
end
end
end Mine
end
section
namespace Mine
open KTr KAttr WBin WCmp KSub KLen KSlf KSlt KSlc KMax LO WB SU KIs KApp AppL AppA ExtL ExtA KDget KTk KCel KMeth OV BT ST2 KSa KAsC WhI ForI CompI KMM
noncomputable def bF2(data:List Nat)(sp tv j:Nat):Nat:=if j=sp then (data.getD j 0+(1+tv))%256 else data.getD j 0%256
theorem bF2_map{data:List Nat}{sp j:Nat}(h:j≤sp)(tv tv2:Nat):(List.range j).map (bF2 data sp tv)=(List.range j).map (bF2 data sp tv2):=List.map_congr_left fun i hi=>
 have n:i≠sp:=Nat.ne_of_lt (Nat.lt_of_lt_of_le (List.mem_range.mp hi) h)
 (if_neg n).trans (if_neg n).symm
noncomputable def I_law_E(c1 c2 c4 c5 c7 t cc pp kk lp:Nat)(v2:Option V)(oct data:List Nat)(sp:Nat)(i:Nat)(acc:List V)(H':Hp):Prop:=
 ∀R:List V→Prop,(∀tv k',tv<255→k'≤41∨(sp<i∧k'≤42)→LS H' c1 c2 c4 c5 c7 t cc pp kk lp k' v2 (some (.bytes oct)) (some (.bytes data)) (some (.int (sp:Nat)))→R (nts ((List.range i).map (bF2 data sp tv))))→R acc
theorem law_E{C:CT}(hk:Sup C "take" cTk)(hd:Sup C "_law_decoded" cDec)(hr:Sup C "_law_is_refused" cRef){H:Hp}{s0 c1 c2 c4 c5 c7 t cc pp kk lp k:Nat}{v2 v7 w3 w6 w8 w9 w10 w11 w12 w13:Option V}{way:String}{oct B:List Nat}{Q:QV}{X:QX}
  (h:IsDef way oct B)(hw:WayOk way oct)(hby:∀c∈oct,c<256)(L:LS H c1 c2 c4 c5 c7 t cc pp kk lp k v2 (some (.bytes oct)) (some (.bytes (headF way++B++be4 (adlF oct)))) v7)(hk40:k≤40)(hq:∀H',Q (.bool true) H') :
  wSs C (tailS 13 t_law) [some (.ref s0),some (.ref c1),some (.ref c2),w3,some (.ref c4),some (.ref c5),w6,some (.ref c7),w8,w9,w10,w11,w12,w13] H (kBody Q) X:=by
 have hBl:=def_len h hw hby
 have hlen:(headF way++B++be4 (adlF oct)).length=2+B.length+4:=by rw [List.length_append,List.length_append];rfl
 have hdb:=enc_by h
 have hcut:=fun (j:Nat)=>zdec_cut h hw hby (k:=j)
 have htail:=fun (i v:Nat)=>zdec_tail h hw hby (i:=i) (v:=v)
 have hhead:=fun (i v:Nat)=>zdec_head h hw hby (i:=i) (v:=v)
 have hget4:∀i<4,(headF way++B++be4 (adlF oct)).getD (2+B.length+i) 0=(be4 (adlF oct)).getD i 0:=fun i hi=>by
  rw [List.getD_eq_getElem?_getD,List.getD_eq_getElem?_getD,List.getElem?_append_right (by rw [List.length_append];exact Nat.le_add_right _ _),List.length_append]
  show ((be4 _)[2+B.length+i-(2+B.length)]?).getD 0=_
  rw [Nat.add_sub_cancel_left]
 generalize headF way++B++be4 (adlF oct)=data at *
 have b1:data.length≤16777216:=by exact lz [_,_] [] 2572851042225840681115715332865818219683915280590144 rfl hBl hlen
 have hs:∀x∈[0,1,data.length-4,data.length-3,data.length-2,data.length-1],x<data.length∧(x<2∨2+B.length≤x):=by
  refine List.forall_mem_cons.mpr ⟨by exact ⟨lz [_,_] [] 1522037836401933198593 rfl hlen,.inl (lz [] [] 174593 rfl)⟩,List.forall_mem_cons.mpr ⟨by exact ⟨lz [_,_] [] 1523190757906540045569 rfl hlen,.inl (lz [] [] 174657 rfl)⟩,List.forall_mem_cons.mpr ⟨by exact ⟨lz [_,_] [] 5999667012093185 rfl (Nat.sub_add_cancel (lz [_,_] [] 1526649522420360586496 rfl hlen)),.inr (lz [_,_,_] [] 29270813747656904569992625157598266752 rfl hlen (Nat.sub_add_cancel (lz [_,_] [] 1526649522420360586496 rfl hlen)))⟩,List.forall_mem_cons.mpr ⟨by exact ⟨lz [_,_] [] 5999667012089089 rfl (Nat.sub_add_cancel (lz [_,_] [] 1525496600915753739520 rfl hlen)),.inr (lz [_,_,_] [] 29270813747656904569992625157598262656 rfl hlen (Nat.sub_add_cancel (lz [_,_] [] 1525496600915753739520 rfl hlen)))⟩,List.forall_mem_cons.mpr ⟨by exact ⟨lz [_,_] [] 5999667012084993 rfl (Nat.sub_add_cancel (lz [_,_] [] 1524343679411146892544 rfl hlen)),.inr (lz [_,_,_] [] 29270813747656904569992625157598258560 rfl hlen (Nat.sub_add_cancel (lz [_,_] [] 1524343679411146892544 rfl hlen)))⟩,List.forall_mem_cons.mpr ⟨by exact ⟨lz [_,_] [] 5999667012080897 rfl (Nat.sub_add_cancel (lz [_,_] [] 1523190757906540045568 rfl hlen)),.inr (lz [_,_,_] [] 29270813747656904569992625157598254464 rfl hlen (Nat.sub_add_cancel (lz [_,_] [] 1523190757906540045568 rfl hlen)))⟩,nofun⟩⟩⟩⟩⟩⟩
 have sb:∀j:Nat,j≤4→(data.length:Int)-(j:Nat)=((data.length-j:Nat):Int):=fun j hj=>(Int.ofNat_sub (by exact lz [_,_,_] [] 25187386905438882888178648448 rfl hlen hj)).symm
 refine iCel L.h5 (iL (.bytes _) b1 (iSub (sb 4 (by decide)) (iCel L.h5 (iL (.bytes _) b1 (iSub (sb 3 (by decide)) (iCel L.h5 (iL (.bytes _) b1 (iSub (sb 2 (by decide)) (iCel L.h5 (iL (.bytes _) b1 (iSub (sb 1 (by decide)) fun r hrn=>?_)))))))))))
 have L1:=L.up (.put hrn (o:=.tuple (nts [0,1,data.length-4,data.length-3,data.length-2,data.length-1])))
 refine iTk L1.h1 L1.ht ⟨L1.ht,L1.take hk (by decide) (by decide) (by exact lz [_] [] 7866188253980955904 rfl hk40) fun i H2 hi x2 L2=>?_⟩
 have hi6:i<6:=Int.ofNat_lt.mp hi
 have hg:=getD_get (l:=[0,1,data.length-4,data.length-3,data.length-2,data.length-1]) hi6
 refine iI (Nat.lt_trans hi6 (by decide)) (.tuple (x2 _ _ (L1.nlp pself nofun) pself) (ints_get hg)) (iAc L2.h7 ?_)
 obtain ⟨hspl,hspk⟩:=hs _ (List.mem_of_getElem? hg)
 generalize List.getD _ i 0=sp at *
 have L3:=L2.set7 (.int (sp:Nat))
 generalize H2.put c7 (.cell (some (.int (sp:Nat))))=H3 at *
 clear L1 L2 x2 L hrn
 refine ⟨rfl,by decide,iCel L3.h5 (iL (.bytes _) b1 ⟨by show data.length<_;exact lz [_,_] [] 176806546473252859904198784955399421208573495788287383775126849 rfl hBl hlen,iCompR (I_law_E c1 c2 c4 c5 c7 t cc pp kk lp v2 oct data sp) (fun j acc H' hj hI=>?_) (fun acc H' hI=>?_) fun R z=>z 0 (k+1) (by decide) (.inl (by exact lz [_] [] 32587355971139909358848 rfl hk40)) L3⟩)⟩
 ·refine hI (fun acc=>True∧acc.length<_∧eComp _ _ _ _ _ _ _ fun x=>I_law_E _ _ _ _ _ _ _ _ _ _ _ _ _ _ _ (acc++[x])) fun tv k' htv hk' LL=>⟨trivial,by rw [ints_len,List.length_map,List.length_range];exact lz [_,_,_] [] 43165636844044433782128113790501714927088120603377588852097 rfl hBl hlen hj,?_⟩
  refine iCel LL.h5 (iI (by exact lz [_,_,_] [] 176805761715727889765200218080775193641524891716426964257822081 rfl hBl hlen hj) (itB hj) (iCel LL.h7 (iTr (fun q=>?_) fun q=>?_)))
  ·obtain rfl:=Int.ofNat_inj.mp q
   refine iTk LL.h1 LL.ht ⟨LL.ht,LL.take hk (by decide) (by decide) (by omega) fun tv2 H4 htv2 x4 L4=>iAdd (c:=(1+tv2:Nat)) rfl (iAdd (c:=(data.getD j 0+(1+tv2):Nat)) rfl (iMod (by decide) fun R z=>?_))⟩
   have z:=z tv2 (k'+1) (Int.ofNat_lt.mp htv2) (.inr ⟨Nat.lt_succ_self _,by omega⟩) L4
   rw [map_snoc,ints_app,bF2_map (Nat.le_refl _) tv2 tv,show bF2 data j tv2 j=_ from if_pos rfl]at z
   exact z
  ·refine iAdd (c:=(data.getD j 0:Nat)) (Int.add_zero _) (iMod (by decide) fun R z=>?_)
   have z:=z tv k' htv (hk'.imp_right fun z=>⟨Nat.lt_succ_of_lt z.1,z.2⟩) LL
   rw [map_snoc,ints_app,show bF2 data sp tv j=_ from if_neg fun e=>q (congrArg Nat.cast e)]at z
   exact z
 ·refine hI (fun acc=>True∧kList _ acc _) fun tv k' htv hk' LL=>⟨trivial,?_⟩
  rw [bent_eq hdb (spot:=sp) (t:=tv) (bF2 data sp tv) fun _ _=>rfl]
  have h256:=hdb _ (List.mem_of_getElem? (getD_get hspl))
  have hv256:(data.getD sp 0+(1+tv))%256<256:=Nat.mod_lt _ (by decide)
  have hne:(data.getD sp 0+(1+tv))%256≠data.getD sp 0:=by omega
  generalize (data.getD sp 0+(1+tv))%256=bv at *
  have hbl:(data.set sp bv).length=data.length:=List.length_set
  have hbb:∀c∈data.set sp bv,c<256:=fun c hc=>(List.mem_or_eq_of_mem_set hc).elim (hdb c) fun e=>e▸hv256
  refine fun rn hrn=>iByN pself (by exact lz [_,_,_] [] 43165277671248049888750547725731965904238342040019574019456 rfl hBl hlen hbl) hbb ?_
  have LL:=LL.up (.put hrn (o:=.list (nts (data.set sp bv))))
  generalize Hp.put _ rn _=H5 at *
  suffices last:∀H6,Ex [] H5 H6→wE C (.cmp .is (.call "_law_decoded" (.cons (.slcTo (.cel 5) (.take 1 (.len (.cel 5)))) .nil)) (.cst .none)) [some (.ref s0),some (.ref c1),some (.ref c2),w3,some (.ref c4),some (.ref c5),w6,some (.ref c7),w8,w9,w10,w11,w12,some (.bytes (data.set sp bv))] H6 (fun v H=>kBody Q (.ret v) [] H) X by
   rcases hspk with hs2 |hs2
   ·have hn:¬(sp:Int) > 1:=fun z=>by have:=Int.ofNat_lt.mp (show ((1:Nat):Int)<sp from z);exact lz [_] [] 173856168695122506 rfl hs2 z
    exact iCel LL.h7 (iTf hn (iTf hn (iCel LL.h7 (iTt (Int.ofNat_lt.mpr hs2) (hr _ _ _ _ fun _ z=>z _ oct (by exact lz [_,_,_] [] 1795207887762324785530029819264 rfl hlen hbl) hbb (by exact lz [_,_,_] [] 2572868165934252385861273624501422530325740817569152 rfl hBl hlen hbl) (hhead sp bv hs2) fun H6 x6=>iTb (last H6 x6))))))
   ·obtain ⟨j,rfl⟩:=Nat.exists_eq_add_of_le hs2
    have hj:j<4:=by exact lz [_,_,_] [] 14391212683604931318043964262931073 rfl hlen hspl
    exact iCel LL.h7 (iTt (show (1:Int)<((2+B.length+j:Nat):Int) from Int.ofNat_lt.mpr (show 1<2+B.length+j by exact lz [_,_] [] 105250492156089875493156113025 rfl hs2)) (dec_no hd (htail j bv hj hv256 (hget4 j hj▸hne)) hbb (by exact lz [_,_,_] [] 2572868165934252385861273624501422530325740817569152 rfl hBl hlen hbl) fun H6 x6=>iTb (iTb (last H6 x6))))
  refine fun H6 x6=>?_
  have L6:=LL.up x6
  refine iCel L6.h5 (iTk L6.h1 L6.ht (iCel L6.h5 (iL (.bytes _) b1 ⟨L6.ht,L6.take hk (Int.ofNat_lt.mpr (show 0<data.length by exact lz [_,_] [] 1522037836401933198593 rfl hlen)) (Int.ofNat_le.mpr (show data.length≤1000000 by exact lz [_,_] [] 628137460885165891524529964766104169580609054016 rfl hBl hlen)) (by omega) fun ck H7 hck x7 L7=>iSlt (by exact lz [_,_,_] [] 12150053357141202752432055591462385772474158388555995346215144423419041153 rfl hBl hlen hck) b1 (.byt (dec_no hd (hcut ck (Int.ofNat_lt.mp hck)) (fun c hc=>hdb c (List.mem_of_mem_take hc)) (Nat.le_trans (List.length_take_le' _ _) (by exact lz [_,_] [] 153354893084416825489374601238105099598996800 rfl hBl hlen)) fun H8 x8=>hq _))⟩)))
end Mine
end
section
namespace Mine
open KTr KAttr WBin WCmp KSub KLen KSlf KSlt KSlc KMax LO WB SU KIs KApp AppL AppA ExtL ExtA KDget KTk KCel KMeth OV BT ST2 KSa KAsC WhI ForI CompI KMM KEn
theorem d0{α:Type}[DecidableEq α]{x:α}:eqO .ne (decide (x=x))=some false:=by rw [decide_eq_true rfl];rfl
theorem law_D{C:CT}(hk:Sup C "take" cTk)(hd:Sup C "_law_decoded" cDec)(hr:Sup C "_law_is_refused" cRef){H:Hp}{s0 c1 c2 c4 c5 c7 t cc pp kk lp k:Nat}{v2 v7 w3 w6 w8 w9 w10 w11 w12 w13:Option V}{way:String}{oct B:List Nat}{Q:QV}{X:QX}
  (h:IsDef way oct B)(hw:WayOk way oct)(hby:∀c∈oct,c<256)(L:LS H c1 c2 c4 c5 c7 t cc pp kk lp k v2 (some (.bytes oct)) (some (.bytes (headF way++B++be4 (adlF oct)))) v7)(hk40:k≤39)(hq:∀H',Q (.bool true) H') :
  wSs C (tailS 12 t_law) [some (.ref s0),some (.ref c1),some (.ref c2),w3,some (.ref c4),some (.ref c5),w6,some (.ref c7),w8,w9,w10,w11,w12,w13] H (kBody Q) X:=by
 have hBl:=def_len h hw hby
 have hlen:(headF way++B++be4 (adlF oct)).length=2+B.length+4:=by rw [List.length_append,List.length_append];rfl
 have hdb:=enc_by h
 have h0:=zdec_ok h hw hby []
 rw [List.append_nil]at h0
 refine iCel L.h5 (dec_ok hd h0 hdb (by omega) fun H1 x1=>?_)
 have L1:=L.up x1
 refine iCel L1.h4 (iByt d0 (iTb (iCel L1.h5 (iTk L1.h1 L1.ht ⟨L1.ht,L1.take hk (by decide) (by decide) (by omega) fun v H2 hv x2 L2=>fun r hr2=>?_⟩))))
 have hb:∀c∈[v],c<256:=fun c hc=>List.mem_singleton.mp hc▸Int.ofNat_lt.mp hv
 have L3:=L2.up (.put hr2 (o:=.list (nts [v])))
 refine iByN (l:=[v]) pself (Nat.le_of_ble_eq_true rfl) hb (iCat (by show _+1≤_;omega) (dec_ok hd (zdec_ok h hw hby [v]) (by_app hdb hb) (by rw [List.length_append];show _+1≤_;omega) fun H4 x4=>?_))
 have L4:=L3.up x4
 exact iCel L4.h4 (iByt d0 (iTb (law_E hk hd hr h hw hby L4 (by omega) hq)))
noncomputable def MSs.enB:MSs→MSs
 | .cons (.forEnum _ _ _ b) _=>b
 |_=>.nil
theorem head2(w:String):∃b:Nat,headF w=[120,b]∧(b:Int)/64=lvlOf w∧(256*120+(b:Int))%31=0∧(b:Int)/32%2=0:=
 headF.elim (P:=fun L h=>∃b:Nat,h=[120,b]∧(b:Int)/64=L∧(256*120+(b:Int))%31=0∧(b:Int)/32%2=0) w ⟨1,rfl,by decide⟩ ⟨94,rfl,by decide⟩ ⟨156,rfl,by decide⟩ ⟨218,rfl,by decide⟩
theorem enum_one{C:CT}(hh:Sup C "zlib_head" cHead){m0 m1 m2 m3 m4 m5 m6 m7 m8 m9 m12 m13:Option V}{w:String}{k:Int}{H:Hp}{Q:QS}{X:QX}(e:lvlOf w=k)
  (hQ:∀H',Ex [] H H'→Q .next [m0,m1,m2,m3,m4,m5,m6,m7,m8,m9,some (.int k),some (.str w),some (.bytes (headF w)),m13] H'):wSs C (MSs.enB (tailS 10 t_law)) [m0,m1,m2,m3,m4,m5,m6,m7,m8,m9,some (.int k),some (.str w),m12,m13] H Q X:=by
 obtain ⟨b,e1,e2,e3,e4⟩:=head2 w
 refine hh _ _ _ _ (cHead.mk fun H2 x2=>?_)
 have h0:(headF w)[0]?=some 120:=by rw [e1];rfl
 have h1:(headF w)[1]?=some b:=by rw [e1];rfl
 have no:∀{x y:Int},x=y→¬x≠y:=fun e z=>z e
 exact iI0 (.bytes h0) (iTf (no rfl) (iI1 (.bytes h1) (iDiv (by decide) (by decide) (iTf (no (e2.trans e)) (iI0 (.bytes h0) (iMul (by decide) (by decide) (iI1 (.bytes h1) (iAdd rfl (iMod (by decide) (iTf (no e3) (iI1 (.bytes h1) (iDiv (by decide) (by decide) (iMod (by decide) (iTf (no e4) (hQ H2 x2)))))))))))))))
theorem law_C{C:CT}(hk:Sup C "take" cTk)(hd:Sup C "_law_decoded" cDec)(hr:Sup C "_law_is_refused" cRef)(hh:Sup C "zlib_head" cHead){H:Hp}{s0 c1 c2 c4 c5 c7 t cc pp kk lp k:Nat}{v2 v7 w6 w8 w9 w10 w11 w12 w13:Option V}{way:String}{oct B:List Nat}{Q:QV}{X:QX}
  (h:IsDef way oct B)(hw:WayOk way oct)(hby:∀c∈oct,c<256)(L:LS H c1 c2 c4 c5 c7 t cc pp kk lp k v2 (some (.bytes oct)) (some (.bytes (headF way++B++be4 (adlF oct)))) v7)(hk40:k≤39)(hq:∀H',Q (.bool true) H') :
  wSs C (tailS 10 t_law) [some (.ref s0),some (.ref c1),some (.ref c2),some (.str way),some (.ref c4),some (.ref c5),w6,some (.ref c7),w8,w9,w10,w11,w12,w13] H (kBody Q) X:=by
 have hBl:=def_len h hw hby
 have hlen:(headF way++B++be4 (adlF oct)).length=2+B.length+4:=by rw [List.length_append,List.length_append];rfl
 refine fun r hr2=>iEn pself ⟨pself,enum_one hh rfl fun H2 x2=>⟨x2.at0 pself,enum_one hh rfl fun H3 x3=>?_⟩⟩
 have x3:=x2.trans x3
 refine ⟨x3.at0 pself,enum_one hh rfl fun H4 x4=>⟨(x3.trans x4).at0 pself,enum_one hh rfl fun H5 x5=>?_⟩⟩
 have x5:=(x3.trans x4).trans x5
 refine ⟨x5.at0 pself,hh _ _ _ _ (cHead.mk fun H6 x6=>hh _ _ _ _ (cHead.mk fun H7 x7=>iByt (r:=false) d0 (iTb ?_)))⟩
 have L7:=L.up ((((Ex.put hr2).trans x5).trans x6).trans x7)
 exact iCel L7.h5 (iSlt (k:=2) (by decide) (by omega) (.byt (hh _ _ _ _ (cHead.mk fun H8 x8=>iByt d0 (iTb (law_D hk hd hr h hw hby (L7.up x8) hk40 hq))))))
theorem sum_cast:∀l:List Nat,(l.map fun (n:Nat)=>(n:Int)).sum=((l.sum:Nat):Int)
 | []=>rfl
 |x::l=>by rw [List.map_cons,List.sum_cons,List.sum_cons,sum_cast l];rfl
theorem wsum_range:∀oct:List Nat,((List.range oct.length).map fun j=>(oct.length-j)*oct.getD j 0).sum=wsum oct
 | []=>rfl
 |x::r=>by
  rw [List.length_cons,List.range_succ_eq_map,List.map_cons,List.sum_cons,List.map_map,wsum,←wsum_range r]
  exact congrArg (_+List.sum ·) (List.map_congr_left fun j _=>by
   show (r.length+1-(j+1))*(x::r).getD (j+1) 0=_
   rw [List.getD_cons_succ,Nat.add_sub_add_right])
theorem law_B{C:CT}(hk:Sup C "take" cTk)(hd:Sup C "_law_decoded" cDec)(hr:Sup C "_law_is_refused" cRef)(hh:Sup C "zlib_head" cHead)(he:Sup C "zlib_encoded" cEncoded){H:Hp}{s0 c1 c2 c4 c5 c7 t cc pp kk lp k:Nat}{v5 v7 w6 w8 w9 w10 w11 w12 w13:Option V}{way:String}{oct:List Nat}{Q:QV}{X:QX}
  (hw:WayOk way oct)(hby:∀c∈oct,c<256)(L:LS H c1 c2 c4 c5 c7 t cc pp kk lp k (some (.int (oct.length:Nat))) (some (.bytes oct)) v5 v7)(hk40:k≤39)(hq:∀H',Q (.bool true) H') :
  wSs C (tailS 5 t_law) [some (.ref s0),some (.ref c1),some (.ref c2),some (.str way),some (.ref c4),some (.ref c5),w6,some (.ref c7),w8,w9,w10,w11,w12,w13] H (kBody Q) X:=by
 have ho:=way_len hw
 refine iCel L.h4 (he _ _ _ _ (cEncoded.mk hw hby fun H1 B x1 hB=>?_))
 have hBl:=def_len hB hw hby
 obtain ⟨b0,br,hb0,_,hb8⟩:=def_first hB
 have hlen:(headF way++B++be4 (adlF oct)).length=2+B.length+4:=by rw [List.length_append,List.length_append];rfl
 have L1:=L.up x1
 have L2:=L1.set5 (.bytes (headF way++B++be4 (adlF oct)))
 refine iAc L1.h5 ?_
 generalize H1.put c5 _=H2 at *
 refine iCel L2.h4 (iSuB (by exact lz [_] [] 9140603091231869403225988196777497856 rfl ho) (iAdd (c:=(1+oct.sum:Nat)) (by rw [sum_cast];rfl) (iMod (by decide) ?_)))
 refine iCel L2.h2 ⟨rfl,by decide,iCel L2.h2 ⟨by show oct.length<_;exact lz [_] [] 628143036157001901302261561551867254879478519041 rfl ho,iCompR (fun i acc H'=>acc=nts ((List.range i).map fun j=>(oct.length-j)*oct.getD j 0)∧H'=H2) (fun j acc H' hj hI=>?_) (fun acc H' hI=>?_) ⟨rfl,rfl⟩⟩⟩
 ·obtain ⟨rfl,rfl⟩:=hI
  have h256:=hby _ (List.mem_of_getElem? (getD_get hj))
  refine ⟨trivial,by rw [ints_len,List.length_map,List.length_range];exact lz [_,_] [] 153355148469971545147114409386346126739064129 rfl ho hj,iCel L2.h2 (iSub (c:=(oct.length-j:Nat)) (Int.ofNat_sub (Nat.le_of_lt hj)).symm (iCel L2.h4 (iI (by exact lz [_,_] [] 628140248138208398263771432149212741134172112193 rfl ho hj) (itB hj) (iMul (by exact lz [_,_,_,_] [] 3419935982028636042114505034395103882921305747441700919909411093176070932275334935311745 rfl ho (Int.natAbs_of_nonneg (lz [_] [] 1395205 rfl)) (Nat.sub_add_cancel (lz [_,_] [] 1464745678080 rfl hj))) (by exact lz [_,_] [] 12150053343975159386454638743640202431071293700319210449209231676082771265 rfl h256 (Int.natAbs_of_nonneg (lz [_] [] 1395205 rfl))) ⟨?_,rfl⟩))))⟩
  rw [map_snoc,ints_app];rfl
 ·obtain ⟨rfl,rfl⟩:=hI
  refine ⟨trivial,fun r hr1=>iSuL pself (lenI (by rw [List.length_map,List.length_range];exact lz [_] [] 9140603091231869403225988196777497856 rfl ho)) (ints_ofP _) (iAdd (c:=(oct.length+wsum oct:Nat)) (by rw [sum_cast,wsum_range];rfl) (iMod (by decide) ?_))⟩
  refine iDiv (by decide) (by decide) (iMod (by decide) (iDiv (by decide) (by decide) (iMod (by decide) fun r4 hr4=>?_)))
  have L4:=(L2.up (.put hr1 (o:=.list (nts ((List.range oct.length).map fun j=>(oct.length-j)*oct.getD j 0))))).up (.put hr4 (o:=.list (nts (be4 (adlF oct)))))
  have et: [V.int (((oct.length+wsum oct:Nat):Int)%65521/256),.int (((oct.length+wsum oct:Nat):Int)%65521%256),.int (((1+oct.sum:Nat):Int)%65521/256),.int (((1+oct.sum:Nat):Int)%65521%256)]=nts (be4 (adlF oct)):=by rw [tail_of];rfl
  rw [et]
  refine iCel L4.h5 (iSlf (lo:=2+B.length) (by decide) (by exact lz [_,_] [] 2572851042225840681115715332865818219683915280590144 rfl hBl hlen) (by rw [if_pos (by decide),hlen];exact lz [_] [] 1517403822564404237781639 rfl) (.byt ?_))
  have l2:(headF way++B).length=2+B.length:=by rw [List.length_append];rfl
  rw [show cutL (headF way++B++be4 (adlF oct)) (2+B.length) _=be4 (adlF oct) by unfold cutL;rw [List.take_length,←l2,List.drop_left]]
  refine iLoB (Nat.le_of_ble_eq_true rfl) fun r5 hr5=>iLst (xs:=(be4 (adlF oct)).map fun (n:Nat)=>(n:Int)) (ys:=(be4 (adlF oct)).map fun (n:Nat)=>(n:Int)) pself (putf pself hr5) d0 (iTb ?_)
  have L5:=L4.up (.put hr5 (o:=.list ((be4 (adlF oct)).map fun (n:Nat)=>V.int (n:Int))))
  have hget2:(headF way++B++be4 (adlF oct))[2]?=some b0:=by rw [hb0];rfl
  refine iCel L5.h5 (iI (n:=2) (by decide) (.bytes hget2) (iMod (by decide) ?_))
  have fin:∀v:Int,((b0%8:Nat):Int)=v→¬((b0:Int)%8≠v):=fun v e z=>z e
  rcases hw with ⟨rfl,hl⟩ | ⟨rfl,hl⟩
  ·rw [if_pos rfl]at hb8
   exact iStr rfl (iTt rfl (iTf (fin _ (congrArg Nat.cast hb8)) (law_C hk hd hr hh hB (.inl ⟨rfl,hl⟩) hby L5 hk40 hq)))
  ·rw [if_neg (by decide)]at hb8
   exact iStr rfl (iTf (by decide) (iTf (fin _ (congrArg Nat.cast hb8)) (law_C hk hd hr hh hB (.inr ⟨rfl,hl⟩) hby L5 hk40 hq)))
theorem WayOk.of{way:String}{oct:List Nat}(h:way="stored"∨way="fixed")(h1:oct.length≤12):WayOk way oct:=h.imp (fun z=>⟨z,Nat.le_trans h1 (by decide)⟩) fun z=>⟨z,Nat.le_trans h1 (by decide)⟩
noncomputable def I_law_A(c1 c2 c4 c5 c7 t cc pp kk lp:Nat)(v4 v5 v7:Option V)(n i:Nat)(acc:List V)(H':Hp):Prop:=
 ∀R:List V→Prop,(∀ns:List Nat,ns.length=i→(∀c∈ns,c<256)→LS H' c1 c2 c4 c5 c7 t cc pp kk lp (2+i) (some (.int (n:Nat))) v4 v5 v7→R (nts ns))→R acc
theorem iWay{C:CT}{m:M}{H:Hp}{Q:QV}{X:QX}{way:String}(h:way="stored"∨way="fixed")(k:∀b:Nat,b≤258→(∀d,d<5→WayOk way (List.replicate (b+d) 255))→Q (.int b) H) :
  WCmp (kIte (wE C (.cst (.int 258))) (wE C (.cst (.int 24))) m Q X) H .eq (.str way) (.str "stored"):=
 h.elim (fun e=>by subst e;exact iStr rfl (iTt rfl (k 258 (by decide) fun d hd=>.inl ⟨rfl,by rw [List.length_replicate];exact lz [_] [] 133014427507611247648888064 rfl hd⟩))) fun e=>by subst e;exact iStr rfl (iTf (by decide) (k 24 (by decide) fun d hd=>.inr ⟨rfl,by rw [List.length_replicate];exact lz [_] [] 31631578073472740807936 rfl hd⟩))
theorem law_A{C:CT}(hk:Sup C "take" cTk)(hd:Sup C "_law_decoded" cDec)(hr:Sup C "_law_is_refused" cRef)(hh:Sup C "zlib_head" cHead)(he:Sup C "zlib_encoded" cEncoded){H:Hp}{s0 c1 c2 c4 c5 c7 t cc pp kk lp:Nat}{v2 v4 v5 v7 w3 w6 w8 w9 w10 w11 w12 w13:Option V}{Q:QV}{X:QX}
  (L:LS H c1 c2 c4 c5 c7 t cc pp kk lp 0 v2 v4 v5 v7)(hq:∀H',Q (.bool true) H') :
  wSs C (tailS 1 t_law) [some (.ref s0),some (.ref c1),some (.ref c2),w3,some (.ref c4),some (.ref c5),w6,some (.ref c7),w8,w9,w10,w11,w12,w13] H (kBody Q) X:=by
 refine iTk L.h1 L.ht ⟨L.ht,L.take hk (by decide) (by decide) (by decide) fun n H1 hn x1 L1=>iAc L1.h2 ?_⟩
 have L2:=L1.set2 (.int (n:Nat))
 generalize H1.put c2 _=H2 at *
 clear L L1 x1
 intro r hr2
 have L3:=L2.up (.put hr2 (o:=.tuple [.str "stored",.str "fixed"]))
 refine iTk L3.h1 L3.ht ⟨L3.ht,L3.take hk (by decide) (by decide) (by decide) fun i H4 hi x4 L4=>?_⟩
 have hi2:i<2:=Int.ofNat_lt.mp hi
 have hg:∃way,(way="stored"∨way="fixed")∧[V.str "stored",.str "fixed"][i]?=some (.str way):=if q:i=0 then ⟨_,.inl rfl,q▸rfl⟩ else ⟨_,.inr rfl,(show i=1 by omega)▸rfl⟩
 obtain ⟨way,hway,hg⟩:=hg
 refine iI (Nat.lt_trans hi2 (by decide)) (.tuple (x4 _ _ (L3.nlp pself nofun) pself) hg) ⟨rfl,by decide,iCel L4.h2 ⟨by show n<_;exact lz [_] [] 2396175522449500661095663305480457103365377 rfl hn,iCompR (I_law_A c1 c2 c4 c5 c7 t cc pp kk lp v4 v5 v7 n) (fun j acc H' hj hI=>?_) (fun acc H' hI=>?_) fun R z=>z [] rfl nofun L4⟩⟩
 ·refine hI (fun acc=>True∧acc.length<_∧eComp _ _ _ _ _ _ _ fun x=>I_law_A _ _ _ _ _ _ _ _ _ _ _ _ _ _ _ (acc++[x])) fun ns hnl hns LL=>⟨trivial,by rw [ints_len];exact lz [_,_,_] [] 9814729502078178889436481811996988036924921217 rfl hn hj hnl,iTk LL.h1 LL.ht ⟨LL.ht,LL.take hk (by decide) (by decide) (by exact lz [_,_] [] 8446166559317270498696840512 rfl hn hj) fun v H5 hv x5 L5=>fun R z=>?_⟩⟩
  have z:=z (ns++[v]) (by rw [List.length_append,hnl];rfl) (by_app hns fun c hc=>List.mem_singleton.mp hc▸Int.ofNat_lt.mp hv) L5
  rw [ints_app]at z;exact z
 ·refine hI (fun acc=>True∧kList _ acc _) fun ns hnl hns LL=>⟨trivial,fun r3 hr3=>?_⟩
  have L5:=LL.up (.put hr3 (o:=.list (nts ns)))
  refine iByN pself (by exact lz [_,_] [] 584998597838839641807724455707160167744 rfl hn hnl) hns (iAc L5.h4 ?_)
  have L6:=L5.set4 (.bytes ns)
  generalize Hp.put _ c4 _=H6 at *
  clear LL L5 L4 L3 L2
  have hn12:n≤12:=by exact lz [_] [] 230088542278912 rfl hn
  refine iTk L6.h1 L6.ht ⟨L6.ht,L6.take hk (by decide) (by decide) (by exact lz [_] [] 503430753083842647296 rfl hn) fun q H7 hq4 x7 L7=>iTr (fun _=>?_) fun _=>?_⟩
  ·refine iWay hway fun b hb hw=>iTk L7.h1 L7.ht ⟨L7.ht,L7.take hk (by decide) (by decide) (by exact lz [_] [] 2062052731419729872573696 rfl hn) fun d H8 hd5 x8 L8=>iAdd (c:=(b+d:Nat)) rfl (iAc L8.h2 ?_)⟩
   have hd:=Int.ofNat_lt.mp hd5
   have L9:=L8.set2 (.int (b+d:Nat))
   generalize H8.put c2 _=H9 at *
   intro r1 hr1
   have L10:=L9.up (.put hr1 (o:=.list [.int 255]))
   refine iCel L10.h2 (iRep pself (by exact lz [_,_] [] 40299925823654956162608696415552 rfl hb hd5) fun r2 hr2=>?_)
   rw [show List.replicate (b+d) (V.int 255)=_ from ints_rep (b+d) 255]
   have L11:=L10.up (.put hr2 (o:=.list (nts (List.replicate (b+d) 255))))
   have h255:∀c∈List.replicate (b+d) 255,c<256:=fun c hc=>(List.mem_replicate.mp hc).2▸(by decide)
   exact iByN pself (by rw [List.length_replicate];exact lz [_,_] [] 9814647835639345859585980570945552576916247872 rfl hb hd5) h255 (iAc L11.h4 (law_B hk ‹_› hr hh he (hw d hd) h255 (by rw [List.length_replicate];exact L11.set4 _) (by exact lz [_] [] 8503894196148600411543328000 rfl hn) hq))
  ·exact law_B hk hd hr hh he (.of hway (hnl▸hn12)) hns (hnl▸L7) (by exact lz [_,_] [] 34831950625996089342622123246912 rfl hn hnl) hq
end Mine
end
section
open PySem PySem.W PyProof.Rows PySem.Calls PySem.Spec
set_option maxHeartbeats 400000
set_option genInjectivity false
set_option genSizeOf false
set_option genCtorIdx false
set_option bootstrap.genMatcherCode false
namespace Mine
open KTr KAttr WBin WCmp KSub KLen KSlf KSlt KSlc KMax LO WB SU KIs KApp AppL AppA ExtL ExtA KDget KTk KCel KMeth OV BT ST2 KSa KAsC WhI ForI CompI KMM KEn
section
noncomputable def CTd:CT:=fun g xs H Q _=>∀R:String→List V→Prop,(∀(x:Int) (l:Nat),l≤100→(∀v:Int,Q (.int v) H)→R "#dig" [.int x,.int l])→R g xs
theorem CTd.at(g:String)(xs:List V)(H:Hp)(Q:QV)(X:QX)(h:CTd g xs H Q X):g="#dig":=h (fun g _=>g="#dig") fun _ _ _ _=>rfl
noncomputable def k1:MS:=.asg 1 (.sub (.cel 4) (.cst (.int 0)))
noncomputable def k2:MS:=.setsub (.cel 4) (.cst (.int 0)) (.bin .add (.loc 1) (.cst (.int 1)))
noncomputable def k3:MS:=.asg 2 (.bin .fdiv (.loc 1) (.len (.cel 3)))
noncomputable def a1:ME:=.sub (.cel 3) (.bin .mod (.loc 1) (.len (.cel 3)))
noncomputable def a3:ME:=.bin .mul (.loc 2) (.bin .add (.bin .mul (.cst (.int 7)) (.loc 1)) (.cst (.int 3)))
noncomputable def t_take:MSs:=.cons k1 (.cons k2 (.cons k3 (.cons (.ret (.bin .mod (.bin .add (.call "#dig" (.cons a1 (.cons (.loc 2) .nil))) a3) (.loc 0))) .nil)))
noncomputable abbrev AN:Al:=⟨[],[],[]⟩
noncomputable def TkB(ns:Ns)(b:List Stmt):Prop:=∀W T C,GL AN W T CTd C 0 ns→C.Def→SSs W T CTd C t_take b
section
variable {W:Wd}{T:Tabs}{C:Cx}
theorem dig_small{l:Nat}(h:l≤100):(((720720:Int)^l).natAbs).log2<9000:=by
 rw [show ((720720:Int)^l).natAbs=720720^l by rw [Int.natAbs_pow];rfl,Nat.log2_lt (Nat.ne_of_gt (Nat.pow_pos (by decide)))]
 exact Nat.lt_of_le_of_lt (Nat.pow_le_pow_right (by decide) h) (by decide +kernel)
theorem dig_of{g:RG}{mF:SM}{H:Hp}{s:Shared}{v w:Value}{x y:V}{t:Tok}{QQ EE:VQ}{Q:QV}{X:QX}(a:At W C g mF H s)(hv:VR v x)(hw:VR w y)(h:CTd "#dig" [x,y] H Q X)(hq:Fin1 W C g mF QQ Q) :
  wpAny (model W.prog W.w) C.A (binaryOp .Pow (.int 720720 t) w) (fun u s'=>wpAny (model W.prog W.w) C.A (binaryOp .FloorDiv v u) QQ EE s') EE s:=
 (h (fun _ xs=>∀x y,xs=[x,y]→VR v x→VR w y→wpAny (model W.prog W.w) C.A (binaryOp .Pow (.int 720720 t) w) (fun u s'=>wpAny (model W.prog W.w) C.A (binaryOp .FloorDiv v u) QQ EE s') EE s) fun i l hl hr x y e hv hw=>by
  obtain rfl: .int i=x:=(List.cons.inj e).1
  obtain rfl: .int l=y:=(List.cons.inj (List.cons.inj e).2).1
  exact hv.on2 hw fun t u=>pow_int_small (Int.natCast_nonneg _) (Int.ofNat_le.mpr (Nat.le_trans hl (by decide))) (by decide) (floordiv_int (Int.pow_ne_zero (by decide)) (hq _ _ _ H a (.int _ _) (hr _)) (.inl (PyProof.noPylong_of_log2 (dig_small hl))))) x y rfl hv hw
theorem se_dig{a b:ME}{ea eb:Expr}{k:Nat}{p p2 p3:Pos}(h1:SE W T CTd C a ea)(h2:SE W T CTd C b eb):SE W T CTd C (.call "#dig" (.cons a (.cons b .nil))) (.BinOp ea .FloorDiv (.BinOp (.Constant (.int 720720) k p) .Pow eb p2) p3):=
 fun g l H s QQ EE Q X a hw hq hx=>c_BinOp (h1 g l H s _ EE _ X a hw (fun v x s1 H1 a1 hv hw1=>c_BinOp (.of<|wpAny_Constant_int (h2 g l H1 _ _ EE _ X a1 hw1 (fun w y s2 H2 a2 hw' hw2=>.of (wpAny_mono (dig_of (X:=X) a2 hv hw' hw2 hq) (fun _ _ z=>.of z) fun _ _ z=>z)) hx))) hx)
theorem tk_ok{ns:Ns}{s1 s2 s3:Stmt}{e1 e2 e3 e4:Expr}{k:Nat}{q p1 p2 p3 p4 p:Pos}(h1:TS AN ns k1 s1)(h2:TS AN ns k2 s2)(h3:TS AN ns k3 s3)(h4:TE AN ns false a1 e1)(h5:TE AN ns false (.loc 2) e2)(h6:TE AN ns false a3 e3)(h7:TE AN ns false (.loc 0) e4) :
  TkB ns [s1,s2,s3,.Return (some (.BinOp (.BinOp (.BinOp e1 .FloorDiv (.BinOp (.Constant (.int 720720) k q) .Pow e2 p4) p3) .Add e3 p2) .Mod e4 p1)) p]:=fun W T C g D=>
 sss_cons (h1 _ _ _ _ _ g D) (sss_cons (h2 _ _ _ _ _ g D) (sss_cons (h3 _ _ _ _ _ g D) (sss_cons (ss_ret (se_bin (op:=.mod) (se_bin (op:=.add) (se_dig (h4 _ _ _ _ _ g) (h5 _ _ _ _ _ g)) (h6 _ _ _ _ _ g)) (h7 _ _ _ _ _ g))) sss_nil)))
noncomputable def ckTk(ns:Ns)(b:List Stmt):Chk (TkB ns b):=onCons b fun s1 b=>on3 (P:=fun b=>TkB ns (s1::b)) b fun s2 s3 s4=>onRet (P:=fun s=>TkB ns [s1,s2,s3,s]) s4 fun v p=>onSome (R:=fun v=>TkB ns [s1,s2,s3,.Return v p]) v fun e=>
 onBin (P:=fun e=>TkB ns [s1,s2,s3,.Return (some e) p]) e fun l o e4 p1=>eqD PySem.Operator.Mod (P:=fun o=>TkB ns [s1,s2,s3,.Return (some (.BinOp l o e4 p1)) p]) o (onBin (P:=fun l=>TkB ns [s1,s2,s3,.Return (some (.BinOp l .Mod e4 p1)) p]) l fun l o e3 p2=>
 eqD PySem.Operator.Add (P:=fun o=>TkB ns [s1,s2,s3,.Return (some (.BinOp (.BinOp l o e3 p2) .Mod e4 p1)) p]) o (onBin (P:=fun l=>TkB ns [s1,s2,s3,.Return (some (.BinOp (.BinOp l .Add e3 p2) .Mod e4 p1)) p]) l fun e1 o r p3=>
 eqD PySem.Operator.FloorDiv (P:=fun o=>TkB ns [s1,s2,s3,.Return (some (.BinOp (.BinOp (.BinOp e1 o r p3) .Add e3 p2) .Mod e4 p1)) p]) o (onBin (P:=fun r=>TkB ns [s1,s2,s3,.Return (some (.BinOp (.BinOp (.BinOp e1 .FloorDiv r p3) .Add e3 p2) .Mod e4 p1)) p]) r fun c o e2 p4=>
 eqD PySem.Operator.Pow (P:=fun o=>TkB ns [s1,s2,s3,.Return (some (.BinOp (.BinOp (.BinOp e1 .FloorDiv (.BinOp c o e2 p4) p3) .Add e3 p2) .Mod e4 p1)) p]) o (onInt 720720 (P:=fun c=>TkB ns [s1,s2,s3,.Return (some (.BinOp (.BinOp (.BinOp e1 .FloorDiv (.BinOp c .Pow e2 p4) p3) .Add e3 p2) .Mod e4 p1)) p]) c fun k q=>
 (ckS (L:=AN) k1 ns s1).with_ fun h1=>(ckS k2 ns s2).with_ fun h2=>(ckS k3 ns s3).with_ fun h3=>(ck a1 ns false e1).with_ fun h4=>(ck (.loc 2) ns false e2).with_ fun h5=>(ck a3 ns false e3).with_ fun h6=>(ck (.loc 0) ns false e4).map fun h7=>tk_ok h1 h2 h3 h4 h5 h6 h7))))
theorem init_ne(c n:String)(h:(n.toList.getLast? != some '_')=true):c++".__init__"≠n:=fun e=>by
 subst e
 rw [String.toList_append,List.getLast?_append,show (".__init__":String).toList.getLast?=some '_' by decide]at h
 exact Bool.noConfusion h
noncomputable def nOk(n:String):Bool:=methsOf.all (fun p=>p.1++"."++p.2 != n)&&n.toList.getLast? != some '_'&&n != "take"
theorem nOk.m{n:String}(h:nOk n=true){c f:String}(hm:(c,f)∈methsOf):c++"."++f≠n:=bne_iff_ne.mp (List.all_eq_true.mp (andL (andL h)) _ hm)
theorem good_one{CT:CT}{n:String}(h:nOk n=true)(hct:∀g xs H Q X,CT g xs H Q X→g=n)(E:C.EnvOk){rk:Nat}(K:C.Ok W T (rk+2))(XO:ExcOk T){defs:List String}(hm:∀g∈defs,∃a,(g,a)∈T.defs∧keepIn T.K (.ref a)=true∧MeetsC W T CT C g a):GL ⟨defs,[],[]⟩ W T CT C rk C.ns:=
 ⟨⟨E,K,XO,hm,fun c f b hcf hb C' q mF H s vs xs QQ EE Q X K' a hv hc=>absurd (hct _ _ _ _ _ hc) (nOk.m h hcf),fun c a _ hb C' q mF H s vs xs QQ EE Q X K' a' hv hc=>absurd (hct _ _ _ _ _ hc) (init_ne c n (andR (andL h))),
  fun C' q mF H s t cc pp kk v x QQ EE Q X K' a ht hv hc=>absurd (hct _ _ _ _ _ hc).symm (bne_iff_ne.mp (andR h))⟩,rfl,fun p hp=>absurd hp List.not_mem_nil,fun p hp=>absurd hp List.not_mem_nil⟩
end
theorem p_takeW{H:Hp}{Q:V→Hp→Prop}{X:Hp→Prop}{c p kk lp k:Nat}{n:Int}(h0:0<n)(hk:k≤60)(T:Tk H c p kk lp k)(hq:∀H' (v:Int),0≤v→v<n→Ex [lp] H H'→Tk H' c p kk lp (k+1)→Q (.int v) H') :
  wBody CTd t_take [some (.int n),none,none,some (.ref c),some (.ref p),none] H Q X:=by
 obtain ⟨⟨lc,cells,h1,h2,h3,h4,h5⟩,h6,h7,h8⟩:=T
 have hcl:0<cells.length:=List.length_pos_iff.mpr h3
 have x:Ex [lp] H (H.put lp (.list [.int ((k+1:Nat):Int)])):=.set m0
 refine iCel h6 (iI (n:=0) (by decide) (.list h7 rfl) (iAdd (c:=(k+1:Nat)) rfl (iCel h6 (iSl (n:=0) h7 Nat.zero_lt_one (show 1≤16777216 by decide) ?_))))
 have g1:=x _ _ (n1 (neO h1 h7 nofun)) h1
 have g2:=x _ _ (n1 h5) h2
 have T':Tk (H.put lp (.list [.int ((k+1:Nat):Int)])) c p kk lp (k+1):=⟨⟨lc,cells,g1,g2,h3,h4,h5⟩,x _ _ (n1 (neO h6 h7 nofun)) h6,pself,x _ _ (n1 (neO h8 h7 nofun)) h8⟩
 have hlt:k%cells.length<cells.length:=Nat.mod_lt _ hcl
 have hdl:k/cells.length≤60:=Nat.le_trans (Nat.div_le_self _ _) hk
 have hl:(iV cells).length≤16777216:=by rw [iV_len];exact lz [_] [] 2231592551570280616021969774486784 rfl h4
 have el:(((iV cells).length:Nat):Int)=(cells.length:Nat):=congrArg Nat.cast (iV_len cells)
 refine iCel g1 (iL (.list g2) hl (by
  rw [el]
  refine iDiv (Int.ofNat_lt.mpr hcl) (show ((cells.length:Nat):Int)<1073741824 by exact lz [_] [] 584998597204917710012900707664037586182 rfl h4) (iCel g1 (iCel g1 (iL (.list g2) hl (by
   rw [el]
   refine iMod (Int.ofNat_lt.mpr hcl) (iI (n:=k%cells.length) (by exact lz [_,_] [] 153354552768117284732366072302051927473341761 rfl h4 hlt) (.list g2 (iV_get (i:=k%cells.length) (by rw [List.getElem?_eq_getElem hlt]))) fun R z=>z _ (k/cells.length) (by exact lz [_] [] 7722636015857476864 rfl hdl) fun v=>?_)
   refine iMul (by decide) (by exact lz [_,_] [] 12150053343975159386454638743640202431071293700319205725761884895868638529 rfl hk (Int.natAbs_of_nonneg (lz [_] [] 1395205 rfl))) (iAdd (c:=(7*k+3:Nat)) rfl (iMul (a:=(k/cells.length:Nat)) (Nat.lt_of_le_of_lt hdl (by decide)) (by exact lz [_,_] [] 203844069363393547660976948404020302469808205809694590837184143177326334008120641 rfl hk (Int.natAbs_of_nonneg (lz [_] [] 22105161923077 rfl))) (iAdd rfl (iMod h0 (hq _ _ (Int.emod_nonneg _ (Int.ne_of_gt h0)) (Int.emod_lt_of_pos _ h0) x T')))))))))))
end
end Mine
end
section
open PySem PySem.W PyProof.Rows PySem.Calls PySem.Spec
set_option genInjectivity false
set_option genSizeOf false
set_option genCtorIdx false
set_option bootstrap.genMatcherCode false
namespace Mine
section
noncomputable def tkNames:Ns:=[(Str.ofString "limit",.local),(Str.ofString "k",.local),(Str.ofString "level",.local),(Str.ofString "cells",.free),(Str.ofString "place",.free),(Str.ofString "len",.globalImplicit)]
structure TkShape(params:Arguments)(scope:Scope)(body:List Stmt):Prop where
 p:Plain params
 a:params.args.map (·.arg)=[Str.ofString "limit"]
 n:scope.names=tkNames
 c:scope.isCoroutine=false
 g:scope.isGenerator=false
 k:scope.kind=.function
 b:TkB scope.names body
noncomputable def TKd(qT:Str)(o:Obj)(c p k:Nat):Prop:=∃name params body scope doc pm ct oc od osl,o=⟨oc,od,.func (fnX name qT params body scope [(Str.ofString "place",p),(Str.ofString "cells",c)] .none .none doc pm none (.ref k) ct),osl⟩∧TkShape params scope body
noncomputable def CDd(qT:Str)(o:Obj):Prop:=∃vs t,o.data=.fields vs∧vs[1]?=some (.str qT t)
noncomputable def VarsL(C:Cx)(mr:SM):Ns→M→Prop:=List.rec (fun _=>True) fun p _ ih m=>List.casesOn (motive:=fun _=>Prop) m True fun o m=>(∀V,o=some V→VarAt C mr p.1 V p.2)∧ih m
theorem VarsL.c{C:Cx}{mr:SM}{p:Str×NameKind}{ns:Ns}{o:Option V}{m:M}(h:∀V,o=some V→VarAt C mr p.1 V p.2)(k:VarsL C mr ns m):VarsL C mr (p::ns) (o::m):=⟨h,k⟩
theorem VarsL.at{C:Cx}{mr:SM}{ns:Ns}:∀{m:M} {i:Nat} {x:Str} {k:NameKind} {V:V},VarsL C mr ns m→ns[i]?=some (x,k)→getLoc m i=some V→VarAt C mr x V k:=by
 induction ns with
 |nil=>intro m i x k V h e;cases e
 |cons p ns ih=>
  intro m i x k V h e g
  cases m with
  |nil=>unfold getLoc at g;rw [List.getElem?_nil]at g;exact noS g
  |cons o m=>
   cases i with
   |zero=>
    cases e
    cases o with
    |none=>exact noS g
    |some y=>exact h.1 V g
   |succ i=>exact ih h.2 e g
theorem vL0{C:Cx}{mr:SM}{p:Str×NameKind}(V:V)(e:(none:Option Mine.V)=some V):VarAt C mr p.1 V p.2:=noS e
theorem vL1{C:Cx}{mr:SM}{p:Str×NameKind}{W:V}(h:VarAt C mr p.1 W p.2)(V:V)(e:some W=some V):VarAt C mr p.1 V p.2:=sI e▸h
section
variable {W:Wd}{T:Tabs}{qT:Str}
theorem meetsT_of{CT:CT}(hTK:∀o c p k,W.TK o c p k→TKd qT o c p k)(hCD:∀o,W.CD o→CDd qT o)(XO:ExcOk T)
  (hct:∀xs H Q X,CT "take" xs H Q X→cTk xs H Q X):MeetsT W T CT 3:=fun C g mF H s t cc pp kk v x QQ EE Q X K a ht hv hc hq hx=>
 hct _ _ _ _ hc (fun xs=>∀x,xs=[.ref cc,.ref pp,.ref kk,x]→VR v x→codeC (model W.prog W.w) C.A (.call (.ref t) ⟨[v],[]⟩) (retR QQ EE) s) (fun c p kk' lp k n hn0 hn1 hk60 hT hcont x e hv=>by
  cases e
  refine hv.onI fun tok=>?_
  obtain ⟨_,_,_,ro,hr,hro⟩:=a.own.obj t _ ht
  obtain ⟨name,params,body,scope,doc,pm,ct,oc,od,osl,rfl,P,s2,s3,s4,s5,s6,s7⟩:=hTK _ _ _ _ hro
  obtain ⟨_,_,_,rk,hrk,hrok⟩:=a.own.obj kk _ hT.cd
  obtain ⟨vs,tq,hvs,hq1⟩:=hCD _ hrok
  refine callC_plain (f:=t) (name:=name) (qual:=qT) (cl:=[(Str.ofString "place",pp),(Str.ofString "cells",cc)]) (cdv:=.ref kk) K.B a.F a.own.news K.G.nolimit K.hA K.hf K.hk hr rfl ⟨kk,rk,vs,tq,rfl,hrk,hvs,hq1⟩ (Nat.lt_of_le_of_lt (Nat.le_add_right _ _) (Nat.lt_trans K.hd (by decide)))
   (binds_of (s:=s) (vals:=[.int n tok]) (ws:=[]) (x:=none) P.eq s2 (List.pairwise_singleton _ _) (fun q=>wpAny_pure q) rfl (Nat.zero_le _) rfl rfl) (fun y hy=>?_) (fun g' L' h₁ FG F₁ N₁ B₁ st lt=>?_) ?_ s4 s5 s6
  ·rw [List.mem_singleton.mp hy,s3];rfl
  ·let C':=C.into g' L' (envX qT scope L' t (.ref kk) [(Str.ofString "place",pp),(Str.ofString "cells",cc)]) scope.names
   have K':C'.Ok W T 2:=into_ok K B₁ FG rfl s6
   have hv:VarsAt C' (fun y=>([(Str.ofString "limit",Value.int n tok)]:List (Str×Value)).reverse.lookup y) [some (.int n),none,none,some (.ref cc),some (.ref pp),none]:=fun i x k h1 h2 V hV=>by
    rw [show C'.ns=tkNames from s3]at h1
    exact VarsL.at (ns:=tkNames) (.c (vL1 ⟨_,rfl,.int _ _⟩) (.c vL0 (.c vL0 (.c (vL1 ⟨cc,rfl,rfl⟩) (.c (vL1 ⟨pp,rfl,rfl⟩) (.c vL0 trivial)))))) h1 hV
   exact s7 _ _ _ (good_one (C:=C') (n:="#dig") rfl CTd.at ⟨s6,rfl,rfl,by show (scope.names.map (·.1)).Nodup;rw [s3];decide +kernel,fun x k h=>⟨k,h,.inl rfl⟩⟩ K' XO fun _ h=>absurd h List.not_mem_nil) ⟨rfl,rfl,by show interactive (envX _ _ _ _ _ _)=false;unfold interactive;simp [s6]⟩ g ⟨_,_,rfl,hv⟩ H {s with heap:=h₁,toks:=s.toks+1} _ _ _ X ⟨F₁,a.own.ofNews N₁,a.hs⟩ (p_takeW (X:=X) hn0 hk60 hT hcont) PassesOwn.leaving
    (fun fl f2 l2 s2 H2 a2 hfl hQ2=>leaveK_ a2.F a2.own.news fun F3 N3=>hfl.leave ⟨F3,own_up FG a2.own,a2.hs⟩ hQ2 hq) fun e s2 H2 hs2 ht hX=>leave_thr (env':=C'.env) B₁ FG rfl s6 ht fun h' t'=>hx e {s2 with heap:=h'} H2 hs2 t' hX
  ·rw [s3]
   decide +kernel) x rfl hv
end
end
end Mine
end
section
open PySem PySem.W PyProof.Rows PySem.Calls PySem.Spec
set_option genInjectivity false
set_option genSizeOf false
set_option genCtorIdx false
set_option bootstrap.genMatcherCode false
namespace Mine
open KTr KAttr WBin WCmp KSub KLen KSlf KSlt KSlc KMax LO WB SU KIs KApp AppL AppA ExtL ExtA KDget KTk KCel KMeth OV BT ST2 KSa KAsC WhI ForI CompI KMM KEn
section
noncomputable def CTk(s0:Nat)(ns:List Int):CT:=fun g xs H Q _=>∀R:String→List V→Prop,((∀r,H r=none→Q (.ref r) (H.put r (.list (iV (ns.take 63)))))→R "#cut" [.ref s0])→R g xs
theorem CTk.at{s0:Nat}{ns:List Int}(g:String)(xs:List V)(H:Hp)(Q:QV)(X:QX)(h:CTk s0 ns g xs H Q X):g="#cut":=h (fun g _=>g="#cut") fun _=>rfl
theorem VRs.ofInts{vs:List Value}{ns:List Int}(h:IntsAre vs ns):VRs vs (iV ns):=by
 induction h with
 |nil=>exact .nil
 |cons n t _ ih=>exact .cons (.int n t) ih
section
variable {W:Wd}{T:Tabs}{C:Cx}
theorem se_cut{s0:Nat}{items:Array Value}{ns:List Int}(hl:C.h₀.IsList s0 items)(hi:IntsAre items.toList ns)(hz:items.size≤16777216){a:ME}{e:Expr}(h1:SE W T (CTk s0 ns) C a e){k:Nat}{p1 p pos:Pos} :
  SE W T (CTk s0 ns) C (.call "#cut" (.cons a .nil)) (.Subscript e (.Slice none (some (.Constant (.int 63) k p1)) none p) pos):=
 fun g l H s QQ EE Q X a hw hq hx=>c_Subscript (h1 g l H s _ EE _ X a hw (fun v x s1 H1 a1 hv hw1=>by
  show wpC _ _ (do
   let l←pure Value.none
   let u←holding [l] (eval (.Constant (.int 63) k p1) C.env)
   let st←holding [l,u] (pure Value.none)
   newFields "slice" [l,u,st]) _ _ _
  refine cbind (cpure (cbind (chold (.of<|wpAny_Constant_int (.of<|wpAny_bind (wpAny_holding (wpAny_pure (c_newFields ?_))))))))
  have hr:=hw1 (fun _ xs=>∀x,xs=[x]→x=.ref s0∧∀r,H1 r=none→Q (.ref r) (H1.put r (.list (iV (ns.take 63))))) (fun z x e=>⟨(List.cons.inj e).1.symm,z⟩) x rfl
  obtain rfl:=hr.1
  have hil:s1.heap.IsList s0 items:=hl.imp fun _ z=>⟨a1.F.keep _ _ z.1,z.2⟩
  have a2:At W C g l.mF H1 {s1 with heap:=s1.heap.push (slcO .none (.int 63 s1.toks)),toks:=s1.toks+1}:=a1.grown fun _ _ e=>Heap.get?_push_of_some (slcO .none (.int 63 s1.toks)) e
  have hpick:slicePick items none (some 63) none=(cutL items.toList 0 63).toArray:=by
   rw [slicePick_plain,show (some (63:Int)).elim items.size (clipAt items.size)=min 63 items.size from clip_pos (k:=63),show (none:Option Int).elim 0 (clipAt items.size)=min 0 items.size from (Nat.zero_min _).symm,pick_cut items.toList Array.length_toList];rfl
  exact hv.onR <| .of<|tail_any (Heap.IsList.typeIs (s:={s1 with heap:=s1.heap.push (slcO .none (.int 63 s1.toks)),toks:=s1.toks+1}) (hil.push _)) list_getitem_lookup
   (wpAny_getItem_list_slice (hil.push _) (Heap.IsSliceOf.new ..) .none (.int 63 s1.toks) .none (by decide) (hq _ _ {s1 with heap:=_,toks:=s1.toks+1} _ (a2.to (a2.F.push _) (a2.own.cons (News.push a2.F (Own.news a2.own) _) a2.fresh (.list (n:=0) (show VRs (slicePick items none (some 63) none).toList _ by
    rw [hpick];exact (show cutL (iV ns) 0 63=iV (ns.take 63) from (List.map_take ..).symm)▸(VRs.ofInts hi).cut 0 63)))) (.ref _) (hr.2 _ a2.fresh.1)) hz) (sub_slice _ _)) hx)
end
noncomputable def q1:MS:=.asgC 2 (.call "#cut" (.cons (.loc 0) .nil))
noncomputable def q2:MS:=.if_ (.cmp .eq (.cel 2) (.lst .nil)) (.cons (.asgC 2 (.lst (.cons (.cst (.int 1)) .nil))) .nil) .nil
noncomputable def q3:MS:=.asgC 3 (.lst (.cons (.cst (.int 0)) .nil))
structure TkD(H H':Hp)(cc pp lc lp:Nat)(cells:List Int):Prop where
 x:Ex [cc,pp] H H'
 nlp:H lp=none
 c:H' cc=some (.cell (some (.ref lc)))
 l:H' lc=some (.list (iV cells))
 ne:cells≠[]
 le:cells.length≤63
 n:lc≠lp
 p:H' pp=some (.cell (some (.ref lp)))
 pl:H' lp=some (.list [.int ((0:Nat):Int)])
theorem p_taker1{s0 cc pp:Nat}{ns:List Int}{H:Hp}{Q:Fl→M→Hp→Prop}{X:Hp→Prop}(h1:H cc=some (.cell none))(h2:H pp=some (.cell none))(hne:cc≠pp)
  (hq:∀H' lc lp cells,TkD H H' cc pp lc lp cells→Q .next [some (.ref s0),none,some (.ref cc),some (.ref pp)] H') :
  wSs (CTk s0 ns) (.cons q1 (.cons q2 (.cons q3 .nil))) [some (.ref s0),none,some (.ref cc),some (.ref pp)] H Q X:=fun R z=>z fun r hr=>by
 have nc:r≠cc:=Ne.symm (ne_of h1 hr)
 refine iAc (putf h1 hr) ?_
 have x1:Ex [cc,pp] H ((H.put r (.list (iV (ns.take 63)))).put cc (.cell (some (.ref r)))):=(Ex.put hr).trans (.set m0)
 have g1:((H.put r (.list (iV (ns.take 63)))).put cc (.cell (some (.ref r)))) r=some (.list (iV (ns.take 63))):=putn pself nc
 have g3:((H.put r (.list (iV (ns.take 63)))).put cc (.cell (some (.ref r)))) pp=some (.cell none):=putn (putf h2 hr) hne.symm
 have g2:((H.put r (.list (iV (ns.take 63)))).put cc (.cell (some (.ref r)))) cc=some (.cell (some (.ref r))):=pself
 generalize (H.put r (.list (iV (ns.take 63)))).put cc (.cell (some (.ref r)))=H1 at *
 have last:∀H2 lc cells,Ex [cc,pp] H H2→H2 cc=some (.cell (some (.ref lc)))→H2 lc=some (.list (iV cells))→cells≠[]→cells.length≤63→H2 pp=some (.cell none)→
   wSs (CTk s0 ns) (.cons q3 .nil) [some (.ref s0),none,some (.ref cc),some (.ref pp)] H2 Q X:=fun H2 lc cells x2 k1 k2 k3 k4 k5 lp hlp=>by
  have n3:=ne_of k5 hlp
  have n4:=ne_of k1 hlp
  refine iAc (putf k5 hlp) (hq _ lc lp cells ⟨x2.trans ((Ex.put hlp).trans (.set m1)),x2.nn (n2 n4.symm n3.symm) hlp,putn (putf k1 hlp) hne,putn (putf k2 hlp) (neO k2 k5 nofun),k3,k4,ne_of k2 hlp,pself,putn pself (Ne.symm n3)⟩)
 refine iCel g2 fun e he=>iLst (xs:=ns.take 63) (ys:=[]) (putf g1 he) pself rfl (iTr (fun q=>?_) fun q=>(last _ _ _ (x1.put1 he) (putf g2 he) (putf g1 he) q (List.length_take_le _ _) (putf g3 he)))
 exact fun lc hlc=>by
  have k:=putf (o:=.list []) g2 he
  have k3:=putf (o:=.list []) g3 he
  exact iAc (putf k hlc) (((last _ lc [1] (((x1.put1 he).put1 hlc).set1 m0) pself (putn pself (Ne.symm (ne_of k hlc))) (List.cons_ne_nil _ _) (by decide) (putn (putf k3 hlc) hne.symm))))
end
end Mine
end
section
open PySem PySem.W PyProof.Rows PySem.Calls PySem.Spec
set_option genInjectivity false
set_option genSizeOf false
set_option genCtorIdx false
set_option bootstrap.genMatcherCode false
namespace Mine
section
noncomputable def trNames:Ns:=[(Str.ofString "script",.local),(Str.ofString "take",.local),(Str.ofString "cells",.cell),(Str.ofString "place",.cell)]
theorem clos_take{sc:Scope}{env:Env}{cc pp:Addr}(h:sc.names=tkNames)(h1:env.cells.lookup (Str.ofString "cells")=some cc)(h2:env.cells.lookup (Str.ofString "place")=some pp) :
  closureFor sc env=pure [(Str.ofString "place",pp),(Str.ofString "cells",cc)]:=by
 unfold closureFor
 rw [h]
 unfold tkNames cellOf
 simp only [List.forIn_cons,List.forIn_nil,h1,h2,pure_bind]
 rfl
theorem ann_none{ps:Arguments}{env:Env}(P:Plain ps)(h:ps.args.all (fun a=>a.annotation.isNone)=true):annTrees ps none env=[]:=by
 rw [P.eq]
 unfold annTrees
 have:∀l:List Arg,l.all (fun a=>a.annotation.isNone)=true→annotationsOf l env=[]:=by
  intro l
  induction l with
  |nil=>intro _;rfl
  |cons x r ih=>
   intro hl
   obtain ⟨nm,an,p⟩:=x
   obtain rfl:an=none:=Option.isNone_iff_eq_none.mp (andL hl)
   exact ih (andR hl)
 exact congrArg (·++ _) ((congrArg (annotationsOf · env) ((List.append_nil _).trans ((List.append_nil _).trans ((List.append_nil _).trans (List.append_nil _))))).trans (this _ h))
structure TbAt(h:Heap)(c P:Addr)(mg:SM):Prop where
 hd:CodeHd h c P
 g:h.Ns mainGlobals mg
 b:h.BuiltinsAt mg P
theorem TbAt.up{h h':Heap}{c P:Addr}{mg:SM}(t:TbAt h c P mg)(k:∀b o,h.get? b=some o→h'.get? b=some o):TbAt h' c P mg:=⟨t.hd.keeps k,t.g.keeps k,t.b.imp fun _=>Exists.imp fun _ z=>⟨z.1,z.2.1,z.2.2.1,z.2.2.2.1,k _ _ z.2.2.2.2.1,z.2.2.2.2.2⟩⟩
structure TkDef(ps:Arguments)(sc:Scope)(tb:List Stmt):Prop where
 sh:TkShape ps sc tb
 d:ps.defaults=[]
 kd:ps.kw_defaults=[]
 an:ps.args.all (fun a=>a.annotation.isNone)=true
section
variable {W:Wd}{T:Tabs}{C:Cx}{qT:Str}
theorem mk_take(E:C.EnvOk)(hns:C.ns=trNames)(hTK:∀o c p k,TKd qT o c p k→W.TK o c p k)(hCD:∀o,CDd qT o→W.CD o){c P:Addr}(hcode:C.env.code=.ref c)(hqual:C.env.qual++Str.ofString "take"=qT)
  {mg:SM}(t:TbAt C.h₀ c P mg){ps:Arguments}{tb:List Stmt}{sc:Scope}{pos:Pos}(hsh:TkDef ps sc tb)
  {g:RG}{l:Ld C}{H:Hp}{s:Shared}{QQ:Flow→Shared→Prop}{EE:VQ}{s0 cc pp:Nat}(a:At W C g l.mF H s)(hm:l.m=[some (.ref s0),none,some (.ref cc),some (.ref pp)])(hGP:g.G P=some (tabObj #[]))
  (hq:∀(l':Ld C) t kk pv s',l'.m=[some (.ref s0),some (.ref t),some (.ref cc),some (.ref pp)]→At W C (g.at P (tabObj pv)) l'.mF ((H.put kk .code).put t (.taker cc pp kk)) s'→H kk=none→(H.put kk .code) t=none→QQ .next s') :
  wpC (model W.prog W.w) C.A (exec (.FunctionDef (Str.ofString "take") ps tb [] none [] sc none (Str.ofString "take") pos) C.env) QQ EE s:=by
 have p:=a.own.raw P _ hGP
 have at_:∀{i:Nat} {x:Str} {k:NameKind},trNames[i]?=some (x,k)→C.ns[i]?=some (x,k):=fun h=>hns▸h
 have lk:∀{x:Str} {k:NameKind},trNames.lookup x=some k→C.ns.lookup x=some k:=fun h=>hns▸h
 have hcells:=at_cell (i:=2) (x:=Str.ofString "cells") l.vars (.inl rfl) (at_ rfl) (lk rfl) (c:=cc) (by rw [hm];rfl)
 have hplace:=at_cell (i:=3) (x:=Str.ofString "place") l.vars (.inl rfl) (at_ rfl) (lk rfl) (c:=pp) (by rw [hm];rfl)
 have t':=t.up a.F.keep
 refine .of (nestDef_K hsh.d hsh.kd (ann_none hsh.sh.p hsh.an) ?_)
 rw [show qualnameIn C.env (Str.ofString "take") (Str.ofString "take")=qT by unfold qualnameIn;rw [E.loc (lk rfl),if_neg (by decide)];exact hqual]
 refine makeFunction_K (mg:=mg) (clos_take hsh.sh.n hcells hplace) E.eg t'.g hcode t'.hd p.2.2 trivial rfl (fun q=>t'.g.elim fun o z=>z.elim fun _ z=>z.elim fun _ z=>nomatch (sI ((q▸z.1).symm.trans p.2.2)▸z.2.1)) t'.b fun c' ctv doc h' tk hx hge hlt hrec htb=>?_
 obtain ⟨_,oc,vs,t₂,e2,hoc,hd,hv⟩:=hrec
 cases e2
 have f:=a.off (Heap.get?_none_of_le hge)
 have nP:c'≠P:=fun q=>noS ((Heap.get?_none_of_le hge).symm.trans (q▸p.2.2))
 have a1:=a.re (wr:=[P]) (G':=gput g.G P (some (tabObj (#[] ++ #[rawInt pos.line,rawInt pos.col,.ref c'])))) (fun b x n=>hx b x fun q=>n (q▸.head _)) (fun b hb=>⟨_,List.mem_singleton.mp hb▸hGP⟩) (fun r ro hr e=>by obtain rfl:=List.mem_singleton.mp hr;exact sI (gput_self.symm.trans e)▸htb) fun r hr=>gput_ne fun q=>hr (q▸.head _)
 have fG:=(gput_ne (o:=some (tabObj (#[] ++ #[rawInt pos.line,rawInt pos.col,.ref c']))) nP).trans f.2.2.2
 have a2:=(a1.addG hoc ⟨f.1,f.2.1,f.2.2.1,fG⟩).toH fG (.code (hCD _ ⟨vs,t₂,hd,hv⟩))
 have a3:=a2.2.new (fun b x=>Heap.get?_push_of_some (fnMade (Str.ofString "take") qT ps tb sc [(Str.ofString "place",pp),(Str.ofString "cells",cc)] doc ((mg "__name__").getD .none) c' ctv)) (Heap.get?_push_size _ rfl) (.taker (hTK _ cc pp c' ⟨_,_,_,_,_,_,_,_,_,_,rfl,hsh.sh⟩))
 exact store_loc (l:=l) E (at_ (i:=1) rfl) (lk rfl) (.ref _) a3 fun s' a4=>hq _ h'.objs.size c' _ s' (congrArg (fun m:M=>m.set 1 (some (.ref h'.objs.size))) hm) a4 f.2.2.1 (a2.2.off (Heap.get_size h')).2.2.1
end
end
section
noncomputable def Nx(P:M→Hp→Prop)(f:Fl)(m:M)(H:Hp):Prop:=f=.next∧P m H
noncomputable def TrB(b:List Stmt):Prop:=∀R:List Stmt→Prop,(∀p1 k2 p2 p3 p4 p5 pos p6 e1 e5 s2 s3 ps tb sc,TE AN trNames false (.loc 0) e1→TS AN trNames q2 s2→TS AN trNames q3 s3→TkDef ps sc tb→TE AN trNames false (.loc 1) e5→
 R [.Assign [.Name (Str.ofString "cells") p1] (.Subscript e1 (.Slice none (some (.Constant (.int 63) k2 p2)) none p3) p4) p5,s2,s3,.FunctionDef (Str.ofString "take") ps tb [] none [] sc none (Str.ofString "take") pos,.Return (some e5) p6])→R b
section
variable {W:Wd}{T:Tabs}
theorem noX_fin{C:Cx}{g:RG}{EE:VQ}:FinX W T C g EE noX:=fun _ _ _ _ _ z=>z.elim
theorem ss_then{CT:CT}{C:Cx}{g:RG}{st:MS}{e:Stmt}{ss:MSs}{rest:List Stmt}{l:Ld C}{H:Hp}{s:Shared}{QQ:Flow→Shared→Prop}{EE:VQ}{P:M→Hp→Prop}(h1:SS W T CT C st e)(a:At W C g l.mF H s)(hw:wSs CT (.cons st ss) l.m H (Nx P) noX)
  (hp:PassesOwn (model W.prog W.w) C.A C.env EE)(k:∀(l':Ld C) s' H',At W C g l'.mF H' s'→wSs CT ss l'.m H' (Nx P) noX→wpC (model W.prog W.w) C.A (execs rest C.env) QQ EE s'):wpC (model W.prog W.w) C.A (execs (e::rest) C.env) QQ EE s:=
 c_execs_cons (h1 g l H s _ EE _ noX a hw hp (fun f fl l' s' H' a' hf hQ=>by
  cases fl with
  |next=>exact hf▸k l' s' H' a' hQ
  |cont=>exact nomatch hQ.1
  |ret x=>exact nomatch hQ.1) noX_fin)
theorem call_loc{C:Cx}{g:RG}{l:Ld C}{H:Hp}{s:Shared}{QQ EE:VQ}(E:C.EnvOk){rk:Nat}(K:C.Ok W T (rk+2))(XO:ExcOk T){ns:Ns}(hns:C.ns=ns){i:Nat}{e:Expr}{d:String}{f:Addr}{np cp:Pos}{V:V}(b:TEs AN ns (.cons (.loc i) .nil) [e])(hb:argsB [e]=true)(hm:getLoc l.m i=some V)
  (hl:C.ns.lookup (Str.ofString d)=some .globalImplicit)(hd:(Str.ofString d == ("__debug__":Str))=false)(hdf:(d,f)∈T.defs)(hk:keepIn T.K (.ref f)=true)(a:At W C g l.mF H s)(k:∀v s',At W C g l.mF H s'→VR v V→codeC (model W.prog W.w) C.A (.call (.ref f) ⟨[v],[]⟩) (retR QQ EE) s') :
  wpC (model W.prog W.w) C.A (eval (.Call (.Name (Str.ofString d) np) [e] [] cp) C.env) QQ EE s:=
 have G:GL AN W T (fun _ _ _ _ _=>False) C rk ns:=hns▸good_one (n:="#cut") rfl (fun _ _ _ _ _ h=>h.elim) E K XO fun _ h=>absurd h List.not_mem_nil
 c_Call (name_at E ⟨_,K⟩ a hl hd (fun G=>G.def hdf) (callWith_es K (b.2 _ _ _ _ _ G) (args_ok hb fun z=>nomatch z) hk (lv:=l.v) a (Q:=fun vs H2=>∀R:List Mine.V→Hp→Prop,R [V] H→R vs H2) (X:=noX) (by
  show kO _ (getLoc l.m i) H
  rw [hm];exact fun _ z=>z) (fun vs xs s4 H4 a4 hv4 hQ4=>hQ4 (fun xs H4=>At W C g l.mF H4 s4→VRs vs xs→wpC (model W.prog W.w) C.A (call (.ref f) ([]++vs)) QQ EE s4) (fun a4 hv4=>hv4.sole.elim fun v z=>z.1▸ccall (k v s4 a4 z.2)) a4 hv4) noX_fin))
structure TkrO(T:Tabs)(f c:Addr)(qT:Str)(F:FO T.K f):Prop where
 c:F.cdv=.ref c
 D:DefOk F.scope.names 1 [3,2] F.params
 n:F.scope.names=trNames
 d:Dflt F 1 []
 b:TrB F.body
 q:F.qual++".<locals>."++Str.ofString "take"=qT
theorem taker_call{f c P:Addr}{qT:Str}{F:FO T.K f}(O:TkrO T f c qT F)(XO:ExcOk T)(hTK:∀o c p k,TKd qT o c p k→W.TK o c p k)(hCD:∀o,CDd qT o→W.CD o)
  {C:Cx}{g:RG}{mF:SM}{H:Hp}{s:Shared}{QQ EE:VQ}{s0:Nat}{items:Array Value}{ns:List Int}{mg:SM}
  (K:C.Ok W T 4)(a:At W C g mF H s)(hGP:g.G P=some (tabObj #[]))(t:TbAt C.h₀ c P mg)(hl:C.h₀.IsList s0 items)(hi:IntsAre items.toList ns)(hz:items.size≤16777216)
  (hq:∀s' H' pv t cc pp kk lp,At W C (g.at P (tabObj pv)) mF H' s'→Ex [] H H'→H t=none→H cc=none→H pp=none→H lp=none→H' t=some (.taker cc pp kk)→Tk H' cc pp kk lp 0→QQ (.ref t) s') :
  codeC (model W.prog W.w) C.A (.call (.ref f) ⟨[.ref s0],[]⟩) (retR QQ EE) s:=
 enter_def (xs:=[.ref s0]) (us:=[]) (KK:=fun m H'=>∀R:M→Prop,(∀cc pp,H' cc=some (.cell none)→H' pp=some (.cell none)→cc≠pp→Ex [] H H'→H cc=none→H pp=none→R [some (.ref s0),none,some (.ref cc),some (.ref pp)])→R m) F O.D O.d (by rw [O.n];decide) K a (.cons (.ref _) .nil) rfl
  (by rw [O.n];exact fun c3 n3 c2 n2 R z=>z c2 c3 pself (putf pself n2) (ne_of pself n2).symm ((Ex.put n3).put1 n2) (pnone n2) n3) fun g' L' H1 l s1 E' D' K' FG B₁ a1 hk=>hk (fun m=>l.m=m→_) (fun cc pp h1 h2 hne xH ncc npp hm=>O.b (fun b=>wpC (model W.prog W.w) (F.cx C g' L').A (execs b (F.cx C g' L').env) _ _ _) fun p1 k2 p2 p3 p4 p5 pos p6 e1 e5 s2 s3 ps tb sc b1 b2 b3 b6 b10=>by
   have good:GL AN W T (CTk s0 ns) (F.cx C g' L') 1 trNames:=O.n▸good_one (n:="#cut") (rk:=1) rfl CTk.at E' K' XO fun _ h=>absurd h List.not_mem_nil
   refine ss_then (ss:=.cons q2 (.cons q3 .nil)) (ss_asgC E' (se_cut (hl.imp fun _ z=>⟨FG.keep _ _ z.1,z.2⟩) hi hz (b1 _ _ _ _ _ good)) (good.at (i:=2) rfl) (good.lk (i:=2) rfl) (plainV_ok rfl _ _ _)) a1 (P:=fun m H2=>∀R:M→Prop,(∀lc lp cells,TkD H1 H2 cc pp lc lp cells→R [some (.ref s0),none,some (.ref cc),some (.ref pp)])→R m) (by rw [hm];exact p_taker1 (X:=noX) h1 h2 hne fun H' lc lp cells d=>.intro rfl fun R z=>z lc lp cells d) PassesOwn.leaving fun l2 s2 H2 a2 w2=>ss_then (b2 _ _ _ _ _ good D') a2 w2 PassesOwn.leaving fun l3 s3 H3 a3 w3=>ss_then (b3 _ _ _ _ _ good D') a3 w3 PassesOwn.leaving fun l4 s4 H4 a4 w4=>
    (show Nx _ Fl.next l4.m H4 from w4).2 (fun m=>l4.m=m→_) (fun lc lp cells d hm4=>?_) rfl
   refine c_execs_cons (mk_take E' good.ns hTK hCD O.c O.q (t.up FG.keep) b6 a4 hm4 hGP fun l5 t kk pv s5 hm5 a5 nkk nt=>c_execs_cons (ss_ret (b10 _ _ _ _ _ good) _ l5 _ s5 _ _ (fun f m H=>f=.ret (.ref t)∧H=(H4.put kk .code).put t (.taker cc pp kk)) noX a5 (by rw [hm5];exact ⟨rfl,rfl⟩) PassesOwn.leaving (fun fl f6 l6 s6 H6 a6 hfl hQ6=>?_) noX_fin))
   obtain ⟨rfl,rfl⟩:=hQ6
   obtain ⟨v6,rfl,hv⟩:=hfl
   have xn:=d.x
   have nt4:=pnone nt
   refine hv.onR (.inl<|leaveK_ a6.F a6.own.news fun F3 N3=>hq s6 _ pv t cc pp kk lp ⟨F3,own_up FG a6.own,a6.hs⟩ (fun y o _ e=>putf (putf (d.x y o (n2 (ne_of e ncc) (ne_of e npp)) (xH.at0 e)) nkk) nt) (xH.nn0 (d.x.nn (n2 (ne_of d.c nt4).symm (ne_of d.p nt4).symm) nt4)) ncc npp (xH.nn0 d.nlp) pself ⟨⟨lc,cells,putf (putf d.c nkk) nt,putf (putf d.l nkk) nt,d.ne,d.le,d.n⟩,putf (putf d.p nkk) nt,putf (putf d.pl nkk) nt,putf pself nt⟩)) rfl
end
end
section
section
variable {prog:Program}{w:World}{A:Around}{E:VQ}{s:Shared}{env:Env}
theorem c_Try{body:List Stmt}{h₀:ExceptHandler}{hs:List ExceptHandler}{pos:Pos}{Q:Flow→Shared→Prop}
  (h:wpC (model prog w) A (execs body env) Q (fun e s₁=>wpAny (model prog w) A (leaving env e) (fun _ s₃=>wpAny (model prog w) A (handleBy e env (h₀::hs)) Q E s₃) E s₁) s) :
  wpC (model prog w) A (exec (.Try body (h₀::hs) [] [] pos) env) Q E s:=by
 simp only [arm_exec_Try]
 refine cbind (cstand ?_)
 unfold tryStmt
 dsimp only [List.isEmpty_nil,if_true,List.isEmpty_cons,Bool.false_and,Bool.false_eq_true,if_false]
 refine cbind (wpC_attempt (cmono h (fun f s₁ h₁=>?_) fun e s₁ h₁=>?_))
 ·cases f <;> exact cpure h₁
 ·obtain e1:(do noteFrame e env;setFlight e none;handleBy e env (h₀::hs))=(do leaving env e;handleBy e env (h₀::hs)):=(bind_assoc (noteFrame e env) (fun _=>setFlight e none) fun _=>handleBy e env (h₀::hs)).symm
  show wpC _ _ (do noteFrame e env;setFlight e none;handleBy e env (h₀::hs)) _ _ _
  rw [e1]
  exact .of (wpAny_bind h₁)
end
noncomputable def Caught(W:Wd)(C:Cx)(g:Heap)(G:Addr→Option Obj)(H:Hp)(h':Heap):Prop:=∃h B,Own W C.h₀ C.L h H G∧g.UpToSlots h'∧C.base.StaysIn B∧(∀q∈ledger h H G,B.get? q.1=some q.2∧C.base.get? q.1=none)∧B.StaysIn h'∧h'.FunFrames B (C.top::C.outer)
section
variable {W:Wd}{T:Tabs}{C:Cx}
theorem handle_ff{g:Heap}{G:Addr→Option Obj}{H:Hp}{a:Addr}{h:Heap}{env':Env}{s':Shared}{Q:Flow→Shared→Prop}{EE:VQ}{A':Around}{np p1 p2 p3:Pos}{k:Nat}
  (hek:env'.scope.kind=.function)(heg:env'.globals=mainGlobals)(hkf:env'.kindOf (Str.ofString "FilterFault")=some .globalImplicit)(GB:GF W T C.base)(XC:ExcCls T)
  (O:Own W C.h₀ C.L h H G)(u:g.UpToSlots s'.heap)(R:RaisedN C.base (C.top::C.outer) a (.ref T.ff) (ledger h H G) s'.heap)
  (hq:∀h',Caught W C g G H h'→Q (.ret .none) {s' with heap:=h'}) :
  wpAny (model W.prog W.w) A' (handleBy (.ref a) env' [.ExceptHandler (some (.Name (Str.ofString "FilterFault") np)) none [.Return (some (.Constant .none k p1)) p2] p3]) Q EE s':=by
 refine Classical.byContradiction fun no=>?_
 obtain ⟨B,a0,st,hl,hfl⟩:=R
 obtain ⟨mg,hmg,hff⟩:=GB.ffAt
 obtain stB:C.base.StaysIn s'.heap:=fun b o e=>hfl.1 _ _ (st _ _ e)
 obtain ⟨ob,hob,hobc⟩:=hfl.there
 obtain ⟨_,hC,@⟨nm,q,P,N,bs,sn,sub,ab,col,dd,k0,k1,k2,k3,k5⟩⟩:=XC.cls
 refine no ?_
 refine wpAny_handleBy_cons (codeAny_handlers_test (Name_function_global hek hkf (loadGlobal_global (by rw [heg];exact hmg.keeps stB) hff ?_) (rfl))) (by intro q;cases q)
 refine wpAny_excMatches_sub_self (stB _ _ (GB.K _ _ hC)) hob hobc (by unfold excTail;simp) (codeAny_handlers_suite ?_)
 refine lands_againW hfl fun h₆ hfl₆ hsm₆=>?_
 rw [execs_cons]
 exact wpAny_bind (wpAny_Return_some (wpAny_Constant_none (wpAny_pure (hq h₆ ⟨h,B,O,u.trans hsm₆,st,hl,hfl₆.1,hfl₆.2.2.1⟩))))
end
end
section
noncomputable def deNames:Ns:=[(Str.ofString "data",.local),(Str.ofString "zlib_decoded",.globalImplicit),(Str.ofString "FilterFault",.globalImplicit)]
noncomputable def d1:MS:=.ret (.call "zlib_decoded" (.cons (.loc 0) .nil))
noncomputable def DeT(b:List Stmt):Prop:=∀R:List Stmt→Prop,(∀np kk p1 p2 p3 p4 st,TS AL deNames d1 st→R [.Try [st] [.ExceptHandler (some (.Name (Str.ofString "FilterFault") np)) none [.Return (some (.Constant .none kk p1)) p2] p3] [] [] p4])→R b
noncomputable def DeB(ns:Ns)(b:List Stmt):Prop:=ns=deNames∧DeT b
noncomputable abbrev DecAt(T:Tabs)(f:Addr):Prop:=FnAt T f 3 1 [] [] DeB
section
variable {W:Wd}{T:Tabs}
theorem dec_call{f:Addr}(O:DecAt T f)(R:Reads W T){C:Cx}{g:RG}{mF:SM}{H:Hp}{s:Shared}{QQ EE:VQ}{v:Value}{data:List Nat}(K:C.Ok W T 36)(GB:GF W T C.base)(a:At W C g mF H s)(hv:VR v (.bytes data))(hby:∀c∈data,c<256)(hlen:data.length≤100000)
  (hz:(zdecR data 300).wp (fun rr _=>∀v s' H',At W C g mF H' s'→VR v (.bytes rr)→Ex [] H H'→QQ v s') (∀s' H' h,Sr g s'.gens s'.drawn s'.os→Ex [] H H'→Fr C.h₀ C.L h mF→Caught W C h g.G H' s'.heap→QQ .none s')) :
  codeC (model W.prog W.w) C.A (.call (.ref f) ⟨[v],[]⟩) (retR QQ EE) s:=by
 obtain ⟨F,h1,h2,D,d,hn,hb⟩:=O
 exact enter_def F D d (h1.symm▸h2) (xs:=[.bytes data]) (KK:=fun m H'=>m=[some (.bytes data),none,none]∧H'=H) K a (.cons hv .nil) rfl (by rw [h1];exact ⟨rfl,rfl⟩) fun g' L' H' l s1 E' D' K' FG B₁ a1 hm=>hb (fun b=>wpC (model W.prog W.w) (F.cx C g' L').A (execs b (F.cx C g' L').env) _ _ _) fun np kk p1 p2 p3 p4 st hs=>by
  obtain ⟨hm,rfl⟩:=hm
  have G:GL AL W T (CTr 11) (F.cx C g' L') 33 deNames:=hn▸good_of R (meets_all R 11) _ E' K'
  refine c_execs_cons (c_Try (c_execs_cons (hs _ _ _ _ _ G D' g l _ s1 _ _ (fun f _ H'=>∃rr,f=.ret (.bytes rr)∧∀v s',At W C g mF H' s'→VR v (.bytes rr)→QQ v s') (fun H'=>∀s' h,Sr g s'.gens s'.drawn s'.os→Fr C.h₀ C.L h mF→Caught W C h g.G H' s'.heap→QQ .none s') a1
   (by rw [hm];exact sup_of 37 rfl _ _ _ _ (cZdec.of hby hlen hz (fun rr p k H' x=>⟨rr,rfl,fun v s' a hv=>k v s' H' a hv x⟩) fun k H' x s' h hs F c=>k s' H' h hs x F c)) PassesOwn.leaving (fun fl f2 l2 s2 H2 a2 hfl hQ=>?_) fun e s2 H2 hs2 ht hX=>?_)))
  ·obtain ⟨rr,rfl,k⟩:=hQ
   obtain ⟨v,rfl,hv⟩:=hfl
   exact .inl (leaveK_ a2.F a2.own.news fun F3 N3=>k v s2 ⟨F3,own_up FG a2.own,a2.hs⟩ hv)
  ·exact leave_at B₁ FG rfl F.hk ht fun a h h' he O2 u RN=>he▸handle_ff (C:=C) (g:=g') (s':={s2 with heap:=h'}) F.hk rfl (E'.glob (G.lk (i:=2) rfl)) GB R.XO.toExcCls O2 u RN fun h₆ hc=>.inr (hX {s2 with heap:=h₆} g' hs2 FG hc)
end
end
end Mine
end
section
open PySem PySem.W PyProof.Rows PySem.Calls PySem.Spec
set_option genInjectivity false
set_option genSizeOf false
set_option genCtorIdx false
set_option bootstrap.genMatcherCode false
namespace Mine
open KTr KAttr WBin WCmp KSub KLen KSlf KSlt KSlc KMax LO WB SU KIs KApp AppL AppA ExtL ExtA KDget KTk KCel KMeth OV BT ST2 KSa KAsC WhI ForI CompI KMM KEn
noncomputable def reNames:Ns:=[(Str.ofString "bent",.local),(Str.ofString "head",.local),(Str.ofString "is_head",.local),(Str.ofString "_law_decoded",.globalImplicit)]
noncomputable def r1:MS:=.asg 1 (.bin .add (.bin .mul (.cst (.int 256)) (.sub (.loc 0) (.cst (.int 0)))) (.sub (.loc 0) (.cst (.int 1))))
noncomputable def r2:MS:=.asg 2 (.bop true (.cons (.cmp .eq (.bin .mod (.loc 1) (.cst (.int 31))) (.cst (.int 0))) (.cons (.cmp .eq (.bin .mod (.sub (.loc 0) (.cst (.int 0))) (.cst (.int 16))) (.cst (.int 8))) (.cons (.cmp .lt (.sub (.loc 0) (.cst (.int 0))) (.cst (.int 128))) (.cons (.cmp .eq (.bin .mod (.bin .fdiv (.sub (.loc 0) (.cst (.int 1))) (.cst (.int 32))) (.cst (.int 2))) (.cst (.int 0))) .nil)))))
noncomputable def ReT(b:List Stmt):Prop:=∀R:List Stmt→Prop,(∀np yp cp k p1 p2 zp p3 p4 s1 s2,TS AN reNames r1 s1→TS AN reNames r2 s2→TEs AN reNames (.cons (.loc 0) .nil) [.Name (Str.ofString "bent") yp]→
 R [s1,s2,.Return (some (.Compare (.Compare (.Call (.Name (Str.ofString "_law_decoded") np) [.Name (Str.ofString "bent") yp] [] cp) [.Is] [.Constant .none k p1] p2) [.NotEq] [.Name (Str.ofString "is_head") zp] p3)) p4])→R b
noncomputable def ReB(ns:Ns)(b:List Stmt):Prop:=ns=reNames∧ReT b
theorem p_ref12{C:CT}{H:Hp}{X:Hp→Prop}{Q:Fl→M→Hp→Prop}{b:List Nat}(h2:2≤b.length)(hby:∀c∈b,c<256)(hq:∀hd,Q .next [some (.bytes b),some (.int hd),some (.bool (frameOk b)),none] H) :
  wSs C (.cons r1 (.cons r2 .nil)) [some (.bytes b),none,none,none] H Q X:=by
 cases b with
 |nil=>exact absurd h2 (by decide)
 |cons x b=>
 cases b with
 |nil=>exact absurd h2 (Nat.not_succ_le_self 1)
 |cons y r=>
 have no:∀hd,¬((256*x+y)%31=0∧x%16=8∧x/16≤7∧y/32%2≠1)→Q .next [some (.bytes (x::y::r)),some (.int hd),some (.bool false),none] H:=fun hd n=>(decide_eq_false (fun z=>n z.2):frameOk (x::y::r)=false)▸hq hd
 have i0:It H 0 (.bytes (x::y::r)) (.int (x:Nat)):=.bytes rfl
 have i1:It H 1 (.bytes (x::y::r)) (.int (y:Nat)):=.bytes rfl
 refine iI (by decide) i0 (iMul (by decide) (show x<18446744073709551616 from Nat.lt_trans (hby x (.head _)) (by decide)) (iI (n:=1) (by decide) i1 (iAdd (c:=(256*x+y:Nat)) rfl ?_)))
 exact iMod (by decide) (iAnB (p:=(((256*x+y:Nat):Int)%31=0)) (fun q0=>iI (n:=0) (by decide) i0 (iMod (by decide) (iAnB (p:=((x:Nat):Int)%16=8) (fun q1=>iI (n:=0) (by decide) i0 (iAnB (p:=((x:Nat):Int)<128) (fun q2=>iI (n:=1) (by decide) i1 (iDiv (by decide) (by decide) (iMod (by decide) (by
  have e:decide (((y:Nat):Int)/32%2=0)=frameOk (x::y::r):=decide_eq_decide.mpr ⟨fun q=>⟨h2,Int.ofNat_inj.mp q0,Int.ofNat_inj.mp q1,Nat.le_of_lt_succ ((Nat.div_lt_iff_lt_mul (by decide)).mpr (Int.ofNat_lt.mp q2)),Nat.mod_two_ne_one.mpr (Int.ofNat_inj.mp q)⟩,fun z=>congrArg Nat.cast (Nat.mod_two_ne_one.mp z.2.2.2.2)⟩
  show Q .next [_,_,some (.bool (decide (((y:Nat):Int)/32%2=0))),none] H
  rw [e];exact hq _))))
  fun q=>no _ fun z=>q (Int.ofNat_lt.mpr ((Nat.div_lt_iff_lt_mul (by decide)).mp (Nat.lt_succ_of_le z.2.2.1))))) fun q=>no _ fun z=>q (congrArg Nat.cast z.2.1)))) fun q=>no _ fun z=>q (congrArg Nat.cast z.1))
end Mine
end
section
open PySem PySem.W PyProof.Rows PySem.Calls PySem.Spec
set_option genInjectivity false
set_option genSizeOf false
set_option genCtorIdx false
set_option bootstrap.genMatcherCode false
namespace Mine
section
noncomputable abbrev RefAt(T:Tabs)(f:Addr):Prop:=FnAt T f 4 1 [] [] ReB
section
variable {W:Wd}{T:Tabs}{C:Cx}
theorem back_of{q:RG}{g h B:Heap}{fs:List Env}{H:Hp}{mF:SM}{s:Shared}(hb:C.base=C.h₀)(hm:C.L∈fs.filterMap (·.frame))(F:Fr C.h₀ C.L g mF)(hs:Sr q s.gens s.drawn s.os)(O:Own W C.h₀ C.L h H q.G)
  (c:g.UpToSlots s.heap∧C.base.StaysIn B∧(∀p∈ledger h H q.G,B.get? p.1=some p.2∧C.base.get? p.1=none)∧B.StaysIn s.heap∧s.heap.FunFrames B fs):At W C q mF H s:=
 ⟨F.of_stays (hb▸fun b o e=>c.2.2.2.1 _ _ (c.2.1 _ _ e)) c.1,O.ofNews fun p hp=>have z:=c.2.2.1 p hp;⟨c.2.2.2.1 _ _ z.1,fun e=>noS ((e▸(c.2.2.2.2.mem hm).1).symm.trans z.1),hb▸z.2⟩,hs⟩
theorem dec_meets(D:∀f,T.fa "_law_decoded"=some f→DecAt T f)(R:Reads W T)(K:C.Ok W T 36)(hb:C.base=C.h₀){CT:CT}(hct:∀xs H Q X,CT "_law_decoded" xs H Q X→cDec xs H Q X){f:Addr}(hf:T.fa "_law_decoded"=some f):MeetsC W T CT C "_law_decoded" f:=
 fun q mF H s vs xs QQ EE Q X a hv hc hq hx=>hct _ _ _ _ hc (fun xs=>VRs vs xs→codeC (model W.prog W.w) C.A (.call (.ref f) ⟨vs,[]⟩) (retR QQ EE) s) (fun data hby hlen hz hv=>hv.sole.elim fun v z=>z.1▸dec_call (D f hf) R K (hb▸K.G) a z.2 hby hlen (Rd.wp_mono hz
  (fun rr p k v s' H' a' hv x=>hq v _ s' H' a' hv (k H' x)) fun k s' H' h hs x F c=>c.elim fun h c=>c.elim fun B c=>hq .none _ s' H' (back_of hb (List.mem_filterMap.mpr ⟨C.top,.head _,K.hf⟩) F hs c.1 c.2) .none (k H' x))) hv
theorem ref_tail(E:C.EnvOk)(hl:C.ns.lookup (Str.ofString "is_head")=some .local){v:Value}{c:Bool}{s:Shared}{mN:SM}{Q EE:VQ}{k:Nat}{p1 zp:Pos}(h1:(v == .none) = !c)(hN:s.heap.Ns C.env.locals mN)(hm:∃u,mN (Str.ofString "is_head")=some u∧VR u (.bool c))(hq:Q (.bool true) s) :
  wpC (model W.prog W.w) C.A (eval (.Constant .none k p1) C.env) (fun b s=>wpC (model W.prog W.w) C.A (compareOp .Is v b) (fun c s=>wpC (model W.prog W.w) C.A (eval (.Name (Str.ofString "is_head") zp) C.env) (fun b s=>wpC (model W.prog W.w) C.A (compareOp .NotEq c b) Q EE s) EE s) EE s) EE s:=
 hm.elim fun u z=>.of (wpAny_Constant_none (.of (is_none (.of (wpAny_Name (wpAny_loadName_local E.ek (E.loc hl) hN z.1 (z.2.onB (.of (ne_bool (by rw [h1];cases c <;> exact hq))))) (by decide))))))
theorem ref_call{f:Addr}(O:RefAt T f)(D:∀f,T.fa "_law_decoded"=some f→DecAt T f)(R:Reads W T)(K:C.Ok W T 37)(hb:C.base=C.h₀){g:RG}{mF:SM}{H:Hp}{s:Shared}{QQ EE:VQ}{v:Value}{b oct:List Nat}(a:At W C g mF H s)(hv:VR v (.bytes b))(h2:2≤b.length)(hby:∀c∈b,c<256)(hlen:b.length≤100000)
  (hz:zdecR b 300=if frameOk b=false then .fault else .ok oct 0)(hq:∀s' H',At W C g mF H' s'→Ex [] H H'→QQ (.bool true) s') :
  codeC (model W.prog W.w) C.A (.call (.ref f) ⟨[v],[]⟩) (retR QQ EE) s:=by
 obtain ⟨F,e1,e2,Df,d,hn,hbd⟩:=O
 exact enter_def F Df d (e1.symm▸e2) (xs:=[.bytes b]) (KK:=fun m H'=>m=[some (.bytes b),none,none,none]∧H'=H) K a (.cons hv .nil) rfl (by rw [e1];exact ⟨rfl,rfl⟩) fun g' L' H' l s1 E' D' K' FG B₁ a1 hm=>hbd (fun b=>wpC (model W.prog W.w) (F.cx C g' L').A (execs b (F.cx C g' L').env) _ _ _) fun np yp cp k p1 p2 zp p3 p4 st1 st2 b1 b2 b4=>by
  obtain ⟨hm,rfl⟩:=hm
  have G:GL AN W T (fun _ _ _ _ _=>False) (F.cx C g' L') 34 reNames:=hn▸good_one (n:="#cut") rfl (fun _ _ _ _ _ h=>h.elim) E' K' R.XO fun _ h=>absurd h List.not_mem_nil
  refine ss_then (ss:=.cons r2 .nil) (b1 _ _ _ _ _ G D') a1 (P:=fun m H2=>H2=H'∧∃hd,m=[some (.bytes b),some (.int hd),some (.bool (frameOk b)),none]) (by rw [hm];exact p_ref12 (X:=noX) h2 hby fun hd=>.intro rfl ⟨rfl,hd,rfl⟩) PassesOwn.leaving fun l2 s2 H2 a2 w2=>ss_then (b2 _ _ _ _ _ G D') a2 w2 PassesOwn.leaving fun l3 s3 H3 a3 w3=>?_
  obtain ⟨_,rfl,hd,hm3⟩:=(show Nx _ Fl.next l3.m H3 from w3)
  have iv:=l3.vars 2 (Str.ofString "is_head") .local (G.at (i:=2) rfl) (G.lk (i:=2) rfl) (.bool (frameOk b)) (by rw [hm3];rfl)
  obtain ⟨fd,hdf,hkd⟩:=R.defs "_law_decoded" (by decide)
  refine c_execs_cons (c_Return (c_Compare1 (c_Compare1 (call_loc (rk:=34) E' K' R.XO hn b4 rfl (by rw [hm3];rfl) (G.lk (i:=3) rfl) (by decide) hdf hkd a3 fun v4 s4 a4 hv5=>dec_call (D fd (K.TF.defs _ _ hdf)) R K' (hb▸K.G) a4 hv5 hby hlen ?_) (by with_unfolding_all rfl)) (by with_unfolding_all rfl)))
  rw [hz]
  cases hc:frameOk b with
  |true=>exact fun v5 s5 H5 a5 hv5 x=>ref_tail E' (G.lk (i:=2) rfl) (hv5.onY fun _ _=>rfl) (l3.loc▸a5.F.ns) (hc▸iv) (.inl (leaveK_ a5.F a5.own.news fun F3 N3=>hq s5 H5 ⟨F3,own_up FG a5.own,a5.hs⟩ x))
  |false=>exact fun s5 H5 h hs x F5 c=>c.elim fun h5 c=>c.elim fun B c=>ref_tail E' (G.lk (i:=2) rfl) rfl (c.2.1.ns (l3.loc▸F5.ns)) (hc▸iv) (.inr (hq s5 H5 (back_of hb (List.mem_filterMap.mpr ⟨C.top,.tail _ (.head _),K.hf⟩) FG hs (own_up FG c.1) ⟨(Heap.UpToSlots.of_keeps F5.keep).trans c.2.1,c.2.2⟩) x))
theorem ref_meets(O:∀f,T.fa "_law_is_refused"=some f→RefAt T f)(D:∀f,T.fa "_law_decoded"=some f→DecAt T f)(R:Reads W T)(K:C.Ok W T 37)(hb:C.base=C.h₀){CT:CT}(hct:∀xs H Q X,CT "_law_is_refused" xs H Q X→cRef xs H Q X){f:Addr}(hf:T.fa "_law_is_refused"=some f):MeetsC W T CT C "_law_is_refused" f:=
 fun q mF H s vs xs QQ EE Q X a hv hc hq hx=>hct _ _ _ _ hc (fun xs=>VRs vs xs→codeC (model W.prog W.w) C.A (.call (.ref f) ⟨vs,[]⟩) (retR QQ EE) s) (fun b oct h2 hby hlen hz k hv=>hv.sole.elim fun v z=>z.1▸ref_call (O f hf) D R K hb a z.2 h2 hby hlen hz fun s' H' a' x=>hq _ _ s' H' a' (.bool true) (k H' x)) hv
end
end
section
noncomputable def CTL:CT:=fun g xs H Q X=>(g="take"∧cTk xs H Q X)∨(g="_law_decoded"∧cDec xs H Q X)∨(g="_law_is_refused"∧cRef xs H Q X)∨CTr 11 g xs H Q X
noncomputable def lawOnes:List String:=["take","_law_decoded","_law_is_refused"]
theorem no_law:∀r∈tab,r.g∉lawOnes:=fun r hr e=>Bool.noConfusion ((List.all_eq_true.mp (show (tab.all fun r => !lawOnes.contains r.g)=true from rfl) r hr).symm.trans (by rw [List.contains_iff_mem.mpr e]))
section
variable {xs:List V}{H:Hp}{Q:QV}{X:QX}
theorem CTr.no{n:Nat}{g:String}(h:CTr n g xs H Q X)(hg:g∈lawOnes){P:Prop}:P:=absurd hg (h (g∉lawOnes) fun r hr e _ _=>e▸no_law r hr)
theorem CTL.take(h:CTL "take" xs H Q X):cTk xs H Q X:=h.elim (·.2) fun h=>h.elim (fun h=>absurd h.1 (by decide)) fun h=>h.elim (fun h=>absurd h.1 (by decide)) fun h=>h.no (.head _)
theorem CTL.dec(h:CTL "_law_decoded" xs H Q X):cDec xs H Q X:=h.elim (fun h=>absurd h.1 (by decide)) fun h=>h.elim (·.2) fun h=>h.elim (fun h=>absurd h.1 (by decide)) fun h=>h.no (.tail _ (.head _))
theorem CTL.ref(h:CTL "_law_is_refused" xs H Q X):cRef xs H Q X:=h.elim (fun h=>absurd h.1 (by decide)) fun h=>h.elim (fun h=>absurd h.1 (by decide)) fun h=>h.elim (·.2) fun h=>h.no (.tail _ (.tail _ (.head _)))
theorem CTL.tr{g:String}(h:CTL g xs H Q X)(n:g∉lawOnes):CTr 11 g xs H Q X:=h.elim (fun h=>absurd (h.1▸.head _) n) fun h=>h.elim (fun h=>absurd (h.1▸.tail _ (.head _)) n) fun h=>h.elim (fun h=>absurd (h.1▸.tail _ (.tail _ (.head _))) n) id
end
theorem no_one{g:String}(h:∀n∈lawOnes,g≠n):g∉lawOnes:=fun q=>h g q rfl
structure LReads(W:Wd)(T:Tabs)(qT:Str):Prop extends Reads W T where
 dec:∀f,T.fa "_law_decoded"=some f→DecAt T f
 ref:∀f,T.fa "_law_is_refused"=some f→RefAt T f
 TK:∀o c p k,W.TK o c p k↔TKd qT o c p k
 CD:∀o,W.CD o↔CDd qT o
section
variable {W:Wd}{T:Tabs}{qT:Str}
theorem good_law(R:LReads W T qT){C:Cx}(E:C.EnvOk)(K:C.Ok W T 38)(hb:C.base=C.h₀):GL AL W T CTL C 36 C.ns:=
 have K37:C.Ok W T 37:=K.le (Nat.le_succ _)
 have K33:33≤37:=Nat.le_add_right 33 4
 have meth:∀{g a},T.fa g=some a→g∉lawOnes→Meets W T CTL 37 g a:=fun hf n C' q mF H s vs xs QQ EE Q X K' a hv hc=>(meets_all R.toReads 11).at K33 hf C' q mF H s vs xs QQ EE Q X K' a hv (hc.tr n)
 ⟨⟨E,K,R.XO,fun g hg=>(R.defs g hg).imp fun a z=>⟨z.1,z.2,fun q mF H s vs xs QQ EE Q X a' hv hc hq hx=>by
   have hf:=K.TF.defs g a z.1
   by_cases g1:g="_law_decoded"
   ·subst g1;exact dec_meets R.dec R.toReads (K37.le (Nat.le_succ _)) hb (fun xs H Q X=>CTL.dec) hf q mF H s vs xs QQ EE Q X a' hv hc hq hx
   by_cases g2:g="_law_is_refused"
   ·subst g2;exact ref_meets R.ref R.dec R.toReads K37 hb (fun xs H Q X=>CTL.ref) hf q mF H s vs xs QQ EE Q X a' hv hc hq hx
   exact meth hf (fun h=>(List.mem_cons.mp h).elim (fun e=>absurd (e▸hg) (by decide)) fun h=>(List.mem_cons.mp h).elim g1 fun h=>g2 (List.mem_singleton.mp h)) C q mF H s vs xs QQ EE Q X K37 a' hv hc hq hx⟩,
  fun c f b hcf hb C' q mF H s vs xs QQ EE Q X K'=>meth hb (no_one fun n hn=>(fun e=>bne_iff_ne.mp (List.all_eq_true.mp ((by decide +kernel:∀n∈lawOnes,methsOf.all (fun p=>p.1++"."++p.2 != n)=true) n hn) _ hcf) e)) C' q mF H s vs xs QQ EE Q X (K'.le (Nat.le_succ _)),
  fun c a _ hb C' q mF H s vs xs QQ EE Q X K'=>meth hb (no_one fun n hn=>init_ne c n ((by decide:∀n∈lawOnes,(n.toList.getLast? != some '_')=true) n hn)) C' q mF H s vs xs QQ EE Q X K',
  fun C' q mF H s t cc pp kk v x QQ EE Q X K'=>meetsT_of (fun o c p k=>(R.TK o c p k).mp) (fun o=>(R.CD o).mp) R.XO (fun xs H Q X=>CTL.take) C' q mF H s t cc pp kk v x QQ EE Q X (K'.le (by exact Nat.le_add_left 3 35))⟩,rfl,R.gi,R.cls⟩
end
end
section
noncomputable def lwNames:Ns:=[(Str.ofString "script",.local),(Str.ofString "take",.cell),(Str.ofString "many",.cell),(Str.ofString "way",.local),(Str.ofString "octets",.cell),(Str.ofString "data",.cell),(Str.ofString "low",.local),(Str.ofString "spot",.cell),(Str.ofString "high",.local),(Str.ofString "due",.local),(Str.ofString "level",.local),(Str.ofString "word",.local),(Str.ofString "head",.local),(Str.ofString "bent",.local),
 (Str.ofString "_law_taker",.globalImplicit),(Str.ofString "bytes",.globalImplicit),(Str.ofString "range",.globalImplicit),(Str.ofString "zlib_encoded",.globalImplicit),(Str.ofString "sum",.globalImplicit),(Str.ofString "list",.globalImplicit),(Str.ofString "enumerate",.globalImplicit),(Str.ofString "zlib_head",.globalImplicit),(Str.ofString "_law_decoded",.globalImplicit),(Str.ofString "len",.globalImplicit),(Str.ofString "_law_is_refused",.globalImplicit)]
noncomputable def LwT(b:List Stmt):Prop:=∀R:List Stmt→Prop,(∀xp yp zp cp p2 rest,TEs AN lwNames (.cons (.loc 0) .nil) [.Name (Str.ofString "script") zp]→TSs AL lwNames (tailS 1 t_law) rest→
 R (.Assign [.Name (Str.ofString "take") xp] (.Call (.Name (Str.ofString "_law_taker") yp) [.Name (Str.ofString "script") zp] [] cp) p2::rest))→R b
noncomputable def LwB(ns:Ns)(b:List Stmt):Prop:=ns=lwNames∧LwT b
structure LC(H:Hp)(c1 c2 c4 c5 c7:Nat):Prop where
 k1:H c1=some (.cell none)
 k2:H c2=some (.cell none)
 k4:H c4=some (.cell none)
 k5:H c5=some (.cell none)
 k7:H c7=some (.cell none)
 n12:c1≠c2
 n14:c1≠c4
 n15:c1≠c5
 n17:c1≠c7
 n24:c2≠c4
 n25:c2≠c5
 n27:c2≠c7
 n45:c4≠c5
 n47:c4≠c7
 n57:c5≠c7
section
variable {W:Wd}{T:Tabs}{qT:Str}
theorem law_run(R:LReads W T qT){ftk c P:Addr}{F:FO T.K ftk}(Tk:TkrO T ftk c qT F)(hf:T.fa "_law_taker"=some ftk){C:Cx}(E:C.EnvOk)(Df:C.Def)(hns:C.ns=lwNames)(K:C.Ok W T 38)(hbase:C.base=C.h₀)
  {mg:SM}(t:TbAt C.h₀ c P mg){items:Array Value}{ns:List Int}{s0:Nat}(hl:C.h₀.IsList s0 items)(hi:IntsAre items.toList ns)(hz:items.size≤16777216)
  {g:RG}{l:Ld C}{H:Hp}{s:Shared}{EE:VQ}{c1 c2 c4 c5 c7:Nat}(a:At W C g l.mF H s)(hm:l.m=[some (.ref s0),some (.ref c1),some (.ref c2),none,some (.ref c4),some (.ref c5),none,some (.ref c7),none,none,none,none,none,none])(hGP:g.G P=some (tabObj #[]))(lc:LC H c1 c2 c4 c5 c7)
  (hE:PassesOwn (model W.prog W.w) C.A C.env EE){body:List Stmt}(hb:LwB C.ns body) :
  wpC (model W.prog W.w) C.A (execs body C.env) (fun fl s'=>fl=.ret (.bool true)∧∃(l':Ld C) (H':Hp) (pv:Array Value),At W C (g.at P (tabObj pv)) l'.mF H' s') EE s:=
 hb.2 (fun b=>wpC (model W.prog W.w) C.A (execs b C.env) _ EE s) fun xp yp zp cp p2 rest b1 b3=>by
  have gl:GL AL W T CTL C 36 lwNames:=hns▸good_law R E K hbase
  obtain ⟨f,hdf,hkd⟩:=R.defs "_law_taker" (by decide)
  obtain rfl:ftk=f:=sI (hf.symm.trans (K.TF.defs _ _ hdf))
  refine c_execs_cons (c_Assign_Name (call_loc (rk:=36) E K R.XO hns b1 rfl (by rw [hm];rfl) (gl.lk (i:=14) rfl) (by decide) hdf hkd a fun v s1 a1 hv=>hv.onR (taker_call Tk R.XO (fun o c p k=>(R.TK o c p k).mpr) (fun o=>(R.CD o).mpr) (K.le (Nat.le_add_left 4 34)) a1 hGP t hl hi hz fun s2 H2 pv t cc pp kk lp a2 x2 nt ncc npp nlp ht hT=>?_)) (plainV_ok rfl _ _ _))
  have e1:=x2.at0 lc.k1
  refine (a2.own.isCell0 e1).elim fun v0 hcell=>.of<|wpAny_storeName_cell E.ek (E.kind (gl.lk (i:=1) rfl) nofun) (at_cell l.vars (.inl rfl) (gl.at (i:=1) rfl) (gl.lk (i:=1) rfl) (by rw [hm];rfl)) hcell fun h' hv' hsb=>?_
  refine b3 _ _ _ _ _ gl Df _ l _ {s2 with heap:=h'} _ _ (kBody fun v _=>v=.bool true) noX (a2.setCell e1 (.ref t) hv' hsb) (by
   rw [hm]
   exact law_A (fun xs H Q X z=>.inl ⟨rfl,z⟩) (fun xs H Q X z=>.inr (.inl ⟨rfl,z⟩)) (fun xs H Q X z=>.inr (.inr (.inl ⟨rfl,z⟩))) (fun xs H Q X z=>.inr (.inr (.inr (sup_of 59 rfl xs H Q X z)))) (fun xs H Q X z=>.inr (.inr (.inr (sup_of 60 rfl xs H Q X z))))
    ⟨pself,putn (x2.at0 lc.k2) lc.n12.symm,putn (x2.at0 lc.k4) lc.n14.symm,putn (x2.at0 lc.k5) lc.n15.symm,putn (x2.at0 lc.k7) lc.n17.symm,putn ht (ne_of lc.k1 nt).symm,hT.put e1 ⟨ne_of lc.k1 ncc,ne_of lc.k1 npp⟩,lc.n12,lc.n14,lc.n15,lc.n17,lc.n24,lc.n25,lc.n27,lc.n45,lc.n47,lc.n57,
     ⟨ne_of lc.k2 ncc,ne_of lc.k2 npp⟩,⟨ne_of lc.k4 ncc,ne_of lc.k4 npp⟩,⟨ne_of lc.k5 ncc,ne_of lc.k5 npp⟩,⟨ne_of lc.k7 ncc,ne_of lc.k7 npp⟩⟩ fun _=>rfl) hE (fun fl f2 l2 s4 H4 a4 hfl hQ4=>?_) noX_fin
  cases f2 with
  |next=>exact nomatch hQ4
  |cont=>exact nomatch hQ4
  |ret x=>
   obtain rfl:x=.bool true:=hQ4
   obtain ⟨v,rfl,hv⟩:=hfl
   exact hv.onB ⟨rfl,l2,H4,pv,a4⟩
end
end
section
noncomputable abbrev LawAt(T:Tabs)(f:Addr):Prop:=FnAt T f 25 1 [7,5,4,2,1] [] LwB
noncomputable def m0law(s0:Nat):M:=[some (.ref s0),none,none,none,none,none,none,none,none,none,none,none,none,none]
theorem m0_get{s0:Nat}(i:Nat)(V:V)(h:getLoc (m0law s0) i=some V): [Mine.V.ref s0][i]?=some V:=initM_get (n:=14) (xs:=[.ref s0]) h
noncomputable def LwK(s0:Nat)(m:M)(H:Hp):Prop:=∀R:M→Prop,(∀c1 c2 c4 c5 c7,LC H c1 c2 c4 c5 c7→R [some (.ref s0),some (.ref c1),some (.ref c2),none,some (.ref c4),some (.ref c5),none,some (.ref c7),none,none,none,none,none,none])→R m
theorem law_cells{s0:Nat}:enterP [.ref s0] (LwK s0) [7,5,4,2,1] (m0law s0) (fun _=>none):=fun c7 n7 c5 n5 c4 n4 c2 n2 c1 n1 R z=>z c1 c2 c4 c5 c7
 ⟨pself,putf pself n1,putf (putf pself n2) n1,putf (putf (putf pself n4) n2) n1,putf (putf (putf (putf pself n5) n4) n2) n1,(ne_of pself n1).symm,(ne_of (putf pself n2) n1).symm,(ne_of (putf (putf pself n4) n2) n1).symm,(ne_of (putf (putf (putf pself n5) n4) n2) n1).symm,
  (ne_of pself n2).symm,(ne_of (putf pself n4) n2).symm,(ne_of (putf (putf pself n5) n4) n2).symm,(ne_of pself n4).symm,(ne_of (putf pself n5) n4).symm,(ne_of pself n5).symm⟩
section
variable {W:Wd}{T:Tabs}{qT:Str}
theorem law_enter(R:LReads W T qT){flaw ftk c P:Addr}{F:FO T.K ftk}(Tk:TkrO T ftk c qT F)(hf:T.fa "_law_taker"=some ftk)(Lw:LawAt T flaw){s:Shared}(GG:GF W T (hideAll s.heap [P]))(TT:TF W T)
  {mg:SM}(t:TbAt (hideAll s.heap [P]) c P mg){items:Array Value}{ns:List Int}{s0:Nat}(hl:(hideAll s.heap [P]).IsList s0 items)(hi:IntsAre items.toList ns)(hz:items.size≤16777216)(hP:s.heap.get? P=some (tabObj #[])) :
  codeC (model W.prog W.w) callerA (.call (.ref flaw) ⟨[.ref s0],[]⟩) (fun res s'=>res=.ok (.ret (.bool true))∧s'.os=s.os∧s'.gens=s.gens∧(∀b o,(hideAll s.heap [P]).get? b=some o→s'.heap.get? b=some o)∧∃pv,s'.heap.get? P=some (tabObj pv)) s:=by
 obtain ⟨F₀,h1,h2,D,d,hb⟩:=Lw
 have sub:∀b o,(hideAll s.heap [P]).get? b=some o→s.heap.get? b=some o:=fun b o e=>of_hideAll _ e
 have X₀:T.K.In s.heap:=GG.K.keeps sub
 obtain ⟨ws,hws,hbd⟩:=d s [.ref s0] X₀ rfl
 cases hws
 refine codeC_call_function (fd:=F₀.fd) (body:=F₀.body) (by decide +kernel) (X₀ _ _ F₀.ho) rfl F₀.hco F₀.hgen rfl (codeRec_of X₀ F₀.hcd) (.of (hbd _ _ _ _ (.of ?_)))
 refine wpAny_newFunctionEnv_cells F₀.hk (fun y hy=>D.kind rfl hy _) fun env' he s' x=>?_
 subst he
 refine ⟨(GG.nolimit.keeps sub).keeps x.toInCall.keep,codeC_func ?_⟩
 obtain ⟨h₁,tk,rfl,_⟩:=x.done
 have hk₁:=x.toInCall.keep
 refine (Cl.news (h₀:=s.heap) (Nat.le_refl _) fun n c hm=>⟨x.cell n c (lookup_of_mem_nodup (cellsFrom_names F₀.scope.names 0 (s.heap.objs.size+1) [] [] rfl▸D.ndc) hm),x.above n c hm⟩).elim fun cells z=>?_
 have hPlt:P<s.heap.objs.size:=Heap.lt_size hP
 exact enter_names (W:=W) D (kindOf:=(envOfC F₀.qual F₀.scope s.heap.objs.size flaw F₀.cdv).kindOf) (fun _=>rfl) (h1.symm▸h2) (ys:=[.ref s0]) (.cons (.ref _) .nil) rfl (G:=gput (fun _=>none) P (some (tabObj #[]))) z.2
  (fun p hp=>have y:=z.1 p hp;⟨y.1,y.2.1,Option.eq_none_iff_forall_ne_some.mpr fun o q=>noS (y.2.2.symm.trans (sub _ _ q))⟩) (fun a ha=>⟨rfl,gput_ne fun q=>Nat.lt_irrefl _ (Nat.lt_trans hPlt (q▸ha))⟩)
  ⟨fun a o e=>noS e,fun a ro e=>by
   by_cases q:a=P
   ·subst q;exact sI (gput_self.symm.trans e)▸⟨Nat.ne_of_lt hPlt,hideAll_none _ (.head _),hk₁ _ _ hP⟩
   ·exact noS ((gput_ne q).symm.trans e)⟩ m0_get law_cells fun m' H' hk O₂ hV=>hk (fun m=>m'=m→_) (fun c1 c2 c4 c5 c7 lc hm=>by
  let C:Cx:={A:=callerA.deeper (envOfC F₀.qual F₀.scope s.heap.objs.size flaw F₀.cdv),A₀:=callerA,base:=hideAll s.heap [P],h₀:=hideAll s.heap [P],outer:=[],top:=envOfC F₀.qual F₀.scope s.heap.objs.size flaw F₀.cdv,L:=s.heap.objs.size,env:=envOfC F₀.qual F₀.scope s.heap.objs.size flaw F₀.cdv,ns:=F₀.scope.names}
  have E:C.EnvOk:=⟨F₀.hk,rfl,rfl,D.nd,fun x k h=>⟨k,h,.inl rfl⟩⟩
  have Df:C.Def:=⟨rfl,rfl,by show interactive (envOfC _ _ _ _ _)=false;unfold interactive;simp [envOfC,F₀.hk]⟩
  have K:C.Ok W T 38:=⟨below_caller _,Around.frames_deeper rfl,rfl,F₀.hk,rfl,rfl,by show callerA.depth+1+4*38<900;decide +kernel,by show callerA.units+3+10*38<9000;decide +kernel,GG,TT⟩
  refine cmono (law_run R Tk hf E Df hb.1 K rfl t hl hi hz (g:=⟨(s.gens,s.drawn,s.os),gput (fun _=>none) P (some (tabObj #[]))⟩) (l:=⟨_,m',rfl,hV C rfl rfl⟩) (s:={s with heap:=h₁,toks:=tk})
   (EE:=fun e s'=>wpAny (model W.prog W.w) C.A (leaving C.env e) (fun _ s''=>False) (fun e' s''=>False) s') ⟨⟨x.toInCall.ns,fun b o e=>hk₁ b o (sub _ _ e),Nat.le_of_eq (hideAll_size _ _)⟩,O₂,rfl,rfl,rfl⟩ hm (if_pos rfl) lc PassesOwn.leaving hb) (fun fl s' hl=>?_) fun e s' hh=>wpAny_mono hh (fun _ _ z=>z.elim) fun _ _ z=>z.elim
  obtain ⟨rfl,l',H',pv,a'⟩:=hl
  exact ⟨rfl,a'.hs.2.2,a'.hs.1,a'.F.keep,pv,(a'.own.raw P _ gput_self).2.2⟩) rfl
end
end
end Mine
end
section
open PySem PySem.W PyProof.Rows PySem.Calls PySem.Spec
set_option maxHeartbeats 400000
set_option genInjectivity false
set_option genSizeOf false
set_option genCtorIdx false
set_option bootstrap.genMatcherCode false
namespace Mine
noncomputable section
noncomputable def lookAs:List Addr:=[22,28,29,38,39,51,52,60,61,67,68,74,75,83,89,90,96,97,103,104,110,111,117,118,124,125,127,128,145,146,152,153,159,160,166,167,180,181,183,184,194,195,201,202,208,209,215,216,222,223,229,230,236,237,241,242,255,256,262,263,265,266,281,282,288,289,291,292,302,303,307,308,312,313,319,320,326,327,333,334,340,341,347,348,354,355,361,362,368,369,375,376,382,383,389,390,396,397,403,404,405,411,412,418,419,425,426,432,433,439,440,446,447,460,461,467,468,474,475,477,478,488,489,495,496,497,503,504,510,511,512,516,517,523,524,530,531,538,539,545,546,552,553,566,567,573,574,580,581,583,584,594,595,599,600,606,607,613,614,620,621,627,628,634,635,674,675,681,682,688,689,695,696,702,703,737,738,744,745,749,750,754,755,759,760,766,767,773,774,775,779,780,786,787,793,794,795,801,802,808,809,813,814,820,821,827,828,834,835,839,840]
noncomputable def refOf(o:Option Value):Addr:=match o with |some (.ref a)=>a |_=>0
noncomputable def nmA(h:Heap)(x:String):Addr:=refOf (h.nsMap mainGlobals (Str.ofString x))
noncomputable abbrev Nm(h:Heap)(x:String):Prop:=h.nsMap mainGlobals (Str.ofString x)=some (.ref (nmA h x))
noncomputable def initsOf:List (String×String):=allCls.map fun c=>(c,"__init__")
noncomputable def pick(fr:Obj→Option Obj)(as:List Addr):Nat→List Obj→Frag:=List.rec (fun _ _=>[]) (fun a _ ih k os=>cond (Nat.ble k a) (List.rec [] (fun o os _=>Option.rec (ih (a+1) os) (fun o=>(a,o)::ih (a+1) os) (fr o)) (os.drop (a-k))) []) as
noncomputable def frag(as:List Addr)(h:Heap):Frag:=pick (fun o=>(Heap.mk #[o] {}).get? 0) as 0 h.objs.toList
noncomputable def methA(K:Frag)(C:Addr)(f:String):Addr:=refOf ((findIn K (.ref C) (Str.ofString f)).getD none)
noncomputable def faTab(K:Frag)(h:Heap):List (String×Addr):=(allDefs.map fun x=>(x,nmA h x))++(methsOf++initsOf).map fun p=>(p.1++"."++p.2,methA K (nmA h p.1) p.2)
noncomputable def qualOf(K:Frag)(f:Addr):Str:=match K.lookup f with
 |some ⟨_,_,.func fd,_⟩=>fd.qualname
 |_=>""
theorem qual_of{K:Frag}{f:Addr}(F:FO K f):qualOf K f=F.qual:=by unfold qualOf;rw [F.ho]
noncomputable def qTof(h:Heap):Str:=qualOf (frag lookAs h) (nmA h "_law_taker")++".<locals>."++Str.ofString "take"
noncomputable def TBs(h:Heap):Tabs:={gi:=allGi,defs:=allDefs.map fun x=>(x,nmA h x),cls:=allCls,fa:=fun g=>(faTab (frag lookAs h) h).lookup g,K:=frag lookAs h,ff:=nmA h "FilterFault"}
theorem tkd_fn{qT:Str}(o:Obj)(c p k:Nat)(h:TKd qT o c p k):∃fd,o.data=.func fd:=by
 refine Classical.byContradiction fun no=>?_
 obtain ⟨_,_,_,_,_,_,_,_,_,_,e,_⟩:=h
 subst e
 refine no ?_
 exact ⟨_,rfl⟩
noncomputable def WDs(prog:Program)(w:World)(h:Heap):Wd:={prog:=prog,w:=w,cA:=nmA h,TK:=TKd (qTof h),TKf:=tkd_fn,CD:=CDd (qTof h)}
theorem look_sub{α β:Type}[BEq α][LawfulBEq α]{a:α}{b:β}:∀{l:List (α×β)},l.lookup a=some b→(a,b)∈l
 | (x,y)::l,h=>by
  rw [List.lookup_cons]at h
  cases q:a == x with
  |true=>rw [q]at h;exact eq_of_beq q▸sI h▸List.mem_cons_self
  |false=>rw [q]at h;exact List.mem_cons_of_mem _ (look_sub h)
theorem pick_in{fr:Obj→Option Obj}{L:List Obj}{a:Addr}{o:Obj}:∀(as:List Addr) (k:Nat),(a,o)∈pick fr as k (L.drop k)→∃x,L[a]?=some x∧fr x=some o:=List.rec (fun k h=>nomatch h) fun b as ih k h=>by
 have e:(L.drop k).drop (b-k)=L.drop (k+(b-k)):=List.drop_drop
 replace h:(a,o)∈cond (Nat.ble k b) (List.rec [] (fun o os _=>Option.rec (pick fr as (b+1) os) (fun o=>(b,o)::pick fr as (b+1) os) (fr o)) ((L.drop k).drop (b-k))) []:=h
 cases q:Nat.ble k b with
 |false=>rw [q]at h;exact nomatch h
 |true=>
  rw [q,e,Nat.add_sub_cancel' (Nat.le_of_ble_eq_true q)]at h
  have g:L[b]?=(L.drop b)[0]?:=(List.getElem?_drop (i:=b) (j:=0)).symm
  have g2:L.drop (b+1)=(L.drop b).drop 1:=List.drop_drop.symm
  have ih:=ih (b+1)
  rw [g2]at ih
  generalize L.drop b=M at *
  cases M with
  |nil=>exact nomatch h
  |cons x os=>
   replace h:(a,o)∈Option.rec (motive:=fun _=>Frag) (pick fr as (b+1) os) (fun o=>(b,o)::pick fr as (b+1) os) (fr x):=h
   cases r:fr x with
   |none=>rw [r]at h;exact ih h
   |some y=>
    rw [r]at h
    rcases List.mem_cons.mp h with z |z
    ·exact (Prod.mk.inj z).1▸(Prod.mk.inj z).2▸⟨x,g,r⟩
    ·exact ih z
theorem frag_in(as:List Addr)(h:Heap):(frag as h).In h:=fun a o e=>(pick_in as 0 (look_sub e)).elim fun x z=>by
 have g:h.objs[a]?=some x:=Array.getElem?_toList▸z.1
 unfold Heap.get?;rw [g];exact z.2
theorem fa_keys(K:Frag)(h:Heap):(faTab K h).map (·.1)=allDefs++(methsOf++initsOf).map fun p=>p.1++"."++p.2:=by
 unfold faTab
 rw [List.map_append,List.map_map,List.map_map]
 rfl
theorem fa_nodup:(allDefs++(methsOf++initsOf).map fun p=>p.1++"."++p.2).Nodup:=by decide +kernel
theorem look_nodup{β:Type}{a:String}{b:β}:∀{l:List (String×β)},(l.map (·.1)).Nodup→(a,b)∈l→l.lookup a=some b
 | (x,y)::l,hn,hm=>by
  rw [List.lookup_cons]
  rcases List.mem_cons.mp hm with q |q
  ·simp only [(Prod.mk.inj q).1,beq_self_eq_true];exact congrArg _ (Prod.mk.inj q).2.symm
  ·rw [beq_eq_false_iff_ne.mpr fun e:a=x=>(List.nodup_cons.mp hn).1 (List.mem_map.mpr ⟨_,q,e⟩)]
   exact look_nodup (List.nodup_cons.mp hn).2 q
theorem fa_look{K:Frag}{h:Heap}{x:String}{a:Addr}(hm:(x,a)∈faTab K h):(faTab K h).lookup x=some a:=look_nodup (fa_keys K h▸fa_nodup) hm
theorem fa_meth{K:Frag}{h:Heap}{p:String×String}(hm:p∈methsOf++initsOf):(faTab K h).lookup (p.1++"."++p.2)=some (methA K (nmA h p.1) p.2):=fa_look (List.mem_append_right _ (List.mem_map.mpr ⟨p,hm,rfl⟩))
noncomputable def ckAll{α:Type}{P:α→Prop}(k:∀a,Chk (P a))(l:List α):Chk (∀a∈l,P a):=List.rec (motive:=fun l=>Chk (∀a∈l,P a)) (.yes fun _ h=>nomatch h) (fun a l ih=>(k a).with_ fun h=>ih.map fun hs b hb=>(List.mem_cons.mp hb).elim (fun e=>e▸h) (hs b)) l
noncomputable def ckD(p:Prop)[Decidable p]:Chk p:=.ifB (decide p) fun h=>.yes (of_decide_eq_true h)
theorem el_ok{α:Type}{p:α→Bool}{o:Option α}(h:o.elim false p=true):∃a,o=some a∧p a=true:=by
 cases o with
 |none=>exact nomatch h
 |some a=>exact ⟨a,rfl,h⟩
noncomputable def AtB(K:Frag)(C:Addr)(f:Str):Prop:=plainGet K C f=true∧hasDictIn K C=true∧(∃at_,findIn K (.ref C) f=some at_∧noGet K at_=true)∧findIn K (.ref C) "__setattr__"=some (some (.builtin "object.__setattr__"))∧plainOver K C=true∧takerIn K C f=some none
noncomputable def ckAt(K:Frag)(C:Addr)(f:Str):Chk (AtB K C f):=.ifB _ fun h1=>.ifB _ fun h2=>.ifB ((findIn K (.ref C) f).elim false (noGet K)) fun h3=>(ckD (findIn K (.ref C) "__setattr__"=some (some (.builtin "object.__setattr__")))).with_ fun h4=>.ifB _ fun h5=>(ckD (takerIn K C f=some none)).map fun h6=>⟨h1,h2,el_ok h3,h4,h5,h6⟩
noncomputable def MeB(K:Frag)(C:Addr)(f:Str)(a:Addr):Prop:=plainGet K C f=true∧findIn K (.ref C) f=some (some (.ref a))∧isFn K (.ref a)=true∧keepIn K (.ref a)=true
noncomputable def ckMe(K:Frag)(C:Addr)(f:Str)(a:Addr):Chk (MeB K C f a):=.ifB _ fun h1=>(ckD (findIn K (.ref C) f=some (some (.ref a)))).with_ fun h2=>.ifB _ fun h3=>.ifB _ fun h4=>.yes ⟨h1,h2,h3,h4⟩
noncomputable def NeB(K:Frag)(C a:Addr):Prop:=makesIn K C=true∧keepIn K (.ref C)=true∧findIn K (.ref C) "__init__"=some (some (.ref a))∧isFn K (.ref a)=true
noncomputable def ckNe(K:Frag)(C a:Addr):Chk (NeB K C a):=.ifB _ fun h1=>.ifB _ fun h2=>(ckD (findIn K (.ref C) "__init__"=some (some (.ref a)))).with_ fun h3=>.ifB _ fun h4=>.yes ⟨h1,h2,h3,h4⟩
theorem init_dot:∀c∈allCls,c++"."++"__init__"=c++".__init__":=by decide
theorem tf_of{h:Heap}(hA:∀p∈attrsOf,AtB (frag lookAs h) (nmA h p.1) (Str.ofString p.2))(hM:∀p∈methsOf,MeB (frag lookAs h) (nmA h p.1) (Str.ofString p.2) (methA (frag lookAs h) (nmA h p.1) p.2))(hN:∀c∈allCls,NeB (frag lookAs h) (nmA h c) (methA (frag lookAs h) (nmA h c) "__init__"))
  (prog:Program)(w:World):TF (WDs prog w h) (TBs h) where
 attr:=fun C f hf=>hA (C,f) hf
 meth:=fun C f hf=>⟨methA (frag lookAs h) (nmA h C) f,fa_meth (p:=(C,f)) (List.mem_append_left _ hf),hM (C,f) hf⟩
 cls:=fun C hC=>⟨(hN _ hC).1,(hN _ hC).2.1,methA (frag lookAs h) (nmA h C) "__init__",(congrArg (fun x=>(faTab (frag lookAs h) h).lookup x) (init_dot _ hC)).symm.trans (fa_meth (p:=(C,"__init__")) (List.mem_append_right _ (List.mem_map.mpr ⟨C,hC,rfl⟩))),(hN _ hC).2.2.1,(hN _ hC).2.2.2⟩
 defs:=fun x a hm=>fa_look (List.mem_append_left _ hm)
noncomputable def ckTF(h:Heap):Chk (∀prog w,TF (WDs prog w h) (TBs h)):=(ckAll (fun p:String×String=>ckAt (frag lookAs h) (nmA h p.1) (Str.ofString p.2)) attrsOf).with_ fun hA=>(ckAll (fun p:String×String=>ckMe (frag lookAs h) (nmA h p.1) (Str.ofString p.2) (methA (frag lookAs h) (nmA h p.1) p.2)) methsOf).with_ fun hM=>(ckAll (fun c:String=>ckNe (frag lookAs h) (nmA h c) (methA (frag lookAs h) (nmA h c) "__init__")) allCls).map fun hN=>tf_of hA hM hN
noncomputable def onCls{Q:Data→Prop}{P:Prop}(d:Data)(h:Q d)(k:∀c,Q (.cls c)→Chk P):Chk P:=Data.casesOn (motive:=fun d=>Q d→Chk P) d (fun _=>.no) (fun _ _=>.no) (fun _ _ _=>.no) (fun _ _ _=>.no) (fun _ _ _ _=>.no) (fun _ _ _=>.no) (fun _ _=>.no) (fun _ _=>.no) k (fun _ _=>.no) (fun _=>.no) h
noncomputable def onFields{Q:Data→Prop}{P:Prop}(d:Data)(h:Q d)(k:∀vs,Q (.fields vs)→Chk P):Chk P:=Data.casesOn (motive:=fun d=>Q d→Chk P) d (fun _=>.no) (fun _ _=>.no) (fun _ _ _=>.no) (fun _ _ _=>.no) (fun _ _ _ _=>.no) (fun _ _ _=>.no) (fun _ _=>.no) (fun _ _=>.no) (fun _ _=>.no) k (fun _=>.no) h
theorem exc_eq{ff P:Addr}{o:Obj}{c:ClassData}{k0 k1 k2 k3 k5:Option Value}(h1:o.cls=.type "type")(h2:o.data=.cls c)(h3:c.hasDict=true)(h4:c.hasDel=false)(h5:c.mro=.ref ff::excTail P)(h6:o.slots = #[k0,k1,k2,k3,some (.builtin "Exception.__new__"),k5]):ExcO ff o:=by
 cases o;cases c;subst h1 h2;subst h3 h4 h5 h6;exact .mk
noncomputable def ckExcO(K:Frag)(ff:Addr):Chk (∃o,K.lookup ff=some o∧ExcO ff o):=onLk K ff fun o h=>onCls (Q:=fun d=>o.data=d) o.data rfl fun c h2=>(ckD (o.cls=.type "type")).with_ fun h1=>(ckD (c.hasDict=true)).with_ fun h3=>(ckD (c.hasDel=false)).with_ fun h4=>
 (ckD (c.mro=.ref ff::excTail (refOf c.mro[1]?))).with_ fun h5=>(ckD (o.slots = #[o.slots.getD 0 none,o.slots.getD 1 none,o.slots.getD 2 none,o.slots.getD 3 none,some (.builtin "Exception.__new__"),o.slots.getD 5 none])).map fun h6=>⟨o,h,exc_eq h1 h2 h3 h4 h5 h6⟩
noncomputable def onNm(x:Str){P:Expr→Prop}(e:Expr)(k:∀p,Chk (P (.Name x p))):Chk (P e):=onName e fun y p=>.ifB (y == x) fun h=>(k p).map fun q=>(eq_of_beq h).symm▸q
noncomputable def onSt(x:Str){P:Str→Prop}(y:Str)(k:Chk (P x)):Chk (P y):=.ifB (y == x) fun h=>k.map fun q=>(eq_of_beq h).symm▸q
noncomputable def onSet(x y:Str){P:Stmt→Prop}(s:Stmt)(k:∀p q r t,Chk (P (.Assign [.Attribute (.Name x p) y q] (.Name y r) t))):Chk (P s):=onAsg s fun t v r=>onAttr (P:=fun t=>P (.Assign [t] v r)) t fun o a q=>onNm x (P:=fun o=>P (.Assign [.Attribute o a q] v r)) o fun p=>
 onSt y (P:=fun a=>P (.Assign [.Attribute (.Name x p) a q] v r)) a (onNm y (P:=fun v=>P (.Assign [.Attribute (.Name x p) y q] v r)) v fun u=>k p q u r)
noncomputable def ckIB(b:List Stmt):Chk (InitBody b):=on3 b fun s1 s2 s3=>onSet "self" "what" (P:=fun s=>InitBody [s1,s,s3]) s2 fun _ _ _ _=>onSet "self" "at" (P:=fun s=>InitBody [s1,.Assign _ _ _,s]) s3 fun _ _ _ _=>onExprS (P:=fun s=>InitBody [s,.Assign _ _ _,.Assign _ _ _]) s1 fun e _=>
 onCall (P:=fun e=>InitBody [.Expr e _,.Assign _ _ _,.Assign _ _ _]) e fun f l p=>onAttr (P:=fun f=>InitBody [.Expr (.Call f l [] p) _,.Assign _ _ _,.Assign _ _ _]) f fun o x q=>onNm (Str.ofString "Exception") (P:=fun o=>InitBody [.Expr (.Call (.Attribute o x q) l [] p) _,.Assign _ _ _,.Assign _ _ _]) o fun n=>
 onSt "__init__" (P:=fun x=>InitBody [.Expr (.Call (.Attribute (.Name _ n) x q) l [] p) _,.Assign _ _ _,.Assign _ _ _]) x (on2 (P:=fun l=>InitBody [.Expr (.Call (.Attribute (.Name _ n) _ q) l [] p) _,.Assign _ _ _,.Assign _ _ _]) l fun y z=>
 onNm "self" (P:=fun y=>InitBody [.Expr (.Call (.Attribute (.Name _ n) _ q) [y,z] [] p) _,.Assign _ _ _,.Assign _ _ _]) y fun _=>onNm "what" (P:=fun z=>InitBody [.Expr (.Call (.Attribute (.Name _ n) _ q) [_,z] [] p) _,.Assign _ _ _,.Assign _ _ _]) z fun _=>.ifB (q.endLine == p.line) fun h=>.yes (.mk h))
noncomputable def ckInit(T:Tabs)(f:Addr):Chk (InitAt T f):=ckF T.K f fun F=>(ckDef F.scope.names 3 [] F.params).with_ fun D=>(ckDf F 3 [] [] D).with_ fun d1=>(ckDf F 3 [] [.int (-1)] D).with_ fun d2=>(ckD (F.scope.names=initNames)).with_ fun h=>(ckIB F.body).map fun b=>⟨F,D,h,b,fun us e=>e.elim (fun e=>e▸d1) fun e=>e▸d2⟩
noncomputable def ckFc(o:Option CFound):Chk (o=some (.val (.builtin "Exception.__init__"))):=match o with
 |some (.val v)=>(ckD (v=.builtin "Exception.__init__")).map fun h=>h▸rfl
 |_=>.no
noncomputable def ckExc(T:Tabs):Chk (ExcOk T):=(ckExcO T.K T.ff).with_ fun h1=>(ckD (findIn T.K (.ref T.ff) "__setattr__"=some (some (.builtin "object.__setattr__")))).with_ fun h2=>(ckD (findIn T.K (.ref T.ff) "what"=some none)).with_ fun h3=>(ckD (findIn T.K (.ref T.ff) "at"=some none)).with_ fun h4=>
 Chk.with_ (P:=findCls T.K (.type "Exception") (.type "type") "__init__"=some (.val (.builtin "Exception.__init__"))) (ckFc _) fun h5=>.ifB (keepIn T.K (.ref T.ff)) fun h6=>(ckD (specialIn T.K (.ref T.ff) "__call__"=some (some (.builtin "type.__call__")))).with_ fun h7=>
 (ckD (findIn T.K (.ref T.ff) "__init__"=some (some (.ref (methA T.K T.ff "__init__"))))).with_ fun h8=>.ifB (isFn T.K (.ref (methA T.K T.ff "__init__"))) fun h9=>(ckInit T (methA T.K T.ff "__init__")).map fun h10=>⟨⟨h1,h2,h3,h4,h5⟩,h6,h7,_,h8,h9,h10⟩
noncomputable def ckDe(b:List Stmt):Chk (DeT b):=on1 b fun s=>tg 17 fun h=>PySem.Stmt.Try.elim (motive_2:=fun s=>Chk (DeT [s])) s h fun b hs o f p4=>on1 (P:=fun b=>DeT [.Try b hs o f p4]) b fun s1=>onNil (P:=fun o=>DeT [.Try [s1] hs o f p4]) o (onNil (P:=fun f=>DeT [.Try [s1] hs [] f p4]) f (
 on1 (P:=fun hs=>DeT [.Try [s1] hs [] [] p4]) hs fun h=>PySem.ExceptHandler.casesOn (motive_4:=fun h=>Chk (DeT [.Try [s1] [h] [] [] p4])) h fun ty nm b p3=>onSome (R:=fun ty=>DeT [.Try [s1] [.ExceptHandler ty nm b p3] [] [] p4]) ty fun e=>onNm (Str.ofString "FilterFault") (P:=fun e=>DeT [.Try [s1] [.ExceptHandler (some e) nm b p3] [] [] p4]) e fun np=>
 onNone (R:=fun nm=>DeT [.Try [s1] [.ExceptHandler _ nm b p3] [] [] p4]) nm (on1 (P:=fun b=>DeT [.Try [s1] [.ExceptHandler _ _ b p3] [] [] p4]) b fun r=>onRet (P:=fun r=>DeT [.Try [s1] [.ExceptHandler _ _ [r] p3] [] [] p4]) r fun v p2=>onSome (R:=fun v=>DeT [.Try [s1] [.ExceptHandler _ _ [.Return v p2] p3] [] [] p4]) v fun e=>
 onConst (P:=fun e=>DeT [.Try [s1] [.ExceptHandler _ _ [.Return (some e) p2] p3] [] [] p4]) e fun c kk p1=>tg 0 fun h=>Const.none.elim (motive:=fun c=>Chk (DeT [.Try [s1] [.ExceptHandler _ _ [.Return (some (.Constant c kk p1)) p2] p3] [] [] p4])) c h ((ckS d1 deNames s1).map fun h1 R k=>k _ _ _ _ _ _ _ h1))))
noncomputable def ckRe(b:List Stmt):Chk (ReT b):=on3 b fun s1 s2 s3=>onRet (P:=fun s=>ReT [s1,s2,s]) s3 fun v p4=>onSome (R:=fun v=>ReT [s1,s2,.Return v p4]) v fun e=>onCmp (P:=fun e=>ReT [s1,s2,.Return (some e) p4]) e fun l os rs p3=>on1 (P:=fun os=>ReT [s1,s2,.Return (some (.Compare l os rs p3)) p4]) os fun o=>
 eqD PySem.CmpOp.NotEq (P:=fun o=>ReT [s1,s2,.Return (some (.Compare l [o] rs p3)) p4]) o (on1 (P:=fun rs=>ReT [s1,s2,.Return (some (.Compare l [_] rs p3)) p4]) rs fun z=>onNm (Str.ofString "is_head") (P:=fun z=>ReT [s1,s2,.Return (some (.Compare l [_] [z] p3)) p4]) z fun zp=>
 onCmp (P:=fun l=>ReT [s1,s2,.Return (some (.Compare l [_] [_] p3)) p4]) l fun l os rs p2=>on1 (P:=fun os=>ReT [s1,s2,.Return (some (.Compare (.Compare l os rs p2) [_] [_] p3)) p4]) os fun o=>eqD PySem.CmpOp.Is (P:=fun o=>ReT [s1,s2,.Return (some (.Compare (.Compare l [o] rs p2) [_] [_] p3)) p4]) o (
 on1 (P:=fun rs=>ReT [s1,s2,.Return (some (.Compare (.Compare l [_] rs p2) [_] [_] p3)) p4]) rs fun r=>onConst (P:=fun r=>ReT [s1,s2,.Return (some (.Compare (.Compare l [_] [r] p2) [_] [_] p3)) p4]) r fun c k p1=>tg 0 fun h=>Const.none.elim (motive:=fun c=>Chk (ReT [s1,s2,.Return (some (.Compare (.Compare l [_] [.Constant c k p1] p2) [_] [_] p3)) p4])) c h (
 onCall (P:=fun l=>ReT [s1,s2,.Return (some (.Compare (.Compare l [_] [_] p2) [_] [_] p3)) p4]) l fun f as cp=>onNm (Str.ofString "_law_decoded") (P:=fun f=>ReT [s1,s2,.Return (some (.Compare (.Compare (.Call f as [] cp) [_] [_] p2) [_] [_] p3)) p4]) f fun np=>
 on1 (P:=fun as=>ReT [s1,s2,.Return (some (.Compare (.Compare (.Call _ as [] cp) [_] [_] p2) [_] [_] p3)) p4]) as fun y=>onNm (Str.ofString "bent") (P:=fun y=>ReT [s1,s2,.Return (some (.Compare (.Compare (.Call _ [y] [] cp) [_] [_] p2) [_] [_] p3)) p4]) y fun yp=>
 (ckS (L:=AN) r1 reNames s1).with_ fun h1=>(ckS (L:=AN) r2 reNames s2).with_ fun h2=>((ckEs (L:=AN) (.cons (.loc 0) .nil)).s reNames _).map fun h4 R k=>k _ _ _ _ _ _ _ _ _ _ _ h1 h2 h4)))
noncomputable def ckTkS(ps:Arguments)(sc:Scope)(b:List Stmt):Chk (TkShape ps sc b):=.ifB (ps.posonlyargs.isEmpty&&ps.vararg.isNone&&ps.kwonlyargs.isEmpty&&ps.kwarg.isNone) fun h1=>(ckD (ps.args.map (·.arg)=[Str.ofString "limit"])).with_ fun h2=>(ckD (sc.names=tkNames)).with_ fun h3=>
 .ifB (!sc.isCoroutine) fun h4=>.ifB (!sc.isGenerator) fun h5=>(ckD (sc.kind=.function)).with_ fun h6=>(ckTk sc.names b).map fun h7=>⟨plain_of h1,h2,h3,notT h4,notT h5,h6,h7⟩
noncomputable def ckTr(b:List Stmt):Chk (TrB b):=onCons b fun s1 b=>onCons (P:=fun b=>TrB (s1::b)) b fun s2 b=>on3 (P:=fun b=>TrB (s1::s2::b)) b fun s3 s4 s5=>onAsg (P:=fun s=>TrB [s,s2,s3,s4,s5]) s1 fun t v p5=>onNm (Str.ofString "cells") (P:=fun t=>TrB [.Assign [t] v p5,s2,s3,s4,s5]) t fun p1=>
 onSub (P:=fun v=>TrB [.Assign [_] v p5,s2,s3,s4,s5]) v fun e1 sl p4=>onSlice (P:=fun sl=>TrB [.Assign [_] (.Subscript e1 sl p4) p5,s2,s3,s4,s5]) sl fun a c p3=>onNone (R:=fun a=>TrB [.Assign [_] (.Subscript e1 (.Slice a c none p3) p4) p5,s2,s3,s4,s5]) a (
 onSome (R:=fun c=>TrB [.Assign [_] (.Subscript e1 (.Slice none c none p3) p4) p5,s2,s3,s4,s5]) c fun c=>onInt 63 (P:=fun c=>TrB [.Assign [_] (.Subscript e1 (.Slice none (some c) none p3) p4) p5,s2,s3,s4,s5]) c fun k2 p2=>onRet (P:=fun s=>TrB [_,s2,s3,s4,s]) s5 fun v p6=>onSome (R:=fun v=>TrB [_,s2,s3,s4,.Return v p6]) v fun e5=>
 tg 0 fun h=>PySem.Stmt.FunctionDef.elim (motive_2:=fun s=>Chk (TrB [_,s2,s3,s,.Return (some e5) p6])) s4 h fun nm ps tb ds re tp sc ts nm2 pos=>onSt (Str.ofString "take") (P:=fun nm=>TrB [_,s2,s3,.FunctionDef nm ps tb ds re tp sc ts nm2 pos,.Return (some e5) p6]) nm (
 onSt (Str.ofString "take") (P:=fun nm2=>TrB [_,s2,s3,.FunctionDef _ ps tb ds re tp sc ts nm2 pos,.Return (some e5) p6]) nm2 (onNil (P:=fun ds=>TrB [_,s2,s3,.FunctionDef _ ps tb ds re tp sc ts _ pos,.Return (some e5) p6]) ds (onNil (P:=fun tp=>TrB [_,s2,s3,.FunctionDef _ ps tb [] re tp sc ts _ pos,.Return (some e5) p6]) tp (
 onNone (R:=fun re=>TrB [_,s2,s3,.FunctionDef _ ps tb [] re [] sc ts _ pos,.Return (some e5) p6]) re (onNone (R:=fun ts=>TrB [_,s2,s3,.FunctionDef _ ps tb [] none [] sc ts _ pos,.Return (some e5) p6]) ts (
 (ck (L:=AN) (.loc 0) trNames false e1).with_ fun h1=>(ckS (L:=AN) q2 trNames s2).with_ fun h2=>(ckS (L:=AN) q3 trNames s3).with_ fun h3=>(ckTkS ps sc tb).with_ fun h4=>.ifB ps.defaults.isEmpty fun h5=>.ifB ps.kw_defaults.isEmpty fun h6=>.ifB (ps.args.all fun a=>a.annotation.isNone) fun h7=>
  (ck (L:=AN) (.loc 1) trNames false e5).map fun h8 R k=>k _ _ _ _ _ _ _ _ _ _ _ _ _ _ _ h1 h2 h3 ⟨h4,List.isEmpty_iff.mp h5,List.isEmpty_iff.mp h6,h7⟩ h8)))))))
noncomputable def ckLw(b:List Stmt):Chk (LwT b):=onCons b fun s rest=>onAsg (P:=fun s=>LwT (s::rest)) s fun t v p2=>onNm (Str.ofString "take") (P:=fun t=>LwT (.Assign [t] v p2::rest)) t fun xp=>onCall (P:=fun v=>LwT (.Assign [_] v p2::rest)) v fun f l cp=>onNm (Str.ofString "_law_taker") (P:=fun f=>LwT (.Assign [_] (.Call f l [] cp) p2::rest)) f fun yp=>
 on1 (P:=fun l=>LwT (.Assign [_] (.Call _ l [] cp) p2::rest)) l fun z=>onNm (Str.ofString "script") (P:=fun z=>LwT (.Assign [_] (.Call _ [z] [] cp) p2::rest)) z fun zp=>((ckEs (L:=AN) (.cons (.loc 0) .nil)).s lwNames _).with_ fun h1=>(ckSs (L:=AL) (tailS 1 t_law) lwNames rest).map fun h2 R k=>k _ _ _ _ _ _ h1 h2
noncomputable def ckT(ns:Ns){p:List Stmt→Prop}(k:∀b,Chk (p b))(ms:Ns)(b:List Stmt):Chk (ms=ns∧p b):=(ckD (ms=ns)).with_ fun h=>(k b).map fun q=>⟨h,q⟩
end
noncomputable section
noncomputable def NmB(h:Heap)(x:String):Prop:=Nm h x∧fnIn (frag lookAs h) (nmA h x)=true∧keepIn (frag lookAs h) (.ref (nmA h x))=true
noncomputable def TkrB(h:Heap):Prop:=∃c P,(∃F,TkrO (TBs h) (nmA h "_law_taker") c (qTof h) F)∧CodeHd h c P∧h.get? P=some (tabObj #[])∧h.BuiltinsAt (h.nsMap mainGlobals) P∧(frag lookAs h).lookup P=none∧sysModules≠P
noncomputable def tokOf(o:Option Value):Tok:=match o with |some (.int _ t)=>t |_=>0
structure Hk(h:Heap):Prop where
 n1:h.isNs mainGlobals=true
 n2:h.isNs builtinsNs=true
 n3:(h.get? sysModules).isSome=true
 n4:h.noLimitOk=true
 gi:∀p∈allGi,h.nsMap mainGlobals (Str.ofString p.1)=some (.int p.2 (tokOf (h.nsMap mainGlobals (Str.ofString p.1))))
 defs:∀x∈allDefs,NmB h x
 cls:∀x∈allCls,Nm h x
 ff:Nm h "FilterFault"
 lw:Nm h "law"
 bi:∀p∈biTab,h.nsMap mainGlobals (Str.ofString p.1)=none∧h.nsMap builtinsNs (Str.ofString p.1)=some p.2
 tf:∀prog w,TF (WDs prog w h) (TBs h)
 XO:ExcOk (TBs h)
 fn:∀r∈tab,∃f,(TBs h).fa r.g=some f∧FnAt (TBs h) f r.nn r.np r.cs r.us fun ns b=>TSs AL ns r.b b
 law:LawAt (TBs h) (nmA h "law")
 dec:DecAt (TBs h) (nmA h "_law_decoded")
 ref:RefAt (TBs h) (nmA h "_law_is_refused")
 tkr:TkrB h
noncomputable def ckFa(T:Tabs)(r:Row):Chk (∃f,T.fa r.g=some f∧FnAt T f r.nn r.np r.cs r.us fun ns b=>TSs AL ns r.b b):=
 Option.casesOn (motive:=fun x=>T.fa r.g=x→Chk (∃f,T.fa r.g=some f∧FnAt T f r.nn r.np r.cs r.us fun ns b=>TSs AL ns r.b b)) (T.fa r.g) (fun _=>.no) (fun f e=>(ckFn T f r.nn r.np r.cs r.us fun ns b=>ckSs r.b ns b).map fun h=>⟨f,e,h⟩) rfl
noncomputable def ckBm(h:Heap)(P:Addr):Chk (h.BuiltinsAt (h.nsMap mainGlobals) P):=Option.casesOn (motive:=fun x=>h.nsMap mainGlobals "__builtins__"=x→Chk (h.BuiltinsAt (h.nsMap mainGlobals) P)) (h.nsMap mainGlobals "__builtins__") (fun _=>.no) (fun v e=>onRefV (Q:=fun v=>h.nsMap mainGlobals "__builtins__"=some v) v e fun bm e=>
 Option.casesOn (motive:=fun x=>h.get? bm=x→Chk (h.BuiltinsAt (h.nsMap mainGlobals) P)) (h.get? bm) (fun _=>.no) (fun o e2=>(ckD (bm≠builtinsNs)).with_ fun h1=>(ckD (bm≠mainGlobals)).with_ fun h2=>(ckD (bm≠P)).with_ fun h3=>(ckD (o.cls=.type "module")).with_ fun h4=>(ckD (o.dict=some builtinsNs)).with_ fun h5=>
  Data.casesOn (motive:=fun d=>o.data=d→Chk (h.BuiltinsAt (h.nsMap mainGlobals) P)) o.data (fun h6=>.yes ⟨bm,o,e,h1,h2,h3,e2,h4,h5,h6⟩) (fun _ _=>.no) (fun _ _ _=>.no) (fun _ _ _=>.no) (fun _ _ _ _=>.no) (fun _ _ _=>.no) (fun _ _=>.no) (fun _ _=>.no) (fun _ _=>.no) (fun _ _=>.no) (fun _=>.no) rfl) rfl) rfl
noncomputable def onStrV{Q:Value→Prop}{P:Prop}(v:Value)(h:Q v)(k:∀a t,Q (.str a t)→Chk P):Chk P:=tg 6 (a:=v.ctorIdx) fun e=>Value.str.elim (motive:=fun v=>Q v→Chk P) v e k h
noncomputable def onIntV{Q:Value→Prop}{P:Prop}(v:Value)(h:Q v)(k:∀a t,Q (.int a t)→Chk P):Chk P:=tg 4 (a:=v.ctorIdx) fun e=>Value.int.elim (motive:=fun v=>Q v→Chk P) v e k h
noncomputable def onBoolV{Q:Value→Prop}{P:Prop}(v:Value)(h:Q v)(k:∀a,Q (.bool a)→Chk P):Chk P:=tg 3 (a:=v.ctorIdx) fun e=>Value.bool.elim (motive:=fun v=>Q v→Chk P) v e k h
noncomputable def ckHd{P:Prop}(h:Heap)(c:Addr)(k:∀A,CodeHd h c A→Chk P):Chk P:=Option.casesOn (motive:=fun x=>h.get? c=x→Chk P) (h.get? c) (fun _=>.no) (fun o e=>(ckD (o.cls=.type "code")).with_ fun h1=>onFields (Q:=fun d=>o.data=d) o.data rfl fun vs h2=>onRefV (Q:=fun v=>vs.getD 11 .none=v) (vs.getD 11 .none) rfl fun A h3=>
 (ckD (vs[11]?=some (.ref A))).with_ fun h4=>onStrV (Q:=fun v=>vs.getD 18 .none=v) (vs.getD 18 .none) rfl fun _ _ h5=>onIntV (Q:=fun v=>vs.getD 7 .none=v) (vs.getD 7 .none) rfl fun _ _ h6=>onBoolV (Q:=fun v=>vs.getD 9 .none=v) (vs.getD 9 .none) rfl fun _ h7=>onIntV (Q:=fun v=>vs.getD 10 .none=v) (vs.getD 10 .none) rfl fun _ _ h8=>
  (ckD (c≠A)).with_ fun h9=>k A ⟨o,vs,_,_,_,_,_,_,_,e,h1,h2,h4,h3,h5,h6,h7,h8,h9⟩) rfl
theorem tabObj_of{h:Heap}{P:Addr}{o:Obj}{vs:Array Value}(e:h.get? P=some o)(h1:o.cls=.none)(h2:o.dict=none)(h3:o.data=.fields vs)(h4:vs = #[])(h5:o.slots = #[]):h.get? P=some (tabObj #[]):=by
 rw [e];cases o;subst h1 h2 h3 h4 h5;rfl
noncomputable def ckTab(h:Heap)(P:Addr):Chk (h.get? P=some (tabObj #[])):=Option.casesOn (motive:=fun x=>h.get? P=x→Chk (h.get? P=some (tabObj #[]))) (h.get? P) (fun _=>.no) (fun o e=>(ckD (o.cls=.none)).with_ fun h1=>(ckD (o.dict=none)).with_ fun h2=>onFields (Q:=fun d=>o.data=d) o.data rfl fun vs h3=>(ckD (vs = #[])).with_ fun h4=>(ckD (o.slots = #[])).map fun h5=>tabObj_of e h1 h2 h3 h4 h5) rfl
noncomputable def ckTkr(h:Heap):Chk (TkrB h):=ckF (TBs h).K (nmA h "_law_taker") fun F=>(ckDef F.scope.names 1 [3,2] F.params).with_ fun D=>(ckDf F 1 [3,2] [] D).with_ fun d=>(ckD (F.scope.names=trNames)).with_ fun n=>(ckTr F.body).with_ fun b=>onRefV (Q:=fun v=>F.cdv=v) F.cdv rfl fun c hc=>ckHd h c fun P h1=>(ckTab h P).with_ fun h2=>(ckBm h P).with_ fun h3=>.ifB ((frag lookAs h).lookup P).isNone fun h4=>(ckD (sysModules≠P)).map fun h5=>
 ⟨c,P,⟨F,hc,D,n,d,b,congrArg (·++ ".<locals>."++Str.ofString "take") (qual_of F).symm⟩,h1,h2,h3,Option.isNone_iff_eq_none.mp h4,h5⟩
noncomputable def ckHk(h:Heap):Chk (Hk h):=.ifB _ fun n1=>.ifB _ fun n2=>.ifB _ fun n3=>.ifB _ fun n4=>(ckAll (fun p:String×Int=>ckD (h.nsMap mainGlobals (Str.ofString p.1)=some (.int p.2 (tokOf (h.nsMap mainGlobals (Str.ofString p.1)))))) allGi).with_ fun gi=>
 (ckAll (fun x:String=>(ckD (Nm h x)).with_ fun h1=>.ifB (fnIn (frag lookAs h) (nmA h x)) fun h2=>.ifB (keepIn (frag lookAs h) (.ref (nmA h x))) fun h3=>(.yes ⟨h1,h2,h3⟩:Chk (NmB h x))) allDefs).with_ fun defs=>(ckAll (fun x:String=>ckD (Nm h x)) allCls).with_ fun cls=>(ckD (Nm h "FilterFault")).with_ fun ff=>(ckD (Nm h "law")).with_ fun lw=>
 (ckAll (fun p:String×Value=>ckD (h.nsMap mainGlobals (Str.ofString p.1)=none∧h.nsMap builtinsNs (Str.ofString p.1)=some p.2)) biTab).with_ fun bi=>(ckTF h).with_ fun tf=>(ckExc (TBs h)).with_ fun XO=>(ckAll (ckFa (TBs h)) tab).with_ fun fn=>
 (ckFn (TBs h) (nmA h "law") 25 1 [7,5,4,2,1] [] (ckT lwNames ckLw)).with_ fun law=>(ckFn (TBs h) (nmA h "_law_decoded") 3 1 [] [] (ckT deNames ckDe)).with_ fun dec=>(ckFn (TBs h) (nmA h "_law_is_refused") 4 1 [] [] (ckT reNames ckRe)).with_ fun ref=>
 (ckTkr h).map fun tkr=>⟨n1,n2,n3,n4,gi,defs,cls,ff,lw,bi,tf,XO,fn,law,dec,ref,tkr⟩
end
end Mine
end
section
open PySem PySem.W PyProof.Rows PySem.Calls PySem.Spec
set_option genInjectivity false
set_option genSizeOf false
set_option genCtorIdx false
set_option bootstrap.genMatcherCode false
namespace Mine
section
theorem fn_in{K:Frag}{f:Addr}(h:fnIn K f=true):∃o fd,K.lookup f=some o∧o.data=.func fd:=by
 unfold fnIn at h
 split at h
 ·rename_i oc od fd sl q
  exact ⟨_,fd,q,rfl⟩
 ·exact nomatch h
theorem not_tab{h:Heap}{P b:Addr}{o:Obj}(hP:h.get? P=some (tabObj #[]))(e:h.get? b=some o){x:String}(n:o.cls=.type x):b≠P:=fun q=>by
 subst q
 obtain rfl:=sI (hP.symm.trans e)
 exact nomatch n
section
variable {hb:Heap}(X:Hk hb)
include X
omit X in
theorem fa_def{g:String}(hg:g∈allDefs):(TBs hb).fa g=some (nmA hb g):=fa_look (List.mem_append_left _ (List.mem_map.mpr ⟨g,hg,rfl⟩))
theorem reads_of(prog:Program)(w:World):LReads (WDs prog w hb) (TBs hb) (qTof hb):=⟨⟨X.fn,fun _ h=>h,fun _ h=>h,X.XO,fun g hg=>⟨nmA hb g,List.mem_map.mpr ⟨g,hg,rfl⟩,(X.defs g hg).2.2⟩⟩,
 fun f hf=>sI ((fa_def (by decide)).symm.trans hf)▸X.dec,fun f hf=>sI ((fa_def (by decide)).symm.trans hf)▸X.ref,fun _ _ _ _=>Iff.rfl,fun _=>Iff.rfl⟩
theorem gf_of(prog:Program)(w:World){h:Heap}{P:Addr}(keep:∀b o,b≠P→hb.get? b=some o→(hideAll h [P]).get? b=some o)(hPK:(frag lookAs hb).lookup P=none)(hPS:sysModules≠P)(nsk:∀a m,hb.Ns a m→(hideAll h [P]).Ns a m):GF (WDs prog w hb) (TBs hb) (hideAll h [P]):=
 have inK:(frag lookAs hb).In (hideAll h [P]):=fun a o e=>keep _ _ (fun q=>noS (hPK.symm.trans (q▸e))) (frag_in _ _ _ _ e)
 ⟨(Heap.NoLimit.of_ok X.n4).imp fun mc a=>⟨nsk _ _ a.1,a.2⟩,(Option.isSome_iff_exists.mp X.n3).imp fun o e=>keep _ _ hPS e,inK,⟨hb.nsMap mainGlobals,hb.nsMap builtinsNs,nsk _ _ (.of_isNs X.n1),nsk _ _ (.of_isNs X.n2),fun x i hx=>⟨_,X.gi _ hx⟩,fun x a hx=>by
  obtain ⟨y,hy,e⟩:=List.mem_map.mp hx
  exact (Prod.mk.inj e).1▸(Prod.mk.inj e).2▸(X.defs y hy).1,fun x hx=>X.cls _ hx,X.ff,fun x v hx=>X.bi _ hx⟩,fun x a hx=>by
  obtain ⟨y,hy,e⟩:=List.mem_map.mp hx
  exact (fn_in (X.defs y hy).2.1).elim fun o z=>z.elim fun fd z=>⟨o,fd,(Prod.mk.inj e).2▸inK _ _ z.1,z.2⟩⟩
theorem law_walk(prog:Program)(w:World){s:Shared}(hk:∀b o,hb.get? b=some o→s.heap.get? b=some o){items:Array Value}{ns:List Int}{s0:Nat}(hl:s.heap.IsList s0 items)(hi:IntsAre items.toList ns)(hz:items.size≤16777216) :
  ∃P c,CodeHd s.heap c P∧s.heap.get? P=some (tabObj #[])∧codeC (model prog w) callerA (.call (.ref (nmA hb "law")) ⟨[.ref s0],[]⟩) (fun res s'=>res=.ok (.ret (.bool true))∧s'.os=s.os∧s'.gens=s.gens∧(∀b o,(hideAll s.heap [P]).get? b=some o→s'.heap.get? b=some o)∧∃pv,s'.heap.get? P=some (tabObj pv)) s:=by
 obtain ⟨c,P,⟨F,Tk⟩,hc,hP,hbm,hPK,hPS⟩:=X.tkr
 have hPs:=hk _ _ hP
 have keep:∀b o,b≠P→hb.get? b=some o→(hideAll s.heap [P]).get? b=some o:=fun b o hne e=>hideAll_get _ (hk _ _ e) fun q=>hne (List.mem_singleton.mp q)
 have nsk:∀a m,hb.Ns a m→(hideAll s.heap [P]).Ns a m:=fun a m=>Exists.imp fun o=>Exists.imp fun es=>Exists.imp fun ep z=>⟨keep _ _ (fun q=>nomatch (congrArg Obj.data (sI (hP.symm.trans (q▸z.1)))).trans z.2.1) z.1,z.2⟩
 exact ⟨P,c,hc.keeps hk,hPs,law_enter (reads_of X prog w) Tk (fa_def (by decide)) X.law (gf_of X prog w keep hPK hPS nsk) (X.tf prog w) ⟨hc.imp fun o=>Exists.imp fun vs=>Exists.imp fun _=>Exists.imp fun _=>Exists.imp fun _=>Exists.imp fun _=>Exists.imp fun _=>Exists.imp fun _=>Exists.imp fun _ z=>⟨keep _ _ (not_tab hP z.1 z.2.1) z.1,z.2⟩,nsk _ _ (.of_isNs X.n1),hbm.imp fun bm=>Exists.imp fun ob z=>⟨z.1,z.2.1,z.2.2.1,z.2.2.2.1,keep _ _ z.2.2.2.1 z.2.2.2.2.1,z.2.2.2.2.2⟩⟩
  (hl.imp fun o z=>⟨hideAll_get _ z.1 fun q=>not_tab hPs z.1 z.2.1 (List.mem_singleton.mp q),z.2⟩) hi hz hPs⟩
end
end
end Mine
end
section
open PySem PySem.W PyProof.Rows PySem.Calls PySem.Spec
set_option maxHeartbeats 4000000
namespace Mine
theorem caller_clean:InC ⟨.builtin "claim.caller" {},none,none,[],none⟩ callerA:=⟨caller_in,rfl,fun x hx=>by cases hx⟩
theorem thread_C{prog:Program}{w:World}{t:Sem Fin}{s:Shared}{R:Result→Shared→Prop}(hreg:s.asleep)
  (h:wpC (model prog w) callerA t (fun fin s'=>∃f,fin=.done f∧(R (.ok f) s'∧leftWithCleanup s'.gens=false)) (fun e s'=>R (.error e) s'∧leftWithCleanup s'.gens=false) s) :
  ∃n r s' s'',PySem.runN (denote table) prog w n s ⟨t,.builtin "claim.caller" {},default,[]⟩=.halted (outcomeOf r) s'∧
   schedN (denote table) prog w n (.single s ⟨t,.builtin "claim.caller" {},default,[]⟩)=.halted (outcomeOf r) s'∧s'.forget=s''.forget∧R r s'':=by
 refine Classical.byContradiction fun no=>?_
 obtain ⟨n,r,s₁,s₂,hs,hn,hfo,hR⟩:=wp_halts_full (M:=model prog w) (R:=R) (c:=.builtin "claim.caller" {}) (t:=t) (p:=default) hreg (by
  refine Sem.wp_mono _ _ t (fun fin p' s' h'=>?_) (fun _ _ _ h'=>h') default s (h _ default caller_clean)
  obtain ⟨f,rfl,hf⟩:=h'
  exact hf)
 refine no ?_
 exact ⟨n,r,s₂,s₁,hn,hs,hfo,hR⟩
theorem call_C{c:ClaimW}{tree:List Value→Sem Fin}{w:World}{s:Shared}{free:Addr→Prop}{gens:Prop}{kept:Heap→Prop}(hz:s.asleep)(hgens:s.gens = #[])
  (hspec:∀args,c.pre args=true→WData.layableAll args=true→∀ord:List DictEntry→List DictEntry,(∀l,(ord l).Perm l)→
   ∃vs s₁,layAllW c.records (classAt s.heap) w.params ord args s=some (vs,s₁)∧
    wpC (model c.prog w) callerA (tree vs) (fun fin s'=>∃f,fin=.done f∧(c.Ends s args vs s₁ (.ok f) s'∧s'.os=s.os∧AllBare s'.gens∧kept s'.heap))
     (fun e s'=>c.Ends s args vs s₁ (.error e) s'∧s'.os=s.os∧AllBare s'.gens∧kept s'.heap) s₁) :
  c.CallFrom (fun vs=>⟨tree vs,.builtin "claim.caller" {},default,[]⟩) w free gens kept s:=by
 intro args hpre hlay ord hord
 refine Classical.byContradiction fun no=>?_
 obtain ⟨vs,s₁,hlaid,hcode⟩:=hspec args hpre hlay ord hord
 obtain hal:=layAllW_rest _ _ _ hlaid
 obtain ⟨k,r,s',s'',hrun,hsched,hfo,hcase,hos,hkp⟩:=thread_C (prog:=c.prog) (w:=w) (t:=tree vs) (s:=s₁)
  (R:=fun r s'=>c.Ends s args vs s₁ r s'∧s'.os=s.os∧kept s'.heap) (Shared.asleep_of_life hal.2.2.2 hz)
  (cmono hcode (fun fin s' ⟨f,e,h1,h2,h3,h4⟩=>⟨f,e,⟨h1,h2,h4⟩,leftWithCleanup_false_of_bare h3⟩) fun e s' ⟨h1,h2,h3,h4⟩=>⟨⟨h1,h2,h4⟩,leftWithCleanup_false_of_bare h3⟩)
 obtain ⟨eh,_,_,eo,_⟩:=Shared.forget_eq hfo
 obtain hcase:=hcase.congr eh
 obtain hkp':kept s'.heap:=eh▸hkp
 refine no ?_
 rw [←eo]at hos
 obtain hlife:s'.heap.life=s.heap.life:=(runN_life _ _ _ hrun).trans hal.2.2.2
 refine ⟨vs,s₁,hlaid,k,_,s',hsched,?_,(fun _ i x hx=>by rw [hgens]at hx;simp at hx),hkp',by rw [hlife],Shared.rest_eq hos⟩
 rcases hcase with ⟨v,rfl,d1,d2,d3,d4,d5⟩ | ⟨e,ob,cls,rfl,d1,d2,d3,d4,d5⟩
 ·exact .inl ⟨v,rfl,d1,d2,d3,fun b o y _=>d4 b o y,d5⟩
 ·exact .inr ⟨e,ob,cls,rfl,d1,d2,d3,d4,fun b o y _=>d5 b o y⟩
noncomputable abbrev WalkC(q:Program)(loose:List Str)(XP:(SM)→Heap→Prop)(YP:World→Heap→Prop)(r:RowW)(d:DefRec)(kwd:List (Str×Expr))(run:Value→List Value→Sem Value):Prop:=
 ∀(w:World) (s₀ s₁:Shared) (mg mb:SM),Ground q loose r.records XP w s₀ mg mb s₁.heap→YP w s₁.heap→∀(a:Addr) (o:Obj) (pm cd doc dV kV:Value),s₁.heap.get? a=some o→
  o.data=.func {docDef d.name d.params d.body d.scope pm cd doc with defaults:=dV,kwdefaults:=kV}→s₁.heap.CodeRec cd d.name→Dflts mg s₁.heap d.params kwd dV kV→mg d.name=some (.ref a)→s₁.gens = #[]→
  ∀(args:List WData) (vals:List Value) (as:List Addr),r.claim.pre args=true→WData.layableAll args=true→ReadsAllW r.records (classAt s₀.heap) s₁.heap vals args as→WellAll w.params s₁.heap vals args→(∀a∈as,(a == sysModules)=false)→
   wpC (model r.prog w) callerA (run (.ref a) vals) (fun v s'=>GoodWG r.claim (classAt s₀.heap) (ExcName.means s₀.heap) args s₁ (.ok (.ret v)) s')
    (fun e s'=>GoodWG r.claim (classAt s₀.heap) (ExcName.means s₀.heap) args s₁ (.error e) s') s₁
theorem PySem.W.holds_open{r:OpenRow}{q:Program}{loose:List Str}{Xt:Shared→Bool}{XP:(SM)→Heap→Prop}{α:Type}{Yf:Shared→α}{Ya:World→α}{YP:World→Heap→Prop}{d:DefRec}{kwd:List (Str×Expr)}{N:Nat}
  (left:LeftO r.prog q loose Xt Yf Ya N)(hY:∀w s,Yf s=Ya w→YP w s.heap)(hYk:∀w h h',YP w h→(∀b o,h.get? b=some o→h'.get? b=some o)→YP w h')
  (hX:∀s,Xt s=true→XP (s.heap.nsMap mainGlobals) s.heap)(hXk:∀mg h h',XP mg h→(∀b o,h.get? b=some o→h'.get? b=some o)→XP mg h')
  (hdef:defOf q r.name=some (d,kwd))(hp:r.prog.theDef r.name=some (d.params,d.body,d.scope))(hk:kwWritten? d.params.kwonlyargs d.params.kw_defaults=some kwd)(hRf:∀s,Xt s=true→RecFacts r.records s.heap)(hwr:(!r.writes||r.records.isEmpty)=true)
  (k1:r.wellSaid=true)(ok:(chainsOk q&&opensWell r.prog&&(frees r.toRowW&&r.within.isEmpty))=true)(hb:r.prog.bare)(hw:r.toRowW.promised)
  (call:WalkC q loose XP YP r.toRowW d kwd fun f vs=>PySem.call f vs):r.Holds:=by
 refine ⟨k1,hw,?_⟩
 refine Classical.byContradiction fun no=>?_
 obtain ⟨ok,k5⟩:=Bool.and_eq_true_iff.mp ok
 obtain ⟨hch,o1⟩:=Bool.and_eq_true_iff.mp ok
 obtain ⟨k5,k6⟩:=Bool.and_eq_true_iff.mp k5
 obtain ⟨hsame,hu,ha,hap,hm⟩:=frees_parts k5
 refine no ?_
 refine ⟨⟨hb,o1,by show r.makers.map _=[];rw [hm];rfl⟩,hw.witness,fun w=>⟨(left.behind hX hch w).1,fun s' hs'=>?_⟩⟩
 refine Classical.byContradiction fun no=>?_
 obtain ⟨s₀,hf,hg0,s,hT,hz,hgens,hg,G00,y⟩:=(left.behind (XP:=fun mg h=>XP mg h∧RecFacts r.records h) (fun s hs=>⟨hX s hs,hRf s hs⟩) hch w).2 s' hs'
 have G0:Ground q loose [] XP w s (s.heap.nsMap mainGlobals) (s.heap.nsMap builtinsNs) s.heap:=⟨G00.T,G00.B,G00.D,G00.TE,G00.TD,G00.W,G00.X.1,G00.cls,G00.has,G00.apart,G00.once,G00.K⟩
 have RF:=G00.X.2
 have hT':=hT
 obtain pin:∀n∈(if r.name == ("law":Str) then [r.name] else [r.name]),True:=fun _ _=>trivial
 refine no ?_
 refine ⟨s₀,hf,hg0,s,hT,(fun n hn=>?_),RF.1,RF.2.1,?_⟩
 ·obtain rfl:n=r.name:=by split at hn <;> simp_all
  exact pinned_of_view hg G0 hdef hp hk
 have hgens:s.gens = #[]:=Array.eq_empty_of_size_eq_zero (beq_iff_eq.mp hgens)
 have G:Ground q loose r.records XP w s _ _ s.heap:=RF.ground G0
 refine call_C (c:=r.toRowW.claim) hz hgens fun args hpre hlay ord hord=>?_
 refine Classical.byContradiction fun no=>?_
 obtain ⟨⟨vs,s₁⟩,hlaid⟩:=Option.isSome_iff_exists.mp (layAllW_isSome (P:=w.params) (ord:=ord) G.has args r.args s (pre_splitW hpre).1)
 have keeps:=layAllW_keeps _ _ _ hlaid
 obtain hal:=layAllW_rest _ _ _ hlaid
 obtain ⟨as,hrd,hin,hold⟩:=reads_layAllW hord _ _ _ hlaid hlay s₁.heap (fun _ _ e=>e)
 have L:Laid r.records w s s₁ args vs as:=⟨⟨ord,hord,hlaid⟩,hrd,hin,hold,keeps,hal.1.trans hgens,hal.2.2.1⟩
 obtain G₁:=G.keeps hXk keeps
 obtain ⟨a,o,pm,cd,doc,dV,kV,h1,h2,h3,h4,h5⟩:=G₁.fn hdef
 obtain h:=call w s s₁ _ _ G₁ (hYk _ _ _ (hY w s y) keeps) a o pm cd doc dV kV h2 h3 h4 h5 (defOf_name hdef▸h1) L.gens args vs as hpre hlay L.reads L.well (L.low G.low)
 obtain hi:=ident_freeW hu ha hap
 obtain hwi:r.toRowW.claim.within=[]:=List.isEmpty_iff.mp k6
 refine no ?_
 refine ⟨vs,s₁,hlaid,?_⟩
 refine cbindOf (wpAny_nsGet G₁.T.g ?_)
 rw [h1]
 refine cbind (cmono h (fun v s' g=>cpure ?_) fun e s' g=>?_)
 ·exact ⟨_,rfl,have z:=g.laid (c:=r.toRowW.claim) hsame hwi hi L;⟨z.1,z.2.1,z.2.2,fun q=>⟨namesKept_of hT' hg _ keeps g.2.1.old,noTable hwr q⟩⟩⟩
 ·exact have z:=g.laid (c:=r.toRowW.claim) hsame hwi hi L;⟨z.1,z.2.1,z.2.2,fun q=>⟨namesKept_of hT' hg _ keeps g.2.1.old,noTable hwr q⟩⟩
noncomputable def hook:Hook:=⟨Bool,fun s=>(ckHk s.heap).ok,fun _=>true,fun _ h=>∃hb,Hk hb∧∀b o,hb.get? b=some o→h.get? b=some o,fun _ s e=>⟨s.heap,(ckHk s.heap).get e,fun _ _ z=>z⟩,fun _ h h' ⟨hb,e,k⟩ k'=>⟨hb,e,fun b o z=>k' b o (k b o z)⟩⟩
theorem ns_same{h:Heap}{a:Addr}{m m':SM}(x:h.Ns a m)(y:h.Ns a m')(n:Str):m n=m' n:=by
 obtain ⟨o,es,ep,e,hd,_,hf⟩:=x
 obtain ⟨o',es',ep',e',hd',_,hf'⟩:=y
 rw [e]at e';cases e'
 rw [hd]at hd';cases hd'
 rw [←hf,←hf']
theorem walk(q:Program)(loose:List Str)(XP:(SM)→Heap→Prop)(d:DefRec)(kwd:List (Str×Expr))(h:d.name="law"):WalkC q loose XP hook.says PySem.Challenge.rw_nn0168_01.row.toRowW d kwd fun f vs=>PySem.call f vs:=by
 intro w s₀ s₁ mg mb G hsays a o pm cd doc dV kV ho hd hcr hdf hmg hgens args vals as hpre hlay hrd hwell hlo
 wrow_args hpre hlay hrd hwell hlo
 rename_i ns hs1 hlay0 hL1 hr1 hl2 as1 as2 s0 vs as3 hL ra w1 r0 hI hr hc1 hc2
 obtain ⟨hb,X,hk⟩:=hsays
 obtain ha:a=nmA hb "law":=by
  obtain e1:=ns_same G.T.g ((Heap.Ns.of_isNs X.n1).keeps hk) (Str.ofString "law")
  rw [X.lw,←h,hmg]at e1
  injection e1 with e1;injection e1
 subst ha
 obtain hlen:=hI.length
 obtain ⟨P,c,hcd,hP,hcode⟩:=law_walk X PySem.Challenge.rw_nn0168_01.row.prog w hk (s:=s₁) (items:=vs.toArray) hL (hI) (by simp;omega)
 refine ccall (codeC_mono hcode fun res s' ⟨e,hos,hge,hkeep,pv,hP'⟩=>?_)
 subst e
 obtain keep:∀b o,b≠P→s₁.heap.get? b=some o→s'.heap.get? b=some o:=fun b o hne e=>hkeep b o (hideAll_get _ e (by simpa using hne))
 refine ⟨.inl ⟨.bool true,.bool true,[],rfl,fun cls=>rfl,?_,?_,fun _=>⟨List.nodup_nil,fun a ha=>by cases ha⟩⟩,⟨fun b o e=>?_,fun b o e=>?_⟩,hos,.of_eq (hge.trans hgens)⟩
 ·exact .bool true
 ·exact postW_of (r:=PySem.Challenge.rw_nn0168_01.row.toRowW) (X:=true) rfl (w_eq_bool (k:=true) (l:=true) (w_res rfl) w_lit) rfl
 ·by_cases q:b=P
  ·subst q
   rw [hP]at e;cases e
   exact .inr (.inl ⟨(hcd.tab hP).isCodeTable,rfl,#[],pv,rfl,by rw [Array.empty_append];exact hP'⟩)
  ·exact .inl (keep b o q e)
 ·by_cases q:b=P
  ·subst q;exact ⟨_,hP'⟩
  ·exact ⟨o,keep b o q e⟩
end Mine
end
section
open PySem PySem.W PyProof.Rows
set_option maxHeartbeats 8000000
namespace Mine
section
namespace head
theorem tw16894197260953374720:True:=trivial
theorem tw16072502192527678464:True:=trivial
theorem tw7732209734871044160:True:=trivial
theorem tw15898109809663626304:True:=trivial
theorem tw9234455393454914656:True:=trivial
theorem tw17972497016974392416:True:=trivial
theorem tw2554682012703037696:True:=trivial
theorem tw1985537357303476512:True:=trivial
theorem tw4473611206160876864:True:=trivial
theorem tw11628534518673281344:True:=trivial
theorem tw5944575059761466720:True:=trivial
theorem tw13294958713779813728:True:=trivial
theorem tw15037083628117588352:True:=trivial
theorem tw7450023128482652576:True:=trivial
theorem tw14086173767186703872:True:=trivial
theorem tw6202090305015876224:True:=trivial
theorem tw6232644224018631296:True:=trivial
theorem tw16172288393029767808:True:=trivial
theorem tw9074772780463953568:True:=trivial
theorem tw2096541523181747872:True:=trivial
theorem tw2428695696106030784:True:=trivial
theorem tw4357005996527412928:True:=trivial
theorem tw9380374249521086144:True:=trivial
theorem tw290710125855613696:True:=trivial
theorem tw12460202669355646752:True:=trivial
theorem tw5467695095851852608:True:=trivial
theorem tw3496171461512900480:True:=trivial
theorem tw7417405269818204032:True:=trivial
theorem tw10242447542790323104:True:=trivial
theorem tw18332285231265401824:True:=trivial
theorem tw1992862871153497056:True:=trivial
theorem tw17525636777796739105:True:=trivial
theorem tw14527164170590304321:True:=trivial
theorem tw16470739840699324481:True:=trivial
theorem tw3615648651819825313:True:=trivial
theorem tw9388430590476628193:True:=trivial
theorem tw4160124254940468481:True:=trivial
theorem tw4764554697811233:True:=trivial
theorem tw16545597347906280737:True:=trivial
theorem tw10258521583956687137:True:=trivial
theorem tw10356212845559719233:True:=trivial
theorem tw1929634836878124385:True:=trivial
theorem tw5792407227767346561:True:=trivial
theorem tw12998212659555988865:True:=trivial
theorem tw6240353410654795137:True:=trivial
theorem tw3690969761935527329:True:=trivial
theorem tw5865467396996320769:True:=trivial
theorem tw3088210815446039105:True:=trivial
theorem tw3500380475922496097:True:=trivial
theorem tw1499353310998574721:True:=trivial
theorem tw15064752311394979489:True:=trivial
theorem tw12727220549172885185:True:=trivial
theorem tw4419558321834357505:True:=trivial
theorem tw9062998866958442273:True:=trivial
theorem tw7277520189549225825:True:=trivial
theorem tw7161073391023584161:True:=trivial
theorem tw3270352941656771521:True:=trivial
theorem tw9743709737119245314:True:=trivial
theorem tw6588589085864783938:True:=trivial
theorem tw8402328212356670530:True:=trivial
theorem tw2525317073905713282:True:=trivial
theorem tw14676189674455941282:True:=trivial
theorem tw4965378191221513410:True:=trivial
theorem tw11692735721529064706:True:=trivial
theorem tw3696042808614700290:True:=trivial
theorem tw8101760021730824546:True:=trivial
theorem tw1134157569726261602:True:=trivial
theorem tw7658410731251134818:True:=trivial
theorem tw15253846138512369154:True:=trivial
theorem tw5019597260055213698:True:=trivial
theorem tw12841863872788715202:True:=trivial
theorem tw17993767162375566018:True:=trivial
theorem tw11820730986300896962:True:=trivial
theorem tw3160712208675142370:True:=trivial
theorem tw9820158181544301314:True:=trivial
theorem tw13488047542759136002:True:=trivial
theorem tw7523532297153676066:True:=trivial
theorem tw1056085985882870562:True:=trivial
theorem tw6369041477666114370:True:=trivial
theorem tw9171846695823722306:True:=trivial
theorem tw5187041380464763778:True:=trivial
theorem tw12478146576626367362:True:=trivial
theorem tw3083302935323014018:True:=trivial
theorem tw18051680202136193954:True:=trivial
theorem tw18331532914195504034:True:=trivial
theorem tw8182465387277545410:True:=trivial
theorem tw6521490308693473283:True:=trivial
theorem tw5986637957666399235:True:=trivial
theorem tw10533634037010066435:True:=trivial
theorem tw10746725682022337571:True:=trivial
theorem tw2355103038987944067:True:=trivial
theorem tw2728595385866086531:True:=trivial
theorem tw7179252675378151715:True:=trivial
theorem tw17725469503822016867:True:=trivial
theorem tw13086575352542018947:True:=trivial
theorem tw12763952150808568291:True:=trivial
theorem tw14597329475937083939:True:=trivial
theorem tw15894371620910866019:True:=trivial
theorem tw12581593161143036515:True:=trivial
theorem tw6088685845774392931:True:=trivial
theorem tw851385035628625539:True:=trivial
theorem tw9658139154387788515:True:=trivial
theorem tw1917425121527220963:True:=trivial
theorem tw4415685298772064003:True:=trivial
theorem tw8541356943393881859:True:=trivial
theorem tw17577399041416155939:True:=trivial
theorem tw3665506230870052707:True:=trivial
theorem tw17905491414393134947:True:=trivial
theorem tw13664066127859960707:True:=trivial
theorem tw2393098407364606883:True:=trivial
theorem tw2694075680205673411:True:=trivial
theorem tw976808484645153763:True:=trivial
theorem tw10900948863051656163:True:=trivial
theorem tw11081218982966106116:True:=trivial
theorem tw15410735652082386980:True:=trivial
theorem tw11180365069992382532:True:=trivial
theorem tw4607607821588926596:True:=trivial
theorem tw9083612298779875492:True:=trivial
theorem tw7498250532897285284:True:=trivial
theorem tw13397106695672350980:True:=trivial
theorem tw14999265807660949796:True:=trivial
theorem tw8414573866900348196:True:=trivial
theorem tw3368030927266983236:True:=trivial
theorem tw14241001667801471300:True:=trivial
theorem tw16014373381606645092:True:=trivial
theorem tw578259024812056932:True:=trivial
theorem tw999222835498014148:True:=trivial
theorem tw17015032458148788900:True:=trivial
theorem tw16922147877168347812:True:=trivial
theorem tw9495540839478616804:True:=trivial
theorem tw10059252607514160932:True:=trivial
theorem tw15506723302920939300:True:=trivial
theorem tw6846866878297920324:True:=trivial
theorem tw13986843968525588388:True:=trivial
theorem tw15895748673760503845:True:=trivial
theorem tw7096138990903361605:True:=trivial
theorem tw17850378814381688901:True:=trivial
theorem tw6161856959107265637:True:=trivial
theorem tw6536181036136497285:True:=trivial
theorem tw8216834362191484069:True:=trivial
theorem tw10021064610941686981:True:=trivial
theorem tw15796087645652482245:True:=trivial
theorem tw4196546014268931301:True:=trivial
theorem tw11923155195566972133:True:=trivial
theorem tw16576625349610184965:True:=trivial
theorem tw1522823579158628613:True:=trivial
theorem tw10786079294511566085:True:=trivial
theorem tw13955511503576765797:True:=trivial
theorem tw1519320592345488741:True:=trivial
theorem tw4839655697589452165:True:=trivial
theorem tw3103639331685909893:True:=trivial
theorem tw1211024037004892549:True:=trivial
theorem tw13412022041919118725:True:=trivial
theorem tw10265929125382437317:True:=trivial
theorem tw7404141018258913797:True:=trivial
theorem tw5593727005144783397:True:=trivial
theorem tw1660877005871194693:True:=trivial
theorem tw12324890628731678277:True:=trivial
theorem tw4311042196063409733:True:=trivial
theorem tw8603420104599213669:True:=trivial
theorem tw5080737588221150853:True:=trivial
theorem tw14149427978524627653:True:=trivial
theorem tw11255790879490906821:True:=trivial
theorem tw3405375401864073989:True:=trivial
theorem tw7661765248129044261:True:=trivial
theorem tw9197122456581196581:True:=trivial
theorem tw12182850187970735909:True:=trivial
theorem tw8187629637223713605:True:=trivial
theorem tw3980653432952411973:True:=trivial
theorem tw10010264046613662565:True:=trivial
theorem tw13906610036690215845:True:=trivial
theorem tw14349913743752837093:True:=trivial
theorem tw9390939805106294822:True:=trivial
theorem tw13508044439285423174:True:=trivial
theorem tw16078238667976319046:True:=trivial
theorem tw10573961123116132518:True:=trivial
theorem tw9515422150858430662:True:=trivial
theorem tw1673358830478937286:True:=trivial
theorem tw1748456618969930982:True:=trivial
theorem tw17988201657351507238:True:=trivial
theorem tw2326617092838664518:True:=trivial
theorem tw6640010369347007910:True:=trivial
theorem tw4017301010375394790:True:=trivial
theorem tw16111715859725283846:True:=trivial
theorem tw1909714482019496454:True:=trivial
theorem tw1689142752476645926:True:=trivial
theorem tw16874305072444578374:True:=trivial
theorem tw14512941343882779238:True:=trivial
theorem tw5764021196749891206:True:=trivial
theorem tw10521553517811329670:True:=trivial
theorem tw13537664574400122534:True:=trivial
theorem tw18364922244981856966:True:=trivial
theorem tw18384547517478447814:True:=trivial
theorem tw13295082483830516422:True:=trivial
theorem tw13276723143375012678:True:=trivial
theorem tw4053978428183960486:True:=trivial
theorem tw9101448428047585222:True:=trivial
theorem tw15840312062823119879:True:=trivial
theorem tw16984083398119652359:True:=trivial
theorem tw6212921109956642855:True:=trivial
theorem tw2260579728952749127:True:=trivial
theorem tw11105056867450500199:True:=trivial
theorem tw5629256929840616583:True:=trivial
theorem tw1062042127530464391:True:=trivial
theorem tw14112020806712329415:True:=trivial
theorem tw18007968972792079559:True:=trivial
theorem tw2529948359932261575:True:=trivial
theorem tw5987550445186205895:True:=trivial
theorem tw8185714761375850791:True:=trivial
theorem tw4693820183103290663:True:=trivial
theorem tw11582096051123008839:True:=trivial
theorem tw14385403278947933607:True:=trivial
theorem tw7680146299302783591:True:=trivial
theorem tw1319983325249436295:True:=trivial
theorem tw18014224886719972007:True:=trivial
theorem tw8041981036286801607:True:=trivial
theorem tw10988817232074504935:True:=trivial
theorem tw1272635626206103303:True:=trivial
theorem tw8409189969818401543:True:=trivial
theorem tw7994106446794305319:True:=trivial
theorem tw13605870324054321959:True:=trivial
theorem tw5973763720392745831:True:=trivial
theorem tw262713603470380999:True:=trivial
theorem tw8408249889716310983:True:=trivial
theorem tw6265338273532641288:True:=trivial
theorem tw14699756766385990792:True:=trivial
theorem tw2591067827882107080:True:=trivial
theorem tw13353151263460963528:True:=trivial
theorem tw15253147559959296200:True:=trivial
theorem tw10366927770000222440:True:=trivial
theorem tw14969395210118534408:True:=trivial
theorem tw12870424476946447624:True:=trivial
theorem tw3264716943610762504:True:=trivial
theorem tw3164961170700492040:True:=trivial
theorem tw14412733801367601576:True:=trivial
theorem tw2066564036433440168:True:=trivial
theorem tw4834694072379752904:True:=trivial
theorem tw3304075619188804072:True:=trivial
theorem tw10019951398262190568:True:=trivial
theorem tw2879759524354350568:True:=trivial
theorem tw11308087075614649832:True:=trivial
theorem tw14631306762972528136:True:=trivial
theorem tw16441004959143088680:True:=trivial
theorem tw14946772226789246504:True:=trivial
theorem tw2154566216772986472:True:=trivial
theorem tw17698105195316432488:True:=trivial
theorem tw2437478716016495240:True:=trivial
theorem tw14565420633037775528:True:=trivial
theorem tw7876399200375917224:True:=trivial
theorem tw8169693465737517768:True:=trivial
theorem tw1276956409769668328:True:=trivial
theorem tw13932022402069264104:True:=trivial
theorem tw17674571679781333832:True:=trivial
theorem tw17411354535832351560:True:=trivial
theorem tw11097941207591946120:True:=trivial
theorem tw13801937863458859944:True:=trivial
theorem tw14637134836413734856:True:=trivial
theorem tw2864405669816312776:True:=trivial
theorem tw8549075639274686408:True:=trivial
theorem tw3581614266968435656:True:=trivial
theorem tw2825341998796452840:True:=trivial
theorem tw780477332936465449:True:=trivial
theorem tw14956371261235936329:True:=trivial
theorem tw1588943658860677225:True:=trivial
theorem tw11005904730967762025:True:=trivial
theorem tw4964814941381164201:True:=trivial
theorem tw866174269921992937:True:=trivial
theorem tw7833285031277912329:True:=trivial
theorem tw17539234302018041193:True:=trivial
theorem tw14168692526580214153:True:=trivial
theorem tw18176413224385145225:True:=trivial
theorem tw15647610678857825673:True:=trivial
theorem tw17067637420212882889:True:=trivial
theorem tw7705420606127192585:True:=trivial
theorem tw820421773197932041:True:=trivial
theorem tw2340069552987342377:True:=trivial
theorem tw5015311536963163689:True:=trivial
theorem tw4554283584077286953:True:=trivial
theorem tw9646481798937456297:True:=trivial
theorem tw11305582741114486441:True:=trivial
theorem tw4377270945021899497:True:=trivial
theorem tw5407718363533321033:True:=trivial
theorem tw2976249973925969801:True:=trivial
theorem tw315434073420411817:True:=trivial
theorem tw17486074103640542121:True:=trivial
theorem tw15782939476341012554:True:=trivial
theorem tw12668424612319814730:True:=trivial
theorem tw17608190574486352970:True:=trivial
theorem tw380116879960591498:True:=trivial
theorem tw5096742575497195690:True:=trivial
theorem tw10128820837102578890:True:=trivial
theorem tw9103479521544129834:True:=trivial
theorem tw17113217626458354986:True:=trivial
theorem tw11636873012791513418:True:=trivial
theorem tw17212568112599259466:True:=trivial
theorem tw10706776884845955466:True:=trivial
theorem tw17836260108008149386:True:=trivial
theorem tw6211381574409162282:True:=trivial
theorem tw8182079617134344778:True:=trivial
theorem tw5043502260206887498:True:=trivial
theorem tw9318794584737855082:True:=trivial
theorem tw5061997093462229610:True:=trivial
theorem tw69809265629811306:True:=trivial
theorem tw18080951475816111786:True:=trivial
theorem tw5996384718915585738:True:=trivial
theorem tw13917482298092908234:True:=trivial
theorem tw3021114989795446570:True:=trivial
theorem tw13896987355042952010:True:=trivial
theorem tw17453365369857097546:True:=trivial
theorem tw6684978435548883818:True:=trivial
theorem tw17844492200522320778:True:=trivial
theorem tw7928285938522686346:True:=trivial
theorem tw6968674436765558698:True:=trivial
theorem tw5487235932777146282:True:=trivial
theorem tw3127049524044150859:True:=trivial
theorem tw2753283235347674219:True:=trivial
theorem tw17007033763367706731:True:=trivial
theorem tw11289835788462762251:True:=trivial
theorem tw8172283286065499403:True:=trivial
theorem tw6379358179555706155:True:=trivial
theorem tw1608297297296620843:True:=trivial
theorem tw5927865893512547691:True:=trivial
theorem tw14679116673082234219:True:=trivial
theorem tw15305915472762889579:True:=trivial
theorem tw11569442021236766091:True:=trivial
theorem tw13743032657059413451:True:=trivial
theorem tw15468718075485040107:True:=trivial
theorem tw14667470093908496907:True:=trivial
theorem tw8796753266530204203:True:=trivial
theorem tw10380812506269388331:True:=trivial
theorem tw5506250874072839755:True:=trivial
theorem tw6388477656530123435:True:=trivial
theorem tw16769997242578385675:True:=trivial
theorem tw11734149836464880395:True:=trivial
theorem tw1172538174109094731:True:=trivial
theorem tw8097174177036852075:True:=trivial
theorem tw14488727979953464203:True:=trivial
theorem tw5479459121986351116:True:=trivial
theorem tw10270352894671993868:True:=trivial
theorem tw14969872817325187116:True:=trivial
theorem tw7512725033676591148:True:=trivial
theorem tw1506576300011279404:True:=trivial
theorem tw9464831228461672588:True:=trivial
theorem tw4708111749353345164:True:=trivial
theorem tw2588942769649879372:True:=trivial
theorem tw7575806435727305068:True:=trivial
theorem tw12287978374625458572:True:=trivial
theorem tw1642545813376747948:True:=trivial
theorem tw6522505103286579628:True:=trivial
theorem tw17854896373637125580:True:=trivial
theorem tw15638870477510070732:True:=trivial
theorem tw2857895335220236748:True:=trivial
theorem tw14699528089545365996:True:=trivial
theorem tw16845296645482713644:True:=trivial
theorem tw14139502460874162764:True:=trivial
theorem tw48543519692965452:True:=trivial
theorem tw3790771472595898956:True:=trivial
theorem tw2764016085172604524:True:=trivial
theorem tw9082462177598256812:True:=trivial
theorem tw3547240966391284428:True:=trivial
theorem tw11484358847640170188:True:=trivial
theorem tw7090939061502383884:True:=trivial
theorem tw4282345222263871244:True:=trivial
theorem tw6891450509433485068:True:=trivial
theorem tw6110071263904590700:True:=trivial
theorem tw16847831306532103052:True:=trivial
theorem tw7256407767356113836:True:=trivial
theorem tw9325057278558614444:True:=trivial
theorem tw3991279037241028524:True:=trivial
theorem tw10205530081349824492:True:=trivial
theorem tw14127983276867164173:True:=trivial
theorem tw14432977821161478157:True:=trivial
theorem tw6121141971511671821:True:=trivial
theorem tw7805308653706644653:True:=trivial
theorem tw8812732774380208333:True:=trivial
theorem tw12330954535739239725:True:=trivial
theorem tw6153569298028143949:True:=trivial
theorem tw907359911958329709:True:=trivial
theorem tw5870146547769353613:True:=trivial
theorem tw7272792461964422541:True:=trivial
theorem tw16817119741492734445:True:=trivial
theorem tw14139617269561922093:True:=trivial
theorem tw8402214883040486957:True:=trivial
theorem tw16572314662081343053:True:=trivial
theorem tw6751290297309308749:True:=trivial
theorem tw7599496313472250701:True:=trivial
theorem tw6237802210402583469:True:=trivial
theorem tw13600378441667735501:True:=trivial
theorem tw17332727794074296334:True:=trivial
theorem tw940147379719373870:True:=trivial
theorem tw16659920880120507502:True:=trivial
theorem tw12328230846540189838:True:=trivial
theorem tw10389290468125465742:True:=trivial
theorem tw11426403942048686318:True:=trivial
theorem tw300626226527484142:True:=trivial
theorem tw12704426703380559182:True:=trivial
theorem tw18416563613846182222:True:=trivial
theorem tw12359489953124434286:True:=trivial
theorem tw7616930195647119758:True:=trivial
theorem tw3426853385547884014:True:=trivial
theorem tw12865059321931465230:True:=trivial
theorem tw16474958459275807246:True:=trivial
theorem tw12362083183470981646:True:=trivial
theorem tw7309950759910210094:True:=trivial
theorem tw17093656651364094606:True:=trivial
theorem tw8866670633112419022:True:=trivial
theorem tw16128420640991077102:True:=trivial
theorem tw10431609616501453582:True:=trivial
theorem tw709382114072422158:True:=trivial
theorem tw6053997905714604814:True:=trivial
theorem tw9746458257258439470:True:=trivial
theorem tw12773685731770592110:True:=trivial
theorem tw13180129090757240718:True:=trivial
theorem tw3089916443595474862:True:=trivial
theorem tw15520248196984853422:True:=trivial
theorem tw1398043889541792783:True:=trivial
theorem tw739537129135343663:True:=trivial
theorem tw8586521899292070991:True:=trivial
theorem tw4090201507572337743:True:=trivial
theorem tw8715499118904818895:True:=trivial
theorem tw1620002657737552111:True:=trivial
theorem tw18165431152234640623:True:=trivial
theorem tw3794523003379204399:True:=trivial
theorem tw12310735299239354703:True:=trivial
theorem tw4975070653579243887:True:=trivial
theorem tw14643560169476415855:True:=trivial
theorem tw12371566548271132015:True:=trivial
theorem tw17821319399108415887:True:=trivial
theorem tw17784522201281872271:True:=trivial
theorem tw4746297304354101679:True:=trivial
theorem tw15181326774706428367:True:=trivial
theorem tw8626486368039343599:True:=trivial
theorem tw16714887947964762639:True:=trivial
theorem tw7627683417492964911:True:=trivial
theorem tw5515381820778694223:True:=trivial
theorem tw15564447279633807951:True:=trivial
theorem tw14364637388885140079:True:=trivial
theorem tw5617373736292572815:True:=trivial
theorem tw13357441389134331599:True:=trivial
theorem tw7624658959004494543:True:=trivial
theorem tw3595997877012144879:True:=trivial
theorem tw11715283913529211631:True:=trivial
theorem tw9196398404247428943:True:=trivial
theorem tw2705560170217086799:True:=trivial
theorem tw12032222614953749359:True:=trivial
theorem tw10340462753498674063:True:=trivial
theorem tw16997897962222511:True:=trivial
theorem tw4433315090154635215:True:=trivial
theorem tw12740806245664736207:True:=trivial
theorem tw807142644699662319:True:=trivial
theorem tw18282902561792777199:True:=trivial
theorem tw5651425540991249520:True:=trivial
theorem tw12741294794224977040:True:=trivial
theorem tw12604462930493870256:True:=trivial
theorem tw12695399030622205104:True:=trivial
theorem tw3185377453876500656:True:=trivial
theorem tw14492117785962260688:True:=trivial
theorem tw13337238644230332656:True:=trivial
theorem tw10510183946089719056:True:=trivial
theorem tw16782820856776367440:True:=trivial
theorem tw1463646239528298992:True:=trivial
theorem tw7313386461004707312:True:=trivial
theorem tw5737951250597237232:True:=trivial
theorem tw2661039320868540944:True:=trivial
theorem tw14028522991509751376:True:=trivial
theorem tw3453547403478019728:True:=trivial
theorem tw13504307299585405616:True:=trivial
theorem tw13246386896891170512:True:=trivial
theorem tw17646911460466567920:True:=trivial
theorem tw2545145822199252752:True:=trivial
theorem tw6870361546347238192:True:=trivial
theorem tw12212823987433534256:True:=trivial
theorem tw17275705279478898512:True:=trivial
theorem tw14788773977795034992:True:=trivial
theorem tw4691952243595246448:True:=trivial
theorem tw10872037306656784433:True:=trivial
theorem tw1643771367246577777:True:=trivial
theorem tw11770459041652445329:True:=trivial
theorem tw17197444120159719569:True:=trivial
theorem tw5319049981483164881:True:=trivial
theorem tw12822298378996975857:True:=trivial
theorem tw7734086686654790897:True:=trivial
theorem tw9987851973559822609:True:=trivial
theorem tw17173245716831642929:True:=trivial
theorem tw16917608666046251313:True:=trivial
theorem tw11124748197601291601:True:=trivial
theorem tw67086481866811729:True:=trivial
theorem tw4063747431996464497:True:=trivial
theorem tw5111174896325423537:True:=trivial
theorem tw8264559056461403633:True:=trivial
theorem tw12095829319087573521:True:=trivial
theorem tw12949380547846470161:True:=trivial
theorem tw7789450098604059249:True:=trivial
theorem tw14628233357713752721:True:=trivial
theorem tw11704837465938651953:True:=trivial
theorem tw18177665153149118353:True:=trivial
theorem tw9802980913210911633:True:=trivial
theorem tw2418714467272084401:True:=trivial
theorem tw16966009324859112401:True:=trivial
theorem tw11925700103697007601:True:=trivial
theorem tw13478637309914159250:True:=trivial
theorem tw2506711637615833298:True:=trivial
theorem tw17008234436448823602:True:=trivial
theorem tw9202431907968578930:True:=trivial
theorem tw14531177953140590962:True:=trivial
theorem tw11485113708198979986:True:=trivial
theorem tw1687793838685487538:True:=trivial
theorem tw12037728316022314418:True:=trivial
theorem tw13585267454733459922:True:=trivial
theorem tw7604411431414283762:True:=trivial
theorem tw17262968490309938674:True:=trivial
theorem tw8451290768687142514:True:=trivial
theorem tw3321875119742208626:True:=trivial
theorem tw3821945547825155762:True:=trivial
theorem tw10748227973586771634:True:=trivial
theorem tw15256841493749336786:True:=trivial
theorem tw1714602735852981970:True:=trivial
theorem tw2441957057352720082:True:=trivial
theorem tw15091486752826498866:True:=trivial
theorem tw10730805705081004914:True:=trivial
theorem tw2201313380682377074:True:=trivial
theorem tw467416434755642258:True:=trivial
theorem tw15127644999133008818:True:=trivial
theorem tw17265401458761052179:True:=trivial
theorem tw3512634313551410195:True:=trivial
theorem tw9145527808636388435:True:=trivial
theorem tw7940748693946456147:True:=trivial
theorem tw12856577281151766611:True:=trivial
theorem tw14909605222495392915:True:=trivial
theorem tw7148437315225170067:True:=trivial
theorem tw11434997419882176723:True:=trivial
theorem tw2518057956044344595:True:=trivial
theorem tw3944913497352057107:True:=trivial
theorem tw5104563664521345299:True:=trivial
theorem tw4483413254912295219:True:=trivial
theorem tw4709128311485490483:True:=trivial
theorem tw8671685427711848851:True:=trivial
theorem tw14643959010103036307:True:=trivial
theorem tw6737735255597943219:True:=trivial
theorem tw16278871845796110771:True:=trivial
theorem tw9702098958229961203:True:=trivial
theorem tw6174258528820157971:True:=trivial
theorem tw12339793173418651155:True:=trivial
theorem tw6298033893332097587:True:=trivial
theorem tw708152393587867187:True:=trivial
theorem tw2797894973233656403:True:=trivial
theorem tw13689084217373910675:True:=trivial
theorem tw4857777746444614323:True:=trivial
theorem tw6402496994288996404:True:=trivial
theorem tw7270002223443293236:True:=trivial
theorem tw15656768269340197940:True:=trivial
theorem tw12398312691204496596:True:=trivial
theorem tw6871339299614917876:True:=trivial
theorem tw12244833863542804788:True:=trivial
theorem tw6426539377367359892:True:=trivial
theorem tw17958272820484234708:True:=trivial
theorem tw8569104457590258164:True:=trivial
theorem tw377444749377882612:True:=trivial
theorem tw3715144110773694964:True:=trivial
theorem tw13637325136056909300:True:=trivial
theorem tw17346037399652195860:True:=trivial
theorem tw4009957668330374740:True:=trivial
theorem tw17002534310236347988:True:=trivial
theorem tw1937370526825066196:True:=trivial
theorem tw7748693106545578708:True:=trivial
theorem tw2400818531096893172:True:=trivial
theorem tw8166999806591403796:True:=trivial
theorem tw15895551434495452948:True:=trivial
theorem tw1832916270232011604:True:=trivial
theorem tw3986194592780655508:True:=trivial
theorem tw1389810093214676884:True:=trivial
theorem tw2350586252961548244:True:=trivial
theorem tw2249667046024356820:True:=trivial
theorem tw5874639182527098836:True:=trivial
theorem tw5638995163158488052:True:=trivial
theorem tw12364624919760631829:True:=trivial
theorem tw6053349399257934933:True:=trivial
theorem tw6684681932595197013:True:=trivial
theorem tw6085824867444503733:True:=trivial
theorem tw5725584637647431893:True:=trivial
theorem tw2994366008111725845:True:=trivial
theorem tw5182153607120983317:True:=trivial
theorem tw4976181008148175253:True:=trivial
theorem tw3212073173673764245:True:=trivial
theorem tw5141578139466067413:True:=trivial
theorem tw12074249297620881909:True:=trivial
theorem tw18433677622606106133:True:=trivial
theorem tw1224924573807776437:True:=trivial
theorem tw5438144065070405397:True:=trivial
theorem tw12147184966966947637:True:=trivial
theorem tw12043669396524033845:True:=trivial
theorem tw17508272824862286709:True:=trivial
theorem tw5501060405047882677:True:=trivial
theorem tw4972248218790579157:True:=trivial
theorem tw5508695066786827253:True:=trivial
theorem tw11544532188706048022:True:=trivial
theorem tw9716329373054682134:True:=trivial
theorem tw11484797826999851062:True:=trivial
theorem tw17194126546080390198:True:=trivial
theorem tw8159583801465064534:True:=trivial
theorem tw9767149119325585590:True:=trivial
theorem tw9107825763807709430:True:=trivial
theorem tw15250023729529759990:True:=trivial
theorem tw10865165270600546614:True:=trivial
theorem tw10739084859460822326:True:=trivial
theorem tw5612995960945425718:True:=trivial
theorem tw17552560543380974038:True:=trivial
theorem tw12352672977532951062:True:=trivial
theorem tw16065720564569863766:True:=trivial
theorem tw12851702773856589430:True:=trivial
theorem tw11427066125472700054:True:=trivial
theorem tw17014734716931888790:True:=trivial
theorem tw532055438628499158:True:=trivial
theorem tw14112051064653734678:True:=trivial
theorem tw15785421084128741142:True:=trivial
theorem tw9133290819911140118:True:=trivial
theorem tw15539854500240908086:True:=trivial
theorem tw14842460003800876886:True:=trivial
theorem tw2413573451304230806:True:=trivial
theorem tw12205659690895024086:True:=trivial
theorem tw604627371996746742:True:=trivial
theorem tw2298694737197419510:True:=trivial
theorem tw2172669909848549399:True:=trivial
theorem tw10457615780465708087:True:=trivial
theorem tw17050696954950088759:True:=trivial
theorem tw17188972718952451159:True:=trivial
theorem tw17017319662998615:True:=trivial
theorem tw6247268493268985975:True:=trivial
theorem tw5751227541892866231:True:=trivial
theorem tw1315816938146588887:True:=trivial
theorem tw7287109101882759415:True:=trivial
theorem tw13653928888864918839:True:=trivial
theorem tw12858780395421280599:True:=trivial
theorem tw12630350610049390935:True:=trivial
theorem tw9065935926736091543:True:=trivial
theorem tw597074169871860151:True:=trivial
theorem tw12903917746401883607:True:=trivial
theorem tw11338825007792423415:True:=trivial
theorem tw9449176361245260279:True:=trivial
theorem tw6836605351468522007:True:=trivial
theorem tw13379354915994877463:True:=trivial
theorem tw497287684792784471:True:=trivial
theorem tw12214093580764582487:True:=trivial
theorem tw4163069186122357367:True:=trivial
theorem tw1939405473400901271:True:=trivial
theorem tw13002585709282622103:True:=trivial
theorem tw11290360913936777911:True:=trivial
theorem tw9827913525700040407:True:=trivial
theorem tw7960053054240918295:True:=trivial
theorem tw15112835437128306455:True:=trivial
theorem tw4307260679431091991:True:=trivial
theorem tw13137911371727378231:True:=trivial
theorem tw8627200689577751383:True:=trivial
theorem tw15149402430504572791:True:=trivial
theorem tw8874674299285249911:True:=trivial
theorem tw9984397402777080727:True:=trivial
theorem tw15510365090734361527:True:=trivial
theorem tw11857307637417881527:True:=trivial
theorem tw8534208459206503383:True:=trivial
theorem tw7704315382344345624:True:=trivial
theorem tw1970811146720035896:True:=trivial
theorem tw6507506987150044280:True:=trivial
theorem tw5353729903917744248:True:=trivial
theorem tw15798066900824788120:True:=trivial
theorem tw2876011056497122456:True:=trivial
theorem tw13942192884097748152:True:=trivial
theorem tw14615432700455777464:True:=trivial
theorem tw10668533816033670360:True:=trivial
theorem tw14195316510222423288:True:=trivial
theorem tw9325123708862168440:True:=trivial
theorem tw8035625575855466936:True:=trivial
theorem tw10736139440505347576:True:=trivial
theorem tw15296082917334920728:True:=trivial
theorem tw7013799640231393816:True:=trivial
theorem tw1212124681294104184:True:=trivial
theorem tw13199516396595161752:True:=trivial
theorem tw9353324838224930552:True:=trivial
theorem tw15841401105113185080:True:=trivial
theorem tw14877080517539528568:True:=trivial
theorem tw17362218986543327160:True:=trivial
theorem tw15666658371737129944:True:=trivial
theorem tw16962450398199861240:True:=trivial
theorem tw15039987702171664376:True:=trivial
theorem tw649443455394278489:True:=trivial
theorem tw6207834228037699737:True:=trivial
theorem tw8550467674348477657:True:=trivial
theorem tw7712916153251135833:True:=trivial
theorem tw6079359036626576793:True:=trivial
theorem tw13954853420313727417:True:=trivial
theorem tw4235852798576303577:True:=trivial
theorem tw9177565365009422873:True:=trivial
theorem tw9368406320212774489:True:=trivial
theorem tw17444863063712431705:True:=trivial
theorem tw18100283295969611417:True:=trivial
theorem tw17782148633632673465:True:=trivial
theorem tw3746228215898030841:True:=trivial
theorem tw6763335052953634553:True:=trivial
theorem tw9407594320385231609:True:=trivial
theorem tw12611893724949602041:True:=trivial
theorem tw11821203517306503961:True:=trivial
theorem tw13381877923881390905:True:=trivial
theorem tw5274623360512300857:True:=trivial
theorem tw17304152732226823993:True:=trivial
theorem tw10948677003083999065:True:=trivial
theorem tw5599997604879368025:True:=trivial
theorem tw3290047583113660281:True:=trivial
theorem tw15735840784391694233:True:=trivial
theorem tw9213911765573242809:True:=trivial
theorem tw3556061257289618393:True:=trivial
theorem tw14744981736328886265:True:=trivial
theorem tw9214367901419015226:True:=trivial
theorem tw15204471325056678010:True:=trivial
theorem tw18260194641540637818:True:=trivial
theorem tw8337448324364255386:True:=trivial
theorem tw5723944856813171866:True:=trivial
theorem tw1489404036187247834:True:=trivial
theorem tw11597336398036118778:True:=trivial
theorem tw11296743742662292762:True:=trivial
theorem tw2237326684586592538:True:=trivial
theorem tw5092371620264689978:True:=trivial
theorem tw17826015225549371706:True:=trivial
theorem tw4273228799998304602:True:=trivial
theorem tw3688799982635324794:True:=trivial
theorem tw4947412792043415962:True:=trivial
theorem tw2681166955253090778:True:=trivial
theorem tw15326552575505426906:True:=trivial
theorem tw10333954764705244698:True:=trivial
theorem tw9553506758532729402:True:=trivial
theorem tw11724780754615379514:True:=trivial
theorem tw6327039764776113722:True:=trivial
theorem tw9186546921256032858:True:=trivial
theorem tw14061139507663348314:True:=trivial
theorem tw13198292447841614426:True:=trivial
theorem tw4023466491090337370:True:=trivial
theorem tw5401097623525119610:True:=trivial
theorem tw8476099583838051002:True:=trivial
theorem tw7906546307943345882:True:=trivial
theorem tw12207028300977255130:True:=trivial
theorem tw8988664977312594650:True:=trivial
theorem tw1852205218256702202:True:=trivial
theorem tw3869590956505411354:True:=trivial
theorem tw6973584914630602586:True:=trivial
theorem tw6846597200999610202:True:=trivial
theorem tw11988142204041823098:True:=trivial
theorem tw12201952087667049370:True:=trivial
theorem tw9777900189565919194:True:=trivial
theorem tw44622916816846810:True:=trivial
theorem tw742351954350328859:True:=trivial
theorem tw1858156416291392539:True:=trivial
theorem tw779419810087314491:True:=trivial
theorem tw4387028780061031483:True:=trivial
theorem tw11613311375368785083:True:=trivial
theorem tw6100774026682323163:True:=trivial
theorem tw8535708456716222715:True:=trivial
theorem tw8912104118211102971:True:=trivial
theorem tw3973953319845086491:True:=trivial
theorem tw17541063381433097499:True:=trivial
theorem tw6600165084710513979:True:=trivial
theorem tw13227620805987009915:True:=trivial
theorem tw10840385229135970747:True:=trivial
theorem tw9978949632667528635:True:=trivial
theorem tw4945251732147069371:True:=trivial
theorem tw3715584954343283195:True:=trivial
theorem tw3616486834168423931:True:=trivial
theorem tw8382746154173761051:True:=trivial
theorem tw12987040726578829979:True:=trivial
theorem tw930087139818521243:True:=trivial
theorem tw1626232751844553403:True:=trivial
theorem tw466721876749952763:True:=trivial
theorem tw1618804561499322139:True:=trivial
theorem tw1919001801439425371:True:=trivial
theorem tw17190349231170142043:True:=trivial
theorem tw10898857373019930491:True:=trivial
theorem tw2203363585012173787:True:=trivial
theorem tw13554860043763078139:True:=trivial
theorem tw9142320679590124636:True:=trivial
theorem tw11052631288978436188:True:=trivial
theorem tw14882813523228863612:True:=trivial
theorem tw5140934472235413692:True:=trivial
theorem tw573967197379146972:True:=trivial
theorem tw7688317290187622652:True:=trivial
theorem tw12242153458792446204:True:=trivial
theorem tw2595233403007697180:True:=trivial
theorem tw1082313596108445148:True:=trivial
theorem tw6272251169252508156:True:=trivial
theorem tw9162278640276766204:True:=trivial
theorem tw14646466228836335164:True:=trivial
theorem tw2973143901146584636:True:=trivial
theorem tw10015159338476511836:True:=trivial
theorem tw10467814448475477596:True:=trivial
theorem tw6260244149815935644:True:=trivial
theorem tw1728724042893426364:True:=trivial
theorem tw10062970787820224252:True:=trivial
theorem tw2581250870941146908:True:=trivial
theorem tw6889739017440866108:True:=trivial
theorem tw10875119458065257276:True:=trivial
theorem tw16031315777459398524:True:=trivial
theorem tw5346772772824661884:True:=trivial
theorem tw12428389735305899900:True:=trivial
theorem tw3333069708870698940:True:=trivial
theorem tw1291722185910714397:True:=trivial
theorem tw6692803169904595997:True:=trivial
theorem tw8773370040425892893:True:=trivial
theorem tw7494366503370351645:True:=trivial
theorem tw13988103294471073821:True:=trivial
theorem tw1214346256449528893:True:=trivial
theorem tw5038994553942263901:True:=trivial
theorem tw14586503196746008701:True:=trivial
theorem tw10371985647062452541:True:=trivial
theorem tw4239589573987675453:True:=trivial
theorem tw5363715690607933:True:=trivial
theorem tw11714945338242495837:True:=trivial
theorem tw18277060748420158845:True:=trivial
theorem tw17297054508065495485:True:=trivial
theorem tw1995287165650055613:True:=trivial
theorem tw9280153536138602973:True:=trivial
theorem tw7253898381062576733:True:=trivial
theorem tw17142359554024780413:True:=trivial
theorem tw7119846925741900413:True:=trivial
theorem tw13510609219080548989:True:=trivial
theorem tw16800043278716471037:True:=trivial
theorem tw1858285994304674589:True:=trivial
theorem tw527386997569798941:True:=trivial
theorem tw10987702880554017565:True:=trivial
theorem tw15967466079928408925:True:=trivial
theorem tw733406405333840765:True:=trivial
theorem tw10812213935944405949:True:=trivial
theorem tw16903022960794457021:True:=trivial
theorem tw2781723093108153277:True:=trivial
theorem tw15501141472565082077:True:=trivial
theorem tw6772502638888315869:True:=trivial
theorem tw140066278072042493:True:=trivial
theorem tw13295774097974887486:True:=trivial
theorem tw4528443807372415038:True:=trivial
theorem tw16582591585412914238:True:=trivial
theorem tw17854890406432584798:True:=trivial
theorem tw2491421050496283774:True:=trivial
theorem tw12475708393154427166:True:=trivial
theorem tw17243387458012846398:True:=trivial
theorem tw3651205649096709438:True:=trivial
theorem tw5013180600929471838:True:=trivial
theorem tw8895791426145780158:True:=trivial
theorem tw7758381527925395934:True:=trivial
theorem tw4543076655600059902:True:=trivial
theorem tw15604011560834605598:True:=trivial
theorem tw3368474557548986910:True:=trivial
theorem tw7992697801930647134:True:=trivial
theorem tw45052839361067614:True:=trivial
theorem tw14205479233844494046:True:=trivial
theorem tw4154363929692500862:True:=trivial
theorem tw11063524718261073790:True:=trivial
theorem tw3547030090768783262:True:=trivial
theorem tw3062044705579621278:True:=trivial
theorem tw10510622979536455646:True:=trivial
theorem tw10504981510240967646:True:=trivial
theorem tw6857060684267632606:True:=trivial
theorem tw11194998557105285118:True:=trivial
theorem tw13078646160514809887:True:=trivial
theorem tw66618190712790079:True:=trivial
theorem tw7181452741857391679:True:=trivial
theorem tw17348764703882912863:True:=trivial
theorem tw14393718171448925343:True:=trivial
theorem tw4381510469713062047:True:=trivial
theorem tw14417885227837004991:True:=trivial
theorem tw6687215366973426911:True:=trivial
theorem tw8997269238129315039:True:=trivial
theorem tw16385634705727604063:True:=trivial
theorem tw8758324158161630591:True:=trivial
theorem tw16871623187472473471:True:=trivial
theorem tw17889261914703972767:True:=trivial
theorem tw4277651752456152607:True:=trivial
theorem tw10261356005730403935:True:=trivial
theorem tw10079960370226730655:True:=trivial
theorem tw4932745802714450591:True:=trivial
theorem tw12024539317367501503:True:=trivial
theorem tw3749026756887285471:True:=trivial
theorem tw10519217271611395807:True:=trivial
theorem tw15794997505209512671:True:=trivial
theorem tw533756555076263647:True:=trivial
theorem tw10070411193226618655:True:=trivial
theorem tw8497721794823489343:True:=trivial
theorem tw1971652810694446911:True:=trivial
theorem tw174166394780034911:True:=trivial
theorem tw14631705268626504575:True:=trivial
theorem tw14720509044617813951:True:=trivial
theorem tw10005452208157733855:True:=trivial
theorem tw3501597964444990463:True:=trivial
theorem tw1565928125150319404:True:=trivial
theorem tw15621466591124195586:True:=trivial
theorem tw17008989734730073858:True:=trivial
theorem tw17306198084081397603:True:=trivial
theorem tw5311870446424111428:True:=trivial
theorem tw4971333720469624421:True:=trivial
theorem tw118376320488396902:True:=trivial
theorem tw11817360861406762442:True:=trivial
theorem tw14496898201650247819:True:=trivial
theorem tw3674326102156276372:True:=trivial
theorem tw800753184934492916:True:=trivial
theorem tw1850361123465651221:True:=trivial
theorem tw9650111884430850550:True:=trivial
theorem tw12676419075267192600:True:=trivial
theorem tw9698977904933032859:True:=trivial
theorem tw6594077403890362655:True:=trivial
theorem tw14956133685725647455:True:=trivial
theorem tw17380206448927093471:True:=trivial
end head
set_option Elab.async true
theorem head:PySem.Challenge.rw_nn0168_01.Holds:=by
 w_on
 o_law
 o_head hook
 (case hw=>w_witness2)
 exact walk _ _ _ _ _ rfl
end
end Mine
end
theorem PySem.Challenge.cw_nn0168_01_holds : PySem.Challenge.rw_nn0168_01.Holds :=
  Mine.head
