import PyProof.Rows.All
import Wide.All
import OpenK.AllK
import Wide.FinOn
import Lean
import PySem.Challenge.RW_sy0010_01
set_option maxRecDepth 1000000
set_option Elab.async false
set_option linter.all false
set_option maxHeartbeats 1000000
set_option genInjectivity false
set_option genSizeOf false
set_option compiler.extract_closed false
set_option tactic.hygienic false
namespace Mine
abbrev aK:=@Nat.le_trans
abbrev aL:=@Bool.false_ne_true
abbrev aO:=@Nat.le_refl
abbrev aR:=@Option.some.inj
abbrev aX:=@Nat.le_of_ble_eq_true
abbrev bt:=@Nat.le_of_eq
abbrev bE:=@Nat.le_add_right
abbrev bK:=@Bool.and_eq_true_iff
abbrev bP:=@List.mem_cons
abbrev bU:=@List.length_cons
abbrev cj:=@Nat.le_add_left
abbrev cp:=@List.not_mem_nil
abbrev cG:=@List.all_eq_true
abbrev cP:=@List.append_nil
abbrev dq:=@Nat.zero_add
abbrev dt:=@Nat.zero_le
abbrev dD:=@Nat.add_le_add_left
abbrev dG:=@List.length_append
abbrev dM:=@List.mem_append
abbrev dN:=@List.prefix_rfl
abbrev dU:=@Array.length_toList
abbrev dZ:=@Nat.le_succ
abbrev et:=@List.getElem?_eq_some_iff
abbrev eE:=@PySem.Heap.get?_push_size
abbrev eF:=@List.forall_mem_cons
abbrev eU:=@List.length_map
abbrev eV:=@List.map_cons
abbrev eW:=@List.cons_append
abbrev ft:=@List.getElem?_append_right
abbrev fE:=@List.append_assoc
abbrev fG:=@List.getElem?_append_left
abbrev fH:=@List.lookup_cons
abbrev fO:=@Nat.add_le_add
abbrev fP:=@Option.isSome_iff_exists
abbrev f9:=@Int.ofNat_lt
abbrev gf:=@Ne.symm
abbrev gg:=@Prod.mk.inj
abbrev gi:=@PySem.Heap.get?_push_of_some
abbrev gm:=@List.cons.inj
abbrev gn:=@List.nil_append
abbrev gF:=@List.map_append
abbrev hF:=@Nat.le_antisymm
abbrev hH:=@Int.natCast_nonneg
abbrev hI:=@List.length_nil
abbrev ip:=@Nat.add_le_add_right
abbrev iq:=@List.getElem?_eq_getElem
abbrev iY:=@List.mem_of_getElem?
abbrev jG:=@Nat.add_zero
abbrev jH:=@Nat.ne_of_lt
abbrev jI:=@Nat.succ_le_succ
abbrev jJ:=@PySem.Heap.lt_size
abbrev kc:=@Nat.zero_mul
abbrev ke:=@Nat.sub_add_cancel
abbrev kg:=@Nat.le_sub_of_add_le
abbrev kh:=@Nat.le_max_right
abbrev kj:=@List.map_map
abbrev kl:=@Nat.lt_or_ge
abbrev km:=@List.mem_map
abbrev lN:=@Nat.mul_le_mul_right
abbrev lO:=@Nat.add_assoc
abbrev lP:=@Int.lt_of_le_of_lt
abbrev lQ:=@List.forIn_cons
abbrev lR:=@List.contains_iff_mem
abbrev lT:=@Nat.le_of_succ_le
abbrev mZ:=@Nat.one_mul
abbrev m6:=@Nat.mul_le_mul_left
abbrev m7:=@Nat.add_sub_cancel_left
abbrev m8:=@Int.lt_trans
abbrev nh:=@Nat.add_comm
abbrev ni:=@Nat.add_sub_cancel'
abbrev nj:=@List.isEmpty_iff
abbrev nu:=@PySem.Heap.SameBut.update
abbrev nx:=@List.getElem?_map
abbrev pe:=@Nat.not_lt_of_le
abbrev pj:=@Int.le_trans
abbrev pz:=@Int.ofNat_le
abbrev pA:=@Nat.le_of_lt
abbrev pB:=@Nat.succ_pos
abbrev pD:=@Nat.lt_of_lt_of_le
abbrev pF:=@List.length_eq_zero_iff
abbrev pG:=@Nat.succ.inj
abbrev pH:=@List.length_take
abbrev pI:=@List.nodup_cons
abbrev pJ:=@PySem.Value.ref.inj
abbrev pK:=@List.mapM_cons
abbrev pL:=@List.nodup_append
abbrev pM:=@List.reverse_cons
abbrev pN:=@List.zip_cons_cons
abbrev pO:=@Nat.sub_self
abbrev pP:=@Nat.le_succ_of_le
abbrev so:=@Nat.lt_succ_self
abbrev sq:=@Nat.le_of_not_lt
abbrev sr:=@Nat.le_max_left
abbrev su:=@List.mem_range
abbrev sx:=@PySem.F.slot_tuple_hash
abbrev sy:=@Array.toList_append
abbrev sA:=@List.getElem?_zip_eq_some
abbrev sC:=@PySem.Heap.get?_update_self
abbrev sD:=@Option.bind_eq_some_iff
abbrev sE:=@PySem.callWith_type
abbrev rV:=@List.forIn_nil
abbrev rW:=@Bool.false_eq_true
abbrev rY:=@Bool.or_eq_true_iff
abbrev rZ:=@Nat.le_mul_of_pos_left
abbrev we:=@Nat.add_add_add_comm
abbrev wg:=@Nat.lt_of_succ_lt_succ
abbrev wi:=@List.take_append_drop
abbrev wj:=@Option.map_eq_some_iff
abbrev wk:=@Int.eq_ofNat_of_zero_le
abbrev wm:=@Array.getElem?_eq_getElem
abbrev wo:=@List.drop_eq_getElem_cons
abbrev wu:=@List.mem_cons_of_mem
abbrev wx:=@Int.fmod_nonneg_of_pos
inductive Ln where
 |v (i:Nat)|n (k:Nat)|a (x y:Ln)|m (k:Nat) (x:Ln)
noncomputable def Ln.d (a b c e f g:Nat) (t:Ln):Nat:=Ln.rec (fun i=>Nat.casesOn i a fun i=>Nat.casesOn i b fun i=>Nat.casesOn i c fun i=>Nat.casesOn i e fun i=>Nat.casesOn i f fun i=>Nat.casesOn i g fun _=>0) (fun k=>k) (fun _ _ x y=>x+y) (fun k _ x=>k*x) t
noncomputable def Ln.k (t:Ln) (i:Nat):Nat:=Ln.rec (fun j=>cond (Nat.beq i (j+1)) 1 0) (fun k=>cond (Nat.beq i 0) k 0) (fun _ _ x y=>x+y) (fun k _ x=>k*x) t
noncomputable def qo (s t:Ln):Bool:=Nat.ble (s.k 0) (t.k 0)&&Nat.ble (s.k 1) (t.k 1)&&Nat.ble (s.k 2) (t.k 2)&&Nat.ble (s.k 3) (t.k 3)&&Nat.ble (s.k 4) (t.k 4)&&Nat.ble (s.k 5) (t.k 5)&&Nat.ble (s.k 6) (t.k 6)
theorem lst{X Y Z p q i:Nat} (h:X+Y=Z):(X+p*i)+(Y+q*i)=Z+(p+q)*i:=h▸(we X (p*i) Y (q*i)).trans (congrArg (X+Y+·) (Nat.add_mul p q i).symm)
theorem Fz (a b c e f g:Nat) (t:Ln):t.d a b c e f g=t.k 0+t.k 1*a+t.k 2*b+t.k 3*c+t.k 4*e+t.k 5*f+t.k 6*g:=by
 induction t with
 |v i=>
  rcases i with _|_|_|_|_|_|i
  ·show a=0+1*a+0*b+0*c+0*e+0*f+0*g;simp only[kc,mZ,dq,jG]
  ·show b=0+0*a+1*b+0*c+0*e+0*f+0*g;simp only[kc,mZ,dq,jG]
  ·show c=0+0*a+0*b+1*c+0*e+0*f+0*g;simp only[kc,mZ,dq,jG]
  ·show e=0+0*a+0*b+0*c+1*e+0*f+0*g;simp only[kc,mZ,dq,jG]
  ·show f=0+0*a+0*b+0*c+0*e+1*f+0*g;simp only[kc,mZ,dq,jG]
  ·show g=0+0*a+0*b+0*c+0*e+0*f+1*g;simp only[kc,mZ,dq,jG]
  ·show 0=0+0*a+0*b+0*c+0*e+0*f+0*g;simp only[kc,dq,jG]
 |n k=>show k=k+0*a+0*b+0*c+0*e+0*f+0*g;simp only[kc,jG]
 |a x y hx hy=>exact(congrArg (· +Ln.d a b c e f g y) hx).trans ((congrArg (_+·) hy).trans (lst (lst (lst (lst (lst (lst rfl)))))))
 |m k x hx=>
  show k*x.d a b c e f g=k*x.k 0+k*x.k 1*a+k*x.k 2*b+k*x.k 3*c+k*x.k 4*e+k*x.k 5*f+k*x.k 6*g
  rw[hx];simp only[Nat.mul_add,Nat.mul_assoc]
theorem cQ (a b c e f g:Nat) (s t:Ln) (h:qo s t=true):s.d a b c e f g<=t.d a b c e f g:=by
 rw[Fz,Fz]
 simp only[qo,Bool.and_eq_true,Nat.ble_eq] at h
 obtain⟨⟨⟨⟨⟨⟨h0,h1⟩,h2⟩,h3⟩,h4⟩,h5⟩,h6⟩:=h
 exact fO (fO (fO (fO (fO (fO h0 (lN a h1)) (lN b h2)) (lN c h3)) (lN e h4)) (lN f h5)) (lN g h6)
theorem aY (a b c e f g:Nat) (s t l r:Ln) (k:qo (.a s r) (.a t l)=true) (h:l.d a b c e f g<=r.d a b c e f g):s.d a b c e f g<=t.d a b c e f g:=
 Nat.le_of_add_le_add_right (aK (cQ a b c e f g _ _ k) (dD h _))
theorem ln2 (a b c e f g:Nat) (s t l r l' r':Ln) (k:qo (.a s (.a r r')) (.a t (.a l l'))=true) (h:l.d a b c e f g<=r.d a b c e f g) (h':l'.d a b c e f g<=r'.d a b c e f g):s.d a b c e f g<=t.d a b c e f g:=
 aY a b c e f g s t (.a l l') (.a r r') k (fO h h')
theorem iB (a b c e f g:Nat) (s t l r l' r' zj zk:Ln) (k:qo (.a s (.a r (.a r' zk))) (.a t (.a l (.a l' zj)))=true) (h:l.d a b c e f g<=r.d a b c e f g) (h':l'.d a b c e f g<=r'.d a b c e f g) (WD:zj.d a b c e f g<=zk.d a b c e f g):s.d a b c e f g<=t.d a b c e f g:=
 ln2 a b c e f g s t l r (.a l' zj) (.a r' zk) k h (fO h' WD)
theorem nA{x y n m:Nat} (h:x+@OfNat.ofNat Nat m (instOfNatNat m)<=y) (k:Nat.ble n m=true):x+@OfNat.ofNat Nat n (instOfNatNat n)<=y:=aK (dD (aX k) x) h
theorem FC{x a y:Nat} (h:x+a<=y):x<=y:=aK (bE x a) h
theorem nB{x n m:Nat} (k:Nat.ble n m=true):x+@OfNat.ofNat Nat n (instOfNatNat n)<=x+@OfNat.ofNat Nat m (instOfNatNat m):=dD (aX k) x
theorem nC{n m:Nat} (k:Nat.ble n m=true):@OfNat.ofNat Nat n (instOfNatNat n)<=@OfNat.ofNat Nat m (instOfNatNat m):=aX k
theorem nD{x n m:Nat} (k:Nat.ble n m=true):@OfNat.ofNat Nat n (instOfNatNat n)<=x+@OfNat.ofNat Nat m (instOfNatNat m):=aK (aX k) (cj _ x)
theorem nE{y n m:Nat} (h:@OfNat.ofNat Nat m (instOfNatNat m)<=y) (k:Nat.ble n m=true):@OfNat.ofNat Nat n (instOfNatNat n)<=y:=aK (aX k) h
theorem WE{y n m i:Nat} (h:@OfNat.ofNat Nat m (instOfNatNat m)<=y) (k:Nat.ble (n+i) m=true):@OfNat.ofNat Nat n (instOfNatNat n)+@OfNat.ofNat Nat i (instOfNatNat i)<=y:=aK (aX k) h
theorem nF{x n m:Nat} (h:x<=@OfNat.ofNat Nat n (instOfNatNat n)) (k:Nat.ble n m=true):x<=@OfNat.ofNat Nat m (instOfNatNat m):=aK h (aX k)
theorem nG{x y n m:Nat} (h:x+@OfNat.ofNat Nat m (instOfNatNat m)<=y) (k:Nat.ble n m=true):@OfNat.ofNat Nat n (instOfNatNat n)<=y:=aK (nD k) h
theorem FD{x n i m:Nat} (k:Nat.ble (n+i) m=true):x+@OfNat.ofNat Nat n (instOfNatNat n)+@OfNat.ofNat Nat i (instOfNatNat i)<=x+@OfNat.ofNat Nat m (instOfNatNat m):=aK (bt (lO _ _ _)) (nB k)
theorem WG{x y n i m:Nat} (h:x+@OfNat.ofNat Nat m (instOfNatNat m)<=y) (k:Nat.ble (n+i) m=true):x+@OfNat.ofNat Nat n (instOfNatNat n)+@OfNat.ofNat Nat i (instOfNatNat i)<=y:=aK (FD k) h
theorem nZ{x n m:Nat} (k:Nat.ble n m=true):0+x+@OfNat.ofNat Nat n (instOfNatNat n)<=x+@OfNat.ofNat Nat m (instOfNatNat m):=aK (bt (congrArg (· +n) (dq x))) (nB k)
theorem nP{x y z n m:Nat} (h:x+y+@OfNat.ofNat Nat m (instOfNatNat m)<=z) (k:Nat.ble n m=true):x+(y+@OfNat.ofNat Nat n (instOfNatNat n))<=z:=aK (bt (lO _ _ _).symm) (nA h k)
theorem tA{x y n b:Nat} (h:x+n<=b) (k:y+n<=b):max x y+n<=b:=(Nat.le_total x y).elim (fun q=>(Nat.max_eq_right q).symm▸k) fun q=>(Nat.max_eq_left q).symm▸h
theorem WH{a b:Nat} (h0:a+80<b):a<b:=aY a b 0 0 0 0 (.a (.v 0) (.n 1)) (.v 1) (.a (.a (.v 0) (.n 80)) (.n 1)) (.v 1) rfl h0
theorem WI{a b:Nat} (h0:a+80<b):a+1<b:=aY a b 0 0 0 0 (.a (.a (.v 0) (.n 1)) (.n 1)) (.v 1) (.a (.a (.v 0) (.n 80)) (.n 1)) (.v 1) rfl h0
theorem zl{a b c d:Nat} (h0:a+b<=1048576) (h1:a=c) (h2:b=d):c+d<=16777216:=iB a b c d 0 0 (.a (.v 2) (.v 3)) (.n 16777216) (.a (.v 0) (.v 1)) (.n 1048576) (.v 2) (.v 0) (.v 3) (.v 1) rfl h0 (bt h1.symm) (bt h2.symm)
theorem WJ{a:Int} (h0:0<a):a≠0:=(Int.ne_of_lt h0).symm
theorem WK{a b:Int} (h0:a=7/\0<=b/\b<10000000000):a≠0:=h0.1▸by decide
theorem WL{a b:Nat} (h0:0=a) (h1:0=b):b=a:=hF (aY a b 0 0 0 0 (.v 1) (.v 0) (.v 1) (.n 0) rfl (bt h1.symm)) (aY a b 0 0 0 0 (.v 0) (.v 1) (.v 0) (.n 0) rfl (bt h0.symm))
theorem WM{a b:Nat} (h0:0=a):¬b<a:=pe (aY a b 0 0 0 0 (.v 0) (.v 1) (.v 0) (.n 0) rfl (bt h0.symm))
theorem FE{a b:Nat} (h0:a+64<b):a<b:=aY a b 0 0 0 0 (.a (.v 0) (.n 1)) (.v 1) (.a (.a (.v 0) (.n 64)) (.n 1)) (.v 1) rfl h0
theorem Tv{a b c:Nat} (h0:0=a) (h1:b=c) (h2:¬b=0):c≠a:=fun h=>h2 (h1.trans (h.trans h0.symm))
theorem Tw{b:Nat}{a:Int} (h0:a=↑b):0<=a:=h0▸hH b
theorem Tx{a b c:Nat} (h0:a<=b):min c a<=b:=aK (Nat.min_le_right _ _) h0
theorem Tz{a b:Nat} (h0:a<b):a≠b:=jH h0
theorem pQ{a b:Nat} (h0:a<=1048576) (h1:a=b):b<=16777216:=ln2 a b 0 0 0 0 (.v 1) (.n 16777216) (.v 0) (.n 1048576) (.v 1) (.v 0) rfl h0 (bt h1.symm)
theorem TA{a b c:Nat} (h0:a=b) (h1:1<=c/\c<=a/\a<=1048576):c<=b:=ln2 a b c 0 0 0 (.v 2) (.v 1) (.v 0) (.v 1) (.v 2) (.v 0) rfl (bt h0) h1.2.1
theorem TB{a b c:Nat} (h0:a=b) (h1:1<=c/\c<=a/\a<=1048576):b<=16777216:=ln2 a b c 0 0 0 (.v 1) (.n 16777216) (.v 1) (.v 0) (.v 0) (.n 1048576) rfl (bt h0.symm) h1.2.2
theorem TC{a b c:Nat} (h0:a=b) (h1:c<a/\a<=1048576):c<b:=ln2 a b c 0 0 0 (.a (.v 2) (.n 1)) (.v 1) (.v 0) (.v 1) (.a (.v 2) (.n 1)) (.v 0) rfl (bt h0) h1.1
theorem TF{a b c:Nat} (h0:a=b) (h1:c<a/\a<=1048576):b<=16777216:=ln2 a b c 0 0 0 (.v 1) (.n 16777216) (.v 1) (.v 0) (.v 0) (.n 1048576) rfl (bt h0.symm) h1.2
theorem TG{a:Nat} (h0:a<=1000):a<=16777216+1:=aY a 0 0 0 0 0 (.v 0) (.a (.n 16777216) (.n 1)) (.v 0) (.n 1000) rfl h0
theorem sF{a b:Nat} (h0:a<=b) (h1:b-a=0):b=a:=hF (Nat.le_of_sub_eq_zero h1) h0
theorem TH{a b:Nat} (h0:a+2*b+1<=999):a+2*b<=999:=FC h0
theorem TJ{a b c:Nat} (h0:a+10*b+505<=c):a+10*b+500<=c:=nA h0 rfl
theorem TL{a b:Nat} (h0:a+2*b+1<=999):a+1+2*b<=999:=aY a b 0 0 0 0 (.a (.a (.v 0) (.n 1)) (.m 2 (.v 1))) (.n 999) (.a (.a (.v 0) (.m 2 (.v 1))) (.n 1)) (.n 999) rfl h0
theorem TM{a b c:Nat} (h0:a+10*b+505<=c):a+1+10*b+500<=c:=aY a b c 0 0 0 (.a (.a (.a (.v 0) (.n 1)) (.m 10 (.v 1))) (.n 500)) (.v 2) (.a (.a (.v 0) (.m 10 (.v 1))) (.n 505)) (.v 2) rfl h0
theorem TN{a b:Nat} (h0:a<=1048576) (h1:b=a):b<=16777216:=ln2 a b 0 0 0 0 (.v 1) (.n 16777216) (.v 0) (.n 1048576) (.v 1) (.v 0) rfl h0 (bt h1)
theorem yn{a b:Nat} (h0:a+100<b):a+1+80<b:=aY a b 0 0 0 0 (.a (.a (.a (.v 0) (.n 1)) (.n 80)) (.n 1)) (.v 1) (.a (.a (.v 0) (.n 100)) (.n 1)) (.v 1) rfl h0
theorem TO{a:Nat} (h0:a<=1048576):a<=16777216:=nF h0 rfl
theorem TP{a:Nat} (h0:a<=1048576):a+1<=16777216+1:=aY a 0 0 0 0 0 (.a (.v 0) (.n 1)) (.a (.n 16777216) (.n 1)) (.v 0) (.n 1048576) rfl h0
theorem D7{a b:Nat} (h0:a+b<=1048576):a<=16777216:=aY a b 0 0 0 0 (.v 0) (.n 16777216) (.a (.v 0) (.v 1)) (.n 1048576) rfl h0
theorem D8{a b:Nat} (h0:a+b<=1048576):a+b<=16777216+1:=aY a b 0 0 0 0 (.a (.v 0) (.v 1)) (.a (.n 16777216) (.n 1)) (.a (.v 0) (.v 1)) (.n 1048576) rfl h0
theorem TQ{a b c:Nat} (h0:a<b/\b<=1048576) (h1:b=c):a<c:=ln2 a b c 0 0 0 (.a (.v 0) (.n 1)) (.v 2) (.a (.v 0) (.n 1)) (.v 1) (.v 1) (.v 2) rfl h0.1 (bt h1)
theorem TS{a b c:Nat} (h0:a<b/\b<=1048576) (h1:b=c):c<=1048576:=ln2 a b c 0 0 0 (.v 2) (.n 1048576) (.v 1) (.n 1048576) (.v 2) (.v 1) rfl h0.2 (bt h1.symm)
theorem sG{a b:Nat} (h0:a<=1000) (h1:b=a):b<=16777216:=ln2 a b 0 0 0 0 (.v 1) (.n 16777216) (.v 0) (.n 1000) (.v 1) (.v 0) rfl h0 (bt h1)
theorem TU{a:Nat}{b:Int} (h0:a<=1000) (h1:↑a=b): -9223372036854775808<=b/\b<9223372036854775808:=by subst h1;exact⟨pj (by decide) (hH a),lP (pz.mpr h0) (by decide)⟩
theorem TV{a:Nat} (h0:0+1=a):a<=1000:=aY a 0 0 0 0 0 (.v 0) (.n 1000) (.v 0) (.a (.n 0) (.n 1)) rfl (bt h0.symm)
theorem ny{a b:Nat} (h0:a+100<b):a+64<b:=aY a b 0 0 0 0 (.a (.a (.v 0) (.n 64)) (.n 1)) (.v 1) (.a (.a (.v 0) (.n 100)) (.n 1)) (.v 1) rfl h0
theorem TX{a:Nat} (h0:a<29):a+0+0<30:=aY a 0 0 0 0 0 (.a (.a (.a (.v 0) (.n 0)) (.n 0)) (.n 1)) (.n 30) (.a (.v 0) (.n 1)) (.n 29) rfl h0
theorem D9{a b:Nat} (h0:a+(b+1)<=1000):a<=1048576:=aY a b 0 0 0 0 (.v 0) (.n 1048576) (.a (.v 0) (.a (.v 1) (.n 1))) (.n 1000) rfl h0
theorem Ea{a b c:Nat} (h0:a+(b+1)<=1000) (h1:c<=a+1):c+b<=1000:=ln2 a b c 0 0 0 (.a (.v 2) (.v 1)) (.n 1000) (.a (.v 0) (.a (.v 1) (.n 1))) (.n 1000) (.v 2) (.a (.v 0) (.n 1)) rfl h0 h1
theorem TY{a:Nat} (h0:a<=15):a<=1000:=nF h0 rfl
theorem TZ{b:Nat}{a:Int} (h0:a=↑b):a-0=↑b:=(Int.sub_zero a).trans h0
theorem T1{a b c:Nat} (h0:a<=1048576) (h1:b<a) (h2:c=b):c<=1048576:=iB a b c 0 0 0 (.v 2) (.n 1048576) (.v 0) (.n 1048576) (.a (.v 1) (.n 1)) (.v 0) (.v 2) (.v 1) rfl h0 h1 (bt h2)
theorem Eb{a b:Nat} (h0:a<b):b+1- (a+1)<b+1-a:=(Nat.add_sub_add_right b 1 a).symm▸Nat.sub_lt_sub_right (pA h0) (so b)
theorem T2{a:Nat} (h0:a<=1000):a<=1048576:=nF h0 rfl
theorem T3{a b:Nat} (h0:a+(b+1)<17):a+1<17:=aY a b 0 0 0 0 (.a (.a (.v 0) (.n 1)) (.n 1)) (.n 17) (.a (.a (.v 0) (.a (.v 1) (.n 1))) (.n 1)) (.n 17) rfl h0
theorem T4{a b:Nat} (h0:a+(b+1)<17):a+1+b<17:=aY a b 0 0 0 0 (.a (.a (.a (.v 0) (.n 1)) (.v 1)) (.n 1)) (.n 17) (.a (.a (.v 0) (.a (.v 1) (.n 1))) (.n 1)) (.n 17) rfl h0
theorem Ec{a:Nat} (h0:a+1<17):¬a=16:=jH (wg h0)
theorem T5{a:Nat} (h0:a=16):a<17:=aY a 0 0 0 0 0 (.a (.v 0) (.n 1)) (.n 17) (.v 0) (.n 16) rfl (bt h0)
theorem T6{a b c d:Nat} (h0:a<=b) (h1:c=a) (h2:c=d):d<=b:=iB a b c d 0 0 (.v 3) (.v 1) (.v 0) (.v 1) (.v 2) (.v 0) (.v 3) (.v 2) rfl h0 (bt h1) (bt h2.symm)
theorem T7{a b:Nat} (h0:17<a) (h1:b=2*a):min (2*17) b=2*17:=h1▸Nat.min_eq_left (m6 2 (pA h0))
theorem T8{a b c d:Nat} (h0:a=2*b) (h1:c=a-2*17) (h2:c=2*d):d=b-17:=Nat.eq_of_mul_eq_mul_left (pB 1) (h2.symm.trans (h1.trans ((congrArg (· -2*17) h0).trans (Nat.mul_sub 2 b 17).symm)))
theorem T9{a b:Nat} (h0:17<a) (h1:b=a):16<b:=ln2 a b 0 0 0 0 (.a (.n 16) (.n 1)) (.v 1) (.a (.n 17) (.n 1)) (.v 0) (.v 0) (.v 1) rfl h0 (bt h1.symm)
theorem Ua{a:Nat} (h0:17<a) (h1:0=a-17):False:=Nat.not_le_of_lt h0 (Nat.le_of_sub_eq_zero h1.symm)
theorem Ub{a b:Nat} (h0:a<=31) (h1:b=a-17):b<=15:=(aK (bt h1) (Nat.sub_le_of_le_add (aK h0 (dZ 31))))
theorem Uc{a:Nat} (h0:a<=31):a<=1017:=nF h0 rfl
theorem Ud{a b c:Nat} (h0:a<=31) (h1:b=17) (h2:c=a-17):b+c<=16777216:=h1▸h2▸aK (dD (Nat.sub_le_sub_right h0 17) 17) (nC rfl)
theorem Ue{a b c:Nat} {d:Int} (h0:a<b/\a<1048576) (h1:b=c) (h2:d=↑a):d<↑c:=by subst h1 h2;exact f9.mpr h0.1
theorem Ug{a b c:Nat} (h0:a+b<=1048576) (h1:a=c):c<=1048576:=ln2 a b c 0 0 0 (.v 2) (.n 1048576) (.a (.v 0) (.v 1)) (.n 1048576) (.v 2) (.v 0) rfl h0 (bt h1.symm)
theorem Uh{a b c d:Nat} (h0:a+b<=1048576) (h1:a=c) (h2:b=d):c+d<=1048576:=iB a b c d 0 0 (.a (.v 2) (.v 3)) (.n 1048576) (.a (.v 0) (.v 1)) (.n 1048576) (.v 2) (.v 0) (.v 3) (.v 1) rfl h0 (bt h1.symm) (bt h2.symm)
theorem Ui{a b c:Nat} (h0:a=b) (h1:a=c):b=c:=hF (ln2 a b c 0 0 0 (.v 1) (.v 2) (.v 1) (.v 0) (.v 0) (.v 2) rfl (bt h0.symm) (bt h1)) (ln2 a b c 0 0 0 (.v 2) (.v 1) (.v 0) (.v 1) (.v 2) (.v 0) rfl (bt h0) (bt h1.symm))
theorem Uj{a b:Nat} (h0:a=b):¬a>b:=pe (aY a b 0 0 0 0 (.v 0) (.v 1) (.v 0) (.v 1) rfl (bt h0))
theorem Uk{a b c:Nat} (h0:a=b) (h1:c<b):c<a:=ln2 a b c 0 0 0 (.a (.v 2) (.n 1)) (.v 0) (.v 1) (.v 0) (.a (.v 2) (.n 1)) (.v 1) rfl (bt h0.symm) h1
theorem Ul{a b:Nat} (h0:a+2*(b+1)<=999):a<=997:=aY a b 0 0 0 0 (.v 0) (.n 997) (.a (.v 0) (.m 2 (.a (.v 1) (.n 1)))) (.n 999) rfl h0
theorem Um{a b:Nat} (h0:a+2*(b+1)<=999):a+1+2*b+1<=999:=aY a b 0 0 0 0 (.a (.a (.a (.v 0) (.n 1)) (.m 2 (.v 1))) (.n 1)) (.n 999) (.a (.v 0) (.m 2 (.a (.v 1) (.n 1)))) (.n 999) rfl h0
theorem Un{a b c:Nat} (h0:a+10*(b+1)+500<=c):a+3+10*b+505<=c:=aY a b c 0 0 0 (.a (.a (.a (.v 0) (.n 3)) (.m 10 (.v 1))) (.n 505)) (.v 2) (.a (.a (.v 0) (.m 10 (.a (.v 1) (.n 1)))) (.n 500)) (.v 2) rfl h0
theorem Uo{a b c:Nat} (h0:a+10*b+505<=c):a+100<c:=aY a b c 0 0 0 (.a (.a (.v 0) (.n 100)) (.n 1)) (.v 2) (.a (.a (.v 0) (.m 10 (.v 1))) (.n 505)) (.v 2) rfl h0
theorem Ed{a:Nat}:¬a+16<16:=pe (cQ a 0 0 0 0 0 (.n 16) (.a (.v 0) (.n 16)) rfl)
theorem Ee{a:Nat} (h0:a<124):a/8<16:=(Nat.div_lt_iff_lt_mul (pB 7)).mpr (pD h0 (nC rfl))
theorem Up{a:Nat} (h0:a<=345):301+2*a<=999:=ln2 a 0 0 0 0 0 (.a (.n 301) (.m 2 (.v 0))) (.n 999) (.v 0) (.n 345) (.v 0) (.n 345) rfl h0 h0
theorem Uq{a:Nat} (h0:a<=345):4+10*a+500<=9900:=aK (ip (dD (m6 10 h0) 4) 500) (nC rfl)
theorem Ur{a b c:Nat} (h0:a<=b) (h1:b<=c):0+a<=c:=ln2 a b c 0 0 0 (.a (.n 0) (.v 0)) (.v 2) (.v 0) (.v 1) (.v 1) (.v 2) rfl h0 h1
theorem iZ{a b:Nat}:a+1+b=a+(b+1):=hF (cQ a b 0 0 0 0 (.a (.a (.v 0) (.n 1)) (.v 1)) (.a (.v 0) (.a (.v 1) (.n 1))) rfl) (cQ a b 0 0 0 0 (.a (.v 0) (.a (.v 1) (.n 1))) (.a (.a (.v 0) (.n 1)) (.v 1)) rfl)
theorem Ef{a b:Nat}:a<=a+b:=bE _ _
theorem Eg{a b:Nat}:a+b-a=b:=m7 _ _
theorem Us{a:Nat} (h0:a<=1048576):a<2147483648:=aY a 0 0 0 0 0 (.a (.v 0) (.n 1)) (.n 2147483648) (.v 0) (.n 1048576) rfl h0
theorem CR{a b:Nat} (h0:a+b<=1048000):a+b+1<=1048576:=aY a b 0 0 0 0 (.a (.a (.v 0) (.v 1)) (.n 1)) (.n 1048576) (.a (.v 0) (.v 1)) (.n 1048000) rfl h0
theorem NI{a b:Nat} (h0:a+b<=1048000):a+b<=1048576:=nF h0 rfl
theorem NJ{a b:Nat}:a+(19+b)=a+b+19:=hF (cQ a b 0 0 0 0 (.a (.v 0) (.a (.n 19) (.v 1))) (.a (.a (.v 0) (.v 1)) (.n 19)) rfl) (cQ a b 0 0 0 0 (.a (.a (.v 0) (.v 1)) (.n 19)) (.a (.v 0) (.a (.n 19) (.v 1))) rfl)
theorem NK{a b c:Nat} (h0:a+b<=1048000) (h1:c<b):a+c+1<2147483648:=ln2 a b c 0 0 0 (.a (.a (.a (.v 0) (.v 2)) (.n 1)) (.n 1)) (.n 2147483648) (.a (.v 0) (.v 1)) (.n 1048000) (.a (.v 2) (.n 1)) (.v 1) rfl h0 h1
theorem NL{a b:Nat}:a+b+100=a+19+b+81:=hF (cQ a b 0 0 0 0 (.a (.a (.v 0) (.v 1)) (.n 100)) (.a (.a (.a (.v 0) (.n 19)) (.v 1)) (.n 81)) rfl) (cQ a b 0 0 0 0 (.a (.a (.a (.v 0) (.n 19)) (.v 1)) (.n 81)) (.a (.a (.v 0) (.v 1)) (.n 100)) rfl)
theorem NM{a b:Nat}:a<=a+19+b:=cQ a b 0 0 0 0 (.v 0) (.a (.a (.v 0) (.n 19)) (.v 1)) rfl
theorem NO{a b:Nat}:a+19+b-a=19+b:=(congrArg (· -a) (lO a 19 b)).trans (m7 _ _)
theorem CS{a:Nat}:19<=19+a:=bE _ _
theorem CT{a:Nat}:19+a-19=a:=m7 _ _
theorem NP{a b c:Nat} (h0:a+b<=1048000) (h1:c<a):c+1<2147483648:=ln2 a b c 0 0 0 (.a (.a (.v 2) (.n 1)) (.n 1)) (.n 2147483648) (.a (.v 0) (.v 1)) (.n 1048000) (.a (.v 2) (.n 1)) (.v 0) rfl h0 h1
theorem NQ{a b c:Nat} (h0:5*(a+1)+12<=b) (h1:c<=5):5*a+12+c<=b:=ln2 a b c 0 0 0 (.a (.a (.m 5 (.v 0)) (.n 12)) (.v 2)) (.v 1) (.a (.m 5 (.a (.v 0) (.n 1))) (.n 12)) (.v 1) (.v 2) (.n 5) rfl h0 h1
theorem NR{a b c:Nat} (h0:5*(a+2)+12<=b) (h1:c<=5):5*a+12+c<=b:=ln2 a b c 0 0 0 (.a (.a (.m 5 (.v 0)) (.n 12)) (.v 2)) (.v 1) (.a (.m 5 (.a (.v 0) (.n 2))) (.n 12)) (.v 1) (.v 2) (.n 5) rfl h0 h1
theorem NS{a b c:Nat} (h0:5*(a+1)+14<=b) (h1:c<=5):5*a+12+c<=b:=ln2 a b c 0 0 0 (.a (.a (.m 5 (.v 0)) (.n 12)) (.v 2)) (.v 1) (.a (.m 5 (.a (.v 0) (.n 1))) (.n 14)) (.v 1) (.v 2) (.n 5) rfl h0 h1
theorem NT{a b c:Nat} (h0:5*a+12<=b) (h1:c<=6):6+c<=b:=ln2 a b c 0 0 0 (.a (.n 6) (.v 2)) (.v 1) (.a (.m 5 (.v 0)) (.n 12)) (.v 1) (.v 2) (.n 6) rfl h0 h1
theorem NU{a b c:Nat} (h0:5*a+12<=b) (h1:c<=4):8+c<=b:=ln2 a b c 0 0 0 (.a (.n 8) (.v 2)) (.v 1) (.a (.m 5 (.v 0)) (.n 12)) (.v 1) (.v 2) (.n 4) rfl h0 h1
theorem NV{a b c:Nat} (h0:5*(a+2)+12<=b) (h1:c<=3):5*a+14+c<=b:=ln2 a b c 0 0 0 (.a (.a (.m 5 (.v 0)) (.n 14)) (.v 2)) (.v 1) (.a (.m 5 (.a (.v 0) (.n 2))) (.n 12)) (.v 1) (.v 2) (.n 3) rfl h0 h1
theorem CU{a b c:Nat} (h0:a+1<=b) (h1:b<=c):a<=c-9+8:=Nat.le_of_succ_le_succ (aK (aK h0 h1) (Nat.sub_le_iff_le_add.mp (aO (c-9))))
theorem NW{a:Nat}:9<=5*a+12+1:=nC rfl
theorem NX{a:Nat}:5*a+12+1+1<=5*(a+1)+12:=cQ a 0 0 0 0 0 (.a (.a (.a (.m 5 (.v 0)) (.n 12)) (.n 1)) (.n 1)) (.a (.m 5 (.a (.v 0) (.n 1))) (.n 12)) rfl
theorem NY{a b c:Nat} (h0:a+b<=c):c=c-b+b:=(ke (aK (cj b a) h0)).symm
theorem NZ{a b c:Nat} (h0:a+b<=c):a<=c-b:=kg h0
theorem r5{a:Nat}:a+2<=a+2:=nB rfl
theorem N1{a b c:Nat}:a+b<=a+c+b:=cQ a b c 0 0 0 (.a (.v 0) (.v 1)) (.a (.a (.v 0) (.v 2)) (.v 1)) rfl
theorem N2{a b c d:Nat}:a+b+c<=a+(b+d)+c:=cQ a b c d 0 0 (.a (.a (.v 0) (.v 1)) (.v 2)) (.a (.a (.v 0) (.a (.v 1) (.v 3))) (.v 2)) rfl
theorem N3{a b c d e:Nat}:a+b+c+d<=a+(b+(c+e))+d:=cQ a b c d e 0 (.a (.a (.a (.v 0) (.v 1)) (.v 2)) (.v 3)) (.a (.a (.v 0) (.a (.v 1) (.a (.v 2) (.v 4)))) (.v 3)) rfl
theorem N4{a b c d e f:Nat}:a+b+c+d+e<=a+(b+(c+(d+f)))+e:=cQ a b c d e f (.a (.a (.a (.a (.v 0) (.v 1)) (.v 2)) (.v 3)) (.v 4)) (.a (.a (.v 0) (.a (.v 1) (.a (.v 2) (.a (.v 3) (.v 5))))) (.v 4)) rfl
theorem N5{a:Nat} (h0:a+1+1+1+1+1<=4):False:=Nat.not_succ_le_zero _ (aY a 0 0 0 0 0 (.n 1) (.n 0) (.a (.a (.a (.a (.a (.v 0) (.n 1)) (.n 1)) (.n 1)) (.n 1)) (.n 1)) (.n 4) rfl h0)
theorem N6{a:Nat} (h0:a+1<=4):a<=3:=aY a 0 0 0 0 0 (.v 0) (.n 3) (.a (.v 0) (.n 1)) (.n 4) rfl h0
theorem N7{a b:Nat} (h0:a<=b):¬b<a:=pe (aY a b 0 0 0 0 (.v 0) (.v 1) (.v 0) (.v 1) rfl h0)
theorem CW{a b:Nat} (h0:¬a<b):b<=a:=aY a b 0 0 0 0 (.v 1) (.v 0) (.v 1) (.v 0) rfl (sq h0)
theorem N8{a b:Nat} (h0:a<=b) (h1:¬a<b):a=b:=hF (aY a b 0 0 0 0 (.v 0) (.v 1) (.v 0) (.v 1) rfl h0) (aY a b 0 0 0 0 (.v 1) (.v 0) (.v 1) (.v 0) rfl (sq h1))
theorem N9{a b:Nat} (h0:a+8<=b):6+2<=b:=aY a b 0 0 0 0 (.a (.n 6) (.n 2)) (.v 1) (.a (.v 0) (.n 8)) (.v 1) rfl h0
theorem CX{a b:Nat} (h0:a<=b) (h1:b<a+(0+1)):b=a:=hF (aY a b 0 0 0 0 (.v 1) (.v 0) (.a (.v 1) (.n 1)) (.a (.v 0) (.a (.n 0) (.n 1))) rfl h1) (aY a b 0 0 0 0 (.v 0) (.v 1) (.v 0) (.v 1) rfl h0)
theorem Oa{a b:Nat} (h0:20<=a) (h1:a<=b):8+3<=b:=ln2 a b 0 0 0 0 (.a (.n 8) (.n 3)) (.v 1) (.n 20) (.v 0) (.v 0) (.v 1) rfl h0 h1
theorem Oc{a:Nat} (h0:8<=a):a=a-8+8:=(ke h0).symm
theorem CY{a b:Nat} (h0:a+1<=b):1<=b:=nE h0 rfl
theorem Od{a b:Nat} (h0:a+1<=b):0+a+1+(0+0)<=b:=aY a b 0 0 0 0 (.a (.a (.a (.n 0) (.v 0)) (.n 1)) (.a (.n 0) (.n 0))) (.v 1) (.a (.v 0) (.n 1)) (.v 1) rfl h0
theorem Oe{a:Nat}:0+0+a<=a:=cQ a 0 0 0 0 0 (.a (.a (.n 0) (.n 0)) (.v 0)) (.v 0) rfl
theorem Of{a b:Nat}:a+1+(b+1)<=a+b+2:=cQ a b 0 0 0 0 (.a (.a (.v 0) (.n 1)) (.a (.v 1) (.n 1))) (.a (.a (.v 0) (.v 1)) (.n 2)) rfl
theorem Og{a b c d e f:Nat} (h0:a<=b+(c+d)) (h1:e<=a+1) (h2:f<=e+1):f<=b+(d+c+2):=iB a b c d e f (.v 5) (.a (.v 1) (.a (.a (.v 3) (.v 2)) (.n 2))) (.v 0) (.a (.v 1) (.a (.v 2) (.v 3))) (.v 4) (.a (.v 0) (.n 1)) (.v 5) (.a (.v 4) (.n 1)) rfl h0 h1 h2
theorem Oh{a b:Nat} (h0:a<=1) (h1:b<=1):a+b<=4:=ln2 a b 0 0 0 0 (.a (.v 0) (.v 1)) (.n 4) (.v 0) (.n 1) (.v 1) (.n 1) rfl h0 h1
theorem Oi{a b:Nat} (h0:a+3<=b) (h1:11<=b):max (a+1) 9+2<=b:=Nat.add_le_of_le_sub (aK (nC rfl) h1) (Nat.max_le.mpr ⟨kg h0,kg h1⟩)
theorem Oj{a b:Nat}:a+(0+b+1)+0<=a+b+2:=cQ a b 0 0 0 0 (.a (.a (.v 0) (.a (.a (.n 0) (.v 1)) (.n 1))) (.n 0)) (.a (.a (.v 0) (.v 1)) (.n 2)) rfl
theorem Ol{a b c:Nat} (h0:a<=b) (h1:b+20<=c):a+2<=c:=ln2 a b c 0 0 0 (.a (.v 0) (.n 2)) (.v 2) (.v 0) (.v 1) (.a (.v 1) (.n 20)) (.v 2) rfl h0 h1
theorem Om{a b c:Nat} (h0:a<=b) (h1:b+20<=c):a+3<=c:=ln2 a b c 0 0 0 (.a (.v 0) (.n 3)) (.v 2) (.v 0) (.v 1) (.a (.v 1) (.n 20)) (.v 2) rfl h0 h1
theorem Oo{a b c:Nat} (h0:a<=b) (h1:b+24<=c):a+4<=c:=ln2 a b c 0 0 0 (.a (.v 0) (.n 4)) (.v 2) (.v 0) (.v 1) (.a (.v 1) (.n 24)) (.v 2) rfl h0 h1
theorem Oq{a b c:Nat} (h0:a<=b) (h1:b+24<=c):a+3<=c:=ln2 a b c 0 0 0 (.a (.v 0) (.n 3)) (.v 2) (.v 0) (.v 1) (.a (.v 1) (.n 24)) (.v 2) rfl h0 h1
theorem Ot{a b c d e f:Nat} (h0:a+b+5<=c) (h1:d<=e+(a+b)) (h2:f<=d+1):f<=e+c:=iB a b c d e f (.v 5) (.a (.v 4) (.v 2)) (.a (.a (.v 0) (.v 1)) (.n 5)) (.v 2) (.v 3) (.a (.v 4) (.a (.v 0) (.v 1))) (.v 5) (.a (.v 3) (.n 1)) rfl h0 h1 h2
theorem Ou{a b c:Nat} (h0:a+30<=b) (h1:b<=c):a+24+4<=c:=ln2 a b c 0 0 0 (.a (.a (.v 0) (.n 24)) (.n 4)) (.v 2) (.a (.v 0) (.n 30)) (.v 1) (.v 1) (.v 2) rfl h0 h1
theorem Ov{a b:Nat} (h0:a+5+2<=b) (h1:11<=b):max (a+1) (max a 4+5)+2<=b:=tA (aK (show a+3<=a+7 from nB rfl) h0) (tA (n:=7) h0 h1)
theorem Ow{a:Nat}:4+1<=max (a+1) (max a 4+2):=aK (aK (show 5<=6 from nC rfl) (ip (kh a 4) 2)) (kh _ _)
theorem Ox{a:Nat} (h0:a<=2):a+(0+1+1)<=4:=aY a 0 0 0 0 0 (.a (.v 0) (.a (.a (.n 0) (.n 1)) (.n 1))) (.n 4) (.v 0) (.n 2) rfl h0
theorem Oy{a:Nat}:1<=max (a+1) (max a 4+2):=aK (cj 1 a) (sr _ _)
theorem Oz{a b c d e f:Nat} (h0:a+b+5<=c) (h1:d<=e+a) (h2:f<=d+(0+1)+b):f<=e+c:=iB a b c d e f (.v 5) (.a (.v 4) (.v 2)) (.a (.a (.v 0) (.v 1)) (.n 5)) (.v 2) (.v 3) (.a (.v 4) (.v 0)) (.v 5) (.a (.a (.v 3) (.a (.n 0) (.n 1))) (.v 1)) rfl h0 h1 h2
theorem OA{a b:Nat} (h0:a+5+2<=b) (h1:11<=b):max (a+1) (max a 4+2)+2<=b:=tA (aK (show a+3<=a+7 from nB rfl) h0) (tA (n:=4) (aK (show a+4<=a+7 from nB rfl) h0) (aK (show 8<=11 from nC rfl) h1))
theorem OC{a b c:Nat} (h0:a+b+5<=c):a+(1+(b+2))+0<=c:=aY a b c 0 0 0 (.a (.a (.v 0) (.a (.n 1) (.a (.v 1) (.n 2)))) (.n 0)) (.v 2) (.a (.a (.v 0) (.v 1)) (.n 5)) (.v 2) rfl h0
theorem OD{a:Nat} (h0:a<=2):a+(0+1+1)<=1048576:=aY a 0 0 0 0 0 (.a (.v 0) (.a (.a (.n 0) (.n 1)) (.n 1))) (.n 1048576) (.v 0) (.n 2) rfl h0
theorem OE{a b:Nat} (h0:¬a<b) (h1:¬a=b):b+(0+1)<=a:=Nat.lt_of_le_of_ne (sq h0) (gf h1)
theorem CZ{a b c d e:Nat} (h0:a+b+5<=c) (h1:d<=e+(a+b)):d<=e+c:=ln2 a b c d e 0 (.v 3) (.a (.v 4) (.v 2)) (.a (.a (.v 0) (.v 1)) (.n 5)) (.v 2) (.v 3) (.a (.v 4) (.a (.v 0) (.v 1))) rfl h0 h1
theorem OF{a b c:Nat} (h0:a+30<=b) (h1:b<=c):a+24+3<=c:=ln2 a b c 0 0 0 (.a (.a (.v 0) (.n 24)) (.n 3)) (.v 2) (.a (.v 0) (.n 30)) (.v 1) (.v 1) (.v 2) rfl h0 h1
theorem OG{a b c:Nat} (h0:a+8<=b) (h1:b<=c):c=c-7+7:=(ke (aK (aK (dZ 7) (cj 8 a)) (aK h0 h1))).symm
theorem OH{a b c:Nat} (h0:a+8<=b) (h1:b<=c):a<=c-7+6:=Nat.le_of_succ_le_succ (aK (aK (show a+1<=a+8 from nB rfl) (aK h0 h1)) (Nat.sub_le_iff_le_add.mp (aO (c-7))))
theorem OI{a:Nat} (h0:a<=1000):a+1<=1048576:=aY a 0 0 0 0 0 (.a (.v 0) (.n 1)) (.n 1048576) (.v 0) (.n 1000) rfl h0
theorem OJ{a b:Nat} (h0:a+8<=b):a+1<=b:=nA h0 rfl
theorem OK{a:Nat} (h0:12<=a):9<=a:=nE h0 rfl
theorem OL{a b:Nat} (h0:a<=b):a+1<=b+1:=aY a b 0 0 0 0 (.a (.v 0) (.n 1)) (.a (.v 1) (.n 1)) (.v 0) (.v 1) rfl h0
theorem OM{a:Nat}:a+a+a+a<=10*a:=cQ a 0 0 0 0 0 (.a (.a (.a (.v 0) (.v 0)) (.v 0)) (.v 0)) (.m 10 (.v 0)) rfl
theorem ON{a:Nat}:3*a+3*a<=10*a:=cQ a 0 0 0 0 0 (.a (.m 3 (.v 0)) (.m 3 (.v 0))) (.m 10 (.v 0)) rfl
theorem OO{a:Nat}:3*a+a<=10*a:=cQ a 0 0 0 0 0 (.a (.m 3 (.v 0)) (.v 0)) (.m 10 (.v 0)) rfl
theorem OP{a:Nat} (h0:10<=a):a+2<=10*a:=aY a 0 0 0 0 0 (.a (.v 0) (.n 2)) (.m 10 (.v 0)) (.n 10) (.v 0) rfl h0
theorem OQ{a:Nat} (h0:10<=a):a+a+2<=10*a:=aY a 0 0 0 0 0 (.a (.a (.v 0) (.v 0)) (.n 2)) (.m 10 (.v 0)) (.n 10) (.v 0) rfl h0
theorem OS{a b:Nat} (h0:5*a+20<=b):5*a+40<=b+60:=aY a b 0 0 0 0 (.a (.m 5 (.v 0)) (.n 40)) (.a (.v 1) (.n 60)) (.a (.m 5 (.v 0)) (.n 20)) (.v 1) rfl h0
theorem C0{a b:Nat}:a<=max a b:=sr a b
theorem C3{a b:Nat}:a<=max b a:=kh b a
theorem r6{a b:Nat} (h0:a<=b+7):max b a+5+2<=b+14:=ip (ip (Nat.max_le.mpr ⟨bE b 7,h0⟩) 5) 2
theorem C5{a:Nat}:a+a<=2*a:=cQ a 0 0 0 0 0 (.a (.v 0) (.v 0)) (.m 2 (.v 0)) rfl
theorem C6{a:Nat}:a<=2*a:=cQ a 0 0 0 0 0 (.v 0) (.m 2 (.v 0)) rfl
theorem OT{a:Nat}:a<=3*a:=cQ a 0 0 0 0 0 (.v 0) (.m 3 (.v 0)) rfl
theorem C7{a:Nat}:2*a<=3*a:=cQ a 0 0 0 0 0 (.m 2 (.v 0)) (.m 3 (.v 0)) rfl
theorem OU{a:Nat} (h0:10<=a):2*a+a+2<=10*a:=aY a 0 0 0 0 0 (.a (.a (.m 2 (.v 0)) (.v 0)) (.n 2)) (.m 10 (.v 0)) (.n 10) (.v 0) rfl h0
theorem OV{a b:Nat} (h0:5*a+20<=b):5*a+40<=b+30:=aY a b 0 0 0 0 (.a (.m 5 (.v 0)) (.n 40)) (.a (.v 1) (.n 30)) (.a (.m 5 (.v 0)) (.n 20)) (.v 1) rfl h0
theorem OW{a:Nat} (h0:10<=a):0+a+2<=3*a:=aY a 0 0 0 0 0 (.a (.a (.n 0) (.v 0)) (.n 2)) (.m 3 (.v 0)) (.n 10) (.v 0) rfl h0
theorem OX{a:Nat}:0+a<=3*a:=cQ a 0 0 0 0 0 (.a (.n 0) (.v 0)) (.m 3 (.v 0)) rfl
theorem OY{a:Nat}:2*a<=2*a:=cQ a 0 0 0 0 0 (.m 2 (.v 0)) (.m 2 (.v 0)) rfl
theorem C8{a b c d:Nat} (h0:a<=b) (h1:c<=d+a):c<=d+b:=ln2 a b c d 0 0 (.v 2) (.a (.v 3) (.v 1)) (.v 0) (.v 1) (.v 2) (.a (.v 3) (.v 0)) rfl h0 h1
theorem C9{a:Nat}:a<=a+0:=bE _ _
theorem OZ{a:Int} (h0:0<=a/\a<10000000000):a/7<10000000000:=lP (Int.ediv_le_self _ h0.1) h0.2
theorem O0{a:Int} (h0:0<=a):0<=a+1:=pj h0 (Int.le_of_lt (Int.lt_succ a))
theorem O1{a b:Nat} (h0:a<=1000) (h1:b=a):b<2147483648:=ln2 a b 0 0 0 0 (.a (.v 1) (.n 1)) (.n 2147483648) (.v 0) (.n 1000) (.v 1) (.v 0) rfl h0 (bt h1)
theorem O2{a b:Nat} (h0:a<=1000) (h1:b<a):b<2147483648:=ln2 a b 0 0 0 0 (.a (.v 1) (.n 1)) (.n 2147483648) (.v 0) (.n 1000) (.a (.v 1) (.n 1)) (.v 0) rfl h0 h1
theorem O3{a b c:Nat} (h0:a<b) (h1:c=b):a<c:=ln2 a b c 0 0 0 (.a (.v 0) (.n 1)) (.v 2) (.a (.v 0) (.n 1)) (.v 1) (.v 1) (.v 2) rfl h0 (bt h1.symm)
theorem O4{a b:Nat} (h0:a<=1000) (h1:b=a):b<=1048576:=ln2 a b 0 0 0 0 (.v 1) (.n 1048576) (.v 0) (.n 1000) (.v 1) (.v 0) rfl h0 (bt h1)
theorem Dc{a:Nat} (h0:a+1<=300000):a+1<=1048576:=nF h0 rfl
theorem r7{a:Nat} (h0:a+1<=300000):a<=1048576:=aY a 0 0 0 0 0 (.v 0) (.n 1048576) (.a (.v 0) (.n 1)) (.n 300000) rfl h0
theorem O5{a b:Nat} (h0:a<=b):a+(0+1)<=b+(0+1):=aY a b 0 0 0 0 (.a (.v 0) (.a (.n 0) (.n 1))) (.a (.v 1) (.a (.n 0) (.n 1))) (.v 0) (.v 1) rfl h0
theorem O6{a b:Nat} (h0:a<=b) (h1:b+1<=300000):a<=1048576:=ln2 a b 0 0 0 0 (.v 0) (.n 1048576) (.v 0) (.v 1) (.a (.v 1) (.n 1)) (.n 300000) rfl h0 h1
theorem O7{a b:Nat} {c:Int} (h0:a=b) (h1:c=1000+↑a) (h2:c<1000+↑b):False:=by subst h0 h1;exact Int.lt_irrefl _ h2
theorem O8{a:Int} (h0:¬999<a):a<=999:=Int.not_lt.mp h0
theorem O9{a:Int} (h0:¬999<a):a<1000:=lP (Int.not_lt.mp h0) (by decide)
theorem Dd{a:Int} (h0:¬500<=a):a<500:=Int.not_le.mp h0
theorem Pa{b:Nat}{a:Int} (h0:a<1000+↑b):a<1000+↑(b+(0+1)):=m8 h0 (Int.add_lt_add_left (f9.mpr (so b)) 1000)
theorem Pb{a b:Nat} {c:Int} (h0:a=b) (h1:c=1000+↑a):c<1000+↑(b+(0+1)):=by subst h0 h1;exact Int.add_lt_add_left (f9.mpr (so a)) 1000
theorem Pc{a:Int} (h0:a<=999):a<1000:=lP h0 (by decide)
theorem Pd{a:Nat} (h0:a+1<=300000):a<2147483648:=aY a 0 0 0 0 0 (.a (.v 0) (.n 1)) (.n 2147483648) (.a (.v 0) (.n 1)) (.n 300000) rfl h0
theorem Pe{a b c:Nat} (h0:a<=b):a<=b+c:=aY a b c 0 0 0 (.v 0) (.a (.v 1) (.v 2)) (.v 0) (.v 1) rfl h0
theorem Pf{a:Nat}:0+a<=1*a+0:=cQ a 0 0 0 0 0 (.a (.n 0) (.v 0)) (.a (.m 1 (.v 0)) (.n 0)) rfl
theorem Pg{a:Nat}:a<=1*a+0:=cQ a 0 0 0 0 0 (.v 0) (.a (.m 1 (.v 0)) (.n 0)) rfl
theorem Pj{a:Nat} (h0:1<=a):0+(4*a+4)<=10*a:=aK (aK (bt (dq _)) (dD (m6 4 h0) (4*a))) (cQ a 0 0 0 0 0 (.a (.m 4 (.v 0)) (.m 4 (.v 0))) (.m 10 (.v 0)) rfl)
theorem Pk{a:Nat} (h0:1<=a):4*a+4<=10*a:=aK (dD (m6 4 h0) (4*a)) (cQ a 0 0 0 0 0 (.a (.m 4 (.v 0)) (.m 4 (.v 0))) (.m 10 (.v 0)) rfl)
theorem De{a b c:Nat} (h0:a=b):a<=b+c:=aY a b c 0 0 0 (.v 0) (.a (.v 1) (.v 2)) (.v 0) (.v 1) rfl (bt h0)
theorem Pm{a b:Nat} (h0:a<=b):1+a<=b+1:=aY a b 0 0 0 0 (.a (.n 1) (.v 0)) (.a (.v 1) (.n 1)) (.v 0) (.v 1) rfl h0
theorem Po{a b:Nat}:a<=a+b+19:=cQ a b 0 0 0 0 (.v 0) (.a (.a (.v 0) (.v 1)) (.n 19)) rfl
theorem Pp{a b:Nat}:a+b+19-a=19+b:=(congrArg (· -a) (lO a b 19)).trans ((m7 _ _).trans (nh b 19))
theorem Pt{a b:Nat} (h0:a+b<=1048000):a+b+1<2147483648:=aY a b 0 0 0 0 (.a (.a (.a (.v 0) (.v 1)) (.n 1)) (.n 1)) (.n 2147483648) (.a (.v 0) (.v 1)) (.n 1048000) rfl h0
theorem Pu{a:Nat} (h0:a<=1000000):a+1<2147483648:=aY a 0 0 0 0 0 (.a (.a (.v 0) (.n 1)) (.n 1)) (.n 2147483648) (.v 0) (.n 1000000) rfl h0
theorem Pw{a b:Nat} (h0:a+b<=1048000):a+1<2147483648:=aY a b 0 0 0 0 (.a (.a (.v 0) (.n 1)) (.n 1)) (.n 2147483648) (.a (.v 0) (.v 1)) (.n 1048000) rfl h0
theorem Px{a b:Nat} (h0:a<=60) (h1:b+1<=a):b+1<=60:=ln2 a b 0 0 0 0 (.a (.v 1) (.n 1)) (.n 60) (.v 0) (.n 60) (.a (.v 1) (.n 1)) (.v 0) rfl h0 h1
theorem Py{a:Nat} (h0:a<=60):5*a+12+2<=344+1:=aK (ip (m6 5 h0) 14) (by decide)
theorem Pz{a b:Nat}:a+(b+1)=a+1+b:=hF (cQ a b 0 0 0 0 (.a (.v 0) (.a (.v 1) (.n 1))) (.a (.a (.v 0) (.n 1)) (.v 1)) rfl) (cQ a b 0 0 0 0 (.a (.a (.v 0) (.n 1)) (.v 1)) (.a (.v 0) (.a (.v 1) (.n 1))) rfl)
theorem PA{a:Nat} (h0:a<=63):a<=1048576:=nF h0 rfl
theorem PB{a:Nat}:min 40 a<=1048576:=aK (Nat.min_le_left _ _) (nC rfl)
theorem PC{a:Nat} (h0:a<2147483000):a+1<2147483648:=aY a 0 0 0 0 0 (.a (.a (.v 0) (.n 1)) (.n 1)) (.n 2147483648) (.a (.v 0) (.n 1)) (.n 2147483000) rfl h0
theorem PD{a:Nat}:min 39 a<=39:=Nat.min_le_left _ _
theorem PE{a:Int} (h0:a<1000000000):a<10000000000:=m8 h0 (by decide)
theorem PF{a:Nat} (h0:a<=39):a+1<=1000:=aY a 0 0 0 0 0 (.a (.v 0) (.n 1)) (.n 1000) (.v 0) (.n 39) rfl h0
theorem Df:0+100000<=300000:=nC rfl
theorem PG{a:Nat} (h0:a<=39):a<2147483000:=aY a 0 0 0 0 0 (.a (.v 0) (.n 1)) (.n 2147483000) (.v 0) (.n 39) rfl h0
theorem PH{a b:Nat} (h0:a+b<=100000):a<=1000000:=aY a b 0 0 0 0 (.v 0) (.n 1000000) (.a (.v 0) (.v 1)) (.n 100000) rfl h0
theorem PI{a b:Nat} (h0:a+b<=100000):b<=1000000:=aY a b 0 0 0 0 (.v 1) (.n 1000000) (.a (.v 0) (.v 1)) (.n 100000) rfl h0
theorem PJ{a b:Nat} (h0:a<=300000) (h1:b<=0+100000):a+b<=1048000:=ln2 a b 0 0 0 0 (.a (.v 0) (.v 1)) (.n 1048000) (.v 0) (.n 300000) (.v 1) (.a (.n 0) (.n 100000)) rfl h0 h1
theorem PK{a:Nat} (h0:a<=0+100000):a<=1048576:=aY a 0 0 0 0 0 (.v 0) (.n 1048576) (.v 0) (.a (.n 0) (.n 100000)) rfl h0
theorem PL{a b:Nat} (h0:a=0) (h1:b<=a+(0+100000)):b<=1000000:=ln2 a b 0 0 0 0 (.v 1) (.n 1000000) (.v 0) (.n 0) (.v 1) (.a (.v 0) (.a (.n 0) (.n 100000))) rfl (bt h0) h1
theorem PM{b:Nat}{a:Int} (h0:a=↑b): -2^63<=a:=by subst h0;exact pj (by decide) (hH b)
theorem Dg{a:Nat}{b:Int} (h0:a<2147483648) (h1:b=↑a):b<2^63:=by subst h1;exact m8 (f9.mpr h0) (by decide)
theorem PN{a b c:Nat} (h0:a<1000) (h1:b=c) (h2:b<=a+1):c<=1000:=iB a b c 0 0 0 (.v 2) (.n 1000) (.a (.v 0) (.n 1)) (.n 1000) (.v 2) (.v 1) (.v 1) (.a (.v 0) (.n 1)) rfl h0 (bt h1.symm) h2
theorem PO{a b:Nat} (h0:a<=1048576) (h1:a=b):b<=1048576:=ln2 a b 0 0 0 0 (.v 1) (.n 1048576) (.v 0) (.n 1048576) (.v 1) (.v 0) rfl h0 (bt h1.symm)
theorem PQ{a:Nat}{b:Int} (h0:↑a=b): -2^63<=b:=by subst h0;exact pj (by decide) (hH a)
theorem PR{a:Nat}{b:Int} (h0:a<=1000) (h1:↑a=b):b<2^63:=by subst h1;exact lP (pz.mpr h0) (by decide)
theorem PS{a:Nat} (h0:a<=2^24):¬a>(2^63-1)/8:=pe (aK h0 (by decide))
theorem PT{a:Nat}{b:Int} (h0:a<=1000) (h1:b=↑a):b<2^62:=by subst h1;exact lP (pz.mpr h0) (by decide)
theorem PU{a b c:Nat} (h0:a=17) (h1:b=c) (h2:a=c):b=17:=hF (iB a b c 0 0 0 (.v 1) (.n 17) (.v 0) (.n 17) (.v 1) (.v 2) (.v 2) (.v 0) rfl (bt h0) (bt h1) (bt h2.symm)) (iB a b c 0 0 0 (.n 17) (.v 1) (.n 17) (.v 0) (.v 2) (.v 1) (.v 0) (.v 2) rfl (bt h0.symm) (bt h1.symm) (bt h2))
theorem PV{a b c d:Nat} (h0:a=b-17) (h1:c=d) (h2:a=d):c=b-17:=h1.trans (h2.symm.trans h0)
theorem PW{a b:Nat} {c:Int} (h0:a<b/\a<1048576) (h1:c=↑a):c<2^63:=by subst h1;exact m8 (f9.mpr h0.2) (by decide)
theorem PX{a b c:Nat} (h0:a+b+1<=c):a+1+b<=c:=aY a b c 0 0 0 (.a (.a (.v 0) (.n 1)) (.v 1)) (.v 2) (.a (.a (.v 0) (.v 1)) (.n 1)) (.v 2) rfl h0
theorem PY{a b c:Nat} (h0:a+b+1<=c):b<=c:=aY a b c 0 0 0 (.v 1) (.v 2) (.a (.a (.v 0) (.v 1)) (.n 1)) (.v 2) rfl h0
theorem r8{a:Nat} (h0:10<=a):3*a+3*a+5<=10*a:=aY a 0 0 0 0 0 (.a (.a (.m 3 (.v 0)) (.m 3 (.v 0))) (.n 5)) (.m 10 (.v 0)) (.n 10) (.v 0) rfl h0
theorem wy{a:Nat} (h0:60<=a):20<=a-3:=kg (aK (by decide) h0)
theorem PZ{a:Nat}:a-3<=a:=Nat.sub_le a 3
theorem P0{a:Nat} (h0:60<=a):a-3+3<=a:=bt (ke (aK (by decide) h0))
theorem P4{a:Nat} (h0:60<=a):5*2+12<=a-3:=kg (aK (by decide) h0)
theorem P5{a b:Nat} (h0:5*a+20<=b):5*a+12<=b+30:=aY a b 0 0 0 0 (.a (.m 5 (.v 0)) (.n 12)) (.a (.v 1) (.n 30)) (.a (.m 5 (.v 0)) (.n 20)) (.v 1) rfl h0
theorem P6{a:Nat} (h0:10<=a):a+a+2<=3*a:=aY a 0 0 0 0 0 (.a (.a (.v 0) (.v 0)) (.n 2)) (.m 3 (.v 0)) (.n 10) (.v 0) rfl h0
theorem P7{a:Nat} (h0:10<=a):a+1<=3*a:=aY a 0 0 0 0 0 (.a (.v 0) (.n 1)) (.m 3 (.v 0)) (.n 10) (.v 0) rfl h0
theorem P8{a:Nat} (h0:60<=a):5*2+12<=a+8:=aY a 0 0 0 0 0 (.a (.m 5 (.n 2)) (.n 12)) (.a (.v 0) (.n 8)) (.n 60) (.v 0) rfl h0
theorem P9{a:Nat}:0<=2*a:=cQ a 0 0 0 0 0 (.n 0) (.m 2 (.v 0)) rfl
theorem Dh{a:Nat} (h0:60<=a):20<=a+8:=aY a 0 0 0 0 0 (.n 20) (.a (.v 0) (.n 8)) (.n 60) (.v 0) rfl h0
theorem Qa{a:Nat} (h0:4<=a):2<=a+1:=aY a 0 0 0 0 0 (.n 2) (.a (.v 0) (.n 1)) (.n 4) (.v 0) rfl h0
theorem Qb{a:Nat} (h0:60<=a):5*1+12<=a+8:=aY a 0 0 0 0 0 (.a (.m 5 (.n 1)) (.n 12)) (.a (.v 0) (.n 8)) (.n 60) (.v 0) rfl h0
theorem Di{a b c d e:Nat} (h0:a<=b+c) (h1:d<=a+e):d<=b+(c+e):=ln2 a b c d e 0 (.v 3) (.a (.v 1) (.a (.v 2) (.v 4))) (.v 0) (.a (.v 1) (.v 2)) (.v 3) (.a (.v 0) (.v 4)) rfl h0 h1
theorem Dj{a b c d e:Nat} (h0:a+b<=c) (h1:d<=e+a) (h2:e+c<=300000):d+b<=300000:=iB a b c d e 0 (.a (.v 3) (.v 1)) (.n 300000) (.a (.v 0) (.v 1)) (.v 2) (.v 3) (.a (.v 4) (.v 0)) (.a (.v 4) (.v 2)) (.n 300000) rfl h0 h1 h2
theorem Qc{a b:Nat} (h0:a<=b+(0+100000)) (h1:b+100000<=300000):a<=300000:=ln2 a b 0 0 0 0 (.v 0) (.n 300000) (.v 0) (.a (.v 1) (.a (.n 0) (.n 100000))) (.a (.v 1) (.n 100000)) (.n 300000) rfl h0 h1
theorem sH{a b:Nat} (h0:a<2147483648) (h1:a=b):(b:Int)<2^63:=by subst h1;exact m8 (f9.mpr h0) (by decide)
theorem Ut{a b:Nat} (h0:a<2147483648) (h1:a=b):¬((b:Int)≥2^63):=Int.not_le.mpr (sH h0 h1)
local macro_rules | `(tactic| omega) => `(tactic| with_reducible first | exact nC rfl | exact nB rfl | exact Nat.le_add_right _ _ | exact nA (by assumption) rfl | exact FC (by assumption) | exact nD rfl | exact nE (by assumption) rfl | exact WE (by assumption) rfl | exact FD rfl | exact WG (by assumption) rfl | exact nZ rfl | exact nP (by assumption) rfl | exact Nat.le_max_left _ _ | exact Nat.le_max_right _ _ | exact Nat.le_add_left _ _ | exact NZ (by assumption) | exact N9 (by assumption) | exact Oa (by assumption) (by assumption) | exact Od (by assumption) | exact Oe | exact PX (by assumption) | exact PY (by assumption) | exact Oj | exact Ol (by assumption) (by assumption) | exact Om (by assumption) (by assumption) | exact Oo (by assumption) (by assumption) | exact Oq (by assumption) (by assumption) | exact Ou (by assumption) (by assumption) | exact Ov (by assumption) (by assumption) | exact Ow | exact Oy | exact OA (by assumption) (by assumption) | exact OC (by assumption) | exact OF (by assumption) (by assumption) | exact OL (by assumption) | exact PZ | exact P0 (by assumption) | exact P4 (by assumption) | exact C5 | exact P5 (by assumption) | exact P6 (by assumption) | exact C6 | exact P7 (by assumption) | exact P8 (by assumption) | exact P9 | exact Qa (by assumption) | exact Qb (by assumption) | exact C7 | exact OY | exact Pf | exact Pg | exact Pj (by assumption) | exact Pk (by assumption) | exact Py (by assumption) | decide)
section
open PySem PySem.W PySem.Calls PyProof.Rows
noncomputable abbrev pw:=PySem.Challenge.pw_sy0010_01
noncomputable def bd:List Stmt:=behindTheImports pw
noncomputable def FF (l:List Stmt) (i:Nat):Stmt:=match l.drop i with|s::_=>s|[]=> .Pass ⟨0,0,0,0⟩
noncomputable def st (i:Nat):Stmt:=FF bd i
noncomputable def mt (i j:Nat):Stmt:=match st i with| .ClassDef _ _ _ b _ _ _ _ _ _ _=>FF b j|_=> .Pass ⟨0,0,0,0⟩
noncomputable def zm (a k:Nat):List Stmt:=(bd.drop a).take k
noncomputable def Uu (c:String) (l:List Value):Obj:={cls:= .type c,dict:=none,data:= .seq ⟨l⟩ 0,slots:=#[]}
noncomputable def kU (c:Value) (l:List Value):Obj:={cls:=c,dict:=none,data:= .fields ⟨l⟩,slots:=#[]}
noncomputable def qp (c:Value) (l:List DictEntry) (n:Nat):Obj:={cls:=c,dict:=none,data:= .dict ⟨l⟩ n,slots:=#[]}
noncomputable def rJ:BT->Nat->List Obj->BT
 |t,_,[]=>t
 |t,a,o::r=>rJ (t.ins a o) (a+1) r
noncomputable def lf (P:Params):Life:=(boot_heap P).life
noncomputable def Uv (P:Params):BT:=rJ .nil 0 [boot_o_0 P,boot_o_1 P,boot_o_2 P,boot_o_3 P,boot_o_4 P,boot_o_5 P,boot_o_6 P,boot_o_7 P,boot_o_8 P,boot_o_9 P,boot_o_10 P]
noncomputable def benv:Env:={scope:=pw.main.scope,locals:=mainNs,globals:=mainNs,cells:=[],code:= .ref 13,frame:=some 14}
noncomputable def kX:Code:= .body bd benv
noncomputable def FG (l:List Stmt) (p:Pos):Thread:=⟨(Fast.tw12563942051412417395 l benv).wrap doneF deadEnd id id,kX,p,[topFrame ⟨0,0,0,0⟩]⟩
noncomputable def vs (s:String) (t:Nat):Value:= .str (Str.ofString s) t
noncomputable def sI (P:Params) (s:Str) (t:Nat) (v:Value):DictEntry:=⟨PyData.keyHash P s,.str s t,v⟩
noncomputable def de (P:Params) (s:String):Nat->Value->DictEntry:=sI P (.ofString s)
noncomputable def sJ (s:Stmt) (q:Str) (m:Value) (g b:Nat) (e:Value) (c:Value):FuncData:=match s with
 | .FunctionDef name params body _ _ _ scope _ _ _=>{name,qualname:=q,params,body:= .stmts body,scope,globals:=g,closure:=[],defaults:= .none,kwdefaults:= .none,doc:= .none,pyModule:=m,annotations:=none,code:=c,closureTuple:= .none,builtins:=b}
 |_=>default
noncomputable def sL (c:Value) (d:FuncData):Obj:={cls:=c,dict:=none,data:= .func d,slots:=#[]}
structure bw where
 T:Params->BT
 n:Nat
 t:Nat
 p:Pos
abbrev bM (a k:Nat) (s:bw) (N:Nat) (s':bw) (w:World):Prop:=
 (fun os=>Fast.tw10110043849684766642 Fast.tw14364793385576792824 pw w 11 (some (.ref 6)) 1 N ⟨s.T w.params,s.n,lf w.params,#[],boot_drawn,s.t,os⟩ (FG (zm a k) s.p))=fun os=>some (.next,⟨s'.T w.params,s'.n,lf w.params,#[],boot_drawn,s'.t,os⟩,kX,s'.p)
noncomputable def lU (l:List Value):Obj:=Uu "tuple" l
noncomputable def sM:Obj:=lU []
noncomputable def Eh (k:Nat) (l:List Str):List Value:=List.rec (motive:=fun _=>Nat->List Value) (fun _=>[]) (fun s _ r k=> .str s k::r (k+1)) l k
noncomputable def sO (a b:Str) (k i x r:Nat) (e:Bool) (l:List Value) (m:Nat):Obj:=kU (.type "code") ([.str a k,.str b (k+1),vs "/claim/cut.py" (k+2),.int i 0,.int x 0,.int 0 0,.int 0 0,.int (cond e 3 0) 0,.ref r,.bool e,.int 181 0,.ref (r+1)]++l++[.int m 0,.int i 0,vs "/claim/cut.py" (m+1)])
noncomputable def Ei (l:List Value):Obj:=kU (.type "builtin_function_or_method") l
noncomputable def Ej (k r:Nat) (s:String) (l:List Value):Obj:=kU (.type "getset_descriptor") (vs s k:: .ref r::l)
noncomputable def iu (P:Params) (s:String) (t r:Nat):DictEntry:=de P s t (.ref r)
noncomputable def fQ:Stmt->Str
 | .FunctionDef n .. =>n
 | .ClassDef n .. =>n
 | .Assign (.Name n _::_) .. =>n
 |_=>default
noncomputable def Uw:Stmt->Pos
 | .Assign (.Name _ p::_) .. =>p
 |s=>s.pos
noncomputable def Ux:Stmt->Int
 | .Assign _ (.Constant (.int v) ..) _=>v
 |_=>0
noncomputable def lV (s:Stmt):Nat:=s.pos.line
noncomputable def Ek:Stmt->Nat
 | .FunctionDef _ a .. =>a.args.length
 |_=>0
noncomputable def sP:Stmt->List Str
 | .FunctionDef _ _ _ _ _ _ c .. =>c.names.filterMap fun x=>match x.2 with
  | .local=>some x.1
  |_=>none
 |_=>[]
noncomputable def yp (v:Bool):Nat:=cond v 7 5
noncomputable def El (m:Value) (s:Stmt) (q:Str) (a k:Nat) (v:Bool):List Obj:=sM::kU .none []::match v with
 |true=>[lU (Eh (k+3) (sP s)),sM,sL .none (sJ s q .none 0 0 .none .none),sO (fQ s) q k (lV s) (Ek s) a true [.none,.ref (a+2),.ref (a+3),.ref (a+4)] (k+3+(sP s).length),sL (.type "function") (sJ s q m 3 0 .none (.ref (a+5)))]
 |false=>[sL .none (sJ s q .none 0 0 .none .none),sO (fQ s) q k (lV s) (Ek s) a true [.none,.none,.none,.ref (a+2)] (k+3),sL (.type "function") (sJ s q m 3 0 .none (.ref (a+3)))]
noncomputable def kn{β} (g:Nat->Stmt) (v:Nat->Bool) (h:Nat->Nat->Nat->List β) (z:Nat->Nat->List β):(n i a k:Nat)->List β
 |0,_,a,k=>z a k
 |n+1,i,a,k=>h i a k++kn g v h z n (i+1) (a+yp (v i)) (k+6+cond (v i) (sP (g i)).length 0)
structure nz where
 b:List Value
 s:List Value
 l:List Value
 n:String
 d:Bool
 w:Bool
noncomputable def yq (f:nz) (c:Str) (r a k:Nat) (sub:List Value):Obj:=
 {cls:= .type "type",dict:=none,data:= .cls {name:=c,bases:=f.s,mro:= .ref r::f.l,ns:=r-1,qualname:=c,hasDict:=true,slotNames:=[],subclasses:=sub,abstract:=false,collection:=none,hasDel:=false},slots:=⟨[match f.b with
  |[]=>none
  |_=>some (.ref a),none,some (.str c k),some (.str c (k+8)),some (.builtin f.n),some (.bool true)]⟩}
noncomputable def Dk (c n:Nat) (m:Value):Obj:={cls:= .type "frame",dict:=none,data:= .plain,slots:=⟨[some (.ref c),some (.ref 3),some (.ref n),none,some m,none,some (.ref 0)]⟩}
inductive bH where
 |f (m:Value) (i n a k:Nat)
 |c (f:nz) (m:Value) (i n a k:Nat) (l:List String)
noncomputable def lW (t:Nat):Bool:=[130,136,149,207,212,215,217,1693,2610,2890].all fun x=> !Nat.beq x t
noncomputable def lX (i j:Nat):Bool:=lW (1000+10*i+j)
noncomputable def Em (P:Params) (g:Nat->Stmt) (v:Nat->Bool) (i a k:Nat):List DictEntry:=[sI P (fQ (g i)) (k+5+cond (v i) (sP (g i)).length 0) (.ref (a+yp (v i) -1))]
noncomputable def En (g:Nat->Stmt) (v:Nat->Bool) (n:Nat) (i a _:Nat):List Value:=[.int (lV (g i)) 0,.int n 0,.ref (a+yp (v i) -2)]
noncomputable def Eo (P:Params) (i n a k:Nat) (l:List String) (z:Nat->Nat->List DictEntry):List DictEntry:=kn (mt i) (lX i) (Em P (mt i) (lX i)) (fun r t=>iu P "__static_attributes__" (t+l.length) r::z r (t+l.length)) n 0 (a+7) (k+12)
noncomputable def bL (P:Params):bH->List Obj
 | .f m i n a k=>kn st lW (fun i a k=>El m (st i) (fQ (st i)) a k (lW i)) (fun _ _=>[]) n i a k
 | .c f m i n a k l=>lU f.b::Ei [.builtin "type.__prepare__",.type "type"]::qp (.type "dict") (de P "__module__" (k+7) m::de P "__qualname__" (k+9) (.str (fQ (st i)) (k+8))::de P "__firstlineno__" (k+11) (.int (lV (st i)) (k+10))::Eo P i n a k l fun _ _=>[]) (n+4)::sM::kU .none (kn (mt i) (lX i) (En (mt i) (lX i) 4) (fun _ _=>[]) n 0 (a+7) (k+12))::sO (fQ (st i)) (fQ (st i)) (k+2) (lV (st i)) 0 (a+3) false [.none,.none,.none,.none] (k+5)::Dk (a+5) (a+2) m::kn (mt i) (lX i) (fun j a k=>El m (mt i j) ⟨((fQ (st i)).cps.toList++46::(fQ (mt i j)).cps.toList).toArray⟩ a k (lX i j)) (fun r t=>lU (Eh t (l.map .ofString))::qp (.type "dict") (de P "__module__" (k+7) m::de P "__firstlineno__" (k+11) (.int (lV (st i)) (k+10))::Eo P i n a k l fun r t=>cond f.d [iu P "__dict__" (t+2) (r+3)] []++cond f.w [iu P "__weakref__" (t+2+cond f.d 2 0) (r+3+cond f.d 1 0)] []++[de P "__doc__" (t+1+cond f.d 2 0+cond f.w 2 0) .none]) (2+cond f.d 1 0+cond f.w 1 0)::yq f (fQ (st i)) (r+2) a k []::(cond f.d [Ej (t+l.length+1) (r+2) "__dict__" [.builtin "function.__dict__",.builtin "function.__dict__#set"]] []++cond f.w [Ej (t+l.length+1+cond f.d 2 0) (r+2) "__weakref__" [.builtin "ExceptionGroup.__weakref__",.none]] []++[kU (.type "super") [.ref (r+2),.ref (r+2),.ref (r+2)],Ei [.builtin "object.__init_subclass__",.ref (r+2)]])) n 0 (a+7) (k+12)
noncomputable def bN (P:Params):bH->List DictEntry
 | .f _ i n a k=>kn st lW (Em P st lW) (fun _ _=>[]) n i a k
 | .c f _ i n a k l=>kn (mt i) (lX i) (fun _ _ _=>[]) (fun r t=>[sI P (fQ (st i)) (t+l.length+3+cond f.d 2 0+cond f.w 2 0) (.ref (r+2))]) n 0 (a+7) (k+12)
noncomputable def Qd:bH->List Value
 | .f _ i n a k=>kn st lW (En st lW 0) (fun _ _=>[]) n i a k
 | .c _ _ i _ a _ _=>[.int (lV (st i)) 0,.int 0 0,.ref (a+5)]
noncomputable def nH (P:Params):(n i t:Nat)->List DictEntry
 |0,_,_=>[]
 |n+1,i,t=>sI P (fQ (st i)) (t+1) (.int (Ux (st i)) t)::nH P n (i+1) (t+2)
noncomputable def pR (l:List DictEntry) (n:Nat):Obj:=qp (.type "dict") l n
noncomputable def Uy:Value:=vs "__main__" 164
noncomputable def pU:Value:=vs "framerune.faults" 194
noncomputable def jK:Value:=vs "framerune.kinds" 259
noncomputable def pV:Value:=vs "framerune.store" 558
noncomputable def Uz:Value:=vs "framerune.kindline" 665
noncomputable def yr:Value:=vs "framerune.csnodes" 675
noncomputable def iv:Value:=vs "framerune.csbound" 729
noncomputable def kq:Value:=vs "framerune.lowcore" 1081
noncomputable def cu:Value:=vs "framerune.lowexpr" 1305
noncomputable def nI:Value:=vs "law_sy0010_01" 2032
noncomputable def Ep:List Value:=[.type "Exception",.type "BaseException",.type "object"]
noncomputable def Dl:nz:=⟨[.type "Exception"],[.type "Exception"],Ep,"Exception.__new__",false,true⟩
noncomputable def Dm:nz:=⟨[.ref 38],[.ref 38],.ref 38::Ep,"Exception.__new__",false,false⟩
noncomputable def gG:nz:=⟨[.ref 480],[.ref 480],[.ref 480,.type "object"],"object.__new__",false,false⟩
noncomputable def iy:nz:=⟨[],[.type "object"],[.type "object"],"object.__new__",true,true⟩
noncomputable def yt:bH:= .f Uy 0 1 15 187
noncomputable def Es:bH:= .c Dl pU 2 1 22 196 ["at","code"]
noncomputable def yu:bH:= .c Dm pU 3 0 42 227 []
noncomputable def yw:bH:= .c Dm pU 4 0 54 243 []
noncomputable def yx:bH:= .c iy jK 38 3 68 379 ["depths","index","opens","rows","weights"]
noncomputable def yy:bH:= .f jK 39 10 103 436
noncomputable def yz:bH:= .f jK 49 3 173 520
noncomputable def yA:bH:= .c iy pV 63 1 194 568 ["asm","base","bounds","cctor","events","fields","finaliser","flags","home","ifaces","impls","methods","name","params","props","sort","tid","under","variances"]
noncomputable def yB:bH:= .c iy pV 64 1 215 622 ["asms","entry","fields_","kt","methods","names","types"]
noncomputable def yC:bH:= .f pV 65 1 236 656
noncomputable def wz:bH:= .f Uz 67 1 243 667
noncomputable def wA:bH:= .c iy yr 69 4 250 677 ["rows"]
noncomputable def wB:bH:= .c iy iv 122 1 361 901 ["arg","block","flags","kind","lid","name","owner"]
noncomputable def wC:bH:= .c iy iv 123 1 382 940 ["at","body","elem","fnid","lids","mid","params","ret","sort","this_kind","up"]
noncomputable def wD:bH:= .c iy iv 124 1 403 982 ["asm","consts","diags","fns","inits","of_mid","sinits","store","vars"]
noncomputable def wF:bH:= .f iv 125 2 424 1020
noncomputable def wG:bH:= .f iv 127 4 438 1043
noncomputable def wH:bH:= .c iy kq 132 1 464 1083 []
noncomputable def wI:bH:= .c iy kq 133 2 485 1112 []
noncomputable def wJ:bH:= .c iy kq 134 7 513 1150 ["exprs","fn","kt","labels","out","spiller","stmts","store","targets","unit"]
noncomputable def wK:bH:= .f kq 135 8 576 1236
noncomputable def wL:bH:= .f cu 146 9 632 1328
noncomputable def wM:bH:= .f cu 155 2 693 1421
noncomputable def wN:bH:= .c gG cu 157 1 707 1452 []
noncomputable def wO:bH:= .c gG cu 158 1 726 1477 []
noncomputable def wQ:bH:= .c gG cu 159 1 745 1502 []
noncomputable def wR:bH:= .f cu 160 1 764 1527
noncomputable def wU:bH:= .c gG cu 161 1 771 1535 []
noncomputable def wV:bH:= .f cu 162 2 788 1557
noncomputable def wW:bH:= .f cu 164 9 802 1572
noncomputable def wX:bH:= .c gG cu 173 1 865 1670 []
noncomputable def wY:bH:= .c gG cu 174 1 884 1695 []
noncomputable def wZ:bH:= .f cu 175 1 903 1725
noncomputable def w4:bH:= .c gG cu 176 1 910 1738 []
noncomputable def w5:bH:= .f cu 177 2 929 1763
noncomputable def w6:bH:= .f cu 179 3 943 1778
noncomputable def w7:bH:= .c gG cu 182 1 964 1808 []
noncomputable def w8:bH:= .f cu 183 2 983 1833
noncomputable def w9:bH:= .c gG cu 185 1 997 1855 []
noncomputable def xb:bH:= .c gG cu 186 1 1016 1880 []
noncomputable def xc:bH:= .f cu 187 2 1035 1909
noncomputable def xd:bH:= .c gG cu 189 1 1049 1924 []
noncomputable def xe:bH:= .c gG cu 190 1 1066 1946 []
noncomputable def xf:bH:= .c gG cu 191 1 1085 1972 []
noncomputable def xg:bH:= .f cu 192 2 1104 1997
noncomputable def xh:bH:= .f cu 194 3 1118 2011
noncomputable def xj:bH:= .f nI 198 6 1139 2034
noncomputable def xk:bH:= .f nI 204 9 1181 2094
noncomputable def xl:bH:= .f nI 213 5 1240 2188
noncomputable def xm (P:Params):List DictEntry:=[de P "__doc__" 166 .none,de P "__package__" 167 .none,de P "__loader__" 168 (.builtin "__main__.__loader__#opaque"),de P "__spec__" 169 .none,iu P "__annotations__" 170 6,iu P "__builtins__" 171 4,de P "__file__" 173 (vs "/claim/cut.py" 172),de P "__cached__" 174 .none]++(bN P yt++([iu P "RuneError" 226 38]++(bN P yu++(bN P yw++(nH P 29 6 261++([iu P "PRIM_TID" 347 66,iu P "TID_PRIM" 376 67]++(nH P 1 37 377++(bN P yx++(bN P yy++(bN P yz++(nH P 6 52 546++(nH P 4 59 560++(bN P yA++(bN P yB++(bN P yC++(bN P wz++(bN P wA++(nH P 50 71 731++([iu P "KID_PLACES" 900 290]++(bN P wB++(bN P wC++(bN P wD++(bN P wF++(bN P wG++(bN P wH++(bN P wI++(bN P wJ++(bN P wK++([iu P "TRUE" 1308 630,iu P "COMPARING" 1327 631]++(bN P wL++(bN P wM++(bN P wN++(bN P wO++(bN P wQ++(bN P wR++(bN P wU++(bN P wV++(bN P wW++(bN P wX++(bN P wY++(bN P wZ++(bN P w4++(bN P w5++(bN P w6++(bN P w7++(bN P w8++(bN P w9++(bN P xb++(bN P xc++(bN P xd++(bN P xe++(bN P xf++(bN P xg++(bN P xh++(bN P xj++(bN P xk++(bN P xl)))))))))))))))))))))))))))))))))))))))))))))))))))))))))
noncomputable def KJ:List Value:=[yt,Es,yu,yw,yx,yy,yz,yA,yB,yC,wz,wA,wB,wC,wD,wF,wG,wH,wI,wJ,wK,wL,wM,wN,wO,wQ,wR,wU,wV,wW,wX,wY,wZ,w4,w5,w6,w7,w8,w9,xb,xc,xd,xe,xf,xg,xh,xj,xk,xl].flatMap Qd
noncomputable def FH (P:Params) (m:Value) (k:Nat):Obj:=qp (.type "dict") (de P "__name__" 165 m::(xm P).take k) (k+1)
noncomputable def UA (k:Nat):Obj:=kU .none (KJ.take (3*k))
noncomputable def cw (s:bw) (m:Value) (c d n t j:Nat) (o:Params->List Obj):bw:=⟨fun P=>rJ (((s.T P).set 3 fun _=>FH P m c).set 12 fun _=>UA d) s.n (o P),n,t,Uw (st j)⟩
noncomputable def UB:List Value:=[.ref 723,.ref 742,.ref 761,.ref 785,.ref 881,.ref 900,.ref 926,.ref 980,.ref 1013,.ref 1032,.ref 1063,.ref 1082,.ref 1101]
noncomputable def gH (s:bw) (n:Nat):bw:={s with T:=fun P=>(s.T P).set 480 fun _=>yq iy (fQ (st 132)) 480 464 1083 (UB.take n)}
noncomputable def Eu (s:bw) (l:List Value):bw:={s with T:=fun P=>(s.T P).set 38 fun _=>yq Dl (fQ (st 2)) 38 22 196 l}
noncomputable def cz (a k b u:Nat):Obj:=lU [.int a k,.int b u]
noncomputable def dH (l:List Nat):Obj:=lU (l.map .ref)
noncomputable def cD (n r:Nat):DictEntry:=⟨n,.int n (cond (Nat.ble n 28) 729 727+2*n),.ref r⟩
noncomputable def Ew:List Nat:=[20,9,10,11,12,13,14,15,16,17,18,19,1,4]
noncomputable def Ey (f:Nat->Nat->DictEntry):Nat->List Nat->List DictEntry:=fun i l=>List.rec (motive:=fun _=>Nat->List DictEntry) (fun _=>[]) (fun s _ r k=>f s k::r (k+1)) l i
noncomputable def lu:bw:=⟨fun P=>rJ (Uv P) 11 [sM,kU .none [],sO (.ofString "<module>") (.ofString "<module>") 182 1 0 11 false [.none,.none,.none,.none] 185,Dk 13 3 (vs "__main__" 164)],15,187,⟨0,0,0,0⟩⟩
noncomputable def Qe:bw:={lu with T:=fun P=>(lu.T P).set 2 fun _=>qp .none [de P "type.__subclasses__.Exception.0" 223 (.int 38 0),de P "type.__subclasses__.Exception.n" 224 (.int 1 0)] 2}
noncomputable def yD:bw:=cw Qe pU 10 2 42 227 2 fun P=>bL P yt++(bL P Es)
theorem sQ{a k:Nat} {s:bw} {N:Nat} {s':bw} (f:∀w:World,bM a k s N s' (w.withFollow "special-get-raises" false)) (t:∀w:World,bM a k s N s' (w.withFollow "special-get-raises" true)) (w:World):bM a k s N s' w:=byRow2 "special-get-raises" (P:=bM a k s N s') f t w
theorem UC (w:World):bM 0 3 lu 269 yD w:=by kernel_rfl
noncomputable def yE:bw:=cw (Eu yD [.ref 51]) pU 11 3 54 243 3 fun P=>bL P yu
theorem UD (w:World):bM 3 1 yD 214 yE w:=by kernel_rfl
noncomputable def xn:bw:=cw (Eu yE [.ref 51,.ref 63]) jK 22 4 66 281 15 fun P=>bL P yw
theorem UE (w:World):bM 4 12 yE 313 xn w:=by kernel_rfl
noncomputable def xo:bw:=cw xn jK 41 4 66 319 34 fun _=>[]
theorem UG (w:World):bM 16 19 xn 172 xo w:=by kernel_rfl
noncomputable def xp:bw:=cw xo jK 42 4 67 348 35 fun _=>[pR (Ey (fun s k=>⟨k,.int k (261+2*k),.int s (319+k)⟩) 0 Ew) 14]
theorem UH (w:World):bM 35 1 xo 207 xp w:=sQ (fun _=>by kernel_rfl) (fun _=>by kernel_rfl) w
noncomputable def xq:bw:=cw xp jK 43 4 68 377 36 fun _=>[pR (Ey (fun s k=>⟨s,.int s (348+k),.int k (261+2*k)⟩) 0 Ew) 14]
theorem UI (w:World):bM 36 1 xp 207 xq w:=sQ (fun _=>by kernel_rfl) (fun _=>by kernel_rfl) w
noncomputable def xr:bw:=cw xq jK 45 5 103 436 38 fun P=>bL P yx
theorem UJ (w:World):bM 37 2 xq 308 xr w:=by kernel_rfl
noncomputable def xt:bw:=cw xr jK 55 15 173 520 48 fun P=>bL P yy
theorem UK (w:World):bM 39 10 xr 305 xt w:=by kernel_rfl
noncomputable def xu:bw:=cw xt pV 68 18 194 568 62 fun P=>bL P yz
theorem UL (w:World):bM 49 14 xt 192 xu w:=by kernel_rfl
noncomputable def xv:bw:=cw xu pV 69 19 215 622 63 fun P=>bL P yA
theorem UM (w:World):bM 63 1 xu 248 xv w:=by kernel_rfl
noncomputable def xw:bw:=cw xv yr 72 22 250 677 68 fun P=>bL P yB++(bL P yC++(bL P wz))
theorem Qf (w:World):bM 64 5 xv 307 xw w:=by kernel_rfl
noncomputable def xx:bw:=cw xw yr 73 23 290 729 69 fun P=>bL P wA
theorem Qg (w:World):bM 69 1 xw 316 xx w:=by kernel_rfl
noncomputable def xy:bw:=cw xx iv 102 23 290 789 99 fun _=>[]
theorem Qh (w:World):bM 70 30 xx 271 xy w:=by kernel_rfl
noncomputable def vh:bw:=cw xy iv 123 23 290 831 120 fun _=>[]
theorem Qi (w:World):bM 100 21 xy 190 vh w:=by kernel_rfl
noncomputable def vi:bw:=cw vh iv 124 23 361 901 121 fun _=>[pR [cD 4 292,cD 6 295,cD 7 297,cD 8 300,cD 9 302,cD 10 304,cD 11 306,cD 13 308,cD 14 311,cD 15 314,cD 16 317,cD 17 321,cD 18 324,cD 19 326,cD 20 328,cD 21 330,cD 22 333,cD 23 337,cD 25 339,cD 26 341,cD 27 344,cD 28 346,cD 30 348,cD 31 351,cD 33 353,cD 34 356,cD 35 358,cD 36 360] 28,cz 2 831 1 825,dH [291],cz 2 833 1 825,cz 3 834 1 825,dH [293,294],cz 2 836 1 825,dH [296],cz 2 838 2 827,cz 4 839 3 829,dH [298,299],cz 3 841 3 829,dH [301],cz 2 843 1 825,dH [303],cz 2 845 3 829,dH [305],cz 3 847 1 825,dH [307],cz 3 849 1 825,cz 4 850 1 825,dH [309,310],cz 2 852 1 825,cz 3 853 1 825,dH [312,313],cz 2 855 1 825,cz 3 856 1 825,dH [315,316],cz 2 858 1 825,cz 3 859 1 825,cz 4 860 1 825,dH [318,319,320],cz 2 862 1 825,cz 3 863 1 825,dH [322,323],cz 2 865 1 825,dH [325],cz 2 867 1 825,dH [327],cz 2 869 1 825,dH [329],cz 2 871 1 825,cz 3 872 1 825,dH [331,332],pR [cD 23 337,cD 25 339,cD 26 341,cD 27 344,cD 28 346,cD 30 348,cD 31 351,cD 33 353,cD 34 356,cD 35 358,cD 36 360] 11,cz 2 874 1 825,cz 3 875 1 825,dH [335,336],cz 2 876 2 827,dH [338],cz 2 877 3 829,dH [340],cz 3 878 1 825,cz 4 879 1 825,dH [342,343],cz 3 880 1 825,dH [345],cz 2 881 1 825,dH [347],cz 2 882 3 829,cz 3 883 1 825,dH [349,350],cz 2 884 1 825,dH [352],cz 2 885 2 827,cz 5 886 3 829,dH [354,355],cz 3 887 3 829,dH [357],cz 2 888 2 827,dH [359]]
theorem Qj (w:World):bM 121 1 vh 709 vi w:=sQ (fun _=>by kernel_rfl) (fun _=>by kernel_rfl) w
noncomputable def vj:bw:=cw vi iv 125 24 382 940 122 fun P=>bL P wB
theorem Qk (w:World):bM 122 1 vi 233 vj w:=by kernel_rfl
noncomputable def vk:bw:=cw vj iv 126 25 403 982 123 fun P=>bL P wC
theorem Ql (w:World):bM 123 1 vj 236 vk w:=by kernel_rfl
noncomputable def vm:bw:=cw vk iv 129 28 438 1043 126 fun P=>bL P wD++(bL P wF)
theorem Qm (w:World):bM 124 3 vk 299 vm w:=by kernel_rfl
noncomputable def vn:bw:=cw vm kq 133 32 464 1083 131 fun P=>bL P wG
theorem Qn (w:World):bM 127 5 vm 134 vn w:=by kernel_rfl
noncomputable def vq:bw:=cw vn kq 134 33 485 1112 132 fun P=>bL P wH
theorem Qo (w:World):bM 132 1 vn 223 vq w:=by kernel_rfl
noncomputable def vr:bw:=cw vq kq 135 34 513 1150 133 fun P=>bL P wI
theorem Qp (w:World):bM 133 1 vq 256 vr w:=by kernel_rfl
noncomputable def vt:bw:=cw vr kq 136 35 576 1236 134 fun P=>bL P wJ
theorem Qq (w:World):bM 134 1 vr 424 vt w:=by kernel_rfl
noncomputable def vu:bw:=cw vt cu 145 43 631 1309 144 fun P=>bL P wK++([lU [.int 1 731,.int 1 263,.int 1 1307]])
theorem Qr (w:World):bM 135 10 vt 268 vu w:=by kernel_rfl
noncomputable def vx:bw:=cw vu cu 146 43 632 1328 145 fun P=>[pR [de P "==" 1309 (.int 1 1310),de P "!=" 1311 (.int 1 1312),de P "<" 1313 (.int 2 1314),de P ">" 1315 (.int 2 1316),de P "<=" 1317 (.int 2 1318),de P ">=" 1319 (.int 2 1320)] 6]
theorem Qs (w:World):bM 145 1 vu 101 vx w:=sQ (fun _=>by kernel_rfl) (fun _=>by kernel_rfl) w
noncomputable def vy:bw:=cw vx cu 155 52 693 1421 154 fun P=>bL P wL
theorem Qt (w:World):bM 146 9 vx 290 vy w:=by kernel_rfl
noncomputable def vz:bw:=cw (gH vy 1) cu 158 55 726 1477 157 fun P=>bL P wM++(bL P wN)
theorem Qu (w:World):bM 155 3 vy 321 vz w:=by kernel_rfl
noncomputable def vA:bw:=cw (gH vz 2) cu 159 56 745 1502 158 fun P=>bL P wO
theorem Qv (w:World):bM 158 1 vz 246 vA w:=by kernel_rfl
noncomputable def vB:bw:=cw (gH vA 3) cu 161 58 771 1535 160 fun P=>bL P wQ++(bL P wR)
theorem Qw (w:World):bM 159 2 vA 276 vB w:=by kernel_rfl
noncomputable def vC:bw:=cw (gH vB 4) cu 164 61 802 1572 163 fun P=>bL P wU++(bL P wV)
theorem Qx (w:World):bM 161 3 vB 300 vC w:=by kernel_rfl
noncomputable def vD:bw:=cw vC cu 173 70 865 1670 172 fun P=>bL P wW
theorem Qy (w:World):bM 164 9 vC 297 vD w:=by kernel_rfl
noncomputable def vE:bw:=cw (gH vD 5) cu 174 71 884 1695 173 fun P=>bL P wX
theorem Qz (w:World):bM 173 1 vD 246 vE w:=by kernel_rfl
noncomputable def vF:bw:=cw (gH vE 6) cu 176 73 910 1738 175 fun P=>bL P wY++(bL P wZ)
theorem QA (w:World):bM 174 2 vE 286 vF w:=by kernel_rfl
noncomputable def vG:bw:=cw (gH vF 7) cu 179 76 943 1778 178 fun P=>bL P w4++(bL P w5)
theorem QB (w:World):bM 176 3 vF 305 vG w:=by kernel_rfl
noncomputable def vH:bw:=cw vG cu 182 79 964 1808 181 fun P=>bL P w6
theorem QC (w:World):bM 179 3 vG 97 vH w:=by kernel_rfl
noncomputable def vI:bw:=cw (gH vH 8) cu 185 82 997 1855 184 fun P=>bL P w7++(bL P w8)
theorem QD (w:World):bM 182 3 vH 312 vI w:=by kernel_rfl
noncomputable def vJ:bw:=cw (gH vI 9) cu 186 83 1016 1880 185 fun P=>bL P w9
theorem QE (w:World):bM 185 1 vI 246 vJ w:=by kernel_rfl
noncomputable def vK:bw:=cw (gH vJ 10) cu 189 86 1049 1924 188 fun P=>bL P xb++(bL P xc)
theorem QF (w:World):bM 186 3 vJ 309 vK w:=by kernel_rfl
noncomputable def vL:bw:=cw (gH vK 11) cu 190 87 1066 1946 189 fun P=>bL P xd
theorem QG (w:World):bM 189 1 vK 241 vL w:=by kernel_rfl
noncomputable def vM:bw:=cw (gH vL 12) cu 191 88 1085 1972 190 fun P=>bL P xe
theorem QH (w:World):bM 190 1 vL 247 vM w:=by kernel_rfl
noncomputable def vN:bw:=cw (gH vM 13) cu 194 91 1118 2011 193 fun P=>bL P xf++(bL P xg)
theorem QI (w:World):bM 191 3 vM 304 vN w:=by kernel_rfl
noncomputable def vO:bw:=cw vN nI 203 100 1181 2094 203 fun P=>bL P xh++(bL P xj)
theorem QJ (w:World):bM 194 10 vN 289 vO w:=by kernel_rfl
noncomputable def vP:bw:=cw vO nI 212 109 1240 2188 212 fun P=>bL P xk
theorem QK (w:World):bM 204 9 vO 289 vP w:=by kernel_rfl
noncomputable def lA:bw:=cw vP nI 217 114 1271 2230 217 fun P=>bL P xl
theorem QL (w:World):bM 213 5 vP 149 lA w:=by kernel_rfl
noncomputable def ez (P:Params):BT:=lA.T P
noncomputable abbrev N0:Nat:=30000
noncomputable abbrev SS (s:bw) (w:World) (os:OsState):Shared:=SharedT.abs ⟨s.T w.params,s.n,lf w.params,#[],boot_drawn,s.t,os⟩
noncomputable abbrev B0:List Frame:=[topFrame ⟨0,0,0,0⟩]
abbrev TR (N:Nat) (s:bw) (w:World) (os:OsState) (a:Nat):Prop:=topRun treeTable pw w 11 (some (.ref 6)) N (SS s w os) (restOf (bd.drop a) benv kX s.p B0)=some (SS lA w os)
theorem cb{a k:Nat} {s s':bw} {N:Nat} {w:World} {os:OsState} {M:Nat} (h:bM a k s N s' w) (x:TR M s' w os (a+k)):TR (N+M) s w os a:=by
 have e:bd.drop a=zm a k++bd.drop (a+k):=by
  unfold zm
  rw[<-List.drop_drop,wi]
 unfold TR
 rw[e]
 refine piece_app (segRun_of ?_) x
 have e:=congrFun h os
 rw[<-Fast.te10110043849684766642,<-Fast.te14364793385576792824] at e
 unfold FG at e
 rw[<-Fast.te12563942051412417395] at e
 exact e
theorem KL (w:World):(fun os=>topGo treeTable pw w 11 (some (.ref 6)) 12 ⟨boot_heap w.params,#[],boot_drawn,boot_toks,os⟩ (topStub pw))=fun os=>some (SS lu w os,⟨denote treeTable kX,kX,⟨0,0,0,0⟩,B0⟩):=by
 rw[Fast.te15667345088766844465,Fast.te14364793385576792824,Fast.te11892475500146522536]
 kernel_rfl
theorem HU (w:World):(fun os=>segRun treeTable pw w 11 (some (.ref 6)) 1 1 (SS lu w os) (blockOf bd benv kX ⟨0,0,0,0⟩ B0))=fun os=>some (.next,SS lu w os,kX,⟨0,0,0,0⟩):=by
 rw[Fast.te14374325043358763698]
 kernel_rfl
theorem KN (w:World):(fun os=>topRun treeTable pw w 11 (some (.ref 6)) 2 (SS lA w os) ⟨doneF .next,kX,⟨1067,0,1105,69⟩,B0⟩)=fun os=>some (SS lA w os):=by
 rw[Fast.te14082659384304107361]
 kernel_rfl
noncomputable abbrev M1:Nat:=(269+(214+(313+(172+(207+(207+(308+(305+(192+(248+(307+(316+(271+(190+(709+(233+(236+(299+(134+(223+(256+(424+(268+(101+(290+(321+(246+(276+(300+(297+(246+(286+(305+(97+(312+(246+(309+(241+(247+(304+(289+(289+(149+2)))))))))))))))))))))))))))))))))))))))))))
noncomputable abbrev M0:Nat:=12+(1+M1)
theorem HV (w:World) (os:OsState):TR M1 lu w os 0:=
 cb (UC w)<|cb (UD w)<|cb (UE w)<|cb (UG w)<|cb (UH w)<|cb (UI w)<|cb (UJ w)<|cb (UK w)<|cb (UL w)<|cb (UM w)<|cb (Qf w)<|cb (Qg w)<|cb (Qh w)<|cb (Qi w)<|cb (Qj w)<|cb (Qk w)<|cb (Ql w)<|cb (Qm w)<|cb (Qn w)<|cb (Qo w)<|cb (Qp w)<|cb (Qq w)<|cb (Qr w)<|cb (Qs w)<|cb (Qt w)<|cb (Qu w)<|cb (Qv w)<|cb (Qw w)<|cb (Qx w)<|cb (Qy w)<|cb (Qz w)<|cb (QA w)<|cb (QB w)<|cb (QC w)<|cb (QD w)<|cb (QE w)<|cb (QF w)<|cb (QG w)<|cb (QH w)<|cb (QI w)<|cb (QJ w)<|cb (QK w)<|cb (QL w)<|by unfold TR;rw[show bd.drop (213+5)=[] from by kernel_rfl];exact piece_nil (congrFun (KN w) os)
theorem KP (w:World) (os:OsState):topRun treeTable pw w 11 (some (.ref 6)) M0 ⟨boot_heap w.params,#[],boot_drawn,boot_toks,os⟩ (topStub pw)=some (SS lA w os):=by
 exact go_top (congrFun (KL w) os) (piece_block (congrFun (HU w) os) (HV w os))
noncomputable def H1 (P:Params):Heap:=absHeap (ez P) 1271 (lf P)
noncomputable def qv:Program:=view pw [217]
noncomputable def lo:List Str:=((bd.take 217).map fQ).filter fun x=>match x.cps.toList with
 |95::95::_=>false
 |_=>true
theorem Jb:∀w:World,(fencedOpening treeTable pw w N0).map (fun s=>(s.heap,s.gens,s.drawn,s.toks))=some (boot_heap w.params,Array.mk [],boot_drawn,boot_toks):=
 boot_open (by kernel_rfl) (by kernel_rfl) (fun _=>by kernel_rfl)
theorem Jc:∀w:World,((boot_heap w.params).isNs mainGlobals&&(#[]:Array GenState).size==0,(boot_heap w.params).objs.size,(boot_heap w.params).nsMap mainGlobals "__annotations__")=(true,11,some (.ref 6)):=fun _=>by kernel_rfl
theorem QM:Nat.ble M0 N0=true:=by decide+kernel
theorem QN (w:World):(fun os=>(staticsOk (importedModules pw.main.body) (boot_heap w.params) (H1 w.params)&&namesBound pw (H1 w.params)&&gensDone ⟨H1 w.params,#[],boot_drawn,2230,os⟩&&laidKept (boot_heap w.params) (H1 w.params)))=fun _=>true:=by
 kernel_rfl
theorem QO (w:World):(fun os=>openSeen qv lo (importedModules pw.main.body) (fun s=>xlAt qv [] s&&recOk (RowW.records PySem.Challenge.rw_sy0010_01.row.toRowW) s) true ⟨H1 w.params,#[],boot_drawn,2230,os⟩)=fun _=>openGood qv lo:=by
 rw[Fast.te4187177175401517315]
 kernel_rfl
theorem QP (w:World) (os:OsState):SS lA w os=⟨H1 w.params,#[],boot_drawn,2230,os⟩:=by kernel_rfl
theorem Jd (w:World) (os:OsState):topRun treeTable pw w 11 (some (.ref 6)) M0 ⟨boot_heap w.params,#[],boot_drawn,boot_toks,os⟩ (topStub pw)=some ⟨H1 w.params,#[],boot_drawn,2230,os⟩:=(KP w os).trans (congrArg some (QP w os))
theorem HW (w:World):(fun os=>((staticsOk (importedModules pw.main.body) (boot_heap w.params) (H1 w.params)&&namesBound pw (H1 w.params)&&gensDone ⟨H1 w.params,#[],boot_drawn,2230,os⟩&&laidKept (boot_heap w.params) (H1 w.params)),
  openSeen qv lo (importedModules pw.main.body) (fun s=>xlAt qv [] s&&recOk (RowW.records PySem.Challenge.rw_sy0010_01.row.toRowW) s) true ⟨H1 w.params,#[],boot_drawn,2230,os⟩,((H1 w.params,2230):Heap×Nat)))=fun _=>(true,openGood qv lo,(H1 w.params,2230)):=
 funext fun os=>congr (congrArg Prod.mk (congrFun (QN w) os)) (congrArg (Prod.mk · (H1 w.params,2230)) (congrFun (QO w) os))
theorem Je:LeftO pw qv lo (fun s=>xlAt qv [] s&&recOk (RowW.records PySem.Challenge.rw_sy0010_01.row.toRowW) s) (fun s=>(s.heap,s.toks)) (fun w=>(H1 w.params,2230)) N0:=
 LeftO.of_pieces (p:=pw) (q:=qv) (loose:=lo) (N:=N0) (g0:=true) (H₀:=boot_heap) (H₁:=H1) (gs₀:=#[]) (gs₁:=#[]) (d₀:=boot_drawn) (d₁:=boot_drawn) (k₀:=boot_toks) (k₁:=2230) (m₀:=11) (ann:=some (.ref 6)) (M:=M0)
  Jb Jc Jd QM fun w=>HW w
end
section
open PySem PySem.W PySem.W.X PySem.Calls PyProof.Rows
noncomputable def sR:DefRec:=(match st 217 with| .FunctionDef n a b _ _ _ s _ _ p=>⟨n,a,b,s,p⟩|_=>⟨.ofString "",⟨[],[],none,[],[],none,[]⟩,[],default,⟨0,0,0,0⟩⟩)
set_option maxHeartbeats 0 in
theorem Z0 (hc:WalkX qv lo (XL qv []) (fun s=>(s.heap,s.toks)) (fun w=>(H1 w.params,2230)) PySem.Challenge.rw_sy0010_01.row.toRowW sR [] fun f vs=>PySem.call f vs) (k1:PySem.Challenge.rw_sy0010_01.row.wellSaid=true):PySem.Challenge.rw_sy0010_01.row.Holds:=by
 refine holds_openX (q:=qv) (loose:=lo) (d:=sR) (kwd:=[]) Je (fun s e=>xl_of s (bK.mp e).1) XL.keeps ?h1 ?h2 ?h3 (fun s e=>recFacts_of (bK.mp e).2) ?h4 ?h5 ?h6 ⟨rfl,rfl,rfl,rfl,rfl,by decide+kernel⟩ ?hw hc
 case h1=>kernel_rfl
 case h2=>kernel_rfl
 case h3=>kernel_rfl
 case h4=>rfl
 case h5=>exact k1
 case h6=>kernel_rfl
 case hw=>w_witness2
theorem j2{P:Params}{a:Addr}{o:Obj} (h:Nat.blt a 1271=true) (g:(ez P).get a=some o) (z:alive o=some o):(H1 P).get? a=some o:=by
 unfold H1
 rw[abs_get (aX h) g,z]
theorem uR{P:Params}{h:Heap}{mg:Str->Option Value} (k:∀b o,(H1 P).get? b=some o->h.get? b=some o) (G:h.Ns mainGlobals mg) {n:Str} {v:Option Value}
  (e:nsFind (Array.mk (de P "__name__" 165 (vs "law_sy0010_01" 2032)::xm P)) n=v):mg n=v:=by
 have a:h.get? 3=some (FH P (vs "law_sy0010_01" 2032) 217):=k _ _ (j2 rfl (by kernel_rfl) rfl)
 obtain⟨o,es,c,ho,hd,d,hf⟩:=G
 rw[show mainGlobals=3 from rfl,a] at ho
 cases ho
 cases hd
 rw[<-hf n,<-e]
 rfl
abbrev Walk:Prop:=∀(w:World) (s:Shared) (ns:List Int) (a:List Value) (mg mb:Str->Option Value),ns.length<=63->IntsAre a ns->(∀b o,(H1 w.params).get? b=some o->s.heap.get? b=some o)->s.heap.objs.size=1272->
 s.heap.get? 1271=some {cls:= .type "list",data:= .seq a.toArray}->s.gens=#[]->s.heap.Ns mainGlobals mg->s.heap.Ns builtinsNs mb->s.heap.NoLimit->(∀x:Str,x≠"__name__"->mb x=bootBuiltins x)->
 wpAny (model pw w) callerA (call (.ref 1270) [.ref 1271]) (fun v s'=>v= .bool true/\(∀b o,s.heap.get? b=some o->s'.heap.get? b=some o)/\s'.os=s.os/\s'.gens=#[]) (fun _ _=>False) s
set_option maxHeartbeats 0 in
theorem Z8 (H:Walk):WalkX qv lo (XL qv []) (fun s=>(s.heap,s.toks)) (fun w=>(H1 w.params,2230)) PySem.Challenge.rw_sy0010_01.row.toRowW sR [] fun f vs=>PySem.call f vs:=by
 intro w s₀ aC mg mb G y fa o M N doc O kV ho hd j u d hg q r as L e i k l m
 refine Ground.open G ?_
 intro T B D Q U
 wrow_args e i k l m
 obtain⟨a,c⟩:=script_at L
 have n:=script_obj L (by assumption)
 clear ho hd j u
 obtain⟨x,Y⟩:=gg (show(s₀.heap,s₀.toks)=(H1 w.params,2230) from y)
 have p:=L.keeps
 rw[x] at p a c
 have z:(H1 w.params).objs.size=1271:=absHeap_size _ _ _
 rw[z] at a c
 subst a
 rename IntsAre _ _=>A
 rename ¬_<_=>t
 have hf:mg "law"=some (.ref 1270):=uR p T.g (by kernel_rfl)
 have C:sR.name=Str.ofString "law":=by kernel_rfl
 rw[C,hf] at d
 cases d
 refine wpAny_mono (H w aC _ _ mg mb (by omega) A p c n hg T.g T.b T.nolimit T.builtins) ?_ (fun _ _ h=>h.elim)
 rintro v s' ⟨rfl,E,I,J⟩
 exact⟨.inl ⟨_,.bool true,[],rfl,fun _=>rfl,.bool true,by kernel_rfl,fun _=>⟨.nil,fun _ h=>nomatch h⟩⟩,.of_keep E,I,.of_eq J⟩
end
section
open PySem PySem.W
set_option maxHeartbeats 0 in
theorem HX (p:Program) (h:p=PySem.Challenge.rw_sy0010_01.prog):Fast.tw12908688711261696721 p=true:=by
 subst h
 delta Fast.tw12908688711261696721
 repeat' with_reducible refine look_both ?_ ?_
 all_goals as_aux_lemma=>kernel_rfl
set_option maxHeartbeats 0 in
theorem KQ:Fast.tw17960256430627541270 (Fast.tw2368527892694137696 PySem.Challenge.rw_sy0010_01)=true:=by
 delta Fast.tw17960256430627541270
 with_reducible refine look_both (look_both ?_ ?_) ?_
 rotate_left
 ·as_aux_lemma=>kernel_rfl
 ·as_aux_lemma=>kernel_rfl
 delta Fast.tw2436336058641802641
 repeat' with_reducible refine look_both ?_ ?_
 all_goals first|(with_reducible exact HX _ rfl)|as_aux_lemma=>kernel_rfl
set_option maxHeartbeats 0 in
theorem ws:PySem.Challenge.rw_sy0010_01.wellSaid=true:=by
 rw[Fast.te9446332074065402090]
 delta Fast.tw9446332074065402090
 repeat' with_reducible refine look_both ?_ ?_
 all_goals first|with_reducible exact KQ|as_aux_lemma=>kernel_rfl
end
theorem cA{a:Prop}{b:Prop}{C:Prop} (h:a/\b) (k:a->b->C):C:=let ⟨x0,x1⟩:=h;k x0 x1
theorem dP{a:Prop}{b:Prop}{c:Prop}{C:Prop} (h:a/\b/\c) (k:a->b->c->C):C:=let ⟨x0,x1,x2⟩:=h;k x0 x1 x2
theorem Ez{a:Prop}{b:Prop}{c:Prop}{P3:Prop}{C:Prop} (h:a/\b/\c/\P3) (k:a->b->c->P3->C):C:=let ⟨x0,x1,x2,x3⟩:=h;k x0 x1 x2 x3
theorem oN.{I,J}{q:Sort I} {z:Sort J} {A:Prop} {D:Prop} {E:Prop} {P3:q->z->Prop} {H:q->z->Prop} {C:Prop} (h:A/\D/\E/\∃a:q,∃b:z,P3 a b/\H a b) (k:A->D->E->∀a:q,∀b:z,P3 a b->H a b->C):C:=let ⟨x0,x1,x2,x3,x4,L,O⟩:=h;k x0 x1 x2 x3 x4 L O
theorem QQ.{E}{q:Sort E} {z:Prop} {A:Prop} {D:q->Prop} {P3:q->Prop} {C:Prop} (h:z/\A/\∃a:q,D a/\P3 a) (k:z->A->∀a:q,D a->P3 a->C):C:=let ⟨x0,x1,x2,x3,x4⟩:=h;k x0 x1 x2 x3 x4
theorem QR.{E}{q:Sort E} {z:Prop} {A:q->Prop} {D:q->Prop} {P3:q->Prop} {C:Prop} (h:z/\∃a:q,A a/\D a/\P3 a) (k:z->∀a:q,A a->D a->P3 a->C):C:=let ⟨x0,x1,x2,x3,x4⟩:=h;k x0 x1 x2 x3 x4
theorem ZV.{I,J}{q:Sort I} {z:Sort J} {A:Prop} {D:q->Prop} {E:q->Prop} {P3:q->z->Prop} {H:q->z->Prop} {C:Prop} (h:A/\∃a:q,D a/\E a/\∃b:z,P3 a b/\H a b) (k:A->∀a:q,D a->E a->∀b:z,P3 a b->H a b->C):C:=let ⟨x0,x1,x2,x3,x4,L,O⟩:=h;k x0 x1 x2 x3 x4 L O
theorem Jf.{I,J,L}{q:Sort I} {z:Sort J} {A:Sort L} {D:Prop} {E:q->z->A->Prop} {H:q->z->A->Prop} {P3:q->z->A->Prop} {C:Prop} (h:D/\∃a:q,∃b:z,∃c:A,E a b c/\H a b c/\P3 a b c) (k:D->∀a:q,∀b:z,∀c:A,E a b c->H a b c->P3 a b c->C):C:=let ⟨x0,x1,x2,x3,x4,O,Q⟩:=h;k x0 x1 x2 x3 x4 O Q
theorem cE.{A}{q:Sort A} {z:q->Prop} {C:Prop} (h:∃a:q,z a) (k:∀a:q,z a->C):C:=let ⟨x0,x1⟩:=h;k x0 x1
theorem aN.{D}{q:Sort D} {z:q->Prop} {A:q->Prop} {C:Prop} (h:∃a:q,z a/\A a) (k:∀a:q,z a->A a->C):C:=let ⟨x0,x1,x2⟩:=h;k x0 x1 x2
theorem dV.{E}{q:Sort E} {z:q->Prop} {A:q->Prop} {D:q->Prop} {C:Prop} (h:∃a:q,z a/\A a/\D a) (k:∀a:q,z a->A a->D a->C):C:=let ⟨x0,x1,x2,x3⟩:=h;k x0 x1 x2 x3
theorem jD.{E}{q:Sort E} {z:q->Prop} {A:q->Prop} {D:q->Prop} {P3:q->Prop} {C:Prop} (h:∃a:q,z a/\A a/\D a/\P3 a) (k:∀a:q,z a->A a->D a->P3 a->C):C:=let ⟨x0,x1,x2,x3,x4⟩:=h;k x0 x1 x2 x3 x4
theorem Z9.{H,I}{q:Sort H} {z:Sort I} {A:q->Prop} {D:q->z->Prop} {E:q->z->Prop} {C:Prop} (h:∃a:q,A a/\∃b:z,D a b/\E a b) (k:∀a:q,A a->∀b:z,D a b->E a b->C):C:=let ⟨x0,x1,x2,x3,x4⟩:=h;k x0 x1 x2 x3 x4
theorem dm.{D,E}{q:Sort D} {z:Sort E} {A:q->z->Prop} {C:Prop} (h:∃a:q,∃b:z,A a b) (k:∀a:q,∀b:z,A a b->C):C:=let ⟨x0,x1,x2⟩:=h;k x0 x1 x2
theorem gp.{E,H}{q:Sort E} {z:Sort H} {A:q->z->Prop} {D:q->z->Prop} {C:Prop} (h:∃a:q,∃b:z,A a b/\D a b) (k:∀a:q,∀b:z,A a b->D a b->C):C:=let ⟨x0,x1,x2,x3⟩:=h;k x0 x1 x2 x3
theorem Dn.{H,I}{q:Sort H} {z:Sort I} {A:q->z->Prop} {D:q->z->Prop} {E:q->z->Prop} {C:Prop} (h:∃a:q,∃b:z,A a b/\D a b/\E a b) (k:∀a:q,∀b:z,A a b->D a b->E a b->C):C:=let ⟨x0,x1,x2,x3,x4⟩:=h;k x0 x1 x2 x3 x4
theorem da.{H,I}{q:Sort H} {z:Sort I} {A:q->z->Prop} {D:q->z->Prop} {E:q->z->Prop} {P3:q->z->Prop} {C:Prop} (h:∃a:q,∃b:z,A a b/\D a b/\E a b/\P3 a b) (k:∀a:q,∀b:z,A a b->D a b->E a b->P3 a b->C):C:=let ⟨x0,x1,x2,x3,x4,J⟩:=h;k x0 x1 x2 x3 x4 J
theorem uS.{I,J}{q:Sort I} {z:Sort J} {A:q->z->Prop} {D:q->z->Prop} {E:q->z->Prop} {P3:q->z->Prop} {H:q->z->Prop} {C:Prop} (h:∃a:q,∃b:z,A a b/\D a b/\E a b/\P3 a b/\H a b) (k:∀a:q,∀b:z,A a b->D a b->E a b->P3 a b->H a b->C):C:=let ⟨x0,x1,x2,x3,x4,L,O⟩:=h;k x0 x1 x2 x3 x4 L O
theorem KR.{I,J,L}{q:Sort I} {z:Sort J} {A:Sort L} {D:q->z->Prop} {E:q->z->A->Prop} {H:q->z->A->Prop} {C:Prop} (h:∃a:q,∃b:z,D a b/\∃c:A,E a b c/\H a b c) (k:∀a:q,∀b:z,D a b->∀c:A,E a b c->H a b c->C):C:=let ⟨x0,x1,x2,x3,x4,O⟩:=h;k x0 x1 x2 x3 x4 O
theorem UN.{E,H,I}{q:Sort E} {z:Sort H} {A:Sort I} {D:q->z->A->Prop} {C:Prop} (h:∃a:q,∃b:z,∃c:A,D a b c) (k:∀a:q,∀b:z,∀c:A,D a b c->C):C:=let ⟨x0,x1,x2,x3⟩:=h;k x0 x1 x2 x3
theorem j5.{H,I,J}{q:Sort H} {z:Sort I} {A:Sort J} {D:q->z->A->Prop} {E:q->z->A->Prop} {C:Prop} (h:∃a:q,∃b:z,∃c:A,D a b c/\E a b c) (k:∀a:q,∀b:z,∀c:A,D a b c->E a b c->C):C:=let ⟨x0,x1,x2,x3,x4⟩:=h;k x0 x1 x2 x3 x4
theorem er.{I,J,L}{q:Sort I} {z:Sort J} {A:Sort L} {D:q->z->A->Prop} {E:q->z->A->Prop} {H:q->z->A->Prop} {C:Prop} (h:∃a:q,∃b:z,∃c:A,D a b c/\E a b c/\H a b c) (k:∀a:q,∀b:z,∀c:A,D a b c->E a b c->H a b c->C):C:=let ⟨x0,x1,x2,x3,x4,O⟩:=h;k x0 x1 x2 x3 x4 O
theorem ry.{I,J,L}{q:Sort I} {z:Sort J} {A:Sort L} {D:q->z->A->Prop} {E:q->z->A->Prop} {H:q->z->A->Prop} {P3:q->z->A->Prop} {C:Prop} (h:∃a:q,∃b:z,∃c:A,D a b c/\E a b c/\H a b c/\P3 a b c) (k:∀a:q,∀b:z,∀c:A,D a b c->E a b c->H a b c->P3 a b c->C):C:=let ⟨x0,x1,x2,x3,x4,O,Q⟩:=h;k x0 x1 x2 x3 x4 O Q
theorem ox.{L,O,Q}{q:Sort L} {z:Sort O} {A:Sort Q} {D:q->z->A->Prop} {E:q->z->A->Prop} {H:q->z->A->Prop} {P3:q->z->A->Prop} {I:q->z->A->Prop} {J:q->z->A->Prop} {C:Prop} (h:∃a:q,∃b:z,∃c:A,D a b c/\E a b c/\H a b c/\P3 a b c/\I a b c/\J a b c) (k:∀a:q,∀b:z,∀c:A,D a b c->E a b c->H a b c->P3 a b c->I a b c->J a b c->C):C:=let ⟨x0,x1,x2,x3,x4,U,Y,x7,x8⟩:=h;k x0 x1 x2 x3 x4 U Y x7 x8
theorem By.{J,L,O,Q}{q:Sort J} {z:Sort L} {A:Sort O} {D:Sort Q} {E:q->z->A->D->Prop} {H:q->z->A->D->Prop} {I:q->z->A->D->Prop} {C:Prop} (h:∃a:q,∃b:z,∃c:A,∃d:D,E a b c d/\H a b c d/\I a b c d) (k:∀a:q,∀b:z,∀c:A,∀d:D,E a b c d->H a b c d->I a b c d->C):C:=let ⟨x0,x1,x2,x3,x4,U,Y⟩:=h;k x0 x1 x2 x3 x4 U Y
noncomputable def FI:List String:=["code","at","rows","index","depths","weights","opens","row","tid","name","sort","flags","base","ifaces","params","variances","bounds","fields","methods","asm","cctor","under","impls","props","events","finaliser","home","kt","types","fields_","names","asms","entry","lid","kind","owner","arg","block","fnid","mid","lids","this_kind","ret","body","up","elem","store","fns","vars","of_mid","diags","inits","sinits","consts","unit","fn","out","labels","targets","exprs","stmts","spiller","","low","temp","expr","==","<<",">>","!=","<",">","<=",">=","!","&","^","once","numbers","v","whole","a","left","n","inner","s","c","e","f","~","|","+","*","p","t","-","d","put","T","cut","spill","effect","stmt","label"]
noncomputable def cy:List (List Nat):=[[0,1],[],[],[2,3,4,5,6],[8,9,10,11,12,13,14,15,16,17,18,19,20,21,22,23,24,25,26],[27,28,29,18,30,31,32],[2],[33,9,34,11,35,36,37],[38,39,40,14,41,42,43,44,10,45,1],[46,19,47,48,49,50,51,52,53],[],[],[54,46,27,55,56,57,58,59,60,61],[],[],[],[],[],[],[],[],[],[],[],[],[]]
section
inductive V where
 |none|bool (b:Bool)|int (i:Int)|str (n:Nat)|tup (l:List V)|lst (l:List V)|bZ (ks vs:List V)|obj (i:Nat)
 deriving Inhabited
inductive Ob where
 |list (l:List V)|dict (l:List (V×V))|inst (c:Nat) (fs:List (Nat×V))
 deriving Inhabited
abbrev St:=List Ob
mutual
noncomputable def V.beq:V->V->Bool
 | .none,.none=>true
 | .bool a,.bool b=>a==b
 | .int a,.int b=>a==b
 | .str a,.str b=>a==b
 | .tup a,.tup b=>V.eX a b
 | .lst a,.lst b=>V.eX a b
 |_,_=>false
noncomputable def V.eX:List V->List V->Bool
 |[],[]=>true
 |a::x,b::y=>V.beq a b&&V.eX x y
 |_,_=>false
end
mutual
noncomputable def V.plain:V->Bool
 | .none=>true
 | .int _=>true
 | .str n=>decide (n<104)
 | .tup l=>V.bG l
 | .lst l=>V.bG l
 |_=>false
noncomputable def V.bG:List V->Bool
 |[]=>true
 |a::r=>V.plain a&&V.bG r
end
noncomputable def V.eq:V->V->Option Bool
 | .int a,.int b=>some (a==b)
 | .none,.none=>some true
 | .none,.int _=>some false
 | .int _,.none=>some false
 | .bool a,.bool b=>some (a==b)
 |a,b=>if V.plain a&&V.plain b then some (V.beq a b) else Option.none
mutual
noncomputable def V.deep:V->Nat
 | .tup l=>V.dy l+1
 | .lst l=>V.dy l+1
 |_=>0
noncomputable def V.dy:List V->Nat
 |[]=>0
 |a::r=>max (V.deep a) (V.dy r)
end
inductive fJ where
 |add|sub|mul|mod|fdiv|band|bor
inductive Cm where
 |eq|ne|lt|le|gt|ge|is|iC|isin|jT
inductive Ex where
 |lc (i:Nat)|cn (v:V)|at(e:Ex) (f:Nat)|ix (e i:Ex)|fU (e lo:Ex)|eP (e hi:Ex)|kY (e lo hi:Ex)|tp (l:List Ex)|ls (l:List Ex)|dc (l:List Ex)
 |bn (o:fJ) (a b:Ex)|cm (c:Cm) (a b:Ex)|gN (c d:Cm) (x a b:Ex)|an (l:List Ex)|orr (l:List Ex)|nt (e:Ex)|ite (c a b:Ex)
 |call (f:Nat) (l:List Ex)|new (c:Nat) (l:List Ex)|aZ (e:Ex) (f:Nat) (l:List Ex)
 |len (e:Ex)|k3 (e:Ex)|gO (e:Ex)|lst (e:Ex)|kr (e k:Ex)|gq (e k d:Ex)
 |comp (elt:Ex) (x:Nat) (it:Ex)|jE (elt:Ex) (x:Nat) (n:Ex)
 |cV (l:List Ex)|eD (l:List Ex)|hA (elt:Ex) (x:Nat) (it:Ex)|i3 (i:Nat)
inductive Sm where
 |asg (i:Nat) (e:Ex)|i4 (i:Nat) (l:List Ex)|ku (i:Nat) (e:Ex)|kz (i:Nat) (e:Ex)|ec (is:List Nat) (e:Ex)
 |aW (e:Ex) (f:Nat) (v:Ex)|cK (e k v:Ex)|jU (l:List (Ex×Ex)) (e:Ex)|jL (i:Nat) (k v:Ex)|i5 (i:Nat) (v:Ex)|kB (i:Nat) (v:Ex)
 |app (e v:Ex)|jM (e k:Ex) (o:fJ) (v:Ex)|i6 (i:Nat) (o:fJ) (v:Ex)|exp (e:Ex)
 |iff (c:Ex) (a b:List Sm)|ret (e:Ex)|kD (i:Nat)|lY|dh (x:Nat) (it:Ex) (b:List Sm)|i7 (x y:Nat) (it:Ex) (b:List Sm)|forR (x:Nat) (n:Ex) (b:List Sm)|stop|pass
inductive Slot where
 |un|v (x:V)|own (l:List V)
 deriving Inhabited
abbrev Env:=List Slot
inductive Fl where
 |next|ret (v:V)
abbrev M:=StateT St Option
noncomputable def fail{α:Type}:M α:=fun _=>Option.none
noncomputable def lift{α:Type} (x:Option α):M α:=fun s=>x.map fun a=>(a,s)
noncomputable def cU (i:Nat):M Ob:=fun s=>(s[i]?).map fun o=>(o,s)
noncomputable def h9 (i:Nat) (o:Ob):M Unit:=fun s=>some ((),s.set i o)
noncomputable def ia (o:Ob):M V:=fun s=>some (.obj s.length,s++[o])
noncomputable def V.dX:V->V->Option Bool
 | .int a,.int b=>some (a==b)
 | .str a,.str b=>if a<104/\b<104 then some (a==b) else Option.none
 | .tup a,.tup b=>if V.bG a&&V.bG b then some (V.eX a b) else Option.none
 |_,_=>Option.none
noncomputable def look (k:V):List (V×V)->Option (Option V)
 |[]=>some Option.none
 |(a,b)::r=>match V.dX a k with
  |some true=>some (some b)
  |some false=>look k r
  |Option.none=>Option.none
noncomputable def lI (k:V):List V->List V->Option (Option V)
 |[],[]=>some Option.none
 |a::x,b::y=>match V.dX a k with
  |some true=>some (some b)
  |some false=>lI k x y
  |Option.none=>Option.none
 |_,_=>Option.none
noncomputable def bY (k v:V):List (V×V)->Option (List (V×V))
 |[]=>some [(k,v)]
 |(a,b)::r=>match V.dX a k with
  |some true=>some ((a,v)::r)
  |some false=>(bY k v r).map ((a,b)::·)
  |Option.none=>Option.none
noncomputable def isKey:V->Bool
 | .int _=>true
 | .str n=>decide (n<104)
 |_=>false
noncomputable def isInt:V->Bool
 | .int _=>true
 |_=>false
noncomputable def keyOk:V->Bool
 | .int _=>true
 | .str n=>decide (n<104)
 | .tup l=>l.all fun x=>match x with| .int _=>true| .tup m=>m.all (fun y=>match y with| .int _=>true|_=>false)|_=>false
 |_=>false
noncomputable def truth:V->M Bool
 | .none=>pure false
 | .bool b=>pure b
 | .int i=>pure (i !=0)
 | .tup l=>if l.length<=1048576 then pure (!l.isEmpty) else fail
 | .lst l=>if l.length<=1048576 then pure (!l.isEmpty) else fail
 |_=>fail
noncomputable def V.int?:V->Option Int
 | .int i=>some i
 |_=>Option.none
noncomputable def V.EB:V->Option (List V)
 | .tup l=>some l
 |_=>Option.none
noncomputable def V.yF:V->Option (List V)
 | .lst l=>some l
 |_=>Option.none
noncomputable def natOf:V->Option Nat
 | .int (.ofNat n)=>some n
 |_=>Option.none
noncomputable def one?:List V->Option V
 |[a]=>some a
 |_=>Option.none
noncomputable def pW (a b:V) (f:Int->Int->Option V):Option V:=a.int?.bind fun x=>b.int?.bind fun y=>f x y
noncomputable def EC (a b:V):Option V:=match a with
 | .int x=>b.int?.bind fun y=>some (.int (x+y))
 | .tup x=>b.EB.bind fun y=>if x.length+y.length<=1048576 then some (.tup (x++y)) else Option.none
 | .lst x=>b.yF.bind fun y=>if x.length+y.length<=1048576 then some (.lst (x++y)) else Option.none
 |_=>Option.none
noncomputable def gu (o:fJ) (a b:V):Option V:=match o with
 | .add=>EC a b
 | .sub=>pW a b fun x y=>some (.int (x-y))
 | .mul=>a.yF.bind fun l=>(one? l).bind fun x=>(natOf b).bind fun n=>if n<=1000 then some (.lst (List.replicate n x)) else Option.none
 | .mod=>pW a b fun x y=>if y>0 then some (.int (Int.fmod x y)) else Option.none
 | .fdiv=>pW a b fun x y=>if y=7/\0<=x/\x<10000000000 then some (.int (Int.fdiv x y)) else Option.none
 | .band=>(natOf a).bind fun x=>(natOf b).bind fun y=>some (.int (.ofNat (Nat.land x y)))
 | .bor=>pW a b fun x y=>if x=2/\y=4 then some (.int 6) else Option.none
noncomputable def contains (k:V):V->M Bool
 | .tup l=>if(k.plain&&V.bG l)&&decide (V.deep k<=60) then pure (l.any fun x=>V.beq x k) else fail
 | .lst l=>if(k.plain&&V.bG l)&&decide (V.deep k<=60) then pure (l.any fun x=>V.beq x k) else fail
 | .bZ ks vs=>if isKey k then lift ((lI k ks vs).map (·.isSome)) else fail
 | .obj i=>do match<-cU i with
  | .dict l=>if isKey k then lift ((look k l).map (·.isSome)) else fail
  |_=>fail
 |_=>fail
noncomputable def V.jV:V->Bool
 | .none=>true
 |_=>false
noncomputable def tB (a b:V):M Bool:=if V.deep a<=60/\V.deep b<=60 then lift (V.eq a b) else fail
noncomputable def FJ (a b:V):M Bool:=match a with
 | .obj i=>(match b with
  | .lst []=>do match<-cU i with| .list l=>pure l.isEmpty|_=>fail
  |_=>tB a b)
 |_=>tB a b
noncomputable def pX (a b:V) (f:Int->Int->Bool):M Bool:=lift (a.int?.bind fun x=>b.int?.map fun y=>f x y)
noncomputable def cmp (c:Cm) (a b:V):M Bool:=match c with
 | .eq=>FJ a b
 | .ne=>if V.deep a<=60/\V.deep b<=60 then lift ((V.eq a b).map (!·)) else fail
 | .lt=>pX a b fun x y=>decide (x<y)
 | .le=>pX a b fun x y=>decide (x<=y)
 | .gt=>pX a b fun x y=>decide (y<x)
 | .ge=>pX a b fun x y=>decide (y<=x)
 | .is=>if b.jV then pure a.jV else fail
 | .iC=>if b.jV then pure (!a.jV) else fail
 | .isin=>contains a b
 | .jT=>do return !(<-contains a b)
noncomputable def jm:List V->Int->Option V
 |l,.ofNat n=>if n<2147483648 then l[n]? else Option.none
 |_,_=>Option.none
noncomputable def item:V->V->M V
 | .tup l,.int i=>lift (jm l i)
 | .lst l,.int i=>lift (jm l i)
 | .bZ ks vs,k=>if isKey k then lift ((lI k ks vs).join) else fail
 | .obj j,k=>do match<-cU j,k with
  | .list l,.int i=>lift (jm l i)
  | .dict l,k=>if isKey k then lift ((look k l).join) else fail
  |_,_=>fail
 |_,_=>fail
noncomputable def jN (l:List V) (lo c:Option Nat):Option (List V):=if l.length<=1048576 then(match lo,c with
 |some a,Option.none=>if a<2147483648 then some (l.drop a) else Option.none
 |Option.none,some b=>if b<2147483648 then some (l.take b) else Option.none
 |some a,some b=>if a<=b/\b<=l.length then some ((l.drop a).take (b-a)) else Option.none
 |_,_=>Option.none) else Option.none
noncomputable def ED (l:List V) (lo c:Option Nat):Option (List V):=match lo,c with
 |some a,Option.none=>if 1<=a/\a<=l.length/\l.length<=1048576 then some (l.drop a) else Option.none
 |Option.none,some b=>if b<l.length/\l.length<=1048576 then some (l.take b) else Option.none
 |_,_=>Option.none
noncomputable def slice (v:V) (lo a:Option Nat):M V:=match v with
 | .tup l=>lift ((ED l lo a).map .tup)
 | .lst l=>lift ((jN l lo a).map .lst)
 | .obj i=>do match<-cU i with
  | .list l=>lift ((jN l lo a).map .lst)
  |_=>fail
 |_=>fail
noncomputable def small (n:Nat):Option V:=if n<2147483648 then some (.int n) else Option.none
noncomputable def lenOf:V->M V
 | .tup l=>lift (small l.length)
 | .lst l=>lift (small l.length)
 | .obj i=>do match<-cU i with
  | .list l=>lift (small l.length)
  | .dict l=>if l.all (fun p=>isKey p.1) then lift (small l.length) else fail
  |_=>fail
 |_=>fail
noncomputable def dz:V->M (List V)
 | .tup l=>if l.length<=1048576 then pure l else fail
 | .lst l=>if l.length<=1048576 then pure l else fail
 |_=>fail
noncomputable def oV:V->M (List V)
 | .tup l=>if l.length<=1048576 then pure l else fail
 |_=>fail
noncomputable def mP:V->M (List V)
 | .lst l=>if l.length<=1048576 then pure l else fail
 |_=>fail
noncomputable def k6:fJ->V->V->Option V
 | .add,.int a,.int b=>some (.int (a+b))
 | .sub,.int a,.int b=>some (.int (a-b))
 |_,_,_=>Option.none
noncomputable def grow (l m:List V):M (List V):=if l.length+m.length<=1048576 then pure (l++m) else fail
noncomputable def kG (v k d:V):M V:=match v with
 | .bZ ks vs=>if isKey k then lift ((lI k ks vs).map (·.getD d)) else fail
 | .obj i=>do match<-cU i with
  | .dict l=>if keyOk k then lift ((look k l).map (·.getD d)) else fail
  |_=>fail
 |_=>fail
noncomputable def attr (v:V) (f:Nat):M V:=match v with
 | .obj i=>do match<-cU i with
  | .inst _ a=>lift (a.lookup f)
  |_=>fail
 |_=>fail
noncomputable def gI (f:Nat) (v:V):List (Nat×V)->List (Nat×V)
 |[]=>[(f,v)]
 |(g,x)::r=>if g==f then(g,v)::r else(g,x)::gI f v r
noncomputable def setAttr (o:V) (f:Nat) (v:V):M Unit:=match o with
 | .obj i=>do match<-cU i with
  | .inst c a=>if((cy[c]?).getD []).contains f&&decide (3<=c/\a.length<1000) then h9 i (.inst c (gI f v a)) else fail
  |_=>fail
 |_=>fail
noncomputable def setItem (o k v:V):M Unit:=match o with
 | .obj i=>do match<-cU i,k with
  | .list l,.int (.ofNat n)=>if n<l.length/\l.length<=1048576 then h9 i (.list (l.set n v)) else fail
  | .dict l,k=>if keyOk k&&decide (l.length<=1048576) then do h9 i (.dict (<-lift (bY k v l))) else fail
  |_,_=>fail
 |_=>fail
noncomputable def append (o v:V):M Unit:=match o with
 | .obj i=>do match<-cU i with
  | .list l=>if l.length<=1048576 then h9 i (.list (l++[v])) else fail
  |_=>fail
 |_=>fail
noncomputable def lJ (o:V):M Unit:=match o with
 | .bZ _ _=>pure ()
 | .obj i=>do match<-cU i with
  | .dict _=>pure ()
  |_=>fail
 |_=>fail
noncomputable def oW (o:V):M Unit:=match o with
 | .obj i=>do match<-cU i with
  | .list _=>pure ()
  |_=>fail
 |_=>fail
noncomputable def pairUp:List V->Option (List (V×V))
 |[]=>some []
 |k::v::r=>(pairUp r).map ((k,v)::·)
 |_=>Option.none
structure cF where
 fn:Nat->List V->M V
 new:Nat->List V->M V
 aZ:V->Nat->M Nat
noncomputable def ZH (env:Env) (i:Nat):M (V×Env):=match env[i]? with
 |some (.v x)=>pure (x,env)
 |_=>fail
section
variable (K:cF)
mutual
noncomputable def aG (env:Env):Ex->M V
 | .lc i=>(match env[i]? with
  |some (.v x)=>pure x
  |_=>fail)
 | .cn v=>pure v
 | .at e f=>do attr (<-aG env e) f
 | .ix e i=>do let o<-aG env e;item o (<-aG env i)
 | .fU e lo=>do
  let o<-aG env e
  let l<-aG env lo
  match natOf l with
  |some a=>slice o (some a) Option.none
  |_=>fail
 | .eP e m=>do
  let o<-aG env e
  let h<-aG env m
  match natOf h with
  |some b=>slice o Option.none (some b)
  |_=>fail
 | .kY e lo m=>do
  let o<-aG env e
  let l<-aG env lo
  let h<-aG env m
  match natOf l,natOf h with
  |some a,some b=>slice o (some a) (some b)
  |_,_=>fail
 | .tp l=>do return .tup (<-cJ env l)
 | .ls l=>do return .lst (<-cJ env l)
 | .dc l=>do
  let r<-lift (pairUp (<-cJ env l))
  if r.all (fun p=>isInt p.1) then do
   let q<-lift (r.foldlM (fun d p=>bY p.1 p.2 d) [])
   return .bZ (q.map (·.1)) (q.map (·.2))
  else fail
 | .bn o a b=>do let x<-aG env a;lift (gu o x (<-aG env b))
 | .cm c a b=>do let x<-aG env a;return .bool (<-cmp c x (<-aG env b))
 | .gN c d x a b=>do
  let p<-aG env x
  let q<-aG env a
  if<-cmp c p q then return .bool (<-cmp d q (<-aG env b)) else return .bool false
 | .an l=>mQ env l
 | .orr l=>nJ env l
 | .nt e=>do return .bool (!(<-truth (<-aG env e)))
 | .ite c a b=>do if<-truth (<-aG env c) then aG env a else aG env b
 | .call f l=>do K.fn f (<-cJ env l)
 | .new c l=>do K.new c (<-cJ env l)
 | .aZ e f l=>do
  let o<-aG env e
  let g<-K.aZ o f
  K.fn g (o::(<-cJ env l))
 | .len e=>do lenOf (<-aG env e)
 | .k3 e=>do
  let v<-aG env e
  match v with
  | .str _=>return .bool true
  | .none=>return .bool false
  | .int _=>return .bool false
  |_=>fail
 | .gO e=>do return .tup (<-dz (<-aG env e))
 | .lst e=>do return .lst (<-dz (<-aG env e))
 | .kr e k=>do
  let o<-aG env e
  lJ o
  kG o (<-aG env k) .none
 | .gq e k d=>do
  let o<-aG env e
  lJ o
  let x<-aG env k
  kG o x (<-aG env d)
 | .comp j x s=>do
  let l<-dz (<-aG env s)
  return .lst (<-l.mapM fun v=>aG (env.set x (.v v)) j)
 | .jE j x n=>do
  let k<-lift ((natOf (<-aG env n)).bind fun k=>if k<=1000 then some k else Option.none)
  return .lst (<-(List.range k).mapM fun i=>aG (env.set x (.v (.int (Int.ofNat i)))) j)
 | .i3 i=>(match env[i]? with
  |some (.own l)=>if l.length<=1048576 then pure (.tup l) else fail
  |_=>fail)
 | .cV l=>do ia (.list (<-cJ env l))
 | .eD l=>do
  let r<-lift (pairUp (<-cJ env l))
  if r.all (fun p=>isKey p.1) then do
   let q<-lift (r.foldlM (fun d p=>bY p.1 p.2 d) [])
   ia (.dict q)
  else fail
 | .hA j x s=>do
  let l<-dz (<-aG env s)
  ia (.list (<-l.mapM fun v=>aG (env.set x (.v v)) j))
noncomputable def cJ (env:Env):List Ex->M (List V)
 |[]=>pure []
 |e::r=>do let v<-aG env e;return v::(<-cJ env r)
noncomputable def mQ (env:Env):List Ex->M V
 |[]=>fail
 |[e]=>aG env e
 |e::r=>do let v<-aG env e;if<-truth v then mQ env r else pure v
noncomputable def nJ (env:Env):List Ex->M V
 |[]=>fail
 |[e]=>aG env e
 |e::r=>do let v<-aG env e;if<-truth v then pure v else nJ env r
end
noncomputable def loop (body:V->Env->M (Fl×Env)):List V->Env->M (Fl×Env)
 |[],env=>pure (.next,env)
 |v::r,env=>do
  match<-body v env with
  |(.next,a)=>loop body r a
  |x=>pure x
noncomputable def iR:List Nat->List V->Env->Option Env
 |[],[],env=>some env
 |i::is,v::vs,env=>iR is vs (env.set i (.v v))
 |_,_,_=>Option.none
mutual
noncomputable def nT (env:Env):Sm->M (Fl×Env)
 | .asg i e=>do return (.next,env.set i (.v (<-aG K env e)))
 | .i4 i l=>do return (.next,env.set i (.own (<-cJ K env l)))
 | .ku i e=>do return (.next,env.set i (.own (<-dz (<-aG K env e))))
 | .kz i e=>do
  match env[i]? with
  |some (.own l)=>do return (.next,env.set i (.own (<-grow l (<-mP (<-aG K env e)))))
  |_=>fail
 | .ec is e=>do
  let l<-oV (<-aG K env e)
  return (.next,<-lift (iR is l env))
 | .aW e f v=>do let x<-aG K env v;setAttr (<-aG K env e) f x;return (.next,env)
 | .cK e k v=>do let x<-aG K env v;let o<-aG K env e;setItem o (<-aG K env k) x;return (.next,env)
 | .jU l e=>do
  let vs<-oV (<-aG K env e)
  k7 env l vs
  return (.next,env)
 | .jL i k v=>do
  let x<-aG K env v
  let j<-lift (natOf (<-aG K env k))
  match env[i]? with
  |some (.own l)=>if j<l.length/\j<1048576 then return (.next,env.set i (.own (l.set j x))) else fail
  |_=>fail
 | .i5 i v=>do
  let x<-aG K env v
  match env[i]? with
  |some (.own l)=>do return (.next,env.set i (.own (<-grow l [x])))
  |_=>fail
 | .kB i v=>do
  let x<-dz (<-aG K env v)
  match env[i]? with
  |some (.own l)=>do return (.next,env.set i (.own (<-grow l x)))
  |_=>fail
 | .app e v=>do
  let o<-aG K env e
  oW o
  append o (<-aG K env v)
  return (.next,env)
 | .jM e k o v=>do
  let d<-aG K env e
  let i<-aG K env k
  let g<-item d i
  let x<-aG K env v
  setItem d i (<-lift (k6 o g x))
  return (.next,env)
 | .i6 i o v=>do
  match env[i]? with
  |some (.v g)=>do
   let x<-aG K env v
   return (.next,env.set i (.v (<-lift (k6 o g x))))
  |_=>fail
 | .exp e=>do let _<-aG K env e;return (.next,env)
 | .iff c a b=>do if<-truth (<-aG K env c) then cM env a else cM env b
 | .ret e=>do return (.ret (<-aG K env e),env)
 | .kD i=>(match env[i]? with
  |some (.own l)=>pure (.ret (.lst l),env)
  |_=>fail)
 | .lY=>pure (.ret .none,env)
 | .dh x h b=>do
  let l<-dz (<-aG K env h)
  loop (fun v env=>cM (env.set x (.v v)) b) l env
 | .i7 x y h b=>do
  let l<-dz (<-aG K env h)
  loop (fun v env=>match v with
   | .tup [p,q]=>cM ((env.set x (.v p)).set y (.v q)) b
   |_=>fail) l env
 | .forR x n b=>do
  let k<-lift ((natOf (<-aG K env n)).bind fun k=>if k<=1000 then some k else Option.none)
  loop (fun v env=>cM (env.set x (.v v)) b) ((List.range k).map fun i=> .int (Int.ofNat i)) env
 | .stop=>fail
 | .pass=>pure (.next,env)
noncomputable def cM (env:Env):List Sm->M (Fl×Env)
 |[]=>pure (.next,env)
 |s::r=>do
  match<-nT env s with
  |(.next,a)=>cM a r
  |x=>pure x
noncomputable def k7 (env:Env):List (Ex×Ex)->List V->M Unit
 |[],[]=>pure ()
 |(o,k)::r,v::vs=>do
  let d<-aG K env o
  setItem d (<-aG K env k) v
  k7 env r vs
 |_,_=>fail
end
end
structure Fn where
 n:Nat
 body:List Sm
structure Prog where
 fn:Nat->Option Fn
 cls:Nat->Option (Option Nat×(Nat->Option Nat))
 ar:Nat->Nat
noncomputable def fC (n:Nat) (vs:List V):Env:=vs.map .v++List.replicate (n-vs.length) .un
noncomputable def mR (P:Prog) (r:Nat->List V->M V):cF:={
 fn:=r
 new:=fun c l=>match P.cls c with
  |Option.none=>fail
  |some (a,_)=>do
   let o<-ia (.inst c [])
   match a with
   |Option.none=>if l.isEmpty then pure o else fail
   |some g=>do
    match<-r g (o::l) with
    | .none=>pure o
    |_=>fail
 aZ:=fun o f=>match o with
  | .obj i=>do match<-cU i with
   | .inst c _=>lift ((P.cls c).bind (fun x=>x.2 f))
   |_=>fail
  |_=>fail}
noncomputable def fin (x:Fl×Env):M V:=match x with
 |(.ret v,_)=>pure v
 |(.next,_)=>pure .none
noncomputable def yG (P:Prog) (r:Nat->List V->M V) (f:Nat) (vs:List V):M V:=match P.fn f with
 |Option.none=>fail
 |some d=>if P.ar f==vs.length then cM (mR P r) (fC d.n vs) d.body>>=fin else fail
noncomputable def run (P:Prog):Nat->Nat->List V->M V
 |0,_,_=>fail
 |n+1,f,vs=>yG P (run P n) f vs
theorem aM{α:Type}{a:α} (h:Option.none=some a):False:=nomatch h
theorem i8{α:Type}{a:α} (h:some a=Option.none):False:=nomatch h
theorem br{α β:Type} {a c:α} {b d:β} (h:some (a,b)=some (c,d)):a=c/\b=d:=by cases h;exact⟨rfl,rfl⟩
theorem fk{α:Type}{c:Prop} [Decidable c] {x:M α} {st:St} {r:α×St} (h:(if c then x else fail) st=some r):c/\x st=some r:=by
 by_cases q:c
 ·rw[if_pos q] at h;exact⟨q,h⟩
 ·rw[if_neg q] at h;exact(aM h).elim
theorem cf{p q:Bool} (h:(p&&q)=true):p=true/\q=true:=bK.mp h
theorem j3{α:Type}{c:Prop} [Decidable c] {x:Option α} {r:α} (h:(if c then x else Option.none)=some r):c/\x=some r:=by
 by_cases q:c
 ·rw[if_pos q] at h;exact⟨q,h⟩
 ·rw[if_neg q] at h;exact(aM h).elim
end
noncomputable def Ex.i (n:Int):Ex:= .cn (.int n)
noncomputable def Ex.x (a n:Nat):Ex:= .ix (.lc a) (.cn (.int n))
noncomputable def L0:Ex:= .lc 0
noncomputable def L1:Ex:= .lc 1
noncomputable def L2:Ex:= .lc 2
noncomputable def L3:Ex:= .lc 3
noncomputable def L4:Ex:= .lc 4
noncomputable def L5:Ex:= .lc 5
noncomputable def L6:Ex:= .lc 6
noncomputable def L7:Ex:= .lc 7
noncomputable def L8:Ex:= .lc 8
noncomputable def L9:Ex:= .lc 9
noncomputable def nU:Ex:= .lc 10
noncomputable def zo:Ex:= .lc 11
noncomputable def tC:Ex:= .lc 12
noncomputable def qq:Ex:= .lc 13
noncomputable def WN:Ex:= .lc 14
noncomputable def WO:Ex:= .lc 15
noncomputable def FK:Ex:= .lc 16
noncomputable def zp:Ex:= .lc 17
noncomputable def WQ:Ex:= .lc 18
noncomputable def FL:Ex:= .lc 19
noncomputable def uh:V:=(.bZ [.int 4,.int 6,.int 7,.int 8,.int 9,.int 10,.int 11,.int 13,.int 14,.int 15,.int 16,.int 17,.int 18,.int 19,.int 20,.int 21,.int 22,.int 23,.int 25,.int 26,.int 27,.int 28,.int 30,.int 31,.int 33,.int 34,.int 35,.int 36] [.tup [.tup [.int 2,.int 1]],.tup [.tup [.int 2,.int 1],.tup [.int 3,.int 1]],.tup [.tup [.int 2,.int 1]],.tup [.tup [.int 2,.int 2],.tup [.int 4,.int 3]],.tup [.tup [.int 3,.int 3]],.tup [.tup [.int 2,.int 1]],.tup [.tup [.int 2,.int 3]],.tup [.tup [.int 3,.int 1]],.tup [.tup [.int 3,.int 1],.tup [.int 4,.int 1]],.tup [.tup [.int 2,.int 1],.tup [.int 3,.int 1]],.tup [.tup [.int 2,.int 1],.tup [.int 3,.int 1]],.tup [.tup [.int 2,.int 1],.tup [.int 3,.int 1],.tup [.int 4,.int 1]],.tup [.tup [.int 2,.int 1],.tup [.int 3,.int 1]],.tup [.tup [.int 2,.int 1]],.tup [.tup [.int 2,.int 1]],.tup [.tup [.int 2,.int 1]],.tup [.tup [.int 2,.int 1],.tup [.int 3,.int 1]],.tup [.tup [.int 2,.int 1],.tup [.int 3,.int 1]],.tup [.tup [.int 2,.int 2]],.tup [.tup [.int 2,.int 3]],.tup [.tup [.int 3,.int 1],.tup [.int 4,.int 1]],.tup [.tup [.int 3,.int 1]],.tup [.tup [.int 2,.int 1]],.tup [.tup [.int 2,.int 3],.tup [.int 3,.int 1]],.tup [.tup [.int 2,.int 1]],.tup [.tup [.int 2,.int 2],.tup [.int 5,.int 3]],.tup [.tup [.int 3,.int 3]],.tup [.tup [.int 2,.int 2]]])
noncomputable def AP:V:=(.bZ [.int 0,.int 1,.int 2,.int 3,.int 4,.int 5,.int 6,.int 7,.int 8,.int 9,.int 10,.int 11,.int 12,.int 13] [.int 20,.int 9,.int 10,.int 11,.int 12,.int 13,.int 14,.int 15,.int 16,.int 17,.int 18,.int 19,.int 1,.int 4])
noncomputable def AQ:V:=(.bZ [.int 20,.int 9,.int 10,.int 11,.int 12,.int 13,.int 14,.int 15,.int 16,.int 17,.int 18,.int 19,.int 1,.int 4] [.int 0,.int 1,.int 2,.int 3,.int 4,.int 5,.int 6,.int 7,.int 8,.int 9,.int 10,.int 11,.int 12,.int 13])
noncomputable def b0:List Sm:=[.stop]
noncomputable def b1:List Sm:=[.aW L0 0 L1,.aW L0 1 L2]
noncomputable def b2:List Sm:=[.aW L0 2 (.cV []),.aW L0 3 (.eD []),.aW L0 4 (.cV []),.aW L0 5 (.cV []),.aW L0 6 (.cV []),.forR 1 (.i 16) [.asg 2 (.tp [.i 1,L1]),.app (.at L0 2) L2,.cK (.at L0 3) L2 L1,.app (.at L0 4) (.i 1),.app (.at L0 5) (.i 1),.app (.at L0 6) (.i 0)]]
noncomputable def b3:List Sm:=[.iff (.orr [.cm .lt L1 (.i 0),.cm .ge L1 (.len (.at L0 2))]) [.stop] [],.ret (.ix (.at L0 2) L1)]
noncomputable def b4:List Sm:=[.asg 2 (.gq (.at L0 3) L1 (.i (-1))),.iff (.cm .ge L2 (.i 0)) [.ret L2] [],.exp (.call 8 [L0,L1]),.asg 3 (.i 1),.asg 4 (.i 1),.asg 5 (.i 0),.iff (.orr [.cm .eq (.x 1 0) (.i 6),.cm .eq (.x 1 0) (.i 7)]) [.asg 5 (.i 1)] [],.asg 6 (.call 6 [.x 1 0]),.dh 7 (.call 5 [L1]) [.iff (.cm .gt (.bn .add (.ix (.at L0 4) L7) L6) L3) [.asg 3 (.bn .add (.ix (.at L0 4) L7) L6)] [],.i6 4 .add (.ix (.at L0 5) L7),.iff (.cm .eq (.ix (.at L0 6) L7) (.i 1)) [.asg 5 (.i 1)] []],.iff (.cm .gt L3 (.i 24)) [.stop] [],.iff (.cm .gt L4 (.i 4096)) [.stop] [],.asg 8 (.len (.at L0 2)),.app (.at L0 2) L1,.cK (.at L0 3) L1 L8,.app (.at L0 4) L3,.app (.at L0 5) L4,.app (.at L0 6) L5,.ret L8]
noncomputable def b5:List Sm:=[.asg 1 (.x 0 0),.iff (.orr [.cm .eq L1 (.i 2),.cm .eq L1 (.i 3)]) [.ret (.x 0 2)] [],.iff (.orr [.cm .eq L1 (.i 4),.cm .eq L1 (.i 5),.cm .eq L1 (.i 8),.cm .eq L1 (.i 9),.cm .eq L1 (.i 11)]) [.ret (.tp [.x 0 1])] [],.iff (.cm .eq L1 (.i 10)) [.ret (.bn .add (.tp [.x 0 1]) (.x 0 3))] [],.ret (.tp [])]
noncomputable def b6:List Sm:=[.iff (.orr [.cm .eq L0 (.i 2),.cm .eq L0 (.i 3),.cm .eq L0 (.i 4)]) [.ret (.i 1)] [],.ret (.i 0)]
noncomputable def b7:List Sm:=[.iff (.orr [.cm .eq L0 (.i 2),.cm .eq L0 (.i 3)]) [.ret (.i 3)] [],.iff (.cm .eq L0 (.i 10)) [.ret (.i 4)] [],.ret (.i 2)]
noncomputable def b8:List Sm:=[.iff (.orr [.cm .eq (.len L1) (.i 0),.cm .le (.x 1 0) (.i 1),.cm .gt (.x 1 0) (.i 11)]) [.stop] [],.asg 2 (.x 1 0),.iff (.cm .ne (.len L1) (.call 7 [L2])) [.stop] [],.dh 3 (.call 5 [L1]) [.exp (.aZ L0 7 [L3])],.iff (.orr [.cm .eq L2 (.i 2),.cm .eq L2 (.i 3)]) [.exp (.call 9 [L0,L1])] [.iff (.orr [.cm .eq L2 (.i 6),.cm .eq L2 (.i 7)]) [.iff (.cm .lt (.x 1 1) (.i 0)) [.stop] []] [.iff (.cm .eq L2 (.i 10)) [.iff (.orr [.nt (.call 11 [L0,.x 1 1]),.cm .lt (.x 1 2) (.i 0)]) [.stop] [],.exp (.call 10 [L0,.x 1 3])] [.iff (.cm .eq L2 (.i 8)) [.iff (.nt (.orr [.call 15 [L0,.x 1 1],.call 17 [L0,.x 1 1]])) [.stop] []] [.iff (.nt (.call 11 [L0,.x 1 1])) [.stop] []]]]]]
noncomputable def b9:List Sm:=[.iff (.orr [.cm .le (.x 1 1) (.i 0),.cm .isin (.x 1 1) (.cn AQ)]) [.stop] [],.exp (.call 10 [L0,.x 1 2])]
noncomputable def WR:List Sm:=[.dh 2 L1 [.iff (.nt (.call 11 [L0,L2])) [.stop] []]]
noncomputable def WS:List Sm:=[.iff (.orr [.cm .eq L1 (.i 0),.cm .eq L1 (.i 14)]) [.ret (.cn (.bool false))] [],.asg 2 (.ix (.aZ L0 7 [L1]) (.i 0)),.ret (.orr [.cm .le L2 (.i 4),.cm .eq L2 (.i 6),.cm .eq L2 (.i 7)])]
noncomputable def WT:List Sm:=[.ret (.ix (.aZ L0 7 [L1]) (.i 0))]
noncomputable def WU:List Sm:=[.asg 2 (.aZ L0 7 [L1]),.iff (.orr [.cm .eq (.x 2 0) (.i 2),.cm .eq (.x 2 0) (.i 3)]) [.ret (.x 2 1)] [],.iff (.cm .eq (.x 2 0) (.i 1)) [.ret (.gq (.cn AP) L1 (.i 0))] [],.iff (.cm .eq (.x 2 0) (.i 4)) [.ret (.i 5)] [],.ret (.i 0)]
noncomputable def WV:List Sm:=[.asg 2 (.aZ L0 7 [L1]),.iff (.orr [.cm .eq (.x 2 0) (.i 2),.cm .eq (.x 2 0) (.i 3)]) [.ret (.x 2 2)] [],.ret (.tp [])]
noncomputable def WW:List Sm:=[.iff (.an [.cm .le (.i 1) L1,.cm .le L1 (.i 11)]) [.ret (.cn (.bool true))] [],.ret (.cm .eq (.ix (.aZ L0 7 [L1]) (.i 0)) (.i 3))]
noncomputable def WX:List Sm:=[.iff (.orr [.cm .eq L1 (.i 12),.cm .eq L1 (.i 13),.cm .eq L1 (.i 14)]) [.ret (.cn (.bool true))] [],.asg 2 (.ix (.aZ L0 7 [L1]) (.i 0)),.ret (.orr [.cm .eq L2 (.i 2),.cm .eq L2 (.i 4),.cm .eq L2 (.i 8)])]
noncomputable def WY:List Sm:=[.asg 2 (.ix (.aZ L0 7 [L1]) (.i 0)),.ret (.orr [.cm .eq L2 (.i 6),.cm .eq L2 (.i 7)])]
noncomputable def WZ:List Sm:=[.aW L0 8 L1,.aW L0 9 L2,.aW L0 10 L3,.aW L0 11 L4,.aW L0 12 L5,.aW L0 13 (.cV []),.aW L0 14 (.cV []),.aW L0 15 (.cV []),.aW L0 16 (.cV []),.dh 8 L6 [.app (.at L0 14) L8,.app (.at L0 15) (.i 0),.app (.at L0 16) (.tp [.i 0,.tp []])],.aW L0 17 (.cV []),.aW L0 18 (.cV []),.aW L0 19 L7,.aW L0 20 (.i 0),.aW L0 21 (.i (-1)),.aW L0 22 (.cV []),.aW L0 23 (.cV []),.aW L0 24 (.cV []),.aW L0 25 (.i 0),.aW L0 26 (.i 0)]
noncomputable def W2:List Sm:=[.aW L0 27 (.new 3 []),.aW L0 28 (.cV [.cn .none]),.aW L0 29 (.cV [.cn .none]),.aW L0 18 (.cV [.cn .none]),.aW L0 30 (.eD []),.aW L0 31 (.cV []),.aW L0 32 (.i 0)]
noncomputable def W4:List Sm:=[.asg 2 (.call 13 [.at L0 27,L1]),.iff (.orr [.cm .le L2 (.i 0),.cm .ge L2 (.len (.at L0 28))]) [.ret (.cn .none)] [],.ret (.ix (.at L0 28) L2)]
noncomputable def W5:List Sm:=[.ret (.an [.cm .eq (.call 12 [L0,L1]) (.i 3),.cm .eq (.call 13 [L0,L1]) (.i 8)])]
noncomputable def Xa:List Sm:=[.aW L0 2 (.cV [])]
noncomputable def Xb:List Sm:=[.app (.at L0 2) (.tp [L1,L2,L3])]
noncomputable def Xc:List Sm:=[.exp (.call 0 [.i 0])]
noncomputable def Xd:List Sm:=[.ret (.comp (.x 1 0) 1 (.at L0 2))]
noncomputable def Xe:List Sm:=[.aW L0 33 L1,.aW L0 9 L2,.aW L0 34 L3,.aW L0 11 L4,.aW L0 35 L5,.aW L0 36 (.i (-1)),.aW L0 37 (.i 0)]
noncomputable def Xf:List Sm:=[.aW L0 38 L1,.aW L0 39 L2,.aW L0 40 (.cV []),.aW L0 14 (.cV []),.aW L0 41 (.i (-1)),.aW L0 42 (.i 0),.aW L0 43 (.cn .none),.aW L0 44 L3,.aW L0 10 (.i 0),.aW L0 45 (.i (-1)),.aW L0 1 L4]
noncomputable def Xg:List Sm:=[.aW L0 46 L1,.aW L0 19 L2,.aW L0 47 (.cV [.cn .none]),.aW L0 48 (.cV [.cn .none]),.aW L0 49 (.eD []),.aW L0 50 (.new 6 []),.aW L0 51 (.eD []),.aW L0 52 (.eD []),.aW L0 53 (.eD [])]
noncomputable def Xh:List Sm:=[.asg 4 (.len (.at L0 47)),.app (.at L0 47) (.new 8 [L4,L1,L2,L3]),.iff L1 [.cK (.at L0 49) L1 L4] [],.ret L4]
noncomputable def Xi:List Sm:=[.asg 5 (.len (.at L0 48)),.app (.at L0 48) (.new 7 [L5,L2,L3,L4,L1]),.iff L1 [.app (.at (.ix (.at L0 47) L1) 40) L5] [],.ret L5]
noncomputable def Xj:List Sm:=[.i4 2 [],.i7 3 4 L1 [.asg 5 (.ix L0 L3),.iff (.cm .eq L4 (.i 3)) [.kB 2 L5] [.iff (.cm .iC L5 (.cn .none)) [.i5 2 L5] []]],.ret (.i3 2)]
noncomputable def Xk:List Sm:=[.ret (.call 31 [L0,.gq (.cn uh) (.x 0 0) (.tp [])])]
noncomputable def Xl:List Sm:=[.ku 2 L0,.asg 3 (.i 0),.i7 4 5 (.gq (.cn uh) (.x 0 0) (.tp [])) [.asg 6 (.ix L0 L4),.iff (.cm .eq L5 (.i 3)) [.jL 2 L4 (.gO (.kY L1 L3 (.bn .add L3 (.len L6)))),.i6 3 .add (.len L6)] [.iff (.cm .iC L6 (.cn .none)) [.jL 2 L4 (.ix L1 L3),.i6 3 .add (.i 1)] []]],.ret (.i3 2)]
noncomputable def Xm:List Sm:=[.iff (.cm .eq (.x 0 0) (.i 32)) [.ret L1] [],.iff (.cm .eq (.x 0 0) (.i 23)) [.ret (.bn .add (.bn .add (.eP L0 (.i 2)) (.tp [.call 34 [.x 0 2,L1]])) (.fU L0 (.i 3)))] [],.asg 2 (.call 32 [L0]),.iff (.nt L2) [.ret L0] [],.ret (.call 33 [L0,.comp (.call 34 [L3,L1]) 3 L2])]
noncomputable def Xn:List Sm:=[.ret (.call 46 [L1,L2])]
noncomputable def Xo:List Sm:=[.exp (.call 0 [.i 1])]
noncomputable def Xp:List Sm:=[.stop]
noncomputable def Xq:List Sm:=[.aW L0 54 L1,.aW L0 46 (.at L1 46),.aW L0 27 (.at (.at L1 46) 27),.aW L0 55 L2,.aW L0 56 (.cV []),.aW L0 57 (.i 0),.aW L0 58 (.cV []),.aW L0 59 (.eD []),.aW L0 60 (.eD []),.aW L0 61 (.new 11 [])]
noncomputable def Xr:List Sm:=[.ret (.call 45 [L0,L1])]
noncomputable def Xs:List Sm:=[.exp (.call 0 [.i 2])]
noncomputable def Xt:List Sm:=[.app (.at L0 56) L1]
noncomputable def Xu:List Sm:=[.exp (.call 0 [.i 3])]
noncomputable def Xv:List Sm:=[.ret (.call 30 [.at L0 54,.at (.at L0 55) 38,.cn (.str 62),L1,.i 32])]
noncomputable def Xw:List Sm:=[.ret (.call 51 [L0,L1,.tp []])]
noncomputable def Xx:List Sm:=[.asg 2 (.kr (.at L0 59) (.x 1 0)),.iff (.cm .is L2 (.cn .none)) [.ret (.call 46 [L0,L1])] [],.ret (.aZ L2 63 [L0,L1])]
noncomputable def Xy:List Sm:=[.asg 2 (.call 32 [L1]),.iff (.nt L2) [.ret L1] [],.ret (.call 33 [L1,.comp (.call 45 [L0,L3]) 3 L2])]
noncomputable def Xz:List Sm:=[.iff (.nt L0) [.ret L1] [],.ret (.tp [.i 31,.x 1 1,.gO L0,L1])]
noncomputable def XA:List Sm:=[.iff (.cm .eq (.x 0 0) (.i 2)) [.ret (.cm .eq (.x 0 2) L1)] [],.iff (.an [.cm .eq (.x 0 0) (.i 20),.cm .eq (.x 0 4) L1]) [.ret (.cn (.bool true))] [],.dh 2 (.call 32 [L0]) [.iff (.call 48 [L2,L1]) [.ret (.cn (.bool true))] []],.ret (.cn (.bool false))]
noncomputable def XB:List Sm:=[.iff (.cm .eq (.x 0 0) L1) [.ret (.cn (.bool true))] [],.dh 2 (.call 32 [L0]) [.iff (.call 49 [L2,L1]) [.ret (.cn (.bool true))] []],.ret (.cn (.bool false))]
noncomputable def XC:List Sm:=[.iff (.cm .eq (.x 1 0) (.i 1)) [.ret (.cn (.bool true))] [],.iff (.cm .eq (.x 1 0) (.i 3)) [.ret (.nt (.call 15 [.at L0 27,.x 1 1]))] [],.iff (.cm .ne (.x 1 0) (.i 2)) [.ret (.cn (.bool false))] [],.iff (.cm .ne (.bn .band (.at (.ix (.at (.at L0 54) 48) (.x 1 2)) 11) (.bn .bor (.i 2) (.i 4))) (.i 0)) [.ret (.cn (.bool false))] [],.dh 3 L2 [.iff (.call 48 [L3,.x 1 2]) [.ret (.cn (.bool false))] []],.ret (.cn (.bool true))]
noncomputable def XD:List Sm:=[.iff (.call 50 [L0,L1,L2]) [.ret (.tp [.tp [],L1])] [],.asg 3 (.tp [.i 2,.x 1 1,.aZ L0 64 [.x 1 1]]),.ret (.tp [.tp [.tp [.i 22,.x 1 1,L3,L1]],L3])]
noncomputable def XE:List Sm:=[.ret (.orr [.call 15 [L0,L1],.call 17 [L0,L1]])]
noncomputable def XF:List Sm:=[.asg 3 (.x 1 0),.iff (.cm .eq L3 (.i 4)) [.ec [7,8] (.call 54 [L0,.x 1 2,L2]),.ret (.tp [L7,.tp [.i 4,.x 1 1,L8,.x 1 3]])] [],.iff (.cm .eq L3 (.i 6)) [.asg 6 (.aZ L0 65 [.x 1 3]),.ec [9,10] (.call 51 [L0,.aZ L0 65 [.x 1 2],.bn .add (.tp [L6]) L2]),.ec [11,6] (.call 51 [L0,L6,L2]),.ret (.tp [.bn .add L9 zo,.tp [.i 6,.x 1 1,nU,L6]])] [],.iff (.cm .eq L3 (.i 34)) [.ret (.call 56 [L0,L1,L2])] [],.iff (.orr [.cm .eq L3 (.i 2),.cm .eq L3 (.i 5),.cm .eq L3 (.i 3)]) [.ret (.tp [.tp [],L1])] [],.asg 4 (.aZ L0 65 [L1]),.asg 5 (.tp [.i 2,.x 1 1,.aZ L0 64 [.x 1 1]]),.ret (.tp [.tp [.tp [.i 22,.x 1 1,L5,L4]],L5])]
noncomputable def XG:List Sm:=[.iff (.call 52 [.at L0 27,.x 1 1]) [.ret (.call 53 [L0,L1,L2])] [],.iff (.call 55 [L0,L1]) [.ec [3,4] (.call 51 [L0,.aZ L0 65 [.x 1 2],L2]),.ret (.tp [L3,.tp [.i 19,.x 1 1,L4,.i 4,.i 0]])] [],.ret (.call 51 [L0,.aZ L0 65 [L1],L2])]
noncomputable def XH:List Sm:=[.iff (.orr [.cm .ne (.x 1 0) (.i 19),.cm .ne (.x 1 3) (.i 4),.nt (.call 17 [.at L0 27,.ix (.x 1 2) (.i 1)]),.cm .eq (.x 1 1) (.i 12)]) [.ret (.cn (.bool false))] [],.asg 2 (.call 20 [.at L0 46,.x 1 1]),.ret (.an [.cm .iC L2 (.cn .none),.cm .eq (.at L2 10) (.i 1)])]
noncomputable def XI:List Sm:=[.asg 3 (.comp (.aZ L0 65 [L8]) 8 (.x 1 5)),.asg 4 (.tp []),.asg 5 (.x 1 2),.iff (.cm .iC L5 (.cn .none)) [.ec [4,5] (.call 54 [L0,L5,.bn .add (.gO L3) L2])] [],.i4 6 [],.forR 7 (.len L3) [.ec [9,8] (.call 51 [L0,.ix L3 L7,.bn .add (.gO (.fU L3 (.bn .add L7 (.i 1)))) L2]),.asg 4 (.bn .add L4 L9),.i5 6 L8],.ret (.tp [L4,.bn .add (.eP L1 (.i 2)) (.tp [L5,.x 1 3,.x 1 4,.i3 6,.x 1 6])])]
noncomputable def XJ:List Sm:=[.iff (.cm .eq (.x 0 0) (.i 34)) [.ret (.tp [.i 8,.x 0 1,.x 0 2,.x 0 3,.x 0 5,.x 0 6])] [],.ret L0]
noncomputable def XK:List Sm:=[.iff (.cm .ne (.x 1 0) (.i 34)) [.ret (.tp [.i 22,.x 1 1,L1,L2])] [],.iff L3 [.ret (.tp [.i 8,.i 0,.x 1 2,.x 1 4,.bn .add (.x 1 5) (.tp [L2]),.x 1 6])] [],.iff (.cm .eq (.x 2 0) (.i 1)) [.asg 6 (.tp [.i 8,.i 0,.x 1 2,.x 1 4,.bn .add (.x 1 5) (.tp [L2]),.x 1 6]),.ret (.tp [.i 31,.x 2 1,.tp [L6],L2])] [],.asg 4 (.tp [.i 2,.x 2 1,.aZ L0 64 [.x 2 1]]),.asg 5 (.tp [.i 22,.x 2 1,L4,L2]),.asg 6 (.tp [.i 8,.i 0,.x 1 2,.x 1 4,.bn .add (.x 1 5) (.tp [L5]),.x 1 6]),.ret (.tp [.i 31,.x 2 1,.tp [L6],L4])]
noncomputable def XM:List Sm:=[.iff (.cm .ne (.ix (.x 1 2) (.i 0)) (.i 34)) [.ret (.call 46 [L0,L1])] [],.ret (.call 58 [L0,.call 46 [L0,.x 1 2],.aZ L0 65 [.x 1 3],L2])]
noncomputable def XN:List Sm:=[.iff (.call 61 [L0,L1]) [.ret (.call 62 [L0,L1,L2])] [],.ret (.call 63 [L0,L1,L2])]
noncomputable def XO:List Sm:=[.asg 2 (.x 1 2),.iff (.orr [.cm .ne (.x 2 0) (.i 34),.cm .is (.x 2 2) (.cn .none),.nt (.call 17 [.at L0 27,.ix (.x 2 2) (.i 1)]),.call 49 [L1,.i 30]]) [.ret (.cn (.bool false))] [],.asg 3 (.x 2 2),.iff (.cm .ne (.x 3 0) (.i 2)) [.ret (.orr [.cm .eq (.x 3 0) (.i 4),.cm .eq (.x 3 0) (.i 6),.cm .eq (.x 3 0) (.i 5)])] [],.dh 4 (.bn .add (.x 2 5) (.tp [.x 1 3])) [.iff (.call 48 [L4,.x 3 2]) [.ret (.cn (.bool true))] []],.ret (.cn (.bool false))]
noncomputable def XP:List Sm:=[.asg 3 (.x 1 2),.asg 4 (.x 3 2),.asg 5 (.tp [.i 2,.x 4 1,.aZ L0 64 [.x 4 1]]),.asg 6 (.tp [.i 19,.i 12,.tp [.i 12,.x 4 1],.i 4,.i 0]),.asg 7 (.tp [.i 14,.i 1,.cn (.str 66),L6,.call 84 [.i 12],.i 0]),.asg 8 (.tp [.i 22,.x 4 1,L5,.aZ L0 65 [L4]]),.asg 9 (.bn .add (.bn .add (.eP L1 (.i 2)) (.tp [.bn .add (.bn .add (.eP L3 (.i 2)) (.tp [L5])) (.fU L3 (.i 3))])) (.fU L1 (.i 3))),.ret (.tp [.i 17,.x 1 1,L7,.call 47 [.tp [L8],.call 63 [L0,L9,L2]],.call 63 [L0,L1,L2]])]
noncomputable def XQ:List Sm:=[.ec [4,5] (.call 53 [L0,.x 1 2,.tp [.x 1 3]]),.asg 3 (.call 57 [L5]),.iff (.an [.x 1 4,.nt L2]) [.asg 6 (.tp [.i 2,.x 3 1,.aZ L0 64 [.x 3 1]]),.asg 7 (.tp [.i 22,.x 3 1,L6,L3]),.asg 8 (.call 58 [L0,L5,.aZ L0 65 [.call 34 [.x 1 3,L6]],.i 1]),.ret (.tp [.i 31,.x 1 1,.bn .add L4 (.tp [L7,L8]),L6])] [],.ret (.call 47 [L4,.call 58 [L0,L5,.aZ L0 65 [.call 34 [.x 1 3,L3]],L2]])]
noncomputable def XR:List Sm:=[.ret (.call 59 [L1,L2,.i 0])]
noncomputable def XS:List Sm:=[.ret (.call 60 [L1,L2,.i 0])]
noncomputable def XT:List Sm:=[.ret (.call 57 [.call 46 [L1,L2]])]
noncomputable def XU:List Sm:=[.iff (.cm .eq (.x 1 0) (.i 22)) [.ret (.call 59 [L0,L1,.i 1])] [],.iff (.cm .eq (.x 1 0) (.i 23)) [.ret (.call 60 [L0,L1,.i 1])] [],.ret (.aZ L0 65 [L1])]
noncomputable def XW:List Sm:=[.ret (.tp [.i 31,.x 2 1,.gO (.comp (.call 67 [L1,L3]) 3 (.x 2 2)),.aZ L1 65 [.x 2 3]])]
noncomputable def XY:List Sm:=[.ret (.tp [.i 8,.i 1,L0,.tp [.x 0 1,.i 66,.tp []],.tp [],.i 0])]
noncomputable def XZ:List Sm:=[.ret (.tp [.i 8,.ix (.call 14 [.at L0 27,.x 1 1]) (.i 0),L1,.tp [.x 1 1,.i 68,.tp []],.tp [],.i 0])]
noncomputable def X0:List Sm:=[.ret (.tp [.i 9,L0,.tp [L0,.i 65,.tp []],.tp [L1]])]
noncomputable def X1:List Sm:=[.ret (.tp [.i 17,L1,L2,.call 71 [L1,L3],.tp [.i 12,L1]])]
noncomputable def X2:List Sm:=[.iff (.cm .ne (.call 12 [.at L0 27,L1]) (.i 3)) [.ret L1] [],.asg 2 (.ix (.at (.at L0 46) 28) (.call 13 [.at L0 27,L1])),.iff (.cm .ne (.at L2 10) (.i 5)) [.stop] [],.ret (.at L2 21)]
noncomputable def X3:List Sm:=[.iff (.cm .eq (.x 0 1) L1) [.ret L0] [],.ret (.tp [.i 19,L1,L0,.i 1,.i 0])]
noncomputable def X4:List Sm:=[.asg 4 (.call 73 [L0,.x 1 6]),.asg 5 (.call 74 [.call 70 [L0,L2],L4]),.asg 6 (.call 70 [L0,L3]),.iff (.an [.cm .ne (.x 1 2) (.cn (.str 67)),.cm .ne (.x 1 2) (.cn (.str 68))]) [.asg 6 (.call 74 [L6,L4])] [],.iff (.cm .isin (.x 1 2) (.cn (.bZ [.str 66,.str 69,.str 70,.str 71,.str 72,.str 73] [.int 1,.int 1,.int 2,.int 2,.int 2,.int 2]))) [.ret (.tp [.i 14,.i 1,.x 1 2,L5,L6,.i 0])] [],.ret (.call 74 [.tp [.i 14,L4,.x 1 2,L5,L6,.x 1 5],.ix (.call 14 [.at L0 27,.x 1 1]) (.i 0)])]
noncomputable def X5:List Sm:=[.iff (.cm .eq (.ix (.cn (.bZ [.str 66,.str 69,.str 70,.str 71,.str 72,.str 73] [.int 1,.int 1,.int 2,.int 2,.int 2,.int 2])) (.x 1 2)) (.i 2)) [.asg 6 (.tp [.i 15,.i 1,.call 69 [L2],.call 69 [L3]]),.ret (.tp [.i 15,.i 1,L6,.call 75 [L0,L1,L2,L3]])] [],.asg 4 (.bn .add (.bn .add (.eP L1 (.i 2)) (.tp [.cn (.str 66)])) (.fU L1 (.i 3))),.asg 5 (.tp [.i 14,.i 1,.cn (.str 66),.call 69 [L2],.call 69 [L3],.i 0]),.asg 5 (.tp [.i 15,.i 1,L5,.call 75 [L0,L4,L2,L3]]),.iff (.cm .eq (.x 1 2) (.cn (.str 69))) [.ret (.tp [.i 13,.i 1,.cn (.str 74),L5,.i 0])] [],.ret L5]
noncomputable def X6:List Sm:=[.asg 4 (.tp [.i 13,.i 1,.cn (.str 74),.tp [.i 16,.i 1,.call 70 [L0,L3],.call 69 [L2]],.i 0]),.asg 5 (.tp [.i 16,.i 1,.call 70 [L0,L2],L4]),.iff (.cm .eq (.x 1 2) (.cn (.str 75))) [.ret (.tp [.i 17,.x 1 1,L5,L3,L2])] [],.ret (.tp [.i 17,.x 1 1,L5,L2,L3])]
noncomputable def X7:List Sm:=[.iff (.an [.cm .ne (.x 1 2) (.cn (.str 66)),.cm .ne (.x 1 2) (.cn (.str 69))]) [.ret (.cn .none)] [],.iff (.cm .ne (.x 3 0) (.i 12)) [.iff (.cm .ne (.x 2 0) (.i 12)) [.ret (.cn .none)] [],.asg 2 L3] [],.iff (.cm .eq (.x 1 2) (.cn (.str 69))) [.ret (.call 69 [L2])] [],.ret (.tp [.i 13,.i 1,.cn (.str 74),.call 69 [L2],.i 0])]
noncomputable def X8:List Sm:=[.asg 2 (.aZ L0 65 [.x 1 4]),.asg 3 (.aZ L0 65 [.x 1 3]),.asg 4 (.call 78 [L0,L1,L3,L2]),.iff (.cm .iC L4 (.cn .none)) [.ret L4] [],.ec [5,3] (.call 51 [L0,L3,.tp [L2]]),.ec [6,2] (.call 51 [L0,L2,.tp []]),.iff (.cm .isin (.x 1 2) (.cn (.bZ [.str 66,.str 69,.str 70,.str 71,.str 72,.str 73] [.int 1,.int 1,.int 2,.int 2,.int 2,.int 2]))) [.asg 7 (.call 76 [L0,L1,L3,L2])] [.iff (.an [.cm .eq (.x 1 6) (.i 1),.cm .ne (.x 1 2) (.cn (.str 76))]) [.asg 7 (.call 77 [L0,L1,L3,L2])] [.asg 8 (.tp [.i 15,.i 1,.call 69 [L3],.call 69 [L2]]),.asg 7 (.call 72 [L0,.x 1 1,L8,.call 75 [L0,L1,L3,L2]])]],.ret (.call 47 [.bn .add L5 L6,L7])]
noncomputable def X9:List Sm:=[.ret (.call 79 [L1,L2])]
noncomputable def Ya:List Sm:=[.ec [6,7] (.aZ L1 77 [.aZ L1 65 [.x 2 3]]),.asg 3 (.ix (.call 14 [.at L1 27,.x 2 1]) (.i 0)),.asg 4 (.call 73 [L1,L3]),.asg 5 (.tp [.i 13,L4,.x 2 2,.call 74 [.call 70 [L1,L7],L4],.x 2 4]),.ret (.call 47 [L6,.call 72 [L1,.x 2 1,.call 69 [L7],.call 74 [L5,L3]]])]
noncomputable def Yb:List Sm:=[.asg 2 (.x 1 3),.iff (.cm .eq L2 (.i 8)) [.iff (.call 16 [.at L0 27,.x 1 1]) [.ret (.tp [.i 1,.x 1 1,.cn .none])] [],.ret (.tp [.i 12,.x 1 1])] [],.asg 3 (.aZ L0 65 [.x 1 2]),.iff (.cm .eq L2 (.i 6)) [.ret (.call 71 [.x 1 1,L3])] [],.iff (.cm .eq L2 (.i 7)) [.ret (.tp [.i 8,.x 1 1,L3,.tp [.x 3 1,.i 67,.tp []],.tp [],.i 0])] [],.iff (.cm .eq L2 (.i 9)) [.ec [5,6] (.aZ L0 77 [L3]),.asg 4 (.tp [.i 19,.ix (.call 14 [.at L0 27,.x 1 1]) (.i 0),.call 70 [L0,L6],.x 1 5,.x 1 4]),.ret (.call 47 [L5,.call 72 [L0,.x 1 1,.call 69 [L6],L4]])] [],.ret (.tp [.i 19,.x 1 1,L3,L2,.x 1 4])]
noncomputable def Yc:List Sm:=[.ret (.call 82 [L1,L2])]
noncomputable def Yd:List Sm:=[.ret (.tp [.i 1,L0,.cn .none])]
noncomputable def Ye:List Sm:=[.iff (.call 52 [.at L0 27,.x 1 1]) [.ret (.tp [.i 19,.i 12,L1,.i 4,.i 0])] [],.ret L1]
noncomputable def Yf:List Sm:=[.iff (.call 21 [.at L0 27,.x 1 1]) [.ret (.call 69 [L1])] [],.asg 1 (.call 85 [L0,L1]),.ret (.tp [.i 14,.i 1,.cn (.str 69),L1,.call 84 [.x 1 1],.i 0])]
noncomputable def Yg:List Sm:=[.iff (.cm .eq (.x 0 0) (.i 32)) [.ret (.x 0 1)] [],.dh 1 (.call 32 [L0]) [.asg 2 (.call 87 [L1]),.iff (.cm .ge L2 (.i 0)) [.ret L2] []],.ret (.i (-1))]
noncomputable def Yh:List Sm:=[.asg 2 (.aZ L0 65 [.x 1 3]),.asg 3 (.aZ L0 65 [.x 1 2]),.iff (.an [.cm .eq (.x 3 0) (.i 1),.cm .is (.x 3 2) (.cn .none)]) [.ret L2] [],.ec [5,6] (.aZ L0 77 [L3]),.asg 4 L6,.iff (.an [.call 21 [.at L0 27,.x 6 1],.cm .ne (.call 87 [.x 1 4]) (.x 6 1)]) [.asg 4 (.call 70 [L0,L6])] [],.ret (.call 47 [L5,.tp [.i 17,.x 1 1,.call 86 [L0,L6],.aZ L0 65 [.call 34 [.x 1 4,L4]],L2]])]
noncomputable def Yi:List Sm:=[.ret (.call 88 [L1,L2])]
noncomputable def Yj:List Sm:=[.iff (.call 21 [L0,L1]) [.ret (.ix (.call 14 [L0,L1]) (.i 0))] [],.ret L1]
noncomputable def Yk:List Sm:=[.asg 2 (.call 85 [L0,.aZ L0 65 [.x 1 2]]),.asg 3 (.call 90 [.at L0 27,.x 1 3]),.iff (.nt (.x 1 4)) [.ret (.tp [.i 20,.i 1,L2,L3,.i 0])] [],.asg 4 (.tp [.i 2,.at (.ix (.at (.at L0 54) 48) (.x 1 4)) 34,.x 1 4]),.iff (.call 16 [.at L0 27,L3]) [.asg 5 (.tp [.i 22,.x 4 1,L4,.tp [.i 21,L3,L2]]),.ret (.tp [.i 31,.i 1,.tp [L5],.tp [.i 14,.i 1,.cn (.str 69),L4,.call 84 [L3],.i 0]])] [],.ec [6,7] (.aZ L0 77 [L2]),.asg 5 (.tp [.i 22,.x 4 1,L4,.tp [.i 19,.x 4 1,L7,.i 5,.i 0]]),.ret (.call 47 [L6,.tp [.i 15,.i 1,.tp [.i 20,.i 1,L7,L3,.i 0],.tp [.i 31,.i 1,.tp [L5],.cn (.tup [.int 1,.int 1,.int 1])]]])]
noncomputable def Yl:List Sm:=[.ret (.call 91 [L1,L2])]
noncomputable def Ym:List Sm:=[.asg 3 (.call 85 [L1,.aZ L1 65 [.x 2 2]]),.iff (.nt (.call 21 [.at L1 27,.x 2 1])) [.ret (.tp [.i 21,.x 2 1,L3])] [],.ec [5,6] (.aZ L1 77 [L3]),.asg 4 (.tp [.i 20,.i 1,L6,.call 90 [.at L1 27,.x 2 1],.i 0]),.ret (.call 47 [L5,.tp [.i 17,.x 2 1,L4,.tp [.i 19,.x 2 1,L6,.i 5,.i 0],.tp [.i 12,.x 2 1]]])]
noncomputable def Yn:List Sm:=[.iff (.an [.cm .eq (.x 0 1) (.i 13),.cm .eq (.x 1 1) (.i 13)]) [.ret (.tp [.i 8,.i 13,.cn .none,.tp [.i 13,.i 10,.tp []],.tp [L0,L1],.i 0])] [],.ret (.tp [.i 8,.i 13,.cn .none,.tp [.i 13,.i 20,.tp []],.tp [.call 95 [L0],.call 95 [L1]],.i 0])]
noncomputable def Yo:List Sm:=[.iff (.cm .eq (.x 0 1) (.i 13)) [.ret (.tp [.i 19,.i 12,L0,.i 2,.i 0])] [],.ret L0]
noncomputable def Yp:List Sm:=[.asg 3 (.comp (.call 85 [L1,.aZ L1 65 [L5]]) 5 (.x 2 2)),.iff (.cm .eq (.len L3) (.i 1)) [.ret (.call 94 [.x 3 0,.tp [.i 1,.i 13,.cn (.str 62)]])] [],.asg 4 (.call 94 [.x 3 0,.x 3 1]),.dh 5 (.fU L3 (.i 2)) [.asg 4 (.call 94 [L4,L5])],.ret L4]
noncomputable def Yq:List Sm:=[.asg 3 (.x 2 2),.iff (.cm .iC L3 (.cn .none)) [.asg 3 (.call 85 [L1,.aZ L1 65 [L3]])] [],.ret (.tp [.i 36,.x 2 1,L3,.x 2 3,.x 2 4])]
noncomputable def Yr:List Sm:=[.stop]
noncomputable def Ys:List Sm:=[.cK (.at L0 59) (.i 22) (.new 13 []),.cK (.at L0 59) (.i 23) (.new 14 []),.cK (.at L0 59) (.i 34) (.new 15 []),.cK (.at L0 59) (.i 31) (.new 16 [])]
noncomputable def UO:List Sm:=[.cK (.at L0 59) (.i 27) (.new 17 []),.cK (.at L0 59) (.i 28) (.new 18 []),.cK (.at L0 59) (.i 19) (.new 19 []),.cK (.at L0 59) (.i 18) (.new 20 [])]
noncomputable def UP:List Sm:=[.cK (.at L0 59) (.i 20) (.new 21 []),.cK (.at L0 59) (.i 21) (.new 22 [])]
noncomputable def UQ:List Sm:=[.cK (.at L0 59) (.i 26) (.new 23 []),.cK (.at L0 59) (.i 25) (.new 24 []),.cK (.at L0 59) (.i 24) (.new 25 [])]
noncomputable def UR:List Sm:=[.exp (.call 99 [L0]),.exp (.call 100 [L0]),.exp (.call 101 [L0]),.exp (.call 102 [L0])]
noncomputable def US:List Sm:=[.asg 2 (.bn .mod (.ix L0 (.cn (.str 1))) (.len (.ix L0 (.cn (.str 78))))),.jM L0 (.cn (.str 1)) .add (.i 1),.asg 3 (.ix (.ix L0 (.cn (.str 78))) L2),.cK (.ix L0 (.cn (.str 78))) L2 (.bn .fdiv L3 (.i 7)),.ret (.bn .mod L3 L1)]
noncomputable def UT:List Sm:=[.iff (.cm .jT L1 (.ix L0 (.cn (.str 48)))) [.cK (.ix L0 (.cn (.str 48))) L1 (.call 30 [.ix L0 (.cn (.str 54)),.i 1,.cn (.str 79),L1,.i 0])] [],.ret (.tp [.i 2,L1,.ix (.ix L0 (.cn (.str 48))) L1])]
noncomputable def UU:List Sm:=[.asg 2 (.bn .add (.i 1000) (.len (.ix L0 (.cn (.str 17))))),.cK (.ix L0 (.cn (.str 17))) L2 L1,.ret (.tp [.i 5,L1,.tp [.i 12,L2]])]
noncomputable def UW:List Sm:=[.asg 2 (.call 104 [L0,.i 4]),.iff (.cm .lt L2 (.i 2)) [.ret (.call 106 [L0,L1])] [],.iff (.cm .eq L2 (.i 2)) [.ret (.call 105 [L0,L1])] [],.iff (.orr [.cm .isin L1 (.ix L0 (.cn (.str 80))),.cm .eq L1 (.i 1)]) [.ret (.tp [.i 1,L1,.call 104 [L0,.i 2]])] [],.iff (.call 115 [L0,L1]) [.ret (.tp [.i 1,L1,.ite (.an [.cm .eq L1 (.i 13),.cm .eq (.call 104 [L0,.i 2]) (.i 0)]) (.cn (.str 81)) (.cn .none)])] [],.ret (.tp [.i 12,L1])]
noncomputable def UX:List Sm:=[.jM L0 (.cn (.str 82)) .sub (.i 1),.asg 3 (.call 104 [L0,.i 9]),.iff (.orr [.cm .eq L3 (.i 0),.cm .lt (.ix L0 (.cn (.str 82))) (.i 0),.cm .gt L2 (.i 3)]) [.ret (.call 107 [L0,L1])] [],.asg 4 (.bn .add L2 (.i 1)),.iff (.cm .eq L3 (.i 1)) [.ret (.tp [.i 17,L1,.call 108 [L0,.i 1,L4],.call 108 [L0,L1,L4],.call 108 [L0,L1,L4]])] [],.iff (.cm .eq L3 (.i 2)) [.asg 5 (.ix (.tp [.i 7,.i 13,.ix (.ix L0 (.cn (.str 83))) (.i 7)]) (.call 104 [L0,.i 3])),.ret (.tp [.i 31,L1,.tp [.call 108 [L0,L5,L4]],.call 108 [L0,L1,L4]])] [],.iff (.cm .eq L3 (.i 3)) [.asg 6 (.call 109 [L0,L1,L4]),.ret (.tp [.i 22,L1,L6,.call 108 [L0,L1,L4]])] [],.iff (.an [.cm .eq L3 (.i 4),.orr [.cm .isin L1 (.ix L0 (.cn (.str 84))),.an [.cm .ne (.call 114 [L0,L1]) (.i 3),.cm .gt L1 (.i 11)]]]) [.ret (.tp [.i 18,L1,.call 108 [L0,L1,L4],.call 108 [L0,L1,L4],.tp [.i 32,L1]])] [],.iff (.cm .isin L1 (.ix L0 (.cn (.str 84)))) [.ret (.call 110 [L0,L1,.ix (.ix L0 (.cn (.str 84))) L1,L4])] [],.iff (.cm .eq L1 (.i 1)) [.ret (.call 111 [L0,L4])] [],.iff (.cm .isin L1 (.ix L0 (.cn (.str 80)))) [.ret (.call 112 [L0,L1,L4])] [],.ret (.call 113 [L0,L1,L4])]
noncomputable def UY:List Sm:=[.asg 3 (.call 104 [L0,.i 5]),.iff (.an [.cm .eq L3 (.i 1),.cm .isin L1 (.ix L0 (.cn (.str 2)))]) [.ret (.tp [.i 6,L1,.call 106 [L0,.ix (.ix L0 (.cn (.str 2))) L1],.call 108 [L0,.i 7,L2]])] [],.iff (.cm .eq L3 (.i 2)) [.asg 4 (.bn .add (.i 500) L1),.cK (.ix L0 (.cn (.str 17))) L4 L1,.iff (.an [.cm .ne L1 (.ix L0 (.cn (.str 85))),.cm .eq (.call 104 [L0,.i 2]) (.i 1)]) [.ret (.tp [.i 4,L1,.call 109 [L0,.ix L0 (.cn (.str 85)),L2],.tp [.ix L0 (.cn (.str 85)),L4]])] [],.ret (.tp [.i 4,L1,.call 108 [L0,.ix L0 (.cn (.str 86)),L2],.tp [.ix L0 (.cn (.str 86)),L4]])] [],.iff (.an [.cm .eq L3 (.i 3),.cm .eq L1 (.i 7)]) [.ret (.tp [.i 34,.i 7,.call 108 [L0,.ix L0 (.cn (.str 86)),L2],.tp [.ix L0 (.cn (.str 86)),.i 21,.tp []],.tp [.ix L0 (.cn (.str 86)),.i 22,.tp []],.tp [],.i 1])] [],.iff (.an [.cm .eq L3 (.i 4),.cm .ne L1 (.i 7)]) [.cK (.ix L0 (.cn (.str 17))) (.bn .add (.i 400) L1) L1,.ret (.tp [.i 5,L1,.tp [.i 12,.bn .add (.i 400) L1]])] [],.iff (.cm .eq L3 (.i 4)) [.ret (.tp [.i 34,.i 7,.cn .none,.tp [.ix L0 (.cn (.str 86)),.i 23,.tp []],.tp [.ix L0 (.cn (.str 86)),.i 24,.tp []],.tp [.call 108 [L0,.i 13,L2]],.i 0])] [],.ret (.call 105 [L0,L1])]
noncomputable def UZ:List Sm:=[.asg 4 (.call 104 [L0,.i 8]),.iff (.cm .eq L4 (.i 0)) [.ret (.tp [.i 19,L1,.call 108 [L0,L2,L3],.i 6,.i 0])] [],.iff (.cm .eq L4 (.i 1)) [.ret (.tp [.i 19,L1,.tp [.i 1,.i 14,.cn .none],.i 8,.i 0])] [],.iff (.an [.cm .eq L4 (.i 2),.cm .ne L2 (.i 1)]) [.asg 7 (.ix (.ix L0 (.cn (.str 83))) (.ix (.tp [.i 7,.i 9,.ix L0 (.cn (.str 87)),.ix L0 (.cn (.str 88))]) (.call 104 [L0,.i 4]))),.ret (.tp [.i 19,L1,.call 108 [L0,L7,L3],.i 9,.i 0,.i 1])] [],.iff (.cm .eq L4 (.i 3)) [.ret (.tp [.i 28,L1,.ite (.cm .eq L2 (.i 1)) (.cn (.str 74)) (.cn (.str 89)),.call 108 [L0,L1,L3],.i 0])] [],.iff (.cm .eq L4 (.i 4)) [.ret (.tp [.i 19,L1,.call 108 [L0,.i 12,L3],.i 5,.i 0])] [],.iff (.cm .eq L4 (.i 5)) [.ret (.tp [.i 21,L1,.call 108 [L0,.i 12,L3]])] [],.asg 5 L1,.asg 6 (.ix (.tp [.cn (.str 75),.cn (.str 90),.cn (.str 76)]) (.call 104 [L0,.i 3])),.iff (.orr [.cm .eq L2 (.i 7),.cm .eq L2 (.i 9)]) [.asg 6 (.ix (.tp [.cn (.str 91),.cn (.str 92),.cn (.str 67)]) (.call 104 [L0,.i 3])),.iff (.cm .eq L6 (.cn (.str 67))) [.asg 5 (.ix (.ix L0 (.cn (.str 83))) (.i 7))] []] [.iff (.an [.cm .ne L2 (.i 1),.cm .eq L4 (.i 6)]) [.asg 6 (.cn (.str 91)),.asg 5 (.ix (.ix L0 (.cn (.str 83))) (.ix (.ix L0 (.cn (.str 21))) L2))] []],.iff (.cm .eq L4 (.i 7)) [.asg 8 (.call 109 [L0,L1,L3]),.ret (.tp [.i 23,L1,L8,.tp [.i 27,L1,L6,.tp [.i 32,L1],.call 108 [L0,L5,L3],.i 0,L2],.call 104 [L0,.i 2]])] [],.ret (.tp [.i 27,L1,L6,.call 108 [L0,L1,L3],.call 108 [L0,L5,L3],.i 0,L2])]
noncomputable def U0:List Sm:=[.asg 2 (.call 104 [L0,.i 7]),.iff (.cm .eq L2 (.i 0)) [.ret (.tp [.bn .add (.i 15) (.call 104 [L0,.i 2]),.i 1,.call 108 [L0,.i 1,L1],.call 108 [L0,.i 1,L1]])] [],.iff (.cm .eq L2 (.i 1)) [.asg 4 (.ix (.tp [.i 7,.i 9,.i 1]) (.call 104 [L0,.i 3])),.asg 6 (.ite (.cm .eq L4 (.i 1)) (.ix (.tp [.cn (.str 66),.cn (.str 69)]) (.call 104 [L0,.i 2])) (.ix (.tp [.cn (.str 70),.cn (.str 66)]) (.call 104 [L0,.i 2]))),.ret (.tp [.i 14,.i 1,L6,.call 108 [L0,L4,L1],.call 108 [L0,L4,L1],.i 0])] [],.iff (.orr [.cm .eq L2 (.i 2),.cm .eq L2 (.i 3)]) [.asg 7 (.ix (.tp [.i 7,.ix L0 (.cn (.str 87)),.i 1,.i 9,.ix L0 (.cn (.str 88))]) (.call 104 [L0,.i 5])),.asg 6 (.ix (.tp [.cn (.str 66),.cn (.str 69),.cn (.str 70),.cn (.str 73)]) (.call 104 [L0,.ite (.cm .eq L7 (.i 1)) (.i 2) (.i 4)])),.asg 4 (.ix (.ix L0 (.cn (.str 83))) L7),.ret (.tp [.i 27,.i 1,L6,.call 108 [L0,L4,L1],.call 108 [L0,L4,L1],.i 0,L7])] [],.iff (.cm .eq L2 (.i 6)) [.ret (.tp [.i 13,.i 1,.cn (.str 74),.call 108 [L0,.i 1,L1],.i 0])] [],.asg 3 (.ix (.tp [.i 12,.ix L0 (.cn (.str 86)),.i 7,.ix L0 (.cn (.str 93)),.ix (.ix L0 (.cn (.str 83))) (.i 7),.i 13]) (.call 104 [L0,.i 6])),.asg 4 (.ix (.tp [.i 7,.ix L0 (.cn (.str 86)),.i 13,.ix L0 (.cn (.str 93)),.ix L0 (.cn (.str 85)),.ix L0 (.cn (.str 87)),.ix (.ix L0 (.cn (.str 83))) (.i 9)]) (.call 104 [L0,.ite (.cm .eq L2 (.i 4)) (.i 7) (.i 6)])),.asg 5 (.ite (.cm .eq L2 (.i 4)) (.i 0) (.call 30 [.ix L0 (.cn (.str 54)),.i 1,.cn (.str 94),L4,.i 0])),.ret (.tp [.i 20,.i 1,.call 108 [L0,L3,L1],L4,L5])]
noncomputable def U1:List Sm:=[.asg 3 (.call 104 [L0,.i 6]),.iff (.an [.cm .eq L3 (.i 0),.cm .ne L1 (.ix L0 (.cn (.str 87))),.cm .ne L1 (.ix L0 (.cn (.str 88)))]) [.asg 4 (.ix (.tp [.cn (.str 91),.cn (.str 95),.cn (.str 75),.cn (.str 67)]) (.call 104 [L0,.i 4])),.ret (.tp [.i 14,L1,L4,.call 108 [L0,L1,L2],.call 108 [L0,.ite (.cm .eq L4 (.cn (.str 67))) (.i 7) L1,L2],.i 0])] [],.iff (.cm .lt L3 (.i 2)) [.asg 5 (.ix (.tp [.i 7,.i 9,.ix L0 (.cn (.str 87)),.ix L0 (.cn (.str 88))]) (.call 104 [L0,.i 4])),.ret (.tp [.i 19,L1,.call 108 [L0,L5,L2],.i 1,.i 0])] [],.iff (.cm .eq L3 (.i 2)) [.ret (.tp [.i 19,L1,.call 108 [L0,.ix (.ix L0 (.cn (.str 83))) L1,L2],.i 7,.i 0])] [],.iff (.cm .eq L3 (.i 3)) [.asg 6 (.ix (.tp [.i 7,.i 9,.ix L0 (.cn (.str 87)),.ix L0 (.cn (.str 88))]) (.call 104 [L0,.i 4])),.asg 7 (.ite (.cm .eq L6 L1) (.tp [.i 32,L6]) (.tp [.i 19,L1,.tp [.i 32,L6],.i 1,.i 0])),.ret (.tp [.i 18,L1,.call 108 [L0,.ix (.ix L0 (.cn (.str 83))) L6,L2],.call 108 [L0,L1,L2],L7])] [],.iff (.cm .eq L3 (.i 4)) [.asg 8 (.call 109 [L0,L1,L2]),.asg 9 (.ite (.cm .eq L1 (.i 9)) (.tp [.i 32,L1]) (.tp [.i 19,.i 9,.tp [.i 32,L1],.i 1,.i 0])),.asg 10 (.tp [.i 14,.i 9,.cn (.str 91),L9,.call 108 [L0,.i 9,L2],.i 0]),.ret (.tp [.i 23,L1,L8,.ite (.cm .eq L1 (.i 9)) nU (.tp [.i 19,L1,nU,.i 1,.i 0]),.call 104 [L0,.i 2]])] [],.iff (.an [.cm .eq L1 (.i 7),.cm .eq (.call 104 [L0,.i 2]) (.i 1)]) [.ret (.tp [.i 34,.i 7,.call 108 [L0,.ix L0 (.cn (.str 86)),L2],.tp [.ix L0 (.cn (.str 86)),.i 21,.tp []],.tp [.ix L0 (.cn (.str 86)),.i 22,.tp []],.tp [],.i 1])] [],.iff (.cm .eq L1 (.i 7)) [.ret (.tp [.i 8,.i 7,.cn .none,.tp [.ix L0 (.cn (.str 86)),.i 25,.tp []],.tp [.call 108 [L0,.i 12,L2],.call 108 [L0,.ix (.ix L0 (.cn (.str 83))) (.i 9),L2]],.i 0])] [],.ret (.tp [.i 19,L1,.call 108 [L0,.i 12,L2],.i 5,.i 0])]
noncomputable def U2:List Sm:=[.iff (.cm .eq L1 (.i 13)) [.asg 4 (.tp [.i 13,.i 12,.i 7,.ix L0 (.cn (.str 93)),.i 13,.ix (.ix L0 (.cn (.str 83))) (.i 7)]),.ret (.tp [.i 26,.i 13,.gO (.jE (.call 108 [L0,.ix L4 (.call 104 [L0,.i 6]),L2]) 8 (.bn .add (.i 1) (.call 104 [L0,.i 4])))])] [],.iff (.cm .eq L1 (.ix L0 (.cn (.str 96)))) [.asg 3 (.call 104 [L0,.i 4]),.asg 5 (.ix (.tp [.ix L0 (.cn (.str 86)),.ix L0 (.cn (.str 85)),.ix L0 (.cn (.str 93)),.ix L0 (.cn (.str 86))]) L3),.asg 6 (.ite (.cm .eq L3 (.i 3)) (.cn .none) (.call 108 [L0,L5,L2])),.ret (.tp [.i 25,L1,L6,.tp [L5,.ite (.cm .eq L3 (.i 3)) (.i 25) (.i 26),.tp []],.i 0])] [],.asg 3 (.call 104 [L0,.i 4]),.iff (.an [.cm .eq L1 (.i 12),.cm .lt L3 (.i 2)]) [.asg 7 (.ix (.tp [.i 7,.ix L0 (.cn (.str 85)),.ix L0 (.cn (.str 93)),.ix L0 (.cn (.str 87)),.ix (.ix L0 (.cn (.str 83))) (.i 7),.i 1]) (.call 104 [L0,.i 6])),.ret (.tp [.i 19,.i 12,.call 108 [L0,L7,L2],.i 4,.i 0])] [],.iff (.an [.cm .eq L1 (.i 12),.cm .eq L3 (.i 2)]) [.asg 7 (.ix (.tp [.i 13,.ix L0 (.cn (.str 86))]) (.call 104 [L0,.i 2])),.ret (.tp [.i 19,.i 12,.call 108 [L0,L7,L2],.i 2,.i 0])] [],.iff (.cm .eq L1 (.i 12)) [.ret (.tp [.i 19,.i 12,.tp [.i 1,.i 14,.cn .none],.i 8,.i 0])] [],.iff (.an [.cm .eq L1 (.ix L0 (.cn (.str 86))),.cm .lt L3 (.i 2)]) [.ret (.tp [.i 21,L1,.call 108 [L0,.i 12,L2]])] [],.ret (.tp [.i 19,L1,.call 108 [L0,.i 12,L2],.ite (.cm .eq L1 (.ix L0 (.cn (.str 86)))) (.i 3) (.i 5),.i 0])]
noncomputable def U3:List Sm:=[.ret (.ix (.ix (.at (.ix L0 (.cn (.str 27))) 2) L1) (.i 0))]
noncomputable def U4:List Sm:=[.ret (.orr [.cm .eq L1 (.i 12),.cm .eq L1 (.i 13),.cm .isin (.call 114 [L0,L1]) (.tp [.i 2,.i 4])])]
noncomputable def U5:List Sm:=[.asg 1 (.gq (.dc [.i 4,.tp [.tp [.i 2,.i 0]],.i 6,.tp [.tp [.i 2,.i 0],.tp [.i 3,.i 0]],.i 8,.tp [.tp [.i 2,.i 0],.tp [.i 4,.i 1]],.i 9,.tp [.tp [.i 3,.i 1]],.i 13,.tp [.tp [.i 3,.i 0]],.i 14,.tp [.tp [.i 3,.i 0],.tp [.i 4,.i 0]],.i 15,.tp [.tp [.i 2,.i 0],.tp [.i 3,.i 0]],.i 16,.tp [.tp [.i 2,.i 0],.tp [.i 3,.i 0]],.i 17,.tp [.tp [.i 2,.i 0],.tp [.i 3,.i 0],.tp [.i 4,.i 0]],.i 18,.tp [.tp [.i 2,.i 0],.tp [.i 3,.i 0]],.i 19,.tp [.tp [.i 2,.i 0]],.i 20,.tp [.tp [.i 2,.i 0]],.i 21,.tp [.tp [.i 2,.i 0]],.i 22,.tp [.tp [.i 2,.i 0],.tp [.i 3,.i 0]],.i 23,.tp [.tp [.i 2,.i 0],.tp [.i 3,.i 0]],.i 25,.tp [.tp [.i 2,.i 0]],.i 26,.tp [.tp [.i 2,.i 1]],.i 27,.tp [.tp [.i 3,.i 0],.tp [.i 4,.i 0]],.i 28,.tp [.tp [.i 3,.i 0]],.i 31,.tp [.tp [.i 2,.i 1],.tp [.i 3,.i 0]],.i 34,.tp [.tp [.i 2,.i 0],.tp [.i 5,.i 1]],.i 36,.tp [.tp [.i 2,.i 0]]]) (.x 0 0) (.tp [])),.i4 2 [],.i7 3 4 L1 [.iff L4 [.kz 2 (.lst (.ix L0 L3))] [.iff (.cm .iC (.ix L0 L3) (.cn .none)) [.i5 2 (.ix L0 L3)] []]],.kD 2]
noncomputable def EF:List Sm:=[.asg 1 (.ite (.an [.cm .eq (.x 0 0) (.i 5),.cm .gt (.ix (.x 0 2) (.i 1)) (.i 999)]) (.ls [.ix (.x 0 2) (.i 1)]) (.ls [])),.dh 2 (.call 116 [L0]) [.asg 1 (.bn .add L1 (.call 117 [L2]))],.ret L1]
noncomputable def i9:List Sm:=[.dh 2 (.call 116 [L1]) [.iff (.nt (.call 118 [L0,L2])) [.ret (.cn (.bool false))] []],.ec [4,5] (.tp [.x 1 0,.x 1 1]),.asg 3 (.comp (.x 2 1) 2 (.call 116 [L1])),.iff (.cm .eq L4 (.i 1)) [.iff (.cm .is (.x 1 2) (.cn .none)) [.ret (.call 115 [L0,L5])] [],.ret (.ite (.k3 (.x 1 2)) (.cm .eq L5 (.i 13)) (.orr [.cm .isin L5 (.ix L0 (.cn (.str 80))),.cm .eq L5 (.i 1)]))] [],.iff (.cm .eq L4 (.i 2)) [.ret (.cm .eq (.at (.ix (.at (.ix L0 (.cn (.str 54))) 48) (.x 1 2)) 34) L5)] [],.iff (.cm .eq L4 (.i 5)) [.ret (.cm .eq (.ix (.ix L0 (.cn (.str 17))) (.ix (.x 1 2) (.i 1))) L5)] [],.iff (.cm .eq L4 (.i 4)) [.ret (.an [.cm .eq L3 (.ls [.ix (.x 1 3) (.i 0)]),.cm .isin (.ix (.x 1 3) (.i 0)) (.tp [.ix L0 (.cn (.str 86)),.ix L0 (.cn (.str 85))]),.cm .eq (.ix (.ix L0 (.cn (.str 17))) (.ix (.x 1 3) (.i 1))) L5])] [],.iff (.cm .eq L4 (.i 6)) [.ret (.an [.cm .eq (.ix (.at (.ix L0 (.cn (.str 27))) 2) (.x 3 0)) (.tp [.i 4,L5]),.cm .eq (.x 3 1) (.i 7)])] [],.iff (.cm .eq L4 (.i 8)) [.ret (.call 121 [L0,L1])] [],.iff (.cm .eq L4 (.i 9)) [.ret (.an [.cm .eq (.x 1 2) (.tp [L5,.i 65,.tp []]),.cm .isin L5 (.ix L0 (.cn (.str 84))),.cm .eq L3 (.ls [.ix (.ix L0 (.cn (.str 84))) L5])])] [],.iff (.cm .eq L4 (.i 12)) [.ret (.an [.cm .ne L5 (.i 0),.nt (.call 115 [L0,L5])])] [],.iff (.cm .eq L4 (.i 13)) [.ret (.an [.cm .eq L3 (.ls [L5]),.ite (.cm .eq (.x 1 2) (.cn (.str 74))) (.cm .eq L5 (.i 1)) (.gN .le .le (.i 7) L5 (.i 10))])] [],.iff (.cm .eq L4 (.i 14)) [.ret (.call 119 [L0,L5,.x 1 2,.x 3 0,.x 3 1])] [],.iff (.orr [.cm .eq L4 (.i 15),.cm .eq L4 (.i 16)]) [.ret (.cm .eq (.bn .add (.ls [L5]) L3) (.ls [.i 1,.i 1,.i 1]))] [],.iff (.cm .eq L4 (.i 17)) [.ret (.cm .eq L3 (.ls [.i 1,L5,L5]))] [],.iff (.cm .eq L4 (.i 19)) [.ret (.an [.cm .eq (.len L1) (.i 5),.call 120 [L0,.x 1 3,.x 3 0,L5]])] [],.iff (.cm .eq L4 (.i 20)) [.ret (.an [.cm .eq L5 (.i 1),.call 115 [L0,.x 3 0],.cm .jT (.x 1 3) (.ix L0 (.cn (.str 84))),.cm .eq (.x 1 4) (.i 0)])] [],.iff (.cm .eq L4 (.i 21)) [.ret (.an [.call 115 [L0,.x 3 0],.call 115 [L0,L5]])] [],.iff (.cm .eq L4 (.i 22)) [.ret (.an [.cm .eq L3 (.ls [L5,L5]),.cm .isin (.ix (.x 1 2) (.i 0)) (.tp [.i 2,.i 4,.i 5,.i 6])])] [],.iff (.cm .eq L4 (.i 31)) [.ret (.cm .eq (.ix L3 (.bn .sub (.len L3) (.i 1))) L5)] [],.iff (.cm .eq L4 (.i 36)) [.ret (.an [.cm .eq L5 (.ix L0 (.cn (.str 96))),.cm .eq (.cm .is (.x 1 2) (.cn .none)) (.cm .eq (.ix (.x 1 3) (.i 1)) (.i 25)),.orr [.cm .is (.x 1 2) (.cn .none),.call 115 [L0,.x 3 0]]])] [],.ret (.cn (.bool false))]
noncomputable def U6:List Sm:=[.iff (.cm .eq L2 (.cn (.str 67))) [.ret (.an [.cm .eq L3 L1,.cm .eq L4 (.i 7),.gN .le .le (.i 7) L1 (.i 10)])] [],.iff (.cm .ne L3 L4) [.ret (.cn (.bool false))] [],.iff (.cm .isin L2 (.tp [.cn (.str 66),.cn (.str 69)])) [.ret (.an [.cm .eq L1 (.i 1),.orr [.gN .le .le (.i 7) L3 (.i 10),.cm .eq L3 (.i 1),.call 115 [L0,L3]]])] [],.iff (.cm .isin L2 (.tp [.cn (.str 70),.cn (.str 73)])) [.ret (.an [.cm .eq L1 (.i 1),.gN .le .le (.i 7) L3 (.i 10)])] [],.ret (.an [.cm .eq L1 L3,.orr [.gN .le .le (.i 7) L1 (.i 10),.an [.cm .eq L1 (.i 1),.cm .isin L2 (.tp [.cn (.str 75),.cn (.str 90),.cn (.str 76)])]]])]
noncomputable def U7:List Sm:=[.iff (.cm .eq L1 (.i 1)) [.ret (.an [.cm .isin L2 (.ix L0 (.cn (.str 80))),.cm .isin L3 (.ix L0 (.cn (.str 80)))])] [],.iff (.orr [.cm .eq L1 (.i 2),.cm .eq L1 (.i 3)]) [.ret (.an [.call 115 [L0,L2],.call 115 [L0,L3],.orr [.cm .eq L1 (.i 3),.cm .eq L3 (.i 12)]])] [],.iff (.cm .eq L1 (.i 4)) [.ret (.an [.cm .eq L3 (.i 12),.nt (.call 115 [L0,L2]),.cm .ne L2 (.i 0)])] [],.ret (.an [.cm .eq L1 (.i 5),.call 115 [L0,L2],.nt (.call 115 [L0,L3]),.cm .ne L3 (.i 0)])]
noncomputable def U8:List Sm:=[.ec [4,5,6] (.x 1 3),.asg 2 (.comp (.x 11 1) 11 (.x 1 4)),.iff (.cm .isin L5 (.tp [.i 66,.i 67,.i 68])) [.asg 7 (.ite (.cm .eq L5 (.i 66)) (.i 1) (.gq (.ix L0 (.cn (.str 84))) L4 (.i (-1)))),.ret (.an [.cm .isin L4 (.ix L0 (.cn (.str 84))),.cm .iC (.x 1 2) (.cn .none),.cm .eq (.tp [.ix (.x 1 2) (.i 1),.x 1 1,L2,.x 1 5]) (.tp [L4,L7,.ls [],.i 0])])] [],.iff (.cm .eq L4 (.i 13)) [.asg 8 (.gq (.dc [.i 10,.ls [.i 13,.i 13],.i 20,.ls [.i 12,.i 12]]) L5 (.ls [])),.ret (.an [.cm .is (.x 1 2) (.cn .none),.cm .gt (.len L8) (.i 0),.cm .eq (.tp [.x 1 1,L2,.x 1 5,L6]) (.tp [.i 13,L8,.i 0,.tp []])])] [],.asg 3 (.dc [.i 21,.tp [.i 1,.i 7,.ls [],.i 1],.i 22,.tp [.i 1,.i 0,.ls [.i 7],.i 1],.i 23,.tp [.i 0,.i 7,.ls [.i 13],.i 0],.i 24,.tp [.i 0,.i 0,.ls [.i 13,.i 7],.i 0],.i 25,.tp [.i 0,.i 7,.ls [.i 12,.ix (.ix L0 (.cn (.str 83))) (.i 9)],.i 0]]),.iff (.orr [.cm .jT L5 L3,.cm .ne L4 (.ix L0 (.cn (.str 86)))]) [.ret (.cn (.bool false))] [],.ec [9,7,8,10] (.ix L3 L5),.iff (.orr [.cm .ne L9 (.ite (.cm .is (.x 1 2) (.cn .none)) (.i 0) (.i 1)),.an [.cm .eq L9 (.i 1),.cm .ne (.ix (.x 1 2) (.i 1)) L4]]) [.ret (.cn (.bool false))] [],.ret (.cm .eq (.tp [.x 1 1,L2,.x 1 5]) (.tp [L7,L8,nU]))]
noncomputable def EG:List Sm:=[.asg 1 (.ite (.an [.cm .eq (.x 0 0) (.i 22),.cm .eq (.ix (.x 0 2) (.i 0)) (.i 2)]) (.ls [.ix (.x 0 2) (.i 2)]) (.ls [])),.dh 2 (.call 116 [L0]) [.asg 1 (.bn .add L1 (.call 122 [L2]))],.ret L1]
noncomputable def iz:List Sm:=[.asg 1 (.hA (.bn .mod WQ (.i 1000000000)) 18 (.eP L0 (.i 40))),.iff (.cm .eq (.len L1) (.i 0)) [.asg 1 (.cV [.i 1,.i 5,.i 0,.i 0,.i 5,.i 2,.i 1,.i 3,.i 6,.i 6,.i 1,.i 0,.i 0,.i 5,.i 0,.i 0,.i 0,.i 5,.i 1,.i 6,.i 5,.i 2,.i 0,.i 5,.i 4,.i 1,.i 0,.i 2,.i 0,.i 0,.i 1,.i 0,.i 0])] [],.asg 2 (.new 5 []),.asg 3 (.at L2 27),.asg 4 (.eD [.cn (.str 78),L1,.cn (.str 1),.i 0,.cn (.str 82),.i 11,.cn (.str 27),L3,.cn (.str 48),.eD [],.cn (.str 17),.eD []]),.jU [(L4,(.cn (.str 87))),(L4,(.cn (.str 88))),(L4,(.cn (.str 85)))] (.tp [.aZ L3 97 [.tp [.i 3,.i 64,.tp []]],.aZ L3 97 [.tp [.i 3,.i 65,.tp []]],.aZ L3 97 [.tp [.i 3,.i 66,.tp []]]]),.jU [(L4,(.cn (.str 86))),(L4,(.cn (.str 96))),(L4,(.cn (.str 93)))] (.tp [.aZ L3 97 [.tp [.i 2,.i 67,.tp []]],.aZ L3 97 [.tp [.i 2,.i 68,.tp []]],.aZ L3 97 [.tp [.i 7,.i 0]]]),.cK L4 (.cn (.str 21)) (.dc [.ix L4 (.cn (.str 87)),.i 7,.ix L4 (.cn (.str 88)),.i 9]),.cK L4 (.cn (.str 80)) (.tp [.i 7,.i 9,.ix L4 (.cn (.str 87)),.ix L4 (.cn (.str 88))]),.cK L4 (.cn (.str 83)) (.eD []),.cK L4 (.cn (.str 84)) (.eD []),.dh 5 (.tp [.i 7,.i 9,.i 1,.ix L4 (.cn (.str 87)),.ix L4 (.cn (.str 88))]) [.cK (.ix L4 (.cn (.str 83))) L5 (.aZ L3 97 [.tp [.i 3,.i 8,.tp [L5]]]),.cK (.ix L4 (.cn (.str 84))) (.ix (.ix L4 (.cn (.str 83))) L5) L5],.cK L4 (.cn (.str 2)) (.eD []),.dh 5 (.tp [.i 7,.i 9,.ix (.ix L4 (.cn (.str 83))) (.i 7),.i 13,.ix L4 (.cn (.str 85))]) [.cK (.ix L4 (.cn (.str 2))) L5 (.aZ L3 97 [.tp [.i 4,L5]])],.asg 6 (.tp [.i 5,.i 5,.i 2,.i 1,.i 4]),.aW L2 28 (.bn .add (.bn .mul (.ls [.cn .none]) (.i 64)) (.jE (.new 4 [.bn .add (.i 64) FL,.cn (.str 98),.ix L6 FL,.i 0,.i (-1),.tp [],.i 1]) 19 (.i 5))),.aW (.ix (.at L2 28) (.i 64)) 21 (.i 7),.aW (.ix (.at L2 28) (.i 65)) 21 (.i 9),.asg 7 (.new 9 [L2,.i 1]),.cK L4 (.cn (.str 54)) L7,.asg 8 (.ix (.at L7 47) (.call 29 [L7,.i 0,.i 0,.i 0])),.asg 9 (.tp [.i 7,.i 1,.i 9,.i 13,.ix (.ix L4 (.cn (.str 83))) (.i 7),.ix (.ix L4 (.cn (.str 83))) (.i 1),.ix (.ix L4 (.cn (.str 83))) (.i 9),.ix (.ix L4 (.cn (.str 83))) (.ix L4 (.cn (.str 87))),.ix (.ix L4 (.cn (.str 83))) (.ix L4 (.cn (.str 88))),.i 12,.ix L4 (.cn (.str 86)),.ix L4 (.cn (.str 87)),.ix L4 (.cn (.str 96)),.ix L4 (.cn (.str 93)),.ix L4 (.cn (.str 85))]),.asg 10 (.call 108 [L4,.ix L9 (.call 104 [L4,.i 15]),.i 0]),.asg 11 (.len (.at L7 48)),.asg 12 (.new 12 [L7,L8]),.exp (.call 103 [tC]),.asg 13 (.aZ tC 65 [nU]),.asg 14 (.fU (.at L7 48) zo),.asg 15 (.call 122 [qq]),.asg 16 (.an [.cm .eq (.x 13 1) (.x 10 1),.call 118 [L4,qq],.cm .eq (.call 117 [qq]) (.call 117 [nU]),.cm .eq (.at tC 56) (.ls [])]),.dh 17 WN [.asg 16 (.an [FK,.cm .isin (.at zp 33) WO,.cm .eq (.tp [.at zp 11,.at zp 35]) (.tp [.i 32,.i 1])])],.asg 11 (.len (.at L7 48)),.ret (.an [FK,.cm .eq (.aZ tC 65 [qq]) qq,.cm .eq (.len (.at L7 48)) zo])]
noncomputable def l8:List Fn:=[⟨1,b0⟩,⟨3,b1⟩,⟨3,b2⟩,⟨2,b3⟩,⟨9,b4⟩,⟨2,b5⟩,⟨1,b6⟩,⟨1,b7⟩,⟨4,b8⟩,⟨2,b9⟩,⟨3,WR⟩,⟨3,WS⟩,⟨2,WT⟩,⟨3,WU⟩,⟨3,WV⟩,⟨2,WW⟩,⟨3,WX⟩,⟨3,WY⟩,⟨9,WZ⟩,⟨1,W2⟩,⟨3,W4⟩,⟨2,W5⟩,⟨1,Xa⟩,⟨4,Xb⟩,⟨2,Xc⟩,⟨2,Xd⟩,⟨6,Xe⟩,⟨5,Xf⟩,⟨3,Xg⟩,⟨5,Xh⟩,⟨6,Xi⟩,⟨6,Xj⟩,⟨1,Xk⟩,⟨7,Xl⟩,⟨4,Xm⟩,⟨3,Xn⟩,⟨3,Xo⟩,⟨3,Xp⟩,⟨3,Xq⟩,⟨2,Xr⟩,⟨2,Xs⟩,⟨2,Xt⟩,⟨1,Xu⟩,⟨2,Xv⟩,⟨2,Xw⟩,⟨3,Xx⟩,⟨4,Xy⟩,⟨2,Xz⟩,⟨3,XA⟩,⟨3,XB⟩,⟨4,XC⟩,⟨4,XD⟩,⟨2,XE⟩,⟨12,XF⟩,⟨5,XG⟩,⟨3,XH⟩,⟨10,XI⟩,⟨1,XJ⟩,⟨7,XK⟩,⟨3,XM⟩,⟨3,XN⟩,⟨5,XO⟩,⟨10,XP⟩,⟨9,XQ⟩,⟨3,XR⟩,⟨3,XS⟩,⟨3,XT⟩,⟨2,XU⟩,⟨4,XW⟩,⟨1,XY⟩,⟨2,XZ⟩,⟨2,X0⟩,⟨4,X1⟩,⟨3,X2⟩,⟨2,X3⟩,⟨7,X4⟩,⟨7,X5⟩,⟨6,X6⟩,⟨4,X7⟩,⟨9,X8⟩,⟨3,X9⟩,⟨8,Ya⟩,⟨7,Yb⟩,⟨3,Yc⟩,⟨1,Yd⟩,⟨2,Ye⟩,⟨2,Yf⟩,⟨3,Yg⟩,⟨7,Yh⟩,⟨3,Yi⟩,⟨2,Yj⟩,⟨8,Yk⟩,⟨3,Yl⟩,⟨7,Ym⟩,⟨2,Yn⟩,⟨1,Yo⟩,⟨6,Yp⟩,⟨4,Yq⟩,⟨3,Yr⟩,⟨1,Ys⟩,⟨1,UO⟩,⟨1,UP⟩,⟨1,UQ⟩,⟨1,UR⟩,⟨4,US⟩,⟨2,UT⟩,⟨3,UU⟩,⟨3,UW⟩,⟨7,UX⟩,⟨5,UY⟩,⟨9,UZ⟩,⟨8,U0⟩,⟨11,U1⟩,⟨9,U2⟩,⟨2,U3⟩,⟨2,U4⟩,⟨5,U5⟩,⟨3,EF⟩,⟨6,i9⟩,⟨5,U6⟩,⟨4,U7⟩,⟨12,U8⟩,⟨3,EG⟩,⟨20,iz⟩]
noncomputable def Yt:List Nat:=[1,3,1,2,2,1,1,1,2,2,2,2,2,2,2,2,2,2,8,1,2,2,1,4,2,1,6,5,3,4,5,2,1,2,2,3,3,3,3,2,2,2,1,2,2,2,2,2,2,2,3,3,2,3,3,2,3,1,4,3,3,2,3,3,3,3,3,2,3,1,2,2,4,2,2,4,4,4,4,2,3,3,2,3,1,2,2,1,2,3,2,2,3,3,2,1,3,3,3,1,1,1,1,1,2,2,2,2,3,3,4,2,3,3,2,2,1,1,2,5,4,2,1,1]
noncomputable def fK:List (Option Nat×List (Nat×Nat)):=[(some 1,[]),
 (some 1,[]),
 (some 1,[]),
 (some 2,[(7,3),(97,4)]),
 (some 18,[]),
 (some 19,[]),
 (some 22,[(97,23),(99,24),(78,25)]),
 (some 26,[]),
 (some 27,[]),
 (some 28,[]),
 (none,[(63,35)]),
 (none,[(100,36),(101,37)]),
 (some 38,[(65,39),(102,40),(97,41),(103,42),(64,43),(77,44)]),
 (none,[(63,64)]),
 (none,[(63,65)]),
 (none,[(63,66)]),
 (none,[(63,68)]),
 (none,[(63,80)]),
 (none,[(63,81)]),
 (none,[(63,83)]),
 (none,[(63,89)]),
 (none,[(63,92)]),
 (none,[(63,93)]),
 (none,[(63,96)]),
 (none,[(63,97)]),
 (none,[(63,98)])]
noncomputable def PP:Prog:={fn:=fun i=>l8[i]?,cls:=fun c=>(fK[c]?).map fun x=>(x.1,fun f=>x.2.lookup f),ar:=fun i=>(Yt[i]?).getD 0}
section
open PySem PySem.W PySem.Calls PyProof.Rows MeetsSeq MeetsSeq2 MeetsSeq3
section
noncomputable abbrev aF:=PySem.Challenge.pw_sy0010_01
noncomputable def nm (i:Nat):Str:=Str.ofString ((FI[i]?).getD "")
structure Loc where
 a:Addr
 d:Addr
noncomputable def di (μ:List Loc):List Addr:=μ.flatMap fun l=>[l.a,l.d]
section
variable (w:World) (h:Heap) (φ:Addr->Prop) (μ:List Loc)
mutual
inductive VR:V->Value->Prop
 |none:VR .none .none
 |bool (b:Bool):VR (.bool b) (.bool b)
 |int (i:Int) (t:Tok):VR (.int i) (.int i t)
 |str (i:Nat) (t:Tok):VR (.str i) (.str (nm i) t)
 |tup {l:List V} {a:Addr} {bQ:Array Value} {n:Nat}:φ a->IsT h a bQ n->aJ l bQ.toList->VR (.tup l) (.ref a)
 |lst {l:List V} {a:Addr} {bQ:Array Value} {n:Nat}:φ a->IsL h a bQ n->aJ l bQ.toList->VR (.lst l) (.ref a)
 |bZ {vs:List V} {a:Addr} {kvs:List (Int×Value)} (is:List Int):φ a->h.DictOf (intKind aF w) a kvs->kvs.map (·.1)=is->aJ vs (kvs.map (·.2))->VR (.bZ (is.map .int) vs) (.ref a)
 |nV {vs:List V} {a:Addr} {kvs:List (Str×Value)} (is:List Nat):φ a->h.DictOf (strKind aF w) a kvs->kvs.map (·.1)=is.map nm->(∀i∈is,i<104)->aJ vs (kvs.map (·.2))->VR (.bZ (is.map .str) vs) (.ref a)
 |obj {i:Nat} {l:Loc}:μ[i]?=some l->VR (.obj i) (.ref l.a)
inductive aJ:List V->List Value->Prop
 |nil:aJ [] []
 |cons {x:V} {v:Value} {l:List V} {vs:List Value}:VR x v->aJ l vs->aJ (x::l) (v::vs)
end
end
section
variable {w:World} {h h':Heap} {φ aD:Addr->Prop} {μ aE:List Loc}
structure cN (h h':Heap) (φ aD:Addr->Prop) (μ aE:List Loc):Prop where
 keep:∀a,φ a->∀o,h.get? a=some o->h'.get? a=some o
 fr:∀a,φ a->aD a
 mu:∀(i:Nat) (l:Loc),μ[i]?=some l->aE[i]?=some l
theorem VR.mono (x:cN h h' φ aD μ aE) {v:V} {u:Value} (y:VR w h φ μ v u):VR w h' aD aE v u:=
 VR.rec (motive_1:=fun v u _=>VR w h' aD aE v u) (motive_2:=fun l C _=>aJ w h' aD aE l C) .none .bool .int .str
  (fun f ho _ l=> .tup (x.fr _ f) (x.keep _ f _ ho) l) (fun f ho _ l=> .lst (x.fr _ f) (x.keep _ f _ ho) l)
  (fun is f q A _ l=>q.elim fun _ q=>q.elim fun _ q=>q.elim fun _ q=> .bZ is (x.fr _ f) ⟨_,_,_,x.keep _ f _ q.1,q.2⟩ A l)
  (fun is f q A z _ l=>q.elim fun _ q=>q.elim fun _ q=>q.elim fun _ q=> .nV is (x.fr _ f) ⟨_,_,_,x.keep _ f _ q.1,q.2⟩ A z l)
  (fun e=> .obj (x.mu _ _ e)) .nil (fun _ _ a b=> .cons a b) y
theorem aJ.nil_inv{q:List Value} (x:aJ w h φ μ [] q):q=[]:=by cases x;rfl
theorem aJ.inv{v:V}{l:List V} {z:List Value} (x:aJ w h φ μ (v::l) z):∃u q,VR w h φ μ v u/\aJ w h φ μ l q/\z=u::q:=by
 cases x with
 |cons a b=>exact⟨_,_,a,b,rfl⟩
theorem aJ.ind{P:List V->List Value->Prop} (A:P [] []) (C:∀a l v vs,VR w h φ μ a v->P l vs->P (a::l) (v::vs)) (l:List V):∀{q:List Value},aJ w h φ μ l q->P l q:=by
 induction l with
 |nil=>intro q x;obtain rfl:=x.nil_inv;exact A
 |cons a l ih=>intro q x;obtain⟨u,q,y,z,rfl⟩:=aJ.inv x;exact C _ _ _ _ y (ih z)
theorem aJ.mono (x:cN h h' φ aD μ aE) {l:List V} {q:List Value}:aJ w h φ μ l q->aJ w h' aD aE l q:=
 aJ.ind (P:=aJ w h' aD aE) .nil (fun _ _ _ _ a b=> .cons (a.mono x) b) l
theorem aJ.length{l:List V} {vs:List Value}:aJ w h φ μ l vs->l.length=vs.length:=
 aJ.ind (P:=fun l vs=>l.length=vs.length) rfl (fun _ _ _ _ _ b=>congrArg Nat.succ b) l
theorem aJ.get{l:List V} {vs:List Value} {i:Nat} {x:V} (y:aJ w h φ μ l vs):l[i]?=some x->∃v,vs[i]?=some v/\VR w h φ μ x v:=
 aJ.ind (P:=fun l vs=>∀i,l[i]?=some x->∃v,vs[i]?=some v/\VR w h φ μ x v) (fun _ e=>(aM e).elim)
  (fun _ _ v _ a ih i=>Nat.casesOn (motive:=fun i=>(_::_:List V)[i]?=some x->∃u,(v::_)[i]?=some u/\VR w h φ μ x u) i (fun e=>⟨v,rfl,aR e▸a⟩) (fun i e=>ih i e)) l y i
theorem aJ.append{l m:List V} {vs q:List Value} (x:aJ w h φ μ l vs) (y:aJ w h φ μ m q):aJ w h φ μ (l++m) (vs++q):=
 aJ.ind (P:=fun l vs=>aJ w h φ μ (l++m) (vs++q)) y (fun _ _ _ _ a b=> .cons a b) l x
theorem aJ.take{l:List V} {vs:List Value} (n:Nat) (x:aJ w h φ μ l vs):aJ w h φ μ (l.take n) (vs.take n):=
 aJ.ind (P:=fun l vs=>∀n,aJ w h φ μ (l.take n) (vs.take n)) (fun n=>by cases n<;>exact .nil) (fun _ _ _ _ a ih n=>by cases n with|zero=>exact .nil|succ n=>exact .cons a (ih n)) l x n
theorem aJ.drop (n:Nat):∀{l:List V} {vs:List Value},aJ w h φ μ l vs->aJ w h φ μ (l.drop n) (vs.drop n):=by
 induction n with
 |zero=>exact fun x=>x
 |succ n ih=>
  intro l vs x
  cases x with
  |nil=>exact .nil
  |cons _ b=>exact ih b
theorem aJ.set{l:List V} {vs:List Value} {x:V} {v:Value} (n:Nat) (y:aJ w h φ μ l vs) (z:VR w h φ μ x v):aJ w h φ μ (l.set n x) (vs.set n v):=by
 refine aJ.ind (P:=fun l vs=>(∀n,aJ w h φ μ (l.set n x) (vs.set n v))/\aJ w h φ μ l vs) ⟨fun _=> .nil,.nil⟩ (fun _ _ _ _ a ih=>⟨fun n=>?_,.cons a ih.2⟩) l y|>.1 n
 cases n with
 |zero=>exact .cons z ih.2
 |succ n=>exact .cons a (ih.1 n)
end
section
variable {w:World} {h:Heap} {φ:Addr->Prop} {μ:List Loc}
inductive EH (w:World) (h:Heap) (φ:Addr->Prop) (μ:List Loc) (l:List V):Value->Prop
 |mk {a:Addr} {bQ:Array Value} {n:Nat}:φ a->IsT h a bQ n->aJ w h φ μ l bQ.toList->EH w h φ μ l (.ref a)
inductive EI (w:World) (h:Heap) (φ:Addr->Prop) (μ:List Loc) (l:List V):Value->Prop
 |mk {a:Addr} {bQ:Array Value} {n:Nat}:φ a->IsL h a bQ n->aJ w h φ μ l bQ.toList->EI w h φ μ l (.ref a)
def Yu (w:World) (h:Heap) (φ:Addr->Prop) (μ:List Loc) (u:Value):V->Prop
 | .none=>u= .none
 | .bool b=>u= .bool b
 | .int i=>∃t,u= .int i t
 | .str i=>∃t,u= .str (nm i) t
 | .tup l=>EH w h φ μ l u
 | .lst l=>EI w h φ μ l u
 | .obj i=>∃l:Loc,μ[i]?=some l/\u= .ref l.a
 |_=>True
theorem VR.inv{v:V}{u:Value} (x:VR w h φ μ v u):Yu w h φ μ u v:=by
 cases x with
 |tup f o l=>exact .mk f o l
 |lst f o l=>exact .mk f o l
 |obj e=>exact⟨_,e,rfl⟩
 |int i t=>exact⟨t,rfl⟩
 |str i t=>exact⟨t,rfl⟩
 |bZ|nV=>trivial
 |_=>exact rfl
end
end
section
mutual
noncomputable def eh:V->PyData
 | .int i=> .int i
 | .str n=> .str (nm n)
 | .tup l=> .tuple (eM l)
 | .lst l=> .list (eM l)
 |_=> .none
noncomputable def eM:List V->List PyData
 |[]=>[]
 |v::r=>eh v::eM r
end
noncomputable def aaa:List Str:=FI.map Str.ofString
theorem QS:((List.range 104).all fun i=>PyData.strOk (nm i))=true:=by decide+kernel
theorem HY:((List.range 104).all fun i=>(List.range 104).all fun j=>i==j||nm i !=nm j)=true:=by decide+kernel
theorem rK{i j:Nat} (a:i<104) (b:j<104) (e:nm i=nm j):i=j:=by
 have:=cG.mp (cG.mp HY i (su.mpr a)) j (su.mpr b)
 rw[e] at this
 simpa using this
theorem KS{i:Nat} (a:i<104):PyData.strOk (nm i)=true:=cG.mp QS i (su.mpr a)
theorem AR{l:List PyData} {n:Nat} (q:PyData.canLayAll0 l=true/\PyData.depthAll l<=n):((PyData.tuple l).canLay0=true/\(PyData.tuple l).depth<=n+1)/\((PyData.list l).canLay0=true/\(PyData.list l).depth<=n+1):=by
 simp only[PyData.canLay0,PyData.depth,q.1,true_and]
 omega
theorem AS{v:PyData}{l:List PyData} {n m:Nat} (p:v.canLay0=true/\v.depth<=n) (q:PyData.canLayAll0 l=true/\PyData.depthAll l<=m):PyData.canLayAll0 (v::l)=true/\PyData.depthAll (v::l)<=max n m:=by
 simp only[PyData.canLayAll0,PyData.depthAll,p.1,q.1,Bool.and_self,true_and]
 omega
theorem gX{v:V}{l:List V} (h:V.bG (v::l)=true):v.plain=true/\V.bG l=true:=by
 have h:(v.plain&&V.bG l)=true:=h
 exact Bool.and_eq_true _ _|>.mp h
theorem mE (v:V):v.plain=true->(eh v).canLay0=true/\(eh v).depth<=v.deep:=
 V.rec (motive_1:=fun v=>v.plain=true->(eh v).canLay0=true/\(eh v).depth<=v.deep) (motive_2:=fun l=>V.bG l=true->PyData.canLayAll0 (eM l)=true/\PyData.depthAll (eM l)<=V.dy l)
  (fun _=>⟨rfl,aO _⟩) (fun _ h=>(aL h).elim) (fun _ _=>⟨rfl,aO _⟩) (fun _ h=>⟨KS (of_decide_eq_true h),aO _⟩)
  (fun _ ih h=>(AR (ih h)).1) (fun _ ih h=>(AR (ih h)).2) (fun _ _ _ _ h=>(aL h).elim) (fun _ h=>(aL h).elim) (fun _=>⟨rfl,aO _⟩)
  (fun _ _ ih a h=>AS (ih (gX h).1) (a (gX h).2)) v
theorem AU (l:List V):V.bG l=true->PyData.canLayAll0 (eM l)=true/\PyData.depthAll (eM l)<=V.dy l:=
 List.rec (motive:=fun l=>V.bG l=true->PyData.canLayAll0 (eM l)=true/\PyData.depthAll (eM l)<=V.dy l) (fun _=>⟨rfl,aO _⟩) (fun v _ a h=>AS (mE v (gX h).1) (a (gX h).2)) l
theorem KU{n m:Nat} (h1:n<104) (h2:m<104):(nm n==nm m)=(n==m):=by
 by_cases e:n=m
 ·subst e;rw[beq_self_eq_true,beq_self_eq_true]
 ·rw[beq_eq_false_iff_ne.mpr fun q=>e (rK h1 h2 q),beq_eq_false_iff_ne.mpr e]
theorem rz (a:V):∀(b:V),a.plain=true->b.plain=true->PyData.eqv (eh a) (eh b)=V.beq a b:=by
 refine V.rec (motive_1:=fun a=>∀b:V,a.plain=true->b.plain=true->PyData.eqv (eh a) (eh b)=V.beq a b) (motive_2:=fun l=>∀m,V.bG l=true->V.bG m=true->PyData.eqvAll (eM l) (eM m)=V.eX l m) ?_ (fun _ _ h=>(aL h).elim) ?_ ?_ ?_ ?_ (fun _ _ _ _ _ h=>(aL h).elim) (fun _ _ h=>(aL h).elim) ?_ ?_ a
 ·intro b _ c;cases b<;>first|rfl|exact(aL c).elim
 ·intro i b _ c;cases b<;>first|rfl|exact(aL c).elim
 ·intro i b d c
  cases b with
  |str m=>exact KU (of_decide_eq_true d) (of_decide_eq_true c)
  |_=>first|rfl|exact(aL c).elim
 ·intro l ih b d c
  cases b with
  |tup m=>exact ih m d c
  |_=>first|rfl|exact(aL c).elim
 ·intro l ih b d c
  cases b with
  |lst m=>exact ih m d c
  |_=>first|rfl|exact(aL c).elim
 ·intro b _ _;cases b<;>rfl
 ·intro x l ih e b d c
  cases b with
  |nil=>rfl
  |cons b y=>
   show(PyData.eqv (eh x) (eh b)&&PyData.eqvAll (eM l) (eM y))=(V.beq x b&&V.eX l y)
   rw[ih b (gX d).1 (gX c).1,e y (gX d).2 (gX c).2]
section
variable {w:World} {h:Heap} {φ:Addr->Prop} {μ:List Loc}
theorem ZI{v:V}{p:Prop} (e:v.plain=true) (n:v.plain=false):p:=(aL (n.symm.trans e)).elim
theorem VR.reads{v:V}{u:Value} (x:VR w h φ μ v u):v.plain=true->∃as,Reads h u (eh v) as:=
 VR.rec (motive_1:=fun v u _=>v.plain=true->∃as,Reads h u (eh v) as) (motive_2:=fun l A _=>V.bG l=true->∃as,ReadsAll h A (eM l) as)
  (fun _=>⟨_,.none⟩) (fun _ e=>(aL e).elim) (fun i t _=>⟨_,.int i t⟩) (fun i t _=>⟨_,.str _ t⟩) (fun _ ho _ ih e=>(ih e).elim fun _ q=>⟨_,.tuple ho rfl rfl q⟩)
  (fun _ ho _ ih e=>(ih e).elim fun _ q=>⟨_,.list ho rfl rfl q⟩) (fun _ _ _ _ _ _ e=>(aL e).elim) (fun _ _ _ _ _ _ _ e=>(aL e).elim) (fun _ e=>(aL e).elim)
  (fun _=>⟨_,.nil⟩) (fun _ _ ih z e=>(ih (gX e).1).elim fun _ q=>(z (gX e).2).elim fun _ p=>⟨_,.cons q p⟩) x
end
abbrev TK:=List (Int⊕List Int)
noncomputable def fL:Int⊕List Int->V
 | .inl i=> .int i
 | .inr l=> .tup (l.map .int)
noncomputable def dR (k:TK):V:= .tup (k.map fL)
noncomputable def lB (w:World):Int⊕List Int->Int
 | .inl i=>hashInt i
 | .inr l=>tupleKeyHash (intKind aF w) l
noncomputable def l9:Int⊕List Int->Nat
 | .inl _=>1
 | .inr l=>l.length+1
noncomputable def vQ (w:World) (k:TK):Int:=reduceHash (Builtin.Tuple.tupleHashOf (k.map (lB w)))
abbrev iD (w:World) (h:Heap) (k:TK) (a:Addr):Prop:=VR w h (fun _=>True) [] (dR k) (.ref a)
section
variable {w:World} {h h':Heap} {s:Shared} {φ aD:Addr->Prop} {μ aE:List Loc} {A:Around} {E:Value->Shared->Prop}
theorem aJ.uT{α:Type}{f:α->V}{P:List α->List Value->Prop} (A:P [] []) (C:∀a l v vs,VR w h φ μ (f a) v->P l vs->P (a::l) (v::vs)) (l:List α):∀{q:List Value},aJ w h φ μ (l.map f) q->P l q:=by
 induction l with
 |nil=>intro q x;obtain rfl:=x.nil_inv;exact A
 |cons a l ih=>intro q x;obtain⟨u,q,y,z,rfl⟩:=aJ.inv x;exact C _ _ _ _ y (ih z)
theorem aJ.map_inj{α:Type}{f:α->V} (hf:∀a b v,VR w h φ μ (f a) v->VR w h φ μ (f b) v->a=b) (l:List α):∀{m:List α} {q:List Value},aJ w h φ μ (l.map f) q->aJ w h φ μ (m.map f) q->l=m:=by
 induction l with
 |nil=>intro m q x y;obtain rfl:=x.nil_inv;cases m with
  |nil=>rfl
  |cons=>cases y
 |cons a l ih=>intro m q x y;obtain⟨u,q,x1,x2,rfl⟩:=aJ.inv x;cases m with
  |nil=>cases y
  |cons b m=>
   cases y with
   |cons z A=>rw[hf _ _ _ x1 z,ih x2 A]
theorem Bz (a b:Int) (v:Value) (x:VR w h φ μ (.int a) v) (y:VR w h φ μ (.int b) v):a=b:=by
 obtain⟨_,rfl⟩:=VR.inv x;obtain⟨_,e⟩:=VR.inv y;exact(Value.int.inj e).1
theorem BA{f:α->V} (l m:List α) (v:Value) (hf:∀a,aJ w h φ μ (l.map f) a->aJ w h φ μ (m.map f) a->l=m) (x:VR w h φ μ (.tup (l.map f)) v) (y:VR w h φ μ (.tup (m.map f)) v):l=m:=by
 obtain⟨_,b,c⟩:=VR.inv x
 cases y with
 |tup _ d e=>
 obtain⟨⟨rfl⟩⟩:=aR ((show h.get? _=some _ from b).symm.trans d)
 exact hf _ c e
theorem KV (a b:Int⊕List Int) (v:Value) (x:VR w h φ μ (fL a) v) (y:VR w h φ μ (fL b) v):a=b:=by
 cases a with
 |inl i=>
  obtain⟨_,rfl⟩:=VR.inv x
  cases b with
  |inl j=>rw[Bz i j _ x y]
  |inr j=>cases y
 |inr l=>
  cases b with
  |inl j=>obtain⟨_,rfl⟩:=VR.inv y;cases x
  |inr m=>rw[BA l m v (fun _=>aJ.map_inj Bz l) x y]
theorem KW{x y:TK} {a:Addr} (b:iD w h x a) (c:iD w h y a):x=y:=BA x y _ (fun _=>aJ.map_inj KV x) b c
theorem HZ{l:List Int} {b:List Value}:aJ w h φ μ (l.map .int) b->aJ w h' aD aE (l.map .int) b:=
 aJ.uT (P:=fun l b=>aJ w h' aD aE (l.map .int) b) .nil (fun a l v vs x c=>by obtain⟨_,rfl⟩:=VR.inv x;exact .cons (.int _ _) c) l
theorem KX (k:∀a b n,φ a->IsT h a b n->aD a/\IsT h' a b n) {l:TK} {c:List Value}:aJ w h φ μ (l.map fL) c->aJ w h' aD aE (l.map fL) c:=
 aJ.uT (P:=fun l c=>aJ w h' aD aE (l.map fL) c) .nil (fun a l v vs x d=>by
  cases a with
  |inl i=>obtain⟨_,rfl⟩:=VR.inv x;exact .cons (.int _ _) d
  |inr m=>
   cases x with
   |tup t e f=>exact .cons (.tup (k _ _ _ t e).1 (k _ _ _ t e).2 (HZ f)) d) l
theorem Dp (k:∀a b n,φ a->IsT h a b n->aD a/\IsT h' a b n) {m:TK} {u:Value} (x:VR w h φ μ (dR m) u):VR w h' aD aE (dR m) u:=by
 cases x with
 |tup t c d=>exact .tup (k _ _ _ t c).1 (k _ _ _ t c).2 (KX k d)
theorem oX{k:TK}{a:Addr} (x:VR w h φ μ (dR k) (.ref a)):iD w h k a:=Dp (fun _ _ _ _ q=>⟨trivial,q⟩) x
theorem Jg{k:TK}{a d:Addr} {o:Obj} {es:Array DictEntry} {b:Nat} (x:iD w h k a) (ho:h.get? d=some o) (hd:o.data= .dict es b) (c:Heap.SameBut d h h'):iD w h' k a:=
 Dp (fun a _ _ _ x=>⟨trivial,(c.2 a fun q=>by subst q;rw[x] at ho;obtain rfl:=aR ho;cases hd).trans x⟩) x
theorem GX{l:List Int} {b:List Value}:aJ w h φ μ (l.map .int) b->ItemsAre (intKind aF w) l b:=
 aJ.uT (P:=fun l b=>ItemsAre (intKind aF w) l b) .nil (fun a l v vs x c=>by obtain⟨_,rfl⟩:=VR.inv x;exact .cons (intKind_is aF w _ _) c) l
theorem Al{α:Type}{f:α->V} (hf:∀a,(f a).plain=true) (l:List α):V.bG (l.map f)=true:=by
 induction l with
 |nil=>rfl
 |cons a l ih=>show((f a).plain&&V.bG (l.map f))=true;rw[hf,ih];rfl
theorem GY (l:List Int):V.bG (l.map .int)=true:=Al (fun _=>rfl) l
theorem qY (l:TK):V.bG (l.map fL)=true:=Al (fun a=>by cases a with|inl=>rfl|inr m=>exact GY m) l
theorem BB{α:Type} [DecidableEq α] {f:α->V} (hf:∀a b,V.beq (f a) (f b)=decide (a=b)) (l:List α):∀m:List α,V.eX (l.map f) (m.map f)=decide (l=m):=by
 induction l with
 |nil=>intro m;cases m with
  |nil=>rfl
  |cons=>rfl
 |cons a l ih=>intro m;cases m with
  |nil=>rfl
  |cons b m=>
   show(V.beq (f a) (f b)&&V.eX (l.map f) (m.map f))=_
   rw[hf,ih]
   by_cases h1:a=b<;>by_cases h2:l=m<;>simp[h1,h2]
theorem H0 (l m:List Int):V.eX (l.map .int) (m.map .int)=decide (l=m):=BB (fun _ _=>rfl) l m
theorem BC (l m:TK):V.eX (l.map fL) (m.map fL)=decide (l=m):=BB (fun a b=>by
 cases a with
 |inl i=>cases b with
  |inl j=>exact decide_eq_decide.mpr ⟨congrArg _,Sum.inl.inj⟩
  |inr j=>exact(decide_eq_false nofun).symm
 |inr i=>cases b with
  |inl j=>exact(decide_eq_false nofun).symm
  |inr j=>show V.eX _ _=_;rw[H0];exact decide_eq_decide.mpr ⟨congrArg _,Sum.inr.inj⟩) l m
theorem Hq (l:List Int):V.dy (l.map .int)=0:=by
 induction l with
 |nil=>rfl
 |cons a l ih=>show max 0 (V.dy (l.map .int))=0;rw[ih];rfl
theorem H5 (l:TK):V.dy (l.map fL)<=1:=by
 induction l with
 |nil=>exact dt _
 |cons a l ih=>
  refine Nat.max_le.mpr ⟨?_,ih⟩
  cases a with
  |inl=>exact dt _
  |inr m=>show V.dy (m.map .int)+1<=1;rw[Hq];exact aO _
theorem Am{α β:Type} {f:Value->β->Sem (ForInStep β)} {g:α->V} {Q:β->Shared->Prop} {k:List α} (I:List α->β->Shared->Prop)
  (turn:∀don a u b s',VR w h φ μ (g a) u->I don b s'->wpAny (model aF w) A (f u b) (fun r iE=>match r with| .yield b'=>I (don++[a]) b' iE| .done b'=>Q b' iE) E s') (fin:∀b s',I k b s'->Q b s') (left:List α):
  ∀{don:List α} {us:List Value} {b:β} {s':Shared},aJ w h φ μ (left.map g) us->don++left=k->I don b s'->wpAny (model aF w) A (forIn us b f) Q E s':=by
 induction left with
 |nil=>intro don us b s' x e i;obtain rfl:=x.nil_inv;exact wpAny_pure (fin b s' (e▸(cP don).symm▸i))
 |cons a left ih=>
  intro don us b s' x e i
  obtain⟨u,us,y,z,rfl⟩:=aJ.inv x
  rw[lQ]
  refine wpAny_bind (wpAny_mono (turn don a u b s' y i) (fun r iE hr=>?_) fun _ _ q=>q)
  cases r with
  |done b'=>exact wpAny_pure hr
  |yield b'=>exact ih z ((fE don [a] left).trans e) hr
theorem Jh{e:Int⊕List Int} {u:Value} {s':Shared} {Q:Int->Shared->Prop} (hu:A.units<cLine) (a:s'.heap=s.heap) (x:VR w s.heap (fun _=>True) [] (fL e) u) (q:Q (lB w e) {s' with toks:=s'.toks+l9 e}):wpAny (model aF w) A (pyHash u) Q E s':=by
 cases e with
 |inl i=>obtain⟨_,rfl⟩:=VR.inv x;exact(intKind aF w).pyHash (intKind_is aF w i _) q
 |inr l=>
  obtain⟨_,b,c⟩:=VR.inv x
  exact wpAny_pyHash_tuple (knd:=intKind aF w) (ks:=l) hu ⟨_,_,_,a▸b,rfl,rfl,GX c⟩ q
theorem Ji{k:TK}{a:Addr}{Q:Int->Shared->Prop} (hu:A.units+80<cLine) (x:iD w s.heap k a) (q:Q (vQ w k) {s with toks:=s.toks+((k.map l9).sum+1)}):wpAny (model aF w) A (pyHash (.ref a)) Q E s:=by
 obtain @⟨_,items,n,_,ho,hv⟩:=VR.inv x
 have hT:s.TypeIs (.ref a) "tuple":=⟨_,ho,rfl⟩
 refine wpAny_bind (wpAny_cRoomFor_or (.inr (WH hu)) (wpAny_bind (wpAny_specialOf hT sx.lookup (wpAny_ite_false (decide_eq_false (by rw[beq_builtin_none];exact aL)) ?_))))
 refine wpAny_bind (wpAny_specialOf hT sx.lookup ?_)
 refine wpAny_bind (wpAny_callSpecialIfBoundUnlessNone?_slot hT sx (wpAny_call_entry sx hT F.entry_tuple_hash ?_ (F.args_tuple_hash_1 _)))
 show wpAny _ _ (Builtin.Tuple.tupleItemsOf (.ref a)>>=_) _ _ s
 refine wpAny_bind (wpAny_tupleItemsOf ho rfl (wpAny_bind ?_))
 rw[<-Array.forIn_toList]
 refine Am (don:=[]) (fun don b s'=>b.toList=don.map (lB w)/\s'={s with toks:=s.toks+(don.map l9).sum}) (fun don e u b s' y i=>?_) (fun b s' i=>?_) k hv rfl ⟨rfl,rfl⟩
 ·obtain ⟨hb,rfl⟩:=i
  have fin:(b.push (lB w e)).toList=(don++[e]).map (lB w)/\({s with toks:=s.toks+(don.map l9).sum+l9 e}:Shared)={s with toks:=s.toks+((don++[e]).map l9).sum}:=
   ⟨by rw[Array.toList_push,hb,gF];rfl,by rw[gF,List.sum_append,<-lO];rfl⟩
  refine wpAny_bind (Jh (by show A.units+1<cLine;exact WI hu) rfl y ?_)
  first
   |exact wpAny_pure fin
   |exact wpAny_bind (wpAny_pure (wpAny_pure fin))
 ·obtain ⟨hb,rfl⟩:=i
  show wpAny _ _ (retInt (Builtin.Tuple.tupleHashOf b.toList)) _ _ _
  rw[hb]
  refine wpAny_ret_mkInt ?_
  unfold vQ reduceHash at q
  by_cases hr:(decide (-(2:Int)^63<=Builtin.Tuple.tupleHashOf (k.map (lB w)))&&decide (Builtin.Tuple.tupleHashOf (k.map (lB w))<2^63))=true
  ·rw[if_pos hr] at q
   exact wpAny_ite_true (decide_eq_true hr) (wpAny_pure q)
  ·rw[if_neg hr] at q
   exact wpAny_ite_false (decide_eq_false hr) (wpAny_bind (wpAny_rule (wpAny_pure q)))
theorem AV (n:Nat) {v:Value} (h:carriedByValue v=true):eqIsQuiet n v=pure true:=eqIsQuiet_byValue n h
theorem An{α:Type}{g:α->V}{l:List α} {b:Addr} {Q:Bool->Shared->Prop} {m n:Nat} {bQ:Array Value} (ho:IsT s.heap b bQ n) (hv:aJ w s.heap φ μ (l.map g) bQ.toList)
  (item:∀a u (Q:Bool->Shared->Prop),VR w s.heap φ μ (g a) u->Q true s->wpAny (model aF w) A (eqIsQuiet m u) Q E s) (q:Q true s):wpAny (model aF w) A (eqIsQuiet (m+1) (.ref b)) Q E s:=by
 have hT:s.TypeIs (.ref b) "tuple":=⟨_,ho,rfl⟩
 unfold eqIsQuiet
 refine wpAny_bind (wpAny_specialOf hT F.slot_tuple_eq.lookup ?_)
 show wpAny _ _ (isInstance (.ref b) (.type "tuple")>>=_) _ _ s
 refine wpAny_bind (wpAny_isInstance hT isSubtype_tuple_tuple (wpAny_ite_false rfl (wpAny_bind (wpAny_seqItems ho rfl (wpAny_bind ?_)))))
 show wpAny _ _ (forIn bQ _ _) _ _ s
 rw[<-Array.forIn_toList]
 refine Am (don:=[]) (fun _ r s'=>r.1=none/\s'=s) (fun don e u r s' y i=>?_) (fun r s' i=>?_) l hv rfl ⟨rfl,rfl⟩
 ·obtain ⟨_,rfl⟩:=i
  exact wpAny_bind (item e u _ y (wpAny_ite_false rfl (wpAny_pure ⟨rfl,rfl⟩)))
 ·obtain ⟨r1,r2⟩:=r
  obtain⟨h,rfl⟩:=i
  have h:r1=none:=h
  subst h
  exact wpAny_pure q
theorem GZ{l:List Int} {b:Addr} {Q:Bool->Shared->Prop} {m n:Nat} {a:Array Value} (ho:IsT s.heap b a n) (c:aJ w s.heap φ μ (l.map .int) a.toList) (q:Q true s):wpAny (model aF w) A (eqIsQuiet (m+1) (.ref b)) Q E s:=
 An ho c (fun _ _ _ y q=>by obtain⟨_,rfl⟩:=VR.inv y;rw[AV _ rfl];exact wpAny_pure q) q
theorem H6{k:TK}{a:Addr}{Q:Bool->Shared->Prop} (x:iD w s.heap k a) (q:Q true s):wpAny (model aF w) A (eqIsQuiet 8 (.ref a)) Q E s:=by
 obtain⟨_,ho,b⟩:=VR.inv x
 exact An ho b (fun e u Q y q=>by
  cases e with
  |inl i=>obtain⟨_,rfl⟩:=VR.inv y;rw[AV _ rfl];exact wpAny_pure q
  |inr l=>obtain⟨_,c,d⟩:=VR.inv y;exact GZ c d q) q
theorem QT{x y:TK} {a b:Addr} {Q:Bool->Shared->Prop} (hu:A.units+80<cLine) (f:iD w s.heap x a) (g:iD w s.heap y b) (q:Q (decide (x=y)) s):wpAny (model aF w) A (eqBool (.ref a) (.ref b)) Q E s:=by
 have c:(dR x).plain=true:=qY x
 have d:(dR y).plain=true:=qY y
 obtain⟨as,h⟩:=f.reads c
 obtain⟨j,i⟩:=g.reads d
 have e:=mE _ c
 have ly:=mE _ d
 have k:(dR x).deep<=2:=jI (H5 x)
 refine SeqAt.eqBoolOverData aF w A E s _ _ _ _ _ _ Q h i e.1 ly.1 ?_ ?_
 ·have:=Nat.min_le_left (eh (dR x)).depth (eh (dR y)).depth
  have:=e.2
  omega
 ·rw[rz _ _ c d,show V.beq (dR x) (dR y)=decide (x=y) from BC x y];exact q
end
noncomputable def h8 (w:World):HeapKind aF w TK where
 is:=iD w
 hash:=vQ w
 draws:=fun k=>(k.map l9).sum+1
 room:=fun A=>A.units+80<cLine
 inj:=fun hx hy=>KW hx hy
 keeps:=fun x ho hd hs=>Jg x ho hd hs
 pyHash:=fun hu hk q=>Ji hu hk q
 eqBool:=fun hu hx hy q=>QT hu hx hy q
 quiet:=fun hk q=>H6 hk q
end
noncomputable abbrev nK (p:Int×V):V×V:=(.int p.1,p.2)
noncomputable abbrev sT (p:TK×V):V×V:=(dR p.1,p.2)
noncomputable abbrev sU (p:Nat×V):V×V:=(.str p.1,p.2)
inductive DR (w:World) (h:Heap) (φ:Addr->Prop) (μ:List Loc) (a:Addr):List (V×V)->Prop
 |int (ks:List (Int×V)) (kvs:List (Int×Value)):h.DictOf (intKind aF w) a kvs->kvs.map (·.1)=ks.map (·.1)->aJ w h φ μ (ks.map (·.2)) (kvs.map (·.2))->DR w h φ μ a (ks.map nK)
 |str (ks:List (Nat×V)) (kvs:List (Str×Value)):h.DictOf (strKind aF w) a kvs->kvs.map (·.1)=ks.map (fun p=>nm p.1)->(∀p∈ks,p.1<104)->aJ w h φ μ (ks.map (·.2)) (kvs.map (·.2))->DR w h φ μ a (ks.map sU)
 |tup (ks:List (TK×V)) (xs:List (TK×Addr×Value)):h.DictOfH (h8 w) a xs->xs.map (·.1)=ks.map (·.1)->(∀x∈xs,VR w h φ μ (dR x.1) (.ref x.2.1))->aJ w h φ μ (ks.map (·.2)) (xs.map (·.2.2))->DR w h φ μ a (ks.map sT)
inductive e7 (w:World) (h:Heap) (φ:Addr->Prop) (μ:List Loc):List (Nat×V)->List DictEntry->Prop
 |nil:e7 w h φ μ [] []
 |cons {f:Nat} {x:V} {t:Tok} {v:Value} {fs:List (Nat×V)} {es:List DictEntry}:VR w h φ μ x v->e7 w h φ μ fs es->e7 w h φ μ ((f,x)::fs) (⟨PyData.keyHash w.params (nm f),.str (nm f) t,v⟩::es)
noncomputable def dW:List Addr:=[38,51,63,98,210,231,285,377,398,419,480,508,571,723,742,761,785,881,900,926,980,1013,1032,1063,1082,1101]
inductive e8 (w:World) (h:Heap) (φ:Addr->Prop) (μ:List Loc):Loc->Ob->Prop
 |list {l:Loc} {xs:List V} {bQ:Array Value} {n:Nat}:IsL h l.a bQ n->aJ w h φ μ xs bQ.toList->l.d=l.a->e8 w h φ μ l (.list xs)
 |dict {l:Loc} {xs:List (V×V)}:DR w h φ μ l.a xs->l.d=l.a->e8 w h φ μ l (.dict xs)
 |inst {l:Loc} {c:Nat} {fs:List (Nat×V)} {C:Addr} {sl:Array (Option Value)} {es:List DictEntry} {n:Nat}:dW[c]?=some C->h.get? l.a=some ⟨.ref C,some l.d,.plain,sl⟩->h.get? l.d=some (dictOf es n)->
   e7 w h φ μ fs es->3<=c->(∀p∈fs,((cy[c]?).getD []).contains p.1=true)->e8 w h φ μ l (.inst c fs)
structure SR (w:World) (h₀ h:Heap) (φ:Addr->Prop) (μ:List Loc) (st:St):Prop where
 base:∀a o,h₀.get? a=some o->h.get? a=some o
 len:μ.length=st.length
 obs:∀(i:Nat) (ob:Ob),st[i]?=some ob->∃l,μ[i]?=some l/\e8 w h φ μ l ob
 off:∀a,a∈di μ->¬φ a/\h₀.get? a=none/\(h.get? a).isSome=true
 apart:∀(i j:Nat) (l m:Loc),μ[i]?=some l->μ[j]?=some m->i≠j->l.a≠m.a/\l.a≠m.d/\l.d≠m.a/\l.d≠m.d
 fz:∀a,φ a->(h.get? a).isSome=true
 sys:¬φ sysModules/\(h₀.get? sysModules).isSome=true
structure Ext (s s':Shared) (φ aD:Addr->Prop) (μ aE:List Loc):Prop where
 keep:∀a o,s.heap.get? a=some o->a∉di μ->s'.heap.get? a=some o
 live:∀a,(s.heap.get? a).isSome=true->(s'.heap.get? a).isSome=true
 fr:∀a,φ a->aD a
 nf:∀a,aD a->¬φ a->s.heap.get? a=none
 mu:∃n,aE=μ++n/\∀a∈di n,s.heap.get? a=none
 gens:s'.gens=s.gens
 os:s'.os=s.os
theorem gY (μ n:List Loc):di (μ++n)=di μ++di n:=by simp[di]
theorem Ext.kH{s:Shared}{φ:Addr->Prop}{μ:List Loc}:Ext s s φ φ μ μ:=
 ⟨fun _ _ e _=>e,fun _ e=>e,fun _ e=>e,fun _ e n=>absurd e n,⟨[],by simp,by simp[di]⟩,rfl,rfl⟩
theorem Ext.toks{s:Shared}{φ:Addr->Prop}{μ:List Loc} (t:Nat):Ext s {s with toks:=t} φ φ μ μ:=
 ⟨fun _ _ e _=>e,fun _ e=>e,fun _ e=>e,fun _ e n=>absurd e n,⟨[],by simp,by simp[di]⟩,rfl,rfl⟩
theorem Ext.trans{s s' iE:Shared} {φ aD gJ:Addr->Prop} {μ aE gK:List Loc} (x:Ext s s' φ aD μ aE) (y:Ext s' iE aD gJ aE gK):Ext s iE φ gJ μ gK:=by
 refine aN x.mu fun n xC hn=>?_;obtain rfl:=xC
 refine aN y.mu fun m xD hm=>?_;obtain rfl:=xD
 have dead:∀a,s'.heap.get? a=none->s.heap.get? a=none:=fun a e=>by
  cases q:s.heap.get? a with
  |none=>rfl
  |some o=>have:=x.live a (by rw[q];rfl);rw[e] at this;exact(aL this).elim
 refine⟨fun a o e na=>?_,fun a e=>y.live a (x.live a e),fun a e=>y.fr a (x.fr a e),fun a e ne=>?_,⟨n++m,by rw[fE],fun a ha=>?_⟩,y.gens.trans x.gens,y.os.trans x.os⟩
 ·refine y.keep a o (x.keep a o e na) fun q=>?_
  rw[gY,dM] at q
  rcases q with q|q
  ·exact na q
  ·rw[hn a q] at e;exact(aM e).elim
 ·by_cases q:aD a
  ·exact x.nf a q ne
  ·exact dead a (y.nf a e q)
 ·rw[gY,dM] at ha
  rcases ha with q|q
  ·exact hn a q
  ·exact dead a (hm a q)
theorem Ext.mono{w:World}{h₀:Heap}{s s':Shared} {φ aD:Addr->Prop} {μ aE:List Loc} {st:St} (x:Ext s s' φ aD μ aE) (r:SR w h₀ s.heap φ μ st):cN s.heap s'.heap φ aD μ aE:=by
 refine aN x.mu fun n z _=>?_;obtain rfl:=z
 refine⟨fun a f o e=>x.keep a o e fun q=>(r.off a q).1 f,x.fr,fun i l e=>?_⟩
 rw[fG (et.mp e).1];exact e
theorem Ext.base{w:World}{h₀:Heap}{s s':Shared} {φ aD:Addr->Prop} {μ aE:List Loc} {st:St} (x:Ext s s' φ aD μ aE) (r:SR w h₀ s.heap φ μ st):∀a o,h₀.get? a=some o->s'.heap.get? a=some o:=
 fun a o e=>x.keep a o (r.base a o e) fun q=>by rw[(r.off a q).2.1] at e;exact(aM e).elim
theorem DR.mono{w:World}{h h':Heap} {φ aD:Addr->Prop} {μ aE:List Loc} {a:Addr} {l:List (V×V)} (d:DR w h φ μ a l) (x:cN h h' φ aD μ aE) (k:∀o,h.get? a=some o->h'.get? a=some o):DR w h' aD aE a l:=by
 cases d with
 |int ks kvs q e v=>refine j5 q fun o es A ho r=>?_;exact .int ks kvs ⟨o,es,A,k o ho,r⟩ e (v.mono x)
 |str ks kvs q e z v=>refine j5 q fun o es A ho r=>?_;exact .str ks kvs ⟨o,es,A,k o ho,r⟩ e z (v.mono x)
 |tup ks E q e D v=>
  refine ox q fun o es A ho r1 r2 r3 _ H=>?_
  exact .tup ks E ⟨o,es,A,k o ho,r1,r2,r3,fun y C=>oX ((D y C).mono x),H⟩ e (fun y C=>(D y C).mono x) (v.mono x)
theorem e7.mono{w:World}{h h':Heap} {φ aD:Addr->Prop} {μ aE:List Loc} (x:cN h h' φ aD μ aE):∀{q:List (Nat×V)} {es:List DictEntry},e7 w h φ μ q es->e7 w h' aD aE q es
 |_,_,.nil=> .nil
 |_,_,.cons a b=> .cons (a.mono x) (b.mono x)
theorem e8.mono{w:World}{h h':Heap} {φ aD:Addr->Prop} {μ aE:List Loc} {l:Loc} {ob:Ob} (d:e8 w h φ μ l ob) (x:cN h h' φ aD μ aE) (k:∀a,a=l.a\/a=l.d->∀o,h.get? a=some o->h'.get? a=some o):e8 w h' aD aE l ob:=by
 cases d with
 |list a b c=>exact .list (k _ (.inl rfl) _ a) (b.mono x) c
 |dict a c=>exact .dict (a.mono x (k _ (.inl rfl))) c
 |inst a b c d e f=>exact .inst a (k _ (.inl rfl) _ b) (k _ (.inr rfl) _ c) (d.mono x) e f
theorem iN{μ:List Loc} {i:Nat} {l:Loc} (e:μ[i]?=some l):l.a∈di μ/\l.d∈di μ:=by
 have:=iY e
 simp only[di,List.mem_flatMap,bP,cp,or_false]
 exact⟨⟨l,this,.inl rfl⟩,⟨l,this,.inr rfl⟩⟩
theorem ZW{μ:List Loc} {a:Addr} (h:a∈di μ):∃(i:Nat) (l:Loc),μ[i]?=some l/\(a=l.a\/a=l.d):=by
 simp only[di,List.mem_flatMap,bP,cp,or_false] at h
 refine aN h fun l hl e=>?_
 refine cE (List.getElem?_of_mem hl) fun i b=>?_
 exact⟨i,l,b,e⟩
theorem SR.pure{w:World}{h₀:Heap}{s s':Shared} {φ aD:Addr->Prop} {μ:List Loc} {st:St} (r:SR w h₀ s.heap φ μ st) (k:∀a o,s.heap.get? a=some o->s'.heap.get? a=some o)
  (fr:∀a,φ a->aD a) (nf:∀a,aD a->¬φ a->s.heap.get? a=none/\(s'.heap.get? a).isSome=true) (g:s'.gens=s.gens) (os:s'.os=s.os):Ext s s' φ aD μ μ/\SR w h₀ s'.heap aD μ st:=by
 have lv:∀a,(s.heap.get? a).isSome=true->(s'.heap.get? a).isSome=true:=fun a e=>by
  refine cE (fP.mp e) fun o ho=>?_;rw[k a o ho];rfl
 have x:Ext s s' φ aD μ μ:=⟨fun a o e _=>k a o e,lv,fr,fun a e ne=>(nf a e ne).1,⟨[],by simp,by simp[di]⟩,g,os⟩
 refine⟨x,fun a o e=>k a o (r.base a o e),r.len,fun i ob e=>?_,fun a ha=>?_,r.apart,fun a f=>?_,⟨fun f=>?_,r.sys.2⟩⟩
 ·refine aN (r.obs i ob e) fun l hl q=>?_
  exact⟨l,hl,q.mono (x.mono r) fun a _ o ho=>k a o ho⟩
 ·refine dP (r.off a ha) fun q1 q2 q3=>?_
  refine⟨fun f=>?_,q2,lv a q3⟩
  have:=(nf a f q1).1
  rw[this] at q3;exact(aL q3).elim
 ·by_cases q:φ a
  ·exact lv a (r.fz a q)
  ·exact (nf a f q).2
 ·have:=(nf _ f r.sys.1).1
  refine cE (fP.mp r.sys.2) fun o ho=>?_
  rw[r.base _ o ho] at this;exact(i8 this).elim
theorem e8.listI{w:World}{h:Heap}{φ:Addr->Prop}{μ:List Loc} {l:Loc} {A:List V} (q:e8 w h φ μ l (.list A)):∃z n,IsL h l.a z n/\aJ w h φ μ A z.toList/\l.d=l.a:=by
 cases q with
 |list a b c=>exact⟨_,_,a,b,c⟩
theorem e8.xE{w:World}{h:Heap}{φ:Addr->Prop}{μ:List Loc} {l:Loc} {z:List (V×V)} (q:e8 w h φ μ l (.dict z)):DR w h φ μ l.a z/\l.d=l.a:=by
 cases q with
 |dict a b=>exact⟨a,b⟩
theorem SR.ob{w:World}{h₀ h:Heap} {φ:Addr->Prop} {μ:List Loc} {st:St} (R:SR w h₀ h φ μ st) {i:Nat} {ob:Ob} {u:Value} {C:Prop} (y:VR w h φ μ (.obj i) u) (z:st[i]?=some ob)
  (k:∀l,u= .ref l.a->μ[i]?=some l->e8 w h φ μ l ob->C):C:=
 aN (R.obs i ob z) fun l hl q=>aN (VR.inv y) fun l' e A=>k l (aR (e.symm.trans hl)▸A) hl q
theorem SR.Dq{w:World}{h₀ h:Heap} {φ:Addr->Prop} {μ:List Loc} {st:St} (R:SR w h₀ h φ μ st) {i:Nat} {A:List V} {u:Value} {C:Prop} (y:VR w h φ μ (.obj i) u) (D:st[i]?=some (.list A))
  (k:∀l z n,u= .ref l.a->μ[i]?=some l->IsL h l.a z n->aJ w h φ μ A z.toList->C):C:=
 R.ob y D fun l e hl q=>Dn q.listI fun z n a b _=>k l z n e hl a b
theorem SR.QU{w:World}{h₀ h:Heap} {φ:Addr->Prop} {μ:List Loc} {st:St} (R:SR w h₀ h φ μ st) {i:Nat} {z:List (V×V)} {u:Value} {C:Prop} (y:VR w h φ μ (.obj i) u) (A:st[i]?=some (.dict z))
  (k:∀l,u= .ref l.a->μ[i]?=some l->DR w h φ μ l.a z->C):C:=
 R.ob y A fun l e hl q=>k l e hl q.xE.1
inductive Dr (w:World) (h:Heap) (φ:Addr->Prop) (μ:List Loc) (l:Loc) (c:Nat) (fs:List (Nat×V)):Prop
 |mk {C:Addr} {sl:Array (Option Value)} {es:List DictEntry} {n:Nat}:dW[c]?=some C->h.get? l.a=some ⟨.ref C,some l.d,.plain,sl⟩->h.get? l.d=some (dictOf es n)->
   e7 w h φ μ fs es->3<=c->(∀p∈fs,((cy[c]?).getD []).contains p.1=true)->Dr w h φ μ l c fs
theorem e8.Ds{w:World}{h:Heap}{φ:Addr->Prop}{μ:List Loc} {l:Loc} {c:Nat} {z:List (Nat×V)} (q:e8 w h φ μ l (.inst c z)):Dr w h φ μ l c z:=by
 cases q with
 |inst a b c d e f=>exact .mk a b c d e f
section
variable {w:World} {h₀:Heap} {s:Shared} {φ:Addr->Prop} {μ:List Loc} {st:St} {A:Around} {E Q:Value->Shared->Prop}
theorem eR (h:Heap):h.get? h.objs.size=none:=by
 cases e:h.get? h.objs.size with
 |none=>rfl
 |some o=>exact absurd (jJ e) (Nat.lt_irrefl _)
theorem SR.push (r:SR w h₀ s.heap φ μ st) (o:Obj) (hf:o.isFreed=false):
  Ext s {s with heap:=s.heap.push o} φ (fun a=>φ a\/a=s.heap.objs.size) μ μ/\SR w h₀ (s.heap.push o) (fun a=>φ a\/a=s.heap.objs.size) μ st:=
 r.pure (s':={s with heap:=s.heap.push o}) (fun a q e=>gi o e) (fun a f=> .inl f) (fun a f nf=>by
  rcases f with f|rfl
  ·exact absurd f nf
  ·exact ⟨eR _,by show((s.heap.push o).get? _).isSome=true;rw[eE _ hf];rfl⟩) rfl rfl
abbrev bz (w:World) (h₀:Heap) (s:Shared) (φ:Addr->Prop) (μ:List Loc) (aB:St) (v:V) (Q:Value->Shared->Prop):Prop:=
 ∀u s' aD aE,Ext s s' φ aD μ aE->SR w h₀ s'.heap aD aE aB->VR w s'.heap aD aE v u->Q u s'
theorem bz.tok{v:V}{u:Value} (r:SR w h₀ s.heap φ μ st) (p:bz w h₀ s φ μ st v Q) (t:Nat) (x:VR w s.heap φ μ v u):Q u {s with toks:=t}:=p u _ φ μ (Ext.toks t) r x
theorem bz.same{v:V}{u:Value} (r:SR w h₀ s.heap φ μ st) (p:bz w h₀ s φ μ st v Q) (x:VR w s.heap φ μ v u):Q u s:=p u _ φ μ Ext.kH r x
theorem bz.tup{l:List V} {q:Array Value} (r:SR w h₀ s.heap φ μ st) (p:bz w h₀ s φ μ st (.tup l) Q) (x:aJ w s.heap φ μ l q.toList):Q (.ref s.heap.objs.size) {s with heap:=s.heap.push {cls:= .type "tuple",data:= .seq q}}:=by
 refine cA (r.push {cls:= .type "tuple",data:= .seq q} rfl) fun e z=>?_
 exact p _ _ _ _ e z (.tup (.inr rfl) (eE _ rfl) (x.mono (e.mono r)))
theorem bz.lst{l:List V} {q:Array Value} (r:SR w h₀ s.heap φ μ st) (p:bz w h₀ s φ μ st (.lst l) Q) (x:aJ w s.heap φ μ l q.toList):Q (.ref s.heap.objs.size) {s with heap:=s.heap.push {cls:= .type "list",data:= .seq q}}:=by
 refine cA (r.push {cls:= .type "list",data:= .seq q} rfl) fun e z=>?_
 exact p _ _ _ _ e z (.lst (.inr rfl) (eE _ rfl) (x.mono (e.mono r)))
noncomputable def jO:fJ->Operator
 | .add=> .Add| .sub=> .Sub| .mul=> .Mult| .mod=> .Mod| .fdiv=> .FloorDiv| .band=> .BitAnd| .bor=> .BitOr
theorem isEmpty_nil{a:Array Value} {l:List V} (x:aJ w s.heap φ μ l a.toList) (e:a.isEmpty=true):l=[]:=by
 have:=x.length
 rw[Array.isEmpty_iff] at e
 subst e
 exact pF.mp this
theorem G2 (a b:Nat):Builtin.bitAnd (Int.ofNat a) (Int.ofNat b)=Int.ofNat (Nat.land a b):=by rfl
inductive OB {α β:Type} (o:Option α) (f:α->Option β) (p:β):Prop
 |mk (a:α) (h:o=some a) (k:f a=some p)
theorem g6{α β:Type} {o:Option α} {f:α->Option β} {p:β} (e:o.bind f=some p):OB o f p:=by
 cases o with
 |none=>nomatch e
 |some a=>exact⟨a,rfl,e⟩
theorem Hr{v:V}{i:Int} (h:v.int?=some i):v= .int i:=by cases v<;>(first|exact(aM h).elim|obtain rfl:=aR h|cases h);rfl
theorem Hs{v:V}{l:List V} (h:v.EB=some l):v= .tup l:=by cases v<;>(first|exact(aM h).elim|obtain rfl:=aR h|cases h);rfl
theorem Ao{v:V}{l:List V} (h:v.yF=some l):v= .lst l:=by cases v<;>(first|exact(aM h).elim|obtain rfl:=aR h|cases h);rfl
set_option tactic.hygienic true
theorem oy{v:V}{n:Nat} (h:natOf v=some n):v= .int (Int.ofNat n):=by
 cases v<;>try (exact(aM h).elim;done)
 rename_i i
 cases i<;>(first|exact(aM h).elim|obtain rfl:=aR h|cases h);rfl
theorem VR.r9{i:Int}{u:Value}{h:Heap} (x:VR w h φ μ (.int i) u):∃t,u= .int i t:=by refine cE (VR.inv x) fun _ q=>?_;obtain rfl:=q;exact⟨_,rfl⟩
theorem oY{a:V}{i:Int}{u:Value}{h:Heap}{G:Prop} (x:VR w h φ μ a u) (e:a.int?=some i) (k:∀t,u= .int i t->G):G:=by
 cases Hr e
 exact x.r9.elim k
theorem rL{a b c:V} {u t:Value} {h:Heap} {f:Int->Int->Option V} {G:Prop} (e:pW a b f=some c) (x:VR w h φ μ a u) (y:VR w h φ μ b t) (k:∀i j d g,u= .int i d->t= .int j g->f i j=some c->G):G:=by
 obtain⟨i,l,e⟩:=g6 e
 obtain⟨j,m,e⟩:=g6 e
 exact oY x l fun d n=>oY y m fun g o=>k i j d g n o e
set_option tactic.hygienic true
theorem G3{l m:List V} {u t:Value} (r:SR w h₀ s.heap φ μ st) (x:VR w s.heap φ μ (.tup l) u) (y:VR w s.heap φ μ (.tup m) t) (hz:l.length+m.length<=1048576) (p:bz w h₀ s φ μ st (.tup (l++m)) Q):wpAny (model aF w) A (binaryOp .Add u t) Q E s:=by
 obtain⟨f,ha,hx⟩:=VR.inv x
 cases y with
 |tup g hb hy=>
 have l1:=hx.length
 have l2:=hy.length
 rename_i a1 i1 n1 a2 i2 n2
 by_cases e1:i1.isEmpty=true
 ·have:=isEmpty_nil hx e1
  subst this
  exact concat_meets ⟨_,ha,rfl⟩ ⟨_,hb,rfl⟩ noFill_tuple_add seq_tuple_add F.slot_tuple_add F.entry_tuple_add (F.args_tuple_add_2 _ _) (AutoSeq1.tuple___add___tuple_tuple_0 _ _ _ _ _ _ e1) ⟨ha,hb,p.same r (.tup g hb hy)⟩
 ·by_cases e2:i2.isEmpty=true
  ·have:=isEmpty_nil hy e2
   subst this
   rw[cP] at p
   exact concat_meets ⟨_,ha,rfl⟩ ⟨_,hb,rfl⟩ noFill_tuple_add seq_tuple_add F.slot_tuple_add F.entry_tuple_add (F.args_tuple_add_2 _ _) (AutoSeq1.tuple___add___tuple_tuple_1 _ _ _ _ _ _ e1 e2) ⟨ha,hb,p.same r (.tup f ha hx)⟩
  ·refine P.add_tuple ha hb e1 e2 (p.tup r (by rw[sy];exact hx.append hy)) ?_
   rw[sizeLine_eq];simp only[dU] at l1 l2;exact zl hz l1 l2
theorem G4{l m:List V} {u t:Value} (r:SR w h₀ s.heap φ μ st) (x:VR w s.heap φ μ (.lst l) u) (y:VR w s.heap φ μ (.lst m) t) (hz:l.length+m.length<=1048576) (p:bz w h₀ s φ μ st (.lst (l++m)) Q):wpAny (model aF w) A (binaryOp .Add u t) Q E s:=by
 obtain⟨f,d,a⟩:=VR.inv x
 cases y with
 |lst g e b=>
 have l1:=a.length
 have c:=b.length
 refine P.add_list d e (p.lst r (by rw[sy];exact a.append b)) ?_
 rw[sizeLine_eq];simp only[dU] at l1 c;exact zl hz l1 c
theorem j1{α:Type}{c:Prop} [Decidable c] {a b:α} (h:(if c then some a else none)=some b):c/\a=b:=by
 by_cases q:c
 ·rw[if_pos q] at h;exact⟨q,aR h⟩
 ·rw[if_neg q] at h;nomatch h
theorem Jj{o:fJ}{a b c:V} {u t:Value} (e:gu o a b=some c) (r:SR w h₀ s.heap φ μ st) (x:VR w s.heap φ μ a u) (y:VR w s.heap φ μ b t) (hm:o≠.mul) (p:bz w h₀ s φ μ st c Q):
  wpAny (model aF w) A (binaryOp (jO o) u t) Q E s:=by
 cases o with
 |add=>
  change EC a b=_ at e
  cases a<;>try (exact(aM e).elim;done)
  ·obtain ⟨j,f,e⟩:=g6 e
   obtain⟨h,rfl⟩:=x.r9
   refine oY y f fun k d=>?_
   obtain rfl:=aR e;subst d
   exact add_int (p.tok r _ (.int _ _))
  ·obtain ⟨m,f,e⟩:=g6 e
   cases Hs f
   obtain⟨hz,rfl⟩:=j1 e
   exact G3 r x y hz p
  ·obtain ⟨m,f,e⟩:=g6 e
   cases Ao f
   obtain⟨hz,rfl⟩:=j1 e
   exact G4 r x y hz p
 |sub=>exact rL e x y fun i j h k g d e=>by subst g d;obtain rfl:=aR e;exact sub_int (p.tok r _ (.int _ _))
 |mul=>exact absurd rfl hm
 |mod=>exact rL e x y fun i j h k g d e=>by subst g d;obtain⟨l,rfl⟩:=j1 e;exact mod_int' (WJ l) (p.tok r _ (.int _ _))
 |fdiv=>exact rL e x y fun i j h k g d e=>by subst g d;obtain⟨l,rfl⟩:=j1 e;exact floordiv_int (WK l) (p.tok r _ (.int _ _)) (Or.inl (PyProof.noPylong_small (by omega)))
 |band=>
  obtain⟨i,n,e⟩:=g6 e
  obtain⟨j,f,e⟩:=g6 e
  cases oy n;cases oy f
  obtain⟨h,rfl⟩:=x.r9
  obtain⟨k,rfl⟩:=y.r9
  obtain rfl:=aR e
  exact and_int (p.tok r _ (by rw[G2];exact .int _ _))
 |bor=>exact rL e x y fun i j h k g d e=>by subst g d;obtain⟨⟨rfl,rfl⟩,rfl⟩:=j1 e;exact or_int (p.tok r _ (by exact .int _ _))
theorem qX{v:V} (h:v.plain=true) (d:v.deep<=60):SeqAt.shaped (eh v)=true:=by
 have q:=mE v h
 unfold SeqAt.shaped
 rw[q.1,Bool.true_and]
 exact decide_eq_true (by omega)
theorem H7{a b:V} {u t:Value} (x:VR w s.heap φ μ a u) (y:VR w s.heap φ μ b t) (c:a.plain=true) (d:b.plain=true) (e:a.deep<=60) (f:b.deep<=60) (hu:A.units+64<cLine)
  (q:Q (.bool (V.beq a b)) s):wpAny (model aF w) A (compareOp .Eq u t) Q E s:=by
 obtain⟨as,g⟩:=x.reads c
 obtain⟨i,h⟩:=y.reads d
 exact eq_dataH g h (qX c e) (qX d f) hu (by rw[rz a b c d];exact q)
theorem H8{a b:V} {u t:Value} (x:VR w s.heap φ μ a u) (y:VR w s.heap φ μ b t) (c:a.plain=true) (d:b.plain=true) (e:a.deep<=60) (f:b.deep<=60) (hu:A.units+64<cLine)
  (q:Q (.bool (!V.beq a b)) s):wpAny (model aF w) A (compareOp .NotEq u t) Q E s:=by
 refine cE (x.reads c) fun as g=>?_
 refine cE (y.reads d) fun i h=>?_
 exact ne_dataH g h (qX c e) (qX d f) hu (by rw[rz a b c d];exact q)
theorem AW{a b:V} {r:Bool} (e:V.eq a b=some r):(a.plain=true/\b.plain=true/\r=V.beq a b)\/∃p q,a= .bool p/\b= .bool q/\r=(p==q):=by
 have gen:∀{a b},(if V.plain a&&V.plain b then some (V.beq a b) else none)=some r->a.plain=true/\b.plain=true/\r=V.beq a b:=fun e=>cA (j1 e) fun h q=>⟨(cf h).1,(cf h).2,q.symm⟩
 cases a with
 |bool p=>cases b with
  |bool q=>exact .inr ⟨_,_,rfl,rfl,(aR e).symm⟩
  |_=>exact .inl (gen e)
 |none=>cases b with
  |none|int=>exact .inl ⟨rfl,rfl,(aR e).symm⟩
  |_=>exact .inl (gen e)
 |int=>cases b with
  |none|int=>exact .inl ⟨rfl,rfl,(aR e).symm⟩
  |_=>exact .inl (gen e)
 |_=>exact .inl (gen e)
theorem KY{a b:V} {u t:Value} {r:Bool} (e:V.eq a b=some r) (R:SR w h₀ s.heap φ μ st) (x:VR w s.heap φ μ a u) (y:VR w s.heap φ μ b t) (f:a.deep<=60) (g:b.deep<=60) (hu:A.units+64<cLine)
  (p:bz w h₀ s φ μ st (.bool r) Q):wpAny (model aF w) A (compareOp .Eq u t) Q E s:=by
 rcases AW e with⟨h,i,rfl⟩|⟨c,d,rfl,rfl,rfl⟩
 ·exact H7 x y h i f g hu (p.same R (.bool _))
 ·obtain rfl:=VR.inv x;obtain rfl:=VR.inv y;exact eq_bool (p.same R (.bool _))
theorem KZ{a b:V} {u t:Value} {r:Bool} (e:V.eq a b=some r) (R:SR w h₀ s.heap φ μ st) (x:VR w s.heap φ μ a u) (y:VR w s.heap φ μ b t) (f:a.deep<=60) (g:b.deep<=60) (hu:A.units+64<cLine)
  (p:bz w h₀ s φ μ st (.bool (!r)) Q):wpAny (model aF w) A (compareOp .NotEq u t) Q E s:=by
 rcases AW e with⟨h,i,rfl⟩|⟨c,d,rfl,rfl,rfl⟩
 ·exact H8 x y h i f g hu (p.same R (.bool _))
 ·obtain rfl:=VR.inv x;obtain rfl:=VR.inv y;exact ne_bool (p.same R (.bool _))
variable {h:Heap}
inductive OR (w:World) (h:Heap) (φ:Addr->Prop) (μ:List Loc):Option V->Option Value->Prop
 |none:OR w h φ μ none none
 |some {x:V} {v:Value}:VR w h φ μ x v->OR w h φ μ (some x) (some v)
theorem B9{a k b:V} {r:List (V×V)} {c:Bool} (h:V.dX a k=some c):look k ((a,b)::r)=if c then some (some b) else look k r:=by
 show(match V.dX a k with|some true=>some (some b)|some false=>look k r|Option.none=>Option.none)=_
 rw[h];cases c<;>rfl
theorem map_nil{α β:Type} {f:α->β} {l:List α} (e:l.map f=[]):l=[]:=List.map_eq_nil_iff.mp e
theorem uE{K K' β:Type} [DecidableEq K'] {kV:K->V} {m:K->K'} {q:V} {t:K'} {kx:β->K'} {val:β->Value} (ks:List (K×V)) (H:∀p∈ks,V.dX (kV p.1) q=some (decide (m p.1=t))):
  ∀xs:List β,xs.map kx=ks.map (fun p=>m p.1)->aJ w h φ μ (ks.map (·.2)) (xs.map val)->∃r,look q (ks.map fun p=>(kV p.1,p.2))=some r/\OR w h φ μ r ((xs.find? fun y=>decide (kx y=t)).map val):=by
 induction ks with
 |nil=>intro xs e _;obtain rfl:=map_nil e;exact⟨none,rfl,.none⟩
 |cons p ks ih=>
  intro xs e v
  cases xs with
  |nil=>exact nomatch e
  |cons y ys=>
   obtain⟨e1,e2⟩:=gm e
   cases v with
   |cons v1 v2=>
   have hp:=H p (.head _)
   by_cases c:m p.1=t
   ·rw[decide_eq_true c] at hp
    exact⟨some p.2,B9 hp,by rw[List.find?_cons_of_pos (p:=fun y=>decide (kx y=t)) (decide_eq_true (e1.trans c))];exact .some v1⟩
   ·rw[decide_eq_false c] at hp
    obtain⟨r,h1,h2⟩:=ih (fun p hp=>H p (.tail _ hp)) ys e2 v2
    exact⟨r,(B9 hp).trans h1,by rw[List.find?_cons_of_neg (p:=fun y=>decide (kx y=t)) (fun q=>c (e1.symm.trans (of_decide_eq_true q)))];exact h2⟩
structure ic (w:World) (h:Heap) (φ:Addr->Prop) (μ:List Loc) (a:Addr) (u:Value) (r:Option V):Prop where
 ask:(∃(i:Int) (t:Tok) (kvs:List (Int×Value)),u= .int i t/\h.DictOf (intKind aF w) a kvs/\OR w h φ μ r (valueAt kvs i))\/
  (∃(x:Str) (t:Tok) (kvs:List (Str×Value)),u= .str x t/\h.DictOf (strKind aF w) a kvs/\OR w h φ μ r (valueAt kvs x))
theorem ov{K K':Type} [DecidableEq K] [DecidableEq K'] {k:KeyKind aF w K} {c:KeyKind aF w K'} {a:Addr} (d:h.DictOf k a []):h.DictOf c a []:=by
 obtain⟨o,⟨l⟩,f,ho,b,hd,_,g,_⟩:=d
 cases g
 exact⟨o,#[],f,ho,b,hd,fun e b=>(Array.not_mem_empty e b).elim,.nil,.nil⟩
theorem mA{K':Type} [DecidableEq K'] {c:KeyKind aF w K'} {a:Addr} (d:h.DictOfH (h8 w) a []):h.DictOf c a []:=by
 obtain⟨o,⟨l⟩,f,ho,b,hd,hl,_,_⟩:=d
 obtain rfl:l=[]:=hl
 exact⟨o,#[],f,ho,b,hd,fun e b=>(Array.not_mem_empty e b).elim,.nil,.nil⟩
theorem qZ{K:Type} [DecidableEq K] {k:KeyKind aF w K} {a:Addr} (d:h.DictOf k a []):h.DictOfH (h8 w) a []:=by
 obtain⟨o,⟨l⟩,c,ho,b,hd,_,f,_⟩:=d
 cases f
 exact⟨o,#[],c,ho,b,hd,rfl,fun e b=>(cp b).elim,.nil⟩
theorem Jk (m:List V):m.all (fun y=>match y with| .int _=>true|_=>false)=true->∃l:List Int,m=l.map .int:=by
 induction m with
 |nil=>exact fun _=>⟨[],rfl⟩
 |cons y m ih=>
  intro h
  rw[List.all_cons] at h
  obtain⟨a,b⟩:=bK.mp h
  obtain⟨l,rfl⟩:=ih b
  cases y with
  |int i=>exact⟨i::l,rfl⟩
  |_=>exact(aL a).elim
theorem AX{l:List V}:keyOk (.tup l)=true->∃k:TK,l=k.map fL:=by
 induction l with
 |nil=>exact fun _=>⟨[],rfl⟩
 |cons x l ih=>
  intro e
  unfold keyOk at e
  dsimp only at e
  rw[List.all_cons] at e
  obtain⟨e1,e2⟩:=bK.mp e
  obtain⟨k,rfl⟩:=ih e2
  cases x with
  |int i=>exact⟨.inl i::k,rfl⟩
  |tup m=>obtain⟨l,rfl⟩:=Jk m e1;exact⟨.inr l::k,rfl⟩
  |_=>exact(aL e1).elim
theorem Ca (x y:TK):V.dX (dR x) (dR y)=some (decide (x=y)):=by
 show(if(V.bG (x.map fL)&&V.bG (y.map fL))=true then some (V.eX (x.map fL) (y.map fL)) else none)=_
 rw[qY,qY,BC];rfl
theorem Jl (k:TK) (ks:List (TK×V)) (a:List (TK×Addr×Value)) (e:a.map (·.1)=ks.map (·.1)) (v:aJ w h φ μ (ks.map (·.2)) (a.map (·.2.2))):
  ∃r,look (dR k) (ks.map sT)=some r/\OR w h φ μ r ((atKey a k).map (·.2)):=by
 rw[atKey,Option.map_map]
 exact uE (kV:=dR) (m:=fun x=>x) ks (fun p _=>Ca p.1 k) a e v
theorem BD{a i:Nat} (ha:a<104) (hi:i<104):V.dX (.str a) (.str i)=some (decide (nm a=nm i)):=
 (if_pos ⟨ha,hi⟩).trans (congrArg some (Bool.eq_iff_iff.mpr ⟨fun q=>decide_eq_true (congrArg nm (eq_of_beq q)),fun q=>beq_iff_eq.mpr (rK ha hi (of_decide_eq_true q))⟩))
theorem DR.key{a:Addr}{l:List (V×V)} {k:V} {u:Value} {r:Option V} (d:DR w h φ μ a l) (x:VR w h φ μ k u) (hk:isKey k=true) (e:look k l=some r):ic w h φ μ a u r:=by
 have i0:∀i t,h.DictOf (intKind aF w) a []->ic w h φ μ a (.int i t) none:=fun i t q=>⟨.inl ⟨i,t,[],rfl,q,.none⟩⟩
 have s0:∀i t,h.DictOf (strKind aF w) a []->ic w h φ μ a (.str i t) none:=fun i t q=>⟨.inr ⟨i,t,[],rfl,q,.none⟩⟩
 cases k with
 |int i=>
  obtain⟨t,rfl⟩:=x.inv
  cases d with
  |int ks kvs q e1 v=>
   obtain⟨r',h1,h2⟩:=uE (kV:=V.int) (m:=fun x=>x) (q:= .int i) (t:=i) ks (fun p _=>rfl) kvs e1 v
   obtain rfl:=aR (h1.symm.trans e)
   exact⟨.inl ⟨i,t,kvs,rfl,q,h2⟩⟩
  |str ks kvs q e1 z v=>
   cases ks with
   |nil=>obtain rfl:=map_nil e1;obtain rfl:=aR e;exact i0 _ _ (ov q)
   |cons p ks=>exact(aM e).elim
  |tup ks xs q e1 _ v=>
   cases ks with
   |nil=>obtain rfl:=map_nil e1;obtain rfl:=aR e;exact i0 _ _ (mA q)
   |cons p ks=>exact(aM e).elim
 |str i=>
  obtain⟨t,rfl⟩:=x.inv
  cases d with
  |int ks kvs q e1 v=>
   cases ks with
   |nil=>obtain rfl:=map_nil e1;obtain rfl:=aR e;exact s0 _ _ (ov q)
   |cons p ks=>exact(aM e).elim
  |str ks kvs q e1 z v=>
   by_cases hi:i<104
   ·obtain ⟨r',h1,h2⟩:=uE (kV:=V.str) (m:=nm) (q:= .str i) (t:=nm i) ks (fun p hp=>BD (z p hp) hi) kvs e1 v
    obtain rfl:=aR (h1.symm.trans e)
    exact⟨.inr ⟨_,t,kvs,rfl,q,h2⟩⟩
   ·cases ks with
    |nil=>obtain rfl:=map_nil e1;obtain rfl:=aR e;exact s0 _ _ q
    |cons p ks=>
     have:V.dX (.str p.1) (.str i)=none:=if_neg fun q=>hi q.2
     have e:(match V.dX (.str p.1) (.str i) with|some true=>some (some p.2)|some false=>look (.str i) (ks.map sU)|Option.none=>Option.none)=some r:=e
     rw[this] at e
     exact(aM e).elim
  |tup ks xs q e1 _ v=>
   cases ks with
   |nil=>obtain rfl:=map_nil e1;obtain rfl:=aR e;exact s0 _ _ (mA q)
   |cons p ks=>exact(aM e).elim
 |_=>exact(aL hk).elim
theorem Ap{α:Type} (k:V) (f:α->V) (is:List α):∀(vs:List V),is.length=vs.length->lI k (is.map f) vs=look k ((is.zip vs).map fun p=>(f p.1,p.2)):=by
 induction is with
 |nil=>intro vs e;cases vs with
  |nil=>rfl
  |cons=>exact nomatch e
 |cons i is ih=>intro vs e;cases vs with
  |nil=>exact nomatch e
  |cons v vs=>
   exact congrArg (fun z=>match V.dX (f i) k with|some true=>some (some v)|some false=>z|Option.none=>Option.none) (ih vs (pG e))
theorem rA{α β:Type} (a:List α) (b:List β) (h:a.length=b.length):(a.zip b).map (·.1)=a:=List.map_fst_zip (bt h)
theorem uU{α β:Type} (a:List α) (b:List β) (h:a.length=b.length):(a.zip b).map (·.2)=b:=List.map_snd_zip (bt h.symm)
theorem map_len{α β:Type} {is:List α} {ys:List β} {kvs:List (β×Value)} {vs:List V} {f:α->β} (v:aJ w h φ μ vs (kvs.map (·.2))) (c:kvs.map (·.1)=is.map f):is.length=vs.length:=by
 have a:=v.length
 have b:=congrArg List.length c
 rw[eU,eU] at b
 rw[eU] at a
 exact(a.trans b).symm
theorem VR.vR{ks vs:List V} {k:V} {a u:Value} {r:Option V} (d:VR w h φ μ (.bZ ks vs) a) (x:VR w h φ μ k u) (C:isKey k=true) (e:lI k ks vs=some r):∃b,a= .ref b/\φ b/\ic w h φ μ b u r:=by
 cases d with
 |bZ is f q A v=>
  have hl:is.length=vs.length:=map_len (ys:=is) (f:=fun x=>x) v (A.trans (List.map_id' _).symm)
  rw[Ap k V.int is vs hl] at e
  exact⟨_,rfl,f,DR.key (.int (is.zip vs) _ q (by rw[rA _ _ hl];exact A) (by rw[uU _ _ hl];exact v)) x C e⟩
 |nV is f q A z v=>
  have hl:is.length=vs.length:=map_len (ys:=[nm 0]) v A
  rw[Ap k V.str is vs hl] at e
  refine⟨_,rfl,f,DR.key (.str (is.zip vs) _ q ?_ (fun p E=>z _ (List.of_mem_zip (a:=p.1) (b:=p.2) E).1) (by rw[uU _ _ hl];exact v)) x C e⟩
  have D:=congrArg (List.map nm) (rA is vs hl)
  rw[kj] at D
  rw[A];exact D.symm
theorem OR.isSome{r:Option V} {v:Option Value} (x:OR w h φ μ r v):v.isSome=r.isSome:=by cases x<;>rfl
theorem Cb{a:Addr}{u:Value}{r:Option V} (R:SR w h₀ s.heap φ μ st) (x:ic w s.heap φ μ a u r) (b:(a==sysModules)=false) (p:bz w h₀ s φ μ st (.bool r.isSome) Q):
  wpAny (model aF w) A (compareOp .In u (.ref a)) Q E s:=by
 rcases x.ask with⟨i,t,kvs,rfl,d,o⟩|⟨i,t,kvs,rfl,d,o⟩
 ·exact wpAny_in_of (intKind_is aF w i t) b d.mapOf (by rw[o.isSome];exact p.tok R _ (.bool _))
 ·exact wpAny_in_of (strKind_is aF w i t) b d.mapOf (by rw[o.isSome];exact p.tok R _ (.bool _))
theorem Aq{a:Addr}{u:Value}{r:Option V} (R:SR w h₀ s.heap φ μ st) (x:ic w s.heap φ μ a u r) (b:(a==sysModules)=false) (p:bz w h₀ s φ μ st (.bool (!r.isSome)) Q):
  wpAny (model aF w) A (compareOp .NotIn u (.ref a)) Q E s:=by
 rcases x.ask with⟨i,t,kvs,rfl,d,o⟩|⟨i,t,kvs,rfl,d,o⟩
 ·exact wpAny_notIn_of (intKind_is aF w i t) b d.mapOf (by rw[o.isSome];exact p.tok R _ (.bool _))
 ·exact wpAny_notIn_of (strKind_is aF w i t) b d.mapOf (by rw[o.isSome];exact p.tok R _ (.bool _))
theorem SR.lC (R:SR w h₀ h φ μ st) {a:Addr} (f:φ a):(a==sysModules)=false:=by
 rw[beq_eq_false_iff_ne];rintro rfl;exact R.sys.1 f
theorem SR.rB (R:SR w h₀ h φ μ st) {a:Addr} (f:a∈di μ):(a==sysModules)=false:=by
 rw[beq_eq_false_iff_ne];rintro rfl
 have:=R.sys.2
 rw[(R.off _ f).2.1] at this;exact(aL this).elim
theorem ZJ (i:Nat) (st:St):cU i st=(st[i]?).map fun o=>(o,st):=rfl
theorem ZK{α:Type} (x:Option α) (st:St):lift x st=x.map fun a=>(a,st):=rfl
theorem fZ{α β:Type} (x:M α) (f:α->M β) (st:St):(x>>=f) st=(x st).bind fun p=>f p.1 p.2:=rfl
theorem pure_run{α:Type} (a:α) (st:St):(pure a:M α) st=some (a,st):=rfl
theorem ZL{α:Type} (st:St):(fail:M α) st=none:=rfl
inductive BS {α β:Type} (x:M α) (f:α->M β) (st:St) (p:β×St):Prop
 |mk (a:α) (eA:St) (h:x st=some (a,eA)) (k:f a eA=some p)
theorem fM{α β:Type} {x:M α} {f:α->M β} {st:St} {p:β×St} {C:Prop} (e:(x>>=f) st=some p) (k:∀a b,x st=some (a,b)->f a b=some p->C):C:=by
 rw[fZ] at e
 cases h:x st with
 |none=>rw[h] at e;exact(aM e).elim
 |some q=>rw[h] at e;exact k q.1 q.2 h e
theorem bind_some{α β:Type} {x:M α} {f:α->M β} {st aB:St} {b:β} (e:(x>>=f) st=some (b,aB)):BS x f st (b,aB):=fM e fun a c h k=>⟨a,c,h,k⟩
theorem fu{α β:Type} {x:Option α} {f:α->β} {b:β} {C:Prop} (e:x.map f=some b) (k:∀a,x=some a->f a=b->C):C:=by
 cases x with
 |none=>exact(aM e).elim
 |some a=>exact k a rfl (aR e)
theorem oz{i:Nat}{st aB:St} {o:Ob} (e:cU i st=some (o,aB)):aB=st/\st[i]?=some o:=
 fu e fun _ b a=>⟨(gg a).2.symm,(gg a).1▸b⟩
theorem cX{α:Type}{x:Option α} {st aB:St} {a:α} (e:lift x st=some (a,aB)):aB=st/\x=some a:=
 fu e fun _ c b=>⟨(gg b).2.symm,(gg b).1▸c⟩
theorem k8{α:Type}{i:Nat}{f:Ob->M α} {st:St} {p:α×St} {C:Prop} (e:(cU i>>=f) st=some p) (k:∀o,st[i]?=some o->f o st=some p->C):C:=
 fM e fun _ _ h e=>fu h fun o a b=>k o a (by obtain⟨rfl,rfl⟩:=gg b;exact e)
theorem aab{α β:Type} {x:Option β} {f:β->M α} {st:St} {p:α×St} {C:Prop} (e:(lift x>>=f) st=some p) (k:∀o,x=some o->f o st=some p->C):C:=
 fM e fun _ _ h e=>fu h fun o a b=>k o a (by obtain⟨rfl,rfl⟩:=gg b;exact e)
theorem jz{K:cF}{e:Env}{x:Ex}{l:List Ex} {st aB:St} {fl:List V} {C:Prop} (h:cJ K e (x::l) st=some (fl,aB)) (k:∀v a os,aG K e x st=some (v,a)->cJ K e l a=some (os,aB)->fl=v::os->C):C:=
 fM (x:=aG K e x) (f:=fun v=>cJ K e l>>=fun os=>pure (v::os)) h fun v a d z=>fM z fun os b g c=>k v a os d ((br c).2▸g) (br c).1.symm
theorem Jm{K:cF}{e:Env}{x:Ex}{l:List Ex} {st a aB:St} {v:V} {os:List V} (b:aG K e x st=some (v,a)) (c:cJ K e l a=some (os,aB)):cJ K e (x::l) st=some (v::os,aB):=by
 show(aG K e x>>=fun v=>cJ K e l>>=fun os=>pure (v::os)) st=_
 rw[fZ,b]
 show(cJ K e l>>=_) a=_
 rw[fZ,c];rfl
theorem Cc{k v a b:V} {r:List (V×V)} (h:V.dX a k=some true):bY k v ((a,b)::r)=some ((a,v)::r):=by
 show(match V.dX a k with|some true=>some ((a,v)::r)|some false=>(bY k v r).map ((a,b)::·)|Option.none=>Option.none)=_
 rw[h]
theorem vS{k v a b:V} {r:List (V×V)} (h:V.dX a k=some false):bY k v ((a,b)::r)=(bY k v r).map ((a,b)::·):=by
 show(match V.dX a k with|some true=>some ((a,v)::r)|some false=>(bY k v r).map ((a,b)::·)|Option.none=>Option.none)=_
 rw[h]
theorem Cd{k v a b:V} {r l':List (V×V)} {C:Prop} (h:bY k v ((a,b)::r)=some l') (e:V.dX a k=some true->l'=(a,v)::r->C) (f:V.dX a k=some false->∀d,bY k v r=some d->l'=(a,b)::d->C):C:=by
 cases q:V.dX a k with
 |none=>
  have h:(match V.dX a k with|some true=>some ((a,v)::r)|some false=>(bY k v r).map ((a,b)::·)|Option.none=>Option.none)=some l':=h
  rw[q] at h;exact(aM h).elim
 |some c=>
  cases c with
  |true=>exact e q (aR (h.symm.trans (Cc q)))
  |false=>exact fu ((vS q).symm.trans h) fun d g i=>f q d g i.symm
theorem AY{k v:V} (l:List (V×V)):∀{l1:List (V×V)},bY k v l=some l1->l1.length<=l.length+1:=by
 induction l with
 |nil=>exact fun h=>aR h▸aO _
 |cons q r ih=>exact fun h=>Cd h (fun _ e=>e▸dZ _) fun _ b a e=>e▸jI (ih a)
noncomputable def flat:List (V×V)->List V
 |[]=>[]
 |p::r=>p.1::p.2::flat r
theorem Ar (r:List (V×V)):pairUp (flat r)=some r:=by
 induction r with
 |nil=>rfl
 |cons p r ih=>show(pairUp (flat r)).map _=_;rw[ih];rfl
theorem uF:∀{f:List V} {r:List (V×V)},pairUp f=some r->f=flat r
 |[],_,h=>aR h▸rfl
 |[_],_,h=>(aM h).elim
 |a::b::f,_,h=>fu h fun r c d=>d▸congrArg (fun l=>a::b::l) (uF c)
theorem H9 (r:List (V×V)):(flat r).length=2*r.length:=by
 induction r with
 |nil=>rfl
 |cons p r ih=>exact congrArg (fun n=>n+2) ih
theorem G5{f:List V} {r:List (V×V)} (h:pairUp f=some r):f.length=2*r.length:=uF h▸H9 r
inductive nW (k:V) (st:St):V->Bool->Prop
 |tup (l:List V):k.plain=true->V.bG l=true->k.deep<=60->nW k st (.tup l) (l.any fun x=>V.beq x k)
 |lst (l:List V):k.plain=true->V.bG l=true->k.deep<=60->nW k st (.lst l) (l.any fun x=>V.beq x k)
 |bZ (ks vs:List V) (r:Option V):isKey k=true->lI k ks vs=some r->nW k st (.bZ ks vs) r.isSome
 |obj (i:Nat) (l:List (V×V)) (r:Option V):isKey k=true->st[i]?=some (.dict l)->look k l=some r->nW k st (.obj i) r.isSome
theorem z9{k v:V} {st aB:St} {r:Bool} (e:contains k v st=some (r,aB)):aB=st/\nW k st v r:=by
 cases v with
 |tup l=>exact cA (fk e) fun h e=>cA (br e) fun a b=>by subst a b;exact⟨rfl,.tup _ (cf (cf h).1).1 (cf (cf h).1).2 (of_decide_eq_true (cf h).2)⟩
 |lst l=>exact cA (fk e) fun h e=>cA (br e) fun a b=>by subst a b;exact⟨rfl,.lst _ (cf (cf h).1).1 (cf (cf h).1).2 (of_decide_eq_true (cf h).2)⟩
 |bZ ks vs=>exact cA (fk e) fun h e=>cA (cX e) fun a e=>fu e fun o c b=>by subst a b;exact⟨rfl,.bZ _ _ _ h c⟩
 |obj i=>
  exact k8 e fun o c e=>by
   cases o with
   |dict l=>exact cA (fk e) fun h e=>cA (cX e) fun a e=>fu e fun o d b=>by subst a b;exact⟨rfl,.obj _ _ _ h c d⟩
   |_=>exact(aM e).elim
 |_=>exact(aM e).elim
noncomputable def hJ:Cm->CmpOp
 | .eq=> .Eq| .ne=> .NotEq| .lt=> .Lt| .le=> .LtE| .gt=> .Gt| .ge=> .GtE| .is=> .Is| .iC=> .IsNot| .isin=> .In| .jT=> .NotIn
variable {aB:St}
theorem rC{k:V} (a:k.plain=true) (l:List V):V.bG l=true->((eM l).any fun y=>PyData.eqv y (eh k))=l.any fun x=>V.beq x k:=by
 induction l with
 |nil=>exact fun _=>rfl
 |cons x l ih=>
  intro h
  show(PyData.eqv (eh x) (eh k)||_)=(V.beq x k||_)
  rw[rz x k (gX h).1 a,ih (gX h).2]
set_option tactic.hygienic true
theorem Ce{k v:V} {u t:Value} {r:Bool} (R:SR w h₀ s.heap φ μ st) (x:VR w s.heap φ μ k u) (y:VR w s.heap φ μ v t) (c:nW k st v r) (hu:A.units+64<cLine):
  (bz w h₀ s φ μ st (.bool r) Q->wpAny (model aF w) A (compareOp .In u t) Q E s)/\(bz w h₀ s φ μ st (.bool (!r)) Q->wpAny (model aF w) A (compareOp .NotIn u t) Q E s):=by
 cases c with
 |tup l hk hl hd=>
  refine cE (x.reads hk) fun as ra=>?_
  refine cE (y.reads (v:= .tup l) hl) fun bs rb=>?_
  have q:=mE k hk
  have q2:=(AU l hl).1
  have qs:A.units+1+min (PyData.depthAll (eM l)) (eh k).depth<cLine:=by
   have:=Nat.min_le_right (PyData.depthAll (eM l)) (eh k).depth
   omega
  exact⟨fun p=>SeqAt.in_tuple_reads rb ra q2 q.1 qs (by rw[rC hk _ hl];exact p.same R (.bool _)),fun p=>SeqAt.notIn_tuple_reads rb ra q2 q.1 qs (by rw[rC hk _ hl];exact p.same R (.bool _))⟩
 |lst l hk hl hd=>
  refine cE (x.reads hk) fun as ra=>?_
  refine cE (y.reads (v:= .lst l) hl) fun bs rb=>?_
  have q:=mE k hk
  have q2:=(AU l hl).1
  have qs:A.units+1+min (PyData.depthAll (eM l)) (eh k).depth<cLine:=by
   have:=Nat.min_le_right (PyData.depthAll (eM l)) (eh k).depth
   omega
  exact⟨fun p=>SeqAt.in_list_reads rb ra q2 q.1 qs (by rw[rC hk _ hl];exact p.same R (.bool _)),fun p=>SeqAt.notIn_list_reads rb ra q2 q.1 qs (by rw[rC hk _ hl];exact p.same R (.bool _))⟩
 |bZ ks vs r hk hl=>
  refine dV (VR.vR y x hk hl) fun b K0 f ki=>?_;obtain rfl:=K0
  exact⟨fun p=>Cb R ki (R.lC f) p,fun p=>Aq R ki (R.lC f) p⟩
 |obj i l r hk ho hl=>
  obtain⟨_,e,rfl⟩:=VR.inv y
  rename_i loc
  refine aN (R.obs i _ ho) fun U9 e' q=>?_
  rw[e] at e';obtain rfl:=aR e'
  cases q with
  |dict d _=>
  have ki:=d.key x hk hl
  have ns:=R.rB (iN e).1
  exact⟨fun p=>Cb R ki ns p,fun p=>Aq R ki ns p⟩
inductive Yv (a b:V) (st:St) (p:Bool×St):Prop
 |lst (i:Nat) (l:List V) (ha:a= .obj i) (hb:b= .lst []) (ho:st[i]?=some (.list l)) (hp:p=(l.isEmpty,st))
 |gen (h:tB a b st=some p)
theorem Ht{a b:V} {p:Bool×St} (e:FJ a b st=some p):Yv a b st p:=by
 cases a with
 |obj i=>
  cases b with
  |lst m=>
   cases m with
   |cons=>exact .gen e
   |nil=>
    refine k8 e fun o d c=>?_
    cases o with
    |list=>exact .lst i _ rfl rfl d (aR c).symm
    |_=>exact(aM c).elim
  |_=>exact .gen e
 |_=>exact .gen e
theorem Jn{a b:V} {u t:Value} {r:Bool} (e:tB a b st=some (r,aB)) (R:SR w h₀ s.heap φ μ st) (x:VR w s.heap φ μ a u) (y:VR w s.heap φ μ b t) (hu:A.units+64<cLine)
  (p:bz w h₀ s φ μ aB (.bool r) Q):wpAny (model aF w) A (compareOp .Eq u t) Q E s:=
 cA (fk e) fun h e=>cA (cX e) fun c d=>by subst c;exact KY d R x y h.1 h.2 hu p
theorem Jo{i:Nat}{l:List V} {u t:Value} (h1:st[i]?=some (.list l)) (R:SR w h₀ s.heap φ μ st) (x:VR w s.heap φ μ (.obj i) u) (y:VR w s.heap φ μ (.lst []) t) (hu:A.units+64<cLine) (p:bz w h₀ s φ μ st (.bool l.isEmpty) Q):wpAny (model aF w) A (compareOp .Eq u t) Q E s:=by
 obtain⟨_,e1,rfl⟩:=VR.inv x
 refine aN (R.obs i _ h1) fun U9 e' q=>?_
 rw[e1] at e';obtain rfl:=aR e'
 cases q with
 |list il vl _=>
 obtain⟨_,FN,Yw⟩:=VR.inv y
 have z:=Yw.length
 have z1:=vl.length
 simp only[hI,dU] at z z1
 by_cases q:l=[]
 ·subst q
  simp only[hI] at z1
  refine P.eq_list (e:=fun _=>true) il FN (WL z z1) (fun j h1 _=>absurd h1 (WM z1)) (FE hu) ?_
  rw[<-z1]
  exact p.same R (.bool _)
 ·have q2:l.length≠0:=fun e=>q (pF.mp e)
  refine P.eq_list_lengths il FN (by rw[bne_iff_ne];exact Tv z z1 q2) (FE hu) ?_
  have q3:l.isEmpty=false:=by cases l with|nil=>exact absurd rfl q|cons _ _=>rfl
  rw[q3] at p
  exact p.same R (.bool _)
theorem rf{a b:V} {u t:Value} {f:Int->Int->Bool} {r:Bool} {o:CmpOp} (run:∀i j c d,Q (.bool (f i j)) s->wpAny (model aF w) A (compareOp o (.int i c) (.int j d)) Q E s) (e:pX a b f st=some (r,aB))
  (R:SR w h₀ s.heap φ μ st) (x:VR w s.heap φ μ a u) (y:VR w s.heap φ μ b t) (p:bz w h₀ s φ μ aB (.bool r) Q):wpAny (model aF w) A (compareOp o u t) Q E s:=by
 refine cA (cX e) fun m g=>?_
 obtain⟨i,h,k⟩:=g6 g
 refine fu k fun j l n=>oY x h fun c q=>oY y l fun d v=>?_
 clear e g k h l x y
 subst q v m n
 exact run i j c d (p.same R (.bool _))
theorem VR.jV{v:V}{u:Value} (x:VR w h φ μ v u):(u== .none)=v.jV:=by cases x<;>rfl
theorem AZ{v:V} (h:v.jV=true):v= .none:=by cases v<;>first|rfl|exact(aL h).elim
theorem mF{c:Cm}{a b:V} {u t:Value} {r:Bool} (e:cmp c a b st=some (r,aB)) (R:SR w h₀ s.heap φ μ st) (x:VR w s.heap φ μ a u) (y:VR w s.heap φ μ b t) (hu:A.units+64<cLine)
  (p:bz w h₀ s φ μ aB (.bool r) Q):wpAny (model aF w) A (compareOp (hJ c) u t) Q E s:=by
 cases c with
 |eq=>
  cases Ht e with
  |lst i l n d ho o=>obtain⟨rfl,rfl⟩:=gg o;subst n d;exact Jo ho R x y hu p
  |gen h=>exact Jn h R x y hu p
 |ne=>exact cA (fk e) fun h e=>cA (cX e) fun v z=>fu z fun q f B=>by subst v B;exact KZ f R x y h.1 h.2 hu p
 |lt=>exact rf (fun i j g k q=>lt_int q) e R x y p
 |le=>exact rf (fun i j g k q=>le_int q) e R x y p
 |gt=>exact rf (fun i j g k q=>gt_int q) e R x y p
 |ge=>exact rf (fun i j g k q=>ge_int q) e R x y p
 |is=>
  refine cA (fk e) fun d e=>?_
  obtain rfl:=AZ d;obtain⟨rfl,rfl⟩:=br e;obtain rfl:=VR.inv y
  exact is_none (x.jV▸p.same R (.bool _))
 |iC=>
  refine cA (fk e) fun d e=>?_
  obtain rfl:=AZ d;obtain⟨rfl,rfl⟩:=br e;obtain rfl:=VR.inv y
  exact isNot_none (x.jV▸p.same R (.bool _))
 |isin=>
  obtain⟨rfl,q⟩:=z9 e
  exact(Ce R x y q hu).1 p
 |jT=>
  obtain⟨q,m,f,C⟩:=bind_some e
  obtain⟨rfl,q⟩:=z9 f
  obtain⟨rfl,rfl⟩:=br C
  exact(Ce R x y q hu).2 p
theorem A0{l:List V} {i:Int} {x:V} (e:jm l i=some x):∃n:Nat,i=Int.ofNat n/\n<2147483648/\l[n]?=some x:=by
 cases i with
 |ofNat n=>exact⟨n,rfl,j3 e⟩
 |negSucc=>exact(aM e).elim
theorem GJ{n m:Nat} (h:n<m):seqIndex? (Int.ofNat n) m=some n:=by
 have a:¬Int.ofNat n<0:=Int.not_lt.mpr (hH n)
 unfold seqIndex?
 rw[if_neg a]
 exact if_pos (bK.mpr ⟨decide_eq_true (hH n),decide_eq_true (f9.mpr h)⟩)
theorem item_tup{l:List V} {i:Int} {x:V} {a:Addr} {b:Array Value} {n:Nat} {t:Tok} (ho:IsT s.heap a b n) (v:aJ w s.heap φ μ l b.toList) (R:SR w h₀ s.heap φ μ st) (e:jm l i=some x)
  (p:bz w h₀ s φ μ st x Q):wpAny (model aF w) A (getItem (.ref a) (.int i t)) Q E s:=by
 refine dV (A0 e) fun k c d f=>?_;obtain rfl:=c
 refine aN (v.get f) fun u hu g=>?_
 have e0:Int.ofNat k=(k:Int):=rfl
 have hl:k<b.size:=by
  have:=(et.mp hu).1
  simpa using this
 exact P.getItem_tuple ho (PM e0) (Dg d e0) (GJ hl) (by simpa using hu) (p.same R g)
theorem A1{l:List V} {i:Int} {x:V} {a:Addr} {c:Array Value} {n:Nat} {t:Tok} (ho:IsL s.heap a c n) (v:aJ w s.heap φ μ l c.toList) (R:SR w h₀ s.heap φ μ st) (e:jm l i=some x)
  (p:bz w h₀ s φ μ st x Q):wpAny (model aF w) A (getItem (.ref a) (.int i t)) Q E s:=by
 refine dV (A0 e) fun k b d f=>?_;obtain rfl:=b
 refine aN (v.get f) fun u hu g=>?_
 have e0:Int.ofNat k=(k:Int):=rfl
 exact wpAny_getItem_list ⟨_,ho,rfl,n,rfl⟩ (Tw e0) (Dg d e0) (by simpa using hu) (p.same R g)
theorem A2{a:Addr}{u:Value}{x:V} (R:SR w h₀ s.heap φ μ st) (k:ic w s.heap φ μ a u (some x)) (p:bz w h₀ s φ μ st x Q):wpAny (model aF w) A (getItem (.ref a) u) Q E s:=by
 rcases k.ask with⟨i,t,kvs,rfl,d,o⟩|⟨i,t,kvs,rfl,d,o⟩
 ·generalize b:valueAt kvs i=v at o
  cases o with
  |some y=>exact wpAny_getItem_of (intKind_is aF w i t) d.mapOf b (p.tok R _ y)
 ·generalize b:valueAt kvs i=v at o
  cases o with
  |some y=>exact wpAny_getItem_of (strKind_is aF w i t) d.mapOf b (p.tok R _ y)
def iU (s:Shared) (u:Value):Prop:=∃T id,s.TypeIs u T/\typeLookup (.type T) "__getitem__"=pure (some (.builtin id))
theorem As{a:Addr}{b:Array Value} {n:Nat} (ho:IsT s.heap a b n):iU s (.ref a):=⟨_,_,⟨_,ho,rfl⟩,slot_tuple_getitem.lookup⟩
theorem uw{a:Addr}{b:Array Value} {n:Nat} (ho:IsL s.heap a b n):iU s (.ref a):=⟨_,_,⟨_,ho,rfl⟩,slot_list_getitem.lookup⟩
theorem Hu{K:Type} [DecidableEq K] {k:KeyKind aF w K} {a:Addr} {kvs:List (K×Value)} (d:s.heap.DictOf k a kvs):iU s (.ref a):=⟨_,_,d.mapOf.typeIs,slot_dict_getitem.lookup⟩
theorem Au{a:Addr}{u:Value}{r:Option V} (k:ic w s.heap φ μ a u r):iU s (.ref a):=by
 rcases k.ask with⟨i,t,kvs,rfl,d,o⟩|⟨i,t,kvs,rfl,d,o⟩<;>exact Hu d
theorem A3{a b x:V} {u t:Value} (e:item a b st=some (x,aB)) (R:SR w h₀ s.heap φ μ st) (y:VR w s.heap φ μ a u) (z:VR w s.heap φ μ b t) (p:bz w h₀ s φ μ aB x Q):
  iU s u/\wpAny (model aF w) A (getItem u t) Q E s:=by
 have int:∀{l:List V} {i:Int} (_:lift (jm l i) st=some (x,aB)) (_:VR w s.heap φ μ (.int i) t) (k:∀g,jm l i=some x->bz w h₀ s φ μ st x Q->iU s u/\wpAny (model aF w) A (getItem u (.int i g)) Q E s),iU s u/\wpAny (model aF w) A (getItem u t) Q E s:=
  fun e z k=>cA (cX e) fun h c=>cE (VR.inv z) fun g G=>G▸k g c (h▸p)
 have key:∀{a:Addr} {r:Option (Option V)} (_:lift r.join st=some (x,aB)) (k:r=some (some x)->ic w s.heap φ μ a t (some x)),iU s (.ref a)/\wpAny (model aF w) A (getItem (.ref a) t) Q E s:=
  fun e k=>cA (cX e) fun h c=>have m:=k (Option.join_eq_some_iff.mp c);⟨Au m,A2 R m (h▸p)⟩
 cases a with
 |tup l=>
  cases b with
  |int i=>exact int e z fun g c p=>by obtain⟨f,ho,v⟩:=VR.inv y;exact⟨As ho,item_tup ho v R c p⟩
  |_=>exact(aM e).elim
 |lst l=>
  cases b with
  |int i=>exact int e z fun g c p=>by obtain⟨f,ho,v⟩:=VR.inv y;exact⟨uw ho,A1 ho v R c p⟩
  |_=>exact(aM e).elim
 |bZ ks vs=>
  refine cA (fk e) fun B e=>cA (cX e) fun h c=>dV (VR.vR y z B (Option.join_eq_some_iff.mp c)) fun J H f m=>?_
  exact H▸⟨Au m,A2 R m (h▸p)⟩
 |obj j=>
  refine k8 e fun o C q=>?_
  cases o with
  |list l=>
   cases b with
   |int i=>exact int q z fun g c p=>R.Dq y C fun lc I n hu _ D vl=>hu▸⟨uw D,A1 D vl R c p⟩
   |_=>exact(aM q).elim
  |dict l=>exact cA (fk q) fun B e=>R.QU y C fun lc hu _ d=>hu▸key e fun c=>d.key z B c
  |inst=>exact(aM q).elim
 |_=>exact(aM e).elim
theorem ui{n:Nat}{x:V} (e:small n=some x):x= .int n/\n<2147483648:=cA (j3 e) fun h e=>⟨(aR e).symm,h⟩
theorem Jp{l:List V} {x:V} {a:Addr} {c:Array Value} {n:Nat} (ho:IsT s.heap a c n) (v:aJ w s.heap φ μ l c.toList) (R:SR w h₀ s.heap φ μ st) (e:small l.length=some x)
  (p:bz w h₀ s φ μ st x Q):wpAny (model aF w) A (call (.builtin "len") [.ref a]) Q E s:=by
 refine cA (ui e) fun b h=>?_;obtain rfl:=b
 have hl:=v.length
 simp only[dU] at hl
 exact P.len_tuple ho (Ut h hl) (p.tok R _ (by rw[hl];exact .int _ _))
theorem BE{l:List V} {x:V} {a:Addr} {c:Array Value} {n:Nat} (ho:IsL s.heap a c n) (v:aJ w s.heap φ μ l c.toList) (R:SR w h₀ s.heap φ μ st) (e:small l.length=some x)
  (p:bz w h₀ s φ μ st x Q):wpAny (model aF w) A (call (.builtin "len") [.ref a]) Q E s:=by
 refine cA (ui e) fun b h=>?_;obtain rfl:=b
 have hl:=v.length
 simp only[dU] at hl
 exact len_list ⟨_,ho,rfl,n,rfl⟩ (sH h hl) (p.tok R _ (by rw[hl];exact .int _ _))
theorem K1 (b n:Nat) (a:b<=n):Builtin.Slice.sliceAdjust none (some (b:Int)) 1 (n:Int)=(0,(b:Int)):=by
 unfold Builtin.Slice.sliceAdjust
 have c:¬((1:Int)<0):=by decide
 have d:¬((b:Int)<0):=Int.not_lt.mpr (hH b)
 simp only[c,d,if_false]
 exact congrArg _ (Int.min_eq_left (pz.mpr a))
theorem K2 (b:Nat):Builtin.Slice.slicePlaces 0 (b:Int) 1=b:=by
 unfold Builtin.Slice.slicePlaces
 have a:(1:Int)>0:=by decide
 simp only[a,if_true,Int.ediv_one]
 split<;>omega
theorem K3{sl:Addr}{b n:Nat} {u:Tok} {Q:Int×Int×Nat->Shared->Prop} (d:s.heap.IsSliceOf sl .none (.int b u) .none) (e:b<=n) (h:Q (0,1,b) s):
  wpAny (model aF w) A (Builtin.Slice.sliceApplied (.ref sl) (pure (n:Int))) Q E s:=by
 refine dV (id d) fun os a f c=>?_
 unfold Builtin.Slice.sliceApplied Builtin.Slice.sliceFields
 refine wpAny_bind (wpAny_bind (wpAny_field a c (x:= .none) rfl (wpAny_bind (wpAny_field a c (x:= .int b u) rfl (wpAny_bind (wpAny_field a c (x:= .none) rfl (wpAny_pure ?_)))))))
 refine wpAny_bind (slicePart_none ?_)
 show wpAny _ _ (if((1:Int)==0)=true then _ else _) _ _ s
 rw[if_neg (by decide)]
 refine wpAny_bind (slicePart_none (wpAny_bind (slicePart_int (wpAny_bind (wpAny_pure ?_)))))
 show wpAny _ _ (match Builtin.Slice.sliceAdjust none (some (b:Int)) 1 (n:Int) with|(lo,g)=>pure (lo,(1:Int),Builtin.Slice.slicePlaces lo g 1)) _ _ s
 rw[K1 b n e]
 show wpAny _ _ (pure ((0:Int),(1:Int),Builtin.Slice.slicePlaces 0 (b:Int) 1)) _ _ s
 rw[K2 b]
 exact wpAny_pure h
theorem Jq (a:Array Value) (b:Nat):((List.range b).filterMap fun(k:Nat)=>a[((0:Int)+(k:Int)*1).toNat]?).toArray=(a.toList.take b).toArray:=by
 have e:(fun(k:Nat)=>a[((0:Int)+(k:Int)*1).toNat]?)=fun k=>a[0+k]?:=by
  funext k
  have:((0:Int)+(k:Int)*1).toNat=0+k:=by rw[Int.zero_add,Int.mul_one,dq];rfl
  rw[this]
 rw[e]
 have:=pick_run a 0 b
 rw[List.filterMap_map] at this
 have c:((fun x=>a[x]?)∘fun x=>0+x)=fun k=>a[0+k]?:=rfl
 rw[c] at this
 rw[this,List.drop_zero]
theorem K4{t sl:Addr} {a:Array Value} {b:Nat} {u:Tok} (c:IsTup s.heap t a) (j:s.heap.IsSliceOf sl .none (.int b u) .none) (k:b<a.size)
  (h:Q (.ref s.heap.objs.size) {s with heap:=s.heap.push {cls:= .type "tuple",data:= .seq (a.toList.take b).toArray}}) (d:a.size<=sizeLine):wpAny (model aF w) A (getItem (.ref t) (.ref sl)) Q E s:=by
 have hd:sizeOk (.seq (a.toList.take b).toArray):=by
  show(a.toList.take b).toArray.size<=sizeLine
  rw[List.size_toArray,pH,dU]
  exact Tx d
 refine dV (id j) fun os e f l=>?_
 have g:s.TypeIs (.ref sl) "slice":=⟨os,e,f⟩
 unfold getItem
 try with_reducible refine wpAny_holding ?_
 first|refine wpAny_bind (wpAny_pure ?_)|skip
 refine wpAny_bind (wpAny_sequenceKey c.typeIs (by decide) ?_)
 refine wpAny_bind (wpAny_callSpecial?_slot (name:=Str.ofString "__getitem__") c.typeIs slot_tuple_getitem
  (wpAny_call_entry slot_tuple_getitem c.typeIs entry_tuple_getitem ?_ (args_tuple_getitem _ _)))
 show wpAny _ _ (Builtin.Tuple.tupleItemsOf (.ref t)>>=_) _ _ s
 refine wpAny_bind (tupleItemsOf_ c ?_)
 refine wpAny_bind (wpAny_typeOf g ?_)
 rw[if_pos (by decide)]
 refine wpAny_bind (K3 j (pA k) ?_)
 have i:¬(((0:Int)==0&&(1:Int)==1&&b==a.size)=true):=by
  have:(b==a.size)=false:=by rw[beq_eq_false_iff_ne];exact Tz k
  rw[this];simp
 show wpAny _ _ (if((0:Int)==0&&(1:Int)==1&&b==a.size)=true then _ else _) _ _ s
 rw[if_neg i,Jq a b]
 first
  |exact wpAny_bind (m:=Builtin.Tuple.tupleExact _) (wpAny_newObj_type (wpAny_pure ⟨_,rfl,wpAny_pure h⟩) hd)
  |exact wpAny_bind (m:=Builtin.Tuple.tupleExact _) (wpAny_newObj_type (wpAny_bind (wpAny_pure (wpAny_pure ⟨_,rfl,wpAny_pure h⟩))) hd)
  |exact wpAny_bind (wpAny_bind (m:=Builtin.Tuple.tupleExact _) (wpAny_newObj_type (wpAny_pure (wpAny_pure ⟨_,rfl,wpAny_pure h⟩)) hd))
  |exact wpAny_bind (wpAny_bind (m:=Builtin.Tuple.tupleExact _) (wpAny_newObj_type (wpAny_pure ⟨_,rfl,wpAny_pure h⟩) hd))
inductive hB:Option Nat->Value->Prop
 |none:hB none .none
 |some (n:Nat) (t:Tok):hB (some n) (.int (Int.ofNat n) t)
theorem hB.part{o:Option Nat} {v:Value} (p:hB o v):IsPart v (o.map fun n=>(n:Int)):=by
 cases p with
 |none=>exact .none
 |some n t=>exact .int _ t
theorem Ia{l:List V} {lo c:Option Nat} {r:List V} {a sl:Addr} {b:Array Value} {n:Nat} {vl f:Value} (R:SR w h₀ s.heap φ μ st) (ho:IsL s.heap a b n) (v:aJ w s.heap φ μ l b.toList)
  (g:s.heap.IsSliceOf sl vl f .none) (pl:hB lo vl) (h:hB c f) (e:jN l lo c=some r) (p:bz w h₀ s φ μ st (.lst r) Q):wpAny (model aF w) A (getItem (.ref a) (.ref sl)) Q E s:=by
 refine cA (j3 e) fun hz e=>?_
 have hl:l.length=b.size:=v.length
 have d:b.size<=sizeLine:=by rw[sizeLine_eq];exact pQ hz hl
 refine wpAny_getItem_list_slice ⟨_,ho,rfl,n,rfl⟩ g pl.part h.part .none (by simp) (p.lst R ?_) d
 cases lo with
 |some k=>
  cases c with
  |none=>
   refine cA (j3 e) fun _ e=>aR e▸?_
   show aJ _ _ _ _ _ (slicePick b (some _) none none).toList
   rw[slicePick_from'];exact v.drop _
  |some m=>
   refine cA (j3 e) fun q e=>aR e▸?_
   show aJ _ _ _ _ _ (slicePick b (some _) (some _) none).toList
   rw[slicePick_run b _ _ (hl▸q.2) q.1];exact(v.drop _).take _
 |none=>
  cases c with
  |none=>exact(aM e).elim
  |some m=>
   refine cA (j3 e) fun _ e=>aR e▸?_
   show aJ _ _ _ _ _ (slicePick b none (some _) none).toList
   rw[slicePick_upto'];exact v.take _
theorem Jr{l:List V} {lo c:Option Nat} {r:List V} {a sl:Addr} {b:Array Value} {n:Nat} {vl d:Value} (R:SR w h₀ s.heap φ μ st) (ho:IsT s.heap a b n) (v:aJ w s.heap φ μ l b.toList)
  (f:s.heap.IsSliceOf sl vl d .none) (pl:hB lo vl) (g:hB c d) (e:ED l lo c=some r) (p:bz w h₀ s φ μ st (.tup r) Q):wpAny (model aF w) A (getItem (.ref a) (.ref sl)) Q E s:=by
 have hl:l.length=b.size:=v.length
 cases pl with
 |some k t=>
  cases g with
  |none=>
   refine cA (j3 e) fun q e=>?_
   obtain rfl:=aR e
   exact getItem_tuple_from ⟨_,ho,rfl,n,rfl⟩ f q.1 (TA hl q) (p.tup R (v.drop _)) (by rw[sizeLine_eq];exact TB hl q)
  |some=>exact(aM e).elim
 |none=>
  cases g with
  |none=>exact(aM e).elim
  |some k t=>
   refine cA (j3 e) fun q e=>?_
   obtain rfl:=aR e
   exact K4 ⟨_,ho,rfl,n,rfl⟩ f (TC hl q) (p.tup R (v.take _)) (by rw[sizeLine_eq];exact TF hl q)
theorem Hv{v x:V} {lo j:Option Nat} {u vl m:Value} {sl:Addr} (e:slice v lo j st=some (x,aB)) (R:SR w h₀ s.heap φ μ st) (y:VR w s.heap φ μ v u) (q:s.heap.IsSliceOf sl vl m .none) (pl:hB lo vl) (t:hB j m)
  (p:bz w h₀ s φ μ aB x Q):iU s u/\wpAny (model aF w) A (getItem u (.ref sl)) Q E s:=by
 have lst:∀{l:List V} {a b n} (_:lift ((jN l lo j).map .lst) st=some (x,aB)) (_:IsL s.heap a b n) (_:aJ w s.heap φ μ l b.toList),iU s (.ref a)/\wpAny (model aF w) A (getItem (.ref a) (.ref sl)) Q E s:=
  fun e g v=>cA (cX e) fun h k=>fu k fun r d c=>⟨uw g,Ia R g v q pl t d (c▸h▸p)⟩
 cases v with
 |tup l=>
  refine cA (cX e) fun h k=>fu k fun r d c=>?_
  obtain⟨f,ho,v⟩:=VR.inv y
  exact⟨As ho,Jr R ho v q pl t d (c▸h▸p)⟩
 |lst l=>obtain⟨f,ho,v⟩:=VR.inv y;exact lst e ho v
 |obj i=>
  refine k8 e fun o d c=>?_
  cases o with
  |list l=>exact R.Dq y d fun lc b n hu _ g v=>hu▸lst c g v
  |_=>exact(aM c).elim
 |_=>exact(aM e).elim
noncomputable def kA:List Addr:=[3,0,2,38,51,63,98,210,231,285,377,398,419,480,508,571,723,742,761,785,881,900,926,980,1013,1032,1063,1082,1101,37,50,62,97,209,230,284,376,397,418,479,507,570,722,741,760,784,880,899,925,979,1012,1031,1062,1081,1100,35,81,88,95,207,228,263,270,277,282,374,395,416,477,498,505,526,533,540,547,554,561,568,720,739,758,782,878,897,923,977,1010,1029,1060,1079,1098]
noncomputable def tD:List Addr:=[21,35,81,88,95,109,116,123,130,137,144,151,158,165,172,179,186,193,207,228,242,249,263,270,277,282,374,395,416,430,437,444,451,458,463,477,498,505,526,533,540,547,554,561,568,582,587,594,601,608,615,622,629,638,645,652,657,664,671,678,685,692,699,706,720,739,758,770,782,794,801,808,815,822,829,836,843,850,857,864,878,897,909,923,935,942,949,956,963,977,989,996,1010,1029,1041,1048,1060,1079,1098,1110,1117,1124,1131,1138,1145,1152,1159,1166,1173,1180,1187,1194,1201,1206,1213,1220,1227,1234,1239,1246,1253,1258,1265,1270]
noncomputable def kF (P:Params):Frag:=kA.map fun a=>(a,((ez P).get a).getD default)
theorem oH{o:Obj} (h:(alive o).isSome=true):alive o=some o:=by
 obtain⟨c,d,x,sl⟩:=o
 cases x with
 |freed=>exact(aL h).elim
 |_=>rfl
theorem K5{P:Params}:∀(as:List Addr),(as.all fun a=>Nat.blt a 1271&&((ez P).get a).any (fun o=>(alive o).isSome))=true->Frag.In (as.map fun a=>(a,((ez P).get a).getD default)) (H1 P):=by
 intro as h
 refine Frag.in_of (as:=as) ?_ ?_
 ·rw[kj]
  exact(List.map_id as).symm
 ·rw[kj]
  refine List.map_congr_left fun a b=>?_
  have q:=cG.mp h a b
  refine cA (bK.mp q) fun c d=>?_
  refine aN (any_some d) fun o ho e=>?_
  simp only[Function.comp,ho,Option.getD_some]
  exact j2 c ho (oH e)
theorem QV (P:Params):(kF P).In (H1 P):=K5 kA (by kernel_rfl)
noncomputable def uV (K:Frag) (C:Addr) (f:Str):Bool:=match findIn K (.ref C) f with
 |some a=>noGet K a
 |none=>false
noncomputable def aac (K:Frag) (C:Addr):Bool:=plainGet K C ""&&hasDictIn K C&&findIn K (.ref C) "__setattr__"==some (some (.builtin "object.__setattr__"))&&plainOver K C&&makesIn K C
noncomputable def Hw (K:Frag):Bool:=((dW.zip cy).drop 3).all fun p=>plainGet K p.1 ""&&hasDictIn K p.1
noncomputable def Hx (K:Frag):Bool:=((dW.zip cy).drop 3).all fun p=>findIn K (.ref p.1) "__setattr__"==some (some (.builtin "object.__setattr__"))&&plainOver K p.1
noncomputable def Hz (K:Frag):Bool:=((dW.zip cy).drop 3).all fun p=>makesIn K p.1
noncomputable def HA (K:Frag):Bool:=((dW.zip cy).drop 3).all fun p=>p.2.all fun f=>uV K p.1 (nm f)
noncomputable def HB (K:Frag):Bool:=((dW.zip cy).drop 3).all fun p=>p.2.all fun f=>takerIn K p.1 (nm f)==some none
theorem Ae (P:Params):Hw (kF P)=true:=by kernel_rfl
theorem G6 (P:Params):Hx (kF P)=true:=by kernel_rfl
theorem Af (P:Params):Hz (kF P)=true:=by kernel_rfl
theorem G7 (P:Params):HA (kF P)=true:=by kernel_rfl
theorem G8 (P:Params):HB (kF P)=true:=by kernel_rfl
theorem SR.upd{i:Nat}{l:Loc}{ob:Ob}{h':Heap}{t:Nat} (R:SR w h₀ s.heap φ μ st) (hl:μ[i]?=some l) (k:∀a,a≠l.a->a≠l.d->h'.get? a=s.heap.get? a) (la:(h'.get? l.a).isSome=true) (ld:(h'.get? l.d).isSome=true)
  (ho:cN s.heap h' φ φ μ μ->e8 w h' φ μ l ob):Ext s {s with heap:=h',toks:=t} φ φ μ μ/\SR w h₀ h' φ μ (st.set i ob):=by
 refine cA (iN hl) fun m1 m2=>?_
 have kp:∀a o,s.heap.get? a=some o->a∉di μ->h'.get? a=some o:=fun a o e n=>(k a (fun q=>n (q▸m1)) (fun q=>n (q▸m2))).trans e
 have lv:∀a,(s.heap.get? a).isSome=true->(h'.get? a).isSome=true:=fun a e=>by
  by_cases q1:a=l.a
  ·rw[q1];exact la
  ·by_cases q2:a=l.d
   ·rw[q2];exact ld
   ·rw[k a q1 q2];exact e
 have x:Ext s {s with heap:=h',toks:=t} φ φ μ μ:=⟨kp,lv,fun _ e=>e,fun _ e n=>absurd e n,⟨[],by simp,by simp[di]⟩,rfl,rfl⟩
 have mo:=x.mono R
 refine⟨x,fun a o e=>x.base R a o e,by rw[List.length_set];exact R.len,fun j Yx e=>?_,fun a ha=>?_,R.apart,fun a f=>lv a (R.fz a f),R.sys⟩
 ·rw[List.getElem?_set] at e
  split at e
  ·rename_i ij
   subst ij
   split at e
   ·obtain rfl:=aR e;exact⟨l,hl,ho mo⟩
   ·exact (aM e).elim
  ·rename_i ij
   refine aN (R.obs j Yx e) fun m hm q=>?_
   refine⟨m,hm,q.mono mo fun a ha o e=>?_⟩
   refine Ez (R.apart i j l m hl hm ij) fun a1 a2 a3 a4=>?_
   rw[k a (by rcases ha with rfl|rfl;exact a1.symm;exact a2.symm) (by rcases ha with rfl|rfl;exact a3.symm;exact a4.symm)]
   exact e
 ·refine dP (R.off a ha) fun q1 q2 q3=>?_
  exact⟨q1,q2,lv a q3⟩
theorem A4{f g:Nat} {t:Tok} (hf:f<104) (hg:g<104):(Value.str (nm f) t).isStr (nm g)=(f==g):=by
 show(nm f==nm g)=_
 by_cases q:f=g
 ·subst q;exact(beq_iff_eq.mpr rfl).trans (beq_iff_eq.mpr rfl).symm
 ·have:¬nm f=nm g:=fun e=>q (rK hf hg e)
  rw[beq_eq_false_iff_ne.mpr this,beq_eq_false_iff_ne.mpr q]
theorem e7.find{f:Nat} (hf:f<104) {fs:List (Nat×V)} {es:List DictEntry} (x:e7 w s.heap φ μ fs es) (hz:∀p∈fs,p.1<104):
  ∃r,getL (nm f) es=some r/\OR w s.heap φ μ (fs.lookup f) r:=by
 have nr:es.any (·.refKey)=false:=by
  clear hz
  induction x with
  |nil=>rfl
  |cons _ _ ih=>exact ih
 have main:∃r,(es.find? (·.key.isStr (nm f))).map (·.val)=r/\OR w s.heap φ μ (fs.lookup f) r:=by
  clear nr
  induction x with
  |nil=>exact⟨none,rfl,.none⟩
  |@cons g y t v fs es hy _ ih=>
   have q:=A4 (t:=t) (hz _ (.head _)) hf
   rw[List.find?_cons,fH]
   dsimp only at q⊢
   rw[q]
   by_cases e:g=f
   ·rw[beq_iff_eq.mpr e,beq_iff_eq.mpr e.symm];exact⟨_,rfl,.some hy⟩
   ·rw[beq_eq_false_iff_ne.mpr e,beq_eq_false_iff_ne.mpr (gf e)]
    exact ih fun p hp=>hz p (.tail _ hp)
 refine aN main fun r hr o=>⟨r,?_,o⟩
 unfold getL
 rw[nr,<-hr]
 cases List.find? (fun e=>e.key.isStr (nm f)) es<;>rfl
theorem Cf{f g:Nat} {v x:V} {r:List (Nat×V)} {C:List (Nat×V)->Prop} (h1:g=f->C ((g,v)::r)) (h2:g≠f->C ((g,x)::gI f v r)):C (gI f v ((g,x)::r)):=by
 show C (if g==f then _ else _)
 by_cases e:g=f
 ·rw[if_pos (beq_iff_eq.mpr e)];exact h1 e
 ·rw[if_neg fun q=>e (beq_iff_eq.mp q)];exact h2 e
theorem e7.put{f:Nat}{v:V}{u:Value}{t:Tok} (hf:f<104) (y:VR w s.heap φ μ v u) {fs:List (Nat×V)} {es:List DictEntry} (x:e7 w s.heap φ μ fs es) (hz:∀p∈fs,p.1<104):
  e7 w s.heap φ μ (gI f v fs) (putL (nm f) (PyData.keyHash w.params (nm f)) (.str (nm f) t) u es):=by
 induction x with
 |nil=>exact .cons y .nil
 |@cons g x t' v' fs es hx hr ih=>
  have q:=A4 (t:=t') (hz _ (.head _)) hf
  show e7 _ _ _ _ (if(g==f)=true then _ else _) (if(Value.str (nm g) t').isStr (nm f)=true then _ else _)
  rw[show (Value.str (nm g) t').isStr (nm f)=(g==f) from q]
  by_cases e:g=f
  ·rw[beq_iff_eq.mpr e];subst e;exact .cons y hr
  ·rw[beq_eq_false_iff_ne.mpr e];exact .cons hx (ih fun p hp=>hz p (.tail _ hp))
theorem e7.len{q:List (Nat×V)} {es:List DictEntry} (x:e7 w s.heap φ μ q es):q.length=es.length:=by
 induction x with
 |nil=>rfl
 |cons _ _ ih=>exact congrArg Nat.succ ih
theorem Ib (f:Nat) (v:V) (a:List (Nat×V)):(gI f v a).length<=a.length+1:=by
 induction a with
 |nil=>exact aO _
 |cons p r ih=>exact Cf (C:=fun l=>l.length<=(p::r).length+1) (fun _=>dZ _) fun _=>jI ih
theorem Ic{f:Nat}{v:V}{P:Nat->Prop} (hf:P f) {a:List (Nat×V)} (h:∀p∈a,P p.1):∀p∈gI f v a,P p.1:=by
 induction a with
 |nil=>exact eF.mpr ⟨hf,fun _ h=>(cp h).elim⟩
 |cons p r ih=>exact Cf (C:=fun l=>∀p∈l,P p.1) (fun e=>eF.mpr ⟨h p (.head _),fun _ b=>h _ (.tail _ b)⟩) fun _=>eF.mpr ⟨h p (.head _),ih fun p b=>h p (.tail _ b)⟩
theorem HC:(cy.all fun l=>l.all fun f=>decide (f<104))=true:=by decide+kernel
theorem A5{c f:Nat} (h:((cy[c]?).getD []).contains f=true):∃l,cy[c]?=some l/\f∈l:=by
 cases q:cy[c]? with
 |none=>rw[q] at h;exact(aL h).elim
 |some l=>rw[q] at h;exact⟨l,rfl,lR.mp h⟩
theorem lD{c f:Nat} (h:((cy[c]?).getD []).contains f=true):f<104:=
 aN (A5 h) fun l q m=>of_decide_eq_true (cG.mp (cG.mp HC l (iY q)) f m)
structure CF (K:Frag) (C:Addr) (f:Nat):Prop where
 get:plainGet K C ""=true
 dict:hasDictIn K C=true
 set:findIn K (.ref C) "__setattr__"=some (some (.builtin "object.__setattr__"))
 over:plainOver K C=true
 make:makesIn K C=true
 own:uV K C (nm f)=true
 Yy:takerIn K C (nm f)=some none
theorem uW{c:Nat}{C:Addr}{l:List Nat} (a:3<=c) (b:dW[c]?=some C) (d:cy[c]?=some l):(C,l)∈(dW.zip cy).drop 3:=by
 have:(dW.zip cy)[c]?=some (C,l):=by rw[sA];exact⟨b,d⟩
 have:((dW.zip cy).drop 3)[c-3]?=some (C,l):=by rw[List.getElem?_drop,ni a];exact this
 exact iY this
theorem Dt{c f:Nat} {C:Addr} (a:3<=c) (b:dW[c]?=some C) (d:((cy[c]?).getD []).contains f=true):CF (kF w.params) C f:=
 aN (A5 d) fun l q hm=>
  have m:=uW a b q
  have a1:=cf (cG.mp (Ae w.params) _ m)
  have a2:=cf (cG.mp (G6 w.params) _ m)
  ⟨a1.1,a1.2,beq_iff_eq.mp a2.1,a2.2,cG.mp (Af w.params) _ m,cG.mp (cG.mp (G7 w.params) _ m) f hm,beq_iff_eq.mp (cG.mp (cG.mp (G8 w.params) _ m) f hm)⟩
theorem VR.handed{v:V}{u:Value} (x:VR w s.heap φ μ v u):handedIn u=true:=by cases x<;>rfl
theorem G9{v x:V} {f:Nat} (e:attr v f st=some (x,aB)):aB=st/\∃i c a,v= .obj i/\st[i]?=some (.inst c a)/\a.lookup f=some x:=by
 cases v with
 |obj i=>
  refine k8 e fun o d b=>?_
  cases o with
  |inst c a=>exact cA (cX b) fun h q=>⟨h,i,c,a,rfl,d,q⟩
  |_=>exact(aM b).elim
 |_=>exact(aM e).elim
theorem mem_lookup{f:Nat}{x:V}{P:Nat->Prop} (l:List (Nat×V)) (h:∀p∈l,P p.1) (e:l.lookup f=some x):P f:=by
 induction l with
 |nil=>exact(aM e).elim
 |cons p r ih=>
  rw[fH] at e
  by_cases q:f=p.1
  ·exact q▸h p (.head _)
  ·rw[beq_eq_false_iff_ne.mpr q] at e;exact ih (fun p hp=>h p (.tail _ hp)) e
theorem Ie{v x:V} {f:Nat} {u:Value} {k:Bool} {Q:Value->Shared->Prop} (X:(kF w.params).In h₀) (e:attr v f st=some (x,aB)) (R:SR w h₀ s.heap φ μ st) (y:VR w s.heap φ μ v u) (p:bz w h₀ s φ μ aB x Q):
  wpAny (model aF w) A (getAttr u (nm f) k) Q E s:=by
 refine Jf (G9 e) fun h i c m b ho g=>?_
 clear e
 subst b
 refine R.ob y ho fun l hu _ o=>?_
 obtain⟨n,q,t,z,B,j⟩:=o.Ds
 have hf:((cy[c]?).getD []).contains f=true:=mem_lookup (P:=fun f=>((cy[c]?).getD []).contains f=true) m j g
 have C:=Dt (w:=w) B n hf
 refine aN (z.find (lD hf) fun p D=>lD (j p D)) fun r G o=>?_
 rw[g] at o
 cases o with
 |some b=>
 have K:=C.own
 unfold uV at K
 cases d:findIn (kF w.params) (.ref _) (nm f) with
 |none=>rw[d] at K;exact(aL K).elim
 |some a=>
  rw[d] at K
  exact hu▸get_value (X.keeps R.base) (C:=_) (od:=some _) ⟨q,rfl,rfl,t⟩ (plainGet_of C.get).1 (findObj_own C.dict d K ((lookIn_dict _ _ _).trans G)) b.handed ((h▸p).tok R _ b)
theorem GH{o v:V} {f:Nat} {a:Unit} (e:setAttr o f v st=some (a,aB)):∃i c b,o= .obj i/\st[i]?=some (.inst c b)/\((cy[c]?).getD []).contains f=true/\3<=c/\b.length<1000/\aB=st.set i (.inst c (gI f v b)):=by
 cases o with
 |obj i=>
  refine k8 e fun o h d=>?_
  cases o with
  |inst c b=>exact cA (fk d) fun q j=>have g:=of_decide_eq_true (cf q).2;⟨i,c,b,rfl,h,(cf q).1,g.1,g.2,(br j).2.symm⟩
  |_=>exact(aM d).elim
 |_=>exact(aM e).elim
set_option tactic.hygienic true
theorem GO{o v:V} {f:Nat} {a:Unit} {u t:Value} {Q:Unit->Shared->Prop} (X:(kF w.params).In h₀) (e:setAttr o f v st=some (a,aB)) (R:SR w h₀ s.heap φ μ st) (y:VR w s.heap φ μ o u) (z:VR w s.heap φ μ v t)
  (p:∀s' aD aE,Ext s s' φ aD μ aE->SR w h₀ s'.heap aD aE aB->Q () s'):wpAny (model aF w) A (PySem.setAttr u (nm f) t) Q E s:=by
 refine ox (GH e) fun i c fs hv ho hf h5 hn h=>?_
 clear e
 subst hv h
 refine R.ob y ho fun l hu hl o=>?_
 subst hu
 obtain⟨h1,h2,h3,h4,h5',h6⟩:=o.Ds
 rename_i C sl es n
 clear o y
 have zq:∀p∈fs,p.1<104:=fun p hp=>lD (h6 p hp)
 have C':=Dt (w:=w) h5 h1 hf
 have XX:=X.keeps R.base
 have I:InstAt s.heap l.a ⟨.ref C,some l.d,.plain,sl⟩ C (some (dictOf es n)):=⟨h2,rfl,rfl,h3⟩
 refine aN (any_some C'.dict) fun cd hc hd=>?_
 refine aN (e7.find (lD hf) h4 zq) fun r hr _=>?_
 refine set_plain XX I C'.set (osa_open (s:={s with toks:=s.toks+1}) XX I C'.over C'.Yy fun b=>?_)
 have D':(s.heap.update l.d (Obj.putName (nm f) (PyData.keyHash w.params (nm f)) (.str (nm f) (s.toks+1)) t)).get? l.d=some (dictOf (putL (nm f) (PyData.keyHash w.params (nm f)) (.str (nm f) (s.toks+1)) t es) (putN (nm f) es n)):=by
  rw[sC _ h3 (by rw[putName_dict];rfl),putName_dict]
 have key:∀t',Q () {s with heap:=s.heap.update l.d (Obj.putName (nm f) (PyData.keyHash w.params (nm f)) (.str (nm f) (s.toks+1)) t),toks:=t'}:=by
  intro t'
  have ma:l.a≠l.d:=fun q=>by rw[q,h3] at h2;cases h2
  have ha:=(Heap.get?_update_ne s.heap l.a l.d (Obj.putName (nm f) (PyData.keyHash w.params (nm f)) (.str (nm f) (s.toks+1)) t) ma).trans h2
  obtain⟨x,r'⟩:=R.upd (t:=t') (ob:= .inst c (gI f v fs)) (h':=s.heap.update l.d (Obj.putName (nm f) (PyData.keyHash w.params (nm f)) (.str (nm f) (s.toks+1)) t)) hl (fun a _ q=>Heap.get?_update_ne _ _ _ _ q) (by rw[ha];rfl) (by rw[D'];rfl)
   fun mo=> .inst h1 ha D' ((h4.put (s:=s) (t:=s.toks+1) (lD hf) z zq).mono mo) h5 (Ic (P:=fun g=>((cy[c]?).getD []).contains g=true) hf h6)
  exact p _ _ _ x r'
 have hlen:(putL (nm f) (PyData.keyHash w.params (nm f)) (.str (nm f) (s.toks+1)) t es).length<=1000:=by
  have:=(h4.put (s:=s) (t:=s.toks+1) (lD hf) z zq).len
  have:=Ib f v fs
  exact PN hn (by assumption) this
 have hh:(es.toArray.any (·.key.isStr (nm f))|| !es.toArray.any (·.refKey))=true:=by
  rw[<-Array.any_toList,<-Array.any_toList]
  unfold getL at hr
  split at hr
  ·rename_i en he
   rw[List.any_eq_true.mpr ⟨en,List.mem_of_find?_eq_some he,List.find?_some he⟩];rfl
  ·split at hr
   ·exact (aM hr).elim
   ·rename_i z;rw[Bool.not_eq_true] at z;rw[z,Bool.not_false,Bool.or_true]
 refine wpAny_bind (wpAny_pure (wpAny_bind (wpAny_bind (wpAny_loadPart h2 (wpAny_bind ((looks_clsIn (h:=s.heap) XX hc).at ?_))))))
 rw[hd]
 refine wpAny_pure (a:=some l.d) (wpAny_bind (wpAny_pure (wpAny_bind ?_)))
 refine wpAny_bind (wpAny_bind (wpAny_askSetting (wpAny_pure (wpAny_bind (wpAny_mkText (wpAny_bind (wpAny_loadPart h3 ?_)))))))
 dsimp only
 have Yz:aRefKeyMayBeTheName (nm f) es.toArray=false:=by
  rw[aRefKeyMayBeTheName_at]
  revert hh
  cases es.toArray.any (·.key.isStr (nm f))<;>cases es.toArray.any (·.refKey)<;>simp
 rw[Yz]
 refine wpAny_updatePart h3 ?_
 refine wpAny_bind (wpAny_lookBehind D' (pastItsLine_dict (by rw[List.size_toArray,sizeLine_eq];exact TG hlen)) ?_)
 exact wpAny_pure (key _)
structure Cx where
 names:List Str
 kd:Str->Option NameKind
structure oZ (cx:Cx) (env:PySem.Env):Prop where
 fn:env.scope.kind= .function
 kd:∀x,env.kindOf x=cx.kd x
 gl:env.globals=mainGlobals
 bi:env.builtins=builtinsNs
structure Off (h₀:Heap) (φ:Addr->Prop) (μ:List Loc) (h:Heap) (a:Addr):Prop where
 nf:¬φ a
 nm:a∉di μ
 nb:h₀.get? a=none
 lv:(h.get? a).isSome=true
inductive Rd (h:Heap) (env:PySem.Env) (x:Str) (u:Value):Prop
 |loc {m:Str->Option Value}:env.kindOf x=some .local->h.Ns env.locals m->m x=some u->Rd h env x u
 |iF {c:Addr}:(env.kindOf x=some .cell\/env.kindOf x=some .free)->env.cells.lookup x=some c->h.IsCell c (some u)->Rd h env x u
noncomputable def gL:Option NameKind->Bool
 |some .local=>true
 |some .cell=>true
 |some .free=>true
 |_=>false
def FA (env:PySem.Env) (a:Addr):Prop:=a=env.locals\/∃x,env.cells.lookup x=some a
structure FR (w:World) (h₀:Heap) (cx:Cx) (env:PySem.Env) (D:Addr->Prop) (oa:Nat->Addr) (e:Env) (h:Heap) (φ:Addr->Prop) (μ:List Loc):Prop where
 ok:oZ cx env
 ns:∃m,h.Ns env.locals m
 cl:∀x c,env.cells.lookup x=some c->∃v,h.IsCell c v
 ap:∀x y c,env.cells.lookup x=some c->env.cells.lookup y=some c->x=y
 ca:∀x,cx.kd x=some .cell->(env.cells.lookup x).isSome=true
 off:∀a,FA env a->Off h₀ φ μ h a
 sl:∀(i:Nat) (v:V) (x:Str),e[i]?=some (.v v)->cx.names[i]?=some x->gL (cx.kd x)=true->∃u,Rd h env x u/\VR w h φ μ v u
 own:∀(i:Nat) (l:List V) (x:Str),e[i]?=some (.own l)->cx.names[i]?=some x->gL (cx.kd x)=true->Rd h env x (.ref (oa i))/\Off h₀ φ μ h (oa i)/\D (oa i)/\∃bQ n,IsL h (oa i) bQ n/\aJ w h φ μ l bQ.toList
 oo:∀(i:Nat) (l:List V),e[i]?=some (.own l)->Off h₀ φ μ h (oa i)/\D (oa i)
 k9:∀(i j:Nat) (l m:List V),e[i]?=some (.own l)->e[j]?=some (.own m)->i≠j->oa i≠oa j
variable {h':Heap} {s' s₀:Shared} {aD aT D:Addr->Prop} {aE aU:List Loc} {cx:Cx} {env:PySem.Env} {oa:Nat->Addr} {e:Env}
section
variable {M:Model} {a:Addr}
theorem Off.ext (o:Off h₀ φ μ s.heap a) (x:Ext s s' φ aD μ aE):Off h₀ aD aE s'.heap a/\s'.heap.get? a=s.heap.get? a:=by
 refine cE (fP.mp o.lv) fun ob ho=>?_
 refine⟨⟨fun f=>?_,fun m=>?_,o.nb,x.live a o.lv⟩,(x.keep a ob ho o.nm).trans ho.symm⟩
 ·have:=x.nf a f o.nf;rw[ho] at this;exact(i8 this).elim
 ·refine aN x.mu fun n q z=>?_;obtain rfl:=q
  rw[gY,dM] at m
  rcases m with m|m
  ·exact o.nm m
  ·have:=z a m;rw[ho] at this;exact(i8 this).elim
theorem Ns.same{m:Str->Option Value} (n:h.Ns a m) (e:h'.get? a=h.get? a):h'.Ns a m:=let ⟨o,es,q,ho,r⟩:=n;⟨o,es,q,e.trans ho,r⟩
theorem Cell.same{v:Option Value} (n:h.IsCell a v) (e:h'.get? a=h.get? a):h'.IsCell a v:=let ⟨o,ho,r⟩:=n;⟨o,e.trans ho,r⟩
theorem Rd.same{x:Str}{u:Value} (r:Rd h env x u) (k:∀a,FA env a->h'.get? a=h.get? a):Rd h' env x u:=by
 cases r with
 |loc a b c=>exact .loc a (Ns.same b (k _ (.inl rfl))) c
 |iF a b c=>exact .iF a b (Cell.same c (k _ (.inr ⟨_,b⟩)))
theorem FR.ext (F:FR w h₀ cx env D oa e s.heap φ μ) (R:SR w h₀ s.heap φ μ st) (x:Ext s s' φ aD μ aE):FR w h₀ cx env D oa e s'.heap aD aE:=by
 have k:∀a,FA env a->s'.heap.get? a=s.heap.get? a:=fun a f=>((F.off a f).ext x).2
 have H:=x.mono R
 refine⟨F.ok,F.ns.elim fun m n=>⟨m,Ns.same n (k _ (.inl rfl))⟩,fun y c I=>(F.cl y c I).elim fun v n=>⟨v,Cell.same n (k _ (.inr ⟨y,I⟩))⟩,F.ap,F.ca,fun a f=>((F.off a f).ext x).1,fun i v y J z A=>?_,fun i l y hl z A=>?_,fun i l hl=>⟨((F.oo i l hl).1.ext x).1,(F.oo i l hl).2⟩,F.k9⟩
 ·refine aN (F.sl i v y J z A) fun u C q=>?_
  exact⟨u,C.same k,q.mono H⟩
 ·refine oN (F.own i l y hl z A) fun C q L E n O Q=>?_
  exact⟨C.same k,(q.ext x).1,L,E,n,((q.ext x).2).trans O,Q.mono H⟩
theorem uX{x:Str}{u:Value}{Q:Value->Shared->Prop} (ok:oZ cx env) (r:Rd s.heap env x u) (d:(x==("__classdict__":Str))=false) (p:Q u s):wpAny M A (loadName env x) Q E s:=by
 cases r with
 |loc a b c=>exact wpAny_loadName_local ok.fn a b c p
 |iF a b c=>
  rcases a with a|a
  ·exact wpAny_loadName_cell ok.fn a b c p
  ·exact wpAny_loadName_free ok.fn a b c p d
theorem SR.side (R:SR w h₀ s.heap φ μ st) (o:Off h₀ φ μ s.heap a) (k:Heap.SameBut a s.heap h'):SR w h₀ h' φ μ st/\cN s.heap h' φ φ μ μ:=by
 have C:cN s.heap h' φ φ μ μ:=⟨fun b f ob z=>(k.2 b fun q=>o.nf (q▸f)).trans z,fun _ f=>f,fun _ _ e=>e⟩
 refine⟨⟨fun b ob z=>(k.2 b fun q=>?_).trans (R.base b ob z),R.len,fun i ob D=>?_,fun b z=>?_,R.apart,fun b f=>?_,R.sys⟩,C⟩
 ·have:=o.nb;rw[<-q,z] at this;exact(i8 this).elim
 ·refine aN (R.obs i ob D) fun l hl q=>?_
  refine cA (iN hl) fun m1 m2=>?_
  refine⟨l,hl,q.mono C fun b z E A=>(k.2 b fun q=>o.nm ?_).trans A⟩
  rcases z with rfl|rfl
  ·exact q▸m1
  ·exact q▸m2
 ·refine dP (R.off b z) fun H I J=>?_
  exact⟨H,I,by rw[k.2 b fun q=>o.nm (q▸z)];exact J⟩
 ·rw[k.2 b fun q=>o.nf (q▸f)];exact R.fz b f
theorem Ext.side{t:Nat} (x:Ext s₀ s aT φ aU μ) (k:Heap.SameBut a s.heap h') (d:s₀.heap.get? a=none):Ext s₀ {s with heap:=h',toks:=t} aT φ aU μ:=by
 have A:∀b,(s₀.heap.get? b).isSome=true->b≠a:=fun b z q=>by rw[q,d] at z;exact(aL z).elim
 refine⟨fun b o z nb=>(k.2 b (A b (by rw[z];rfl))).trans (x.keep b o z nb),fun b z=>?_,x.fr,x.nf,x.mu,x.gens,x.os⟩
 show(h'.get? b).isSome=true
 rw[k.2 b (A b z)];exact x.live b z
theorem dQ{e:Env}{i j:Nat} {v:Slot} (q:j≠i):(e.set i v)[j]?=e[j]?:=by rw[List.getElem?_set];split<;>simp_all
theorem fy{e:Env}{i:Nat}{v r:Slot} (q:(e.set i v)[i]?=some r):r=v:=by
 rw[List.getElem?_set] at q
 split at q
 ·split at q
  ·obtain rfl:=aR q;rfl
  ·exact (aM q).elim
 ·exact absurd rfl ‹_›
theorem ux{i:Nat}{x:Str}{u:Value}{Q:Unit->Shared->Prop} (F:FR w h₀ cx env D oa e s.heap φ μ) (R:SR w h₀ s.heap φ μ st) (nd:cx.names.Nodup) (hx:cx.names[i]?=some x)
  (hk:cx.kd x=some .local\/(cx.kd x=some .cell/\(env.cells.lookup x).isSome=true))
  (p:∀a h' t,FA env a->(cx.kd x=some .local->a=env.locals)->Heap.SameBut a s.heap h'->SR w h₀ h' φ μ st->cN s.heap h' φ φ μ μ->Rd h' env x u->
   (∀r,(∀(j:Nat) (v:V),r[j]?=some (.v v)->j≠i/\e[j]?=some (.v v))->(∀(j:Nat) (l:List V),r[j]?=some (.own l)->j≠i/\e[j]?=some (.own l))->FR w h₀ cx env D oa r h' φ μ)->Q () {s with heap:=h',toks:=t}):
  wpAny M A (storeName env x u) Q E s:=by
 have FO:∀j y,j≠i->cx.names[j]?=some y->y≠x:=fun j y hj hy q=>by
  subst q
  exact hj ((List.getElem?_inj (et.mp hy).1 nd).mp (hy.trans hx.symm))
 have fin:∀a h',FA env a->Heap.SameBut a s.heap h'->(h'.get? a).isSome=true->(∃m,h'.Ns env.locals m)->(∀y c,env.cells.lookup y=some c->∃v,h'.IsCell c v)->
   (∀y v,y≠x->Rd s.heap env y v->Rd h' env y v)->∀r,(∀(j:Nat) (v:V),r[j]?=some (.v v)->j≠i/\e[j]?=some (.v v))->(∀(j:Nat) (l:List V),r[j]?=some (.own l)->j≠i/\e[j]?=some (.own l))->FR w h₀ cx env D oa r h' φ μ:=by
  intro a h' fa k lv n1 n2 rd r r1 r2
  refine cA (R.side (F.off a fa) k) fun R' mo=>?_
  have YA:∀b,(s.heap.get? b).isSome=true->(h'.get? b).isSome=true:=fun b hb=>by
   by_cases q:b=a
   ·rw[q];exact lv
   ·rw[k.2 b q];exact hb
  have oo:∀b,Off h₀ φ μ s.heap b->Off h₀ φ μ h' b:=fun b o=>⟨o.nf,o.nm,o.nb,YA b o.lv⟩
  refine⟨F.ok,n1,n2,F.ap,F.ca,fun b fb=>oo b (F.off b fb),fun j v y hj h1 zr=>?_,fun j l y hj h1 zr=>?_,fun j l hj=>⟨oo _ (F.oo j l (r2 j l hj).2).1,(F.oo j l (r2 j l hj).2).2⟩,fun j j' l m hj gP q=>F.k9 j j' l m (r2 j l hj).2 (r2 j' m gP).2 q⟩
  ·refine cA (r1 j v hj) fun q hj=>?_
   refine aN (F.sl j v y hj h1 zr) fun z h2 h3=>?_
   exact⟨z,rd y z (FO j y q h1) h2,h3.mono mo⟩
  ·refine cA (r2 j l hj) fun q hj=>?_
   refine oN (F.own j l y hj h1 zr) fun h2 h3 h4 bQ n h5 h6=>?_
   refine⟨rd y _ (FO j y q h1) h2,oo _ h3,h4,bQ,n,(k.2 _ fun z=>?_).trans h5,h6.mono mo⟩
   rcases fa with rfl|⟨y',YB⟩
   ·refine By F.ns fun m o es ep ho hd _=>?_
    rw[z] at h5
    rw[show s.heap.get? env.locals=_ from h5] at ho
    obtain rfl:=aR ho;cases hd
   ·refine gp (F.cl y' a YB) fun v' o ho hd=>?_
    rw[z] at h5
    rw[show s.heap.get? a=_ from h5] at ho
    obtain rfl:=aR ho;cases hd
 rcases hk with hk|⟨hk,hc⟩
 ·refine cE F.ns fun m hn=>?_
  have fa:FA env env.locals:= .inl rfl
  refine wpAny_storeName_local ((F.ok.kd x).trans hk) hn (fun h' iG hs=>?_) (by rw[F.ok.fn];rfl)
  have lv:(h'.get? env.locals).isSome=true:=by refine j5 iG fun o _ _ ho _=>?_;rw[ho];rfl
  have qt:∀y c,env.cells.lookup y=some c->c≠env.locals:=fun y c hc q=>by
   refine gp (F.cl y c hc) fun v' o ho hd=>?_
   refine er hn fun o' _ _ tE zt _=>?_
   rw[q,tE] at ho;obtain rfl:=aR ho;rw[zt] at hd;cases hd
  refine cA (R.side (F.off _ fa) hs) fun R' mo=>?_
  refine p env.locals h' _ fa (fun _=>rfl) hs R' mo (.loc ((F.ok.kd x).trans hk) iG (by simp)) (fin _ h' fa hs lv ⟨_,iG⟩ (fun y c hc=>(F.cl y c hc).elim fun v n=>⟨v,Cell.same n (hs.2 c (qt y c hc))⟩) fun y v hy rd=>?_)
  cases rd with
  |loc a1 a2 a3=>
   refine .loc a1 iG ?_
   rw[if_neg hy]
   refine ry a2 fun o1 es1 ep1 g1 d1 k1 f1=>?_
   refine ry hn fun o2 es2 ep2 g2 d2 k2 f2=>?_
   rw[g1] at g2;obtain rfl:=aR g2
   rw[d1] at d2;cases d2
   rw[<-f2 y,f1 y];exact a3
  |iF a1 a2 a3=>exact .iF a1 a2 (Cell.same a3 (hs.2 _ (qt y _ a2)))
 ·refine cE (fP.mp hc) fun c hc=>?_
  refine cE (F.cl x c hc) fun v0 FP=>?_
  have fa:FA env c:= .inr ⟨x,hc⟩
  refine wpAny_storeName_cell F.ok.fn ((F.ok.kd x).trans hk) hc FP fun h' iG hs=>?_
  have lv:(h'.get? c).isSome=true:=by refine aN iG fun o ho _=>?_;rw[ho];rfl
  refine cE F.ns fun m hn=>?_
  have qt:env.locals≠c:=fun q=>by
   refine aN FP fun o ho hd=>?_
   refine er hn fun o' _ _ tE zt _=>?_
   rw[q,ho] at tE;obtain rfl:=aR tE;rw[zt] at hd;cases hd
  have Va:=Ns.same hn (hs.2 _ qt)
  refine cA (R.side (F.off _ fa) hs) fun R' mo=>?_
  refine p c h' _ fa (fun q=>by rw[hk] at q;cases q) hs R' mo (.iF (.inl ((F.ok.kd x).trans hk)) hc iG) (fin _ h' fa hs lv ⟨m,Va⟩ (fun y d hd=>?_) fun y v hy rd=>?_)
  ·by_cases q:d=c
   ·subst q;exact⟨_,iG⟩
   ·exact (F.cl y d hd).elim fun v n=>⟨v,Cell.same n (hs.2 d q)⟩
  ·cases rd with
   |loc a1 a2 a3=>exact .loc a1 (Ns.same a2 (hs.2 _ qt)) a3
   |iF a1 a2 a3=>
    refine .iF a1 a2 (Cell.same a3 (hs.2 _ fun q=>hy (F.ap y x c (q▸a2) hc)))
end
section
noncomputable def eQ:List Addr:=[66,67,630,631,290,291,292,293,294,295,296,297,298,299,300,301,302,303,304,305,306,307,308,309,310,311,312,313,314,315,316,317,318,319,320,321,322,323,324,325,326,327,328,329,330,331,332,333,335,336,337,338,339,340,341,342,343,344,345,346,347,348,349,350,351,352,353,354,355,356,357,358,359,360]
inductive GV where
 |fn (i:Nat)|cls (i:Nat)|cn (v:V)
noncomputable def qu:List (String×GV):=[("_wall",.fn 0),("inner_kinds",.fn 5),("row_level",.fn 6),("row_length",.fn 7),("check_kind_row",.fn 8),("check_named",.fn 9),("check_args",.fn 10),("may_stand",.fn 11),("kind_sort",.fn 12),("tid_of",.fn 13),("args_of",.fn 14),("is_value",.fn 15),("is_ref",.fn 16),("is_var",.fn 17),("type_of",.fn 20),("is_nullable",.fn 21),("new_fn",.fn 29),("new_var",.fn 30),("parts_at",.fn 31),("kids_of",.fn 32),("with_kids",.fn 33),("plug",.fn 34),("low_expr",.fn 45),("low_parts",.fn 46),("seq",.fn 47),("mentions",.fn 48),("holds_code",.fn 49),("steady",.fn 50),("pin",.fn 51),("by_place",.fn 52),("pin_place",.fn 53),("pin_object",.fn 54),("boxes_param",.fn 55),("pin_prop",.fn 56),("low_read",.fn 57),("low_write",.fn 58),("low_assign",.fn 59),("low_compound",.fn 60),("param_may_turn",.fn 61),("compound_by_kind",.fn 62),("compound_once",.fn 63),("low_effect",.fn 67),("has_value",.fn 69),("value_of",.fn 70),("wrap",.fn 71),("unless_null",.fn 72),("plain_of",.fn 73),("as_kind",.fn 74),("lift_operate",.fn 75),("lift_compare",.fn 76),("lift_three",.fn 77),("against_null",.fn 78),("low_lift",.fn 79),("low_conv",.fn 82),("null_of",.fn 84),("boxed",.fn 85),("not_null",.fn 86),("hole_kind",.fn 87),("low_coalesce",.fn 88),("plain_test",.fn 90),("low_is",.fn 91),("joined",.fn 94),("as_object",.fn 95),("install_low_places",.fn 99),("install_low_nullable",.fn 100),("install_low_tests",.fn 101),("install_low_texts",.fn 102),("install_low_exprs",.fn 103),("_law_draw",.fn 104),("_law_var",.fn 105),("_law_read",.fn 106),("_law_leaf",.fn 107),("_law_of",.fn 108),("_law_goal",.fn 109),("_law_maybe",.fn 110),("_law_truth",.fn 111),("_law_sum",.fn 112),("_law_thing",.fn 113),("_law_sort",.fn 114),("_law_is_ref",.fn 115),("_law_kids",.fn 116),("_law_reads",.fn 117),("_law_sound",.fn 118),("_law_operands",.fn 119),("_law_ends",.fn 120),("_law_call",.fn 121),("_law_written",.fn 122),("law",.fn 123),("RuneError",.cls 0),("BadKind",.cls 1),("LeftOut",.cls 2),("KindTable",.cls 3),("TypeDef",.cls 4),("Store",.cls 5),("Diags",.cls 6),("Var",.cls 7),("Fn",.cls 8),("Unit",.cls 9),("LowRule",.cls 10),("Spiller",.cls 11),("Low",.cls 12),("LowAssign",.cls 13),("LowCompound",.cls 14),("LowProp",.cls 15),("LowSeq",.cls 16),("LowLift",.cls 17),("LowLiftUn",.cls 18),("LowConv",.cls 19),("LowCoalesce",.cls 20),("LowIs",.cls 21),("LowAs",.cls 22),("LowConcat",.cls 23),("LowDeleg",.cls 24),("LowLambda",.cls 25)]
noncomputable def zu:List (String×GV):=[("VOID",.cn (.int 0)),("BOOL",.cn (.int 1)),("CHAR",.cn (.int 2)),("I1",.cn (.int 3)),("U1",.cn (.int 4)),("I2",.cn (.int 5)),("U2",.cn (.int 6)),("I4",.cn (.int 7)),("U4",.cn (.int 8)),("I8",.cn (.int 9)),("U8",.cn (.int 10)),("NINT",.cn (.int 11)),("OBJECT",.cn (.int 12)),("STRING",.cn (.int 13)),("NULLK",.cn (.int 14)),("PRIM_END",.cn (.int 16)),("R_PRIM",.cn (.int 1)),("R_CLASS",.cn (.int 2)),("R_VALUE",.cn (.int 3)),("R_ARRAY",.cn (.int 4)),("R_BYREF",.cn (.int 5)),("R_VAR",.cn (.int 6)),("R_MVAR",.cn (.int 7)),("R_BOXED",.cn (.int 8)),("R_ROREF",.cn (.int 9)),("R_FTN",.cn (.int 10)),("R_RAW",.cn (.int 11)),("DEEPEST_KIND",.cn (.int 24)),("HEAVIEST_KIND",.cn (.int 4096)),("ARRAY_TID",.cn (.int 5)),("CM_CONCAT",.cn (.int 10)),("CM_CONCAT_OBJ",.cn (.int 20)),("CM_NUL_CTOR",.cn (.int 65)),("CM_NUL_HASVALUE",.cn (.int 66)),("CM_NUL_VALUE",.cn (.int 67)),("CM_NUL_ORDEFAULT",.cn (.int 68)),("S_CLASS",.cn (.int 1)),("S_ENUM",.cn (.int 5)),("VA_NONE",.cn (.int 0)),("T_NULLABLE",.cn (.int 8)),("X_CONST",.cn (.int 1)),("X_LOCAL",.cn (.int 2)),("X_THIS",.cn (.int 3)),("X_FIELD",.cn (.int 4)),("X_SFIELD",.cn (.int 5)),("X_ELEM",.cn (.int 6)),("X_LEN",.cn (.int 7)),("X_CALL",.cn (.int 8)),("X_NEW",.cn (.int 9)),("X_NEWARR",.cn (.int 10)),("X_ARRLIT",.cn (.int 11)),("X_DEFAULT",.cn (.int 12)),("X_UN",.cn (.int 13)),("X_BIN",.cn (.int 14)),("X_AND",.cn (.int 15)),("X_OR",.cn (.int 16)),("X_COND",.cn (.int 17)),("X_COALESCE",.cn (.int 18)),("X_CONV",.cn (.int 19)),("X_IS",.cn (.int 20)),("X_AS",.cn (.int 21)),("X_ASSIGN",.cn (.int 22)),("X_COMPOUND",.cn (.int 23)),("X_LAMBDA",.cn (.int 24)),("X_DELEG",.cn (.int 25)),("X_CONCAT",.cn (.int 26)),("X_LIFT",.cn (.int 27)),("X_LIFTUN",.cn (.int 28)),("X_AWAIT",.cn (.int 30)),("X_SEQ",.cn (.int 31)),("X_HOLE",.cn (.int 32)),("X_REF",.cn (.int 33)),("X_PROP",.cn (.int 34)),("X_BASECTOR",.cn (.int 35)),("X_FNREF",.cn (.int 36)),("CV_NUM",.cn (.int 1)),("CV_REF",.cn (.int 2)),("CV_BOX",.cn (.int 4)),("CV_UNBOX",.cn (.int 5)),("CV_WRAP",.cn (.int 6)),("CV_UNWRAP",.cn (.int 7)),("CV_NULL",.cn (.int 8)),("CV_LIFT",.cn (.int 9)),("FN_PLAIN",.cn (.int 0)),("VF_REF",.cn (.int 2)),("VF_OUT",.cn (.int 4)),("VF_TEMP",.cn (.int 32)),("KS_ONE",.cn (.int 1)),("KS_MAYBE",.cn (.int 2)),("KS_ROW",.cn (.int 3)),("TRUE",.cn (.tup [(.int 1),(.int 1),(.int 1)]))]
noncomputable def tF:List (String×GV):=[("PRIM_TID",.cn AP),("TID_PRIM",.cn AQ),("KID_PLACES",.cn uh),("COMPARING",.cn (.bZ [(.str 66),(.str 69),(.str 70),(.str 71),(.str 72),(.str 73)] [(.int 1),(.int 1),(.int 2),(.int 2),(.int 2),(.int 2)]))]
noncomputable def fa (i:Nat):Addr:=(tD[i]?).getD 0
noncomputable def ca (i:Nat):Addr:=(dW[i]?).getD 0
noncomputable def tokOf:Value->Tok
 | .int _ t=>t
 | .str _ t=>t
 |_=>0
noncomputable def refOf:Value->Addr
 | .ref a=>a
 |_=>0
noncomputable def yH (u:Value) (k:Addr->Bool):Bool:=u== .ref (refOf u)&&(eQ.contains (refOf u)&&k (refOf u))
noncomputable def yI (o:Option Obj) (k:List Value->Bool):Bool:=match o with
 |some ⟨c,none,.seq a _,sl⟩=>(c== .type "tuple"&&sl.isEmpty)&&k a.toList
 |_=>false
noncomputable def Du (o:Option Obj) (k:List DictEntry->Bool):Bool:=match o with
 |some ⟨c,none,.dict es _,sl⟩=>(c== .type "dict"&&sl.isEmpty)&&k es.toList
 |_=>false
mutual
noncomputable def nX (g:Addr->Option Obj):V->Value->Bool
 | .none,u=>u== .none
 | .bool b,u=>u== .bool b
 | .int i,u=>u== .int i (tokOf u)
 | .str n,u=>u== .str (nm n) (tokOf u)
 | .tup l,u=>yH u fun a=>yI (g a) (jP g l)
 |_,_=>false
noncomputable def jP (g:Addr->Option Obj):List V->List Value->Bool
 |[],a=>a.isEmpty
 |v::l,a=>match a with
  |u::a=>nX g v u&&jP g l a
  |[]=>false
end
theorem QW:(eQ.all fun a=>Nat.blt a 1271)=true:=by decide+kernel
theorem A6{u:Value}{k:Addr->Bool} (h:yH u k=true):∃a,u= .ref a/\a∈eQ/\k a=true:=
 ⟨_,beq_iff_eq.mp (cf h).1,lR.mp (cf (cf h).2).1,(cf (cf h).2).2⟩
theorem Cg{c:Value}{t:String}{sl:Array (Option Value)} (h:(c== .type t&&sl.isEmpty)=true):c= .type t/\sl=#[]:=⟨beq_iff_eq.mp (cf h).1,Array.isEmpty_iff.mp (cf h).2⟩
theorem Ig{o:Option Obj} {k:List Value->Bool} (h:yI o k=true):∃a n,o=some ⟨.type "tuple",none,.seq a n,#[]⟩/\k a.toList=true:=by
 cases o with
 |none=>exact(aL h).elim
 |some o=>
 obtain⟨c,d,p,sl⟩:=o
 cases d with
 |some d=>exact(aL h).elim
 |none=>
 cases p with
 |seq a n=>have q:=cf (p:=c== .type "tuple"&&sl.isEmpty) h;obtain⟨rfl,rfl⟩:=Cg q.1;exact⟨a,n,rfl,q.2⟩
 |_=>exact(aL h).elim
theorem HD{o:Option Obj} {k:List DictEntry->Bool} (h:Du o k=true):∃es n,o=some ⟨.type "dict",none,.dict es n,#[]⟩/\k es.toList=true:=by
 cases o with
 |none=>exact(aL h).elim
 |some o=>
 obtain⟨c,d,p,sl⟩:=o
 cases d with
 |some d=>exact(aL h).elim
 |none=>
 cases p with
 |dict es n=>have q:=cf (p:=c== .type "dict"&&sl.isEmpty) h;obtain⟨rfl,rfl⟩:=Cg q.1;exact⟨es,n,rfl,q.2⟩
 |_=>exact(aL h).elim
section
abbrev jn (w:World):V->Value->Prop:=VR w (H1 w.params) (fun a=>a∈eQ) []
abbrev pY (w:World):List V->List Value->Prop:=aJ w (H1 w.params) (fun a=>a∈eQ) []
theorem vT (a:Addr) (o:Obj) (hm:a∈eQ) (ho:(ez w.params).get a=some o) (hl:alive o=some o):(H1 w.params).get? a=some o:=j2 (cG.mp QW a hm) ho hl
section
variable {g:Addr->Option Obj} (hg:∀a o,a∈eQ->g a=some o->alive o=some o->(H1 w.params).get? a=some o)
theorem Aw{v:V}{l:List V} {P:Value->Prop} {Q:List Value->Prop} {R:List Value->Prop} {u:List Value} (h:jP g (v::l) u=true) (ih:∀u,nX g v u=true->P u)
  (a:∀u,jP g l u=true->Q u) (k:∀x y,P x->Q y->R (x::y)):R u:=by
 cases u with
 |nil=>exact(aL h).elim
 |cons x y=>exact k _ _ (ih x (cf h).1) (a y (cf h).2)
theorem sV{v:V}{u a:Value} (x:jn w v a) (h:(u==a)=true):jn w v u:=(beq_iff_eq.mp h).symm▸x
theorem EJ{u:List Value} (h:u.isEmpty=true):pY w [] u:=(nj.mp h).symm▸.nil
include hg in
theorem BF (v:V):∀(u:Value),nX g v u=true->jn w v u:=
 V.rec (motive_1:=fun v=>∀u,nX g v u=true->jn w v u) (motive_2:=fun v=>∀u,jP g v u=true->pY w v u)
  (fun _ h=>sV .none h) (fun b _ h=>sV (.bool b) h) (fun i _ h=>sV (.int i _) h) (fun i _ h=>sV (.str i _) h)
  (fun l ih u h=>dV (A6 (k:=fun a=>yI (g a) (jP g l)) h) fun a e hm d=>gp (Ig d) fun f n ho j=>e▸.tup hm (hg _ _ hm ho rfl) (ih _ j))
  (fun _ _ _ h=>(aL h).elim) (fun _ _ _ _ _ h=>(aL h).elim) (fun _ _ h=>(aL h).elim)
  (fun _ h=>EJ h) (fun v l ih c u h=>Aw h ih c fun _ _ a b=> .cons a b) v
include hg in
theorem Ih (l:List V):∀(u:List Value),jP g l u=true->pY w l u:=
 List.rec (motive:=fun l=>∀u,jP g l u=true->pY w l u) (fun _ h=>EJ h) (fun v l c u h=>Aw h (BF hg v) c fun _ _ a b=> .cons a b) l
end
theorem Js (v:V) (u:Value) (h:nX (ez w.params).get v u=true):jn w v u:=BF vT v u h
noncomputable def vU:List Int->List DictEntry->Bool
 |[],es=>es.isEmpty
 |i::is,es=>match es with
  |e::es=>(e.key== .int i (tokOf e.key)&&e.hash==hashInt i)&&vU is es
  |[]=>false
noncomputable def EK (g:Addr->Option Obj) (is:List Int) (vs:List V) (u:Value):Bool:=yH u fun a=>Du (g a) fun es=>vU is es&&jP g vs (es.map (·.val))
theorem Ii (is:List Int):∀(es:List DictEntry),vU is es=true->Pairs (intKind aF w) es (is.zip (es.map (·.val)))/\(∀e∈es,∃k,(intKind aF w).is k e.key=true/\e.hash=(intKind aF w).hash k)/\is.length=(es.map (·.val)).length:=by
 induction is with
 |nil=>intro es h;obtain rfl:=nj.mp h;exact⟨.nil,fun _ h=>(cp h).elim,rfl⟩
 |cons i is ih=>
  intro es h
  cases es with
  |nil=>exact(aL h).elim
  |cons e es=>
   have q:=cf (cf h).1
   have k:(intKind aF w).is i e.key=true:=by rw[beq_iff_eq.mp q.1];exact intKind_is aF w i _
   have r:=ih es (cf h).2
   exact⟨.cons k rfl r.1,eF.mpr ⟨⟨i,k,beq_iff_eq.mp q.2⟩,r.2.1⟩,congrArg Nat.succ r.2.2⟩
theorem Ij{is:List Int} {vs:List V} {u:Value} (nd:is.Nodup) (h:EK (ez w.params).get is vs u=true):jn w (.bZ (is.map .int) vs) u:=by
 refine dV (A6 h) fun a e hm c=>gp (HD c) fun es n ho b=>dP (Ii (w:=w) is es.toList (cf b).1) fun d f l1=>e▸?_
 have k1:=rA is (es.toList.map (·.val)) l1
 have k2:=uU is (es.toList.map (·.val)) l1
 exact .bZ is hm ⟨_,es,n,vT _ _ hm ho rfl,⟨rfl,rfl,rfl⟩,rfl,fun e g=>f e (Array.mem_toList_iff.mpr g),d,k1.symm▸nd⟩ k1 (k2.symm▸Ih vT _ _ (cf b).2)
end
end
noncomputable def YC (P:Params):List DictEntry:=de P "__name__" 165 (vs "law_sy0010_01" 2032)::xm P
noncomputable def gQ (P:Params) (x:Str):Option Value:=nsFind (Array.mk (YC P)) x
structure ed (w:World) (h₀:Heap) (mg mb:Str->Option Value):Prop where
 k1:∀b o,(H1 w.params).get? b=some o->h₀.get? b=some o
 g:h₀.Ns mainGlobals mg
 b:h₀.Ns builtinsNs mb
 bi:∀x:Str,x≠"__name__"->mb x=bootBuiltins x
 lim:h₀.NoLimit
noncomputable def YD (P:Params):Bool:=qu.all fun p=>match p.2 with
 | .fn i=>gQ P (Str.ofString p.1)==some (.ref (fa i))
 | .cls i=>gQ P (Str.ofString p.1)==some (.ref (ca i))
 | .cn _=>false
noncomputable def YE (P:Params):Bool:=zu.all fun p=>match p.2 with
 | .cn v=>(gQ P (Str.ofString p.1)).any (nX (ez P).get v)
 |_=>false
theorem EL (P:Params):YD P=true:=by kernel_rfl
theorem Vb (P:Params):YE P=true:=by kernel_rfl
noncomputable def Vc (P:Params):Bool:=tD.all fun a=>Nat.blt a 1271&&((ez P).get a).any fun o=>match o.data with| .func _=>(alive o).isSome|_=>false
theorem QX (P:Params):Vc P=true:=by kernel_rfl
noncomputable def qw:List String:=["len","tuple","list","range","isinstance","str"]
noncomputable def jW:String->Value
 |"len"=> .builtin "len"
 |"isinstance"=> .builtin "isinstance"
 |s=> .type s
noncomputable def tG (P:Params):Bool:=qw.all fun n=>gQ P (Str.ofString n)==none&&bootBuiltins (Str.ofString n)==some (jW n)&&(Str.ofString n !="__name__")
theorem Vd (P:Params):tG P=true:=by kernel_rfl
noncomputable def intOf:V->Int
 | .int i=>i
 |_=>0
noncomputable def qx:V->List Int×List V
 | .bZ ks vs=>(ks.map intOf,vs)
 |_=>([],[])
noncomputable def YF (P:Params) (n:String) (c:V):Bool:=(gQ P (Str.ofString n)).any (EK (ez P).get (qx c).1 (qx c).2)&&decide (qx c).1.Nodup
noncomputable def Ag:V:=(match tF.lookup "COMPARING" with|some (.cn v)=>v|_=> .none)
theorem K6:gQ w.params "COMPARING"=some (.ref 631):=by kernel_rfl
variable {mg mb:Str->Option Value}
section
variable {M:Model}
theorem sa{a b:V} (h:GV.cn a=GV.cn b):a=b:=by injection h
theorem HE (l:List (String×Nat×Nat×Int)) (h:∀p∈l,hashStr w (Str.ofString p.1)=PyData.keyHash w.params (Str.ofString p.1)):
  Pairs (strKind aF w) (l.map fun p=>de w.params p.1 p.2.1 (.int p.2.2.2 p.2.2.1)) (l.map fun p=>(Str.ofString p.1,Value.int p.2.2.2 p.2.2.1))/\
  (∀e∈(l.map fun p=>de w.params p.1 p.2.1 (.int p.2.2.2 p.2.2.1)),∃k,(strKind aF w).is k e.key=true/\e.hash=(strKind aF w).hash k)/\
  pY w (l.map fun p=> .int p.2.2.2) (l.map fun p=>Value.int p.2.2.2 p.2.2.1):=by
 induction l with
 |nil=>exact⟨.nil,fun _ h=>(cp h).elim,.nil⟩
 |cons p l ih=>
  have q:=ih fun p a=>h p (.tail _ a)
  have k:(strKind aF w).is (Str.ofString p.1) (.str (Str.ofString p.1) p.2.1)=true:=strKind_is aF w _ _
  exact⟨.cons k rfl q.1,eF.mpr ⟨⟨Str.ofString p.1,k,(h p (.head _)).symm⟩,q.2.1⟩,.cons (.int _ _) q.2.2⟩
noncomputable def sW:List (String×Nat×Nat×Int):=[("==",1309,1310,1),("!=",1311,1312,1),("<",1313,1314,2),(">",1315,1316,2),("<=",1317,1318,2),(">=",1319,1320,2)]
theorem Jt:(ez w.params).get 631=some ⟨.type "dict",none,.dict ⟨sW.map fun p=>de w.params p.1 p.2.1 (.int p.2.2.2 p.2.2.1)⟩ 6,#[]⟩:=by kernel_rfl
theorem K7:VR w (H1 w.params) (fun a=>a∈eQ) [] Ag (.ref 631):=by
 refine dP (HE (w:=w) sW fun p _=>rfl) fun q1 q2 q3=>?_
 have hc:Ag= .bZ (([66,69,70,71,72,73]:List Nat).map .str) (sW.map fun p=> .int p.2.2.2):=by rfl
 rw[hc]
 exact .nV (kvs:=sW.map fun p=>(Str.ofString p.1,Value.int p.2.2.2 p.2.2.1)) [66,69,70,71,72,73] (by decide) ⟨_,_,_,j2 (by decide) Jt rfl,⟨rfl,rfl,rfl⟩,rfl,fun e he=>q2 e (by simpa using he),q1,by decide+kernel⟩
  (by decide+kernel) (by decide) (by rw[kj];exact q3)
noncomputable def GV.zv:GV->Option V
 | .cn v=>some v
 |_=>none
noncomputable def GV.tH:GV->Option Nat
 | .fn v=>some v
 |_=>none
noncomputable def GV.cls?:GV->Option Nat
 | .cls v=>some v
 |_=>none
noncomputable def tI (x:Str):Option V:=(zu++tF).findSome? fun p=>if Str.ofString p.1=x then p.2.zv else none
theorem oO{α:Type}{l:List (String×GV)} {f:GV->Option α} {x:Str} {v:α} (h:(l.findSome? fun p=>if Str.ofString p.1=x then f p.2 else none)=some v):∃p∈l,Str.ofString p.1=x/\f p.2=some v:=by
 refine aN (List.exists_of_findSome?_eq_some h) fun p hp e=>?_
 by_cases c:Str.ofString p.1=x
 ·rw[if_pos c] at e;exact⟨p,hp,c,e⟩
 ·rw[if_neg c] at e;exact(aM e).elim
theorem EM{α:Type}{o:Option α} {k:α->Bool} (h:o.any k=true):∃a,o=some a/\k a=true:=by
 cases o with
 |none=>exact(aL h).elim
 |some a=>exact⟨a,rfl,h⟩
theorem K8{g:GV}{v:V} (h:g.zv=some v):g= .cn v:=by
 cases g with
 |cn a=>exact congrArg GV.cn (aR h)
 |_=>exact(aM h).elim
theorem yJ{n:String}{c:V} (h:YF w.params n c=true) (e:c= .bZ ((qx c).1.map .int) (qx c).2):∃u,gQ w.params (Str.ofString n)=some u/\jn w c u:=
 aN (EM (cf h).1) fun u hu q=>⟨u,hu,e▸Ij (of_decide_eq_true (cf h).2) q⟩
theorem K9 (p:String×GV) (a:p∈zu++tF) (v:V) (e:p.2= .cn v):∃u,gQ w.params (Str.ofString p.1)=some u/\jn w v u:=by
 rcases dM.mp a with a|a
 ·obtain ⟨n,g⟩:=p
  obtain rfl:g=_:=e
  exact aN (EM (cG.mp (Vb w.params) _ a)) fun u hu q=>⟨u,hu,Js _ _ q⟩
 ·have k:∀p∈tF,∀v,p.2= .cn v->∃u,gQ w.params (Str.ofString p.1)=some u/\jn w v u:=
   eF.mpr ⟨fun v e=>sa e▸yJ (by kernel_rfl) (by rfl),eF.mpr ⟨fun v e=>sa e▸yJ (by kernel_rfl) (by rfl),eF.mpr ⟨fun v e=>sa e▸yJ (by kernel_rfl) (by rfl),
    eF.mpr ⟨fun v e=>sa e▸⟨_,K6,K7⟩,fun _ h=>(cp h).elim⟩⟩⟩⟩
  exact k p a v e
theorem Ju{x:Str}{v:V} (h:tI x=some v):∃u,gQ w.params x=some u/\jn w v u:=
 dV (oO (f:=GV.zv) h) fun p a e q=>e▸K9 p a v (K8 q)
noncomputable def tJ (x:Str):Option Nat:=qu.findSome? fun p=>if Str.ofString p.1=x then p.2.tH else none
noncomputable def tK (x:Str):Option Nat:=qu.findSome? fun p=>if Str.ofString p.1=x then p.2.cls? else none
theorem La{g:GV}{v:Nat} (h:g.tH=some v):g= .fn v:=by
 cases g with
 |fn a=>exact congrArg GV.fn (aR h)
 |_=>exact(aM h).elim
theorem Jv{g:GV}{v:Nat} (h:g.cls?=some v):g= .cls v:=by
 cases g with
 |cls a=>exact congrArg GV.cls (aR h)
 |_=>exact(aM h).elim
theorem Jw{x:Str}{i:Nat} (h:tJ x=some i):gQ w.params x=some (.ref (fa i)):=by
 refine dV (oO (f:=GV.tH) h) fun p a e q=>?_
 obtain⟨n,g⟩:=p
 obtain rfl:g=_:=La q
 exact e▸beq_iff_eq.mp (cG.mp (EL w.params) _ a)
theorem Jx{x:Str}{i:Nat} (h:tK x=some i):gQ w.params x=some (.ref (ca i)):=by
 refine dV (oO (f:=GV.cls?) h) fun p a e q=>?_
 obtain⟨n,g⟩:=p
 obtain rfl:g=_:=Jv q
 exact e▸beq_iff_eq.mp (cG.mp (EL w.params) _ a)
theorem uy{x:Str}{u:Value}{pos:Pos}{Q:Value->Shared->Prop} (G:ed w h₀ mg mb) (ok:oZ cx env) (R:SR w h₀ s.heap φ μ st) (a:cx.kd x=some .globalImplicit) (hd:(x==("__debug__":Str))=false)
  (h:gQ w.params x=some u) (q:Q u s):wpAny M A (eval (.Name x pos) env) Q E s:=by
 refine Name_function_global ok.fn ((ok.kd x).trans a) (loadGlobal_global (mg:=mg) ?_ (uR G.k1 G.g h) q) hd
 rw[ok.gl];exact G.g.keeps R.base
theorem lx{n:String}{pos:Pos}{Q:Value->Shared->Prop} (G:ed w h₀ mg mb) (ok:oZ cx env) (R:SR w h₀ s.heap φ μ st) (hk:cx.kd (Str.ofString n)=some .globalImplicit) (hn:n∈qw)
  (q:Q (jW n) s):wpAny M A (eval (.Name (Str.ofString n) pos) env) Q E s:=by
 have h:=cG.mp (Vd w.params) _ hn
 refine cA (bK.mp h) fun h h3=>?_
 refine cA (bK.mp h) fun h1 h2=>?_
 have hd:∀n∈qw,(Str.ofString n==("__debug__":Str))=false:=by decide+kernel
 refine Name_function_global ok.fn ((ok.kd _).trans hk) (loadGlobal_builtin (mg:=mg) (mb:=mb) ?_ (uR G.k1 G.g (beq_iff_eq.mp h1)) ?_ ((G.bi _ (bne_iff_ne.mp h3)).trans (beq_iff_eq.mp h2)) q) (hd n hn)
 ·rw[ok.gl];exact G.g.keeps R.base
 ·rw[ok.bi];exact G.b.keeps R.base
theorem aJ.empty{h:Heap}{l:List V} {q:Array Value} (x:aJ w h φ μ l q.toList):(!q.isEmpty)= !l.isEmpty:=by
 rw[<-Array.isEmpty_toList]
 generalize q.toList=z at x
 cases x<;>rfl
theorem aJ.lim{h:Heap}{l:List V} {z:Array Value} (x:aJ w h φ μ l z.toList) (q:l.length<=1048576):(z.size:Int)<2^63:=
 lP (pz.mpr (aK (bt x.length.symm) q)) (by decide)
theorem q0{v:V}{u:Value}{b:Bool}{Q:Bool->Shared->Prop} (e:truth v st=some (b,aB)) (R:SR w h₀ s.heap φ μ st) (x:VR w s.heap φ μ v u)
  (q:∀t,Q b {s with toks:=t}):aB=st/\wpAny (model aF w) A (truthy u) Q E s:=by
 cases v with
 |none=>obtain⟨rfl,rfl⟩:=br e;obtain rfl:=VR.inv x;exact⟨rfl,truthy_none (q s.toks)⟩
 |bool=>obtain⟨rfl,rfl⟩:=br e;obtain rfl:=VR.inv x;exact⟨rfl,wpAny_truthy_bool (q s.toks)⟩
 |int=>obtain⟨rfl,rfl⟩:=br e;obtain⟨_,rfl⟩:=VR.inv x;exact⟨rfl,PyProof.Rows.truthy_int (q s.toks)⟩
 |tup l=>
  refine cA (fk e) fun hl e=>?_
  obtain⟨rfl,rfl⟩:=br e
  obtain⟨f,ho,a⟩:=VR.inv x
  exact⟨rfl,truthy_tuple ⟨_,ho,rfl,_,rfl⟩ (a.lim hl) (a.empty▸q _)⟩
 |lst l=>
  refine cA (fk e) fun hl e=>?_
  obtain⟨rfl,rfl⟩:=br e
  obtain⟨f,ho,a⟩:=VR.inv x
  exact⟨rfl,wpAny_truthy_list ⟨_,ho,rfl,_,rfl⟩ (a.lim hl) (a.empty▸q _)⟩
 |_=>exact(aM e).elim
end
noncomputable def Lb (K:Frag):Bool:=((dW.zip (fK.zip cy)).drop 3).all fun p=>p.2.1.2.all fun m=>findIn K (.ref p.1) (nm m.1)==some (some (.ref (fa m.2)))&&isFn K (.ref (fa m.2))&& !p.2.2.contains m.1&&Nat.blt m.1 104
noncomputable def Lc (K:Frag):Bool:=((dW.zip (fK.zip cy)).drop 3).all fun p=>match p.2.1.1 with
 |some g=>findIn K (.ref p.1) "__init__"==some (some (.ref (fa g)))&&isFn K (.ref (fa g))
 |none=>findIn K (.ref p.1) "__init__"==some (some (.builtin "object.__init__"))
theorem Jy (P:Params):Lb (kF P)=true:=by kernel_rfl
theorem Jz (P:Params):Lc (kF P)=true:=by kernel_rfl
theorem A7{c:Nat}{C:Addr}{k:Option Nat×List (Nat×Nat)} (h3:3<=c) (h1:dW[c]?=some C) (h2:fK[c]?=some k):(C,(k,(cy[c]?).getD []))∈(dW.zip (fK.zip cy)).drop 3:=by
 have hl:cy.length=fK.length:=by decide+kernel
 have hc:=(et.mp h2).1
 have h4:cy[c]?=some ((cy[c]?).getD []):=by
  rw[iq (hl▸hc)];rfl
 have:(fK.zip cy)[c]?=some (k,(cy[c]?).getD []):=by rw[sA];exact⟨h2,h4⟩
 have:(dW.zip (fK.zip cy))[c]?=some (C,(k,(cy[c]?).getD [])):=by rw[sA];exact⟨h1,this⟩
 have:((dW.zip (fK.zip cy)).drop 3)[c-3]?=some (C,(k,(cy[c]?).getD [])):=by rw[List.getElem?_drop,ni h3];exact this
 exact iY this
section
variable {M:Model}
theorem SR.grow{l:Loc}{ob:Ob}{t:Nat} (R:SR w h₀ s.heap φ μ st) (k:∀a o,s.heap.get? a=some o->h'.get? a=some o) (E:s.heap.get? l.a=none) (dd:s.heap.get? l.d=none)
  (Q:(h'.get? l.a).isSome=true) (ld:(h'.get? l.d).isSome=true) (ho:e8 w h' φ (μ++[l]) l ob):Ext s {s with heap:=h',toks:=t} φ φ μ (μ++[l])/\SR w h₀ h' φ (μ++[l]) (st++[ob]):=by
 have lv:∀a,(s.heap.get? a).isSome=true->(h'.get? a).isSome=true:=fun a e=>by
  refine cE (fP.mp e) fun o ho=>?_;rw[k a o ho];rfl
 have J:∀a,a∈di [l]->a=l.a\/a=l.d:=fun a z=>by simpa[di] using z
 have H:∀a,a∈di [l]->s.heap.get? a=none:=fun a z=>by rcases J a z with rfl|rfl;exact E;exact dd
 have x:Ext s {s with heap:=h',toks:=t} φ φ μ (μ++[l]):=⟨fun a o e _=>k a o e,lv,fun _ e=>e,fun _ e n=>absurd e n,⟨[l],rfl,H⟩,rfl,rfl⟩
 have L:=x.mono R
 have ne:∀(i:Nat) (m:Loc),μ[i]?=some m->m.a≠l.a/\m.a≠l.d/\m.d≠l.a/\m.d≠l.d:=fun i m hm=>by
  refine cA (iN hm) fun m1 m2=>?_
  have C:=(R.off _ m1).2.2
  have D:=(R.off _ m2).2.2
  refine⟨fun q=>?_,fun q=>?_,fun q=>?_,fun q=>?_⟩
  ·rw[q,E] at C;exact(aL C).elim
  ·rw[q,dd] at C;exact(aL C).elim
  ·rw[q,E] at D;exact(aL D).elim
  ·rw[q,dd] at D;exact(aL D).elim
 have ge:∀(i:Nat) (m:Loc),(μ++[l])[i]?=some m->μ[i]?=some m\/(i=μ.length/\m=l):=fun i m hm=>by
  rcases kl i μ.length with q|q
  ·rw[fG q] at hm;exact .inl hm
  ·rw[ft q] at hm
   cases e:i-μ.length with
   |zero=>rw[e] at hm;obtain rfl:=aR hm;exact .inr ⟨by exact sF q e,rfl⟩
   |succ n=>rw[e] at hm;exact(aM hm).elim
 refine⟨x,fun a o e=>k a o (R.base a o e),by simp[R.len],fun i I A=>?_,fun a z=>?_,fun i j m n hm U O=>?_,fun a f=>lv a (R.fz a f),R.sys⟩
 ·rcases kl i st.length with q|q
  ·rw[fG q] at A
   refine aN (R.obs i I A) fun m hm r=>?_
   exact⟨m,L.mu i m hm,r.mono L fun a _ o e=>k a o e⟩
  ·rw[ft q] at A
   cases e:i-st.length with
   |zero=>
    rw[e] at A;obtain rfl:=aR A
    have:i=μ.length:=by rw[R.len];exact sF q e
    subst this
    exact⟨l,by simp,ho⟩
   |succ n=>rw[e] at A;exact(aM A).elim
 ·rw[gY,dM] at z
  rcases z with z|z
  ·refine dP (R.off a z) fun C D Y=>?_
   exact⟨C,D,lv a Y⟩
  ·refine ⟨fun f=>?_,?_,?_⟩
   ·have:=R.fz a f;rw[H a z] at this;exact(aL this).elim
   ·cases q:h₀.get? a with
    |none=>rfl
    |some o=>have:=R.base a o q;rw[H a z] at this;exact(aM this).elim
   ·rcases J a z with rfl|rfl;exact Q;exact ld
 ·rcases ge i m hm with q|⟨q,rfl⟩<;>rcases ge j n U with r|⟨r,rfl⟩
  ·exact R.apart i j m n q r O
  ·exact ne i m q
  ·refine Ez (ne j n r) fun a1 a2 a3 a4=>?_
   exact⟨a1.symm,a3.symm,a2.symm,a4.symm⟩
  ·exact absurd (q.trans r.symm) O
theorem SR.QY{ob:Ob}{o:Obj} (R:SR w h₀ s.heap φ μ st) (hf:o.isFreed=false) (ho:∀{h'},h'.get? s.heap.objs.size=some o->cN s.heap h' φ φ μ (μ++[⟨s.heap.objs.size,s.heap.objs.size⟩])->e8 w h' φ (μ++[⟨s.heap.objs.size,s.heap.objs.size⟩]) ⟨s.heap.objs.size,s.heap.objs.size⟩ ob):
  Ext s {s with heap:=s.heap.push o} φ φ μ (μ++[⟨s.heap.objs.size,s.heap.objs.size⟩])/\SR w h₀ (s.heap.push o) φ (μ++[⟨s.heap.objs.size,s.heap.objs.size⟩]) (st++[ob]):=by
 have g:=eE s.heap hf
 have lv:((s.heap.push o).get? s.heap.objs.size).isSome=true:=by rw[g];rfl
 refine R.grow (l:=⟨s.heap.objs.size,s.heap.objs.size⟩) (t:=s.toks) (fun a q e=>gi o e) (eR _) (eR _) lv lv (ho g ?_)
 refine⟨fun a _ q e=>gi o e,fun _ f=>f,fun i l e=>?_⟩
 rw[fG (et.mp e).1];exact e
structure yK (A:Around) (n:Nat):Prop where
 hd:A.handled=none
 dp:A.depth+2*n<=999
 un:A.units+10*n+500<=cLine
structure nL (w:World) (h₀:Heap) (K:cF) (A:Around):Prop where
 fn:∀f vs st v aB,K.fn f vs st=some (v,aB)->∀s φ μ us Q E,(∀a∈eQ,φ a)->SR w h₀ s.heap φ μ st->aJ w s.heap φ μ vs us->bz w h₀ s φ μ aB v Q->wpAny (model aF w) A (call (.ref (fa f)) us) Q E s
 new:∀c vs st v aB,3<=c->K.new c vs st=some (v,aB)->∀s φ μ us Q E,(∀a∈eQ,φ a)->SR w h₀ s.heap φ μ st->aJ w s.heap φ μ vs us->bz w h₀ s φ μ aB v Q->wpAny (model aF w) A (call (.ref (ca c)) us) Q E s
 aZ:∀o f st g aB,K.aZ o f st=some (g,aB)->∀s φ μ u,SR w h₀ s.heap φ μ st->VR w s.heap φ μ o u->aB=st/\g<124/\∃x,u= .ref x/\∀pl Q E,Q (.ref (fa g),[.ref x]) s->wpAny (model aF w) A (getMethod (.ref x) (nm f) pl) Q E s
def mI (w:World) (h₀:Heap) (n:Nat):Prop:=∀A,yK A n->∀f vs st v aB,run PP n f vs st=some (v,aB)->∀s φ μ b R,(∀a∈eQ,φ a)->SR w h₀ s.heap φ μ st->aJ w s.heap φ μ vs b->
 bz w h₀ s φ μ aB v (fun u s'=>R (.ok (.ret u)) s')->codeAny (model aF w) A (.call (.ref (fa f)) ⟨b,[]⟩) R s
end
noncomputable def oP (P:Prog) (n:Nat):cF:=mR P (run P n)
theorem Ik (P:Prog) (n f:Nat) (vs:List V):run P (n+1) f vs=(match P.fn f with
  |Option.none=>fail
  |some d=>if P.ar f==vs.length then cM (oP P n) (fC d.n vs) d.body>>=fin else fail):=rfl
structure lK (A:Around) (n:Nat):Prop where
 hd:A.handled=none
 dp:A.depth+2*n+1<=999
 un:A.units+10*n+505<=cLine
theorem lK.room{A:Around}{n:Nat} (b:lK A n):yK A n:=⟨b.hd,by have:=b.dp;exact TH this,by have:=b.un;exact TJ this⟩
theorem lK.make{A:Around}{n:Nat} (b:lK A n) (C:Addr) (q:List Value):yK (A.under (.builtin "type.__call__" ⟨.ref C::q,[]⟩)) n:=
 ⟨b.hd,by show A.depth+1+2*n<=999;have:=b.dp;exact TL this,by show A.units+1+10*n+500<=cLine;have:=b.un;exact TM this⟩
section
variable {M:Model}
theorem Ld{c:Nat}{k:Option Nat×List (Nat×Nat)} (h:fK[c]?=some k):dW[c]?=some (ca c):=by
 have hl:dW.length=fK.length:=by decide+kernel
 have:=(et.mp h).1
 unfold ca
 rw[iq (hl▸this)];rfl
theorem A8{c:Nat}{x:Option Nat×(Nat->Option Nat)} (h:PP.cls c=some x):∃k,fK[c]?=some k/\x=(k.1,fun f=>k.2.lookup f):=by
 refine aN (wj.mp (show(fK[c]?).map (fun x=>(x.1,fun f=>x.2.lookup f))=some x from h)) fun k a e=>?_
 exact⟨k,a,e.symm⟩
theorem uf{f g:Nat}:∀{l:List (Nat×Nat)},l.lookup f=some g->(f,g)∈l
 |(a,b)::r,h=>by
  rw[fH] at h
  split at h
  ·rename_i q;obtain rfl:=aR h;rw[beq_iff_eq.mp q];exact .head _
  ·exact .tail _ (uf h)
theorem Aa{f:Nat}:∀{c:List (Nat×V)},(∀p∈c,p.1≠f)->c.lookup f=none
 |[],_=>rfl
 |(a,b)::r,h=>by
  have:=h (a,b) (.head _)
  rw[fH]
  split
  ·rename_i q;exact absurd (beq_iff_eq.mp q).symm this
  ·exact Aa fun p d=>h p (.tail _ d)
theorem Il:(fK.all fun k=>k.2.all fun m=>Nat.blt m.2 124)=true:=by decide+kernel
set_option tactic.hygienic true
theorem JA{n:Nat}{o:V}{f g:Nat} (X:(kF w.params).In h₀) (e:(oP PP n).aZ o f st=some (g,aB)) {u:Value} (R:SR w h₀ s.heap φ μ st) (y:VR w s.heap φ μ o u):
  aB=st/\g<124/\∃x,u= .ref x/\∀pl Q E,Q (.ref (fa g),[.ref x]) s->wpAny (model aF w) A (getMethod (.ref x) (nm f) pl) Q E s:=by
 cases o with
 |obj i=>
  obtain⟨ob,eA,e1,e2⟩:=bind_some (show(cU i>>=fun o=>_) st=some (g,aB) from e)
  refine cA (oz e1) fun o3 ho=>?_;obtain rfl:=o3
  cases ob with
  |inst c fs=>
   refine cA (cX e2) fun xG e3=>?_;obtain rfl:=xG
   refine aN (sD.mp e3) fun x hx e4=>?_
   refine aN (A8 hx) fun k hk QZ=>?_;obtain rfl:=QZ
   refine aN (R.obs _ _ ho) fun l hl o=>?_
   obtain⟨_,hm,rfl⟩:=VR.inv y
   rw[hl] at hm;obtain rfl:=aR hm
   cases o with
   |inst h1 h2 h3 h4 h5 h6=>
   rename_i C sl es n
   have m:=cG.mp (cG.mp (Jy w.params) _ (A7 h5 h1 hk)) _ (uf e4)
   refine cA (bK.mp m) fun m m4=>?_
   refine cA (bK.mp m) fun m m3=>?_
   refine cA (bK.mp m) fun m1 m2=>?_
   dsimp only at m1 m2 m3 m4
   have m4:f<104:=aX m4
   have b1:=cG.mp (Ae w.params) (C,(cy[c]?).getD []) (uW h5 h1 (by
    have hl:cy.length=fK.length:=by decide+kernel
    rw[iq (hl▸(et.mp hk).1)];rfl))
   refine cA (bK.mp b1) fun b1 b2=>?_
   refine aN (e7.find m4 h4 (fun p hp=>lD (h6 p hp))) fun r hr oo=>?_
   have hn:fs.lookup f=none:=Aa fun p hp q=>by
    have:=h6 p hp
    rw[q] at this
    rw[this] at m3;exact(aL m3).elim
   rw[hn] at oo
   cases oo
   refine⟨rfl,aX (cG.mp (cG.mp Il _ (iY hk)) _ (uf e4)),_,rfl,fun pl Q E q=>?_⟩
   exact method_fn (X.keeps R.base) (C:=C) (od:=some _) ⟨h2,rfl,rfl,h3⟩ (plainGet_of b1).1 (plainGet_of b1).2 (beq_iff_eq.mp m1) (beq_iff_eq.mp m2) (by show(lookIn (nm f) (dictOf es n)).map _=_;rw[lookIn_dict,hr];rfl) q
  |_=>exact(aM e2).elim
 |_=>exact(aM e).elim
theorem JB{n c:Nat} {vs:List V} {v:V} (X:(kF w.params).In h₀) (C:mI w h₀ n) (B:lK A n) (h3:3<=c) (e:(oP PP n).new c vs st=some (v,aB)) {us:List Value} {Q:Value->Shared->Prop} (ph:∀a∈eQ,φ a)
  (R:SR w h₀ s.heap φ μ st) (y:aJ w s.heap φ μ vs us) (p:bz w h₀ s φ μ aB v Q):wpAny (model aF w) A (call (.ref (ca c)) us) Q E s:=by
 refine wpAny_call ?_
 unfold oP mR at e
 dsimp only at e
 generalize hc:PP.cls c=q at e
 cases q with
 |none=>exact(aM e).elim
 |some q=>
  obtain⟨k,hk,rfl⟩:=A8 hc
  have h1:=Ld hk
  have hlen:cy.length=fK.length:=by decide+kernel
  have h2:cy[c]?=some ((cy[c]?).getD []):=by
   rw[iq (hlen▸(et.mp hk).1)];rfl
  have mk:=cG.mp (Af w.params) _ (uW h3 h1 h2)
  have ik:=cG.mp (Jz w.params) _ (A7 h3 h1 hk)
  dsimp only at mk ik
  obtain⟨o,eA,e1,e2⟩:=bind_some e
  obtain⟨rfl,rfl⟩:=br e1
  have XX:=X.keeps R.base
  have Y:=makes_of (M:=model aF w) XX mk
  have grown:Ext s {s with heap:=(s.heap.push emptyDict).push (instObj (ca c) s.heap.objs.size)} φ φ μ (μ++[⟨s.heap.objs.size+1,s.heap.objs.size⟩])/\
    SR w h₀ ((s.heap.push emptyDict).push (instObj (ca c) s.heap.objs.size)) φ (μ++[⟨s.heap.objs.size+1,s.heap.objs.size⟩]) (st++[.inst c []]):=by
   have k:∀b o,s.heap.get? b=some o->((s.heap.push emptyDict).push (instObj (ca c) s.heap.objs.size)).get? b=some o:=fun b o e=>gi _ (gi _ e)
   have g1:((s.heap.push emptyDict).push (instObj (ca c) s.heap.objs.size)).get? (s.heap.objs.size+1)=some (instObj (ca c) s.heap.objs.size):=by
    have:=eE (s.heap.push emptyDict) (o:=instObj (ca c) s.heap.objs.size) rfl
    rwa [Heap.size_push] at this
   have g2:((s.heap.push emptyDict).push (instObj (ca c) s.heap.objs.size)).get? s.heap.objs.size=some emptyDict:=gi _ (eE _ rfl)
   refine R.grow (l:=⟨s.heap.objs.size+1,s.heap.objs.size⟩) (t:=s.toks) k ?_ (eR _) (by rw[g1];rfl) (by rw[g2];rfl) (.inst (sl:=#[]) (es:=[]) (n:=0) h1 g1 g2 .nil h3 (fun _ h=>nomatch h))
   cases q:s.heap.get? (s.heap.objs.size+1) with
   |none=>rfl
   |some o=>exact absurd (jJ q) (Nat.not_lt.mpr (dZ _))
  obtain⟨x1,R1⟩:=grown
  have vo:VR w ((s.heap.push emptyDict).push (instObj (ca c) s.heap.objs.size)) φ (μ++[⟨s.heap.objs.size+1,s.heap.objs.size⟩]) (.obj st.length) (.ref (s.heap.objs.size+1)):=
   .obj (l:=⟨s.heap.objs.size+1,s.heap.objs.size⟩) (by rw[<-R.len];simp)
  obtain⟨k1,k2⟩:=k
  dsimp only at e2 ik
  cases k1 with
  |none=>
   dsimp only at e2 ik
   split at e2
   ·rename_i hv
    obtain⟨rfl,rfl⟩:=br e2
    have:vs=[]:=nj.mp hv
    subst this
    cases y
    have t1:Looks (model aF w) ((s.heap.push emptyDict).push (instObj (ca c) s.heap.objs.size)) (typeOf (.ref (s.heap.objs.size+1))) (.ref (ca c)):=by
     have g1:((s.heap.push emptyDict).push (instObj (ca c) s.heap.objs.size)).get? (s.heap.objs.size+1)=some (instObj (ca c) s.heap.objs.size):=by
      have:=eE (s.heap.push emptyDict) (o:=instObj (ca c) s.heap.objs.size) rfl
      rwa [Heap.size_push] at this
     exact(Looks.ld g1).andThen .now
    have t2:Looks (model aF w) ((s.heap.push emptyDict).push (instObj (ca c) s.heap.objs.size)) (isInstance (.ref (s.heap.objs.size+1)) (.type "object")) true:=
     t1.andThen (Y.top.keeps fun b o e=>gi _ (gi _ e))
    have z:=p _ _ _ _ x1 R1 vo
    obtain⟨hh,g,d,t,os⟩:=s
    refine make_core Y (looks_findIn XX (beq_iff_eq.mp ik)) (fun self=>Looks.of_pure (oi_bind self)) (.inr ⟨rfl,rfl⟩) ?_
    refine codeAny_call_builtin oi_plain entry_oi (@check_slot (model aF w) _ _ _ "object.__init__" "object" "__init__" (.ref (hh.objs.size+1)) [] [] _ oi_kind oi_split t2 (oi_args (.ref (hh.objs.size+1))) ?_)
    rw[oi_run]
    exact wpAny_pure (And.intro rfl z)
   ·exact (aM e2).elim
  |some g=>
   dsimp only at e2 ik
   obtain⟨YG,YH⟩:=bK.mp ik
   obtain⟨r,iV,e3,e4⟩:=bind_some e2
   cases r with
   |none=>
    obtain⟨rfl,rfl⟩:=br e4
    have cc:=C (A.under (.builtin "type.__call__" ⟨.ref (ca c)::us,[]⟩)) (B.make _ _) g _ _ _ _ e3 {s with heap:=(s.heap.push emptyDict).push (instObj (ca c) s.heap.objs.size)} φ _ (.ref (s.heap.objs.size+1)::us)
     (InitBack (s.heap.objs.size+1) fun r s'=>match r with| .ok (.ret v)=>Q v s'| .ok _=>False| .error e=>E e s') ph R1 (.cons vo (y.mono (x1.mono R)))
     (fun u s' aD aE x' R' v'=>⟨by obtain rfl:=VR.inv v';rfl,p _ _ _ _ (x1.trans x') R' (vo.mono (x'.mono R1))⟩)
    obtain⟨hh,g',d,t,os⟩:=s
    exact make_core Y (looks_findIn XX (beq_iff_eq.mp YG)) (fun self=>bind_fn XX self (beq_iff_eq.mp YH)) (.inl rfl) cc
   |_=>exact(aM e4).elim
theorem JC{n:Nat} (X:(kF w.params).In h₀) (C:mI w h₀ n) (B:lK A n):nL w h₀ (oP PP n) A:=
 ⟨fun _ _ _ _ _ e _ _ _ _ _ _ ph R y p=>wpAny_call (C A B.room _ _ _ _ _ e _ _ _ _ _ ph R y p),fun _ _ _ _ _ a e _ _ _ _ _ _ ph R y p=>JB X C B a e ph R y p,fun _ _ _ _ _ e _ _ _ _ R y=>JA X e R y⟩
end
noncomputable def putK{K:Type} [DecidableEq K] (k:K) (v:V):List (K×V)->List (K×V)
 |[]=>[(k,v)]
 |(a,b)::r=>if a=k then(a,v)::r else(a,b)::putK k v r
theorem rM{K:Type} [DecidableEq K] {a k:K} {v b:V} {r:List (K×V)} {C:List (K×V)->Prop} (h1:a=k->C ((a,v)::r)) (h2:a≠k->C ((a,b)::putK k v r)):C (putK k v ((a,b)::r)):=by
 show C (if a=k then _ else _)
 by_cases e:a=k
 ·rw[if_pos e];exact h1 e
 ·rw[if_neg e];exact h2 e
theorem uG{K:Type} [DecidableEq K] (f:K->V) (k:K) (v:V) (ks:List (K×V)) (h:∀p∈ks,V.dX (f p.1) (f k)=some (decide (p.1=k))):
  bY (f k) v (ks.map fun p=>(f p.1,p.2))=some ((putK k v ks).map fun p=>(f p.1,p.2)):=by
 induction ks with
 |nil=>rfl
 |cons p r ih=>
  have a:=h p (.head _)
  refine rM (C:=fun l=>bY (f k) v ((f p.1,p.2)::r.map fun p=>(f p.1,p.2))=some (l.map fun p=>(f p.1,p.2))) (fun q=>?_) fun q=>?_
  ·rw[decide_eq_true q] at a;exact Cc a
  ·rw[decide_eq_false q] at a
   rw[vS a,ih fun p b=>h p (.tail _ b)];rfl
theorem Im{K:Type} [DecidableEq K] {P:K->Prop} {k:K} {v:V} (b:P k) {ks:List (K×V)} (h:∀p∈ks,P p.1):∀p∈putK k v ks,P p.1:=by
 induction ks with
 |nil=>exact eF.mpr ⟨b,fun _ h=>(cp h).elim⟩
 |cons p r ih=>exact rM (C:=fun l=>∀p∈l,P p.1) (fun _=>eF.mpr ⟨h p (.head _),fun _ a=>h _ (.tail _ a)⟩) fun _=>eF.mpr ⟨h p (.head _),ih fun p a=>h p (.tail _ a)⟩
theorem Ac{K:Type} [DecidableEq K] {a k:K} {b v:Value} {r:List (K×Value)} (nd:a∉r.map (·.1)):stored ((a,b)::r) k v=if a=k then(a,v)::r else(a,b)::stored r k v:=by
 unfold stored
 by_cases q:a=k
 ·subst q
  rw[if_pos rfl,List.any_cons,decide_eq_true rfl,Bool.true_or,if_pos rfl,eV,if_pos rfl,map_store_of_not_mem r a v nd]
 ·rw[if_neg q,List.any_cons,decide_eq_false q,Bool.false_or,eV,if_neg q]
  split<;>rfl
theorem Ah{K K':Type} [DecidableEq K] [DecidableEq K'] (g:K->K') (k:K) {v:V} {u:Value} (y:VR w h φ μ v u) (ks:List (K×V)) (a:∀p∈ks,(g p.1=g k↔p.1=k)):∀(kvs:List (K'×Value)),kvs.map (·.1)=ks.map (fun p=>g p.1)->(kvs.map (·.1)).Nodup->
  aJ w h φ μ (ks.map (·.2)) (kvs.map (·.2))->(stored kvs (g k) u).map (·.1)=(putK k v ks).map (fun p=>g p.1)/\aJ w h φ μ ((putK k v ks).map (·.2)) ((stored kvs (g k) u).map (·.2)):=by
 induction ks with
 |nil=>intro kvs e _ _;obtain rfl:=map_nil e;exact⟨rfl,.cons y .nil⟩
 |cons p ks ih=>
  intro kvs e nd f
  cases kvs with
  |nil=>exact nomatch e
  |cons c kvs=>
   obtain⟨b,i⟩:=gm e
   obtain⟨n1,n2⟩:=pI.mp nd
   cases f with
   |cons j d=>
   refine rM (C:=fun l=>(stored (c::kvs) (g k) u).map (·.1)=l.map (fun p=>g p.1)/\aJ w h φ μ (l.map (·.2)) ((stored (c::kvs) (g k) u).map (·.2))) (fun q=>?_) fun q=>?_
   ·rw[Ac n1,if_pos (b.trans ((a p (.head _)).mpr q))]
    exact⟨e,.cons y d⟩
   ·rw[Ac n1,if_neg fun z=>q ((a p (.head _)).mp (b.symm.trans z))]
    have h:=ih (fun p m=>a p (.tail _ m)) kvs i n2 d
    exact⟨by rw[eV,h.1,b];rfl,.cons j h.2⟩
theorem Ab{K:Type} [DecidableEq K] {a k:K} {b:Addr×Value} {ka:Addr} {v:Value} {r:List (K×Addr×Value)} (nd:a∉r.map (·.1)):storedH ((a,b)::r) k ka v=if a=k then(a,b.1,v)::r else(a,b)::storedH r k ka v:=by
 unfold storedH
 by_cases q:a=k
 ·subst q
  have:atKey ((a,b)::r) a=some b:=by simp[atKey]
  rw[if_pos rfl,this,Option.isSome_some,if_pos rfl,eV,map_putAt_of_not_mem r a v nd,putAt,if_pos rfl]
 ·have:atKey ((a,b)::r) k=atKey r k:=by simp[atKey,q]
  rw[if_neg q,this,eV,putAt,if_neg q]
  split<;>rfl
theorem GP (k:TK) {v:V} {u:Value} {ka:Addr} (y:VR w h φ μ v u) (z:VR w h φ μ (dR k) (.ref ka)) (ks:List (TK×V)):∀(a:List (TK×Addr×Value)),a.map (·.1)=ks.map (·.1)->(a.map (·.1)).Nodup->
  (∀x∈a,VR w h φ μ (dR x.1) (.ref x.2.1))->aJ w h φ μ (ks.map (·.2)) (a.map (·.2.2))->
  (storedH a k ka u).map (·.1)=(putK k v ks).map (·.1)/\(∀x∈storedH a k ka u,VR w h φ μ (dR x.1) (.ref x.2.1))/\aJ w h φ μ ((putK k v ks).map (·.2)) ((storedH a k ka u).map (·.2.2)):=by
 induction ks with
 |nil=>intro a e _ _ _;obtain rfl:=map_nil e;exact⟨rfl,eF.mpr ⟨z,fun _ h=>(cp h).elim⟩,.cons y .nil⟩
 |cons p ks ih=>
  intro a e nd c g
  cases a with
  |nil=>exact nomatch e
  |cons b a=>
   obtain⟨d,i⟩:=gm e
   obtain⟨n1,n2⟩:=pI.mp nd
   have kt:=fun x j=>c x (.tail _ j)
   cases g with
   |cons m f=>
   refine rM (C:=fun l=>(storedH (b::a) k ka u).map (·.1)=l.map (·.1)/\(∀x∈storedH (b::a) k ka u,VR w h φ μ (dR x.1) (.ref x.2.1))/\aJ w h φ μ (l.map (·.2)) ((storedH (b::a) k ka u).map (·.2.2))) (fun q=>?_) fun q=>?_
   ·rw[Ab n1,if_pos (d.trans q)]
    exact⟨e,eF.mpr ⟨c b (.head _),kt⟩,.cons y f⟩
   ·rw[Ab n1,if_neg fun z=>q (d.symm.trans z)]
    have h:=ih a i n2 kt f
    exact⟨by rw[eV,h.1,d];rfl,eF.mpr ⟨c b (.head _),h.2.1⟩,.cons m h.2.2⟩
theorem DR.Q0{a:Addr}{l l':List (V×V)} {i:Int} {v:V} (d:DR w h φ μ a l) (e:bY (.int i) v l=some l'):
  ∃(ks:List (Int×V)) (kvs:List (Int×Value)),l=ks.map nK/\h.DictOf (intKind aF w) a kvs/\kvs.map (·.1)=ks.map (·.1)/\aJ w h φ μ (ks.map (·.2)) (kvs.map (·.2)):=by
 cases d with
 |int ks kvs q A v=>exact⟨ks,kvs,rfl,q,A,v⟩
 |str ks kvs q A z v=>cases ks with
  |nil=>obtain rfl:=map_nil A;exact⟨[],[],rfl,ov q,rfl,.nil⟩
  |cons x ks=>exact(aM e).elim
 |tup ks kvs q A z v=>cases ks with
  |nil=>obtain rfl:=map_nil A;exact⟨[],[],rfl,mA q,rfl,.nil⟩
  |cons x ks=>exact(aM e).elim
theorem DR.Q1{a:Addr}{l l':List (V×V)} {i:Nat} {v:V} (d:DR w h φ μ a l) (e:bY (.str i) v l=some l'):
  ∃(ks:List (Nat×V)) (kvs:List (Str×Value)),l=ks.map sU/\h.DictOf (strKind aF w) a kvs/\kvs.map (·.1)=ks.map (fun p=>nm p.1)/\(∀p∈ks,p.1<104)/\aJ w h φ μ (ks.map (·.2)) (kvs.map (·.2)):=by
 cases d with
 |int ks kvs q A v=>cases ks with
  |nil=>obtain rfl:=map_nil A;exact⟨[],[],rfl,ov q,rfl,fun _ h=>(cp h).elim,.nil⟩
  |cons x ks=>exact(aM e).elim
 |str ks kvs q A z v=>exact⟨ks,kvs,rfl,q,A,z,v⟩
 |tup ks kvs q A z v=>cases ks with
  |nil=>obtain rfl:=map_nil A;exact⟨[],[],rfl,mA q,rfl,fun _ h=>(cp h).elim,.nil⟩
  |cons x ks=>exact(aM e).elim
theorem DR.Q2{a:Addr}{l l':List (V×V)} {k:TK} {v:V} (d:DR w h φ μ a l) (e:bY (dR k) v l=some l'):
  ∃(ks:List (TK×V)) (A:List (TK×Addr×Value)),l=ks.map sT/\h.DictOfH (h8 w) a A/\A.map (·.1)=ks.map (·.1)/\(∀x∈A,VR w h φ μ (dR x.1) (.ref x.2.1))/\aJ w h φ μ (ks.map (·.2)) (A.map (·.2.2)):=by
 cases d with
 |int ks kvs q C v=>cases ks with
  |nil=>obtain rfl:=map_nil C;exact⟨[],[],rfl,qZ q,rfl,fun _ h=>(cp h).elim,.nil⟩
  |cons x ks=>exact(aM e).elim
 |str ks kvs q C z v=>cases ks with
  |nil=>obtain rfl:=map_nil C;exact⟨[],[],rfl,qZ q,rfl,fun _ h=>(cp h).elim,.nil⟩
  |cons x ks=>exact(aM e).elim
 |tup ks A q C z v=>exact⟨ks,A,rfl,q,C,z,v⟩
theorem BG{K:Type} [DecidableEq K] {k:KeyKind aF w K} {a:Addr} {kvs:List (K×Value)} (d:h.DictOf k a kvs):(kvs.map (·.1)).Nodup:=let ⟨_,_,_,_,_,_,_,_,n⟩:=d;n
theorem Io{a:Addr}{b:List (TK×Addr×Value)} (d:h.DictOfH (h8 w) a b):(b.map (·.1)).Nodup:=let ⟨_,_,_,_,_,_,_,_,n⟩:=d;n
theorem uH{α β a:Type} {f:α->a} {g:β->a} {k:β->V×V} {b:List α} {ks:List β} {l:List (V×V)} (e:b.map f=ks.map g) (hl:l=ks.map k):b.length=l.length:=
 (eU f).symm.trans ((congrArg List.length e).trans ((eU g).trans ((eU k).symm.trans (congrArg List.length hl).symm)))
theorem DR.EN{a:Addr}{l l':List (V×V)} {i:Int} {v:V} {u:Value} (d:DR w h φ μ a l) (y:VR w h φ μ v u) (e:bY (.int i) v l=some l'):
  ∃kvs,h.DictOf (intKind aF w) a kvs/\kvs.length=l.length/\∀h',h'.DictOf (intKind aF w) a (stored kvs i u)->cN h h' φ φ μ μ->DR w h' φ μ a l':=
 da (d.Q0 e) fun ks kvs hl q z A=>
  have C:(putK i v ks).map nK=l':=aR ((uG V.int i v ks fun p _=>rfl).symm.trans (hl▸e))
  have h:=Ah (K':=Int) id i y ks (fun p _=>Iff.rfl) kvs z (BG q) A
  ⟨kvs,q,uH z hl,fun _ hd D=>C▸.int (putK i v ks) _ hd h.1 (h.2.mono D)⟩
theorem DR.EO{a:Addr}{l l':List (V×V)} {i:Nat} {v:V} {u:Value} (d:DR w h φ μ a l) (y:VR w h φ μ v u) (D:i<104) (e:bY (.str i) v l=some l'):
  ∃kvs,h.DictOf (strKind aF w) a kvs/\kvs.length=l.length/\∀h',h'.DictOf (strKind aF w) a (stored kvs (nm i) u)->cN h h' φ φ μ μ->DR w h' φ μ a l':=
 uS (d.Q1 e) fun ks kvs hl q E z H=>
  have A:∀p∈ks,(nm p.1=nm i↔p.1=i):=fun p C=>⟨rK (z p C) D,congrArg nm⟩
  have I:(putK i v ks).map sU=l':=aR ((uG V.str i v ks fun p C=>(BD (z p C) D).trans (congrArg some (decide_eq_decide.mpr (A p C)))).symm.trans (hl▸e))
  have h:=Ah (K':=Str) nm i y ks A kvs E (BG q) H
  ⟨kvs,q,uH E hl,fun _ hd J=>I▸.str (putK i v ks) _ hd h.1 (Im (P:=fun n=>n<104) D z) (h.2.mono J)⟩
theorem q4{K:Type} [DecidableEq K] {k:KeyKind aF w K} {a:Addr} {kvs:List (K×Value)} (d:h.DictOf k a kvs):(h.get? a).isSome=true:=let ⟨_,_,_,ho,_⟩:=d;by rw[ho];rfl
theorem DR.store{a:Addr}{l l':List (V×V)} {k v:V} {L u:Value} {Q:Unit->Shared->Prop} (d:DR w s.heap φ μ a l) (x:VR w s.heap φ μ k L) (y:VR w s.heap φ μ v u) (J:keyOk k=true) (hl:l.length<=1048576) (e:bY k v l=some l')
  (hu:A.units+100<cLine) (p:∀h' t,Heap.SameBut a s.heap h'->(h'.get? a).isSome=true->(cN s.heap h' φ φ μ μ->DR w h' φ μ a l')->Q () {s with heap:=h',toks:=t}):wpAny (model aF w) A (PySem.setItem (.ref a) L u) Q E s:=by
 have small:∀{n:Nat},n=l.length->n<=sizeLine:=fun I=>by rw[sizeLine_eq];exact TN hl I
 cases k with
 |int i=>
  obtain⟨t,rfl⟩:=x.inv
  exact dV (d.EN y e) fun kvs q C h=>wpAny_setItem_pairs (knd:=intKind aF w) (intKind_is aF w i t) q (fun h' hd C=>p h' _ C (q4 hd) (h h' hd)) (small C)
 |str i=>
  obtain⟨t,rfl⟩:=x.inv
  exact dV (d.EO y (of_decide_eq_true J) e) fun kvs q C h=>wpAny_setItem_pairs (knd:=strKind aF w) (strKind_is aF w _ t) q (fun h' hd C=>p h' _ C (q4 hd) (h h' hd)) (small C)
 |tup m=>
  obtain⟨D,rfl⟩:=AX J
  refine uS (d.Q2 (k:=D) e) fun ks Y H q I z v1=>?_
  have e2:(putK D v ks).map sT=l':=aR ((uG dR D v ks fun p _=>Ca p.1 D).symm.trans (H▸e))
  obtain⟨f,ho,hv⟩:=x.inv
  have O:VR w s.heap φ μ (dR D) (.ref _):= .tup f ho hv
  refine dP (GP D y O ks Y I (Io q) z v1) fun h1 h2 h3=>?_
  exact wpAny_setItem_heap (knd:=h8 w) (by show A.units+1+80<cLine;exact yn hu) (oX O) q (fun h' hd C=>p h' _ C (by obtain⟨o,_,_,ho,_⟩:=hd;rw[ho];rfl) fun U=>e2▸.tup (putK D v ks) _ hd h1 (fun x hx=>(h2 x hx).mono U) (h3.mono U)) (small (uH I H))
 |_=>exact(aL J).elim
theorem uY{h:Heap}{a:Addr}{b:Array Value} {n:Nat} (ho:IsL h a b n) (f:Array Value->Array Value):∃c,IsL (h.update a (Obj.mapSeq f)) a (f b) c:=
 ⟨_,sC (Obj.mapSeq f) ho rfl⟩
theorem Ax{e:Program}{l:Addr}{a:Array Value} {n:Nat} {k:Int} {t:Tok} {v:Value} {Q:Unit->Shared->Prop} (b:IsL s.heap l a n)
  (g:0<=k) (c:k<2^63) (m:k<a.size)
  (h:∀h' p,IsL h' l (a.setIfInBounds k.toNat v) p->Heap.SameBut l s.heap h'->Q () {s with heap:=h'}):
  wpAny (model e w) A (PySem.setItem (.ref l) (.int k t) v) Q E s:=by
 have hl:s.heap.IsList l a:=⟨_,b,rfl,n,rfl⟩
 refine cE (uY b (·.setIfInBounds k.toNat v)) fun n1 d=>?_
 have i:=h _ n1 d (nu ..)
 clear h d
 have hd:∃o,s.heap.get? l=some o/\o.data= .seq a n:=⟨_,b,rfl⟩
 clear b
 refine aN hd fun o ho hd=>?_
 unfold PySem.setItem
 try with_reducible refine wpAny_holding ?_
 first|refine wpAny_bind (wpAny_pure ?_)|skip
 refine wpAny_bind (wpAny_sequenceKey hl.typeIs (by decide) ?_)
 refine wpAny_bind (wpAny_callSpecial?_slot (name:=Str.ofString "__setitem__") hl.typeIs slot_list_setitem
  (wpAny_call_entry slot_list_setitem hl.typeIs entry_list_setitem ?_ (args_list_setitem _ _ _)))
 show wpAny _ _ (Builtin.List.listSubscript? (.int k t)>>=_) _ _ s
 refine wpAny_bind (wpAny_listSubscript_int (fitsIndex_of g c) ?_)
 clear c
 obtain⟨j,rfl⟩:=wk g
 have q:j<a.size:=f9.mp m
 have f:a[j]?=some a[j]:=wm q
 show wpAny _ _ ((seqItemAt l j>>=fun r=>pure (r.map (j,·)))>>=_) _ _ s
 refine wpAny_bind (wpAny_bind (wpAny_seqItemAt ho hd (wpAny_pure ?_)))
 rw[f]
 show wpAny _ _ (setSeqItemAt l j v>>=_) _ _ s
 refine wpAny_bind (wpAny_setSeqItemAt ho hd ?_)
 first
  |exact wpAny_bind (wpAny_pure (wpAny_pure ⟨.none,rfl,wpAny_pure i⟩))
  |exact wpAny_pure ⟨.none,rfl,wpAny_pure i⟩
theorem set_list{c:Program}{a:Addr}{b:Array Value} {n k:Nat} {t:Tok} {v:Value} {Q:Unit->Shared->Prop} (ho:IsL s.heap a b n) (d:k<b.size) (hz:b.size<=1048576)
  (q:∀h' e,IsL h' a (b.setIfInBounds k v) e->Heap.SameBut a s.heap h'->Q () {s with heap:=h'}):wpAny (model c w) A (PySem.setItem (.ref a) (.int (k:Int) t) v) Q E s:=
 Ax ho (hH k) (m8 (f9.mpr (pD d hz)) (by decide)) (f9.mpr d) q
theorem append_list{c:Program}{a:Addr}{b:Array Value} {n:Nat} {v:Value} {Q:Value->Shared->Prop} (ho:IsL s.heap a b n) (hz:b.size<=1048576)
  (q:∀h' d,IsL h' a (b.push v) d->Heap.SameBut a s.heap h'->Q .none {s with heap:=h'}):wpAny (model c w) A (call (.builtin "list.append") [.ref a,v]) Q E s:=by
 have hl:s.heap.IsList a b:=⟨_,ho,rfl,n,rfl⟩
 obtain⟨d,e⟩:=uY ho (·.push v)
 refine wpAny_call_entry slot_list_append hl.typeIs entry_list_append ?_ (args_list_append _ _)
 show wpAny _ _ (updateSeq a (·.push v)>>=fun _=>ret .none) _ _ s
 refine wpAny_bind (wpAny_updateSeq (hz:=by rw[sizeLine_eq];exact TO hz) (_hz':=by rw[sizeLine_eq,Array.size_push];exact TP hz) ho rfl (wpAny_pure ⟨.none,rfl,q _ d e (nu ..)⟩))
theorem extend_list{e:Program}{a b:Addr} {d c:Array Value} {n m:Nat} {Q:Value->Shared->Prop} (ho:IsL s.heap a d n) (f:IsL s.heap b c m\/IsT s.heap b c m) (hz:d.size+c.size<=1048576)
  (q:∀h' h,IsL h' a (d++c) h->Heap.SameBut a s.heap h'->Q .none {s with heap:=h'}):wpAny (model e w) A (call (.builtin "list.extend") [.ref a,.ref b]) Q E s:=by
 have i:s.TypeIs (.ref a) "list":=⟨_,ho,rfl⟩
 obtain⟨h,j⟩:=uY ho (· ++c)
 have g:¬(!d.isEmpty&&Builtin.List.listTooLong (d.size+c.size))=true:=by simp[Builtin.List.listTooLong,sizeLine];omega
 rcases f with f|f
 ·exact call_meets F.slot_list_extend i F.entry_list_extend (F.args_list_extend_2 _ _) (AutoSeq1.list_extend_list_list_0 a d n b c m g (by rw[sizeLine_eq];exact D7 hz) (by rw[sizeLine_eq];exact D8 hz)) ⟨ho,f,q _ h j (nu ..)⟩
 ·exact call_meets F.slot_list_extend i F.entry_list_extend (F.args_list_extend_2 _ _) (AutoSeq1.list_extend_list_tuple_0 a d n b c m g (by rw[sizeLine_eq];exact D7 hz) (by rw[sizeLine_eq];exact D8 hz)) ⟨ho,f,q _ h j (nu ..)⟩
theorem aJ.toSet{l:List V} {q:Array Value} {x:V} {v:Value} {k:Nat} (r:aJ w h φ μ l q.toList) (y:VR w h φ μ x v):aJ w h φ μ (l.set k x) (q.setIfInBounds k v).toList:=by
 rw[Array.toList_setIfInBounds];exact r.set k y
theorem aJ.vV{l:List V} {q:Array Value} {x:V} {v:Value} (r:aJ w h φ μ l q.toList) (y:VR w h φ μ x v):aJ w h φ μ (l++[x]) (q.push v).toList:=by
 rw[Array.toList_push];exact r.append (.cons y .nil)
theorem ug{o k v:V} {uo uk u:Value} {x:Unit} {Q:Unit->Shared->Prop} (e:Mine.setItem o k v st=some (x,aB)) (R:SR w h₀ s.heap φ μ st) (yo:VR w s.heap φ μ o uo) (yk:VR w s.heap φ μ k uk) (y:VR w s.heap φ μ v u)
  (hu:A.units+100<cLine) (p:∀s',Ext s s' φ φ μ μ->SR w h₀ s'.heap φ μ aB->Q () s'):wpAny (model aF w) A (PySem.setItem uo uk u) Q E s:=by
 cases o with
 |obj i=>
  obtain⟨ob,eA,e1,e2⟩:=bind_some (show(cU i>>=fun o=>_) st=some (x,aB) from e)
  refine cA (oz e1) fun xH ho=>?_;obtain rfl:=xH
  refine aN (R.obs _ _ ho) fun l hl q=>?_
  obtain⟨_,hm,rfl⟩:=VR.inv yo
  rw[hl] at hm;obtain rfl:=aR hm
  refine cA (iN hl) fun m1 m2=>?_
  cases ob with
  |list xs=>
   cases q with
   |list il vl dl=>
   cases k with
   |int j=>
    cases j with
    |ofNat n=>
     dsimp only at e2
     split at e2
     ·rename_i hn
      refine cA (br e2) fun xI xJ=>?_;obtain rfl:=xI;obtain rfl:=xJ
      refine cE (VR.inv yk) fun _ Le=>?_;obtain rfl:=Le
      have h1:=vl.length
      simp only[dU] at h1
      refine set_list il (TQ hn h1) (TS hn h1) fun h' n' hi hs=>?_
      obtain⟨x',R'⟩:=R.upd (ob:= .list (xs.set n v)) (t:=s.toks) (h':=h') hl (fun a ha _=>hs.2 a ha) (by rw[show h'.get? l.a=_ from hi];rfl) (by rw[dl,show h'.get? l.a=_ from hi];rfl)
       fun mo=> .list hi ((vl.toSet y).mono mo) dl
      exact p _ x' R'
     ·exact (aM e2).elim
    |negSucc n=>exact(aM e2).elim
   |_=>exact(aM e2).elim
  |dict xs=>
   cases q with
   |dict d dl=>
   have e3:(if keyOk k&&decide (xs.length<=1048576) then(do Mine.h9 i (.dict (<-lift (bY k v xs))):M Unit) else fail) eA=some (x,aB):=by
    cases k<;>first|exact e2|(rename_i j;cases j<;>exact e2)
   split at e3
   ·rename_i hc
    refine cA (bK.mp hc) fun YI YJ=>?_
    obtain⟨ys,iV,e4,e5⟩:=bind_some e3
    refine cA (cX e4) fun Lf e6=>?_;obtain rfl:=Lf
    refine cA (br e5) fun vW vX=>?_;obtain rfl:=vW;obtain rfl:=vX
    refine d.store yk y YI (of_decide_eq_true YJ) e6 hu fun h' t hs FQ dr=>?_
    refine cA (R.upd (ob:= .dict ys) (t:=t) (h':=h') hl (fun a ha _=>hs.2 a ha) FQ (by rw[dl];exact FQ) fun mo=> .dict (dr mo) dl) fun x' R'=>?_
    exact p _ x' R'
   ·exact (aM e3).elim
  |inst c fs=>cases k<;>exact(aM e2).elim
 |_=>exact(aM e).elim
theorem Ha{o v:V} {uo u:Value} {x:Unit} {Q:Value->Shared->Prop} (e:Mine.append o v st=some (x,aB)) (R:SR w h₀ s.heap φ μ st) (yo:VR w s.heap φ μ o uo) (y:VR w s.heap φ μ v u)
  (p:∀s',Ext s s' φ φ μ μ->SR w h₀ s'.heap φ μ aB->Q .none s'):wpAny (model aF w) A (call (.builtin "list.append") [uo,u]) Q E s:=by
 cases o with
 |obj i=>
  obtain⟨ob,eA,e1,e2⟩:=bind_some (show(cU i>>=fun o=>_) st=some (x,aB) from e)
  refine cA (oz e1) fun Lg ho=>?_;obtain rfl:=Lg
  refine aN (R.obs _ _ ho) fun l hl q=>?_
  obtain⟨_,hm,rfl⟩:=VR.inv yo
  rw[hl] at hm;obtain rfl:=aR hm
  cases ob with
  |list xs=>
   cases q with
   |list il vl dl=>
   dsimp only at e2
   split at e2
   ·refine cA (br e2) fun Lh Li=>?_;obtain rfl:=Lh;obtain rfl:=Li
    have h1:=vl.length
    simp only[dU] at h1
    refine append_list il (by exact PO (by assumption) h1) fun h' n' hi hs=>?_
    obtain⟨x',R'⟩:=R.upd (ob:= .list (xs++[v])) (t:=s.toks) (h':=h') hl (fun a ha _=>hs.2 a ha) (by rw[show h'.get? l.a=_ from hi];rfl) (by rw[dl,show h'.get? l.a=_ from hi];rfl)
     fun mo=> .list hi ((vl.vV y).mono mo) dl
    exact p _ x' R'
   ·exact (aM e2).elim
  |_=>exact(aM e2).elim
 |_=>exact(aM e).elim
theorem jZ{v:V}{l:List V} (e:dz v st=some (l,aB)):aB=st/\l.length<=1048576/\(v= .tup l\/v= .lst l):=by
 unfold dz at e
 split at e
 ·split at e
  ·refine cA (br e) fun a b=>?_;obtain rfl:=a;obtain rfl:=b;exact⟨rfl,by assumption,.inl rfl⟩
  ·exact (aM e).elim
 ·split at e
  ·refine cA (br e) fun c d=>?_;obtain rfl:=c;obtain rfl:=d;exact⟨rfl,by assumption,.inr rfl⟩
  ·exact (aM e).elim
 ·exact (aM e).elim
theorem JD{v:V}{l:List V} {u:Value} {Q:Value->Shared->Prop} (hz:l.length<=1048576) (a:v= .tup l\/v= .lst l) (R:SR w h₀ s.heap φ μ st) (y:VR w s.heap φ μ v u) (p:bz w h₀ s φ μ st (.tup l) Q):
  wpAny (model aF w) A (call (.type "tuple") [u]) Q E s:=by
 rcases a with rfl|rfl
 ·cases y with
  |tup f ho a=>exact call_tuple_tup ⟨_,ho,rfl,_,rfl⟩ (p.same R (.tup f ho a))
 ·obtain ⟨f,ho,a⟩:=VR.inv y
  have b:=a.length
  simp only[dU] at b
  refine call_tuple_list ⟨_,ho,rfl,_,rfl⟩ (fun h' d=>?_) (by rw[sizeLine_eq];exact pQ hz b)
  obtain⟨x1,c⟩:=R.pure (s':={s with heap:=h'}) (aD:=φ) d (fun _ f=>f) (fun _ f n=>absurd f n) rfl rfl
  obtain⟨x2,e⟩:=SR.push (s:={s with heap:=h'}) c {cls:= .type "tuple",data:= .seq _} rfl
  exact p _ _ _ _ (x1.trans x2) e (.tup (.inr rfl) (eE _ rfl) ((a.mono (x1.mono R)).mono (x2.mono c)))
theorem BH{v:V}{l:List V} {u:Value} {Q:Value->Shared->Prop} (hz:l.length<=1048576) (a:v= .tup l\/v= .lst l) (R:SR w h₀ s.heap φ μ st) (y:VR w s.heap φ μ v u)
  (p:∀h' c n,(∀b i,s.heap.get? b=some i->h'.get? b=some i)->IsL h' s.heap.objs.size c n->aJ w s.heap φ μ l c.toList->Q (.ref s.heap.objs.size) {s with heap:=h'}):wpAny (model aF w) A (call (.type "list") [u]) Q E s:=by
 rcases a with rfl|rfl
 ·obtain ⟨f,ho,a⟩:=VR.inv y
  have d:=a.length
  simp only[dU] at d
  exact call_list_seq _ (.inr rfl) ho rfl rfl (fun h' e g h=>p h' _ e g h a) (by rw[sizeLine_eq];exact pQ hz d)
 ·obtain ⟨f,ho,a⟩:=VR.inv y
  have d:=a.length
  simp only[dU] at d
  exact call_list_seq _ (.inl rfl) ho rfl rfl (fun h' e g h=>p h' _ e g h a) (by rw[sizeLine_eq];exact pQ hz d)
section
mutual
noncomputable def V.same:V->V->Bool
 | .none,.none=>true
 | .bool a,.bool b=>a==b
 | .int a,.int b=>a==b
 | .str a,.str b=>a==b
 | .tup a,.tup b=>V.mS a b
 | .lst a,.lst b=>V.mS a b
 | .bZ a c,.bZ b d=>V.mS a b&&V.mS c d
 |_,_=>false
noncomputable def V.mS:List V->List V->Bool
 |[],[]=>true
 |a::x,b::y=>V.same a b&&V.mS x y
 |_,_=>false
end
mutual
theorem uZ:∀(a b:V),V.same a b=true->a=b
 | .none,b,h=>by cases b<;>first|rfl|exact(aL h).elim
 | .bool a,b,h=>by cases b<;>first|exact(aL h).elim|exact congrArg V.bool (beq_iff_eq.mp h)
 | .int a,b,h=>by cases b<;>first|exact(aL h).elim|exact congrArg V.int (beq_iff_eq.mp h)
 | .str a,b,h=>by cases b<;>first|exact(aL h).elim|exact congrArg V.str (beq_iff_eq.mp h)
 | .tup a,b,h=>by cases b<;>first|exact(aL h).elim|exact congrArg V.tup (oJ a _ h)
 | .lst a,b,h=>by cases b<;>first|exact(aL h).elim|exact congrArg V.lst (oJ a _ h)
 | .bZ a c,b,h=>by cases b<;>first|exact(aL h).elim|exact congr (congrArg V.bZ (oJ a _ (bK.mp h).1)) (oJ c _ (bK.mp h).2)
 | .obj i,b,h=>by cases b<;>exact(aL h).elim
theorem oJ:∀(a b:List V),V.mS a b=true->a=b
 |[],b,h=>by cases b<;>first|rfl|exact(aL h).elim
 |x::a,b,h=>by cases b<;>first|exact(aL h).elim|exact congr (congrArg List.cons (uZ x _ (bK.mp h).1)) (oJ a _ (bK.mp h).2)
end
noncomputable def cW (x:Str) (n:String):Bool:=x==Str.ofString n
noncomputable def eN (cx:Cx) (i:Nat) (x:Str):Bool:=cx.names[i]?==some x&&gL (cx.kd x)&& !cW x "__debug__"&& !cW x "__classdict__"
noncomputable def eG (cx:Cx) (x:Str):Bool:=cx.kd x==some .globalImplicit&& !cW x "__debug__"
structure Vw where
 s:Str:=Str.ofString ""
 k:List PySem.Expr:=[]
 n:Nat:=0
 sc:Scope:=default
 c:Const:= .none
noncomputable def opts:List (Option PySem.Expr)->List PySem.Expr
 |[]=>[]
 |some e::l=>e::opts l
 |none::l=>opts l
noncomputable def pairs:List (Option PySem.Expr)->List PySem.Expr->List PySem.Expr
 |some k::ks,v::vs=>k::v::pairs ks vs
 |_,_=>[]
noncomputable def vw:PySem.Expr->Vw
 | .Name x _=>{s:=x}
 | .Attribute e a _=>{s:=a,k:=[e]}
 | .Constant c n _=>{c:=c,n:=n}
 | .Subscript e i _=>{k:=[e,i]}
 | .Slice a b _ _=>{k:=opts [a,b]}
 | .Tuple l n _=>{k:=l,n:=n}
 | .List l _=>{k:=l}
 | .Dict ks vs _=>{k:=pairs ks vs}
 | .BinOp a _ b _=>{k:=[a,b]}
 | .Compare a _ l _=>{k:=a::l}
 | .BoolOp _ l _=>{k:=l}
 | .UnaryOp _ e _=>{k:=[e]}
 | .IfExp c a b _=>{k:=[c,a,b]}
 | .Call f l _ _=>{k:=f::l}
 | .ListComp e (⟨t,i,_,_⟩::_) sc _=>{k:=[e,t,i],sc:=sc}
 |_=>{}
noncomputable def es (z:PySem.Expr):Str:=(vw z).s
noncomputable def en (z:PySem.Expr):Nat:=(vw z).n
noncomputable def ek (z:PySem.Expr):List PySem.Expr:=(vw z).k
noncomputable def mc (z:PySem.Expr):Scope:=(vw z).sc
noncomputable def ei (z:PySem.Expr):Int:=match(vw z).c with
 | .int i=>i
 |_=>0
noncomputable def notStar (z:PySem.Expr):Bool:= !Nat.beq z.ctorIdx 22
noncomputable def mT (z:PySem.Expr):Bool:= !Nat.beq z.ctorIdx 26
noncomputable def gD (z:PySem.Expr):Bool:= !Nat.beq z.ctorIdx 7
noncomputable def gE (z:PySem.Expr):Bool:= !Nat.beq z.ctorIdx 16|| !(ek z).tail.isEmpty
noncomputable def fA (z:PySem.Expr):Bool:=Nat.blt z.ctorIdx 8||Nat.blt 10 z.ctorIdx
noncomputable def yL (z:PySem.Expr):Bool:= !Nat.beq z.ctorIdx 25|| !(ek z).all (constantsAlone 8)
noncomputable def u0:V->Const->Bool
 | .none,.none=>true
 | .bool a,.bool b=>a==b
 | .int a,.int b=>a==b
 | .str n,.str s=>s==nm n
 |_,_=>false
noncomputable def lL (sc:Scope) (kd:Str->Option NameKind):List (Str×NameKind):=sc.names.map fun(n,k)=>if(k== .free&&kd n==some .cell) then(n,.cell) else(n,k)
noncomputable def Cx.comp (cx:Cx) (sc:Scope):Cx:=⟨cx.names,fun x=>(lL sc cx.kd).lookup x⟩
noncomputable def jc (cx:Cx) (sc:Scope) (y:Str):Bool:=sc.kind== .function&&sc.names.all (fun p=>p.2 != .cell&&(p.2 != .local||((p.1==y|| !cx.names.contains p.1)&&sc.names.lookup p.1==some .local))&&(p.2 != .free||cx.kd p.1==some .cell))&&sc.names.lookup y==some .local&&decide (sc.names.map (·.1)).Nodup
noncomputable def j6:List Ex->Option (List Int)
 |[]=>some []
 | .cn (.int i)::_::l=>(j6 l).map (i::·)
 |_=>none
noncomputable def hd:List PySem.Expr->PySem.Expr
 |e::_=>e
 |[]=> .Name (Str.ofString "") default
noncomputable def k0 (z:PySem.Expr):PySem.Expr:=hd (ek z)
noncomputable def k1 (z:PySem.Expr):PySem.Expr:=hd (ek z).tail
noncomputable def k2 (z:PySem.Expr):PySem.Expr:=hd (ek z).tail.tail
noncomputable def cS (z:PySem.Expr):PySem.Expr:= .Name (es z) z.pos
mutual
noncomputable def fix:Ex->PySem.Expr->PySem.Expr
 | .lc _,z=>cS z
 | .cn _,z=>(match z.ctorIdx with
  |23=>cS z
  |19=> .Constant (vw z).c (en z) z.pos
  |_=> .UnaryOp .USub (.Constant (.int (ei (k0 z))) (en (k0 z)) (k0 z).pos) z.pos)
 | .at e f,z=> .Attribute (fix e (k0 z)) (nm f) z.pos
 | .ix e i,z=> .Subscript (fix e (k0 z)) (fix i (k1 z)) z.pos
 | .fU e a,z=> .Subscript (fix e (k0 z)) (.Slice (some (fix a (k0 (k1 z)))) none none (k1 z).pos) z.pos
 | .eP e b,z=> .Subscript (fix e (k0 z)) (.Slice none (some (fix b (k0 (k1 z)))) none (k1 z).pos) z.pos
 | .kY e a b,z=> .Subscript (fix e (k0 z)) (.Slice (some (fix a (k0 (k1 z)))) (some (fix b (k1 (k1 z)))) none (k1 z).pos) z.pos
 | .tp l,z=> .Tuple (fI l (ek z)) (en z) z.pos
 | .ls l,z=> .List (fI l (ek z)) z.pos
 | .dc l,z=> .Dict (jQ l (ek z)) (sX l (ek z)) z.pos
 | .bn o a b,z=> .BinOp (fix a (k0 z)) (jO o) (fix b (k1 z)) z.pos
 | .cm c a b,z=> .Compare (fix a (k0 z)) [hJ c] [fix b (k1 z)] z.pos
 | .gN c d x a b,z=> .Compare (fix x (k0 z)) [hJ c,hJ d] [fix a (k1 z),fix b (k2 z)] z.pos
 | .an l,z=> .BoolOp .And (fI l (ek z)) z.pos
 | .orr l,z=> .BoolOp .Or (fI l (ek z)) z.pos
 | .nt e,z=> .UnaryOp .Not (fix e (k0 z)) z.pos
 | .ite c a b,z=> .IfExp (fix c (k0 z)) (fix a (k1 z)) (fix b (k2 z)) z.pos
 | .call _ l,z=> .Call (cS (k0 z)) (fI l (ek z).tail) [] z.pos
 | .new _ l,z=> .Call (cS (k0 z)) (fI l (ek z).tail) [] z.pos
 | .aZ e f l,z=> .Call (.Attribute (fix e (k0 (k0 z))) (nm f) (k0 z).pos) (fI l (ek z).tail) [] z.pos
 | .len e,z=> .Call (cS (k0 z)) [fix e (k1 z)] [] z.pos
 | .k3 e,z=> .Call (cS (k0 z)) [fix e (k1 z),cS (k2 z)] [] z.pos
 | .gO e,z=> .Call (cS (k0 z)) [fix e (k1 z)] [] z.pos
 | .lst e,z=> .Call (cS (k0 z)) [fix e (k1 z)] [] z.pos
 | .kr e k,z=> .Call (.Attribute (fix e (k0 (k0 z))) (es (k0 z)) (k0 z).pos) [fix k (k1 z)] [] z.pos
 | .gq e k d,z=> .Call (.Attribute (fix e (k0 (k0 z))) (es (k0 z)) (k0 z).pos) [fix k (k1 z),fix d (k2 z)] [] z.pos
 | .comp e _ i,z=> .ListComp (fix e (k0 z)) [⟨cS (k1 z),fix i (k2 z),[],0⟩] (mc z) z.pos
 | .jE e _ n,z=> .ListComp (fix e (k0 z)) [⟨cS (k1 z),.Call (cS (k0 (k2 z))) [fix n (k1 (k2 z))] [] (k2 z).pos,[],0⟩] (mc z) z.pos
 | .i3 _,z=> .Call (cS (k0 z)) [cS (k1 z)] [] z.pos
 | .cV l,z=> .List (fI l (ek z)) z.pos
 | .eD l,z=> .Dict (jQ l (ek z)) (sX l (ek z)) z.pos
 | .hA e _ i,z=> .ListComp (fix e (k0 z)) [⟨cS (k1 z),fix i (k2 z),[],0⟩] (mc z) z.pos
noncomputable def fI:List Ex->List PySem.Expr->List PySem.Expr
 |[],_=>[]
 |e::l,r=>fix e (hd r)::fI l r.tail
noncomputable def jQ:List Ex->List PySem.Expr->List (Option PySem.Expr)
 |[],_=>[]
 |e::l,r=>some (fix e (hd r))::(match l with
  |[]=>[]
  |_::l=>jQ l r.tail.tail)
noncomputable def sX:List Ex->List PySem.Expr->List PySem.Expr
 |[],_=>[]
 |_::l,r=>(match l with
  |[]=>[]
  |v::l=>fix v (hd r.tail)::sX l r.tail.tail)
end
noncomputable def jR (cx:Cx) (z:PySem.Expr) (n:String):Bool:=eG cx (es z)&&cW (es z) n
noncomputable def nY (z:PySem.Expr):Bool:=(k0 z).pos.endLine==z.pos.line
noncomputable def yM (cx:Cx) (z:PySem.Expr) (x:Nat):Bool:=cx.names[x]?==some (es (k1 z))&&jc cx (mc z) (es (k1 z))
mutual
noncomputable def bl:Ex->Cx->PySem.Expr->Bool
 | .lc i,cx,z=>eN cx i (es z)
 | .cn v,cx,z=>(match z.ctorIdx with
  |23=>eG cx (es z)&&(match tI (es z) with|some u=>V.same v u|none=>false)
  |19=>u0 v (vw z).c
  |_=>V.same v (.int (-(ei (k0 z)))))
 | .at e _,cx,z=>bl e cx (k0 z)&&gE (fix e (k0 z))
 | .ix e i,cx,z=>bl e cx (k0 z)&&bl i cx (k1 z)&&mT (fix i (k1 z))
 | .fU e a,cx,z=>bl e cx (k0 z)&&bl a cx (k0 (k1 z))
 | .eP e a,cx,z=>bl e cx (k0 z)&&bl a cx (k0 (k1 z))
 | .kY e a b,cx,z=>bl e cx (k0 z)&&bl a cx (k0 (k1 z))&&bl b cx (k1 (k1 z))
 | .tp l,cx,z=>iA l cx (ek z)&&decide ((fI l (ek z)).length<=1000)
 | .ls l,cx,z=>iA l cx (ek z)&&decide ((fI l (ek z)).length<=1000)
 | .dc l,cx,z=>sY l cx (ek z)&&((decide ((jQ l (ek z)).length<=15)||(decide (17<(jQ l (ek z)).length/\(jQ l (ek z)).length<=31)&&(match j6 l with|some is=>decide is.Nodup|none=>false)))&& !(jQ l (ek z)).isEmpty)
 | .bn _ a b,cx,z=>bl a cx (k0 z)&&bl b cx (k1 z)
 | .cm c a b,cx,z=>bl a cx (k0 z)&&bl b cx (k1 z)&& !behindInMarks (hJ c) (fix b (k1 z))
 | .gN _ d x a b,cx,z=>bl x cx (k0 z)&&bl a cx (k1 z)&&bl b cx (k2 z)&& !behindInMarks (hJ d) (fix b (k2 z))
 | .an l,cx,z=>iA l cx (ek z)
 | .orr l,cx,z=>iA l cx (ek z)
 | .nt e,cx,z=>bl e cx (k0 z)
 | .ite c a b,cx,z=>bl c cx (k0 z)&&bl a cx (k1 z)&&bl b cx (k2 z)
 | .call f l,cx,z=>iA l cx (ek z).tail&&eG cx (es (k0 z))&&tJ (es (k0 z))==some f
 | .new c l,cx,z=>iA l cx (ek z).tail&&eG cx (es (k0 z))&&tK (es (k0 z))==some c&&decide (3<=c)
 | .aZ e _ l,cx,z=>bl e cx (k0 (k0 z))&&iA l cx (ek z).tail&&gE (fix e (k0 (k0 z)))&&nY z&&decide ((fI l (ek z).tail).length<29)
 | .len e,cx,z=>bl e cx (k1 z)&&jR cx (k0 z) "len"&&notStar (fix e (k1 z))
 | .k3 e,cx,z=>bl e cx (k1 z)&&jR cx (k0 z) "isinstance"&&jR cx (k2 z) "str"&&notStar (fix e (k1 z))
 | .gO e,cx,z=>bl e cx (k1 z)&&jR cx (k0 z) "tuple"&&notStar (fix e (k1 z))
 | .lst e,cx,z=>bl e cx (k1 z)&&jR cx (k0 z) "list"&&notStar (fix e (k1 z))
 | .kr e k,cx,z=>bl e cx (k0 (k0 z))&&bl k cx (k1 z)&&cW (es (k0 z)) "get"&&gE (fix e (k0 (k0 z)))&&nY z&&notStar (fix k (k1 z))
 | .gq e k d,cx,z=>bl e cx (k0 (k0 z))&&bl k cx (k1 z)&&bl d cx (k2 z)&&cW (es (k0 z)) "get"&&gE (fix e (k0 (k0 z)))&&nY z&&notStar (fix k (k1 z))&&notStar (fix d (k2 z))
 | .comp e x i,cx,z=>bl i cx (k2 z)&&bl e (cx.comp (mc z)) (k0 z)&&yM cx z x&&gD (fix i (k2 z))
 | .jE e x n,cx,z=>bl n cx (k1 (k2 z))&&bl e (cx.comp (mc z)) (k0 z)&&yM cx z x&&jR cx (k0 (k2 z)) "range"&&notStar (fix n (k1 (k2 z)))
 | .i3 i,cx,z=>jR cx (k0 z) "tuple"&&eN cx i (es (k1 z))
 | .cV l,cx,z=>iA l cx (ek z)&&decide ((fI l (ek z)).length<=1000)
 | .eD l,cx,z=>sY l cx (ek z)&&decide ((jQ l (ek z)).length<=15)
 | .hA e x i,cx,z=>bl i cx (k2 z)&&bl e (cx.comp (mc z)) (k0 z)&&yM cx z x&&gD (fix i (k2 z))
noncomputable def iA:List Ex->Cx->List PySem.Expr->Bool
 |[],_,_=>true
 |e::l,cx,r=>bl e cx (hd r)&&notStar (fix e (hd r))&&iA l cx r.tail
noncomputable def sY:List Ex->Cx->List PySem.Expr->Bool
 |[],_,_=>true
 |e::l,cx,r=>bl e cx (hd r)&&(match l with
  |[]=>false
  |v::l=>bl v cx (hd r.tail)&&sY l cx r.tail.tail)
end
end
abbrev Ph (φ:Addr->Prop):Prop:=∀a∈eQ,φ a
def aP (w:World) (h₀:Heap) (K:cF) (A:Around) (cx:Cx) (b:Ex) (a:PySem.Expr):Prop:=
 ∀(env:PySem.Env) (D:Addr->Prop) (oa:Nat->Addr) (e:Env) (st:St) (v:V) (aB:St) (s:Shared) (φ:Addr->Prop) (μ:List Loc) (E:Value->Shared->Prop) (Q:Value->Shared->Prop),
  aG K e b st=some (v,aB)->FR w h₀ cx env D oa e s.heap φ μ->SR w h₀ s.heap φ μ st->Ph φ->bz w h₀ s φ μ aB v Q->wpAny (model aF w) A (eval a env) Q E s
def fR (w:World) (h₀:Heap) (K:cF) (A:Around) (cx:Cx) (c:Ex) (a:PySem.Expr):Prop:=
 ∀(env:PySem.Env) (D:Addr->Prop) (oa:Nat->Addr) (e:Env) (st:St) (b:Bool) (aB:St) (s:Shared) (φ:Addr->Prop) (μ:List Loc) (E:Value->Shared->Prop) (Q:Bool->Shared->Prop),
  (aG K e c>>=truth) st=some (b,aB)->FR w h₀ cx env D oa e s.heap φ μ->SR w h₀ s.heap φ μ st->Ph φ->(∀s' aD aE,Ext s s' φ aD μ aE->SR w h₀ s'.heap aD aE aB->Q b s')->
  wpAny (model aF w) A (isTrue a env (eval a env)) Q E s
inductive cO (w:World) (h₀:Heap) (K:cF) (A:Around) (cx:Cx):List Ex->List PySem.Expr->Prop
 |nil:cO w h₀ K A cx [] []
 |cons {e:Ex} {a:PySem.Expr} {l:List Ex} {r:List PySem.Expr}:notStar a=true->aP w h₀ K A cx e a->fR w h₀ K A cx e a->cO w h₀ K A cx l r->cO w h₀ K A cx (e::l) (a::r)
inductive eB (w:World) (h₀:Heap) (K:cF) (A:Around) (cx:Cx):List Ex->List (Option PySem.Expr)->List PySem.Expr->Prop
 |nil:eB w h₀ K A cx [] [] []
 |cons {k v:Ex} {a b:PySem.Expr} {l:List Ex} {ks:List (Option PySem.Expr)} {vs:List PySem.Expr}:aP w h₀ K A cx k a->aP w h₀ K A cx v b->eB w h₀ K A cx l ks vs->eB w h₀ K A cx (k::v::l) (some a::ks) (b::vs)
variable {K:cF} {aC:Shared} {aH:Addr->Prop} {aI:List Loc} {v:V}
theorem bz.on (x:Ext s aC φ aH μ aI) (p:bz w h₀ s φ μ aB v Q):bz w h₀ aC aH aI aB v Q:=fun u s' aD aE q R y=>p u s' aD aE (x.trans q) R y
theorem Ph.on (x:Ext s aC φ aH μ aI) (p:Ph φ):Ph aH:=fun a q=>x.fr a (p a q)
theorem Ip (G:ed w h₀ mg mb) (R:SR w h₀ s.heap φ μ st) (ph:Ph φ) {u:Value} (h:VR w (H1 w.params) (fun a=>a∈eQ) [] v u):VR w s.heap φ μ v u:=
 h.mono ⟨fun a _ o ho=>R.base a o (G.k1 a o ho),fun a b=>ph a b,fun i l e=>by simp at e⟩
theorem g7{x:Str}{n:String} (h:cW x n=true):x=Str.ofString n:=beq_iff_eq.mp h
theorem JE{i:Nat}{x:Str}{p:Pos} (h:eN cx i x=true) (a:e[i]?=some (.v v)) (F:FR w h₀ cx env D oa e s.heap φ μ) (q:∀u,VR w s.heap φ μ v u->Q u s):wpAny (model aF w) A (eval (.Name x p) env) Q E s:=by
 refine cA (bK.mp h) fun h b=>?_
 refine cA (bK.mp h) fun h c=>?_
 refine cA (bK.mp h) fun d f=>?_
 refine aN (F.sl i v x a (beq_iff_eq.mp d) f) fun u k2 g=>?_
 exact wpAny_Name (uX F.ok k2 (by simpa[cW] using b) (q u g)) (by simpa[cW] using c)
theorem mG{i:Nat}{x:Str}{p:Pos}{l:List V} (h:eN cx i x=true) (b:e[i]?=some (.own l)) (F:FR w h₀ cx env D oa e s.heap φ μ)
  (q:Off h₀ φ μ s.heap (oa i)->D (oa i)->∀a n,IsL s.heap (oa i) a n->aJ w s.heap φ μ l a.toList->Q (.ref (oa i)) s):wpAny (model aF w) A (eval (.Name x p) env) Q E s:=by
 refine cA (bK.mp h) fun h c=>?_
 refine cA (bK.mp h) fun h d=>?_
 refine cA (bK.mp h) fun f g=>?_
 refine oN (F.own i l x b (beq_iff_eq.mp f) g) fun k2 j k a n m o=>?_
 exact wpAny_Name (uX F.ok k2 (by simpa[cW] using c) (q j k a n m o)) (by simpa[cW] using d)
theorem bz.ret{w:World}{h₀:Heap}{s:Shared}{φ:Addr->Prop}{μ:List Loc} {st aB:St} {a v:V} {Q:Value->Shared->Prop} (p:bz w h₀ s φ μ aB v Q) (h:(pure a:M V) st=some (v,aB)):bz w h₀ s φ μ st a Q:=by refine cA (br h) fun q z=>?_;obtain rfl:=q;obtain rfl:=z;exact p
theorem Ve{i:Nat}{x:Str}{p:Pos} (h:eN cx i x=true):aP w h₀ K A cx (.lc i) (.Name x p):=by
 intro env D oa e st v aB s φ μ E Q a F R ph p
 change (match e[i]? with|some (.v x)=>pure x|_=>fail:M V) st=_ at a
 generalize b:e[i]?=y at a
 rcases y with _|(_|y|y)<;>first|(first|exact(aM a).elim|obtain⟨rfl,rfl⟩:=br a|cases a)|skip
 exact JE h b F fun u y=>p.same R y
theorem iP{x:Str} (h:eG cx x=true):cx.kd x=some .globalImplicit/\(x==("__debug__":Str))=false:=by
 refine cA (bK.mp h) fun a b=>?_
 exact⟨beq_iff_eq.mp a,by simpa[cW] using b⟩
theorem Q3{v:V}{x:Str}{p:Pos} (G:ed w h₀ mg mb) (h:eG cx x=true) (a:(match tI x with|some u=>V.same v u|none=>false)=true):aP w h₀ K A cx (.cn v) (.Name x p):=by
 intro env D oa e st f aB s φ μ E Q b F R ph p
 replace p:=p.ret b
 split at a
 ·rename_i u hu
  cases uZ _ _ a
  refine aN (Ju (w:=w) hu) fun z hz y=>?_
  refine cA (iP h) fun c d=>?_
  exact uy G F.ok R c d hz (p.same R (Ip G R ph y))
 ·exact (aL a).elim
theorem Q4{v:V}{c:Const}{k:Nat}{p:Pos} (h:u0 v c=true):aP w h₀ K A cx (.cn v) (.Constant c k p):=by
 intro env D oa e st f aB s φ μ E Q d F R ph p
 replace p:=p.ret d
 cases v with
 |none=>cases c with
  |none=>exact PyProof.Rows.Constant_none (p.same R .none)
  |_=>exact(aL h).elim
 |bool a=>cases c with
  |bool b=>exact PyProof.Rows.Constant_bool (p.same R (beq_iff_eq.mp h▸.bool a))
  |_=>exact(aL h).elim
 |int a=>cases c with
  |int b=>exact wpAny_Constant_int (p.tok R _ (beq_iff_eq.mp h▸.int a _))
  |_=>exact(aL h).elim
 |str a=>cases c with
  |str b=>exact wpAny_Constant_str (p.tok R _ (beq_iff_eq.mp h▸.str a _))
  |_=>exact(aL h).elim
 |_=>exact(aL h).elim
theorem Q5{i n:Int} {k:Nat} {p b:Pos} (h:(i== -n)=true):aP w h₀ K A cx (.cn (.int i)) (.UnaryOp .USub (.Constant (.int n) k p) b):=by
 intro env D oa e st c aB s φ μ E Q a F R ph p
 replace p:=p.ret a
 cases beq_iff_eq.mp h
 exact PyProof.Rows.UnaryOp_ (wpAny_Constant_int (PyProof.Rows.neg_int (p _ _ _ _ (Ext.toks _) R (.int _ _))))
set_option tactic.hygienic true
theorem A9{e':PySem.Expr}{a:Str}{m:Sem Value} (h:gE e'=true):attributeBase e' a env m=m:=by
 cases e'<;>first|rfl|skip
 rename_i f l k p
 cases l with
 |nil=>exact(aL h).elim
 |cons _ _=>cases f<;>rfl
theorem Vf{f:Nat}{d:Ex}{e':PySem.Expr}{a:Str}{p:Pos} (X:(kF w.params).In h₀) (ih:aP w h₀ K A cx d e') (h:(a==nm f)=true) (g:gE e'=true):aP w h₀ K A cx (.at d f) (.Attribute e' a p):=by
 intro env D oa e st l aB s φ μ E Q b F R ph p
 obtain⟨o,c,i,j⟩:=bind_some b
 rw[beq_iff_eq.mp h]
 refine Attribute_any_ (ih env D oa e _ _ _ s φ μ E _ i F R ph fun u s' aD aE x k y=>Ie X j k y (p.on x)) ?_
 rw[arm_eval_Attribute,A9 g]
theorem Q6{a:PySem.Expr}{o i:Value} (h:mT a=true):subscripted a false o i=operate [o,i] (getItem o i):=by
 cases a<;>first|rfl|exact(aL h).elim
theorem Vg{n q:Ex} {e' d:PySem.Expr} {p:Pos} (ih:aP w h₀ K A cx n e') (f:aP w h₀ K A cx q d) (h:mT d=true):aP w h₀ K A cx (.ix n q) (.Subscript e' d p):=by
 intro env D oa e st G aB s φ μ E Q j F R ph p
 obtain⟨o,k,v,l⟩:=bind_some j
 obtain⟨i,m,l,B⟩:=bind_some l
 refine Subscript_ (ih env D oa e _ _ _ s φ μ E _ v F R ph fun u aC aH aI x b y=>f env D oa e _ _ _ aC aH aI E _ l (F.ext R x) b (Ph.on x ph) fun t aV bX cg r c z=>?_)
 refine cA (A3 (A:=A) (E:=E) B c (y.mono (r.mono b)) z ((p.on x).on r)) fun a g=>?_;obtain⟨T,id,C,hl⟩:=a
 exact tail_any C hl g (Q6 h)
theorem uI{v x:V} {lo d:Option Nat} {u vl c:Value} {a:PySem.Expr} {l r:Option PySem.Expr} {e:Pos} (f:slice v lo d st=some (x,aB)) (R:SR w h₀ s.heap φ μ st) (y:VR w s.heap φ μ v u) (pl:hB lo vl) (h:hB d c)
  (p:bz w h₀ s φ μ aB x Q):wpAny (model aF w) A (subscriptTail a (.Slice l r none e) u (.ref s.heap.objs.size)) Q E {s with heap:=s.heap.push {cls:= .type "slice",data:= .fields #[vl,c,.none]}}:=by
 refine cA (R.push {cls:= .type "slice",data:= .fields #[vl,c,.none]} rfl) fun x1 i=>?_
 refine cA (Hv (A:=A) (E:=E) f i (y.mono (x1.mono R)) (Heap.IsSliceOf.new s.heap vl c .none) pl h (p.on x1)) fun b g=>?_;obtain⟨T,id,j,hl⟩:=b
 exact tail_any j hl g rfl
theorem ow{v:V}{n:Nat} (h:natOf v=some n):v= .int (Int.ofNat n):=oy h
inductive Vh (o:V) (k:Nat) (st aB:St):Prop
 |mk (hs:aB=st) (ho:o= .int (Int.ofNat k)) (hz:k<=1000)
theorem Ay{o:V}{k:Nat}{st aB:St} (h:lift ((natOf o).bind fun k=>if k<=1000 then some k else none) st=some (k,aB)):Vh o k st aB:=by
 refine cA (cX h) fun c g=>?_
 obtain⟨a,d,e⟩:=g6 g
 refine cA (j1 e) fun hz b=>?_;obtain rfl:=b
 exact⟨c,oy d,hz⟩
theorem uz{lo c:Option PySem.Expr} {d:Pos} {Q:Value->Shared->Prop} (h:wpAny (model aF w) A (evalPart lo env) (fun l aC=>wpAny (model aF w) A (evalPart c env) (fun u aV=>Q (.ref aV.heap.objs.size) {aV with heap:=aV.heap.push {cls:= .type "slice",data:= .fields #[l,u,.none]}}) E aC) E s):
  wpAny (model aF w) A (eval (.Slice lo c none d) env) Q E s:=
 wpAny_Slice (wpAny_mono h (fun l aC a=>wpAny_mono a (fun u aV b=>by rw[evalPart_none];exact wpAny_pure b) fun _ _ x=>x) fun _ _ x=>x)
theorem Q7{l l1:Ex} {e' l':PySem.Expr} {q p:Pos} (ih:aP w h₀ K A cx l e') (d:aP w h₀ K A cx l1 l'):aP w h₀ K A cx (.fU l l1) (.Subscript e' (.Slice (some l') none none q) p):=by
 intro env D oa e st B aB s φ μ E Q f F R ph p
 obtain⟨o,g,r,h⟩:=bind_some f
 obtain⟨i,j,h,k⟩:=bind_some h
 generalize v:natOf i=n at k
 cases n with
 |none=>exact(aM k).elim
 |some n=>
  cases ow v
  refine Subscript_ (ih env D oa e _ _ _ s φ μ E _ r F R ph fun u aC aH aI x a y=>uz ?_)
  refine d env D oa e _ _ _ aC aH aI E _ h (F.ext R x) a (Ph.on x ph) fun t aV bX cg m c z=>?_
  rw[evalPart_none]
  refine wpAny_pure ?_
  refine cE (VR.inv z) fun _ b=>?_;obtain rfl:=b
  exact uI k c (y.mono (m.mono a)) (.some _ _) .none ((p.on x).on m)
theorem Q8{l l1:Ex} {e' l':PySem.Expr} {q p:Pos} (ih:aP w h₀ K A cx l e') (d:aP w h₀ K A cx l1 l'):aP w h₀ K A cx (.eP l l1) (.Subscript e' (.Slice none (some l') none q) p):=by
 intro env D oa e st B aB s φ μ E Q f F R ph p
 obtain⟨o,g,r,h⟩:=bind_some f
 obtain⟨i,j,h,k⟩:=bind_some h
 generalize v:natOf i=n at k
 cases n with
 |none=>exact(aM k).elim
 |some n=>
  cases ow v
  refine Subscript_ (ih env D oa e _ _ _ s φ μ E _ r F R ph fun u aC aH aI x b y=>uz ?_)
  rw[evalPart_none]
  refine wpAny_pure (d env D oa e _ _ _ aC aH aI E _ h (F.ext R x) b (Ph.on x ph) fun t aV bX cg m c z=>?_)
  refine cE (VR.inv z) fun _ a=>?_;obtain rfl:=a
  exact uI k c (y.mono (m.mono b)) .none (.some _ _) ((p.on x).on m)
theorem Q9{I l1 r1:Ex} {e' l' J:PySem.Expr} {M p:Pos} (ih:aP w h₀ K A cx I e') (h:aP w h₀ K A cx l1 l') (k:aP w h₀ K A cx r1 J):aP w h₀ K A cx (.kY I l1 r1) (.Subscript e' (.Slice (some l') (some J) none M) p):=by
 intro env D oa e st U aB s φ μ E Q l F R ph p
 obtain⟨o,q,N,r⟩:=bind_some l
 obtain⟨i,v,r,B⟩:=bind_some r
 obtain⟨j,C,B,c⟩:=bind_some B
 generalize O:natOf i=n at c
 generalize hm:natOf j=m at c
 cases n with
 |none=>exact(aM c).elim
 |some n=>
 cases m with
 |none=>exact(aM c).elim
 |some m=>
  cases ow O
  cases ow hm
  refine Subscript_ (ih env D oa e _ _ _ s φ μ E _ N F R ph fun u aC aH aI x a y=>uz ?_)
  refine h env D oa e _ _ _ aC aH aI E _ r (F.ext R x) a (Ph.on x ph) fun t aV bX cg g b z=>?_
  refine k env D oa e _ _ _ aV bX cg E _ B ((F.ext R x).ext a g) b (Ph.on g (Ph.on x ph)) fun Y L G H d f T=>?_
  obtain⟨_,rfl⟩:=VR.inv z
  obtain⟨_,rfl⟩:=VR.inv T
  exact uI c f ((y.mono (g.mono a)).mono (d.mono b)) (.some _ _) (.some _ _) (((p.on x).on g).on d)
theorem oD:∀{l:List Ex} {r:List PySem.Expr} {pos:Pos},cO w h₀ K A cx l r->∀{st:St} {vs:List V} {aB:St} {s:Shared} {φ:Addr->Prop} {μ:List Loc} {Q:List Value->Shared->Prop},
  cJ K e l st=some (vs,aB)->FR w h₀ cx env D oa e s.heap φ μ->SR w h₀ s.heap φ μ st->Ph φ->
  (∀f s' aD aE,Ext s s' φ aD μ aE->SR w h₀ s'.heap aD aE aB->aJ w s'.heap aD aE vs f->Q f s')->wpAny (model aF w) A (spliced (backTo pos (starEach r env))) Q E s:=by
 intro l r pos a
 induction a with
 |nil=>
  intro st vs aB s φ μ Q c F R ph q
  cases c
  exact wpAny_items_nil (q _ _ _ _ Ext.kH R .nil)
 |@cons p a1 l r ns k _ _ ih=>
  intro st vs aB s φ μ Q c F R ph q
  obtain⟨o,g,m,h⟩:=bind_some c
  obtain⟨os,i,h,n⟩:=bind_some h
  cases n
  refine wpAny_items_cons (k env D oa e _ _ _ s φ μ E _ m F R ph fun u aC aH aI x b y=>?_) (by cases a1<;>first|rfl|cases ns)
  exact ih h (F.ext R x) b (Ph.on x ph) fun f aV bX cg j d z=>q _ _ _ _ (x.trans j) d (.cons (y.mono (j.mono b)) z)
theorem q5:∀{l:List Ex} {r:List PySem.Expr},cO w h₀ K A cx l r->∀{st:St} {vs:List V} {aB:St},cJ K e l st=some (vs,aB)->vs.length=r.length:=by
 intro l r a
 induction a with
 |nil=>intro st vs aB b;obtain⟨rfl,_⟩:=br b;rfl
 |cons _ _ _ _ ih=>
  intro st vs aB b
  obtain⟨o,c,h,d⟩:=bind_some b
  obtain⟨os,f,d,g⟩:=bind_some d
  cases g
  rw[bU,bU,ih d]
theorem Vi{l:List Ex} {r:List PySem.Expr} {k:Nat} {p:Pos} (a:cO w h₀ K A cx l r) (hz:r.length<=1000):aP w h₀ K A cx (.tp l) (.Tuple r k p):=by
 intro env D oa e st h aB s φ μ E Q c F R ph p
 obtain⟨vs,d,f,g⟩:=bind_some c
 replace p:=p.ret g
 have hl:=q5 a f
 refine wpAny_Tuple (oD a f F R ph fun i aC aH aI x b y=>⟨?_,?_⟩)
 ·rw[sizeLine_eq,<-y.length];exact sG hz hl
 ·exact (p.on x).tup b y
theorem Vj{l:List Ex} {r:List PySem.Expr} {p:Pos} (a:cO w h₀ K A cx l r) (hz:r.length<=1000):aP w h₀ K A cx (.ls l) (.List r p):=by
 intro env D oa e st h aB s φ μ E Q c F R ph p
 obtain⟨vs,d,f,g⟩:=bind_some c
 replace p:=p.ret g
 have hl:=q5 a f
 refine wpAny_List (oD a f F R ph fun i aC aH aI x b y=>⟨?_,?_⟩)
 ·rw[sizeLine_eq,<-y.length];exact sG hz hl
 ·exact (p.on x).lst b y
theorem Rb{l:List Ex} {r:List PySem.Expr} {p:Pos} (a:cO w h₀ K A cx l r) (hz:r.length<=1000):aP w h₀ K A cx (.cV l) (.List r p):=by
 intro env D oa e st m aB s φ μ E Q c F R ph p
 obtain⟨vs,d,f,h⟩:=bind_some c
 replace p:=p.ret h
 have hl:=q5 a f
 refine wpAny_List (oD a f F R ph fun i aC aH aI x b y=>⟨?_,?_⟩)
 ·rw[sizeLine_eq,<-y.length];exact sG hz hl
 ·refine cA (b.QY (ob:= .list vs) (o:={cls:= .type "list",data:= .seq i.toArray}) rfl fun g j=> .list g (y.mono j) rfl) fun x2 k=>?_
  exact p _ _ _ _ (x.trans x2) k (VR.obj (l:=⟨aC.heap.objs.size,aC.heap.objs.size⟩) (by rw[<-b.len];simp))
theorem Ba (u:Value):∀(n:Nat) (a:Array Value),(List.foldl (fun x1 x2:Array Value=>x1++x2) a (List.replicate n #[u])).toList=a.toList++List.replicate n u
 |0,a=>by simp
 |n+1,a=>by
  rw[List.replicate_succ,List.foldl_cons,Ba u n,List.replicate_succ]
  simp
theorem JF{prog:Program}{w:World}{A:Around}{E:Value->Shared->Prop}{s:Shared}{l:Addr}{items:Array Value} {k n:Nat} {u:Tok} {Q:Value->Shared->Prop}
  (hl:IsL s.heap l items k) (hn:n<=1000) (zw:items.size<=1000)
  (h:Q (.ref s.heap.objs.size) {s with heap:=s.heap.push {cls:= .type "list",data:= .seq (List.foldl (fun x1 x2=>x1++x2) #[] (List.replicate (if items.isEmpty=true then 0 else(n:Int).toNat) items))}}):
  wpAny (model prog w) A (binaryOp .Mult (.ref l) (.int (n:Int) u)) Q E s:=by
 have hz:items.size*(n:Int).toNat<=2^24:=by
  have:(n:Int).toNat=n:=Int.toNat_natCast n
  rw[this]
  calc items.size*n<=1000*1000:=Nat.mul_le_mul zw hn
   _<=2^24:=by decide
 generalize hx:(n:Int)=x at hz h⊢
 have h1: -(2^63:Int)<=x:=by exact PQ hx
 have h2:x<2^63:=by exact PR hn hx
 exact wpAny_binaryOp_repeat_ref (T:="list") (U:="int") (by decide) ⟨_,hl,rfl⟩ (fun s'=>typeIs_int s' x u) noFill_list_mul F.fills_int_mul F.slot_int_rmul repeat_list F.slot_int_index.lookup
  (call_meets F.slot_int_rmul (typeIs_int s x u) F.entry_int_rmul (F.args_int_rmul_2 _ _) (int___rmul___int_list x u l items k)
   ⟨hl,rfl,⟨_,hl,rfl⟩,call_meets F.slot_list_mul ⟨_,hl,rfl⟩ F.entry_list_mul (F.args_list_mul_2 _ _)
    (AutoListH.list___mul___list_int_3 l items k x u (by simp[Builtin.List.listFitsIndex];exact TU hn hx) (PS hz) (by simp[Builtin.List.listTooLong,sizeLine];omega))
    ⟨hl,h⟩⟩)
theorem aJ.rep{h:Heap}{a:V}{u:Value} (y:VR w h φ μ a u):∀n,aJ w h φ μ (List.replicate n a) (List.replicate n u)
 |0=> .nil
 |n+1=> .cons y (aJ.rep y n)
theorem JG{a b c:V} (h:gu .mul a b=some c):∃x n,a= .lst [x]/\b= .int (Int.ofNat n)/\n<=1000/\c= .lst (List.replicate n x):=by
 obtain⟨l,f,h⟩:=g6 h
 obtain⟨x,e,h⟩:=g6 h
 obtain⟨n,g,h⟩:=g6 h
 refine cA (j1 h) fun i d=>?_;obtain rfl:=d
 refine⟨x,n,?_,oy g,i,rfl⟩
 rw[Ao f]
 match l,e with
 |[a],e=>obtain rfl:=aR e;rfl
set_option tactic.hygienic true
theorem JH{o:fJ}{a b c:V} {u t:Value} (h:gu o a b=some c) (R:SR w h₀ s.heap φ μ st) (x:VR w s.heap φ μ a u) (y:VR w s.heap φ μ b t) (p:bz w h₀ s φ μ st c Q):wpAny (model aF w) A (binaryOp (jO o) u t) Q E s:=by
 by_cases hm:o= .mul
 ·subst hm
  refine da (JG h) fun a n Rg Rh hn Ri=>?_;obtain rfl:=Rg;obtain rfl:=Rh;obtain rfl:=Ri
  refine cE (VR.inv y) fun _ Rj=>?_;obtain rfl:=Rj
  obtain⟨f,ho,hx⟩:=VR.inv x
  rename_i bQ k
  have h1:=hx.length
  simp only[dU,bU,hI] at h1
  refine JF ho hn (TV h1) ?_
  have h2:bQ.isEmpty=false:=by
   rw[Array.isEmpty_eq_false_iff]
   intro q;subst q;cases h1
  obtain⟨z,hz⟩:∃z,bQ=#[z]:=by
   obtain⟨q⟩:=bQ
   cases hx with
   |cons a1 a2=>cases a2;exact⟨_,rfl⟩
  subst hz
  rw[if_neg (by rw[h2];decide),Int.toNat_natCast]
  refine p.lst R ?_
  rw[Ba]
  cases hx with
  |cons a1 a2=>exact aJ.rep a1 n
 ·exact Jj h R x y hm p
theorem Vk{o:fJ}{a1 b1:Ex} {j k:PySem.Expr} {op:Operator} {p:Pos} (ih:aP w h₀ K A cx a1 j) (d:aP w h₀ K A cx b1 k) (h:(op==jO o)=true):aP w h₀ K A cx (.bn o a1 b1) (.BinOp j op k p):=by
 intro env D oa e st B aB s φ μ E Q f F R ph p
 obtain⟨u,g,m,n⟩:=bind_some f
 obtain⟨t,i,q,r⟩:=bind_some n
 refine cA (cX r) fun b v=>?_;obtain rfl:=b
 rw[beq_iff_eq.mp h]
 exact wpAny_BinOp (ih env D oa e _ _ _ s φ μ E _ m F R ph fun u aC aH aI x a y=>d env D oa e _ _ _ aC aH aI E _ q (F.ext R x) a (Ph.on x ph) fun t aV bX cg l c z=>JH v c (y.mono (l.mono a)) z ((p.on x).on l))
theorem Vl{c:Cm}{a1 b1:Ex} {l d:PySem.Expr} {op:CmpOp} {p:Pos} (hu:A.units+100<cLine) (ih:aP w h₀ K A cx a1 l) (f:aP w h₀ K A cx b1 d) (h:(op==hJ c)=true) (hm:behindInMarks op d=false):
  aP w h₀ K A cx (.cm c a1 b1) (.Compare l [op] [d] p):=by
 intro env D oa e st G aB s φ μ E Q g F R ph p
 obtain⟨u,i,n,o⟩:=bind_some g
 obtain⟨t,j,q,v⟩:=bind_some o
 obtain⟨r,k,B,C⟩:=bind_some v
 replace p:=p.ret C
 refine wpAny_Compare1 (ih env D oa e _ _ _ s φ μ E _ n F R ph fun u aC aH aI x a y=>f env D oa e _ _ _ aC aH aI E _ q (F.ext R x) a (Ph.on x ph) fun t aV bX cg m b z=>?_) hm
 rw[beq_iff_eq.mp h]
 exact mF B b (y.mono (m.mono a)) z (ny hu) ((p.on x).on m)
theorem mB{b:Bool} (h:truth v st=some (b,aB)):aB=st:=by
 cases v with
 |tup l|lst l=>exact(br (fk h).2).2.symm
 |none|bool|int=>exact(br h).2.symm
 |_=>exact(aM h).elim
theorem Vm{c:Cm}{a1 b1:Ex} {n d:PySem.Expr} {op:CmpOp} {p:Pos} (hu:A.units+100<cLine) (ih:aP w h₀ K A cx a1 n) (f:aP w h₀ K A cx b1 d) (h:(op==hJ c)=true) (hm:behindInMarks op d=false):
  fR w h₀ K A cx (.cm c a1 b1) (.Compare n [op] [d] p):=by
 intro env D oa e st O aB s φ μ E Q g F R ph p
 obtain⟨q,i,v,B⟩:=bind_some g
 obtain⟨u,j,C,G⟩:=bind_some v
 obtain⟨t,k,H,I⟩:=bind_some G
 obtain⟨r,l,J,L⟩:=bind_some I
 obtain⟨rfl,rfl⟩:=br L
 obtain⟨rfl,rfl⟩:=br B
 refine wpAny_isTrue_Compare1 (ih env D oa e _ _ _ s φ μ E _ C F R ph fun u aC aH aI x a y=>f env D oa e _ _ _ aC aH aI E _ H (F.ext R x) a (Ph.on x ph) fun t aV bX cg o b z=>?_) hm
 rw[beq_iff_eq.mp h]
 refine mF J b (y.mono (o.mono a)) z (ny hu) fun T s' aD aE m M N=>?_
 obtain rfl:=VR.inv N
 exact wpAny_truthy_bool (p _ _ _ ((x.trans o).trans m) M)
theorem Rk{c d:Cm} {x1 a1 b1:Ex} {g J j:PySem.Expr} {L k:CmpOp} {p:Pos} (hu:A.units+100<cLine) (ih:aP w h₀ K A cx x1 g) (l:aP w h₀ K A cx a1 J) (m:aP w h₀ K A cx b1 j) (O:(L==hJ c)=true) (T:(k==hJ d)=true)
  (hm:behindInMarks k j=false):aP w h₀ K A cx (.gN c d x1 a1 b1) (.Compare g [L,k] [J,j] p):=by
 intro env D oa e st U aB s φ μ E Q n F R ph p
 obtain⟨u,o,Y,z1⟩:=bind_some n
 obtain⟨t,v,h2,z2⟩:=bind_some z1
 obtain⟨r,h,h3,M⟩:=bind_some z2
 refine Compare_chain (ops:=[]) (rs:=[]) (ih env D oa e _ _ _ s φ μ E _ Y F R ph fun u aC aH aI x a y=>chain_link (l env D oa e _ _ _ aC aH aI E _ h2 (F.ext R x) a (Ph.on x ph) fun t aV bX cg g b z=>?_)) hm
 rw[beq_iff_eq.mp O]
 refine mF h3 b (y.mono (g.mono a)) z (ny hu) fun u' s' aD aE f B y'=>?_
 obtain rfl:=VR.inv y'
 refine wpAny_truthy_bool ?_
 cases r with
 |false=>obtain⟨rfl,rfl⟩:=br M;exact p _ _ _ _ ((x.trans g).trans f) B (.bool _)
 |true=>
  obtain⟨b2,C,k4,z5⟩:=bind_some (show(aG K e b1>>=fun q=>_) h=some (U,aB) from M)
  obtain⟨r2,G,k5,z6⟩:=bind_some z5
  replace p:=p.ret z6
  refine chain_last (m env D oa e _ _ _ s' aD aE E _ k4 (((F.ext R x).ext a g).ext b f) B (Ph.on f (Ph.on g (Ph.on x ph))) fun t' N H I x3 i z'=>?_)
  rw[beq_iff_eq.mp T]
  exact mF k5 i ((z.mono (f.mono b)).mono (x3.mono B)) z' (ny hu) ((((p.on x).on g).on f).on x3)
theorem Ro{c d:Cm} {x1 a1 b1:Ex} {g L k:PySem.Expr} {M l:CmpOp} {p:Pos} (hu:A.units+100<cLine) (ih:aP w h₀ K A cx x1 g) (m:aP w h₀ K A cx a1 L) (n:aP w h₀ K A cx b1 k) (U:(M==hJ c)=true) (Y:(l==hJ d)=true)
  (hm:behindInMarks l k=false):fR w h₀ K A cx (.gN c d x1 a1 b1) (.Compare g [M,l] [L,k] p):=by
 intro env D oa e st v' aB s φ μ E Q o F R ph p
 obtain⟨q,h,h0,N⟩:=bind_some o
 obtain⟨u,v,h1,z1⟩:=bind_some h0
 obtain⟨t,B,h2,z2⟩:=bind_some z1
 obtain⟨r,i,h3,O⟩:=bind_some z2
 refine isTrue_chain (ops:=[]) (rs:=[]) (ih env D oa e _ _ _ s φ μ E _ h1 F R ph fun u aC aH aI x a y=>test_link (m env D oa e _ _ _ aC aH aI E _ h2 (F.ext R x) a (Ph.on x ph) fun t aV bX cg g b z=>?_)) hm
 rw[beq_iff_eq.mp U]
 refine mF h3 b (y.mono (g.mono a)) z (ny hu) fun u' s' aD aE f C y'=>?_
 obtain rfl:=VR.inv y'
 refine wpAny_truthy_bool ?_
 cases r with
 |false=>obtain⟨rfl,rfl⟩:=br O;obtain⟨rfl,rfl⟩:=br N;exact p _ _ _ ((x.trans g).trans f) C
 |true=>
  obtain⟨b2,G,k4,z5⟩:=bind_some (show(aG K e b1>>=fun q=>_) i=some (q,h) from O)
  obtain⟨r2,H,k5,z6⟩:=bind_some z5
  obtain⟨rfl,rfl⟩:=br z6
  obtain⟨rfl,rfl⟩:=br N
  refine test_last (n env D oa e _ _ _ s' aD aE E _ k4 (((F.ext R x).ext a g).ext b f) C (Ph.on f (Ph.on g (Ph.on x ph))) fun t' T I J x3 j z'=>?_)
  rw[beq_iff_eq.mp Y]
  refine mF k5 j ((z.mono (f.mono b)).mono (x3.mono C)) z' (ny hu) fun u4 s4 a0 a3 x4 R4 y4=>?_
  obtain rfl:=VR.inv y4
  exact wpAny_truthy_bool (p _ _ _ ((((x.trans g).trans f).trans x3).trans x4) R4)
theorem Vn{h:Ex}{c:PySem.Expr} (j:∀env a,isTrue c env a=(do let v<-a;standAt c.pos;holding [v] (truthy v))) (ih:aP w h₀ K A cx h c):fR w h₀ K A cx h c:=by
 intro env D oa e st b aB s φ μ E Q f F R ph p
 obtain⟨q,g,k,i⟩:=bind_some f
 cases mB i
 exact isTrue_plain (ih env D oa e _ _ _ s φ μ E _ k F R ph fun u aC aH aI x d y=>(q0 i d y fun t=>p _ _ _ (x.trans (Ext.toks t)) d).2) (j _ _)
theorem Vo{g:Ex}{e':PySem.Expr}{p:Pos} (ih:aP w h₀ K A cx g e'):aP w h₀ K A cx (.nt g) (.UnaryOp .Not e' p):=by
 intro env D oa e st l aB s φ μ E Q c F R ph p
 obtain⟨u,d,i,j⟩:=bind_some c
 obtain⟨b,f,h,k⟩:=bind_some j
 replace p:=p.ret k
 cases mB h
 exact PyProof.Rows.UnaryOp_ (ih env D oa e _ _ _ s φ μ E _ i F R ph fun u aC aH aI x a y=>not_of (q0 h a y fun t=>p _ _ _ _ (x.trans (Ext.toks t)) a (.bool _)).2)
theorem Vp{m:Ex}{e':PySem.Expr}{p:Pos} (ih:fR w h₀ K A cx m e'):fR w h₀ K A cx (.nt m) (.UnaryOp .Not e' p):=by
 intro env D oa e st b aB s φ μ E Q i F R ph p
 obtain⟨q,j,n,o⟩:=bind_some i
 obtain⟨u,k,r,t⟩:=bind_some n
 obtain⟨c,l,v,y⟩:=bind_some t
 refine cA (br y) fun a d=>?_;obtain rfl:=a;obtain rfl:=d
 refine cA (br o) fun f g=>?_;obtain rfl:=f;obtain rfl:=g
 refine isTrue_not (ih env D oa e st c _ s φ μ E _ ?_ F R ph fun aC aH aI x h=>p _ _ _ x h)
 rw[fZ,r];exact v
theorem Rq{c1 a1 b1:Ex} {i j k:PySem.Expr} {p:Pos} (ih:fR w h₀ K A cx c1 i) (c:aP w h₀ K A cx a1 j) (d:aP w h₀ K A cx b1 k):aP w h₀ K A cx (.ite c1 a1 b1) (.IfExp i j k p):=by
 intro env D oa e st q aB s φ μ E Q f F R ph p
 obtain⟨u,g,m,n⟩:=bind_some f
 obtain⟨b,h,o,l⟩:=bind_some n
 refine IfExp_ (ih env D oa e st b _ s φ μ E _ (by rw[fZ,m];exact o) F R ph fun aC aH aI x a=>?_)
 cases b with
 |true=>exact c env D oa e _ _ _ aC aH aI E _ l (F.ext R x) a (Ph.on x ph) (p.on x)
 |false=>exact d env D oa e _ _ _ aC aH aI E _ l (F.ext R x) a (Ph.on x ph) (p.on x)
theorem Rr{c1 a1 b1:Ex} {k l m:PySem.Expr} {p:Pos} (ih:fR w h₀ K A cx c1 k) (f:fR w h₀ K A cx a1 l) (g:fR w h₀ K A cx b1 m):fR w h₀ K A cx (.ite c1 a1 b1) (.IfExp k l m p):=by
 intro env D oa e st z aB s φ μ E Q h F R ph p
 obtain⟨q,a,r,n⟩:=bind_some h
 obtain⟨u,i,t,v⟩:=bind_some r
 obtain⟨b,c,y,o⟩:=bind_some v
 refine isTrue_IfExp (ih env D oa e st b _ s φ μ E _ (by rw[fZ,t];exact y) F R ph fun aC aH aI x d=>?_)
 cases b with
 |true=>exact f env D oa e _ _ _ aC aH aI E _ (by rw[fZ,show aG K e a1 c=some (q,a) from o];exact n) (F.ext R x) d (Ph.on x ph) fun s' aD aE j=>p s' aD aE (x.trans j)
 |false=>exact g env D oa e _ _ _ aC aH aI E _ (by rw[fZ,show aG K e b1 c=some (q,a) from o];exact n) (F.ext R x) d (Ph.on x ph) fun s' aD aE j=>p s' aD aE (x.trans j)
theorem JI{l:List Ex} {r:List PySem.Expr} {pos:Pos} (a:cO w h₀ K A cx l r):∀{st:St} {v:V} {aB:St} {s:Shared} {φ:Addr->Prop} {μ:List Loc} {Q:Value->Shared->Prop},mQ K e l st=some (v,aB)->FR w h₀ cx env D oa e s.heap φ μ->SR w h₀ s.heap φ μ st->Ph φ->
  bz w h₀ s φ μ aB v Q->wpAny (model aF w) A (eval (.BoolOp .And r pos) env) Q E s:=by
 induction a with
 |nil=>intro st v aB s φ μ Q d;exact(aM d).elim
 |@cons k a1 l r ns h _ ar ih=>
  intro st v aB s φ μ Q d F R ph p
  cases ar with
  |nil=>
   exact BoolOp_one (h env D oa e _ _ _ s φ μ E _ d F R ph p)
  |@cons m a2 l r n2 n o ar=>
   obtain⟨u,f,k1,j⟩:=bind_some d
   obtain⟨b,g,k2,i⟩:=bind_some j
   cases mB k2
   refine BoolOp_and (h env D oa e _ _ _ s φ μ E _ k1 F R ph fun u aC aH aI x c y=>(q0 k2 c y fun t=>?_).2)
   have x2:Ext aC {aC with toks:=t} aH aH aI aI:=Ext.toks t
   cases b with
   |true=>exact ih i ((F.ext R x).ext c x2) c (Ph.on x ph) ((p.on x).on x2)
   |false=>obtain⟨rfl,rfl⟩:=br i;exact p _ _ _ _ (x.trans x2) c (y.mono (x2.mono c))
theorem Lj{l:List Ex} {r:List PySem.Expr} {pos:Pos} (a:cO w h₀ K A cx l r):∀{st:St} {v:V} {aB:St} {s:Shared} {φ:Addr->Prop} {μ:List Loc} {Q:Value->Shared->Prop},nJ K e l st=some (v,aB)->FR w h₀ cx env D oa e s.heap φ μ->SR w h₀ s.heap φ μ st->Ph φ->
  bz w h₀ s φ μ aB v Q->wpAny (model aF w) A (eval (.BoolOp .Or r pos) env) Q E s:=by
 induction a with
 |nil=>intro st v aB s φ μ Q d;exact(aM d).elim
 |@cons k a1 l r ns h _ ar ih=>
  intro st v aB s φ μ Q d F R ph p
  cases ar with
  |nil=>
   exact BoolOp_one (h env D oa e _ _ _ s φ μ E _ d F R ph p)
  |@cons m a2 l r n2 n o ar=>
   obtain⟨u,f,k1,j⟩:=bind_some d
   obtain⟨b,g,k2,i⟩:=bind_some j
   cases mB k2
   refine BoolOp_or (h env D oa e _ _ _ s φ μ E _ k1 F R ph fun u aC aH aI x c y=>(q0 k2 c y fun t=>?_).2)
   have x2:Ext aC {aC with toks:=t} aH aH aI aI:=Ext.toks t
   cases b with
   |false=>exact ih i ((F.ext R x).ext c x2) c (Ph.on x ph) ((p.on x).on x2)
   |true=>obtain⟨rfl,rfl⟩:=br i;exact p _ _ _ _ (x.trans x2) c (y.mono (x2.mono c))
theorem Iq{l:List Ex} {r:List PySem.Expr} (a:cO w h₀ K A cx l r):∀{st:St} {b:Bool} {aB:St} {s:Shared} {φ:Addr->Prop} {μ:List Loc} {Q:Bool->Shared->Prop},(mQ K e l>>=truth) st=some (b,aB)->FR w h₀ cx env D oa e s.heap φ μ->SR w h₀ s.heap φ μ st->Ph φ->
  (∀s' aD aE,Ext s s' φ aD μ aE->SR w h₀ s'.heap aD aE aB->Q b s')->wpAny (model aF w) A (allTrue .And r env) Q E s:=by
 induction a with
 |nil=>intro st v aB s φ μ Q f;exact(aM f).elim
 |@cons y a1 l r ns _ k ar ih=>
  intro st b aB s φ μ Q f F R ph p
  cases ar with
  |nil=>
   refine wpAny_allTrue_And_cons (k env D oa e _ _ _ s φ μ E _ f F R ph fun aC aH aI x d=>?_)
   cases b with
   |true=>exact wpAny_allTrue_And_nil (p _ _ _ x d)
   |false=>exact p _ _ _ x d
  |@cons n a2 l r n2 z B ar=>
   obtain⟨q,g,k0,i⟩:=bind_some f
   obtain⟨u,j,k1,o⟩:=bind_some k0
   obtain⟨c,h,k2,m⟩:=bind_some o
   refine wpAny_allTrue_And_cons (k env D oa e _ _ _ s φ μ E _ (by rw[fZ,k1];exact k2) F R ph fun aC aH aI x d=>?_)
   cases c with
   |true=>exact ih (by rw[fZ,show mQ K e (n::l) h=some (q,g) from m];exact i) (F.ext R x) d (Ph.on x ph) fun s' aD aE t=>p s' aD aE (x.trans t)
   |false=>
    cases mB k2
    obtain⟨rfl,rfl⟩:=br m
    rw[k2] at i
    obtain⟨rfl,rfl⟩:=br i
    exact p _ _ _ x d
theorem JJ{l:List Ex} {r:List PySem.Expr} (a:cO w h₀ K A cx l r):∀{st:St} {b:Bool} {aB:St} {s:Shared} {φ:Addr->Prop} {μ:List Loc} {Q:Bool->Shared->Prop},(nJ K e l>>=truth) st=some (b,aB)->FR w h₀ cx env D oa e s.heap φ μ->SR w h₀ s.heap φ μ st->Ph φ->
  (∀s' aD aE,Ext s s' φ aD μ aE->SR w h₀ s'.heap aD aE aB->Q b s')->wpAny (model aF w) A (allTrue .Or r env) Q E s:=by
 induction a with
 |nil=>intro st v aB s φ μ Q f;exact(aM f).elim
 |@cons y a1 l r ns _ k ar ih=>
  intro st b aB s φ μ Q f F R ph p
  cases ar with
  |nil=>
   refine wpAny_allTrue_Or_cons (k env D oa e _ _ _ s φ μ E _ f F R ph fun aC aH aI x d=>?_)
   cases b with
   |false=>exact wpAny_allTrue_Or_nil (p _ _ _ x d)
   |true=>exact p _ _ _ x d
  |@cons n a2 l r n2 z B ar=>
   obtain⟨q,g,k0,i⟩:=bind_some f
   obtain⟨u,j,k1,o⟩:=bind_some k0
   obtain⟨c,h,k2,m⟩:=bind_some o
   refine wpAny_allTrue_Or_cons (k env D oa e _ _ _ s φ μ E _ (by rw[fZ,k1];exact k2) F R ph fun aC aH aI x d=>?_)
   cases c with
   |false=>exact ih (by rw[fZ,show nJ K e (n::l) h=some (q,g) from m];exact i) (F.ext R x) d (Ph.on x ph) fun s' aD aE t=>p s' aD aE (x.trans t)
   |true=>
    cases mB k2
    obtain⟨rfl,rfl⟩:=br m
    rw[k2] at i
    obtain⟨rfl,rfl⟩:=br i
    exact p _ _ _ x d
theorem Vq{l:List Ex} {r:List PySem.Expr} {p:Pos} (a:cO w h₀ K A cx l r):aP w h₀ K A cx (.an l) (.BoolOp .And r p):=by
 intro env D oa e st c aB s φ μ E Q b F R ph p
 exact JI a b F R ph p
theorem Vr{l:List Ex} {r:List PySem.Expr} {p:Pos} (a:cO w h₀ K A cx l r):aP w h₀ K A cx (.orr l) (.BoolOp .Or r p):=by
 intro env D oa e st c aB s φ μ E Q b F R ph p
 exact Lj a b F R ph p
theorem Vs{l:List Ex} {r:List PySem.Expr} {p:Pos} (a:cO w h₀ K A cx l r):fR w h₀ K A cx (.an l) (.BoolOp .And r p):=by
 intro env D oa e st c aB s φ μ E Q b F R ph p
 exact wpAny_isTrue_BoolOp (Iq a b F R ph p)
theorem Vt{l:List Ex} {r:List PySem.Expr} {p:Pos} (a:cO w h₀ K A cx l r):fR w h₀ K A cx (.orr l) (.BoolOp .Or r p):=by
 intro env D oa e st c aB s φ μ E Q b F R ph p
 exact wpAny_isTrue_BoolOp (JJ a b F R ph p)
theorem Lk:(qu.all fun p=>match p.2 with| .fn i=>Nat.blt i 124|_=>true)=true:=by decide+kernel
theorem Ll{x:Str}{i:Nat} (h:tJ x=some i):i<124:=by
 refine dV (oO (f:=GV.tH) h) fun a c b e=>?_;obtain⟨n,g⟩:=a;obtain rfl:=b
 have:=cG.mp Lk _ c
 cases g<;>(first|exact(aM e).elim|obtain rfl:=aR e|cases e)
 exact aX this
noncomputable def Lm (K:Frag):Bool:=(dW.drop 3).all fun C=>keepIn K (.ref C)
theorem JK (P:Params):Lm (kF P)=true:=by kernel_rfl
set_option tactic.hygienic true
theorem Lp{f:Nat} (hf:f<124) (G:ed w h₀ mg mb):∃o fd,h₀.get? (fa f)=some o/\o.data= .func fd:=by
 have hl:tD.length=124:=by decide+kernel
 have hm:fa f∈tD:=by
  unfold fa
  rw[iq (by rw[hl];exact hf)]
  exact List.getElem_mem _
 have h:=cG.mp (QX w.params) _ hm
 refine cA (bK.mp h) fun h1 h2=>?_
 refine aN (any_some h2) fun o ho h3=>?_
 split at h3
 ·rename_i fd hd
  exact⟨o,fd,G.k1 _ _ (j2 h1 ho (oH h3)),hd⟩
 ·exact (aL h3).elim
theorem gB{a:PySem.Expr}{r:List PySem.Expr} (h:notStar a=true):starEach (a::r) env=(false,eval a env)::starEach r env:=by
 cases a<;>first|rfl|exact(aL h).elim
theorem mC{l:List Ex} {r:List PySem.Expr} {pos:Pos} (a:cO w h₀ K A cx l r):(backTo pos (starEach r env)).any (·.1)=false/\(backTo pos (starEach r env)).all (!·.1)=true:=by
 induction a with
 |nil=>exact⟨rfl,rfl⟩
 |cons ns _ _ _ ih=>
  rw[gB ns]
  exact⟨by show(false||(backTo pos (starEach _ env)).any (·.1))=false;rw[ih.1];rfl,by show(true&&(backTo pos (starEach _ env)).all (!·.1))=true;rw[ih.2];rfl⟩
theorem mD{l:List Ex} {r:List PySem.Expr} {pos:Pos} {f:Value} {vs:List V} {Q:Args->Shared->Prop} (a:cO w h₀ K A cx l r) (d:cJ K e l st=some (vs,aB)) (F:FR w h₀ cx env D oa e s.heap φ μ) (R:SR w h₀ s.heap φ μ st) (ph:Ph φ)
  (q:∀g s' aD aE,Ext s s' φ aD μ aE->SR w h₀ s'.heap aD aE aB->aJ w s'.heap aD aE vs g->Q ⟨g,[]⟩ s'):wpAny (model aF w) A (evalArgs f true (backTo pos (starEach r env)) []) Q E s:=by
 cases a with
 |nil=>
  refine cA (br d) fun b c=>?_;obtain rfl:=b;obtain rfl:=c
  exact evalArgs_nil3 (q _ _ _ _ Ext.kH R .nil)
 |cons ns h i ar=>
  have:=oD (pos:=pos) (.cons ns h i ar) d F R ph (Q:=fun g s'=>Q ⟨g,[]⟩ s') q (E:=E)
  rw[gB ns] at this⊢
  exact evalArgs_plain this
theorem Ai{f:Nat}{l:List Ex} {r:List PySem.Expr} {pos:Pos} {first:List Value} {fvs vs:List V} (G:ed w h₀ mg mb) (KO:nL w h₀ K A) (hf:f<124) (a:cO w h₀ K A cx l r) {b:St} (d:cJ K e l st=some (vs,b)) (g:K.fn f (fvs++vs) b=some (v,aB))
  (F:FR w h₀ cx env D oa e s.heap φ μ) (R:SR w h₀ s.heap φ μ st) (y:aJ w s.heap φ μ fvs first) (ph:Ph φ) (p:bz w h₀ s φ μ aB v Q):wpAny (model aF w) A (callWith pos (.ref (fa f)) first (backTo pos (starEach r env)) []) Q E s:=by
 refine gp (Lp hf G) fun o fd ho hd=>?_
 refine callWith_function (o:=o) (fd:=fd) (mD a d F R ph fun h aC aH aI x c z=>⟨⟨c.base _ _ ho,hd⟩,?_⟩)
 exact KO.fn _ _ _ _ _ g aC aH aI _ _ _ (Ph.on x ph) c ((y.mono (x.mono R)).append z) (p.on x)
theorem Lq{f:Nat}{l:List Ex} {r:List PySem.Expr} {x:Str} {p d:Pos} (G:ed w h₀ mg mb) (KO:nL w h₀ K A) (a:cO w h₀ K A cx l r) (g:eG cx x=true) (hf:tJ x=some f):aP w h₀ K A cx (.call f l) (.Call (.Name x p) r [] d):=by
 intro env D oa e st m aB s φ μ E Q b F R ph p
 obtain⟨vs,c,h,i⟩:=bind_some b
 refine cA (iP g) fun j k=>?_
 refine wpAny_Call_Name_kw (uy G F.ok R j k (Jw hf) ?_)
 exact Ai (fvs:=[]) G KO (Ll hf) a h i F R .nil ph p
theorem Rt{c:Nat}{l:List Ex} {r:List PySem.Expr} {x:Str} {p p':Pos} (G:ed w h₀ mg mb) (X:(kF w.params).In h₀) (KO:nL w h₀ K A) (a:cO w h₀ K A cx l r) (hx:eG cx x=true) (hf:tK x=some c) (h3:3<=c) (hc:c<26):
  aP w h₀ K A cx (.new c l) (.Call (.Name x p) r [] p'):=by
 intro env D oa e st v' aB s φ μ E Q cZ F R ph p
 obtain⟨vs,eA,h1,h2⟩:=bind_some cZ
 refine cA (iP hx) fun g1 g2=>?_
 have hk:keepIn (kF w.params) (.ref (ca c))=true:=by
  refine cG.mp (JK w.params) _ ?_
  have hl:dW.length=26:=by decide+kernel
  have:dW[c]?=some (ca c):=by unfold ca;rw[iq (by rw[hl];exact hc)];rfl
  have:(dW.drop 3)[c-3]?=some (ca c):=by rw[List.getElem?_drop,ni h3];exact this
  exact iY this
 refine wpAny_Call_Name_kw (uy G F.ok R g1 g2 (Jx hf) ?_)
 refine callWith_of (P:=fun h=>(kF w.params).In h) (by rw[(mC a).1];rfl) (keeps_K hk) (mD a h1 F R ph fun us aC aH aI x jd z=>⟨X.keeps jd.base,?_⟩)
 exact KO.new _ _ _ _ _ h3 h2 aC aH aI _ _ _ (Ph.on x ph) jd z (p.on x)
theorem rh{o:PySem.Expr}{name:Str}{b pos:Pos} {a:List PySem.Expr} (g:gE o=true) (h:(backTo pos (starEach a env)).all (!·.1)=true) (i:a.length<29) (hl:(b.endLine==pos.line)=true):
  eval (.Call (.Attribute o name b) a [] pos) env=(do
   let e<-eval o env
   standAt b.atName
   let (f,first)<-holding [e] (getMethod e name (do return (<-importBound o env).getD true))
   callWith pos f first (backTo pos (starEach a env)) (backToKw pos (keywordEach [] env))):=by
 have c:methodCallForm (a.length+([]:List Keyword).length) (backTo pos (starEach a env)) (backToKw pos (keywordEach [] env))=true:=by
  unfold methodCallForm
  rw[h,Bool.true_and]
  show(true&&decide (a.length+0+0<30))=true
  rw[Bool.true_and];exact decide_eq_true (TX i)
 have d:methodCallPos true o env b pos=pure pos:=by unfold methodCallPos;simp[hl]
 rw[arm_eval_Call,A9 g]
 unfold methodCall
 rw[c,d]
 rfl
theorem Ru{f:Nat}{q:Ex}{e':PySem.Expr}{l:List Ex} {r:List PySem.Expr} {a:Str} {t v:Pos} (G:ed w h₀ mg mb) (KO:nL w h₀ K A) (ih:aP w h₀ K A cx q e') (ar:cO w h₀ K A cx l r) (z:(a==nm f)=true) (B:gE e'=true) (hl:(t.endLine==v.line)=true) (C:r.length<29):
  aP w h₀ K A cx (.aZ q f l) (.Call (.Attribute e' a t) r [] v):=by
 intro env D oa e st O aB s φ μ E Q i F R ph p
 obtain⟨o,j,H,I⟩:=bind_some i
 obtain⟨g,k,J,L⟩:=bind_some I
 obtain⟨vs,n,M,N⟩:=bind_some L
 rw[beq_iff_eq.mp z]
 refine methodCall_KW (ih env D oa e _ _ _ s φ μ E _ H F R ph fun u aC aH aI x h y=>?_) (rh B (mC ar).2 C hl)
 refine QQ (KO.aZ _ _ _ _ _ J aC aH aI u h y) fun c hg b d m=>?_;obtain rfl:=c;obtain rfl:=d
 exact m _ _ _ (Ai (fvs:=[o]) G KO hg ar M N (F.ext R x) h (.cons y .nil) (Ph.on x ph) (p.on x))
theorem JL{ks:List (V×V)} {a:Addr} (d:DR w s.heap φ μ a ks) (c:ks.all (fun p=>isKey p.1)=true):(∃kvs,s.heap.DictOf (intKind aF w) a kvs/\kvs.length=ks.length)\/∃kvs,s.heap.DictOf (strKind aF w) a kvs/\kvs.length=ks.length:=by
 cases d with
 |int l kvs q b _=>exact .inl ⟨kvs,q,by have:=congrArg List.length b;simpa using this⟩
 |str l kvs q b _ _=>exact .inr ⟨kvs,q,by have:=congrArg List.length b;simpa using this⟩
 |tup l e q b _ _=>
  cases l with
  |nil=>
   have:e=[]:=by simpa using b
   subst this
   exact .inl ⟨[],mA q,rfl⟩
  |cons p l=>rw[eV,List.all_cons] at c;exact(aL c).elim
theorem JM{o x:V} {u:Value} (h:lenOf o st=some (x,aB)) (R:SR w h₀ s.heap φ μ st) (y:VR w s.heap φ μ o u) (p:bz w h₀ s φ μ aB x Q):wpAny (model aF w) A (call (.builtin "len") [u]) Q E s:=by
 unfold lenOf at h
 split at h
 ·refine cA (cX h) fun Rv g=>?_;obtain rfl:=Rv
  cases y with
  |tup f ho hv=>exact Jp ho hv R g p
 ·refine cA (cX h) fun Rw g=>?_;obtain rfl:=Rw
  cases y with
  |lst f ho hv=>exact BE ho hv R g p
 ·obtain ⟨ob,eA,h1,h2⟩:=bind_some h
  refine cA (oz h1) fun xG h1=>?_;obtain rfl:=xG
  refine aN (R.obs _ _ h1) fun l hl q=>?_
  obtain⟨_,hm,rfl⟩:=VR.inv y
  rw[hl] at hm;obtain rfl:=aR hm
  cases ob with
  |list xs=>
   refine cA (cX h2) fun Rx g2=>?_;obtain rfl:=Rx
   cases q with
   |list il vl _=>exact BE il vl R g2 p
  |dict xs=>
   cases q with
   |dict d _=>
   dsimp only at h2
   split at h2
   ·rename_i hk
    refine cA (cX h2) fun xH h3=>?_;obtain rfl:=xH
    refine cA (ui h3) fun Ry hz=>?_;obtain rfl:=Ry
    have ns:=R.rB (iN hl).1
    rcases JL d hk with⟨kvs,dd,hn⟩|⟨kvs,dd,hn⟩
    ·exact call_len_dict ns dd (sH hz hn.symm) (by rw[hn];exact p.tok R _ (.int _ _))
    ·exact call_len_dict ns dd (sH hz hn.symm) (by rw[hn];exact p.tok R _ (.int _ _))
   ·exact (aM h2).elim
  |inst c fs=>exact(aM h2).elim
 ·exact (aM h).elim
theorem ri{a:Ex}{v:V} (h:aG K e a st=some (v,aB)):cJ K e [a] st=some ([v],aB):=by
 rw[cJ,fZ,h]
 show(cJ K e []>>=fun q=>_) aB=_
 rw[cJ];rfl
theorem JN{c:Ex}{e':PySem.Expr}{x:Str}{n:String}{p d:Pos} {v:V} (G:ed w h₀ mg mb) (a:cO w h₀ K A cx [c] [e']) (f:eG cx x=true) (g:cW x n=true) (i:n∈qw) {id:String} (j:jW n= .builtin id) (h:aG K e c st=some (v,aB))
  (F:FR w h₀ cx env D oa e s.heap φ μ) (R:SR w h₀ s.heap φ μ st) (ph:Ph φ) (q:∀u s' aD aE,Ext s s' φ aD μ aE->SR w h₀ s'.heap aD aE aB->VR w s'.heap aD aE v u->wpAny (model aF w) A (call (.builtin id) [u]) Q E s'):
  wpAny (model aF w) A (eval (.Call (.Name x p) [e'] [] d) env) Q E s:=by
 cases g7 g
 refine wpAny_Call_Name_kw (lx G F.ok R (iP f).1 i ?_)
 rw[j]
 refine callWith_builtin (mC a).1 (mD a (ri h) F R ph fun m aC aH aI x b z=>?_)
 cases z with
 |cons k l=>cases l;exact q _ _ _ _ x b k
theorem u1{c:Ex}{e':PySem.Expr}{x:Str}{n:String}{p d:Pos} {v:V} (G:ed w h₀ mg mb) (a:cO w h₀ K A cx [c] [e']) (f:eG cx x=true) (g:cW x n=true) (i:n∈qw) {id:String} (j:jW n= .type id) (h:aG K e c st=some (v,aB))
  (F:FR w h₀ cx env D oa e s.heap φ μ) (R:SR w h₀ s.heap φ μ st) (ph:Ph φ) (q:∀u s' aD aE,Ext s s' φ aD μ aE->SR w h₀ s'.heap aD aE aB->VR w s'.heap aD aE v u->wpAny (model aF w) A (call (.type id) [u]) Q E s'):
  wpAny (model aF w) A (eval (.Call (.Name x p) [e'] [] d) env) Q E s:=by
 cases g7 g
 refine wpAny_Call_Name_kw (lx G F.ok R (iP f).1 i ?_)
 rw[j]
 refine sE (mC a).1 (mD a (ri h) F R ph fun m aC aH aI x b z=>?_)
 cases z with
 |cons k l=>cases l;exact q _ _ _ _ x b k
theorem Rz{f:Ex}{e':PySem.Expr}{x:Str}{p g:Pos} (G:ed w h₀ mg mb) (a:cO w h₀ K A cx [f] [e']) (h:eG cx x=true) (i:cW x "len"=true):aP w h₀ K A cx (.len f) (.Call (.Name x p) [e'] [] g):=by
 intro env D oa e st l aB s φ μ E Q c F R ph p
 obtain⟨o,d,j,k⟩:=bind_some c
 exact JN G a h i (by decide) (id:="len") rfl j F R ph fun u aC aH aI x b y=>JM k b y (p.on x)
theorem RA{h:Ex}{e':PySem.Expr}{x:Str}{p i:Pos} (G:ed w h₀ mg mb) (a:cO w h₀ K A cx [h] [e']) (j:eG cx x=true) (k:cW x "tuple"=true):aP w h₀ K A cx (.gO h) (.Call (.Name x p) [e'] [] i):=by
 intro env D oa e st v aB s φ μ E Q d F R ph p
 obtain⟨o,f,m,n⟩:=bind_some d
 obtain⟨l,g,q,r⟩:=bind_some n
 replace p:=p.ret r
 refine dP (jZ q) fun b hz t=>?_;obtain rfl:=b
 exact u1 G a j k (by decide) (id:="tuple") rfl m F R ph fun u aC aH aI x c y=>JD hz t c y (p.on x)
theorem RC{k:Ex}{e':PySem.Expr}{x:Str}{p m:Pos} (G:ed w h₀ mg mb) (a:cO w h₀ K A cx [k] [e']) (q:eG cx x=true) (r:cW x "list"=true):aP w h₀ K A cx (.lst k) (.Call (.Name x p) [e'] [] m):=by
 intro env D oa e st J aB s φ μ E Q g F R ph p
 obtain⟨o,h,t,v⟩:=bind_some g
 obtain⟨l,i,z,B⟩:=bind_some v
 replace p:=p.ret B
 refine dP (jZ z) fun d hz j=>?_;obtain rfl:=d
 refine u1 G a q r (by decide) (id:="list") rfl t F R ph fun u aC aH aI x c y=>BH hz j c y fun h' C n H ho j=>?_
 obtain⟨x2,I⟩:=c.pure (s':={aC with heap:=h'}) (aD:=fun b=>aH b\/b=aC.heap.objs.size) H (fun _ f=> .inl f) (fun b f n=>by
  rcases f with f|rfl
  ·exact absurd f n
  ·exact ⟨eR _,by rw[show h'.get? _=_ from ho];rfl⟩) rfl rfl
 exact p _ _ _ _ (x.trans x2) I (.lst (.inr rfl) ho (j.mono (x2.mono c)))
theorem Lr{i:Nat}{x y:Str} {p p' FT:Pos} (G:ed w h₀ mg mb) (hx:eG cx x=true) (hn:cW x "tuple"=true) (hy:eN cx i y=true):aP w h₀ K A cx (.i3 i) (.Call (.Name x p) [.Name y FT] [] p'):=by
 intro env D oa e st v' aB s φ μ E Q cZ F R ph p
 change (match e[i]? with|some (.own l)=>if l.length<=1048576 then pure (V.tup l) else fail|_=>fail:M V) st=_ at cZ
 generalize hi:e[i]?=q at cZ
 rcases q with _|(_|l|l)<;>try exact(aM cZ).elim
 dsimp only at cZ
 split at cZ
 ·rename_i hz
  replace p:=p.ret cZ
  cases g7 hn
  refine wpAny_Call_Name_kw (lx G F.ok R (iP hx).1 (by decide) ?_)
  rw[show jW "tuple"= .type "tuple" from rfl]
  refine sE rfl ?_
  refine evalArgs_plain (x:=eval (.Name y FT) env) (rest:=[]) (wpAny_items_cons (pos:=p') (rest:=[]) (mG hy hi F fun o d bQ n ho hv=>wpAny_items_nil ?_))
  have h1:=hv.length
  simp only[dU] at h1
  refine call_tuple_list ⟨_,ho,rfl,_,rfl⟩ (fun h' hk=>?_) (by rw[sizeLine_eq];exact pQ hz h1)
  refine cA (R.pure (s':={s with heap:=h'}) (aD:=φ) hk (fun _ f=>f) (fun _ f n=>absurd f n) rfl rfl) fun x1 R1=>?_
  refine cA (SR.push (s:={s with heap:=h'}) R1 {cls:= .type "tuple",data:= .seq bQ} rfl) fun x2 R2=>?_
  exact p _ _ _ _ (x1.trans x2) R2 (.tup (.inr rfl) (eE _ rfl) ((hv.mono (x1.mono R)).mono (x2.mono R1)))
 ·exact (aM cZ).elim
theorem RD{q:Ex}{e':PySem.Expr}{x y:Str} {p r j:Pos} (G:ed w h₀ mg mb) (ih:aP w h₀ K A cx q e') (ns:notStar e'=true) (v:eG cx x=true) (z:cW x "isinstance"=true) (B:eG cx y=true) (hm:cW y "str"=true):aP w h₀ K A cx (.k3 q) (.Call (.Name x p) [e',.Name y j] [] r):=by
 intro env D oa e st H aB s φ μ E Q l F R ph p
 obtain⟨o,m,C,k⟩:=bind_some l
 cases g7 z
 cases g7 hm
 refine wpAny_Call_Name_kw (lx G F.ok R (iP v).1 (by decide) ?_)
 rw[show jW "isinstance"= .builtin "isinstance" from rfl,gB ns]
 refine callWith_builtin rfl ?_
 refine evalArgs_plain (x:=eval e' env) ?_
 show wpAny _ _ (spliced (backTo r ((false,eval e' env)::starEach [.Name (Str.ofString "str") j] env))) _ _ _
 rw[<-gB ns]
 refine wpAny_items_cons (ih env D oa e _ _ _ s φ μ E _ C F R ph fun u aC aH aI x a y=>?_) (gB ns)
 refine wpAny_items_cons (lx G F.ok a (iP B).1 (by decide) (wpAny_items_nil ?_)) rfl
 rw[show jW "str"= .type "str" from rfl]
 have n:=p.on x
 cases y with
 |str i t=>refine cA (br k) fun b c=>?_;obtain rfl:=b;obtain rfl:=c;exact IsiPair.str_str (n.same a (.bool _))
 |none=>refine cA (br k) fun d f=>?_;obtain rfl:=d;obtain rfl:=f;exact IsiPair.NoneType_str (n.tok a _ (.bool _))
 |int i t=>refine cA (br k) fun g h=>?_;obtain rfl:=g;obtain rfl:=h;exact IsiPair.int_str (n.tok a _ (.bool _))
 |_=>exact(aM k).elim
theorem DR.Vu{a:Addr}{l:List (V×V)} {m:List V} {u:Value} {r:Option V} (d:DR w h φ μ a l) (x:VR w h φ μ (.tup m) u) (D:keyOk (.tup m)=true) (e:look (.tup m) l=some r):
  ∃(b:Addr) (k:TK) (A:List (TK×Addr×Value)),u= .ref b/\iD w h k b/\h.DictOfH (h8 w) a A/\OR w h φ μ r ((atKey A k).map (·.2)):=by
 obtain⟨k,rfl⟩:=AX D
 have x2:VR w h φ μ (dR k) u:=x
 obtain⟨f,ho,I⟩:=VR.inv x
 cases d with
 |int ks kvs q C v=>cases ks with
  |nil=>obtain rfl:=map_nil C;exact⟨_,k,[],rfl,oX x2,qZ q,aR e▸.none⟩
  |cons p ks=>exact(aM e).elim
 |str ks kvs q C z v=>cases ks with
  |nil=>obtain rfl:=map_nil C;exact⟨_,k,[],rfl,oX x2,qZ q,aR e▸.none⟩
  |cons p ks=>exact(aM e).elim
 |tup ks A q C z v=>exact aN (Jl k ks A C v) fun J E H=>⟨_,k,A,rfl,oX x2,q,aR (E.symm.trans e)▸H⟩
theorem OR.getD{r:Option V} {o:Option Value} {d:V} {q:Value} (x:OR w h φ μ r o) (y:VR w h φ μ d q):VR w h φ μ (r.getD d) (o.getD q):=by
 cases x with
 |none=>exact y
 |some z=>exact z
def sZ (w:World) (s:Shared) (a:Addr) (c:Value) (Q:Value->Shared->Prop) (d:Value):V->Prop
 | .int _=>∃k f,(intKind aF w).is k d=true/\s.heap.MapOf (intKind aF w) a f/\Q ((f k).getD c) {s with toks:=s.toks+1}
 | .str _=>∃k f,(strKind aF w).is k d=true/\s.heap.MapOf (strKind aF w) a f/\Q ((f k).getD c) {s with toks:=s.toks+1}
 | .tup _=>∃b k e,d= .ref b/\(h8 w).is s.heap k b/\s.heap.DictOfH (h8 w) a e/\Q (((atKey e k).map (·.2)).getD c) {s with toks:=s.toks+(h8 w).draws k}
 |_=>False
theorem ic.yN{a:Addr}{k:V}{C D:Value} {r:Option V} (x:ic w s.heap φ μ a C r) (E:VR w s.heap φ μ k C) (H:isKey k=true) (q:∀o,OR w s.heap φ μ r o->∀t,Q (o.getD D) {s with toks:=t}):sZ w s a D Q C k:=by
 cases k with
 |int i=>exact cE E.inv fun t e=>x.ask.elim (fun z=>er z fun i t kvs A dd oo=>⟨i,_,A▸intKind_is aF w i t,dd.mapOf,q _ oo _⟩) fun z=>er z fun i t kvs A _ _=>nomatch e.symm.trans A
 |str i=>exact cE E.inv fun t e=>x.ask.elim (fun z=>er z fun i t kvs A _ _=>nomatch e.symm.trans A) fun z=>er z fun i t kvs A dd oo=>⟨i,_,A▸strKind_is aF w i t,dd.mapOf,q _ oo _⟩
 |_=>exact(aL H).elim
theorem Bc{o k d x:V} {a:Addr} {B n:Value} (hg:kG o k d st=some (x,aB)) (R:SR w h₀ s.heap φ μ st) (C:VR w s.heap φ μ o (.ref a)) (c:VR w s.heap φ μ k B) (D:VR w s.heap φ μ d n) (p:bz w h₀ s φ μ aB x Q):
  (a==sysModules)=false/\sZ w s a n Q B k:=by
 cases o with
 |bZ ks vs=>
  exact cA (fk hg) fun g e=>cA (cX e) fun u v=>fu v fun r h j=>dV (VR.vR C c g h) fun b y f E=>
   have y:a=b:=(pJ y)
   y▸⟨R.lC f,E.yN c g fun o oo t=>(j▸u▸p:bz w h₀ s φ μ st (r.getD d) Q).tok R t (oo.getD D)⟩
 |obj i=>
  exact k8 hg fun ob j e=>R.ob C j fun l hu hl q=>by
   cases ob with
   |dict I=>
    have dd:=q.xE.1
    obtain rfl:a=l.a:=pJ hu
    refine cA (fk e) fun g e=>cA (cX e) fun u v=>fu v fun r h j=>⟨R.rB (iN hl).1,?_⟩
    have z:∀o,OR w s.heap φ μ r o->∀t,Q (o.getD n) {s with toks:=t}:=fun o oo t=>(j▸u▸p:bz w h₀ s φ μ st (r.getD d) Q).tok R t (oo.getD D)
    cases k with
    |int i=>exact(dd.key c rfl h).yN c rfl z
    |str i=>exact(dd.key c g h).yN c g z
    |tup m=>exact ry (dd.Vu c g h) fun b k A e G H oo=>⟨b,k,A,e,G,H,z _ oo _⟩
    |_=>exact(aL g).elim
   |_=>exact(aM e).elim
 |_=>exact(aM hg).elim
def tL (w:World) (s:Shared) (a:Addr):Prop:=s.TypeIs (.ref a) "dict"/\∃ob,s.heap.get? a=some ob/\ob.dict=none
theorem rj{K':Type} [DecidableEq K'] {k:KeyKind aF w K'} {a:Addr} {kvs:List (K'×Value)} (d:s.heap.DictOf k a kvs):tL w s a:=
 j5 d fun o es b ho z=>⟨⟨o,ho,z.1.1⟩,o,ho,z.1.2.1⟩
theorem HF{a:Addr}{b:List (TK×Addr×Value)} (d:s.heap.DictOfH (h8 w) a b):tL w s a:=
 j5 d fun o es c ho z=>⟨⟨o,ho,z.1.1⟩,o,ho,z.1.2.1⟩
theorem DR.YK{a:Addr}{l:List (V×V)} (d:DR w s.heap φ μ a l):tL w s a:=by
 cases d with
 |int _ _ d=>exact rj d
 |str _ _ d=>exact rj d
 |tup _ _ d=>exact HF d
theorem Az{o:V}{u:Value}{x:Unit} (b:lJ o st=some (x,aB)) (R:SR w h₀ s.heap φ μ st) (y:VR w s.heap φ μ o u):aB=st/\∃a,u= .ref a/\tL w s a:=by
 cases o with
 |bZ ks vs=>
  refine⟨(br b).2.symm,?_⟩
  cases y with
  |bZ is f d=>exact⟨_,rfl,rj d⟩
  |nV is f d=>exact⟨_,rfl,rj d⟩
 |obj i=>
  exact k8 b fun ob c e=>R.ob y c fun l hu hl q=>by
   cases ob with
   |dict g=>exact⟨(br e).2.symm,_,hu,q.xE.1.YK⟩
   |_=>exact(aM e).elim
 |_=>exact(aM b).elim
theorem Ir{c:Pos}{b:Addr}{k:V}{x:Sem Value} (hu:A.units+100<cLine) (a:(b==sysModules)=false) (h:wpAny (model aF w) A x (fun d aC=>sZ w aC b .none Q d k) E s):wpAny (model aF w) A (callWith c (.builtin "dict.get") [.ref b] [(false,x)] []) Q E s:=by
 cases k with
 |int i=>exact wpAny_dict_get1 a h
 |str i=>exact wpAny_dict_get1 a h
 |tup m=>exact wpAny_dict_get1_heap (by show A.units+1+80<cLine;exact yn hu) a h
 |_=>exact wpAny_dict_get1 (knd:=intKind aF w) a (wpAny_mono h (fun _ _ q=>q.elim) fun _ _ e=>e)
theorem It{c:Pos}{b:Addr}{k:V}{x y:Sem Value} (hu:A.units+100<cLine) (a:(b==sysModules)=false) (h:wpAny (model aF w) A x (fun d aC=>wpAny (model aF w) A y (fun f aV=>sZ w aV b f Q d k) E aC) E s):wpAny (model aF w) A (callWith c (.builtin "dict.get") [.ref b] [(false,x),(false,y)] []) Q E s:=by
 cases k with
 |int i=>exact wpAny_dict_get2 a h
 |str i=>exact wpAny_dict_get2 a h
 |tup m=>exact wpAny_dict_get2_heap (by show A.units+1+80<cLine;exact yn hu) a h
 |_=>exact wpAny_dict_get2 (knd:=intKind aF w) a (wpAny_mono h (fun _ _ q=>wpAny_mono q (fun _ _ q=>q.elim) fun _ _ e=>e) fun _ _ e=>e)
theorem VR.Ci{o:V}{b:Addr} (y:VR w s.heap φ μ o (.ref b)) (R:SR w h₀ s.heap φ μ st):(b==sysModules)=false:=by
 cases y with
 |bZ is f d _ _=>exact R.lC f
 |nV is f d _ _ _=>exact R.lC f
 |tup f _ _=>exact R.lC f
 |lst f _ _=>exact R.lC f
 |obj hm=>exact R.rB (iN hm).1
theorem Ls{m k1:Ex} {e' g:PySem.Expr} {a:Str} {n q:Pos} (hu:A.units+100<cLine) (ih:aP w h₀ K A cx m e') (h:aP w h₀ K A cx k1 g) (v:cW a "get"=true) (B:gE e'=true) (hl:(n.endLine==q.line)=true) (ns:notStar g=true):
  aP w h₀ K A cx (.kr m k1) (.Call (.Attribute e' a n) [g] [] q):=by
 intro env D oa e st L aB s φ μ E Q d F R ph p
 refine fM d fun o i C z=>fM z fun _ j G z=>fM z fun M k H I=>?_
 clear d
 cases g7 v
 refine methodCall_KW (ih env D oa e _ _ _ s φ μ E _ C F R ph fun u aC aH aI x c y=>?_) (rh B (by rw[gB ns];rfl) (by simp) hl)
 refine cA (Az G c y) fun e0 z=>aN z fun b J hd=>?_
 subst e0 J
 refine getMethod_builtin hd.1 PySem.F.plainAttrs_dict PySem.F.slot_dict_get PySem.F.type_dict_get (fun N l=>pJ l▸hd.2) ?_
 rw[gB ns]
 exact Ir hu (y.Ci c) (h env D oa e _ _ _ aC aH aI E _ H (F.ext R x) c (Ph.on x ph) fun t aV bX cg r f z=>(Bc I f (y.mono (r.mono c)) z .none ((p.on x).on r)).2)
theorem Lu{G k1 d1:Ex} {e' j d':PySem.Expr} {a:Str} {H I:Pos} (hu:A.units+100<cLine) (ih:aP w h₀ K A cx G e') (k:aP w h₀ K A cx k1 j) (l:aP w h₀ K A cx d1 d') (L:cW a "get"=true) (M:gE e'=true) (hl:(H.endLine==I.line)=true)
  (ns:notStar j=true) (nd:notStar d'=true):aP w h₀ K A cx (.gq G k1 d1) (.Call (.Attribute e' a H) [j,d'] [] I):=by
 intro env D oa e st v' aB s φ μ E Q g F R ph p
 refine fM g fun o m N z=>fM z fun _ n O z=>fM z fun kv q T z=>fM z fun dv r U Y=>?_
 clear g
 cases g7 L
 refine methodCall_KW (ih env D oa e _ _ _ s φ μ E _ N F R ph fun u aC aH aI x c y=>?_) (rh M (by rw[gB ns,gB nd];rfl) (by simp) hl)
 refine cA (Az O c y) fun e0 z=>aN z fun b eu hd=>?_
 subst e0 eu
 refine getMethod_builtin hd.1 PySem.F.plainAttrs_dict PySem.F.slot_dict_get PySem.F.type_dict_get (fun a' v=>pJ v▸hd.2) ?_
 rw[gB ns,gB nd]
 exact It (y:=eval d' env) hu (y.Ci c) (k env D oa e _ _ _ aC aH aI E _ T (F.ext R x) c (Ph.on x ph) fun t aV bX cg i d z=>l env D oa e _ _ _ aV bX cg E _ U ((F.ext R x).ext c i) d (Ph.on i (Ph.on x ph)) fun t' J B C f h z'=>
  (Bc Y h ((y.mono (i.mono c)).mono (f.mono d)) (z.mono (f.mono d)) z' (((p.on x).on i).on f)).2)
theorem DR.EP{a:Addr}{l l':List (V×V)} {k v:V} {C u:Value} {Q:Unit->Shared->Prop} (d:DR w s.heap φ μ a l) (x:VR w s.heap φ μ k C) (y:VR w s.heap φ μ v u) (D:isKey k=true) (hl:l.length<=1048576) (e:bY k v l=some l')
  (p:∀h' t,Heap.SameBut a s.heap h'->(h'.get? a).isSome=true->(cN s.heap h' φ φ μ μ->DR w h' φ μ a l')->Q () {s with heap:=h',toks:=t}):wpAny (model aF w) A (dictSet a C u) Q E s:=by
 have small:∀{n:Nat},n=l.length->n<=sizeLine:=fun H=>by rw[sizeLine_eq,H];exact aK hl (by decide)
 cases k with
 |int i=>obtain⟨t,rfl⟩:=x.inv;exact dV (d.EN y e) fun kvs q z h=>wpAny_dictSet_pairs (knd:=intKind aF w) (intKind_is aF w i t) q (fun h' hd z=>p h' _ z (q4 hd) (h h' hd)) (small z)
 |str i=>obtain⟨t,rfl⟩:=x.inv;exact dV (d.EO y (of_decide_eq_true D) e) fun kvs q z h=>wpAny_dictSet_pairs (knd:=strKind aF w) (strKind_is aF w _ t) q (fun h' hd z=>p h' _ z (q4 hd) (h h' hd)) (small z)
 |_=>exact(aL D).elim
inductive VP (w:World) (h:Heap) (φ:Addr->Prop) (μ:List Loc):List (V×V)->List (Value×Value)->Prop
 |nil:VP w h φ μ [] []
 |cons {k v:V} {uk u:Value} {r:List (V×V)} {us:List (Value×Value)}:VR w h φ μ k uk->VR w h φ μ v u->VP w h φ μ r us->VP w h φ μ ((k,v)::r) ((uk,u)::us)
theorem VP.mono{h':Heap}{aD:Addr->Prop}{aE:List Loc} (x:cN h h' φ aD μ aE):∀{r:List (V×V)} {q:List (Value×Value)},VP w h φ μ r q->VP w h' aD aE r q
 |_,_,.nil=> .nil
 |_,_,.cons a b c=> .cons (a.mono x) (b.mono x) (c.mono x)
theorem VP.len:∀{r:List (V×V)} {q:List (Value×Value)},VP w h φ μ r q->r.length=q.length
 |_,_,.nil=>rfl
 |_,_,.cons _ _ c=>by rw[bU,bU,c.len]
theorem AA{l:List Ex} {ks:List (Option PySem.Expr)} {vs:List PySem.Expr} {pos:Pos} (a:eB w h₀ K A cx l ks vs):∀{st:St} {fl:List V} {aB:St} {s:Shared} {φ:Addr->Prop} {μ:List Loc} {Q:List (Value×Value)->Shared->Prop},
  cJ K e l st=some (fl,aB)->FR w h₀ cx env D oa e s.heap φ μ->SR w h₀ s.heap φ μ st->Ph φ->
  (∀r i s' aD aE,pairUp fl=some r->r.length=ks.length->Ext s s' φ aD μ aE->SR w h₀ s'.heap aD aE aB->VP w s'.heap aD aE r i->Q i s')->wpAny (model aF w) A (evalPairs (pairTrees ks vs env pos)) Q E s:=by
 induction a with
 |nil=>
  intro st fl aB s φ μ Q d F R ph q
  obtain⟨rfl,rfl⟩:=br d
  exact pairTrees_nil_walk (q [] [] _ _ _ rfl rfl Ext.kH R .nil)
 |cons C G _ ih=>
  intro st fl aB s φ μ Q d F R ph q
  refine jz d fun o j os H p I=>jz p fun v k J L M N=>?_
  clear d p
  subst N I
  refine pairTrees_cons_walk (C env D oa e _ _ _ s φ μ E _ H F R ph fun u aC aH aI x b y=>G env D oa e _ _ _ aC aH aI E _ L (F.ext R x) b (Ph.on x ph) fun t aV bX cg h c z=>?_)
  refine ih M ((F.ext R x).ext b h) c (Ph.on h (Ph.on x ph)) fun r i B m n O T f g U=>?_
  exact q ((o,v)::r) _ _ _ _ (congrArg (Option.map ((o,v)::·)) O) (congrArg Nat.succ T) ((x.trans h).trans f) g (.cons ((y.mono (h.mono b)).mono (f.mono c)) (z.mono (f.mono c)) U)
set_option tactic.hygienic true
theorem uj{d:Addr}:∀{r:List (V×V)} {g:List (Value×Value)} {l l':List (V×V)} {s:Shared} {Q:PUnit->Shared->Prop},VP w s.heap φ μ r g->(∀p∈r,isKey p.1=true)->r.foldlM (fun d p=>bY p.1 p.2 d) l=some l'->
  DR w s.heap φ μ d l->Off h₀ φ μ s.heap d->SR w h₀ s.heap φ μ st->l.length+r.length<=1000->(∀h' t,Heap.SameBut d s.heap h'->SR w h₀ h' φ μ st->DR w h' φ μ d l'->Off h₀ φ μ h' d->cN s.heap h' φ φ μ μ->Q ⟨⟩ {s with heap:=h',toks:=t})->
  wpAny (model aF w) A (storeAll d g) Q E s
 |[],g,l,l',s,Q,i,_,hf,dr,o,R,_,q=>by
  cases i
  obtain rfl:=aR hf
  unfold storeAll
  rw[rV]
  exact wpAny_pure (q s.heap s.toks (.refl _ _) R dr o ⟨fun _ _ _ e=>e,fun _ f=>f,fun _ _ e=>e⟩)
 |p::r,g,l,l',s,Q,i,G,hf,dr,o,R,j,q=>by
  cases i with
  |cons a b c=>
  rename_i k v N u g
  rw[List.foldlM_cons] at hf
  refine aN (sD.mp hf) fun l1 h hf=>?_
  have m:=AY _ h
  unfold storeAll
  rw[lQ]
  rw[bU] at j
  refine wpAny_bind (wpAny_bind (dr.EP a b (G _ (.head _)) (D9 j) h fun h' t H lv dd=>wpAny_pure ?_))
  refine cA (R.side o H) fun I n=>?_
  have J:Off h₀ φ μ h' d:=⟨o.nf,o.nm,o.nb,lv⟩
  exact uj (s:={s with heap:=h',toks:=t}) (c.mono n) (fun p L=>G p (.tail _ L)) hf (dd n) J I (Ea j m) fun x M y z B C D=>q x M (H.trans y) z B C ⟨fun b f o e=>D.keep b f o (n.keep b f o e),fun _ f=>f,fun _ _ e=>e⟩
theorem SR.dead (R:SR w h₀ s.heap φ μ st) {a:Addr} (d:s.heap.get? a=none):¬φ a/\a∉di μ/\h₀.get? a=none:=by
 refine⟨fun f=>?_,fun m=>?_,?_⟩
 ·have:=R.fz _ f;rw[d] at this;exact(aL this).elim
 ·have:=(R.off _ m).2.2;rw[d] at this;exact(aL this).elim
 ·cases q:h₀.get? a with
  |none=>rfl
  |some o=>have:=R.base _ _ q;rw[d] at this;exact(aM this).elim
theorem iQ (R:SR w h₀ s.heap φ μ st) {o:Obj} (ho:o.isFreed=false):Off h₀ φ μ (s.heap.push o) s.heap.objs.size:=
 dP (R.dead (eR _)) fun a b c=>⟨a,b,c,by rw[eE _ ho];rfl⟩
theorem iO (R:SR w h₀ s.heap φ μ st) (o:Obj):Ext s {s with heap:=s.heap.push o} φ φ μ μ/\SR w h₀ (s.heap.push o) φ μ st:=
 R.pure (s':={s with heap:=s.heap.push o}) (fun a b e=>gi o e) (fun _ f=>f) (fun a f n=>absurd f n) rfl rfl
theorem rk{a:Addr} (b:h.get? a=some {cls:= .type "dict",data:= .dict #[]}):DR w h φ μ a []:=
 .int [] [] ⟨_,#[],0,b,⟨rfl,rfl,rfl⟩,rfl,fun e c=>by simp at c,.nil,by simp⟩ rfl .nil
theorem eB.shape{l:List Ex} {ks:List (Option PySem.Expr)} {vs:List PySem.Expr} (a:eB w h₀ K A cx l ks vs):ks.all (·.isSome)=true/\ks.length=vs.length/\l.length=2*ks.length:=by
 induction a with
 |nil=>exact⟨rfl,rfl,rfl⟩
 |cons _ _ _ ih=>exact⟨ih.1,congrArg Nat.succ ih.2.1,congrArg (fun n=>n+2) ih.2.2⟩
theorem DR.toInt{a:Addr}{l:List (V×V)} (C:∀p∈l,isInt p.1=true) (d:DR w h φ μ a l):
  ∃(ks:List (Int×V)) (kvs:List (Int×Value)),l=ks.map nK/\h.DictOf (intKind aF w) a kvs/\kvs.map (·.1)=ks.map (·.1)/\aJ w h φ μ (ks.map (·.2)) (kvs.map (·.2)):=by
 cases d with
 |int ks kvs q A v=>exact⟨ks,kvs,rfl,q,A,v⟩
 |str ks kvs q A z v=>
  cases ks with
  |nil=>obtain rfl:=map_nil A;exact⟨[],[],rfl,ov q,rfl,.nil⟩
  |cons p ks=>exact(aL (C _ (.head _))).elim
 |tup ks kvs q A z v=>
  cases ks with
  |nil=>obtain rfl:=map_nil A;exact⟨[],[],rfl,mA q,rfl,.nil⟩
  |cons p ks=>exact(aL (C _ (.head _))).elim
theorem xK (ks:List (Int×V)):(ks.map nK).map (·.1)=(ks.map (·.1)).map V.int:=by rw[kj,kj];rfl
theorem Be{l:List Ex} {ks:List (Option PySem.Expr)} {vs:List PySem.Expr} {pos:Pos} {fl:List V} {r l':List (V×V)} (a:eB w h₀ K A cx l ks vs) (g:ks≠[]) (hz:ks.length<=15) (c:cJ K e l st=some (fl,aB)) (h:pairUp fl=some r)
  (i:∀p∈r,isKey p.1=true) (hf:r.foldlM (fun d p=>bY p.1 p.2 d) []=some l') (F:FR w h₀ cx env D oa e s.heap φ μ) (R:SR w h₀ s.heap φ μ st) (ph:Ph φ)
  (q:∀s' aD aE,Ext s s' φ aD μ aE->SR w h₀ s'.heap aD aE aB->Off h₀ aD aE s'.heap s.heap.objs.size->DR w s'.heap aD aE s.heap.objs.size l'->Q (.ref s.heap.objs.size) s'):wpAny (model aF w) A (eval (.Dict ks vs pos) env) Q E s:=by
 refine dP a.shape fun s1 s2 _=>?_
 obtain⟨x0,j⟩:=iO R {cls:= .type "dict",data:= .dict #[]}
 have k:=iQ R (o:={cls:= .type "dict",data:= .dict #[]}) rfl
 refine wpAny_Dict_any s1 s2 g hz ?_
 refine AA a c (F.ext R x0) j (Ph.on x0 ph) fun C G aC aH aI f m x b n=>?_
 rw[h] at f;obtain rfl:=aR f
 obtain⟨u,v⟩:=Off.ext (s:={s with heap:=s.heap.push {cls:= .type "dict",data:= .dict #[]}}) k x
 have hd:aC.heap.get? s.heap.objs.size=some {cls:= .type "dict",data:= .dict #[]}:=v.trans (eE _ rfl)
 refine uj n i hf (rk hd) u b (by rw[m];simp;exact TY hz) fun h' t y z dr B H=>?_
 exact q _ _ _ (Ext.side (x0.trans x) y (eR _)) z B dr
theorem Off.freeze (R:SR w h₀ s.heap φ μ st) {a:Addr} {s₀:Shared} {aT:Addr->Prop} {aU:List Loc} (x:Ext s₀ s aT φ aU μ) (o:Off h₀ φ μ s.heap a) (dd:s₀.heap.get? a=none):
  Ext s₀ s aT (fun b=>φ b\/b=a) aU μ/\SR w h₀ s.heap (fun b=>φ b\/b=a) μ st/\cN s.heap s.heap φ (fun b=>φ b\/b=a) μ μ:=by
 have z:cN s.heap s.heap φ (fun b=>φ b\/b=a) μ μ:=⟨fun _ _ _ e=>e,fun _ f=> .inl f,fun _ _ e=>e⟩
 refine⟨⟨x.keep,x.live,fun b f=> .inl (x.fr b f),fun b f n=>?_,x.mu,x.gens,x.os⟩,⟨R.base,R.len,fun i ob e=>?_,fun b A=>?_,R.apart,fun b f=>?_,⟨fun f=>?_,R.sys.2⟩⟩,z⟩
 ·rcases f with f|rfl
  ·exact x.nf b f n
  ·exact dd
 ·refine aN (R.obs i ob e) fun l hl q=>?_
  exact⟨l,hl,q.mono z fun _ _ _ e=>e⟩
 ·refine dP (R.off b A) fun C D E=>?_
  exact⟨fun f=>f.elim C fun q=>o.nm (q▸A),D,E⟩
 ·rcases f with f|rfl
  ·exact R.fz b f
  ·exact o.lv
 ·rcases f with f|f
  ·exact R.sys.1 f
  ·have:=R.sys.2;rw[f,o.nb] at this;exact(aL this).elim
theorem Cj{a:Addr}{l:List (V×V)} (f:φ a) (b:∀p∈l,isInt p.1=true) (d:DR w h φ μ a l):VR w h φ μ (.bZ (l.map (·.1)) (l.map (·.2))) (.ref a):=
 da (d.toInt b) fun ks kvs e q c v=>by
  have g:(ks.map nK).map (·.2)=ks.map (·.2):=by rw[kj];rfl
  rw[e,xK,g]
  exact .bZ (ks.map (·.1)) f q c v
theorem Iu{P:V->Prop}{k v:V} (c:P k) (l:List (V×V)):∀{l':List (V×V)},bY k v l=some l'->(∀p∈l,P p.1)->∀p∈l',P p.1:=by
 induction l with
 |nil=>exact fun h _=>aR h▸eF.mpr ⟨c,fun _ h=>(cp h).elim⟩
 |cons q r ih=>exact fun h hl=>have⟨a,b⟩:=eF.mp hl;Cd h (fun _ e=>e▸eF.mpr ⟨a,b⟩) fun _ f d e=>e▸eF.mpr ⟨a,ih d b⟩
theorem fold_all{P:V->Prop} (r:List (V×V)):∀{l l':List (V×V)},r.foldlM (fun d p=>bY p.1 p.2 d) l=some l'->(∀p∈r,P p.1)->(∀p∈l,P p.1)->∀p∈l',P p.1:=by
 induction r with
 |nil=>exact fun h _ hl=>aR h▸hl
 |cons p r ih=>exact fun h a hl=>have⟨b,c⟩:=eF.mp a;aN (sD.mp h) fun l1 e h=>ih h c (Iu b _ e hl)
theorem uA{v:V} (h:isInt v=true):isKey v=true:=by cases v<;>first|rfl|exact(aL h).elim
theorem Vv{l:List Ex} {ks:List (Option PySem.Expr)} {vs:List PySem.Expr} {pos:Pos} (a:eB w h₀ K A cx l ks vs) (t:ks≠[]) (hz:ks.length<=15):aP w h₀ K A cx (.dc l) (.Dict ks vs pos):=by
 intro env D oa e st u aB s φ μ E Q d F R ph p
 obtain⟨fl,f,y,z⟩:=bind_some (show(cJ K e l>>=fun fl=>lift (pairUp fl)>>=fun r=>_) st=some (u,aB) from d)
 obtain⟨r,g,B,i⟩:=bind_some z
 refine cA (cX B) fun b C=>?_;obtain rfl:=b
 split at i
 ·rename_i G
  obtain⟨q,j,H,I⟩:=bind_some i
  refine cA (cX H) fun c m=>?_;obtain rfl:=c
  replace p:=p.ret I
  have n:∀p∈r,isInt p.1=true:=fun p k=>cG.mp G p k
  refine Be a t hz y C (fun p k=>uA (n p k)) m F R ph fun s' aD aE x J o dr=>?_
  refine dP (o.freeze J x (eR _)) fun x2 L M=>?_
  exact p _ _ _ _ x2 L (Cj (.inr rfl) (fold_all _ (P:=fun v=>isInt v=true) m n (fun _ h=>nomatch h)) (dr.mono M fun _ e=>e))
 ·exact (aM i).elim
theorem Off.own (R:SR w h₀ s.heap φ μ st) {a:Addr} {s₀:Shared} {aT:Addr->Prop} {aU:List Loc} {ob:Ob} (x:Ext s₀ s aT φ aU μ) (o:Off h₀ φ μ s.heap a) (dd:s₀.heap.get? a=none) (ho:cN s.heap s.heap φ φ μ (μ++[⟨a,a⟩])->e8 w s.heap φ (μ++[⟨a,a⟩]) ⟨a,a⟩ ob):
  Ext s₀ s aT φ aU (μ++[⟨a,a⟩])/\SR w h₀ s.heap φ (μ++[⟨a,a⟩]) (st++[ob]):=by
 have D:cN s.heap s.heap φ φ μ (μ++[⟨a,a⟩]):=⟨fun _ _ _ e=>e,fun _ f=>f,fun i l e=>by rw[fG (et.mp e).1];exact e⟩
 have I:∀b,b∈di [(⟨a,a⟩:Loc)]->b=a:=fun b z=>by simpa[di] using z
 have ne:∀(i:Nat) (m:Loc),μ[i]?=some m->m.a≠a/\m.d≠a:=fun i m hm=>by
  refine cA (iN hm) fun m1 m2=>?_
  exact⟨fun q=>o.nm (q▸m1),fun q=>o.nm (q▸m2)⟩
 have ge:∀(i:Nat) (m:Loc),(μ++[(⟨a,a⟩:Loc)])[i]?=some m->μ[i]?=some m\/(i=μ.length/\m=⟨a,a⟩):=fun i m hm=>by
  rcases kl i μ.length with q|q
  ·rw[fG q] at hm;exact .inl hm
  ·rw[ft q] at hm
   cases e:i-μ.length with
   |zero=>rw[e] at hm;obtain rfl:=aR hm;exact .inr ⟨by exact sF q e,rfl⟩
   |succ n=>rw[e] at hm;exact(aM hm).elim
 refine⟨⟨x.keep,x.live,x.fr,x.nf,?_,x.gens,x.os⟩,⟨R.base,by simp[R.len],fun i E C=>?_,fun b z=>?_,fun i j m n hm H J=>?_,R.fz,R.sys⟩⟩
 ·refine aN x.mu fun n A H=>?_;obtain rfl:=A
  refine⟨n++[⟨a,a⟩],by rw[fE],fun b z=>?_⟩
  rw[gY,dM] at z
  rcases z with z|z
  ·exact H b z
  ·rw[I b z];exact dd
 ·rcases kl i st.length with q|q
  ·rw[fG q] at C
   refine aN (R.obs i E C) fun m hm r=>?_
   exact⟨m,D.mu i m hm,r.mono D fun _ _ _ e=>e⟩
  ·rw[ft q] at C
   cases e:i-st.length with
   |zero=>
    rw[e] at C;obtain rfl:=aR C
    have:i=μ.length:=by rw[R.len];exact sF q e
    subst this
    exact⟨⟨a,a⟩,by simp,ho D⟩
   |succ n=>rw[e] at C;exact(aM C).elim
 ·rw[gY,dM] at z
  rcases z with z|z
  ·exact R.off b z
  ·rw[I b z];exact⟨o.nf,o.nb,o.lv⟩
 ·rcases ge i m hm with q|⟨q,rfl⟩<;>rcases ge j n H with r|⟨r,rfl⟩
  ·exact R.apart i j m n q r J
  ·exact ⟨(ne i m q).1,(ne i m q).1,(ne i m q).2,(ne i m q).2⟩
  ·exact ⟨(ne j n r).1.symm,(ne j n r).2.symm,(ne j n r).1.symm,(ne j n r).2.symm⟩
  ·exact absurd (q.trans r.symm) J
theorem RE{l:List Ex} {ks:List (Option PySem.Expr)} {vs:List PySem.Expr} {pos:Pos} (a:eB w h₀ K A cx l ks vs) (hz:ks.length<=15):aP w h₀ K A cx (.eD l) (.Dict ks vs pos):=by
 intro env D oa e st v aB s φ μ E Q h F R ph p
 obtain⟨fl,i,m,y⟩:=bind_some (show(cJ K e l>>=fun fl=>lift (pairUp fl)>>=fun r=>_) st=some (v,aB) from h)
 obtain⟨r,j,z,k⟩:=bind_some y
 refine cA (cX z) fun b n=>?_;obtain rfl:=b
 split at k
 ·rename_i B
  obtain⟨q,g,C,G⟩:=bind_some k
  refine cA (cX C) fun c t=>?_;obtain rfl:=c
  replace p:=p.ret G
  have fin:∀s' aD aE,Ext s s' φ aD μ aE->SR w h₀ s'.heap aD aE g->Off h₀ aD aE s'.heap s.heap.objs.size->DR w s'.heap aD aE s.heap.objs.size q->Q (.ref s.heap.objs.size) s':=by
   intro s' aD aE x u o dr
   refine cA (o.own u x (eR _) (ob:= .dict q) fun H=> .dict (dr.mono H fun _ e=>e) rfl) fun x2 I=>?_
   exact p _ _ _ _ x2 I (VR.obj (l:=⟨s.heap.objs.size,s.heap.objs.size⟩) (by rw[<-u.len];simp))
  cases a with
  |nil=>
   refine cA (br m) fun d f=>?_;obtain rfl:=d;obtain rfl:=f
   obtain rfl:=aR n
   obtain rfl:=aR t
   refine cA (iO R {cls:= .type "dict",data:= .dict #[]}) fun x0 J=>?_
   exact wpAny_Dict_empty (fin _ _ _ x0 J (iQ R rfl) (rk (eE _ rfl)))
  |cons k1 k2 L=>exact Be (.cons k1 k2 L) (by simp) hz m n (fun p M=>cG.mp B p M) t F R ph fin
 ·exact (aM k).elim
theorem SR.but{I:Addr} (R:SR w h₀ s.heap φ μ st) (o:Off h₀ φ μ s.heap I) (k:∀b ob,b≠I->s.heap.get? b=some ob->h'.get? b=some ob):SR w h₀ h' φ μ st/\cN s.heap h' φ φ μ μ:=by
 have D:cN s.heap h' φ φ μ μ:=⟨fun b f ob z=>k b ob (fun q=>o.nf (q▸f)) z,fun _ f=>f,fun _ _ e=>e⟩
 have lv:∀b,b≠I->(s.heap.get? b).isSome=true->(h'.get? b).isSome=true:=fun b q z=>by
  refine cE (fP.mp z) fun ob A=>?_;rw[k b ob q A];rfl
 refine⟨⟨fun b ob z=>k b ob (fun q=>?_) (R.base b ob z),R.len,fun i ob E=>?_,fun b z=>?_,R.apart,fun b f=>lv b (fun q=>o.nf (q▸f)) (R.fz b f),R.sys⟩,D⟩
 ·have:=o.nb;rw[<-q,z] at this;exact(i8 this).elim
 ·refine aN (R.obs i ob E) fun l hl q=>?_
  refine cA (iN hl) fun m1 m2=>?_
  refine⟨l,hl,q.mono D fun b z C A=>k b C (fun q=>o.nm ?_) A⟩
  rcases z with rfl|rfl
  ·exact q▸m1
  ·exact q▸m2
 ·refine dP (R.off b z) fun H J L=>?_
  exact⟨H,J,lv b (fun q=>o.nm (q▸z)) L⟩
theorem Ext.but{I:Addr}{t:Nat} (x:Ext s₀ s aT φ aU μ) (k:∀b ob,b≠I->s.heap.get? b=some ob->h'.get? b=some ob) (d:s₀.heap.get? I=none):Ext s₀ {s with heap:=h',toks:=t} aT φ aU μ:=by
 have C:∀b,(s₀.heap.get? b).isSome=true->b≠I:=fun b z q=>by rw[q,d] at z;exact(aL z).elim
 refine⟨fun b o z nb=>k b o (C b (by rw[z];rfl)) (x.keep b o z nb),fun b z=>?_,x.fr,x.nf,x.mu,x.gens,x.os⟩
 obtain⟨ob,A⟩:=fP.mp (x.live b z)
 rw[k b ob (C b z) A];rfl
theorem Off.but{I a:Addr} (o:Off h₀ φ μ s.heap a) (k:∀b ob,b≠I->s.heap.get? b=some ob->h'.get? b=some ob) (q:a≠I):Off h₀ φ μ h' a/\h'.get? a=s.heap.get? a:=by
 refine cE (fP.mp o.lv) fun ob z=>?_
 have:=k a ob q z
 exact⟨⟨o.nf,o.nm,o.nb,by rw[this];rfl⟩,this.trans z.symm⟩
theorem FR.but{I:Addr} (F:FR w h₀ cx env D oa e s.heap φ μ) (R:SR w h₀ s.heap φ μ st) (o:Off h₀ φ μ s.heap I) (k:∀b ob,b≠I->s.heap.get? b=some ob->h'.get? b=some ob) (hf:∀a,FA env a->a≠I) (ho:∀(i:Nat) (l:List V),e[i]?=some (.own l)->oa i≠I):
  FR w h₀ cx env D oa e h' φ μ:=by
 have q:∀a,FA env a->h'.get? a=s.heap.get? a:=fun a f=>((F.off a f).but k (hf a f)).2
 have J:=(R.but o k).2
 refine⟨F.ok,F.ns.elim fun m n=>⟨m,Ns.same n (q _ (.inl rfl))⟩,fun y c L=>(F.cl y c L).elim fun v n=>⟨v,Cell.same n (q _ (.inr ⟨y,L⟩))⟩,F.ap,F.ca,fun a f=>((F.off a f).but k (hf a f)).1,fun i v y O z A=>?_,fun i l y hl z A=>?_,fun i l hl=>⟨((F.oo i l hl).1.but k (ho i l hl)).1,(F.oo i l hl).2⟩,F.k9⟩
 ·refine aN (F.sl i v y O z A) fun u C E=>?_
  exact⟨u,C.same q,E.mono J⟩
 ·refine oN (F.own i l y hl z A) fun C E Q H n U Y=>?_
  refine cA (E.but k (ho i l hl)) fun o1 o2=>?_
  exact⟨C.same q,o1,Q,H,n,o2.trans U,Y.mono J⟩
structure oQ (w:World) (A:Around) (s:Shared) (φ:Addr->Prop) (μ:List Loc) (I:Addr) (l:List V) (fp:List Addr) (P:Nat->Value->Prop) (St:Nat->Heap->Prop):Prop where
 walk:Walks aF w A I fp [I] l.length P St
 fz:∀b∈fp,b=I\/φ b
 md:St 0 s.heap
 lv:∀i h,St i h->(h.get? I).isSome=true
 go:∀(i:Nat) (s':Shared) (t:PySem.Expr) (v:Value) (Q:Unit->Shared->Prop) (E:Value->Shared->Prop),St i s'.heap->Q () s'->wpAny (model aF w) A (letOwnedTupleGo t (.ref I) v) Q E s'
 val:∀i v,i<l.length->P i v->∃x,l[i]?=some x/\∀h' aD aE,cN s.heap h' φ aD μ aE->VR w h' aD aE x v
theorem vY{prog:Program}{w:World}{A:Around}{E:Value->Shared->Prop}{s:Shared}{I:Addr}{t:PySem.Expr}{v:Value}{n:String}{o:Obj}{vs:Array Value} {Q:Unit->Shared->Prop} (hn:(["enumerate","zip","dict_itemiterator","dict_reverseitemiterator","odict_iterator","itertools.zip_longest","itertools.pairwise"].contains n)=false) (ho:s.heap.get? I=some o) (hc:o.cls= .type n) (hd:o.data= .fields vs) (q:Q () s):
  wpAny (model prog w) A (letOwnedTupleGo t (.ref I) v) Q E s:=by
 have main:∀a,wpAny (model prog w) A (do
   let o<-load I
   match o.cls,o.data with
   | .type n,.fields vs=>
    if ["enumerate","zip","dict_itemiterator","dict_reverseitemiterator","odict_iterator","itertools.zip_longest","itertools.pairwise"].contains n&&vs[0]?==some (rawInt a) then
     rule "for.unpacks-the-owned-tuple"
     updateField I 0 .none
   |_,_=>pure ()) Q E s:=by
  intro a
  refine wpAny_bind (wpAny_load ho ?_)
  rw[hc,hd]
  dsimp only
  rw[hn,Bool.false_and]
  exact wpAny_pure q
 cases t with
 |Tuple|List=>cases v with
  |ref a=>exact main a
  |_=>exact wpAny_pure q
 |_=>exact wpAny_pure q
set_option tactic.hygienic true
theorem rm{l:List V} {u:Value} {Q:Value->Shared->Prop} (hd:A.handled=none) (hz:l.length<=1048576) (G:v= .tup l\/v= .lst l) (R:SR w h₀ s.heap φ μ st) (y:VR w s.heap φ μ v u)
  (q:∀I N P St s',oQ w A s' φ μ I l N P St->s.heap.get? I=none->Ext s s' φ φ μ μ->SR w h₀ s'.heap φ μ st->Off h₀ φ μ s'.heap I->Q (.ref I) s'):wpAny (model aF w) A (pyIter u) Q E s:=by
 have tl:∀{a:Addr} {c:Array Value} (o:Obj),φ a->aJ w s.heap φ μ l c.toList->cN s.heap (s.heap.push o) φ φ μ μ->∀i v,i<l.length->c[i]?=some v->∃x,l[i]?=some x/\∀h' aD aE,cN (s.heap.push o) h' φ aD μ aE->VR w h' aD aE x v:=by
  intro a c o f G O i v _ T
  have hl:=G.length
  have r:c.toList[i]?=some v:=by simpa using T
  have z:i<l.length:=by rw[hl];exact(et.mp r).1
  refine aN (G.get (iq z)) fun Y M U=>?_
  rw[r] at M;obtain rfl:=aR M
  exact⟨_,iq z,fun h' aD aE m=>(U.mono O).mono m⟩
 rcases G with rfl|rfl
 ·obtain ⟨f,ho,B⟩:=VR.inv y
  rename_i a c n
  have hl:=B.length
  simp only[dU] at hl
  have C:s.heap.IsTuple a c:=⟨_,ho,rfl,n,rfl⟩
  refine wpAny_pyIter_tuple C ?_
  refine cA (iO R {cls:= .type "tuple_iterator",data:= .fields #[.ref a,.int 0 0]}) fun x1 H=>?_
  have p:a≠s.heap.objs.size:=fun q=>by rw[q] at f;have:=R.fz _ f;rw[eR] at this;exact(aL this).elim
  exact q _ _ _ _ _ ⟨hl▸Walks.tuple hd _ a p c,fun b D=>by simp at D;rcases D with rfl|rfl;exact .inl rfl;exact .inr f,⟨⟨_,eE _ rfl,rfl,rfl⟩,C.at fun o e=>gi _ e⟩,
   fun i h st=>by refine cA st fun d _=>?_;obtain⟨o,ho,_⟩:=d;rw[ho];rfl,fun i s' t v Q E st J=>by refine cA st fun g _=>?_;obtain⟨o,ho,L,hd⟩:=g;exact vY (by decide) ho L hd J,tl _ f B (x1.mono R)⟩ (eR _) x1 H (iQ R rfl)
 ·obtain ⟨f,ho,B⟩:=VR.inv y
  rename_i a c n
  have hl:=B.length
  simp only[dU] at hl
  have C:s.heap.IsList a c:=⟨_,ho,rfl,n,rfl⟩
  refine wpAny_pyIter_list C ?_
  refine cA (iO R {cls:= .type "list_iterator",data:= .fields #[.ref a,.int 0 0]}) fun x1 H=>?_
  have p:a≠s.heap.objs.size:=fun q=>by rw[q] at f;have:=R.fz _ f;rw[eR] at this;exact(aL this).elim
  exact q _ _ _ _ _ ⟨hl▸Walks.list hd _ a p c,fun b D=>by simp at D;rcases D with rfl|rfl;exact .inl rfl;exact .inr f,⟨⟨_,eE _ rfl,rfl,rfl⟩,C.at fun o e=>gi _ e⟩,
   fun i h st=>by refine cA st fun j _=>?_;obtain⟨o,ho,_⟩:=j;rw[ho];rfl,fun i s' t v Q E st J=>by refine cA st fun k _=>?_;obtain⟨o,ho,L,hd⟩:=k;exact vY (by decide) ho L hd J,tl _ f B (x1.mono R)⟩ (eR _) x1 H (iQ R rfl)
noncomputable def me (n:Nat):List V:=(List.range n).map fun i=> .int (Int.ofNat i)
theorem Aj{n:Nat}{t:Tok}{Q:Value->Shared->Prop} (hd:A.handled=none) (hz:n<=1000) (R:SR w h₀ s.heap φ μ st)
  (q:∀I m P St s',oQ w A s' φ μ I (me n) m P St->s.heap.get? I=none->Ext s s' φ φ μ μ->SR w h₀ s'.heap φ μ st->Off h₀ φ μ s'.heap I->Q (.ref I) s'):
  wpAny (model aF w) A (call (.type "range") [.int (Int.ofNat n) t]) (fun p aC=>wpAny (model aF w) A (pyIter p) Q E aC) E s:=by
 have c:(me n).length=n:=by simp[me]
 have e:Builtin.Range.rangeSize 0 (Int.ofNat n) 1=(n:Int):=by
  rw[rangeSize_one]
  have:(Int.ofNat n)=(n:Int):=rfl
  split<;>(first|exact TZ this|omega)
 have fin:∀(a d:Obj) (f:Tok),d.isFreed=false->IsRangeIter ((s.heap.push a).push d) (s.heap.push a).objs.size (0+((0:Nat):Int)*1) ((n:Int) - ((0:Nat):Int)) 1->Q (.ref (s.heap.push a).objs.size) {s with heap:=(s.heap.push a).push d,toks:=f}:=by
  intro a d f g j
  refine cA (iO R a) fun x1 k=>?_
  refine cA (iO (s:={s with heap:=s.heap.push a}) k d) fun x2 r=>?_
  have x3:Ext s {s with heap:=(s.heap.push a).push d,toks:=f} φ φ μ μ:=(x1.trans x2).trans (Ext.toks (s:={s with heap:=(s.heap.push a).push d}) _)
  refine q _ [_] (fun i v=>∃t,v= .int (0+(i:Nat)*1) t) (fun i h=>IsRangeIter h (s.heap.push a).objs.size (0+(i:Nat)*1) ((n:Int) - (i:Nat)) 1) _ ⟨by rw[c];exact Walks.range hd _ 0 1 n,fun b u=> .inl (List.mem_singleton.mp u),j,fun i h st=>by rw[show h.get? _=_ from st];rfl,fun i s' t v Q E st x=>vY (by decide) st rfl rfl x,fun i v l y=>?_⟩ ?_ x3 r (iQ (s:={s with heap:=s.heap.push a}) k g)
  ·obtain ⟨C,rfl⟩:=y
   rw[c] at l
   refine⟨.int (Int.ofNat i),by simp[me,l],fun h' aD aE _=>?_⟩
   have z:(0+(i:Int)*1)=Int.ofNat i:=by simp
   rw[z];exact .int _ _
  ·cases q:s.heap.get? (s.heap.push a).objs.size with
   |none=>rfl
   |some o=>have:=jJ q;rw[Heap.size_push] at this;exact absurd this (Nat.not_lt.mpr (dZ _))
 refine call_range_1 (wpAny_pyIter_range (IsRange.new ..) (small_one (by decide) (by decide) (pj (by decide) (hH n)) (by have:(Int.ofNat n)=(n:Int):=rfl;exact PT hz this)) (fin _ _ _ rfl ?_))
 have g:(0+((0:Nat):Int)*1)=0:=by simp
 have B:((n:Int) - ((0:Nat):Int))=Builtin.Range.rangeSize 0 (Int.ofNat n) 1:=by rw[e];simp
 rw[g,B]
 exact eE _ rfl
theorem AB{x:Str}{c:Addr}:∀{l:List (Str×Addr)},l.lookup x=some c->(x,c)∈l
 |(a,b)::r,h=>by
  rw[fH] at h
  split at h
  ·rename_i q;obtain rfl:=aR h;rw[beq_iff_eq.mp q];exact .head _
  ·exact .tail _ (AB h)
theorem AD{x:Str}:∀{l:List (Str×Addr)},x∈l.map (·.1)->(l.lookup x).isSome=true
 |(a,b)::r,h=>by
  rw[fH]
  split
  ·rfl
  ·rename_i q
   rcases bP.mp h with e|h
   ·rw[show x=a from e] at q;simp at q
   ·exact AD h
theorem um (env:PySem.Env):∀(names:List (Str×NameKind)) (acc:List (Str×Addr)),(∀p∈names,p.2= .free->(env.cells.lookup p.1).isSome=true)->
  ∃cl,(forIn names acc fun(x:Str×NameKind) (r:List (Str×Addr))=>(match x with
   |(name,kind)=>if(kind== .free)=true then(do let a<-cellOf env name;pure (ForInStep.yield ((name,a)::r))) else pure (ForInStep.yield r):Sem (ForInStep (List (Str×Addr)))))=pure cl/\
   (∀p∈cl,p∈acc\/env.cells.lookup p.1=some p.2)/\(∀p∈names,p.2= .free->p.1∈cl.map (·.1))/\∀p∈acc,p∈cl
 |[],acc,_=>⟨acc,rfl,fun p hp=> .inl hp,fun p hp=>(nomatch hp),fun p hp=>hp⟩
 |(n,k)::r,acc,h=>by
  rw[lQ]
  by_cases hk:k= .free
  ·subst hk
   refine cE (fP.mp (h (n,.free) (.head _) rfl)) fun c hc=>?_
   dsimp only at hc
   refine jD (um env r ((n,c)::acc) fun p hp=>h p (.tail _ hp)) fun cl h1 h2 h3 h4=>?_
   refine⟨cl,?_,fun p hp=>?_,fun p hp hf=>?_,fun p hp=>h4 p (.tail _ hp)⟩
   ·dsimp only
    have:cellOf env n=pure c:=by unfold cellOf;rw[hc]
    rw[if_pos (by rfl),this,pure_bind,pure_bind]
    exact h1
   ·rcases h2 p hp with q|q
    ·rcases bP.mp q with rfl|q
     ·exact .inr hc
     ·exact .inl q
    ·exact .inr q
   ·rcases bP.mp hp with rfl|hp
    ·exact km.mpr ⟨(n,c),h4 _ (.head _),rfl⟩
    ·exact h3 p hp hf
  ·refine jD (um env r acc fun p hp=>h p (.tail _ hp)) fun cl h1 h2 h3 h4=>?_
   refine⟨cl,?_,h2,fun p hp hf=>?_,h4⟩
   ·dsimp only
    rw[if_neg (by simpa using hk),pure_bind]
    exact h1
   ·rcases bP.mp hp with rfl|hp
    ·exact absurd hf hk
    ·exact h3 p hp hf
theorem Hb{env:PySem.Env}{sc:Scope} (h:∀p∈sc.names,p.2= .free->(env.cells.lookup p.1).isSome=true):
  ∃cl,closureFor sc env=pure cl/\(∀x c,cl.lookup x=some c->env.cells.lookup x=some c)/\(∀p∈sc.names,p.2= .free->(cl.lookup p.1).isSome=true):=by
 refine jD (um env sc.names [] h) fun cl h1 h2 h3 _=>?_
 refine⟨cl,?_,fun x c e=>?_,fun p hp hf=>AD (h3 p hp hf)⟩
 ·unfold closureFor
  dsimp only
  rw[<-bind_pure (pure cl:Sem _),<-h1]
 ·rcases h2 _ (AB e) with q|q
  ·cases q
  ·exact q
structure pZ (cx:Cx) (sc:Scope) (y:Str):Prop where
 fn:sc.kind= .function
 nc:∀p∈sc.names,p.2≠.cell
 lo:∀p∈sc.names,p.2= .local->(p.1=y\/p.1∉cx.names)/\sc.names.lookup p.1=some .local
 fr:∀p∈sc.names,p.2= .free->cx.kd p.1=some .cell
 ly:sc.names.lookup y=some .local
theorem u2{cx:Cx}{sc:Scope}{y:Str} (h:jc cx sc y=true):pZ cx sc y:=by
 unfold jc at h
 refine cA (bK.mp h) fun h e=>?_
 refine cA (bK.mp h) fun h b=>?_
 refine cA (bK.mp h) fun c d=>?_
 have g:=fun p a=>cG.mp d p a
 refine⟨beq_iff_eq.mp c,fun p a q=>?_,fun p a q=>?_,fun p a q=>?_,beq_iff_eq.mp b⟩
 ·have:=g p a;rw[q] at this;simp at this
 ·have:=g p a;rw[q] at this
  simp at this
  exact this
 ·have:=g p a;rw[q] at this
  simp at this
  exact this
theorem BI{x:Str}{k:NameKind}:∀{l:List (Str×NameKind)},l.lookup x=some k->(x,k)∈l
 |(a,b)::r,h=>by
  rw[fH] at h
  split at h
  ·rename_i q;obtain rfl:=aR h;rw[beq_iff_eq.mp q];exact .head _
  ·exact .tail _ (BI h)
theorem Iv (ok:oZ cx env) (sc:Scope):(relabel sc env).names=lL sc cx.kd:=by
 unfold relabel lL
 dsimp only
 refine List.map_congr_left fun p _=>?_
 obtain⟨n,k⟩:=p
 dsimp only
 rw[ok.kd,ok.fn]
 simp
theorem AE{sc:Scope}{y x:Str} {k:NameKind} (S:pZ cx sc y) (h:(cx.comp sc).kd x=some k) (hk:gL (some k)=true):(k= .local/\(x=y\/x∉cx.names))\/(k= .cell/\cx.kd x=some .cell/\(x,.free)∈sc.names):=by
 have m:=BI (show(lL sc cx.kd).lookup x=some k from h)
 unfold lL at m
 refine aN (km.mp m) fun RF hm e=>?_;obtain⟨n,k'⟩:=RF
 dsimp only at e
 split at e
 ·rename_i q
  cases e
  refine cA (bK.mp q) fun q1 q2=>?_
  exact .inr ⟨rfl,beq_iff_eq.mp q2,(beq_iff_eq.mp q1)▸hm⟩
 ·rename_i q
  cases e
  cases k with
  |«local»=>exact .inl ⟨rfl,(S.lo _ hm rfl).1⟩
  |cell=>exact absurd rfl (S.nc _ hm)
  |free=>
   have:=S.fr _ hm rfl
   dsimp only at this
   rw[this] at q
   simp at q
  |_=>cases hk
theorem GC{sc:Scope}{kd:Str->Option NameKind} {y:Str}:sc.names.lookup y=some .local->(lL sc kd).lookup y=some .local:=by
 unfold lL
 generalize sc.names=l
 induction l with
 |nil=>intro h;exact(aM h).elim
 |cons p r ih=>
  obtain⟨n,k⟩:=p
  intro h
  rw[fH] at h
  rw[eV]
  dsimp only
  split at h
  ·rename_i q
   obtain rfl:=aR h
   rw[if_neg (by simp),fH,q]
  ·rename_i q
   split<;>(rw[fH,q];exact ih h)
theorem JO{sc:Scope}{y:Str}{x:Nat}{cl:List (Str×Addr)} {C:Addr} {m:Str->Option Value} {du:PySem.Env} (S:pZ cx sc y) (nd:cx.names.Nodup) (hx:cx.names[x]?=some y) (F:FR w h₀ cx env D oa e s.heap φ μ)
  (hc:du={env with scope:=relabel sc env,locals:=C,cells:=cl,func:=none}) (c1:∀x c,cl.lookup x=some c->env.cells.lookup x=some c) (c2:∀p∈sc.names,p.2= .free->(cl.lookup p.1).isSome=true)
  (ho:Off h₀ φ μ s.heap C) (hn:s.heap.Ns C m):FR w h₀ (cx.comp sc) du D oa (e.set x .un) s.heap φ μ:=by
 subst hc
 have kd:∀z,(relabel sc env).names.lookup z=(cx.comp sc).kd z:=fun z=>by rw[Iv F.ok];rfl
 have rd:∀(i:Nat) (z:Str) (u:Value),i≠x->cx.names[i]?=some z->gL ((cx.comp sc).kd z)=true->(∀(_:gL (cx.kd z)=true),Rd s.heap env z u)->gL (cx.kd z)=true/\Rd s.heap {env with scope:=relabel sc env,locals:=C,cells:=cl,func:=none} z u:=by
  intro i z u hi hz hk r
  cases q:(cx.comp sc).kd z with
  |none=>rw[q] at hk;exact(aL hk).elim
  |some k=>
   rw[q] at hk
   rcases AE S q hk with⟨_,rfl|YL⟩|⟨rfl,h2,h3⟩
   ·exact absurd ((List.getElem?_inj (et.mp hz).1 nd).mp (hz.trans hx.symm)) hi
   ·exact absurd (iY hz) YL
   ·have hl:gL (cx.kd z)=true:=by rw[h2];rfl
    refine⟨hl,?_⟩
    cases r hl with
    |loc a1 a2 a3=>rw[F.ok.kd,h2] at a1;cases a1
    |iF a1 a2 a3=>
     refine cE (fP.mp (c2 _ h3 rfl)) fun c hc=>?_
     have:=c1 _ _ hc
     rw[a2] at this
     obtain rfl:=aR this
     exact .iF (.inl (by show(relabel sc env).names.lookup z=_;rw[kd,q])) hc a3
 refine⟨⟨S.fn,kd,F.ok.gl,F.ok.bi⟩,⟨m,hn⟩,fun z c hc=>F.cl z c (c1 z c hc),fun z z' c h1 h2=>F.ap z z' c (c1 _ _ h1) (c1 _ _ h2),fun z hz=>?_,fun a fa=>?_,fun i v z hv hz hk=>?_,fun i l z hl hz hk=>?_,fun i l hl=>?_,fun i j l m hi hj q=>?_⟩
 ·rcases AE S hz rfl with⟨q,_⟩|⟨_,_,q⟩
  ·cases q
  ·exact c2 _ q rfl
 ·rcases fa with rfl|⟨z,hz⟩
  ·exact ho
  ·exact F.off a (.inr ⟨z,c1 _ _ hz⟩)
 ·by_cases hi:i=x
  ·subst hi;cases fy hv
  ·rw[dQ hi] at hv
   by_cases hl:gL (cx.kd z)=true
   ·refine aN (F.sl i v z hv hz hl) fun u r y=>?_
    exact⟨u,(rd i z u hi hz hk fun _=>r).2,y⟩
   ·exact absurd (rd i z .none hi hz hk fun q=>absurd q hl).1 hl
 ·by_cases hi:i=x
  ·subst hi;cases fy hl
  ·rw[dQ hi] at hl
   by_cases qy:gL (cx.kd z)=true
   ·refine cA (F.own i l z hl hz qy) fun r o=>?_
    exact⟨(rd i z _ hi hz hk fun _=>r).2,o⟩
   ·exact absurd (rd i z .none hi hz hk fun q=>absurd q qy).1 qy
 ·by_cases hi:i=x
  ·subst hi;cases fy hl
  ·rw[dQ hi] at hl;exact F.oo i l hl
 ·by_cases FU:i=x
  ·subst FU;cases fy hi
  ·by_cases gP:j=x
   ·subst gP;cases fy hj
   ·rw[dQ FU] at hi;rw[dQ gP] at hj
    exact F.k9 i j l m hi hj q
section
section
theorem HG{f:V->M V}:([]:List V).mapM f=pure []:=rfl
theorem Hc{f:V->M V} {a:V} {l:List V}:(a::l).mapM f=(do let b<-f a;let c<-l.mapM f;pure (b::c)):=pK
structure CI (w:World) (h₀:Heap) (cx:Cx) (du:PySem.Env) (D:Addr->Prop) (oa:Nat->Addr) (e:Env) (st:St) (s aC:Shared) (φ aH:Addr->Prop) (μ aI:List Loc) (L:Addr) (done:List V):Prop where
 x:Ext s aC φ aH μ aI
 R:SR w h₀ aC.heap aH aI st
 F:FR w h₀ cx du D oa e aC.heap aH aI
 oL:Off h₀ aH aI aC.heap L
 dn:∃bQ n,IsL aC.heap L bQ n/\aJ w aC.heap aH aI done bQ.toList
theorem cN.tr{h h' q:Heap} {φ aD gJ:Addr->Prop} {μ aE gK:List Loc} (x:cN h h' φ aD μ aE) (y:cN h' q aD gJ aE gK):cN h q φ gJ μ gK:=
 ⟨fun a f o e=>y.keep a (x.fr a f) o (x.keep a f o e),fun a f=>y.fr a (x.fr a f),fun i l e=>y.mu i l (x.mu i l e)⟩
theorem FR.weak{r:Env} (F:FR w h₀ cx env D oa e h φ μ) (E:∀(j:Nat) (v:V),r[j]?=some (.v v)->e[j]?=some (.v v)) (z:∀(j:Nat) (l:List V),r[j]?=some (.own l)->e[j]?=some (.own l)):FR w h₀ cx env D oa r h φ μ:=
 ⟨F.ok,F.ns,F.cl,F.ap,F.ca,F.off,fun i v y H A C=>F.sl i v y (E i v H) A C,fun i l y hl A C=>F.own i l y (z i l hl) A C,fun i l hl=>F.oo i l (z i l hl),fun i j l m I J q=>F.k9 i j l m (z i l I) (z j m J) q⟩
theorem FR.fill{i:Nat}{x:Str}{u:Value} (F:FR w h₀ cx env D oa (e.set i .un) h φ μ) (hx:cx.names[i]?=some x) (rd:Rd h env x u) (y:VR w h φ μ v u):FR w h₀ cx env D oa (e.set i (.v v)) h φ μ:=by
 refine⟨F.ok,F.ns,F.cl,F.ap,F.ca,F.off,fun j v' y' hj hy hk=>?_,fun j l' y' hj hy hk=>?_,fun j l' hj=>?_,fun j j' l' m' hj gP q=>?_⟩
 ·by_cases q:j=i
  ·subst q
   have:=fy hj
   cases this
   rw[hx] at hy;obtain rfl:=aR hy
   exact⟨u,rd,y⟩
  ·rw[dQ q] at hj
   exact F.sl j v' y' (by rw[dQ q];exact hj) hy hk
 ·by_cases q:j=i
  ·subst q;cases fy hj
  ·rw[dQ q] at hj
   exact F.own j l' y' (by rw[dQ q];exact hj) hy hk
 ·by_cases q:j=i
  ·subst q;cases fy hj
  ·rw[dQ q] at hj
   exact F.oo j l' (by rw[dQ q];exact hj)
 ·by_cases q1:j=i
  ·subst q1;cases fy hj
  ·by_cases q2:j'=i
   ·subst q2;cases fy gP
   ·rw[dQ q1] at hj;rw[dQ q2] at gP
    exact F.k9 j j' l' m' (by rw[dQ q1];exact hj) (by rw[dQ q2];exact gP) q
theorem g8{i j:Nat} {r:Slot} (h:(e.set i .un)[j]?=some r) (hr:r≠.un):j≠i/\e[j]?=some r:=by
 by_cases q:j=i
 ·subst q;exact absurd (fy h) hr
 ·exact ⟨q,by rwa [dQ q] at h⟩
theorem Off.eq{a:Addr} (o:Off h₀ φ μ h a) (e:h'.get? a=h.get? a):Off h₀ φ μ h' a:=⟨o.nf,o.nm,o.nb,e▸o.lv⟩
section
variable {du:PySem.Env} {I L:Addr} {don:List V} {e':Env}
variable {t:Tok}
theorem CI.but (C:CI w h₀ cx du D oa e st s aC φ aH μ aI L don) (o:Off h₀ aH aI aC.heap I) (z:I≠L) (E:s.heap.get? I=none) (fa:∀a,FA du a->a≠I) (H:∀(i:Nat) (m:List V),e[i]?=some (.own m)->oa i≠I) (k:∀b ob,b≠I->aC.heap.get? b=some ob->h'.get? b=some ob):
  CI w h₀ cx du D oa e st s {aC with heap:=h',toks:=t} φ aH μ aI L don:=
 have r:=C.R.but o k
 have q:=C.oL.but k (gf z)
 ⟨C.x.but k E,r.1,C.F.but C.R o k fa H,q.1,C.dn.elim fun A ⟨n,a,b⟩=>⟨A,n,q.2.trans a,b.mono r.2⟩⟩
theorem CI.put{a:Addr} (C:CI w h₀ cx du D oa e st s aC φ aH μ aI L don) (z:Heap.SameBut a aC.heap h') (E:s.heap.get? a=none) (q:L≠a) (H:SR w h₀ h' aH aI st) (I:cN aC.heap h' aH aH aI aI) (J:FR w h₀ cx du D oa e' h' aH aI):
  CI w h₀ cx du D oa e' st s {aC with heap:=h',toks:=t} φ aH μ aI L don:=
 ⟨C.x.side z E,H,J,C.oL.eq (z.2 L q),C.dn.elim fun A ⟨n,x,y⟩=>⟨A,n,(z.2 L q).trans x,y.mono I⟩⟩
theorem CI.push{q:Shared}{z:Addr->Prop}{A:List Loc} {E:St} {H:Array Value} {n:Nat} {u:Value} {b:V} (C:CI w h₀ cx du D oa e st s aC φ aH μ aI L don) (x:Ext aC q aH z aI A) (R:SR w h₀ q.heap z A E) (O:s.heap.get? L=none) (fa:∀a,FA du a->a≠L) (Q:∀(i:Nat) (m:List V),e[i]?=some (.own m)->oa i≠L)
  (U:aJ w aC.heap aH aI don H.toList) (y:VR w q.heap z A b u) (J:IsL h' L (H.push u) n) (I:Heap.SameBut L q.heap h'):CI w h₀ cx du D oa e E s {q with heap:=h'} φ z μ A L (don++[b]):=
 have o:=(C.oL.ext x).1
 have r:=R.side o I
 ⟨(C.x.trans x).side (t:=q.toks) I O,r.1,(C.F.ext C.R x).but R o (fun c ob Y e=>(I.2 c Y).trans e) fa Q,⟨o.nf,o.nm,o.nb,by rw[show h'.get? L=_ from J];rfl⟩,_,n,J,((U.mono (x.mono C.R)).mono r.2).vV (y.mono r.2)⟩
end
theorem Lw{i j:Nat} {m:List V} (h:(e.set i .un)[j]?=some (.own m)):e[j]?=some (.own m):=(g8 h (by intro q;cases q)).2
theorem RG{i j:Nat} {m:List V} (h:(e.set i (.v v))[j]?=some (.own m)):e[j]?=some (.own m):=by
 by_cases q:j=i
 ·subst q;cases fy h
 ·rwa [dQ q] at h
theorem FR.unset{i:Nat} (F:FR w h₀ cx env D oa (e.set i (.v v)) h φ μ):FR w h₀ cx env D oa (e.set i .un) h φ μ:=
 F.weak (fun j v z=>by refine cA (g8 z (by intro q;cases q)) fun A C=>?_;rw[dQ A];exact C) fun j l z=>by refine cA (g8 z (by intro q;cases q)) fun A C=>?_;rw[dQ A];exact C
inductive Vx (w:World) (h₀:Heap) (K:cF) (cx:Cx) (du:PySem.Env) (D:Addr->Prop) (oa:Nat->Addr) (e:Env) (xi:Nat) (elt:Ex) (l rs:List V) (I L:Addr) (mf:Nat->Heap->Prop) (aB:St) (s₀ s:Shared) (aT φ:Addr->Prop) (aU μ:List Loc) (n:Nat) (aC:Shared):Prop
 |mk (i:Nat) (aH:Addr->Prop) (aI:List Loc) (eA:St) (don rest:List V) (hn:n=l.length+1-i) (hi:i<=l.length) (hd:don.length=i) (hr:rs=don++rest) (cZ:((l.drop i).mapM fun v=>aG K (e.set xi (.v v)) elt) eA=some (rest,aB))
  (C:CI w h₀ cx du D oa (e.set xi .un) eA s₀ aC aT aH aU aI L don) (mo:cN s.heap aC.heap φ aH μ aI) (oI:Off h₀ aH aI aC.heap I) (tM:mf i aC.heap)
theorem HH{f:V->M V} {z:V} {l rest:List V} (e:((z::l).mapM f) st=some (rest,aB)):∃b a g,f z st=some (b,a)/\(l.mapM f) a=some (g,aB)/\rest=b::g:=by
 rw[Hc] at e
 obtain⟨b,a,i,j⟩:=bind_some e
 obtain⟨g,h,k,m⟩:=bind_some j
 refine cA (br m) fun c d=>?_;obtain rfl:=c;obtain rfl:=d
 exact⟨b,a,g,i,k,rfl⟩
theorem HI{sc:Scope}{y:Str}{px pos:Pos} {xi:Nat} {elt:Ex} {je jo:PySem.Expr} {du:PySem.Env} {I L:Addr} {l:List V} {fp:List Addr} {P:Nat->Value->Prop} {St:Nat->Heap->Prop} {rs:List V} {R:Result->Shared->Prop} {m₀:Shared} {m₁:Addr->Prop} {m₂:List Loc}
  (jX:Cx) (nd:jX.names.Nodup) (hx:jX.names[xi]?=some y) (ky:jX.kd y=some .local) (ih:aP w h₀ K A jX elt je) (W:oQ w A m₀ m₁ m₂ I l fp P St) (mW:cN m₀.heap s.heap m₁ φ m₂ μ) (hz:l.length<=1048576) (ph:Ph φ)
  (xM:∀a,FA du a->a≠I/\a≠L) (FV:∀(i:Nat) (m:List V),e[i]?=some (.own m)->oa i≠I/\oa i≠L) (qz:I≠L) (eI:s₀.heap.get? I=none) (eL:s₀.heap.get? L=none) (eC:s₀.heap.get? du.locals=none)
  (cZ:(l.mapM fun v=>aG K (e.set xi (.v v)) elt) st=some (rs,aB)) (c0:CI w h₀ jX du D oa (e.set xi .un) st s₀ s aT φ aU μ L []) (o0:Off h₀ φ μ s.heap I) (YM:St 0 s.heap)
  (q:∀aC aH aI Vy,CI w h₀ jX du D oa Vy aB s₀ aC aT aH aU aI L rs->R (.ok .next) aC):
  codeAny (model aF w) A (.compLoop (.ListComp je [⟨.Name y px,jo,[],0⟩] sc pos) 0 (.ref I) (.ref L) du) R s:=by
 refine codeAny_compLoop_tests (Vx w h₀ K jX du D oa e xi elt l rs I L St aB s₀ s aT φ aU μ) ?_ (l.length+1) ⟨0,φ,μ,st,[],rs,rfl,dt _,rfl,rfl,cZ,c0,⟨fun _ _ _ e=>e,fun _ f=>f,fun _ _ e=>e⟩,o0,YM⟩
 intro n aC V
 obtain⟨i,aH,aI,eA,don,rest,hn,hi,FW,zx,cZ,C,mo,oI,tM⟩:=V
 have dn:∀{h':Heap} {t:Tok},(∀b ob,b≠I->aC.heap.get? b=some ob->h'.get? b=some ob)->CI w h₀ jX du D oa (e.set xi .un) eA s₀ {aC with heap:=h',toks:=t} aT aH aU aI L don:=
  fun k=>C.but oI qz eI (fun a fa=>(xM a fa).1) (fun j m hj=>(FV j m (Lw hj)).1) k
 rcases kl i l.length with hV|YN
 ·rw[hn]
  refine W.walk.item i aC _ _ hV tM fun v fS tk hp ER k=>?_
  have kI:∀b ob,b≠I->aC.heap.get? b=some ob->fS.get? b=some ob:=fun b ob hb=>k b ob (by simpa using hb)
  have C1:=dn (t:=tk) kI
  have m1:=(C.R.but oI kI).2
  refine aN (W.val i v hV hp) fun z zy YO=>?_
  rw[show l.drop i=z::l.drop (i+1) from(et.mp zy).2▸wo hV] at cZ
  refine er (HH cZ) fun b iV bs g1 g2 YP=>?_
  refine wpAny_assign_Name ?_
  refine ux (s:={aC with heap:=fS,toks:=tk}) C1.F C1.R nd hx (.inl ky) fun a lZ yO fa ha zz R2 m2 rd fr=>?_
  cases ha ky
  have dC:=xM _ fa
  have C2:CI w h₀ jX du D oa (e.set xi (.v z)) eA s₀ {aC with heap:=lZ,toks:=yO} aT aH aU aI L don:=
   C1.put zz eC (gf dC.2) R2 m2 (FR.fill (fr (e.set xi .un) (fun j v hj=>⟨(g8 hj (by intro q;cases q)).1,hj⟩) (fun j l hj=>⟨(g8 hj (by intro q;cases q)).1,hj⟩)) hx rd (((YO aC.heap aH aI (mW.tr mo)).mono m1).mono m2))
  have FY:Off h₀ aH aI lZ I:=⟨oI.nf,oI.nm,oI.nb,by rw[zz.2 I (gf dC.1)];exact W.lv _ _ ER⟩
  have qA:∀b∈fp,b≠I->aH b:=fun b hb q=>mo.fr b (mW.fr b ((W.fz b hb).resolve_left q))
  have Vz:St (i+1) lZ:=W.walk.frame _ _ _ ER fun b hb ob e=>(zz.2 b fun q=>by
   by_cases r:b=I
   ·exact dC.1 (q.symm.trans r)
   ·exact (C1.F.off _ fa).nf (q▸qA b hb r)).trans e
  show wpAny _ _ (forIn ([]:List PySem.Expr) true _) _ _ _
  rw[rV]
  refine wpAny_pure ?_
  rw[if_pos rfl]
  refine ih du D oa _ _ _ _ {aC with heap:=lZ,toks:=yO} aH aI _ _ g1 C2.F R2 (fun a ha=>mo.fr a (ph a ha)) fun u s6 RH RI x3 R3 y3=>?_
  refine gp C2.dn fun bQ m YQ FZ=>?_
  have F0:=C2.oL.ext x3
  have YR:=Off.ext (s:={aC with heap:=lZ,toks:=yO}) FY x3
  have zw:bQ.size=i:=(dU.symm.trans FZ.length.symm).trans FW
  refine append_list (F0.2.trans YQ) (T1 hz hV zw) fun VA n' YS n6=>?_
  have k4:∀b ob,b≠L->s6.heap.get? b=some ob->VA.get? b=some ob:=fun b ob hb e=>(n6.2 b hb).trans e
  have C4:=C2.push x3 R3 eL (fun a fa=>(xM a fa).2) (fun j m hj=>(FV j m (RG hj)).2) FZ y3 YS n6
  refine⟨l.length+1- (i+1),by exact Eb hV,i+1,RH,RI,iV,don++[b],bs,rfl,hV,by rw[dG,FW];rfl,by rw[zx,YP,fE];rfl,g2,⟨C4.x,C4.R,C4.F.unset,C4.oL,C4.dn⟩,(((mo.tr m1).tr m2).tr (x3.mono R2)).tr (R3.side F0.1 n6).2,(YR.1.but k4 qz).1,?_⟩
  refine W.walk.frame _ _ _ Vz fun b hb ob e=>k4 b ob (fun q=>?_) (x3.keep b ob e fun q=>?_)
  ·by_cases r:b=I
   ·exact qz (r.symm.trans q)
   ·exact C2.oL.nf (q▸qA b hb r)
  ·by_cases r:b=I
   ·exact FY.nm (r▸q)
   ·exact (R2.off b q).1 (qA b hb r)
 ·cases hF hi YN
  refine W.walk.done aC _ _ tM fun fS tk k=>?_
  have C1:=dn (t:=tk) (fun b ob hb=>k b ob (by simpa using hb))
  rw[List.drop_length,HG] at cZ
  refine cA (br cZ) fun xI xJ=>?_;obtain rfl:=xI;obtain rfl:=xJ
  rw[cP] at zx
  subst zx
  exact q {aC with heap:=fS,toks:=tk} aH aI _ C1
end
end
variable {aV:Shared} {bX:Addr->Prop} {cg:List Loc}
theorem Ext.dead{a:Addr} (x:Ext s aC φ aH μ aI) (d:aC.heap.get? a=none):s.heap.get? a=none:=by
 cases q:s.heap.get? a with
 |none=>rfl
 |some o=>have:=x.live a (by rw[q];rfl);rw[d] at this;exact(aL this).elim
theorem u3{sc:Scope}{y:Str}{px pos:Pos} {xi:Nat} {elt:Ex} {je jo:PySem.Expr} {I:Addr} {l:List V} {fp:List Addr} {P:Nat->Value->Prop} {St:Nat->Heap->Prop} {rs:List V} {cl:List (Str×Addr)} {use:Option (Value->Sem Unit)}
  (S:pZ cx sc y) (nd:cx.names.Nodup) (hx:cx.names[xi]?=some y) (ih:aP w h₀ K A (cx.comp sc) elt je) (hz:l.length<=1048576) (c1:∀x c,cl.lookup x=some c->env.cells.lookup x=some c) (c2:∀p∈sc.names,p.2= .free->(cl.lookup p.1).isSome=true)
  (x:Ext s aC φ aH μ aI) (R:SR w h₀ aC.heap aH aI st) (F:FR w h₀ cx env D oa e aC.heap aH aI) (ph:Ph aH) (W:oQ w A aC aH aI I l fp P St) (oI:Off h₀ aH aI aC.heap I) (eI:s.heap.get? I=none) (zA:∀a,FA env a->a≠I) (YT:∀(i:Nat) (m:List V),e[i]?=some (.own m)->oa i≠I)
  (cZ:(l.mapM fun v=>aG K (e.set xi (.v v)) elt) st=some (rs,aB))
  (q:∀s' aD aE L C,Ext s s' φ aD μ aE->SR w h₀ s'.heap aD aE aB->Off h₀ aD aE s'.heap L->(∃bQ n,IsL s'.heap L bQ n/\aJ w s'.heap aD aE rs bQ.toList)->s.heap.get? L=none->Off h₀ aD aE s'.heap C->s.heap.get? C=none->L≠C->(∃m,s'.heap.Ns C m)->
   compPost (model aF w) A E use Q (.ref L) C (.ok .next) s'):
  wpAny (model aF w) A (newList []) (fun acc s6=>wpAny (model aF w) A (newFunctionEnv sc env.globals cl [] env.qual none .none (some env)) (fun du jf=>
   codeAny (model aF w) A (.compStart (.ListComp je [⟨.Name y px,jo,[],0⟩] sc pos) 0 (.ref I) acc {du with scope:=relabel sc env}) (compPost (model aF w) A E use Q acc du.locals) jf) E s6) E aC:=by
 refine wpAny_newObj_type (wpAny_newFunctionEnv S.nc (by intro y hy;simp at hy) (fun fS rN rO=>?_) S.fn)
 dsimp only at rN rO⊢
 generalize zB:aC.heap.push {cls:= .type "list",dict:=none,data:= .seq ([]:List Value).toArray}=H2 at rN rO⊢
 have hC:H2.objs.size=aC.heap.objs.size+1:=by rw[<-zB,Heap.size_push]
 have zC:aC.heap.objs.size≠H2.objs.size:=by rw[hC];exact jH (so _)
 have hV:∀b,(aC.heap.get? b).isSome=true->b<aC.heap.objs.size:=fun b hb=>by
  refine cE (fP.mp hb) fun o ho=>?_;exact jJ ho
 have old:∀b o,aC.heap.get? b=some o->fS.get? b=some o:=fun b o e=>by
  have hb:=jJ e
  exact rO.extBut b o (by rw[hC];exact jH (Nat.lt_succ_of_lt hb)) (gi _ (zB▸gi _ e))
 have ES:IsL fS aC.heap.objs.size #[] 0:=rO.extBut _ _ zC (gi _ (zB▸eE _ rfl))
 have dead:∀a,aC.heap.objs.size<=a->aC.heap.get? a=none:=fun a ha=>by
  cases q:aC.heap.get? a with
  |none=>rfl
  |some o=>exact absurd (jJ q) (Nat.not_lt.mpr ha)
 have dL:=dead aC.heap.objs.size (aO _)
 have dC:=dead H2.objs.size (by rw[hC];exact dZ _)
 have F6:∀a,aC.heap.get? a=none->(fS.get? a).isSome=true->Off h₀ aH aI fS a:=fun a ha hl=>by
  refine⟨fun f=>?_,fun m=>?_,?_,hl⟩
  ·have:=R.fz _ f;rw[ha] at this;exact(aL this).elim
  ·have:=(R.off _ m).2.2;rw[ha] at this;exact(aL this).elim
  ·cases q:h₀.get? a with
   |none=>rfl
   |some o=>have:=R.base _ _ q;rw[ha] at this;exact(aM this).elim
 refine cA (R.pure (s':={aC with heap:=fS,toks:=aC.toks+([]:List (Str×Value)).length}) (aD:=aH) old (fun _ f=>f) (fun _ f n=>absurd f n) rfl rfl) fun x4 R4=>?_
 have m4:=x4.mono R
 have F4:=F.ext R x4
 have oL:=F6 _ dL (by rw[show fS.get? _=_ from ES];rfl)
 have oC:=F6 _ dC (by refine j5 rN fun o _ _ ho _=>?_;rw[ho];rfl)
 have YU:=(Off.ext oI x4).1
 have F7:=hV I oI.lv
 have qz:I≠aC.heap.objs.size:=jH F7
 have F8:St 0 fS:=W.walk.frame _ _ _ W.md fun b _ o e=>old b o e
 have Fc:FR w h₀ (cx.comp sc) {env with scope:=relabel sc env,locals:=H2.objs.size,cells:=cl,func:=none} D oa (e.set xi .un) fS aH aI:=JO (s:={aC with heap:=fS}) S nd hx F4 rfl c1 c2 oC rN
 have run:∀jf:Shared,jf={aC with heap:=fS,toks:=aC.toks+([]:List (Str×Value)).length}->codeAny (model aF w) A (.compLoop (.ListComp je [⟨.Name y px,jo,[],0⟩] sc pos) 0 (.ref I) (.ref aC.heap.objs.size) {env with scope:=relabel sc env,locals:=H2.objs.size,cells:=cl,func:=none})
   (compPost (model aF w) A E use Q (.ref aC.heap.objs.size) H2.objs.size) jf:=by
  rintro jf rfl
  refine HI (s₀:=s) (cx.comp sc) nd hx (GC S.ly) ih W m4 hz ph (fun a fa=>?_) (fun i m hi=>⟨YT i m hi,fun q=>?_⟩) qz eI (x.dead dL) (x.dead dC) cZ ⟨x.trans x4,R4,Fc,oL,#[],0,ES,.nil⟩ YU F8 fun s' aD aE e' C=>?_
  ·rcases fa with rfl|⟨z,hz⟩
   ·exact ⟨fun q=>by
    have h1:H2.objs.size<aC.heap.objs.size:=by rw[show H2.objs.size=I from q];exact F7
    rw[hC] at h1;exact Nat.lt_irrefl _ (Nat.lt_of_succ_lt h1),fun q=>zC q.symm⟩
   ·have F9:FA env a:= .inr ⟨z,c1 _ _ hz⟩
    exact⟨zA a F9,jH (hV a (F.off a F9).lv)⟩
  ·exact Nat.lt_irrefl _ (q▸hV _ (F.oo i m hi).1.lv)
  ·exact q s' aD aE _ _ C.x C.R C.oL C.dn (x.dead dL) (C.F.off _ (.inl rfl)) (x.dead dC) zC C.F.ns
 exact codeAny_compStart_list (run _ rfl) (W.walk.self 0 _ _ _ F8 (run _ rfl))
theorem AF{rs:List V} {s':Shared} {aD:Addr->Prop} {aE:List Loc} {L C:Addr} (q:∀s' aD aE L,Ext s s' φ aD μ aE->SR w h₀ s'.heap aD aE aB->Off h₀ aD aE s'.heap L->(∃a n,IsL s'.heap L a n/\aJ w s'.heap aD aE rs a.toList)->s.heap.get? L=none->Q (.ref L) s')
  (x:Ext s s' φ aD μ aE) (R:SR w h₀ s'.heap aD aE aB) (oL:Off h₀ aD aE s'.heap L) (dn:∃a n,IsL s'.heap L a n/\aJ w s'.heap aD aE rs a.toList) (e:s.heap.get? L=none) (f:Off h₀ aD aE s'.heap C) (g:s.heap.get? C=none) (b:L≠C) (h:∃m,s'.heap.Ns C m):
  compPost (model aF w) A E none Q (.ref L) C (.ok .next) s':=by
 refine cE h fun m hm=>?_
 refine⟨m,hm,fun d c=>?_⟩
 refine cA (R.side f c) fun i j=>?_
 refine gp dn fun a n k l=>?_
 exact q {s' with heap:=d} aD aE _ (x.side (t:=s'.toks) c g) i ⟨oL.nf,oL.nm,oL.nb,by rw[c.2 _ b];exact oL.lv⟩ ⟨a,n,(c.2 _ b).trans k,l.mono j⟩ e
theorem qT{a:PySem.Expr} (h:gD a=true) (x:Value):foldedSetIterable a env x=pure x:=by
 cases a<;>first|rfl|exact(aL h).elim
theorem uJ{sc:Scope}{y:Str} (F:FR w h₀ cx env D oa e s.heap φ μ) (S:pZ cx sc y):∃cl,closureFor sc env=pure cl/\(∀x c,cl.lookup x=some c->env.cells.lookup x=some c)/\(∀p∈sc.names,p.2= .free->(cl.lookup p.1).isSome=true):=
 Hb fun p a hf=>F.ca _ (S.fr p a hf)
theorem u5{sc:Scope}{y:Str}{px pos:Pos} {U:Nat} {H Y:Ex} {r B:PySem.Expr} (hd:A.handled=none) (nd:cx.names.Nodup) (hx:(cx.names[U]?==some y)=true) (hs:jc cx sc y=true) (hn:gD B=true) (N:aP w h₀ K A cx Y B) (O:aP w h₀ K A (cx.comp sc) H r)
  {h k:St} {o:V} {l rs:List V} (h1:aG K e Y st=some (o,h)) (h2:dz o h=some (l,k)) (h3:(l.mapM fun v=>aG K (e.set U (.v v)) H) k=some (rs,aB)) (F:FR w h₀ cx env D oa e s.heap φ μ) (R:SR w h₀ s.heap φ μ st) (ph:Ph φ)
  (q:∀s' aD aE L,Ext s s' φ aD μ aE->SR w h₀ s'.heap aD aE aB->Off h₀ aD aE s'.heap L->(∃J n,IsL s'.heap L J n/\aJ w s'.heap aD aE rs J.toList)->s.heap.get? L=none->Q (.ref L) s'):
  wpAny (model aF w) A (eval (.ListComp r [⟨.Name y px,B,[],0⟩] sc pos) env) Q E s:=by
 have S:=u2 hs
 refine dV (uJ F S) fun cl c0 c1 c2=>?_
 refine dP (jZ h2) fun G hz hv=>?_;obtain rfl:=G
 rw[eval_ListComp]
 refine wpAny_comprehension_free (use:=none) rfl (qT hn) c0 S.fn (fun p hp hl=>(S.lo p hp hl).2) ?_
 refine N env D oa e _ _ _ s φ μ E _ h1 F R ph fun u aC aH aI x t y=>?_
 refine rm hd hz hv t y fun I fp P St aV W T x2 M oI=>?_
 have F2:=(F.ext R x).ext t x2
 have F1:=F.ext R x
 refine u3 S nd (beq_iff_eq.mp hx) O hz c1 c2 (x.trans x2) M F2 (Ph.on x2 (Ph.on x ph)) W oI (x.dead T) (fun a fa z=>?_) (fun i m hi z=>?_) h3 (fun s' aD aE L C a b c d e' f g i j=>AF q a b c d e' f g i j)
 ·have:=(F1.off a fa).lv;rw[z,T] at this;exact(aL this).elim
 ·have:=(F1.oo i m hi).1.lv;rw[z,T] at this;exact(aL this).elim
theorem Lx{sc:Scope}{y:Str}{q pos:Pos} {k:Nat} {c m:Ex} {a b:PySem.Expr} (hd:A.handled=none) (nd:cx.names.Nodup) (r:(cx.names[k]?==some y)=true) (t:jc cx sc y=true) (u:gD b=true) (d:aP w h₀ K A cx m b) (f:aP w h₀ K A (cx.comp sc) c a):
  aP w h₀ K A cx (.comp c k m) (.ListComp a [⟨.Name y q,b,[],0⟩] sc pos):=by
 intro env D oa e st Y aB s φ μ E Q g F R ph p
 obtain⟨o,h,v,z⟩:=bind_some g
 obtain⟨l,i,B,C⟩:=bind_some z
 obtain⟨rs,j,G,H⟩:=bind_some C
 replace p:=p.ret H
 refine u5 hd nd r t u d f v B G F R ph fun s' aD aE L x I o ⟨J,n,M,N⟩ O=>?_
 refine dP (o.freeze I x O) fun x2 T U=>?_
 exact p _ _ _ _ x2 T (.lst (.inr rfl) M (N.mono U))
theorem JP{sc:Scope}{y:Str}{r pos:Pos} {k:Nat} {c m:Ex} {a b:PySem.Expr} (hd:A.handled=none) (nd:cx.names.Nodup) (t:(cx.names[k]?==some y)=true) (u:jc cx sc y=true) (v:gD b=true) (d:aP w h₀ K A cx m b) (f:aP w h₀ K A (cx.comp sc) c a):
  aP w h₀ K A cx (.hA c k m) (.ListComp a [⟨.Name y r,b,[],0⟩] sc pos):=by
 intro env D oa e st Y aB s φ μ E Q g F R ph p
 obtain⟨o,h,z,B⟩:=bind_some g
 obtain⟨l,i,C,G⟩:=bind_some B
 obtain⟨rs,j,H,I⟩:=bind_some G
 replace p:=p.ret I
 refine u5 hd nd t u v d f z C H F R ph fun s' aD aE L x q o ⟨J,n,M,N⟩ O=>?_
 refine cA (o.own q x O (ob:= .list rs) fun T=> .list M (N.mono T) rfl) fun x2 U=>?_
 exact p _ _ _ _ x2 U (VR.obj (l:=⟨L,L⟩) (by rw[<-q.len];simp))
theorem JQ{sc:Scope}{y r:Str} {px pos pr pc:Pos} {H:Nat} {q it:Ex} {h t:PySem.Expr} (G:ed w h₀ mg mb) (hd:A.handled=none) (nd:cx.names.Nodup) (hx:(cx.names[H]?==some y)=true) (hs:jc cx sc y=true) (hg:eG cx r=true) (hr:cW r "range"=true)
  (a:cO w h₀ K A cx [it] [t]) (J:aP w h₀ K A (cx.comp sc) q h):aP w h₀ K A cx (.jE q H it) (.ListComp h [⟨.Name y px,.Call (.Name r pr) [t] [] pc,[],0⟩] sc pos):=by
 intro env D oa e st v' aB s φ μ E Q M F R ph p
 obtain⟨o,N,h1,O⟩:=bind_some M
 obtain⟨k,u,h2,T⟩:=bind_some O
 obtain⟨rs,U,h3,h4⟩:=bind_some T
 cases h4
 obtain⟨rfl,rfl,hz⟩:=Ay h2
 ·skip
  have S:=u2 hs
  refine dV (uJ F S) fun cl c0 c1 c2=>?_
  rw[eval_ListComp]
  refine wpAny_comprehension_free (use:=none) rfl (fun _=>rfl) c0 S.fn (fun p hp hl=>(S.lo p hp hl).2) ?_
  show wpAny _ _ (eval (.Call (.Name r pr) [t] [] pc) env) _ _ _
  cases g7 hr
  refine wpAny_Call_Name_kw (lx G F.ok R (iP hg).1 (by decide) ?_)
  rw[show jW "range"= .type "range" from rfl]
  refine sE (mC a).1 (mD a (ri h1) F R ph fun us aC aH aI x l z=>?_)
  obtain⟨_,_,O,T,rfl⟩:=aJ.inv z
  cases T
  cases O
  refine Aj hd hz l fun I fp P St aV W Y x2 B oI=>?_
  have F2:=(F.ext R x).ext l x2
  have F1:=F.ext R x
  have hm:((me k).mapM fun v=>aG K (e.set H (.v v)) q) u=some (rs,aB):=by
   unfold me;rw[List.mapM_map];exact h3
  refine u3 S nd (beq_iff_eq.mp hx) J (by simp[me];exact T2 hz) c1 c2 (x.trans x2) B F2 (Ph.on x2 (Ph.on x ph)) W oI (x.dead Y) (fun a fa z=>?_) (fun i m hi z=>?_) hm (fun s' aD aE L C a b c d e' f g i j=>AF (fun s' aD aE L x R' o dn dL=>?_) a b c d e' f g i j)
  ·have:=(F1.off a fa).lv;rw[z,Y] at this;cases this
  ·have:=(F1.oo i m hi).1.lv;rw[z,Y] at this;cases this
  ·refine gp dn fun a0 n hL hv=>?_
   refine dP (o.freeze R' x dL) fun x3 R3 mo=>?_
   exact p _ _ _ _ x3 R3 (.lst (.inr rfl) hL (hv.mono mo))
abbrev Pr:=PySem.Sem Value×PySem.Sem Value
theorem gather (f:(Option (PySem.Sem Value)×PySem.Sem Value)->(Option Addr×List Pr)->PySem.Sem (ForInStep (Option Addr×List Pr))) (main:Option Addr) (rest:List (Option (PySem.Sem Value)×PySem.Sem Value))
  (hf:∀(p:Pr) (run:List Pr),run.length+1<17->f (some p.1,p.2) (main,run)=pure (.yield (main,run++[p]))):
  ∀(items run:List Pr),run.length+items.length<17->forIn ((items.map fun p=>(some p.1,p.2))++rest) (main,run) f=forIn rest (main,run++items) f
 |[],run,_=>by simp
 |p::r,run,h=>by
  rw[eV,eW,lQ,hf p run (by simp at h;exact T3 h),pure_bind]
  have:=gather f main rest hf r (run++[p]) (by simp at h⊢;exact T4 h)
  simpa using this
noncomputable def q6 (d:Addr) (ps:List Pr):PySem.Sem PUnit:=forIn ps PUnit.unit fun x (_:PUnit)=>(do
 let kv<-x.1
 let vv<-holding [kv] x.2
 holding [kv,vv] (dictSet d kv vv)
 pure (ForInStep.yield PUnit.unit):PySem.Sem (ForInStep PUnit))
theorem Iw (p1 p2:List Pr) (q:Pr) (h1:p1.length=16) (h2:p2.length<17) (h0:p2≠[]):
  dictDisplay ((p1++q::p2).map fun p=>(some p.1,p.2))=(do
   let d<-subDict (p1++[q])
   let sub<-holding [.ref d] (subDict p2)
   (holding [.ref d,.ref sub] (mergeMapping d (.ref sub) false)).onRaise fun x=>do let _<-holding [.ref d,x] (runValue (.builtin "proto.let_go" {}))
   pure (.ref d)):=by
 unfold dictDisplay
 dsimp only
 rw[gF,gather _ none _ (fun p run h=>by
  have ma:((run++[(p.1,p.2)]).length==17)=false:=by simp;exact Ec h
  simp only[ma,rW,if_false]) p1 [] (by simp;exact T5 h1),eV,lQ]
 have YV:(([]++p1++[(q.1,q.2)]).length==17)=true:=by simp[h1]
 simp only[YV,if_true]
 have ma:(p1++[(q.1,q.2)]).isEmpty=false:=by simp
 simp only[gn,ma,rW,if_false,bind_assoc,pure_bind]
 congr 1
 funext d
 rw[<-cP (p2.map fun p=>(some p.1,p.2)),gather _ (some d) [] (fun p run h=>by
  have ma:((run++[(p.1,p.2)]).length==17)=false:=by simp;exact Ec h
  simp only[ma,rW,if_false]) p2 [] (by simpa using h2),rV,pure_bind]
 have h3:p2.isEmpty=false:=by simpa using h0
 simp only[gn,h3,rW,if_false,bind_assoc,pure_bind]
theorem GL{pairs:List Pr} {Q:Addr->Shared->Prop} (hlen:¬pairs.length<=15)
  (h:wpAny (model aF w) A (q6 s.heap.objs.size pairs) (fun _ aV=>Q s.heap.objs.size aV) E {s with heap:=s.heap.push {cls:= .type "dict",data:= .dict #[]}}):wpAny (model aF w) A (subDict pairs) Q E s:=by
 unfold subDict
 refine wpAny_bind (wpAny_alloc ?_)
 refine wpAny_bind (wpAny_holding ?_)
 rw[if_neg hlen]
 exact wpAny_bind (wpAny_rule (wpAny_bind (wpAny_mono h (fun _ aV lZ=>wpAny_pure (wpAny_pure lZ)) fun _ _ e=>e)))
theorem GI{d:Addr}{kvs:List (Int×Value)} {k:Int} {key v:Value} {Q:Unit->Shared->Prop} (c:(intKind aF w).is k key=true) (hm:s.heap.DictOf (intKind aF w) d kvs)
  (x:∀h',h'.DictOf (intKind aF w) d (stored kvs k v)->Heap.SameBut d s.heap h'->Q () {s with heap:=h'}) (p:kvs.length<=sizeLine):
  wpAny (model aF w) A (dictPut d ((intKind aF w).hash k) key v) Q E s:=by
 refine ox hm fun o es y ho z hd q m r=>?_
 have t:es.size<=sizeLine:=by
  have C:=m.length
  have D:es.toList.length=es.size:=by simp
  exact T6 p C D
 unfold dictPut
 refine wpAny_bind (wpAny_dictFind_of c ho hd q ?_)
 have f:(es.findIdx? fun e=>(intKind aF w).is k e.key)=kvs.findIdx? fun j=>decide (j.1=k):=by
  rw[<-m.findIdx k];obtain⟨l⟩:=es;simp
 cases n:es.findIdx? fun e=>(intKind aF w).is k e.key with
 |some i=>
  refine wpAny_updateDict ho hd (x _ ⟨_,_,y,sC _ ho (Obj.isFreed_of_dict (Obj.data_mapDict hd _)),z.mapDict _,Obj.data_mapDict hd _,q.modify _ _,?_,?_⟩ (nu ..))
  ·rw[stored,if_pos (any_of_findIdx_some (f▸n))]
   have hl:(es.toList.findIdx? fun e=>(intKind aF w).is k e.key)=some i:=by rw[<-n];obtain⟨l⟩:=es;simp
   have:=m.modify r hl v
   obtain⟨l⟩:=es
   simpa using this
  ·rw[stored,if_pos (any_of_findIdx_some (f▸n)),keys_map_store];exact r
 |none=>
  have g:k∉kvs.map (·.1):=not_mem_of_findIdx_none (f▸n)
  have h:¬(kvs.any fun j=>decide (j.1=k))=true:=by
   rw[List.any_eq_true];rintro⟨j,u,G⟩
   exact g (km.mpr ⟨j,u,of_decide_eq_true G⟩)
  refine wpAny_updateDictKeys (hz:=t) ho hd (x _ ⟨_,_,y+1,sC _ ho (Obj.isFreed_of_dict (Obj.data_mapDictKeys hd _)),z.mapDictKeys _,Obj.data_mapDictKeys hd _,q.push c _,?_,?_⟩ (nu ..))
  ·rw[stored,if_neg h]
   have:=m.append c ((intKind aF w).hash k) v
   obtain⟨l⟩:=es
   simpa using this
  ·rw[stored,if_neg h,gF,pL]
   refine⟨r,by simp,?_⟩
   intro a H b B
   simp only[eV,List.map_nil,List.mem_singleton] at B
   subst B
   exact fun e=>g (e▸H)
theorem GQ{β:Type}{f:Nat->β->Sem (ForInStep β)} (I:Nat->β->Shared->Prop) (n:Nat) {Q:β->Shared->Prop}
  (turn:∀i b s,i<n->I i b s->wpAny (model aF w) A (f i b) (fun r s'=>match r with| .yield b'=>I (i+1) b' s'| .done b'=>Q b' s') E s) (fin:∀b s,I n b s->Q b s) (b:β) (s:Shared) (h:I 0 b s):wpAny (model aF w) A (forIn (List.range n) b f) Q E s:=by
 have main:∀(k i:Nat) (b:β) (s:Shared),i+k=n->I i b s->wpAny (model aF w) A (forIn (List.range' i k) b f) Q E s:=by
  intro k
  induction k with
  |zero=>exact fun i b s e h=>wpAny_pure (fin b s (e▸h))
  |succ k ih=>
   intro i b s e h
   rw[List.range'_succ,lQ]
   refine wpAny_bind (wpAny_mono (turn i b s (e▸Nat.lt_add_of_pos_right (pB k)) h) (fun r s' hr=>?_) fun _ _ h'=>h')
   cases r with
   |done b'=>exact wpAny_pure hr
   |yield b'=>exact ih (i+1) b' s' (by rw[Nat.add_right_comm];exact e) hr
 rw[List.range_eq_range']
 exact main n 0 b s (dq n) h
theorem HJ{d o:Addr} {kvs more:List (Int×Value)} {Q:Unit->Shared->Prop} (B:d≠o) (C:(o==sysModules)=false) (N:kvs≠[])
  (hd:s.heap.DictOf (intKind aF w) d kvs) (ho:s.heap.DictOf (intKind aF w) o more)
  (O:∀h',h'.DictOf (intKind aF w) d (merged kvs more)->Heap.SameBut d s.heap h'->Q () {s with heap:=h'})
  (D:kvs.length+more.length<=sizeLine):wpAny (model aF w) A (mergeMapping d (.ref o) false) Q E s:=by
 refine ox hd fun od T U G Y H a0 J a3=>?_
 refine ox ho fun oo a a4 p a5 c L v a6=>?_
 refine wpAny_bind (wpAny_isInstance ho.typeIs isSubtype_dict_dict (wpAny_ite_true rfl ?_))
 refine wpAny_bind (wpAny_specialOf ho.typeIs F.slot_dict_iter.lookup (wpAny_bind (wpAny_pure ?_)))
 refine wpAny_ite_false (decide_eq_false fun h=>aL (C.symm.trans h)) ?_
 refine wpAny_bind (wpAny_dictEntries G H (wpAny_ite_false (decide_eq_false fun q=>N (pF.mp (by rw[<-J.length,Array.isEmpty_iff.mp q];rfl))) ?_))
 have k:more.length=a.size:=by rw[<-v.length];exact dU
 refine wpAny_bind (wpAny_dictEntries p c (wpAny_bind (wpAny_dictEpoch p c (wpAny_bind ?_))))
 refine GQ (fun i _ s'=>∃h',s'={s with heap:=h'}/\h'.DictOf (intKind aF w) d (merged kvs (more.take i))/\h'.get? o=some oo/\Heap.SameBut d s.heap h') a.size (fun i b s' g I=>?_) (fun b s' I=>?_) _ _ ⟨s.heap,rfl,hd,p,Heap.SameBut.refl _ _⟩
 ·refine jD I fun h' es j l r=>?_
  subst es
  refine wpAny_bind (wpAny_dictEntries l c ?_)
  rw[wm g]
  have x:=iq (k▸g:i<more.length)
  refine cA (v.get? (e:=a[i]) (by rw[Array.getElem?_toList,wm g]) x) fun m y=>?_
  refine aN (L a[i] (Array.getElem_mem g)) fun k' t u=>?_
  have hk:=(intKind aF w).inj _ _ _ t m
  show wpAny _ _ (holding [a[i].key,a[i].val] (dictPut d a[i].hash a[i].key a[i].val)>>=_) _ _ _
  rw[u,y,hk]
  refine wpAny_bind (wpAny_holding (GI m j (fun M z n=>?_) (aK (merged_length_le kvs (more.take i)) (aK (dD (List.length_take_le' i more) _) D))))
  have f:=(n.2 o (gf B)).trans l
  exact wpAny_bind (wpAny_dictEpoch f c (wpAny_ite_false (decide_eq_false fun h=>aL ((bne_self_eq_false _).symm.trans h)) (wpAny_pure ⟨M,rfl,merged_take_succ kvs more i _ x▸z,f,r.trans n⟩)))
 ·refine jD I fun h' es j _ r=>?_
  subst es
  exact wpAny_pure (O h' (by rw[<-k,List.take_length] at j;exact j) r)
theorem eB.take{l:List Ex} {ks:List (Option PySem.Expr)} {vs:List PySem.Expr} (a:eB w h₀ K A cx l ks vs):∀n,eB w h₀ K A cx (l.take (2*n)) (ks.take n) (vs.take n):=by
 induction a with
 |nil=>intro n;simp;exact .nil
 |cons q z _ ih=>
  intro n
  cases n with
  |zero=>exact .nil
  |succ n=>exact .cons q z (ih n)
theorem eB.drop{l:List Ex} {ks:List (Option PySem.Expr)} {vs:List PySem.Expr} (a:eB w h₀ K A cx l ks vs):∀n,eB w h₀ K A cx (l.drop (2*n)) (ks.drop n) (vs.drop n):=by
 induction a with
 |nil=>intro n;simp;exact .nil
 |cons q z a ih=>
  intro n
  cases n with
  |zero=>exact .cons q z a
  |succ n=>exact ih n
theorem GR (l1:List Ex):∀{c:List Ex} {fl:List V} {st aB:St},cJ K e (l1++c) st=some (fl,aB)->∃f1 f2 a,fl=f1++f2/\cJ K e l1 st=some (f1,a)/\cJ K e c a=some (f2,aB):=by
 induction l1 with
 |nil=>exact fun h=>⟨[],_,_,rfl,rfl,h⟩
 |cons x l1 ih=>exact fun h=>jz h fun v a os d f g=>er (ih f) fun f1 f2 b i j k=>⟨v::f1,f2,b,by rw[g,i];rfl,Jm d j,k⟩
theorem Ly{x:Ex}{C:Prop}{l:List Ex} {is:List Int} {y:Ex} (h:j6 (x::y::l)=some is) (k:∀i a,x= .cn (.int i)->j6 l=some a->is=i::a->C):C:=by
 cases x with
 |cn v=>
  cases v with
  |int i=>exact fu h fun a b c=>k i a rfl b c.symm
  |_=>exact(aM h).elim
 |_=>exact(aM h).elim
theorem BJ:∀{l:List Ex} {is:List Int} {fl:List V} {r:List (V×V)} {st aB:St},j6 l=some is->cJ K e l st=some (fl,aB)->pairUp fl=some r->r.map (·.1)=is.map .int
 |[],is,fl,r,st,aB,h,g,p=>by obtain⟨rfl,_⟩:=br g;obtain rfl:=aR h;obtain rfl:=aR p;rfl
 |[_],is,fl,r,st,aB,h,g,p=>jz g fun v a os f b c=>by obtain⟨rfl,_⟩:=br b;subst c;exact(aM p).elim
 |k::x::l,is,fl,r,st,aB,h,g,p=>Ly h fun i j m n o=>jz g fun v a os f b c=>jz b fun w d q y s t=>by
  subst m o t c
  obtain⟨rfl,rfl⟩:=br f
  exact fu p fun z u e=>e▸congrArg (V.int i::·) (BJ n s u)
theorem He{i:Int}{v:V} (l:List (V×V)):∀{is:List Int},l.map (·.1)=is.map .int->i∉is->bY (.int i) v l=some (l++[(.int i,v)]):=by
 induction l with
 |nil=>exact fun _ _=>rfl
 |cons p l ih=>
  intro is h n
  obtain⟨a,b⟩:=p
  cases is with
  |nil=>exact nomatch h
  |cons j is=>
   obtain⟨c,d⟩:=gm h
   have c:a= .int j:=c
   subst c
   have h:V.dX (.int j) (.int i)=some false:=congrArg some (beq_eq_false_iff_ne.mpr fun q:j=i=>n (q▸.head _))
   rw[vS h,ih d fun q=>n (.tail _ q)];rfl
theorem uq (r:List (V×V)):∀{l:List (V×V)} {is js:List Int},l.map (·.1)=js.map .int->r.map (·.1)=is.map .int->(js++is).Nodup->r.foldlM (fun d p=>bY p.1 p.2 d) l=some (l++r):=by
 induction r with
 |nil=>exact fun _ _ _=>by rw[cP];rfl
 |cons p r ih=>
  intro l is js hl b nd
  obtain⟨k,v⟩:=p
  cases is with
  |nil=>exact nomatch b
  |cons i is=>
   obtain⟨a,c⟩:=gm b
   have a:k= .int i:=a
   subst a
   rw[List.foldlM_cons,He l hl fun q=>(pL.mp nd).2.2 i q i (.head _) rfl]
   exact(ih (l:=l++[(.int i,v)]) (js:=js++[i]) (by rw[gF,gF,hl];rfl) c (by rw[fE];exact nd)).trans (congrArg some (fE ..))
theorem Iy{d:Addr}{l:List Ex} {ks:List (Option PySem.Expr)} {vs:List PySem.Expr} {pos:Pos} (H:∀a,FA env a->a≠d) (I:∀(i:Nat) (l:List V),e[i]?=some (.own l)->oa i≠d) (dd:s₀.heap.get? d=none) (a:eB w h₀ K A cx l ks vs):
  ∀{st aB:St} {fl:List V} {s:Shared} {φ:Addr->Prop} {μ:List Loc} {l0 l' r:List (V×V)} {Q:PUnit->Shared->Prop},cJ K e l st=some (fl,aB)->pairUp fl=some r->(∀p∈r,isKey p.1=true)->
  r.foldlM (fun d p=>bY p.1 p.2 d) l0=some l'->l0.length+r.length<=1000->FR w h₀ cx env D oa e s.heap φ μ->SR w h₀ s.heap φ μ st->Ph φ->Off h₀ φ μ s.heap d->DR w s.heap φ μ d l0->Ext s₀ s aT φ aU μ->
  (∀s' aD aE,Ext s₀ s' aT aD aU aE->SR w h₀ s'.heap aD aE aB->Off h₀ aD aE s'.heap d->DR w s'.heap aD aE d l'->FR w h₀ cx env D oa e s'.heap aD aE->Ph aD->Q ⟨⟩ s')->wpAny (model aF w) A (q6 d (pairTrees ks vs env pos)) Q E s:=by
 induction a with
 |nil=>
  intro st aB fl s φ μ l0 l' r Q j m J hf G F R ph o dr x q
  obtain⟨rfl,rfl⟩:=br j
  obtain rfl:=aR m
  obtain rfl:=aR hf
  unfold pairTrees q6
  rw[rV]
  exact wpAny_pure (q _ _ _ x R o dr F ph)
 |cons h1 h2 _ ih=>
  intro st aB fl s φ μ l0 l' r Q j m J hf G F R ph o dr x q
  refine jz j fun kv L os g1 g2 e1=>jz g2 fun vv M a0 g4 g5 e2=>?_
  clear j g2
  subst e2 e1
  refine fu m fun r hr e=>?_
  clear m
  subst e
  rw[List.foldlM_cons] at hf
  refine aN (sD.mp hf) fun l1 n hf=>?_
  have N:=AY _ n
  rw[bU] at G
  unfold pairTrees q6
  rw[lQ]
  refine wpAny_bind (wpAny_bind (h1 env D oa e _ _ _ s φ μ E _ g1 F R ph fun u aC aH aI c h y=>wpAny_bind (wpAny_holding (wpAny_bind (h2 env D oa e _ _ _ aC aH aI E _ g4 (F.ext R c) h (Ph.on c ph) fun t aV bX cg g k z=>wpAny_bind (wpAny_standAt (wpAny_pure (wpAny_bind (wpAny_holding ?_)))))))))
  have v:=(F.ext R c).ext h g
  have O:=c.trans g
  refine cA (o.ext O) fun f B=>?_
  have C:DR w aV.heap bX cg d l0:=dr.mono (O.mono R) fun ob T=>B.trans T
  refine C.EP (y.mono (g.mono h)) z (J _ (.head _)) (D9 G) n fun h' t U lv Y=>wpAny_pure ?_
  refine cA (k.side f U) fun R' mo=>?_
  have o':Off h₀ bX cg h' d:=⟨f.nf,f.nm,f.nb,lv⟩
  exact ih (s:={aV with heap:=h',toks:=t}) g5 hr (fun p m=>J p (.tail _ m)) hf (Ea G N) (v.but k f (fun b ob q hb=>(U.2 b q).trans hb) H I) R' (Ph.on g (Ph.on c ph)) o' (Y mo) (Ext.side (x.trans O) U dd) q
theorem Hf (n:Nat):∀{f1 f2:List V} {r:List (V×V)},f1.length=2*n->f1++f2=flat r->∃r1 r2,f1=flat r1/\f2=flat r2/\r=r1++r2/\r1.length=n:=by
 induction n with
 |zero=>exact fun h p=>⟨[],_,pF.mp h,by rw[pF.mp h] at p;exact p,rfl,rfl⟩
 |succ n ih=>
  intro f1 f2 r h p
  match f1,h with
  |a::b::f1,h=>
  cases r with
  |nil=>exact nomatch p
  |cons q r=>
   obtain⟨c,p⟩:=gm p
   obtain⟨d,p⟩:=gm p
   exact da (ih (pG (pG h)) p) fun r1 r2 e f g i=>⟨q::r1,r2,by rw[e,c,d];rfl,f,congrArg (q::·) g,congrArg Nat.succ i⟩
theorem GN (n:Nat) {f1 f2:List V} {r:List (V×V)} (h:f1.length=2*n) (p:pairUp (f1++f2)=some r):∃r1 r2,pairUp f1=some r1/\pairUp f2=some r2/\r=r1++r2/\r1.length=n:=
 da (Hf n h (uF p)) fun r1 r2 a b c d=>⟨r1,r2,a▸Ar r1,b▸Ar r2,c,d⟩
theorem Bf (l:List Ex):∀{fl:List V} {st aB:St},cJ K e l st=some (fl,aB)->fl.length=l.length:=by
 induction l with
 |nil=>exact fun h=>(br h).1▸rfl
 |cons x l ih=>exact fun h=>jz h fun v a os d b c=>c▸congrArg Nat.succ (ih b)
theorem GD{pos:Pos}{l:List Ex} {ks:List (Option PySem.Expr)} {vs:List PySem.Expr} (a:eB w h₀ K A cx l ks vs):∀n,(pairTrees ks vs env pos).take n=pairTrees (ks.take n) (vs.take n) env pos:=by
 induction a with
 |nil=>intro n;simp[pairTrees]
 |cons _ _ _ ih=>
  intro n
  cases n with
  |zero=>rfl
  |succ n=>simp only[pairTrees,List.take_succ_cons,ih n]
theorem GF{pos:Pos}{l:List Ex} {ks:List (Option PySem.Expr)} {vs:List PySem.Expr} (a:eB w h₀ K A cx l ks vs):∀n,(pairTrees ks vs env pos).drop n=pairTrees (ks.drop n) (vs.drop n) env pos:=by
 induction a with
 |nil=>intro n;simp[pairTrees]
 |cons _ _ _ ih=>
  intro n
  cases n with
  |zero=>rfl
  |succ n=>simp only[pairTrees,List.drop_succ_cons,ih n]
theorem Lz{α:Type} (n:Nat) (L:List α) (h:n<L.length):∃a q b,L=a++q::b/\a.length=n/\a++[q]=L.take (n+1)/\b=L.drop (n+1):=
 ⟨L.take n,L[n],L.drop (n+1),by rw[<-wo h,wi],List.length_take_of_le (pA h),List.take_append_getElem h,rfl⟩
theorem Bg{a b:List Int} (h:a.map V.int=b.map V.int):a=b:=List.map_inj_right (fun _ _ h=>by injection h)|>.mp h
set_option maxHeartbeats 0 in
theorem RJ{l:List Ex} {is:List Int} {ks:List (Option PySem.Expr)} {vs:List PySem.Expr} {pos:Pos} (a:eB w h₀ K A cx l ks vs) (hc:j6 l=some is) (h:is.Nodup) (G:17<ks.length) (hz:ks.length<=31):aP w h₀ K A cx (.dc l) (.Dict ks vs pos):=by
 intro env D oa e st v' aB s φ μ E Q ab F R ph p
 obtain⟨fl,ac,h1,H⟩:=bind_some (show(cJ K e l>>=fun fl=>lift (pairUp fl)>>=fun r=>_) st=some (v',aB) from ab)
 obtain⟨r,ae,h3,h4⟩:=bind_some H
 refine cA (cX h3) fun j g3=>?_;obtain rfl:=j
 split at h4
 ·rename_i hk
  obtain⟨q,af,h5,h6⟩:=bind_some h4
  refine cA (cX h5) fun k g5=>?_;obtain rfl:=k
  replace p:=p.ret h6
  have hi:∀p∈r,isInt p.1=true:=fun p d=>cG.mp hk p d
  have b:=BJ hc h1 g3
  rw[uq r (l:=[]) (js:=[]) rfl b h,gn] at g5
  obtain rfl:=aR g5
  refine dP a.shape fun s1 s2 s3=>?_
  rw[<-wi (2*17) l] at h1
  refine er (GR _ h1) fun f1 f2 ag m g1 g2=>?_;obtain rfl:=m
  have ah:f1.length=2*17:=by rw[Bf _ g1,pH];exact T7 G s3
  refine da (GN 17 ah g3) fun r1 r2 p1 p2 n T=>?_;obtain rfl:=n
  rw[gF] at b
  refine Dn (List.map_eq_append_iff.mp b.symm) fun qB U u k1 k2=>?_;obtain rfl:=u
  have ai:qB.Nodup:=(pL.mp h).1
  have aj:U.Nodup:=(pL.mp h).2.1
  have Y:∀p∈r1,isInt p.1=true:=fun p d=>hi p (List.mem_append_left _ d)
  have a0:∀p∈r2,isInt p.1=true:=fun p d=>hi p (List.mem_append_right _ d)
  have a3:=uq r1 (l:=[]) (js:=[]) rfl k1.symm ai
  have a4:=uq r2 (l:=[]) (js:=[]) rfl k2.symm aj
  rw[gn] at a3 a4
  have a5:r2.length=ks.length-17:=by
   have e1:f2.length=l.length-2*17:=by rw[Bf _ g2,List.length_drop]
   have:=G5 p2
   exact T8 s3 e1 this
  have d:=pairTrees_length ks vs env pos s1 s2
  refine ry (Lz 16 (pairTrees ks vs env pos) (T9 G d)) fun P1 q P2 e1 e2 e3 e4=>?_
  have l2:P2.length=ks.length-17:=by rw[e4,List.length_drop,d]
  have l1:(P1++[q]).length=17:=by rw[dG,e2];rfl
  rw[GD a] at e3
  rw[GF a] at e4
  rw[arm_eval_Dict,zip_pairTrees ks vs env pos s1 s2,e1,Iw _ _ _ e2 (by omega) (fun q=>by rw[q] at l2;simp at l2;exact Ua G l2)]
  refine wpAny_bind (wpAny_standAt (wpAny_bind (GL (by omega) ?_)))
  rw[e3]
  refine cA (iO R {cls:= .type "dict",data:= .dict #[]}) fun x0 R0=>?_
  have o0:=iQ R (o:={cls:= .type "dict",data:= .dict #[]}) rfl
  have dead:=eR s.heap
  have ak:∀a,FA env a->a≠s.heap.objs.size:=fun a f q=>by have:=(F.off a f).lv;rw[q,dead] at this;exact(aL this).elim
  have al:∀(i:Nat) (l:List V),e[i]?=some (.own l)->oa i≠s.heap.objs.size:=fun i l hl q=>by have:=(F.oo i l hl).1.lv;rw[q,dead] at this;exact(aL this).elim
  refine Iy (s:={s with heap:=s.heap.push {cls:= .type "dict",data:= .dict #[]}}) (r:=r1) (l0:=[]) (l':=r1) (s₀:=s) (aT:=φ) (aU:=μ) ak al dead (a.take 17) g1 p1 (fun p d=>uA (Y p d)) a3 (by rw[T];simp) (F.ext R x0) R0 (Ph.on x0 ph) o0 (rk (eE _ rfl)) x0 ?_
  intro z bh bj xA O oA dA am a6
  refine wpAny_bind (wpAny_holding (wpAny_subDict_any (Ub hz l2) ?_))
  refine cA (iO O {cls:= .type "dict",data:= .dict #[]}) fun xB RB=>?_
  have oB:=iQ O (o:={cls:= .type "dict",data:= .dict #[]}) rfl
  have c:=eR z.heap
  rw[e4]
  refine AA (a.drop 17) g2 (am.ext O xB) RB (Ph.on xB a6) fun r' us aC aH aI hr hn x a7 vp=>?_
  rw[p2] at hr;obtain rfl:=aR hr
  refine cA (Off.ext (s:={z with heap:=z.heap.push {cls:= .type "dict",data:= .dict #[]}}) oB x) fun o1 ao=>?_
  have aq:aC.heap.get? z.heap.objs.size=some {cls:= .type "dict",data:= .dict #[]}:=ao.trans (eE _ rfl)
  refine uj vp (fun p d=>uA (a0 p d)) a4 (rk aq) o1 a7 (by rw[a5];simp;exact Uc hz) fun h' t hs R' as bk mo=>?_
  refine cA (oA.ext (xB.trans x)) fun v au=>?_
  have av:DR w aC.heap aH aI s.heap.objs.size r1:=dA.mono ((xB.trans x).mono O) fun ob I=>au.trans I
  have g:s.heap.objs.size≠z.heap.objs.size:=fun q=>by have:=oA.lv;rw[q,c] at this;exact(aL this).elim
  have aw:DR w h' aH aI s.heap.objs.size r1:=av.mono mo fun ob I=>(hs.2 _ g).trans I
  have y:Off h₀ aH aI h' s.heap.objs.size:=⟨v.nf,v.nm,v.nb,by rw[hs.2 _ g];exact v.lv⟩
  refine da (aw.toInt Y) fun ax B q1 ay J v1=>?_
  refine da (as.toInt a0) fun az C q2 ba L v2=>?_
  have bb:B.map (·.1)=qB:=by
   rw[q1,xK] at k1
   rw[J];exact(Bg k1).symm
  have bc:C.map (·.1)=U:=by
   rw[q2,xK] at k2
   rw[L];exact(Bg k2).symm
  have M:B.length=17:=by have:=congrArg List.length J;have:=congrArg List.length q1;simp at*;exact PU T (by assumption) this
  have be:C.length=ks.length-17:=by have:=congrArg List.length L;have:=congrArg List.length q2;simp at*;exact PV a5 (by assumption) this
  have a8:(z.heap.objs.size==sysModules)=false:=beq_eq_false_iff_ne.mpr fun q=>by
   refine cE (fP.mp O.sys.2) fun o ho=>?_
   have:=O.base _ o ho
   rw[<-q,c] at this;exact(aM this).elim
  refine wpAny_bind (wpAny_onRaise (wpAny_holding (HJ g a8 (fun q=>by rw[q] at M;cases M) ay ba (fun H N a9=>wpAny_pure ?_) (by rw[sizeLine_eq];exact Ud hz M be))))
  rw[merged_append_of_fresh _ _ (by rw[gF,bb,bc];exact h)] at N
  refine cA (SR.side (s:={aC with heap:=h',toks:=t}) R' y a9) fun R2 aa=>?_
  have bf:(H.get? s.heap.objs.size).isSome=true:=by refine j5 N fun o _ _ ho _=>?_;rw[ho];rfl
  have oF:Off h₀ aH aI H s.heap.objs.size:=⟨y.nf,y.nm,y.nb,bf⟩
  have dF:DR w H aH aI s.heap.objs.size (r1++r2):=by
   have:=DR.int (w:=w) (φ:=aH) (μ:=aI) (ax++az) _ N (by rw[gF,gF,J,L]) (by rw[gF,gF];exact(v1.mono aa).append (v2.mono aa))
   rw[gF,<-q1,<-q2] at this
   exact this
  have xF:Ext s {aC with heap:=H,toks:=t} φ aH μ aI:=by
   have xa:=xA.trans (xB.trans x)
   have dB:s.heap.get? z.heap.objs.size=none:=by
    cases q:s.heap.get? z.heap.objs.size with
    |none=>rfl
    |some o=>have:=xA.live _ (by rw[q];rfl);rw[c] at this;exact(aL this).elim
   exact Ext.side (s:={aC with heap:=h',toks:=t}) (Ext.side xa hs dB) a9 dead
  refine dP (Off.freeze (s:={aC with heap:=H,toks:=t}) R2 xF oF dead) fun x2 R3 bg=>?_
  exact p _ _ _ _ x2 R3 (Cj (.inr rfl) hi (dF.mono bg fun _ e=>e))
 ·exact (aM h4).elim
section
theorem LA:(qu.all fun p=>match p.2 with| .cls i=>Nat.blt i 26|_=>true)=true:=by decide+kernel
theorem LB{x:Str}{i:Nat} (h:tK x=some i):i<26:=by
 refine dV (oO (f:=GV.cls?) h) fun a c b e=>?_;obtain⟨n,g⟩:=a;obtain rfl:=b
 have:=cG.mp LA _ c
 cases g<;>(first|exact(aM e).elim|obtain rfl:=aR e|cases e)
 exact aX this
theorem a1{a b:Bool} (h:(a&&b)=true):a=true:=(bK.mp h).1
theorem a2{a b:Bool} (h:(a&&b)=true):b=true:=(bK.mp h).2
theorem nb{a:Bool} (h:(!a)=true):a=false:=by cases a<;>first|rfl|exact(aL h).elim
structure Hy (w:World) (h₀:Heap) (mg mb:Str->Option Value) (K:cF) (A:Around):Prop where
 G:ed w h₀ mg mb
 X:(kF w.params).In h₀
 KO:nL w h₀ K A
 hu:A.units+100<cLine
 hd:A.handled=none
structure ET (w:World) (h₀:Heap) (K:cF) (A:Around) (cx:Cx) (ex:Ex) (z:PySem.Expr):Prop where
 e:aP w h₀ K A cx ex z
 t:fR w h₀ K A cx ex z
section
theorem RK{cx:Cx}{l:List Ex} {ks:List (Option PySem.Expr)} {vs:List PySem.Expr} {pos:Pos} (a:eB w h₀ K A cx l ks vs) (hz:((decide (ks.length<=15)||(decide (17<ks.length/\ks.length<=31)&&(match j6 l with|some is=>decide is.Nodup|none=>false)))&& !ks.isEmpty)=true):aP w h₀ K A cx (.dc l) (.Dict ks vs pos):=by
 have e:ks≠[]:=fun q=>by subst q;exact aL (a2 hz)
 rcases rY.mp (a1 hz) with hl|hl
 ·exact Vv a e (of_decide_eq_true hl)
 ·have d:=of_decide_eq_true (a1 hl)
  have b:=a2 hl
  cases c:j6 l with
  |none=>rw[c] at b;exact(aL b).elim
  |some is=>rw[c] at b;exact RJ a c (of_decide_eq_true b) d.1 d.2
theorem both{cx:Cx}{c:Ex}{b:PySem.Expr} (e:aP w h₀ K A cx c b) (h:∀env a,isTrue b env a=(do let v<-a;standAt b.pos;holding [v] (truthy v))):ET w h₀ K A cx c b:=⟨e,Vn h e⟩
theorem nM{cx:Cx}{e:Ex}{a:PySem.Expr} (h:ET w h₀ K A cx e a) (ns:notStar a=true):cO w h₀ K A cx [e] [a]:= .cons ns h.e h.t .nil
theorem sb{α:Type} [BEq α] [LawfulBEq α] (a:α):(a==a)=true:=beq_self_eq_true a
theorem VB{cx:Cx}{v:V}{z:PySem.Expr} (G:ed w h₀ mg mb) (h:bl (.cn v) cx z=true):ET w h₀ K A cx (.cn v) (fix (.cn v) z):=by
 have go:∀n:Nat,(match n with
   |23=>eG cx (es z)&&(match tI (es z) with|some u=>V.same v u|none=>false)
   |19=>u0 v (vw z).c
   |_=>V.same v (.int (-(ei (k0 z)))))=true->ET w h₀ K A cx (.cn v) (match n with
   |23=>cS z
   |19=> .Constant (vw z).c (en z) z.pos
   |_=> .UnaryOp .USub (.Constant (.int (ei (k0 z))) (en (k0 z)) (k0 z).pos) z.pos):=fun n=>by
  split
  ·exact fun h=>both (Q3 G (a1 h) (a2 h)) fun _ _=>rfl
  ·exact fun h=>both (Q4 h) fun _ _=>rfl
  ·intro h
   cases uZ _ _ h
   exact both (Q5 (sb _)) fun _ _=>rfl
 exact go _ h
theorem all_nil{cx:Cx}:cO w h₀ K A cx [] []:= .nil
theorem all_cons{cx:Cx}{e:Ex}{z:PySem.Expr}{l:List Ex} {r:List PySem.Expr} (h:ET w h₀ K A cx e z) (ns:notStar z=true) (a:cO w h₀ K A cx l r):cO w h₀ K A cx (e::l) (z::r):= .cons ns h.e h.t a
mutual
theorem eS (H:Hy w h₀ mg mb K A):∀(f:Ex) {cx:Cx} {z:PySem.Expr},bl f cx z=true->cx.names.Nodup->ET w h₀ K A cx f (fix f z)
 | .lc _,_,_,h,_=>both (Ve h) fun _ _=>rfl
 | .cn _,_,_,h,_=>VB H.G h
 | .at e _,_,_,h,n=>both (Vf H.X (eS H e (a1 h) n).e (sb _) (a2 h)) fun _ _=>rfl
 | .ix e i,_,_,h,n=>both (Vg (eS H e (a1 (a1 h)) n).e (eS H i (a2 (a1 h)) n).e (a2 h)) fun _ _=>rfl
 | .fU e a,_,_,h,n=>both (Q7 (eS H e (a1 h) n).e (eS H a (a2 h) n).e) fun _ _=>rfl
 | .eP e a,_,_,h,n=>both (Q8 (eS H e (a1 h) n).e (eS H a (a2 h) n).e) fun _ _=>rfl
 | .kY e a b,_,_,h,n=>both (Q9 (eS H e (a1 (a1 h)) n).e (eS H a (a2 (a1 h)) n).e (eS H b (a2 h) n).e) fun _ _=>rfl
 | .tp l,_,_,h,n=>both (Vi (lS H l (a1 h) n) (of_decide_eq_true (a2 h))) fun _ _=>rfl
 | .ls l,_,_,h,n=>both (Vj (lS H l (a1 h) n) (of_decide_eq_true (a2 h))) fun _ _=>rfl
 | .dc l,_,_,h,n=>both (RK (dS H l (a1 h) n) (a2 h)) fun _ _=>rfl
 | .bn _ a b,_,_,h,n=>both (Vk (eS H a (a1 h) n).e (eS H b (a2 h) n).e (sb _)) fun _ _=>rfl
 | .cm _ a b,_,_,h,n=>⟨Vl H.hu (eS H a (a1 (a1 h)) n).e (eS H b (a2 (a1 h)) n).e (sb _) (nb (a2 h)),Vm H.hu (eS H a (a1 (a1 h)) n).e (eS H b (a2 (a1 h)) n).e (sb _) (nb (a2 h))⟩
 | .gN _ _ x a b,_,_,h,n=>⟨Rk H.hu (eS H x (a1 (a1 (a1 h))) n).e (eS H a (a2 (a1 (a1 h))) n).e (eS H b (a2 (a1 h)) n).e (sb _) (sb _) (nb (a2 h)),Ro H.hu (eS H x (a1 (a1 (a1 h))) n).e (eS H a (a2 (a1 (a1 h))) n).e (eS H b (a2 (a1 h)) n).e (sb _) (sb _) (nb (a2 h))⟩
 | .an l,_,_,h,n=>⟨Vq (lS H l h n),Vs (lS H l h n)⟩
 | .orr l,_,_,h,n=>⟨Vr (lS H l h n),Vt (lS H l h n)⟩
 | .nt e,_,_,h,n=>⟨Vo (eS H e h n).e,Vp (eS H e h n).t⟩
 | .ite c a b,_,_,h,n=>⟨Rq (eS H c (a1 (a1 h)) n).t (eS H a (a2 (a1 h)) n).e (eS H b (a2 h) n).e,Rr (eS H c (a1 (a1 h)) n).t (eS H a (a2 (a1 h)) n).t (eS H b (a2 h) n).t⟩
 | .call _ l,_,_,h,n=>both (Lq H.G H.KO (lS H l (a1 (a1 h)) n) (a2 (a1 h)) (beq_iff_eq.mp (a2 h))) fun _ _=>rfl
 | .new _ l,_,_,h,n=>both (Rt H.G H.X H.KO (lS H l (a1 (a1 (a1 h))) n) (a2 (a1 (a1 h))) (beq_iff_eq.mp (a2 (a1 h))) (of_decide_eq_true (a2 h)) (LB (beq_iff_eq.mp (a2 (a1 h))))) fun _ _=>rfl
 | .aZ e _ l,_,_,h,n=>both (Ru H.G H.KO (eS H e (a1 (a1 (a1 (a1 h)))) n).e (lS H l (a2 (a1 (a1 (a1 h)))) n) (sb _) (a2 (a1 (a1 h))) (a2 (a1 h)) (of_decide_eq_true (a2 h))) fun _ _=>rfl
 | .len e,_,_,h,n=>both (Rz H.G (nM (eS H e (a1 (a1 h)) n) (a2 h)) (a1 (a2 (a1 h))) (a2 (a2 (a1 h)))) fun _ _=>rfl
 | .k3 e,_,_,h,n=>both (RD H.G (eS H e (a1 (a1 (a1 h))) n).e (a2 h) (a1 (a2 (a1 (a1 h)))) (a2 (a2 (a1 (a1 h)))) (a1 (a2 (a1 h))) (a2 (a2 (a1 h)))) fun _ _=>rfl
 | .gO e,_,_,h,n=>both (RA H.G (nM (eS H e (a1 (a1 h)) n) (a2 h)) (a1 (a2 (a1 h))) (a2 (a2 (a1 h)))) fun _ _=>rfl
 | .lst e,_,_,h,n=>both (RC H.G (nM (eS H e (a1 (a1 h)) n) (a2 h)) (a1 (a2 (a1 h))) (a2 (a2 (a1 h)))) fun _ _=>rfl
 | .kr e k,_,_,h,n=>both (Ls H.hu (eS H e (a1 (a1 (a1 (a1 (a1 h))))) n).e (eS H k (a2 (a1 (a1 (a1 (a1 h))))) n).e (a2 (a1 (a1 (a1 h)))) (a2 (a1 (a1 h))) (a2 (a1 h)) (a2 h)) fun _ _=>rfl
 | .gq e k d,_,_,h,n=>both (Lu H.hu (eS H e (a1 (a1 (a1 (a1 (a1 (a1 (a1 h))))))) n).e (eS H k (a2 (a1 (a1 (a1 (a1 (a1 (a1 h))))))) n).e (eS H d (a2 (a1 (a1 (a1 (a1 (a1 h)))))) n).e (a2 (a1 (a1 (a1 (a1 h))))) (a2 (a1 (a1 (a1 h)))) (a2 (a1 (a1 h))) (a2 (a1 h)) (a2 h)) fun _ _=>rfl
 | .comp e _ i,_,_,h,n=>both (Lx H.hd n (a1 (a2 (a1 h))) (a2 (a2 (a1 h))) (a2 h) (eS H i (a1 (a1 (a1 h))) n).e (eS H e (a2 (a1 (a1 h))) n).e) fun _ _=>rfl
 | .jE e _ m,_,_,h,n=>both (JQ H.G H.hd n (a1 (a2 (a1 (a1 h)))) (a2 (a2 (a1 (a1 h)))) (a1 (a2 (a1 h))) (a2 (a2 (a1 h))) (nM (eS H m (a1 (a1 (a1 (a1 h)))) n) (a2 h)) (eS H e (a2 (a1 (a1 (a1 h)))) n).e) fun _ _=>rfl
 | .i3 _,_,_,h,_=>both (Lr H.G (a1 (a1 h)) (a2 (a1 h)) (a2 h)) fun _ _=>rfl
 | .cV l,_,_,h,n=>both (Rb (lS H l (a1 h) n) (of_decide_eq_true (a2 h))) fun _ _=>rfl
 | .eD l,_,_,h,n=>both (RE (dS H l (a1 h) n) (of_decide_eq_true (a2 h))) fun _ _=>rfl
 | .hA e _ i,_,_,h,n=>both (JP H.hd n (a1 (a2 (a1 h))) (a2 (a2 (a1 h))) (a2 h) (eS H i (a1 (a1 (a1 h))) n).e (eS H e (a2 (a1 (a1 h))) n).e) fun _ _=>rfl
theorem lS (H:Hy w h₀ mg mb K A):∀(l:List Ex) {cx:Cx} {r:List PySem.Expr},iA l cx r=true->cx.names.Nodup->cO w h₀ K A cx l (fI l r)
 |[],_,_,_,_=>all_nil
 |e::l,_,_,h,n=>all_cons (eS H e (a1 (a1 h)) n) (a2 (a1 h)) (lS H l (a2 h) n)
theorem dS (H:Hy w h₀ mg mb K A):∀(l:List Ex) {cx:Cx} {r:List PySem.Expr},sY l cx r=true->cx.names.Nodup->eB w h₀ K A cx l (jQ l r) (sX l r)
 |[],_,_,_,_=> .nil
 |[_],_,_,h,_=>(aL (a2 h)).elim
 |k::v::l,_,_,h,n=> .cons (eS H k (a1 h) n).e (eS H v (a1 (a2 h)) n).e (dS H l (a2 (a2 h)) n)
end
end
end
structure aQ (env:PySem.Env) (oa:Nat->Addr) (e:Env) (dT:Nat->Addr) (e':Env) (s s':Shared) (φ aD:Addr->Prop) (μ aE:List Loc):Prop where
 keep:∀a o,s.heap.get? a=some o->a∉di μ->¬FA env a->(∀(i:Nat) (l:List V),e[i]?=some (.own l)->a≠oa i)->s'.heap.get? a=some o
 live:∀a,(s.heap.get? a).isSome=true->(s'.heap.get? a).isSome=true
 fr:∀a,φ a->aD a
 nf:∀a,aD a->¬φ a->s.heap.get? a=none
 mu:∃n,aE=μ++n/\∀a∈di n,s.heap.get? a=none
 own:∀(i:Nat) (l:List V),e'[i]?=some (.own l)->(∃(j:Nat) (m:List V),e[j]?=some (.own m)/\dT i=oa j)\/s.heap.get? (dT i)=none
 gens:s'.gens=s.gens
 os:s'.os=s.os
abbrev DD (s₀:Shared):Addr->Prop:=fun a=>s₀.heap.get? a=none
variable {dT EU:Nat->Addr} {e' qC:Env} {iE:Shared} {gJ:Addr->Prop} {gK:List Loc}
theorem aQ.eg (x:Ext s s' φ aD μ aE):aQ env oa e oa e s s' φ aD μ aE:=
 ⟨fun a o h n _ _=>x.keep a o h n,x.live,x.fr,x.nf,x.mu,fun i l h=> .inl ⟨i,l,h,rfl⟩,x.gens,x.os⟩
theorem aQ.trans (x:aQ env oa e dT e' s s' φ aD μ aE) (y:aQ env dT e' EU qC s' iE aD gJ aE gK):aQ env oa e EU qC s iE φ gJ μ gK:=by
 have dead:∀a,s'.heap.get? a=none->s.heap.get? a=none:=fun a e=>by
  cases q:s.heap.get? a with
  |none=>rfl
  |some o=>have:=x.live a (by rw[q];rfl);rw[e] at this;exact(aL this).elim
 refine aN x.mu fun n xC hn=>?_;obtain rfl:=xC
 refine aN y.mu fun m xD hm=>?_;obtain rfl:=xD
 refine⟨fun a o h h1 h2 h3=>y.keep a o (x.keep a o h h1 h2 h3) (fun q=>?_) h2 (fun i l hl q=>?_),fun a h=>y.live a (x.live a h),fun a f=>y.fr a (x.fr a f),fun a f nf=>?_,⟨n++m,by rw[fE],fun a ha=>?_⟩,fun i l hl=>?_,y.gens.trans x.gens,y.os.trans x.os⟩
 ·rw[gY,dM] at q
  rcases q with q|q
  ·exact h1 q
  ·have:=hn a q;rw[h] at this;exact(i8 this).elim
 ·rcases x.own i l hl with⟨j,m,hj,e1⟩|d
  ·exact h3 j m hj (q.trans e1)
  ·rw[<-q,h] at d;exact(i8 d).elim
 ·by_cases q:aD a
  ·exact x.nf a q nf
  ·exact dead a (y.nf a f q)
 ·rw[gY,dM] at ha
  rcases ha with q|q
  ·exact hn a q
  ·exact dead a (hm a q)
 ·rcases y.own i l hl with⟨j,m,hj,e1⟩|d
  ·rcases x.own j m hj with⟨k,m',hk,e2⟩|d
   ·exact .inl ⟨k,m',hk,e1.trans e2⟩
   ·exact .inr (e1▸d)
  ·exact .inr (dead _ d)
theorem aQ.ext (x:aQ env oa e dT e' s s' φ aD μ aE) (x0:Ext s₀ s aT φ aU μ) (hf:∀a,FA env a->s₀.heap.get? a=none) (ho:∀(i:Nat) (l:List V),e[i]?=some (.own l)->s₀.heap.get? (oa i)=none):Ext s₀ s' aT aD aU aE:=by
 have dead:∀a,s.heap.get? a=none->s₀.heap.get? a=none:=fun a d=>x0.dead d
 refine aN x0.mu fun n xN hn=>?_;obtain rfl:=xN
 refine aN x.mu fun m RN hm=>?_;obtain rfl:=RN
 refine⟨fun a o h n=>x.keep a o (x0.keep a o h n) (fun q=>?_) (fun f=>?_) (fun i l hl q=>?_),fun a h=>x.live a (x0.live a h),fun a f=>x.fr a (x0.fr a f),fun a f nf=>?_,⟨_,fE ..,fun a ha=>?_⟩,x.gens.trans x0.gens,x.os.trans x0.os⟩
 ·rw[gY,dM] at q
  rcases q with q|q
  ·exact n q
  ·have:=hn a q;rw[h] at this;exact(i8 this).elim
 ·have:=hf a f;rw[h] at this;exact(i8 this).elim
 ·have:=ho i l hl;rw[<-q,h] at this;exact(i8 this).elim
 ·by_cases q:φ a
  ·exact x0.nf a q nf
  ·exact dead a (x.nf a f q)
 ·rw[gY,dM] at ha
  rcases ha with q|q
  ·exact hn a q
  ·exact dead a (hm a q)
structure FX (w:World) (h₀:Heap) (cx:Cx) (env:PySem.Env) (s₀:Shared) (aT:Addr->Prop) (aU:List Loc) (oa:Nat->Addr) (e:Env) (st:St) (s:Shared) (φ:Addr->Prop) (μ:List Loc):Prop where
 x:Ext s₀ s aT φ aU μ
 hf:∀a,FA env a->s₀.heap.get? a=none
 F:FR w h₀ cx env (DD s₀) oa e s.heap φ μ
 R:SR w h₀ s.heap φ μ st
 ph:Ph φ
theorem FX.step (H:FX w h₀ cx env s₀ aT aU oa e st s φ μ) (x:aQ env oa e dT e' s s' φ aD μ aE) (F:FR w h₀ cx env (DD s₀) dT e' s'.heap aD aE) (R:SR w h₀ s'.heap aD aE aB):FX w h₀ cx env s₀ aT aU dT e' aB s' aD aE:=
 ⟨x.ext H.x H.hf fun i l h=>(H.F.oo i l h).2,H.hf,F,R,fun a q=>x.fr a (H.ph a q)⟩
theorem FX.ext (H:FX w h₀ cx env s₀ aT aU oa e st s φ μ) (x:Ext s s' φ aD μ aE) (R:SR w h₀ s'.heap aD aE aB):FX w h₀ cx env s₀ aT aU oa e aB s' aD aE:=
 H.step (aQ.eg x) (H.F.ext H.R x) R
def fT (w:World) (h₀:Heap) (cx:Cx) (env:PySem.Env) (s₀:Shared) (aT:Addr->Prop) (aU:List Loc) (oa:Nat->Addr) (e:Env) (s:Shared) (φ:Addr->Prop) (μ:List Loc) (aB:St) (fl:Fl) (e':Env) (Q:Flow->Shared->Prop):Prop:=match fl with
 | .next=>∀s' aD aE dT,aQ env oa e dT e' s s' φ aD μ aE->FR w h₀ cx env (DD s₀) dT e' s'.heap aD aE->SR w h₀ s'.heap aD aE aB->Q .next s'
 | .ret v=>∀u s' aD aE,Ext s₀ s' aT aD aU aE->SR w h₀ s'.heap aD aE aB->VR w s'.heap aD aE v u->Q (.ret u) s'
theorem fT.ret{w:World}{h₀:Heap}{cx:Cx}{env:PySem.Env}{s₀:Shared}{aT:Addr->Prop}{aU:List Loc} {oa:Nat->Addr} {e:Env} {s:Shared} {φ:Addr->Prop} {μ:List Loc} {st aB:St} {f fl:Fl} {z e':Env} {Q:Flow->Shared->Prop} (q:fT w h₀ cx env s₀ aT aU oa e s φ μ aB fl e' Q) (h:(pure (f,z):M (Fl×Env)) st=some ((fl,e'),aB)):fT w h₀ cx env s₀ aT aU oa e s φ μ st f z Q:=by cases h;exact q
def dw (w:World) (h₀:Heap) (K:cF) (A:Around) (cx:Cx) (sm:Sm) (a:PySem.Stmt):Prop:=
 ∀(env:PySem.Env) (s₀:Shared) (aT:Addr->Prop) (aU:List Loc) (oa:Nat->Addr) (e:Env) (st:St) (fl:Fl) (e':Env) (aB:St) (s:Shared) (φ:Addr->Prop) (μ:List Loc) (E:Value->Shared->Prop) (Q:Flow->Shared->Prop),
  nT K e sm st=some ((fl,e'),aB)->FX w h₀ cx env s₀ aT aU oa e st s φ μ->fT w h₀ cx env s₀ aT aU oa e s φ μ aB fl e' Q->wpAny (model aF w) A (exec a env) Q E s
def jg (w:World) (h₀:Heap) (K:cF) (A:Around) (cx:Cx) (sm:List Sm) (a:List PySem.Stmt):Prop:=
 ∀(env:PySem.Env) (s₀:Shared) (aT:Addr->Prop) (aU:List Loc) (oa:Nat->Addr) (e:Env) (st:St) (fl:Fl) (e':Env) (aB:St) (s:Shared) (φ:Addr->Prop) (μ:List Loc) (E:Value->Shared->Prop) (Q:Flow->Shared->Prop),
  cM K e sm st=some ((fl,e'),aB)->FX w h₀ cx env s₀ aT aU oa e st s φ μ->fT w h₀ cx env s₀ aT aU oa e s φ μ aB fl e' Q->wpAny (model aF w) A (execs a env) Q E s
theorem fT.on{fl:Fl}{Q:Flow->Shared->Prop} (x:aQ env oa e dT e' s s' φ aD μ aE) (q:fT w h₀ cx env s₀ aT aU oa e s φ μ aB fl qC Q):fT w h₀ cx env s₀ aT aU dT e' s' aD aE aB fl qC Q:=by
 cases fl with
 |next=>exact fun aV bX cg z y F R=>q aV bX cg z (x.trans y) F R
 |ret v=>exact q
theorem RO:jg w h₀ K A cx [] []:=by
 intro env s₀ aT aU oa e st fl e' aB s φ μ E Q a H q
 cases a
 exact wpAny_execs_nil (q _ _ _ _ (aQ.eg Ext.kH) H.F H.R)
theorem LC{sm:Sm}{c:PySem.Stmt}{l:List Sm} {r:List PySem.Stmt} (g:dw w h₀ K A cx sm c) (k:jg w h₀ K A cx l r):jg w h₀ K A cx (sm::l) (c::r):=by
 intro env s₀ aT aU oa e st fl e' aB s φ μ E Q d H q
 obtain⟨⟨f,h⟩,a,i,j⟩:=bind_some d
 refine wpAny_execs_cons ?_
 cases f with
 |next=>
  refine g env s₀ aT aU oa e st .next h a s φ μ E _ i H fun aC aH aI b x F R=>?_
  exact k env s₀ aT aU b h a fl e' aB aC aH aI E Q j (H.step x F R) (q.on x)
 |ret v=>
  cases j
  exact g env s₀ aT aU oa e st (.ret v) e' aB s φ μ E _ i H q
noncomputable def dg (cx:Cx) (i:Nat) (x:Str):Bool:=cx.names[i]?==some x&&(cx.kd x==some .local||cx.kd x==some .cell)
theorem uK{i:Nat}{x:Str} (h:dg cx i x=true):cx.names[i]?=some x/\(cx.kd x=some .local\/cx.kd x=some .cell):=by
 refine cA (bK.mp h) fun a b=>?_
 refine⟨beq_iff_eq.mp a,?_⟩
 rcases rY.mp b with h|h
 ·exact .inl (beq_iff_eq.mp h)
 ·exact .inr (beq_iff_eq.mp h)
theorem aQ.at{a:Addr}{t:Nat}{e':Env} (fa:FA env a) (hs:Heap.SameBut a s.heap h') (lv:(h'.get? a).isSome=true) (ho:∀(i:Nat) (l:List V),e'[i]?=some (.own l)->∃m,e[i]?=some (.own m)):aQ env oa e oa e' s {s with heap:=h',toks:=t} φ φ μ μ:=by
 refine⟨fun b o hb _ nf _=>(hs.2 b fun q=>nf (q▸fa)).trans hb,fun b hb=>?_,fun _ f=>f,fun _ f n=>absurd f n,⟨[],by simp,by simp[di]⟩,fun i l hl=>?_,rfl,rfl⟩
 ·by_cases q:b=a
  ·rw[q];exact lv
  ·show (h'.get? b).isSome=true
   rw[hs.2 b q];exact hb
 ·refine cE (ho i l hl) fun m hm=>?_
  exact .inl ⟨i,m,hm,rfl⟩
theorem mH{i:Nat}{x:Str}{u:Value}{Q:Unit->Shared->Prop} (nd:cx.names.Nodup) (hx:dg cx i x=true) (F:FR w h₀ cx env D oa e s.heap φ μ) (R:SR w h₀ s.heap φ μ st) (y:VR w s.heap φ μ v u)
  (q:∀s',aQ env oa e oa (e.set i (.v v)) s s' φ φ μ μ->FR w h₀ cx env D oa (e.set i (.v v)) s'.heap φ μ->SR w h₀ s'.heap φ μ st->(∃a,FA env a/\Heap.SameBut a s.heap s'.heap)->Q () s'):
  wpAny (model aF w) A (storeName env x u) Q E s:=by
 refine cA (uK hx) fun h1 h2=>?_
 refine ux F R nd h1 (h2.imp id fun h=>⟨h,F.ca _ h⟩) fun a h' t fa _ hs R' mo rd fr=>?_
 have F':FR w h₀ cx env D oa (e.set i (.v v)) h' φ μ:=
  FR.fill (fr (e.set i .un) (fun j v hj=>g8 hj (by intro q;cases q)) (fun j l hj=>g8 hj (by intro q;cases q))) h1 rd (y.mono mo)
 refine q _ (aQ.at fa hs (F'.off a fa).lv fun j l hj=>?_) F' R' ⟨a,fa,hs⟩
 by_cases q:j=i
 ·subst q;have:=fy hj;cases this
 ·rw[dQ q] at hj;exact⟨l,hj⟩
theorem lE{a:PySem.Expr}{t:Option PySem.Expr} {n:Nat} (h:fA a=true):swapsWith a t n env=pure false:=by
 cases a<;>first|rfl|exact(aL h).elim
theorem xO{i:Nat}{x:Str}{j pos:Pos} {h:Ex} {a:PySem.Expr} (nd:cx.names.Nodup) (k:dg cx i x=true) (l:fA a=true) (ih:aP w h₀ K A cx h a):dw w h₀ K A cx (.asg i h) (.Assign [.Name x j] a pos):=by
 intro env s₀ aT aU oa e st fl e' aB s φ μ E Q f H q
 obtain⟨v,g,m,n⟩:=bind_some f
 replace q:=q.ret n
 refine wpAny_Assign_Name (ih env _ oa e _ _ _ s φ μ E _ m H.F H.R H.ph fun u aC aH aI x1 b y=>?_) (lE l)
 exact mH nd k (H.F.ext H.R x1) b y fun aV x2 c d _=>q _ _ _ _ ((aQ.eg x1).trans x2) c d
theorem RQ{f:Ex}{a:PySem.Expr}{pos:Pos} (g:fA a=true) (ih:aP w h₀ K A cx f a):dw w h₀ K A cx (.exp f) (.Expr a pos):=by
 intro env s₀ aT aU oa e st fl e' aB s φ μ E Q c H q
 obtain⟨v,d,h,i⟩:=bind_some c
 replace q:=q.ret i
 exact wpAny_Expr_any (ih env _ oa e _ _ _ s φ μ E _ h H.F H.R H.ph fun u aC aH aI x1 b y=>q _ _ _ _ (aQ.eg x1) (H.F.ext H.R x1) b) (by unfold interactive;rw[H.F.ok.fn];rfl) (lE g)
theorem LD{pos:Pos}:dw w h₀ K A cx .pass (.Pass pos):=by
 intro env s₀ aT aU oa e st fl e' aB s φ μ E Q a H q
 replace q:=q.ret a
 exact wpAny_Pass (q _ _ _ _ (aQ.eg Ext.kH) H.F H.R)
theorem LG{a:PySem.Stmt}:dw w h₀ K A cx .stop a:=by
 intro env s₀ aT aU oa e st fl e' aB s φ μ E Q b H q
 exact(aM b).elim
theorem RR{f:Ex}{a:PySem.Expr}{pos:Pos} (ih:aP w h₀ K A cx f a):dw w h₀ K A cx (.ret f) (.Return (some a) pos):=by
 intro env s₀ aT aU oa e st fl e' aB s φ μ E Q c H q
 obtain⟨v,d,g,h⟩:=bind_some c
 replace q:=q.ret h
 exact wpAny_Return_some (ih env _ oa e _ _ _ s φ μ E _ g H.F H.R H.ph fun u aC aH aI x1 b y=>q u _ _ _ (H.x.trans x1) b y)
theorem LH{pos:Pos}:dw w h₀ K A cx .lY (.Return none pos):=by
 intro env s₀ aT aU oa e st fl e' aB s φ μ E Q a H q
 replace q:=q.ret a
 exact wpAny_Return_none (q _ _ _ _ H.x H.R .none)
theorem LI{i:Nat}{x:Str}{b pos:Pos} (h:eN cx i x=true):dw w h₀ K A cx (.kD i) (.Return (some (.Name x b)) pos):=by
 intro env s₀ aT aU oa e st fl e' aB s φ μ E Q a H q
 change (match e[i]? with|some (.own l)=>pure (Fl.ret (.lst l),e)|_=>fail:M (Fl×Env)) st=_ at a
 generalize c:e[i]?=y at a
 rcases y with _|(_|y|y)<;>first|cases a|skip
 refine wpAny_Return_some (mG h c H.F fun o d f n ho g=>?_)
 refine dP (o.freeze H.R H.x d) fun x2 j k=>?_
 exact q _ _ _ _ x2 j (.lst (.inr rfl) ho (g.mono k))
theorem RT{c:Ex}{a b:List Sm} {i:PySem.Expr} {j k:List PySem.Stmt} {pos:Pos} (ih:fR w h₀ K A cx c i) (n:jg w h₀ K A cx a j) (o:jg w h₀ K A cx b k):dw w h₀ K A cx (.iff c a b) (.If i j k pos):=by
 intro env s₀ aT aU oa e st fl e' aB s φ μ E Q f H q
 obtain⟨v,g,p,r⟩:=bind_some f
 obtain⟨t,h,u,l⟩:=bind_some r
 refine wpAny_If (ih env _ oa e _ t _ s φ μ E _ (by rw[fZ,p];exact u) H.F H.R H.ph fun aC aH aI x1 d=>?_)
 have H1:=H.ext x1 d
 have m:fT w h₀ cx env s₀ aT aU oa e aC aH aI aB fl e' Q:=q.on (aQ.eg x1)
 cases t with
 |true=>exact n env s₀ aT aU oa e _ fl e' aB aC aH aI E Q l H1 m
 |false=>exact o env s₀ aT aU oa e _ fl e' aB aC aH aI E Q l H1 m
theorem RU{r B:Ex} {f:Nat} {C b:PySem.Expr} {a:Str} {G pos:Pos} (X:(kF w.params).In h₀) (I:(a==nm f)=true) (J:fA b=true) (h:aP w h₀ K A cx r C) (i:aP w h₀ K A cx B b):
  dw w h₀ K A cx (.aW r f B) (.Assign [.Attribute C a G] b pos):=by
 intro env s₀ aT aU oa e st fl e' aB s φ μ E Q j H q
 obtain⟨v,k,L,M⟩:=bind_some j
 obtain⟨o,l,N,O⟩:=bind_some M
 obtain⟨_,m,T,U⟩:=bind_some O
 replace q:=q.ret U
 rw[beq_iff_eq.mp I]
 refine plainObj_wpAny_Assign_Attribute (i env _ oa e _ _ _ s φ μ E _ L H.F H.R H.ph fun u aC aH aI x1 c y=>?_) (lE J)
 have H1:=H.ext x1 c
 refine h env _ oa e _ _ _ aC aH aI E _ N H1.F c H1.ph fun t aV bX cg x2 d z=>?_
 refine GO X T d z (y.mono (x2.mono c)) fun D n p x3 g=>?_
 have x:=(x1.trans x2).trans x3
 exact q _ _ _ _ (aQ.eg x) (H.F.ext H.R x) g
theorem RV{C k1 D:Ex} {G I a:PySem.Expr} {N pos:Pos} (hu:A.units+100<cLine) (O:fA a=true) (g:aP w h₀ K A cx C G) (h:aP w h₀ K A cx k1 I) (i:aP w h₀ K A cx D a):
  dw w h₀ K A cx (.cK C k1 D) (.Assign [.Subscript G I N] a pos):=by
 intro env s₀ aT aU oa e st fl e' aB s φ μ E Q j H q
 obtain⟨v,l,T,U⟩:=bind_some j
 obtain⟨o,m,Y,z2⟩:=bind_some U
 obtain⟨k,n,h3,z3⟩:=bind_some z2
 obtain⟨_,p,h4,h5⟩:=bind_some z3
 replace q:=q.ret h5
 refine wpAny_Assign_Subscript (i env _ oa e _ _ _ s φ μ E _ T H.F H.R H.ph fun u aC aH aI x1 c y=>?_) (lE O)
 have H1:=H.ext x1 c
 refine g env _ oa e _ _ _ aC aH aI E _ Y H1.F c H1.ph fun t aV bX cg x2 b z=>?_
 have J:=H1.ext x2 b
 refine h env _ oa e _ _ _ aV bX cg E _ h3 J.F b J.ph fun t' L r B x3 d z'=>?_
 refine ug h4 d (z.mono (x3.mono b)) z' ((y.mono (x2.mono c)).mono (x3.mono b)) hu fun M x4 f=>?_
 have x:=((x1.trans x2).trans x3).trans x4
 exact q _ _ _ _ (aQ.eg x) (H.F.ext H.R x) f
theorem BK{o:fJ}{op:Operator}{a b c:V} {u t:Value} {Q:Value->Shared->Prop} (ho:(op==jO o)=true) (h:k6 o a b=some c) (R:SR w h₀ s.heap φ μ st) (x:VR w s.heap φ μ a u) (y:VR w s.heap φ μ b t) (p:bz w h₀ s φ μ st c Q):
  wpAny (model aF w) A (inplaceOp op u t) Q E s:=by
 rw[beq_iff_eq.mp ho]
 cases a with
 |int i=>cases b with
  |int j=>
   obtain⟨_,rfl⟩:=VR.inv x
   obtain⟨_,rfl⟩:=VR.inv y
   cases o with
   |add=>exact iadd_int (p.tok R _ (aR h▸.int _ _))
   |sub=>exact isub_int (p.tok R _ (aR h▸.int _ _))
   |_=>exact(aM h).elim
  |_=>cases o<;>exact(aM h).elim
 |_=>cases o<;>exact(aM h).elim
theorem LJ{i:Nat}{x:Str}{G pos:Pos} {o:fJ} {op:Operator} {m:Ex} {a:PySem.Expr} (nd:cx.names.Nodup) (C:dg cx i x=true) (hl:eN cx i x=true) (ho:(op==jO o)=true) (ih:aP w h₀ K A cx m a):
  dw w h₀ K A cx (.i6 i o m) (.AugAssign (.Name x G) op a pos):=by
 intro env s₀ aT aU oa e st fl e' aB s φ μ E Q b H q
 change (match e[i]? with|some (.v h)=>(do let x<-aG K e m;return (Fl.next,e.set i (.v (<-lift (k6 o h x)))))|_=>fail:M (Fl×Env)) st=_ at b
 generalize I:e[i]?=y at b
 rcases y with _|(_|h|y)<;>first|exact(aM b).elim|skip
 obtain⟨v,n,J,L⟩:=bind_some b
 obtain⟨c,p,N,O⟩:=bind_some L
 refine cA (cX N) fun d T=>?_;obtain rfl:=d
 replace q:=q.ret O
 refine cA (uK C) fun k1 k2=>?_
 have U:gL (cx.kd x)=true:=by rcases k2 with k|k<;>rw[k]<;>rfl
 refine aN (H.F.sl i h x I k1 U) fun u rd y=>?_
 have B:(x==("__classdict__":Str))=false:=by
  have:=a2 hl;simpa[cW] using this
 refine wpAny_AugAssign_Name (uX H.F.ok rd B ?_)
 refine ih env _ oa e _ _ _ s φ μ E _ J H.F H.R H.ph fun t aC aH aI x1 f z=>?_
 refine BK ho T f (y.mono (x1.mono H.R)) z fun r aV bX cg x2 g Y=>?_
 have H2:=(H.ext x1 f).ext x2 g
 exact mH nd C H2.F g Y fun D x3 j l _=>q _ _ _ _ ((aQ.eg (x1.trans x2)).trans x3) j l
theorem GS{c:PySem.Expr} (h:mT c=true) (a b new:Value):augStore c a b new=(do holding [new,a,b] (PySem.setItem a b new);release [new,a,b] [];pure .next):=by
 cases c<;>first|rfl|exact(aL h).elim
theorem LK{e1 k1 v1:Ex} {o:fJ} {op:Operator} {e' v b:PySem.Expr} {pa pos:Pos} (hu:A.units+100<cLine) (hs:mT v=true) (ho:(op==jO o)=true) (B:aP w h₀ K A cx e1 e') (C:aP w h₀ K A cx k1 v) (D:aP w h₀ K A cx v1 b):
  dw w h₀ K A cx (.jM e1 k1 o v1) (.AugAssign (.Subscript e' v pa) op b pos):=by
 intro env s₀ aT aU oa e st fl qC aB s φ μ E Q G H q
 obtain⟨d,I,h1,z1⟩:=bind_some G
 obtain⟨i,J,h2,z2⟩:=bind_some z1
 obtain⟨a6,L,h3,z3⟩:=bind_some z2
 obtain⟨x,M,h4,z4⟩:=bind_some z3
 obtain⟨c,N,h5,z5⟩:=bind_some z4
 obtain⟨_,O,h6,h7⟩:=bind_some z5
 refine cA (cX h5) fun h g5=>?_;obtain rfl:=h
 replace q:=q.ret h7
 refine wpAny_AugAssign_SubscriptAny (B env _ oa e _ _ _ s φ μ E _ h1 H.F H.R H.ph fun u aC aH aI x1 a y=>?_) (GS hs)
 have H1:=H.ext x1 a
 refine C env _ oa e _ _ _ aC aH aI E _ h2 H1.F a H1.ph fun t aV bX cg x2 f z=>?_
 have H2:=H1.ext x2 f
 refine(A3 (A:=A) (E:=E) h3 f (y.mono (x2.mono a)) z fun r m k l x3 g y3=>?_).2
 have H3:=H2.ext x3 g
 refine D env _ oa e _ _ _ m k l E _ h4 H3.F g H3.ph fun t' a3 T U x4 j y4=>?_
 have m4:=x4.mono g
 refine BK ho g5 j (y3.mono m4) y4 fun r' a4 Y a0 x5 n y5=>?_
 have m5:=x5.mono j
 have m3:=x3.mono f
 refine ug h6 n ((((y.mono (x2.mono a)).mono m3).mono m4).mono m5) (((z.mono m3).mono m4).mono m5) y5 hu fun a5 x6 p=>?_
 have x:=((((x1.trans x2).trans x3).trans x4).trans x5).trans x6
 exact q _ _ _ _ (aQ.eg x) (H.F.ext H.R x) p
theorem aQ.but{I:Addr}{t:Nat} (x:aQ env oa e dT e' s s' φ aD μ aE) (k:∀b ob,b≠I->s'.heap.get? b=some ob->h'.get? b=some ob) (d:s.heap.get? I=none):aQ env oa e dT e' s {s' with heap:=h',toks:=t} φ aD μ aE:=by
 have A:∀b,(s.heap.get? b).isSome=true->b≠I:=fun b C q=>by rw[q,d] at C;exact(aL C).elim
 refine⟨fun a o h D E H=>k a o (A a (by rw[h];rfl)) (x.keep a o h D E H),fun a h=>?_,x.fr,x.nf,x.mu,x.own,x.gens,x.os⟩
 obtain⟨ob,z⟩:=fP.mp (x.live a h)
 rw[k a ob (A a h) z];rfl
theorem Bh{sc:Scope}{x y:Str} {px qD pos pos':Pos} {i xi:Nat} {elt it:Ex} {je jo:PySem.Expr} {Q:Flow->Shared->Prop} (hd:A.handled=none) (nd:cx.names.Nodup) (hn:dg cx i x=true) (hx:(cx.names[xi]?==some y)=true) (hs:jc cx sc y=true) (iG:gD jo=true)
  (Ga:aP w h₀ K A cx it jo) (Gb:aP w h₀ K A (cx.comp sc) elt je) {eA iV xP:St} {o:V} {l rs:List V} (h1:aG K e it st=some (o,eA)) (h2:dz o eA=some (l,iV)) (h3:(l.mapM fun v=>aG K (e.set xi (.v v)) elt) iV=some (rs,xP)) (H:FX w h₀ cx env s₀ aT aU oa e st s φ μ)
  (mk:∀s' aD aE L,Ext s s' φ aD μ aE->SR w h₀ s'.heap aD aE xP->Off h₀ aD aE s'.heap L->(∃bQ n,IsL s'.heap L bQ n/\aJ w s'.heap aD aE rs bQ.toList)->s.heap.get? L=none->
   ∃gJ gK,Ext s s' φ gJ μ gK/\SR w h₀ s'.heap gJ gK aB/\VR w s'.heap gJ gK v (.ref L)/\∀C,L≠C->Off h₀ aD aE s'.heap C->Off h₀ gJ gK s'.heap C)
  (q:fT w h₀ cx env s₀ aT aU oa e s φ μ aB .next (e.set i (.v v)) Q):wpAny (model aF w) A (exec (.Assign [.Name x qD] (.ListComp je [⟨.Name y px,jo,[],0⟩] sc pos) pos') env) Q E s:=by
 have S:=u2 hs
 refine dV (uJ H.F S) fun cl c0 c1 c2=>?_
 refine dP (jZ h2) fun o3 hz hv=>?_;obtain rfl:=o3
 have fld:∀x,foldedSetIterable jo env x=pure x:=fun x=>qT iG x
 rw[exec_Assign_arm]
 refine wpAny_bind (wpAny_standAt ?_)
 obtain⟨b,hb⟩:∃b,swapsWithSole [.Name x qD] (.ListComp je [⟨.Name y px,jo,[],0⟩] sc pos) pos'.line env=pure b:=⟨_,rfl⟩
 rw[hb]
 refine wpAny_bind (wpAny_pure ?_)
 cases b with
 |false=>
  rw[if_neg (by decide)]
  refine wpAny_bind (u5 (e:=e) hd nd hx hs iG Ga Gb h1 h2 h3 H.F H.R H.ph fun aC aH aI L x1 jd oL dn dL=>?_)
  refine da (mk _ _ _ _ x1 jd oL dn dL) fun bX cg x2 yP y2 _=>?_
  refine wpAny_bind (wpAny_pure (a:=none) ?_)
  show wpAny _ _ (do assignAll (.ref L) ((assignEach [.Name x qD] env).map (·.2));pure Flow.next) _ _ _
  refine wpAny_bind ?_
  show wpAny _ _ (assign (.Name x qD) env (.ref L)) _ _ _
  refine wpAny_assign_Name (mH nd hn (H.F.ext H.R x2) yP y2 fun s6 x3 VC yQ _=>wpAny_pure (q _ _ _ _ ((aQ.eg x2).trans x3) VC yQ))
 |true=>
  rw[if_pos rfl,arm_evalThenUse_ListComp]
  refine wpAny_bind (wpAny_bind ?_)
  refine wpAny_comprehension_free (Q:=fun _ s'=>wpAny (model aF w) A (pure ()) (fun _ iE=>wpAny (model aF w) A (pure Flow.next) Q E iE) E s') rfl fld c0 S.fn (fun p hp hl=>(S.lo p hp hl).2) ?_
  refine Ga env _ oa e _ _ _ s φ μ E _ h1 H.F H.R H.ph fun u aC aH aI x1 jd y=>?_
  refine rm hd hz hv jd y fun I fp P St aV W dI x2 yP oI=>?_
  have F1:=H.F.ext H.R x1
  have F2:=F1.ext jd x2
  refine u3 S nd (beq_iff_eq.mp hx) Gb hz c1 c2 (x1.trans x2) yP F2 (Ph.on x2 (Ph.on x1 H.ph)) W oI (x1.dead dI) (fun a fa z=>?_) (fun i m hi z=>?_) h3 fun s' aD aE L C a b c d e' f g YW hm=>?_
  ·have:=(F1.off a fa).lv;rw[z,dI] at this;exact(aL this).elim
  ·have:=(F1.oo i m hi).1.lv;rw[z,dI] at this;exact(aL this).elim
  ·refine cE hm fun m hm=>?_
   refine da (mk _ _ _ _ a b c d e') fun bX cg x3 yQ y3 oC=>?_
   have oC:=oC C YW f
   show wpAny _ _ (assign (.Name x qD) env (.ref L)) _ _ _
   refine wpAny_assign_Name (mH nd hn (H.F.ext H.R x3) yQ y3 fun jf x4 VD EV ⟨a4,Gd,n6⟩=>?_)
   have zD:∀a,FA env a->a≠C:=fun a fa q=>by have:=(H.F.off a fa).lv;rw[q,g] at this;exact(aL this).elim
   have Ge:Off h₀ bX cg jf.heap C:=⟨oC.nf,oC.nm,oC.nb,by rw[n6.2 C (gf (zD a4 Gd))];exact oC.lv⟩
   refine⟨m,Ns.same hm (n6.2 C (gf (zD a4 Gd))),fun h5 Gf=>?_⟩
   have k5:∀b ob,b≠C->jf.heap.get? b=some ob->h5.get? b=some ob:=fun b ob hb e=>(Gf.2 b hb).trans e
   refine cA (EV.side Ge Gf) fun R5 m5=>?_
   refine wpAny_pure (wpAny_pure (q {jf with heap:=h5} _ _ _ (((aQ.eg x3).trans x4).but (t:=jf.toks) k5 g) (VD.but EV Ge k5 zD fun j l hj z=>?_) R5))
   have gP:e[j]?=some (.own l):=by
    by_cases r:j=i
    ·subst r;have:=fy hj;cases this
    ·rwa [dQ r] at hj
   have:=(H.F.oo j l gP).1.lv;rw[z,g] at this;exact(aL this).elim
theorem LL{sc:Scope}{x y:Str} {D j pos d:Pos} {i z:Nat} {g B:Ex} {a b:PySem.Expr} (hd:A.handled=none) (nd:cx.names.Nodup) (G:dg cx i x=true) (I:(cx.names[z]?==some y)=true) (J:jc cx sc y=true) (k:gD b=true)
  (m:aP w h₀ K A cx B b) (p:aP w h₀ K A (cx.comp sc) g a):dw w h₀ K A cx (.asg i (.comp g z B)) (.Assign [.Name x j] (.ListComp a [⟨.Name y D,b,[],0⟩] sc pos) d):=by
 intro env s₀ aT aU oa e st fl e' aB s φ μ E Q r H q
 obtain⟨v,c,M,N⟩:=bind_some r
 cases N
 obtain⟨o,c,O,T⟩:=bind_some M
 obtain⟨l,t,U,Y⟩:=bind_some T
 obtain⟨rs,u,h3,h4⟩:=bind_some Y
 obtain⟨rfl,rfl⟩:=br h4
 refine Bh hd nd G I J k m p O U h3 H (fun s' aD aE L x R' o ⟨a0,n,hL,hv⟩ dL=>?_) q
 refine dP (o.freeze R' x dL) fun x2 R2 mo=>?_
 exact⟨_,_,x2,R2,.lst (.inr rfl) hL (hv.mono mo),fun C hC h=>⟨fun f=>f.elim h.nf fun q=>hC q.symm,h.nm,h.nb,h.lv⟩⟩
theorem LM{sc:Scope}{x y:Str} {J k pos g:Pos} {i D:Nat} {h G:Ex} {c d:PySem.Expr} (hd:A.handled=none) (nd:cx.names.Nodup) (M:dg cx i x=true) (N:(cx.names[D]?==some y)=true) (O:jc cx sc y=true) (p:gD d=true)
  (r:aP w h₀ K A cx G d) (t:aP w h₀ K A (cx.comp sc) h c):dw w h₀ K A cx (.asg i (.hA h D G)) (.Assign [.Name x k] (.ListComp c [⟨.Name y J,d,[],0⟩] sc pos) g):=by
 intro env s₀ aT aU oa e st fl e' aB s φ μ E Q u H q
 obtain⟨v,f,T,U⟩:=bind_some u
 cases U
 obtain⟨o,f,Y,z1⟩:=bind_some T
 obtain⟨l,z,h2,z2⟩:=bind_some z1
 obtain⟨rs,B,h3,h4⟩:=bind_some z2
 refine cA (br h4) fun a b=>?_;obtain rfl:=a;obtain rfl:=b
 refine Bh hd nd M N O p r t Y h2 h3 H (fun s' aD aE L x I o ⟨a0,n,hL,hv⟩ dL=>?_) q
 refine cA (o.own I x dL (ob:= .list rs) fun mo=> .list hL (hv.mono mo) rfl) fun x2 R2=>?_
 exact⟨_,_,x2,R2,VR.obj (l:=⟨L,L⟩) (by rw[<-I.len];simp),fun C hC j=>⟨j.nf,fun m=>by
  rw[gY,dM] at m
  rcases m with m|m
  ·exact j.nm m
  ·have:C=L:=by simpa[di] using m
   exact hC this.symm,j.nb,j.lv⟩⟩
theorem FR.Dv{i:Nat}{x:Str}{L:Addr}{l:List V} {bQ:Array Value} {n:Nat} (F:FR w h₀ cx env D oa (e.set i .un) h φ μ) (hx:cx.names[i]?=some x) (rd:Rd h env x (.ref L)) (o:Off h₀ φ μ h L) (d:D L) (hL:IsL h L bQ n) (y:aJ w h φ μ l bQ.toList)
  (ap:∀(j:Nat) (m:List V),j≠i->e[j]?=some (.own m)->oa j≠L):FR w h₀ cx env D (fun j=>if j=i then L else oa j) (e.set i (.own l)) h φ μ:=by
 have un:∀{j:Nat} {r:Slot},j≠i->(e.set i (.own l))[j]?=some r->(e.set i .un)[j]?=some r:=fun q hj=>by rw[dQ q] at hj⊢;exact hj
 refine⟨F.ok,F.ns,F.cl,F.ap,F.ca,F.off,fun j v' y' hj hy hk=>?_,fun j l' y' hj hy hk=>?_,fun j l' hj=>?_,fun j j' l' m' hj gP q=>?_⟩
 ·by_cases q:j=i
  ·subst q;have:=fy hj;cases this
  ·exact F.sl j v' y' (un q hj) hy hk
 ·by_cases q:j=i
  ·subst q
   have:=fy hj
   cases this
   rw[hx] at hy;obtain rfl:=aR hy
   simp only[if_true]
   exact⟨rd,o,d,bQ,n,hL,y⟩
  ·simp only[if_neg q]
   exact F.own j l' y' (un q hj) hy hk
 ·by_cases q:j=i
  ·subst q;simp only[if_true];exact⟨o,d⟩
  ·simp only[if_neg q]
   exact F.oo j l' (un q hj)
 ·by_cases q1:j=i
  ·subst q1
   simp only[if_true,if_neg (gf q)]
   have h1:=un (gf q) gP
   rw[dQ (gf q)] at h1
   exact(ap j' m' (gf q) h1).symm
  ·by_cases q2:j'=i
   ·subst q2
    simp only[if_true,if_neg q1]
    have h1:=un q1 hj
    rw[dQ q1] at h1
    exact ap j l' q1 h1
   ·simp only[if_neg q1,if_neg q2]
    exact F.k9 j j' l' m' (un q1 hj) (un q2 gP) q
theorem Iz{i:Nat}{x:Str}{L:Addr}{l:List V} {b:Array Value} {n:Nat} {Q:Unit->Shared->Prop} (nd:cx.names.Nodup) (p:dg cx i x=true) (F:FR w h₀ cx env D oa e s.heap φ μ) (R:SR w h₀ s.heap φ μ st) (o:Off h₀ φ μ s.heap L) (d:D L) (r:IsL s.heap L b n) (y:aJ w s.heap φ μ l b.toList)
  (nf:∀a,FA env a->a≠L) (ap:∀(j:Nat) (m:List V),j≠i->e[j]?=some (.own m)->oa j≠L)
  (q:∀s' dT,Heap.SameBut env.locals s.heap s'.heap\/True->(∀a,FA env a->(s'.heap.get? a).isSome=true)->(∃a t,FA env a/\∃h',s'={s with heap:=h',toks:=t}/\Heap.SameBut a s.heap h')->dT=(fun j=>if j=i then L else oa j)->FR w h₀ cx env D dT (e.set i (.own l)) s'.heap φ μ->SR w h₀ s'.heap φ μ st->Q () s'):
  wpAny (model aF w) A (storeName env x (.ref L)) Q E s:=by
 refine cA (uK p) fun g u=>?_
 refine ux F R nd g (u.imp id fun h=>⟨h,F.ca _ h⟩) fun a h' t fa _ c z B rd fr=>?_
 have oL:Off h₀ φ μ h' L:=⟨o.nf,o.nm,o.nb,by rw[c.2 L (gf (nf a fa))];exact o.lv⟩
 have k:=FR.Dv (fr (e.set i .un) (fun j v f=>g8 f (by intro q;cases q)) (fun j l f=>g8 f (by intro q;cases q))) g rd oL d ((c.2 L (gf (nf a fa))).trans r) (y.mono B) ap
 exact q _ _ (.inr trivial) (fun a fa=>(k.off a fa).lv) ⟨a,t,fa,h',rfl,c⟩ rfl k z
theorem aQ.VE{i:Nat}{L:Addr}{l:List V} {aC:Shared} (x:aQ env oa e oa e s aC φ aD μ aE) (dL:s.heap.get? L=none) (lv:∀a,FA env a->(s'.heap.get? a).isSome=true) (hh:∃a t,FA env a/\∃h',s'={aC with heap:=h',toks:=t}/\Heap.SameBut a aC.heap h'):
  aQ env oa e (fun j=>if j=i then L else oa j) (e.set i (.own l)) s s' φ aD μ aE:=by
 refine KR hh fun a t fa h' RW hs=>?_;obtain rfl:=RW
 refine⟨fun b o h h1 h2 h3=>(hs.2 b fun q=>h2 (q▸fa)).trans (x.keep b o h h1 h2 h3),fun b hb=>?_,x.fr,x.nf,x.mu,fun j m hj=>?_,x.gens,x.os⟩
 ·by_cases q:b=a
  ·rw[q];exact lv a fa
  ·show (h'.get? b).isSome=true
   rw[hs.2 b q];exact x.live b hb
 ·by_cases q:j=i
  ·subst q;simp only[if_true];exact .inr dL
  ·simp only[if_neg q]
   rw[dQ q] at hj
   exact .inl ⟨j,m,hj,rfl⟩
theorem u6{i:Nat}{x:Str}{L:Addr}{l:List V} {c:Array Value} {n:Nat} {aC:Shared} {aH:Addr->Prop} {aI:List Loc} {b:St} {Q:Flow->Shared->Prop} (nd:cx.names.Nodup) (p:dg cx i x=true) (H:FX w h₀ cx env s₀ aT aU oa e st s φ μ) (x1:Ext s aC φ aH μ aI) (d:SR w h₀ aC.heap aH aI b)
  (o:Off h₀ aH aI aC.heap L) (h:s.heap.get? L=none) (r:IsL aC.heap L c n) (y:aJ w aC.heap aH aI l c.toList) (q:fT w h₀ cx env s₀ aT aU oa e s φ μ b .next (e.set i (.own l)) Q):wpAny (model aF w) A (storeName env x (.ref L)) (fun _=>Q .next) E aC:=by
 refine Iz nd p (H.F.ext H.R x1) d o (H.x.dead h) r y (fun a fa z=>?_) (fun j m _ t z=>?_) fun aV k _ lv u ho f g=>?_
 ·have:=(H.F.off a fa).lv;rw[z,h] at this;exact(aL this).elim
 ·have:=(H.F.oo j m t).1.lv;rw[z,h] at this;exact(aL this).elim
 ·subst ho
  exact q _ _ _ _ (aQ.VE (aQ.eg x1) h lv u) f g
theorem AG{α:Type}{c:Prop} [Decidable c] {a:α} {p:α×St} (h:(if c then pure a else fail:M α) st=some p):c/\p=(a,st):=by
 by_cases q:c
 ·rw[if_pos q] at h;refine cA (br h) fun o3 xN=>?_;obtain rfl:=o3;obtain rfl:=xN;exact⟨q,rfl⟩
 ·rw[if_neg q] at h;nomatch h
theorem JR{α:Type}{c:Prop} [Decidable c] {a:α} {p:α×St} (h:(if c then pure a else fail:M α) st=some p):c/\(pure a:M α) st=some p:=by
 by_cases q:c
 ·rw[if_pos q] at h;exact⟨q,h⟩
 ·rw[if_neg q] at h;nomatch h
inductive RX {α:Type} (e:Env) (i:Nat) (f:List V->M α) (st:St) (p:α×St):Prop
 |mk (l:List V) (hi:e[i]?=some (.own l)) (h:f l st=some p)
theorem rP{α:Type}{i:Nat}{f:List V->M α} {p:α×St} (h:(match e[i]? with|some (.own l)=>f l|_=>fail:M α) st=some p):RX e i f st p:=by
 cases a:e[i]? with
 |none=>rw[a] at h;nomatch h
 |some r=>
  rw[a] at h
  cases r with
  |own l=>exact⟨l,a,h⟩
  |_=>nomatch h
inductive VF (o:V) (m:List V) (st aB:St):Prop
 |mk (ho:o= .lst m) (hs:aB=st)
set_option tactic.hygienic true
theorem GU{o:V}{m:List V} (h:mP o st=some (m,aB)):VF o m st aB:=by
 cases o<;>try (exact(aM h).elim;done)
 rename_i l
 refine cA (AG (show(if l.length<=1048576 then pure l else fail:M (List V)) st=some (m,aB) from h)) fun _ c=>?_
 refine cA (gg c) fun a b=>?_;obtain rfl:=a;obtain rfl:=b;exact⟨rfl,rfl⟩
inductive VG (w:World) (h₀:Heap) (cx:Cx) (env:PySem.Env) (s₀:Shared) (aT:Addr->Prop) (aU:List Loc) (oa:Nat->Addr) (e:Env) (s:Shared) (φ:Addr->Prop) (μ:List Loc) (st:St) (i:Nat) (l m:List V) (Q:Flow->Shared->Prop):Prop
 |mk (hz:l.length+m.length<=1048576) (q:fT w h₀ cx env s₀ aT aU oa e s φ μ st .next (e.set i (.own (l++m))) Q)
theorem fT.zE{i:Nat}{l m:List V} {fl:Fl} {e':Env} {Q:Flow->Shared->Prop} (q:fT w h₀ cx env s₀ aT aU oa e s φ μ aB fl e' Q) (h:(grow l m>>=fun r=>pure (Fl.next,e.set i (.own r))) st=some ((fl,e'),aB)):VG w h₀ cx env s₀ aT aU oa e s φ μ st i l m Q:=by
 obtain⟨r,z,D,E⟩:=bind_some h
 refine cA (AG (show(if l.length+m.length<=1048576 then pure (l++m) else fail:M (List V)) st=some (r,z) from D)) fun hz H=>?_
 refine cA (gg H) fun A C=>?_;obtain rfl:=A;obtain rfl:=C
 exact⟨hz,q.ret E⟩
theorem HK{o:V}{x:Unit}{u:Value} (h:oW o st=some (x,aB)) (R:SR w h₀ s.heap φ μ st) (y:VR w s.heap φ μ o u):aB=st/\∃b,u= .ref b/\s.TypeIs u "list"/\∃ob,s.heap.get? b=some ob/\ob.dict=none:=by
 cases o<;>try (exact(aM h).elim;done)
 obtain⟨ob,e,f,g⟩:=bind_some (show(cU _>>=fun o=>(match o with| .list _=>pure ()|_=>fail:M Unit)) st=some (x,aB) from h)
 refine cA (oz f) fun d f=>?_;obtain rfl:=d
 refine aN (R.obs _ _ f) fun l hl r=>?_
 obtain⟨_,hm,rfl⟩:=VR.inv y
 rw[hl] at hm;obtain rfl:=aR hm
 cases ob with
 |list j=>
  refine cA (br g) fun a c=>?_;obtain rfl:=a;obtain rfl:=c
  cases r with
  |list i _ _=>exact⟨rfl,_,rfl,⟨_,i,rfl⟩,_,i,rfl⟩
 |_=>exact(aM g).elim
theorem mJ{i:Nat}{x:Str} (hl:eN cx i x=true):cx.names[i]?=some x/\gL (cx.kd x)=true:=⟨beq_iff_eq.mp (a1 (a1 (a1 hl))),a2 (a1 (a1 hl))⟩
theorem LN{i:Nat}{x:Str}{g pos pl:Pos} {l:List Ex} {r:List PySem.Expr} (nd:cx.names.Nodup) (h:dg cx i x=true) (a:cO w h₀ K A cx l r) (hz:r.length<=1000):dw w h₀ K A cx (.i4 i l) (.Assign [.Name x g] (.List r pl) pos):=by
 intro env s₀ aT aU oa e st fl e' aB s φ μ E Q c H q
 obtain⟨vs,d,f,j⟩:=bind_some c
 replace q:=q.ret j
 have hl:=q5 a f
 refine wpAny_Assign_Name (wpAny_List (oD a f H.F H.R H.ph fun k aC aH aI x1 b y=>⟨?_,?_⟩)) rfl
 ·rw[sizeLine_eq,<-y.length];exact sG hz hl
 ·refine cA (iO b {cls:= .type "list",data:= .seq k.toArray}) fun x2 m=>?_
  exact u6 nd h H (x1.trans x2) m (iQ b rfl) (x1.dead (eR _)) (eE _ rfl) (y.mono (x2.mono b)) q
theorem LO{i:Nat}{x f:Str} {r t v pos:Pos} {m:Ex} {p:PySem.Expr} (G:ed w h₀ mg mb) (nd:cx.names.Nodup) (z:dg cx i x=true) (hf:eG cx f=true) (B:cW f "list"=true) (a:cO w h₀ K A cx [m] [p]):
  dw w h₀ K A cx (.ku i m) (.Assign [.Name x r] (.Call (.Name f t) [p] [] v) pos):=by
 intro env s₀ aT aU oa e st fl e' aB s φ μ E Q d H q
 obtain⟨o,g,C,D⟩:=bind_some d
 obtain⟨l,h,I,J⟩:=bind_some D
 replace q:=q.ret J
 refine dP (jZ I) fun c hz j=>?_;obtain rfl:=c
 refine wpAny_Assign_Name ?_ rfl
 refine u1 G a hf B (by decide) (id:="list") rfl C H.F H.R H.ph fun u aC aH aI x1 b y=>BH hz j b y fun h' k n L ho j=>?_
 refine cA (b.pure (s':={aC with heap:=h'}) (aD:=aH) L (fun _ f=>f) (fun _ f n=>absurd f n) rfl rfl) fun x2 M=>?_
 have oL:Off h₀ aH aI h' aC.heap.objs.size:=by
  have:=iQ b (o:={cls:= .type "list",data:= .seq k}) rfl
  exact⟨this.nf,this.nm,this.nb,by rw[show h'.get? _=_ from ho];rfl⟩
 exact u6 nd z H (x1.trans x2) M oL (x1.dead (eR _)) ho (j.mono (x2.mono b)) q
theorem LP{i:Nat}{x y:Str} {C D G pos:Pos} {c:Ex} {t:PySem.Expr} (nd:cx.names.Nodup) (I:dg cx i x=true) (hl:eN cx i y=true) (ih:aP w h₀ K A cx c t):
  dw w h₀ K A cx (.kz i c) (.Assign [.Name x C] (.BinOp (.Name y D) .Add t G) pos):=by
 intro env s₀ aT aU oa e st fl e' aB s φ μ E Q b H q
 obtain⟨l,J,b⟩:=rP (f:=fun l=>aG K e c>>=fun o=>mP o>>=fun m=>grow l m>>=fun r=>pure (Fl.next,e.set i (.own r))) b
 obtain⟨o,g,L,M⟩:=bind_some b
 obtain⟨m,h,N,O⟩:=bind_some M
 obtain⟨rfl,rfl⟩:=GU N
 obtain⟨hz,q⟩:=q.zE O
 refine wpAny_Assign_Name (wpAny_BinOp (mG hl J H.F fun oo dd j n ho v=>?_)) rfl
 refine ih env _ oa e _ _ _ s φ μ E _ L H.F H.R H.ph fun u aC aH aI x1 a z=>?_
 obtain⟨T,c⟩:=oo.ext x1
 have k:=v.mono (x1.mono H.R)
 obtain⟨f,p,d⟩:=VR.inv z
 have l1:=v.length
 have B:=d.length
 simp only[dU] at l1 B
 refine P.add_list (c.trans ho) p ?_ (by rw[sizeLine_eq];exact zl hz l1 B)
 obtain⟨x2,U⟩:=iO a {cls:= .type "list",data:= .seq (j++_)}
 have m2:=x2.mono a
 exact u6 nd I H (x1.trans x2) U (iQ a rfl) (x1.dead (eR _)) (eE _ rfl) (by rw[sy];exact(k.mono m2).append (d.mono m2)) q
theorem u7{i:Nat}{x:Str}{l l':List V} {bQ:Array Value} {n t:Nat} (hx:cx.names[i]?=some x) (hk:gL (cx.kd x)=true) (F:FR w h₀ cx env D oa e s.heap φ μ) (R:SR w h₀ s.heap φ μ st) (hi:e[i]?=some (.own l)) (hs:Heap.SameBut (oa i) s.heap h') (hL:IsL h' (oa i) bQ n)
  (hv:cN s.heap h' φ φ μ μ->aJ w h' φ μ l' bQ.toList):
  aQ env oa e oa (e.set i (.own l')) s {s with heap:=h',toks:=t} φ φ μ μ/\FR w h₀ cx env D oa (e.set i (.own l')) h' φ μ/\SR w h₀ h' φ μ st:=by
 refine oN (F.own i l x hi hx hk) fun rd o d aaf n0 Gg _=>?_
 refine cA (R.side o hs) fun R' mo=>?_
 have k:∀b ob,b≠oa i->s.heap.get? b=some ob->h'.get? b=some ob:=fun b ob hb e=>(hs.2 b hb).trans e
 have lv:(h'.get? (oa i)).isSome=true:=by rw[show h'.get? _=_ from hL];rfl
 have nf:∀a,FA env a->a≠oa i:=by
  rintro a (rfl|⟨z,hz⟩) q
  ·refine By F.ns fun m o es ep ho hd _=>?_
   rw[q,show s.heap.get? _=_ from Gg] at ho
   obtain rfl:=aR ho;cases hd
  ·refine gp (F.cl z a hz) fun v' o ho hd=>?_
   rw[q,show s.heap.get? _=_ from Gg] at ho
   obtain rfl:=aR ho;cases hd
 refine⟨⟨fun b ob hb _ _ h3=>k b ob (h3 i l hi) hb,fun b hb=>?_,fun _ f=>f,fun _ f n=>absurd f n,⟨[],by simp,by simp[di]⟩,fun j m hj=>?_,rfl,rfl⟩,?_,R'⟩
 ·by_cases q:b=oa i
  ·rw[q];exact lv
  ·show (h'.get? b).isSome=true
   rw[hs.2 b q];exact hb
 ·by_cases q:j=i
  ·subst q;exact .inl ⟨j,l,hi,rfl⟩
  ·rw[dQ q] at hj;exact .inl ⟨j,m,hj,rfl⟩
 ·have F1:FR w h₀ cx env D oa (e.set i .un) s.heap φ μ:=F.weak (fun j v hj=>(g8 hj (by intro q;cases q)).2) fun j l hj=>(g8 hj (by intro q;cases q)).2
  have ap:∀(j:Nat) (m:List V),j≠i->e[j]?=some (.own m)->oa j≠oa i:=fun j m q hj=>F.k9 j i m l hj hi q
  have F2:FR w h₀ cx env D oa (e.set i .un) h' φ μ:=F1.but R o k nf fun j m hj=>by
   refine cA (g8 hj (by intro q;cases q)) fun q1 q2=>?_
   exact ap j m q1 q2
  have F3:=F2.Dv hx (rd.same fun a fa=>hs.2 a (nf a fa)) ⟨o.nf,o.nm,o.nb,lv⟩ d hL (hv mo) ap
  have e1:(fun j=>if j=i then oa i else oa j)=oa:=by
   funext j;by_cases q:j=i
   ·subst q;simp
   ·simp[q]
  rwa [e1] at F3
theorem LQ{i:Nat}{x:Str}{M N pos:Pos} {k1 G:Ex} {I a:PySem.Expr} (hl:eN cx i x=true) (O:fA a=true) (p:aP w h₀ K A cx k1 I) (r:aP w h₀ K A cx G a):
  dw w h₀ K A cx (.jL i k1 G) (.Assign [.Subscript (.Name x M) I N] a pos):=by
 intro env s₀ aT aU oa e st fl e' aB s φ μ E Q B H q
 obtain⟨v,g,T,U⟩:=bind_some B
 obtain⟨j,C,Y,z2⟩:=bind_some (show(aG K e k1>>=fun kv=>lift (natOf kv)>>=fun j=>_) g=some ((fl,e'),aB) from U)
 obtain⟨n,D,h3,h⟩:=bind_some z2
 refine cA (cX h3) fun c g3=>?_;obtain rfl:=c
 cases ow g3
 obtain⟨l,J,h⟩:=rP h
 refine cA (JR h) fun o h=>?_
 replace q:=q.ret h
 refine wpAny_Assign_Subscript (r env _ oa e _ _ _ s φ μ E _ T H.F H.R H.ph fun u aC aH aI x1 b y=>?_) (lE O)
 have H1:=H.ext x1 b
 refine mG hl J H1.F fun oo dd a0 m ho hv=>?_
 refine p env _ oa e _ _ _ aC aH aI E _ Y H1.F b H1.ph fun t aV bX cg x2 f z=>?_
 have H2:=H1.ext x2 f
 refine cA (oo.ext x2) fun a3 e2=>?_
 have k:=hv.mono (x2.mono b)
 have y2:=y.mono (x2.mono b)
 refine cE (VR.inv z) fun _ d=>?_;obtain rfl:=d
 have L:=k.length
 simp only[dU] at L
 refine Ax (e2.trans ho) (hH n) (by have:=o.2;have:(Int.ofNat n)=(n:Int):=rfl;exact PW o this) (by have:=o.1;have:(Int.ofNat n)=(n:Int):=rfl;exact Ue o L this) fun h' n' hi hs=>?_
 refine dP (u7 (t:=aV.toks) (l':=l.set n v) (mJ hl).1 (mJ hl).2 H2.F f J hs hi fun mo=>(k.toSet y2).mono mo) fun x3 F3 R3=>?_
 exact q _ _ _ _ ((aQ.eg (x1.trans x2)).trans x3) F3 R3
theorem Hg:PlainAttrs "list":=PySem.F.plainAttrs_list
theorem uB{g i:PySem.Expr} {name:Str} {id:String} {l m:Pos} {Q:Value->Shared->Prop} (n:gE g=true) (ns:notStar i=true) (hl:(l.endLine==m.line)=true) (d:PySem.Slot "list" name id) (o:typeOf (.builtin id)=pure (.type "method_descriptor"))
  (h:wpAny (model aF w) A (eval g env) (fun u aC=>∃a,u= .ref a/\aC.TypeIs u "list"/\(∃ob,aC.heap.get? a=some ob/\ob.dict=none)/\wpAny (model aF w) A (eval i env) (fun t aV=>wpAny (model aF w) A (call (.builtin id) [u,t]) Q E aV) E aC) E s):
  wpAny (model aF w) A (eval (.Call (.Attribute g name l) [i] [] m) env) Q E s:=by
 refine methodCall_KW (wpAny_mono h (fun u aC e=>?_) fun _ _ x=>x) (rh n (by rw[gB ns];rfl) (by simp) hl)
 refine jD e fun a b p c q=>?_;obtain rfl:=b;obtain⟨ob,j,hd⟩:=c
 refine getMethod_builtin p Hg d o (fun r k=>by obtain rfl:=pJ k;exact⟨ob,j,hd⟩) ?_
 rw[gB ns]
 exact callWith_builtin rfl (evalArgs_plain (rest:=[]) (spliced_cons (wpAny_mono q (fun t aV f=>spliced_nil f) fun _ _ x=>x)))
theorem LR{i:Nat}{x a:Str} {r h j pos:Pos} {k:Ex} {b:PySem.Expr} (hl:eN cx i x=true) (z:cW a "append"=true) (B:(h.endLine==j.line)=true) (ns:notStar b=true) (ih:aP w h₀ K A cx k b):
  dw w h₀ K A cx (.i5 i k) (.Expr (.Call (.Attribute (.Name x r) a h) [b] [] j) pos):=by
 intro env s₀ aT aU oa e st fl e' aB s φ μ E Q d H q
 obtain⟨v,f,C,D⟩:=bind_some d
 obtain⟨l,n,G⟩:=rP D
 obtain⟨hz,q⟩:=q.zE (m:=[v]) G
 cases g7 z
 refine wpAny_Expr_any (uB rfl ns B PySem.F.slot_list_append PySem.F.type_list_append (mG hl n H.F fun oo dd I m ho o=>⟨_,rfl,⟨_,ho,rfl⟩,⟨_,ho,rfl⟩,?_⟩)) (by unfold interactive;rw[H.F.ok.fn];rfl) rfl
 refine ih env _ oa e _ _ _ s φ μ E _ C H.F H.R H.ph fun u aC aH aI x1 c y=>?_
 have H1:=H.ext x1 c
 refine cA (oo.ext x1) fun J L=>?_
 have g:=o.mono (x1.mono H.R)
 have p:=o.length
 simp only[dU] at p
 refine append_list (L.trans ho) (Ug hz p) fun h' Y M N=>?_
 refine dP (u7 (t:=aC.toks) (l':=l++[v]) (mJ hl).1 (mJ hl).2 H1.F c n N M fun O=>(g.vV y).mono O) fun x3 T U=>?_
 exact q _ _ _ _ ((aQ.eg x1).trans x3) T U
theorem LU{i:Nat}{x a:Str} {T G I pos:Pos} {n:Ex} {c:PySem.Expr} (hl:eN cx i x=true) (U:cW a "extend"=true) (Y:(G.endLine==I.line)=true) (ns:notStar c=true) (ih:aP w h₀ K A cx n c):
  dw w h₀ K A cx (.kB i n) (.Expr (.Call (.Attribute (.Name x T) a G) [c] [] I) pos):=by
 intro env s₀ aT aU oa e st fl e' aB s φ μ E Q o H q
 obtain⟨v,p,h1,z1⟩:=bind_some (show(aG K e n>>=fun v=>dz v>>=fun x=>_) st=some ((fl,e'),aB) from o)
 obtain⟨m,r,h2,z⟩:=bind_some z1
 obtain⟨rfl,_,B⟩:=jZ h2
 obtain⟨l,J,z⟩:=rP z
 obtain⟨hz,q⟩:=q.zE z
 cases g7 U
 refine wpAny_Expr_any (uB rfl ns Y PySem.F.slot_list_extend PySem.F.type_list_extend (mG hl J H.F fun oo dd a0 k ho L=>⟨_,rfl,⟨_,ho,rfl⟩,⟨_,ho,rfl⟩,?_⟩)) (by unfold interactive;rw[H.F.ok.fn];rfl) rfl
 refine ih env _ oa e _ _ _ s φ μ E _ h1 H.F H.R H.ph fun u aC aH aI x1 g y=>?_
 have H1:=H.ext x1 g
 obtain⟨a3,e1⟩:=oo.ext x1
 have C:=L.mono (x1.mono H.R)
 have M:=L.length
 simp only[dU] at M
 have go:∀{b:Addr} {d:Array Value} {D:Nat},u= .ref b->(IsL aC.heap b d D\/IsT aC.heap b d D)->aJ w aC.heap aH aI m d.toList->wpAny (model aF w) A (call (.builtin "list.extend") [.ref (oa i),u]) (fun _=>Q .next) E aC:=by
  intro b d D hu j h
  subst hu
  have N:=h.length
  simp only[dU] at N
  refine extend_list (e1.trans ho) j (Uh hz M N) fun h' n' hi hs=>?_
  obtain⟨x3,F3,R3⟩:=u7 (t:=aC.toks) (l':=l++m) (mJ hl).1 (mJ hl).2 H1.F g J hs hi fun O=>by rw[sy];exact(C.mono O).append (h.mono O)
  exact q _ _ _ _ ((aQ.eg x1).trans x3) F3 R3
 rcases B with rfl|rfl
 ·cases y with
  |tup f j h=>exact go rfl (.inr j) h
 ·cases y with
  |lst f j h=>exact go rfl (.inl j) h
theorem RY{D G:Ex} {j c:PySem.Expr} {a:Str} {I J pos:Pos} (M:gE j=true) (N:cW a "append"=true) (O:(I.endLine==J.line)=true) (ns:notStar c=true) (k:aP w h₀ K A cx D j) (l:aP w h₀ K A cx G c):
  dw w h₀ K A cx (.app D G) (.Expr (.Call (.Attribute j a I) [c] [] J) pos):=by
 intro env s₀ aT aU oa e st fl e' aB s φ μ E Q m H q
 obtain⟨o,n,T,U⟩:=bind_some m
 obtain⟨_,p,Y,z2⟩:=bind_some U
 obtain⟨v,r,h3,z3⟩:=bind_some z2
 obtain⟨_,B,h4,h5⟩:=bind_some z3
 replace q:=q.ret h5
 cases g7 N
 refine wpAny_Expr_any (uB M ns O PySem.F.slot_list_append PySem.F.type_list_append (k env _ oa e _ _ _ s φ μ E _ T H.F H.R H.ph fun u aC aH aI x1 d y=>?_)) (by unfold interactive;rw[H.F.ok.fn];rfl) rfl
 have H1:=H.ext x1 d
 refine QR (HK Y d y) fun f b g hT C=>?_;obtain rfl:=f;obtain rfl:=g
 refine⟨b,rfl,hT,C,?_⟩
 refine l env _ oa e _ _ _ aC aH aI E _ h3 H1.F d H1.ph fun t aV bX cg x2 h z=>?_
 refine Ha h4 h (y.mono (x2.mono d)) z fun L x3 i=>?_
 have x:=(x1.trans x2).trans x3
 exact q _ _ _ _ (aQ.eg x) (H.F.ext H.R x) i
structure LS (w:World) (h₀:Heap) (cx:Cx) (env:PySem.Env) (s₀:Shared) (I:Addr) (oa:Nat->Addr) (e:Env) (st:St) (s:Shared) (φ:Addr->Prop) (μ:List Loc):Prop where
 F:FR w h₀ cx env (DD s₀) oa e s.heap φ μ
 R:SR w h₀ s.heap φ μ st
 oI:Off h₀ φ μ s.heap I
 hO:∀(j:Nat) (m:List V),e[j]?=some (.own m)->oa j≠I
theorem LS.kf{I:Addr} (V:LS w h₀ cx env s₀ I oa e st s φ μ) (y:aQ env oa e dT e' s s' φ aD μ aE):∀b,φ b->∀ob,s.heap.get? b=some ob->s'.heap.get? b=some ob:=
 fun b f ob e=>y.keep b ob e (fun m=>(V.R.off b m).1 f) (fun fa=>(V.F.off b fa).nf f) fun j m z q=>(V.F.oo j m z).1.nf (q▸f)
theorem LS.mono{I:Addr} (V:LS w h₀ cx env s₀ I oa e st s φ μ) (y:aQ env oa e dT e' s s' φ aD μ aE):cN s.heap s'.heap φ aD μ aE:=
 ⟨V.kf y,y.fr,fun i l e=>y.mu.elim fun q h=>by rw[h.1,fG (et.mp e).1];exact e⟩
theorem LS.step{I:Addr}{z:St} (V:LS w h₀ cx env s₀ I oa e st s φ μ) (y:aQ env oa e dT e' s s' φ aD μ aE) (D:FR w h₀ cx env (DD s₀) dT e' s'.heap aD aE) (E:SR w h₀ s'.heap aD aE z):LS w h₀ cx env s₀ I dT e' z s' aD aE:=by
 have h:=V.oI.lv
 refine⟨D,E,⟨fun f=>?_,fun m=>?_,V.oI.nb,y.live _ h⟩,fun j m H q=>?_⟩
 ·rw[y.nf I f V.oI.nf] at h;exact(aL h).elim
 ·refine aN y.mu fun Q A J=>?_
  rw[A,gY,dM] at m
  rcases m with m|m
  ·exact V.oI.nm m
  ·rw[J _ m] at h;exact(aL h).elim
 ·rcases y.own j m H with⟨L,O,C,A⟩|d
  ·exact V.hO L O C (A.symm.trans q)
  ·rw[<-q,d] at h;exact(aL h).elim
theorem LS.frame{I:Addr}{fp:List Addr} {n i:Nat} {P:Nat->Value->Prop} {mf:Nat->Heap->Prop} (V:LS w h₀ cx env s₀ I oa e st s φ μ) (y:aQ env oa e dT e' s s' φ aD μ aE) (W:Walks aF w A I fp [I] n P mf) (zA:∀a,FA env a->a≠I) (qA:∀b∈fp,b≠I->φ b) (hs:mf i s.heap):mf i s'.heap:=
 W.frame _ _ _ hs fun b hb ob e=>by
  by_cases r:b=I
  ·subst r;exact y.keep _ ob e V.oI.nm (fun fa=>zA _ fa rfl) fun j m hj q=>V.hO j m hj q.symm
  ·exact V.kf y b (qA b hb r) ob e
inductive VH (w:World) (h₀:Heap) (cx:Cx) (env:PySem.Env) (s₀:Shared) (I:Addr) (body:V->Env->M (Fl×Env)) (l:List V) (mf:Nat->Heap->Prop) (r:(Fl×Env)×St) (oa:Nat->Addr) (e:Env) (s:Shared) (aD:Addr->Prop) (aE:List Loc) (aC:Shared) (φ:Addr->Prop) (μ:List Loc) (n:Nat) (aV:Shared):Prop
 |mk (i:Nat) (bX:Addr->Prop) (cg:List Loc) (Dw:Nat->Addr) (yR:Env) (iV:St) (hn:n=l.length+1-i) (hi:i<=l.length) (cZ:loop body (l.drop i) yR iV=some r) (x:aQ env oa e Dw yR s aV aD bX aE cg) (V:LS w h₀ cx env s₀ I Dw yR iV aV bX cg) (tM:mf i aV.heap) (mo:cN aC.heap aV.heap φ bX μ cg)
inductive YX (body:V->Env->M (Fl×Env)) (z:V) (l:List V) (e:Env) (st:St) (r:(Fl×Env)×St):Prop
 |mk (fl:Fl) (e4:Env) (Dx:St) (g:body z e st=some ((fl,e4),Dx)) (k:(match fl with| .next=>loop body l e4|_=>pure (fl,e4):M (Fl×Env)) Dx=some r)
theorem HL{body:V->Env->M (Fl×Env)} {z:V} {l:List V} {r:(Fl×Env)×St} (h:loop body (z::l) e st=some r):YX body z l e st r:=by
 obtain⟨c,rs⟩:=r
 obtain⟨⟨fl,d⟩,a,g,k⟩:=bind_some (show(body z e>>=fun x=>(match x with|(.next,b)=>loop body l b|x=>pure x:M (Fl×Env))) st=some (c,rs) from h)
 refine⟨fl,d,a,g,?_⟩
 cases fl<;>exact k
theorem uL{t:PySem.Expr}{b:List Sm} {b':List PySem.Stmt} {body:V->Env->M (Fl×Env)} {Bd:V->Env->Env->Prop} {I:Addr} {l:List V} {fp:List Addr} {P:Nat->Value->Prop} {St:Nat->Heap->Prop} {fl:Fl} {Q:Flow->Shared->Prop} {aC:Shared} {c:Mine.St}
  (N:∀z p c r,body z p c=some r->∃d,Bd z p d/\cM K d b c=some r)
  (ta:∀(z:V) (p d:Env) (x:Nat->Addr) (aC:Shared) (c:Mine.St) (aH:Addr->Prop) (aI:List Loc) (v:Value) (E:Value->Shared->Prop) (Q':Unit->Shared->Prop),Bd z p d->FR w h₀ cx env (DD s₀) x p aC.heap aH aI->SR w h₀ aC.heap aH aI c->VR w aC.heap aH aI z v->
   (∀aV,aQ env x p x d aC aV aH aH aI aI->FR w h₀ cx env (DD s₀) x d aV.heap aH aI->SR w h₀ aV.heap aH aI c->Q' () aV)->wpAny (model aF w) A (assign t env v) Q' E aC)
  (ib:jg w h₀ K A cx b b') (W:oQ w A aC φ μ I l fp P St) (H:FX w h₀ cx env s₀ aT aU oa e st s aD aE) (x1:Ext s aC aD φ aE μ) (a0:SR w h₀ aC.heap φ μ c) (oI:Off h₀ φ μ aC.heap I) (dI:s.heap.get? I=none) (B:loop body l e c=some ((fl,e'),aB))
  (q:fT w h₀ cx env s₀ aT aU oa e s aD aE aB fl e' Q) (Er:Value->Shared->Prop):
  codeAny (model aF w) A (.forLoop t (.ref I) b' [] env) (fun r s'=>match r with| .ok f=>Q f s'| .error e=>Er e s') aC:=by
 have L:∀a,FA env a->a≠I:=fun a fa z=>by have:=(H.F.off a fa).lv;rw[z,dI] at this;exact(aL this).elim
 refine codeAny_forLoop_any (VH w h₀ cx env s₀ I body l St ((fl,e'),aB) oa e s aD aE aC φ μ) ?_ (l.length+1)
  ⟨0,φ,μ,oa,e,c,rfl,dt _,B,aQ.eg x1,⟨H.F.ext H.R x1,a0,oI,fun j m hj z=>by have:=(H.F.oo j m hj).1.lv;rw[z,dI] at this;exact(aL this).elim⟩,W.md,⟨fun _ _ _ e=>e,fun _ f=>f,fun _ _ e=>e⟩⟩
 intro n aV Z
 obtain⟨i,bX,cg,g,d,h,hn,hi,B,x2,y,a3,mo⟩:=Z
 rcases kl i l.length with C|a6
 ·rw[hn]
  refine W.walk.item i aV _ _ C a3 fun v o tk hp D k=>?_
  have O:∀b ob,b≠I->aV.heap.get? b=some ob->o.get? b=some ob:=fun b ob N=>k b ob (by simpa using N)
  have r3:=y.R.but y.oI O
  have x3:aQ env oa e g d s {aV with heap:=o,toks:=tk} aD bX aE cg:=x2.but O dI
  have V3:LS w h₀ cx env s₀ I g d h {aV with heap:=o,toks:=tk} bX cg:=⟨y.F.but y.R y.oI O L y.hO,r3.1,⟨y.oI.nf,y.oI.nm,y.oI.nb,W.lv _ _ D⟩,y.hO⟩
  refine aN (W.val i v C hp) fun z a7 a8=>?_
  rw[show l.drop i=z::l.drop (i+1) from(et.mp a7).2▸wo C] at B
  obtain⟨a9,e4,G,g1,g2⟩:=HL B
  refine aN (N z d h _ g1) fun e3 aa g3=>?_
  refine W.go (i+1) {aV with heap:=o,toks:=tk} t v _ _ D ?_
  refine ta z d e3 g {aV with heap:=o,toks:=tk} h bX cg v _ _ aa V3.F V3.R ((a8 aV.heap bX cg mo).mono r3.2) fun J x4 F4 R4=>?_
  have a4:∀b∈fp,b≠I->bX b:=fun b N q=>mo.fr b ((W.fz b N).resolve_left q)
  have V4:=V3.step x4 F4 R4
  have a5:=V3.frame x4 W.walk L a4 D
  have H4:FX w h₀ cx env s₀ aT aU g e3 h J bX cg:=H.step (x3.trans x4) F4 R4
  cases a9 with
  |ret u=>
   cases g2
   exact ib env s₀ aT aU g e3 h (.ret u) _ _ J bX cg _ _ g3 H4 q
  |next=>
   refine ib env s₀ aT aU g e3 h .next e4 G J bX cg _ _ g3 H4 fun ac T U Y x5 F5 R5=>?_
   exact⟨l.length+1- (i+1),by exact Eb C,i+1,T,U,Y,e4,G,rfl,C,g2,(x3.trans x4).trans x5,V4.step x5 F5 R5,V4.frame x5 W.walk L a4 a5,((mo.tr r3.2).tr (V3.mono x4)).tr (V4.mono x5)⟩
 ·have ab:i=l.length:=hF hi a6
  subst ab
  refine W.walk.done aV _ _ a3 fun o tk k=>?_
  have O:∀b ob,b≠I->aV.heap.get? b=some ob->o.get? b=some ob:=fun b ob N=>k b ob (by simpa using N)
  refine cA (y.R.but y.oI O) fun R3 m3=>?_
  rw[List.drop_length] at B
  cases B
  exact wpAny_execs_nil (q _ _ _ _ (x2.but O dI) (y.F.but y.R y.oI O L y.hO) R3)
theorem BL{x:Nat}{y:Str}{h:Pos} (nd:cx.names.Nodup) (i:dg cx x y=true):∀(z:V) (c d:Env) (a:Nat->Addr) (aC:Shared) (b:Mine.St) (aH:Addr->Prop) (aI:List Loc) (v:Value) (E:Value->Shared->Prop) (g:Unit->Shared->Prop),d=c.set x (.v z)->FR w h₀ cx env (DD s₀) a c aC.heap aH aI->SR w h₀ aC.heap aH aI b->VR w aC.heap aH aI z v->
   (∀aV,aQ env a c a d aC aV aH aH aI aI->FR w h₀ cx env (DD s₀) a d aV.heap aH aI->SR w h₀ aV.heap aH aI b->g () aV)->wpAny (model aF w) A (assign (.Name y h) env v) g E aC:=by
 rintro z c d a aC b aH aI v E g rfl F R j q
 exact wpAny_assign_Name (mH nd i F R j fun aV x2 e f _=>q aV x2 e f)
theorem LV{x:Nat}{k:Ex}{b:List Sm} {y:Str} {t pos:Pos} {d:PySem.Expr} {p:List PySem.Stmt} (hd:A.handled=none) (nd:cx.names.Nodup) (B:dg cx x y=true) (C:gD d=true) (ih:aP w h₀ K A cx k d) (D:jg w h₀ K A cx b p):
  dw w h₀ K A cx (.dh x k b) (.For (.Name y t) d p [] pos):=by
 intro env s₀ aT aU oa e st fl e' aB s φ μ E Q m H q
 obtain⟨o,f,G,J⟩:=bind_some (show(aG K e k>>=fun o=>dz o>>=fun l=>_) st=some ((fl,e'),aB) from m)
 obtain⟨l,n,L,M⟩:=bind_some J
 refine dP (jZ L) fun a hz N=>?_;obtain rfl:=a
 refine wpAny_For (ih env _ oa e _ _ _ s φ μ E _ G H.F H.R H.ph fun u aC aH aI x1 h O=>?_) (fun x=>qT C x)
 refine rm hd hz N h O fun I U P St aV W T x2 i oI=>?_
 exact uL (Bd:=fun z c j=>j=c.set x (.v z)) (fun z c f r g=>⟨_,rfl,g⟩) (BL nd B) D W H (x1.trans x2) i oI (x1.dead T) M q _
theorem LX{x:Nat}{m:Ex}{b:List Sm} {y r:Str} {B C D pos:Pos} {f:PySem.Expr} {u:List PySem.Stmt} (G:ed w h₀ mg mb) (hd:A.handled=none) (nd:cx.names.Nodup) (J:dg cx x y=true) (hg:eG cx r=true) (L:cW r "range"=true) (a:cO w h₀ K A cx [m] [f]) (M:jg w h₀ K A cx b u):
  dw w h₀ K A cx (.forR x m b) (.For (.Name y B) (.Call (.Name r C) [f] [] D) u [] pos):=by
 intro env s₀ aT aU oa e st fl e' aB s φ μ E Q n H q
 obtain⟨o,d,N,p⟩:=bind_some (show(aG K e m>>=fun o=>lift ((natOf o).bind fun k=>if k<=1000 then some k else none)>>=fun l=>_) st=some ((fl,e'),aB) from n)
 obtain⟨k,t,O,T⟩:=bind_some p
 obtain⟨rfl,rfl,hz⟩:=Ay O
 refine wpAny_For ?_ (fun _=>rfl)
 cases g7 L
 refine wpAny_Call_Name_kw (lx G H.F.ok H.R (iP hg).1 (by decide) ?_)
 rw[show jW "range"= .type "range" from rfl]
 refine sE (mC a).1 (mD a (ri N) H.F H.R H.ph fun us aC aH aI x1 h z=>?_)
 obtain⟨_,_,p,U,rfl⟩:=aJ.inv z
 cases U
 obtain⟨_,rfl⟩:=VR.inv p
 refine Aj hd hz h fun I fp P St aV W Y x2 i oI=>?_
 exact uL (Bd:=fun z c j=>j=c.set x (.v z)) (fun z c d r g=>⟨_,rfl,g⟩) (BL nd J) M W H (x1.trans x2) i oI (x1.dead Y) T q _
inductive ie (cx:Cx) (env:PySem.Env) (A:Around) (w:World):List Nat->List (Value->Sem Unit)->Prop
 |nil:ie cx env A w [] []
 |cons {i:Nat} {x:Str} {t:Value->Sem Unit} {is:List Nat} {ts:List (Value->Sem Unit)}:dg cx i x=true->(∀v (E:Value->Shared->Prop) (Q:Unit->Shared->Prop) s,wpAny (model aF w) A (storeName env x v) Q E s->wpAny (model aF w) A (t v) Q E s)->ie cx env A w is ts->ie cx env A w (i::is) (t::ts)
theorem AH (nd:cx.names.Nodup) {is:List Nat} {ts:List (Value->Sem Unit)} (n:ie cx env A w is ts):∀{vs:List V} {j:List Value} {e e':Env} {s:Shared} {Q:Unit->Shared->Prop},aJ w s.heap φ μ vs j->iR is vs e=some e'->FR w h₀ cx env D oa e s.heap φ μ->SR w h₀ s.heap φ μ st->
  (∀s',aQ env oa e oa e' s s' φ φ μ μ->FR w h₀ cx env D oa e' s'.heap φ μ->SR w h₀ s'.heap φ μ st->Q () s')->wpAny (model aF w) A (assignInOrder ts j) Q E s:=by
 induction n with
 |nil=>
  intro vs j e e' s Q y h F R q
  cases y with
  |nil=>obtain rfl:=aR h;exact wpAny_pure (q _ (aQ.eg Ext.kH) F R)
  |cons _ _=>exact(aM h).elim
 |@cons i x t is ts k l _ ih=>
  intro vs j e e' s Q y h F R q
  cases y with
  |nil=>exact(aM h).elim
  |cons m o=>
  change iR is _ _=_ at h
  refine wpAny_bind (wpAny_holding (l _ _ _ _ (mH nd k F R m fun aV x2 b c ⟨a,fa,p⟩=>?_)))
  obtain⟨_,r⟩:=R.side (F.off a fa) p
  exact ih (o.mono r) h b c fun d x3 f g=>q d (x2.trans x3) f g
inductive Tg (cx:Cx):List Nat->List PySem.Expr->Prop
 |nil:Tg cx [] []
 |cons {i:Nat} {is:List Nat} {x:Str} {p:Pos} {ts:List PySem.Expr}:dg cx i x=true->Tg cx is ts->Tg cx (i::is) (.Name x p::ts)
structure zF (cx:Cx) (env:PySem.Env) (A:Around) (w:World) (is:List Nat) (ts:List PySem.Expr):Prop where
 n1:ie cx env A w is ((assignEach ts env).map (·.2))
 n2:ie cx env A w is (ts.map fun t=>bindName env (es t))
 n3:(assignEach ts env).findIdx? (·.1)=none
 n4:(assignEach ts env).length=ts.length
 n5:is.length=ts.length
theorem JS{α:Type}{p:α->Bool}{a:α}{l:List α} (h:p a=false) (k:l.findIdx? p=none):(a::l).findIdx? p=none:=by rw[List.findIdx?_cons,h,k];rfl
theorem Tg.names{is:List Nat} {ts:List PySem.Expr} (h:Tg cx is ts):zF cx env A w is ts:=by
 induction h with
 |nil=>exact⟨.nil,.nil,rfl,rfl,rfl⟩
 |cons q _ ih=>exact⟨.cons q (fun v E Q s h=>wpAny_assign_Name h) ih.n1,.cons q (fun v E Q s h=>wpAny_bindName h) ih.n2,JS rfl ih.n3,congrArg (· +1) ih.n4,congrArg (· +1) ih.n5⟩
theorem ur:∀{is:List Nat} {vs:List V} {e e':Env},iR is vs e=some e'->vs.length=is.length
 |[],[],_,_,_=>rfl
 |[],_::_,_,_,h=>nomatch h
 |_::_,[],_,_,h=>nomatch h
 |_::_,_::_,_,_,h=>congrArg (· +1) (ur h)
theorem Ak{is:List Nat} {ts:List PySem.Expr} {k:Nat} {p:Pos} {vs:List V} {u:Value} {Q:Unit->Shared->Prop} (hd:A.handled=none) (nd:cx.names.Nodup) (n:Tg cx is ts) (y:VR w s.heap φ μ (.tup vs) u) (h:iR is vs e=some e') (F:FR w h₀ cx env D oa e s.heap φ μ) (R:SR w h₀ s.heap φ μ st)
  (q:∀s',aQ env oa e oa e' s s' φ φ μ μ->FR w h₀ cx env D oa e' s'.heap φ μ->SR w h₀ s'.heap φ μ st->Q () s'):wpAny (model aF w) A (assign (.Tuple ts k p) env u) Q E s:=by
 have N:zF cx env A w is ts:=n.names
 have hl:=ur h
 obtain⟨f,ho,d⟩:=VR.inv y
 have g:=d.length
 simp only[dU] at g
 refine assign_Tuple_tuple hd ⟨_,ho,rfl,_,rfl⟩ (N.n4.trans (N.n5.symm.trans (hl.symm.trans g))) N.n3 fun h' i=>?_
 have k:∀b o,s.heap.get? b=some o->h'.get? b=some o:=fun b o e=>i b o (jH (jJ e)) e
 refine cA (R.pure (s':={s with heap:=h'}) (aD:=φ) k (fun _ f=>f) (fun _ f n=>absurd f n) rfl rfl) fun x1 j=>?_
 exact AH nd N.n1 (d.mono (x1.mono R)) h (F.ext R x1) j fun aV x2 a c=>q aV ((aQ.eg x1).trans x2) a c
set_option tactic.hygienic true
theorem Hh{α:Type}{z:V}{f:V->V->M α} {r:α×St} (g:(match z with| .tup [p,q]=>f p q|_=>fail:M α) st=some r):∃p q,z= .tup [p,q]/\f p q st=some r:=by
 cases z<;>try (exact(aM g).elim;done)
 rename_i l
 match l,g with
 |[p,q],g=>exact⟨p,q,rfl,g⟩
theorem LY{x x2:Nat} {m:Ex} {b:List Sm} {y L:Str} {N n O pos:Pos} {kt:Nat} {i:PySem.Expr} {M:List PySem.Stmt} (hd:A.handled=none) (nd:cx.names.Nodup) (T:dg cx x y=true) (t:dg cx x2 L=true) (U:gD i=true) (ih:aP w h₀ K A cx m i) (Y:jg w h₀ K A cx b M):
  dw w h₀ K A cx (.i7 x x2 m b) (.For (.Tuple [.Name y N,.Name L n] kt O) i M [] pos):=by
 intro env s₀ aT aU oa e st fl e' aB s φ μ E Q B H q
 obtain⟨o,a,h1,z1⟩:=bind_some (show(aG K e m>>=fun o=>dz o>>=fun l=>_) st=some ((fl,e'),aB) from B)
 obtain⟨l,C,h2,h3⟩:=bind_some z1
 refine dP (jZ h2) fun d hz hv=>?_;obtain rfl:=d
 refine wpAny_For (ih env _ oa e _ _ _ s φ μ E _ h1 H.F H.R H.ph fun u aC aH aI x1 j D=>?_) (fun x=>qT U x)
 refine rm hd hz hv j D fun I fp P St aV W dI G k oI=>?_
 refine uL (Bd:=fun z c h=>∃p q,z= .tup [p,q]/\h=(c.set x (.v p)).set x2 (.v q)) (fun z c a r g=>?_) ?_ Y W H (x1.trans G) k oI (x1.dead dI) h3 q _
 ·refine gp (Hh g) fun p q f g=>?_;obtain rfl:=f
  exact⟨_,⟨_,_,rfl,rfl⟩,g⟩
 ·rintro z c h J aC a aH aI v E Q' ⟨p,q,rfl,rfl⟩ F R D q
  exact Ak hd nd (.cons T (.cons t .nil)) D rfl F R q
noncomputable def gM:List (Nat×V)->Env->Env
 |[],e=>e
 |p::r,e=>gM r (e.set p.1 (.v p.2))
theorem IA (is:List Nat):∀(vs:List V) (e:Env),iR is vs e=if is.length=vs.length then some (gM (is.zip vs) e) else none:=by
 induction is with
 |nil=>exact fun vs e=>by cases vs<;>rfl
 |cons i is ih=>
  intro vs e
  cases vs with
  |nil=>rfl
  |cons v vs=>
   refine(ih vs (e.set i (.v v))).trans ?_
   by_cases h:is.length=vs.length
   ·exact (if_pos h).trans (if_pos (congrArg Nat.succ h:(i::is).length=(v::vs).length)).symm
   ·exact (if_neg h).trans (if_neg fun q:(i::is).length=(v::vs).length=>h (pG q)).symm
theorem IB (ps:List (Nat×V)):∀(e:Env) (i:Nat) (v:V),(∀p∈ps,p.1≠i)->gM ps (e.set i (.v v))=(gM ps e).set i (.v v):=by
 induction ps with
 |nil=>exact fun _ _ _ _=>rfl
 |cons p r ih=>exact fun e i v h=>(congrArg (gM r) (List.set_comm _ _ (h p (.head _)).symm)).trans (ih _ i v fun q a=>h q (.tail _ a))
theorem IC (ps a:List (Nat×V)):∀e:Env,gM (ps++a) e=gM a (gM ps e):=by
 induction ps with
 |nil=>exact fun _=>rfl
 |cons p r ih=>exact fun e=>ih _
theorem ID (ps:List (Nat×V)):∀e:Env,(ps.map (·.1)).Nodup->gM ps.reverse e=gM ps e:=by
 induction ps with
 |nil=>exact fun _ _=>rfl
 |cons p r ih=>
  intro e h
  have⟨a,b⟩:=pI.mp h
  rw[pM,IC,ih e b]
  exact(IB r e p.1 p.2 fun q c z=>a (km.mpr ⟨q,c,z⟩)).symm
theorem Hi{is:List Nat} {vs:List V} {e e':Env} (nd:is.Nodup) (h:iR is vs e=some e'):iR is.reverse vs.reverse e=some e':=by
 rw[IA] at h⊢
 split at h
 ·rename_i hl
  obtain rfl:=aR h
  have hz:is.reverse.zip vs.reverse=(is.zip vs).reverse:=by unfold List.zip;exact(List.reverse_zipWith hl).symm
  rw[if_pos (by simp[hl]),hz,ID _ _ (by rw[rA _ _ hl];exact nd)]
 ·exact (aM h).elim
theorem Hj{is:List Nat} {ts:List PySem.Expr} {f:PySem.Expr->Option Str} (hf:∀x p,f (.Name x p)=none\/f (.Name x p)=some x) (h:Tg cx is ts):(ts.filterMap f).length=ts.length->ts.filterMap f=ts.map es:=by
 induction h with
 |nil=>exact fun _=>rfl
 |@cons i is x p ts _ _ ih=>
  intro hl
  rcases hf x p with q|q
  ·rw[List.filterMap_cons_none q] at hl
   exact absurd (hl▸List.length_filterMap_le f ts) (Nat.not_succ_le_self _)
  ·rw[List.filterMap_cons_some q] at hl⊢
   exact congrArg (List.cons x) (ih (pG hl))
theorem s7{c:Bool}{x:Sem (Option (List Str))} {n:List Str} (h:c=false->x=pure none\/x=pure (some n)):(if c=true then pure none else x)=pure none\/(if c=true then pure none else x)=pure (some n):=by
 cases c with
 |true=>exact .inl rfl
 |false=>exact h rfl
theorem Hk{is:List Nat} {ts:List PySem.Expr} {k:Nat} {p:Pos} {value:PySem.Expr} (h:Tg cx is ts) (hs:yL value=true):swappedStores [.Tuple ts k p] value env=pure none\/swappedStores [.Tuple ts k p] value env=pure (some (ts.map es)):=by
 cases value<;>try exact .inl rfl
 refine s7 fun _=>s7 fun _=>s7 fun hn=>s7 fun _=> .inr ?_
 have hs:(!List.all _ (constantsAlone 8))=true:=hs
 rw[if_neg (by rw[Bool.not_eq_true];exact nb hs)]
 have hn:=(Bool.or_eq_false_iff.mp hn).1
 refine congrArg (fun l=>pure (some l)) (Hj (fun x p=>?_) h (bne_eq_false_iff_eq.mp hn))
 dsimp only
 split
 ·exact .inr rfl
 ·exact .inl rfl
theorem HM{is:List Nat} {ts:List (Value->Sem Unit)} (n:ie cx env A w is ts):ie cx env A w is.reverse ts.reverse:=by
 have app:∀{is js:List Nat} {ts c:List (Value->Sem Unit)},ie cx env A w is ts->ie cx env A w js c->ie cx env A w (is++js) (ts++c):=by
  intro is js ts c a b
  induction a with
  |nil=>exact b
  |cons d e _ ih=>exact .cons d e ih
 induction n with
 |nil=>exact .nil
 |cons d e _ ih=>
  rw[pM,pM]
  exact app ih (.cons d e .nil)
theorem aJ.rev{l:List V} {q:List Value}:aJ w h φ μ l q->aJ w h φ μ l.reverse q.reverse:=
 aJ.ind (P:=fun l q=>aJ w h φ μ l.reverse q.reverse) .nil (fun a l v vs x y=>by rw[pM,pM];exact y.append (.cons x .nil)) l
theorem Ad{v:V}{l:List V} (h:oV v st=some (l,aB)):aB=st/\v= .tup l:=by
 cases v with
 |tup m=>exact cA (br (fk h).2) fun a b=>⟨b.symm,congrArg V.tup a⟩
 |_=>exact(aM h).elim
set_option tactic.hygienic true
theorem RZ{is:List Nat} {ts:List PySem.Expr} {k:Nat} {g pos:Pos} {L:Ex} {c:PySem.Expr} (hd:A.handled=none) (nd:cx.names.Nodup) (Y:is.Nodup) (n:Tg cx is ts) (hc:fA c=true) (hs:yL c=true) (ih:aP w h₀ K A cx L c):
  dw w h₀ K A cx (.ec is L) (.Assign [.Tuple ts k g] c pos):=by
 intro env s₀ aT aU oa e st fl e' aB s φ μ E Q v H q
 obtain⟨o,x,h1,z1⟩:=bind_some v
 obtain⟨l,z,h2,z2⟩:=bind_some z1
 obtain⟨e2,B,h3,h4⟩:=bind_some z2
 replace q:=q.ret h4
 obtain⟨rfl,rfl⟩:=Ad h2
 obtain⟨rfl,C⟩:=cX h3
 rw[exec_Assign_arm]
 refine wpAny_bind (wpAny_standAt ?_)
 rw[show swapsWithSole [.Tuple ts k g] c pos.line env=pure false from(lE hc:swapsWith c (some (.Tuple ts k g)) pos.line env=pure false)]
 refine wpAny_bind (wpAny_pure ?_)
 rw[if_neg (by decide)]
 refine wpAny_bind (ih env _ oa e _ _ _ s φ μ E _ h1 H.F H.R H.ph fun u aC aH aI x1 d y=>?_)
 have M:=H.F.ext H.R x1
 rcases Hk (env:=env) (k:=k) (p:=g) n hs with D|D
 ·rw[D]
  refine wpAny_bind (wpAny_pure ?_)
  show wpAny _ _ (do assignAll u ((assignEach [.Tuple ts k g] env).map (·.2));pure Flow.next) _ _ _
  refine wpAny_bind ?_
  show wpAny _ _ (assign (.Tuple ts k g) env u) _ _ _
  exact Ak hd nd n y C M d fun aV x2 h i=>wpAny_pure (q _ _ _ _ ((aQ.eg x1).trans x2) h i)
 ·rw[D]
  refine wpAny_bind (wpAny_pure ?_)
  show wpAny _ _ (rule "assign.swapped-stores">>=fun _=>_) _ _ _
  refine wpAny_bind (wpAny_rule ?_)
  have N:zF cx env A w is ts:=n.names
  have hl:=ur C
  obtain⟨f,ho,O⟩:=VR.inv y
  rename_i a G m
  have T:=O.length
  simp only[dU] at T
  have I:(ts.map es).length=G.size:=(eU ..).trans (N.n5.symm.trans (hl.symm.trans T))
  show wpAny _ _ (unpackItems (.ref a) (ts.map es).length none>>=fun J=>_) _ _ _
  rw[I]
  refine wpAny_bind (unpackItems_tuple hd ⟨_,ho,rfl,_,rfl⟩ fun h' hk=>?_)
  have kk:∀b o,aC.heap.get? b=some o->h'.get? b=some o:=fun b o e=>hk b o (jH (jJ e)) e
  obtain⟨x2,R2⟩:=d.pure (s':={aC with heap:=h'}) (aD:=aH) kk (fun _ f=>f) (fun _ f n=>absurd f n) rfl rfl
  have e1:((ts.map es).reverse.map fun n=>bindName env n)=(ts.map fun t=>bindName env (es t)).reverse:=by rw[<-List.map_reverse,kj,<-List.map_reverse];rfl
  rw[e1]
  refine wpAny_bind (AH nd (HM N.n2) (O.mono (x2.mono d)).rev (Hi Y C) (M.ext d x2) R2 fun U x3 j r=>wpAny_pure (q _ _ _ _ ((aQ.eg (x1.trans x2)).trans x3) j r))
inductive eY (w:World) (h₀:Heap) (K:cF) (A:Around) (cx:Cx):List (Ex×Ex)->List PySem.Expr->Prop
 |nil:eY w h₀ K A cx [] []
 |cons {o k:Ex} {o' k':PySem.Expr} {p:Pos} {l:List (Ex×Ex)} {ts:List PySem.Expr}:aP w h₀ K A cx o o'->aP w h₀ K A cx k k'->eY w h₀ K A cx l ts->eY w h₀ K A cx ((o,k)::l) (.Subscript o' k' p::ts)
theorem eY.fm{l:List (Ex×Ex)} {ts:List PySem.Expr} {f:PySem.Expr->Option Str} (a:eY w h₀ K A cx l ts) (hf:∀o k p,f (.Subscript o k p)=none):ts.filterMap f=[]:=by
 induction a with
 |nil=>rfl
 |cons _ _ _ ih=>rw[List.filterMap_cons,hf];exact ih
theorem eY.ta{l:List (Ex×Ex)} {ts:List PySem.Expr} (a:eY w h₀ K A cx l ts):(assignEach ts env).findIdx? (·.1)=none/\(assignEach ts env).length=l.length:=by
 induction a with
 |nil=>exact⟨rfl,rfl⟩
 |@cons D k1 q z C l ts _ _ _ ih=>exact⟨by show List.findIdx? _ ((false,assign (.Subscript q z C) env)::assignEach ts env)=none;rw[List.findIdx?_cons,ih.1];rfl,congrArg Nat.succ ih.2⟩
theorem Bi{x:Ex×Ex}{l:List (Ex×Ex)} {v:V} {vs:List V} {r:Unit×St} {C:Prop} (h:k7 K e (x::l) (v::vs) st=some r) (k:∀d a g b u c,aG K e x.1 st=some (d,a)->aG K e x.2 a=some (g,b)->setItem d g v b=some (u,c)->k7 K e l vs c=some r->C):C:=
 fM (x:=aG K e x.1) (f:=fun d=>aG K e x.2>>=fun q=>setItem d q v>>=fun _=>k7 K e l vs) h fun d a i z=>fM z fun g b j z=>fM z fun u c m n=>k d a g b u c i j m n
theorem JT (l:List (Ex×Ex)):∀{vs:List V} {st:St} {r:Unit×St},k7 K e l vs st=some r->vs.length=l.length:=by
 induction l with
 |nil=>intro vs st r h;cases vs with
  |nil=>rfl
  |cons _ _=>exact(aM h).elim
 |cons p l ih=>intro vs st r h;cases vs with
  |nil=>exact(aM h).elim
  |cons v vs=>exact Bi h fun _ _ _ _ _ _ _ _ _ g=>congrArg Nat.succ (ih g)
theorem IE{l:List (Ex×Ex)} {ts:List PySem.Expr} (hu:A.units+100<cLine) (a:eY w h₀ K A cx l ts):∀{vs:List V} {g:List Value} {st aB:St} {x:Unit} {s:Shared} {φ:Addr->Prop} {μ:List Loc} {Q:Unit->Shared->Prop},k7 K e l vs st=some (x,aB)->aJ w s.heap φ μ vs g->FR w h₀ cx env D oa e s.heap φ μ->SR w h₀ s.heap φ μ st->Ph φ->
  (∀s' aD aE,Ext s s' φ aD μ aE->SR w h₀ s'.heap aD aE aB->Q () s')->wpAny (model aF w) A (assignInOrder ((assignEach ts env).map (·.2)) g) Q E s:=by
 induction a with
 |nil=>
  intro vs g st aB x s φ μ Q h y F R ph q
  cases y with
  |nil=>exact wpAny_pure (q _ _ _ Ext.kH ((br h).2▸R))
  |cons _ _=>exact(aM h).elim
 |@cons O k1 m o p l ts r v _ ih=>
  intro vs g st aB x s φ μ Q h y F R ph q
  cases y with
  |nil=>exact(aM h).elim
  |cons B C=>
  refine Bi h fun d i T j _ k G H I J=>?_
  clear h
  show wpAny _ _ (holding _ (assign (.Subscript m o p) env _)>>=fun _=>assignInOrder ((assignEach ts env).map (·.2)) _) _ _ _
  refine wpAny_bind (wpAny_holding ?_)
  show wpAny _ _ ((holding _ (eval m env))>>=fun _=>_) _ _ _
  refine wpAny_bind (wpAny_holding (r env D oa e _ _ _ s φ μ E _ G F R ph fun u aC aH aI x1 b z=>wpAny_bind (wpAny_holding (v env D oa e _ _ _ aC aH aI E _ H (F.ext R x1) b (Ph.on x1 ph) fun t aV bX cg x2 c L=>?_))))
  have m1:=x1.mono R
  have m2:=x2.mono b
  refine wpAny_bind (wpAny_standAt (wpAny_bind (wpAny_holding (ug I c (z.mono m2) L ((B.mono m1).mono m2) hu fun n x3 f=>wpAny_release ?_))))
  have x:=(x1.trans x2).trans x3
  exact ih J (((C.mono m1).mono m2).mono (x3.mono c)) (F.ext R x) f (Ph.on x ph) fun s' aD aE M N=>q s' aD aE (x.trans M) N
set_option tactic.hygienic true
theorem R6{l:List (Ex×Ex)} {ts:List PySem.Expr} {k:Nat} {pt pos:Pos} {ex:Ex} {value:PySem.Expr} (hd:A.handled=none) (hu:A.units+100<cLine) (a:eY w h₀ K A cx l ts) (h0:ts≠[]) (hc:fA value=true) (ih:aP w h₀ K A cx ex value):
  dw w h₀ K A cx (.jU l ex) (.Assign [.Tuple ts k pt] value pos):=by
 intro env s₀ aT aU oa e st fl e' aB s φ μ E Q cZ H q
 obtain⟨o,eA,h1,z1⟩:=bind_some cZ
 obtain⟨vs,iV,h2,z2⟩:=bind_some z1
 obtain⟨_,xP,h3,h4⟩:=bind_some z2
 replace q:=q.ret h4
 refine cA (Ad h2) fun vW vX=>?_;obtain rfl:=vW;obtain rfl:=vX
 have hw:swappedStores [.Tuple ts k pt] value env=pure none:=by
  cases value<;>try rfl
  rename_i vs' k' p'
  unfold swappedStores
  dsimp only
  rw[a.fm fun _ _ _=>rfl]
  split
  ·rfl
  ·split
   ·rfl
   ·rw[if_pos (by cases ts with|nil=>exact absurd rfl h0|cons _ _=>rfl)]
 have hl:vs.length=l.length:=by
  exact JT _ h3
 refine wpAny_Assign_stores (ih env _ oa e _ _ _ s φ μ E _ h1 H.F H.R H.ph fun u aC aH aI x1 jd y=>?_) (lE hc:swapsWith value (some (.Tuple ts k pt)) pos.line env=pure false) hw
 show wpAny _ _ (assign (.Tuple ts k pt) env u) _ _ _
 obtain⟨f,ho,hv⟩:=VR.inv y
 have h5:=hv.length
 simp only[dU] at h5
 refine cA (a.ta (env:=env)) fun t1 t2=>?_
 refine assign_Tuple_tuple hd ⟨_,ho,rfl,_,rfl⟩ (by rw[t2];exact Ui hl h5) t1 fun h' hk=>?_
 have kk:∀b o,aC.heap.get? b=some o->h'.get? b=some o:=fun b o e=>hk b o (jH (jJ e)) e
 refine cA (jd.pure (s':={aC with heap:=h'}) (aD:=aH) kk (fun _ f=>f) (fun _ f n=>absurd f n) rfl rfl) fun x2 R2=>?_
 have zG:=x1.trans x2
 refine IE hu a h3 (hv.mono (x2.mono jd)) (H.F.ext H.R zG) R2 (Ph.on zG H.ph) fun s' aD aE x3 R3=>?_
 have x:=zG.trans x3
 exact q _ _ _ _ (aQ.eg x) (H.F.ext H.R x) R3
section
structure Sv where
 k:List PySem.Expr:=[]
 b:List PySem.Stmt:=[]
 c:List PySem.Stmt:=[]
noncomputable def sv:PySem.Stmt->Sv
 | .Assign (t::_) e _=>{k:=[t,e]}
 | .Expr e _=>{k:=[e]}
 | .AugAssign t _ e _=>{k:=[t,e]}
 | .If c a b _=>{k:=[c],b:=a,c:=b}
 | .Return (some e) _=>{k:=[e]}
 | .For t i b _ _=>{k:=[t,i],b:=b}
 |_=>{}
noncomputable def aS (z:PySem.Stmt):PySem.Expr:=hd (sv z).k
noncomputable def t1 (z:PySem.Stmt):PySem.Expr:=hd (sv z).k.tail
noncomputable def s8:List (Ex×Ex)->List PySem.Expr->List PySem.Expr
 |[],_=>[]
 |p::l,r=> .Subscript (fix p.1 (k0 (hd r))) (fix p.2 (k1 (hd r))) (hd r).pos::s8 l r.tail
noncomputable def zH (cx:Cx):List (Ex×Ex)->List PySem.Expr->Bool
 |[],_=>true
 |p::l,r=>bl p.1 cx (k0 (hd r))&&bl p.2 cx (k1 (hd r))&&zH cx l r.tail
noncomputable def yS:List Nat->List PySem.Expr->List PySem.Expr
 |[],_=>[]
 |_::l,r=>cS (hd r)::yS l r.tail
noncomputable def okN (cx:Cx):List Nat->List PySem.Expr->Bool
 |[],_=>true
 |i::l,r=>dg cx i (es (hd r))&&okN cx l r.tail
mutual
noncomputable def EW:Sm->PySem.Stmt->PySem.Stmt
 | .asg _ v,z=> .Assign [cS (aS z)] (fix v (t1 z)) z.pos
 | .i4 _ l,z=> .Assign [cS (aS z)] (.List (fI l (ek (t1 z))) (t1 z).pos) z.pos
 | .ku _ v,z=> .Assign [cS (aS z)] (.Call (cS (k0 (t1 z))) [fix v (k1 (t1 z))] [] (t1 z).pos) z.pos
 | .kz _ v,z=> .Assign [cS (aS z)] (.BinOp (cS (k0 (t1 z))) .Add (fix v (k1 (t1 z))) (t1 z).pos) z.pos
 | .ec is v,z=> .Assign [.Tuple (yS is (ek (aS z))) (en (aS z)) (aS z).pos] (fix v (t1 z)) z.pos
 | .aW o f v,z=> .Assign [.Attribute (fix o (k0 (aS z))) (nm f) (aS z).pos] (fix v (t1 z)) z.pos
 | .cK o k v,z=> .Assign [.Subscript (fix o (k0 (aS z))) (fix k (k1 (aS z))) (aS z).pos] (fix v (t1 z)) z.pos
 | .jU l v,z=> .Assign [.Tuple (s8 l (ek (aS z))) (en (aS z)) (aS z).pos] (fix v (t1 z)) z.pos
 | .jL _ k v,z=> .Assign [.Subscript (cS (k0 (aS z))) (fix k (k1 (aS z))) (aS z).pos] (fix v (t1 z)) z.pos
 | .i5 _ v,z=> .Expr (.Call (.Attribute (cS (k0 (k0 (aS z)))) (es (k0 (aS z))) (k0 (aS z)).pos) [fix v (k1 (aS z))] [] (aS z).pos) z.pos
 | .kB _ v,z=> .Expr (.Call (.Attribute (cS (k0 (k0 (aS z)))) (es (k0 (aS z))) (k0 (aS z)).pos) [fix v (k1 (aS z))] [] (aS z).pos) z.pos
 | .app o v,z=> .Expr (.Call (.Attribute (fix o (k0 (k0 (aS z)))) (es (k0 (aS z))) (k0 (aS z)).pos) [fix v (k1 (aS z))] [] (aS z).pos) z.pos
 | .jM o k op v,z=> .AugAssign (.Subscript (fix o (k0 (aS z))) (fix k (k1 (aS z))) (aS z).pos) (jO op) (fix v (t1 z)) z.pos
 | .i6 _ op v,z=> .AugAssign (cS (aS z)) (jO op) (fix v (t1 z)) z.pos
 | .exp v,z=> .Expr (fix v (aS z)) z.pos
 | .iff c a b,z=> .If (fix c (aS z)) (iW a (sv z).b) (iW b (sv z).c) z.pos
 | .kD _,z=> .Return (some (cS (aS z))) z.pos
 | .ret v,z=> .Return (some (fix v (aS z))) z.pos
 | .lY,z=> .Return none z.pos
 | .dh _ d b,z=> .For (cS (aS z)) (fix d (t1 z)) (iW b (sv z).b) [] z.pos
 | .i7 _ _ d b,z=> .For (.Tuple [cS (k0 (aS z)),cS (k1 (aS z))] (en (aS z)) (aS z).pos) (fix d (t1 z)) (iW b (sv z).b) [] z.pos
 | .forR _ n b,z=> .For (cS (aS z)) (.Call (cS (k0 (t1 z))) [fix n (k1 (t1 z))] [] (t1 z).pos) (iW b (sv z).b) [] z.pos
 | .stop,z=>z
 | .pass,z=> .Pass z.pos
noncomputable def iW:List Sm->List PySem.Stmt->List PySem.Stmt
 |[],_=>[]
 |s::l,r=>EW s (r.headD (.Pass default))::iW l r.tail
end
noncomputable def EX:Ex->Bool
 | .comp _ _ _=>true
 | .hA _ _ _=>true
 |_=>false
mutual
noncomputable def tN (cx:Cx):Sm->PySem.Stmt->Bool
 | .asg i v,z=>dg cx i (es (aS z))&&bl v cx (t1 z)&&(fA (fix v (t1 z))||EX v)
 | .i4 i l,z=>dg cx i (es (aS z))&&iA l cx (ek (t1 z))&&decide ((fI l (ek (t1 z))).length<=1000)
 | .ku i v,z=>dg cx i (es (aS z))&&jR cx (k0 (t1 z)) "list"&&bl v cx (k1 (t1 z))&&notStar (fix v (k1 (t1 z)))
 | .kz i v,z=>dg cx i (es (aS z))&&eN cx i (es (k0 (t1 z)))&&bl v cx (k1 (t1 z))
 | .ec is v,z=>okN cx is (ek (aS z))&&decide is.Nodup&&bl v cx (t1 z)&&fA (fix v (t1 z))&&yL (fix v (t1 z))
 | .aW o _ v,z=>bl o cx (k0 (aS z))&&bl v cx (t1 z)&&fA (fix v (t1 z))
 | .cK o k v,z=>bl o cx (k0 (aS z))&&bl k cx (k1 (aS z))&&bl v cx (t1 z)&&fA (fix v (t1 z))
 | .jU l v,z=>zH cx l (ek (aS z))&&bl v cx (t1 z)&&fA (fix v (t1 z))&& !(s8 l (ek (aS z))).isEmpty
 | .jL i k v,z=>eN cx i (es (k0 (aS z)))&&bl k cx (k1 (aS z))&&bl v cx (t1 z)&&fA (fix v (t1 z))
 | .i5 i v,z=>eN cx i (es (k0 (k0 (aS z))))&&cW (es (k0 (aS z))) "append"&&nY (aS z)&&notStar (fix v (k1 (aS z)))&&bl v cx (k1 (aS z))
 | .kB i v,z=>eN cx i (es (k0 (k0 (aS z))))&&cW (es (k0 (aS z))) "extend"&&nY (aS z)&&notStar (fix v (k1 (aS z)))&&bl v cx (k1 (aS z))
 | .app o v,z=>gE (fix o (k0 (k0 (aS z))))&&cW (es (k0 (aS z))) "append"&&nY (aS z)&&notStar (fix v (k1 (aS z)))&&bl o cx (k0 (k0 (aS z)))&&bl v cx (k1 (aS z))
 | .jM o k _ v,z=>bl o cx (k0 (aS z))&&bl k cx (k1 (aS z))&&bl v cx (t1 z)&&mT (fix k (k1 (aS z)))
 | .i6 i _ v,z=>dg cx i (es (aS z))&&eN cx i (es (aS z))&&bl v cx (t1 z)
 | .exp v,z=>bl v cx (aS z)&&fA (fix v (aS z))
 | .iff c a b,z=>bl c cx (aS z)&&jS cx a (sv z).b&&jS cx b (sv z).c
 | .kD i,z=>eN cx i (es (aS z))
 | .ret v,z=>bl v cx (aS z)
 | .dh x d b,z=>dg cx x (es (aS z))&&gD (fix d (t1 z))&&bl d cx (t1 z)&&jS cx b (sv z).b
 | .i7 x x2 d b,z=>dg cx x (es (k0 (aS z)))&&dg cx x2 (es (k1 (aS z)))&&gD (fix d (t1 z))&&bl d cx (t1 z)&&jS cx b (sv z).b
 | .forR x n b,z=>dg cx x (es (aS z))&&jR cx (k0 (t1 z)) "range"&&bl n cx (k1 (t1 z))&&notStar (fix n (k1 (t1 z)))&&jS cx b (sv z).b
 | .lY,_=>true
 | .stop,_=>true
 | .pass,_=>true
noncomputable def jS (cx:Cx):List Sm->List PySem.Stmt->Bool
 |[],_=>true
 |s::l,r=>tN cx s (r.headD (.Pass default))&&jS cx l r.tail
end
section
theorem Ck (H:Hy w h₀ mg mb K A) (n:cx.names.Nodup):∀(l:List (Ex×Ex)) {r:List PySem.Expr},zH cx l r=true->eY w h₀ K A cx l (s8 l r)
 |[],_,_=> .nil
 |p::l,_,h=> .cons (eS H p.1 (a1 (a1 h)) n).e (eS H p.2 (a2 (a1 h)) n).e (Ck H n l (a2 h))
theorem Cn:∀(l:List Nat) {r:List PySem.Expr},okN cx l r=true->Tg cx l (yS l r)
 |[],_,_=> .nil
 |_::l,_,h=> .cons (a1 h) (Cn l (a2 h))
set_option tactic.hygienic true
theorem LZ (H:Hy w h₀ mg mb K A) (n:cx.names.Nodup) {i:Nat} {v:Ex} {x:Str} {p pos:Pos} {z:PySem.Expr} (a:dg cx i x=true) (h:bl v cx z=true) (b:(fA (fix v z)||EX v)=true):dw w h₀ K A cx (.asg i v) (.Assign [.Name x p] (fix v z) pos):=by
 rcases rY.mp b with q|q
 ·exact xO n a q (eS H v h n).e
 ·cases v<;>first|exact(aL q).elim|skip
  ·rename_i e _ i
   exact LL H.hd n a (a1 (a2 (a1 h))) (a2 (a2 (a1 h))) (a2 h) (eS H i (a1 (a1 (a1 h))) n).e (eS H e (a2 (a1 (a1 h))) n).e
  ·rename_i e _ i
   exact LM H.hd n a (a1 (a2 (a1 h))) (a2 (a2 (a1 h))) (a2 h) (eS H i (a1 (a1 (a1 h))) n).e (eS H e (a2 (a1 (a1 h))) n).e
mutual
theorem sS (H:Hy w h₀ mg mb K A) (n:cx.names.Nodup):∀(sm:Sm) {z:PySem.Stmt},tN cx sm z=true->dw w h₀ K A cx sm (EW sm z)
 | .asg _ v,_,h=>LZ H n (a1 (a1 h)) (a2 (a1 h)) (a2 h)
 | .i4 _ l,_,h=>LN n (a1 (a1 h)) (lS H l (a2 (a1 h)) n) (of_decide_eq_true (a2 h))
 | .ku _ v,_,h=>LO H.G n (a1 (a1 (a1 h))) (a1 (a2 (a1 (a1 h)))) (a2 (a2 (a1 (a1 h)))) (nM (eS H v (a2 (a1 h)) n) (a2 h))
 | .kz _ v,_,h=>LP n (a1 (a1 h)) (a2 (a1 h)) (eS H v (a2 h) n).e
 | .ec is v,_,h=>RZ H.hd n (of_decide_eq_true (a2 (a1 (a1 (a1 h))))) (Cn is (a1 (a1 (a1 (a1 h))))) (a2 (a1 h)) (a2 h) (eS H v (a2 (a1 (a1 h))) n).e
 | .aW o _ v,_,h=>RU H.X (sb _) (a2 h) (eS H o (a1 (a1 h)) n).e (eS H v (a2 (a1 h)) n).e
 | .cK o k v,_,h=>RV H.hu (a2 h) (eS H o (a1 (a1 (a1 h))) n).e (eS H k (a2 (a1 (a1 h))) n).e (eS H v (a2 (a1 h)) n).e
 | .jU l v,_,h=>R6 H.hd H.hu (Ck H n l (a1 (a1 (a1 h)))) (fun q=>absurd (congrArg List.isEmpty q) (by rw[nb (a2 h)];exact aL)) (a2 (a1 h)) (eS H v (a2 (a1 (a1 h))) n).e
 | .jL _ k v,_,h=>LQ (a1 (a1 (a1 h))) (a2 h) (eS H k (a2 (a1 (a1 h))) n).e (eS H v (a2 (a1 h)) n).e
 | .i5 _ v,_,h=>LR (a1 (a1 (a1 (a1 h)))) (a2 (a1 (a1 (a1 h)))) (a2 (a1 (a1 h))) (a2 (a1 h)) (eS H v (a2 h) n).e
 | .kB _ v,_,h=>LU (a1 (a1 (a1 (a1 h)))) (a2 (a1 (a1 (a1 h)))) (a2 (a1 (a1 h))) (a2 (a1 h)) (eS H v (a2 h) n).e
 | .app o v,_,h=>RY (a1 (a1 (a1 (a1 (a1 h))))) (a2 (a1 (a1 (a1 (a1 h))))) (a2 (a1 (a1 (a1 h)))) (a2 (a1 (a1 h))) (eS H o (a2 (a1 h)) n).e (eS H v (a2 h) n).e
 | .jM o k _ v,_,h=>LK H.hu (a2 h) (sb _) (eS H o (a1 (a1 (a1 h))) n).e (eS H k (a2 (a1 (a1 h))) n).e (eS H v (a2 (a1 h)) n).e
 | .i6 _ _ v,_,h=>LJ n (a1 (a1 h)) (a2 (a1 h)) (sb _) (eS H v (a2 h) n).e
 | .exp v,_,h=>RQ (a2 h) (eS H v (a1 h) n).e
 | .iff c a b,_,h=>RT (eS H c (a1 (a1 h)) n).t (bS H n a (a2 (a1 h))) (bS H n b (a2 h))
 | .kD _,_,h=>LI h
 | .ret v,_,h=>RR (eS H v h n).e
 | .lY,_,_=>LH
 | .dh _ d b,_,h=>LV H.hd n (a1 (a1 (a1 h))) (a2 (a1 (a1 h))) (eS H d (a2 (a1 h)) n).e (bS H n b (a2 h))
 | .i7 _ _ d b,_,h=>LY H.hd n (a1 (a1 (a1 (a1 h)))) (a2 (a1 (a1 (a1 h)))) (a2 (a1 (a1 h))) (eS H d (a2 (a1 h)) n).e (bS H n b (a2 h))
 | .forR _ m b,_,h=>LX H.G H.hd n (a1 (a1 (a1 (a1 h)))) (a1 (a2 (a1 (a1 (a1 h))))) (a2 (a2 (a1 (a1 (a1 h))))) (nM (eS H m (a2 (a1 (a1 h))) n) (a2 (a1 h))) (bS H n b (a2 h))
 | .stop,_,_=>LG
 | .pass,_,_=>LD
theorem bS (H:Hy w h₀ mg mb K A) (n:cx.names.Nodup):∀(l:List Sm) {r:List PySem.Stmt},jS cx l r=true->jg w h₀ K A cx l (iW l r)
 |[],_,_=>RO
 |s::l,_,h=>LC (sS H n s (a1 h)) (bS H n l (a2 h))
end
end
end
end
structure Bj (fd:FuncData) (ps:List Str):Prop where
 po:fd.params.posonlyargs=[]
 ar:fd.params.args.map (·.arg)=ps
 va:fd.params.vararg=none
 ko:fd.params.kwonlyargs=[]
 ka:fd.params.kwarg=none
 df:fd.defaults= .none
theorem IF{ps:List Str} {a:List Value} (h:a.length=ps.length):∀n∈ps,((ps.zip a).lookup n).isNone=false:=by
 induction ps generalizing a with
 |nil=>intro n b;cases b
 |cons p ps ih=>
  cases a with
  |nil=>cases h
  |cons u a=>
   intro n b
   rw[pN,fH]
   split
   ·rfl
   ·rename_i q
    rcases bP.mp b with rfl|b
    ·simp at q
    ·exact ih (by simpa using h) n b
theorem Ma{ps:List Str} {a:List Value} (nd:ps.Nodup) (h:a.length=ps.length):(ps.filterMap fun n=>((ps.zip a).lookup n).map (n,·))=ps.zip a:=by
 have c:∀(ps b:List Str) (a vs:List Value),a.length=ps.length->vs.length=b.length->(b++ps).Nodup->(ps.filterMap fun n=>(((b++ps).zip (vs++a)).lookup n).map (n,·))=ps.zip a:=by
  intro ps
  induction ps with
  |nil=>intro b a vs _ _ _;simp
  |cons p ps ih=>
   intro b a vs hu g nd
   cases a with
   |nil=>cases hu
   |cons u a=>
   have f:((b++p::ps).zip (vs++u::a)).lookup p=some u:=by
    have d:p∉b:=by
     intro i
     rw[pL] at nd
     exact nd.2.2 p i p (.head _) rfl
    rw[List.zip_append g.symm]
    have:∀(b:List Str) (vs:List Value),p∉b->(b.zip vs++(p::ps).zip (u::a)).lookup p=some u:=by
     intro b
     induction b with
     |nil=>intro vs _;rw[List.zip_nil_left,gn,pN,fH];simp
     |cons q b ih=>
      intro vs d
      cases vs with
      |nil=>rw[List.zip_nil_right,gn,pN,fH];simp
      |cons v vs=>
       rw[pN,eW,fH]
       have:(p==q)=false:=beq_eq_false_iff_ne.mpr (fun e=>d (by rw[e];exact .head _))
       rw[this]
       exact ih vs fun h=>d (.tail _ h)
    exact this b vs d
   rw[List.filterMap_cons,f]
   show(p,u)::_=_
   rw[pN]
   congr 1
   have:=ih (b++[p]) a (vs++[u]) (by simpa using hu) (by simp[g]) (by simpa using nd)
   simpa using this
 exact c ps [] a [] h rfl nd
theorem HO{α β γ:Type} {L:List α} {b:β} {f:α->β->Sem (ForInStep β)} {k:β->Sem γ} {r:Sem γ} (h:L=[]) (e:k b=r):(forIn L b f>>=k)=r:=by subst h;exact e
theorem Hl{fd:FuncData}{ps:List Str} {a:List Value} (P:Bj fd ps) (nd:ps.Nodup) (h:a.length=ps.length):bindArgs fd ⟨a,[]⟩=pure (ps.zip a):=by
 obtain⟨name,j,⟨po,as,va,ko,kd,ka,k⟩,body,sc,gl,cl,df,o,doc,p,an⟩:=fd
 have b:po=[]:=P.po
 have c:as.map (·.arg)=ps:=P.ar
 have d:va=none:=P.va
 have e:ko=[]:=P.ko
 have f:ka=none:=P.ka
 have g:df= .none:=P.df
 clear P
 subst b d e f g c
 have hg:¬(decide (a.length>(as.map (·.arg)).length)&&(none:Option PySem.Arg).isNone)=true:=by rw[decide_eq_false (Uj h)];exact aL
 have hm:∀m:Nat,¬(!(((as.map (·.arg)).take m).filter (fun n=>(((as.map (·.arg)).zip a).lookup n).isNone)).isEmpty)=true:=fun m=>by
  rw[List.filter_eq_nil_iff.mpr fun n i=>by rw[IF h n (List.mem_of_mem_take i)];exact aL];exact aL
 refine Eq.trans (if_neg hg) (Eq.trans (if_neg ?_) (HO ((congrArg (List.zip _) List.drop_nil).trans List.zip_nil_right) ?_))
 ·exact hm _
 ·refine congrArg (fun l=>(pure l:Sem (List (Str×Value)))) ((congrArg (List.filterMap fun n=>(((as.map (·.arg)).zip a).lookup n).map (n,·)) (cP (as.map (·.arg)))).trans (Ma nd h))
noncomputable def YY:List (List String):=[["k"],
 ["self","code","at"],
 ["self","number","row"],
 ["self","k"],
 ["self","row","found","depth","weight","opened","level","inner","k"],
 ["row","sort"],
 ["sort"],
 ["sort"],
 ["kt","row","sort","inner"],
 ["kt","row"],
 ["kt","args","arg"],
 ["kt","k","sort"],
 ["kt","k"],
 ["kt","k","row"],
 ["kt","k","row"],
 ["kt","k"],
 ["kt","k","sort"],
 ["kt","k","sort"],
 ["self","tid","name","sort","flags","base","params","asm","word"],
 ["self"],
 ["store","k","tid"],
 ["kt","k"],
 ["self"],
 ["self","number","at","words"],
 ["self","count"],
 ["self","row"],
 ["self","lid","name","kind","flags","owner"],
 ["self","fnid","mid","up","at"],
 ["self","store","asm"],
 ["unit","mid","up","at","fnid"],
 ["unit","fnid","name","kind","flags","lid"],
 ["row","places","out","place","sort","part"],
 ["e"],
 ["e","kids","row","at","place","sort","part"],
 ["e","value","kids","kid"],
 ["self","lw","e"],
 ["self","lw","e"],
 ["self","lw","e"],
 ["self","unit","fn"],
 ["self","e"],
 ["self","s"],
 ["self","s"],
 ["self"],
 ["self","kind"],
 ["self","e"],
 ["lw","e","rule"],
 ["lw","e","kids","kid"],
 ["effects","e"],
 ["e","lid","kid"],
 ["e","code","kid"],
 ["lw","e","later","other"],
 ["lw","e","later","local"],
 ["kt","k"],
 ["lw","goal","later","code","value","local","index","effects","obj","first","arr","second"],
 ["lw","obj","later","effects","value"],
 ["lw","e","t"],
 ["lw","goal","later","args","effects","obj","kept","place","arg","more"],
 ["place"],
 ["lw","place","value","effect","local","kept","call"],
 ["lw","e","effect"],
 ["lw","e","effect"],
 ["lw","e","goal","obj","part"],
 ["lw","e","effect","goal","obj","held","nothing","test","first","other"],
 ["lw","e","effect","read","effects","place","old","kept","write"],
 ["self","lw","e"],
 ["self","lw","e"],
 ["self","lw","e"],
 ["lw","e"],
 ["self","lw","e","one"],
 ["t"],
 ["lw","t"],
 ["k","e"],
 ["lw","k","test","e"],
 ["lw","k","t"],
 ["e","k"],
 ["lw","e","l","r","plain","left","right"],
 ["lw","e","l","r","row","same","both"],
 ["lw","e","l","r","off","test"],
 ["lw","e","l","r"],
 ["lw","e","r","l","test","first","second","body","both"],
 ["self","lw","e"],
 ["self","lw","e","inner","plain","value","effects","t"],
 ["lw","e","cv","inner","value","effects","t"],
 ["self","lw","e"],
 ["k"],
 ["lw","e"],
 ["lw","e"],
 ["e","kid","k"],
 ["lw","e","right","left","value","effects","t"],
 ["self","lw","e"],
 ["kt","k"],
 ["lw","e","value","k","goal","put","effects","t"],
 ["self","lw","e"],
 ["self","lw","e","value","test","effects","t"],
 ["l","r"],
 ["e"],
 ["self","lw","e","parts","whole","part"],
 ["self","lw","e","obj"],
 ["self","lw","e"],
 ["lw"],
 ["lw"],
 ["lw"],
 ["lw"],
 ["lw"],
 ["w","count","at","n"],
 ["w","k"],
 ["w","k","fid"],
 ["w","k","what"],
 ["w","k","depth","what","down","other","goal"],
 ["w","k","depth","what","fid"],
 ["w","k","inner","depth","what","right","op","other","goal"],
 ["w","depth","what","value","k","lid","op","inner"],
 ["w","k","depth","what","op","other","inner","turn_to","goal","held","value"],
 ["w","k","depth","what","kinds","owner","obj","other","turn"],
 ["w","k"],
 ["w","k"],
 ["e","places","out","place","many"],
 ["e","out","one"],
 ["w","e","one","inner","code","k"],
 ["w","k","op","left","right"],
 ["w","way","source","goal"],
 ["w","e","given","table","owner","mid","margs","ret","kinds","held","how","one"],
 ["e","out","one"],
 ["script","numbers","store","kt","w","inner","sorts","unit","fn","kinds","e","count","lw","low","news","written","good","var","n","place"]]
noncomputable def fD (i:Nat):List Str:=((YY[i]?).getD []).map Str.ofString
noncomputable def yT (i:Nat) (sc:Scope):Cx:=⟨fD i,fun x=>sc.names.lookup x⟩
noncomputable def BM:Value->Bool
 | .none=>true
 |_=>false
noncomputable def tO (P:Params) (a:Addr) (p:Obj->Bool):Bool:=((ez P).get a).any p
noncomputable def EY (d:PySem.Data) (p:Array Value->Bool):Bool:=match d with
 | .fields ws=>p ws
 |_=>false
noncomputable def Gh (d:PySem.Data) (p:FuncData->Bool):Bool:=match d with
 | .func fd=>p fd
 |_=>false
noncomputable def EZ (v:Value) (p:Addr->Bool):Bool:=match v with
 | .ref c=>p c
 |_=>false
noncomputable def isStr (q:Str) (v:Value):Bool:=match v with
 | .str a _=>q==a
 |_=>false
noncomputable def codeOk (P:Params) (a:Value) (q:Str):Bool:=EZ a fun c=>Nat.blt c 1271&&tO P c fun o=>(alive o).isSome&&EY o.data fun ws=>(ws[1]?).any (isStr q)
noncomputable def R7 (fd:FuncData) (i n:Nat):Bool:=fd.params.posonlyargs.isEmpty&&fd.params.args.map (·.arg)==(fD i).take n&&fd.params.vararg.isNone&&fd.params.kwonlyargs.isEmpty&&fd.params.kwarg.isNone&&BM fd.defaults&&fd.params.args.all fun a=>fd.scope.names.lookup a.arg==some .local||fd.scope.names.lookup a.arg==some .cell
noncomputable def R8 (P:Params) (fd:FuncData):Bool:= !fd.scope.isCoroutine&& !fd.scope.isGenerator&&fd.scope.kind== .function&&fd.globals==mainGlobals&&fd.builtins==builtinsNs&&fd.closure.isEmpty&&codeOk P fd.code fd.qualname
noncomputable def Gi (b:FuncBody) (p:List PySem.Stmt->Bool):Bool:=match b with
 | .stmts b=>p b
 |_=>false
noncomputable def Mb (fd:FuncData) (i:Nat) (d:Fn):Bool:=Gi fd.body fun b=>jS (yT i fd.scope) d.body b
noncomputable def qE (l:List Sm):FuncBody->FuncBody
 | .stmts b=> .stmts (iW l b)
 |x=>x
noncomputable def fdOf:PySem.Data->FuncBody
 | .func fd=>fd.body
 |_=> .stmts []
noncomputable def s9 (P:Params) (i:Nat):FuncBody:=((ez P).get (fa i)).elim (.stmts []) fun o=>fdOf o.data
noncomputable def tb (P:Params) (i:Nat) (d:Fn) (n:Nat):Bool:=tO P (fa i) fun o=>Gh o.data fun fd=>R8 P fd&&R7 fd i n&&Mb fd i d&&decide ((fD i).length=d.n)&&decide (n<=d.n)&&decide (fD i).Nodup
theorem AI{kd:Str->Option NameKind} {x:Str}:∀(l:List (Str×Value)) (m:Str->Option Value),x∉l.map (·.1)->bindL kd l m x=m x
 |[],_,_=>rfl
 |(n,v)::r,m,h=>by
  have a:x≠n:=fun q=>h (by rw[q];exact .head _)
  have b:x∉r.map (·.1):=fun q=>h (.tail _ q)
  unfold bindL
  rw[AI r _ b]
  split
  ·show (if x=n then some v else m x)=m x
   rw[if_neg a]
  ·rfl
theorem AJ{kd:Str->Option NameKind} {x:Str}:∀(l:List (Str×Value)) (m:Str->Option Value),x∉l.map (·.1)->bindC kd l m x=m x
 |[],_,_=>rfl
 |(n,v)::r,m,h=>by
  have a:x≠n:=fun q=>h (by rw[q];exact .head _)
  have b:x∉r.map (·.1):=fun q=>h (.tail _ q)
  unfold bindC
  rw[AJ r _ b]
  split
  ·rfl
  ·show (if x=n then some v else m x)=m x
   rw[if_neg a]
theorem Bk{kd:Str->Option NameKind} {x:Str} {u:Value} (c:kd x=some .local):∀(l:List (Str×Value)) (m:Str->Option Value),(l.map (·.1)).Nodup->(x,u)∈l->bindL kd l m x=some u
 |(n,v)::r,m,nd,h=>by
  rw[eV,pI] at nd
  unfold bindL
  rcases bP.mp h with q|q
  ·refine cA (gg q) fun a b=>?_;obtain rfl:=a;obtain rfl:=b
   rw[AI r _ nd.1,if_pos c]
   show(if x=x then some u else m x)=_
   rw[if_pos rfl]
  ·exact Bk c r _ nd.2 q
theorem Bl{kd:Str->Option NameKind} {x:Str} {u:Value} (c:kd x=some .cell):∀(l:List (Str×Value)) (m:Str->Option Value),(l.map (·.1)).Nodup->(x,u)∈l->bindC kd l m x=some u
 |(n,v)::r,m,nd,h=>by
  rw[eV,pI] at nd
  unfold bindC
  rcases bP.mp h with q|q
  ·refine cA (gg q) fun a b=>?_;obtain rfl:=a;obtain rfl:=b
   rw[AJ r _ nd.1,if_neg (by rw[c];decide)]
   show(if x=x then some u else m x)=_
   rw[if_pos rfl]
  ·exact Bl c r _ nd.2 q
theorem oE{x:Str}:∀(l:List (Str×NameKind)) (n:Nat) (b:List (Str×Addr)),((x,NameKind.cell)∈l\/(b.lookup x).isSome=true)->((cellsFrom n l b).lookup x).isSome=true
 |[],_,_,h=>by
  rcases h with h|h
  ·cases h
  ·exact h
 |(a,k)::r,n,b,h=>by
  have up:∀q,(b.lookup x).isSome=true->(((a,q)::b:List (Str×Addr)).lookup x).isSome=true:=fun q i=>by
   rw[fH];split
   ·rfl
   ·exact i
  unfold cellsFrom
  split
  ·rename_i g
   refine oE r _ _ ?_
   rcases h with h|h
   ·rcases bP.mp h with q|q
    ·refine cA (gg q) fun c d=>?_;obtain rfl:=c;obtain rfl:=d;right;rw[fH];simp
    ·exact .inl q
   ·exact .inr (up _ h)
  ·rename_i g
   refine oE r _ _ ?_
   rcases h with h|h
   ·rcases bP.mp h with q|q
    ·refine cA (gg q) fun e f=>?_;obtain rfl:=e;obtain rfl:=f;exact absurd rfl g
    ·exact .inl q
   ·exact .inr h
structure p4 (w:World) (i:Nat) (d:Fn) (n:Nat) (o:Obj) (fd:FuncData) (b:List PySem.Stmt):Prop where
 ho:(H1 w.params).get? (fa i)=some o
 hd:o.data= .func fd
 co:fd.scope.isCoroutine=false
 ge:fd.scope.isGenerator=false
 fn:fd.scope.kind= .function
 gl:fd.globals=mainGlobals
 bi:fd.builtins=builtinsNs
 cl:fd.closure=[]
 cr:(H1 w.params).CodeRec fd.code fd.qualname
 pl:Bj fd ((fD i).take n)
 pk:∀x∈(fD i).take n,fd.scope.names.lookup x=some .local\/fd.scope.names.lookup x=some .cell
 bo:fd.body= .stmts (iW d.body b)
 ok:jS (yT i fd.scope) d.body b=true
 ln:(fD i).length=d.n
 le:n<=d.n
 nd:(fD i).Nodup
theorem HP{v:Value} (h:BM v=true):v= .none:=by cases v<;>first|rfl|exact(aL h).elim
theorem Mc{d:PySem.Data}{p:Array Value->Bool} (h:EY d p=true):∃ws,d= .fields ws/\p ws=true:=by
 cases d with
 |fields ws=>exact⟨ws,rfl,h⟩
 |_=>exact(aL h).elim
theorem R9{d:PySem.Data}{p:FuncData->Bool} (h:Gh d p=true):∃fd,d= .func fd/\p fd=true:=by
 cases d with
 |func fd=>exact⟨fd,rfl,h⟩
 |_=>exact(aL h).elim
theorem Md{v:Value}{p:Addr->Bool} (h:EZ v p=true):∃c,v= .ref c/\p c=true:=by
 cases v with
 |ref c=>exact⟨c,rfl,h⟩
 |_=>exact(aL h).elim
theorem JU{v:Value}{q:Str} (h:isStr q v=true):∃t,v= .str q t:=by
 cases v with
 |str a t=>exact⟨t,beq_iff_eq.mp h▸rfl⟩
 |_=>exact(aL h).elim
theorem Sa{b:FuncBody}{p:List PySem.Stmt->Bool} (h:Gi b p=true):∃l,b= .stmts l/\p l=true:=by
 cases b with
 |stmts l=>exact⟨l,rfl,h⟩
 |_=>exact(aL h).elim
theorem IG{P:Params}{b:Value}{q:Str} (h:codeOk P b q=true):(H1 P).CodeRec b q:=by
 unfold codeOk at h
 refine aN (Md h) fun c e h=>cA (bK.mp h) fun f d=>?_
 unfold tO at d
 exact aN (any_some d) fun o ho h=>cA (bK.mp h) fun g i=>aN (Mc i) fun ws a h=>aN (any_some h) fun v j k=>cE (JU k) fun t l=>⟨c,o,ws,t,e,j2 f ho (oH g),a,l▸j⟩
theorem Me{w:World}{i n:Nat} {d:Fn} (q:Nat.blt (fa i) 1271=true) (l:((ez w.params).get (fa i)).any (fun o=>(alive o).isSome)=true) (c:qE d.body (s9 w.params i)=s9 w.params i) (h:tb w.params i d n=true):∃o fd b,p4 w i d n o fd b:=by
 unfold tb tO at h
 refine aN (any_some h) fun o ho h=>?_
 rw[ho] at l
 refine aN (R9 h) fun fd j h=>?_
 have e:=a1 (a1 (a1 (a1 (a1 h))))
 have f:=a2 (a1 (a1 (a1 (a1 h))))
 have p:=a2 (a1 (a1 (a1 h)))
 have r:=a2 (a1 (a1 h))
 have s:=a2 (a1 h)
 have t:=a2 h
 have s1:=a1 (a1 (a1 (a1 (a1 (a1 e)))))
 have s2:=a2 (a1 (a1 (a1 (a1 (a1 e)))))
 have s3:=a2 (a1 (a1 (a1 (a1 e))))
 have s4:=a2 (a1 (a1 (a1 e)))
 have u:=a2 (a1 (a1 e))
 have v:=a2 (a1 e)
 have y:=a2 e
 have z:=a1 (a1 (a1 (a1 (a1 (a1 f)))))
 have m:=a2 (a1 (a1 (a1 (a1 (a1 f)))))
 have A:=a2 (a1 (a1 (a1 (a1 f))))
 have B:=a2 (a1 (a1 (a1 f)))
 have C:=a2 (a1 (a1 f))
 have D:=a2 (a1 f)
 have E:=a2 f
 refine aN (Sa p) fun b k p=>?_
 have c:qE d.body (((ez w.params).get (fa i)).elim (.stmts []) fun o=>fdOf o.data)=((ez w.params).get (fa i)).elim (.stmts []) fun o=>fdOf o.data:=c
 rw[ho] at c
 have c:qE d.body (fdOf o.data)=fdOf o.data:=c
 rw[j] at c
 have c:qE d.body fd.body=fd.body:=c
 rw[k] at c
 have m:=beq_iff_eq.mp m
 refine⟨o,fd,b,j2 q ho (oH l),j,nb s1,nb s2,beq_iff_eq.mp s3,beq_iff_eq.mp s4,beq_iff_eq.mp u,nj.mp v,IG y,⟨nj.mp z,m,Option.isNone_iff_eq_none.mp A,nj.mp B,Option.isNone_iff_eq_none.mp C,HP D⟩,fun x c=>?_,k.trans c.symm,p,of_decide_eq_true r,of_decide_eq_true s,of_decide_eq_true t⟩
 rw[<-m] at c
 refine aN (km.mp c) fun a l g=>?_;obtain rfl:=g
 exact(rY.mp (cG.mp E a l)).imp beq_iff_eq.mp beq_iff_eq.mp
section
section
variable {w:World} {h₀:Heap} {mg mb:Str->Option Value} {s aC:Shared} {φ:Addr->Prop} {μ:List Loc} {st aB:St} {A:Around}
theorem JV{n i:Nat} {vs:List V} {v:V} (h:(fC n vs)[i]?=some (.v v)):i<vs.length/\vs[i]?=some v:=by
 unfold fC at h
 rcases kl i vs.length with q|q
 ·refine ⟨q,?_⟩
  rw[fG (by simpa using q),nx] at h
  refine aN (wj.mp h) fun x a e=>?_
  cases e;exact a
 ·rw[ft (by simpa using q),List.getElem?_replicate] at h
  split at h<;>cases h
theorem q7{n i:Nat} {vs:List V} {l:List V} (h:(fC n vs)[i]?=some (.own l)):False:=by
 unfold fC at h
 rcases kl i vs.length with q|q
 ·rw[fG (by simpa using q),nx] at h
  refine aN (wj.mp h) fun x a e=>?_
  cases e
 ·rw[ft (by simpa using q),List.getElem?_replicate] at h
  split at h<;>cases h
theorem JW{vs:List V} {b:List Value} {h:Heap} (y:aJ w h φ μ vs b):∀{i:Nat} {v:V},vs[i]?=some v->∃u,b[i]?=some u/\VR w h φ μ v u:=by
 induction vs generalizing b with
 |nil=>intro i v e;exact(aM e).elim
 |cons a r ih=>
  obtain⟨_,_,c,d,rfl⟩:=aJ.inv y
  intro i v e
  cases i with
  |zero=>obtain rfl:=aR e;exact⟨_,rfl,c⟩
  |succ i=>exact ih d e
theorem II{i:Nat}{d:Fn}{n:Nat}{o:Obj}{fd:FuncData}{b:List PySem.Stmt} (F:p4 w i d n o fd b) {vs:List V} {g:List Value} (A:n=vs.length) (ph:Ph φ) (R:SR w h₀ s.heap φ μ st) (y:aJ w s.heap φ μ vs g)
  (x:InCallC s (callEnvC fd s.heap.objs.size (fa i)).locals (bindL (callEnvC fd s.heap.objs.size (fa i)).kindOf (((fD i).take n).zip g) fun _=>none) (callEnvC fd s.heap.objs.size (fa i)).cells
    (bindC (callEnvC fd s.heap.objs.size (fa i)).kindOf (((fD i).take n).zip g) fun _=>none) aC):
  FX w h₀ (yT i fd.scope) (callEnvC fd s.heap.objs.size (fa i)) s φ μ (fun _=>0) (fC d.n vs) st aC φ μ:=by
 have t:=y.length
 have dead:∀a,s.heap.objs.size<=a->s.heap.get? a=none:=fun a h=>Heap.get?_none_of_le h
 have e:∀a,FA (callEnvC fd s.heap.objs.size (fa i)) a->s.heap.objs.size<=a:=fun a h=>by
  rcases h with rfl|⟨z,hz⟩
  ·exact aO _
  ·exact pA (x.above z a (mem_of_lookup hz))
 have lv:∀a,FA (callEnvC fd s.heap.objs.size (fa i)) a->(aC.heap.get? a).isSome=true:=fun a h=>by
  rcases h with rfl|⟨z,hz⟩
  ·refine j5 x.toInCall.ns fun o _ _ ho _=>?_;rw[ho];rfl
  ·refine aN (x.cell z a hz) fun o ho _=>?_;rw[ho];rfl
 refine gp x.done fun k B C k1=>?_
 subst C
 refine cA (R.pure (s':={s with heap:=k,toks:=B}) (aD:=φ) k1 (fun _ f=>f) (fun _ f n=>absurd f n) rfl rfl) fun X D=>?_
 have E:=X.mono R
 have nd:((((fD i).take n).zip g).map (·.1)).Nodup:=by
  rw[List.map_fst_zip (by rw[<-t,<-A];exact List.length_take_le ..)]
  exact F.nd.sublist (List.take_sublist ..)
 refine⟨X,fun a h=>dead a (e a h),⟨⟨F.fn,fun _=>rfl,F.gl,F.bi⟩,⟨_,x.toInCall.ns⟩,fun z c r=>⟨_,x.cell z c r⟩,fun z N c G H=>name_of_addr x.apart (mem_of_lookup G) (mem_of_lookup H),fun z hz=>?_,fun a h=>⟨fun f=>?_,fun m=>?_,?_,lv a h⟩,fun j v z I hz O=>?_,fun j l z hl _ _=>(q7 hl).elim,fun j l hl=>(q7 hl).elim,fun j Q l m hl _ _=>(q7 hl).elim⟩,D,ph⟩
 ·exact oE _ _ _ (.inl (mem_of_lookup hz))
 ·have:=R.fz a f;rw[dead a (e a h)] at this;exact(aL this).elim
 ·have:=(R.off a m).2.2;rw[dead a (e a h)] at this;exact(aL this).elim
 ·cases q:h₀.get? a with
  |none=>rfl
  |some o=>have:=R.base a o q;rw[dead a (e a h)] at this;exact(aM this).elim
 ·refine cA (JV I) fun J L=>?_
  refine aN (JW y L) fun u hu M=>?_
  have p:((fD i).take n)[j]?=some z:=by rw[List.getElem?_take,if_pos (Uk A J)];exact hz
  have hm:(z,u)∈((fD i).take n).zip g:=iY (i:=j) (sA.mpr ⟨p,hu⟩)
  refine⟨u,?_,M.mono E⟩
  rcases F.pk z (iY p) with q|q
  ·exact .loc q x.toInCall.ns (Bk q _ _ nd hm)
  ·refine cE (fP.mp (oE (x:=z) fd.scope.names (s.heap.objs.size+1) [] (.inl (mem_of_lookup q)))) fun c r=>?_
   refine .iF (.inl q) r ?_
   have:=x.cell z c r
   rw[Bl q _ _ nd hm] at this
   exact this
theorem HQ{N:Nat} (G:ed w h₀ mg mb) (X:(kF w.params).In h₀) (all:∀i d,PP.fn i=some d->∃o fd b,p4 w i d (PP.ar i) o fd b) (C:mI w h₀ N):mI w h₀ (N+1):=by
 intro A B i vs st v aB cZ s φ μ us R ph RS y p
 rw[Ik] at cZ
 cases hd:PP.fn i with
 |none=>rw[hd] at cZ;exact(aM cZ).elim
 |some d=>
 rw[hd] at cZ
 dsimp only at cZ
 split at cZ
 ·rename_i tP
  have tP:=beq_iff_eq.mp tP
  refine UN (all i d hd) fun o fd b F=>?_
  obtain⟨⟨fl,e'⟩,eA,g1,g2⟩:=bind_some cZ
  have keep:=fun a o (h:(H1 w.params).get? a=some o)=>RS.base a o (G.k1 a o h)
  have YZ:=y.length
  have hV:((fD i).take (PP.ar i)).length=PP.ar i:=by rw[pH,F.ln];exact Nat.min_eq_left F.le
  have Y0:((fD i).take (PP.ar i)).Nodup:=F.nd.sublist (List.take_sublist ..)
  refine codeAny_call_cells (fd:=fd) (o:=o) (body:=iW d.body b) (binds:=((fD i).take (PP.ar i)).zip us) (Nat.lt_of_le_of_lt (by have:=B.dp;exact Ul this:A.depth<=997) (by decide)) (keep _ _ F.ho) F.hd (G.lim.keeps RS.base) (F.cr.keeps keep) F.bo
   (Hl F.pl Y0 (by rw[hV,tP];exact YZ.symm)) F.cl (fun z hz=>?_) (fun aC x=>?_) F.co F.ge F.fn
  ·have zy:=(List.of_mem_zip hz).1
   rcases F.pk _ zy with q|q
   ·exact .inl q
   ·exact .inr ⟨q,oE _ _ _ (.inl (mem_of_lookup q))⟩
  ·have H:=II F tP ph RS y x
   have Bb:lK (A.deeper (callEnvC fd s.heap.objs.size (fa i))) N:=⟨B.hd,by show A.depth+1+2*N+1<=999;have:=B.dp;exact Um this,by show A.units+3+10*N+505<=cLine;have:=B.un;exact Un this⟩
   refine bS ⟨G,X,JC X C Bb,by have:=Bb.un;exact Uo this,B.hd⟩ F.nd d.body F.ok _ s φ μ _ _ st fl e' eA aC φ μ _ _ g1 H ?_
   cases fl with
   |next=>
    obtain⟨rfl,rfl⟩:=br g2
    exact fun s' aD aE dT z F' R'=>p _ _ _ _ (z.ext H.x H.hf fun i l h=>(q7 h).elim) R' .none
   |ret v'=>
    obtain⟨rfl,rfl⟩:=br g2
    exact fun u s' aD aE z R' vv=>p _ _ _ _ z R' vv
 ·exact (aM cZ).elim
theorem HR:mI w h₀ 0:=fun _ _ _ _ _ _ _ h=>nomatch h
theorem Bm (G:ed w h₀ mg mb) (X:(kF w.params).In h₀) (all:∀i d,PP.fn i=some d->∃o fd b,p4 w i d (PP.ar i) o fd b):∀N,mI w h₀ N
 |0=>HR
 |N+1=>HQ G X all (Bm G X all N)
end
end
noncomputable def fv (P:Params) (a:Nat):Bool:=(List.range 8).all fun r=>match l8[a+r]? with
 |some d=>tb P (a+r) d (PP.ar (a+r))&&Nat.blt (fa (a+r)) 1271&&((ez P).get (fa (a+r))).any fun o=>(alive o).isSome
 |none=>true
theorem c0 (P:Params):fv P 0=true:=by kernel_rfl
theorem c1 (P:Params):fv P 8=true:=by kernel_rfl
theorem c2 (P:Params):fv P 16=true:=by kernel_rfl
theorem c3 (P:Params):fv P 24=true:=by kernel_rfl
theorem c4 (P:Params):fv P 32=true:=by kernel_rfl
theorem c5 (P:Params):fv P 40=true:=by kernel_rfl
theorem c6 (P:Params):fv P 48=true:=by kernel_rfl
theorem c7 (P:Params):fv P 56=true:=by kernel_rfl
theorem c8 (P:Params):fv P 64=true:=by kernel_rfl
theorem c9 (P:Params):fv P 72=true:=by kernel_rfl
theorem Y1 (P:Params):fv P 80=true:=by kernel_rfl
theorem Y2 (P:Params):fv P 88=true:=by kernel_rfl
theorem Y3 (P:Params):fv P 96=true:=by kernel_rfl
theorem Y4 (P:Params):fv P 104=true:=by kernel_rfl
theorem Y5 (P:Params):fv P 112=true:=by kernel_rfl
theorem Y6 (P:Params):fv P 120=true:=by kernel_rfl
noncomputable def e9 (P:Params) (a:Nat):List FuncBody:=(List.range 8).map fun r=>s9 P (a+r)
noncomputable def fe (P:Params) (a:Nat):List FuncBody:=(List.range 8).map fun r=>qE ((l8[a+r]?.map (·.body)).getD []) (s9 P (a+r))
theorem d0 (P:Params):fe P 0=e9 P 0:=by kernel_rfl
theorem d1 (P:Params):fe P 8=e9 P 8:=by kernel_rfl
theorem d2 (P:Params):fe P 16=e9 P 16:=by kernel_rfl
theorem d3 (P:Params):fe P 24=e9 P 24:=by kernel_rfl
theorem d4 (P:Params):fe P 32=e9 P 32:=by kernel_rfl
theorem d5 (P:Params):fe P 40=e9 P 40:=by kernel_rfl
theorem d6 (P:Params):fe P 48=e9 P 48:=by kernel_rfl
theorem d7 (P:Params):fe P 56=e9 P 56:=by kernel_rfl
theorem d8 (P:Params):fe P 64=e9 P 64:=by kernel_rfl
theorem d9 (P:Params):fe P 72=e9 P 72:=by kernel_rfl
theorem Y7 (P:Params):fe P 80=e9 P 80:=by kernel_rfl
theorem Y8 (P:Params):fe P 88=e9 P 88:=by kernel_rfl
theorem Y9 (P:Params):fe P 96=e9 P 96:=by kernel_rfl
theorem Za (P:Params):fe P 104=e9 P 104:=by kernel_rfl
theorem Zb (P:Params):fe P 112=e9 P 112:=by kernel_rfl
theorem Zc (P:Params):fe P 120=e9 P 120:=by kernel_rfl
theorem ck (P:Params):∀j,j<16->fv P (8*j)=true
 |0,_=>c0 P
 |1,_=>c1 P
 |2,_=>c2 P
 |3,_=>c3 P
 |4,_=>c4 P
 |5,_=>c5 P
 |6,_=>c6 P
 |7,_=>c7 P
 |8,_=>c8 P
 |9,_=>c9 P
 |10,_=>Y1 P
 |11,_=>Y2 P
 |12,_=>Y3 P
 |13,_=>Y4 P
 |14,_=>Y5 P
 |15,_=>Y6 P
 |n+16,h=>absurd h (Ed)
theorem dk (P:Params):∀j,j<16->fe P (8*j)=e9 P (8*j)
 |0,_=>d0 P
 |1,_=>d1 P
 |2,_=>d2 P
 |3,_=>d3 P
 |4,_=>d4 P
 |5,_=>d5 P
 |6,_=>d6 P
 |7,_=>d7 P
 |8,_=>d8 P
 |9,_=>d9 P
 |10,_=>Y7 P
 |11,_=>Y8 P
 |12,_=>Y9 P
 |13,_=>Za P
 |14,_=>Zb P
 |15,_=>Zc P
 |n+16,h=>absurd h (Ed)
theorem Mf:l8.length=124:=by decide+kernel
theorem JX (w:World):∀i d,PP.fn i=some d->∃o fd b,p4 w i d (PP.ar i) o fd b:=by
 intro i d e
 have hi:i<124:=by have:=(et.mp (show l8[i]?=some d from e)).1;rwa [Mf] at this
 have h:tb w.params i d (PP.ar i)=true/\Nat.blt (fa i) 1271=true/\(((ez w.params).get (fa i)).any fun o=>(alive o).isSome)=true:=by
  have q:=cG.mp (ck w.params (i/8) (Ee hi)) (i%8) (su.mpr (Nat.mod_lt _ (by decide)))
  rw[Nat.div_add_mod i 8,show l8[i]?=some d from e] at q
  dsimp only at q
  exact⟨a1 (a1 q),a2 (a1 q),a2 q⟩
 refine Me h.2.1 h.2.2 ?_ h.1
 have q:=congrArg (fun l=>l[i%8]?) (dk w.params (i/8) (Ee hi))
 unfold fe e9 at q
 rw[nx,nx,List.getElem?_range (Nat.mod_lt _ (by decide)),Option.map_some,Option.map_some,Nat.div_add_mod i 8,show l8[i]?=some d from e] at q
 exact aR q
abbrev Zd:Prop:=∀ns:List Int,ns.length<=63->∃N st,N<=345/\run PP N 123 [.lst (ns.map .int)] []=some (.bool true,st)
noncomputable def VI (P:Params):Bool:=(sysModules::eQ).all fun a=>Nat.blt a 1271&&((ez P).get a).any fun o=>(alive o).isSome
theorem Sb (P:Params):VI P=true:=by kernel_rfl
theorem JY{P:Params}{a:Addr} (h:a∈sysModules::eQ):((H1 P).get? a).isSome=true:=by
 have:=cG.mp (Sb P) a h
 obtain⟨c,b⟩:=bK.mp this
 cases g:(ez P).get a with
 |none=>rw[g] at b;exact(aL b).elim
 |some o=>
  rw[g] at b
  rw[j2 c g (oH b)];rfl
theorem Bn{w:World}{h:Heap}{φ:Addr->Prop}{μ:List Loc}:∀{a:List Value} {ns:List Int},IntsAre a ns->aJ w h φ μ (ns.map .int) a
 |_,_,.nil=> .nil
 |_,_,.cons _ _ r=> .cons (.int _ _) (Bn r)
theorem ZX (L:Zd):Walk:=by
 intro w s ns bQ mg mb hl hi k hs ho hg G B lim bi
 refine gp (L ns hl) fun N st hN hr=>?_
 have X:(kF w.params).In s.heap:=(QV w.params).keeps k
 have GG:ed w s.heap mg mb:=⟨k,G,B,bi,lim⟩
 have lv:∀a∈sysModules::eQ,(s.heap.get? a).isSome=true:=fun a ha=>by
  refine cE (fP.mp (JY (P:=w.params) ha)) fun o h=>?_
  rw[k a o h];rfl
 have R:SR w s.heap s.heap (fun a=>a∈eQ\/a=1271) [] []:=by
  refine⟨fun _ _ h=>h,rfl,(fun _ _ h=>nomatch h),(fun _ h=>nomatch h),(fun _ _ _ _ h=>nomatch h),fun a h=>?_,by decide,lv _ (.head _)⟩
  rcases h with h|rfl
  ·exact lv a (.tail _ h)
  ·rw[ho];rfl
 have C:=Bm GG X (JX w) N callerA ⟨rfl,by show 301+2*N<=999;exact Up hN,by show 4+10*N+500<=9900;exact Uq hN⟩ 123 _ _ _ _ hr s (fun a=>a∈eQ\/a=1271) [] [.ref 1271]
 have Sd:fa 123=1270:=by decide+kernel
 rw[Sd] at C
 refine wpAny_call (C _ (fun a h=> .inl h) R (.cons (.lst (.inr rfl) ho (Bn hi)) .nil) fun u s' aD aE x R' v=>?_)
 obtain rfl:=VR.inv v
 exact⟨rfl,R'.base,x.os,x.gens.trans hg⟩
end
namespace Q
section
open PySem
structure B where
 nums:List V
 ct:Int
 left:Int
 vd:List (V×V)
 fd:List (V×V)
 vl:List V
 ll:List V
noncomputable def B.st (b:B) (tl:List Ob):St:= .list b.nums::
 .inst 5 [(27,(.obj 2)),(28,(.lst [.none,.none,.none,.none,.none,.none,.none,.none,.none,.none,.none,.none,.none,.none,.none,.none,.none,.none,.none,.none,.none,.none,.none,.none,.none,.none,.none,.none,.none,.none,.none,.none,.none,.none,.none,.none,.none,.none,.none,.none,.none,.none,.none,.none,.none,.none,.none,.none,.none,.none,.none,.none,.none,.none,.none,.none,.none,.none,.none,.none,.none,.none,.none,.none,(.obj 19),(.obj 29),(.obj 39),(.obj 49),(.obj 59)])),(29,(.obj 9)),(18,(.obj 10)),(30,(.obj 11)),(31,(.obj 12)),(32,(.int 0))]::
 .inst 3 [(2,(.obj 3)),(3,(.obj 4)),(4,(.obj 5)),(5,(.obj 6)),(6,(.obj 7))]::
 .list [(.tup [(.int 1),(.int 0)]),(.tup [(.int 1),(.int 1)]),(.tup [(.int 1),(.int 2)]),(.tup [(.int 1),(.int 3)]),(.tup [(.int 1),(.int 4)]),(.tup [(.int 1),(.int 5)]),(.tup [(.int 1),(.int 6)]),(.tup [(.int 1),(.int 7)]),(.tup [(.int 1),(.int 8)]),(.tup [(.int 1),(.int 9)]),(.tup [(.int 1),(.int 10)]),(.tup [(.int 1),(.int 11)]),(.tup [(.int 1),(.int 12)]),(.tup [(.int 1),(.int 13)]),(.tup [(.int 1),(.int 14)]),(.tup [(.int 1),(.int 15)]),(.tup [(.int 3),(.int 64),(.tup [])]),(.tup [(.int 3),(.int 65),(.tup [])]),(.tup [(.int 3),(.int 66),(.tup [])]),(.tup [(.int 2),(.int 67),(.tup [])]),(.tup [(.int 2),(.int 68),(.tup [])]),(.tup [(.int 7),(.int 0)]),(.tup [(.int 3),(.int 8),(.tup [(.int 7)])]),(.tup [(.int 3),(.int 8),(.tup [(.int 9)])]),(.tup [(.int 3),(.int 8),(.tup [(.int 1)])]),(.tup [(.int 3),(.int 8),(.tup [(.int 16)])]),(.tup [(.int 3),(.int 8),(.tup [(.int 17)])]),(.tup [(.int 4),(.int 7)]),(.tup [(.int 4),(.int 9)]),(.tup [(.int 4),(.int 22)]),(.tup [(.int 4),(.int 13)]),(.tup [(.int 4),(.int 18)])]::
 .dict [((.tup [(.int 1),(.int 0)]),(.int 0)),((.tup [(.int 1),(.int 1)]),(.int 1)),((.tup [(.int 1),(.int 2)]),(.int 2)),((.tup [(.int 1),(.int 3)]),(.int 3)),((.tup [(.int 1),(.int 4)]),(.int 4)),((.tup [(.int 1),(.int 5)]),(.int 5)),((.tup [(.int 1),(.int 6)]),(.int 6)),((.tup [(.int 1),(.int 7)]),(.int 7)),((.tup [(.int 1),(.int 8)]),(.int 8)),((.tup [(.int 1),(.int 9)]),(.int 9)),((.tup [(.int 1),(.int 10)]),(.int 10)),((.tup [(.int 1),(.int 11)]),(.int 11)),((.tup [(.int 1),(.int 12)]),(.int 12)),((.tup [(.int 1),(.int 13)]),(.int 13)),((.tup [(.int 1),(.int 14)]),(.int 14)),((.tup [(.int 1),(.int 15)]),(.int 15)),((.tup [(.int 3),(.int 64),(.tup [])]),(.int 16)),((.tup [(.int 3),(.int 65),(.tup [])]),(.int 17)),((.tup [(.int 3),(.int 66),(.tup [])]),(.int 18)),((.tup [(.int 2),(.int 67),(.tup [])]),(.int 19)),((.tup [(.int 2),(.int 68),(.tup [])]),(.int 20)),((.tup [(.int 7),(.int 0)]),(.int 21)),((.tup [(.int 3),(.int 8),(.tup [(.int 7)])]),(.int 22)),((.tup [(.int 3),(.int 8),(.tup [(.int 9)])]),(.int 23)),((.tup [(.int 3),(.int 8),(.tup [(.int 1)])]),(.int 24)),((.tup [(.int 3),(.int 8),(.tup [(.int 16)])]),(.int 25)),((.tup [(.int 3),(.int 8),(.tup [(.int 17)])]),(.int 26)),((.tup [(.int 4),(.int 7)]),(.int 27)),((.tup [(.int 4),(.int 9)]),(.int 28)),((.tup [(.int 4),(.int 22)]),(.int 29)),((.tup [(.int 4),(.int 13)]),(.int 30)),((.tup [(.int 4),(.int 18)]),(.int 31))]::
 .list [(.int 1),(.int 1),(.int 1),(.int 1),(.int 1),(.int 1),(.int 1),(.int 1),(.int 1),(.int 1),(.int 1),(.int 1),(.int 1),(.int 1),(.int 1),(.int 1),(.int 1),(.int 1),(.int 1),(.int 1),(.int 1),(.int 1),(.int 2),(.int 2),(.int 2),(.int 2),(.int 2),(.int 2),(.int 2),(.int 3),(.int 2),(.int 2)]::
 .list [(.int 1),(.int 1),(.int 1),(.int 1),(.int 1),(.int 1),(.int 1),(.int 1),(.int 1),(.int 1),(.int 1),(.int 1),(.int 1),(.int 1),(.int 1),(.int 1),(.int 1),(.int 1),(.int 1),(.int 1),(.int 1),(.int 1),(.int 2),(.int 2),(.int 2),(.int 2),(.int 2),(.int 2),(.int 2),(.int 3),(.int 2),(.int 2)]::
 .list [(.int 0),(.int 0),(.int 0),(.int 0),(.int 0),(.int 0),(.int 0),(.int 0),(.int 0),(.int 0),(.int 0),(.int 0),(.int 0),(.int 0),(.int 0),(.int 0),(.int 0),(.int 0),(.int 0),(.int 0),(.int 0),(.int 1),(.int 0),(.int 0),(.int 0),(.int 0),(.int 0),(.int 0),(.int 0),(.int 0),(.int 0),(.int 0)]::
 .list [.none]::
 .list [.none]::
 .list [.none]::
 .dict []::
 .list []::
 .dict b.vd::
 .dict b.fd::
 .dict [((.str 78),(.obj 0)),((.str 1),(.int b.ct)),((.str 82),(.int b.left)),((.str 27),(.obj 2)),((.str 48),(.obj 13)),((.str 17),(.obj 14)),((.str 87),(.int 16)),((.str 88),(.int 17)),((.str 85),(.int 18)),((.str 86),(.int 19)),((.str 96),(.int 20)),((.str 93),(.int 21)),((.str 21),(.bZ [(.int 16),(.int 17)] [(.int 7),(.int 9)])),((.str 80),(.tup [(.int 7),(.int 9),(.int 16),(.int 17)])),((.str 83),(.obj 16)),((.str 84),(.obj 17)),((.str 2),(.obj 18)),((.str 54),(.obj 69))]::
 .dict [((.int 7),(.int 22)),((.int 9),(.int 23)),((.int 1),(.int 24)),((.int 16),(.int 25)),((.int 17),(.int 26))]::
 .dict [((.int 22),(.int 7)),((.int 23),(.int 9)),((.int 24),(.int 1)),((.int 25),(.int 16)),((.int 26),(.int 17))]::
 .dict [((.int 7),(.int 27)),((.int 9),(.int 28)),((.int 22),(.int 29)),((.int 13),(.int 30)),((.int 18),(.int 31))]::
 .inst 4 [(8,(.int 64)),(9,(.str 98)),(10,(.int 5)),(11,(.int 0)),(12,(.int (-1))),(13,(.obj 20)),(14,(.obj 21)),(15,(.obj 22)),(16,(.obj 23)),(17,(.obj 24)),(18,(.obj 25)),(19,(.int 1)),(20,(.int 0)),(21,(.int 7)),(22,(.obj 26)),(23,(.obj 27)),(24,(.obj 28)),(25,(.int 0)),(26,(.int 0))]::
 .list []::
 .list []::
 .list []::
 .list []::
 .list []::
 .list []::
 .list []::
 .list []::
 .list []::
 .inst 4 [(8,(.int 65)),(9,(.str 98)),(10,(.int 5)),(11,(.int 0)),(12,(.int (-1))),(13,(.obj 30)),(14,(.obj 31)),(15,(.obj 32)),(16,(.obj 33)),(17,(.obj 34)),(18,(.obj 35)),(19,(.int 1)),(20,(.int 0)),(21,(.int 9)),(22,(.obj 36)),(23,(.obj 37)),(24,(.obj 38)),(25,(.int 0)),(26,(.int 0))]::
 .list []::
 .list []::
 .list []::
 .list []::
 .list []::
 .list []::
 .list []::
 .list []::
 .list []::
 .inst 4 [(8,(.int 66)),(9,(.str 98)),(10,(.int 2)),(11,(.int 0)),(12,(.int (-1))),(13,(.obj 40)),(14,(.obj 41)),(15,(.obj 42)),(16,(.obj 43)),(17,(.obj 44)),(18,(.obj 45)),(19,(.int 1)),(20,(.int 0)),(21,(.int (-1))),(22,(.obj 46)),(23,(.obj 47)),(24,(.obj 48)),(25,(.int 0)),(26,(.int 0))]::
 .list []::
 .list []::
 .list []::
 .list []::
 .list []::
 .list []::
 .list []::
 .list []::
 .list []::
 .inst 4 [(8,(.int 67)),(9,(.str 98)),(10,(.int 1)),(11,(.int 0)),(12,(.int (-1))),(13,(.obj 50)),(14,(.obj 51)),(15,(.obj 52)),(16,(.obj 53)),(17,(.obj 54)),(18,(.obj 55)),(19,(.int 1)),(20,(.int 0)),(21,(.int (-1))),(22,(.obj 56)),(23,(.obj 57)),(24,(.obj 58)),(25,(.int 0)),(26,(.int 0))]::
 .list []::
 .list []::
 .list []::
 .list []::
 .list []::
 .list []::
 .list []::
 .list []::
 .list []::
 .inst 4 [(8,(.int 68)),(9,(.str 98)),(10,(.int 4)),(11,(.int 0)),(12,(.int (-1))),(13,(.obj 60)),(14,(.obj 61)),(15,(.obj 62)),(16,(.obj 63)),(17,(.obj 64)),(18,(.obj 65)),(19,(.int 1)),(20,(.int 0)),(21,(.int (-1))),(22,(.obj 66)),(23,(.obj 67)),(24,(.obj 68)),(25,(.int 0)),(26,(.int 0))]::
 .list []::
 .list []::
 .list []::
 .list []::
 .list []::
 .list []::
 .list []::
 .list []::
 .list []::
 .inst 9 [(46,(.obj 1)),(19,(.int 1)),(47,(.obj 70)),(48,(.obj 71)),(49,(.obj 72)),(50,(.obj 73)),(51,(.obj 75)),(52,(.obj 76)),(53,(.obj 77))]::
 .list [.none,(.obj 78)]::
 .list b.vl::
 .dict []::
 .inst 6 [(2,(.obj 74))]::
 .list []::
 .dict []::
 .dict []::
 .dict []::
 .inst 8 [(38,(.int 1)),(39,(.int 0)),(40,(.obj 79)),(14,(.obj 80)),(41,(.int (-1))),(42,(.int 0)),(43,.none),(44,(.int 0)),(10,(.int 0)),(45,(.int (-1))),(1,(.int 0))]::
 .list b.ll::
 .list []::tl
noncomputable def ff:List Int:=[0,1,7,9,12,13,14,16,17,18,19,20,21,22,23,24,25,26,27,28,29,30,31]
noncomputable def aad:List V:=[(.tup [(.int 1),(.int 0)]),(.tup [(.int 1),(.int 1)]),(.tup [(.int 1),(.int 2)]),(.tup [(.int 1),(.int 3)]),(.tup [(.int 1),(.int 4)]),(.tup [(.int 1),(.int 5)]),(.tup [(.int 1),(.int 6)]),(.tup [(.int 1),(.int 7)]),(.tup [(.int 1),(.int 8)]),(.tup [(.int 1),(.int 9)]),(.tup [(.int 1),(.int 10)]),(.tup [(.int 1),(.int 11)]),(.tup [(.int 1),(.int 12)]),(.tup [(.int 1),(.int 13)]),(.tup [(.int 1),(.int 14)]),(.tup [(.int 1),(.int 15)]),(.tup [(.int 3),(.int 64),(.tup [])]),(.tup [(.int 3),(.int 65),(.tup [])]),(.tup [(.int 3),(.int 66),(.tup [])]),(.tup [(.int 2),(.int 67),(.tup [])]),(.tup [(.int 2),(.int 68),(.tup [])]),(.tup [(.int 7),(.int 0)]),(.tup [(.int 3),(.int 8),(.tup [(.int 7)])]),(.tup [(.int 3),(.int 8),(.tup [(.int 9)])]),(.tup [(.int 3),(.int 8),(.tup [(.int 1)])]),(.tup [(.int 3),(.int 8),(.tup [(.int 16)])]),(.tup [(.int 3),(.int 8),(.tup [(.int 17)])]),(.tup [(.int 4),(.int 7)]),(.tup [(.int 4),(.int 9)]),(.tup [(.int 4),(.int 22)]),(.tup [(.int 4),(.int 13)]),(.tup [(.int 4),(.int 18)])]
noncomputable def VJ (k:Int):Bool:=[(1:Int),(7:Int),(9:Int),(16:Int),(17:Int),(18:Int),(22:Int),(23:Int),(24:Int),(25:Int),(26:Int)].contains k
theorem ZM (n:Nat) (b:B) (tl:List Ob):∀k∈ff,run PP (n+4) 15 [.obj 2,.int k] (b.st tl)=some (.bool (VJ k),b.st tl):=by
 intro k a
 simp only[ff,bP,cp,or_false] at a
 rcases a with rfl|rfl|rfl|rfl|rfl|rfl|rfl|rfl|rfl|rfl|rfl|rfl|rfl|rfl|rfl|rfl|rfl|rfl|rfl|rfl|rfl|rfl|rfl<;>kernel_rfl
noncomputable def VK (k:Int):Bool:=[(12:Int),(13:Int),(14:Int),(19:Int),(20:Int),(27:Int),(28:Int),(29:Int),(30:Int),(31:Int)].contains k
theorem ZN (n:Nat) (b:B) (tl:List Ob):∀k∈ff,run PP (n+4) 16 [.obj 2,.int k] (b.st tl)=some (.bool (VK k),b.st tl):=by
 intro k a
 simp only[ff,bP,cp,or_false] at a
 rcases a with rfl|rfl|rfl|rfl|rfl|rfl|rfl|rfl|rfl|rfl|rfl|rfl|rfl|rfl|rfl|rfl|rfl|rfl|rfl|rfl|rfl|rfl|rfl<;>kernel_rfl
noncomputable def VL (k:Int):Bool:=[(21:Int)].contains k
theorem ZO (n:Nat) (b:B) (tl:List Ob):∀k∈ff,run PP (n+4) 17 [.obj 2,.int k] (b.st tl)=some (.bool (VL k),b.st tl):=by
 intro k a
 simp only[ff,bP,cp,or_false] at a
 rcases a with rfl|rfl|rfl|rfl|rfl|rfl|rfl|rfl|rfl|rfl|rfl|rfl|rfl|rfl|rfl|rfl|rfl|rfl|rfl|rfl|rfl|rfl|rfl<;>kernel_rfl
noncomputable def VM (k:Int):Bool:=[(22:Int),(23:Int),(24:Int),(25:Int),(26:Int)].contains k
theorem ZP (n:Nat) (b:B) (tl:List Ob):∀k∈ff,run PP (n+4) 21 [.obj 2,.int k] (b.st tl)=some (.bool (VM k),b.st tl):=by
 intro k a
 simp only[ff,bP,cp,or_false] at a
 rcases a with rfl|rfl|rfl|rfl|rfl|rfl|rfl|rfl|rfl|rfl|rfl|rfl|rfl|rfl|rfl|rfl|rfl|rfl|rfl|rfl|rfl|rfl|rfl<;>kernel_rfl
noncomputable def VN (k:Int):Bool:=[(1:Int),(7:Int),(9:Int),(16:Int),(17:Int),(18:Int),(21:Int),(22:Int),(23:Int),(24:Int),(25:Int),(26:Int)].contains k
theorem ZQ (n:Nat) (b:B) (tl:List Ob):∀k∈ff,run PP (n+4) 52 [.obj 2,.int k] (b.st tl)=some (.bool (VN k),b.st tl):=by
 intro k a
 simp only[ff,bP,cp,or_false] at a
 rcases a with rfl|rfl|rfl|rfl|rfl|rfl|rfl|rfl|rfl|rfl|rfl|rfl|rfl|rfl|rfl|rfl|rfl|rfl|rfl|rfl|rfl|rfl|rfl<;>kernel_rfl
noncomputable def VO (k:Int):Bool:=[(12:Int),(13:Int),(19:Int),(20:Int),(27:Int),(28:Int),(29:Int),(30:Int),(31:Int)].contains k
theorem ZR (n:Nat) (b:B) (tl:List Ob):∀k∈ff,run PP (n+4) 115 [.obj 15,.int k] (b.st tl)=some (.bool (VO k),b.st tl):=by
 intro k a
 simp only[ff,bP,cp,or_false] at a
 rcases a with rfl|rfl|rfl|rfl|rfl|rfl|rfl|rfl|rfl|rfl|rfl|rfl|rfl|rfl|rfl|rfl|rfl|rfl|rfl|rfl|rfl|rfl|rfl<;>kernel_rfl
noncomputable def Se (k:Int):Int:=match k with
 |16=>3
 |17=>3
 |18=>3
 |19=>2
 |20=>2
 |21=>7
 |22=>3
 |23=>3
 |24=>3
 |25=>3
 |26=>3
 |27=>4
 |28=>4
 |29=>4
 |30=>4
 |31=>4
 |_=>1
noncomputable def VQ (k:Int):List V:=match k with
 |22=>[.int 7]
 |23=>[.int 9]
 |24=>[.int 1]
 |25=>[.int 16]
 |26=>[.int 17]
 |_=>[]
theorem ZE (n:Nat) (b:B) (tl:List Ob):∀k∈ff,run PP (n+4) 12 [.obj 2,.int k] (b.st tl)=some (.int (Se k),b.st tl):=by
 intro k a
 simp only[ff,bP,cp,or_false] at a
 rcases a with rfl|rfl|rfl|rfl|rfl|rfl|rfl|rfl|rfl|rfl|rfl|rfl|rfl|rfl|rfl|rfl|rfl|rfl|rfl|rfl|rfl|rfl|rfl<;>kernel_rfl
theorem ZS (n:Nat) (b:B) (tl:List Ob):∀k∈ff,run PP (n+4) 14 [.obj 2,.int k] (b.st tl)=some (.tup (VQ k),b.st tl):=by
 intro k a
 simp only[ff,bP,cp,or_false] at a
 rcases a with rfl|rfl|rfl|rfl|rfl|rfl|rfl|rfl|rfl|rfl|rfl|rfl|rfl|rfl|rfl|rfl|rfl|rfl|rfl|rfl|rfl|rfl|rfl<;>kernel_rfl
noncomputable def Mg (k:Int):Int:=match k with
 |22=>7
 |23=>9
 |24=>1
 |25=>16
 |26=>17
 |k=>k
theorem ZD (n:Nat) (b:B) (tl:List Ob):∀k∈ff,run PP (n+6) 90 [.obj 2,.int k] (b.st tl)=some (.int (Mg k),b.st tl):=by
 intro k a
 simp only[ff,bP,cp,or_false] at a
 rcases a with rfl|rfl|rfl|rfl|rfl|rfl|rfl|rfl|rfl|rfl|rfl|rfl|rfl|rfl|rfl|rfl|rfl|rfl|rfl|rfl|rfl|rfl|rfl<;>kernel_rfl
end
section
inductive Res (α:Type) where
 |fail
 |done (a:α) (st:St)
 |call (c g:Nat) (vs:List V) (st:St) (k:V->St->Res α)
 |act (m:M V) (st:St) (k:V->St->Res α)
 |look (i:Nat) (st:St) (k:Ob->St->Res α)
noncomputable def Res.bind{α β:Type}:Res α->(α->St->Res β)->Res β
 | .fail,_=> .fail
 | .done a st,f=>f a st
 | .call c g vs st k,f=> .call c g vs st fun v s=>(k v s).bind f
 | .act m st k,f=> .act m st fun v s=>(k v s).bind f
 | .look i st k,f=> .look i st fun o s=>(k o s).bind f
def RM (α:Type):=St->Res α
noncomputable instance:Monad RM where
 pure a:=fun st=> .done a st
 bind m f:=fun st=>(m st).bind f
noncomputable def up{α:Type} (m:M α):RM α:=fun st=>match m st with
 |some (a,s)=> .done a s
 |Option.none=> .fail
noncomputable def bV{α:Type}:RM α:=fun _=> .fail
noncomputable def hP (m:M V):RM V:=fun st=> .act m st fun v s=> .done v s
noncomputable def toV (m:M Unit):M V:=fun st=>(m st).map fun p=>(.none,p.2)
noncomputable def ey (m:M Bool):M V:=fun st=>(m st).map fun p=>(.bool p.1,p.2)
noncomputable def sd (m:M Unit):RM Unit:=hP (toV m)>>=fun _=>pure ()
noncomputable def Dy (m:M Bool):RM Bool:=hP (ey m)>>=fun v=>match v with
 | .bool b=>pure b
 |_=>bV
noncomputable def Ze (i:Nat):Bool:=match i with
 |0=>true|13=>true|14=>true|71=>true|79=>true
 |i=>Nat.ble 81 i
noncomputable def l3:V->Bool
 | .obj i=>Ze i
 |_=>false
noncomputable def mh (i:Nat):RM Ob:=if Nat.ble 81 i then(fun st=> .look i st fun o s=> .done o s) else up (cU i)
noncomputable def Dz (v:V) (f:Nat):RM V:=match v with
 | .obj i=>mh i>>=fun o=>match o with
  | .inst _ a=>up (lift (a.lookup f))
  |_=>bV
 |_=>bV
noncomputable def vZ (v:V):RM Unit:=match v with
 | .bZ _ _=>pure ()
 | .obj i=>mh i>>=fun o=>match o with
  | .dict _=>pure ()
  |_=>bV
 |_=>bV
noncomputable def Co (v:V):RM Unit:=match v with
 | .obj i=>mh i>>=fun o=>match o with
  | .list _=>pure ()
  |_=>bV
 |_=>bV
noncomputable def xQ (v k d:V):RM V:=match v with
 | .obj i=>mh i>>=fun o=>match o with
  | .dict l=>if keyOk k then up (lift ((look k l).map (·.getD d))) else bV
  |_=>bV
 |v=>up (kG v k d)
noncomputable def xR (p:Bool) (o k:V):RM V:=bif p||l3 o then hP (item o k) else up (item o k)
noncomputable def E0 (o:V):RM V:=bif l3 o then hP (lenOf o) else up (lenOf o)
noncomputable def rQ (o:V) (a b:Option Nat):RM V:=bif l3 o then hP (slice o a b) else up (slice o a b)
noncomputable def ro (o k v:V):RM Unit:=bif l3 o then sd (setItem o k v) else up (setItem o k v)
noncomputable def BN (o v:V):RM Unit:=bif l3 o then sd (append o v) else up (append o v)
noncomputable def Bo (o:V) (f:Nat) (v:V):RM Unit:=bif l3 o then sd (setAttr o f v) else up (setAttr o f v)
noncomputable def aag:Ex->Bool
 | .cn _=>true
 |_=>false
noncomputable def memC:Cm->Bool
 | .isin=>true| .jT=>true
 |_=>false
noncomputable def tc (p:Bool) (c:Cm) (x y:V):RM Bool:=bif p||(memC c&&l3 y) then Dy (cmp c x y) else up (cmp c x y)
noncomputable def E1 (p:Bool) (o:fJ) (x y:V):RM V:=bif p then hP (lift (gu o x y)) else up (lift (gu o x y))
noncomputable def o4{α:Type} (f:α->RM V):List α->RM (List V)
 |[]=>pure []
 |a::r=>f a>>=fun v=>o4 f r>>=fun l=>pure (v::l)
structure o5 where
 fn:Nat->List V->RM V
 new:Nat->List V->RM V
 aZ:V->Nat->RM Nat
 mi:Cm->Ex->Ex->Bool
 p5:fJ->Ex->Ex->Bool
 td:Ex->Ex->Bool
section
variable (K:o5)
mutual
noncomputable def rE (env:Env):Ex->RM V
 | .lc i=>(match env[i]? with
  |some (.v x)=>pure x
  |_=>bV)
 | .cn v=>pure v
 | .at e f=>do let o<-rE env e;Dz o f
 | .ix e i=>do let o<-rE env e;let k<-rE env i;xR (K.td e i) o k
 | .fU e lo=>do
  let o<-rE env e
  let l<-rE env lo
  match natOf l with
  |some a=>rQ o (some a) Option.none
  |_=>bV
 | .eP e s=>do
  let o<-rE env e
  let h<-rE env s
  match natOf h with
  |some b=>rQ o Option.none (some b)
  |_=>bV
 | .kY e lo s=>do
  let o<-rE env e
  let l<-rE env lo
  let h<-rE env s
  match natOf l,natOf h with
  |some a,some b=>rQ o (some a) (some b)
  |_,_=>bV
 | .tp l=>do let j<-iH env l;return .tup j
 | .ls l=>do let j<-iH env l;return .lst j
 | .dc l=>do
  let j<-iH env l;let r<-up (lift (pairUp j))
  if r.all (fun p=>isInt p.1) then do
   let q<-up (lift (r.foldlM (fun d p=>bY p.1 p.2 d) []))
   return .bZ (q.map (·.1)) (q.map (·.2))
  else bV
 | .bn o a b=>do let x<-rE env a;let y<-rE env b;E1 (K.p5 o a b) o x y
 | .cm c a b=>do let x<-rE env a;let y<-rE env b;return .bool (<-tc (K.mi c a b) c x y)
 | .gN c d x a b=>do
  let p<-rE env x
  let q<-rE env a
  if<-tc (K.mi c x a) c p q then do let y<-rE env b;return .bool (<-tc (K.mi d a b) d q y) else return .bool false
 | .an l=>yU env l
 | .orr l=>zI env l
 | .nt e=>do let o<-rE env e;let t<-up (truth o);return .bool (!t)
 | .ite c a b=>do let o<-rE env c;let t<-up (truth o);if t then rE env a else rE env b
 | .call f l=>do let j<-iH env l;K.fn f j
 | .new c l=>do let j<-iH env l;K.new c j
 | .aZ e f l=>do
  let o<-rE env e
  let g<-K.aZ o f
  let j<-iH env l;K.fn g (o::j)
 | .len e=>do let o<-rE env e;E0 o
 | .k3 e=>do
  let v<-rE env e
  match v with
  | .str _=>return .bool true
  | .none=>return .bool false
  | .int _=>return .bool false
  |_=>bV
 | .gO e=>do let o<-rE env e;return .tup (<-up (dz o))
 | .lst e=>do let o<-rE env e;return .lst (<-up (dz o))
 | .kr e k=>do
  let o<-rE env e
  vZ o
  let q<-rE env k;xQ o q .none
 | .gq e k d=>do
  let o<-rE env e
  vZ o
  let x<-rE env k
  let q<-rE env d;xQ o x q
 | .comp m x u=>do
  let o<-rE env u;let l<-up (dz o)
  return .lst (<-o4 (fun v=>rE (env.set x (.v v)) m) l)
 | .jE m x n=>do
  let o<-rE env n;let k<-up (lift ((natOf o).bind fun k=>if k<=1000 then some k else Option.none))
  return .lst (<-o4 (fun i=>rE (env.set x (.v (.int (Int.ofNat i)))) m) (List.range k))
 | .i3 i=>(match env[i]? with
  |some (.own l)=>if l.length<=1048576 then pure (.tup l) else bV
  |_=>bV)
 | .cV l=>do let j<-iH env l;hP (ia (.list j))
 | .eD l=>do
  let j<-iH env l;let r<-up (lift (pairUp j))
  if r.all (fun p=>isKey p.1) then do
   let q<-up (lift (r.foldlM (fun d p=>bY p.1 p.2 d) []))
   hP (ia (.dict q))
  else bV
 | .hA m x u=>do
  let o<-rE env u;let l<-up (dz o)
  let j<-o4 (fun v=>rE (env.set x (.v v)) m) l;hP (ia (.list j))
noncomputable def iH (env:Env):List Ex->RM (List V)
 |[]=>pure []
 |e::r=>do let v<-rE env e;let a<-iH env r;return v::a
noncomputable def yU (env:Env):List Ex->RM V
 |[]=>bV
 |[e]=>rE env e
 |e::r=>do let v<-rE env e;let a<-up (truth v);if a then yU env r else pure v
noncomputable def zI (env:Env):List Ex->RM V
 |[]=>bV
 |[e]=>rE env e
 |e::r=>do let v<-rE env e;let a<-up (truth v);if a then pure v else zI env r
end
noncomputable def o6 (body:V->Env->RM (Fl×Env)):List V->Env->RM (Fl×Env)
 |[],env=>pure (.next,env)
 |v::r,env=>do
  match<-body v env with
  |(.next,a)=>o6 body r a
  |x=>pure x
mutual
noncomputable def rS (env:Env):Sm->RM (Fl×Env)
 | .asg i e=>do let o<-rE K env e;return (.next,env.set i (.v o))
 | .i4 i l=>do let m<-iH K env l;return (.next,env.set i (.own m))
 | .ku i e=>do let o<-rE K env e;let m<-up (dz o);return (.next,env.set i (.own m))
 | .kz i e=>do
  match env[i]? with
  |some (.own l)=>do let o<-rE K env e;let m<-up (mP o);let g<-up (grow l m);return (.next,env.set i (.own g))
  |_=>bV
 | .ec is e=>do
  let o<-rE K env e;let l<-up (oV o)
  let en<-up (lift (iR is l env));return (.next,en)
 | .aW e f v=>do let x<-rE K env v;let o<-rE K env e;Bo o f x;return (.next,env)
 | .cK e k v=>do let x<-rE K env v;let o<-rE K env e;let q<-rE K env k;ro o q x;return (.next,env)
 | .jU l e=>do
  let o<-rE K env e;let vs<-up (oV o)
  rX env l vs
  return (.next,env)
 | .jL i k v=>do
  let x<-rE K env v
  let q<-rE K env k;let j<-up (lift (natOf q))
  match env[i]? with
  |some (.own l)=>if j<l.length/\j<1048576 then return (.next,env.set i (.own (l.set j x))) else bV
  |_=>bV
 | .i5 i v=>do
  let x<-rE K env v
  match env[i]? with
  |some (.own l)=>do let g<-up (grow l [x]);return (.next,env.set i (.own g))
  |_=>bV
 | .kB i v=>do
  let o<-rE K env v;let x<-up (dz o)
  match env[i]? with
  |some (.own l)=>do let g<-up (grow l x);return (.next,env.set i (.own g))
  |_=>bV
 | .app e v=>do
  let o<-rE K env e
  Co o
  let x<-rE K env v;BN o x
  return (.next,env)
 | .jM e k o v=>do
  let d<-rE K env e
  let i<-rE K env k
  let h<-xR false d i
  let x<-rE K env v
  let y<-up (lift (k6 o h x));ro d i y
  return (.next,env)
 | .i6 i o v=>do
  match env[i]? with
  |some (.v h)=>do
   let x<-rE K env v
   let y<-up (lift (k6 o h x));return (.next,env.set i (.v y))
  |_=>bV
 | .exp e=>do let _<-rE K env e;return (.next,env)
 | .iff c a b=>do let o<-rE K env c;let s<-up (truth o);if s then jq env a else jq env b
 | .ret e=>do let o<-rE K env e;return (.ret o,env)
 | .kD i=>(match env[i]? with
  |some (.own l)=>pure (.ret (.lst l),env)
  |_=>bV)
 | .lY=>pure (.ret .none,env)
 | .dh x r b=>do
  let o<-rE K env r;let l<-up (dz o)
  o6 (fun v env=>jq (env.set x (.v v)) b) l env
 | .i7 x y r b=>do
  let o<-rE K env r;let l<-up (dz o)
  o6 (fun v env=>match v with
   | .tup [p,q]=>jq ((env.set x (.v p)).set y (.v q)) b
   |_=>bV) l env
 | .forR x n b=>do
  let o<-rE K env n;let k<-up (lift ((natOf o).bind fun k=>if k<=1000 then some k else Option.none))
  o6 (fun v env=>jq (env.set x (.v v)) b) ((List.range k).map fun i=> .int (Int.ofNat i)) env
 | .stop=>bV
 | .pass=>pure (.next,env)
noncomputable def jq (env:Env):List Sm->RM (Fl×Env)
 |[]=>pure (.next,env)
 |s::r=>do
  match<-rS env s with
  |(.next,a)=>jq a r
  |x=>pure x
noncomputable def rX (env:Env):List (Ex×Ex)->List V->RM Unit
 |[],[]=>pure ()
 |(o,k)::r,v::vs=>do
  let d<-rE K env o
  let q<-rE K env k;ro d q v
  rX env r vs
 |_,_=>bV
end
end
noncomputable def E2 (P:Prog) (o:V) (f:Nat):RM Nat:=match o with
 | .obj i=>mh i>>=fun o=>match o with
  | .inst c _=>up (lift ((P.cls c).bind (fun x=>x.2 f)))
  |_=>bV
 |_=>bV
noncomputable def mi (f:Nat) (c:Cm) (a b:Ex):Bool:=match f,c with
 |108,.lt=>true|108,.gt=>true|117,.gt=>true|117,.eq=>true
 |122,.eq=>(match a with| .ix (.lc _) _=>true|_=>false)
 |48,.eq=>true
 |55,.ne=>true|88,.eq=>true|88,.ne=>true|58,.eq=>true
 |78,.ne=>(match b with| .cn (.int _)=>true|_=>false)
 |118,.eq=>(match b with| .lc _=>true| .ls _=>true|_=>false)
 |123,.eq=>(match b with| .cn _=>false| .ix _ _=>false|_=>true)
 |_,_=>false
noncomputable def p6:Ex->Bool
 | .lc _=>true
 |_=>false
noncomputable def p5 (f:Nat) (_:fJ) (a b:Ex):Bool:=match b with
 | .call _ _=>true
 |_=>match f with
  |104=>true|79=>p6 a|53=>p6 a|56=>p6 a&&p6 b|63=>p6 a
  |_=>false
noncomputable def td (e i:Ex):Bool:=match e,i with
 | .tp _,.call _ _=>true
 | .lc _,.call _ _=>true
 |_,_=>false
noncomputable def E3 (n:Nat):List Nat->Bool
 |[]=>false
 |a::r=>bif Nat.beq a n then true else E3 n r
noncomputable def oR (P:Prog) (f:Nat) (r:Nat->List V->RM V):o5:={
 fn:=r
 new:=fun cl b=>match P.cls cl with
  |Option.none=>bV
  |some (a,_)=>hP (ia (.inst cl []))>>=fun o=>match a with
   |Option.none=>bif b.isEmpty then pure o else bV
   |some g=>r g (o::b)>>=fun v=>match v with
    | .none=>pure o
    |_=>bV
 aZ:=E2 P
 mi:=mi f
 p5:=p5 f
 td:=td}
noncomputable def yV (x:Fl×Env):RM V:=match x with
 |(.ret v,_)=>pure v
 |(.next,_)=>pure .none
noncomputable def xS (P:Prog) (r:Nat->List V->RM V) (f:Nat) (vs:List V):RM V:=match P.fn f with
 |Option.none=>bV
 |some d=>bif P.ar f==vs.length then jq (oR P f r) (fC d.n vs) d.body>>=yV else bV
noncomputable def mj (ev:List Nat) (c:Nat) (r:Nat->List V->RM V) (g:Nat) (a:List V):RM V:=bif E3 g ev then(fun st=> .call c g a st fun v s=> .done v s) else r g a
noncomputable def eO (P:Prog) (ev:List Nat):Nat->Nat->Nat->List V->RM V
 |0,_,_,_=>bV
 |m+1,c,f,vs=>xS P (mj ev (c+1) (eO P ev m (c+1))) f vs
end
section
noncomputable def dY{α:Type} (P:Prog) (n:Nat):Res α->Option (α×St)
 | .fail=>Option.none
 | .done a st=>some (a,st)
 | .call c g vs st k=>match run P (n-c) g vs st with
  |some (v,s)=>dY P n (k v s)
  |Option.none=>Option.none
 | .act m st k=>match m st with
  |some (v,s)=>dY P n (k v s)
  |Option.none=>Option.none
 | .look i st k=>match st[i]? with
  |some o=>dY P n (k o st)
  |Option.none=>Option.none
theorem qU{α:Type} (P:Prog) (n c g:Nat) (vs:List V) (st:St) (k:V->St->Res α):dY P n (.call c g vs st k)=(run P (n-c) g vs st).bind fun p=>dY P n (k p.1 p.2):=by
 have e:dY P n (.call c g vs st k)=(match run P (n-c) g vs st with|some (v,s)=>dY P n (k v s)|Option.none=>Option.none):=by kernel_rfl
 rw[e]
 cases run P (n-c) g vs st<;>rfl
theorem mz{α:Type} (P:Prog) (n:Nat) (m:M V) (st:St) (k:V->St->Res α):dY P n (.act m st k)=(m st).bind fun p=>dY P n (k p.1 p.2):=by
 have e:dY P n (.act m st k)=(match m st with|some (v,s)=>dY P n (k v s)|Option.none=>Option.none):=by kernel_rfl
 rw[e]
 cases m st<;>rfl
theorem qV{α:Type} (P:Prog) (n i:Nat) (st:St) (k:Ob->St->Res α):dY P n (.look i st k)=(st[i]?).bind fun o=>dY P n (k o st):=by
 have e:dY P n (.look i st k)=(match st[i]? with|some o=>dY P n (k o st)|Option.none=>Option.none):=by kernel_rfl
 rw[e]
 cases st[i]?<;>rfl
theorem n7{α β:Type} {o:Option α} {f:α->Option β} {p:β} (h:o.bind f=some p):∃q,o=some q/\f q=some p:=by
 cases o with
 |none=>nomatch h
 |some q=>exact⟨q,rfl,h⟩
theorem zJ{α β a:Type} {o:Option α} {f:α->Option β} {g:β->Option a} {k:α->Option a} (h:∀p,k p=(f p).bind g):o.bind k=(o.bind f).bind g:=by
 cases o with
 |none=>rfl
 |some q=>exact h q
theorem qW{α β:Type} (P:Prog) (n:Nat) (f:α->St->Res β):∀r:Res α,dY P n (r.bind f)=(dY P n r).bind (fun p=>dY P n (f p.1 p.2))
 | .fail=>rfl
 | .done _ _=>rfl
 | .call c g vs st k=>((qU P n c g vs st _).trans (zJ fun p=>qW P n f (k p.1 p.2))).trans (congrArg (Option.bind · _) (qU P n c g vs st k).symm)
 | .act m st k=>((mz P n m st _).trans (zJ fun p=>qW P n f (k p.1 p.2))).trans (congrArg (Option.bind · _) (mz P n m st k).symm)
 | .look i st k=>((qV P n i st _).trans (zJ fun o=>qW P n f (k o st))).trans (congrArg (Option.bind · _) (qV P n i st k).symm)
def Rf{α:Type} (P:Prog) (n:Nat) (m:M α) (r:RM α):Prop:=∀st p,dY P n (r st)=some p->m st=some p
section
variable {P:Prog} {n:Nat} {α β:Type}
theorem Rf.pure (a:α):Rf P n (pure a) (pure a):=fun _ _ h=>h
theorem Rf.fail{m:M α}:Rf P n m bV:=fun _ _ h=>nomatch h
theorem Rf.up (m:M α):Rf P n m (up m):=fun st p h=>by
 revert h
 show dY P n (match m st with|some (a,s)=>Res.done a s|Option.none=> .fail)=some p->_
 cases m st with
 |none=>intro h;nomatch h
 |some q=>intro h;exact h
theorem Rf.bind{m:M α} {f:α->M β} {r:RM α} {g:α->RM β} (z:Rf P n m r) (A:∀a,Rf P n (f a) (g a)):Rf P n (m>>=f) (r>>=g):=fun st p h=>by
 refine aN (n7 ((qW P n (fun a s=>g a s) (r st)).symm.trans h)) fun q C D=>?_
 show(m st).bind (fun q=>f q.1 q.2)=some p
 rw[z st q C]
 exact A q.1 q.2 p D
theorem Rf.ZT{f:α->M β} {a:α} {r:RM β} (h:Rf P n (f a) r):Rf P n (Pure.pure a>>=f) r:=h
theorem Rf.ite{c:Bool}{x y:M α} {q z:RM α} (A:Rf P n x q) (C:Rf P n y z):Rf P n (if c then x else y) (if c then q else z):=by
 cases c<;>assumption
theorem Rf.E4{c:Prop} [Decidable c] {x y:M α} {x' y':RM α} (h1:Rf P n x x') (h2:Rf P n y y'):Rf P n (if c then x else y) (if c then x' else y'):=by
 by_cases h:c
 ·rw[if_pos h,if_pos h];exact h1
 ·rw[if_neg h,if_neg h];exact h2
theorem Rf.act (m:M V):Rf P n m (hP m):=fun st p h=>by
 refine aN (n7 ((mz P n m st _).symm.trans h)) fun q z A=>?_
 exact z.trans A
theorem Rf.yW (m:M Unit):Rf P n m (sd m):=fun st p h=>by
 refine aN (n7 ((mz P n (toV m) st _).symm.trans h)) fun q z A=>?_
 change (m st).map _=_ at z
 cases hm:m st with
 |none=>rw[hm] at z;nomatch z
 |some r=>rw[hm] at z;obtain rfl:=aR z;exact A
theorem Rf.VS (m:M Bool):Rf P n m (Dy m):=fun st p h=>by
 refine aN (n7 ((mz P n (ey m) st _).symm.trans h)) fun q z A=>?_
 change (m st).map _=_ at z
 cases hm:m st with
 |none=>rw[hm] at z;nomatch z
 |some r=>rw[hm] at z;obtain rfl:=aR z;exact A
theorem Rf.ob (i:Nat):Rf P n (cU i) (mh i):=by
 unfold mh
 cases C:Nat.ble 81 i with
 |true=>
  intro st p h
  refine aN (n7 ((qV P n i st _).symm.trans h)) fun q z A=>?_
  show(st[i]?).map _=_
  rw[z];exact A
 |false=>exact Rf.up (cU i)
theorem Rf.bif{c:Bool}{x:M α} {q z:RM α} (A:Rf P n x q) (C:Rf P n x z):Rf P n x (bif c then q else z):=by
 cases c<;>assumption
theorem Rf.attr (v:V) (f:Nat):Rf P n (attr v f) (Dz v f):=by
 cases v<;>first|exact Rf.fail|skip
 refine Rf.bind (Rf.ob _) fun o=>?_
 cases o<;>first|exact Rf.fail|exact Rf.up _
theorem Rf.lJ (v:V):Rf P n (lJ v) (vZ v):=by
 cases v<;>first|exact Rf.fail|exact Rf.pure _|skip
 refine Rf.bind (Rf.ob _) fun o=>?_
 cases o<;>first|exact Rf.fail|exact Rf.pure _
theorem Rf.oW (v:V):Rf P n (oW v) (Co v):=by
 cases v<;>first|exact Rf.fail|exact Rf.pure _|skip
 refine Rf.bind (Rf.ob _) fun o=>?_
 cases o<;>first|exact Rf.fail|exact Rf.pure _
theorem Rf.kG (v k d:V):Rf P n (kG v k d) (xQ v k d):=by
 cases v<;>first|exact Rf.up _|skip
 refine Rf.bind (Rf.ob _) fun o=>?_
 cases o<;>first|exact Rf.fail|skip
 exact Rf.ite (Rf.up _) Rf.fail
theorem Rf.item (p:Bool) (o k:V):Rf P n (item o k) (xR p o k):=Rf.bif (Rf.act _) (Rf.up _)
theorem Rf.len (o:V):Rf P n (lenOf o) (E0 o):=Rf.bif (Rf.act _) (Rf.up _)
theorem Rf.slice (o:V) (a b:Option Nat):Rf P n (slice o a b) (rQ o a b):=Rf.bif (Rf.act _) (Rf.up _)
theorem Rf.setItem (o k v:V):Rf P n (setItem o k v) (ro o k v):=Rf.bif (Rf.yW _) (Rf.up _)
theorem Rf.append (o v:V):Rf P n (append o v) (BN o v):=Rf.bif (Rf.yW _) (Rf.up _)
theorem Rf.setAttr (o:V) (f:Nat) (v:V):Rf P n (setAttr o f v) (Bo o f v):=Rf.bif (Rf.yW _) (Rf.up _)
theorem Rf.cmp (p:Bool) (c:Cm) (x y:V):Rf P n (cmp c x y) (tc p c x y):=Rf.bif (Rf.VS _) (Rf.up _)
theorem Rf.gu (p:Bool) (o:fJ) (x y:V):Rf P n (lift (gu o x y)) (E1 p o x y):=Rf.bif (Rf.act _) (Rf.up _)
theorem Rf.mapM{f:α->M V} {g:α->RM V} (h:∀a,Rf P n (f a) (g a)):∀l:List α,Rf P n (l.mapM f) (o4 g l)
 |[]=>Rf.pure _
 |a::l=>by
  rw[pK]
  exact Rf.bind (h a) fun v=>Rf.bind (Rf.mapM h l) fun w=>Rf.pure _
structure zK (P:Prog) (n:Nat) (K:cF) (R:o5):Prop where
 fn:∀g us,Rf P n (K.fn g us) (R.fn g us)
 new:∀g us,Rf P n (K.new g us) (R.new g us)
 aZ:∀o f,Rf P n (K.aZ o f) (R.aZ o f)
end
section
variable {P:Prog} {n:Nat} {K:cF} {R:o5} (hK:zK P n K R)
include hK
mutual
theorem bp (env:Env):∀e,Rf P n (aG K env e) (rE R env e)
 | .lc i=>by
  show Rf P n (match env[i]? with|some (.v x)=>pure x|_=>fail) (match env[i]? with|some (.v x)=>pure x|_=>bV)
  generalize env[i]?=x
  cases x with
  |none=>exact Rf.fail
  |some s=>cases s<;>first|exact Rf.pure _|exact Rf.fail
 | .cn v=>by exact Rf.pure _
 | .at e f=>by exact Rf.bind (bp env e) fun o=>Rf.attr _ _
 | .ix e i=>by exact Rf.bind (bp env e) fun o=>Rf.bind (bp env i) fun k=>Rf.item _ _ _
 | .fU e lo=>by
  refine Rf.bind (bp env e) fun o=>Rf.bind (bp env lo) fun k=>?_
  cases natOf k with
  |none=>exact Rf.fail
  |some a=>exact Rf.slice _ _ _
 | .eP e lo=>by
  refine Rf.bind (bp env e) fun o=>Rf.bind (bp env lo) fun k=>?_
  cases natOf k with
  |none=>exact Rf.fail
  |some a=>exact Rf.slice _ _ _
 | .kY e lo z=>by
  refine Rf.bind (bp env e) fun o=>Rf.bind (bp env lo) fun k=>Rf.bind (bp env z) fun j=>?_
  cases natOf k with
  |none=>exact Rf.fail
  |some a=>cases natOf j with
   |none=>exact Rf.fail
   |some b=>exact Rf.slice _ _ _
 | .tp l=>by exact Rf.bind (iS env l) fun u=>Rf.pure _
 | .ls l=>by exact Rf.bind (iS env l) fun u=>Rf.pure _
 | .dc l=>by
  refine Rf.bind (iS env l) fun u=>Rf.bind (Rf.up _) fun r=>Rf.ite ?_ Rf.fail
  exact Rf.bind (Rf.up _) fun q=>Rf.pure _
 | .bn o a b=>by exact Rf.bind (bp env a) fun x=>Rf.bind (bp env b) fun y=>Rf.gu _ _ _ _
 | .cm c a b=>by exact Rf.bind (bp env a) fun x=>Rf.bind (bp env b) fun y=>Rf.bind (Rf.cmp _ _ _ _) fun _=>Rf.pure _
 | .gN c d x a b=>by
  refine Rf.bind (bp env x) fun p=>Rf.bind (bp env a) fun q=>Rf.bind (Rf.cmp _ _ _ _) fun t=>Rf.ite ?_ (Rf.pure _)
  exact Rf.bind (bp env b) fun y=>Rf.bind (Rf.cmp _ _ _ _) fun _=>Rf.pure _
 | .an l=>by exact BO env l
 | .orr l=>by exact Cp env l
 | .nt e=>by exact Rf.bind (bp env e) fun o=>Rf.bind (Rf.up _) fun _=>Rf.pure _
 | .ite c a b=>by exact Rf.bind (bp env c) fun o=>Rf.bind (Rf.up _) fun _=>Rf.ite (bp env a) (bp env b)
 | .call f l=>by exact Rf.bind (iS env l) fun u=>hK.fn _ _
 | .new c l=>by exact Rf.bind (iS env l) fun u=>hK.new _ _
 | .aZ e f l=>by exact Rf.bind (bp env e) fun o=>Rf.bind (hK.aZ _ _) fun g=>Rf.bind (iS env l) fun u=>hK.fn _ _
 | .len e=>by exact Rf.bind (bp env e) fun o=>Rf.len _
 | .k3 e=>by
  refine Rf.bind (bp env e) fun o=>?_
  cases o<;>first|exact Rf.pure _|exact Rf.fail
 | .gO e=>by exact Rf.bind (bp env e) fun o=>Rf.bind (Rf.up _) fun _=>Rf.pure _
 | .lst e=>by exact Rf.bind (bp env e) fun o=>Rf.bind (Rf.up _) fun _=>Rf.pure _
 | .kr e k=>by exact Rf.bind (bp env e) fun o=>Rf.bind (Rf.lJ _) fun _=>Rf.bind (bp env k) fun q=>Rf.kG _ _ _
 | .gq e k d=>by exact Rf.bind (bp env e) fun o=>Rf.bind (Rf.lJ _) fun _=>Rf.bind (bp env k) fun x=>Rf.bind (bp env d) fun q=>Rf.kG _ _ _
 | .comp h x w=>by
  exact Rf.bind (bp env w) fun o=>Rf.bind (Rf.up _) fun l=>Rf.bind (Rf.mapM (fun v=>bp (env.set x (.v v)) h) l) fun _=>Rf.pure _
 | .jE h x m=>by
  exact Rf.bind (bp env m) fun o=>Rf.bind (Rf.up _) fun l=>Rf.bind (Rf.mapM (fun i=>bp (env.set x (.v (.int (Int.ofNat i)))) h) (List.range l)) fun _=>Rf.pure _
 | .i3 i=>by
  show Rf P n (match env[i]? with|some (.own l)=>if l.length<=1048576 then pure (V.tup l) else fail|_=>fail) (match env[i]? with|some (.own l)=>if l.length<=1048576 then pure (V.tup l) else bV|_=>bV)
  generalize env[i]?=x
  cases x with
  |none=>exact Rf.fail
  |some s=>cases s<;>first|exact Rf.E4 (Rf.pure _) Rf.fail|exact Rf.fail
 | .cV l=>by exact Rf.bind (iS env l) fun u=>Rf.act _
 | .eD l=>by
  refine Rf.bind (iS env l) fun u=>Rf.bind (Rf.up _) fun r=>Rf.ite ?_ Rf.fail
  exact Rf.bind (Rf.up _) fun q=>Rf.act _
 | .hA h x w=>by
  exact Rf.bind (bp env w) fun o=>Rf.bind (Rf.up _) fun l=>Rf.bind (Rf.mapM (fun v=>bp (env.set x (.v v)) h) l) fun _=>Rf.act _
theorem iS (env:Env):∀l,Rf P n (cJ K env l) (iH R env l)
 |[]=>by exact Rf.pure _
 |e::r=>by exact Rf.bind (bp env e) fun v=>Rf.bind (iS env r) fun a=>Rf.pure _
theorem BO (env:Env):∀l,Rf P n (mQ K env l) (yU R env l)
 |[]=>by exact Rf.fail
 |[e]=>by exact bp env e
 |e::f::r=>by exact Rf.bind (bp env e) fun v=>Rf.bind (Rf.up _) fun _=>Rf.ite (BO env (f::r)) (Rf.pure _)
theorem Cp (env:Env):∀l,Rf P n (nJ K env l) (zI R env l)
 |[]=>by exact Rf.fail
 |[e]=>by exact bp env e
 |e::f::r=>by exact Rf.bind (bp env e) fun v=>Rf.bind (Rf.up _) fun _=>Rf.ite (Rf.pure _) (Cp env (f::r))
end
omit hK in
theorem rq{b:V->Env->M (Fl×Env)} {a:V->Env->RM (Fl×Env)} (h:∀v env,Rf P n (b v env) (a v env)):∀l env,Rf P n (loop b l env) (o6 a l env)
 |[],env=>Rf.pure _
 |v::r,env=>by
  refine Rf.bind (h v env) fun x=>?_
  obtain⟨fl,en⟩:=x
  cases fl with
  |next=>exact rq h r en
  |ret _=>exact Rf.pure _
theorem DA (env:Env):∀l vs,Rf P n (k7 K env l vs) (rX R env l vs)
 |[],[]=>by exact Rf.pure _
 |(o,k)::r,v::vs=>by exact Rf.bind (bp hK env o) fun d=>Rf.bind (bp hK env k) fun q=>Rf.bind (Rf.setItem _ _ _) fun _=>DA env r vs
 |[],_::_=>by exact Rf.fail
 |(_,_)::_,[]=>by exact Rf.fail
set_option tactic.hygienic true
mutual
theorem Sf (env:Env):∀s,Rf P n (nT K env s) (rS R env s)
 | .asg i e=>by exact Rf.bind (bp hK env e) fun o=>Rf.pure _
 | .i4 i l=>by exact Rf.bind (iS hK env l) fun o=>Rf.pure _
 | .ku i e=>by exact Rf.bind (bp hK env e) fun o=>Rf.bind (Rf.up _) fun _=>Rf.pure _
 | .kz i e=>by
  show Rf P n (match env[i]? with|some (.own l)=>(do return (Fl.next,env.set i (.own (<-grow l (<-mP (<-aG K env e))))))|_=>fail) (match env[i]? with|some (.own l)=>(do let o<-rE R env e;let t<-up (mP o);let g<-up (grow l t);return (Fl.next,env.set i (.own g)))|_=>bV)
  generalize env[i]?=y
  cases y with
  |none=>exact Rf.fail
  |some s=>cases s<;>first|exact Rf.bind (bp hK env e) fun o=>Rf.bind (Rf.up _) fun _=>Rf.bind (Rf.up _) fun _=>Rf.pure _|exact Rf.fail
 | .ec is e=>by exact Rf.bind (bp hK env e) fun o=>Rf.bind (Rf.up _) fun _=>Rf.bind (Rf.up _) fun _=>Rf.pure _
 | .aW e f v=>by exact Rf.bind (bp hK env v) fun x=>Rf.bind (bp hK env e) fun o=>Rf.bind (Rf.setAttr _ _ _) fun _=>Rf.pure _
 | .cK e k v=>by exact Rf.bind (bp hK env v) fun x=>Rf.bind (bp hK env e) fun o=>Rf.bind (bp hK env k) fun q=>Rf.bind (Rf.setItem _ _ _) fun _=>Rf.pure _
 | .jU l e=>by exact Rf.bind (bp hK env e) fun o=>Rf.bind (Rf.up _) fun vs=>Rf.bind (DA hK env l vs) fun _=>Rf.pure _
 | .jL i k v=>by
  refine Rf.bind (bp hK env v) fun x=>Rf.bind (bp hK env k) fun q=>Rf.bind (Rf.up _) fun j=>?_
  generalize env[i]?=y
  cases y with
  |none=>exact Rf.fail
  |some s=>cases s<;>first|exact Rf.E4 (Rf.pure _) Rf.fail|exact Rf.fail
 | .i5 i v=>by
  refine Rf.bind (bp hK env v) fun x=>?_
  generalize env[i]?=y
  cases y with
  |none=>exact Rf.fail
  |some s=>cases s<;>first|exact Rf.bind (Rf.up _) fun _=>Rf.pure _|exact Rf.fail
 | .kB i v=>by
  refine Rf.bind (bp hK env v) fun o=>Rf.bind (Rf.up _) fun x=>?_
  generalize env[i]?=y
  cases y with
  |none=>exact Rf.fail
  |some s=>cases s<;>first|exact Rf.bind (Rf.up _) fun _=>Rf.pure _|exact Rf.fail
 | .app e v=>by exact Rf.bind (bp hK env e) fun o=>Rf.bind (Rf.oW _) fun _=>Rf.bind (bp hK env v) fun x=>Rf.bind (Rf.append _ _) fun _=>Rf.pure _
 | .jM e k o v=>by
  exact Rf.bind (bp hK env e) fun d=>Rf.bind (bp hK env k) fun i=>Rf.bind (Rf.item _ _ _) fun h=>Rf.bind (bp hK env v) fun x=>Rf.bind (Rf.up _) fun y=>Rf.bind (Rf.setItem _ _ _) fun _=>Rf.pure _
 | .i6 i o v=>by
  show Rf P n (match env[i]? with|some (.v h)=>(do let x<-aG K env v;return (Fl.next,env.set i (.v (<-lift (k6 o h x)))))|_=>fail) (match env[i]? with|some (.v h)=>(do let x<-rE R env v;let y<-up (lift (k6 o h x));return (Fl.next,env.set i (.v y)))|_=>bV)
  generalize env[i]?=y
  cases y with
  |none=>exact Rf.fail
  |some s=>cases s<;>first|exact Rf.bind (bp hK env v) fun x=>Rf.bind (Rf.up _) fun _=>Rf.pure _|exact Rf.fail
 | .exp e=>by exact Rf.bind (bp hK env e) fun o=>Rf.pure _
 | .iff c a b=>by exact Rf.bind (bp hK env c) fun o=>Rf.bind (Rf.up _) fun _=>Rf.ite (jC env a) (jC env b)
 | .ret e=>by exact Rf.bind (bp hK env e) fun o=>Rf.pure _
 | .kD i=>by
  show Rf P n (match env[i]? with|some (.own l)=>pure (Fl.ret (.lst l),env)|_=>fail) (match env[i]? with|some (.own l)=>pure (Fl.ret (.lst l),env)|_=>bV)
  generalize env[i]?=x
  cases x with
  |none=>exact Rf.fail
  |some s=>cases s<;>first|exact Rf.pure _|exact Rf.fail
 | .lY=>by exact Rf.pure _
 | .dh x r b=>by
  exact Rf.bind (bp hK env r) fun o=>Rf.bind (Rf.up _) fun l=>rq (fun v env=>jC (env.set x (.v v)) b) l env
 | .i7 x y r b=>by
  refine Rf.bind (bp hK env r) fun o=>Rf.bind (Rf.up _) fun l=>rq (fun v env=>?_) l env
  cases v<;>first|exact Rf.fail|skip
  rename_i l
  match l with
  |[]=>exact Rf.fail
  |[_]=>exact Rf.fail
  |[p,q]=>exact jC _ b
  |_::_::_::_=>exact Rf.fail
 | .forR x m b=>by
  exact Rf.bind (bp hK env m) fun o=>Rf.bind (Rf.up _) fun l=>rq (fun v env=>jC (env.set x (.v v)) b) _ env
 | .stop=>by exact Rf.fail
 | .pass=>by exact Rf.pure _
theorem jC (env:Env):∀l,Rf P n (cM K env l) (jq R env l)
 |[]=>by exact Rf.pure _
 |s::r=>by
  refine Rf.bind (Sf env s) fun x=>?_
  obtain⟨fl,en⟩:=x
  cases fl with
  |next=>exact jC en r
  |ret _=>exact Rf.pure _
end
end
theorem uM{P:Prog}{n c:Nat} (g:Nat) (a:List V):Rf P n (run P (n- (c+1)) g a) (fun st=> .call (c+1) g a st fun v s=> .done v s):=fun st p h=>by
 refine aN (n7 ((qU P n _ g a st _).symm.trans h)) fun q b d=>?_
 exact b.trans d
theorem JZ{P:Prog}{n:Nat} (o:V) (f:Nat):Rf P n (match o with
  | .obj i=>do match<-cU i with
   | .inst c _=>lift ((P.cls c).bind (fun x=>x.2 f))
   |_=>fail
  |_=>fail) (E2 P o f):=by
 cases o<;>first|exact Rf.fail|skip
 refine Rf.bind (Rf.ob _) fun o=>?_
 cases o<;>first|exact Rf.fail|exact Rf.up _
theorem uN{P:Prog}{n f:Nat} {r:Nat->List V->M V} {q:Nat->List V->RM V} (hc:∀g us,Rf P n (r g us) (q g us)):zK P n (mR P r) (oR P f q):=by
 refine⟨hc,fun cl us=>?_,fun o f=>JZ o f⟩
 unfold mR oR
 dsimp only
 generalize P.cls cl=pc
 cases pc with
 |none=>exact Rf.fail
 |some x=>
  obtain⟨Zf,_⟩:=x
  refine Rf.bind (Rf.act _) fun o=>?_
  cases Zf with
  |none=>
   dsimp only
   cases us.isEmpty
   ·exact Rf.fail
   ·exact Rf.pure _
  |some g=>
   refine Rf.bind (hc g (o::us)) fun v=>?_
   cases v<;>first|exact Rf.pure _|exact Rf.fail
theorem BP{P:Prog}{n:Nat} (x:Fl×Env):Rf P n (fin x) (yV x):=by
 obtain⟨fl,en⟩:=x
 cases fl<;>exact Rf.pure _
theorem rD (P:Prog) (ev:List Nat) (n:Nat):∀(m c f:Nat) (vs:List V),c+m<=n->Rf P n (run P (n-c) f vs) (eO P ev m c f vs)
 |0,_,_,_,_=>Rf.fail
 |m+1,c,f,vs,h=>by
  have e:n-c=(n- (c+1))+1:=(Nat.succ_pred (Nat.sub_ne_zero_of_lt (pD (Nat.lt_add_of_pos_right (pB m)) h))).symm
  rw[e]
  show Rf P n (yG P (run P (n- (c+1))) f vs) (xS P (mj ev (c+1) (eO P ev m (c+1))) f vs)
  have hc:∀g us,Rf P n (run P (n- (c+1)) g us) (mj ev (c+1) (eO P ev m (c+1)) g us):=
   fun g us=>Rf.bif (uM g us) (rD P ev n m (c+1) g us (by rw[Nat.add_right_comm];exact h))
  generalize run P (n- (c+1))=r at hc⊢
  generalize mj ev (c+1) (eO P ev m (c+1))=q at hc⊢
  unfold yG xS
  generalize P.fn f=pf
  cases pf with
  |none=>exact Rf.fail
  |some d=>
   dsimp only
   generalize (P.ar f==vs.length)=ar
   cases ar with
   |false=>exact Rf.fail
   |true=>exact Rf.bind (jC (uN hc) _ _) BP
end
section
theorem Zg{N M c NN n:Nat} (k:NN<=n) (h:N+M<=NN) (q:c<=M):N+c<=n:=aK (aK (dD q N) h) k
theorem Zh{a N M NN n:Nat} (k:NN<=n) (h:N+M<=NN) (q:a<=M):a<=n:=aK (aK (aK q (cj M N)) h) k
theorem leN{a M NN:Nat} (h:M<=NN) (q:Nat.ble a M=true):a<=NN:=aK (aX q) h
theorem VT{k N M NN:Nat} (h:N+M<=NN) (q:k<=M):N+k<=NN:=aK (dD q N) h
theorem tQ{a N M NN:Nat} (h:N+M<=NN) (q:a<=M):a<=NN:=aK (aK q (cj M N)) h
def Ev (N g:Nat) (vs:List V) (st:St) (v:V) (s:St):Prop:=∀n,N<=n->run PP n g vs st=some (v,s)
theorem Ev.up{N M g:Nat} {vs:List V} {st s:St} {v:V} (h:Ev N g vs st v s) (k:N<=M):Ev M g vs st v s:=fun n q=>h n (aK k q)
def Rn (n:Nat) (t:Res V) (v:V) (s:St):Prop:=dY PP n t=some (v,s)
theorem Ev.of{N:Nat} (ev:List Nat) (m:Nat) {g:Nat} {vs:List V} {st s:St} {v:V} (h:∀n,N<=n->Rn n (eO PP ev m 0 g vs st) v s) (hm:m<=N:=by first|exact tQ (by assumption) (by decide)|omega):Ev N g vs st v s:=
 fun n q=>rD PP ev n m 0 g vs (Ur hm q) st (v,s) (h n q)
inductive Tag where
 |fail
 |done (v:V) (st:St)
 |call (c g:Nat) (vs:List V) (st:St)
 |act (m:M V) (st:St)
 |look (i:Nat) (st:St)
noncomputable def tag:Res V->Tag
 | .fail=> .fail
 | .done v st=> .done v st
 | .call c g vs st _=> .call c g vs st
 | .act m st _=> .act m st
 | .look i st _=> .look i st
noncomputable def fN (t:Res V) (v:V) (s:St):Res V:=match t with
 | .call _ _ _ _ k=>k v s
 | .act _ _ k=>k v s
 |_=> .fail
noncomputable def eK (t:Res V) (o:Ob) (s:St):Res V:=match t with
 | .look _ _ k=>k o s
 |_=> .fail
theorem Rd{n:Nat}{t:Res V} {v:V} {s:St} (e:tag t= .done v s:=by kernel_rfl):Rn n t v s:=by
 cases t<;>first|(cases e;rfl)|(exact nomatch e)
set_option tactic.hygienic true
theorem Gj{n g:Nat} {vs:List V} {st s b:St} {v w:V} {t:Res V} {c:Nat} (ih:run PP (n-c) g vs st=some (v,s)) (next:Rn n (fN t v s) w b) (e:tag t= .call c g vs st):Rn n t w b:=by
 cases t with
 |call d f a aB k=>
  have e:Tag.call d f a aB=Tag.call c g vs st:=e
  cases e
  show dY PP n _=_
  rw[qU,ih]
  exact next
 |_=>exact nomatch e
theorem Rc{n M g:Nat} {vs:List V} {st s a:St} {v w:V} {t:Res V} (c:Nat) (ih:Ev M g vs st v s) (next:Rn n (fN t v s) w a) (e:tag t= .call c g vs st:=by kernel_rfl) (h:M+c<=n:=by first|exact Zg (by assumption) (by assumption) (by decide)|exact Zh (by assumption) (by assumption) (by decide)|omega):Rn n t w a:=
 Gj (ih _ (kg h)) next e
theorem Ra{n:Nat}{m:M V} {st s a:St} {v w:V} {t:Res V} (ih:m st=some (v,s)) (next:Rn n (fN t v s) w a) (e:tag t= .act m st:=by kernel_rfl):Rn n t w a:=by
 cases t with
 |act b aB k=>
  have e:Tag.act b aB=Tag.act m st:=e
  cases e
  show dY PP n _=_
  rw[mz,ih]
  exact next
 |_=>exact nomatch e
theorem Rl{n i:Nat} {o:Ob} {st a:St} {w:V} {t:Res V} (ih:st[i]?=some o) (next:Rn n (eK t o st) w a) (e:tag t= .look i st:=by kernel_rfl):Rn n t w a:=by
 cases t with
 |look b aB k=>
  have e:Tag.look b aB=Tag.look i st:=e
  cases e
  show dY PP n _=_
  rw[qV,ih]
  exact next
 |_=>exact nomatch e
theorem Z1{n:Nat}{t a:Res V} {v:V} {s:St} (e:t=a) (h:Rn n a v s):Rn n t v s:=e▸h
noncomputable def se:Res V->Tag
 | .act m st _=>match m st with
  |some (v,s)=> .done v s
  |Option.none=> .fail
 |_=> .fail
theorem te{n:Nat}{st a:St} {v w:V} {t:Res V} (e:se t= .done v st) (next:Rn n (fN t v st) w a):Rn n t w a:=by
 cases t with
 |act m s k=>
  have e:(match m s with|some (v,s)=>Tag.done v s|Option.none=> .fail)=_:=e
  cases h:m s with
  |none=>rw[h] at e;exact nomatch e
  |some p=>
   rw[h] at e;cases e
   exact Ra h next rfl
 |_=>exact nomatch e
inductive Sx
 |c (k f:Nat) (vs:List V) (v:V) (s:St)
 |a (u v:V)
 |o (i:Nat) (x:Ob)
 |m (m:M V) (v:V)
noncomputable def hW (q:Bool) (v:V):List Sx->St->Res V->List Tag
 |[],st,t=>[bif q then tag t else .done v st]
 | .c k f vs u s::l,st,t=>(bif q then tag t else .call k f vs st)::hW q v l s (fN t u s)
 | .a u b::l,st,t=>(bif q then se t else .done u st)::hW q v l st (fN t b st)
 | .o i x::l,st,t=>(bif q then tag t else .look i st)::hW q v l st (eK t x st)
 | .m m u::l,st,t=>(bif q then tag t else .act m st)::hW q v l st (fN t u st)
def ee (N:Nat) (s':St):List Sx->St->Prop
 |[],st=>st=s'
 | .c k f vs u s::l,st=>(∀n,N<=n->run PP (n-k) f vs st=some (u,s))/\ee N s' l s
 | .a u b::l,st=>u=b/\ee N s' l st
 | .o i x::l,st=>st[i]?=some x/\ee N s' l st
 | .m m u::l,st=>m st=some (u,st)/\ee N s' l st
section
variable {N:Nat} {s' st s:St} {l:List Sx} {v:V}
theorem Mh{n:Nat} (g:N<=n) (l:List Sx):∀{st:St} {t:Res V},hW true v l st t=hW false v l st t->ee N s' l st->Rn n t v s':=by
 induction l with
 |nil=>exact fun e h=>h▸Rd (gm e).1
 |cons x l ih=>
  intro st t e h
  cases x with
  |c k f vs u s=>
   have⟨b,d⟩:=gm e
   exact Gj (h.1 n g) (ih d h.2) b
  |a u j=>have⟨b,d⟩:=gm e;exact te (h.1▸b) (ih d h.2)
  |o i x=>have⟨b,d⟩:=gm e;exact Rl h.1 (ih d h.2) b
  |m m u=>have⟨b,d⟩:=gm e;exact Ra h.1 (ih d h.2) b
theorem kZ:ee N s [] s:=rfl
theorem kC{M f:Nat} {vs:List V} {u:V} (k:Nat) (ev:Ev M f vs st u s) (h:ee N s' l s) (le:M+k<=N:=by first|exact aX rfl|assumption|exact VT (by assumption) (by decide)|exact tQ (by assumption) (by decide)|omega):ee N s' (.c k f vs u s::l) st:=
 ⟨fun n a=>ev _ (kg (aK le a)),h⟩
theorem kA{u:V} (h:ee N s' l st):ee N s' (.a u u::l) st:=⟨rfl,h⟩
theorem kE{u b:V} (e:u=b) (h:ee N s' l st):ee N s' (.a u b::l) st:=⟨e,h⟩
theorem kO{i:Nat}{x:Ob} (e:st[i]?=some x) (h:ee N s' l st):ee N s' (.o i x::l) st:=⟨e,h⟩
theorem kM{m:M V} {u:V} (e:m st=some (u,st)) (h:ee N s' l st):ee N s' (.m m u::l) st:=⟨e,h⟩
theorem Ev.one (ev:List Nat) (m:Nat) {f:Nat} {vs:List V} (ok:ee N s l st) (H:hW true v l st (eO PP ev m 0 f vs st)=hW false v l st (eO PP ev m 0 f vs st):=by kernel_rfl) (hm:m<=N:=by first|exact aX rfl|exact tQ (by assumption) (by decide)|omega):Ev N f vs st v s:=
 Ev.of ev m (fun n q=>Mh q l H ok) hm
theorem Ev.jY{α:Type}{c:List α} {p:α} (q:p∈c) (ev:List Nat) (m:Nat) {f:Nat} {vs:α->List V} {v:α->V} {S:α->List Sx} (ok:ee N s (S p) st)
  (H:c.map (fun p=>hW true (v p) (S p) st (eO PP ev m 0 f (vs p) st))=c.map fun p=>hW false (v p) (S p) st (eO PP ev m 0 f (vs p) st)) (hm:m<=N:=by first|exact aX rfl|exact tQ (by assumption) (by decide)|omega):Ev N f (vs p) st (v p) s:=
 Ev.one ev m ok (List.map_inj_left.mp H p q) hm
end
end
noncomputable def hE (lid:Int) (nm:Nat) (k fl:Int):Ob:= .inst 7 [(33,.int lid),(9,.str nm),(34,.int k),(11,.int fl),(35,.int 1),(36,.int (-1)),(37,.int 0)]
noncomputable def ht (m:Nat):List Ob:=[
 .inst 12 [(54,.obj 69),(46,.obj 1),(27,.obj 2),(55,.obj 78),(56,.obj (m+82)),(57,.int 0),(58,.obj (m+83)),(59,.obj (m+84)),(60,.obj (m+85)),(61,.obj (m+86))],
 .list [],.list [],
 .dict [(.int 22,.obj (m+87)),(.int 23,.obj (m+88)),(.int 34,.obj (m+89)),(.int 31,.obj (m+90)),(.int 27,.obj (m+91)),(.int 28,.obj (m+92)),(.int 19,.obj (m+93)),(.int 18,.obj (m+94)),(.int 20,.obj (m+95)),(.int 21,.obj (m+96)),(.int 26,.obj (m+97)),(.int 25,.obj (m+98)),(.int 24,.obj (m+99))],
 .dict [],.inst 11 [],.inst 13 [],.inst 14 [],.inst 15 [],.inst 16 [],.inst 17 [],.inst 18 [],.inst 19 [],.inst 20 [],.inst 21 [],.inst 22 [],.inst 23 [],.inst 24 [],.inst 25 []]
abbrev GV:=Nat×Int
noncomputable def bW (i:Nat):List GV->List Ob
 |[]=>[]
 |(nm,k)::r=>hE (Int.ofNat (i+1)) nm k 0::bW (i+1) r
noncomputable def bu (i:Nat):List GV->List V
 |[]=>[]
 |_::r=> .obj (i+81)::bu (i+1) r
noncomputable def bR (i:Nat):List GV->List V
 |[]=>[]
 |_::r=> .int (Int.ofNat (i+1))::bR (i+1) r
noncomputable def eZ (i:Nat):List Int->List Ob
 |[]=>[]
 |k::r=>hE (Int.ofNat (i+1)) 62 k 32::eZ (i+1) r
noncomputable def cL (i:Nat):List Int->List V
 |[]=>[]
 |_::r=> .obj (i+100)::cL (i+1) r
noncomputable def fq (i:Nat):List Int->List V
 |[]=>[]
 |_::r=> .int (Int.ofNat (i+1))::fq (i+1) r
structure World where
 nums:List V
 ct:Int
 left:Int
 vd:List (V×V)
 fd:List (V×V)
 gs:List GV
noncomputable def World.bq (w:World):St:=(B.mk w.nums w.ct w.left w.vd w.fd (.none::bu 0 w.gs) (bR 0 w.gs)).st (bW 0 w.gs)
noncomputable def World.lw (w:World):V:= .obj (w.gs.length+81)
noncomputable def World.st (w:World) (ts:List Int):St:=
 (B.mk w.nums w.ct w.left w.vd w.fd (.none::(bu 0 w.gs++cL w.gs.length ts)) (bR 0 w.gs++fq w.gs.length ts)).st (bW 0 w.gs++(ht w.gs.length++eZ w.gs.length ts))
theorem mU (b:B) (tl:List Ob) (i:Nat):(b.st tl)[i+81]?=tl[i]?:=by kernel_rfl
theorem gZ:∀(l:List GV) (i:Nat),(bW i l).length=l.length
 |[],_=>rfl
 |(_,_)::r,i=>by rw[bW,bU,bU,gZ r]
theorem gC:∀(l:List GV) (i:Nat),(bu i l).length=l.length
 |[],_=>rfl
 |(_,_)::r,i=>by rw[bu,bU,bU,gC r]
theorem q8:∀(l:List GV) (i:Nat),(bR i l).length=l.length
 |[],_=>rfl
 |(_,_)::r,i=>by rw[bR,bU,bU,q8 r]
theorem Bp:∀(l:List Int) (i:Nat),(eZ i l).length=l.length
 |[],_=>rfl
 |_::r,i=>by rw[eZ,bU,bU,Bp r]
theorem oG:∀(l:List Int) (i:Nat),(cL i l).length=l.length
 |[],_=>rfl
 |_::r,i=>by rw[cL,bU,bU,oG r]
theorem AK:∀(l:List Int) (i:Nat),(fq i l).length=l.length
 |[],_=>rfl
 |_::r,i=>by rw[fq,bU,bU,AK r]
theorem Bq:∀(l m:List Int) (i:Nat),eZ i (l++m)=eZ i l++eZ (i+l.length) m
 |[],_,_=>rfl
 |_::r,m,i=>by rw[eW,eZ,eZ,eW,Bq r,bU,show i+1+r.length=i+(r.length+1) by exact iZ]
theorem AL:∀(l m:List Int) (i:Nat),cL i (l++m)=cL i l++cL (i+l.length) m
 |[],_,_=>rfl
 |_::r,m,i=>by rw[eW,cL,cL,eW,AL r,bU,show i+1+r.length=i+(r.length+1) by exact iZ]
theorem AM:∀(l m:List Int) (i:Nat),fq i (l++m)=fq i l++fq (i+l.length) m
 |[],_,_=>rfl
 |_::r,m,i=>by rw[eW,fq,fq,eW,AM r,bU,show i+1+r.length=i+(r.length+1) by exact iZ]
theorem uO:∀(l m:List GV) (i:Nat),bW i (l++m)=bW i l++bW (i+l.length) m
 |[],_,_=>rfl
 |(_,_)::r,m,i=>by rw[eW,bW,bW,eW,uO r,bU,show i+1+r.length=i+(r.length+1) by exact iZ]
theorem uC:∀(l m:List GV) (i:Nat),bu i (l++m)=bu i l++bu (i+l.length) m
 |[],_,_=>rfl
 |(_,_)::r,m,i=>by rw[eW,bu,bu,eW,uC r,bU,show i+1+r.length=i+(r.length+1) by exact iZ]
theorem uD:∀(l m:List GV) (i:Nat),bR i (l++m)=bR i l++bR (i+l.length) m
 |[],_,_=>rfl
 |(_,_)::r,m,i=>by rw[eW,bR,bR,eW,uD r,bU,show i+1+r.length=i+(r.length+1) by exact iZ]
theorem World.at (w:World) (ts:List Int) (j:Nat) (o:Ob) (h:(ht w.gs.length)[j]?=some o):(w.st ts)[w.gs.length+j+81]?=some o:=by
 unfold World.st
 rw[mU,ft (by rw[gZ];exact Ef),gZ,show w.gs.length+j-w.gs.length=j by exact Eg]
 have q:j<(ht w.gs.length).length:=(et.mp h).1
 rw[fG q,h]
noncomputable def ea (m:Nat):Ob:= .inst 12 [(54,.obj 69),(46,.obj 1),(27,.obj 2),(55,.obj 78),(56,.obj (m+82)),(57,.int 0),(58,.obj (m+83)),(59,.obj (m+84)),(60,.obj (m+85)),(61,.obj (m+86))]
theorem W0 (w:World) (ts:List Int):(w.st ts)[w.gs.length+81]?=some (ea w.gs.length):=w.at ts 0 _ rfl
noncomputable def ig (m:Nat):List (V×V):=[(.int 22,.obj (m+87)),(.int 23,.obj (m+88)),(.int 34,.obj (m+89)),(.int 31,.obj (m+90)),(.int 27,.obj (m+91)),(.int 28,.obj (m+92)),(.int 19,.obj (m+93)),(.int 18,.obj (m+94)),(.int 20,.obj (m+95)),(.int 21,.obj (m+96)),(.int 26,.obj (m+97)),(.int 25,.obj (m+98)),(.int 24,.obj (m+99))]
theorem W3 (w:World) (ts:List Int):(w.st ts)[w.gs.length+84]?=some (.dict (ig w.gs.length)):=w.at ts 3 _ rfl
theorem W6 (w:World) (ts:List Int):(w.st ts)[w.gs.length+87]?=some (.inst 13 []):=w.at ts 6 _ rfl
theorem W7 (w:World) (ts:List Int):(w.st ts)[w.gs.length+88]?=some (.inst 14 []):=w.at ts 7 _ rfl
theorem W8 (w:World) (ts:List Int):(w.st ts)[w.gs.length+89]?=some (.inst 15 []):=w.at ts 8 _ rfl
theorem W9 (w:World) (ts:List Int):(w.st ts)[w.gs.length+90]?=some (.inst 16 []):=w.at ts 9 _ rfl
theorem Gk (w:World) (ts:List Int):(w.st ts)[w.gs.length+91]?=some (.inst 17 []):=w.at ts 10 _ rfl
theorem qF (w:World) (ts:List Int):(w.st ts)[w.gs.length+92]?=some (.inst 18 []):=w.at ts 11 _ rfl
theorem iI (w:World) (ts:List Int):(w.st ts)[w.gs.length+93]?=some (.inst 19 []):=w.at ts 12 _ rfl
theorem Gl (w:World) (ts:List Int):(w.st ts)[w.gs.length+94]?=some (.inst 20 []):=w.at ts 13 _ rfl
theorem tR (w:World) (ts:List Int):(w.st ts)[w.gs.length+95]?=some (.inst 21 []):=w.at ts 14 _ rfl
theorem zL (w:World) (ts:List Int):(w.st ts)[w.gs.length+96]?=some (.inst 22 []):=w.at ts 15 _ rfl
theorem tS (w:World) (ts:List Int):(w.st ts)[w.gs.length+97]?=some (.inst 23 []):=w.at ts 16 _ rfl
theorem Gm (w:World) (ts:List Int):(w.st ts)[w.gs.length+98]?=some (.inst 24 []):=w.at ts 17 _ rfl
theorem W1 (w:World) (ts:List Int):(w.st ts)[w.gs.length+82]?=some (.list []):=w.at ts 1 _ rfl
section
open PySem
theorem Mi (b:B) (tl:List Ob):(b.st tl).length=tl.length+81:=by kernel_rfl
theorem Mj (b:B) (tl:List Ob) (o:Ob):b.st tl++[o]=b.st (tl++[o]):=by kernel_rfl
theorem Cq (b:B) (tl:List Ob) (i:Nat) (o:Ob):(b.st tl).set (i+81) o=b.st (tl.set i o):=by kernel_rfl
theorem IJ (tl:List Ob) (o p:Ob):(tl++[o]).set tl.length p=tl++[p]:=by
 rw[List.set_append_right _ _ (aO _),pO];rfl
theorem J0 (tl:List Ob) (o:Ob):(tl++[o])[tl.length]?=some o:=by
 rw[ft (aO _),pO];rfl
theorem lF (b:B) (tl:List Ob) (c:Nat) (a:List (Nat×V)) (f:Nat) (v:V) (h:(((cy[c]?).getD []).contains f&&decide (3<=c/\a.length<1000))=true):
  toV (setAttr (.obj (tl.length+81)) f v) (b.st (tl++[.inst c a]))=some (.none,b.st (tl++[.inst c (gI f v a)])):=by
 have e:(b.st (tl++[.inst c a]))[tl.length+81]?=some (.inst c a):=by rw[mU,J0]
 have d:setAttr (.obj (tl.length+81)) f v (b.st (tl++[.inst c a]))=some ((),b.st (tl++[.inst c (gI f v a)])):=by
  show(cU (tl.length+81) (b.st (tl++[.inst c a]))).bind _=_
  unfold cU
  rw[e]
  show(if _ then _ else _:M Unit) _=_
  rw[if_pos h]
  show some ((),(b.st (tl++[.inst c a])).set (tl.length+81) _)=_
  rw[Cq,IJ]
 unfold toV
 rw[d];rfl
theorem v5 (b:B) (tl:List Ob) (o:Ob):ia o (b.st tl)=some (.obj (tl.length+81),b.st (tl++[o])):=by
 show some (V.obj (b.st tl).length,b.st tl++[o])=_
 rw[Mi,Mj]
theorem xU (b:B) (tl:List Ob) (h:b.vl.length<2147483648):lenOf (.obj 71) (b.st tl)=some (.int (Int.ofNat b.vl.length),b.st tl):=by
 have e:lenOf (.obj 71) (b.st tl)=lift (small b.vl.length) (b.st tl):=by kernel_rfl
 rw[e,small,if_pos h];rfl
theorem Sg (b:B) (tl:List Ob) (v:V) (h:b.vl.length<=1048576):toV (append (.obj 71) v) (b.st tl)=some (.none,({b with vl:=b.vl++[v]}:B).st tl):=by
 have e:append (.obj 71) v (b.st tl)=(if b.vl.length<=1048576 then h9 71 (.list (b.vl++[v])) else fail) (b.st tl):=by kernel_rfl
 unfold toV
 rw[e,if_pos h];kernel_rfl
theorem Sh (b:B) (tl:List Ob) (v:V) (h:b.ll.length<=1048576):toV (append (.obj 79) v) (b.st tl)=some (.none,({b with ll:=b.ll++[v]}:B).st tl):=by
 have e:append (.obj 79) v (b.st tl)=(if b.ll.length<=1048576 then h9 79 (.list (b.ll++[v])) else fail) (b.st tl):=by kernel_rfl
 unfold toV
 rw[e,if_pos h];kernel_rfl
noncomputable def B.more (b:B) (x y:V):B:=⟨b.nums,b.ct,b.left,b.vd,b.fd,b.vl++[x],b.ll++[y]⟩
theorem uu (b:B) (tl:List Ob) (nm:Nat) (k fl:Int) (a:b.vl.length<=1048576) (hl:b.ll.length<=1048576):
  Ev 6 30 [.obj 69,.int 1,.str nm,.int k,.int fl] (b.st tl) (.int (Int.ofNat b.vl.length)) ((b.more (.obj (tl.length+81)) (.int (Int.ofNat b.vl.length))).st (tl++[hE (Int.ofNat b.vl.length) nm k fl])):=
 Ev.of [] 4 fun n c=>by
  refine Ra (xU b tl (Us a)) ?_
  refine Ra (v5 b tl (.inst 7 [])) ?_
  refine Ra (lF b tl 7 [] 33 (.int (Int.ofNat b.vl.length)) rfl) ?_
  refine Ra (lF b tl 7 [(33,.int (Int.ofNat b.vl.length))] 9 (.str nm) rfl) ?_
  refine Ra (lF b tl 7 [(33,.int (Int.ofNat b.vl.length)),(9,.str nm)] 34 (.int k) rfl) ?_
  refine Ra (lF b tl 7 [(33,.int (Int.ofNat b.vl.length)),(9,.str nm),(34,.int k)] 11 (.int fl) rfl) ?_
  refine Ra (lF b tl 7 [(33,.int (Int.ofNat b.vl.length)),(9,.str nm),(34,.int k),(11,.int fl)] 35 (.int 1) rfl) ?_
  refine Ra (lF b tl 7 [(33,.int (Int.ofNat b.vl.length)),(9,.str nm),(34,.int k),(11,.int fl),(35,.int 1)] 36 (.int (-1)) rfl) ?_
  refine Ra (lF b tl 7 [(33,.int (Int.ofNat b.vl.length)),(9,.str nm),(34,.int k),(11,.int fl),(35,.int 1),(36,.int (-1))] 37 (.int 0) rfl) ?_
  refine Ra (Sg b (tl++[hE (Int.ofNat b.vl.length) nm k fl]) (.obj (tl.length+81)) a) ?_
  refine Ra (Sh ⟨b.nums,b.ct,b.left,b.vd,b.fd,b.vl++[.obj (tl.length+81)],b.ll⟩ (tl++[hE (Int.ofNat b.vl.length) nm k fl]) (.int (Int.ofNat b.vl.length)) hl) ?_
  exact Rd
def World.room (w:World) (ts:List Int):Prop:=w.gs.length+ts.length<=1048000
noncomputable def World.lid (w:World) (i:Nat):Int:=Int.ofNat (w.gs.length+i+1)
theorem rr (w:World) (ts:List Int) (k:Int) (h:w.room ts):Ev 6 30 [.obj 69,.int 1,.str 62,.int k,.int 32] (w.st ts) (.int (w.lid ts.length)) (w.st (ts++[k])):=by
 have hl:(V.none::(bu 0 w.gs++cL w.gs.length ts)).length=w.gs.length+ts.length+1:=by
  rw[bU,dG,gC,oG]
 have e:=uu (B.mk w.nums w.ct w.left w.vd w.fd (.none::(bu 0 w.gs++cL w.gs.length ts)) (bR 0 w.gs++fq w.gs.length ts)) (bW 0 w.gs++(ht w.gs.length++eZ w.gs.length ts)) 62 k 32
  (by show(V.none::(bu 0 w.gs++cL w.gs.length ts)).length<=_;rw[hl];unfold World.room at h;exact CR h)
  (by show(bR 0 w.gs++fq w.gs.length ts).length<=_;rw[dG,q8,AK];unfold World.room at h;exact NI h)
 have qy:(B.mk w.nums w.ct w.left w.vd w.fd (.none::(bu 0 w.gs++cL w.gs.length ts)) (bR 0 w.gs++fq w.gs.length ts)).vl.length=w.gs.length+ts.length+1:=hl
 rw[qy] at e
 have e2:w.st (ts++[k])=(B.more (B.mk w.nums w.ct w.left w.vd w.fd (.none::(bu 0 w.gs++cL w.gs.length ts)) (bR 0 w.gs++fq w.gs.length ts)) (.obj ((bW 0 w.gs++(ht w.gs.length++eZ w.gs.length ts)).length+81)) (.int (Int.ofNat (w.gs.length+ts.length+1)))).st ((bW 0 w.gs++(ht w.gs.length++eZ w.gs.length ts))++[hE (Int.ofNat (w.gs.length+ts.length+1)) 62 k 32]):=by
  unfold World.st B.more
  dsimp only
  rw[Bq,AL,AM]
  have e3:(bW 0 w.gs++(ht w.gs.length++eZ w.gs.length ts)).length=w.gs.length+ts.length+19:=by
   rw[dG,dG,gZ,Bp]
   show w.gs.length+(19+ts.length)=_
   exact NJ
  rw[e3]
  simp only[eZ,cL,fq,fE,eW]
 rw[e2]
 exact e
def fo (st:St) (lid k:Int):Prop:=∃a nm fl,(fl=0\/fl=32)/\item (.obj 71) (.int lid) st=some (.obj (a+81),st)/\st[a+81]?=some (hE lid nm k fl)
theorem Cr (b:B) (tl:List Ob) (n:Nat) (v:V) (h:n<2147483648) (e:b.vl[n]?=some v):item (.obj 71) (.int (Int.ofNat n)) (b.st tl)=some (v,b.st tl):=by
 have a:item (.obj 71) (.int (Int.ofNat n)) (b.st tl)=lift (jm b.vl (Int.ofNat n)) (b.st tl):=by kernel_rfl
 rw[a]
 show lift (if n<2147483648 then b.vl[n]? else Option.none) _=_
 rw[if_pos h,e];rfl
theorem Br:∀(l:List Int) (i j:Nat),j<l.length->(cL i l)[j]?=some (.obj (i+j+100))
 |[],_,_,h=>absurd h (Nat.not_lt_zero _)
 |_::r,i,0,_=>rfl
 |_::r,i,j+1,h=>by
  show(cL (i+1) r)[j]?=_
  rw[Br r (i+1) j (wg h),show i+1+j=i+(j+1) by exact iZ]
theorem u9:∀(l:List Int) (i j:Nat) (k:Int),l[j]?=some k->(eZ i l)[j]?=some (hE (Int.ofNat (i+j+1)) 62 k 32)
 |[],_,_,_,h=>nomatch h
 |a::r,i,0,k,h=>by obtain rfl:=aR h;rfl
 |_::r,i,j+1,k,h=>by
  show(eZ (i+1) r)[j]?=_
  rw[u9 r (i+1) j k h,show i+1+j=i+(j+1) by exact iZ]
theorem Bs:∀(l:List GV) (i j:Nat),j<l.length->(bu i l)[j]?=some (.obj (i+j+81))
 |[],_,_,h=>absurd h (Nat.not_lt_zero _)
 |(_,_)::r,i,0,_=>rfl
 |(_,_)::r,i,j+1,h=>by
  show(bu (i+1) r)[j]?=_
  rw[Bs r (i+1) j (wg h),show i+1+j=i+(j+1) by exact iZ]
theorem BQ:∀(l:List GV) (i j:Nat) (g:GV),l[j]?=some g->(bW i l)[j]?=some (hE (Int.ofNat (i+j+1)) g.1 g.2 0)
 |[],_,_,_,h=>nomatch h
 |(_,_)::r,i,0,k,h=>by refine cA (br h) fun a b=>?_;obtain rfl:=a;obtain rfl:=b;rfl
 |(_,_)::r,i,j+1,k,h=>by
  show(bW (i+1) r)[j]?=_
  rw[BQ r (i+1) j k h,show i+1+j=i+(j+1) by exact iZ]
theorem IK (w:World) (ts:List Int) (i:Nat) (k:Int) (h:ts[i]?=some k) (b:w.room ts):fo (w.st ts) (w.lid i) k:=by
 have c:i<ts.length:=(et.mp h).1
 unfold World.room at b
 refine⟨w.gs.length+19+i,62,32,.inr rfl,?_,?_⟩
 ·refine Cr _ _ _ _ (NK b c) ?_
  show(bu 0 w.gs++cL w.gs.length ts)[w.gs.length+i]?=_
  rw[ft (by rw[gC];exact Ef),gC,show w.gs.length+i-w.gs.length=i by exact Eg,Br _ _ _ c,show w.gs.length+i+100=w.gs.length+19+i+81 by exact NL]
 ·unfold World.st
  rw[mU,ft (by rw[gZ];exact NM),gZ,show w.gs.length+19+i-w.gs.length=19+i by exact NO]
  have a:(ht w.gs.length).length=19:=rfl
  rw[ft (by rw[a];exact CS),a,show 19+i-19=i by exact CT,u9 _ _ _ _ h]
  rfl
theorem J1 (w:World) (ts:List Int) (i:Nat) (g:GV) (h:w.gs[i]?=some g) (a:w.room ts):fo (w.st ts) (Int.ofNat (i+1)) g.2:=by
 have b:i<w.gs.length:=(et.mp h).1
 unfold World.room at a
 refine⟨i,g.1,0,.inl rfl,?_,?_⟩
 ·refine Cr _ _ _ _ (NP a b) ?_
  show(bu 0 w.gs++cL w.gs.length ts)[i]?=_
  rw[fG (by rw[gC];omega),Bs _ _ _ b,dq]
 ·unfold World.st
  rw[mU,fG (by rw[gZ];omega),BQ _ _ _ _ h,dq]
section
theorem rt (K:cF):∀(a b:List Sm) (env:Env) (st:St),cM K env (a++b) st=(cM K env a st).bind fun p=>match p with
  |((.next,c),s)=>cM K c b s
  |(x,s)=>some (x,s)
 |[],b,env,st=>rfl
 |s::r,b,env,st=>by
  show((nT K env s st).bind _)=((nT K env s st).bind _).bind _
  cases nT K env s st with
  |none=>rfl
  |some p=>
   obtain⟨⟨fl,en⟩,s'⟩:=p
   cases fl with
   |next=>exact rt K r b en s'
   |ret v=>rfl
noncomputable def tl (K:cF) (env:Env) (l:List Sm):M V:=cM K env l>>=fin
noncomputable def tT (k:Env->M V) (x:Fl×Env):M V:=match x with
 |(.next,en)=>k en
 |(.ret v,_)=>pure v
noncomputable def gv (K:cF) (env:Env) (a:List Sm) (k:Env->M V):M V:=cM K env a>>=tT k
theorem fw (K:cF) (env:Env) (a b:List Sm) (st:St):tl K env (a++b) st=gv K env a (fun en=>tl K en b) st:=by
 show(cM K env (a++b) st).bind _=(cM K env a st).bind _
 rw[rt]
 cases cM K env a st with
 |none=>rfl
 |some p=>
  obtain⟨⟨fl,en⟩,s'⟩:=p
  cases fl<;>rfl
noncomputable def ml (K:cF) (i:Nat) (b:List Sm) (k:Env->M V):List V->Env->M V
 |[],env=>k env
 |v::r,env=>gv K (env.set i (.v v)) b (fun en=>ml K i b k r en)
theorem Cs (K:cF) (i:Nat) (b:List Sm) (k:Env->M V):∀(l:List V) (env:Env) (st:St),(loop (fun v env=>cM K (env.set i (.v v)) b) l env st).bind (fun p=>tT k p.1 p.2)=ml K i b k l env st
 |[],_,_=>rfl
 |v::r,env,st=>by
  show((cM K (env.set i (.v v)) b st).bind _).bind _=(cM K (env.set i (.v v)) b st).bind _
  cases cM K (env.set i (.v v)) b st with
  |none=>rfl
  |some p=>
   obtain⟨⟨fl,en⟩,s'⟩:=p
   cases fl with
   |next=>exact Cs K i b k r en s'
   |ret v=>rfl
theorem tf{l:List V} (h:l.length<=1048576) (st:St):dz (.lst l) st=some (l,st):=by
 show(if l.length<=1048576 then pure l else fail:M (List V)) st=_
 rw[if_pos h];rfl
theorem E5{l:List V} (h:l.length<=1048576) (st:St):dz (.tup l) st=some (l,st):=by
 show(if l.length<=1048576 then pure l else fail:M (List V)) st=_
 rw[if_pos h];rfl
theorem VU{l:List V} (h:l.length<=1048576) (st:St):truth (.tup l) st=some (!l.isEmpty,st):=by
 show(if l.length<=1048576 then pure (!l.isEmpty) else fail:M Bool) st=_
 rw[if_pos h];rfl
theorem o7{K:cF}{env:Env}{i:Nat}{d:Ex}{b:List Sm} {o:V} {l:List V} {k:Env->M V} {st c a:St} (h:aG K env d st=some (o,c)) (hl:dz o c=some (l,a)):gv K env [.dh i d b] k st=ml K i b k l env a:=by
 show(((aG K env d st).bind _:Option _).bind _:Option _).bind _=_
 rw[h]
 show(((dz o c).bind _:Option _).bind _:Option _).bind _=_
 rw[hl,<-Cs]
 show((loop _ l env a).bind _).bind _=_
 cases loop (fun v env=>cM K (env.set i (.v v)) b) l env a with
 |none=>rfl
 |some p=>
  obtain⟨⟨fl,en⟩,s'⟩:=p
  cases fl<;>rfl
theorem BR{K:cF}{z:Option ((Fl×Env)×St)} {k:Env->M V}:(z.bind fun p=>(match p.1 with|(.next,e')=>cM K e' []|x=>pure x:M (Fl×Env)) p.2).bind (fun p=>tT k p.1 p.2)=z.bind fun p=>tT k p.1 p.2:=by
 cases z with
 |none=>rfl
 |some p=>
  obtain⟨⟨fl,en⟩,s'⟩:=p
  cases fl<;>rfl
theorem kJ{K:cF}{env:Env}{c:Ex}{x y:List Sm} {v:Bool} {k:Env->M V} {st s:St} (h:aG K env c st=some (.bool v,s)):gv K env [.iff c x y] k st=gv K env (if v then x else y) k s:=by
 show(((aG K env c st).bind _:Option _).bind _:Option _).bind _=_
 rw[h]
 cases v with
 |true=>exact BR (z:=cM K env x s)
 |false=>exact BR (z:=cM K env y s)
theorem o8{K:cF}{env:Env}{i:Nat}{e:Ex}{v:V}{k:Env->M V} {st s:St} (h:aG K env e st=some (v,s)):gv K env [.asg i e] k st=k (env.set i (.v v)) s:=by
 show(((aG K env e st).bind _:Option _).bind _:Option _).bind _=_
 rw[h]
 show(k _ s)=_
 rfl
theorem DB{K:cF}{env:Env}{e:Ex}{v:V}{r:List Sm} {st s:St} (h:aG K env e st=some (v,s)):tl K env (.ret e::r) st=some (v,s):=by
 show(((aG K env e st).bind _:Option _).bind _:Option _).bind _=_
 rw[h];rfl
theorem VV{K:cF}{env:Env}{e:Ex}{v:Bool}{st s:St} (h:aG K env e st=some (.bool v,s)):aG K env (.nt e) st=some (.bool !v,s):=by
 show((aG K env e st).bind _:Option _)=_
 rw[h];rfl
theorem Si{K:cF}{env:Env}{e f:Ex} {a b:List V} {st s t:St} (h:aG K env e st=some (.lst a,s)) (c:aG K env f s=some (.lst b,t)) (hl:a.length+b.length<=1048576):aG K env (.bn .add e f) st=some (.lst (a++b),t):=by
 show((aG K env e st).bind _:Option _)=_
 rw[h]
 show((aG K env f s).bind _:Option _)=_
 rw[c]
 show lift (if a.length+b.length<=1048576 then some (V.lst (a++b)) else Option.none) t=_
 rw[if_pos hl];rfl
noncomputable abbrev Kn (n:Nat):cF:=mR PP (run PP n)
noncomputable def oc (b:List V):List (List V)->List V
 |[]=>b
 |a::l=>oc (b++a) l
theorem rF:∀(l:List (List V)) (b:List V),b.length<=(oc b l).length
 |[],_=>aO _
 |a::l,b=>aK (by rw[dG];exact bE ..) (rF l (b++a))
section
variable {α:Type} {g r:α->List V} {n:Nat} {st:St}
theorem vc{f:Nat}{t:V} (k:Env->M V) {R:Option (V×St)}:∀(l:List α) {b:List V} {sl:Slot},(∀p∈l,run PP n f [.tup (g p)] st=some (.lst (r p),st))->(oc b (l.map r)).length<=1000000->
  (∀sl,k [.v t,.v (.lst (oc b (l.map r))),sl] st=R)->ml (Kn n) 2 [.asg 1 (.bn .add (.lc 1) (.call f [.lc 2]))] k (l.map fun p=> .tup (g p)) [.v t,.v (.lst b),sl] st=R
 |[],b,sl,_,_,q=>q sl
 |p::l,b,sl,h,hl,q=>by
  show gv (Kn n) [.v t,.v (.lst b),.v (.tup (g p))] [.asg 1 (.bn .add (.lc 1) (.call f [.lc 2]))] _ st=_
  have e:aG (Kn n) [.v t,.v (.lst b),.v (.tup (g p))] (.call f [.lc 2]) st=some (.lst (r p),st):=h p (.head _)
  have c:=aK (rF (l.map r) (b++r p)) hl
  rw[o8 (Si (a:=b) rfl e (by rw[<-dG];exact aK c (by decide)))]
  exact vc k l (fun p h'=>h p (.tail _ h')) hl q
theorem BU{m t:V} {r:List Slot} (k:Env->M V) {R:Option (V×St)}:∀(l:List α) {sl:Slot},(∀p∈l,run PP n 118 [m,.tup (g p)] st=some (.bool true,st))->
  (∀sl,k (.v m:: .v t::sl::r) st=R)->ml (Kn n) 2 [.iff (.nt (.call 118 [.lc 0,.lc 2])) [.ret (.cn (.bool false))] []] k (l.map fun p=> .tup (g p)) (.v m:: .v t::sl::r) st=R
 |[],sl,_,q=>q sl
 |p::l,sl,h,q=>by
  show gv (Kn n) (.v m:: .v t:: .v (.tup (g p))::r) _ _ st=_
  have e:aG (Kn n) (.v m:: .v t:: .v (.tup (g p))::r) (.call 118 [.lc 0,.lc 2]) st=some (.bool true,st):=h p (.head _)
  rw[kJ (VV e)]
  exact BU k l (fun p h'=>h p (.tail _ h')) q
theorem BV{t:V}{lid:Int}{a:α->Bool}:∀(l:List α) {sl:Slot},(∀p∈l,run PP n 48 [.tup (g p),.int lid] st=some (.bool (a p),st))->
  ml (Kn n) 2 [.iff (.call 48 [.lc 2,.lc 1]) [.ret (.cn (.bool true))] []] (fun en=>tl (Kn n) en [.ret (.cn (.bool false))]) (l.map fun p=> .tup (g p)) [.v t,.v (.int lid),sl] st=some (.bool (l.any a),st)
 |[],sl,_=>rfl
 |p::l,sl,h=>by
  have e:aG (Kn n) [.v t,.v (.int lid),.v (.tup (g p))] (.call 48 [.lc 2,.lc 1]) st=some (.bool (a p),st):=h p (.head _)
  show gv (Kn n) [.v t,.v (.int lid),.v (.tup (g p))] _ _ st=some (.bool (a p||l.any a),st)
  rw[kJ e]
  cases a p with
  |true=>rfl
  |false=>exact BV l fun p h'=>h p (.tail _ h')
theorem BW{lw t u:V} {sl:Slot}:∀(l:List α),(∀p∈l,run PP n 45 [lw,.tup (g p)] st=some (.tup (g p),st))->
  ((l.map fun p=>V.tup (g p)).mapM fun v=>aG (Kn n) ([.v lw,.v t,.v u,sl].set 3 (.v v)) (.call 45 [.lc 0,.lc 3])) st=some (l.map fun p=>V.tup (g p),st)
 |[],_=>rfl
 |p::l,h=>by
  rw[eV,pK]
  have e:aG (Kn n) ([.v lw,.v t,.v u,sl].set 3 (.v (.tup (g p)))) (.call 45 [.lc 0,.lc 3]) st=some (.tup (g p),st):=h p (.head _)
  show(aG (Kn n) ([.v lw,.v t,.v u,sl].set 3 (.v (.tup (g p)))) (.call 45 [.lc 0,.lc 3]) st).bind _=_
  rw[e]
  show((List.mapM (m:=M) (fun v=>aG (Kn n) ([.v lw,.v t,.v u,sl].set 3 (.v v)) (.call 45 [.lc 0,.lc 3])) (l.map fun p=>V.tup (g p))) st).bind _=_
  rw[BW l fun p h'=>h p (.tail _ h')];rfl
end
theorem Ct{K:cF}{env:Env}{e a:Ex} {i:Nat} {l m:List V} {st s:St} (h:aG K env a st=some (.tup l,s)) (hl:l.length<=1048576) (hm:(l.mapM fun v=>aG K (env.set i (.v v)) e) s=some (m,s)):aG K env (.comp e i a) st=some (.lst m,s):=by
 show((aG K env a st).bind _:Option _)=_
 rw[h]
 show((dz (.tup l) s).bind _:Option _)=_
 rw[E5 hl]
 show((List.mapM (m:=M) (fun v=>aG K (env.set i (.v v)) e) l) s).bind _=_
 rw[hm];rfl
theorem DC{K:cF}{env:Env}{e:Ex}{l:List V} {st s:St} (h:aG K env e st=some (.tup l,s)) (hl:l.length<=1048576):aG K env (.nt e) st=some (.bool !(!l.isEmpty),s):=by
 show((aG K env e st).bind _:Option _)=_
 rw[h]
 show((truth (.tup l) s).bind _:Option _)=_
 rw[VU hl];rfl
theorem xV{K:cF}{env:Env}{c x y:Ex} {v:Bool} {st s:St} (h:aG K env c st=some (.bool v,s)):aG K env (.ite c x y) st=aG K env (if v then x else y) s:=by
 show((aG K env c st).bind _:Option _)=_
 rw[h];cases v<;>rfl
theorem yX{K:cF}{env:Env}{x y:Ex} {l:List Ex} {st s:St} (h:aG K env x st=some (.bool false,s)):aG K env (.an (x::y::l)) st=some (.bool false,s):=by
 show((aG K env x st).bind _:Option _)=_
 rw[h];rfl
theorem mV{K:cF}{env:Env}{x y:Ex} {a b:Int} {st s t:St} (h:aG K env x st=some (.int a,s)) (c:aG K env y s=some (.int b,t)):aG K env (.cm .eq x y) st=some (.bool (a==b),t):=by
 show((aG K env x st).bind _:Option _)=_
 rw[h]
 show((aG K env y s).bind _:Option _)=_
 rw[c];kernel_rfl
theorem Sj{n:Nat}{k a b:Int} {st:St}:aG (Kn n) [.v (.tup [.int 5,.int k,.tup [.int 12,.int a]]),.un,.un] (.an [.cm .eq (.ix (.lc 0) (.cn (.int 0))) (.cn (.int 5)),.cm .gt (.ix (.ix (.lc 0) (.cn (.int 2))) (.cn (.int 1))) (.cn (.int b))]) st=some (.bool (decide (b<a)),st):=by kernel_rfl
end
section
def Later (w:World) (ts ts':List Int):Prop:=ts<+:ts'/\w.room ts'
theorem Later.trans{w:World}{a b c:List Int} (h:Later w a b) (k:Later w b c):Later w a c:=⟨List.IsPrefix.trans h.1 k.1,k.2⟩
theorem Later.of{w:World}{a b c:List Int} (h:a<+:b) (k:Later w b c):Later w a c:=⟨List.IsPrefix.trans h k.1,k.2⟩
def bT (l:List V):Prop:=∀x∈l,∃i:Int,x= .int i
theorem bT.nil:bT []:=fun _ h=>nomatch h
theorem bT.one (i:Int):bT [.int i]:=fun x h=>⟨i,by simpa using h⟩
theorem bT.app{a b:List V} (h:bT a) (k:bT b):bT (a++b):=fun x q=>(dM.mp q).elim (h x) (k x)
theorem bT.bG:∀{l:List V},bT l->V.bG l=true
 |[],_=>rfl
 |a::r,h=>by
  obtain⟨i,rfl⟩:=h a (List.mem_cons_self ..)
  show(true&&V.bG r)=true
  rw[bT.bG (l:=r) fun x q=>h x (wu _ q)];rfl
theorem bT.dy:∀{l:List V},bT l->V.dy l=0
 |[],_=>rfl
 |a::r,h=>by
  obtain⟨i,rfl⟩:=h a (List.mem_cons_self ..)
  show max 0 (V.dy r)=0
  rw[bT.dy (l:=r) fun x hx=>h x (wu _ hx)];rfl
noncomputable def codes:List Int:=[4,5,6,8,9,13,14,15,16,17,19,20,21,22,31,36]
inductive Hd (w:World) (ts:List Int) (k:Int):List V->List V->List V->Prop
 |cst (v:V) (h:(v= .none/\k∈([12,13,19,20,27,28,29,30,31]:List Int))\/(∃i,v= .int i/\k∈([1,7,9,16,17]:List Int))\/∃s,v= .str s/\s<104/\k=13):Hd w ts k [.int 1,.int k,v] [] []
 |loc (lid:Int) (h:∀ts',Later w ts ts'->fo (w.st ts') lid k):Hd w ts k [.int 2,.int k,.int lid] [] []
 |mm:Hd w ts k [.int 12,.int k] [] []
 |mn (c:Int) (r:List V) {rd wr:List V} (h:c∈codes):Hd w ts k (.int c:: .int k::r) rd wr
structure GK (w:World) (ts:List Int) (t rd wr:List V) (d s:Nat):Prop where
 pl:V.bG t=true
 dp:V.dy t+1<=d
 sz:rd.length+wr.length<=s
 ir:bT rd
 iw:bT wr
 snd:∀ts',Later w ts ts'->Ev (5*d+12) 118 [.obj 15,.tup t] (w.st ts') (.bool true) (w.st ts')
 jr:rd.length<=1000000->∀st,Ev (5*d+12) 117 [.tup t] st (.lst rd) st
 oe:wr.length<=1000000->∀st,Ev (5*d+12) 122 [.tup t] st (.lst wr) st
 fix:∀ts',Later w ts ts'->Ev (5*d+12) 45 [w.lw,.tup t] (w.st ts') (.tup t) (w.st ts')
 dJ:∀ts',Later w ts ts'->Ev (5*d+14) 67 [w.lw,.tup t] (w.st ts') (.tup t) (w.st ts')
 ej:∀st lid,∃b,Ev (5*d+12) 48 [.tup t,.int lid] st (.bool b) st
structure Good (w:World) (ts:List Int) (t:List V) (k:Int) (rd wr:List V) (d s:Nat):Prop extends GK w ts t rd wr d s where
 hd:Hd w ts k t rd wr
theorem Good.bJ{w ts t k rd wr d s} (h:Good w ts t k rd wr d s):∃c r,t= .int c:: .int k::r:=by
 cases h.hd with
 |cst v _=>exact⟨_,_,rfl⟩
 |loc v _=>exact⟨_,_,rfl⟩
 |mm=>exact⟨_,_,rfl⟩
 |mn c r _=>exact⟨_,_,rfl⟩
theorem Hd.later{w ts ts' t k rd wr} (h:Hd w ts k t rd wr) (l:ts<+:ts'):Hd w ts' k t rd wr:=by
 cases h with
 |cst v h=>exact .cst v h
 |loc v h=>exact .loc v fun q z=>h q (.of l z)
 |mm=>exact .mm
 |mn c r h=>exact .mn c r h
theorem Good.later{w ts ts' t k rd wr d s} (h:Good w ts t k rd wr d s) (l:ts<+:ts'):Good w ts' t k rd wr d s:=
 ⟨⟨h.pl,h.dp,h.sz,h.ir,h.iw,fun q z=>h.snd q (.of l z),h.jr,h.oe,fun q z=>h.fix q (.of l z),fun q z=>h.dJ q (.of l z),h.ej⟩,h.hd.later l⟩
theorem lb{d d' c:Nat} (h:d<=d'):5*d+c<=5*d'+c:=ip (m6 5 h) c
theorem Good.up{w ts t k rd wr d s d' s'} (h:Good w ts t k rd wr d s) (hd:d<=d':=by first|assumption|exact aO _|exact aX rfl|omega) (A:s<=s':=by first|assumption|exact aO _|exact aX rfl|omega):Good w ts t k rd wr d' s':=
 ⟨⟨h.pl,aK h.dp hd,aK h.sz A,h.ir,h.iw,fun q z=>(h.snd q z).up (lb hd),fun l st=>(h.jr l st).up (lb hd),fun l st=>(h.oe l st).up (lb hd),
 fun q z=>(h.fix q z).up (lb hd),fun q z=>(h.dJ q z).up (lb hd),fun st lid=>(h.ej st lid).imp fun _ e=>e.up (lb hd)⟩,h.hd⟩
theorem Rp{n:Nat}{a:St}{v:V}{t:Res V} (w:World) (ts:List Int) (next:Rn n (eK (eK (eK t (ea w.gs.length) (w.st ts)) (.dict (ig w.gs.length)) (w.st ts)) (.dict (ig w.gs.length)) (w.st ts)) v a)
 (e:tag t= .look (w.gs.length+81) (w.st ts):=by kernel_rfl) (b:tag (eK t (ea w.gs.length) (w.st ts))= .look (w.gs.length+84) (w.st ts):=by kernel_rfl)
 (c:tag (eK (eK t (ea w.gs.length) (w.st ts)) (.dict (ig w.gs.length)) (w.st ts))= .look (w.gs.length+84) (w.st ts):=by kernel_rfl):Rn n t v a:=
 Rl (W0 w ts) (Rl (W3 w ts) (Rl (W3 w ts) next c) b) e
theorem aah (a b:List V) (st:St) (h:a.length+b.length<=1048576):lift (gu .add (.lst a) (.lst b)) st=some (.lst (a++b),st):=by
 show lift (if a.length+b.length<=1048576 then some (V.lst (a++b)) else Option.none) st=_
 rw[if_pos h];rfl
theorem tg (a b:List V) (st:St) (h:a.length+b.length<=1048576):lift (gu .add (.tup a) (.tup b)) st=some (.tup (a++b),st):=by
 show lift (if a.length+b.length<=1048576 then some (V.tup (a++b)) else Option.none) st=_
 rw[if_pos h];rfl
theorem kK (a b:Int) (st:St):ey (cmp .eq (.int a) (.int b)) st=some (.bool (a==b),st):=by kernel_rfl
theorem E6 (a b:Int) (st:St):ey (cmp .gt (.int a) (.int b)) st=some (.bool (decide (b<a)),st):=by kernel_rfl
theorem lG{a b:Int} (h:a≠b) (st:St):ey (cmp .eq (.int a) (.int b)) st=some (.bool false,st):=by rw[kK,beq_eq_false_iff_ne.mpr h]
theorem fi (a:Int) (st:St):ey (cmp .eq (.int a) (.int a)) st=some (.bool true,st):=by rw[kK,beq_self_eq_true]
theorem AN:∀l:List Int,V.eX (l.map .int) (l.map .int)=true
 |[]=>rfl
 |a::r=>by
  show((a==a)&&V.eX (r.map .int) (r.map .int))=true
  rw[AN r,beq_self_eq_true];rfl
theorem bT.map{l:List V} (h:bT l):∃m:List Int,l=m.map .int:=by
 induction l with
 |nil=>exact⟨[],rfl⟩
 |cons a r ih=>
  obtain⟨i,rfl⟩:=h a (List.mem_cons_self ..)
  obtain⟨m,rfl⟩:=ih fun x q=>h x (wu _ q)
  exact⟨i::m,rfl⟩
theorem q9{l:List V} (h:bT l) (st:St):ey (cmp .eq (.lst l) (.lst l)) st=some (.bool true,st):=by
 have e:cmp .eq (.lst l) (.lst l) st=(if V.deep (.lst l)<=60/\V.deep (.lst l)<=60 then lift (V.eq (.lst l) (.lst l)) else fail) st:=by kernel_rfl
 have hd:V.deep (.lst l)=1:=by show V.dy l+1=1;rw[h.dy]
 have a:V.eq (.lst l) (.lst l)=some true:=by
  show(if V.plain (.lst l)&&V.plain (.lst l) then some (V.beq (.lst l) (.lst l)) else Option.none)=_
  have b:V.plain (.lst l)=true:=h.bG
  rw[b]
  obtain⟨m,rfl⟩:=h.map
  show some (V.eX (m.map .int) (m.map .int))=_
  rw[AN]
 unfold ey
 rw[e,hd,if_pos (by decide),a];rfl
theorem Ev.k{N g vs st v s} (h:∀m,run PP (m+N) g vs st=some (v,s)):Ev N g vs st v s:=fun n q=>ke q▸h (n-N)
theorem mx{a b c:Nat} (h:a<=c) (k:b<=c):max a b<=c:=Nat.max_le.mpr ⟨h,k⟩
theorem l1{a d:Nat} (e:a+1<=d):1<=d:=aK (jI (dt _)) e
noncomputable def nN:List Int:=[1,2,4,5,6,8,9,12,13,14,15,16,17,19,20,21,31,36]
theorem p7{w:World}{ts ts':List Int} {c:Int} {r t:List V} {N:Nat} (a:c∈nN) (h:Ev N 45 [w.lw,.tup (.int c::r)] (w.st ts) (.tup t) (w.st ts')):Ev (N+2) 67 [w.lw,.tup (.int c::r)] (w.st ts) (.tup t) (w.st ts'):=by
 simp only[nN,bP,cp,or_false] at a
 rcases a with rfl|rfl|rfl|rfl|rfl|rfl|rfl|rfl|rfl|rfl|rfl|rfl|rfl|rfl|rfl|rfl|rfl|rfl<;>exact Ev.of [45] 2 fun n b=>Rl (W0 w ts)<|Rc 2 h Rd
noncomputable def th:List Int:=[1,2,4,5,6,8,9,12,13,14,15,16,17,36]
theorem xW{w:World}{ts:List Int} {c:Int} {r t:List V} {N:Nat} (a:c∈th) (h:Ev N 46 [w.lw,.tup (.int c::r)] (w.st ts) (.tup t) (w.st ts)):Ev (N+1) 45 [w.lw,.tup (.int c::r)] (w.st ts) (.tup t) (w.st ts):=by
 simp only[th,bP,cp,or_false] at a
 rcases a with rfl|rfl|rfl|rfl|rfl|rfl|rfl|rfl|rfl|rfl|rfl|rfl|rfl|rfl<;>exact Ev.of [46] 1 (fun n b=>Rp w ts<|Rc 1 h Rd) (cj ..)
theorem f1{d c n:Nat} (h:5*(d+1)+12<=n) (q:c<=5:=by decide):5*d+12+c<=n:=by exact NQ h q
theorem f2{d c n:Nat} (h:5*(d+2)+12<=n) (q:c<=5:=by decide):5*d+12+c<=n:=by exact NR h q
theorem f3{d c n:Nat} (h:5*(d+1)+14<=n) (q:c<=5:=by decide):5*d+12+c<=n:=by exact NS h q
theorem f6{x c n:Nat} (h:5*x+12<=n) (q:c<=6:=by decide):6+c<=n:=by exact NT h q
theorem f7{x c n:Nat} (h:5*x+12<=n) (q:c<=4:=by decide):8+c<=n:=by exact NU h q
theorem fF{d c n:Nat} (h:5*(d+2)+12<=n) (q:c<=3:=by decide):5*d+14+c<=n:=by exact NV h q
theorem pT{a r:List V} (h:V.bG a=true) (k:V.bG r=true):V.bG (.tup a::r)=true:=bK.mpr ⟨h,k⟩
theorem pS{n:Nat}{r:List V} (h:n<104) (k:V.bG r=true):V.bG (.str n::r)=true:=bK.mpr ⟨decide_eq_true h,k⟩
structure Kd where
 t:List V
 rd:List V
 wr:List V
 s:Nat
inductive cC (w:World) (ts:List Int) (d:Nat):List Kd->Prop
 |nil:cC w ts d []
 |cons {t rd wr:List V} {s:Nat} {l:List Kd} (h:GK w ts t rd wr d s) (a:cC w ts d l):cC w ts d (⟨t,rd,wr,s⟩::l)
noncomputable def gx (a:Nat):List Kd->Nat
 |[]=>a
 |q::l=>gx (a+q.s) l
noncomputable def sm:List Kd->Nat
 |[]=>0
 |q::l=>gx q.s l
noncomputable def kT (ks:List Kd):List V:=ks.map fun q=> .tup q.t
noncomputable def kR (a:List V) (ks:List Kd):List V:=oc a (ks.map (·.rd))
noncomputable def kW (a:List V) (ks:List Kd):List V:=oc a (ks.map (·.wr))
section
variable {w:World} {ts:List Int} {d:Nat} {ks:List Kd} {t:List V}
theorem cC.Zi (G:cC w ts d ks):∀{a b:List V} {x:Nat},a.length+b.length<=x->(kR a ks).length+(kW b ks).length<=gx x ks:=by
 induction G with
 |nil=>exact fun h=>h
 |@cons t rd wr s l h _ ih=>
  intro a b x q
  refine ih (a:=a++rd) (b:=b++wr) ?_
  rw[dG,dG,we]
  exact fO q h.sz
theorem BX:∀(l:List Kd) (x y:Nat),gx (x+y) l=gx x l+y
 |[],_,_=>rfl
 |q::l,x,y=>by
  show gx (x+y+q.s) l=gx (x+q.s) l+y
  rw[Nat.add_right_comm,BX]
theorem cC.sz (G:cC w ts d ks) {a b:List V} {e:Nat} (h:a.length+b.length<=e):(kR a ks).length+(kW b ks).length<=sm ks+e:=by
 have z:sm ks+e=gx e ks:=by
  cases ks with
  |nil=>exact dq e
  |cons q l=>exact((BX l q.s e).symm.trans (by rw[nh]):gx q.s l+e=gx (e+q.s) l)
 rw[z];exact G.Zi h
theorem cC.ir (G:cC w ts d ks):∀{a:List V},bT a->bT (kR a ks):=by
 induction G with
 |nil=>exact fun h=>h
 |cons h _ ih=>exact fun k=>ih (k.app h.ir)
theorem cC.iw (G:cC w ts d ks):∀{a:List V},bT a->bT (kW a ks):=by
 induction G with
 |nil=>exact fun h=>h
 |cons h _ ih=>exact fun k=>ih (k.app h.iw)
theorem cC.all (G:cC w ts d ks):∀q∈ks,GK w ts q.t q.rd q.wr d q.s:=by
 induction G with
 |nil=>exact fun _ h=>nomatch h
 |cons h _ ih=>exact fun q z=>(bP.mp z).elim (fun e=>e▸h) (ih q)
theorem DE:∀(ks:List Kd) {a:List V} {q:Kd},q∈ks->q.rd.length<=(kR a ks).length
 |p::l,a,q,h=>by
  rcases bP.mp h with e|h
  ·subst e;exact aK (by rw[dG];exact cj ..) (rF (l.map (·.rd)) (a++q.rd))
  ·exact DE l h
theorem DF:∀(ks:List Kd) {a:List V} {q:Kd},q∈ks->q.wr.length<=(kW a ks).length
 |p::l,a,q,h=>by
  rcases bP.mp h with e|h
  ·subst e;exact aK (by rw[dG];exact cj ..) (rF (l.map (·.wr)) (a++q.wr))
  ·exact DF l h
theorem mK (h:ks.length<=1000):(kT ks).length<=1048576:=by rw[kT,eU];exact aK h (by decide)
theorem n1{N n x:Nat} (h:N+(x+1)<=n):∃m,n=m+1/\N+x<=m:=⟨n-1,(ke (aK (cj 1 (N+x)) h)).symm,kg h⟩
def KF (t:List V) (ks:List Kd):Prop:=∀st m,run PP (m+6) 32 [.tup t] st=some (.tup (kT ks),st)
def LF (t:List V) (ks:List Kd):Prop:=∀st m,run PP (m+6) 116 [.tup t] st=some (.lst (kT ks),st)
def WF (t:List V) (ks:List Kd):Prop:=∀st m,run PP (m+8) 33 [.tup t,.lst (kT ks)] st=some (.tup t,st)
theorem LF.ev (h:LF t ks) (st:St):Ev 6 116 [.tup t] st (.lst (kT ks)) st:= .k (h st)
theorem KF.ev (h:KF t ks) (st:St):Ev 6 32 [.tup t] st (.tup (kT ks)) st:= .k (h st)
theorem n9{c M n:Nat} (hM:c+1<=M) (b:12<=c) (a:M<=n):∃m,n=m+9/\c<=m+8:=
 ⟨n-9,(ke (aK (aK (by decide) (aK b (dZ c))) (aK hM a))).symm,by exact CU hM a⟩
noncomputable def p8:Ex:=match EF with
 | .asg _ e::_=>e
 |_=> .lc 0
noncomputable def nO:Ex:=match EG with
 | .asg _ e::_=>e
 |_=> .lc 0
theorem m9{N M n:Nat} (hM:N+1<=M) (b:9<=M) (a:M<=n):∃m,n=m+9/\N<=m+8:=⟨n-9,(ke (aK b a)).symm,by exact CU hM a⟩
theorem yY{N:Nat} (H:∀q∈ks,q.rd.length<=1000000->∀st,Ev N 117 [.tup q.t] st (.lst q.rd) st) (l:LF t ks) (d:ks.length<=1000) {a:List V} (e:∀m st,aG (Kn (m+8)) [.v (.tup t),.un,.un] p8 st=some (.lst a,st)) {M:Nat} (hM:N+1<=M) (f:9<=M) (hl:(kR a ks).length<=1000000):∀st,Ev M 117 [.tup t] st (.lst (kR a ks)) st:=by
 intro st n h
 obtain⟨m,rfl,hm⟩:=m9 hM f h
 have q:run PP (m+9) 117 [.tup t]=tl (Kn (m+8)) [.v (.tup t),.un,.un] ([.asg 1 p8]++([.dh 2 (.call 116 [.lc 0]) [.asg 1 (.bn .add (.lc 1) (.call 117 [.lc 2]))]]++[.ret (.lc 1)])):=by kernel_rfl
 rw[q,fw,o8 (e m st)]
 show tl (Kn (m+8)) [.v (.tup t),.v (.lst a),.un] _ st=_
 have c:aG (Kn (m+8)) [.v (.tup t),.v (.lst a),.un] (.call 116 [.lc 0]) st=some (.lst (kT ks),st):=l st (m+2)
 rw[fw,o7 c (tf (mK d) st)]
 exact vc (g:=Kd.t) (r:=Kd.rd) _ ks (fun p b=>H p b (aK (DE ks b) hl) st _ hm) hl fun _=>rfl
theorem cC.oe (G:cC w ts d ks) (l:LF t ks) (A:ks.length<=1000) {a:List V} (e:∀m st,aG (Kn (m+8)) [.v (.tup t),.un,.un] nO st=some (.lst a,st)) {M:Nat} (hM:5*d+12+1<=M) (hl:(kW a ks).length<=1000000):∀st,Ev M 122 [.tup t] st (.lst (kW a ks)) st:=by
 intro st n C
 obtain⟨m,rfl,hm⟩:=n9 hM (cj ..) C
 have q:run PP (m+9) 122 [.tup t]=tl (Kn (m+8)) [.v (.tup t),.un,.un] ([.asg 1 nO]++([.dh 2 (.call 116 [.lc 0]) [.asg 1 (.bn .add (.lc 1) (.call 122 [.lc 2]))]]++[.ret (.lc 1)])):=by kernel_rfl
 rw[q,fw,o8 (e m st)]
 show tl (Kn (m+8)) [.v (.tup t),.v (.lst a),.un] _ st=_
 have c:aG (Kn (m+8)) [.v (.tup t),.v (.lst a),.un] (.call 116 [.lc 0]) st=some (.lst (kT ks),st):=l st (m+2)
 rw[fw,o7 c (tf (mK A) st)]
 exact vc (g:=Kd.t) (r:=Kd.wr) _ ks (fun p z=>(G.all p z).oe (aK (DF ks z) hl) st _ hm) hl fun _=>rfl
theorem cC.snd (G:cC w ts d ks) (l:LF t ks) (z:ks.length<=1000) {M:Nat} (hM:5*d+12+1<=M) {ts':List Int} (A:Later w ts ts') (en:∀m sl,tl (Kn (m+8)) [.v (.obj 15),.v (.tup t),sl,.un,.un,.un] i9.tail (w.st ts')=some (.bool true,w.st ts')):Ev M 118 [.obj 15,.tup t] (w.st ts') (.bool true) (w.st ts'):=by
 intro n C
 obtain⟨m,rfl,hm⟩:=n9 hM (cj ..) C
 have q:run PP (m+9) 118 [.obj 15,.tup t]=tl (Kn (m+8)) [.v (.obj 15),.v (.tup t),.un,.un,.un,.un] ([.dh 2 (.call 116 [.lc 1]) [.iff (.nt (.call 118 [.lc 0,.lc 2])) [.ret (.cn (.bool false))] []]]++i9.tail):=by kernel_rfl
 have c:aG (Kn (m+8)) [.v (.obj 15),.v (.tup t),.un,.un,.un,.un] (.call 116 [.lc 1]) (w.st ts')=some (.lst (kT ks),w.st ts'):=l (w.st ts') (m+2)
 rw[q,fw,o7 c (tf (mK z) (w.st ts'))]
 exact BU (g:=Kd.t) _ ks (fun p D=>(G.all p D).snd ts' A _ hm) (en m)
def zM (t:List V):Prop:=∀m st lid,aG (Kn (m+8)) [.v (.tup t),.v (.int lid),.un] (.cm .eq (.ix (.lc 0) (.cn (.int 0))) (.cn (.int 2))) st=some (.bool false,st)/\aG (Kn (m+8)) [.v (.tup t),.v (.int lid),.un] (.an [.cm .eq (.ix (.lc 0) (.cn (.int 0))) (.cn (.int 20)),.cm .eq (.ix (.lc 0) (.cn (.int 4))) (.lc 1)]) st=some (.bool false,st)
theorem E7{N:Nat} (H:∀q∈ks,∀st lid,∃b,Ev N 48 [.tup q.t,.int lid] st (.bool b) st) (l:KF t ks) (a:ks.length<=1000) {M:Nat} (hM:N+1<=M) (d:9<=M) (e:zM t) (st:St) (lid:Int):∃b,Ev M 48 [.tup t,.int lid] st (.bool b) st:=by
 have f:∀q:Kd,∃b,q∈ks->Ev N 48 [.tup q.t,.int lid] st (.bool b) st:=fun q=>(Classical.em (q∈ks)).elim (fun h=>(H q h st lid).imp fun _ k _=>k) fun h=>⟨false,fun k=>absurd k h⟩
 obtain⟨i,j⟩:=Classical.axiomOfChoice f
 refine⟨ks.any i,fun n o=>?_⟩
 obtain⟨m,rfl,hm⟩:=m9 hM d o
 have q:run PP (m+9) 48 [.tup t,.int lid]=tl (Kn (m+8)) [.v (.tup t),.v (.int lid),.un] ([.iff (.cm .eq (.ix (.lc 0) (.cn (.int 0))) (.cn (.int 2))) [.ret (.cm .eq (.ix (.lc 0) (.cn (.int 2))) (.lc 1))] []]++([.iff (.an [.cm .eq (.ix (.lc 0) (.cn (.int 0))) (.cn (.int 20)),.cm .eq (.ix (.lc 0) (.cn (.int 4))) (.lc 1)]) [.ret (.cn (.bool true))] []]++([.dh 2 (.call 32 [.lc 0]) [.iff (.call 48 [.lc 2,.lc 1]) [.ret (.cn (.bool true))] []]]++[.ret (.cn (.bool false))]))):=by kernel_rfl
 rw[q,fw,kJ (e m st lid).1]
 show tl (Kn (m+8)) _ _ st=_
 rw[fw,kJ (e m st lid).2]
 show tl (Kn (m+8)) _ _ st=_
 have c:aG (Kn (m+8)) [.v (.tup t),.v (.int lid),.un] (.call 32 [.lc 0]) st=some (.tup (kT ks),st):=l st (m+2)
 rw[fw,o7 c (E5 (mK a) st)]
 exact BV (g:=Kd.t) ks fun p r=>j p r _ hm
theorem cC.ej (G:cC w ts d ks) (l:KF t ks) (z:ks.length<=1000) {M:Nat} (hM:5*d+12+1<=M) (e:zM t):∀st lid,∃b,Ev M 48 [.tup t,.int lid] st (.bool b) st:=E7 (fun q h=>(G.all q h).ej) l z hM (aK (NW) hM) e
theorem cC.fix (G:cC w ts d ks) (l:KF t ks) (A:WF t ks) (z:ks.length<=1000) {M:Nat} (hM:5*d+12+1<=M) {ts':List Int} (C:Later w ts ts'):Ev M 46 [w.lw,.tup t] (w.st ts') (.tup t) (w.st ts'):=by
 intro n D
 obtain⟨m,rfl,hm⟩:=n9 hM (cj ..) D
 have q:run PP (m+9) 46 [w.lw,.tup t]=tl (Kn (m+8)) [.v w.lw,.v (.tup t),.un,.un] ([.asg 2 (.call 32 [.lc 1])]++([.iff (.nt (.lc 2)) [.ret (.lc 1)] []]++[.ret (.call 33 [.lc 1,.comp (.call 45 [.lc 0,.lc 3]) 3 (.lc 2)])])):=by kernel_rfl
 have c:aG (Kn (m+8)) [.v w.lw,.v (.tup t),.un,.un] (.call 32 [.lc 1]) (w.st ts')=some (.tup (kT ks),w.st ts'):=l (w.st ts') (m+2)
 rw[q,fw,o8 c]
 show tl (Kn (m+8)) [.v w.lw,.v (.tup t),.v (.tup (kT ks)),.un] _ (w.st ts')=_
 rw[fw,kJ (DC rfl (mK z))]
 cases ks with
 |nil=>rfl
 |cons p ks=>
  have c:aG (Kn (m+8)) [.v w.lw,.v (.tup t),.v (.tup (kT (p::ks))),.un] (.comp (.call 45 [.lc 0,.lc 3]) 3 (.lc 2)) (w.st ts')=some (.lst (kT (p::ks)),w.st ts'):=
   Ct rfl (mK z) (BW (g:=Kd.t) (p::ks) fun p E=>(G.all p E).fix ts' C _ hm)
  have e:aG (Kn (m+8)) [.v w.lw,.v (.tup t),.v (.tup (kT (p::ks))),.un] (.call 33 [.lc 1,.comp (.call 45 [.lc 0,.lc 3]) 3 (.lc 2)]) (w.st ts')=some (.tup t,w.st ts'):=by
   show((((aG (Kn (m+8)) [.v w.lw,.v (.tup t),.v (.tup (kT (p::ks))),.un] (.comp (.call 45 [.lc 0,.lc 3]) 3 (.lc 2)) (w.st ts')).bind _:Option _).bind _:Option _).bind _:Option _)=_
   rw[c]
   exact A (w.st ts') m
  exact DB e
theorem p9{c:Int} (d:c≠5) {T:List V} (m:Nat) (st:St):aG (Kn m) [.v (.tup (.int c::T)),.un,.un] p8 st=some (.lst [],st):=
 (xV (yX ((mV (a:=c) (b:=5) rfl rfl).trans (by rw[beq_eq_false_iff_ne.mpr d])))).trans rfl
theorem qd{c:Int} (d:c≠22) {T:List V} (m:Nat) (st:St):aG (Kn m) [.v (.tup (.int c::T)),.un,.un] nO st=some (.lst [],st):=
 (xV (yX ((mV (a:=c) (b:=22) rfl rfl).trans (by rw[beq_eq_false_iff_ne.mpr d])))).trans rfl
theorem o9{c:Int} (e:c≠2) (d:c≠20) {T:List V}:zM (.int c::T):=fun m st lid=>
 ⟨(mV (a:=c) (b:=2) rfl rfl).trans (by rw[beq_eq_false_iff_ne.mpr e]),yX ((mV (a:=c) (b:=20) rfl rfl).trans (by rw[beq_eq_false_iff_ne.mpr d]))⟩
theorem iX{m a:Nat} (ev:List Nat) (h:a<=m) {env:Env} {l:List Sm} {st s:St} {v:V} (r:Rn (m+1) ((jq (oR PP 118 (mj ev 1 (eO PP ev a 1))) env l>>=yV) st) v s):tl (Kn m) env l st=some (v,s):=
 Rf.bind (jC (uN fun g b=>Rf.bif (uM (n:=m+1) (c:=0) g b) (rD PP ev (m+1) a 1 g b (by rw[nh];exact jI h))) env l) BP st (v,s) r
theorem mq{d d':Nat} (h:d+1<=d'):5*d+12+1<=5*d'+12:=aK (ip (dD (by decide:1<=5) (5*d)) 12) (lb h)
theorem sf{k:Int}{d' e:Nat} {c f:List V} (G:cC w ts d ks) (g:ks.length<=1000) (a:d+1<=d') (hd:Hd w ts k t (kR c ks) (kW f ks)) (pl:V.bG t=true) (dp:V.dy t+1<=d')
  (ir:bT c) (iw:bT f) (l:c.length+f.length<=e) (i:LF t ks) (n:∀m st,aG (Kn (m+8)) [.v (.tup t),.un,.un] p8 st=some (.lst c,st)) (o:∀m st,aG (Kn (m+8)) [.v (.tup t),.un,.un] nO st=some (.lst f,st))
  (fix:∀ts',Later w ts ts'->Ev (5*d'+12) 45 [w.lw,.tup t] (w.st ts') (.tup t) (w.st ts')) (dJ:∀ts',Later w ts ts'->Ev (5*d'+14) 67 [w.lw,.tup t] (w.st ts') (.tup t) (w.st ts')) (ej:∀st lid,∃b,Ev (5*d'+12) 48 [.tup t,.int lid] st (.bool b) st)
  (en:∀ts',Later w ts ts'->∀m sl,tl (Kn (m+8)) [.v (.obj 15),.v (.tup t),sl,.un,.un,.un] i9.tail (w.st ts')=some (.bool true,w.st ts')):Good w ts t k (kR c ks) (kW f ks) d' (sm ks+e):=
 ⟨⟨pl,dp,G.sz l,G.ir ir,G.iw iw,fun _ j=>G.snd i g (mq a) j (en _ j),fun hl=>yY (fun q h=>(G.all q h).jr) i g n (mq a) (aK (by decide) (cj 12 _)) hl,fun hl=>G.oe i g o (mq a) hl,fix,dJ,ej⟩,hd⟩
noncomputable def lg (c:Int):Bool:=th.contains c&&nN.contains c&& !(c==2||c==20||c==5||c==22)
theorem Mk{c:Int} (h:lg c=true):c∈th/\c∈nN/\c≠2/\c≠20/\c≠5/\c≠22:=by
 have a:=bK.mp h
 have b:=bK.mp a.1
 refine⟨lR.mp b.1,lR.mp b.2,?_,?_,?_,?_⟩<;>(rintro rfl;exact aL a.2)
theorem xX{c k:Int} {T:List V} {d':Nat} (h:lg c=true) (G:cC w ts d ks) (b:ks.length<=1000) (a:d+1<=d') (hd:Hd w ts k (.int c::T) (kR [] ks) (kW [] ks)) (pl:V.bG (.int c::T)=true) (dp:V.dy (.int c::T)+1<=d')
  (hK:KF (.int c::T) ks) (i:LF (.int c::T) ks) (j:WF (.int c::T) ks)
  (en:∀ts',Later w ts ts'->∀m sl,tl (Kn (m+8)) [.v (.obj 15),.v (.tup (.int c::T)),sl,.un,.un,.un] i9.tail (w.st ts')=some (.bool true,w.st ts')):Good w ts (.int c::T) k (kR [] ks) (kW [] ks) d' (sm ks):=
 have o:=Mk h
 have g:=fun ts' f=>(xW o.1 (G.fix hK j b (aO _) (ts':=ts') f)).up (have:=lb (c:=12) a;aK (NX) this)
 sf (e:=0) G b a hd pl dp bT.nil bT.nil (aO 0) i (fun m st=>p9 o.2.2.2.2.1 _ st) (fun m st=>qd o.2.2.2.2.2 _ st) g (fun ts' f=>p7 o.2.1 (g ts' f)) (G.ej hK b (mq a) (o9 o.2.2.1 o.2.2.2.1)) en
end
theorem Hd.ot{w:World}{ts:List Int} {c k:Int} {r rd wr:List V} (h:codes.contains c=true):Hd w ts k (.int c:: .int k::r) rd wr:= .mn c r (lR.mp h)
theorem g9{a m:Nat} (h:a<=9:=by decide):a<=m+8+1:=aK h (cj 9 m)
theorem mp{α β:Type} {f g:α->β}:∀{l:List α} {x:α},l.map f=l.map g->x∈l->f x=g x
 |a::l,x,h,b=>by
  have h:=gm h
  rcases bP.mp b with e|b
  ·subst e;exact h.1
  ·exact mp h.2 b
theorem Gn{α β a:Type} {f g:α->β->a} {l:List (α×β)} {x:α} {y:β} (h:l.map (fun p=>f p.1 p.2)=l.map fun p=>g p.1 p.2) (b:(x,y)∈l):f x y=g x y:=mp (f:=fun p=>f p.1 p.2) (g:=fun p=>g p.1 p.2) h b
theorem mp3{α β a b:Type} {f g:α->β->a->b} {l:List (α×β×a)} {x:α} {y:β} {z:a} (h:l.map (fun p=>f p.1 p.2.1 p.2.2)=l.map fun p=>g p.1 p.2.1 p.2.2) (c:(x,y,z)∈l):f x y z=g x y z:=mp (f:=fun p=>f p.1 p.2.1 p.2.2) (g:=fun p=>g p.1 p.2.1 p.2.2) h c
theorem mp4{α β a b c:Type} {f g:α->β->a->b->c} {l:List (α×β×a×b)} {x:α} {y:β} {z:a} {u:b} (h:l.map (fun p=>f p.1 p.2.1 p.2.2.1 p.2.2.2)=l.map fun p=>g p.1 p.2.1 p.2.2.1 p.2.2.2) (d:(x,y,z,u)∈l):f x y z u=g x y z u:=mp (f:=fun p=>f p.1 p.2.1 p.2.2.1 p.2.2.2) (g:=fun p=>g p.1 p.2.1 p.2.2.1 p.2.2.2) h d
theorem lz{a b d:Nat} (h:Nat.ble a b=true):a<=d+b:=aK (aX h) (cj ..)
theorem pC{x:V}{r:List V} (h:V.plain x=true) (k:V.bG r=true):V.bG (x::r)=true:=bK.mpr ⟨h,k⟩
inductive Pn where
 |h (i:Nat)|v (x:V)|l (a:List Nat)
noncomputable def kt (ks:List (List V)) (i:Nat):List V:=ks.getD i []
noncomputable def Pn.V (ks:List (List V)):Pn->V
 | .h i=> .tup (kt ks i)
 | .v x=>x
 | .l a=> .tup (a.map fun i=> .tup (kt ks i))
noncomputable def Pn.pl:Pn->Bool
 | .v x=>x.plain
 |_=>true
noncomputable def Pn.dp (e:Nat):Pn->Bool
 | .h _=>Nat.ble 1 e
 | .v x=>Nat.ble x.deep e
 | .l _=>Nat.ble 2 e
noncomputable def nd (c k:Int) (ps:List Pn) (ks:List (List V)):List V:= .int c:: .int k::ps.map (Pn.V ks)
theorem Cu{P:List V->Prop} {ks:List (List V)} (h:∀t∈ks,P t) (a:P []) (i:Nat):P (kt ks i):=by
 unfold kt;rw[List.getD_eq_getElem?_getD]
 cases e:ks[i]? with
 |none=>exact a
 |some t=>exact h t (iY e)
theorem Ml{ks:List (List V)} (h:∀i,V.bG (kt ks i)=true) (a:List Nat):V.bG (a.map fun i=> .tup (kt ks i))=true:=by
 induction a with
 |nil=>rfl
 |cons i b c=>exact pT (h i) c
theorem Mm{ks:List (List V)} {d:Nat} (h:∀i,V.dy (kt ks i)+1<=d) (a:List Nat):V.dy (a.map fun i=> .tup (kt ks i))<=d:=by
 induction a with
 |nil=>exact dt _
 |cons i b c=>exact mx (h i) c
theorem DG{ks:List (List V)} (h:∀i,V.bG (kt ks i)=true) {ps:List Pn} (q:ps.all Pn.pl=true):V.bG (ps.map (Pn.V ks))=true:=by
 induction ps with
 |nil=>rfl
 |cons p r ih=>
  have q:=bK.mp q
  refine pC ?_ (ih q.2)
  cases p with
  |h i=>exact h i
  |v x=>exact q.1
  |l a=>exact Ml h a
theorem DH{ks:List (List V)} {d e:Nat} (h:∀i,V.dy (kt ks i)+1<=d) {ps:List Pn} (q:ps.all (Pn.dp e)=true):V.dy (ps.map (Pn.V ks))+1<=d+e:=by
 have h1:1<=d:=l1 (h 0)
 induction ps with
 |nil=>exact aK h1 (bE _ _)
 |cons p r ih=>
  have q:=bK.mp q
  have ih:=ih q.2
  refine aK (bt (Nat.add_max_add_right _ _ 1).symm) (mx ?_ ih)
  cases p with
  |h i=>exact fO (h i) (aX q.1)
  |v x=>exact aK (bt (nh _ _)) (fO h1 (aX q.1))
  |l a=>exact(show V.dy (a.map fun i=>V.tup (kt ks i))+2<=d+e from fO (Mm h a) (aX q.1))
theorem cC.kp{w:World}{ts:List Int} {d:Nat} {ks:List Kd} (G:cC w ts d ks):∀i,V.bG (kt (ks.map (·.t)) i)=true:=
 Cu (P:=fun t=>V.bG t=true) (fun t h=>(km.mp h).elim fun q z=>z.2▸(G.all q z.1).pl) rfl
theorem cC.kd{w:World}{ts:List Int} {d:Nat} {ks:List Kd} (G:cC w ts d ks) (h:1<=d):∀i,V.dy (kt (ks.map (·.t)) i)+1<=d:=
 Cu (P:=fun t=>V.dy t+1<=d) (fun t h=>(km.mp h).elim fun q z=>z.2▸(G.all q z.1).dp) h
noncomputable def l4 (t:List V) (kt:List V) (st:St) (n:Nat) (w:World) (ts:List Int) (sl:Slot):(Option (V×St)×Option (V×St))×Option (V×St)×Option (V×St):=
 ((run PP (n+6) 32 [.tup t] st,run PP (n+6) 116 [.tup t] st),run PP (n+8) 33 [.tup t,.lst kt] st,tl (Kn (n+8)) [.v (.obj 15),.v (.tup t),sl,.un,.un,.un] i9.tail (w.st ts))
noncomputable def l5 (t:List V) (kt:List V) (st:St) (_:Nat) (w:World) (ts:List Int) (_:Slot):(Option (V×St)×Option (V×St))×Option (V×St)×Option (V×St):=
 ((some (.tup kt,st),some (.lst kt,st)),some (.tup t,st),some (.bool true,w.st ts))
theorem xY{w:World}{ts:List Int} {d d1 e:Nat} {ks:List Kd} {c k:Int} {ps:List Pn} (H:Hd w ts k (nd c k ps (ks.map (·.t))) (kR [] ks) (kW [] ks)) (hz:(lg c&&ps.all (Pn.dp e))=true) (a:ps.all Pn.pl=true) (G:cC w ts d ks) (b:ks.length<=1000) (hd:d+1<=d1+e)
  (kd:∀i,V.dy (kt (ks.map (·.t)) i)+1<=d1) (g:l4 (nd c k ps (ks.map (·.t))) (kT ks)=l5 (nd c k ps (ks.map (·.t))) (kT ks)):
  Good w ts (nd c k ps (ks.map (·.t))) k (kR [] ks) (kW [] ks) (d1+e) (sm ks):=
 have z:=bK.mp hz
 have f:=fun st n w ts sl=>congrFun (congrFun (congrFun (congrFun (congrFun g st) n) w) ts) sl
 xX (T:= .int k::_) z.1 G b hd H (pC rfl (pC rfl (DG G.kp a))) (aK (bt (congrArg (· +1) ((Nat.zero_max _).trans (Nat.zero_max _)))) (DH kd z.2))
  (fun st m=>congrArg (·.1.1) (f st m w ts .un)) (fun st m=>congrArg (·.1.2) (f st m w ts .un)) (fun st m=>congrArg (·.2.1) (f st m w ts .un)) fun ts' _ m sl=>congrArg (·.2.2) (f (w.st ts') m w ts' sl)
theorem jt{w:World}{ts:List Int} {t rd wr:List V} {d s:Nat} (h:GK w ts t rd wr d s):1<=d:=l1 h.dp
section
variable {w:World} {ts:List Int} {a0 a1 a2 a3 a4 r0 r1 r2 r3 r4 x0 x1 x2 x3 x4:List V} {d s0 s1 s2 s3 s4:Nat} {k m m1 m2 m3:Int}
theorem qe{a:Type}{l:List a} {x:a} {c:Int} {k:a->Int} {ps:a->List Pn} {e:Nat} (b:x∈l)
  (d:(l.map fun x=>l4 (nd c (k x) (ps x) []) [])=l.map fun x=>l5 (nd c (k x) (ps x) []) [])
  (hz:(lg c&&(ps x).all (Pn.dp e))=true) (h:(ps x).all Pn.pl=true) (H:Hd w ts (k x) (nd c (k x) (ps x) []) [] []):Good w ts (nd c (k x) (ps x) []) (k x) [] [] (1+e) 0:=
 xY (ks:=[]) H hz h .nil (dt _) (Nat.succ_le_of_lt (pD Nat.zero_lt_one (bE 1 e))) (cC.kd (w:=w) (ts:=ts) .nil (aO 1)) (mp (f:=fun x=>l4 (nd c (k x) (ps x) []) []) (g:=fun x=>l5 (nd c (k x) (ps x) []) []) d b)
theorem cC.c{t rd wr:List V} {s:Nat} {ks:List Kd} (h:Good w ts t k rd wr d s) (G:cC w ts d ks):cC w ts d (⟨t,rd,wr,s⟩::ks):= .cons h.toGK G
theorem tU{d e:Nat}:d+1<=d+(e+1):=dD (cj 1 e) d
theorem qf{b:Type}{l:List b} {x:b} {c:Int} {k m:b->Int} {ps:b->List Pn} {e:Nat} (g:x∈l)
  (h:(l.map fun x c0 a=>l4 (nd c (k x) (ps x) [.int c0:: .int (m x)::a]) [.tup (.int c0:: .int (m x)::a)])=l.map fun x c0 a=>l5 (nd c (k x) (ps x) [.int c0:: .int (m x)::a]) [.tup (.int c0:: .int (m x)::a)])
  (hz:(lg c&&(ps x).all (Pn.dp (e+1)))=true) (i:codes.contains c=true) (j:(ps x).all Pn.pl=true) (f:Good w ts a0 (m x) r0 x0 d s0):Good w ts (nd c (k x) (ps x) [a0]) (k x) r0 x0 (d+(e+1)) s0:=by
 obtain⟨c0,a,rfl⟩:=f.bJ
 have G:=cC.c f .nil
 exact xY (.ot i) hz j G (aX rfl) tU (G.kd (jt f.toGK)) (congrFun (congrFun (mp h g) c0) a)
theorem yZ{f:Type}{l:List f} {x:f} {c:Int} {k m m1:f->Int} {ps:f->List Pn} {e:Nat} (i:x∈l)
  (j:(l.map fun x c0 a c1 b=>l4 (nd c (k x) (ps x) [.int c0:: .int (m x)::a,.int c1:: .int (m1 x)::b]) [.tup (.int c0:: .int (m x)::a),.tup (.int c1:: .int (m1 x)::b)])=l.map fun x c0 a c1 b=>l5 (nd c (k x) (ps x) [.int c0:: .int (m x)::a,.int c1:: .int (m1 x)::b]) [.tup (.int c0:: .int (m x)::a),.tup (.int c1:: .int (m1 x)::b)])
  (hz:(lg c&&(ps x).all (Pn.dp (e+1)))=true) (n:codes.contains c=true) (o:(ps x).all Pn.pl=true) (g:Good w ts a0 (m x) r0 x0 d s0) (h:Good w ts a1 (m1 x) r1 x1 d s1):Good w ts (nd c (k x) (ps x) [a0,a1]) (k x) (r0++r1) (x0++x1) (d+(e+1)) (s0+s1):=by
 obtain⟨c0,a,rfl⟩:=g.bJ
 obtain⟨c1,b,rfl⟩:=h.bJ
 have G:=cC.c g (.c h .nil)
 exact xY (.ot n) hz o G (aX rfl) tU (G.kd (jt g.toGK)) (congrFun (congrFun (congrFun (congrFun (mp j i) c0) a) c1) b)
theorem zN{c k:Int} (ps:List Pn) (e:Nat) (b:(([()]:List Unit).map fun _ c0 a=>l4 (nd c k ps [.int c0:: .int m::a]) [.tup (.int c0:: .int m::a)])=[()].map fun _ c0 a=>l5 (nd c k ps [.int c0:: .int m::a]) [.tup (.int c0:: .int m::a)])
  (hz:(lg c&&ps.all (Pn.dp (e+1)))=true) (f:codes.contains c=true) (g:ps.all Pn.pl=true) (h:Good w ts a0 m r0 x0 d s0):Good w ts (nd c k ps [a0]) k r0 x0 (d+(e+1)) s0:=
 qf (x:=()) (k:=fun _=>k) (m:=fun _=>m) (ps:=fun _=>ps) (.head _) b hz f g h
theorem mr{c k:Int} (ps:List Pn) (e:Nat) (f:(([()]:List Unit).map fun _ c0 a c1 b=>l4 (nd c k ps [.int c0:: .int m::a,.int c1:: .int m1::b]) [.tup (.int c0:: .int m::a),.tup (.int c1:: .int m1::b)])=[()].map fun _ c0 a c1 b=>l5 (nd c k ps [.int c0:: .int m::a,.int c1:: .int m1::b]) [.tup (.int c0:: .int m::a),.tup (.int c1:: .int m1::b)])
  (hz:(lg c&&ps.all (Pn.dp (e+1)))=true) (g:codes.contains c=true) (h:ps.all Pn.pl=true) (i:Good w ts a0 m r0 x0 d s0) (j:Good w ts a1 m1 r1 x1 d s1):Good w ts (nd c k ps [a0,a1]) k (r0++r1) (x0++x1) (d+(e+1)) (s0+s1):=
 yZ (x:=()) (k:=fun _=>k) (m:=fun _=>m) (m1:=fun _=>m1) (ps:=fun _=>ps) (.head _) f hz g h i j
noncomputable def jh:List (Nat×Int×Int×Int):=[(67,7,7,7),(67,9,9,7),(66,1,7,7),(66,1,9,9),(66,1,1,1),(66,1,12,12),(66,1,13,13),(66,1,19,19),(66,1,20,20),(66,1,27,27),(66,1,28,28),(66,1,29,29),(66,1,30,30),(66,1,31,31),(69,1,7,7),(69,1,9,9),(69,1,1,1),(69,1,12,12),(69,1,13,13),(69,1,19,19),(69,1,20,20),(69,1,27,27),(69,1,28,28),(69,1,29,29),(69,1,30,30),(69,1,31,31),(70,1,7,7),(70,1,9,9),(73,1,7,7),(73,1,9,9),(91,7,7,7),(91,9,9,9),(95,7,7,7),(95,9,9,9),(92,7,7,7),(92,9,9,9),(75,7,7,7),(75,9,9,9),(90,7,7,7),(90,9,9,9),(76,7,7,7),(76,9,9,9),(75,1,1,1),(90,1,1,1),(76,1,1,1)]
theorem J2:jh.all (fun p=>Nat.blt p.1 104)=true:=by decide+kernel
theorem pb{op:Nat} (b:Good w ts a0 m r0 x0 d s0) (c:Good w ts a1 m1 r1 x1 d s1) (a:(op,k,m,m1)∈jh):Good w ts [.int 14,.int k,.str op,.tup a0,.tup a1,.int 0] k (r0++r1) (x0++x1) (d+1) (s0+s1):=
 yZ (l:=jh) (k:=fun p=>p.2.1) (m:=fun p=>p.2.2.1) (m1:=fun p=>p.2.2.2) (ps:=fun p=>[.v (.str p.1),.h 0,.h 1,.v (.int 0)]) (e:=0) a (by kernel_rfl) rfl rfl (bK.mpr ⟨decide_eq_true (aX (cG.mp J2 _ a)),rfl⟩) b c
noncomputable def cY:List (Int):=[12,13,19,20,27,28,29,30,31]
theorem Bt (w:World) (ts:List Int) {x0} (h:(x0)∈cY):Ev 8 115 [.obj 15,.int x0] (w.st ts) (.bool true) (w.st ts):= .k fun n=>mp (f:=fun x0=>run PP (n+8) 115 [.obj 15,.int x0] (w.st ts)) (g:=fun _=>some (.bool true,w.st ts)) (by kernel_rfl) h
noncomputable def eb:List (Int):=[1,7,9,16,17,18,21,22,23,24,25,26]
theorem ZU (w:World) (ts:List Int) {x0} (h:(x0)∈eb):Ev 8 115 [.obj 15,.int x0] (w.st ts) (.bool false) (w.st ts):= .k fun n=>mp (f:=fun x0=>run PP (n+8) 115 [.obj 15,.int x0] (w.st ts)) (g:=fun _=>some (.bool false,w.st ts)) (by kernel_rfl) h
noncomputable def VW:List (Int):=[12,13,19,20,27,28,29,30,31]
theorem uP (w:World) (ts:List Int) {x0} (h:(x0)∈VW):Ev 8 52 [.obj 2,.int x0] (w.st ts) (.bool false) (w.st ts):= .k fun n=>mp (f:=fun x0=>run PP (n+8) 52 [.obj 2,.int x0] (w.st ts)) (g:=fun _=>some (.bool false,w.st ts)) (by kernel_rfl) h
noncomputable def VX:List (Int):=[1,7,9,16,17,18,21,22,23,24,25,26]
theorem IL (w:World) (ts:List Int) {x0} (h:(x0)∈VX):Ev 8 52 [.obj 2,.int x0] (w.st ts) (.bool true) (w.st ts):= .k fun n=>mp (f:=fun x0=>run PP (n+8) 52 [.obj 2,.int x0] (w.st ts)) (g:=fun _=>some (.bool true,w.st ts)) (by kernel_rfl) h
noncomputable def iJ:List (Int):=[7,19,13,21,18,16,9,1,17]
theorem rG (w:World) (ts:List Int) {x0} (h:(x0)∈iJ):Ev 8 90 [.obj 2,.int x0] (w.st ts) (.int x0) (w.st ts):= .k fun n=>mp (f:=fun x0=>run PP (n+8) 90 [.obj 2,.int x0] (w.st ts)) (g:=fun x0=>some (.int x0,w.st ts)) (by kernel_rfl) h
noncomputable def y6:List (Int):=[0,1,7,9,12,13,14,16,17,18,19,20,21,27,28,29,30,31]
theorem ru (w:World) (ts:List Int) {x0} (h:(x0)∈y6):Ev 8 21 [.obj 2,.int x0] (w.st ts) (.bool false) (w.st ts):= .k fun n=>mp (f:=fun x0=>run PP (n+8) 21 [.obj 2,.int x0] (w.st ts)) (g:=fun _=>some (.bool false,w.st ts)) (by kernel_rfl) h
noncomputable def qh:List (Int):=[22,23,24,25,26]
theorem oK (w:World) (ts:List Int) {x0} (h:(x0)∈qh):Ev 8 21 [.obj 2,.int x0] (w.st ts) (.bool true) (w.st ts):= .k fun n=>mp (f:=fun x0=>run PP (n+8) 21 [.obj 2,.int x0] (w.st ts)) (g:=fun _=>some (.bool true,w.st ts)) (by kernel_rfl) h
def dj (w:World) (a k:Int):Prop:=look (.int a) w.fd=some (some (.int k))
theorem Cv{w:World}{a k:Int} (h:dj w a k) (ts:List Int):item (.obj 14) (.int a) (w.st ts)=some (.int k,w.st ts):=by
 have e:item (.obj 14) (.int a) (w.st ts)=lift ((look (.int a) w.fd).join) (w.st ts):=by kernel_rfl
 rw[e,h];rfl
theorem Z2{a b:Int} (h:b<a) (st:St):ey (cmp .gt (.int a) (.int b)) st=some (.bool true,st):=by rw[E6,decide_eq_true h]
theorem Z3{a b:Int} (h:¬b<a) (st:St):ey (cmp .gt (.int a) (.int b)) st=some (.bool false,st):=by rw[E6,decide_eq_false h]
theorem bT.two (a b:Int):bT [.int a,.int b]:=(bT.one a).app (bT.one b)
theorem bT.three (a b c:Int):bT [.int a,.int b,.int c]:=(bT.one a).app (bT.two b c)
theorem oS (a:k∈cY):Good w ts [.int 1,.int k,.none] k [] [] 1 0:=
 qe (k:=fun p=>p) (ps:=fun _=>[.v .none]) (e:=0) a (by kernel_rfl) rfl rfl (.cst _ (.inl ⟨rfl,a⟩))
theorem g_num{v:Int} (a:k∈([1,7,9,16,17]:List Int)):Good w ts [.int 1,.int k,.int v] k [] [] 1 0:=
 qe (k:=fun p=>p) (ps:=fun _=>[.v (.int v)]) (e:=0) a (by kernel_rfl) rfl rfl (.cst _ (.inr (.inl ⟨_,rfl,a⟩)))
theorem xZ{v:Nat} (a:v<104):Good w ts [.int 1,.int 13,.str v] 13 [] [] 1 0:=
 qe (l:=[()]) (k:=fun _=>13) (ps:=fun _=>[.v (.str v)]) (e:=0) (.head _) (by kernel_rfl) rfl (bK.mpr ⟨decide_eq_true a,rfl⟩) (.cst _ (.inr (.inr ⟨_,rfl,a,rfl⟩)))
theorem rR (a:k∈eb):Good w ts [.int 12,.int k] k [] [] 1 0:=
 qe (k:=fun p=>p) (ps:=fun _=>[]) (e:=0) a (by kernel_rfl) rfl rfl .mm
theorem Sk{o:Int}:Good w ts [.int 36,.int 20,.none,.tup [.int o,.int 25,.tup []],.int 0] 20 [] [] 3 0:=
 qe (l:=[()]) (k:=fun _=>20) (ps:=fun _=>[.v .none,.v (.tup [.int o,.int 25,.tup []]),.v (.int 0)]) (e:=2) (.head _) (by kernel_rfl) rfl rfl (.ot rfl)
theorem Sl{o:Int} (a:Good w ts a0 m r0 x0 d s0) (hm:m∈cY):Good w ts [.int 36,.int 20,.tup a0,.tup [.int o,.int 26,.tup []],.int 0] 20 r0 x0 (d+2) s0:=
 qf (l:=cY) (k:=fun _=>20) (m:=fun p=>p) (ps:=fun _=>[.h 0,.v (.tup [.int o,.int 26,.tup []]),.v (.int 0)]) (e:=1) hm (by kernel_rfl) rfl rfl rfl a
theorem v7 (a:Good w ts a0 m r0 x0 d s0) (b:Good w ts a1 7 r1 x1 d s1) (c:(k,m)∈([(7,27),(9,28),(22,29),(13,30),(18,31)]:List (Int×Int))):Good w ts [.int 6,.int k,.tup a0,.tup a1] k (r0++r1) (x0++x1) (d+1) (s0+s1):=
 yZ (x:=(k,m)) (k:=fun p=>p.1) (m:=fun p=>p.2) (m1:=fun _=>7) (ps:=fun _=>[.h 0,.h 1]) (e:=0) c (by kernel_rfl) rfl rfl rfl a b
theorem x9{a:Int} (b:Good w ts a0 m r0 x0 d s0) (c:(k,m,a)∈([(7,22,67),(7,22,68),(9,23,67),(9,23,68),(1,24,67),(1,24,68),(16,25,67),(16,25,68),(17,26,67),(17,26,68),(1,22,66),(1,23,66),(1,24,66),(1,25,66),(1,26,66)]:List (Int×Int×Int))):Good w ts [.int 8,.int k,.tup a0,.tup [.int m,.int a,.tup []],.tup [],.int 0] k r0 x0 (d+2) s0:=
 qf (x:=(k,m,a)) (k:=fun p=>p.1) (m:=fun p=>p.2.1) (ps:=fun p=>[.h 0,.v (.tup [.int p.2.1,.int p.2.2,.tup []]),.v (.tup []),.v (.int 0)]) (e:=1) c (by kernel_rfl) rfl rfl rfl b
theorem DI (a:Good w ts a0 19 r0 x0 d s0):Good w ts [.int 8,.int 7,.tup a0,.tup [.int 19,.int 21,.tup []],.tup [],.int 1] 7 r0 x0 (d+2) s0:=
 zN [.h 0,.v (.tup [.int 19,.int 21,.tup []]),.v (.tup []),.v (.int 1)] 1 (by kernel_rfl) rfl rfl rfl a
theorem Sn (a:Good w ts a0 19 r0 x0 d s0) (b:Good w ts a1 7 r1 x1 d s1):Good w ts [.int 8,.int 0,.tup a0,.tup [.int 19,.int 22,.tup []],.tup [.tup a1],.int 1] 0 (r0++r1) (x0++x1) (d+2) (s0+s1):=
 mr [.h 0,.v (.tup [.int 19,.int 22,.tup []]),.l [1],.v (.int 1)] 1 (by kernel_rfl) rfl rfl rfl a b
theorem Cw (a:Good w ts a0 13 r0 x0 d s0):Good w ts [.int 8,.int 7,.none,.tup [.int 19,.int 23,.tup []],.tup [.tup a0],.int 0] 7 r0 x0 (d+2) s0:=
 zN [.v .none,.v (.tup [.int 19,.int 23,.tup []]),.l [0],.v (.int 0)] 1 (by kernel_rfl) rfl rfl rfl a
theorem Mn (a:Good w ts a0 13 r0 x0 d s0) (b:Good w ts a1 7 r1 x1 d s1):Good w ts [.int 8,.int 0,.none,.tup [.int 19,.int 24,.tup []],.tup [.tup a0,.tup a1],.int 0] 0 (r0++r1) (x0++x1) (d+2) (s0+s1):=
 mr [.v .none,.v (.tup [.int 19,.int 24,.tup []]),.l [0,1],.v (.int 0)] 1 (by kernel_rfl) rfl rfl rfl a b
theorem Mo (a:Good w ts a0 12 r0 x0 d s0) (b:Good w ts a1 23 r1 x1 d s1):Good w ts [.int 8,.int 7,.none,.tup [.int 19,.int 25,.tup []],.tup [.tup a0,.tup a1],.int 0] 7 (r0++r1) (x0++x1) (d+2) (s0+s1):=
 mr [.v .none,.v (.tup [.int 19,.int 25,.tup []]),.l [0,1],.v (.int 0)] 1 (by kernel_rfl) rfl rfl rfl a b
theorem So (a:Good w ts a0 13 r0 x0 d s0) (b:Good w ts a1 13 r1 x1 d s1):Good w ts [.int 8,.int 13,.none,.tup [.int 13,.int 10,.tup []],.tup [.tup a0,.tup a1],.int 0] 13 (r0++r1) (x0++x1) (d+2) (s0+s1):=
 mr [.v .none,.v (.tup [.int 13,.int 10,.tup []]),.l [0,1],.v (.int 0)] 1 (by kernel_rfl) rfl rfl rfl a b
theorem Mp (a:Good w ts a0 12 r0 x0 d s0) (b:Good w ts a1 12 r1 x1 d s1):Good w ts [.int 8,.int 13,.none,.tup [.int 13,.int 20,.tup []],.tup [.tup a0,.tup a1],.int 0] 13 (r0++r1) (x0++x1) (d+2) (s0+s1):=
 mr [.v .none,.v (.tup [.int 13,.int 20,.tup []]),.l [0,1],.v (.int 0)] 1 (by kernel_rfl) rfl rfl rfl a b
theorem Cy (a:Good w ts a0 m r0 x0 d s0) (b:(k,m)∈([(22,7),(23,9),(24,1),(25,16),(26,17)]:List (Int×Int))):Good w ts [.int 9,.int k,.tup [.int k,.int 65,.tup []],.tup [.tup a0]] k r0 x0 (d+2) s0:=
 qf (x:=(k,m)) (k:=fun p=>p.1) (m:=fun p=>p.2) (ps:=fun p=>[.v (.tup [.int p.1,.int 65,.tup []]),.l [0]]) (e:=1) b (by kernel_rfl) rfl rfl rfl a
theorem pd (a:Good w ts a0 1 r0 x0 d s0):Good w ts [.int 13,.int 1,.str 74,.tup a0,.int 0] 1 r0 x0 (d+1) s0:=
 zN [.v (.str 74),.h 0,.v (.int 0)] 0 (by kernel_rfl) rfl rfl rfl a
theorem sh (a:Good w ts a0 k r0 x0 d s0) (b:k∈([7,9]:List Int)):Good w ts [.int 13,.int k,.str 89,.tup a0,.int 0] k r0 x0 (d+1) s0:=
 qf (k:=fun p=>p) (m:=fun p=>p) (ps:=fun _=>[.v (.str 89),.h 0,.v (.int 0)]) (e:=0) b (by kernel_rfl) rfl rfl rfl a
theorem qi (a:Good w ts a0 1 r0 x0 d s0) (b:Good w ts a1 1 r1 x1 d s1):Good w ts [.int 15,.int 1,.tup a0,.tup a1] 1 (r0++r1) (x0++x1) (d+1) (s0+s1):=
 mr [.h 0,.h 1] 0 (by kernel_rfl) rfl rfl rfl a b
theorem y7 (a:Good w ts a0 1 r0 x0 d s0) (b:Good w ts a1 1 r1 x1 d s1):Good w ts [.int 16,.int 1,.tup a0,.tup a1] 1 (r0++r1) (x0++x1) (d+1) (s0+s1):=
 mr [.h 0,.h 1] 0 (by kernel_rfl) rfl rfl rfl a b
noncomputable def tG (c:Int):Bool:=nN.contains c&&codes.contains c&& !(c==2||c==20||c==5||c==22)
noncomputable def E8 (t kt:List V) (st:St) (n:Nat):Option (V×St)×Option (V×St):=(run PP (n+6) 32 [.tup t] st,run PP (n+6) 116 [.tup t] st)
noncomputable def E9 (kt:List V) (st:St) (_:Nat):Option (V×St)×Option (V×St):=(some (.tup kt,st),some (.lst kt,st))
abbrev Fb (w:World) (ts:List Int) (t:List V):Prop:=∀ts',Later w ts ts'->∀m sl,tl (Kn (m+8)) [.v (.obj 15),.v (.tup t),sl,.un,.un,.un] i9.tail (w.st ts')=some (.bool true,w.st ts')
abbrev nQ (w:World) (ts:List Int) (t:List V) (d:Nat):Prop:=∀ts',Later w ts ts'->Ev (5*d+12) 45 [w.lw,.tup t] (w.st ts') (.tup t) (w.st ts')
theorem j7{t:List V} (h:∀ts',Later w ts ts'->∀n,5*d+12<=n->Rn n (eO PP [21,32,45,52,67,90] 12 0 45 [w.lw,.tup t] (w.st ts')) (.tup t) (w.st ts')):nQ w ts t d:=fun ts' a=>Ev.of [21,32,45,52,67,90] 12 (h ts' a) (cj ..)
theorem ya{e n:Nat} {ks:List Kd} {c:Int} {ps:List Pn} {a:List V} (G:cC w ts d ks) (i:1<=d) (j:codes.contains c=true) (c5:c≠5) (hz:ps.all (Pn.dp (e+1))=true) (l:ps.all Pn.pl=true) (o:ks.length<=1000)
  (p:E8 (nd c k ps (ks.map (·.t))) (kT ks)=E9 (kT ks)) (iw:bT a) (q:0+a.length<=n) (r:∀m st,aG (Kn (m+8)) [.v (.tup (nd c k ps (ks.map (·.t)))),.un,.un] nO st=some (.lst a,st)) (g:KF (nd c k ps (ks.map (·.t))) ks->nQ w ts (nd c k ps (ks.map (·.t))) (d+(e+1)))
  (dJ:KF (nd c k ps (ks.map (·.t))) ks->nQ w ts (nd c k ps (ks.map (·.t))) (d+(e+1))->∀ts',Later w ts ts'->Ev (5*(d+(e+1))+14) 67 [w.lw,.tup (nd c k ps (ks.map (·.t)))] (w.st ts') (.tup (nd c k ps (ks.map (·.t)))) (w.st ts'))
  (ej:KF (nd c k ps (ks.map (·.t))) ks->∀st lid,∃b,Ev (5*(d+(e+1))+12) 48 [.tup (nd c k ps (ks.map (·.t))),.int lid] st (.bool b) st)
  (en:LF (nd c k ps (ks.map (·.t))) ks->Fb w ts (nd c k ps (ks.map (·.t)))):Good w ts (nd c k ps (ks.map (·.t))) k (kR [] ks) (kW a ks) (d+(e+1)) (sm ks+n):=
 have f:=fun st n=>congrFun (congrFun p st) n
 have hK:=fun st m=>congrArg (·.1) (f st m)
 have h:=fun st m=>congrArg (·.2) (f st m)
 sf G o tU (.ot j) (pC rfl (pC rfl (DG G.kp l))) (aK (bt (congrArg (· +1) ((Nat.zero_max _).trans (Nat.zero_max _)))) (DH (G.kd i) hz)) .nil iw q h (fun m st=>p9 c5 _ st) r (g hK) (dJ hK (g hK)) (ej hK) (en h)
theorem Mq{c:Int} (h:tG c=true):c∈nN/\codes.contains c=true/\c≠2/\c≠20/\c≠5/\c≠22:=by
 have a:=bK.mp h
 have b:=bK.mp a.1
 refine⟨lR.mp b.1,b.2,?_,?_,?_,?_⟩<;>(rintro rfl;exact aL a.2)
theorem mX{e:Nat}{ks:List Kd} {c:Int} {ps:List Pn} (G:cC w ts d ks) (f:1<=d) (g:tG c=true) (hz:ps.all (Pn.dp (e+1))=true) (h:ps.all Pn.pl=true) (b:ks.length<=1000)
  (i:E8 (nd c k ps (ks.map (·.t))) (kT ks)=E9 (kT ks)) (a:nQ w ts (nd c k ps (ks.map (·.t))) (d+(e+1))) (en:LF (nd c k ps (ks.map (·.t))) ks->Fb w ts (nd c k ps (ks.map (·.t)))):Good w ts (nd c k ps (ks.map (·.t))) k (kR [] ks) (kW [] ks) (d+(e+1)) (sm ks):=
 have⟨j,l,o,p,q,r⟩:=Mq g
 ya (n:=0) G f l q hz h b i .nil (aO 0) (fun m st=>qd r _ st) (fun _=>a) (fun _ a ts' s=>p7 j (a ts' s)) (fun hK=>G.ej hK b (mq tU) (o9 o p)) en
theorem jF{x:Int} (c:∀ts',Later w ts ts'->fo (w.st ts') x k):Good w ts [.int 2,.int k,.int x] k [] [] 1 0:=by
 have hK:KF [.int 2,.int k,.int x] []:=fun _ _=>by kernel_rfl
 have f:LF [.int 2,.int k,.int x] []:=fun _ _=>by kernel_rfl
 have g:nQ w ts [.int 2,.int k,.int x] 1:=fun ts' b=>(xW (by decide) ((.nil:cC w ts 0 []).fix hK (fun _ _=>by kernel_rfl) (aX rfl) (aO _) b)).up (aX rfl)
 exact sf (ks:=[]) (d:=0) (e:=0) .nil (aX rfl) (aO 1) (.loc _ c) rfl (aX rfl) .nil .nil (aO 0) f (fun m st=>p9 (by decide) _ st) (fun m st=>qd (by decide) _ st) g (fun ts' b=>p7 (by decide) (g ts' b)) (fun st lid=>⟨x==lid,Ev.of [32,48] 12 fun n l=>Ra (fi 2 st)<|Ra (kK x lid st) Rd⟩) (fun ts' b m sl=>(c ts' b).elim fun a ⟨nm,fl,_,i,j⟩=>iX [115,116,119,120] (cj 8 m) (Rc 1 (f.ev (w.st ts')) (h:=g9)<|Ra i<|Rl j<|Ra (fi k (w.st ts')) Rd))
theorem Fd{c:Int}{l:List V} {e:Nat} (hf:dj w c k) (hl:(if decide (999<c) then [.int c] else [])=l) (j:bT l) (n:l.length+0<=e):Good w ts [.int 5,.int k,.tup [.int 12,.int c]] k l [] 2 (0+e):=by
 have hK:KF [.int 5,.int k,.tup [.int 12,.int c]] []:=fun _ _=>by kernel_rfl
 have g:LF [.int 5,.int k,.tup [.int 12,.int c]] []:=fun _ _=>by kernel_rfl
 have i:nQ w ts [.int 5,.int k,.tup [.int 12,.int c]] 2:=fun ts' f=>(xW (by decide) ((.nil:cC w ts 0 []).fix hK (fun _ _=>by kernel_rfl) (aX rfl) (aO _) f)).up (aX rfl)
 exact sf (ks:=[]) (d:=0) .nil (aX rfl) (aX rfl:0+1<=2) (.ot rfl) rfl (aX rfl) j .nil n g (fun m st=>by have q:aG (Kn (m+8)) [.v (.tup [.int 5,.int k,.tup [.int 12,.int c]]),.un,.un] p8 st=some (.lst (if decide (999<c) then [.int c] else []),st):=(xV (Sj (a:=c) (b:=999))).trans (by cases decide (999<c)<;>rfl);rw[q,hl]) (fun m st=>qd (by decide) _ st) i (fun ts' f=>p7 (by decide) (i ts' f)) ((.nil:cC w ts 0 []).ej hK (aX rfl) (mq (aX rfl:0+1<=2)) (o9 (by decide) (by decide))) (fun ts' f m sl=>iX [115,116,119,120] (cj 8 m) (Rc 1 (g.ev (w.st ts')) (h:=g9)<|Ra (Cv hf ts')<|Ra (fi k (w.st ts')) Rd))
theorem Mr{a:Int} (hf:dj w a k) (b:999<a):Good w ts [.int 5,.int k,.tup [.int 12,.int a]] k [.int a] [] 2 (0+1):=Fd hf (by rw[decide_eq_true b];rfl) (.one a) (aO 1)
theorem v8{a:Int} (hf:dj w a k) (b:¬999<a):Good w ts [.int 5,.int k,.tup [.int 12,.int a]] k [] [] 2 0:=Fd hf (by rw[decide_eq_false b];rfl) .nil (aO 0)
theorem DJ{a:Int} (hm:m=18\/m=19) (b:Good w ts a0 m r0 x0 d s0) (hf:dj w a k):Good w ts [.int 4,.int k,.tup a0,.tup [.int m,.int a]] k r0 x0 (d+1) s0:=by
 obtain⟨c0,e,rfl⟩:=b.bJ
 have f:LF [.int 4,.int k,.tup (.int c0:: .int m::e),.tup [.int m,.int a]] [⟨.int c0:: .int m::e,r0,x0,s0⟩]:=fun _ _=>by kernel_rfl
 have z:=fun st=>q9 (bT.one m) st
 rcases hm with rfl|rfl<;>exact xX (T:= .int k::_) rfl (.c b .nil) (aX rfl) (aO _) (.ot rfl) (pC rfl (pC rfl (pT b.pl rfl))) (jI (mx (dt _) (mx (dt _) (mx b.dp (mx (ip (l1 b.dp) 0) (dt _)))))) (fun _ _=>by kernel_rfl) f (fun _ _=>by kernel_rfl) (fun ts' g i sl=>iX [115,116,119,120] (cj 8 i) (Rc 1 (f.ev (w.st ts')) (h:=g9)<|Ra (z (w.st ts'))<|Ra (Cv hf ts')<|Ra (fi k (w.st ts')) Rd))
theorem v9{a:Int} (b:Good w ts a0 19 r0 x0 d s0) (hf:dj w a k):Good w ts [.int 4,.int k,.tup a0,.tup [.int 19,.int a]] k r0 x0 (d+1) s0:=DJ (by decide) b hf
theorem wc{a:Int} (b:Good w ts a0 18 r0 x0 d s0) (hf:dj w a k):Good w ts [.int 4,.int k,.tup a0,.tup [.int 18,.int a]] k r0 x0 (d+1) s0:=DJ (by decide) b hf
theorem mL (a:Good w ts a0 1 r0 x0 d s0) (b:Good w ts a1 k r1 x1 d s1) (e:Good w ts a2 k r2 x2 d s2):Good w ts [.int 17,.int k,.tup a0,.tup a1,.tup a2] k (r0++r1++r2) (x0++x1++x2) (d+1) (s0+s1+s2):=by
 obtain⟨c0,f,rfl⟩:=a.bJ
 obtain⟨c1,g,rfl⟩:=b.bJ
 obtain⟨c2,j,rfl⟩:=e.bJ
 have l:LF [.int 17,.int k,.tup (.int c0:: .int 1::f),.tup (.int c1:: .int k::g),.tup (.int c2:: .int k::j)] [⟨.int c0:: .int 1::f,r0,x0,s0⟩,⟨.int c1:: .int k::g,r1,x1,s1⟩,⟨.int c2:: .int k::j,r2,x2,s2⟩]:=fun _ _=>by kernel_rfl
 exact xX (T:= .int k::_) rfl (.c a (.c b (.c e .nil))) (aX rfl) (aO _) (.ot rfl) (pC rfl (pC rfl (pT a.pl (pT b.pl (pT e.pl rfl))))) (jI (mx (dt _) (mx (dt _) (mx a.dp (mx b.dp (mx e.dp (dt _))))))) (fun _ _=>by kernel_rfl) l (fun _ _=>by kernel_rfl) (fun ts' m i sl=>iX [115,116,119,120] (cj 8 i) (Rc 1 (l.ev (w.st ts')) (h:=g9)<|Ra (q9 (bT.three 1 k k) (w.st ts')) Rd))
noncomputable def ji:List (Int×Int):=[(7,7),(7,9),(7,16),(7,17),(9,7),(9,9),(9,16),(9,17),(16,7),(16,9),(16,16),(16,17),(17,7),(17,9),(17,16),(17,17)]
noncomputable def ti:List (Int×Int):=[(13,12),(19,12)]
noncomputable def tj:List (Int×Int):=[(12,19)]
noncomputable def qj:List (Int×Int):=[(1,12),(7,12),(9,12),(16,12),(17,12),(18,12),(21,12),(22,12),(23,12),(24,12),(25,12),(26,12)]
noncomputable def hQ:List (Int×Int):=[(12,1),(12,7),(12,9),(12,16),(12,17),(12,18),(12,21),(12,22),(12,23),(12,24),(12,25),(12,26),(13,7),(13,21),(13,18),(13,16),(19,7),(19,21),(19,18),(19,16)]
def oh (n:Int) (L:List (Int×Int)):Prop:=(L.map fun(m,k) (w:World) (ts:List Int) (i:Nat) (c0:Int) (a:List V) (sl:Slot)=>tl (Kn (i+8)) [.v (.obj 15),.v (.tup [.int 19,.int k,.tup (.int c0:: .int m::a),.int n,.int 0]),sl,.un,.un,.un] i9.tail (w.st ts))=L.map fun _ w ts _ _ _ _=>some (.bool true,w.st ts)
theorem qk{n:Int}{L:List (Int×Int)} (b:n=1\/n=2\/n=3\/n=4\/n=5) (e:oh n L) (a:Good w ts a0 m r0 x0 d s0) (f:(m,k)∈L):Good w ts [.int 19,.int k,.tup a0,.int n,.int 0] k r0 x0 (d+1) s0:=by
 obtain⟨c0,g,rfl⟩:=a.bJ
 rcases b with rfl|rfl|rfl|rfl|rfl<;>exact mX (ps:=[.h 0,.v (.int _),.v (.int 0)]) (e:=0) (.c a .nil) (jt a.toGK) rfl rfl rfl (aX rfl) (by kernel_rfl) (j7 fun ts' j n b=>Rp w ts'<|Rl (iI w ts')<|Rl (W0 w ts')<|Rc 4 (a.fix ts' j) (h:=f1 b) Rd) (fun _ ts' _ i sl=>congrFun (congrFun (congrFun (congrFun (congrFun (congrFun (mp e f) w) ts') i) c0) g) sl)
theorem j8 (a:Good w ts a0 m r0 x0 d s0) (b:(m,k)∈ji):Good w ts [.int 19,.int k,.tup a0,.int 1,.int 0] k r0 x0 (d+1) s0:=qk (by decide) (by unfold oh;kernel_rfl) a b
theorem DK (a:Good w ts a0 m r0 x0 d s0) (b:(m,k)∈ti):Good w ts [.int 19,.int k,.tup a0,.int 2,.int 0] k r0 x0 (d+1) s0:=qk (by decide) (by unfold oh;kernel_rfl) a b
theorem Sp (a:Good w ts a0 m r0 x0 d s0) (b:(m,k)∈tj):Good w ts [.int 19,.int k,.tup a0,.int 3,.int 0] k r0 x0 (d+1) s0:=qk (by decide) (by unfold oh;kernel_rfl) a b
theorem DL (a:Good w ts a0 m r0 x0 d s0) (b:(m,k)∈qj):Good w ts [.int 19,.int k,.tup a0,.int 4,.int 0] k r0 x0 (d+1) s0:=qk (by decide) (by unfold oh;kernel_rfl) a b
theorem yb (a:Good w ts a0 m r0 x0 d s0) (b:(m,k)∈hQ):Good w ts [.int 19,.int k,.tup a0,.int 5,.int 0] k r0 x0 (d+1) s0:=qk (by decide) (by unfold oh;kernel_rfl) a b
theorem y8{x:Int} (j:Good w ts a0 m r0 x0 d s0) (hm:m∈cY) (l:x∈iJ):Good w ts [.int 20,.int 1,.tup a0,.int x,.int 0] 1 r0 x0 (d+1) s0:=by
 obtain⟨c0,o,rfl⟩:=j.bJ
 exact ya (ps:=[.h 0,.v (.int x),.v (.int 0)]) (e:=0) (n:=0) (.c j .nil) (jt j.toGK) rfl (by decide) rfl rfl (aX rfl) (by kernel_rfl) .nil (aO 0) (fun m st=>qd (by decide) _ st) (fun _=>j7 fun ts' k n i=>Rp w ts'<|Rl (tR w ts')<|Rl (W0 w ts')<|Rc 4 (j.fix ts' k) (h:=f1 i)<|Rl (W0 w ts')<|Rc 4 (uP w ts' (x0:=m) hm) (h:=f7 i)<|Rl (W0 w ts')<|Rc 3 (rG w ts' l) (h:=f7 i) Rd) (fun _ p ts' k=>p7 (by decide) (p ts' k)) (fun hK st lid=>by
  obtain⟨b0,q⟩:=j.ej st lid
  cases hz:((0:Int)==lid) with
  |true=>exact⟨true,Ev.of [32,48] 12 (hm:=cj ..) fun n i=>Ra (lG (a:=20) (b:=2) (by decide) st)<|Ra (fi 20 st)<|Ra ((kK 0 lid st).trans (by rw[hz])) Rd⟩
  |false=>refine⟨b0,?_⟩;cases b0<;>exact Ev.of [32,48] 12 (hm:=cj ..) fun n i=>Ra (lG (a:=20) (b:=2) (by decide) st)<|Ra (fi 20 st)<|Ra ((kK 0 lid st).trans (by rw[hz]))<|Rc 1 (hK.ev st) (h:=f6 i)<|Rc 1 q (h:=f1 i) Rd)
  (fun _ ts' _ n sl=>mp (f:=fun x=>tl (Kn (n+8)) [.v (.obj 15),.v (.tup [.int 20,.int 1,.tup (.int c0:: .int m::o),.int x,.int 0]),sl,.un,.un,.un] i9.tail (w.st ts')) (g:=fun _=>some (.bool true,w.st ts')) (mp (f:=fun m=>iJ.map fun x=>tl (Kn (n+8)) [.v (.obj 15),.v (.tup [.int 20,.int 1,.tup (.int c0:: .int m::o),.int x,.int 0]),sl,.un,.un,.un] i9.tail (w.st ts')) (g:=fun _=>iJ.map fun _=>some (.bool true,w.st ts')) (by kernel_rfl) hm) l)
theorem Fe (a:Good w ts a0 m r0 x0 d s0) (hm:m∈cY) (f:k∈cY) (g:k∈y6):Good w ts [.int 21,.int k,.tup a0] k r0 x0 (d+1) s0:=by
 obtain⟨c0,l,rfl⟩:=a.bJ
 exact mX (ps:=[.h 0]) (e:=0) (.c a .nil) (jt a.toGK) rfl rfl rfl (aX rfl) (by kernel_rfl) (j7 fun ts' b n h=>Rp w ts'<|Rl (zL w ts')<|Rl (W0 w ts')<|Rc 3 (a.fix ts' b) (h:=f1 h)<|Rl (W0 w ts')<|Rc 3 (uP w ts' (x0:=m) hm) (h:=f7 h)<|Rl (W0 w ts')<|Rc 2 (ru w ts' g) (h:=f7 h) Rd) (fun j ts' b i sl=>iX [115,116,119,120] (cj 8 i) (Rc 1 (j.ev (w.st ts')) (h:=g9)<|Rc 1 (Bt w ts' hm) (h:=g9)<|Rc 1 (Bt w ts' f) (h:=g9) Rd))
theorem DM{c:Int}{q j:List V} {n:Nat} (o:c=2\/c=4\/c=5\/c=6) (f:Good w ts (.int c:: .int k::q) k r0 x0 d s0) (g:Good w ts a1 k r1 x1 d s1) (iw:bT j) (p:0+j.length<=n) (z:∀c1 l,(fun m st=>aG (Kn (m+8)) [.v (.tup [.int 22,.int k,.tup (.int c:: .int k::q),.tup (.int c1:: .int k::l)]),.un,.un] nO st)=fun _ st=>some (.lst j,st)):Good w ts [.int 22,.int k,.tup (.int c:: .int k::q),.tup a1] k (r0++r1) (j++x0++x1) (d+1) (s0+s1+n):=by
 obtain⟨c1,l,rfl⟩:=g.bJ
 rcases o with rfl|rfl|rfl|rfl<;>exact ya (ps:=[.h 0,.h 1]) (e:=0) (.c f (.c g .nil)) (jt f.toGK) rfl (by decide) rfl rfl (aX rfl) (by kernel_rfl) iw p (fun m st=>congrFun (congrFun (z c1 l) m) st) (fun hK=>j7 fun ts' b n a=>Rp w ts'<|Rl (W6 w ts')<|Rc 4 (hK.ev (w.st ts')) (h:=f6 a)<|Rc 4 (f.fix ts' b) (h:=f1 a)<|Rc 4 (g.fix ts' b) (h:=f1 a) Rd) (fun hK _ ts' b=>Ev.of [32,45] 12 (hm:=aK (by decide) (cj ..)) fun n a=>Rc 3 (hK.ev (w.st ts')) (h:=aK (by decide) (aK (cj 14 _) a))<|Rc 3 (f.fix ts' b) (h:=f3 a)<|Rc 3 (g.fix ts' b) (h:=f3 a) Rd) (fun hK=>(cC.c f (.c g .nil)).ej hK (aX rfl) (mq (aO _)) (o9 (by decide) (by decide))) (fun r ts' b i sl=>iX [115,116,119,120] (cj 8 i) (Rc 1 (r.ev (w.st ts')) (h:=g9)<|Ra (q9 (bT.two k k) (w.st ts')) Rd))
theorem mM{x:Int} (a:Good w ts [.int 2,.int k,.int x] k r0 x0 d s0) (b:Good w ts a1 k r1 x1 d s1):Good w ts [.int 22,.int k,.tup [.int 2,.int k,.int x],.tup a1] k (r0++r1) ([.int x]++x0++x1) (d+1) (s0+s1+1):=DM (.inl rfl) a b (.one x) (aO 1) fun _ _=>by kernel_rfl
theorem Ms{c:Int}{q:List V} (a:c=4\/c=5\/c=6) (b:Good w ts (.int c:: .int k::q) k r0 x0 d s0) (e:Good w ts a1 k r1 x1 d s1):Good w ts [.int 22,.int k,.tup (.int c:: .int k::q),.tup a1] k (r0++r1) (x0++x1) (d+1) (s0+s1):=DM (.inr a) b e .nil (aO 0) fun _ _=>by
 rcases a with rfl|rfl|rfl<;>kernel_rfl
theorem lH (a:Good w ts a0 m r0 x0 d s0) (b:Good w ts a1 k r1 x1 d s1):Good w ts [.int 31,.int k,.tup [.tup a0],.tup a1] k (r0++r1) (x0++x1) (d+2) (s0+s1):=by
 obtain⟨c0,o,rfl⟩:=a.bJ
 obtain⟨c1,p,rfl⟩:=b.bJ
 exact mX (ps:=[.l [0],.h 1]) (e:=1) (.c a (.c b .nil)) (jt a.toGK) rfl rfl rfl (aX rfl) (by kernel_rfl) (j7 fun ts' f n g=>Rp w ts'<|Rl (W9 w ts')<|Rc 2 (a.dJ ts' f) (h:=fF g)<|Rl (W0 w ts')<|Rc 3 (b.fix ts' f) (h:=f2 g) Rd) (fun j ts' f i sl=>iX [115,116,119,120] (cj 8 i) (Rc 1 (j.ev (w.st ts')) (h:=g9)<|Ra (fi k (w.st ts')) Rd))
theorem Mt (a:Good w ts a0 m r0 x0 d s0) (f:Good w ts a1 m1 r1 x1 d s1) (g:Good w ts a2 k r2 x2 d s2):Good w ts [.int 31,.int k,.tup [.tup a0,.tup a1],.tup a2] k (r0++r1++r2) (x0++x1++x2) (d+2) (s0+s1+s2):=by
 obtain⟨c0,p,rfl⟩:=a.bJ
 obtain⟨c1,q,rfl⟩:=f.bJ
 obtain⟨c2,r,rfl⟩:=g.bJ
 exact mX (ps:=[.l [0,1],.h 2]) (e:=1) (.c a (.c f (.c g .nil))) (jt a.toGK) rfl rfl rfl (aX rfl) (by kernel_rfl) (j7 fun ts' b n j=>Rp w ts'<|Rl (W9 w ts')<|Rc 2 (a.dJ ts' b) (h:=fF j)<|Rc 2 (f.dJ ts' b) (h:=fF j)<|Rl (W0 w ts')<|Rc 3 (g.fix ts' b) (h:=f2 j) Rd) (fun o ts' b i sl=>iX [115,116,119,120] (cj 8 i) (Rc 1 (o.ev (w.st ts')) (h:=g9)<|Ra (fi k (w.st ts')) Rd))
theorem Mu (b:Good w ts a0 m r0 x0 d s0) (g:Good w ts a1 m1 r1 x1 d s1) (j:Good w ts a2 m2 r2 x2 d s2) (o:Good w ts a3 k r3 x3 d s3):Good w ts [.int 31,.int k,.tup [.tup a0,.tup a1,.tup a2],.tup a3] k (r0++r1++r2++r3) (x0++x1++x2++x3) (d+2) (s0+s1+s2+s3):=by
 obtain⟨c0,q,rfl⟩:=b.bJ
 obtain⟨c1,r,rfl⟩:=g.bJ
 obtain⟨c2,s,rfl⟩:=j.bJ
 obtain⟨c3,t,rfl⟩:=o.bJ
 exact mX (ps:=[.l [0,1,2],.h 3]) (e:=1) (.c b (.c g (.c j (.c o .nil)))) (jt b.toGK) rfl rfl rfl (aX rfl) (by kernel_rfl) (j7 fun ts' a n f=>Rp w ts'<|Rl (W9 w ts')<|Rc 2 (b.dJ ts' a) (h:=fF f)<|Rc 2 (g.dJ ts' a) (h:=fF f)<|Rc 2 (j.dJ ts' a) (h:=fF f)<|Rl (W0 w ts')<|Rc 3 (o.fix ts' a) (h:=f2 f) Rd) (fun p ts' a i sl=>iX [115,116,119,120] (cj 8 i) (Rc 1 (p.ev (w.st ts')) (h:=g9)<|Ra (fi k (w.st ts')) Rd))
theorem Mv (f:Good w ts a0 m r0 x0 d s0) (g:Good w ts a1 m1 r1 x1 d s1) (j:Good w ts a2 m2 r2 x2 d s2) (o:Good w ts a3 m3 r3 x3 d s3) (p:Good w ts a4 k r4 x4 d s4):Good w ts [.int 31,.int k,.tup [.tup a0,.tup a1,.tup a2,.tup a3],.tup a4] k (r0++r1++r2++r3++r4) (x0++x1++x2++x3++x4) (d+2) (s0+s1+s2+s3+s4):=by
 obtain⟨c0,r,rfl⟩:=f.bJ
 obtain⟨c1,s,rfl⟩:=g.bJ
 obtain⟨c2,t,rfl⟩:=j.bJ
 obtain⟨c3,u,rfl⟩:=o.bJ
 obtain⟨c4,v,rfl⟩:=p.bJ
 exact mX (ps:=[.l [0,1,2,3],.h 4]) (e:=1) (.c f (.c g (.c j (.c o (.c p .nil))))) (jt f.toGK) rfl rfl rfl (aX rfl) (by kernel_rfl) (j7 fun ts' a n b=>Rp w ts'<|Rl (W9 w ts')<|Rc 2 (f.dJ ts' a) (h:=fF b)<|Rc 2 (g.dJ ts' a) (h:=fF b)<|Rc 2 (j.dJ ts' a) (h:=fF b)<|Rc 2 (o.dJ ts' a) (h:=fF b)<|Rl (W0 w ts')<|Rc 3 (p.fix ts' a) (h:=f2 b) Rd) (fun q ts' a i sl=>iX [115,116,119,120] (cj 8 i) (Rc 1 (q.ev (w.st ts')) (h:=g9)<|Ra (fi k (w.st ts')) Rd))
end
end
inductive dO (w:World) (ts:List Int):List V->List V->List V->Nat->Nat->Prop
 |nil {d s:Nat}:dO w ts [] [] [] d s
 |cons {t E rd wr oi qG m d s1 s2}:Good w ts t m rd wr d s1->dO w ts E oi qG d s2->dO w ts (.tup t::E) (rd++oi) (wr++qG) d (s1+s2)
theorem dO.later{w ts ts' E rd wr d s} (h:dO w ts E rd wr d s) (l:ts<+:ts'):dO w ts' E rd wr d s:=by
 induction h with
 |nil=>exact .nil
 |cons g _ ih=>exact .cons (g.later l) ih
theorem dO.upd{w ts E rd wr d d' s} (h:dO w ts E rd wr d s) (l:d<=d'):dO w ts E rd wr d' s:=by
 induction h with
 |nil=>exact .nil
 |cons g _ ih=>exact .cons (g.up l) (ih l)
theorem dO.up{w ts E rd wr d d' s s'} (h:dO w ts E rd wr d s) (l:d<=d':=by first|assumption|exact aO _|exact aX rfl|omega) (k:s<=s':=by first|assumption|exact aO _|exact aX rfl|omega):dO w ts E rd wr d' s':=by
 cases h with
 |nil=>exact .nil
 |@cons t E rd wr q z m _ s1 s2 g r=>
  have e:s'=(s'-s2)+s2:=by exact NY k
  rw[e]
  exact .cons (g.up l) (r.upd l)
theorem dO.app{w ts E rd wr d s A q z s'} (h:dO w ts E rd wr d s) (k:dO w ts A q z d s'):dO w ts (E++A) (rd++q) (wr++z) d (s+s'):=by
 induction h with
 |nil=>exact k.up (aO _) (cj ..)
 |@cons t E rd wr C D m d s1 s2 g _ ih=>
  rw[fE,fE,lO]
  exact .cons g (ih k)
theorem dO.one{w ts t m rd wr d s} (g:Good w ts t m rd wr d s):dO w ts [.tup t] rd wr d s:=by
 have h:=dO.cons g (dO.nil (s:=0))
 rwa [cP,cP] at h
theorem DN{w ts E rd wr d s t k i j s2} (h:dO w ts E rd wr d s) (m:E≠[]) (l:E.length<=4) (g:Good w ts t k i j d s2):
  Good w ts [.int 31,.int k,.tup E,.tup t] k (rd++i) (wr++j) (d+2) (s+s2):=by
 cases h with
 |nil=>exact absurd rfl m
 |cons a h=>cases h with
  |nil=>
   have q:=lH a g
   simp only[cP] at q⊢
   exact q.up (r5) (N1)
  |cons b h=>cases h with
   |nil=>
    have q:=Mt a b g
    simp only[cP,fE] at q⊢
    exact q.up (r5) (N2)
   |cons c h=>cases h with
    |nil=>
     have q:=Mu a b c g
     simp only[cP,fE] at q⊢
     exact q.up (r5) (N3)
    |cons e h=>cases h with
     |nil=>
      have q:=Mv a b c e g
      simp only[cP,fE] at q⊢
      exact q.up (r5) (N4)
     |cons f h=>simp only[bU] at l;exact(N5 l).elim
theorem jB{w ts E rd wr d s t k b e s2} (h:dO w ts E rd wr d s) (i:E.length<=4) (g:Good w ts t k b e d s2):
  ∃q,(∀st,Ev 4 47 [.tup E,.tup t] st (.tup q) st)/\Good w ts q k (rd++b) (wr++e) (d+2) (s+s2):=by
 cases E with
 |nil=>
  cases h
  exact⟨t,fun st=>Ev.of [] 4 fun n f=>Rd,g.up⟩
 |cons x E=>
  refine⟨_,fun st=>?_,DN h (by simp) i g⟩
  refine dm g.bJ fun c r a=>?_;obtain rfl:=a
  have j:E.length<=3:=by simp only[bU] at i;exact N6 i
  match E,j with
  |[],_=>exact Ev.of [] 4 fun n f=>Rd
  |[_],_=>exact Ev.of [] 4 fun n f=>Rd
  |[_,_],_=>exact Ev.of [] 4 fun n f=>Rd
  |[_,_,_],_=>exact Ev.of [] 4 fun n f=>Rd
def gy (M:Nat) (e:List V):Prop:=∀st lid,∃b,Ev M 48 [.tup e,.int lid] st (.bool b) st
def ew (M:Nat) (l:List V):Prop:=∀x∈l,∃e,x= .tup e/\gy M e
theorem ew.nil{M}:ew M []:=fun _ h=>nomatch h
theorem ew.cons{M e l} (h:gy M e) (k:ew M l):ew M (.tup e::l):=fun x z=>(bP.mp z).elim (fun q=>⟨e,q,h⟩) (k x)
theorem gy.up{M z e} (h:gy M e) (l:M<=z):gy z e:=fun st lid=>(h st lid).imp fun _ q=>q.up l
theorem ew.up{M z e} (h:ew M e) (l:M<=z):ew z e:=fun x A=>(h x A).imp fun _ q=>⟨q.1,q.2.up l⟩
def bx (w:World) (a b:Nat) (wr:List V):Prop:=∀i,a<=i->i<b->V.int (w.lid i)∈wr
theorem bx.nil{w a wr}:bx w a a wr:=fun i h k=>absurd k (N7 h)
theorem bx.app{w a b c x y} (h:bx w a b x) (k:bx w b c y):bx w a c (x++y):=fun i p q=>dM.mpr (if l:i<b then .inl (h i p l) else .inr (k i (CW l) q))
theorem bx.jj{w a b c x y} (h:bx w b c x) (k:bx w a b y):bx w a c (x++y):=fun i p q=>dM.mpr (if l:i<b then .inr (k i p l) else .inl (h i (CW l) q))
theorem bx.sub{w a b x y} (h:bx w a b x) (k:∀v∈x,v∈y):bx w a b y:=fun i p q=>k _ (h i p q)
theorem bx.inl{w a b x} (y:List V) (h:bx w a b x):bx w a b (x++y):=h.sub fun _ q=>dM.mpr (.inl q)
theorem bx.inr{w a b x} (y:List V) (h:bx w a b x):bx w a b (y++x):=h.sub fun _ q=>dM.mpr (.inr q)
theorem bx.emp{w a b} (h:bx w a b []) (l:a<=b):a=b:=if e:a<b then nomatch h a (aO _) e else by exact N8 l e
theorem Mw{a b:List Int} (h:a<+:b) (l:a.length=b.length):a=b:=List.IsPrefix.eq_of_length h l
def Mx (t:List V):Prop:=∃c r,t= .int c::r/\(c=1\/c=2)
theorem AO (c:Int) (a:c∈codes\/c=12) (r later:List V) (lw:V) (st:St):Ev 4 50 [lw,.tup (.int c::r),.tup later] st (.bool false) st:=by
 have a:c=12\/c∈codes:=a.symm
 simp only[codes,bP,cp,or_false] at a
 rcases a with rfl|rfl|rfl|rfl|rfl|rfl|rfl|rfl|rfl|rfl|rfl|rfl|rfl|rfl|rfl|rfl|rfl<;>exact Ev.of [] 4 fun n b=>Rd
theorem Hm{w:World}{ts:List Int} {k x:Int} {M:Nat} (h:fo (w.st ts) x k) {l:List V} (hl:ew M l) (q:l.length<=2):∃b,Ev (M+4) 50 [w.lw,.tup [.int 2,.int k,.int x],.tup l] (w.st ts) (.bool b) (w.st ts):=by
 refine er h fun a nm fl hf g i=>?_
 match l,q,hl with
 |[],_,_=>
  refine⟨true,Ev.of [48] 4 fun n j=>Rl (W0 w ts)<|Ra g<|Rl i<|?_⟩
  rcases hf with rfl|rfl<;>exact Rd
 |[y],_,hl=>
  refine aN (hl y (by simp)) fun e c m=>?_;obtain rfl:=c
  refine cE (m (w.st ts) x) fun b m=>?_
  refine⟨!b,Ev.of [48] 4 fun n j=>Rl (W0 w ts)<|Ra g<|Rl i<|?_⟩
  cases b<;>rcases hf with rfl|rfl<;>exact Rc 1 m Rd
 |[y,z],_,hl=>
  refine aN (hl y (by simp)) fun e d m=>?_;obtain rfl:=d
  refine cE (m (w.st ts) x) fun b m=>?_
  refine aN (hl z (by simp)) fun e' f o=>?_;obtain rfl:=f
  refine cE (o (w.st ts) x) fun p o=>?_
  cases b with
  |true=>
   refine⟨false,Ev.of [48] 4 fun n j=>Rl (W0 w ts)<|Ra g<|Rl i<|?_⟩
   rcases hf with rfl|rfl<;>exact Rc 1 m Rd
  |false=>
   refine⟨!p,Ev.of [48] 4 fun n j=>Rl (W0 w ts)<|Ra g<|Rl i<|?_⟩
   cases p<;>rcases hf with rfl|rfl<;>exact Rc 1 m (Rc 1 o Rd)
theorem rp{w:World}{a b:List Int} (h:w.room b) (p:a<+:b):w.room a:=aK (dD p.length_le _) h
theorem wd{w:World}{ts:List Int} (k:Int):Good w (ts++[k]) [.int 2,.int k,.int (w.lid ts.length)] k [] [] 1 0:=
 jF fun ts' b=>IK w ts' ts.length k (by
  refine cE b.1 fun u a=>?_;obtain rfl:=a
  rw[fE,ft (aO _),pO];rfl) b.2
theorem jA (ts:List Int) (k:Int):ts<+:ts++[k]:=⟨[k],rfl⟩
theorem DO{w:World}{ts:List Int} {k:Int} {v:V} (h:(v= .none/\k∈([12,13,19,20,27,28,29,30,31]:List Int))\/(∃i,v= .int i/\k∈([1,7,9,16,17]:List Int))\/∃s,v= .str s/\s<104/\k=13):Good w ts [.int 1,.int k,v] k [] [] 1 0:=by
 rcases h with⟨rfl,h⟩|⟨i,rfl,h⟩|⟨s,rfl,h,rfl⟩
 ·exact oS h
 ·exact g_num h
 ·exact xZ h
inductive Gp (w:World) (ts:List Int) (t:List V) (l:List V) (k:Int) (rd wr:List V) (d s M:Nat):Prop
 |mk (E v:List V) (ts':List Int) (qG:List V) (p:ts<+:ts') (n:ts'.length<=ts.length+1) (h:w.room ts'->Ev (M+8) 51 [w.lw,.tup t,.tup l] (w.st ts) (.tup [.tup E,.tup v]) (w.st ts')) (e:dO w ts' E rd (qG++wr) (d+1) (s+1)) (g:Good w ts' v k [] [] 1 0) (q:Mx v) (z:E.length<=1) (c:bx w ts.length ts'.length qG)
theorem iT{w ts t k rd wr d s M} (g:Good w ts t k rd wr d s) {l:List V} (hl:ew M l) (h2:l.length<=2):Gp w ts t l k rd wr d s M:=by
 have zO:∀c r,t= .int c:: .int k::r->(w.room ts->Ev (M+4) 50 [w.lw,.tup t,.tup l] (w.st ts) (.bool false) (w.st ts))->Gp w ts t l k rd wr d s M:=by
  intro c r e h
  have gt:=wd (w:=w) (ts:=ts) k
  have hd:1<=d:=aK (cj 1 _) g.dp
  refine⟨_,_,ts++[k],[.int (w.lid ts.length)],jA ts k,by simp,fun hR=>?_,.one (mM (gt.up (d':=d) (s':=0)) (g.later (jA ts k))).up,gt,⟨2,_,rfl,.inr rfl⟩,aO 1,?_⟩
  ·subst e
   exact Ev.of [48,50,30] 5 fun n hn=>Rc 1 (h (rp hR (jA ts k)))<|Rl (W0 w ts)<|Rl (W0 w ts)<|Rl (W0 w ts)<|Rc 2 (rr w ts k (rp hR (jA ts k))) Rd
  ·intro i p q
   simp only[dG,bU,hI] at q
   have:i=ts.length:=by exact CX p q
   subst this;simp
 cases g.hd with
 |cst v hv=>
  refine⟨[],_,ts,[],dN,dZ _,fun _=>?_,.nil,DO hv,⟨1,_,rfl,.inl rfl⟩,dt _,.nil⟩
  exact Ev.of [48] 5 fun n hn=>Rd
 |loc x hx=>
  by_cases hr:w.room ts
  ·refine cE (Hm (hx ts ⟨dN,hr⟩) hl h2) fun b h=>?_
   cases b with
   |false=>exact zO _ _ rfl fun _=>h
   |true=>
    refine⟨[],_,ts,[],dN,dZ _,fun _=>?_,.nil,jF hx,⟨2,_,rfl,.inr rfl⟩,dt _,.nil⟩
    exact Ev.of [48,50] 5 fun n hn=>Rc 1 h Rd
  ·exact ⟨[],[.int 2,.int k,.int x],ts,[],dN,dZ _,fun h=>absurd h hr,.nil,jF hx,⟨2,_,rfl,.inr rfl⟩,dt _,.nil⟩
 |mm=>exact zO _ _ rfl fun _=>(AO 12 (.inr rfl) _ l w.lw (w.st ts)).up (cj ..)
 |mn c r h=>exact zO _ _ rfl fun _=>(AO c (.inl h) _ l w.lw (w.st ts)).up (cj ..)
inductive zP (f:Nat) (w:World) (ts:List Int) (e:List V) (k:Int) (rd:List V) (N d s:Nat):Prop
 |mk (t:List V) (ts':List Int) (wr:List V) (p:ts<+:ts') (n:ts'.length<=ts.length+s) (v:w.room ts'->Ev N f [w.lw,.tup e] (w.st ts) (.tup t) (w.st ts')) (g:Good w ts' t k rd wr d s) (c:bx w ts.length ts'.length wr)
def Lo (f:Nat) (w:World) (a:List Int) (e:List V) (k:Int) (rd:List V) (N d s:Nat):Prop:=
 ∀ts,a<+:ts->zP f w ts e k rd N d s
theorem nl{a b s t:Nat} (n:b<=a+s) (h:s<=t):b<=a+t:=aK n (dD h a)
theorem fx{a b c s t x:Nat} (n:b<=a+s) (p:c<=b+x) (h:s+x<=t):c<=a+t:=aK p (aK (ip n x) (aK (bt (lO a s x)) (dD h a)))
theorem Lo.up{f w q e k rd N d s A d' s'} (h:Lo f w q e k rd N d s) (C:N<=A:=by first|assumption|exact aO _|exact aX rfl|omega) (hd:d<=d':=by first|assumption|exact aO _|exact aX rfl|omega) (D:s<=s':=by first|assumption|exact aO _|exact aX rfl|omega):Lo f w q e k rd A d' s':=fun ts z=>
 have⟨t,ts',wr,p,n,v,g,c⟩:=h ts z
 ⟨t,ts',wr,p,nl n D,fun r=>(v r).up C,g.up,c⟩
theorem Lo.later{f w q z e k rd N d s} (h:Lo f w q e k rd N d s) (l:q<+:z):Lo f w z e k rd N d s:=fun ts A=>h ts (l.trans A)
theorem Good.lo{w q t k rd wr d s} (g:Good w q t k rd wr d s):Lo 45 w q t k rd (5*d+12) d s:=fun ts z=>
 ⟨t,ts,wr,dN,bE ..,fun r=>g.fix ts ⟨z,r⟩,g.later z,.nil⟩
inductive Zj (f f':Nat) (w:World) (ts:List Int) (e e':List V) (k k':Int) (rd oi:List V) (N d s s':Nat):Prop
 |mk (t0:List V) (bI:List Int) (w0:List V) (p0:ts<+:bI) (v0:w.room bI->Ev N f [w.lw,.tup e] (w.st ts) (.tup t0) (w.st bI)) (g0:Good w bI t0 k rd w0 d s) (c0:bx w ts.length bI.length w0)
  (t1:List V) (cH:List Int) (w1:List V) (p1:bI<+:cH) (v1:w.room cH->Ev N f' [w.lw,.tup e'] (w.st bI) (.tup t1) (w.st cH)) (g1:Good w cH t1 k' oi w1 d s') (c1:bx w bI.length cH.length w1) (n:cH.length<=ts.length+(s+s'))
theorem fV{f j:Nat} {w:World} {a ts:List Int} {e e' rd b:List V} {k l:Int} {N d s s':Nat} (h:Lo f w a e k rd N d s) (h':Lo j w a e' l b N d s') (c:a<+:ts):Zj f j w ts e e' k l rd b N d s s':=
 have⟨n,g,o,m,p,q,g0,c0⟩:=h ts c
 have⟨t1,i,w1,r,n1,t,u,c1⟩:=h' g (c.trans m)
 ⟨n,g,o,m,q,g0,c0,t1,i,w1,r,t,u,c1,fx p n1 (aO _)⟩
inductive Zk (w:World) (ts:List Int) (e e' e2:List V) (k k' k2:Int) (rd oi Zl:List V) (N d s s' s2:Nat):Prop
 |mk (t0:List V) (bI:List Int) (w0:List V) (p0:ts<+:bI) (v0:w.room bI->Ev N 45 [w.lw,.tup e] (w.st ts) (.tup t0) (w.st bI)) (g0:Good w bI t0 k rd w0 d s) (c0:bx w ts.length bI.length w0)
  (t1:List V) (cH:List Int) (w1:List V) (p1:bI<+:cH) (v1:w.room cH->Ev N 45 [w.lw,.tup e'] (w.st bI) (.tup t1) (w.st cH)) (g1:Good w cH t1 k' oi w1 d s') (c1:bx w bI.length cH.length w1)
  (t2:List V) (oj:List Int) (w2:List V) (p2:cH<+:oj) (v2:w.room oj->Ev N 45 [w.lw,.tup e2] (w.st cH) (.tup t2) (w.st oj)) (g2:Good w oj t2 k2 Zl w2 d s2) (c2:bx w cH.length oj.length w2) (n:oj.length<=ts.length+(s+s'+s2))
theorem zQ{w:World}{a ts:List Int} {e e' l rd b c:List V} {k m k2:Int} {N d s s' s2:Nat} (h:Lo 45 w a e k rd N d s) (h':Lo 45 w a e' m b N d s') (q:Lo 45 w a l k2 c N d s2) (f:a<+:ts):Zk w ts e e' l k m k2 rd b c N d s s' s2:=
 have⟨r,i,t,o,u,g0,c0,t1,g,w1,p,v,x,c1,n⟩:=fV h h' f
 have⟨y,j,z,A,n2,B,C,c2⟩:=q g (f.trans (o.trans p))
 ⟨r,i,t,o,u,g0,c0,t1,g,w1,p,v,x,c1,y,j,z,A,B,C,c2,fx n n2 (aO _)⟩
theorem Good.Ff{w ts t k rd wr d s} (g:Good w ts t k rd wr d s):(t=[.int 12,.int k]/\rd=[]/\wr=[])\/∃c r,t= .int c:: .int k::r/\c≠12:=by
 cases g.hd with
 |cst v _=>exact .inr ⟨_,_,rfl,by decide⟩
 |loc v _=>exact .inr ⟨_,_,rfl,by decide⟩
 |mm=>exact .inl ⟨rfl,rfl,rfl⟩
 |mn c r h=>exact .inr ⟨_,_,rfl,fun e=>by subst e;revert h;decide⟩
theorem Good.qB{w ts t k rd wr d s} (g:Good w ts t k rd wr d s):(∃v,t=[.int 1,.int k,v]/\rd=[]/\wr=[]/\(v= .none\/(∃i,v= .int i)\/∃i,v= .str i)/\Good w ts [.int 1,.int k,v] k [] [] 1 0)\/∃c r,t= .int c:: .int k::r/\c≠1:=by
 cases g.hd with
 |cst v h=>
  refine .inl ⟨v,rfl,rfl,rfl,?_,DO h⟩
  rcases h with⟨h,_⟩|⟨i,h,_⟩|⟨i,h,_⟩
  ·exact .inl h
  ·exact .inr (.inl ⟨i,h⟩)
  ·exact .inr (.inr ⟨i,h⟩)
 |loc v _=>exact .inr ⟨_,_,rfl,by decide⟩
 |mm=>exact .inr ⟨_,_,rfl,by decide⟩
 |mn c r h=>exact .inr ⟨_,_,rfl,fun e=>by subst e;revert h;decide⟩
theorem Fg (a b:Int) (st:St):ey (cmp .ne (.int a) (.int b)) st=some (.bool (a !=b),st):=by kernel_rfl
theorem Cz{a b:Int} (h:a≠b) (st:St):ey (cmp .ne (.int a) (.int b)) st=some (.bool true,st):=by rw[Fg,bne_iff_ne.mpr h]
theorem RL{n:Nat}{t:Res V} {v:V} {a:St} (w:World) (ts:List Int) (next:Rn n (eK t (ea w.gs.length) (w.st ts)) v a) (e:tag t= .look (w.gs.length+81) (w.st ts):=by kernel_rfl):Rn n t v a:=Rl (W0 w ts) next e
theorem RP{n:Nat}{t:Res V} {v:V} {a:St} (w:World) (ts:List Int) {i:Nat} {o:Ob} (h:(w.st ts)[i]?=some o) (next:Rn n (eK (eK (eK (eK t (ea w.gs.length) (w.st ts)) (.dict (ig w.gs.length)) (w.st ts)) (.dict (ig w.gs.length)) (w.st ts)) o (w.st ts)) v a)
 (e:tag t= .look (w.gs.length+81) (w.st ts):=by kernel_rfl) (b:tag (eK t (ea w.gs.length) (w.st ts))= .look (w.gs.length+84) (w.st ts):=by kernel_rfl)
 (c:tag (eK (eK t (ea w.gs.length) (w.st ts)) (.dict (ig w.gs.length)) (w.st ts))= .look (w.gs.length+84) (w.st ts):=by kernel_rfl)
 (d:tag (eK (eK (eK t (ea w.gs.length) (w.st ts)) (.dict (ig w.gs.length)) (w.st ts)) (.dict (ig w.gs.length)) (w.st ts))= .look i (w.st ts):=by kernel_rfl):Rn n t v a:=Rp w ts (Rl h next d) e b c
noncomputable def eH (w:World):Sx:= .o (w.gs.length+81) (ea w.gs.length)
noncomputable def qH (w:World) (i:Nat) (o:Ob) (l:List Sx):List Sx:=eH w:: .o (w.gs.length+84) (.dict (ig w.gs.length)):: .o (w.gs.length+84) (.dict (ig w.gs.length)):: .o i o::l
theorem kL{N:Nat}{s':St}{l:List Sx} {w:World} {ts:List Int} (h:ee N s' l (w.st ts)):ee N s' (eH w::l) (w.st ts):=⟨W0 w ts,h⟩
theorem kP{N i:Nat} {o:Ob} {s':St} {l:List Sx} {w:World} {ts:List Int} (h:(w.st ts)[i]?=some o) (k:ee N s' l (w.st ts)):ee N s' (qH w i o l) (w.st ts):=⟨W0 w ts,W3 w ts,W3 w ts,h,k⟩
noncomputable def bO:List (Int×Int):=[(7,22),(9,23),(1,24),(16,25),(17,26)]
noncomputable def y9:List (Int×Int×Int):=[(7,22,67),(7,22,68),(9,23,67),(9,23,68),(1,24,67),(1,24,68),(16,25,67),(16,25,68),(17,26,67),(17,26,68),(1,22,66),(1,23,66),(1,24,66),(1,25,66),(1,26,66)]
theorem My:∀p∈bO,(1,p.2,66)∈y9:=by decide
theorem Mz:∀p∈bO,(p.1,p.2,68)∈y9:=by decide
theorem MA:∀p∈bO,(p.1,p.2,67)∈y9:=by decide
theorem CA:∀p∈bO,(p.2,p.1)∈([(22,7),(23,9),(24,1),(25,16),(26,17)]:List (Int×Int)):=by decide
theorem CB:∀p∈bO,p.2∈eb:=by decide
theorem oT:∀p∈bO,p.2∈qh:=by decide
theorem oM:∀i∈([7,9,16,17]:List Int),∀j∈([7,9,16,17]:List Int),(i,j)∈ji:=by decide
noncomputable def VY:List (Int×Int):=[(7,22),(9,23),(1,24),(16,25),(17,26)]
theorem eJ (w:World) (ts:List Int) {x0 x1} (h:(x0,x1)∈VY):Ev 8 14 [.obj 2,.int x1] (w.st ts) (.tup [.int x0]) (w.st ts):= .k fun n=>Gn (f:=fun x0 x1=>run PP (n+8) 14 [.obj 2,.int x1] (w.st ts)) (g:=fun x0 _=>some (.tup [.int x0],w.st ts)) (by kernel_rfl) h
noncomputable def tm:List (Int):=[22,23,24,25,26]
theorem IM (w:World) (ts:List Int) {x0} (h:(x0)∈tm):Ev 8 16 [.obj 2,.int x0] (w.st ts) (.bool false) (w.st ts):= .k fun n=>mp (f:=fun x0=>run PP (n+8) 16 [.obj 2,.int x0] (w.st ts)) (g:=fun _=>some (.bool false,w.st ts)) (by kernel_rfl) h
noncomputable def VZ:List (Int):=[12,13,19]
theorem Bu (w:World) (ts:List Int) {x0} (h:(x0)∈VZ):Ev 8 16 [.obj 2,.int x0] (w.st ts) (.bool true) (w.st ts):= .k fun n=>mp (f:=fun x0=>run PP (n+8) 16 [.obj 2,.int x0] (w.st ts)) (g:=fun _=>some (.bool true,w.st ts)) (by kernel_rfl) h
theorem yc{w:World}{a:List Int} {e0 aA g b:List V} {s0 s1:Nat} {N d NN dd ss:Nat} {k l r:Int} {op:Nat} (i:Lo 45 w a e0 l aA N d s0) (j:Lo 45 w a g r b N d s1) (m:(op,k,l,r)∈jh) (x:N+8<=NN) (o:d+1<=dd) (p:s0+s1<=ss):Lo 45 w a [.int 14,.int k,.str op,.tup e0,.tup g,.int 0] k (aA++b) NN dd ss:=by
 intro ts c
 obtain⟨y,q,z,s,t,g0,c0,t1,e,w1,f,u,v,c1,n⟩:=fV i j c
 refine⟨_,e,_,(s.trans f),nl n p,fun h=>Ev.of [45] 8 fun n A=>?_,(pb (g0.later f) v m).up,(c0.app c1)⟩
 exact Rp w ts<|Rc 2 (t (rp h f))<|Rc 2 (u h)<|Rd
theorem V0{w:World}{a:List Int} {e0 aA g b:List V} {s0 s1:Nat} {N d NN dd ss:Nat} (i:Lo 45 w a e0 1 aA N d s0) (j:Lo 45 w a g 1 b N d s1) (s:N+8<=NN) (k:d+1<=dd) (l:s0+s1<=ss):Lo 45 w a [.int 15,.int 1,.tup e0,.tup g] 1 (aA++b) NN dd ss:=by
 intro ts c
 obtain⟨t,m,u,o,p,g0,c0,t1,e,w1,f,q,r,c1,n⟩:=fV i j c
 refine⟨_,e,_,(o.trans f),nl n l,fun h=>Ev.of [45] 8 fun n v=>?_,(qi (g0.later f) r).up,(c0.app c1)⟩
 exact Rp w ts<|Rc 2 (p (rp h f))<|Rc 2 (q h)<|Rd
theorem V1{w:World}{a:List Int} {e0 aA g b:List V} {s0 s1:Nat} {N d NN dd ss:Nat} (i:Lo 45 w a e0 1 aA N d s0) (j:Lo 45 w a g 1 b N d s1) (s:N+8<=NN) (k:d+1<=dd) (l:s0+s1<=ss):Lo 45 w a [.int 16,.int 1,.tup e0,.tup g] 1 (aA++b) NN dd ss:=by
 intro ts c
 obtain⟨t,m,u,o,p,g0,c0,t1,e,w1,f,q,r,c1,n⟩:=fV i j c
 refine⟨_,e,_,(o.trans f),nl n l,fun h=>Ev.of [45] 8 fun n v=>?_,(y7 (g0.later f) r).up,(c0.app c1)⟩
 exact Rp w ts<|Rc 2 (p (rp h f))<|Rc 2 (q h)<|Rd
theorem MB{w:World}{a:List Int} {e0 aA j b l c:List V} {s0 s1 s2:Nat} {N d NN dd ss:Nat} {k:Int} (m:Lo 45 w a e0 1 aA N d s0) (o:Lo 45 w a j k b N d s1) (p:Lo 45 w a l k c N d s2) (B:N+8<=NN) (q:d+1<=dd) (r:s0+s1+s2<=ss):Lo 45 w a [.int 17,.int k,.tup e0,.tup j,.tup l] k (aA++b++c) NN dd ss:=by
 intro ts f
 obtain⟨C,s,D,t,u,g0,c0,t1,v,w1,g,x,y,c1,E,h,G,e,z,A,c2,n⟩:=zQ m o p f
 refine⟨_,h,_,((t.trans g).trans e),nl n r,fun i=>Ev.of [45] 8 fun n H=>?_,(mL (g0.later (g.trans e)) (y.later e) A).up,((c0.app c1).app c2)⟩
 exact Rp w ts<|Rc 2 (u (rp i (g.trans e)))<|Rc 2 (x (rp i e))<|Rc 2 (z i)<|Rd
theorem Sq{w:World}{a:List Int} {e0 aA:List V} {s0:Nat} {N d NN dd ss:Nat} (e:Lo 45 w a e0 1 aA N d s0) (k:N+8<=NN) (f:d+1<=dd) (g:s0<=ss):Lo 45 w a [.int 13,.int 1,.str 74,.tup e0,.int 0] 1 (aA) NN dd ss:=by
 intro ts b
 obtain⟨l,c,m,h,n,i,g0,c0⟩:=e ts b
 refine⟨_,c,_,h,nl n g,fun j=>Ev.of [45] 8 fun n o=>?_,(pd g0).up,c0⟩
 exact Rp w ts<|Rc 2 (i j)<|Rd
theorem MC{w:World}{a:List Int} {e0 aA g b:List V} {s0 s1:Nat} {N d NN dd ss:Nat} (i:Lo 45 w a e0 12 aA N d s0) (j:Lo 45 w a g 23 b N d s1) (s:N+8<=NN) (k:d+2<=dd) (l:s0+s1<=ss):Lo 45 w a [.int 8,.int 7,.none,.tup [.int 19,.int 25,.tup []],.tup [.tup e0,.tup g],.int 0] 7 (aA++b) NN dd ss:=by
 intro ts c
 obtain⟨t,m,u,o,p,g0,c0,t1,e,w1,f,q,r,c1,n⟩:=fV i j c
 refine⟨_,e,_,(o.trans f),nl n l,fun h=>Ev.of [45] 8 fun n v=>?_,(Mo (g0.later f) r).up,(c0.app c1)⟩
 exact Rp w ts<|Rc 2 (p (rp h f))<|Rc 2 (q h)<|Rd
theorem Z4{w:World}{a:List Int} {e0 aA g b:List V} {s0 s1:Nat} {N d NN dd ss:Nat} {k m:Int} (i:Lo 45 w a e0 m aA N d s0) (j:Lo 45 w a g 7 b N d s1) (l:(k,m)∈([(7,27),(9,28),(22,29),(13,30),(18,31)]:List (Int×Int))) (v:N+8<=NN) (o:d+1<=dd) (p:s0+s1<=ss):Lo 45 w a [.int 6,.int k,.tup e0,.tup g] k (aA++b) NN dd ss:=by
 intro ts c
 obtain⟨x,q,y,r,s,g0,c0,t1,e,w1,f,t,u,c1,n⟩:=fV i j c
 refine⟨_,e,_,(r.trans f),nl n p,fun h=>Ev.of [45] 8 fun n z=>?_,(v7 (g0.later f) u l).up,(c0.app c1)⟩
 exact Rp w ts<|Rc 2 (s (rp h f))<|Rc 2 (t h)<|Rd
theorem Z5{w:World}{a:List Int} {e0 aA:List V} {s0:Nat} {N d NN dd ss:Nat} {k b:Int} (f:Lo 45 w a e0 19 aA N d s0) (hf:dj w b k) (m:N+8<=NN) (g:d+1<=dd) (h:s0<=ss):Lo 45 w a [.int 4,.int k,.tup e0,.tup [.int 19,.int b]] k (aA) NN dd ss:=by
 intro ts c
 obtain⟨o,e,p,i,n,j,g0,c0⟩:=f ts c
 refine⟨_,e,_,i,nl n h,fun l=>Ev.of [45] 8 fun n q=>?_,(v9 g0 hf).up,c0⟩
 exact Rp w ts<|Rc 2 (j l)<|Rd
theorem Z6{w:World}{a:List Int} {e0 aA:List V} {s0:Nat} {N d NN dd ss:Nat} {k b:Int} (f:Lo 45 w a e0 18 aA N d s0) (hf:dj w b k) (m:N+8<=NN) (g:d+1<=dd) (h:s0<=ss):Lo 45 w a [.int 4,.int k,.tup e0,.tup [.int 18,.int b]] k (aA) NN dd ss:=by
 intro ts c
 obtain⟨o,e,p,i,n,j,g0,c0⟩:=f ts c
 refine⟨_,e,_,i,nl n h,fun l=>Ev.of [45] 8 fun n q=>?_,(wc g0 hf).up,c0⟩
 exact Rp w ts<|Rc 2 (j l)<|Rd
noncomputable def l6:List Int:=[1,2,5,12,8,13,14,15,16,17,18,19,20,21,25,26,27,28,31,34]
theorem BY{w:World}{ts ts':List Int} {c:Int} {r t:List V} {N:Nat} (a:c∈l6) (h:Ev N 45 [w.lw,.tup (.int c::r)] (w.st ts) (.tup t) (w.st ts')):Ev (N+3) 67 [w.lw,.tup (.int c::r)] (w.st ts) (.tup t) (w.st ts'):=by
 simp only[l6,bP,cp,or_false] at a
 rcases a with rfl|rfl|rfl|rfl|rfl|rfl|rfl|rfl|rfl|rfl|rfl|rfl|rfl|rfl|rfl|rfl|rfl|rfl|rfl|rfl<;>exact Ev.of [45] 3 fun n b=>RL w ts<|Rc 2 h Rd
theorem Z7{w a c r k rd N d s NN} (e:c∈l6) (h:Lo 45 w a (.int c::r) k rd N d s) (f:N+3<=NN:=by omega):Lo 67 w a (.int c::r) k rd NN d s:=fun ts b=>
 have⟨t,ts',wr,p,n,v,g,c⟩:=h ts b
 ⟨t,ts',wr,p,n,fun i=>(BY e (v i)).up f,g,c⟩
theorem ju{w ts v n rd wr d s i} (g:Good w ts v n rd wr d s) (h:(i,n)∈bO):Good w ts [.int 8,.int 1,.tup v,.tup [.int n,.int 66,.tup []],.tup [],.int 0] 1 rd wr (d+2) s:=x9 g (My _ h)
theorem lh{w ts v n rd wr d s i} (g:Good w ts v n rd wr d s) (h:(i,n)∈bO):Good w ts [.int 8,.int i,.tup v,.tup [.int n,.int 68,.tup []],.tup [],.int 0] i rd wr (d+2) s:=x9 g (Mz _ h)
theorem za{w ts a b i k rd wr c e d s s'} (f:Good w ts a 1 rd wr d s) (g:Good w ts b i c e d s') (h:(i,k)∈bO):
  Good w ts [.int 17,.int k,.tup a,.tup [.int 9,.int k,.tup [.int k,.int 65,.tup []],.tup [.tup b]],.tup [.int 12,.int k]] k (rd++c) (wr++e) (d+3) (s+s'):=by
 have q:=mL (f.up (d':=d+2) (s':=s)) (Cy g (CA _ h)) ((rR (w:=w) (ts:=ts) (CB _ h)).up (d':=d+2) (s':=0))
 simp only[cP] at q
 exact q.up
theorem g_true{w ts}:Good w ts [.int 1,.int 1,.int 1] 1 [] [] 1 0:=g_num (by decide)
theorem aae{w:World}{a:List Int} {e0 aA h b:List V} {s0 s1:Nat} {N d NN dd ss:Nat} {k m:Int} (j:Lo 67 w a e0 m aA N d s0) (l:Lo 45 w a h k b N d s1) (u:N+12<=NN) (o:d+2<=dd) (p:s0+s1<=ss):Lo 45 w a [.int 31,.int k,.tup [.tup e0],.tup h] k (aA++b) NN dd ss:=by
 intro ts c
 obtain⟨v,e,x,q,r,g0,c0,t1,f,w1,g,s,t,c1,n⟩:=fV j l c
 refine⟨_,f,_,(q.trans g),nl n p,fun i=>Ev.of [45,67] 9 fun n y=>?_,(lH (g0.later g) t).up,(c0.app c1)⟩
 exact RP w ts (W9 w ts)<|Rc 2 (r (rp i g))<|RL w e<|Rc 3 (s i)<|Rd
theorem MD{w:World}{a:List Int} {e0 aA:List V} {s0:Nat} {N d NN dd ss:Nat} {i k:Int} (e:Lo 45 w a e0 i aA N d s0) (f:(i,k)∈bO) (o:N+8<=NN) (g:d+2<=dd) (h:s0<=ss):Lo 45 w a [.int 19,.int k,.tup e0,.int 6,.int 0] k (aA) NN dd ss:=by
 intro ts b
 obtain⟨p,c,q,j,n,l,g0,c0⟩:=e ts b
 refine⟨_,c,_,j,nl n h,fun m=>Ev.of [45] 8 fun n r=>?_,(Cy g0 (CA _ f)).up,c0⟩
 exact RP w ts (iI w ts)<|RL w ts<|Rc 4 (l m)<|Rd
theorem Sr{w:World}{b:List Int} {e0 aA:List V} {s0:Nat} {N d NN dd ss:Nat} {i k:Int} (f:Lo 45 w b e0 k aA N d s0) (g:(i,k)∈bO) (p:N+8<=NN) (h:d+2<=dd) (j:s0<=ss):Lo 45 w b [.int 19,.int i,.tup e0,.int 7,.int 0] i (aA) NN dd ss:=by
 intro ts c
 obtain⟨q,e,r,l,n,m,g0,c0⟩:=f ts c
 refine dm g0.bJ fun _ _ a=>?_;obtain rfl:=a
 refine⟨_,e,_,l,nl n j,fun o=>Ev.of [45] 8 fun n s=>?_,(x9 g0 (MA _ g)).up,c0⟩
 exact RP w ts (iI w ts)<|RL w ts<|Rc 4 (m o)<|Rd
theorem yd{w:World}{a:List Int} {e0 aA:List V} {s0:Nat} {N d NN dd ss:Nat} {m k:Int} (e:Lo 45 w a e0 m aA N d s0) (f:(m,k)∈ji) (o:N+8<=NN) (g:d+1<=dd) (h:s0<=ss):Lo 45 w a [.int 19,.int k,.tup e0,.int 1,.int 0] k (aA) NN dd ss:=by
 intro ts b
 obtain⟨p,c,q,i,n,j,g0,c0⟩:=e ts b
 refine⟨_,c,_,i,nl n h,fun l=>Ev.of [45] 8 fun n r=>?_,(j8 g0 f).up,c0⟩
 exact RP w ts (iI w ts)<|RL w ts<|Rc 4 (j l)<|Rd
theorem Ss{w:World}{a:List Int} {e0 aA:List V} {s0:Nat} {N d NN dd ss:Nat} {m k:Int} (e:Lo 45 w a e0 m aA N d s0) (f:(m,k)∈ti) (o:N+8<=NN) (g:d+1<=dd) (h:s0<=ss):Lo 45 w a [.int 19,.int k,.tup e0,.int 2,.int 0] k (aA) NN dd ss:=by
 intro ts b
 obtain⟨p,c,q,i,n,j,g0,c0⟩:=e ts b
 refine⟨_,c,_,i,nl n h,fun l=>Ev.of [45] 8 fun n r=>?_,(DK g0 f).up,c0⟩
 exact RP w ts (iI w ts)<|RL w ts<|Rc 4 (j l)<|Rd
theorem Su{w:World}{a:List Int} {e0 aA:List V} {s0:Nat} {N d NN dd ss:Nat} {m k:Int} (e:Lo 45 w a e0 m aA N d s0) (f:(m,k)∈tj) (o:N+8<=NN) (g:d+1<=dd) (h:s0<=ss):Lo 45 w a [.int 19,.int k,.tup e0,.int 3,.int 0] k (aA) NN dd ss:=by
 intro ts b
 obtain⟨p,c,q,i,n,j,g0,c0⟩:=e ts b
 refine⟨_,c,_,i,nl n h,fun l=>Ev.of [45] 8 fun n r=>?_,(Sp g0 f).up,c0⟩
 exact RP w ts (iI w ts)<|RL w ts<|Rc 4 (j l)<|Rd
theorem Sw{w:World}{a:List Int} {e0 aA:List V} {s0:Nat} {N d NN dd ss:Nat} {m k:Int} (e:Lo 45 w a e0 m aA N d s0) (f:(m,k)∈qj) (o:N+8<=NN) (g:d+1<=dd) (h:s0<=ss):Lo 45 w a [.int 19,.int k,.tup e0,.int 4,.int 0] k (aA) NN dd ss:=by
 intro ts b
 obtain⟨p,c,q,i,n,j,g0,c0⟩:=e ts b
 refine⟨_,c,_,i,nl n h,fun l=>Ev.of [45] 8 fun n r=>?_,(DL g0 f).up,c0⟩
 exact RP w ts (iI w ts)<|RL w ts<|Rc 4 (j l)<|Rd
theorem Sy{w:World}{a:List Int} {e0 aA:List V} {s0:Nat} {N d NN dd ss:Nat} {m k:Int} (e:Lo 45 w a e0 m aA N d s0) (f:(m,k)∈hQ) (o:N+8<=NN) (g:d+1<=dd) (h:s0<=ss):Lo 45 w a [.int 19,.int k,.tup e0,.int 5,.int 0] k (aA) NN dd ss:=by
 intro ts b
 obtain⟨p,c,q,i,n,j,g0,c0⟩:=e ts b
 refine⟨_,c,_,i,nl n h,fun l=>Ev.of [45] 8 fun n r=>?_,(yb g0 f).up,c0⟩
 exact RP w ts (iI w ts)<|RL w ts<|Rc 4 (j l)<|Rd
theorem Sz{w:World}{a:List Int} {NN dd ss:Nat} {k:Int} (c:k∈tm) (b:k∈eb) (e:20<=NN) (hd:3<=dd):Lo 45 w a [.int 19,.int k,.tup [.int 1,.int 14,.none],.int 8,.int 0] k [] NN dd ss:=fun ts d=>
 ⟨_,ts,_,dN,bE ..,fun f=>Ev.of [16] 9 fun n b=>RP w ts (iI w ts)<|RL w ts<|Rc 3 (IM w ts c)<|Rd,(rR b).up,.nil⟩
theorem SA{w:World}{a:List Int} {NN dd ss:Nat} (c:20<=NN) (hd:3<=dd):Lo 45 w a [.int 19,.int 12,.tup [.int 1,.int 14,.none],.int 8,.int 0] 12 [] NN dd ss:=fun ts b=>
 ⟨_,ts,_,dN,bE ..,fun d=>Ev.of [16] 9 fun n e=>RP w ts (iI w ts)<|RL w ts<|Rc 3 (Bu w ts (x0:=12) (by decide))<|Rd,(oS (by decide)).up,.nil⟩
theorem ME{w:World}{a:List Int} {NN dd ss:Nat} (c:20<=NN) (hd:3<=dd):Lo 45 w a [.int 25,.int 20,.none,.tup [.int 19,.int 25,.tup []],.int 0] 20 [] NN dd ss:=fun ts b=>
 ⟨_,ts,_,dN,bE ..,fun d=>Ev.of [16] 9 fun n e=>RP w ts (Gm w ts)<|Rd,(Sk (o:=19)).up,.nil⟩
theorem SD{w:World}{c:List Int} {e0 aA:List V} {s0:Nat} {N d NN dd ss:Nat} {i o n k:Int} (s:Lo 45 w c e0 n aA N d s0) (e:(o,n)∈bO) (l:(i,k)∈bO) (ho:o∈([7,9,16,17]:List Int)) (t:i∈([7,9,16,17]:List Int)) (G:N+30<=NN) (u:d+9<=dd) (x:s0+1<=ss):Lo 45 w c [.int 19,.int k,.tup e0,.int 9,.int 0,.int 1] k (aA) NN dd ss:=by
 intro ts f
 obtain⟨H,g,I,y,n,z,g0,c0⟩:=s ts f
 obtain⟨E,v,b,J,m,pn,A,B,h,ps,pl,C⟩:=iT (M:=0) g0 ew.nil (dt 2)
 have D:=oM _ ho _ t
 have bd:=za ((ju h e).up (d':=4) (s':=0)) (j8 (lh h e) D) l
 simp only[cP] at bd
 have j:=B.up (d':=d+7) (s':=s0+1)
 refine aN (jB j (aK pl (by decide)) (bd.up (d':=d+7) (s':=0))) fun q sv p=>?_
 simp only[cP] at p
 refine dm h.bJ fun _ _ a=>?_;obtain rfl:=a
 refine⟨q,b,_,(y.trans m),fx n pn x,fun r=>Ev.of [14,45,47,51] 9 fun n L=>?_,p.up,(bx.jj C c0)⟩
 exact RP w ts (iI w ts)<|RL w ts<|Rc 4 (z (rp r m))<|RL w g<|Rc 4 (A r)<|RL w b<|Rc 3 (eJ w b l)<|RL w b<|Rc 4 (eJ w b e)<|Rc 3 (sv (w.st b))<|Rd
noncomputable def tV:List (Int×Int):=[(7,7),(9,9),(1,1),(16,7),(17,9)]
theorem CC (w:World) (ts:List Int) {i p:Int} (h:(i,p)∈tV):Ev 12 73 [w.lw,.int i] (w.st ts) (.int p) (w.st ts):=by
 simp only[tV,bP,cp,or_false,Prod.mk.injEq] at h
 rcases h with⟨rfl,rfl⟩|⟨rfl,rfl⟩|⟨rfl,rfl⟩|⟨rfl,rfl⟩|⟨rfl,rfl⟩
 ·exact Ev.of [] 8 fun n a=>RL w ts Rd
 ·exact Ev.of [] 8 fun n a=>RL w ts Rd
 ·exact Ev.of [] 8 fun n a=>RL w ts Rd
 ·exact Ev.of [] 8 fun n a=>RL w ts<|RL w ts<|RL w ts Rd
 ·exact Ev.of [] 8 fun n a=>RL w ts<|RL w ts<|RL w ts Rd
theorem fj{w:World}{ts t k rd wr d s} (g:Good w ts t k rd wr d s) (h:k∈cY\/k∈eb):
  ∃q m,(∀ts',Ev 10 85 [w.lw,.tup t] (w.st ts') (.tup q) (w.st ts'))/\Good w ts q m rd wr (d+1) s/\m∈cY/\((m=k/\k∈cY)\/m=12):=by
 refine dm g.bJ fun _ _ a=>?_;obtain rfl:=a
 rcases h with h|h
 ·exact ⟨_,k,fun ts=>Ev.of [52] 8 fun n b=>RL w ts<|Rc 1 (uP w ts h) Rd,g.up,h,.inl ⟨rfl,h⟩⟩
 ·exact ⟨_,12,fun ts=>Ev.of [52] 8 fun n b=>RL w ts<|Rc 1 (IL w ts h) Rd,DL g (by revert h;unfold eb qj;simp),by decide,.inr rfl⟩
theorem MF (w:World) (ts:List Int) {x:Int} (h:x=23\/x∈iJ):∃y,y∈iJ/\Ev 8 90 [.obj 2,.int x] (w.st ts) (.int y) (w.st ts):=by
 rcases h with rfl|h
 ·exact ⟨9,by decide,fun n a=>by obtain⟨m,rfl⟩:∃m,n=m+8:=⟨n-8,by exact Oc a⟩;kernel_rfl⟩
 ·exact ⟨x,h,rG w ts h⟩
noncomputable def Gq:List (Int×Int):=[(7,22),(9,23),(1,24),(16,25),(17,26)]
theorem J3 (w:World) (ts:List Int) {x0 x1} (h:(x0,x1)∈Gq):Ev 8 90 [.obj 2,.int x1] (w.st ts) (.int x0) (w.st ts):= .k fun n=>Gn (f:=fun x0 x1=>run PP (n+8) 90 [.obj 2,.int x1] (w.st ts)) (g:=fun x0 _=>some (.int x0,w.st ts)) (by kernel_rfl) h
theorem V2{w:World}{l:List Int} {e0 aA:List V} {s0:Nat} {N d NN dd ss:Nat} {i k:Int} {op:Nat} (z:Lo 45 w l e0 k aA N d s0) (e:(i,k)∈bO) (ho:(i,op)∈([(1,74),(7,89),(9,89),(16,89),(17,89)]:List (Int×Nat))) (L:N+30<=NN) (A:d+11<=dd) (B:s0+1<=ss):Lo 45 w l [.int 28,.int k,.str op,.tup e0,.int 0] k (aA) NN dd ss:=by
 intro ts t
 obtain⟨O,C,Q,D,n,m,g0,c0⟩:=z ts t
 obtain⟨E,v,b,T,g,pn,o,G,u,ps,pl,H⟩:=iT (M:=0) g0 ew.nil (dt 2)
 have I:=(ju u e).up (d':=6) (s':=0)
 have r:=lh u e
 have fin:∀a,Good w b a i [] [] 6 0->(∀n,NN<=n->w.room b->∀q,(∀st,Ev 4 47 [.tup E,.tup [.int 17,.int k,.tup [.int 8,.int 1,.tup v,.tup [.int k,.int 66,.tup []],.tup [],.int 0],.tup [.int 9,.int k,.tup [.int k,.int 65,.tup []],.tup [.tup a]],.tup [.int 12,.int k]]] st (.tup q) st)->Rn n (eO PP [14,45,47,51,73] 9 0 45 [w.lw,.tup [.int 28,.int k,.str op,.tup e0,.int 0]] (w.st ts)) (.tup q) (w.st b))->
   zP 45 w ts [.int 28,.int k,.str op,.tup e0,.int 0] k aA NN dd ss:=by
  intro a J run
  have bd:=za I J e
  simp only[cP] at bd
  have x:=G.up (d':=d+9) (s':=s0+1)
  refine aN (jB x (aK pl (by decide)) (bd.up (d':=d+9) (s':=0))) fun q sv y=>?_
  simp only[cP] at y
  exact⟨q,b,_,D.trans g,fx n pn B,fun c=>Ev.of [14,45,47,51,73] 9 fun n j=>run n j c q sv,y.up,bx.jj H c0⟩
 refine dm u.bJ fun _ _ f=>?_;obtain rfl:=f
 have s:∀p,(i,p)∈tV->_:=fun p h=>CC w b h
 simp only[bP,cp,or_false,Prod.mk.injEq] at ho
 rcases ho with⟨rfl,rfl⟩|⟨rfl,rfl⟩|⟨rfl,rfl⟩|⟨rfl,rfl⟩|⟨rfl,rfl⟩
 ·exact fin _ ((pd r).up) fun n j c q sv=>RP w ts (qF w ts)<|RL w ts<|RL w ts<|Rc 3 (m (rp c g))<|Rc 3 (o c)<|RL w b<|Rc 2 (eJ w b e)<|Rc 2 (s 1 (by decide))<|RL w b<|Rc 3 (eJ w b e)<|Rc 2 (sv (w.st b))<|Rd
 ·exact fin _ ((sh r (by decide)).up) fun n j c q sv=>RP w ts (qF w ts)<|RL w ts<|RL w ts<|Rc 3 (m (rp c g))<|Rc 3 (o c)<|RL w b<|Rc 2 (eJ w b e)<|Rc 2 (s 7 (by decide))<|RL w b<|Rc 3 (eJ w b e)<|Rc 2 (sv (w.st b))<|Rd
 ·exact fin _ ((sh r (by decide)).up) fun n j c q sv=>RP w ts (qF w ts)<|RL w ts<|RL w ts<|Rc 3 (m (rp c g))<|Rc 3 (o c)<|RL w b<|Rc 2 (eJ w b e)<|Rc 2 (s 9 (by decide))<|RL w b<|Rc 3 (eJ w b e)<|Rc 2 (sv (w.st b))<|Rd
 ·exact fin _ ((j8 (k:=16) (sh (j8 (k:=7) r (by decide)) (by decide)) (by decide)).up) fun n j c q sv=>RP w ts (qF w ts)<|RL w ts<|RL w ts<|Rc 3 (m (rp c g))<|Rc 3 (o c)<|RL w b<|Rc 2 (eJ w b e)<|Rc 2 (s 7 (by decide))<|RL w b<|Rc 3 (eJ w b e)<|Rc 2 (sv (w.st b))<|Rd
 ·exact fin _ ((j8 (k:=17) (sh (j8 (k:=9) r (by decide)) (by decide)) (by decide)).up) fun n j c q sv=>RP w ts (qF w ts)<|RL w ts<|RL w ts<|Rc 3 (m (rp c g))<|Rc 3 (o c)<|RL w b<|Rc 2 (eJ w b e)<|Rc 2 (s 9 (by decide))<|RL w b<|Rc 3 (eJ w b e)<|Rc 2 (sv (w.st b))<|Rd
theorem V5{w:World}{b:List Int} {e0 aA:List V} {s0:Nat} {N d NN dd ss:Nat} {m x:Int} (e:Lo 45 w b e0 m aA N d s0) (hm:m∈cY\/m∈eb) (f:x=23\/x∈iJ) (s:N+20<=NN) (g:d+2<=dd) (h:s0<=ss):Lo 45 w b [.int 20,.int 1,.tup e0,.int x,.int 0] 1 (aA) NN dd ss:=by
 intro ts c
 obtain⟨t,a,u,i,n,j,g0,c0⟩:=e ts c
 refine da (fj g0 hm) fun x m2 k l o v=>?_
 refine aN (MF w a f) fun y p q=>?_
 refine⟨_,a,_,i,nl n h,fun r=>Ev.of [45,85,90] 9 fun n z=>?_,(y8 l o p).up,c0⟩
 exact RP w ts (tR w ts)<|RL w ts<|Rc 4 (j r)<|Rc 3 (k a)<|RL w a<|Rc 3 q<|Rd
theorem SE{w:World}{c:List Int} {e0 aA:List V} {s0:Nat} {N d NN dd ss:Nat} {m k:Int} {j:Nat} (p:Lo 45 w c e0 m aA N d s0) (hm:m∈cY\/m∈eb) (f:k∈([13,19]:List Int)) (i:∀ts',Later w c ts'->fo (w.st ts') (Int.ofNat (j+1)) k) (C:N+20<=NN) (r:d+5<=dd) (s:s0+1<=ss):Lo 45 w c [.int 20,.int 1,.tup e0,.int k,.int (Int.ofNat (j+1))] 1 (aA) NN dd ss:=by
 intro ts e
 obtain⟨D,b,E,g,n,t,g0,c0⟩:=p ts e
 refine da (fj g0 hm) fun x m2 u v y G=>?_
 have h:∀ts',Later w b ts'->fo (w.st ts') (Int.ofNat (j+1)) k:=fun q z=>i q (.of (e.trans g) z)
 have gl:=jF h
 have H:1<=d:=by have:=g0.dp;exact CY this
 have A:=mM (gl.up (d':=d+2) (s':=0)) ((Fe v y (by revert f;simp only[bP,cp,or_false];rintro(rfl|rfl)<;>decide) (by revert f;simp only[bP,cp,or_false];rintro(rfl|rfl)<;>decide)).up (d':=d+2) (s':=s0))
 have B:=pb (op:=69) (k:=1) (gl.up (d':=d+2) (s':=0)) ((oS (w:=w) (ts:=b) (k:=k) (by revert f;simp only[bP,cp,or_false];rintro(rfl|rfl)<;>decide)).up (d':=d+2) (s':=0)) (by revert f;simp only[bP,cp,or_false];rintro(rfl|rfl)<;>decide)
 have l:=lH A B
 simp only[cP,gn] at l
 refine⟨_,b,_,g,nl n (lT s),fun o=>Ev.of [16,45,85,90] 9 fun n I=>?_,l.up,?_⟩
 ·refine er (i b ⟨e.trans g,o⟩) fun a nm fl _ x1 x2=>?_
  exact RP w ts (tR w ts)<|RL w ts<|Rc 4 (t o)<|Rc 3 (u b)<|RL w b<|Rc 3 (rG w b (x0:=k) (by revert f;simp only[bP,cp,or_false];rintro(rfl|rfl)<;>decide))<|RL w b<|Ra x1<|Rl x2<|RL w b<|Rc 3 (Bu w b (x0:=k) (by revert f;simp only[bP,cp,or_false];rintro(rfl|rfl)<;>decide))<|Rd
 ·exact bx.inr _ c0
noncomputable def nR:List (Int):=[7,21,18,16]
theorem IP (w:World) (ts:List Int) {x0} (h:(x0)∈nR):Ev 8 16 [.obj 2,.int x0] (w.st ts) (.bool false) (w.st ts):= .k fun n=>mp (f:=fun x0=>run PP (n+8) 16 [.obj 2,.int x0] (w.st ts)) (g:=fun _=>some (.bool false,w.st ts)) (by kernel_rfl) h
theorem SF{w:World}{e:List Int} {e0 aA:List V} {s0:Nat} {N d NN dd ss:Nat} {m k:Int} {j:Nat} (B:Lo 45 w e e0 m aA N d s0) (hm:m∈cY\/m∈eb) (o:m∈cY->(m,k)∈hQ) (f:k∈nR) (z:∀ts',Later w e ts'->fo (w.st ts') (Int.ofNat (j+1)) k) (hN:N+30<=NN) (C:d+9<=dd) (D:s0+2<=ss):Lo 45 w e [.int 20,.int 1,.tup e0,.int k,.int (Int.ofNat (j+1))] 1 (aA) NN dd ss:=by
 intro ts g
 obtain⟨t0,b,w0,p,n,G,g0,c0⟩:=B ts g
 refine da (fj g0 hm) fun x m2 H I J L=>?_
 have h:k∈iJ:=by revert f;simp only[nR,bP,cp,or_false];rintro(rfl|rfl|rfl|rfl)<;>decide
 have r:∀k∈nR,(12,k)∈hQ:=by decide
 have gd:1<=d:=by have:=g0.dp;exact CY this
 obtain⟨E,v,i,wp,l,pn,O,Q,s,ps,pl,T⟩:=iT (M:=0) I ew.nil (dt 2)
 have t:∀ts',Later w i ts'->fo (w.st ts') (Int.ofNat (j+1)) k:=fun q U=>z q (.of ((g.trans p).trans l) U)
 have Y:(m2,k)∈hQ:=by
  rcases L with⟨rfl,_⟩|rfl
  ·exact o (by assumption)
  ·exact r _ f
 have gl:=jF t
 have gA:=mM (gl.up (d':=2) (s':=0)) (yb s Y)
 have gS:=lH gA ((g_true (w:=w) (ts:=i)).up (d':=3) (s':=0))
 have bd:=qi ((y8 s J h).up (d':=5) (s':=0)) gS
 simp only[cP,gn] at bd
 have u:=Q.up (d':=d+7) (s':=s0+1)
 refine aN (jB u (aK pl (by decide)) (bd.up (d':=d+7) (s':=1))) fun q sv A=>?_
 simp only[cP] at A
 refine dm s.bJ fun _ _ c=>?_;obtain rfl:=c
 refine⟨q,i,_,p.trans l,fx n pn (lT D),fun y=>Ev.of [16,45,47,51,85,90] 9 fun n hn=>?_,A.up,bx.inl _ (bx.jj T c0)⟩
 refine er (z b ⟨g.trans p,(rp y l)⟩) fun a nm fl _ x1 x2=>?_
 exact RP w ts (tR w ts)<|RL w ts<|Rc 4 (G (rp y l))<|Rc 3 (H b)<|RL w b<|Rc 3 (rG w b h)<|RL w b<|Ra x1<|Rl x2<|RL w b<|Rc 3 (IP w b f)<|RL w b<|Rc 4 (O y)<|Rc 3 (sv (w.st i))<|Rd
theorem V6{w:World}{b:List Int} {e0 aA:List V} {s0:Nat} {N d NN dd ss:Nat} {m:Int} (e:Lo 45 w b e0 m aA N d s0) (hm:m∈cY\/m∈eb) (p:N+20<=NN) (f:d+2<=dd) (g:s0<=ss):Lo 45 w b [.int 21,.int 19,.tup e0] 19 (aA) NN dd ss:=by
 intro ts c
 obtain⟨q,a,r,h,n,i,g0,c0⟩:=e ts c
 refine da (fj g0 hm) fun x m2 j k l s=>?_
 refine⟨_,a,_,h,nl n g,fun o=>Ev.of [21,45,85] 9 fun n t=>?_,(Fe k l (by decide) (by decide)).up,c0⟩
 exact RP w ts (zL w ts)<|RL w ts<|Rc 3 (i o)<|Rc 2 (j a)<|RL w a<|Rc 2 (ru w a (x0:=19) (by decide))<|Rd
theorem MG:∀p∈bO,p.1∈iJ:=by decide
theorem MH:∀p∈bO,(12,p.2)∈hQ:=by decide
theorem MI:∀p∈bO,p∈Gq:=by decide
theorem SG{w:World}{c:List Int} {e0 aA:List V} {s0:Nat} {N d NN dd ss:Nat} {i k:Int} (r:Lo 45 w c e0 12 aA N d s0) (e:(i,k)∈bO) (H:N+30<=NN) (s:d+5<=dd) (t:s0+1<=ss):Lo 45 w c [.int 21,.int k,.tup e0] k (aA) NN dd ss:=by
 have hm:(12:Int)∈cY\/(12:Int)∈eb:=by decide
 intro ts g
 obtain⟨I,a,J,u,n,y,g0,c0⟩:=r ts g
 refine da (fj g0 hm) fun x m2 z A L B=>?_
 have h:m2=12:=by rcases B with⟨rfl,_⟩|rfl<;>first|assumption|rfl
 subst h
 obtain⟨E,v,f,O,m,pn,C,D,j,ps,pl,G⟩:=iT (M:=0) A ew.nil (dt 2)
 have bd:=mL ((y8 j (by decide) (MG _ e)).up (d':=2) (s':=0)) (yb j (MH _ e)) ((rR (w:=w) (ts:=f) (CB _ e)).up (d':=2) (s':=0))
 simp only[cP,gn] at bd
 have l:=D.up (d':=d+3) (s':=s0+1)
 refine aN (jB l (aK pl (by decide)) (bd.up (d':=d+3) (s':=0))) fun q sv o=>?_
 simp only[cP] at o
 refine dm j.bJ fun _ _ b=>?_;obtain rfl:=b
 refine⟨q,f,_,u.trans m,fx n pn t,fun p=>Ev.of [21,45,47,51,85,90] 9 fun n Q=>?_,o.up,bx.jj G c0⟩
 exact RP w ts (zL w ts)<|RL w ts<|Rc 3 (y (rp p m))<|Rc 2 (z a)<|RL w a<|Rc 2 (oK w a (oT _ e))<|RL w a<|Rc 3 (C p)<|RL w f<|Rc 2 (J3 w f (MI _ e))<|Rc 2 (sv (w.st f))<|Rd
theorem DP{w ts k t rd wr d s} (g:Good w ts t k rd wr d s) (h:k=12\/k=13):∃q,(∀st,Ev 3 95 [.tup t] st (.tup q) st)/\Good w ts q 12 rd wr (d+1) s:=by
 refine dm g.bJ fun _ _ a=>?_;obtain rfl:=a
 rcases h with rfl|rfl
 ·exact ⟨_,fun st=>Ev.of [] 3 fun n b=>Rd,g.up⟩
 ·exact ⟨_,fun st=>Ev.of [] 3 fun n b=>Rd,DK g (by decide)⟩
theorem lr{w ts a b ka kb ra rb wa wb d s s'} (ga:Good w ts a ka ra wa d s) (gb:Good w ts b kb rb wb d s') (ha:ka=12\/ka=13) (hb:kb=12\/kb=13):
  ∃q,(∀st,Ev 6 94 [.tup a,.tup b] st (.tup q) st)/\Good w ts q 13 (ra++rb) (wa++wb) (d+3) (s+s'):=by
 refine aN (DP ga ha) fun qa va ja=>?_
 refine aN (DP gb hb) fun qb vb jb=>?_
 have gj:=Mp ja jb
 have gc:=fun(h1:ka=13) (h2:kb=13)=>So (h1▸ga) (h2▸gb)
 refine dm ga.bJ fun _ _ MJ=>?_;obtain rfl:=MJ
 refine dm gb.bJ fun _ _ MK=>?_;obtain rfl:=MK
 by_cases h1:ka=13/\kb=13
 ·refine cA h1 fun ML MM=>?_;obtain rfl:=ML;obtain rfl:=MM
  exact⟨_,fun st=>Ev.of [95] 4 fun n hn=>Rd,(gc rfl rfl).up⟩
 ·refine ⟨_,fun st=>Ev.of [95] 4 fun n hn=>?_,gj.up⟩
  rcases ha with rfl|rfl<;>rcases hb with rfl|rfl<;>first|exact absurd ⟨rfl,rfl⟩ h1|exact Rc 1 (va st)<|Rc 1 (vb st)<|Rd
theorem jv{m k:Int} (h:(m=k/\k∈cY)\/m=12) (a:k∈([13,12,7,21,22]:List Int)):m=12\/m=13:=by
 rcases h with⟨rfl,h⟩|h
 ·simp only[bP,cp,or_false] at a
  rcases a with rfl|rfl|rfl|rfl|rfl<;>first|exact .inr rfl|exact .inl rfl|(revert h;decide)
 ·exact .inl h
theorem jk:∀k∈([13,12,7,21,22]:List Int),k∈cY\/k∈eb:=by decide
theorem MN{w:World}{b:List Int} {e0 aA:List V} {s0:Nat} {N d NN dd ss:Nat} {l:Int} (m:Lo 45 w b e0 l aA N d s0) (c:l∈([13,12,7,21,22]:List Int)) (t:N+30<=NN) (o:d+4<=dd) (p:s0<=ss):Lo 45 w b [.int 26,.int 13,.tup [.tup e0]] 13 (aA) NN dd ss:=by
 intro ts f
 obtain⟨u,a,x,q,n,r,g0,c0⟩:=m ts f
 refine da (fj g0 (jk _ c)) fun x0 y g h _ i=>?_
 have j:=jv i c
 refine aN (lr h ((xZ (w:=w) (ts:=a) (v:=62) (by decide)).up (d':=d+1) (s':=0)) j (.inr rfl)) fun z k e=>?_
 simp only[cP] at e
 refine⟨_,a,_,q,nl n p,fun s=>Ev.of [45,85,94] 9 fun n A=>?_,e.up,c0⟩
 exact RP w ts (tS w ts)<|RL w ts<|Rc 3 (r s)<|Rc 2 (g a)<|Rc 2 (k (w.st a))<|Rd
theorem MO{w:World}{a:List Int} {e0 aA u c:List V} {s0 s1:Nat} {N d NN dd ss:Nat} {v m1:Int} (y:Lo 45 w a e0 v aA N d s0) (z:Lo 45 w a u m1 c N d s1) (e:v∈([13,12,7,21,22]:List Int)) (f:m1∈([13,12,7,21,22]:List Int)) (H:N+30<=NN) (A:d+4<=dd) (B:s0+s1<=ss):Lo 45 w a [.int 26,.int 13,.tup [.tup e0,.tup u]] 13 (aA++c) NN dd ss:=by
 intro ts h
 obtain⟨I,g,J,C,D,g0,c0,t1,b,w1,i,E,G,c1,n⟩:=fV y z h
 refine da (fj (g0.later i) (jk _ e)) fun x0 L j k _ l=>?_
 have m:=jv l e
 refine da (fj G (jk _ f)) fun x1 M o p _ q=>?_
 have r:=jv q f
 refine aN (lr k p m r) fun O s t=>?_
 refine⟨_,b,_,(C.trans i),nl n B,fun x=>Ev.of [45,85,94] 9 fun n Q=>?_,t.up,(c0.app c1)⟩
 exact RP w ts (tS w ts)<|RL w ts<|Rc 3 (D (rp x i))<|Rc 2 (j g)<|RL w g<|Rc 3 (E x)<|Rc 2 (o b)<|Rc 2 (s (w.st b))<|Rd
theorem MP{w:World}{a:List Int} {e0 aA H c I e:List V} {s0 s1 s2:Nat} {N d NN dd ss:Nat} {J m1 m2:Int} (L:Lo 45 w a e0 J aA N d s0) (M:Lo 45 w a H m1 c N d s1) (O:Lo 45 w a I m2 e N d s2) (f:J∈([13,12,7,21,22]:List Int)) (g:m1∈([13,12,7,21,22]:List Int)) (h:m2∈([13,12,7,21,22]:List Int)) (hN:N+30<=NN) (Q:d+7<=dd) (T:s0+s1+s2<=ss):Lo 45 w a [.int 26,.int 13,.tup [.tup e0,.tup H,.tup I]] 13 (aA++c++e) NN dd ss:=by
 intro ts l
 obtain⟨t0,i,w0,U,Y,g0,c0,t1,j,w1,m,v1,g1,c1,t2,b,w2,k,v2,g2,c2,n⟩:=zQ L M O l
 refine da (fj (g0.later (m.trans k)) (jk _ f)) fun x0 y0 o p _ q=>?_
 have r:=jv q f
 refine da (fj (g1.later k) (jk _ g)) fun x1 y1 s t _ u=>?_
 have v:=jv u g
 refine da (fj g2 (jk _ h)) fun x2 y2 x y _ z=>?_
 have A:=jv z h
 refine aN (lr p t r v) fun q1 B C=>?_
 refine aN (lr C (y.up (d':=d+4) (s':=s2)) (.inr rfl) A) fun q2 D E=>?_
 refine⟨_,b,_,((U.trans m).trans k),nl n T,fun G=>Ev.of [45,85,94] 9 fun n hn=>?_,E.up,((c0.app c1).app c2)⟩
 exact RP w ts (tS w ts)<|RL w ts<|Rc 3 (Y (rp G (m.trans k)))<|Rc 2 (o i)<|RL w i<|Rc 3 (v1 (rp G k))<|Rc 2 (s j)<|RL w j<|Rc 3 (v2 G)<|Rc 2 (x b)<|Rc 2 (B (w.st b))<|Rc 2 (D (w.st b))<|Rd
theorem MQ{w:World}{a:List Int} {e0 aA e1 g e2 h e3 i:List V} {s0 s1 s2 s3:Nat} {N d NN dd ss:Nat} {m0 m1 m2 m3:Int} (h0:Lo 45 w a e0 m0 aA N d s0) (h1:Lo 45 w a e1 m1 g N d s1) (h2:Lo 45 w a e2 m2 h N d s2) (h3:Lo 45 w a e3 m3 i N d s3) (j:m0∈([13,12,7,21,22]:List Int)) (k:m1∈([13,12,7,21,22]:List Int)) (l:m2∈([13,12,7,21,22]:List Int)) (m:m3∈([13,12,7,21,22]:List Int)) (hN:N+30<=NN) (a0:d+10<=dd) (hs:s0+s1+s2+s3<=ss):Lo 45 w a [.int 26,.int 13,.tup [.tup e0,.tup e1,.tup e2,.tup e3]] 13 (aA++g++h++i) NN dd ss:=by
 intro ts o
 obtain⟨t0,p,w0,p0,v0,g0,c0,t1,q,w1,r,v1,g1,c1,t2,c,w2,f,v2,g2,c2,n⟩:=zQ h0 h1 h2 o
 obtain⟨t3,b,w3,e,n3,v3,g3,c3⟩:=h3 c (o.trans ((p0.trans r).trans f))
 refine da (fj (g0.later ((r.trans f).trans e)) (jk _ j)) fun x0 y0 t u _ v=>?_
 have x:=jv v j
 refine da (fj (g1.later (f.trans e)) (jk _ k)) fun x1 y1 y z _ A=>?_
 have B:=jv A k
 refine da (fj (g2.later e) (jk _ l)) fun x2 y2 C D _ E=>?_
 have G:=jv E l
 refine da (fj g3 (jk _ m)) fun x3 y3 H I _ J=>?_
 have L:=jv J m
 refine aN (lr u z x B) fun q1 M O=>?_
 refine aN (lr O (D.up (d':=d+4) (s':=s2)) (.inr rfl) G) fun q2 Q T=>?_
 refine aN (lr T (I.up (d':=d+7) (s':=s3)) (.inr rfl) L) fun q3 U Y=>?_
 refine⟨_,b,_,(((p0.trans r).trans f).trans e),fx n n3 hs,fun s=>Ev.of [45,85,94] 9 fun n hn=>?_,Y.up,(((c0.app c1).app c2).app c3)⟩
 exact RP w ts (tS w ts)<|RL w ts<|Rc 3 (v0 (rp s ((r.trans f).trans e)))<|Rc 2 (t p)<|RL w p<|Rc 3 (v1 (rp s (f.trans e)))<|Rc 2 (y q)<|RL w q<|Rc 3 (v2 (rp s e))<|Rc 2 (C c)<|RL w c<|Rc 3 (v3 s)<|Rc 2 (H b)<|Rc 2 (M (w.st b))<|Rc 2 (Q (w.st b))<|Rc 2 (U (w.st b))<|Rd
theorem MR{w:World}{a:List Int} {e0 aA:List V} {s0:Nat} {N d NN dd ss:Nat} {m o:Int} (e:Lo 45 w a e0 m aA N d s0) (hm:m∈cY\/m∈eb) (q:N+20<=NN) (f:d+3<=dd) (g:s0<=ss):Lo 45 w a [.int 25,.int 20,.tup e0,.tup [.int o,.int 26,.tup []],.int 0] 20 (aA) NN dd ss:=by
 intro ts c
 obtain⟨r,b,s,h,n,i,g0,c0⟩:=e ts c
 refine da (fj g0 hm) fun x m2 j k l t=>?_
 refine⟨_,b,_,h,nl n g,fun p=>Ev.of [45,85] 9 fun n u=>?_,(Sl (o:=o) k l).up,c0⟩
 exact RP w ts (Gm w ts)<|RL w ts<|Rc 3 (i p)<|Rc 2 (j b)<|Rd
theorem MS (a:Int) (st:St):ey (cmp .ne (.int a) (.int a)) st=some (.bool false,st):=by rw[Fg,bne_self_eq_false]
noncomputable def j9:List Int:=[12,13,19,20,21]
theorem J4:∀k∈j9,k∈cY\/k∈eb:=by decide
theorem BZ:∀k∈j9,k∈y6:=by decide
theorem J5:∀k∈j9,k∈cY->(69,1,k,k)∈jh:=by decide
theorem MT (k:Int) {i:Int} (h:i∈([7,9,16,17]:List Int)) (st:St):Ev 6 87 [.tup [.int 19,.int k,.tup [.int 32,.int i],.int 1,.int 0]] st (.int i) st:=by
 simp only[bP,cp,or_false] at h
 rcases h with rfl|rfl|rfl|rfl<;>exact Ev.of [] 5 fun n a=>Rd
theorem Hn{w:World}{ts t k rd wr d s} (g:Good w ts t k rd wr d s) (h:(∃i,(i,k)∈bO)\/k∈j9):
  ∃q,(∀ts',Ev 14 86 [w.lw,.tup t] (w.st ts') (.tup q) (w.st ts'))/\Good w ts q 1 rd wr (d+2) s:=by
 rcases h with⟨i,h⟩|h
 ·have gh:=ju g h
  refine dm g.bJ fun _ _ a=>?_;obtain rfl:=a
  exact⟨_,fun ts=>Ev.of [21] 4 fun n j=>RL w ts<|Rc 1 (oK w ts (oT _ h)) Rd,gh⟩
 ·refine da (fj g (J4 _ h)) fun q m l e o p=>?_
  have r:(69,1,m,m)∈jh:=by
   rcases p with⟨rfl,u⟩|rfl
   ·exact J5 _ h u
   ·decide
  have f:=pb e ((oS (w:=w) (ts:=ts) o).up (d':=d+1) (s':=0)) r
  simp only[cP] at f
  refine dm g.bJ fun _ _ b=>?_;obtain rfl:=b
  refine dm e.bJ fun _ _ c=>?_;obtain rfl:=c
  exact⟨_,fun ts=>Ev.of [21,85] 4 fun n j=>RL w ts<|Rc 1 (ru w ts (BZ _ h))<|Rc 1 (l ts) Rd,f.up⟩
theorem CD:∀p∈bO,p.1≠p.2:=by decide
noncomputable def tW (w:World) (k0 k:Int) (e:List V->List V) (f:List Int->List Sx->List Sx) (e0 l i t1 E v j q:List V) (g h d:List Int) (u:V) (b:Bool):List Sx:=
 qH w (w.gs.length+94) (.inst 20 [])<|eH w:: .c 4 45 [w.lw,.tup l] (.tup t1) (w.st g)::eH w:: .c 4 45 [w.lw,.tup e0] (.tup i) (w.st h):: .a u (.bool b)::eH w:: .c 4 51 [w.lw,.tup i,.tup []] (.tup [.tup E,.tup v]) (w.st d)::eH w::
  f d (.c 3 86 [w.lw,.tup v] (.tup j) (w.st d)::eH w:: .c 4 45 [w.lw,.tup (e v)] (.tup (e v)) (w.st d):: .c 3 47 [.tup E,.tup [.int 17,.int k,.tup j,.tup (e v),.tup t1]] (.tup q) (w.st d)::[])
noncomputable def Zm (w:World) (e0 e f t1:List V) (b d:List Int):List Sx:=
 qH w (w.gs.length+94) (.inst 20 [])<|eH w:: .c 4 45 [w.lw,.tup e] (.tup t1) (w.st b)::eH w:: .c 4 45 [w.lw,.tup e0] (.tup f) (w.st d):: .a (.bool true) (.bool true)::[]
noncomputable def tX:List Nat:=[14,21,45,47,51,86]
abbrev qI (ev:List Nat) (w:World) (ts:List Int) (e:List V) (S:List Sx) (q:List V):Prop:=hW true (.tup q) S (w.st ts) (eO PP ev 9 0 45 [w.lw,.tup e] (w.st ts))=hW false (.tup q) S (w.st ts) (eO PP ev 9 0 45 [w.lw,.tup e] (w.st ts))
theorem tn{w:World}{o:List Int} {e0 aA j p:List V} {s0 s1:Nat} {N d NN dd ss:Nat} {k0 k:Int} {h:V} (ev:List Nat) (z:List V->List V) (m:List Int->List Sx->List Sx) (Y:Lo 45 w o e0 k0 aA N d s0) (h1:Lo 45 w o j k p N d s1) (hk:(∃i,(i,k0)∈bO)\/k0∈j9)
  (hv:∀{g v},Good w g v k0 [] [] 1 0->Good w g (z v) k [] [] 4 0) (hm:∀g l s,ee NN s l (w.st g)->ee NN s (m g l) (w.st g))
  (HN:∀ts a f t1,qI ev w ts [.int 18,.int k,.tup e0,.tup j,h] (Zm w e0 j [.int 1,.int k0,.none] t1 a f) t1)
  (A:∀ts a f g t1 E c r y q,(∀x,qI ev w ts [.int 18,.int k,.tup e0,.tup j,h] (tW w k0 k z m e0 j [.int 1,.int k0,.int x] t1 E (.int c:: .int k0::r) y q a f g (.bool true) true) q)/\
   (∀x,qI ev w ts [.int 18,.int k,.tup e0,.tup j,h] (tW w k0 k z m e0 j [.int 1,.int k0,.str x] t1 E (.int c:: .int k0::r) y q a f g (.bool true) true) q)/\
   ∀J r',qI ev w ts [.int 18,.int k,.tup e0,.tup j,h] (tW w k0 k z m e0 j (.int J:: .int k0::r') t1 E (.int c:: .int k0::r) y q a f g (.bool (J==1)) false) q)
  (hN:N+40<=NN) (a0:d+7<=dd) (a3:8<=dd) (C:s0+s1+1<=ss):Lo 45 w o [.int 18,.int k,.tup e0,.tup j,h] k (aA++p) NN dd ss:=by
 intro ts G
 have C:s1+s0+1<=ss:=nh s1 s0▸C
 obtain⟨t1,a,w1,L,O,Q,c1,t0,f,w0,B,T,g0,c0,n⟩:=fV h1 Y G
 obtain⟨E,v,g,wp,D,pn,pv,pE,I,ps,pl,pc⟩:=iT (M:=0) g0 ew.nil (dt 2)
 refine aN (Hn I hk) fun y nv ng=>?_
 have U:=hv I
 have bd:=mL (ng.up (d':=d+4) (s':=0)) (U.up (d':=d+4) (s':=0)) ((Q.later (B.trans D)).up (d':=d+4) (s':=s1))
 rw[gn,gn] at bd
 refine aN (jB (pE.up (d':=d+5) (s':=s0+1)) (aK pl (by decide)) (bd.up (d':=d+5) (s':=s1))) fun q sv sg=>?_
 refine dm I.bJ fun c2 r2 e2=>?_
 have run:∀u b,u=V.bool b->qI ev w ts [.int 18,.int k,.tup e0,.tup j,h] (tW w k0 k z m e0 j t0 t1 E v y q a f g u b) q->zP 45 w ts [.int 18,.int k,.tup e0,.tup j,h] k (aA++p) NN dd ss:=fun u b hu H=>
  ⟨q,g,_,(L.trans B).trans D,fx n pn C,fun t=>Ev.one ev 9 (N:=NN) (kP (Gl w ts)<|kL<|kC 4 (O (rp t (B.trans D)))<|kL<|kC 4 (T (rp t D))<|kE hu<|kL<|kC 4 (pv t)<|kL<|hm g _ _<|kC 3 (nv g)<|kL<|kC 4 (U.fix g ⟨dN,t⟩)<|kC 3 (sv (w.st g)) kZ) H,sg.up,bx.jj (bx.jj pc c0) c1⟩
 subst e2
 have A:=A ts a f g t1 E c2 r2 y q
 rcases g0.qB with⟨x,rfl,rfl,rfl,hx,_⟩|⟨c,r,rfl,hc⟩
 ·rcases hx with rfl|⟨x,rfl⟩|⟨x,rfl⟩
  ·have e:a=f:=Mw B (c0.emp B.length_le)
   subst e
   exact⟨t1,a,w1,L,nl n (lT C),fun t=>Ev.one ev 9 (N:=NN) (kP (Gl w ts)<|kL<|kC 4 (O t)<|kL<|kC 4 (T t)<|kA kZ) (HN ts a a t1),Q.up,c1⟩
  ·exact run _ _ rfl (A.1 x)
  ·exact run _ _ rfl (A.2.1 x)
 ·exact run _ _ (congrArg V.bool (beq_eq_false_iff_ne.mpr hc)) (A.2.2 c r)
theorem SH{w:World}{b:List Int} {e0 aA m e:List V} {s0 s1:Nat} {N d NN dd ss:Nat} {i k:Int} (p:Lo 45 w b e0 k aA N d s0) (q:Lo 45 w b m k e N d s1) (n:(i,k)∈bO) (r:N+40<=NN) (f:d+7<=dd) (h:8<=dd) (s:s0+s1+1<=ss):Lo 45 w b [.int 18,.int k,.tup e0,.tup m,.tup [.int 32,.int k]] k (aA++e) NN dd ss:=
 tn tX (fun v=>v) (fun j l=> .c 3 21 [.obj 2,.int k] (.bool true) (w.st j):: .a (.bool (k !=k)) (.bool false)::l) p q (.inl ⟨i,n⟩) (fun g=>g.up) (fun j _ _ o=>kC 3 (oK w j (oT _ n))<|kE (congrArg V.bool (bne_self_eq_false k)) o) (fun _ _ _ _=>by kernel_rfl) (fun _ _ _ _ _ _ _ _ _ _=>⟨fun _=>by kernel_rfl,fun _=>by kernel_rfl,fun _ _=>by kernel_rfl⟩) r f h s
theorem SI{w:World}{b:List Int} {e0 aA m e:List V} {s0 s1:Nat} {N d NN dd ss:Nat} {i n:Int} (p:Lo 45 w b e0 n aA N d s0) (q:Lo 45 w b m i e N d s1) (f:(i,n)∈bO) (r:N+40<=NN) (j:d+7<=dd) (k:8<=dd) (s:s0+s1+1<=ss):Lo 45 w b [.int 18,.int i,.tup e0,.tup m,.tup [.int 32,.int i]] i (aA++e) NN dd ss:=
 tn tX (fun v=>[.int 8,.int i,.tup v,.tup [.int n,.int 68,.tup []],.tup [],.int 0]) (fun h l=> .c 3 21 [.obj 2,.int n] (.bool true) (w.st h):: .a (.bool (i !=n)) (.bool true)::eH w:: .c 4 14 [.obj 2,.int n] (.tup [.int i]) (w.st h)::l) p q (.inl ⟨i,f⟩) (fun g=>(lh g f).up)
  (fun h _ _ o=>kC 3 (oK w h (oT _ f))<|kE (congrArg V.bool (bne_iff_ne.mpr (CD _ f)))<|kL<|kC 4 (eJ w h f) o) (fun _ _ _ _=>by kernel_rfl) (fun _ _ _ _ _ _ _ _ _ _=>⟨fun _=>by kernel_rfl,fun _=>by kernel_rfl,fun _ _=>by kernel_rfl⟩) r j k s
theorem SJ{w:World}{a:List Int} {e0 aA i b:List V} {s0 s1:Nat} {N d NN dd ss:Nat} {k:Int} (m:Lo 45 w a e0 k aA N d s0) (n:Lo 45 w a i k b N d s1) (j:k∈j9) (p:N+40<=NN) (e:d+7<=dd) (f:8<=dd) (q:s0+s1+1<=ss):Lo 45 w a [.int 18,.int k,.tup e0,.tup i,.tup [.int 32,.int k]] k (aA++b) NN dd ss:=
 tn tX (fun v=>v) (fun h l=> .c 3 21 [.obj 2,.int k] (.bool false) (w.st h)::l) m n (.inr j) (fun g=>g.up) (fun h _ _ o=>kC 3 (ru w h (BZ _ j)) o) (fun _ _ _ _=>by kernel_rfl) (fun _ _ _ _ _ _ _ _ _ _=>⟨fun _=>by kernel_rfl,fun _=>by kernel_rfl,fun _ _=>by kernel_rfl⟩) p e f q
theorem SK{w:World}{b:List Int} {e0 aA p f:List V} {s0 s1:Nat} {N d NN dd ss:Nat} {i n k:Int} (r:Lo 45 w b e0 n aA N d s0) (s:Lo 45 w b p k f N d s1) (h:(i,n)∈bO) (q:i∈([7,9,16,17]:List Int)) (t:k∈([7,9,16,17]:List Int)) (u:N+40<=NN) (j:d+7<=dd) (m:8<=dd) (x:s0+s1+1<=ss):Lo 45 w b [.int 18,.int k,.tup e0,.tup p,.tup [.int 19,.int k,.tup [.int 32,.int i],.int 1,.int 0]] k (aA++f) NN dd ss:=
 tn (87::tX) (fun v=>[.int 19,.int k,.tup [.int 8,.int i,.tup v,.tup [.int n,.int 68,.tup []],.tup [],.int 0],.int 1,.int 0]) (fun e l=> .c 3 21 [.obj 2,.int n] (.bool true) (w.st e):: .c 3 87 [.tup [.int 19,.int k,.tup [.int 32,.int i],.int 1,.int 0]] (.int i) (w.st e):: .a (.bool (i !=n)) (.bool true)::eH w:: .c 4 14 [.obj 2,.int n] (.tup [.int i]) (w.st e)::l) r s (.inl ⟨i,h⟩)
  (fun g=>j8 (lh g h) (oM _ q _ t)) (fun e _ _ o=>kC 3 (oK w e (oT _ h))<|kC 3 (MT k q (w.st e))<|kE (congrArg V.bool (bne_iff_ne.mpr (CD _ h)))<|kL<|kC 4 (eJ w e h) o) (fun _ _ _ _=>by kernel_rfl) (fun _ _ _ _ _ _ _ _ _ _=>⟨fun _=>by kernel_rfl,fun _=>by kernel_rfl,fun _ _=>by kernel_rfl⟩) u j m x
noncomputable def Gr:List Nat:=[66,69]
noncomputable def V7:List (Nat×Int×Int):=[(66,7,22),(66,9,23),(66,1,24),(66,16,25),(66,17,26),(70,7,22),(70,9,23),(70,16,25),(70,17,26),(73,7,22),(73,9,23),(73,16,25),(73,17,26)]
noncomputable def Fh:List (Nat×Int×Int×Int):=[(91,7,22,22),(92,7,22,22),(91,9,23,23),(92,9,23,23),(67,7,22,22),(67,9,23,22),(76,1,24,24),(75,16,25,25),(90,16,25,25),(76,16,25,25),(75,17,26,26),(90,17,26,26),(76,17,26,26),(91,16,25,22),(91,17,26,23)]
noncomputable def Zn:List (Nat×Int×Int):=[(66,7,22),(66,9,23),(66,1,24),(66,16,25),(66,17,26),(69,7,22),(69,9,23),(69,1,24),(69,16,25),(69,17,26),(70,7,22),(70,9,23),(70,16,25),(70,17,26),(73,7,22),(73,9,23),(73,16,25),(73,17,26)]
abbrev dK:=Nat×Int×Int×Int×Int
noncomputable def row (p:dK) (x y:V):V:= .tup [.int 27,.int p.2.1,.str p.1,x,y,.int 0,.int p.2.2.1]
noncomputable def ql:List dK:=V7.map (fun p=>(p.1,1,p.2.1,p.2.2,p.2.2))++Fh.map fun p=>(p.1,p.2.2.1,p.2.1,p.2.2.1,p.2.2.2)
noncomputable def qJ:List dK:=Zn.map fun p=>(p.1,1,p.2.1,p.2.2,p.2.2)
noncomputable def qm:List dK:=[(75,24,1,24,24),(90,24,1,24,24)]
noncomputable def zb:List dK:=Fh.map fun p=>(p.1,p.2.2.1,p.2.1,p.2.2.1,p.2.2.2)
noncomputable def kN:List dK:=qJ++(qm++zb)
noncomputable def gR (k:Int):Int:=((bO.map fun p=>(p.2,p.1)).lookup k).getD 0
noncomputable def hS (i:Int):Int:=if i=16 then 7 else if i=17 then 9 else i
noncomputable def gz (o:Nat):Bool:=o==66||o==69||o==70||o==73
noncomputable def iK (x:List V) (n:Int):List V:=[.int 8,.int 1,.tup x,.tup [.int n,.int 66,.tup []],.tup [],.int 0]
noncomputable def tY (x:List V) (i n:Int):List V:=[.int 8,.int i,.tup x,.tup [.int n,.int 68,.tup []],.tup [],.int 0]
noncomputable def qK (p j:Int) (x:List V):List V:=if p=j then x else [.int 19,.int p,.tup x,.int 1,.int 0]
theorem ye{w ts x p j d} (g:Good w ts x j [] [] d 0) (h:p=j\/(j,p)∈ji):Good w ts (qK p j x) p [] [] (d+1) 0:=by
 unfold qK
 by_cases e:p=j
 ·rw[if_pos e];exact e▸g.up (dZ d) (aO 0)
 ·rw[if_neg e];exact j8 g (h.resolve_left e)
noncomputable def tZ (p:dK):Int:=if p.1=67 then gR p.2.2.2.2 else hS p.2.2.1
noncomputable def t4 (p:dK) (l r:List V):List V:=[.int 14,.int (if gz p.1 then 1 else hS p.2.2.1),.str p.1,.tup (qK (hS p.2.2.1) p.2.2.1 (tY l p.2.2.1 p.2.2.2.1)),.tup (qK (tZ p) (gR p.2.2.2.2) (tY r (gR p.2.2.2.2) p.2.2.2.2)),.int 0]
noncomputable def opQ (p:dK) (l r:List V):List V:=if gz p.1 then t4 p l r else qK p.2.2.1 (hS p.2.2.1) (t4 p l r)
theorem DQ:∀p∈ql,(p.2.2.1,p.2.2.2.1)∈bO/\(gR p.2.2.2.2,p.2.2.2.2)∈bO/\(p.2.2.1,hS p.2.2.1)∈tV/\(hS p.2.2.1=p.2.2.1\/(p.2.2.1,hS p.2.2.1)∈ji)/\(tZ p=gR p.2.2.2.2\/(gR p.2.2.2.2,tZ p)∈ji)/\
  (p.1,(if gz p.1 then 1 else hS p.2.2.1),hS p.2.2.1,tZ p)∈jh/\(p.2.2.1=hS p.2.2.1\/(hS p.2.2.1,p.2.2.1)∈ji):=by decide+kernel
theorem DS{w:World}{ts:List Int} {l r:List V} {p:dK} (gl:Good w ts l p.2.2.2.1 [] [] 1 0) (a:Good w ts r p.2.2.2.2 [] [] 1 0) (c:p∈ql):Good w ts (opQ p l r) (if gz p.1 then 1 else p.2.2.1) [] [] 6 0:=
 have⟨d,e,_,f,g,h,i⟩:=DQ p c
 have b:Good w ts (t4 p l r) _ [] [] 5 0:=pb (ye (lh gl d) f) (ye (lh a e) g) h
 by
  unfold opQ
  revert b
  generalize t4 p l r=x
  cases gz p.1 with
  |true=>exact fun b=>b.up
  |false=>exact fun b=>ye b i
theorem CE{w:World}{ts:List Int} {l r:List V} (x y:V) {p:dK} (gl:Good w ts l p.2.2.2.1 [] [] 1 0) (d:Good w ts r p.2.2.2.2 [] [] 1 0) (a:p∈ql):
  Ev 20 75 [w.lw,row p x y,.tup l,.tup r] (w.st ts) (.tup (opQ p l r)) (w.st ts):=by
 refine dm gl.bJ fun c1 r1 e=>dm d.bJ fun c2 r2 g=>?_
 have⟨b,h,i,_⟩:=DQ p a
 have H:=Ev.jY a [14,73] 6 (f:=75) (N:=20) (s:=w.st ts) (st:=w.st ts) (vs:=fun p=>[w.lw,row p x y,.tup (.int c1:: .int p.2.2.2.1::r1),.tup (.int c2:: .int p.2.2.2.2::r2)])
  (v:=fun p=> .tup (opQ p (.int c1:: .int p.2.2.2.1::r1) (.int c2:: .int p.2.2.2.2::r2)))
  (S:=fun p=> .c 1 73 [w.lw,.int p.2.2.1] (.int (hS p.2.2.1)) (w.st ts)::eH w:: .c 2 14 [.obj 2,.int p.2.2.2.1] (.tup [.int p.2.2.1]) (w.st ts)::eH w:: .c 2 14 [.obj 2,.int p.2.2.2.2] (.tup [.int (gR p.2.2.2.2)]) (w.st ts)::
   if gz p.1 then [] else [eH w,.c 1 14 [.obj 2,.int p.2.2.2.1] (.tup [.int p.2.2.1]) (w.st ts)])
  (kC 1 (CC w ts i)<|kL<|kC 2 (eJ w ts b)<|kL<|kC 2 (eJ w ts h)<|by
   cases gz p.1 with
   |true=>exact kZ
   |false=>exact kL (kC 1 (eJ w ts b) kZ)) (by kernel_rfl)
 rw[e,g];exact H
theorem uv{w:World}{ts:List Int} {x y:V} {l r:List V} {p:dK} (h:p.1∈([75,76,90,91,92,67,70,73]:List Nat)):Ev 8 78 [w.lw,row p x y,.tup l,.tup r] (w.st ts) .none (w.st ts):=
 Ev.jY h [] 4 (f:=78) (N:=8) (vs:=fun o=>[w.lw,row (o,p.2) x y,.tup l,.tup r]) (v:=fun _=> .none) (S:=fun _=>[]) kZ (by kernel_rfl)
noncomputable def om (o:Nat) (h:List V):List V:=if o=66 then [.int 13,.int 1,.str 74,.tup h,.int 0] else h
theorem Fi{w ts h rd wr d s} (g:Good w ts h 1 rd wr d s) (o:Nat):Good w ts (om o h) 1 rd wr (d+1) s:=by
 unfold om
 by_cases e:o=66
 ·rw[if_pos e];exact pd g
 ·rw[if_neg e];exact g.up (dZ d) (aO s)
theorem Ho{w:World}{ts:List Int} {l r rl i wl wr:List V} {p:dK} {d s s':Nat} (gl:Good w ts l p.2.2.2.1 rl wl d s) (j:Good w ts r p.2.2.2.1 i wr d s') (k:(p.2.2.1,p.2.2.2.1)∈bO) (ho:p.1∈Gr) (x y:V):
  Ev 8 78 [w.lw,row p x y,.tup l,.tup r] (w.st ts) .none (w.st ts)\/∃q,Ev 8 78 [w.lw,row p x y,.tup l,.tup r] (w.st ts) (.tup q) (w.st ts)/\Good w ts q 1 (rl++i) (wl++wr) (d+3) (s+s'):=by
 have hl:=Fi (ju gl k) p.1
 have n:=Fi (ju j k) p.1
 rcases j.Ff with⟨rfl,rfl,rfl⟩|⟨c,r,rfl,t⟩
 ·refine dm gl.bJ fun b g e=> .inr ⟨om p.1 (iK l p.2.2.2.1),?_,by rw[cP,cP];exact hl.up (aO _) (bE ..)⟩
  subst e
  exact Ev.jY ho [] 5 (f:=78) (N:=8) (vs:=fun o=>[w.lw,row (o,p.2) x y,.tup (.int b:: .int p.2.2.2.1::g),.tup [.int 12,.int p.2.2.2.1]]) (v:=fun o=> .tup (om o (iK (.int b:: .int p.2.2.2.1::g) p.2.2.2.1))) (S:=fun _=>[.a (.bool false) (.bool false)]) (kA kZ) (by kernel_rfl)
 ·have m:V.bool (c !=12)= .bool true:=congrArg V.bool (bne_iff_ne.mpr t)
  rcases gl.Ff with⟨rfl,rfl,rfl⟩|⟨b,g,rfl,h⟩
  ·exact .inr ⟨om p.1 (iK (.int c:: .int p.2.2.2.1::r) p.2.2.2.1),Ev.jY ho [] 5 (f:=78) (N:=8) (vs:=fun o=>[w.lw,row (o,p.2) x y,.tup [.int 12,.int p.2.2.2.1],.tup (.int c:: .int p.2.2.2.1::r)]) (v:=fun o=> .tup (om o (iK (.int c:: .int p.2.2.2.1::r) p.2.2.2.1)))
    (S:=fun _=>[.a (.bool (c !=12)) (.bool true),.a (.bool false) (.bool false)]) (kE m (kA kZ)) (by kernel_rfl),n.up (aO _) (cj ..)⟩
  ·exact .inl (Ev.jY ho [] 5 (f:=78) (N:=8) (vs:=fun o=>[w.lw,row (o,p.2) x y,.tup (.int b:: .int p.2.2.2.1::g),.tup (.int c:: .int p.2.2.2.1::r)]) (v:=fun _=> .none)
    (S:=fun _=>[.a (.bool (c !=12)) (.bool true),.a (.bool (b !=12)) (.bool true)]) (kE m (kE (congrArg V.bool (bne_iff_ne.mpr h)) kZ)) (by kernel_rfl))
noncomputable def mv (p:dK):dK:=(if p.1=69 then 66 else p.1,p.2)
noncomputable def Gs (o:Nat) (z:List V):List V:=if o=69 then [.int 13,.int 1,.str 74,.tup z,.int 0] else z
noncomputable def zR (o:Nat) (a b:List V):List V:=if o=66\/o=69 then [.int 14,.int 1,.str 66,.tup a,.tup b,.int 0] else [.int 15,.int 1,.tup a,.tup b]
noncomputable def qL (p:dK) (l r:List V):List V:=Gs p.1 [.int 15,.int 1,.tup (zR p.1 (iK l p.2.2.2.1) (iK r p.2.2.2.2)),.tup (opQ (mv p) l r)]
theorem DT:∀p∈qJ,(p.2.2.1,p.2.2.2.1)∈bO/\p.2.2.2.2=p.2.2.2.1/\mv p∈ql/\gz (mv p).1=true/\p.2.1=1/\(p.1∈Gr\/p.1∈([75,76,90,91,92,67,70,73]:List Nat)):=by decide+kernel
theorem Hp{w:World}{ts:List Int} {l r:List V} {p:dK} (gl:Good w ts l p.2.2.2.1 [] [] 1 0) (gr:Good w ts r p.2.2.2.2 [] [] 1 0) (x y:V) (hk:p∈qJ):
  Ev 24 76 [w.lw,row p x y,.tup l,.tup r] (w.st ts) (.tup (qL p l r)) (w.st ts)/\Good w ts (qL p l r) p.2.1 [] [] 9 0:=by
 have⟨h1,h2,h3,h4,h5,_⟩:=DT p hk
 refine⟨?_,?_⟩
 ·have ev:=CE x y (p:=mv p) gl gr h3
  refine dm gl.bJ fun c1 r1 e1=>dm gr.bJ fun c2 r2 e2=>?_
  rw[e1,e2] at ev⊢
  exact Ev.jY hk [75] 6 (f:=76) (N:=24) (st:=w.st ts) (s:=w.st ts) (vs:=fun p=>[w.lw,row p x y,.tup (.int c1:: .int p.2.2.2.1::r1),.tup (.int c2:: .int p.2.2.2.2::r2)]) (v:=fun p=> .tup (qL p (.int c1:: .int p.2.2.2.1::r1) (.int c2:: .int p.2.2.2.2::r2)))
   (S:=fun p=>[.c 1 75 [w.lw,row (mv p) x y,.tup (.int c1:: .int p.2.2.2.1::r1),.tup (.int c2:: .int p.2.2.2.2::r2)] (.tup (opQ (mv p) (.int c1:: .int p.2.2.2.1::r1) (.int c2:: .int p.2.2.2.2::r2))) (w.st ts)]) (kC 1 ev kZ) (by kernel_rfl)
 ·have og:=DS (p:=mv p) gl gr h3
  rw[h4] at og
  have hl:=ju gl h1
  have hr:=ju gr (h2▸h1)
  have hh:Good w ts (zR p.1 (iK l p.2.2.2.1) (iK r p.2.2.2.2)) 1 [] [] 6 0:=by
   unfold zR
   by_cases e:p.1=66\/p.1=69
   ·rw[if_pos e];exact(pb (k:=1) (op:=66) hl hr (by decide)).up
   ·rw[if_neg e];exact(qi hl hr).up
  have z:=qi hh og
  unfold qL Gs
  rw[h5]
  by_cases e:p.1=69
  ·rw[if_pos e];exact(pd z).up
  ·rw[if_neg e];exact z.up
noncomputable def qM (p:dK) (l r:List V):List V:=
 have t:V:= .tup [.int 16,.int 1,.tup (tY l 1 24),.tup [.int 13,.int 1,.str 74,.tup [.int 16,.int 1,.tup (tY r 1 24),.tup (iK l 24)],.int 0]]
 if p.1=75 then [.int 17,.int 24,t,.tup r,.tup l] else [.int 17,.int 24,t,.tup l,.tup r]
theorem DU:∀p∈qm,p.2=(24,1,24,24)/\p.1∈([75,76,90,91,92,67,70,73]:List Nat):=by decide
theorem IQ{w:World}{ts:List Int} {l r:List V} {p:dK} (gl:Good w ts l p.2.2.2.1 [] [] 1 0) (gr:Good w ts r p.2.2.2.2 [] [] 1 0) (x y:V) (hk:p∈qm):
  Ev 24 77 [w.lw,row p x y,.tup l,.tup r] (w.st ts) (.tup (qM p l r)) (w.st ts)/\Good w ts (qM p l r) p.2.1 [] [] 9 0:=by
 obtain⟨o,q⟩:=p
 obtain rfl:q=_:=(DU _ hk).1
 have hi:((1:Int),(24:Int))∈bO:=by decide
 refine⟨?_,?_⟩
 ·refine dm gl.bJ fun c1 r1 e1=>dm gr.bJ fun c2 r2 e2=>?_
  rw[e1,e2]
  exact Ev.jY hk [14] 6 (f:=77) (N:=24) (st:=w.st ts) (s:=w.st ts) (vs:=fun p=>[w.lw,row (p.1,24,1,24,24) x y,.tup (.int c1:: .int 24::r1),.tup (.int c2:: .int 24::r2)]) (v:=fun p=> .tup (qM (p.1,24,1,24,24) (.int c1:: .int 24::r1) (.int c2:: .int 24::r2)))
   (S:=fun p=>[eH w,.c 2 14 [.obj 2,.int 24] (.tup [.int 1]) (w.st ts),eH w,.c 2 14 [.obj 2,.int 24] (.tup [.int 1]) (w.st ts)]) (kL<|kC 2 (eJ w ts hi)<|kL<|kC 2 (eJ w ts hi) kZ) (by kernel_rfl)
 ·have t:=y7 ((lh gl hi).up (d':=5) (s':=0)) (pd (y7 (lh gr hi) (ju gl hi)))
  unfold qM
  by_cases e:o=75
  ·rw[if_pos e];exact(mL t (gr.up (d':=6) (s':=0)) (gl.up (d':=6) (s':=0))).up
  ·rw[if_neg e];exact(mL t (gl.up (d':=6) (s':=0)) (gr.up (d':=6) (s':=0))).up
theorem Bv{w:World}{f ts:List Int} {e0 aA I g:List V} {s0 s1:Nat} {N d:Nat} {n m:Int} (O:Lo 45 w f e0 n aA N d s0) (Q:Lo 45 w f I m g N d s1) (t:f<+:ts) {M:Nat} {p:List V} (hM:5*d+12<=M) (m3:ew M p) (j:p.length<=1) {C:Prop}
 (K:∀(e a ta b:List Int) (k t1 E l v q o w1 W:List V),ts<+:b->ts<+:a->a<+:b->(w.room a->Ev N 45 [w.lw,.tup I] (w.st ts) (.tup t1) (w.st e)/\Ev N 45 [w.lw,.tup e0] (w.st e) (.tup k) (w.st a))->
  (w.room b->Ev (M+8) 51 [w.lw,.tup k,.tup (.tup t1::p)] (w.st a) (.tup [.tup E,.tup v]) (w.st ta)/\Ev (M+8) 51 [w.lw,.tup t1,.tup p] (w.st ta) (.tup [.tup l,.tup q]) (w.st b))->
  Good w a k n aA o d s0->Good w a t1 m g w1 d s1->bx w ts.length a.length (o++w1)->a.length<=ts.length+(s0+s1)->
  Good w b v n [] [] 1 0->Good w b q m [] [] 1 0->dO w b (E++l) (aA++g) W (d+1) (s0+s1+2)->E.length<=1->l.length<=1->b.length<=ts.length+(s0+s1+2)->bx w ts.length b.length W->C):C:=by
 obtain⟨t1,e,w1,J,T,U,c1,k,a,o,s,Y,g0,c0,n⟩:=fV Q O t
 have i:=U.later s
 obtain⟨E,v,ta,wp,u,pn,pv,pE,pg,ps,pl,pc⟩:=iT g0 (ew.cons (gy.up i.ej hM) m3) (jI j)
 obtain⟨l,q,b,y,c,z,A,B,D,a0,G,H⟩:=iT (i.later u) m3 (pP j)
 refine K e a ta b k t1 E l v q o w1 ((wp++o)++(y++w1)) (J.trans (s.trans (u.trans c))) (J.trans s) (u.trans c) (fun r=>⟨T (rp r s),Y r⟩) (fun r=>⟨pv (rp r c),A r⟩) g0 i (bx.jj c0 c1) (nh s1 s0▸n) (pg.later c) D (((pE.later c).app B).up (aO _) (Of)) pl G (Og n pn z) ?_
 refine bx.sub ((c1.app c0).app (pc.app H)) fun x L=>?_
 simp only[dM] at L⊢
 rcases L with(h|h)|h|h
 ·exact .inr (.inr h)
 ·exact .inl (.inr h)
 ·exact .inl (.inl h)
 ·exact .inr (.inl h)
theorem EE{E a:List V} (h:E.length<=1) (h':a.length<=1):(E++a).length<=4:=by rw[dG];exact Oh h h'
theorem EA{E a:List V} (h:E.length<=1) (h':a.length<=1):E.length+a.length<=1048576:=aK (fO h h') (by decide)
noncomputable def qN (p:dK):Bool:=p.2.2.1==1&&p.1 !=76
noncomputable def zS (p:dK):Nat:=if gz p.1 then 76 else if qN p then 77 else 75
noncomputable def t5 (p:dK) (v a:List V):List V:=if gz p.1 then qL p v a else if qN p then qM p v a else opQ p v a
noncomputable def yf (p:dK) (v a:List V):List V:=if gz p.1||qN p then t5 p v a else
 [.int 17,.int p.2.1,.tup [.int 15,.int 1,.tup (iK v p.2.2.2.1),.tup (iK a p.2.2.2.2)],.tup [.int 9,.int p.2.1,.tup [.int p.2.1,.int 65,.tup []],.tup [.tup (opQ p v a)]],.tup [.int 12,.int p.2.1]]
theorem DV:∀p∈zb,p∈ql/\p.2.1=p.2.2.2.1/\(p.2.2.1,p.2.2.2.1)∈bO/\(gR p.2.2.2.2,p.2.2.2.2)∈bO/\gz p.1=false/\qN p=false/\p.1∈([75,76,90,91,92,67,70,73]:List Nat):=by decide+kernel
theorem SM:∀p∈qJ,gz p.1=true:=by decide+kernel
theorem DW:∀p∈qm,gz p.1=false/\qN p=true:=by decide+kernel
theorem DX{p:dK}{C:Prop} (d:p∈kN) (a:p∈qJ->C) (b:p∈qm->C) (c:p∈zb->C):C:=(dM.mp d).elim a fun h=>(dM.mp h).elim b c
theorem J6{w:World}{ts:List Int} {l r:List V} {p:dK} (gl:Good w ts l p.2.2.2.1 [] [] 1 0) (a:Good w ts r p.2.2.2.2 [] [] 1 0) (x y:V) (c:p∈kN):
  Ev 24 (zS p) [w.lw,row p x y,.tup l,.tup r] (w.st ts) (.tup (t5 p l r)) (w.st ts)/\Good w ts (yf p l r) p.2.1 [] [] 9 0:=by
 unfold zS yf t5
 refine DX c (fun h=>?_) (fun h=>?_) fun h=>?_
 ·rw[SM p h];exact Hp gl a x y h
 ·rw[(DW p h).1,(DW p h).2];exact IQ gl a x y h
 ·have ⟨h,d,b,f,e,i,_⟩:=DV p h
  have g:=DS gl a h
  rw[e] at g
  rw[e,i,d]
  exact⟨(CE x y gl a h).up (by decide),za ((qi (ju gl b) (ju a f)).up (d':=6) (s':=0)) g b⟩
theorem MU{w:World}{ts:List Int} {l r rl a wl wr:List V} {p:dK} {d s s':Nat} (gl:Good w ts l p.2.2.2.1 rl wl d s) (b:Good w ts r p.2.2.2.2 a wr d s') (c:p∈kN) (x y:V):
  Ev 8 78 [w.lw,row p x y,.tup l,.tup r] (w.st ts) .none (w.st ts)\/∃q,Ev 8 78 [w.lw,row p x y,.tup l,.tup r] (w.st ts) (.tup q) (w.st ts)/\Good w ts q p.2.1 (rl++a) (wl++wr) (d+3) (s+s'):=
 DX c (fun h=>have⟨e,f,_,_,g,i⟩:=DT p h;i.elim (fun h=>g▸Ho gl (f▸b) e h x y) fun h=> .inl (uv h)) (fun h=> .inl (uv (DU p h).2)) fun h=> .inl (uv (DV p h).2.2.2.2.2.2)
theorem CG{w:World}{i:List Int} {e0 aA a o:List V} {s0 s1:Nat} {N d NN dd ss:Nat} {p:dK} (T:Lo 45 w i e0 p.2.2.2.1 aA N d s0) (U:Lo 45 w i a p.2.2.2.2 o N d s1) (z:p∈kN) (Y:N+20<=NN) (hM:5*d+40<=NN) (r:d+3<=dd) (B:11<=dd) (A:s0+s1+2<=ss):Lo 45 w i [.int 27,.int p.2.1,.str p.1,.tup e0,.tup a,.int 0,.int p.2.2.1] p.2.1 (aA++o) NN dd ss:=by
 intro ts C
 refine Bv T U C (aO _) ew.nil (dt 1) fun s b ta l t t1 E u v v' w0 w1 W P p2 G e H g0 g1 c n2 gl I F J x nn cv=>?_
 have g:∀{k},k<=20->N+k<=NN:=fun h=>aK (dD h N) Y
 have y:∀{k},k<=40->5*d+k<=NN:=fun h=>aK (dD h _) hM
 have n:∀{k},k<=40->k<=NN:=fun h=>aK h (aK (cj _ _) hM)
 rcases MU g0 g1 z (.tup e0) (.tup a) with D|⟨q,D,qg⟩
 ·have ⟨L,bg⟩:=J6 gl I (.tup e0) (.tup a) z
  refine aN (jB (F.up (sr (d+1) 9) (aO _)) (EE J x) (bg.up (kh (d+1) 9) (aO 0))) fun q sv M=>?_
  rw[cP,cP] at M
  refine⟨q,l,_,P,nl nn A,fun j=>?_,M.up (Oi r B) A,cv⟩
  refine dm gl.bJ fun c1 r1 O=>dm I.bJ fun c2 r2 Q=>?_
  rw[O,Q] at L sv
  exact Ev.jY z [45,47,51,78,75,76,77] 9 (f:=45) (N:=NN) (vs:=fun p=>[w.lw,.tup [.int 27,.int p.2.1,.str p.1,.tup e0,.tup a,.int 0,.int p.2.2.1]]) (v:=fun _=> .tup q)
   (S:=fun p=>qH w (w.gs.length+91) (.inst 17 [])<|eH w:: .c 4 45 [w.lw,.tup a] (.tup t1) (w.st s)::eH w:: .c 4 45 [w.lw,.tup e0] (.tup t) (w.st b):: .c 3 78 [w.lw,row p (.tup e0) (.tup a),.tup t,.tup t1] .none (w.st b)::
    .c 3 51 [w.lw,.tup t,.tup [.tup t1]] (.tup [.tup E,.tup (.int c1:: .int p.2.2.2.1::r1)]) (w.st ta):: .c 3 51 [w.lw,.tup t1,.tup []] (.tup [.tup u,.tup (.int c2:: .int p.2.2.2.2::r2)]) (w.st l)::
    .c 3 (zS p) [w.lw,row p (.tup e0) (.tup a),.tup (.int c1:: .int p.2.2.2.1::r1),.tup (.int c2:: .int p.2.2.2.2::r2)] (.tup (t5 p (.int c1:: .int p.2.2.2.1::r1) (.int c2:: .int p.2.2.2.2::r2))) (w.st l)::
    .m (lift (gu .add (.tup E) (.tup u))) (.tup (E++u)):: .c 3 47 [.tup (E++u),.tup (yf p (.int c1:: .int p.2.2.2.1::r1) (.int c2:: .int p.2.2.2.2::r2))] (.tup q) (w.st l)::[])
   (kP (Gk w ts)<|kL<|kC 4 (e (rp j G)).1 (le:=g (by decide))<|kL<|kC 4 (e (rp j G)).2 (le:=g (by decide))<|kC 3 D (le:=n (by decide))<|kC 3 (O▸(H j).1) (le:=y (k:=23) (by decide))<|kC 3 (Q▸(H j).2) (le:=y (k:=23) (by decide))<|
    kC 3 L (le:=n (by decide))<|kM (tg E u (w.st l) (EA J x))<|kC 3 (sv (w.st l)) (le:=n (by decide)) kZ) (by kernel_rfl) (n (by decide))
 ·exact ⟨q,b,_,p2,nl n2 (aK (bE _ 2) A),fun j=>Ev.jY z [45,47,51,78,75,76,77] 9 (f:=45) (N:=NN) (vs:=fun p=>[w.lw,.tup [.int 27,.int p.2.1,.str p.1,.tup e0,.tup a,.int 0,.int p.2.2.1]]) (v:=fun _=> .tup q)
   (S:=fun p=>qH w (w.gs.length+91) (.inst 17 [])<|eH w:: .c 4 45 [w.lw,.tup a] (.tup t1) (w.st s)::eH w:: .c 4 45 [w.lw,.tup e0] (.tup t) (w.st b):: .c 3 78 [w.lw,row p (.tup e0) (.tup a),.tup t,.tup t1] (.tup q) (w.st b)::[])
   (kP (Gk w ts)<|kL<|kC 4 (e j).1 (le:=g (by decide))<|kL<|kC 4 (e j).2 (le:=g (by decide))<|kC 3 D (le:=n (by decide)) kZ) (by kernel_rfl) (n (by decide)),qg.up r (aK (bE _ 2) A),c⟩
def mw (k:Int) (t:List V):Prop:=(∃x,t=[.int 2,.int k,.int x])\/∃c q,c∈([4,5,6]:List Int)/\t= .int c:: .int k::q
theorem rT{w:World}{ts:List Int} {p v:List V} {k:Int} {rp a rd wr:List V} {d s s':Nat} (j:mw k p) (b:Good w ts p k rp a d s) (e:Good w ts v k rd wr d s'):
  ∃f,Good w ts [.int 22,.int k,.tup p,.tup v] k (rp++rd) f (d+1) (s+s'+1)/\∀x∈a++wr,x∈f:=by
 rcases j with⟨x,rfl⟩|⟨c,q,g,rfl⟩
 ·exact ⟨_,mM b e,fun y i=>by simp only[dM] at i⊢;rcases i with h|h;exact .inl (.inr h);exact .inr h⟩
 ·simp only[bP,cp,or_false] at g
  exact⟨_,(Ms g b e).up,fun _ h=>h⟩
inductive V8 (w:World) (ts:List Int) (p v:List V) (rd wr:List V) (d s:Nat):Prop
 |mk (q:List V) (m:Int) (wq:List V) (e:Ev 8 58 [w.lw,.tup p,.tup v,.int 1] (w.st ts) (.tup q) (w.st ts)) (g:Good w ts q m rd wq d s) (h:∀x∈wr,x∈wq)
inductive V9 (w:World) (ts:List Int) (p v:List V) (k:Int) (rd wr:List V) (d s:Nat):Prop
 |mk (q:List V) (tq:List Int) (wq:List V) (l:ts<+:tq) (n:tq.length<=ts.length+1) (e:w.room tq->Ev 12 58 [w.lw,.tup p,.tup v,.int 0] (w.st ts) (.tup q) (w.st tq)) (g:Good w tq q k rd wq d s) (h:∀x∈wr,x∈wq) (c:bx w ts.length tq.length wq)
structure oq (w:World) (ts:List Int) (p:List V) (k:Int) (rp wp:List V) (d s:Nat):Prop where
 dJ:∀ts',ts<+:ts'->∀{v rd wr d' s'},d<=d'->Good w ts' v k rd wr d' s'->V8 w ts' p v (rp++rd) (wp++wr) (d'+2) (s+s'+1)
 val:∀ts',ts<+:ts'->∀{v rd wr d' s'},d<=d'->Good w ts' v k rd wr d' s'->V9 w ts' p v k (rp++rd) (wp++wr) (d'+5) (s+s'+2)
theorem B1{w:World}{p:List V} {k:Int} (b:mw k p) (v:List V) (x:Int) (st:St):Ev 4 58 [w.lw,.tup p,.tup v,.int x] st (.tup [.int 22,.int k,.tup p,.tup v]) st:=by
 rcases b with⟨x,rfl⟩|⟨c,q,a,rfl⟩
 ·exact Ev.of [] 3 fun n d=>Rd
 ·simp only[bP,cp,or_false] at a
  rcases a with rfl|rfl|rfl<;>exact Ev.of [] 3 fun n d=>Rd
theorem Wa{w ts p k rp e d s} (a:mw k p) (g:Good w ts p k rp e d s):oq w ts p k rp e d s where
 dJ:=fun ts' l {v _ _ _ _} ld b=>
  have⟨c,q,h⟩:=rT a ((g.later l).up ld (aO _)) b
  ⟨_,k,c,(B1 a v 1 _).up (by decide),q.up (dZ _) (aO _),h⟩
 val:=fun ts' l {v _ _ _ _} ld b=>
  have⟨c,q,h⟩:=rT a ((g.later l).up ld (aO _)) b
  ⟨_,ts',c,dN,dZ _,fun _=>(B1 a v 0 _).up (by decide),q.up (dD (by decide) _) (dZ _),h,.nil⟩
theorem Wb{w:World}{ts:List Int} {k:Int} {x:List V}:bx w ts.length (ts++[k]).length (V.int (w.lid ts.length)::x):=fun i p q=>by
 simp only[dG,bU,hI] at q
 have:i=ts.length:=by exact CX p q
 subst this;exact .head _
theorem Zo (ts:List Int) (k:Int):(ts++[k]).length<=ts.length+1:=by rw[dG];exact aO _
theorem Fj{w:World}{ts:List Int} {p f g:List V} {d s:Nat} (S:List V->List V) (e:1<=d) (hg:∀{ts' v rd wr d' s'},ts<+:ts'->d<=d'->Good w ts' v 7 rd wr d' s'->Good w ts' (S v) 0 (f++rd) (g++wr) (d'+2) (s+s'))
  (i:∀v st,Ev 8 58 [w.lw,.tup p,.tup v,.int 1] st (.tup (S v)) st) (j:∀x st,Ev 12 58 [w.lw,.tup p,.tup [.int 1,.int 7,x],.int 0] st (.tup [.int 31,.int 7,.tup [.tup (S [.int 1,.int 7,x])],.tup [.int 1,.int 7,x]]) st)
  (k:∀ts' c r,c≠1->w.room ts'->Ev 12 58 [w.lw,.tup p,.tup (.int c:: .int 7::r),.int 0] (w.st ts') (.tup [.int 31,.int 7,.tup [.tup (S [.int 22,.int 7,.tup [.int 2,.int 7,.int (w.lid ts'.length)],.tup (.int c:: .int 7::r)])],.tup [.int 2,.int 7,.int (w.lid ts'.length)]]) (w.st (ts'++[7]))):oq w ts p 7 f g d s where
 dJ:=fun ts' l {v _ _ _ _} ld a=>⟨_,0,_,i v _,(hg l ld a).up (aO _) (dZ _),fun _ h=>h⟩
 val:=fun ts' l {v rd wr d' s'} ld a=>by
  rcases a.qB with⟨x,rfl,rfl,rfl,q,m⟩|⟨c,r,rfl,n⟩
  ·have b:=lH (hg l ld a) (m.up (d':=d'+2) (s':=0))
   simp only[cP] at b
   exact⟨_,ts',_,dN,dZ _,fun _=>j x _,by rw[cP];exact b.up,fun y h=>by rwa [cP] at h,.nil⟩
  ·have gt:=wd (w:=w) (ts:=ts') 7
   have gk:=mM (gt.up (d':=d') (s':=0) (aK e ld)) (a.later (jA ts' 7))
   have b:=lH (hg (l.trans (jA ts' 7)) (pP ld) gk) (gt.up (d':=d'+3) (s':=0))
   simp only[cP,gn] at b
   refine⟨_,ts'++[7],_,jA ts' 7,Zo ts' 7,fun o=>k ts' c r n (rp o (jA ts' 7)),b.up,fun y h=>?_,bx.inr _ Wb⟩
   exact(dM.mp h).elim (fun h=>dM.mpr (.inl h)) fun h=>dM.mpr (.inr (.tail _ h))
theorem bx.seq{w a b c x y} (h:bx w a b x) (s:∀v∈x,v∈y) (k:bx w b c y):bx w a c y:=fun i p q=>if l:i<b then s _ (h i p l) else k i (sq l) q
theorem ZF{a b:List V} (e:a=b):∀x∈a,x∈b:=e▸fun _ h=>h
theorem zc{w ts p rp a d s} (g:Good w ts p 19 rp a d s):oq w ts [.int 34,.int 7,.tup p,.tup [.int 19,.int 21,.tup []],.tup [.int 19,.int 22,.tup []],.tup [],.int 1] 7 rp a d s:=
 Fj (fun v=>[.int 8,.int 0,.tup p,.tup [.int 19,.int 22,.tup []],.tup [.tup v],.int 1]) (l1 g.dp) (fun l ld e=>Sn ((g.later l).up ld (aO _)) e) (fun v st=>Ev.of [] 4 fun n b=>Rd) (fun x st=>Ev.of [] 5 fun n b=>Ra (fi 1 st) Rd)
  fun ts' c r f h=>Ev.of [30] 5 fun n b=>Ra (lG f (w.st ts'))<|RL w ts'<|RL w ts'<|RL w ts'<|Rc 2 (rr w ts' 7 h) Rd
theorem zd{w ts p rp a d s} (g:Good w ts p 13 rp a d s):oq w ts [.int 34,.int 7,.none,.tup [.int 19,.int 23,.tup []],.tup [.int 19,.int 24,.tup []],.tup [.tup p],.int 0] 7 rp a d s:=
 Fj (fun v=>[.int 8,.int 0,.none,.tup [.int 19,.int 24,.tup []],.tup [.tup p,.tup v],.int 0]) (l1 g.dp) (fun l ld e=>Mn ((g.later l).up ld (aO _)) e) (fun v st=>Ev.of [] 4 fun n b=>Rd) (fun x st=>Ev.of [] 5 fun n b=>Ra (fi 1 st) Rd)
  fun ts' c r f h=>Ev.of [30] 5 fun n b=>Ra (lG f (w.st ts'))<|RL w ts'<|RL w ts'<|RL w ts'<|Rc 2 (rr w ts' 7 h) Rd
structure rH (w:World) (ts:List Int) (p:List V) (k:Int):Prop where
 wt:oq w ts p k [] [] 4 0
 rd:∃q,(∀st,Ev 4 57 [.tup p] st (.tup q) st)/\Good w ts q k [] [] 4 0
theorem CH{w ts p k d} (a:mw k p) (g:Good w ts p k [] [] d 0) (hd:d<=4:=by omega):rH w ts p k where
 wt:=Wa a g.up
 rd:=⟨p,fun st=>by
  rcases a with⟨x,rfl⟩|⟨c,q,b,rfl⟩
  ·exact Ev.of [] 3 fun n e=>Rd
  ·simp only[bP,cp,or_false] at b
   rcases b with rfl|rfl|rfl<;>exact Ev.of [] 3 fun n e=>Rd,g.up⟩
theorem MV{w ts p} (g:Good w ts p 19 [] [] 1 0):rH w ts [.int 34,.int 7,.tup p,.tup [.int 19,.int 21,.tup []],.tup [.int 19,.int 22,.tup []],.tup [],.int 1] 7 where
 wt:=zc g.up
 rd:=⟨_,fun st=>Ev.of [] 3 fun n a=>Rd,(DI g).up⟩
theorem MW{w ts p} (g:Good w ts p 13 [] [] 1 0):rH w ts [.int 34,.int 7,.none,.tup [.int 19,.int 23,.tup []],.tup [.int 19,.int 24,.tup []],.tup [.tup p],.int 0] 7 where
 wt:=zd g.up
 rd:=⟨_,fun st=>Ev.of [] 3 fun n a=>Rd,(Cw g).up⟩
inductive Wc (w:World) (ts:List Int) (e:List V) (rd:List V) (N d s:Nat):Prop
 |mk (t:List V) (ts':List Int) (wr:List V) (m:Int) (p:ts<+:ts') (n:ts'.length<=ts.length+s) (v:w.room ts'->Ev N 67 [w.lw,.tup e] (w.st ts) (.tup t) (w.st ts')) (g:Good w ts' t m rd wr d s) (c:bx w ts.length ts'.length wr)
def hX (w:World) (a:List Int) (e:List V) (rd:List V) (N d s:Nat):Prop:=
 ∀ts,a<+:ts->Wc w ts e rd N d s
theorem hX.up{w q e rd N d s A d' s'} (h:hX w q e rd N d s) (C:N<=A:=by first|assumption|exact aO _|exact aX rfl|omega) (hd:d<=d':=by first|assumption|exact aO _|exact aX rfl|omega) (D:s<=s':=by first|assumption|exact aO _|exact aX rfl|omega):hX w q e rd A d' s':=fun ts z=>
 have⟨t,ts',wr,m,p,n,v,g,c⟩:=h ts z
 ⟨t,ts',wr,m,p,nl n D,fun r=>(v r).up C,g.up,c⟩
theorem oU{w a c r k rd N d s NN} (e:c∈l6) (h:Lo 45 w a (.int c::r) k rd N d s) (f:N+3<=NN:=by omega):hX w a (.int c::r) rd NN d s:=fun ts b=>
 have⟨t,ts',wr,p,n,v,g,c⟩:=h ts b
 ⟨t,ts',wr,k,p,n,fun r=>(BY e (v r)).up f,g,c⟩
theorem MX{w:World}{a:List Int} {e0 aA h b:List V} {s0 s1 N d NN dd ss:Nat} {k:Int} (l:hX w a e0 aA N d s0) (o:Lo 45 w a h k b N d s1) (v:N+12<=NN) (p:d+2<=dd) (q:s0+s1<=ss):
  Lo 45 w a [.int 31,.int k,.tup [.tup e0],.tup h] k (aA++b) NN dd ss:=by
 intro ts c
 obtain⟨x,e,y,m,i,r,s,g0,c0⟩:=l ts c
 obtain⟨t1,f,w1,g,n1,t,u,c1⟩:=o e (c.trans i)
 exact⟨_,f,_,(i.trans g),fx r n1 q,fun j=>Ev.of [45,67] 9 fun n z=>RP w ts (W9 w ts)<|Rc 2 (s (rp j g))<|RL w e<|Rc 3 (t j)<|Rd,(lH (g0.later g) u).up,(c0.app c1)⟩
inductive Wd (w:World) (ts:List Int) (e:List V) (k:Int) (rd:List V) (N d s:Nat):Prop
 |mk (t:List V) (ts':List Int) (wr:List V) (p:ts<+:ts') (n:ts'.length<=ts.length+s) (v:w.room ts'->Ev N 45 [w.lw,.tup e] (w.st ts) (.tup t) (w.st ts')) (g:Good w ts' t k rd wr d s) (c:bx w ts.length ts'.length wr) (h:mw k t)
def fW (w:World) (a:List Int) (e:List V) (k:Int) (rd:List V) (N d s:Nat):Prop:=
 ∀ts,a<+:ts->Wd w ts e k rd N d s
theorem fW.up{w q e k rd N d s A d' s'} (h:fW w q e k rd N d s) (C:N<=A:=by first|assumption|exact aO _|exact aX rfl|omega) (hd:d<=d':=by first|assumption|exact aO _|exact aX rfl|omega) (D:s<=s':=by first|assumption|exact aO _|exact aX rfl|omega):fW w q e k rd A d' s':=fun ts z=>
 have⟨t,ts',wr,p,n,v,g,c,h⟩:=h ts z
 ⟨t,ts',wr,p,nl n D,fun r=>(v r).up C,g.up,c,h⟩
theorem fW.lo{w q e k rd N d s} (h:fW w q e k rd N d s):Lo 45 w q e k rd N d s:=fun ts z=>
 have⟨t,ts',wr,p,n,v,g,c,_⟩:=h ts z
 ⟨t,ts',wr,p,n,v,g,c⟩
theorem Good.Gu{w q t k rd wr d s} (g:Good w q t k rd wr d s) (A:mw k t):fW w q t k rd (5*d+12) d s:=fun ts z=>
 ⟨t,ts,wr,dN,bE ..,fun r=>g.fix ts ⟨z,r⟩,g.later z,.nil,A⟩
theorem J7{w:World}{a:List Int} {e0 aA g b:List V} {s0 s1:Nat} {N d NN dd ss:Nat} {k m:Int} (i:Lo 45 w a e0 m aA N d s0) (j:Lo 45 w a g 7 b N d s1) (l:(k,m)∈([(7,27),(9,28),(22,29),(13,30),(18,31)]:List (Int×Int))) (v:N+8<=NN:=by omega) (o:d+1<=dd:=by omega) (p:s0+s1<=ss:=by omega):fW w a [.int 6,.int k,.tup e0,.tup g] k (aA++b) NN dd ss:=by
 intro ts c
 obtain⟨x,q,y,r,s,g0,c0,t1,e,w1,f,t,u,c1,n⟩:=fV i j c
 exact⟨_,e,_,(r.trans f),nl n p,fun h=>Ev.of [45] 8 fun n z=>Rp w ts<|Rc 2 (s (rp h f))<|Rc 2 (t h)<|Rd,(v7 (g0.later f) u l).up,(c0.app c1),.inr ⟨6,_,by decide,rfl⟩⟩
theorem J8{w:World}{a:List Int} {e0 aA:List V} {s0:Nat} {N d NN dd ss:Nat} {k b:Int} (f:Lo 45 w a e0 19 aA N d s0) (hf:dj w b k) (o:N+8<=NN:=by omega) (g:d+1<=dd:=by omega) (h:s0<=ss:=by omega):fW w a [.int 4,.int k,.tup e0,.tup [.int 19,.int b]] k (aA) NN dd ss:=by
 intro ts c
 obtain⟨p,e,q,i,j,l,g0,c0⟩:=f ts c
 exact⟨_,e,_,i,nl j h,fun m=>Ev.of [45] 8 fun n r=>Rp w ts<|Rc 2 (l m)<|Rd,(v9 g0 hf).up,c0,.inr ⟨4,_,by decide,rfl⟩⟩
theorem J9{w:World}{a:List Int} {e0 aA:List V} {s0:Nat} {N d NN dd ss:Nat} {k b:Int} (f:Lo 45 w a e0 18 aA N d s0) (hf:dj w b k) (o:N+8<=NN:=by omega) (g:d+1<=dd:=by omega) (h:s0<=ss:=by omega):fW w a [.int 4,.int k,.tup e0,.tup [.int 18,.int b]] k (aA) NN dd ss:=by
 intro ts c
 obtain⟨p,e,q,i,j,l,g0,c0⟩:=f ts c
 exact⟨_,e,_,i,nl j h,fun m=>Ev.of [45] 8 fun n r=>Rp w ts<|Rc 2 (l m)<|Rd,(wc g0 hf).up,c0,.inr ⟨4,_,by decide,rfl⟩⟩
theorem Ka{w:World}{b:List Int} {k a:Int} {NN dd ss:Nat} (hf:dj w a k) (c:¬999<a) (d:22<=NN:=by omega) (hd:2<=dd:=by omega):fW w b [.int 5,.int k,.tup [.int 12,.int a]] k [] NN dd ss:=
 ((v8 hf c).Gu (.inr ⟨5,_,by decide,rfl⟩)).up
theorem MY{w:World}{a:List Int} {k x:Int} {NN dd ss:Nat} (b:∀ts',Later w a ts'->fo (w.st ts') x k) (c:22<=NN:=by omega) (hd:2<=dd:=by omega):fW w a [.int 2,.int k,.int x] k [] NN dd ss:=
 ((jF b).Gu (.inl ⟨x,rfl⟩)).up
def mY (g:List V):Prop:=∃c r,g= .int c::r/\c∈([2,4,5,6]:List Int)
theorem B2{w:World}{ts d a:List Int} {g e f t1:List V} {k:Int} {N:Nat} (hg:mY g) (h:Ev N 45 [w.lw,.tup g] (w.st ts) (.tup f) (w.st d)) (i:Ev N 45 [w.lw,.tup e] (w.st d) (.tup t1) (w.st a)):
  Ev (N+9) 45 [w.lw,.tup [.int 22,.int k,.tup g,.tup e]] (w.st ts) (.tup [.int 22,.int k,.tup f,.tup t1]) (w.st a)/\Ev (N+9) 67 [w.lw,.tup [.int 22,.int k,.tup g,.tup e]] (w.st ts) (.tup [.int 22,.int k,.tup f,.tup t1]) (w.st a):=by
 refine gp hg fun c r b j=>?_;obtain rfl:=b
 simp only[bP,cp,or_false] at j
 rcases j with rfl|rfl|rfl|rfl<;>exact⟨Ev.of [45] 9 fun n l=>RP w ts (W6 w ts)<|Rc 4 h<|Rc 4 i Rd,Ev.of [45] 9 fun n l=>Rc 3 h<|Rc 3 i Rd⟩
theorem CJ{w:World}{a:List Int} {e0 aA h b:List V} {s0 s1 N d NN dd ss:Nat} {k:Int} (hg:mY e0) (l:fW w a e0 k aA N d s0) (m:Lo 45 w a h k b N d s1) (n:N+14<=NN) (o:d+5<=dd) (p:s0+s1+2<=ss):
  Lo 45 w a [.int 22,.int k,.tup e0,.tup h] k (aA++b) NN dd ss:=by
 intro ts c
 obtain⟨z,e,A,i,q,r,g0,c0,s⟩:=l ts c
 obtain⟨t1,f,w1,g,n1,t,u,c1⟩:=m e (c.trans i)
 refine aN (rT s (g0.later g) u) fun v x y=>?_
 exact⟨_,f,v,(i.trans g),fx q n1 (aK (bE _ 2) p),fun j=>(B2 hg (r (rp j g)) (t j)).1.up (aK (dD (by decide) N) n),x.up,(c0.app c1).sub y⟩
theorem B3{w:World}{a:List Int} {e0 aA h b:List V} {s0 s1 N d NN dd ss:Nat} {k:Int} (hg:mY e0) (l:fW w a e0 k aA N d s0) (m:Lo 45 w a h k b N d s1) (n:N+14<=NN) (o:d+5<=dd) (p:s0+s1+2<=ss):
  hX w a [.int 22,.int k,.tup e0,.tup h] (aA++b) NN dd ss:=by
 intro ts c
 obtain⟨z,e,A,i,q,r,g0,c0,s⟩:=l ts c
 obtain⟨t1,f,w1,g,n1,t,u,c1⟩:=m e (c.trans i)
 refine aN (rT s (g0.later g) u) fun v x y=>?_
 exact⟨_,f,v,k,(i.trans g),fx q n1 (aK (bE _ 2) p),fun j=>(B2 hg (r (rp j g)) (t j)).2.up (aK (dD (by decide) N) n),x.up,(c0.app c1).sub y⟩
theorem MZ{w:World}{a:List Int} {e0 aA k b:List V} {s0 s1 N d NN dd ss:Nat} (m:Lo 45 w a e0 19 aA N d s0) (o:Lo 45 w a k 7 b N d s1) (C:N+20<=NN) (c:d+5<=dd) (l:s0+s1+2<=ss):
  Lo 45 w a [.int 22,.int 7,.tup [.int 34,.int 7,.tup e0,.tup [.int 19,.int 21,.tup []],.tup [.int 19,.int 22,.tup []],.tup [],.int 1],.tup k] 7 (aA++b) NN dd ss:=by
 intro ts e
 obtain⟨D,f,E,p,r,g0,c0,t1,g,w1,h,s,t,c1,n⟩:=fV m o e
 obtain⟨q,u,v,i,x,y,z,A,B⟩:=(zc (g0.later h)).val g dN (aO _) t
 exact⟨q,u,v,(p.trans h).trans i,fx n x (lT l),fun j=>Ev.of [45,58] 9 fun n G=>RP w ts (W6 w ts)<|Rc 4 (r (rp j (h.trans i)))<|RL w f<|Rc 4 (s (rp j i))<|Rc 3 (y j) Rd,z.up c l,(c0.app c1).seq A B⟩
theorem Kb{w:World}{a:List Int} {e0 aA i b:List V} {s0 s1 N d NN dd ss:Nat} (l:Lo 45 w a e0 19 aA N d s0) (o:Lo 45 w a i 7 b N d s1) (z:N+20<=NN) (e:d+5<=dd) (j:s0+s1+2<=ss):
  hX w a [.int 22,.int 7,.tup [.int 34,.int 7,.tup e0,.tup [.int 19,.int 21,.tup []],.tup [.int 19,.int 22,.tup []],.tup [],.int 1],.tup i] (aA++b) NN dd ss:=by
 intro ts f
 obtain⟨A,g,B,p,r,g0,c0,t1,c,w1,h,s,t,c1,n⟩:=fV l o f
 obtain⟨q,m,u,v,x,y⟩:=(zc (g0.later h)).dJ c dN (aO _) t
 exact⟨q,c,u,m,p.trans h,nl n (aK (bE _ 2) j),fun k=>Ev.of [45,58] 9 fun n C=>Rc 3 (r (rp k h))<|RL w g<|Rc 3 (s k)<|Rc 2 v Rd,x.up (aK (dD (by decide) d) e) (lT j),(c0.app c1).sub y⟩
theorem M3{w:World}{a:List Int} {e0 aA k b:List V} {s0 s1 N d NN dd ss:Nat} (m:Lo 45 w a e0 13 aA N d s0) (o:Lo 45 w a k 7 b N d s1) (C:N+20<=NN) (c:d+5<=dd) (l:s0+s1+2<=ss):
  Lo 45 w a [.int 22,.int 7,.tup [.int 34,.int 7,.none,.tup [.int 19,.int 23,.tup []],.tup [.int 19,.int 24,.tup []],.tup [.tup e0],.int 0],.tup k] 7 (aA++b) NN dd ss:=by
 intro ts e
 obtain⟨D,f,E,p,r,g0,c0,t1,g,w1,h,s,t,c1,n⟩:=fV m o e
 obtain⟨q,u,v,i,x,y,z,A,B⟩:=(zd (g0.later h)).val g dN (aO _) t
 exact⟨q,u,v,(p.trans h).trans i,fx n x (lT l),fun j=>Ev.of [45,58] 9 fun n G=>RP w ts (W6 w ts)<|Rc 4 (r (rp j (h.trans i)))<|RL w f<|Rc 4 (s (rp j i))<|Rc 3 (y j) Rd,z.up c l,(c0.app c1).seq A B⟩
theorem Kc{w:World}{a:List Int} {e0 aA i b:List V} {s0 s1 N d NN dd ss:Nat} (l:Lo 45 w a e0 13 aA N d s0) (o:Lo 45 w a i 7 b N d s1) (z:N+20<=NN) (e:d+5<=dd) (j:s0+s1+2<=ss):
  hX w a [.int 22,.int 7,.tup [.int 34,.int 7,.none,.tup [.int 19,.int 23,.tup []],.tup [.int 19,.int 24,.tup []],.tup [.tup e0],.int 0],.tup i] (aA++b) NN dd ss:=by
 intro ts f
 obtain⟨A,g,B,p,r,g0,c0,t1,c,w1,h,s,t,c1,n⟩:=fV l o f
 obtain⟨q,m,u,v,x,y⟩:=(zd (g0.later h)).dJ c dN (aO _) t
 exact⟨q,c,u,m,p.trans h,nl n (aK (bE _ 2) j),fun k=>Ev.of [45,58] 9 fun n C=>Rc 3 (r (rp k h))<|RL w g<|Rc 3 (s k)<|Rc 2 v Rd,x.up (aK (dD (by decide) d) e) (lT j),(c0.app c1).sub y⟩
theorem Ke{w:World}{a:List Int} {e0 aA:List V} {s0:Nat} {N d NN dd ss:Nat} (e:Lo 45 w a e0 19 aA N d s0) (l:N+14<=NN) (f:d+2<=dd) (g:s0<=ss):Lo 45 w a [.int 34,.int 7,.tup e0,.tup [.int 19,.int 21,.tup []],.tup [.int 19,.int 22,.tup []],.tup [],.int 1] 7 (aA) NN dd ss:=by
 intro ts b
 obtain⟨m,c,o,h,i,j,g0,c0⟩:=e ts b
 exact⟨_,c,_,h,nl i g,fun k=>Ev.of [45] 9 fun n p=>RP w ts (W8 w ts)<|Rc 3 (j k) Rd,(DI g0).up,c0⟩
theorem Kf{w:World}{a:List Int} {e0 aA:List V} {s0:Nat} {N d NN dd ss:Nat} (e:Lo 45 w a e0 13 aA N d s0) (l:N+14<=NN) (f:d+2<=dd) (g:s0<=ss):Lo 45 w a [.int 34,.int 7,.none,.tup [.int 19,.int 23,.tup []],.tup [.int 19,.int 24,.tup []],.tup [.tup e0],.int 0] 7 (aA) NN dd ss:=by
 intro ts b
 obtain⟨m,c,o,h,i,j,g0,c0⟩:=e ts b
 exact⟨_,c,_,h,nl i g,fun k=>Ev.of [45] 9 fun n p=>RP w ts (W8 w ts)<|Rc 3 (j k) Rd,(Cw g0).up,c0⟩
inductive We (w:World) (ts:List Int) (goal:List V) (k:Int) (rd:List V) (N d s:Nat) (e3:List V):Prop
 |mk (E:List V) (p:List V) (ts':List Int) (wr:List V) (q:ts<+:ts') (n:ts'.length<=ts.length+s) (v:w.room ts'->Ev (N+24) 53 [w.lw,.tup goal,.tup [.tup e3]] (w.st ts) (.tup [.tup E,.tup p]) (w.st ts')) (e:dO w ts' E rd wr (d+1) s) (l:E.length<=2) (h:rH w ts' p k) (c:bx w ts.length ts'.length wr)
def Pin (w:World) (a:List Int) (goal:List V) (k:Int) (rd:List V) (N d s:Nat):Prop:=
 ∀ts,a<+:ts->∀b,gy N b->We w ts goal k rd N d s b
inductive SN (w:World) (ts:List Int) (goal:List V) (k:Int) (rd:List V) (N d s:Nat) (e3:List V):Prop
 |mk (E:List V) (p:List V) (ts':List Int) (wr:List V) (q:ts<+:ts') (n:ts'.length<=ts.length+s) (v:w.room ts'->Ev (N+20) 53 [w.lw,.tup goal,.tup [.tup e3]] (w.st ts) (.tup [.tup E,.tup p]) (w.st ts')) (e:dO w ts' E rd wr (d+1) s) (l:E.length<=2) (h:mw k p) (g:Good w ts' p k [] [] 2 0) (c:bx w ts.length ts'.length wr)
def kQ (w:World) (a:List Int) (goal:List V) (k:Int) (rd:List V) (N d s:Nat):Prop:=
 ∀ts,a<+:ts->∀b,gy N b->SN w ts goal k rd N d s b
theorem kQ.pin{w q goal k rd N d s} (h:kQ w q goal k rd N d s):Pin w q goal k rd N d s:=fun ts z A m=>
 have⟨E,p,ts',wr,a,b,v,e,l,C,g,c⟩:=h ts z A m
 ⟨E,p,ts',wr,a,b,fun r=>(v r).up (dD (by decide) N),e,l,CH C g,c⟩
theorem Kg{w:World}{a:List Int} {e0 aA i b:List V} {s0 s1 N d NN ss:Nat} {k m:Int} (r:Lo 45 w a e0 m aA N d s0) (s:Lo 45 w a i 7 b N d s1) (t:(k,m)∈([(7,27),(9,28),(22,29),(13,30),(18,31)]:List (Int×Int)))
  (B:N<=NN:=by omega) (hM:5*d+12<=NN:=by omega) (j:s0+s1+2<=ss:=by omega):kQ w a [.int 6,.int k,.tup e0,.tup i] k (aA++b) NN d ss:=by
 intro ts g C m3
 refine Bv r s g hM (ew.cons m3 .nil) (aO 1) fun h x ta l D t1 E y v G H w1 W P I o u p g0 J c n2 gl z F q e A cv=>?_
 refine⟨_,_,l,_,P,nl A j,fun f=>Ev.of [45,51] 9 fun n L=>?_,F.up (aO _) j,by rw[dG];exact fO q e,.inr ⟨6,_,by decide,rfl⟩,v7 gl z t,cv⟩
 exact RL w ts<|Rc 2 (u (rp f o)).1<|RL w h<|Rc 2 (u (rp f o)).2<|Rc 1 (p f).1<|Rc 1 (p f).2<|Ra (tg E y (w.st l) (EA q e)) Rd
def lM (e:List V):Prop:=∀w:World,∀ts,Ev 8 55 [w.lw,.tup e] (w.st ts) (.bool false) (w.st ts)
theorem dx{c:Int}{r:List V} (h:c≠19):lM (.int c::r):=fun w ts=>Ev.of [] 6 fun n a=>Ra (Cz h (w.st ts)) Rd
theorem j4{k x:V} {v:Int} {r:List V} (h:v≠4):lM (.int 19::k::x:: .int v::r):=fun w ts=>Ev.of [] 6 fun n a=>Ra (MS 19 (w.st ts))<|Ra (Cz h (w.st ts)) Rd
def Form (k:Int) (e:List V):Prop:=∃c r,e= .int c:: .int k::r
theorem Kh{w:World}{b:List Int} {e0 aA:List V} {s0 N d NN ss:Nat} {k e:Int} (l:Lo 45 w b e0 19 aA N d s0) (f:Form 19 e0) (m:lM e0) (hf:dj w e k)
  (z:N<=NN:=by omega) (h:s0+1<=ss:=by omega):kQ w b [.int 4,.int k,.tup e0,.tup [.int 19,.int e]] k aA NN d ss:=by
 intro ts g A m3
 obtain⟨B,o,C,p,q,s,g0,c0⟩:=l ts g
 obtain⟨E,v,ta,D,i,pn,t,u,x,ps,pl,y⟩:=iT g0 (ew.cons m3 .nil) (dZ 1)
 refine dm f fun c r a=>?_;obtain rfl:=a
 refine⟨_,_,ta,_,p.trans i,fx q pn h,fun j=>Ev.of [45,51,55] 9 fun n G=>?_,u.up (aO _) h,pP pl,.inr ⟨4,_,by decide,rfl⟩,v9 x hf,bx.jj y c0⟩
 exact RL w ts<|Rc 2 (m w ts)<|RL w ts<|Rc 3 (s (rp j i))<|Rc 2 (t j) Rd
theorem Ki{w:World}{b:List Int} {k a:Int} {NN d ss:Nat} (hf:dj w a k) (c:¬999<a):kQ w b [.int 5,.int k,.tup [.int 12,.int a]] k [] NN d ss:=fun ts e f m3=>
 ⟨[],_,ts,[],dN,bE ..,fun _=>Ev.of [] 5 fun n g=>Rd,.nil,dt _,.inr ⟨5,_,by decide,rfl⟩,v8 hf c,.nil⟩
theorem M4{w:World}{a:List Int} {k x:Int} {NN d ss:Nat} (c:∀ts',Later w a ts'->fo (w.st ts') x k):kQ w a [.int 2,.int k,.int x] k [] NN d ss:=fun ts b f m3=>
 ⟨[],_,ts,[],dN,bE ..,fun _=>Ev.of [] 5 fun n g=>Rd,.nil,dt _,.inl ⟨x,rfl⟩,(jF fun q e=>c q (.of b e)).up,.nil⟩
theorem Kj{w:World}{h:List Int} {e0 aA:List V} {s0 N d:Nat} {k i:Int} (o:kQ w h e0 18 aA N d s0) (j:Form 18 e0) (hf:dj w i k):Pin w h [.int 4,.int k,.tup e0,.tup [.int 18,.int i]] k aA N d s0:=by
 intro ts m q m3
 obtain⟨E,p,ts',wr,a,b,v,e,l,t,g,c⟩:=o ts m q m3
 refine dm j fun _ r f=>?_;obtain rfl:=f
 exact⟨E,_,ts',wr,a,b,fun s=>Ev.of [53] 9 fun n u=>RL w ts<|Rc 2 (v s) Rd,e,l,CH (.inr ⟨4,_,by decide,rfl⟩) (wc g hf),c⟩
theorem IS{w:World}{b:List Int} {e0 aA:List V} {s0 N d NN ss:Nat} (j:Lo 45 w b e0 19 aA N d s0) (e:Form 19 e0) (k:lM e0)
  (x:N<=NN:=by omega) (g:s0+1<=ss:=by omega):Pin w b [.int 34,.int 7,.tup e0,.tup [.int 19,.int 21,.tup []],.tup [.int 19,.int 22,.tup []],.tup [],.int 1] 7 aA NN d ss:=by
 intro ts f y m3
 obtain⟨z,l,A,m,o,p,g0,c0⟩:=j ts f
 obtain⟨E,v,ta,B,h,pn,q,s,t,ps,pl,u⟩:=iT g0 (ew.cons m3 .nil) (dZ 1)
 refine dm e fun c r a=>?_;obtain rfl:=a
 refine⟨E,_,ta,_,m.trans h,fx o pn g,fun i=>Ev.of [45,51,55] 9 fun n C=>?_,s.up (aO _) g,pP pl,MV t,bx.jj u c0⟩
 exact RL w ts<|Rc 3 (k w ts)<|RL w ts<|Rc 4 (p (rp i h))<|Rc 3 (q i) Rd
theorem IT{w:World}{a:List Int} {e0 aA:List V} {s0 N d NN ss:Nat} (g:Lo 45 w a e0 13 aA N d s0)
  (q:N<=NN:=by omega) (c:s0+1<=ss:=by omega):Pin w a [.int 34,.int 7,.none,.tup [.int 19,.int 23,.tup []],.tup [.int 19,.int 24,.tup []],.tup [.tup e0],.int 0] 7 aA NN d ss:=by
 intro ts b r m3
 obtain⟨s,h,t,i,j,k,g0,c0⟩:=g ts b
 obtain⟨E,v,ta,u,e,pn,l,m,o,ps,pl,p⟩:=iT g0 (ew.cons m3 .nil) (dZ 1)
 refine⟨E,_,ta,_,i.trans e,fx j pn c,fun f=>Ev.of [45,51] 9 fun n x=>?_,m.up (aO _) c,pP pl,MW o,bx.jj p c0⟩
 exact RL w ts<|Rc 3 (k (rp f e))<|Rc 2 (l f)<|Ra (tg [] E (w.st ta) (aK (bt (dq _)) (aK pl (by decide)))) Rd
def iL (w:World) (b:List Int) (c:List V) (k:Int) (rd:List V) (N d s:Nat):Prop:=
 ∀a,b<+:a->∀r,Good w a r k [] [] 4 0->∃x,(∀st,Ev N 34 [.tup c,.tup r] st (.tup x) st)/\Lo 45 w a x k rd N d s
def lj (goal:List V):Prop:=∀(w:World) ts k a x,Ev 8 61 [w.lw,.tup [.int 23,.int k,.tup goal,.tup a,.int x]] (w.st ts) (.bool false) (w.st ts)
theorem Fm{g} (h:mY g):lj g:=fun w ts k d x=>by
 refine gp h fun c r a b=>?_;obtain rfl:=a
 simp only[bP,cp,or_false] at b
 rcases b with rfl|rfl|rfl|rfl<;>exact Ev.of [] 6 fun n e=>Rd
theorem Wf{a b c d:V}:lj [.int 34,.int 7,.none,a,b,c,d]:=fun w ts k e x=>Ev.of [] 6 fun n f=>Rd
theorem Wg{e:List V} (hf:Form 19 e) {a b c d:V}:lj [.int 34,.int 7,.tup e,a,b,c,d]:=fun w ts k g x=>by
 refine dm hf fun _ _ f=>?_;obtain rfl:=f
 exact Ev.of [] 6 fun n h=>RL w ts Rd
inductive CV (w:World) (ts:List Int) (g e3:List V) (k:Int) (fg gT:List V) (N d s0 s1:Nat):Prop
 |mk (E p q y t3 w0 w3:List V) (bI cH:List Int) (p0:ts<+:bI) (p3:bI<+:cH) (v0:w.room cH->Ev (N+24) 53 [w.lw,.tup g,.tup [.tup e3]] (w.st ts) (.tup [.tup E,.tup p]) (w.st bI)) (qv:∀st,Ev 4 57 [.tup p] st (.tup q) st) (yv:∀st,Ev N 34 [.tup e3,.tup q] st (.tup y) st)
  (v3:w.room cH->Ev N 45 [w.lw,.tup y] (w.st bI) (.tup t3) (w.st cH)) (F:dO w cH E fg w0 (d+1) s0) (l:E.length<=4) (wt:oq w bI p k [] [] 4 0) (g3:Good w cH t3 k gT w3 (max d 4) s1) (c0:bx w ts.length bI.length w0) (c3:bx w bI.length cH.length w3) (n:cH.length<=ts.length+(s0+s1))
theorem yg{w:World}{a ts:List Int} {g c h e:List V} {k:Int} {N d s0 s1:Nat} (hg:Pin w a g k c N d s0) (m:iL w a h k e N d s1) (hm:gy N h) (f:a<+:ts):CV w ts g h k c e N d s0 s1:=by
 obtain⟨E,p,b,n,l,o,s,t,pl,pk,c0⟩:=hg ts f h hm
 refine aN pk.rd fun q qv u=>?_
 refine aN (m b (f.trans l) q u) fun y v x=>?_
 obtain⟨z,i,A,j,n3,B,C,c3⟩:=x b dN
 exact⟨E,p,q,y,z,n,A,b,i,l,j,fun r=>s (rp r j),qv,v,B,t.later j,aK pl (by decide),pk.wt,C.up (sr ..) (aO _),c0,c3,fx o n3 (aO _)⟩
theorem Kk{w:World}{fX:List Int} {g fg e3 gT:List V} {k:Int} {N d s0 s1 NN dd ss:Nat} (hg:Pin w fX g k fg N d s0) (h3:iL w fX e3 k gT N d s1) (hm:gy N e3) (hp:lj g) (hN:N+30<=NN) (zT:d+5+2<=dd) (zU:11<=dd) (hs:s0+s1+5<=ss):
  Lo 45 w fX [.int 23,.int k,.tup g,.tup e3,.int 0] k (fg++gT) NN dd ss:=by
 intro ts lp
 obtain⟨E,p,q,y,t3,w0,w3,bI,cH,p0,p3,v0,qv,yv,v3,F,l,wt,g3,c0,c3,n⟩:=yg hg h3 hm lp
 obtain⟨r,tq,wq,pq,nq,rv,rg,hw,cq⟩:=wt.val cH p3 (kh ..) g3
 refine aN (jB ((F.later pq).up (d':=max (d+1) (max d 4+5)) (s':=s0)) l (rg.up (d':=max (d+1) (max d 4+5)) (s':=s1+2))) fun z sv sg=>?_
 exact⟨z,tq,_,(p0.trans p3).trans pq,by exact Ot hs n nq,fun hR=>Ev.of [34,45,47,53,57,58,61] 9 fun n hn=>RP w ts (W7 w ts)<|Rc 3 (hp w ts k e3 0)<|Rc 4 (v0 (rp hR pq))<|Rc 4 (qv (w.st bI))<|RL w bI<|Rc 4 (yv (w.st bI))<|Rc 5 (v3 (rp hR pq))<|Rc 4 (rv hR)<|Rc 4 (sv (w.st tq)) Rd,sg.up,c0.app (c3.seq hw cq)⟩
theorem Kl{w:World}{fX:List Int} {g fg e3 gT:List V} {k:Int} {N d s0 s1 NN dd ss:Nat} (hg:Pin w fX g k fg N d s0) (h3:iL w fX e3 k gT N d s1) (hm:gy N e3) (hp:lj g) (hN:N+30<=NN) (zT:d+5+2<=dd) (zU:11<=dd) (hs:s0+s1+5<=ss):
  Lo 45 w fX [.int 23,.int k,.tup g,.tup e3,.int 1] k (fg++gT) NN dd ss:=by
 intro ts lp
 obtain⟨E,p,bI,w0,p0,n0,v0,pE,pl,pk,c0⟩:=hg ts lp e3 hm
 refine aN pk.rd fun q qv qg=>?_
 have pt:=jA bI k
 have go:=wd (w:=w) (ts:=bI) k
 refine aN (h3 (bI++[k]) ((lp.trans p0).trans pt) _ (go.up (d':=4) (s':=0))) fun y yv yl=>?_
 obtain⟨t3,cH,w3,p3,n3,v3,g3,c3⟩:=yl (bI++[k]) dN
 obtain⟨r,m,wq,rv,rg,hw⟩:=pk.wt.dJ cH (pt.trans p3) (kh d 4) (g3.up (d':=max d 4) (s':=s1))
 have Zp:∀x∈w3,x∈wq:=hw
 have ga:=mM (go.up (d':=4) (s':=0)) (qg.later pt)
 simp only[dG,bU,hI] at n3
 have F:=((pE.later (pt.trans p3)).up (d':=max (d+1) (max d 4+2)) (s':=s0)).app (.cons (ga.up (d':=max (d+1) (max d 4+2)) (s':=1)|>.later p3) (.one (rg.up (d':=max (d+1) (max d 4+2)) (s':=s1+2))))
 have sg:=DN F (by simp) (by simp only[dG,bU,hI];exact Ox pl) ((go.later p3).up (d':=max (d+1) (max d 4+2)) (s':=0))
 simp only[cP,gn] at sg
 refine dm qg.bJ fun qc qr M6=>?_;obtain rfl:=M6
 refine⟨_,cH,_,(p0.trans pt).trans p3,by exact Oz hs n0 n3,fun hR=>Ev.of [30,34,45,47,53,57,58,61] 9 fun n hn=>?_,sg.up,?_⟩
 ·exact RP w ts (W7 w ts)<|Rc 3 (hp w ts k e3 1)<|Rc 4 (v0 (rp hR (pt.trans p3)))<|Rc 4 (qv (w.st bI))<|RL w bI<|RL w bI<|RL w bI<|Rc 5 (rr w bI k (rp hR (pt.trans p3)))<|RL w (bI++[k])<|Rc 4 (yv (w.st (bI++[k])))<|Rc 5 (v3 hR)<|Rc 4 rv<|Ra (tg E [.tup [.int 22,.int k,.tup [.int 2,.int k,.int (w.lid bI.length)],.tup (.int qc:: .int k::qr)],.tup r] (w.st cH) (by simp only[bU,hI];exact OD pl)) Rd
 ·intro i a b
  by_cases h:i<bI.length
  ·simp only[dM];exact .inl (c0 i a h)
  ·by_cases h':i=bI.length
   ·subst h';simp
   ·simp only[dM];exact .inr (.inr (Zp _ (c3 i (by simp only[dG,bU,hI];exact OE h h') b)))
theorem IU{w:World}{fX:List Int} {g fg e3 gT:List V} {k:Int} {N d s0 s1 NN dd ss:Nat} (hg:Pin w fX g k fg N d s0) (h3:iL w fX e3 k gT N d s1) (hm:gy N e3) (hp:lj g) (hN:N+30<=NN) (zT:d+5+2<=dd) (zU:11<=dd) (hs:s0+s1+5<=ss):
  hX w fX [.int 23,.int k,.tup g,.tup e3,.int 0] (fg++gT) NN dd ss:=by
 intro ts lp
 obtain⟨E,p,q,y,t3,w0,w3,bI,cH,p0,p3,v0,qv,yv,v3,F,l,wt,g3,c0,c3,n⟩:=yg hg h3 hm lp
 obtain⟨r,m,wq,rv,rg,hw⟩:=wt.dJ cH p3 (kh ..) g3
 refine aN (jB (F.up (d':=max (d+1) (max d 4+2)) (s':=s0)) l (rg.up (d':=max (d+1) (max d 4+2)) (s':=s1+2))) fun z sv sg=>?_
 exact⟨z,cH,_,m,p0.trans p3,by exact CZ hs n,fun hR=>Ev.of [34,45,47,53,57,58,61] 9 fun n hn=>Rc 2 (hp w ts k e3 0)<|Rc 3 (v0 hR)<|Rc 3 (qv (w.st bI))<|RL w bI<|Rc 3 (yv (w.st bI))<|Rc 4 (v3 hR)<|Rc 3 rv<|Rc 3 (sv (w.st cH)) Rd,sg.up,c0.app (c3.sub hw)⟩
theorem IV{w:World}{fX:List Int} {g fg e3 gT:List V} {k:Int} {N d s0 s1 NN dd ss:Nat} (hg:Pin w fX g k fg N d s0) (h3:iL w fX e3 k gT N d s1) (hm:gy N e3) (hp:lj g) (hN:N+30<=NN) (zT:d+5+2<=dd) (zU:11<=dd) (hs:s0+s1+5<=ss):
  hX w fX [.int 23,.int k,.tup g,.tup e3,.int 1] (fg++gT) NN dd ss:=by
 intro ts lp
 obtain⟨E,p,q,y,t3,w0,w3,bI,cH,p0,p3,v0,qv,yv,v3,F,l,wt,g3,c0,c3,n⟩:=yg hg h3 hm lp
 obtain⟨r,m,wq,rv,rg,hw⟩:=wt.dJ cH p3 (kh ..) g3
 refine aN (jB (F.up (d':=max (d+1) (max d 4+2)) (s':=s0)) l (rg.up (d':=max (d+1) (max d 4+2)) (s':=s1+2))) fun z sv sg=>?_
 exact⟨z,cH,_,m,p0.trans p3,by exact CZ hs n,fun hR=>Ev.of [34,45,47,53,57,58,61] 9 fun n hn=>Rc 2 (hp w ts k e3 1)<|Rc 3 (v0 hR)<|Rc 3 (qv (w.st bI))<|RL w bI<|Rc 3 (yv (w.st bI))<|Rc 4 (v3 hR)<|Rc 3 rv<|Rc 3 (sv (w.st cH)) Rd,sg.up,c0.app (c3.sub hw)⟩
section
structure cB (e rd:List V) (N s:Nat):Prop where
 jr:rd.length<=1000000->∀st,Ev N 117 [.tup e] st (.lst rd) st
 ir:bT rd
 rl:rd.length<=s
 ej:gy N e
def cI (N:Nat) (e r x:List V):Prop:=∀st,Ev N 34 [.tup e,.tup r] st (.tup x) st
theorem cB.up{e rd N s q s'} (h:cB e rd N s) (z:N<=q:=by omega) (A:s<=s':=by omega):cB e rd q s':=⟨fun l st=>(h.jr l st).up z,h.ir,aK h.rl A,h.ej.up z⟩
theorem cI.up{e r x N q} (h:cI N e r x) (z:N<=q:=by omega):cI q e r x:=fun st=>(h st).up z
theorem Good.cR{w ts t k rd wr d s} (g:Good w ts t k rd wr d s):cB t rd (5*d+12) s:=⟨g.jr,g.ir,aK (bE ..) g.sz,g.ej⟩
theorem ve (k:Int) (r:List V):cI 8 [.int 32,.int k] r r:=fun st=>Ev.of [] 5 fun n a=>Rd
inductive hU (N:Nat):List Kd->Prop
 |nil:hU N []
 |cons {t rd:List V} {s:Nat} {l:List Kd} (h:cB t rd N s) (a:hU N l):hU N (⟨t,rd,[],s⟩::l)
theorem hU.all{N:Nat}{ks:List Kd} (G:hU N ks):∀q∈ks,cB q.t q.rd N q.s:=by
 induction G with
 |nil=>exact fun _ h=>nomatch h
 |cons h _ ih=>exact fun q z=>(bP.mp z).elim (fun e=>e▸h) (ih q)
theorem hU.ir{N:Nat}{ks:List Kd} (G:hU N ks):∀{a:List V},bT a->bT (kR a ks):=by
 induction G with
 |nil=>exact fun h=>h
 |cons h _ ih=>exact fun k=>ih (k.app h.ir)
theorem hU.sz{N:Nat}{ks:List Kd} (G:hU N ks):∀{a:List V} {x:Nat},a.length<=x->(kR a ks).length<=gx x ks:=by
 induction G with
 |nil=>exact fun h=>h
 |@cons t rd s l h _ ih=>exact fun{a x} q=>ih (a:=a++rd) (by rw[dG];exact fO q h.rl)
theorem SO:∀ks:List Kd,sm ks=gx 0 ks
 |[]=>rfl
 |q::l=>by show gx q.s l=gx (0+q.s) l;rw[dq]
noncomputable def t6 (c:Int):Bool:= !(c==2||c==20||c==5)
theorem M7{c:Int} (h:t6 c=true):c≠2/\c≠20/\c≠5:=by
 refine⟨?_,?_,?_⟩<;>(rintro rfl;exact aL h)
theorem iM{c:Int}{T:List V} {ks:List Kd} {N NN ss:Nat} (e:t6 c=true) (G:hU N ks) (a:ks.length<=1000) (hK:KF (.int c::T) ks) (f:LF (.int c::T) ks) (g:N+8<=NN) (i:12<=NN) (j:sm ks<=ss):cB (.int c::T) (kR [] ks) NN ss:=
 have o:=M7 e
 have b:9<=NN:=aK (by decide) i
 have d:N+1<=NN:=aK (dD (by decide) N) g
 ⟨yY (fun q h=>(G.all q h).jr) f a (fun m st=>p9 o.2.2 _ st) d b,G.ir bT.nil,aK (G.sz (aO 0)) (SO ks▸j),E7 (fun q h=>(G.all q h).ej) hK a d b (o9 o.1 o.2.1)⟩
theorem zV{c:Int}{T:List V} (a:t6 c=true) (hK:KF (.int c::T) []) (b:LF (.int c::T) []):cB (.int c::T) [] 12 0:=
 iM (N:=0) a .nil (dt _) hK b (by decide) (by decide) (aO 0)
theorem Bw{α:Type}{g x:α->List V} {n:Nat} {st:St} {r t u:V} {sl:Slot}:∀(l:List α),(∀p∈l,run PP n 34 [.tup (g p),r] st=some (.tup (x p),st))->
  ((l.map fun p=>V.tup (g p)).mapM fun v=>aG (Kn n) ([.v t,.v r,.v u,sl].set 3 (.v v)) (.call 34 [.lc 3,.lc 1])) st=some (l.map fun p=>V.tup (x p),st)
 |[],_=>rfl
 |p::l,h=>by
  rw[eV,pK]
  have e:aG (Kn n) ([.v t,.v r,.v u,sl].set 3 (.v (.tup (g p)))) (.call 34 [.lc 3,.lc 1]) st=some (.tup (x p),st):=h p (.head _)
  show(aG (Kn n) ([.v t,.v r,.v u,sl].set 3 (.v (.tup (g p)))) (.call 34 [.lc 3,.lc 1]) st).bind _=_
  rw[e]
  show((List.mapM (m:=M) (fun v=>aG (Kn n) ([.v t,.v r,.v u,sl].set 3 (.v v)) (.call 34 [.lc 3,.lc 1])) (l.map fun p=>V.tup (g p))) st).bind _=_
  rw[Bw l fun p h'=>h p (.tail _ h')];rfl
abbrev Pq:=List V×List V
noncomputable def eT (ks:List Pq):List V:=ks.map fun p=> .tup p.1
noncomputable def xT (ks:List Pq):List V:=ks.map fun p=> .tup p.2
inductive eY (N:Nat) (r:List V):List Pq->Prop
 |nil:eY N r []
 |cons {e x:List V} {l:List Pq} (h:cI N e r x) (a:eY N r l):eY N r ((e,x)::l)
theorem eY.all{N:Nat}{r:List V} {ks:List Pq} (G:eY N r ks):∀p∈ks,cI N p.1 r p.2:=by
 induction G with
 |nil=>exact fun _ h=>nomatch h
 |cons h _ ih=>exact fun q z=>(bP.mp z).elim (fun e=>e▸h) (ih q)
theorem jw{c:Int}{T d r e0 x0:List V} {ks:List Pq} {N NN:Nat} (f:c≠32/\c≠23) (G:eY N r ((e0,x0)::ks)) (j:ks.length<=1000) (hK:∀st m,run PP (m+6) 32 [.tup (.int c::T)] st=some (.tup (eT ((e0,x0)::ks)),st))
  (k:∀st m,run PP (m+6) 33 [.tup (.int c::T),.lst (xT ((e0,x0)::ks))] st=some (.tup d,st)) (h:N+8<=NN):cI NN (.int c::T) r d:=by
 intro st n i
 obtain⟨m,rfl,hm⟩:∃m,n=m+7/\N<=m+6:=⟨n-7,by exact OG h i,by exact OH h i⟩
 have q:run PP (m+7) 34 [.tup (.int c::T),.tup r]=tl (Kn (m+6)) [.v (.tup (.int c::T)),.v (.tup r),.un,.un] ([.iff (.cm .eq (.ix (.lc 0) (.cn (.int 0))) (.cn (.int 32))) [.ret (.lc 1)] []]++([.iff (.cm .eq (.ix (.lc 0) (.cn (.int 0))) (.cn (.int 23))) [.ret (.bn .add (.bn .add (.eP (.lc 0) (.cn (.int 2))) (.tp [.call 34 [.ix (.lc 0) (.cn (.int 2)),.lc 1]])) (.fU (.lc 0) (.cn (.int 3))))] []]++([.asg 2 (.call 32 [.lc 0])]++([.iff (.nt (.lc 2)) [.ret (.lc 0)] []]++[.ret (.call 33 [.lc 0,.comp (.call 34 [.lc 3,.lc 1]) 3 (.lc 2)])])))):=by kernel_rfl
 have hl:(eT ((e0,x0)::ks)).length<=1048576:=by rw[eT,eU,bU];exact OI j
 have c1:aG (Kn (m+6)) [.v (.tup (.int c::T)),.v (.tup r),.un,.un] (.call 32 [.lc 0]) st=some (.tup (eT ((e0,x0)::ks)),st):=hK st m
 rw[q,fw,kJ ((mV (a:=c) (b:=32) rfl rfl).trans (by rw[beq_eq_false_iff_ne.mpr f.1]))]
 show tl (Kn (m+6)) _ _ st=_
 rw[fw,kJ ((mV (a:=c) (b:=23) rfl rfl).trans (by rw[beq_eq_false_iff_ne.mpr f.2]))]
 show tl (Kn (m+6)) _ _ st=_
 rw[fw,o8 c1]
 show tl (Kn (m+6)) [.v (.tup (.int c::T)),.v (.tup r),.v (.tup (eT ((e0,x0)::ks))),.un] _ st=_
 rw[fw,kJ (DC rfl hl)]
 have c2:aG (Kn (m+6)) [.v (.tup (.int c::T)),.v (.tup r),.v (.tup (eT ((e0,x0)::ks))),.un] (.comp (.call 34 [.lc 3,.lc 1]) 3 (.lc 2)) st=some (.lst (xT ((e0,x0)::ks)),st):=
  Ct rfl hl (Bw (g:=fun p:Pq=>p.1) (x:=fun p:Pq=>p.2) ((e0,x0)::ks) fun p l=>G.all p l st _ hm)
 have e:aG (Kn (m+6)) [.v (.tup (.int c::T)),.v (.tup r),.v (.tup (eT ((e0,x0)::ks))),.un] (.call 33 [.lc 0,.comp (.call 34 [.lc 3,.lc 1]) 3 (.lc 2)]) st=some (.tup d,st):=by
  show((((aG (Kn (m+6)) [.v (.tup (.int c::T)),.v (.tup r),.v (.tup (eT ((e0,x0)::ks))),.un] (.comp (.call 34 [.lc 3,.lc 1]) 3 (.lc 2)) st).bind _:Option _).bind _:Option _).bind _:Option _)=_
  rw[c2]
  exact k st m
 exact DB e
theorem vf (k:Int):cB [.int 32,.int k] [] 12 0:=zV rfl (fun _ _=>by kernel_rfl) (fun _ _=>by kernel_rfl)
theorem SP{e0 aA b a:List V} {N NN ss s0 s1:Nat} {k:Int} (c:cB e0 aA N s0) (d:cB b a N s1) (e:N+8<=NN) (f:12<=NN) (g:s0+s1<=ss):cB [.int 22,.int k,.tup e0,.tup b] (aA++a) NN ss:=
 iM (ks:=[⟨e0,aA,[],s0⟩,⟨b,a,[],s1⟩]) rfl (.cons c (.cons d .nil)) (aX rfl) (fun _ _=>by kernel_rfl) (fun _ _=>by kernel_rfl) e f g
theorem SQ{e0 x0 a x1 r:List V} {N NN:Nat} {k:Int} (b:cI N e0 r x0) (c:cI N a r x1) (d:N+8<=NN):cI NN [.int 22,.int k,.tup e0,.tup a] r [.int 22,.int k,.tup x0,.tup x1]:=
 jw (by decide) (.cons b (.cons c .nil)) (aX rfl) (fun _ _=>by kernel_rfl) (fun _ _=>by kernel_rfl) d
theorem si{e0 aA:List V} {N NN ss s0:Nat} {k c:Int} (a:cB e0 aA N s0) (b:N+8<=NN) (d:12<=NN) (e:s0<=ss):cB [.int 19,.int k,.tup e0,.int c,.int 0] (aA) NN ss:=
 iM (ks:=[⟨e0,aA,[],s0⟩]) rfl (.cons a .nil) (aX rfl) (fun _ _=>by kernel_rfl) (fun _ _=>by kernel_rfl) b d e
theorem sj{e0 x0 r:List V} {N NN:Nat} {k c:Int} (a:cI N e0 r x0) (b:N+8<=NN):cI NN [.int 19,.int k,.tup e0,.int c,.int 0] r [.int 19,.int k,.tup x0,.int c,.int 0]:=
 jw (by decide) (.cons a .nil) (aX rfl) (fun _ _=>by kernel_rfl) (fun _ _=>by kernel_rfl) b
theorem SU{e0 aA b a:List V} {N NN ss s0 s1:Nat} {k i:Int} {o:V} (c:cB e0 aA N s0) (d:cB b a N s1) (e:N+8<=NN) (f:12<=NN) (g:s0+s1<=ss):cB [.int 27,.int k,o,.tup e0,.tup b,.int 0,.int i] (aA++a) NN ss:=
 iM (ks:=[⟨e0,aA,[],s0⟩,⟨b,a,[],s1⟩]) rfl (.cons c (.cons d .nil)) (aX rfl) (fun _ _=>by kernel_rfl) (fun _ _=>by kernel_rfl) e f g
theorem SV{e0 x0 a x1 r:List V} {N NN:Nat} {k i:Int} {o:V} (b:cI N e0 r x0) (c:cI N a r x1) (d:N+8<=NN):cI NN [.int 27,.int k,o,.tup e0,.tup a,.int 0,.int i] r [.int 27,.int k,o,.tup x0,.tup x1,.int 0,.int i]:=
 jw (by decide) (.cons b (.cons c .nil)) (aX rfl) (fun _ _=>by kernel_rfl) (fun _ _=>by kernel_rfl) d
theorem DY{e0 aA b a:List V} {N NN ss s0 s1:Nat} {k:Int} {o:V} (c:cB e0 aA N s0) (d:cB b a N s1) (e:N+8<=NN) (f:12<=NN) (g:s0+s1<=ss):cB [.int 14,.int k,o,.tup e0,.tup b,.int 0] (aA++a) NN ss:=
 iM (ks:=[⟨e0,aA,[],s0⟩,⟨b,a,[],s1⟩]) rfl (.cons c (.cons d .nil)) (aX rfl) (fun _ _=>by kernel_rfl) (fun _ _=>by kernel_rfl) e f g
theorem DZ{e0 x0 a x1 r:List V} {N NN:Nat} {k:Int} {o:V} (b:cI N e0 r x0) (c:cI N a r x1) (d:N+8<=NN):cI NN [.int 14,.int k,o,.tup e0,.tup a,.int 0] r [.int 14,.int k,o,.tup x0,.tup x1,.int 0]:=
 jw (by decide) (.cons b (.cons c .nil)) (aX rfl) (fun _ _=>by kernel_rfl) (fun _ _=>by kernel_rfl) d
theorem yh{e0 aA:List V} {N NN ss s0:Nat} {x y:Int} (c:cB e0 aA N s0) (f:N+8<=NN) (g:12<=NN) (i:s0<=ss):cB [.int 20,.int 1,.tup e0,.int x,.int y] (aA) NN ss:=by
 have hK:KF [.int 20,.int 1,.tup e0,.int x,.int y] [⟨e0,aA,[],s0⟩]:=fun _ _=>by kernel_rfl
 refine⟨yY (ks:=[⟨e0,aA,[],s0⟩]) (N:=N) (fun q h=>(hU.all (.cons c .nil) q h).jr) (fun _ _=>by kernel_rfl) (aX rfl) (fun m st=>p9 (by decide) _ st) (OJ f) (OK g),c.ir,aK c.rl i,fun st lid=>?_⟩
 refine cE (c.ej st lid) fun b0 d=>?_
 cases hz:(y==lid) with
 |true=>exact⟨true,Ev.of [32,48] 9 fun n e=>Ra (lG (a:=20) (b:=2) (by decide) st)<|Ra (fi 20 st)<|Ra ((kK y lid st).trans (by rw[hz]))<|Rd⟩
 |false=>cases b0 with
  |true=>exact⟨true,Ev.of [32,48] 9 fun n e=>Ra (lG (a:=20) (b:=2) (by decide) st)<|Ra (fi 20 st)<|Ra ((kK y lid st).trans (by rw[hz]))<|Rc 1 (hK.ev st)<|Rc 1 d Rd⟩
  |false=>exact⟨false,Ev.of [32,48] 9 fun n e=>Ra (lG (a:=20) (b:=2) (by decide) st)<|Ra (fi 20 st)<|Ra ((kK y lid st).trans (by rw[hz]))<|Rc 1 (hK.ev st)<|Rc 1 d Rd⟩
theorem yi{e0 x0 r:List V} {N NN:Nat} {x y:Int} (a:cI N e0 r x0) (b:N+8<=NN):cI NN [.int 20,.int 1,.tup e0,.int x,.int y] r [.int 20,.int 1,.tup x0,.int x,.int y]:=
 jw (by decide) (.cons a .nil) (aX rfl) (fun _ _=>by kernel_rfl) (fun _ _=>by kernel_rfl) b
theorem M8{e0 aA:List V} {N NN ss s0:Nat} {a b:V} (c:cB e0 aA N s0) (d:N+8<=NN) (e:12<=NN) (f:s0<=ss):cB [.int 34,.int 7,.tup e0,a,b,.tup [],.int 1] (aA) NN ss:=
 iM (ks:=[⟨e0,aA,[],s0⟩]) rfl (.cons c .nil) (aX rfl) (fun _ _=>by kernel_rfl) (fun _ _=>by kernel_rfl) d e f
theorem M9{e0 x0 r:List V} {N NN:Nat} {a b:V} (c:cI N e0 r x0) (d:N+8<=NN):cI NN [.int 34,.int 7,.tup e0,a,b,.tup [],.int 1] r [.int 34,.int 7,.tup x0,a,b,.tup [],.int 1]:=
 jw (by decide) (.cons c .nil) (aX rfl) (fun _ _=>by kernel_rfl) (fun _ _=>by kernel_rfl) d
theorem Na{e0 aA:List V} {N NN ss s0:Nat} {a b:V} (c:cB e0 aA N s0) (d:N+8<=NN) (e:12<=NN) (f:s0<=ss):cB [.int 34,.int 7,.none,a,b,.tup [.tup e0],.int 0] (aA) NN ss:=
 iM (ks:=[⟨e0,aA,[],s0⟩]) rfl (.cons c .nil) (aX rfl) (fun _ _=>by kernel_rfl) (fun _ _=>by kernel_rfl) d e f
theorem Nb{e0 x0 r:List V} {N NN:Nat} {a b:V} (c:cI N e0 r x0) (d:N+8<=NN):cI NN [.int 34,.int 7,.none,a,b,.tup [.tup e0],.int 0] r [.int 34,.int 7,.none,a,b,.tup [.tup x0],.int 0]:=
 jw (by decide) (.cons c .nil) (aX rfl) (fun _ _=>by kernel_rfl) (fun _ _=>by kernel_rfl) d
theorem Wh{e0 aA b a:List V} {N NN ss s0 s1:Nat} {k:Int} (c:cB e0 aA N s0) (d:cB b a N s1) (e:N+8<=NN) (f:12<=NN) (g:s0+s1<=ss):cB [.int 6,.int k,.tup e0,.tup b] (aA++a) NN ss:=
 iM (ks:=[⟨e0,aA,[],s0⟩,⟨b,a,[],s1⟩]) rfl (.cons c (.cons d .nil)) (aX rfl) (fun _ _=>by kernel_rfl) (fun _ _=>by kernel_rfl) e f g
theorem Wi{e0 x0 a x1 r:List V} {N NN:Nat} {k:Int} (b:cI N e0 r x0) (c:cI N a r x1) (d:N+8<=NN):cI NN [.int 6,.int k,.tup e0,.tup a] r [.int 6,.int k,.tup x0,.tup x1]:=
 jw (by decide) (.cons b (.cons c .nil)) (aX rfl) (fun _ _=>by kernel_rfl) (fun _ _=>by kernel_rfl) d
theorem Fo{e0 aA:List V} {N NN ss s0:Nat} {k:Int} {o:V} (a:cB e0 aA N s0) (b:N+8<=NN) (c:12<=NN) (d:s0<=ss):cB [.int 4,.int k,.tup e0,o] (aA) NN ss:=
 iM (ks:=[⟨e0,aA,[],s0⟩]) rfl (.cons a .nil) (aX rfl) (fun _ _=>by kernel_rfl) (fun _ _=>by kernel_rfl) b c d
theorem Fp{e0 x0 r:List V} {N NN:Nat} {k:Int} {o:V} (a:cI N e0 r x0) (b:N+8<=NN):cI NN [.int 4,.int k,.tup e0,o] r [.int 4,.int k,.tup x0,o]:=
 jw (by decide) (.cons a .nil) (aX rfl) (fun _ _=>by kernel_rfl) (fun _ _=>by kernel_rfl) b
theorem SW{e0 aA b a:List V} {N NN ss s0 s1:Nat} {k x:Int} (c:cB e0 aA N s0) (d:cB b a N s1) (e:N+8<=NN) (f:12<=NN) (g:s0+s1<=ss):cB [.int 23,.int k,.tup e0,.tup b,.int x] (aA++a) NN ss:=
 iM (ks:=[⟨e0,aA,[],s0⟩,⟨b,a,[],s1⟩]) rfl (.cons c (.cons d .nil)) (aX rfl) (fun _ _=>by kernel_rfl) (fun _ _=>by kernel_rfl) e f g
theorem SX{e0 x0 a r:List V} {N NN:Nat} {k x:Int} (b:cI N e0 r x0) (c:N+8<=NN):cI NN [.int 23,.int k,.tup e0,.tup a,.int x] r [.int 23,.int k,.tup x0,.tup a,.int x]:=fun st=>
 Ev.of [34] 8 fun n d=>Rc 1 (b st)<|Rd
theorem Pin.up{w q g k rd N d d' s} (h:Pin w q g k rd N d s) (l:d<=d'):Pin w q g k rd N d' s:=fun ts z A m=>
 have⟨E,p,ts',wr,a,b,v,e,l',pk,c⟩:=h ts z A m
 ⟨E,p,ts',wr,a,b,v,e.up,l',pk,c⟩
theorem iL.up{w q C k rd N d d' s} (h:iL w q C k rd N d s) (l:d<=d'):iL w q C k rd N d' s:=fun z A r g=>
 have⟨x,v,lo⟩:=h z A r g
 ⟨x,v,lo.up⟩
structure cT (w w':World):Prop where
 gs:w.gs<+:w'.gs
 fd:∀Gv k,dj w Gv k->dj w' Gv k
theorem cT.refl (w:World):cT w w:=⟨dN,fun _ _ h=>h⟩
theorem cT.trans{a b c:World} (h:cT a b) (k:cT b c):cT a c:=⟨h.gs.trans k.gs,fun f x y=>k.fd f x (h.fd f x y)⟩
structure Src (w:World) (e:List V) (k:Int) (rd:List V) (N d s:Nat):Prop where
 hY:Form k e
 t7:k=19->lM e
 cR:cB e rd N s
 eo:∀r,cI N e r e
 low:∀w',cT w w'->Lo 45 w' [] e k rd N d s
 dJ:∀w',cT w w'->hX w' [] e rd N d s
theorem Src.later{w A e k rd N d s} (h:Src w e k rd N d s) (l:cT w A):Src A e k rd N d s:=⟨h.hY,h.t7,h.cR,h.eo,fun q z=>h.low q (l.trans z),fun q z=>h.dJ q (l.trans z)⟩
theorem Src.up{w e k rd N d s A d' s'} (h:Src w e k rd N d s) (C:N<=A:=by omega) (hd:d<=d':=by omega) (D:s<=s':=by omega):Src w e k rd A d' s':=
 ⟨h.hY,h.t7,h.cR.up,fun r=>(h.eo r).up,fun q z=>(h.low q z).up,fun q z=>(h.dJ q z).up⟩
structure Lv (N d s:Nat):Prop where
 a:60<=N
 b:4<=d
 c:10<=s
 e:5*d+20<=N
 f:s<=10000
structure f5 (w:World) (g:List V) (k:Int) (rd:List V) (N d s:Nat):Prop where
 hY:Form k g
 cR:cB g rd (N+20) (3*s)
 eo:∀r,cI (N+20) g r g
 qO:lj g
 asg:∀w',cT w w'->∀e1 qP,Lo 45 w' [] e1 k qP N d s->Lo 45 w' [] [.int 22,.int k,.tup g,.tup e1] k (rd++qP) (N+60) (d+14) (10*s)
 Fq:∀w',cT w w'->∀e1 qP,Lo 45 w' [] e1 k qP N d s->hX w' [] [.int 22,.int k,.tup g,.tup e1] (rd++qP) (N+60) (d+14) (10*s)
 pin:∀w',cT w w'->Pin w' [] g k rd (N+30) d (3*s)
structure SVal (w:World) (e3:List V) (k:Int) (rd:List V) (N d s:Nat):Prop where
 cR:cB e3 rd (N+30) (3*s)
 Gw:∀w',cT w w'->∃D,D<=d+7/\iL w' [] e3 k rd (N+30) D (3*s)
theorem nk{a b n:Nat} (h:Nat.ble a b=true):n+a<=n+b:=dD (aX h) n
section
variable {N d s:Nat} (hl:Lv N d s)
include hl
theorem Lv.m4:s+s+s+s<=10*s:=by exact OM
theorem Lv.Zq:3*s+3*s<=10*s:=by exact ON
theorem Lv.Zr:3*s+s<=10*s:=by exact OO
theorem Lv.Gx:s+2<=10*s:=by have:=hl.c;exact OP this
theorem Lv.ou:s+s+2<=10*s:=by have:=hl.c;exact OQ this
theorem Lv.m3:s+s+s<=10*s:=aK (bE _ s) hl.m4
theorem Lv.m2:s+s<=10*s:=aK (bE _ s) hl.m3
theorem Lv.m1:s<=10*s:=aK (bE _ s) hl.m2
theorem Lv.t8:s+1<=10*s:=aK (dZ _) hl.Gx
theorem Lv.t9:s+s+1<=10*s:=aK (dZ _) hl.ou
theorem Lv.n5:5*d+40<=N+60:=by have:=hl.e;exact OS this
theorem tu{w:World}{c k:Int} {T rd:List V} (g:l6.contains c=true) (nb:k=19->lM (.int c:: .int k::T)) (h:cB (.int c:: .int k::T) rd (N+20) (10*s)) (pl:∀r,cI (N+20) (.int c:: .int k::T) r (.int c:: .int k::T))
  (lo:∀e,cT w e->Lo 45 e [] (.int c:: .int k::T) k rd (N+60) (d+14) (10*s)):Src w (.int c:: .int k::T) k rd (N+64) (d+14) (10*s):=
 ⟨⟨_,_,rfl⟩,nb,h.up (nk rfl) (aO _),fun r=>(pl r).up (nk rfl),fun e f=>(lo e f).up (nk rfl),fun e f=>oU (lR.mp g) (lo e f) (nk (a:=63) (b:=64) rfl)⟩
inductive kS (w:World) (N d s:Nat):List (List V×List V)->Prop
 |nil:kS w N d s []
 |cons {e rd:List V} {k:Int} {l:List (List V×List V)} (h:Src w e k rd N d s) (a:kS w N d s l):kS w N d s ((e,rd)::l)
noncomputable def lq (s:Nat) (q:List (List V×List V)):List Kd:=q.map fun p=>⟨p.1,p.2,[],s⟩
omit hl in
theorem kS.u{w:World}{q:List (List V×List V)} (h:kS w N d s q):hU N (lq s q):=by
 induction h with
 |nil=>exact .nil
 |cons h _ ih=>exact .cons h.cR ih
omit hl in
theorem kS.x{w:World}{q:List (List V×List V)} (h:kS w N d s q) (r:List V):eY N r (q.map fun p=>(p.1,p.1)):=by
 induction h with
 |nil=>exact .nil
 |cons h _ ih=>exact .cons (h.eo r) ih
noncomputable def tN (c:Int):Bool:=l6.contains c&&(t6 c&&(c !=32&&c !=23))
theorem sN{w:World}{c k:Int} {T:List V} {p:List V×List V} {q:List (List V×List V)} (G:kS w N d s (p::q)) (e:sm (lq s (p::q))<=10*s) (f:tN c=true) (nb:k=19->lM (.int c:: .int k::T))
  (hK:KF (.int c:: .int k::T) (lq s (p::q))) (g:LF (.int c:: .int k::T) (lq s (p::q))) (h:∀st m,run PP (m+6) 33 [.tup (.int c:: .int k::T),.lst (xT ((p::q).map fun p=>(p.1,p.1)))] st=some (.tup (.int c:: .int k::T),st)) (a:Nat.ble q.length 10=true)
  (lo:∀b,cT w b->Lo 45 b [] (.int c:: .int k::T) k (kR [] (lq s (p::q))) (N+60) (d+14) (10*s)):Src w (.int c:: .int k::T) k (kR [] (lq s (p::q))) (N+64) (d+14) (10*s):=
 have⟨i,j⟩:=cf f
 have⟨l,n⟩:=cf j
 have⟨o,t⟩:=cf n
 have a:=aX a
 tu hl i nb (iM l G.u (by rw[lq,eU];exact jI (aK a (by decide))) hK g (nk rfl) (lz rfl) e)
  (fun r=>jw ⟨bne_iff_ne.mp o,bne_iff_ne.mp t⟩ (G.x r) (by rw[eU];exact aK a (by decide)) (fun st m=>(hK st m).trans (by simp[kT,lq,eT]<;>rfl)) h (nk rfl)) lo
end
theorem xO{w g k c e rd N d s} (hl:Lv N d s) (hg:f5 w g k c N d s) (h:Src w e k rd N d s):Src w [.int 22,.int k,.tup g,.tup e] k (c++rd) (N+64) (d+14) (10*s):=by
 exact⟨⟨_,_,rfl⟩,fun _=>dx (by decide),SP (N:=N+20) (NN:=N+64) (ss:=10*s) hg.cR (h.cR.up (bE _ _) (aO _)) (nk (n:=N) (a:=28) (b:=64) rfl) (lz rfl) hl.Zr,fun r=>(SQ (N:=N+20) (NN:=N+64) (hg.eo r) ((h.eo r).up (bE _ _)) (nk (n:=N) (a:=28) (b:=64) rfl)),fun f i=>(hg.asg f i e rd (h.low f i)).up (nk rfl),fun f i=>(hg.Fq f i e rd (h.low f i)).up (nk rfl)⟩
theorem Nc{w g k fg e rd N d s} (hl:Lv N d s) (hg:f5 w g k fg N d s) (h:SVal w e k rd N d s) {x:Int} (hx:x=0\/x=1):Src w [.int 23,.int k,.tup g,.tup e,.int x] k (fg++rd) (N+64) (d+14) (10*s):=by
 have⟨_,_,_,_,_⟩:=hl
 refine⟨⟨_,_,rfl⟩,fun _=>dx (by decide),(SW (N:=N+30) (NN:=N+64) (ss:=10*s) (hg.cR.up (nk rfl) (aO _)) h.cR (nk (n:=N) (a:=38) (b:=64) rfl) (lz rfl) hl.Zq),fun r=>SX (N:=N+20) (hg.eo r) (nk (n:=N) (a:=28) (b:=64) rfl),fun w' hw=>?_,fun w' hw=>?_⟩
 ·refine aN (h.Gw w' hw) fun D hD hv=>?_
  have pn:Pin w' [] g k fg (N+30) (max d D) (3*s):=(hg.pin w' hw).up (C0)
  have hv:iL w' [] e k rd (N+30) (max d D) (3*s):=hv.up (C3)
  rcases hx with rfl|rfl
  ·exact Kk pn hv h.cR.ej hg.qO (nk (n:=N) (a:=60) (b:=64) rfl) (r6 hD) (lz rfl) (by exact r8 (by assumption))
  ·exact Kl pn hv h.cR.ej hg.qO (nk (n:=N) (a:=60) (b:=64) rfl) (r6 hD) (lz rfl) (by exact r8 (by assumption))
 ·refine aN (h.Gw w' hw) fun D hD hv=>?_
  have pn:Pin w' [] g k fg (N+30) (max d D) (3*s):=(hg.pin w' hw).up (C0)
  have hv:iL w' [] e k rd (N+30) (max d D) (3*s):=hv.up (C3)
  rcases hx with rfl|rfl
  ·exact IU pn hv h.cR.ej hg.qO (nk (n:=N) (a:=60) (b:=64) rfl) (r6 hD) (lz rfl) (by exact r8 (by assumption))
  ·exact IV pn hv h.cR.ej hg.qO (nk (n:=N) (a:=60) (b:=64) rfl) (r6 hD) (lz rfl) (by exact r8 (by assumption))
theorem Nd{w:World}{e0 aA c a e b:List V} {N d s:Nat} {k:Int} (hl:Lv N d s) (h:Src w e0 1 aA N d s) (i:Src w c k a N d s) (j:Src w e k b N d s):Src w [.int 17,.int k,.tup e0,.tup c,.tup e] k (aA++a++b) (N+64) (d+14) (10*s):=
 sN hl (q:=[(c,a),(e,b)]) (.cons h (.cons i (.cons j .nil))) hl.m3 rfl (fun _=>dx (by decide)) (fun _ _=>by kernel_rfl) (fun _ _=>by kernel_rfl) (fun _ _=>by kernel_rfl) rfl fun f g=>MB (h.low f g) (i.low f g) (j.low f g) (nk rfl) (nk rfl) hl.m3
theorem SY{w:World}{e0 aA b a:List V} {N d s:Nat} {k m:Int} (hl:Lv N d s) (c:Src w e0 m aA N d s) (e:Src w b k a N d s):Src w [.int 31,.int k,.tup [.tup e0],.tup b] k (aA++a) (N+64) (d+14) (10*s):=
 sN hl (q:=[(b,a)]) (.cons c (.cons e .nil)) hl.m2 rfl (fun _=>dx (by decide)) (fun _ _=>by kernel_rfl) (fun _ _=>by kernel_rfl) (fun _ _=>by kernel_rfl) rfl fun f g=>MX (c.dJ f g) (e.low f g) (nk rfl) (nk rfl) hl.m2
theorem Nf{w:World}{e0 aA:List V} {N d s:Nat} {i k:Int} (hl:Lv N d s) (a:Src w e0 i aA N d s) (b:(i,k)∈bO):Src w [.int 19,.int k,.tup e0,.int 6,.int 0] k (aA) (N+64) (d+14) (10*s):=
 sN hl (q:=[]) (.cons a .nil) hl.m1 rfl (fun _=>j4 (by decide)) (fun _ _=>by kernel_rfl) (fun _ _=>by kernel_rfl) (fun _ _=>by kernel_rfl) rfl fun c e=>MD (a.low c e) b (nk rfl) (nk rfl) hl.m1
theorem S0{w:World}{e0 aA:List V} {N d s:Nat} {i k:Int} (hl:Lv N d s) (a:Src w e0 k aA N d s) (b:(i,k)∈bO):Src w [.int 19,.int i,.tup e0,.int 7,.int 0] i (aA) (N+64) (d+14) (10*s):=
 sN hl (q:=[]) (.cons a .nil) hl.m1 rfl (fun _=>j4 (by decide)) (fun _ _=>by kernel_rfl) (fun _ _=>by kernel_rfl) (fun _ _=>by kernel_rfl) rfl fun c e=>Sr (a.low c e) b (nk rfl) (nk rfl) hl.m1
theorem S1{w:World}{e0 aA:List V} {N d s:Nat} {m k:Int} (hl:Lv N d s) (a:Src w e0 m aA N d s) (b:(m,k)∈ji):Src w [.int 19,.int k,.tup e0,.int 1,.int 0] k (aA) (N+64) (d+14) (10*s):=
 sN hl (q:=[]) (.cons a .nil) hl.m1 rfl (fun _=>j4 (by decide)) (fun _ _=>by kernel_rfl) (fun _ _=>by kernel_rfl) (fun _ _=>by kernel_rfl) rfl fun c e=>yd (a.low c e) b (nk rfl) (nk rfl) hl.m1
theorem S2{w:World}{e0 aA:List V} {N d s:Nat} {m k:Int} (hl:Lv N d s) (a:Src w e0 m aA N d s) (b:(m,k)∈ti):Src w [.int 19,.int k,.tup e0,.int 2,.int 0] k (aA) (N+64) (d+14) (10*s):=
 sN hl (q:=[]) (.cons a .nil) hl.m1 rfl (fun _=>j4 (by decide)) (fun _ _=>by kernel_rfl) (fun _ _=>by kernel_rfl) (fun _ _=>by kernel_rfl) rfl fun c e=>Ss (a.low c e) b (nk rfl) (nk rfl) hl.m1
theorem S3{w:World}{e0 aA:List V} {N d s:Nat} {m k:Int} (hl:Lv N d s) (a:Src w e0 m aA N d s) (b:(m,k)∈tj):Src w [.int 19,.int k,.tup e0,.int 3,.int 0] k (aA) (N+64) (d+14) (10*s):=
 sN hl (q:=[]) (.cons a .nil) hl.m1 rfl (fun _=>j4 (by decide)) (fun _ _=>by kernel_rfl) (fun _ _=>by kernel_rfl) (fun _ _=>by kernel_rfl) rfl fun c e=>Su (a.low c e) b (nk rfl) (nk rfl) hl.m1
theorem yj{w:World}{e0 aA:List V} {N d s:Nat} {m k:Int} (hl:Lv N d s) (a:Src w e0 m aA N d s) (b:(m,k)∈hQ):Src w [.int 19,.int k,.tup e0,.int 5,.int 0] k (aA) (N+64) (d+14) (10*s):=
 sN hl (q:=[]) (.cons a .nil) hl.m1 rfl (fun _=>j4 (by decide)) (fun _ _=>by kernel_rfl) (fun _ _=>by kernel_rfl) (fun _ _=>by kernel_rfl) rfl fun c e=>Sy (a.low c e) b (nk rfl) (nk rfl) hl.m1
theorem S4{w:World}{e0 aA:List V} {N d s:Nat} {m:Int} (hl:Lv N d s) (a:Src w e0 m aA N d s) (b:(m,12)∈qj):Src w [.int 19,.int 12,.tup e0,.int 4,.int 0] 12 (aA) (N+64) (d+14) (10*s):=
 sN hl (q:=[]) (.cons a .nil) hl.m1 rfl (fun h=>absurd h (by decide)) (fun _ _=>by kernel_rfl) (fun _ _=>by kernel_rfl) (fun _ _=>by kernel_rfl) rfl fun c e=>Sw (a.low c e) b (nk rfl) (nk rfl) hl.m1
theorem S5{w:World}{e0 aA:List V} {N d s:Nat} {i o n k:Int} (hl:Lv N d s) (a:Src w e0 n aA N d s) (b:(o,n)∈bO) (c:(i,k)∈bO) (ho:o∈([7,9,16,17]:List Int)) (e:i∈([7,9,16,17]:List Int)):Src w [.int 19,.int k,.tup e0,.int 9,.int 0,.int 1] k (aA) (N+64) (d+14) (10*s):=
 sN hl (q:=[]) (.cons a .nil) hl.m1 rfl (fun _=>j4 (by decide)) (fun _ _=>by kernel_rfl) (fun _ _=>by kernel_rfl) (fun _ _=>by kernel_rfl) rfl fun f g=>SD (a.low f g) b c ho e (nk rfl) (nk rfl) hl.t8
theorem Wj{w:World}{e0 aA:List V} {N d s:Nat} {i k:Int} {op:Nat} (hl:Lv N d s) (a:Src w e0 k aA N d s) (b:(i,k)∈bO) (ho:(i,op)∈([(1,74),(7,89),(9,89),(16,89),(17,89)]:List (Int×Nat))):Src w [.int 28,.int k,.str op,.tup e0,.int 0] k (aA) (N+64) (d+14) (10*s):=
 sN hl (q:=[]) (.cons a .nil) hl.m1 rfl (fun _=>dx (by decide)) (fun _ _=>by kernel_rfl) (fun _ _=>by kernel_rfl) (fun _ _=>by kernel_rfl) rfl fun c e=>V2 (a.low c e) b ho (nk rfl) (nk rfl) hl.t8
theorem Wk{w:World}{e0 aA:List V} {N d s:Nat} {m x:Int} (hl:Lv N d s) (a:Src w e0 m aA N d s) (hm:m∈cY\/m∈eb) (b:x=23\/x∈iJ):Src w [.int 20,.int 1,.tup e0,.int x,.int 0] 1 (aA) (N+64) (d+14) (10*s):=
 tu hl rfl (fun _=>dx (by decide)) (yh a.cR (nk rfl) (lz rfl) hl.m1) (fun r=>yi (a.eo r) (nk rfl)) fun c e=>V5 (a.low c e) hm b (nk rfl) (nk rfl) hl.m1
theorem S6{w:World}{e0 aA:List V} {N d s:Nat} {m k:Int} {j:Nat} (hl:Lv N d s) (b:Src w e0 m aA N d s) (hm:m∈cY\/m∈eb) (e:k∈([13,19]:List Int)) (f:∀a,cT w a->∀ts',Later a [] ts'->fo (a.st ts') (Int.ofNat (j+1)) k):Src w [.int 20,.int 1,.tup e0,.int k,.int (Int.ofNat (j+1))] 1 (aA) (N+64) (d+14) (10*s):=
 tu hl rfl (fun _=>dx (by decide)) (yh b.cR (nk rfl) (lz rfl) hl.m1) (fun r=>yi (b.eo r) (nk rfl)) fun a c=>SE (b.low a c) hm e (f a c) (nk rfl) (nk rfl) hl.t8
theorem S7{w:World}{e0 aA:List V} {N d s:Nat} {m k:Int} {j:Nat} (hl:Lv N d s) (b:Src w e0 m aA N d s) (hm:m∈cY\/m∈eb) (c:m∈cY->(m,k)∈hQ) (e:k∈nR) (g:∀a,cT w a->∀ts',Later a [] ts'->fo (a.st ts') (Int.ofNat (j+1)) k):Src w [.int 20,.int 1,.tup e0,.int k,.int (Int.ofNat (j+1))] 1 (aA) (N+64) (d+14) (10*s):=
 tu hl rfl (fun _=>dx (by decide)) (yh b.cR (nk rfl) (lz rfl) hl.m1) (fun r=>yi (b.eo r) (nk rfl)) fun a f=>SF (b.low a f) hm c e (g a f) (nk rfl) (nk rfl) hl.Gx
theorem Wl{w:World}{e0 aA:List V} {N d s:Nat} {m:Int} (hl:Lv N d s) (a:Src w e0 m aA N d s) (hm:m∈cY\/m∈eb):Src w [.int 21,.int 19,.tup e0] 19 (aA) (N+64) (d+14) (10*s):=
 sN hl (q:=[]) (.cons a .nil) hl.m1 rfl (fun _=>dx (by decide)) (fun _ _=>by kernel_rfl) (fun _ _=>by kernel_rfl) (fun _ _=>by kernel_rfl) rfl fun b c=>V6 (a.low b c) hm (nk rfl) (nk rfl) hl.m1
theorem S8{w:World}{e0 aA:List V} {N d s:Nat} {i k:Int} (hl:Lv N d s) (a:Src w e0 12 aA N d s) (b:(i,k)∈bO):Src w [.int 21,.int k,.tup e0] k (aA) (N+64) (d+14) (10*s):=
 sN hl (q:=[]) (.cons a .nil) hl.m1 rfl (fun _=>dx (by decide)) (fun _ _=>by kernel_rfl) (fun _ _=>by kernel_rfl) (fun _ _=>by kernel_rfl) rfl fun c e=>SG (a.low c e) b (nk rfl) (nk rfl) hl.t8
theorem Ng{w:World}{e0 aA:List V} {N d s:Nat} {b:Int} (hl:Lv N d s) (c:Src w e0 b aA N d s) (a:b∈([13,12,7,21,22]:List Int)):Src w [.int 26,.int 13,.tup [.tup e0]] 13 (aA) (N+64) (d+14) (10*s):=
 sN hl (q:=[]) (.cons c .nil) hl.m1 rfl (fun _=>dx (by decide)) (fun _ _=>by kernel_rfl) (fun _ _=>by kernel_rfl) (fun _ _=>by kernel_rfl) rfl fun e f=>MN (c.low e f) a (nk rfl) (nk rfl) hl.m1
theorem Nh{w:World}{e0 aA b a:List V} {N d s:Nat} {f m1:Int} (hl:Lv N d s) (g:Src w e0 f aA N d s) (h:Src w b m1 a N d s) (c:f∈([13,12,7,21,22]:List Int)) (e:m1∈([13,12,7,21,22]:List Int)):Src w [.int 26,.int 13,.tup [.tup e0,.tup b]] 13 (aA++a) (N+64) (d+14) (10*s):=
 sN hl (q:=[(b,a)]) (.cons g (.cons h .nil)) hl.m2 rfl (fun _=>dx (by decide)) (fun _ _=>by kernel_rfl) (fun _ _=>by kernel_rfl) (fun _ _=>by kernel_rfl) rfl fun i j=>MO (g.low i j) (h.low i j) c e (nk rfl) (nk rfl) hl.m2
theorem Ni{w:World}{e0 aA c a e b:List V} {N d s:Nat} {k m1 m2:Int} (hl:Lv N d s) (l:Src w e0 k aA N d s) (m:Src w c m1 a N d s) (n:Src w e m2 b N d s) (f:k∈([13,12,7,21,22]:List Int)) (g:m1∈([13,12,7,21,22]:List Int)) (h:m2∈([13,12,7,21,22]:List Int)):Src w [.int 26,.int 13,.tup [.tup e0,.tup c,.tup e]] 13 (aA++a++b) (N+64) (d+14) (10*s):=
 sN hl (q:=[(c,a),(e,b)]) (.cons l (.cons m (.cons n .nil))) hl.m3 rfl (fun _=>dx (by decide)) (fun _ _=>by kernel_rfl) (fun _ _=>by kernel_rfl) (fun _ _=>by kernel_rfl) rfl fun i j=>MP (l.low i j) (m.low i j) (n.low i j) f g h (nk rfl) (nk rfl) hl.m3
theorem Nj{w:World}{e0 aA g a h b i c:List V} {N d s:Nat} {n m1 m2 m3:Int} (hl:Lv N d s) (o:Src w e0 n aA N d s) (p:Src w g m1 a N d s) (r:Src w h m2 b N d s) (t:Src w i m3 c N d s) (j:n∈([13,12,7,21,22]:List Int)) (k:m1∈([13,12,7,21,22]:List Int)) (l:m2∈([13,12,7,21,22]:List Int)) (m:m3∈([13,12,7,21,22]:List Int)):Src w [.int 26,.int 13,.tup [.tup e0,.tup g,.tup h,.tup i]] 13 (aA++a++b++c) (N+64) (d+14) (10*s):=
 sN hl (q:=[(g,a),(h,b),(i,c)]) (.cons o (.cons p (.cons r (.cons t .nil)))) hl.m4 rfl (fun _=>dx (by decide)) (fun _ _=>by kernel_rfl) (fun _ _=>by kernel_rfl) (fun _ _=>by kernel_rfl) rfl fun e f=>MQ (o.low e f) (p.low e f) (r.low e f) (t.low e f) j k l m (nk rfl) (nk rfl) hl.m4
theorem Nk{w:World}{e0 aA:List V} {N d s:Nat} {m o:Int} (hl:Lv N d s) (a:Src w e0 m aA N d s) (hm:m∈cY\/m∈eb):Src w [.int 25,.int 20,.tup e0,.tup [.int o,.int 26,.tup []],.int 0] 20 (aA) (N+64) (d+14) (10*s):=
 sN hl (q:=[]) (.cons a .nil) hl.m1 rfl (fun _=>dx (by decide)) (fun _ _=>by kernel_rfl) (fun _ _=>by kernel_rfl) (fun _ _=>by kernel_rfl) rfl fun b c=>MR (a.low b c) hm (nk rfl) (nk rfl) hl.m1
theorem S9{w:World}{e0 aA b a:List V} {N d s:Nat} {i k:Int} (hl:Lv N d s) (c:Src w e0 k aA N d s) (e:Src w b k a N d s) (h:(i,k)∈bO):Src w [.int 18,.int k,.tup e0,.tup b,.tup [.int 32,.int k]] k (aA++a) (N+64) (d+14) (10*s):=
 sN hl (q:=[(b,a)]) (.cons c (.cons e .nil)) hl.m2 rfl (fun _=>dx (by decide)) (fun _ _=>by kernel_rfl) (fun _ _=>by kernel_rfl) (fun _ _=>by kernel_rfl) rfl fun f g=>SH (c.low f g) (e.low f g) h (nk rfl) (nk rfl) (lz rfl) hl.t9
theorem Ta{w:World}{e0 aA b a:List V} {N d s:Nat} {k:Int} (hl:Lv N d s) (c:Src w e0 k aA N d s) (e:Src w b k a N d s) (h:k∈j9):Src w [.int 18,.int k,.tup e0,.tup b,.tup [.int 32,.int k]] k (aA++a) (N+64) (d+14) (10*s):=
 sN hl (q:=[(b,a)]) (.cons c (.cons e .nil)) hl.m2 rfl (fun _=>dx (by decide)) (fun _ _=>by kernel_rfl) (fun _ _=>by kernel_rfl) (fun _ _=>by kernel_rfl) rfl fun f g=>SJ (c.low f g) (e.low f g) h (nk rfl) (nk rfl) (lz rfl) hl.t9
theorem Tb{w:World}{e0 aA b a:List V} {N d s:Nat} {i n:Int} (hl:Lv N d s) (c:Src w e0 n aA N d s) (e:Src w b i a N d s) (h:(i,n)∈bO):Src w [.int 18,.int i,.tup e0,.tup b,.tup [.int 32,.int i]] i (aA++a) (N+64) (d+14) (10*s):=
 sN hl (q:=[(b,a)]) (.cons c (.cons e .nil)) hl.m2 rfl (fun _=>dx (by decide)) (fun _ _=>by kernel_rfl) (fun _ _=>by kernel_rfl) (fun _ _=>by kernel_rfl) rfl fun f g=>SI (c.low f g) (e.low f g) h (nk rfl) (nk rfl) (lz rfl) hl.t9
theorem Tc{w:World}{e0 aA b a:List V} {N d s:Nat} {i n k:Int} (hl:Lv N d s) (c:Src w e0 n aA N d s) (e:Src w b k a N d s) (h:(i,n)∈bO) (j:i∈([7,9,16,17]:List Int)) (l:k∈([7,9,16,17]:List Int)):Src w [.int 18,.int k,.tup e0,.tup b,.tup [.int 19,.int k,.tup [.int 32,.int i],.int 1,.int 0]] k (aA++a) (N+64) (d+14) (10*s):=
 sN hl (q:=[(b,a)]) (.cons c (.cons e .nil)) hl.m2 rfl (fun _=>dx (by decide)) (fun _ _=>by kernel_rfl) (fun _ _=>by kernel_rfl) (fun _ _=>by kernel_rfl) rfl fun f g=>SK (c.low f g) (e.low f g) h j l (nk rfl) (nk rfl) (lz rfl) hl.t9
theorem CK{w:World}{e0 aA b a:List V} {N d s:Nat} {p:dK} (hl:Lv N d s) (c:Src w e0 p.2.2.2.1 aA N d s) (e:Src w b p.2.2.2.2 a N d s) (h:p∈kN):Src w [.int 27,.int p.2.1,.str p.1,.tup e0,.tup b,.int 0,.int p.2.2.1] p.2.1 (aA++a) (N+64) (d+14) (10*s):=
 sN hl (q:=[(b,a)]) (.cons c (.cons e .nil)) hl.m2 rfl (fun _=>dx (by decide)) (fun _ _=>by kernel_rfl) (fun _ _=>by kernel_rfl) (fun _ _=>by kernel_rfl) rfl fun f g=>CG (c.low f g) (e.low f g) h (nk rfl) hl.n5 (nk rfl) (lz rfl) hl.ou
theorem D0{w:World}{e0 aA b a:List V} {N d s:Nat} {k l r:Int} {op:Nat} (hl:Lv N d s) (c:Src w e0 l aA N d s) (e:Src w b r a N d s) (h:(op,k,l,r)∈jh):Src w [.int 14,.int k,.str op,.tup e0,.tup b,.int 0] k (aA++a) (N+64) (d+14) (10*s):=
 sN hl (q:=[(b,a)]) (.cons c (.cons e .nil)) hl.m2 rfl (fun _=>dx (by decide)) (fun _ _=>by kernel_rfl) (fun _ _=>by kernel_rfl) (fun _ _=>by kernel_rfl) rfl fun f g=>yc (c.low f g) (e.low f g) h (nk rfl) (nk rfl) hl.m2
theorem Wm{w:World}{e0 aA b a:List V} {N d s:Nat} (hl:Lv N d s) (c:Src w e0 1 aA N d s) (e:Src w b 1 a N d s):Src w [.int 15,.int 1,.tup e0,.tup b] 1 (aA++a) (N+64) (d+14) (10*s):=
 sN hl (q:=[(b,a)]) (.cons c (.cons e .nil)) hl.m2 rfl (fun _=>dx (by decide)) (fun _ _=>by kernel_rfl) (fun _ _=>by kernel_rfl) (fun _ _=>by kernel_rfl) rfl fun f g=>V0 (c.low f g) (e.low f g) (nk rfl) (nk rfl) hl.m2
theorem Wn{w:World}{e0 aA b a:List V} {N d s:Nat} (hl:Lv N d s) (c:Src w e0 1 aA N d s) (e:Src w b 1 a N d s):Src w [.int 16,.int 1,.tup e0,.tup b] 1 (aA++a) (N+64) (d+14) (10*s):=
 sN hl (q:=[(b,a)]) (.cons c (.cons e .nil)) hl.m2 rfl (fun _=>dx (by decide)) (fun _ _=>by kernel_rfl) (fun _ _=>by kernel_rfl) (fun _ _=>by kernel_rfl) rfl fun f g=>V1 (c.low f g) (e.low f g) (nk rfl) (nk rfl) hl.m2
theorem Td{w:World}{e0 aA:List V} {N d s:Nat} (hl:Lv N d s) (a:Src w e0 1 aA N d s):Src w [.int 13,.int 1,.str 74,.tup e0,.int 0] 1 (aA) (N+64) (d+14) (10*s):=
 sN hl (q:=[]) (.cons a .nil) hl.m1 rfl (fun _=>dx (by decide)) (fun _ _=>by kernel_rfl) (fun _ _=>by kernel_rfl) (fun _ _=>by kernel_rfl) rfl fun b c=>Sq (a.low b c) (nk rfl) (nk rfl) hl.m1
theorem s_call{w:World}{e0 aA b a:List V} {N d s:Nat} (hl:Lv N d s) (c:Src w e0 12 aA N d s) (e:Src w b 23 a N d s):Src w [.int 8,.int 7,.none,.tup [.int 19,.int 25,.tup []],.tup [.tup e0,.tup b],.int 0] 7 (aA++a) (N+64) (d+14) (10*s):=
 sN hl (q:=[(b,a)]) (.cons c (.cons e .nil)) hl.m2 rfl (fun _=>dx (by decide)) (fun _ _=>by kernel_rfl) (fun _ _=>by kernel_rfl) (fun _ _=>by kernel_rfl) rfl fun f g=>MC (c.low f g) (e.low f g) (nk rfl) (nk rfl) hl.m2
theorem Km{w:World}{e0 aA:List V} {N d s:Nat} (hl:Lv N d s) (a:Src w e0 19 aA N d s):Src w [.int 34,.int 7,.tup e0,.tup [.int 19,.int 21,.tup []],.tup [.int 19,.int 22,.tup []],.tup [],.int 1] 7 (aA) (N+64) (d+14) (10*s):=
 sN hl (q:=[]) (.cons a .nil) hl.m1 rfl (fun _=>dx (by decide)) (fun _ _=>by kernel_rfl) (fun _ _=>by kernel_rfl) (fun _ _=>by kernel_rfl) rfl fun b c=>Ke (a.low b c) (nk rfl) (nk rfl) hl.m1
theorem ZY{w:World}{e0 aA:List V} {N d s:Nat} (hl:Lv N d s) (a:Src w e0 13 aA N d s):Src w [.int 34,.int 7,.none,.tup [.int 19,.int 23,.tup []],.tup [.int 19,.int 24,.tup []],.tup [.tup e0],.int 0] 7 (aA) (N+64) (d+14) (10*s):=
 sN hl (q:=[]) (.cons a .nil) hl.m1 rfl (fun _=>dx (by decide)) (fun _ _=>by kernel_rfl) (fun _ _=>by kernel_rfl) (fun _ _=>by kernel_rfl) rfl fun b c=>Kf (a.low b c) (nk rfl) (nk rfl) hl.m1
theorem Gy:cB [.int 1,.int 14,.none] [] 20 0:=(zV rfl (fun _ _=>by kernel_rfl) (fun _ _=>by kernel_rfl)).up
theorem Fs (r:List V):cI 20 [.int 1,.int 14,.none] r [.int 1,.int 14,.none]:=fun st=>Ev.of [] 9 fun n a=>Rd
theorem Nl:cB [.int 25,.int 20,.none,.tup [.int 19,.int 25,.tup []],.int 0] [] 20 0:=(zV rfl (fun _ _=>by kernel_rfl) (fun _ _=>by kernel_rfl)).up
theorem Nm (r:List V):cI 20 [.int 25,.int 20,.none,.tup [.int 19,.int 25,.tup []],.int 0] r [.int 25,.int 20,.none,.tup [.int 19,.int 25,.tup []],.int 0]:=fun st=>Ev.of [] 9 fun n a=>Rd
theorem Te{w:World}{N d s:Nat} {k:Int} (e:k∈tm) (f:k∈eb) (hl:Lv N d s):Src w [.int 19,.int k,.tup [.int 1,.int 14,.none],.int 8,.int 0] k [] N d s:=by
 have⟨_,_,_,_,_⟩:=hl
 have lo:∀b,cT w b->Lo 45 b [] [.int 19,.int k,.tup [.int 1,.int 14,.none],.int 8,.int 0] k [] (N-3) d s:=fun b c=>Sz e f (by exact wy (by assumption)) (by omega)
 exact⟨⟨_,_,rfl⟩,fun _=>j4 (by decide),(si Gy (aK (by decide) hl.a) (aK (by decide) hl.a) (dt _)),fun r=>(sj (Fs r) (aK (by decide) hl.a)),fun b c=>(lo b c).up,fun b c=>oU (by decide) (lo b c)⟩
theorem Tf{w:World}{N d s:Nat} (hl:Lv N d s):Src w [.int 19,.int 12,.tup [.int 1,.int 14,.none],.int 8,.int 0] 12 [] N d s:=by
 have⟨_,_,_,_,_⟩:=hl
 have lo:∀b,cT w b->Lo 45 b [] [.int 19,.int 12,.tup [.int 1,.int 14,.none],.int 8,.int 0] 12 [] (N-3) d s:=fun b c=>SA (by exact wy (by assumption)) (by omega)
 exact⟨⟨_,_,rfl⟩,fun h=>absurd h (by decide),(si Gy (aK (by decide) hl.a) (aK (by decide) hl.a) (dt _)),fun r=>(sj (Fs r) (aK (by decide) hl.a)),fun b c=>(lo b c).up,fun b c=>oU (by decide) (lo b c)⟩
theorem Nn{w:World}{N d s:Nat} (hl:Lv N d s):Src w [.int 25,.int 20,.none,.tup [.int 19,.int 25,.tup []],.int 0] 20 [] N d s:=by
 have⟨_,_,_,_,_⟩:=hl
 have lo:∀a,cT w a->Lo 45 a [] [.int 25,.int 20,.none,.tup [.int 19,.int 25,.tup []],.int 0] 20 [] (N-3) d s:=fun a b=>ME (by exact wy (by assumption)) (by omega)
 exact⟨⟨_,_,rfl⟩,fun h=>absurd h (by decide),Nl.up,fun r=>(Nm r).up,fun a b=>(lo a b).up,fun a b=>oU (by decide) (lo a b)⟩
theorem mN{w:World}{t:List V} {k:Int} {rd wr:List V} {N d s:Nat} {c:Int} {r:List V} (hl:Lv N d s) (e:t= .int c:: .int k::r) (h:c∈l6) (b:c≠19) (g:∀a,cT w a->Good a [] t k rd wr 2 1) (i:∀v,cI 20 t v t):Src w t k rd N d s:=by
 have⟨_,_,_,_,_⟩:=hl
 subst e
 exact⟨⟨_,_,rfl⟩,fun _=>dx b,(g w (.refl w)).cR.up,fun r=>(i r).up,fun a f=>(g a f).lo.up,fun a f=>oU (N:=N-3) (d:=d) (s:=s) h ((g a f).lo.up)⟩
theorem CL{w:World}{k a:Int} {N d s:Nat} (hl:Lv N d s) (hf:dj w a k) (b:999<a):Src w [.int 5,.int k,.tup [.int 12,.int a]] k [.int a] N d s:=
 mN hl rfl (by decide) (by decide) (fun e c=>(Mr (c.fd _ _ hf) b).up) fun v st=>Ev.of [] 9 fun n f=>Rd
theorem Th{w:World}{k x:Int} {N d s:Nat} (hl:Lv N d s) (b:∀a,cT w a->∀ts',Later a [] ts'->fo (a.st ts') x k):Src w [.int 2,.int k,.int x] k [] N d s:=
 mN hl rfl (by decide) (by decide) (fun a c=>(jF (b a c)).up) fun v st=>Ev.of [] 9 fun n e=>Rd
theorem s_num{w:World}{k v:Int} {N d s:Nat} (hl:Lv N d s) (a:k∈([1,7,9,16,17]:List Int)):Src w [.int 1,.int k,.int v] k [] N d s:=
 mN hl rfl (by decide) (by decide) (fun b c=>(g_num a).up) fun v st=>Ev.of [] 9 fun n e=>Rd
theorem CM{w:World}{k:Int}{N d s:Nat} (hl:Lv N d s) (a:k∈cY):Src w [.int 1,.int k,.none] k [] N d s:=
 mN hl rfl (by decide) (by decide) (fun b c=>(oS a).up) fun v st=>Ev.of [] 9 fun n e=>Rd
theorem Ti{w:World}{v:Nat}{N d s:Nat} (hl:Lv N d s) (a:v<104):Src w [.int 1,.int 13,.str v] 13 [] N d s:=
 mN hl rfl (by decide) (by decide) (fun b c=>(xZ a).up) fun v st=>Ev.of [] 9 fun n e=>Rd
theorem Np{w:World}{k:Int}{N d s:Nat} (hl:Lv N d s) (a:k∈eb):Src w [.int 12,.int k] k [] N d s:=
 mN hl rfl (by decide) (by decide) (fun b c=>(rR a).up) fun v st=>Ev.of [] 9 fun n e=>Rd
end
section
section
variable {N d s:Nat} (hl:Lv N d s)
include hl
theorem Lv.zW:12<=N+8:=aK (by decide) (aK hl.a (bE _ _))
theorem Lv.zX:12<=N:=aK (by decide) hl.a
theorem Lv.n8:8<=N:=aK (by decide) hl.a
theorem Lv.Zs:s+s<=2*s:=by exact C5
theorem Lv.Zt:s<=2*s:=by exact C6
theorem Lv.ua:s<=3*s:=by exact OT
theorem Lv.Zu:2*s<=3*s:=by exact C7
theorem Lv.tv:2*s+s+2<=10*s:=by have:=hl.c;exact OU this
theorem Lv.Wo:5*d+40<=N+30:=by have:=hl.e;exact OV this
theorem Lv.Wq:0+s+2<=3*s:=by have:=hl.c;exact OW this
theorem Lv.zY:0+s<=3*s:=by exact OX
end
structure fB (w:World) (g:List V) (k:Int) (rd:List V) (N d s:Nat):Prop where
 hY:Form k g
 gh:mY g
 cR:cB g rd (N+8) (2*s)
 eo:∀r,cI (N+8) g r g
 my:∀w',cT w w'->fW w' [] g k rd (N+8) (d+1) (2*s)
 pn:∀w',cT w w'->kQ w' [] g k rd (N+30) d (3*s)
theorem IW{w:World}{e0 aA g a:List V} {N d s:Nat} {k m:Int} (hl:Lv N d s) (e:Src w e0 m aA N d s) (f:Src w g 7 a N d s) (h:(k,m)∈([(7,27),(9,28),(22,29),(13,30),(18,31)]:List (Int×Int))):
  fB w [.int 6,.int k,.tup e0,.tup g] k (aA++a) N d s:=by
 have⟨_,_,_,_,_⟩:=hl
 exact⟨⟨_,_,rfl⟩,⟨6,_,rfl,by decide⟩,Wh e.cR f.cR (aO _) hl.zW hl.Zs,fun r=>Wi (e.eo r) (f.eo r) (aO _),fun b c=>J7 (e.low b c) (f.low b c) h,fun b c=>Kg (e.low b c) (f.low b c) h⟩
theorem IX{w:World}{e0 aA:List V} {N d s:Nat} {k b:Int} (hl:Lv N d s) (a:Src w e0 19 aA N d s) (hf:dj w b k):fB w [.int 4,.int k,.tup e0,.tup [.int 19,.int b]] k aA N d s:=by
 have⟨_,_,_,_,_⟩:=hl
 exact⟨⟨_,_,rfl⟩,⟨4,_,rfl,by decide⟩,Fo a.cR (aO _) hl.zW hl.Zt,fun r=>Fp (a.eo r) (aO _),fun e c=>J8 (a.low e c) (c.fd _ _ hf),fun e c=>Kh (a.low e c) a.hY (a.t7 rfl) (c.fd _ _ hf)⟩
theorem IY{w:World}{N d s:Nat} {k a:Int} (hl:Lv N d s) (hf:dj w a k) (b:¬999<a):fB w [.int 5,.int k,.tup [.int 12,.int a]] k [] N d s:=by
 have⟨_,_,_,_,_⟩:=hl
 have g:Good w [] [.int 5,.int k,.tup [.int 12,.int a]] k [] [] 2 0:=v8 hf b
 exact⟨⟨_,_,rfl⟩,⟨5,_,rfl,by decide⟩,g.cR.up,fun r st=>(Ev.of [] 9 fun n f=>Rd:Ev 20 34 _ st _ st).up (by exact Dh (by assumption)),fun e c=>Ka (c.fd _ _ hf) b,fun e c=>Ki (c.fd _ _ hf) b⟩
theorem Ko{w:World}{N d s:Nat} {k x:Int} (hl:Lv N d s) (b:∀a,cT w a->∀ts',Later a [] ts'->fo (a.st ts') x k):fB w [.int 2,.int k,.int x] k [] N d s:=by
 have⟨_,_,_,_,_⟩:=hl
 have g:Good w [] [.int 2,.int k,.int x] k [] [] 1 0:=jF (b w (.refl w))
 exact⟨⟨_,_,rfl⟩,⟨2,_,rfl,by decide⟩,g.cR.up,fun r st=>(Ev.of [] 9 fun n e=>Rd:Ev 20 34 _ st _ st).up (by exact Dh (by assumption)),fun a c=>MY (b a c),fun a c=>M4 (b a c)⟩
theorem fB.goal{w g k rd N d s} (hl:Lv N d s) (h:fB w g k rd N d s):f5 w g k rd N d s:=by
 have⟨_,_,_,_,_⟩:=hl
 exact⟨h.hY,h.cR.up,fun r=>(h.eo r).up,Fm h.gh,fun q z D A C=>(CJ (NN:=N+60) (dd:=d+14) (ss:=10*s) h.gh (h.my q z) (C.up (bE _ _) (bE _ _) (aO s)) (nk (n:=N) (a:=22) (b:=60) rfl) (nk (n:=d) (a:=6) (b:=14) rfl) hl.tv),
  fun q z D A C=>(B3 (NN:=N+60) (dd:=d+14) (ss:=10*s) h.gh (h.my q z) (C.up (bE _ _) (bE _ _) (aO s)) (nk (n:=N) (a:=22) (b:=60) rfl) (nk (n:=d) (a:=6) (b:=14) rfl) hl.tv),fun q z=>(h.pn q z).pin⟩
theorem Kp{w:World}{g rd:List V} {N d s:Nat} {k e:Int} (hl:Lv N d s) (h:fB w g 18 rd N d s) (hf:dj w e k):f5 w [.int 4,.int k,.tup g,.tup [.int 18,.int e]] k rd N d s:=by
 have⟨_,_,_,_,_⟩:=hl
 have my:∀c,cT w c->fW c [] [.int 4,.int k,.tup g,.tup [.int 18,.int e]] k rd (N+16) (d+2) (2*s):=fun c f=>J9 (h.my c f).lo (f.fd _ _ hf)
 have gh:mY [.int 4,.int k,.tup g,.tup [.int 18,.int e]]:=⟨4,_,rfl,by decide⟩
 exact⟨⟨_,_,rfl⟩,Fo h.cR (nk (n:=N) (a:=16) (b:=20) rfl) (lz rfl) hl.Zu,fun r=>Fp (h.eo r) (nk (n:=N) (a:=16) (b:=20) rfl),Fm gh,fun c f l i j=>(CJ (NN:=N+60) (dd:=d+14) (ss:=10*s) gh (my c f) (j.up (bE _ _) (bE _ _) (aO s)) (nk (n:=N) (a:=30) (b:=60) rfl) (nk (n:=d) (a:=7) (b:=14) rfl) hl.tv),
  fun c f l i j=>(B3 (NN:=N+60) (dd:=d+14) (ss:=10*s) gh (my c f) (j.up (bE _ _) (bE _ _) (aO s)) (nk (n:=N) (a:=30) (b:=60) rfl) (nk (n:=d) (a:=7) (b:=14) rfl) hl.tv),fun c f=>Kj (h.pn c f) h.hY (f.fd _ _ hf)⟩
theorem IZ{w:World}{e0 aA:List V} {N d s:Nat} (hl:Lv N d s) (a:Src w e0 19 aA N d s):f5 w [.int 34,.int 7,.tup e0,.tup [.int 19,.int 21,.tup []],.tup [.int 19,.int 22,.tup []],.tup [],.int 1] 7 aA N d s:=by
 have⟨_,_,_,_,_⟩:=hl
 exact⟨⟨_,_,rfl⟩,M8 a.cR (nk rfl) (lz rfl) hl.ua,fun r=>M9 (a.eo r) (nk rfl),Wg a.hY,fun b c g e f=>MZ (a.low b c) f (nk rfl) (nk rfl) hl.ou,fun b c g e f=>Kb (a.low b c) f (nk rfl) (nk rfl) hl.ou,fun b c=>IS (a.low b c) a.hY (a.t7 rfl)⟩
theorem I0{w:World}{e0 aA:List V} {N d s:Nat} (hl:Lv N d s) (a:Src w e0 13 aA N d s):f5 w [.int 34,.int 7,.none,.tup [.int 19,.int 23,.tup []],.tup [.int 19,.int 24,.tup []],.tup [.tup e0],.int 0] 7 aA N d s:=by
 have⟨_,_,_,_,_⟩:=hl
 exact⟨⟨_,_,rfl⟩,Na a.cR (nk rfl) (lz rfl) hl.ua,fun r=>Nb (a.eo r) (nk rfl),Wf,fun b c g e f=>M3 (a.low b c) f (nk rfl) (nk rfl) hl.ou,fun b c g e f=>Kc (a.low b c) f (nk rfl) (nk rfl) hl.ou,fun b c=>IT (a.low b c)⟩
section
variable {w:World} {e0 aA:List V} {N d s:Nat}
theorem vg (hl:Lv N d s) {c:World} {ts:List Int} {r:List V} {k:Int} (g:Good c ts r k [] [] 4 0):Lo 45 c ts r k [] N d 0:=g.lo.up (aK (by decide) hl.a) hl.b (aO 0)
theorem Kq{o:Nat}{k i m:Int} (hl:Lv N d s) (h:Src w e0 m aA N d s) (a:(o,k,i,k,m)∈kN):SVal w [.int 27,.int k,.str o,.tup [.int 32,.int k],.tup e0,.int 0,.int i] k aA N d s:=
 ⟨SU (s0:=0) ((vf k).up hl.zX (aO 0)) h.cR (nk rfl) (lz rfl) hl.zY,fun c e=>⟨d+7,aO _,fun f _ r g=>
  ⟨_,SV ((ve k r).up hl.n8) (h.eo r) (nk rfl),CG (p:=(o,k,i,k,m)) (vg hl g) ((h.low c e).later List.nil_prefix) a (nk rfl) hl.Wo (nk rfl) (ip hl.b 7) hl.Wq⟩⟩⟩
theorem Kr (hl:Lv N d s) (h:Src w e0 9 aA N d s):SVal w [.int 14,.int 9,.str 91,.tup [.int 32,.int 9],.tup e0,.int 0] 9 aA N d s:=
 ⟨DY (s0:=0) ((vf 9).up hl.zX (aO 0)) h.cR (nk rfl) (lz rfl) hl.zY,fun a b=>⟨d+7,aO _,fun c _ r g=>
  ⟨_,DZ ((ve 9 r).up hl.n8) (h.eo r) (nk rfl),yc (vg hl g) ((h.low a b).later List.nil_prefix) (by decide) (nk rfl) (nk rfl) hl.zY⟩⟩⟩
theorem Nq{k:Int} (hl:Lv N d s) (h:Src w e0 9 aA N d s) (l:k∈([7,9,16,17]:List Int)):
  SVal w [.int 19,.int k,.tup [.int 14,.int 9,.str 91,.tup [.int 19,.int 9,.tup [.int 32,.int k],.int 1,.int 0],.tup e0,.int 0],.int 1,.int 0] k aA N d s:=by
 have m:(k,9)∈ji:=oM _ l _ (by decide)
 have f:(9,k)∈ji:=oM _ (by decide) _ l
 have i:N+8<=N+8:=aO _
 have c:N+8+8<=N+16:=aO _
 have e:N+16+8<=N+30:=nk (n:=N) (a:=24) (b:=30) rfl
 have j:N<=N+8:=bE _ _
 have s0:0+s<=s:=bt (dq s)
 exact⟨si (DY (si ((vf k).up hl.zX (aO 0)) i hl.zW (aO 0)) (h.cR.up j (aO s)) c (lz rfl) s0) e (lz rfl) hl.ua,fun o p=>⟨d+7,aO _,fun q _ r g=>
  ⟨_,sj (DZ (sj ((ve k r).up hl.n8) i) ((h.eo r).up j) c) e,
   yd (yc (yd (vg hl g) m i (aO (d+1)) (aO 0)) (((h.low o p).later List.nil_prefix).up j (bE d 1) (aO s)) (by decide) c (aO (d+2)) s0) f e (nk (n:=d) (a:=3) (b:=7) rfl) hl.ua⟩⟩⟩
end
end
noncomputable def ef (l:List (Int×Int)):List (V×V):=l.map fun p=>(.int p.1,.int p.2)
noncomputable def lk (k:Int):List (Int×Int)->Option Int
 |[]=>Option.none
 |(a,b)::r=>if a=k then some b else lk k r
theorem tw (a k:Int):V.dX (.int a) (.int k)=some (a==k):=rfl
theorem j0 (k:Int):∀l:List (Int×Int),look (.int k) (ef l)=some ((lk k l).map .int)
 |[]=>rfl
 |(a,b)::r=>by
  show(match V.dX (.int a) (.int k) with|some true=>some (some (V.int b))|some false=>look (.int k) (ef r)|Option.none=>Option.none)=_
  rw[tw,lk]
  by_cases h:a=k
  ·rw[if_pos h,h,beq_self_eq_true];rfl
  ·rw[if_neg h,beq_eq_false_iff_ne.mpr h];exact j0 k r
theorem uQ (k v:Int):∀l:List (Int×Int),lk k l=Option.none->bY (.int k) (.int v) (ef l)=some (ef (l++[(k,v)]))
 |[],_=>rfl
 |(a,b)::r,h=>by
  show(match V.dX (.int a) (.int k) with|some true=>some ((V.int a,V.int v)::ef r)|some false=>(bY (.int k) (.int v) (ef r)).map ((V.int a,V.int b)::·)|Option.none=>Option.none)=_
  rw[lk] at h
  by_cases e:a=k
  ·rw[if_pos e] at h;nomatch h
  ·rw[if_neg e] at h
   rw[tw,beq_eq_false_iff_ne.mpr e]
   show(bY (.int k) (.int v) (ef r)).map _=_
   rw[uQ k v r h];rfl
theorem Bx (k v:Int):∀l:List (Int×Int),lk k l=some v->bY (.int k) (.int v) (ef l)=some (ef l)
 |[],h=>nomatch h
 |(a,b)::r,h=>by
  show(match V.dX (.int a) (.int k) with|some true=>some ((V.int a,V.int v)::ef r)|some false=>(bY (.int k) (.int v) (ef r)).map ((V.int a,V.int b)::·)|Option.none=>Option.none)=_
  rw[lk] at h
  by_cases e:a=k
  ·rw[if_pos e] at h;obtain rfl:=aR h
   rw[tw,e,beq_self_eq_true];rfl
  ·rw[if_neg e] at h
   rw[tw,beq_eq_false_iff_ne.mpr e]
   show(bY (.int k) (.int v) (ef r)).map _=_
   rw[Bx k v r h];rfl
theorem mO (k:Int):∀(l m:List (Int×Int)),lk k (l++m)=(lk k l).or (lk k m)
 |[],m=>by rw[gn,lk];rfl
 |(a,b)::r,m=>by
  rw[eW,lk,lk]
  by_cases e:a=k
  ·rw[if_pos e,if_pos e];rfl
  ·rw[if_neg e,if_neg e];exact mO k r m
structure GW (w:World):Prop where
 nums:∃l:List Int,w.nums=l.map .int/\l≠[]/\l.length<=1000/\∀n∈l,0<=n/\n<10000000000
 ct:0<=w.ct
 vd:∃l:List (Int×Int),w.vd=ef l/\l.length<=w.gs.length/\∀k v,lk k l=some v->∃i:Nat,v=Int.ofNat (i+1)/\w.gs[i]?=some (79,k)
 fd:∃l:List (Int×Int),w.fd=ef l/\∀f v,lk f l=some v->(999<f->f<1000+l.length)/\(f<=999->(500<=f->v=f-500)/\(f<500->v=f-400))
def Rm (w:World) (n:Nat):Prop:=w.gs.length+n<=300000/\w.fd.length+n<=300000
structure aQ (w w':World) (n:Nat):Prop where
 le:cT w w'
 gw:GW w'
 gl:w'.gs.length<=w.gs.length+n
 fl:w'.fd.length<=w.fd.length+n
theorem aQ.trans{a b c:World} {n m:Nat} (h:aQ a b n) (k:aQ b c m):aQ a c (n+m):=⟨h.le.trans k.le,k.gw,by have:=h.gl;have:=k.gl;exact Di (by assumption) this,by have:=h.fl;have:=k.fl;exact Di (by assumption) this⟩
theorem aQ.up{a b:World} {n m:Nat} (h:aQ a b n) (l:n<=m:=by omega):aQ a b m:=⟨h.le,h.gw,by have:=h.gl;exact C8 l this,by have:=h.fl;exact C8 l this⟩
theorem Rm.gU{w z:World} {n m:Nat} (h:Rm w m) (k:aQ w z n) {q:Nat} (l:n+q<=m:=by omega):Rm z q:=⟨by have:=k.gl;have:=h.1;exact Dj l (by assumption) this,by have:=k.fl;have:=h.2;exact Dj l (by assumption) this⟩
theorem aQ.refl{w:World} (g:GW w):aQ w w 0:=⟨.refl w,g,by exact C9,by exact C9⟩
theorem aQ.num{w:World} (g:GW w) {l:List Int} {ct left:Int} (q:l≠[]) (z:l.length<=1000) (A:∀n∈l,0<=n/\n<10000000000) (C:0<=ct):aQ w ⟨l.map .int,ct,left,w.vd,w.fd,w.gs⟩ 0:=
 ⟨⟨dN,fun _ _ h=>h⟩,⟨⟨l,rfl,q,z,A⟩,C,g.vd,g.fd⟩,aO _,aO _⟩
theorem aQ.left{w:World} (g:GW w) (x:Int):aQ w ⟨w.nums,w.ct,x,w.vd,w.fd,w.gs⟩ 0:=⟨⟨dN,fun _ _ h=>h⟩,⟨g.nums,g.ct,g.vd,g.fd⟩,aO _,aO _⟩
theorem len0 (b:B) (tl:List Ob) (h:b.nums.length<2147483648):lenOf (.obj 0) (b.st tl)=some (.int (Int.ofNat b.nums.length),b.st tl):=by
 have e:lenOf (.obj 0) (b.st tl)=lift (small b.nums.length) (b.st tl):=by kernel_rfl
 rw[e,small,if_pos h];rfl
theorem Tj (b:B) (tl:List Ob) (h:b.fd.length<2147483648) (a:b.fd.all (fun p=>isKey p.1)=true):lenOf (.obj 14) (b.st tl)=some (.int (Int.ofNat b.fd.length),b.st tl):=by
 have e:lenOf (.obj 14) (b.st tl)=(if b.fd.all (fun p=>isKey p.1) then lift (small b.fd.length) else fail) (b.st tl):=by kernel_rfl
 rw[e,a,if_pos rfl,small,if_pos h];rfl
theorem Tn (b:B) (tl:List Ob) (n:Nat) (v:V) (h:n<2147483648) (e:b.nums[n]?=some v):item (.obj 0) (.int (Int.ofNat n)) (b.st tl)=some (v,b.st tl):=by
 have a:item (.obj 0) (.int (Int.ofNat n)) (b.st tl)=lift (jm b.nums (Int.ofNat n)) (b.st tl):=by kernel_rfl
 rw[a]
 show lift (if n<2147483648 then b.nums[n]? else Option.none) _=_
 rw[if_pos h,e];rfl
theorem Wr (b:B) (tl:List Ob) (n:Nat) (v:V) (h:n<b.nums.length) (a:b.nums.length<=1048576):toV (setItem (.obj 0) (.int (Int.ofNat n)) v) (b.st tl)=some (.none,(B.mk (b.nums.set n v) b.ct b.left b.vd b.fd b.vl b.ll).st tl):=by
 have c:setItem (.obj 0) (.int (Int.ofNat n)) v (b.st tl)=(if n<b.nums.length/\b.nums.length<=1048576 then h9 0 (.list (b.nums.set n v)) else fail) (b.st tl):=by kernel_rfl
 unfold toV
 rw[c,if_pos ⟨h,a⟩];kernel_rfl
theorem To (b:B) (tl:List Ob) (k v:V) (l:List (V×V)) (h:keyOk k=true) (a:b.vd.length<=1048576) (e:bY k v b.vd=some l):toV (setItem (.obj 13) k v) (b.st tl)=some (.none,(B.mk b.nums b.ct b.left l b.fd b.vl b.ll).st tl):=by
 have c:setItem (.obj 13) k v (b.st tl)=(if keyOk k&&decide (b.vd.length<=1048576) then(do h9 13 (.dict (<-lift (bY k v b.vd)))) else fail) (b.st tl):=by kernel_rfl
 unfold toV
 rw[c,h,decide_eq_true a,Bool.and_self,if_pos rfl,e];kernel_rfl
theorem D1 (b:B) (tl:List Ob) (k v:V) (l:List (V×V)) (h:keyOk k=true) (a:b.fd.length<=1048576) (e:bY k v b.fd=some l):toV (setItem (.obj 14) k v) (b.st tl)=some (.none,(B.mk b.nums b.ct b.left b.vd l b.vl b.ll).st tl):=by
 have c:setItem (.obj 14) k v (b.st tl)=(if keyOk k&&decide (b.fd.length<=1048576) then(do h9 14 (.dict (<-lift (bY k v b.fd)))) else fail) (b.st tl):=by kernel_rfl
 unfold toV
 rw[c,h,decide_eq_true a,Bool.and_self,if_pos rfl,e];kernel_rfl
theorem D2 (b:B) (tl:List Ob) (k:Int) (x:Option V) (e:look (.int k) b.vd=some x):ey (cmp .jT (.int k) (.obj 13)) (b.st tl)=some (.bool (!x.isSome),b.st tl):=by
 have a:cmp .jT (.int k) (.obj 13) (b.st tl)=(do return !(<-lift ((look (.int k) b.vd).map (·.isSome))):M Bool) (b.st tl):=by kernel_rfl
 unfold ey
 rw[a,e];rfl
theorem CN (b:B) (tl:List Ob) (k:Int) (v:V) (e:look (.int k) b.vd=some (some v)):item (.obj 13) (.int k) (b.st tl)=some (v,b.st tl):=by
 have a:item (.obj 13) (.int k) (b.st tl)=lift ((look (.int k) b.vd).join) (b.st tl):=by kernel_rfl
 rw[a,e];rfl
theorem B4{a b:Int} (h:0<b) (st:St):lift (gu .mod (.int a) (.int b)) st=some (.int (Int.fmod a b),st):=by
 show lift (if b>0 then some (V.int (Int.fmod a b)) else Option.none) st=_
 rw[if_pos h];rfl
theorem Ks{a:Int} (h:0<=a) (b:a<10000000000) (st:St):lift (gu .fdiv (.int a) (.int 7)) st=some (.int (Int.fdiv a 7),st):=by
 show lift (if(7:Int)=7/\0<=a/\a<10000000000 then some (V.int (Int.fdiv a 7)) else Option.none) st=_
 rw[if_pos ⟨rfl,h,b⟩];rfl
theorem mem_set{l:List Int} {i:Nat} {a x:Int} (h:x∈l.set i a):x∈l\/x=a:=List.mem_or_eq_of_mem_set h
theorem B5{w:World} (g:GW w) (c:Nat) (H:0<c):∃(j:Nat) (s:World),j<c/\aQ w s 0/\s.left=w.left/\Ev 8 104 [.obj 15,.int (Int.ofNat c)] w.bq (.int (Int.ofNat j)) s.bq:=by
 refine jD g.nums fun l hl C q D=>?_
 have m:0<l.length:=List.length_pos_iff.mpr C
 have b:(0:Int)<Int.ofNat l.length:=f9.mpr m
 have a0:0<=Int.fmod w.ct (Int.ofNat l.length):=wx _ b
 have a1:Int.fmod w.ct (Int.ofNat l.length)<Int.ofNat l.length:=Int.fmod_lt_of_pos _ b
 refine cE (wk a0) fun i E=>?_
 have d:i<l.length:=by rw[E] at a1;exact f9.mp a1
 have hm:l[i]∈l:=List.getElem_mem d
 have r:=D _ hm
 have t:0<=Int.fdiv l[i] 7:=Int.fdiv_nonneg r.1 (by decide)
 have u:Int.fdiv l[i] 7<10000000000:=by rw[Int.fdiv_eq_ediv_of_nonneg _ (by decide)];exact OZ r
 have k:(0:Int)<Int.ofNat c:=f9.mpr H
 have b0:0<=Int.fmod l[i] (Int.ofNat c):=wx _ k
 have b1:Int.fmod l[i] (Int.ofNat c)<Int.ofNat c:=Int.fmod_lt_of_pos _ k
 refine cE (wk b0) fun j G=>?_
 have f:w.nums.length=l.length:=by rw[hl,eU]
 have o:w.nums[i]?=some (.int l[i]):=by rw[hl,nx,iq d];rfl
 have p:w.nums.set i (.int (Int.fdiv l[i] 7))=(l.set i (Int.fdiv l[i] 7)).map .int:=by rw[hl,List.map_set]
 refine⟨j,⟨(l.set i (Int.fdiv l[i] 7)).map .int,w.ct+1,w.left,w.vd,w.fd,w.gs⟩,?_,?_,rfl,?_⟩
 ·rw[G] at b1;exact f9.mp b1
 ·refine aQ.num g ?_ ?_ ?_ (by have:=g.ct;exact O0 this)
  ·intro e;exact C (by simpa using e)
  ·rw[List.length_set];exact q
  ·intro n v
   rcases mem_set v with h|h
   ·exact D n h
   ·subst h;exact⟨t,u⟩
 ·refine Ev.of [] 4 fun n L=>?_
  have f1:=len0 (B.mk w.nums w.ct w.left w.vd w.fd (.none::bu 0 w.gs) (bR 0 w.gs)) (bW 0 w.gs) (by show w.nums.length<_;exact O1 q f)
  have f2:=B4 (a:=w.ct) b w.bq
  have x:Int.fmod w.ct (Int.ofNat l.length)=Int.ofNat i:=E
  rw[x] at f2
  have y:lenOf (.obj 0) w.bq=some (.int (Int.ofNat l.length),w.bq):=by rw[<-f];exact f1
  have f3:=Tn (B.mk w.nums (w.ct+1) w.left w.vd w.fd (.none::bu 0 w.gs) (bR 0 w.gs)) (bW 0 w.gs) i _ (O2 q d) o
  have I:=Ks r.1 r.2 ((B.mk w.nums (w.ct+1) w.left w.vd w.fd (.none::bu 0 w.gs) (bR 0 w.gs)).st (bW 0 w.gs))
  have J:=Wr (B.mk w.nums (w.ct+1) w.left w.vd w.fd (.none::bu 0 w.gs) (bR 0 w.gs)) (bW 0 w.gs) i (.int (Int.fdiv l[i] 7)) (by show i<w.nums.length;exact O3 d f) (by show w.nums.length<=_;exact O4 q f)
  have z:toV (setItem (.obj 0) (.int (Int.ofNat i)) (.int (Int.fdiv l[i] 7))) ((B.mk w.nums (w.ct+1) w.left w.vd w.fd (.none::bu 0 w.gs) (bR 0 w.gs)).st (bW 0 w.gs))=some (.none,(World.mk ((l.set i (Int.fdiv l[i] 7)).map .int) (w.ct+1) w.left w.vd w.fd w.gs).bq):=by rw[J,p];rfl
  have f6:=B4 (a:=l[i]) k (World.mk ((l.set i (Int.fdiv l[i] 7)).map .int) (w.ct+1) w.left w.vd w.fd w.gs).bq
  have A:Int.fmod l[i] (Int.ofNat c)=Int.ofNat j:=G
  rw[A] at f6
  exact Ra y<|Ra f2<|Ra f3<|Ra I<|Ra z<|Ra f6 Rd
theorem Nr{w:World} (g:GW w) (r:Rm w 1) (k:Int):∃(i:Nat) (w':World),aQ w w' 1/\w'.left=w.left/\w'.gs[i]?=some (79,k)/\Ev 10 105 [.obj 15,.int k] w.bq (.tup [.int 2,.int k,.int (Int.ofNat (i+1))]) w'.bq:=by
 refine dV g.vd fun l hl h1 h2=>?_
 have r1:=r.1
 cases hk:lk k l with
 |some v=>
  refine aN (h2 k v hk) fun i Tp hi=>?_;obtain rfl:=Tp
  have sk:look (.int k) w.vd=some (some (.int (Int.ofNat (i+1)))):=by rw[hl,j0,hk];rfl
  refine⟨i,w,(aQ.refl g).up,rfl,hi,Ev.of [30] 4 fun n hn=>?_⟩
  exact Ra (D2 (B.mk w.nums w.ct w.left w.vd w.fd (.none::bu 0 w.gs) (bR 0 w.gs)) (bW 0 w.gs) k _ sk)<|Ra (CN (B.mk w.nums w.ct w.left w.vd w.fd (.none::bu 0 w.gs) (bR 0 w.gs)) (bW 0 w.gs) k _ sk) Rd
 |none=>
  have sk:look (.int k) w.vd=some Option.none:=by rw[hl,j0,hk];rfl
  have Ft:=uQ k (Int.ofNat (w.gs.length+1)) l hk
  rw[<-hl] at Ft
  have zZ:lk k (l++[(k,Int.ofNat (w.gs.length+1))])=some (Int.ofNat (w.gs.length+1)):=by rw[mO,hk,lk,if_pos rfl];rfl
  have Nt:look (.int k) (ef (l++[(k,Int.ofNat (w.gs.length+1))]))=some (some (.int (Int.ofNat (w.gs.length+1)))):=by rw[j0,zZ];rfl
  have nv:=uu (B.mk w.nums w.ct w.left w.vd w.fd (.none::bu 0 w.gs) (bR 0 w.gs)) (bW 0 w.gs) 79 k 0 (by show(V.none::bu 0 w.gs).length<=_;rw[bU,gC];exact Dc r1) (by show(bR 0 w.gs).length<=_;rw[q8];exact r7 r1)
  have el:(B.mk w.nums w.ct w.left w.vd w.fd (.none::bu 0 w.gs) (bR 0 w.gs)).vl.length=w.gs.length+1:=by show(V.none::bu 0 w.gs).length=_;rw[bU,gC]
  rw[el] at nv
  have z0:(B.more (B.mk w.nums w.ct w.left w.vd w.fd (.none::bu 0 w.gs) (bR 0 w.gs)) (.obj ((bW 0 w.gs).length+81)) (.int (Int.ofNat (w.gs.length+1)))).st (bW 0 w.gs++[hE (Int.ofNat (w.gs.length+1)) 79 k 0])=(World.mk w.nums w.ct w.left w.vd w.fd (w.gs++[(79,k)])).bq:=by
   unfold World.bq B.more
   dsimp only
   rw[uO,uC,uD,gZ]
   simp only[bW,bu,bR,eW,dq]
  have Zv:Ev 6 30 [.obj 69,.int 1,.str 79,.int k,.int 0] w.bq (.int (Int.ofNat (w.gs.length+1))) (World.mk w.nums w.ct w.left w.vd w.fd (w.gs++[(79,k)])).bq:=z0▸nv
  have md:(w.gs++[((79:Nat),k)])[w.gs.length]?=some (79,k):=by rw[ft (aO _),pO];rfl
  refine⟨w.gs.length,World.mk w.nums w.ct w.left (ef (l++[(k,Int.ofNat (w.gs.length+1))])) w.fd (w.gs++[(79,k)]),⟨⟨⟨_,rfl⟩,fun _ _ h=>h⟩,⟨g.nums,g.ct,⟨_,rfl,by simp only[dG,bU,hI];exact O5 h1,?_⟩,g.fd⟩,by simp,bE _ _⟩,rfl,md,Ev.of [30] 4 fun n hn=>?_⟩
  ·intro k' v' h
   rw[mO] at h
   cases hq:lk k' l with
   |some x=>
    rw[hq] at h
    obtain rfl:=aR h
    refine aN (h2 k' _ hq) fun i e hi=>?_
    exact⟨i,e,by rw[fG (et.mp hi).1];exact hi⟩
   |none=>
    rw[hq,lk] at h
    by_cases e:k=k'
    ·subst e
     simp at h
     exact⟨w.gs.length,h.symm,md⟩
    ·rw[if_neg e] at h;nomatch h
  ·refine Ra (D2 (B.mk w.nums w.ct w.left w.vd w.fd (.none::bu 0 w.gs) (bR 0 w.gs)) (bW 0 w.gs) k _ sk)<|Rc 1 Zv<|?_
   refine Ra (To (B.mk w.nums w.ct w.left w.vd w.fd (.none::bu 0 (w.gs++[(79,k)])) (bR 0 (w.gs++[(79,k)]))) (bW 0 (w.gs++[(79,k)])) (.int k) (.int (Int.ofNat (w.gs.length+1))) _ rfl (by show w.vd.length<=_;rw[hl];unfold ef;rw[eU];exact O6 h1 r1) Ft)<|?_
   exact Ra (CN (B.mk w.nums w.ct w.left (ef (l++[(k,Int.ofNat (w.gs.length+1))])) w.fd (.none::bu 0 (w.gs++[(79,k)])) (bR 0 (w.gs++[(79,k)]))) (bW 0 (w.gs++[(79,k)])) k _ Nt) Rd
theorem B6 (l:List (Int×Int)):(ef l).length=l.length:=eU ..
theorem Kt (l:List (Int×Int)):(ef l).all (fun p=>isKey p.1)=true:=by
 induction l with
 |nil=>rfl
 |cons a r ih=>exact ih
theorem Fu{w:World} (g:GW w) (r:Rm w 1) (f k:Int) (h:(f<1000->(500<=f->k=f-500)/\(f<500->k=f-400))/\(999<f->f=1000+w.fd.length)):∃w':World,aQ w w' 1/\w'.left=w.left/\dj w' f k/\toV (setItem (.obj 14) (.int f) (.int k)) w.bq=some (.none,w'.bq):=by
 refine aN g.fd fun l hl h2=>?_
 have r2:=r.2
 have hlen:w.fd.length=l.length:=by rw[hl,B6]
 cases hk:lk f l with
 |some v=>
  have hv:=h2 f v hk
  have:¬999<f:=fun hf=>by
   have a:=h.2 hf
   have b:=hv.1 hf
   exact O7 hlen a b
  have e:v=k:=by
   have a:=hv.2 (O8 this)
   have b:=h.1 (O9 this)
   by_cases h5:500<=f
   ·rw[a.1 h5,b.1 h5]
   ·rw[a.2 (Dd h5),b.2 (Dd h5)]
  subst e
  have hp:=Bx f v l hk
  rw[<-hl] at hp
  refine⟨w,(aQ.refl g).up,rfl,by unfold dj;rw[hl,j0,hk];rfl,?_⟩
  exact D1 (B.mk w.nums w.ct w.left w.vd w.fd (.none::bu 0 w.gs) (bR 0 w.gs)) (bW 0 w.gs) (.int f) (.int v) _ rfl (by show w.fd.length<=_;exact r7 r2) hp
 |none=>
  have hp:=uQ f k l hk
  rw[<-hl] at hp
  have zZ:lk f (l++[(f,k)])=some k:=by rw[mO,hk,lk,if_pos rfl];rfl
  refine⟨World.mk w.nums w.ct w.left w.vd (ef (l++[(f,k)])) w.gs,⟨⟨dN,?_⟩,⟨g.nums,g.ct,g.vd,⟨_,rfl,?_⟩⟩,bE _ _,by show(ef (l++[(f,k)])).length<=_;rw[B6,hlen,dG];simp⟩,rfl,by unfold dj;show look _ (ef _)=_;rw[j0,zZ];rfl,?_⟩
  ·intro f' k' hf
   unfold dj at hf⊢
   rw[hl,j0] at hf
   show look _ (ef _)=_
   rw[j0,mO]
   cases hq:lk f' l with
   |none=>rw[hq] at hf;simp at hf
   |some x=>rw[hq] at hf;exact hf
  ·intro f' v' hf
   rw[mO] at hf
   rw[dG,bU,hI]
   cases hq:lk f' l with
   |some x=>
    rw[hq] at hf
    obtain rfl:=aR hf
    have a:=h2 f' _ hq
    exact⟨fun q=>by have:=a.1 q;exact Pa this,a.2⟩
   |none=>
    rw[hq,lk] at hf
    by_cases e:f=f'
    ·subst e
     simp at hf
     subst hf
     exact⟨fun q=>by have:=h.2 q;exact Pb hlen this,fun q=>h.1 (Pc q)⟩
    ·rw[if_neg e] at hf;nomatch hf
  ·exact D1 (B.mk w.nums w.ct w.left w.vd w.fd (.none::bu 0 w.gs) (bR 0 w.gs)) (bW 0 w.gs) (.int f) (.int k) _ rfl (by show w.fd.length<=_;exact r7 r2) hp
theorem Ku{w:World} (g:GW w) (r:Rm w 1) (k:Int):∃(f:Int) (a:World),aQ w a 1/\a.left=w.left/\999<f/\dj a f k/\Ev 8 106 [.obj 15,.int k] w.bq (.tup [.int 5,.int k,.tup [.int 12,.int f]]) a.bq:=by
 have hf:w.fd.all (fun p=>isKey p.1)=true:=by refine aN g.fd fun l hl _=>?_;rw[hl];exact Kt l
 refine jD (Fu g r (1000+Int.ofNat w.fd.length) k ⟨fun h=>(Int.not_lt.mpr (Int.le_add_of_nonneg_right (hH _)) h).elim,fun _=>rfl⟩) fun a s b c d=>?_
 refine⟨_,a,s,b,Int.lt_of_lt_of_le (by decide) (Int.le_add_of_nonneg_right (hH _)),c,Ev.of [] 4 fun n e=>?_⟩
 have r2:=r.2
 exact Ra (Tj (B.mk w.nums w.ct w.left w.vd w.fd (.none::bu 0 w.gs) (bR 0 w.gs)) (bW 0 w.gs) (by show w.fd.length<_;exact Pd r2) hf)<|Ra d Rd
section
noncomputable def gk:List Int:=[1,7,9,12,13,16,17,18,19,20,21,22,23,24,25,26]
structure IH (dep:Int) (N d s G b:Nat):Prop where
 run:∀w,GW w->Rm w b->∀k∈gk,∃e rd w',aQ w w' b/\Ev G 108 [.obj 15,.int k,.int dep] w.bq (.tup e) w'.bq/\Src w' e k rd N d s
theorem CO{w:World}{i nm:Nat} {k:Int} (h:w.gs[i]?=some (nm,k)):∀a,cT w a->∀ts',Later a [] ts'->fo (a.st ts') (Int.ofNat (i+1)) k:=fun a b ts' c=>
 cE b.gs fun u hu=>J1 a ts' i (nm,k) (by rw[<-hu,fG (et.mp h).1];exact h) c.2
theorem Ws{w:World} (g:GW w) (r:Rm w 1) (nm:Nat) (k:Int):∃w':World,aQ w w' 1/\w'.gs[w.gs.length]?=some (nm,k)/\Ev 6 30 [.obj 69,.int 1,.str nm,.int k,.int 0] w.bq (.int (Int.ofNat (w.gs.length+1))) w'.bq:=by
 have r1:=r.1
 have nv:=uu (B.mk w.nums w.ct w.left w.vd w.fd (.none::bu 0 w.gs) (bR 0 w.gs)) (bW 0 w.gs) nm k 0 (by show(V.none::bu 0 w.gs).length<=_;rw[bU,gC];exact Dc r1) (by show(bR 0 w.gs).length<=_;rw[q8];exact r7 r1)
 have el:(B.mk w.nums w.ct w.left w.vd w.fd (.none::bu 0 w.gs) (bR 0 w.gs)).vl.length=w.gs.length+1:=by show(V.none::bu 0 w.gs).length=_;rw[bU,gC]
 rw[el] at nv
 have z0:(B.more (B.mk w.nums w.ct w.left w.vd w.fd (.none::bu 0 w.gs) (bR 0 w.gs)) (.obj ((bW 0 w.gs).length+81)) (.int (Int.ofNat (w.gs.length+1)))).st (bW 0 w.gs++[hE (Int.ofNat (w.gs.length+1)) nm k 0])=(World.mk w.nums w.ct w.left w.vd w.fd (w.gs++[(nm,k)])).bq:=by
  unfold World.bq B.more
  dsimp only
  rw[uO,uC,uD,gZ]
  simp only[bW,bu,bR,eW,dq]
 have md:(w.gs++[(nm,k)])[w.gs.length]?=some (nm,k):=by rw[ft (aO _),pO];rfl
 refine dV g.vd fun l hl h1 h2=>?_
 refine⟨World.mk w.nums w.ct w.left w.vd w.fd (w.gs++[(nm,k)]),⟨⟨⟨_,rfl⟩,fun _ _ h=>h⟩,⟨g.nums,g.ct,⟨l,hl,by simp only[dG];exact Pe h1,?_⟩,g.fd⟩,by simp,bE _ _⟩,md,z0▸nv⟩
 intro k' v' h
 refine aN (h2 k' v' h) fun i e hi=>?_
 exact⟨i,e,by rw[fG (et.mp hi).1];exact hi⟩
noncomputable def z7:List Nat:=[30,104,105,106,107,108,109,110,111,112,113]
structure qQ where
 e:List V
 rd:List V
 w:World
 x:Int
 j:Nat
abbrev Fc:=qQ->World->Prop
abbrev Av:=Nat->qQ
noncomputable def push (a:qQ) (A:Av):Av:=fun n=>match n with
 |0=>a
 |n+1=>A n
def qn:List Fc->Av->World->Prop
 |[],_,_=>True
 |f::l,A,w=>f (A 0) w/\qn l (fun n=>A (n+1)) w
structure Cl (b M:Nat) where
 f:Nat
 vs:List V
 res:qQ->V
 fc:Fc
 x:Nat
 y:Nat
 ok:∀w,GW w->Rm w (x*b+y)->∃a:qQ,aQ w a.w (x*b+y)/\Ev M f vs w.bq (res a) a.w.bq/\∀w',cT a.w w'->fc a w'
abbrev Pr:=World->List V->List V->Prop
inductive Pl (b M:Nat) (P:Pr):Type
 |fin (fs:List Fc) (T R:Av->List V) (h:∀A w,qn fs A w->P w (T A) (R A))
 |call (c:Cl b M) (p:Pl b M P)
 |act (v v':V) (h:v=v') (p:Pl b M P)
 |put (f k:Int) (h:(f<1000->(500<=f->k=f-500)/\(f<500->k=f-400))/\¬999<f) (p:Pl b M P)
 |draw (n:Nat) (q:Nat->Pl b M P)
 |test (f:World->Bool) (p q:Pl b M P)
 |bad
inductive Et
 |nil
 |t (g:Tag)
 |e (l:List Fc)
 |p (a b:Et)
noncomputable def Et.l:Et->Et
 | .p a _=>a
 |x=>x
noncomputable def Et.r:Et->Et
 | .p _ a=>a
 |x=>x
noncomputable def Et.g:Et->Tag
 | .t a=>a
 |_=> .fail
noncomputable def Et.f:Et->List Fc
 | .e a=>a
 |_=>[]
noncomputable def ub (f:Nat->Et):Nat->Et
 |0=>f 0
 |n+1=> .p (ub f n) (f (n+1))
section
variable {b M:Nat} {P:Pr}
noncomputable def em (q:Bool):Pl b M P->List Fc->Av->Av->World->Res V->Et
 | .fin a T _ _,l,A,_,w,t=> .p (.t (bif q then tag t else .done (.tup (T A)) w.bq)) (.e (bif q then l.take a.length else a))
 | .call c p,l,A,O,w,t=> .p (.t (bif q then tag t else .call 1 c.f c.vs w.bq)) (em q p (c.fc::l) (push (O 0) A) (fun n=>O (n+1)) (O 0).w (fN t (c.res (O 0)) (O 0).w.bq))
 | .act v d _ p,l,A,O,w,t=> .p (.t (bif q then se t else .done v w.bq)) (em q p l A O w (fN t d w.bq))
 | .put f k _ p,l,A,O,w,t=> .p (.t (bif q then tag t else .act (toV (setItem (.obj 14) (.int f) (.int k))) w.bq)) (em q p ((fun _ w=>dj w f k)::l) (push (O 0) A) (fun n=>O (n+1)) (O 0).w (fN t .none (O 0).w.bq))
 | .draw n c,l,A,O,w,t=> .p (.t (bif q then tag t else .call 1 104 [.obj 15,.int (Int.ofNat (n+1))] w.bq)) (ub (fun j=>em q (c j) l A (fun n=>O (n+1)) (O 0).w (fN t (.int (Int.ofNat j)) (O 0).w.bq)) n)
 | .test f p r,l,A,O,w,t=> .p (.t (bif q then se t else .done (.bool (f w)) w.bq)) (.p (em q p l A O w (fN t (.bool true) w.bq)) (em q r l A O w (fN t (.bool false) w.bq)))
 | .bad,_,_,_,_,_=> .nil
noncomputable def allB (f:Nat->Bool):Nat->Bool
 |0=>f 0
 |n+1=>f (n+1)&&allB f n
noncomputable def fits:Pl b M P->Nat->Nat->Bool
 | .fin _ _ _ _,_,_=>true
 | .call c p,x,y=>Nat.ble c.x x&&(Nat.ble c.y y&&fits p (x-c.x) (y-c.y))
 | .act _ _ _ p,x,y=>fits p x y
 | .put _ _ _ p,x,y=>Nat.ble 1 y&&fits p x (y-1)
 | .draw n c,x,y=>allB (fun j=>fits (c j) x y) n
 | .test _ p q,x,y=>fits p x y&&fits q x y
 | .bad,_,_=>false
theorem HS (a:List Fc):∀{l:List Fc} {A:Av} {w:World},l.take a.length=a->qn l A w->qn a A w:=by
 induction a with
 |nil=>exact fun _ _=>trivial
 |cons f a ih=>
  intro l A w e h
  cases l with
  |nil=>exact nomatch e
  |cons g l=>obtain⟨b,c⟩:=gm e;exact⟨b▸h.1,ih c h.2⟩
theorem Nu{f g:Nat->Et} (n:Nat):ub f n=ub g n->∀j,j<n+1->f j=g j:=by
 induction n with
 |zero=>exact fun e j h=>(Nat.lt_one_iff.mp h).symm▸e
 |succ n ih=>exact fun e j h=>(Nat.lt_succ_iff_lt_or_eq.mp h).elim (ih (congrArg Et.l e) j) fun q=>q▸congrArg Et.r e
theorem Kv{f:Nat->Bool} (n:Nat):allB f n=true->∀j,j<n+1->f j=true:=by
 induction n with
 |zero=>exact fun e j h=>(Nat.lt_one_iff.mp h).symm▸e
 |succ n ih=>exact fun e j h=>(Nat.lt_succ_iff_lt_or_eq.mp h).elim (ih (cf e).2 j) fun q=>q▸(cf e).1
theorem ble{a b:Nat} (h:Nat.ble a b=true):a<=b:=aX h
theorem cost{x y a c:Nat} (h:a<=x) (h':c<=y):(a*b+c)+((x-a)*b+(y-c))=x*b+y:=by
 rw[Nat.sub_mul,we,ni (lN b h),ni h']
def Ends (M n:Nat) (P:Pr) (t:Res V) (w:World):Prop:=∃e rd a,aQ w a n/\(∀b,M+1<=b->Rn b t (.tup e) a.bq)/\P a e rd
theorem Ends.step{n m k:Nat} {t A:Res V} {w w1:World} (s:aQ w w1 n) (hm:n+m=k) (q:∀z v s',M+1<=z->Rn z A v s'->Rn z t v s') (h:Ends M m P A w1):Ends M k P t w:=
 er h fun e rd D s' r p=>⟨e,rd,D,hm▸s.trans s',fun z C=>q z _ _ C (r z C),p⟩
theorem Tq (hM:10<=M) (p:Pl b M P):∀{l:List Fc} {A:Av} {w:World} {t:Res V} {x y:Nat},fits p x y=true->(∀O,em true p l A O w t=em false p l A O w t)->(∀m,cT w m->qn l A m)->GW w->Rm w (x*b+y)->Ends M (x*b+y) P t w:=by
 induction p with
 |fin E T R h=>exact fun _ H i g _=>have H:=H fun _=>⟨[],[],World.mk [] 0 0 [] [] [],0,0⟩
   ⟨_,_,_,(aQ.refl g).up (dt _),fun n _=>Rd (congrArg (fun x=>x.l.g) H),h _ _ (HS E (congrArg (fun x=>x.r.f) H) (i _ (.refl _)))⟩
 |call c p ih=>
  intro l A w t x y hf H i g r
  have d:=cf hf
  have s:=cf d.2
  have e:=cost (b:=b) (ble d.1) (ble s.1)
  refine dV (c.ok w g (r.gU (aQ.refl g) (by rw[dq,<-e];exact bE _ _))) fun a st ev fc=>?_
  exact(ih (l:=c.fc::l) (A:=push a A) (w:=a.w) (t:=fN t (c.res a) a.w.bq) s.2 (fun O=>congrArg Et.r (H (push a O))) (fun m le=>⟨fc m le,i m (st.le.trans le)⟩) st.gw (r.gU st (bt e))).step st e fun u v s' o k=>Rc 1 ev k (congrArg (fun x=>x.l.g) (H (push a A))) o
 |act v I h p ih=>subst h;exact fun hf H i g r=>(ih hf (fun O=>congrArg Et.r (H O)) i g r).step (aQ.refl g) (dq _) fun u _ s' o k=>te (congrArg (fun x=>x.l.g) (H fun _=>⟨[],[],World.mk [] 0 0 [] [] [],0,0⟩)) k
 |put f k h p ih=>
  intro l A w t x y hf H i g r
  have d:=cf hf
  have e:1+(x*b+(y-1))=x*b+y:=by rw[Nat.add_left_comm,ni (ble d.1)]
  refine jD (Fu g (r.gU (aQ.refl g) (by rw[dq,<-e];exact bE _ _)) f k ⟨h.1,fun q=>absurd q h.2⟩) fun w1 st _ G ev=>?_
  exact(ih (l:=(fun _ w=>dj w f k)::l) (A:=push ⟨[],[],w1,0,0⟩ A) (w:=w1) (t:=fN t .none w1.bq) d.2 (fun O=>congrArg Et.r (H (push ⟨[],[],w1,0,0⟩ O))) (fun m le=>⟨le.fd _ _ G,i m (st.le.trans le)⟩) st.gw (r.gU st (bt e))).step st e fun u v s' o k=>Ra ev k (congrArg (fun x=>x.l.g) (H A))
 |draw n c ih=>
  intro l A w t x y hf H i g r
  refine da (B5 g (n+1) (pB n)) fun j w1 C st _ ev=>?_
  exact(ih j (Kv n hf j C) (fun O=>Nu n (congrArg Et.r (H (push ⟨[],[],w1,0,0⟩ O))) j C) (fun m le=>i m (st.le.trans le)) st.gw (r.gU st (bt (dq _)))).step st (dq _) fun u v s' o k=>Rc 1 ev k (congrArg (fun x=>x.l.g) (H A)) (aK (ip (aK (by decide) hM) 1) o)
 |test f p q z B=>
  intro l A w t x y hf H i g r
  have d:=cf hf
  have e:=congrArg (fun x=>x.l.g) (H fun _=>⟨[],[],World.mk [] 0 0 [] [] [],0,0⟩)
  cases D:f w with
  |true=>exact(z d.1 (fun O=>congrArg (fun x=>x.r.l) (H O)) i g r).step (aQ.refl g) (dq _) fun u _ s' o k=>te (D▸e) k
  |false=>exact(B d.2 (fun O=>congrArg (fun x=>x.r.r) (H O)) i g r).step (aQ.refl g) (dq _) fun u _ s' o k=>te (D▸e) k
 |bad=>exact fun hf=>(aL hf).elim
noncomputable def emp (w:World):Av:=fun _=>⟨[],[],w,0,0⟩
end
theorem runs{b M:Nat} {P:Int->Pr} (pl:∀k,Pl b M (P k)) (x y:Nat) {f:Nat} {vs:Int->List V} (l:List Int) {w w1:World} (s0:aQ w w1 0) (hM:10<=M) (hf:l.all (fun k=>fits (pl k) x y)=true)
  (H:∀O,l.map (fun k=>em true (pl k) [] (emp w) O w1 (eO PP z7 6 0 f (vs k) w.bq))=l.map (fun k=>em false (pl k) [] (emp w) O w1 (eO PP z7 6 0 f (vs k) w.bq)))
  (r:Rm w (x*b+y)) {k:Int} (c:k∈l):∃e rd a,aQ w a (x*b+y)/\Ev (M+1) f (vs k) w.bq (.tup e) a.bq/\P k a e rd:=
 er (Tq hM (pl k) (cG.mp hf k c) (fun O=>List.map_inj_left.mp (H O) k c) (fun _ _=>trivial) s0.gw (r.gU s0 (bt (dq _)))) fun e rd a s v q=>
  ⟨e,rd,a,(s0.trans s).up (bt (dq _)),Ev.of z7 6 v (aK (aK (by decide) hM) (dZ M)),q⟩
structure qR where
 N:Nat
 d:Nat
 s:Nat
 G:Nat
 b:Nat
 dep:Int
 hl:Lv N d s
 ih:IH dep N d s G b
noncomputable def gV (i:Int):Int:=(bO.lookup i).getD 0
section
variable {b M:Nat} {P:Pr}
noncomputable def dr (l:List (Pl b M P)):Pl b M P:= .draw (l.length-1) fun j=>l.getD j .bad
noncomputable def uc{α:Type} (f:α->V) (a:α) (n:Nat) (l:List α) (c:α->Pl b M P):Pl b M P:= .draw n fun j=> .act (f (l.getD j a)) (f (l.getD j a)) rfl (c (l.getD j a))
noncomputable def jx (l:List Int) (c:Int->Pl b M P):Pl b M P:=uc .int 0 (l.length-1) l c
noncomputable def ud (l:List Nat) (c:Nat->Pl b M P):Pl b M P:=uc .str 0 (l.length-1) l c
noncomputable def need (c:Prop) [Decidable c] (f:c->Pl b M P):Pl b M P:=if h:c then f h else .bad
noncomputable def f0 (T R:List V) (h:∀w,P w T R):Pl b M P:= .fin [] (fun _=>T) (fun _=>R) fun _ w _=>h w
def ze:Int->Fc:=fun k a w=>999<a.x/\dj w a.x k
def nS:Int->Fc:=fun k a w=>∀b,cT w b->∀ts',Later b [] ts'->fo (b.st ts') (Int.ofNat (a.j+1)) k
def ym (f k:Int):Fc:=fun _ w=>dj w f k
noncomputable def D3 (hM:10<=M) (k:Int):Cl b M:=⟨106,[.obj 15,.int k],fun a=> .tup [.int 5,.int k,.tup [.int 12,.int a.x]],ze k,0,1,fun w g r=>
 uS (Ku g (r.gU (aQ.refl g)) k) fun f c s _ d hf v=>⟨⟨[],[],c,f,0⟩,s.up,v.up (aK (by decide) hM),fun _ le=>⟨d,le.fd _ _ hf⟩⟩⟩
noncomputable def Fv (hM:10<=M) (k:Int):Cl b M:=⟨105,[.obj 15,.int k],fun a=> .tup [.int 2,.int k,.int (Int.ofNat (a.j+1))],nS k,0,1,fun w g r=>
 da (Nr g (r.gU (aQ.refl g)) k) fun j c s _ hf v=>⟨⟨[],[],c,0,j⟩,s.up,v.up hM,fun _ le d e=>CO hf d (le.trans e)⟩⟩
noncomputable def Wt (hM:10<=M) (k:Int):Cl b M:=⟨30,[.obj 69,.int 1,.str 94,.int k,.int 0],fun a=> .int (Int.ofNat (a.j+1)),nS k,0,1,fun w g r=>
 dV (Ws g (r.gU (aQ.refl g)) 94 k) fun c s hf v=>⟨⟨[],[],c,0,w.gs.length⟩,s.up,v.up (aK (by decide) hM),fun _ le d e=>CO hf d (le.trans e)⟩⟩
noncomputable def Tr (hM:10<=M) {N d s:Nat} (hl:Lv N d s) (k:Int):Pl b M fun w e rd=>Src w e k rd N d s:=
 have rd:= .call (D3 hM k) (.fin [ze k] (fun A=>[.int 5,.int k,.tup [.int 12,.int (A 0).x]]) (fun A=>[.int (A 0).x]) fun _ _ q=>CL hl q.1.2 q.1.1)
 dr [rd,rd,.call (Fv hM k) (.fin [nS k] (fun A=>[.int 2,.int k,.int (Int.ofNat ((A 0).j+1))]) (fun _=>[]) fun _ _ q=>Th hl q.1),
  if h:k∈([1,7,9,16,17]:List Int) then .draw 1 fun j=>f0 [.int 1,.int k,.int (Int.ofNat j)] [] fun w=>s_num hl h
  else if h:k=13 then dr [f0 [.int 1,.int k,.str 81] [] fun w=>h▸Ti hl (by decide),f0 [.int 1,.int k,.none] [] fun w=>CM hl (h▸by decide)]
  else if h:k∈cY then f0 [.int 1,.int k,.none] [] fun w=>CM hl h
  else need (k∈eb) fun h=>f0 [.int 12,.int k] [] fun w=>Np hl h]
end
theorem Kw{w:World}{N d s b:Nat} (hl:Lv N d s) (g:GW w) (r:Rm w (0*b+1)) {k:Int} (c:k∈gk):∃e rd a,aQ w a (0*b+1)/\Ev 16 107 [.obj 15,.int k] w.bq (.tup e) a.bq/\Src a e k rd N d s:=
 runs (vs:=fun k=>[.obj 15,.int k]) (Tr (b:=b) (M:=15) (by decide) hl) 0 1 gk (.refl g) (by decide) (by kernel_rfl) (fun O=>by kernel_rfl) r c
theorem fB.later{w A g k rd N d s} (h:fB w g k rd N d s) (l:cT w A):fB A g k rd N d s:=⟨h.hY,h.gh,h.cR,h.eo,fun q z=>h.my q (l.trans z),fun q z=>h.pn q (l.trans z)⟩
theorem f5.later{w A g k rd N d s} (h:f5 w g k rd N d s) (l:cT w A):f5 A g k rd N d s:=
 ⟨h.hY,h.cR,h.eo,h.qO,fun q z=>h.asg q (l.trans z),fun q z=>h.Fq q (l.trans z),fun q z=>h.pin q (l.trans z)⟩
section
variable {M:Nat} (L:qR) (hG:L.G<=M) (hM:10<=M)
noncomputable def kF (k:Int):Fc:=fun a w=>Src w a.e k a.rd L.N L.d L.s
noncomputable def Wu (k:Int) (c:k∈gk):Cl L.b M:=⟨108,[.obj 15,.int k,.int L.dep],fun a=> .tup a.e,kF L k,1,0,fun w g r=>
 er (L.ih.run w g (r.gU (aQ.refl g)) k c) fun e rd d s v q=>⟨⟨e,rd,d,0,0⟩,s.up,v.up hG,fun _ le=>q.later le⟩⟩
variable {P:Pr}
noncomputable def hZ (k:Int) (p:Pl L.b M P):Pl L.b M P:=need (k∈gk) fun h=> .call (Wu L hG k h) p
noncomputable def k1 (k:Int) {T R:List V->List V} (h:∀{w:World} {e rd:List V},Src w e k rd L.N L.d L.s->P w (T e) (R rd)):Pl L.b M P:=hZ L hG k (.fin [kF L k] (fun A=>T (A 0).e) (fun A=>R (A 0).rd) fun _ _ q=>h q.1)
noncomputable def k2 (k c:Int) {T R:List V->List V->List V} (h:∀{w:World} {e rd e' a:List V},Src w e k rd L.N L.d L.s->Src w e' c a L.N L.d L.s->P w (T e e') (R rd a)):Pl L.b M P:=
 hZ L hG k (hZ L hG c (.fin [kF L c,kF L k] (fun A=>T (A 1).e (A 0).e) (fun A=>R (A 1).rd (A 0).rd) fun _ _ q=>h q.2.1 q.1))
noncomputable def rowOf (k:Int):Int:=(([(7,27),(9,28),(22,29),(13,30),(18,31)]:List (Int×Int)).lookup k).getD 0
section
variable (k:Int) (cv:∀{w:World} {e rd:List V},fB w e k rd L.N L.d L.s->P w e rd)
noncomputable def tx:Pl L.b M P:= .call (Fv hM k) (.fin [nS k] (fun A=>[.int 2,.int k,.int (Int.ofNat ((A 0).j+1))]) (fun _=>[]) fun _ _ q=>cv (Ko L.hl q.1))
noncomputable def D4:Pl L.b M P:=if h:(k,rowOf k)∈([(7,27),(9,28),(22,29),(13,30),(18,31)]:List (Int×Int)) then
  .call (D3 hM (rowOf k)) (hZ L hG 7 (.fin [kF L 7,ze (rowOf k)] (fun A=>[.int 6,.int k,.tup [.int 5,.int (rowOf k),.tup [.int 12,.int (A 1).x]],.tup (A 0).e]) (fun A=>[.int (A 1).x]++(A 0).rd) fun _ _ q=>cv (IW L.hl (CL L.hl q.2.1.2 q.2.1.1) q.1 h)))
 else tx L hM k cv
noncomputable def zf:Pl L.b M P:=hZ L hG 19 (.fin [kF L 19,ym (500+k) k] (fun A=>[.int 4,.int k,.tup (A 0).e,.tup [.int 19,.int (500+k)]]) (fun A=>(A 0).rd) fun _ _ q=>cv (IX L.hl q.1 q.2.1))
noncomputable def zg (f:Int) (p:Pl L.b M P):Pl L.b M P:=need ((f<1000->(500<=f->k=f-500)/\(f<500->k=f-400))/\¬999<f) fun h=> .put f k h p
noncomputable def D5:Pl L.b M P:=zg L k (400+k) (need (¬999<400+k) fun h=> .fin [ym (400+k) k] (fun _=>[.int 5,.int k,.tup [.int 12,.int (400+k)]]) (fun _=>[]) fun _ _ q=>cv (IY L.hl q.1 h))
end
end
abbrev qR.B (L:qR) (k:Int):Pr:=fun w e rd=>Src w e k rd (L.N+64) (L.d+14) (10*L.s)
section
variable (L:qR)
noncomputable def dE:Int×Int->List V:=fun p=>[.obj 15,.int p.1,.int p.2]
theorem G0 (n:Nat):L.G<=L.G+n:=bE _ _
theorem G1 (n:Nat):10<=L.G+(n+10):=aK (cj 10 n) (cj _ _)
noncomputable def Nv (k:Int):Pl L.b (L.G+10) fun w e rd=>fB w e 18 rd L.N L.d L.s:=
 dr [tx L (G1 L 0) 18 id,D4 L (G0 L _) (G1 L 0) 18 id,zg L 18 518 (zf L (G0 L _) 18 id),tx L (G1 L 0) 18 id,D5 L 18 id]
theorem I1{w:World} (g:GW w) (r:Rm w (1*L.b+1)):∃e rd a,aQ w a (1*L.b+1)/\Ev (L.G+11) 109 [.obj 15,.int 18,.int L.dep] w.bq (.tup e) a.bq/\fB a e 18 rd L.N L.d L.s:=
 runs (vs:=fun k=>[.obj 15,.int k,.int L.dep]) (Nv L) 1 1 [18] (.refl g) (G1 L 0) (by kernel_rfl) (fun O=>by kernel_rfl) r (.head _)
noncomputable def Nw{M:Nat} (h:L.G+11<=M):Cl L.b M:=⟨109,[.obj 15,.int 18,.int L.dep],fun a=> .tup a.e,fun a w=>fB w a.e 18 a.rd L.N L.d L.s,1,1,fun w g r=>
 er (I1 L g r) fun e rd c s v q=>⟨⟨e,rd,c,0,0⟩,s,v.up h,fun _ le=>q.later le⟩⟩
noncomputable def Ts (k:Int):Pl L.b (L.G+11) fun w e rd=>f5 w e k rd L.N L.d L.s:=
 have cv:=fun {w:World} {e rd:List V} (h:fB w e k rd L.N L.d L.s)=>h.goal L.hl
 have va:=tx L (G1 L 1) k cv
 dr [va,D4 L (G0 L _) (G1 L 1) k cv,
  zg L k (500+k) (if k=18 then zf L (G0 L _) k cv else dr [zf L (G0 L _) k cv,.call (Nw L (aO _)) (.fin [fun a w=>fB w a.e 18 a.rd L.N L.d L.s,ym (500+k) k] (fun A=>[.int 4,.int k,.tup (A 0).e,.tup [.int 18,.int (500+k)]]) (fun A=>(A 0).rd) fun _ _ q=>Kp L.hl q.1 q.2.1)]),
  if h:k=7 then k1 L (G0 L _) 19 fun q=>h▸IZ L.hl q else va,
  if h:k=7 then k1 L (G0 L _) 13 fun q=>h▸I0 L.hl q else D5 L k cv]
theorem Kx{w:World} (g:GW w) (r:Rm w (1*L.b+3)) {k:Int} (c:k∈gk):∃e rd a,aQ w a (1*L.b+3)/\Ev (L.G+12) 109 [.obj 15,.int k,.int L.dep] w.bq (.tup e) a.bq/\f5 a e k rd L.N L.d L.s:=
 runs (vs:=fun k=>[.obj 15,.int k,.int L.dep]) (Ts L) 1 3 gk (.refl g) (G1 L 1) (by kernel_rfl) (fun O=>by kernel_rfl) r c
noncomputable def Tt{M:Nat} (h:L.G+12<=M) (k:Int) (c:k∈gk):Cl L.b M:=⟨109,[.obj 15,.int k,.int L.dep],fun a=> .tup a.e,fun a w=>f5 w a.e k a.rd L.N L.d L.s,1,3,fun w g r=>
 er (Kx L g r c) fun e rd f s v q=>⟨⟨e,rd,f,0,0⟩,s,v.up h,fun _ le=>q.later le⟩⟩
noncomputable def goal{M:Nat}{P:Pr} (h:L.G+12<=M) (k:Int) (p:Pl L.b M P):Pl L.b M P:=need (k∈gk) fun q=> .call (Tt L h k q) p
noncomputable def zh{M:Nat} (h:L.G+12<=M) (k m:Int) {T:List V->List V} (sv:∀{w:World} {e rd:List V},Src w e m rd L.N L.d L.s->SVal w (T e) k rd L.N L.d L.s):Pl L.b M (L.B k):=
 goal L h k (hZ L (aK (G0 L _) h) m (.draw 1 fun j=>need ((j:Int)=0\/(j:Int)=1) fun c=> .fin [kF L m,fun a w=>f5 w a.e k a.rd L.N L.d L.s]
  (fun A=>[.int 23,.int k,.tup (A 1).e,.tup (T (A 0).e),.int (Int.ofNat j)]) (fun A=>(A 1).rd++(A 0).rd) fun _ _ q=>Nc L.hl q.2.1 (sv q.1) c))
noncomputable abbrev M5:Nat:=L.G+15
theorem hG:L.G<=M5 L:=G0 L _
theorem hg:L.G+12<=M5 L:=dD (by decide) _
noncomputable def Zw (i:Int):Int:=if i=16 then 22 else 23
noncomputable def Nx (i k:Int) (h:(i,k)∈bO):Pl L.b (M5 L) (L.B k):=
 have op (c:Bool) (o:Nat) (m:Int):Pl L.b (M5 L) (L.B k):=
  need ((o,k,i,k,m)∈kN) fun q=>if c then zh L (hg L) k m fun a=>Kq L.hl a q else k2 L (hG L) k m fun a b=>CK (p:=(o,k,i,k,m)) L.hl a b q
 have d (c:Bool):Pl L.b (M5 L) (L.B k):=ud [75,90,76] fun o=>
  if i=7\/i=9 then ud [91,92,67] fun o=>op c o (if o=67 then 22 else k)
  else if i=1\/c then op c o k else op c 91 (Zw i)
 dr [k1 L (hG L) i fun a=>Nf L.hl a h,
  need (k∈tm/\k∈eb) fun q=>f0 [.int 19,.int k,.tup [.int 1,.int 14,.none],.int 8,.int 0] [] fun w=>(Te q.1 q.2 L.hl).up (bE _ _) (bE _ _) (rZ _ (by decide)),
  if i=1 then d false else jx [7,9,16,17] fun o=>need ((o,gV o)∈bO/\o∈([7,9,16,17]:List Int)/\i∈([7,9,16,17]:List Int)) fun q=>k1 L (hG L) (gV o) fun a=>S5 L.hl a q.1 h q.2.1 q.2.2,
  have o:Nat:=if i=1 then 74 else 89
  need ((i,o)∈([(1,74),(7,89),(9,89),(16,89),(17,89)]:List (Int×Nat))) fun q=>k1 L (hG L) k fun a=>Wj L.hl a h q,
  need ((12,k)∈hQ) fun q=>k1 L (hG L) 12 fun a=>yj L.hl a q,
  k1 L (hG L) 12 fun a=>S8 L.hl a h,d false,d true]
noncomputable def wh:List Int:=[7,9,16,17]
noncomputable def Wv (k:Int):Pl L.b (M5 L) (L.B k):=
 have c:=jx wh fun m=>need (m∈wh/\k∈wh) fun q=>k1 L (hG L) m fun a=>S1 L.hl a (oM _ q.1 _ q.2)
 have d:=need ((12,k)∈hQ) fun q=>k1 L (hG L) 12 fun a=>yj L.hl a q
 dr [if k=7\/k=9 then ud [91,95,75,67] fun o=>have m:Int:=if o=67 then 7 else k
    need ((o,k,k,m)∈jh) fun q=>k2 L (hG L) k m fun a b=>D0 L.hl a b q
   else c,c,need ((k,gV k)∈bO) fun q=>k1 L (hG L) (gV k) fun a=>S0 L.hl a q,
  jx wh fun i=>need ((i,gV i)∈bO) fun q=>if h:i=k then k2 L (hG L) (gV i) k fun a b=>Tb L.hl a b (h▸q) else need (i∈wh/\k∈wh) fun z=>k2 L (hG L) (gV i) k fun a b=>Tc L.hl a b q z.1 z.2,
  if h:k=9 then zh L (hg L) k 9 fun a=>h▸Kr L.hl a else need (k∈wh) fun q=>zh L (hg L) k 9 fun a=>Nq L.hl a q,
  if h:k=7 then dr [k2 L (hG L) 12 23 fun a b=>h▸s_call L.hl a b,k1 L (hG L) 19 fun a=>h▸Km L.hl a] else d]
noncomputable def jl:List Int:=[13,12,7,21,22]
noncomputable def Fw (k:Int):Nat->List Int->Pl L.b (M5 L) (L.B k)
 |n+1,l=>jx [13,12,7,21,13,22] fun m=>hZ L (hG L) m (Fw k n (m::l))
 |0,[a]=>need (a∈jl/\k=13) fun q=> .fin [kF L a] (fun A=>[.int 26,.int k,.tup [.tup (A 0).e]]) (fun A=>(A 0).rd) fun _ _ z=>q.2▸Ng L.hl z.1 q.1
 |0,[b,a]=>need (a∈jl/\b∈jl/\k=13) fun q=> .fin [kF L b,kF L a] (fun A=>[.int 26,.int k,.tup [.tup (A 1).e,.tup (A 0).e]]) (fun A=>(A 1).rd++(A 0).rd) fun _ _ z=>q.2.2▸Nh L.hl z.2.1 z.1 q.1 q.2.1
 |0,[c,b,a]=>need (a∈jl/\b∈jl/\c∈jl/\k=13) fun q=> .fin [kF L c,kF L b,kF L a] (fun A=>[.int 26,.int k,.tup [.tup (A 2).e,.tup (A 1).e,.tup (A 0).e]]) (fun A=>(A 2).rd++(A 1).rd++(A 0).rd) fun _ _ z=>q.2.2.2▸Ni L.hl z.2.2.1 z.2.1 z.1 q.1 q.2.1 q.2.2.1
 |0,[d,c,b,a]=>need (a∈jl/\b∈jl/\c∈jl/\d∈jl/\k=13) fun q=> .fin [kF L d,kF L c,kF L b,kF L a] (fun A=>[.int 26,.int k,.tup [.tup (A 3).e,.tup (A 2).e,.tup (A 1).e,.tup (A 0).e]]) (fun A=>(A 3).rd++(A 2).rd++(A 1).rd++(A 0).rd) fun _ _ z=>q.2.2.2.2▸Nj L.hl z.2.2.2.1 z.2.2.1 z.2.1 z.1 q.1 q.2.1 q.2.2.1 q.2.2.2.1
 |0,_=> .bad
abbrev rn (m:Int):Prop:=m∈cY\/m∈eb
noncomputable def Ny (k:Int):Pl L.b (M5 L) (L.B k):=
 have f:=need ((12,k)∈hQ) fun q=>k1 L (hG L) 12 fun a=>yj L.hl a q
 have d:=jx [7,18,21,16,22,1] fun m=>need ((m,12)∈qj/\k=12) fun q=>k1 L (hG L) m fun a=>q.2▸S4 L.hl a q.1
 have c (o:Int):=need (rn o/\k=20) fun q=>k1 L (hG L) o fun a=>q.2▸Nk (o:=o) L.hl a q.1
 have as:=need (rn 12/\k=19) fun q=>k1 L (hG L) 12 fun a=>q.2▸Wl L.hl a q.1
 have e:=need ((12,k)∈tj) fun q=>k1 L (hG L) 12 fun a=>S3 L.hl a q
 if k=13 then .draw 3 fun j=> .act (.int (Int.ofNat (j+1))) (.int (Int.ofNat (j+1))) rfl (Fw L k (j+1) [])
 else if h:k=20 then dr [c 19,c 18,c 21,f0 [.int 25,.int k,.none,.tup [.int 19,.int 25,.tup []],.int 0] [] fun w=>h▸(Nn L.hl).up (bE _ _) (bE _ _) (rZ _ (by decide))]
 else if h:k=12 then dr [d,d,jx [13,19] fun m=>need ((m,k)∈ti) fun q=>k1 L (hG L) m fun a=>S2 L.hl a q,f0 [.int 19,.int k,.tup [.int 1,.int 14,.none],.int 8,.int 0] [] fun w=>h▸(Tf L.hl).up (bE _ _) (bE _ _) (rZ _ (by decide))]
 else if k=19 then dr [as,as,e,e] else .draw 3 fun _=>f
noncomputable def Nz:Pl L.b (M5 L) (L.B 1):=
 have C:=jx [7,16,1,9,17] fun i=>uc .str 0 (if i=1 then 1 else 3) [66,69,70,73] fun o=>need ((o,1,i,gV i,gV i)∈kN) fun q=>k2 L (hG L) (gV i) (gV i) fun a b=>CK (p:=(o,1,i,gV i,gV i)) L.hl a b q
 have T (c:Int->Int->Pl L.b (M5 L) (L.B 1)) (n:Nat):=jx [12,19,7,21,22,13] fun m=>uc .int 0 n [7,19,13,21,18,16,23] (c m)
 dr [dr [.act (.int 15) (.int 15) rfl (k2 L (hG L) 1 1 fun a b=>Wm L.hl a b),.act (.int 16) (.int 16) rfl (k2 L (hG L) 1 1 fun a b=>Wn L.hl a b)],
  jx [7,9,1] fun k=>ud (if k=1 then [66,69] else [70,66]) fun o=>need ((o,1,k,k)∈jh) fun q=>k2 L (hG L) k k fun a b=>D0 L.hl a b q,C,C,
  T (fun m x=>need (rn m/\(x=23\/x∈iJ)) fun q=>k1 L (hG L) m fun a=>Wk L.hl a q.1 q.2) 6,
  T (fun m x=> .call (Wt (aK (by decide) (cj 15 _)) x) (hZ L (hG L) m (
   if q:rn m/\x∈([13,19]:List Int) then .fin [kF L m,nS x] (fun A=>[.int 20,.int 1,.tup (A 0).e,.int x,.int (Int.ofNat ((A 1).j+1))]) (fun A=>(A 0).rd) fun _ _ z=>S6 L.hl z.1 q.1 q.2 z.2.1
   else need (rn m/\(m∈cY->(m,x)∈hQ)/\x∈nR) fun q=> .fin [kF L m,nS x] (fun A=>[.int 20,.int 1,.tup (A 0).e,.int x,.int (Int.ofNat ((A 1).j+1))]) (fun A=>(A 0).rd) fun _ _ z=>S7 L.hl z.1 q.1 q.2.1 q.2.2 z.2.1))) 5,
  k1 L (hG L) 1 fun a=>Td L.hl a]
theorem ue:10<=M5 L:=G1 L 5
theorem I2{w:World} (g:GW w) (r:Rm w (2*L.b+4)) {k:Int} (c:k∈qh):∃e rd a,aQ w a (2*L.b+4)/\Ev (L.G+16) 110 [.obj 15,.int k,.int (gR k),.int L.dep] w.bq (.tup e) a.bq/\L.B k a e rd:=
 runs (vs:=fun k=>[.obj 15,.int k,.int (gR k),.int L.dep]) (fun k=>need ((gR k,k)∈bO) fun h=>Nx L (gR k) k h) 2 4 qh (.refl g) (ue L) (by kernel_rfl) (fun O=>by kernel_rfl) r c
theorem NA{w:World} (g:GW w) (r:Rm w (2*L.b+4)) {k:Int} (c:k∈wh):∃e rd a,aQ w a (2*L.b+4)/\Ev (L.G+16) 112 [.obj 15,.int k,.int L.dep] w.bq (.tup e) a.bq/\L.B k a e rd:=
 runs (vs:=fun k=>[.obj 15,.int k,.int L.dep]) (Wv L) 2 4 wh (.refl g) (ue L) (by kernel_rfl) (fun O=>by kernel_rfl) r c
theorem I3{w:World} (g:GW w) (r:Rm w (2*L.b+4)):∃e rd a,aQ w a (2*L.b+4)/\Ev (L.G+16) 111 [.obj 15,.int L.dep] w.bq (.tup e) a.bq/\L.B 1 a e rd:=
 runs (vs:=fun k=>[.obj 15,.int L.dep]) (fun _=>Nz L) 2 4 [1] (.refl g) (ue L) (by kernel_rfl) (fun O=>by kernel_rfl) r (.head _)
theorem I4{w:World} (g:GW w) (r:Rm w (4*L.b+4)) {k:Int} (c:k∈([12,13,18,19,20,21]:List Int)):∃e rd a,aQ w a (4*L.b+4)/\Ev (L.G+16) 113 [.obj 15,.int k,.int L.dep] w.bq (.tup e) a.bq/\L.B k a e rd:=
 runs (vs:=fun k=>[.obj 15,.int k,.int L.dep]) (Ny L) 4 4 [12,13,18,19,20,21] (.refl g) (ue L) (by kernel_rfl) (fun O=>by kernel_rfl) r c
noncomputable def big{M f:Nat} {vs:List V} (h:L.G+16<=M) (k:Int) (x:Nat) (ok:∀w,GW w->Rm w (x*L.b+4)->∃e rd c,aQ w c (x*L.b+4)/\Ev (L.G+16) f vs w.bq (.tup e) c.bq/\L.B k c e rd):Pl L.b M (L.B k):=
 .call ⟨f,vs,fun a=> .tup a.e,fun a w=>L.B k w a.e a.rd,x,4,fun w g r=>er (ok w g r) fun e rd c s v q=>⟨⟨e,rd,c,0,0⟩,s,v.up h,fun _ le=>q.later le⟩⟩
  (.fin [fun a w=>L.B k w a.e a.rd] (fun A=>(A 0).e) (fun A=>(A 0).rd) fun _ _ q=>q.1)
noncomputable def Ww{M:Nat} (h:L.G+16<=M) (k:Int):Pl L.b M (L.B k):=
 if q:k∈qh then big L h k 2 fun w g r=>I2 L g r q
 else if q:k∈wh then big L h k 2 fun w g r=>NA L g r q
 else if q:k=1 then big L (vs:=[.obj 15,.int L.dep]) (f:=111) h k 2 fun w g r=>q▸I3 L g r
 else need (k∈([12,13,18,19,20,21]:List Int)) fun q=>big L h k 4 fun w g r=>I4 L g r q
end
noncomputable def D6{b M N d s:Nat} (hl:Lv N d s) (hM:16<=M) (k:Int) {P:Pr} (h:∀{w:World} {e rd:List V},Src w e k rd N d s->P w e rd):Pl b M P:=
 need (k∈gk) fun c=> .call ⟨107,[.obj 15,.int k],fun a=> .tup a.e,fun a w=>Src w a.e k a.rd N d s,0,1,fun w g r=>er (Kw hl g r c) fun e rd f s v q=>⟨⟨e,rd,f,0,0⟩,s,v.up hM,fun _ le=>q.later le⟩⟩
  (.fin [fun a w=>Src w a.e k a.rd N d s] (fun A=>(A 0).e) (fun A=>(A 0).rd) fun _ _ q=>h q.1)
noncomputable def wl (w:World):World:=World.mk w.nums w.ct (w.left-1) w.vd w.fd w.gs
noncomputable def Gz:World->Bool:=fun w=>decide (w.left<0)
theorem Ky{w:World}{dep:Int}{N d s b:Nat} (hl:Lv N d s) (g:GW w) (r:Rm w (0*b+1)) {k:Int} (c:k∈gk) (hd:decide (3<dep)=true):∃e rd a,aQ w a (0*b+1)/\Ev 40 108 [.obj 15,.int k,.int dep] w.bq (.tup e) a.bq/\Src a e k rd N d s:=
 runs (b:=b) (M:=39) (P:=fun k w e rd=>Src w e k rd N d s) (vs:=fun k=>[.obj 15,.int k,.int dep]) (fun k=>have lf:=D6 hl (by decide) k id
  .draw 8 fun j=>if j=0 then lf else .test Gz lf (.act (.bool (decide (3<dep))) (.bool true) (congrArg V.bool hd) lf)) 0 1 gk (w1:=wl w) (aQ.left g _) (by decide) (by kernel_rfl) (fun O=>by kernel_rfl) r c
noncomputable def Zx (dep:Int) (L:qR) (k:Int):Pl L.b (L.G+19) (L.B k):=
 have c:L.G<=L.G+19:=G0 L _
 have lf:=D6 L.hl (aK (by decide) (cj 19 _)) k fun q=>q.up (bE _ _) (bE _ _) (rZ _ (by decide))
 have sub:=Ww L (dD (by decide) _) k
 .draw 8 fun j=>if j=0 then lf else .test Gz lf (.test (fun _=>decide (3<dep)) lf (
  if j=1 then hZ L c 1 (hZ L c k (hZ L c k (.fin [kF L k,kF L k,kF L 1] (fun A=>[.int 17,.int k,.tup (A 2).e,.tup (A 1).e,.tup (A 0).e]) (fun A=>(A 2).rd++(A 1).rd++(A 0).rd) fun _ _ q=>Nd L.hl q.2.2.1 q.2.1 q.1)))
  else if j=2 then jx [7,13,22] fun m=>k2 L c m k fun a b=>SY L.hl a b
  else if j=3 then goal L (dD (by decide) _) k (hZ L c k (.fin [kF L k,fun a w=>f5 w a.e k a.rd L.N L.d L.s] (fun A=>[.int 22,.int k,.tup (A 1).e,.tup (A 0).e]) (fun A=>(A 1).rd++(A 0).rd) fun _ _ q=>xO L.hl q.2.1 q.1))
  else if j=4 then
   if h:k∈j9 then .act (.bool true) (.bool true) rfl (k2 L c k k fun a b=>Ta L.hl a b h)
   else if h:(gR k,k)∈bO then k2 L c k k fun a b=>S9 L.hl a b h
   else if k∈([1,7,9]:List Int) then .act (.bool false) (.bool false) rfl sub else sub
  else sub))
theorem Kz{w:World}{dep:Int}{N d s G b:Nat} (hl:Lv N d s) (ih:IH (dep+1) N d s G b) (g:GW w) (r:Rm w (4*b+4)) {k:Int} (c:k∈gk):∃e rd a,aQ w a (4*b+4)/\Ev (G+20) 108 [.obj 15,.int k,.int dep] w.bq (.tup e) a.bq/\Src a e k rd (N+64) (d+14) (10*s):=
 runs (vs:=fun k=>[.obj 15,.int k,.int dep]) (Zx dep ⟨N,d,s,G,b,dep+1,hl,ih⟩) 4 4 gk (w1:=wl w) (aQ.left g _) (aK (by decide) (cj 19 _)) (by kernel_rfl) (fun O=>by kernel_rfl) r c
theorem IH.one{dep:Int} (h:decide (3<dep)=true):IH dep 74 4 10 40 10:=⟨fun w g r k z=>
 er (Ky (b:=10) ⟨by decide,by decide,by decide,by decide,by decide⟩ g (r.gU (aQ.refl g)) z h) fun e rd A st v q=>⟨e,rd,A,st.up,v,q⟩⟩
theorem IH.next{dep:Int}{N d s G b:Nat} (hl:Lv N d s) (C:1<=b) (ih:IH (dep+1) N d s G b):IH dep (N+64) (d+14) (10*s) (G+20) (10*b):=⟨fun w g r k z=>
 er (Kz hl ih g (r.gU (aQ.refl g)) z) fun e rd A st v q=>⟨e,rd,A,st.up,v,q⟩⟩
theorem IH.all:IH 0 330 60 100000 120 100000:=
 IH.next (N:=266) (d:=46) (s:=10000) (G:=100) (b:=10000) ⟨by decide,by decide,by decide,by decide,by decide⟩ (by decide)<|
 IH.next (N:=202) (d:=32) (s:=1000) (G:=80) (b:=1000) ⟨by decide,by decide,by decide,by decide,by decide⟩ (by decide)<|
 IH.next (N:=138) (d:=18) (s:=100) (G:=60) (b:=100) ⟨by decide,by decide,by decide,by decide,by decide⟩ (by decide)<|
 IH.next (N:=74) (d:=4) (s:=10) (G:=40) (b:=10) ⟨by decide,by decide,by decide,by decide,by decide⟩ (by decide)<|IH.one (by decide)
end
theorem fh{b:B}{G L:List Ob} {m:Nat} (j:Nat) (o:Ob) (hG:G.length=m) (a:L.length=j):ia o (b.st (G++L))=some (.obj (m+j+81),b.st (G++(L++[o]))):=by
 rw[v5,dG,hG,a,fE]
theorem fY{b:B}{G L:List Ob} {m:Nat} {j:Nat} {o:Ob} (hG:G.length=m) (h:L[j]?=some o):(b.st (G++L))[m+j+81]?=some o:=by
 rw[mU,ft (De hG),hG,m7,h]
theorem gM{b:B}{G L:List Ob} {m:Nat} {j:Nat} {o:Ob} (hG:G.length=m):(b.st (G++L)).set (m+j+81) o=b.st (G++L.set j o):=by
 rw[Cq,List.set_append_right _ _ (De hG),hG,m7]
theorem jy{b:B}{G L:List Ob} {m j c:Nat} {a:List (Nat×V)} (f:Nat) (v:V) (hG:G.length=m) (h:L[j]?=some (.inst c a)) (hf:(((cy[c]?).getD []).contains f&&decide (3<=c/\a.length<1000))=true):
  toV (setAttr (.obj (m+j+81)) f v) (b.st (G++L))=some (.none,b.st (G++L.set j (.inst c (gI f v a)))):=by
 have d:setAttr (.obj (m+j+81)) f v (b.st (G++L))=some ((),b.st (G++L.set j (.inst c (gI f v a)))):=by
  show(cU (m+j+81) (b.st (G++L))).bind _=_
  unfold cU
  rw[fY hG h]
  show(if _ then _ else _:M Unit) _=_
  rw[if_pos hf]
  show some ((),(b.st (G++L)).set (m+j+81) _)=_
  rw[gM hG]
 unfold toV
 rw[d];rfl
theorem gW{b:B}{G L:List Ob} {m j:Nat} {l l':List (V×V)} (k v:V) (hG:G.length=m) (h:L[j]?=some (.dict l)) (a:(keyOk k&&decide (l.length<=1048576))=true) (c:bY k v l=some l'):
  toV (setItem (.obj (m+j+81)) k v) (b.st (G++L))=some (.none,b.st (G++L.set j (.dict l'))):=by
 have d:setItem (.obj (m+j+81)) k v (b.st (G++L))=some ((),b.st (G++L.set j (.dict l'))):=by
  show(cU (m+j+81) (b.st (G++L))).bind _=_
  unfold cU
  rw[fY hG h]
  show(if(keyOk k&&decide (l.length<=1048576))=true then(do h9 (m+j+81) (.dict (<-lift (bY k v l)))) else fail:M Unit) _=_
  rw[if_pos a,c]
  show some ((),(b.st (G++L)).set (m+j+81) _)=_
  rw[gM hG]
 unfold toV
 rw[d];rfl
noncomputable def LW (m:Nat) (d:List (V×V)) (r:List Ob):List Ob:=ea m:: .list []:: .list []:: .dict d:: .dict []:: .inst 11 []::r
theorem Zy (b:B) (G:List Ob) (m:Nat) (hG:G.length=m):Ev 8 38 [.obj (m+81),.obj 69,.obj 78] (b.st (G++[.inst 12 []])) .none (b.st (G++LW m [] [])):=
 Ev.of [] 5 fun n a=>Ra (jy (b:=b) (m:=m) (j:=0) (L:=[.inst 12 []]) 54 (.obj 69) hG rfl rfl)<|Ra (jy (b:=b) (m:=m) (j:=0) (L:=[.inst 12 [(54,.obj 69)]]) 46 (.obj 1) hG rfl rfl)<|Ra (jy (b:=b) (m:=m) (j:=0) (L:=[.inst 12 [(54,.obj 69),(46,.obj 1)]]) 27 (.obj 2) hG rfl rfl)<|Ra (jy (b:=b) (m:=m) (j:=0) (L:=[.inst 12 [(54,.obj 69),(46,.obj 1),(27,.obj 2)]]) 55 (.obj 78) hG rfl rfl)<|Ra (fh (b:=b) (m:=m) (L:=[.inst 12 [(54,.obj 69),(46,.obj 1),(27,.obj 2),(55,.obj 78)]]) 1 (.list []) hG rfl)<|Ra (jy (b:=b) (m:=m) (j:=0) (L:=[.inst 12 [(54,.obj 69),(46,.obj 1),(27,.obj 2),(55,.obj 78)],.list []]) 56 (.obj (m+82)) hG rfl rfl)<|Ra (jy (b:=b) (m:=m) (j:=0) (L:=[.inst 12 [(54,.obj 69),(46,.obj 1),(27,.obj 2),(55,.obj 78),(56,.obj (m+82))],.list []]) 57 (.int 0) hG rfl rfl)<|Ra (fh (b:=b) (m:=m) (L:=[.inst 12 [(54,.obj 69),(46,.obj 1),(27,.obj 2),(55,.obj 78),(56,.obj (m+82)),(57,.int 0)],.list []]) 2 (.list []) hG rfl)<|Ra (jy (b:=b) (m:=m) (j:=0) (L:=[.inst 12 [(54,.obj 69),(46,.obj 1),(27,.obj 2),(55,.obj 78),(56,.obj (m+82)),(57,.int 0)],.list [],.list []]) 58 (.obj (m+83)) hG rfl rfl)<|Ra (fh (b:=b) (m:=m) (L:=[.inst 12 [(54,.obj 69),(46,.obj 1),(27,.obj 2),(55,.obj 78),(56,.obj (m+82)),(57,.int 0),(58,.obj (m+83))],.list [],.list []]) 3 (.dict []) hG rfl)<|Ra (jy (b:=b) (m:=m) (j:=0) (L:=[.inst 12 [(54,.obj 69),(46,.obj 1),(27,.obj 2),(55,.obj 78),(56,.obj (m+82)),(57,.int 0),(58,.obj (m+83))],.list [],.list [],.dict []]) 59 (.obj (m+84)) hG rfl rfl)<|Ra (fh (b:=b) (m:=m) (L:=[.inst 12 [(54,.obj 69),(46,.obj 1),(27,.obj 2),(55,.obj 78),(56,.obj (m+82)),(57,.int 0),(58,.obj (m+83)),(59,.obj (m+84))],.list [],.list [],.dict []]) 4 (.dict []) hG rfl)<|Ra (jy (b:=b) (m:=m) (j:=0) (L:=[.inst 12 [(54,.obj 69),(46,.obj 1),(27,.obj 2),(55,.obj 78),(56,.obj (m+82)),(57,.int 0),(58,.obj (m+83)),(59,.obj (m+84))],.list [],.list [],.dict [],.dict []]) 60 (.obj (m+85)) hG rfl rfl)<|Ra (fh (b:=b) (m:=m) (L:=[.inst 12 [(54,.obj 69),(46,.obj 1),(27,.obj 2),(55,.obj 78),(56,.obj (m+82)),(57,.int 0),(58,.obj (m+83)),(59,.obj (m+84)),(60,.obj (m+85))],.list [],.list [],.dict [],.dict []]) 5 (.inst 11 []) hG rfl)<|Ra (jy (b:=b) (m:=m) (j:=0) (L:=[.inst 12 [(54,.obj 69),(46,.obj 1),(27,.obj 2),(55,.obj 78),(56,.obj (m+82)),(57,.int 0),(58,.obj (m+83)),(59,.obj (m+84)),(60,.obj (m+85))],.list [],.list [],.dict [],.dict [],.inst 11 []]) 61 (.obj (m+86)) hG rfl rfl) Rd
theorem Zz (b:B) (G:List Ob) (m:Nat) (hG:G.length=m):Ev 8 99 [.obj (m+81)] (b.st (G++LW m [] [])) .none (b.st (G++LW m [(.int 22,.obj (m+87)),(.int 23,.obj (m+88)),(.int 34,.obj (m+89)),(.int 31,.obj (m+90))] [.inst 13 [],.inst 14 [],.inst 15 [],.inst 16 []])):=
 Ev.of [] 5 fun n a=>Ra (fh (b:=b) (m:=m) (L:=LW m [] []) 6 (.inst 13 []) hG rfl)<|Rl (fY (b:=b) (m:=m) (j:=0) (L:=LW m [] [.inst 13 []]) (o:=ea m) hG rfl)<|Ra (gW (b:=b) (m:=m) (j:=3) (L:=LW m [] [.inst 13 []]) (l:=[]) (l':=[(.int 22,.obj (m+87))]) (.int 22) (.obj (m+87)) hG rfl rfl rfl)<|Ra (fh (b:=b) (m:=m) (L:=LW m [(.int 22,.obj (m+87))] [.inst 13 []]) 7 (.inst 14 []) hG rfl)<|Rl (fY (b:=b) (m:=m) (j:=0) (L:=LW m [(.int 22,.obj (m+87))] [.inst 13 [],.inst 14 []]) (o:=ea m) hG rfl)<|Ra (gW (b:=b) (m:=m) (j:=3) (L:=LW m [(.int 22,.obj (m+87))] [.inst 13 [],.inst 14 []]) (l:=[(.int 22,.obj (m+87))]) (l':=[(.int 22,.obj (m+87)),(.int 23,.obj (m+88))]) (.int 23) (.obj (m+88)) hG rfl rfl rfl)<|Ra (fh (b:=b) (m:=m) (L:=LW m [(.int 22,.obj (m+87)),(.int 23,.obj (m+88))] [.inst 13 [],.inst 14 []]) 8 (.inst 15 []) hG rfl)<|Rl (fY (b:=b) (m:=m) (j:=0) (L:=LW m [(.int 22,.obj (m+87)),(.int 23,.obj (m+88))] [.inst 13 [],.inst 14 [],.inst 15 []]) (o:=ea m) hG rfl)<|Ra (gW (b:=b) (m:=m) (j:=3) (L:=LW m [(.int 22,.obj (m+87)),(.int 23,.obj (m+88))] [.inst 13 [],.inst 14 [],.inst 15 []]) (l:=[(.int 22,.obj (m+87)),(.int 23,.obj (m+88))]) (l':=[(.int 22,.obj (m+87)),(.int 23,.obj (m+88)),(.int 34,.obj (m+89))]) (.int 34) (.obj (m+89)) hG rfl rfl rfl)<|Ra (fh (b:=b) (m:=m) (L:=LW m [(.int 22,.obj (m+87)),(.int 23,.obj (m+88)),(.int 34,.obj (m+89))] [.inst 13 [],.inst 14 [],.inst 15 []]) 9 (.inst 16 []) hG rfl)<|Rl (fY (b:=b) (m:=m) (j:=0) (L:=LW m [(.int 22,.obj (m+87)),(.int 23,.obj (m+88)),(.int 34,.obj (m+89))] [.inst 13 [],.inst 14 [],.inst 15 [],.inst 16 []]) (o:=ea m) hG rfl)<|Ra (gW (b:=b) (m:=m) (j:=3) (L:=LW m [(.int 22,.obj (m+87)),(.int 23,.obj (m+88)),(.int 34,.obj (m+89))] [.inst 13 [],.inst 14 [],.inst 15 [],.inst 16 []]) (l:=[(.int 22,.obj (m+87)),(.int 23,.obj (m+88)),(.int 34,.obj (m+89))]) (l':=[(.int 22,.obj (m+87)),(.int 23,.obj (m+88)),(.int 34,.obj (m+89)),(.int 31,.obj (m+90))]) (.int 31) (.obj (m+90)) hG rfl rfl rfl) Rd
theorem Wx (b:B) (G:List Ob) (m:Nat) (hG:G.length=m):Ev 8 100 [.obj (m+81)] (b.st (G++LW m [(.int 22,.obj (m+87)),(.int 23,.obj (m+88)),(.int 34,.obj (m+89)),(.int 31,.obj (m+90))] [.inst 13 [],.inst 14 [],.inst 15 [],.inst 16 []])) .none (b.st (G++LW m [(.int 22,.obj (m+87)),(.int 23,.obj (m+88)),(.int 34,.obj (m+89)),(.int 31,.obj (m+90)),(.int 27,.obj (m+91)),(.int 28,.obj (m+92)),(.int 19,.obj (m+93)),(.int 18,.obj (m+94))] [.inst 13 [],.inst 14 [],.inst 15 [],.inst 16 [],.inst 17 [],.inst 18 [],.inst 19 [],.inst 20 []])):=
 Ev.of [] 5 fun n a=>Ra (fh (b:=b) (m:=m) (L:=LW m [(.int 22,.obj (m+87)),(.int 23,.obj (m+88)),(.int 34,.obj (m+89)),(.int 31,.obj (m+90))] [.inst 13 [],.inst 14 [],.inst 15 [],.inst 16 []]) 10 (.inst 17 []) hG rfl)<|Rl (fY (b:=b) (m:=m) (j:=0) (L:=LW m [(.int 22,.obj (m+87)),(.int 23,.obj (m+88)),(.int 34,.obj (m+89)),(.int 31,.obj (m+90))] [.inst 13 [],.inst 14 [],.inst 15 [],.inst 16 [],.inst 17 []]) (o:=ea m) hG rfl)<|Ra (gW (b:=b) (m:=m) (j:=3) (L:=LW m [(.int 22,.obj (m+87)),(.int 23,.obj (m+88)),(.int 34,.obj (m+89)),(.int 31,.obj (m+90))] [.inst 13 [],.inst 14 [],.inst 15 [],.inst 16 [],.inst 17 []]) (l:=[(.int 22,.obj (m+87)),(.int 23,.obj (m+88)),(.int 34,.obj (m+89)),(.int 31,.obj (m+90))]) (l':=[(.int 22,.obj (m+87)),(.int 23,.obj (m+88)),(.int 34,.obj (m+89)),(.int 31,.obj (m+90)),(.int 27,.obj (m+91))]) (.int 27) (.obj (m+91)) hG rfl rfl rfl)<|Ra (fh (b:=b) (m:=m) (L:=LW m [(.int 22,.obj (m+87)),(.int 23,.obj (m+88)),(.int 34,.obj (m+89)),(.int 31,.obj (m+90)),(.int 27,.obj (m+91))] [.inst 13 [],.inst 14 [],.inst 15 [],.inst 16 [],.inst 17 []]) 11 (.inst 18 []) hG rfl)<|Rl (fY (b:=b) (m:=m) (j:=0) (L:=LW m [(.int 22,.obj (m+87)),(.int 23,.obj (m+88)),(.int 34,.obj (m+89)),(.int 31,.obj (m+90)),(.int 27,.obj (m+91))] [.inst 13 [],.inst 14 [],.inst 15 [],.inst 16 [],.inst 17 [],.inst 18 []]) (o:=ea m) hG rfl)<|Ra (gW (b:=b) (m:=m) (j:=3) (L:=LW m [(.int 22,.obj (m+87)),(.int 23,.obj (m+88)),(.int 34,.obj (m+89)),(.int 31,.obj (m+90)),(.int 27,.obj (m+91))] [.inst 13 [],.inst 14 [],.inst 15 [],.inst 16 [],.inst 17 [],.inst 18 []]) (l:=[(.int 22,.obj (m+87)),(.int 23,.obj (m+88)),(.int 34,.obj (m+89)),(.int 31,.obj (m+90)),(.int 27,.obj (m+91))]) (l':=[(.int 22,.obj (m+87)),(.int 23,.obj (m+88)),(.int 34,.obj (m+89)),(.int 31,.obj (m+90)),(.int 27,.obj (m+91)),(.int 28,.obj (m+92))]) (.int 28) (.obj (m+92)) hG rfl rfl rfl)<|Ra (fh (b:=b) (m:=m) (L:=LW m [(.int 22,.obj (m+87)),(.int 23,.obj (m+88)),(.int 34,.obj (m+89)),(.int 31,.obj (m+90)),(.int 27,.obj (m+91)),(.int 28,.obj (m+92))] [.inst 13 [],.inst 14 [],.inst 15 [],.inst 16 [],.inst 17 [],.inst 18 []]) 12 (.inst 19 []) hG rfl)<|Rl (fY (b:=b) (m:=m) (j:=0) (L:=LW m [(.int 22,.obj (m+87)),(.int 23,.obj (m+88)),(.int 34,.obj (m+89)),(.int 31,.obj (m+90)),(.int 27,.obj (m+91)),(.int 28,.obj (m+92))] [.inst 13 [],.inst 14 [],.inst 15 [],.inst 16 [],.inst 17 [],.inst 18 [],.inst 19 []]) (o:=ea m) hG rfl)<|Ra (gW (b:=b) (m:=m) (j:=3) (L:=LW m [(.int 22,.obj (m+87)),(.int 23,.obj (m+88)),(.int 34,.obj (m+89)),(.int 31,.obj (m+90)),(.int 27,.obj (m+91)),(.int 28,.obj (m+92))] [.inst 13 [],.inst 14 [],.inst 15 [],.inst 16 [],.inst 17 [],.inst 18 [],.inst 19 []]) (l:=[(.int 22,.obj (m+87)),(.int 23,.obj (m+88)),(.int 34,.obj (m+89)),(.int 31,.obj (m+90)),(.int 27,.obj (m+91)),(.int 28,.obj (m+92))]) (l':=[(.int 22,.obj (m+87)),(.int 23,.obj (m+88)),(.int 34,.obj (m+89)),(.int 31,.obj (m+90)),(.int 27,.obj (m+91)),(.int 28,.obj (m+92)),(.int 19,.obj (m+93))]) (.int 19) (.obj (m+93)) hG rfl rfl rfl)<|Ra (fh (b:=b) (m:=m) (L:=LW m [(.int 22,.obj (m+87)),(.int 23,.obj (m+88)),(.int 34,.obj (m+89)),(.int 31,.obj (m+90)),(.int 27,.obj (m+91)),(.int 28,.obj (m+92)),(.int 19,.obj (m+93))] [.inst 13 [],.inst 14 [],.inst 15 [],.inst 16 [],.inst 17 [],.inst 18 [],.inst 19 []]) 13 (.inst 20 []) hG rfl)<|Rl (fY (b:=b) (m:=m) (j:=0) (L:=LW m [(.int 22,.obj (m+87)),(.int 23,.obj (m+88)),(.int 34,.obj (m+89)),(.int 31,.obj (m+90)),(.int 27,.obj (m+91)),(.int 28,.obj (m+92)),(.int 19,.obj (m+93))] [.inst 13 [],.inst 14 [],.inst 15 [],.inst 16 [],.inst 17 [],.inst 18 [],.inst 19 [],.inst 20 []]) (o:=ea m) hG rfl)<|Ra (gW (b:=b) (m:=m) (j:=3) (L:=LW m [(.int 22,.obj (m+87)),(.int 23,.obj (m+88)),(.int 34,.obj (m+89)),(.int 31,.obj (m+90)),(.int 27,.obj (m+91)),(.int 28,.obj (m+92)),(.int 19,.obj (m+93))] [.inst 13 [],.inst 14 [],.inst 15 [],.inst 16 [],.inst 17 [],.inst 18 [],.inst 19 [],.inst 20 []]) (l:=[(.int 22,.obj (m+87)),(.int 23,.obj (m+88)),(.int 34,.obj (m+89)),(.int 31,.obj (m+90)),(.int 27,.obj (m+91)),(.int 28,.obj (m+92)),(.int 19,.obj (m+93))]) (l':=[(.int 22,.obj (m+87)),(.int 23,.obj (m+88)),(.int 34,.obj (m+89)),(.int 31,.obj (m+90)),(.int 27,.obj (m+91)),(.int 28,.obj (m+92)),(.int 19,.obj (m+93)),(.int 18,.obj (m+94))]) (.int 18) (.obj (m+94)) hG rfl rfl rfl) Rd
theorem Wy (b:B) (G:List Ob) (m:Nat) (hG:G.length=m):Ev 8 101 [.obj (m+81)] (b.st (G++LW m [(.int 22,.obj (m+87)),(.int 23,.obj (m+88)),(.int 34,.obj (m+89)),(.int 31,.obj (m+90)),(.int 27,.obj (m+91)),(.int 28,.obj (m+92)),(.int 19,.obj (m+93)),(.int 18,.obj (m+94))] [.inst 13 [],.inst 14 [],.inst 15 [],.inst 16 [],.inst 17 [],.inst 18 [],.inst 19 [],.inst 20 []])) .none (b.st (G++LW m [(.int 22,.obj (m+87)),(.int 23,.obj (m+88)),(.int 34,.obj (m+89)),(.int 31,.obj (m+90)),(.int 27,.obj (m+91)),(.int 28,.obj (m+92)),(.int 19,.obj (m+93)),(.int 18,.obj (m+94)),(.int 20,.obj (m+95)),(.int 21,.obj (m+96))] [.inst 13 [],.inst 14 [],.inst 15 [],.inst 16 [],.inst 17 [],.inst 18 [],.inst 19 [],.inst 20 [],.inst 21 [],.inst 22 []])):=
 Ev.of [] 5 fun n a=>Ra (fh (b:=b) (m:=m) (L:=LW m [(.int 22,.obj (m+87)),(.int 23,.obj (m+88)),(.int 34,.obj (m+89)),(.int 31,.obj (m+90)),(.int 27,.obj (m+91)),(.int 28,.obj (m+92)),(.int 19,.obj (m+93)),(.int 18,.obj (m+94))] [.inst 13 [],.inst 14 [],.inst 15 [],.inst 16 [],.inst 17 [],.inst 18 [],.inst 19 [],.inst 20 []]) 14 (.inst 21 []) hG rfl)<|Rl (fY (b:=b) (m:=m) (j:=0) (L:=LW m [(.int 22,.obj (m+87)),(.int 23,.obj (m+88)),(.int 34,.obj (m+89)),(.int 31,.obj (m+90)),(.int 27,.obj (m+91)),(.int 28,.obj (m+92)),(.int 19,.obj (m+93)),(.int 18,.obj (m+94))] [.inst 13 [],.inst 14 [],.inst 15 [],.inst 16 [],.inst 17 [],.inst 18 [],.inst 19 [],.inst 20 [],.inst 21 []]) (o:=ea m) hG rfl)<|Ra (gW (b:=b) (m:=m) (j:=3) (L:=LW m [(.int 22,.obj (m+87)),(.int 23,.obj (m+88)),(.int 34,.obj (m+89)),(.int 31,.obj (m+90)),(.int 27,.obj (m+91)),(.int 28,.obj (m+92)),(.int 19,.obj (m+93)),(.int 18,.obj (m+94))] [.inst 13 [],.inst 14 [],.inst 15 [],.inst 16 [],.inst 17 [],.inst 18 [],.inst 19 [],.inst 20 [],.inst 21 []]) (l:=[(.int 22,.obj (m+87)),(.int 23,.obj (m+88)),(.int 34,.obj (m+89)),(.int 31,.obj (m+90)),(.int 27,.obj (m+91)),(.int 28,.obj (m+92)),(.int 19,.obj (m+93)),(.int 18,.obj (m+94))]) (l':=[(.int 22,.obj (m+87)),(.int 23,.obj (m+88)),(.int 34,.obj (m+89)),(.int 31,.obj (m+90)),(.int 27,.obj (m+91)),(.int 28,.obj (m+92)),(.int 19,.obj (m+93)),(.int 18,.obj (m+94)),(.int 20,.obj (m+95))]) (.int 20) (.obj (m+95)) hG rfl rfl rfl)<|Ra (fh (b:=b) (m:=m) (L:=LW m [(.int 22,.obj (m+87)),(.int 23,.obj (m+88)),(.int 34,.obj (m+89)),(.int 31,.obj (m+90)),(.int 27,.obj (m+91)),(.int 28,.obj (m+92)),(.int 19,.obj (m+93)),(.int 18,.obj (m+94)),(.int 20,.obj (m+95))] [.inst 13 [],.inst 14 [],.inst 15 [],.inst 16 [],.inst 17 [],.inst 18 [],.inst 19 [],.inst 20 [],.inst 21 []]) 15 (.inst 22 []) hG rfl)<|Rl (fY (b:=b) (m:=m) (j:=0) (L:=LW m [(.int 22,.obj (m+87)),(.int 23,.obj (m+88)),(.int 34,.obj (m+89)),(.int 31,.obj (m+90)),(.int 27,.obj (m+91)),(.int 28,.obj (m+92)),(.int 19,.obj (m+93)),(.int 18,.obj (m+94)),(.int 20,.obj (m+95))] [.inst 13 [],.inst 14 [],.inst 15 [],.inst 16 [],.inst 17 [],.inst 18 [],.inst 19 [],.inst 20 [],.inst 21 [],.inst 22 []]) (o:=ea m) hG rfl)<|Ra (gW (b:=b) (m:=m) (j:=3) (L:=LW m [(.int 22,.obj (m+87)),(.int 23,.obj (m+88)),(.int 34,.obj (m+89)),(.int 31,.obj (m+90)),(.int 27,.obj (m+91)),(.int 28,.obj (m+92)),(.int 19,.obj (m+93)),(.int 18,.obj (m+94)),(.int 20,.obj (m+95))] [.inst 13 [],.inst 14 [],.inst 15 [],.inst 16 [],.inst 17 [],.inst 18 [],.inst 19 [],.inst 20 [],.inst 21 [],.inst 22 []]) (l:=[(.int 22,.obj (m+87)),(.int 23,.obj (m+88)),(.int 34,.obj (m+89)),(.int 31,.obj (m+90)),(.int 27,.obj (m+91)),(.int 28,.obj (m+92)),(.int 19,.obj (m+93)),(.int 18,.obj (m+94)),(.int 20,.obj (m+95))]) (l':=[(.int 22,.obj (m+87)),(.int 23,.obj (m+88)),(.int 34,.obj (m+89)),(.int 31,.obj (m+90)),(.int 27,.obj (m+91)),(.int 28,.obj (m+92)),(.int 19,.obj (m+93)),(.int 18,.obj (m+94)),(.int 20,.obj (m+95)),(.int 21,.obj (m+96))]) (.int 21) (.obj (m+96)) hG rfl rfl rfl) Rd
theorem Wz (b:B) (G:List Ob) (m:Nat) (hG:G.length=m):Ev 8 102 [.obj (m+81)] (b.st (G++LW m [(.int 22,.obj (m+87)),(.int 23,.obj (m+88)),(.int 34,.obj (m+89)),(.int 31,.obj (m+90)),(.int 27,.obj (m+91)),(.int 28,.obj (m+92)),(.int 19,.obj (m+93)),(.int 18,.obj (m+94)),(.int 20,.obj (m+95)),(.int 21,.obj (m+96))] [.inst 13 [],.inst 14 [],.inst 15 [],.inst 16 [],.inst 17 [],.inst 18 [],.inst 19 [],.inst 20 [],.inst 21 [],.inst 22 []])) .none (b.st (G++LW m [(.int 22,.obj (m+87)),(.int 23,.obj (m+88)),(.int 34,.obj (m+89)),(.int 31,.obj (m+90)),(.int 27,.obj (m+91)),(.int 28,.obj (m+92)),(.int 19,.obj (m+93)),(.int 18,.obj (m+94)),(.int 20,.obj (m+95)),(.int 21,.obj (m+96)),(.int 26,.obj (m+97)),(.int 25,.obj (m+98)),(.int 24,.obj (m+99))] [.inst 13 [],.inst 14 [],.inst 15 [],.inst 16 [],.inst 17 [],.inst 18 [],.inst 19 [],.inst 20 [],.inst 21 [],.inst 22 [],.inst 23 [],.inst 24 [],.inst 25 []])):=
 Ev.of [] 5 fun n a=>Ra (fh (b:=b) (m:=m) (L:=LW m [(.int 22,.obj (m+87)),(.int 23,.obj (m+88)),(.int 34,.obj (m+89)),(.int 31,.obj (m+90)),(.int 27,.obj (m+91)),(.int 28,.obj (m+92)),(.int 19,.obj (m+93)),(.int 18,.obj (m+94)),(.int 20,.obj (m+95)),(.int 21,.obj (m+96))] [.inst 13 [],.inst 14 [],.inst 15 [],.inst 16 [],.inst 17 [],.inst 18 [],.inst 19 [],.inst 20 [],.inst 21 [],.inst 22 []]) 16 (.inst 23 []) hG rfl)<|Rl (fY (b:=b) (m:=m) (j:=0) (L:=LW m [(.int 22,.obj (m+87)),(.int 23,.obj (m+88)),(.int 34,.obj (m+89)),(.int 31,.obj (m+90)),(.int 27,.obj (m+91)),(.int 28,.obj (m+92)),(.int 19,.obj (m+93)),(.int 18,.obj (m+94)),(.int 20,.obj (m+95)),(.int 21,.obj (m+96))] [.inst 13 [],.inst 14 [],.inst 15 [],.inst 16 [],.inst 17 [],.inst 18 [],.inst 19 [],.inst 20 [],.inst 21 [],.inst 22 [],.inst 23 []]) (o:=ea m) hG rfl)<|Ra (gW (b:=b) (m:=m) (j:=3) (L:=LW m [(.int 22,.obj (m+87)),(.int 23,.obj (m+88)),(.int 34,.obj (m+89)),(.int 31,.obj (m+90)),(.int 27,.obj (m+91)),(.int 28,.obj (m+92)),(.int 19,.obj (m+93)),(.int 18,.obj (m+94)),(.int 20,.obj (m+95)),(.int 21,.obj (m+96))] [.inst 13 [],.inst 14 [],.inst 15 [],.inst 16 [],.inst 17 [],.inst 18 [],.inst 19 [],.inst 20 [],.inst 21 [],.inst 22 [],.inst 23 []]) (l:=[(.int 22,.obj (m+87)),(.int 23,.obj (m+88)),(.int 34,.obj (m+89)),(.int 31,.obj (m+90)),(.int 27,.obj (m+91)),(.int 28,.obj (m+92)),(.int 19,.obj (m+93)),(.int 18,.obj (m+94)),(.int 20,.obj (m+95)),(.int 21,.obj (m+96))]) (l':=[(.int 22,.obj (m+87)),(.int 23,.obj (m+88)),(.int 34,.obj (m+89)),(.int 31,.obj (m+90)),(.int 27,.obj (m+91)),(.int 28,.obj (m+92)),(.int 19,.obj (m+93)),(.int 18,.obj (m+94)),(.int 20,.obj (m+95)),(.int 21,.obj (m+96)),(.int 26,.obj (m+97))]) (.int 26) (.obj (m+97)) hG rfl rfl rfl)<|Ra (fh (b:=b) (m:=m) (L:=LW m [(.int 22,.obj (m+87)),(.int 23,.obj (m+88)),(.int 34,.obj (m+89)),(.int 31,.obj (m+90)),(.int 27,.obj (m+91)),(.int 28,.obj (m+92)),(.int 19,.obj (m+93)),(.int 18,.obj (m+94)),(.int 20,.obj (m+95)),(.int 21,.obj (m+96)),(.int 26,.obj (m+97))] [.inst 13 [],.inst 14 [],.inst 15 [],.inst 16 [],.inst 17 [],.inst 18 [],.inst 19 [],.inst 20 [],.inst 21 [],.inst 22 [],.inst 23 []]) 17 (.inst 24 []) hG rfl)<|Rl (fY (b:=b) (m:=m) (j:=0) (L:=LW m [(.int 22,.obj (m+87)),(.int 23,.obj (m+88)),(.int 34,.obj (m+89)),(.int 31,.obj (m+90)),(.int 27,.obj (m+91)),(.int 28,.obj (m+92)),(.int 19,.obj (m+93)),(.int 18,.obj (m+94)),(.int 20,.obj (m+95)),(.int 21,.obj (m+96)),(.int 26,.obj (m+97))] [.inst 13 [],.inst 14 [],.inst 15 [],.inst 16 [],.inst 17 [],.inst 18 [],.inst 19 [],.inst 20 [],.inst 21 [],.inst 22 [],.inst 23 [],.inst 24 []]) (o:=ea m) hG rfl)<|Ra (gW (b:=b) (m:=m) (j:=3) (L:=LW m [(.int 22,.obj (m+87)),(.int 23,.obj (m+88)),(.int 34,.obj (m+89)),(.int 31,.obj (m+90)),(.int 27,.obj (m+91)),(.int 28,.obj (m+92)),(.int 19,.obj (m+93)),(.int 18,.obj (m+94)),(.int 20,.obj (m+95)),(.int 21,.obj (m+96)),(.int 26,.obj (m+97))] [.inst 13 [],.inst 14 [],.inst 15 [],.inst 16 [],.inst 17 [],.inst 18 [],.inst 19 [],.inst 20 [],.inst 21 [],.inst 22 [],.inst 23 [],.inst 24 []]) (l:=[(.int 22,.obj (m+87)),(.int 23,.obj (m+88)),(.int 34,.obj (m+89)),(.int 31,.obj (m+90)),(.int 27,.obj (m+91)),(.int 28,.obj (m+92)),(.int 19,.obj (m+93)),(.int 18,.obj (m+94)),(.int 20,.obj (m+95)),(.int 21,.obj (m+96)),(.int 26,.obj (m+97))]) (l':=[(.int 22,.obj (m+87)),(.int 23,.obj (m+88)),(.int 34,.obj (m+89)),(.int 31,.obj (m+90)),(.int 27,.obj (m+91)),(.int 28,.obj (m+92)),(.int 19,.obj (m+93)),(.int 18,.obj (m+94)),(.int 20,.obj (m+95)),(.int 21,.obj (m+96)),(.int 26,.obj (m+97)),(.int 25,.obj (m+98))]) (.int 25) (.obj (m+98)) hG rfl rfl rfl)<|Ra (fh (b:=b) (m:=m) (L:=LW m [(.int 22,.obj (m+87)),(.int 23,.obj (m+88)),(.int 34,.obj (m+89)),(.int 31,.obj (m+90)),(.int 27,.obj (m+91)),(.int 28,.obj (m+92)),(.int 19,.obj (m+93)),(.int 18,.obj (m+94)),(.int 20,.obj (m+95)),(.int 21,.obj (m+96)),(.int 26,.obj (m+97)),(.int 25,.obj (m+98))] [.inst 13 [],.inst 14 [],.inst 15 [],.inst 16 [],.inst 17 [],.inst 18 [],.inst 19 [],.inst 20 [],.inst 21 [],.inst 22 [],.inst 23 [],.inst 24 []]) 18 (.inst 25 []) hG rfl)<|Rl (fY (b:=b) (m:=m) (j:=0) (L:=LW m [(.int 22,.obj (m+87)),(.int 23,.obj (m+88)),(.int 34,.obj (m+89)),(.int 31,.obj (m+90)),(.int 27,.obj (m+91)),(.int 28,.obj (m+92)),(.int 19,.obj (m+93)),(.int 18,.obj (m+94)),(.int 20,.obj (m+95)),(.int 21,.obj (m+96)),(.int 26,.obj (m+97)),(.int 25,.obj (m+98))] [.inst 13 [],.inst 14 [],.inst 15 [],.inst 16 [],.inst 17 [],.inst 18 [],.inst 19 [],.inst 20 [],.inst 21 [],.inst 22 [],.inst 23 [],.inst 24 [],.inst 25 []]) (o:=ea m) hG rfl)<|Ra (gW (b:=b) (m:=m) (j:=3) (L:=LW m [(.int 22,.obj (m+87)),(.int 23,.obj (m+88)),(.int 34,.obj (m+89)),(.int 31,.obj (m+90)),(.int 27,.obj (m+91)),(.int 28,.obj (m+92)),(.int 19,.obj (m+93)),(.int 18,.obj (m+94)),(.int 20,.obj (m+95)),(.int 21,.obj (m+96)),(.int 26,.obj (m+97)),(.int 25,.obj (m+98))] [.inst 13 [],.inst 14 [],.inst 15 [],.inst 16 [],.inst 17 [],.inst 18 [],.inst 19 [],.inst 20 [],.inst 21 [],.inst 22 [],.inst 23 [],.inst 24 [],.inst 25 []]) (l:=[(.int 22,.obj (m+87)),(.int 23,.obj (m+88)),(.int 34,.obj (m+89)),(.int 31,.obj (m+90)),(.int 27,.obj (m+91)),(.int 28,.obj (m+92)),(.int 19,.obj (m+93)),(.int 18,.obj (m+94)),(.int 20,.obj (m+95)),(.int 21,.obj (m+96)),(.int 26,.obj (m+97)),(.int 25,.obj (m+98))]) (l':=[(.int 22,.obj (m+87)),(.int 23,.obj (m+88)),(.int 34,.obj (m+89)),(.int 31,.obj (m+90)),(.int 27,.obj (m+91)),(.int 28,.obj (m+92)),(.int 19,.obj (m+93)),(.int 18,.obj (m+94)),(.int 20,.obj (m+95)),(.int 21,.obj (m+96)),(.int 26,.obj (m+97)),(.int 25,.obj (m+98)),(.int 24,.obj (m+99))]) (.int 24) (.obj (m+99)) hG rfl rfl rfl) Rd
theorem WA (b:B) (G:List Ob) (m:Nat) (hG:G.length=m):Ev 12 103 [.obj (m+81)] (b.st (G++LW m [] [])) .none (b.st (G++ht m)):=
 Ev.of [99,100,101,102] 4 fun n a=>Rc 1 (Zz b G m hG)<|Rc 1 (Wx b G m hG)<|Rc 1 (Wy b G m hG)<|Rc 1 (Wz b G m hG) Rd
theorem NB (w:World):w.st []=(B.mk w.nums w.ct w.left w.vd w.fd (.none::bu 0 w.gs) (bR 0 w.gs)).st (bW 0 w.gs++ht w.gs.length):=by
 unfold World.st
 simp only[cL,fq,eZ,cP]
theorem KA:(run PP 345 123 [.lst []] []).map (·.1)=some (.bool true):=by kernel_rfl
theorem KC (n:Nat) (v:V):run PP (n+1) 123 [v]=(cM (Kn n) (fC 20 [v]) iz>>=fin):=by kernel_rfl
noncomputable def WB (c:Cm) (_ b:Ex):Bool:=match c with
 | .eq=>(match b with| .cn _=>false|_=>true)
 | .isin=>true
 |_=>false
noncomputable def GA (ev:List Nat) (m:Nat):o5:={oR PP 0 (mj ev 1 (eO PP ev m 1)) with mi:=WB,p5:=fun _ _ _=>false}
theorem NC (ev:List Nat) (n m:Nat) (h:m<=n):zK PP (n+1) (Kn n) (GA ev m):=by
 have:=uN (P:=PP) (n:=n+1) (f:=0) (r:=run PP n) (q:=mj ev 1 (eO PP ev m 1)) fun g a=>Rf.bif (uM (n:=n+1) (c:=0) g a) (rD PP ev (n+1) m 1 g a (Pm h))
 exact⟨this.fn,this.new,this.aZ⟩
theorem CP{n:Nat}{env c:Env} {a b:List Sm} {st s:St} (h:cM (Kn n) env a st=some ((.next,c),s)):tl (Kn n) env (a++b) st=tl (Kn n) c b s:=by
 show(cM (Kn n) env (a++b) st).bind _=(cM (Kn n) c b s).bind _
 rw[rt,h];rfl
noncomputable def bA:List Sm:=iz.take 2
noncomputable def bB:List Sm:=(iz.drop 2).take 20
noncomputable def bC:List Sm:=(iz.drop 22).take 8
noncomputable def bD:List Sm:=iz.drop 31
noncomputable def bF:List Sm:=(iz.drop 30).take 1
theorem ZZ:iz=bA++(bB++(bC++(bF++bD))):=by kernel_rfl
noncomputable def zi (v:V):Env:=[.v v,.v (.obj 0),.un,.un,.un,.un,.un,.un,.un,.un,.un,.un,.un,.un,.un,.un,.un,.un,.un,.un]
noncomputable def rU:List Int:=[7,1,9,13,22,24,23,25,26,12,19,16,20,21,18]
noncomputable def Fx (v:V):Env:=[.v v,.v (.obj 0),.v (.obj 1),.v (.obj 2),.v (.obj 15),.v (.int 18),.v (.tup [.int 5,.int 5,.int 2,.int 1,.int 4]),.v (.obj 69),.v (.obj 78),.v (.tup (rU.map .int)),.un,.un,.un,.un,.un,.un,.un,.un,.un,.un]
theorem I5 (v:V) (nums:List V):cM (Kn 344) (zi v) bB [.list nums]=some ((.next,Fx v),(World.mk nums 0 11 [] [] []).bq):=by kernel_rfl
mutual
theorem KD:∀v:V,v.plain=true->V.beq v v=true
 | .none,_=>rfl
 | .bool _,h=>nomatch h
 | .int i,_=>beq_self_eq_true (α:=Int) i
 | .str n,_=>beq_self_eq_true (α:=Nat) n
 | .tup l,h=>rx l h
 | .lst l,h=>rx l h
 | .bZ _ _,h=>nomatch h
 | .obj _,h=>nomatch h
theorem rx:∀l:List V,V.bG l=true->V.eX l l=true
 |[],_=>rfl
 |a::r,h=>by
  have b:=bK.mp (show(V.plain a&&V.bG r)=true from h)
  show(V.beq a a&&V.eX r r)=true
  rw[KD a b.1,rx r b.2];rfl
end
theorem HT{t:List V} (c:V.bG t=true) (hd:V.dy t+1<=60) (st:St):ey (cmp .eq (.tup t) (.tup t)) st=some (.bool true,st):=by
 have e:cmp .eq (.tup t) (.tup t) st=(if V.deep (.tup t)<=60/\V.deep (.tup t)<=60 then lift (V.eq (.tup t) (.tup t)) else fail) st:=by kernel_rfl
 have a:V.deep (.tup t)<=60:=hd
 have d:V.eq (.tup t) (.tup t)=some true:=by
  show(if V.plain (.tup t)&&V.plain (.tup t) then some (V.beq (.tup t) (.tup t)) else Option.none)=_
  have b:V.plain (.tup t)=true:=c
  rw[b]
  show some (V.eX t t)=_
  rw[rx t c]
 unfold ey
 rw[e,if_pos ⟨a,a⟩,d];rfl
theorem KG{x:Int}{l:List V} (hl:bT l) (h:V.int x∈l) (st:St):ey (cmp .isin (.int x) (.lst l)) st=some (.bool true,st):=by
 have e:cmp .isin (.int x) (.lst l) st=(if(V.plain (.int x)&&V.bG l)&&decide (V.deep (.int x)<=60) then pure (l.any fun y=>V.beq y (.int x)) else fail:M Bool) st:=by kernel_rfl
 have a:((V.plain (.int x)&&V.bG l)&&decide (V.deep (.int x)<=60))=true:=by rw[hl.bG];rfl
 have b:(l.any fun y=>V.beq y (.int x))=true:=List.any_eq_true.mpr ⟨_,h,beq_self_eq_true (α:=Int) x⟩
 unfold ey
 rw[e,if_pos a,b];rfl
theorem KH (w:World) (ts:List Int) (i:Nat) (k:Int) (h:ts[i]?=some k):(w.st ts)[w.gs.length+i+100]?=some (hE (Int.ofNat (w.gs.length+i+1)) 62 k 32):=by
 show(w.st ts)[w.gs.length+i+19+81]?=_
 unfold World.st
 rw[mU,ft (by rw[gZ];exact Po),gZ,show w.gs.length+i+19-w.gs.length=19+i by exact Pp]
 have a:(ht w.gs.length).length=19:=rfl
 rw[ft (by rw[a];exact CS),a,show 19+i-19=i by exact CT,u9 _ _ _ _ h]
theorem CQ (w:World) (ts:List Int) (h:w.room ts):lenOf (.obj 71) (w.st ts)=some (.int (Int.ofNat (w.gs.length+ts.length+1)),w.st ts):=by
 have hl:(V.none::(bu 0 w.gs++cL w.gs.length ts)).length=w.gs.length+ts.length+1:=by rw[bU,dG,gC,oG]
 have e:=xU (B.mk w.nums w.ct w.left w.vd w.fd (.none::(bu 0 w.gs++cL w.gs.length ts)) (bR 0 w.gs++fq w.gs.length ts)) (bW 0 w.gs++(ht w.gs.length++eZ w.gs.length ts)) (by show(V.none::(bu 0 w.gs++cL w.gs.length ts)).length<_;rw[hl];unfold World.room at h;exact Pt h)
 have a:(B.mk w.nums w.ct w.left w.vd w.fd (.none::(bu 0 w.gs++cL w.gs.length ts)) (bR 0 w.gs++fq w.gs.length ts)).vl.length=w.gs.length+ts.length+1:=hl
 rw[a] at e
 exact e
theorem ND (w:World) (h:w.gs.length<=1000000):lenOf (.obj 71) w.bq=some (.int (Int.ofNat (w.gs.length+1)),w.bq):=by
 have hl:(V.none::bu 0 w.gs).length=w.gs.length+1:=by rw[bU,gC]
 have e:=xU (B.mk w.nums w.ct w.left w.vd w.fd (.none::bu 0 w.gs) (bR 0 w.gs)) (bW 0 w.gs) (by show(V.none::bu 0 w.gs).length<_;rw[hl];exact Pu h)
 have a:(B.mk w.nums w.ct w.left w.vd w.fd (.none::bu 0 w.gs) (bR 0 w.gs)).vl.length=w.gs.length+1:=hl
 rw[a] at e
 exact e
theorem KI (w:World) (ts:List Int) (h:w.room ts):slice (.obj 71) (some (w.gs.length+1)) Option.none (w.st ts)=some (.lst (cL w.gs.length ts),w.st ts):=by
 have e:slice (.obj 71) (some (w.gs.length+1)) Option.none (w.st ts)=lift ((jN (.none::(bu 0 w.gs++cL w.gs.length ts)) (some (w.gs.length+1)) Option.none).map .lst) (w.st ts):=by kernel_rfl
 rw[e]
 unfold World.room at h
 have c:jN (.none::(bu 0 w.gs++cL w.gs.length ts)) (some (w.gs.length+1)) Option.none=some (cL w.gs.length ts):=by
  unfold jN
  rw[if_pos (by rw[bU,dG,gC,oG];exact CR h)]
  show(if w.gs.length+1<2147483648 then some ((bu 0 w.gs++cL w.gs.length ts).drop w.gs.length) else Option.none)=_
  rw[if_pos (Pw h)]
  have:(bu 0 w.gs++cL w.gs.length ts).drop w.gs.length=cL w.gs.length ts:=by
   have:=List.drop_left (l₁:=bu 0 w.gs) (l₂:=cL w.gs.length ts)
   rwa [gC] at this
  rw[this]
 rw[c];rfl
theorem NF (w:World) (ts:List Int):ey (cmp .eq (.obj (w.gs.length+82)) (.lst [])) (w.st ts)=some (.bool true,w.st ts):=by
 unfold ey
 show Option.map _ ((cU (w.gs.length+82) (w.st ts)).bind _)=_
 unfold cU
 rw[W1 w ts];rfl
noncomputable def Fy (ev:List Nat) (m:Nat) (env:Env) (a:List Sm) (k:Env->M V):RM V:=jq (GA ev m) env a>>=fun x=>match x with
 |(.next,en)=>hP (k en)
 |(.ret v,_)=>pure v
theorem rI{ev:List Nat} {m n:Nat} {env:Env} {a:List Sm} {k:Env->M V} {st s:St} {v:V} (h:m<=n) (r:Rn (n+1) (Fy ev m env a k st) v s):gv (Kn n) env a k st=some (v,s):=by
 have q:Rf PP (n+1) (gv (Kn n) env a k) (Fy ev m env a k):=Rf.bind (jC (NC ev n m h) env a) fun x=>by
  obtain⟨fl,en⟩:=x
  cases fl with
  |next=>exact Rf.act _
  |ret v=>exact Rf.pure _
 exact q st (v,s) r
noncomputable def z8:List Sm:=match bF with
 |[.dh _ _ b]=>b
 |_=>[]
noncomputable def qS (n:Nat) (refs:List V) (env:Env):M V:=ml (Kn n) 17 z8 (fun en=>tl (Kn n) en bD) refs env
theorem I6 (n:Nat) (a:V) (r:List V) (env:Env) (st:St):qS n (a::r) env st=gv (Kn n) (env.set 17 (.v a)) z8 (fun en=>qS n r en) st:=rfl
theorem NG{n:Nat}{env:Env}{refs:List V} {st:St} (h:env[14]?=some (.v (.lst refs))) (hl:refs.length<=1048576):tl (Kn n) env (bF++bD) st=qS n refs env st:=by
 have a:bF=[.dh 17 (.lc 14) z8]:=by kernel_rfl
 have e0:aG (Kn n) env (.lc 14) st=some (.lst refs,st):=by
  show(match(env[14]?:Option Slot) with|some (.v x)=>pure x|_=>fail:M V) st=_
  rw[h];rfl
 rw[a,fw]
 exact o7 e0 (tf hl st)
noncomputable def l7 (v:V) (m:Nat) (e t:List V) (news wr:List V) (x:Slot):Env:=[.v v,.v (.obj 0),.v (.obj 1),.v (.obj 2),.v (.obj 15),.v (.int 18),.v (.tup [.int 5,.int 5,.int 2,.int 1,.int 4]),.v (.obj 69),.v (.obj 78),.v (.tup (rU.map .int)),.v (.tup e),.v (.int (Int.ofNat (m+1))),.v (.obj (m+81)),.v (.tup t),.v (.lst news),.v (.lst wr),.v (.bool true),x,.un,.un]
theorem ZA (l:List Int) {j:Nat} (h:j<l.length) (hl:l.length<=100):∃m∈l,∀st,item (.tup (l.map .int)) (.int (Int.ofNat j)) st=some (.int m,st):=
 ⟨l[j],List.getElem_mem h,fun st=>by
  show lift (if j<2147483648 then(l.map V.int)[j]? else Option.none) st=_
  rw[if_pos (Nat.lt_trans (pD h hl) (by decide)),nx,iq h];rfl⟩
theorem WC (st:St):ey (cmp .eq (.tup [.int 32,.int 1]) (.tup [.int 32,.int 1])) st=some (.bool true,st):=by kernel_rfl
theorem NH{w:World}{ts:List Int} {t e rd wr news:List V} {k:Int} {d s:Nat} {x:Slot} (v:V) (g:Good w ts t k rd wr d s) (hd:d<=60) (a:w.room ts):
  tl (Kn 344) (l7 v w.gs.length e t news wr x) bD (w.st ts)=some (.bool true,w.st ts):=by
 have h:gv (Kn 344) (l7 v w.gs.length e t news wr x) bD (fun en=>tl (Kn 344) en []) (w.st ts)=some (.bool true,w.st ts):=by
  refine rI (ev:=[45]) (m:=4) (by decide) ?_
  exact Ra (CQ w ts a)<|RL w ts<|Rc 2 (g.fix ts ⟨dN,a⟩)<|Ra (HT g.pl (by have:=g.dp;exact Px hd this) (w.st ts))<|Ra (CQ w ts a)<|Ra (fi (Int.ofNat (w.gs.length+ts.length+1)) (w.st ts)) Rd
 have q:tl (Kn 344) (l7 v w.gs.length e t news wr x) (bD++[]) (w.st ts)=gv (Kn 344) (l7 v w.gs.length e t news wr x) bD (fun en=>tl (Kn 344) en []) (w.st ts):=by
  show(cM (Kn 344) _ (bD++[]) (w.st ts)).bind _=(cM (Kn 344) _ bD (w.st ts)).bind _
  rw[rt]
  cases cM (Kn 344) (l7 v w.gs.length e t news wr x) bD (w.st ts) with
  |none=>rfl
  |some p=>
   obtain⟨⟨fl,en⟩,s'⟩:=p
   cases fl<;>rfl
 rw[cP] at q
 rw[q,h]
theorem B7{w:World}{ts:List Int} {t e rd wr news:List V} {k:Int} {d s:Nat} (v:V) (g:Good w ts t k rd wr d s) (hd:d<=60) (c:w.room ts) (f:bx w 0 ts.length wr):
  ∀(r:List Int) (i:Nat) (x:Slot),(∀j k,r[j]?=some k->ts[i+j]?=some k)->qS 344 (cL (w.gs.length+i) r) (l7 v w.gs.length e t news wr x) (w.st ts)=some (.bool true,w.st ts)
 |[],i,x,_=>NH v g hd c
 |a::r,i,x,h=>by
  have ih:=B7 (e:=e) (news:=news) v g hd c f r (i+1) (.v (.obj (w.gs.length+i+100))) (fun j k q=>by
   have:=h (j+1) k q
   rwa [show i+(j+1)=i+1+j by exact Pz] at this)
  have b:=h 0 a rfl
  rw[jG] at b
  have l:i<ts.length:=(et.mp b).1
  have lk:=KH w ts i a b
  show qS 344 (.obj (w.gs.length+i+100)::cL (w.gs.length+i+1) r) _ _=_
  rw[I6]
  refine rI (ev:=[]) (m:=4) (by decide) ?_
  exact Rl lk<|Ra (KG (x:=Int.ofNat (w.gs.length+i+1)) g.iw (f i (dt _) l) (w.st ts))<|Rl lk<|Rl lk<|Ra (WC (w.st ts))<|Ra ih Rd
noncomputable def num (n:Int):Int:=Int.fmod n 1000000000
theorem B8 (K:cF) (env:Env) (b:Ex) (x:Nat) (f:Int->Int) (hf:∀n st,aG K (env.set x (.v (.int n))) b st=some (.int (f n),st)):∀(l:List Int) (st:St),
  ((l.map V.int).mapM fun v=>aG K (env.set x (.v v)) b) st=some ((l.map f).map .int,st)
 |[],st=>rfl
 |a::r,st=>by
  rw[eV,pK]
  show(aG K (env.set x (.v (.int a))) b st).bind _=_
  rw[hf a st]
  show(((r.map V.int).mapM fun v=>aG K (env.set x (.v v)) b) st).bind _=_
  rw[B8 K env b x f hf r st];rfl
noncomputable def GB:List Sm:=[.asg 1 (.hA (.bn .mod (.lc 18) (.cn (.int 1000000000))) 18 (.eP (.lc 0) (.cn (.int 40))))]
noncomputable def ZC:List Sm:=iz.drop 1|>.take 1
theorem I7:iz=GB++(ZC++(bB++(bC++(bF++bD)))):=by kernel_rfl
theorem I8 (ns:List Int) (hl:ns.length<=63):cM (Kn 344) (fC 20 [.lst (ns.map .int)]) GB []=some ((.next,zi (.lst (ns.map .int))),[.list (((ns.take 40).map num).map .int)]):=by
 have a:aG (Kn 344) (fC 20 [.lst (ns.map .int)]) (.eP (.lc 0) (.cn (.int 40))) []=some (.lst ((ns.take 40).map .int),[]):=by
  have q:aG (Kn 344) (fC 20 [.lst (ns.map .int)]) (.eP (.lc 0) (.cn (.int 40))) []=lift ((jN (ns.map .int) Option.none (some 40)).map .lst) []:=by kernel_rfl
  rw[q]
  unfold jN
  rw[if_pos (by rw[eU];exact PA hl)]
  show lift (Option.map V.lst (if 40<2147483648 then some ((ns.map V.int).take 40) else Option.none)) []=_
  rw[if_pos (by decide),<-List.map_take];rfl
 have hm:=B8 (Kn 344) (fC 20 [.lst (ns.map .int)]) (.bn .mod (.lc 18) (.cn (.int 1000000000))) 18 num (fun n st=>by kernel_rfl) (ns.take 40) []
 have b:aG (Kn 344) (fC 20 [.lst (ns.map .int)]) (.hA (.bn .mod (.lc 18) (.cn (.int 1000000000))) 18 (.eP (.lc 0) (.cn (.int 40)))) []=some (.obj 0,[.list (((ns.take 40).map num).map .int)]):=by
  show(aG (Kn 344) _ (.eP (.lc 0) (.cn (.int 40))) []).bind _=_
  rw[a]
  show(((if((ns.take 40).map V.int).length<=1048576 then pure ((ns.take 40).map V.int) else fail:M (List V)) []).bind _:Option _)=_
  rw[if_pos (by rw[eU,pH];exact PB)]
  show Option.bind ((List.mapM (m:=M) (fun v=>aG (Kn 344) ((fC 20 [.lst (ns.map .int)]).set 18 (.v v)) (.bn .mod (.lc 18) (.cn (.int 1000000000)))) ((ns.take 40).map V.int)) []) _=_
  rw[hm];rfl
 show(Option.bind (Option.bind (aG (Kn 344) _ _ []) _) _)=_
 rw[b];rfl
theorem Tu (x:V) (l:List V) (h:l.length<2147483000):lenOf (.obj 0) [.list (x::l)]=some (.int (Int.ofNat (l.length+1)),[.list (x::l)]):=by
 show lift (small (x::l).length) _=_
 rw[small,if_pos (by rw[bU];exact PC h)];rfl
theorem I9:∀k∈rU,k∈gk:=by decide
theorem Ja (a:Int) (r:List Int) (hl:(a::r).length<=63):∃st,run PP 345 123 [.lst ((a::r).map .int)] []=some (.bool true,st):=by
 have N:run PP 345 123 [.lst ((a::r).map .int)] []=tl (Kn 344) (fC 20 [.lst ((a::r).map .int)]) iz []:=by rw[KC];rfl
 rw[N,I7,CP (I8 (a::r) hl),fw]
 generalize V.lst ((a::r).map .int)=v
 rw[List.take_succ_cons,eV,eV]
 have u:((r.take 39).map num).length<=39:=by rw[eU,pH];exact PD
 have O:∀n∈num a::(r.take 39).map num,0<=n/\n<10000000000:=by
  have q:∀n,0<=num n/\num n<10000000000:=fun n=>⟨wx _ (by decide),by have:=Int.fmod_lt_of_pos n (show(0:Int)<1000000000 by decide);unfold num;exact PE this⟩
  intro n w
  rcases bP.mp w with h|h
  ·subst h;exact q a
  ·refine aN (km.mp h) fun x _ g=>?_;obtain rfl:=g
   exact q x
 have g0:GW (World.mk (V.int (num a)::((r.take 39).map num).map V.int) 0 11 [] [] []):=
  ⟨⟨num a::(r.take 39).map num,rfl,by simp,by rw[bU];exact PF u,O⟩,Int.le_refl 0,⟨[],rfl,aO _,fun _ _ h=>nomatch h⟩,⟨[],rfl,fun _ _ h=>nomatch h⟩⟩
 have r0:Rm (World.mk (V.int (num a)::((r.take 39).map num).map V.int) 0 11 [] [] []) 100000:=⟨by show 0+100000<=300000;exact Df,by show 0+100000<=300000;exact Df⟩
 have hf:=Tu (V.int (num a)) (((r.take 39).map num).map V.int) (by rw[eU];exact PG u)
 generalize ((r.take 39).map num).map V.int=nl at g0 r0 hf⊢
 have c:=I5 v (V.int (num a)::nl)
 generalize C:World.mk (V.int (num a)::nl) 0 11 [] [] []=D at g0 r0 c
 refine da (B5 g0 15 (by decide)) fun j w1 Q i _ T=>?_
 refine aN (ZA rU Q (by decide)) fun k U Y=>?_
 refine er (IH.all.run w1 i.gw (r0.gU i) k (I9 k U)) fun e rd b E v2 l=>?_
 have M:aQ D b (0+100000):=i.trans E
 have G:b.gs.length<=300000:=by have:=M.gl;have:=r0.1;exact Qc (by assumption) this
 obtain⟨t,ts,wr,_,w,v3,d,H⟩:=l.low b (.refl b) [] dN
 have e0:D.gs.length=0:=by rw[<-C];rfl
 have I:=M.gl
 have y:rd.length<=1000000:=by have:=d.sz;exact PH this
 have J:wr.length<=1000000:=by have:=d.sz;exact PI this
 simp only[hI] at w
 have A:b.room ts:=by unfold World.room;exact PJ G w
 have lt:Later b ts ts:=⟨dN,A⟩
 have hG:(bW 0 b.gs).length=b.gs.length:=gZ _ _
 have nw:ia (.inst 12 []) b.bq=some (.obj (b.gs.length+81),(B.mk b.nums b.ct b.left b.vd b.fd (.none::bu 0 b.gs) (bR 0 b.gs)).st (bW 0 b.gs++[.inst 12 []])):=by
  have q:=v5 (B.mk b.nums b.ct b.left b.vd b.fd (.none::bu 0 b.gs) (bR 0 b.gs)) (bW 0 b.gs) (.inst 12 [])
  rw[hG] at q;exact q
 have L:=Zy (B.mk b.nums b.ct b.left b.vd b.fd (.none::bu 0 b.gs) (bR 0 b.gs)) (bW 0 b.gs) b.gs.length hG
 have f:=WA (B.mk b.nums b.ct b.left b.vd b.fd (.none::bu 0 b.gs) (bR 0 b.gs)) (bW 0 b.gs) b.gs.length hG
 rw[<-NB] at f
 refine dm d.bJ fun c1 r1 o=>?_;obtain rfl:=o
 refine dm l.hY fun c2 r2 p=>?_;obtain rfl:=p
 have z:tl (Kn 344) (l7 v b.gs.length (.int c2:: .int k::r2) (.int c1:: .int k::r1) (cL b.gs.length ts) wr .un) (bF++bD) (b.st ts)=some (.bool true,b.st ts):=by
  rw[NG (refs:=cL b.gs.length ts) rfl (by rw[oG];exact PK w)]
  exact B7 v d (aO _) A H ts 0 .un (fun j k q=>by rwa [dq])
 have hC:tl (Kn 344) (Fx v) (bC++(bF++bD)) D.bq=some (.bool true,b.st ts):=by
  rw[fw]
  refine rI (ev:=[104,108,38,103,45,122,118,117]) (m:=4) (by decide) ?_
  refine Rc 1 T<|Ra (Y w1.bq)<|Rc 1 v2<|Ra (ND b (PL e0 I))<|Ra nw<|Rc 1 L<|Rc 1 f<|RL b []<|Rc 2 (v3 A)<|Ra (KI b ts A)<|Rc 1 (d.oe J (b.st ts))<|Ra (fi k (b.st ts))<|Rc 1 (d.snd ts lt)<|Rc 1 (d.jr y (b.st ts))<|Rc 1 (l.cR.jr y (b.st ts))<|Ra (q9 d.ir (b.st ts))<|RL b ts<|Ra (NF b ts)<|Ra z Rd
 refine⟨b.st ts,rI (ev:=[]) (m:=2) (by decide) ?_⟩
 refine Ra hf<|Ra (m:=tl (Kn 344) (zi v) (bB++(bC++(bF++bD)))) (st:=[.list (V.int (num a)::nl)]) (v:= .bool true) (s:=b.st ts) ?_ Rd
 rw[CP c]
 exact hC
theorem ZG:∀ns:List Int,ns.length<=63->∃N st,N<=345/\run PP N 123 [.lst (ns.map .int)] []=some (.bool true,st):=by
 intro ns hl
 cases ns with
 |nil=>
  have h:=KA
  cases q:run PP 345 123 [.lst []] [] with
  |none=>rw[q] at h;nomatch h
  |some p=>
   rw[q] at h
   obtain⟨x,st⟩:=p
   obtain rfl:=aR h
   exact⟨345,st,aO _,q⟩
 |cons a r=>
  obtain⟨st,h⟩:=Ja a r hl
  exact⟨345,st,aO _,h⟩
end
end Q
end Mine
theorem PySem.Challenge.cw_sy0010_01_holds : PySem.Challenge.rw_sy0010_01.Holds :=
  ⟨Mine.ws, Mine.Z0 (Mine.Z8 (Mine.ZX Mine.Q.ZG)) (PySem.W.row_said Mine.ws)⟩
