import PyProof.Rows.All
import Wide.All
import OpenK.AllK
import Wide.FinOn
import PySem.Challenge.RW_tn0003_01
set_option Elab.async false
set_option autoImplicit false
set_option maxRecDepth 100000
set_option maxHeartbeats 0
set_option linter.all false
set_option backward.eqns.nonrecursive false
set_option genSizeOf false
set_option bootstrap.genMatcherCode false
set_option tactic.hygienic false
namespace Mine.Internal
theorem eC{a b:Nat}(d:Nat.ble (a+1) b=true):a<b:=Nat.le_of_ble_eq_true d
theorem d0{a b c:Nat}(h:a≤b)(d:Nat.ble b c=true):a≤c:=Nat.le_trans h (Nat.le_of_ble_eq_true d)
theorem nGe{a b c:Nat}(h:b≤c)(d:Nat.ble a b=true):a≤c:=Nat.le_trans (Nat.le_of_ble_eq_true d) h
theorem mL{a b c k:Nat}(h:b≤c+k)(d:Nat.ble (a+k) b=true):a≤c:=Nat.le_of_add_le_add_right (nGe h d)
theorem tR{a b c k j:Nat}(h:b≤c+k)(d:Nat.ble (a+k) (b+j)=true):a≤c+j:=Nat.le_of_add_le_add_right (show a+k≤c+j+k from Nat.add_right_comm c j k▸Nat.le_trans (Nat.le_of_ble_eq_true d) (Nat.add_le_add_right h j))
theorem bD0{a b c:Nat}(h:a<b)(d:Nat.ble b c=true):a<c:=d0 h d
theorem sA{a b c:Nat}(h:a≤b)(d:Nat.ble (b+1) c=true):a<c:=Nat.le_trans (Nat.succ_le_succ h) (Nat.le_of_ble_eq_true d)
theorem bD1{a b c:Nat}(h:a<b)(d:Nat.ble b (c+1)=true):a≤c:=Nat.le_of_succ_le_succ (d0 h d)
theorem gP{z a b:Nat}(d:Nat.beq a b=false):z+a≠z+b:=fun h=>Nat.ne_of_beq_eq_false d (Nat.add_left_cancel h)
theorem cA6{z b:Nat}(d:Nat.beq 0 b=false):z≠z+b:=gP (z:=z) (a:=0) d
theorem y4{z b:Nat}(d:Nat.beq 0 b=false):z+b≠z:=(cA6 d).symm
theorem qA{z a b:Nat}(d:Nat.ble a b=true):z+a≤z+b:=Nat.add_le_add_left (Nat.le_of_ble_eq_true d) z
theorem xQ{z b:Nat}:z≤z+b:=Nat.le_add_right z b
theorem nAS{z a b:Nat}(d:Nat.ble (a+1) b=true):z+a<z+b:=Nat.add_lt_add_left (Nat.lt_of_succ_le (Nat.le_of_ble_eq_true d)) z
theorem nA1{z b:Nat}(d:Nat.ble 1 b=true):z<z+b:=nAS (z:=z) (a:=0) d
theorem nAB{z a b c:Nat}(h:z+b≤c)(d:Nat.ble a b=true):z+a≤c:=Nat.le_trans (qA d) h
theorem kD{z b c:Nat}(h:z+b≤c):z≤c:=Nat.le_trans xQ h
theorem xP{z a b c:Nat}(h:z+b≤c)(d:Nat.ble (a+1) b=true):z+a<c:=Nat.lt_of_lt_of_le (nAS d) h
theorem nAu{z b c:Nat}(h:z+b≤c)(d:Nat.ble 1 b=true):z<c:=xP (z:=z) (a:=0) h d
theorem nRt{z a b c d:Nat}(h:z+b≤c)(e:Nat.ble (a+c+1) (b+d)=true):z+a<d:=
 Nat.lt_of_add_lt_add_right (n:=b) (Nat.lt_of_le_of_lt (Nat.le_trans (Nat.le_of_eq (Nat.add_right_comm z a b)) (Nat.add_le_add_right h a)) (Nat.lt_of_le_of_lt (Nat.le_of_eq (Nat.add_comm c a)) (Nat.lt_of_lt_of_eq (Nat.le_of_ble_eq_true e) (Nat.add_comm b d))))
theorem nRa{z a c d:Nat}(h:z≤c)(e:Nat.ble (c+a) d=true):z+a≤d:=Nat.le_trans (Nat.add_le_add_right h a) (Nat.le_of_ble_eq_true e)
theorem nRb{z a c d:Nat}(h:z≤c)(e:Nat.ble (c+a+1) d=true):z+a<d:=Nat.lt_of_le_of_lt (Nat.add_le_add_right h a) (eC e)
theorem nRc{z a c d:Nat}(h:z<c)(e:Nat.ble (c+a) d=true):z+a<d:=Nat.lt_of_lt_of_le (Nat.add_lt_add_right h a) (Nat.le_of_ble_eq_true e)
theorem xL{k n j:Nat}(h:k≤n)(d:Nat.ble j k=true):n=n-j+j:=(Nat.sub_add_cancel (nGe h d)).symm
theorem tO{a b:Nat}(h:b<a):a≠b:=(Nat.ne_of_lt h).symm
theorem sB{a b c x:Nat}(e:a=b)(h:b≤c)(d:Nat.ble c x=true):a≤x:=e▸d0 h d
theorem dO9{a b c x:Nat}(e:b=a)(h:b≤c)(d:Nat.ble c x=true):a≤x:=e▸d0 h d
theorem xO{a b c:Nat}(h:a<b)(e:c=b):a<c:=e▸h
theorem aF5{a b c:Nat}(h:a<b)(e:b=c):a<c:=e▸h
theorem dI7{a b c:Nat}(h:a≤b)(e:c=b):a≤c:=e▸h
theorem nCt{i c:Nat}(h:i<c):((i:Nat):Int)<(c:Int):=Int.ofNat_lt.mpr h
theorem tS{j:Nat}:(0:Int)≤(j:Int):=Int.natCast_nonneg j
theorem nCz{j:Nat}:¬(j:Int)<0:=Int.not_lt.mpr tS
theorem nNl{a b:Nat}(h:¬a<b):b≤a:=Nat.le_of_not_lt h
theorem nEz{a:Nat}:0+a=a:=Nat.zero_add a
theorem nNx{z a b i:Nat}(d:Nat.ble (b+1) a=true):z+a+i≠z+b:=(Nat.ne_of_lt (Nat.lt_of_lt_of_le (nAS d) (Nat.le_add_right _ i))).symm
theorem nNy{z i j:Nat}(h:i≠j):z+i≠z+j:=fun q=>h (Nat.add_left_cancel q)
theorem nNj{z i j:Nat}(h:i<j):z+i≠z+j:=nNy (Nat.ne_of_lt h)
theorem xN{z a b c:Nat}(h:z+b≤c)(d:Nat.ble (a+1) b=true):c≠z+a:=(Nat.ne_of_lt (xP h d)).symm
theorem rH{z a n:Nat}(h:n<z):n≠z+a:=Nat.ne_of_lt (Nat.lt_of_lt_of_le h (Nat.le_add_right z a))
theorem nLn{i a:Nat}(h:i<a+1)(e:¬i=a):i<a:=Nat.lt_of_le_of_ne (Nat.le_of_lt_succ h) e
theorem nLs{a b c:Nat}(h:a<b)(g:b≤c):a+1≤c:=Nat.lt_of_lt_of_le h g
theorem nSl{a b:Nat}(h:a<b):a+1≤b:=h
theorem nAD{z b c:Nat}(h:z+b≤c):b≤c:=Nat.le_trans (Nat.le_add_left b z) h
theorem nMq{q a:Nat}(h:q<400):(400-(q+1))*401+400<(400-q)*401+(400-a):=by
 rw[show 400-q=(400-(q+1))+1 from(Nat.succ_pred_eq_of_pos (Nat.sub_pos_of_lt h)).symm,Nat.succ_mul]
 exact Nat.lt_of_lt_of_le (Nat.add_lt_add_left (eC rfl) _) (Nat.le_add_right _ _)
theorem nMs{q a l:Nat}(h:a<l)(g:l≤400):(400-q)*401+(400-(a+1))<(400-q)*401+(400-a):=Nat.add_lt_add_left (Nat.sub_lt_sub_left (Nat.lt_of_lt_of_le h g) (Nat.lt_succ_self a)) _
theorem nIy{a:Nat}{k:Int}(d:decide (k<0)=true):k<(a:Int):=Int.lt_of_lt_of_le (of_decide_eq_true d) (Int.natCast_nonneg a)
theorem nIx{a b:Nat}{k:Int}(h:a≤b)(d:decide ((b:Int)<k)=true):(a:Int)<k:=Int.lt_of_le_of_lt (Int.ofNat_le.mpr h) (of_decide_eq_true d)
theorem nIw{a b:Nat}{k:Int}(h:a≤b)(d:decide ((b:Int)≤k)=true):(a:Int)≤k:=Int.le_trans (Int.ofNat_le.mpr h) (of_decide_eq_true d)
theorem nIv{a b:Nat}{k:Int}(h:a<b)(d:decide ((b:Int)≤k)=true):(a:Int)<k:=Int.lt_of_lt_of_le (Int.ofNat_lt.mpr h) (of_decide_eq_true d)
theorem nIl{a b:Nat}(h:a≤b):(a:Int)≤b:=Int.ofNat_le.mpr h
theorem nR1{z n k c:Nat}(h:z+(n+1)+k≤c):z+1+n+k≤c:=Nat.le_trans (Nat.le_of_eq (congrArg (· +k) (Nat.add_right_comm z 1 n))) h
theorem nR2{z n c:Nat}(h:z+(n+1)≤c):z+1+n≤c:=nR1 (k:=0) h
theorem nR3{z n c:Nat}(h:z+(n+1)=c):z+1+n=c:=(Nat.add_right_comm z 1 n).trans h
theorem nR4{k m n:Nat}(h:k+(m+1)=n):k<n:=Nat.lt_of_lt_of_le (Nat.lt_add_of_pos_right (Nat.succ_pos m)) (Nat.le_of_eq h)
theorem nR6{k m n c:Nat}(h:k+(m+1)=n)(g:n≤c):k<c:=Nat.lt_of_lt_of_le (nR4 h) g
theorem nR5{a n:Nat}(h:a=n+1):n<a:=h▸Nat.lt_succ_self n
theorem nM6{z w a c:Nat}(h:z+(w+a)<c):z+a<c:=Nat.lt_of_le_of_lt (Nat.add_le_add_left (Nat.le_add_left a w) z) h
theorem nM7{t s w a c:Nat}(k:t≤s+a)(h:s+(w+a)<c):t+w<c:=Nat.lt_of_le_of_lt (Nat.add_le_add_right k w) (Nat.lt_of_le_of_lt (Nat.le_of_eq ((Nat.add_assoc s a w).trans (congrArg (s+ ·) (Nat.add_comm a w)))) h)
theorem nM8{t1 t2 s a w:Nat}(k:t1≤s+a)(g:t2≤t1+w):t2≤s+(w+a):=Nat.le_trans g (Nat.le_trans (Nat.add_le_add_right k w) (Nat.le_of_eq ((Nat.add_assoc s a w).trans (congrArg (s+ ·) (Nat.add_comm a w)))))
theorem nM9{t1 t2 s a b c:Nat}(k:t1≤s+a)(g:t2≤t1+b)(e:Nat.ble (b+a) c=true):t2≤s+c:=Nat.le_trans (nM8 k g) (qA e)
theorem nIi{a b:Nat}(h:(a:Int)=b):a=b:=Int.ofNat.inj h
theorem t9{a b:Int}(d:decide (a≤b)=true):a≤b:=of_decide_eq_true d
theorem iDt{a b:Int}(d:decide (a<b)=true):a<b:=of_decide_eq_true d
theorem iDn{a b:Int}(d:decide (a<b)=false):¬a<b:=of_decide_eq_false d
theorem nTn{n:Int}(h:0≤n):n=(n.toNat:Int):=(Int.toNat_of_nonneg h).symm
theorem nNn{a b:Nat}(h:b≤a):¬a<b:=Nat.not_lt.mpr h
theorem nNo{a b:Nat}(h:a<b):¬(a:Int)≥b:=Int.not_le.mpr (Int.ofNat_lt.mpr h)
theorem nNq{a b c:Nat}(h:b≤a)(d:Nat.ble (c+1) b=true):¬a=c:=fun q=>Nat.not_succ_le_self _ (Nat.le_trans (Nat.le_of_ble_eq_true d) (q▸h))
theorem iNq{a b c:Int}(h:b≤a)(d:decide (c<b)=true):¬a=c:=fun q=>Int.not_le.mpr (of_decide_eq_true d) (q▸h)
theorem iNr{a b c:Int}(h:a≤b)(d:decide (b<c)=true):¬a=c:=fun q=>Int.not_le.mpr (of_decide_eq_true d) (q▸h)
theorem nF1{a b:Nat}{P:Prop}(h:a<b)(g:b≤a):P:=absurd g (Nat.not_le_of_lt h)
theorem nQb{a b c k:Nat}(h:a≤b+k)(g:b≤c):a≤c+k:=Nat.le_trans h (Nat.add_le_add_right g k)
theorem nQc{a b k c d:Nat}(h:a≤b+k)(g:b≤c)(e:Nat.ble (c+k) d=true):a≤d:=d0 (nQb h g) e
theorem nQg{z a b c d k:Nat}(h:z≤b+c)(g:b+d<a)(e:Nat.ble (c+k) d=true):z+k<a:=Nat.lt_of_le_of_lt (Nat.le_trans (Nat.add_le_add_right h k) (Nat.add_assoc b c k▸qA e)) g
theorem nQf{z a b c d:Nat}(h:z≤b+c)(g:b+d<a)(e:Nat.ble c d=true):z<a:=nQg (k:=0) h g e
theorem dP0{a b k:Nat}(h:a+k=b+k):a=b:=Nat.add_right_cancel h
theorem tQ{a b k:Nat}(h:a+k≤b+k):a≤b:=Nat.le_of_add_le_add_right h
theorem nAp{a b c d:Nat}(h:a≤b)(g:c≤d):a+c≤b+d:=Nat.add_le_add h g
theorem nAr{a b c d m:Nat}(h:a≤b)(g:c≤d)(e:Nat.ble (b+d) m=true):a+c≤m:=d0 (nAp h g) e
theorem dX{k a:Nat}{l:List Nat}(h:k≠a)(g:k∉l):k∉a::l:=fun q=>(List.mem_cons.mp q).elim h g
theorem j7{k:Nat}:k∉([]:List Nat):=fun q=>nomatch q
theorem kY{α:Type}{a:α}{l:List α}{p:α→Prop}(h:p a)(g:∀x∈l,p x):∀x∈a::l,p x:=fun _ q=>(List.mem_cons.mp q).elim (fun e=>e▸h) (g _)
theorem sV{α:Type}{p:α→Prop}:∀x∈([]:List α),p x:=fun _ q=>nomatch q
theorem nL2{a b c d:Nat}(h:a≤b)(g:b≤c)(e:Nat.ble c d=true):a≤d:=d0 (Nat.le_trans h g) e
theorem nT2{a b c d:Nat}(h:a<b)(g:b≤c)(e:Nat.ble c (d+1)=true):a≤d:=bD1 (Nat.lt_of_lt_of_le h g) e
theorem nT3{a b c d:Nat}(h:a<b)(g:b≤c)(e:Nat.ble c d=true):a<d:=Nat.lt_of_lt_of_le (Nat.lt_of_lt_of_le h g) (Nat.le_of_ble_eq_true e)
theorem nM1{z w b c d a:Nat}(h:z+w+b≤c)(e:Nat.ble (a+c+1) (b+d)=true):z+a<d:=nRt (z:=z) (b:=b) (Nat.le_trans (Nat.add_le_add_right (Nat.le_add_right z w) b) h) e
theorem nM2{z w b c d:Nat}(h:z+w+b≤c)(e:Nat.ble (c+1) (b+d)=true):z<d:=nM1 (a:=0) h (by rw[Nat.zero_add];exact e)
theorem nM3{z w c d:Nat}(h:z+w≤c)(e:Nat.ble c d=true):z≤d:=d0 (Nat.le_trans (Nat.le_add_right z w) h) e
theorem nM4{z w c d:Nat}(h:w+z≤c)(e:Nat.ble c d=true):z≤d:=d0 (Nat.le_trans (Nat.le_add_left z w) h) e
theorem xK{m k n:Nat}(h:m+k≤n)(d:Nat.ble 1 k=true):n=n-1+1:=xL (nGe (Nat.le_trans (Nat.le_add_left k m) h) d) rfl
theorem l9{a b c:Int}(h:b≤c)(d:decide (a≤b)=true):a≤c:=Int.le_trans (of_decide_eq_true d) h
theorem iLe{a b c:Int}(h:a≤b)(d:decide (b≤c)=true):a≤c:=Int.le_trans h (of_decide_eq_true d)
theorem xY{a b c:Int}(h:a≤b)(d:decide (b<c)=true):a<c:=Int.lt_of_le_of_lt h (of_decide_eq_true d)
theorem nM5{z w b c a k d:Nat}(h:z+w+b≤c)(e:Nat.ble (a+k+c+1) (b+d)=true):z+a+k<d:=Nat.add_assoc z a k▸nM1 h e
theorem nTm{j n:Int}(h:j≤n)(d:decide (0≤j)=true):n=(n.toNat:Int):=nTn (l9 h d)
local macro_rules | `(tactic| omega) => `(tactic| lia)
theorem aN{α:Type}{a:α}{P:Prop}(h:none=some a):P:=nomatch h
theorem aF6{α:Type}{a:α}{P:Prop}(h:some a=none):P:=nomatch h
theorem c7{P:Prop}(h:false=true):P:=nomatch h
theorem kP{P:Prop}(h:true=false):P:=nomatch h
theorem cT{α:Type}{a b:α}{P:Prop}(h:some a=some b)(k:b=a→P):P:=k (Option.some.inj h).symm
theorem dN{α β:Type}{a c:α}{b d:β}{P:Prop}(h:some (a,b)=some (c,d))(k:c=a→d=b→P):P:=cT h fun h=>k (Prod.mk.inj h).1 (Prod.mk.inj h).2
theorem qY{α β γ:Type}{a d:α}{b e:β}{c f:γ}{P:Prop}(h:some (a,b,c)=some (d,e,f))(k:d=a→e=b→f=c→P):P:=dN h fun p h=>k p (Prod.mk.inj h).1 (Prod.mk.inj h).2
inductive V where
 |none
 |bool (b:Bool)
 |int (i:Int)
 |str (s:String)
 |tup (l:List V)
 |ref (i:Nat)
 |gd (es:List (Int×Int))
 |gl (l:List Int)
noncomputable def V.isN:V→Bool | .none=>true |_=>false
noncomputable def V.isB (x:Bool):V→Bool | .bool y=>x==y |_=>false
noncomputable def V.isI (x:Int):V→Bool | .int y=>decide (x=y) |_=>false
noncomputable def V.isS (x:String):V→Bool | .str y=>decide (x=y) |_=>false
noncomputable def V.isR (x:Nat):V→Bool | .ref y=>decide (x=y) |_=>false
noncomputable def V.isGd (x:List (Int×Int)):V→Bool | .gd y=>decide (x=y) |_=>false
noncomputable def V.isGl (x:List Int):V→Bool | .gl y=>decide (x=y) |_=>false
noncomputable def V.isT (f:List V→Bool):V→Bool | .tup y=>f y |_=>false
mutual
noncomputable def V.beq:V→V→Bool
 | .none=>V.isN
 | .bool x=>V.isB x
 | .int x=>V.isI x
 | .str x=>V.isS x
 | .tup l=>V.isT (V.beqL l)
 | .ref x=>V.isR x
 | .gd x=>V.isGd x
 | .gl x=>V.isGl x
noncomputable def V.beqL:List V→List V→Bool
 |[]=>List.isEmpty
 |a::l=>fun r=>match r with
  |[]=>false
  |b::r=>V.beq a b&&V.beqL l r
end
theorem V.isN_iff{b:V}:V.isN b=true↔ .none=b:=by cases b<;>simp[V.isN]
theorem V.isB_iff{x:Bool}{b:V}:V.isB x b=true↔ .bool x=b:=by cases b<;>simp[V.isB]
theorem V.isI_iff{x:Int}{b:V}:V.isI x b=true↔ .int x=b:=by cases b<;>simp[V.isI]
theorem V.isS_iff{x:String}{b:V}:V.isS x b=true↔ .str x=b:=by cases b<;>simp[V.isS]
theorem V.isR_iff{x:Nat}{b:V}:V.isR x b=true↔ .ref x=b:=by cases b<;>simp[V.isR]
theorem V.isGd_iff{x:List (Int×Int)}{b:V}:V.isGd x b=true↔ .gd x=b:=by cases b<;>simp[V.isGd]
theorem V.isGl_iff{x:List Int}{b:V}:V.isGl x b=true↔ .gl x=b:=by cases b<;>simp[V.isGl]
theorem V.isT_iff{l:List V}{f:List V→Bool}(h:∀r,f r=true↔l=r){b:V}:V.isT f b=true↔ .tup l=b:=by cases b<;>simp[V.isT,h]
theorem V.beq_iff(a:V):∀b:V,V.beq a b=true↔a=b:=
 V.rec (motive_1:=fun a=>∀b,V.beq a b=true↔a=b) (motive_2:=fun l=>∀r,V.beqL l r=true↔l=r)
  (fun _=>V.isN_iff) (fun _ _=>V.isB_iff) (fun _ _=>V.isI_iff) (fun _ _=>V.isS_iff) (fun _ ih _=>V.isT_iff ih) (fun _ _=>V.isR_iff) (fun _ _=>V.isGd_iff) (fun _ _=>V.isGl_iff)
  (fun r=>by cases r<;>simp[V.beqL]) (fun a l h1 h2 r=>by cases r<;>simp[V.beqL,h1,h2]) a
theorem V.beqL_iff:∀l r:List V,V.beqL l r=true↔l=r
 |[],r=>by cases r<;>simp[V.beqL]
 |a::l,r=>by cases r<;>simp[V.beqL,V.beq_iff,V.beqL_iff l]
noncomputable def V.treeIn:Nat→V→Bool
 |_,.int _=>true
 |d+1,.tup l=>l.all (V.treeIn d)
 |_,_=>false
noncomputable def V.isKeyTup (v:V):Bool:=match v with | .tup _=>V.treeIn 7 v |_=>false
noncomputable def V.kind:V→Nat
 | .int _=>0
 | .str _=>1
 |v=>if v.isKeyTup then 2 else 3
inductive CN where |table |host |book
noncomputable def CN.beq:CN→CN→Bool
 | .table,.table | .host,.host | .book,.book=>true
 |_,_=>false
inductive bF where
 |list (vs:List V)
 |dict (es:List (V×V))
 |inst (c:CN) (d:Nat)
 |ns (fs:List (String×V))
noncomputable abbrev aD:=List bF
noncomputable abbrev Env:=Nat→Option V
noncomputable abbrev EM:=Env→aD→Option (V×aD)
noncomputable abbrev TM:=Env→aD→Option (Bool×aD)
inductive Fl where |next |cont |ret (v:V)
noncomputable abbrev SM:=Env→aD→Option (Fl×Env×aD)
noncomputable abbrev FM:=List V→aD→Option (V×aD)
noncomputable def aZ (ρ:Env) (i:Nat) (v:V):Env:=fun j=>if j=i then some v else ρ j
noncomputable def bW (es:List (V×V)) (k:V):Option V:=match es with
 |[]=>none
 |e::r=>if V.beq e.1 k then some e.2 else bW r k
noncomputable def dG (es:List (V×V)) (k v:V):List (V×V):=match es with
 |[]=>[(k,v)]
 |e::r=>if V.beq e.1 k then(e.1,v)::r else e::dG r k v
noncomputable def fM (es:List (V×V)) (k:V):Bool:=decide (k.kind<3)&&es.all fun e=>decide (e.1.kind=k.kind)
noncomputable def eU (es:List (Int×Int)) (k:Int):Option Int:=match es with
 |[]=>none
 |e::r=>if e.1=k then some e.2 else eU r k
noncomputable def iK (fs:List (String×V)) (x:String):Option V:=match fs with
 |[]=>none
 |e::r=>if e.1=x then some e.2 else iK r x
noncomputable def tN (fs:List (String×V)) (x:String) (v:V):List (String×V):=match fs with
 |[]=>[(x,v)]
 |e::r=>if e.1=x then(e.1,v)::r else e::tN r x v
noncomputable def aA (i:Nat):EM:=fun ρ σ=>match ρ i with |some v=>some (v,σ) |none=>none
noncomputable def aX (v:V):EM:=fun _ σ=>some (v,σ)
noncomputable def aB (i:Int):EM:=fun _ σ=>some (.int i,σ)
noncomputable def b0 (b:Bool):EM:=fun _ σ=>some (.bool b,σ)
noncomputable def bU (s:String):EM:=fun _ σ=>some (.str s,σ)
noncomputable def dO:List EM→Env→aD→Option (List V×aD)
 |[],_,σ=>some ([],σ)
 |e::r,ρ,σ=>match e ρ σ with
  |some (v,σ₁)=>match dO r ρ σ₁ with
   |some (vs,σ₂)=>some (v::vs,σ₂)
   |none=>none
  |none=>none
noncomputable def aE (es:List EM):EM:=fun ρ σ=>match dO es ρ σ with
 |some (vs,σ₁)=>some (.tup vs,σ₁)
 |none=>none
noncomputable def eP (o:bF) (σ:aD):Option (V×aD):=some (.ref σ.length,σ++[o])
noncomputable def cF (es:List EM):EM:=fun ρ σ=>match dO es ρ σ with
 |some (vs,σ₁)=>eP (.list vs) σ₁
 |none=>none
noncomputable def g9:List (EM×EM)→Env→aD→Option (List (V×V)×aD)
 |[],_,σ=>some ([],σ)
 |(k,e)::r,ρ,σ=>match k ρ σ with
  |some (kv,σ₁)=>match e ρ σ₁ with
   |some (v,σ₂)=>match g9 r ρ σ₂ with
    |some (vs,σ₃)=>some ((kv,v)::vs,σ₃)
    |none=>none
   |none=>none
  |none=>none
noncomputable def oT:List (V×V)→List (V×V)→Option (List (V×V))
 |es,[]=>some es
 |es,(k,v)::r=>if fM es k then oT (dG es k v) r else none
noncomputable def cI (ps:List (EM×EM)):EM:=fun ρ σ=>match g9 ps ρ σ with
 |some (vs,σ₁)=>match oT [] vs with
  |some es=>eP (.dict es) σ₁
  |none=>none
 |none=>none
inductive BO where |add |sub |mul |fdiv |mod
noncomputable def small (i:Int):Bool:=decide (-(2^60)<i)&&decide (i<2^60)
noncomputable def lV {β:Type} (a b:V) (f:Int→Int→Option β):Option β:=match a with
 | .int x=>(match b with | .int y=>f x y |_=>none)
 |_=>none
noncomputable def bH1 (a b:V) (σ:aD):Option (V×aD):=match a with
 | .int x=>(match b with | .int y=>if small x&&small y then some (.int (x+y),σ)else none |_=>none)
 | .tup x=>(match b with | .tup y=>if x.length+y.length≤1000 then some (.tup (x++y),σ)else none |_=>none)
 | .ref i=>(match b with
  | .ref j=>(match σ[i]? with
   |some (.list x)=>(match σ[j]? with |some (.list y)=>if x.length+y.length≤1000 then eP (.list (x++y)) σ else none |_=>none)
   |_=>none)
  |_=>none)
 |_=>none
noncomputable def gC (o:BO) (a b:V) (σ:aD):Option (V×aD):=match o with
 | .add=>bH1 a b σ
 | .sub=>lV a b fun x y=>if small x&&small y then some (.int (x-y),σ)else none
 | .mul=>lV a b fun x y=>if small x&&small y then some (.int (x*y),σ)else none
 | .fdiv=>lV a b fun x y=>if 0<y∧y<1000000 then some (.int (Int.fdiv x y),σ)else none
 | .mod=>lV a b fun x y=>if 0<y then some (.int (Int.fmod x y),σ)else none
noncomputable def aT (o:BO) (a b:EM):EM:=fun ρ σ=>match a ρ σ with
 |some (x,σ₁)=>match b ρ σ₁ with
  |some (y,σ₂)=>gC o x y σ₂
  |none=>none
 |none=>none
inductive CO where |eq |ne |lt |le |gt |ge |isIn |notIn
noncomputable def oF (l:List V) (x:V):Option Bool:=if(x.kind==0||x.kind==2)&&l.all (fun y=>y.kind==0||y.kind==2)then some (l.any fun y=>V.beq y x)else none
noncomputable def sS (x c:V) (σ:aD):Option Bool:=match c with
 | .tup l=>oF l x
 | .gd es=>match x with | .int i=>some (eU es i).isSome |_=>none
 | .ref i=>match σ[i]? with
  |some (.list l)=>oF l x
  |some (.dict es)=>if fM es x then some (bW es x).isSome else none
  |_=>none
 |_=>none
noncomputable def uG (a b:V):Option Bool:=match a with
 | .int x=>(match b with | .int y=>some (decide (x=y)) |_=>none)
 | .bool x=>(match b with | .bool y=>some (x==y) |_=>none)
 | .tup x=>(match b with | .tup y=>if V.isKeyTup (.tup x)&&V.isKeyTup (.tup y)then some (V.beq (.tup x) (.tup y))else none |_=>none)
 |_=>none
noncomputable def gK (o:CO) (a b:V) (σ:aD):Option Bool:=match o with
 | .eq=>uG a b
 | .ne=>(uG a b).map (!·)
 | .isIn=>sS a b σ
 | .notIn=>(sS a b σ).map (!·)
 | .lt=>lV a b fun x y=>some (decide (x<y))
 | .le=>lV a b fun x y=>some (decide (x≤y))
 | .gt=>lV a b fun x y=>some (decide (x>y))
 | .ge=>lV a b fun x y=>some (decide (x≥y))
noncomputable def aK (o:CO) (a b:EM):TM:=fun ρ σ=>match a ρ σ with
 |some (x,σ₁)=>match b ρ σ₁ with
  |some (y,σ₂)=>match gK o x y σ₂ with
   |some r=>some (r,σ₂)
   |none=>none
  |none=>none
 |none=>none
noncomputable def oM (o₁ o₂:CO) (a b c:EM):TM:=fun ρ σ=>match a ρ σ with
 |some (x,σ₁)=>match b ρ σ₁ with
  |some (y,σ₂)=>match gK o₁ x y σ₂ with
   |some true=>match c ρ σ₂ with
    |some (z,σ₃)=>match gK o₂ y z σ₃ with
     |some r=>some (r,σ₃)
     |none=>none
    |none=>none
   |some false=>some (false,σ₂)
   |none=>none
  |none=>none
 |none=>none
noncomputable def e0 (v:V) (σ:aD):Option Bool:=match v with
 | .bool b=>some b
 | .int i=>some (decide (i≠0))
 | .ref i=>match σ[i]? with
  |some (.list l)=>if l.length≤100000 then some (!l.isEmpty)else none
  |_=>none
 |_=>none
noncomputable def bL (e:EM):TM:=fun ρ σ=>match e ρ σ with
 |some (v,σ₁)=>match e0 v σ₁ with
  |some b=>some (b,σ₁)
  |none=>none
 |none=>none
noncomputable def gG (t:TM):TM:=fun ρ σ=>match t ρ σ with |some (b,σ₁)=>some (!b,σ₁) |none=>none
noncomputable def eJ (a b:TM):TM:=fun ρ σ=>match a ρ σ with |some (true,σ₁)=>b ρ σ₁ |r=>r
noncomputable def dT (a b:TM):TM:=fun ρ σ=>match a ρ σ with |some (false,σ₁)=>b ρ σ₁ |r=>r
noncomputable def cP (t:TM):EM:=fun ρ σ=>match t ρ σ with |some (b,σ₁)=>some (.bool b,σ₁) |none=>none
noncomputable def gZ (a b:EM):EM:=fun ρ σ=>match a ρ σ with
 |some (v,σ₁)=>match e0 v σ₁ with |some true=>b ρ σ₁ |some false=>some (v,σ₁) |none=>none
 |none=>none
noncomputable def mV (a b:EM):EM:=fun ρ σ=>match a ρ σ with
 |some (v,σ₁)=>match e0 v σ₁ with |some true=>some (v,σ₁) |some false=>b ρ σ₁ |none=>none
 |none=>none
noncomputable def mO (a:EM):EM:=fun ρ σ=>match a ρ σ with
 |some (v,σ₁)=>match e0 v σ₁ with |some b=>some (.bool (!b),σ₁) |none=>none
 |none=>none
noncomputable def fF (t:TM) (a b:EM):EM:=fun ρ σ=>match t ρ σ with
 |some (true,σ₁)=>a ρ σ₁
 |some (false,σ₁)=>b ρ σ₁
 |none=>none
noncomputable def gH (o i:V) (σ:aD):Option V:=match o with
 | .tup l=>match i with
  | .int k=>if 0≤k∧k<2^60 then l[k.toNat]? else none
  |_=>none
 | .ref j=>match σ[j]? with
  |some (.list l)=>(match i with
   | .int k=>if 0≤k∧k<2^60 then l[k.toNat]? else none
   |_=>none)
  |some (.dict es)=>if fM es i then bW es i else none
  |_=>none
 | .gd es=>match i with
  | .int k=>match eU es k with |some r=>some (.int r) |none=>none
  |_=>none
 |_=>none
noncomputable def aG (o i:EM):EM:=fun ρ σ=>match o ρ σ with
 |some (x,σ₁)=>match i ρ σ₁ with
  |some (y,σ₂)=>match gH x y σ₂ with
   |some v=>some (v,σ₂)
   |none=>none
  |none=>none
 |none=>none
noncomputable def mP (o:V) (lo hi:Option Int) (σ:aD):Option (V×aD):=match hi with
 |none=>(match o with
  | .tup l=>(match lo with
   |some a=>if 1≤a∧a≤l.length∧l.length≤1000 then some (.tup (l.drop a.toNat),σ)else none
   |none=>none)
  |_=>none)
 |some b=>(match lo with
  |some _=>none
  |none=>(match o with
   | .tup l=>if 0≤b∧b<l.length∧l.length≤1000 then some (.tup (l.take b.toNat),σ)else none
   | .ref j=>(match σ[j]? with
    |some (.list l)=>if 0≤b∧b≤1000∧l.length≤1000 then eP (.list (l.take b.toNat)) σ else none
    |_=>none)
   | .gl l=>if 0≤b∧b≤1000∧l.length≤1000 then eP (.list ((l.take b.toNat).map .int)) σ else none
   |_=>none))
noncomputable def pI (e:Option EM):Env→aD→Option (Option Int×aD):=fun ρ σ=>match e with
 |none=>some (none,σ)
 |some e=>match e ρ σ with |some (.int i,σ₁)=>some (some i,σ₁) |_=>none
noncomputable def hX (o:EM) (lo hi:Option EM):EM:=fun ρ σ=>match o ρ σ with
 |some (x,σ₁)=>match pI lo ρ σ₁ with
  |some (a,σ₂)=>match pI hi ρ σ₂ with
   |some (b,σ₃)=>mP x a b σ₃
   |none=>none
  |none=>none
 |none=>none
noncomputable def oG (o:EM):EM:=fun ρ σ=>match o ρ σ with
 |some (.ref j,σ₁)=>match σ₁[j]? with
  |some (.list l)=>if l.length≤1000 then eP (.list l.reverse) σ₁ else none
  |_=>none
 |_=>none
noncomputable def cS (σ:aD) (j:Nat):Option (CN×Nat×List (String×V)):=match σ[j]? with
 |some (.inst c d)=>match σ[d]? with
  |some (.ns fs)=>some (c,d,fs)
  |_=>none
 |_=>none
noncomputable def aR (o:EM) (x:String):EM:=fun ρ σ=>match o ρ σ with
 |some (.ref j,σ₁)=>match cS σ₁ j with
  |some (_,_,fs)=>match iK fs x with
   |some v=>some (v,σ₁)
   |none=>none
  |none=>none
 |_=>none
noncomputable def aJ (f:FM) (es:List EM):EM:=fun ρ σ=>match dO es ρ σ with
 |some (vs,σ₁)=>f vs σ₁
 |none=>none
noncomputable def dU (c:CN) (x:String) (f:FM) (o:EM) (es:List EM):EM:=fun ρ σ=>match o ρ σ with
 |some (.ref j,σ₁)=>match cS σ₁ j with
  |some (c',_,fs)=>if CN.beq c c'&&(iK fs x).isNone then
    (match dO es ρ σ₁ with
    |some (vs,σ₂)=>f (.ref j::vs) σ₂
    |none=>none)else none
  |none=>none
 |_=>none
noncomputable def kN (c:CN) (init:FM) (es:List EM):EM:=fun ρ σ=>match dO es ρ σ with
 |some (vs,σ₁)=>match init (.ref (σ₁.length+1)::vs) (σ₁++[.ns [],.inst c σ₁.length])with
  |some (.none,σ₂)=>some (.ref (σ₁.length+1),σ₂)
  |_=>none
 |none=>none
noncomputable def jD (v:V) (σ:aD):Option Int:=match v with
 | .tup l=>if l.length≤100000 then some l.length else none
 | .ref j=>match σ[j]? with
  |some (.list l)=>if l.length≤100000 then some l.length else none
  |_=>none
 |_=>none
noncomputable def cH (e:EM):EM:=fun ρ σ=>match e ρ σ with
 |some (v,σ₁)=>match jD v σ₁ with |some n=>some (.int n,σ₁) |none=>none
 |none=>none
noncomputable def gI (e:EM):EM:=fun ρ σ=>match e ρ σ with
 |some (.ref j,σ₁)=>match σ₁[j]? with
  |some (.list l)=>if l.length≤1000 then some (.tup l,σ₁)else none
  |_=>none
 |_=>none
noncomputable def iP (e:EM):EM:=fun ρ σ=>match e ρ σ with
 |some (.tup l,σ₁)=>if l.length≤1000 then eP (.list l) σ₁ else none
 |_=>none
noncomputable def b7 (o x:EM):EM:=fun ρ σ=>match o ρ σ with
 |some (.ref j,σ₁)=>match σ₁[j]? with
  |some (.list _)=>match x ρ σ₁ with
   |some (v,σ₂)=>(match σ₂[j]? with
    |some (.list l)=>if l.length≤100000 then some (.none,σ₂.set j (.list (l++[v])))else none
    |_=>none)
   |none=>none
  |_=>none
 |_=>none
noncomputable def qX (o:EM):EM:=fun ρ σ=>match o ρ σ with
 |some (.ref j,σ₁)=>match σ₁[j]? with
  |some (.list l)=>(match l.getLast? with
   |some v=>if l.length≤100000 then some (v,σ₁.set j (.list l.dropLast))else none
   |none=>none)
  |_=>none
 |_=>none
noncomputable def mN (o k d:V) (σ:aD):Option V:=match o with
 | .ref j=>match σ[j]? with
  |some (.dict es)=>if fM es k then some ((bW es k).getD d)else none
  |_=>none
 | .gd es=>match k with
  | .int i=>some (match eU es i with |some r=> .int r |none=>d)
  |_=>none
 |_=>none
noncomputable def iE (x:V) (σ:aD):Bool:=match x with
 | .ref j=>(match σ[j]? with |some (.dict _)=>true |_=>false)
 | .gd _=>true
 |_=>false
noncomputable def jQ (o k d:EM):EM:=fun ρ σ=>match o ρ σ with
 |some (x,σ₁)=>if iE x σ₁ then(match k ρ σ₁ with
  |some (y,σ₂)=>match d ρ σ₂ with
   |some (z,σ₃)=>match mN x y z σ₃ with
    |some v=>some (v,σ₃)
    |none=>none
   |none=>none
  |none=>none)else none
 |none=>none
inductive Sr where |fix |list (j:Nat) |dict (j:Nat)
noncomputable def eS (σ:aD) (src:Sr) (l:List V):Bool:=match src with
 | .fix=>true
 | .list j=>(match σ[j]? with |some (.list l')=>V.beqL l' l |_=>false)
 | .dict j=>(match σ[j]? with |some (.dict es)=>V.beqL (es.map (·.1)) l |_=>false)
noncomputable def jR (elt:EM) (ρ:Env) (x:Nat) (src:Sr) (all:List V):List V→aD→Option (List V×aD)
 |[],σ=>some ([],σ)
 |v::r,σ=>match elt (aZ ρ x v) σ with
  |some (y,σ₁)=>if eS σ₁ src all then(match jR elt ρ x src all r σ₁ with
   |some (ys,σ₂)=>some (y::ys,σ₂)
   |none=>none)else none
  |none=>none
noncomputable def fS (s:V) (σ:aD):Option (Sr×List V):=match s with
 | .tup l=>some (.fix,l)
 | .ref j=>(match σ[j]? with
  |some (.list l)=>some (.list j,l)
  |some (.dict es)=>some (.dict j,es.map (·.1))
  |_=>none)
 |_=>none
noncomputable def iU (caps:List (Nat×Nat)) (ρ:Env):Env:=fun j=>match caps.lookup j with |some i=>ρ i |none=>none
noncomputable def gX (caps:List (Nat×Nat)) (x:Nat) (src elt:EM):EM:=fun ρ σ=>match src ρ σ with
 |some (s,σ₁)=>(match fS s σ₁ with
  |some (src,l)=>if l.length≤1000 then
    (match jR elt (iU caps ρ) x src l l σ₁ with
    |some (ys,σ₂)=>eP (.list ys) σ₂
    |none=>none)else none
  |none=>none)
 |none=>none
noncomputable def aC (a b:SM):SM:=fun ρ σ=>match a ρ σ with
 |some (.next,ρ₁,σ₁)=>b ρ₁ σ₁
 |r=>r
noncomputable def aF:SM:=fun ρ σ=>some (.next,ρ,σ)
noncomputable def aV (i:Nat) (e:EM):SM:=fun ρ σ=>match e ρ σ with
 |some (v,σ₁)=>some (.next,aZ ρ i v,σ₁)
 |none=>none
noncomputable def mH (i:Nat) (e:EM):SM:=fun ρ σ=>match ρ i with
 |some a=>match e ρ σ with
  |some (b,σ₁)=>match a,b with
   | .int x,.int y=>if small x&&small y then some (.next,aZ ρ i (.int (x+y)),σ₁)else none
   |_,_=>none
  |none=>none
 |none=>none
noncomputable def cJ (o:EM) (x:String) (e:EM):SM:=fun ρ σ=>match e ρ σ with
 |some (v,σ₁)=>match o ρ σ₁ with
  |some (.ref j,σ₂)=>match cS σ₂ j with
   |some (_,d,fs)=>if fs.length≤100 then some (.next,ρ,σ₂.set d (.ns (tN fs x v)))else none
   |none=>none
  |_=>none
 |none=>none
noncomputable def bP (o k e:EM):SM:=fun ρ σ=>match e ρ σ with
 |some (v,σ₁)=>match o ρ σ₁ with
  |some (.ref j,σ₂)=>(match k ρ σ₂ with
   |some (kv,σ₃)=>match σ₃[j]? with
    |some (.dict es)=>if fM es kv&&decide (es.length≤100000)then some (.next,ρ,σ₃.set j (.dict (dG es kv v)))else none
    |_=>none
   |none=>none)
  |_=>none
 |none=>none
noncomputable def cG (e:EM):SM:=fun ρ σ=>match e ρ σ with |some (_,σ₁)=>some (.next,ρ,σ₁) |none=>none
noncomputable def a8 (t:TM) (a b:SM):SM:=fun ρ σ=>match t ρ σ with
 |some (true,σ₁)=>a ρ σ₁
 |some (false,σ₁)=>b ρ σ₁
 |none=>none
noncomputable def aW (e:EM):SM:=fun ρ σ=>match e ρ σ with |some (v,σ₁)=>some (.ret v,ρ,σ₁) |none=>none
noncomputable def xE:SM:=fun ρ σ=>some (.cont,ρ,σ)
noncomputable def fX:SM:=fun _ _=>none
noncomputable def fD (t:TM) (b:SM):Nat→SM
 |0=>fX
 |n+1=>fun ρ σ=>match t ρ σ with
  |some (true,σ₁)=>(match b ρ σ₁ with
   |some (.ret v,ρ₁,σ₂)=>some (.ret v,ρ₁,σ₂)
   |some (_,ρ₁,σ₂)=>fD t b n ρ₁ σ₂
   |none=>none)
  |some (false,σ₁)=>some (.next,ρ,σ₁)
  |none=>none
noncomputable def dC0:Nat:=1000000
noncomputable def iS (t:TM) (b:SM):SM:=fun ρ σ=>fD t b dC0 ρ σ
noncomputable def dM (i:Nat) (b:SM) (src:Sr) (all:List V):List V→SM
 |[]=>fun ρ σ=>some (.next,ρ,σ)
 |v::r=>fun ρ σ=>match b (aZ ρ i v) σ with
  |some (.ret w,ρ₁,σ₁)=>some (.ret w,ρ₁,σ₁)
  |some (_,ρ₁,σ₁)=>if eS σ₁ src all then dM i b src all r ρ₁ σ₁ else none
  |none=>none
noncomputable def dL (i:Nat) (e:EM) (b:SM):SM:=fun ρ σ=>match e ρ σ with
 |some (s,σ₁)=>(match fS s σ₁ with
  |some (src,l)=>dM i b src l l ρ σ₁
  |none=>none)
 |none=>none
noncomputable def fQ (a b:Int):List V:=(List.range (b-a).toNat).map fun(n:Nat)=>V.int (a+n)
noncomputable def fH (i:Nat) (lo hi:EM) (b:SM):SM:=fun ρ σ=>match lo ρ σ with
 |some (.int x,σ₁)=>match hi ρ σ₁ with
  |some (.int y,σ₂)=>if 0≤x∧x≤1000∧0≤y∧y≤100000 then dM i b .fix (fQ x y) (fQ x y) ρ σ₂ else none
  |_=>none
 |_=>none
@[irreducible] def mkF (n:Nat) (b:SM):FM:=fun args σ=>if args.length=n then
  (match b (fun i=>args[i]?) σ with
  |some (.ret v,_,σ₁)=>some (v,σ₁)
  |some (.next,_,σ₁)=>some (.none,σ₁)
  |_=>none)else none
theorem aX6{n:Nat}{b:SM}{args:List V}{σ σ':aD}{x:V}(h:mkF n b args σ=some (x,σ')):args.length=n∧∃fl ρ',b (fun i=>args[i]?) σ=some (fl,ρ',σ')∧(fl= .ret x∨(fl= .next∧ .none=x)):=by
 unfold mkF at h
 by_cases hl:args.length=n
 ·rw[if_pos hl]at h
  cases hb:b (fun i=>args[i]?) σ with
  |none=>rw[hb]at h;cases h
  |some r=>
   obtain⟨fl,ρ',σ₁⟩:=r
   rw[hb]at h
   cases fl<;>cases h
   ·exact⟨hl,_,_,rfl,.inr ⟨rfl,rfl⟩⟩
   ·exact⟨hl,_,_,rfl,.inl rfl⟩
 ·rw[if_neg hl]at h;cases h
noncomputable def Fn:Type:=Nat
noncomputable def Fn.KT_init:Fn:=(0:Nat)
noncomputable def Fn.KT_row:Fn:=(1:Nat)
noncomputable def Fn.KT_put:Fn:=(2:Nat)
noncomputable def Fn.inner_kinds:Fn:=(3:Nat)
noncomputable def Fn.row_level:Fn:=(4:Nat)
noncomputable def Fn.row_length:Fn:=(5:Nat)
noncomputable def Fn.check_kind_row:Fn:=(6:Nat)
noncomputable def Fn.check_named:Fn:=(7:Nat)
noncomputable def Fn.check_args:Fn:=(8:Nat)
noncomputable def Fn.may_stand:Fn:=(9:Nat)
noncomputable def Fn.class_kind:Fn:=(10:Nat)
noncomputable def Fn.value_kind:Fn:=(11:Nat)
noncomputable def Fn.prim_kind:Fn:=(12:Nat)
noncomputable def Fn.array_kind:Fn:=(13:Nat)
noncomputable def Fn.boxed_kind:Fn:=(14:Nat)
noncomputable def Fn.kind_sort:Fn:=(15:Nat)
noncomputable def Fn.elem_of:Fn:=(16:Nat)
noncomputable def Fn.tid_of:Fn:=(17:Nat)
noncomputable def Fn.args_of:Fn:=(18:Nat)
noncomputable def Fn.is_value:Fn:=(19:Nat)
noncomputable def Fn.is_ref:Fn:=(20:Nat)
noncomputable def Fn.is_var:Fn:=(21:Nat)
noncomputable def Fn.bound_kinds:Fn:=(22:Nat)
noncomputable def Fn.param_is_value:Fn:=(23:Nat)
noncomputable def Fn.surely_class:Fn:=(24:Nat)
noncomputable def Fn.is_iface:Fn:=(25:Nat)
noncomputable def Fn.base_chain:Fn:=(26:Nat)
noncomputable def Fn.all_ifaces:Fn:=(27:Nat)
noncomputable def Fn.add_ifaces:Fn:=(28:Nat)
noncomputable def Fn.stands_for_ref:Fn:=(29:Nat)
noncomputable def Fn.reduced:Fn:=(30:Nat)
noncomputable def Fn.is_nullable:Fn:=(31:Nat)
noncomputable def Fn.KH_init:Fn:=(32:Nat)
noncomputable def Fn.KH_base:Fn:=(33:Nat)
noncomputable def Fn.KH_ifaces_at:Fn:=(34:Nat)
noncomputable def Fn.KH_sort:Fn:=(35:Nat)
noncomputable def Fn.KH_variance:Fn:=(36:Nat)
noncomputable def Fn.KH_under:Fn:=(37:Nat)
noncomputable def Fn.plain_base:Fn:=(38:Nat)
noncomputable def Fn.plain_sort:Fn:=(39:Nat)
noncomputable def Fn.loose_base:Fn:=(40:Nat)
noncomputable def Fn.loose_ifaces:Fn:=(41:Nat)
noncomputable def Fn.BK_init:Fn:=(42:Nat)
noncomputable def Fn.ref_assignable:Fn:=(43:Nat)
noncomputable def Fn.assign_settled:Fn:=(44:Nat)
noncomputable def Fn.var_same:Fn:=(45:Nat)
noncomputable def Fn.settle_book:Fn:=(46:Nat)
noncomputable def Fn.has_proof:Fn:=(47:Nat)
noncomputable def Fn.assign_within:Fn:=(48:Nat)
noncomputable def Fn.assign_look:Fn:=(49:Nat)
noncomputable def Fn.param_within:Fn:=(50:Nat)
noncomputable def Fn.var_within:Fn:=(51:Nat)
noncomputable def Fn.inner_within:Fn:=(52:Nat)
noncomputable def Fn.elems_within:Fn:=(53:Nat)
noncomputable def Fn.assignable:Fn:=(54:Nat)
noncomputable def Fn.instance_of:Fn:=(55:Nat)
noncomputable def Fn.box_goes:Fn:=(56:Nat)
noncomputable def Fn.law_value:Fn:=(57:Nat)
noncomputable def Fn.law_kind:Fn:=(58:Nat)
noncomputable def Fn.law_face:Fn:=(59:Nat)
noncomputable def Fn.law_world:Fn:=(60:Nat)
noncomputable def Fn.law_step:Fn:=(61:Nat)
noncomputable def Fn.law_ups:Fn:=(62:Nat)
noncomputable def Fn.law_signed:Fn:=(63:Nat)
noncomputable def Fn.law_like:Fn:=(64:Nat)
noncomputable def Fn.law_goes:Fn:=(65:Nat)
noncomputable def Fn.law_is:Fn:=(66:Nat)
noncomputable def Fn.law_bent:Fn:=(67:Nat)
noncomputable def Fn.law_pair:Fn:=(68:Nat)
noncomputable def Fn.law_asked:Fn:=(69:Nat)
noncomputable def Fn.law:Fn:=(70:Nat)
noncomputable def aT5:V:= .int 5
noncomputable def dB2:V:= .int 1
noncomputable def y9:V:= .int 24
noncomputable def dJ0:V:= .int 1
noncomputable def dE7:V:= .int 2
noncomputable def xW:V:= .int 4096
noncomputable def wH:V:= .int 512
noncomputable def dB1:V:= .int 11
noncomputable def l7:V:= .int 14
noncomputable def kM:V:= .int 12
noncomputable def sG:V:= .int 16
noncomputable def bD7:V:= .gd [(0,20),(1,9),(2,10),(3,11),(4,12),(5,13),(6,14),(7,15),(8,16),(9,17),(10,18),(11,19),(12,1),(13,4)]
noncomputable def iC:V:= .int 4
noncomputable def gQ:V:= .int 8
noncomputable def aB7:V:= .int 5
noncomputable def gB:V:= .int 2
noncomputable def y8:V:= .int 10
noncomputable def sF:V:= .int 7
noncomputable def pA:V:= .int 1
noncomputable def aX8:V:= .int 11
noncomputable def aB6:V:= .int 9
noncomputable def iT:V:= .int 3
noncomputable def u9:V:= .int 6
noncomputable def aD6:V:= .gd [(4,3),(6,5),(8,7),(10,9)]
noncomputable def aL7:V:= .int 13
noncomputable def bO3:V:= .int 1
noncomputable def kL:V:= .int 4
noncomputable def lU:V:= .int 5
noncomputable def eK:V:= .int 3
noncomputable def xV:V:= .int 2
noncomputable def mM:V:= .gd [(20,0),(9,1),(10,2),(11,3),(12,4),(13,5),(14,6),(15,7),(16,8),(17,9),(18,10),(19,11),(1,12),(4,13)]
noncomputable def bO2:V:= .int 5
noncomputable def tY:V:= .int 6
noncomputable def aL6:V:= .int 3
noncomputable def aL5:V:= .int 8
noncomputable def lN:V:= .int 2
noncomputable def aD5:V:= .tup [(.int 1),(.int 2),(.int 3)]
noncomputable def y7:V:= .int 2
noncomputable def l6:V:= .int 0
noncomputable def dB0:V:= .int 0
noncomputable def b9:V:= .tup [(.int 0),(.int 12)]
noncomputable def jG (c:Fn→FM):SM:=aC (cJ (aA 0) "rows" (cF [])) (aC (cJ (aA 0) "index" (cI [])) (aC (cJ (aA 0) "depths" (cF [])) (aC (cJ (aA 0) "weights" (cF [])) (aC (cJ (aA 0) "opens" (cF [])) (aC (fH 1 (aB 0) (aX sG) (aC (aV 2 (aE [(aX pA),(aA 1)])) (aC (cG (b7 (aR (aA 0) "rows") (aA 2))) (aC (bP (aR (aA 0) "index") (aA 2) (aA 1)) (aC (cG (b7 (aR (aA 0) "depths") (aB 1))) (aC (cG (b7 (aR (aA 0) "weights") (aB 1))) (aC (cG (b7 (aR (aA 0) "opens") (aB 0))) aF))))))) aF)))))
noncomputable def cF0 (c:Fn→FM):SM:=aC (a8 (dT (aK .lt (aA 1) (aB 0)) (aK .ge (aA 1) (cH (aR (aA 0) "rows")))) (aC fX aF) aF) (aC (aW (aG (aR (aA 0) "rows") (aA 1))) aF)
noncomputable def cF1 (c:Fn→FM):SM:=aC (aV 2 (jQ (aR (aA 0) "index") (aA 1) (aB (-1)))) (aC (a8 (aK .ge (aA 2) (aB 0)) (aC (aW (aA 2)) aF) aF) (aC (cG (aJ (c .check_kind_row) [(aA 0),(aA 1)])) (aC (aV 3 (aB 1)) (aC (aV 4 (aB 1)) (aC (aV 5 (aB 0)) (aC (a8 (dT (aK .eq (aG (aA 1) (aB 0)) (aX u9)) (aK .eq (aG (aA 1) (aB 0)) (aX sF))) (aC (aV 5 (aB 1)) aF) aF) (aC (aV 6 (aJ (c .row_level) [(aG (aA 1) (aB 0))])) (aC (dL 7 (aJ (c .inner_kinds) [(aA 1)]) (aC (a8 (aK .gt (aT .add (aG (aR (aA 0) "depths") (aA 7)) (aA 6)) (aA 3)) (aC (aV 3 (aT .add (aG (aR (aA 0) "depths") (aA 7)) (aA 6))) aF) aF) (aC (mH 4 (aG (aR (aA 0) "weights") (aA 7))) (aC (a8 (aK .eq (aG (aR (aA 0) "opens") (aA 7)) (aB 1)) (aC (aV 5 (aB 1)) aF) aF) aF)))) (aC (a8 (aK .gt (aA 3) (aX y9)) (aC fX aF) aF) (aC (a8 (aK .gt (aA 4) (aX xW)) (aC fX aF) aF) (aC (aV 8 (cH (aR (aA 0) "rows"))) (aC (cG (b7 (aR (aA 0) "rows") (aA 1))) (aC (bP (aR (aA 0) "index") (aA 1) (aA 8)) (aC (cG (b7 (aR (aA 0) "depths") (aA 3))) (aC (cG (b7 (aR (aA 0) "weights") (aA 4))) (aC (cG (b7 (aR (aA 0) "opens") (aA 5))) (aC (aW (aA 8)) aF)))))))))))))))))
noncomputable def aE4 (c:Fn→FM):SM:=aC (aV 1 (aG (aA 0) (aB 0))) (aC (a8 (dT (aK .eq (aA 1) (aX gB)) (aK .eq (aA 1) (aX iT))) (aC (aW (aG (aA 0) (aB 2))) aF) aF) (aC (a8 (dT (aK .eq (aA 1) (aX iC)) (dT (aK .eq (aA 1) (aX aB7)) (dT (aK .eq (aA 1) (aX gQ)) (dT (aK .eq (aA 1) (aX aB6)) (aK .eq (aA 1) (aX aX8)))))) (aC (aW (aE [(aG (aA 0) (aB 1))])) aF) aF) (aC (a8 (aK .eq (aA 1) (aX y8)) (aC (aW (aT .add (aE [(aG (aA 0) (aB 1))]) (aG (aA 0) (aB 3)))) aF) aF) (aC (aW (aE [])) aF))))
noncomputable def aU5 (c:Fn→FM):SM:=aC (a8 (dT (aK .eq (aA 0) (aX gB)) (dT (aK .eq (aA 0) (aX iT)) (aK .eq (aA 0) (aX iC)))) (aC (aW (aB 1)) aF) aF) (aC (aW (aB 0)) aF)
noncomputable def aP1 (c:Fn→FM):SM:=aC (a8 (dT (aK .eq (aA 0) (aX gB)) (aK .eq (aA 0) (aX iT))) (aC (aW (aB 3)) aF) aF) (aC (a8 (aK .eq (aA 0) (aX y8)) (aC (aW (aB 4)) aF) aF) (aC (aW (aB 2)) aF))
noncomputable def wP (c:Fn→FM):SM:=aC (a8 (dT (aK .eq (cH (aA 1)) (aB 0)) (dT (aK .le (aG (aA 1) (aB 0)) (aX pA)) (aK .gt (aG (aA 1) (aB 0)) (aX aX8)))) (aC fX aF) aF) (aC (aV 2 (aG (aA 1) (aB 0))) (aC (a8 (aK .ne (cH (aA 1)) (aJ (c .row_length) [(aA 2)])) (aC fX aF) aF) (aC (dL 3 (aJ (c .inner_kinds) [(aA 1)]) (aC (cG (dU .table "row" (c .KT_row) (aA 0) [(aA 3)])) aF)) (aC (a8 (dT (aK .eq (aA 2) (aX gB)) (aK .eq (aA 2) (aX iT))) (aC (cG (aJ (c .check_named) [(aA 0),(aA 1)])) aF) (aC (a8 (dT (aK .eq (aA 2) (aX u9)) (aK .eq (aA 2) (aX sF))) (aC (a8 (aK .lt (aG (aA 1) (aB 1)) (aB 0)) (aC fX aF) aF) aF) (aC (a8 (aK .eq (aA 2) (aX y8)) (aC (a8 (dT (gG (bL (aJ (c .may_stand) [(aA 0),(aG (aA 1) (aB 1))]))) (aK .lt (aG (aA 1) (aB 2)) (aB 0))) (aC fX aF) aF) (aC (cG (aJ (c .check_args) [(aA 0),(aG (aA 1) (aB 3))])) aF)) (aC (a8 (aK .eq (aA 2) (aX gQ)) (aC (a8 (gG (dT (bL (aJ (c .is_value) [(aA 0),(aG (aA 1) (aB 1))])) (bL (aJ (c .is_var) [(aA 0),(aG (aA 1) (aB 1))])))) (aC fX aF) aF) aF) (aC (a8 (gG (bL (aJ (c .may_stand) [(aA 0),(aG (aA 1) (aB 1))]))) (aC fX aF) aF) aF)) aF)) aF)) aF)) aF))))
noncomputable def aE5 (c:Fn→FM):SM:=aC (a8 (dT (aK .le (aG (aA 1) (aB 1)) (aB 0)) (aK .isIn (aG (aA 1) (aB 1)) (aX mM))) (aC fX aF) aF) (aC (cG (aJ (c .check_args) [(aA 0),(aG (aA 1) (aB 2))])) aF)
noncomputable def aP7 (c:Fn→FM):SM:=aC (dL 2 (aA 1) (aC (a8 (gG (bL (aJ (c .may_stand) [(aA 0),(aA 2)]))) (aC fX aF) aF) aF)) aF
noncomputable def aU7 (c:Fn→FM):SM:=aC (a8 (dT (aK .eq (aA 1) (aX dB0)) (aK .eq (aA 1) (aX l7))) (aC (aW (b0 false)) aF) aF) (aC (aV 2 (aG (dU .table "row" (c .KT_row) (aA 0) [(aA 1)]) (aB 0))) (aC (aW (mV (cP (aK .le (aA 2) (aX iC))) (mV (cP (aK .eq (aA 2) (aX u9))) (cP (aK .eq (aA 2) (aX sF)))))) aF))
noncomputable def aP6 (c:Fn→FM):SM:=aC (a8 (aK .isIn (aA 1) (aX mM)) (aC (aW (aJ (c .prim_kind) [(aA 1),(aA 2)])) aF) aF) (aC (aW (dU .table "put" (c .KT_put) (aA 0) [(aE [(aX gB),(aA 1),(aA 2)])])) aF)
noncomputable def aP0 (c:Fn→FM):SM:=aC (a8 (aK .isIn (aA 1) (aX mM)) (aC (aW (aJ (c .prim_kind) [(aA 1),(aA 2)])) aF) aF) (aC (aW (dU .table "put" (c .KT_put) (aA 0) [(aE [(aX iT),(aA 1),(aA 2)])])) aF)
noncomputable def aU6 (c:Fn→FM):SM:=aC (a8 (aK .gt (cH (aA 1)) (aB 0)) (aC fX aF) aF) (aC (aW (aG (aX mM) (aA 0))) aF)
noncomputable def aQ0 (c:Fn→FM):SM:=aC (aW (dU .table "put" (c .KT_put) (aA 0) [(aE [(aX iC),(aA 1)])])) aF
noncomputable def aP8 (c:Fn→FM):SM:=aC (aW (dU .table "put" (c .KT_put) (aA 0) [(aE [(aX gQ),(aA 1)])])) aF
noncomputable def aV0 (c:Fn→FM):SM:=aC (aW (aG (dU .table "row" (c .KT_row) (aA 0) [(aA 1)]) (aB 0))) aF
noncomputable def bS3 (c:Fn→FM):SM:=aC (aV 2 (dU .table "row" (c .KT_row) (aA 0) [(aA 1)])) (aC (a8 (dT (aK .eq (aG (aA 2) (aB 0)) (aX iC)) (dT (aK .eq (aG (aA 2) (aB 0)) (aX aB7)) (dT (aK .eq (aG (aA 2) (aB 0)) (aX aB6)) (aK .eq (aG (aA 2) (aB 0)) (aX gQ))))) (aC (aW (aG (aA 2) (aB 1))) aF) aF) (aC (aW (aB (-1))) aF))
noncomputable def cE6 (c:Fn→FM):SM:=aC (aV 2 (dU .table "row" (c .KT_row) (aA 0) [(aA 1)])) (aC (a8 (dT (aK .eq (aG (aA 2) (aB 0)) (aX gB)) (aK .eq (aG (aA 2) (aB 0)) (aX iT))) (aC (aW (aG (aA 2) (aB 1))) aF) aF) (aC (a8 (aK .eq (aG (aA 2) (aB 0)) (aX pA)) (aC (aW (jQ (aX bD7) (aA 1) (aB 0))) aF) aF) (aC (a8 (aK .eq (aG (aA 2) (aB 0)) (aX iC)) (aC (aW (aX aT5)) aF) aF) (aC (aW (aB 0)) aF))))
noncomputable def bS4 (c:Fn→FM):SM:=aC (aV 2 (dU .table "row" (c .KT_row) (aA 0) [(aA 1)])) (aC (a8 (dT (aK .eq (aG (aA 2) (aB 0)) (aX gB)) (aK .eq (aG (aA 2) (aB 0)) (aX iT))) (aC (aW (aG (aA 2) (aB 2))) aF) aF) (aC (aW (aE [])) aF))
noncomputable def bG2 (c:Fn→FM):SM:=aC (a8 (eJ (aK .le (aX dB2) (aA 1)) (aK .le (aA 1) (aX dB1))) (aC (aW (b0 true)) aF) aF) (aC (aW (cP (aK .eq (aG (dU .table "row" (c .KT_row) (aA 0) [(aA 1)]) (aB 0)) (aX iT)))) aF)
noncomputable def cE9 (c:Fn→FM):SM:=aC (a8 (dT (aK .eq (aA 1) (aX kM)) (dT (aK .eq (aA 1) (aX aL7)) (aK .eq (aA 1) (aX l7)))) (aC (aW (b0 true)) aF) aF) (aC (aV 2 (aG (dU .table "row" (c .KT_row) (aA 0) [(aA 1)]) (aB 0))) (aC (aW (mV (cP (aK .eq (aA 2) (aX gB))) (mV (cP (aK .eq (aA 2) (aX iC))) (cP (aK .eq (aA 2) (aX gQ)))))) aF))
noncomputable def cE8 (c:Fn→FM):SM:=aC (aV 2 (aG (dU .table "row" (c .KT_row) (aA 0) [(aA 1)]) (aB 0))) (aC (aW (mV (cP (aK .eq (aA 2) (aX u9))) (cP (aK .eq (aA 2) (aX sF))))) aF)
noncomputable def aE6 (c:Fn→FM):SM:=aC (aV 2 (cF [])) (aC (aV 3 (cI [((aA 1),(aB 1))])) (aC (aV 4 (oG (iP (jQ (aR (aA 0) "bounds") (aA 1) (aE []))))) (aC (iS (bL (aA 4)) (aC (aV 5 (qX (aA 4))) (aC (a8 (aK .isIn (aA 5) (aA 3)) (aC xE aF) aF) (aC (bP (aA 3) (aA 5) (aB 1)) (aC (cG (b7 (aA 2) (aA 5))) (aC (a8 (bL (aJ (c .is_var) [(aR (aA 0) "kt"),(aA 5)])) (aC (dL 6 (oG (iP (jQ (aR (aA 0) "bounds") (aA 5) (aE [])))) (aC (cG (b7 (aA 4) (aA 6))) aF)) aF) aF) aF)))))) (aC (aW (aA 2)) aF))))
noncomputable def wO (c:Fn→FM):SM:=aC fX (aC (dL 2 (aJ (c .bound_kinds) [(aA 0),(aA 1)]) (aC (a8 (bL (aJ (c .is_var) [(aR (aA 0) "kt"),(aA 2)])) (aC fX aF) (aC (a8 (eJ (bL (aJ (c .is_value) [(aR (aA 0) "kt"),(aA 2)])) (gG (bL (aJ (c .is_nullable) [(aR (aA 0) "kt"),(aA 2)])))) (aC (aW (b0 true)) aF) aF) aF)) aF)) (aC (aW (b0 false)) aF))
noncomputable def zN (c:Fn→FM):SM:=aC fX (aC (dL 2 (aJ (c .bound_kinds) [(aA 0),(aA 1)]) (aC (a8 (eJ (bL (aJ (c .is_ref) [(aR (aA 0) "kt"),(aA 2)])) (eJ (gG (bL (aJ (c .is_iface) [(aA 0),(aA 2)]))) (aK .notIn (aJ (c .tid_of) [(aR (aA 0) "kt"),(aA 2)]) (aX aD5)))) (aC (aW (b0 true)) aF) aF) aF)) (aC (aW (b0 false)) aF))
noncomputable def bG3 (c:Fn→FM):SM:=aC (aW (gZ (cP (aK .eq (aJ (c .kind_sort) [(aR (aA 0) "kt"),(aA 1)]) (aX gB))) (cP (aK .eq (dU .host "sort" (c .KH_sort) (aA 0) [(aA 1)]) (aX eK))))) aF
noncomputable def pM (c:Fn→FM):SM:=aC (aV 2 (cF [])) (aC (aV 3 (cI [])) (aC (iS (eJ (aK .ne (aA 1) (aB (-1))) (aK .notIn (aA 1) (aA 3))) (aC (bP (aA 3) (aA 1) (aB 1)) (aC (cG (b7 (aA 2) (aA 1))) (aC (aV 1 (dU .host "base" (c .KH_base) (aA 0) [(aA 1)])) aF)))) (aC (aW (aA 2)) aF)))
noncomputable def pN (c:Fn→FM):SM:=aC (aV 2 (cF [])) (aC (aV 3 (cI [])) (aC (dL 4 (aJ (c .base_chain) [(aA 0),(aA 1)]) (aC (cG (aJ (c .add_ifaces) [(aA 0),(dU .host "ifaces_at" (c .KH_ifaces_at) (aA 0) [(aA 4)]),(aA 2),(aA 3)])) aF)) (aC (aW (aA 2)) aF)))
noncomputable def aQ1 (c:Fn→FM):SM:=aC (aV 4 (oG (iP (aA 1)))) (aC (iS (bL (aA 4)) (aC (aV 5 (qX (aA 4))) (aC (a8 (aK .isIn (aA 5) (aA 3)) (aC xE aF) aF) (aC (bP (aA 3) (aA 5) (aB 1)) (aC (cG (b7 (aA 2) (aA 5))) (aC (dL 6 (oG (iP (dU .host "ifaces_at" (c .KH_ifaces_at) (aA 0) [(aA 5)]))) (aC (cG (b7 (aA 4) (aA 6))) aF)) aF)))))) aF)
noncomputable def wM (c:Fn→FM):SM:=aC (aW (mV (aJ (c .is_ref) [(aR (aA 0) "kt"),(aA 1)]) (gZ (aJ (c .is_var) [(aR (aA 0) "kt"),(aA 1)]) (aJ (c .surely_class) [(aA 0),(aA 1)])))) aF
noncomputable def bS1 (c:Fn→FM):SM:=aC (aV 2 (dU .host "under" (c .KH_under) (aA 0) [(aA 1)])) (aC (aW (jQ (aX aD6) (aA 2) (aA 2))) aF)
noncomputable def aE2 (c:Fn→FM):SM:=aC (aW (gZ (cP (aK .eq (aJ (c .kind_sort) [(aA 0),(aA 1)]) (aX iT))) (cP (aK .eq (aJ (c .tid_of) [(aA 0),(aA 1)]) (aX aL5))))) aF
noncomputable def mA (c:Fn→FM):SM:=aC (cJ (aA 0) "kt" (aA 1)) (aC (cJ (aA 0) "bases" (cI [])) (aC (cJ (aA 0) "ifaces" (cI [])) (aC (cJ (aA 0) "sorts" (cI [])) (aC (cJ (aA 0) "variances" (cI [])) (aC (cJ (aA 0) "unders" (cI [])) (aC (cJ (aA 0) "bounds" (cI [])) (aC (cJ (aA 0) "gflags" (cI [])) (aC (cJ (aA 0) "news" (cI [])) aF))))))))
noncomputable def bS6 (c:Fn→FM):SM:=aC (a8 (dT (bL (aJ (c .is_var) [(aR (aA 0) "kt"),(aA 1)])) (aK .eq (aJ (c .kind_sort) [(aR (aA 0) "kt"),(aA 1)]) (aX gQ))) (aC (aW (aJ (c .loose_base) [(aA 0),(aA 1)])) aF) aF) (aC (aW (aJ (c .plain_base) [(aA 0),(aA 1)])) aF)
noncomputable def zV (c:Fn→FM):SM:=aC (a8 (dT (bL (aJ (c .is_var) [(aR (aA 0) "kt"),(aA 1)])) (aK .eq (aJ (c .kind_sort) [(aR (aA 0) "kt"),(aA 1)]) (aX gQ))) (aC (aW (aJ (c .loose_ifaces) [(aA 0),(aA 1)])) aF) aF) (aC (aW (jQ (aR (aA 0) "ifaces") (aA 1) (aE []))) aF)
noncomputable def bS5 (c:Fn→FM):SM:=aC (aW (aJ (c .plain_sort) [(aA 0),(aA 1)])) aF
noncomputable def aE8 (c:Fn→FM):SM:=aC (aW (jQ (aR (aA 0) "variances") (aA 1) (aE []))) aF
noncomputable def bG5 (c:Fn→FM):SM:=aC (aW (jQ (aR (aA 0) "unders") (aA 1) (aA 1))) aF
noncomputable def aP3 (c:Fn→FM):SM:=aC (a8 (aK .isIn (aA 1) (aR (aA 0) "bases")) (aC (aW (aG (aR (aA 0) "bases") (aA 1))) aF) aF) (aC (aV 2 (aR (aA 0) "kt")) (aC (aV 3 (aJ (c .kind_sort) [(aA 2),(aA 1)])) (aC (a8 (aK .eq (aA 1) (aX kM)) (aC (aW (aB (-1))) aF) aF) (aC (a8 (aK .eq (aA 1) (aX aL7)) (aC (aW (aX kM)) aF) aF) (aC (a8 (aK .eq (aA 3) (aX iC)) (aC (aW (aJ (c .class_kind) [(aA 2),(aX bO2),(aE [])])) aF) aF) (aC (a8 (bL (aJ (c .is_value) [(aA 2),(aA 1)])) (aC (aW (aJ (c .class_kind) [(aA 2),(fF (aK .eq (aJ (c .plain_sort) [(aA 0),(aA 1)]) (aX lU)) (aX aL6) (aX lN)),(aE [])])) aF) aF) (aC (a8 (dT (aK .ne (aA 3) (aX gB)) (aK .eq (aJ (c .plain_sort) [(aA 0),(aA 1)]) (aX eK))) (aC (aW (aB (-1))) aF) aF) (aC (a8 (aK .eq (aJ (c .tid_of) [(aA 2),(aA 1)]) (aX aL6)) (aC (aW (aJ (c .class_kind) [(aA 2),(aX lN),(aE [])])) aF) aF) (aC (a8 (eJ (aK .eq (aJ (c .plain_sort) [(aA 0),(aA 1)]) (aX kL)) (aK .ne (aJ (c .tid_of) [(aA 2),(aA 1)]) (aX tY))) (aC (aW (aJ (c .class_kind) [(aA 2),(aX tY),(aE [])])) aF) aF) (aC (aW (aX kM)) aF))))))))))
noncomputable def aP2 (c:Fn→FM):SM:=aC (a8 (bL (aJ (c .is_var) [(aR (aA 0) "kt"),(aA 1)])) (aC (aW (aB 0)) aF) aF) (aC (aV 2 (aJ (c .tid_of) [(aR (aA 0) "kt"),(aA 1)])) (aC (a8 (aK .isIn (aA 2) (aR (aA 0) "sorts")) (aC (aW (aG (aR (aA 0) "sorts") (aA 2))) aF) aF) (aC (a8 (bL (aJ (c .is_value) [(aR (aA 0) "kt"),(aA 1)])) (aC (aW (fF (aK .isIn (aA 1) (aR (aA 0) "unders")) (aX lU) (aX xV))) aF) aF) (aC (aW (fF (bL (aA 2)) (aX bO3) (aB 0))) aF))))
noncomputable def aP4 (c:Fn→FM):SM:=aC (aV 2 (aR (aA 0) "kt")) (aC (a8 (aK .eq (aJ (c .kind_sort) [(aA 2),(aA 1)]) (aX gQ)) (aC (aW (dU .host "base" (c .KH_base) (aA 0) [(aJ (c .elem_of) [(aA 2),(aA 1)])])) aF) aF) (aC (aV 3 (fF (bL (aJ (c .param_is_value) [(aA 0),(aA 1)])) (aJ (c .class_kind) [(aA 2),(aX lN),(aE [])]) (aX kM))) (aC (dL 4 (aJ (c .bound_kinds) [(aA 0),(aA 1)]) (aC (a8 (bL (aJ (c .is_value) [(aA 2),(aA 4)])) (aC (aW (dU .host "base" (c .KH_base) (aA 0) [(aA 4)])) aF) aF) (aC (a8 (eJ (bL (aJ (c .is_ref) [(aA 2),(aA 4)])) (eJ (gG (bL (aJ (c .is_iface) [(aA 0),(aA 4)]))) (bL (aJ (c .ref_assignable) [(aA 0),(aA 4),(aA 3)])))) (aC (aV 3 (aA 4)) aF) aF) aF))) (aC (aW (aA 3)) aF))))
noncomputable def zQ (c:Fn→FM):SM:=aC (aV 2 (aR (aA 0) "kt")) (aC (a8 (aK .eq (aJ (c .kind_sort) [(aA 2),(aA 1)]) (aX gQ)) (aC (aW (dU .host "ifaces_at" (c .KH_ifaces_at) (aA 0) [(aJ (c .elem_of) [(aA 2),(aA 1)])])) aF) aF) (aC fX aF))
noncomputable def nZ (c:Fn→FM):SM:=aC (cJ (aA 0) "strict" (aA 1)) (aC (cJ (aA 0) "pairs" (cF [])) (aC (cJ (aA 0) "listed" (cI [])) (aC (cJ (aA 0) "proved" (cI [])) aF)))
noncomputable def wN (c:Fn→FM):SM:=aC (aW (aJ (c .assign_settled) [(aA 0),(aA 1),(aA 2),(aB 0)])) aF
noncomputable def wQ (c:Fn→FM):SM:=aC (aV 4 (kN .book (mkF 2 (nZ fun _ _ _=>none)) [(aA 3)])) (aC (a8 (bL (aJ (c .assign_within) [(aA 0),(aA 1),(aA 2),(aA 4)])) (aC (aW (b0 true)) aF) aF) (aC (cG (aJ (c .settle_book) [(aA 0),(aA 4)])) (aC (aW (cP (aK .isIn (aE [(aA 1),(aA 2)]) (aR (aA 4) "proved")))) aF)))
noncomputable def bF4 (c:Fn→FM):SM:=aC (aV 3 (kN .book (mkF 2 (nZ fun _ _ _=>none)) [(aB 0)])) (aC (aV 4 (aB (-1))) (aC (iS (aK .lt (aA 4) (cH (aR (aA 3) "pairs"))) (aC (aV 4 (cH (aR (aA 3) "pairs"))) (aC (cG (aJ (c .settle_book) [(aA 0),(aA 3)])) (aC (a8 (bL (aJ (c .var_within) [(aA 0),(aA 1),(aA 2),(aA 3)])) (aC (aW (b0 true)) aF) aF) aF)))) (aC (aW (b0 false)) aF)))
noncomputable def aE1 (c:Fn→FM):SM:=aC (aV 2 (aB 0)) (aC (iS (aK .lt (aA 2) (cH (aR (aA 1) "pairs"))) (aC (aV 3 (aG (aR (aA 1) "pairs") (aA 2))) (aC (mH 2 (aB 1)) (aC (a8 (eJ (aK .notIn (aA 3) (aR (aA 1) "proved")) (bL (aJ (c .has_proof) [(aA 0),(aA 3),(aA 1)]))) (aC (bP (aR (aA 1) "proved") (aA 3) (aB 1)) (aC (aV 2 (aB 0)) aF)) aF) aF)))) aF)
noncomputable def aV1 (c:Fn→FM):SM:=aC (aC (aW (aJ (c .assign_look) [(aA 0),(aG (aA 1) (aB 0)),(aG (aA 1) (aB 1)),(aA 2)])) aF) aF
noncomputable def yH (c:Fn→FM):SM:=aC (a8 (aK .eq (aA 1) (aA 2)) (aC (aW (b0 true)) aF) aF) (aC (aV 4 (aR (aA 0) "kt")) (aC (a8 (dT (gG (bL (aJ (c .is_ref) [(aA 4),(aA 1)]))) (gG (bL (aJ (c .is_ref) [(aA 4),(aA 2)])))) (aC (aW (b0 false)) aF) aF) (aC (a8 (aK .eq (aA 1) (aX l7)) (aC (aW (b0 true)) aF) aF) (aC (a8 (dT (aK .eq (aA 2) (aX l7)) (aK .eq (aJ (c .kind_sort) [(aA 4),(aA 2)]) (aX gQ))) (aC (aW (b0 false)) aF) aF) (aC (a8 (aK .eq (aA 2) (aX kM)) (aC (aW (b0 true)) aF) aF) (aC (a8 (eJ (aK .notIn (aE [(aA 1),(aA 2)]) (aR (aA 3) "listed")) (aK .lt (cH (aR (aA 3) "pairs")) (aX wH))) (aC (bP (aR (aA 3) "listed") (aE [(aA 1),(aA 2)]) (aB 1)) (aC (cG (b7 (aR (aA 3) "pairs") (aE [(aA 1),(aA 2)]))) aF)) aF) (aC (aW (cP (aK .isIn (aE [(aA 1),(aA 2)]) (aR (aA 3) "proved")))) aF)))))))
noncomputable def aE7 (c:Fn→FM):SM:=aC (aV 4 (aR (aA 0) "kt")) (aC (a8 (eJ (aK .eq (aJ (c .kind_sort) [(aA 4),(aA 1)]) (aX iC)) (aK .eq (aJ (c .kind_sort) [(aA 4),(aA 2)]) (aX iC))) (aC (aW (aJ (c .elems_within) [(aA 0),(aJ (c .elem_of) [(aA 4),(aA 1)]),(aJ (c .elem_of) [(aA 4),(aA 2)]),(aA 3)])) aF) aF) (aC (a8 (eJ (aK .eq (aJ (c .kind_sort) [(aA 4),(aA 1)]) (aX gQ)) (bL (aJ (c .is_var) [(aA 4),(aJ (c .elem_of) [(aA 4),(aA 1)])]))) (aC (aW (aJ (c .param_within) [(aA 0),(aJ (c .elem_of) [(aA 4),(aA 1)]),(aA 2),(aA 3)])) aF) aF) (aC (dL 5 (aJ (c .base_chain) [(aA 0),(aA 1)]) (aC (a8 (dT (aK .eq (aA 5) (aA 2)) (bL (aJ (c .var_within) [(aA 0),(aA 5),(aA 2),(aA 3)]))) (aC (aW (b0 true)) aF) aF) aF)) (aC (a8 (bL (aJ (c .is_iface) [(aA 0),(aA 2)])) (aC (dL 5 (aJ (c .all_ifaces) [(aA 0),(aA 1)]) (aC (a8 (dT (aK .eq (aA 5) (aA 2)) (bL (aJ (c .var_within) [(aA 0),(aA 5),(aA 2),(aA 3)]))) (aC (aW (b0 true)) aF) aF) aF)) aF) aF) (aC (aW (b0 false)) aF)))))
noncomputable def zP (c:Fn→FM):SM:=aC (a8 (eJ (aK .eq (aA 2) (aJ (c .class_kind) [(aR (aA 0) "kt"),(aX lN),(aE [])])) (bL (aJ (c .param_is_value) [(aA 0),(aA 1)]))) (aC (aW (b0 true)) aF) aF) (aC (dL 4 (aJ (c .bound_kinds) [(aA 0),(aA 1)]) (aC (aV 5 (fF (bL (aJ (c .is_value) [(aR (aA 0) "kt"),(aA 4)])) (aJ (c .boxed_kind) [(aR (aA 0) "kt"),(aA 4)]) (aA 4))) (aC (a8 (eJ (gG (bL (aJ (c .is_var) [(aR (aA 0) "kt"),(aA 4)]))) (bL (aJ (c .assign_within) [(aA 0),(aA 5),(aA 2),(aA 3)]))) (aC (aW (b0 true)) aF) aF) aF))) (aC (aW (b0 false)) aF))
noncomputable def aO9 (c:Fn→FM):SM:=aC (a8 (aK .eq (aA 1) (aA 2)) (aC (aW (b0 true)) aF) aF) (aC (aV 4 (aR (aA 0) "kt")) (aC (a8 (dT (aK .ne (aJ (c .kind_sort) [(aA 4),(aA 1)]) (aX gB)) (dT (aK .ne (aJ (c .kind_sort) [(aA 4),(aA 2)]) (aX gB)) (aK .ne (aJ (c .tid_of) [(aA 4),(aA 1)]) (aJ (c .tid_of) [(aA 4),(aA 2)])))) (aC (aW (b0 false)) aF) aF) (aC (aV 5 (dU .host "variance" (c .KH_variance) (aA 0) [(aJ (c .tid_of) [(aA 4),(aA 1)])])) (aC (aV 6 (aJ (c .args_of) [(aA 4),(aA 1)])) (aC (aV 7 (aJ (c .args_of) [(aA 4),(aA 2)])) (aC (a8 (aK .ne (cH (aA 6)) (cH (aA 7))) (aC (aW (b0 false)) aF) aF) (aC (fH 8 (aB 0) (cH (aA 6)) (aC (a8 (aK .ne (aG (aA 6) (aA 8)) (aG (aA 7) (aA 8))) (aC (aV 9 (fF (aK .lt (aA 8) (cH (aA 5))) (aG (aA 5) (aA 8)) (aX l6))) (aC (aV 10 (fF (aK .eq (aA 9) (aX y7)) (aE [(aG (aA 7) (aA 8)),(aG (aA 6) (aA 8))]) (aE [(aG (aA 6) (aA 8)),(aG (aA 7) (aA 8))]))) (aC (a8 (dT (aK .eq (aA 9) (aX l6)) (gG (bL (aJ (c .inner_within) [(aA 0),(aG (aA 10) (aB 0)),(aG (aA 10) (aB 1)),(aA 3)])))) (aC (aW (b0 false)) aF) aF) aF))) aF) aF)) (aC (aW (b0 true)) aF))))))))
noncomputable def zR (c:Fn→FM):SM:=aC (aV 4 (aR (aA 0) "kt")) (aC (a8 (gG (bL (aJ (c .stands_for_ref) [(aA 0),(aA 1)]))) (aC (aW (b0 false)) aF) aF) (aC (a8 (bL (aJ (c .is_var) [(aA 4),(aA 2)])) (aC (aW (mV (cP (aK .eq (aA 1) (aA 2))) (gZ (aJ (c .is_var) [(aA 4),(aA 1)]) (cP (aK .isIn (aA 2) (aJ (c .bound_kinds) [(aA 0),(aA 1)])))))) aF) aF) (aC (aW (gZ (aJ (c .is_ref) [(aA 4),(aA 2)]) (aJ (c .assign_within) [(aA 0),(fF (bL (aJ (c .is_var) [(aA 4),(aA 1)])) (aJ (c .boxed_kind) [(aA 4),(aA 1)]) (aA 1)),(aA 2),(aA 3)]))) aF)))
noncomputable def zU (c:Fn→FM):SM:=aC (a8 (aK .eq (aA 1) (aA 2)) (aC (aW (b0 true)) aF) aF) (aC (a8 (bL (aJ (c .stands_for_ref) [(aA 0),(aA 1)])) (aC (aW (aJ (c .inner_within) [(aA 0),(aA 1),(aA 2),(aA 3)])) aF) aF) (aC (aW (gZ (mO (aR (aA 3) "strict")) (cP (aK .eq (aJ (c .reduced) [(aA 0),(aA 1)]) (aJ (c .reduced) [(aA 0),(aA 2)]))))) aF))
noncomputable def aP9 (c:Fn→FM):SM:=aC (a8 (eJ (bL (aJ (c .is_ref) [(aR (aA 0) "kt"),(aA 1)])) (bL (aJ (c .is_ref) [(aR (aA 0) "kt"),(aA 2)]))) (aC (aW (aJ (c .ref_assignable) [(aA 0),(aA 1),(aA 2)])) aF) aF) (aC (aW (cP (aK .eq (aA 1) (aA 2)))) aF)
noncomputable def aE3 (c:Fn→FM):SM:=aC (aV 3 (aR (aA 0) "kt")) (aC (a8 (bL (aJ (c .is_nullable) [(aA 3),(aA 1)])) (aC (aW (b0 false)) aF) aF) (aC (a8 (bL (aJ (c .is_nullable) [(aA 3),(aA 2)])) (aC (aV 4 (aJ (c .args_of) [(aA 3),(aA 2)])) (aC (a8 (aK .eq (cH (aA 4)) (aB 0)) (aC (aW (b0 false)) aF) aF) (aC (aV 2 (aG (aA 4) (aB 0))) aF))) aF) (aC (a8 (aK .eq (aA 1) (aA 2)) (aC (aW (b0 true)) aF) aF) (aC (a8 (bL (aJ (c .is_value) [(aA 3),(aA 2)])) (aC (aW (b0 false)) aF) aF) (aC (a8 (bL (aJ (c .is_value) [(aA 3),(aA 1)])) (aC (aW (aJ (c .box_goes) [(aA 0),(aA 1),(aA 2)])) aF) aF) (aC (aW (aJ (c .ref_assignable) [(aA 0),(aA 1),(aA 2)])) aF))))))
noncomputable def bG4 (c:Fn→FM):SM:=aC (a8 (dT (aK .eq (aA 2) (aX kM)) (aK .isIn (aA 2) (aJ (c .base_chain) [(aA 0),(aA 1)]))) (aC (aW (b0 true)) aF) aF) (aC (a8 (bL (aJ (c .is_iface) [(aA 0),(aA 2)])) (aC (dL 3 (aJ (c .all_ifaces) [(aA 0),(aA 1)]) (aC (a8 (dT (aK .eq (aA 3) (aA 2)) (bL (aJ (c .var_same) [(aA 0),(aA 3),(aA 2)]))) (aC (aW (b0 true)) aF) aF) aF)) aF) aF) (aC (aW (b0 false)) aF))
noncomputable def aU8 (c:Fn→FM):SM:=aC (aW (mV (cP (aK .isIn (aG (aA 0) (aB 0)) (aE [(aB 8),(aB 73),(aB 74),(aB 75),(aB 76)]))) (gZ (cP (aK .eq (aG (aA 0) (aB 0)) (aB 0))) (cP (aK .lt (aG (aA 0) (aB 1)) (aB 12)))))) aF
noncomputable def bF8 (c:Fn→FM):SM:=aC (a8 (aK .notIn (aA 1) (aG (aA 0) (bU "made"))) (aC (aV 2 (aG (aA 0) (bU "kt"))) (aC (a8 (aK .eq (aG (aA 1) (aB 0)) (aB 0)) (aC (aV 3 (aG (aA 1) (aB 1))) aF) (aC (a8 (aK .eq (aG (aA 1) (aB 0)) (aB (-1))) (aC (aV 3 (aJ (c .array_kind) [(aA 2),(aJ (c .law_kind) [(aA 0),(aG (aA 1) (aB 1))])])) aF) (aC (aV 4 (gI (gX [(0,0)] 1 (hX (aA 1) (some (aB 1)) none) (aJ (c .law_kind) [(aA 0),(aA 1)])))) (aC (aV 3 (fF (bL (aJ (c .law_value) [(aA 1)])) (aJ (c .value_kind) [(aA 2),(aG (aA 1) (aB 0)),(aA 4)]) (aJ (c .class_kind) [(aA 2),(aG (aA 1) (aB 0)),(aA 4)]))) aF))) aF)) (aC (bP (aG (aA 0) (bU "made")) (aA 1) (aA 3)) aF))) aF) (aC (aW (aG (aG (aA 0) (bU "made")) (aA 1))) aF)
noncomputable def bG0 (c:Fn→FM):SM:=aC (a8 (dT (eJ (aK .eq (aA 1) (aB 2)) (aK .isIn (aA 0) (aE [(aE [(aB 68)]),(aE [(aB 69),(aE [(aB 64)])])]))) (eJ (aK .eq (aA 1) (aB 3)) (aK .eq (aA 0) (aE [(aB 69),(aE [(aB 64)])])))) (aC (aW (cF [])) aF) aF) (aC (a8 (eJ (aK .eq (aA 1) (aB 4)) (aK .eq (aA 0) (aE [(aB 66)]))) (aC (aW (cF [(aE [(aB 69),(aE [(aB 69),(aA 0)])])])) aF) aF) (aC (aV 2 (aE [(aB 64)])) (aC (aV 3 (aE [(aB 65)])) (aC (aW (aG (aE [(cF []),(cF [(aE [(aB 67)])]),(cF [(aE [(aB 68)])]),(cF [(aE [(aB 69),(aA 2)])]),(cF [(aE [(aB 69),(aA 3)])]),(cF [(aE [(aB 69),(aA 0)])]),(cF [(aE [(aB 70),(aA 2),(aA 3)])]),(cF [(aE [(aB 70),(aA 3),(aA 0)])])]) (aA 1))) aF))))
noncomputable def qZ (c:Fn→FM):SM:=aC (aV 2 (aG (aA 0) (aB 0))) (aC (aV 3 (aG (aA 0) (aT .mod (aB 1) (cH (aA 0))))) (aC (aV 4 (aG (aA 0) (aT .mod (aB 2) (cH (aA 0))))) (aC (aV 5 (aE [(aT .mod (aT .fdiv (aA 2) (aB 8)) (aB 3)),(aT .mod (aT .fdiv (aA 2) (aB 24)) (aB 3)),(aT .mod (aT .fdiv (aA 2) (aB 72)) (aB 3)),(aT .mod (aT .fdiv (aA 2) (aB 216)) (aB 3))])) (aC (aV 6 (aE [(aB 0),(aT .add (aB 3) (aT .mod (aT .fdiv (aA 2) (aB 648)) (aB 8)))])) (aC (aV 7 (cI [((bU "kt"),(aR (aA 1) "kt")),((bU "made"),(cI [])),((bU "num"),(aA 6)),((bU "under"),(cI [((aE [(aB 75)]),(aA 6)),((aE [(aB 76)]),(aE [(aB 0),(aT .add (aB 3) (aT .mod (aT .fdiv (aA 2) (aB 5184)) (aB 8)))]))]))])) (aC (bP (aA 7) (bU "ways") (cI [((aB 69),(aE [(aG (aA 5) (aB 0))])),((aB 70),(aE [(aG (aA 5) (aB 1)),(aG (aA 5) (aB 2))])),((aB 71),(aE [(aG (aA 5) (aB 3))]))])) (aC (bP (aA 7) (bU "base") (cI [((aE [(aB 3)]),(aE [(aB 2)])),((aE [(aB 65)]),(aG (aE [(aX b9),(aE [(aB 64)])]) (aT .mod (aA 2) (aB 2))))])) (aC (bP (aG (aA 7) (bU "base")) (aE [(aB 66)]) (aG (aE [(aX b9),(aE [(aB 64)]),(aE [(aB 65)]),(aE [(aB 72),(aE [(aB 64)])])]) (aT .mod (aT .fdiv (aA 2) (aB 2)) (aB 4)))) (aC (bP (aA 7) (bU "faces") (cI [((aE [(aB 72),(aE [(aB 64)])]),(cF [(aE [(aB 69),(aE [(aB 64)])])])),((aE [(aB 72),(aE [(aB 65)])]),(cF [(aE [(aB 69),(aE [(aB 65)])])]))])) (aC (dL 8 (aE [(aE [(aB 64)]),(aE [(aB 65)]),(aE [(aB 66)]),(aE [(aB 73)]),(aE [(aB 75)]),(aA 6)]) (aC (bP (aG (aA 7) (bU "faces")) (aA 8) (aJ (c .law_face) [(aA 8),(aT .mod (aA 3) (aB 8))])) (aC (aV 3 (aT .fdiv (aA 3) (aB 8))) aF))) (aC (dL 8 (aE [(aE [(aB 2)]),(aE [(aB 68)]),(aE [(aB 5)]),(aE [(aB 74),(aE [(aB 0),(aB 7)])]),(aE [(aB 69),(aE [(aB 64)])]),(aE [(aB 3)])]) (aC (bP (aG (aA 7) (bU "faces")) (aA 8) (aJ (c .law_face) [(aA 8),(aT .mod (aA 4) (aB 8))])) (aC (aV 4 (aT .fdiv (aA 4) (aB 8))) aF))) (aC (bP (aG (aA 7) (bU "faces")) (aA 6) (aT .add (aG (aG (aA 7) (bU "faces")) (aA 6)) (cF [(aE [(aB 69),(aA 6)])]))) (aC (cJ (aA 1) "sorts" (cI [((aB 67),(aX eK)),((aB 68),(aX eK)),((aB 69),(aX eK)),((aB 70),(aX eK)),((aB 71),(aX kL)),((aB 75),(aX lU))])) (aC (cJ (aA 1) "variances" (cI [((aB 69),(aE [(aG (aA 5) (aB 0))])),((aB 70),(fF (bL (aG (aA 5) (aB 2))) (aE [(aG (aA 5) (aB 1)),(aG (aA 5) (aB 2))]) (aE [(aG (aA 5) (aB 1))]))),((aB 71),(aE [(aG (aA 5) (aB 3))]))])) (aC (dL 8 (aE [(aE [(aB 2)]),(aE [(aB 3)]),(aE [(aB 5)]),(aE [(aB 6)])]) (aC (cG (aJ (c .law_kind) [(aA 7),(aA 8)])) aF)) (aC (dL 8 (aE [(aE [(aB 65)]),(aE [(aB 66)])]) (aC (bP (aR (aA 1) "bases") (aJ (c .law_kind) [(aA 7),(aA 8)]) (aJ (c .law_kind) [(aA 7),(aG (aG (aA 7) (bU "base")) (aA 8))])) aF)) (aC (dL 8 (aG (aA 7) (bU "under")) (aC (bP (aR (aA 1) "unders") (aJ (c .law_kind) [(aA 7),(aA 8)]) (aG (aG (aG (aA 7) (bU "under")) (aA 8)) (aB 1))) aF)) (aC (dL 8 (aG (aA 7) (bU "faces")) (aC (a8 (aK .gt (cH (aG (aG (aA 7) (bU "faces")) (aA 8))) (aB 0)) (aC (bP (aR (aA 1) "ifaces") (aJ (c .law_kind) [(aA 7),(aA 8)]) (gI (gX [(0,7)] 1 (aG (aG (aA 7) (bU "faces")) (aA 8)) (aJ (c .law_kind) [(aA 0),(aA 1)])))) aF) aF) aF)) (aC (aW (aA 7)) aF)))))))))))))))))))
noncomputable def bF5 (c:Fn→FM):SM:=aC (a8 (aK .isIn (aA 1) (aG (aA 0) (bU "base"))) (aC (aV 2 (cF [(aG (aG (aA 0) (bU "base")) (aA 1))])) aF) (aC (a8 (aK .eq (aG (aA 1) (aB 0)) (aB 0)) (aC (aV 2 (fF (aK .lt (aG (aA 1) (aB 1)) (aB 12)) (cF [(aE [(aB 2)])]) (hX (cF [(aX b9)]) none (some (aT .sub (aG (aA 1) (aB 1)) (aB 12)))))) aF) (aC (a8 (oM .le .le (aB 67) (aG (aA 1) (aB 0)) (aB 70)) (aC (aV 2 (cF [])) aF) (aC (aV 2 (cF [(jQ (cI [((aB (-1)),(aE [(aB 5)])),((aB 8),(aE [(aB 2)])),((aB 71),(aE [(aB 6)])),((aB 73),(aE [(aB 2)])),((aB 74),(aE [(aB 2)])),((aB 75),(aE [(aB 3)])),((aB 76),(aE [(aB 3)]))]) (aG (aA 1) (aB 0)) (aX b9))])) aF)) aF)) aF)) (aC (aW (aT .add (aA 2) (jQ (aG (aA 0) (bU "faces")) (aA 1) (cF [])))) aF)
noncomputable def bS2 (c:Fn→FM):SM:=aC (aV 2 (cF [(aA 1)])) (aC (aV 3 (aB 0)) (aC (iS (aK .lt (aA 3) (cH (aA 2))) (aC (dL 4 (aJ (c .law_step) [(aA 0),(aG (aA 2) (aA 3))]) (aC (a8 (aK .notIn (aA 4) (aA 2)) (aC (cG (b7 (aA 2) (aA 4))) aF) aF) aF)) (aC (mH 3 (aB 1)) aF))) (aC (aW (aA 2)) aF)))
noncomputable def aP5 (c:Fn→FM):SM:=aC (aV 1 (jQ (aG (aA 0) (bU "under")) (aA 1) (aA 1))) (aC (aW (fF (aK .isIn (aA 1) (aE [(aE [(aB 0),(aB 4)]),(aE [(aB 0),(aB 6)]),(aE [(aB 0),(aB 8)]),(aE [(aB 0),(aB 10)])])) (aE [(aB 0),(aT .sub (aG (aA 1) (aB 1)) (aB 1))]) (aA 1))) aF)
noncomputable def bF7 (c:Fn→FM):SM:=aC (a8 (dT (aK .ne (aG (aA 1) (aB 0)) (aG (aA 2) (aB 0))) (aK .notIn (aG (aA 1) (aB 0)) (aG (aA 0) (bU "ways")))) (aC (aW (b0 false)) aF) aF) (aC (fH 4 (aB 1) (cH (aA 1)) (aC (a8 (aK .ne (aG (aA 1) (aA 4)) (aG (aA 2) (aA 4))) (aC (aV 5 (aG (aG (aG (aA 0) (bU "ways")) (aG (aA 1) (aB 0))) (aT .sub (aA 4) (aB 1)))) (aC (aV 6 (fF (aK .eq (aA 5) (aB 2)) (aE [(aG (aA 2) (aA 4)),(aG (aA 1) (aA 4))]) (aE [(aG (aA 1) (aA 4)),(aG (aA 2) (aA 4))]))) (aC (a8 (dT (aK .eq (aA 5) (aB 0)) (dT (bL (aJ (c .law_value) [(aG (aA 6) (aB 0))])) (dT (bL (aJ (c .law_value) [(aG (aA 6) (aB 1))])) (gG (bL (aJ (c .law_goes) [(aA 0),(aG (aA 6) (aB 0)),(aG (aA 6) (aB 1)),(aA 3)])))))) (aC (aW (b0 false)) aF) aF) aF))) aF) aF)) (aC (aW (b0 true)) aF))
noncomputable def bF9 (c:Fn→FM):SM:=aC (a8 (dT (aK .eq (aA 1) (aA 2)) (aK .eq (aA 2) (aX b9))) (aC (aW (b0 true)) aF) aF) (aC (a8 (aK .isIn (aE [(aA 1),(aA 2)]) (aA 3)) (aC (aW (b0 false)) aF) aF) (aC (aV 3 (aT .add (aA 3) (aE [(aE [(aA 1),(aA 2)])]))) (aC (a8 (eJ (aK .eq (aG (aA 1) (aB 0)) (aB (-1))) (aK .eq (aG (aA 2) (aB 0)) (aB (-1)))) (aC (a8 (bL (aJ (c .law_value) [(aG (aA 1) (aB 1))])) (aC (aW (cP (aK .eq (aJ (c .law_signed) [(aA 0),(aG (aA 1) (aB 1))]) (aJ (c .law_signed) [(aA 0),(aG (aA 2) (aB 1))])))) aF) aF) (aC (aW (gZ (mO (aJ (c .law_value) [(aG (aA 2) (aB 1))])) (aJ (c .law_goes) [(aA 0),(aG (aA 1) (aB 1)),(aG (aA 2) (aB 1)),(aA 3)]))) aF)) aF) (aC (dL 4 (aJ (c .law_ups) [(aA 0),(aA 1)]) (aC (a8 (dT (aK .eq (aA 4) (aA 2)) (bL (aJ (c .law_like) [(aA 0),(aA 4),(aA 2),(aA 3)]))) (aC (aW (b0 true)) aF) aF) aF)) (aC (aW (b0 false)) aF)))))
noncomputable def cE7 (c:Fn→FM):SM:=aC (a8 (aK .eq (aG (aA 1) (aB 0)) (aB 8)) (aC (aW (b0 false)) aF) aF) (aC (a8 (aK .eq (aG (aA 2) (aB 0)) (aB 8)) (aC (aW (gZ (cP (aK .eq (cH (aA 2)) (aB 2))) (cP (aK .eq (aA 1) (aG (aA 2) (aB 1)))))) aF) aF) (aC (a8 (bL (aJ (c .law_value) [(aA 2)])) (aC (aW (cP (aK .eq (aA 1) (aA 2)))) aF) aF) (aC (aW (aJ (c .law_goes) [(aA 0),(aA 1),(aA 2),(aE [])])) aF)))
noncomputable def bG1 (c:Fn→FM):SM:=aC (aV 2 (aE [(aB 64)])) (aC (aV 3 (aE [(aX b9),(aA 2),(aE [(aB 65)]),(aE [(aB 66)]),(aE [(aB 67)]),(aE [(aB 68)]),(aE [(aB 0),(aB 13)]),(aE [(aB 69),(aA 2)]),(aE [(aB 69),(aE [(aB 65)])]),(aE [(aB 73)]),(aE [(aB 5)]),(aE [(aB (-1)),(aA 2)])])) (aC (a8 (aK .eq (aG (aA 0) (aB 0)) (aB (-1))) (aC (a8 (gG (bL (aJ (c .law_value) [(aG (aA 0) (aB 1))]))) (aC (aW (aE [(aB (-1)),(aG (aA 3) (aT .mod (aA 1) (aB 12)))])) aF) aF) (aC (aW (aE [(aB (-1)),(fF (aK .lt (aT .mod (aA 1) (aB 15)) (aB 12)) (aE [(aB 0),(aT .add (aB 1) (aT .mod (aA 1) (aB 15)))]) (aG (aE [(aE [(aB 73)]),(aE [(aB 75)]),(aE [(aB 76)])]) (aT .sub (aT .mod (aA 1) (aB 15)) (aB 12))))])) aF)) aF) (aC (aV 4 (aT .add (aB 1) (aT .mod (aA 1) (aT .sub (cH (aA 0)) (aB 1))))) (aC (aW (aT .add (aT .add (hX (aA 0) none (some (aA 4))) (aE [(aG (aA 3) (aT .mod (aT .fdiv (aA 1) (aT .sub (cH (aA 0)) (aB 1))) (aB 12)))])) (hX (aA 0) (some (aT .add (aA 4) (aB 1))) none))) aF))))
noncomputable def bF6 (c:Fn→FM):SM:=aC (aV 2 (aE [(aB 64)])) (aC (aV 3 (aE [(aB 65)])) (aC (aV 4 (aE [(aB 0),(aB 7)])) (aC (aV 5 (aG (aA 0) (bU "num"))) (aC (aV 6 (aE [(aB 69),(aA 2)])) (aC (aV 7 (aE [(aA 2),(aA 3),(aE [(aB 66)]),(aX b9),(aE [(aB 0),(aB 13)]),(aE [(aB 72),(aA 2)]),(aE [(aB 72),(aA 3)]),(aE [(aB 71),(aA 2)]),(aE [(aB 71),(aA 3)]),(aE [(aB 71),(aE [(aB 69),(aA 3)])]),(aE [(aB (-1)),(aA 2)]),(aE [(aB (-1)),(aA 3)]),(aE [(aB (-1)),(aE [(aB 73)])]),(aE [(aB (-1)),(aE [(aB 75)])]),(aE [(aB (-1)),(aE [(aB 76)])]),(aE [(aB (-1)),(aA 5)]),(aE [(aB (-1)),(aA 4)]),(aE [(aB (-1)),(aE [(aB (-1)),(aA 2)])]),(aE [(aB (-1)),(aE [(aB 69),(aA 3)])]),(aE [(aB (-1)),(aE [(aB 72),(aA 3)])]),(aE [(aB (-1)),(aE [(aB 71),(aA 2)])]),(aE [(aB 73)]),(aE [(aB 73)]),(aE [(aB 75)]),(aE [(aB 75)]),(aE [(aB 76)]),(aA 5),(aA 5),(aE [(aB 74),(aA 4)]),(aA 4),(aE [(aB 0),(aB 1)]),(aE [(aB 8),(aE [(aB 73)])]),(aE [(aB 8),(aE [(aB 75)])]),(aE [(aB 8),(aA 4)]),(aE [(aB (-1)),(aE [(aB 8),(aE [(aB 75)])])]),(aE [(aB 74),(aA 2)]),(aE [(aB (-1)),(aE [(aB (-1)),(aE [(aB 75)])])])])) (aC (aV 8 (aG (aA 7) (aT .mod (aA 1) (aB 37)))) (aC (aV 1 (aT .fdiv (aA 1) (aB 37))) (aC (aV 9 (aJ (c .law_ups) [(aA 0),(aA 8)])) (aC (aV 10 (aG (aA 9) (aT .mod (aA 1) (cH (aA 9))))) (aC (aV 1 (aT .fdiv (aA 1) (cH (aA 9)))) (aC (a8 (eJ (aK .gt (cH (aA 10)) (aB 1)) (eJ (aK .ne (aG (aA 10) (aB 0)) (aB 0)) (eJ (aK .ne (aG (aA 10) (aB 0)) (aB 8)) (aK .gt (aT .mod (aA 1) (aB 4)) (aB 0))))) (aC (aW (aE [(aA 8),(aJ (c .law_bent) [(aA 10),(aT .fdiv (aA 1) (aB 4))])])) aF) aF) (aC (aV 11 (aE [(aX b9),(aE [(aB 2)]),(aE [(aB 3)]),(aE [(aB 5)]),(aE [(aB 6)]),(aA 2),(aA 3),(aE [(aB 66)]),(aE [(aB 67)]),(aE [(aB 68)]),(aE [(aB 0),(aB 13)]),(aE [(aB 73)]),(aE [(aB 75)]),(aE [(aB 76)]),(aA 5),(aA 4),(aE [(aB 8),(aE [(aB 73)])]),(aE [(aB 8),(aE [(aB 75)])]),(aE [(aB 8),(aA 4)]),(aE [(aB 8)]),(aE [(aB 74),(aA 4)]),(aE [(aB (-1)),(aX b9)]),(aE [(aB (-1)),(aE [(aB 5)])]),(aE [(aB (-1)),(aE [(aB 67)])]),(aA 6),(aE [(aB 69),(aA 5)]),(aE [(aB 69),(aE [(aB 75)])]),(aE [(aB 70),(aA 2),(aA 2)]),(aE [(aB 70),(aX b9),(aE [(aB 66)])]),(aE [(aB 71),(aA 2)]),(aE [(aB 71),(aX b9)]),(aE [(aB (-1)),(aA 2)]),(aE [(aB (-1)),(aE [(aB (-1)),(aX b9)])]),(aE [(aB 69),(aA 6)]),(aE [(aB 72),(aA 2)]),(aE [(aB 69),(aX b9)]),(aE [(aB 70),(aA 3),(aE [(aB 75)])])])) (aC (aW (aE [(aA 8),(aG (aA 11) (aT .mod (aT .fdiv (aA 1) (aB 4)) (aB 37)))])) aF)))))))))))))
noncomputable def aU9 (c:Fn→FM):SM:=aC (aV 5 (aJ (c .law_is) [(aA 0),(aA 2),(aA 3)])) (aC (aV 6 (aJ (c .law_kind) [(aA 0),(aA 2)])) (aC (aV 7 (aJ (c .law_kind) [(aA 0),(aA 3)])) (aC (aV 8 (cH (aR (aR (aA 1) "kt") "rows"))) (aC (a8 (dT (aK .ne (aJ (c .instance_of) [(aA 1),(aA 6),(aA 7)]) (aA 5)) (aK .ne (cH (aR (aR (aA 1) "kt") "rows")) (aA 8))) (aC (aW (b0 false)) aF) aF) (aC (a8 (gG (bL (aJ (c .law_value) [(aA 2)]))) (aC (a8 (bL (aA 4)) (aC (aW (cP (aK .eq (aJ (c .assignable) [(aA 1),(aA 6),(aA 7)]) (aA 5)))) aF) aF) (aC (aW (gZ (cP (aK .ne (aJ (c .assignable) [(aA 1),(aX l7),(aA 7)]) (aJ (c .law_value) [(aA 3)]))) (mO (aJ (c .assignable) [(aA 1),(aA 7),(aX l7)])))) aF)) aF) (aC (a8 (aK .ne (aJ (c .assignable) [(aA 1),(aA 6),(aA 7)]) (cP (aK .eq (aA 2) (aA 3)))) (aC (aW (b0 false)) aF) aF) (aC (a8 (dT (aK .eq (aG (aA 2) (aB 0)) (aB 8)) (bL (aJ (c .law_value) [(aA 3)]))) (aC (aW (b0 true)) aF) aF) (aC (a8 (bL (aA 4)) (aC (aW (gZ (cP (aK .eq (aJ (c .box_goes) [(aA 1),(aA 6),(aA 7)]) (aA 5))) (cP (aK .eq (cH (aR (aR (aA 1) "kt") "rows")) (aA 8))))) aF) aF) (aC (aW (cP (aK .eq (aJ (c .assignable) [(aA 1),(aJ (c .boxed_kind) [(aR (aA 1) "kt"),(aA 6)]),(aA 7)]) (aA 5)))) aF)))))))))
noncomputable def vG (c:Fn→FM):SM:=aC (aV 1 (gX [] 0 (hX (aA 0) none (some (aB 16))) (aT .mod (aA 0) (aB 1000003)))) (aC (a8 (aK .eq (cH (aA 1)) (aB 0)) (aC (aV 1 (cF [(aB 24589),(aB 244137),(aB 40450),(aB 902),(aB 7183),(aB 61)])) aF) aF) (aC (aV 2 (kN .host (mkF 2 (mA fun _ _ _=>none)) [(kN .table (mkF 1 (jG fun _ _ _=>none)) [])])) (aC (aV 3 (aJ (c .law_world) [(aA 1),(aA 2)])) (aC (aV 4 (aE [(aB 75)])) (aC (aV 5 (aG (aA 3) (bU "num"))) (aC (aV 6 (aE [(aB 0),(fF (bL (aT .mod (aG (aA 5) (aB 1)) (aB 2))) (aT .add (aG (aA 5) (aB 1)) (aB 1)) (aT .sub (aG (aA 5) (aB 1)) (aB 1)))])) (aC (aV 7 (cF [(aE [(aE [(aB 8),(aE [(aB 73)])]),(aX b9)]),(aE [(aE [(aB 8),(aA 4)]),(aE [(aB 8),(aA 4)])]),(aE [(aE [(aB 0),(aB 7)]),(aE [(aB 8),(aE [(aB 0),(aB 7)])])]),(aE [(aA 4),(aE [(aB 8),(aA 4)])]),(aE [(aA 5),(aA 4)]),(aE [(aA 4),(aA 5)]),(aE [(aE [(aB 73)]),(aE [(aB 8)])]),(aE [(aA 4),(aE [(aB 69),(aA 5)])]),(aE [(aE [(aB (-1)),(aA 4)]),(aE [(aB (-1)),(aA 6)])]),(aE [(aE [(aB 73)]),(aE [(aB 2)])]),(aE [(aA 4),(aE [(aB 3)])])])) (aC (fH 8 (aB 0) (cH (aA 1)) (aC (cG (b7 (aA 7) (aJ (c .law_pair) [(aA 3),(aT .add (aG (aA 1) (aA 8)) (aT .mul (aB 101) (aA 8)))]))) aF)) (aC (fH 8 (aB 0) (cH (aA 7)) (aC (a8 (gG (bL (aJ (c .law_asked) [(aA 3),(aA 2),(aG (aG (aA 7) (aA 8)) (aB 0)),(aG (aG (aA 7) (aA 8)) (aB 1)),(cP (aK .eq (aT .mod (aA 8) (aB 2)) (aB 1)))]))) (aC (aW (b0 false)) aF) aF) aF)) (aC (aW (b0 true)) aF))))))))))
noncomputable def bR7 (c:Fn→FM):List FM:=[mkF 1 (jG c),mkF 2 (cF0 c),mkF 2 (cF1 c),mkF 1 (aE4 c),mkF 1 (aU5 c),mkF 1 (aP1 c),mkF 2 (wP c),mkF 2 (aE5 c),mkF 2 (aP7 c),mkF 2 (aU7 c),mkF 3 (aP6 c),mkF 3 (aP0 c),mkF 2 (aU6 c),mkF 2 (aQ0 c),mkF 2 (aP8 c),mkF 2 (aV0 c),mkF 2 (bS3 c),mkF 2 (cE6 c),mkF 2 (bS4 c),mkF 2 (bG2 c),mkF 2 (cE9 c),mkF 2 (cE8 c),mkF 2 (aE6 c),mkF 2 (wO c),mkF 2 (zN c),mkF 2 (bG3 c),mkF 2 (pM c),mkF 2 (pN c),mkF 4 (aQ1 c),mkF 2 (wM c),mkF 2 (bS1 c),mkF 2 (aE2 c),mkF 2 (mA c),mkF 2 (bS6 c),mkF 2 (zV c),mkF 2 (bS5 c),mkF 2 (aE8 c),mkF 2 (bG5 c),mkF 2 (aP3 c),mkF 2 (aP2 c),mkF 2 (aP4 c),mkF 2 (zQ c),mkF 2 (nZ c),mkF 3 (wN c),mkF 4 (wQ c),mkF 3 (bF4 c),mkF 2 (aE1 c),mkF 3 (aV1 c),mkF 4 (yH c),mkF 4 (aE7 c),mkF 4 (zP c),mkF 4 (aO9 c),mkF 4 (zR c),mkF 4 (zU c),mkF 3 (aP9 c),mkF 3 (aE3 c),mkF 3 (bG4 c),mkF 1 (aU8 c),mkF 2 (bF8 c),mkF 2 (bG0 c),mkF 2 (qZ c),mkF 2 (bF5 c),mkF 2 (bS2 c),mkF 2 (aP5 c),mkF 4 (bF7 c),mkF 4 (bF9 c),mkF 3 (cE7 c),mkF 2 (bG1 c),mkF 2 (bF6 c),mkF 5 (aU9 c),mkF 1 (vG c)]
noncomputable def hG (c:Fn→FM) (f:Fn):FM:=(bR7 c).getD f fun _ _=>none
noncomputable def aL:Nat→Fn→FM
 |0,_=>fun _ _=>none
 |n+1,f=>if n<2 then fun _ _=>none else hG (aL n) f
section
section
variable {ρ ρ1 ρ2:Env}{σ σ1 σ2 σ3:aD}{u v w:V}{a b e o:EM}{s s2:SM}{t t2:TM}{f:FM}{es:List EM}{vs:List V}
theorem bH{j k m:Nat}(h:k≤m+1)(d:Nat.ble (Nat.succ j) k=true):j≤m:=Nat.le_of_succ_le_succ (Nat.le_trans (Nat.le_of_ble_eq_true d) h)
theorem iI{j k m:Nat}(h:k≤m)(d:Nat.ble j k=true):j≤m:=Nat.le_trans (Nat.le_of_ble_eq_true d) h
theorem jY{k n:Nat}(h:k≤n)(d:Nat.ble 1 k=true):∃m,n=m+1:=⟨n-1,(Nat.succ_pred_eq_of_pos (Nat.le_trans (Nat.le_of_ble_eq_true d) h)).symm⟩
theorem yL{C:aD}:(σ++C).length=σ.length+C.length:=List.length_append
theorem dD4{C:aD}:σ.length≤(σ++C).length:=Nat.le_trans (Nat.le_add_right ..) (Nat.le_of_eq yL.symm)
theorem jU{C:aD}{i:Nat}{o:bF}(h:C[i]? =some o):(σ++C)[σ.length+i]? =some o:=by
 rw[List.getElem?_append_right (Nat.le_add_right ..),Nat.add_sub_cancel_left];exact h
theorem mR{C:aD}{o:bF}(h:C[0]? =some o):(σ++C)[σ.length]? =some o:=jU (i:=0) h
theorem aF8{C:aD}{i:Nat}{o:bF}:(σ++C).set (σ.length+i) o=σ++C.set i o:=by
 rw[List.set_append_right _ _ (Nat.le_add_right ..),Nat.add_sub_cancel_left]
theorem aQ5{C:aD}{o:bF}:(σ++C).set σ.length o=σ++C.set 0 o:=aF8 (i:=0)
theorem bG8{C D:aD}:(σ++C)++D=σ++(C++D):=List.append_assoc ..
theorem f8{k n:Nat}{g:Fn}{r:Option (V×aD)}(h:k≤n)(d:Nat.ble 3 k=true)(hb:∀m,k≤m+1→hG (aL m) g vs σ=r):aL n g vs σ=r:=by
 obtain⟨m,rfl⟩:=jY h (Nat.ble_eq.mpr (Nat.le_trans (by decide) (Nat.le_of_ble_eq_true d)))
 have:¬m<2:=Nat.not_lt.mpr (bH h d)
 rw[←hb m h,aL,if_neg this]
theorem dP7{n:Nat}{bd:SM}{args:List V}(hl:args.length=n)(h:bd (fun i=>args[i]?) σ=some (.ret v,ρ,σ1)):mkF n bd args σ=some (v,σ1):=by simp only[mkF,hl,if_true,h]
theorem vC{n:Nat}{bd:SM}{args:List V}(hl:args.length=n)(h:bd (fun i=>args[i]?) σ=some (.next,ρ,σ1)):mkF n bd args σ=some (.none,σ1):=by simp only[mkF,hl,if_true,h]
theorem bI{r:Option (Fl×Env×aD)}(h:s ρ σ=some (.next,ρ1,σ1))(k:s2 ρ1 σ1=r):aC s s2 ρ σ=r:=by simp only[aC,h];exact k
theorem oL(h:s ρ σ=some (.ret v,ρ1,σ1)):aC s s2 ρ σ=some (.ret v,ρ1,σ1):=by simp only[aC,h]
theorem dH8(h:s ρ σ=some (.cont,ρ1,σ1)):aC s s2 ρ σ=some (.cont,ρ1,σ1):=by simp only[aC,h]
theorem eM{i:Nat}(h:e ρ σ=some (v,σ1)):aV i e ρ σ=some (.next,aZ ρ i v,σ1):=by simp only[aV,h]
theorem k0(h:e ρ σ=some (v,σ1)):aC (aW e) s ρ σ=some (.ret v,ρ,σ1):=by simp only[aC,aW,h]
theorem pR(h:e ρ σ=some (v,σ1)):cG e ρ σ=some (.next,ρ,σ1):=by simp only[cG,h]
theorem o4{r:Option (Fl×Env×aD)}(h:t ρ σ=some (true,σ1))(k:s ρ σ1=r):a8 t s s2 ρ σ=r:=by simp only[a8,h];exact k
theorem bA3{r:Option (Fl×Env×aD)}(h:t ρ σ=some (false,σ1))(k:s2 ρ σ1=r):a8 t s s2 ρ σ=r:=by simp only[a8,h];exact k
theorem cH1{r:Option (Fl×Env×aD)}(h:t ρ σ=some (false,σ1))(k:s2 ρ σ1=r):aC (a8 t s aF) s2 ρ σ=r:=by simp only[aC,a8,h,aF];exact k
theorem jL(h:t ρ σ=some (true,σ1))(k:s ρ σ1=some (.ret v,ρ1,σ2)):aC (a8 t s aF) s2 ρ σ=some (.ret v,ρ1,σ2):=by simp only[aC,a8,h,k]
theorem dT5{c:Prop}[Decidable c](h:t ρ σ=some (decide c,σ1))(k1:c→s ρ σ1=some (.ret v,ρ,σ2))(k2:¬c→∃ρ',s2 ρ σ1=some (.ret v,ρ',σ2)):∃ρ',aC (a8 t s aF) s2 ρ σ=some (.ret v,ρ',σ2):=by
 by_cases hc:c
 ·rw[decide_eq_true hc]at h;exact⟨_,jL h (k1 hc)⟩
 ·rw[decide_eq_false hc]at h
  obtain⟨ρ',k⟩:=k2 hc
  exact⟨ρ',cH1 h k⟩
theorem eR{x:String}{j d:Nat}{c:CN}{fs:List (String×V)}(h:o ρ σ=some (.ref j,σ1))(k:cS σ1 j=some (c,d,fs))(l:iK fs x=some v):aR o x ρ σ=some (v,σ1):=by simp only[aR,h,k,l]
theorem aO{r:Option (V×aD)}(h:dO es ρ σ=some (vs,σ1))(k:f vs σ1=r):aJ f es ρ σ=r:=by simp only[aJ,h];exact k
theorem aU(h:e ρ σ=some (v,σ1))(k:dO es ρ σ1=some (vs,σ2)):dO (e::es) ρ σ=some (v::vs,σ2):=by simp only[dO,h,k]
theorem fK(h:dO es ρ σ=some (vs,σ1)):aE es ρ σ=some (.tup vs,σ1):=by simp only[aE,h]
theorem bE(h:a ρ σ=some (u,σ1))(k:b ρ σ1=some (v,σ2))(l:gH u v σ2=some w):aG a b ρ σ=some (w,σ2):=by simp only[aG,h,k,l]
theorem qR{q:BO}{r:Option (V×aD)}(h:a ρ σ=some (u,σ1))(k:b ρ σ1=some (v,σ2))(l:gC q u v σ2=r):aT q a b ρ σ=r:=by simp only[aT,h,k];exact l
theorem kG{n:Int}(h:e ρ σ=some (v,σ1))(k:jD v σ1=some n):cH e ρ σ=some (.int n,σ1):=by simp only[cH,h,k]
theorem qQ{x y z:V}(h:o ρ σ=some (x,σ1))(d:iE x σ1=true)(k:a ρ σ1=some (y,σ2))(l:b ρ σ2=some (z,σ3))(g:mN x y z σ3=some v):jQ o a b ρ σ=some (v,σ3):=by simp only[jQ,h,d,if_true,k,l,g]
theorem wY{c:CN}{x:String}{j d:Nat}{fs:List (String×V)}{r:Option (V×aD)}(h:o ρ σ=some (.ref j,σ1))(k:cS σ1 j=some (c,d,fs))(n:iK fs x=none)(l:dO es ρ σ1=some (vs,σ2))(g:f (.ref j::vs) σ2=r):dU c x f o es ρ σ=r:=by
 have:CN.beq c c=true:=by cases c<;>rfl
 simp only[dU,h,k,n,this,Option.isNone_none,Bool.and_self,if_true,l];exact g
theorem oE{r:Option (V×aD)}(h:t ρ σ=some (true,σ1))(k:a ρ σ1=r):fF t a b ρ σ=r:=by simp only[fF,h];exact k
theorem mE{r:Option (V×aD)}(h:t ρ σ=some (false,σ1))(k:b ρ σ1=r):fF t a b ρ σ=r:=by simp only[fF,h];exact k
theorem cV{q:CO}{p:Bool}(h:a ρ σ=some (u,σ1))(k:b ρ σ1=some (v,σ2))(c:gK q u v σ2=some p):aK q a b ρ σ=some (p,σ2):=by simp only[aK,h,k,c]
theorem bV{p:Bool}(h:e ρ σ=some (v,σ1))(k:e0 v σ1=some p):bL e ρ σ=some (p,σ1):=by simp only[bL,h,k]
theorem jK{p:Bool}(h:t ρ σ=some (p,σ1)):gG t ρ σ=some (!p,σ1):=by simp only[gG,h]
theorem aF0{r:Option (Bool×aD)}(h:t ρ σ=some (true,σ1))(k:t2 ρ σ1=r):eJ t t2 ρ σ=r:=by simp only[eJ,h];exact k
theorem wX(h:t ρ σ=some (false,σ1)):eJ t t2 ρ σ=some (false,σ1):=by simp only[eJ,h]
theorem j6{r:Option (Bool×aD)}(h:t ρ σ=some (false,σ1))(k:t2 ρ σ1=r):dT t t2 ρ σ=r:=by simp only[dT,h];exact k
theorem qP(h:t ρ σ=some (true,σ1)):dT t t2 ρ σ=some (true,σ1):=by simp only[dT,h]
theorem eH{p:Bool}(h:t ρ σ=some (p,σ1)):cP t ρ σ=some (.bool p,σ1):=by simp only[cP,h]
theorem bA0{p q:Bool}(h:a ρ σ=some (.bool p,σ1))(k:b ρ σ1=some (.bool q,σ1)):gZ a b ρ σ=some (.bool (p&&q),σ1):=by
 cases p<;>simp only[gZ,h,e0,k]<;>rfl
theorem aG9{p q:Bool}(h:a ρ σ=some (.bool p,σ1))(k:b ρ σ1=some (.bool q,σ1)):mV a b ρ σ=some (.bool (p||q),σ1):=by
 cases p<;>simp only[mV,h,e0,k]<;>rfl
theorem gT{p q:Bool}(h:t ρ σ=some (p,σ1))(k:t2 ρ σ1=some (q,σ1)):eJ t t2 ρ σ=some (p&&q,σ1):=by
 cases p<;>simp only[eJ,h,k]<;>rfl
theorem dW{p q:Bool}(h:t ρ σ=some (p,σ1))(k:t2 ρ σ1=some (q,σ1)):dT t t2 ρ σ=some (p||q,σ1):=by
 cases p<;>simp only[dT,h,k]<;>rfl
theorem bQ{i j:Int}(h:a ρ σ=some (.int i,σ1))(k:b ρ σ1=some (.int j,σ2)):aK .eq a b ρ σ=some (decide (i=j),σ2):=cV h k rfl
theorem nI{i j:Int}(h:a ρ σ=some (.int i,σ1))(k:b ρ σ1=some (.int j,σ2)):aK .ne a b ρ σ=some (!decide (i=j),σ2):=cV h k rfl
theorem l4{l:List V}{i:Nat}(h:l[i]? =some v)(d:Nat.ble i 1000=true):gH (.tup l) (.int i) σ=some v:=by
 have:(i:Int)<2^60:=Int.lt_of_le_of_lt (Int.ofNat_le.mpr (Nat.le_of_ble_eq_true d)) (by decide)
 have h0:0≤(i:Int)∧(i:Int)<2^60:=⟨Int.natCast_nonneg i,this⟩
 simp only[gH,h0,and_self,if_true,Int.toNat_natCast,h]
theorem kC{i:Nat}{ds:List (V×V)}{k:V}(h:σ[i]? =some (.dict ds))(d:fM ds k=true)(l:bW ds k=some v):gH (.ref i) k σ=some v:=by simp only[gH,h,d,if_true,l]
theorem aZ8{i:Nat}{ds:List (V×V)}(h:a ρ σ=some (u,σ1))(k:b ρ σ1=some (.ref i,σ2))(g:σ2[i]? =some (.dict ds))(d:fM ds u=true):aK .isIn a b ρ σ=some ((bW ds u).isSome,σ2):=cV h k (by simp only[gK,sS,g,d,if_true])
noncomputable def fN (s:SM) (ρ:Env) (σ:aD) (v:V) (σ':aD):Prop:=∃ρ',s ρ σ=some (.ret v,ρ',σ')
theorem fR{n:Nat}{bd:SM}{args:List V}(hl:args.length=n)(h:fN bd (fun i=>args[i]?) σ v σ1):mkF n bd args σ=some (v,σ1):=let⟨_,h⟩:=h;dP7 hl h
theorem bA(h:e ρ σ=some (v,σ1)):fN (aC (aW e) s) ρ σ v σ1:=⟨_,k0 h⟩
theorem fZ(h:s ρ σ=some (.next,ρ1,σ1))(k:fN s2 ρ1 σ1 v σ2):fN (aC s s2) ρ σ v σ2:=let⟨_,k⟩:=k;⟨_,bI h k⟩
theorem cQ{i:Nat}(h:e ρ σ=some (u,σ1))(k:fN s2 (aZ ρ i u) σ1 v σ2):fN (aC (aV i e) s2) ρ σ v σ2:=fZ (eM h) k
theorem pT{p:Bool}(h:t ρ σ=some (p,σ1))(k1:p=true→fN s ρ σ1 v σ2)(k2:p=false→fN s2 ρ σ1 v σ2):fN (aC (a8 t s aF) s2) ρ σ v σ2:=by
 cases p
 ·obtain⟨_,k⟩:=k2 rfl;exact⟨_,cH1 h k⟩
 ·obtain⟨_,k⟩:=k1 rfl;exact⟨_,jL h k⟩
theorem rD{c:Prop}[Decidable c](h:t ρ σ=some (decide c,σ1))(k1:c→fN s ρ σ1 v σ2)(k2:¬c→fN s2 ρ σ1 v σ2):fN (aC (a8 t s aF) s2) ρ σ v σ2:=pT h (fun q=>k1 (of_decide_eq_true q)) fun q=>k2 (of_decide_eq_false q)
theorem vIf{p:Bool}(h:t ρ σ=some (p,σ1))(k:a ρ σ1=some (u,σ2))(l:b ρ σ1=some (v,σ2)):fF t a b ρ σ=some (if p then u else v,σ2):=by
 cases p
 ·exact mE h l
 ·exact oE h k
theorem cU{p:Bool}(h:t ρ σ=some (p,σ1))(q:p=true)(k:fN s ρ σ1 v σ2):fN (aC (a8 t s aF) s2) ρ σ v σ2:=pT h (fun _=>k) fun e=>by rw[q]at e;cases e
theorem bN{p:Bool}(h:t ρ σ=some (p,σ1))(q:p=false)(k:fN s2 ρ σ1 v σ2):fN (aC (a8 t s aF) s2) ρ σ v σ2:=pT h (fun e=>by rw[q]at e;cases e) fun _=>k
theorem iQ{p:Bool}(h:t ρ σ=some (p,σ1))(q:p=false):a8 t s aF ρ σ=some (.next,ρ,σ1):=bA3 (q▸h) rfl
theorem aH{i:Nat}(h:ρ i=some v):aA i ρ σ=some (v,σ):=by simp only[aA,h]
theorem jW{i:Nat}(h:ρ i=some v):dO [aA i] ρ σ=some ([v],σ):=aU (aH h) rfl
theorem eE{i j:Nat}(h:ρ i=some u)(k:ρ j=some v):dO [aA i,aA j] ρ σ=some ([u,v],σ):=aU (aH h) (jW k)
theorem vM{i j l:Nat}(h:ρ i=some u)(k:ρ j=some v)(g:ρ l=some w):dO [aA i,aA j,aA l] ρ σ=some ([u,v,w],σ):=aU (aH h) (eE k g)
theorem z9{i j l r:Nat}{x:V}(h:ρ i=some u)(k:ρ j=some v)(g:ρ l=some w)(q:ρ r=some x):dO [aA i,aA j,aA l,aA r] ρ σ=some ([u,v,w,x],σ):=aU (aH h) (vM k g q)
theorem nH{i j:Nat}{l:List V}{r:Option (Fl×Env×aD)}(h:e ρ σ=some (.ref j,σ1))(g:σ1[j]? =some (.list l))(k:dM i s (.list j) l l ρ σ1=r):dL i e s ρ σ=r:=by simp only[dL,h,fS,g];exact k
theorem cH2{i:Nat}{l:List V}{r:Option (Fl×Env×aD)}(h:e ρ σ=some (.tup l,σ1))(k:dM i s .fix l l ρ σ1=r):dL i e s ρ σ=r:=by simp only[dL,h,fS];exact k
theorem f0{x:String}{fs:List (String×V)}:iK ((x,v)::fs) x=some v:=by simp only[iK,if_true]
theorem cY{x y:String}{fs:List (String×V)}{r:Option V}(h:(y==x)=false)(k:iK fs x=r):iK ((y,v)::fs) x=r:=by
 have:¬y=x:=fun q=>by rw[q,beq_self_eq_true]at h;cases h
 simp only[iK,this,if_false];exact k
noncomputable def kQ (s:SM) (ρ:Env) (σ σ1:aD) (P:V→Prop):Prop:=∃v,fN s ρ σ v σ1∧P v
theorem fP{P:V→Prop}{n:Nat}{bd:SM}{args:List V}(hl:args.length=n)(h:kQ bd (fun i=>args[i]?) σ σ1 P):∃v,mkF n bd args σ=some (v,σ1)∧P v:=let⟨v,h,p⟩:=h;⟨v,fR hl h,p⟩
theorem dC8{P:V→Prop}{k n:Nat}{g:Fn}(h:k≤n)(d:Nat.ble 3 k=true)(hb:∀m,k≤m+1→∃v,hG (aL m) g vs σ=some (v,σ1)∧P v):∃v,aL n g vs σ=some (v,σ1)∧P v:=by
 obtain⟨m,rfl⟩:=jY h (Nat.ble_eq.mpr (Nat.le_trans (by decide) (Nat.le_of_ble_eq_true d)))
 obtain⟨v,e,p⟩:=hb m h
 have:¬m<2:=Nat.not_lt.mpr (bH h d)
 refine⟨v,?_,p⟩
 rw[aL,if_neg this];exact e
theorem cA1{P:V→Prop}(h:e ρ σ=some (v,σ1))(p:P v):kQ (aC (aW e) s) ρ σ σ1 P:=⟨v,bA h,p⟩
theorem dI6{P:V→Prop}(h:s ρ σ=some (.next,ρ1,σ1))(k:kQ s2 ρ1 σ1 σ2 P):kQ (aC s s2) ρ σ σ2 P:=let⟨v,k,p⟩:=k;⟨v,fZ h k,p⟩
theorem aK2{P:V→Prop}{i:Nat}(h:e ρ σ=some (u,σ1))(k:kQ s2 (aZ ρ i u) σ1 σ2 P):kQ (aC (aV i e) s2) ρ σ σ2 P:=dI6 (eM h) k
theorem pIf{P:V→Prop}{p:Bool}(h:t ρ σ=some (p,σ1))(k1:p=true→kQ s ρ σ1 σ2 P)(k2:p=false→kQ s2 ρ σ1 σ2 P):kQ (aC (a8 t s aF) s2) ρ σ σ2 P:=by
 cases p
 ·obtain⟨v,k,q⟩:=k2 rfl;exact⟨v,bN h rfl k,q⟩
 ·obtain⟨v,k,q⟩:=k1 rfl;exact⟨v,cU h rfl k,q⟩
theorem pD{P:V→Prop}{c:Prop}[Decidable c](h:t ρ σ=some (decide c,σ1))(k1:c→kQ s ρ σ1 σ2 P)(k2:¬c→kQ s2 ρ σ1 σ2 P):kQ (aC (a8 t s aF) s2) ρ σ σ2 P:=pIf h (fun q=>k1 (of_decide_eq_true q)) fun q=>k2 (of_decide_eq_false q)
theorem dI4{P:V→Prop}{p:Bool}(h:t ρ σ=some (p,σ1))(q:p=true)(k:kQ s ρ σ1 σ2 P):kQ (aC (a8 t s aF) s2) ρ σ σ2 P:=pIf h (fun _=>k) fun e=>by rw[q]at e;cases e
theorem dI5{P:V→Prop}{p:Bool}(h:t ρ σ=some (p,σ1))(q:p=false)(k:kQ s2 ρ σ1 σ2 P):kQ (aC (a8 t s aF) s2) ρ σ σ2 P:=pIf h (fun e=>by rw[q]at e;cases e) fun _=>k
theorem iM{k n a:Nat}{g:Fn}{bd:(Fn→FM)→SM}(h:k≤n)(d:Nat.ble 3 k=true)(hg:∀c,hG c g=mkF a (bd c))(hl:vs.length=a)(hb:∀m,k≤m+1→fN (bd (aL m)) (fun i=>vs[i]?) σ v σ1):aL n g vs σ=some (v,σ1):=f8 h d fun m hm=>by rw[hg];exact fR hl (hb m hm)
theorem cJ9{P:V→Prop}{k n a:Nat}{g:Fn}{bd:(Fn→FM)→SM}(h:k≤n)(d:Nat.ble 3 k=true)(hg:∀c,hG c g=mkF a (bd c))(hl:vs.length=a)(hb:∀m,k≤m+1→kQ (bd (aL m)) (fun i=>vs[i]?) σ σ1 P):∃v,aL n g vs σ=some (v,σ1)∧P v:=dC8 h d fun m hm=>by rw[hg];exact fP hl (hb m hm)
theorem cL{m a:Nat}{g:Fn}{bd:(Fn→FM)→SM}(h:2≤m)(hg:∀c,hG c g=mkF a (bd c))(hl:vs.length=a)(hb:fN (bd (aL m)) (fun i=>vs[i]?) σ v σ1):aL (m+1) g vs σ=some (v,σ1):=by
 rw[aL,if_neg (Nat.not_lt.mpr h),hg];exact fR hl hb
noncomputable def oA (s:SM) (ρ:Env) (σ σ':aD):Prop:=∃ρ',s ρ σ=some (.next,ρ',σ')
theorem bF0{k n a:Nat}{g:Fn}{bd:(Fn→FM)→SM}(h:k≤n)(d:Nat.ble 3 k=true)(hg:∀c,hG c g=mkF a (bd c))(hl:vs.length=a)(hb:∀m,k≤m+1→oA (bd (aL m)) (fun i=>vs[i]?) σ σ1):aL n g vs σ=some (.none,σ1):=f8 h d fun m hm=>by
 obtain⟨_,hb⟩:=hb m hm
 rw[hg];exact vC hl hb
theorem aL0:oA aF ρ σ σ:=⟨_,rfl⟩
theorem u0(h:s ρ σ=some (.next,ρ1,σ1))(k:oA s2 ρ1 σ1 σ2):oA (aC s s2) ρ σ σ2:=let⟨_,k⟩:=k;⟨_,bI h k⟩
theorem dT6(h:oA s ρ σ σ1)(k:∀ρ1,oA s2 ρ1 σ1 σ2):oA (aC s s2) ρ σ σ2:=let⟨_,h⟩:=h;u0 h (k _)
theorem dO8{i:Nat}(h:e ρ σ=some (u,σ1))(k:oA s2 (aZ ρ i u) σ1 σ2):oA (aC (aV i e) s2) ρ σ σ2:=u0 (eM h) k
theorem xM{p:Bool}(h:t ρ σ=some (p,σ1))(q:p=false)(k:oA s2 ρ σ1 σ2):oA (aC (a8 t s aF) s2) ρ σ σ2:=u0 (bA3 (q▸h) rfl) k
theorem nT{p:Bool}(h:t ρ σ=some (p,σ1))(q:p=true)(k:oA s ρ σ1 σ2):oA (aC (a8 t s s2) aF) ρ σ σ2:=let⟨_,k⟩:=k;⟨_,bI (o4 (q▸h) k) rfl⟩
theorem nF{p:Bool}(h:t ρ σ=some (p,σ1))(q:p=false)(k:oA s2 ρ σ1 σ2):oA (aC (a8 t s s2) aF) ρ σ σ2:=let⟨_,k⟩:=k;⟨_,bI (bA3 (q▸h) k) rfl⟩
theorem aZ7{p:Bool}(h:a ρ σ=some (.bool p,σ1))(k:b ρ σ1=some (.bool p,σ2)):aK .eq a b ρ σ=some (true,σ2):=cV h k (congrArg some (beq_self_eq_true p))
theorem aV7{p:Bool}(h:a ρ σ=some (.bool p,σ1))(k:b ρ σ1=some (.bool p,σ2)):aK .ne a b ρ σ=some (false,σ2):=cV h k (by cases p<;>rfl)
theorem bV4{p:Bool}(h:a ρ σ=some (.bool p,σ1)):mO a ρ σ=some (.bool (!p),σ1):=by simp only[mO,h,e0]
theorem bA4{i:Nat}{x y:Int}(h:ρ i=some (.int x))(k:e ρ σ=some (.int y,σ1))(d:(small x&&small y)=true):mH i e ρ σ=some (.next,aZ ρ i (.int (x+y)),σ1):=by simp only[mH,h,k,d,if_true]
theorem s9{j:Nat}{l:List V}(h:o ρ σ=some (.ref j,σ1))(k:e ρ σ1=some (v,σ1))(g:σ1[j]? =some (.list l))(d:l.length≤100000):cG (b7 o e) ρ σ=some (.next,ρ,σ1.set j (.list (l++[v]))):=by simp only[cG,b7,h,g,k,d,if_true]
theorem aH1{j:Nat}{ds:List (V×V)}(h:e ρ σ=some (v,σ1))(k:o ρ σ1=some (.ref j,σ1))(l:a ρ σ1=some (u,σ1))(g:σ1[j]? =some (.dict ds))(d:(fM ds u&&decide (ds.length≤100000))=true):bP o a e ρ σ=some (.next,ρ,σ1.set j (.dict (dG ds u v))):=by simp only[bP,h,k,l,g,d,if_true]
theorem rV{j i:Nat}{l:List V}(h:σ[j]? =some (.list l))(k:l[i]? =some v)(d:i<1000000):gH (.ref j) (.int i) σ=some v:=by
 have h0:0≤(i:Int)∧(i:Int)<2^60:=⟨Int.natCast_nonneg i,Int.lt_trans (Int.ofNat_lt.mpr d) (by decide)⟩
 simp only[gH,h,h0,and_self,if_true,Int.toNat_natCast,k]
theorem pH{i:Nat}{all l:List V}{r:Option (Fl×Env×aD)}(h:s (aZ ρ i v) σ=some (.next,ρ1,σ1))(k:dM i s .fix all l ρ1 σ1=r):dM i s .fix all (v::l) ρ σ=r:=by simp only[dM,h,eS,if_true];exact k
theorem oI{p:Bool}{r:Option (Fl×Env×aD)}(h:t ρ σ=some (p,σ1))(q:p=true)(k:s ρ σ1=r):a8 t s s2 ρ σ=r:=o4 (q▸h) k
theorem w8{p:Bool}{r:Option (Fl×Env×aD)}(h:t ρ σ=some (p,σ1))(q:p=false)(k:s2 ρ σ1=r):a8 t s s2 ρ σ=r:=bA3 (q▸h) k
theorem mC{i:Nat}{ds:List (V×V)}{x:Option V}(h:a ρ σ=some (u,σ1))(k:b ρ σ1=some (.ref i,σ1))(g:σ1[i]? =some (.dict ds))(d:fM ds u=true)(e:bW ds u=x):aK .notIn a b ρ σ=some (!x.isSome,σ1):=cV h k (by simp only[gK,sS,g,d,if_true,e,Option.map_some])
theorem z7{i:Nat}{ds:List (V×V)}{x:Option V}(h:a ρ σ=some (u,σ1))(k:b ρ σ1=some (.ref i,σ1))(g:σ1[i]? =some (.dict ds))(d:fM ds u=true)(e:bW ds u=x):aK .isIn a b ρ σ=some (x.isSome,σ1):=cV h k (by simp only[gK,sS,g,d,if_true,e])
theorem uW{i:Nat}{l:List V}(h:e ρ σ=some (.ref i,σ1))(g:σ1[i]? =some (.list l))(d:l.length≤100000):cH e ρ σ=some (.int l.length,σ1):=kG h (by simp only[jD,g,d,if_true])
theorem dT3{i:Nat}{all l:List V}{r:Option (Fl×Env×aD)}(h:s (aZ ρ i v) σ=some (.cont,ρ1,σ1))(k:dM i s .fix all l ρ1 σ1=r):dM i s .fix all (v::l) ρ σ=r:=by simp only[dM,h,eS,if_true];exact k
theorem pQ{i:Nat}{all l:List V}{sr:Sr}(h:s (aZ ρ i v) σ=some (.ret u,ρ1,σ1)):dM i s sr all (v::l) ρ σ=some (.ret u,ρ1,σ1):=by simp only[dM,h]
theorem lR{i j:Int}(h:a ρ σ=some (.int i,σ1))(k:b ρ σ1=some (.int j,σ2))(q:i=j):aK .eq a b ρ σ=some (true,σ2):=(bQ h k).trans (by rw[decide_eq_true q])
theorem lS{i j:Int}(h:a ρ σ=some (.int i,σ1))(k:b ρ σ1=some (.int j,σ2))(q:¬i=j):aK .eq a b ρ σ=some (false,σ2):=(bQ h k).trans (by rw[decide_eq_false q])
theorem oO(h:s ρ σ=some (.ret v,ρ1,σ1)):fN (aC s s2) ρ σ v σ1:=⟨_,oL h⟩
theorem uB{i j:Nat}{all l:List V}{r:Option (Fl×Env×aD)}(h:s (aZ ρ i v) σ=some (.next,ρ1,σ1))(g:σ1[j]? =some (.list all))(k:dM i s (.list j) all l ρ1 σ1=r):dM i s (.list j) all (v::l) ρ σ=r:=by
 have:eS σ1 (.list j) all=true:=by simp only[eS,g,(V.beqL_iff all all).mpr rfl]
 simp only[dM,h,this,if_true];exact k
theorem m8{i j:Int}:gC .add (.int i) (.int j) σ=if(small i&&small j)=true then some (.int (i+j),σ)else none:=rfl
theorem pK{i j:Int}:gC .sub (.int i) (.int j) σ=if(small i&&small j)=true then some (.int (i-j),σ)else none:=rfl
theorem pL{i j:Int}:gC .mul (.int i) (.int j) σ=if(small i&&small j)=true then some (.int (i*j),σ)else none:=rfl
theorem sO{i j:Int}:gC .mod (.int i) (.int j) σ=if 0<j then some (.int (Int.fmod i j),σ)else none:=rfl
theorem qH{i j:Int}:gC .fdiv (.int i) (.int j) σ=if 0<j∧j<1000000 then some (.int (Int.fdiv i j),σ)else none:=rfl
theorem qI{x y:List V}:gC .add (.tup x) (.tup y) σ=if x.length+y.length≤1000 then some (.tup (x++y),σ)else none:=rfl
theorem aC6{i j:Nat}{x y:List V}(g:σ[i]? =some (.list x))(h:σ[j]? =some (.list y)):gC .add (.ref i) (.ref j) σ=if x.length+y.length≤1000 then eP (.list (x++y)) σ else none:=by simp only[gC,bH1,g,h]
theorem zH{l:List V}{a:Int}:mP (.tup l) (some a) none σ=if 1≤a∧a≤l.length∧l.length≤1000 then some (.tup (l.drop a.toNat),σ)else none:=rfl
theorem zI{l:List V}{b:Int}:mP (.tup l) none (some b) σ=if 0≤b∧b<l.length∧l.length≤1000 then some (.tup (l.take b.toNat),σ)else none:=rfl
theorem aY4{l:List Int}{b:Int}:mP (.gl l) none (some b) σ=if 0≤b∧b≤1000∧l.length≤1000 then eP (.list ((l.take b.toNat).map .int)) σ else none:=rfl
theorem dC6{j:Nat}{l:List V}{b:Int}(g:σ[j]? =some (.list l)):mP (.ref j) none (some b) σ=if 0≤b∧b≤1000∧l.length≤1000 then eP (.list (l.take b.toNat)) σ else none:=by simp only[mP,g]
theorem oY{o k e:EM}{ρ:Env}{v kv:V}{i:Nat}{es:List (V×V)}{σ0 C D:aD}(he:e ρ σ0=some (v,σ++C))(ho:o ρ (σ++C)=some (.ref (σ.length+i),σ++C))(hk:k ρ (σ++C)=some (kv,σ++C))(hd:C[i]? =some (.dict es))(h1:fM es kv=true)(h2:Nat.ble es.length 100000=true)(h3:C.set i (.dict (dG es kv v))=D):
  bP o k e ρ σ0=some (.next,ρ,σ++D):=by
 subst h3
 rw[←aF8]
 simp only[bP,he,ho,hk,jU hd,h1,decide_eq_true (Nat.le_of_ble_eq_true h2),Bool.and_self,if_true]
theorem uP{o e:EM}{ρ:Env}{v:V}{i:Nat}{l:List V}{σ C:aD}(ho:o ρ (σ++C)=some (.ref (σ.length+i),σ++C))(he:e ρ (σ++C)=some (v,σ++C))(hg:C[i]? =some (.list l))(hl:l.length≤100000):cG (b7 o e) ρ (σ++C)=some (.next,ρ,σ++C.set i (.list (l++[v]))):=
 (s9 ho he (jU hg) hl).trans (by rw[aF8])
theorem cU2{o:EM}{x:String}{ρ:Env}{c:CN}{i d:Nat}{fs:List (String×V)}{v:V}{σ C:aD}(ho:o ρ (σ++C)=some (.ref (σ.length+i),σ++C))(h1:C[i]? =some (.inst c (σ.length+d)))(h2:C[d]? =some (.ns fs))(h3:iK fs x=some v):aR o x ρ (σ++C)=some (v,σ++C):=by
 simp only[aR,ho,cS,jU h1,jU h2,h3]
theorem eT{σ C D:aD}{c:CN}{fs:List (String×V)}{o:bF}{nm:String}{e:EM}{ρ:Env}(r0:ρ 0=some (.ref (σ.length+1)))(he:∀τ,e ρ τ=some (.ref τ.length,τ++[o]))(h0:C[0]? =some (.ns fs))(h1:C[1]? =some (.inst c σ.length))(hl:Nat.ble fs.length 100=true)(hD:(C.set 0 (.ns (tN fs nm (.ref (σ.length+C.length)))))++[o]=D):
  cJ (aA 0) nm e ρ (σ++C)=some (.next,ρ,σ++D):=by
 subst hD
 have n0:0<C.length:=(List.getElem?_eq_some_iff.mp h0).1
 have g0:(C++[o])[0]? =some (.ns fs):=(List.getElem?_append_left n0).trans h0
 have g1:(C++[o])[1]? =some (.inst c σ.length):=(List.getElem?_append_left (List.getElem?_eq_some_iff.mp h1).1).trans h1
 have hf:cS (σ++(C++[o])) (σ.length+1)=some (c,σ.length,fs):=by simp only[cS,jU g1,mR g0]
 simp only[cJ,he,bG8,aH r0,hf,Nat.le_of_ble_eq_true hl,if_true,yL]
 rw[aQ5,List.set_append_left _ _ n0]
theorem aW3{σ C D:aD}{c:CN}{fs:List (String×V)}{v:V}{nm:String}{e:EM}{ρ:Env}(r0:ρ 0=some (.ref (σ.length+1)))(he:e ρ (σ++C)=some (v,σ++C))(h0:C[0]? =some (.ns fs))(h1:C[1]? =some (.inst c σ.length))(hl:Nat.ble fs.length 100=true)(hD:C.set 0 (.ns (tN fs nm v))=D):
  cJ (aA 0) nm e ρ (σ++C)=some (.next,ρ,σ++D):=by
 subst hD
 have hf:cS (σ++C) (σ.length+1)=some (c,σ.length,fs):=by simp only[cS,jU h1,mR h0]
 simp only[cJ,he,aH r0,hf,Nat.le_of_ble_eq_true hl,if_true]
 rw[aQ5]
theorem aK6{σ σ0 σ2:aD}{c:CN}{init:FM}{es:List EM}{vs:List V}{ρ:Env}(h:dO es ρ σ0=some (vs,σ))(k:init (.ref (σ.length+1)::vs) (σ++[.ns [],.inst c σ.length])=some (.none,σ2)):kN c init es ρ σ0=some (.ref (σ.length+1),σ2):=by
 simp only[kN,h,k]
end
end
noncomputable abbrev tm (h:Int) (l:List V):V:= .tup (.int h::l)
noncomputable abbrev tP (n:Int):V:= .tup [.int 0,.int n]
noncomputable abbrev eQ:V:=tP 12
noncomputable abbrev tA:V:=tm 64 []
noncomputable abbrev tB:V:=tm 65 []
noncomputable abbrev tC:V:=tm 66 []
noncomputable abbrev dK (e:V):V:=tm (-1) [e]
noncomputable def aQ (x:V):Int:=match x with | .tup (.int h::_)=>h |_=>0
noncomputable def bY (x:V):List V:=match x with | .tup (_::r)=>r |_=>[]
noncomputable def iZ (x:V):Int:=match x with | .tup (.int 0:: .int n::_)=>n |_=>99
noncomputable def aS (x:V):Bool:=aQ x==8||(73≤aQ x&&aQ x≤76)||(aQ x==0&&iZ x<12)
theorem V.beq_self(x:V):V.beq x x=true:=(V.beq_iff x x).mpr rfl
theorem V.beq_ne{x y:V}(h:x≠y):V.beq x y=false:=by
 induction q:V.beq x y using Bool.casesOn with
 |false=>rfl
 |true=>exact absurd ((V.beq_iff x y).mp q) h
set_option genInjectivity false in
structure Wd where
 w69:Int
 wa:Int
 wb:Int
 w71:Int
 u1:Int
 u2:Int
 bB:V
 bC:V
 fl:List (V×List V)
noncomputable def vB (x:V):List (List V):=[[],[tm 67 []],[tm 68 []],[tm 69 [tA]],[tm 69 [tB]],[tm 69 [x]],[tm 70 [tA,tB]],[tm 70 [tB,x]]]
noncomputable def j5 (x:V) (d:Nat):List V:=
 if(d=2∧(x.beq (tm 68 [])∨x.beq (tm 69 [tA])))∨(d=3∧x.beq (tm 69 [tA]))then []
 else if d=4∧x.beq tC then [tm 69 [tm 69 [x]]]
 else(vB x).getD d []
noncomputable def dD {β:Type} (l:List (V×β)) (x:V):Option β:=match l with
 |[]=>none
 |e::r=>if V.beq e.1 x then some e.2 else dD r x
noncomputable def dH (W:Wd) (x:V):List V:=(dD W.fl x).getD []
noncomputable def i7 (x:V):Option V:=
 if aQ x=0 then(if iZ x<12 then some (tm 2 [])else if iZ x=12 then none else some eQ)
 else if 67≤aQ x∧aQ x≤70 then none
 else if aQ x= -1 then some (tm 5 [])
 else if aQ x=8∨aQ x=73∨aQ x=74 then some (tm 2 [])
 else if aQ x=71 then some (tm 6 [])
 else if aQ x=75∨aQ x=76 then some (tm 3 [])
 else some eQ
noncomputable def base (W:Wd) (x:V):Option V:=
 if x.beq (tm 3 [])then some (tm 2 [])else if x.beq tB then some W.bB else if x.beq tC then some W.bC else i7 x
noncomputable def step (W:Wd) (x:V):List V:=(base W x).toList++dH W x
inductive hH (W:Wd) (x:V):V→Prop
 |refl:hH W x x
 |step {u v:V} (h:hH W x u) (hv:v∈step W u):hH W x v
noncomputable def gM (W:Wd) (x:V):V:=if x.beq (tm 75 [])then tP W.u1 else if x.beq (tm 76 [])then tP W.u2 else x
noncomputable def mF (y:V):V:=match y with
 | .tup [.int 0,.int n]=>if n=4∨n=6∨n=8∨n=10 then tP (n-1)else tP n
 |y=>y
theorem vN{y:V}(h:aQ y≠0):mF y=y:=by
 unfold mF
 split
 ·exact absurd rfl h
 ·rfl
noncomputable def fJ (W:Wd) (x:V):V:=mF (gM W x)
noncomputable def kB (W:Wd) (h:Int):Option (List Int):=if h=69 then some [W.w69]else if h=70 then some [W.wa,W.wb]else if h=71 then some [W.w71]else none
noncomputable def j9:List Int→List V→List V→Option (List (V×V))
 |w::ws,u::us,t::ts=>if V.beq u t then j9 ws us ts else
   let p:=if w=2 then(t,u)else(u,t)
   if w=0∨aS p.1∨aS p.2 then none else(j9 ws us ts).map (p:: ·)
 |_,_,_=>some []
noncomputable def iL (W:Wd) (u t:V):Option (List (V×V)):=if aQ u=aQ t then(kB W (aQ u)).bind fun ws=>j9 ws (bY u) (bY t)else none
noncomputable def gR (s t:V):Prop:=s=t∨t=eQ
noncomputable def FR (W:Wd) (P:V→V→Prop) (s t:V):Prop:=
 (∃e f,s=dK e∧t=dK f∧((aS e=true∧fJ W e=fJ W f)∨(aS e=false∧aS f=false∧P e f)))∨
 ((∀e f,s=dK e→t≠dK f)∧∃u,hH W s u∧(u=t∨∃ps,iL W u t=some ps∧∀q∈ps,P q.1 q.2))
theorem FR.mono{W:Wd}{P Q:V→V→Prop}(h:∀s t,P s t→Q s t){s t:V}:FR W P s t→FR W Q s t:=by
 rintro(⟨e,f,h1,h2,h3⟩ |⟨h0,u,h1,h2⟩)
 ·exact .inl ⟨e,f,h1,h2,h3.imp id fun⟨a,b,c⟩=>⟨a,b,h _ _ c⟩⟩
 ·exact .inr ⟨h0,u,h1,h2.imp id fun⟨ps,a,b⟩=>⟨ps,a,fun q hq=>h _ _ (b q hq)⟩⟩
noncomputable def dn (W:Wd):Nat→V→V→Prop
 |0,s,t=>gR s t
 |n+1,s,t=>gR s t∨FR W (dn W n) s t
noncomputable def D (W:Wd) (s t:V):Prop:=∃n,dn W n s t
theorem aY3{W:Wd}:∀{n:Nat} {s t:V},dn W n s t→dn W (n+1) s t
 |0,_,_,h=> .inl h
 |n+1,_,_,h=>h.imp id (FR.mono fun _ _=>aY3)
theorem bE2{W:Wd}{n m:Nat}{s t:V}(h:n≤m)(d:dn W n s t):dn W m s t:=by
 induction h with
 |refl=>exact d
 |step _ ih=>exact aY3 ih
theorem bR0{W:Wd}:∀{ps:List (V×V)},(∀q∈ps,D W q.1 q.2)→∃n,∀q∈ps,dn W n q.1 q.2
 |[],_=>⟨0,nofun⟩
 |p::ps,h=>by
  obtain⟨n,hn⟩:=bR0 fun q hq=>h q (.tail _ hq)
  obtain⟨m,hm⟩:=h p (.head _)
  refine⟨max n m,fun q hq=> ?_⟩
  rcases List.mem_cons.mp hq with rfl |hq
  ·exact bE2 (Nat.le_max_right _ _) hm
  ·exact bE2 (Nat.le_max_left _ _) (hn q hq)
theorem D.triv{W:Wd}{s t:V}(h:gR s t):D W s t:=⟨0,h⟩
theorem D.step{W:Wd}{s t:V}(h:FR W (D W) s t):D W s t:=by
 rcases h with⟨e,f,h1,h2,h3 |⟨a,b,n,hn⟩⟩ |⟨h0,u,h1,h2 |⟨ps,a,b⟩⟩
 ·exact⟨1,.inr (.inl ⟨e,f,h1,h2,.inl h3⟩)⟩
 ·exact⟨n+1,.inr (.inl ⟨e,f,h1,h2,.inr ⟨a,b,hn⟩⟩)⟩
 ·exact⟨1,.inr (.inr ⟨h0,u,h1,.inl h2⟩)⟩
 ·obtain⟨n,hn⟩:=bR0 b
  exact⟨n+1,.inr (.inr ⟨h0,u,h1,.inr ⟨ps,a,hn⟩⟩)⟩
theorem D.least{W:Wd}{P:V→V→Prop}(h1:∀s t,gR s t→P s t)(h2:∀s t,FR W P s t→P s t){s t:V}:D W s t→P s t:=by
 rintro⟨n,h⟩
 induction n generalizing s t with
 |zero=>exact h1 _ _ h
 |succ n ih=>
  rcases h with h |h
  ·exact h1 _ _ h
  ·exact h2 _ _ (h.mono fun _ _=>ih)
theorem uK{W:Wd}{s t:V}:∀{n:Nat},dn W n s t→gR s t∨∃m,m<n∧FR W (dn W m) s t∧¬dn W m s t
 |0,h=> .inl h
 |n+1,h=>by
  by_cases q:dn W n s t
  ·rcases uK q with h |⟨m,h1,h2⟩
   ·exact .inl h
   ·exact .inr ⟨m,Nat.lt_succ_of_lt h1,h2⟩
  ·rcases h with h |h
   ·exact .inl h
   ·exact .inr ⟨n,Nat.lt_succ_self _,h,q⟩
noncomputable def Book.PR (Q:List (V×V)) (s t:V):Prop:=gR s t∨(s,t)∈Q
noncomputable def Book.PQ (Q:List (V×V)) (s t:V):Prop:=gR s t∨((s,t)∈Q∧aQ s≠ -2)
theorem D.cases{W:Wd}{s t:V}(h:D W s t):gR s t∨FR W (D W) s t:=by
 obtain⟨n,h⟩:=h
 induction n using Nat.casesOn with
 |zero=>exact .inl h
 |succ n=>exact h.imp id (FR.mono fun _ _ k=>⟨n,k⟩)
section
theorem jS{n:Nat}(h:2≤n)(f:Fn):aL (n+1) f=hG (aL n) f:=by
 show(if n<2 then _ else _)=_
 rw[if_neg (nNn h)]
theorem dP8{n m:Nat}(h:n=m+1)(h2:2≤m)(f:Fn):aL n f=hG (aL m) f:=h▸jS h2 f
noncomputable def eF (ts:List V) (x:V):Nat:=match ts with
 |[]=>0
 |y::r=>if V.beq y x then 0 else eF r x+1
noncomputable abbrev aP (ts:List V) (x:V):V:= .int (eF ts x)
theorem pB:∀{ts:List V} {k:Nat} {x:V},ts.Nodup→ts[k]? =some x→eF ts x=k
 |[],k,x,_,h=>aN h
 |y::r,0,x,nd,h=>by
  simp at h;subst h;simp[eF,V.beq_self]
 |y::r,k+1,x,nd,h=>by
  simp at h
  rw[List.nodup_cons]at nd
  have:y≠x:=fun e=>nd.1 (e▸List.mem_of_getElem? h)
  simp[eF,V.beq_ne this,pB nd.2 h]
theorem bG:∀{ts:List V} {x:V},x∈ts→ts[eF ts x]? =some x
 |y::r,x,h=>by
  by_cases e:y=x
  ·subst e;simp[eF,V.beq_self]
  ·have:x∈r:=(List.mem_cons.mp h).resolve_left fun q=>e q.symm
   simp[eF,V.beq_ne e,bG this]
theorem vA{ts ns:List V}{x:V}(h:x∈ts):eF (ts++ns) x=eF ts x:=by
 induction ts with
 |nil=>cases h
 |cons y r ih=>
  by_cases e:y=x
  ·subst e;simp[eF,V.beq_self]
  ·have:x∈r:=(List.mem_cons.mp h).resolve_left fun q=>e q.symm
   simp[eF,V.beq_ne e,ih this]
noncomputable def bM (x:V):Int:=if aQ x=0 then 1 else if aQ x= -1 then 4 else if aQ x= -2 then 8 else if aS x then 3 else 2
noncomputable def uO (x:V):V:=(bY x).headD .none
noncomputable def dF (ts:List V) (x:V):List V:=
 if aQ x=0 then [.int 1,.int (iZ x)]else if aQ x= -1∨aQ x= -2 then [.int (bM x),aP ts (uO x)]else [.int (bM x),.int (aQ x),.tup ((bY x).map (aP ts))]
set_option tactic.hygienic true in
theorem fY{ts:List V}{x:V}:(dF ts x)[0]? =some (.int (bM x)):=by
 unfold dF
 split
 ·rename_i h;simp[bM,h]
 ·split<;>exact rfl
set_option genInjectivity false in
structure Ly where
 kt:Nat
 kd:Nat
 kr:Nat
 ki:Nat
 kdep:Nat
 kw:Nat
 ko:Nat
 ho:Nat
 hd:Nat
 hb:Nat
 hi:Nat
 hs:Nat
 hv:Nat
 hu:Nat
 hbo:Nat
 hg:Nat
 hn:Nat
noncomputable def f9 (es:List (V×V)):Prop:=∀e∈es,e.1.kind=2
noncomputable def iF (es:List (V×V)):Prop:=∀e∈es,e.1.kind=0
theorem fU{es:List (V×V)}(h:iF es)(i:Int):fM es (.int i)=true:=by
 have e:(V.int i).kind=0:=rfl
 unfold fM
 rw[e,Bool.and_eq_true,List.all_eq_true]
 exact⟨rfl,fun x hx=>by rw[h x hx];rfl⟩
theorem eX{es:List (V×V)}(h:f9 es){x:V}(hx:x.kind=2):fM es x=true:=by
 unfold fM
 rw[hx,Bool.and_eq_true,List.all_eq_true]
 exact⟨rfl,fun x hx=>by rw[h x hx];rfl⟩
structure eO(σ:aD)(L:Ly)(ts:List V):Prop where
 kt:σ[L.kt]? =some (.inst .table L.kd)
 kd:σ[L.kd]? =some (.ns [("rows",.ref L.kr),("index",.ref L.ki),("depths",.ref L.kdep),("weights",.ref L.kw),("opens",.ref L.ko)])
 kr:σ[L.kr]? =some (.list (ts.map fun x=> .tup (dF ts x)))
 ki:∃es,σ[L.ki]? =some (.dict es)∧f9 es∧∀x∈ts,bW es (.tup (dF ts x))=some (aP ts x)
 nd:ts.Nodup
 prim:∀i:Nat,i<16→ts[i]? =some (tP i)
 high:∀(i:Nat) (x:V),16≤i→ts[i]? =some x→aQ x≠0
 len:ts.length≤50000
section
variable {σ:aD}{L:Ly}{ts:List V}
theorem eO.fields(H:eO σ L ts):cS σ L.kt=some (.table,L.kd,[("rows",.ref L.kr),("index",.ref L.ki),("depths",.ref L.kdep),("weights",.ref L.kw),("opens",.ref L.ko)]):=by
 simp only[cS,H.kt,H.kd]
theorem dI0(H:eO σ L ts){k:Nat}{x:V}(hk:ts[k]? =some x){n:Nat}(hn:3≤n):aL n .KT_row [.ref L.kt,.int k] σ=some (.tup (dF ts x),σ):=by
 have hlt:=(List.getElem?_eq_some_iff.mp hk).1
 have hl:=H.len
 have h1:¬((k:Int)<0):=nCz
 have h2:¬((k:Int)≥(ts.length:Int)):=nNo hlt
 have hr {ρ:Env} (r0:ρ 0=some (.ref L.kt)):aR (aA 0) "rows" ρ σ=some (.ref L.kr,σ):=eR (aH r0) H.fields rfl
 have hle:jD (.ref L.kr) σ=some (ts.length:Int):=by simp only[jD,H.kr,List.length_map,d0 (c:=100000) hl rfl,if_true]
 exact iM hn rfl (fun _=>rfl) rfl fun m hm=>bN (dW (cV (aH rfl) rfl (p:=decide ((k:Int)<0)) rfl) (cV (aH rfl) (kG (hr rfl) hle) (p:=decide ((k:Int)≥(ts.length:Int))) rfl)) (by rw[decide_eq_false h1,decide_eq_false h2];rfl)
  (bA (bE (hr rfl) (aH rfl) (rV H.kr (by rw[List.getElem?_map,hk];rfl) (Nat.lt_of_lt_of_le hlt (d0 hl rfl)))))
theorem eO.vRow(H:eO σ L ts){k:Nat}{x:V}(hk:ts[k]? =some x){n:Nat}(hn:3≤n){o a:EM}{ρ:Env}(ho:o ρ σ=some (.ref L.kt,σ))(ha:a ρ σ=some (.int k,σ)):dU .table "row" (aL n .KT_row) o [a] ρ σ=some (.tup (dF ts x),σ):=
 wY ho H.fields rfl (aU ha rfl) (dI0 H hk hn)
end
end
section
theorem eL(x:V):(aQ x=0∧bM x=1)∨(aQ x= -1∧bM x=4)∨(aQ x= -2∧bM x=8)∨(aQ x≠0∧aQ x≠ -1∧aQ x≠ -2∧aS x=true∧bM x=3)∨(aQ x≠0∧aQ x≠ -1∧aQ x≠ -2∧aS x=false∧bM x=2):=by
 by_cases h0:aQ x=0
 ·exact .inl ⟨h0,if_pos h0⟩
 ·refine .inr ?_
  by_cases h1:aQ x= -1
  ·exact .inl ⟨h1,(if_neg h0).trans (if_pos h1)⟩
  ·refine .inr ?_
   by_cases h2:aQ x= -2
   ·exact .inl ⟨h2,(if_neg h0).trans ((if_neg h1).trans (if_pos h2))⟩
   ·refine .inr ?_
    by_cases h3:aS x=true
    ·exact .inl ⟨h0,h1,h2,h3,(if_neg h0).trans ((if_neg h1).trans ((if_neg h2).trans (if_pos h3)))⟩
    ·exact .inr ⟨h0,h1,h2,Bool.eq_false_iff.mpr h3,(if_neg h0).trans ((if_neg h1).trans ((if_neg h2).trans (if_neg h3)))⟩
noncomputable def eN (x:V):Int:=if aQ x=0 then(eU [(0,20),(1,9),(2,10),(3,11),(4,12),(5,13),(6,14),(7,15),(8,16),(9,17),(10,18),(11,19),(12,1),(13,4)] (iZ x)).getD 0 else if aQ x= -1 then 5 else if aQ x= -2 then 0 else aQ x
noncomputable def iX (x:V):Bool:=if aQ x=0 then decide (1≤iZ x)&&decide (iZ x≤11)else decide (bM x=3)
noncomputable def hK (x:V):Bool:=if aQ x=0 then decide (iZ x=12)||decide (iZ x=13)||decide (iZ x=14)else !decide (bM x=3)
section
variable {σ:aD}{L:Ly}{ts:List V}
theorem eO.prim_k(H:eO σ L ts){k:Nat}{x:V}(hk:ts[k]? =some x):(aQ x=0→(k:Int)=iZ x∧x=tP k∧k<16)∧(aQ x≠0→16≤k):=by
 constructor
 ·intro h
  have hlt:k<16:=by
   by_cases q:k<16
   ·exact q
   ·exact absurd h (H.high k x (nNl q) hk)
  have:=H.prim k hlt
  rw[hk]at this
  (refine cT this fun p=> ?_;clear this;subst p)
  exact⟨rfl,rfl,hlt⟩
 ·intro h
  by_cases q:k<16
  ·have:=H.prim k q
   rw[hk]at this
   (refine cT this fun p=> ?_;clear this;subst p)
   exact absurd rfl h
  ·exact nNl q
theorem d9(H:eO σ L ts){k:Nat}{x:V}(hk:ts[k]? =some x){n:Nat}(hn:4≤n):aL n .kind_sort [.ref L.kt,.int k] σ=some (.int (bM x),σ):=
 f8 hn rfl fun m hm=>fR rfl (bA (bE (H.vRow hk (bH hm rfl) rfl rfl) rfl (l4 fY rfl)))
theorem jN(H:eO σ L ts){k:Nat}{x:V}(hk:ts[k]? =some x){n:Nat}(hn:4≤n):aL n .is_var [.ref L.kt,.int k] σ=some (.bool false,σ):=by
 have e:(decide (bM x=6)||decide (bM x=7))=false:=by
  rcases eL x with⟨_,h⟩ |⟨_,h⟩ |⟨_,h⟩ |⟨_,_,_,_,h⟩ |⟨_,_,_,_,h⟩<;>rw[h]<;>rfl
 rw[←e]
 exact f8 hn rfl fun m hm=>fR rfl (cQ (bE (H.vRow hk (bH hm rfl) rfl rfl) rfl (l4 fY rfl)) (bA (aG9 (eH (bQ rfl rfl)) (eH (bQ rfl rfl)))))
theorem aW5{x:V}(h:bM x=2∨bM x=3):dF ts x=[.int (bM x),.int (aQ x),.tup ((bY x).map (aP ts))]:=by
 have:¬aQ x=0∧¬(aQ x= -1∨aQ x= -2):=by
  rcases eL x with⟨_,q⟩ |⟨_,q⟩ |⟨_,q⟩ |⟨a,b,c,_,_⟩ |⟨a,b,c,_,_⟩
  iterate 3 rw[q]at h;rcases h with h |h<;>cases h
  ·exact⟨a,fun q=>q.elim b c⟩
  ·exact⟨a,fun q=>q.elim b c⟩
 rw[dF,if_neg this.1,if_neg this.2]
theorem nP(H:eO σ L ts){k:Nat}{x:V}(hk:ts[k]? =some x)(hx:aQ x= -1∨aQ x= -2){n:Nat}(hn:4≤n):aL n .elem_of [.ref L.kt,.int k] σ=some (aP ts (uO x),σ):=by
 have h0:¬aQ x=0:=fun e=>by rw[e]at hx;rcases hx with h |h<;>injection h
 have hr:(dF ts x)[1]? =some (aP ts (uO x)):=by rw[dF,if_neg h0,if_pos hx];rfl
 have hs:(decide (bM x=4)||(decide (bM x=5)||(decide (bM x=9)||decide (bM x=8))))=true:=by
  rcases hx with h |h<;>rw[bM,h]<;>rfl
 exact f8 hn rfl fun m hm=>fR rfl (cQ (H.vRow hk (bH hm rfl) rfl rfl) (cU (dW (bQ (bE rfl rfl (l4 fY rfl)) rfl) (dW (bQ (bE rfl rfl (l4 fY rfl)) rfl) (dW (bQ (bE rfl rfl (l4 fY rfl)) rfl) (bQ (bE rfl rfl (l4 fY rfl)) rfl)))) hs (bA (bE rfl rfl (l4 (i:=1) hr rfl)))))
theorem o7(H:eO σ L ts){k:Nat}{x:V}(hk:ts[k]? =some x){n:Nat}(hn:4≤n):aL n .tid_of [.ref L.kt,.int k] σ=some (.int (eN x),σ):=by
 refine f8 hn rfl fun m hm=>fR rfl (cQ (H.vRow hk (bH hm rfl) rfl rfl) (pT (dW (bQ (bE rfl rfl (l4 fY rfl)) rfl) (bQ (bE rfl rfl (l4 fY rfl)) rfl)) (fun q=> ?_) fun q=> ?_))
 ·have q:bM x=2∨bM x=3:=by simpa using q
  have:eN x=aQ x:=by
   rcases eL x with⟨_,h⟩ |⟨_,h⟩ |⟨_,h⟩ |⟨a,b,c,_,_⟩ |⟨a,b,c,_,_⟩
   iterate 3 rw[h]at q;rcases q with q |q<;>cases q
   ·rw[eN,if_neg a,if_neg b,if_neg c]
   ·rw[eN,if_neg a,if_neg b,if_neg c]
  rw[this]
  exact bA (bE rfl rfl (l4 (i:=1) (by rw[aW5 q];rfl) rfl))
 refine rD (bQ (bE rfl rfl (l4 fY rfl)) rfl) (fun p=> ?_) fun p=> ?_
 ·have h0:aQ x=0:=by
   rcases eL x with⟨a,h⟩ |⟨_,h⟩ |⟨_,h⟩ |⟨_,_,_,_,h⟩ |⟨_,_,_,_,h⟩
   ·exact a
   all_goals rw[h]at p;cases p
  rw[eN,if_pos h0,←((H.prim_k hk).1 h0).1]
  refine bA (qQ rfl rfl rfl rfl ?_)
  show some (match eU _ (k:Int)with |some r=>V.int r |none=> .int 0)=_
  cases eU _ (k:Int)<;>rfl
 refine rD (bQ (bE rfl rfl (l4 fY rfl)) rfl) (fun r=> ?_) fun r=> ?_
 ·rcases eL x with⟨_,h⟩ |⟨a,h⟩ |⟨_,h⟩ |⟨_,_,_,_,h⟩ |⟨_,_,_,_,h⟩
  ·exact absurd h p
  ·rw[eN,a];exact bA rfl
  all_goals rw[h]at r;cases r
 ·rcases eL x with⟨_,h⟩ |⟨_,h⟩ |⟨a,h⟩ |⟨_,_,_,_,h⟩ |⟨_,_,_,_,h⟩
  ·exact absurd h p
  ·exact absurd h r
  ·rw[eN,a];exact bA rfl
  all_goals rw[h]at q;exact kP q
theorem tG(H:eO σ L ts){k:Nat}{x:V}(hk:ts[k]? =some x){n:Nat}(hn:4≤n):aL n .args_of [.ref L.kt,.int k] σ=some (.tup (if bM x=2∨bM x=3 then(bY x).map (aP ts)else []),σ):=by
 refine f8 hn rfl fun m hm=>fR rfl (cQ (H.vRow hk (bH hm rfl) rfl rfl) (pT (dW (bQ (bE rfl rfl (l4 fY rfl)) rfl) (bQ (bE rfl rfl (l4 fY rfl)) rfl)) (fun q=> ?_) fun q=> ?_))
 ·have q:bM x=2∨bM x=3:=by simpa using q
  rw[if_pos q]
  exact bA (bE rfl rfl (l4 (i:=2) (by rw[aW5 q];rfl) rfl))
 ·have q:¬(bM x=2∨bM x=3):=by simpa using q
  rw[if_neg q]
  exact bA rfl
theorem kR(H:eO σ L ts){k:Nat}{x:V}(hk:ts[k]? =some x){n:Nat}(hn:4≤n):aL n .is_value [.ref L.kt,.int k] σ=some (.bool (iX x),σ):=by
 obtain⟨hp,hq⟩:=H.prim_k hk
 refine f8 hn rfl fun m hm=>fR rfl (pT (gT (cV rfl rfl rfl) (cV rfl rfl rfl)) (fun q=> ?_) fun q=> ?_)
 ·have q:1≤(k:Int)∧(k:Int)≤11:=by simpa using q
  have:iX x=true:=by
   by_cases h0:aQ x=0
   ·rw[iX,if_pos h0,←(hp h0).1,decide_eq_true q.1,decide_eq_true q.2];rfl
   ·have:=hq h0;omega
  rw[this];exact bA rfl
 ·have:iX x=decide (bM x=3):=by
   by_cases h0:aQ x=0
   ·rw[iX,if_pos h0,←(hp h0).1,bM,if_pos h0];exact q
   ·rw[iX,if_neg h0]
  rw[this]
  exact bA (eH (bQ (bE (H.vRow hk (bH hm rfl) rfl rfl) rfl (l4 fY rfl)) rfl))
theorem fG(H:eO σ L ts){k:Nat}{x:V}(hk:ts[k]? =some x){n:Nat}(hn:4≤n):aL n .is_ref [.ref L.kt,.int k] σ=some (.bool (hK x),σ):=by
 obtain⟨hp,hq⟩:=H.prim_k hk
 refine f8 hn rfl fun m hm=>fR rfl (pT (dW (bQ rfl rfl) (dW (bQ rfl rfl) (bQ rfl rfl))) (fun q=> ?_) fun q=> ?_)
 ·have:hK x=true:=by
   by_cases h0:aQ x=0
   ·rw[hK,if_pos h0,←(hp h0).1,Bool.or_assoc];exact q
   ·have:=hq h0
    have q:(k:Int)=12∨(k:Int)=13∨(k:Int)=14:=by simpa using q
    omega
  rw[this];exact bA rfl
 ·have:hK x=(decide (bM x=2)||(decide (bM x=4)||decide (bM x=8))):=by
   by_cases h0:aQ x=0
   ·rw[hK,if_pos h0,←(hp h0).1,Bool.or_assoc,bM,if_pos h0];exact q
   ·rw[hK,if_neg h0]
    rcases eL x with⟨h,_⟩ |⟨_,h⟩ |⟨_,h⟩ |⟨_,_,_,_,h⟩ |⟨_,_,_,_,h⟩
    ·exact absurd h h0
    all_goals rw[h];rfl
  rw[this]
  exact cQ (bE (H.vRow hk (bH hm rfl) rfl rfl) rfl (l4 fY rfl)) (bA (aG9 (eH (bQ rfl rfl)) (aG9 (eH (bQ rfl rfl)) (eH (bQ rfl rfl)))))
theorem sQ(H:eO σ L ts){k:Nat}{x:V}(hk:ts[k]? =some x){n:Nat}(hn:5≤n):aL n .is_nullable [.ref L.kt,.int k] σ=some (.bool (decide (bM x=3)&&decide (eN x=8)),σ):=
 f8 hn rfl fun m hm=>fR rfl (bA (bA0 (eH (bQ (aO rfl (d9 H hk (bH hm rfl))) rfl)) (eH (bQ (aO rfl (o7 H hk (bH hm rfl))) rfl))))
end
end
section
noncomputable def eI (h:Int) (n:Nat):Bool:=
 if h= -1∨h=69∨h=71∨h=72∨h=74 then n==1
 else if h=70 then n==2
 else if h=8 then n≤1
 else([(2:Int),3,5,6,64,65,66,67,68,73,75,76].any (h== ·))&&n==0
noncomputable def dP:Nat→V→Bool
 |0,_=>false
 |d+1,x=>match x with
  | .tup (.int h::args)=>if h=0 then(match args with |[.int n]=>decide (1≤n)&&decide (n≤13) |_=>false)
   else eI h args.length&&args.all (dP d)&&(h !=8||args.all aS)
  |_=>false
theorem vH{α:Type}{p q:α→Bool}:∀{l:List α},(∀x∈l,p x=true→q x=true)→l.all p=true→l.all q=true:=by
 intro l h
 simp only[List.all_eq_true]
 exact fun H x hx=>h x hx (H x hx)
set_option tactic.hygienic true in
theorem jJ:∀(d:Nat) (x:V),dP d x=true→dP (d+1) x=true
 |0,x,h=>by exact c7 h
 |d+1,x,h=>by
  unfold dP at h⊢
  split
  ·rename_i hh args
   simp only at h
   by_cases q:hh=0
   ·simp only[q,if_true]at h⊢;exact h
   ·simp only[q,if_false,Bool.and_eq_true]at h⊢
    exact⟨⟨h.1.1,vH (fun y _=>jJ d y) h.1.2⟩,h.2⟩
  ·rename_i hx
   split at h
   ·rename_i a b;exact absurd rfl (hx a b)
   ·exact c7 h
noncomputable def wf (x:V):Bool:=dP 6 x
set_option tactic.hygienic true in
theorem cR{x:V}(h:wf x=true):(∃n:Int,x=tP n∧1≤n∧n≤13)∨(∃hh args,x=tm hh args∧hh≠0∧eI hh args.length=true∧args.all wf=true∧(hh=8→args.all aS=true)):=by
 unfold wf at h
 unfold dP at h
 split at h
 ·rename_i hh args
  by_cases q:hh=0
  ·subst q
   simp only[if_true]at h
   split at h
   ·rename_i n
    simp only[Bool.and_eq_true,decide_eq_true_eq]at h
    exact .inl ⟨n,rfl,h⟩
   ·exact c7 h
  ·simp only[q,if_false,Bool.and_eq_true,Bool.or_eq_true,bne_iff_ne]at h
   exact .inr ⟨hh,args,rfl,q,h.1.1,vH (fun y _=>jJ 5 y) h.1.2,fun e=>h.2.resolve_left fun ne=>ne e⟩
 ·exact c7 h
theorem dD3{h:Int}{args:List V}(ha:eI h args.length=true)(hh:h=2∨h=3∨h=5∨h=6∨h=64∨h=65∨h=66∨h=67∨h=68∨h=73∨h=75∨h=76):args=[]:=by
 have k:∀{b:Bool},b=(args.length==0)→b=true→args=[]:=fun e q=>List.eq_nil_of_length_eq_zero (eq_of_beq (e.symm.trans q))
 rcases hh with rfl |rfl |rfl |rfl |rfl |rfl |rfl |rfl |rfl |rfl |rfl |rfl<;>exact k rfl ha
noncomputable def x5:List Int:=[-1,2,3,5,6,8,64,65,66,67,68,69,70,71,72,73,74,75,76]
set_option tactic.hygienic true in
theorem aC8{h:Int}{n:Nat}(ha:eI h n=true):x5.elem h=true:=by
 unfold eI at ha
 split at ha
 ·rename_i q
  rcases q with rfl |rfl |rfl |rfl |rfl<;>rfl
 ·split at ha
  ·rename_i q;rw[q];rfl
  ·split at ha
   ·rename_i q;rw[q];rfl
   ·obtain⟨a,m,e⟩:=List.any_eq_true.mp (Bool.and_eq_true_iff.mp ha).1
    rw[eq_of_beq e]
    exact List.all_eq_true.mp (show([(2:Int),3,5,6,64,65,66,67,68,73,75,76].all fun a=>x5.elem a)=true from rfl) a m
theorem fI(p:Int→Bool)(hp:x5.all p=true){h:Int}{n:Nat}(ha:eI h n=true):p h=true:=List.all_eq_true.mp hp h (List.elem_iff.mp (aC8 ha))
theorem dE9{h:Int}{n:Nat}(ha:eI h n=true):h= -1∨h=2∨h=3∨h=5∨h=6∨h=8∨h=64∨h=65∨h=66∨h=67∨h=68∨h=69∨h=70∨h=71∨h=72∨h=73∨h=74∨h=75∨h=76:=by
 have:=List.elem_iff.mp (aC8 ha)
 simpa only[x5,List.mem_cons,List.not_mem_nil,or_false]using this
theorem kK(p:Int→Bool)(hp:((List.range 14).all fun k=>k==0||p k)=true){n:Int}(h1:1≤n)(h2:n≤13):p n=true:=by
 have h:=List.all_eq_true.mp hp n.toNat (List.mem_range.mpr (by omega))
 rw[Int.toNat_of_nonneg (l9 h1 rfl)]at h
 exact(Bool.or_eq_true _ _▸h).resolve_left fun q=>by have:=eq_of_beq q;omega
noncomputable def nL:List (Int×Int):=[(67,3),(68,3),(69,3),(70,3),(71,4),(75,5)]
noncomputable def kI:List (V×V):=nL.map fun e=>(.int e.1,.int e.2)
noncomputable def lM (W:Wd):List (V×V):=[(.int 69,.tup [.int W.w69]),(.int 70,.tup (if W.wb=0 then [.int W.wa]else [.int W.wa,.int W.wb])),(.int 71,.tup [.int W.w71])]
theorem xA:iF kI:=by
 intro e he
 simp[kI,nL]at he
 rcases he with rfl |rfl |rfl |rfl |rfl |rfl<;>rfl
theorem bI9(W:Wd):iF (lM W):=by
 intro e he
 simp[lM]at he
 rcases he with rfl |rfl |rfl<;>rfl
theorem yD:∀(l:List (Int×Int)) (i:Int),bW (l.map fun e=>(V.int e.1,V.int e.2)) (.int i)=(eU l i).map .int
 |[],_=>rfl
 |e::l,i=>by
  simp only[List.map_cons,bW,eU,V.beq,V.isI,V.isT,V.isN,V.isS,decide_eq_true_eq]
  by_cases q:e.1=i
  ·simp[q]
  ·simp[q,yD l i]
structure bT(σ:aD)(L:Ly)(W:Wd)(ts:List V):Prop where
 tab:eO σ L ts
 ho:σ[L.ho]? =some (.inst .host L.hd)
 hd:σ[L.hd]? =some (.ns [("kt",.ref L.kt),("bases",.ref L.hb),("ifaces",.ref L.hi),("sorts",.ref L.hs),("variances",.ref L.hv),("unders",.ref L.hu),("bounds",.ref L.hbo),("gflags",.ref L.hg),("news",.ref L.hn)])
 hb:∃es,σ[L.hb]? =some (.dict es)∧iF es∧∀(k:Nat) x,ts[k]? =some x→bW es (.int k)=(if x.beq tB then some (aP ts W.bB)else if x.beq tC then some (aP ts W.bC)else none)
 hi:∃es,σ[L.hi]? =some (.dict es)∧iF es∧∀(k:Nat) x,ts[k]? =some x→(bW es (.int k)).getD (.tup [])= .tup ((dH W x).map (aP ts))
 hs:σ[L.hs]? =some (.dict kI)
 hv:σ[L.hv]? =some (.dict (lM W))
 hu:∃es,σ[L.hu]? =some (.dict es)∧iF es∧∀(k:Nat) x,ts[k]? =some x→bW es (.int k)=(if x.beq (tm 75 [])then some (.int W.u1)else if x.beq (tm 76 [])then some (.int W.u2)else none)
 steps:∀x∈ts,wf x=true→∀y∈step W x,y∈ts∧wf y=true
 args:∀x∈ts,aQ x≠0→∀y∈bY x,y∈ts∧wf y=true
 roots:tm 2 []∈ts∧tm 3 []∈ts∧tm 5 []∈ts∧tm 6 []∈ts
section
variable {σ:aD}{L:Ly}{W:Wd}{ts:List V}
theorem bT.fields(H:bT σ L W ts):cS σ L.ho=some (.host,L.hd,[("kt",.ref L.kt),("bases",.ref L.hb),("ifaces",.ref L.hi),("sorts",.ref L.hs),("variances",.ref L.hv),("unders",.ref L.hu),("bounds",.ref L.hbo),("gflags",.ref L.hg),("news",.ref L.hn)]):=by
 simp[cS,H.ho,H.hd]
theorem bT.a_kt(H:bT σ L W ts){o:EM}{ρ:Env}(ho:o ρ σ=some (.ref L.ho,σ)):aR o "kt" ρ σ=some (.ref L.kt,σ):=eR ho H.fields f0
theorem bT.a_bases(H:bT σ L W ts){o:EM}{ρ:Env}(ho:o ρ σ=some (.ref L.ho,σ)):aR o "bases" ρ σ=some (.ref L.hb,σ):=eR ho H.fields (cY rfl f0)
theorem bT.a_ifaces(H:bT σ L W ts){o:EM}{ρ:Env}(ho:o ρ σ=some (.ref L.ho,σ)):aR o "ifaces" ρ σ=some (.ref L.hi,σ):=eR ho H.fields (cY rfl (cY rfl f0))
theorem bT.a_sorts(H:bT σ L W ts){o:EM}{ρ:Env}(ho:o ρ σ=some (.ref L.ho,σ)):aR o "sorts" ρ σ=some (.ref L.hs,σ):=eR ho H.fields (cY rfl (cY rfl (cY rfl f0)))
theorem bT.a_variances(H:bT σ L W ts){o:EM}{ρ:Env}(ho:o ρ σ=some (.ref L.ho,σ)):aR o "variances" ρ σ=some (.ref L.hv,σ):=eR ho H.fields (cY rfl (cY rfl (cY rfl (cY rfl f0))))
theorem bT.a_unders(H:bT σ L W ts){o:EM}{ρ:Env}(ho:o ρ σ=some (.ref L.ho,σ)):aR o "unders" ρ σ=some (.ref L.hu,σ):=eR ho H.fields (cY rfl (cY rfl (cY rfl (cY rfl (cY rfl f0)))))
theorem bT.m(H:bT σ L W ts){o:EM}{es:List EM}{vs:List V}{x:String}{f:FM}{ρ:Env}{r:Option (V×aD)}(hx:x="sort"∨x="base"∨x="ifaces_at"∨x="under"∨x="variance")(ho:o ρ σ=some (.ref L.ho,σ))(l:dO es ρ σ=some (vs,σ))(g:f (.ref L.ho::vs) σ=r):dU .host x f o es ρ σ=r:=
 wY ho H.fields (by rcases hx with rfl |rfl |rfl |rfl |rfl<;>exact rfl) l g
theorem tH(ts:List V)(x:V):(V.tup (dF ts x)).kind=2:=by
 have:V.isKeyTup (.tup (dF ts x))=true:=by
  unfold dF
  split
  ·exact rfl
  ·split
   ·exact rfl
   ·simp[V.isKeyTup,V.treeIn]
 exact if_pos (by assumption)
theorem vO(H:eO σ L ts){x:V}(hx:x∈ts){n:Nat}(hn:3≤n):aL n .KT_put [.ref L.kt,.tup (dF ts x)] σ=some (aP ts x,σ):=by
 obtain⟨es,h1,h2,h3⟩:=H.ki
 exact f8 hn rfl fun m hm=>fR rfl (cQ (qQ (eR rfl H.fields (cY rfl f0)) (by simp only[iE,h1]) rfl rfl (by simp only[mN,h1,eX h2 (tH ts x),if_true,h3 x hx,Option.getD_some])) (cU (cV rfl rfl rfl) (decide_eq_true (Int.natCast_nonneg _)) (bA rfl)))
noncomputable def cI1 (h:Int):Prop:=h=2∨h=3∨h=5∨h=6
theorem aI7(H:bT σ L W ts){h:Int}(hh:cI1 h){n:Nat}(hn:4≤n):aL n .class_kind [.ref L.kt,.int h,.tup []] σ=some (aP ts (tm h []),σ):=by
 have hx:tm h []∈ts:=by obtain⟨r1,r2,r3,r4⟩:=H.roots;rcases hh with rfl |rfl |rfl |rfl<;>assumption
 have e:V.tup [.int 2,.int h,.tup []]= .tup (dF ts (tm h [])):=by
  rcases hh with rfl |rfl |rfl |rfl<;>rfl
 have g:gK .isIn (.int h) mM σ=some false:=by
  rcases hh with rfl |rfl |rfl |rfl<;>rfl
 exact f8 hn rfl fun m hm=>fR rfl (bN (cV rfl rfl g) rfl (bA (wY rfl H.tab.fields rfl rfl (e▸vO H.tab hx (bH hm rfl)))))
noncomputable def gE (x:V):Int:=match eU nL (eN x)with
 |some s=>s
 |none=>if iX x then(if x.beq (tm 75 [])||x.beq (tm 76 [])then 5 else 2)else if eN x=0 then 0 else 1
theorem tF(H:bT σ L W ts){k:Nat}{x:V}(hk:ts[k]? =some x){n:Nat}(hn:5≤n):aL n .plain_sort [.ref L.ho,.int k] σ=some (.int (gE x),σ):=by
 obtain⟨es,h1,h2,h3⟩:=H.hu
 have h3:=h3 k x hk
 have hd:bW kI (.int (eN x))=(eU nL (eN x)).map .int:=yD _ _
 refine f8 hn rfl fun m hm=>fR rfl (bN (bV (aO (aU (H.a_kt rfl) rfl) (jN H.tab hk (bH hm rfl))) rfl) rfl (cQ (aO (aU (H.a_kt rfl) rfl) (o7 H.tab hk (bH hm rfl))) (pT (aZ8 rfl (H.a_sorts rfl) H.hs (fU xA _)) (fun q=> ?_) fun q=> ?_)))
 ·rw[hd]at q
  refine bA (bE (H.a_sorts rfl) rfl (kC H.hs (fU xA _) ?_))
  rw[hd,gE]
  induction g:eU nL (eN x)using Option.casesOn with
  |some s=>rfl
  |none=>rw[g]at q;exact c7 q
 rw[hd]at q
 have e:gE x=if iX x then(if x.beq (tm 75 [])||x.beq (tm 76 [])then 5 else 2)else if eN x=0 then 0 else 1:=by
  rw[gE]
  induction g:eU nL (eN x)using Option.casesOn with
  |some s=>rw[g]at q;exact kP q
  |none=>rfl
 rw[e]
 clear e q hd
 refine pT (bV (aO (aU (H.a_kt rfl) rfl) (kR H.tab hk (bH hm rfl))) rfl) (fun q=> ?_) fun q=> ?_
 ·rw[if_pos q]
  have:=vIf (a:=aX lU) (b:=aX xV) (aZ8 (a:=aA 1) (b:=aR (aA 0) "unders") (ρ:=aZ (fun i=>[V.ref L.ho,.int k][i]?) 2 (.int (eN x))) (σ:=σ) rfl (H.a_unders rfl) h1 (fU h2 _)) rfl rfl
  refine bA (this.trans ?_)
  rw[h3]
  by_cases a:x.beq (tm 75 [])=true
  ·rw[if_pos a,a];rfl
  ·rw[if_neg a,Bool.eq_false_iff.mpr a]
   by_cases b:x.beq (tm 76 [])=true
   ·rw[if_pos b,b];rfl
   ·rw[if_neg b,Bool.eq_false_iff.mpr b];rfl
 ·rw[if_neg (fun e=>by rw[e]at q;exact kP q)]
  by_cases a:eN x=0
  ·rw[if_pos a];exact bA (mE (bV rfl (congrArg some (decide_eq_false (fun h=>h a)))) rfl)
  ·rw[if_neg a];exact bA (oE (bV rfl (congrArg some (decide_eq_true a))) rfl)
end
end
section
section
variable {σ:aD}{L:Ly}{W:Wd}{ts:List V}
theorem bM0(H:bT σ L W ts){k:Nat}{x:V}(hk:ts[k]? =some x){n:Nat}(hn:6≤n):aL n .KH_sort [.ref L.ho,.int k] σ=some (.int (gE x),σ):=
 f8 hn rfl fun m hm=>fR rfl (bA (aO rfl (tF H hk (bH hm rfl))))
noncomputable def ifT (x:V):Bool:=decide (bM x=2)&&decide (gE x=3)
theorem xD(H:bT σ L W ts){k:Nat}{x:V}(hk:ts[k]? =some x){n:Nat}(hn:7≤n):aL n .is_iface [.ref L.ho,.int k] σ=some (.bool (ifT x),σ):=
 f8 hn rfl fun m hm=>fR rfl (bA (bA0 (eH (bQ (aO (aU (H.a_kt rfl) rfl) (d9 H.tab hk (bH hm rfl))) rfl)) (eH (bQ (H.m (.inl rfl) rfl rfl (bM0 H hk (bH hm rfl))) rfl))))
noncomputable def sZ (h:Int):Bool:=h==8||(73≤h&&h≤76)
noncomputable def dY (h:Int):Int:=if h= -1 then 4 else if sZ h then 3 else 2
noncomputable def jA (h:Int):Int:=if h= -1 then 5 else h
noncomputable def gN (h:Int):Int:=match eU nL (jA h)with
 |some s=>s
 |none=>if dY h=3 then(if h=76 then 5 else 2)else 1
theorem rJ{h:Int}{l:List V}(h0:h≠0):aS (tm h l)=sZ h:=by
 have:(h==0)=false:=beq_eq_false_iff_ne.mpr h0
 simp only[aS,aQ,this,Bool.false_and,Bool.or_false,sZ]
 rfl
theorem aQ4{h:Int}{n:Nat}(ha:eI h n=true):h≠ -2:=of_decide_eq_true (fI (fun h=>decide (h≠ -2)) rfl ha)
theorem mX{h:Int}{l:List V}(h0:h≠0)(ha:eI h l.length=true):bM (tm h l)=dY h:=by
 simp only[bM,rJ h0,aQ,h0,aQ4 ha,if_false,dY]
theorem aH5{h:Int}{l:List V}(h0:h≠0)(ha:eI h l.length=true):eN (tm h l)=jA h:=by
 simp only[eN,aQ,h0,aQ4 ha,if_false,jA]
theorem aG8{h:Int}{l:List V}(h0:h≠0)(ha:eI h l.length=true):iX (tm h l)=decide (dY h=3):=by
 simp only[iX,mX h0 ha,aQ,h0,if_false]
theorem lX{h c:Int}{l:List V}(ha:eI h l.length=true)(hc:c=2∨c=3∨c=5∨c=6∨c=64∨c=65∨c=66∨c=67∨c=68∨c=73∨c=75∨c=76):V.beq (tm h l) (tm c [])=decide (h=c):=by
 by_cases e:h=c
 ·subst e
  rw[dD3 ha hc,V.beq_self,decide_eq_true rfl]
 ·rw[decide_eq_false e,V.beq_ne]
  intro q
  cases q
  exact e rfl
theorem aK1{h:Int}{l:List V}(h0:h≠0)(ha:eI h l.length=true):gE (tm h l)=gN h:=by
 have e75:=lX (c:=75) ha (by decide)
 have e76:=lX (c:=76) ha (by decide)
 have:=of_decide_eq_true (fI (fun h=>decide ((match eU nL (jA h)with |some s=>s |none=>if decide (dY h=3)=true then(if(decide (h=75)||decide (h=76))=true then 5 else 2)else if jA h=0 then 0 else 1)=gN h)) rfl ha)
 rw[gE,aH5 h0 ha,aG8 h0 ha,e75,e76]
 exact this
theorem bO7{x:V}(h:wf x=true):ifT x=decide (67≤aQ x∧aQ x≤70):=by
 rcases cR h with⟨n,rfl,h1,h2⟩ |⟨hh,args,rfl,h0,ha,_,_⟩
 ·exact rfl
 ·rw[ifT,mX h0 ha,aK1 h0 ha]
  exact of_decide_eq_true (fI (fun h=>decide ((decide (dY h=2)&&decide (gN h=3))=decide (67≤h∧h≤70))) rfl ha)
noncomputable def bv (W:Wd) (ts:List V) (x:V):V:=match base W x with |some y=>aP ts y |none=> .int (-1)
theorem eO.ix12(H:eO σ L ts):eF ts eQ=12:=pB H.nd (H.prim 12 (eC rfl))
noncomputable def iB (k ks ps ti:Int) (iv:Bool):Int:=if k=12 then -1 else if k=13 then 0 else if ks=4 then 5 else if iv=true then(if ps=5 then 3 else 2)else if ks≠2∨ps=3 then -1 else if ti=3 then 2 else if ps=4∧ti≠6 then 6 else 0
noncomputable def xI (c:Int):Option V:=if c= -1 then none else if c=0 then some eQ else some (tm c [])
theorem qK{W:Wd}{h:Int}{l:List V}(h0:h≠0)(ha:eI h l.length=true):base W (tm h l)=if h=65 then some W.bB else if h=66 then some W.bC else xI (iB 16 (dY h) (gN h) (jA h) (decide (dY h=3))):=by
 have e3:=lX (c:=3) ha (by decide)
 have e65:=lX (c:=65) ha (by decide)
 have e66:=lX (c:=66) ha (by decide)
 have key:=of_decide_eq_true (fI (fun h=>decide ((h=3→iB 16 (dY h) (gN h) (jA h) (decide (dY h=3))=2)∧((67≤h∧h≤70)→iB 16 (dY h) (gN h) (jA h) (decide (dY h=3))= -1)∧(h= -1→iB 16 (dY h) (gN h) (jA h) (decide (dY h=3))=5)∧((h=8∨h=73∨h=74)→iB 16 (dY h) (gN h) (jA h) (decide (dY h=3))=2)∧(h=71→iB 16 (dY h) (gN h) (jA h) (decide (dY h=3))=6)∧((h=75∨h=76)→iB 16 (dY h) (gN h) (jA h) (decide (dY h=3))=3)∧(¬(h=3∨(67≤h∧h≤70)∨h= -1∨(h=8∨h=73∨h=74)∨h=71∨(h=75∨h=76))→iB 16 (dY h) (gN h) (jA h) (decide (dY h=3))=0))) rfl ha)
 obtain⟨k1,k2,k3,k4,k5,k6,k7⟩:=key
 simp only[base,e3,show tB=tm 65 []from rfl,show tC=tm 66 []from rfl,e65,e66,decide_eq_true_eq]
 by_cases q3:h=3
 ·subst q3;rw[if_pos rfl,k1 rfl];rfl
 rw[if_neg q3]
 by_cases q65:h=65
 ·rw[if_pos q65,if_pos q65]
 rw[if_neg q65,if_neg q65]
 by_cases q66:h=66
 ·rw[if_pos q66,if_pos q66]
 rw[if_neg q66,if_neg q66]
 unfold i7
 rw[show aQ (tm h l)=h from rfl,if_neg h0]
 by_cases q1:67≤h∧h≤70
 ·rw[if_pos q1,k2 q1];rfl
 rw[if_neg q1]
 by_cases q2:h= -1
 ·rw[if_pos q2,k3 q2];rfl
 rw[if_neg q2]
 by_cases q4:h=8∨h=73∨h=74
 ·rw[if_pos q4,k4 q4];rfl
 rw[if_neg q4]
 by_cases q5:h=71
 ·rw[if_pos q5,k5 q5];rfl
 rw[if_neg q5]
 by_cases q6:h=75∨h=76
 ·rw[if_pos q6,k6 q6];rfl
 rw[if_neg q6,k7 fun q=>q.elim q3 fun q=>q.elim q1 fun q=>q.elim q2 fun q=>q.elim q4 fun q=>q.elim q5 q6]
 rfl
theorem qJ{W:Wd}{n:Int}(h1:1≤n)(h2:n≤13):base W (tP n)=xI (iB n 1 (gE (tP n)) (eN (tP n)) (iX (tP n))):=by
 have key:=of_decide_eq_true (kK (fun n=>decide (iB n 1 (gE (tP n)) (eN (tP n)) (iX (tP n))=if n<12 then 2 else if n=12 then -1 else 0)) rfl h1 h2)
 have e:∀c:Int,c≠0→V.beq (tP n) (tm c [])=false:=fun c hc=>V.beq_ne fun q=>by cases q
 rw[key]
 have hb:base W (tP n)=i7 (tP n):=(if_neg (Bool.eq_false_iff.mp (e 3 (by decide)))).trans ((if_neg (Bool.eq_false_iff.mp (e 65 (by decide)))).trans (if_neg (Bool.eq_false_iff.mp (e 66 (by decide)))))
 rw[hb]
 show(if n<12 then some (tm 2 [])else if n=12 then none else some eQ)=_
 by_cases q:n<12
 ·rw[if_pos q,if_pos q];rfl
 rw[if_neg q,if_neg q]
 by_cases q:n=12
 ·rw[if_pos q,if_pos q];rfl
 rw[if_neg q,if_neg q];rfl
theorem yF{W:Wd}{x y:V}(h:wf x=true)(hb:base W x=some y):y=eQ∨y=tm 2 []∨y=tm 3 []∨y=tm 5 []∨y=tm 6 []∨y=W.bB∨y=W.bC:=by
 have o:∀{c:Int},(c= -1∨c=0∨c=2∨c=3∨c=5∨c=6)→xI c=some y→y=eQ∨y=tm 2 []∨y=tm 3 []∨y=tm 5 []∨y=tm 6 []∨y=W.bB∨y=W.bC:=fun hc e=>by
  rcases hc with rfl |rfl |rfl |rfl |rfl |rfl
  ·exact aN e
  ·(refine cT e fun p=> ?_;clear e;subst p);exact .inl rfl
  ·(refine cT e fun p=> ?_;clear e;subst p);exact .inr (.inl rfl)
  ·(refine cT e fun p=> ?_;clear e;subst p);exact .inr (.inr (.inl rfl))
  ·(refine cT e fun p=> ?_;clear e;subst p);exact .inr (.inr (.inr (.inl rfl)))
  ·(refine cT e fun p=> ?_;clear e;subst p);exact .inr (.inr (.inr (.inr (.inl rfl))))
 have f:∀(k ks ps ti:Int) (iv:Bool),iB k ks ps ti iv= -1∨iB k ks ps ti iv=0∨iB k ks ps ti iv=2∨iB k ks ps ti iv=3∨iB k ks ps ti iv=5∨iB k ks ps ti iv=6:=by
  intro k ks ps ti iv
  unfold iB
  by_cases q:k=12
  ·rw[if_pos q];exact .inl rfl
  rw[if_neg q]
  by_cases q:k=13
  ·rw[if_pos q];exact .inr (.inl rfl)
  rw[if_neg q]
  by_cases q:ks=4
  ·rw[if_pos q];exact .inr (.inr (.inr (.inr (.inl rfl))))
  rw[if_neg q]
  by_cases q:iv=true
  ·rw[if_pos q]
   by_cases q:ps=5
   ·rw[if_pos q];exact .inr (.inr (.inr (.inl rfl)))
   ·rw[if_neg q];exact .inr (.inr (.inl rfl))
  rw[if_neg q]
  by_cases q:ks≠2∨ps=3
  ·rw[if_pos q];exact .inl rfl
  rw[if_neg q]
  by_cases q:ti=3
  ·rw[if_pos q];exact .inr (.inr (.inl rfl))
  rw[if_neg q]
  by_cases q:ps=4∧ti≠6
  ·rw[if_pos q];exact .inr (.inr (.inr (.inr (.inr rfl))))
  rw[if_neg q];exact .inr (.inl rfl)
 rcases cR h with⟨i,rfl,g1,g2⟩ |⟨hh,args,rfl,h0,ha,_,_⟩
 ·rw[qJ g1 g2]at hb;exact o (f ..) hb
 ·rw[qK h0 ha]at hb
  by_cases q:hh=65
  ·rw[if_pos q]at hb;(refine cT hb fun p=> ?_;clear hb;subst p);exact .inr (.inr (.inr (.inr (.inr (.inl rfl)))))
  rw[if_neg q]at hb
  by_cases q:hh=66
  ·rw[if_pos q]at hb;(refine cT hb fun p=> ?_;clear hb;subst p);exact .inr (.inr (.inr (.inr (.inr (.inr rfl)))))
  rw[if_neg q]at hb
  exact o (f ..) hb
noncomputable def arN (h:Int):Nat:=if h= -1∨h=69∨h=71∨h=72∨h=74 then 1 else if h=70 then 2 else 0
theorem mB{h:Int}{n:Nat}(ha:eI h n=true)(h8:h≠8):n=arN h:=by
 unfold eI at ha
 unfold arN
 by_cases q:h= -1∨h=69∨h=71∨h=72∨h=74
 ·rw[if_pos q]at ha⊢;exact eq_of_beq ha
 rw[if_neg q]at ha⊢
 by_cases q:h=70
 ·rw[if_pos q]at ha⊢;exact eq_of_beq ha
 rw[if_neg q]at ha⊢
 rw[if_neg h8,Bool.and_eq_true]at ha
 exact eq_of_beq ha.2
noncomputable def pbV (ts:List V) (c:Int):V:=if c= -1 then .int (-1)else if c=0 then .int 12 else aP ts (tm c [])
theorem aI3(H:bT σ L W ts){k:Nat}{x:V}(hk:ts[k]? =some x)(hw:wf x=true){n:Nat}(hn:7≤n):aL n .plain_base [.ref L.ho,.int k] σ=some (bv W ts x,σ):=by
 refine f8 hn rfl fun m hm=>fR rfl ?_
 obtain⟨es,h1,h2,h3⟩:=H.hb
 have h3:=h3 k x hk
 refine pT (aZ8 rfl (H.a_bases rfl) h1 (fU h2 _)) (fun q=> ?_) fun q=> ?_
 ·refine bA (bE (H.a_bases rfl) rfl (kC h1 (fU h2 _) ?_))
  rw[h3]at q⊢
  by_cases b:x.beq tB=true
  ·rw[(V.beq_iff _ _).mp b];rfl
  ·rw[if_neg b]at q⊢
   by_cases c:x.beq tC=true
   ·rw[(V.beq_iff _ _).mp c];rfl
   ·rw[if_neg c]at q;exact c7 q
 have hbv:bv W ts x=pbV ts (iB k (bM x) (gE x) (eN x) (iX x)):=by
  have o:∀c,base W x=xI c→bv W ts x=pbV ts c:=fun c e=>by
   rw[bv,e,xI,pbV]
   by_cases q1:c= -1
   ·rw[if_pos q1,if_pos q1]
   rw[if_neg q1,if_neg q1]
   by_cases q2:c=0
   ·rw[if_pos q2,if_pos q2];exact congrArg (fun n:Nat=>V.int n) H.tab.ix12
   rw[if_neg q2,if_neg q2]
  refine o _ ?_
  obtain⟨p1,p2⟩:=H.tab.prim_k hk
  rw[h3]at q
  rcases cR hw with⟨i,rfl,g1,g2⟩ |⟨hh,args,rfl,h0,ha,_,_⟩
  ·rw[(p1 rfl).1];exact qJ g1 g2
  ·have p2:=p2 h0
   have e65:=lX (c:=65) ha (by decide)
   have e66:=lX (c:=66) ha (by decide)
   have n65:hh≠65:=fun e=>by rw[show tB=tm 65 []from rfl,e65,decide_eq_true e]at q;exact kP q
   have n66:hh≠66:=fun e=>by
    rw[show tB=tm 65 []from rfl,e65,decide_eq_false n65,show tC=tm 66 []from rfl,e66,decide_eq_true e]at q;exact kP q
   rw[qK h0 ha,if_neg n65,if_neg n66,mX h0 ha,aK1 h0 ha,aH5 h0 ha,aG8 h0 ha]
   have a:¬((k:Int)=12):=fun e=>nNq p2 rfl (Int.ofNat.inj (show(k:Int)=((12:Nat):Int)from e))
   have b:¬((k:Int)=13):=fun e=>nNq p2 rfl (Int.ofNat.inj (show(k:Int)=((13:Nat):Int)from e))
   simp only[iB,a,b,if_false,show ¬((16:Int)=12)from by decide,show ¬((16:Int)=13)from by decide]
 rw[hbv]
 clear hbv q
 have root:∀{h:Int},cI1 h→aL m .class_kind [.ref L.kt,.int h,.tup []] σ=some (aP ts (tm h []),σ):=fun hh=>aI7 H hh (bH hm rfl)
 have hps:=tF H hk (n:=m) (bH hm rfl)
 have hti:=o7 H.tab hk (n:=m) (bH hm rfl)
 unfold iB
 refine cQ (H.a_kt rfl) (cQ (aO rfl (d9 H.tab hk (bH hm rfl))) (rD (bQ rfl rfl) (fun q=> ?_) fun q=> ?_))
 ·rw[if_pos q];exact bA rfl
 rw[if_neg q]
 refine rD (bQ rfl rfl) (fun q=> ?_) fun q=> ?_
 ·rw[if_pos q];exact bA rfl
 rw[if_neg q]
 refine rD (bQ rfl rfl) (fun q=> ?_) fun q=> ?_
 ·rw[if_pos q];exact bA (aO rfl (root (.inr (.inr (.inl rfl)))))
 rw[if_neg q]
 refine pT (bV (aO rfl (kR H.tab hk (bH hm rfl))) rfl) (fun q=> ?_) fun q=> ?_
 ·rw[if_pos q]
  by_cases p:gE x=5
  ·rw[if_pos p];exact bA (aO (aU rfl (aU (oE (decide_eq_true p▸bQ (aO rfl hps) rfl) rfl) rfl)) (root (.inr (.inl rfl))))
  ·rw[if_neg p];exact bA (aO (aU rfl (aU (mE (decide_eq_false p▸bQ (aO rfl hps) rfl) rfl) rfl)) (root (.inl rfl)))
 rw[if_neg (fun e=>by rw[e]at q;exact kP q)]
 refine pT (dW (nI rfl rfl) (bQ (aO rfl hps) rfl)) (fun q=> ?_) fun q=> ?_
 ·rw[if_pos (by simpa using q)];exact bA rfl
 rw[if_neg (by simpa using q)]
 refine rD (bQ (aO rfl hti) rfl) (fun q=> ?_) fun q=> ?_
 ·rw[if_pos q];exact bA (aO rfl (root (.inl rfl)))
 rw[if_neg q]
 refine pT (gT (bQ (aO rfl hps) rfl) (nI (aO rfl hti) rfl)) (fun q=> ?_) fun q=> ?_
 ·rw[if_pos (by simpa using q)];exact bA (aO rfl (root (.inr (.inr (.inr rfl)))))
 rw[if_neg (by simpa using q)]
 exact bA rfl
theorem rE{x:V}(h:wf x=true):bM x≠8:=by
 rcases cR h with⟨n,rfl,h1,h2⟩ |⟨hh,args,rfl,h0,ha,_,_⟩
 ·exact nofun
 ·rw[mX h0 ha]
  exact of_decide_eq_true (fI (fun h=>decide (dY h≠8)) rfl ha)
theorem bL9(H:bT σ L W ts){k:Nat}{x:V}(hk:ts[k]? =some x)(hw:wf x=true){n:Nat}(hn:8≤n):aL n .KH_base [.ref L.ho,.int k] σ=some (bv W ts x,σ):=
 f8 hn rfl fun m hm=>fR rfl (bN (dW (bV (aO (aU (H.a_kt rfl) rfl) (jN H.tab hk (bH hm rfl))) rfl) (bQ (aO (aU (H.a_kt rfl) rfl) (d9 H.tab hk (bH hm rfl))) rfl)) (decide_eq_false (rE hw)) (bA (aO rfl (aI3 H hk hw (bH hm rfl)))))
theorem bB8(H:bT σ L W ts){k:Nat}{e:V}(hk:ts[k]? =some (tm (-2) [e]))(hw:wf e=true)(he:e∈ts){n:Nat}(hn:10≤n):aL n .KH_base [.ref L.ho,.int k] σ=some (bv W ts e,σ):=by
 refine f8 hn rfl fun m hm=>fR rfl (cU (dW (bV (aO (aU (H.a_kt rfl) rfl) (jN H.tab hk (bH hm rfl))) rfl) (bQ (aO (aU (H.a_kt rfl) rfl) (d9 H.tab hk (bH hm rfl))) rfl)) rfl (bA (aO rfl ?_)))
 have hm:9≤m:=bH hm rfl
 exact f8 hm rfl fun m hm=>fR rfl (cQ (H.a_kt rfl) (cU (bQ (aO rfl (d9 H.tab hk (bH hm rfl))) rfl) rfl (bA (H.m (.inr (.inl rfl)) rfl (aU (aO rfl (nP H.tab hk (.inr rfl) (bH hm rfl))) rfl) (bL9 H (bG he) hw (bH hm rfl))))))
noncomputable def fv (W:Wd) (ts:List V) (x:V):V:= .tup ((dH W x).map (aP ts))
theorem wA(H:bT σ L W ts){k:Nat}{x:V}(hk:ts[k]? =some x)(hw:wf x=true){n:Nat}(hn:5≤n):aL n .KH_ifaces_at [.ref L.ho,.int k] σ=some (fv W ts x,σ):=by
 obtain⟨es,h1,h2,h3⟩:=H.hi
 exact f8 hn rfl fun m hm=>fR rfl (bN (dW (bV (aO (aU (H.a_kt rfl) rfl) (jN H.tab hk (bH hm rfl))) rfl) (bQ (aO (aU (H.a_kt rfl) rfl) (d9 H.tab hk (bH hm rfl))) rfl)) (decide_eq_false (rE hw))
  (bA (qQ (H.a_ifaces rfl) (by simp only[iE,h1]) rfl rfl (by simp only[mN,h1,fU h2,if_true,h3 k x hk,fv]))))
theorem aI5(H:bT σ L W ts){k:Nat}{e:V}(hk:ts[k]? =some (tm (-2) [e]))(hw:wf e=true)(he:e∈ts){n:Nat}(hn:7≤n):aL n .KH_ifaces_at [.ref L.ho,.int k] σ=some (fv W ts e,σ):=by
 refine f8 hn rfl fun m hm=>fR rfl (cU (dW (bV (aO (aU (H.a_kt rfl) rfl) (jN H.tab hk (bH hm rfl))) rfl) (bQ (aO (aU (H.a_kt rfl) rfl) (d9 H.tab hk (bH hm rfl))) rfl)) rfl (bA (aO rfl ?_)))
 have hm:6≤m:=bH hm rfl
 exact f8 hm rfl fun m hm=>fR rfl (cQ (H.a_kt rfl) (cU (bQ (aO rfl (d9 H.tab hk (bH hm rfl))) rfl) rfl (bA (H.m (.inr (.inr (.inl rfl))) rfl (aU (aO rfl (nP H.tab hk (.inr rfl) (bH hm rfl))) rfl) (wA H (bG he) hw (bH hm rfl))))))
end
end
section
noncomputable def cM (σ σ':aD):Prop:=∀(i:Nat) (o:bF),σ[i]? =some o→σ'[i]? =some o
theorem cM.refl{σ:aD}:cM σ σ:=fun _ _ h=>h
theorem cM.trans{a b c:aD}(h:cM a b)(k:cM b c):cM a c:=fun i o e=>k i o (h i o e)
theorem cM.app{σ e:aD}:cM σ (σ++e):=fun i o h=>by
 rw[List.getElem?_append_left (List.getElem?_eq_some_iff.mp h).1];exact h
theorem eO.ext{σ σ':aD}{L:Ly}{ts:List V}(H:eO σ L ts)(e:cM σ σ'):eO σ' L ts:=
 ⟨e _ _ H.kt,e _ _ H.kd,e _ _ H.kr,H.ki.imp fun es q=>⟨e _ _ q.1,q.2⟩,H.nd,H.prim,H.high,H.len⟩
theorem bT.ext{σ σ':aD}{L:Ly}{W:Wd}{ts:List V}(H:bT σ L W ts)(e:cM σ σ'):bT σ' L W ts:=
 ⟨H.tab.ext e,e _ _ H.ho,e _ _ H.hd,H.hb.imp fun es q=>⟨e _ _ q.1,q.2⟩,H.hi.imp fun es q=>⟨e _ _ q.1,q.2⟩,e _ _ H.hs,e _ _ H.hv,H.hu.imp fun es q=>⟨e _ _ q.1,q.2⟩,H.steps,H.args,H.roots⟩
theorem bJ{a b:SM}{ρ ρ₁:Env}{σ σ₁:aD}(h:a ρ σ=some (.next,ρ₁,σ₁)):aC a b ρ σ=b ρ₁ σ₁:=by simp[aC,h]
theorem aJ0{a b:SM}{ρ ρ₁:Env}{σ σ₁:aD}{v:V}(h:a ρ σ=some (.ret v,ρ₁,σ₁)):aC a b ρ σ=some (.ret v,ρ₁,σ₁):=by simp[aC,h]
theorem hJ{t:TM}{b:SM}{n:Nat}{ρ ρ₁:Env}{σ σ₁ σ₂:aD}(h:t ρ σ=some (true,σ₁))(hb:b ρ σ₁=some (.next,ρ₁,σ₂)):fD t b (n+1) ρ σ=fD t b n ρ₁ σ₂:=by simp[fD,h,hb]
theorem aZ6{t:TM}{b:SM}{n:Nat}{ρ ρ₁:Env}{σ σ₁ σ₂:aD}(h:t ρ σ=some (true,σ₁))(hb:b ρ σ₁=some (.cont,ρ₁,σ₂)):fD t b (n+1) ρ σ=fD t b n ρ₁ σ₂:=by simp[fD,h,hb]
theorem z0{t:TM}{b:SM}{n:Nat}{ρ ρ₁:Env}{σ σ₁ σ₂:aD}{v:V}(h:t ρ σ=some (true,σ₁))(hb:b ρ σ₁=some (.ret v,ρ₁,σ₂)):fD t b (n+1) ρ σ=some (.ret v,ρ₁,σ₂):=by simp[fD,h,hb]
theorem iW{t:TM}{b:SM}{n:Nat}{ρ:Env}{σ σ₁:aD}(h:t ρ σ=some (false,σ₁)):fD t b (n+1) ρ σ=some (.next,ρ,σ₁):=by simp[fD,h]
noncomputable def dS (ts:List V) (O:List V):List (V×V):=O.map fun x=>(aP ts x,.int 1)
theorem tX(ts O:List V):iF (dS ts O):=by
 intro e he
 obtain⟨x,_,rfl⟩:=List.mem_map.mp he
 rfl
theorem gF{ts:List V}{x y:V}(hx:x∈ts)(hy:y∈ts)(h:eF ts x=eF ts y):x=y:=by
 have:=bG hx
 rw[h,bG hy]at this
 (refine cT this fun p=> ?_;clear this;subst p);rfl
theorem l8{ts:List V}{x y:V}(hx:x∈ts)(hy:y∈ts):V.beq (aP ts x) (aP ts y)=V.beq x y:=by
 by_cases q:x=y
 ·subst q;rw[V.beq_self,V.beq_self]
 ·rw[V.beq_ne q]
  refine V.beq_ne fun e=>q (gF hx hy ?_)
  injection e with e
  exact nIi e
theorem sD{ts:List V}{x:V}(hx:x∈ts):∀{O:List V},(∀y∈O,y∈ts)→bW (dS ts O) (aP ts x)=if O.any (V.beq · x)then some (.int 1)else none
 |[],_=>rfl
 |y::O,h=>by
  have ih:=sD hx fun z hz=>h z (.tail _ hz)
  unfold dS at ih⊢
  rw[List.map_cons,bW,ih,l8 (h y (.head _)) hx,List.any_cons]
  cases V.beq y x<;>exact rfl
theorem oZ{O:List V}{x:V}:O.any (V.beq · x)=true↔x∈O:=by
 rw[List.any_eq_true]
 exact⟨fun⟨y,hy,e⟩=>(V.beq_iff y x).mp e▸hy,fun h=>⟨x,h,V.beq_self x⟩⟩
theorem lL{O:List V}{x:V}(h:x∉O):O.any (V.beq · x)=false:=by
 induction q:O.any (V.beq · x)using Bool.casesOn with
 |false=>rfl
 |true=>exact absurd (oZ.mp q) h
theorem tW{ts:List V}{x:V}(hx:x∈ts):∀{O:List V},(∀y∈O,y∈ts)→x∉O→dG (dS ts O) (aP ts x) (.int 1)=dS ts (O++[x])
 |[],_,_=>rfl
 |y::O,h,hn=>by
  have ih:=tW hx (fun z hz=>h z (.tail _ hz)) fun q=>hn (.tail _ q)
  unfold dS at ih⊢
  rw[List.map_cons,dG,l8 (h y (.head _)) hx,V.beq_ne (x:=y) fun e=>hn (by rw[←e];exact .head _),ih]
  rfl
noncomputable def lZ (x:V):Prop:=wf x=true∨∃e,x=tm (-2) [e]∧wf e=true
noncomputable def bS (x:V):V:=if aQ x= -2 then uO x else x
theorem eZ{e:V}:bS (tm (-2) [e])=e:=rfl
theorem dJ{x:V}(h:wf x=true):bS x=x:=by
 unfold bS
 rw[if_neg]
 rcases cR h with⟨n,rfl,_⟩ |⟨hh,args,rfl,h0,ha,_⟩
 ·exact nofun
 ·intro e
  simp only[aQ]at e
  subst e
  exact c7 ha
inductive oK (W:Wd):V→List V→Prop
 |last {x:V} (h:base W (bS x)=none):oK W x [x]
 |cons {x y:V} {l:List V} (h:base W (bS x)=some y) (hy:oK W y l):oK W x (x::l)
section
variable {σ:aD}{L:Ly}{W:Wd}{ts:List V}
theorem cQ0(H:bT σ L W ts){k:Nat}{x:V}(hk:ts[k]? =some x)(hw:lZ x)(hu:bS x∈ts){n:Nat}(hn:10≤n):aL n .KH_base [.ref L.ho,.int k] σ=some (bv W ts (bS x),σ):=by
 rcases hw with hw |⟨e,rfl,hw⟩
 ·rw[dJ hw];exact bL9 H hk hw (nGe hn rfl)
 ·rw[eZ]at hu⊢;exact bB8 H hk hw hu hn
theorem bL7(H:bT σ L W ts){k:Nat}{x:V}(hk:ts[k]? =some x)(hw:lZ x)(hu:bS x∈ts){n:Nat}(hn:7≤n):aL n .KH_ifaces_at [.ref L.ho,.int k] σ=some (fv W ts (bS x),σ):=by
 rcases hw with hw |⟨e,rfl,hw⟩
 ·rw[dJ hw];exact wA H hk hw (nGe hn rfl)
 ·rw[eZ]at hu⊢;exact aI5 H hk hw hu hn
theorem dP4{a b:bF}:(σ++[a,b])[σ.length]? =some a:=mR rfl
theorem dP3{a b:bF}:(σ++[a,b])[σ.length+1]? =some b:=jU rfl
theorem dO2{a b c:bF}:(σ++[a,b]).set σ.length c=σ++[c,b]:=aQ5
theorem dO1{a b c:bF}:(σ++[a,b]).set (σ.length+1) c=σ++[a,c]:=aF8
theorem bD8{k:Nat}:¬((k:Int)= -1):=by omega
theorem bE9(H:bT σ L W ts){m:Nat}(hm:10≤m):∀{x:V} {l:List V},oK W x l→∀(O:List V) (fu:Nat) (ρ:Env),l.length≤fu→(∀y∈O,y∈ts)→(∀y∈l,y∈ts∧lZ y∧bS y∈ts)→(O++l).Nodup→(O++l).length≤1000→
  ρ 0=some (.ref L.ho)→ρ 1=some (aP ts x)→ρ 2=some (.ref σ.length)→ρ 3=some (.ref (σ.length+1))→
  ∃ρ',ρ' 2=some (.ref σ.length)∧fD (eJ (aK .ne (aA 1) (aB (-1))) (aK .notIn (aA 1) (aA 3))) (aC (bP (aA 3) (aA 1) (aB 1)) (aC (cG (b7 (aA 2) (aA 1))) (aC (aV 1 (dU .host "base" (aL m .KH_base) (aA 0) [(aA 1)])) aF))) (fu+1) ρ
   (σ++[.list (O.map (aP ts)),.dict (dS ts O)])=some (.next,ρ',σ++[.list ((O++l).map (aP ts)),.dict (dS ts (O++l))]):=by
 intro x l C
 have one:∀(x:V) (l:List V) (O:List V) (ρ:Env),(∀y∈O,y∈ts)→x∈ts→lZ x→bS x∈ts→(O++x::l).Nodup→(O++x::l).length≤1000→ρ 0=some (.ref L.ho)→ρ 1=some (aP ts x)→ρ 2=some (.ref σ.length)→ρ 3=some (.ref (σ.length+1))→
   (eJ (aK .ne (aA 1) (aB (-1))) (aK .notIn (aA 1) (aA 3))) ρ (σ++[.list (O.map (aP ts)),.dict (dS ts O)])=some (true,σ++[.list (O.map (aP ts)),.dict (dS ts O)])∧
   (aC (bP (aA 3) (aA 1) (aB 1)) (aC (cG (b7 (aA 2) (aA 1))) (aC (aV 1 (dU .host "base" (aL m .KH_base) (aA 0) [(aA 1)])) aF))) ρ (σ++[.list (O.map (aP ts)),.dict (dS ts O)])=
    some (.next,aZ ρ 1 (bv W ts (bS x)),σ++[.list ((O++[x]).map (aP ts)),.dict (dS ts (O++[x]))]):=by
  intro x l O ρ hO hx hxw hxu nd hlen r0 r1 r2 r3
  have hn:x∉O:=fun q=>by
   rw[List.nodup_append]at nd
   exact nd.2.2 x q x (.head _) rfl
  have hl:=sD hx hO
  rw[lL hn]at hl
  have hlO:O.length≤100000:=by simp at hlen;exact nM3 hlen rfl
  have H2:bT (σ++[.list ((O++[x]).map (aP ts)),.dict (dS ts (O++[x]))]) L W ts:=H.ext .app
  have hb:=cQ0 H2 (bG hx) hxw hxu hm
  constructor
  ·exact(gT (nI (aH r1) rfl) (mC (aH r1) (aH r3) (jU rfl) (fU (tX ts O) _) hl)).trans (by rw[decide_eq_false bD8];rfl)
  ·have e1:(bP (aA 3) (aA 1) (aB 1)) ρ (σ++[.list (O.map (aP ts)),.dict (dS ts O)])=some (.next,ρ,σ++[.list (O.map (aP ts)),.dict (dS ts (O++[x]))]):=by
    have hk:(dS ts O).length≤100000:=by simpa [dS]using hlO
    exact oY (i:=1) rfl (aH r3) (aH r1) rfl (fU (tX ts O) _) (Nat.ble_eq_true_of_le hk) (by rw[tW hx hO hn];rfl)
   rw[bJ e1]
   have e2:(cG (b7 (aA 2) (aA 1))) ρ (σ++[.list (O.map (aP ts)),.dict (dS ts (O++[x]))])=some (.next,ρ,σ++[.list ((O++[x]).map (aP ts)),.dict (dS ts (O++[x]))]):=by
    exact(uP (i:=0) (aH r2) (aH r1) rfl (Nat.le_trans (Nat.le_of_eq (List.length_map ..)) hlO)).trans (by rw[List.map_append];rfl)
   rw[bJ e2]
   generalize σ++[bF.list ((O++[x]).map (aP ts)),bF.dict (dS ts (O++[x]))]=σ2 at H2 hb⊢
   exact bI (eM (wY (aH r0) H2.fields rfl (jW r1) hb)) rfl
 induction C with
 | @last x hbn=>
  intro O fu ρ hf hO hl nd hlen r0 r1 r2 r3
  obtain⟨h1,h2,h3⟩:=hl x (.head _)
  obtain⟨a,b⟩:=one x [] O ρ hO h1 h2 h3 nd hlen r0 r1 r2 r3
  obtain⟨fu,rfl⟩:∃f,fu=f+1:=⟨fu-1,by simp at hf;exact xL hf rfl⟩
  refine⟨aZ ρ 1 (bv W ts (bS x)),r2,?_⟩
  rw[hJ a b,iW]
  have hq:aZ ρ 1 (bv W ts (bS x)) 1=some (.int (-1)):=by show some (bv W ts (bS x))=_;rw[bv,hbn]
  exact wX (nI (j:= -1) (aH hq) rfl)
 | @cons x y l hbs hy ih=>
  intro O fu ρ hf hO hl nd hlen r0 r1 r2 r3
  obtain⟨h1,h2,h3⟩:=hl x (.head _)
  obtain⟨a,b⟩:=one x l O ρ hO h1 h2 h3 nd hlen r0 r1 r2 r3
  obtain⟨fu,rfl⟩:∃f,fu=f+1:=⟨fu-1,by simp at hf;exact xK hf rfl⟩
  obtain⟨ρ',g1,g2⟩:=ih (O++[x]) fu (aZ ρ 1 (bv W ts (bS x))) (by simp at hf;exact hf) (fun z hz=>by
    rcases List.mem_append.mp hz with hz |hz
    ·exact hO z hz
    ·rw[List.mem_singleton.mp hz];exact h1) (fun z hz=>hl z (.tail _ hz)) (by simpa using nd) (by simpa using hlen) r0 (by simp[aZ,bv,hbs]) r2 r3
  refine⟨ρ',g1,?_⟩
  rw[hJ a b,g2]
  simp
theorem yY(H:bT σ L W ts){k:Nat}{x:V}{l:List V}(hk:ts[k]? =some x)(C:oK W x l)(hl:∀y∈l,y∈ts∧lZ y∧bS y∈ts)(nd:l.Nodup)(hlen:l.length≤1000){n:Nat}(hn:11≤n):
  aL n .base_chain [.ref L.ho,.int k] σ=some (.ref σ.length,σ++[.list (l.map (aP ts)),.dict (dS ts l)]):=by
 obtain⟨m,rfl⟩:∃m,n=m+1:=⟨n-1,xL hn rfl⟩
 rw[jS (mL hn rfl)]
 refine(congrFun (congrFun (show hG (aL m) .base_chain=mkF 2 (pM (aL m))from rfl) _) _).trans ?_
 unfold pM mkF
 have hx:x=ts[k]?.getD .none:=by rw[hk];rfl
 have hix:eF ts x=k:=pB H.tab.nd hk
 have e1:(aV 2 (cF [])) (fun i=>[V.ref L.ho,V.int k][i]?) σ=some (.next,aZ (fun i=>[V.ref L.ho,V.int k][i]?) 2 (.ref σ.length),σ++[.list []]):=by
  exact rfl
 have e2:(aV 3 (cI [])) (aZ (fun i=>[V.ref L.ho,V.int k][i]?) 2 (.ref σ.length)) (σ++[.list []])=some (.next,aZ (aZ (fun i=>[V.ref L.ho,V.int k][i]?) 2 (.ref σ.length)) 3 (.ref (σ.length+1)),σ++[.list [],.dict []]):=by
  simp[aV,cI,g9,oT,eP]
 obtain⟨ρ',g1,g2⟩:=bE9 H (m:=m) (mL hn rfl) C [] 999999 (aZ (aZ (fun i=>[V.ref L.ho,V.int k][i]?) 2 (.ref σ.length)) 3 (.ref (σ.length+1))) (d0 hlen rfl) nofun hl nd hlen rfl (hix▸rfl) rfl rfl
 rw[bJ e1,bJ e2]
 rw[bJ (show iS _ _ _ (σ++[.list [],.dict []])=_ from g2)]
 simp[aC,aW,aA,g1]
end
end
section
noncomputable def cA (S:List Nat) (σ σ':aD):Prop:=σ.length≤σ'.length∧∀(i:Nat) (o:bF),i∉S→σ[i]? =some o→σ'[i]? =some o
theorem cA.refl{S:List Nat}{σ:aD}:cA S σ σ:=⟨Nat.le_refl _,fun _ _ _ h=>h⟩
theorem cA.trans{S:List Nat}{a b c:aD}(h:cA S a b)(k:cA S b c):cA S a c:=⟨Nat.le_trans h.1 k.1,fun i o n e=>k.2 i o n (h.2 i o n e)⟩
theorem cA.mono{S T:List Nat}{a b:aD}(h:cA S a b)(k:∀i,i∈S→i∈T):cA T a b:=⟨h.1,fun i o n e=>h.2 i o (fun q=>n (k i q)) e⟩
theorem a9{σ:aD}{i j:Nat}{o:bF}(h:i≠j):(σ.set i o)[j]? =σ[j]? :=List.getElem?_set_ne h
theorem cO{σ:aD}{i:Nat}{o o':bF}(h:σ[i]? =some o'):(σ.set i o)[i]? =some o:=by
 rw[List.getElem?_set_self (List.getElem?_eq_some_iff.mp h).1]
theorem eV{σ:aD}{i:Nat}{o:bF}(h:σ[i]? =some o):i<σ.length:=(List.getElem?_eq_some_iff.mp h).1
theorem cZ{σ e:aD}{i:Nat}{o:bF}(h:σ[i]? =some o):(σ++e)[i]? =some o:=cM.app i o h
theorem cA.set{S:List Nat}{σ:aD}{i:Nat}{o:bF}(h:i∈S):cA S σ (σ.set i o):=⟨by simp,fun j _ n e=>by rw[a9 (fun q=>n (by rw[←q];exact h))];exact e⟩
theorem cA.app{S:List Nat}{σ e:aD}:cA S σ (σ++e):=⟨dD4,fun _ _ _ h=>cM.app _ _ h⟩
theorem cA.new{S T:List Nat}{a b:aD}(h:cA S a b)(k:∀i,i∈S→i∈T∨a.length≤i):cA T a b:=
 ⟨h.1,fun i o n e=>h.2 i o (fun q=>(k i q).elim n fun l=>absurd (eV e) (nNn l)) e⟩
theorem cA.ext{S:List Nat}{σh a b:aD}(h:cA S a b)(e:cM σh a)(k:∀i,i∈S→σh.length≤i):cM σh b:=fun i o q=>
 h.2 i o (fun m=>absurd (eV q) (by have:=k i m;exact nNn this)) (e i o q)
theorem cA.ext0{a b:aD}(h:cA [] a b):cM a b:=fun i o q=>h.2 i o j7 q
noncomputable def rk (y:V):Nat:=if y.beq (tm 68 [])then 2 else if y.beq (tm 69 [tA])then 1 else 0
noncomputable def wt (y:V):Nat:=3^rk y
noncomputable def jZ (T:List V):Nat:=(T.map wt).sum
theorem rB(y:V):1≤wt y:=Nat.one_le_pow _ _ (by decide)
theorem vJ:∀T:List V,T.length≤jZ T
 |[]=>Nat.le_refl _
 |y::T=>by
  have:=vJ T;have:=rB y
  simp only[jZ,List.map_cons,List.sum_cons,List.length_cons]at*;omega
theorem o0(a b:List V):jZ (a++b)=jZ a+jZ b:=by simp[jZ]
theorem vI(a:List V):jZ a.reverse=jZ a:=by
 induction a with
 |nil=>rfl
 |cons x a ih=>rw[List.reverse_cons,o0,ih];simp[jZ];omega
noncomputable def jP:List V:=[tA,tB,tC,tm 2 [],tm 68 [],tm 5 [],tm 69 [tA],tm 3 [],tm 69 [tC],tm 69 [tB],dK tA,tm 72 [tB],tm 71 [tA],dK (tm 75 []),eQ,tm 67 [],tP 13,dK eQ]
noncomputable def argOK (u:V):Bool:=if aQ u=69∨aQ u=70∨aQ u=71∨aQ u= -1 then(bY u).all fun a=>aS a||jP.any (V.beq · a)else true
structure dA(W:Wd):Prop where
 u1:3≤W.u1∧W.u1≤10
 u2:3≤W.u2∧W.u2≤10
 bB:W.bB=eQ∨W.bB=tA
 bC:W.bC=eQ∨W.bC=tA∨W.bC=tB∨W.bC=tm 72 [tA]
 fif:∀x,∀y∈dH W x,67≤aQ y∧aQ y≤70
 frk:∀x,67≤aQ x→aQ x≤70→∀y∈dH W x,rk y<rk x
 flen:∀x,(dH W x).length≤2
 fwf:∀x,∀y∈dH W x,wf y=true
 f3:∀x,∀y∈dH W x,dP 3 y=true
 farg:∀x,∀y∈dH W x,argOK y=true
theorem aD0{W:Wd}(O:dA W){x:V}(h1:67≤aQ x)(h2:aQ x≤70):jZ (dH W x)<wt x:=by
 have hl:=O.flen x
 have hr:=O.frk x h1 h2
 have key:∀l:List V,(∀y∈l,rk y<rk x)→l.length≤2→jZ l<wt x:=by
  intro l hl hn
  have w:∀y∈l,3*wt y≤wt x:=fun y hy=>by
   have:=hl y hy
   unfold wt
   rw[←Nat.pow_succ']
   exact Nat.pow_le_pow_right (by decide) this
  have wp:=rB x
  rcases l with _ |⟨a,_ |⟨b,_ |⟨c,l⟩⟩⟩
  ·exact wp
  ·have:=w a (.head _);have:=rB a;simp[jZ];omega
  ·have:=w a (.head _);have:=w b (.tail _ (.head _));have:=rB a
   simp[jZ];omega
  ·exact absurd (Nat.le_of_succ_le_succ (Nat.le_of_succ_le_succ hn)) (Nat.not_succ_le_zero _)
 exact key _ hr hl
inductive FR2 (W:Wd):V→V→Prop
 |refl {x:V}:FR2 W x x
 |step {x y z:V} (h:y∈dH W x) (k:FR2 W y z):FR2 W x z
section
variable {σh:aD}{L:Ly}{W:Wd}{ts:List V}
theorem aM7:∀(l:List V) (ρ:Env) (σ:aD) (T all:List V) (ti ri:Nat),ρ 4=some (.ref ti)→σ[ti]? =some (.list T)→σ[ri]? =some (.list all)→ti≠ri→T.length+l.length≤1000→
  ∃ρ',(∀j,j≠6→ρ' j=ρ j)∧dM 6 (aC (cG (b7 (aA 4) (aA 6))) aF) (.list ri) all l ρ σ=some (.next,ρ',σ.set ti (.list (T++l)))
 |[],ρ,σ,T,all,ti,ri,h4,hT,hr,hn,hl=>by
  refine⟨ρ,fun _ _=>rfl,?_⟩
  simp only[dM,List.append_nil]
  congr 2
  refine congrArg (Prod.mk ρ) ?_
  apply List.ext_getElem?
  intro i
  by_cases q:ti=i
  ·subst q;rw[cO hT,hT]
  ·rw[a9 q]
 |v::l,ρ,σ,T,all,ti,ri,h4,hT,hr,hn,hl=>by
  have hb:(aC (cG (b7 (aA 4) (aA 6))) aF) (aZ ρ 6 v) σ=some (.next,aZ ρ 6 v,σ.set ti (.list (T++[v]))):=by
   have:T.length≤100000:=nM3 hl rfl
   simp[aC,cG,b7,aA,aZ,h4,hT,this,aF]
  have hs:eS (σ.set ti (.list (T++[v]))) (.list ri) all=true:=by
   simp[eS,a9 hn,hr,(V.beqL_iff all all).mpr rfl]
  obtain⟨ρ',g1,g2⟩:=aM7 l (aZ ρ 6 v) (σ.set ti (.list (T++[v]))) (T++[v]) all ti ri h4 (cO hT) (by rw[a9 hn];exact hr) hn (by simp at hl⊢;exact nR2 hl)
  refine⟨ρ',fun j hj=>by rw[g1 j hj];exact if_neg (by assumption),?_⟩
  simp only[dM,hb,hs,if_true,g2,List.set_set]
  simp
noncomputable def AB (m:Nat):SM:=aC (aV 5 (qX (aA 4))) (aC (a8 (aK .isIn (aA 5) (aA 3)) (aC xE aF) aF) (aC (bP (aA 3) (aA 5) (aB 1)) (aC (cG (b7 (aA 2) (aA 5))) (aC (dL 6 (oG (iP (dU .host "ifaces_at" (aL m .KH_ifaces_at) (aA 0) [(aA 5)]))) (aC (cG (b7 (aA 4) (aA 6))) aF)) aF))))
noncomputable def yM (W:Wd) (ts:List V) (m:Nat) (fi:Nat) (si:Nat) (ti:Nat) (T:List V) (F:List V) (fu:Nat) (ρ:Env) (σ:aD):Prop:=∀G:Prop,(∀(F':List V),∀(ρ':Env),∀(σ':aD),(fD (bL (aA 4)) (AB m) (fu+1) ρ σ=some (.next,ρ',σ'))→(cA [fi,si,ti] σ σ')→(σ'[fi]? =some (.list (F'.map (aP ts))))→(σ'[si]? =some (.dict (dS ts F')))→(F'.length≤F.length+jZ T)→((∀y∈F,y∈F'))→((∀y∈T,y∈F'))→((∀y∈F',y∉F→∀z∈dH W y,z∈F'))→((∀y∈F',y∈F∨∃t∈T,FR2 W t y))→((∀y∈F',y∈F∨(y∈ts∧wf y=true∧67≤aQ y∧aQ y≤70)))→G)→G
structure Tri(σ:aD)(ts:List V)(fi si ti:Nat)(F T:List V):Prop where
 f:σ[fi]? =some (.list (F.map (aP ts)))
 s:σ[si]? =some (.dict (dS ts F))
 t:σ[ti]? =some (.list (T.map (aP ts)))
noncomputable def okI (ts:List V) (y:V):Prop:=y∈ts∧wf y=true∧67≤aQ y∧aQ y≤70
structure aR5(σh:aD)(L:Ly)(ts:List V)(fi si ti:Nat)(T F:List V)(ρ:Env)(σ:aD):Prop where
 E:cM σh σ
 hT:∀y∈T,okI ts y
 hF:∀y∈F,y∈ts
 r0:ρ 0=some (.ref L.ho)
 r2:ρ 2=some (.ref fi)
 r3:ρ 3=some (.ref si)
 r4:ρ 4=some (.ref ti)
 C:Tri σ ts fi si ti F T
inductive aR6 (σh:aD) (L:Ly) (W:Wd) (ts:List V) (fi si ti:Nat) (T F:List V) (f:V) (σ:aD) (r:Option (Fl×Env×aD)):Prop
 |skip (ρ':Env) (σ':aD) (hin:f∈F) (h:r=some (.cont,ρ',σ')) (I:aR5 σh L ts fi si ti T F ρ' σ') (K:cA [fi,si,ti] σ σ'):aR6 σh L W ts fi si ti T F f σ r
 |take (ρ':Env) (σ':aD) (hin:f∉F) (h:r=some (.next,ρ',σ')) (I:aR5 σh L ts fi si ti (T++(dH W f).reverse) (F++[f]) ρ' σ') (K:cA [fi,si,ti] σ σ'):aR6 σh L W ts fi si ti T F f σ r
theorem dN8{o:EM}{ρ:Env}{σ σ1:aD}{j:Nat}{l:List V}{v:V}(h:o ρ σ=some (.ref j,σ1))(g:σ1[j]? =some (.list (l++[v])))(d:l.length<100000):qX o ρ σ=some (v,σ1.set j (.list l)):=by
 have d':(l++[v]).length≤100000:=by rw[List.length_append];exact d
 simp only[qX,h,g,List.getLast?_concat,d',if_true,List.dropLast_concat]
theorem aV8{e:EM}{ρ:Env}{σ σ1:aD}{l:List V}(h:e ρ σ=some (.tup l,σ1))(d:l.length≤1000):iP e ρ σ=some (.ref σ1.length,σ1++[.list l]):=by simp only[iP,h,d,if_true,eP]
theorem cW9{o:EM}{ρ:Env}{σ σ1:aD}{j:Nat}{l:List V}(h:o ρ σ=some (.ref j,σ1))(g:σ1[j]? =some (.list l))(d:l.length≤1000):oG o ρ σ=some (.ref σ1.length,σ1++[.list l.reverse]):=by simp only[oG,h,g,d,if_true,eP]
theorem nV{σ:aD}{o:bF}:(σ++[o])[σ.length]? =some o:=List.getElem?_concat_length ..
theorem yV{fi si ti:Nat}{σ σ':aD}(b:σh.length≤fi∧σh.length≤si∧σh.length≤ti)(E:cM σh σ)(K:cA [fi,si,ti] σ σ'):cM σh σ':=K.ext E fun i hi=>by
 rcases List.mem_cons.mp hi with rfl |hi
 ·exact b.1
 ·rcases List.mem_cons.mp hi with rfl |hi
  ·exact b.2.1
  ·rw[List.mem_singleton.mp hi];exact b.2.2
theorem cU4(H:bT σh L W ts)(O:dA W){m:Nat}(hm:7≤m){fi si ti:Nat}(d1:fi≠si)(d2:fi≠ti)(d3:si≠ti)(b:σh.length≤fi∧σh.length≤si∧σh.length≤ti){T F:List V}{f:V}{ρ:Env}{σ:aD}(hTl:T.length≤900)(hFl:F.length≤900)(I:aR5 σh L ts fi si ti (T++[f]) F ρ σ):
  aR6 σh L W ts fi si ti T F f σ (AB m ρ σ):=by
 obtain⟨hE,hT,hF,r0,r2,r3,r4,g1,g2,g3⟩:=I
 obtain⟨f1,f2,f3,f4⟩:=hT f (List.mem_append_right _ (.head _))
 have hT':∀y∈T,okI ts y:=fun y hy=>hT y (List.mem_append_left _ hy)
 rw[List.map_append,List.map_singleton]at g3
 have hTm:(T.map (aP ts)).length<100000:=by rw[List.length_map];exact sA hTl rfl
 have hFm:(F.map (aP ts)).length≤100000:=by rw[List.length_map];exact d0 hFl rfl
 have hkF:(dS ts F).length≤100000:=by rw[dS,List.length_map];exact d0 hFl rfl
 have hl:=sD f1 hF
 have hk:=fU (tX ts F) (eF ts f:Nat)
 have e1:=dN8 (o:=aA 4) (aH r4) g3 hTm
 have c1:Tri (σ.set ti (.list (T.map (aP ts)))) ts fi si ti F T:=⟨(a9 (Ne.symm d2)).trans g1,(a9 (Ne.symm d3)).trans g2,cO g3⟩
 have K1:cA [fi,si,ti] σ (σ.set ti (.list (T.map (aP ts)))):= .set (.tail _ (.tail _ (.head _)))
 generalize σ.set ti (.list (T.map (aP ts)))=σ1 at e1 c1 K1
 by_cases hin:f∈F
 ·rw[oZ.mpr hin]at hl
  exact .skip _ σ1 hin (bI (eM e1) (dH8 (oI (z7 (aH rfl) (aH r3) c1.s hk hl) rfl rfl))) ⟨yV b hE K1,hT',hF,r0,r2,r3,r4,c1⟩ K1
 rw[lL hin]at hl
 have e2:=aH1 (σ:=σ1) (e:=aB 1) (o:=aA 3) (a:=aA 5) (ρ:=aZ ρ 5 (aP ts f)) rfl (aH r3) (aH rfl) c1.s (by rw[hk,decide_eq_true hkF];rfl)
 rw[tW f1 hF hin]at e2
 have e3:=s9 (σ:=σ1.set si (.dict (dS ts (F++[f])))) (o:=aA 2) (e:=aA 5) (ρ:=aZ ρ 5 (aP ts f)) (aH r2) (aH rfl) ((a9 (Ne.symm d1)).trans c1.f) hFm
 have c3:Tri ((σ1.set si (.dict (dS ts (F++[f])))).set fi (.list (F.map (aP ts)++[aP ts f]))) ts fi si ti (F++[f]) T:=
  ⟨by rw[List.map_append];exact cO ((a9 (Ne.symm d1)).trans c1.f),(a9 d1).trans (cO c1.s),(a9 d2).trans ((a9 d3).trans c1.t)⟩
 have K3:cA [fi,si,ti] σ ((σ1.set si (.dict (dS ts (F++[f])))).set fi (.list (F.map (aP ts)++[aP ts f]))):=(K1.trans (.set (.tail _ (.head _)))).trans (.set (.head _))
 clear K1
 generalize(σ1.set si (.dict (dS ts (F++[f])))).set fi (.list (F.map (aP ts)++[aP ts f]))=σ3 at e3 c3 K3
 have H3:=H.ext (yV b hE K3)
 have hfl:((dH W f).map (aP ts)).length≤1000:=by have:=O.flen f;rw[List.length_map];exact d0 this rfl
 have hti:=eV c3.t
 obtain⟨ρ5,p1,p2⟩:=aM7 ((dH W f).map (aP ts)).reverse (aZ ρ 5 (aP ts f)) ((σ3++[bF.list ((dH W f).map (aP ts))])++[bF.list ((dH W f).map (aP ts)).reverse]) (T.map (aP ts)) ((dH W f).map (aP ts)).reverse ti (σ3++[bF.list ((dH W f).map (aP ts))]).length
  r4 (cZ (cZ c3.t)) nV (by rw[List.length_append];exact rH hti) (by have:=O.flen f;rw[List.length_reverse,List.length_map,List.length_map];exact nAr hTl this rfl)
 have e6:(dL 6 (oG (iP (dU .host "ifaces_at" (aL m .KH_ifaces_at) (aA 0) [(aA 5)]))) (aC (cG (b7 (aA 4) (aA 6))) aF)) (aZ ρ 5 (aP ts f)) σ3=_:=nH (cW9 (aV8 (H3.m (.inr (.inr (.inl rfl))) (aH r0) (jW rfl) (wA H3 (bG f1) f2 (iI hm rfl))) hfl) nV hfl) nV p2
 have K5:cA [fi,si,ti] σ (((σ3++[bF.list ((dH W f).map (aP ts))])++[bF.list ((dH W f).map (aP ts)).reverse]).set ti (.list (T.map (aP ts)++((dH W f).map (aP ts)).reverse))):=(K3.trans .app).trans (cA.trans .app (.set (i:=ti) (o:= .list (T.map (aP ts)++((dH W f).map (aP ts)).reverse)) (.tail _ (.tail _ (.head _)))))
 refine .take ρ5 _ hin (bI (eM e1) (bI (iQ (z7 (aH rfl) (aH r3) c1.s hk hl) rfl) (bI e2 (bI e3 (bI e6 rfl))))) ⟨yV b hE K5,fun y hy=> ?_,fun y hy=> ?_,(p1 0 (by decide)).trans r0,(p1 2 (by decide)).trans r2,(p1 3 (by decide)).trans r3,(p1 4 (by decide)).trans r4,(a9 (Ne.symm d2)).trans (cZ (cZ c3.f)),(a9 (Ne.symm d3)).trans (cZ (cZ c3.s)),by rw[List.map_append,List.map_reverse];exact cO (cZ (cZ c3.t))⟩ K5
 ·rcases List.mem_append.mp hy with hy |hy
  ·exact hT' y hy
  ·have:=H.steps f f1 f2 y (List.mem_append_right _ (List.mem_reverse.mp hy))
   exact⟨this.1,this.2,O.fif f y (List.mem_reverse.mp hy)⟩
 ·rcases List.mem_append.mp hy with hy |hy
  ·exact hF y hy
  ·rw[List.mem_singleton.mp hy];exact f1
theorem aY8{fi si ti m fu:Nat}{F:List V}{ρ:Env}{σ:aD}(I:aR5 σh L ts fi si ti [] F ρ σ):yM W ts m fi si ti [] F fu ρ σ:=
 (fun _ k=>k F ρ σ (iW (bV (aH I.r4) (by simp only[e0,I.C.t,List.map_nil];rfl))) .refl I.C.f I.C.s (Nat.le_refl _) (fun _ h=>h) (fun y h=>(by cases h)) (fun y h1 h2=>absurd h1 h2) (fun y h=> .inl h) (fun y h=> .inl h))
theorem cF5(H:bT σh L W ts)(O:dA W){m:Nat}(hm:7≤m){fi si ti:Nat}(d1:fi≠si)(d2:fi≠ti)(d3:si≠ti)(b1:σh.length≤fi)(b2:σh.length≤si)(b3:σh.length≤ti):
  ∀(n:Nat) (T F:List V) (fu:Nat) (ρ:Env) (σ:aD),jZ T≤n→n≤fu→n+F.length≤900→aR5 σh L ts fi si ti T F ρ σ→yM W ts m fi si ti T F fu ρ σ:=by
 intro n
 induction n with
 |zero=>
  intro T F fu ρ σ hP hn hF I
  have:=vJ T
  have:T=[]:=List.length_eq_zero_iff.mp (by omega)
  subst this
  exact aY8 I
 |succ n ih=>
  intro T F fu ρ σ hP hn hF I
  rcases List.eq_nil_or_concat T with rfl |⟨T,f,rfl⟩
  ·exact aY8 I
  rw[List.concat_eq_append]at*
  have hTl:=vJ T
  have hP1:jZ [f]=wt f:=by rw[jZ,List.map_singleton,List.sum_singleton]
  have hP2:=hP
  rw[o0,hP1]at hP2
  have hwp:=rB f
  obtain⟨fu,rfl⟩:∃k,fu=k+1:=⟨fu-1,xK hn rfl⟩
  have ht:bL (aA 4) ρ σ=some (true,σ):=bV (aH I.r4) (by
   have h:((T++[f]).map (aP ts)).length≤100000:=by rw[List.length_map,List.length_append];show _+1≤_;exact nRa (Nat.le_trans (Nat.le_trans hTl (kD hP2)) (kD hF)) rfl
   simp only[e0,I.C.t,h,if_true]
   rw[List.map_append]
   cases T.map (aP ts)<;>rfl)
  obtain⟨f1,f2,f3,f4⟩:=I.hT f (List.mem_append_right _ (.head _))
  rcases cU4 H O hm d1 d2 d3 ⟨b1,b2,b3⟩ (T:=T) (F:=F) (Nat.le_trans (Nat.le_trans hTl (kD hP2)) (kD hF)) (nM4 hF rfl) I with⟨ρ1,σ1,hin,e2,I1,K1⟩ |⟨ρ1,σ1,hin,e2,I1,K1⟩
  ·refine(ih T F fu ρ1 σ1 (by omega) (tQ hn) (by omega) I1) _ fun F' ρ' σ' q1 q2 q3 q4 q5 q6 q7 q8 q9 q10=> ?_
   refine(fun _ k=>k F' ρ' σ' ((aZ6 ht e2).trans q1) (K1.trans q2) q3 q4 (by rw[o0];omega) q6 (fun y hy=> ?_) q8 (fun y hy=>(q9 y hy).imp id fun⟨t,a,b⟩=>⟨t,List.mem_append_left _ a,b⟩) q10)
   rcases List.mem_append.mp hy with hy |hy
   ·exact q7 y hy
   ·rw[List.mem_singleton.mp hy];exact q6 f hin
  ·have hPf:=aD0 O f3 f4
   refine(ih (T++(dH W f).reverse) (F++[f]) fu ρ1 σ1 (by rw[o0,vI];omega) (tQ hn) (by rw[List.length_append];show _+(_+1)≤_;omega) I1) _ fun F' ρ' σ' q1 q2 q3 q4 q5 q6 q7 q8 q9 q10=> ?_
   rw[o0,vI,List.length_append,show [f].length=1 from rfl]at q5
   refine(fun _ k=>k F' ρ' σ' ((hJ ht e2).trans q1) (K1.trans q2) q3 q4 (by rw[o0,hP1];omega) (fun y hy=>q6 y (List.mem_append_left _ hy)) (fun y hy=> ?_) (fun y hy hn z hz=> ?_) (fun y hy=> ?_) (fun y hy=> ?_))
   ·rcases List.mem_append.mp hy with hy |hy
    ·exact q7 y (List.mem_append_left _ hy)
    ·rw[List.mem_singleton.mp hy];exact q6 f (List.mem_append_right _ (.head _))
   ·by_cases e:y=f
    ·exact q7 z (List.mem_append_right _ (List.mem_reverse.mpr (e▸hz)))
    ·exact q8 y hy (fun h=>(List.mem_append.mp h).elim hn fun h=>e (List.mem_singleton.mp h)) z hz
   ·rcases q9 y hy with h |⟨t,a,b⟩
    ·exact(List.mem_append.mp h).imp id fun h=>⟨f,List.mem_append_right _ (.head _),by rw[List.mem_singleton.mp h];exact .refl⟩
    ·rcases List.mem_append.mp a with a |a
     ·exact .inr ⟨t,List.mem_append_left _ a,b⟩
     ·exact .inr ⟨f,List.mem_append_right _ (.head _),.step (List.mem_reverse.mp a) b⟩
   ·rcases q10 y hy with h |h
    ·exact(List.mem_append.mp h).imp id fun h=>by rw[List.mem_singleton.mp h];exact⟨f1,f2,f3,f4⟩
    ·exact .inr h
end
end
section
section
variable {σh:aD}{L:Ly}{W:Wd}{ts:List V}
noncomputable def cQ4 (L:Ly) (W:Wd) (ts:List V) (fi:Nat) (si:Nat) (T:List V) (F:List V) (σ:aD) (n:Nat) (f:FM):Prop:=∀G:Prop,(∀(F':List V),∀(σ':aD),(f [.ref L.ho,.tup (T.map (aP ts)),.ref fi,.ref si] σ=some (.none,σ'))→(cA [fi,si] σ σ')→(σ'[fi]? =some (.list (F'.map (aP ts))))→(σ'[si]? =some (.dict (dS ts F')))→(F'.length≤F.length+jZ T)→((∀y∈F,y∈F'))→((∀y∈T,y∈F'))→((∀y∈F',y∉F→∀z∈dH W y,z∈F'))→((∀y∈F',y∈F∨∃t∈T,FR2 W t y))→((∀y∈F',y∈F∨(y∈ts∧wf y=true∧67≤aQ y∧aQ y≤70)))→G)→G
theorem dI2(H:bT σh L W ts)(O:dA W){fi si:Nat}(d1:fi≠si)(b1:σh.length≤fi)(b2:σh.length≤si){T F:List V}{σ:aD}(hP:jZ T+F.length≤900)(hE:cM σh σ)
  (hT:∀y∈T,y∈ts∧wf y=true∧67≤aQ y∧aQ y≤70) (hF:∀y∈F,y∈ts) (g1:σ[fi]? =some (.list (F.map (aP ts)))) (g2:σ[si]? =some (.dict (dS ts F))) {n:Nat} (hn:8≤n):
  cQ4 L W ts fi si T F σ n (aL n .add_ifaces):=by
 obtain⟨m,rfl⟩:=jY hn rfl
 have hl1:=eV g1
 have hl2:=eV g2
 have hTl:=vJ T
 have hT1:(T.map (aP ts)).length≤1000:=by rw[List.length_map];exact d0 (Nat.le_trans hTl (kD hP)) rfl
 have hs:(σ++[bF.list (T.map (aP ts))]).length=σ.length+1:=by rw[List.length_append];rfl
 refine(cF5 H O (m:=m) (bH hn rfl) (fi:=fi) (si:=si) (ti:=(σ++[bF.list (T.map (aP ts))]).length) d1 (Nat.ne_of_lt (Nat.lt_of_lt_of_le hl1 (kD (Nat.le_of_eq hs.symm)))) (Nat.ne_of_lt (Nat.lt_of_lt_of_le hl2 (kD (Nat.le_of_eq hs.symm)))) b1 b2 (Nat.le_trans (Nat.le_trans b2 (Nat.le_of_lt hl2)) (kD (Nat.le_of_eq hs.symm))) (jZ T) T.reverse F 999999
  (aZ (fun i=>[V.ref L.ho,.tup (T.map (aP ts)),.ref fi,.ref si][i]?) 4 (.ref (σ++[bF.list (T.map (aP ts))]).length)) ((σ++[bF.list (T.map (aP ts))])++[bF.list (T.map (aP ts)).reverse]) (by rw[vI];exact Nat.le_refl _) (nM3 hP rfl) hP
  ⟨hE.trans (cM.app.trans .app),fun y hy=>hT y (List.mem_reverse.mp hy),hF,rfl,rfl,rfl,rfl,cZ (cZ g1),cZ (cZ g2),by rw[List.map_reverse];exact nV⟩) _ fun F' ρ' σ' q1 q2 q3 q4 q5a q5b q5c q5d q5e q5f=> ?_
 refine(fun _ k=>k F' σ' ?_ ?_ q3 q4 (by rw[vI]at q5a;exact q5a) q5b (fun y hy=>q5c y (List.mem_reverse.mpr hy)) q5d (fun y hy=>(q5e y hy).imp id fun⟨t,a,b⟩=>⟨t,List.mem_reverse.mp a,b⟩) q5f)
 ·rw[jS (bH hn rfl)]
  exact vC rfl (bI (eM (cW9 (aV8 (aH rfl) hT1) nV hT1)) (bI (show iS _ _ _ _=_ from q1) rfl))
 ·exact(cA.trans .app (cA.trans .app q2)).new fun i hi=>by
   rcases List.mem_cons.mp hi with h |hi
   ·exact .inl (h▸ .head _)
   ·rcases List.mem_cons.mp hi with h |hi
    ·exact .inl (h▸ .tail _ (.head _))
    ·rw[List.mem_singleton.mp hi];exact .inr (kD (Nat.le_of_eq hs.symm))
noncomputable def rO (x:V):Nat:=if aQ x=0 then(if iZ x<12 then 2 else if iZ x=12 then 0 else 1)else if 67≤aQ x∧aQ x≤70 then 0
 else if aQ x=2∨aQ x=5∨aQ x=6∨aQ x=64∨aQ x=72 then 1 else if aQ x=75∨aQ x=76∨aQ x=66 then 3 else 2
noncomputable def cE3 (h:Int):Nat:=if 67≤h∧h≤70 then 0
 else if h=2∨h=5∨h=6∨h=64∨h=72 then 1 else if h=75∨h=76∨h=66 then 3 else 2
theorem cK0{h:Int}{l:List V}(h0:h≠0):rO (tm h l)=cE3 h:=by
 unfold rO
 rw[show aQ (tm h l)=h from rfl,if_neg h0]
 rfl
noncomputable def bF1 (c:Int):Nat:=if c=0 then 0 else cE3 c
theorem cK1{c:Int}{y:V}(h:xI c=some y):rO y=bF1 c:=by
 unfold xI at h
 by_cases q:c= -1
 ·rw[if_pos q]at h;exact aN h
 rw[if_neg q]at h
 by_cases q2:c=0
 ·rw[if_pos q2]at h;(refine cT h fun p=> ?_;clear h;subst p);rw[q2];rfl
 rw[if_neg q2]at h
 (refine cT h fun p=> ?_;clear h;subst p)
 rw[cK0 q2,bF1,if_neg q2]
theorem bM6{c:Int}{y:V}(h:xI c=some y):c≠ -1:=fun e=>by rw[e]at h;exact aN h
theorem aO6{W:Wd}(O:dA W){x y:V}(h:wf x=true)(hb:base W x=some y):rO y<rO x:=by
 rcases cR h with⟨n,rfl,h1,h2⟩ |⟨hh,args,rfl,h0,ha,_,_⟩
 ·rw[qJ h1 h2]at hb
  have key:=of_decide_eq_true (kK (fun n=>decide (iB n 1 (gE (tP n)) (eN (tP n)) (iX (tP n))≠ -1→bF1 (iB n 1 (gE (tP n)) (eN (tP n)) (iX (tP n)))<(if n<12 then 2 else if n=12 then 0 else 1))) rfl h1 h2)
  rw[cK1 hb]
  exact key (bM6 hb)
 ·rw[qK h0 ha]at hb
  rw[cK0 h0]
  by_cases q:hh=65
  ·rw[if_pos q]at hb
   (refine cT hb fun p=> ?_;clear hb;subst p);subst q
   rcases O.bB with q |q<;>rw[q]<;>decide
  rw[if_neg q]at hb
  by_cases q:hh=66
  ·rw[if_pos q]at hb
   (refine cT hb fun p=> ?_;clear hb;subst p);subst q
   rcases O.bC with q |q |q |q<;>rw[q]<;>decide
  rw[if_neg q]at hb
  rw[cK1 hb]
  exact of_decide_eq_true (fI (fun h=>decide (h≠65→h≠66→iB 16 (dY h) (gN h) (jA h) (decide (dY h=3))≠ -1→bF1 (iB 16 (dY h) (gN h) (jA h) (decide (dY h=3)))<cE3 h)) rfl ha) ‹_› q (bM6 hb)
noncomputable def cE2 (W:Wd) (ts:List V) (x:V):Prop:=∀G:Prop,(∀(l:List V),(oK W x l)→(l.length≤rO x+1)→(l.Nodup)→(∀y∈l,y∈ts∧wf y=true∧rO y≤rO x)→G)→G
theorem bR5(H:bT σh L W ts)(O:dA W):∀(n:Nat) (x:V),rO x≤n→x∈ts→wf x=true→cE2 W ts x:=by
 intro n
 induction n with
 |zero=>
  intro x hn hx hw
  induction q:base W x using Option.casesOn with
  |none=>exact(fun _ k=>k [x] (.last (by rw[dJ hw];exact q)) (by simp) (by simp) (by simp[hx,hw]))
  |some y=>have:=aO6 O hw q;omega
 |succ n ih=>
  intro x hn hx hw
  induction q:base W x using Option.casesOn with
  |none=>exact(fun _ k=>k [x] (.last (by rw[dJ hw];exact q)) (by simp) (by simp) (by simp[hx,hw]))
  |some y=>
   have hb:=aO6 O hw q
   obtain⟨h1,h2⟩:=H.steps x hx hw y (by simp[step,q])
   refine(ih y (tQ (Nat.le_trans (nSl hb) hn)) h1 h2) _ fun l c1 c2 c3 c4=> ?_
   refine(fun _ k=>k (x::l) (.cons (by rw[dJ hw];exact q) c1) (by simp;exact Nat.le_trans c2 (nSl hb)) (List.nodup_cons.mpr ⟨fun hm=> ?_,c3⟩) (fun z hz=> ?_))
   ·have:=(c4 x hm).2.2;exact nF1 hb this
   ·rcases List.mem_cons.mp hz with rfl |hz
    ·exact⟨hx,hw,Nat.le_refl _⟩
    ·obtain⟨a,b,c⟩:=c4 z hz;exact⟨a,b,Nat.le_trans c (Nat.le_of_lt hb)⟩
theorem uN(x:V):rO x≤3:=by
 unfold rO
 repeat' split
 all_goals (first |exact Nat.le_of_ble_eq_true rfl |exact Nat.le_refl _)
theorem mQ(e:V):wf (tm (-2) [e])=false:=by
 induction q:wf (tm (-2) [e])using Bool.casesOn with
 |false=>rfl
 |true=>
  rcases cR q with⟨n,h,_⟩ |⟨hh,args,h,h0,ha,_⟩
  ·exact c7 q
  ·simp at h
   obtain⟨rfl,rfl⟩:=h
   exact c7 ha
noncomputable def cT6 (W:Wd) (ts:List V) (x:V):Prop:=∀G:Prop,(∀(l:List V),(oK W x l)→(l.length≤5)→(l.Nodup)→((∀y∈l,y∈ts∧lZ y∧bS y∈ts))→(∃l',l=x::l'∧∀y∈l',wf y=true)→G)→G
theorem cJ8(H:bT σh L W ts)(O:dA W){x:V}(hx:x∈ts)(hw:lZ x)(hu:bS x∈ts):cT6 W ts x:=by
 rcases hw with hw |⟨e,rfl,hw⟩
 ·refine(bR5 H O 3 x (uN x) hx hw) _ fun l c1 c2 c3 c4=> ?_
  have:=uN x
  refine(fun _ k=>k l c1 (nQc c2 this rfl) c3 (fun y hy=>⟨(c4 y hy).1,.inl (c4 y hy).2.1,by rw[dJ (c4 y hy).2.1];exact(c4 y hy).1⟩) ?_)
  cases c1 with
  |last _=>exact⟨[],rfl,nofun⟩
  |cons _ _=>exact⟨_,rfl,fun y hy=>(c4 y (.tail _ hy)).2.1⟩
 ·rw[eZ]at hu
  induction q:base W e using Option.casesOn with
  |none=>
   refine(fun _ k=>k [tm (-2) [e]] (.last (by rw[eZ];exact q)) (by simp) (by simp) ?_ ⟨[],rfl,nofun⟩)
   intro y hy
   rw[List.mem_singleton.mp hy]
   exact⟨hx,.inr ⟨e,rfl,hw⟩,by rw[eZ];exact hu⟩
  |some y=>
   obtain⟨h1,h2⟩:=H.steps e hu hw y (by simp[step,q])
   refine(bR5 H O 3 y (uN y) h1 h2) _ fun l c1 c2 c3 c4=> ?_
   have:=uN y
   refine(fun _ k=>k (tm (-2) [e]::l) (.cons (by rw[eZ];exact q) c1) (by simp;exact nQc c2 this rfl) (List.nodup_cons.mpr ⟨fun hm=> ?_,c3⟩) (fun z hz=> ?_) ⟨l,rfl,fun z hz=>(c4 z hz).2.1⟩)
   ·have:=(c4 _ hm).2.1;rw[mQ]at this;exact c7 this
   ·rcases List.mem_cons.mp hz with rfl |hz
    ·exact⟨hx,.inr ⟨e,rfl,hw⟩,by rw[eZ];exact hu⟩
    ·exact⟨(c4 z hz).1,.inl (c4 z hz).2.1,by rw[dJ (c4 z hz).2.1];exact(c4 z hz).1⟩
end
end
section
section
variable {σh:aD}{L:Ly}{W:Wd}{ts:List V}
theorem aE9(y:V):wt y≤9:=by
 unfold wt rk
 repeat' split
 all_goals decide
theorem aR2(O:dA W)(x:V):jZ (dH W x)≤18:=by
 have hl:=O.flen x
 generalize dH W x=l at hl⊢
 rcases l with _ |⟨a,_ |⟨b,_ |⟨c,l⟩⟩⟩
 ·exact Nat.le_of_ble_eq_true rfl
 ·have:=aE9 a;simp[jZ];exact d0 this rfl
 ·have:=aE9 a;have:=aE9 b;simp[jZ];omega
 ·exact absurd (Nat.le_of_succ_le_succ (Nat.le_of_succ_le_succ hl)) (Nat.not_succ_le_zero _)
noncomputable def ALB (m:Nat):SM:=aC (cG (aJ (aL m .add_ifaces) [(aA 0),(dU .host "ifaces_at" (aL m .KH_ifaces_at) (aA 0) [(aA 4)]),(aA 2),(aA 3)])) aF
noncomputable def bG9 (W:Wd) (ts:List V) (m:Nat) (fi:Nat) (si:Nat) (ci:Nat) (all:List V) (l:List V) (F:List V) (ρ:Env) (σ:aD):Prop:=∀G:Prop,(∀(F':List V),∀(ρ':Env),∀(σ':aD),(dM 4 (ALB m) (.list ci) all (l.map (aP ts)) ρ σ=some (.next,ρ',σ'))→((∀j,j≠4→ρ' j=ρ j))→(cA [fi,si] σ σ')→(σ'[fi]? =some (.list (F'.map (aP ts))))→(F'.length≤F.length+18*l.length)→((∀y∈F',okI ts y))→((∀y∈F',∀z∈dH W y,z∈F'))→((∀y∈F,y∈F'))→((∀c∈l,∀z∈dH W (bS c),z∈F'))→((∀y∈F',y∈F∨∃c∈l,∃z∈dH W (bS c),FR2 W z y))→G)→G
theorem cF3(H:bT σh L W ts)(O:dA W){m:Nat}(hm:8≤m){fi si ci:Nat}(d1:fi≠si)(d2:ci≠fi)(d3:ci≠si)(b1:σh.length≤fi)(b2:σh.length≤si)(all:List V):
  ∀(l F:List V) (ρ:Env) (σ:aD),(∀y∈l,y∈ts∧lZ y∧bS y∈ts)→F.length+18*l.length≤800→(∀y∈F,okI ts y)→(∀y∈F,∀z∈dH W y,z∈F)→cM σh σ→ρ 0=some (.ref L.ho)→ρ 2=some (.ref fi)→ρ 3=some (.ref si)→
   σ[fi]? =some (.list (F.map (aP ts)))→σ[si]? =some (.dict (dS ts F))→σ[ci]? =some (.list all)→
  bG9 W ts m fi si ci all l F ρ σ:=by
 intro l
 induction l with
 |nil=>
  intro F ρ σ hl hF1 hF hC hE r0 r2 r3 g1 g2 g3
  exact(fun _ k=>k F ρ σ rfl (fun _ _=>rfl) .refl g1 (by simp) hF hC (fun _ h=>h) (fun _ h=>absurd h List.not_mem_nil) (fun y h=> .inl h))
 |cons c l ih=>
  intro F ρ σ hl hF1 hF hC hE r0 r2 r3 g1 g2 g3
  obtain⟨c1,c2,c3⟩:=hl c (.head _)
  have HE:=H.ext hE
  have hif:=bL7 HE (bG c1) c2 c3 (show 7≤m from nGe hm rfl)
  have huw:wf (bS c)=true:=by
   rcases c2 with h |⟨e,rfl,h⟩
   ·rw[dJ h];exact h
   ·rw[eZ];exact h
  have hPf:=aR2 O (bS c)
  have tsf:∀y∈dH W (bS c),okI ts y:=fun y hy=>by
   have:=H.steps (bS c) c3 huw y (List.mem_append_right _ hy)
   exact⟨this.1,this.2,O.fif _ y hy⟩
  refine(dI2 H O d1 b1 b2 (T:=dH W (bS c)) (F:=F) (σ:=σ) (by simp at hF1;omega) hE tsf (fun y hy=>(hF y hy).1) g1 g2 hm) _ fun F1 σ1 q1 q2 q3 q4 q5 q6 q7 q8 q9 q10=> ?_
  have hb:(ALB m) (aZ ρ 4 (aP ts c)) σ=some (.next,aZ ρ 4 (aP ts c),σ1):=by
   unfold ALB
   have e1:dU .host "ifaces_at" (aL m .KH_ifaces_at) (aA 0) [(aA 4)] (aZ ρ 4 (aP ts c)) σ=some (fv W ts (bS c),σ):=by
    simp[dU,dO,aA,aZ,r0,HE.fields,CN.beq,iK,hif]
   have e2:dO [(aA 0),(dU .host "ifaces_at" (aL m .KH_ifaces_at) (aA 0) [(aA 4)]),(aA 2),(aA 3)] (aZ ρ 4 (aP ts c)) σ=some ([.ref L.ho,.tup ((dH W (bS c)).map (aP ts)),.ref fi,.ref si],σ):=by
    have q0:aZ ρ 4 (aP ts c) 0=some (.ref L.ho):=r0
    have q2:aZ ρ 4 (aP ts c) 2=some (.ref fi):=r2
    have q3:aZ ρ 4 (aP ts c) 3=some (.ref si):=r3
    generalize aZ ρ 4 (aP ts c)=ρ1 at*
    unfold dO
    simp only[aA,q0]
    unfold dO
    rw[e1]
    simp[dO,aA,q2,q3,fv]
   simp only[aC,cG,aJ,e2,q1,aF]
  have g3':σ1[ci]? =some (.list all):=q2.2 _ _ (dX d2 (dX d3 j7)) g3
  have hst:eS σ1 (.list ci) all=true:=by simp[eS,g3',(V.beqL_iff all all).mpr rfl]
  have hE1:cM σh σ1:=q2.ext hE (by intro i hi;simp at hi;omega)
  have hF1':∀y∈F1,okI ts y:=fun y hy=>(q10 y hy).elim (hF y) id
  have hC1:∀y∈F1,∀z∈dH W y,z∈F1:=fun y hy z hz=>by
   by_cases q:y∈F
   ·exact q6 z (hC y q z hz)
   ·exact q8 y hy q z hz
  refine(ih F1 (aZ ρ 4 (aP ts c)) σ1 (fun y hy=>hl y (.tail _ hy)) (by simp at hF1;omega) hF1' hC1 hE1 r0 r2 r3 q3 q4 g3') _ fun F' ρ' σ' p1 p2 p3 p4 p5 p6 p7 p8 p9 p10=> ?_
  refine(fun _ k=>k F' ρ' σ' ?_ (fun j hj=>by rw[p2 j hj];exact if_neg (by assumption)) (q2.trans p3) p4 (by simp;omega) p6 p7 (fun y hy=>p8 y (q6 y hy)) (fun d hd z hz=> ?_) (fun y hy=> ?_))
  ·simp only[List.map_cons,dM,hb,hst,if_true,p1]
  ·rcases List.mem_cons.mp hd with rfl |hd
   ·exact p8 z (q7 z hz)
   ·exact p9 d hd z hz
  ·rcases p10 y hy with h |⟨d,a,b⟩
   ·rcases q9 y h with h |⟨t,a,b⟩
    ·exact .inl h
    ·exact .inr ⟨c,.head _,t,a,b⟩
   ·exact .inr ⟨d,.tail _ a,b⟩
theorem FR2.rch{x y z:V}(h:FR2 W y z):hH W x y→hH W x z:=by
 induction h with
 |refl=>exact id
 |step a _ ih=>exact fun r=>ih (r.step (List.mem_append_right _ a))
theorem hH.tr{a b u:V}(h:hH W a b):hH W u a→hH W u b:=by
 induction h with
 |refl=>exact id
 |step _ k ih=>exact fun r=>(ih r).step k
theorem oK.rchw{x:V}{l:List V}(C:oK W x l):(∀c∈l,wf c=true)→∀c∈l,hH W x c:=by
 induction C with
 |last _=>intro _ c hc;rw[List.mem_singleton.mp hc];exact .refl
 | @cons x y l h hy ih=>
  intro hw c hc
  rcases List.mem_cons.mp hc with rfl |hc
  ·exact .refl
  ·rw[dJ (hw x (.head _))]at h
   exact(ih (fun d hd=>hw d (.tail _ hd)) c hc).tr (hH.refl.step (by simp[step,h]))
theorem oK.rch{x:V}{l:List V}(C:oK W x (x::l))(hw:∀c∈l,wf c=true):∀c∈l,hH W (bS x) c:=by
 intro c hc
 cases C with
 |last _=>cases hc
 |cons h hy=>exact(hy.rchw hw c hc).tr (hH.refl.step (by simp[step,h]))
theorem oK.next{x:V}{l:List V}(C:oK W x l):∀c∈l,∀v,base W (bS c)=some v→v∈l:=by
 induction C with
 |last h=>intro c hc v hv;rw[List.mem_singleton.mp hc,h]at hv;exact aN hv
 | @cons x y l h hy ih=>
  intro c hc v hv
  rcases List.mem_cons.mp hc with rfl |hc
  ·rw[h]at hv;(refine cT hv fun p=> ?_;clear hv;subst p)
   cases hy<;>exact .tail _ (.head _)
  ·exact .tail _ (ih c hc v hv)
theorem xX{x:V}(h1:67≤aQ x)(h2:aQ x≤70):base W x=none:=by
 have n3:x.beq (tm 3 [])=false:=V.beq_ne fun e=>by subst e;simp[aQ]at h1
 have nB:x.beq tB=false:=V.beq_ne fun e=>by subst e;simp[aQ]at h1
 have nC:x.beq tC=false:=V.beq_ne fun e=>by subst e;simp[aQ]at h1
 have h0:aQ x≠0:=iNq h1 rfl
 simp[base,i7,n3,nB,nC,h0,h1,h2]
noncomputable def cQ3 (σh:aD) (L:Ly) (W:Wd) (ts:List V) (k:Nat) (x:V) (l:List V) (n:Nat) (f:FM):Prop:=∀G:Prop,(∀(F:List V),∀(σ':aD),(f [.ref L.ho,.int k] σh=some (.ref σh.length,σ'))→(cM σh σ')→(σ'[σh.length]? =some (.list (F.map (aP ts))))→(F.length≤90)→((∀y∈F,okI ts y))→(∀u,hH W (bS x) u↔(u=bS x∨u∈l∨u∈F))→G)→G
theorem cH9(H:bT σh L W ts)(O:dA W){k:Nat}{x:V}{l:List V}(hk:ts[k]? =some x)(C:oK W x (x::l))(hl:∀y∈x::l,y∈ts∧lZ y∧bS y∈ts)(nd:(x::l).Nodup)(hlen:(x::l).length≤5)(hw:∀c∈l,wf c=true){n:Nat}(hn:12≤n):
  cQ3 σh L W ts k x l n (aL n .all_ifaces):=by
 obtain⟨m,rfl⟩:∃m,n=m+1:=⟨n-1,xL hn rfl⟩
 rw[jS (mL hn rfl)]
 have e1:(aV 2 (cF [])) (fun i=>[V.ref L.ho,.int k][i]?) σh=some (.next,aZ (fun i=>[V.ref L.ho,.int k][i]?) 2 (.ref σh.length),σh++[bF.list []]):=by
  exact rfl
 have e2:(aV 3 (cI [])) (aZ (fun i=>[V.ref L.ho,.int k][i]?) 2 (.ref σh.length)) (σh++[bF.list []])=some (.next,aZ (aZ (fun i=>[V.ref L.ho,.int k][i]?) 2 (.ref σh.length)) 3 (.ref (σh.length+1)),σh++[bF.list [],bF.dict []]):=by
  simp[aV,cI,g9,oT,eP]
 have H2:bT (σh++[bF.list [],bF.dict []]) L W ts:=H.ext .app
 have hch:=yY H2 hk C hl nd (d0 hlen rfl) (show 11≤m from mL hn rfl)
 generalize hρ:aZ (aZ (fun i=>[V.ref L.ho,.int k][i]?) 2 (.ref σh.length)) 3 (.ref (σh.length+1))=ρ0 at*
 have r0:ρ0 0=some (.ref L.ho):=by rw[←hρ];rfl
 have r1:ρ0 1=some (.int k):=by rw[←hρ];rfl
 have r2:ρ0 2=some (.ref σh.length):=by rw[←hρ];rfl
 have r3:ρ0 3=some (.ref (σh.length+1)):=by rw[←hρ];rfl
 have hs2:(σh++[bF.list [],bF.dict []]).length=σh.length+2:=List.length_append
 refine(cF3 H O (m:=m) (mL hn rfl) (fi:=σh.length) (si:=σh.length+1) (ci:=σh.length+2) (cA6 rfl) (y4 rfl) (gP rfl) (Nat.le_refl _) xQ ((x::l).map (aP ts)) (x::l) [] ρ0
  ((σh++[bF.list [],bF.dict []])++[bF.list ((x::l).map (aP ts)),bF.dict (dS ts (x::l))]) hl (by simp at hlen⊢;omega) nofun (fun _ h=>absurd h List.not_mem_nil) (cM.app.trans .app) r0 r2 r3 (by simp) (by simp[dS]) (by simp)) _ fun F ρ' σ' p1 p2 p3 p4 p5 p6 p7 p8 p9 p10=> ?_
 refine(fun _ k=>k F σ' ?_ ?_ p4 (by simp at p5 hlen;omega) p6 (fun u=>⟨fun h=> ?_,?_⟩))
 ·refine(congrFun (congrFun (show hG (aL m) .all_ifaces=mkF 2 (pN (aL m))from rfl) _) _).trans ?_
  unfold pN mkF
  rw[bJ e1,bJ e2]
  have e3:(dL 4 (aJ (aL m .base_chain) [(aA 0),(aA 1)]) (ALB m)) ρ0 (σh++[bF.list [],bF.dict []])=some (.next,ρ',σ'):=by
   unfold dL
   have:aJ (aL m .base_chain) [(aA 0),(aA 1)] ρ0 (σh++[bF.list [],bF.dict []])=some (.ref (σh.length+2),(σh++[bF.list [],bF.dict []])++[bF.list ((x::l).map (aP ts)),bF.dict (dS ts (x::l))]):=by
    simp only[aJ,dO,aA,r0,r1,hch,hs2]
   rw[this]
   have hg:((σh++[bF.list [],bF.dict []])++[bF.list ((x::l).map (aP ts)),bF.dict (dS ts (x::l))])[σh.length+2]? =some (bF.list ((x::l).map (aP ts))):=by simp
   simp only[fS,hg]
   exact p1
  unfold ALB at e3
  rw[bJ e3]
  simp[aC,aW,aA,p2 2 (by decide),r2]
 ·exact p3.ext (cM.app.trans .app) (by intro i hi;simp at hi;omega)
 ·induction h with
  |refl=>exact .inl rfl
  | @step u v _ hv ih=>
   have inl:∀c∈x::l,u=bS c→v=bS x∨v∈l∨v∈F:=by
    rintro c hc rfl
    rcases List.mem_append.mp hv with hv |hv
    ·have hb:base W (bS c)=some v:=by
      induction q:base W (bS c)using Option.casesOn with
      |none=>rw[q]at hv;exact absurd hv List.not_mem_nil
      |some w=>rw[q]at hv;simp at hv;rw[hv]
     rcases List.mem_cons.mp (C.next c hc v hb)with rfl |h
     · -- the next is the first:then it is plain
      have hcw:wf (bS c)=true:=by
       obtain⟨_,h2,_⟩:=hl c hc
       rcases h2 with h |⟨e,rfl,h⟩
       ·rw[dJ h];exact h
       ·rw[eZ];exact h
      have hvw:wf v=true:=(H.steps _ (hl c hc).2.2 hcw v (List.mem_append_left _ hv)).2
      exact .inl (dJ hvw).symm
     ·exact .inr (.inl h)
    ·exact .inr (.inr (p9 c hc v hv))
   rcases ih with h |h |h
   ·exact inl x (.head _) h
   ·exact inl u (.tail _ h) (dJ (hw u h)).symm
   ·obtain⟨_,_,h1,h2⟩:=p6 u h
    rcases List.mem_append.mp hv with hv |hv
    ·rw[xX h1 h2]at hv;exact absurd hv List.not_mem_nil
    ·exact .inr (.inr (p7 u h v hv))
 ·rintro(rfl |h |h)
  ·exact .refl
  ·exact C.rch hw u h
  ·rcases p10 u h with h |⟨c,hc,z,hz,hu⟩
   ·cases h
   ·refine hu.rch ?_
    rcases List.mem_cons.mp hc with rfl |hc
    ·exact hH.refl.step (List.mem_append_right _ hz)
    ·rw[dJ (hw c hc)]at hz
     exact(C.rch hw c hc).step (List.mem_append_right _ hz)
end
end
section
set_option genInjectivity false in
structure Bk where
 b:Nat
 d:Nat
 p:Nat
 l:Nat
 q:Nat
noncomputable def jF (ts:List V) (p:V×V):V:= .tup [aP ts p.1,aP ts p.2]
noncomputable def mJ (ts:List V) (l:List (V×V)):List (V×V):=l.map fun p=>(jF ts p,.int 1)
noncomputable def TP (ts:List V) (p:V×V):Prop:=p.1∈ts∧lZ p.1∧bS p.1∈ts∧p.2∈ts∧wf p.2=true∧aS p.2=false∧hK p.1=true
structure dE(bk:Bk)(ts:List V)(U:List (V×V))(σ:aD)(Lp Q:List (V×V)):Prop where
 b:σ[bk.b]? =some (.inst .book bk.d)
 d:σ[bk.d]? =some (.ns [("strict",.int 0),("pairs",.ref bk.p),("listed",.ref bk.l),("proved",.ref bk.q)])
 p:σ[bk.p]? =some (.list (Lp.map (jF ts)))
 l:σ[bk.l]? =some (.dict (mJ ts Lp))
 q:σ[bk.q]? =some (.dict (mJ ts Q))
 ne:bk.p≠bk.b∧bk.p≠bk.d∧bk.p≠bk.l∧bk.p≠bk.q∧bk.l≠bk.b∧bk.l≠bk.d∧bk.l≠bk.q∧bk.q≠bk.b∧bk.q≠bk.d
 tp:∀p∈Lp,TP ts p
 sub:∀p∈Lp,p∈U
 nd:Lp.Nodup
 qs:∀p∈Q,p∈Lp
 qn:Q.Nodup
noncomputable def PO (L Q:List (V×V)) (s t:V):Prop:=gR s t∨(s,t)∉L∨(s,t)∈Q∨aQ s= -2
noncomputable def iA (bk:Bk) (ts:List V) (U:List (V×V)) (σ:aD) (Lp Q:List (V×V)) (σ':aD) (Lp':List (V×V)):Prop:=dE bk ts U σ' Lp' Q∧cA [bk.p,bk.l] σ σ'∧Lp<+:Lp'
theorem PO.less{L L' Q:List (V×V)}{s t:V}(h:∀p∈L,p∈L'):¬PO L Q s t→¬PO L' Q s t:=fun n q=>n (q.imp id fun q=>q.imp (fun k m=>k (h _ m)) id)
theorem gY{α:Type}:∀{l U:List α},l.Nodup→(∀x∈l,x∈U)→l.length≤U.length
 |[],_,_,_=>Nat.zero_le _
 |a::l,U,nd,h=>by
  rw[List.nodup_cons]at nd
  obtain⟨s,t,rfl⟩:=List.append_of_mem (h a (.head _))
  have:=gY (U:=s++t) nd.2 fun x hx=>by
   have h1:=h x (.tail _ hx)
   have h2:x≠a:=fun e=>nd.1 (e▸hx)
   simp only[List.mem_append,List.mem_cons]at h1⊢
   rcases h1 with h1 |h1 |h1
   ·exact .inl h1
   ·exact absurd h1 h2
   ·exact .inr h1
  simp at this⊢;omega
theorem yZ{ts:List V}{p q:V×V}(hp:p.1∈ts∧p.2∈ts)(hq:q.1∈ts∧q.2∈ts)(h:jF ts p=jF ts q):p=q:=by
 simp only[jF,V.tup.injEq,List.cons.injEq,V.int.injEq,and_true]at h
 exact Prod.ext (gF hp.1 hq.1 (nIi h.1)) (gF hp.2 hq.2 (nIi h.2))
theorem dQ7{ts:List V}{p q:V×V}(hp:p.1∈ts∧p.2∈ts)(hq:q.1∈ts∧q.2∈ts)[Decidable (p=q)]:V.beq (jF ts p) (jF ts q)=decide (p=q):=by
 by_cases e:p=q
 ·subst e;rw[V.beq_self];simp
 ·rw[V.beq_ne fun h=>e (yZ hp hq h)];simp[e]
theorem mZ(ts:List V)(p:V×V):(jF ts p).kind=2:=by
 have:V.isKeyTup (jF ts p)=true:=rfl
 unfold jF at this⊢
 exact rfl
theorem o8(ts:List V)(l:List (V×V)):f9 (mJ ts l):=by
 intro e he
 obtain⟨p,_,rfl⟩:=List.mem_map.mp he
 exact mZ ts p
theorem m0{ts:List V}{p:V×V}(hp:p.1∈ts∧p.2∈ts):∀{l:List (V×V)},(∀q∈l,q.1∈ts∧q.2∈ts)→((p∈l→bW (mJ ts l) (jF ts p)=some (.int 1))∧(p∉l→bW (mJ ts l) (jF ts p)=none))
 |[],_=>⟨fun h=>(by cases h),fun _=>rfl⟩
 |q::l,h=>by
  have ih:=m0 hp fun r hr=>h r (.tail _ hr)
  unfold mJ at ih⊢
  rw[List.map_cons,bW]
  by_cases e:q=p
  ·subst e
   rw[V.beq_self]
   exact⟨fun _=>rfl,fun n=>absurd (.head _) n⟩
  ·rw[V.beq_ne fun k=>e (yZ (h q (.head _)) hp k)]
   exact⟨fun m=>ih.1 ((List.mem_cons.mp m).resolve_left fun k=>e k.symm),fun n=>ih.2 fun m=>n (.tail _ m)⟩
theorem y3{ts:List V}{p:V×V}(hp:p.1∈ts∧p.2∈ts):∀{l:List (V×V)},(∀q∈l,q.1∈ts∧q.2∈ts)→p∉l→dG (mJ ts l) (jF ts p) (.int 1)=mJ ts (l++[p])
 |[],_,_=>rfl
 |q::l,h,n=>by
  have ih:=y3 hp (fun r hr=>h r (.tail _ hr)) fun m=>n (.tail _ m)
  have e:q≠p:=fun e=>n (by rw[e];exact .head _)
  unfold mJ at ih⊢
  rw[List.map_cons,dG,V.beq_ne fun k=>e (yZ (h q (.head _)) hp k),ih]
  rfl
section
variable {σh:aD}{L:Ly}{W:Wd}{ts:List V}{bk:Bk}{U Lp Q:List (V×V)}{σ:aD}
theorem dE.two(B:dE bk ts U σ Lp Q):∀p∈Lp,p.1∈ts∧p.2∈ts:=fun p hp=>⟨(B.tp p hp).1,(B.tp p hp).2.2.2.1⟩
theorem dE.two'(B:dE bk ts U σ Lp Q):∀p∈Q,p.1∈ts∧p.2∈ts:=fun p hp=>B.two p (B.qs p hp)
theorem dE.fields(B:dE bk ts U σ Lp Q):cS σ bk.b=some (.book,bk.d,[("strict",.int 0),("pairs",.ref bk.p),("listed",.ref bk.l),("proved",.ref bk.q)]):=by simp[cS,B.b,B.d]
theorem dE.a_pairs(B:dE bk ts U σ Lp Q){o:EM}{ρ:Env}(h:o ρ σ=some (.ref bk.b,σ)):aR o "pairs" ρ σ=some (.ref bk.p,σ):=eR h B.fields (cY rfl f0)
theorem dE.a_listed(B:dE bk ts U σ Lp Q){o:EM}{ρ:Env}(h:o ρ σ=some (.ref bk.b,σ)):aR o "listed" ρ σ=some (.ref bk.l,σ):=eR h B.fields (cY rfl (cY rfl f0))
theorem dE.a_proved(B:dE bk ts U σ Lp Q){o:EM}{ρ:Env}(h:o ρ σ=some (.ref bk.b,σ)):aR o "proved" ρ σ=some (.ref bk.q,σ):=eR h B.fields (cY rfl (cY rfl (cY rfl f0)))
theorem dE.kp{σ':aD}(B:dE bk ts U σ Lp Q)(E:cM σ σ'):dE bk ts U σ' Lp Q:=
 ⟨E _ _ B.b,E _ _ B.d,E _ _ B.p,E _ _ B.l,E _ _ B.q,B.ne,B.tp,B.sub,B.nd,B.qs,B.qn⟩
theorem iA.refl(B:dE bk ts U σ Lp Q):iA bk ts U σ Lp Q σ Lp:=⟨B,.refl,List.prefix_rfl⟩
theorem iA.trans{σ' σ'':aD}{L' L'':List (V×V)}(h:iA bk ts U σ Lp Q σ' L')(k:iA bk ts U σ' L' Q σ'' L''):iA bk ts U σ Lp Q σ'' L'':=⟨k.1,h.2.1.trans k.2.1,h.2.2.trans k.2.2⟩
theorem sW{x:V}(h:lZ x):x≠tP 14∧x≠tP 0:=by
 rcases h with h |⟨e,rfl,h⟩
 ·rcases cR h with⟨n,rfl,h1,h2⟩ |⟨hh,args,rfl,h0,_⟩
  ·constructor<;>simp<;>(first |exact iNr h2 rfl |exact iNq h1 rfl)
  ·constructor<;>(simp;intro h;exact absurd h h0)
 ·constructor<;>exact nofun
theorem gU{x:V}(h:wf x=true):hK x= !aS x:=by
 rcases cR h with⟨n,rfl,h1,h2⟩ |⟨hh,args,rfl,h0,ha,_⟩
 ·exact eq_of_beq (kK (fun n=>hK (tP n)== !aS (tP n)) rfl h1 h2)
 ·rw[hK,mX h0 ha,rJ h0,if_neg (show ¬aQ (tm hh args)=0 from h0)]
  exact eq_of_beq (fI (fun h=>(!decide (dY h=3))== !sZ h) rfl ha)
noncomputable def cY8 (L:Ly) (ts:List V) (bk:Bk) (U:List (V×V)) (Lp:List (V×V)) (Q:List (V×V)) (σ:aD) (s:V) (t:V) (n:Nat) (f:FM):Prop:=∀G:Prop,(∀(r:Bool),∀(Lp':List (V×V)),∀(σ':aD),(f [.ref L.ho,aP ts s,aP ts t,.ref bk.b] σ=some (.bool r,σ'))→(iA bk ts U σ Lp Q σ' Lp')→((r=true↔Book.PR Q s t))→((¬gR s t→(s,t)∈Lp'))→G)→G
theorem dE.list(B:dE bk ts U σ Lp Q){p:V×V}(T:TP ts p)(hin:p∈U)(e3:p∉Lp):dE bk ts U ((σ.set bk.l (.dict (mJ ts (Lp++[p])))).set bk.p (.list (Lp.map (jF ts)++[jF ts p]))) (Lp++[p]) Q:=by
 obtain⟨n1,n2,n3,n4,n5,n6,n7,n8,n9⟩:=B.ne
 refine⟨(a9 n1).trans ((a9 n5).trans B.b),(a9 n2).trans ((a9 n6).trans B.d),?_,(a9 n3).trans (cO B.l),(a9 n4).trans ((a9 n7).trans B.q),B.ne,fun q hq=> ?_,fun q hq=> ?_,List.nodup_append.mpr ⟨B.nd,List.nodup_cons.mpr ⟨List.not_mem_nil,List.nodup_nil⟩,fun a ha b hb e=>e3 ?_⟩,fun q hq=>List.mem_append_left _ (B.qs q hq),B.qn⟩
 ·rw[List.map_append];exact cO ((a9 (Ne.symm n3)).trans B.p)
 ·rcases List.mem_append.mp hq with hq |hq
  ·exact B.tp q hq
  ·rw[List.mem_singleton.mp hq];exact T
 ·rcases List.mem_append.mp hq with hq |hq
  ·exact B.sub q hq
  ·rw[List.mem_singleton.mp hq];exact hin
 ·rw[←List.mem_singleton.mp hb,←e];exact ha
theorem cY9(H:bT σh L W ts)(hE:cM σh σ)(B:dE bk ts U σ Lp Q)(hU:U.length≤400){s t:V}(T:TP ts (s,t))(hm:¬gR s t→(s,t)∈U){n:Nat}(hn:5≤n):
  cY8 L ts bk U Lp Q σ s t n (aL n .assign_within):=by
 obtain⟨m,rfl⟩:=jY hn rfl
 have T':=T
 obtain⟨t1,t2,t3,t4,t5,t6,t7⟩:s∈ts∧lZ s∧bS s∈ts∧t∈ts∧wf t=true∧aS t=false∧hK s=true:=T
 by_cases e1:s=t
 ·exact(fun _ k=>k true Lp σ (cL (bH hn rfl) (fun _=>rfl) rfl (cU (lR (aH rfl) (aH rfl) (by rw[e1])) rfl (bA rfl))) (.refl B) ⟨fun _=> .inl (.inl e1),fun _=>rfl⟩ (fun h=>absurd (.inl e1) h))
 have HE:=H.ext hE
 have hrs:=fG HE.tab (bG t1) (n:=m) (bH hn rfl)
 have hrt:=fG HE.tab (bG t4) (n:=m) (bH hn rfl)
 have hkt:=d9 HE.tab (bG t4) (n:=m) (bH hn rfl)
 rw[t7]at hrs
 rw[gU t5,t6]at hrt
 have e1':¬((eF ts s:Nat):Int)=(eF ts t:Nat):=fun h=>e1 (gF t1 t4 (Int.ofNat.inj h))
 have ixn:∀{i:Nat},i<16→∀{y:V},y∈ts→y≠tP i→¬((eF ts y:Nat):Int)=i:=fun {i} hi {y} hy hn h=>by
  have h14:=H.tab.prim i hi
  have:=bG hy
  rw[Int.ofNat.inj h,h14]at this
  (refine cT this fun p=> ?_;clear this;subst p);exact hn rfl
 have pre:∀{v:V} {σ':aD},fN _ (aZ (fun i=>[V.ref L.ho,aP ts s,aP ts t,.ref bk.b][i]?) 4 (.ref L.kt)) σ v σ'→aL (m+1) .assign_within [.ref L.ho,aP ts s,aP ts t,.ref bk.b] σ=some (v,σ'):=fun h=>
  cL (bH hn rfl) (fun _=>rfl) rfl (bN (bQ (aH rfl) (aH rfl)) (decide_eq_false e1') (cQ (HE.a_kt rfl) (bN (dW (jK (bV (aO (eE rfl rfl) hrs) rfl)) (jK (bV (aO (eE rfl rfl) hrt) rfl))) rfl
   (bN (bQ (aH rfl) rfl) (decide_eq_false (ixn (i:=14) (by decide) t1 (sW t2).1)) (bN (dW (bQ (aH rfl) rfl) (bQ (aO (eE rfl rfl) hkt) rfl)) (Bool.or_eq_false_iff.mpr ⟨decide_eq_false (ixn (i:=14) (by decide) t4 (sW (.inl t5)).1),decide_eq_false (rE t5)⟩) h)))))
 clear hrs hrt hkt
 by_cases e2:t=eQ
 ·exact(fun _ k=>k true Lp σ (pre (cU (lR (aH rfl) rfl (by rw[e2,H.tab.ix12];rfl)) rfl (bA rfl))) (.refl B) ⟨fun _=> .inl (.inr e2),fun _=>rfl⟩ (fun h=>absurd (.inr e2) h))
 have n12:=ixn (i:=12) (by decide) t4 e2
 have nT:¬gR s t:=fun h=>h.elim e1 e2
 have hlk:=m0 (p:=(s,t)) ⟨t1,t4⟩ B.two
 have hqk:=m0 (p:=(s,t)) ⟨t1,t4⟩ B.two'
 have hkL:=eX (o8 ts Lp) (mZ ts (s,t))
 have hkQ:=eX (o8 ts Q) (mZ ts (s,t))
 by_cases e3:(s,t)∈Lp
 ·by_cases e4:(s,t)∈Q
  ·exact(fun _ k=>k true Lp σ (pre (bN (bQ (aH rfl) rfl) (decide_eq_false n12) (bN (p:=false) (wX (mC (x:=some (.int 1)) (fK (eE rfl rfl)) (B.a_listed (aH rfl)) B.l hkL (hlk.1 e3))) rfl (bA (eH (z7 (fK (eE rfl rfl)) (B.a_proved (aH rfl)) B.q hkQ (hqk.1 e4))))))) (.refl B) ⟨fun _=> .inr e4,fun _=>rfl⟩ (fun _=>e3))
  ·exact(fun _ k=>k false Lp σ (pre (bN (bQ (aH rfl) rfl) (decide_eq_false n12) (bN (p:=false) (wX (mC (x:=some (.int 1)) (fK (eE rfl rfl)) (B.a_listed (aH rfl)) B.l hkL (hlk.1 e3))) rfl (bA (eH (z7 (fK (eE rfl rfl)) (B.a_proved (aH rfl)) B.q hkQ (hqk.2 e4))))))) (.refl B) ⟨fun h=>(by exact c7 h),fun h=>(h.elim (absurd · nT) (absurd · e4))⟩ (fun _=>e3))
 ·have e4:(s,t)∉Q:=fun h=>e3 (B.qs _ h)
  have hlen:Lp.length≤400:=Nat.le_trans (gY B.nd B.sub) hU
  have hpd:(mJ ts Lp).length≤100000:=by rw[mJ,List.length_map];exact d0 hlen rfl
  have hpp:(Lp.map (jF ts)).length≤100000:=by rw[List.length_map];exact d0 hlen rfl
  have hp5:((Lp.map (jF ts)).length:Int)<512:=by rw[List.length_map];exact nIx hlen rfl
  obtain⟨n1,n2,n3,n4,n5,n6,n7,n8,n9⟩:=B.ne
  have f1:(σ.set bk.l (.dict (mJ ts (Lp++[(s,t)]))))[bk.p]? =some (.list (Lp.map (jF ts))):=(a9 (Ne.symm n3)).trans B.p
  have B':=B.list T' (hm nT) e3
  have Bs:cS (σ.set bk.l (.dict (mJ ts (Lp++[(s,t)])))) bk.b=some (.book,bk.d,[("strict",.int 0),("pairs",.ref bk.p),("listed",.ref bk.l),("proved",.ref bk.q)]):=by
   simp only[cS,a9 n5,a9 n6,B.b,B.d]
  have hs:=aH1 (e:=aB 1) (o:=aR (aA 3) "listed") (a:=aE [(aA 1),(aA 2)]) (ρ:=aZ (fun i=>[V.ref L.ho,aP ts s,aP ts t,.ref bk.b][i]?) 4 (.ref L.kt)) (u:=jF ts (s,t)) rfl (B.a_listed (aH rfl)) (fK (eE rfl rfl)) B.l (by rw[hkL,decide_eq_true hpd];rfl)
  rw[y3 (p:=(s,t)) ⟨t1,t4⟩ B.two e3]at hs
  exact(fun _ k=>k false (Lp++[(s,t)]) _ (pre (bN (bQ (aH rfl) rfl) (decide_eq_false n12) (fZ (oI (aF0 (mC (x:=none) (fK (eE rfl rfl)) (B.a_listed (aH rfl)) B.l hkL (hlk.2 e3)) (cV (q:= .lt) (uW (B.a_pairs (aH rfl)) B.p hpp) rfl rfl)) (decide_eq_true hp5) (bI hs (bI (s9 (eR (aH rfl) Bs (cY rfl f0)) (fK (eE rfl rfl)) f1 hpp) rfl)))
   (bA (eH (z7 (fK (eE rfl rfl)) (B'.a_proved (aH rfl)) B'.q hkQ (hqk.2 e4))))))) ⟨B',(cA.set (.tail _ (.head _))).trans (cA.set (.head _)),List.prefix_append _ _⟩ ⟨fun h=>(by exact c7 h),fun h=>(h.elim (absurd · nT) (absurd · e4))⟩ (fun _=>List.mem_append_right _ (.head _)))
end
end
section
noncomputable def rF (W:Wd) (h:Int):List Int:=if h=69 then [W.w69]else if h=70 then(if W.wb=0 then [W.wa]else [W.wa,W.wb])else if h=71 then [W.w71]else []
noncomputable def wv (W:Wd) (h:Int) (i:Nat):Int:=(rF W h).getD i 0
noncomputable def jT (w:Nat→Int):Nat→List V→List V→Option (List (V×V))
 |i,u::us,t::ts=>if V.beq u t then jT w (i+1) us ts else
   let p:=if w i=2 then(t,u)else(u,t)
   if w i=0∨aS p.1∨aS p.2 then none else(jT w (i+1) us ts).map (p:: ·)
 |_,_,_=>some []
section
variable {σh:aD}{L:Ly}{W:Wd}{ts:List V}{bk:Bk}{U Lp Q:List (V×V)}{σ:aD}
theorem bB6(H:bT σh L W ts)(h:Int){n:Nat}(hn:3≤n):aL n .KH_variance [.ref L.ho,.int h] σh=some (.tup ((rF W h).map .int),σh):=by
 have hv:=H.hv
 have hd:(bW (lM W) (.int h)).getD (.tup [])= .tup ((rF W h).map .int):=by
  unfold rF
  by_cases h1:h=69
  ·subst h1;exact rfl
  ·by_cases h2:h=70
   ·subst h2
    show V.tup (if W.wb=0 then [.int W.wa]else [.int W.wa,.int W.wb])= .tup ((if W.wb=0 then [W.wa]else [W.wa,W.wb]).map .int)
    by_cases q:W.wb=0
    ·rw[if_pos q,if_pos q];rfl
    ·rw[if_neg q,if_neg q];rfl
   ·by_cases h3:h=71
    ·subst h3;exact rfl
    ·have a:¬69=h:=fun e=>h1 e.symm
     have b:¬70=h:=fun e=>h2 e.symm
     have c:¬71=h:=fun e=>h3 e.symm
     have hl:bW (lM W) (.int h)=none:=(if_neg fun e=>a (of_decide_eq_true e)).trans ((if_neg fun e=>b (of_decide_eq_true e)).trans (if_neg fun e=>c (of_decide_eq_true e)))
     rw[hl,if_neg h1,if_neg h2,if_neg h3];rfl
 exact iM hn rfl (fun _=>rfl) rfl fun m hm=>bA (qQ (eR (aH rfl) H.fields rfl) (by simp only[iE,hv]) (aH rfl) rfl (by simp only[mN,hv,fU (bI9 W),if_true,hd]))
theorem cX0{a b:EM}{ρ:Env}{σ1:aD}(h:a ρ σ=some (.bool true,σ1)):mV a b ρ σ=some (.bool true,σ1):=by simp only[mV,h,e0]
theorem dN9{a b:EM}{ρ:Env}{σ1:aD}{r:Option (V×aD)}(h:a ρ σ=some (.bool false,σ1))(k:b ρ σ1=r):mV a b ρ σ=r:=by simp only[mV,h,e0];exact k
theorem wZ{a b:EM}{ρ:Env}{σ1:aD}(h:a ρ σ=some (.bool false,σ1)):gZ a b ρ σ=some (.bool false,σ1):=by simp only[gZ,h,e0]
theorem uX{a b:EM}{ρ:Env}{σ1:aD}{r:Option (V×aD)}(h:a ρ σ=some (.bool true,σ1))(k:b ρ σ1=r):gZ a b ρ σ=r:=by simp only[gZ,h,e0];exact k
theorem aI0(H:bT σh L W ts){x:V}(hx:x∈ts){n:Nat}(hn:5≤n):aL n .stands_for_ref [.ref L.ho,aP ts x] σh=some (.bool (hK x),σh):=by
 refine f8 hn rfl fun m hm=>fR rfl ?_
 have h:=fG H.tab (bG hx) (n:=m) (bH hm rfl)
 have v:=jN H.tab (bG hx) (n:=m) (bH hm rfl)
 cases r:hK x<;>rw[r]at h
 ·exact bA (dN9 (aO (aU (H.a_kt rfl) rfl) h) (wZ (aO (aU (H.a_kt rfl) rfl) v)))
 ·exact bA (cX0 (aO (aU (H.a_kt rfl) rfl) h))
theorem nE{x:V}(h:wf x=true):aQ x≠ -2:=fun e=>by
 rcases cR h with⟨n,rfl,_⟩ |⟨hh,args,rfl,h0,ha,_⟩
 ·simp[aQ]at e
 ·simp only[aQ]at e;subst e;exact c7 ha
noncomputable def bL6 (L:Ly) (ts:List V) (bk:Bk) (U Lp Q:List (V×V)) (σ:aD) (s t:V) (r0:Option (V×aD)):Prop:=∀G:Prop,(∀(r:Bool),∀(Lp':List (V×V)),∀(σ':aD),∀(h:r0=some (.bool r,σ')),∀(P:iA bk ts U σ Lp Q σ' Lp'),∀(k:r=true↔aS s=false∧aS t=false∧Book.PQ Q s t),∀(l:aS s=false→aS t=false→¬gR s t→(s,t)∈Lp'),G)→G
theorem aW4(H:bT σh L W ts)(hE:cM σh σ)(B:dE bk ts U σ Lp Q)(hU:U.length≤400){s t:V}(hs:s∈ts)(ws:wf s=true)(ht:t∈ts)(wt:wf t=true)
  (hm:aS s=false→aS t=false→¬gR s t→(s,t)∈U) {n:Nat} (hn:6≤n):bL6 L ts bk U Lp Q σ s t (aL n .inner_within [.ref L.ho,aP ts s,aP ts t,.ref bk.b] σ):=by
 obtain⟨m,rfl⟩:=jY hn rfl
 have HE:=H.ext hE
 have h1:=aI0 HE hs (n:=m) (bH hn rfl)
 have h2:=jN HE.tab (bG hs) (n:=m) (bH hn rfl)
 have h3:=jN HE.tab (bG ht) (n:=m) (bH hn rfl)
 have h4:=fG HE.tab (bG ht) (n:=m) (bH hn rfl)
 rw[gU ws]at h1
 rw[gU wt]at h4
 induction v1:aS s using Bool.casesOn with
 |true=>
  rw[v1]at h1
  exact(fun _ k=>k false Lp σ (cL (bH hn rfl) (fun _=>rfl) rfl (cQ (HE.a_kt rfl) (cU (jK (bV (aO rfl h1) rfl)) rfl (bA rfl)))) (.refl B) ⟨fun h=>(by exact c7 h),fun h=>(by rw[v1]at h;cases h.1)⟩ (fun h=>by rw[v1]at h;exact kP h))
 |false=>
  rw[v1]at h1
  induction v2:aS t using Bool.casesOn with
  |true=>
   rw[v2]at h4
   exact(fun _ k=>k false Lp σ (cL (bH hn rfl) (fun _=>rfl) rfl (cQ (HE.a_kt rfl) (bN (jK (bV (aO rfl h1) rfl)) rfl (bN (bV (aO rfl h3) rfl) rfl (bA (wZ (aO rfl h4))))))) (.refl B) ⟨fun h=>(by exact c7 h),fun h=>(by rw[v2]at h;cases h.2.1)⟩ (fun _ h=>by rw[v2]at h;exact kP h))
  |false=>
   rw[v2]at h4
   refine(cY9 H hE B hU (s:=s) (t:=t) ⟨hs,.inl ws,by rw[dJ ws];exact hs,ht,wt,v2,by rw[gU ws,v1];rfl⟩ (hm v1 v2) (n:=m) (bH hn rfl)) _ fun r Lp' σ' g1 g2 g3 g4=> ?_
   exact(fun _ k=>k r Lp' σ' (cL (bH hn rfl) (fun _=>rfl) rfl (cQ (HE.a_kt rfl) (bN (jK (bV (aO rfl h1) rfl)) rfl (bN (bV (aO rfl h3) rfl) rfl (bA (uX (aO rfl h4) (aO (aU rfl (aU (mE (bV (aO rfl h2) rfl) rfl) rfl)) g1))))))) g2 (by rw[v1,v2];simp[g3,Book.PR,Book.PQ,nE ws]) (fun _ _ h=>g4 h))
theorem fC{l:List V}{i:Nat}{v:V}(h:l[i]? =some v)(hi:i<1000):gH (.tup l) (.int i) σ=some v:=by
 unfold gH
 simp only
 rw[if_pos (⟨tS,nIv hi rfl⟩),Int.toNat_natCast,h]
theorem fT{o i:EM}{ρ:Env}{x y v:V}(h1:o ρ σ=some (x,σ))(h2:i ρ σ=some (y,σ))(h3:gH x y σ=some v):aG o i ρ σ=some (v,σ):=by simp only[aG,h1,h2,h3]
theorem bK{i:Nat}{ρ:Env}{v:V}(h:ρ i=some v):aA i ρ σ=some (v,σ):=by simp only[aA,h]
theorem xG(n:Nat):fQ 0 (n:Int)=(List.range' 0 n).map fun k=>V.int (k:Nat):=by
 unfold fQ
 rw[show((n:Int)-0).toNat=n by omega,List.range_eq_range']
 congr 1
 funext k
 simp
noncomputable def VB (m:Nat):SM:=aC (a8 (aK .ne (aG (aA 6) (aA 8)) (aG (aA 7) (aA 8))) (aC (aV 9 (fF (aK .lt (aA 8) (cH (aA 5))) (aG (aA 5) (aA 8)) (aX l6))) (aC (aV 10 (fF (aK .eq (aA 9) (aX y7)) (aE [(aG (aA 7) (aA 8)),(aG (aA 6) (aA 8))]) (aE [(aG (aA 6) (aA 8)),(aG (aA 7) (aA 8))]))) (aC (a8 (dT (aK .eq (aA 9) (aX l6)) (gG (bL (aJ (aL m .inner_within) [(aA 0),(aG (aA 10) (aB 0)),(aG (aA 10) (aB 1)),(aA 3)])))) (aC (aW (b0 false)) aF) aF) aF))) aF) aF
noncomputable def cE (w:Int) (u t:V):V×V:=if w=2 then(t,u)else(u,t)
theorem bG7{w:Nat→Int}{i:Nat}{u:V}{us ts:List V}:jT w i (u::us) (u::ts)=jT w (i+1) us ts:=by rw[jT,V.beq_self];rfl
theorem yK{w:Nat→Int}{i:Nat}{u t:V}{us ts:List V}(e:u≠t):jT w i (u::us) (t::ts)=if w i=0∨aS (cE (w i) u t).1∨aS (cE (w i) u t).2 then none else(jT w (i+1) us ts).map (cE (w i) u t:: ·):=by rw[jT,V.beq_ne e];rfl
structure bH3(ρ:Env)(L:Ly)(bk:Bk)(ts:List V)(vs:List Int)(hu ht:List V):Prop where
 r0:ρ 0=some (.ref L.ho)
 r3:ρ 3=some (.ref bk.b)
 r5:ρ 5=some (.tup (vs.map .int))
 r6:ρ 6=some (.tup (hu.map (aP ts)))
 r7:ρ 7=some (.tup (ht.map (aP ts)))
inductive yN (L:Ly) (ts:List V) (bk:Bk) (U Lp Q:List (V×V)) (vs:List Int) (hu ht:List V) (σ:aD) (w:Int) (u t:V) (r:Option (Fl×Env×aD)):Prop
 |same (ρ':Env) (e:u=t) (h:r=some (.next,ρ',σ)) (E:bH3 ρ' L bk ts vs hu ht):yN L ts bk U Lp Q vs hu ht σ w u t r
 |go (ρ':Env) (σ':aD) (Lp':List (V×V)) (e:u≠t) (h:r=some (.next,ρ',σ')) (E:bH3 ρ' L bk ts vs hu ht) (P:iA bk ts U σ Lp Q σ' Lp') (k:¬(w=0∨aS (cE w u t).1∨aS (cE w u t).2)) (q:Book.PQ Q (cE w u t).1 (cE w u t).2):yN L ts bk U Lp Q vs hu ht σ w u t r
 |stop (ρ':Env) (σ':aD) (Lp':List (V×V)) (e:u≠t) (h:r=some (.ret (.bool false),ρ',σ')) (P:iA bk ts U σ Lp Q σ' Lp') (k:¬(w=0∨aS (cE w u t).1∨aS (cE w u t).2)→¬PO Lp' Q (cE w u t).1 (cE w u t).2):yN L ts bk U Lp Q vs hu ht σ w u t r
theorem cM1(H:bT σh L W ts)(hE:cM σh σ)(B:dE bk ts U σ Lp Q)(hU:U.length≤400){m:Nat}(hm:6≤m){vs:List Int}{hu ht:List V}(hvs:vs.length≤10){u t:V}(u1:u∈ts)(u2:wf u=true)(t1:t∈ts)(t2:wf t=true){i:Nat}(gu:hu[i]? =some u)(gt:ht[i]? =some t)(hi:i<1000)
  (hin:aS u=false→aS t=false→vs.getD i 0≠0→(u,t)∈U∧(t,u)∈U) {ρ:Env} (E:bH3 ρ L bk ts vs hu ht):yN L ts bk U Lp Q vs hu ht σ (vs.getD i 0) u t (VB m (aZ ρ 8 (.int (i:Nat))) σ):=by
 have s6:∀{ρ:Env},ρ 6=some (.tup (hu.map (aP ts)))→ρ 8=some (.int (i:Nat))→aG (aA 6) (aA 8) ρ σ=some (aP ts u,σ):=fun a b=>bE (aH a) (aH b) (fC (by rw[List.getElem?_map,gu];rfl) hi)
 have s7:∀{ρ:Env},ρ 7=some (.tup (ht.map (aP ts)))→ρ 8=some (.int (i:Nat))→aG (aA 7) (aA 8) ρ σ=some (aP ts t,σ):=fun a b=>bE (aH a) (aH b) (fC (by rw[List.getElem?_map,gt];rfl) hi)
 obtain⟨r0,r3,r5,r6,r7⟩:=E
 by_cases e:u=t
 ·exact .same _ e (bI (iQ (nI (s6 r6 rfl) (s7 r7 rfl)) (by rw[e,decide_eq_true rfl];rfl)) rfl) ⟨r0,r3,r5,r6,r7⟩
 have ne:¬((eF ts u:Nat):Int)=(eF ts t:Nat):=fun h=>e (gF u1 t1 (Int.ofNat.inj h))
 have hc:aK .ne (aG (aA 6) (aA 8)) (aG (aA 7) (aA 8)) (aZ ρ 8 (.int (i:Nat))) σ=some (true,σ):=(nI (s6 (ρ:=aZ ρ 8 (.int (i:Nat))) r6 rfl) (s7 r7 rfl)).trans (by rw[decide_eq_false ne];rfl)
 have e9:(fF (aK .lt (aA 8) (cH (aA 5))) (aG (aA 5) (aA 8)) (aX l6)) (aZ ρ 8 (.int (i:Nat))) σ=some (.int (vs.getD i 0),σ):=by
  have hl:jD (.tup (vs.map .int)) σ=some (vs.length:Int):=by rw[←List.length_map (f:=V.int)];exact if_pos (by rw[List.length_map];exact d0 hvs rfl)
  by_cases hv:i<vs.length
  ·exact oE (cV (q:= .lt) (aH rfl) (kG (aH r5) hl) (congrArg some (decide_eq_true (Int.ofNat_lt.mpr hv)))) (bE (aH r5) (aH rfl) (fC (by rw[List.getElem?_map,List.getElem?_eq_getElem hv,List.getD_eq_getElem?_getD,List.getElem?_eq_getElem hv];rfl) hi))
  ·have hg:vs.getD i 0=0:=by rw[List.getD_eq_getElem?_getD,List.getElem?_eq_none (Nat.le_of_not_lt hv)];rfl
   rw[hg]
   exact mE (cV (q:= .lt) (aH rfl) (kG (aH r5) hl) (congrArg some (decide_eq_false fun q=>hv (Int.ofNat_lt.mp q)))) rfl
 generalize vs.getD i 0=w at hin e9⊢
 have e10:(fF (aK .eq (aA 9) (aX y7)) (aE [(aG (aA 7) (aA 8)),(aG (aA 6) (aA 8))]) (aE [(aG (aA 6) (aA 8)),(aG (aA 7) (aA 8))])) (aZ (aZ ρ 8 (.int (i:Nat))) 9 (.int w)) σ=some (.tup [aP ts (cE w u t).1,aP ts (cE w u t).2],σ):=by
  by_cases q:w=2
  ·rw[cE,if_pos q];exact oE (lR (aH rfl) rfl q) (fK (aU (s7 r7 rfl) (aU (s6 r6 rfl) rfl)))
  ·rw[cE,if_neg q];exact mE (lS (aH rfl) rfl q) (fK (aU (s6 r6 rfl) (aU (s7 r7 rfl) rfl)))
 by_cases w0:w=0
 ·exact .stop _ σ Lp e (oL (o4 hc (bI (eM e9) (bI (eM e10) (jL (qP (lR (aH rfl) rfl w0)) (k0 rfl)))))) (.refl B) fun k=>absurd (.inl w0) k
 have p1:(cE w u t).1∈ts∧wf (cE w u t).1=true∧(cE w u t).2∈ts∧wf (cE w u t).2=true∧(aS (cE w u t).1=false→aS (cE w u t).2=false→cE w u t∈U):=by
  by_cases q:w=2
  ·rw[cE,if_pos q];exact⟨t1,t2,u1,u2,fun a b=>(hin b a w0).2⟩
  ·rw[cE,if_neg q];exact⟨u1,u2,t1,t2,fun a b=>(hin a b w0).1⟩
 obtain⟨p1,p2,p3,p4,pU⟩:=p1
 refine(aW4 H hE B hU p1 p2 p3 p4 (fun a b _=>pU a b) hm) _ fun r Lp1 σ1 g1 g2 g3 g4=> ?_
 have hT:=j6 (σ:=σ) (ρ:=aZ (aZ (aZ ρ 8 (.int (i:Nat))) 9 (.int w)) 10 (.tup [aP ts (cE w u t).1,aP ts (cE w u t).2])) (lS (a:=aA 9) (b:=aX l6) (aH rfl) rfl w0) (jK (bV (aO (f:=aL m .inner_within) (es:=[(aA 0),(aG (aA 10) (aB 0)),(aG (aA 10) (aB 1)),(aA 3)]) (aU (aH r0) (aU (bE (aH rfl) rfl rfl) (aU (bE (aH rfl) rfl rfl) (jW r3)))) g1) rfl))
 induction r using Bool.casesOn with
 |true=>
  obtain⟨x1,x2,x3⟩:=g3.mp rfl
  exact .go _ σ1 Lp1 e (bI (o4 hc (bI (eM e9) (bI (eM e10) (bI (iQ hT rfl) rfl)))) rfl) ⟨r0,r3,r5,r6,r7⟩ g2 (fun k=>k.elim w0 fun k=>k.elim (fun k=>by rw[x1]at k;exact c7 k) fun k=>by rw[x2]at k;exact c7 k) x3
 |false=>
  refine .stop _ σ1 Lp1 e (oL (o4 hc (bI (eM e9) (bI (eM e10) (jL hT (k0 rfl)))))) g2 fun k=> ?_
  have v1:aS (cE w u t).1=false:=Bool.eq_false_iff.mpr fun q=>k (.inr (.inl q))
  have v2:aS (cE w u t).2=false:=Bool.eq_false_iff.mpr fun q=>k (.inr (.inr q))
  have npq:¬Book.PQ Q (cE w u t).1 (cE w u t).2:=fun k=>by cases g3.mpr ⟨v1,v2,k⟩
  rintro(k |k |k |k)
  ·exact npq (.inl k)
  ·exact k (g4 v1 v2 fun k=>npq (.inl k))
  ·exact npq (.inr ⟨k,nE p2⟩)
  ·exact nE p2 k
inductive bH2 (ts:List V) (bk:Bk) (U Lp Q:List (V×V)) (σ:aD) (a:Option (List (V×V))) (r:Option (Fl×Env×aD)):Prop
 |yes (ρ':Env) (σ':aD) (Lp' ps:List (V×V)) (h:r=some (.next,ρ',σ')) (P:iA bk ts U σ Lp Q σ' Lp') (k:a=some ps) (l:∀q∈ps,Book.PQ Q q.1 q.2):bH2 ts bk U Lp Q σ a r
 |no (ρ':Env) (σ':aD) (Lp':List (V×V)) (h:r=some (.ret (.bool false),ρ',σ')) (P:iA bk ts U σ Lp Q σ' Lp') (k:∀ps,a=some ps→∃q∈ps,¬PO Lp' Q q.1 q.2):bH2 ts bk U Lp Q σ a r
set_option tactic.hygienic true in
theorem v6(H:bT σh L W ts)(hU:U.length≤400){m:Nat}(hm:6≤m){vs:List Int}{hu ht:List V}(hvs:vs.length≤10)(hlen:hu.length=ht.length)(hl2:hu.length≤100)(hhu:∀x∈hu,x∈ts∧wf x=true)(hht:∀x∈ht,x∈ts∧wf x=true)
  (hin:∀(i:Nat) (u t:V),hu[i]? =some u→ht[i]? =some t→aS u=false→aS t=false→vs.getD i 0≠0→(u,t)∈U∧(t,u)∈U) (all:List V):
  ∀(us:List V) (i:Nat) (ρ:Env) (σ:aD) (Lp:List (V×V)),hu.drop i=us→cM σh σ→(∀{σ':aD},cA [bk.p,bk.l] σ σ'→cM σh σ')→dE bk ts U σ Lp Q→bH3 ρ L bk ts vs hu ht→
  bH2 ts bk U Lp Q σ (jT (fun i=>vs.getD i 0) i us (ht.drop i)) (dM 8 (VB m) .fix all ((List.range' i us.length).map fun k=>V.int (k:Nat)) ρ σ)
 |[],i,ρ,σ,Lp,h1,hE,_,B,E=> .yes ρ σ Lp [] rfl (.refl B) (by unfold jT;rfl) fun q h=>by cases h
 |u::us,i,ρ,σ,Lp,h1,hE,hEx,B,E=>by
  have gu:hu[i]? =some u:=by
   have:=congrArg (fun l=>l[0]?) h1
   rwa [List.getElem?_drop]at this
  have hi:i<hu.length:=(List.getElem?_eq_some_iff.mp gu).1
  have gt:ht[i]? =some ht[i]:=List.getElem?_eq_getElem (aF5 hi hlen)
  have hdt:ht.drop i=ht[i]::ht.drop (i+1):=List.drop_eq_getElem_cons (aF5 hi hlen)
  have hdu:hu.drop (i+1)=us:=by
   have:=congrArg List.tail h1
   rw[List.tail_drop]at this
   exact this
  obtain⟨u1,u2⟩:=hhu u (List.mem_of_getElem? gu)
  obtain⟨t1,t2⟩:=hht _ (List.mem_of_getElem? gt)
  have V1:=cM1 H hE B hU hm hvs u1 u2 t1 t2 gu gt (nT3 hi hl2 rfl) (fun a b c=>hin i _ _ gu gt a b c) E
  rw[List.length_cons,List.range'_succ,List.map_cons,hdt]
  generalize ht[i]=t at*
  rcases V1 with⟨ρ1,e,h,E1⟩ |⟨ρ1,σ1,Lp1,e,h,E1,P,k,q⟩ |⟨ρ1,σ1,Lp1,e,h,P,k⟩
  ·rw[e,bG7]
   rcases v6 H hU hm hvs hlen hl2 hhu hht hin all us (i+1) ρ1 σ Lp hdu hE hEx B E1 with⟨ρ',σ',Lp',ps,a,b,c,d⟩ |⟨ρ',σ',Lp',a,b,c⟩
   ·exact .yes ρ' σ' Lp' ps (pH h a) b c d
   ·exact .no ρ' σ' Lp' (pH h a) b c
  ·rw[yK e,if_neg k]
   rcases v6 H hU hm hvs hlen hl2 hhu hht hin all us (i+1) ρ1 σ1 Lp1 hdu (hEx P.2.1) (fun k=>hEx (P.2.1.trans k)) P.1 E1 with⟨ρ',σ',Lp',ps,a,b,c,d⟩ |⟨ρ',σ',Lp',a,b,c⟩
   ·exact .yes ρ' σ' Lp' _ (pH h a) (P.trans b) (by rw[c];rfl) fun q' hq=>(List.mem_cons.mp hq).elim (fun h=>h▸q) (d q')
   ·refine .no ρ' σ' Lp' (pH h a) (P.trans b) fun ps h=> ?_
    obtain⟨ps',h1,h2⟩:=Option.map_eq_some_iff.mp h
    obtain⟨q,x,y⟩:=c ps' h1
    exact⟨q,h2▸ .tail _ x,y⟩
  ·rw[yK e]
   refine .no ρ1 σ1 Lp1 (pQ h) P fun ps h=> ?_
   split at h
   ·exact aN h
   ·rename_i hn
    obtain⟨ps',h1,h2⟩:=Option.map_eq_some_iff.mp h
    exact⟨_,h2▸ .head _,k hn⟩
end
end
section
theorem wV{W:Wd}{h:Int}(a:¬h=69)(b:¬h=70)(c:¬h=71):kB W h=none:=(if_neg a).trans ((if_neg b).trans (if_neg c))
theorem wU{W:Wd}{h:Int}{ws:List Int}(e:kB W h=some ws):h=69∨h=70∨h=71:=by
 by_cases a:h=69
 ·exact .inl a
 ·by_cases b:h=70
  ·exact .inr (.inl b)
  ·by_cases c:h=71
   ·exact .inr (.inr c)
   ·exact aN ((wV a b c).symm.trans e)
theorem kS{W:Wd}{u t:V}{ps:List (V×V)}(h:iL W u t=some ps):aQ u=aQ t∧(aQ u=69∨aQ u=70∨aQ u=71):=by
 by_cases e:aQ u=aQ t
 ·refine⟨e,?_⟩
  have h:(kB W (aQ u)).bind (fun ws=>j9 ws (bY u) (bY t))=some ps:=(if_pos e).symm.trans h
  obtain⟨ws,q,_⟩:=Option.bind_eq_some_iff.mp h
  exact wU q
 ·exact aN ((if_neg e).symm.trans h)
theorem o5{u:V}(h:bM u=2):eN u=aQ u:=by
 rcases eL u with⟨_,q⟩ |⟨_,q⟩ |⟨_,q⟩ |⟨_,_,_,_,q⟩ |⟨h0,h1,h2,_,q⟩
 ·rw[h]at q;cases q
 ·rw[h]at q;cases q
 ·rw[h]at q;cases q
 ·rw[h]at q;cases q
 ·simp[eN,h0,h1,h2]
theorem zA{u:V}(h:aQ u=69∨aQ u=70∨aQ u=71):aS u=false:=by
 unfold aS
 rcases h with h |h |h<;>rw[h]<;>rfl
theorem tD{u:V}(h:aQ u=69∨aQ u=70∨aQ u=71):bM u=2∧eN u=aQ u:=by
 have n:∀{k:Int},k≠69→k≠70→k≠71→¬aQ u=k:=fun a b c e=>by
  rw[e]at h;exact h.elim a fun h=>h.elim b c
 have hs:bM u=2:=(if_neg (n (by decide) (by decide) (by decide))).trans ((if_neg (n (by decide) (by decide) (by decide))).trans ((if_neg (n (by decide) (by decide) (by decide))).trans (if_neg (Bool.eq_false_iff.mp (zA h)))))
 exact⟨hs,o5 hs⟩
theorem aY6:∀(i:Nat) (us ts:List V) (w:Nat→Int),(∀i,w i=0)→us≠ts→us.length=ts.length→jT w i us ts=none
 |i,[],[],w,hw,hn,hl=>absurd rfl hn
 |i,u::us,[],w,hw,hn,hl=>by injection hl
 |i,[],t::ts,w,hw,hn,hl=>by injection hl
 |i,u::us,t::ts,w,hw,hn,hl=>by
  unfold jT
  by_cases e:u=t
  ·subst e
   rw[V.beq_self]
   simp only[if_true]
   exact aY6 (i+1) us ts w hw (fun q=>hn (by rw[q])) (by simpa using hl)
  ·simp[V.beq_ne e,hw i]
theorem y6{α:Type}{l:List α}(h:l.length=1):∃a,l=[a]:=by
 match l,h with
 |[a],_=>exact⟨a,rfl⟩
theorem dA8{α:Type}{l:List α}(h:l.length=2):∃a b,l=[a,b]:=by
 match l,h with
 |[a,b],_=>exact⟨a,b,rfl⟩
theorem bD4{W:Wd}{u t:V}(hu:wf u=true)(ht:wf t=true)(su:bM u=2)(he:aQ u=aQ t)(hn:u≠t):(bY u).length=(bY t).length∧iL W u t=jT (wv W (aQ u)) 0 (bY u) (bY t)∧(bY u).length≤2:=by
 rcases cR hu with⟨n,rfl,h1,h2⟩ |⟨hh,args,rfl,h0,ha,_,_⟩
 ·exact absurd (show(1:Int)=2 from su) (by decide)
 ·rcases cR ht with⟨n,rfl,h1,h2⟩ |⟨hh',args',rfl,h0',ha',_,_⟩
  ·exact absurd he h0
  ·have he:hh=hh':=he
   subst he
   have hargs:args≠args':=fun q=>hn (by rw[q])
   have h8:hh≠8:=fun e=>by rw[mX h0 ha,e]at su;cases su
   have l1:=mB ha h8
   have l2:=mB ha' h8
   have hl:args.length=args'.length∧args.length≤2:=⟨l1.trans l2.symm,l1▸of_decide_eq_true (fI (fun h=>decide (arN h≤2)) rfl ha)⟩
   refine⟨hl.1,?_,hl.2⟩
   refine(if_pos rfl).trans ?_
   show(kB W hh).bind (fun ws=>j9 ws args args')=jT (wv W hh) 0 args args'
   have z:¬(hh=69)→¬(hh=70)→¬(hh=71)→kB W hh=none∧∀i,wv W hh i=0:=fun a b c=>⟨wV a b c,fun i=>by
    show(rF W hh).getD i 0=0
    rw[show rF W hh=[]from(if_neg a).trans ((if_neg b).trans (if_neg c))];rfl⟩
   by_cases a:hh=69
   ·subst a
    obtain⟨x,rfl⟩:=y6 l1
    obtain⟨y,rfl⟩:=y6 l2
    have:wv W 69 0=W.w69:=rfl
    exact rfl
   ·by_cases b:hh=70
    ·subst b
     obtain⟨x,x2,rfl⟩:=dA8 l1
     obtain⟨y,y2,rfl⟩:=dA8 l2
     have w0:wv W 70 0=W.wa:=by
      show(if W.wb=0 then [W.wa]else [W.wa,W.wb]).getD 0 0=_
      by_cases q:W.wb=0
      ·rw[if_pos q];rfl
      ·rw[if_neg q];rfl
     have w1:wv W 70 1=W.wb:=by
      show(if W.wb=0 then [W.wa]else [W.wa,W.wb]).getD 1 0=_
      by_cases q:W.wb=0
      ·rw[if_pos q,q];rfl
      ·rw[if_neg q];rfl
     show j9 [W.wa,W.wb] _ _=_
     rw[←w0,←w1];rfl
    ·by_cases c:hh=71
     ·subst c
      obtain⟨x,rfl⟩:=y6 l1
      obtain⟨y,rfl⟩:=y6 l2
      have:wv W 71 0=W.w71:=rfl
      exact rfl
     ·obtain⟨z1,z2⟩:=z a b c
      rw[z1,aY6 0 args args' _ z2 hargs hl.1]
      rfl
section
variable {σh:aD}{L:Ly}{W:Wd}{ts:List V}{bk:Bk}{U Lp Q:List (V×V)}{σ:aD}
noncomputable def yR (W:Wd) (Q:List (V×V)) (u t:V):Prop:=u=t∨∃ps,iL W u t=some ps∧∀q∈ps,Book.PQ Q q.1 q.2
noncomputable def mS (W:Wd) (Lp Q:List (V×V)) (u t:V):Prop:=u≠t∧∀ps,iL W u t=some ps→∃q∈ps,¬PO Lp Q q.1 q.2
noncomputable def vY (W:Wd) (U:List (V×V)) (u t:V):Prop:=aQ u=aQ t→∀(i:Nat) (a c:V),(bY u)[i]? =some a→(bY t)[i]? =some c→aS a=false→aS c=false→wv W (aQ u) i≠0→(a,c)∈U∧(c,a)∈U
theorem cK3(H:bT σh L W ts){x:V}(hx:x∈ts)(hs:bM x=2):∀y∈bY x,y∈ts∧wf y=true:=by
 refine H.args x hx fun h=> ?_
 simp[bM,h]at hs
noncomputable def cP0 (L:Ly) (W:Wd) (ts:List V) (bk:Bk) (U:List (V×V)) (Lp:List (V×V)) (Q:List (V×V)) (σ:aD) (u:V) (t:V) (n:Nat) (f:FM):Prop:=∀G:Prop,(∀(r:Bool),∀(Lp':List (V×V)),∀(σ':aD),(f [.ref L.ho,aP ts u,aP ts t,.ref bk.b] σ=some (.bool r,σ'))→(iA bk ts U σ Lp Q σ' Lp')→((r=true→yR W Q u t))→((r=false→mS W Lp' Q u t))→G)→G
noncomputable def bJ0 (L:Ly) (W:Wd) (ts:List V) (bk:Bk) (u t:V):Env:=aZ (aZ (aZ (aZ (fun i=>[V.ref L.ho,aP ts u,aP ts t,.ref bk.b][i]?) 4 (.ref L.kt)) 5 (.tup ((rF W (eN u)).map .int))) 6 (.tup ((bY u).map (aP ts)))) 7 (.tup ((bY t).map (aP ts)))
theorem aW0{i k:Nat}{lo hi:EM}{b:SM}{ρ:Env}{r:Option (Fl×Env×aD)}(h:lo ρ σ=some (.int 0,σ))(g:hi ρ σ=some (.int (k:Nat),σ))(d:k≤100000)(q:dM i b .fix (fQ 0 (k:Nat)) ((List.range' 0 k).map fun j=>V.int (j:Nat)) ρ σ=r):fH i lo hi b ρ σ=r:=by
 have:(0:Int)≤0∧(0:Int)≤1000∧(0:Int)≤(k:Nat)∧((k:Nat):Int)≤100000:=⟨t9 rfl,⟨t9 rfl,⟨tS,nIw d rfl⟩⟩⟩
 rw[←xG]at q
 simp only[fH,h,g,this,and_self,if_true];exact q
theorem cH5(H:bT σh L W ts)(hE:cM σh σ)(hEx:∀{σ':aD},cA [bk.p,bk.l] σ σ'→cM σh σ')(B:dE bk ts U σ Lp Q)(hU:U.length≤400){u t:V}(hu:u∈ts)(wu:lZ u)(ht:t∈ts)(wt:wf t=true)(hin:vY W U u t){n:Nat}(hn:7≤n):
  cP0 L W ts bk U Lp Q σ u t n (aL n .var_within):=by
 obtain⟨m,rfl⟩:=jY hn rfl
 have HE:=H.ext hE
 by_cases e1:u=t
 ·exact(fun _ k=>k true Lp σ (cL (bH hn rfl) (fun _=>rfl) rfl (cU (lR (aH rfl) (aH rfl) (by rw[e1])) rfl (bA rfl))) (.refl B) (fun _=> .inl e1) (fun h=>by exact kP h))
 have e1':¬((eF ts u:Nat):Int)=(eF ts t:Nat):=fun h=>e1 (gF hu ht (Int.ofNat.inj h))
 have hku:=d9 HE.tab (bG hu) (n:=m) (bH hn rfl)
 have hkt:=d9 HE.tab (bG ht) (n:=m) (bH hn rfl)
 have htu:=o7 HE.tab (bG hu) (n:=m) (bH hn rfl)
 have htt:=o7 HE.tab (bG ht) (n:=m) (bH hn rfl)
 by_cases hc:bM u=2∧bM t=2∧eN u=eN t
 ·obtain⟨c1,c2,c3⟩:=hc
  have d1:=o5 c1
  have d2:=o5 c2
  have wu':wf u=true:=by
   rcases wu with h |⟨e,rfl,h⟩
   ·exact h
   ·cases c1
  obtain⟨l1,l2,l3⟩:=bD4 (W:=W) wu' wt c1 (by rw[←d1,←d2,c3]) e1
  have hau:=tG HE.tab (bG hu) (n:=m) (bH hn rfl)
  have hat:=tG HE.tab (bG ht) (n:=m) (bH hn rfl)
  rw[if_pos (.inl c1)]at hau
  rw[if_pos (.inl c2)]at hat
  have hva:=bB6 HE (eN u) (n:=m) (bH hn rfl)
  have hvl:(rF W (eN u)).length≤10:=by
   unfold rF
   repeat' split
   all_goals exact Nat.le_of_ble_eq_true rfl
  have hlu:((bY u).map (aP ts)).length≤100000:=by rw[List.length_map];exact d0 l3 rfl
  have hlt:((bY t).map (aP ts)).length≤100000:=by rw[List.length_map];exact dO9 l1 l3 rfl
  have gu:jD (.tup ((bY u).map (aP ts))) σ=some ((bY u).length:Nat):=(if_pos hlu).trans (by rw[List.length_map];rfl)
  have gt:jD (.tup ((bY t).map (aP ts))) σ=some ((bY t).length:Nat):=(if_pos hlt).trans (by rw[List.length_map];rfl)
  have pre:∀{v:V} {σ':aD},fN (aC (fH 8 (aB 0) (cH (aA 6)) (VB m)) (aC (aW (b0 true)) aF)) (bJ0 L W ts bk u t) σ v σ'→aL (m+1) .var_within [.ref L.ho,aP ts u,aP ts t,.ref bk.b] σ=some (v,σ'):=fun h=>
   cL (bH hn rfl) (fun _=>rfl) rfl (bN (bQ (aH rfl) (aH rfl)) (decide_eq_false e1') (cQ (HE.a_kt rfl) (bN (dW (nI (aO (eE rfl rfl) hku) rfl) (dW (nI (aO (eE rfl rfl) hkt) rfl) (nI (aO (eE rfl rfl) htu) (aO (eE rfl rfl) htt)))) (by rw[c1,c2,c3,decide_eq_true rfl,decide_eq_true rfl];rfl)
    (cQ (HE.m (.inr (.inr (.inr (.inr rfl)))) rfl (aU (aO (eE rfl rfl) htu) rfl) hva) (cQ (aO (eE rfl rfl) hau) (cQ (aO (eE rfl rfl) hat) (bN (nI (kG (aH rfl) gu) (kG (aH rfl) gt)) (by rw[l1,decide_eq_true rfl];rfl) h)))))))
  clear hku hkt htu htt hau hat hva gt
  have hgd:(fun i=>(rF W (eN u)).getD i 0)=wv W (aQ u):=by rw[d1];rfl
  have e2:iL W u t=jT (fun i=>(rF W (eN u)).getD i 0) 0 (bY u) ((bY t).drop 0):=by rw[l2,hgd];rfl
  rcases v6 H hU (m:=m) (bH hn rfl) hvl l1 (d0 l3 rfl) (cK3 H hu c1) (cK3 H ht c2) (bk:=bk) (Q:=Q) (fun i a c h1 h2 h3 h4 h5=>hin (by rw[←d1,←d2,c3]) i a c h1 h2 h3 h4 (by rw[←d1];exact h5))
   (fQ 0 ((bY u).length:Nat)) (bY u) 0 (bJ0 L W ts bk u t) σ Lp rfl hE hEx B ⟨rfl,rfl,rfl,rfl,rfl⟩with⟨ρ',σ',Lp',ps,g1,g2,g4,g5⟩ |⟨ρ',σ',Lp',g1,g2,g4⟩
  ·exact(fun _ k=>k true Lp' σ' (pre (fZ (aW0 rfl (kG (aH rfl) gu) (d0 l3 rfl) g1) (bA rfl))) g2 (fun _=> .inr ⟨ps,e2.trans g4,g5⟩) (fun h=>by exact kP h))
  ·exact(fun _ k=>k false Lp' σ' (pre (oO (aW0 rfl (kG (aH rfl) gu) (d0 l3 rfl) g1))) g2 (fun h=>(by exact c7 h)) (fun _=>⟨e1,fun ps h=>g4 ps (e2.symm.trans h)⟩))
 ·refine(fun _ k=>k false Lp σ (cL (bH hn rfl) (fun _=>rfl) rfl (bN (bQ (aH rfl) (aH rfl)) (decide_eq_false e1') (cQ (HE.a_kt rfl) (cU (dW (nI (aO (eE rfl rfl) hku) rfl) (dW (nI (aO (eE rfl rfl) hkt) rfl) (nI (aO (eE rfl rfl) htu) (aO (eE rfl rfl) htt)))) ?_ (bA rfl))))) (.refl B) (fun h=>(by exact c7 h)) (fun _=>⟨e1,fun ps h=> ?_⟩))
  ·by_cases c1:bM u=2
   ·by_cases c2:bM t=2
    ·exact Bool.or_eq_true_iff.mpr (.inr (Bool.or_eq_true_iff.mpr (.inr (by rw[decide_eq_false fun q=>hc ⟨c1,c2,q⟩];rfl))))
    ·exact Bool.or_eq_true_iff.mpr (.inr (Bool.or_eq_true_iff.mpr (.inl (by rw[decide_eq_false c2];rfl))))
   ·exact Bool.or_eq_true_iff.mpr (.inl (by rw[decide_eq_false c1];rfl))
  ·obtain⟨x1,x2⟩:=kS h
   have y1:=tD x2
   have y2:=tD (x1▸x2)
   exact absurd ⟨y1.1,y2.1,by rw[y1.2,y2.2,x1]⟩ hc
end
end
section
structure Cl(W:Wd)(U:List (V×V)):Prop where
 len:U.length≤400
 arr:∀e f,(dK e,dK f)∈U→aS e=false→aS f=false→¬gR e f→(e,f)∈U
 like:∀s t u,(s,t)∈U→hH W (bS s) u→vY W U u t
section
variable {σh:aD}{L:Ly}{W:Wd}{ts:List V}{bk:Bk}{U Lp Q:List (V×V)}{σ:aD}
theorem uZ(H:eO σh L ts){n:Int}(h1:0≤n)(h2:n<16):((eF ts (tP n):Nat):Int)=n:=by
 obtain⟨k,rfl⟩:∃k:Nat,n=k:=⟨n.toNat,nTn h1⟩
 rw[pB H.nd (H.prim k (by omega))]
theorem eO.primIn(H:eO σh L ts){k:Int}(a:0≤k)(b:k<16):tP k∈ts∧aP ts (tP k)= .int k:=by
 refine⟨?_,by show V.int _=_;rw[uZ H a b]⟩
 obtain⟨j,rfl⟩:∃j:Nat,k=j:=⟨k.toNat,nTn a⟩
 exact List.mem_of_getElem? (H.prim j (by omega))
set_option tactic.hygienic true in
theorem cP2(H:bT σh L W ts)(O:dA W){x:V}(hx:x∈ts){n:Nat}(hn:3≤n):aL n .KH_under [.ref L.ho,aP ts x] σh=some (aP ts (gM W x),σh):=by
 obtain⟨es,h1,h2,h3⟩:=H.hu
 have h3:=h3 (eF ts x) x (bG hx)
 have o1:=O.u1
 have o2:=O.u2
 have hg:(bW es (aP ts x)).getD (aP ts x)=aP ts (gM W x):=by
  rw[gM,aP]
  split at h3
  ·rename_i a;rw[if_pos a,h3,(H.tab.primIn (l9 o1.1 rfl) (xY o1.2 rfl)).2];rfl
  ·rename_i a
   rw[if_neg a]
   split at h3
   ·rename_i b;rw[if_pos b,h3,(H.tab.primIn (l9 o2.1 rfl) (xY o2.2 rfl)).2];rfl
   ·rename_i b;rw[if_neg b,h3];rfl
 exact iM hn rfl (fun _=>rfl) rfl fun m hm=>bA (qQ (H.a_unders rfl) (by simp only[iE,h1]) rfl rfl (by simp only[mN,h1,aP,fU h2,if_true];exact congrArg some hg))
noncomputable def twK (k:Int):Int:=if k=4∨k=6∨k=8∨k=10 then k-1 else k
noncomputable def twG:List (Int×Int):=[(4,3),(6,5),(8,7),(10,9)]
theorem bW0{k:Int}(h:16≤k):eU twG k=none:=by
 have a:∀j:Int,j<16→¬j=k:=fun j hj e=>by omega
 simp only[twG,eU,a 4 (by decide),a 6 (by decide),a 8 (by decide),a 10 (by decide),if_false]
theorem cQ6(H:eO σh L ts){y:V}(hy:y∈ts)(hp:aQ y=0→∃k:Int,y=tP k∧1≤k∧k≤13):(match eU twG (eF ts y:Nat)with |some r=>V.int r |none=>aP ts y)=aP ts (mF y)∧mF y∈ts:=by
 by_cases h0:aQ y=0
 ·obtain⟨k,rfl,k1,k2⟩:=hp h0
  have e:mF (tP k)=tP (twK k):=by
   show(if k=4∨k=6∨k=8∨k=10 then tP (k-1)else tP k)=_
   unfold twK
   split<;>rfl
  have key:=of_decide_eq_true (kK (fun k=>decide ((match eU twG k with |some r=>r |none=>k)=twK k∧0≤twK k∧twK k<16)) rfl k1 k2)
  obtain⟨a,b⟩:=H.primIn key.2.1 key.2.2
  rw[e,b,(H.primIn (l9 k1 rfl) (xY k2 rfl)).2,uZ H (l9 k1 rfl) (xY k2 rfl)]
  refine⟨?_,a⟩
  rw[←key.1]
  cases eU twG k<;>rfl
 ·rw[vN h0,bW0 (Int.ofNat_le.mpr ((H.prim_k (bG hy)).2 h0))]
  exact⟨rfl,hy⟩
theorem aA5(H:bT σh L W ts)(O:dA W){x:V}(hx:x∈ts)(hw:wf x=true){n:Nat}(hn:4≤n):aL n .reduced [.ref L.ho,aP ts x] σh=some (aP ts (fJ W x),σh)∧fJ W x∈ts:=by
 have o1:=O.u1
 have o2:=O.u2
 have hy:gM W x∈ts∧(aQ (gM W x)=0→∃k:Int,gM W x=tP k∧1≤k∧k≤13):=by
  unfold gM
  split
  ·exact⟨(H.tab.primIn (l9 o1.1 rfl) (xY o1.2 rfl)).1,fun _=>⟨_,rfl,l9 o1.1 rfl,iLe o1.2 rfl⟩⟩
  ·split
   ·exact⟨(H.tab.primIn (l9 o2.1 rfl) (xY o2.2 rfl)).1,fun _=>⟨_,rfl,l9 o2.1 rfl,iLe o2.2 rfl⟩⟩
   ·refine⟨hx,fun h=> ?_⟩
    rcases cR hw with⟨n,rfl,h1,h2⟩ |⟨hh,args,rfl,h0,ha,_,_⟩
    ·exact⟨n,rfl,h1,h2⟩
    ·exact absurd h h0
 obtain⟨k1,k2⟩:=cQ6 H.tab hy.1 hy.2
 exact⟨iM hn rfl (fun _=>rfl) rfl fun m hm=>cQ (H.m (.inr (.inr (.inr (.inl rfl)))) rfl rfl (cP2 H O hx (bH hm rfl))) (bA (qQ rfl rfl rfl rfl (congrArg some k1))),k2⟩
theorem dH4{a:EM}{ρ:Env}{σ1:aD}(h:a ρ σ=some (.int 0,σ1)):mO a ρ σ=some (.bool true,σ1):=by simp only[mO,h,e0];rfl
theorem dE.a_strict(B:dE bk ts U σ Lp Q){o:EM}{ρ:Env}(h:o ρ σ=some (.ref bk.b,σ)):aR o "strict" ρ σ=some (.int 0,σ):=eR h B.fields f0
noncomputable def bL8 (L:Ly) (W:Wd) (ts:List V) (bk:Bk) (U Lp Q:List (V×V)) (σ:aD) (s t:V) (r0:Option (V×aD)):Prop:=∀G:Prop,(∀(r:Bool),∀(Lp':List (V×V)),∀(σ':aD),∀(h:r0=some (.bool r,σ')),∀(P:iA bk ts U σ Lp Q σ' Lp'),∀(k:r=true↔(aS s=true∧fJ W s=fJ W t)∨(aS s=false∧aS t=false∧Book.PQ Q s t)),∀(l:aS s=false→aS t=false→¬gR s t→(s,t)∈Lp'),G)→G
theorem cP7(H:bT σh L W ts)(O:dA W)(hE:cM σh σ)(B:dE bk ts U σ Lp Q)(hU:U.length≤400){s t:V}(hs:s∈ts)(ws:wf s=true)(ht:t∈ts)(wt:wf t=true)
  (hm:aS s=false→aS t=false→¬gR s t→(s,t)∈U) {n:Nat} (hn:7≤n):bL8 L W ts bk U Lp Q σ s t (aL n .elems_within [.ref L.ho,aP ts s,aP ts t,.ref bk.b] σ):=by
 obtain⟨m,rfl⟩:=jY hn rfl
 have HE:=H.ext hE
 by_cases e1:s=t
 ·refine(fun _ k=>k true Lp σ (cL (bH hn rfl) (fun _=>rfl) rfl (cU (lR rfl rfl (by rw[e1])) rfl (bA rfl))) (.refl B) ⟨fun _=> ?_,fun _=>rfl⟩ (fun _ _ h=>absurd (.inl e1) h))
  rw[←e1]
  induction v:aS s using Bool.casesOn with
  |true=>exact .inl ⟨rfl,rfl⟩
  |false=>exact .inr ⟨rfl,rfl,.inl (.inl rfl)⟩
 have e1':¬((eF ts s:Nat):Int)=(eF ts t:Nat):=fun h=>e1 (gF hs ht (Int.ofNat.inj h))
 have hst:=aI0 HE hs (n:=m) (bH hn rfl)
 rw[gU ws]at hst
 induction v:aS s using Bool.casesOn with
 |true=>
  rw[v]at hst
  obtain⟨r1,m1⟩:=aA5 HE O hs ws (n:=m) (bH hn rfl)
  obtain⟨r2,m2⟩:=aA5 HE O ht wt (n:=m) (bH hn rfl)
  refine(fun _ k=>k (decide (((eF ts (fJ W s):Nat):Int)=(eF ts (fJ W t):Nat))) Lp σ (cL (bH hn rfl) (fun _=>rfl) rfl (bN (bQ rfl rfl) (decide_eq_false e1') (bN (bV (aO rfl hst) rfl) rfl (bA (uX (dH4 (B.a_strict rfl)) (eH (bQ (aO rfl r1) (aO rfl r2)))))))) (.refl B) ?_ (fun h=>by rw[v]at h;exact kP h))
  rw[decide_eq_true_eq]
  exact⟨fun h=> .inl ⟨v,gF m1 m2 (Int.ofNat.inj h)⟩,fun h=>h.elim (fun h=>by rw[h.2]) fun h=>by rw[v]at h;cases h.1⟩
 |false=>
  rw[v]at hst
  refine(aW4 H hE B hU hs ws ht wt hm (n:=m) (bH hn rfl)) _ fun r Lp' σ' g1 g2 g3 g4=> ?_
  exact(fun _ k=>k r Lp' σ' (cL (bH hn rfl) (fun _=>rfl) rfl (bN (bQ rfl rfl) (decide_eq_false e1') (cU (bV (aO rfl hst) rfl) rfl (bA (aO rfl g1))))) g2 (g3.trans ⟨.inr,fun h=>h.resolve_left fun q=>by rw[v]at q;cases q.1⟩) (fun _=>g4 v))
end
end
section
theorem cM.len{a b:aD}(h:cM a b):a.length≤b.length:=by
 induction q:a.length using Nat.casesOn with
 |zero=>exact Nat.zero_le _
 |succ n=>
  have:a[n]? =some a[n]:=List.getElem?_eq_getElem (nR5 q)
  have:=eV (h _ _ this)
  exact Nat.succ_le_of_lt this
theorem cM.kps{S:List Nat}{a b:aD}(h:cM a b):cA S a b:=⟨h.len,fun i o _ e=>h i o e⟩
noncomputable def CB (m:Nat):SM:=aC (a8 (dT (aK .eq (aA 5) (aA 2)) (bL (aJ (aL m .var_within) [(aA 0),(aA 5),(aA 2),(aA 3)]))) (aC (aW (b0 true)) aF) aF) aF
section
variable {σh:aD}{L:Ly}{W:Wd}{ts:List V}{bk:Bk}{U Lp Q:List (V×V)}{σ:aD}
theorem mS.less{L':List (V×V)}{u t:V}(h:∀p∈Lp,p∈L')(k:mS W Lp Q u t):mS W L' Q u t:=⟨k.1,fun ps e=>(k.2 ps e).imp fun _ q=>⟨q.1,PO.less h q.2⟩⟩
theorem tK{σ':aD}(lo:σh.length≤bk.p∧σh.length≤bk.l)(hE:cM σh σ)(K:cA [bk.p,bk.l] σ σ'):cM σh σ':=K.ext hE fun i hi=>by
 rcases List.mem_cons.mp hi with rfl |hi
 ·exact lo.1
 ·rw[List.mem_singleton.mp hi];exact lo.2
theorem cZ4{ci:Nat}(n1:ci≠bk.p)(n2:ci≠bk.l):ci∉[bk.p,bk.l]:=fun h=>(List.mem_cons.mp h).elim n1 fun h=>n2 (List.mem_singleton.mp h)
inductive aR4 (W:Wd) (ts:List V) (bk:Bk) (U Q:List (V×V)) (l:List V) (t:V) (ρ:Env) (σ:aD) (Lp:List (V×V)) (r:Option (Fl×Env×aD)):Prop
 |yes (ρ':Env) (σ':aD) (Lp':List (V×V)) (u:V) (h:r=some (.ret (.bool true),ρ',σ')) (P:iA bk ts U σ Lp Q σ' Lp') (hu:u∈l) (k:yR W Q u t):aR4 W ts bk U Q l t ρ σ Lp r
 |no (ρ':Env) (σ':aD) (Lp':List (V×V)) (h:r=some (.next,ρ',σ')) (hj:∀j,j≠5→ρ' j=ρ j) (P:iA bk ts U σ Lp Q σ' Lp') (k:∀u∈l,mS W Lp' Q u t):aR4 W ts bk U Q l t ρ σ Lp r
theorem uM(H:bT σh L W ts)(hU:U.length≤400){m:Nat}(hm:7≤m){t:V}(ht:t∈ts)(wt:wf t=true)(lo:σh.length≤bk.p∧σh.length≤bk.l){ci:Nat}(n1:ci≠bk.p)(n2:ci≠bk.l)(all:List V):
  ∀(l:List V) (ρ:Env) (σ:aD) (Lp:List (V×V)),(∀u∈l,u∈ts∧lZ u∧vY W U u t)→cM σh σ→dE bk ts U σ Lp Q→ρ 0=some (.ref L.ho)→ρ 2=some (aP ts t)→ρ 3=some (.ref bk.b)→σ[ci]? =some (.list all)→
  aR4 W ts bk U Q l t ρ σ Lp (dM 5 (CB m) (.list ci) all (l.map (aP ts)) ρ σ)
 |[],ρ,σ,Lp,_,_,B,_,_,_,_=> .no ρ σ Lp rfl (fun _ _=>rfl) (.refl B) fun u hu=>by cases hu
 |u::l,ρ,σ,Lp,hl,hE,B,r0,r2,r3,hc=>by
  obtain⟨u1,u2,u3⟩:=hl u (.head _)
  by_cases e:u=t
  ·exact .yes _ σ Lp u (pQ (jL (qP (lR (aH rfl) (aH r2) (by rw[e]))) (k0 rfl))) (.refl B) (.head _) (.inl e)
  ·have ne:¬((eF ts u:Nat):Int)=(eF ts t:Nat):=fun h=>e (gF u1 ht (Int.ofNat.inj h))
   refine(cH5 H hE (tK lo hE) B hU u1 u2 ht wt u3 hm) _ fun r Lp1 σ1 g1 g2 g3 g4=> ?_
   induction r using Bool.casesOn with
   |true=>exact .yes _ σ1 Lp1 u (pQ (jL (j6 (lS (aH rfl) (aH r2) ne) (bV (aO (z9 r0 rfl r2 r3) g1) rfl)) (k0 rfl))) g2 (.head _) (g3 rfl)
   |false=>
    have hc1:σ1[ci]? =some (.list all):=g2.2.1.2 _ _ (cZ4 n1 n2) hc
    have hj:∀j,j≠5→aZ ρ 5 (aP ts u) j=ρ j:=fun j hj=>if_neg hj
    have hb:CB m (aZ ρ 5 (aP ts u)) σ=some (.next,aZ ρ 5 (aP ts u),σ1):=bI (iQ (j6 (lS (aH rfl) (aH r2) ne) (bV (aO (z9 r0 rfl r2 r3) g1) rfl)) rfl) rfl
    rcases uM H hU hm ht wt lo n1 n2 all l (aZ ρ 5 (aP ts u)) σ1 Lp1 (fun v hv=>hl v (.tail _ hv)) (tK lo hE g2.2.1) g2.1 r0 r2 r3 hc1 with⟨ρ',σ',Lp',v,h,P,hv,k⟩ |⟨ρ',σ',Lp',h,hk,P,k⟩
    ·exact .yes ρ' σ' Lp' v (uB hb hc1 h) (g2.trans P) (.tail _ hv) k
    ·exact .no ρ' σ' Lp' (uB hb hc1 h) (fun j q=>(hk j q).trans (hj j q)) (g2.trans P) fun v hv=>(List.mem_cons.mp hv).elim (fun h=>h▸(g4 rfl).less P.2.2.subset) (k v)
theorem bT0{x:V}(h:wf x=true)(hs:bM x=4):∃e,x=dK e:=by
 rcases cR h with⟨n,rfl,_⟩ |⟨hh,args,rfl,h0,ha,_⟩
 ·simp[bM,aQ]at hs
 ·rcases eL (tm hh args)with⟨_,q⟩ |⟨q,_⟩ |⟨_,q⟩ |⟨_,_,_,_,q⟩ |⟨_,_,_,_,q⟩<;>try (rw[hs]at q;cases q)
  simp only[aQ]at q
  subst q
  simp[eI]at ha
  obtain⟨a,rfl⟩:=y6 ha
  exact⟨a,rfl⟩
noncomputable def aI4 (L:Ly) (W:Wd) (ts:List V) (bk:Bk) (U:List (V×V)) (Lp:List (V×V)) (Q:List (V×V)) (σ:aD) (s:V) (t:V) (n:Nat) (f:FM):Prop:=∀G:Prop,(∀(r:Bool),∀(Lp':List (V×V)),∀(σ':aD),(f [.ref L.ho,aP ts s,aP ts t,.ref bk.b] σ=some (.bool r,σ'))→(iA bk ts U σ Lp Q σ' Lp')→((r=true→FR W (Book.PQ Q) (bS s) t))→((r=false→¬FR W (PO Lp' Q) (bS s) t))→G)→G
theorem cA8(H:bT σh L W ts)(O:dA W)(hE:cM σh σ)(B:dE bk ts U σ Lp Q)(C:Cl W U){s t:V}(hUst:(s,t)∈U)(t1:s∈ts)(t2:lZ s)(t4:t∈ts)(t5:wf t=true)(a1:bM s=4)(a2:bM t=4){n:Nat}(hn:14≤n):
  aI4 L W ts bk U Lp Q σ s t n (aL n .assign_look):=by
 obtain⟨m,rfl⟩:=jY hn rfl
 have HE:=H.ext hE
 have hks:=d9 HE.tab (bG t1) (n:=m) (bH hn rfl)
 have hkt:=d9 HE.tab (bG t4) (n:=m) (bH hn rfl)
 have ws:wf s=true:=by
  rcases t2 with h |⟨e,rfl,h⟩
  ·exact h
  ·simp[bM,aQ]at a1
 obtain⟨e,rfl⟩:=bT0 ws a1
 obtain⟨f,rfl⟩:=bT0 t5 a2
 have he:=H.args _ t1 nofun e (.head _)
 have hf:=H.args _ t4 nofun f (.head _)
 have x1:=nP HE.tab (bG t1) (.inl rfl) (show 4≤m from mL hn rfl)
 have x2:=nP HE.tab (bG t4) (.inl rfl) (show 4≤m from mL hn rfl)
 refine(cP7 H O hE B C.len he.1 he.2 hf.1 hf.2 (fun a b c=>C.arr e f hUst a b c) (show 7≤m from mL hn rfl)) _ fun r Lp' σ' g1 g2 g3 g4=> ?_
 refine(fun _ k=>k r Lp' σ' ?_ g2 (fun h=> ?_) (fun h=> ?_))
 ·exact cL (bH hn rfl) (fun _=>rfl) rfl (cQ (HE.a_kt rfl) (cU (gT (bQ (aO rfl hks) rfl) (bQ (aO rfl hkt) rfl)) (by rw[a1,a2];rfl) (bA (aO (aU rfl (aU (aO rfl x1) (aU (aO rfl x2) rfl))) g1))))
 ·rw[dJ ws]
  exact .inl ⟨e,f,rfl,rfl,(g3.mp h)⟩
 ·rw[dJ ws]
  rintro(⟨e',f',h1,h2,h3⟩ |⟨h0,_⟩)
  ·simp at h1 h2
   subst h1 h2
   have nr:¬((aS e=true∧fJ W e=fJ W f)∨(aS e=false∧aS f=false∧Book.PQ Q e f)):=fun q=>by
    have:=g3.mpr q
    rw[h]at this;exact c7 this
   rcases h3 with h3 |⟨v1,v2,h3⟩
   ·exact nr (.inl h3)
   ·by_cases hT:gR e f
    ·exact nr (.inr ⟨v1,v2,.inl hT⟩)
    ·rcases h3 with h3 |h3 |h3 |h3
     ·exact hT h3
     ·exact h3 (g4 v1 v2 hT)
     ·exact nr (.inr ⟨v1,v2,.inr ⟨h3,nE he.2⟩⟩)
     ·exact nE he.2 h3
  ·exact h0 e f rfl rfl
theorem bN9{e t:V}(t5:wf t=true):¬yR W Q (tm (-2) [e]) t:=by
 rintro(q |⟨ps,q,_⟩)
 ·rw[←q,mQ]at t5;exact c7 t5
 ·have:=(kS q).2;simp[aQ]at this
theorem cJ5{s t u:V}(nA:∀e f,bS s=dK e→t=dK f→False)(hr:hH W (bS s) u)(hl:yR W Q u t):FR W (Book.PQ Q) (bS s) t:= .inr ⟨nA,u,hr,hl⟩
theorem wD{Lp':List (V×V)}{v t:V}(h:mS W Lp' Q v t):¬(v=t∨∃ps,iL W v t=some ps∧∀q∈ps,PO Lp' Q q.1 q.2)
 | .inl c=>h.1 c
 | .inr k=>k.elim fun ps k=>(h.2 ps k.1).elim fun q r=>r.2 (k.2 q r.1)
theorem cI4{Lp':List (V×V)}{s t:V}{l' F:List V}(nA:∀e f,bS s=dK e→t=dK f→False)(f6:∀u,hH W (bS s) u↔(u=bS s∨u∈l'∨u∈F))(hc:∀u∈s::l',mS W Lp' Q u t)(hf:∀u∈F,mS W Lp' Q u t)(hs:mS W Lp' Q (bS s) t):¬FR W (PO Lp' Q) (bS s) t:=by
 rintro(⟨e,f,h1,h2,_⟩ |⟨_,u,hr,hu⟩)
 ·exact nA e f h1 h2
 ·rcases(f6 u).mp hr with h |h |h
  ·exact wD hs (h▸hu)
  ·exact wD (hc u (.tail _ h)) hu
  ·exact wD (hf u h) hu
noncomputable def dI9 (m:Nat):SM:=(aC (dL 5 (aJ (aL m .base_chain) [(aA 0),(aA 1)]) (CB m)) (aC (a8 (bL (aJ (aL m .is_iface) [(aA 0),(aA 2)])) (aC (dL 5 (aJ (aL m .all_ifaces) [(aA 0),(aA 1)]) (CB m)) aF) aF) (aC (aW (b0 false)) aF)))
theorem cY1(H:bT σh L W ts)(O:dA W)(hE:cM σh σ)(lo:σh.length≤bk.p∧σh.length≤bk.l)(B:dE bk ts U σ Lp Q)(C:Cl W U)(hbx:∀e t,(tm (-2) [e],t)∈U→aS e=true){s t:V}(hst:(s,t)∈Lp){n:Nat}(hn:14≤n):
  aI4 L W ts bk U Lp Q σ s t n (aL n .assign_look):=by
 obtain⟨t1,t2,t3,t4,t5,t6,t7⟩:s∈ts∧lZ s∧bS s∈ts∧t∈ts∧wf t=true∧aS t=false∧hK s=true:=B.tp _ hst
 have hUst:=B.sub _ hst
 by_cases hA:bM s=4∧bM t=4
 ·exact cA8 H O hE B C hUst t1 t2 t4 t5 hA.1 hA.2 hn
 obtain⟨m,rfl⟩:=jY hn rfl
 have HE:=H.ext hE
 have hks:=d9 HE.tab (bG t1) (n:=m) (bH hn rfl)
 have hkt:=d9 HE.tab (bG t4) (n:=m) (bH hn rfl)
 have hB:bS s=s∨∃e,s=tm (-2) [e]∧aS e=true∧bS s=e:=t2.elim (fun h=> .inl (dJ h)) fun⟨e,q,h⟩=> .inr ⟨e,q,by rw[q]at hUst;exact hbx e t hUst,by rw[q];exact eZ ..⟩
 have nA:∀e f,bS s=dK e→t=dK f→False:=fun e f q1 q2=>by
  rcases hB with h |⟨e',h,h2,h3⟩
  ·exact hA ⟨by rw[←h,q1];rfl,by rw[q2];rfl⟩
  ·rw[h3]at q1;rw[q1]at h2;exact c7 h2
 refine(cJ8 HE O t1 t2 t3) _ fun l Ch c1 c2 c3 z5=> ?_
 obtain⟨l',rfl,c5⟩:=z5
 have hch:=yY HE (bG t1) Ch c3 c2 (d0 c1 rfl) (n:=m) (bH hn rfl)
 have hInU:∀u,hH W (bS s) u→vY W U u t:=fun u hu=>C.like s t u hUst hu
 have hIns:vY W U s t:=by
  rcases t2 with h |⟨e,rfl,h⟩
  ·exact hInU s (by rw[dJ h];exact .refl)
  ·exact fun he=>absurd he.symm (nE t5)
 have hcand:∀u∈s::l',u∈ts∧lZ u∧vY W U u t:=fun u hu=>⟨(c3 u hu).1,(c3 u hu).2.1,(List.mem_cons.mp hu).elim (fun h=>h▸hIns) fun h=>hInU u (Ch.rch c5 u h)⟩
 have hsF:∀{Lp':List (V×V)},(∀u∈s::l',mS W Lp' Q u t)→mS W Lp' Q (bS s) t:=fun hc=>by
  rcases hB with h |⟨e,_,hv,h⟩
  ·rw[h];exact hc s (.head _)
  ·rw[h]
   refine⟨fun q=>(by rw[q,t6]at hv;exact c7 hv),fun ps q=> ?_⟩
   exact c7 ((zA (kS q).2).symm.trans hv)
 have hsT:∀{u:V},u∈s::l'→yR W Q u t→hH W (bS s) u:=fun {u} hu hl=>by
  rcases List.mem_cons.mp hu with rfl |hu
  ·rcases hB with h |⟨e,h,_⟩
   ·rw[h];exact .refl
   ·rw[h]at hl;exact absurd hl (bN9 t5)
  ·exact Ch.rch c5 u hu
 have pre:∀{v:V} {σ':aD},fN (dI9 m) (aZ (fun i=>[V.ref L.ho,aP ts s,aP ts t,.ref bk.b][i]?) 4 (.ref L.kt)) σ v σ'→aL (m+1) .assign_look [.ref L.ho,aP ts s,aP ts t,.ref bk.b] σ=some (v,σ'):=fun h=>
  cL (bH hn rfl) (fun _=>rfl) rfl (cQ (HE.a_kt rfl) (bN (gT (bQ (aO (eE rfl rfl) hks) rfl) (bQ (aO (eE rfl rfl) hkt) rfl)) (by
   by_cases a1:bM s=4
   ·rw[decide_eq_false fun q=>hA ⟨a1,q⟩,Bool.and_false]
   ·rw[decide_eq_false a1,Bool.false_and])
   (bN (p:=false) (by
    rcases t2 with h |⟨e,rfl,h⟩
    ·exact wX (lS (aO (eE rfl rfl) hks) rfl (rE h))
    ·rw[eZ]at t3
     exact aF0 (lR (aO (eE rfl rfl) hks) rfl rfl) (bV (aO (aU (aH rfl) (aU (aO (eE rfl rfl) (nP HE.tab (bG t1) (.inr rfl) (bH hn rfl))) rfl)) (jN HE.tab (bG t3) (bH hn rfl))) rfl)) rfl h)))
 clear hks hkt
 have hlt:=eV B.p
 have hlt2:=eV B.l
 have K0:cA [bk.p,bk.l] σ (σ++[.list ((s::l').map (aP ts)),.dict (dS ts (s::l'))]):= .app
 have hget:(σ++[bF.list ((s::l').map (aP ts)),.dict (dS ts (s::l'))])[σ.length]? =some (.list ((s::l').map (aP ts))):=by rw[List.getElem?_append_right (Nat.le_refl _),Nat.sub_self];rfl
 rcases uM H C.len (m:=m) (bH hn rfl) t4 t5 lo (ci:=σ.length) (tO hlt) (tO hlt2) ((s::l').map (aP ts)) (s::l') (aZ (fun i=>[V.ref L.ho,aP ts s,aP ts t,.ref bk.b][i]?) 4 (.ref L.kt)) _ Lp hcand (hE.trans .app) (B.kp .app) rfl rfl rfl hget with⟨ρ1,σ1,Lp1,u,g1,P,hu,hl⟩ |⟨ρ1,σ1,Lp1,g1,g2,P,hnf⟩
 ·exact(fun _ k=>k true Lp1 σ1 (pre (oO (nH (aO (eE rfl rfl) hch) hget g1))) ⟨P.1,K0.trans P.2.1,P.2.2⟩ (fun _=>cJ5 nA (hsT hu hl) hl) (fun h=>by exact kP h))
 have P1:iA bk ts U σ Lp Q σ1 Lp1:=⟨P.1,K0.trans P.2.1,P.2.2⟩
 have E1:cM σh σ1:=tK lo hE P1.2.1
 have H1:=H.ext E1
 have pre2:∀{v:V} {σ':aD},fN _ ρ1 σ1 v σ'→_:=fun {v σ'} h=>pre (v:=v) (σ':=σ') (fZ (nH (aO (eE rfl rfl) hch) hget g1) h)
 clear pre hget K0 P g1 hch
 refine(cH9 H1 O (bG t1) Ch c3 c2 c1 c5 (n:=m) (bH hn rfl)) _ fun F σ2 f1 f2 f3 f4 f5 f6=> ?_
 have hif:=xD H1 (bG t4) (n:=m) (bH hn rfl)
 rw[bO7 t5]at hif
 by_cases hi:67≤aQ t∧aQ t≤70
 ·have hpl:=eV P1.1.p
  have hll:=eV P1.1.l
  rcases uM H C.len (m:=m) (bH hn rfl) t4 t5 lo (ci:=σ1.length) (tO hpl) (tO hll) (F.map (aP ts)) F ρ1 σ2 Lp1 (fun u hu=>⟨(f5 u hu).1,.inl (f5 u hu).2.1,hInU u ((f6 u).mpr (.inr (.inr hu)))⟩) (E1.trans f2) (P1.1.kp f2) (g2 0 (by decide)) (g2 2 (by decide)) (g2 3 (by decide)) f3 with⟨ρ3,σ3,Lp3,u,k1,k3,hu,hl⟩ |⟨ρ3,σ3,Lp3,k1,_,k3,hnf2⟩
  ·exact(fun _ k=>k true Lp3 σ3 (pre2 (oO (oI (bV (aO (eE (g2 0 (by decide)) (g2 2 (by decide))) hif) rfl) (decide_eq_true hi) (oL (nH (aO (eE (g2 0 (by decide)) (g2 1 (by decide))) f1) f3 k1))))) (P1.trans ⟨k3.1,f2.kps.trans k3.2.1,k3.2.2⟩) (fun _=>cJ5 nA ((f6 u).mpr (.inr (.inr hu))) hl) (fun h=>by exact kP h))
  ·have hc:=fun u hu=>(hnf u hu).less k3.2.2.subset
   exact(fun _ k=>k false Lp3 σ3 (pre2 (fZ (oI (bV (aO (eE (g2 0 (by decide)) (g2 2 (by decide))) hif) rfl) (decide_eq_true hi) (bI (nH (aO (eE (g2 0 (by decide)) (g2 1 (by decide))) f1) f3 k1) rfl)) (bA rfl))) (P1.trans ⟨k3.1,f2.kps.trans k3.2.1,k3.2.2⟩) (fun h=>(by exact c7 h)) (fun _=>cI4 nA f6 hc hnf2 (hsF hc)))
 ·refine(fun _ k=>k false Lp1 σ1 (pre2 (bN (bV (aO (eE (g2 0 (by decide)) (g2 2 (by decide))) hif) rfl) (decide_eq_false hi) (bA rfl))) P1 (fun h=>(by exact c7 h)) (fun _=>cI4 nA f6 hnf (fun u hu=>⟨fun q=> ?_,fun ps q=> ?_⟩) (hsF hnf)))
  ·exact absurd (q▸(f5 u hu).2.2) hi
  ·exact absurd ((kS q).1▸(f5 u hu).2.2) hi
noncomputable def bL5 (L:Ly) (W:Wd) (ts:List V) (bk:Bk) (U Lp Q:List (V×V)) (σ:aD) (p:V×V) (f:FM):Prop:=∀G:Prop,(∀(r:Bool),∀(Lp':List (V×V)),∀(σ':aD),(f [.ref L.ho,jF ts p,.ref bk.b] σ=some (.bool r,σ'))→(iA bk ts U σ Lp Q σ' Lp')→(r=true→FR W (Book.PQ Q) (bS p.1) p.2)→(r=false→¬FR W (PO Lp' Q) (bS p.1) p.2)→G)→G
theorem cP3(H:bT σh L W ts)(O:dA W)(hE:cM σh σ)(lo:σh.length≤bk.p∧σh.length≤bk.l)(B:dE bk ts U σ Lp Q)(C:Cl W U)(hbx:∀e t,(tm (-2) [e],t)∈U→aS e=true){p:V×V}(hst:p∈Lp){n:Nat}(hn:15≤n):
  bL5 L W ts bk U Lp Q σ p (aL n .has_proof):=by
 obtain⟨m,rfl⟩:=jY hn rfl
 refine(cY1 H O hE lo B C hbx (s:=p.1) (t:=p.2) hst (n:=m) (bH hn rfl)) _ fun r Lp' σ' g1 g2 g3 g4=> ?_
 exact(fun _ k=>k r Lp' σ' (cL (bH hn rfl) (fun _=>rfl) rfl (oO (k0 (aO (aU (aH rfl) (aU (bE (aH rfl) rfl rfl) (aU (bE (aH rfl) rfl rfl) (jW rfl)))) g1)))) g2 g3 g4)
end
end
section
theorem nG{x:V}(h:aQ x≠ -2):bS x=x:=by unfold bS;rw[if_neg h]
theorem PO.anti{L L' Q:List (V×V)}(h:∀p∈L,p∈L'){s t:V}:PO L' Q s t→PO L Q s t:=fun k=>k.imp id fun k=>k.imp (fun k m=>k (h _ m)) id
section
variable {σh:aD}{L:Ly}{W:Wd}{ts:List V}{bk:Bk}{U Lp Q:List (V×V)}{σ:aD}
noncomputable def yP (W:Wd) (Q:List (V×V)):Prop:=∀p∈Q,D W (bS p.1) p.2
noncomputable def Stl (W:Wd) (Lp Q:List (V×V)):Prop:=∀p∈Lp,p∉Q→¬FR W (PO Lp Q) (bS p.1) p.2
theorem yP.PQ(h:yP W Q){s t:V}:Book.PQ Q s t→D W s t:=by
 rintro(k |⟨k,n⟩)
 ·exact .triv k
 ·have:=h _ k
  simp only at this
  rw[nG n]at this
  exact this
theorem Stl.all(h:Stl W Lp Q){s t:V}:D W s t→PO Lp Q s t:=by
 refine D.least (fun _ _ k=> .inl k) fun s t k=> ?_
 by_cases a:aQ s= -2
 ·exact .inr (.inr (.inr a))
 ·by_cases b:(s,t)∈Lp
  ·by_cases c:(s,t)∈Q
   ·exact .inr (.inr (.inl c))
   ·have:=h _ b c
    simp only at this
    rw[nG a]at this
    exact absurd k this
  ·exact .inr (.inl b)
theorem cO8(hs:yP W Q)(h:Stl W Lp Q){s t:V}(hp:(s,t)∈Lp)(nT:¬gR (bS s) t):(s,t)∈Q↔D W (bS s) t:=by
 refine⟨fun k=>hs _ k,fun k=> ?_⟩
 by_cases c:(s,t)∈Q
 ·exact c
 ·exfalso
  rcases k.cases with k |k
  ·exact nT k
  ·exact h _ hp c (k.mono fun _ _=>h.all)
noncomputable def SB (m:Nat):SM:=aC (aV 3 (aG (aR (aA 1) "pairs") (aA 2))) (aC (mH 2 (aB 1)) (aC (a8 (eJ (aK .notIn (aA 3) (aR (aA 1) "proved")) (bL (aJ (aL m .has_proof) [(aA 0),(aA 3),(aA 1)]))) (aC (bP (aR (aA 1) "proved") (aA 3) (aB 1)) (aC (aV 2 (aB 0)) aF)) aF) aF))
noncomputable def SI (m:Nat):SM:=a8 (eJ (aK .notIn (aA 3) (aR (aA 1) "proved")) (bL (aJ (aL m .has_proof) [(aA 0),(aA 3),(aA 1)]))) (aC (bP (aR (aA 1) "proved") (aA 3) (aB 1)) (aC (aV 2 (aB 0)) aF)) aF
noncomputable def Swp (W:Wd) (Lp Q:List (V×V)) (at_:Nat):Prop:=∀(i:Nat) p,i<at_→Lp[i]? =some p→p∉Q→¬FR W (PO Lp Q) (bS p.1) p.2
theorem xH{α:Type}{a b:List α}(h:a<+:b){i:Nat}(hi:i<a.length):b[i]? =a[i]? :=by
 obtain⟨c,rfl⟩:=h
 exact List.getElem?_append_left hi
theorem cM8{n:Nat}(h:n≤100000):small (n:Int)=true:=by simp[small];exact⟨nIy rfl,nIx h rfl⟩
theorem dE.add(B:dE bk ts U σ Lp Q){p:V×V}(hp:p∈Lp)(hq:p∉Q):dE bk ts U (σ.set bk.q (.dict (mJ ts (Q++[p])))) Lp (Q++[p]):=by
 obtain⟨n1,n2,n3,n4,n5,n6,n7,n8,n9⟩:=B.ne
 refine⟨(a9 n8).trans B.b,(a9 n9).trans B.d,(a9 (Ne.symm n4)).trans B.p,(a9 (Ne.symm n7)).trans B.l,cO B.q,B.ne,B.tp,B.sub,B.nd,fun a ha=> ?_,List.nodup_append.mpr ⟨B.qn,List.nodup_cons.mpr ⟨List.not_mem_nil,List.nodup_nil⟩,fun a ha b hb e=> ?_⟩⟩
 ·rcases List.mem_append.mp ha with ha |ha
  ·exact B.qs a ha
  ·rw[List.mem_singleton.mp ha];exact hp
 ·rw[List.mem_singleton]at hb
  exact hq (hb▸e▸ha)
structure cF6(σh:aD)(L:Ly)(W:Wd)(ts:List V)(bk:Bk)(U:List (V×V))(at_:Nat)(ρ:Env)(σ:aD)(Lp Q:List (V×V)):Prop where
 le:at_≤Lp.length
 E:cM σh σ
 B:dE bk ts U σ Lp Q
 S:yP W Q
 W:Swp W Lp Q at_
 r0:ρ 0=some (.ref L.ho)
 r1:ρ 1=some (.ref bk.b)
 r2:ρ 2=some (.int at_)
noncomputable def dD8 (σh:aD) (L:Ly) (W:Wd) (ts:List V) (bk:Bk) (U:List (V×V)) (m at_:Nat) (ρ:Env) (σ:aD) (Lp Q:List (V×V)):Prop:=∀G:Prop,(∀(at':Nat),∀(ρ':Env),∀(σ':aD),∀(Lp' Q':List (V×V)),∀(h:SB m ρ σ=some (.next,ρ',σ')),∀(I:cF6 σh L W ts bk U at' ρ' σ' Lp' Q'),∀(K:cA [bk.p,bk.l,bk.q] σ σ'),∀(p:Lp<+:Lp'),∀(lt:(400-Q'.length)*401+(400-at')<(400-Q.length)*401+(400-at_)),G)→G
theorem bB5(H:bT σh L W ts)(O:dA W)(lo:σh.length≤bk.p∧σh.length≤bk.l∧σh.length≤bk.q)(C:Cl W U)(hbx:∀e t,(tm (-2) [e],t)∈U→aS e=true){m:Nat}(hm:15≤m){at_:Nat}{ρ:Env}
  (I:cF6 σh L W ts bk U at_ ρ σ Lp Q) (h7:at_<Lp.length):dD8 σh L W ts bk U m at_ ρ σ Lp Q:=by
 obtain⟨_,hE,B,hS,hW,r0,r1,r2⟩:=I
 have h5:Lp.length≤400:=Nat.le_trans (gY B.nd B.sub) C.len
 obtain⟨p,hp⟩:∃p,Lp[at_]? =some p:=⟨Lp[at_],List.getElem?_eq_getElem h7⟩
 have hpm:=List.mem_of_getElem? hp
 have hd:∀{σ':aD} {ρ':Env},SI m (aZ (aZ ρ 3 (jF ts p)) 2 (.int ((at_+1:Nat):Int))) σ=some (.next,ρ',σ')→SB m ρ σ=some (.next,ρ',σ'):=fun h=>
  bI (eM (bE (B.a_pairs (aH r1)) (aH r2) (rV B.p (by rw[List.getElem?_map,hp];rfl) (nT3 h7 h5 rfl)))) (bI (bA4 r2 rfl (by rw[cM8 (nT2 h7 h5 rfl)];rfl)) (bI h rfl))
 have hlk:=m0 (B.two p hpm) B.two'
 have hk2:=eX (o8 ts Q) (mZ ts p)
 by_cases hq:p∈Q
 ·exact(fun _ k=>k (at_+1) _ σ Lp Q (hd (iQ (wX (mC (x:=some (.int 1)) (aH rfl) (B.a_proved (aH r1)) B.q hk2 (hlk.1 hq))) rfl)) ⟨h7,hE,B,hS,fun i p' hi hp' hn=>by
   by_cases e:i=at_
   ·rw[e,hp]at hp';(refine cT hp' fun p=> ?_;clear hp';subst p);exact absurd hq hn
   ·exact hW i p' (nLn hi e) hp' hn,r0,r1,rfl⟩ .refl List.prefix_rfl (nMs h7 h5))
 ·have hnot:=fun {ρ:Env} (k1:ρ 1=some (.ref bk.b)) (k3:ρ 3=some (jF ts p))=>mC (x:=none) (aH k3) (B.a_proved (aH k1)) B.q hk2 (hlk.2 hq)
  refine(cP3 H O hE ⟨lo.1,lo.2.1⟩ B C hbx hpm (n:=m) hm) _ fun r Lp1 σ1 f1 z4 f3 f4=> ?_
  obtain⟨B1,K1,P1⟩:=z4
  have E1:cM σh σ1:=K1.ext hE fun i hi=>by
   rcases List.mem_cons.mp hi with rfl |hi
   ·exact lo.1
   ·rw[List.mem_singleton.mp hi];exact lo.2.1
  have K2:cA [bk.p,bk.l,bk.q] σ σ1:=K1.mono fun i hi=>by
   rcases List.mem_cons.mp hi with rfl |hi
   ·exact .head _
   ·rw[List.mem_singleton.mp hi];exact .tail _ (.head _)
  have hpl:=P1.length_le
  induction r using Bool.casesOn with
  |false=>
   exact(fun _ k=>k (at_+1) _ σ1 Lp1 Q (hd (iQ (aF0 (hnot r1 rfl) (bV (aO (vM r0 rfl r1) f1) rfl)) rfl)) ⟨nLs h7 hpl,E1,B1,hS,fun i p' hi hp' hn=>by
    by_cases e:i=at_
    ·rw[e,xH P1 h7,hp]at hp';(refine cT hp' fun p=> ?_;clear hp';subst p)
     exact f4 rfl
    ·rw[xH P1 (Nat.lt_of_lt_of_le hi (nSl h7))]at hp'
     exact fun k=>hW i p' (nLn hi e) hp' hn (k.mono fun _ _=>PO.anti P1.subset),r0,r1,rfl⟩ K2 P1 (nMs h7 h5))
  |true=>
   have hp1:p∈Lp1:=P1.subset hpm
   have B2:=B1.add hp1 hq
   have hq4:(Q++[p]).length≤400:=Nat.le_trans (gY B2.qn B2.qs) (Nat.le_trans (gY B2.nd B2.sub) C.len)
   have hql:(mJ ts Q).length≤100000:=by
    rw[List.length_append]at hq4
    rw[mJ,List.length_map];exact nM3 hq4 rfl
   have hs:=aH1 (e:=aB 1) (o:=aR (aA 1) "proved") (a:=aA 3) (ρ:=aZ (aZ ρ 3 (jF ts p)) 2 (.int ((at_+1:Nat):Int))) (σ:=σ1) rfl (B1.a_proved (aH r1)) (aH rfl) B1.q (by rw[hk2,decide_eq_true hql];rfl)
   rw[y3 (B1.two p hp1) B1.two' hq]at hs
   have K3:cA [bk.p,bk.l,bk.q] σ1 (σ1.set bk.q (.dict (mJ ts (Q++[p])))):= .set (.tail _ (.tail _ (.head _)))
   refine(fun _ k=>k 0 _ _ Lp1 (Q++[p]) (hd (oI (aF0 (hnot r1 rfl) (bV (aO (vM r0 rfl r1) f1) rfl)) rfl (bI hs rfl))) ⟨Nat.zero_le _,K3.ext E1 fun i hi=> ?_,B2,fun a ha=> ?_,fun i p' hi=>absurd hi (Nat.not_lt_zero _),r0,r1,rfl⟩ (K2.trans K3) P1 ?_)
   ·rcases List.mem_cons.mp hi with rfl |hi
    ·exact lo.1
    ·rcases List.mem_cons.mp hi with rfl |hi
     ·exact lo.2.1
     ·rw[List.mem_singleton.mp hi];exact lo.2.2
   ·rcases List.mem_append.mp ha with ha |ha
    ·exact hS a ha
    ·rw[List.mem_singleton.mp ha];exact .step ((f3 rfl).mono fun _ _=>hS.PQ)
   ·rw[List.length_append]at hq4⊢
    exact nMq hq4
noncomputable def bT5 (W:Wd) (ts:List V) (bk:Bk) (U:List (V×V)) (σ:aD) (Lp:List (V×V)) (r:Env→aD→Prop):Prop:=∀G:Prop,(∀(ρ':Env),∀(σ':aD),∀(Lp' Q':List (V×V)),∀(h:r ρ' σ'),∀(B:dE bk ts U σ' Lp' Q'),∀(K:cA [bk.p,bk.l,bk.q] σ σ'),∀(p:Lp<+:Lp'),∀(S:yP W Q'),∀(T:Stl W Lp' Q'),G)→G
theorem aS4(H:bT σh L W ts)(O:dA W)(lo:σh.length≤bk.p∧σh.length≤bk.l∧σh.length≤bk.q)(C:Cl W U)(hbx:∀e t,(tm (-2) [e],t)∈U→aS e=true){m:Nat}(hm:15≤m):
  ∀(μ at_:Nat) (ρ:Env) (σ:aD) (Lp Q:List (V×V)) (fu:Nat),(400-Q.length)*401+(400-at_)≤μ→μ≤fu→cF6 σh L W ts bk U at_ ρ σ Lp Q→
  bT5 W ts bk U σ Lp fun ρ' σ'=>fD (aK .lt (aA 2) (cH (aR (aA 1) "pairs"))) (SB m) (fu+1) ρ σ=some (.next,ρ',σ'):=by
 intro μ
 induction μ with
 |zero=>
  intro at_ ρ σ Lp Q fu h1 h2 I
  have h5:Lp.length≤400:=Nat.le_trans (gY I.B.nd I.B.sub) C.len
  have h6:=I.le
  refine(fun _ k=>k ρ σ Lp Q (iW ((cV (q:= .lt) (aH I.r2) (uW (I.B.a_pairs (aH I.r1)) I.B.p (by rw[List.length_map];exact d0 h5 rfl)) rfl).trans ?_)) I.B .refl List.prefix_rfl I.S (fun p hp hq=> ?_))
  ·rw[List.length_map,decide_eq_false (by omega)]
  ·obtain⟨i,hi⟩:=List.getElem?_of_mem hp
   exact I.W i p (by have:=(List.getElem?_eq_some_iff.mp hi).1;omega) hi hq
 |succ μ ih=>
  intro at_ ρ σ Lp Q fu h1 h2 I
  have h5:Lp.length≤400:=Nat.le_trans (gY I.B.nd I.B.sub) C.len
  have ht:=cV (q:= .lt) (aH I.r2) (uW (I.B.a_pairs (aH I.r1)) I.B.p (by rw[List.length_map];exact d0 h5 rfl)) rfl
  rw[List.length_map]at ht
  by_cases h7:at_<Lp.length
  ·obtain⟨fu,rfl⟩:∃f,fu=f+1:=⟨fu-1,xK h2 rfl⟩
   refine(bB5 H O lo C hbx hm I h7) _ fun at' ρ1 σ1 Lp1 Q1 hb I1 K P lt=> ?_
   refine(ih at' ρ1 σ1 Lp1 Q1 fu (tQ (Nat.le_trans (nSl lt) h1)) (tQ h2) I1) _ fun ρ' σ' Lp' Q' g1 g2 g3 g4 g5 g6=> ?_
   exact(fun _ k=>k ρ' σ' Lp' Q' ((hJ (ht.trans (by rw[decide_eq_true (Int.ofNat_lt.mpr h7)])) hb).trans g1) g2 (K.trans g3) (P.trans g4) g5 g6)
  ·refine(fun _ k=>k ρ σ Lp Q (iW (ht.trans (by rw[decide_eq_false fun q=>h7 (Int.ofNat_lt.mp q)]))) I.B .refl List.prefix_rfl I.S (fun p hp hq=> ?_))
   obtain⟨i,hi⟩:=List.getElem?_of_mem hp
   exact I.W i p (Nat.lt_of_lt_of_le (List.getElem?_eq_some_iff.mp hi).1 (Nat.le_of_not_lt h7)) hi hq
theorem v9(H:bT σh L W ts)(O:dA W)(lo:σh.length≤bk.p∧σh.length≤bk.l∧σh.length≤bk.q)(C:Cl W U)(hbx:∀e t,(tm (-2) [e],t)∈U→aS e=true)(hE:cM σh σ)(B:dE bk ts U σ Lp Q)(hS:yP W Q){n:Nat}(hn:16≤n):
  bT5 W ts bk U σ Lp fun _ σ'=>aL n .settle_book [.ref L.ho,.ref bk.b] σ=some (.none,σ'):=by
 obtain⟨m,rfl⟩:=jY hn rfl
 refine(aS4 H O lo C hbx (m:=m) (bH hn rfl) ((400-Q.length)*401+(400-0)) 0 (aZ (fun i=>[V.ref L.ho,.ref bk.b][i]?) 2 (.int (0:Nat))) σ Lp Q 999999 (Nat.le_refl _) (d0 (Nat.add_le_add_right (Nat.mul_le_mul_right 401 (Nat.sub_le 400 _)) 400) rfl) ⟨Nat.zero_le _,hE,B,hS,fun i p' hi=>absurd hi (Nat.not_lt_zero _),rfl,rfl,rfl⟩) _ fun ρ' σ' Lp' Q' g1 g2 g3 g4 g5 g6=> ?_
 refine(fun _ k=>k ρ' σ' Lp' Q' ?_ g2 g3 g4 g5 g6)
 rw[jS (bH hn rfl)]
 exact vC rfl (bI rfl (bI (show iS _ _ _ _=_ from g1) rfl))
end
end
section
section
variable {σh:aD}{L:Ly}{W:Wd}{ts:List V}{bk:Bk}{U Lp Q:List (V×V)}{σ:aD}
theorem aX5{n:Nat}{b:SM}{args:List V}{v:V}{ρ:Env}{σ':aD}(hl:args.length=n)(h:b (fun i=>args[i]?) σ=some (.ret v,ρ,σ')):mkF n b args σ=some (v,σ'):=by
 simp only[mkF,hl,if_true,h]
theorem dP1{n:Nat}{b:SM}{args:List V}{ρ:Env}{σ':aD}(hl:args.length=n)(h:b (fun i=>args[i]?) σ=some (.next,ρ,σ')):mkF n b args σ=some (.none,σ'):=by
 simp only[mkF,hl,if_true,h]
noncomputable def vQ (σ:aD):Bk:=⟨σ.length+1,σ.length,σ.length+2,σ.length+3,σ.length+4⟩
noncomputable def pZ (σ:aD):aD:=σ++[.ns [("strict",.int 0),("pairs",.ref (σ.length+2)),("listed",.ref (σ.length+3)),("proved",.ref (σ.length+4))],.inst .book σ.length,.list [],.dict [],.dict []]
theorem m7{e:EM}{ρ:Env}(h:e ρ σ=some (.int 0,σ)):kN .book (mkF 2 (nZ fun _ _ _=>none)) [e] ρ σ=some (.ref (σ.length+1),pZ σ):=
 aK6 (aU h rfl) (vC rfl (bI (aW3 (C:=[.ns [],.inst .book σ.length]) (fs:=[]) rfl rfl rfl rfl rfl rfl) (bI (eT rfl (fun _=>rfl) rfl rfl rfl rfl) (bI (eT rfl (fun _=>rfl) rfl rfl rfl rfl) (bI (eT rfl (fun _=>rfl) rfl rfl rfl rfl) rfl)))))
theorem bC9:dE (vQ σ) ts U (pZ σ) [] []:=
 ⟨jU rfl,mR rfl,jU rfl,jU rfl,jU rfl,⟨gP rfl,y4 rfl,gP rfl,gP rfl,gP rfl,y4 rfl,gP rfl,gP rfl,y4 rfl⟩,sV,sV,List.nodup_nil,sV,List.nodup_nil⟩
theorem j4:cM σ (pZ σ):=cM.app
noncomputable def aS5 (σh:aD) (L:Ly) (W:Wd) (ts:List V) (s:V) (t:V) (n:Nat) (f:FM):Prop:=∀G:Prop,(∀(r:Bool),∀(σ':aD),(f [.ref L.ho,aP ts s,aP ts t,.int 0] σh=some (.bool r,σ'))→(cM σh σ')→((r=true↔D W (bS s) t))→G)→G
theorem bA2(hbx:∀e t,(tm (-2) [e],t)∈U→aS e=true){s t:V}(hin:(s,t)∈U)(t2:lZ s)(t5:wf t=true)(t6:aS t=false):gR (bS s) t↔gR s t:=by
 rcases t2 with h |⟨e,rfl,h⟩
 ·rw[dJ h]
 ·rw[eZ]
  have hv:=hbx e t hin
  constructor
  ·rintro(h |h)
   ·rw[h,t6]at hv;exact c7 hv
   ·exact .inr h
  ·rintro(h |h)
   ·rw[←h,mQ]at t5;exact c7 t5
   ·exact .inr h
theorem nR{σ:aD}:σ.length≤(vQ σ).p∧σ.length≤(vQ σ).l∧σ.length≤(vQ σ).q:=⟨Nat.le_add_right _ 2,Nat.le_add_right _ 3,Nat.le_add_right _ 4⟩
theorem oW{σ':aD}(lo:σh.length≤bk.p∧σh.length≤bk.l∧σh.length≤bk.q)(hE:cM σh σ)(K:cA [bk.p,bk.l,bk.q] σ σ'):cM σh σ':=K.ext hE fun i hi=>by
 rcases List.mem_cons.mp hi with rfl |hi
 ·exact lo.1
 ·rcases List.mem_cons.mp hi with rfl |hi
  ·exact lo.2.1
  ·rw[List.mem_singleton.mp hi];exact lo.2.2
theorem bL2(H:bT σh L W ts)(O:dA W)(C:Cl W U)(hbx:∀e t,(tm (-2) [e],t)∈U→aS e=true){s t:V}(T:TP ts (s,t))(hin:(s,t)∈U){n:Nat}(hn:17≤n):
  aS5 σh L W ts s t n (aL n .assign_settled):=by
 obtain⟨m,rfl⟩:=jY hn rfl
 have B0:dE (vQ σh) ts U (pZ σh) [] []:=bC9
 refine(cY9 H j4 B0 C.len T (fun _=>hin) (n:=m) (bH hn rfl)) _ fun r Lp1 σ1 f1 f2 f3 f4=> ?_
 have E1:cM σh σ1:=tK ⟨nR.1,nR.2.1⟩ j4 f2.2.1
 obtain⟨t1,t2,t3,t4,t5,t6,t7⟩:s∈ts∧lZ s∧bS s∈ts∧t∈ts∧wf t=true∧aS t=false∧hK s=true:=T
 have hnv:=bA2 hbx hin t2 t5 t6
 induction r using Bool.casesOn with
 |true=>
  refine(fun _ k=>k true σ1 (cL (bH hn rfl) (fun _=>rfl) rfl (cQ (m7 rfl) (cU (bV (aO (z9 rfl rfl rfl rfl) f1) rfl) rfl (bA rfl)))) E1 ⟨fun _=> ?_,fun _=>rfl⟩)
  rcases f3.mp rfl with h |h
  ·exact .triv (hnv.mpr h)
  ·cases h
 |false=>
  have nT:¬gR s t:=fun h=>by cases f3.mpr (.inl h)
  refine(v9 H O nR C hbx E1 f2.1 (fun _ h=>by cases h) (n:=m) (bH hn rfl)) _ fun _ σ2 Lp2 Q2 g1 g2 g3 g4 g5 g6=> ?_
  have hset:=cO8 g5 g6 (g4.subset (f4 nT)) (fun k=>nT (hnv.mp k))
  have hlk:=m0 (p:=(s,t)) ⟨t1,t4⟩ g2.two'
  have pre:∀{x:Option V},bW (mJ ts Q2) (jF ts (s,t))=x→aL (m+1) .assign_settled [.ref L.ho,aP ts s,aP ts t,.int 0] σh=some (.bool x.isSome,σ2):=fun h=>
   cL (bH hn rfl) (fun _=>rfl) rfl (cQ (m7 rfl) (bN (bV (aO (z9 rfl rfl rfl rfl) f1) rfl) rfl (fZ (pR (aO (eE rfl rfl) g1)) (bA (eH (z7 (fK (eE rfl rfl)) (g2.a_proved (aH rfl)) g2.q (eX (o8 ts Q2) (mZ ts (s,t))) h))))))
  by_cases hq:(s,t)∈Q2
  ·exact(fun _ k=>k true σ2 (pre (hlk.1 hq)) (oW nR E1 g3) ⟨fun _=>hset.mp hq,fun _=>rfl⟩)
  ·exact(fun _ k=>k false σ2 (pre (hlk.2 hq)) (oW nR E1 g3) ⟨fun h=>(by exact c7 h),fun h=>absurd (hset.mpr h) hq⟩)
noncomputable def bI1 (σh:aD) (P:Prop) (r0:Option (V×aD)):Prop:=∀G:Prop,(∀(r:Bool),∀(σ':aD),∀(h:r0=some (.bool r,σ')),∀(E:cM σh σ'),∀(k:r=true↔P),G)→G
theorem bL3(H:bT σh L W ts)(O:dA W)(C:Cl W U)(hbx:∀e t,(tm (-2) [e],t)∈U→aS e=true){s t:V}(T:TP ts (s,t))(hin:(s,t)∈U){n:Nat}(hn:18≤n):
  bI1 σh (D W (bS s) t) (aL n .ref_assignable [.ref L.ho,aP ts s,aP ts t] σh):=by
 obtain⟨m,rfl⟩:=jY hn rfl
 refine(bL2 H O C hbx T hin (n:=m) (bH hn rfl)) _ fun r σ' g1 g2 g3=> ?_
 exact(fun _ k=>k r σ' (cL (bH hn rfl) (fun _=>rfl) rfl (bA (aO (aU (aH rfl) (aU (aH rfl) (aU (aH rfl) (aU rfl rfl)))) g1))) g2 g3)
end
end
section
section
variable {σh:aD}{L:Ly}{W:Wd}{ts:List V}{bk:Bk}{U Lp Q:List (V×V)}{σ:aD}
noncomputable def mT (W:Wd) (u t:V):Prop:=u=t∨∃ps,iL W u t=some ps∧∀q∈ps,D W q.1 q.2
noncomputable def WB (m:Nat):SM:=aC (aV 4 (cH (aR (aA 3) "pairs"))) (aC (cG (aJ (aL m .settle_book) [(aA 0),(aA 3)])) (aC (a8 (bL (aJ (aL m .var_within) [(aA 0),(aA 1),(aA 2),(aA 3)])) (aC (aW (b0 true)) aF) aF) aF))
inductive zX (W:Wd) (ts:List V) (bk:Bk) (U Lp:List (V×V)) (u t:V) (ρ:Env) (σ:aD) (r:Option (Fl×Env×aD)):Prop
 |yes (ρ':Env) (σ':aD) (h:r=some (.ret (.bool true),ρ',σ')) (K:cA [bk.p,bk.l,bk.q] σ σ') (k:mT W u t):zX W ts bk U Lp u t ρ σ r
 |no (σ':aD) (Lp' Q':List (V×V)) (h:r=some (.next,aZ ρ 4 (.int Lp.length),σ')) (K:cA [bk.p,bk.l,bk.q] σ σ') (B:dE bk ts U σ' Lp' Q') (S:yP W Q') (p:Lp<+:Lp') (k:Lp'.length=Lp.length→¬mT W u t):zX W ts bk U Lp u t ρ σ r
theorem tL(B:dE bk ts U σ Lp Q)(hU:U.length≤400){o:EM}{ρ:Env}(h:o ρ σ=some (.ref bk.b,σ)):cH (aR o "pairs") ρ σ=some (.int Lp.length,σ):=by
 have:=gY B.nd B.sub
 have e:=uW (B.a_pairs h) B.p (by rw[List.length_map];exact nL2 this hU rfl)
 rwa [List.length_map]at e
theorem pS(B:dE bk ts U σ Lp Q)(hU:U.length≤400){ρ:Env}{c:Int}(r3:ρ 3=some (.ref bk.b))(r4:ρ 4=some (.int c)):aK .lt (aA 4) (cH (aR (aA 3) "pairs")) ρ σ=some (decide (c<(Lp.length:Int)),σ):=cV (q:= .lt) (aH r4) (tL B hU (aH r3)) rfl
theorem aH9(H:bT σh L W ts)(O:dA W)(lo:σh.length≤bk.p∧σh.length≤bk.l∧σh.length≤bk.q)(C:Cl W U)(hbx:∀e t,(tm (-2) [e],t)∈U→aS e=true){m:Nat}(hm:16≤m){u t:V}(hu:u∈ts)(wu:wf u=true)(ht:t∈ts)(wt:wf t=true)(hin:vY W U u t)
  {ρ:Env} (hE:cM σh σ) (B:dE bk ts U σ Lp Q) (hS:yP W Q) (r0:ρ 0=some (.ref L.ho)) (r1:ρ 1=some (aP ts u)) (r2:ρ 2=some (aP ts t)) (r3:ρ 3=some (.ref bk.b)):zX W ts bk U Lp u t ρ σ (WB m ρ σ):=by
 refine(v9 H O lo C hbx hE B hS hm) _ fun _ σ1 Lp1 Q1 g1 g2 g3 g4 g5 g6=> ?_
 have E1:=oW lo hE g3
 refine(cH5 H E1 (tK ⟨lo.1,lo.2.1⟩ E1) g2 C.len hu (.inl wu) ht wt hin (iI hm rfl)) _ fun r Lp2 σ2 f1 f2 f3 f4=> ?_
 have K2:cA [bk.p,bk.l,bk.q] σ σ2:=g3.trans (f2.2.1.mono fun i hi=>by
  rcases List.mem_cons.mp hi with rfl |hi
  ·exact .head _
  ·rw[List.mem_singleton.mp hi];exact .tail _ (.head _))
 induction r using Bool.casesOn with
 |true=>
  refine .yes _ σ2 (bI (eM (tL B C.len (aH r3))) (bI (pR (aO (eE r0 r3) g1)) (jL (bV (aO (z9 r0 r1 r2 r3) f1) rfl) (k0 rfl)))) K2 ?_
  rcases f3 rfl with h |⟨ps,a,b⟩
  ·exact .inl h
  ·exact .inr ⟨ps,a,fun q hq=>g5.PQ (b q hq)⟩
 |false=>
  refine .no σ2 Lp2 Q1 (bI (eM (tL B C.len (aH r3))) (bI (pR (aO (eE r0 r3) g1)) (bI (iQ (bV (aO (z9 r0 r1 r2 r3) f1) rfl) rfl) rfl))) K2 f2.1 g5 (g4.trans f2.2.2) fun hl=> ?_
  have l1:=g4.length_le
  have l2:=f2.2.2.length_le
  obtain⟨n1,n2⟩:=f4 rfl
  rintro(h |⟨ps,a,b⟩)
  ·exact n1 h
  ·obtain⟨q,hq,nq⟩:=n2 ps a
   exact nq (f2.2.2.eq_of_length (by omega)▸g6.all (b q hq))
inductive qS (W:Wd) (bk:Bk) (u t:V) (σ:aD) (r:Option (Fl×Env×aD)):Prop
 |yes (ρ':Env) (σ':aD) (h:r=some (.ret (.bool true),ρ',σ')) (K:cA [bk.p,bk.l,bk.q] σ σ') (k:mT W u t):qS W bk u t σ r
 |no (ρ':Env) (σ':aD) (h:r=some (.next,ρ',σ')) (K:cA [bk.p,bk.l,bk.q] σ σ') (k:¬mT W u t):qS W bk u t σ r
theorem bL0(H:bT σh L W ts)(O:dA W)(lo:σh.length≤bk.p∧σh.length≤bk.l∧σh.length≤bk.q)(C:Cl W U)(hbx:∀e t,(tm (-2) [e],t)∈U→aS e=true){m:Nat}(hm:16≤m){u t:V}(hu:u∈ts)(wu:wf u=true)(ht:t∈ts)(wt:wf t=true)(hin:vY W U u t):
  ∀(μ:Nat) (c:Int) (ρ:Env) (σ:aD) (Lp Q:List (V×V)) (fu:Nat),400-Lp.length≤μ→μ+1≤fu→c<(Lp.length:Int)→cM σh σ→dE bk ts U σ Lp Q→yP W Q→ρ 0=some (.ref L.ho)→ρ 1=some (aP ts u)→ρ 2=some (aP ts t)→ρ 3=some (.ref bk.b)→ρ 4=some (.int c)→
  qS W bk u t σ (fD (aK .lt (aA 4) (cH (aR (aA 3) "pairs"))) (WB m) (fu+1) ρ σ):=by
 intro μ
 induction μ with
 |zero=>
  intro c ρ σ Lp Q fu h1 h2 h3 hE B hS r0 r1 r2 r3 r4
  obtain⟨fu,rfl⟩:∃f,fu=f+1:=⟨fu-1,xL h2 rfl⟩
  have ht1:=(pS B C.len r3 r4).trans (by rw[decide_eq_true h3])
  rcases aH9 H O lo C hbx hm hu wu ht wt hin hE B hS r0 r1 r2 r3 with⟨ρ',σ1,a,K,b⟩ |⟨σ1,Lp1,Q1,a,K,B1,S1,P1,b⟩
  ·exact .yes ρ' σ1 (z0 ht1 a) K b
  ·have l1:=P1.length_le
   have l2:=gY B1.nd B1.sub
   have:=C.len
   have e:Lp1.length=Lp.length:=by omega
   exact .no _ σ1 ((hJ ht1 a).trans (iW ((pS B1 C.len (ρ:=aZ ρ 4 (.int Lp.length)) r3 rfl).trans (by rw[e,decide_eq_false (Int.lt_irrefl _)])))) K (b e)
 |succ μ ih=>
  intro c ρ σ Lp Q fu h1 h2 h3 hE B hS r0 r1 r2 r3 r4
  obtain⟨fu,rfl⟩:∃f,fu=f+1:=⟨fu-1,xK h2 rfl⟩
  have ht1:=(pS B C.len r3 r4).trans (by rw[decide_eq_true h3])
  rcases aH9 H O lo C hbx hm hu wu ht wt hin hE B hS r0 r1 r2 r3 with⟨ρ',σ1,a,K,b⟩ |⟨σ1,Lp1,Q1,a,K,B1,S1,P1,b⟩
  ·exact .yes ρ' σ1 (z0 ht1 a) K b
  ·have l1:=P1.length_le
   by_cases e:Lp1.length=Lp.length
   ·exact .no _ σ1 ((hJ ht1 a).trans (iW ((pS B1 C.len (ρ:=aZ ρ 4 (.int Lp.length)) r3 rfl).trans (by rw[e,decide_eq_false (Int.lt_irrefl _)])))) K (b e)
   ·rcases ih (Lp.length:Int) (aZ ρ 4 (.int Lp.length)) σ1 Lp1 Q1 fu (by omega) (tQ h2) (by omega) (oW lo hE K) B1 S1 r0 r1 r2 r3 rfl with⟨ρ',σ',h,K',k⟩ |⟨ρ',σ',h,K',k⟩
    ·exact .yes ρ' σ' ((hJ ht1 a).trans h) (K.trans K') k
    ·exact .no ρ' σ' ((hJ ht1 a).trans h) (K.trans K') k
noncomputable def bY9 (σh:aD) (L:Ly) (W:Wd) (ts:List V) (u:V) (t:V) (n:Nat) (f:FM):Prop:=∀G:Prop,(∀(r:Bool),∀(σ':aD),(f [.ref L.ho,aP ts u,aP ts t] σh=some (.bool r,σ'))→(cM σh σ')→((r=true↔mT W u t))→G)→G
theorem cX9(H:bT σh L W ts)(O:dA W)(C:Cl W U)(hbx:∀e t,(tm (-2) [e],t)∈U→aS e=true){u t:V}(hu:u∈ts)(wu:wf u=true)(ht:t∈ts)(wt:wf t=true)(hin:vY W U u t){n:Nat}(hn:17≤n):
  bY9 σh L W ts u t n (aL n .var_same):=by
 obtain⟨m,rfl⟩:=jY hn rfl
 rcases bL0 H O nR C hbx (m:=m) (bH hn rfl) hu wu ht wt hin 400 (-1) (aZ (aZ (fun i=>[V.ref L.ho,aP ts u,aP ts t][i]?) 3 (.ref (σh.length+1))) 4 (.int (-1))) (pZ σh) [] [] 999999 (by decide) (by decide) (by decide) j4 (bC9 (ts:=ts) (U:=U)) (fun _ h=>by cases h) rfl rfl rfl rfl rfl with⟨ρ',σ',g1,g2,h⟩ |⟨ρ',σ',g1,g2,h⟩
 ·exact(fun _ k=>k true σ' (cL (bH hn rfl) (fun _=>rfl) rfl (cQ (m7 rfl) (cQ rfl (oO (show iS _ _ _ _=_ from g1))))) (oW nR j4 g2) ⟨fun _=>h,fun _=>rfl⟩)
 ·exact(fun _ k=>k false σ' (cL (bH hn rfl) (fun _=>rfl) rfl (cQ (m7 rfl) (cQ rfl (fZ (show iS _ _ _ _=_ from g1) (bA rfl))))) (oW nR j4 g2) ⟨fun k=>(by exact c7 k),fun k=>absurd k h⟩)
noncomputable def GBo (m:Nat):SM:=aC (a8 (dT (aK .eq (aA 3) (aA 2)) (bL (aJ (aL m .var_same) [(aA 0),(aA 3),(aA 2)]))) (aC (aW (b0 true)) aF) aF) aF
inductive sM (W:Wd) (t:V) (l:List V) (σ:aD) (r:Option (Fl×Env×aD)):Prop
 |yes (ρ':Env) (σ':aD) (u:V) (h:r=some (.ret (.bool true),ρ',σ')) (E:cM σ σ') (hu:u∈l) (k:mT W u t):sM W t l σ r
 |no (ρ':Env) (σ':aD) (h:r=some (.next,ρ',σ')) (E:cM σ σ') (k:∀u∈l,¬mT W u t):sM W t l σ r
theorem aO7(H:bT σh L W ts)(O:dA W)(C:Cl W U)(hbx:∀e t,(tm (-2) [e],t)∈U→aS e=true){m:Nat}(hm:17≤m){t:V}(ht:t∈ts)(wt:wf t=true){ci:Nat}(all:List V):
  ∀(l:List V) (ρ:Env) (σ:aD),(∀u∈l,u∈ts∧wf u=true∧vY W U u t)→cM σh σ→ρ 0=some (.ref L.ho)→ρ 2=some (aP ts t)→σ[ci]? =some (.list all)→
  sM W t l σ (dM 3 (GBo m) (.list ci) all (l.map (aP ts)) ρ σ)
 |[],ρ,σ,_,_,_,_,_=> .no ρ σ rfl .refl fun u hu=>by cases hu
 |u::l,ρ,σ,hl,hE,r0,r2,hc=>by
  obtain⟨u1,u2,u3⟩:=hl u (.head _)
  by_cases e:u=t
  ·exact .yes _ σ u (pQ (jL (qP (lR (aH rfl) (aH r2) (by rw[e]))) (k0 rfl))) .refl (.head _) (.inl e)
  have ne:¬((eF ts u:Nat):Int)=(eF ts t:Nat):=fun h=>e (gF u1 ht (Int.ofNat.inj h))
  refine(cX9 (H.ext hE) O C hbx u1 u2 ht wt u3 hm) _ fun r σ1 g1 g2 g3=> ?_
  induction r using Bool.casesOn with
  |true=>exact .yes _ σ1 u (pQ (jL (j6 (lS (aH rfl) (aH r2) ne) (bV (aO (vM r0 rfl r2) g1) rfl)) (k0 rfl))) g2 (.head _) (g3.mp rfl)
  |false=>
   have hb:GBo m (aZ ρ 3 (aP ts u)) σ=some (.next,aZ ρ 3 (aP ts u),σ1):=bI (iQ (j6 (lS (aH rfl) (aH r2) ne) (bV (aO (vM r0 rfl r2) g1) rfl)) rfl) rfl
   have hc1:=g2 _ _ hc
   rcases aO7 H O C hbx hm ht wt all l (aZ ρ 3 (aP ts u)) σ1 (fun v hv=>hl v (.tail _ hv)) (hE.trans g2) r0 r2 hc1 with⟨ρ',σ',v,h,E,hv,k⟩ |⟨ρ',σ',h,E,k⟩
   ·exact .yes ρ' σ' v (uB hb hc1 h) (g2.trans E) (.tail _ hv) k
   ·exact .no ρ' σ' (uB hb hc1 h) (g2.trans E) fun v hv=>(List.mem_cons.mp hv).elim (fun h=>h▸fun k=>by cases g3.mpr k) (k v)
end
end
section
theorem uV{x:V}(h:wf x=true):iX x=aS x:=by
 rcases cR h with⟨n,rfl,h1,h2⟩ |⟨hh,args,rfl,h0,ha,_⟩
 ·exact eq_of_beq (kK (fun n=>iX (tP n)==aS (tP n)) rfl h1 h2)
 ·rw[aG8 h0 ha,rJ h0]
  exact eq_of_beq (fI (fun h=>decide (dY h=3)==sZ h) rfl ha)
theorem aW9{x:V}(h:wf x=true):(decide (bM x=3)&&decide (eN x=8))=decide (aQ x=8):=by
 rcases cR h with⟨n,rfl,h1,h2⟩ |⟨hh,args,rfl,h0,ha,_⟩
 ·exact eq_of_beq (kK (fun n=>(decide (bM (tP n)=3)&&decide (eN (tP n)=8))==decide (aQ (tP n)=8)) rfl h1 h2)
 ·rw[mX h0 ha,aH5 h0 ha]
  exact eq_of_beq (fI (fun h=>(decide (dY h=3)&&decide (jA h=8))==decide (h=8)) rfl ha)
section
variable {σh:aD}{L:Ly}{W:Wd}{ts:List V}{bk:Bk}{U Lp Q:List (V×V)}{σ:aD}
theorem bU2{P:V→V→Prop}{x t:V}(hv:aS x=true):FR W P x t↔∃u,hH W x u∧(u=t∨∃ps,iL W u t=some ps∧∀q∈ps,P q.1 q.2):=by
 constructor
 ·rintro(⟨e,f,rfl,_⟩ |⟨_,h⟩)
  ·exact c7 hv
  ·exact h
 ·intro h
  exact .inr ⟨fun e f q=>by rw[q]at hv;exact c7 hv,h⟩
noncomputable def Zh (u:V):Prop:=aQ u=0∨aQ u=2∨aQ u=3∨aS u=true
theorem cU7{u v:V}(h:wf u=true)(z:Zh u)(hb:base W u=some v):Zh v:=by
 have o:∀{c:Int},(c= -1∨c=0∨c=2∨c=3)→xI c=some v→Zh v:=fun hc e=>by
  rcases hc with rfl |rfl |rfl |rfl
  ·exact aN e
  ·(refine cT e fun p=> ?_;clear e;subst p);exact .inl rfl
  ·(refine cT e fun p=> ?_;clear e;subst p);exact .inr (.inl rfl)
  ·(refine cT e fun p=> ?_;clear e;subst p);exact .inr (.inr (.inl rfl))
 rcases cR h with⟨n,rfl,h1,h2⟩ |⟨hh,args,rfl,h0,ha,_⟩
 ·rw[qJ h1 h2]at hb
  exact o (of_decide_eq_true (kK (fun n=>decide (iB n 1 (gE (tP n)) (eN (tP n)) (iX (tP n))= -1∨iB n 1 (gE (tP n)) (eN (tP n)) (iX (tP n))=0∨iB n 1 (gE (tP n)) (eN (tP n)) (iX (tP n))=2∨iB n 1 (gE (tP n)) (eN (tP n)) (iX (tP n))=3)) rfl h1 h2)) hb
 ·have hz:hh=2∨hh=3∨sZ hh=true:=by
   rcases z with z |z |z |z
   ·exact absurd z h0
   ·exact .inl z
   ·exact .inr (.inl z)
   ·rw[rJ h0]at z;exact .inr (.inr z)
  have key:=of_decide_eq_true (fI (fun h=>decide ((h=2∨h=3∨sZ h=true)→h≠65∧h≠66∧(iB 16 (dY h) (gN h) (jA h) (decide (dY h=3))= -1∨iB 16 (dY h) (gN h) (jA h) (decide (dY h=3))=0∨iB 16 (dY h) (gN h) (jA h) (decide (dY h=3))=2∨iB 16 (dY h) (gN h) (jA h) (decide (dY h=3))=3))) rfl ha) hz
  rw[qK h0 ha,if_neg key.1,if_neg key.2.1]at hb
  exact o key.2.2 hb
theorem oK.zh{x:V}{l:List V}(C:oK W x l):Zh x→(∀c∈l,wf c=true)→∀c∈l,Zh c:=by
 induction C with
 |last _=>intro z _ c hc;rw[List.mem_singleton.mp hc];exact z
 | @cons x y l h hy ih=>
  intro z hw c hc
  rcases List.mem_cons.mp hc with rfl |hc
  ·exact z
  ·rw[dJ (hw x (.head _))]at h
   exact ih (cU7 (hw x (.head _)) z h) (fun d hd=>hw d (.tail _ hd)) c hc
theorem Zh.nolike{u t:V}(z:Zh u):iL W u t=none:=by
 induction q:iL W u t using Option.casesOn with
 |none=>rfl
 |some ps=>
  have:=(kS q).2
  rcases z with z |z |z |z
  ·omega
  ·omega
  ·omega
  ·exact c7 ((zA this).symm.trans z)
theorem cR6{ts:List V}{t:V}(ht:t∈ts):∀{l:List V},(∀y∈l,y∈ts)→oF (l.map (aP ts)) (aP ts t)=some (l.any (V.beq · t)):=by
 intro l hl
 unfold oF
 have h1:((aP ts t).kind==0||(aP ts t).kind==2)=true:=rfl
 have h2:(l.map (aP ts)).all (fun y=>y.kind==0||y.kind==2)=true:=by
  rw[List.all_eq_true]
  intro y hy
  obtain⟨z,_,rfl⟩:=List.mem_map.mp hy
  rfl
 have h3:((l.map (aP ts)).any fun y=>V.beq y (aP ts t))=l.any (V.beq · t):=by
  rw[List.any_map]
  induction l with
  |nil=>rfl
  |cons a l ih=>
   simp only[List.any_cons,Function.comp]
   rw[l8 (hl a (.head _)) ht,←ih (fun y hy=>hl y (.tail _ hy)) (by rw[List.map_cons,List.all_cons]at h2;simp at h2;simpa using h2.2)]
 rw[h1,h2,h3];rfl
theorem dK1{x t:V}(hv:aS x=true)(hne:x≠t):D W x t↔t=eQ∨∃u,hH W x u∧mT W u t:=by
 constructor
 ·intro h
  rcases h.cases with h |h
  ·exact .inl (h.resolve_left hne)
  ·exact .inr ((bU2 hv).mp h)
 ·rintro(h |h)
  ·exact .triv (.inr h)
  ·exact .step ((bU2 hv).mpr h)
theorem cH8(H:bT σh L W ts)(O:dA W)(C:Cl W U)(hbx:∀e t,(tm (-2) [e],t)∈U→aS e=true){x t:V}(hx:x∈ts)(wx:wf x=true)(vx:aS x=true)(ht:t∈ts)(wt:wf t=true)(vt:aS t=false)(hin:(x,t)∈U){n:Nat}(hn:18≤n):
  bI1 σh (D W x t) (aL n .box_goes [.ref L.ho,aP ts x,aP ts t] σh):=by
 obtain⟨m,rfl⟩:=jY hn rfl
 have hne:x≠t:=fun e=>by rw[e,vt]at vx;exact c7 vx
 rw[dK1 vx hne]
 by_cases e2:t=eQ
 ·exact(fun _ k=>k true σh (cL (bH hn rfl) (fun _=>rfl) rfl (cU (qP (lR (aH rfl) rfl (by rw[e2,H.tab.ix12];rfl))) rfl (bA rfl))) .refl ⟨fun _=> .inl e2,fun _=>rfl⟩)
 have n12:¬((eF ts t:Nat):Int)=12:=fun h=>by
  have h12:=H.tab.prim 12 (by decide)
  have:=bG ht
  rw[show eF ts t=12 from Int.ofNat.inj h,h12]at this
  (refine cT this fun p=> ?_;clear this;subst p);exact e2 rfl
 have hub:bS x=x:=dJ wx
 refine(cJ8 H O hx (.inl wx) (by rw[hub];exact hx)) _ fun l Ch c1 c2 c3 z5=> ?_
 obtain⟨l',rfl,c5⟩:=z5
 have hch:=yY H (bG hx) Ch c3 c2 (d0 c1 rfl) (n:=m) (bH hn rfl)
 have hwl:∀c∈x::l',wf c=true:=fun c hc=>(List.mem_cons.mp hc).elim (fun h=>h▸wx) (c5 c)
 have hz:=Ch.zh (.inr (.inr (.inr vx))) hwl
 have hmem:=cR6 ht (l:=x::l') fun y hy=>(c3 y hy).1
 have E1:cM σh (σh++[bF.list ((x::l').map (aP ts)),bF.dict (dS ts (x::l'))]):= .app
 have hg1:(σh++[bF.list ((x::l').map (aP ts)),bF.dict (dS ts (x::l'))])[σh.length]? =some (.list ((x::l').map (aP ts))):=by rw[List.getElem?_append_right (Nat.le_refl _),Nat.sub_self];rfl
 generalize σh++[bF.list ((x::l').map (aP ts)),bF.dict (dS ts (x::l'))]=σ1 at hch E1 hg1
 have htst:∀{ρ:Env},ρ 0=some (.ref L.ho)→ρ 1=some (aP ts x)→ρ 2=some (aP ts t)→(dT (aK .eq (aA 2) (aX kM)) (aK .isIn (aA 2) (aJ (aL m .base_chain) [(aA 0),(aA 1)]))) ρ σh=some ((x::l').any (V.beq · t),σ1):=fun r0 r1 r2=>j6 (lS (aH r2) rfl n12) (cV (q:= .isIn) (aH r2) (aO (eE r0 r1) hch) (by simp only[gK,sS,hg1,hmem]))
 by_cases hin1:t∈x::l'
 ·refine(fun _ k=>k true σ1 (cL (bH hn rfl) (fun _=>rfl) rfl (cU (htst rfl rfl rfl) (oZ.mpr hin1) (bA rfl))) E1 ⟨fun _=> .inr ⟨t,?_,.inl rfl⟩,fun _=>rfl⟩)
  rcases List.mem_cons.mp hin1 with h |h
  ·exact absurd h.symm hne
  ·rw[←hub];exact Ch.rch c5 t h
 have pre:∀{v:V} {σ':aD},fN _ (fun i=>[V.ref L.ho,aP ts x,aP ts t][i]?) σ1 v σ'→aL (m+1) .box_goes [.ref L.ho,aP ts x,aP ts t] σh=some (v,σ'):=fun h=>cL (bH hn rfl) (fun _=>rfl) rfl (bN (htst rfl rfl rfl) (lL hin1) h)
 clear htst hmem hg1 hch
 have H1:=H.ext E1
 have hif:=xD H1 (bG ht) (n:=m) (bH hn rfl)
 rw[bO7 wt]at hif
 refine(cH9 H1 O (bG hx) Ch c3 c2 c1 c5 (n:=m) (bH hn rfl)) _ fun F σ2 f1 f2 f3 f4 f5 f6=> ?_
 rw[hub]at f6
 have nO:(t=eQ∨∃u,hH W x u∧mT W u t)↔∃u∈F,mT W u t:=by
  constructor
  ·rintro(h |⟨u,hr,hl⟩)
   ·exact absurd h e2
   have nc:∀c∈x::l',¬mT W c t:=fun c hc k=>by
    rcases k with k |⟨ps,k,_⟩
    ·exact hin1 (k▸hc)
    ·rw[(hz c hc).nolike]at k;exact aN k
   rcases(f6 u).mp hr with rfl |h |h
   ·exact absurd hl (nc u (.head _))
   ·exact absurd hl (nc u (.tail _ h))
   ·exact⟨u,h,hl⟩
  ·rintro⟨u,h,hl⟩
   exact .inr ⟨u,(f6 u).mpr (.inr (.inr h)),hl⟩
 rw[nO]
 by_cases hi:67≤aQ t∧aQ t≤70
 ·rcases aO7 H O C hbx (m:=m) (bH hn rfl) ht wt (ci:=σ1.length) (F.map (aP ts)) F (fun i=>[V.ref L.ho,aP ts x,aP ts t][i]?) σ2 (fun u hu=>⟨(f5 u hu).1,(f5 u hu).2.1,C.like x t u hin (by rw[hub];exact(f6 u).mpr (.inr (.inr hu)))⟩) (E1.trans f2) rfl rfl f3 with⟨ρ',σ3,u,k1,k2,hu,hl⟩ |⟨ρ',σ3,k1,k2,h⟩
  ·exact(fun _ k=>k true σ3 (pre (oO (oI (bV (aO (eE rfl rfl) hif) rfl) (decide_eq_true hi) (oL (nH (aO (eE rfl rfl) f1) f3 k1))))) ((E1.trans f2).trans k2) ⟨fun _=>⟨u,hu,hl⟩,fun _=>rfl⟩)
  ·exact(fun _ k=>k false σ3 (pre (fZ (oI (bV (aO (eE rfl rfl) hif) rfl) (decide_eq_true hi) (bI (nH (aO (eE rfl rfl) f1) f3 k1) rfl)) (bA rfl))) ((E1.trans f2).trans k2) ⟨fun k=>(by exact c7 k),fun⟨u,hu,hl⟩=>absurd hl (h u hu)⟩)
 ·refine(fun _ k=>k false σ1 (pre (bN (bV (aO (eE rfl rfl) hif) rfl) (decide_eq_false hi) (bA rfl))) E1 ⟨fun k=>(by exact c7 k),fun⟨u,hu,hl⟩=>absurd ?_ hi⟩)
  rcases hl with k |⟨ps,k,_⟩
  ·exact k▸(f5 u hu).2.2
  ·exact(kS k).1▸(f5 u hu).2.2
end
end
section
noncomputable def LIs (W:Wd) (x t:V):Prop:=aQ x≠8∧((aQ t=8∧∃v,t=tm 8 [v]∧x=v)∨(aQ t≠8∧aS t=true∧x=t)∨(aQ t≠8∧aS t=false∧D W x t))
section
variable {σh:aD}{L:Ly}{W:Wd}{ts:List V}{bk:Bk}{U Lp Q:List (V×V)}{σ:aD}
theorem wf8{t:V}(h:wf t=true)(h8:aQ t=8):t=tm 8 []∨∃v,t=tm 8 [v]∧wf v=true∧aS v=true:=by
 rcases cR h with⟨n,rfl,_⟩ |⟨hh,args,rfl,h0,ha,h1,h2⟩
 ·simp[aQ]at h8
 ·simp only[aQ]at h8
  subst h8
  have h2:=h2 rfl
  simp[eI]at ha
  match args,ha with
  |[],_=>exact .inl rfl
  |[v],_=>exact .inr ⟨v,rfl,by simpa using h1,by simpa using h2⟩
theorem uTk{t:TM}{s s2:SM}{ρ ρ1:Env}{σ1 σ2:aD}{v:V}{p:Bool}(h:t ρ σ=some (p,σ1))(q:p=true)(k:s ρ σ1=some (.ret v,ρ1,σ2)):aC (a8 t s aF) s2 ρ σ=some (.ret v,ρ1,σ2):=jL (q▸h) k
theorem cY4(H:bT σh L W ts)(O:dA W)(C:Cl W U)(hbx:∀e t,(tm (-2) [e],t)∈U→aS e=true){x t:V}(hx:x∈ts)(wx:wf x=true)(ht:t∈ts)(wt:wf t=true)(hin:aS t=false→(x,t)∈U){n:Nat}(hn:19≤n):
  bI1 σh (LIs W x t) (aL n .instance_of [.ref L.ho,aP ts x,aP ts t] σh):=by
 obtain⟨m,rfl⟩:=jY hn rfl
 have hnx:=sQ H.tab (bG hx) (n:=m) (bH hn rfl)
 have hnt:=sQ H.tab (bG ht) (n:=m) (bH hn rfl)
 rw[aW9 wx]at hnx
 rw[aW9 wt]at hnt
 by_cases h8:aQ x=8
 ·exact(fun _ k=>k false σh (cL (bH hn rfl) (fun _=>rfl) rfl (cQ (H.a_kt rfl) (cU (bV (aO rfl hnx) rfl) (decide_eq_true h8) (bA rfl)))) .refl ⟨fun k=>(by exact c7 k),fun k=>absurd h8 k.1⟩)
 have pre:∀{v:V} {σ':aD},fN _ (aZ (fun i=>[V.ref L.ho,aP ts x,aP ts t][i]?) 3 (.ref L.kt)) σh v σ'→aL (m+1) .instance_of [.ref L.ho,aP ts x,aP ts t] σh=some (v,σ'):=fun h=>cL (bH hn rfl) (fun _=>rfl) rfl (cQ (H.a_kt rfl) (bN (bV (aO rfl hnx) rfl) (decide_eq_false h8) h))
 by_cases t8:aQ t=8
 ·have hat:=tG H.tab (bG ht) (n:=m) (bH hn rfl)
  rw[if_pos (.inr (by rcases wf8 wt t8 with rfl |⟨v,rfl,_⟩<;>rfl))]at hat
  rcases wf8 wt t8 with rfl |⟨v,rfl,wv,vv⟩
  ·refine(fun _ k=>k false σh (pre (oO (oI (bV (aO rfl hnt) rfl) rfl (bI (eM (aO rfl hat)) (uTk (bQ (kG rfl rfl) rfl) rfl (k0 rfl)))))) .refl ⟨fun k=>(by exact c7 k),fun k=> ?_⟩)
   rcases k.2 with⟨_,v,h,_⟩ |⟨h,_⟩ |⟨h,_⟩
   ·cases h
   ·exact absurd t8 h
   ·exact absurd t8 h
  ·have hv:v∈ts:=(H.args _ ht (show(8:Int)≠0 by decide) v (.head _)).1
   have hvv:=kR H.tab (bG hv) (n:=m) (bH hn rfl)
   rw[uV wv,vv]at hvv
   have pre2:∀{w:V} {σ':aD},fN _ _ σh w σ'→_:=fun {w σ'} h=>pre (v:=w) (σ':=σ') (fZ (oI (bV (aO rfl hnt) rfl) rfl (bI (eM (aO rfl hat)) (bI (iQ (bQ (kG rfl rfl) rfl) rfl) (bI (eM (v:=aP ts v) rfl) rfl)))) h)
   by_cases e:x=v
   ·exact(fun _ k=>k true σh (pre2 (cU (lR rfl rfl (by rw[e])) rfl (bA rfl))) .refl ⟨fun _=>⟨h8,.inl ⟨t8,v,rfl,e⟩⟩,fun _=>rfl⟩)
   ·have ne:¬((eF ts x:Nat):Int)=(eF ts v:Nat):=fun h=>e (gF hx hv (Int.ofNat.inj h))
    refine(fun _ k=>k false σh (pre2 (bN (bQ rfl rfl) (decide_eq_false ne) (cU (bV (aO rfl hvv) rfl) rfl (bA rfl)))) .refl ⟨fun k=>(by exact c7 k),fun k=> ?_⟩)
    rcases k.2 with⟨_,v',h,h'⟩ |⟨h,_⟩ |⟨h,_⟩
    ·cases h;exact absurd h' e
    ·exact absurd t8 h
    ·exact absurd t8 h
 have pre2:∀{v:V} {σ':aD},fN _ _ σh v σ'→_:=fun {v σ'} h=>pre (v:=v) (σ':=σ') (bN (bV (aO rfl hnt) rfl) (decide_eq_false t8) h)
 clear pre hnx hnt
 by_cases e:x=t
 ·refine(fun _ k=>k true σh (pre2 (cU (lR rfl rfl (by rw[e])) rfl (bA rfl))) .refl ⟨fun _=>⟨h8,?_⟩,fun _=>rfl⟩)
  induction v:aS t using Bool.casesOn with
  |true=>exact .inr (.inl ⟨t8,rfl,e⟩)
  |false=>exact .inr (.inr ⟨t8,rfl,.triv (.inl e)⟩)
 have ne:¬((eF ts x:Nat):Int)=(eF ts t:Nat):=fun h=>e (gF hx ht (Int.ofNat.inj h))
 have hvx:=kR H.tab (bG hx) (n:=m) (bH hn rfl)
 have hvt:=kR H.tab (bG ht) (n:=m) (bH hn rfl)
 rw[uV wx]at hvx
 rw[uV wt]at hvt
 induction vt:aS t using Bool.casesOn with
 |true=>
  rw[vt]at hvt
  refine(fun _ k=>k false σh (pre2 (bN (bQ rfl rfl) (decide_eq_false ne) (cU (bV (aO rfl hvt) rfl) rfl (bA rfl)))) .refl ⟨fun k=>(by exact c7 k),fun k=> ?_⟩)
  rcases k.2 with⟨h,_⟩ |⟨_,_,h⟩ |⟨_,h,_⟩
  ·exact absurd h t8
  ·exact absurd h e
  ·rw[vt]at h;exact kP h
 |false=>
  rw[vt]at hvt
  have hin:=hin vt
  have iff:D W x t↔LIs W x t:=by
   constructor
   ·exact fun k=>⟨h8,.inr (.inr ⟨t8,vt,k⟩)⟩
   ·rintro⟨_,⟨h,_⟩ |⟨_,h,_⟩ |⟨_,_,h⟩⟩
    ·exact absurd h t8
    ·rw[vt]at h;exact c7 h
    ·exact h
  induction vx:aS x using Bool.casesOn with
  |true=>
   rw[vx]at hvx
   refine(cH8 H O C hbx hx wx vx ht wt vt hin (n:=m) (bH hn rfl)) _ fun r σ' g1 g2 g3=> ?_
   exact(fun _ k=>k r σ' (pre2 (bN (bQ rfl rfl) (decide_eq_false ne) (bN (bV (aO rfl hvt) rfl) rfl (cU (bV (aO rfl hvx) rfl) rfl (bA (aO rfl g1)))))) g2 (g3.trans iff))
  |false=>
   rw[vx]at hvx
   refine(bL3 H O C hbx (s:=x) (t:=t) ⟨hx,.inl wx,by rw[dJ wx];exact hx,ht,wt,vt,by rw[gU wx,vx];rfl⟩ hin (n:=m) (bH hn rfl)) _ fun r σ' g1 g2 g3=> ?_
   rw[dJ wx]at g3
   exact(fun _ k=>k r σ' (pre2 (bN (bQ rfl rfl) (decide_eq_false ne) (bN (bV (aO rfl hvt) rfl) rfl (bN (bV (aO rfl hvx) rfl) rfl (bA (aO rfl g1)))))) g2 (g3.trans iff))
noncomputable def aS8 (σh:aD) (L:Ly) (W:Wd) (ts:List V) (x:V) (t:V) (n:Nat) (f:FM):Prop:=∀G:Prop,(∀(r:Bool),∀(σ':aD),(f [.ref L.ho,aP ts x,aP ts t] σh=some (.bool r,σ'))→(cM σh σ')→((r=true↔D W (bS x) t))→G)→G
theorem aA8(H:bT σh L W ts)(O:dA W)(C:Cl W U)(hbx:∀e t,(tm (-2) [e],t)∈U→aS e=true){x t:V}(hx:x∈ts)(wx:lZ x)(ux:bS x∈ts)(rx:hK x=true)(ht:t∈ts)(wt:wf t=true)(vt:aS t=false)(hin:(x,t)∈U){n:Nat}(hn:19≤n):
  aS8 σh L W ts x t n (aL n .assignable):=by
 obtain⟨m,rfl⟩:=jY hn rfl
 have h1:=fG H.tab (bG hx) (n:=m) (bH hn rfl)
 have h2:=fG H.tab (bG ht) (n:=m) (bH hn rfl)
 rw[rx]at h1
 rw[gU wt,vt]at h2
 refine(bL3 H O C hbx (s:=x) (t:=t) ⟨hx,wx,ux,ht,wt,vt,rx⟩ hin (n:=m) (bH hn rfl)) _ fun r σ' g1 g2 g3=> ?_
 exact(fun _ k=>k r σ' (cL (bH hn rfl) (fun _=>rfl) rfl (cU (gT (bV (aO (aU (H.a_kt rfl) rfl) h1) rfl) (bV (aO (aU (H.a_kt rfl) rfl) h2) rfl)) rfl (bA (aO rfl g1)))) g2 g3)
theorem aA7(H:bT σh L W ts){x t:V}(hx:x∈ts)(ht:t∈ts)(hv:hK x=false∨hK t=false){n:Nat}(hn:5≤n)(d:Bool)(hd:d=true↔x=t):
  aL n .assignable [.ref L.ho,aP ts x,aP ts t] σh=some (.bool d,σh):=by
 have he:d=decide (((eF ts x:Nat):Int)=(eF ts t:Nat)):=by
  by_cases e:x=t
  ·rw[hd.mpr e,decide_eq_true (by rw[e])]
  ·rw[decide_eq_false fun h:((eF ts x:Nat):Int)=(eF ts t:Nat)=>e (gF hx ht (Int.ofNat.inj h))]
   exact Bool.eq_false_iff.mpr fun q=>e (hd.mp q)
 rw[he]
 exact iM hn rfl (fun _=>rfl) rfl fun m hm=>bN (gT (bV (aO (aU (H.a_kt rfl) rfl) (fG H.tab (bG hx) (bH hm rfl))) rfl) (bV (aO (aU (H.a_kt rfl) rfl) (fG H.tab (bG ht) (bH hm rfl))) rfl)) (by rcases hv with h |h<;>rw[h];exact rfl;exact Bool.and_false _) (bA (eH (bQ rfl rfl)))
end
end
section
section
variable {σh:aD}{L:Ly}{W:Wd}{ts:List V}{bk:Bk}{U Lp Q:List (V×V)}{σ:aD}
theorem eO.null(H:eO σh L ts):tP 14∈ts∧((eF ts (tP 14):Nat):Int)=14:=⟨List.mem_of_getElem? (H.prim 14 (eC rfl)),uZ H (t9 rfl) (iDt rfl)⟩
theorem aG4{t:V}(h:wf t=true):t≠tP 14:=fun e=>by
 rcases cR h with⟨n,rfl,h1,h2⟩ |⟨hh,args,rfl,h0,_⟩
 ·simp at e;omega
 ·simp at e;exact h0 e.1
theorem xB{m:Nat}(hm:2≤m){a b:V}{r:Bool}{σ1:aD}(aw:aL m .assign_within [.ref L.ho,a,b,.ref (σ.length+1)] (pZ σ)=some (.bool r,σ1)):
  (r=true→aL (m+1) .assign_settled [.ref L.ho,a,b,.int 0] σ=some (.bool true,σ1))∧
  (r=false→∀σ2 d,aL m .settle_book [.ref L.ho,.ref (σ.length+1)] σ1=some (.none,σ2)→(∀ρ:Env,ρ 1=some a→ρ 2=some b→ρ 4=some (.ref (σ.length+1))→aK .isIn (aE [(aA 1),(aA 2)]) (aR (aA 4) "proved") ρ σ2=some (d,σ2))→
   aL (m+1) .assign_settled [.ref L.ho,a,b,.int 0] σ=some (.bool d,σ2)):=by
 refine⟨fun q=> ?_,fun q σ2 d hs hd=> ?_⟩<;>subst q
 ·exact cL hm (fun _=>rfl) rfl (cQ (m7 rfl) (cU (bV (aO rfl aw) rfl) rfl (bA rfl)))
 ·exact cL hm (fun _=>rfl) rfl (cQ (m7 rfl) (bN (bV (aO rfl aw) rfl) rfl (fZ (pR (aO rfl hs)) (bA (eH (hd _ rfl rfl rfl))))))
theorem aW6{m:Nat}(hm:2≤m){a b:V}{r:Bool}{σ1:aD}(h:aL m .assign_settled [.ref L.ho,a,b,.int 0] σ=some (.bool r,σ1)):aL (m+1) .ref_assignable [.ref L.ho,a,b] σ=some (.bool r,σ1):=
 cL hm (fun _=>rfl) rfl (bA (aO rfl h))
theorem cP5(H:bT σh L W ts){t:V}(ht:t∈ts)(wt:wf t=true){n:Nat}(hn:18≤n):∃σ',aL n .assignable [.ref L.ho,.int 14,aP ts t] σh=some (.bool (!aS t),σ')∧cM σh σ':=by
 obtain⟨m,rfl⟩:∃m,n=m+4:=⟨n-4,xL hn rfl⟩
 obtain⟨n1,n2⟩:=H.tab.null
 have h1:=fG H.tab (bG n1) (show 4≤m+3 from tR hn rfl)
 have h2:=fG H.tab (bG ht) (show 4≤m+3 from tR hn rfl)
 rw[n2]at h1
 rw[show hK (tP 14)=true from rfl]at h1
 rw[gU wt]at h2
 have ne:¬(14:Int)=(eF ts t:Nat):=fun h=>aG4 wt (gF ht n1 (by omega))
 induction vt:aS t using Bool.casesOn with
 |true=>
  rw[vt]at h2
  exact⟨σh,cL (tR hn rfl) (fun _=>rfl) rfl (bN (gT (bV (aO (aU (H.a_kt rfl) rfl) h1) rfl) (bV (aO (aU (H.a_kt rfl) rfl) h2) rfl)) rfl (bA (eH (lS (aH rfl) (aH rfl) ne)))),.refl⟩
 |false=>
  rw[vt]at h2
  have HE:bT (pZ σh) L W ts:=H.ext j4
  have h1':=fG HE.tab (bG n1) (show 4≤m from mL hn rfl)
  have h2':=fG HE.tab (bG ht) (show 4≤m from mL hn rfl)
  rw[n2,show hK (tP 14)=true from rfl]at h1'
  rw[gU wt,vt]at h2'
  have haw:aL (m+1) .assign_within [.ref L.ho,.int 14,aP ts t,.ref (σh.length+1)] (pZ σh)=some (.bool true,pZ σh):=by
   exact cL (mL hn rfl) (fun _=>rfl) rfl (bN (bQ (aH rfl) (aH rfl)) (decide_eq_false ne) (cQ (HE.a_kt rfl) (bN (dW (jK (bV (aO rfl h1') rfl)) (jK (bV (aO rfl h2') rfl))) rfl (cU (bQ (aH rfl) rfl) rfl (bA rfl)))))
  have hst:=aW6 (L:=L) (Nat.le_add_left _ _) ((xB (tR hn rfl) haw).1 rfl)
  exact⟨pZ σh,cL (tR hn rfl) (fun _=>rfl) rfl (cU (gT (bV (aO (aU (H.a_kt rfl) rfl) h1) rfl) (bV (aO (aU (H.a_kt rfl) rfl) h2) rfl)) rfl (bA (aO rfl hst))),j4⟩
theorem cP4(H:bT σh L W ts)(O:dA W){t:V}(ht:t∈ts)(wt:wf t=true){n:Nat}(hn:20≤n):∃σ',aL n .assignable [.ref L.ho,aP ts t,.int 14] σh=some (.bool false,σ')∧cM σh σ':=by
 obtain⟨m,rfl⟩:∃m,n=m+4:=⟨n-4,xL hn rfl⟩
 obtain⟨n1,n2⟩:=H.tab.null
 have h1:=fG H.tab (bG n1) (show 4≤m+3 from tR hn rfl)
 have h2:=fG H.tab (bG ht) (show 4≤m+3 from tR hn rfl)
 rw[n2]at h1
 rw[show hK (tP 14)=true from rfl]at h1
 rw[gU wt]at h2
 have ne:¬((eF ts t:Nat):Int)=14:=fun h=>aG4 wt (gF ht n1 (by omega))
 induction vt:aS t using Bool.casesOn with
 |true=>
  rw[vt]at h2
  exact⟨σh,cL (tR hn rfl) (fun _=>rfl) rfl (bN (gT (bV (aO (aU (H.a_kt rfl) rfl) h2) rfl) (bV (aO (aU (H.a_kt rfl) rfl) h1) rfl)) rfl (bA (eH (lS (aH rfl) (aH rfl) ne)))),.refl⟩
 |false=>
  rw[vt]at h2
  have HE:bT (pZ σh) L W ts:=H.ext j4
  have h1':=fG HE.tab (bG n1) (show 4≤m from mL hn rfl)
  have h2':=fG HE.tab (bG ht) (show 4≤m from mL hn rfl)
  rw[n2,show hK (tP 14)=true from rfl]at h1'
  rw[gU wt,vt]at h2'
  have haw:aL (m+1) .assign_within [.ref L.ho,aP ts t,.int 14,.ref (σh.length+1)] (pZ σh)=some (.bool false,pZ σh):=by
   exact cL (mL hn rfl) (fun _=>rfl) rfl (bN (bQ (aH rfl) (aH rfl)) (decide_eq_false ne) (cQ (HE.a_kt rfl) (bN (dW (jK (bV (aO rfl h2') rfl)) (jK (bV (aO rfl h1') rfl))) rfl (bN (bQ (aH rfl) rfl) (decide_eq_false ne) (cU (qP (lR (i:=14) (j:=14) (aH rfl) rfl rfl)) rfl (bA rfl))))))
  have B0:dE (vQ σh) ts [] (pZ σh) [] []:=bC9
  have lo:σh.length≤(vQ σh).p∧σh.length≤(vQ σh).l∧σh.length≤(vQ σh).q:=by simp[vQ]
  refine(v9 H O lo (U:=[]) ⟨(by simp),(fun _ _ h=>(by cases h)),(fun _ _ _ h=>(by cases h))⟩ (fun _ _ h=>(by cases h)) j4 B0 (fun _ h=>(by cases h)) (n:=m+1) (tR hn rfl)) _ fun _ σ2 Lp2 Q2 g1 g2 g3 g4 g5 g6=> ?_
  have hlk:=m0 (p:=(t,tP 14)) ⟨ht,n1⟩ g2.two'
  have hq:(t,tP 14)∉Q2:=fun k=>by
   have:=g2.sub _ (g2.qs _ k)
   cases this
  have hfold:V.tup [aP ts t,.int 14]=jF ts (t,tP 14):=by unfold jF;rw[show aP ts (tP 14)= .int 14 by show V.int _=_;rw[n2]]
  have hst:=aW6 (L:=L) (Nat.le_add_left _ _) ((xB (tR hn rfl) haw).2 rfl σ2 false g1 (fun ρ r1 r2 r4=>by
   exact(aZ8 (by rw[←hfold];exact fK (eE r1 r2)) (eR (aH r4) g2.fields rfl) g2.q (eX (o8 ts Q2) (mZ ts _))).trans (by rw[hlk.2 hq];rfl)))
  exact⟨σ2,cL (tR hn rfl) (fun _=>rfl) rfl (cU (gT (bV (aO (aU (H.a_kt rfl) rfl) h2) rfl) (bV (aO (aU (H.a_kt rfl) rfl) h1) rfl)) rfl (bA (aO rfl hst))),g3.ext j4 fun i hi=>(List.mem_cons.mp hi).elim (fun h=>h▸lo.1) fun hi=>(List.mem_cons.mp hi).elim (fun h=>h▸lo.2.1) fun hi=>List.mem_singleton.mp hi▸lo.2.2⟩
end
end
section
theorem V.beq_comm(a b:V):V.beq a b=V.beq b a:=by
 by_cases q:a=b
 ·rw[q]
 ·rw[V.beq_ne q,V.beq_ne fun e=>q e.symm]
set_option tactic.hygienic true in
theorem nK:∀(d:Nat) (x:V),dP d x=true→V.treeIn d x=true
 |0,x,h=>by exact c7 h
 |d+1,x,h=>by
  unfold dP at h
  split at h
  ·rename_i hh args
   unfold V.treeIn
   rw[List.all_cons]
   by_cases q:hh=0
   ·simp only[q,if_true]at h
    split at h
    ·cases d<;>exact rfl
    ·exact c7 h
   ·simp only[q,if_false,Bool.and_eq_true]at h
    have:V.treeIn d (.int hh)=true:=by cases d<;>rfl
    rw[this,Bool.true_and]
    exact vH (fun y _=>nK d y) h.1.2
  ·exact c7 h
theorem yW:∀(d:Nat) (x:V),V.treeIn d x=true→V.treeIn (d+1) x=true
 |d,.int _,_=>by cases d<;>rfl
 |0,.tup l,h=>by simp[V.treeIn]at h
 |d+1,.tup l,h=>by
  unfold V.treeIn at h⊢
  exact vH (fun y _=>yW d y) h
 |d,.none,h=>by cases d<;>exact h
 |d,.bool _,h=>by cases d<;>exact h
 |d,.str _,h=>by cases d<;>exact h
 |d,.ref _,h=>by cases d<;>exact h
 |d,.gd _,h=>by cases d<;>exact h
 |d,.gl _,h=>by cases d<;>exact h
theorem lI{x:V}(h:wf x=true):x= .tup (.int (aQ x)::bY x):=by
 rcases cR h with⟨n,rfl,_⟩ |⟨hh,args,rfl,_⟩<;>rfl
theorem iO{x:V}(h:wf x=true):x.kind=2:=by
 have t:=yW 6 x (nK 6 x h)
 have e:=lI h
 have k:x.isKeyTup=true:=by
  rw[e]at t⊢
  exact t
 rw[e]at k⊢
 exact if_pos (by assumption)
theorem bI7{x:V}(h:wf x=true):x.isKeyTup=true:=by
 have t:=yW 6 x (nK 6 x h)
 rw[lI h]at t⊢
 exact t
theorem oS{x y:V}(hx:wf x=true)(hy:wf y=true):uG x y=some (V.beq x y):=by
 have k1:=bI7 hx
 have k2:=bI7 hy
 rw[lI hx]at k1⊢
 rw[lI hy]at k2⊢
 simp only[uG,k1,k2,Bool.and_self,if_true]
theorem aB2{s t:V}(hs:wf s=true)(ht:wf t=true):(V.tup [s,t]).kind=2:=by
 have k:V.isKeyTup (.tup [s,t])=true:=by
  show V.treeIn 7 _=true
  unfold V.treeIn
  simp[nK 6 s hs,nK 6 t ht]
 exact if_pos (by assumption)
set_option genInjectivity false in
structure cX where
 w:Nat
 m:Nat
 u:Nat
 y:Nat
 b:Nat
 f:Nat
structure fO(σ:aD)(kt:Nat)(X:cX)(W:Wd):Prop where
 w:σ[X.w]? =some (.dict [(.str "kt",.ref kt),(.str "made",.ref X.m),(.str "num",tP W.u1),(.str "under",.ref X.u),(.str "ways",.ref X.y),(.str "base",.ref X.b),(.str "faces",.ref X.f)])
 u:σ[X.u]? =some (.dict [(tm 75 [],tP W.u1),(tm 76 [],tP W.u2)])
 y:σ[X.y]? =some (.dict [(.int 69,.tup [.int W.w69]),(.int 70,.tup [.int W.wa,.int W.wb]),(.int 71,.tup [.int W.w71])])
 b:σ[X.b]? =some (.dict [(tm 3 [],tm 2 []),(tB,W.bB),(tC,W.bC)])
 f:∃es,σ[X.f]? =some (.dict es)∧f9 es∧∀x,(∀l,dD W.fl x=some l→∃j,bW es x=some (.ref j)∧σ[j]? =some (.list l))∧(dD W.fl x=none→bW es x=none)
section
variable {σ:aD}{kt:Nat}{X:cX}{W:Wd}
theorem fO.ext{σ':aD}(R:fO σ kt X W)(E:cM σ σ'):fO σ' kt X W:=
 ⟨E _ _ R.w,E _ _ R.u,E _ _ R.y,E _ _ R.b,R.f.imp fun es q=>⟨E _ _ q.1,q.2.1,fun x=>⟨fun l h=>((q.2.2 x).1 l h).imp fun j r=>⟨r.1,E _ _ r.2⟩,(q.2.2 x).2⟩⟩⟩
noncomputable def dA6 (h:Int):Bool:=[V.int 8,.int 73,.int 74,.int 75,.int 76].any fun y=>V.beq y (.int h)
theorem mG{x:V}(h:wf x=true){n:Nat}(hn:3≤n):aL n .law_value [x] σ=some (.bool (aS x),σ):=by
 rcases cR h with⟨k,rfl,h1,h2⟩ |⟨hh,args,rfl,h0,ha,_⟩
 ·rw[show aS (tP k)=(false||(true&&decide (k<12)))from rfl]
  exact iM hn rfl (fun _=>rfl) rfl fun m hm=>bA (aG9 (eH (cV (bE (aH rfl) rfl rfl) rfl rfl)) (bA0 (eH (cV (bE (aH rfl) rfl rfl) rfl rfl)) (eH (cV (bE (aH rfl) rfl rfl) rfl rfl))))
 ·have e:(dA6 hh||false)=aS (tm hh args):=(of_decide_eq_true (fI (fun h=>decide ((dA6 h||false)=sZ h)) rfl ha)).trans (rJ h0).symm
  rw[←e]
  exact iM hn rfl (fun _=>rfl) rfl fun m hm=>bA (aG9 (eH (cV (bE (aH rfl) rfl rfl) rfl rfl)) (wZ (eH (cV (bE (aH rfl) rfl rfl) rfl (congrArg some (decide_eq_false h0))))))
theorem wW(R:fO σ kt X W){ρ:Env}(r0:ρ 0=some (.ref X.w)):aG (aA 0) (bU "made") ρ σ=some (.ref X.m,σ):=bE (aH r0) rfl (kC R.w rfl rfl)
theorem dN6(R:fO σ kt X W){ρ:Env}(r0:ρ 0=some (.ref X.w)):aG (aA 0) (bU "kt") ρ σ=some (.ref kt,σ):=bE (aH r0) rfl (kC R.w rfl rfl)
theorem aG6(R:fO σ kt X W){ρ:Env}(r0:ρ 0=some (.ref X.w)):aG (aA 0) (bU "base") ρ σ=some (.ref X.b,σ):=bE (aH r0) rfl (kC R.w rfl rfl)
theorem cM0(R:fO σ kt X W){ρ:Env}(r0:ρ 0=some (.ref X.w)):aG (aA 0) (bU "faces") ρ σ=some (.ref X.f,σ):=bE (aH r0) rfl (kC R.w rfl rfl)
theorem cL9(R:fO σ kt X W){ρ:Env}(r0:ρ 0=some (.ref X.w)):aG (aA 0) (bU "under") ρ σ=some (.ref X.u,σ):=bE (aH r0) rfl (kC R.w rfl rfl)
theorem bI8(R:fO σ kt X W){ρ:Env}(r0:ρ 0=some (.ref X.w)):aG (aA 0) (bU "ways") ρ σ=some (.ref X.y,σ):=bE (aH r0) rfl (kC R.w rfl rfl)
theorem dH3(R:fO σ kt X W){ρ:Env}(r0:ρ 0=some (.ref X.w)):aG (aA 0) (bU "num") ρ σ=some (tP W.u1,σ):=bE (aH r0) rfl (kC R.w rfl rfl)
end
end
section
section
variable {σ:aD}{kt:Nat}{X:cX}{W:Wd}
noncomputable def oU (W:Wd):List (V×V):=[(tm 3 [],tm 2 []),(tB,W.bB),(tC,W.bC)]
theorem bF3(W:Wd)(x:V):base W x=match bW (oU W) x with |some v=>some v |none=>i7 x:=by
 unfold base oU
 rw[V.beq_comm x (tm 3 []),V.beq_comm x tB,V.beq_comm x tC]
 simp only[bW]
 cases V.beq (tm 3 []) x<;>cases V.beq tB x<;>cases V.beq tC x<;>rfl
theorem yG(W:Wd):f9 (oU W):=by
 intro e he
 simp[oU]at he
 rcases he with rfl |rfl |rfl<;>rfl
noncomputable def upS:SM:=(a8 (aK .isIn (aA 1) (aG (aA 0) (bU "base"))) (aC (aV 2 (cF [(aG (aG (aA 0) (bU "base")) (aA 1))])) aF) (aC (a8 (aK .eq (aG (aA 1) (aB 0)) (aB 0)) (aC (aV 2 (fF (aK .lt (aG (aA 1) (aB 1)) (aB 12)) (cF [(aE [(aB 2)])]) (hX (cF [(aX b9)]) none (some (aT .sub (aG (aA 1) (aB 1)) (aB 12)))))) aF) (aC (a8 (oM .le .le (aB 67) (aG (aA 1) (aB 0)) (aB 70)) (aC (aV 2 (cF [])) aF) (aC (aV 2 (cF [(jQ (cI [((aB (-1)),(aE [(aB 5)])),((aB 8),(aE [(aB 2)])),((aB 71),(aE [(aB 6)])),((aB 73),(aE [(aB 2)])),((aB 74),(aE [(aB 2)])),((aB 75),(aE [(aB 3)])),((aB 76),(aE [(aB 3)]))]) (aG (aA 1) (aB 0)) (aX b9))])) aF)) aF)) aF))
noncomputable def upG:List (V×V):=[(.int (-1),tm 5 []),(.int 8,tm 2 []),(.int 71,tm 6 []),(.int 73,tm 2 []),(.int 74,tm 2 []),(.int 75,tm 3 []),(.int 76,tm 3 [])]
theorem bV7(ρ:Env)(σ:aD):cI [((aB (-1)),(aE [(aB 5)])),((aB 8),(aE [(aB 2)])),((aB 71),(aE [(aB 6)])),((aB 73),(aE [(aB 2)])),((aB 74),(aE [(aB 2)])),((aB 75),(aE [(aB 3)])),((aB 76),(aE [(aB 3)]))] ρ σ=some (.ref σ.length,σ++[.dict upG]):=by
 rfl
theorem cM3:iF upG:=by
 intro e he
 simp[upG]at he
 rcases he with rfl |rfl |rfl |rfl |rfl |rfl |rfl<;>rfl
theorem rU{es:List EM}{ρ:Env}{vs:List V}{σ1:aD}(h:dO es ρ σ=some (vs,σ1)):cF es ρ σ=some (.ref σ1.length,σ1++[.list vs]):=by simp only[cF,h,eP]
theorem dH7{a b:EM}{ρ:Env}{σ1 σ2:aD}{i j:Nat}{x y:List V}(h:a ρ σ=some (.ref i,σ1))(k:b ρ σ1=some (.ref j,σ2))(g:σ2[i]? =some (.list x))(g2:σ2[j]? =some (.list y))(d:x.length+y.length≤1000):aT .add a b ρ σ=some (.ref σ2.length,σ2++[.list (x++y)]):=qR h k (by simp only[aC6 g g2,d,if_true,eP])
theorem cG9{o e:EM}{ρ:Env}{σ1:aD}{j:Nat}{l:List V}{b:Int}(h:o ρ σ=some (.ref j,σ1))(k:e ρ σ1=some (.int b,σ1))(g:σ1[j]? =some (.list l))(d:0≤b∧b≤1000∧l.length≤1000):hX o none (some e) ρ σ=some (.ref σ1.length,σ1++[.list (l.take b.toNat)]):=by simp only[hX,h,pI,k,dC6 g,d,and_self,if_true,eP]
theorem dN7{b:EM}{ρ:Env}{i:Int}{x y:Int}(h:b ρ σ=some (.int i,σ)):oM .le .le (aB x) b (aB y) ρ σ=some (decide (x≤i)&&decide (i≤y),σ):=by
 by_cases q:x≤i<;>simp only[oM,aB,h,gK,lV,q,decide_true,decide_false]<;>rfl
theorem gW{o:bF}:(σ++[o])[σ.length]? =some o:=List.getElem?_concat_length ..
set_option tactic.hygienic true in
theorem cT9{h:Int}{l:List V}(h0:h≠0)(ha:eI h l.length=true)(hi:¬(67≤h∧h≤70)):i7 (tm h l)=some ((bW upG (.int h)).getD eQ):=by
 have e:i7 (tm h l)=i7 (tm h []):=by
  unfold i7
  rw[if_neg (show ¬aQ (tm h l)=0 from h0),if_neg (show ¬aQ (tm h [])=0 from h0)];rfl
 have key:=of_decide_eq_true (fI (fun h=>decide ((67≤h∧h≤70)∨(match i7 (tm h [])with |some v=>V.beq v ((bW upG (.int h)).getD eQ) |none=>false)=true)) rfl ha)
 have key:=key.resolve_left hi
 rw[e]
 split at key
 ·rename_i v q;rw[q,(V.beq_iff _ _).mp key]
 ·exact c7 key
noncomputable def bV6 (W:Wd) (x:V) (ρ:Env) (σ:aD) (r:Option (Fl×Env×aD)):Prop:=∀G:Prop,(∀(j:Nat),∀(σ':aD),∀(h:r=some (.next,aZ ρ 2 (.ref j),σ')),∀(E:cM σ σ'),∀(g:σ'[j]? =some (.list (base W x).toList)),G)→G
theorem cX2(R:fO σ kt X W){x:V}(h:wf x=true){ρ:Env}(r0:ρ 0=some (.ref X.w))(r1:ρ 1=some x):bV6 W x ρ σ (upS ρ σ):=by
 have hb:=bF3 W x
 have hk:=eX (yG W) (iO h)
 induction q:bW (oU W) x using Option.casesOn with
 |some v=>
  rw[q]at hb
  exact(fun _ k=>k _ _ (oI (z7 (aH r1) (aG6 R r0) R.b hk q) rfl (bI (eM (rU (aU (bE (aG6 R r0) (aH r1) (kC R.b hk q)) rfl))) rfl)) .app (by rw[hb];exact gW))
 |none=>
  rw[q]at hb
  have t1:=z7 (aH r1) (aG6 R r0) R.b hk q
  rcases cR h with⟨n,rfl,h1,h2⟩ |⟨hh,args,rfl,h0,ha,_⟩
  ·have pre:∀{j:Nat} {σ':aD},(fF (aK .lt (aG (aA 1) (aB 1)) (aB 12)) (cF [(aE [(aB 2)])]) (hX (cF [(aX b9)]) none (some (aT .sub (aG (aA 1) (aB 1)) (aB 12))))) ρ σ=some (.ref j,σ')→upS ρ σ=some (.next,aZ ρ 2 (.ref j),σ'):=fun e=>
    w8 t1 rfl (bI (oI (bQ (bE (aH r1) rfl rfl) rfl) rfl (bI (eM e) rfl)) rfl)
   by_cases hn:n<12
   ·exact(fun _ k=>k _ _ (pre (oE (cV (q:= .lt) (bE (aH r1) rfl rfl) rfl (congrArg some (decide_eq_true hn))) (rU (aU rfl rfl)))) .app (by rw[hb];exact gW.trans (by simp[i7,aQ,iZ,hn])))
   ·have:n=12∨n=13:=by omega
    rcases this with rfl |rfl
    ·exact(fun _ k=>k _ _ (pre (mE (cV (q:= .lt) (bE (aH r1) rfl rfl) rfl rfl) (cG9 (rU (aU rfl rfl)) (qR (bE (aH r1) rfl rfl) rfl rfl) gW (by decide)))) (cM.app.trans .app) (by rw[hb];exact gW))
    ·exact(fun _ k=>k _ _ (pre (mE (cV (q:= .lt) (bE (aH r1) rfl rfl) rfl rfl) (cG9 (rU (aU rfl rfl)) (qR (bE (aH r1) rfl rfl) rfl rfl) gW (by decide)))) (cM.app.trans .app) (by rw[hb];exact gW))
  ·have t3:=dN7 (x:=67) (y:=70) (bE (aH r1) (b:=aB 0) (σ2:=σ) rfl (w:= .int hh) rfl)
   by_cases hi:67≤hh∧hh≤70
   ·exact(fun _ k=>k _ _ (w8 t1 rfl (bI (w8 (bQ (bE (aH r1) rfl rfl) rfl) (decide_eq_false h0) (bI (oI t3 (by rw[decide_eq_true hi.1,decide_eq_true hi.2];rfl) (bI (eM (rU rfl)) rfl)) rfl)) rfl)) .app (by rw[hb];exact gW.trans (by simp[i7,aQ,h0,hi])))
   ·have hi2:(decide (67≤hh)&&decide (hh≤70))=false:=Bool.eq_false_iff.mpr fun q=>by
     rw[Bool.and_eq_true,decide_eq_true_eq,decide_eq_true_eq]at q;exact hi q
    have dk:fM upG (.int hh)=true:=fU cM3 hh
    have g:(σ++[bF.dict upG])[σ.length]? =some (.dict upG):=gW
    refine(fun _ k=>k _ _ (w8 t1 rfl (bI (w8 (bQ (bE (aH r1) rfl rfl) rfl) (decide_eq_false h0) (bI (w8 t3 hi2 (bI (eM (rU (aU (qQ (bV7 ρ σ) (by simp only[iE,g]) (bE (aH r1) rfl rfl) rfl (by simp only[mN,g,dk,if_true];rfl)) rfl))) rfl)) rfl)) rfl)) (cM.app.trans .app) ?_)
    rw[hb]
    show _=some (bF.list (i7 (tm hh args)).toList)
    rw[cT9 h0 ha hi]
    exact gW
noncomputable def bY8 (σ:aD) (X:cX) (W:Wd) (x:V) (n:Nat) (f:FM):Prop:=∀G:Prop,(∀(j:Nat),∀(σ':aD),(f [.ref X.w,x] σ=some (.ref j,σ'))→(cM σ σ')→(σ'[j]? =some (.list (step W x)))→(σ.length≤j)→G)→G
theorem cX8(R:fO σ kt X W)(O:dA W){x:V}(h:wf x=true){n:Nat}(hn:3≤n):
  bY8 σ X W x n (aL n .law_step):=by
 obtain⟨m,rfl⟩:=jY hn rfl
 refine(cX2 R h (ρ:=fun i=>[V.ref X.w,x][i]?) rfl rfl) _ fun j σ1 g1 g2 g3=> ?_
 have R1:=R.ext g2
 obtain⟨es,f1,f2,f3⟩:=R1.f
 have hk:=eX f2 (iO h)
 have f1':(σ1++[bF.list []])[X.f]? =some (.dict es):=cZ f1
 have hj:(σ1++[bF.list []])[j]? =some (.list (base W x).toList):=cZ g3
 obtain⟨jf,hjf,hjl⟩:∃jf,(bW es x).getD (.ref σ1.length)= .ref jf∧(σ1++[bF.list []])[jf]? =some (.list (dH W x)):=by
  unfold dH
  induction q:dD W.fl x using Option.casesOn with
  |some l=>
   obtain⟨k,a,b⟩:=(f3 x).1 l q
   exact⟨k,by rw[a];rfl,cZ b⟩
  |none=>
   rw[(f3 x).2 q]
   exact⟨σ1.length,rfl,gW⟩
 have hl:=O.flen x
 have hbl:(base W x).toList.length≤1:=by cases base W x<;>exact Nat.le_of_ble_eq_true rfl
 have hl2:(base W x).toList.length+(dH W x).length≤1000:=nAr hbl hl rfl
 refine(fun _ k=>k ((σ1++[bF.list []]).length) ((σ1++[bF.list []])++[bF.list (step W x)]) (cL (bH hn rfl) (fun _=>rfl) rfl (fZ g1 (bA (dH7 (aH rfl) (qQ (v:= .ref jf) (cM0 R1 rfl) (by simp only[iE,f1]) (aH rfl) (rU rfl) (by simp only[mN,f1',hk,if_true,hjf])) hj hjl hl2)))) (g2.trans (cM.app.trans .app)) gW ?_)
 have:=g2.len
 rw[List.length_append];omega
noncomputable def vV (u:V):Nat:=if 67≤aQ u∧aQ u≤70 then wt u else(rO u+1)*20
noncomputable def jI (l:List V):Nat:=(l.map vV).sum
theorem aZ3(a b:List V):jI (a++b)=jI a+jI b:=by simp[jI]
theorem cT5(u:V):1≤vV u:=by
 unfold vV
 split
 ·exact rB u
 ·omega
theorem vK:∀l:List V,l.length≤jI l
 |[]=>Nat.le_refl _
 |y::T=>by
  have:=vK T;have:=cT5 y
  simp only[jI,List.map_cons,List.sum_cons,List.length_cons]at*;omega
theorem cG4(O:dA W)(x:V):jI (dH W x)=jZ (dH W x):=by
 have h:=O.fif x
 unfold jI jZ
 congr 1
 refine List.map_congr_left fun y hy=> ?_
 unfold vV
 rw[if_pos (h y hy)]
theorem zM(O:dA W){x v:V}(h:wf x=true)(hb:base W x=some v):¬(67≤aQ v∧aQ v≤70):=by
 rcases yF h hb with rfl |rfl |rfl |rfl |rfl |rfl |rfl
 iterate 5 decide
 ·rcases O.bB with q |q<;>rw[q]<;>decide
 ·rcases O.bC with q |q |q |q<;>rw[q]<;>decide
theorem cG3(O:dA W){x:V}(h:wf x=true):jI (step W x)+1≤vV x:=by
 unfold step
 rw[aZ3,cG4 O]
 by_cases hi:67≤aQ x∧aQ x≤70
 ·rw[xX hi.1 hi.2]
  have:=aD0 O hi.1 hi.2
  unfold vV
  rw[if_pos hi]
  simp[jI];exact Nat.succ_le_of_lt this
 ·have hp:=aR2 O x
  unfold vV
  rw[if_neg hi]
  induction q:base W x using Option.casesOn with
  |none=>simp[jI];omega
  |some v=>
   have h1:=aO6 O h q
   have h2:=zM O h q
   have:jI (some v).toList=(rO v+1)*20:=if_neg (by assumption)
   rw[this];omega
theorem uY(O:dA W){x:V}(h:wf x=true):∀y∈step W x,wf y=true:=by
 intro y hy
 rcases List.mem_append.mp hy with hy |hy
 ·rcases yF h (Option.mem_toList.mp hy)with rfl |rfl |rfl |rfl |rfl |rfl |rfl
  iterate 5 rfl
  ·rcases O.bB with q |q<;>rw[q]<;>rfl
  ·rcases O.bC with q |q |q |q<;>rw[q]<;>rfl
 ·exact O.fwf x y hy
theorem hH.wf(O:dA W){x u:V}(r:hH W x u)(h:Mine.Internal.wf x=true):Mine.Internal.wf u=true:=by
 induction r with
 |refl=>exact h
 |step _ hv ih=>exact uY O ih _ hv
end
end
section
theorem y5{l:List V}{x:V}(hx:wf x=true)(hl:∀y∈l,wf y=true):oF l x=some (l.any (V.beq · x)):=by
 unfold oF
 have h1:(x.kind==0||x.kind==2)=true:=by rw[iO hx];rfl
 have h2:l.all (fun y=>y.kind==0||y.kind==2)=true:=by
  rw[List.all_eq_true]
  intro y hy
  rw[iO (hl y hy)];rfl
 rw[h1,h2];rfl
section
variable {σ:aD}{kt:Nat}{X:cX}{W:Wd}
noncomputable def UI:SM:=aC (a8 (aK .notIn (aA 4) (aA 2)) (aC (cG (b7 (aA 2) (aA 4))) aF) aF) aF
noncomputable def aR8 (o:Nat) (l out:List V) (ρ:Env) (σ:aD) (r:Option (Fl×Env×aD)):Prop:=∀G:Prop,(∀(new:List V),∀(ρ':Env),∀(σ':aD),(r=some (.next,ρ',σ'))→(∀j,j≠4→ρ' j=ρ j)→(cA [o] σ σ')→(σ'[o]? =some (.list (out++new)))→(∀y∈l,y∈out++new)→(∀y∈new,y∈l)→(jI new≤jI l)→G)→G
theorem m9(y:V)(l:List V):jI (y::l)=vV y+jI l:=by rw[jI,List.map_cons,List.sum_cons];rfl
theorem s8{o cj:Nat}(hoc:cj≠o)(all:List V):∀(l out:List V) (ρ:Env) (σ:aD),(∀y∈l,wf y=true)→(∀y∈out,wf y=true)→out.length+l.length≤1000→ρ 2=some (.ref o)→σ[o]? =some (.list out)→σ[cj]? =some (.list all)→
  aR8 o l out ρ σ (dM 4 UI (.list cj) all l ρ σ)
 |[],out,ρ,σ,_,_,_,_,h,_=>(fun _ k=>k [] ρ σ rfl (fun _ _=>rfl) .refl (by rw[List.append_nil];exact h) (fun y hy=>(by cases hy)) (fun y hy=>(by cases hy)) (Nat.le_refl _))
 |y::l,out,ρ,σ,hl,ho,hn,r2,ho1,hc1=>by
  rw[List.length_cons]at hn
  have wy:=hl y (.head _)
  have hj:∀j,j≠4→aZ ρ 4 y j=ρ j:=fun j hj=>if_neg hj
  have hm:aK .notIn (aA 4) (aA 2) (aZ ρ 4 y) σ=some (!out.any (V.beq · y),σ):=cV (aH rfl) (aH r2) (by simp only[gK,sS,ho1,y5 wy ho,Option.map_some])
  by_cases hin:y∈out
  ·refine(s8 hoc all l out (aZ ρ 4 y) σ (fun z hz=>hl z (.tail _ hz)) ho (by omega) r2 ho1 hc1) _ fun new ρ' σ' g1 g2 g3 g4 g5 g6 g7=> ?_
   exact(fun _ k=>k new ρ' σ' (uB (bI (iQ hm (by rw[oZ.mpr hin];rfl)) rfl) hc1 g1) (fun j h=>(g2 j h).trans (hj j h)) g3 g4 (fun z hz=>(List.mem_cons.mp hz).elim (fun h=>h▸List.mem_append_left _ hin) (g5 z)) (fun z hz=> .tail _ (g6 z hz)) (by rw[m9];omega))
  ·have hc2:(σ.set o (.list (out++[y])))[cj]? =some (.list all):=(a9 (Ne.symm hoc)).trans hc1
   refine(s8 hoc all l (out++[y]) (aZ ρ 4 y) (σ.set o (.list (out++[y]))) (fun z hz=>hl z (.tail _ hz)) (fun z hz=>(List.mem_append.mp hz).elim (ho z) fun h=>by rw[List.mem_singleton.mp h];exact wy) (by rw[List.length_append];show _+1+_≤_;exact nR2 hn) r2 (cO ho1) hc2) _ fun new ρ' σ' g1 g2 g3 g4 g5 g6 g7=> ?_
   rw[List.append_assoc]at g4
   refine(fun _ k=>k (y::new) ρ' σ' (uB (bI (oI hm (by rw[lL hin];rfl) (bI (s9 (aH r2) (aH rfl) ho1 (nM3 hn rfl)) rfl)) rfl) hc2 g1) (fun j h=>(g2 j h).trans (hj j h)) ((cA.set (.head _)).trans g3) g4 (fun z hz=> ?_) (fun z hz=> ?_) (by rw[m9,m9];omega))
   ·rcases List.mem_cons.mp hz with rfl |hz
    ·exact List.mem_append_right _ (.head _)
    ·have:=g5 z hz;rwa [List.append_assoc]at this
   ·rcases List.mem_cons.mp hz with rfl |hz
    ·exact .head _
    ·exact .tail _ (g6 z hz)
noncomputable def UO (m:Nat):SM:=aC (dL 4 (aJ (aL m .law_step) [(aA 0),(aG (aA 2) (aA 3))]) UI) (aC (mH 3 (aB 1)) aF)
structure uQ(σh:aD)(X:cX)(W:Wd)(x:V)(o i:Nat)(out:List V)(ρ:Env)(σ:aD):Prop where
 c:i+jI (out.drop i)≤100
 le:i≤out.length
 E:cM σh σ
 hw:∀y∈out,wf y=true∧hH W x y
 hx:x∈out
 cl:∀(j:Nat) u,j<i→out[j]? =some u→∀y∈step W u,y∈out
 r0:ρ 0=some (.ref X.w)
 r2:ρ 2=some (.ref o)
 r3:ρ 3=some (.int i)
 g:σ[o]? =some (.list out)
theorem uQ.len{σh:aD}{x:V}{o i:Nat}{out:List V}{ρ:Env}(I:uQ σh X W x o i out ρ σ):out.length≤100:=by
 have:=vK (out.drop i)
 rw[List.length_drop]at this
 have:=I.c;have:=I.le
 omega
theorem uQ.test{σh:aD}{x:V}{o i:Nat}{out:List V}{ρ:Env}(I:uQ σh X W x o i out ρ σ):aK .lt (aA 3) (cH (aA 2)) ρ σ=some (decide ((i:Int)<(out.length:Int)),σ):=
 cV (q:= .lt) (aH I.r3) (uW (aH I.r2) I.g (Nat.le_trans I.len (by decide))) rfl
noncomputable def cH0 (W:Wd) (x:V) (o:Nat) (σ:aD) (r:Env→aD→Prop):Prop:=∀G:Prop,(∀(l:List V),∀(ρ':Env),∀(σ':aD),∀(h:r ρ' σ'),∀(r2:ρ' 2=some (.ref o)),∀(K:cA [o] σ σ'),∀(g:σ'[o]? =some (.list l)),∀(k:∀u,u∈l↔hH W x u),∀(len:l.length≤100),G)→G
theorem aV9{σh:aD}{x:V}{o:Nat}{out:List V}{ρ:Env}{m fu:Nat}(I:uQ σh X W x o out.length out ρ σ):cH0 W x o σ fun ρ' σ'=>fD (aK .lt (aA 3) (cH (aA 2))) (UO m) (fu+1) ρ σ=some (.next,ρ',σ'):=by
 refine(fun _ k=>k out ρ σ (iW (I.test.trans (by rw[decide_eq_false (Int.lt_irrefl _)]))) I.r2 .refl I.g (fun u=>⟨fun h=>(I.hw u h).2,fun h=> ?_⟩) I.len)
 induction h with
 |refl=>exact I.hx
 |step _ hv ih=>
  obtain⟨j,hj⟩:=List.getElem?_of_mem ih
  exact I.cl j _ (List.getElem?_eq_some_iff.mp hj).1 hj _ hv
noncomputable def cX1 (σh:aD) (X:cX) (W:Wd) (x:V) (o i:Nat) (out:List V) (σ:aD) (r:Option (Fl×Env×aD)):Prop:=∀G:Prop,(∀(out':List V),∀(ρ':Env),∀(σ':aD),∀(h:r=some (.next,ρ',σ')),∀(I:uQ σh X W x o (i+1) out' ρ' σ'),∀(K:cA [o] σ σ'),∀(lt:jI (out'.drop (i+1))<jI (out.drop i)),G)→G
theorem cM2{σh:aD}(R:fO σh kt X W)(O:dA W){m:Nat}(hm:3≤m){x:V}{o:Nat}(ho:σh.length≤o){i:Nat}{out:List V}{ρ:Env}(I:uQ σh X W x o i out ρ σ)(hlt:i<out.length):cX1 σh X W x o i out σ (UO m ρ σ):=by
 have hl:=I.len
 obtain⟨hc,_,hE,hw,hx,hcl,r0,r2,r3,g⟩:=I
 have hu:out[i]? =some out[i]:=List.getElem?_eq_getElem hlt
 have hdrop:out.drop i=out[i]::out.drop (i+1):=List.drop_eq_getElem_cons hlt
 generalize out[i]=u at hu hdrop
 obtain⟨wu,ru⟩:=hw u (List.mem_of_getElem? hu)
 rw[hdrop,m9]at hc
 have hst:=cG3 O wu
 refine(cX8 (R.ext hE) O wu hm) _ fun j σ1 s1 s2 s3 s4=> ?_
 have hsl:=vK (step W u)
 refine(s8 (o:=o) (cj:=j) (by have:=eV g;exact tO (Nat.lt_of_lt_of_le this s4)) (step W u) (step W u) out ρ σ1 (uY O wu) (fun y hy=>(hw y hy).1) (by omega) r2 (s2 _ _ g) s3) _ fun new ρ1 σ2 n1 n2 n3 n4 n5 n6 n7=> ?_
 have K:cA [o] σ σ2:=s2.kps.trans n3
 have hsm:small (i:Int)=true:=by simp[small];exact⟨nIy rfl,nIx (kD hc) rfl⟩
 have hcn2:jI ((out++new).drop (i+1))=jI (out.drop (i+1))+jI new:=by rw[List.drop_append_of_le_length hlt,aZ3]
 refine(fun _ k=>k (out++new) _ σ2 (bI (nH (aO (aU (aH r0) (aU (bE (aH r2) (aH r3) (rV g hu (nT3 hlt hl rfl))) rfl)) s1) s3 n1) (bI (bA4 ((n2 3 (by decide)).trans r3) rfl (by rw[hsm];rfl)) rfl)) ⟨by omega,by rw[List.length_append];omega,K.ext hE fun a ha=>by rw[List.mem_singleton.mp ha];exact ho,fun y hy=> ?_,List.mem_append_left _ hx,fun k v hk hv y hy=> ?_,(n2 0 (by decide)).trans r0,(n2 2 (by decide)).trans r2,rfl,n4⟩ K (by rw[hdrop,m9];omega))
 ·rcases List.mem_append.mp hy with hy |hy
  ·exact hw y hy
  ·exact⟨uY O wu y (n6 y hy),ru.step (n6 y hy)⟩
 ·by_cases e:k=i
  ·rw[e,List.getElem?_append_left hlt,hu]at hv
   (refine cT hv fun p=> ?_;clear hv;subst p)
   exact n5 y hy
  ·rw[List.getElem?_append_left (Nat.lt_of_lt_of_le hk (nSl hlt))]at hv
   exact List.mem_append_left _ (hcl k v (nLn hk e) hv y hy)
theorem bV5{σh:aD}(R:fO σh kt X W)(O:dA W){m:Nat}(hm:3≤m){x:V}{o:Nat}(ho:σh.length≤o):
  ∀(μ i:Nat) (out:List V) (ρ:Env) (σ:aD) (fu:Nat),jI (out.drop i)≤μ→μ≤fu→uQ σh X W x o i out ρ σ→cH0 W x o σ fun ρ' σ'=>fD (aK .lt (aA 3) (cH (aA 2))) (UO m) (fu+1) ρ σ=some (.next,ρ',σ'):=by
 intro μ
 induction μ with
 |zero=>
  intro i out ρ σ fu h1 h2 I
  have hd:=vK (out.drop i)
  rw[List.length_drop]at hd
  have hi:i=out.length:=Nat.le_antisymm I.le (by omega)
  subst hi
  exact aV9 I
 |succ μ ihμ=>
  intro i out ρ σ fu h1 h2 I
  by_cases hi:i=out.length
  ·subst hi
   exact aV9 I
  ·have hlt:i<out.length:=Nat.lt_of_le_of_ne I.le hi
   obtain⟨fu,rfl⟩:∃f,fu=f+1:=⟨fu-1,xK h2 rfl⟩
   refine(cM2 R O hm ho I hlt) _ fun out' ρ1 σ1 hb I1 K lt=> ?_
   refine(ihμ (i+1) out' ρ1 σ1 fu (tQ (Nat.le_trans (nSl lt) h1)) (tQ h2) I1) _ fun l ρ' σ' g1 g2 g3 g4 g5 g6=> ?_
   exact(fun _ k=>k l ρ' σ' ((hJ (I.test.trans (by rw[decide_eq_true (Int.ofNat_lt.mpr hlt)])) hb).trans g1) g2 (K.trans g3) g4 g5 g6)
theorem dC7(x:V):vV x≤80:=by
 unfold vV
 split
 ·have:=aE9 x;exact d0 this rfl
 ·have:=uN x;omega
noncomputable def cP1 (σ:aD) (X:cX) (W:Wd) (x:V) (n:Nat) (f:FM):Prop:=∀G:Prop,(∀(j:Nat),∀(l:List V),∀(σ':aD),(f [.ref X.w,x] σ=some (.ref j,σ'))→(cM σ σ')→(σ'[j]? =some (.list l))→(σ.length≤j)→((∀u,u∈l↔hH W x u))→(l.length≤100)→G)→G
theorem cH6(R:fO σ kt X W)(O:dA W){x:V}(wx:wf x=true){n:Nat}(hn:4≤n):
  cP1 σ X W x n (aL n .law_ups):=by
 obtain⟨m,rfl⟩:=jY hn rfl
 have hc:jI [x]≤80:=by rw[m9];exact dC7 x
 refine(bV5 (σh:=σ) R O (m:=m) (bH hn rfl) (x:=x) (o:=σ.length) (Nat.le_refl _) 80 0 [x] (aZ (aZ (fun i=>[V.ref X.w,x][i]?) 2 (.ref σ.length)) 3 (.int (0:Nat))) (σ++[.list [x]]) 999999 hc (by decide) ⟨by show 0+jI [x]≤100;omega,Nat.zero_le _,.app,fun y hy=>by
  rw[List.mem_singleton.mp hy];exact⟨wx,.refl⟩,.head _,fun j u hj=>absurd hj (Nat.not_lt_zero _),rfl,rfl,rfl,gW⟩) _ fun l ρ' σ' g1 g2 g3 g4 g5 g6=> ?_
 exact(fun _ k=>k σ.length l σ' (cL (bH hn rfl) (fun _=>rfl) rfl (cQ (rU (jW rfl)) (cQ rfl (fZ (show iS _ _ _ _=_ from g1) (bA (aH g2)))))) (g3.ext .app fun a ha=>by rw[List.mem_singleton.mp ha];exact Nat.le_refl _) g4 (Nat.le_refl _) g5 g6)
theorem aS0:f9 [(tm 75 [],tP W.u1),(tm 76 [],tP W.u2)]:=by
 intro e he
 rcases List.mem_cons.mp he with rfl |he
 ·rfl
 ·rw[List.mem_singleton.mp he];rfl
theorem aR9{x:V}:(bW [(tm 75 [],tP W.u1),(tm 76 [],tP W.u2)] x).getD x=gM W x:=by
 unfold gM
 rw[V.beq_comm x (tm 75 []),V.beq_comm x (tm 76 [])]
 simp only[bW]
 cases V.beq (tm 75 []) x<;>cases V.beq (tm 76 []) x<;>rfl
theorem aW7{k:Int}(a:1≤k)(b:k≤13):wf (tP k)=true:=by
 show(decide (1≤k)&&decide (k≤13))=true
 rw[decide_eq_true a,decide_eq_true b];rfl
theorem bV8(O:dA W){x:V}(wx:wf x=true):wf (gM W x)=true:=by
 have o1:=O.u1
 have o2:=O.u2
 unfold gM
 split
 ·exact aW7 (l9 o1.1 rfl) (iLe o1.2 rfl)
 ·split
  ·exact aW7 (l9 o2.1 rfl) (iLe o2.2 rfl)
  ·exact wx
set_option tactic.hygienic true in
theorem bJ1{y:V}(hin:y∉[tP 4,tP 6,tP 8,tP 10]):mF y=y:=by
 unfold mF
 split
 ·rename_i k
  rw[if_neg]
  intro hk
  apply hin
  rcases hk with rfl |rfl |rfl |rfl
  ·exact .head _
  ·exact .tail _ (.head _)
  ·exact .tail _ (.tail _ (.head _))
  ·exact .tail _ (.tail _ (.tail _ (.head _)))
 ·rfl
theorem aI1(R:fO σ kt X W)(O:dA W){x:V}(wx:wf x=true){n:Nat}(hn:3≤n):aL n .law_signed [.ref X.w,x] σ=some (fJ W x,σ):=by
 have hk:=eX (aS0 (W:=W)) (iO wx)
 have hmem:sS (gM W x) (.tup [tP 4,tP 6,tP 8,tP 10]) σ=some ([tP 4,tP 6,tP 8,tP 10].any (V.beq · (gM W x))):=y5 (bV8 O wx) fun z hz=>by
  rcases List.mem_cons.mp hz with rfl |hz
  ·rfl
  ·rcases List.mem_cons.mp hz with rfl |hz
   ·rfl
   ·rcases List.mem_cons.mp hz with rfl |hz
    ·rfl
    ·rw[List.mem_singleton.mp hz];rfl
 have pre:∀{v:V},(∀ρ:Env,ρ 1=some (gM W x)→(fF (aK .isIn (aA 1) (aE [(aE [(aB 0),(aB 4)]),(aE [(aB 0),(aB 6)]),(aE [(aB 0),(aB 8)]),(aE [(aB 0),(aB 10)])])) (aE [(aB 0),(aT .sub (aG (aA 1) (aB 1)) (aB 1))]) (aA 1)) ρ σ=some (v,σ))→aL n .law_signed [.ref X.w,x] σ=some (v,σ):=fun h=>
  iM hn rfl (fun _=>rfl) rfl fun m hm=>cQ (qQ (cL9 R rfl) (by simp only[iE,R.u]) (aH rfl) (aH rfl) (by simp only[mN,R.u,hk,if_true,aR9])) (bA (h _ rfl))
 rw[fJ]
 generalize gM W x=y at*
 by_cases hin:y∈[tP 4,tP 6,tP 8,tP 10]
 ·have:∃k:Int,y=tP k∧(k=4∨k=6∨k=8∨k=10):=by
   rcases List.mem_cons.mp hin with h |h
   ·exact⟨4,h,.inl rfl⟩
   ·rcases List.mem_cons.mp h with h |h
    ·exact⟨6,h,.inr (.inl rfl)⟩
    ·rcases List.mem_cons.mp h with h |h
     ·exact⟨8,h,.inr (.inr (.inl rfl))⟩
     ·exact⟨10,List.mem_singleton.mp h,.inr (.inr (.inr rfl))⟩
  obtain⟨k,rfl,hk⟩:=this
  have ht:mF (tP k)=tP (k-1):=if_pos hk
  have hs:(small k&&small 1)=true:=by rcases hk with rfl |rfl |rfl |rfl<;>rfl
  rw[ht]
  exact pre fun ρ q1=>oE (cV (q:= .isIn) (aH q1) rfl (hmem.trans (congrArg some (oZ.mpr hin)))) (fK (aU rfl (aU (qR (bE (aH q1) rfl rfl) rfl (if_pos hs)) rfl)))
 ·rw[bJ1 hin]
  exact pre fun ρ q1=>mE (cV (q:= .isIn) (aH q1) rfl (hmem.trans (congrArg some (lL hin)))) (aH q1)
end
end
section
noncomputable def pV (p:V×V):V:= .tup [p.1,p.2]
section
variable {σ:aD}{kt:Nat}{X:cX}{W:Wd}{U:List (V×V)}
noncomputable def dQ3 (W:Wd) (road:List (V×V)) (s t:V) (σ:aD) (r0:Option (V×aD)):Prop:=∀G:Prop,(∀(r:Bool),∀(σ':aD),∀(h:r0=some (.bool r,σ')),∀(E:cM σ σ'),∀(a:r=true→D W s t),∀(b:∀k,dn W k s t→(∀p∈road,¬dn W k p.1 p.2)→r=true),G)→G
noncomputable def vZ (W:Wd) (kt:Nat) (X:cX) (n:Nat) (road:List (V×V)) (s t:V):Prop:=∀σ:aD,fO σ kt X W→dQ3 W road s t σ (aL n .law_goes [.ref X.w,s,t,.tup (road.map pV)] σ)
theorem cF2(ws:List Int)(ts:List V):j9 ws [] ts=some []:=by cases ws<;>rfl
noncomputable def LB (m:Nat):SM:=aC (a8 (aK .ne (aG (aA 1) (aA 4)) (aG (aA 2) (aA 4))) (aC (aV 5 (aG (aG (aG (aA 0) (bU "ways")) (aG (aA 1) (aB 0))) (aT .sub (aA 4) (aB 1)))) (aC (aV 6 (fF (aK .eq (aA 5) (aB 2)) (aE [(aG (aA 2) (aA 4)),(aG (aA 1) (aA 4))]) (aE [(aG (aA 1) (aA 4)),(aG (aA 2) (aA 4))]))) (aC (a8 (dT (aK .eq (aA 5) (aB 0)) (dT (bL (aJ (aL m .law_value) [(aG (aA 6) (aB 0))])) (dT (bL (aJ (aL m .law_value) [(aG (aA 6) (aB 1))])) (gG (bL (aJ (aL m .law_goes) [(aA 0),(aG (aA 6) (aB 0)),(aG (aA 6) (aB 1)),(aA 3)])))))) (aC (aW (b0 false)) aF) aF) aF))) aF) aF
noncomputable def wT (W:Wd):List (V×V):=[(.int 69,.tup [.int W.w69]),(.int 70,.tup [.int W.wa,.int W.wb]),(.int 71,.tup [.int W.w71])]
theorem aV5(W:Wd):iF (wT W):=by
 intro e he
 simp[wT]at he
 rcases he with rfl |rfl |rfl<;>rfl
theorem aG3(W:Wd)(h:Int):bW (wT W) (.int h)=(kB W h).map fun l=> .tup (l.map .int):=by
 unfold kB wT
 by_cases a:h=69
 ·subst a;rfl
 ·by_cases b:h=70
  ·subst b;rfl
  ·by_cases c:h=71
   ·subst c;rfl
   ·have a':¬69=h:=fun e=>a e.symm
    have b':¬70=h:=fun e=>b e.symm
    have c':¬71=h:=fun e=>c e.symm
    simp[bW,V.beq,V.isI,V.isT,V.isN,V.isS,a,b,c,a',b',c']
structure bH8(ρ:Env)(X:cX)(road:List (V×V))(h:Int)(hu ht:List V):Prop where
 r0:ρ 0=some (.ref X.w)
 r1:ρ 1=some (tm h hu)
 r2:ρ 2=some (tm h ht)
 r3:ρ 3=some (.tup (road.map pV))
inductive yS (X:cX) (W:Wd) (road:List (V×V)) (h:Int) (hu ht:List V) (σ:aD) (w:Int) (u t:V) (r:Option (Fl×Env×aD)):Prop
 |same (ρ':Env) (e:u=t) (g:r=some (.next,ρ',σ)) (E:bH8 ρ' X road h hu ht):yS X W road h hu ht σ w u t r
 |go (ρ':Env) (σ':aD) (e:u≠t) (g:r=some (.next,ρ',σ')) (E:bH8 ρ' X road h hu ht) (P:cM σ σ') (k:¬(w=0∨aS (cE w u t).1∨aS (cE w u t).2)) (q:D W (cE w u t).1 (cE w u t).2):yS X W road h hu ht σ w u t r
 |stop (ρ':Env) (σ':aD) (e:u≠t) (g:r=some (.ret (.bool false),ρ',σ')) (P:cM σ σ') (k:¬(w=0∨aS (cE w u t).1∨aS (cE w u t).2)→∀n,(∀p∈road,¬dn W n p.1 p.2)→¬dn W n (cE w u t).1 (cE w u t).2):yS X W road h hu ht σ w u t r
theorem nM{k:Nat}(h:k<100000):small (k:Int)=true:=by simp[small];exact⟨nIy rfl,nIv h rfl⟩
theorem aZ9{a b:EM}{ρ:Env}{i j:Nat}(h:a ρ σ=some (.int (i:Nat),σ))(k:b ρ σ=some (.int (j:Nat),σ))(hj:j≤i)(hi:i<100000):aT .sub a b ρ σ=some (.int ((i-j:Nat):Int),σ):=
 qR h k (by rw[pK,nM hi,nM (Nat.lt_of_le_of_lt hj hi),Int.ofNat_sub hj];rfl)
theorem bA1{a b:EM}{ρ:Env}{i j:Nat}(h:a ρ σ=some (.int (i:Nat),σ))(k:b ρ σ=some (.int (j:Nat),σ))(hi:i+j<100000):aT .add a b ρ σ=some (.int ((i+j:Nat):Int),σ):=
 qR h k (by rw[m8,nM (Nat.lt_of_le_of_lt (Nat.le_add_right i j) hi),nM (Nat.lt_of_le_of_lt (Nat.le_add_left j i) hi),Int.natCast_add];rfl)
theorem cA9{m:Nat}(hm:3≤m){road:List (V×V)}{h:Int}{hu ht:List V}{ws:List Int}(hws:kB W h=some ws){u t:V}(wu:wf u=true)(wt:wf t=true){k:Nat}(hk:k<100)(gu:hu[k]? =some u)(gt:ht[k]? =some t){w:Int}(gw:ws[k]? =some w)
  (hg:aS u=false→aS t=false→w≠0→vZ W kt X m road u t∧vZ W kt X m road t u) (R:fO σ kt X W) {ρ:Env} (E:bH8 ρ X road h hu ht):yS X W road h hu ht σ w u t (LB m (aZ ρ 4 (.int (k+1:Nat))) σ):=by
 obtain⟨r0,r1,r2,r3⟩:=E
 have e1:∀{ρ:Env},ρ 1=some (tm h hu)→ρ 4=some (.int (k+1:Nat))→aG (aA 1) (aA 4) ρ σ=some (u,σ):=fun a b=>bE (aH a) (aH b) (fC gu (nRc hk rfl))
 have e2:∀{ρ:Env},ρ 2=some (tm h ht)→ρ 4=some (.int (k+1:Nat))→aG (aA 2) (aA 4) ρ σ=some (t,σ):=fun a b=>bE (aH a) (aH b) (fC gt (nRc hk rfl))
 have hc:aK .ne (aG (aA 1) (aA 4)) (aG (aA 2) (aA 4)) (aZ ρ 4 (.int (k+1:Nat))) σ=some (!V.beq u t,σ):=cV (e1 r1 rfl) (e2 r2 rfl) (by simp only[gK,oS wu wt,Option.map_some])
 by_cases e:u=t
 ·exact .same _ e (bI (iQ hc (by rw[e,V.beq_self];rfl)) rfl) ⟨r0,r1,r2,r3⟩
 rw[V.beq_ne e,Bool.not_false]at hc
 have e5:(aG (aG (aG (aA 0) (bU "ways")) (aG (aA 1) (aB 0))) (aT .sub (aA 4) (aB 1))) (aZ ρ 4 (.int (k+1:Nat))) σ=some (.int w,σ):=
  bE (bE (bI8 R r0) (bE (aH r1) rfl rfl) (kC (k:= .int h) (v:= .tup (ws.map .int)) R.y (fU (aV5 W) _) ((aG3 W h).trans (by rw[hws];rfl)))) (aZ9 (i:=k+1) (j:=1) (aH rfl) rfl (Nat.le_add_left 1 k) (nRc hk rfl)) (fC (by rw[List.getElem?_map];exact congrArg (Option.map V.int) gw) (by omega))
 have e6:(fF (aK .eq (aA 5) (aB 2)) (aE [(aG (aA 2) (aA 4)),(aG (aA 1) (aA 4))]) (aE [(aG (aA 1) (aA 4)),(aG (aA 2) (aA 4))])) (aZ (aZ ρ 4 (.int (k+1:Nat))) 5 (.int w)) σ=some (.tup [(cE w u t).1,(cE w u t).2],σ):=by
  by_cases q:w=2
  ·rw[cE,if_pos q];exact oE (lR (aH rfl) rfl q) (fK (aU (e2 r2 rfl) (aU (e1 r1 rfl) rfl)))
  ·rw[cE,if_neg q];exact mE (lS (aH rfl) rfl q) (fK (aU (e1 r1 rfl) (aU (e2 r2 rfl) rfl)))
 by_cases w0:w=0
 ·exact .stop _ σ e (oL (o4 hc (bI (eM e5) (bI (eM e6) (jL (qP (lR (aH rfl) rfl w0)) (k0 rfl)))))) .refl fun k=>absurd (.inl w0) k
 have p1:wf (cE w u t).1=true∧wf (cE w u t).2=true∧(aS (cE w u t).1=false→aS (cE w u t).2=false→vZ W kt X m road (cE w u t).1 (cE w u t).2):=by
  by_cases q:w=2
  ·rw[cE,if_pos q];exact⟨wt,wu,fun a b=>(hg b a w0).2⟩
  ·rw[cE,if_neg q];exact⟨wu,wt,fun a b=>(hg a b w0).1⟩
 obtain⟨p1,p2,pG⟩:=p1
 clear hg gu gt gw
 have v1:=bV (σ:=σ) (aO (f:=aL m .law_value) (ρ:=aZ (aZ (aZ ρ 4 (.int (k+1:Nat))) 5 (.int w)) 6 (.tup [(cE w u t).1,(cE w u t).2])) (es:=[(aG (aA 6) (aB 0))]) (aU (bE (aH rfl) rfl rfl) rfl) (mG p1 hm)) rfl
 have v2:=bV (σ:=σ) (aO (f:=aL m .law_value) (ρ:=aZ (aZ (aZ ρ 4 (.int (k+1:Nat))) 5 (.int w)) 6 (.tup [(cE w u t).1,(cE w u t).2])) (es:=[(aG (aA 6) (aB 1))]) (aU (bE (aH rfl) rfl rfl) rfl) (mG p2 hm)) rfl
 induction n1:aS (cE w u t).1 using Bool.casesOn with
 |true=>rw[n1]at v1;exact .stop _ σ e (oL (o4 hc (bI (eM e5) (bI (eM e6) (jL (j6 (lS (aH rfl) rfl w0) (qP v1)) (k0 rfl)))))) .refl fun k=>absurd (.inr (.inl n1)) k
 |false=>
  rw[n1]at v1
  induction n2:aS (cE w u t).2 using Bool.casesOn with
  |true=>rw[n2]at v2;exact .stop _ σ e (oL (o4 hc (bI (eM e5) (bI (eM e6) (jL (j6 (lS (aH rfl) rfl w0) (j6 v1 (qP v2))) (k0 rfl)))))) .refl fun k=>absurd (.inr (.inr n2)) k
  |false=>
   rw[n2]at v2
   refine(pG n1 n2 σ R) _ fun r σ1 g1 g2 g3 g4=> ?_
   induction r using Bool.casesOn with
   |true=>exact .go _ σ1 e (bI (o4 hc (bI (eM e5) (bI (eM e6) (bI (iQ (j6 (lS (aH rfl) rfl w0) (j6 v1 (j6 v2 (jK (bV (aO (aU (aH r0) (aU (bE (aH rfl) rfl rfl) (aU (bE (aH rfl) rfl rfl) (jW r3)))) g1) rfl))))) rfl) rfl)))) rfl) ⟨r0,r1,r2,r3⟩ g2 (fun k=>k.elim w0 fun k=>k.elim (fun k=>by rw[n1]at k;exact c7 k) fun k=>by rw[n2]at k;exact c7 k) (g3 rfl)
   |false=>exact .stop _ σ1 e (oL (o4 hc (bI (eM e5) (bI (eM e6) (uTk (j6 (lS (aH rfl) rfl w0) (j6 v1 (j6 v2 (jK (bV (aO (aU (aH r0) (aU (bE (aH rfl) rfl rfl) (aU (bE (aH rfl) rfl rfl) (jW r3)))) g1) rfl))))) rfl (k0 rfl)))))) g2 fun _ n hr hd=>by cases g4 n hd hr
inductive bH7 (W:Wd) (road:List (V×V)) (σ:aD) (a:Option (List (V×V))) (r:Option (Fl×Env×aD)):Prop
 |yes (ρ':Env) (σ':aD) (ps:List (V×V)) (h:r=some (.next,ρ',σ')) (E:cM σ σ') (k:a=some ps) (l:∀q∈ps,D W q.1 q.2):bH7 W road σ a r
 |no (ρ':Env) (σ':aD) (h:r=some (.ret (.bool false),ρ',σ')) (E:cM σ σ') (k:∀n,(∀p∈road,¬dn W n p.1 p.2)→∀ps,a=some ps→¬∀q∈ps,dn W n q.1 q.2):bH7 W road σ a r
theorem qL{h:Int}{n:Nat}(ha:eI h n=true):n≤2:=by
 by_cases h8:h=8
 ·subst h8;exact Nat.le_trans (of_decide_eq_true ha) (by decide)
 ·rw[mB ha h8];unfold arN;split
  ·decide
  ·split<;>decide
theorem aY2{α:Type}{k:Nat}{l:List α}{a:α}(h:l[k]? =some a):l.drop k=a::l.drop (k+1):=by
 have hlt:=(List.getElem?_eq_some_iff.mp h).1
 rw[List.getElem?_eq_getElem hlt]at h
 rw[List.drop_eq_getElem_cons hlt,Option.some.inj h]
set_option tactic.hygienic true in
theorem tU{m:Nat}(hm:3≤m){road:List (V×V)}{h:Int}{hu ht:List V}{ws:List Int}(hws:kB W h=some ws)(hl1:hu.length=ht.length)(hl2:ws.length=hu.length)(hl3:hu.length≤10)(whu:∀x∈hu,wf x=true)(wht:∀x∈ht,wf x=true)
  (hg:∀(i:Nat) (a c:V),hu[i]? =some a→ht[i]? =some c→aS a=false→aS c=false→ws.getD i 0≠0→vZ W kt X m road a c∧vZ W kt X m road c a) (all:List V):
  ∀(us:List V) (k:Nat) (ρ:Env) (σ:aD),hu.drop k=us→fO σ kt X W→bH8 ρ X road h hu ht→
  bH7 W road σ (j9 (ws.drop k) us (ht.drop k)) (dM 4 (LB m) .fix all ((List.range' (k+1) us.length).map fun k=>V.int (k:Nat)) ρ σ)
 |[],k,ρ,σ,h1,R,E=> .yes ρ σ [] rfl .refl (cF2 _ _) fun q h=>by cases h
 |u::us,k,ρ,σ,h1,R,E=>by
  have gu:hu[k]? =some u:=by
   have:=congrArg (fun l=>l[0]?) h1
   rwa [List.getElem?_drop]at this
  have hi:k<hu.length:=(List.getElem?_eq_some_iff.mp gu).1
  obtain⟨t,gt⟩:∃t,ht[k]? =some t:=⟨ht[k],List.getElem?_eq_getElem (aF5 hi hl1)⟩
  obtain⟨w,gw⟩:∃w,ws[k]? =some w:=⟨ws[k],List.getElem?_eq_getElem (xO hi hl2)⟩
  have hdu:hu.drop (k+1)=us:=by
   have:=congrArg List.tail h1
   rw[List.tail_drop]at this
   exact this
  have V1:=cA9 (m:=m) hm hws (whu u (List.mem_of_getElem? gu)) (wht t (List.mem_of_getElem? gt)) (nT3 hi hl3 rfl) gu gt gw (fun a b c=>hg k u t gu gt a b (by rw[List.getD_eq_getElem?_getD,gw];exact c)) R E
  rw[List.length_cons,List.range'_succ,List.map_cons,aY2 gt,aY2 gw]
  rcases V1 with⟨ρ1,e,h,E1⟩ |⟨ρ1,σ1,e,h,E1,P,n,q⟩ |⟨ρ1,σ1,e,h,P,n⟩
  ·rw[e,show ∀l1 l2,j9 (w::l1) (t::us) (t::l2)=j9 l1 us l2 from fun l1 l2=>by rw[j9,V.beq_self];rfl]
   rcases tU hm hws hl1 hl2 hl3 whu wht hg all us (k+1) ρ1 σ hdu R E1 with⟨ρ',σ',ps,a,b,c,d⟩ |⟨ρ',σ',a,b,c⟩
   ·exact .yes ρ' σ' ps (pH h a) b c d
   ·exact .no ρ' σ' (pH h a) b c
  ·rw[show ∀l1 l2,j9 (w::l1) (u::us) (t::l2)=(j9 l1 us l2).map (cE w u t:: ·)from fun l1 l2=>by rw[j9,V.beq_ne e];exact if_neg n]
   rcases tU hm hws hl1 hl2 hl3 whu wht hg all us (k+1) ρ1 σ1 hdu (R.ext P) E1 with⟨ρ',σ',ps,a,b,c,d⟩ |⟨ρ',σ',a,b,c⟩
   ·exact .yes ρ' σ' _ (pH h a) (P.trans b) (by rw[c];rfl) fun q' hq=>(List.mem_cons.mp hq).elim (fun h=>h▸q) (d q')
   ·refine .no ρ' σ' (pH h a) (P.trans b) fun n hr ps h hall=> ?_
    obtain⟨ps',h1,h2⟩:=Option.map_eq_some_iff.mp h
    exact c n hr ps' h1 fun q hq=>hall q (h2▸ .tail _ hq)
  ·rw[show ∀l1 l2,j9 (w::l1) (u::us) (t::l2)=if w=0∨aS (cE w u t).1∨aS (cE w u t).2 then none else(j9 l1 us l2).map (cE w u t:: ·)from fun l1 l2=>by rw[j9,V.beq_ne e];rfl]
   refine .no ρ1 σ1 (pQ h) P fun n' hr ps h hall=> ?_
   split at h
   ·exact aN h
   ·rename_i hn
    obtain⟨ps',h1,h2⟩:=Option.map_eq_some_iff.mp h
    exact n hn n' hr (hall _ (h2▸ .head _))
end
end
section
theorem bC0(n:Nat):fQ 1 ((n+1:Nat):Int)=(List.range' 1 n).map fun k=>V.int (k:Nat):=by
 unfold fQ
 rw[show(((n+1:Nat):Int)-1).toNat=n by omega,List.range'_eq_map_range,List.map_map]
 refine List.map_congr_left fun k _=> ?_
 simp only[Function.comp]
 congr 1
theorem aX7{x:V}(h:wf x=true)(hl:(bY x).length≤1000)(σ:aD):jD x σ=some (((bY x).length+1:Nat):Int):=by
 have:∀(a:V) (l:List V),l.length≤1000→jD (.tup (a::l)) σ=some ((l.length+1:Nat):Int):=fun a l hl=>by
  simp only[jD,List.length_cons]
  rw[if_pos (nRa hl rfl)]
 have h2:=this (.int (aQ x)) (bY x) hl
 rw[←lI h]at h2
 exact h2
theorem z6{W:Wd}{h:Int}{ws:List Int}{u:V}(hw:kB W h=some ws)(wu:wf u=true)(hu:aQ u=h):ws.length=(bY u).length∧(∀i,wv W h i=ws.getD i 0)∧(h=69∨h=70∨h=71):=by
 have hh:=wU hw
 rcases cR wu with⟨n,rfl,_⟩ |⟨hd,args,rfl,h0,ha,_⟩
 ·rcases hh with rfl |rfl |rfl<;>exact absurd (show(0:Int)=_ from hu) (by decide)
 ·have hu:hd=h:=hu
  subst hu
  refine⟨?_,fun i=> ?_,hh⟩
  ·rcases hh with rfl |rfl |rfl
   ·obtain rfl:[W.w69]=ws:=Option.some.inj hw
    exact(mB ha (by decide)).symm
   ·obtain rfl:[W.wa,W.wb]=ws:=Option.some.inj hw
    exact(mB ha (by decide)).symm
   ·obtain rfl:[W.w71]=ws:=Option.some.inj hw
    exact(mB ha (by decide)).symm
  ·rcases hh with rfl |rfl |rfl
   ·obtain rfl:[W.w69]=ws:=Option.some.inj hw
    rfl
   ·obtain rfl:[W.wa,W.wb]=ws:=Option.some.inj hw
    show(if W.wb=0 then [W.wa]else [W.wa,W.wb]).getD i 0=[W.wa,W.wb].getD i 0
    by_cases q:W.wb=0
    ·rw[if_pos q,q]
     rcases i with _ |_ |i<;>rfl
    ·rw[if_neg q]
   ·obtain rfl:[W.w71]=ws:=Option.some.inj hw
    rfl
section
variable {σ:aD}{kt:Nat}{X:cX}{W:Wd}{U:List (V×V)}
noncomputable def bZ1 (σ:aD) (X:cX) (W:Wd) (road:List (V×V)) (u:V) (t:V) (n:Nat) (f:FM):Prop:=∀G:Prop,(∀(r:Bool),∀(σ':aD),(f [.ref X.w,u,t,.tup (road.map pV)] σ=some (.bool r,σ'))→(cM σ σ')→((r=true→∃ps,iL W u t=some ps∧∀q∈ps,D W q.1 q.2))→((∀k,(∀p∈road,¬dn W k p.1 p.2)→(∃ps,iL W u t=some ps∧∀q∈ps,dn W k q.1 q.2)→r=true))→G)→G
theorem yJ{x:V}(h:wf x=true)(h0:aQ (V.tup (.int (aQ x)::bY x))≠0):(bY x).length≤2:=by
 rcases cR h with⟨n,rfl,_⟩ |⟨hh,args,rfl,_,ha,h1,_⟩
 ·exact absurd rfl h0
 ·exact qL ha
theorem oR{x:V}(h:wf x=true):gH x (.int 0) σ=some (.int (aQ x)):=by rw[lI h];rfl
theorem aW1{i k:Nat}{lo hi:EM}{b:SM}{ρ:Env}{r:Option (Fl×Env×aD)}(h:lo ρ σ=some (.int 1,σ))(g:hi ρ σ=some (.int (k+1:Nat),σ))(d:k<100000)(q:dM i b .fix (fQ 1 ((k+1:Nat):Int)) ((List.range' 1 k).map fun j=>V.int (j:Nat)) ρ σ=r):fH i lo hi b ρ σ=r:=by
 have:(0:Int)≤1∧(1:Int)≤1000∧(0:Int)≤(k+1:Nat)∧((k+1:Nat):Int)≤100000:=⟨t9 rfl,⟨t9 rfl,⟨tS,nIw (nSl d) rfl⟩⟩⟩
 rw[←bC0]at q
 simp only[fH,h,g,this,and_self,if_true];exact q
theorem yU{x:V}(h:wf x=true)(h0:aQ x≠0):∀a∈bY x,wf a=true:=by
 rcases cR h with⟨n,rfl,_⟩ |⟨hh,args,rfl,_,_,h1,_⟩
 ·exact absurd rfl h0
 ·exact List.all_eq_true.mp h1
set_option tactic.hygienic true in
theorem cY2(R:fO σ kt X W){road:List (V×V)}{u t:V}(wu:wf u=true)(wt:wf t=true){n:Nat}(hn:4≤n)
  (hg:aQ u=aQ t→∀(i:Nat) (a c:V),(bY u)[i]? =some a→(bY t)[i]? =some c→aS a=false→aS c=false→wv W (aQ u) i≠0→vZ W kt X (n-1) road a c∧vZ W kt X (n-1) road c a):
  bZ1 σ X W road u t n (aL n .law_like):=by
 obtain⟨m,rfl⟩:=jY hn rfl
 rw[Nat.add_sub_cancel]at hg
 have hT:=fun {ρ:Env} (r0:ρ 0=some (.ref X.w)) (r1:ρ 1=some u) (r2:ρ 2=some t)=>dW (nI (bE (σ1:=σ) (aH r1) (b:=aB 0) rfl (oR wu)) (bE (aH r2) (b:=aB 0) rfl (oR wt))) (mC (bE (aH r1) (b:=aB 0) rfl (oR wu)) (bI8 R r0) R.y (fU (aV5 W) _) (aG3 W (aQ u)))
 by_cases hc:aQ u=aQ t∧(kB W (aQ u)).isSome=true
 ·obtain⟨c1,c2⟩:=hc
  obtain⟨ws,hws⟩:=Option.isSome_iff_exists.mp c2
  obtain⟨w1,w2,w3⟩:=z6 hws wu rfl
  obtain⟨w1',_,_⟩:=z6 hws wt c1.symm
  have h0:aQ u≠0:=fun q=>by rw[q]at w3;rcases w3 with q |q |q<;>cases q
  have hl2:(bY u).length≤10:=by
   rw[lI wu]at h0
   exact Nat.le_trans (yJ wu h0) (by decide)
  have hlp:iL W u t=j9 ws (bY u) (bY t):=by unfold iL;rw[if_pos c1,hws];rfl
  have hq:(!decide (aQ u=aQ t)|| !((kB W (aQ u)).map fun l=>V.tup (l.map .int)).isSome)=false:=by rw[decide_eq_true c1,hws];rfl
  have hL:∀{ρ:Env},ρ 1=some u→cH (aA 1) ρ σ=some (.int (((bY u).length+1:Nat)),σ):=fun r1=>kG (aH r1) (aX7 wu (d0 hl2 rfl) σ)
  rcases tU (m:=m) (bH hn rfl) (road:=road) (h:=aQ u) hws (by omega) w1 hl2 (yU wu h0) (yU wt (c1▸h0)) (fun i a c h1 h2 h3 h4 h5=>hg c1 i a c h1 h2 h3 h4 (by rw[w2];exact h5)) (fQ 1 (((bY u).length+1:Nat):Int)) (bY u) 0 (fun i=>[V.ref X.w,u,t,.tup (road.map pV)][i]?) σ rfl R ⟨rfl,congrArg some (lI wu),congrArg some (c1▸lI wt),rfl⟩with⟨ρ',σ',ps,g1,g2,g4,g5⟩ |⟨ρ',σ',g1,g2,g4⟩
  ·exact(fun _ k=>k true σ' (cL (bH hn rfl) (fun _=>rfl) rfl (bN (hT rfl rfl rfl) hq (fZ (aW1 rfl (hL rfl) (sA hl2 rfl) g1) (bA rfl)))) g2 (fun _=>⟨ps,hlp.trans g4,g5⟩) (fun _ _ _=>rfl))
  ·exact(fun _ k=>k false σ' (cL (bH hn rfl) (fun _=>rfl) rfl (bN (hT rfl rfl rfl) hq (oO (aW1 rfl (hL rfl) (sA hl2 rfl) g1)))) g2 (fun h=>(by exact c7 h)) (fun k hr ⟨ps,h1,h2⟩=>absurd h2 (g4 k hr ps (hlp.symm.trans h1))))
 ·refine(fun _ k=>k false σ (cL (bH hn rfl) (fun _=>rfl) rfl (cU (hT rfl rfl rfl) ?_ (bA rfl))) .refl (fun h=>(by exact c7 h)) (fun k _ ⟨ps,h1,_⟩=>absurd ?_ hc))
  ·rw[Option.isSome_map]
   by_cases c1:aQ u=aQ t
   ·rw[Bool.eq_false_iff.mpr fun q=>hc ⟨c1,q⟩,Bool.not_false,Bool.or_true]
   ·rw[decide_eq_false c1];rfl
  ·unfold iL at h1
   split at h1
   ·rename_i q
    refine⟨q,?_⟩
    induction q2:kB W (aQ u)using Option.casesOn with
    |none=>rw[q2]at h1;exact aN h1
    |some ws=>rfl
   ·exact aN h1
noncomputable def GB (m:Nat):SM:=aC (a8 (dT (aK .eq (aA 4) (aA 2)) (bL (aJ (aL m .law_like) [(aA 0),(aA 4),(aA 2),(aA 3)]))) (aC (aW (b0 true)) aF) aF) aF
inductive qW (W:Wd) (road:List (V×V)) (t:V) (l:List V) (σ:aD) (r:Option (Fl×Env×aD)):Prop
 |yes (ρ':Env) (σ':aD) (u:V) (h:r=some (.ret (.bool true),ρ',σ')) (E:cM σ σ') (hu:u∈l) (k:u=t∨∃ps,iL W u t=some ps∧∀q∈ps,D W q.1 q.2):qW W road t l σ r
 |no (ρ':Env) (σ':aD) (h:r=some (.next,ρ',σ')) (E:cM σ σ') (k:∀u∈l,u≠t∧∀k,(∀p∈road,¬dn W k p.1 p.2)→¬∃ps,iL W u t=some ps∧∀q∈ps,dn W k q.1 q.2):qW W road t l σ r
theorem aC0{m:Nat}(hm:4≤m){road:List (V×V)}{t:V}(wt:wf t=true){cj:Nat}(all:List V):
  ∀(l:List V) (ρ:Env) (σ:aD),(∀u∈l,wf u=true∧(aQ u=aQ t→∀(i:Nat) (a c:V),(bY u)[i]? =some a→(bY t)[i]? =some c→aS a=false→aS c=false→wv W (aQ u) i≠0→vZ W kt X (m-1) road a c∧vZ W kt X (m-1) road c a))→fO σ kt X W→ρ 0=some (.ref X.w)→ρ 2=some t→ρ 3=some (.tup (road.map pV))→σ[cj]? =some (.list all)→
  qW W road t l σ (dM 4 (GB m) (.list cj) all l ρ σ)
 |[],ρ,σ,_,_,_,_,_,_=> .no ρ σ rfl .refl fun u hu=>by cases hu
 |u::l,ρ,σ,hl,R,r0,r2,r3,hc=>by
  obtain⟨wu,hgu⟩:=hl u (.head _)
  have t1:aK .eq (aA 4) (aA 2) (aZ ρ 4 u) σ=some (V.beq u t,σ):=cV (q:= .eq) (aH rfl) (aH r2) (oS wu wt)
  by_cases e:u=t
  ·rw[e,V.beq_self]at t1
   exact .yes _ σ u (pQ (jL (qP (e▸t1)) (k0 rfl))) .refl (.head _) (.inl e)
  ·rw[V.beq_ne e]at t1
   refine(cY2 R wu wt hm hgu) _ fun r σ1 g1 g2 g3 g4=> ?_
   induction r using Bool.casesOn with
   |true=>exact .yes _ σ1 u (pQ (jL (j6 t1 (bV (aO (z9 r0 rfl r2 r3) g1) rfl)) (k0 rfl))) g2 (.head _) (.inr (g3 rfl))
   |false=>
    have hb:GB m (aZ ρ 4 u) σ=some (.next,aZ ρ 4 u,σ1):=bI (iQ (j6 t1 (bV (aO (z9 r0 rfl r2 r3) g1) rfl)) rfl) rfl
    have hc1:=g2 _ _ hc
    rcases aC0 hm wt all l (aZ ρ 4 u) σ1 (fun v hv=>hl v (.tail _ hv)) (R.ext g2) r0 r2 r3 hc1 with⟨ρ',σ',v,h,E,b,c⟩ |⟨ρ',σ',h,E,b⟩
    ·exact .yes ρ' σ' v (uB hb hc1 h) (g2.trans E) (.tail _ b) c
    ·refine .no ρ' σ' (uB hb hc1 h) (g2.trans E) fun v hv=> ?_
     rcases List.mem_cons.mp hv with h |hv
     ·exact h▸⟨e,fun k hr hx=>by cases g4 k hr hx⟩
     ·exact b v hv
theorem bZ4{s t:V}(ws:wf s=true)(wt:wf t=true){road:List (V×V)}(hr:∀p∈road,wf p.1=true∧wf p.2=true):sS (.tup [s,t]) (.tup (road.map pV)) σ=some (road.any fun p=>V.beq p.1 s&&V.beq p.2 t):=by
 show oF _ _=_
 unfold oF
 have h1:((V.tup [s,t]).kind==0||(V.tup [s,t]).kind==2)=true:=by rw[aB2 ws wt];rfl
 have h2:(road.map pV).all (fun y=>y.kind==0||y.kind==2)=true:=by
  rw[List.all_eq_true]
  intro y hy
  obtain⟨p,hp,rfl⟩:=List.mem_map.mp hy
  unfold pV
  rw[aB2 (hr p hp).1 (hr p hp).2];rfl
 rw[h1,h2,List.any_map]
 simp only[Bool.and_self,if_true]
 congr 2
 funext p
 simp[pV,V.beq,V.isI,V.isT,V.isN,V.isS,V.beqL]
theorem aJ7{s t:V}{road:List (V×V)}:(road.any fun p=>V.beq p.1 s&&V.beq p.2 t)=true↔(s,t)∈road:=by
 rw[List.any_eq_true]
 constructor
 ·rintro⟨p,hp,h⟩
  rw[Bool.and_eq_true,V.beq_iff,V.beq_iff]at h
  rw[←h.1,←h.2];exact hp
 ·intro h
  exact⟨(s,t),h,by simp[V.beq_self]⟩
theorem aA4(O:dA W){x:V}(wx:wf x=true):wf (fJ W x)=true:=by
 have o1:=O.u1
 have o2:=O.u2
 have pr:∀k:Int,1≤k→k≤13→wf (tP k)=true:=fun k a b=>by simp[wf,dP,a,b]
 have tw:∀y:V,wf y=true→wf (mF y)=true:=fun y hy=>by
  by_cases h0:aQ y=0
  ·rcases cR hy with⟨n,rfl,h1,h2⟩ |⟨hh,args,rfl,hne,_⟩
   ·unfold mF
    simp only
    split
    ·exact pr _ (by omega) (by omega)
    ·exact hy
   ·exact absurd h0 hne
  ·rw[vN h0];exact hy
 unfold fJ
 apply tw
 unfold gM
 split
 ·exact pr _ (l9 o1.1 rfl) (iLe o1.2 rfl)
 ·split
  ·exact pr _ (l9 o2.1 rfl) (iLe o2.2 rfl)
  ·exact wx
theorem yI{x:V}(h:wf x=true)(he:aQ x= -1):∃e,x=dK e∧wf e=true:=by
 rcases cR h with⟨n,rfl,_⟩ |⟨hh,args,rfl,h0,ha,h1,_⟩
 ·simp[aQ]at he
 ·simp only[aQ]at he
  subst he
  simp[eI]at ha
  obtain⟨a,rfl⟩:=y6 ha
  exact⟨a,rfl,by simpa using h1⟩
noncomputable def dJ1 (m:Nat):SM:=(aC (a8 (eJ (aK .eq (aG (aA 1) (aB 0)) (aB (-1))) (aK .eq (aG (aA 2) (aB 0)) (aB (-1)))) (aC (a8 (bL (aJ (aL m .law_value) [(aG (aA 1) (aB 1))])) (aC (aW (cP (aK .eq (aJ (aL m .law_signed) [(aA 0),(aG (aA 1) (aB 1))]) (aJ (aL m .law_signed) [(aA 0),(aG (aA 2) (aB 1))])))) aF) aF) (aC (aW (gZ (mO (aJ (aL m .law_value) [(aG (aA 2) (aB 1))])) (aJ (aL m .law_goes) [(aA 0),(aG (aA 1) (aB 1)),(aG (aA 2) (aB 1)),(aA 3)]))) aF)) aF) (aC (dL 4 (aJ (aL m .law_ups) [(aA 0),(aA 1)]) (GB m)) (aC (aW (b0 false)) aF)))
theorem dC2{t:V}(wt:wf t=true):uG t eQ=some (V.beq t eQ):=oS wt rfl
theorem uT{P:V→V→Prop}{e f:V}:FR W P (dK e) (dK f)↔((aS e=true∧fJ W e=fJ W f)∨(aS e=false∧aS f=false∧P e f)):=by
 constructor
 ·rintro(⟨e',f',x1,x2,x3⟩ |⟨x,_⟩)
  ·cases x1;cases x2;exact x3
  ·exact absurd rfl (x e f rfl)
 ·exact fun h=> .inl ⟨e,f,rfl,rfl,h⟩
theorem dN5{i:Nat}:wv W 0 i=0:=rfl
theorem aG5{y z:V}{i:Nat}(wy:wf y=true)(hy:aQ y≠0)(hz:(bY y)[i]? =some z):wf z=true:=yU wy hy z (List.mem_of_getElem? hz)
theorem cY5(O:dA W)(C:Cl W U):∀(d:Nat) (road:List (V×V)) (s t:V) (n:Nat),2*d+10≤n→U.length+1≤d+road.length→road.Nodup→(∀p∈road,p∈U∧wf p.1=true∧wf p.2=true)→wf s=true→wf t=true→(gR s t∨(s,t)∈U)→vZ W kt X n road s t:=by
 intro d
 induction d with
 |zero=>
  intro road s t n h1 h2 h3 h4
  have:=gY h3 fun p hp=>(h4 p hp).1
  omega
 |succ d ih=>
  intro road s t n h1 h2 h3 h4 ws wt hin σ R
  obtain⟨m,rfl⟩:∃m,n=m+1:=⟨n-1,xK h1 rfl⟩
  have hm:2*d+11≤m:=Nat.le_of_succ_le_succ (by omega)
  have hm4:11≤m:=Nat.le_trans (Nat.le_add_left 11 _) hm
  have t1:∀{ρ:Env},ρ 1=some s→ρ 2=some t→aK .eq (aA 1) (aA 2) ρ σ=some (V.beq s t,σ):=fun r1 r2=>cV (q:= .eq) (aH r1) (aH r2) (oS ws wt)
  have t2:∀{ρ:Env},ρ 2=some t→aK .eq (aA 2) (aX b9) ρ σ=some (V.beq t eQ,σ):=fun r2=>cV (q:= .eq) (aH r2) rfl (dC2 wt)
  by_cases hT:gR s t
  ·exact(fun _ k=>k true σ (cL (iI hm4 rfl) (fun _=>rfl) rfl (cU (dW (t1 rfl rfl) (t2 rfl)) (by rcases hT with e |e<;>rw[e,V.beq_self];exact rfl;exact Bool.or_true _) (bA rfl))) .refl (fun _=> .triv hT) (fun _ _ _=>rfl))
  have hin:=hin.resolve_left hT
  have hTb:(V.beq s t||V.beq t eQ)=false:=by rw[V.beq_ne fun e=>hT (.inl e),V.beq_ne fun e=>hT (.inr e)];rfl
  have t3:∀{ρ:Env},ρ 1=some s→ρ 2=some t→ρ 3=some (.tup (road.map pV))→aK .isIn (aE [(aA 1),(aA 2)]) (aA 3) ρ σ=some (road.any fun p=>V.beq p.1 s&&V.beq p.2 t,σ):=fun r1 r2 r3=>cV (q:= .isIn) (fK (eE r1 r2)) (aH r3) (bZ4 (σ:=σ) ws wt fun p hp=>(h4 p hp).2)
  by_cases hro:(s,t)∈road
  ·exact(fun _ k=>k false σ (cL (iI hm4 rfl) (fun _=>rfl) rfl (bN (dW (t1 rfl rfl) (t2 rfl)) hTb (cU (t3 rfl rfl rfl) (aJ7.mpr hro) (bA rfl)))) .refl (fun h=>(by exact c7 h)) (fun k hk hr=>absurd hk (hr _ hro)))
  have nd':(road++[(s,t)]).Nodup:=List.nodup_append.mpr ⟨h3,List.nodup_cons.mpr ⟨List.not_mem_nil,List.nodup_nil⟩,fun a ha b hb e=>hro (by rw[←List.mem_singleton.mp hb,←e];exact ha)⟩
  have hr':∀p∈road++[(s,t)],p∈U∧wf p.1=true∧wf p.2=true:=fun p hp=>by
   rcases List.mem_append.mp hp with hp |hp
   ·exact h4 p hp
   ·rw[List.mem_singleton.mp hp];exact⟨hin,ws,wt⟩
  have hroad:∀k,(∀p∈road,¬dn W k p.1 p.2)→∀j,j<k→¬dn W j s t→∀p∈road++[(s,t)],¬dn W j p.1 p.2:=fun k hk j hj hn p hp=>by
   rcases List.mem_append.mp hp with hp |hp
   ·exact fun q=>hk p hp (bE2 (Nat.le_of_lt hj) q)
   ·rw[List.mem_singleton.mp hp];exact hn
  have hl2:U.length+1≤d+(road++[(s,t)]).length:=by rw[List.length_append];show _≤d+(_+1);omega
  have hrl:(road.map pV).length+[V.tup [s,t]].length≤1000:=by
   have:=gY h3 fun p hp=>(h4 p hp).1
   have:=C.len
   rw[List.length_map];show _+1≤1000;omega
  have pre:∀{v:V} {σ':aD},fN (dJ1 m) (aZ (fun i=>[V.ref X.w,s,t,.tup (road.map pV)][i]?) 3 (.tup ((road++[(s,t)]).map pV))) σ v σ'→aL (m+1) .law_goes [.ref X.w,s,t,.tup (road.map pV)] σ=some (v,σ'):=fun h=>
   cL (iI hm4 rfl) (fun _=>rfl) rfl (bN (dW (t1 rfl rfl) (t2 rfl)) hTb (bN (t3 rfl rfl rfl) (Bool.eq_false_iff.mpr fun q=>hro (aJ7.mp q)) (cQ (qR (aH rfl) (fK (aU (fK (eE rfl rfl)) rfl)) (if_pos hrl)) (by rw[List.map_append]at h;exact h))))
  clear t1 t2 t3 hTb
  by_cases hA:aQ s= -1∧aQ t= -1
  ·obtain⟨e,rfl,we⟩:=yI ws hA.1
   obtain⟨f,rfl,wf'⟩:=yI wt hA.2
   have v1:=mG (σ:=σ) we (n:=m) (iI hm4 rfl)
   have v2:=mG (σ:=σ) wf' (n:=m) (iI hm4 rfl)
   induction ve:aS e using Bool.casesOn with
   |true=>
    rw[ve]at v1
    refine(fun _ k=>k (V.beq (fJ W e) (fJ W f)) σ (pre (cU (gT (bQ (bE (aH rfl) rfl rfl) rfl) (bQ (bE (aH rfl) rfl rfl) rfl)) rfl (cU (bV (aO (aU (bE (aH rfl) rfl rfl) rfl) v1) rfl) rfl
     (bA (eH (cV (q:= .eq) (aO (aU (aH rfl) (aU (bE (aH rfl) rfl rfl) rfl)) (aI1 R O we (iI hm4 rfl))) (aO (aU (aH rfl) (aU (bE (aH rfl) rfl rfl) rfl)) (aI1 R O wf' (iI hm4 rfl))) (oS (aA4 O we) (aA4 O wf')))))))) .refl (fun h=> .step (uT.mpr (.inl ⟨ve,(V.beq_iff _ _).mp h⟩))) (fun k hk hr=> ?_))
    rcases uK hk with h |⟨j,hj,h,_⟩
    ·exact absurd h hT
    ·rcases uT.mp h with⟨_,h⟩ |⟨h,_⟩
     ·rw[h,V.beq_self]
     ·rw[ve]at h;exact kP h
   |false=>
    rw[ve]at v1
    have pre2:∀{v:V} {σ':aD},(gZ (mO (aJ (aL m .law_value) [(aG (aA 2) (aB 1))])) (aJ (aL m .law_goes) [(aA 0),(aG (aA 1) (aB 1)),(aG (aA 2) (aB 1)),(aA 3)])) _ σ=some (v,σ')→_:=fun {v σ'} h=>pre (v:=v) (σ':=σ') (cU (gT (bQ (bE (aH rfl) rfl rfl) rfl) (bQ (bE (aH rfl) rfl rfl) rfl)) rfl (bN (bV (aO (aU (bE (aH rfl) rfl rfl) rfl) v1) rfl) rfl (bA h)))
    induction vf:aS f using Bool.casesOn with
    |true=>
     rw[vf]at v2
     refine(fun _ k=>k false σ (pre2 (wZ (bV4 (aO (aU (bE (aH rfl) rfl rfl) rfl) v2)))) .refl (fun h=>(by exact c7 h)) (fun k hk hr=> ?_))
     rcases uK hk with h |⟨j,hj,h,_⟩
     ·exact absurd h hT
     ·rcases uT.mp h with⟨h,_⟩ |⟨_,h,_⟩
      ·rw[ve]at h;exact c7 h
      ·rw[vf]at h;exact kP h
    |false=>
     rw[vf]at v2
     have hin':gR e f∨(e,f)∈U:=(Classical.em (gR e f)).imp id fun q=>C.arr e f hin ve vf q
     refine(ih (road++[(dK e,dK f)]) e f m (nAB hm rfl) hl2 nd' hr' we wf' hin' σ R) _ fun r σ1 g1 g2 g3 g4=> ?_
     refine(fun _ k=>k r σ1 (pre2 (uX (bV4 (aO (aU (bE (aH rfl) rfl rfl) rfl) v2)) (aO (aU (aH rfl) (aU (bE (aH rfl) rfl rfl) (aU (bE (aH rfl) rfl rfl) (jW rfl)))) g1))) g2 (fun h=> .step (uT.mpr (.inr ⟨ve,vf,g3 h⟩))) (fun k hk hr=> ?_))
     rcases uK hk with h |⟨j,hj,h,hnj⟩
     ·exact absurd h hT
     ·rcases uT.mp h with⟨h,_⟩ |⟨_,_,h⟩
      ·rw[ve]at h;exact c7 h
      ·exact g4 j h (hroad k hr j hj hnj)
  ·have hd:(decide (aQ s= -1)&&decide (aQ t= -1))=false:=Bool.eq_false_iff.mpr fun q=>by
    rw[Bool.and_eq_true,decide_eq_true_eq,decide_eq_true_eq]at q
    exact hA q
   refine(cH6 R O ws (n:=m) (iI hm4 rfl)) _ fun j l σ1 u1 u2 u3 u4 u5 u6=> ?_
   have pre2:∀{v:V} {σ':aD},fN _ _ σ v σ'→_:=fun {v σ'} h=>pre (v:=v) (σ':=σ') (bN (gT (bQ (bE (aH rfl) rfl (oR ws)) rfl) (bQ (bE (aH rfl) rfl (oR wt)) rfl)) hd h)
   have hnarr:∀e f,s=dK e→t≠dK f:=fun e f x1 x2=>hA ⟨by rw[x1];rfl,by rw[x2];rfl⟩
   rcases aC0 (X:=X) (kt:=kt) (W:=W) (m:=m) (iI hm4 rfl) (road:=road++[(s,t)]) wt (cj:=j) l l (aZ (fun i=>[V.ref X.w,s,t,.tup (road.map pV)][i]?) 3 (.tup ((road++[(s,t)]).map pV))) σ1 (fun u hu=>⟨((u5 u).mp hu).wf O ws,fun hh i a c h1' h2' h3' h4' h5'=>by
     have hb:=C.like s t u hin (by rw[dJ ws];exact(u5 u).mp hu) hh i a c h1' h2' h3' h4' h5'
     have hne:aQ u≠0:=fun q=>h5' (by rw[q];exact dN5)
     have wa:=aG5 (((u5 u).mp hu).wf O ws) hne h1'
     have wc:=aG5 wt (hh▸hne) h2'
     exact⟨ih (road++[(s,t)]) a c (m-1) (by omega) hl2 nd' hr' wa wc (.inr hb.1),ih (road++[(s,t)]) c a (m-1) (by omega) hl2 nd' hr' wc wa (.inr hb.2)⟩⟩) (R.ext u2) rfl rfl rfl u3 with⟨ρ',σ',u,k1,k2,hu,hx⟩ |⟨ρ',σ',k1,k2,hx⟩
   ·exact(fun _ k=>k true σ' (pre2 (oO (nH (aO (eE rfl rfl) u1) u3 k1))) (u2.trans k2) (fun _=> .step (.inr ⟨hnarr,u,(u5 u).mp hu,hx⟩)) (fun _ _ _=>rfl))
   ·refine(fun _ k=>k false σ' (pre2 (fZ (nH (aO (eE rfl rfl) u1) u3 k1) (bA rfl))) (u2.trans k2) (fun h=>(by exact c7 h)) (fun k hk hr=> ?_))
    rcases uK hk with h |⟨j',hj,⟨e,f,x1,x2,_⟩ |⟨_,u,hru,hu⟩,hnj⟩
    ·exact absurd h hT
    ·exact absurd x2 (hnarr e f x1)
    ·obtain⟨y1,y2⟩:=hx u ((u5 u).mpr hru)
     exact hu.elim (fun hu=>absurd hu y1) fun hu=>absurd hu (y2 j' (hroad k hr j' hj hnj))
end
end
section
section
variable {σ:aD}{kt:Nat}{X:cX}{W:Wd}{U:List (V×V)}
noncomputable def cY3 (σ:aD) (X:cX) (W:Wd) (x:V) (t:V) (n:Nat) (f:FM):Prop:=∀G:Prop,(∀(r:Bool),∀(σ':aD),(f [.ref X.w,x,t] σ=some (.bool r,σ'))→(cM σ σ')→((r=true↔LIs W x t))→G)→G
theorem dO3(R:fO σ kt X W)(O:dA W)(C:Cl W U){x t:V}(wx:wf x=true)(wt:wf t=true)(hin:aS t=false→(x,t)∈U){n:Nat}(hn:2*(U.length+1)+11≤n):
  cY3 σ X W x t n (aL n .law_is):=by
 obtain⟨m,rfl⟩:∃m,n=m+1:=⟨n-1,xK hn rfl⟩
 have hm:10≤m:=mL (nAD hn) rfl
 have t1:∀{ρ:Env},ρ 1=some x→aK .eq (aG (aA 1) (aB 0)) (aB 8) ρ σ=some (decide (aQ x=8),σ):=fun r=>bQ (bE (aH r) rfl (oR wx)) rfl
 have t2:∀{ρ:Env},ρ 2=some t→aK .eq (aG (aA 2) (aB 0)) (aB 8) ρ σ=some (decide (aQ t=8),σ):=fun r=>bQ (bE (aH r) rfl (oR wt)) rfl
 by_cases h8:aQ x=8
 ·exact(fun _ k=>k false σ (cL (iI hm rfl) (fun _=>rfl) rfl (cU (t1 rfl) (decide_eq_true h8) (bA rfl))) .refl ⟨fun k=>(by exact c7 k),fun k=>absurd h8 k.1⟩)
 by_cases t8:aQ t=8
 ·rcases wf8 wt t8 with rfl |⟨v,rfl,wv,vv⟩
  ·refine(fun _ k=>k false σ (cL (iI hm rfl) (fun _=>rfl) rfl (bN (t1 rfl) (decide_eq_false h8) (cU (t2 rfl) rfl (bA (wZ rfl))))) .refl ⟨fun k=>(by exact c7 k),fun k=> ?_⟩)
   rcases k.2 with⟨_,v,h,_⟩ |⟨h,_⟩ |⟨h,_⟩
   ·cases h
   ·exact absurd t8 h
   ·exact absurd t8 h
  ·refine(fun _ k=>k (V.beq x v) σ (cL (iI hm rfl) (fun _=>rfl) rfl (bN (t1 rfl) (decide_eq_false h8) (cU (t2 rfl) rfl (bA (uX rfl (eH (cV (q:= .eq) (aH rfl) (bE (aH rfl) rfl rfl) (oS wx wv)))))))) .refl ⟨fun k=>⟨h8,.inl ⟨t8,v,rfl,(V.beq_iff _ _).mp k⟩⟩,fun k=> ?_⟩)
   rcases k.2 with⟨_,v',h,h'⟩ |⟨h,_⟩ |⟨h,_⟩
   ·cases h;rw[h',V.beq_self]
   ·exact absurd t8 h
   ·exact absurd t8 h
 have pre:∀{w:V} {σ':aD},fN _ (fun i=>[V.ref X.w,x,t][i]?) σ w σ'→aL (m+1) .law_is [.ref X.w,x,t] σ=some (w,σ'):=fun h=>cL (iI hm rfl) (fun _=>rfl) rfl (bN (t1 rfl) (decide_eq_false h8) (bN (t2 rfl) (decide_eq_false t8) h))
 have v2:=mG (σ:=σ) wt (n:=m) (iI hm rfl)
 induction vt:aS t using Bool.casesOn with
 |true=>
  rw[vt]at v2
  refine(fun _ k=>k (V.beq x t) σ (pre (cU (bV (aO rfl v2) rfl) rfl (bA (eH (cV (q:= .eq) (aH rfl) (aH rfl) (oS wx wt)))))) .refl ⟨fun k=>⟨h8,.inr (.inl ⟨t8,vt,(V.beq_iff _ _).mp k⟩)⟩,fun k=> ?_⟩)
  rcases k.2 with⟨h,_⟩ |⟨_,_,h⟩ |⟨_,h,_⟩
  ·exact absurd h t8
  ·rw[h,V.beq_self]
  ·rw[vt]at h;exact kP h
 |false=>
  rw[vt]at v2
  refine(cY5 (kt:=kt) (X:=X) O C (U.length+1) [] x t m (by omega) (Nat.le_refl _) List.nodup_nil (fun _ h=>by cases h) wx wt (.inr (hin vt)) σ R) _ fun r σ' g1 g2 g3 g4=> ?_
  refine(fun _ k=>k r σ' (pre (bN (bV (aO rfl v2) rfl) rfl (bA (aO rfl g1)))) g2 ⟨fun k=>⟨h8,.inr (.inr ⟨t8,vt,g3 k⟩)⟩,fun k=> ?_⟩)
  rcases k.2 with⟨h,_⟩ |⟨_,h,_⟩ |⟨_,_,k,h⟩
  ·exact absurd h t8
  ·rw[vt]at h;exact c7 h
  ·exact g4 k h fun _ h=>by cases h
end
end
section
theorem aC1{i:Nat}{b:SM}{all:List V}{σ:aD}:∀(l:List V) (ρ:Env),(∀v∈l,∀ρ':Env,(∀j,j≠i→ρ' j=ρ j)→ρ' i=some v→b ρ' σ=some (.next,ρ',σ))→∃ρ':Env,(∀j,j≠i→ρ' j=ρ j)∧dM i b .fix all l ρ σ=some (.next,ρ',σ)
 |[],ρ,_=>⟨ρ,fun _ _=>rfl,rfl⟩
 |v::l,ρ,h=>by
  have hj:∀j,j≠i→aZ ρ i v j=ρ j:=fun j hj=>if_neg (by assumption)
  have hb:=h v (.head _) (aZ ρ i v) hj (by simp[aZ])
  obtain⟨ρ',g1,g2⟩:=aC1 l (aZ ρ i v) fun w hw ρ' h1 h2=>h w (.tail _ hw) ρ' (fun j k=>by rw[h1 j k,hj j k]) h2
  refine⟨ρ',fun j k=>by rw[g1 j k,hj j k],?_⟩
  simp only[dM,hb,eS,if_true]
  exact g2
noncomputable def Shp (x:V):Prop:=(aQ x=0→x=tP (iZ x))∧((aQ x= -1∨aQ x= -2)→∃e,x=tm (aQ x) [e])∧x=tm (aQ x) (bY x)
structure lQ(L:Ly):Prop where
 r:L.kr≠L.kt∧L.kr≠L.kd∧L.kr≠L.ki∧L.kr≠L.kdep∧L.kr≠L.kw∧L.kr≠L.ko
 i:L.ki≠L.kt∧L.ki≠L.kd∧L.ki≠L.kdep∧L.ki≠L.kw∧L.ki≠L.ko
 d:L.kdep≠L.kt∧L.kdep≠L.kd∧L.kdep≠L.kw∧L.kdep≠L.ko
 w:L.kw≠L.kt∧L.kw≠L.kd∧L.kw≠L.ko
 o:L.ko≠L.kt∧L.ko≠L.kd
noncomputable def pC (ts:List V):List (V×V):=ts.map fun x=>(V.tup (dF ts x),aP ts x)
structure hY(σ:aD)(L:Ly)(ts:List V):Prop where
 r:eO σ L ts
 ki:σ[L.ki]? =some (.dict (pC ts))
 dep:∃ds:List Int,σ[L.kdep]? =some (.list (ds.map .int))∧ds.length=ts.length∧∀(k:Nat) x d,ts[k]? =some x→ds[k]? =some d→1≤d∧∀e,dP e x=true→d≤e
 wei:∃ds:List Int,σ[L.kw]? =some (.list (ds.map .int))∧ds.length=ts.length∧∀(k:Nat) x d,ts[k]? =some x→ds[k]? =some d→1≤d∧∀e,dP e x=true→d≤((3^e:Nat):Int)
 opn:σ[L.ko]? =some (.list (ts.map fun _=> .int 0))
 ne:lQ L
 shp:∀x∈ts,Shp x
 args:∀x∈ts,aQ x≠0→∀y∈bY x,y∈ts
 argw:∀x∈ts,aQ x≠0→∀y∈bY x,wf y=true
theorem aJ5{ts ns:List V}{x:V}(hs:Shp x)(ha:aQ x≠0→∀y∈bY x,y∈ts):dF (ts++ns) x=dF ts x:=by
 unfold dF
 by_cases h0:aQ x=0
 ·simp[h0]
 ·by_cases h1:aQ x= -1∨aQ x= -2
  ·obtain⟨e,he⟩:=hs.2.1 h1
   have hm:e∈ts:=ha h0 e (by rw[he];exact .head _)
   have:uO x=e:=by rw[he];rfl
   simp only[h0,if_false,h1,if_true,this,aP,vA hm]
  ·simp only[h0,if_false,h1]
   congr 3
   congr 1
   exact List.map_congr_left fun y hy=>by rw[aP,aP,vA (ha h0 y hy)]
theorem xR{ts:List V}:∀{a b:List V},(∀x∈a,x∈ts)→(∀x∈b,x∈ts)→a.map (aP ts)=b.map (aP ts)→a=b
 |[],[],_,_,_=>rfl
 |[],_::_,_,_,h=>by injection h
 |_::_,[],_,_,h=>by injection h
 |x::a,y::b,ha,hb,h=>by
  rw[List.map_cons,List.map_cons,List.cons.injEq]at h
  have h1:=h.1
  injection h1 with h1
  rw[gF (ha x (.head _)) (hb y (.head _)) (nIi h1),xR (fun z hz=>ha z (.tail _ hz)) (fun z hz=>hb z (.tail _ hz)) h.2]
theorem kT(ts:List V)(x:V):aP ts x= .int (eF ts x):=rfl
theorem aJ4{ts:List V}{x y:V}(sx:Shp x)(sy:Shp y)(ax:aQ x≠0→∀z∈bY x,z∈ts)(ay:aQ y≠0→∀z∈bY y,z∈ts)(h:dF ts x=dF ts y):x=y:=by
 have hs:bM x=bM y:=by
  have h1:(dF ts x)[0]? =some (.int (bM x)):=fY
  have h2:(dF ts y)[0]? =some (.int (bM y)):=fY
  rw[h,h2]at h1
  exact V.int.inj (Option.some.inj h1).symm
 have r0:∀{x:V},aQ x=0→dF ts x=[.int 1,.int (iZ x)]:=fun h=>if_pos h
 have r1:∀{x:V},¬aQ x=0→aQ x= -1∨aQ x= -2→dF ts x=[.int (bM x),aP ts (uO x)]:=fun n h=>(if_neg n).trans (if_pos h)
 have r2:∀{x:V},¬aQ x=0→¬aQ x= -1→¬aQ x= -2→dF ts x=[.int (bM x),.int (aQ x),.tup ((bY x).map (aP ts))]:=fun n a b=>(if_neg n).trans (if_neg fun q=>q.elim a b)
 have one:∀{c:Int},c= -1∨c= -2→c≠0→aQ x=c→aQ y=c→x=y:=fun {c} hc n0 x0 y0=>by
  have nx:aQ x≠0:=x0▸n0
  have ny:aQ y≠0:=y0▸n0
  have hx:aQ x= -1∨aQ x= -2:=x0▸hc
  have hy:aQ y= -1∨aQ y= -2:=y0▸hc
  obtain⟨e,ex⟩:=sx.2.1 hx
  obtain⟨f,ey⟩:=sy.2.1 hy
  have ae:uO x=e:=by rw[ex];rfl
  have af:uO y=f:=by rw[ey];rfl
  rw[r1 nx hx,r1 ny hy,ae,af]at h
  rw[ex,ey,x0,y0,gF (ax nx e (by rw[ex];exact .head _)) (ay ny f (by rw[ey];exact .head _)) (nIi (V.int.inj (List.cons.inj (List.cons.inj h).2).1))]
 rcases eL x with⟨x0,sx'⟩ |⟨x0,sx'⟩ |⟨x0,sx'⟩ |⟨x0,x1,x2,_,sx'⟩ |⟨x0,x1,x2,_,sx'⟩<;>
 rcases eL y with⟨y0,sy'⟩ |⟨y0,sy'⟩ |⟨y0,sy'⟩ |⟨y0,y1,y2,_,sy'⟩ |⟨y0,y1,y2,_,sy'⟩<;>
 first
  |(exfalso;rw[sx',sy']at hs;exact absurd hs (by decide))
  |skip
 ·rw[r0 x0,r0 y0]at h
  rw[sx.1 x0,sy.1 y0,V.int.inj (List.cons.inj (List.cons.inj h).2).1]
 ·exact one (.inl rfl) (by decide) x0 y0
 ·exact one (.inr rfl) (by decide) x0 y0
 all_goals
  rw[r2 x0 x1 x2,r2 y0 y1 y2]at h
  have h':=List.cons.inj (List.cons.inj h).2
  rw[sx.2.2,sy.2.2,V.int.inj h'.1,xR (ax x0) (ay y0) (V.tup.inj (List.cons.inj h'.2).1)]
theorem wI(ts:List V):f9 (pC ts):=by
 intro e he
 obtain⟨x,_,rfl⟩:=List.mem_map.mp he
 exact tH ts x
theorem bE3{es:List (V×V)}{k:V}(h:∀e∈es,e.1≠k):bW es k=none:=by
 induction es with
 |nil=>rfl
 |cons e es ih=>
  rw[bW,V.beq_ne (h e (.head _))]
  exact ih fun e he=>h e (.tail _ he)
theorem kO:∀{es:List (V×V)} {k v:V},(∀e∈es,e.1≠k)→dG es k v=es++[(k,v)]
 |[],_,_,_=>rfl
 |e::es,k,v,h=>by
  rw[dG,V.beq_ne (h e (.head _)),kO fun e he=>h e (.tail _ he)]
  rfl
theorem qG{es:List (V×V)}(nd:(es.map (·.1)).Nodup){k v:V}(h:(k,v)∈es):bW es k=some v:=by
 induction es with
 |nil=>cases h
 |cons e es ih=>
  rw[List.map_cons,List.nodup_cons]at nd
  rw[bW]
  rcases List.mem_cons.mp h with rfl |h
  ·rw[V.beq_self];rfl
  ·rw[V.beq_ne fun q=>nd.1 (by rw[q];exact List.mem_map.mpr ⟨_,h,rfl⟩)]
   exact ih nd.2 h
section
variable {σ:aD}{L:Ly}{ts:List V}
theorem hY.ix_none(H:hY σ L ts){y:V}(sy:Shp y)(ay:aQ y≠0→∀z∈bY y,z∈ts)(hy:y∉ts):∀e∈pC ts,e.1≠ .tup (dF ts y):=by
 intro e he q
 obtain⟨x,hx,rfl⟩:=List.mem_map.mp he
 simp only[V.tup.injEq]at q
 exact hy (aJ4 (H.shp x hx) sy (H.args x hx) ay q▸hx)
theorem cH7(H:eO σ L ts){x:V}(hx:x∈ts)(wx:wf x=true){n:Nat}(hn:4≤n):aL n .may_stand [.ref L.kt,aP ts x] σ=some (.bool true,σ):=by
 have ns:=sW (.inl wx)
 have ne:∀{i:Nat},i<16→x≠tP i→¬((eF ts x:Nat):Int)=i:=fun {i} hi hn h=>by
  have h14:=H.prim i hi
  have:=bG hx
  rw[Int.ofNat.inj h,h14]at this
  (refine cT this fun p=> ?_;clear this;subst p);exact hn rfl
 have i14:=ne (i:=14) (by decide) ns.1
 have i0:=ne (i:=0) (by decide) ns.2
 have h8:=rE wx
 have hs:bM x≤4:=by
  rcases eL x with⟨_,q⟩ |⟨_,q⟩ |⟨_,q⟩ |⟨_,_,_,_,q⟩ |⟨_,_,_,_,q⟩<;>omega
 exact iM hn rfl (fun _=>rfl) rfl fun m hm=>bN (dW (bQ (aH rfl) rfl) (bQ (aH rfl) rfl)) (Bool.or_eq_false_iff.mpr ⟨decide_eq_false i0,decide_eq_false i14⟩)
  (cQ (bE (H.vRow (bG hx) (bH hm rfl) (aH rfl) (aH rfl)) rfl (l4 (i:=0) fY rfl)) (bA (cX0 (eH (cV (q:= .le) (aH rfl) rfl (congrArg some (decide_eq_true hs)))))))
noncomputable def dP2 (ts:List V) (y:V):V:= .tup ((bY y).map (aP ts))
inductive Mk (ts:List V):V→Prop
 |arr {e:V} (h:e∈ts) (w:wf e=true):Mk ts (dK e)
 |box {e:V} (h:e∈ts) (w:wf e=true) (v:aS e=true):Mk ts (tm (-2) [e])
 |cls {h:Int} {args:List V} (w:wf (tm h args)=true) (h0:h≠0) (h1:h≠ -1) (ha:∀x∈args,x∈ts):Mk ts (tm h args)
theorem Mk.all{y:V}(M:Mk ts y):Shp y∧aQ y≠0∧(∀a∈bY y,a∈ts∧wf a=true)∧(bY y).length≤2:=by
 cases M with
 | @arr e h w=>exact⟨⟨nofun,fun _=>⟨_,rfl⟩,rfl⟩,nofun,kY (p:=fun a=>a∈ts∧wf a=true) ⟨h,w⟩ sV,Nat.le_of_ble_eq_true rfl⟩
 | @box e h w v=>exact⟨⟨nofun,fun _=>⟨_,rfl⟩,rfl⟩,nofun,kY (p:=fun a=>a∈ts∧wf a=true) ⟨h,w⟩ sV,Nat.le_of_ble_eq_true rfl⟩
 | @cls h args w h0 h1 ha=>
  have h2:aQ (tm h args)≠ -2:=nE w
  rcases cR w with⟨n,q,_⟩ |⟨hh,args',q,_,ha',w2,_⟩
  ·exact absurd (V.int.inj (List.cons.inj (V.tup.inj q)).1) h0
  ·have q':=List.cons.inj (V.tup.inj q)
   rw[←q'.2]at w2
   exact⟨⟨fun q=>absurd q h0,fun q=>q.elim (fun q=>absurd q h1) (fun q=>absurd q h2),rfl⟩,h0,fun a hm=>⟨ha a hm,List.all_eq_true.mp w2 a hm⟩,yJ w h0⟩
theorem sJ{h:Int}{args:List V}(w:wf (tm h args)=true)(h0:h≠0)(h1:h≠ -1):bM (tm h args)=2∨bM (tm h args)=3:=by
 rcases eL (tm h args)with⟨q,_⟩ |⟨q,_⟩ |⟨q,_⟩ |⟨_,_,_,_,q⟩ |⟨_,_,_,_,q⟩
 ·exact absurd q h0
 ·exact absurd q h1
 ·exact absurd q (nE w)
 ·exact .inr q
 ·exact .inl q
theorem vE{h:Int}{args:List V}(w:wf (tm h args)=true)(h0:h≠0)(h1:h≠ -1):dF ts (tm h args)=[.int (bM (tm h args)),.int h,.tup (args.map (aP ts))]:=by
 rw[dF,if_neg (show ¬aQ (tm h args)=0 from h0),if_neg (show ¬(aQ (tm h args)= -1∨aQ (tm h args)= -2)from fun q=>q.elim h1 (nE w))];rfl
theorem sR{y:V}(M:Mk ts y){n:Nat}(hn:3≤n):aL n .inner_kinds [.tup (dF ts y)] σ=some (dP2 ts y,σ):=by
 have one:∀(s:Int) (v:V),s=4∨s=8→aL n .inner_kinds [.tup [.int s,v]] σ=some (.tup [v],σ):=fun s v hs=>
  iM hn rfl (fun _=>rfl) rfl fun m hm=>cQ (bE (aH rfl) rfl rfl) (bN (dW (bQ (aH rfl) rfl) (bQ (aH rfl) rfl)) (by rcases hs with rfl |rfl<;>rfl)
   (cU (dW (bQ (aH rfl) rfl) (dW (bQ (aH rfl) rfl) (dW (bQ (aH rfl) rfl) (dW (bQ (aH rfl) rfl) (bQ (aH rfl) rfl))))) (by rcases hs with rfl |rfl<;>rfl) (bA (fK (aU (bE (aH rfl) rfl rfl) rfl)))))
 cases M with
 |arr h w=>exact one 4 _ (.inl rfl)
 |box h w v=>exact one 8 _ (.inr rfl)
 | @cls h args w h0 h1 ha=>
  rw[vE w h0 h1]
  exact iM hn rfl (fun _=>rfl) rfl fun m hm=>cQ (bE (aH rfl) rfl rfl) (cU (dW (bQ (aH rfl) rfl) (bQ (aH rfl) rfl)) (by rcases sJ w h0 h1 with q |q<;>rw[q]<;>rfl) (bA (bE (aH rfl) rfl rfl)))
theorem aS6{y:V}(M:Mk ts y){n:Nat}(hn:3≤n):∃lv:Int,(lv=0∨lv=1)∧(wf y=true→lv=1)∧aL n .row_level [.int (bM y)] σ=some (.int lv,σ):=by
 have one:∀s:Int,s=2∨s=3∨s=4→aL n .row_level [.int s] σ=some (.int 1,σ):=fun s hs=>
  iM hn rfl (fun _=>rfl) rfl fun m hm=>cU (dW (bQ (aH rfl) rfl) (dW (bQ (aH rfl) rfl) (bQ (aH rfl) rfl))) (by rcases hs with rfl |rfl |rfl<;>rfl) (bA rfl)
 cases M with
 |arr h w=>exact⟨1,.inr rfl,fun _=>rfl,one _ (.inr (.inr rfl))⟩
 | @box e h w v=>exact⟨0,.inl rfl,fun h=>(by rw[mQ]at h;exact c7 h),iM hn rfl (fun _=>rfl) rfl fun m hm=>bN (dW (bQ (aH rfl) rfl) (dW (bQ (aH rfl) rfl) (bQ (aH rfl) rfl))) rfl (bA rfl)⟩
 | @cls h args w h0 h1 ha=>exact⟨1,.inr rfl,fun _=>rfl,one _ ((sJ w h0 h1).imp id .inl)⟩
end
end
section
section
variable {σ:aD}{L:Ly}{ts:List V}
theorem dA3{i:Nat}{e:EM}{b s2:SM}{ρ:Env}{l:List V}{σ2:aD}(he:e ρ σ=some (.tup l,σ))(hb:∀v∈l,∀ρ':Env,(∀j,j≠i→ρ' j=ρ j)→ρ' i=some v→b ρ' σ=some (.next,ρ',σ))(k:∀ρ':Env,(∀j,j≠i→ρ' j=ρ j)→oA s2 ρ' σ σ2):oA (aC (dL i e b) s2) ρ σ σ2:=
 let⟨ρ',q,g⟩:=aC1 (all:=l) l ρ hb
 u0 (cH2 he g) (k ρ' q)
theorem aI8(H:eO σ L ts){l:List V}(hl:∀a∈l,a∈ts∧wf a=true){n:Nat}(hn:5≤n):aL n .check_args [.ref L.kt,.tup (l.map (aP ts))] σ=some (.none,σ):=
 bF0 hn rfl (fun _=>rfl) rfl fun m hm=>dA3 (aH rfl) (fun v hv ρ' h1 h2=>by
  obtain⟨a,ha,rfl⟩:=List.mem_map.mp hv
  exact bI (iQ (jK (bV (aO (eE (h1 0 (by decide)) h2) (cH7 H (hl a ha).1 (hl a ha).2 (bH hm rfl))) rfl)) rfl) rfl) fun _ _=>aL0
theorem cG7{h:Int}{args:List V}(w:wf (tm h args)=true)(h0:h≠0):eI h args.length=true:=by
 rcases cR w with⟨n,q,_⟩ |⟨hh,args',q,_,ha',w2,_⟩
 ·cases q;exact absurd rfl h0
 ·cases q;exact ha'
noncomputable def cX3:List (Int×Int):=[(20,0),(9,1),(10,2),(11,3),(12,4),(13,5),(14,6),(15,7),(16,8),(17,9),(18,10),(19,11),(1,12),(4,13)]
theorem aM4{h:Int}{args:List V}(w:wf (tm h args)=true)(h0:h≠0)(h1:h≠ -1):0<h∧eU cX3 h=none:=
 (of_decide_eq_true (fI (fun h=>decide (h= -1∨0<h∧(eU cX3 h).isNone)) rfl (cG7 w h0))).elim (fun q=>absurd q h1) fun q=>⟨q.1,Option.isNone_iff_eq_none.mp q.2⟩
theorem aD3(H:eO σ L ts){h:Int}{args:List V}(w:wf (tm h args)=true)(h0:h≠0)(h1:h≠ -1)(ha:∀a∈args,a∈ts∧wf a=true){n:Nat}(hn:6≤n):aL n .check_named [.ref L.kt,.tup (dF ts (tm h args))] σ=some (.none,σ):=by
 obtain⟨p1,p2⟩:=aM4 w h0 h1
 rw[vE w h0 h1]
 exact bF0 hn rfl (fun _=>rfl) rfl fun m hm=>xM (dW (cV (q:= .le) (bE (aH rfl) rfl rfl) rfl rfl) (cV (q:= .isIn) (bE (aH rfl) rfl rfl) rfl rfl)) (Bool.or_eq_false_iff.mpr ⟨decide_eq_false (Int.not_le.mpr p1),congrArg Option.isSome p2⟩)
  (u0 (pR (aO (aU (aH rfl) (aU (bE (aH rfl) rfl rfl) rfl)) (aI8 H ha (bH hm rfl)))) aL0)
noncomputable def dD9 (s:Int) (k:Nat):Prop:=(k=2∧(s=4∨s=8))∨(k=3∧(s=2∨s=3))
theorem Mk.rowL{y:V}(M:Mk ts y):dD9 (bM y) (dF ts y).length:=by
 cases M with
 |arr h w=>exact .inl ⟨rfl,.inl rfl⟩
 |box h w v=>exact .inl ⟨rfl,.inr rfl⟩
 |cls w h0 h1 ha=>exact .inr ⟨by rw[vE w h0 h1];rfl,sJ w h0 h1⟩
theorem aI2{s:Int}{k n:Nat}(h:dD9 s k)(hn:3≤n):aL n .row_length [.int s] σ=some (.int k,σ):=by
 rcases h with⟨rfl,h⟩ |⟨rfl,h⟩
 ·exact iM hn rfl (fun _=>rfl) rfl fun m hm=>bN (dW (bQ (aH rfl) rfl) (bQ (aH rfl) rfl)) (by rcases h with rfl |rfl<;>rfl) (bN (bQ (aH rfl) rfl) (by rcases h with rfl |rfl<;>rfl) (bA rfl))
 ·exact iM hn rfl (fun _=>rfl) rfl fun m hm=>cU (dW (bQ (aH rfl) rfl) (bQ (aH rfl) rfl)) (by rcases h with rfl |rfl<;>rfl) (bA rfl)
theorem cP8(H:eO σ L ts){y:V}(M:Mk ts y){n:Nat}(hn:7≤n):aL n .check_kind_row [.ref L.kt,.tup (dF ts y)] σ=some (.none,σ):=by
 have hya:=M.all.2.2.1
 have hR:=M.rowL
 have h1:(decide ((((dF ts y).length:Nat):Int)=0)||(decide (bM y≤1)||decide (bM y>11)))=false:=by
  rcases hR with⟨e,h |h⟩ |⟨e,h |h⟩<;>rw[e,h]<;>rfl
 have hl:jD (.tup (dF ts y)) σ=some ((dF ts y).length:Nat):=if_pos (by rcases hR with⟨e,_⟩ |⟨e,_⟩<;>rw[e]<;>decide)
 have r0:gH (.tup (dF ts y)) (.int 0) σ=some (.int (bM y)):=l4 (i:=0) fY rfl
 refine bF0 hn rfl (fun _=>rfl) rfl fun m hm=>xM (dW (bQ (kG (aH rfl) hl) rfl) (dW (cV (q:= .le) (bE (aH rfl) rfl r0) rfl rfl) (cV (q:= .gt) (bE (aH rfl) rfl r0) rfl rfl))) h1
  (dO8 (bE (aH rfl) rfl r0) (xM (nI (kG (aH rfl) hl) (aO (jW rfl) (aI2 hR (bH hm rfl)))) (by rw[decide_eq_true rfl];rfl)
   (dA3 (aO (jW rfl) (sR M (bH hm rfl))) (fun v hv ρ' g1 g2=>by
    obtain⟨a,ha,rfl⟩:=List.mem_map.mp hv
    exact bI (pR (H.vRow (bG (hya a ha).1) (bH hm rfl) (aH (g1 0 (by decide))) (aH g2))) rfl) fun ρ' q=> ?_)))
 have q0:ρ' 0=some (.ref L.kt):=q 0 (by decide)
 have q1:ρ' 1=some (.tup (dF ts y)):=q 1 (by decide)
 have q2:ρ' 2=some (.int (bM y)):=q 2 (by decide)
 clear q hl r0 h1 hR
 cases M with
 |arr h w=>exact nF (dW (bQ (aH q2) rfl) (bQ (aH q2) rfl)) rfl (nF (dW (bQ (aH q2) rfl) (bQ (aH q2) rfl)) rfl (nF (bQ (aH q2) rfl) rfl (nF (bQ (aH q2) rfl) rfl (xM (jK (bV (aO (aU (aH q0) (aU (bE (aH q1) rfl rfl) rfl)) (cH7 H h w (bH hm rfl))) rfl)) rfl aL0))))
 |box h w v=>exact nF (dW (bQ (aH q2) rfl) (bQ (aH q2) rfl)) rfl (nF (dW (bQ (aH q2) rfl) (bQ (aH q2) rfl)) rfl (nF (bQ (aH q2) rfl) rfl (nT (bQ (aH q2) rfl) rfl (xM (jK (qP (bV (aO (aU (aH q0) (aU (bE (aH q1) rfl rfl) rfl)) (kR H (bG h) (bH hm rfl))) (congrArg some ((uV w).trans v))))) rfl aL0))))
 | @cls h args w h0 h1 ha=>exact nT (dW (bQ (aH q2) rfl) (bQ (aH q2) rfl)) (by rcases sJ w h0 h1 with q |q<;>rw[q]<;>rfl) (u0 (pR (aO (eE q0 q1) (aD3 H w h0 h1 hya (bH hm rfl)))) aL0)
end
end
section
section
variable {σ:aD}{L:Ly}{ts:List V}
noncomputable def PB:SM:=(aC (a8 (aK .gt (aT .add (aG (aR (aA 0) "depths") (aA 7)) (aA 6)) (aA 3)) (aC (aV 3 (aT .add (aG (aR (aA 0) "depths") (aA 7)) (aA 6))) aF) aF) (aC (mH 4 (aG (aR (aA 0) "weights") (aA 7))) (aC (a8 (aK .eq (aG (aR (aA 0) "opens") (aA 7)) (aB 1)) (aC (aV 5 (aB 1)) aF) aF) aF)))
theorem bP0{α:Type}{l:List α}(hl:l.length=ts.length){a:V}(ha:a∈ts):∃d,l[eF ts a]? =some d:=by
 have:=eV (σ:=[]) (i:=0) (o:= .list [])
 have hlt:=(List.getElem?_eq_some_iff.mp (bG ha)).1
 exact⟨l[eF ts a],List.getElem?_eq_getElem (xO hlt hl)⟩
structure bI3(ρ:Env)(L:Ly)(row:V)(lv dd ww:Int):Prop where
 r0:ρ 0=some (.ref L.kt)
 r1:ρ 1=some row
 r3:ρ 3=some (.int dd)
 r4:ρ 4=some (.int ww)
 r5:ρ 5=some (.int 0)
 r6:ρ 6=some (.int lv)
structure DW(a:V)(d w:Int):Prop where
 d1:1≤d
 d2:∀e,dP e a=true→d≤e
 w1:1≤w
 w2:∀e,dP e a=true→w≤((3^e:Nat):Int)
theorem v8{x:Int}(h1:0≤x)(h2:x≤100000):small x=true:=Bool.and_eq_true_iff.mpr ⟨decide_eq_true (Int.lt_of_lt_of_le (by decide) h1),decide_eq_true (Int.lt_of_le_of_lt h2 (by decide))⟩
theorem cU6(H:hY σ L ts){a:V}(ha:a∈ts)(wa:wf a=true){ρ:Env}{row:V}{lv dd ww:Int}(hlv:lv=0∨lv=1)(S:bI3 ρ L row lv dd ww)(h3:1≤ww)(h4:ww≤100000):
  ∃(d w:Int) (ρ':Env),DW a d w∧PB (aZ ρ 7 (aP ts a)) σ=some (.next,ρ',σ)∧bI3 ρ' L row lv (if d+lv>dd then d+lv else dd) (ww+w):=by
 obtain⟨ds,d1,d2,d3⟩:=H.dep
 obtain⟨ws,w1,w2,w3⟩:=H.wei
 obtain⟨d,hd⟩:=bP0 d2 ha
 obtain⟨w,hw⟩:=bP0 w2 ha
 obtain⟨d4,d5⟩:=d3 _ a d (bG ha) hd
 obtain⟨w4,w5⟩:=w3 _ a w (bG ha) hw
 have hi:eF ts a<1000000:=by have:=(List.getElem?_eq_some_iff.mp (bG ha)).1;exact Nat.lt_of_lt_of_le this (d0 H.r.len rfl)
 have D:∀{ρ:Env},ρ 0=some (.ref L.kt)→ρ 7=some (aP ts a)→aG (aR (aA 0) "depths") (aA 7) ρ σ=some (.int d,σ):=fun a0 a7=>bE (eR (aH a0) H.r.fields (cY rfl (cY rfl f0))) (aH a7) (rV d1 (by rw[List.getElem?_map,hd];rfl) hi)
 have E:∀{ρ:Env},ρ 0=some (.ref L.kt)→ρ 7=some (aP ts a)→aG (aR (aA 0) "weights") (aA 7) ρ σ=some (.int w,σ):=fun a0 a7=>bE (eR (aH a0) H.r.fields (cY rfl (cY rfl (cY rfl f0)))) (aH a7) (rV w1 (by rw[List.getElem?_map,hw];rfl) hi)
 have O:∀{ρ:Env},ρ 0=some (.ref L.kt)→ρ 7=some (aP ts a)→aG (aR (aA 0) "opens") (aA 7) ρ σ=some (.int 0,σ):=fun a0 a7=>bE (eR (aH a0) H.r.fields (cY rfl (cY rfl (cY rfl (cY rfl f0))))) (aH a7) (rV H.opn (by rw[List.getElem?_map,bG ha];rfl) hi)
 have d6:d≤6:=d5 6 wa
 have w6:w≤729:=w5 6 wa
 have sd:(small d&&small lv)=true:=by rw[v8 (l9 d4 rfl) (iLe d6 rfl)];rcases hlv with rfl |rfl<;>rfl
 have sw:(small ww&&small w)=true:=by rw[v8 (l9 h3 rfl) h4,v8 (l9 w4 rfl) (iLe w6 rfl)];rfl
 have A:∀{ρ:Env},ρ 0=some (.ref L.kt)→ρ 7=some (aP ts a)→ρ 6=some (.int lv)→aT .add (aG (aR (aA 0) "depths") (aA 7)) (aA 6) ρ σ=some (.int (d+lv),σ):=fun a0 a7 a6=>qR (D a0 a7) (aH a6) (if_pos sd)
 refine⟨d,w,?_⟩
 by_cases q:d+lv>dd
 ·rw[if_pos q]
  exact⟨_,⟨d4,d5,w4,w5⟩,bI (o4 (cV (q:= .gt) (A S.r0 rfl S.r6) (aH S.r3) (congrArg some (decide_eq_true q))) (bI (eM (A S.r0 rfl S.r6)) rfl)) (bI (bA4 S.r4 (E S.r0 rfl) sw) (bI (iQ (bQ (O S.r0 rfl) rfl) rfl) rfl)),⟨S.r0,S.r1,rfl,rfl,S.r5,S.r6⟩⟩
 ·rw[if_neg q]
  exact⟨_,⟨d4,d5,w4,w5⟩,bI (iQ (cV (q:= .gt) (A S.r0 rfl S.r6) (aH S.r3) rfl) (decide_eq_false q)) (bI (bA4 S.r4 (E S.r0 rfl) sw) (bI (iQ (bQ (O S.r0 rfl) rfl) rfl) rfl)),⟨S.r0,S.r1,S.r3,rfl,S.r5,S.r6⟩⟩
noncomputable def dJ7 (σ:aD) (L:Ly) (ts:List V) (row:V) (lv:Int) (all l:List V) (ρ:Env) (dd ww:Int):Prop:=∀G:Prop,(∀(ρ':Env),∀(dd' ww':Int),∀(h:dM 7 PB .fix all (l.map (aP ts)) ρ σ=some (.next,ρ',σ)),∀(S:bI3 ρ' L row lv dd' ww'),(dd≤dd')→(ww≤ww')→(∀B:Nat,dd≤B→(∀a∈l,∃e,dP e a=true∧(e:Int)+lv≤B)→dd'≤B)→(∀e:Nat,(∀a∈l,dP e a=true)→ww'≤ww+l.length*((3^e:Nat):Int))→G)→G
theorem aQ7(H:hY σ L ts){row:V}{lv:Int}(hlv:lv=0∨lv=1)(all:List V):∀(l:List V) (ρ:Env) (dd ww:Int),(∀a∈l,a∈ts∧wf a=true)→1≤ww→ww+729*l.length≤100000→bI3 ρ L row lv dd ww→dJ7 σ L ts row lv all l ρ dd ww
 |[],ρ,dd,ww,_,_,_,S=>(fun _ k=>k ρ dd ww rfl S (Int.le_refl _) (Int.le_refl _) (fun B h _=>h) (fun e _=>by rw[List.length_nil];omega))
 |a::l,ρ,dd,ww,hl,h1,h2,S=>by
  rw[List.length_cons]at h2
  obtain⟨ha,wa⟩:=hl a (.head _)
  obtain⟨d,w,ρ1,D,hb,S1⟩:=cU6 H ha wa hlv S h1 (by omega)
  have w6:w≤729:=D.w2 6 wa
  have w1:=D.w1
  refine(aQ7 H hlv all l ρ1 _ _ (fun b hb=>hl b (.tail _ hb)) (by omega) (by omega) S1) _ fun ρ' dd' ww' g S' g1 g2 g3 g4=> ?_
  refine(fun _ k=>k ρ' dd' ww' (pH hb g) S' (Int.le_trans ?_ g1) (by omega) (fun B hB he=>g3 B ?_ fun b hb=>he b (.tail _ hb)) (fun e he=> ?_))
  ·split<;>omega
  ·split
   ·obtain⟨e,x1,x2⟩:=he a (.head _)
    have:=D.d2 e x1
    omega
   ·exact hB
  ·have x1:=g4 e fun b hb=>he b (.tail _ hb)
   have x2:=D.w2 e (he a (.head _))
   rw[List.length_cons,Int.natCast_add,Int.add_mul]
   omega
end
end
section
theorem dE8(n:Nat)(e:V):dP n (tm (-2) [e])=false:=by
 induction n using Nat.casesOn with
 |zero=>rfl
 |succ n=>exact rfl
theorem mK{α β:Type}{f:α→β}:∀{l:List α},(∀x∈l,∀y∈l,f x=f y→x=y)→l.Nodup→(l.map f).Nodup
 |[],_,_=>List.nodup_nil
 |a::l,h,nd=>by
  rw[List.nodup_cons]at nd
  rw[List.map_cons,List.nodup_cons]
  refine⟨fun q=> ?_,mK (fun x hx y hy=>h x (.tail _ hx) y (.tail _ hy)) nd.2⟩
  obtain⟨b,hb,e⟩:=List.mem_map.mp q
  exact nd.1 (h b (.tail _ hb) a (.head _) e▸hb)
set_option tactic.hygienic true in
theorem rR{n:Nat}{y:V}(h:dP (n+1) y=true)(h0:aQ y≠0):∀a∈bY y,dP n a=true:=by
 unfold dP at h
 split at h
 ·rename_i hh args
  have:hh≠0:=h0
  simp only[this,if_false,Bool.and_eq_true,List.all_eq_true]at h
  exact h.1.2
 ·exact c7 h
section
variable {σ:aD}{L:Ly}{ts:List V}
noncomputable def kH (L:Ly):List Nat:=[L.kr,L.ki,L.kdep,L.kw,L.ko]
theorem lQ.kt_nin(N:lQ L):L.kt∉kH L:=dX N.r.1.symm (dX N.i.1.symm (dX N.d.1.symm (dX N.w.1.symm (dX N.o.1.symm j7))))
theorem lQ.kd_nin(N:lQ L):L.kd∉kH L:=dX N.r.2.1.symm (dX N.i.2.1.symm (dX N.d.2.1.symm (dX N.w.2.1.symm (dX N.o.2.symm j7))))
theorem nW(H:eO σ L ts)(N:lQ L){σ':aD}(K:cA (kH L) σ σ'):cS σ' L.kt=some (.table,L.kd,[("rows",.ref L.kr),("index",.ref L.ki),("depths",.ref L.kdep),("weights",.ref L.kw),("opens",.ref L.ko)]):=by
 simp only[cS,K.2 _ _ N.kt_nin H.kt,K.2 _ _ N.kd_nin H.kd]
noncomputable def aS7 (σ:aD) (L:Ly) (ts:List V) (y:V) (n:Nat) (f:FM):Prop:=∀G:Prop,(∀(σ':aD),(f [.ref L.kt,.tup (dF ts y)] σ=some (.int ts.length,σ'))→(hY σ' L (ts++[y]))→(cA (kH L) σ σ')→G)→G
structure kA(σ:aD)(L:Ly)(a b c x e:bF):Prop where
 r:σ[L.kr]? =some a
 i:σ[L.ki]? =some b
 d:σ[L.kdep]? =some c
 w:σ[L.kw]? =some x
 o:σ[L.ko]? =some e
section
variable {a b c d e:bF}
theorem kA.sr(F:kA σ L a b c d e)(N:lQ L)(x:bF):kA (σ.set L.kr x) L x b c d e:=let n:=N.r.2.2;⟨cO F.r,(a9 n.1).trans F.i,(a9 n.2.1).trans F.d,(a9 n.2.2.1).trans F.w,(a9 n.2.2.2).trans F.o⟩
theorem kA.si(F:kA σ L a b c d e)(N:lQ L)(x:bF):kA (σ.set L.ki x) L a x c d e:=let n:=N.i.2.2;⟨(a9 (Ne.symm N.r.2.2.1)).trans F.r,cO F.i,(a9 n.1).trans F.d,(a9 n.2.1).trans F.w,(a9 n.2.2).trans F.o⟩
theorem kA.sd(F:kA σ L a b c d e)(N:lQ L)(x:bF):kA (σ.set L.kdep x) L a b x d e:=let n:=N.d.2.2;⟨(a9 (Ne.symm N.r.2.2.2.1)).trans F.r,(a9 (Ne.symm N.i.2.2.1)).trans F.i,cO F.d,(a9 n.1).trans F.w,(a9 n.2).trans F.o⟩
theorem kA.sw(F:kA σ L a b c d e)(N:lQ L)(x:bF):kA (σ.set L.kw x) L a b c x e:=⟨(a9 (Ne.symm N.r.2.2.2.2.1)).trans F.r,(a9 (Ne.symm N.i.2.2.2.1)).trans F.i,(a9 (Ne.symm N.d.2.2.1)).trans F.d,cO F.w,(a9 N.w.2.2).trans F.o⟩
theorem kA.so(F:kA σ L a b c d e)(N:lQ L)(x:bF):kA (σ.set L.ko x) L a b c d x:=⟨(a9 (Ne.symm N.r.2.2.2.2.2)).trans F.r,(a9 (Ne.symm N.i.2.2.2.2)).trans F.i,(a9 (Ne.symm N.d.2.2.2)).trans F.d,(a9 (Ne.symm N.w.2.2)).trans F.w,cO F.o⟩
end
noncomputable def dO5:SM:=(aC (cG (b7 (aR (aA 0) "rows") (aA 1))) (aC (bP (aR (aA 0) "index") (aA 1) (aA 8)) (aC (cG (b7 (aR (aA 0) "depths") (aA 3))) (aC (cG (b7 (aR (aA 0) "weights") (aA 4))) (aC (cG (b7 (aR (aA 0) "opens") (aA 5))) (aC (aW (aA 8)) aF))))))
theorem bM1(H:eO σ L ts)(N:lQ L){A C D E:List V}{B:List (V×V)}{row dd ww z n:V}(F:kA σ L (.list A) (.dict B) (.list C) (.list D) (.list E))(lA:A.length≤100000)(hB:(fM B row&&decide (B.length≤100000))=true)(lC:C.length≤100000)(lD:D.length≤100000)(lE:E.length≤100000)
  {ρ:Env} (c0:ρ 0=some (.ref L.kt)) (c1:ρ 1=some row) (c3:ρ 3=some dd) (c4:ρ 4=some ww) (c5:ρ 5=some z) (c8:ρ 8=some n):
  ∃σ',fN dO5 ρ σ n σ'∧kA σ' L (.list (A++[row])) (.dict (dG B row n)) (.list (C++[dd])) (.list (D++[ww])) (.list (E++[z]))∧cA (kH L) σ σ':=by
 have m:∀i∈kH L,∀{σ' x},cA (kH L) σ σ'→cA (kH L) σ (σ'.set i x):=fun i hi σ' x K=>K.trans (.set hi)
 have K1:=fun x=>m L.kr (.head _) (x:=x) .refl
 have K2:=fun x y=>m L.ki (.tail _ (.head _)) (x:=y) (K1 x)
 have K3:=fun x y z=>m L.kdep (.tail _ (.tail _ (.head _))) (x:=z) (K2 x y)
 have K4:=fun x y z u=>m L.kw (.tail _ (.tail _ (.tail _ (.head _)))) (x:=u) (K3 x y z)
 exact⟨_,fZ (s9 (eR (aH c0) H.fields f0) (aH c1) F.r lA)
  (fZ (aH1 (aH c8) (eR (aH c0) (nW H N (K1 _)) (cY rfl f0)) (aH c1) (F.sr N _).i hB)
  (fZ (s9 (eR (aH c0) (nW H N (K2 _ _)) (cY rfl (cY rfl f0))) (aH c3) ((F.sr N _).si N _).d lC)
  (fZ (s9 (eR (aH c0) (nW H N (K3 _ _ _)) (cY rfl (cY rfl (cY rfl f0)))) (aH c4) (((F.sr N _).si N _).sd N _).w lD)
  (fZ (s9 (eR (aH c0) (nW H N (K4 _ _ _ _)) (cY rfl (cY rfl (cY rfl (cY rfl f0))))) (aH c5) ((((F.sr N _).si N _).sd N _).sw N _).o lE) (bA (aH c8)))))),
  ((((F.sr N _).si N _).sd N _).sw N _).so N _,(K4 _ _ _ _).trans (.set (.tail _ (.tail _ (.tail _ (.tail _ (.head _))))))⟩
theorem bW3(H:hY σ L ts){y:V}(M:Mk ts y)(hy:y∉ts)(hlen:ts.length<49000){dd ww:Int}(g5:1≤dd)(bd:∀e,dP e y=true→dd≤e)(g6:1≤ww)(bw:∀e,dP e y=true→ww≤((3^e:Nat):Int)){ds ws:List Int}
  (d2:ds.length=ts.length) (d3:∀(k:Nat) x d,ts[k]? =some x→ds[k]? =some d→1≤d∧∀e,dP e x=true→d≤e) (w2:ws.length=ts.length) (w3:∀(k:Nat) x d,ts[k]? =some x→ws[k]? =some d→1≤d∧∀e,dP e x=true→d≤((3^e:Nat):Int))
  {σ5:aD} (K5:cA (kH L) σ σ5) (F:kA σ5 L (.list ((ts.map fun x=>V.tup (dF ts x))++[.tup (dF ts y)])) (.dict (pC ts++[(.tup (dF ts y),.int (ts.length:Nat))])) (.list (ds.map .int++[.int dd])) (.list (ws.map .int++[.int ww])) (.list ((ts.map fun _=> .int 0)++[.int 0]))):hY σ5 L (ts++[y]):=by
 obtain⟨v1,v2,v3,v4,v5⟩:=F
 obtain⟨sy,hy0,hya,hyl⟩:=M.all
 have ayt:aQ y≠0→∀z∈bY y,z∈ts:=fun _ z hz=>(hya z hz).1
 have N:=H.ne
 have hro:∀x∈ts,dF (ts++[y]) x=dF ts x:=fun x hx=>aJ5 (H.shp x hx) (H.args x hx)
 have hry:dF (ts++[y]) y=dF ts y:=aJ5 sy ayt
 have nd:(ts++[y]).Nodup:=List.nodup_append.mpr ⟨H.r.nd,List.nodup_cons.mpr ⟨List.not_mem_nil,List.nodup_nil⟩,fun a ha b hb e=>hy (List.mem_singleton.mp hb▸e▸ha)⟩
 have hixy:eF (ts++[y]) y=ts.length:=by
  exact pB nd List.getElem?_concat_length
 have h16:16≤ts.length:=by
  have:=H.r.prim 15 (eC rfl)
  have:=(List.getElem?_eq_some_iff.mp this).1
  exact Nat.succ_le_of_lt this
 have hrows:(ts++[y]).map (fun x=>V.tup (dF (ts++[y]) x))=(ts.map fun x=>V.tup (dF ts x))++[.tup (dF ts y)]:=by
  rw[List.map_append,List.map_singleton,hry]
  congr 1
  exact List.map_congr_left fun x hx=>by rw[hro x hx]
 have hixs:pC (ts++[y])=pC ts++[(.tup (dF ts y),.int (ts.length:Nat))]:=by
  unfold pC
  rw[List.map_append,List.map_singleton,hry,kT,hixy]
  congr 1
  exact List.map_congr_left fun x hx=>by rw[hro x hx,kT,kT,vA hx]
 have hshp:∀x∈ts++[y],Shp x:=fun x hx=>by
  rcases List.mem_append.mp hx with hx |hx
  ·exact H.shp x hx
  ·rw[List.mem_singleton.mp hx];exact sy
 have hargs:∀x∈ts++[y],aQ x≠0→∀z∈bY x,z∈ts++[y]:=fun x hx h0 z hz=>by
  rcases List.mem_append.mp hx with hx |hx
  ·exact List.mem_append_left _ (H.args x hx h0 z hz)
  ·rw[List.mem_singleton.mp hx]at hz h0;exact List.mem_append_left _ (ayt h0 z hz)
 have hnk:=nW H.r N K5
 have ht:=K5.2 _ _ N.kt_nin H.r.kt
 have hd':=K5.2 _ _ N.kd_nin H.r.kd
 have hinj:((pC (ts++[y])).map (·.1)).Nodup:=by
  unfold pC
  rw[List.map_map]
  refine mK ?_ nd
  intro a ha b hb e
  simp only[Function.comp,V.tup.injEq]at e
  exact aJ4 (hshp a ha) (hshp b hb) (hargs a ha) (hargs b hb) e
 refine⟨⟨ht,hd',by rw[v1,hrows],⟨_,v2,by rw[←hixs];exact wI _,fun x hx=> ?_⟩,nd,fun i hi=> ?_,fun i x hi hx=> ?_,by simp;exact bD1 hlen rfl⟩,by rw[v2,hixs],?_,?_,by rw[v5];simp,N,hshp,hargs,fun x hx h0 z hz=>(List.mem_append.mp hx).elim (fun hx=>H.argw x hx h0 z hz) fun hx=>by rw[List.mem_singleton.mp hx]at hz;exact(hya z hz).2⟩
 ·rw[←hixs]
  exact qG hinj (List.mem_map.mpr ⟨x,hx,rfl⟩)
 ·rw[List.getElem?_append_left (Nat.lt_of_lt_of_le hi h16)];exact H.r.prim i hi
 ·by_cases q:i<ts.length
  ·rw[List.getElem?_append_left q]at hx;exact H.r.high i x hi hx
  ·rw[List.getElem?_append_right (nNl q)]at hx
   have:x=y:=by
    have:=List.mem_of_getElem? hx
    simpa using this
   rw[this];exact hy0
 ·refine⟨ds++[dd],by rw[v3];simp,by simp[d2],fun k x d hx hd=> ?_⟩
  by_cases q:k<ts.length
  ·rw[List.getElem?_append_left q]at hx
   rw[List.getElem?_append_left (xO q d2)]at hd
   exact d3 k x d hx hd
  ·rw[List.getElem?_append_right (by(first |exact nNl q |exact Nat.le_trans (Nat.le_of_eq d2) (nNl q)))]at hx hd
   have hx':x=y:=by simpa using List.mem_of_getElem? hx
   have hd':d=dd:=by simpa using List.mem_of_getElem? hd
   rw[hx',hd'];exact⟨g5,bd⟩
 ·refine⟨ws++[ww],by rw[v4];simp,by simp[w2],fun k x d hx hd=> ?_⟩
  by_cases q:k<ts.length
  ·rw[List.getElem?_append_left q]at hx
   rw[List.getElem?_append_left (xO q w2)]at hd
   exact w3 k x d hx hd
  ·rw[List.getElem?_append_right (by(first |exact nNl q |exact Nat.le_trans (Nat.le_of_eq w2) (nNl q)))]at hx hd
   have hx':x=y:=by simpa using List.mem_of_getElem? hx
   have hd':d=ww:=by simpa using List.mem_of_getElem? hd
   rw[hx',hd'];exact⟨g6,bw⟩
theorem bL4(H:hY σ L ts){y:V}(M:Mk ts y)(hy:y∉ts)(hlen:ts.length<49000){n:Nat}(hn:8≤n):
  aS7 σ L ts y n (aL n .KT_put):=by
 obtain⟨m,rfl⟩:=jY hn rfl
 obtain⟨sy,hy0,hya,hyl⟩:=M.all
 have hno:=H.ix_none sy (fun _ z hz=>(hya z hz).1) hy
 obtain⟨lv,lv1,_,lv3⟩:=aS6 (σ:=σ) M (n:=m) (bH hn rfl)
 refine(aQ7 (row:= .tup (dF ts y)) H lv1 ((bY y).map (aP ts)) (bY y) (aZ (aZ (aZ (aZ (aZ (fun i=>[V.ref L.kt,.tup (dF ts y)][i]?) 2 (.int (-1))) 3 (.int 1)) 4 (.int 1)) 5 (.int 0)) 6 (.int lv)) 1 1 hya (by decide) (by omega) ⟨rfl,rfl,rfl,rfl,rfl,rfl⟩) _ fun ρ' dd ww g S g5 g6 g7 g8=> ?_
 have d24:dd≤24:=g7 24 (by decide) fun a ha=>⟨6,(hya a ha).2,by rcases lv1 with rfl |rfl<;>decide⟩
 have w4096:ww≤4096:=by
  have:ww≤1+(bY y).length*729:=g8 6 fun a ha=>(hya a ha).2
  omega
 have bd:∀e,dP e y=true→dd≤e:=fun e he=>by
  induction e using Nat.casesOn with
  |zero=>exact c7 he
  |succ e=>exact g7 (e+1) (by omega) fun a ha=>⟨e,rR he hy0 a ha,by rcases lv1 with rfl |rfl<;>omega⟩
 have bw:∀e,dP e y=true→ww≤((3^e:Nat):Int):=fun e he=>by
  induction e using Nat.casesOn with
  |zero=>exact c7 he
  |succ e=>
   have x1:=g8 e (rR he hy0)
   have x3:(1:Int)≤((3^e:Nat):Int):=Int.ofNat_le.mpr (Nat.one_le_pow e 3 (by decide))
   have x4:((bY y).length:Int)*((3^e:Nat):Int)≤2*((3^e:Nat):Int):=Int.mul_le_mul_of_nonneg_right (nIw hyl rfl) tS
   rw[Nat.pow_succ]
   omega
 have hsv:(decide (bM y=6)||decide (bM y=7))=false:=by
  rcases eL y with⟨_,q⟩ |⟨_,q⟩ |⟨_,q⟩ |⟨_,_,_,_,q⟩ |⟨_,_,_,_,q⟩<;>rw[q]<;>rfl
 have r0:gH (.tup (dF ts y)) (.int 0) σ=some (.int (bM y)):=l4 (i:=0) fY rfl
 obtain⟨ds,d1,d2,d3⟩:=H.dep
 obtain⟨ws,w1,w2,w3⟩:=H.wei
 have l1:ts.length≤100000:=bD1 hlen rfl
 have l2:fM (pC ts) (.tup (dF ts y))=true:=eX (wI ts) (tH ts y)
 have lx:(pC ts).length≤100000:=by rw[pC,List.length_map];exact l1
 obtain⟨σ',t1,F,K⟩:=bM1 H.r H.ne (row:= .tup (dF ts y)) (dd:= .int dd) (ww:= .int ww) (z:= .int 0) (n:= .int (ts.length:Nat)) ⟨H.r.kr,H.ki,d1,w1,H.opn⟩ (by rw[List.length_map];exact l1) (by rw[l2,decide_eq_true lx];rfl) (by rw[List.length_map,d2];exact l1) (by rw[List.length_map,w2];exact l1) (by rw[List.length_map];exact l1)
  (ρ:=aZ ρ' 8 (.int (ts.length:Nat))) S.r0 S.r1 S.r3 S.r4 S.r5 rfl
 rw[kO hno]at F
 refine(fun _ k=>k σ' (cL (bH hn rfl) (fun _=>rfl) rfl (cQ (qQ (eR (aH rfl) H.r.fields (cY rfl f0)) (by simp only[iE,H.ki]) (aH rfl) rfl (by simp only[mN,H.ki,l2,if_true,bE3 hno];rfl)) (bN (cV (q:= .ge) (aH rfl) rfl rfl) rfl
  (fZ (pR (aO (eE rfl rfl) (cP8 H.r M (bH hn rfl)))) (cQ rfl (cQ rfl (cQ rfl (bN (dW (bQ (bE (aH rfl) rfl r0) rfl) (bQ (bE (aH rfl) rfl r0) rfl)) hsv
  (cQ (aO (aU (bE (aH rfl) rfl r0) rfl) lv3) (fZ (cH2 (aO (jW rfl) (sR M (bH hn rfl))) g)
  (bN (cV (q:= .gt) (aH S.r3) rfl rfl) (decide_eq_false (Int.not_lt.mpr d24)) (bN (cV (q:= .gt) (aH S.r4) rfl rfl) (decide_eq_false (Int.not_lt.mpr w4096))
  (cQ (kG (eR (aH S.r0) H.r.fields f0) (by simp only[jD,H.r.kr,List.length_map,l1,if_true])) t1))))))))))))) (bW3 H M hy hlen g5 bd g6 bw d2 d3 w2 w3 K F) K)
end
end
section
structure kF(σ:aD)(X:cX)(S:List Nat):Prop where
 w:X.w∉S
 u:X.u∉S
 y:X.y∉S
 b:X.b∉S
 f:X.f∉S
 fl:∀es,σ[X.f]? =some (.dict es)→∀x j,bW es x=some (.ref j)→j∉S
section
variable {σ:aD}{kt:Nat}{X:cX}{W:Wd}{S:List Nat}
theorem fO.kps{σ':aD}(R:fO σ kt X W)(A:kF σ X S)(K:cA S σ σ'):fO σ' kt X W∧kF σ' X S:=by
 obtain⟨es,a,b,c⟩:=R.f
 have f':=K.2 _ _ A.f a
 refine⟨⟨K.2 _ _ A.w R.w,K.2 _ _ A.u R.u,K.2 _ _ A.y R.y,K.2 _ _ A.b R.b,es,f',b,fun x=>⟨fun l h=> ?_,(c x).2⟩⟩,⟨A.w,A.u,A.y,A.b,A.f,fun es' h=> ?_⟩⟩
 ·obtain⟨j,p,q⟩:=(c x).1 l h
  exact⟨j,p,K.2 _ _ (A.fl es a x j p) q⟩
 ·rw[f']at h;cases h
  exact A.fl es a
end
section
variable {σ:aD}{L:Ly}{ts:List V}{X:cX}{W:Wd}
noncomputable def fV (L:Ly) (X:cX):List Nat:=X.m::kH L
structure KS(σ:aD)(L:Ly)(X:cX)(W:Wd)(ts:List V):Prop where
 t:hY σ L ts
 w:fO σ L.kt X W
 a:kF σ X (fV L X)
 m:∃M,σ[X.m]? =some (.dict M)∧f9 M∧M.length≤ts.length∧(M.map (·.1)).Nodup∧∀x v,(x,v)∈M→x∈ts∧v=aP ts x
 mt:X.m∉kH L∧X.m≠L.kt∧X.m≠L.kd
theorem eO.kps{σ':aD}(H:eO σ L ts)(K:cA [] σ σ'):eO σ' L ts:=H.ext K.ext0
theorem hY.ext{σ':aD}(H:hY σ L ts)(E:cM σ σ'):hY σ' L ts:=
 ⟨H.r.ext E,E _ _ H.ki,H.dep.imp fun d q=>⟨E _ _ q.1,q.2⟩,H.wei.imp fun d q=>⟨E _ _ q.1,q.2⟩,E _ _ H.opn,H.ne,H.shp,H.args,H.argw⟩
theorem hY.kps{σ':aD}(H:hY σ L ts){m:Nat}(hm:m∉kH L∧m≠L.kt∧m≠L.kd)(K:cA [m] σ σ'):hY σ' L ts:=by
 have c:∀{i:Nat} {o:bF},i≠m→σ[i]? =some o→σ'[i]? =some o:=fun {i o} h e=>K.2 i o (dX h j7) e
 obtain⟨h1,h2,h3⟩:=hm
 simp only[kH,List.mem_cons,List.not_mem_nil,or_false,not_or]at h1
 obtain⟨es,a,b,d⟩:=H.r.ki
 obtain⟨ds,d1,d2⟩:=H.dep
 obtain⟨ws,w1,w2⟩:=H.wei
 exact⟨⟨c (Ne.symm h2) H.r.kt,c (Ne.symm h3) H.r.kd,c (Ne.symm h1.1) H.r.kr,⟨es,c (Ne.symm h1.2.1) a,b,d⟩,H.r.nd,H.r.prim,H.r.high,H.r.len⟩,c (Ne.symm h1.2.1) H.ki,⟨ds,c (Ne.symm h1.2.2.1) d1,d2⟩,⟨ws,c (Ne.symm h1.2.2.2.1) w1,w2⟩,c (Ne.symm h1.2.2.2.2) H.opn,H.ne,H.shp,H.args,H.argw⟩
theorem KS.ext{σ':aD}(H:KS σ L X W ts)(E:cM σ σ'):KS σ' L X W ts:=by
 obtain⟨a,b⟩:=H.w.kps H.a E.kps
 exact⟨H.t.ext E,a,b,H.m.imp fun M q=>⟨E _ _ q.1,q.2⟩,H.mt⟩
noncomputable def sP (σ:aD) (L:Ly) (ts:List V) (y:V) (r:Option (V×aD)):Prop:=∀G:Prop,(∀(ts':List V),∀(σ':aD),(r=some (aP ts' y,σ'))→(hY σ' L ts')→(cA (kH L) σ σ')→(ts<+:ts')→(y∈ts')→(ts'.length≤ts.length+1)→G)→G
theorem bB7(H:hY σ L ts){y:V}(M:Mk ts y)(hlen:ts.length<49000){n:Nat}(hn:8≤n):
  sP σ L ts y (aL n .KT_put [.ref L.kt,.tup (dF ts y)] σ):=by
 by_cases hy:y∈ts
 ·exact(fun _ k=>k ts σ (vO H.r hy (nGe hn rfl)) H .refl List.prefix_rfl hy xQ)
 ·refine(bL4 H M hy hlen hn) _ fun σ' g1 g2 g3=> ?_
  refine(fun _ k=>k (ts++[y]) σ' ?_ g2 g3 (List.prefix_append _ _) (by simp) (by simp))
  rw[g1,kT,pB g2.r.nd (show(ts++[y])[ts.length]? =some y by simp)]
theorem d7{ts ts':List V}(h:ts<+:ts'){x:V}(hx:x∈ts):aP ts' x=aP ts x:=by
 obtain⟨n,rfl⟩:=h
 rw[kT,kT,vA hx]
theorem sP.to{y:V}{r r':Option (V×aD)}(P:sP σ L ts y r)(k:∀{v σ'},r=some (v,σ')→r'=some (v,σ')):sP σ L ts y r':=fun _ K=>P _ fun a b h c d e f g=>K a b (k h) c d e f g
theorem eO.vPut(H:eO σ L ts){f:FM}{o a:EM}{ρ:Env}{v:V}{r:Option (V×aD)}(ho:o ρ σ=some (.ref L.kt,σ))(ha:a ρ σ=some (v,σ))(h:f [.ref L.kt,v] σ=r):dU .table "put" f o [a] ρ σ=r:=
 wY ho H.fields (cY rfl (cY rfl (cY rfl (cY rfl (cY rfl rfl))))) (aU ha rfl) h
theorem cQ2(H:hY σ L ts){e:V}(he:e∈ts)(we:wf e=true)(hlen:ts.length<49000){n:Nat}(hn:9≤n):
  sP σ L ts (dK e) (aL n .array_kind [.ref L.kt,aP ts e] σ):=by
 obtain⟨m,rfl⟩:=jY hn rfl
 exact(bB7 H (.arr he we) hlen (bH hn rfl)).to fun h=>cL (bH hn rfl) (fun _=>rfl) rfl (bA (H.r.vPut (aH rfl) (fK (aU rfl (jW rfl))) h))
theorem cP9(H:hY σ L ts){e:V}(he:e∈ts)(we:wf e=true)(ve:aS e=true)(hlen:ts.length<49000){n:Nat}(hn:9≤n):
  sP σ L ts (tm (-2) [e]) (aL n .boxed_kind [.ref L.kt,aP ts e] σ):=by
 obtain⟨m,rfl⟩:=jY hn rfl
 exact(bB7 H (.box he we ve) hlen (bH hn rfl)).to fun h=>cL (bH hn rfl) (fun _=>rfl) rfl (bA (H.r.vPut (aH rfl) (fK (aU rfl (jW rfl))) h))
theorem cP6(H:hY σ L ts){h:Int}{args:List V}(w:wf (tm h args)=true)(h0:h≠0)(h1:h≠ -1)(ha:∀x∈args,x∈ts)(hlen:ts.length<49000){n:Nat}(hn:9≤n):
  sP σ L ts (tm h args) (aL n (if aS (tm h args)=true then .value_kind else .class_kind) [.ref L.kt,.int h,.tup (args.map (aP ts))] σ):=by
 obtain⟨m,rfl⟩:=jY hn rfl
 have P:=bB7 H (.cls w h0 h1 ha) hlen (n:=m) (bH hn rfl)
 have p2:=congrArg (fun r=>some (Option.isSome r)) (aM4 w h0 h1).2
 have hs:bM (tm h args)=if aS (tm h args)=true then 3 else 2:=by rw[bM,if_neg (show ¬aQ (tm h args)=0 from h0),if_neg (show ¬aQ (tm h args)= -1 from h1),if_neg (nE w)]
 rw[vE w h0 h1]at P
 refine P.to fun h=> ?_
 rw[hs]at h
 induction q:aS (tm _ args)using Bool.casesOn with
 |true=>
  rw[q]at h
  exact cL (bH hn rfl) (fun _=>rfl) rfl (bN (cV (q:= .isIn) (aH rfl) rfl p2) rfl (bA (H.r.vPut (aH rfl) (fK (aU rfl (eE rfl rfl))) h)))
 |false=>
  rw[q]at h
  exact cL (bH hn rfl) (fun _=>rfl) rfl (bN (cV (q:= .isIn) (aH rfl) rfl p2) rfl (bA (H.r.vPut (aH rfl) (fK (aU rfl (eE rfl rfl))) h)))
end
end
section
section
variable {σ:aD}{L:Ly}{ts:List V}{X:cX}{W:Wd}
theorem KS.tab{σ':aD}{ts':List V}(H:KS σ L X W ts)(T:hY σ' L ts')(K:cA (kH L) σ σ')(hp:ts<+:ts'):KS σ' L X W ts':=by
 have K2:cA (fV L X) σ σ':=K.mono fun i hi=>List.mem_cons_of_mem _ hi
 obtain⟨a,b⟩:=H.w.kps H.a K2
 obtain⟨M,m1,m2,m3,m4,m5⟩:=H.m
 refine⟨T,a,b,⟨M,K.2 _ _ H.mt.1 m1,m2,Nat.le_trans m3 hp.length_le,m4,fun x v h=> ?_⟩,H.mt⟩
 obtain⟨p,q⟩:=m5 x v h
 exact⟨hp.subset p,by rw[q,d7 hp p]⟩
noncomputable def lH (σ:aD) (L:Ly) (X:cX) (W:Wd) (ts:List V) (c:Nat) (σ':aD) (ts':List V):Prop:=
 KS σ' L X W ts'∧cA (fV L X) σ σ'∧ts<+:ts'∧ts'.length≤ts.length+c
theorem lH.trans{σ1 σ2:aD}{t1 t2:List V}{c d:Nat}(h:lH σ L X W ts c σ1 t1)(k:lH σ1 L X W t1 d σ2 t2):lH σ L X W ts (c+d) σ2 t2:=
 ⟨k.1,h.2.1.trans k.2.1,h.2.2.1.trans k.2.2.1,by have:=h.2.2.2;have:=k.2.2.2;omega⟩
theorem lH.le{σ1:aD}{t1:List V}{c d:Nat}(h:lH σ L X W ts c σ1 t1)(k:c≤d):lH σ L X W ts d σ1 t1:=⟨h.1,h.2.1,h.2.2.1,by have:=h.2.2.2;omega⟩
theorem lH.refl(H:KS σ L X W ts):lH σ L X W ts 0 σ ts:=⟨H,.refl,List.prefix_rfl,xQ⟩
noncomputable def bU0 (L:Ly) (X:cX) (W:Wd) (c:Nat) (x:V) (σ:aD) (ts:List V) (r:Option (V×aD)):Prop:=∀G:Prop,(∀(ts':List V),∀(σ':aD),∀(h:r=some (aP ts' x,σ')),∀(m:lH σ L X W ts c σ' ts'),∀(hx:x∈ts'),G)→G
noncomputable def aG0 (L:Ly) (X:cX) (W:Wd) (n:Nat) (c:Nat) (x:V):Prop:=∀(σ:aD) (ts:List V),KS σ L X W ts→ts.length+c<49000→
 bU0 L X W c x σ ts (aL n .law_kind [.ref X.w,x] σ)
noncomputable def aL2 (L:Ly) (X:cX) (W:Wd) (m:Nat) (c:Nat) (ρ:Env) (all:List V) (l:List V) (σ:aD) (ts:List V):Prop:=∀G:Prop,(∀(ts':List V),∀(σ':aD),(jR (aJ (aL m .law_kind) [(aA 0),(aA 1)]) (iU [(0,0)] ρ) 1 .fix all l σ=some (l.map (aP ts'),σ'))→(lH σ L X W ts (c*l.length) σ' ts')→(∀y∈l,y∈ts')→G)→G
theorem bD6{m:Nat}{c:Nat}{ρ:Env}(r0:ρ 0=some (.ref X.w))(all:List V):∀(l:List V) (σ:aD) (ts:List V),(∀y∈l,aG0 L X W m c y)→KS σ L X W ts→ts.length+c*l.length<49000→
  aL2 L X W m c ρ all l σ ts:=by
 intro l
 induction l with
 |nil=>intro σ ts _ H _;exact(fun _ k=>k ts σ rfl (by simpa using lH.refl H) nofun)
 |cons y l ih=>
  intro σ ts hl H hlen
  simp only[List.length_cons,Nat.mul_succ]at hlen
  refine(hl y (.head _) σ ts H (nM6 hlen)) _ fun t1 σ1 g1 g2 g3=> ?_
  have hl1:=g2.2.2.2
  refine(ih σ1 t1 (fun z hz=>hl z (.tail _ hz)) g2.1 (nM7 hl1 hlen)) _ fun t2 σ2 k1 k2 k3=> ?_
  have hel:aJ (aL m .law_kind) [(aA 0),(aA 1)] (aZ (iU [(0,0)] ρ) 1 y) σ=some (aP t1 y,σ1):=by
   have a:aZ (iU [(0,0)] ρ) 1 y 0=some (.ref X.w):=r0
   have b:aZ (iU [(0,0)] ρ) 1 y 1=some y:=rfl
   simp only[aJ,dO,bK a,bK b,g1]
  refine(fun _ k=>k t2 σ2 ?_ ((g2.trans k2).le (by simp only[List.length_cons,Nat.mul_succ];omega)) (fun z hz=> ?_))
  ·simp only[jR,hel,eS,if_true,k1,List.map_cons]
   rw[d7 k2.2.2.1 g3]
  ·rcases List.mem_cons.mp hz with rfl |hz
   ·exact k2.2.2.1.subset g3
   ·exact k3 z hz
theorem aO1{es:List (V×V)}{k v:V}(h:bW es k=some v):(k,v)∈es:=by
 induction es with
 |nil=>exact aN h
 |cons e es ih=>
  rw[bW]at h
  by_cases q:e.1=k
  ·rw[q,V.beq_self]at h
   simp at h
   rw[←h,←q];exact .head _
  ·rw[V.beq_ne q]at h
   exact .tail _ (ih h)
theorem bQ9{es:List (V×V)}{k v:V}(h:bW es k=some v):dG es k v=es:=by
 induction es with
 |nil=>exact aN h
 |cons e es ih=>
  rw[bW]at h
  rw[dG]
  by_cases q:e.1=k
  ·rw[q,V.beq_self]at h⊢
   simp at h
   simp[←h,←q]
  ·rw[V.beq_ne q]at h⊢
   simp at h
   simp[ih h]
theorem bN0(H:KS σ L X W ts){x:V}(wx:wf x=true)(hx:x∈ts)(hlen:ts.length<49500):
  ∃M,σ[X.m]? =some (.dict M)∧fM M x=true∧M.length≤100000∧KS (σ.set X.m (.dict (dG M x (aP ts x)))) L X W ts∧bW (dG M x (aP ts x)) x=some (aP ts x)∧fM (dG M x (aP ts x)) x=true:=by
 obtain⟨M,m1,m2,m3,m4,m5⟩:=H.m
 have hk:=iO wx
 induction hq:bW M x using Option.casesOn with
 |some v=>
  have hv:=(m5 x v (aO1 hq)).2
  have hput:dG M x (aP ts x)=M:=bQ9 (by rw[hq,hv])
  refine⟨M,m1,eX m2 hk,d0 (Nat.le_trans m3 (Nat.le_of_lt hlen)) rfl,?_⟩
  rw[hput]
  have K:cA [X.m] σ (σ.set X.m (.dict M)):= .set (.head _)
  have K2:cA (fV L X) σ (σ.set X.m (.dict M)):= .set (.head _)
  obtain⟨a,b⟩:=H.w.kps H.a K2
  exact⟨⟨H.t.kps H.mt K,a,b,⟨M,cO m1,m2,m3,m4,m5⟩,H.mt⟩,by rw[hq,hv],eX m2 hk⟩
 |none=>
 have hnM:∀v,(x,v)∉M:=fun v hv=>by rw[qG m4 hv]at hq;exact aF6 hq
 have hput:dG M x (aP ts x)=M++[(x,aP ts x)]:=kO fun e he q=>hnM e.2 (by rw[←q];exact he)
 have K:cA [X.m] σ (σ.set X.m (.dict (dG M x (aP ts x)))):= .set (.head _)
 have K2:cA (fV L X) σ (σ.set X.m (.dict (dG M x (aP ts x)))):= .set (.head _)
 obtain⟨a,b⟩:=H.w.kps H.a K2
 have nd:((M++[(x,aP ts x)]).map (·.1)).Nodup:=by
  rw[List.map_append,List.nodup_append]
  refine⟨m4,by simp,?_⟩
  intro p hp q hq e
  simp at hq
  obtain⟨c,hc,rfl⟩:=List.mem_map.mp hp
  exact hnM c.2 (by rw[←hq,←e];exact hc)
 have hkeys:f9 (M++[(x,aP ts x)]):=fun e he=>by
  rcases List.mem_append.mp he with he |he
  ·exact m2 e he
  ·rw[List.mem_singleton.mp he];exact hk
 have hml:(M++[(x,aP ts x)]).length≤ts.length:=by
  have h1:((M++[(x,aP ts x)]).map (·.1)).length≤ts.length:=gY nd fun y hy=>by
   obtain⟨e,he,rfl⟩:=List.mem_map.mp hy
   rcases List.mem_append.mp he with he |he
   ·exact(m5 e.1 e.2 he).1
   ·rw[List.mem_singleton.mp he];exact hx
  simpa using h1
 refine⟨M,m1,eX m2 hk,d0 (Nat.le_trans m3 (Nat.le_of_lt hlen)) rfl,⟨H.t.kps H.mt K,a,b,⟨_,cO m1,?_,?_,?_,?_⟩,H.mt⟩,?_,?_⟩
 ·rw[hput];exact hkeys
 ·rw[hput];exact hml
 ·rw[hput];exact nd
 ·rw[hput]
  intro y v hv
  rcases List.mem_append.mp hv with hv |hv
  ·exact m5 y v hv
  ·simp at hv;rw[hv.1,hv.2];exact⟨hx,rfl⟩
 ·rw[hput];exact qG nd (by simp)
 ·rw[hput];exact eX hkeys hk
noncomputable def cJ3 (c:Fn→FM):SM:=a8 (aK .eq (aG (aA 1) (aB 0)) (aB 0)) (aC (aV 3 (aG (aA 1) (aB 1))) aF) (aC (a8 (aK .eq (aG (aA 1) (aB 0)) (aB (-1))) (aC (aV 3 (aJ (c .array_kind) [(aA 2),(aJ (c .law_kind) [(aA 0),(aG (aA 1) (aB 1))])])) aF) (aC (aV 4 (gI (gX [(0,0)] 1 (hX (aA 1) (some (aB 1)) none) (aJ (c .law_kind) [(aA 0),(aA 1)])))) (aC (aV 3 (fF (bL (aJ (c .law_value) [(aA 1)])) (aJ (c .value_kind) [(aA 2),(aG (aA 1) (aB 0)),(aA 4)]) (aJ (c .class_kind) [(aA 2),(aG (aA 1) (aB 0)),(aA 4)]))) aF))) aF)
noncomputable def dE1 (L:Ly) (X:cX) (W:Wd) (c:Nat) (x:V) (σ:aD) (ts:List V) (r:Option (Fl×Env×aD)):Prop:=∀G:Prop,(∀(ts':List V),∀(σ':aD),∀(ρ':Env),∀(h:r=some (.next,ρ',σ')),∀(m:lH σ L X W ts c σ' ts'),∀(hx:x∈ts'),∀(r0:ρ' 0=some (.ref X.w)),∀(r1:ρ' 1=some x),∀(r3:ρ' 3=some (aP ts' x)),G)→G
theorem aL3{σ1:aD}{ρ1:Env}{x v:V}{M':List (V×V)}(R:fO σ1 L.kt X W)(q0:ρ1 0=some (.ref X.w))(q1:ρ1 1=some x)(a:σ1[X.m]? =some (.dict M'))(b:fM M' x=true)(d:bW M' x=some v):fN (aC (aW (aG (aG (aA 0) (bU "made")) (aA 1))) aF) ρ1 σ1 v σ1:=
 bA (bE (wW R q0) (aH q1) (kC a b d))
theorem aL4{m:Nat}(hm:2≤m){x:V}(wx:wf x=true){c:Nat}(H:KS σ L X W ts)(hlen:ts.length+c<49000)
  (hb:∀ρ:Env,ρ 0=some (.ref X.w)→ρ 1=some x→ρ 2=some (.ref L.kt)→dE1 L X W c x σ ts (cJ3 (aL m) ρ σ)):bU0 L X W c x σ ts (aL (m+1) .law_kind [.ref X.w,x] σ):=by
 obtain⟨M,m1,m2,m3,m4,m5⟩:=H.m
 have hk:=eX m2 (iO wx)
 induction q:bW M x using Option.casesOn with
 |some v=>
  obtain⟨a,b⟩:=m5 x v (aO1 q)
  exact(fun _ k=>k ts σ (cL hm (fun _=>rfl) rfl (bN (mC (aH rfl) (wW H.w rfl) m1 hk q) rfl (aL3 H.w rfl rfl m1 hk (q.trans (congrArg some b))))) ((lH.refl H).le (Nat.zero_le _)) a)
 |none=>
  refine(hb (aZ (fun i=>[.ref X.w,x][i]?) 2 (.ref L.kt)) rfl rfl rfl) _ fun ts' σ' ρ' g1 g2 g3 g4 g5 g6=> ?_
  obtain⟨M',n1,n2,n3,n4,n5,n6⟩:=bN0 g2.1 wx g3 (by have:=g2.2.2.2;exact bD0 (Nat.lt_of_le_of_lt this hlen) rfl)
  exact(fun _ k=>k ts' _ (cL hm (fun _=>rfl) rfl (fZ (oI (mC (aH rfl) (wW H.w rfl) m1 hk q) rfl (bI (eM (dN6 H.w rfl)) (bI g1 (bI (aH1 (aH g6) (wW g2.1.w g4) (aH g5) n1 (by rw[n2,decide_eq_true n3];rfl)) rfl))))
   (aL3 n4.w g4 g5 (cO n1) n6 n5))) ⟨n4,g2.2.1.trans (.set (.head _)),g2.2.2⟩ g3)
end
end
section
section
variable {σ:aD}{L:Ly}{ts:List V}{X:cX}{W:Wd}
theorem aA9{t:TM}{a b:SM}{ρ:Env}{σ1:aD}(h:t ρ σ=some (false,σ1)):a8 t a b ρ σ=b ρ σ1:=by simp only[a8,h]
theorem aJ1{t:TM}{a b:SM}{ρ:Env}{σ1:aD}(h:t ρ σ=some (true,σ1)):a8 t a b ρ σ=a ρ σ1:=by simp only[a8,h]
theorem iY{f:FM}{es:List EM}{ρ:Env}{vs:List V}{σ1:aD}(h:dO es ρ σ=some (vs,σ1)):aJ f es ρ σ=f vs σ1:=by simp only[aJ,h]
theorem bR{e:EM}{r:List EM}{ρ:Env}{v:V}{vs:List V}{σ1 σ2:aD}(h:e ρ σ=some (v,σ1))(k:dO r ρ σ1=some (vs,σ2)):dO (e::r) ρ σ=some (v::vs,σ2):=by simp only[dO,h,k]
theorem dC3{o:EM}{ρ:Env}{a:V}{l:List V}(h:o ρ σ=some (.tup (a::l),σ))(d:l.length+1≤1000):hX o (some (aB 1)) none ρ σ=some (.tup l,σ):=by
 have:(1:Int)≤1∧(1:Int)≤((a::l).length:Int)∧(a::l).length≤1000:=⟨Int.le_refl _,Int.ofNat_le.mpr (Nat.le_add_left 1 l.length),d⟩
 simp only[hX,h,pI,aB,zH,zI,aY4,this,and_self,if_true]
 rfl
theorem bV3{e:EM}{ρ:Env}{σ1:aD}{j:Nat}{l:List V}(h:e ρ σ=some (.ref j,σ1))(g:σ1[j]? =some (.list l))(d:l.length≤1000):gI e ρ σ=some (.tup l,σ1):=by simp only[gI,h,g,d,if_true]
theorem dH6{i:Nat}{caps:List (Nat×Nat)}{o e:EM}{ρ:Env}{σ1 σ2:aD}{l vs:List V}(h:o ρ σ=some (.tup l,σ1))(d:l.length≤1000)(g:jR e (iU caps ρ) i .fix l l σ1=some (vs,σ2)):gX caps i o e ρ σ=some (.ref σ2.length,σ2++[.list vs]):=by simp only[gX,h,fS,d,if_true,g,eP]
theorem cS0{d m:Nat}{hh:Int}{args:List V}(ih:∀y∈args,aG0 L X W m (3^d) y)(wx:wf (tm hh args)=true)(h0:hh≠0)(h1:hh≠ -1)(hm:9≤m)(H:KS σ L X W ts)(hlen:ts.length+3^(d+1)<49000){ρ:Env}(r0:ρ 0=some (.ref X.w))(r1:ρ 1=some (tm hh args))(r2:ρ 2=some (.ref L.kt)):
  dE1 L X W (3^(d+1)) (tm hh args) σ ts (cJ3 (aL m) ρ σ):=by
 have hp:3^(d+1)=3*3^d:=by rw[Nat.pow_succ];omega
 have hp1:1≤3^d:=Nat.one_le_pow _ _ (by decide)
 have hl2:=qL (cG7 wx h0)
 have hmul:3^d*args.length≤3^d*2:=Nat.mul_le_mul_left _ hl2
 refine(bD6 (m:=m) (c:=3^d) r0 args args σ ts ih H (by omega)) _ fun t3 σ1 g1 z3 g3=> ?_
 obtain⟨K1,p1,q1,l1⟩:=z3
 have la:args.length≤1000:=Nat.le_trans hl2 (by decide)
 have H2:KS (σ1++[.list (args.map (aP t3))]) L X W t3:=K1.ext .app
 refine(cP6 H2.t wx h0 h1 g3 (by omega) hm) _ fun t4 σ3 k1 k2 k3 k4 k5 k6=> ?_
 refine(fun _ k=>k t4 σ3 _ (w8 (bQ (bE (aH r1) rfl rfl) rfl) (decide_eq_false h0) (bI (w8 (bQ (bE (aH r1) rfl rfl) rfl) (decide_eq_false h1)
  (bI (eM (bV3 (dH6 (l:=args) (dC3 (aH r1) (Nat.le_trans (Nat.succ_le_succ hl2) (by decide))) la g1) (List.getElem?_concat_length ..) (by rw[List.length_map];exact la))) (bI (eM (v:=aP t4 (tm hh args)) (σ1:=σ3) ?_) rfl))) rfl)) ⟨H2.tab k2 k3 k4,(p1.trans .app).trans (k3.mono fun i hi=>List.mem_cons_of_mem _ hi),q1.trans k4,by omega⟩ k5 r0 r1 rfl)
 have hv:=bV (aO (f:=aL m .law_value) (jW (i:=1) (ρ:=aZ ρ 4 (.tup (args.map (aP t3)))) r1) (mG (σ:=σ1++[.list (args.map (aP t3))]) wx (iI hm rfl))) rfl
 induction q:aS (tm hh args)using Bool.casesOn with
 |true=>
  rw[q]at hv k1
  exact oE hv (aO (aU (aH r2) (aU (bE (aH r1) rfl rfl) (jW rfl))) k1)
 |false=>
  rw[q]at hv k1
  exact mE hv (aO (aU (aH r2) (aU (bE (aH r1) rfl rfl) (jW rfl))) k1)
theorem xC:∀(d:Nat) (x:V) (n:Nat),dP d x=true→wf x=true→d+11≤n→aG0 L X W n (3^d) x
 |0,x,n,h,_,_=>by exact c7 h
 |d+1,x,n,hd,wx,hn=>fun σ ts H hlen=>by
  obtain⟨m,rfl⟩:∃m,n=m+1:=⟨n-1,xK hn rfl⟩
  have hm:d+11≤m:=Nat.le_of_succ_le_succ hn
  have hm9:9≤m:=Nat.le_trans (Nat.le_add_left 9 (d+2)) hm
  refine aL4 (Nat.le_trans (by decide) hm9) wx H hlen fun ρ r0 r1 r2=> ?_
  rcases cR wx with⟨k,rfl,k1,k2⟩ |⟨hh,args,rfl,h0,ha,hw,_⟩
  ·obtain⟨j,rfl⟩:∃j:Nat,k=j:=⟨k.toNat,nTm k1 rfl⟩
   refine(fun _ k=>k ts σ _ (oI (bQ (bE (aH r1) rfl rfl) rfl) rfl (bI (eM (bE (aH r1) rfl rfl)) rfl)) ((lH.refl H).le (Nat.zero_le _)) (List.mem_of_getElem? (H.t.r.prim j (by omega))) r0 r1 ?_)
   show some (V.int j)=some (V.int _)
   rw[uZ H.t.r (n:=(j:Int)) tS (xY k2 rfl)]
  ·have ih:∀y∈args,aG0 L X W m (3^d) y:=fun y hy=>xC d y m (rR hd h0 y hy) (List.all_eq_true.mp hw y hy) hm
   by_cases h1:hh= -1
   ·subst h1
    obtain⟨e,he,we⟩:=yI wx rfl
    cases he
    have hp:3^(d+1)=3*3^d:=by rw[Nat.pow_succ];omega
    have hp1:1≤3^d:=Nat.one_le_pow _ _ (by decide)
    refine(ih e (.head _) σ ts H (by omega)) _ fun t3 σ1 g1 z3 g3=> ?_
    obtain⟨K1,p1,q1,l1⟩:=z3
    refine(cQ2 K1.t g3 we (by omega) hm9) _ fun t4 σ2 f1 f2 f3 f4 f5 f6=> ?_
    exact(fun _ k=>k t4 σ2 _ (w8 (bQ (bE (aH r1) rfl rfl) rfl) rfl (bI (oI (bQ (bE (aH r1) rfl rfl) rfl) rfl (bI (eM (aO (aU (aH r2) (aU (aO (aU (aH r0) (aU (bE (aH r1) rfl rfl) rfl)) g1) rfl)) f1)) rfl)) rfl)) ⟨K1.tab f2 f3 f4,p1.trans (f3.mono fun i hi=>List.mem_cons_of_mem _ hi),q1.trans f4,by omega⟩ f5 r0 r1 rfl)
   ·exact cS0 ih wx h0 h1 hm9 H hlen r0 r1 r2
end
end
section
noncomputable def iN (ts:List V) (fl:List (V×List V)):List (V×V):=(fl.filter fun p=> !p.2.isEmpty).map fun p=>(aP ts p.1,.tup (p.2.map (aP ts)))
structure h9(σ:aD)(L:Ly)(X:cX)(W:Wd)(ts:List V):Prop where
 ho:σ[L.ho]? =some (.inst .host L.hd)
 hd:σ[L.hd]? =some (.ns [("kt",.ref L.kt),("bases",.ref L.hb),("ifaces",.ref L.hi),("sorts",.ref L.hs),("variances",.ref L.hv),("unders",.ref L.hu),("bounds",.ref L.hbo),("gflags",.ref L.hg),("news",.ref L.hn)])
 hb:σ[L.hb]? =some (.dict [(aP ts tB,aP ts W.bB),(aP ts tC,aP ts W.bC)])
 hi:σ[L.hi]? =some (.dict (iN ts W.fl))
 hs:σ[L.hs]? =some (.dict kI)
 hv:σ[L.hv]? =some (.dict (lM W))
 hu:σ[L.hu]? =some (.dict [(aP ts (tm 75 []),.int W.u1),(aP ts (tm 76 []),.int W.u2)])
 ins:tB∈ts∧tC∈ts∧W.bB∈ts∧W.bC∈ts∧tm 75 []∈ts∧tm 76 []∈ts
 fin:∀p∈W.fl,p.2≠[]→p.1∈ts∧∀y∈p.2,y∈ts
 roots:tm 2 []∈ts∧tm 3 []∈ts∧tm 5 []∈ts∧tm 6 []∈ts
 sep:L.ho∉fV L X∧L.hd∉fV L X∧L.hb∉fV L X∧L.hi∉fV L X∧L.hs∉fV L X∧L.hv∉fV L X∧L.hu∉fV L X
section
variable {σ:aD}{L:Ly}{ts:List V}{X:cX}{W:Wd}
theorem h9.grow{σ':aD}{ts':List V}(H:h9 σ L X W ts)(K:cA (fV L X) σ σ')(hp:ts<+:ts'):h9 σ' L X W ts':=by
 obtain⟨s1,s2,s3,s4,s5,s6,s7⟩:=H.sep
 obtain⟨i1,i2,i3,i4,i5,i6⟩:=H.ins
 have sub:=hp.subset
 refine⟨K.2 _ _ s1 H.ho,K.2 _ _ s2 H.hd,?_,?_,K.2 _ _ s5 H.hs,K.2 _ _ s6 H.hv,?_,⟨sub i1,sub i2,sub i3,sub i4,sub i5,sub i6⟩,fun p h hne=>⟨sub (H.fin p h hne).1,fun y hy=>sub ((H.fin p h hne).2 y hy)⟩,⟨sub H.roots.1,sub H.roots.2.1,sub H.roots.2.2.1,sub H.roots.2.2.2⟩,H.sep⟩
 ·rw[d7 hp i1,d7 hp i2,d7 hp i3,d7 hp i4];exact K.2 _ _ s3 H.hb
 ·have:iN ts' W.fl=iN ts W.fl:=by
   unfold iN
   refine List.map_congr_left fun p hp'=> ?_
   have hm:=(List.mem_filter.mp hp').1
   have hne:p.2≠[]:=by simpa using(List.mem_filter.mp hp').2
   rw[d7 hp (H.fin p hm hne).1]
   congr 2
   exact List.map_congr_left fun y hy=>d7 hp ((H.fin p hm hne).2 y hy)
  rw[this];exact K.2 _ _ s4 H.hi
 ·rw[d7 hp i5,d7 hp i6];exact K.2 _ _ s7 H.hu
theorem h9.ext{σ':aD}(H:h9 σ L X W ts)(E:cM σ σ'):h9 σ' L X W ts:=H.grow E.kps List.prefix_rfl
set_option tactic.hygienic true in
theorem cD0{fl:List (V×List V)}(nd:(fl.map (·.1)).Nodup){x:V}(hx:x∈ts)(hin:∀p∈fl,p.2≠[]→p.1∈ts):(bW (iN ts fl) (aP ts x)).getD (.tup [])= .tup (((dD fl x).getD []).map (aP ts)):=by
 induction fl with
 |nil=>rfl
 |cons p fl ih=>
  rw[List.map_cons,List.nodup_cons]at nd
  have ih:=ih nd.2 fun q hq=>hin q (.tail _ hq)
  by_cases e:p.1=x
  ·have hv:dD (p::fl) x=some p.2:=by simp[dD,e,V.beq_self]
   rw[hv]
   by_cases he:p.2=[]
   ·have h1:iN ts (p::fl)=iN ts fl:=by simp[iN,he]
    have h2:dD fl x=none:=by
     have:∀(l:List (V×List V)),x∉l.map (·.1)→dD l x=none:=by
      intro l
      induction l with
      |nil=>intro _;rfl
      |cons q l ih2=>
       intro h
       simp only[List.map_cons,List.mem_cons,not_or]at h
       rw[dD,V.beq_ne (fun k=>h.1 k.symm)]
       exact ih2 h.2
     exact this fl (e▸nd.1)
    rw[h1,ih,h2,he];rfl
   ·have h1:iN ts (p::fl)=(aP ts p.1,.tup (p.2.map (aP ts)))::iN ts fl:=by
     have:(!p.2.isEmpty)=true:=by simpa using he
     simp[iN,this]
    rw[h1,bW,e,V.beq_self];rfl
  ·have hv:dD (p::fl) x=dD fl x:=by simp[dD,V.beq_ne e]
   rw[hv,←ih]
   congr 1
   unfold iN
   rw[List.filter_cons]
   split
   ·rename_i hne
    rw[List.map_cons,bW,l8 (hin p (.head _) (by simpa using hne)) hx,V.beq_ne e];rfl
   ·rfl
theorem h9.hostR(H:h9 σ L X W ts)(K:hY σ L ts)(O:dA W)(nd:(W.fl.map (·.1)).Nodup):bT σ L W ts:=by
 obtain⟨i1,i2,i3,i4,i5,i6⟩:=H.ins
 have ix:∀{k:Nat} {x:V},ts[k]? =some x→V.int (k:Nat)=aP ts x:=fun {k x} h=>by rw[kT,pB K.r.nd h]
 have lV:∀a b c d:V,iF [(V.int (eF ts a:Nat),c),(V.int (eF ts b:Nat),d)]:=fun a b c d e he=>by
  exact(List.mem_cons.mp he).elim (fun h=>h▸rfl) fun h=>List.mem_singleton.mp h▸rfl
 refine⟨K.r,H.ho,H.hd,⟨_,H.hb,lV _ _ _ _,fun k x hk=> ?_⟩,⟨_,H.hi,?_,fun k x hk=> ?_⟩,H.hs,H.hv,⟨_,H.hu,lV _ _ _ _,fun k x hk=> ?_⟩,fun x hx wx y hy=> ?_,fun x hx h0 y hy=>⟨K.args x hx h0 y hy,K.argw x hx h0 y hy⟩,H.roots⟩
 ·have hx:=List.mem_of_getElem? hk
  rw[ix hk]
  simp only[bW]
  rw[l8 i1 hx,l8 i2 hx,V.beq_comm tB x,V.beq_comm tC x]
 ·intro e he
  obtain⟨p,_,rfl⟩:=List.mem_map.mp he
  rfl
 ·rw[ix hk,cD0 nd (List.mem_of_getElem? hk) fun p hp hne=>(H.fin p hp hne).1];rfl
 ·have hx:=List.mem_of_getElem? hk
  rw[ix hk]
  simp only[bW]
  rw[l8 i5 hx,l8 i6 hx,V.beq_comm (tm 75 []) x,V.beq_comm (tm 76 []) x]
 ·refine⟨?_,uY O wx y hy⟩
  rcases List.mem_append.mp hy with hy |hy
  ·have hb:base W x=some y:=by
    induction q:base W x using Option.casesOn with
    |none=>rw[q]at hy;exact absurd hy List.not_mem_nil
    |some w=>rw[q]at hy;rw[List.mem_singleton.mp hy]
   have hobj:eQ∈ts:=List.mem_of_getElem? (K.r.prim 12 (eC rfl))
   unfold base at hb
   split at hb
   ·exact Option.some.inj hb▸H.roots.1
   ·split at hb
    ·exact Option.some.inj hb▸i3
    ·split at hb
     ·exact Option.some.inj hb▸i4
     ·unfold i7 at hb
      repeat' split at hb
      all_goals first
       |(exact aN hb;done)
       |exact Option.some.inj hb▸H.roots.1 |exact Option.some.inj hb▸H.roots.2.1 |exact Option.some.inj hb▸H.roots.2.2.1 |exact Option.some.inj hb▸H.roots.2.2.2 |exact Option.some.inj hb▸hobj
  ·unfold dH at hy
   induction q:dD W.fl x using Option.casesOn with
   |none=>rw[q]at hy;cases hy
   |some l=>
    rw[q]at hy
    have:∀(fl:List (V×List V)),dD fl x=some l→∃p∈fl,p.2=l:=by
     intro fl
     induction fl with
     |nil=>intro h;exact aN h
     |cons p fl ih=>
      intro h
      rw[dD]at h
      split at h
      ·(refine cT h fun p=> ?_;clear h;subst p);exact⟨p,.head _,rfl⟩
      ·obtain⟨r,a,b⟩:=ih h;exact⟨r,.tail _ a,b⟩
    obtain⟨p,hp,e⟩:=this _ q
    exact(H.fin p hp (by rw[e];exact List.ne_nil_of_mem hy)).2 y (by rw[e];exact hy)
end
end
section
noncomputable def bG6 (c:Fn→FM):SM:=aC (a8 (bL (aA 4)) (aC (aW (gZ (cP (aK .eq (aJ (c .box_goes) [(aA 1),(aA 6),(aA 7)]) (aA 5))) (cP (aK .eq (cH (aR (aR (aA 1) "kt") "rows")) (aA 8))))) aF) aF) (aC (aW (cP (aK .eq (aJ (c .assignable) [(aA 1),(aJ (c .boxed_kind) [(aR (aA 1) "kt"),(aA 6)]),(aA 7)]) (aA 5)))) aF)
noncomputable def aQ3 (c:Fn→FM):SM:=(aC (a8 (gG (bL (aJ (c .law_value) [(aA 2)]))) (aC (a8 (bL (aA 4)) (aC (aW (cP (aK .eq (aJ (c .assignable) [(aA 1),(aA 6),(aA 7)]) (aA 5)))) aF) aF) (aC (aW (gZ (cP (aK .ne (aJ (c .assignable) [(aA 1),(aX l7),(aA 7)]) (aJ (c .law_value) [(aA 3)]))) (mO (aJ (c .assignable) [(aA 1),(aA 7),(aX l7)])))) aF)) aF) (aC (a8 (aK .ne (aJ (c .assignable) [(aA 1),(aA 6),(aA 7)]) (cP (aK .eq (aA 2) (aA 3)))) (aC (aW (b0 false)) aF) aF) (aC (a8 (dT (aK .eq (aG (aA 2) (aB 0)) (aB 8)) (bL (aJ (c .law_value) [(aA 3)]))) (aC (aW (b0 true)) aF) aF) (bG6 c))))
noncomputable def wR (w h x t:V) (turn r:Bool) (kx kt:V) (n:Int):Env:=aZ (aZ (aZ (aZ (fun i=>[w,h,x,t,.bool turn][i]?) 5 (.bool r)) 6 kx) 7 kt) 8 (.int n)
section
variable {c:Fn→FM}{w h x t kx kt:V}{r b:Bool}{n:Int}{σ σ1 σ2:aD}
theorem bS8(hv:c .law_value [x] σ=some (.bool false,σ))(ha:c .assignable [h,kx,kt] σ=some (.bool r,σ1)):fN (aQ3 c) (wR w h x t true r kx kt n) σ (.bool true) σ1:=
 cU (jK (bV (aO (jW rfl) hv) rfl)) rfl (cU (bV (aH rfl) rfl) rfl (bA (eH (aZ7 (aO (vM rfl rfl rfl) ha) (aH rfl)))))
theorem dD0(hv:c .law_value [x] σ=some (.bool false,σ))(h1:c .assignable [h,.int 14,kt] σ=some (.bool (!b),σ1))(h2:c .law_value [t] σ1=some (.bool b,σ1))(h3:c .assignable [h,kt,.int 14] σ1=some (.bool false,σ2)):fN (aQ3 c) (wR w h x t false r kx kt n) σ (.bool true) σ2:=
 cU (jK (bV (aO (jW rfl) hv) rfl)) rfl (bN (bV (aH rfl) rfl) rfl (bA (uX (eH (cV (q:= .ne) (aO (aU (aH rfl) (aU rfl (jW rfl))) h1) (aO (jW rfl) h2) (by cases b<;>rfl))) (bV4 (aO (aU (aH rfl) (aU (aH rfl) (aU rfl rfl))) h3)))))
theorem dC9{turn bt:Bool}{i:Int}(hv:c .law_value [x] σ=some (.bool true,σ))(ha:c .assignable [h,kx,kt] σ=some (.bool b,σ))(he:uG x t=some b)(h0:gH x (.int 0) σ=some (.int i))(hvt:c .law_value [t] σ=some (.bool bt,σ))
  (k1:(decide (i=8)||bt)=true→σ1=σ) (k2:(decide (i=8)||bt)=false→fN (bG6 c) (wR w h x t turn r kx kt n) σ (.bool true) σ1):fN (aQ3 c) (wR w h x t turn r kx kt n) σ (.bool true) σ1:=
 bN (jK (bV (aO (jW rfl) hv) rfl)) rfl (bN (aV7 (aO (vM rfl rfl rfl) ha) (eH (cV (q:= .eq) (aH rfl) (aH rfl) he))) rfl
  (pT (dW (bQ (bE (aH rfl) rfl h0) rfl) (bV (aO (jW rfl) hvt) rfl)) (fun q=>k1 q▸bA rfl) k2))
theorem dD1(hb:c .box_goes [h,kx,kt] σ=some (.bool r,σ1))(hl:∀{ρ:Env},ρ 1=some h→cH (aR (aR (aA 1) "kt") "rows") ρ σ1=some (.int n,σ1)):fN (bG6 c) (wR w h x t true r kx kt n) σ (.bool true) σ1:=
 cU (bV (aH rfl) rfl) rfl (bA (uX (eH (aZ7 (aO (vM rfl rfl rfl) hb) (aH rfl))) (eH (cV (q:= .eq) (hl rfl) (aH rfl) (congrArg some (decide_eq_true rfl))))))
theorem dD2{kk kb:V}(hk:∀{ρ:Env},ρ 1=some h→aR (aA 1) "kt" ρ σ=some (kk,σ))(hb:c .boxed_kind [kk,kx] σ=some (kb,σ1))(ha:c .assignable [h,kb,kt] σ1=some (.bool r,σ2)):fN (bG6 c) (wR w h x t false r kx kt n) σ (.bool true) σ2:=
 bN (bV (aH rfl) rfl) rfl (bA (eH (aZ7 (aO (aU (aH rfl) (aU (aO (aU (hk rfl) (jW rfl)) hb) (jW rfl))) ha) (aH rfl))))
end
section
variable {σ:aD}{L:Ly}{ts:List V}{X:cX}{W:Wd}{U:List (V×V)}
theorem yX{o:CO}{a b:EM}{ρ:Env}{x y:V}{σ1 σ2:aD}{r:Bool}(h:a ρ σ=some (x,σ1))(k:b ρ σ1=some (y,σ2))(c:gK o x y σ2=some r):aK o a b ρ σ=some (r,σ2):=by simp only[aK,h,k,c]
theorem sN{a b:Bool}{P:Prop}(ha:a=true↔P)(hb:b=true↔P):a=b:=by
 cases a<;>cases b<;>simp_all
theorem wB(H:bT σ L W ts)(hl:ts.length≤100000){ρ:Env}(q:ρ 1=some (.ref L.ho)):cH (aR (aR (aA 1) "kt") "rows") ρ σ=some (.int ts.length,σ):=
 kG (eR (H.a_kt (aH q)) H.tab.fields f0) (by simp only[jD,H.tab.kr,List.length_map,hl,if_true])
noncomputable def aA6 (σ:aD) (L:Ly) (X:cX) (W:Wd) (ts:List V) (x t:V) (turn:Bool) (f:FM):Prop:=∀G:Prop,(∀(ts':List V),∀(σ':aD),(f [.ref X.w,.ref L.ho,x,t,.bool turn] σ=some (.bool true,σ'))→(KS σ' L X W ts')→(h9 σ' L X W ts')→(ts'.length≤ts.length+500)→(cA (fV L X) σ σ')→G)→G
theorem cQ1(H:KS σ L X W ts)(HX:h9 σ L X W ts)(O:dA W)(nd:(W.fl.map (·.1)).Nodup)(C:Cl W U)(hbx:∀e t,(tm (-2) [e],t)∈U→aS e=true){x t:V}(dx:dP 5 x=true)(dt:dP 5 t=true)(hin:aS t=false→(x,t)∈U)
  (hbin:aS x=true→aS t=false→(tm (-2) [x],t)∈U) (turn:Bool) (hlen:ts.length+600<49000) {n:Nat} (hn:2*(U.length+1)+12≤n∧40≤n):
  aA6 σ L X W ts x t turn (aL n .law_asked):=by
 obtain⟨m,rfl⟩:∃m,n=m+1:=⟨n-1,xL hn.2 rfl⟩
 have hm:39≤m:=mL hn.2 rfl
 have wx:wf x=true:=jJ 5 x dx
 have wt:wf t=true:=jJ 5 t dt
 refine(dO3 H.w O C wx wt hin (show 2*(U.length+1)+11≤m by omega)) _ fun r σ1 g1 g2 g3=> ?_
 have hp5:3^5=243:=by decide
 refine(xC 5 x m dx wx (iI hm rfl) σ1 ts (H.ext g2) (xP (Nat.le_of_lt hlen) rfl)) _ fun t2 σ2 k1 z3 k3=> ?_
 obtain⟨K2,k2,p2,l2⟩:=z3
 refine(xC 5 t m dt wt (iI hm rfl) σ2 t2 K2 (nQg l2 hlen rfl)) _ fun t3 σ3 j1 z3 j3=> ?_
 obtain⟨K3,j2,p3,l3⟩:=z3
 have x3:x∈t3:=p3.subset k3
 rw[(d7 p3 k3).symm]at k1
 have HX3:h9 σ3 L X W t3:=((HX.ext g2).grow k2 p2).grow j2 p3
 have HR:bT σ3 L W t3:=HX3.hostR K3.t O nd
 refine(cY4 HR O C hbx x3 wx j3 wt hin (iI hm rfl)) _ fun r2 σ4 i1 i2 i3=> ?_
 rw[sN i3 g3]at i1
 clear i3
 have HR4:=HR.ext i2
 have len3:t3.length≤ts.length+500:=nM9 l2 l3 rfl
 have fin:∀{t':List V} {σ':aD},fN (aQ3 (aL m)) (wR (.ref X.w) (.ref L.ho) x t turn r (aP t3 x) (aP t3 t) t3.length) σ4 (.bool true) σ'→KS σ' L X W t'→h9 σ' L X W t'→t'.length≤ts.length+500→cA (fV L X) σ4 σ'→aA6 σ L X W ts x t turn (aL (m+1) .law_asked):=fun {t' σ'} h a b d e=>
  (fun _ k=>k t' σ' (cL (iI hm rfl) (fun _=>rfl) rfl (cQ (aO (vM rfl rfl rfl) g1) (cQ (aO (eE rfl rfl) k1) (cQ (aO (eE rfl rfl) j1) (cQ (wB HR (d0 (nQb len3 (kD (Nat.le_of_lt hlen))) rfl) rfl)
   (bN (j6 (aV7 (aO (vM rfl rfl rfl) i1) (aH rfl)) (cV (q:= .ne) (wB HR4 (d0 (nQb len3 (kD (Nat.le_of_lt hlen))) rfl) rfl) (aH rfl) (congrArg (fun b=>some (!b)) (decide_eq_true rfl)))) rfl h)))))) a b d ((((cA.trans g2.kps k2).trans j2).trans i2.kps).trans e))
 have HK4:KS σ4 L X W t3:=K3.ext i2
 have HX4:h9 σ4 L X W t3:=HX3.ext i2
 have hv:=mG (σ:=σ4) wx (n:=m) (iI hm rfl)
 have hvt:∀{σ:aD},_:=fun {σ}=>mG (σ:=σ) wt (n:=m) (iI hm rfl)
 clear k1 j1 i1 g1 K3 HX3 HR K2 H HX
 have hLD:aS t=false→aQ x≠8→(LIs W x t↔D W x t):=fun vt h8=>by
  have t8:aQ t≠8:=fun h=>by rw[aS,h]at vt;exact kP vt
  constructor
  ·rintro⟨_,⟨h,_⟩ |⟨_,h,_⟩ |⟨_,_,h⟩⟩
   ·exact absurd h t8
   ·rw[vt]at h;exact c7 h
   ·exact h
  ·exact fun h=>⟨h8,.inr (.inr ⟨t8,vt,h⟩)⟩
 induction vx:aS x using Bool.casesOn with
 |false=>
  rw[vx]at hv
  have x8:aQ x≠8:=fun h=>by rw[aS,h]at vx;exact kP vx
  have rx:hK x=true:=by rw[gU wx,vx];rfl
  induction turn using Bool.casesOn with
  |true=>
   induction vt:aS t using Bool.casesOn with
   |true=>
    have hne:x≠t:=fun e=>by rw[e,vt]at vx;exact kP vx
    have hr:r=false:=by
     induction q:r using Bool.casesOn with
     |false=>rfl
     |true=>
      exfalso
      rcases(g3.mp q).2 with⟨h8,v,rfl,e⟩ |⟨_,_,h⟩ |⟨_,h,_⟩
      ·rcases wf8 wt h8 with h |⟨v',h,_,hv'⟩
       ·cases h
       ·cases h;rw[←e,vx]at hv';exact c7 hv'
      ·exact hne h
      ·rw[vt]at h;exact kP h
    exact fin (bS8 hv (hr▸aA7 HR4 x3 j3 (.inr (by rw[gU wt,vt];rfl)) (iI hm rfl) false ⟨fun h=>(by exact c7 h),fun h=>absurd h hne⟩)) HK4 HX4 len3 .refl
   |false=>
    refine(aA8 HR4 O C hbx x3 (.inl wx) (by rw[dJ wx];exact x3) rx j3 wt vt (hin vt) (iI hm rfl)) _ fun r' σ5 h1 h2 h3=> ?_
    rw[dJ wx]at h3
    rw[sN h3 (g3.trans (hLD vt x8))]at h1
    exact fin (bS8 hv h1) (HK4.ext h2) (HX4.ext h2) len3 h2.kps
  |false=>
   obtain⟨σ5,h1,h2⟩:=cP5 HR4 j3 wt (iI hm rfl)
   obtain⟨σ6,h3,h4⟩:=cP4 (HR4.ext h2) O j3 wt (iI hm rfl)
   exact fin (dD0 hv h1 hvt h3) (HK4.ext (h2.trans h4)) (HX4.ext (h2.trans h4)) len3 (h2.trans h4).kps
 |true=>
  rw[vx]at hv
  have rx:hK x=false:=by rw[gU wx,vx];rfl
  have T:∀{σ':aD},_→_→fN (aQ3 (aL m)) _ σ4 _ σ':=fun {σ'}=>dC9 (w:= .ref X.w) (turn:=turn) (r:=r) (n:=t3.length) hv (aA7 HR4 x3 j3 (.inl rx) (iI hm rfl) (V.beq x t) (V.beq_iff x t)) (oS wx wt) (i:=aQ x) (by rw[lI wx];rfl) hvt
  by_cases hb:(decide (aQ x=8)||aS t)=true
  ·exact fin (T (fun _=>rfl) fun q=>by rw[hb]at q;exact kP q) HK4 HX4 len3 .refl
  ·have hb':=Bool.or_eq_false_iff.mp (Bool.eq_false_iff.mpr hb)
   have x8:aQ x≠8:=of_decide_eq_false hb'.1
   have vt:=hb'.2
   induction turn using Bool.casesOn with
   |true=>
    refine(cH8 HR4 O C hbx x3 wx vx j3 wt vt (hin vt) (iI hm rfl)) _ fun r' σ5 h1 h2 h3=> ?_
    rw[sN h3 (g3.trans (hLD vt x8))]at h1
    exact fin (T (fun q=>absurd q hb) fun _=>dD1 h1 (wB (HR4.ext h2) (d0 (nQb len3 (kD (Nat.le_of_lt hlen))) rfl))) (HK4.ext h2) (HX4.ext h2) len3 h2.kps
   |false=>
    refine(cP9 HK4.t x3 wx vx (nQf len3 hlen rfl) (iI hm rfl)) _ fun t5 σ5 h1 h2 h3 h4 h5 h6=> ?_
    have HK5:=HK4.tab h2 h3 h4
    have HX5:h9 σ5 L X W t5:=HX4.grow (h3.mono fun i hi=>List.mem_cons_of_mem _ hi) h4
    refine(aA8 (HX5.hostR HK5.t O nd) O C hbx h5 (.inr ⟨x,rfl,wx⟩) (by rw[eZ];exact h4.subset x3) rfl (h4.subset j3) wt vt (hbin vx vt) (iI hm rfl)) _ fun r' σ6 f1 f2 f3=> ?_
    rw[eZ]at f3
    rw[sN f3 (g3.trans (hLD vt x8)),d7 h4 j3]at f1
    exact fin (T (fun q=>absurd q hb) fun _=>dD2 (fun q=>HR4.a_kt (aH q)) h1 f1) (HK5.ext f2) (HX5.ext f2) (by omega) ((cA.mono h3 fun i hi=>List.mem_cons_of_mem _ hi).trans f2.kps)
end
end
section
section
variable {W:Wd}
noncomputable def aF3:List (V×V):=jP.flatMap fun a=>jP.map fun b=>(a,b)
noncomputable def tT (x t:V):List (V×V):=aF3++((x,t)::if aS x then [(tm (-2) [x],t)]else [])
theorem aB0{a b:V}:(a,b)∈aF3↔a∈jP∧b∈jP:=by
 unfold aF3
 rw[List.mem_flatMap]
 constructor
 ·rintro⟨c,hc,h⟩
  obtain⟨d,hd,e⟩:=List.mem_map.mp h
  cases e;exact⟨hc,hd⟩
 ·rintro⟨ha,hb⟩
  exact⟨a,ha,List.mem_map.mpr ⟨b,hb,rfl⟩⟩
theorem rY:∀a∈jP,argOK a=true∧aQ a≠ -2:=by
 intro a ha
 simp only[jP,List.mem_cons,List.not_mem_nil,or_false]at ha
 rcases ha with rfl |rfl |rfl |rfl |rfl |rfl |rfl |rfl |rfl |rfl |rfl |rfl |rfl |rfl |rfl |rfl |rfl |rfl<;>exact⟨rfl,by decide⟩
theorem qM{u a:V}(h:argOK u=true)(hh:aQ u=69∨aQ u=70∨aQ u=71∨aQ u= -1)(ha:a∈bY u)(hv:aS a=false):a∈jP:=by
 unfold argOK at h
 rw[if_pos hh,List.all_eq_true]at h
 have:=h a ha
 rw[hv,Bool.false_or]at this
 exact oZ.mp this
theorem bF2(O:dA W){x y:V}(hb:base W x=some y):argOK y=true:=by
 have hB:=O.bB
 have hC:=O.bC
 unfold base at hb
 split at hb
 ·simp at hb;rw[←hb];rfl
 ·split at hb
  ·simp at hb;rcases hB with q |q<;>rw[←hb,q]<;>rfl
  ·split at hb
   ·simp at hb;rcases hC with q |q |q |q<;>rw[←hb,q]<;>rfl
   ·unfold i7 at hb
    repeat' split at hb
    all_goals first
     |(exact aN hb;done)
     |(simp at hb;rw[←hb];rfl)
theorem hH.argOK(O:dA W){x u:V}(r:hH W x u)(h:Mine.Internal.argOK x=true):Mine.Internal.argOK u=true:=by
 induction r with
 |refl=>exact h
 | @step u v _ hv ih=>
  rcases List.mem_append.mp hv with hv |hv
  ·have hb:base W u=some v:=by
    induction q:base W u using Option.casesOn with
    |none=>rw[q]at hv;exact absurd hv List.not_mem_nil
    |some w=>rw[q]at hv;simp at hv;rw[hv]
   exact bF2 O hb
  ·exact O.farg _ _ hv
set_option tactic.hygienic true in
theorem dA5(O:dA W){x t:V}(wx:wf x=true)(ax:argOK x=true)(at_:argOK t=true):Cl W (tT x t)∧(∀e t',(tm (-2) [e],t')∈tT x t→aS e=true)∧(x,t)∈tT x t∧(aS x=true→(tm (-2) [x],t)∈tT x t)∧(tT x t).length≤326:=by
 have hlen:(tT x t).length≤326:=by
  have:aF3.length=324:=by rfl
  unfold tT
  rw[List.length_append,this]
  by_cases q:aS x=true
  ·rw[if_pos q];exact Nat.le_of_ble_eq_true rfl
  ·rw[if_neg q];exact Nat.le_of_ble_eq_true rfl
 have hcase:∀{s t':V},(s,t')∈tT x t→(s∈jP∧t'∈jP)∨(s=x∧t'=t)∨(s=tm (-2) [x]∧t'=t∧aS x=true):=fun {s t'} h=>by
  unfold tT at h
  rcases List.mem_append.mp h with h |h
  ·exact .inl (aB0.mp h)
  ·rcases List.mem_cons.mp h with h |h
   ·cases h;exact .inr (.inl ⟨rfl,rfl⟩)
   ·split at h
    ·rename_i hv
     rw[List.mem_singleton]at h;cases h;exact .inr (.inr ⟨rfl,rfl,hv⟩)
    ·cases h
 have hin:∀{a b:V},a∈jP→b∈jP→(a,b)∈tT x t:=fun {a b} ha hb=>List.mem_append_left _ (aB0.mpr ⟨ha,hb⟩)
 have hsa:∀{s t':V},(s,t')∈tT x t→argOK (bS s)=true∧argOK t'=true:=fun {s t'} h=>by
  rcases hcase h with⟨h1,h2⟩ |⟨rfl,rfl⟩ |⟨rfl,rfl,_⟩
  ·rw[nG (rY s h1).2]
   exact⟨(rY s h1).1,(rY t' h2).1⟩
  ·rw[dJ wx];exact⟨ax,at_⟩
  ·rw[eZ];exact⟨ax,at_⟩
 refine⟨⟨d0 hlen rfl,fun e f h ve vf _=> ?_,fun s t' u h r=> ?_⟩,fun e t' h=> ?_,List.mem_append_right _ (.head _),fun hv=>List.mem_append_right _ ?_,hlen⟩
 ·obtain⟨a,b⟩:=hsa h
  rw[nG (by simp[aQ])]at a
  exact hin (qM a (by simp[aQ]) (.head _) ve) (qM b (by simp[aQ]) (.head _) vf)
 ·intro he i a c ha hc va vc hw
  obtain⟨x1,x2⟩:=hsa h
  have x3:=r.argOK O x1
  have hh':aQ u=69∨aQ u=70∨aQ u=71∨aQ u= -1:=by
   by_cases a:aQ u=69
   ·exact .inl a
   ·by_cases b:aQ u=70
    ·exact .inr (.inl b)
    ·by_cases c:aQ u=71
     ·exact .inr (.inr (.inl c))
     ·exact absurd (show(rF W (aQ u)).getD i 0=0 by rw[show rF W (aQ u)=[]from(if_neg a).trans ((if_neg b).trans (if_neg c))];rfl) hw
  have m1:=qM x3 hh' (List.mem_of_getElem? ha) va
  have m2:=qM x2 (he▸hh') (List.mem_of_getElem? hc) vc
  exact⟨hin m1 m2,hin m2 m1⟩
 ·rcases hcase h with⟨h1,_⟩ |⟨h1,_⟩ |⟨h1,_,hv⟩
  ·exact absurd rfl (rY _ h1).2
  ·rw[←h1,mQ]at wx;exact c7 wx
  ·simp at h1;rw[h1];exact hv
 ·rw[if_pos hv];exact .tail _ (.head _)
structure zZ(x t:V):Prop where
 dx:dP 5 x=true
 ax:argOK x=true
 dt:dP 5 t=true
 at_:argOK t=true
variable {σ:aD}{L:Ly}{ts:List V}{X:cX}
theorem dI1(H:KS σ L X W ts)(HX:h9 σ L X W ts)(O:dA W)(nd:(W.fl.map (·.1)).Nodup){x t:V}(G:zZ x t)(turn:Bool)(hlen:ts.length+600<49000){n:Nat}(hn:670≤n):
  ∃(ts':List V) (σ':aD),aL n .law_asked [.ref X.w,.ref L.ho,x,t,.bool turn] σ=some (.bool true,σ')∧KS σ' L X W ts'∧h9 σ' L X W ts'∧ts'.length≤ts.length+500∧cA (fV L X) σ σ':=by
 obtain⟨c1,c2,c3,c4,c5⟩:=dA5 O (jJ 5 x G.dx) G.ax G.at_
 refine(cQ1 H HX O nd c1 c2 G.dx G.dt (fun _=>c3) (fun hv _=>c4 hv) turn hlen (n:=n) ⟨by omega,nGe hn rfl⟩) _ fun a1 a2 a3 a4 a5 a6 a7=> ?_
 exact⟨a1,a2,a3,a4,a5,a6,a7⟩
end
end
section
theorem cC5(m k:Nat):Int.fmod (m:Int) (k:Int)=((m%k:Nat):Int):=by
 rw[Int.fmod_eq_emod_of_nonneg _ tS];rfl
theorem cC8(m k:Nat):Int.fdiv (m:Int) (k:Int)=((m/k:Nat):Int):=by
 rw[Int.fdiv_eq_ediv_of_nonneg _ tS];rfl
section
variable {σ:aD}{L:Ly}{ts:List V}{X:cX}{W:Wd}
theorem iG{a b:EM}{ρ:Env}{m k:Nat}(h1:a ρ σ=some (.int (m:Nat),σ))(h2:b ρ σ=some (.int (k:Nat),σ))(hk:0<k):aT .mod a b ρ σ=some (.int (m%k:Nat),σ):=by
 simp only[aT,h1,h2,m8,pK,pL,sO,qH,qI]
 rw[if_pos (by omega),cC5]
theorem lW{a b:EM}{ρ:Env}{m k:Nat}(h1:a ρ σ=some (.int (m:Nat),σ))(h2:b ρ σ=some (.int (k:Nat),σ))(hk:0<k)(hk2:k<1000000):aT .fdiv a b ρ σ=some (.int (m/k:Nat),σ):=by
 simp only[aT,h1,h2,m8,pK,pL,sO,qH,qI]
 rw[if_pos (by omega),cC8]
theorem dC5{l:List V}{p:Nat}(h:p<l.length)(h2:l.length≤1000):mP (.tup l) none (some (p:Int)) σ=some (.tup (l.take p),σ):=by
 rw[zI,if_pos ⟨tS,nCt h,h2⟩,Int.toNat_natCast]
theorem dC4{l:List V}{p:Nat}(h1:1≤p)(h:p≤l.length)(h2:l.length≤1000):mP (.tup l) (some (p:Int)) none σ=some (.tup (l.drop p),σ):=by
 rw[zH,if_pos ⟨by omega,nIl h,h2⟩,Int.toNat_natCast]
theorem cT2{o b:EM}{ρ:Env}{x y:V}{i:Int}(h1:o ρ σ=some (x,σ))(h2:b ρ σ=some (.int i,σ))(h3:mP x (some i) none σ=some (y,σ)):hX o (some b) none ρ σ=some (y,σ):=by simp only[hX,pI,h1,h2,h3]
theorem cT3{o b:EM}{ρ:Env}{x y:V}{i:Int}(h1:o ρ σ=some (x,σ))(h2:b ρ σ=some (.int i,σ))(h3:mP x none (some i) σ=some (y,σ)):hX o none (some b) ρ σ=some (y,σ):=by simp only[hX,pI,h1,h2,h3]
theorem nY{o:BO}{a b:EM}{ρ:Env}{x y:V}{σ1 σ2:aD}(h1:a ρ σ=some (x,σ1))(h2:b ρ σ1=some (y,σ2)):aT o a b ρ σ=gC o x y σ2:=by simp only[aT,h1,h2]
theorem jE{es:List EM}{ρ:Env}{vs:List V}{σ1:aD}(h:dO es ρ σ=some (vs,σ1)):aE es ρ σ=some (.tup vs,σ1):=by simp only[aE,h]
theorem eG{ρ:Env}:dO [] ρ σ=some ([],σ):=rfl
theorem gJ(i:Int)(ρ:Env):aB i ρ σ=some (.int i,σ):=rfl
theorem gV(k:Nat)(ρ:Env):aB (k:Nat) ρ σ=some (.int (k:Nat),σ):=rfl
noncomputable def R12:List V:=[eQ,tA,tB,tC,tm 67 [],tm 68 [],tP 13,tm 69 [tA],tm 69 [tB],tm 73 [],tm 5 [],dK tA]
theorem bT7:∀r∈R12,dP 2 r=true∧(aS r||jP.any (V.beq · r))=true:=by
 intro r hr
 simp only[R12,List.mem_cons,List.not_mem_nil,or_false]at hr
 rcases hr with rfl |rfl |rfl |rfl |rfl |rfl |rfl |rfl |rfl |rfl |rfl |rfl<;>exact⟨rfl,rfl⟩
theorem rL{l:List V}{k:Nat}(hl:0<k)(h:l.length=k)(i:Nat):∃r,l[i%k]? =some r∧r∈l:=by
 have:i%k<l.length:=by rw[h];exact Nat.mod_lt _ hl
 exact⟨l[i%k],List.getElem?_eq_getElem this,List.getElem_mem _⟩
theorem jV{a b:Nat}(h:a≤b){x:V}(w:dP a x=true):dP b x=true:=by
 induction h with
 |refl=>exact w
 |step _ ih=>exact jJ _ _ ih
theorem dH5{a b:EM}{ρ:Env}{m k r:Nat}(h1:a ρ σ=some (.int (m:Nat),σ))(h2:b ρ σ=some (.int (k:Nat),σ))(hk:0<k)(hr:m%k=r):aT .mod a b ρ σ=some (.int (r:Nat),σ):=hr▸iG h1 h2 hk
theorem bJ4{a b:List V}(h:a.length+b.length≤1000):gC .add (.tup a) (.tup b) σ=some (.tup (a++b),σ):=if_pos (by assumption)
noncomputable def vF (r:Nat):V:=if r<12 then tP ((1+r:Nat):Int)else if r=12 then tm 73 []else if r=13 then tm 75 []else tm 76 []
theorem cE5:∀r,r<15→dP 4 (vF r)=true∧(aS (vF r)||jP.any (V.beq · (vF r)))=true:=by decide+kernel
theorem bS0{a b:EM}{ρ:Env}{r:Nat}(h:a ρ σ=some (.int (r:Nat),σ))(hr:r<15):(fF (aK .lt a (aB 12)) (aE [(aB 0),(aT .add (aB 1) a)]) (aG (aE [(aE [(aB 73)]),(aE [(aB 75)]),(aE [(aB 76)])]) (aT .sub a (aB 12)))) ρ σ=some (vF r,σ):=by
 by_cases q:r<12
 ·rw[vF,if_pos q]
  exact oE (cV h rfl (congrArg some (decide_eq_true (Int.ofNat_lt.mpr q)))) (fK (aU rfl (aU (bA1 (i:=1) rfl h (by omega)) rfl)))
 ·have e:[tm 73 [],tm 75 [],tm 76 []][r-12]? =some (vF r):=by
   have:r=12∨r=13∨r=14:=by omega
   rcases this with rfl |rfl |rfl<;>rfl
  exact mE (cV h rfl (congrArg some (decide_eq_false fun e=>q (Int.ofNat_lt.mp e)))) (bE rfl (aZ9 h (j:=12) rfl (Nat.le_of_not_lt q) (bD0 hr rfl)) (fC e (by omega)))
theorem bS9{v:V}(dv:dP 4 v=true)(iv:(aS v||jP.any (V.beq · v))=true):dP 5 (dK v)=true∧argOK (dK v)=true:=by
 constructor
 ·show dP (4+1) (dK v)=true
  unfold dP
  simp[eI,dv]
 ·simp only[argOK,aQ,bY,List.all_cons,List.all_nil,Bool.and_true,iv,ite_self]
theorem cE4{e:V}(we:wf e=true)(k:Nat){n:Nat}(hn:5≤n):∃t,aL n .law_bent [dK e,.int (k:Nat)] σ=some (t,σ)∧dP 5 t=true∧argOK t=true:=
 let⟨r,r1,r2⟩:=rL (l:=R12) (k:=12) (by decide) rfl k
 let⟨d,g⟩:=bT7 r r2
 let⟨dv,iv⟩:=cE5 (k%15) (Nat.mod_lt _ (by decide))
 cJ9 hn rfl (fun _=>rfl) rfl fun m hm=>aK2 rfl (aK2 rfl (dI4 (bQ (bE (aH rfl) rfl rfl) rfl) rfl
  (pIf (jK (bV (aO (aU (bE (aH rfl) rfl rfl) rfl) (mG we (bH hm rfl))) rfl))
   (fun _=>cA1 (fK (aU rfl (aU (bE (aH rfl) (iG (aH rfl) (k:=12) rfl (by decide)) (fC r1 (Nat.lt_trans (Nat.mod_lt _ (by decide)) (by decide)))) rfl))) (bS9 (jV (by decide) d) g))
   fun _=>cA1 (fK (aU rfl (aU (bS0 (b:=aA 1) (iG (aH rfl) (k:=15) rfl (by decide)) (Nat.mod_lt _ (by decide))) rfl))) (bS9 dv iv))))
theorem cR8{hh:Int}{args:List V}(h:args.length≤100):jD (tm hh args) σ=some ((args.length+1:Nat):Int):=if_pos (Nat.le_trans (Nat.succ_le_succ h) (by decide))
theorem aO8{ρ:Env}{hh:Int}{args:List V}{q:Nat}(h:ρ 0=some (tm hh args))(hl:args.length=q)(q2:q≤2):aT .sub (cH (aA 0)) (aB 1) ρ σ=some (.int (q:Nat),σ):=by
 subst hl
 exact aZ9 (i:=args.length+1) (j:=1) (kG (aH h) (cR8 (Nat.le_trans q2 (by decide)))) rfl (Nat.le_add_left _ _) (nRb q2 rfl)
theorem zL{hh:Int}{args:List V}{q p:Nat}(h1:hh≠ -1)(hl:args.length=q)(q1:0<q)(q2:q≤2){k:Nat}(hp:k%q=p){n:Nat}(hn:5≤n):∃t,aL n .law_bent [tm hh args,.int (k:Nat)] σ=some (t,σ)∧∃r,r∈R12∧t= .tup (((V.int hh::args).take (1+p)++[r])++(V.int hh::args).drop (1+p+1)):=
 let⟨r,r1,r2⟩:=rL (l:=R12) (k:=12) (by decide) rfl (k/q)
 have hp1:p<q:=hp▸Nat.mod_lt _ q1
 have hL:(V.int hh::args).length=q+1:=congrArg (· +1) hl
 have a1:((V.int hh::args).take (1+p)).length=1+p:=by rw[List.length_take,hL];omega
 have a2:((V.int hh::args).drop (1+p+1)).length≤2:=by rw[List.length_drop,hL];omega
 cJ9 hn rfl (fun _=>rfl) rfl fun m hm=>aK2 rfl (aK2 rfl (dI5 (bQ (bE (aH rfl) rfl rfl) rfl) (decide_eq_false h1)
  (aK2 (bA1 (i:=1) rfl (dH5 (aH rfl) (aO8 rfl hl q2) q1 hp) (by omega))
   (cA1 (qR (qR (cT3 (aH rfl) (aH rfl) (dC5 (by rw[hL];omega) (by rw[hL];exact nRa q2 rfl))) (fK (aU (bE (aH rfl) (iG (lW (aH rfl) (aO8 rfl hl q2) q1 (sA q2 rfl)) (k:=12) rfl (by decide)) (fC r1 (Nat.lt_trans (Nat.mod_lt _ (by decide)) (by decide)))) rfl)) (bJ4 (by rw[a1];show _+1≤_;omega)))
    (cT2 (aH rfl) (bA1 (aH rfl) (j:=1) rfl (by omega)) (dC4 (Nat.le_add_left _ _) (by rw[hL];omega) (by rw[hL];exact nRa q2 rfl))) (bJ4 (by rw[List.length_append,a1];show _+1+_≤_;omega))) ⟨r,r2,rfl⟩))))
set_option tactic.hygienic true in
theorem cY7{u:V}(du:dP 4 u=true)(au:argOK u=true)(hne:bY u≠[])(h0:aQ u≠0)(h8:aQ u≠8)(k:Nat){n:Nat}(hn:5≤n):
  ∃t,aL n .law_bent [u,.int (k:Nat)] σ=some (t,σ)∧dP 5 t=true∧argOK t=true:=by
 have wu:wf u=true:=jV (by decide) du
 by_cases h1:aQ u= -1
 ·obtain⟨e,rfl,we⟩:=yI wu h1
  exact cE4 we k hn
 rcases cR wu with⟨j,rfl,_⟩ |⟨hh,args,rfl,_,ha,_,_⟩
 ·exact absurd rfl h0
 have hall:∀x∈args,dP 3 x=true:=rR (n:=3) du h0
 have fin:∀{r:V} {l:List V},r∈R12→l.length=args.length→(∀x∈l,x=r∨x∈args)→dP 5 (tm hh l)=true∧argOK (tm hh l)=true:=fun {r l} r2 hl hx=>by
  obtain⟨dr,gr⟩:=bT7 r r2
  constructor
  ·show dP (4+1) (tm hh l)=true
   show(if hh=0 then _ else eI hh l.length&&l.all (dP 4)&&(hh !=8||l.all aS))=true
   rw[if_neg (show ¬hh=0 from h0),hl,ha,Bool.true_and,Bool.and_eq_true]
   refine⟨List.all_eq_true.mpr fun x hm=> ?_,Bool.or_eq_true_iff.mpr (.inl (bne_iff_ne.mpr h8))⟩
   rcases hx x hm with rfl |h
   ·exact jV (by decide) dr
   ·exact jV (by decide) (hall x h)
  ·unfold argOK at au⊢
   split
   ·rename_i hc
    rw[if_pos (show aQ (tm hh args)=69∨aQ (tm hh args)=70∨aQ (tm hh args)=71∨aQ (tm hh args)= -1 from hc),List.all_eq_true]at au
    rw[List.all_eq_true]
    intro x hm
    rcases hx x hm with rfl |h
    ·exact gr
    ·exact au x h
   ·rfl
 have two:args.length≤2:=qL ha
 rcases args with _ |⟨a,_ |⟨b,_ |⟨c,l⟩⟩⟩
 ·exact absurd rfl hne
 ·obtain⟨t,e,r,r2,rfl⟩:=zL (σ:=σ) (args:=[a]) (q:=1) h1 rfl (by decide) (by decide) (Nat.mod_one k) hn
  exact⟨_,e,fin (l:=[r]) r2 rfl fun x hx=> .inl (List.mem_singleton.mp hx)⟩
 ·rcases Nat.mod_two_eq_zero_or_one k with h |h
  ·obtain⟨t,e,r,r2,rfl⟩:=zL (σ:=σ) (args:=[a,b]) (q:=2) h1 rfl (by decide) (by decide) h hn
   exact⟨_,e,fin (l:=[r,b]) r2 rfl fun x hx=>by rcases List.mem_cons.mp hx with h |h;exact .inl h;exact .inr (List.mem_cons_of_mem _ h)⟩
  ·obtain⟨t,e,r,r2,rfl⟩:=zL (σ:=σ) (args:=[a,b]) (q:=2) h1 rfl (by decide) (by decide) h hn
   exact⟨_,e,fin (l:=[a,r]) r2 rfl fun x hx=>by rcases List.mem_cons.mp hx with h |h;exact .inr (h▸List.mem_cons_self);exact .inl (List.mem_singleton.mp h)⟩
 ·exact absurd (Nat.le_of_succ_le_succ (Nat.le_of_succ_le_succ two)) (Nat.not_succ_le_zero _)
end
end
section
noncomputable def bP9 (n:Int):List V:=[tA,tB,tC,eQ,tP 13,tm 72 [tA],tm 72 [tB],tm 71 [tA],tm 71 [tB],tm 71 [tm 69 [tB]],dK tA,dK tB,dK (tm 73 []),dK (tm 75 []),dK (tm 76 []),dK (tP n),dK (tP 7),dK (dK tA),dK (tm 69 [tB]),dK (tm 72 [tB]),dK (tm 71 [tA]),tm 73 [],tm 73 [],tm 75 [],tm 75 [],tm 76 [],tP n,tP n,tm 74 [tP 7],tP 7,tP 1,tm 8 [tm 73 []],tm 8 [tm 75 []],tm 8 [tP 7],dK (tm 8 [tm 75 []]),tm 74 [tA],dK (dK (tm 75 []))]
noncomputable def cK5 (n:Int):List V:=[eQ,tm 2 [],tm 3 [],tm 5 [],tm 6 [],tA,tB,tC,tm 67 [],tm 68 [],tP 13,tm 73 [],tm 75 [],tm 76 [],tP n,tP 7,tm 8 [tm 73 []],tm 8 [tm 75 []],tm 8 [tP 7],tm 8 [],tm 74 [tP 7],dK eQ,dK (tm 5 []),dK (tm 67 []),tm 69 [tA],tm 69 [tP n],tm 69 [tm 75 []],tm 70 [tA,tA],tm 70 [eQ,tC],tm 71 [tA],tm 71 [eQ],dK tA,dK (dK eQ),tm 69 [tm 69 [tA]],tm 72 [tA],tm 69 [eQ],tm 70 [tB,tm 75 []]]
noncomputable def x9 (W:Wd):List V:=bP9 W.u1
noncomputable def bH0 (W:Wd):List V:=cK5 W.u1
section
variable {σ:aD}{kt:Nat}{X:cX}{W:Wd}
theorem d8{P:Nat→Prop}(h:P 0∧P 1∧P 2∧P 3∧P 4∧P 5∧P 6∧P 7):∀d,d<8→P d:=by
 intro d hd
 obtain⟨h0,h1,h2,h3,h4,h5,h6,h7⟩:=h
 rcases d with _ |_ |_ |_ |_ |_ |_ |_ |d<;>first |assumption |exact absurd hd (Nat.not_lt.mpr (Nat.le_add_left 8 d))
theorem in8{n:Int}(h:3≤n∧n≤10):n∈[(3:Int),4,5,6,7,8,9,10]:=by
 have e:((n-3).toNat:Int)=n-3:=Int.toNat_of_nonneg (Int.sub_nonneg_of_le h.1)
 have hd:(n-3).toNat<8:=Int.ofNat_lt.mp (by rw[e];exact Int.sub_lt_sub_right (Int.lt_of_le_of_lt h.2 (by decide:(10:Int)<11)) 3)
 have e2:3+((n-3).toNat:Int)=n:=by rw[e,Int.add_comm,Int.sub_add_cancel]
 exact e2▸d8 (P:=fun d=>(3:Int)+(d:Int)∈[(3:Int),4,5,6,7,8,9,10]) ⟨.head _,.tail _ (.head _),.tail _ (.tail _ (.head _)),.tail _ (.tail _ (.tail _ (.head _))),.tail _ (.tail _ (.tail _ (.tail _ (.head _)))),.tail _ (.tail _ (.tail _ (.tail _ (.tail _ (.head _))))),.tail _ (.tail _ (.tail _ (.tail _ (.tail _ (.tail _ (.head _)))))),.tail _ (.tail _ (.tail _ (.tail _ (.tail _ (.tail _ (.tail _ (.head _)))))))⟩ _ hd
theorem bP8(O:dA W){x:V}(hx:x∈x9 W):dP 4 x=true∧argOK x=true:=
 Bool.and_eq_true_iff.mp (List.all_eq_true.mp (List.all_eq_true.mp (show([(3:Int),4,5,6,7,8,9,10].all fun n=>(bP9 n).all fun x=>dP 4 x&&argOK x)=true by decide+kernel) _ (in8 O.u1)) x hx)
theorem cF4(O:dA W){x:V}(hx:x∈bH0 W):dP 5 x=true∧argOK x=true:=
 Bool.and_eq_true_iff.mp (List.all_eq_true.mp (List.all_eq_true.mp (show([(3:Int),4,5,6,7,8,9,10].all fun n=>(cK5 n).all fun x=>dP 5 x&&argOK x)=true by decide+kernel) _ (in8 O.u1)) x hx)
theorem cT8(O:dA W){x y:V}(hb:base W x=some y):dP 4 y=true:=by
 have hB:=O.bB
 have hC:=O.bC
 unfold base at hb
 split at hb
 ·simp at hb;rw[←hb];rfl
 ·split at hb
  ·simp at hb;rcases hB with q |q<;>rw[←hb,q]<;>rfl
  ·split at hb
   ·simp at hb;rcases hC with q |q |q |q<;>rw[←hb,q]<;>rfl
   ·unfold i7 at hb
    repeat' split at hb
    all_goals first
     |(exact aN hb;done)
     |(simp at hb;rw[←hb];rfl)
theorem hH.w4(O:dA W){x u:V}(r:hH W x u)(h:dP 4 x=true):dP 4 u=true:=by
 induction r with
 |refl=>exact h
 | @step u v _ hv ih=>
  rcases List.mem_append.mp hv with hv |hv
  ·have hb:base W u=some v:=by
    induction q:base W u using Option.casesOn with
    |none=>rw[q]at hv;exact absurd hv List.not_mem_nil
    |some w=>rw[q]at hv;simp at hv;rw[hv]
   exact cT8 O hb
  ·exact jJ 3 _ (O.f3 _ _ hv)
noncomputable def bZ0 (σ:aD) (X:cX) (k:Nat) (n:Nat) (f:FM):Prop:=∀G:Prop,(∀(x:V),∀(t:V),∀(σ':aD),(f [.ref X.w,.int (k:Nat)] σ=some (.tup [x,t],σ'))→(cM σ σ')→(zZ x t)→G)→G
theorem bM7{n q:Nat}{h:Int}:(decide (((n+1:Nat):Int)>1)&&(!decide (h=0)&&(!decide (h=8)&&decide ((q:Int)>0))))=true↔0<n∧h≠0∧h≠8∧0<q:=by
 simp only[Bool.and_eq_true,decide_eq_true_eq,Bool.not_eq_true',decide_eq_false_iff_not]
 exact⟨fun q=>⟨Nat.lt_of_succ_lt_succ (Int.ofNat_lt.mp (show((1:Nat):Int)<((n+1:Nat):Int)from q.1)),q.2.1,q.2.2.1,Int.ofNat_lt.mp q.2.2.2⟩,fun q=>⟨Int.ofNat_lt.mpr (Nat.succ_lt_succ q.1),q.2.1,q.2.2.1,Int.ofNat_lt.mpr q.2.2.2⟩⟩
noncomputable def cI2 (W:Wd) (X:cX) (k:Nat) (x:V) (j:Nat) (u:V) (q:Nat):Env:=aZ (aZ (aZ (aZ (aZ (aZ (aZ (aZ (aZ (aZ (aZ (fun i=>[V.ref X.w,.int (k:Nat)][i]?) 2 tA) 3 tB) 4 (tP 7)) 5 (tP W.u1)) 6 (tm 69 [tA])) 7 (.tup (x9 W))) 8 x) 1 (.int (k/37:Nat))) 9 (.ref j)) 10 u) 1 (.int (q:Nat))
theorem cY0(R:fO σ kt X W)(O:dA W)(k:Nat){n:Nat}(hn:10≤n):
  bZ0 σ X k n (aL n .law_pair):=by
 obtain⟨m,rfl⟩:=jY hn rfl
 obtain⟨x,x1,x2⟩:=rL (l:=x9 W) (k:=37) (by decide) rfl k
 obtain⟨dx,ax⟩:=bP8 O x2
 have wx:wf x=true:=jV (by decide) dx
 refine(cH6 R O wx (n:=m) (bH hn rfl)) _ fun j l σ1 u1 u2 u3 u4 u5 u6=> ?_
 have hlp:0<l.length:=List.length_pos_of_mem ((u5 x).mpr .refl)
 obtain⟨u,y1,y2⟩:=rL hlp rfl (k/37)
 have ru:=(u5 u).mp y2
 have wu:=ru.wf O wx
 have du:=ru.w4 O dx
 have au:=ru.argOK O ax
 have hlt:=Nat.mod_lt (k/37) hlp
 have m37:∀i:Nat,i%37<1000:=fun i=>Nat.lt_trans (Nat.mod_lt _ (by decide)) (by decide)
 have hA9:∀{ρ:Env},ρ 9=some (.ref j)→cH (aA 9) ρ σ1=some (.int (l.length:Nat),σ1):=fun h=>uW (aH h) u3 (d0 u6 rfl)
 have hal:(bY u).length≤1000:=by
  rcases cR wu with⟨n,rfl,_⟩ |⟨hh,args,rfl,_,ha,_⟩
  ·exact Nat.le_of_ble_eq_true rfl
  ·exact Nat.le_trans (qL ha) (by decide)
 generalize hq:k/37/l.length=q
 have pre:∀{v:V} {σ':aD},fN _ (cI2 W X k x j u q) σ1 v σ'→aL (m+1) .law_pair [.ref X.w,.int (k:Nat)] σ=some (v,σ'):=fun h=>
  cL (bH hn rfl) (fun _=>rfl) rfl (cQ rfl (cQ rfl (cQ rfl (cQ (dH3 R rfl) (cQ rfl (cQ (u:= .tup (x9 W)) rfl (cQ (bE (aH rfl) (iG (aH rfl) (k:=37) rfl (by decide)) (fC x1 (m37 _)))
   (cQ (lW (aH rfl) (k:=37) rfl (by decide) (by decide)) (cQ (aO (eE rfl rfl) u1) (cQ (bE (aH rfl) (iG (aH rfl) (hA9 rfl) hlp) (rV u3 y1 (nT3 hlt u6 rfl))) (cQ (lW (aH rfl) (hA9 rfl) hlp (sA u6 rfl)) (hq▸h))))))))))))
 have hT:=gT (ρ:=cI2 W X k x j u q) (cV (q:= .gt) (a:=cH (aA 10)) (b:=aB 1) (kG (aH rfl) (aX7 wu hal σ1)) rfl rfl) (gT (nI (a:=aG (aA 10) (aB 0)) (b:=aB 0) (bE (aH rfl) rfl (oR wu)) rfl) (gT (nI (a:=aG (aA 10) (aB 0)) (b:=aB 8) (bE (aH rfl) rfl (oR wu)) rfl) (cV (q:= .gt) (a:=aT .mod (aA 1) (aB 4)) (b:=aB 0) (iG (aH rfl) (k:=4) rfl (by decide)) rfl rfl)))
 rcases Bool.eq_false_or_eq_true (decide ((((bY u).length+1:Nat):Int)>1)&&(!decide (aQ u=0)&&(!decide (aQ u=8)&&decide (((q%4:Nat):Int)>0))))with hc |hc
 ·obtain⟨h1,h2,h3,h4⟩:=bM7.mp hc
  obtain⟨t,b1,b2,b3⟩:=cY7 (σ:=σ1) du au (List.length_pos_iff.mp h1) h2 h3 (q/4) (n:=m) (bH hn rfl)
  exact(fun _ k=>k x t σ1 (pre (cU hT hc (bA (fK (aU (aH rfl) (aU (aO (aU (aH rfl) (aU (lW (aH rfl) (k:=4) rfl (by decide) (by decide)) rfl)) b1) rfl)))))) u2 ⟨jJ 4 x dx,ax,b2,b3⟩)
 ·obtain⟨t,t1,t2⟩:=rL (l:=bH0 W) (k:=37) (by decide) rfl (q/4)
  obtain⟨dt,at_⟩:=cF4 O t2
  exact(fun _ k=>k x t σ1 (pre (bN hT hc (cQ (u:= .tup (bH0 W)) rfl (bA (fK (aU (aH rfl) (aU (bE (aH rfl) (iG (lW (aH rfl) (k:=4) rfl (by decide) (by decide)) (k:=37) rfl (by decide)) (fC t1 (m37 _))) rfl))))))) u2 ⟨jJ 4 x dx,ax,dt,at_⟩)
end
end
noncomputable def mY (n:Nat) (f:Nat→V):List V:=(List.range n).map f
theorem tI(n:Nat)(f:Nat→V):mY (n+1) f=mY n f++[f n]:=by simp[mY,List.range_succ]
noncomputable def jO (i:Nat):V:= .tup [.int 1,.int i]
noncomputable def qC (n:Nat):List (V×V):=(List.range n).map fun i=>(jO i,V.int i)
theorem cB6(n:Nat):qC (n+1)=qC n++[(jO n,V.int n)]:=by simp[qC,List.range_succ]
theorem cB7(n:Nat):f9 (qC n):=by
 intro e he
 simp[qC]at he
 obtain⟨i,_,rfl⟩:=he
 rfl
theorem cS2(n:Nat):dG (qC n) (jO n) (.int n)=qC (n+1):=by
 rw[kO,cB6]
 intro e he
 simp[qC]at he
 obtain⟨i,hi,rfl⟩:=he
 intro h
 simp[jO]at h
 omega
noncomputable def jM (z n:Nat):List bF:=[
 .ns [("rows",.ref (z+2)),("index",.ref (z+3)),("depths",.ref (z+4)),("weights",.ref (z+5)),("opens",.ref (z+6))],
 .inst .table z,.list (mY n jO),.dict (qC n),.list (mY n fun _=> .int 1),.list (mY n fun _=> .int 1),.list (mY n fun _=> .int 0)]
noncomputable def bA6:SM:=aC (aV 2 (aE [(aX pA),(aA 1)])) (aC (cG (b7 (aR (aA 0) "rows") (aA 2))) (aC (bP (aR (aA 0) "index") (aA 2) (aA 1)) (aC (cG (b7 (aR (aA 0) "depths") (aB 1))) (aC (cG (b7 (aR (aA 0) "weights") (aB 1))) (aC (cG (b7 (aR (aA 0) "opens") (aB 0))) aF)))))
theorem aF2(f:Nat→V)(n:Nat):(mY n f).length=n:=(List.length_map ..).trans List.length_range
theorem bW1(σ:aD)(n:Nat)(hn:n<100)(ρ:Env)(r0:ρ 0=some (.ref (σ.length+1)))(r1:ρ 1=some (.int n)):
  bA6 ρ (σ++jM σ.length n)=some (.next,aZ ρ 2 (jO n),σ++jM σ.length (n+1)):=by
 have h5:n≤100000:=bD1 hn rfl
 have hd:fM (qC n) (jO n)=true:=eX (cB7 n) rfl
 have hx:(qC n).length=n:=(List.length_map ..).trans List.length_range
 have s0:aV 2 (aE [(aX pA),(aA 1)]) ρ (σ++jM σ.length n)=some (.next,aZ ρ 2 (jO n),σ++jM σ.length n):=eM (fK (aU rfl (aU (aH r1) rfl)))
 have a0:aZ ρ 2 (jO n) 0=some (.ref (σ.length+1)):=r0
 have a1:aZ ρ 2 (jO n) 1=some (.int n):=r1
 have a2:aZ ρ 2 (jO n) 2=some (jO n):=rfl
 have at0:∀{C:aD} {x:String} {fs:List (String×V)} {v:V},C[1]? =some (.inst .table σ.length)→C[0]? =some (.ns fs)→iK fs x=some v→aR (aA 0) x (aZ ρ 2 (jO n)) (σ++C)=some (v,σ++C):=fun h1 h2 h3=>cU2 (i:=1) (d:=0) (aH a0) h1 h2 h3
 have e:jM σ.length (n+1)=[
  .ns [("rows",.ref (σ.length+2)),("index",.ref (σ.length+3)),("depths",.ref (σ.length+4)),("weights",.ref (σ.length+5)),("opens",.ref (σ.length+6))],
  .inst .table σ.length,.list (mY n jO++[jO n]),.dict (dG (qC n) (jO n) (.int n)),.list (mY n (fun _=> .int 1)++[.int 1]),.list (mY n (fun _=> .int 1)++[.int 1]),.list (mY n (fun _=> .int 0)++[.int 0])]:=by
  rw[jM,tI,tI,tI,cS2]
 rw[e]
 exact bI s0 (bI (uP (i:=2) (at0 rfl rfl rfl) (aH a2) rfl (Nat.le_trans (Nat.le_of_eq (aF2 ..)) h5)) (bI (oY (i:=3) (aH a1) (at0 rfl rfl rfl) (aH a2) rfl hd (Nat.ble_eq_true_of_le (Nat.le_trans (Nat.le_of_eq hx) h5)) rfl)
  (bI (uP (i:=4) (at0 rfl rfl rfl) rfl rfl (Nat.le_trans (Nat.le_of_eq (aF2 ..)) h5)) (bI (uP (i:=5) (at0 rfl rfl rfl) rfl rfl (Nat.le_trans (Nat.le_of_eq (aF2 ..)) h5)) (bI (uP (i:=6) (at0 rfl rfl rfl) rfl rfl (Nat.le_trans (Nat.le_of_eq (aF2 ..)) h5)) rfl)))))
theorem aH6(σ:aD)(all:List V):∀(m k:Nat) (ρ:Env),k+m=16→ρ 0=some (.ref (σ.length+1))→
  ∃ρ':Env,dM 1 bA6 .fix all ((List.range' k m).map fun(n:Nat)=>V.int n) ρ (σ++jM σ.length k)=some (.next,ρ',σ++jM σ.length 16)
 |0,k,ρ,h,_=>⟨ρ,by
  have:k=16:=dP0 h
  subst this;rfl⟩
 |m+1,k,ρ,h,h0=>by
  obtain⟨ρ',h'⟩:=aH6 σ all m (k+1) (aZ (aZ ρ 1 (.int k)) 2 (jO k)) (nR3 h) h0
  refine⟨ρ',?_⟩
  rw[List.range'_succ,List.map_cons]
  simp only[dM,bW1 σ k (sA (kD (Nat.le_of_eq h)) rfl) (aZ ρ 1 (.int k)) h0 rfl,eS,if_true,h']
theorem cR5(σ:aD)(ρ:Env):kN .table (mkF 1 (jG fun _ _ _=>none)) [] ρ σ=some (.ref (σ.length+1),σ++jM σ.length 16):=by
 obtain⟨ρ',hl⟩:=aH6 σ (fQ 0 16) 16 0 (fun i=>[V.ref (σ.length+1)][i]?) rfl rfl
 have hf:(fH 1 (aB 0) (aX sG) bA6) (fun i=>[V.ref (σ.length+1)][i]?) (σ++jM σ.length 0)=some (.next,ρ',σ++jM σ.length 16):=by
  simp only[fH,aB,aX,sG]
  exact hl
 unfold bA6 at hf
 have hb:jG (fun _ _ _=>none) (fun i=>[V.ref (σ.length+1)][i]?) (σ++[.ns [],.inst .table σ.length])=some (.next,ρ',σ++jM σ.length 16):=by
  unfold jG
  exact bI (eT (C:=[.ns [],.inst .table σ.length]) rfl (fun _=>rfl) rfl rfl rfl rfl) (bI (eT rfl (fun _=>rfl) rfl rfl rfl rfl) (bI (eT rfl (fun _=>rfl) rfl rfl rfl rfl) (bI (eT rfl (fun _=>rfl) rfl rfl rfl rfl) (bI (eT rfl (fun _=>rfl) rfl rfl rfl rfl) (bI hf rfl)))))
 exact aK6 rfl (vC rfl hb)
noncomputable def xZ (z:Nat) (k:V):List bF:=[
 .ns [("kt",k),("bases",.ref (z+2)),("ifaces",.ref (z+3)),("sorts",.ref (z+4)),("variances",.ref (z+5)),("unders",.ref (z+6)),("bounds",.ref (z+7)),("gflags",.ref (z+8)),("news",.ref (z+9))],.inst .host z,.dict [],.dict [],.dict [],.dict [],.dict [],.dict [],.dict [],.dict []]
theorem cA5{σ0 σ:aD}{k:V}{e:EM}{ρ:Env}(he:e ρ σ0=some (k,σ)):kN .host (mkF 2 (mA fun _ _ _=>none)) [e] ρ σ0=some (.ref (σ.length+1),σ++xZ σ.length k):=
 aK6 (aU he rfl) (vC rfl (bI (aW3 (C:=[.ns [],.inst .host σ.length]) (fs:=[]) (D:=[.ns [("kt",k)],.inst .host σ.length]) rfl rfl rfl rfl rfl rfl) (bI (eT (D:=[.ns [("kt",k),("bases",.ref (σ.length+2))],.inst .host σ.length,.dict []]) rfl (fun _=>rfl) rfl rfl rfl rfl) (bI (eT (D:=[.ns [("kt",k),("bases",.ref (σ.length+2)),("ifaces",.ref (σ.length+3))],.inst .host σ.length,.dict [],.dict []]) rfl (fun _=>rfl) rfl rfl rfl rfl) (bI (eT (D:=[.ns [("kt",k),("bases",.ref (σ.length+2)),("ifaces",.ref (σ.length+3)),("sorts",.ref (σ.length+4))],.inst .host σ.length,.dict [],.dict [],.dict []]) rfl (fun _=>rfl) rfl rfl rfl rfl) (bI (eT (D:=[.ns [("kt",k),("bases",.ref (σ.length+2)),("ifaces",.ref (σ.length+3)),("sorts",.ref (σ.length+4)),("variances",.ref (σ.length+5))],.inst .host σ.length,.dict [],.dict [],.dict [],.dict []]) rfl (fun _=>rfl) rfl rfl rfl rfl) (bI (eT (D:=[.ns [("kt",k),("bases",.ref (σ.length+2)),("ifaces",.ref (σ.length+3)),("sorts",.ref (σ.length+4)),("variances",.ref (σ.length+5)),("unders",.ref (σ.length+6))],.inst .host σ.length,.dict [],.dict [],.dict [],.dict [],.dict []]) rfl (fun _=>rfl) rfl rfl rfl rfl) (bI (eT (D:=[.ns [("kt",k),("bases",.ref (σ.length+2)),("ifaces",.ref (σ.length+3)),("sorts",.ref (σ.length+4)),("variances",.ref (σ.length+5)),("unders",.ref (σ.length+6)),("bounds",.ref (σ.length+7))],.inst .host σ.length,.dict [],.dict [],.dict [],.dict [],.dict [],.dict []]) rfl (fun _=>rfl) rfl rfl rfl rfl) (bI (eT (D:=[.ns [("kt",k),("bases",.ref (σ.length+2)),("ifaces",.ref (σ.length+3)),("sorts",.ref (σ.length+4)),("variances",.ref (σ.length+5)),("unders",.ref (σ.length+6)),("bounds",.ref (σ.length+7)),("gflags",.ref (σ.length+8))],.inst .host σ.length,.dict [],.dict [],.dict [],.dict [],.dict [],.dict [],.dict []]) rfl (fun _=>rfl) rfl rfl rfl rfl) (bI (eT (D:=[.ns [("kt",k),("bases",.ref (σ.length+2)),("ifaces",.ref (σ.length+3)),("sorts",.ref (σ.length+4)),("variances",.ref (σ.length+5)),("unders",.ref (σ.length+6)),("bounds",.ref (σ.length+7)),("gflags",.ref (σ.length+8)),("news",.ref (σ.length+9))],.inst .host σ.length,.dict [],.dict [],.dict [],.dict [],.dict [],.dict [],.dict [],.dict []]) rfl (fun _=>rfl) rfl rfl rfl rfl) rfl))))))))))
theorem dO0{a b:TM}{ρ:Env}{σ:aD}{p q:Bool}(h:a ρ σ=some (p,σ))(k:b ρ σ=some (q,σ)):eJ a b ρ σ=some (p&&q,σ):=by
 cases p<;>simp only[eJ,h,k,Bool.true_and,Bool.false_and]
theorem dQ5{a b:TM}{ρ:Env}{σ:aD}{p q:Bool}(h:a ρ σ=some (p,σ))(k:b ρ σ=some (q,σ)):dT a b ρ σ=some (p||q,σ):=by
 cases p<;>simp only[dT,h,k,Bool.true_or,Bool.false_or]
theorem cQ5{e:EM}{ρ:Env}{v:V}{σ σ1:aD}(h:e ρ σ=some (v,σ1)):aW e ρ σ=some (.ret v,ρ,σ1):=by simp only[aW,h]
theorem jB{i:Nat}{e:EM}{ρ:Env}{v:V}{σ σ1:aD}(h:e ρ σ=some (v,σ1)):aV i e ρ σ=some (.next,aZ ρ i v,σ1):=by simp only[aV,h]
theorem aJ3{e:EM}{ρ:Env}{v:V}{σ σ1:aD}(h:e ρ σ=some (v,σ1)):cG e ρ σ=some (.next,ρ,σ1):=by simp only[cG,h]
theorem dQ8{o i:EM}{ρ:Env}{x y v:V}{σ σ1 σ2:aD}(h1:o ρ σ=some (x,σ1))(h2:i ρ σ1=some (y,σ2))(h3:gH x y σ2=some v):aG o i ρ σ=some (v,σ2):=by simp only[aG,h1,h2,h3]
theorem cD2{x:V}{d:Nat}(h:d<8):((vB x).map bF.list)[d]? =some (.list ((vB x).getD d [])):=by
 have h':d<(vB x).length:=h
 rw[List.getElem?_map,List.getD_eq_getElem?_getD,List.getElem?_eq_getElem h'];rfl
inductive EvL (ρ:Env):List EM→List (List V)→Prop
 |nil:EvL ρ [] []
 |cons {es r:List EM} {vs:List V} {l:List (List V)} (h:∀σ,dO es ρ σ=some (vs,σ)) (k:EvL ρ r l):EvL ρ (cF es::r) (vs::l)
theorem EvL.run{ρ:Env}{es:List EM}{ls:List (List V)}(h:EvL ρ es ls):∀σ:aD,dO es ρ σ=some ((List.range' σ.length ls.length).map .ref,σ++ls.map .list):=by
 induction h with
 |nil=>intro σ;rw[List.map_nil,List.append_nil];rfl
 |cons h _ ih=>
  intro σ
  refine(aU (rU (h σ)) (ih _)).trans ?_
  rw[List.length_append,List.append_assoc]
  rfl
noncomputable def aI6 (σ:aD) (x:V) (d:Nat) (r:Option (V×aD)):Prop:=∀G:Prop,(∀(j:Nat),∀(e:aD),∀(h:r=some (.ref j,σ++e)),∀(lo:σ.length≤j),∀(g:(σ++e)[j]? =some (.list (j5 x d))),G)→G
theorem cD3{σ:aD}{x:V}:∀d,d<8→gH (.tup [.ref σ.length,.ref (σ.length+1),.ref (σ.length+2),.ref (σ.length+3),.ref (σ.length+4),.ref (σ.length+5),.ref (σ.length+6),.ref (σ.length+7)]) (.int (d:Nat)) (σ++(vB x).map .list)=some (.ref (σ.length+d))
 |0,_=>rfl
 |1,_=>rfl
 |2,_=>rfl
 |3,_=>rfl
 |4,_=>rfl
 |5,_=>rfl
 |6,_=>rfl
 |7,_=>rfl
 |n+8,h=>absurd h (by omega)
theorem cY6{σ:aD}{x:V}(wx:wf x=true)(d:Nat)(hd:d<8){n:Nat}(hn:3≤n):aI6 σ x d (aL n .law_face [x,.int (d:Nat)] σ):=by
 have k1:sS x (.tup [tm 68 [],tm 69 [tA]]) σ=some (x.beq (tm 68 [])||x.beq (tm 69 [tA])):=by
  rw[V.beq_comm x,V.beq_comm x]
  refine(y5 wx fun y hy=> ?_).trans (by rw[List.any_cons,List.any_cons,List.any_nil,Bool.or_false])
  rcases List.mem_cons.mp hy with rfl |hy
  ·rfl
  ·rw[List.mem_singleton.mp hy];rfl
 have k2:∀{t:V},wf t=true→uG x t=some (x.beq t):=fun wt=>oS wx wt
 have c1:∀{ρ:Env},ρ 0=some x→ρ 1=some (.int (d:Nat))→(dT (eJ (aK .eq (aA 1) (aB 2)) (aK .isIn (aA 0) (aE [(aE [(aB 68)]),(aE [(aB 69),(aE [(aB 64)])])]))) (eJ (aK .eq (aA 1) (aB 3)) (aK .eq (aA 0) (aE [(aB 69),(aE [(aB 64)])])))) ρ σ=some (decide ((d:Int)=2)&&(x.beq (tm 68 [])||x.beq (tm 69 [tA]))||decide ((d:Int)=3)&&x.beq (tm 69 [tA]),σ):=fun p0 p1=>
  dW (gT (bQ (aH p1) rfl) (cV (q:= .isIn) (aH p0) rfl k1)) (gT (bQ (aH p1) rfl) (cV (q:= .eq) (aH p0) rfl (k2 (t:=tm 69 [tA]) rfl)))
 have c2:∀{ρ:Env},ρ 0=some x→ρ 1=some (.int (d:Nat))→(eJ (aK .eq (aA 1) (aB 4)) (aK .eq (aA 0) (aE [(aB 66)]))) ρ σ=some (decide ((d:Int)=4)&&x.beq tC,σ):=fun p0 p1=>
  gT (bQ (aH p1) rfl) (cV (q:= .eq) (aH p0) rfl (k2 (t:=tC) rfl))
 have dI:∀k:Nat,decide ((d:Int)=(k:Nat))=decide (d=k):=fun k=>by rw[decide_eq_decide];exact⟨Int.ofNat.inj,fun e=>by rw[e]⟩
 have h1:((d=2∧(x.beq (tm 68 [])∨x.beq (tm 69 [tA])))∨(d=3∧x.beq (tm 69 [tA])))↔(decide ((d:Int)=2)&&(x.beq (tm 68 [])||x.beq (tm 69 [tA]))||decide ((d:Int)=3)&&x.beq (tm 69 [tA]))=true:=by
  rw[show((2:Int)=(2:Nat))from rfl,show((3:Int)=(3:Nat))from rfl,dI,dI]
  simp only[Bool.or_eq_true,Bool.and_eq_true,decide_eq_true_eq]
 have h2:(d=4∧x.beq tC)↔(decide ((d:Int)=4)&&x.beq tC)=true:=by
  rw[show((4:Int)=(4:Nat))from rfl,dI]
  simp only[Bool.and_eq_true,decide_eq_true_eq]
 have fin:∀{r:Option (V×aD)} {j:Nat} {e:aD} {l:List V},r=some (.ref j,σ++e)→σ.length≤j→(σ++e)[j]? =some (.list l)→j5 x d=l→aI6 σ x d r:=fun a b c e=>(fun _ k=>k _ _ a b (e▸c))
 by_cases q1:((d=2∧(x.beq (tm 68 [])∨x.beq (tm 69 [tA])))∨(d=3∧x.beq (tm 69 [tA])))
 ·exact fin (iM hn rfl (fun _=>rfl) rfl fun m hm=>cU (c1 rfl rfl) (h1.mp q1) (bA rfl)) (Nat.le_refl _) gW (if_pos q1)
 have q1':=Bool.eq_false_iff.mpr (mt h1.mpr q1)
 by_cases q2:d=4∧x.beq tC
 ·exact fin (iM hn rfl (fun _=>rfl) rfl fun m hm=>bN (c1 rfl rfl) q1' (cU (c2 rfl rfl) (h2.mp q2) (bA rfl))) (Nat.le_refl _) gW ((if_neg q1).trans (if_pos q2))
 refine fin (iM hn rfl (fun _=>rfl) rfl fun m hm=>bN (c1 rfl rfl) q1' (bN (c2 rfl rfl) (Bool.eq_false_iff.mpr (mt h2.mpr q2)) (cQ rfl (cQ rfl (bA (bE (u:= .tup [.ref σ.length,.ref (σ.length+1),.ref (σ.length+2),.ref (σ.length+3),.ref (σ.length+4),.ref (σ.length+5),.ref (σ.length+6),.ref (σ.length+7)]) (σ1:=σ++(vB x).map .list) (fK ?_) rfl (cD3 d hd))))))) (Nat.le_add_right _ _) ?_ ((if_neg q1).trans (if_neg q2))
 ·exact EvL.run (.cons (fun _=>rfl) (.cons (fun _=>rfl) (.cons (fun _=>rfl) (.cons (fun _=>rfl) (.cons (fun _=>rfl) (.cons (fun _=>rfl) (.cons (fun _=>rfl) (.cons (fun _=>rfl) .nil)))))))) σ
 ·rw[List.getElem?_append_right (Nat.le_add_right _ _),Nat.add_sub_cancel_left]
  exact cD2 hd
noncomputable def iV (σ:aD) (lo f:Nat):List (V×V)→List (V×List V)→Prop
 |[],[]=>True
 |e::es,p::fl=>(e.1=p.1∧∃j:Nat,e.2= .ref j∧σ[j]? =some (.list p.2)∧lo≤j∧j≠f)∧iV σ lo f es fl
 |_,_=>False
noncomputable def iH (fl:List (V×List V)) (x:V) (l:List V):List (V×List V):=match fl with
 |[]=>[(x,l)]
 |p::r=>if V.beq p.1 x then(p.1,l)::r else p::iH r x l
theorem iV.ind{σ:aD}{lo f:Nat}{M:List (V×V)→List (V×List V)→Prop}(n:M [] [])(c:∀{e:V×V} {p:V×List V} {es:List (V×V)} {fl:List (V×List V)},(e.1=p.1∧∃j:Nat,e.2= .ref j∧σ[j]? =some (.list p.2)∧lo≤j∧j≠f)→iV σ lo f es fl→M es fl→M (e::es) (p::fl)):
  ∀{es:List (V×V)} {fl:List (V×List V)},iV σ lo f es fl→M es fl:=by
 intro es
 induction es with
 |nil=>intro fl k;induction fl using List.casesOn with
  |nil=>exact n
  |cons=>exact k.elim
 |cons e es ih=>intro fl k;induction fl using List.casesOn with
  |nil=>exact k.elim
  |cons p fl=>exact c k.1 k.2 (ih k.2)
theorem iV.mono{σ σ':aD}{lo f:Nat}(h:∀(j:Nat) (o:bF),lo≤j→j≠f→σ[j]? =some o→σ'[j]? =some o){es:List (V×V)}{fl:List (V×List V)}(k:iV σ lo f es fl):iV σ' lo f es fl:=
 iV.ind (M:=iV σ' lo f) trivial (fun a _ ih=>⟨⟨a.1,a.2.imp fun j q=>⟨q.1,h j _ q.2.2.1 q.2.2.2 q.2.1,q.2.2⟩⟩,ih⟩) k
theorem iV.put{σ:aD}{lo f:Nat}{x:V}{j:Nat}{l:List V}(hj:σ[j]? =some (.list l))(h1:lo≤j)(h2:j≠f){es:List (V×V)}{fl:List (V×List V)}(k:iV σ lo f es fl):iV σ lo f (dG es x (.ref j)) (iH fl x l):=
 iV.ind (M:=fun es fl=>iV σ lo f (dG es x (.ref j)) (iH fl x l)) ⟨⟨rfl,j,rfl,hj,h1,h2⟩,trivial⟩ (fun {e p es fl} a k ih=>by
  show iV σ lo f (if V.beq e.1 x=true then(e.1,.ref j)::es else e::dG es x (.ref j)) (if V.beq p.1 x=true then(p.1,l)::fl else p::iH fl x l)
  rw[←a.1]
  cases V.beq e.1 x with
  |true=>exact⟨⟨rfl,j,rfl,hj,h1,h2⟩,k⟩
  |false=>exact⟨a,ih⟩) k
theorem iV.keys{σ:aD}{lo f:Nat}{es:List (V×V)}{fl:List (V×List V)}(k:iV σ lo f es fl):es.map (·.1)=fl.map (·.1):=
 iV.ind (M:=fun es fl=>es.map (·.1)=fl.map (·.1)) rfl (fun a _ ih=>by rw[List.map_cons,List.map_cons,ih,a.1]) k
theorem iV.look{σ:aD}{lo f:Nat}{x:V}{es:List (V×V)}{fl:List (V×List V)}(k:iV σ lo f es fl):(∀l,dD fl x=some l→∃j:Nat,bW es x=some (.ref j)∧σ[j]? =some (.list l)∧lo≤j∧j≠f)∧(dD fl x=none→bW es x=none):=
 iV.ind (M:=fun es fl=>(∀l,dD fl x=some l→∃j:Nat,bW es x=some (.ref j)∧σ[j]? =some (.list l)∧lo≤j∧j≠f)∧(dD fl x=none→bW es x=none)) ⟨fun l h=>aN h,fun _=>rfl⟩ (fun {e p es fl} a _ ih=>by
  have hv:dD (p::fl) x=if V.beq e.1 x=true then some p.2 else dD fl x:=by rw[a.1];rfl
  have hd:bW (e::es) x=if V.beq e.1 x=true then some e.2 else bW es x:=rfl
  rw[hv,hd]
  cases V.beq e.1 x with
  |true=>exact⟨fun l h=>a.2.imp fun j q=>⟨congrArg some q.1,Option.some.inj h▸q.2.1,q.2.2⟩,fun h=>aF6 h⟩
  |false=>exact ih) k
theorem aC5{es:List (V×V)}{x v:V}(h:f9 es)(hx:x.kind=2):f9 (dG es x v):=by
 induction es with
 |nil=>intro e he;simp[dG]at he;rw[he];exact hx
 |cons e es ih=>
  unfold dG
  split
  ·intro e' he
   rcases List.mem_cons.mp he with rfl |he
   ·exact h e (.head _)
   ·exact h e' (.tail _ he)
  ·intro e' he
   rcases List.mem_cons.mp he with rfl |he
   ·exact h e' (.head _)
   ·exact ih (fun z hz=>h z (.tail _ hz)) e' he
theorem aO0(es:List (V×V))(x v:V):(dG es x v).length≤es.length+1:=by
 induction es with
 |nil=>simp[dG]
 |cons e es ih=>
  unfold dG
  split
  ·simp
  ·simp;exact ih
noncomputable abbrev mD (kt:Nat) (X:cX) (num:V):List (V×V):=[(.str "kt",.ref kt),(.str "made",.ref X.m),(.str "num",num),(.str "under",.ref X.u),(.str "ways",.ref X.y),(.str "base",.ref X.b),(.str "faces",.ref X.f)]
theorem sX{σ:aD}{kt:Nat}{X:cX}{num:V}(Rw:σ[X.w]? =some (.dict (mD kt X num))){o:EM}{ρ:Env}(he:o ρ σ=some (.ref X.w,σ)):
  aG o (bU "kt") ρ σ=some (.ref kt,σ)∧aG o (bU "base") ρ σ=some (.ref X.b,σ)∧aG o (bU "faces") ρ σ=some (.ref X.f,σ)∧aG o (bU "under") ρ σ=some (.ref X.u,σ)∧aG o (bU "num") ρ σ=some (num,σ):=by
 have w:∀{s:String} {v:V},fM (mD kt X num) (.str s)=true→bW (mD kt X num) (.str s)=some v→aG o (bU s) ρ σ=some (v,σ):=fun d l=>bE he rfl (kC Rw d l)
 exact⟨w rfl rfl,w rfl rfl,w rfl rfl,w rfl rfl,w rfl rfl⟩
noncomputable def uF (fl:List (V×List V)):List V→Nat→List (V×List V)
 |[],_=>fl
 |x::l,b=>uF (iH fl x (j5 x (b%8))) l (b/8)
noncomputable def sH (m s:Nat):SM:=aC (bP (aG (aA 7) (bU "faces")) (aA 8) (aJ (aL m .law_face) [(aA 8),(aT .mod (aA s) (aB 8))])) (aC (aV s (aT .fdiv (aA s) (aB 8))) aF)
noncomputable def aT7 (m:Nat) (s:Nat) (lo:Nat) (X:cX) (all:List V) (l:List V) (b:Nat) (ρ:Env) (σ:aD) (es:List (V×V)) (fl:List (V×List V)):Prop:=∀G:Prop,(∀(ρ':Env),∀(σ':aD),∀(es':List (V×V)),(dM 8 (sH m s) .fix all l ρ σ=some (.next,ρ',σ'))→((∀j,j≠8→j≠s→ρ' j=ρ j))→(cA [X.f] σ σ')→(σ'[X.f]? =some (.dict es'))→(f9 es')→(iV σ' lo X.f es' (uF fl l b))→(es'.length≤es.length+l.length)→G)→G
theorem aC3{m s kt lo:Nat}{X:cX}{num:V}(hm:3≤m)(hs:s=3∨s=4)(hwf:X.w≠X.f)(all:List V):∀(l:List V) (b:Nat) (ρ:Env) (σ:aD) (es:List (V×V)) (fl:List (V×List V)),
  (∀x∈l,wf x=true)→ρ 7=some (.ref X.w)→ρ s=some (.int (b:Nat))→σ[X.w]? =some (.dict (mD kt X num))→σ[X.f]? =some (.dict es)→f9 es→iV σ lo X.f es fl→es.length+l.length≤1000→lo≤σ.length→
  aT7 m s lo X all l b ρ σ es fl:=by
 intro l
 induction l with
 |nil=>intro b ρ σ es fl _ _ _ _ hf hk hF _ _;exact(fun _ k=>k ρ σ es rfl (fun _ _ _=>rfl) .refl hf hk hF xQ)
 |cons x l ih=>
  intro b ρ σ es fl hw r7 rs Rw Rf hk hF hlen hlo
  have wx:=hw x (.head _)
  refine(cY6 (σ:=σ) wx (b%8) (Nat.mod_lt _ (eC rfl)) hm) _ fun j e f1 f2 f3=> ?_
  let ρ1:Env:=aZ ρ 8 x
  have q7:ρ1 7=some (.ref X.w):=r7
  have q8:ρ1 8=some x:=rfl
  have qs:ρ1 s=some (.int (b:Nat)):=by rcases hs with rfl |rfl<;>exact rs
  have hc:aJ (aL m .law_face) [(aA 8),(aT .mod (aA s) (aB 8))] ρ1 σ=some (.ref j,σ++e):=
   (iY (bR (bK q8) (bR (iG (bK qs) (gV 8 ρ1) (eC rfl)) eG))).trans f1
  have Rw':(σ++e)[X.w]? =some (.dict (mD kt X num)):=cZ Rw
  have Rf':(σ++e)[X.f]? =some (.dict es):=cZ Rf
  have hsub:=(sX Rw' (bK (σ:=σ++e) q7)).2.2.1
  have hjf:j≠X.f:=by have:=eV Rf;exact tO (Nat.lt_of_lt_of_le this f2)
  have hd:fM es x=true:=eX hk (iO wx)
  have h5:es.length≤100000:=nM3 hlen rfl
  let σ2:aD:=(σ++e).set X.f (.dict (dG es x (.ref j)))
  have e1:(bP (aG (aA 7) (bU "faces")) (aA 8) (aJ (aL m .law_face) [(aA 8),(aT .mod (aA s) (aB 8))])) ρ1 σ=some (.next,ρ1,σ2):=by
   simp only[bP,hc,hsub,bK q8,Rf',hd,decide_eq_true h5,Bool.and_self,if_true];rfl
  have e2:(aV s (aT .fdiv (aA s) (aB 8))) ρ1 σ2=some (.next,aZ ρ1 s (.int (b/8:Nat)),σ2):=by
   have h:aT .fdiv (aA s) (aB 8) ρ1 σ2=some (.int (b/8:Nat),σ2):=lW (bK qs) (gV 8 ρ1) (eC rfl) (eC rfl)
   simp only[aV,h]
  have K1:cA [X.f] σ σ2:=cA.trans .app (.set (.head _))
  have hb:sH m s ρ1 σ=some (.next,aZ ρ1 s (.int (b/8:Nat)),σ2):=by
   unfold sH
   rw[bJ e1,bJ e2];rfl
  have F2:iV σ2 lo X.f es fl:=hF.mono fun i o _ h3 h4=>K1.2 i o (dX h3 j7) h4
  have hj2:σ2[j]? =some (.list (j5 x (b%8))):=by simp only[σ2];rw[a9 (fun q=>hjf q.symm)];exact f3
  have hsne:s≠7∧s≠8:=by omega
  refine(ih (b/8) (aZ ρ1 s (.int (b/8:Nat))) σ2 (dG es x (.ref j)) (iH fl x (j5 x (b%8))) (fun y hy=>hw y (.tail _ hy))
   (by simp[aZ,hsne.1.symm,q7]) (by simp[aZ]) (by simp only[σ2];rw[a9 hwf.symm];exact Rw') (cO Rf') (aC5 hk (iO wx)) (F2.put hj2 (Nat.le_trans hlo f2) hjf)
   (by have:=aO0 es x (.ref j);simp at hlen;omega) (by have:=K1.1;exact Nat.le_trans hlo this)) _ fun ρ' σ' es' g1 g2 g3 g4 g5 g6 g7=> ?_
  refine(fun _ k=>k ρ' σ' es' ?_ (fun i h1 h2=> ?_) (K1.trans g3) g4 g5 g6 (by have:=aO0 es x (.ref j);simp;exact nM8 this g7))
  ·simp only[dM]
   rw[show aZ ρ 8 x=ρ1 from rfl,hb]
   exact g1
  ·rw[g2 i h1 h2];simp[ρ1,aZ,h1,h2]
noncomputable def x7:List (V×List V):=[(tm 72 [tA],[tm 69 [tA]]),(tm 72 [tB],[tm 69 [tB]])]
noncomputable def vS (u:V):List V:=[tA,tB,tC,tm 73 [],tm 75 [],u]
noncomputable def xU:List V:=[tm 2 [],tm 68 [],tm 5 [],tm 74 [tP 7],tm 69 [tA],tm 3 []]
noncomputable def sU (u:V) (b c:Nat):List (V×List V):=uF (uF x7 (vS u) b) xU c
noncomputable def flW (u:V) (b c:Nat):List (V×List V):=iH (sU u b c) u (((dD (sU u b c) u).getD [])++[tm 69 [u]])
noncomputable def nu (k:Nat):Int:=3+(k%8:Nat)
noncomputable def i9 (a b c:Nat):Wd where
 w69:=(a/8%3:Nat)
 wa:=(a/24%3:Nat)
 wb:=(a/72%3:Nat)
 w71:=(a/216%3:Nat)
 u1:=nu (a/648)
 u2:=nu (a/5184)
 bB:=if a%2=0 then eQ else tA
 bC:=if a/2%4=0 then eQ else if a/2%4=1 then tA else if a/2%4=2 then tB else tm 72 [tA]
 fl:=flW (tP (nu (a/648))) b c
noncomputable def aM9 (x y:V):Bool:=decide (67≤aQ y)&&decide (aQ y≤70)&&dP 3 y&&argOK y&&(!(decide (67≤aQ x)&&decide (aQ x≤70))||decide (rk y<rk x))
noncomputable def rQ (n:Nat) (x:V) (l:List V):Prop:=dP 4 x=true∧aQ x≠ -2∧l.length≤n∧l.all (aM9 x)=true
noncomputable def dC1 (n:Nat) (x:V) (l:List V):Bool:=dP 4 x&&decide (aQ x≠ -2)&&decide (l.length≤n)&&l.all (aM9 x)
theorem bO{n:Nat}{x:V}{l:List V}(h:dC1 n x l=true):rQ n x l:=by
 unfold dC1 at h
 simp only[Bool.and_eq_true,decide_eq_true_eq]at h
 exact⟨h.1.1.1,h.1.1.2,h.1.2,h.2⟩
set_option tactic.hygienic true in
theorem v0{P:V→List V→Prop}{x:V}{l:List V}(h:P x l):∀{fl:List (V×List V)},(∀p∈fl,P p.1 p.2)→∀p∈iH fl x l,P p.1 p.2
 |[],_,p,hp=>by simp[iH]at hp;rw[hp];exact h
 |q::fl,k,p,hp=>by
  unfold iH at hp
  split at hp
  ·rename_i e
   rw[V.beq_iff]at e
   rcases List.mem_cons.mp hp with rfl |hp
   ·simp only[e];exact h
   ·exact k p (.tail _ hp)
  ·rcases List.mem_cons.mp hp with rfl |hp
   ·exact k _ (.head _)
   ·exact v0 h (fun q hq=>k q (.tail _ hq)) p hp
theorem z8{x:V}{l:List V}:∀{fl:List (V×List V)} (p:V×List V),p∈iH fl x l→p.1=x∨p.1∈fl.map (·.1)
 |[],p,hp=>by simp[iH]at hp;exact .inl (by rw[hp])
 |q::fl,p,hp=>by
  unfold iH at hp
  split at hp
  ·rcases List.mem_cons.mp hp with rfl |hp
   ·exact .inr (.head _)
   ·exact .inr (by simp only[List.map_cons];exact .tail _ (List.mem_map_of_mem hp))
  ·rcases List.mem_cons.mp hp with rfl |hp
   ·exact .inr (.head _)
   ·rcases z8 p hp with h |h
    ·exact .inl h
    ·exact .inr (by simp only[List.map_cons];exact .tail _ h)
set_option tactic.hygienic true in
theorem rS{x:V}{l:List V}:∀{fl:List (V×List V)},(fl.map (·.1)).Nodup→((iH fl x l).map (·.1)).Nodup
 |[],_=>by simp[iH]
 |q::fl,nd=>by
  rw[List.map_cons,List.nodup_cons]at nd
  unfold iH
  split
  ·rw[List.map_cons,List.nodup_cons];exact nd
  ·rename_i e
   rw[List.map_cons,List.nodup_cons]
   refine⟨fun hm=> ?_,rS nd.2⟩
   obtain⟨p,hp,hq⟩:=List.mem_map.mp hm
   rcases z8 p hp with h |h
   ·exact e (by rw[←hq,h];exact V.beq_self _)
   ·exact nd.1 (hq▸h)
set_option tactic.hygienic true in
theorem nJ{x:V}{l:List V}:∀{fl:List (V×List V)},dD fl x=some l→(x,l)∈fl
 |[],h=>by exact aN h
 |p::fl,h=>by
  unfold dD at h
  split at h
  ·rename_i e
   rw[V.beq_iff]at e
   (refine cT h fun p=> ?_;clear h;subst p)
   rw[←e];exact .head _
  ·exact .tail _ (nJ h)
theorem zF{P:V→List V→Prop}:∀{l:List V} {b:Nat} {fl:List (V×List V)},(∀x∈l,∀d,d<8→P x (j5 x d))→(∀p∈fl,P p.1 p.2)→∀p∈uF fl l b,P p.1 p.2
 |[],_,_,_,h=>h
 |x::l,b,fl,hl,h=>zF (l:=l) (b:=b/8) (fun y hy=>hl y (.tail _ hy)) (v0 (hl x (.head _) _ (Nat.mod_lt _ (eC rfl))) h)
theorem uE:∀{l:List V} {b:Nat} {fl:List (V×List V)},(fl.map (·.1)).Nodup→((uF fl l b).map (·.1)).Nodup
 |[],_,_,h=>h
 |_::l,b,_,h=>uE (l:=l) (b:=b/8) (rS h)
theorem r9(k:Nat):nu k=3∨nu k=4∨nu k=5∨nu k=6∨nu k=7∨nu k=8∨nu k=9∨nu k=10:=
 d8 (P:=fun d=>3+(d:Int)=3∨3+(d:Int)=4∨3+(d:Int)=5∨3+(d:Int)=6∨3+(d:Int)=7∨3+(d:Int)=8∨3+(d:Int)=9∨3+(d:Int)=10) ⟨.inl rfl,.inr (.inl rfl),.inr (.inr (.inl rfl)),.inr (.inr (.inr (.inl rfl))),.inr (.inr (.inr (.inr (.inl rfl)))),.inr (.inr (.inr (.inr (.inr (.inl rfl))))),.inr (.inr (.inr (.inr (.inr (.inr (.inl rfl)))))),.inr (.inr (.inr (.inr (.inr (.inr (.inr rfl))))))⟩ (k%8) (Nat.mod_lt k (eC rfl))
theorem aN6(k:Nat):∀x∈vS (tP (nu k)),∀d,d<8→rQ 1 x (j5 x d):=by
 intro x hx
 simp only[vS,List.mem_cons,List.not_mem_nil,or_false]at hx
 rcases hx with rfl |rfl |rfl |rfl |rfl |rfl
 ·exact d8 ⟨bO rfl,bO rfl,bO rfl,bO rfl,bO rfl,bO rfl,bO rfl,bO rfl⟩
 ·exact d8 ⟨bO rfl,bO rfl,bO rfl,bO rfl,bO rfl,bO rfl,bO rfl,bO rfl⟩
 ·exact d8 ⟨bO rfl,bO rfl,bO rfl,bO rfl,bO rfl,bO rfl,bO rfl,bO rfl⟩
 ·exact d8 ⟨bO rfl,bO rfl,bO rfl,bO rfl,bO rfl,bO rfl,bO rfl,bO rfl⟩
 ·exact d8 ⟨bO rfl,bO rfl,bO rfl,bO rfl,bO rfl,bO rfl,bO rfl,bO rfl⟩
 ·rcases r9 k with h |h |h |h |h |h |h |h<;>rw[h]<;>
  exact d8 ⟨bO rfl,bO rfl,bO rfl,bO rfl,bO rfl,bO rfl,bO rfl,bO rfl⟩
theorem aN5:∀x∈xU,∀d,d<8→rQ 1 x (j5 x d):=by
 intro x hx
 simp only[xU,List.mem_cons,List.not_mem_nil,or_false]at hx
 rcases hx with rfl |rfl |rfl |rfl |rfl |rfl<;>
 exact d8 ⟨bO rfl,bO rfl,bO rfl,bO rfl,bO rfl,bO rfl,bO rfl,bO rfl⟩
theorem aN3(k b c:Nat):∀p∈sU (tP (nu k)) b c,rQ 1 p.1 p.2:=by
 refine zF aN5 (zF (aN6 k) ?_)
 intro p hp
 simp only[x7,List.mem_cons,List.not_mem_nil,or_false]at hp
 rcases hp with rfl |rfl<;>exact bO rfl
theorem bP4(u:V)(b c:Nat):((sU u b c).map (·.1)).Nodup:=by
 refine uE (uE ?_)
 simp[x7]
theorem aC2(u:V)(b c:Nat):((flW u b c).map (·.1)).Nodup:=rS (bP4 u b c)
theorem rQ.up{x:V}{l:List V}(h:rQ 1 x l):rQ 2 x l:=⟨h.1,h.2.1,by have:=h.2.2.1;exact d0 this rfl,h.2.2.2⟩
theorem cR4(k:Nat):rQ 1 (tP (nu k)) [tm 69 [tP (nu k)]]:=by
 rcases r9 k with h |h |h |h |h |h |h |h<;>rw[h]<;>exact bO rfl
theorem aN1(k b c:Nat):∀p∈flW (tP (nu k)) b c,rQ 2 p.1 p.2:=by
 refine v0 ?_ fun p hp=>(aN3 k b c p hp).up
 have hn:=cR4 k
 have hl:rQ 1 (tP (nu k)) ((dD (sU (tP (nu k)) b c) (tP (nu k))).getD []):=by
  induction q:dD (sU (tP (nu k)) b c) (tP (nu k))using Option.casesOn with
  |none=>exact⟨hn.1,hn.2.1,by simp,rfl⟩
  |some l=>exact aN3 k b c _ (nJ q)
 refine⟨hn.1,hn.2.1,?_,?_⟩
 ·have:=hl.2.2.1
  simp only[List.length_append,List.length_singleton];exact nRa this rfl
 ·rw[List.all_append,hl.2.2.2,hn.2.2.2];rfl
theorem bI6{a b c:Nat}{x y:V}(hy:y∈dH (i9 a b c) x):∃l,rQ 2 x l∧y∈l:=by
 unfold dH at hy
 induction q:dD (i9 a b c).fl x using Option.casesOn with
 |none=>rw[q]at hy;cases hy
 |some l=>rw[q]at hy;exact⟨l,aN1 _ b c _ (nJ q),hy⟩
theorem oX{x y:V}(h:aM9 x y=true):(67≤aQ y∧aQ y≤70)∧dP 3 y=true∧argOK y=true∧(67≤aQ x→aQ x≤70→rk y<rk x):=by
 unfold aM9 at h
 simp only[Bool.and_eq_true,decide_eq_true_eq,Bool.or_eq_true,Bool.not_eq_true',Bool.and_eq_false_iff,decide_eq_false_iff_not]at h
 obtain⟨⟨⟨⟨h1,h2⟩,h3⟩,h4⟩,h5⟩:=h
 refine⟨⟨h1,h2⟩,h3,h4,fun a b=> ?_⟩
 rcases h5 with(h5 |h5) |h5
 ·exact absurd a h5
 ·exact absurd b h5
 ·exact h5
theorem aV6(a b c:Nat):dA (i9 a b c):=by
 have hu:∀k,3≤nu k∧nu k≤10:=fun k=>⟨Int.le_add_of_nonneg_right (Int.natCast_nonneg _),Int.add_le_add_left (Int.ofNat_le.mpr (Nat.le_of_lt_succ (Nat.mod_lt k (eC rfl)))) 3⟩
 have key:∀x,∀y∈dH (i9 a b c) x,aM9 x y=true:=fun x y hy=>by
  obtain⟨l,h1,h2⟩:=bI6 hy
  exact List.all_eq_true.mp h1.2.2.2 y h2
 refine⟨hu _,hu _,?_,?_,fun x y hy=>(oX (key x y hy)).1,fun x h1 h2 y hy=>(oX (key x y hy)).2.2.2 h1 h2,fun x=> ?_,fun x y hy=>jV (Nat.le_of_ble_eq_true rfl) (oX (key x y hy)).2.1,fun x y hy=>(oX (key x y hy)).2.1,fun x y hy=>(oX (key x y hy)).2.2.1⟩
 ·simp only[i9]
  split
  ·exact .inl rfl
  ·exact .inr rfl
 ·simp only[i9]
  split
  ·exact .inl rfl
  ·split
   ·exact .inr (.inl rfl)
   ·split
    ·exact .inr (.inr (.inl rfl))
    ·exact .inr (.inr (.inr rfl))
 ·unfold dH
  induction q:dD (i9 a b c).fl x using Option.casesOn with
  |none=>simp
  |some l=>exact(aN1 _ b c _ (nJ q)).2.2.1
section
noncomputable def lF (k:Nat):V:= .int (k:Nat)
noncomputable def WA (Y:SM):SM:=aC (aV 2 (aG (aA 0) (aB 0))) (aC (aV 3 (aG (aA 0) (aT .mod (aB 1) (cH (aA 0))))) (aC (aV 4 (aG (aA 0) (aT .mod (aB 2) (cH (aA 0))))) (aC (aV 5 (aE [(aT .mod (aT .fdiv (aA 2) (aB 8)) (aB 3)),(aT .mod (aT .fdiv (aA 2) (aB 24)) (aB 3)),(aT .mod (aT .fdiv (aA 2) (aB 72)) (aB 3)),(aT .mod (aT .fdiv (aA 2) (aB 216)) (aB 3))])) (aC (aV 6 (aE [(aB 0),(aT .add (aB 3) (aT .mod (aT .fdiv (aA 2) (aB 648)) (aB 8)))])) Y))))
section
variable {σ:aD}
theorem rW{j i:Nat}{l:List V}{v:V}(hl:σ[j]? =some (.list l))(h:l[i]? =some v)(hi:i<100000):gH (.ref j) (.int i) σ=some v:=by
 unfold gH
 simp only[hl]
 rw[if_pos (⟨tS,nIv hi rfl⟩),Int.toNat_natCast,h]
theorem nX{o:EM}{ρ:Env}{j:Nat}{l:List V}(ho:o ρ σ=some (.ref j,σ))(hl:σ[j]? =some (.list l))(h:l.length≤100000):cH o ρ σ=some (.int (l.length:Nat),σ):=by
 simp only[cH,ho,jD,hl,h,if_true]
theorem aY7{i:Int}{b:EM}{ρ:Env}{k:Nat}(h:b ρ σ=some (.int (k:Nat),σ))(hi:small i=true)(hk:k<100000):aT .add (aB i) b ρ σ=some (.int (i+(k:Nat)),σ):=by
 refine(nY (gJ i ρ) h).trans ?_
 simp only[m8,pK,pL,sO,qH,qI,hi,nM hk,Bool.and_self,if_true]
theorem md{ρ:Env}{i a:Nat}(r:ρ i=some (.int (a:Nat)))(p q:Nat)(hp:0<p)(hp2:p<1000000)(hq:0<q):aT .mod (aT .fdiv (aA i) (aB (p:Nat))) (aB (q:Nat)) ρ σ=some (.int (a/p%q:Nat),σ):=
 iG (lW (bK r) (gV p ρ) hp hp2) (gV q ρ) hq
noncomputable def bV1 (σ:aD) (nj:Nat) (a:Nat) (b:Nat) (c:Nat) (ρ:Env):Prop:=∀G:Prop,(∀(ρ':Env),((∀Y:SM,WA Y ρ σ=Y ρ' σ))→(ρ' 0=some (.ref nj))→(ρ' 1=ρ 1)→(ρ' 2=some (.int (a:Nat)))→(ρ' 3=some (.int (b:Nat)))→(ρ' 4=some (.int (c:Nat)))→(ρ' 5=some (.tup [.int (a/8%3:Nat),.int (a/24%3:Nat),.int (a/72%3:Nat),.int (a/216%3:Nat)]))→(ρ' 6=some (tP (nu (a/648))))→G)→G
theorem cW8{nj a b c:Nat}{nums:List Nat}{ρ:Env}(hn:σ[nj]? =some (.list (nums.map lF)))(hl:nums.length≤16)(ha:nums[0]? =some a)(hb:nums[1%nums.length]? =some b)(hc:nums[2%nums.length]? =some c)(r0:ρ 0=some (.ref nj)):
  bV1 σ nj a b c ρ:=by
 have hlen:0<nums.length:=by
  induction nums using List.casesOn with
  |nil=>exact aN hc
  |cons x l=>simp
 have e2:(aV 2 (aG (aA 0) (aB 0))) ρ σ=some (.next,aZ ρ 2 (.int (a:Nat)),σ):=
  jB (fT (bK r0) (gV 0 ρ) (rW hn (by simp[ha,lF]) (eC rfl)))
 have len:∀{ρ1:Env},ρ1 0=some (.ref nj)→cH (aA 0) ρ1 σ=some (.int (nums.length:Nat),σ):=fun {ρ1} h=>by
  have:=nX (bK (σ:=σ) h) hn (by simp;exact d0 hl rfl)
  simpa using this
 have ix:∀{ρ1:Env} {i v:Nat},ρ1 0=some (.ref nj)→nums[i%nums.length]? =some v→aG (aA 0) (aT .mod (aB (i:Nat)) (cH (aA 0))) ρ1 σ=some (.int (v:Nat),σ):=fun {ρ1 i v} h1 h2=>by
  have hm:aT .mod (aB (i:Nat)) (cH (aA 0)) ρ1 σ=some (.int (i%nums.length:Nat),σ):=iG (gV i ρ1) (len h1) hlen
  exact fT (bK h1) hm (rW hn (by simp[h2,lF]) (by have:=Nat.mod_lt i hlen;exact nT3 this hl rfl))
 let ρ2:Env:=aZ ρ 2 (.int (a:Nat))
 let ρ3:Env:=aZ ρ2 3 (.int (b:Nat))
 let ρ4:Env:=aZ ρ3 4 (.int (c:Nat))
 let ρ5:Env:=aZ ρ4 5 (.tup [.int (a/8%3:Nat),.int (a/24%3:Nat),.int (a/72%3:Nat),.int (a/216%3:Nat)])
 let ρ6:Env:=aZ ρ5 6 (tP (nu (a/648)))
 have e3:(aV 3 (aG (aA 0) (aT .mod (aB 1) (cH (aA 0))))) ρ2 σ=some (.next,ρ3,σ):=jB (ix (i:=1) r0 hb)
 have e4:(aV 4 (aG (aA 0) (aT .mod (aB 2) (cH (aA 0))))) ρ3 σ=some (.next,ρ4,σ):=jB (ix (i:=2) r0 hc)
 have q4:ρ4 2=some (.int (a:Nat)):=rfl
 have q5:ρ5 2=some (.int (a:Nat)):=q4
 have e5:(aV 5 (aE [(aT .mod (aT .fdiv (aA 2) (aB 8)) (aB 3)),(aT .mod (aT .fdiv (aA 2) (aB 24)) (aB 3)),(aT .mod (aT .fdiv (aA 2) (aB 72)) (aB 3)),(aT .mod (aT .fdiv (aA 2) (aB 216)) (aB 3))])) ρ4 σ=some (.next,ρ5,σ):=
  jB (jE (bR (md q4 8 3 (eC rfl) (eC rfl) (eC rfl)) (bR (md q4 24 3 (eC rfl) (eC rfl) (eC rfl)) (bR (md q4 72 3 (eC rfl) (eC rfl) (eC rfl)) (bR (md q4 216 3 (eC rfl) (eC rfl) (eC rfl)) eG)))))
 have e6:(aV 6 (aE [(aB 0),(aT .add (aB 3) (aT .mod (aT .fdiv (aA 2) (aB 648)) (aB 8)))])) ρ5 σ=some (.next,ρ6,σ):=
  jB (jE (bR (gJ 0 ρ5) (bR (aY7 (i:=3) (md q5 648 8 (eC rfl) (eC rfl) (eC rfl)) (by decide) (by have:=Nat.mod_lt (a/648) (show 0<8 from eC rfl);exact bD0 this rfl)) eG)))
 refine(fun _ k=>k ρ6 (fun Y=> ?_) ?_ ?_ ?_ ?_ ?_ ?_ ?_)
 ·unfold WA
  rw[bJ e2,bJ e3,bJ e4,bJ e5,bJ e6]
 all_goals (first |exact r0 |exact rfl |exact q5)
end
end
section
noncomputable def WBb (Y:SM):SM:=(aC (aV 7 (cI [((bU "kt"),(aR (aA 1) "kt")),((bU "made"),(cI [])),((bU "num"),(aA 6)),((bU "under"),(cI [((aE [(aB 75)]),(aA 6)),((aE [(aB 76)]),(aE [(aB 0),(aT .add (aB 3) (aT .mod (aT .fdiv (aA 2) (aB 5184)) (aB 8)))]))]))]))
(aC (bP (aA 7) (bU "ways") (cI [((aB 69),(aE [(aG (aA 5) (aB 0))])),((aB 70),(aE [(aG (aA 5) (aB 1)),(aG (aA 5) (aB 2))])),((aB 71),(aE [(aG (aA 5) (aB 3))]))]))
(aC (bP (aA 7) (bU "base") (cI [((aE [(aB 3)]),(aE [(aB 2)])),((aE [(aB 65)]),(aG (aE [(aX b9),(aE [(aB 64)])]) (aT .mod (aA 2) (aB 2))))]))
(aC (bP (aG (aA 7) (bU "base")) (aE [(aB 66)]) (aG (aE [(aX b9),(aE [(aB 64)]),(aE [(aB 65)]),(aE [(aB 72),(aE [(aB 64)])])]) (aT .mod (aT .fdiv (aA 2) (aB 2)) (aB 4))))
(aC (bP (aA 7) (bU "faces") (cI [((aE [(aB 72),(aE [(aB 64)])]),(cF [(aE [(aB 69),(aE [(aB 64)])])])),((aE [(aB 72),(aE [(aB 65)])]),(cF [(aE [(aB 69),(aE [(aB 65)])])]))])) Y)))))
noncomputable def dA7 (n:Nat):cX:=⟨n+2,n,n+1,n+3,n+4,n+7⟩
noncomputable def tV (n kt:Nat) (W:Wd):aD:=[.dict [],.dict [(tm 75 [],tP W.u1),(tm 76 [],tP W.u2)],.dict (mD kt (dA7 n) (tP W.u1)),.dict (wT W),.dict (oU W),.list [tm 69 [tA]],.list [tm 69 [tB]],.dict [(tm 72 [tA],.ref (n+5)),(tm 72 [tB],.ref (n+6))]]
section
variable {σ:aD}
theorem kU{ρ:Env}:g9 [] ρ σ=some ([],σ):=rfl
theorem eA{k e:EM}{r:List (EM×EM)}{ρ:Env}{kv v:V}{vs:List (V×V)}{σ1 σ2 σ3:aD}(h1:k ρ σ=some (kv,σ1))(h2:e ρ σ1=some (v,σ2))(h3:g9 r ρ σ2=some (vs,σ3)):g9 ((k,e)::r) ρ σ=some ((kv,v)::vs,σ3):=by
 simp only[g9,h1,h2,h3]
theorem aN9{ps:List (EM×EM)}{ρ:Env}{vs es:List (V×V)}{σ1:aD}(h:g9 ps ρ σ=some (vs,σ1))(hd:oT [] vs=some es):cI ps ρ σ=some (.ref σ1.length,σ1++[.dict es]):=by
 simp only[cI,h,hd,eP]
theorem pJ{ps:List (EM×EM)}{ρ:Env}{vs es:List (V×V)}{σ0 C:aD}(h:g9 ps ρ σ0=some (vs,σ++C))(hd:oT [] vs=some es):cI ps ρ σ0=some (.ref (σ.length+C.length),σ++(C++[.dict es])):=
 (aN9 h hd).trans (by rw[yL,bG8])
theorem aN8{es:List EM}{ρ:Env}{l:List V}{σ0 C:aD}(h:dO es ρ σ0=some (l,σ++C)):cF es ρ σ0=some (.ref (σ.length+C.length),σ++(C++[.list l])):=by
 simp only[cF,h,eP,yL,bG8]
theorem cE1{o k e:EM}{ρ:Env}{v kv:V}{j:Nat}{es:List (V×V)}{σ1:aD}(he:e ρ σ=some (v,σ1))(ho:o ρ σ1=some (.ref j,σ1))(hk:k ρ σ1=some (kv,σ1))(hd:σ1[j]? =some (.dict es))(h1:fM es kv=true)(h2:es.length≤100000):
  bP o k e ρ σ=some (.next,ρ,σ1.set j (.dict (dG es kv v))):=by
 simp only[bP,he,ho,hk,hd,h1,decide_eq_true h2,Bool.and_self,if_true]
theorem cW7{a b c ho hd kt:Nat}{fs:List (String×V)}{ρ:Env}(hf:cS σ ho=some (.host,hd,fs))(hkt:iK fs "kt"=some (.ref kt))(r1:ρ 1=some (.ref ho))(r2:ρ 2=some (.int (a:Nat)))
  (r5:ρ 5=some (.tup [.int (a/8%3:Nat),.int (a/24%3:Nat),.int (a/72%3:Nat),.int (a/216%3:Nat)])) (r6:ρ 6=some (tP (nu (a/648)))):
  ∀Y:SM,WBb Y ρ σ=Y (aZ ρ 7 (.ref (σ.length+2))) (σ++tV σ.length kt (i9 a b c)):=by
 let n:=σ.length
 let W:=i9 a b c
 have hu2:∀{σ1:aD},(aE [(aB 0),(aT .add (aB 3) (aT .mod (aT .fdiv (aA 2) (aB 5184)) (aB 8)))]) ρ σ1=some (tP W.u2,σ1):=fun {σ1}=>
  jE (bR (gJ 0 ρ) (bR (aY7 (i:=3) (md r2 5184 8 (eC rfl) (eC rfl) (eC rfl)) (by decide) (Nat.lt_trans (Nat.mod_lt _ (eC rfl)) (eC rfl))) eG))
 have hkt':aR (aA 1) "kt" ρ σ=some (.ref kt,σ):=eR (aH r1) hf hkt
 have e1:(aV 7 (cI [((bU "kt"),(aR (aA 1) "kt")),((bU "made"),(cI [])),((bU "num"),(aA 6)),((bU "under"),(cI [((aE [(aB 75)]),(aA 6)),((aE [(aB 76)]),(aE [(aB 0),(aT .add (aB 3) (aT .mod (aT .fdiv (aA 2) (aB 5184)) (aB 8)))]))]))])) ρ σ=some (.next,aZ ρ 7 (.ref (n+2)),σ++[.dict [],.dict [(tm 75 [],tP W.u1),(tm 76 [],tP W.u2)],.dict [(.str "kt",.ref kt),(.str "made",.ref n),(.str "num",tP W.u1),(.str "under",.ref (n+1))]]):=
  jB (pJ (C:=[.dict [],.dict [(tm 75 [],tP W.u1),(tm 76 [],tP W.u2)]]) (eA (kv:= .str "kt") rfl hkt' (eA (kv:= .str "made") rfl rfl (eA (kv:= .str "num") rfl (bK r6) (eA (kv:= .str "under") rfl (pJ (C:=[.dict []]) (eA (kv:=tm 75 []) rfl (bK r6) (eA (kv:=tm 76 []) rfl hu2 kU)) rfl) kU)))) rfl)
 let ρ7:Env:=aZ ρ 7 (.ref (n+2))
 have q5:ρ7 5=some (.tup [.int W.w69,.int W.wa,.int W.wb,.int W.w71]):=r5
 have q2:ρ7 2=some (.int (a:Nat)):=r2
 have g:∀{s:aD} (i:Nat) (v:V),[V.int W.w69,.int W.wa,.int W.wb,.int W.w71][i]? =some v→i<1000→aG (aA 5) (aB (i:Nat)) ρ7 s=some (v,s):=fun i v h hi=>fT (bK q5) (gV i ρ7) (fC h hi)
 let C2:aD:=[.dict [],.dict [(tm 75 [],tP W.u1),(tm 76 [],tP W.u2)],.dict [(.str "kt",.ref kt),(.str "made",.ref n),(.str "num",tP W.u1),(.str "under",.ref (n+1)),(.str "ways",.ref (n+3))],.dict (wT W)]
 have e2:(bP (aA 7) (bU "ways") (cI [((aB 69),(aE [(aG (aA 5) (aB 0))])),((aB 70),(aE [(aG (aA 5) (aB 1)),(aG (aA 5) (aB 2))])),((aB 71),(aE [(aG (aA 5) (aB 3))]))])) ρ7 (σ++[.dict [],.dict [(tm 75 [],tP W.u1),(tm 76 [],tP W.u2)],.dict [(.str "kt",.ref kt),(.str "made",.ref n),(.str "num",tP W.u1),(.str "under",.ref (n+1))]])=some (.next,ρ7,σ++C2):=
  oY (i:=2) (pJ (eA (kv:= .int 69) rfl (jE (bR (g 0 _ rfl (eC rfl)) eG)) (eA (kv:= .int 70) rfl (jE (bR (g 1 _ rfl (eC rfl)) (bR (g 2 _ rfl (eC rfl)) eG))) (eA (kv:= .int 71) rfl (jE (bR (g 3 _ rfl (eC rfl)) eG)) kU))) (es:=wT W) rfl) rfl (kv:= .str "ways") rfl rfl rfl rfl rfl
 let C3:aD:=[.dict [],.dict [(tm 75 [],tP W.u1),(tm 76 [],tP W.u2)],.dict [(.str "kt",.ref kt),(.str "made",.ref n),(.str "num",tP W.u1),(.str "under",.ref (n+1)),(.str "ways",.ref (n+3)),(.str "base",.ref (n+4))],.dict (wT W),.dict [(tm 3 [],tm 2 []),(tB,W.bB)]]
 have e3:(bP (aA 7) (bU "base") (cI [((aE [(aB 3)]),(aE [(aB 2)])),((aE [(aB 65)]),(aG (aE [(aX b9),(aE [(aB 64)])]) (aT .mod (aA 2) (aB 2))))])) ρ7 (σ++C2)=some (.next,ρ7,σ++C3):=by
  have hb:aG (aE [(aX b9),(aE [(aB 64)])]) (aT .mod (aA 2) (aB 2)) ρ7 (σ++C2)=some (W.bB,σ++C2):=by
   refine fT (x:= .tup [eQ,tA]) rfl (iG (bK q2) (gV 2 ρ7) (eC rfl)) (fC ?_ (Nat.lt_trans (Nat.mod_lt _ (eC rfl)) (eC rfl)))
   show _=some (if a%2=0 then eQ else tA)
   rcases Nat.mod_two_eq_zero_or_one a with h |h<;>rw[h]<;>rfl
  exact oY (i:=2) (pJ (eA (kv:=tm 3 []) rfl (v:=tm 2 []) rfl (eA (kv:=tB) rfl hb kU)) (es:=[(tm 3 [],tm 2 []),(tB,W.bB)]) rfl) rfl (kv:= .str "base") rfl rfl rfl rfl rfl
 let C4:aD:=[.dict [],.dict [(tm 75 [],tP W.u1),(tm 76 [],tP W.u2)],.dict [(.str "kt",.ref kt),(.str "made",.ref n),(.str "num",tP W.u1),(.str "under",.ref (n+1)),(.str "ways",.ref (n+3)),(.str "base",.ref (n+4))],.dict (wT W),.dict (oU W)]
 have e4:(bP (aG (aA 7) (bU "base")) (aE [(aB 66)]) (aG (aE [(aX b9),(aE [(aB 64)]),(aE [(aB 65)]),(aE [(aB 72),(aE [(aB 64)])])]) (aT .mod (aT .fdiv (aA 2) (aB 2)) (aB 4)))) ρ7 (σ++C3)=some (.next,ρ7,σ++C4):=by
  have hb:aG (aE [(aX b9),(aE [(aB 64)]),(aE [(aB 65)]),(aE [(aB 72),(aE [(aB 64)])])]) (aT .mod (aT .fdiv (aA 2) (aB 2)) (aB 4)) ρ7 (σ++C3)=some (W.bC,σ++C3):=by
   refine fT (x:= .tup [eQ,tA,tB,tm 72 [tA]]) rfl (md q2 2 4 (eC rfl) (eC rfl) (eC rfl)) (fC ?_ (Nat.lt_trans (Nat.mod_lt _ (eC rfl)) (eC rfl)))
   show _=some (if a/2%4=0 then eQ else if a/2%4=1 then tA else if a/2%4=2 then tB else tm 72 [tA])
   have:=Nat.mod_lt (a/2) (show 0<4 from eC rfl)
   rcases(show a/2%4=0∨a/2%4=1∨a/2%4=2∨a/2%4=3 by omega)with h |h |h |h<;>rw[h]<;>rfl
  exact oY (i:=4) hb (fT (x:= .ref (n+2)) (bK rfl) (y:= .str "base") rfl (kC (jU rfl) rfl rfl)) (kv:=tC) rfl (es:=[(tm 3 [],tm 2 []),(tB,W.bB)]) rfl rfl rfl rfl
 have e5:(bP (aA 7) (bU "faces") (cI [((aE [(aB 72),(aE [(aB 64)])]),(cF [(aE [(aB 69),(aE [(aB 64)])])])),((aE [(aB 72),(aE [(aB 65)])]),(cF [(aE [(aB 69),(aE [(aB 65)])])]))])) ρ7 (σ++C4)=some (.next,ρ7,σ++tV n kt W):=
  oY (i:=2) (pJ (eA (kv:=tm 72 [tA]) rfl (aN8 (C:=C4) (l:=[tm 69 [tA]]) rfl) (eA (kv:=tm 72 [tB]) rfl (aN8 (C:=C4++[.list [tm 69 [tA]]]) (l:=[tm 69 [tB]]) rfl) kU)) rfl) rfl (kv:= .str "faces") rfl rfl rfl rfl rfl
 exact fun Y=>(bJ e1).trans ((bJ e2).trans ((bJ e3).trans ((bJ e4).trans (bJ e5))))
end
end
section
noncomputable def WC (m:Nat) (Y:SM):SM:=(aC (dL 8 (aE [(aE [(aB 64)]),(aE [(aB 65)]),(aE [(aB 66)]),(aE [(aB 73)]),(aE [(aB 75)]),(aA 6)]) (sH m 3))
(aC (dL 8 (aE [(aE [(aB 2)]),(aE [(aB 68)]),(aE [(aB 5)]),(aE [(aB 74),(aE [(aB 0),(aB 7)])]),(aE [(aB 69),(aE [(aB 64)])]),(aE [(aB 3)])]) (sH m 4))
(aC (bP (aG (aA 7) (bU "faces")) (aA 6) (aT .add (aG (aG (aA 7) (bU "faces")) (aA 6)) (cF [(aE [(aB 69),(aA 6)])]))) Y)))
section
variable {σ:aD}
set_option tactic.hygienic true in
theorem rT{x:V}{l:List V}:∀{fl:List (V×List V)} {y:V},(y=x∨(dD fl y).isSome=true)→(dD (iH fl x l) y).isSome=true
 |[],y,h=>by
  rcases h with rfl |h
  ·simp[iH,dD,V.beq_self]
  ·exact c7 h
 |p::fl,y,h=>by
  unfold iH
  split
  ·rename_i e
   rw[V.beq_iff]at e
   unfold dD at h⊢
   split
   ·rfl
   ·rename_i ne
    rcases h with rfl |h
    ·exact absurd (by rw[e];exact V.beq_self _) ne
    ·rw[if_neg ne]at h;exact h
  ·unfold dD at h⊢
   split
   ·rfl
   ·rename_i ne
    refine rT (h.imp id fun h=> ?_)
    rw[if_neg ne]at h;exact h
theorem sY:∀{l:List V} {b:Nat} {fl:List (V×List V)} {y:V},(y∈l∨(dD fl y).isSome=true)→(dD (uF fl l b) y).isSome=true
 |[],_,_,_,h=>h.elim (fun h=>by cases h) id
 |x::l,b,fl,y,h=>by
  refine sY (l:=l) (b:=b/8) ?_
  rcases h with h |h
  ·rcases List.mem_cons.mp h with rfl |h
   ·exact .inr (rT (.inl rfl))
   ·exact .inl h
  ·exact .inr (rT (.inr h))
theorem rX{i:Nat}{e:EM}{b:SM}{ρ:Env}{l:List V}{σ1:aD}(h:e ρ σ=some (.tup l,σ1)):dL i e b ρ σ=dM i b .fix l l ρ σ1:=by simp only[dL,h,fS]
noncomputable def bV0 (σ:aD) (m:Nat) (lo:Nat) (b:Nat) (c:Nat) (X:cX) (k:Nat) (ρ:Env):Prop:=∀G:Prop,(∀(ρ':Env),∀(σ':aD),∀(es':List (V×V)),((∀Y:SM,WC m Y ρ σ=Y ρ' σ'))→((∀j,j≠8→j≠3→j≠4→ρ' j=ρ j))→(cA [X.f] σ σ')→(σ'[X.f]? =some (.dict es'))→(f9 es')→(iV σ' lo X.f es' (flW (tP (nu k)) b c))→G)→G
theorem cW6{m kt lo b c:Nat}{X:cX}{k:Nat}{ρ:Env}{es:List (V×V)}(hm:3≤m)(hwf:X.w≠X.f)(r3:ρ 3=some (.int (b:Nat)))(r4:ρ 4=some (.int (c:Nat)))(r6:ρ 6=some (tP (nu k)))(r7:ρ 7=some (.ref X.w))
  (Rw:σ[X.w]? =some (.dict (mD kt X (tP (nu k))))) (Rf:σ[X.f]? =some (.dict es)) (hk:f9 es) (hF:iV σ lo X.f es x7) (hlo:lo≤σ.length):
  bV0 σ m lo b c X k ρ:=by
 have hu:wf (tP (nu k))=true:=by rcases r9 k with h |h |h |h |h |h |h |h<;>rw[h]<;>rfl
 have hel:es.length=2:=(List.length_map ..).symm.trans (congrArg List.length hF.keys)
 have w1:∀x∈vS (tP (nu k)),wf x=true:=fun x hx=>jV (show 4≤6 from Nat.le_of_ble_eq_true rfl) (aN6 k x hx 0 (eC rfl)).1
 have w2:∀x∈xU,wf x=true:=fun x hx=>jV (show 4≤6 from Nat.le_of_ble_eq_true rfl) (aN5 x hx 0 (eC rfl)).1
 refine(aC3 (s:=3) (kt:=kt) hm (.inl rfl) hwf (vS (tP (nu k))) (vS (tP (nu k))) b ρ σ es x7 w1 r7 r3 Rw Rf hk hF (Nat.le_trans (Nat.le_of_eq (congrArg (· +6) hel)) (Nat.le_of_ble_eq_true rfl)) hlo) _ fun ρ1 σ1 es1 f1 f2 f3 f4 f5 f6 f7=> ?_
 have Rw1:σ1[X.w]? =some (.dict (mD kt X (tP (nu k)))):=f3.2 _ _ (dX hwf j7) Rw
 have hel1:es1.length≤8:=Nat.le_trans f7 (Nat.le_of_eq (congrArg (· +6) hel))
 refine(aC3 (s:=4) (kt:=kt) hm (.inr rfl) hwf xU xU c ρ1 σ1 es1 _ w2 (by rw[f2 7 (Nat.ne_of_beq_eq_false rfl) (Nat.ne_of_beq_eq_false rfl)];exact r7) (by rw[f2 4 (Nat.ne_of_beq_eq_false rfl) (Nat.ne_of_beq_eq_false rfl)];exact r4) Rw1 f4 f5 f6 (nRa (a:=6) hel1 rfl) (by have:=f3.1;exact Nat.le_trans hlo this)) _ fun ρ2 σ2 es2 g1 g2 g3 g4 g5 g6 g7=> ?_
 have Rw2:σ2[X.w]? =some (.dict (mD kt X (tP (nu k)))):=g3.2 _ _ (dX hwf j7) Rw1
 have hel2:es2.length≤14:=by
  have:es2.length≤es1.length+6:=g7
  exact nQc this hel1 rfl
 have q7:ρ2 7=some (.ref X.w):=by rw[g2 7 (Nat.ne_of_beq_eq_false rfl) (Nat.ne_of_beq_eq_false rfl),f2 7 (Nat.ne_of_beq_eq_false rfl) (Nat.ne_of_beq_eq_false rfl)];exact r7
 have q6:ρ2 6=some (tP (nu k)):=by rw[g2 6 (Nat.ne_of_beq_eq_false rfl) (Nat.ne_of_beq_eq_false rfl),f2 6 (Nat.ne_of_beq_eq_false rfl) (Nat.ne_of_beq_eq_false rfl)];exact r6
 have e1:(dL 8 (aE [(aE [(aB 64)]),(aE [(aB 65)]),(aE [(aB 66)]),(aE [(aB 73)]),(aE [(aB 75)]),(aA 6)]) (sH m 3)) ρ σ=some (.next,ρ1,σ1):=by
  have:(aE [(aE [(aB 64)]),(aE [(aB 65)]),(aE [(aB 66)]),(aE [(aB 73)]),(aE [(aB 75)]),(aA 6)]) ρ σ=some (.tup (vS (tP (nu k))),σ):=by
   exact fK (aU rfl (aU rfl (aU rfl (aU rfl (aU rfl (aU (aH r6) rfl))))))
  rw[rX this];exact f1
 have e2:(dL 8 (aE [(aE [(aB 2)]),(aE [(aB 68)]),(aE [(aB 5)]),(aE [(aB 74),(aE [(aB 0),(aB 7)])]),(aE [(aB 69),(aE [(aB 64)])]),(aE [(aB 3)])]) (sH m 4)) ρ1 σ1=some (.next,ρ2,σ2):=by
  have:(aE [(aE [(aB 2)]),(aE [(aB 68)]),(aE [(aB 5)]),(aE [(aB 74),(aE [(aB 0),(aB 7)])]),(aE [(aB 69),(aE [(aB 64)])]),(aE [(aB 3)])]) ρ1 σ1=some (.tup xU,σ1):=rfl
  rw[rX this];exact g1
 obtain⟨l,hl⟩:∃l,dD (sU (tP (nu k)) b c) (tP (nu k))=some l:=by
  have:(dD (sU (tP (nu k)) b c) (tP (nu k))).isSome=true:=sY (.inr (sY (.inl (.tail _ (.tail _ (.tail _ (.tail _ (.tail _ (.head _)))))))))
  exact Option.isSome_iff_exists.mp this
 have hll:l.length≤1:=(aN3 k b c _ (nJ hl)).2.2.1
 obtain⟨i,i1,i2,i3,i4⟩:=g6.look.1 l hl
 have hfs:∀{s:aD},s[X.w]? =some (.dict (mD kt X (tP (nu k))))→aG (aA 7) (bU "faces") ρ2 s=some (.ref X.f,s):=fun {s} h=>(sX h (bK (σ:=s) q7)).2.2.1
 have hv:fM es2 (tP (nu k))=true:=eX g5 (iO hu)
 have a1:aG (aG (aA 7) (bU "faces")) (aA 6) ρ2 σ2=some (.ref i,σ2):=fT (hfs Rw2) (bK q6) (by simp only[gH,g4,hv,if_true,i1])
 have a2:cF [(aE [(aB 69),(aA 6)])] ρ2 σ2=some (.ref σ2.length,σ2++[.list [tm 69 [tP (nu k)]]]):=by
  simp only[cF,dO,aE,aB,bK q6,eP]
 let σ3:aD:=σ2++[.list [tm 69 [tP (nu k)]]]
 have a3:aT .add (aG (aG (aA 7) (bU "faces")) (aA 6)) (cF [(aE [(aB 69),(aA 6)])]) ρ2 σ2=some (.ref σ3.length,σ3++[.list (l++[tm 69 [tP (nu k)]])]):=by
  refine(nY a1 a2).trans ?_
  have h1:(σ2++[bF.list [tm 69 [tP (nu k)]]])[i]? =some (.list l):=cZ i2
  have h2:(σ2++[bF.list [tm 69 [tP (nu k)]]])[σ2.length]? =some (.list [tm 69 [tP (nu k)]]):=mR rfl
  have h3:l.length+[tm 69 [tP (nu k)]].length≤1000:=nRa (a:=1) hll rfl
  simp only[aC6 h1 h2,h3,if_true,eP]
  rfl
 let σ4:aD:=σ3++[.list (l++[tm 69 [tP (nu k)]])]
 have Rw4:σ4[X.w]? =some (.dict (mD kt X (tP (nu k)))):=cZ (cZ Rw2)
 have Rf4:σ4[X.f]? =some (.dict es2):=cZ (cZ g4)
 have e3:(bP (aG (aA 7) (bU "faces")) (aA 6) (aT .add (aG (aG (aA 7) (bU "faces")) (aA 6)) (cF [(aE [(aB 69),(aA 6)])]))) ρ2 σ2=some (.next,ρ2,σ4.set X.f (.dict (dG es2 (tP (nu k)) (.ref σ3.length)))):=
  cE1 a3 (hfs Rw4) (bK q6) Rf4 hv (d0 hel2 rfl)
 have K4:cA [X.f] σ2 (σ4.set X.f (.dict (dG es2 (tP (nu k)) (.ref σ3.length)))):=(cA.trans .app .app).trans (.set (.head _))
 have hxf:=eV g4
 have h3l:σ3.length=σ2.length+1:=List.length_append
 have hnf:σ3.length≠X.f:=tO (Nat.lt_of_lt_of_le hxf (kD (Nat.le_of_eq h3l.symm)))
 have hj:(σ4.set X.f (.dict (dG es2 (tP (nu k)) (.ref σ3.length))))[σ3.length]? =some (.list (l++[tm 69 [tP (nu k)]])):=by
  rw[a9 (fun q=>hnf q.symm)];exact mR rfl
 have hlo3:lo≤σ3.length:=by have:=f3.1;have:=g3.1;omega
 have F4:iV (σ4.set X.f (.dict (dG es2 (tP (nu k)) (.ref σ3.length)))) lo X.f es2 (sU (tP (nu k)) b c):=g6.mono fun i o _ h h'=>K4.2 i o (dX h j7) h'
 have F5:=F4.put (x:=tP (nu k)) hj hlo3 hnf
 refine(fun _ k=>k ρ2 _ _ (fun Y=> ?_) (fun j h8 h3 h4=> ?_) ((f3.trans g3).trans K4) (cO Rf4) (aC5 g5 (iO hu)) ?_)
 ·unfold WC
  rw[bJ e1,bJ e2,bJ e3]
 ·rw[g2 j h8 h4,f2 j h8 h3]
 ·unfold flW
  rw[hl]
  exact F5
end
end
section
noncomputable def WDd (Y:SM):SM:=(aC (cJ (aA 1) "sorts" (cI [((aB 67),(aX eK)),((aB 68),(aX eK)),((aB 69),(aX eK)),((aB 70),(aX eK)),((aB 71),(aX kL)),((aB 75),(aX lU))]))
(aC (cJ (aA 1) "variances" (cI [((aB 69),(aE [(aG (aA 5) (aB 0))])),((aB 70),(fF (bL (aG (aA 5) (aB 2))) (aE [(aG (aA 5) (aB 1)),(aG (aA 5) (aB 2))]) (aE [(aG (aA 5) (aB 1))]))),((aB 71),(aE [(aG (aA 5) (aB 3))]))])) Y))
noncomputable abbrev lJ (kt hb hi hs hv hu hbo hg hn:Nat):List (String×V):=[("kt",.ref kt),("bases",.ref hb),("ifaces",.ref hi),("sorts",.ref hs),("variances",.ref hv),("unders",.ref hu),("bounds",.ref hbo),("gflags",.ref hg),("news",.ref hn)]
section
variable {σ:aD}
theorem aQ2{o e:EM}{x:String}{ρ:Env}{v:V}{j d:Nat}{cn:CN}{fs:List (String×V)}{σ1:aD}(he:e ρ σ=some (v,σ1))(ho:o ρ σ1=some (.ref j,σ1))(hj:σ1[j]? =some (.inst cn d))(hd:σ1[d]? =some (.ns fs))(hl:fs.length≤100):
  cJ o x e ρ σ=some (.next,ρ,σ1.set d (.ns (tN fs x v))):=by
 have hf:cS σ1 j=some (cn,d,fs):=by simp only[cS,hj,hd]
 simp only[cJ,he,ho,hf,hl,if_true]
noncomputable def bU9 (σ:aD) (kt:Nat) (hb:Nat) (hi:Nat) (hu:Nat) (hbo:Nat) (hg:Nat) (hn:Nat) (hd:Nat) (a:Nat) (b:Nat) (c:Nat) (ρ:Env):Prop:=∀G:Prop,(∀(σ':aD),((∀Y:SM,WDd Y ρ σ=Y ρ σ'))→(cA [hd] σ σ')→(σ'[hd]? =some (.ns (lJ kt hb hi σ.length (σ.length+1) hu hbo hg hn)))→(σ'[σ.length]? =some (.dict kI))→(σ'[σ.length+1]? =some (.dict (lM (i9 a b c))))→G)→G
theorem cW5{kt hb hi hs hv hu hbo hg hn ho hd:Nat}{a b c:Nat}{ρ:Env}(r1:ρ 1=some (.ref ho))(r5:ρ 5=some (.tup [.int (a/8%3:Nat),.int (a/24%3:Nat),.int (a/72%3:Nat),.int (a/216%3:Nat)]))
  (Rh:σ[ho]? =some (.inst .host hd)) (Rd:σ[hd]? =some (.ns (lJ kt hb hi hs hv hu hbo hg hn))):
  bU9 σ kt hb hi hu hbo hg hn hd a b c ρ:=by
 let W:=i9 a b c
 have hne:ho≠hd:=fun q=>by rw[q,Rd]at Rh;cases Rh
 have hdl:=eV Rd
 let σ1:aD:=(σ++[bF.dict kI]).set hd (.ns (lJ kt hb hi σ.length hv hu hbo hg hn))
 have v1:cI [((aB 67),(aX eK)),((aB 68),(aX eK)),((aB 69),(aX eK)),((aB 70),(aX eK)),((aB 71),(aX kL)),((aB 75),(aX lU))] ρ σ=some (.ref σ.length,σ++[.dict kI]):=rfl
 have e1:(cJ (aA 1) "sorts" (cI [((aB 67),(aX eK)),((aB 68),(aX eK)),((aB 69),(aX eK)),((aB 70),(aX eK)),((aB 71),(aX kL)),((aB 75),(aX lU))])) ρ σ=some (.next,ρ,σ1):=by
  refine(aQ2 v1 (bK r1) (cZ Rh) (cZ Rd) (by simp)).trans ?_
  exact rfl
 have h1l:σ1.length=σ.length+1:=(List.length_set ..).trans List.length_append
 have h1:σ1[ho]? =some (.inst .host hd):=(a9 hne.symm).trans (cZ Rh)
 have h2:σ1[hd]? =some (.ns (lJ kt hb hi σ.length hv hu hbo hg hn)):=cO (cZ Rd)
 have h3:σ1[σ.length]? =some (.dict kI):=(a9 (Nat.ne_of_lt hdl)).trans (mR rfl)
 have g:∀(i:Nat) (v:V),[V.int W.w69,.int W.wa,.int W.wb,.int W.w71][i]? =some v→i<1000→aG (aA 5) (aB (i:Nat)) ρ σ1=some (v,σ1):=fun i v h hi=>fT (bK r5) (gV i ρ) (fC h hi)
 have g0:=g 0 _ rfl (eC rfl)
 have g1:=g 1 _ rfl (eC rfl)
 have g2:=g 2 _ rfl (eC rfl)
 have g3:=g 3 _ rfl (eC rfl)
 have v2:(cI [((aB 69),(aE [(aG (aA 5) (aB 0))])),((aB 70),(fF (bL (aG (aA 5) (aB 2))) (aE [(aG (aA 5) (aB 1)),(aG (aA 5) (aB 2))]) (aE [(aG (aA 5) (aB 1))]))),((aB 71),(aE [(aG (aA 5) (aB 3))]))]) ρ σ1=some (.ref (σ.length+1),σ1++[.dict (lM W)]):=by
  have t0:aE [(aG (aA 5) (aB 0))] ρ σ1=some (.tup [.int W.w69],σ1):=jE (bR g0 eG)
  have t1:aE [(aG (aA 5) (aB 1)),(aG (aA 5) (aB 2))] ρ σ1=some (.tup [.int W.wa,.int W.wb],σ1):=jE (bR g1 (bR g2 eG))
  have t1':aE [(aG (aA 5) (aB 1))] ρ σ1=some (.tup [.int W.wa],σ1):=jE (bR g1 eG)
  have t3:aE [(aG (aA 5) (aB 3))] ρ σ1=some (.tup [.int W.w71],σ1):=jE (bR g3 eG)
  have tv:bL (aG (aA 5) (aB 2)) ρ σ1=some (decide (W.wb≠0),σ1):=by
   exact bV (v:= .int W.wb) g2 rfl
  have ti:(fF (bL (aG (aA 5) (aB 2))) (aE [(aG (aA 5) (aB 1)),(aG (aA 5) (aB 2))]) (aE [(aG (aA 5) (aB 1))])) ρ σ1=some (.tup (if W.wb=0 then [.int W.wa]else [.int W.wa,.int W.wb]),σ1):=by
   by_cases q:W.wb=0
   ·rw[decide_eq_false fun n=>n q]at tv
    rw[if_pos q];exact mE tv t1'
   ·rw[decide_eq_true q]at tv
    rw[if_neg q];exact oE tv t1
  have:=aN9 (eA (gJ 69 ρ) t0 (eA (gJ 70 ρ) ti (eA (gJ 71 ρ) t3 kU))) (es:=lM W) rfl
  rw[h1l]at this
  exact this
 let σ2:aD:=(σ1++[bF.dict (lM W)]).set hd (.ns (lJ kt hb hi σ.length (σ.length+1) hu hbo hg hn))
 have e2:(cJ (aA 1) "variances" (cI [((aB 69),(aE [(aG (aA 5) (aB 0))])),((aB 70),(fF (bL (aG (aA 5) (aB 2))) (aE [(aG (aA 5) (aB 1)),(aG (aA 5) (aB 2))]) (aE [(aG (aA 5) (aB 1))]))),((aB 71),(aE [(aG (aA 5) (aB 3))]))])) ρ σ1=some (.next,ρ,σ2):=by
  refine(aQ2 v2 (bK r1) (cZ h1) (cZ h2) (by simp)).trans ?_
  exact rfl
 refine(fun _ k=>k σ2 (fun Y=> ?_) ?_ (cO (cZ h2)) ?_ ?_)
 ·unfold WDd
  rw[bJ e1,bJ e2]
 ·exact(cA.trans .app (.set (.head _))).trans (cA.trans .app (.set (.head _)))
 ·simp only[σ2];rw[a9 (Nat.ne_of_lt hdl)];exact cZ h3
 ·simp only[σ2];rw[a9 (rH hdl),←h1l];simp;rfl
end
end
noncomputable def hM:List V:=[tP 0,tP 1,tP 2,tP 3,tP 4,tP 5,tP 6,tP 7,tP 8,tP 9,tP 10,tP 11,tP 12,tP 13,tP 14,tP 15]
theorem tJ:hM=(List.range 16).map fun(i:Nat)=>tP i:=rfl
theorem pW{x:V}(h:x∈hM):∃i:Nat,i<16∧x=tP i:=by
 rw[tJ]at h
 obtain⟨i,hi,rfl⟩:=List.mem_map.mp h
 exact⟨i,List.mem_range.mp hi,rfl⟩
theorem bM2{k:Nat}(h:k<16):hM[k]? =some (tP k):=by
 rw[tJ,List.getElem?_map,List.getElem?_range h];rfl
theorem bZ5:hM.Nodup:=by
 rw[tJ]
 refine mK (fun x _ y _ h=> ?_) List.nodup_range
 simp at h;exact nIi h
theorem bC2:(hM.map fun x=>V.tup (dF hM x))=mY 16 jO:=rfl
theorem aB1:pC hM=qC 16:=rfl
noncomputable def cH3 (z:Nat) (hs hv:Nat):Ly where
 kt:=z+1
 kd:=z
 kr:=z+2
 ki:=z+3
 kdep:=z+4
 kw:=z+5
 ko:=z+6
 ho:=z+8
 hd:=z+7
 hb:=z+9
 hi:=z+10
 hs:=hs
 hv:=hv
 hu:=z+13
 hbo:=z+14
 hg:=z+15
 hn:=z+16
theorem bW2{σ:aD}{z hs hv:Nat}(hc:∀(i:Nat) (o:bF),(jM z 16)[i]? =some o→σ[z+i]? =some o):hY σ (cH3 z hs hv) hM:=by
 have ki:σ[z+3]? =some (.dict (pC hM)):=by rw[aB1];exact hc 3 _ rfl
 have rep:∀{P:Nat→V→Int→Prop},(∀(k:Nat) x,hM[k]? =some x→P k x 1)→∀(k:Nat) x d,hM[k]? =some x→(List.replicate 16 (1:Int))[k]? =some d→P k x d:=fun {P} h k x d hx hd=>by
  have hk:k<16:=by have:=(List.getElem?_eq_some_iff.mp hd).1;exact this
  rw[List.getElem?_replicate,if_pos hk]at hd
  (refine cT hd fun p=> ?_;clear hd;subst p);exact h k x hx
 have wpos:∀{e:Nat} {x:V},dP e x=true→1≤e:=fun {e x} h=>by
  induction e using Nat.casesOn with
  |zero=>exact c7 h
  |succ e=>exact Nat.le_add_left _ _
 refine⟨⟨hc 1 _ rfl,hc 0 _ rfl,?_,⟨pC hM,ki,wI _,?_⟩,bZ5,fun i hi=>bM2 hi,fun i x hi hx=> ?_,by decide⟩,ki,⟨List.replicate 16 1,hc 4 _ rfl,rfl,?_⟩,⟨List.replicate 16 1,hc 5 _ rfl,rfl,?_⟩,hc 6 _ rfl,?_,?_,?_,?_⟩
 ·rw[bC2];exact hc 2 _ rfl
 ·intro x hx
  obtain⟨i,hi,rfl⟩:=pW hx
  refine qG ?_ (List.mem_map.mpr ⟨_,hx,rfl⟩)
  rw[aB1,qC,List.map_map]
  refine mK (fun x _ y _ h=> ?_) List.nodup_range
  simp[jO]at h;exact nIi h
 ·have:=(List.getElem?_eq_some_iff.mp hx).1
  simp[hM]at this;exact nF1 this hi
 ·exact rep fun k x _=>⟨t9 rfl,fun e he=>by have:=wpos he;omega⟩
 ·refine rep fun k x _=>⟨t9 rfl,fun e he=> ?_⟩
  have:1≤3^e:=Nat.one_le_pow _ _ (by decide)
  omega
 ·constructor<;>(repeat' apply And.intro)<;>first |exact gP rfl |exact y4 rfl |exact cA6 rfl
 ·intro x hx
  obtain⟨i,hi,rfl⟩:=pW hx
  exact⟨fun _=>rfl,fun h=>by simp[aQ]at h,rfl⟩
 ·intro x hx h
  obtain⟨i,hi,rfl⟩:=pW hx
  exact absurd rfl h
 ·intro x hx h
  obtain⟨i,hi,rfl⟩:=pW hx
  exact absurd rfl h
section
noncomputable def bD (ts:List V) (l:List (V×V)):List (V×V):=l.map fun p=>(aP ts p.1,aP ts p.2)
noncomputable def uD (ts:List V) (l:List (V×Int)):List (V×V):=l.map fun p=>(aP ts p.1,V.int p.2)
noncomputable def oQ (L:Ly):List Nat:=[L.hb,L.hi,L.hu]
structure dE3(L:Ly)(X:cX):Prop where
 a:L.ho∉fV L X∧L.hd∉fV L X∧L.hb∉fV L X∧L.hi∉fV L X∧L.hs∉fV L X∧L.hv∉fV L X∧L.hu∉fV L X
 b:∀j∈oQ L,j≠L.kt∧j≠L.kd∧j≠L.ho∧j≠L.hd∧j≠L.hs∧j≠L.hv
 c:L.hb≠L.hi∧L.hb≠L.hu∧L.hi≠L.hu
structure WS(σ:aD)(L:Ly)(X:cX)(W:Wd)(ts:List V)(lb:List (V×V))(lu:List (V×Int))(li:List (V×List V)):Prop where
 k:KS σ L X W ts
 ho:σ[L.ho]? =some (.inst .host L.hd)
 hd:σ[L.hd]? =some (.ns (lJ L.kt L.hb L.hi L.hs L.hv L.hu L.hbo L.hg L.hn))
 hs:σ[L.hs]? =some (.dict kI)
 hv:σ[L.hv]? =some (.dict (lM W))
 hb:σ[L.hb]? =some (.dict (bD ts lb))
 hi:σ[L.hi]? =some (.dict (iN ts li))
 hu:σ[L.hu]? =some (.dict (uD ts lu))
 mb:∀p∈lb,p.1∈ts∧p.2∈ts
 mu:∀p∈lu,p.1∈ts
 mi:∀p∈li,p.2≠[]→p.1∈ts∧∀y∈p.2,y∈ts
 ap:kF σ X (oQ L)
 sp:dE3 L X
section
variable {σ:aD}{L:Ly}{X:cX}{W:Wd}{ts:List V}{lb:List (V×V)}{lu:List (V×Int)}{li:List (V×List V)}
theorem kF.kp{S T:List Nat}{kt:Nat}{σ':aD}(A:kF σ X T)(R:fO σ kt X W)(hf:X.f∉S)(K:cA S σ σ'):kF σ' X T:=by
 obtain⟨es,a,_⟩:=R.f
 refine⟨A.w,A.u,A.y,A.b,A.f,fun es' h=> ?_⟩
 rw[K.2 _ _ hf a]at h;cases h
 exact A.fl es a
theorem kF.mono{S T:List Nat}(A:kF σ X T)(h:∀i∈S,i∈T):kF σ X S:=
 ⟨fun q=>A.w (h _ q),fun q=>A.u (h _ q),fun q=>A.y (h _ q),fun q=>A.b (h _ q),fun q=>A.f (h _ q),fun es e x j d q=>A.fl es e x j d (h _ q)⟩
theorem cD1{ts':List V}(hp:ts<+:ts')(h:∀p∈li,p.2≠[]→p.1∈ts∧∀y∈p.2,y∈ts):iN ts' li=iN ts li:=by
 unfold iN
 refine List.map_congr_left fun p hp'=> ?_
 have hm:=(List.mem_filter.mp hp').1
 have hne:p.2≠[]:=by simpa using(List.mem_filter.mp hp').2
 rw[d7 hp (h p hm hne).1]
 congr 2
 exact List.map_congr_left fun y hy=>d7 hp ((h p hm hne).2 y hy)
theorem cU0{ts':List V}(hp:ts<+:ts')(h:∀p∈lb,p.1∈ts∧p.2∈ts):bD ts' lb=bD ts lb:=by
 unfold bD
 refine List.map_congr_left fun p hp'=> ?_
 rw[d7 hp (h p hp').1,d7 hp (h p hp').2]
theorem cM4{ts':List V}(hp:ts<+:ts')(h:∀p∈lu,p.1∈ts):uD ts' lu=uD ts lu:=by
 unfold uD
 refine List.map_congr_left fun p hp'=> ?_
 rw[d7 hp (h p hp')]
theorem WS.made{σ':aD}{ts':List V}{c:Nat}(H:WS σ L X W ts lb lu li)(M:lH σ L X W ts c σ' ts'):WS σ' L X W ts' lb lu li:=by
 obtain⟨k,K,hp,_⟩:=M
 obtain⟨s1,s2,s3,s4,s5,s6,s7⟩:=H.sp.a
 have sub:=hp.subset
 refine⟨k,K.2 _ _ s1 H.ho,K.2 _ _ s2 H.hd,K.2 _ _ s5 H.hs,K.2 _ _ s6 H.hv,?_,?_,?_,fun p h=>⟨sub (H.mb p h).1,sub (H.mb p h).2⟩,fun p h=>sub (H.mu p h),fun p h hne=>⟨sub (H.mi p h hne).1,fun y hy=>sub ((H.mi p h hne).2 y hy)⟩,H.ap.kp H.k.w H.k.a.f K,H.sp⟩
 ·rw[cU0 hp H.mb];exact K.2 _ _ s3 H.hb
 ·rw[cD1 hp H.mi];exact K.2 _ _ s4 H.hi
 ·rw[cM4 hp H.mu];exact K.2 _ _ s7 H.hu
theorem KS.off{σ':aD}{j:Nat}(H:KS σ L X W ts)(A:kF σ X [j])(h1:j∉fV L X)(h2:j≠L.kt)(h3:j≠L.kd)(K:cA [j] σ σ'):KS σ' L X W ts:=by
 have h1':j≠X.m∧j∉kH L:=by simpa [fV,not_or]using h1
 obtain⟨M,m1,m2⟩:=H.m
 exact⟨H.t.kps ⟨h1'.2,h2,h3⟩ K,(H.w.kps A K).1,H.a.kp H.w A.f K,⟨M,K.2 _ _ (dX (Ne.symm h1'.1) j7) m1,m2⟩,H.mt⟩
theorem WS.off{σ':aD}{j:Nat}(H:WS σ L X W ts lb lu li)(hj:j∈oQ L)(K:cA [j] σ σ'):KS σ' L X W ts∧σ'[L.ho]? =some (.inst .host L.hd)∧σ'[L.hd]? =some (.ns (lJ L.kt L.hb L.hi L.hs L.hv L.hu L.hbo L.hg L.hn))∧σ'[L.hs]? =some (.dict kI)∧σ'[L.hv]? =some (.dict (lM W))∧kF σ' X (oQ L)∧(∀(i:Nat) (o:bF),i≠j→σ[i]? =some o→σ'[i]? =some o):=by
 obtain⟨b1,b2,b3,b4,b5,b6⟩:=H.sp.b j hj
 have hA:kF σ X [j]:=H.ap.mono fun i hi=>by simp at hi;rw[hi];exact hj
 have hks:j∉fV L X:=by
  obtain⟨s1,s2,s3,s4,s5,s6,s7⟩:=H.sp.a
  simp only[oQ,List.mem_cons,List.not_mem_nil,or_false]at hj
  rcases hj with rfl |rfl |rfl<;>assumption
 have c:∀(i:Nat) (o:bF),i≠j→σ[i]? =some o→σ'[i]? =some o:=fun i o h e=>K.2 i o (dX h j7) e
 exact⟨H.k.off hA hks b1 b2 K,c _ _ b3.symm H.ho,c _ _ b4.symm H.hd,c _ _ b5.symm H.hs,c _ _ b6.symm H.hv,H.ap.kp H.k.w hA.f K,c⟩
theorem WS.mkk(H:WS σ L X W ts lb lu li){m:Nat}(hm:16≤m){x:V}(dx:dP 5 x=true)(hlen:ts.length+243<49000):
  ∃(ts':List V) (σ':aD),aL m .law_kind [.ref X.w,x] σ=some (aP ts' x,σ')∧WS σ' L X W ts' lb lu li∧cA (fV L X) σ σ'∧ts<+:ts'∧x∈ts'∧ts'.length≤ts.length+243:=by
 have h5:3^5=243:=by decide
 refine(xC 5 x m dx (jV (Nat.le_of_ble_eq_true rfl) dx) hm σ ts H.k hlen) _ fun t s k1 k2 k3=> ?_
 exact⟨t,s,k1,H.made k2,k2.2.1,k2.2.2.1,k3,by have:=k2.2.2.2;exact this⟩
theorem WS.ext{σ':aD}(H:WS σ L X W ts lb lu li)(E:cM σ σ')(hl:σ.length≤σ'.length):WS σ' L X W ts lb lu li:=
 H.made (c:=0) ⟨H.k.ext E,⟨hl,fun i o _ h=>E i o h⟩,List.prefix_rfl,xQ⟩
theorem WS.fields(H:WS σ L X W ts lb lu li){ρ:Env}(r1:ρ 1=some (.ref L.ho)):aR (aA 1) "bases" ρ σ=some (.ref L.hb,σ)∧aR (aA 1) "ifaces" ρ σ=some (.ref L.hi,σ)∧aR (aA 1) "unders" ρ σ=some (.ref L.hu,σ):=by
 have hf:cS σ L.ho=some (.host,L.hd,lJ L.kt L.hb L.hi L.hs L.hv L.hu L.hbo L.hg L.hn):=by simp only[cS,H.ho,H.hd]
 exact⟨eR (aH r1) hf rfl,eR (aH r1) hf rfl,eR (aH r1) hf rfl⟩
theorem uL{o k e:EM}{ρ:Env}{v kv:V}{j:Nat}{es:List (V×V)}{σ1 σ2 σ3:aD}(he:e ρ σ=some (v,σ1))(ho:o ρ σ1=some (.ref j,σ2))(hk:k ρ σ2=some (kv,σ3))(hd:σ3[j]? =some (.dict es))(h1:fM es kv=true)(h2:es.length≤100000):
  bP o k e ρ σ=some (.next,ρ,σ3.set j (.dict (dG es kv v))):=by
 simp only[bP,he,ho,hk,hd,h1,decide_eq_true h2,Bool.and_self,if_true]
noncomputable def RB (m:Nat):SM:=(aC (cG (aJ (aL m .law_kind) [(aA 7),(aA 8)])) aF)
noncomputable def aJ6 (L:Ly) (X:cX) (W:Wd) (lb:List (V×V)) (lu:List (V×Int)) (li:List (V×List V)) (m:Nat) (all:List V) (l:List V) (ρ:Env) (σ:aD) (ts:List V):Prop:=∀G:Prop,(∀(ρ':Env),∀(σ':aD),∀(ts':List V),(dM 8 (RB m) .fix all l ρ σ=some (.next,ρ',σ'))→((∀j,j≠8→ρ' j=ρ j))→(WS σ' L X W ts' lb lu li)→(cA (fV L X) σ σ')→(ts<+:ts')→((∀x∈l,x∈ts'))→(ts'.length≤ts.length+243*l.length)→G)→G
theorem bB9{m:Nat}(hm:16≤m)(all:List V):∀(l:List V) (ρ:Env) (σ:aD) (ts:List V),WS σ L X W ts lb lu li→(∀x∈l,dP 5 x=true)→ρ 7=some (.ref X.w)→ts.length+243*l.length<49000→
  aJ6 L X W lb lu li m all l ρ σ ts:=by
 intro l
 induction l with
 |nil=>intro ρ σ ts H _ _ _;exact(fun _ k=>k ρ σ ts rfl (fun _ _=>rfl) H .refl List.prefix_rfl nofun (by simp))
 |cons x l ih=>
  intro ρ σ ts H hw r7 hlen
  simp only[List.length_cons,Nat.mul_add,Nat.mul_one]at hlen
  obtain⟨t1,σ1,k1,k2,k3,k4,k5,k6⟩:=H.mkk hm (hw x (.head _)) (nM6 hlen)
  refine(ih (aZ ρ 8 x) σ1 t1 k2 (fun y hy=>hw y (.tail _ hy)) r7 (nM7 k6 hlen)) _ fun ρ' σ2 t2 g1 g2 g3 g4 g5 g6 g7=> ?_
  refine(fun _ k=>k ρ' σ2 t2 ?_ (fun j hj=>by rw[g2 j hj];exact if_neg (by assumption)) g3 (k3.trans g4) (k4.trans g5) (fun y hy=> ?_) (by simp only[List.length_cons,Nat.mul_add,Nat.mul_one];exact nM8 k6 g7))
  ·have hc:aJ (aL m .law_kind) [(aA 7),(aA 8)] (aZ ρ 8 x) σ=some (aP t1 x,σ1):=
    (iY (bR (bK (show aZ ρ 8 x 7=some (.ref X.w) by exact r7)) (bR (bK (show aZ ρ 8 x 8=some x by exact rfl)) eG))).trans k1
   have hb:RB m (aZ ρ 8 x) σ=some (.next,aZ ρ 8 x,σ1):=by
    unfold RB
    rw[bJ (aJ3 hc)];rfl
   simp only[dM,hb,eS,if_true,g1]
  ·rcases List.mem_cons.mp hy with rfl |hy
   ·exact g5.subset k5
   ·exact g6 y hy
end
end
section
section
variable {σ:aD}{L:Ly}{X:cX}{W:Wd}{ts:List V}{lb:List (V×V)}{lu:List (V×Int)}{li:List (V×List V)}
theorem aL8{x y:V}(hx:x∈ts)(hy:y∈ts)(h:x≠y):aP ts x≠aP ts y:=fun e=>by
 rw[kT,kT]at e
 have:eF ts x=eF ts y:=by simp at e;exact nIi e
 exact h (gF hx hy this)
theorem WS.setb(H:WS σ L X W ts lb lu li){x y:V}(hx:x∈ts)(hy:y∈ts)(hn:∀p∈lb,p.1≠x)(hl:lb.length≤1000):
  fM (bD ts lb) (aP ts x)=true∧(bD ts lb).length≤100000∧WS (σ.set L.hb (.dict (dG (bD ts lb) (aP ts x) (aP ts y)))) L X W ts (lb++[(x,y)]) lu li:=by
 obtain⟨k,f1,f2,f3,f4,f5,c⟩:=H.off (j:=L.hb) (.head _) (cA.set (S:=[L.hb]) (i:=L.hb) (o:= .dict (dG (bD ts lb) (aP ts x) (aP ts y))) (.head _))
 have hint:iF (bD ts lb):=by
  intro e he
  obtain⟨p,_,rfl⟩:=List.mem_map.mp he
  rfl
 have hput:dG (bD ts lb) (aP ts x) (aP ts y)=bD ts (lb++[(x,y)]):=by
  rw[kO]
  ·simp[bD]
  ·intro e he
   obtain⟨p,hp,rfl⟩:=List.mem_map.mp he
   exact aL8 (H.mb p hp).1 hx (hn p hp)
 refine⟨fU hint _,by simp[bD];exact d0 hl rfl,k,f1,f2,f3,f4,?_,c _ _ H.sp.c.1.symm H.hi,c _ _ H.sp.c.2.1.symm H.hu,?_,H.mu,H.mi,f5,H.sp⟩
 ·rw[cO H.hb,hput]
 ·intro p hp
  rcases List.mem_append.mp hp with hp |hp
  ·exact H.mb p hp
  ·rw[List.mem_singleton.mp hp];exact⟨hx,hy⟩
theorem WS.setu(H:WS σ L X W ts lb lu li){x:V}{i:Int}(hx:x∈ts)(hn:∀p∈lu,p.1≠x)(hl:lu.length≤1000):
  fM (uD ts lu) (aP ts x)=true∧(uD ts lu).length≤100000∧WS (σ.set L.hu (.dict (dG (uD ts lu) (aP ts x) (.int i)))) L X W ts lb (lu++[(x,i)]) li:=by
 obtain⟨k,f1,f2,f3,f4,f5,c⟩:=H.off (j:=L.hu) (.tail _ (.tail _ (.head _))) (cA.set (S:=[L.hu]) (i:=L.hu) (o:= .dict (dG (uD ts lu) (aP ts x) (.int i))) (.head _))
 have hint:iF (uD ts lu):=by
  intro e he
  obtain⟨p,_,rfl⟩:=List.mem_map.mp he
  rfl
 have hput:dG (uD ts lu) (aP ts x) (.int i)=uD ts (lu++[(x,i)]):=by
  rw[kO]
  ·simp[uD]
  ·intro e he
   obtain⟨p,hp,rfl⟩:=List.mem_map.mp he
   exact aL8 (H.mu p hp) hx (hn p hp)
 refine⟨fU hint _,by simp[uD];exact d0 hl rfl,k,f1,f2,f3,f4,c _ _ H.sp.c.2.1 H.hb,c _ _ H.sp.c.2.2 H.hi,?_,H.mb,?_,H.mi,f5,H.sp⟩
 ·rw[cO H.hu,hput]
 ·intro p hp
  rcases List.mem_append.mp hp with hp |hp
  ·exact H.mu p hp
  ·rw[List.mem_singleton.mp hp];exact hx
theorem WS.seti(H:WS σ L X W ts lb lu li){x:V}{l:List V}(hx:x∈ts)(hy:∀y∈l,y∈ts)(hne:l≠[])(hn:∀p∈li,p.1≠x)(hl:li.length≤1000):
  fM (iN ts li) (aP ts x)=true∧(iN ts li).length≤100000∧WS (σ.set L.hi (.dict (dG (iN ts li) (aP ts x) (.tup (l.map (aP ts)))))) L X W ts lb lu (li++[(x,l)]):=by
 obtain⟨k,f1,f2,f3,f4,f5,c⟩:=H.off (j:=L.hi) (.tail _ (.head _)) (cA.set (S:=[L.hi]) (i:=L.hi) (o:= .dict (dG (iN ts li) (aP ts x) (.tup (l.map (aP ts))))) (.head _))
 have hint:iF (iN ts li):=by
  intro e he
  obtain⟨p,_,rfl⟩:=List.mem_map.mp he
  rfl
 have hput:dG (iN ts li) (aP ts x) (.tup (l.map (aP ts)))=iN ts (li++[(x,l)]):=by
  rw[kO]
  ·have:(!l.isEmpty)=true:=by simpa using hne
   simp[iN,List.filter_append,this]
  ·intro e he
   obtain⟨p,hp,rfl⟩:=List.mem_map.mp he
   obtain⟨hp,hq⟩:=List.mem_filter.mp hp
   exact aL8 (H.mi p hp (by simpa using hq)).1 hx (hn p hp)
 have hlen:(iN ts li).length≤li.length:=by
  unfold iN
  rw[List.length_map]
  exact List.length_filter_le _ _
 refine⟨fU hint _,nL2 hlen hl rfl,k,f1,f2,f3,f4,c _ _ H.sp.c.1 H.hb,?_,c _ _ H.sp.c.2.2.symm H.hu,H.mb,H.mu,?_,f5,H.sp⟩
 ·rw[cO H.hi,hput]
 ·intro p hp
  rcases List.mem_append.mp hp with hp |hp
  ·exact H.mi p hp
  ·rw[List.mem_singleton.mp hp];exact fun _=>⟨hx,hy⟩
theorem WS.skip(H:WS σ L X W ts lb lu li)(x:V):WS σ L X W ts lb lu (li++[(x,[])]):=
 ⟨H.k,H.ho,H.hd,H.hs,H.hv,H.hb,by
  have:iN ts (li++[(x,[])])=iN ts li:=by simp[iN,List.filter_append]
  rw[this];exact H.hi,H.hu,H.mb,H.mu,fun p hp hne=>by
  rcases List.mem_append.mp hp with hp |hp
  ·exact H.mi p hp hne
  ·rw[List.mem_singleton.mp hp]at hne;exact absurd rfl hne,H.ap,H.sp⟩
noncomputable def Kh (L:Ly) (X:cX):aD→aD→Prop:=cA (oQ L++fV L X)
theorem Kh.ks{σ':aD}(K:cA (fV L X) σ σ'):Kh L X σ σ':=cA.mono K fun i hi=>List.mem_append_right _ hi
noncomputable def BB (m:Nat):SM:=(aC (bP (aR (aA 1) "bases") (aJ (aL m .law_kind) [(aA 7),(aA 8)]) (aJ (aL m .law_kind) [(aA 7),(aG (aG (aA 7) (bU "base")) (aA 8))])) aF)
noncomputable def aU4 (σ:aD) (L:Ly) (X:cX) (W:Wd) (ts:List V) (lb:List (V×V)) (lu:List (V×Int)) (li:List (V×List V)) (m:Nat) (x:V) (y:V) (ρ:Env):Prop:=∀G:Prop,(∀(σ':aD),∀(ts':List V),(BB m ρ σ=some (.next,ρ,σ'))→(WS σ' L X W ts' (lb++[(x,y)]) lu li)→(Kh L X σ σ')→(ts<+:ts')→(ts'.length≤ts.length+500)→G)→G
theorem aC7{m:Nat}(hm:16≤m)(H:WS σ L X W ts lb lu li){x y:V}(hd:bW (oU W) x=some y)(hk:x.kind=2)(dx:dP 5 x=true)(dy:dP 5 y=true)(hn:∀p∈lb,p.1≠x)(hl:lb.length≤1000){ρ:Env}(r1:ρ 1=some (.ref L.ho))(r7:ρ 7=some (.ref X.w))(r8:ρ 8=some x)(hlen:ts.length+600<49000):
  aU4 σ L X W ts lb lu li m x y ρ:=by
 obtain⟨_,wb,_⟩:=sX (num:=tP W.u1) H.k.w.w (bK (σ:=σ) r7)
 have b1:aG (aG (aA 7) (bU "base")) (aA 8) ρ σ=some (y,σ):=by
  refine fT wb (bK r8) ?_
  have hb:σ[X.b]? =some (.dict (oU W)):=H.k.w.b
  simp only[gH,hb,eX (yG W) hk,if_true,hd]
 obtain⟨t1,σ1,k1,k2,k3,k4,k5,k6⟩:=H.mkk hm dy (xP (Nat.le_of_lt hlen) rfl)
 obtain⟨t2,σ2,g1,g2,g3,g4,g5,g6⟩:=k2.mkk hm dx (nQg k6 hlen rfl)
 have v1:aJ (aL m .law_kind) [(aA 7),(aG (aG (aA 7) (bU "base")) (aA 8))] ρ σ=some (aP t2 y,σ1):=by
  rw[d7 g4 k5]
  exact(iY (bR (bK r7) (bR b1 eG))).trans k1
 have v2:aJ (aL m .law_kind) [(aA 7),(aA 8)] ρ σ1=some (aP t2 x,σ2):=(iY (bR (bK r7) (bR (bK r8) eG))).trans g1
 obtain⟨d1,d2,d3⟩:=g2.setb g5 (g4.subset k5) hn hl
 refine(fun _ k=>k _ t2 ?_ d3 (((Kh.ks k3).trans (Kh.ks g3)).trans (.set (.head _))) (k4.trans g4) (nM9 k6 g6 rfl))
 unfold BB
 rw[bJ (uL v1 (k2.fields r1).1 v2 g2.hb d1 d2)]
 rfl
noncomputable def UBs (m:Nat):SM:=(aC (bP (aR (aA 1) "unders") (aJ (aL m .law_kind) [(aA 7),(aA 8)]) (aG (aG (aG (aA 7) (bU "under")) (aA 8)) (aB 1))) aF)
noncomputable def o3 (W:Wd):List (V×V):=[(tm 75 [],tP W.u1),(tm 76 [],tP W.u2)]
noncomputable def aH0 (σ:aD) (L:Ly) (X:cX) (W:Wd) (ts:List V) (lb:List (V×V)) (lu:List (V×Int)) (li:List (V×List V)) (m:Nat) (x:V) (i:Int) (ρ:Env):Prop:=∀G:Prop,(∀(σ':aD),∀(ts':List V),(UBs m ρ σ=some (.next,ρ,σ'))→(WS σ' L X W ts' lb (lu++[(x,i)]) li)→(Kh L X σ σ')→(ts<+:ts')→(ts'.length≤ts.length+500)→G)→G
theorem w7{m:Nat}(hm:16≤m)(H:WS σ L X W ts lb lu li){x:V}{i:Int}(hd:bW (o3 W) x=some (tP i))(hdk:fM (o3 W) x=true)(dx:dP 5 x=true)(hn:∀p∈lu,p.1≠x)(hl:lu.length≤1000){ρ:Env}(r1:ρ 1=some (.ref L.ho))(r7:ρ 7=some (.ref X.w))(r8:ρ 8=some x)(hlen:ts.length+600<49000):
  aH0 σ L X W ts lb lu li m x i ρ:=by
 obtain⟨_,_,_,wu,_⟩:=sX (num:=tP W.u1) H.k.w.w (bK (σ:=σ) r7)
 have b1:aG (aG (aG (aA 7) (bU "under")) (aA 8)) (aB 1) ρ σ=some (.int i,σ):=by
  have hu:σ[X.u]? =some (.dict (o3 W)):=H.k.w.u
  have:aG (aG (aA 7) (bU "under")) (aA 8) ρ σ=some (tP i,σ):=fT wu (bK r8) (by simp only[gH,hu,hdk,if_true,hd])
  exact fT this (gV 1 ρ) (fC rfl (eC rfl))
 obtain⟨t2,σ2,g1,g2,g3,g4,g5,g6⟩:=H.mkk hm dx (xP (Nat.le_of_lt hlen) rfl)
 have v2:aJ (aL m .law_kind) [(aA 7),(aA 8)] ρ σ=some (aP t2 x,σ2):=(iY (bR (bK r7) (bR (bK r8) eG))).trans g1
 obtain⟨d1,d2,d3⟩:=g2.setu (i:=i) g5 hn hl
 refine(fun _ k=>k _ t2 ?_ d3 ((Kh.ks g3).trans (.set (.tail _ (.tail _ (.head _))))) g4 (by omega))
 unfold UBs
 rw[bJ (uL b1 (H.fields r1).2.2 v2 g2.hu d1 d2)]
 rfl
noncomputable def aD4 (L:Ly) (X:cX) (W:Wd) (lb:List (V×V)) (lu:List (V×Int)) (li:List (V×List V)) (m:Nat) (cap:Env) (src:Sr) (all:List V) (l:List V) (σ:aD) (ts:List V):Prop:=∀G:Prop,(∀(ts':List V),∀(σ':aD),(jR (aJ (aL m .law_kind) [(aA 0),(aA 1)]) cap 1 src all l σ=some (l.map (aP ts'),σ'))→(WS σ' L X W ts' lb lu li)→(cA (fV L X) σ σ')→(ts<+:ts')→((∀y∈l,y∈ts'))→(ts'.length≤ts.length+243*l.length)→G)→G
theorem aT4{m:Nat}(hm:16≤m){cap:Env}(hc:cap 0=some (.ref X.w)){src:Sr}{all:List V}{σ0:aD}(hst:∀s:aD,cA (fV L X) σ0 s→eS s src all=true):∀(l:List V) (σ:aD) (ts:List V),cA (fV L X) σ0 σ→(∀y∈l,dP 5 y=true)→WS σ L X W ts lb lu li→ts.length+243*l.length<49000→
  aD4 L X W lb lu li m cap src all l σ ts:=by
 intro l
 induction l with
 |nil=>intro σ ts _ _ H _;exact(fun _ k=>k ts σ rfl H .refl List.prefix_rfl nofun (by simp))
 |cons y l ih=>
  intro σ ts K0 hw H hlen
  simp only[List.length_cons,Nat.mul_add,Nat.mul_one]at hlen
  obtain⟨t1,σ1,k1,k2,k3,k4,k5,k6⟩:=H.mkk hm (hw y (.head _)) (nM6 hlen)
  refine(ih σ1 t1 (K0.trans k3) (fun z hz=>hw z (.tail _ hz)) k2 (nM7 k6 hlen)) _ fun t2 σ2 g1 g2 g3 g4 g5 g6=> ?_
  have hel:aJ (aL m .law_kind) [(aA 0),(aA 1)] (aZ cap 1 y) σ=some (aP t1 y,σ1):=
   (iY (bR (bK (show aZ cap 1 y 0=some (.ref X.w) by exact hc)) (bR (bK (show aZ cap 1 y 1=some y by exact rfl)) eG))).trans k1
  refine(fun _ k=>k t2 σ2 ?_ g2 (k3.trans g3) (k4.trans g4) (fun z hz=> ?_) (by simp only[List.length_cons,Nat.mul_add,Nat.mul_one];exact nM8 k6 g6))
  ·simp only[jR,hel,hst σ1 (K0.trans k3),if_true,g1,List.map_cons]
   rw[d7 g4 k5]
  ·rcases List.mem_cons.mp hz with rfl |hz
   ·exact g4.subset k5
   ·exact g5 z hz
end
end
section
section
variable {σ:aD}{L:Ly}{X:cX}{W:Wd}{ts:List V}{lb:List (V×V)}{lu:List (V×Int)}{li:List (V×List V)}
noncomputable def FBs (m:Nat):SM:=(aC (a8 (aK .gt (cH (aG (aG (aA 7) (bU "faces")) (aA 8))) (aB 0))
(aC (bP (aR (aA 1) "ifaces") (aJ (aL m .law_kind) [(aA 7),(aA 8)]) (gI (gX [(0,7)] 1 (aG (aG (aA 7) (bU "faces")) (aA 8)) (aJ (aL m .law_kind) [(aA 0),(aA 1)])))) aF) aF) aF)
noncomputable def aT6 (σ:aD) (L:Ly) (X:cX) (W:Wd) (ts:List V) (lb:List (V×V)) (lu:List (V×Int)) (li:List (V×List V)) (m:Nat) (x:V) (l:List V) (ρ:Env):Prop:=∀G:Prop,(∀(σ':aD),∀(ts':List V),(FBs m ρ σ=some (.next,ρ,σ'))→(WS σ' L X W ts' lb lu (li++[(x,l)]))→(Kh L X σ σ')→(ts<+:ts')→(ts'.length≤ts.length+800)→G)→G
theorem bP7{m:Nat}(hm:16≤m)(H:WS σ L X W ts lb lu li){x:V}{l:List V}(hv:dD W.fl x=some l)(hk:x.kind=2)(hl2:l.length≤2)(dx:dP 5 x=true)(dl:∀y∈l,dP 5 y=true)(hn:∀p∈li,p.1≠x)(hl:li.length≤1000){ρ:Env}(r1:ρ 1=some (.ref L.ho))(r7:ρ 7=some (.ref X.w))(r8:ρ 8=some x)(hlen:ts.length+800<49000):
  aT6 σ L X W ts lb lu li m x l ρ:=by
 obtain⟨_,_,wf_,_⟩:=sX (num:=tP W.u1) H.k.w.w (bK (σ:=σ) r7)
 obtain⟨es,a,b,c⟩:=H.k.w.f
 obtain⟨j,p,q⟩:=(c x).1 l hv
 have hj:=H.k.a.fl es a x j p
 have b1:aG (aG (aA 7) (bU "faces")) (aA 8) ρ σ=some (.ref j,σ):=fT wf_ (bK r8) (by simp only[gH,a,eX b hk,if_true,p])
 have t1:aK .gt (cH (aG (aG (aA 7) (bU "faces")) (aA 8))) (aB 0) ρ σ=some (decide (((l.length:Nat):Int)>0),σ):=yX (nX b1 q (d0 hl2 rfl)) (gJ 0 ρ) rfl
 by_cases he:l=[]
 ·subst he
  rw[decide_eq_false nofun]at t1
  refine(fun _ k=>k σ ts ?_ (H.skip x) .refl List.prefix_rfl xQ)
  unfold FBs
  rw[bJ (show(a8 _ _ aF) ρ σ=some (.next,ρ,σ) by rw[aA9 t1];rfl)]
  rfl
 ·have hpos:0<l.length:=List.length_pos_iff.mpr he
  rw[decide_eq_true (by omega)]at t1
  have hst:∀s:aD,cA (fV L X) σ s→eS s (.list j) l=true:=fun s K=>by
   simp only[eS,K.2 _ _ hj q,(V.beqL_iff l l).mpr rfl]
  refine(aT4 hm (cap:=iU [(0,7)] ρ) r7 hst l σ ts .refl dl H (by omega)) _ fun t1' σ1 g1 g2 g3 g4 g5 g6=> ?_
  let σ2:aD:=σ1++[bF.list (l.map (aP t1'))]
  have H2:WS σ2 L X W t1' lb lu li:=g2.ext .app dD4
  have hcomp:gX [(0,7)] 1 (aG (aG (aA 7) (bU "faces")) (aA 8)) (aJ (aL m .law_kind) [(aA 0),(aA 1)]) ρ σ=some (.ref σ1.length,σ2):=by
   have:l.length≤1000:=d0 hl2 rfl
   unfold gX
   rw[b1]
   simp only[fS,q,this,if_true,g1,eP]
   rfl
  have v1:gI (gX [(0,7)] 1 (aG (aG (aA 7) (bU "faces")) (aA 8)) (aJ (aL m .law_kind) [(aA 0),(aA 1)])) ρ σ=some (.tup (l.map (aP t1')),σ2):=by
   have hg:σ2[σ1.length]? =some (.list (l.map (aP t1'))):=mR rfl
   have hle:(l.map (aP t1')).length≤1000:=by simp;exact d0 hl2 rfl
   simp only[gI,hcomp,hg,hle,if_true]
  obtain⟨t2,σ3,k1,k2,k3,k4,k5,k6⟩:=H2.mkk hm dx (by omega)
  have v2:aJ (aL m .law_kind) [(aA 7),(aA 8)] ρ σ2=some (aP t2 x,σ3):=(iY (bR (bK r7) (bR (bK r8) eG))).trans k1
  have hmap:l.map (aP t1')=l.map (aP t2):=List.map_congr_left fun y hy=>(d7 k4 (g5 y hy)).symm
  rw[hmap]at v1
  obtain⟨d1,d2,d3⟩:=k2.seti k5 (fun y hy=>k4.subset (g5 y hy)) he hn hl
  refine(fun _ k=>k _ t2 ?_ d3 ((((Kh.ks g3).trans .app).trans (Kh.ks k3)).trans (.set (.tail _ (.head _)))) (g4.trans k4) (by omega))
  unfold FBs
  have hin:(aC (bP (aR (aA 1) "ifaces") (aJ (aL m .law_kind) [(aA 7),(aA 8)]) (gI (gX [(0,7)] 1 (aG (aG (aA 7) (bU "faces")) (aA 8)) (aJ (aL m .law_kind) [(aA 0),(aA 1)])))) aF) ρ σ=some (.next,ρ,σ3.set L.hi (.dict (dG (iN t2 li) (aP t2 x) (.tup (l.map (aP t2)))))):=by
   rw[bJ (uL v1 (H2.fields r1).2.1 v2 k2.hi d1 d2)]
   rfl
  rw[bJ (show(a8 _ _ aF) ρ σ=some (.next,ρ,_) by rw[aJ1 t1];exact hin)]
  rfl
theorem bV2{fl:List (V×List V)}(nd:(fl.map (·.1)).Nodup){p:V×List V}(h:p∈fl):dD fl p.1=some p.2:=by
 induction fl with
 |nil=>cases h
 |cons q fl ih=>
  rw[List.map_cons,List.nodup_cons]at nd
  unfold dD
  rcases List.mem_cons.mp h with rfl |h
  ·rw[V.beq_self];rfl
  ·rw[V.beq_ne fun(e:q.1=p.1)=>nd.1 (by rw[e];exact List.mem_map_of_mem h)]
   exact ih nd.2 h
noncomputable def aN4 (L:Ly) (X:cX) (W:Wd) (lb:List (V×V)) (lu:List (V×Int)) (m:Nat) (r:List (V×List V)) (ρ:Env) (σ:aD) (ts:List V):Prop:=∀G:Prop,(∀(ρ':Env),∀(σ':aD),∀(ts':List V),(dM 8 (FBs m) (.dict X.f) (W.fl.map (·.1)) (r.map (·.1)) ρ σ=some (.next,ρ',σ'))→((∀j,j≠8→ρ' j=ρ j))→(WS σ' L X W ts' lb lu W.fl)→(Kh L X σ σ')→(ts<+:ts')→(ts'.length≤ts.length+800*r.length)→G)→G
theorem bE1{m:Nat}(hm:16≤m)(nd:(W.fl.map (·.1)).Nodup)(hok:∀p∈W.fl,rQ 2 p.1 p.2)(hll:W.fl.length≤1000){es:List (V×V)}(hes:es.map (·.1)=W.fl.map (·.1)):∀(r li:List (V×List V)) (ρ:Env) (σ:aD) (ts:List V),W.fl=li++r→WS σ L X W ts lb lu li→σ[X.f]? =some (.dict es)→ρ 1=some (.ref L.ho)→ρ 7=some (.ref X.w)→ts.length+800*r.length<48000→
  aN4 L X W lb lu m r ρ σ ts:=by
 intro r
 induction r with
 |nil=>intro li ρ σ ts e H _ _ _ _;rw[List.append_nil]at e;exact(fun _ k=>k ρ σ ts rfl (fun _ _=>rfl) (e▸H) .refl List.prefix_rfl (by simp))
 |cons p r ih=>
  intro li ρ σ ts e H hf r1 r7 hlen
  simp only[List.length_cons,Nat.mul_add,Nat.mul_one]at hlen
  have hp:p∈W.fl:=by rw[e];simp
  have ok:=hok p hp
  have hnot:∀q∈li,q.1≠p.1:=fun q hq h=>by
   rw[e,List.map_append,List.nodup_append]at nd
   exact nd.2.2 q.1 (List.mem_map_of_mem hq) p.1 (.head _) h
  have hli:li.length≤1000:=by rw[e]at hll;simp at hll;exact kD hll
  have q1:aZ ρ 8 p.1 1=some (.ref L.ho):=r1
  have q7:aZ ρ 8 p.1 7=some (.ref X.w):=r7
  have q8:aZ ρ 8 p.1 8=some p.1:=rfl
  refine(bP7 hm H (bV2 nd hp) (iO (jV (Nat.le_of_ble_eq_true rfl) ok.1)) ok.2.2.1 (jV (Nat.le_of_ble_eq_true rfl) ok.1) (fun y hy=>jV (Nat.le_of_ble_eq_true rfl) (oX (List.all_eq_true.mp ok.2.2.2 y hy)).2.1) hnot hli q1 q7 q8 (nRb (kD (Nat.le_of_lt hlen)) rfl)) _ fun σ1 t1 g1 g2 g3 g4 g5=> ?_
  have hxf:X.f∉oQ L++fV L X:=fun h=>(List.mem_append.mp h).elim H.ap.f H.k.a.f
  have hf1:σ1[X.f]? =some (.dict es):=g3.2 _ _ hxf hf
  refine(ih (li++[p]) (aZ ρ 8 p.1) σ1 t1 (by rw[e];simp) g2 hf1 q1 q7 (nM7 g5 hlen)) _ fun ρ' σ2 t2 k1 k2 k3 k4 k5 k6=> ?_
  refine(fun _ k=>k ρ' σ2 t2 ?_ (fun j hj=>by rw[k2 j hj];exact if_neg (by assumption)) k3 (cA.trans g3 k4) (g4.trans k5) (by simp only[List.length_cons,Nat.mul_add,Nat.mul_one];exact nM8 g5 k6))
  have hs:eS σ1 (.dict X.f) (W.fl.map (·.1))=true:=by
   simp only[eS,hf1,hes,(V.beqL_iff (W.fl.map (·.1)) (W.fl.map (·.1))).mpr rfl]
  simp only[List.map_cons,dM,g1,hs,if_true,k1]
end
end
section
noncomputable def WE (m:Nat):SM:=(aC (dL 8 (aE [(aE [(aB 2)]),(aE [(aB 3)]),(aE [(aB 5)]),(aE [(aB 6)])]) (RB m))
(aC (dL 8 (aE [(aE [(aB 65)]),(aE [(aB 66)])]) (BB m))
(aC (dL 8 (aG (aA 7) (bU "under")) (UBs m))
(aC (dL 8 (aG (aA 7) (bU "faces")) (FBs m))
(aC (aW (aA 7)) aF)))))
theorem aZ4(m:Nat):qZ (aL m)=WA (WBb (WC m (WDd (WE m)))):=rfl
theorem aG7(fl:List (V×List V))(x:V)(l:List V):(iH fl x l).length≤fl.length+1:=by
 induction fl with
 |nil=>simp[iH]
 |cons p fl ih=>
  unfold iH
  split
  ·simp
  ·simp;exact ih
theorem zD:∀(l:List V) (b:Nat) (fl:List (V×List V)),(uF fl l b).length≤fl.length+l.length
 |[],_,_=>by simp[uF]
 |x::l,b,fl=>by
  have h1:=zD l (b/8) (iH fl x (j5 x (b%8)))
  have h2:=aG7 fl x (j5 x (b%8))
  simp only[uF,List.length_cons];exact nM8 h2 h1
theorem cS7(u:V)(b c:Nat):(flW u b c).length≤15:=by
 have h1:=aG7 (sU u b c) u (((dD (sU u b c) u).getD [])++[tm 69 [u]])
 have h2:=zD xU c (uF x7 (vS u) b)
 have h3:=zD (vS u) b x7
 have h4:(vS u).length=6:=rfl
 have h5:xU.length=6:=rfl
 have h6:x7.length=2:=rfl
 unfold flW
 unfold sU at h1⊢
 omega
theorem cI5{a b:Int}{l l2:List V}(h:decide (a=b)=false):tm a l≠tm b l2:=fun e=>of_decide_eq_false h (V.int.inj (List.cons.inj (V.tup.inj e)).1)
section
variable {σ:aD}{L:Ly}{X:cX}
noncomputable def bU8 (σ:aD) (L:Ly) (X:cX) (m:Nat) (a:Nat) (b:Nat) (c:Nat) (ρ:Env):Prop:=∀G:Prop,(∀(ρ':Env),∀(σ':aD),∀(ts:List V),(WE m ρ σ=some (.ret (.ref X.w),ρ',σ'))→(KS σ' L X (i9 a b c) ts)→(h9 σ' L X (i9 a b c) ts)→(Kh L X σ σ')→(ts.length≤16000)→G)→G
theorem cW4{m:Nat}(hm:16≤m){a b c:Nat}(H:WS σ L X (i9 a b c) hM [] [] []){es:List (V×V)}(hf:σ[X.f]? =some (.dict es))(hes:es.map (·.1)=(i9 a b c).fl.map (·.1)){ρ:Env}(r1:ρ 1=some (.ref L.ho))(r7:ρ 7=some (.ref X.w)):
  bU8 σ L X m a b c ρ:=by
 let W:=i9 a b c
 have O:dA W:=aV6 a b c
 have hpl:hM.length=16:=rfl
 refine(bB9 hm [tm 2 [],tm 3 [],tm 5 [],tm 6 []] [tm 2 [],tm 3 [],tm 5 [],tm 6 []] ρ σ hM H (kY (p:=fun x=>dP 5 x=true) rfl (kY rfl (kY rfl (kY rfl sV)))) r7 (eC rfl)) _ fun ρ1 σ1 t1 a1 a2 a3 a4 a5 a6 a7=> ?_
 have l1:t1.length≤1000:=d0 a7 rfl
 have e1:(dL 8 (aE [(aE [(aB 2)]),(aE [(aB 3)]),(aE [(aB 5)]),(aE [(aB 6)])]) (RB m)) ρ σ=some (.next,ρ1,σ1):=by
  rw[rX (show(aE [(aE [(aB 2)]),(aE [(aB 3)]),(aE [(aB 5)]),(aE [(aB 6)])]) ρ σ=some (.tup [tm 2 [],tm 3 [],tm 5 [],tm 6 []],σ)from rfl)];exact a1
 have dB:dP 5 W.bB=true:=by rcases O.bB with h |h<;>rw[h]<;>rfl
 have dC:dP 5 W.bC=true:=by rcases O.bC with h |h |h |h<;>rw[h]<;>rfl
 have u1:ρ1 1=some (.ref L.ho):=by rw[a2 1 (Nat.ne_of_beq_eq_false rfl)];exact r1
 have u7:ρ1 7=some (.ref X.w):=by rw[a2 7 (Nat.ne_of_beq_eq_false rfl)];exact r7
 refine(aC7 hm a3 (x:=tB) (y:=W.bB) rfl rfl rfl dB (fun _ h=>absurd h List.not_mem_nil) (by simp) (ρ:=aZ ρ1 8 tB) u1 u7 rfl (nRb l1 rfl)) _ fun σ2 t2 b1 b2 b3 b4 b5=> ?_
 refine(aC7 hm b2 (x:=tC) (y:=W.bC) rfl rfl rfl dC (kY (p:=fun(q:V×V)=>q.1≠tC) (cI5 rfl) sV) (by simp) (ρ:=aZ (aZ ρ1 8 tB) 8 tC) u1 u7 rfl (nRb (nQb b5 l1) rfl)) _ fun σ3 t3 c1 c2 c3 c4 c5=> ?_
 let ρ3:Env:=aZ (aZ ρ1 8 tB) 8 tC
 have e2:(dL 8 (aE [(aE [(aB 65)]),(aE [(aB 66)])]) (BB m)) ρ1 σ1=some (.next,ρ3,σ3):=by
  rw[rX (show(aE [(aE [(aB 65)]),(aE [(aB 66)])]) ρ1 σ1=some (.tup [tB,tC],σ1)from rfl)]
  exact pH b1 (pH c1 rfl)
 have u1:ρ3 1=some (.ref L.ho):=u1
 have u7:ρ3 7=some (.ref X.w):=u7
 refine(w7 hm c2 (x:=tm 75 []) (i:=W.u1) rfl rfl rfl (fun _ h=>absurd h List.not_mem_nil) (by simp) (ρ:=aZ ρ3 8 (tm 75 [])) u1 u7 rfl (by omega)) _ fun σ4 t4 d1 d2 d3 d4 d5=> ?_
 refine(w7 hm d2 (x:=tm 76 []) (i:=W.u2) rfl rfl rfl (kY (p:=fun(q:V×Int)=>q.1≠tm 76 []) (cI5 rfl) sV) (by simp) (ρ:=aZ (aZ ρ3 8 (tm 75 [])) 8 (tm 76 [])) u1 u7 rfl (by omega)) _ fun σ5 t5 f1 f2 f3 f4 f5=> ?_
 let ρ5:Env:=aZ (aZ ρ3 8 (tm 75 [])) 8 (tm 76 [])
 have e3:(dL 8 (aG (aA 7) (bU "under")) (UBs m)) ρ3 σ3=some (.next,ρ5,σ5):=by
  obtain⟨_,_,_,wu,_⟩:=sX (num:=tP W.u1) c2.k.w.w (bK (σ:=σ3) u7)
  have hu3:σ3[X.u]? =some (.dict (o3 W)):=c2.k.w.u
  have hu4:σ4[X.u]? =some (.dict (o3 W)):=d2.k.w.u
  have hu5:σ5[X.u]? =some (.dict (o3 W)):=f2.k.w.u
  have hit:fS (.ref X.u) σ3=some (.dict X.u,[tm 75 [],tm 76 []]):=by simp only[fS,hu3];rfl
  have hs:∀{s:aD},s[X.u]? =some (.dict (o3 W))→eS s (.dict X.u) [tm 75 [],tm 76 []]=true:=fun {s} h=>by
   simp only[eS,h];rfl
  simp only[dL,wu,hit,dM,d1,hs hu4,if_true,f1,hs hu5,ρ5]
 have u1:ρ5 1=some (.ref L.ho):=u1
 have u7:ρ5 7=some (.ref X.w):=u7
 have hxf:X.f∉oQ L++fV L X:=fun h=>(List.mem_append.mp h).elim H.ap.f H.k.a.f
 have K5:Kh L X σ σ5:=((((Kh.ks a4).trans b3).trans c3).trans d3).trans f3
 have hf5:σ5[X.f]? =some (.dict es):=K5.2 _ _ hxf hf
 have hok:∀p∈W.fl,rQ 2 p.1 p.2:=aN1 _ b c
 have nd:(W.fl.map (·.1)).Nodup:=aC2 _ b c
 have hll:W.fl.length≤15:=cS7 _ b c
 refine(bE1 hm nd hok (d0 hll rfl) hes W.fl [] ρ5 σ5 t5 rfl f2 hf5 u1 u7 (by omega)) _ fun ρ6 σ6 t6 g1 g2 g3 g4 g5 g6=> ?_
 have e4:(dL 8 (aG (aA 7) (bU "faces")) (FBs m)) ρ5 σ5=some (.next,ρ6,σ6):=by
  obtain⟨_,_,wf_,_⟩:=sX (num:=tP W.u1) f2.k.w.w (bK (σ:=σ5) u7)
  have hit:fS (.ref X.f) σ5=some (.dict X.f,W.fl.map (·.1)):=by simp only[fS,hf5,hes];rfl
  simp only[dL,wf_,hit,g1]
 have u7:ρ6 7=some (.ref X.w):=by rw[g2 7 (Nat.ne_of_beq_eq_false rfl)];exact u7
 have sub:∀{x:V},x∈t1→x∈t6:=fun {x} h=>g5.subset (f4.subset (d4.subset (c4.subset (b4.subset h))))
 refine(fun _ k=>k ρ6 σ6 t6 ?_ g3.k ⟨g3.ho,g3.hd,g3.hb,g3.hi,g3.hs,g3.hv,g3.hu,?_,g3.mi,?_,g3.sp.a⟩ (K5.trans g4) (by omega))
 ·unfold WE
  rw[bJ e1,bJ e2,bJ e3,bJ e4]
  exact aJ0 (cQ5 (bK u7))
 ·have hb:=g3.mb
  have hu:=g3.mu
  exact⟨(hb _ (.head _)).1,(hb _ (.tail _ (.head _))).1,(hb _ (.head _)).2,(hb _ (.tail _ (.head _))).2,hu _ (.head _),hu _ (.tail _ (.head _))⟩
 ·exact⟨sub (a6 _ (.head _)),sub (a6 _ (.tail _ (.head _))),sub (a6 _ (.tail _ (.tail _ (.head _)))),sub (a6 _ (.tail _ (.tail _ (.tail _ (.head _)))))⟩
end
end
section
section
variable {σ:aD}
theorem cB3{N kt:Nat}{W:Wd}(hN:σ.length=N){i:Nat}{o:bF}(h:(tV N kt W)[i]? =some o):(σ++tV N kt W)[N+i]? =some o:=by
 subst hN;exact jU h
noncomputable def bL1 (σ:aD) (z:Nat) (nj:Nat) (a:Nat) (b:Nat) (c:Nat) (nums:List Nat) (n:Nat) (f:FM):Prop:=∀G:Prop,(∀(L:Ly),∀(X:cX),∀(σ':aD),∀(ts:List V),(L.ho=z+8)→(f [.ref nj,.ref (z+8)] σ=some (.ref X.w,σ'))→(KS σ' L X (i9 a b c) ts)→(h9 σ' L X (i9 a b c) ts)→(ts.length≤16000)→(σ'[nj]? =some (.list (nums.map lF)))→G)→G
theorem cO9{z nj a b c:Nat}{nums:List Nat}(hc:∀(i:Nat) (o:bF),(jM z 16)[i]? =some o→σ[z+i]? =some o)(hh:∀(i:Nat) (o:bF),(xZ (z+7) (.ref (z+1)))[i]? =some o→σ[z+7+i]? =some o)(hN:σ.length=z+17)
  (hj:nj<z) (hn:σ[nj]? =some (.list (nums.map lF))) (hl:nums.length≤16) (ha:nums[0]? =some a) (hb:nums[1%nums.length]? =some b) (hc3:nums[2%nums.length]? =some c) {n:Nat} (hn17:17≤n):
  bL1 σ z nj a b c nums n (aL n .law_world):=by
 obtain⟨m,rfl⟩:∃m,n=m+1:=⟨n-1,xL hn17 rfl⟩
 rw[jS (mL hn17 rfl)]
 let W:=i9 a b c
 let N:=z+17
 let X:=dA7 N
 generalize hρ:(fun(i:Nat)=>[V.ref nj,.ref (z+8)][i]?)=ρ
 have r0:ρ 0=some (.ref nj):=by rw[←hρ];rfl
 have r1:ρ 1=some (.ref (z+8)):=by rw[←hρ];rfl
 refine(cW8 hn hl ha hb hc3 r0) _ fun ρ1 w1 q0 q1 q2 q3 q4 q5 q6=> ?_
 rw[r1]at q1
 have hho:σ[z+8]? =some (.inst .host (z+7)):=hh 1 _ rfl
 have hhd:σ[z+7]? =some (.ns (lJ (z+1) (z+9) (z+10) (z+11) (z+12) (z+13) (z+14) (z+15) (z+16))):=hh 0 _ rfl
 have hfd:cS σ (z+8)=some (.host,z+7,lJ (z+1) (z+9) (z+10) (z+11) (z+12) (z+13) (z+14) (z+15) (z+16)):=by simp only[cS,hho,hhd]
 have w2:=cW7 (b:=b) (c:=c) (kt:=z+1) hfd rfl q1 q2 q5 q6
 rw[hN]at w2
 let ρ2:Env:=aZ ρ1 7 (.ref (N+2))
 let σB:aD:=σ++tV N (z+1) W
 have cB:∀(i:Nat) (o:bF),(tV N (z+1) W)[i]? =some o→σB[N+i]? =some o:=fun i o h=>cB3 hN h
 have p7:ρ2 7=some (.ref X.w):=rfl
 have pj:∀j,j≠7→ρ2 j=ρ1 j:=fun j hj=>if_neg hj
 have lB:σB.length=N+8:=(yL (σ:=σ) (C:=tV N (z+1) W)).trans (congrArg (· +8) hN)
 have FB:iV σB (N+5) X.f [(tm 72 [tA],.ref (N+5)),(tm 72 [tB],.ref (N+6))] x7:=
  ⟨⟨rfl,N+5,rfl,cB 5 _ rfl,qA rfl,by show N+5≠N+7;exact gP rfl⟩,⟨rfl,N+6,rfl,cB 6 _ rfl,qA rfl,by show N+6≠N+7;exact gP rfl⟩,trivial⟩
 refine(cW6 (m:=m) (kt:=z+1) (lo:=N+5) (b:=b) (c:=c) (X:=X) (k:=a/648) (ρ:=ρ2) (mL hn17 rfl) (by show N+2≠N+7;exact gP rfl) (by rw[pj 3 (Nat.ne_of_beq_eq_false rfl)];exact q3) (by rw[pj 4 (Nat.ne_of_beq_eq_false rfl)];exact q4) (by rw[pj 6 (Nat.ne_of_beq_eq_false rfl)];exact q6) p7
  (cB 2 _ rfl) (cB 7 _ rfl) (kY rfl (kY rfl sV)) FB (lB▸qA rfl)) _ fun ρ3 σC es c1 c2 c3 c4 c5 c6=> ?_
 have cC:∀(j:Nat) (o:bF),j≠N+7→σB[j]? =some o→σC[j]? =some o:=fun j o h e=>c3.2 j o (dX h j7) e
 have oC:∀(j:Nat) (o:bF),σ[j]? =some o→σC[j]? =some o:=fun j o e=>cC j o (rH (Nat.lt_of_lt_of_eq (eV e) hN)) (cZ e)
 have lC:N+8≤σC.length:=lB▸c3.1
 refine(cW5 (a:=a) (b:=b) (c:=c) (ρ:=ρ3) (by rw[c2 1 (Nat.ne_of_beq_eq_false rfl) (Nat.ne_of_beq_eq_false rfl) (Nat.ne_of_beq_eq_false rfl),pj 1 (Nat.ne_of_beq_eq_false rfl)];exact q1) (by rw[c2 5 (Nat.ne_of_beq_eq_false rfl) (Nat.ne_of_beq_eq_false rfl) (Nat.ne_of_beq_eq_false rfl),pj 5 (Nat.ne_of_beq_eq_false rfl)];exact q5) (oC _ _ hho) (oC _ _ hhd)) _ fun σD d1 d2 d3 d4 d5=> ?_
 let L:=cH3 z σC.length (σC.length+1)
 have cD:∀(j:Nat) (o:bF),j≠z+7→σC[j]? =some o→σD[j]? =some o:=fun j o h e=>d2.2 j o (dX h j7) e
 have nD:∀(i:Nat) (o:bF),i≠7→(tV N (z+1) W)[i]? =some o→σD[N+i]? =some o:=fun i o h e=>cD _ _ (nNx rfl) (cC _ _ (nNy h) (cB i o e))
 have hes:es.map (·.1)=W.fl.map (·.1):=c6.keys
 have hfD:σD[X.f]? =some (.dict es):=cD _ _ (by show N+7≠z+7;exact nNx rfl) c4
 have FD:iV σD (N+5) X.f es W.fl:=c6.mono fun j o h _ e=>cD j o (xN (kD h) rfl) e
 have look:∀x:V,(∀l,dD W.fl x=some l→∃j:Nat,bW es x=some (.ref j)∧σD[j]? =some (.list l)∧N+5≤j∧j≠X.f)∧(dD W.fl x=none→bW es x=none):=fun x=>FD.look
 have R:fO σD (z+1) X W:=⟨nD 2 _ (Nat.ne_of_beq_eq_false rfl) rfl,nD 1 _ (Nat.ne_of_beq_eq_false rfl) rfl,nD 3 _ (Nat.ne_of_beq_eq_false rfl) rfl,nD 4 _ (Nat.ne_of_beq_eq_false rfl) rfl,es,hfD,c5,fun x=>⟨fun l h=>((look x).1 l h).imp fun _ q=>⟨q.1,q.2.1⟩,(look x).2⟩⟩
 have big:∀{S:List Nat},(∀i∈S,i≤N )→kF σD X S:=fun {S} h=>by
  have nin:∀k,N<k→k∉S:=fun k hk q=>Nat.not_lt.mpr (h k q) hk
  refine⟨nin _ (by show N<N+2;exact nA1 rfl),nin _ (by show N<N+1;exact nA1 rfl),nin _ (by show N<N+3;exact nA1 rfl),nin _ (by show N<N+4;exact nA1 rfl),nin _ (by show N<N+7;exact nA1 rfl),fun es' e x j q=> ?_⟩
  rw[hfD]at e;cases e
  induction v:dD W.fl x using Option.casesOn with
  |none=>rw[(look x).2 v]at q;exact aN q
  |some l=>
   obtain⟨j',p,_,g,_⟩:=(look x).1 l v
   rw[p]at q;cases q
   exact nin _ (nAu g rfl)
 have hks:fV L X=[N,z+2,z+3,z+4,z+5,z+6]:=rfl
 have hhs:oQ L=[z+9,z+10,z+13]:=rfl
 have hT:hY σD L hM:=bW2 fun i o h=>by
  exact cD _ _ (nNj (eV h)) (oC _ _ (hc i o h))
 have K0:KS σD L X W hM:=⟨hT,R,big (by show ∀i∈[N,z+2,z+3,z+4,z+5,z+6],i≤N;exact kY (p:=(· ≤N)) (Nat.le_refl _) (kY (qA rfl) (kY (qA rfl) (kY (qA rfl) (kY (qA rfl) (kY (qA rfl) sV)))))),
  ⟨[],nD 0 _ (Nat.ne_of_beq_eq_false rfl) rfl,(by intro e he;cases he),Nat.zero_le _,List.nodup_nil,(by intro x v h;cases h)⟩,
  ⟨by show N∉[z+2,z+3,z+4,z+5,z+6];exact dX (gP rfl) (dX (gP rfl) (dX (gP rfl) (dX (gP rfl) (dX (gP rfl) j7)))),by show N≠z+1;exact gP rfl,by show N≠z;exact y4 rfl⟩⟩
 have oD:∀(j:Nat) (o:bF),j≠z+7→σ[j]? =some o→σD[j]? =some o:=fun j o h e=>cD j o h (oC j o e)
 have hsep:dE3 L X:=by
  have t:∀{k},N+8≤k→k∉[N,z+2,z+3,z+4,z+5,z+6]:=fun {k} h=>by
   have h:z+25≤k:=h
   exact dX (xN h rfl) (dX (xN h rfl) (dX (xN h rfl) (dX (xN h rfl) (dX (xN h rfl) (dX (xN h rfl) j7)))))
  have s:∀{a:Nat},Nat.beq a 17=false→Nat.beq a 2=false→Nat.beq a 3=false→Nat.beq a 4=false→Nat.beq a 5=false→Nat.beq a 6=false→z+a∉[z+17,z+2,z+3,z+4,z+5,z+6]:=fun h1 h2 h3 h4 h5 h6=>dX (gP h1) (dX (gP h2) (dX (gP h3) (dX (gP h4) (dX (gP h5) (dX (gP h6) j7)))))
  have u:∀{a:Nat},Nat.beq a 1=false→Nat.beq a 0=false→Nat.beq a 8=false→Nat.beq a 7=false→Nat.ble (a+1) 25=true→z+a≠z+1∧z+a≠z∧z+a≠z+8∧z+a≠z+7∧z+a≠σC.length∧z+a≠σC.length+1:=fun {a} h1 h2 h3 h4 h5=>⟨gP h1,gP (b:=0) h2,gP h3,gP h4,(xN (z:=z) (b:=25) lC h5).symm,(xN (z:=z) (b:=25) (Nat.le_succ_of_le lC) h5).symm⟩
  exact⟨⟨s rfl rfl rfl rfl rfl rfl,s rfl rfl rfl rfl rfl rfl,s rfl rfl rfl rfl rfl rfl,s rfl rfl rfl rfl rfl rfl,t lC,t (Nat.le_succ_of_le lC),s rfl rfl rfl rfl rfl rfl⟩,
   kY (u rfl rfl rfl rfl rfl) (kY (u rfl rfl rfl rfl rfl) (kY (u rfl rfl rfl rfl rfl) sV)),gP rfl,gP rfl,gP rfl⟩
 have WS0:WS σD L X W hM [] [] []:=⟨K0,oD _ _ (by show z+8≠z+7;exact gP rfl) hho,d3,d4,d5,oD _ _ (by show z+9≠z+7;exact gP rfl) (hh 2 _ rfl),oD _ _ (by show z+10≠z+7;exact gP rfl) (hh 3 _ rfl),oD _ _ (by show z+13≠z+7;exact gP rfl) (hh 6 _ rfl),
  (nofun),(nofun),(nofun),big (by show ∀i∈[z+9,z+10,z+13],i≤N;exact kY (p:=(· ≤N)) (qA rfl) (kY (qA rfl) (kY (qA rfl) sV))),hsep⟩
 refine(cW4 (m:=m) (mL hn17 rfl) WS0 hfD hes (ρ:=ρ3) (by rw[c2 1 (Nat.ne_of_beq_eq_false rfl) (Nat.ne_of_beq_eq_false rfl) (Nat.ne_of_beq_eq_false rfl),pj 1 (Nat.ne_of_beq_eq_false rfl)];exact q1) (by rw[c2 7 (Nat.ne_of_beq_eq_false rfl) (Nat.ne_of_beq_eq_false rfl) (Nat.ne_of_beq_eq_false rfl)];exact p7)) _ fun ρ6 σ6 t6 g1 g2 g3 g4 g5=> ?_
 refine(fun _ k=>k L X σ6 t6 rfl ?_ g2 g3 g5 ?_)
 ·refine(congrFun (congrFun (show hG (aL m) .law_world=mkF 2 (qZ (aL m))from rfl) _) _).trans ?_
  refine aX5 (ρ:=ρ6) rfl ?_
  rw[hρ,aZ4,w1,w2,c1,d1]
  exact g1
 ·refine g4.2 _ _ ?_ (oD _ _ (rH hj) hn)
  show nj∉[z+9,z+10,z+13,N,z+2,z+3,z+4,z+5,z+6]
  exact dX (rH hj) (dX (rH hj) (dX (rH hj) (dX (rH hj) (dX (rH hj) (dX (rH hj) (dX (rH hj) (dX (rH hj) (dX (rH hj) j7))))))))
end
end
noncomputable def LA (Y:SM):SM:=aC (aV 1 (gX [] 0 (hX (aA 0) none (some (aB 16))) (aT .mod (aA 0) (aB 1000003)))) (aC (a8 (aK .eq (cH (aA 1)) (aB 0)) (aC (aV 1 (cF [(aB 24589),(aB 244137),(aB 40450),(aB 902),(aB 7183),(aB 61)])) aF) aF) Y)
theorem aB3{src:Sr}{all:List V}{cap:Env}{σ:aD}(hs:eS σ src all=true):∀ys:List Int,jR (aT .mod (aA 0) (aB 1000003)) cap 0 src all (ys.map .int) σ=some ((ys.map fun i=>(i%1000003).toNat).map lF,σ)
 |[]=>rfl
 |i::ys=>by
  have h:aT .mod (aA 0) (aB 1000003) (aZ cap 0 (.int i)) σ=some (lF (i%1000003).toNat,σ):=by
   refine(nY (bK (show aZ cap 0 (.int i) 0=some (.int i) by exact rfl)) (gJ 1000003 _)).trans ?_
   simp only[m8,pK,pL,sO,qH,qI]
   rw[if_pos (by decide),Int.fmod_eq_emod_of_nonneg _ (by decide)]
   unfold lF
   rw[Int.toNat_of_nonneg (Int.emod_nonneg _ (by decide))]
  simp only[List.map_cons,jR,h,hs,if_true,aB3 hs ys]
noncomputable def bD5 (ρ:Env):Prop:=∀G:Prop,(∀(ρ1:Env),∀(σ0:aD),∀(nj:Nat),∀(nums:List Nat),(nj<σ0.length)→(σ0[nj]? =some (.list (nums.map lF)))→(nums≠[])→(nums.length≤16)→((∀n∈nums,n<1000003))→(ρ1 1=some (.ref nj))→(∀Y:SM,LA Y ρ []=Y ρ1 σ0)→G)→G
theorem cB1{xs:List Int}(hx:xs.length≤63){ρ:Env}(r0:ρ 0=some (.gl xs)):
  bD5 ρ:=by
 let ys:=xs.take 16
 let nums:=ys.map fun i=>(i%1000003).toNat
 have hyl:ys.length≤16:=by simp[ys];omega
 have hcut:hX (aA 0) none (some (aB 16)) ρ []=some (.ref 0,[.list (ys.map .int)]):=by
  have h:(0:Int)≤16∧(16:Int)≤1000∧xs.length≤1000:=⟨t9 rfl,⟨t9 rfl,d0 hx rfl⟩⟩
  simp only[hX,bK r0,pI,aB,zH,zI,aY4,h,and_self,if_true,eP]
  rfl
 have hst:eS [bF.list (ys.map .int)] (.list 0) (ys.map .int)=true:=by
  simp only[eS,List.getElem?_cons_zero,(V.beqL_iff (ys.map V.int) (ys.map V.int)).mpr rfl]
 let σ1:aD:=[.list (ys.map .int),.list (nums.map lF)]
 have e1:(aV 1 (gX [] 0 (hX (aA 0) none (some (aB 16))) (aT .mod (aA 0) (aB 1000003)))) ρ []=some (.next,aZ ρ 1 (.ref 1),σ1):=by
  refine jB ?_
  have hle:(ys.map V.int).length≤1000:=by simp;exact d0 hyl rfl
  unfold gX
  rw[hcut]
  simp only[fS,List.getElem?_cons_zero,hle,if_true,aB3 hst ys,eP]
  rfl
 have q1:aZ ρ 1 (.ref 1) 1=some (.ref 1):=rfl
 have hlen:aK .eq (cH (aA 1)) (aB 0) (aZ ρ 1 (.ref 1)) σ1=some (decide (((nums.length:Nat):Int)=0),σ1):=by
  have h:=nX (σ:=σ1) (bK q1) (l:=nums.map lF) rfl (by simp[nums];exact d0 hyl rfl)
  rw[List.length_map]at h
  exact yX h (gJ 0 _) rfl
 by_cases hn:nums=[]
 ·rw[decide_eq_true (by rw[hn];rfl)]at hlen
  refine(fun _ k=>k (aZ (aZ ρ 1 (.ref 1)) 1 (.ref 2)) (σ1++[.list (([24589,244137,40450,902,7183,61]:List Nat).map lF)]) 2 [24589,244137,40450,902,7183,61] (by simp[σ1]) rfl nofun (Nat.le_of_ble_eq_true rfl) (by decide) rfl (fun Y=> ?_))
  unfold LA
  rw[bJ e1]
  have:(a8 (aK .eq (cH (aA 1)) (aB 0)) (aC (aV 1 (cF [(aB 24589),(aB 244137),(aB 40450),(aB 902),(aB 7183),(aB 61)])) aF) aF) (aZ ρ 1 (.ref 1)) σ1=some (.next,aZ (aZ ρ 1 (.ref 1)) 1 (.ref 2),σ1++[.list (([24589,244137,40450,902,7183,61]:List Nat).map lF)]):=by
   rw[aJ1 hlen]
   rfl
  rw[bJ this]
 ·have hpos:0<nums.length:=List.length_pos_iff.mpr hn
  rw[decide_eq_false (by omega)]at hlen
  refine(fun _ k=>k (aZ ρ 1 (.ref 1)) σ1 1 nums (by simp[σ1]) rfl hn (by simp[nums];exact hyl) (fun n hm=> ?_) q1 (fun Y=> ?_))
  ·obtain⟨i,_,rfl⟩:=List.mem_map.mp hm
   have h1:=Int.emod_nonneg i (show(1000003:Int)≠0 by decide)
   have h2:=Int.emod_lt_of_pos i (show(0:Int)<1000003 by decide)
   omega
  ·unfold LA
   rw[bJ e1]
   rw[bJ (show(a8 _ _ aF) (aZ ρ 1 (.ref 1)) σ1=some (.next,aZ ρ 1 (.ref 1),σ1) by rw[aA9 hlen];rfl)]
noncomputable def wL (u tw:Int):List (V×V):=[(tm 8 [tm 73 []],eQ),(tm 8 [tm 75 []],tm 8 [tm 75 []]),(tP 7,tm 8 [tP 7]),(tm 75 [],tm 8 [tm 75 []]),(tP u,tm 75 []),(tm 75 [],tP u),(tm 73 [],tm 8 []),(tm 75 [],tm 69 [tP u]),(dK (tm 75 []),dK (tP tw)),(tm 73 [],tm 2 []),(tm 75 [],tm 3 [])]
noncomputable def zW (u:Int):Prop:=u=3∨u=4∨u=5∨u=6∨u=7∨u=8∨u=9∨u=10
theorem aK5{u:Int}(h:zW u):(dP 5 (tP u)=true∧argOK (tP u)=true)∧(dP 5 (tm 69 [tP u])=true∧argOK (tm 69 [tP u])=true)∧(dP 5 (dK (tP u))=true∧argOK (dK (tP u))=true):=by
 rcases h with rfl |rfl |rfl |rfl |rfl |rfl |rfl |rfl<;>exact⟨⟨rfl,rfl⟩,⟨rfl,rfl⟩,⟨rfl,rfl⟩⟩
theorem bP5{u tw:Int}(hu:zW u)(ht:zW tw):∀p∈wL u tw,zZ p.1 p.2:=by
 obtain⟨⟨a1,a2⟩,⟨b1,b2⟩,_⟩:=aK5 hu
 obtain⟨_,_,⟨c1,c2⟩⟩:=aK5 ht
 intro p hp
 simp only[wL,List.mem_cons,List.not_mem_nil,or_false]at hp
 rcases hp with rfl |rfl |rfl |rfl |rfl |rfl |rfl |rfl |rfl |rfl |rfl
 ·exact⟨rfl,rfl,rfl,rfl⟩
 ·exact⟨rfl,rfl,rfl,rfl⟩
 ·exact⟨rfl,rfl,rfl,rfl⟩
 ·exact⟨rfl,rfl,rfl,rfl⟩
 ·exact⟨a1,a2,rfl,rfl⟩
 ·exact⟨rfl,rfl,a1,a2⟩
 ·exact⟨rfl,rfl,rfl,rfl⟩
 ·exact⟨rfl,rfl,b1,b2⟩
 ·exact⟨rfl,rfl,c1,c2⟩
 ·exact⟨rfl,rfl,rfl,rfl⟩
 ·exact⟨rfl,rfl,rfl,rfl⟩
theorem bV9{u:Int}(hu:zW u){ρ:Env}{σ:aD}(r5:ρ 5=some (tP u)):∃tw,zW tw∧(aE [(aB 0),(fF (bL (aT .mod (aG (aA 5) (aB 1)) (aB 2))) (aT .add (aG (aA 5) (aB 1)) (aB 1)) (aT .sub (aG (aA 5) (aB 1)) (aB 1)))]) ρ σ=some (tP tw,σ):=by
 have g:aG (aA 5) (aB 1) ρ σ=some (.int u,σ):=fT (bK r5) (gV 1 ρ) (fC rfl (eC rfl))
 have m:aT .mod (aG (aA 5) (aB 1)) (aB 2) ρ σ=gC .mod (.int u) (.int 2) σ:=nY g (gJ 2 ρ)
 have a:aT .add (aG (aA 5) (aB 1)) (aB 1) ρ σ=gC .add (.int u) (.int 1) σ:=nY g (gJ 1 ρ)
 have s:aT .sub (aG (aA 5) (aB 1)) (aB 1) ρ σ=gC .sub (.int u) (.int 1) σ:=nY g (gJ 1 ρ)
 have key:∀tw,fF (bL (aT .mod (aG (aA 5) (aB 1)) (aB 2))) (aT .add (aG (aA 5) (aB 1)) (aB 1)) (aT .sub (aG (aA 5) (aB 1)) (aB 1)) ρ σ=some (.int tw,σ)→(aE [(aB 0),(fF (bL (aT .mod (aG (aA 5) (aB 1)) (aB 2))) (aT .add (aG (aA 5) (aB 1)) (aB 1)) (aT .sub (aG (aA 5) (aB 1)) (aB 1)))]) ρ σ=some (tP tw,σ):=fun tw h=>jE (bR (gJ 0 ρ) (bR h eG))
 have up:∀tw,gC .mod (.int u) (.int 2) σ=some (.int 1,σ)→gC .add (.int u) (.int 1) σ=some (.int tw,σ)→fF (bL (aT .mod (aG (aA 5) (aB 1)) (aB 2))) (aT .add (aG (aA 5) (aB 1)) (aB 1)) (aT .sub (aG (aA 5) (aB 1)) (aB 1)) ρ σ=some (.int tw,σ):=fun tw h1 h2=>oE (bV (m.trans h1) rfl) (a.trans h2)
 have dn:∀tw,gC .mod (.int u) (.int 2) σ=some (.int 0,σ)→gC .sub (.int u) (.int 1) σ=some (.int tw,σ)→fF (bL (aT .mod (aG (aA 5) (aB 1)) (aB 2))) (aT .add (aG (aA 5) (aB 1)) (aB 1)) (aT .sub (aG (aA 5) (aB 1)) (aB 1)) ρ σ=some (.int tw,σ):=fun tw h1 h2=>mE (bV (m.trans h1) rfl) (s.trans h2)
 rcases hu with rfl |rfl |rfl |rfl |rfl |rfl |rfl |rfl
 ·exact⟨4,.inr (.inl rfl),key _ (up 4 rfl rfl)⟩
 ·exact⟨3,.inl rfl,key _ (dn 3 rfl rfl)⟩
 ·exact⟨6,.inr (.inr (.inr (.inl rfl))),key _ (up 6 rfl rfl)⟩
 ·exact⟨5,.inr (.inr (.inl rfl)),key _ (dn 5 rfl rfl)⟩
 ·exact⟨8,.inr (.inr (.inr (.inr (.inr (.inl rfl))))),key _ (up 8 rfl rfl)⟩
 ·exact⟨7,.inr (.inr (.inr (.inr (.inl rfl)))),key _ (dn 7 rfl rfl)⟩
 ·exact⟨10,.inr (.inr (.inr (.inr (.inr (.inr (.inr rfl)))))),key _ (up 10 rfl rfl)⟩
 ·exact⟨9,.inr (.inr (.inr (.inr (.inr (.inr (.inl rfl)))))),key _ (dn 9 rfl rfl)⟩
section
section
variable {σW:aD}{L:Ly}{X:cX}{W:Wd}
noncomputable def PBd (n:Nat):SM:=(aC (cG (b7 (aA 7) (aJ (aL n .law_pair) [(aA 3),(aT .add (aG (aA 1) (aA 8)) (aT .mul (aB 101) (aA 8)))]))) aF)
theorem bC5{kt:Nat}{n:Nat}(hn:10≤n)(R:fO σW kt X W)(O:dA W){rj nj:Nat}{nums:List Nat}(hnj:σW[nj]? =some (.list (nums.map lF)))(hrj:σW.length≤rj)(hlt:∀k∈nums,k<1000003)(hlen:nums.length≤16)(all:List V):
  ∀(m k:Nat) (ρ:Env) (σ:aD) (rows:List (V×V)),k+m=nums.length→cM σW σ→σ[rj]? =some (.list (rows.map pV))→rows.length≤100+k→(∀p∈rows,zZ p.1 p.2)→ρ 1=some (.ref nj)→ρ 3=some (.ref X.w)→ρ 7=some (.ref rj)→
  ∃(ρ':Env) (σ':aD) (rows':List (V×V)),dM 8 (PBd n) .fix all ((List.range' k m).map fun(k:Nat)=>V.int k) ρ σ=some (.next,ρ',σ')∧(∀j,j≠8→ρ' j=ρ j)∧cM σW σ'∧σ'[rj]? =some (.list (rows'.map pV))∧rows'.length=rows.length+m∧(∀p∈rows',zZ p.1 p.2):=by
 intro m
 induction m with
 |zero=>intro k ρ σ rows _ E hr _ hg _ _ _;exact⟨ρ,σ,rows,rfl,fun _ _=>rfl,E,hr,rfl,hg⟩
 |succ m ih=>
  intro k ρ σ rows hk E hr hle hg r1 r3 r7
  rw[List.range'_succ,List.map_cons]
  let ρ1:Env:=aZ ρ 8 (.int (k:Nat))
  have q1:ρ1 1=some (.ref nj):=r1
  have q3:ρ1 3=some (.ref X.w):=r3
  have q7:ρ1 7=some (.ref rj):=r7
  have q8:ρ1 8=some (.int (k:Nat)):=rfl
  obtain⟨v,hv⟩:∃v,nums[k]? =some v:=⟨nums[k]'(nR4 hk),List.getElem?_eq_getElem (nR4 hk)⟩
  have hvl:=hlt v (List.mem_of_getElem? hv)
  have a1:aG (aA 1) (aA 8) ρ1 σ=some (.int (v:Nat),σ):=fT (bK q1) (bK q8) (rW (E _ _ hnj) (by simp[hv,lF]) (sA (Nat.le_trans (kD (Nat.le_of_eq hk)) hlen) rfl))
  have sm:∀{i:Nat},i<10000000→small (i:Int)=true:=fun {i} h=>by simp[small];exact⟨nIy rfl,nIv h rfl⟩
  have a2:aT .mul (aB 101) (aA 8) ρ1 σ=some (.int (101*k:Nat),σ):=by
   refine(nY (gJ 101 ρ1) (bK q8)).trans ?_
   have s1:small 101=true:=by decide
   rw[pL,s1,sm (show k<10000000 from sA (Nat.le_trans (kD (Nat.le_of_eq hk)) hlen) rfl),show(101:Int)*(k:Nat)=((101*k:Nat):Int)from rfl]
   rfl
  have a3:aT .add (aG (aA 1) (aA 8)) (aT .mul (aB 101) (aA 8)) ρ1 σ=some (.int (v+101*k:Nat),σ):=by
   refine(nY a1 a2).trans ?_
   rw[m8,sm (show v<10000000 from bD0 hvl rfl),sm (show 101*k<10000000 by omega),show((v:Nat):Int)+((101*k:Nat):Int)=((v+101*k:Nat):Int)from rfl]
   rfl
  refine(cY0 (R.ext E) O (v+101*k) hn) _ fun x t σ1 g1 g2 g3=> ?_
  have a4:aJ (aL n .law_pair) [(aA 3),(aT .add (aG (aA 1) (aA 8)) (aT .mul (aB 101) (aA 8)))] ρ1 σ=some (.tup [x,t],σ1):=(iY (bR (bK q3) (bR a3 eG))).trans g1
  let σ2:aD:=σ1.set rj (.list ((rows++[(x,t)]).map pV))
  have a5:PBd n ρ1 σ=some (.next,ρ1,σ2):=by
   have hle2:(rows.map pV).length≤100000:=Nat.le_trans (Nat.le_of_eq (List.length_map ..)) (Nat.le_trans hle (d0 (c:=100000) (Nat.add_le_add_left (Nat.le_of_lt (nR6 hk hlen)) 100) rfl))
   have:b7 (aA 7) (aJ (aL n .law_pair) [(aA 3),(aT .add (aG (aA 1) (aA 8)) (aT .mul (aB 101) (aA 8)))]) ρ1 σ=some (.none,σ1.set rj (.list (rows.map pV++[.tup [x,t]]))):=by
    simp only[b7,bK q7,hr,a4,g2 _ _ hr,hle2,if_true]
   unfold PBd
   rw[bJ (aJ3 this)]
   have:rows.map pV++[.tup [x,t]]=(rows++[(x,t)]).map pV:=by simp[pV]
   rw[this];rfl
  have E2:cM σW σ2:=fun i o h=>by
   have:=eV h
   rw[show σ2[i]? =σ1[i]? from a9 (tO (Nat.lt_of_lt_of_le this hrj))]
   exact g2 _ _ (E _ _ h)
  obtain⟨ρ',σ',rows',k1,k2,k3,k4,k5,k6⟩:=ih (k+1) ρ1 σ2 (rows++[(x,t)]) (nR3 hk) E2 (cO (g2 _ _ hr)) (by simp;omega) (fun p hp=>by
   rcases List.mem_append.mp hp with hp |hp
   ·exact hg p hp
   ·rw[List.mem_singleton.mp hp];exact g3) q1 q3 q7
  refine⟨ρ',σ',rows',?_,fun j hj=>by rw[k2 j hj];exact if_neg (by assumption),k3,k4,by simp at k5;omega,k6⟩
  simp only[dM]
  rw[show aZ ρ 8 (V.int ↑k)=ρ1 from rfl,a5]
  exact k1
noncomputable def QBd (n:Nat):SM:=(aC (a8 (gG (bL (aJ (aL n .law_asked) [(aA 3),(aA 2),(aG (aG (aA 7) (aA 8)) (aB 0)),(aG (aG (aA 7) (aA 8)) (aB 1)),(cP (aK .eq (aT .mod (aA 8) (aB 2)) (aB 1)))]))) (aC (aW (b0 false)) aF) aF) aF)
theorem bS7{n:Nat}(hn:670≤n)(O:dA W)(nd:(W.fl.map (·.1)).Nodup){rj:Nat}(hrj:rj∉fV L X){rows:List (V×V)}(hg:∀p∈rows,zZ p.1 p.2)(hrl:rows.length≤40)(all:List V):
  ∀(m k:Nat) (ρ:Env) (σ:aD) (ts:List V),k+m=rows.length→KS σ L X W ts→h9 σ L X W ts→σ[rj]? =some (.list (rows.map pV))→ts.length+500*m≤40000→ρ 2=some (.ref L.ho)→ρ 3=some (.ref X.w)→ρ 7=some (.ref rj)→
  ∃(ρ':Env) (σ':aD),dM 8 (QBd n) .fix all ((List.range' k m).map fun(k:Nat)=>V.int k) ρ σ=some (.next,ρ',σ'):=by
 intro m
 induction m with
 |zero=>intro k ρ σ ts _ _ _ _ _ _ _ _;exact⟨ρ,σ,rfl⟩
 |succ m ih=>
  intro k ρ σ ts hk H HX hr hle r2 r3 r7
  rw[List.range'_succ,List.map_cons]
  let ρ1:Env:=aZ ρ 8 (.int (k:Nat))
  have q2:ρ1 2=some (.ref L.ho):=r2
  have q3:ρ1 3=some (.ref X.w):=r3
  have q7:ρ1 7=some (.ref rj):=r7
  have q8:ρ1 8=some (.int (k:Nat)):=rfl
  obtain⟨p,hp⟩:∃p,rows[k]? =some p:=⟨rows[k]'(nR4 hk),List.getElem?_eq_getElem (nR4 hk)⟩
  have a0:aG (aA 7) (aA 8) ρ1 σ=some (pV p,σ):=fT (bK q7) (bK q8) (rW hr (by simp[hp]) (sA (Nat.le_trans (kD (Nat.le_of_eq hk)) hrl) rfl))
  have a1:aG (aG (aA 7) (aA 8)) (aB 0) ρ1 σ=some (p.1,σ):=fT a0 (gV 0 ρ1) (fC rfl (eC rfl))
  have a2:aG (aG (aA 7) (aA 8)) (aB 1) ρ1 σ=some (p.2,σ):=fT a0 (gV 1 ρ1) (fC rfl (eC rfl))
  have a3:(cP (aK .eq (aT .mod (aA 8) (aB 2)) (aB 1))) ρ1 σ=some (.bool (decide (((k%2:Nat):Int)=1)),σ):=by
   have h:aK .eq (aT .mod (aA 8) (aB 2)) (aB 1) ρ1 σ=some (decide (((k%2:Nat):Int)=1),σ):=
    yX (iG (bK q8) (gV 2 ρ1) (eC rfl)) (gJ 1 ρ1) rfl
   simp only[cP]
   rw[h]
  obtain⟨t1,σ1,g1,g2,g3,g4,g5⟩:=dI1 H HX O nd (hg p (List.mem_of_getElem? hp)) (decide (((k%2:Nat):Int)=1)) (nRb (kD hle) rfl) hn
  have a4:bL (aJ (aL n .law_asked) [(aA 3),(aA 2),(aG (aG (aA 7) (aA 8)) (aB 0)),(aG (aG (aA 7) (aA 8)) (aB 1)),(cP (aK .eq (aT .mod (aA 8) (aB 2)) (aB 1)))]) ρ1 σ=some (true,σ1):=by
   have:aJ (aL n .law_asked) [(aA 3),(aA 2),(aG (aG (aA 7) (aA 8)) (aB 0)),(aG (aG (aA 7) (aA 8)) (aB 1)),(cP (aK .eq (aT .mod (aA 8) (aB 2)) (aB 1)))] ρ1 σ=some (.bool true,σ1):=
    (iY (bR (bK q3) (bR (bK q2) (bR a1 (bR a2 (bR a3 eG)))))).trans g1
   simp only[bL,this,e0]
  have a5:QBd n ρ1 σ=some (.next,ρ1,σ1):=by
   unfold QBd
   have:(a8 (gG (bL (aJ (aL n .law_asked) [(aA 3),(aA 2),(aG (aG (aA 7) (aA 8)) (aB 0)),(aG (aG (aA 7) (aA 8)) (aB 1)),(cP (aK .eq (aT .mod (aA 8) (aB 2)) (aB 1)))]))) (aC (aW (b0 false)) aF) aF) ρ1 σ=some (.next,ρ1,σ1):=by
    simp only[a8,gG,a4,Bool.not_true];rfl
   rw[bJ this];rfl
  obtain⟨ρ',σ',k1⟩:=ih (k+1) ρ1 σ1 t1 (nR3 hk) g2 g3 (g5.2 _ _ hrj hr) (Nat.le_trans (Nat.add_le_add_right g4 (500*m)) (Nat.le_trans (Nat.le_of_eq (by rw[Nat.mul_succ,Nat.add_assoc,Nat.add_comm 500])) hle)) q2 q3 q7
  refine⟨ρ',σ',?_⟩
  simp only[dM]
  rw[show aZ ρ 8 (V.int ↑k)=ρ1 from rfl,a5]
  exact k1
end
end
noncomputable def cI0:EM:=(cF [(aE [(aE [(aB 8),(aE [(aB 73)])]),(aX b9)]),(aE [(aE [(aB 8),(aA 4)]),(aE [(aB 8),(aA 4)])]),(aE [(aE [(aB 0),(aB 7)]),(aE [(aB 8),(aE [(aB 0),(aB 7)])])]),(aE [(aA 4),(aE [(aB 8),(aA 4)])]),(aE [(aA 5),(aA 4)]),(aE [(aA 4),(aA 5)]),(aE [(aE [(aB 73)]),(aE [(aB 8)])]),(aE [(aA 4),(aE [(aB 69),(aA 5)])]),(aE [(aE [(aB (-1)),(aA 4)]),(aE [(aB (-1)),(aA 6)])]),(aE [(aE [(aB 73)]),(aE [(aB 2)])]),(aE [(aA 4),(aE [(aB 3)])])])
noncomputable def twE:EM:=(aE [(aB 0),(fF (bL (aT .mod (aG (aA 5) (aB 1)) (aB 2))) (aT .add (aG (aA 5) (aB 1)) (aB 1)) (aT .sub (aG (aA 5) (aB 1)) (aB 1)))])
noncomputable def LM (n:Nat):SM:=(aC (aV 2 (kN .host (mkF 2 (mA fun _ _ _=>none)) [(kN .table (mkF 1 (jG fun _ _ _=>none)) [])])) (aC (aV 3 (aJ (aL n .law_world) [(aA 1),(aA 2)])) (aC (aV 4 (aE [(aB 75)])) (aC (aV 5 (aG (aA 3) (bU "num"))) (aC (aV 6 twE) (aC (aV 7 cI0) (aC (fH 8 (aB 0) (cH (aA 1)) (PBd n)) (aC (fH 8 (aB 0) (cH (aA 7)) (QBd n)) (aC (aW (b0 true)) aF)))))))))
theorem cB2(n:Nat):vG (aL n)=LA (LM n):=rfl
theorem aJ2{i:Nat}{lo hi:EM}{b:SM}{ρ ρ':Env}{σ σ':aD}{y:Nat}(h1:lo ρ σ=some (.int 0,σ))(h2:hi ρ σ=some (.int (y:Nat),σ))(hy:y≤100000)(h:dM i b .fix (fQ 0 (y:Nat)) ((List.range' 0 y).map fun(k:Nat)=>V.int k) ρ σ=some (.next,ρ',σ')):fH i lo hi b ρ σ=some (.next,ρ',σ'):=by
 simp only[fH,h1,h2]
 rw[if_pos (⟨t9 rfl,⟨t9 rfl,⟨tS,nIw hy rfl⟩⟩⟩)]
 rw[xG]at h⊢
 exact h
theorem dA9{σ:aD}{L:Ly}{X:cX}{W:Wd}{ts:List V}(H:KS σ L X W ts):∀i∈fV L X,i<σ.length:=by
 obtain⟨M,m1,_⟩:=H.m
 obtain⟨ds,d1,_⟩:=H.t.dep
 obtain⟨ws,w1,_⟩:=H.t.wei
 intro i hi
 simp only[fV,kH,List.mem_cons,List.not_mem_nil,or_false]at hi
 rcases hi with rfl |rfl |rfl |rfl |rfl |rfl
 ·exact eV m1
 ·exact eV H.t.r.kr
 ·exact eV H.t.ki
 ·exact eV d1
 ·exact eV w1
 ·exact eV H.t.opn
theorem bM4{xs:List Int}(hx:xs.length≤63):∃σ':aD,aL 691 .law [.gl xs] []=some (.bool true,σ'):=by
 rw[jS (n:=690) (Nat.le_of_ble_eq_true rfl)]
 generalize hρ:(fun(i:Nat)=>[V.gl xs][i]?)=ρ
 have r0:ρ 0=some (.gl xs):=by rw[←hρ];rfl
 refine(cB1 hx r0) _ fun ρ1 σ0 nj nums hj hnj hne hl16 hlt q1 hLA=> ?_
 have hpos:0<nums.length:=List.length_pos_iff.mpr hne
 obtain⟨a,ha⟩:∃a,nums[0]? =some a:=⟨_,List.getElem?_eq_getElem hpos⟩
 obtain⟨b,hb⟩:∃b,nums[1%nums.length]? =some b:=⟨_,List.getElem?_eq_getElem (Nat.mod_lt _ hpos)⟩
 obtain⟨c,hc⟩:∃c,nums[2%nums.length]? =some c:=⟨_,List.getElem?_eq_getElem (Nat.mod_lt _ hpos)⟩
 let z:=σ0.length
 let W:=i9 a b c
 let σ1:aD:=(σ0++jM z 16)++xZ (z+7) (.ref (z+1))
 have hz7:(σ0++jM z 16).length=z+7:=List.length_append
 have e2:(aV 2 (kN .host (mkF 2 (mA fun _ _ _=>none)) [(kN .table (mkF 1 (jG fun _ _ _=>none)) [])])) ρ1 σ0=some (.next,aZ ρ1 2 (.ref (z+8)),σ1):=by
  have h:=cA5 (cR5 σ0 ρ1)
  rw[hz7]at h
  exact jB h
 let ρ2:Env:=aZ ρ1 2 (.ref (z+8))
 have p1:ρ2 1=some (.ref nj):=q1
 have p2:ρ2 2=some (.ref (z+8)):=rfl
 refine(cO9 (σ:=σ1) (z:=z) (nj:=nj) (a:=a) (b:=b) (c:=c) (nums:=nums)
  (fun i o h=>by
   have hi:i<7:=by have:=(List.getElem?_eq_some_iff.mp h).1;exact this
   rw[show σ1[z+i]? =(σ0++jM z 16)[z+i]? from List.getElem?_append_left (by rw[hz7];omega),List.getElem?_append_right xQ,←h]
   congr 1;exact Nat.add_sub_cancel_left _ _)
  (fun i o h=>by
   rw[show σ1[z+7+i]? =(xZ (z+7) (.ref (z+1)))[z+7+i-(σ0++jM z 16).length]? from List.getElem?_append_right (by rw[hz7];exact xQ),←h,hz7]
   congr 1;exact Nat.add_sub_cancel_left _ _)
  (by rw[show σ1.length=(σ0++jM z 16).length+(xZ (z+7) (.ref (z+1))).length from List.length_append,hz7];exact rfl) hj (cZ (cZ hnj)) hl16 ha hb hc (n:=690) (Nat.le_of_ble_eq_true rfl)) _ fun L X σ2 ts hho g1 g2 g3 g4 g5=> ?_
 rw[←hho]at p2 g1
 have e3:(aV 3 (aJ (aL 690 .law_world) [(aA 1),(aA 2)])) ρ2 σ1=some (.next,aZ ρ2 3 (.ref X.w),σ2):=
  jB ((iY (bR (bK p1) (bR (bK p2) eG))).trans g1)
 have O:dA W:=aV6 a b c
 have nd:(W.fl.map (·.1)).Nodup:=aC2 _ b c
 have hu:zW W.u1:=r9 (a/648)
 let ρ4:Env:=aZ (aZ ρ2 3 (.ref X.w)) 4 (tm 75 [])
 have e4:(aV 4 (aE [(aB 75)])) (aZ ρ2 3 (.ref X.w)) σ2=some (.next,ρ4,σ2):=rfl
 let ρ5:Env:=aZ ρ4 5 (tP W.u1)
 have e5:(aV 5 (aG (aA 3) (bU "num"))) ρ4 σ2=some (.next,ρ5,σ2):=by
  obtain⟨_,_,_,_,h⟩:=sX (num:=tP W.u1) g2.w.w (bK (σ:=σ2) (show ρ4 3=some (.ref X.w) by exact rfl))
  exact jB h
 obtain⟨tw,t1,t2⟩:=bV9 hu (ρ:=ρ5) (σ:=σ2) rfl
 let ρ6:Env:=aZ ρ5 6 (tP tw)
 have e6:(aV 6 twE) ρ5 σ2=some (.next,ρ6,σ2):=jB t2
 have f4:ρ6 4=some (tm 75 []):=rfl
 have f5:ρ6 5=some (tP W.u1):=rfl
 have f6:ρ6 6=some (tP tw):=rfl
 let σ3:aD:=σ2++[.list ((wL W.u1 tw).map pV)]
 let ρ7:Env:=aZ ρ6 7 (.ref σ2.length)
 have e7:(aV 7 cI0) ρ6 σ2=some (.next,ρ7,σ3):=by
  exact rfl
 have h1:ρ7 1=some (.ref nj):=p1
 have h2:ρ7 2=some (.ref L.ho):=p2
 have h3:ρ7 3=some (.ref X.w):=rfl
 have h7:ρ7 7=some (.ref σ2.length):=rfl
 have hr3:σ3[σ2.length]? =some (.list ((wL W.u1 tw).map pV)):=mR rfl
 obtain⟨ρ8,σ4,rows,k1,k2,k3,k4,k5,k6⟩:=bC5 (n:=690) (Nat.le_of_ble_eq_true rfl) g2.w O g5 (Nat.le_refl _) hlt hl16 (fQ 0 (nums.length:Nat)) nums.length 0 ρ7 σ3 (wL W.u1 tw) nEz .app hr3 (by simp[wL]) (bP5 hu t1) h1 h3 h7
 have hrl:rows.length≤40:=by rw[k5];simp[wL];omega
 have e8:(fH 8 (aB 0) (cH (aA 1)) (PBd 690)) ρ7 σ3=some (.next,ρ8,σ4):=by
  refine aJ2 (y:=nums.length) rfl ?_ (d0 hl16 rfl) k1
  have:=nX (σ:=σ3) (bK h1) (l:=nums.map lF) (cZ g5) (by simp;exact d0 hl16 rfl)
  simpa using this
 obtain⟨ρ9,σ5,l1⟩:=bS7 (n:=690) (Nat.le_of_ble_eq_true rfl) O nd (rj:=σ2.length) (fun h=>absurd (dA9 g2 _ h) (by omega)) k6 hrl (fQ 0 (rows.length:Nat)) rows.length 0 ρ8 σ4 ts nEz (g2.ext k3) (g3.ext k3) k4 (by omega) (by rw[k2 2 (Nat.ne_of_beq_eq_false rfl)];exact h2) (by rw[k2 3 (Nat.ne_of_beq_eq_false rfl)];exact h3) (by rw[k2 7 (Nat.ne_of_beq_eq_false rfl)];exact h7)
 have e9:(fH 8 (aB 0) (cH (aA 7)) (QBd 690)) ρ8 σ4=some (.next,ρ9,σ5):=by
  refine aJ2 (y:=rows.length) rfl ?_ (d0 hrl rfl) l1
  have:=nX (σ:=σ4) (bK (show ρ8 7=some (.ref σ2.length) by rw[k2 7 (Nat.ne_of_beq_eq_false rfl)];exact h7)) (l:=rows.map pV) k4 (by simp;exact d0 hrl rfl)
  simpa using this
 refine⟨σ5,?_⟩
 refine(congrFun (congrFun (show hG (aL 690) .law=mkF 1 (vG (aL 690))from rfl) _) _).trans ?_
 refine aX5 (ρ:=ρ9) rfl ?_
 rw[hρ,cB2,hLA]
 unfold LM
 rw[bJ e2,bJ e3,bJ e4,bJ e5,bJ e6,bJ e7,bJ e8,bJ e9]
 exact aJ0 rfl
section
open PySem PySem.W PyProof.Rows
section
set_option genInjectivity false in
structure GC where
 prog:Program
 w:World
 h0:Heap
 mg:Str→Option Value
 mb:Str→Option Value
 K:Frag
 cls:CN→Addr
 lim:h0.NoLimit
structure GC.Ok(G:GC):Prop where
 g:G.h0.Ns mainGlobals G.mg
 b:G.h0.Ns builtinsNs G.mb
 builtins:∀x:Str,x≠"__name__"→G.mb x=bootBuiltins x
 kin:G.K.In G.h0
noncomputable abbrev cK (G:GC):Model:=model G.prog G.w
theorem vP(s:String):Str.ofString s=⟨(s.toList.map Char.toNat).toArray⟩:=by
 unfold Str.ofString
 rw[cpsOfBytes_string]
theorem zJ{a b:Char}(h:a.toNat=b.toNat):a=b:=Char.ext (UInt32.toNat_inj.mp h)
theorem xS{α β:Type}{f:α→β}(hf:∀a b,f a=f b→a=b):∀{l r:List α},l.map f=r.map f→l=r
 |[],[],_=>rfl
 |[],_::_,h=>by injection h
 |_::_,[],h=>by injection h
 |a::l,b::r,h=>by
  rw[List.map_cons,List.map_cons,List.cons.injEq]at h
  rw[hf a b h.1,xS hf h.2]
theorem tM{a b:String}(h:Str.ofString a=Str.ofString b):a=b:=by
 rw[vP,vP]at h
 injection h with h
 exact String.toList_inj.mp (xS (fun _ _=>zJ) (Array.mk.inj h))
mutual
noncomputable def lO (w:World):V→Int
 | .int i=>hashInt i
 | .str x=>hashStr w (Str.ofString x)
 | .tup l=>reduceHash (Builtin.Tuple.tupleHashOf (lK w l))
 |_=>0
noncomputable def lK (w:World):List V→List Int
 |[]=>[]
 |a::l=>lO w a::lK w l
end
theorem bO9(w:World):∀l,lK w l=l.map (lO w)
 |[]=>rfl
 |a::l=>by rw[lK,List.map_cons,bO9 w l]
noncomputable def lG:Value→Option Int | .int i _=>some i |_=>none
noncomputable def cC3 (h0:Heap) (a:Addr) (es:List (Int×Int)):Prop:=
 ∃o ents n,h0.get? a=some o∧o.ExactDict∧o.data= .dict ents n∧
  ents.toList.map (fun e=>(e.hash,lG e.key,lG e.val))=es.map (fun e=>(hashInt e.1,some e.1,some e.2))
noncomputable def dB8 (h0:Heap) (a:Addr) (l:List Int):Prop:=
 ∃its,h0.IsList a its∧its.toList.map lG=l.map some
mutual
inductive RV (G:GC) (α:List Addr) (h:Heap):Value→V→Prop
 |none:RV G α h .none .none
 |bool (b:Bool):RV G α h (.bool b) (.bool b)
 |int (i:Int) (t:Tok):RV G α h (.int i t) (.int i)
 |str (x:String) (t:Tok):RV G α h (.str (Str.ofString x) t) (.str x)
 |tup {a:Addr} {vs:List Value} {l:List V} (ht:IsTup h a vs.toArray) (hv:b8 G α h vs l):RV G α h (.ref a) (.tup l)
 |ref {a:Addr} {i:Nat} (hi:α[i]? =some a):RV G α h (.ref a) (.ref i)
 |gd {a:Addr} {es:List (Int×Int)} (hg:cC3 G.h0 a es) (hs:a≠sysModules):RV G α h (.ref a) (.gd es)
 |gl {a:Addr} {l:List Int} (hg:dB8 G.h0 a l):RV G α h (.ref a) (.gl l)
inductive b8 (G:GC) (α:List Addr) (h:Heap):List Value→List V→Prop
 |nil:b8 G α h [] []
 |cons {v:Value} {vs:List Value} {x:V} {l:List V} (hv:RV G α h v x) (hr:b8 G α h vs l):b8 G α h (v::vs) (x::l)
end
inductive gS (G:GC) (α:List Addr) (h:Heap):List DictEntry→List (V×V)→Prop
 |nil:gS G α h [] []
 |cons {e:DictEntry} {es:List DictEntry} {k v:V} {l:List (V×V)} (hh:e.hash=lO G.w k) (hk:RV G α h e.key k) (hv:RV G α h e.val v) (hr:gS G α h es l):gS G α h (e::es) ((k,v)::l)
inductive qN (G:GC) (α:List Addr) (h:Heap):List DictEntry→List (String×V)→Prop
 |nil:qN G α h [] []
 |cons {e:DictEntry} {es:List DictEntry} {x:String} {t:Tok} {v:V} {l:List (String×V)} (hk:e.key= .str (Str.ofString x) t) (hv:RV G α h e.val v) (hr:qN G α h es l):qN G α h (e::es) ((x,v)::l)
noncomputable def i8 (G:GC) (α:List Addr) (h:Heap) (a:Addr):bF→Prop
 | .list l=>∃its n,h.get? a=some (listOf its n)∧b8 G α h its.toList l
 | .dict es=>∃ents n,h.get? a=some (dictOf ents n)∧gS G α h ents es∧(es.map (·.1)).Nodup∧n=ents.length
 | .inst c d=>∃dx,h.get? a=some (instObj (G.cls c) dx)∧α[d]? =some dx
 | .ns fs=>∃ents n,h.get? a=some (dictOf ents n)∧qN G α h ents fs
structure bZ(G:GC)(α:List Addr)(σ:aD)(h:Heap):Prop where
 base:∀b o,G.h0.get? b=some o→h.get? b=some o
 above:∀a∈α,G.h0.get? a=none∧sysModules<a
 nodup:α.Nodup
 len:α.length=σ.length
 objs:∀(i:Nat) (a:Addr) (o:bF),α[i]? =some a→σ[i]? =some o→i8 G α h a o
noncomputable def iJ (o:Obj):Prop:=o.cls= .type "tuple"∧∃its n,o.data= .seq its n
structure bX(W:Addr→Prop)(α α':List Addr)(s s':Shared):Prop where
 pre:∃β,α'=α++β∧∀a∈β,s.heap.get? a=none
 live:∀b o,s.heap.get? b=some o→∃o',s'.heap.get? b=some o'
 keep:∀b o,s.heap.get? b=some o→b∉α→¬W b→s'.heap.get? b=some o
 tups:∀b o,s.heap.get? b=some o→iJ o→s'.heap.get? b=some o
 gens:s'.gens=s.gens
 os:s'.os=s.os
 drawn:s'.drawn=s.drawn
theorem rK{α β:List Addr}{i:Nat}{a:Addr}(h:α[i]? =some a):(α++β)[i]? =some a:=by
 rw[List.getElem?_append_left (List.getElem?_eq_some_iff.mp h).1];exact h
structure eW(G:GC)(α α':List Addr)(h h':Heap):Prop where
 pre:∃β,α'=α++β
 tups:∀b o,h.get? b=some o→iJ o→h'.get? b=some o
noncomputable def RV.Is (G:GC) (α:List Addr) (h:Heap) (u:Value):V→Prop
 | .none=>u= .none
 | .bool b=>u= .bool b
 | .int i=>∃t,u= .int i t
 | .str x=>∃t,u= .str (Str.ofString x) t
 | .tup l=>∃a vs,u= .ref a∧IsTup h a vs.toArray∧b8 G α h vs l
 | .ref i=>∃a,u= .ref a∧α[i]? =some a
 | .gd es=>∃a,u= .ref a∧cC3 G.h0 a es∧a≠sysModules
 | .gl l=>∃a,u= .ref a∧dB8 G.h0 a l
section
variable {G:GC}{α:List Addr}{h:Heap}
theorem RV.is{u:Value}{x:V}(H:RV G α h u x):RV.Is G α h u x:=by
 cases H with
 |none=>rfl
 |bool=>rfl
 |int=>exact⟨_,rfl⟩
 |str=>exact⟨_,rfl⟩
 |tup h1 h2=>exact⟨_,_,rfl,h1,h2⟩
 |ref h=>exact⟨_,rfl,h⟩
 |gd h1 h2=>exact⟨_,rfl,h1,h2⟩
 |gl h=>exact⟨_,rfl,h⟩
theorem RV.int_inv{u:Value}{i:Int}(H:RV G α h u (.int i)):∃t,u= .int i t:=H.is
theorem RV.str_inv{u:Value}{x:String}(H:RV G α h u (.str x)):∃t,u= .str (Str.ofString x) t:=H.is
theorem RV.bool_inv{u:Value}{b:Bool}(H:RV G α h u (.bool b)):u= .bool b:=H.is
theorem RV.none_inv{u:Value}(H:RV G α h u .none):u= .none:=H.is
theorem RV.ref_inv{u:Value}{i:Nat}(H:RV G α h u (.ref i)):∃a,u= .ref a∧α[i]? =some a:=H.is
theorem RV.tup_inv{u:Value}{l:List V}(H:RV G α h u (.tup l)):∃a vs,u= .ref a∧IsTup h a vs.toArray∧b8 G α h vs l:=H.is
@[elab_as_elim] theorem b8.ind {motive:∀vs l,b8 G α h vs l→Prop} (nil:motive [] [] .nil) (cons:∀{v vs x l} (hv:RV G α h v x) (hr:b8 G α h vs l),motive vs l hr→motive (v::vs) (x::l) (.cons hv hr)) {vs:List Value} {l:List V} (H:b8 G α h vs l):motive vs l H:=
 b8.rec (motive_1:=fun _ _ _=>True) (motive_2:=motive) trivial (fun _=>trivial) (fun _ _=>trivial) (fun _ _=>trivial) (fun _ _ _=>trivial) (fun _=>trivial) (fun _ _=>trivial) (fun _=>trivial) nil (fun hv hr _ ih=>cons hv hr ih) H
theorem vT{h':Heap}{a:Addr}{vs:Array Value}(L:∀b o,h.get? b=some o→iJ o→h'.get? b=some o)(H:IsTup h a vs):IsTup h' a vs:=
 let⟨o,ho,hc,n,r⟩:=H
 ⟨o,L _ _ ho ⟨hc,_,n,r⟩,hc,n,r⟩
theorem eW.get{α':List Addr}{h':Heap}{i:Nat}{a:Addr}(L:eW G α α' h h')(hi:α[i]? =some a):α'[i]? =some a:=by
 obtain⟨β,rfl⟩:=L.pre
 exact rK hi
theorem RV.later{α':List Addr}{h':Heap}(L:eW G α α' h h'){v:Value}{x:V}(H:RV G α h v x):RV G α' h' v x:=
 RV.rec (motive_1:=fun v x _=>RV G α' h' v x) (motive_2:=fun vs l _=>b8 G α' h' vs l) .none .bool .int .str (fun ht _ hv=> .tup (vT L.tups ht) hv) (fun hi=> .ref (L.get hi)) (fun hg hs=> .gd hg hs) (fun hg=> .gl hg) .nil (fun _ _ hv hr=> .cons hv hr) H
theorem b8.later{α':List Addr}{h':Heap}(L:eW G α α' h h'){vs:List Value}{l:List V}(H:b8 G α h vs l):b8 G α' h' vs l:=
 b8.ind .nil (fun hv _ ih=> .cons (hv.later L) ih) H
theorem gS.later{α':List Addr}{h':Heap}(L:eW G α α' h h'){es:List DictEntry}{l:List (V×V)}(H:gS G α h es l):gS G α' h' es l:=by
 induction H with
 |nil=>exact .nil
 |cons hh hk hv _ ih=>exact .cons hh (hk.later L) (hv.later L) ih
theorem qN.later{α':List Addr}{h':Heap}(L:eW G α α' h h'){es:List DictEntry}{l:List (String×V)}(H:qN G α h es l):qN G α' h' es l:=by
 induction H with
 |nil=>exact .nil
 |cons hk hv _ ih=>exact .cons hk (hv.later L) ih
end
theorem i8.later{G:GC}{α α':List Addr}{h h':Heap}{a:Addr}{o:bF}(L:eW G α α' h h')(e:∀x,h.get? a=some x→h'.get? a=some x)(H:i8 G α h a o):i8 G α' h' a o:=by
 induction o using bF.casesOn with
 |list l=>obtain⟨its,n,h1,h2⟩:=H;exact⟨its,n,e _ h1,h2.later L⟩
 |dict es=>obtain⟨ents,n,h1,h2,h3⟩:=H;exact⟨ents,n,e _ h1,h2.later L,h3⟩
 |inst c d=>obtain⟨dx,h1,h2⟩:=H;exact⟨dx,e _ h1,by obtain⟨β,rfl⟩:=L.pre;exact rK h2⟩
 |ns fs=>obtain⟨ents,n,h1,h2⟩:=H;exact⟨ents,n,e _ h1,h2.later L⟩
theorem i8.get{G:GC}{α:List Addr}{h:Heap}{a:Addr}{o:bF}(H:i8 G α h a o):∃x,h.get? a=some x∧¬iJ x:=by
 induction o using bF.casesOn with
 |list l=>obtain⟨its,n,h1,_⟩:=H;exact⟨_,h1,fun e=>by simp[iJ]at e⟩
 |dict es=>obtain⟨ents,n,h1,_⟩:=H;exact⟨_,h1,fun e=>by simp[iJ]at e⟩
 |inst c d=>obtain⟨dx,h1,_⟩:=H;exact⟨_,h1,fun e=>by simp[iJ]at e⟩
 |ns fs=>obtain⟨ents,n,h1,_⟩:=H;exact⟨_,h1,fun e=>by simp[iJ]at e⟩
theorem bX.later{G:GC}{W:Addr→Prop}{α α':List Addr}{s s':Shared}(S:bX W α α' s s'):eW G α α' s.heap s'.heap:=
 ⟨S.pre.imp fun _ h=>h.1,S.tups⟩
theorem bX.dead{W:Addr→Prop}{α α':List Addr}{s s':Shared}(S:bX W α α' s s'){b:Addr}(h:s'.heap.get? b=none):s.heap.get? b=none:=by
 induction q:s.heap.get? b using Option.casesOn with
 |none=>rfl
 |some o=>obtain⟨o',e⟩:=S.live b o q;rw[h]at e;exact aN e
theorem bX.refl{W:Addr→Prop}{α:List Addr}{s:Shared}:bX W α α s s:=⟨⟨[],by simp,fun _ h=>by cases h⟩,fun _ o e=>⟨o,e⟩,fun _ _ e _ _=>e,fun _ _ e _=>e,rfl,rfl,rfl⟩
theorem bX.toks{W:Addr→Prop}{α α':List Addr}{s s':Shared}{t:Nat}(S:bX W α α' s s'):bX W α α' s { s' with toks:=t }:=⟨S.pre,S.live,S.keep,S.tups,S.gens,S.os,S.drawn⟩
theorem bX.mono{W W':Addr→Prop}{α α':List Addr}{s s':Shared}(S:bX W α α' s s')(hW:∀b,W b→W' b):bX W' α α' s s':=
 ⟨S.pre,S.live,fun b o e h1 h2=>S.keep b o e h1 fun h=>h2 (hW b h),S.tups,S.gens,S.os,S.drawn⟩
theorem bX.trans'{W:Addr→Prop}{V':Addr→Prop}{α α' α'':List Addr}{s s' s'':Shared}(S:bX W α α' s s')(T:bX V' α' α'' s' s'')(hV:∀b o,V' b→s.heap.get? b=some o→W b):bX W α α'' s s'':=by
 have Sd:=fun b=>S.dead (b:=b)
 obtain⟨β,rfl,h1⟩:=S.pre
 obtain⟨γ,rfl,h2⟩:=T.pre
 refine⟨⟨β++γ,List.append_assoc ..,fun a ha=> ?_⟩,fun b o e=> ?_,fun b o e hb hw=> ?_,fun b o e hc=>T.tups b o (S.tups b o e hc) hc,T.gens.trans S.gens,T.os.trans S.os,T.drawn.trans S.drawn⟩
 ·rcases List.mem_append.mp ha with h |h
  ·exact h1 a h
  ·exact Sd a (h2 a h)
 ·obtain⟨o',e'⟩:=S.live b o e
  exact T.live b o' e'
 ·refine T.keep b o (S.keep b o e hb hw) (fun q=> ?_) fun q=>hw (hV b o q e)
  rcases List.mem_append.mp q with q |q
  ·exact hb q
  ·rw[h1 b q]at e;exact aN e
theorem bX.trans{W:Addr→Prop}{α α' α'':List Addr}{s s' s'':Shared}(S:bX W α α' s s')(T:bX W α' α'' s' s''):bX W α α'' s s'':=S.trans' T fun _ _ h _=>h
theorem bZ.at_{G:GC}{α:List Addr}{σ:aD}{h:Heap}(R:bZ G α σ h){i:Nat}{o:bF}(e:σ[i]? =some o):∃a,α[i]? =some a∧i8 G α h a o:=by
 have hi:i<α.length:=R.len▸(List.getElem?_eq_some_iff.mp e).1
 exact⟨α[i],List.getElem?_eq_getElem hi,R.objs i _ o (List.getElem?_eq_getElem hi) e⟩
theorem bZ.of_mem{G:GC}{α:List Addr}{σ:aD}{h:Heap}(R:bZ G α σ h){a:Addr}(ha:a∈α):∃x,h.get? a=some x∧¬iJ x:=by
 obtain⟨i,hi⟩:=List.mem_iff_getElem?.mp ha
 have hl:i<σ.length:=R.len▸(List.getElem?_eq_some_iff.mp hi).1
 exact(R.objs i a _ hi (List.getElem?_eq_getElem hl)).get
theorem bZ.grown{G:GC}{α:List Addr}{σ:aD}{h h':Heap}(R:bZ G α σ h)(k:∀b o,h.get? b=some o→h'.get? b=some o):bZ G α σ h':=
 ⟨fun b o e=>k _ _ (R.base b o e),R.above,R.nodup,R.len,fun i a o ha ho=>(R.objs i a o ha ho).later ⟨⟨[],by simp⟩,fun b o e _=>k b o e⟩ fun x e=>k a x e⟩
theorem bX.grown{W:Addr→Prop}{α:List Addr}{s:Shared}{h':Heap}{t:Nat}(k:∀b o,s.heap.get? b=some o→h'.get? b=some o):bX W α α s { s with heap:=h',toks:=t }:=
 ⟨⟨[],by simp,fun _ h=>by cases h⟩,fun b o e=>⟨o,k b o e⟩,fun b o e _ _=>k b o e,fun b o e _=>k b o e,rfl,rfl,rfl⟩
theorem bZ.add{G:GC}{α:List Addr}{σ:aD}{h:Heap}{a:Addr}{o:bF}(R:bZ G α σ h)(ha:a∉α)(hb:G.h0.get? a=none)(hm:sysModules<a)(H:i8 G (α++[a]) h a o):bZ G (α++[a]) (σ++[o]) h:=by
 have L:eW G α (α++[a]) h h:=⟨⟨[a],rfl⟩,fun b o e _=>e⟩
 refine⟨R.base,fun b hb'=> ?_,?_,by simp[R.len],fun i b o' hb' ho'=> ?_⟩
 ·rcases List.mem_append.mp hb' with hb' |hb'
  ·exact R.above b hb'
  ·rw[List.mem_singleton.mp hb'];exact⟨hb,hm⟩
 ·rw[List.nodup_append]
  refine⟨R.nodup,by simp,fun b hb' c hc=> ?_⟩
  rw[List.mem_singleton.mp hc]
  rintro rfl
  exact ha hb'
 ·by_cases hi:i<α.length
  ·rw[List.getElem?_append_left hi]at hb'
   rw[List.getElem?_append_left (R.len▸hi)]at ho'
   exact(R.objs i b o' hb' ho').later L fun x e=>e
  ·have hi':i=α.length:=by
    have:=(List.getElem?_eq_some_iff.mp hb').1
    simp at this;omega
   subst hi'
   rw[List.getElem?_append_right (Nat.le_refl _)]at hb'
   rw[R.len,List.getElem?_append_right (Nat.le_refl _)]at ho'
   simp at hb' ho'
   subst hb' ho'
   exact H
theorem bZ.free{G:GC}{α:List Addr}{σ:aD}{h:Heap}{a:Addr}(R:bZ G α σ h)(ha:h.get? a=none):a∉α∧G.h0.get? a=none:=by
 refine⟨fun q=> ?_,?_⟩
 ·obtain⟨x,hx,_⟩:=R.of_mem q
  rw[ha]at hx;exact aN hx
 ·induction q:G.h0.get? a using Option.casesOn with
  |none=>rfl
  |some o=>rw[R.base a o q]at ha;exact aF6 ha
theorem bZ.alloc{G:GC}{α:List Addr}{σ:aD}{h h':Heap}{a:Addr}{o:bF}(R:bZ G α σ h)(k:∀b o,h.get? b=some o→h'.get? b=some o)(ha:h.get? a=none)(hm:sysModules<a)
  (H:i8 G (α++[a]) h' a o):bZ G (α++[a]) (σ++[o]) h':=(R.grown k).add (R.free ha).1 (R.free ha).2 hm H
theorem bZ.big{G:GC}{α:List Addr}{σ:aD}{h:Heap}(R:bZ G α σ h):sysModules<h.objs.size:=by
 obtain⟨mc,⟨o,_,_,ho,_⟩,_⟩:=G.lim
 exact Nat.lt_trans (by decide) (Heap.lt_size (R.base _ _ ho))
theorem bZ.put{G:GC}{α:List Addr}{σ:aD}{h h':Heap}{i:Nat}{a:Addr}{o o':bF}(R:bZ G α σ h)(hs:Heap.SameBut a h h')(ha:α[i]? =some a)(ho:σ[i]? =some o)
  (H:i8 G α h' a o'):bZ G α (σ.set i o') h':=by
 have nt:=(R.objs i a o ha ho).get
 have nb:G.h0.get? a=none:=(R.above a (List.mem_of_getElem? ha)).1
 have L:eW G α α h h':=⟨⟨[],by simp⟩,fun b o e hc=>by
  have:b≠a:=by
   rintro rfl
   obtain⟨x,hx,hn⟩:=nt
   rw[hx]at e;(refine cT e fun p=> ?_;clear e;subst p);exact hn hc
  exact(hs.2 b this).trans e⟩
 refine⟨fun b x e=> ?_,R.above,R.nodup,by simp[R.len],fun j b x hb hx=> ?_⟩
 ·have:b≠a:=by rintro rfl;rw[nb]at e;exact aN e
  exact(hs.2 b this).trans (R.base b x e)
 ·by_cases hij:i=j
  ·subst hij
   rw[ha]at hb;(refine cT hb fun p=> ?_;clear hb;subst p)
   have hl:i<σ.length:=(List.getElem?_eq_some_iff.mp ho).1
   rw[List.getElem?_set_self hl]at hx
   (refine cT hx fun p=> ?_;clear hx;subst p)
   exact H
  ·rw[List.getElem?_set_ne hij]at hx
   have hne:b≠a:=by
    rintro rfl
    exact hij ((List.getElem?_inj (List.getElem?_eq_some_iff.mp ha).1 R.nodup).mp (ha.trans hb.symm))
   exact(R.objs j b x hb hx).later L fun y e=>(hs.2 b hne).trans e
theorem bX.put{W:Addr→Prop}{G:GC}{α:List Addr}{σ:aD}{s:Shared}{h':Heap}{t:Nat}{a:Addr}{x:Obj}(R:bZ G α σ s.heap)(hs:Heap.SameBut a s.heap h')(ha:a∈α)(hx:h'.get? a=some x):bX W α α s { s with heap:=h',toks:=t }:=by
 refine⟨⟨[],by simp,fun _ h=>by cases h⟩,fun b o e=> ?_,fun b o e hb _=>(hs.2 b (fun q=>hb (q▸ha))).trans e,fun b o e hc=>(hs.2 b (fun q=> ?_)).trans e,rfl,rfl,rfl⟩
 ·by_cases q:b=a
  ·subst q;exact⟨x,hx⟩
  ·exact⟨o,(hs.2 b q).trans e⟩
 ·obtain⟨x,hx,hn⟩:=R.of_mem ha
  subst q
  rw[e]at hx;(refine cT hx fun p=> ?_;clear hx;subst p)
  exact hn hc
end
section
structure dQ(A:Around)(n:Nat):Prop where
 depth:A.depth+n+2≤1000
 units:A.units+8*n+1000≤9900
 handled:A.handled=none
theorem dQ.lt{A:Around}{n:Nat}(r:dQ A n):A.depth<recursionLimit:=by have:=r.depth;show A.depth<1000;exact nM2 this rfl
theorem dQ.cl{A:Around}{n:Nat}(r:dQ A n):A.units<cLine:=by have:=r.units;show A.units<9900;exact nM2 this rfl
theorem dQ.in1cl{A:Around}{n:Nat}(r:dQ A n):A.in1.units<cLine:=by have:=r.units;show A.units+1<9900;exact nM1 this rfl
structure eY(G:GC)(ns:List Str)(env:PySem.Env)(ρ:Env)(α:List Addr)(h:Heap):Prop where
 kind:env.scope.kind= .function
 glob:env.globals=mainGlobals
 blt:env.builtins=builtinsNs
 nsN:ns.Nodup
 loc:∃m,h.Ns env.locals m∧∀(i:Nat) (x:Str) (v:V),ns[i]? =some x→env.kindOf x=some .local→ρ i=some v→∃u,m x=some u∧RV G α h u v
 cel:∀(i:Nat) (x:Str) (v:V),ns[i]? =some x→env.kindOf x=some .cell→ρ i=some v→∃c u,env.cells.lookup x=some c∧h.IsCell c (some u)∧RV G α h u v
 off:env.locals∉α∧G.h0.get? env.locals=none
 celOff:∀x c,env.cells.lookup x=some c→c∉α∧G.h0.get? c=none∧c≠env.locals∧∃ov,h.IsCell c ov
 celInj:∀x y c,env.cells.lookup x=some c→env.cells.lookup y=some c→x=y
 celAll:∀(i:Nat) (x:Str),ns[i]? =some x→env.kindOf x=some .cell→∃c,env.cells.lookup x=some c
noncomputable def kZ (env:PySem.Env) (b:Addr):Prop:=b=env.locals∨∃x,env.cells.lookup x=some b
noncomputable abbrev eB:Addr→Prop:=fun _=>False
theorem iD{h h':Heap}{c:Addr}{v:Option Value}(k:∀o,h.get? c=some o→h'.get? c=some o)(x:h.IsCell c v):h'.IsCell c v:=
 let⟨o,ho,r⟩:=x;⟨o,k o ho,r⟩
theorem l5{h h':Heap}{a:Addr}{m:Str→Option Value}(k:∀o,h.get? a=some o→h'.get? a=some o)(x:h.Ns a m):h'.Ns a m:=
 let⟨o,es,ep,ho,r⟩:=x;⟨o,es,ep,k o ho,r⟩
theorem eY.stp{G:GC}{ns:List Str}{env:PySem.Env}{ρ:Env}{α α':List Addr}{s s':Shared}{W:Addr→Prop}(F:eY G ns env ρ α s.heap)(S:bX W α α' s s')
  (hW:∀b,kZ env b→¬W b):eY G ns env ρ α' s'.heap:=by
 have L:eW G α α' s.heap s'.heap:=S.later
 obtain⟨m,hm,hs⟩:=F.loc
 have hl:∀o,s.heap.get? env.locals=some o→s'.heap.get? env.locals=some o:=fun o e=>S.keep _ o e F.off.1 (hW _ (.inl rfl))
 have hc:∀x c,env.cells.lookup x=some c→∀o,s.heap.get? c=some o→s'.heap.get? c=some o:=fun x c e o ho=>S.keep _ o ho (F.celOff x c e).1 (hW _ (.inr ⟨x,e⟩))
 have off:∀b,b∉α→(∃o,s.heap.get? b=some o)→b∉α':=fun b hb ⟨o,ho⟩ q=>by
  obtain⟨β,rfl,h1⟩:=S.pre
  rcases List.mem_append.mp q with q |q
  ·exact hb q
  ·rw[h1 b q]at ho;exact aN ho
 refine⟨F.kind,F.glob,F.blt,F.nsN,⟨m,l5 hl hm,fun i x v h1 h2 h3=> ?_⟩,fun i x v h1 h2 h3=> ?_,⟨off _ F.off.1 ?_,F.off.2⟩,fun x c e=> ?_,F.celInj,F.celAll⟩
 ·obtain⟨u,a,b⟩:=hs i x v h1 h2 h3;exact⟨u,a,b.later L⟩
 ·obtain⟨c,u,a,b,d⟩:=F.cel i x v h1 h2 h3;exact⟨c,u,a,iD (hc x c a) b,d.later L⟩
 ·obtain⟨o,_,_,ho,_⟩:=hm;exact⟨o,ho⟩
 ·obtain⟨a,b,d,ov,hv⟩:=F.celOff x c e
  exact⟨off c a (let⟨o,ho,_⟩:=hv;⟨o,ho⟩),b,d,ov,iD (hc x c e) hv⟩
theorem eY.stp0{G:GC}{ns:List Str}{env:PySem.Env}{ρ:Env}{α α':List Addr}{s s':Shared}(F:eY G ns env ρ α s.heap)(S:bX eB α α' s s'):eY G ns env ρ α' s'.heap:=F.stp S fun _ _ h=>h
theorem qV{o:Obj}{es ep}(h:o.data= .dict es ep):¬iJ o:=fun⟨_,its,n,e⟩=>by rw[h]at e;injection e
theorem aT1{o:Obj}{v}(h:o.data= .cell v):¬iJ o:=fun⟨_,its,n,e⟩=>by rw[h]at e;injection e
theorem bZ.same{G:GC}{α:List Addr}{σ:aD}{h h':Heap}{a:Addr}(R:bZ G α σ h)(hs:Heap.SameBut a h h')(ha:a∉α)(hb:G.h0.get? a=none)(nt:∀o,h.get? a=some o→¬iJ o):bZ G α σ h':=by
 have L:eW G α α h h':=⟨⟨[],by simp⟩,fun b o e hc=>(hs.2 b (by rintro rfl;exact nt o e hc)).trans e⟩
 refine⟨fun b x e=> ?_,R.above,R.nodup,R.len,fun j b x hb hx=> ?_⟩
 ·exact(hs.2 b (fun q=>by subst q;rw[hb]at e;exact aN e)).trans (R.base b x e)
 ·exact(R.objs j b x hb hx).later L fun y e=>(hs.2 b (fun q=>ha (q▸List.mem_of_getElem? hb))).trans e
theorem bX.same{W:Addr→Prop}{α:List Addr}{s:Shared}{h':Heap}{t:Nat}{a:Addr}{x:Obj}(hs:Heap.SameBut a s.heap h')(nt:∀o,s.heap.get? a=some o→¬iJ o)(ha:W a)(hx:h'.get? a=some x):bX W α α s { s with heap:=h',toks:=t }:=
 ⟨⟨[],by simp,fun _ h=>by cases h⟩,fun b o e=>if q:b=a then⟨x,q▸hx⟩else⟨o,(hs.2 b q).trans e⟩,fun b o e _ hw=>(hs.2 b (fun q=>hw (q▸ha))).trans e,fun b o e hc=>(hs.2 b (by rintro rfl;exact nt o e hc)).trans e,rfl,rfl,rfl⟩
inductive dZ (G:GC) (W:Addr→Prop) (α:List Addr) (s:Shared) (σ':aD) (x:V) (v:Value) (s':Shared):Prop
 |mk (α':List Addr) (S:bX W α α' s s') (R:bZ G α' σ' s'.heap) (V:RV G α' s'.heap v x)
inductive bH9 (G:GC) (W:Addr→Prop) (α:List Addr) (s:Shared) (σ':aD) (l:List V) (vs:List Value) (s':Shared):Prop
 |mk (α':List Addr) (S:bX W α α' s s') (R:bZ G α' σ' s'.heap) (V:b8 G α' s'.heap vs l)
inductive aF9 (G:GC) (W:Addr→Prop) (α:List Addr) (s:Shared) (σ':aD) (b b':Bool) (s':Shared):Prop
 |mk (α':List Addr) (S:bX W α α' s s') (R:bZ G α' σ' s'.heap) (e:b'=b)
noncomputable abbrev fE:Value→Shared→Prop:=fun _ _=>False
noncomputable def dT4 (G:GC) (A:Around) (t:Sem Value) (α:List Addr) (σ:aD) (s:Shared) (r:Option (V×aD)):Prop:=
 ∀x σ',bZ G α σ s.heap→r=some (x,σ')→wpAny (cK G) A t (dZ G eB α s σ' x) fE s
set_option genInjectivity false in
structure fB where
 sc:Scope
 ns:List Str
structure aY(G:GC)(n:Nat)(B:fB)(e:Expr)(m:EM):Prop where
 run:∀(A:Around) (env:PySem.Env) (ρ:Env) (α:List Addr) (σ:aD) (s:Shared) (x:V) (σ':aD),dQ A n→env.scope=B.sc→eY G B.ns env ρ α s.heap→bZ G α σ s.heap→m ρ σ=some (x,σ')→
  wpAny (cK G) A (eval e env) (dZ G eB α s σ' x) fE s
structure kE(G:GC)(n:Nat)(B:fB)(es:List Expr)(ms:List EM):Prop where
 run:∀(A:Around) (env:PySem.Env) (ρ:Env) (α:List Addr) (σ:aD) (s:Shared) (l:List V) (σ':aD) (pos:Pos),dQ A n→env.scope=B.sc→eY G B.ns env ρ α s.heap→bZ G α σ s.heap→dO ms ρ σ=some (l,σ')→
  wpAny (cK G) A (spliced (backTo pos (starEach es env))) (bH9 G eB α s σ' l) fE s
structure gD(G:GC)(n:Nat)(B:fB)(e:Expr)(m:TM):Prop where
 run:∀(A:Around) (env:PySem.Env) (ρ:Env) (α:List Addr) (σ:aD) (s:Shared) (b:Bool) (σ':aD),dQ A n→env.scope=B.sc→eY G B.ns env ρ α s.heap→bZ G α σ s.heap→m ρ σ=some (b,σ')→
  wpAny (cK G) A (isTrue e env (eval e env)) (aF9 G eB α s σ' b) fE s
theorem c9{G:GC}{A:Around}{α:Type}{t:Sem α}{Q Q':α→Shared→Prop}{E:Value→Shared→Prop}{s:Shared}(h:wpAny (cK G) A t Q fE s)(hQ:∀a s',Q a s'→Q' a s'):wpAny (cK G) A t Q' E s:=
 wpAny_mono h hQ fun _ _ h=>h.elim
theorem aY.to{G:GC}{n:Nat}{B:fB}{e:Expr}{m:EM}{A:Around}{env:PySem.Env}{ρ:Env}{α:List Addr}{σ:aD}{s:Shared}{x:V}{σ':aD}{Q:Value→Shared→Prop}{E:Value→Shared→Prop}(h:aY G n B e m)(hA:dQ A n)(hs:env.scope=B.sc)(F:eY G B.ns env ρ α s.heap)(R:bZ G α σ s.heap)(hm:m ρ σ=some (x,σ'))
  (k:∀u s₁ α₁,bX eB α α₁ s s₁→bZ G α₁ σ' s₁.heap→eY G B.ns env ρ α₁ s₁.heap→RV G α₁ s₁.heap u x→Q u s₁):wpAny (cK G) A (eval e env) Q E s:=
 c9 (h.run A env ρ α σ s x σ' hA hs F R hm) fun u s₁ ⟨α₁,S,R₁,V⟩=>k u s₁ α₁ S R₁ (F.stp0 S) V
theorem kE.to{G:GC}{n:Nat}{B:fB}{es:List Expr}{ms:List EM}{A:Around}{env:PySem.Env}{ρ:Env}{α:List Addr}{σ:aD}{s:Shared}{l:List V}{σ':aD}{pos:Pos}{Q:List Value→Shared→Prop}{E:Value→Shared→Prop}(h:kE G n B es ms)(hA:dQ A n)(hs:env.scope=B.sc)(F:eY G B.ns env ρ α s.heap)(R:bZ G α σ s.heap)(hm:dO ms ρ σ=some (l,σ'))
  (k:∀u s₁ α₁,bX eB α α₁ s s₁→bZ G α₁ σ' s₁.heap→eY G B.ns env ρ α₁ s₁.heap→b8 G α₁ s₁.heap u l→Q u s₁):wpAny (cK G) A (spliced (backTo pos (starEach es env))) Q E s:=
 c9 (h.run A env ρ α σ s l σ' pos hA hs F R hm) fun u s₁ ⟨α₁,S,R₁,V⟩=>k u s₁ α₁ S R₁ (F.stp0 S) V
theorem gD.to{G:GC}{n:Nat}{B:fB}{e:Expr}{m:TM}{A:Around}{env:PySem.Env}{ρ:Env}{α:List Addr}{σ:aD}{s:Shared}{x:Bool}{σ':aD}{Q:Bool→Shared→Prop}{E:Value→Shared→Prop}(h:gD G n B e m)(hA:dQ A n)(hs:env.scope=B.sc)(F:eY G B.ns env ρ α s.heap)(R:bZ G α σ s.heap)(hm:m ρ σ=some (x,σ'))
  (k:∀s₁ α₁,bX eB α α₁ s s₁→bZ G α₁ σ' s₁.heap→eY G B.ns env ρ α₁ s₁.heap→Q x s₁):wpAny (cK G) A (isTrue e env (eval e env)) Q E s:=
 c9 (h.run A env ρ α σ s x σ' hA hs F R hm) fun _ s₁ ⟨α₁,S,R₁,e⟩=>e▸k s₁ α₁ S R₁ (F.stp0 S)
theorem bX.off{W:Addr→Prop}{α α':List Addr}{s s':Shared}{b:Addr}(S:bX W α α' s s')(hb:b∉α){o:Obj}(ho:s.heap.get? b=some o):b∉α':=by
 obtain⟨β,rfl,h1⟩:=S.pre
 exact fun q=>(List.mem_append.mp q).elim hb fun q=>nomatch (h1 b q).symm.trans ho
theorem dJ3{G:GC}{W:Addr→Prop}{α:List Addr}{σ:aD}{s s':Shared}{x:V}{v:Value}(R:bZ G α σ s'.heap)(S:bX W α α s s')(h:RV G α s'.heap v x):dZ G W α s σ x v s':=⟨α,S,R,h⟩
section
variable {G:GC}{n:Nat}{B:fB}
theorem bJ8{x:Str}{pos:Pos}{i:Nat}(hn:B.ns[i]? =some x)(hk:B.sc.names.lookup x=some .local)(hd:(x==("__debug__":Str))=false):aY G n B (.Name x pos) (aA i):=by
 refine⟨fun A env ρ α σ s v σ' _ hs F R e=> ?_⟩
 unfold aA at e
 induction hv:ρ i using Option.casesOn with
 |none=>rw[hv]at e;exact aN e
 |some y=>
  rw[hv]at e
  (refine dN e fun p q=> ?_;clear e;subst p q)
  obtain⟨m,hm,hsl⟩:=F.loc
  have hk':env.kindOf x=some .local:=by unfold Env.kindOf;rw[hs];exact hk
  obtain⟨u,hu,hr⟩:=hsl i x _ hn hk' hv
  exact wpAny_Name (wpAny_loadName_local F.kind hk' hm hu ⟨α,.refl,R,hr⟩) hd
theorem bX1{x:Str}{pos:Pos}{i:Nat}(hn:B.ns[i]? =some x)(hk:B.sc.names.lookup x=some .cell)(hd:(x==("__debug__":Str))=false):aY G n B (.Name x pos) (aA i):=by
 refine⟨fun A env ρ α σ s v σ' _ hs F R e=> ?_⟩
 unfold aA at e
 induction hv:ρ i using Option.casesOn with
 |none=>rw[hv]at e;exact aN e
 |some y=>
  rw[hv]at e
  (refine dN e fun p q=> ?_;clear e;subst p q)
  have hk':env.kindOf x=some .cell:=by unfold Env.kindOf;rw[hs];exact hk
  obtain⟨c,u,hc,hcell,hr⟩:=F.cel i x _ hn hk' hv
  exact wpAny_Name (wpAny_loadName_cell F.kind hk' hc hcell ⟨α,.refl,R,hr⟩) hd
noncomputable def wS (G:GC) (x:Str) (v:V):Prop:=∃u,G.mg x=some u∧∀α σ h,bZ G α σ h→RV G α h u v
theorem bA8{x:Str}{pos:Pos}{v:V}(O:G.Ok)(hv:wS G x v)(hk:B.sc.names.lookup x=some .globalImplicit)(hd:(x==("__debug__":Str))=false):aY G n B (.Name x pos) (aX v):=by
 refine⟨fun A env ρ α σ s y σ' _ hs F R e=> ?_⟩
 (refine dN e fun p q=> ?_;clear e;subst p q)
 obtain⟨u,hu,hr⟩:=hv
 have hk':env.kindOf x=some .globalImplicit:=by unfold Env.kindOf;rw[hs];exact hk
 exact Calls.Name_function_global F.kind hk' (Calls.loadGlobal_global (by rw[F.glob];exact O.g.keeps R.base) hu ⟨α,.refl,R,hr _ _ _ R⟩) hd
theorem cN9{i:Int}{k:Nat}{pos:Pos}:aY G n B (.Constant (.int i) k pos) (aB i):=by
 refine⟨fun A env ρ α σ s y σ' _ hs F R e=> ?_⟩
 (refine dN e fun p q=> ?_;clear e;subst p q)
 exact wpAny_Constant_int ⟨α,bX.refl.toks,R,.int _ _⟩
theorem bX3{b:Bool}{k:Nat}{pos:Pos}:aY G n B (.Constant (.bool b) k pos) (b0 b):=by
 refine⟨fun A env ρ α σ s y σ' _ hs F R e=> ?_⟩
 (refine dN e fun p q=> ?_;clear e;subst p q)
 exact wpAny_Constant_bool ⟨α,bX.refl,R,.bool _⟩
theorem cN1{x:String}{k:Nat}{pos:Pos}:aY G n B (.Constant (.str (Str.ofString x)) k pos) (bU x):=by
 refine⟨fun A env ρ α σ s y σ' _ hs F R e=> ?_⟩
 (refine dN e fun p q=> ?_;clear e;subst p q)
 exact wpAny_Constant_str ⟨α,bX.refl.toks,R,.str _ _⟩
theorem cN7{i:Int}{k:Nat}{pos pos':Pos}:aY G n B (.UnaryOp .USub (.Constant (.int i) k pos) pos') (aB (-i)):=by
 refine⟨fun A env ρ α σ s y σ' _ hs F R e=> ?_⟩
 (refine dN e fun p q=> ?_;clear e;subst p q)
 exact wpAny_UnaryOp (wpAny_Constant_int (neg_int ⟨α,bX.refl.toks.toks,R,.int _ _⟩))
noncomputable def gO (e:Expr):Bool:=match e with | .Starred .. =>false |_=>true
theorem mW{e:Expr}{rest:List Expr}{env:PySem.Env}(h:gO e=true):starEach (e::rest) env=(false,eval e env)::starEach rest env:=by
 cases e<;>first |rfl |exact c7 h
theorem kJ:kE G n B [] []:=by
 refine⟨fun A env ρ α σ s l σ' pos _ hs F R e=> ?_⟩
 (refine dN e fun p q=> ?_;clear e;subst p q)
 exact wpAny_items_nil ⟨α,.refl,R,.nil⟩
set_option tactic.hygienic true in
theorem iR{e:Expr}{es:List Expr}{m:EM}{ms:List EM}(h:aY G n B e m)(hr:kE G n B es ms)(hp:gO e=true):kE G n B (e::es) (m::ms):=by
 refine⟨fun A env ρ α σ s l σ' pos hA hs F R e'=> ?_⟩
 unfold dO at e'
 split at e'
 ·rename_i v σ₁ h1
  split at e'
  ·rename_i vs σ₂ h2
   (refine dN e' fun p q=> ?_;clear e';subst p q)
   refine wpAny_items_cons (c9 (h.run A env ρ α σ s v σ₁ hA hs F R h1) ?_) (mW hp)
   rintro u s₁ ⟨α₁,S₁,R₁,V₁⟩
   refine c9 (hr.run A env ρ α₁ σ₁ s₁ vs σ' pos hA hs (F.stp0 S₁) R₁ h2) ?_
   rintro us s₂ ⟨α₂,S₂,R₂,V₂⟩
   exact⟨α₂,S₁.trans S₂,R₂,.cons (V₁.later S₂.later) V₂⟩
  ·exact aN e'
 ·exact aN e'
theorem b8.length{G:GC}{α:List Addr}{h:Heap}{vs:List Value}{l:List V}(H:b8 G α h vs l):vs.length=l.length:=b8.ind rfl (fun _ _ ih=>congrArg (· +1) ih) H
theorem cN{h:Heap}{o:Obj}:∀b o',h.get? b=some o'→(h.push o).get? b=some o':=fun _ _ e=>Heap.get?_push_of_some _ e
theorem cM5{α:List Addr}{h:Heap}{vs:List Value}{l:List V}(H:b8 G α h vs l):
  RV G α (h.push { cls:= .type "tuple",data:= .seq vs.toArray }) (.ref h.objs.size) (.tup l):=
 .tup ⟨_,Heap.get?_push_size _ rfl,rfl,0,rfl⟩ (H.later ⟨⟨[],by simp⟩,fun b o e _=>cN b o e⟩)
set_option tactic.hygienic true in
theorem cM9{es:List Expr}{ms:List EM}{k:Nat}{pos:Pos}(h:kE G n B es ms)(hz:es.length≤1000)(hl:ms.length=es.length):aY G n B (.Tuple es k pos) (aE ms):=by
 refine⟨fun A env ρ α σ s y σ' hA hs F R e=> ?_⟩
 unfold aE at e
 split at e
 ·rename_i vs σ₁ h1
  (refine dN e fun p q=> ?_;clear e;subst p q)
  refine wpAny_Tuple (c9 (h.run A env ρ α σ s vs σ' pos hA hs F R h1) ?_)
  rintro us s₁ ⟨α₁,S₁,R₁,V₁⟩
  have hn:∀(ms:List EM) ρ σ l σ',dO ms ρ σ=some (l,σ')→l.length=ms.length:=by
   intro ms
   induction ms with
   |nil=>intro ρ σ l σ' e;(refine dN e fun p q=> ?_;clear e;subst p q);rfl
   |cons m ms ih=>
    intro ρ σ l σ' e
    unfold dO at e
    split at e
    ·split at e
     ·rename_i h2;(refine dN e fun p q=> ?_;clear e;subst p q);simp[ih _ _ _ _ h2]
     ·exact aN e
    ·exact aN e
  refine⟨?_,α₁,S₁.trans (bX.grown cN),R₁.grown cN,cM5 V₁⟩
  rw[V₁.length,hn _ _ _ _ _ h1,hl,sizeLine_eq];exact d0 hz rfl
 ·exact aN e
set_option tactic.hygienic true in
theorem vU:∀{ms:List EM} {ρ:Env} {σ:aD} {l:List V} {σ':aD},dO ms ρ σ=some (l,σ')→l.length=ms.length
 |[],_,_,_,_,e=>by(refine dN e fun p q=> ?_;clear e;subst p q);rfl
 |m::ms,ρ,σ,l,σ',e=>by
  unfold dO at e
  split at e
  ·split at e
   ·rename_i h2;(refine dN e fun p q=> ?_;clear e;subst p q);simp[vU h2]
   ·exact aN e
  ·exact aN e
theorem pF{α:List Addr}{a:Addr}{n:Nat}(h:α.length=n):(α++[a])[n]? =some a:=by subst h;simp
theorem wE{α:List Addr}{σ:aD}{s:Shared}{vs:List Value}{l:List V}{k:Nat}{t:Nat}{h':Heap}(R:bZ G α σ s.heap)(H:b8 G α s.heap vs l)
  (hk:∀b o,s.heap.get? b=some o→h'.get? b=some o) (ho:h'.get? s.heap.objs.size=some (listOf vs.toArray k)):
  dZ G eB α s (σ++[.list l]) (.ref σ.length) (.ref s.heap.objs.size) { s with heap:=h',toks:=t }:=by
 refine⟨α++[s.heap.objs.size],⟨⟨_,rfl,fun a ha=> ?_⟩,fun b o e=>⟨o,hk b o e⟩,fun b o e _ _=>hk b o e,fun b o e _=>hk b o e,rfl,rfl,rfl⟩,R.alloc hk (Heap.get?_none_of_le (Nat.le_refl _)) R.big ⟨_,_,ho,?_⟩,.ref (pF R.len)⟩
 ·rw[List.mem_singleton.mp ha];exact Heap.get?_none_of_le (Nat.le_refl _)
 ·exact H.later ⟨⟨_,rfl⟩,fun b o e _=>hk b o e⟩
theorem dZ.after{W:Addr→Prop}{α α₁:List Addr}{s s₁ s₂:Shared}{σ':aD}{x:V}{v:Value}(S:bX W α α₁ s s₁)(h:dZ G W α₁ s₁ σ' x v s₂):dZ G W α s σ' x v s₂:=
 let⟨α₂,T,R,V⟩:=h;⟨α₂,S.trans T,R,V⟩
set_option tactic.hygienic true in
theorem bW8{es:List Expr}{ms:List EM}{pos:Pos}(h:kE G n B es ms)(hz:ms.length≤1000):aY G n B (.List es pos) (cF ms):=by
 refine⟨fun A env ρ α σ s y σ' hA hs F R e=> ?_⟩
 unfold cF at e
 split at e
 ·rename_i vs σ₁ h1
  (refine dN e fun p q=> ?_;clear e;subst p q)
  refine wpAny_List (c9 (h.run A env ρ α σ s vs σ₁ pos hA hs F R h1) ?_)
  rintro us s₁ ⟨α₁,S₁,R₁,V₁⟩
  refine⟨?_,dZ.after S₁ (wE R₁ V₁ cN (Heap.get?_push_size _ rfl))⟩
  rw[V₁.length,vU h1,sizeLine_eq];exact d0 hz rfl
 ·exact aN e
noncomputable def qO (G:GC) (n:Nat) (f:Value→Value→Sem Value) (g:V→V→aD→Option (V×aD)):Prop:=
 ∀(A:Around) (α:List Addr) (σ:aD) (s:Shared) (u v:Value) (x y r:V) (σ':aD),dQ A n→bZ G α σ s.heap→RV G α s.heap u x→RV G α s.heap v y→g x y σ=some (r,σ')→
  wpAny (cK G) A (f u v) (dZ G eB α s σ' r) fE s
set_option tactic.hygienic true in
theorem cO3{op:Operator}{o:BO}{l r:Expr}{a b:EM}{pos:Pos}(P:qO G n (binaryOp op) (gC o))(h1:aY G n B l a)(h2:aY G n B r b):aY G n B (.BinOp l op r pos) (aT o a b):=by
 refine⟨fun A env ρ α σ s y σ' hA hs F R e=> ?_⟩
 unfold aT at e
 split at e
 ·rename_i x σ₁ e1
  split at e
  ·rename_i z σ₂ e2
   refine wpAny_BinOp (c9 (h1.run A env ρ α σ s x σ₁ hA hs F R e1) ?_)
   rintro u s₁ ⟨α₁,S₁,R₁,V₁⟩
   refine c9 (h2.run A env ρ α₁ σ₁ s₁ z σ₂ hA hs (F.stp0 S₁) R₁ e2) ?_
   rintro v s₂ ⟨α₂,S₂,R₂,V₂⟩
   exact c9 (P A α₂ σ₂ s₂ u v x z y σ' hA R₂ (V₁.later S₂.later) V₂ e) fun _ _ h=>dZ.after (S₁.trans S₂) h
  ·exact aN e
 ·exact aN e
end
end
end
section
open PySem PySem.W PyProof.Rows PySem.SeqAt
inductive bH4:Nat→V→Prop
 |int (d:Nat) (i:Int):bH4 d (.int i)
 |tup (d:Nat) (l:List V) (h:∀y∈l,V.treeIn d y=true):bH4 (d+1) (.tup l)
theorem fW{d:Nat}{x:V}(h:V.treeIn d x=true):bH4 d x:=by
 cases d<;>cases x<;>first |exact .int _ _ |exact .tup _ _ (List.all_eq_true.mp h) |exact c7 h
theorem b8.inj_of{G:GC}{α:List Addr}{h:Heap}{us:List Value}{l:List V}(H:b8 G α h us l):∀{r:List V},(∀u x y,x∈l→y∈r→RV G α h u x→RV G α h u y→x=y)→b8 G α h us r→l=r:=by
 induction H using b8.ind with
 |nil=>intro r _ H;cases H;rfl
 |cons a b ih=>
  intro r f H
  cases H with
  |cons c d=>rw[f _ _ _ (.head _) (.head _) a c,ih (fun u x y hx hy=>f u x y (.tail _ hx) (.tail _ hy)) d]
theorem aH2{h:Heap}{a:Addr}{vs ws:List Value}(h1:IsTup h a vs.toArray)(h2:IsTup h a ws.toArray):vs=ws:=by
 obtain⟨o,ho,_,n,hd⟩:=h1
 obtain⟨o',ho',_,n',hd'⟩:=h2
 cases ho.symm.trans ho'
 cases hd.symm.trans hd'
 rfl
theorem RV.tree_inj{G:GC}{α:List Addr}{h:Heap}{u:Value}{x y:V}(d e:Nat)(hx:RV G α h u x)(hy:RV G α h u y)(tx:V.treeIn d x=true)(ty:V.treeIn e y=true):x=y:=by
 induction d generalizing u x y e with
 |zero=>
  cases fW tx with
  |int _ i=>
   obtain⟨t,rfl⟩:=hx.int_inv
   cases hy
   rfl
 |succ d ih=>
  cases fW tx with
  |int _ i=>
   obtain⟨t,rfl⟩:=hx.int_inv
   cases hy
   rfl
  |tup _ l hl=>
   obtain⟨a,vs,rfl,ht,hv⟩:=hx.tup_inv
   cases fW ty with
   |int _ j=>obtain⟨t,q⟩:=hy.int_inv;injection q
   |tup _ r hr=>
    obtain⟨b,ws,q,ht2,hv2⟩:=hy.tup_inv
    cases q
    exact congrArg V.tup (hv.inj_of (fun u x y hx hy a b=>ih _ a b (hl x hx) (hr y hy)) (aH2 ht ht2▸hv2))
theorem b8.get{G:GC}{α:List Addr}{h:Heap}{vs:List Value}{l:List V}(H:b8 G α h vs l)(i:Nat):(∀x,l[i]? =some x→∃u,vs[i]? =some u∧RV G α h u x)∧(∀u,vs[i]? =some u→∃x,l[i]? =some x∧RV G α h u x):=by
 induction H using b8.ind generalizing i with
 |nil=>exact⟨fun _ h=>(nomatch h),fun _ h=>nomatch h⟩
 |cons a b ih=>
  induction i using Nat.casesOn with
  |zero=>exact⟨fun _ h=>Option.some.inj h▸⟨_,rfl,a⟩,fun _ h=>Option.some.inj h▸⟨_,rfl,a⟩⟩
  |succ i=>exact ih i
theorem b8.imp{G:GC}{α β:List Addr}{h h':Heap}{vs:List Value}{l:List V}(H:b8 G α h vs l)(f:∀u x,x∈l→RV G α h u x→RV G β h' u x):b8 G β h' vs l:=by
 induction H using b8.ind with
 |nil=>exact .nil
 |cons a b ih=>exact .cons (f _ _ (.head _) a) (ih fun u x hx=>f u x (.tail _ hx))
theorem b8.mem{G:GC}{α:List Addr}{h:Heap}{vs:List Value}{l:List V}(H:b8 G α h vs l){u:Value}(hu:u∈vs):∃x∈l,RV G α h u x:=by
 obtain⟨i,hi⟩:=List.mem_iff_getElem?.mp hu
 obtain⟨x,hx,hr⟩:=(H.get i).2 u hi
 exact⟨x,List.mem_of_getElem? hx,hr⟩
noncomputable def eAt (l r:List V) (j:Nat):Bool:=match l[j]?,r[j]? with |some a,some b=>V.beq a b |_,_=>false
theorem V.beqL_eq:∀(l r:List V),V.beqL l r=((List.range (min l.length r.length)).all (eAt l r)&&l.length==r.length)
 |[],[]=>rfl
 |[],_::_=>rfl
 |_::_,[]=>rfl
 |a::l,b::r=>by
  show(V.beq a b&&V.beqL l r)=_
  rw[V.beqL_eq l r]
  have hm:min (a::l).length (b::r).length=min l.length r.length+1:=Nat.succ_min_succ _ _
  rw[hm,List.range_succ_eq_map,List.all_cons,List.all_map,Bool.and_assoc]
  congr 2
  exact decide_eq_decide.mpr Nat.succ_inj.symm
theorem aM0{G:GC}{α:List Addr}{A:Around}{s:Shared}{vs ws:List Value}{l r:List V}(hv:b8 G α s.heap vs l)(hw:b8 G α s.heap ws r)(f:∀u v p q,p∈l→q∈r→RV G α s.heap u p→RV G α s.heap v q→EqAt A s u v (V.beq p q))
  (j:Nat) (h1:j<vs.toArray.size) (h2:j<ws.toArray.size):EqAt A s vs.toArray[j] ws.toArray[j] (eAt l r j):=by
 obtain⟨p,hp,a⟩:=(hv.get j).2 _ (List.getElem?_eq_getElem h1)
 obtain⟨q,hq,b⟩:=(hw.get j).2 _ (List.getElem?_eq_getElem h2)
 unfold eAt
 rw[hp,hq]
 exact f _ _ _ _ (List.mem_of_getElem? hp) (List.mem_of_getElem? hq) a b
theorem zK{G:GC}{α:List Addr}{h:Heap}{vs ws:List Value}{l r:List V}(hv:b8 G α h vs l)(hw:b8 G α h ws r):V.beq (.tup l) (.tup r)=((List.range (min vs.toArray.size ws.toArray.size)).all (eAt l r)&&vs.toArray.size==ws.toArray.size):=by
 rw[List.size_toArray,List.size_toArray,hv.length,hw.length,←V.beqL_eq]
 rfl
theorem uH{G:GC}{α:List Addr}{s:Shared}(d e:Nat)(A:Around)(u v:Value)(x y:V)(hu:A.units+d<cLine)(hx:RV G α s.heap u x)(hy:RV G α s.heap v y)(tx:V.treeIn d x=true)(ty:V.treeIn e y=true):EqAt A s u v (V.beq x y):=by
 induction d generalizing e A u v x y with
 |zero=>
  cases fW tx with
  |int _ i=>
   obtain⟨t,rfl⟩:=hx.int_inv
   cases fW ty with
   |int _ j=>
    obtain⟨t',rfl⟩:=hy.int_inv
    exact fun prog w E Q h=>wpAny_eqBool_int h
   |tup e r hr=>
    obtain⟨b,ws,rfl,ht2,hv2⟩:=hy.tup_inv
    exact EqAt.int_tuple i t ht2 hu
 |succ d ih=>
  have hu':=Nat.lt_of_le_of_lt (Nat.le_add_right A.units (d+1)) hu
  cases fW tx with
  |int _ i=>
   obtain⟨t,rfl⟩:=hx.int_inv
   cases fW ty with
   |int _ j=>
    obtain⟨t',rfl⟩:=hy.int_inv
    exact fun prog w E Q h=>wpAny_eqBool_int h
   |tup e r hr=>
    obtain⟨b,ws,rfl,ht2,hv2⟩:=hy.tup_inv
    exact EqAt.int_tuple i t ht2 hu'
  |tup _ l hl=>
   obtain⟨a,vs,rfl,ht,hv⟩:=hx.tup_inv
   cases fW ty with
   |int _ j=>
    obtain⟨t',rfl⟩:=hy.int_inv
    exact EqAt.tuple_int j t' ht hu'
   |tup e r hr=>
    obtain⟨b,ws,rfl,ht2,hv2⟩:=hy.tup_inv
    intro prog w E Q h
    unfold eqBool
    refine wpAny_holding (wpAny_ite_split (fun hab=> ?_) fun _=> ?_)
    ·cases eq_of_beq hab
     cases aH2 ht ht2
     cases hv.inj_of (fun u x y hx hy a b=>a.tree_inj d e b (hl x hx) (hr y hy)) hv2
     rw[(V.beq_iff _ _).mpr rfl]at h
     exact wpAny_bind (wpAny_rule (wpAny_pure h))
    ·rw[zK hv hv2]at h
     exact wpAny_bind (RcAt.tuples ht ht2 hu' (aM0 hv hv2 fun u v p q hp hq a b=>ih _ _ _ _ _ _ (by show A.units+1+d<cLine;omega) a b (hl p hp) (hr q hq)) prog w E _ (wpAny_truthy_bool h))
theorem RV.any{G:GC}{α β:List Addr}{h:Heap}{u:Value}{x:V}(d:Nat)(H:RV G α h u x)(t:V.treeIn d x=true):RV G β h u x:=by
 induction d generalizing u x with
 |zero=>
  cases fW t with
  |int _ i=>obtain⟨t,rfl⟩:=H.int_inv;exact .int i t
 |succ d ih=>
  cases fW t with
  |int _ i=>obtain⟨t,rfl⟩:=H.int_inv;exact .int i t
  |tup _ l hl=>
   obtain⟨a,vs,rfl,ht,hv⟩:=H.tup_inv
   exact .tup ht (hv.imp fun u x hx r=>ih r (hl x hx))
mutual
noncomputable def uJ:V→Nat
 | .int _=>1
 | .tup l=>kW l+1
 |_=>0
noncomputable def kW:List V→Nat
 |[]=>0
 |a::l=>uJ a+kW l
end
theorem rM:∀a b:List V,kW (a++b)=kW a+kW b
 |[],b=>by simp[kW]
 |x::a,b=>by simp[kW,rM a b,Nat.add_assoc]
theorem sT(w:World):∀a b:List V,lK w (a++b)=lK w a++lK w b
 |[],b=>by simp[lK]
 |x::a,b=>by simp[lK,sT w a b]
inductive cL1 (G:GC) (α:List Addr) (l:List V) (s:Shared) (rest:List Value) (b:Array Int) (s':Shared):Prop
 |mk (p r:List V) (e:l=p++r) (hr:b8 G α s.heap rest r) (hb:b.toList=lK G.w p) (hs:s'={ s with toks:=s.toks+kW p })
theorem qT{G:GC}{α:List Addr}(d:Nat)(A:Around)(E:Value→Shared→Prop)(s:Shared)(u:Value)(x:V)(Q:Int→Shared→Prop)(hu:A.units+d<cLine)(hx:RV G α s.heap u x)(ht:V.treeIn d x=true)
  (h:Q (lO G.w x) { s with toks:=s.toks+uJ x }):wpAny (cK G) A (pyHash u) Q E s:=by
 induction d generalizing A E s u x Q with
 |zero=>
  cases fW ht with
  |int _ i=>obtain⟨t,rfl⟩:=hx.int_inv;exact wpAny_pyHash_int h
 |succ d ih=>
  cases fW ht with
  |int _ i=>obtain⟨t,rfl⟩:=hx.int_inv;exact wpAny_pyHash_int h
  |tup _ l hl=>
   obtain⟨a,vs,rfl,ht,hv⟩:=hx.tup_inv
   have hT:=ht.typeIs
   unfold pyHash
   first |unfold pyHashByItsType |skip
   first |refine wpAny_bind (wpAny_cRoomFor_or (.inr (Nat.lt_of_le_of_lt (Nat.le_add_right _ _) hu)) ?_) |skip
   refine wpAny_bind (wpAny_specialOf hT F.slot_tuple_hash.lookup ?_)
   show wpAny _ _ (if(some (Value.builtin "tuple.__hash__")==some Value.none)=true then _ else _) Q E s
   rw[if_neg (by rw[beq_builtin_none];exact Bool.false_ne_true)]
   refine wpAny_bind (wpAny_specialOf hT F.slot_tuple_hash.lookup ?_)
   show wpAny _ _ (callSpecialIfBoundUnlessNone? (.ref a) "__hash__" _>>=_) Q E s
   refine wpAny_bind (wpAny_callSpecialIfBoundUnlessNone?_slot hT F.slot_tuple_hash (wpAny_call_entry F.slot_tuple_hash hT F.entry_tuple_hash ?_ (F.args_tuple_hash_1 _)))
   show wpAny _ _ (Builtin.Tuple.tupleItemsOf (.ref a)>>=_) _ _ s
   refine wpAny_bind (tupleItemsOf_ ht (wpAny_bind ?_))
   rw[←Array.forIn_toList]
   refine wpAny_forIn_list _ (cL1 G α l s) _ ?_ ?_ _ _ ⟨[],l,rfl,hv,rfl,rfl⟩
   ·rintro x rest b s' ⟨p,r,rfl,hr,hb,rfl⟩
    cases hr with
    | @cons _ _ k r h1 hr=>
     refine wpAny_bind (ih A.in1 _ _ _ _ _ (by show A.units+1+d<cLine;omega) h1 (hl k (List.mem_append_right _ (.head _))) ?_)
     have fin:cL1 G α (p++k::r) s rest (b.push (lO G.w k)) { s with toks:=s.toks+kW p+uJ k }:=
      ⟨p++[k],r,(List.append_assoc p [k] r).symm,hr,by rw[Array.toList_push,hb,sT];rfl,by rw[rM,Nat.add_assoc];rfl⟩
     first
      |exact wpAny_pure fin
      |exact wpAny_bind (wpAny_pure (wpAny_pure fin))
   ·rintro b s' ⟨p,r,rfl,hr,hb,rfl⟩
    cases hr
    rw[List.append_nil]at h
    show wpAny _ _ (retInt (Builtin.Tuple.tupleHashOf b.toList)) _ _ _
    rw[hb]
    refine wpAny_ret_mkInt ?_
    unfold lO reduceHash at h
    refine wpAny_ite_split (fun hr=> ?_) fun hr=> ?_
    ·rw[if_pos hr]at h
     exact wpAny_pure h
    ·rw[if_neg hr]at h
     exact wpAny_bind (wpAny_rule (wpAny_pure h))
theorem bC1{G:GC}{α:List Addr}(d n:Nat)(A:Around)(E:Value→Shared→Prop)(s:Shared)(u:Value)(x:V)(Q:Bool→Shared→Prop)(hn:d≤n)(hx:RV G α s.heap u x)(ht:V.treeIn d x=true)
  (h:Q true s):wpAny (cK G) A (eqIsQuiet n u) Q E s:=by
 induction d generalizing n A E s u x Q with
 |zero=>
  cases fW ht with
  |int _ i=>obtain⟨t,rfl⟩:=hx.int_inv;rw[eqIsQuiet_byValue n rfl];exact wpAny_pure h
 |succ d ih=>
  cases fW ht with
  |int _ i=>obtain⟨t,rfl⟩:=hx.int_inv;rw[eqIsQuiet_byValue n rfl];exact wpAny_pure h
  |tup _ l hl=>
   obtain⟨a,vs,rfl,ht,hv⟩:=hx.tup_inv
   obtain⟨n,rfl⟩:∃m,n=m+1:=⟨n-1,xK hn rfl⟩
   have hT:=ht.typeIs
   obtain⟨o,ho,hc,k,hd⟩:=id ht
   unfold eqIsQuiet
   refine wpAny_bind (wpAny_specialOf hT F.slot_tuple_eq.lookup ?_)
   show wpAny _ _ (isInstance (.ref a) (.type "tuple")>>=_) _ _ s
   refine wpAny_bind (wpAny_isInstance hT isSubtype_tuple_tuple ?_)
   refine wpAny_bind (wpAny_seqItems ho hd (wpAny_bind ?_))
   show wpAny _ _ (forIn vs.toArray _ _) _ _ s
   rw[←Array.forIn_toList]
   refine wpAny_forIn_list _ (fun rest r s'=>r.1=none∧s'=s∧∀v∈rest,∃y∈l,RV G α s.heap v y) _ ?_ ?_ _ _ ⟨rfl,rfl,fun v hv'=>hv.mem hv'⟩
   ·rintro v rest r s' ⟨hr,rfl,hall⟩
    obtain⟨y,hy,hr'⟩:=hall v List.mem_cons_self
    exact wpAny_bind (ih n A _ _ _ _ _ (Nat.le_of_succ_le_succ hn) hr' (hl y hy) (wpAny_pure ⟨rfl,rfl,fun u hu'=>hall u (List.mem_cons_of_mem _ hu')⟩))
   ·rintro⟨r1,r2⟩ s' ⟨hr,rfl,_⟩
    cases hr
    exact wpAny_pure h
noncomputable def bE4:DecidableEq V:=fun a b=>decidable_of_iff _ (V.beq_iff a b)
noncomputable def bO5 (G:GC) (h:Heap) (x:V) (a:Addr):Prop:=RV G [] h (.ref a) x∧V.isKeyTup x=true
theorem fL{x:V}(h:V.isKeyTup x=true):V.treeIn 7 x=true∧∃l,x= .tup l:=by
 cases x<;>simp[V.isKeyTup]at h⊢
 exact h
noncomputable def aH3 (G:GC): @HeapKind G.prog G.w V bE4:=by
 letI:=bE4
 exact {
  is:=bO5 G
  hash:=lO G.w
  draws:=uJ
  room:=fun A=>A.units+10<cLine
  inj:=fun hx hy=>hx.1.tree_inj 7 7 hy.1 (fL hx.2).1 (fL hy.2).1
  keeps:=fun {h h' k a d o es ep} hx ho hd hs=>⟨hx.1.later ⟨⟨[],rfl⟩,fun b o' e ht=>(hs.2 b (by rintro rfl;rw[ho]at e;(refine cT e fun p=> ?_;clear e;subst p);exact qV hd ht)).trans e⟩,hx.2⟩
  pyHash:=fun {A E s k a Q} hu hk h=>qT 7 A E s _ _ Q (xP (Nat.le_of_lt hu) rfl) hk.1 (fL hk.2).1 h
  eqBool:=fun {A E s x y a b Q} hu hx hy h=>uH 7 7 A _ _ x y (xP (Nat.le_of_lt hu) rfl) hx.1 hy.1 (fL hx.2).1 (fL hy.2).1 G.prog G.w E Q (by
   have:V.beq x y=decide (x=y):=by
    by_cases q:x=y
    ·rw[(V.beq_iff x y).mpr q];simp[q]
    ·induction hb:V.beq x y using Bool.casesOn with
     |true=>exact absurd ((V.beq_iff x y).mp hb) q
     |false=>simp[q]
   rw[this];exact h)
  quiet:=fun {A E s k a Q} hk h=>bC1 7 8 A E s _ _ Q (Nat.le_of_ble_eq_true rfl) hk.1 (fL hk.2).1 h }
section
theorem yE{a b:V}(h:a≠b):V.beq a b=false:=by
 induction q:V.beq a b using Bool.casesOn with
 |false=>rfl
 |true=>exact absurd ((V.beq_iff a b).mp q) h
theorem beq_self(a:V):V.beq a a=true:=(V.beq_iff a a).mpr rfl
noncomputable def j8 (es:List (V×V)) (k:V):Option Nat:=es.findIdx? fun e=>V.beq e.1 k
theorem vD(k v:V):∀es:List (V×V),dG es k v=match j8 es k with |some i=>es.modify i (fun e=>(e.1,v)) |none=>es++[(k,v)]
 |[]=>rfl
 |e::r=>by
  have ih:=vD k v r
  unfold j8 at ih⊢
  rw[List.findIdx?_cons,dG]
  induction h:V.beq e.1 k using Bool.casesOn with
  |true=>exact rfl
  |false=>
   simp only[Bool.false_eq_true,if_false]
   rw[ih]
   cases List.findIdx? (fun e=>V.beq e.1 k) r with
   |none=>rfl
   |some i=>simp[List.modify_succ_cons]
theorem aO2(k:V):∀es:List (V×V),bW es k=match j8 es k with |some i=>es[i]?.map (·.2) |none=>none
 |[]=>rfl
 |e::r=>by
  have ih:=aO2 k r
  unfold j8 at ih⊢
  rw[List.findIdx?_cons,bW]
  induction h:V.beq e.1 k using Bool.casesOn with
  |true=>exact rfl
  |false=>
   simp only[Bool.false_eq_true,if_false]
   rw[ih]
   cases List.findIdx? (fun e=>V.beq e.1 k) r with
   |none=>rfl
   |some i=>simp
section
variable {G:GC}{α:List Addr}{h:Heap}
theorem gS.length{ents:List DictEntry}{es:List (V×V)}(H:gS G α h ents es):ents.length=es.length:=by
 induction H with
 |nil=>rfl
 |cons _ _ _ _ ih=>exact congrArg (· +1) ih
theorem gS.get{ents:List DictEntry}{es:List (V×V)}(H:gS G α h ents es){i:Nat}{k v:V}(hi:es[i]? =some (k,v)):∃e,ents[i]? =some e∧e.hash=lO G.w k∧RV G α h e.key k∧RV G α h e.val v:=by
 induction H generalizing i with
 |nil=>exact aN hi
 |cons hh hk hv _ ih=>
  induction i using Nat.casesOn with
  |zero=>(refine dN hi fun p q=> ?_;clear hi;subst p q);exact⟨_,rfl,hh,hk,hv⟩
  |succ i=>exact ih hi
theorem gS.modify{ents:List DictEntry}{es:List (V×V)}(H:gS G α h ents es)(i:Nat){u:Value}{v:V}(hu:RV G α h u v):gS G α h (ents.modify i fun e=>{ e with val:=u }) (es.modify i fun e=>(e.1,v)):=by
 induction H generalizing i with
 |nil=>cases i<;>exact .nil
 |cons hh hk hv hr ih=>
  induction i using Nat.casesOn with
  |zero=>exact .cons hh hk hu hr
  |succ i=>exact .cons hh hk hv (ih i)
theorem gS.push{u k':Value}{k v:V}{t:Int}(hh:t=lO G.w k)(hk:RV G α h k' k)(hu:RV G α h u v){ents:List DictEntry}{es:List (V×V)}(H:gS G α h ents es):gS G α h (ents++[⟨t,k',u⟩]) (es++[(k,v)]):=by
 induction H with
 |nil=>exact .cons hh hk hu .nil
 |cons a b c _ ih=>exact .cons a b c ih
theorem aT2(es:List (V×V))(i:Nat)(v:V):(es.modify i fun e=>(e.1,v)).map (·.1)=es.map (·.1):=by
 induction es generalizing i with
 |nil=>cases i<;>rfl
 |cons e r ih=>cases i<;>(first |exact rfl |simp[ih])
set_option tactic.hygienic true in
theorem yC{es:List (V×V)}{k v:V}(hn:(es.map (·.1)).Nodup):((dG es k v).map (·.1)).Nodup:=by
 rw[vD]
 split
 ·rw[aT2];exact hn
 ·rename_i q
  rw[List.map_append,List.nodup_append]
  refine⟨hn,by simp,fun a ha b hb e=> ?_⟩
  simp at hb
  subst hb e
  obtain⟨x,hx,hxa⟩:=List.mem_map.mp ha
  unfold j8 at q
  rw[List.findIdx?_eq_none_iff]at q
  have:=q x hx
  rw[hxa,beq_self]at this
  exact kP this
theorem aU1(es:List (V×V))(k v:V):(dG es k v).length≤es.length+1:=by
 rw[vD];split<;>simp
inductive aG1:V→Nat→Prop
 |int (i:Int):aG1 (.int i) 0
 |str (x:String):aG1 (.str x) 1
 |tup (l:List V) (h:V.isKeyTup (.tup l)=true):aG1 (.tup l) 2
theorem wG{k:V}(h:k.kind<3):aG1 k k.kind:=by
 induction k using V.casesOn with
 |int i=>exact .int i
 |str x=>exact .str x
 |tup l=>
  simp only[V.kind]at h⊢
  split
  ·exact .tup _ (by assumption)
  ·simp_all
 |_=>exact absurd (show 3<3 from h) (Nat.lt_irrefl 3)
theorem o9{k:V}(h:k.kind=0):∃i,k= .int i:=match k,k.kind,wG (k:=k) (h▸by decide),h with |_,_,.int i,_=>⟨i,rfl⟩
theorem sC{k:V}(h:k.kind=1):∃x,k= .str x:=match k,k.kind,wG (k:=k) (h▸by decide),h with |_,_,.str x,_=>⟨x,rfl⟩
theorem qB{k:V}(h:k.kind=2):k.isKeyTup=true:=match k,k.kind,wG (k:=k) (h▸by decide),h with |_,_,.tup _ h,_=>h
theorem aY1{g:DictEntry→Bool}{k:V}{ents:List DictEntry}{es:List (V×V)}(H:gS G α h ents es)(f:∀e x,x∈es→RV G α h e.key x.1→g e=V.beq x.1 k):ents.findIdx? g=j8 es k:=by
 induction H with
 |nil=>rfl
 |cons hh hk hv _ ih=>
  have ih:=ih fun e x hx=>f e x (.tail _ hx)
  unfold j8 at ih⊢
  rw[List.findIdx?_cons,List.findIdx?_cons,ih,f _ _ (.head _) hk]
theorem cC7{i:Int}{ents:List DictEntry}{es:List (V×V)}(H:gS G α h ents es)(hz:∀e∈es,e.1.kind=0):ents.findIdx? (fun e=>Value.isInt i e.key)=j8 es (.int i):=
 aY1 H fun e x hx hk=>by
  obtain⟨j,q⟩:=o9 (hz _ hx)
  rw[q]at hk⊢
  obtain⟨t,ht⟩:=hk.int_inv
  rw[ht]
  rfl
theorem cC6{x:String}{ents:List DictEntry}{es:List (V×V)}(H:gS G α h ents es)(hz:∀e∈es,e.1.kind=1):ents.findIdx? (fun e=>Value.isStrOf (Str.ofString x) e.key)=j8 es (.str x):=
 aY1 H fun e y hy hk=>by
  obtain⟨j,q⟩:=sC (hz _ hy)
  rw[q]at hk⊢
  obtain⟨t,ht⟩:=hk.str_inv
  rw[ht]
  show(Str.ofString j==Str.ofString x)=decide (j=x)
  exact decide_eq_decide.mpr ⟨tM,congrArg _⟩
theorem cB5{ents:List DictEntry}{es:List (V×V)}(H:gS G α h ents es)(hz:∀e∈es,e.1.kind=0):KeysOf (PySem.intKind G.prog G.w) ents.toArray:=by
 induction ents generalizing es with
 |nil=>intro e he;simp at he
 |cons e ents ih=>
  cases H with
  |cons hh hk hv hr=>
   intro e' he'
   simp only[List.mem_toArray,List.mem_cons]at he'
   rcases he' with rfl |he'
   ·obtain⟨j,rfl⟩:=o9 (hz _ (.head _))
    obtain⟨t,ht⟩:=hk.int_inv
    exact⟨j,by rw[ht];simp[PySem.intKind,Value.isInt],by rw[hh];exact rfl⟩
   ·exact ih hr (fun e he=>hz e (.tail _ he)) e' (by simpa using he')
theorem cB4{ents:List DictEntry}{es:List (V×V)}(H:gS G α h ents es)(hz:∀e∈es,e.1.kind=1):KeysOf (PySem.strKind G.prog G.w) ents.toArray:=by
 induction ents generalizing es with
 |nil=>intro e he;simp at he
 |cons e ents ih=>
  cases H with
  |cons hh hk hv hr=>
   intro e' he'
   simp only[List.mem_toArray,List.mem_cons]at he'
   rcases he' with rfl |he'
   ·obtain⟨j,rfl⟩:=sC (hz _ (.head _))
    obtain⟨t,ht⟩:=hk.str_inv
    exact⟨Str.ofString j,by rw[ht];simp[PySem.strKind,Value.isStrOf],by rw[hh];exact rfl⟩
   ·exact ih hr (fun e he=>hz e (.tail _ he)) e' (by simpa using he')
set_option tactic.hygienic true in
theorem bO0{ents:List DictEntry}{es:List (V×V)}(H:gS G α h ents es)(hz:∀e∈es,e.1.kind=2):
  ∃xs:List (V×Addr×Value),ents=xs.map (@entryOfKey G.prog G.w V bE4 (aH3 G))∧(∀x∈xs,bO5 G h x.1 x.2.1)∧xs.map (·.1)=es.map (·.1):=by
 induction ents generalizing es with
 |nil=>cases H;exact⟨[],rfl,(fun _ h=>nomatch h),rfl⟩
 |cons e ents ih=>
  cases H with
  |cons hh hk hv hr=>
   rename_i k v l
   obtain⟨xs,rfl,h2,h3⟩:=ih hr fun e he=>hz e (.tail _ he)
   have kt:=qB (hz _ (.head _))
   obtain⟨_,l',rfl⟩:=fL kt
   obtain⟨eh,ek,ev⟩:=e
   obtain⟨a,vs,ha,_,_⟩:=hk.tup_inv
   simp only at ha hh hk
   subst ha hh
   refine⟨(.tup l',a,ev)::xs,rfl,fun x hx=> ?_,congrArg _ h3⟩
   rcases List.mem_cons.mp hx with rfl |hx
   ·exact⟨hk.any 7 (fL kt).1,kt⟩
   ·exact h2 x hx
end
section
variable {G:GC}{α:List Addr}{A:Around}{E:Value→Shared→Prop}{s:Shared}
theorem zG{es:List (V×V)}{k:V}(h:fM es k=true):k.kind<3∧∀e∈es,e.1.kind=k.kind:=by
 unfold fM at h
 simp only[Bool.and_eq_true,decide_eq_true_eq,List.all_eq_true]at h
 exact h
theorem bP6{d:Addr}{ents:List DictEntry}{n:Nat}{es:List (V×V)}{u:Value}{k:V}{Q:Option Nat→Shared→Prop}(hu:A.units+10<cLine)(ho:s.heap.get? d=some (dictOf ents n))
  (H:gS G α s.heap ents es) (nd:(es.map (·.1)).Nodup) (hok:fM es k=true) (hk:RV G α s.heap u k) (h:Q (j8 es k) s):wpAny (cK G) A (dictFind d u (lO G.w k)) Q E s:=by
 obtain⟨hlt,hz⟩:=zG hok
 have:k.kind=0∨k.kind=1∨k.kind=2:=by omega
 rcases this with q |q |q
 ·obtain⟨i,rfl⟩:=o9 q
  obtain⟨t,rfl⟩:=hk.int_inv
  have e:=cC7 (i:=i) H (fun e he=>(hz e he).trans q)
  refine wpAny_dictFind_of (knd:=PySem.intKind G.prog G.w) (k:=i) (by simp[PySem.intKind,Value.isInt]) ho rfl (cB5 H fun e he=>(hz e he).trans q) ?_
  have:(ents.toArray.findIdx? fun e=>(PySem.intKind G.prog G.w).is i e.key)=j8 es (.int i):=by rw[←e];simp;rfl
  rw[this];exact h
 ·obtain⟨x,rfl⟩:=sC q
  obtain⟨t,rfl⟩:=hk.str_inv
  have e:=cC6 (x:=x) H (fun e he=>(hz e he).trans q)
  refine wpAny_dictFind_of (knd:=PySem.strKind G.prog G.w) (k:=Str.ofString x) (by simp[PySem.strKind,Value.isStrOf]) ho rfl (cB4 H fun e he=>(hz e he).trans q) ?_
  have:(ents.toArray.findIdx? fun e=>(PySem.strKind G.prog G.w).is (Str.ofString x) e.key)=j8 es (.str x):=by rw[←e];simp;rfl
  rw[this];exact h
 ·have kt:=qB q
  obtain⟨htr,l,rfl⟩:=fL kt
  obtain⟨a,vs,rfl,_,_⟩:=hk.tup_inv
  obtain⟨xs,h1,h2,h3⟩:=bO0 H fun e he=>(hz e he).trans q
  have hx:∀j:Nat,(xs[j]?).map (fun x=>x.1)=(es[j]?).map (fun x=>x.1):=fun j=>by rw[←List.getElem?_map,←List.getElem?_map,h3]
  refine @wpAny_dictFind_heap G.prog G.w V bE4 (aH3 G) A E s d a _ ents.toArray n xs (.tup l) Q hu ⟨hk.any 7 htr,kt⟩ ho rfl h1 h2 (h3▸nd) (fun hno=> ?_) fun j p hj=> ?_
  ·have:j8 es (.tup l)=none:=by
    unfold j8
    rw[List.findIdx?_eq_none_iff]
    intro e he
    obtain⟨j,hj⟩:=List.mem_iff_getElem?.mp he
    refine yE fun q=> ?_
    have:=hx j
    rw[hj]at this
    induction hxj:xs[j]? using Option.casesOn with
    |none=>rw[hxj]at this;exact aN this
    |some p=>
     rw[hxj]at this
     simp only[Option.map_some,Option.some.injEq]at this
     exact hno j p.2 (by rw[hxj,←q,←this])
   rw[this]at h;exact h
  ·have:j8 es (.tup l)=some j:=by
    unfold j8
    have ej:(es[j]?).map (·.1)=some (.tup l):=by rw[←hx j,hj];rfl
    obtain⟨e,he,hek⟩:=Option.map_eq_some_iff.mp ej
    have hjl:=(List.getElem?_eq_some_iff.mp he)
    rw[List.findIdx?_eq_some_iff_getElem]
    refine⟨hjl.1,by rw[hjl.2,hek,beq_self],fun i hi=> ?_⟩
    refine fun q=> ?_
    have hil:i<es.length:=by have:=hjl.1;exact Nat.lt_trans hi this
    have q:=(V.beq_iff _ _).mp q
    have e1:(es.map (·.1))[i]? =some (.tup l):=by rw[List.getElem?_map,List.getElem?_eq_getElem hil];exact congrArg _ q
    have e2:(es.map (·.1))[j]? =some (.tup l):=by rw[List.getElem?_map];exact ej
    have:=(List.getElem?_inj (by simpa using hil) nd).mp (e1.trans e2.symm)
    exact absurd (Nat.lt_of_le_of_lt (Nat.le_of_eq this.symm) hi) (Nat.lt_irrefl _)
   rw[this]at h;exact h
noncomputable def dT0:V→Nat
 | .str _=>1
 |k=>uJ k
theorem bO8{u:Value}{k:V}{Q:Int→Shared→Prop}(hu:A.units+10<cLine)(hk:RV G α s.heap u k)(hz:k.kind<3)(h:∀t,Q (lO G.w k) { s with toks:=t }):wpAny (cK G) A (pyHash u) Q E s:=by
 have:k.kind=0∨k.kind=1∨k.kind=2:=by omega
 rcases this with q |q |q
 ·obtain⟨i,rfl⟩:=o9 q
  exact qT 0 A E s u _ Q (xP (Nat.le_of_lt hu) rfl) hk rfl (h _)
 ·obtain⟨x,rfl⟩:=sC q
  obtain⟨t,rfl⟩:=hk.str_inv
  exact wpAny_pyHash_str (by have:=h (s.toks+1);simpa only[lO]using this)
 ·have kt:=qB q
  exact qT 7 A E s u _ Q (xP (Nat.le_of_lt hu) rfl) hk (fL kt).1 (h _)
theorem bD9{d:Addr}{ents:List DictEntry}{n:Nat}{es:List (V×V)}{u:Value}{k:V}{Q:Option Value→Shared→Prop}(hu:A.units+10<cLine)(ho:s.heap.get? d=some (dictOf ents n))
  (H:gS G α s.heap ents es) (nd:(es.map (·.1)).Nodup) (hok:fM es k=true) (hk:RV G α s.heap u k)
  (h0:bW es k=none→∀t,Q none { s with toks:=t }) (h1:∀x v,bW es k=some x→RV G α s.heap v x→∀t,Q (some v) { s with toks:=t }):wpAny (cK G) A (dictGet d u) Q E s:=by
 unfold dictGet
 try with_reducible refine wpAny_holding ?_
 refine wpAny_bind (bO8 hu hk (zG hok).1 fun t=> ?_)
 refine wpAny_bind (bP6 (s:={ s with toks:=t }) hu ho H nd hok hk ?_)
 rw[aO2]at h0 h1
 induction hi:j8 es k using Option.casesOn with
 |none=>
  rw[hi]at h0
  exact wpAny_pure (h0 rfl t)
 |some i=>
  rw[hi]at h1
  have hil:i<es.length:=(List.findIdx?_eq_some_iff_getElem.mp hi).1
  obtain⟨e,he,_,_,hv⟩:=H.get (i:=i) (k:=es[i].1) (v:=es[i].2) (List.getElem?_eq_getElem hil)
  refine wpAny_bind (wpAny_dictEntries (s:={ s with toks:=t }) ho rfl ?_)
  have:(ents.toArray[i]?).map (·.val)=some e.val:=by simp[he]
  rw[this]
  exact wpAny_pure (h1 es[i].2 e.val (by simp[List.getElem?_eq_getElem hil]) hv t)
theorem rI(ents:List DictEntry)(n i:Nat)(v:Value):Obj.mapDict (·.modify i fun e=>{ e with val:=v }) (dictOf ents n)=dictOf (ents.modify i fun e=>{ e with val:=v }) n:=by
 simp[Obj.mapDict,dictOf]
theorem nS(ents:List DictEntry)(n:Nat)(e:DictEntry):Obj.mapDictKeys (·.push e) (dictOf ents n)=dictOf (ents++[e]) (n+1):=by
 simp[Obj.mapDictKeys,dictOf]
theorem cH4{d:Addr}{ents:List DictEntry}{n:Nat}{es:List (V×V)}{u v:Value}{k x:V}{Q:Unit→Shared→Prop}(hu:A.units+10<cLine)(ho:s.heap.get? d=some (dictOf ents n))
  (H:gS G α s.heap ents es) (nd:(es.map (·.1)).Nodup) (hok:fM es k=true) (hk:RV G α s.heap u k) (hv:RV G α s.heap v x) (hz:es.length≤100000)
  (h:∀h' ents' n' t,Heap.SameBut d s.heap h'→h'.get? d=some (dictOf ents' n')→gS G α s.heap ents' (dG es k x)→(n=ents.length→n'=ents'.length)→Q () { s with heap:=h',toks:=t }):wpAny (cK G) A (dictSet d u v) Q E s:=by
 unfold dictSet
 try with_reducible refine wpAny_holding ?_
 refine wpAny_bind (bO8 hu hk (zG hok).1 fun t=> ?_)
 unfold dictSetHashed
 try with_reducible refine wpAny_holding ?_
 refine wpAny_bind (bP6 (s:={ s with toks:=t }) hu ho H nd hok hk ?_)
 rw[vD]at h
 induction hi:j8 es k using Option.casesOn with
 |some i=>
  rw[hi]at h
  refine wpAny_bind (wpAny_rule (wpAny_bind (wpAny_updateDict (s:={ s with toks:=t }) ho rfl (wpAny_point (h _ _ n t (Heap.SameBut.update ..) ?_ (H.modify i hv) (fun e=>by simp[e]))))))
  rw[Heap.get?_update_self _ ho (by rw[rI];rfl),rI]
 |none=>
  rw[hi]at h
  have hl:=H.length
  refine wpAny_bind (wpAny_rule (wpAny_updateDictKeys (hz:=by simp only[List.size_toArray];rw[sizeLine_eq];exact sB hl hz rfl) (s:={ s with toks:=t }) ho rfl (h _ _ (n+1) t (Heap.SameBut.update ..) ?_ (H.push rfl hk hv) (fun e=>by simp[e]))))
  rw[Heap.get?_update_self _ ho (by rw[nS];rfl),nS]
end
end
section
section
variable {G:GC}{n:Nat}{α:List Addr}{σ:aD}{A:Around}{E:Value→Shared→Prop}{s:Shared}
theorem bZ.notSys{h:Heap}(R:bZ G α σ h){a:Addr}(ha:a∈α):(a==sysModules)=false:=by
 have h2:=(R.above a ha).2
 refine beq_eq_false_iff_ne.mpr fun e=> ?_
 subst e
 exact absurd h2 (Nat.lt_irrefl _)
theorem dQ9{t:Sem Value}{Q:Value→Shared→Prop}(h:wpAny (cK G) A t Q fE s):wpAny (cK G) A t Q E s:=wpAny_mono h (fun _ _ h=>h) fun _ _ h=>h.elim
theorem dQ6{x:Int}:x.natAbs<2^61→True:=fun _=>trivial
theorem cZ1:∀{x y:Int} {t u:Tok},bZ G α σ s.heap→wpAny (cK G) A (binaryOp .Add (.int x t) (.int y u)) (dZ G eB α s σ (.int (x+y))) E s:=
 fun R=>add_int ⟨α,bX.refl.toks,R,.int _ _⟩
theorem dE5{i:Nat}{u:Value}{l:List V}{h:Heap}(R:bZ G α σ h)(hu:RV G α h u (.ref i))(hi:σ[i]? =some (.list l)):
  ∃a its k,u= .ref a∧α[i]? =some a∧h.get? a=some (listOf its k)∧b8 G α h its.toList l:=by
 obtain⟨a,rfl,ha⟩:=hu.ref_inv
 obtain⟨its,k,h1,h2⟩:=R.objs i a _ ha hi
 exact⟨a,its,k,rfl,ha,h1,h2⟩
theorem dE6{i:Nat}{u:Value}{es:List (V×V)}{h:Heap}(R:bZ G α σ h)(hu:RV G α h u (.ref i))(hi:σ[i]? =some (.dict es)):
  ∃a ents k,u= .ref a∧α[i]? =some a∧h.get? a=some (dictOf ents k)∧gS G α h ents es∧(es.map (·.1)).Nodup:=by
 obtain⟨a,rfl,ha⟩:=hu.ref_inv
 obtain⟨ents,k,h1,h2,h3⟩:=R.objs i a _ ha hi
 exact⟨a,ents,k,rfl,ha,h1,h2,h3.1⟩
theorem b8.append{h:Heap}{vs ws:List Value}{l r:List V}(H:b8 G α h vs l)(H':b8 G α h ws r):b8 G α h (vs++ws) (l++r):=b8.ind H' (fun hv _ ih=> .cons hv ih) H
theorem b8.drop{h:Heap}{vs:List Value}{l:List V}(k:Nat)(H:b8 G α h vs l):b8 G α h (vs.drop k) (l.drop k):=
 b8.ind (motive:=fun vs l _=>∀k:Nat,b8 G α h (vs.drop k) (l.drop k)) (fun k=>Nat.casesOn k .nil fun _=> .nil) (fun a b ih k=>Nat.casesOn k (.cons a b) ih) H k
theorem b8.take{h:Heap}{vs:List Value}{l:List V}(k:Nat)(H:b8 G α h vs l):b8 G α h (vs.take k) (l.take k):=
 b8.ind (motive:=fun vs l _=>∀k:Nat,b8 G α h (vs.take k) (l.take k)) (fun k=>Nat.casesOn k .nil fun _=> .nil) (fun a _ ih k=>Nat.casesOn k .nil fun k=> .cons a (ih k)) H k
theorem b8.reverse{h:Heap}{vs:List Value}{l:List V}(H:b8 G α h vs l):b8 G α h vs.reverse l.reverse:=
 b8.ind (motive:=fun vs l _=>b8 G α h vs.reverse l.reverse) .nil (fun a _ ih=>by rw[List.reverse_cons,List.reverse_cons];exact ih.append (.cons a .nil)) H
theorem bA5{h:Heap}{vs:List Value}{l:List V}(H:b8 G α h vs l):RV G α (h.push { cls:= .type "tuple",data:= .seq vs.toArray }) (.ref h.objs.size) (.tup l):=
 .tup ⟨_,Heap.get?_push_size _ rfl,rfl,0,rfl⟩ (H.later ⟨⟨[],by simp⟩,fun b o e _=>Heap.get?_push_of_some _ e⟩)
theorem qE{vs:List Value}{l:List V}{t:Nat}(R:bZ G α σ s.heap)(H:b8 G α s.heap vs l):
  dZ G eB α s σ (.tup l) (.ref s.heap.objs.size) { s with heap:=s.heap.push { cls:= .type "tuple",data:= .seq vs.toArray },toks:=t }:=
 ⟨α,bX.grown cN,R.grown cN,bA5 H⟩
theorem sI{vs:List Value}{l:List V}{k t:Nat}(R:bZ G α σ s.heap)(H:b8 G α s.heap vs l):
  dZ G eB α s (σ++[.list l]) (.ref σ.length) (.ref s.heap.objs.size) { s with heap:=s.heap.push (listOf vs.toArray k),toks:=t }:=
 wE R H cN (Heap.get?_push_size _ rfl)
theorem eD{β:Type}{c:Prop}[Decidable c]{t:Option β}{r:β}(e:(if c then t else none)=some r):c∧t=some r:=by
 split at e
 ·exact⟨by assumption,e⟩
 ·exact aN e
inductive bI2 (σ:aD):V→V→V→aD→Prop
 |int (i j:Int):bI2 σ (.int i) (.int j) (.int (i+j)) σ
 |tup (l r:List V) (h:l.length+r.length≤1000):bI2 σ (.tup l) (.tup r) (.tup (l++r)) σ
 |list (i j:Nat) (l r:List V) (h1:σ[i]? =some (.list l)) (h2:σ[j]? =some (.list r)) (h:l.length+r.length≤1000):bI2 σ (.ref i) (.ref j) (.ref σ.length) (σ++[.list (l++r)])
inductive cL0 {β:Type} (f:Int→Int→Option β) (r:β):V→V→Prop
 |mk (i j:Int) (h:f i j=some r):cL0 f r (.int i) (.int j)
theorem aM3{β:Type}{x y:V}{f:Int→Int→Option β}{r:β}(e:lV x y f=some r):cL0 f r x y:=by
 induction x using V.casesOn with
 |int i=>induction y using V.casesOn with
  |int j=>exact .mk i j e
  |_=>exact aN e
 |_=>exact aN e
theorem cU5{x y r:V}{σ':aD}(e:bH1 x y σ=some (r,σ')):bI2 σ x y r σ':=by
 unfold bH1 at e
 split at e
 ·split at e
  ·cases(eD e).2;exact .int _ _
  ·exact aN e
 ·split at e
  ·obtain⟨h,e⟩:=eD e;(refine dN e fun p q=> ?_;clear e;subst p q);exact .tup _ _ h
  ·exact aN e
 ·split at e
  ·split at e
   ·split at e
    ·obtain⟨h,e⟩:=eD e;(refine dN e fun p q=> ?_;clear e;subst p q);exact .list _ _ _ _ (by assumption) (by assumption) h
    ·exact aN e
   ·exact aN e
  ·exact aN e
 ·exact aN e
theorem qF{i:Int}{t t':Tok}(R:bZ G α σ s.heap):dZ G eB α s σ (.int i) (.int i t) { s with toks:=t' }:=⟨α,bX.refl.toks,R,.int _ _⟩
theorem pX{c:Int→Int→Prop}[∀i j,Decidable (c i j)]{f:Int→Int→Int}{op:Operator}{o:BO}(hb:∀x y σ,gC o x y σ=lV x y fun i j=>if c i j then some (.int (f i j),σ)else none)
  (run:∀{A:Around} {s:Shared} {i j:Int} {t u:Tok} {Q:Value→Shared→Prop},dQ A n→c i j→Q (.int (f i j) s.toks) { s with toks:=s.toks+1 }→wpAny (cK G) A (binaryOp op (.int i t) (.int j u)) Q fE s):qO G n (binaryOp op) (gC o):=by
 intro A α σ s u v x y r σ' hA R hu hv e
 cases aM3 (hb x y σ▸e)with
 |mk i j h=>
  obtain⟨hc,e⟩:=eD h
  (refine dN e fun p q=> ?_;clear e;subst p q)
  obtain⟨t,rfl⟩:=hu.int_inv
  obtain⟨t',rfl⟩:=hv.int_inv
  exact run hA hc (qF R)
theorem cU3{a b:Addr}{vs ws:List Value}{l r:List V}(R:bZ G α σ s.heap)(ht:IsTup s.heap a vs.toArray)(hv:b8 G α s.heap vs l)(ht2:IsTup s.heap b ws.toArray)(hw:b8 G α s.heap ws r)(hz:l.length+r.length≤1000):
  wpAny (cK G) A (binaryOp .Add (.ref a) (.ref b)) (dZ G eB α s σ (.tup (l++r))) fE s:=by
 obtain⟨⟨cls,dd,data,sl⟩,ho,hc,k,hd⟩:=id ht
 obtain⟨⟨cls2,dd2,data2,sl2⟩,ho2,hc2,k2,hd2⟩:=id ht2
 simp only at hc hd hc2 hd2
 subst hc hd hc2 hd2
 have go:=fun {S:PySem.Spec} (g:Meets (Builtin.«tuple.__add__» ⟨[.ref a,.ref b],[]⟩) S) (h:S A (wants (dZ G eB α s σ (.tup (l++r))) fE) s)=>
  concat_meets (prog:=G.prog) (w:=G.w) (T:="tuple") (s:=s) (A:=A) (a:= .ref a) (b:= .ref b) ⟨_,ho,rfl⟩ ⟨_,ho2,rfl⟩ noFill_tuple_add seq_tuple_add PySem.F.slot_tuple_add PySem.F.entry_tuple_add (PySem.F.args_tuple_add_2 _ _) g h
 cases hv with
 |nil=>exact go (tuple_addW0 a b _ _ k k2 dd dd2 sl sl2 rfl) ⟨ho,ho2,α,.refl,R,.tup ht2 hw⟩
 |cons hv hvs=>
  cases hw with
  |nil=>exact go (tuple_addW1 a b _ _ k k2 dd dd2 sl sl2 (by simp) rfl) ⟨ho,ho2,by rw[List.append_nil];exact⟨α,.refl,R,.tup ht (.cons hv hvs)⟩⟩
  |cons hw hws=>
   have l1:=(b8.cons hv hvs).length
   have l2:=(b8.cons hw hws).length
   exact go (tuple_addW2 a b _ _ k k2 dd dd2 sl sl2 (by simp) (by simp) (by rw[List.size_toArray,List.size_toArray,l1,l2,sizeLine_eq];exact d0 hz rfl)) ⟨ho,ho2,by rw[List.append_toArray];exact qE R ((b8.cons hv hvs).append (.cons hw hws))⟩
theorem bZ9:qO G n (binaryOp .Add) (gC .add):=by
 intro A α σ s u v x y r σ' hA R hu hv e
 cases cU5 e with
 |int i j=>
  obtain⟨t,rfl⟩:=hu.int_inv
  obtain⟨t',rfl⟩:=hv.int_inv
  exact add_int (qF R)
 |tup l r h=>
  obtain⟨a,vs,rfl,ht,hvs⟩:=hu.tup_inv
  obtain⟨b,ws,rfl,ht2,hws⟩:=hv.tup_inv
  exact cU3 R ht hvs ht2 hws h
 |list i j l r h1 h2 h=>
  obtain⟨a,rfl,hi⟩:=hu.ref_inv
  obtain⟨b,rfl,hj⟩:=hv.ref_inv
  obtain⟨its,k,g1,g2⟩:=R.objs i a _ hi h1
  obtain⟨its2,k2,g3,g4⟩:=R.objs j b _ hj h2
  have l1:=g2.length
  have l2:=g4.length
  simp only[Array.length_toList]at l1 l2
  refine concat_meets ⟨_,g1,rfl⟩ ⟨_,g3,rfl⟩ noFill_list_add seq_list_add PySem.F.slot_list_add PySem.F.entry_list_add (PySem.F.args_list_add_2 _ _) (list_addW a b its its2 k k2 none none #[] #[] (by rw[sizeLine_eq];omega)) ⟨g1,g3,?_⟩
  have:=sI (k:=0) (t:=s.toks) R (g2.append g4)
  rw[show(its.toList++its2.toList).toArray=its++its2 by simp]at this
  exact this
theorem bZ6:qO G n (binaryOp .Sub) (gC .sub):=pX (fun _ _ _=>rfl) fun _ _ h=>sub_int h
theorem bZ7:qO G n (binaryOp .Mult) (gC .mul):=pX (fun _ _ _=>rfl) fun _ h q=>mul_int q (IntMulOk.of_left (by
 simp only[small,Bool.and_eq_true,decide_eq_true_eq]at h
 exact intBits_le_64 (by omega) (by omega)))
theorem bM3:qO G n (binaryOp .FloorDiv) (gC .fdiv):=pX (fun _ _ _=>rfl) fun hA h q=>floordiv_int_or hA.handled (fun z=>absurd z (by omega)) (fun _=>q) fun _=> .inl (PyProof.noPylong_small (by omega))
theorem bZ8:qO G n (binaryOp .Mod) (gC .mod):=pX (fun _ _ _=>rfl) fun hA h q=>mod_int_or hA.handled (fun z=>absurd z (by omega)) fun _=>q
theorem bO1{x:V}(h:x.kind=0∨x.kind=2):∃d,V.treeIn d x=true∧d≤7:=by
 rcases h with h |h
 ·obtain⟨i,rfl⟩:=o9 h
  exact⟨0,rfl,Nat.le_of_ble_eq_true rfl⟩
 ·exact⟨7,(fL (qB h)).1,Nat.le_refl _⟩
theorem aA1:∀(d:Nat) (x:V),V.treeIn d x=true→V.treeIn (d+1) x=true
 |0,x,h=>by cases x<;>(first |exact h |exact if_pos (by assumption))
 |d+1,x,h=>by
  cases x<;>simp[V.treeIn]at h⊢
  exact fun y hy=>by have:=aA1 d y (h y hy);simpa [V.treeIn]using this
theorem aA2{x:V}:∀{d e:Nat},d≤e→V.treeIn d x=true→V.treeIn e x=true
 |d,0,h,hx=>by cases Nat.le_zero.mp h;exact hx
 |d,e+1,h,hx=>by
  rcases Nat.lt_or_ge d (e+1)with q |q
  ·exact aA1 e x (aA2 (Nat.le_of_lt_succ q) hx)
  ·have:d=e+1:=Nat.le_antisymm h q
   subst this;exact hx
theorem sE{x:V}(h:x.kind=0∨x.kind=2):V.treeIn 7 x=true:=by
 obtain⟨d,h1,h2⟩:=bO1 h
 exact aA2 h2 h1
open Classical in
noncomputable def wJ (G:GC) (α:List Addr) (h:Heap) (x:V) (u:Value):Bool:=decide (∃z,RV G α h u z∧V.treeIn 7 z=true∧V.beq z x=true)
open Classical in
theorem aX9{h:Heap}{x z:V}{u:Value}(hz:RV G α h u z)(ht:V.treeIn 7 z=true):wJ G α h x u=V.beq z x:=by
 unfold wJ
 by_cases q:V.beq z x=true
 ·rw[q,decide_eq_true];exact⟨z,hz,ht,q⟩
 ·have:¬∃z',RV G α h u z'∧V.treeIn 7 z'=true∧V.beq z' x=true:=fun⟨z',h1,h2,h3⟩=>q (by rw[hz.tree_inj 7 7 h1 ht h2];exact h3)
  rw[decide_eq_false this]
  induction hb:V.beq z x using Bool.casesOn with
  |true=>exact absurd hb q
  |false=>rfl
theorem aQ6{h:Heap}{x:V}{vs:List Value}{l:List V}(H:b8 G α h vs l):(∀y∈l,y.kind=0∨y.kind=2)→vs.any (wJ G α h x)=l.any (fun y=>V.beq y x):=
 b8.ind (motive:=fun vs l _=>(∀y∈l,y.kind=0∨y.kind=2)→vs.any (wJ G α h x)=l.any (fun y=>V.beq y x)) (fun _=>rfl) (fun hv _ ih hk=>by
  rw[List.any_cons,List.any_cons,aX9 hv (sE (hk _ (.head _))),ih fun y hy=>hk y (.tail _ hy)]) H
set_option tactic.hygienic true in
theorem aL1{l:List V}{x:V}{b:Bool}(h:oF l x=some b):(x.kind=0∨x.kind=2)∧(∀y∈l,y.kind=0∨y.kind=2)∧b=l.any (fun y=>V.beq y x):=by
 unfold oF at h
 split at h
 ·rename_i q
  (refine cT h fun p=> ?_;clear h;subst p)
  simp only[Bool.and_eq_true,Bool.or_eq_true,beq_iff_eq,List.all_eq_true]at q
  exact⟨q.1,q.2,rfl⟩
 ·exact aN h
noncomputable def lP (G:GC) (n:Nat) (f:Value→Value→Sem Value) (g:V→V→aD→Option Bool):Prop:=
 ∀(A:Around) (α:List Addr) (σ:aD) (s:Shared) (u v:Value) (x y:V) (b:Bool),dQ A n→bZ G α σ s.heap→RV G α s.heap u x→RV G α s.heap v y→g x y σ=some b→
  wpAny (cK G) A (f u v) (dZ G eB α s σ (.bool b)) fE s
theorem yA{b:Bool}{t:Nat}(R:bZ G α σ s.heap):dZ G eB α s σ (.bool b) (.bool b) { s with toks:=t }:=⟨α,bX.refl.toks,R,.bool b⟩
theorem aT8{b:Bool}(R:bZ G α σ s.heap):dZ G eB α s σ (.bool b) (.bool b) s:=⟨α,bX.refl,R,.bool b⟩
theorem gL{b c:Bool}(R:bZ G α σ s.heap)(h:c=b):dZ G eB α s σ (.bool b) (.bool c) s:=h▸aT8 R
inductive EqR:V→V→Bool→Prop
 |bool (a b:Bool):EqR (.bool a) (.bool b) (a==b)
 |int (i j:Int):EqR (.int i) (.int j) (decide (i=j))
 |tup (l r:List V) (h1:∀y∈l,V.treeIn 6 y=true) (h2:∀y∈r,V.treeIn 6 y=true):EqR (.tup l) (.tup r) (V.beq (.tup l) (.tup r))
theorem bQ0{x y:V}{b:Bool}(e:uG x y=some b):EqR x y b:=by
 unfold uG at e
 split at e
 ·split at e
  ·(refine cT e fun p=> ?_;clear e;subst p);exact .int _ _
  ·exact aN e
 ·split at e
  ·(refine cT e fun p=> ?_;clear e;subst p);exact .bool _ _
  ·exact aN e
 ·split at e
  ·obtain⟨h,e⟩:=eD e
   (refine cT e fun p=> ?_;clear e;subst p)
   have h:=Bool.and_eq_true_iff.mp h
   exact .tup _ _ (List.all_eq_true.mp h.1) (List.all_eq_true.mp h.2)
  ·exact aN e
 ·exact aN e
theorem w9{vs ws:List Value}{l r:List V}(hA:dQ A n)(hv:b8 G α s.heap vs l)(hw:b8 G α s.heap ws r)(h1:∀y∈l,V.treeIn 6 y=true)(h2:∀y∈r,V.treeIn 6 y=true)(j:Nat)(g1:j<vs.toArray.size)(g2:j<ws.toArray.size):EqAt A.in1 s vs.toArray[j] ws.toArray[j] (eAt l r j):=
 aM0 hv hw (fun u v p q hp hq a b=>uH 6 6 A.in1 _ _ p q (by have:=hA.units;show A.units+1+6<9900;exact nM5 this rfl) a b (h1 p hp) (h2 q hq)) j g1 g2
theorem cR3:lP G n (compareOp .Eq) (fun x y _=>uG x y):=by
 intro A α σ s u v x y b hA R hu hv e
 cases bQ0 e with
 |bool i j=>cases hu.bool_inv;cases hv.bool_inv;exact eq_bool (gL R rfl)
 |int i j=>
  obtain⟨t,rfl⟩:=hu.int_inv
  obtain⟨t',rfl⟩:=hv.int_inv
  exact eq_int (gL R rfl)
 |tup l r h1 h2=>
  obtain⟨a,vs,rfl,ht,hvs⟩:=hu.tup_inv
  obtain⟨b,ws,rfl,ht2,hws⟩:=hv.tup_inv
  exact RcAt.tuples ht ht2 hA.cl (w9 hA hvs hws h1 h2) G.prog G.w fE _ (gL R (zK hvs hws).symm)
theorem cQ8:lP G n (compareOp .NotEq) (fun x y _=>(uG x y).map (!·)):=by
 intro A α σ s u v x y b hA R hu hv e
 obtain⟨c,e',rfl⟩:=Option.map_eq_some_iff.mp e
 clear e
 cases bQ0 e' with
 |bool i j=>cases hu.bool_inv;cases hv.bool_inv;exact ne_bool (gL R rfl)
 |int i j=>
  obtain⟨t,rfl⟩:=hu.int_inv
  obtain⟨t',rfl⟩:=hv.int_inv
  exact ne_int (gL R rfl)
 |tup l r h1 h2=>
  obtain⟨a,vs,rfl,ht,hvs⟩:=hu.tup_inv
  obtain⟨b,ws,rfl,ht2,hws⟩:=hv.tup_inv
  exact RcNeAt.tuples ht ht2 hA.cl (w9 hA hvs hws h1 h2) G.prog G.w fE _ (gL R (congrArg (!·) (zK hvs hws).symm))
theorem pY{op:CmpOp}{o:CO}{f:Int→Int→Bool}(hb:∀x y σ,gK o x y σ=lV x y fun i j=>some (f i j))
  (run:∀{A:Around} {s:Shared} {i j:Int} {t u:Tok} {Q:Value→Shared→Prop},Q (.bool (f i j)) s→wpAny (cK G) A (compareOp op (.int i t) (.int j u)) Q fE s):lP G n (compareOp op) (gK o):=by
 intro A α σ s u v x y b hA R hu hv e
 cases aM3 (hb x y σ▸e)with
 |mk i j h=>
  obtain⟨t,rfl⟩:=hu.int_inv
  obtain⟨t',rfl⟩:=hv.int_inv
  (refine cT h fun p=> ?_;clear h;subst p)
  exact run (gL R rfl)
theorem cQ9:lP G n (compareOp .Lt) (gK .lt):=pY (fun _ _ _=>rfl) fun q=>lt_int q
theorem cR0:lP G n (compareOp .LtE) (gK .le):=pY (fun _ _ _=>rfl) fun q=>le_int q
theorem cR1:lP G n (compareOp .Gt) (gK .gt):=pY (fun _ _ _=>rfl) fun q=>gt_int q
theorem cR2:lP G n (compareOp .GtE) (gK .ge):=pY (fun _ _ _=>rfl) fun q=>ge_int q
theorem cB9{d:Addr}{ents:List DictEntry}{k':Nat}{es:List (V×V)}{u:Value}{k:V}{Q:Value→Shared→Prop}(hA:dQ A n)(hs:(d==sysModules)=false)(ho:s.heap.get? d=some (dictOf ents k'))
  (H:gS G α s.heap ents es) (nd:(es.map (·.1)).Nodup) (hok:fM es k=true) (hk:RV G α s.heap u k) (h:∀t,Q (.bool (bW es k).isSome) { s with toks:=t }):wpAny (cK G) A (compareOp .In u (.ref d)) Q E s:=by
 show wpAny _ _ (do return .bool (←contains (.ref d) u)) Q E s
 refine wpAny_bind ?_
 unfold contains
 have hT:s.TypeIs (.ref d) "dict":=⟨_,ho,rfl⟩
 have hu:A.in1.units+10<cLine:=by have:=hA.units;show A.units+1+10<9900;exact nM5 this rfl
 have noStd:∀x,stdlibNamesSay? (.ref d) x=none:=fun x=>rfl
 try with_reducible refine wpAny_holding ?_
 simp only[noStd]
 refine wpAny_bind (wpAny_specialOf hT slot_dict_contains.lookup ?_)
 show wpAny _ _ (if(some (Value.builtin "dict.__contains__")==some Value.none)=true then _ else _) _ E s
 rw[if_neg (by rw[beq_builtin_none];exact Bool.false_ne_true)]
 refine wpAny_bind (wpAny_callSpecialUnlessNone?_slot (name:=Str.ofString "__contains__") hT slot_dict_contains
  (wpAny_call_entry slot_dict_contains hT entry_dict_contains ?_ (args_dict_contains _ _)))
 show wpAny _ _ (dictGet d u>>=_) _ _ s
 refine wpAny_bind (bD9 hu ho H nd hok hk (fun h0 t=> ?_) fun x v h1 _ t=> ?_)
 ·have q:=h t
  rw[h0]at q
  show wpAny _ _ (Builtin.Dict.pendingKey? d u>>=_) _ _ _
  exact wpAny_bind (wpAny_pendingKey_other hs (wpAny_pure ⟨_,rfl,wpAny_truthy_bool (wpAny_pure q)⟩))
 ·have q:=h t
  rw[h1]at q
  show wpAny _ _ (ret (.bool true)) _ _ _
  exact wpAny_pure ⟨_,rfl,wpAny_truthy_bool (wpAny_pure q)⟩
theorem aE0{u v:Value}{Q:Value→Shared→Prop}(h:wpAny (cK G) A (compareOp .In u v) (fun r s'=>∃b,r= .bool b∧Q (.bool (!b)) s') E s):wpAny (cK G) A (compareOp .NotIn u v) Q E s:=by
 have h:wpAny (cK G) A (do return Value.bool (←contains v u)) (fun r s'=>∃b,r= .bool b∧Q (.bool (!b)) s') E s:=h
 show wpAny (cK G) A (do return Value.bool (!(←contains v u))) Q E s
 refine wpAny_bind ?_
 intro Γ p hΓ
 have:=h Γ p hΓ
 rw[Sem.wp_bind']at this
 refine Sem.wp_mono _ Γ _ (fun b p' s' hb=> ?_) (fun _ _ _ h=>h) p s this
 simp only[Sem.wp_pure']at hb
 obtain⟨b',e,hq⟩:=hb
 cases e
 exact wpAny_pure hq
end
end
section
section
variable {G:GC}{n:Nat}{B:fB}
theorem pE{v:Value}{i:Int}(h:lG v=some i):∃t,v= .int i t:=by
 cases v<;>cases h
 exact⟨_,rfl⟩
inductive GdR:List DictEntry→List (Int×Int)→Prop
 |nil:GdR [] []
 |cons (i r:Int) (t t':Tok) {ents:List DictEntry} {es:List (Int×Int)} (h:GdR ents es):GdR (⟨hashInt i,.int i t,.int r t'⟩::ents) ((i,r)::es)
theorem aM5:∀{ents:List DictEntry} {es:List (Int×Int)},ents.map (fun e=>(e.hash,lG e.key,lG e.val))=es.map (fun e=>(hashInt e.1,some e.1,some e.2))→GdR ents es
 |[],[],_=> .nil
 |[],_::_,h=>nomatch h
 |_::_,[],h=>nomatch h
 |⟨hh,k,v⟩::ents,(i,r)::es,h=>by
  obtain⟨h1,h2⟩:=List.cons.inj h
  obtain⟨h3,h4⟩:=Prod.mk.inj h1
  obtain⟨h5,h6⟩:=Prod.mk.inj h4
  obtain⟨t,rfl⟩:=pE h5
  obtain⟨t',rfl⟩:=pE h6
  cases h3
  exact .cons i r t t' (aM5 h2)
theorem cB8{w:World}{prog:Program}{i:Int}{t:Tok}{k:Int}:(PySem.intKind prog w).is k (.int i t)=decide (i=k):=rfl
theorem cS1{w:World}{prog:Program}{ents:List DictEntry}{es:List (Int×Int)}(H:GdR ents es):KeysOf (PySem.intKind prog w) ents.toArray:=by
 intro e he
 replace he:=List.mem_toArray.mp he
 induction H with
 |nil=>cases he
 |cons i r t t' _ ih=>
  cases he with
  |head=>exact⟨i,decide_eq_true rfl,rfl⟩
  |tail _ he=>exact ih he
theorem cS8{w:World}{prog:Program}{ents:List DictEntry}{es:List (Int×Int)}(k:Int)(H:GdR ents es):(findBy (PySem.intKind prog w).is ents.toArray k).map lG=(eU es k).map some:=by
 unfold findBy
 rw[List.find?_toArray]
 induction H with
 |nil=>rfl
 |cons i r t t' _ ih=>
  rw[List.find?_cons,eU,cB8]
  by_cases q:i=k
  ·rw[decide_eq_true q,if_pos q];rfl
  ·rw[decide_eq_false q,if_neg q];exact ih
theorem x6{a:Addr}{es:List (Int×Int)}{h:Heap}(hg:cC3 G.h0 a es)(base:∀b o,G.h0.get? b=some o→h.get? b=some o):
  ∃f,h.MapOf (PySem.intKind G.prog G.w) a f∧∀k,(f k).map lG=(eU es k).map some:=by
 obtain⟨o,ents,m,ho,hx,hd,he⟩:=hg
 exact⟨_,⟨o,ents,m,base _ _ ho,hx,hd,cS1 (aM5 he),fun k=>rfl⟩,fun k=>cS8 k (aM5 he)⟩
variable {α:List Addr}{σ:aD}{s:Shared}{A:Around}
theorem aY0{x:V}{u:Value}(hA:dQ A n)(hu:RV G α s.heap u x)(hx:x.kind=0∨x.kind=2){vs:List Value}{l:List V}(H:b8 G α s.heap vs l)(hl:∀y∈l,y.kind=0∨y.kind=2):
  ∀v∈vs.toArray,EqAt A.in1 s v u (wJ G α s.heap x v):=by
 intro v hv
 obtain⟨y,hy,hr⟩:=H.mem (by simpa using hv)
 rw[aX9 hr (sE (hl y hy))]
 refine uH 7 7 A.in1 _ _ y x ?_ hr hu (sE (hl y hy)) (sE hx)
 have:=hA.units
 show A.units+1+7<9900
 exact nM5 this rfl
inductive InR (σ:aD) (x:V) (b:Bool):V→Prop
 |tup (l:List V) (h:oF l x=some b):InR σ x b (.tup l)
 |gd (es:List (Int×Int)) (k:Int) (h:x= .int k) (hb:(eU es k).isSome=b):InR σ x b (.gd es)
 |list (i:Nat) (l:List V) (q:σ[i]? =some (.list l)) (h:oF l x=some b):InR σ x b (.ref i)
 |dict (i:Nat) (es:List (V×V)) (q:σ[i]? =some (.dict es)) (h:fM es x=true) (hb:(bW es x).isSome=b):InR σ x b (.ref i)
theorem dB6{x y:V}{b:Bool}(e:sS x y σ=some b):InR σ x b y:=by
 unfold sS at e
 split at e
 ·exact .tup _ e
 ·split at e
  ·exact .gd _ _ rfl (Option.some.inj e)
  ·exact aN e
 ·split at e
  ·exact .list _ _ (by assumption) e
  ·obtain⟨h,e⟩:=eD e
   exact .dict _ _ (by assumption) h (Option.some.inj e)
  ·exact aN e
 ·exact aN e
theorem bO6{f:Option Value}{g:Option Int}(h:f.map lG=g.map some):f.isSome=g.isSome:=by
 rw[←Option.isSome_map (f:=lG),h,Option.isSome_map]
theorem aW8(O:G.Ok):lP G n (compareOp .In) (gK .isIn):=by
 intro A α σ s u v x y b hA R hu hv e
 cases dB6 e with
 |tup l h=>
  obtain⟨hx,hl,rfl⟩:=aL1 h
  obtain⟨a,vs,rfl,ht,hws⟩:=hv.tup_inv
  exact SeqAt.in_tupleAt (wJ G α s.heap x) ht (aY0 hA hu hx hws hl) (gL R (by simpa using aQ6 hws hl))
 |gd es k h hb=>
  subst h
  obtain⟨t,rfl⟩:=hu.int_inv
  obtain⟨a,rfl,hg,hs⟩:=RV.is hv
  obtain⟨f,hf,h1⟩:=x6 hg R.base
  refine wpAny_in_of (k:=k) (decide_eq_true rfl) (beq_eq_false_iff_ne.mpr hs) hf ?_
  rw[bO6 (h1 k),hb]
  exact yA R
 |list i l q h=>
  obtain⟨hx,hl,rfl⟩:=aL1 h
  obtain⟨a,rfl,hi⟩:=hv.ref_inv
  obtain⟨its,k,ho,hws⟩:=R.objs i a _ hi q
  exact SeqAt.in_listAt (wJ G α s.heap x) (items:=its) ⟨_,ho,rfl,k,rfl⟩ (aY0 hA hu hx hws hl) (gL R (by simpa using aQ6 hws hl))
 |dict i es q h hb=>
  obtain⟨a,rfl,hi⟩:=hv.ref_inv
  obtain⟨ents,k,ho,H,nd,_⟩:=R.objs i a _ hi q
  exact cB9 (n:=n) hA (R.notSys (List.mem_of_getElem? hi)) ho H nd h hu fun t=>hb▸yA R
theorem bC3(O:G.Ok):lP G n (compareOp .NotIn) (gK .notIn):=by
 intro A α σ s u v x y b hA R hu hv e
 simp only[gK]at e
 obtain⟨c,hc,rfl⟩:=Option.map_eq_some_iff.mp e
 refine aE0 (c9 (aW8 O A α σ s u v x y c hA R hu hv hc) ?_)
 rintro r s' ⟨α',S,R',V⟩
 exact⟨c,V.bool_inv,α',S,R',.bool _⟩
noncomputable def lT:CO→CmpOp
 | .eq=> .Eq | .ne=> .NotEq | .lt=> .Lt | .le=> .LtE | .gt=> .Gt | .ge=> .GtE | .isIn=> .In | .notIn=> .NotIn
theorem rZ(O:G.Ok)(o:CO):lP G n (compareOp (lT o)) (gK o):=by
 cases o
 ·exact cR3
 ·exact cQ8
 ·exact cQ9
 ·exact cR0
 ·exact cR1
 ·exact cR2
 ·exact aW8 O
 ·exact bC3 O
noncomputable def aF7:BO→Operator
 | .add=> .Add | .sub=> .Sub | .mul=> .Mult | .fdiv=> .FloorDiv | .mod=> .Mod
theorem bC4(o:BO):qO G n (binaryOp (aF7 o)) (gC o):=by
 cases o
 ·exact bZ9
 ·exact bZ6
 ·exact bZ7
 ·exact bM3
 ·exact bZ8
theorem bX4(o:BO){l r:Expr}{a b:EM}{pos:Pos}(h1:aY G n B l a)(h2:aY G n B r b):aY G n B (.BinOp l (aF7 o) r pos) (aT o a b):=cO3 (bC4 o) h1 h2
inductive yO (σ:aD):V→Bool→Prop
 |bool (b:Bool):yO σ (.bool b) b
 |int (i:Int):yO σ (.int i) (decide (i≠0))
 |list (i:Nat) (l:List V) (q:σ[i]? =some (.list l)) (h:l.length≤100000):yO σ (.ref i) (!l.isEmpty)
theorem bJ5{x:V}{b:Bool}(e:e0 x σ=some b):yO σ x b:=by
 unfold e0 at e
 split at e
 ·(refine cT e fun p=> ?_;clear e;subst p);exact .bool _
 ·(refine cT e fun p=> ?_;clear e;subst p);exact .int _
 ·split at e
  ·obtain⟨h,e⟩:=eD e
   (refine cT e fun p=> ?_;clear e;subst p)
   exact .list _ _ (by assumption) h
  ·exact aN e
 ·exact aN e
theorem oV{u:Value}{x:V}{b:Bool}{Q:Bool→Shared→Prop}{E:Value→Shared→Prop}(R:bZ G α σ s.heap)(hu:RV G α s.heap u x)(e:e0 x σ=some b)(k:∀s₁,bX eB α α s s₁→bZ G α σ s₁.heap→Q b s₁):wpAny (cK G) A (truthy u) Q E s:=by
 cases bJ5 e with
 |bool b=>cases hu.bool_inv;exact wpAny_truthy_bool (k _ .refl R)
 |int i=>
  obtain⟨t,rfl⟩:=hu.int_inv
  exact truthy_int (by rw[show(i !=0)=decide (i≠0) by by_cases q:i=0<;>(first |(rw[q];rfl) |simp[q])];exact k _ .refl R)
 |list i l q h=>
  obtain⟨a,rfl,hi⟩:=hu.ref_inv
  obtain⟨its,n,ho,hws⟩:=R.objs i a _ hi q
  have hl:=hws.length
  rw[Array.length_toList]at hl
  refine wpAny_truthy_list (items:=its) ⟨_,ho,rfl,n,rfl⟩ (nIx (Nat.le_trans (Nat.le_of_eq hl) h) rfl) ?_
  rw[show(!its.isEmpty)= !l.isEmpty by rw[←List.isEmpty_toArray,Array.isEmpty,Array.isEmpty,hl];rfl]
  exact k _ bX.refl.toks R
theorem aF9.after{W:Addr→Prop}{α₁:List Addr}{s₁ s₂:Shared}{σ':aD}{b b':Bool}(S:bX W α α₁ s s₁)(h:aF9 G W α₁ s₁ σ' b b' s₂):aF9 G W α s σ' b b' s₂:=
 let⟨α₂,T,R,e⟩:=h;⟨α₂,S.trans T,R,e⟩
theorem bW4{m:EM}{ρ:Env}{b:Bool}{σ':aD}{P:Prop}(e:bL m ρ σ=some (b,σ'))(k:∀x,m ρ σ=some (x,σ')→e0 x σ'=some b→P):P:=by
 unfold bL at e
 split at e
 ·split at e
  ·(refine dN e fun p q=> ?_;clear e;subst p q);exact k _ (by assumption) (by assumption)
  ·exact aN e
 ·exact aN e
theorem o6{e:Expr}{m:EM}(h:aY G n B e m)(hp:∀env whole,PySem.isTrue e env whole=(do let v ←whole;standAt e.pos;holding [v] (truthy v))):gD G n B e (bL m):=
 ⟨fun A env ρ α σ s b σ' hA hs F R e=>bW4 e fun x h1 h2=>
  wpAny_isTrue_value (h.to hA hs F R h1 fun u s₁ α₁ S₁ R₁ F₁ V₁=>oV R₁ V₁ h2 fun s₂ S₂ R₂=>⟨α₁,S₁.trans S₂,R₂,rfl⟩) (hp _ _)⟩
theorem bW5{o:CO}{a b:EM}{ρ:Env}{c:Bool}{σ':aD}{P:Prop}(e:aK o a b ρ σ=some (c,σ'))(k:∀x σ₁ y,a ρ σ=some (x,σ₁)→b ρ σ₁=some (y,σ')→gK o x y σ'=some c→P):P:=by
 unfold aK at e
 split at e
 ·split at e
  ·split at e
   ·(refine dN e fun p q=> ?_;clear e;subst p q);exact k _ _ _ (by assumption) (by assumption) (by assumption)
   ·exact aN e
  ·exact aN e
 ·exact aN e
theorem lP.to{f:Value→Value→Sem Value}{g:V→V→aD→Option Bool}{u v:Value}{x y:V}{b:Bool}{Q:Value→Shared→Prop}{E:Value→Shared→Prop}(P:lP G n f g)(hA:dQ A n)(R:bZ G α σ s.heap)(hu:RV G α s.heap u x)(hv:RV G α s.heap v y)(e:g x y σ=some b)
  (k:∀s₁ α₁,bX eB α α₁ s s₁→bZ G α₁ σ s₁.heap→Q (.bool b) s₁):wpAny (cK G) A (f u v) Q E s:=
 c9 (P A α σ s u v x y b hA R hu hv e) fun r s₁ ⟨α₁,S,R₁,V⟩=>V.bool_inv▸k s₁ α₁ S R₁
theorem aY5(O:G.Ok)(o:CO){l r:Expr}{a b:EM}{env:PySem.Env}{ρ:Env}{c:Bool}{σ':aD}{Q:Value→Shared→Prop}{E E' E'':Value→Shared→Prop}(h1:aY G n B l a)(h2:aY G n B r b)(hA:dQ A n)(hs:env.scope=B.sc)(F:eY G B.ns env ρ α s.heap)(R:bZ G α σ s.heap)
  (e:aK o a b ρ σ=some (c,σ')) (k:∀s₁ α₁,bX eB α α₁ s s₁→bZ G α₁ σ' s₁.heap→Q (.bool c) s₁):wpAny (cK G) A (eval l env) (fun u s=>wpAny (cK G) A (eval r env) (fun v s=>wpAny (cK G) A (compareOp (lT o) u v) Q E s) E' s) E'' s:=
 bW5 e fun x σ₁ y e1 e2 e3=>h1.to hA hs F R e1 fun u s₁ α₁ S₁ R₁ F₁ V₁=>h2.to hA hs F₁ R₁ e2 fun v s₂ α₂ S₂ R₂ F₂ V₂=>(rZ O o).to hA R₂ (V₁.later S₂.later) V₂ e3 fun s₃ α₃ S₃ R₃=>k s₃ α₃ ((S₁.trans S₂).trans S₃) R₃
theorem bX9(O:G.Ok)(o:CO){l r:Expr}{a b:EM}{pos:Pos}(h1:aY G n B l a)(h2:aY G n B r b)(hm:behindInMarks (lT o) r=false):gD G n B (.Compare l [lT o] [r] pos) (aK o a b):=
 ⟨fun A env ρ α σ s c σ' hA hs F R e=>wpAny_isTrue_Compare1 (aY5 O o h1 h2 hA hs F R e fun s₃ α₃ S₃ R₃=>wpAny_truthy_bool ⟨α₃,S₃,R₃,rfl⟩) hm⟩
theorem bQ2{t:TM}{ρ:Env}{x:V}{σ':aD}{P:Prop}(e:cP t ρ σ=some (x,σ'))(k:∀c,t ρ σ=some (c,σ')→x= .bool c→P):P:=by
 unfold cP at e
 split at e
 ·(refine dN e fun p q=> ?_;clear e;subst p q);exact k _ (by assumption) rfl
 ·exact aN e
theorem cO2(O:G.Ok)(o:CO){l r:Expr}{a b:EM}{pos:Pos}(h1:aY G n B l a)(h2:aY G n B r b)(hm:behindInMarks (lT o) r=false):aY G n B (.Compare l [lT o] [r] pos) (cP (aK o a b)):=
 ⟨fun A env ρ α σ s x σ' hA hs F R e=>bQ2 e fun c e hx=>wpAny_Compare1 (aY5 O o h1 h2 hA hs F R e fun s₃ α₃ S₃ R₃=>⟨α₃,S₃,R₃,hx▸ .bool c⟩) hm⟩
inductive dK2 (o p:CO) (a b c:EM) (ρ:Env) (σ:aD) (d:Bool) (σ':aD):Prop
 |yes (x:V) (σ₁:aD) (y:V) (σ₂:aD) (z:V) (h1:a ρ σ=some (x,σ₁)) (h2:b ρ σ₁=some (y,σ₂)) (h3:gK o x y σ₂=some true) (h4:c ρ σ₂=some (z,σ')) (h5:gK p y z σ'=some d)
 |no (x:V) (σ₁:aD) (y:V) (h1:a ρ σ=some (x,σ₁)) (h2:b ρ σ₁=some (y,σ')) (h3:gK o x y σ'=some false) (hd:d=false)
theorem bJ6{o p:CO}{a b c:EM}{ρ:Env}{d:Bool}{σ':aD}(e:oM o p a b c ρ σ=some (d,σ')):dK2 o p a b c ρ σ d σ':=by
 unfold oM at e
 split at e
 ·split at e
  ·split at e
   ·split at e
    ·split at e
     ·(refine dN e fun p q=> ?_;clear e;subst p q);exact .yes _ _ _ _ _ (by assumption) (by assumption) (by assumption) (by assumption) (by assumption)
     ·exact aN e
    ·exact aN e
   ·(refine dN e fun p q=> ?_;clear e;subst p q);exact .no _ _ _ (by assumption) (by assumption) (by assumption) rfl
   ·exact aN e
  ·exact aN e
 ·exact aN e
theorem bK0(O:G.Ok)(o p:CO){l m r:Expr}{a b c:EM}{pos:Pos}(h1:aY G n B l a)(h2:aY G n B m b)(h3:aY G n B r c)(hm:lastMarks [lT o,lT p] [m,r]=false):
  gD G n B (.Compare l [lT o,lT p] [m,r] pos) (oM o p a b c):=by
 refine⟨fun A env ρ α σ s d σ' hA hs F R e=> ?_⟩
 cases bJ6 e with
 |yes x σ₁ y σ₂ z g1 g2 g3 g4 g5=>
  refine isTrue_chain (h1.to hA hs F R g1 fun u s₁ α₁ S₁ R₁ F₁ V₁=>test_link (h2.to hA hs F₁ R₁ g2 fun v s₂ α₂ S₂ R₂ F₂ V₂=>(rZ O o).to hA R₂ (V₁.later S₂.later) V₂ g3 fun s₃ α₃ S₃ R₃=>wpAny_truthy_bool ?_)) hm
  exact test_last (h3.to hA hs (F₂.stp0 S₃) R₃ g4 fun w s₄ α₄ S₄ R₄ F₄ V₄=>(rZ O p).to hA R₄ ((V₂.later S₃.later).later S₄.later) V₄ g5 fun s₅ α₅ S₅ R₅=>wpAny_truthy_bool ⟨α₅,(((S₁.trans S₂).trans S₃).trans S₄).trans S₅,R₅,rfl⟩)
 |no x σ₁ y g1 g2 g3 hd=>
  exact isTrue_chain (h1.to hA hs F R g1 fun u s₁ α₁ S₁ R₁ F₁ V₁=>test_link (h2.to hA hs F₁ R₁ g2 fun v s₂ α₂ S₂ R₂ F₂ V₂=>(rZ O o).to hA R₂ (V₁.later S₂.later) V₂ g3 fun s₃ α₃ S₃ R₃=>wpAny_truthy_bool ⟨α₃,(S₁.trans S₂).trans S₃,R₃,hd.symm⟩)) hm
set_option tactic.hygienic true in
theorem bX8{e:Expr}{t:TM}{pos:Pos}(h:gD G n B e t):gD G n B (.UnaryOp .Not e pos) (gG t):=by
 refine⟨fun A env ρ α σ s b σ' hA hs F R e'=> ?_⟩
 unfold gG at e'
 split at e'
 ·rename_i c σ₁ h1
  (refine dN e' fun p q=> ?_;clear e';subst p q)
  exact isTrue_not (c9 (h.run A env ρ α σ s c σ' hA hs F R h1) fun c' s' ⟨α',S,R',e⟩=>⟨α',S,R',by rw[e]⟩)
 ·exact aN e'
theorem bK1{e:Expr}{t:TM}{pos:Pos}(h:gD G n B e t):gD G n B (.BoolOp .And [e] pos) t:=by
 refine⟨fun A env ρ α σ s b σ' hA hs F R e'=> ?_⟩
 refine isTrue_and (c9 (h.run A env ρ α σ s b σ' hA hs F R e') ?_)
 rintro c s' ⟨α',S,R',rfl⟩
 cases c
 ·exact⟨α',S,R',rfl⟩
 ·exact isTrue_and_nil ⟨α',S,R',rfl⟩
inductive bT2 (w:Bool) (a b:TM) (ρ:Env) (σ:aD) (c:Bool) (σ':aD):Prop
 |stop (h:a ρ σ=some (w,σ')) (e:c=w)
 |go (σ₁:aD) (h:a ρ σ=some (!w,σ₁)) (e:b ρ σ₁=some (c,σ'))
set_option tactic.hygienic true in
theorem bW6{a b:TM}{ρ:Env}{c:Bool}{σ':aD}(e:eJ a b ρ σ=some (c,σ')):bT2 false a b ρ σ c σ':=by
 unfold eJ at e
 split at e
 ·exact .go _ (by assumption) e
 ·rename_i h1
  induction c using Bool.casesOn with
  |true=>exact absurd e (h1 _)
  |false=>exact .stop e rfl
set_option tactic.hygienic true in
theorem cM6{a b:TM}{ρ:Env}{c:Bool}{σ':aD}(e:dT a b ρ σ=some (c,σ')):bT2 true a b ρ σ c σ':=by
 unfold dT at e
 split at e
 ·exact .go _ (by assumption) e
 ·rename_i h1
  induction c using Bool.casesOn with
  |false=>exact absurd e (h1 _)
  |true=>exact .stop e rfl
theorem bY0{e:Expr}{es:List Expr}{t r:TM}{pos:Pos}(h:gD G n B e t)(hr:gD G n B (.BoolOp .And es pos) r):gD G n B (.BoolOp .And (e::es) pos) (eJ t r):=
 ⟨fun A env ρ α σ s b σ' hA hs F R e=>match bW6 e with
  | .stop h1 q=>isTrue_and (h.to hA hs F R h1 fun s' α' S R' F'=>⟨α',S,R',q.symm⟩)
  | .go σ₁ h1 e=>isTrue_and (h.to hA hs F R h1 fun s' α' S R' F'=>hr.to hA hs F' R' e fun s₂ α₂ S₂ R₂ _=>⟨α₂,S.trans S₂,R₂,rfl⟩)⟩
theorem bX7{e:Expr}{t:TM}{pos:Pos}(h:gD G n B e t):gD G n B (.BoolOp .Or [e] pos) t:=by
 refine⟨fun A env ρ α σ s b σ' hA hs F R e'=> ?_⟩
 refine isTrue_or (c9 (h.run A env ρ α σ s b σ' hA hs F R e') ?_)
 rintro c s' ⟨α',S,R',rfl⟩
 cases c
 ·exact isTrue_or_nil ⟨α',S,R',rfl⟩
 ·exact⟨α',S,R',rfl⟩
theorem cO5{e:Expr}{es:List Expr}{t r:TM}{pos:Pos}(h:gD G n B e t)(hr:gD G n B (.BoolOp .Or es pos) r):gD G n B (.BoolOp .Or (e::es) pos) (dT t r):=
 ⟨fun A env ρ α σ s b σ' hA hs F R e=>match cM6 e with
  | .stop h1 q=>isTrue_or (h.to hA hs F R h1 fun s' α' S R' F'=>⟨α',S,R',q.symm⟩)
  | .go σ₁ h1 e=>isTrue_or (h.to hA hs F R h1 fun s' α' S R' F'=>hr.to hA hs F' R' e fun s₂ α₂ S₂ R₂ _=>⟨α₂,S.trans S₂,R₂,rfl⟩)⟩
theorem bX6{e:Expr}{t:EM}{pos:Pos}(h:aY G n B e t):aY G n B (.BoolOp .And [e] pos) t:=⟨fun A env ρ α σ s b σ' hA hs F R e'=>BoolOp_one (h.run A env ρ α σ s b σ' hA hs F R e')⟩
theorem cN4{e:Expr}{t:EM}{pos:Pos}(h:aY G n B e t):aY G n B (.BoolOp .Or [e] pos) t:=⟨fun A env ρ α σ s b σ' hA hs F R e'=>BoolOp_one (h.run A env ρ α σ s b σ' hA hs F R e')⟩
inductive bU3 (w:Bool) (a b:EM) (ρ:Env) (σ:aD) (x:V) (σ':aD):Prop
 |stop (h:a ρ σ=some (x,σ')) (ht:e0 x σ'=some w)
 |go (v:V) (σ₁:aD) (h:a ρ σ=some (v,σ₁)) (ht:e0 v σ₁=some (!w)) (e:b ρ σ₁=some (x,σ'))
theorem cE0{a b:EM}{ρ:Env}{x:V}{σ':aD}(e:gZ a b ρ σ=some (x,σ')):bU3 false a b ρ σ x σ':=by
 unfold gZ at e
 split at e
 ·split at e
  ·exact .go _ _ (by assumption) (by assumption) e
  ·(refine dN e fun p q=> ?_;clear e;subst p q);exact .stop (by assumption) (by assumption)
  ·exact aN e
 ·exact aN e
theorem cT0{a b:EM}{ρ:Env}{x:V}{σ':aD}(e:mV a b ρ σ=some (x,σ')):bU3 true a b ρ σ x σ':=by
 unfold mV at e
 split at e
 ·split at e
  ·(refine dN e fun p q=> ?_;clear e;subst p q);exact .stop (by assumption) (by assumption)
  ·exact .go _ _ (by assumption) (by assumption) e
  ·exact aN e
 ·exact aN e
theorem cO4{e f:Expr}{es:List Expr}{t r:EM}{pos:Pos}(h:aY G n B e t)(hr:aY G n B (.BoolOp .And (f::es) pos) r):aY G n B (.BoolOp .And (e::f::es) pos) (gZ t r):=
 ⟨fun A env ρ α σ s b σ' hA hs F R e=>match cE0 e with
  | .stop h1 ht=>BoolOp_and (h.to hA hs F R h1 fun u s' α' S R' F' V=>oV R' V ht fun s₂ S₂ R₂=>⟨α',S.trans S₂,R₂,V.later S₂.later⟩)
  | .go v σ₁ h1 ht e=>BoolOp_and (h.to hA hs F R h1 fun u s' α' S R' F' V=>oV R' V ht fun s₂ S₂ R₂=>hr.to hA hs (F'.stp0 S₂) R₂ e fun u s₃ α₃ S₃ R₃ _ V₃=>⟨α₃,(S.trans S₂).trans S₃,R₃,V₃⟩)⟩
theorem cX5{e f:Expr}{es:List Expr}{t r:EM}{pos:Pos}(h:aY G n B e t)(hr:aY G n B (.BoolOp .Or (f::es) pos) r):aY G n B (.BoolOp .Or (e::f::es) pos) (mV t r):=
 ⟨fun A env ρ α σ s b σ' hA hs F R e=>match cT0 e with
  | .stop h1 ht=>BoolOp_or (h.to hA hs F R h1 fun u s' α' S R' F' V=>oV R' V ht fun s₂ S₂ R₂=>⟨α',S.trans S₂,R₂,V.later S₂.later⟩)
  | .go v σ₁ h1 ht e=>BoolOp_or (h.to hA hs F R h1 fun u s' α' S R' F' V=>oV R' V ht fun s₂ S₂ R₂=>hr.to hA hs (F'.stp0 S₂) R₂ e fun u s₃ α₃ S₃ R₃ _ V₃=>⟨α₃,(S.trans S₂).trans S₃,R₃,V₃⟩)⟩
theorem cD6{a:EM}{ρ:Env}{x:V}{σ':aD}{P:Prop}(e:mO a ρ σ=some (x,σ'))(k:∀v c,a ρ σ=some (v,σ')→e0 v σ'=some c→x= .bool (!c)→P):P:=by
 unfold mO at e
 split at e
 ·split at e
  ·(refine dN e fun p q=> ?_;clear e;subst p q);exact k _ _ (by assumption) (by assumption) rfl
  ·exact aN e
 ·exact aN e
theorem cN5{e:Expr}{t:EM}{pos:Pos}(h:aY G n B e t):aY G n B (.UnaryOp .Not e pos) (mO t):=
 ⟨fun A env ρ α σ s x σ' hA hs F R e=>cD6 e fun v c h1 ht hx=>wpAny_UnaryOp (h.to hA hs F R h1 fun u s' α' S R' F' V=>not_of (oV R' V ht fun s₂ S₂ R₂=>⟨α',S.trans S₂,R₂,hx▸ .bool _⟩))⟩
inductive IfR (t:TM) (a b:EM) (ρ:Env) (σ:aD) (r:V×aD):Prop
 |yes (σ₁:aD) (h:t ρ σ=some (true,σ₁)) (e:a ρ σ₁=some r)
 |no (σ₁:aD) (h:t ρ σ=some (false,σ₁)) (e:b ρ σ₁=some r)
theorem cT1{t:TM}{a b:EM}{ρ:Env}{r:V×aD}(e:fF t a b ρ σ=some r):IfR t a b ρ σ r:=by
 unfold fF at e
 split at e
 ·exact .yes _ (by assumption) e
 ·exact .no _ (by assumption) e
 ·exact aN e
theorem cX7{t:Expr}{a b:Expr}{tm:TM}{am bm:EM}{pos:Pos}(ht:gD G n B t tm)(ha:aY G n B a am)(hb:aY G n B b bm):aY G n B (.IfExp t a b pos) (fF tm am bm):=
 ⟨fun A env ρ α σ s y σ' hA hs F R e=>match cT1 e with
  | .yes σ₁ h1 e=>wpAny_IfExp (ht.to hA hs F R h1 fun s' α' S R' F'=>ha.to hA hs F' R' e fun u s₂ α₂ S₂ R₂ _ V₂=>⟨α₂,S.trans S₂,R₂,V₂⟩)
  | .no σ₁ h1 e=>wpAny_IfExp (ht.to hA hs F R h1 fun s' α' S R' F'=>hb.to hA hs F' R' e fun u s₂ α₂ S₂ R₂ _ V₂=>⟨α₂,S.trans S₂,R₂,V₂⟩)⟩
end
end
section
section
variable {G:GC}{n:Nat}{B:fB}{α:List Addr}{σ:aD}{s:Shared}{A:Around}
theorem aD8{d:Addr}{ents:List DictEntry}{k':Nat}{es:List (V×V)}{u:Value}{k x:V}{E:Value→Shared→Prop}{Q:Value→Shared→Prop}(hA:dQ A n)(ho:s.heap.get? d=some (dictOf ents k'))
  (H:gS G α s.heap ents es) (nd:(es.map (·.1)).Nodup) (hok:fM es k=true) (hk:RV G α s.heap u k) (hx:bW es k=some x) (h:∀v t,RV G α s.heap v x→Q v { s with toks:=t }):wpAny (cK G) A (getItem (.ref d) u) Q E s:=by
 have hT:s.TypeIs (.ref d) "dict":=⟨_,ho,rfl⟩
 have hu:A.in1.units+10<cLine:=by have:=hA.units;show A.units+1+10<9900;exact nM5 this rfl
 unfold getItem
 try with_reducible refine wpAny_holding ?_
 refine wpAny_bind (wpAny_sequenceKey hT (by decide) ?_)
 refine wpAny_bind (wpAny_callSpecial?_slot (name:=Str.ofString "__getitem__") hT slot_dict_getitem
  (wpAny_call_entry slot_dict_getitem hT entry_dict_getitem ?_ (args_dict_getitem _ _)))
 show wpAny _ _ (dictGet d u>>=_) _ _ s
 refine wpAny_bind (bD9 hu ho H nd hok hk (fun h0 t=> ?_) fun y v h1 hv t=> ?_)
 ·rw[hx]at h0;exact aF6 h0
 ·rw[hx]at h1;(refine cT h1 fun p=> ?_;clear h1;subst p)
  exact wpAny_pure ⟨v,rfl,wpAny_pure (h v t hv)⟩
inductive aQ8 (σ:aD) (r:V):V→V→Prop
 |tup (l:List V) (k:Int) (h:0≤k∧k<2^60) (e:l[k.toNat]? =some r):aQ8 σ r (.tup l) (.int k)
 |list (j:Nat) (l:List V) (k:Int) (q:σ[j]? =some (.list l)) (h:0≤k∧k<2^60) (e:l[k.toNat]? =some r):aQ8 σ r (.ref j) (.int k)
 |dict (j:Nat) (es:List (V×V)) (i:V) (q:σ[j]? =some (.dict es)) (h:fM es i=true) (e:bW es i=some r):aQ8 σ r (.ref j) i
 |gd (es:List (Int×Int)) (k i:Int) (e:eU es k=some i) (hr:r= .int i):aQ8 σ r (.gd es) (.int k)
theorem cM7{x y r:V}(e:gH x y σ=some r):aQ8 σ r x y:=by
 unfold gH at e
 split at e
 ·split at e
  ·obtain⟨h,e⟩:=eD e;exact .tup _ _ h e
  ·exact aN e
 ·split at e
  ·split at e
   ·obtain⟨h,e⟩:=eD e;exact .list _ _ _ (by assumption) h e
   ·exact aN e
  ·obtain⟨h,e⟩:=eD e;exact .dict _ _ _ (by assumption) h e
  ·exact aN e
 ·split at e
  ·split at e
   ·exact .gd _ _ _ (by assumption) (Option.some.inj e).symm
   ·exact aN e
  ·exact aN e
 ·exact aN e
theorem dH9{value slice:Expr}{o i:Value}{x y r:V}(hA:dQ A n)(R:bZ G α σ s.heap)(ho:RV G α s.heap o x)(hi:RV G α s.heap i y)(e:gH x y σ=some r)
  (hs:∃ops,subscripted slice false o i=operate ops (getItem o i)):wpAny (cK G) A (subscriptTail value slice o i) (dZ G eB α s σ r) fE s:=by
 obtain⟨ops,hs⟩:=hs
 cases cM7 e with
 |tup l k hk g=>
  obtain⟨a,vs,rfl,ht,hv⟩:=ho.tup_inv
  obtain⟨t,rfl⟩:=hi.int_inv
  obtain⟨u,hu,hr⟩:=(hv.get k.toNat).1 _ g
  have hlt:=(List.getElem?_eq_some_iff.mp hu).1
  refine tail_any ht.typeIs F.slot_tuple_getitem.lookup (getItem_tuple (j:=k.toNat) (x:=u) ht (l9 hk.1 rfl) (by omega) ?_ (List.getElem?_toArray.trans hu) ⟨α,.refl,R,hr⟩) hs
  unfold seqIndex?
  simp only[List.size_toArray]
  simp;omega
 |list j l k q hk g=>
  obtain⟨a,rfl,hj⟩:=ho.ref_inv
  obtain⟨t,rfl⟩:=hi.int_inv
  obtain⟨its,k',ho,hv⟩:=R.objs j a _ hj q
  obtain⟨u,hu,hr⟩:=(hv.get k.toNat).1 _ g
  have hL:s.heap.IsList a its:=⟨_,ho,rfl,k',rfl⟩
  exact tail_any hL.typeIs slot_list_getitem.lookup (wpAny_getItem_list (x:=u) hL hk.1 (by omega) (by rw[←Array.getElem?_toList];exact hu) ⟨α,.refl,R,hr⟩) hs
 |dict j es i q hok g=>
  obtain⟨a,rfl,hj⟩:=ho.ref_inv
  obtain⟨ents,k',ho,H,nd,_⟩:=R.objs j a _ hj q
  have hT:s.TypeIs (.ref a) "dict":=⟨_,ho,rfl⟩
  exact tail_any hT slot_dict_getitem.lookup (aD8 (n:=n) hA ho H nd hok hi g fun v t hv=>⟨α,bX.refl.toks,R,hv⟩) hs
 |gd es k r' q hr=>
  subst hr
  obtain⟨a,rfl,hg,_⟩:=RV.is ho
  obtain⟨t,rfl⟩:=hi.int_inv
  obtain⟨f,hf,h1⟩:=x6 hg R.base
  have h1:=h1 k
  rw[q]at h1
  obtain⟨v,hv,h1⟩:=Option.map_eq_some_iff.mp h1
  obtain⟨t',rfl⟩:=pE h1
  exact tail_any hf.typeIs slot_dict_getitem.lookup (wpAny_getItem_of (k:=k) (decide_eq_true rfl) hf hv ⟨α,bX.refl.toks,R,.int _ _⟩) hs
theorem cD4{a b:EM}{ρ:Env}{r:V}{σ':aD}{P:Prop}(e:aG a b ρ σ=some (r,σ'))(k:∀x σ₁ y,a ρ σ=some (x,σ₁)→b ρ σ₁=some (y,σ')→gH x y σ'=some r→P):P:=by
 unfold aG at e
 split at e
 ·split at e
  ·split at e
   ·(refine dN e fun p q=> ?_;clear e;subst p q);exact k _ _ _ (by assumption) (by assumption) (by assumption)
   ·exact aN e
  ·exact aN e
 ·exact aN e
theorem cN0{o i:Expr}{a b:EM}{pos:Pos}(h1:aY G n B o a)(h2:aY G n B i b)(hs:∀x y,∃ops,subscripted i false x y=operate ops (getItem x y)):aY G n B (.Subscript o i pos) (aG a b):=
 ⟨fun A env ρ α σ s y σ' hA hsc F R e=>cD4 e fun x σ₁ z e1 e2 e3=>Subscript_ (h1.to hA hsc F R e1 fun u s₁ α₁ S₁ R₁ F₁ V₁=>h2.to hA hsc F₁ R₁ e2 fun v s₂ α₂ S₂ R₂ F₂ V₂=>
  c9 (dH9 hA R₂ (V₁.later S₂.later) V₂ e3 (hs _ _)) fun _ _ h=>h.after (S₁.trans S₂))⟩
theorem aV3(b n:Nat)(hb:b≤n):Builtin.Slice.sliceAdjust none (some (b:Int)) 1 (n:Int)=((0:Int),(b:Int)):=by
 unfold Builtin.Slice.sliceAdjust
 have h1:¬((1:Int)<0):=iDn rfl
 have h2:¬((b:Int)<0):=nCz
 simp only[h1,h2,if_false]
 congr 1
 omega
theorem aT0(b:Nat):Builtin.Slice.slicePlaces 0 (b:Int) 1=b:=by
 unfold Builtin.Slice.slicePlaces
 have h1:(1:Int)>0:=iDt rfl
 simp only[h1,if_true,Int.ediv_one]
 split<;>omega
theorem vL{E:Value→Shared→Prop}{sl:Addr}{b n:Nat}{u:Tok}{Q:Int×Int×Nat→Shared→Prop}(hs:s.heap.IsSliceOf sl .none (.int b u) .none)(hb:b≤n)(h:Q (0,1,b) s):
  wpAny (cK G) A (Builtin.Slice.sliceApplied (.ref sl) (pure (n:Int))) Q E s:=by
 obtain⟨os,hos,hcs,hds⟩:=id hs
 unfold Builtin.Slice.sliceApplied Builtin.Slice.sliceFields
 refine wpAny_bind (wpAny_bind (wpAny_field hos hds (x:= .none) rfl (wpAny_bind (wpAny_field hos hds (x:= .int b u) rfl (wpAny_bind (wpAny_field hos hds (x:= .none) rfl (wpAny_pure ?_)))))))
 refine wpAny_bind (slicePart_none ?_)
 show wpAny _ _ (if((1:Int)==0)=true then _ else _) _ _ s
 rw[if_neg (by decide)]
 refine wpAny_bind (slicePart_none (wpAny_bind (slicePart_int (wpAny_bind (wpAny_pure ?_)))))
 show wpAny _ _ (match Builtin.Slice.sliceAdjust none (some (b:Int)) 1 (n:Int)with |(lo,hi)=>pure (lo,(1:Int),Builtin.Slice.slicePlaces lo hi 1)) _ _ s
 rw[aV3 b n hb]
 show wpAny _ _ (pure ((0:Int),(1:Int),Builtin.Slice.slicePlaces (0:Int) (b:Int) 1)) _ _ s
 rw[aT0 b]
 exact wpAny_pure h
theorem bM5(xs:Array Value)(b:Nat)(_hb:b≤xs.size):((List.range b).filterMap fun(k:Nat)=>xs[((0:Int)+(k:Int)*1).toNat]?).toArray=(xs.toList.take b).toArray:=by
 have e:(fun(k:Nat)=>xs[((0:Int)+(k:Int)*1).toNat]?)=fun k=>xs[0+k]? :=by
  funext k
  have:((0:Int)+(k:Int)*1).toNat=0+k:=by omega
  rw[this]
 rw[e]
 have:=pick_run xs 0 b
 rw[List.filterMap_map]at this
 have e2:((fun x=>xs[x]?)∘fun x=>0+x)=fun k=>xs[0+k]? :=rfl
 rw[e2]at this
 rw[this,List.drop_zero]
theorem uA{E:Value→Shared→Prop}{t sl:Addr}{items:Array Value}{b:Nat}{u:Tok}{Q:Value→Shared→Prop}(ht:IsTup s.heap t items)(hs:s.heap.IsSliceOf sl .none (.int b u) .none)(hb:b<items.size)
  (h:Q (.ref s.heap.objs.size) { s with heap:=s.heap.push { cls:= .type "tuple",data:= .seq (items.toList.take b).toArray } })
  (hsz:items.size≤sizeLine):wpAny (cK G) A (getItem (.ref t) (.ref sl)) Q E s:=by
 have htake:sizeOk (.seq (items.toList.take b).toArray):=by
  show(items.toList.take b).toArray.size≤sizeLine
  rw[List.size_toArray,List.length_take,Array.length_toList]
  omega
 obtain⟨os,hos,hcs,hds⟩:=id hs
 have hTs:s.TypeIs (.ref sl) "slice":=⟨os,hos,hcs⟩
 unfold getItem
 try with_reducible refine wpAny_holding ?_
 first |refine wpAny_bind (wpAny_pure ?_) |skip
 refine wpAny_bind (wpAny_sequenceKey ht.typeIs (by decide) ?_)
 refine wpAny_bind (wpAny_callSpecial?_slot (name:=Str.ofString "__getitem__") ht.typeIs F.slot_tuple_getitem
  (wpAny_call_entry F.slot_tuple_getitem ht.typeIs F.entry_tuple_getitem ?_ (args_tuple_getitem _ _)))
 show wpAny _ _ (Builtin.Tuple.tupleItemsOf (.ref t)>>=_) _ _ s
 refine wpAny_bind (tupleItemsOf_ ht ?_)
 refine wpAny_bind (wpAny_typeOf hTs ?_)
 rw[if_pos (by decide)]
 refine wpAny_bind (vL hs (Nat.le_of_lt hb) ?_)
 have hno:¬(((0:Int)==0&&(1:Int)==1&&b==items.size)=true):=by
  have:(b==items.size)=false:=by rw[beq_eq_false_iff_ne];exact Nat.ne_of_lt hb
  rw[this];exact nofun
 show wpAny _ _ (if((0:Int)==0&&(1:Int)==1&&b==items.size)=true then _ else _) _ _ s
 rw[if_neg hno,bM5 items b (Nat.le_of_lt hb)]
 first
  |exact wpAny_bind (m:=Builtin.Tuple.tupleExact _) (wpAny_newObj_type (wpAny_pure ⟨_,rfl,wpAny_pure h⟩) htake)
  |exact wpAny_bind (m:=Builtin.Tuple.tupleExact _) (wpAny_newObj_type (wpAny_bind (wpAny_pure (wpAny_pure ⟨_,rfl,wpAny_pure h⟩))) htake)
  |exact wpAny_bind (wpAny_bind (m:=Builtin.Tuple.tupleExact _) (wpAny_newObj_type (wpAny_pure (wpAny_pure ⟨_,rfl,wpAny_pure h⟩)) htake))
  |exact wpAny_bind (wpAny_bind (m:=Builtin.Tuple.tupleExact _) (wpAny_newObj_type (wpAny_pure ⟨_,rfl,wpAny_pure h⟩) htake))
noncomputable def zY (G:GC) (α:List Addr) (h:Heap) (u:Value) (o:Option Int):Prop:=match o with
 |none=>u= .none
 |some i=>∃t,u= .int i t
structure aR0(G:GC)(n:Nat)(B:fB)(e:Option Expr)(m:Option EM):Prop where
 run:∀(A:Around) (env:PySem.Env) (ρ:Env) (α:List Addr) (σ:aD) (s:Shared) (x:Option Int) (σ':aD),dQ A n→env.scope=B.sc→eY G B.ns env ρ α s.heap→bZ G α σ s.heap→pI m ρ σ=some (x,σ')→
  wpAny (cK G) A (evalPart e env) (fun v s'=>∃α',bX eB α α' s s'∧bZ G α' σ' s'.heap∧zY G α' s'.heap v x) fE s
theorem bK7:aR0 G n B none none:=by
 refine⟨fun A env ρ α σ s x σ' hA hsc F R e=> ?_⟩
 (refine dN e fun p q=> ?_;clear e;subst p q)
 exact wpAny_pure ⟨α,.refl,R,rfl⟩
set_option tactic.hygienic true in
theorem bK6{e:Expr}{m:EM}(h:aY G n B e m):aR0 G n B (some e) (some m):=by
 refine⟨fun A env ρ α σ s x σ' hA hsc F R e'=> ?_⟩
 unfold pI at e'
 simp only at e'
 split at e'
 ·rename_i i σ₁ h1
  (refine dN e' fun p q=> ?_;clear e';subst p q)
  rw[evalPart_some]
  refine c9 (h.run A env ρ α σ s _ _ hA hsc F R h1) ?_
  rintro u s' ⟨α',S,R',V⟩
  exact⟨α',S,R',V.int_inv⟩
 ·exact aN e'
theorem oN{h:Heap}{l u st:Value}:∀b o,h.get? b=some o→(h.push { cls:= .type "slice",data:= .fields #[l,u,st] }).get? b=some o:=cN
inductive aR3 (σ:aD):V→Option Int→Option Int→V→aD→Prop
 |lo (l:List V) (m:Nat) (h1:1≤m) (h2:m≤l.length) (h:l.length≤1000):aR3 σ (.tup l) (some m) none (.tup (l.drop m)) σ
 |hi (l:List V) (m:Nat) (h1:m<l.length) (h:l.length≤1000):aR3 σ (.tup l) none (some m) (.tup (l.take m)) σ
 |list (j:Nat) (l:List V) (m:Nat) (q:σ[j]? =some (.list l)) (h:l.length≤1000):aR3 σ (.ref j) none (some m) (.ref σ.length) (σ++[.list (l.take m)])
 |gl (l:List Int) (m:Nat) (h:l.length≤1000):aR3 σ (.gl l) none (some m) (.ref σ.length) (σ++[.list ((l.map .int).take m)])
theorem xJ{k:Int}(h:0≤k):∃m:Nat,k=m:=⟨k.toNat,(Int.toNat_of_nonneg h).symm⟩
theorem cT4{x y:V}{i j:Option Int}{σ':aD}(e:mP x i j σ=some (y,σ')):aR3 σ x i j y σ':=by
 unfold mP at e
 split at e
 ·split at e
  ·split at e
   ·obtain⟨h,e⟩:=eD e
    obtain⟨m,rfl⟩:=xJ (Int.le_trans (by decide) h.1)
    (refine dN e fun p q=> ?_;clear e;subst p q)
    exact .lo _ m (Int.ofNat_le.mp h.1) (Int.ofNat_le.mp h.2.1) h.2.2
   ·exact aN e
  ·exact aN e
 ·split at e
  ·exact aN e
  ·split at e
   ·obtain⟨h,e⟩:=eD e
    obtain⟨m,rfl⟩:=xJ h.1
    (refine dN e fun p q=> ?_;clear e;subst p q)
    exact .hi _ m (Int.ofNat_lt.mp h.2.1) h.2.2
   ·split at e
    ·obtain⟨h,e⟩:=eD e
     obtain⟨m,rfl⟩:=xJ h.1
     (refine dN e fun p q=> ?_;clear e;subst p q)
     exact .list _ _ m (by assumption) h.2.2
    ·exact aN e
   ·obtain⟨h,e⟩:=eD e
    obtain⟨m,rfl⟩:=xJ h.1
    (refine dN e fun p q=> ?_;clear e;subst p q)
    rw[List.map_take]
    exact .gl _ m h.2.2
   ·exact aN e
theorem b8.ints{h:Heap}:∀{vs:List Value} {l:List Int},vs.map lG=l.map some→b8 G α h vs (l.map .int)
 |[],[],_=> .nil
 |[],_::_,h=>nomatch h
 |_::_,[],h=>nomatch h
 |v::vs,i::l,h=>by
  obtain⟨h1,h2⟩:=List.cons.inj h
  obtain⟨t,rfl⟩:=pE h1
  exact .cons (.int _ _) (b8.ints h2)
theorem aO3{value:Expr}{lo hi:Option Expr}{p:Pos}{ad sl:Addr}{its:Array Value}{l:List V}{m:Nat}{t:Tok}(R:bZ G α σ s.heap)(hL:s.heap.IsList ad its)(hv:b8 G α s.heap its.toList l)(h:l.length≤1000)(IS:s.heap.IsSliceOf sl .none (.int m t) .none):
  wpAny (cK G) A (subscriptTail value (.Slice lo hi none p) (.ref ad) (.ref sl)) (dZ G eB α s (σ++[.list (l.take m)]) (.ref σ.length)) fE s:=by
 have hl:=hv.length
 rw[Array.length_toList]at hl
 refine tail_any (T:="list") hL.typeIs slot_list_getitem.lookup (wpAny_getItem_list_slice (lo:=none) (hi:=some m) (st:=none) hL IS .none (.int m t) .none nofun ?_ (by rw[sizeLine_eq];exact sB hl h rfl)) rfl
 rw[slicePick_upto']
 exact sI (k:=0) R (hv.take m)
theorem dJ4{value:Expr}{lo hi:Option Expr}{p:Pos}{o v z:Value}{x y:V}{i j:Option Int}{sl:Addr}{σ':aD}(R:bZ G α σ s.heap)(ho:RV G α s.heap o x)(hv:zY G α s.heap v i)(hz:zY G α s.heap z j)(IS:s.heap.IsSliceOf sl v z .none)
  (e:mP x i j σ=some (y,σ')):wpAny (cK G) A (subscriptTail value (.Slice lo hi none p) o (.ref sl)) (dZ G eB α s σ' y) fE s:=by
 cases cT4 e with
 |lo l m h1 h2 h=>
  obtain⟨ad,vs,rfl,ht,hvs⟩:=ho.tup_inv
  obtain⟨t,rfl⟩:=hv
  cases hz
  have hl:=hvs.length
  exact tail_any (T:="tuple") ht.typeIs F.slot_tuple_getitem.lookup (getItem_tuple_from ht IS h1 (by rw[List.size_toArray];exact dI7 h2 hl) (qE R (hvs.drop m)) (by rw[List.size_toArray,sizeLine_eq];exact sB hl h rfl)) rfl
 |hi l m h1 h=>
  obtain⟨ad,vs,rfl,ht,hvs⟩:=ho.tup_inv
  obtain⟨t,rfl⟩:=hz
  cases hv
  have hl:=hvs.length
  exact tail_any (T:="tuple") ht.typeIs F.slot_tuple_getitem.lookup (uA ht IS (by rw[List.size_toArray];exact xO h1 hl) (qE R (hvs.take m)) (by rw[List.size_toArray,sizeLine_eq];exact sB hl h rfl)) rfl
 |list j l m q h=>
  obtain⟨ad,rfl,hj⟩:=ho.ref_inv
  obtain⟨t,rfl⟩:=hz
  cases hv
  obtain⟨its,k',hob,hvs⟩:=R.objs _ _ _ hj q
  exact aO3 R ⟨_,hob,rfl,k',rfl⟩ hvs h IS
 |gl l m h=>
  obtain⟨ad,rfl,its,⟨o,ho,r⟩,him⟩:=RV.is ho
  obtain⟨t,rfl⟩:=hz
  cases hv
  exact aO3 R ⟨o,R.base _ _ ho,r⟩ (b8.ints him) (by rw[List.length_map];exact h) IS
theorem cD9{a:EM}{l r:Option EM}{ρ:Env}{t:V×aD}{P:Prop}(e:hX a l r ρ σ=some t)(k:∀x σ₁ i σ₂ j σ₃,a ρ σ=some (x,σ₁)→pI l ρ σ₁=some (i,σ₂)→pI r ρ σ₂=some (j,σ₃)→mP x i j σ₃=some t→P):P:=by
 unfold hX at e
 split at e
 ·split at e
  ·split at e
   ·exact k _ _ _ _ _ _ (by assumption) (by assumption) (by assumption) e
   ·exact aN e
  ·exact aN e
 ·exact aN e
theorem zY.later{α':List Addr}{h h':Heap}{v:Value}{i:Option Int}(H:zY G α h v i):zY G α' h' v i:=by cases i<;>exact H
theorem cO1{o:Expr}{lo hi:Option Expr}{a:EM}{l r:Option EM}{pos p:Pos}(h1:aY G n B o a)(h2:aR0 G n B lo l)(h3:aR0 G n B hi r):aY G n B (.Subscript o (.Slice lo hi none p) pos) (hX a l r):=by
 refine⟨fun A env ρ α σ s y σ' hA hsc F R e=>cD9 e fun x σ₁ i σ₂ j σ₃ e1 e2 e3 e=> ?_⟩
 refine Subscript_ (h1.to hA hsc F R e1 fun u s₁ α₁ S₁ R₁ F₁ V₁=>wpAny_Slice (c9 (h2.run A env ρ α₁ σ₁ s₁ i σ₂ hA hsc F₁ R₁ e2) ?_))
 rintro v s₂ ⟨α₂,S₂,R₂,V₂⟩
 refine c9 (h3.run A env ρ α₂ σ₂ s₂ j σ₃ hA hsc (F₁.stp0 S₂) R₂ e3) ?_
 rintro z s₃ ⟨α₃,S₃,R₃,V₃⟩
 rw[evalPart_none]
 have S₄:bX eB α₃ α₃ s₃ { s₃ with heap:=s₃.heap.push { cls:= .type "slice",data:= .fields #[v,z,.none] } }:=bX.grown oN
 exact wpAny_pure (c9 (dJ4 (R₃.grown oN) (((V₁.later S₂.later).later S₃.later).later S₄.later) V₂.later V₃.later (Heap.IsSliceOf.new s₃.heap v z .none) e) fun _ _ h=>h.after (((S₁.trans S₂).trans S₃).trans S₄))
set_option tactic.hygienic true in
theorem cN2{o:Expr}{a:EM}{pos p p₁ p₂:Pos}{k:Nat}(h1:aY G n B o a):aY G n B (.Subscript o (.Slice none none (some (.UnaryOp .USub (.Constant (.int 1) k p₁) p₂)) p) pos) (oG a):=by
 refine⟨fun A env ρ α σ s y σ' hA hsc F R e=> ?_⟩
 unfold oG at e
 split at e
 ·rename_i j σ₁ e1
  split at e
  ·rename_i l q
   split at e
   ·rename_i hz
    (refine dN e fun p q=> ?_;clear e;subst p q)
    refine Subscript_ (c9 (h1.run A env ρ α σ s _ σ₁ hA hsc F R e1) ?_)
    rintro u s₁ ⟨α₁,S₁,R₁,V₁⟩
    refine wpAny_Slice ?_
    refine wpAny_pure (wpAny_pure ?_)
    rw[evalPart_some]
    refine wpAny_UnaryOp (wpAny_Constant_int (neg_int ?_))
    obtain⟨ad,rfl,hj⟩:=V₁.ref_inv
    generalize ht:s₁.toks+1=t1
    generalize hv:(Value.int (-1) t1)=v
    have S4:bX eB α₁ α₁ s₁ { s₁ with heap:=s₁.heap.push { cls:= .type "slice",data:= .fields #[.none,.none,v] },toks:=t1+1 }:=bX.grown oN
    have R4:=R₁.grown (h':=s₁.heap.push { cls:= .type "slice",data:= .fields #[.none,.none,v] }) oN
    have IS:=Heap.IsSliceOf.new s₁.heap .none .none v
    obtain⟨its,k',hob,hvs⟩:=R4.objs _ _ _ hj q
    have hl:=hvs.length
    simp only[Array.length_toList]at hl
    have hL:Heap.IsList _ ad its:=⟨_,hob,rfl,k',rfl⟩
    refine tail_any (T:="list") hL.typeIs slot_list_getitem.lookup (wpAny_getItem_list_slice (lo:=none) (hi:=none) (st:=some (-1)) hL IS .none .none (hv▸ .int _ _) nofun ?_ (by rw[sizeLine_eq];exact sB hl hz rfl)) rfl
    rw[krv_pick]
    exact dZ.after (S₁.trans S4) (by simpa using sI (s:={ s₁ with heap:=s₁.heap.push { cls:= .type "slice",data:= .fields #[.none,.none,v] },toks:=t1+1 }) (k:=0) (t:=_) R4 hvs.reverse)
   ·exact aN e
  ·exact aN e
 ·exact aN e
end
end
section
section
variable {G:GC}{n:Nat}{B:fB}{α:List Addr}{σ:aD}{s:Shared}{A:Around}
theorem RV.handed{h:Heap}{u:Value}{x:V}(hu:RV G α h u x):handedIn u=true:=by cases hu<;>rfl
theorem aM1(x y:String)(t:Tok):(Value.str (Str.ofString y) t).isStr (Str.ofString x)=decide (y=x):=by
 show(Str.ofString y==Str.ofString x)=_
 by_cases q:y=x
 ·subst q;simp
 ·have:Str.ofString y≠Str.ofString x:=fun e=>q (tM e)
  simp[q,this]
theorem bP1(name:Str)(e:DictEntry)(es:List DictEntry)(hr:e.refKey=false):getL name (e::es)=if e.key.isStr name then some (some e.val)else getL name es:=by
 unfold getL
 rw[List.find?_cons,List.any_cons,hr]
 cases e.key.isStr name<;>exact rfl
inductive yQ (G:GC) (α:List Addr) (h:Heap) (o:Option (Option Value)):Option V→Prop
 |some (u:Value) (v:V) (e:o=Option.some (Option.some u)) (hv:RV G α h u v):yQ G α h o (Option.some v)
 |none (e:o=Option.some Option.none):yQ G α h o Option.none
theorem yQ.has{h:Heap}{o:Option (Option Value)}{r:Option V}(H:yQ G α h o r):o.isSome=true:=by
 cases H with
 |some u v e _=>rw[e];rfl
 |none e=>rw[e];rfl
theorem qN.look{h:Heap}{x:String}{ents:List DictEntry}{fs:List (String×V)}(H:qN G α h ents fs):yQ G α h (getL (Str.ofString x) ents) (iK fs x):=by
 induction H with
 |nil=>exact .none rfl
 | @cons e es y t w l hk hv _ ih=>
  rw[bP1 _ _ _ (by unfold DictEntry.refKey;rw[hk]),hk,aM1,iK]
  by_cases q:y=x
  ·rw[decide_eq_true q,if_pos q];exact .some _ _ rfl hv
  ·rw[decide_eq_false q,if_neg q];exact ih
structure uR(G:GC)(x:Str):Prop where
 look:∀c,findIn G.K (.ref (G.cls c)) x=some none
structure oH(G:GC):Prop where
 get:∀c x,plainGet G.K (G.cls c) x=true
 dict:∀c,hasDictIn G.K (G.cls c)=true
 over:∀c,plainOver G.K (G.cls c)=true
 set:∀c,findIn G.K (.ref (G.cls c)) "__setattr__"=some (some (.builtin "object.__setattr__"))
theorem bZ.kin(O:G.Ok){h:Heap}(R:bZ G α σ h):G.K.In h:=O.kin.keeps R.base
inductive cV0 (G:GC) (α:List Addr) (σ:aD) (h:Heap) (a:Addr) (j d:Nat) (c:CN) (fs:List (String×V)):Prop
 |mk (dx:Addr) (ents:List DictEntry) (m:Nat) (q1:σ[j]? =some (.inst c d)) (q2:σ[d]? =some (.ns fs)) (hd:α[d]? =some dx) (g1:h.get? a=some (instObj (G.cls c) dx)) (g2:h.get? dx=some (dictOf ents m)) (H:qN G α h ents fs)
set_option tactic.hygienic true in
theorem uC{h:Heap}{j d:Nat}{c:CN}{fs:List (String×V)}{a:Addr}(R:bZ G α σ h)(ha:α[j]? =some a)(e:cS σ j=some (c,d,fs)):cV0 G α σ h a j d c fs:=by
 unfold cS at e
 split at e
 ·split at e
  ·rename_i h1 _ _ h2
   (refine qY e fun p q r=> ?_;clear e;subst p q r)
   obtain⟨dx,g1,g2⟩:=R.objs j a _ ha h1
   obtain⟨ents,m,g3,g4⟩:=R.objs _ dx _ g2 h2
   exact⟨dx,ents,m,h1,h2,g2,g1,g3,g4⟩
  ·exact aN e
 ·exact aN e
theorem bQ7{a:EM}{x:String}{ρ:Env}{y:V}{σ':aD}{P:Prop}(e:aR a x ρ σ=some (y,σ'))(k:∀j c d fs,a ρ σ=some (.ref j,σ')→cS σ' j=some (c,d,fs)→iK fs x=some y→P):P:=by
 unfold aR at e
 split at e
 ·split at e
  ·split at e
   ·(refine dN e fun p q=> ?_;clear e;subst p q);exact k _ _ _ _ (by assumption) (by assumption) (by assumption)
   ·exact aN e
  ·exact aN e
 ·exact aN e
theorem bX5(O:G.Ok)(C:oH G){o:Expr}{a:EM}{x:String}{pos:Pos}(gx:uR G (Str.ofString x))(h1:aY G n B o a)
  (he:∀env,eval (.Attribute o (Str.ofString x) pos) env=(do
    let v ←eval o env
    standAt pos.atName
    let r ←holding [v] (getAttr v (Str.ofString x) true)
    letTemporaryGo o v r
    pure r)):aY G n B (.Attribute o (Str.ofString x) pos) (aR a x):=by
 refine⟨fun A env ρ α σ s y σ' hA hsc F R e=>bQ7 e fun j c d fs e1 hf hv=>Attribute_any_ (h1.to hA hsc F R e1 fun u s₁ α₁ S₁ R₁ F₁ V₁=> ?_) (he env)⟩
 obtain⟨ad,rfl,hj⟩:=V₁.ref_inv
 obtain⟨dx,ents,m,_,_,_,g1,g2,g3⟩:=uC R₁ hj hf
 have g:=g3.look (x:=x)
 rw[hv]at g
 cases g with
 |some r _ hr hrv=>exact get_value (R₁.kin O) ⟨g1,rfl,rfl,g2⟩ (plainGet_of (C.get c (Str.ofString x))).1 (findObj_own (C.dict c) (gx.look c) (by rfl) (by rw[lookIn_dict];exact hr)) hrv.handed ⟨α₁,S₁.toks,R₁,hrv⟩
noncomputable def rA (G:GC) (n:Nat) (a:Addr) (f:FM):Prop:=
 ∀(A:Around) (α:List Addr) (σ:aD) (s:Shared) (vs:List Value) (l:List V) (x:V) (σ':aD),dQ A n→bZ G α σ s.heap→b8 G α s.heap vs l→f l σ=some (x,σ')→
  wpAny (cK G) A (call (.ref a) vs) (dZ G eB α s σ' x) fE s
structure cG1(G:GC)(nm:Str)(a:Addr):Prop where
 mg:G.mg nm=some (.ref a)
 keep:keepIn G.K (.ref a)=true
structure aG2(G:GC)(c:CN)(nm:Str)(a:Addr):Prop where
 find:findIn G.K (.ref (G.cls c)) nm=some (some (.ref a))
 fn:isFn G.K (.ref a)=true
 keep:keepIn G.K (.ref a)=true
noncomputable def cW (es:List Expr):Bool:=es.all gO
theorem jH:∀{es:List Expr} {env:PySem.Env} {pos:Pos},cW es=true→(backTo pos (starEach es env)).any (·.1)=false
 |[],_,_,_=>rfl
 |e::es,env,pos,h=>by
  simp only[cW,List.all_cons,Bool.and_eq_true]at h
  rw[mW h.1]
  show(false||(backTo pos (starEach es env)).any (·.1))=false
  rw[jH (es:=es) h.2];rfl
theorem rP{es:List Expr}{ms:List EM}{f:Value}{env:PySem.Env}{ρ:Env}{l:List V}{σ':aD}{pos:Pos}{Q:Args→Shared→Prop}(h:kE G n B es ms)(hp:cW es=true)(hl:ms.length=es.length)(hA:dQ A n)(hsc:env.scope=B.sc)(F:eY G B.ns env ρ α s.heap)
  (R:bZ G α σ s.heap) (e:dO ms ρ σ=some (l,σ')) (hQ:∀vs s',bH9 G eB α s σ' l vs s'→Q ⟨vs,[]⟩ s'):wpAny (cK G) A (evalArgs f true (backTo pos (starEach es env)) []) Q fE s:=by
 have H:=h.run A env ρ α σ s l σ' pos hA hsc F R e
 induction es using List.casesOn with
 |nil=>exact evalArgs_nil3 (hQ _ _ (by
   induction ms using List.casesOn with
   |nil=>(refine dN e fun p q=> ?_;clear e;subst p q);exact⟨α,.refl,R,.nil⟩
   |cons m ms=>injection hl))
 |cons x es=>
  simp only[cW,List.all_cons,Bool.and_eq_true]at hp
  rw[mW hp.1]at H⊢
  exact Calls.evalArgs_plain (c9 H hQ)
theorem sL(O:G.Ok){es:List Expr}{ms:List EM}{a:Addr}{first:List Value}{env:PySem.Env}{ρ:Env}{l:List V}{σ':aD}{pos:Pos}{Q:Value→Shared→Prop}(hk:keepIn G.K (.ref a)=true)
  (h:kE G n B es ms) (hp:cW es=true) (hl:ms.length=es.length) (hA:dQ A n) (hsc:env.scope=B.sc) (F:eY G B.ns env ρ α s.heap) (R:bZ G α σ s.heap) (e:dO ms ρ σ=some (l,σ'))
  (hQ:∀vs s',bH9 G eB α s σ' l vs s'→wpAny (cK G) A (call (.ref a) (first++vs)) Q fE s'):wpAny (cK G) A (callWith pos (.ref a) first (backTo pos (starEach es env)) []) Q fE s:=by
 refine callWith_of (P:=G.K.In) (by rw[jH hp];rfl) (keeps_K hk) (rP h hp hl hA hsc F R e fun vs s' H=>⟨?_,hQ vs s' H⟩)
 obtain⟨α',S,R',_⟩:=H
 exact R'.kin O
theorem bQ6{f:FM}{ms:List EM}{ρ:Env}{t:V×aD}{P:Prop}(e:aJ f ms ρ σ=some t)(k:∀l σ₁,dO ms ρ σ=some (l,σ₁)→f l σ₁=some t→P):P:=by
 unfold aJ at e
 split at e
 ·exact k _ _ (by assumption) e
 ·exact aN e
theorem bX2(O:G.Ok){nm:Str}{a:Addr}{f:FM}{es:List Expr}{ms:List EM}{p pos:Pos}(gf:cG1 G nm a)(hf:rA G n a f)(h:kE G n B es ms)(hk:B.sc.names.lookup nm=some .globalImplicit)(hp:cW es=true)(hl:ms.length=es.length)(hd:(nm==("__debug__":Str))=false):
  aY G n B (.Call (.Name nm p) es [] pos) (aJ f ms):=
 ⟨fun A env ρ α σ s y σ' hA hsc F R e=>bQ6 e fun l σ₁ e1 e=>
  Call_ (Calls.Name_function_global F.kind (by unfold Env.kindOf;rw[hsc];exact hk) (Calls.loadGlobal_global (by rw[F.glob];exact O.g.keeps R.base) gf.mg
   (sL O gf.keep h hp hl hA hsc F R e1 fun vs s' ⟨α',S,R',V⟩=>c9 (hf A α' σ₁ s' vs l y σ' hA R' V e) fun _ _ h=>h.after S)) hd)⟩
theorem CN.beq_eq{c d:CN}(h:CN.beq c d=true):c=d:=by cases c<;>cases d<;>first |rfl |exact c7 h
set_option tactic.hygienic true in
theorem bQ3{c:CN}{x:String}{f:FM}{om:EM}{ms:List EM}{ρ:Env}{t:V×aD}{P:Prop}(e:dU c x f om ms ρ σ=some t)(k:∀j σ₁ d fs l σ₂,om ρ σ=some (.ref j,σ₁)→cS σ₁ j=some (c,d,fs)→iK fs x=none→dO ms ρ σ₁=some (l,σ₂)→f (.ref j::l) σ₂=some t→P):P:=by
 unfold dU at e
 split at e
 ·split at e
  ·split at e
   ·rename_i hf hc
    obtain⟨h1,h2⟩:=Bool.and_eq_true_iff.mp hc
    cases CN.beq_eq h1
    split at e
    ·exact k _ _ _ _ _ _ (by assumption) hf (Option.isNone_iff_eq_none.mp h2) (by assumption) e
    ·exact aN e
   ·exact aN e
  ·exact aN e
 ·exact aN e
theorem bW7(O:G.Ok)(C:oH G){o:Expr}{c:CN}{nm:String}{a:Addr}{f:FM}{om:EM}{es:List Expr}{ms:List EM}{apos pos:Pos}(gm:aG2 G c (Str.ofString nm) a)(hf:rA G n a f)(ho:aY G n B o om)(h:kE G n B es ms)(hp:cW es=true)(hl:ms.length=es.length)
  (he:∀env,∃pl:Sem Bool,eval (.Call (.Attribute o (Str.ofString nm) apos) es [] pos) env=(do
   let ov ←eval o env
   standAt apos.atName
   let(f,first) ←holding [ov] (getMethod ov (Str.ofString nm) pl)
   callWith pos f first (backTo pos (starEach es env)) [])):
  aY G n B (.Call (.Attribute o (Str.ofString nm) apos) es [] pos) (dU c nm f om ms):=by
 refine⟨fun A env ρ α σ s y σ' hA hsc F R e=>bQ3 e fun j σ₁ d fs l σ₂ e1 hff hn e2 e=> ?_⟩
 obtain⟨pl,he⟩:=he env
 refine MethodCall_ (ho.to hA hsc F R e1 fun u s₁ α₁ S₁ R₁ F₁ V₁=> ?_) he
 obtain⟨ad,rfl,hj⟩:=V₁.ref_inv
 obtain⟨dx,ents,m,_,_,_,g1,g2,g3⟩:=uC R₁ hj hff
 have g:=g3.look (x:=nm)
 rw[hn]at g
 have hl':getL (Str.ofString nm) ents=some none:=by cases g;assumption
 have I:W.InstAt s₁.heap ad (instObj (G.cls c) dx) (G.cls c) (some (dictOf ents m)):=⟨g1,rfl,rfl,g2⟩
 refine method_fn (R₁.kin O) I (plainGet_of (C.get c (Str.ofString nm))).1 (plainGet_of (C.get c (Str.ofString nm))).2 gm.find (beq_iff_eq.mp gm.fn) ?_ (sL O gm.keep h hp hl hA hsc F₁ R₁ e2 fun vs s' ⟨α',S,R',V⟩=>c9 (hf A α' σ₂ s' _ _ y σ' hA R' (.cons (V₁.later S.later) V) e) fun _ _ h=>h.after (S₁.trans S))
 show(lookIn _ (dictOf ents m)).map _=_
 rw[lookIn_dict,hl'];rfl
end
end
section
section
variable {G:GC}{n:Nat}{B:fB}{α:List Addr}{σ:aD}{s:Shared}{A:Around}
structure j0(G:GC)(nm:Str)(v:Value):Prop where
 mg:G.mg nm=none
 mb:G.mb nm=some v
theorem oP(O:G.Ok){nm:Str}{v:Value}{env:PySem.Env}{ρ:Env}{p:Pos}{Q:Value→Shared→Prop}(gb:j0 G nm v)(hsc:env.scope=B.sc)(F:eY G B.ns env ρ α s.heap)(R:bZ G α σ s.heap)(hk:B.sc.names.lookup nm=some .globalImplicit)
  (hd:(nm==("__debug__":Str))=false) (h:Q v s):wpAny (cK G) A (eval (.Name nm p) env) Q fE s:=by
 have hk':env.kindOf nm=some .globalImplicit:=by unfold Env.kindOf;rw[hsc];exact hk
 exact Calls.Name_function_global F.kind hk' (Calls.loadGlobal_builtin (by rw[F.glob];exact O.g.keeps R.base) gb.mg (by rw[F.blt];exact O.b.keeps R.base) gb.mb h) hd
theorem b8.keep0{h h':Heap}(k:∀b o,h.get? b=some o→h'.get? b=some o){vs:List Value}{l:List V}(H:b8 G α h vs l):b8 G α h' vs l:=H.later ⟨⟨[],List.append_nil _ |>.symm⟩,fun b o e _=>k b o e⟩
theorem b8.one{h:Heap}{vs:List Value}{x:V}(H:b8 G α h vs [x]):∃u,vs=[u]∧RV G α h u x:=by
 cases H with |cons a b=>cases b;exact⟨_,rfl,a⟩
theorem b8.two{h:Heap}{vs:List Value}{x y:V}(H:b8 G α h vs [x,y]):∃u v,vs=[u,v]∧RV G α h u x∧RV G α h v y:=by
 cases H with |cons a b=>cases b with |cons c d=>cases d;exact⟨_,_,rfl,a,c⟩
theorem bA9(O:G.Ok){id:String}{nm:Str}{e:Expr}{m:EM}{p pos:Pos}{g:EM}(gb:j0 G nm (.builtin id))(h:aY G n B e m)(hk:B.sc.names.lookup nm=some .globalImplicit)(hd:(nm==("__debug__":Str))=false)(hp:gO e=true)
  (hg:∀ρ σ x σ',g ρ σ=some (x,σ')→∃y σ₁,m ρ σ=some (y,σ₁)∧∀(A:Around) (α:List Addr) (s:Shared) (u:Value),dQ A n→bZ G α σ₁ s.heap→RV G α s.heap u y→wpAny (cK G) A (call (.builtin id) [u]) (dZ G eB α s σ' x) fE s):
  aY G n B (.Call (.Name nm p) [e] [] pos) g:=by
 refine⟨fun A env ρ α σ s x σ' hA hsc F R e'=> ?_⟩
 obtain⟨y,σ₁,e1,hc⟩:=hg ρ σ x σ' e'
 refine Call_ (oP O gb hsc F R hk hd ?_)
 have hpl:cW [e]=true:=by simp[cW,hp]
 refine Calls.callWith_builtin (jH hpl) (rP (ms:=[m]) (l:=[y]) (σ':=σ₁) (iR h kJ hp) hpl rfl hA hsc F R (by simp[dO,e1]) ?_)
 rintro vs s' ⟨α',S,R',V⟩
 obtain⟨u,rfl,hu⟩:=V.one
 exact c9 (hc A α' s' u hA R' hu) fun _ _ h=>h.after S
theorem aA3(O:G.Ok){id:String}{nm:Str}{e:Expr}{m:EM}{p pos:Pos}{g:EM}(gb:j0 G nm (.type id))(h:aY G n B e m)(hk:B.sc.names.lookup nm=some .globalImplicit)(hd:(nm==("__debug__":Str))=false)(hp:gO e=true)
  (hg:∀ρ σ x σ',g ρ σ=some (x,σ')→∃y σ₁,m ρ σ=some (y,σ₁)∧∀(A:Around) (α:List Addr) (s:Shared) (u:Value),dQ A n→bZ G α σ₁ s.heap→RV G α s.heap u y→wpAny (cK G) A (call (.type id) [u]) (dZ G eB α s σ' x) fE s):
  aY G n B (.Call (.Name nm p) [e] [] pos) g:=by
 refine⟨fun A env ρ α σ s x σ' hA hsc F R e'=> ?_⟩
 obtain⟨y,σ₁,e1,hc⟩:=hg ρ σ x σ' e'
 refine Call_ (oP O gb hsc F R hk hd ?_)
 have hpl:cW [e]=true:=by simp[cW,hp]
 refine PyProof.Rows.callWith_type (jH hpl) (rP (ms:=[m]) (l:=[y]) (σ':=σ₁) (iR h kJ hp) hpl rfl hA hsc F R (by simp[dO,e1]) ?_)
 rintro vs s' ⟨α',S,R',V⟩
 obtain⟨u,rfl,hu⟩:=V.one
 exact c9 (hc A α' s' u hA R' hu) fun _ _ h=>h.after S
inductive cF8 (σ:aD):V→Int→Prop
 |tup (l:List V) (h:l.length≤100000):cF8 σ (.tup l) l.length
 |list (j:Nat) (l:List V) (q:σ[j]? =some (.list l)) (h:l.length≤100000):cF8 σ (.ref j) l.length
theorem cR7{x:V}{i:Int}(e:jD x σ=some i):cF8 σ x i:=by
 unfold jD at e
 split at e
 ·obtain⟨h,e⟩:=eD e
  (refine cT e fun p=> ?_;clear e;subst p)
  exact .tup _ h
 ·split at e
  ·obtain⟨h,e⟩:=eD e
   (refine cT e fun p=> ?_;clear e;subst p)
   exact .list _ _ (by assumption) h
  ·exact aN e
 ·exact aN e
theorem cD7{m:EM}{ρ:Env}{x:V}{σ':aD}{P:Prop}(e:cH m ρ σ=some (x,σ'))(k:∀v i,m ρ σ=some (v,σ')→jD v σ'=some i→x= .int i→P):P:=by
 unfold cH at e
 split at e
 ·split at e
  ·(refine dN e fun p q=> ?_;clear e;subst p q);exact k _ _ (by assumption) (by assumption) rfl
  ·exact aN e
 ·exact aN e
theorem cB0{u:Value}{x:V}{i:Int}(R:bZ G α σ s.heap)(hu:RV G α s.heap u x)(e:jD x σ=some i):wpAny (cK G) A (call (.builtin "len") [u]) (dZ G eB α s σ (.int i)) fE s:=by
 cases cR7 e with
 |tup l h=>
  obtain⟨a,vs,rfl,ht,hv⟩:=hu.tup_inv
  have hl:=hv.length
  exact len_tuple ht (by rw[List.size_toArray];exact nIx (Nat.le_trans (Nat.le_of_eq hl) h) rfl) (by rw[List.size_toArray,hl];exact qF R)
 |list j l q h=>
  obtain⟨a,rfl,hj⟩:=hu.ref_inv
  obtain⟨its,k',ho,hv⟩:=R.objs j a _ hj q
  have hl:=hv.length
  rw[Array.length_toList]at hl
  exact len_list (items:=its) ⟨_,ho,rfl,k',rfl⟩ (nIx (Nat.le_trans (Nat.le_of_eq hl) h) rfl) (by rw[hl];exact qF R)
theorem cN8(O:G.Ok){e:Expr}{m:EM}{p pos:Pos}(gb:j0 G "len" (.builtin "len"))(h:aY G n B e m)(hk:B.sc.names.lookup ("len":Str)=some .globalImplicit)(hp:gO e=true):
  aY G n B (.Call (.Name "len" p) [e] [] pos) (cH m):=
 bA9 O gb h hk (by decide) hp fun ρ σ x σ' e=>cD7 e fun v i e1 e2 hx=>⟨v,_,e1,fun A α s u hA R hu=>hx▸cB0 R hu e2⟩
theorem aN7{m:EM}{ρ:Env}{x:V}{σ':aD}{P:Prop}(e:gI m ρ σ=some (x,σ'))(k:∀j l,m ρ σ=some (.ref j,σ')→σ'[j]? =some (.list l)→l.length≤1000→x= .tup l→P):P:=by
 unfold gI at e
 split at e
 ·split at e
  ·obtain⟨h,e⟩:=eD e
   (refine dN e fun p q=> ?_;clear e;subst p q);exact k _ _ (by assumption) (by assumption) h rfl
  ·exact aN e
 ·exact aN e
theorem aS2(O:G.Ok){e:Expr}{m:EM}{p pos:Pos}(gb:j0 G "tuple" (.type "tuple"))(h:aY G n B e m)(hk:B.sc.names.lookup ("tuple":Str)=some .globalImplicit)(hp:gO e=true):
  aY G n B (.Call (.Name "tuple" p) [e] [] pos) (gI m):=
 aA3 O gb h hk (by decide) hp fun ρ σ x σ' e=>aN7 e fun j l e1 q hz hx=>⟨_,_,e1,fun A α s u hA R hu=>by
  subst hx
  obtain⟨a,rfl,hj⟩:=hu.ref_inv
  obtain⟨its,k',ho,hv⟩:=R.objs j a _ hj q
  have hl:=hv.length
  rw[Array.length_toList]at hl
  exact call_tuple_list (items:=its) ⟨_,ho,rfl,k',rfl⟩ (fun h' hk=>dZ.after (bX.grown hk) (qE (s:={ s with heap:=h' }) (R.grown hk) (b8.keep0 hk hv))) (by rw[sizeLine_eq];exact sB hl hz rfl)⟩
theorem aT9{m:EM}{ρ:Env}{x:V}{σ':aD}{P:Prop}(e:iP m ρ σ=some (x,σ'))(k:∀l σ₁,m ρ σ=some (.tup l,σ₁)→l.length≤1000→x= .ref σ₁.length→σ'=σ₁++[.list l]→P):P:=by
 unfold iP at e
 split at e
 ·obtain⟨h,e⟩:=eD e
  (refine dN e fun p q=> ?_;clear e;subst p q);exact k _ _ (by assumption) h rfl rfl
 ·exact aN e
theorem bA7(O:G.Ok){e:Expr}{m:EM}{p pos:Pos}(gb:j0 G "list" (.type "list"))(h:aY G n B e m)(hk:B.sc.names.lookup ("list":Str)=some .globalImplicit)(hp:gO e=true):
  aY G n B (.Call (.Name "list" p) [e] [] pos) (iP m):=
 aA3 O gb h hk (by decide) hp fun ρ σ x σ' e=>aT9 e fun l σ₁ e1 hz hx hs=>⟨_,_,e1,fun A α s u hA R hu=>by
  subst hx hs
  obtain⟨a,vs,rfl,ht,hv⟩:=hu.tup_inv
  obtain⟨o,ho,hc,k,hd⟩:=id ht
  have hl:=hv.length
  exact call_list_seq a (T:="tuple") (.inr rfl) ho hc hd (fun h' c' hk ho'=>wE R hv hk ho') (by rw[List.size_toArray,sizeLine_eq];exact sB hl hz rfl)⟩
theorem tE(O:G.Ok){T id:String}{o:Expr}{nm:Str}{om:EM}{es:List Expr}{ms:List EM}{apos pos:Pos}{g:EM}(ho:aY G n B o om)(h:kE G n B es ms)(hp:cW es=true)(hl:ms.length=es.length)
  (pa:PlainAttrs T) (slot:Slot T nm id) (ty:typeOf (.builtin id)=pure (.type "method_descriptor"))
  (hg:∀ρ σ x σ',g ρ σ=some (x,σ')→∃y σ₁ l σ₂,om ρ σ=some (y,σ₁)∧dO ms ρ σ₁=some (l,σ₂)∧(∀(α:List Addr) (s:Shared) (u:Value),bZ G α σ₁ s.heap→RV G α s.heap u y→s.TypeIs u T∧∀a,u= .ref a→∃ob,s.heap.get? a=some ob∧ob.dict=none)∧
   ∀(A:Around) (α:List Addr) (s:Shared) (u:Value) (vs:List Value),dQ A n→bZ G α σ₂ s.heap→RV G α s.heap u y→b8 G α s.heap vs l→wpAny (cK G) A (call (.builtin id) (u::vs)) (dZ G eB α s σ' x) fE s)
  (he:∀env,∃pl:Sem Bool,eval (.Call (.Attribute o nm apos) es [] pos) env=(do
   let ov ←eval o env
   standAt apos.atName
   let(f,first) ←holding [ov] (getMethod ov nm pl)
   callWith pos f first (backTo pos (starEach es env)) [])):
  aY G n B (.Call (.Attribute o nm apos) es [] pos) g:=by
 refine⟨fun A env ρ α σ s x σ' hA hsc F R e'=> ?_⟩
 obtain⟨y,σ₁,l,σ₂,e1,e2,hT,hc⟩:=hg ρ σ x σ' e'
 obtain⟨pl,he⟩:=he env
 refine MethodCall_ (c9 (ho.run A env ρ α σ s _ _ hA hsc F R e1) ?_) he
 rintro u s₁ ⟨α₁,S₁,R₁,V₁⟩
 obtain⟨hT,hdn⟩:=hT α₁ s₁ u R₁ V₁
 refine getMethod_builtin hT pa slot ty hdn ?_
 refine Calls.callWith_builtin (jH hp) (rP h hp hl hA hsc (F.stp0 S₁) R₁ e2 ?_)
 rintro vs s' ⟨α',S,R',V⟩
 exact c9 (hc A α' s' u vs hA R' (V₁.later S.later) V) fun _ _ h=>h.after (S₁.trans S)
theorem vR{u:Value}{j:Nat}{l:List V}(R:bZ G α σ s.heap)(hu:RV G α s.heap u (.ref j))(q:σ[j]? =some (.list l)):s.TypeIs u "list"∧∀a,u= .ref a→∃ob,s.heap.get? a=some ob∧ob.dict=none:=by
 obtain⟨a,rfl,hj⟩:=hu.ref_inv
 obtain⟨its,k',ho,hv⟩:=R.objs j a _ hj q
 exact⟨⟨_,ho,rfl⟩,fun b e=>by cases e;exact⟨_,ho,rfl⟩⟩
theorem aU2{u:Value}{j:Nat}{l:List (V×V)}(R:bZ G α σ s.heap)(hu:RV G α s.heap u (.ref j))(q:σ[j]? =some (.dict l)):s.TypeIs u "dict"∧∀a,u= .ref a→∃ob,s.heap.get? a=some ob∧ob.dict=none:=by
 obtain⟨a,rfl,hj⟩:=hu.ref_inv
 obtain⟨its,k',ho,hv⟩:=R.objs j a _ hj q
 exact⟨⟨_,ho,rfl⟩,fun b e=>by cases e;exact⟨_,ho,rfl⟩⟩
theorem aC4{ob:Obj}{i:Nat}{a:Addr}{o o':bF}{h':Heap}{v:Value}{x:V}(R:bZ G α σ s.heap)(hs:Heap.SameBut a s.heap h')(ha:α[i]? =some a)(ho:σ[i]? =some o)
  (H:i8 G α h' a o') (hx:h'.get? a=some ob) (hv:∀L:eW G α α s.heap h',RV G α h' v x):dZ G eB α s (σ.set i o') x v { s with heap:=h' }:=
 have S:bX eB α α s { s with heap:=h' }:=bX.put R hs (List.mem_of_getElem? ha) hx
 ⟨α,S,R.put hs ha ho H,hv S.later⟩
theorem b8.snoc{h:Heap}{vs:List Value}{l:List V}{u:Value}{x:V}(H:b8 G α h vs l)(hu:RV G α h u x):b8 G α h (vs++[u]) (l++[x]):=H.append (.cons hu .nil)
inductive dQ4 (om m:EM) (ρ:Env) (σ:aD) (x:V) (σ':aD):Prop
 |mk (j:Nat) (σ₁:aD) (l0:List V) (v:V) (σ₂:aD) (l:List V) (e1:om ρ σ=some (.ref j,σ₁)) (q0:σ₁[j]? =some (.list l0)) (e2:m ρ σ₁=some (v,σ₂)) (q:σ₂[j]? =some (.list l)) (hz:l.length≤100000) (hx:x= .none) (hs:σ'=σ₂.set j (.list (l++[v])))
theorem aU0{om m:EM}{ρ:Env}{x:V}{σ':aD}(e:b7 om m ρ σ=some (x,σ')):dQ4 om m ρ σ x σ':=by
 unfold b7 at e
 split at e
 ·split at e
  ·split at e
   ·split at e
    ·obtain⟨h,e⟩:=eD e
     (refine dN e fun p q=> ?_;clear e;subst p q)
     exact .mk _ _ _ _ _ _ (by assumption) (by assumption) (by assumption) (by assumption) h rfl rfl
    ·exact aN e
   ·exact aN e
  ·exact aN e
 ·exact aN e
theorem aV2{a:Addr}{j:Nat}{l:List V}{w:Value}{v:V}(R:bZ G α σ s.heap)(hj:α[j]? =some a)(q:σ[j]? =some (.list l))(hz:l.length≤100000)(hw:RV G α s.heap w v):wpAny (cK G) A (call (.builtin "list.append") [.ref a,w]) (dZ G eB α s (σ.set j (.list (l++[v]))) .none) fE s:=by
 obtain⟨its,k',ho,hvs⟩:=R.objs j a _ hj q
 have hl:=hvs.length
 rw[Array.length_toList]at hl
 refine append_at (its:=its) ho (fun h' hs ho'=> ?_) (by rw[sizeLine_eq];exact sB hl hz rfl)
 have L:eW G α α s.heap h':=(bX.put (W:=eB) (t:=s.toks) R hs (List.mem_of_getElem? hj) ho').later
 exact aC4 R hs hj q ⟨_,_,ho',by rw[Array.toList_push];exact(hvs.later L).snoc (hw.later L)⟩ ho' fun _=> .none
theorem bB0(O:G.Ok){o e:Expr}{om m:EM}{apos pos:Pos}(ho:aY G n B o om)(h:aY G n B e m)(hp:gO e=true)
  (he:∀env,∃pl:Sem Bool,eval (.Call (.Attribute o "append" apos) [e] [] pos) env=(do
   let ov ←eval o env
   standAt apos.atName
   let(f,first) ←holding [ov] (getMethod ov "append" pl)
   callWith pos f first (backTo pos (starEach [e] env)) [])):
  aY G n B (.Call (.Attribute o "append" apos) [e] [] pos) (b7 om m):=by
 refine tE O (T:="list") (ms:=[m]) ho (iR h kJ hp) (by simp[cW,hp]) rfl F.plainAttrs_list F.slot_list_append F.type_list_append (fun ρ σ x σ' e'=> ?_) he
 obtain⟨j,σ₁,l0,v,σ₂,l,e1,q0,e2,q,hz,hx,hs⟩:=aU0 e'
 subst hx hs
 refine⟨_,_,[v],σ₂,e1,by simp[dO,e2],fun α s u R hu=>vR R hu q0,fun A α s u vs hA R hu hv=> ?_⟩
 obtain⟨a,rfl,hj⟩:=hu.ref_inv
 obtain⟨w,rfl,hw⟩:=hv.one
 exact aV2 R hj q hz hw
theorem b8.dropLast{h:Heap}{vs:List Value}{l:List V}(H:b8 G α h vs l):b8 G α h vs.dropLast l.dropLast:=by
 rw[List.dropLast_eq_take,List.dropLast_eq_take,H.length]
 exact H.take _
inductive dQ2 (om:EM) (ρ:Env) (σ:aD) (x:V) (σ':aD):Prop
 |mk (j:Nat) (σ₁:aD) (l:List V) (e1:om ρ σ=some (.ref j,σ₁)) (q:σ₁[j]? =some (.list l)) (hv:l.getLast? =some x) (hz:l.length≤100000) (hs:σ'=σ₁.set j (.list l.dropLast))
theorem cD5{om:EM}{ρ:Env}{x:V}{σ':aD}(e:qX om ρ σ=some (x,σ')):dQ2 om ρ σ x σ':=by
 unfold qX at e
 split at e
 ·split at e
  ·split at e
   ·obtain⟨h,e⟩:=eD e
    (refine dN e fun p q=> ?_;clear e;subst p q)
    exact .mk _ _ _ (by assumption) (by assumption) (by assumption) h rfl
   ·exact aN e
  ·exact aN e
 ·exact aN e
theorem cA0{a:Addr}{j:Nat}{l:List V}{x:V}(R:bZ G α σ s.heap)(hj:α[j]? =some a)(q:σ[j]? =some (.list l))(hz:l.length≤100000)(hv:l.getLast? =some x):wpAny (cK G) A (call (.builtin "list.pop") [.ref a]) (dZ G eB α s (σ.set j (.list l.dropLast)) x) fE s:=by
 obtain⟨its,k',ho,hvs⟩:=R.objs j a _ hj q
 have hl:=hvs.length
 rw[Array.length_toList]at hl
 rw[List.getLast?_eq_getElem?]at hv
 obtain⟨w,hw,hrw⟩:=(hvs.get (l.length-1)).1 _ hv
 refine PyProof.Rows.Copied.pop_at ho (by simpa [hl]using hw) (fun h' hs hob=> ?_) (by rw[sizeLine_eq];exact sB hl hz rfl)
 have L:eW G α α s.heap h':=(bX.put (W:=eB) (t:=s.toks) R hs (List.mem_of_getElem? hj) hob).later
 exact aC4 R hs hj q ⟨_,_,hob,by rw[Array.toList_pop];exact(hvs.later L).dropLast⟩ hob fun _=>hrw.later L
theorem cN3(O:G.Ok){o:Expr}{om:EM}{apos pos:Pos}(ho:aY G n B o om)
  (he:∀env,∃pl:Sem Bool,eval (.Call (.Attribute o "pop" apos) [] [] pos) env=(do
   let ov ←eval o env
   standAt apos.atName
   let(f,first) ←holding [ov] (getMethod ov "pop" pl)
   callWith pos f first (backTo pos (starEach [] env)) [])):
  aY G n B (.Call (.Attribute o "pop" apos) [] [] pos) (qX om):=by
 refine tE O (T:="list") (ms:=[]) ho kJ rfl rfl F.plainAttrs_list F.slot_list_pop F.type_list_pop (fun ρ σ x σ' e'=> ?_) he
 obtain⟨j,σ₁,l,e1,q,hv,hz,hs⟩:=cD5 e'
 subst hs
 refine⟨_,_,[],_,e1,rfl,fun α s u R hu=>vR R hu q,fun A α s u vs hA R hu hvs0=> ?_⟩
 obtain⟨a,rfl,hj⟩:=hu.ref_inv
 cases hvs0
 exact cA0 R hj q hz hv
end
end
section
section
variable {G:GC}{n:Nat}{B:fB}{α:List Addr}{σ:aD}{s:Shared}{A:Around}
inductive cF9 (σ:aD) (d r:V):V→V→Prop
 |gd (es:List (Int×Int)) (k:Int) (h:r=match eU es k with |some i=> .int i |none=>d):cF9 σ d r (.gd es) (.int k)
 |dict (j:Nat) (es:List (V×V)) (k:V) (q:σ[j]? =some (.dict es)) (hok:fM es k=true) (h:r=(bW es k).getD d):cF9 σ d r (.ref j) k
theorem cS6{x k d r:V}(e:mN x k d σ=some r):cF9 σ d r x k:=by
 unfold mN at e
 split at e
 ·split at e
  ·obtain⟨h,e⟩:=eD e
   exact .dict _ _ _ (by assumption) h (Option.some.inj e).symm
  ·exact aN e
 ·split at e
  ·exact .gd _ _ (Option.some.inj e).symm
  ·exact aN e
 ·exact aN e
theorem cC2{u v d:Value}{x k y r:V}(hA:dQ A n)(R:bZ G α σ s.heap)(hu:RV G α s.heap u x)(hv:RV G α s.heap v k)(hd:RV G α s.heap d y)(e:mN x k y σ=some r):
  wpAny (cK G) A (call (.builtin "dict.get") [u,v,d]) (dZ G eB α s σ r) fE s:=by
 cases cS6 e with
 |gd es i h=>
  obtain⟨a,rfl,hg,hs⟩:=RV.is hu
  obtain⟨t,rfl⟩:=hv.int_inv
  obtain⟨f,hf,h1⟩:=x6 hg R.base
  refine wpAny_call_entry F.slot_dict_get hf.typeIs F.entry_dict_get ?_ (F.args_dict_get_3 _ _ _)
  show wpAny _ _ (dictGet a (Value.int i t)>>=_) _ _ s
  refine wpAny_bind (wpAny_dictGet_of (knd:=PySem.intKind G.prog G.w) (k:=i) (decide_eq_true rfl) hf ?_)
  have h1:=h1 i
  subst h
  induction q:eU es i using Option.casesOn with
  |none=>
   rw[q]at h1
   rw[Option.map_eq_none_iff.mp h1]
   show wpAny _ _ (Builtin.Dict.missed a _>>=_) _ _ _
   exact wpAny_bind (wpAny_missed_other (beq_eq_false_iff_ne.mpr hs) (wpAny_pure ⟨d,rfl,α,bX.refl.toks,R,hd⟩))
  |some r'=>
   rw[q]at h1
   obtain⟨v,hv,h1⟩:=Option.map_eq_some_iff.mp h1
   obtain⟨t',rfl⟩:=pE h1
   rw[hv]
   exact wpAny_pure ⟨_,rfl,α,bX.refl.toks,R,.int _ _⟩
 |dict j es _ q hok h=>
  obtain⟨a,rfl,hj⟩:=hu.ref_inv
  obtain⟨ents,k',ho,H,nd,_⟩:=R.objs j a _ hj q
  have hu:A.in1.units+10<cLine:=by have:=hA.units;show A.units+1+10<9900;exact nM5 this rfl
  refine wpAny_call_entry F.slot_dict_get ⟨_,ho,rfl⟩ F.entry_dict_get ?_ (F.args_dict_get_3 _ _ _)
  show wpAny _ _ (dictGet a v>>=_) _ _ s
  subst h
  refine wpAny_bind (bD9 hu ho H nd hok hv (fun h0 t=> ?_) fun y' w h1 hw t=>wpAny_pure ⟨w,rfl,α,bX.refl.toks,R,by rw[h1];exact hw⟩)
  show wpAny _ _ (Builtin.Dict.missed a v>>=_) _ _ _
  exact wpAny_bind (wpAny_missed_other (R.notSys (List.mem_of_getElem? hj)) (wpAny_pure ⟨d,rfl,α,bX.refl.toks,R,by rw[h0];exact hd⟩))
theorem aD7{u:Value}{x:V}(R:bZ G α σ s.heap)(hu:RV G α s.heap u x)(h:iE x σ=true):s.TypeIs u "dict"∧∀a,u= .ref a→∃ob,s.heap.get? a=some ob∧ob.dict=none:=by
 unfold iE at h
 split at h
 ·split at h
  ·exact aU2 R hu (by assumption)
  ·exact c7 h
 ·obtain⟨a,rfl,hg,hs⟩:=RV.is hu
  obtain⟨f,hf,_⟩:=x6 hg R.base
  exact⟨hf.typeIs,hf.noDict⟩
 ·exact c7 h
theorem cD8{om km dm:EM}{ρ:Env}{r:V}{σ':aD}{P:Prop}(e:jQ om km dm ρ σ=some (r,σ'))(k:∀x σ₁ y σ₂ z,om ρ σ=some (x,σ₁)→iE x σ₁=true→km ρ σ₁=some (y,σ₂)→dm ρ σ₂=some (z,σ')→mN x y z σ'=some r→P):P:=by
 unfold jQ at e
 split at e
 ·obtain⟨h,e⟩:=eD e
  split at e
  ·split at e
   ·split at e
    ·(refine dN e fun p q=> ?_;clear e;subst p q);exact k _ _ _ _ _ (by assumption) h (by assumption) (by assumption) (by assumption)
    ·exact aN e
   ·exact aN e
  ·exact aN e
 ·exact aN e
theorem cO0(O:G.Ok){o k d:Expr}{om km dm:EM}{apos pos:Pos}(ho:aY G n B o om)(h1:aY G n B k km)(h2:aY G n B d dm)(hp:gO k=true)(hp2:gO d=true)
  (he:∀env,∃pl:Sem Bool,eval (.Call (.Attribute o "get" apos) [k,d] [] pos) env=(do
   let ov ←eval o env
   standAt apos.atName
   let(f,first) ←holding [ov] (getMethod ov "get" pl)
   callWith pos f first (backTo pos (starEach [k,d] env)) [])):
  aY G n B (.Call (.Attribute o "get" apos) [k,d] [] pos) (jQ om km dm):=by
 refine tE O (T:="dict") (ms:=[km,dm]) ho (iR h1 (iR h2 kJ hp2) hp) (by simp[cW,hp,hp2]) rfl F.plainAttrs_dict F.slot_dict_get F.type_dict_get (fun ρ σ x σ' e=>cD8 e fun u σ₁ y σ₂ z e1 hD e2 e3 e4=> ?_) he
 refine⟨u,σ₁,[y,z],σ',e1,by simp[dO,e2,e3],fun α s u' R hu=>aD7 R hu hD,fun A α s u' vs hA R hu hvs=> ?_⟩
 obtain⟨a,b,rfl,ha,hb⟩:=hvs.two
 exact cC2 hA R hu ha hb e4
inductive RPs (G:GC) (α:List Addr) (h:Heap):List (Value×Value)→List (V×V)→Prop
 |nil:RPs G α h [] []
 |cons {u v:Value} {vs:List (Value×Value)} {k x:V} {l:List (V×V)} (hk:RV G α h u k) (hv:RV G α h v x) (hr:RPs G α h vs l):RPs G α h ((u,v)::vs) ((k,x)::l)
theorem RPs.later{α':List Addr}{h h':Heap}{vs:List (Value×Value)}{l:List (V×V)}(L:eW G α α' h h')(H:RPs G α h vs l):RPs G α' h' vs l:=by
 induction H with
 |nil=>exact .nil
 |cons hk hv _ ih=>exact .cons (hk.later L) (hv.later L) ih
inductive dJ9 (G:GC) (α:List Addr) (s:Shared) (σ':aD) (l:List (V×V)) (vs:List (Value×Value)) (s':Shared):Prop
 |mk (α':List Addr) (S:bX eB α α' s s') (R:bZ G α' σ' s'.heap) (V:RPs G α' s'.heap vs l)
structure aQ9(G:GC)(n:Nat)(B:fB)(keys:List (Option Expr))(values:List Expr)(ps:List (EM×EM)):Prop where
 run:∀(A:Around) (env:PySem.Env) (ρ:Env) (α:List Addr) (σ:aD) (s:Shared) (l:List (V×V)) (σ':aD) (pos:Pos),dQ A n→env.scope=B.sc→eY G B.ns env ρ α s.heap→bZ G α σ s.heap→g9 ps ρ σ=some (l,σ')→
  wpAny (cK G) A (evalPairs (pairTrees keys values env pos)) (dJ9 G α s σ' l) fE s
theorem bY6:aQ9 G n B [] [] []:=by
 refine⟨fun A env ρ α σ s l σ' pos hA hsc F R e=> ?_⟩
 (refine dN e fun p q=> ?_;clear e;subst p q)
 exact pairTrees_nil_walk ⟨α,.refl,R,.nil⟩
theorem yB{km vm:EM}{ps:List (EM×EM)}{ρ:Env}{t:List (V×V)×aD}{P:Prop}(e:g9 ((km,vm)::ps) ρ σ=some t)(k:∀x σ₁ y σ₂ r σ₃,km ρ σ=some (x,σ₁)→vm ρ σ₁=some (y,σ₂)→g9 ps ρ σ₂=some (r,σ₃)→t=((x,y)::r,σ₃)→P):P:=by
 unfold g9 at e
 split at e
 ·split at e
  ·split at e
   ·(refine cT e fun p=> ?_;clear e;subst p);exact k _ _ _ _ _ _ (by assumption) (by assumption) (by assumption) rfl
   ·exact aN e
  ·exact aN e
 ·exact aN e
theorem bK5{k v:Expr}{ks:List (Option Expr)}{vs:List Expr}{km vm:EM}{ps:List (EM×EM)}(h1:aY G n B k km)(h2:aY G n B v vm)(h3:aQ9 G n B ks vs ps):aQ9 G n B (some k::ks) (v::vs) ((km,vm)::ps):=by
 refine⟨fun A env ρ α σ s l σ' pos hA hsc F R e=>yB e fun x σ₁ y σ₂ r σ₃ e1 e2 e3 e=> ?_⟩
 cases e
 exact pairTrees_cons_walk (h1.to hA hsc F R e1 fun u s₁ α₁ S₁ R₁ F₁ V₁=>h2.to hA hsc F₁ R₁ e2 fun w s₂ α₂ S₂ R₂ F₂ V₂=>
  c9 (h3.run A env ρ α₂ σ₂ s₂ r σ' pos hA hsc F₂ R₂ e3) fun us s₃ ⟨α₃,S₃,R₃,V₃⟩=>⟨α₃,(S₁.trans S₂).trans S₃,R₃,.cons ((V₁.later S₂.later).later S₃.later) (V₂.later S₃.later) V₃⟩)
inductive bU4 (G:GC) (α:List Addr) (h:Heap) (d:Addr) (es:List (V×V)):Prop
 |mk (ents:List DictEntry) (m:Nat) (ho:h.get? d=some (dictOf ents m)) (H:gS G α h ents es) (nd:(es.map (·.1)).Nodup) (hm:m=ents.length)
inductive dQ1 (G:GC) (α:List Addr) (σ:aD) (d:Addr) (s:Shared) (es:List (V×V)) (s':Shared):Prop
 |mk (S:bX (fun b=>b=d) α α s s') (R:bZ G α σ s'.heap) (H:bU4 G α s'.heap d es)
theorem bJ7{d:Addr}(hA:dQ A n)(hd:d∉α)(hb:G.h0.get? d=none){vs:List (Value×Value)}{l:List (V×V)}{s:Shared}{es es':List (V×V)}(H:bU4 G α s.heap d es)(hz:es.length+l.length≤100000)(R:bZ G α σ s.heap)(V:RPs G α s.heap vs l)(e:oT es l=some es'):
  wpAny (cK G) A (storeAll d vs) (fun _=>dQ1 G α σ d s es') fE s:=by
 induction vs generalizing l s es with
 |nil=>
  cases V
  (refine cT e fun p=> ?_;clear e;subst p)
  exact wpAny_pure ⟨.refl,R,H⟩
 |cons p vs ih=>
  cases V with
  | @cons u v _ k x l hk hv hr=>
   obtain⟨ents,m,ho,H,nd,hm⟩:=H
   unfold oT at e
   obtain⟨hok,e⟩:=eD e
   unfold storeAll
   rw[List.forIn_cons]
   rw[List.length_cons]at hz
   have hu:A.units+10<cLine:=by have:=hA.units;show A.units+10<9900;exact nM1 this rfl
   refine wpAny_bind (wpAny_bind (cH4 hu ho H nd hok hk hv (kD hz) fun h' ents' n' t hs ho' H' hn'=>wpAny_pure ?_))
   have nt:∀o,s.heap.get? d=some o→¬iJ o:=fun o e=>by rw[ho]at e;(refine cT e fun p=> ?_;clear e;subst p);exact qV rfl
   have S':bX (fun b=>b=d) α α s { s with heap:=h',toks:=t }:=bX.same hs nt rfl ho'
   have hl:=aU1 es k x
   exact c9 (ih (s:={ s with heap:=h',toks:=t }) ⟨ents',n',ho',H'.later S'.later,yC nd,hn' hm⟩ (by omega) (R.same hs hd hb nt) (hr.later S'.later) e) fun _ s'' ⟨S2,R2,r⟩=>⟨S'.trans S2,R2,r⟩
theorem aD9{ps:List (EM×EM)}{ρ:Env}{l:List (V×V)}{σ':aD}(e:g9 ps ρ σ=some (l,σ')):l.length=ps.length:=by
 induction ps generalizing σ l with
 |nil=>(refine dN e fun p q=> ?_;clear e;subst p q);rfl
 |cons p ps ih=>exact yB e fun x σ₁ y σ₂ r σ₃ e1 e2 e3 e=>by cases e;exact congrArg (· +1) (ih e3)
theorem bX.new{W:Addr→Prop}{α₁:List Addr}{s₁:Shared}{d:Addr}(S:bX W α α₁ s s₁)(hf:s.heap.get? d=none):bX W α (α₁++[d]) s s₁:=by
 obtain⟨β,rfl,h1⟩:=S.pre
 exact⟨⟨β++[d],List.append_assoc _ _ _,fun a ha=>(List.mem_append.mp ha).elim (h1 a) fun q=>List.mem_singleton.mp q▸hf⟩,S.live,S.keep,S.tups,S.gens,S.os,S.drawn⟩
theorem bZ.new{α₁:List Addr}{h:Heap}{d:Addr}{o:bF}(R:bZ G α₁ σ h)(hd:d∉α₁)(hb:G.h0.get? d=none)(hm:sysModules<d)(H:i8 G α₁ h d o):bZ G (α₁++[d]) (σ++[o]) h:=R.add hd hb hm (H.later ⟨⟨_,rfl⟩,fun _ _ e _=>e⟩ fun _ e=>e)
theorem uI{W:Addr→Prop}{α₁:List Addr}{s₁:Shared}{d:Addr}{o:bF}(S:bX W α α₁ s s₁)(R:bZ G α₁ σ s₁.heap)(hd:d∉α₁)(hf:s.heap.get? d=none)(hb:G.h0.get? d=none)(hm:sysModules<d)(H:i8 G α₁ s₁.heap d o):
  dZ G W α s (σ++[o]) (.ref σ.length) (.ref d) s₁:=⟨_,S.new hf,R.new hd hb hm H,.ref (pF R.len)⟩
theorem bQ4{ps:List (EM×EM)}{ρ:Env}{x:V}{σ':aD}{P:Prop}(e:cI ps ρ σ=some (x,σ'))(k:∀l σ₁ es,g9 ps ρ σ=some (l,σ₁)→oT [] l=some es→x= .ref σ₁.length→σ'=σ₁++[.dict es]→P):P:=by
 unfold cI at e
 split at e
 ·split at e
  ·(refine dN e fun p q=> ?_;clear e;subst p q);exact k _ _ _ (by assumption) (by assumption) rfl rfl
  ·exact aN e
 ·exact aN e
theorem bW9{keys:List (Option Expr)}{values:List Expr}{ps:List (EM×EM)}{pos:Pos}(h:aQ9 G n B keys values ps)(hall:keys.all (·.isSome)=true)(hl:keys.length=values.length)(h0:keys≠[])
  (hlen:keys.length≤15) (hl2:ps.length=keys.length):aY G n B (.Dict keys values pos) (cI ps):=by
 refine⟨fun A env ρ α σ s y σ' hA hsc F R e=>bQ4 e fun l σ₁ es e1 e2 hy hs=> ?_⟩
 subst hy hs
 refine wpAny_Dict_any hall hl h0 hlen ?_
 have hfree:s.heap.get? s.heap.objs.size=none:=Heap.get?_none_of_le (Nat.le_refl _)
 have ho:Heap.get? (s.heap.push { cls:= .type "dict",data:= .dict #[] }) s.heap.objs.size=some (dictOf [] 0):=Heap.get?_push_size _ rfl
 have hm:=R.big
 obtain⟨hd,hb⟩:=R.free hfree
 generalize s.heap.objs.size=d at*
 have S0:bX eB α α s { s with heap:=s.heap.push { cls:= .type "dict",data:= .dict #[] } }:=bX.grown cN
 refine c9 (h.run A env ρ α σ _ l σ₁ pos hA hsc (F.stp0 S0) (R.grown cN) e1) fun vs s₁ ⟨α₁,S₁,R₁,V₁⟩=> ?_
 have hd1:=S₁.off hd ho
 refine c9 (bJ7 hA hd1 hb ⟨[],0,S₁.keep d _ ho hd (fun q=>q),.nil,List.nodup_nil,rfl⟩ (by rw[aD9 e1,hl2];show 0+keys.length≤100000;omega) R₁ V₁ e2) fun _ s₂ ⟨S₂,R₂,ents',m',g1,g2,g3,g4⟩=> ?_
 exact uI ((S0.trans S₁).trans' S₂ fun b o q e=>by subst q;rw[hfree]at e;exact aN e) R₂ hd1 hfree hb hm ⟨ents',m',g1,g2,g3,g4⟩
theorem bJ9{pos:Pos}:aY G n B (.Dict [] [] pos) (cI []):=by
 refine⟨fun A env ρ α σ s y σ' hA hsc F R e=> ?_⟩
 (refine dN e fun p q=> ?_;clear e;subst p q)
 rw[eval_Dict_empty]
 refine wpAny_bind (wpAny_standAt ?_)
 have hfree:s.heap.get? s.heap.objs.size=none:=Heap.get?_none_of_le (Nat.le_refl _)
 have R0:=R.grown (h':=s.heap.push { cls:= .type "dict",data:= .dict #[] }) cN
 exact wpAny_newObj_type (uI (bX.grown cN) R0 (R.free hfree).1 hfree (R.free hfree).2 R.big ⟨[],0,Heap.get?_push_size _ rfl,.nil,List.nodup_nil,rfl⟩)
end
end
section
inductive RFl (G:GC) (α:List Addr) (h:Heap):Flow→Fl→Prop
 |next:RFl G α h .next .next
 |cont:RFl G α h .cont .cont
 |ret {v:Value} {x:V} (hv:RV G α h v x):RFl G α h (.ret v) (.ret x)
inductive kX (G:GC) (B:fB) (env:PySem.Env) (α:List Addr) (s:Shared) (fl:Fl) (ρ':Env) (σ':aD) (f:Flow) (s':Shared):Prop
 |mk (α':List Addr) (S:bX (kZ env) α α' s s') (R:bZ G α' σ' s'.heap) (F:eY G B.ns env ρ' α' s'.heap) (V:RFl G α' s'.heap f fl)
structure fA(G:GC)(n:Nat)(B:fB)(st:Stmt)(m:SM):Prop where
 run:∀(A:Around) (env:PySem.Env) (ρ:Env) (α:List Addr) (σ:aD) (s:Shared) (fl:Fl) (ρ':Env) (σ':aD),dQ A n→env.scope=B.sc→eY G B.ns env ρ α s.heap→bZ G α σ s.heap→m ρ σ=some (fl,ρ',σ')→
  wpAny (cK G) A (exec st env) (kX G B env α s fl ρ' σ') fE s
structure hZ(G:GC)(n:Nat)(B:fB)(sts:List Stmt)(m:SM):Prop where
 run:∀(A:Around) (env:PySem.Env) (ρ:Env) (α:List Addr) (σ:aD) (s:Shared) (fl:Fl) (ρ':Env) (σ':aD),dQ A n→env.scope=B.sc→eY G B.ns env ρ α s.heap→bZ G α σ s.heap→m ρ σ=some (fl,ρ',σ')→
  wpAny (cK G) A (execs sts env) (kX G B env α s fl ρ' σ') fE s
section
variable {G:GC}{n:Nat}{B:fB}{α:List Addr}{σ:aD}{s:Shared}{A:Around}
theorem hZ.to{sts:List Stmt}{m:SM}{env:PySem.Env}{ρ ρ':Env}{fl:Fl}{σ':aD}{Q:Flow→Shared→Prop}{E:Value→Shared→Prop}(h:hZ G n B sts m)(hA:dQ A n)(hs:env.scope=B.sc)(F:eY G B.ns env ρ α s.heap)(R:bZ G α σ s.heap)(hm:m ρ σ=some (fl,ρ',σ'))
  (k:∀f s₁ α₁,bX (kZ env) α α₁ s s₁→bZ G α₁ σ' s₁.heap→eY G B.ns env ρ' α₁ s₁.heap→RFl G α₁ s₁.heap f fl→Q f s₁):wpAny (cK G) A (execs sts env) Q E s:=
 c9 (h.run A env ρ α σ s fl ρ' σ' hA hs F R hm) fun f s₁ ⟨α₁,S,R₁,F₁,V⟩=>k f s₁ α₁ S R₁ F₁ V
theorem bX.own{env:PySem.Env}{α':List Addr}{s':Shared}(S:bX eB α α' s s'):bX (kZ env) α α' s s':=S.mono fun _ h=>h.elim
theorem kX.after{env:PySem.Env}{α₁:List Addr}{s₁ s₂:Shared}{fl:Fl}{ρ':Env}{σ':aD}{f:Flow}(S:bX (kZ env) α α₁ s s₁)(h:kX G B env α₁ s₁ fl ρ' σ' f s₂):kX G B env α s fl ρ' σ' f s₂:=
 let⟨α₂,T,R,F,V⟩:=h;⟨α₂,S.trans T,R,F,V⟩
theorem bY7:hZ G n B [] aF:=by
 refine⟨fun A env ρ α σ s fl ρ' σ' hA hsc F R e=> ?_⟩
 (refine qY e fun p q r=> ?_;clear e;subst p q r)
 exact wpAny_execs_nil ⟨α,.refl,R,F,.next⟩
inductive dQ0 (m ms:SM) (ρ:Env) (σ:aD) (t:Fl×Env×aD):Prop
 |go (ρ₁:Env) (σ₁:aD) (h:m ρ σ=some (.next,ρ₁,σ₁)) (e:ms ρ₁ σ₁=some t)
 |stop (h:m ρ σ=some t) (hn:∀ρ₁ σ₁,t≠(.next,ρ₁,σ₁))
set_option tactic.hygienic true in
theorem bZ2{m ms:SM}{ρ:Env}{t:Fl×Env×aD}(e:aC m ms ρ σ=some t):dQ0 m ms ρ σ t:=by
 unfold aC at e
 split at e
 ·exact .go _ _ (by assumption) e
 ·rename_i h1
  exact .stop e fun ρ₁ σ₁ q=>h1 ρ₁ σ₁ (q▸e)
theorem bK8{st:Stmt}{sts:List Stmt}{m ms:SM}(h:fA G n B st m)(hr:hZ G n B sts ms):hZ G n B (st::sts) (aC m ms):=by
 refine⟨fun A env ρ α σ s fl ρ' σ' hA hsc F R e=> ?_⟩
 cases bZ2 e with
 |go ρ₁ σ₁ h1 e=>
  refine wpAny_execs_cons (c9 (h.run A env ρ α σ s .next ρ₁ σ₁ hA hsc F R h1) fun f s₁ ⟨α₁,S₁,R₁,F₁,V₁⟩=> ?_)
  cases V₁
  exact c9 (hr.run A env ρ₁ α₁ σ₁ s₁ fl ρ' σ' hA hsc F₁ R₁ e) fun _ _ h=>h.after S₁
 |stop h1 hn=>
  refine wpAny_execs_cons (c9 (h.run A env ρ α σ s fl ρ' σ' hA hsc F R h1) fun f s₁ H=> ?_)
  cases id H with
  |mk α₁ S₁ R₁ F₁ V₁=>
   cases V₁ with
   |next=>exact absurd rfl (hn _ _)
   |cont=>exact H
   |ret hv=>exact H
theorem bB2{st:Stmt}:fA G n B st fX:=by
 refine⟨fun A env ρ α σ s fl ρ' σ' hA hsc F R e=> ?_⟩
 exact aN e
set_option tactic.hygienic true in
theorem bY3{e:Expr}{m:EM}{pos:Pos}(h:aY G n B e m):fA G n B (.Return (some e) pos) (aW m):=by
 refine⟨fun A env ρ α σ s fl ρ' σ' hA hsc F R e'=> ?_⟩
 unfold aW at e'
 split at e'
 ·rename_i v σ₁ h1
  (refine qY e' fun p q r=> ?_;clear e';subst p q r)
  refine wpAny_Return_some (c9 (h.run A env _ α σ s v σ' hA hsc F R h1) ?_)
  rintro u s' ⟨α',S,R',V⟩
  exact⟨α',S.own,R',F.stp0 S,.ret V⟩
 ·exact aN e'
theorem bK3{pos:Pos}:fA G n B (.Continue pos) xE:=by
 refine⟨fun A env ρ α σ s fl ρ' σ' hA hsc F R e'=> ?_⟩
 (refine qY e' fun p q r=> ?_;clear e';subst p q r)
 exact wpAny_Continue ⟨α,.refl,R,F,.cont⟩
set_option tactic.hygienic true in
theorem cO6{t:Expr}{tm:TM}{b c:List Stmt}{bm cm:SM}{pos:Pos}(ht:gD G n B t tm)(hb:hZ G n B b bm)(hc:hZ G n B c cm):fA G n B (.If t b c pos) (a8 tm bm cm):=by
 refine⟨fun A env ρ α σ s fl ρ' σ' hA hsc F R e'=> ?_⟩
 unfold a8 at e'
 split at e'
 ·rename_i σ₁ h1
  refine wpAny_If (c9 (ht.run A env ρ α σ s true σ₁ hA hsc F R h1) ?_)
  rintro _ s₁ ⟨α₁,S₁,R₁,rfl⟩
  exact c9 (hb.run A env ρ α₁ σ₁ s₁ fl ρ' σ' hA hsc (F.stp0 S₁) R₁ e') fun _ _ h=>h.after S₁.own
 ·rename_i σ₁ h1
  refine wpAny_If (c9 (ht.run A env ρ α σ s false σ₁ hA hsc F R h1) ?_)
  rintro _ s₁ ⟨α₁,S₁,R₁,rfl⟩
  exact c9 (hc.run A env ρ α₁ σ₁ s₁ fl ρ' σ' hA hsc (F.stp0 S₁) R₁ e') fun _ _ h=>h.after S₁.own
 ·exact aN e'
set_option tactic.hygienic true in
theorem bK2{e:Expr}{m:EM}{pos:Pos}(h:aY G n B e m)(hsw:∀env l,swapsWith e none l env=pure false):fA G n B (.Expr e pos) (cG m):=by
 refine⟨fun A env ρ α σ s fl ρ' σ' hA hsc F R e'=> ?_⟩
 unfold cG at e'
 split at e'
 ·rename_i v σ₁ h1
  (refine qY e' fun p q r=> ?_;clear e';subst p q r)
  refine wpAny_Expr_any (c9 (h.run A env _ α σ s v σ' hA hsc F R h1) ?_) ?_ (hsw _ _)
  ·rintro u s' ⟨α',S,R',V⟩
   exact⟨α',S.own,R',F.stp0 S,.next⟩
  ·unfold interactive
   rw[F.kind];rfl
 ·exact aN e'
theorem nQ{h:Heap}{a:Addr}{m:Str→Option Value}(hn:h.Ns a m):∀o,h.get? a=some o→¬iJ o:=by
 intro o ho
 obtain⟨o',es,ep,e,hd,_⟩:=hn
 rw[ho]at e;(refine cT e fun p=> ?_;clear e;subst p)
 exact qV hd
theorem aU3{h:Heap}{a:Addr}{v:Option Value}(hn:h.IsCell a v):∀o,h.get? a=some o→¬iJ o:=by
 intro o ho
 obtain⟨o',e,hd⟩:=hn
 rw[ho]at e;(refine cT e fun p=> ?_;clear e;subst p)
 exact aT1 hd
theorem bM9{ns:List Str}(h:ns.Nodup){i j:Nat}{x:Str}(hi:ns[i]? =some x)(hj:ns[j]? =some x):i=j:=
 (List.getElem?_inj (List.getElem?_eq_some_iff.mp hi).1 h).mp (hi.trans hj.symm)
theorem rG{env:PySem.Env}{ρ:Env}{i:Nat}{x:Str}{u:Value}{v:V}{Q:Unit→Shared→Prop}{E:Value→Shared→Prop}(F:eY G B.ns env ρ α s.heap)(R:bZ G α σ s.heap)(hn:B.ns[i]? =some x)
  (hk:env.kindOf x=some .local∨env.kindOf x=some .cell) (hv:RV G α s.heap u v)
  (h:∀s',bX (kZ env) α α s s'→bZ G α σ s'.heap→eY G B.ns env (aZ ρ i v) α s'.heap→Q () s'):wpAny (cK G) A (storeName env x u) Q E s:=by
 obtain⟨m,hm,hs⟩:=F.loc
 rcases hk with hk |hk
 ·refine wpAny_storeName_local hk hm (fun h' hm' hsb=> ?_) (by rw[F.kind];rfl)
  have nt:=nQ hm
  obtain⟨o',_,_,ho',_⟩:=id hm'
  have S:bX (kZ env) α α s { s with heap:=h',toks:=s.toks+1 }:=bX.same hsb nt (.inl rfl) ho'
  have L:eW G α α s.heap h':=S.later
  refine h _ S (R.same hsb F.off.1 F.off.2 nt) ⟨F.kind,F.glob,F.blt,F.nsN,⟨_,hm',fun j y w h1 h2 h3=> ?_⟩,fun j y w h1 h2 h3=> ?_,F.off,fun y c hc=> ?_,F.celInj,F.celAll⟩
  ·by_cases q:j=i
   ·subst q
    rw[hn]at h1;(refine cT h1 fun p=> ?_;clear h1;subst p)
    simp only[aZ,if_true]at h3
    (refine cT h3 fun p=> ?_;clear h3;subst p)
    exact⟨u,by simp,hv.later L⟩
   ·have hne:y≠x:=fun e=>q (bM9 F.nsN h1 (e▸hn))
    simp only[aZ,q,if_false]at h3
    obtain⟨u',a,b⟩:=hs j y w h1 h2 h3
    exact⟨u',by simp[hne,a],b.later L⟩
  ·have q:j≠i:=by
    rintro rfl
    rw[hn]at h1;(refine cT h1 fun p=> ?_;clear h1;subst p)
    rw[hk]at h2;cases h2
   simp only[aZ,q,if_false]at h3
   obtain⟨c,u',a,b,d⟩:=F.cel j y w h1 h2 h3
   refine⟨c,u',a,iD (fun o e=>(hsb.2 c (fun q=>(F.celOff y c a).2.2.1 q)).trans e) b,d.later L⟩
  ·obtain⟨a,b,d,ov,hov⟩:=F.celOff y c hc
   exact⟨a,b,d,ov,iD (fun o e=>(hsb.2 c d).trans e) hov⟩
 ·obtain⟨c,hc⟩:=F.celAll i x hn hk
  obtain⟨ha,hb,hd,ov,hov⟩:=F.celOff x c hc
  refine wpAny_storeName_cell F.kind hk hc hov fun h' hc' hsb=> ?_
  have nt:=aU3 hov
  obtain⟨o',ho',_⟩:=id hc'
  have S:bX (kZ env) α α s { s with heap:=h' }:=bX.same hsb nt (.inr ⟨x,hc⟩) ho'
  have L:eW G α α s.heap h':=S.later
  refine h _ S (R.same hsb ha hb nt) ⟨F.kind,F.glob,F.blt,F.nsN,⟨m,l5 (fun o e=>(hsb.2 _ (fun q=>hd q.symm)).trans e) hm,fun j y w h1 h2 h3=> ?_⟩,fun j y w h1 h2 h3=> ?_,F.off,fun y c' hc''=> ?_,F.celInj,F.celAll⟩
  ·have q:j≠i:=by
    rintro rfl
    rw[hn]at h1;(refine cT h1 fun p=> ?_;clear h1;subst p)
    rw[hk]at h2;cases h2
   simp only[aZ,q,if_false]at h3
   obtain⟨u',a,b⟩:=hs j y w h1 h2 h3
   exact⟨u',a,b.later L⟩
  ·by_cases q:j=i
   ·subst q
    rw[hn]at h1;(refine cT h1 fun p=> ?_;clear h1;subst p)
    simp only[aZ,if_true]at h3
    (refine cT h3 fun p=> ?_;clear h3;subst p)
    exact⟨c,u,hc,hc',hv.later L⟩
   ·have hne:y≠x:=fun e=>q (bM9 F.nsN h1 (e▸hn))
    simp only[aZ,q,if_false]at h3
    obtain⟨c',u',a,b,d⟩:=F.cel j y w h1 h2 h3
    have:c'≠c:=by rintro rfl;exact hne (F.celInj _ _ _ a hc)
    exact⟨c',u',a,iD (fun o e=>(hsb.2 c' this).trans e) b,d.later L⟩
  ·obtain⟨a,b,d,ov',hov'⟩:=F.celOff y c' hc''
   refine⟨a,b,d,?_⟩
   by_cases q:c'=c
   ·subst q;exact⟨_,hc'⟩
   ·exact⟨ov',iD (fun o e=>(hsb.2 c' q).trans e) hov'⟩
set_option tactic.hygienic true in
theorem bY2{x:Str}{p pos:Pos}{i:Nat}{e:Expr}{m:EM}(hn:B.ns[i]? =some x)(hk:B.sc.names.lookup x=some .local∨B.sc.names.lookup x=some .cell)(h:aY G n B e m)
  (hsw:∀env l,swapsWith e (some (.Name x p)) l env=pure false):fA G n B (.Assign [.Name x p] e pos) (aV i m):=by
 refine⟨fun A env ρ α σ s fl ρ' σ' hA hsc F R e'=> ?_⟩
 unfold aV at e'
 split at e'
 ·rename_i v σ₁ h1
  (refine qY e' fun p q r=> ?_;clear e';subst p q r)
  refine wpAny_Assign_Name (c9 (h.run A env ρ α σ s v _ hA hsc F R h1) ?_) (hsw _ _)
  rintro u s₁ ⟨α₁,S₁,R₁,V₁⟩
  have hk':env.kindOf x=some .local∨env.kindOf x=some .cell:=by unfold Env.kindOf;rw[hsc];exact hk
  exact rG (F.stp0 S₁) R₁ hn hk' V₁ fun s' S' R' F'=>⟨α₁,S₁.own.trans S',R',F',.next⟩
 ·exact aN e'
theorem rC{a b:Int}{t u:Tok}{E:Value→Shared→Prop}{Q:Value→Shared→Prop}(h:Q (.int (a+b) s.toks) { s with toks:=s.toks+1 }):wpAny (cK G) A (inplaceOp .Add (.int a t) (.int b u)) Q E s:=
 PySem.AutoIntOps.iadd_0 h
set_option tactic.hygienic true in
theorem bY5{x:Str}{p pos:Pos}{i:Nat}{e:Expr}{m:EM}(hn:B.ns[i]? =some x)(hk:B.sc.names.lookup x=some .local)(h:aY G n B e m):fA G n B (.AugAssign (.Name x p) .Add e pos) (mH i m):=by
 refine⟨fun A env ρ α σ s fl ρ' σ' hA hsc F R e'=> ?_⟩
 unfold mH at e'
 split at e'
 ·rename_i a ha
  split at e'
  ·rename_i b σ₁ h1
   split at e'
   ·rename_i a' b' y z
    split at e'
    ·rename_i hz
     (refine qY e' fun p q r=> ?_;clear e';subst p q r)
     have hk':env.kindOf x=some .local:=by unfold Env.kindOf;rw[hsc];exact hk
     obtain⟨m',hm,hsl⟩:=F.loc
     obtain⟨u,hu,hr⟩:=hsl i x _ hn hk' ha
     refine wpAny_AugAssign_Name (wpAny_loadName_local F.kind hk' hm hu (c9 (h.run A env ρ α σ s _ _ hA hsc F R h1) ?_))
     rintro v s₁ ⟨α₁,S₁,R₁,V₁⟩
     obtain⟨t,rfl⟩:=hr.int_inv
     obtain⟨t',rfl⟩:=V₁.int_inv
     refine rC ?_
     exact rG (s:={ s₁ with toks:=s₁.toks+1 }) (F.stp0 S₁.toks) R₁ hn (.inl hk') (.int _ _) fun s' S' R' F'=>⟨α₁,S₁.own.toks.trans S',R',F',.next⟩
    ·exact aN e'
   ·exact aN e'
  ·exact aN e'
 ·exact aN e'
end
end
section
section
variable {G:GC}{n:Nat}{B:fB}{α:List Addr}{σ:aD}{s:Shared}{A:Around}
theorem aT3{name:Str}{es:List DictEntry}{m:Nat}(h:(getL name es).isSome=true):aRefKeyMayBeTheName name es.toArray=false:=by
 rw[aRefKeyMayBeTheName_at]
 unfold getL at h
 rw[←Array.any_toList,←Array.any_toList]
 induction q:es.find? (fun e=>e.key.isStr name)using Option.casesOn with
 |some e=>
  have h1:=List.mem_of_find?_eq_some q
  have h2:=List.find?_some q
  have:es.any (fun e=>e.key.isStr name)=true:=List.any_eq_true.mpr ⟨e,h1,h2⟩
  exact this▸rfl
 |none=>
  rw[q]at h
  induction r:es.any (fun e=>e.refKey)using Bool.casesOn with
  |true=>simp[r]at h
  |false=>simp[r]
theorem bK9(O:G.Ok)(C:oH G){c:CN}{name:Str}{a dx:Addr}{ents:List DictEntry}{m:Nat}{v:Value}{E:Value→Shared→Prop}{Q:Unit→Shared→Prop}(gx:uR G name)(R:bZ G α σ s.heap)
  (hx:s.heap.get? a=some (instObj (G.cls c) dx)) (hd:s.heap.get? dx=some (dictOf ents m)) (hl:(getL name ents).isSome=true) (hz:ents.length≤100)
  (h:∀h' k t,Heap.SameBut dx s.heap h'→h'.get? dx=some (dictOf (putL name k (.str name t) v ents) (putN name ents m))→∀t',Q () { s with heap:=h',toks:=t' }):wpAny (cK G) A (setAttr (.ref a) name v) Q E s:=by
 have I:W.InstAt s.heap a (instObj (G.cls c) dx) (G.cls c) (some (dictOf ents m)):=⟨hx,rfl,rfl,hd⟩
 have X:=R.kin O
 have ht:takerIn G.K (G.cls c) name=some none:=by unfold takerIn;rw[gx.look c];rfl
 refine set_plain X I (C.set c) ?_
 refine osa_open (s:={ s with toks:=s.toks+1 }) X I (C.over c) ht fun b=> ?_
 obtain⟨cd,hc,hcd⟩:=any_some (C.dict c)
 have hres:Heap.get? (s.heap.update dx (Obj.putName name (PyData.keyHash G.w.params name) (.str name (s.toks+1)) v)) dx=some (dictOf (putL name (PyData.keyHash G.w.params name) (.str name (s.toks+1)) v ents) (putN name ents m)):=by
  rw[Heap.get?_update_self _ hd (by rw[putName_dict];rfl),putName_dict]
 have hlen:∀(k:Int) (key:Value) (es:List DictEntry),(putL name k key v es).length≤es.length+1:=by
  intro k key es
  induction es with
  |nil=>simp[putL]
  |cons e r ih=>unfold putL;split<;>simp<;>exact ih
 show wpAny _ _ (pure ()>>=_) _ _ _
 refine wpAny_bind (wpAny_pure ?_)
 show wpAny _ _ (instanceDict a true>>=_) _ _ _
 refine wpAny_bind ?_
 unfold instanceDict
 refine wpAny_bind (wpAny_loadPart hx ?_)
 show wpAny _ _ (classData (G.cls c)>>=_) _ _ _
 refine wpAny_bind (Looks.here (s:={ s with toks:=s.toks+1 }) (looks_clsIn X hc) ?_)
 rw[hcd]
 refine wpAny_pure (a:=some dx) ?_
 unfold Builtin.ObjectAttr.storeInDict Builtin.ObjectAttr.newKeyGuard
 refine wpAny_bind (wpAny_pure (wpAny_bind ?_))
 unfold nsSet strHash
 refine wpAny_bind (wpAny_bind (wpAny_askSetting (wpAny_pure (wpAny_bind (wpAny_mkText (wpAny_bind (wpAny_loadPart hd ?_)))))))
 show wpAny _ _ (if aRefKeyMayBeTheName name ents.toArray=true then _ else _) _ _ _
 rw[aT3 hl]
 refine wpAny_updatePart hd ?_
 refine wpAny_bind (wpAny_lookBehind hres (pastItsLine_dict (by have:=hlen (PyData.keyHash G.w.params name) (.str name (s.toks+1)) ents;rw[List.size_toArray,sizeLine_eq];exact nQc this hz rfl)) ?_)
 exact wpAny_pure (h _ _ _ (Heap.SameBut.update ..) hres (s.toks+1+1))
 exact 0
theorem dI3{name:String}{k:Int}{t:Tok}{u:Value}{v:V}{h:Heap}(hu:RV G α h u v){ents:List DictEntry}{fs:List (String×V)}(H:qN G α h ents fs):qN G α h (putL (Str.ofString name) k (.str (Str.ofString name) t) u ents) (tN fs name v):=by
 induction H with
 |nil=>exact .cons rfl hu .nil
 | @cons e es y t w l hk hv hr ih=>
  unfold putL tN
  rw[hk,aM1]
  by_cases q:y=name
  ·rw[decide_eq_true q,if_pos q]
   exact .cons rfl hu hr
  ·rw[decide_eq_false q,if_neg q]
   exact .cons hk hv ih
theorem qN.length{h:Heap}{ents:List DictEntry}{fs:List (String×V)}(H:qN G α h ents fs):ents.length=fs.length:=by
 induction H with
 |nil=>rfl
 |cons _ _ _ ih=>exact congrArg (· +1) ih
inductive cF7 (om:EM) (x:String) (m:EM) (ρ:Env) (σ:aD) (t:Fl×Env×aD):Prop
 |mk (v:V) (σ₁:aD) (j:Nat) (σ₂:aD) (c:CN) (d:Nat) (fs:List (String×V)) (h1:m ρ σ=some (v,σ₁)) (h2:om ρ σ₁=some (.ref j,σ₂)) (hf:cS σ₂ j=some (c,d,fs)) (hz:fs.length≤100) (e:t=(.next,ρ,σ₂.set d (.ns (tN fs x v))))
theorem aI9{om:EM}{x:String}{m:EM}{ρ:Env}{t:Fl×Env×aD}(e:cJ om x m ρ σ=some t):cF7 om x m ρ σ t:=by
 unfold cJ at e
 split at e
 ·split at e
  ·split at e
   ·obtain⟨h,e⟩:=eD e
    exact .mk _ _ _ _ _ _ _ (by assumption) (by assumption) (by assumption) h (Option.some.inj e).symm
   ·exact aN e
  ·exact aN e
 ·exact aN e
theorem aH8(O:G.Ok)(C:oH G){o e:Expr}{x:String}{om m:EM}{p pos:Pos}(gx:uR G (Str.ofString x))(ho:aY G n B o om)(h:aY G n B e m)
  (hsw:∀env l,swapsWith e (some (.Attribute o (Str.ofString x) p)) l env=pure false):fA G n B (.Assign [.Attribute o (Str.ofString x) p] e pos) (cJ om x m):=by
 refine⟨fun A env ρ α σ s fl ρ' σ' hA hsc F R e'=> ?_⟩
 obtain⟨v,σ₁,j,σ₂,c,d,fs,h1,h2,hf,hz,e⟩:=aI9 e'
 cases e
 refine plainObj_wpAny_Assign_Attribute (h.to hA hsc F R h1 fun u s₁ α₁ S₁ R₁ F₁ V₁=>ho.to hA hsc F₁ R₁ h2 fun w s₂ α₂ S₂ R₂ F₂ V₂=> ?_) (hsw _ _)
 obtain⟨a,rfl,hj⟩:=V₂.ref_inv
 obtain⟨dx,ents,m',_,g1,g2,g3,g4,g5⟩:=uC R₂ hj hf
 refine bK9 (c:=c) O C gx R₂ g3 g4 (g5.look (x:=x)).has (by rw[g5.length];exact hz) fun h' k t hs ho' t'=> ?_
 have S3:bX eB α₂ α₂ s₂ { s₂ with heap:=h',toks:=t' }:=bX.put R₂ hs (List.mem_of_getElem? g2) ho'
 exact⟨α₂,((S₁.trans S₂).trans S3).own,R₂.put hs g2 g1 ⟨_,_,ho',dI3 ((V₁.later S₂.later).later S3.later) (g5.later S3.later)⟩,F₂.stp0 S3,.next⟩
theorem aD2{d:Addr}{ents:List DictEntry}{k':Nat}{es:List (V×V)}{u v:Value}{k x:V}{E:Value→Shared→Prop}{Q:Unit→Shared→Prop}(hA:dQ A n)(ho:s.heap.get? d=some (dictOf ents k'))
  (H:gS G α s.heap ents es) (nd:(es.map (·.1)).Nodup) (hok:fM es k=true) (hk:RV G α s.heap u k) (hv:RV G α s.heap v x) (hz:es.length≤100000)
  (h:∀h' ents' n' t,Heap.SameBut d s.heap h'→h'.get? d=some (dictOf ents' n')→gS G α s.heap ents' (dG es k x)→(k'=ents.length→n'=ents'.length)→Q () { s with heap:=h',toks:=t }):wpAny (cK G) A (setItem (.ref d) u v) Q E s:=by
 have hT:s.TypeIs (.ref d) "dict":=⟨_,ho,rfl⟩
 have hu:A.in1.units+10<cLine:=by have:=hA.units;show A.units+1+10<9900;exact nM5 this rfl
 unfold setItem
 try with_reducible refine wpAny_holding ?_
 refine wpAny_bind (wpAny_sequenceKey hT (by decide) ?_)
 refine wpAny_bind (wpAny_callSpecial?_slot (name:=Str.ofString "__setitem__") hT slot_dict_setitem
  (wpAny_call_entry slot_dict_setitem hT entry_dict_setitem ?_ (args_dict_setitem _ _ _)))
 show wpAny _ _ (Builtin.Dict.notOrdered "__setitem__" ⟨[.ref d,u,v],[]⟩>>=_) _ _ s
 refine wpAny_bind (wpAny_notOrdered_dict hT ?_)
 show wpAny _ _ (dictSet d u v>>=_) _ _ s
 exact wpAny_bind (cH4 hu ho H nd hok hk hv hz fun h' ents' n' t hs ho' H' hn=>wpAny_pure ⟨.none,rfl,wpAny_pure (h h' ents' n' t hs ho' H' hn)⟩)
inductive cU8 (om km m:EM) (ρ:Env) (σ:aD) (t:Fl×Env×aD):Prop
 |mk (v:V) (σ₁:aD) (j:Nat) (σ₂:aD) (kv:V) (σ₃:aD) (es:List (V×V)) (h1:m ρ σ=some (v,σ₁)) (h2:om ρ σ₁=some (.ref j,σ₂)) (h3:km ρ σ₂=some (kv,σ₃)) (q:σ₃[j]? =some (.dict es)) (hok:fM es kv=true) (hz:es.length≤100000) (e:t=(.next,ρ,σ₃.set j (.dict (dG es kv v))))
theorem aS9{om km m:EM}{ρ:Env}{t:Fl×Env×aD}(e:bP om km m ρ σ=some t):cU8 om km m ρ σ t:=by
 unfold bP at e
 split at e
 ·split at e
  ·split at e
   ·split at e
    ·obtain⟨h,e⟩:=eD e
     obtain⟨h1,h2⟩:=Bool.and_eq_true_iff.mp h
     exact .mk _ _ _ _ _ _ _ (by assumption) (by assumption) (by assumption) (by assumption) h1 (of_decide_eq_true h2) (Option.some.inj e).symm
    ·exact aN e
   ·exact aN e
  ·exact aN e
 ·exact aN e
theorem aS3{o k e:Expr}{om km m:EM}{p pos:Pos}(ho:aY G n B o om)(hk:aY G n B k km)(h:aY G n B e m)
  (hsw:∀env l,swapsWith e (some (.Subscript o k p)) l env=pure false):fA G n B (.Assign [.Subscript o k p] e pos) (bP om km m):=by
 refine⟨fun A env ρ α σ s fl ρ' σ' hA hsc F R e'=> ?_⟩
 obtain⟨v,σ₁,j,σ₂,kv,σ₃,es,h1,h2,h3,q,hok,hz,e⟩:=aS9 e'
 cases e
 refine wpAny_Assign_Subscript (h.to hA hsc F R h1 fun u s₁ α₁ S₁ R₁ F₁ V₁=>ho.to hA hsc F₁ R₁ h2 fun w s₂ α₂ S₂ R₂ F₂ V₂=>hk.to hA hsc F₂ R₂ h3 fun z s₃ α₃ S₃ R₃ F₃ V₃=> ?_) (hsw _ _)
 obtain⟨a,rfl,hj⟩:=(V₂.later S₃.later).ref_inv
 obtain⟨ents,k',hob,H,nd,hne⟩:=R₃.objs j a _ hj q
 refine aD2 hA hob H nd hok V₃ ((V₁.later S₂.later).later S₃.later) hz fun h' ents' n' t hs ho' H' hn'=> ?_
 have S4:bX eB α₃ α₃ s₃ { s₃ with heap:=h',toks:=t }:=bX.put R₃ hs (List.mem_of_getElem? hj) ho'
 exact⟨α₃,(((S₁.trans S₂).trans S₃).trans S4).own,R₃.put hs hj q ⟨_,_,ho',H'.later S4.later,yC nd,hn' hne⟩,F₃.stp0 S4,.next⟩
end
end
section
noncomputable def oB (I:Addr) (h h':Heap):Prop:=∀b o,b≠I→h.get? b=some o→h'.get? b=some o
section
variable {G:GC}{n:Nat}{B:fB}{α:List Addr}{σ:aD}{s:Shared}{A:Around}
theorem oB.later{I:Addr}{h h':Heap}(k:oB I h h')(nt:∀o,h.get? I=some o→¬iJ o):eW G α α h h':=⟨⟨[],by simp⟩,fun b o e hc=>k b o (by rintro rfl;exact nt o e hc) e⟩
theorem eW.trans{α₁ α₂:List Addr}{h₁ h₂ h₃:Heap}(a:eW G α α₁ h₁ h₂)(b:eW G α₁ α₂ h₂ h₃):eW G α α₂ h₁ h₃:=by
 obtain⟨⟨β,rfl⟩,k1⟩:=a
 obtain⟨⟨γ,rfl⟩,k2⟩:=b
 exact⟨⟨β++γ,List.append_assoc ..⟩,fun b o e hc=>k2 b o (k1 b o e hc) hc⟩
theorem bZ.but{I:Addr}{h h':Heap}(R:bZ G α σ h)(k:oB I h h')(hI:I∉α)(h0:G.h0.get? I=none)(nt:∀o,h.get? I=some o→¬iJ o):bZ G α σ h':=
 ⟨fun b o e=>k b o (by rintro rfl;rw[h0]at e;exact aN e) (R.base b o e),R.above,R.nodup,R.len,fun i a o ha ho=>(R.objs i a o ha ho).later (k.later nt) fun x e=>k a x (by rintro rfl;exact hI (List.mem_of_getElem? ha)) e⟩
theorem bX.but{W:Addr→Prop}{I:Addr}{α':List Addr}{s':Shared}{h':Heap}{t:Nat}(S:bX W α α' s s')(hI:s.heap.get? I=none)(k:oB I s'.heap h'):bX W α α' s { s' with heap:=h',toks:=t }:=by
 have ne:∀b o,s.heap.get? b=some o→b≠I:=fun b o e q=>by subst q;rw[hI]at e;exact aN e
 exact⟨S.pre,fun b o e=>let⟨o',e'⟩:=S.live b o e;⟨o',k b o' (ne b o e) e'⟩,fun b o e h1 h2=>k b o (ne b o e) (S.keep b o e h1 h2),fun b o e hc=>k b o (ne b o e) (S.tups b o e hc),S.gens,S.os,S.drawn⟩
theorem eY.but{env:PySem.Env}{ρ:Env}{I:Addr}{h h':Heap}(F:eY G B.ns env ρ α h)(k:oB I h h')(hI:¬kZ env I)(nt:∀o,h.get? I=some o→¬iJ o):eY G B.ns env ρ α h':=by
 have L:eW G α α h h':=k.later nt
 obtain⟨m,hm,hs⟩:=F.loc
 have kl:∀o,h.get? env.locals=some o→h'.get? env.locals=some o:=fun o e=>k _ o (fun q=>hI (.inl q.symm)) e
 have kc:∀x c,env.cells.lookup x=some c→∀o,h.get? c=some o→h'.get? c=some o:=fun x c hc o e=>k _ o (fun q=>hI (.inr ⟨x,q▸hc⟩)) e
 refine⟨F.kind,F.glob,F.blt,F.nsN,⟨m,l5 kl hm,fun i x v h1 h2 h3=> ?_⟩,fun i x v h1 h2 h3=> ?_,F.off,fun x c e=> ?_,F.celInj,F.celAll⟩
 ·obtain⟨u,a,b⟩:=hs i x v h1 h2 h3;exact⟨u,a,b.later L⟩
 ·obtain⟨c,u,a,b,d⟩:=F.cel i x v h1 h2 h3;exact⟨c,u,a,iD (kc x c a) b,d.later L⟩
 ·obtain⟨a,b,d,ov,hv⟩:=F.celOff x c e
  exact⟨a,b,d,ov,iD (kc x c e) hv⟩
structure pO(G:GC)(A:Around)(I:Addr)(src:Sr)(all:List V)(ok:List Addr→aD→Heap→Prop)(It:Nat→Heap→Prop):Prop where
 same:∀i h h',It i h→(∀o,h.get? I=some o→h'.get? I=some o)→It i h'
 has:∀i h,It i h→∃o,h.get? I=some o∧¬iJ o
 next:∀α α' σ σ' h h',ok α σ h→eW G α α' h h'→σ'=σ∨eS σ' src all=true→ok α' σ' h'
 self:∀(i:Nat) (s:Shared) (Q:Value→Shared→Prop) (E:Value→Shared→Prop),It i s.heap→Q (.ref I) s→wpAny (cK G) A (pyIter (.ref I)) Q E s
 item:∀(i:Nat) (x:V) (α:List Addr) (σ:aD) (s:Shared) (Q:Option Value→Shared→Prop) (E:Value→Shared→Prop),all[i]? =some x→It i s.heap→bZ G α σ s.heap→I∉α→ok α σ s.heap→
  (∀v h' tk,RV G α s.heap v x→It (i+1) h'→oB I s.heap h'→Q (some v) { s with heap:=h',toks:=tk })→wpAny (cK G) A (pyNext (.ref I)) Q E s
 done:∀(α:List Addr) (σ:aD) (s:Shared) (Q:Option Value→Shared→Prop) (E:Value→Shared→Prop),It all.length s.heap→bZ G α σ s.heap→I∉α→ok α σ s.heap→
  (∀h' tk,oB I s.heap h'→Q none { s with heap:=h',toks:=tk })→wpAny (cK G) A (pyNext (.ref I)) Q E s
set_option genInjectivity false in
set_option genSizeOf false in
set_option genInjectivity false in
structure LD where
 G:GC
 n:Nat
 B:fB
 A:Around
 env:PySem.Env
 W:Addr→Prop
 α:List Addr
 s:Shared
 I:Addr
 src:Sr
 all:List V
 ok:List Addr→aD→Heap→Prop
 It:Nat→Heap→Prop
structure Off(d:LD)(J:Addr):Prop where
 s:d.s.heap.get? J=none
 z:d.G.h0.get? J=none
 o:¬kZ d.env J
structure LD.Ok(d:LD):Prop where
 A:dQ d.A d.n
 sc:d.env.scope=d.B.sc
 L:pO d.G d.A d.I d.src d.all d.ok d.It
 I:Off d d.I
 W:∀b,d.W b→kZ d.env b
structure LS(d:LD)(i:Nat)(α:List Addr)(ρ:Env)(σ:aD)(s:Shared):Prop where
 it:d.It i s.heap
 S:bX d.W d.α α d.s s
 R:bZ d.G α σ s.heap
 F:eY d.G d.B.ns d.env ρ α s.heap
 I:d.I∉α
 ok:d.ok α σ s.heap
section
variable {d:LD}{i:Nat}{ρ:Env}
theorem LS.nt(O:d.Ok)(H:LS d i α ρ σ s)(o:Obj)(q:s.heap.get? d.I=some o):¬iJ o:=
 let⟨_,h,n⟩:=O.L.has i _ H.it
 Option.some.inj (h.symm.trans q)▸n
theorem LS.but{J:Addr}{j:Nat}{h':Heap}{t:Nat}(O:d.Ok)(H:LS d i α ρ σ s)(b:oB J s.heap h')(k:Off d J)(ja:J∉α)(nt:∀o,s.heap.get? J=some o→¬iJ o)(it:d.It j h'):LS d j α ρ σ { s with heap:=h',toks:=t }:=
 ⟨it,H.S.but k.s b,H.R.but b ja k.z nt,H.F.but b k.o nt,H.I,O.L.next _ _ _ _ _ _ H.ok (b.later nt) (.inl rfl)⟩
theorem LS.item{w:V}{Q:Option Value→Shared→Prop}{E:Value→Shared→Prop}(O:d.Ok)(H:LS d i α ρ σ s)(hx:d.all[i]? =some w)
  (k:∀v h' t,RV d.G α h' v w→LS d (i+1) α ρ σ { s with heap:=h',toks:=t }→oB d.I s.heap h'→eW d.G α α s.heap h'→Q (some v) { s with heap:=h',toks:=t }):wpAny (cK d.G) d.A (pyNext (.ref d.I)) Q E s:=
 O.L.item i w α σ s Q E hx H.it H.R H.I H.ok fun v h' t hv it b=>k v h' t (hv.later (b.later (H.nt O))) (H.but O b O.I H.I (H.nt O) it) b (b.later (H.nt O))
theorem LS.done{Q:Option Value→Shared→Prop}{E:Value→Shared→Prop}(O:d.Ok)(H:LS d d.all.length α ρ σ s)
  (k:∀h' t,bX d.W d.α α d.s { s with heap:=h',toks:=t }→bZ d.G α σ h'→eY d.G d.B.ns d.env ρ α h'→oB d.I s.heap h'→eW d.G α α s.heap h'→Q none { s with heap:=h',toks:=t }):wpAny (cK d.G) d.A (pyNext (.ref d.I)) Q E s:=
 O.L.done α σ s Q E H.it H.R H.I H.ok fun h' t b=>k h' t (H.S.but O.I.s b) (H.R.but b H.I O.I.z (H.nt O)) (H.F.but b O.I.o (H.nt O)) b (b.later (H.nt O))
theorem LS.go{α':List Addr}{ρ':Env}{σ':aD}{s':Shared}(O:d.Ok)(H:LS d i α ρ σ s)(T:bX d.W α α' s s')(R:bZ d.G α' σ' s'.heap)(F:eY d.G d.B.ns d.env ρ' α' s'.heap)(h:σ'=σ∨eS σ' d.src d.all=true):LS d i α' ρ' σ' s':=
 let⟨_,q,_⟩:=O.L.has i _ H.it
 ⟨O.L.same _ _ _ H.it fun o q=>T.keep _ o q H.I fun w=>O.I.o (O.W _ w),H.S.trans T,R,F,T.off H.I q,O.L.next _ _ _ _ _ _ H.ok T.later h⟩
end
theorem zC{x:V}{r:List V}:∀{p:List V},(p++x::r)[p.length]? =some x
 |[]=>rfl
 |_::p=>zC (p:=p)
theorem v7{x:V}{p r:List V}:p++x::r=(p++[x])++r:=by simp
inductive cU9 (xi:Nat) (bm:SM) (src:Sr) (all:List V) (w:V) (r:List V) (ρ:Env) (σ:aD) (t:Fl×Env×aD):Prop
 |ret (v:V) (ρ':Env) (σ':aD) (h:bm (aZ ρ xi w) σ=some (.ret v,ρ',σ')) (e:t=(.ret v,ρ',σ'))
 |go (fl:Fl) (ρ':Env) (σ':aD) (h:bm (aZ ρ xi w) σ=some (fl,ρ',σ')) (hn:∀v,fl≠ .ret v) (hs:eS σ' src all=true) (e:dM xi bm src all r ρ' σ'=some t)
theorem bP3{xi:Nat}{bm:SM}{src:Sr}{all:List V}{w:V}{r:List V}{ρ:Env}{t:Fl×Env×aD}(e:dM xi bm src all (w::r) ρ σ=some t):cU9 xi bm src all w r ρ σ t:=by
 unfold dM at e
 split at e
 ·exact .ret _ _ _ (by assumption) (Option.some.inj e).symm
 ·split at e
  ·exact .go _ _ _ (by assumption) (by assumption) (by assumption) e
  ·exact aN e
 ·exact aN e
inductive FI (d:LD) (xi:Nat) (bm:SM) (t:Fl×Env×aD) (k:Nat) (s:Shared):Prop
 |mk (p r:List V) (α:List Addr) (ρ:Env) (σ:aD) (hp:d.all=p++r) (hk:k=r.length) (H:LS d p.length α ρ σ s) (e:dM xi bm d.src d.all r ρ σ=some t)
theorem cC4{d:LD}{x:Str}{p:Pos}{xi:Nat}{body:List Stmt}{bm:SM}{fl:Fl}{ρ':Env}{σ':aD}{k:Nat}{s:Shared}{Q:Option Value→Shared→Prop}{Qb:Flow→Shared→Prop}{E E₁ E₂:Value→Shared→Prop}
  (O:d.Ok) (hW:d.W=kZ d.env) (hn:d.B.ns[xi]? =some x) (hk:d.env.kindOf x=some .local∨d.env.kindOf x=some .cell) (hb:hZ d.G d.n d.B body bm) (H:FI d xi bm (fl,ρ',σ') k s)
  (h0:∀s,kX d.G d.B d.env d.α d.s fl ρ' σ' .next s→Q none s)
  (h1:∀v s,wpAny (cK d.G) d.A (assign (.Name x p) d.env v) (fun _ s=>wpAny (cK d.G) d.A (execs body d.env) Qb E₂ s) E₁ s→Q (some v) s)
  (h2:∀m s,m<k→FI d xi bm (fl,ρ',σ') m s→Qb .next s∧Qb .cont s)
  (h3:∀v s,kX d.G d.B d.env d.α d.s fl ρ' σ' (.ret v) s→Qb (.ret v) s):wpAny (cK d.G) d.A (pyNext (.ref d.I)) Q E s:=by
 obtain⟨p,r,α,ρ,σ,hp,rfl,H,e⟩:=H
 induction r using List.casesOn with
 |nil=>
  (refine qY e fun p q r=> ?_;clear e;subst p q r)
  rw[List.append_nil]at hp
  exact LS.done O (hp▸H) fun h' t S R F _ _=>h0 _ ⟨_,hW▸S,R,F,.next⟩
 |cons w r=>
  refine H.item O (hp▸zC) fun v h' t hv H _ _=>h1 _ _ (wpAny_assign_Name (rG (s:={ s with heap:=h',toks:=t }) H.F H.R hn hk hv fun s3 S3 R3 F3=> ?_))
  have H3:=H.go O (hW.symm▸S3) R3 F3 (.inl rfl)
  cases bP3 e with
  |ret v ρ₁ σ₁ hm e=>
   cases e
   exact hb.to O.A O.sc F3 R3 hm fun f s4 α4 S4 R4 F4 V4=>by
     cases V4 with
     |ret hv=>exact h3 _ _ ⟨α4,hW▸H3.S.trans (hW.symm▸S4),R4,F4,.ret hv⟩
  |go f₁ ρ₁ σ₁ hm hne hs e=>
   refine hb.to O.A O.sc F3 R3 hm fun f s4 α4 S4 R4 F4 V4=> ?_
   have I4:=h2 _ s4 (Nat.lt_succ_self _) ⟨p++[w],r,α4,ρ₁,σ₁,hp.trans v7,rfl,(List.length_append (as:=p)).symm▸H3.go O (hW.symm▸S4) R4 F4 (.inr hs),e⟩
   cases V4 with
   |next=>exact I4.1
   |cont=>exact I4.2
   |ret hv4=>exact(hne _ rfl).elim
theorem bP2{d:LD}{x:Str}{p:Pos}{xi:Nat}{body:List Stmt}{bm:SM}{ρ:Env}{σ₁:aD}{α₁:List Addr}{s₁:Shared}{fl:Fl}{ρ':Env}{σ':aD}
  (O:d.Ok) (hW:d.W=kZ d.env) (hn:d.B.ns[xi]? =some x) (hk:d.env.kindOf x=some .local∨d.env.kindOf x=some .cell) (hb:hZ d.G d.n d.B body bm) (H:LS d 0 α₁ ρ σ₁ s₁)
  (e:dM xi bm d.src d.all d.all ρ σ₁=some (fl,ρ',σ')) (ht:∀v,letOwnedTupleGo (.Name x p) (.ref d.I) v=pure ()):
  codeAny (cK d.G) d.A (.forLoop (.Name x p) (.ref d.I) body [] d.env) (fun r s'=>match r with | .ok f=>kX d.G d.B d.env d.α d.s fl ρ' σ' f s' | .error e=>cameBackBy (cK d.G) d.A d.env fE e s') s₁:=
 codeAny_forLoop (FI d xi bm (fl,ρ',σ')) (fun _ _ H=>cC4 O hW hn hk hb H (fun _ h=>wpAny_execs_nil h) (fun _ _ h=>h) (fun m _ hm h=>⟨⟨m,hm,h⟩,m,hm,h⟩) fun _ _ h=>h) d.all.length ⟨[],_,_,_,_,rfl,rfl,H,e⟩ ht
theorem aM8{I:Addr}{src:Sr}{all:List V}{ok:List Addr→aD→Heap→Prop}{It:Nat→Heap→Prop}{x:Str}{p:Pos}{xi:Nat}{body:List Stmt}{bm:SM}{env:PySem.Env}{ρ:Env}{σ₁:aD}{α₁:List Addr}{s₁:Shared}{fl:Fl}{ρ':Env}{σ':aD}
  (hA:dQ A n) (hsc:env.scope=B.sc) (L:pO G A I src all ok It) (hn:B.ns[xi]? =some x) (hk:B.sc.names.lookup x=some .local∨B.sc.names.lookup x=some .cell) (hb:hZ G n B body bm)
  (hI:s.heap.get? I=none) (h0:G.h0.get? I=none) (S₁:bX (kZ env) α α₁ s s₁) (R₁:bZ G α₁ σ₁ s₁.heap) (F₁:eY G B.ns env ρ α₁ s₁.heap) (hO:¬kZ env I) (hIα:I∉α₁) (hok:ok α₁ σ₁ s₁.heap) (hit:It 0 s₁.heap)
  (e:dM xi bm src all all ρ σ₁=some (fl,ρ',σ')) (ht:∀v,letOwnedTupleGo (.Name x p) (.ref I) v=pure ()):
  codeAny (cK G) A (.forLoop (.Name x p) (.ref I) body [] env) (fun r s'=>match r with | .ok f=>kX G B env α s fl ρ' σ' f s' | .error e=>cameBackBy (cK G) A env fE e s') s₁:=
 bP2 (d:=⟨G,n,B,A,env,kZ env,α,s,I,src,all,ok,It⟩) ⟨hA,hsc,L,⟨hI,h0,hO⟩,fun _ h=>h⟩ rfl hn (by unfold Env.kindOf;rw[hsc];exact hk) hb ⟨hit,S₁,R₁,F₁,hIα,hok⟩ e ht
end
end
section
section
variable {G:GC}{n:Nat}{B:fB}{α:List Addr}{σ:aD}{s:Shared}{A:Around}
theorem rN{I:Addr}{h h':Heap}(k:∀b o,b∉[I]→h.get? b=some o→h'.get? b=some o):oB I h h':=fun b o hb e=>k b o (dX hb j7) e
set_option tactic.hygienic true in
theorem bN7{I ax:Addr}{j:Nat}{all:List V}(hA:A.handled=none):
  pO G A I (.list j) all (fun α σ _=>α[j]? =some ax∧σ[j]? =some (.list all)) (fun i h=>h.IsListIter I ax i) where
 same:=fun i h h' q k=>q.imp fun o r=>⟨k o r.1,r.2⟩
 has:=fun i h q=>q.imp fun o r=>⟨r.1,fun t=>by obtain⟨_,its,n,e⟩:=t;rw[r.2.2]at e;injection e⟩
 next:=fun α α' σ σ' h h' zq L hs=>by
  obtain⟨h1,h2⟩:=zq
  obtain⟨β,rfl⟩:=L.pre
  refine⟨rK h1,?_⟩
  rcases hs with rfl |hs
  ·exact h2
  unfold eS at hs
  simp only at hs
  split at hs
  ·rename_i l' q
   rw[q,(V.beqL_iff _ _).mp hs]
  ·exact c7 hs
 self:=fun i s Q E it h=>wpAny_pyIter_listiter it h
 item:=fun i x α σ s Q E hx it R hI zq hQ=>by
  obtain⟨h1,h2⟩:=zq
  obtain⟨its,k,ho,hv⟩:=R.objs j ax _ h1 h2
  have hne:ax≠I:=fun e=>hI (e▸List.mem_of_getElem? h1)
  have hl:=hv.length
  simp only[Array.length_toList]at hl
  have hlt:i<its.size:=by rw[hl];exact(List.getElem?_eq_some_iff.mp hx).1
  refine(Walks.list hA I ax hne its).item i s Q E hlt ⟨it,⟨_,ho,rfl,k,rfl⟩⟩ fun v h' tk hP hst hk=> ?_
  obtain⟨y,hy,hr⟩:=(hv.get i).2 v (by simpa using hP)
  rw[hx]at hy;(refine cT hy fun p=> ?_;clear hy;subst p)
  exact hQ v h' tk hr hst.1 (rN hk)
 done:=fun α σ s Q E it R hI zq hQ=>by
  obtain⟨h1,h2⟩:=zq
  obtain⟨its,k,ho,hv⟩:=R.objs j ax _ h1 h2
  have hne:ax≠I:=fun e=>hI (e▸List.mem_of_getElem? h1)
  have hl:=hv.length
  simp only[Array.length_toList]at hl
  refine(Walks.list hA I ax hne its).done s Q E ⟨by rw[hl];exact it,⟨_,ho,rfl,k,rfl⟩⟩ fun h' tk hk=>hQ h' tk (rN hk)
theorem cA7{I ax:Addr}{all:List V}(hA:A.handled=none)(hne:ax≠I):
  pO G A I .fix all (fun α _ h=>∃vs,IsTup h ax vs.toArray∧b8 G α h vs all) (fun i h=>h.IsTupleIter I ax i) where
 same:=fun i h h' q k=>q.imp fun o r=>⟨k o r.1,r.2⟩
 has:=fun i h q=>q.imp fun o r=>⟨r.1,fun t=>by obtain⟨_,its,n,e⟩:=t;rw[r.2.2]at e;injection e⟩
 next:=fun α α' σ σ' h h' q L _=>q.imp fun vs r=>⟨vT L.tups r.1,r.2.later L⟩
 self:=fun i s Q E it h=>wpAny_pyIter_tupleiter it h
 item:=fun i x α σ s Q E hx it R hI zq hQ=>by
  obtain⟨vs,ht,hv⟩:=zq
  have hl:=hv.length
  have hlt:i<vs.toArray.size:=by rw[List.size_toArray,hl];exact(List.getElem?_eq_some_iff.mp hx).1
  refine(Walks.tuple hA I ax hne vs.toArray).item i s Q E hlt ⟨it,ht⟩ fun v h' tk hP hst hk=> ?_
  obtain⟨y,hy,hr⟩:=(hv.get i).2 v (by simpa using hP)
  rw[hx]at hy;(refine cT hy fun p=> ?_;clear hy;subst p)
  exact hQ v h' tk hr hst.1 (rN hk)
 done:=fun α σ s Q E it R hI zq hQ=>by
  obtain⟨vs,ht,hv⟩:=zq
  have hl:=hv.length
  refine(Walks.tuple hA I ax hne vs.toArray).done s Q E ⟨by rw[List.size_toArray,hl];exact it,ht⟩ fun h' tk hk=>hQ h' tk (rN hk)
theorem bD3{I:Addr}{a b:Int}(hA:A.handled=none):
  pO G A I .fix (fQ a b) (fun _ _ _=>True) (fun i h=>IsRangeIter h I (a+(i:Nat)*1) ((((b-a).toNat:Nat):Int)-(i:Nat)) 1) where
 same:=fun i h h' it k=>k _ it
 has:=fun i h it=>⟨_,it,fun t=>by obtain⟨_,its,n,e⟩:=t;injection e⟩
 next:=fun α α' σ σ' h h' _ L _=>trivial
 self:=fun i s Q E it h=>wpAny_pyIter_rangeiter it h
 item:=fun i x α σ s Q E hx it R hI _ hQ=>by
  unfold fQ at hx
  rw[List.getElem?_map]at hx
  obtain⟨m,hm,rfl⟩:=Option.map_eq_some_iff.mp hx
  have hlt:i<(b-a).toNat:=by simpa using(List.getElem?_eq_some_iff.mp hm).1
  rw[List.getElem?_range hlt]at hm
  (refine cT hm fun p=> ?_;clear hm;subst p)
  refine(Walks.range hA I a 1 (b-a).toNat).item _ s Q E hlt it fun v h' tk hP hst hk=> ?_
  obtain⟨t,rfl⟩:=hP
  refine hQ _ h' tk ?_ hst (rN hk)
  rw[Int.mul_one]
  exact .int _ _
 done:=fun α σ s Q E it R hI _ hQ=>by
  have hl:(fQ a b).length=(b-a).toNat:=by simp[fQ]
  rw[hl]at it
  exact(Walks.range hA I a 1 (b-a).toNat).done s Q E it fun h' tk hk=>hQ h' tk (rN hk)
theorem b8.keep{h h':Heap}(k:∀b o,h.get? b=some o→h'.get? b=some o){vs:List Value}{l:List V}(H:b8 G α h vs l):b8 G α h' vs l:=H.later ⟨⟨[],by simp⟩,fun b o e _=>k b o e⟩
theorem bM8{env:PySem.Env}{ρ:Env}{b:Addr}(F:eY G B.ns env ρ α s.heap)(h:kZ env b):∃o,s.heap.get? b=some o:=by
 rcases h with rfl |⟨x,hx⟩
 ·obtain⟨m,⟨o,_,_,ho,_⟩,_⟩:=F.loc;exact⟨o,ho⟩
 ·obtain⟨_,_,_,ov,o,ho,_⟩:=F.celOff x b hx;exact⟨o,ho⟩
end
end
section
section
variable {G:GC}{n:Nat}{B:fB}{α:List Addr}{σ:aD}{s:Shared}{A:Around}
theorem aK0{d:Addr}{ents:List DictEntry}{k:Nat}{E:Value→Shared→Prop}{Q:Value→Shared→Prop}(hd:(d==sysModules)=false)(ho:s.heap.get? d=some (dictOf ents k))
  (hQ:Q (.ref s.heap.objs.size) { s with heap:=s.heap.push { cls:= .type "dict_keyiterator",data:= .fields #[.ref d,.int 0 0,.int ents.length 0,.int k 0] } }):wpAny (cK G) A (pyIter (.ref d)) Q E s:=by
 have hT:s.TypeIs (.ref d) "dict":=⟨_,ho,rfl⟩
 refine wpAny_pyIter_slot hT F.slot_dict_iter (wpAny_call_entry F.slot_dict_iter hT F.entry_dict_iter ?_ (F.args_dict_iter_1 _))
 unfold Builtin.«dict.__iter__» Builtin.Dict.dictSlotNone
 refine wpAny_bind (wpAny_bind (wpAny_notOrdered_dict hT ?_))
 show wpAny _ _ (pure (Value.ref d)) _ _ s
 refine wpAny_pure ?_
 show wpAny _ _ (Builtin.Dict.showsAll d>>=_) _ _ s
 unfold Builtin.Dict.showsAll
 rw[if_neg (by rw[hd];exact Bool.false_ne_true)]
 refine wpAny_bind (wpAny_pure ?_)
 refine wpAny_bind (wpAny_dictEntries ho rfl ?_)
 refine wpAny_bind (wpAny_dictEpoch ho rfl ?_)
 refine wpAny_bind (wpAny_newObj_type (wpAny_pure ⟨_,rfl,"dict_keyiterator",_,⟨_,Heap.get?_push_size _ rfl,rfl⟩,F.slot_dict_keyiterator_next.lookup,?_⟩))
 exact hQ
theorem bC8{it d:Addr}{i k:Nat}{ents:List DictEntry}{e:DictEntry}{E:Value→Shared→Prop}{Q:Option Value→Shared→Prop}(hit:s.heap.IsKeyIter it d i ents.length k)(hod:s.heap.get? d=some (dictOf ents k))
  (hx:ents[i]? =some e) (hQ:∀h',h'.IsKeyIter it d (i+1) ents.length k→oB it s.heap h'→Q (some e.key) { s with heap:=h' }):wpAny (cK G) A (pyNext (.ref it)) Q E s:=by
 obtain⟨o,ho,hc,hd⟩:=id hit
 unfold pyNext
 refine wpAny_bind (wpAny_attempt (wpAny_callSpecial?_slot (name:=Str.ofString "__next__") hit.typeIs F.slot_dict_keyiterator_next
  (wpAny_call_entry F.slot_dict_keyiterator_next hit.typeIs F.entry_dict_keyiterator_next ?_ (F.args_dict_keyiterator_next_1 _))))
 refine wpAny_bind (wpAny_pure ?_)
 refine wpAny_bind ?_
 refine wpAny_bind ?_
 first |refine wpAny_bind (wpAny_typeNameOfWhole_keyiter hit.typeIs (wpAny_pure ?_)) |refine wpAny_bind (wpAny_typeNameOf_keyiter hit.typeIs (wpAny_pure ?_))
 refine wpAny_bind (wpAny_fieldsOf ho hd ?_)
 have hown:Builtin.Dict_items.ownsTuple "dict_keyiterator"=false:=by decide
 rw[if_neg (show ¬(Builtin.Dict_items.ownsTuple "dict_keyiterator"=true)from hown▸Bool.false_ne_true)]
 show wpAny _ _ (if(Value.ref d==Value.none)=true then _ else _) _ _ s
 rw[if_neg (show ¬((Value.ref d==Value.none)=true)from Bool.false_ne_true)]
 refine wpAny_bind (wpAny_pure ?_)
 refine wpAny_bind (wpAny_dictEntries hod rfl ?_)
 rw[if_neg (by simp)]
 refine wpAny_bind (wpAny_pure ?_)
 refine wpAny_bind (wpAny_dictEpoch hod rfl ?_)
 rw[if_neg (by simp)]
 refine wpAny_pure ?_
 have hlt:i<ents.length:=(List.getElem?_eq_some_iff.mp hx).1
 have hlt':i<ents.toArray.size:=hlt
 have hei:ents.toArray[i]=e:=by have:=(List.getElem?_eq_some_iff.mp hx).2;exact this
 dsimp only
 rw[if_neg nCz,Int.toNat_natCast,Array.getElem?_eq_getElem hlt',hei]
 refine wpAny_bind ?_
 first |refine wpAny_bind (wpAny_typeNameOfWhole_keyiter hit.typeIs (wpAny_pure ?_)) |refine wpAny_bind (wpAny_typeNameOf_keyiter hit.typeIs (wpAny_pure ?_))
 refine wpAny_bind (wpAny_isOneOf_keyiter hit.typeIs ?_)
 show wpAny _ _ (setField (.ref it) 1 (rawInt ((i:Int)+1))>>=_) _ _ s
 refine wpAny_bind (wpAny_setField ho hd (by simp) ?_)
 have hit':(s.heap.update it (Obj.mapFields (·.setIfInBounds 1 (rawInt ((i:Int)+1))))).IsKeyIter it d (i+1) ents.length k:=
  ⟨_,Heap.get?_update_self _ ho (Obj.isFreed_of_fields (Obj.data_mapFields hd _)),(Obj.cls_mapFields ..).trans hc,by rw[Obj.data_mapFields hd];exact rfl⟩
 refine wpAny_bind (wpAny_holding ?_)
 refine wpAny_bind (wpAny_isOneOf_keyiter (s:={ s with heap:=s.heap.update it (Obj.mapFields (·.setIfInBounds 1 (rawInt ((i:Int)+1)))) }) hit'.typeIs ?_)
 show wpAny _ _ (pure e.key) _ _ _
 exact wpAny_pure (wpAny_pure ⟨_,rfl,wpAny_pure (hQ _ hit' fun b o hb e=>(Heap.get?_update_other _ _ (Ne.symm hb)).trans e)⟩)
theorem bQ1{it d:Addr}{k:Nat}{ents:List DictEntry}{E:Value→Shared→Prop}{Q:Option Value→Shared→Prop}(hh:A.handled=none)(hit:s.heap.IsKeyIter it d ents.length ents.length k)(hod:s.heap.get? d=some (dictOf ents k))
  (hQ:∀h',oB it s.heap h'→Q none { s with heap:=h' }):wpAny (cK G) A (pyNext (.ref it)) Q E s:=by
 obtain⟨o,ho,hc,hd⟩:=id hit
 unfold pyNext
 refine wpAny_bind (wpAny_attempt (wpAny_callSpecial?_slot (name:=Str.ofString "__next__") hit.typeIs F.slot_dict_keyiterator_next
  (wpAny_call_entry F.slot_dict_keyiterator_next hit.typeIs F.entry_dict_keyiterator_next ?_ (F.args_dict_keyiterator_next_1 _))))
 refine wpAny_bind (wpAny_pure ?_)
 refine wpAny_bind ?_
 refine wpAny_bind ?_
 first |refine wpAny_bind (wpAny_typeNameOfWhole_keyiter hit.typeIs (wpAny_pure ?_)) |refine wpAny_bind (wpAny_typeNameOf_keyiter hit.typeIs (wpAny_pure ?_))
 refine wpAny_bind (wpAny_fieldsOf ho hd ?_)
 have hown:Builtin.Dict_items.ownsTuple "dict_keyiterator"=false:=by decide
 rw[if_neg (show ¬(Builtin.Dict_items.ownsTuple "dict_keyiterator"=true)from hown▸Bool.false_ne_true)]
 show wpAny _ _ (if(Value.ref d==Value.none)=true then _ else _) _ _ s
 rw[if_neg (show ¬((Value.ref d==Value.none)=true)from Bool.false_ne_true)]
 refine wpAny_bind (wpAny_pure ?_)
 refine wpAny_bind (wpAny_dictEntries hod rfl ?_)
 rw[if_neg (by simp)]
 refine wpAny_bind (wpAny_pure ?_)
 refine wpAny_bind (wpAny_dictEpoch hod rfl ?_)
 rw[if_neg (by simp)]
 refine wpAny_pure ?_
 have hge:ents.toArray.size≤ents.length:=by simp
 dsimp only
 rw[if_neg nCz,Int.toNat_natCast,Array.getElem?_eq_none hge]
 refine wpAny_bind ?_
 first |refine wpAny_bind (wpAny_typeNameOfWhole_keyiter hit.typeIs (wpAny_pure ?_)) |refine wpAny_bind (wpAny_typeNameOf_keyiter hit.typeIs (wpAny_pure ?_))
 show wpAny _ _ (setField (.ref it) 0 .none>>=_) _ _ s
 refine wpAny_bind (wpAny_setField ho hd (by simp) ?_)
 show wpAny _ _ (newExc (.type "StopIteration") []>>=_) _ _ _
 refine wpAny_bind ?_
 simp only[newExc,newTuple]
 refine wpAny_bind (wpAny_newObj_type ?_ (by size_fits))
 refine wpAny_bind (m:=firstArgMember _ _) (wpAny_of_eq (a:=Value.none) (by first |rfl |(simp only[firstArgMember];rfl)) ?_)
 refine wpAny_newObj_type ?_ (by size_fits)
 unfold raiseNew
 refine wpAny_bind (wpAny_handled ?_)
 rw[show A.in1.handled=none from hh]
 refine wpAny_bind (wpAny_pure (wpAny_throw ?_))
 refine wpAny_bind (wpAny_isInstance (T:="StopIteration") (b:=true) ⟨_,Heap.get?_push_size _ rfl,rfl⟩ isSubtype_stop ?_)
 exact wpAny_pure (hQ _ fun b o hb e=>Heap.get?_push_of_some _ (Heap.get?_push_of_some _ ((Heap.get?_update_other _ _ (Ne.symm hb)).trans e)))
theorem gS.keys{h:Heap}{ents:List DictEntry}{es:List (V×V)}(H:gS G α h ents es):b8 G α h (ents.map (·.key)) (es.map (·.1)):=by
 induction H with
 |nil=>exact .nil
 |cons _ hk _ _ ih=>exact .cons hk ih
set_option tactic.hygienic true in
theorem bN8{I d:Addr}{j:Nat}{all:List V}(hA:A.handled=none):
  pO G A I (.dict j) all (fun α σ _=>α[j]? =some d∧∃es,σ[j]? =some (.dict es)∧es.map (·.1)=all) (fun i h=>h.IsKeyIter I d i all.length all.length) where
 same:=fun i h h' q k=>q.imp fun o r=>⟨k o r.1,r.2⟩
 has:=fun i h q=>q.imp fun o r=>⟨r.1,fun t=>by obtain⟨_,its,n,e⟩:=t;rw[r.2.2]at e;injection e⟩
 next:=fun α α' σ σ' h h' zq L hs=>by
  obtain⟨h1,h2⟩:=zq
  obtain⟨β,rfl⟩:=L.pre
  refine⟨rK h1,?_⟩
  rcases hs with rfl |hs
  ·exact h2
  unfold eS at hs
  simp only at hs
  split at hs
  ·rename_i es q
   exact⟨es,q,(V.beqL_iff _ _).mp hs⟩
  ·exact c7 hs
 self:=fun i s Q E it h=>wpAny_pyIter_keyiter it h
 item:=fun i x α σ s Q E hx it R hI zq hQ=>by
  obtain⟨h1,es,h2,h3⟩:=zq
  obtain⟨ents,k,ho,H,nd,hk⟩:=R.objs j d _ h1 h2
  have hl:=H.length
  have hl2:all.length=ents.length:=by rw[←h3,List.length_map,hl]
  subst hk
  rw[hl2]at it
  have hV:=H.keys
  rw[h3]at hV
  obtain⟨u,hu,hr⟩:=(hV.get i).1 x hx
  rw[List.getElem?_map]at hu
  obtain⟨e,he,rfl⟩:=Option.map_eq_some_iff.mp hu
  exact bC8 it ho he fun h' hit' hb=>hQ _ h' s.toks hr (by rw[hl2];exact hit') hb
 done:=fun α σ s Q E it R hI zq hQ=>by
  obtain⟨h1,es,h2,h3⟩:=zq
  obtain⟨ents,k,ho,H,nd,hk⟩:=R.objs j d _ h1 h2
  have hl:=H.length
  have hl2:all.length=ents.length:=by rw[←h3,List.length_map,hl]
  subst hk
  rw[hl2]at it
  exact bQ1 hA it ho fun h' hb=>hQ h' s.toks hb
end
end
section
section
variable {G:GC}{n:Nat}{B:fB}{α:List Addr}{σ:aD}{s:Shared}{A:Around}
theorem bO4{u:Value}{sv:V}{src:Sr}{l:List V}{Q:Value→Shared→Prop}{E:Value→Shared→Prop}(hA:A.handled=none)(R:bZ G α σ s.heap)(V:RV G α s.heap u sv)(e:fS sv σ=some (src,l))
  (k:∀I s' ok It,pO G A I src l ok It→s.heap.get? I=none→bX eB α α s s'→bZ G α σ s'.heap→ok α σ s'.heap→It 0 s'.heap→Q (.ref I) s'):wpAny (cK G) A (pyIter u) Q E s:=by
 have free:s.heap.get? s.heap.objs.size=none:=Heap.get?_none_of_le (Nat.le_refl _)
 induction sv using Mine.Internal.V.casesOn with
 |tup l'=>
  (refine dN e fun p q=> ?_;clear e;subst p q)
  obtain⟨ax,vs,rfl,ht,hv⟩:=V.tup_inv
  exact wpAny_pyIter_tuple ht (k _ _ _ _ (cA7 (ax:=ax) hA (by rintro rfl;obtain⟨o,ho,_⟩:=ht;rw[free]at ho;exact aN ho)) free (bX.grown cN) (R.grown cN) ⟨vs,ht.keeps cN,hv.keep cN⟩ ⟨_,Heap.get?_push_size _ rfl,rfl,rfl⟩)
 |ref j=>
  obtain⟨ax,rfl,hj⟩:=V.ref_inv
  unfold fS at e
  induction q:σ[j]? using Option.casesOn with
  |none=>simp only[q]at e;exact aN e
  |some o=>
   induction o using bF.casesOn with
   |list l'=>
    simp only[q]at e
    (refine dN e fun p q=> ?_;clear e;subst p q)
    obtain⟨its,n,ho,hv⟩:=R.objs j ax _ hj q
    exact wpAny_pyIter_list (items:=its) ⟨_,ho,rfl,n,rfl⟩ (k _ _ _ _ (bN7 (ax:=ax) hA) free (bX.grown cN) (R.grown cN) ⟨hj,q⟩ ⟨_,Heap.get?_push_size _ rfl,rfl,rfl⟩)
   |dict es=>
    simp only[q]at e
    (refine dN e fun p q=> ?_;clear e;subst p q)
    obtain⟨ents,n,ho,H,nd,rfl⟩:=R.objs j ax _ hj q
    exact aK0 (R.notSys (List.mem_of_getElem? hj)) ho (k _ _ _ _ (bN8 (d:=ax) hA) free (bX.grown cN) (R.grown cN) ⟨hj,es,q,rfl⟩ (by rw[List.length_map,←H.length];exact⟨_,Heap.get?_push_size _ rfl,rfl,rfl⟩))
   |inst _ _=>simp only[q]at e;exact aN e
   |ns _=>simp only[q]at e;exact aN e
 |none |bool _ |int _ |str _ |gd _ |gl _=>exact aN e
theorem qD{env:PySem.Env}{ρ:Env}{b:Addr}(F:eY G B.ns env ρ α s.heap)(h:s.heap.get? b=none):¬kZ env b:=fun q=>let⟨_,ho⟩:=bM8 F q;nomatch h.symm.trans ho
theorem bZ3{xi:Nat}{m:EM}{bm:SM}{ρ:Env}{t:Fl×Env×aD}{P:Prop}(e:dL xi m bm ρ σ=some t)(k:∀sv σ₁ src l,m ρ σ=some (sv,σ₁)→fS sv σ₁=some (src,l)→dM xi bm src l l ρ σ₁=some t→P):P:=by
 unfold dL at e
 split at e
 ·split at e
  ·exact k _ _ _ _ (by assumption) (by assumption) e
  ·exact aN e
 ·exact aN e
theorem bY4{x:Str}{p pos:Pos}{xi:Nat}{e:Expr}{m:EM}{body:List Stmt}{bm:SM}(hn:B.ns[xi]? =some x)(hk:B.sc.names.lookup x=some .local∨B.sc.names.lookup x=some .cell)(h:aY G n B e m)(hb:hZ G n B body bm)
  (ht:∀I v,letOwnedTupleGo (.Name x p) (.ref I) v=pure ()) (hf:∀env x,foldedSetIterable e env x=pure x):fA G n B (.For (.Name x p) e body [] pos) (dL xi m bm):=
 ⟨fun A env ρ α σ s fl ρ' σ' hA hsc F R e=>bZ3 e fun sv σ₁ src l h1 h2 e=>
  wpAny_For (h.to hA hsc F R h1 fun u s₁ α₁ S₁ R₁ F₁ V₁=>bO4 hA.handled R₁ V₁ h2 fun I s₂ ok It L hI S₂ R₂ hok hit=>
   aM8 hA hsc L hn hk hb (S₁.dead hI) (R₁.free hI).2 (S₁.own.trans S₂.own) R₂ (F₁.stp0 S₂) (qD F₁ hI) (R₁.free hI).1 hok hit e (ht I)) (hf env)⟩
theorem aS1{a b:Int}(h0:0≤a)(h1:a≤1000)(h3:0≤b)(h2:b≤100000):Builtin.Range.small a b 1=true:=small_one (l9 h0 rfl) (xY h1 rfl) (l9 h3 rfl) (xY h2 rfl)
theorem xF{x:Str}{p:Pos}{xi:Nat}{body:List Stmt}{bm:SM}{env:PySem.Env}{ρ:Env}{σ₁:aD}{α₁:List Addr}{s₁:Shared}{fl:Fl}{ρ':Env}{σ':aD}{r:Addr}{a b:Int}{t u v:Tok}
  (hA:dQ A n) (hsc:env.scope=B.sc) (hn:B.ns[xi]? =some x) (hk:B.sc.names.lookup x=some .local∨B.sc.names.lookup x=some .cell) (hb:hZ G n B body bm)
  (S₁:bX eB α α₁ s s₁) (R₁:bZ G α₁ σ₁ s₁.heap) (F₁:eY G B.ns env ρ α₁ s₁.heap) (hr:IsRange s₁.heap r a b 1 t u v) (h0:0≤a) (h1:a≤1000) (h3:0≤b) (h2:b≤100000)
  (e:dM xi bm .fix (fQ a b) (fQ a b) ρ σ₁=some (fl,ρ',σ')) (ht:∀I v,letOwnedTupleGo (.Name x p) (.ref I) v=pure ()):
  wpAny (cK G) A (pyIter (.ref r)) (fun it s₂=>codeAny (cK G) A (.forLoop (.Name x p) it body [] env) (fun r s'=>match r with | .ok f=>kX G B env α s fl ρ' σ' f s' | .error e=>cameBackBy (cK G) A env fE e s') s₂) fE s₁:=by
 refine wpAny_pyIter_range hr (aS1 h0 h1 h3 h2) ?_
 have hfree:s₁.heap.get? s₁.heap.objs.size=none:=Heap.get?_none_of_le (Nat.le_refl _)
 have hI:s.heap.get? s₁.heap.objs.size=none:=S₁.dead hfree
 have hO:¬kZ env s₁.heap.objs.size:=fun q=>by obtain⟨o,ho⟩:=bM8 F₁ q;rw[hfree]at ho;exact aN ho
 obtain⟨hIα,h0'⟩:=R₁.free hfree
 generalize hI':s₁.heap.objs.size=I at*
 refine aM8 hA hsc (bD3 hA.handled) hn hk hb hI h0' (S₁.own.trans (bX.grown cN)) (R₁.grown cN) (F₁.stp0 (bX.grown cN)) hO hIα trivial ?_ e (ht I)
 show Heap.get? _ I=_
 rw[←hI',rangeSize_nat]
 simpa using Heap.get?_push_size _ rfl
set_option tactic.hygienic true in
theorem bB4(O:G.Ok){x:Str}{p pos rp rpos:Pos}{xi:Nat}{e:Expr}{m:EM}{body:List Stmt}{bm:SM}(gb:j0 G "range" (.type "range"))(hkr:B.sc.names.lookup ("range":Str)=some .globalImplicit)(hn:B.ns[xi]? =some x)
  (hk:B.sc.names.lookup x=some .local∨B.sc.names.lookup x=some .cell) (h:aY G n B e m) (hb:hZ G n B body bm) (hp:gO e=true)
  (ht:∀I v,letOwnedTupleGo (.Name x p) (.ref I) v=pure ()) (hf:∀env y,foldedSetIterable (.Call (.Name "range" rp) [e] [] rpos) env y=pure y):
  fA G n B (.For (.Name x p) (.Call (.Name "range" rp) [e] [] rpos) body [] pos) (fH xi (aB 0) m bm):=by
 refine⟨fun A env ρ α σ s fl ρ' σ' hA hsc F R e'=> ?_⟩
 unfold fH aB at e'
 simp only at e'
 split at e'
 ·rename_i y σ₂ h2
  split at e'
  ·rename_i hz
   have hpl:cW [e]=true:=by simp[cW,hp]
   refine wpAny_For (Call_ (oP O gb hsc F R hkr (by decide) ?_)) (hf env)
   refine PyProof.Rows.callWith_type (jH hpl) (rP (ms:=[m]) (l:=[.int y]) (σ':=σ₂) (iR h kJ hp) hpl rfl hA hsc F R (by simp[dO,h2]) ?_)
   rintro vs s' ⟨α',S,R',V⟩
   obtain⟨w,rfl,hw⟩:=V.one
   obtain⟨t,rfl⟩:=hw.int_inv
   refine call_range_1 ?_
   have S2:bX eB α' α' s' { s' with heap:=s'.heap.push { cls:= .type "range",data:= .fields #[.int 0 s'.toks,.int y t,.int 1 (s'.toks+1)] },toks:=s'.toks+1+1 }:=bX.grown cN
   exact xF hA hsc hn hk hb (S.trans S2) (R'.grown cN) ((F.stp0 S).stp0 S2) (Heap.get?_push_size _ rfl) (Int.le_refl _) hz.2.1 hz.2.2.1 hz.2.2.2 e' ht
  ·exact aN e'
 ·exact aN e'
set_option tactic.hygienic true in
theorem bB3(O:G.Ok){x:Str}{p pos rp rpos:Pos}{xi:Nat}{e f:Expr}{m k:EM}{body:List Stmt}{bm:SM}(gb:j0 G "range" (.type "range"))(hkr:B.sc.names.lookup ("range":Str)=some .globalImplicit)(hn:B.ns[xi]? =some x)
  (hk:B.sc.names.lookup x=some .local∨B.sc.names.lookup x=some .cell) (h:aY G n B e m) (h':aY G n B f k) (hb:hZ G n B body bm) (hp:gO e=true) (hp':gO f=true)
  (ht:∀I v,letOwnedTupleGo (.Name x p) (.ref I) v=pure ()) (hf:∀env y,foldedSetIterable (.Call (.Name "range" rp) [e,f] [] rpos) env y=pure y):
  fA G n B (.For (.Name x p) (.Call (.Name "range" rp) [e,f] [] rpos) body [] pos) (fH xi m k bm):=by
 refine⟨fun A env ρ α σ s fl ρ' σ' hA hsc F R e'=> ?_⟩
 unfold fH at e'
 split at e'
 ·rename_i z σ₁ h1
  split at e'
  ·rename_i y σ₂ h2
   split at e'
   ·rename_i hz
    have hpl:cW [e,f]=true:=by simp[cW,hp,hp']
    refine wpAny_For (Call_ (oP O gb hsc F R hkr (by decide) ?_)) (hf env)
    refine PyProof.Rows.callWith_type (jH hpl) (rP (ms:=[m,k]) (l:=[.int z,.int y]) (σ':=σ₂) (iR h (iR h' kJ hp') hp) hpl rfl hA hsc F R (by simp[dO,h1,h2]) ?_)
    rintro vs s' ⟨α',S,R',V⟩
    obtain⟨v,w,rfl,hv,hw⟩:=V.two
    obtain⟨t,rfl⟩:=hv.int_inv
    obtain⟨t',rfl⟩:=hw.int_inv
    refine call_range_2 ?_
    have S2:bX eB α' α' s' { s' with heap:=s'.heap.push { cls:= .type "range",data:= .fields #[.int z t,.int y t',.int 1 s'.toks] },toks:=s'.toks+1 }:=bX.grown cN
    exact xF hA hsc hn hk hb (S.trans S2) (R'.grown cN) ((F.stp0 S).stp0 S2) (Heap.get?_push_size _ rfl) hz.1 hz.2.1 hz.2.2.1 hz.2.2.2 e' ht
   ·exact aN e'
  ·exact aN e'
 ·exact aN e'
inductive dJ8 (tm:TM) (bm:SM) (k:Nat) (ρ:Env) (σ:aD) (t:Fl×Env×aD):Prop
 |ret (σ₁:aD) (v:V) (ρ':Env) (σ':aD) (h1:tm ρ σ=some (true,σ₁)) (h2:bm ρ σ₁=some (.ret v,ρ',σ')) (e:t=(.ret v,ρ',σ'))
 |go (σ₁:aD) (fl:Fl) (ρ':Env) (σ':aD) (h1:tm ρ σ=some (true,σ₁)) (h2:bm ρ σ₁=some (fl,ρ',σ')) (hn:∀v,fl≠ .ret v) (e:fD tm bm k ρ' σ'=some t)
 |fin (σ₁:aD) (h1:tm ρ σ=some (false,σ₁)) (e:t=(.next,ρ,σ₁))
theorem aR7{tm:TM}{bm:SM}{k:Nat}{ρ:Env}{t:Fl×Env×aD}(e:fD tm bm (k+1) ρ σ=some t):dJ8 tm bm k ρ σ t:=by
 unfold fD at e
 split at e
 ·split at e
  ·exact .ret _ _ _ _ (by assumption) (by assumption) (Option.some.inj e).symm
  ·exact .go _ _ _ _ (by assumption) (by assumption) (by assumption) e
  ·exact aN e
 ·exact .fin _ (by assumption) (Option.some.inj e).symm
 ·exact aN e
inductive WI (G:GC) (B:fB) (env:PySem.Env) (α:List Addr) (s₀:Shared) (tm:TM) (bm:SM) (t:Fl×Env×aD) (k:Nat) (s:Shared):Prop
 |mk (α':List Addr) (ρ:Env) (σ:aD) (S:bX (kZ env) α α' s₀ s) (R:bZ G α' σ s.heap) (F:eY G B.ns env ρ α' s.heap) (e:fD tm bm k ρ σ=some t)
theorem aZ5{t:Expr}{tm:TM}{body:List Stmt}{bm:SM}{env:PySem.Env}{s₀:Shared}{fl:Fl}{ρ':Env}{σ':aD}{k:Nat}{Q:Bool→Shared→Prop}{Qb:Flow→Shared→Prop}{E E₂:Value→Shared→Prop}(ht:gD G n B t tm)(hb:hZ G n B body bm)(hA:dQ A n)(hsc:env.scope=B.sc)
  (H:WI G B env α s₀ tm bm (fl,ρ',σ') k s) (h0:∀s,kX G B env α s₀ fl ρ' σ' .next s→Q false s) (h1:∀s,wpAny (cK G) A (execs body env) Qb E₂ s→Q true s)
  (h2:∀m s,m<k→WI G B env α s₀ tm bm (fl,ρ',σ') m s→Qb .next s∧Qb .cont s) (h3:∀v s,kX G B env α s₀ fl ρ' σ' (.ret v) s→Qb (.ret v) s):wpAny (cK G) A (isTrue t env (eval t env)) Q E s:=by
 obtain⟨α',ρ,σ,S,R,F,e⟩:=H
 induction k using Nat.casesOn with
 |zero=>exact aN e
 |succ k=>
  cases aR7 e with
  |ret σ₁ v ρ₁ σ₂ g1 g2 e=>
   cases e
   exact ht.to hA hsc F R g1 fun s2 α2 S2 R2 F2=>h1 _ (hb.to hA hsc F2 R2 g2 fun f s4 α4 S4 R4 F4 V4=>by
     cases V4 with
     |ret hv=>exact h3 _ _ ⟨α4,(S.trans S2.own).trans S4,R4,F4,.ret hv⟩)
  |go σ₁ f₁ ρ₁ σ₂ g1 g2 hne e=>
   refine ht.to hA hsc F R g1 fun s2 α2 S2 R2 F2=>h1 _ (hb.to hA hsc F2 R2 g2 fun f s4 α4 S4 R4 F4 V4=> ?_)
   have I4:=h2 k s4 (Nat.lt_succ_self _) ⟨α4,ρ₁,σ₂,(S.trans S2.own).trans S4,R4,F4,e⟩
   cases V4 with
   |next=>exact I4.1
   |cont=>exact I4.2
   |ret hv4=>exact(hne _ rfl).elim
  |fin σ₁ g1 e=>
   cases e
   exact ht.to hA hsc F R g1 fun s2 α2 S2 R2 F2=>h0 _ ⟨α2,S.trans S2.own,R2,F2,.next⟩
theorem bB1{t:Expr}{tm:TM}{body:List Stmt}{bm:SM}{pos:Pos}(ht:gD G n B t tm)(hb:hZ G n B body bm):fA G n B (.While t body [] pos) (iS tm bm):=
 ⟨fun A env ρ α σ s fl ρ' σ' hA hsc F R e=>wpAny_While (codeAny_whileLoop (WI G B env α s tm bm (fl,ρ',σ')) (fun _ _ H=>aZ5 ht hb hA hsc H (fun _ h=>wpAny_execs_nil h) (fun _ h=>h) (fun m _ hm h=>⟨⟨m,hm,h⟩,m,hm,h⟩) fun _ _ h=>h) dC0 ⟨α,ρ,σ,.refl,R,F,e⟩)⟩
end
end
section
noncomputable def mI (out sc:Scope):Scope:=
 { sc with names:=sc.names.map fun(n,k)=>if(k== .free&&out.kind== .function&&out.names.lookup n==some .cell)then(n,.cell)else(n,k) }
theorem aJ8(sc:Scope)(env:PySem.Env):relabel sc env=mI env.scope sc:=rfl
section
variable {G:GC}{n:Nat}{B:fB}{α:List Addr}{σ:aD}{s:Shared}{A:Around}
theorem eY.less{env:PySem.Env}{ρ ρ':Env}{ns:List Str}{h:Heap}(F:eY G ns env ρ α h)(hρ:∀i v,ρ' i=some v→ρ i=some v):eY G ns env ρ' α h:=by
 obtain⟨m,hm,hs⟩:=F.loc
 exact⟨F.kind,F.glob,F.blt,F.nsN,⟨m,hm,fun i x v h1 h2 h3=>hs i x v h1 h2 (hρ i v h3)⟩,fun i x v h1 h2 h3=>F.cel i x v h1 h2 (hρ i v h3),F.off,F.celOff,F.celInj,F.celAll⟩
theorem bR4{env:PySem.Env}:∀(names:List (Str×NameKind)) (acc:List (Str×Addr)),(∀x,(x,NameKind.free)∈names→∃c,env.cells.lookup x=some c)→
  ∃cl:List (Str×Addr),(forIn names acc fun(x:Str×NameKind) (cs:List (Str×Addr))=>(if x.2== .free then(do let c ←cellOf env x.1;pure (ForInStep.yield ((x.1,c)::cs)))else pure (ForInStep.yield cs):Sem (ForInStep (List (Str×Addr)))))=pure (cl++acc)∧
   (∀x c,(x,c)∈cl→env.cells.lookup x=some c∧(x,NameKind.free)∈names)∧∀x,(x,NameKind.free)∈names→∃c,(x,c)∈cl:=by
 intro names
 induction names with
 |nil=>intro acc _;exact⟨[],rfl,nofun,nofun⟩
 |cons p names ih=>
  intro acc h
  obtain⟨x,k⟩:=p
  rw[List.forIn_cons]
  by_cases hk:k= .free
  ·subst hk
   obtain⟨c,hc⟩:=h x (.head _)
   obtain⟨cl,h1,h2,h3⟩:=ih ((x,c)::acc) fun y hy=>h y (.tail _ hy)
   refine⟨cl++[(x,c)],?_,fun y d hy=> ?_,fun y hy=> ?_⟩
   ·have e1:cellOf env x=pure c:=by unfold cellOf;rw[hc]
    simp only[beq_self_eq_true,if_true,e1,pure_bind]
    rw[h1];simp
   ·rcases List.mem_append.mp hy with hy |hy
    ·exact⟨(h2 y d hy).1,.tail _ (h2 y d hy).2⟩
    ·simp at hy;obtain⟨rfl,rfl⟩:=hy;exact⟨hc,.head _⟩
   ·rcases List.mem_cons.mp hy with hy |hy
    ·cases hy;exact⟨c,by simp⟩
    ·obtain⟨d,hd⟩:=h3 y hy;exact⟨d,List.mem_append_left _ hd⟩
  ·obtain⟨cl,h1,h2,h3⟩:=ih acc fun y hy=>h y (.tail _ hy)
   have hb:(k==NameKind.free)=false:=decide_eq_false hk
   refine⟨cl,?_,fun y d hy=>⟨(h2 y d hy).1,.tail _ (h2 y d hy).2⟩,fun y hy=> ?_⟩
   ·simp only[hb,Bool.false_eq_true,if_false,pure_bind]
    exact h1
   ·rcases List.mem_cons.mp hy with hy |hy
    ·cases hy;exact absurd rfl hk
    ·exact h3 y hy
theorem aO5{env:PySem.Env}{sc:Scope}(h:∀x,(x,NameKind.free)∈sc.names→∃c,env.cells.lookup x=some c):
  ∃cl:List (Str×Addr),closureFor sc env=pure cl∧(∀x c,(x,c)∈cl→env.cells.lookup x=some c∧(x,NameKind.free)∈sc.names)∧∀x,(x,NameKind.free)∈sc.names→∃c,(x,c)∈cl:=by
 obtain⟨cl,h1,h2,h3⟩:=bR4 sc.names [] h
 refine⟨cl,?_,h2,h3⟩
 rw[List.append_nil]at h1
 unfold closureFor
 rw[←h1]
 exact bind_pure _
theorem jX{x:Str}{c:Addr}:∀{cl:List (Str×Addr)},(x,c)∈cl→∃c',cl.lookup x=some c'∧(x,c')∈cl
 |[],h=>by cases h
 |(y,d)::cl,h=>by
  rw[List.lookup_cons]
  by_cases q:x=y
  ·subst q;exact⟨d,by simp,.head _⟩
  ·have:(x==y)=false:=decide_eq_false q
   simp only[this]
   rcases List.mem_cons.mp h with h |h
   ·cases h;exact absurd rfl q
   ·obtain⟨c',h1,h2⟩:=jX h;exact⟨c',h1,.tail _ h2⟩
theorem gA{x:Str}{c:Addr}:∀{cl:List (Str×Addr)},cl.lookup x=some c→(x,c)∈cl
 |[],h=>by exact aN h
 |(y,d)::cl,h=>by
  rw[List.lookup_cons]at h
  by_cases q:x=y
  ·subst q;simp at h;subst h;exact .head _
  ·have:(x==y)=false:=decide_eq_false q
   simp only[this]at h
   exact .tail _ (gA h)
structure pP(B:fB)(scope:Scope)(caps:List (Nat×Nat))(x:Str)(xs:Nat)(ns':List Str):Prop where
 kind:scope.kind= .function
 names:∀y∈scope.names,y.2= .local→scope.names.lookup y.1=some .local
 cell:∀y∈scope.names,y.2≠ .cell
 loc:scope.names.lookup x=some .local
 slot:ns'[xs]? =some x
 nd:ns'.Nodup
 cap:∀(i:Nat) (y:Str),ns'[i]? =some y→i≠xs→∃j,caps.lookup i=some j∧B.ns[j]? =some y∧B.sc.names.lookup y=some .cell∧(mI B.sc scope).names.lookup y=some .cell∧(y,NameKind.free)∈scope.names
 capx:caps.lookup xs=none
 free:∀y,(y,NameKind.free)∈scope.names→∃j:Nat,B.ns[j]? =some y∧B.sc.names.lookup y=some .cell
theorem bE5{scope:Scope}{caps:List (Nat×Nat)}{x:Str}{xs:Nat}{ns':List Str}{env:PySem.Env}{ρ:Env}{cl:List (Str×Addr)}{C:Addr}{m:Str→Option Value}{u:Value}{w:V}{h:Heap}(K:pP B scope caps x xs ns')(hsc:env.scope=B.sc)
  (F:eY G B.ns env ρ α h) (hcl:∀x c,(x,c)∈cl→env.cells.lookup x=some c∧(x,NameKind.free)∈scope.names) (hcl2:∀x,(x,NameKind.free)∈scope.names→∃c,(x,c)∈cl)
  (hC:C∉α∧G.h0.get? C=none) (hCc:∀b,kZ env b→b≠C) (hm:h.Ns C m) (hmx:m x=some u) (hu:RV G α h u w):
  eY G ns' (compEnvC scope cl C env) (aZ (iU caps ρ) xs w) α h:=by
 have hk:∀y,(compEnvC scope cl C env).kindOf y=(mI B.sc scope).names.lookup y:=fun y=>by unfold Env.kindOf;rw[←hsc];rfl
 have hxl:(mI B.sc scope).names.lookup x=some .local:=by
  rw[←hsc,←aJ8];exact lookup_relabel_local K.loc
 have look:∀y,(y,NameKind.free)∈scope.names→∃c,cl.lookup y=some c∧env.cells.lookup y=some c:=fun y hy=>by
  obtain⟨c,hc⟩:=hcl2 y hy
  obtain⟨c',h1,h2⟩:=jX hc
  exact⟨c',h1,(hcl y c' h2).1⟩
 refine⟨K.kind,F.glob,F.blt,K.nd,⟨m,hm,fun i y v h1 h2 h3=> ?_⟩,fun i y v h1 h2 h3=> ?_,hC,fun y c hy=> ?_,fun y z c h1 h2=> ?_,fun i y h1 h2=> ?_⟩
 ·by_cases q:i=xs
  ·subst q
   rw[K.slot]at h1;(refine cT h1 fun p=> ?_;clear h1;subst p)
   simp only[aZ,if_true]at h3;(refine cT h3 fun p=> ?_;clear h3;subst p)
   exact⟨u,hmx,hu⟩
  ·obtain⟨j,_,_,_,g,_⟩:=K.cap i y h1 q
   rw[hk,g]at h2;cases h2
 ·by_cases q:i=xs
  ·subst q
   rw[K.slot]at h1;(refine cT h1 fun p=> ?_;clear h1;subst p)
   rw[hk,hxl]at h2;cases h2
  ·obtain⟨j,g1,g2,g3,g4,g5⟩:=K.cap i y h1 q
   simp only[aZ,q,if_false,iU,g1]at h3
   obtain⟨c,u',a,b,d⟩:=F.cel j y v g2 (by unfold Env.kindOf;rw[hsc];exact g3) h3
   obtain⟨c',e1,e2⟩:=look y g5
   rw[a]at e2;(refine cT e2 fun p=> ?_;clear e2;subst p)
   exact⟨_,u',e1,b,d⟩
 ·have e1:=(hcl y c (gA hy)).1
  obtain⟨a,b,d,ov,hov⟩:=F.celOff y c e1
  exact⟨a,b,hCc c (.inr ⟨y,e1⟩),ov,hov⟩
 ·exact F.celInj y z c (hcl y c (gA h1)).1 (hcl z c (gA h2)).1
 ·have q:i≠xs:=by
   rintro rfl
   rw[K.slot]at h1;(refine cT h1 fun p=> ?_;clear h1;subst p)
   rw[hk,hxl]at h2;cases h2
  obtain⟨j,g1,g2,g3,g4,g5⟩:=K.cap i y h1 q
  obtain⟨c,e1,_⟩:=look y g5
  exact⟨c,e1⟩
inductive cG2 (em:EM) (ρ:Env) (x:Nat) (src:Sr) (all:List V) (w:V) (r:List V) (σ:aD) (t:List V×aD):Prop
 |mk (y:V) (σ₁:aD) (ys:List V) (σ':aD) (h:em (aZ ρ x w) σ=some (y,σ₁)) (hs:eS σ₁ src all=true) (hr:jR em ρ x src all r σ₁=some (ys,σ')) (e:t=(y::ys,σ'))
theorem bE6{em:EM}{ρ:Env}{x:Nat}{src:Sr}{all:List V}{w:V}{r:List V}{t:List V×aD}(e:jR em ρ x src all (w::r) σ=some t):cG2 em ρ x src all w r σ t:=by
 unfold jR at e
 split at e
 ·split at e
  ·split at e
   ·exact .mk _ _ _ _ (by assumption) (by assumption) (by assumption) (Option.some.inj e).symm
   ·exact aN e
  ·exact aN e
 ·exact aN e
theorem cA4{env:PySem.Env}(h:env.scope.kind= .function):(env.scope.kind== .class||(env.scope.kind== .module&&env.locals !=env.globals))=false:=by rw[h];rfl
inductive yT (G:GC) (B:fB) (env:PySem.Env) (ρ:Env) (α:List Addr) (s:Shared) (σ':aD) (ys:List V) (D C:Addr) (s₂:Shared):Prop
 |mk (α':List Addr) (m:Str→Option Value) (D0:G.h0.get? D=none) (big:sysModules<D) (Ds:s.heap.get? D=none) (CD:C≠D) (Cs:s.heap.get? C=none) (C0:G.h0.get? C=none) (Co:¬kZ env C) (S:bX eB α α' s s₂) (R:bZ G α' σ' s₂.heap) (F:eY G B.ns env ρ α' s₂.heap) (Dα:D∉α') (Cα:C∉α')
  (lst:i8 G α' s₂.heap D (.list ys)) (ns:s₂.heap.Ns C m)
theorem nn{β:Type}{o:Option β}{x:β}(h:o=none)(e:o=some x):False:=nomatch h.symm.trans e
structure CF(d:LD)(C D:Addr):Prop where
 oC:Off d C
 oD:Off d D
 CD:C≠D
 IC:d.I≠C
 ID:d.I≠D
 big:sysModules<D
 O:d.Ok
 W:d.W=eB
structure CX(G:GC)(C D:Addr)(α:List Addr)(s:Shared)(ys:List V):Prop where
 nC:C∉α
 nD:D∉α
 lst:i8 G α s.heap D (.list ys)
 ns:∃m,s.heap.Ns C m
inductive CI (d:LD) (C D:Addr) (em:EM) (ρ ρc:Env) (x:Nat) (ys:List V) (σ':aD) (k:Nat) (s:Shared):Prop
 |mk (p r:List V) (α:List Addr) (σ:aD) (ys₁ zs:List V) (hp:d.all=p++r) (hk:k=r.length) (H:LS d p.length α ρ σ s) (X:CX d.G C D α s ys₁) (hl:ys₁.length=p.length) (hy:ys=ys₁++zs) (e:jR em ρc x d.src d.all r σ=some (zs,σ'))
structure CE(d:LD)(scope:Scope)(caps:List (Nat×Nat))(x:Str)(xs:Nat)(ns':List Str)(elt:Expr)(em:EM)(cl:List (Str×Addr)):Prop where
 K:pP d.B scope caps x xs ns'
 he:aY d.G d.n ⟨mI d.B.sc scope,ns'⟩ elt em
 cl1:∀x c,(x,c)∈cl→d.env.cells.lookup x=some c∧(x,NameKind.free)∈scope.names
 cl2:∀x,(x,NameKind.free)∈scope.names→∃c,(x,c)∈cl
 hz:d.all.length≤1000
theorem bR1{d:LD}{scope:Scope}{caps:List (Nat×Nat)}{x:Str}{xs:Nat}{ns':List Str}{elt:Expr}{em:EM}{cl:List (Str×Addr)}{px:Pos}{C D:Addr}{ρ:Env}{ys:List V}{σ':aD}{k:Nat}{s:Shared}{Q:Option Value→Shared→Prop}{E E₁ E₂ E₃:Value→Shared→Prop}
  (c:CF d C D) (Z:CE d scope caps x xs ns' elt em cl) (H:CI d C D em ρ (iU caps ρ) xs ys σ' k s) (h0:∀s,yT d.G d.B d.env ρ d.α d.s σ' ys D C s→Q none s)
  (h1:∀v s,wpAny (cK d.G) d.A (assign (.Name x px) (compEnvC scope cl C d.env) v) (fun _ s=>wpAny (cK d.G) d.A (eval elt (compEnvC scope cl C d.env)) (fun y s=>wpAny (cK d.G) d.A (call (.builtin "list.append") [.ref D,y]) (fun _ s=>∃m,m<k∧CI d C D em ρ (iU caps ρ) xs ys σ' m s) E₃ s) E₂ s) E₁ s→Q (some v) s):
  wpAny (cK d.G) d.A (pyNext (.ref d.I)) Q E s:=by
 obtain⟨p,r,α,σ,ys₁,zs,hp,rfl,H,X,hl,hy,e⟩:=H
 obtain⟨m,hC⟩:=X.ns
 induction r using List.casesOn with
 |nil=>
  (refine dN e fun p q=> ?_;clear e;subst p q)
  rw[List.append_nil]at hp hy
  exact LS.done c.O (hp▸H) fun h' t S R F b L=>h0 _ ⟨_,_,c.oD.z,c.big,c.oD.s,c.CD,c.oC.s,c.oC.z,c.oC.o,c.W▸S,R,F,X.nD,X.nC,hy▸X.lst.later L (b D · (Ne.symm c.ID)),l5 (b C · (Ne.symm c.IC)) hC⟩
 |cons w r=>
  obtain⟨y,σ₁,ys₂,σ₂,hm,hs,hr,e⟩:=bE6 e
  cases e
  refine H.item c.O (hp▸zC) fun v h' t hv H2 b L=>h1 _ _ (wpAny_assign_Name ?_)
  have hC2:=l5 (b C · (Ne.symm c.IC)) hC
  refine wpAny_storeName_local (lookup_relabel_local Z.K.loc) hC2 (fun h3 hC3 hsb=> ?_) (cA4 Z.K.kind)
  have b3:oB C h' h3:=fun b o hb e=>(hsb.2 b hb).trans e
  have H3:=H2.but (t:=t+1) c.O b3 c.oC X.nC (nQ hC2) (c.O.L.same _ _ _ H2.it fun o q=>b3 _ o c.IC q)
  have L3:eW d.G α α h' h3:=b3.later (nQ hC2)
  refine Z.he.to c.O.A (by show relabel scope d.env=_;rw[aJ8,c.O.sc]) (bE5 Z.K c.O.sc H3.F Z.cl1 Z.cl2 ⟨X.nC,c.oC.z⟩ (fun b hb e=>c.oC.o (e▸hb)) hC3 (by simp) (hv.later L3)) H3.R hm fun u s4 α4 S4 R4 _ V4=> ?_
  have H4:=H3.go c.O (c.W.symm▸S4) R4 (H3.F.stp0 S4) (.inr hs)
  obtain⟨its,k',hD4,hv4⟩:=((X.lst.later L (b D · (Ne.symm c.ID))).later L3 (b3 D · (Ne.symm c.CD))).later S4.later fun o q=>S4.keep D o q X.nD fun h=>h
  obtain⟨_,_,_,hoC,_⟩:=id hC3
  have hC4:=l5 (fun o q=>S4.keep C o q X.nC fun h=>h) hC3
  have hCα:=S4.off X.nC hoC
  obtain⟨_,_,hD3,_⟩:=(X.lst.later L (b D · (Ne.symm c.ID))).later L3 (b3 D · (Ne.symm c.CD))
  have hDα:=S4.off X.nD hD3
  have hz:=Z.hz
  have hlen:=hv4.length
  refine append_at hD4 (fun h5 hs5 hD5=> ?_) (by
   rw[sizeLine_eq]
   rw[hp,List.length_append,List.length_cons]at hz
   simp only[Array.length_toList]at hlen
   exact d0 (Nat.le_trans (Nat.le_trans (Nat.le_of_eq hlen) (Nat.le_of_eq hl)) (kD hz)) rfl)
  have b5:oB D s4.heap h5:=fun b o hb e=>(hs5.2 b hb).trans e
  have nt:∀o,s4.heap.get? D=some o→¬iJ o:=fun o q=>let⟨_,h,n⟩:=i8.get (G:=d.G) (α:=α4) (o:= .list (ys₁)) ⟨_,_,hD4,hv4⟩;Option.some.inj (h.symm.trans q)▸n
  have L5:eW d.G α4 α4 s4.heap h5:=b5.later nt
  exact⟨_,Nat.lt_succ_self _,p++[w],r,α4,σ₁,ys₁++[y],ys₂,hp.trans v7,rfl,(List.length_append (as:=p)).symm▸H4.but (t:=s4.toks) c.O b5 c.oD hDα nt (c.O.L.same _ _ _ H4.it fun o q=>b5 _ o c.ID q),
   ⟨hCα,hDα,⟨_,_,hD5,by rw[Array.toList_push];exact(hv4.later L5).snoc (V4.later L5)⟩,_,l5 (b5 C · c.CD) hC4⟩,by rw[List.length_append,List.length_append,hl];rfl,hy.trans v7,hr⟩
theorem bR2{d:LD}{scope:Scope}{caps:List (Nat×Nat)}{x:Str}{xs:Nat}{ns':List Str}{elt iter:Expr}{em:EM}{cl:List (Str×Addr)}{px pos:Pos}{ρ:Env}{α₁:List Addr}{σ₁:aD}{s₁:Shared}{ys:List V}{σ':aD}
  (O:d.Ok) (W:d.W=eB) (Z:CE d scope caps x xs ns' elt em cl) (H:LS d 0 α₁ ρ σ₁ s₁) (e:jR em (iU caps ρ) xs d.src d.all d.all σ₁=some (ys,σ')) (ht:∀v,letOwnedTupleGo (.Name x px) (.ref d.I) v=pure ())
  {P:Value→Addr→Result→Shared→Prop} (hP:∀D C r s₂,yT d.G d.B d.env ρ d.α d.s σ' ys D C s₂→P (.ref D) C (.ok r) s₂):
  wpAny (cK d.G) d.A (newList []) (fun acc s₃=>wpAny (cK d.G) d.A (newFunctionEnv scope d.env.globals cl [] d.env.qual none .none (some d.env)) (fun cenv s₄=>
   codeAny (cK d.G) d.A (.compStart (.ListComp elt [⟨.Name x px,iter,[],0⟩] scope pos) 0 (.ref d.I) acc { cenv with scope:=relabel scope d.env }) (P acc cenv.locals) s₄) fE s₃) fE s₁:=by
 refine wpAny_newObj_type (wpAny_newFunctionEnv Z.K.cell (by intro y hy;exact absurd hy List.not_mem_nil) (fun h₁ hns hsb=> ?_) Z.K.kind)
 have free:s₁.heap.get? s₁.heap.objs.size=none:=Heap.get?_none_of_le (Nat.le_refl _)
 have hD2:(s₁.heap.push { cls:= .type "list",dict:=none,data:= .seq ([]:List Value).toArray }).get? s₁.heap.objs.size=some (listOf #[] 0):=Heap.get?_push_size _ rfl
 have k2:∀b o,s₁.heap.get? b=some o→(s₁.heap.push { cls:= .type "list",dict:=none,data:= .seq ([]:List Value).toArray }).get? b=some o:=fun b o e=>Heap.get?_push_of_some _ e
 have big:=H.R.big
 dsimp only at hns hsb⊢
 generalize s₁.heap.push { cls:= .type "list",dict:=none,data:= .seq ([]:List Value).toArray }=H2 at hns hsb hD2 k2⊢
 have hCf:H2.get? H2.objs.size=none:=Heap.get?_none_of_le (Nat.le_refl _)
 generalize s₁.heap.objs.size=D at free hD2 big⊢
 generalize H2.objs.size=C at hCf hns hsb⊢
 have ne:∀{b o},s₁.heap.get? b=some o→b≠C:=fun q e=>nn hCf (k2 _ _ (e▸q))
 have hC1:s₁.heap.get? C=none:=by
  induction q:s₁.heap.get? C using Option.casesOn with
  |none=>rfl
  |some o=>exact absurd rfl (ne q)
 have hDC:D≠C:=fun e=>nn hCf (e▸hD2)
 have k1:∀b o,b≠C→H2.get? b=some o→h₁.get? b=some o:=fun b o hb e=>(hsb.2 b hb).trans (Heap.get?_push_of_some _ e)
 have old:∀b o,s₁.heap.get? b=some o→h₁.get? b=some o:=fun b o e=>k1 b o (ne e) (k2 b o e)
 obtain⟨_,hoI,_⟩:=O.L.has _ _ H.it
 have c:CF d C D:=⟨⟨H.S.dead hC1,(H.R.free hC1).2,qD H.F hC1⟩,⟨H.S.dead free,(H.R.free free).2,qD H.F free⟩,Ne.symm hDC,ne hoI,fun e=>nn free (e▸hoI),big,O,W⟩
 have X:∀t,codeAny (cK d.G) d.A (.compLoop (.ListComp elt [⟨.Name x px,iter,[],0⟩] scope pos) 0 (.ref d.I) (.ref D) (compEnvC scope cl C d.env)) (P (.ref D) C) { s₁ with heap:=h₁,toks:=t }:=fun t=>
  codeAny_compLoop_list (CI d C D em ρ (iU caps ρ) xs ys σ') (fun _ _ H=>bR1 c Z H (fun s h=>hP _ _ _ _ h) fun _ _ h=>h) d.all.length
   ⟨[],_,_,_,[],_,rfl,rfl,H.go O (bX.grown old) (H.R.grown old) (H.F.stp0 (bX.grown (t:=t) old)) (.inl rfl),⟨(H.R.free hC1).1,(H.R.free free).1,⟨_,_,k1 D _ hDC hD2,.nil⟩,_,hns⟩,rfl,rfl,e⟩ ht
 exact codeAny_compStart_list (X _) (O.L.self 0 _ _ _ (O.L.same _ _ _ H.it (old _)) (X _))
theorem yT.post{env:PySem.Env}{ρ:Env}{σ':aD}{ys:List V}{D C:Addr}{s₂:Shared}{r:Flow}(H:yT G B env ρ α s σ' ys D C s₂):compPost (cK G) A fE none (dZ G eB α s (σ'++[.list ys]) (.ref σ'.length)) (.ref D) C (.ok r) s₂:=by
 obtain⟨α',m,hD0,hDbig,hDs,hCD,hCs,hC0,hCo,S2,R2,F2,hDα',hCα',lst,hC2⟩:=H
 refine⟨m,hC2,fun h'' hs''=> ?_⟩
 have b3:oB C s₂.heap h'':=fun b o hb e=>(hs''.2 b hb).trans e
 have ntC:=nQ hC2
 exact uI (S2.but hCs b3 (t:=s₂.toks)) (R2.but b3 hCα' hC0 ntC) hDα' hDs hD0 hDbig (lst.later (b3.later ntC) (b3 D · (Ne.symm hCD)))
theorem bQ5{caps:List (Nat×Nat)}{x:Nat}{src elt:EM}{ρ:Env}{y:V}{σ':aD}{P:Prop}(e:gX caps x src elt ρ σ=some (y,σ'))(k:∀sv σ₁ sr l ys σ₂,src ρ σ=some (sv,σ₁)→fS sv σ₁=some (sr,l)→l.length≤1000→jR elt (iU caps ρ) x sr l l σ₁=some (ys,σ₂)→y= .ref σ₂.length→σ'=σ₂++[.list ys]→P):P:=by
 unfold gX at e
 split at e
 ·split at e
  ·split at e
   ·split at e
    ·(refine dN e fun p q=> ?_;clear e;subst p q)
     exact k _ _ _ _ _ _ (by assumption) (by assumption) (by assumption) (by assumption) rfl rfl
    ·exact aN e
   ·exact aN e
  ·exact aN e
 ·exact aN e
theorem aO4{elt iter:Expr}{em src:EM}{x:Str}{px pos p₀:Pos}{scope:Scope}{caps:List (Nat×Nat)}{xs:Nat}{ns':List Str}(K:pP B scope caps x xs ns')(hi:aY G n B iter src)(he:aY G n ⟨mI B.sc scope,ns'⟩ elt em)
  (ht:∀I v,letOwnedTupleGo (.Name x px) (.ref I) v=pure ()) (hf:∀env y,foldedSetIterable iter env y=pure y) {env:PySem.Env} {ρ:Env} {y:V} {σ':aD} {use:Option (Value→Sem Unit)} {Q:Value→Shared→Prop}
  (hA:dQ A n) (hsc:env.scope=B.sc) (F:eY G B.ns env ρ α s.heap) (R:bZ G α σ s.heap) (e:gX caps xs src em ρ σ=some (y,σ'))
  (hQ:∀D C r s₂ σ₂ ys,y= .ref σ₂.length→σ'=σ₂++[.list ys]→yT G B env ρ α s σ₂ ys D C s₂→compPost (cK G) A fE use Q (.ref D) C (.ok r) s₂):
  wpAny (cK G) A (comprehension (.ListComp elt [⟨.Name x px,iter,[],0⟩] scope pos) scope env p₀ (newList []) false (eval iter env) use) Q fE s:=
 bQ5 e fun sv σ₁ sr l ys σ₂ h1 h2 hz hc hy hs=>
  let⟨_,hcl0,hcl1,hcl2⟩:=aO5 fun x hx=>let⟨j,g1,g2⟩:=K.free x hx;F.celAll j x g1 (by unfold Env.kindOf;rw[hsc];exact g2)
  wpAny_comprehension_free rfl (hf env) hcl0 K.kind K.names (hi.to hA hsc F R h1 fun u s₁ α₁ S₁ R₁ F₁ V₁=>bO4 hA.handled R₁ V₁ h2 fun I s₂ ok It L hI S₂ R₂ hok hit=>
   bR2 (d:=⟨G,n,B,A,env,eB,α,s,I,sr,l,ok,It⟩) ⟨hA,hsc,L,⟨S₁.dead hI,(R₁.free hI).2,qD F₁ hI⟩,fun _ h=>h.elim⟩ rfl ⟨K,he,hcl1,hcl2,hz⟩ ⟨hit,S₁.trans S₂,R₂,F₁.stp0 S₂,(R₁.free hI).1,hok⟩ hc (ht I) fun D C r s₂ H=>hQ D C r s₂ _ _ hy hs H)
theorem bX0{elt iter:Expr}{em src:EM}{x:Str}{px pos:Pos}{scope:Scope}{caps:List (Nat×Nat)}{xs:Nat}{ns':List Str}(K:pP B scope caps x xs ns')(hi:aY G n B iter src)(he:aY G n ⟨mI B.sc scope,ns'⟩ elt em)
  (ht:∀I v,letOwnedTupleGo (.Name x px) (.ref I) v=pure ()) (hf:∀env y,foldedSetIterable iter env y=pure y):
  aY G n B (.ListComp elt [⟨.Name x px,iter,[],0⟩] scope pos) (gX caps xs src em):=by
 refine⟨fun A env ρ α σ s y σ' hA hsc F R e=> ?_⟩
 rw[eval_ListComp]
 exact aO4 K hi he ht hf hA hsc F R e fun D C r s₂ σ₂ ys h1 h2 H=>by subst h1 h2;exact H.post
set_option tactic.hygienic true in
theorem aH7{elt iter:Expr}{em src:EM}{x z:Str}{px pos pz spos:Pos}{scope:Scope}{caps:List (Nat×Nat)}{xs i:Nat}{ns':List Str}(K:pP B scope caps x xs ns')(hi:aY G n B iter src)(he:aY G n ⟨mI B.sc scope,ns'⟩ elt em)
  (hn:B.ns[i]? =some z) (hk:B.sc.names.lookup z=some .local) (hkind:B.sc.kind= .function) (hl1:pos.line=spos.line) (hl2:pz.line=spos.line) (hno:(scope.names.any fun p=>p.1==z&&(p.2== .local||p.2== .cell))=false)
  (ht:∀I v,letOwnedTupleGo (.Name x px) (.ref I) v=pure ()) (hf:∀env y,foldedSetIterable iter env y=pure y):
  fA G n B (.Assign [.Name z pz] (.ListComp elt [⟨.Name x px,iter,[],0⟩] scope pos) spos) (aV i (gX caps xs src em)):=by
 refine⟨fun A env ρ α σ s fl ρ' σ' hA hsc F R e'=> ?_⟩
 unfold aV at e'
 split at e'
 ·rename_i v σ₁ h1
  (refine qY e' fun p q r=> ?_;clear e';subst p q r)
  have hk':env.kindOf z=some .local:=by unfold Env.kindOf;rw[hsc];exact hk
  have hsw:swapsWith (.ListComp elt [⟨.Name x px,iter,[],0⟩] scope pos) (some (.Name z pz)) spos.line env=pure true:=by
   show(pure _:Sem Bool)=_
   have e1:(env.blockKind==ScopeKind.function)=true:=by
    unfold Env.blockKind;rw[hsc,hkind];rfl
   have e2:(pz.line==(Expr.ListComp elt [⟨.Name x px,iter,[],0⟩] scope pos).pos.line)=true:=by
    show(pz.line==pos.line)=true
    rw[hl1,hl2];simp
   rw[hk',e1,e2]
   simp only[hno]
   rfl
  rw[exec_Assign_Name_used _ _ _ _ hsw]
  refine wpAny_bind (wpAny_standAt (wpAny_bind ?_))
  show wpAny _ A (do let _ ←comprehension (.ListComp elt [⟨.Name x px,iter,[],0⟩] scope pos) scope env _ (newList []) false (eval iter env) (some (assign (.Name z pz) env))) _ _ s
  refine wpAny_bind (wpAny_mono (aO4 (use:=some (assign (.Name z pz) env)) (Q:=fun _ s'=>kX G B env α s .next (aZ ρ i v) _ .next s') K hi he ht hf hA hsc F R h1 fun D C r s₂ σ₂ ys h1 h2 H=> ?_) (fun _ s' hq=>wpAny_pure (wpAny_pure hq)) fun _ _ e=>e)
  subst h1 h2
  obtain⟨α',m,hD0,hDbig,hDs,hCD,hCs,hC0,hCo,S2,R2,F2,hDα',hCα',lst,hC2⟩:=H
  have S3:=S2.new hDs
  have hCn:C∉α'++[D]:=fun q=>(List.mem_append.mp q).elim hCα' fun q=>hCD (List.mem_singleton.mp q)
  refine wpAny_assign_Name (rG (F.stp0 S3) (R2.new hDα' hD0 hDbig lst) hn (.inl hk') (.ref (pF R2.len)) fun s' S' R' F'=> ?_)
  have hC3:s'.heap.Ns C m:=l5 (fun o q=>S'.keep C o q hCn hCo) hC2
  refine⟨m,hC3,fun h'' hs''=> ?_⟩
  have b3:oB C s'.heap h'':=fun b o hb e=>(hs''.2 b hb).trans e
  have ntC:=nQ hC3
  exact⟨α'++[D],(S3.own.trans S').but hCs b3 (t:=s'.toks),R'.but b3 hCn hC0 ntC,F'.but b3 hCo ntC,.next⟩
 ·exact aN e'
end
end
section
section
variable {G:GC}{n:Nat}{B:fB}{α:List Addr}{σ:aD}{s:Shared}{A:Around}
theorem bR8{kindOf:Str→Option NameKind}:∀(ns:List Str) (vs:List Value) (m:Str→Option Value) (i:Nat) (x:Str) (u:Value),ns.Nodup→ns[i]? =some x→vs[i]? =some u→kindOf x=some .local→bindL kindOf (ns.zip vs) m x=some u:=by
 intro ns
 induction ns with
 |nil=>intro vs m i x u _ h;exact aN h
 |cons y ns ih=>
  intro vs m i x u nd h1 h2 hk
  induction vs using List.casesOn with
  |nil=>exact aN h2
  |cons v vs=>
   rw[List.zip_cons_cons,bindL]
   rw[List.nodup_cons]at nd
   induction i using Nat.casesOn with
   |succ i=>exact ih vs _ i x u nd.2 (by simpa using h1) (by simpa using h2) hk
   |zero=>
    simp at h1 h2
    subst h1 h2
    rw[hk]
    simp only[if_true]
    have:∀(ns:List Str) (vs:List Value) (m:Str→Option Value),y∉ns→bindL kindOf (ns.zip vs) m y=m y:=by
     intro ns
     induction ns with
     |nil=>intro vs m _;rfl
     |cons z ns ih2=>
      intro vs m hz
      induction vs using List.casesOn with
      |nil=>rfl
      |cons v vs=>
       rw[List.zip_cons_cons,bindL,ih2 vs _ fun q=>hz (.tail _ q)]
       have hne:y≠z:=fun e=>hz (e▸ .head _)
       split
       ·exact if_neg (by assumption)
       ·rfl
    rw[this ns vs _ nd.1]
    simp
theorem bR9{kindOf:Str→Option NameKind}:∀(ns:List Str) (vs:List Value) (m:Str→Option Value) (i:Nat) (x:Str) (u:Value),ns.Nodup→ns[i]? =some x→vs[i]? =some u→kindOf x=some .cell→bindC kindOf (ns.zip vs) m x=some u:=by
 intro ns
 induction ns with
 |nil=>intro vs m i x u _ h;exact aN h
 |cons y ns ih=>
  intro vs m i x u nd h1 h2 hk
  induction vs using List.casesOn with
  |nil=>exact aN h2
  |cons v vs=>
   rw[List.zip_cons_cons,bindC]
   rw[List.nodup_cons]at nd
   induction i using Nat.casesOn with
   |succ i=>exact ih vs _ i x u nd.2 (by simpa using h1) (by simpa using h2) hk
   |zero=>
    simp at h1 h2
    subst h1 h2
    rw[hk]
    simp only[Option.some.injEq,reduceCtorEq,if_false]
    have:∀(ns:List Str) (vs:List Value) (m:Str→Option Value),y∉ns→bindC kindOf (ns.zip vs) m y=m y:=by
     intro ns
     induction ns with
     |nil=>intro vs m _;rfl
     |cons z ns ih2=>
      intro vs m hz
      induction vs using List.casesOn with
      |nil=>rfl
      |cons v vs=>
       rw[List.zip_cons_cons,bindC,ih2 vs _ fun q=>hz (.tail _ q)]
       have hne:y≠z:=fun e=>hz (e▸ .head _)
       split
       ·rfl
       ·exact if_neg (by assumption)
    rw[this ns vs _ nd.1]
    simp
theorem bT1{cs:List (Str×Addr)}(h:cs.Pairwise fun x y=>x.2≠y.2){x y:Str}{c:Addr}(h1:cs.lookup x=some c)(h2:cs.lookup y=some c):x=y:=by
 have m1:=gA h1
 have m2:=gA h2
 by_cases q:x=y
 ·exact q
 ·exfalso
  obtain⟨i,hi,ei⟩:=List.mem_iff_getElem.mp m1
  obtain⟨j,hj,ej⟩:=List.mem_iff_getElem.mp m2
  have hij:i≠j:=by rintro rfl;rw[ei]at ej;cases ej;exact q rfl
  rcases Nat.lt_or_gt_of_ne hij with hlt |hgt
  ·have:=List.pairwise_iff_getElem.mp h i j hi hj hlt
   rw[ei,ej]at this;exact this rfl
  ·have:=List.pairwise_iff_getElem.mp h j i hj hi hgt
   rw[ei,ej]at this;exact this rfl
set_option tactic.hygienic true in
theorem sK:∀(names:List (Str×NameKind)) (k:Nat) (acc:List (Str×Addr)) (x:Str),((x,NameKind.cell)∈names∨∃c,(x,c)∈acc)→∃c,(x,c)∈cellsFrom k names acc:=by
 intro names
 induction names with
 |nil=>
  intro k acc x h
  rcases h with h |h
  ·cases h
  ·exact h
 |cons p names ih=>
  intro k acc x h
  obtain⟨y,kd⟩:=p
  unfold cellsFrom
  split
  ·rename_i hk
   refine ih _ _ x ?_
   rcases h with h |⟨c,hc⟩
   ·rcases List.mem_cons.mp h with h |h
    ·cases h;exact .inr ⟨k,.head _⟩
    ·exact .inl h
   ·exact .inr ⟨c,.tail _ hc⟩
  ·rename_i hk
   refine ih _ _ x ?_
   rcases h with h |h
   ·rcases List.mem_cons.mp h with h |h
    ·cases h;exact absurd rfl hk
    ·exact .inl h
   ·exact .inr h
theorem wF{names:List (Str×NameKind)}{x:Str}{k:NameKind}(h:names.lookup x=some k):(x,k)∈names:=by
 induction names with
 |nil=>exact aN h
 |cons p names ih=>
  obtain⟨y,kd⟩:=p
  rw[List.lookup_cons]at h
  by_cases q:x=y
  ·subst q;simp at h;subst h;exact .head _
  ·have:(x==y)=false:=decide_eq_false q
   simp only[this]at h
   exact .tail _ (ih h)
structure cL2(G:GC)(B:fB)(a:Addr)(np:Nat)(body:List Stmt):Prop where
 at_:∃oc od osl fd,G.K.lookup a=some ⟨oc,od,.func fd,osl⟩∧fd.body= .stmts body∧codeIn G.K fd.code fd.qualname=true∧fd.closure=[]∧fd.globals=mainGlobals∧fd.builtins=builtinsNs∧fd.scope=B.sc∧
  ∀vs:List Value,vs.length=np→bindArgs fd ⟨vs,[]⟩=pure ((B.ns.take np).zip vs)
 kind:B.sc.kind= .function
 co:B.sc.isCoroutine=false
 gen:B.sc.isGenerator=false
 nd:B.ns.Nodup
 np:np≤B.ns.length
 names:∀x∈B.ns,B.sc.names.lookup x=some .local∨B.sc.names.lookup x=some .cell
theorem dQ.deeper{env:PySem.Env}(h:dQ A (n+1)):dQ (A.deeper env) n:=
 ⟨by show A.depth+1+n+2≤1000;have:=h.depth;exact nR1 this,by show A.units+3+8*n+1000≤9900;have:=h.units;omega,h.handled⟩
noncomputable def lY (G:GC) (n:Nat) (a:Addr) (f:FM):Prop:=
 ∀(A:Around) (α:List Addr) (σ:aD) (s:Shared) (vs:List Value) (l:List V) (x:V) (σ':aD),dQ A n→bZ G α σ s.heap→b8 G α s.heap vs l→f l σ=some (x,σ')→
  codeAny (cK G) A (.call (.ref a) ⟨vs,[]⟩) (fun r s'=>match r with | .ok (.ret v)=>dZ G eB α s σ' x v s' | .ok _=>False | .error e=>fE e s') s
theorem lY.simF{a:Addr}{f:FM}(h:lY G n a f):rA G n a f:=fun A α σ s vs l x σ' hA R HV e=>wpAny_call (h A α σ s vs l x σ' hA R HV e)
theorem cO7(O:G.Ok){a:Addr}{np:Nat}{body:List Stmt}{bm:SM}(K:cL2 G B a np body)(hb:hZ G n B body bm):lY G (n+1) a (mkF np bm):=by
 intro A α σ s vs l x σ' hA R HV e
 obtain⟨hlen,fl,ρ',hbm,hfl⟩:=aX6 e
 ·have hvl:=HV.length
  obtain⟨oc,od,osl,fd,hl,hbody,hcode,hclo,hglob,hblt,hsc,hbind⟩:=K.at_
  have X:=R.kin O
  have hlim:s.heap.NoLimit:=by obtain⟨mc,h1,h2⟩:=G.lim;exact⟨mc,h1.keeps R.base,h2⟩
  refine codeAny_call_cells hA.lt (X _ _ hl) rfl hlim (codeRec_of X hcode) hbody (hbind vs (Eq.trans hvl hlen)) hclo ?_ ?_ (by rw[hsc];exact K.co) (by rw[hsc];exact K.gen) (by rw[hsc];exact K.kind)
  ·intro p hp
   have hm:p.1∈B.ns:=List.mem_of_mem_take (List.of_mem_zip hp).1
   rcases K.names _ hm with h |h
   ·exact .inl (by rw[hsc];exact h)
   ·refine .inr ⟨by rw[hsc];exact h,?_⟩
    obtain⟨c,hc⟩:=sK fd.scope.names (s.heap.objs.size+1) [] p.1 (.inl (wF (by rw[hsc];exact h)))
    obtain⟨c',hc',_⟩:=jX hc
    rw[hc'];rfl
  ·intro s₁ IC
   generalize henv:callEnvC fd s.heap.objs.size a=env at IC⊢
   have eloc:env.locals=s.heap.objs.size:=by rw[←henv];rfl
   have escope:env.scope=B.sc:=by rw[←henv,←hsc];rfl
   have eglob:env.globals=mainGlobals:=by rw[←henv,←hglob];rfl
   have eblt:env.builtins=builtinsNs:=by rw[←henv,←hblt];rfl
   have ecells:env.cells=cellsFrom (s.heap.objs.size+1) fd.scope.names []:=by rw[←henv];rfl
   have hk:∀y,env.kindOf y=B.sc.names.lookup y:=fun y=>by unfold Env.kindOf;rw[escope]
   obtain⟨h',tk,hs1,hkeep⟩:=IC.done
   subst hs1
   have S₁:bX eB α α s { s with heap:=h',toks:=tk }:=bX.grown hkeep
   have R₁:bZ G α σ h':=R.grown hkeep
   have V₁:=HV.later S₁.later
   have fresh:∀b,s.heap.objs.size≤b→s.heap.get? b=none:=fun b hb=>Heap.get?_none_of_le hb
   have hL:=fresh s.heap.objs.size (Nat.le_refl _)
   have hC:∀y c,env.cells.lookup y=some c→s.heap.get? c=none:=fun y c hc=>fresh c (by
    have:=IC.above y c (gA hc)
    rw[eloc]at this
    exact Nat.le_of_lt this)
   have hzip:∀(i:Nat) (y:Str) (v:V),B.ns[i]? =some y→l[i]? =some v→∃u,(B.ns.take np)[i]? =some y∧vs[i]? =some u∧RV G α h' u v:=fun i y v h1 h2=>by
    obtain⟨u,hu,hr⟩:=(V₁.get i).1 v h2
    have hi:i<np:=by have:=(List.getElem?_eq_some_iff.mp h2).1;exact aF5 this hlen
    exact⟨u,by rw[List.getElem?_take,if_pos hi];exact h1,hu,hr⟩
   have ndt:(B.ns.take np).Nodup:=K.nd.sublist (List.take_sublist _ _)
   have F₁:eY G B.ns env (fun i=>l[i]?) α h':=by
    refine⟨by rw[escope];exact K.kind,eglob,eblt,K.nd,⟨_,IC.toInCall.ns,fun i y v h1 h2 h3=> ?_⟩,fun i y v h1 h2 h3=> ?_,by rw[eloc];exact R.free hL,fun y c hc=> ?_,fun y z c h1 h2=>bT1 IC.apart h1 h2,fun i y h1 h2=> ?_⟩
    ·obtain⟨u,g1,g2,g3⟩:=hzip i y v h1 h3
     exact⟨u,bR8 _ _ _ i y u ndt g1 g2 h2,g3⟩
    ·obtain⟨u,g1,g2,g3⟩:=hzip i y v h1 h3
     have hmem:=wF (show B.sc.names.lookup y=some .cell from(hk y)▸h2)
     obtain⟨c,hc⟩:=sK fd.scope.names (s.heap.objs.size+1) [] y (.inl (by rw[hsc];exact hmem))
     obtain⟨c',hc',_⟩:=jX hc
     rw[←ecells]at hc'
     refine⟨c',u,hc',?_,g3⟩
     have:=IC.cell y c' hc'
     rw[bR9 _ _ _ i y u ndt g1 g2 h2]at this
     exact this
    ·obtain⟨g1,g2⟩:=R.free (hC y c hc)
     refine⟨g1,g2,?_,_,IC.cell y c hc⟩
     have:=IC.above y c (gA hc)
     exact Nat.ne_of_gt this
    ·have hmem:=wF (show B.sc.names.lookup y=some .cell from(hk y)▸h2)
     obtain⟨c,hc⟩:=sK fd.scope.names (s.heap.objs.size+1) [] y (.inl (by rw[hsc];exact hmem))
     obtain⟨c',hc',_⟩:=jX hc
     exact⟨c',by rw[ecells];exact hc'⟩
   refine c9 (hb.run (A.deeper env) env _ α σ { s with heap:=h',toks:=tk } fl ρ' σ' hA.deeper escope F₁ R₁ hbm) ?_
   rintro f s' ⟨α',S',R',F',V'⟩
   have S2:bX eB α α' s s':=S₁.trans' S' fun b o hw he=>by
    rcases hw with rfl |⟨y,hy⟩
    ·rw[eloc,hL]at he;exact aN he
    ·rw[hC y b hy]at he;exact aN he
   rcases hfl with rfl |⟨rfl,rfl⟩
   ·cases V' with
    |ret hv=>exact⟨α',S2,R',hv⟩
   ·cases V'
    exact⟨α',S2,R',.none⟩
structure cG0(G:GC)(c:CN)(nm:Str)(aI:Addr):Prop where
 mg:G.mg nm=some (.ref (G.cls c))
 makes:makesIn G.K (G.cls c)=true
 keep:keepIn G.K (.ref (G.cls c))=true
 init:findIn G.K (.ref (G.cls c)) "__init__"=some (some (.ref aI))
 fn:typeIn G.K (.ref aI)=some (.type "function")
theorem dQ.under{C:Addr}{vs:List Value}(h:dQ A (n+1)):dQ (A.under (.builtin "type.__call__" ⟨.ref C::vs,[]⟩)) n:=
 ⟨by show A.depth+1+n+2≤1000;have:=h.depth;exact nR1 this,by show A.units+1+8*n+1000≤9900;have:=h.units;omega,h.handled⟩
theorem dQ.le{m:Nat}(h:dQ A n)(hm:m≤n):dQ A m:=⟨by have:=h.depth;omega,by have:=h.units;omega,h.handled⟩
set_option tactic.hygienic true in
theorem cN6(O:G.Ok){c:CN}{nm:Str}{aI:Addr}{f:FM}{es:List Expr}{ms:List EM}{p pos:Pos}{m:Nat}(gn:cG0 G c nm aI)(hf:lY G m aI f)(hm:m+1≤n)(h:kE G n B es ms)(hk:B.sc.names.lookup nm=some .globalImplicit)(hp:cW es=true)
  (hl:ms.length=es.length) (hd:(nm==("__debug__":Str))=false):aY G n B (.Call (.Name nm p) es [] pos) (kN c f ms):=by
 refine⟨fun A env ρ α σ s y σ' hA hsc F R e=> ?_⟩
 unfold kN at e
 split at e
 ·rename_i l σ₁ e1
  split at e
  ·rename_i σ₂ e2
   (refine dN e fun p q=> ?_;clear e;subst p q)
   have hk':env.kindOf nm=some .globalImplicit:=by unfold Env.kindOf;rw[hsc];exact hk
   refine Call_ (Calls.Name_function_global F.kind hk' (Calls.loadGlobal_global (by rw[F.glob];exact O.g.keeps R.base) gn.mg ?_) hd)
   refine sL O gn.keep h hp hl hA hsc F R e1 ?_
   rintro vs s' ⟨α',S,R',HV⟩
   refine wpAny_call ?_
   have X:=R'.kin O
   obtain⟨hh,g,d,t,os⟩:=s'
   simp only[List.nil_append]
   refine make_core (makes_of X gn.makes) (looks_findIn X gn.init) (fun self=>bind_fn X self gn.fn) (.inl rfl) ?_
   have hDf:hh.get? hh.objs.size=none:=Heap.get?_none_of_le (Nat.le_refl _)
   have hsz:(hh.push emptyDict).objs.size=hh.objs.size+1:=Heap.size_push _ _
   have hXf:(hh.push emptyDict).get? (hh.objs.size+1)=none:=by rw[←hsz];exact Heap.get?_none_of_le (Nat.le_refl _)
   have hd1:(hh.push emptyDict).get? hh.objs.size=some (dictOf [] 0):=Heap.get?_push_size _ rfl
   have R1:bZ G (α'++[hh.objs.size]) (σ₁++[.ns []]) (hh.push emptyDict):=R'.alloc (h:=hh) cN hDf R'.big ⟨[],0,hd1,.nil⟩
   have R2:bZ G ((α'++[hh.objs.size])++[hh.objs.size+1]) ((σ₁++[.ns []])++[.inst c σ₁.length]) ((hh.push emptyDict).push (instObj (G.cls c) hh.objs.size)):=by
    refine R1.alloc cN hXf (Nat.lt_succ_of_lt R'.big) ⟨hh.objs.size,?_,?_⟩
    ·rw[←hsz];exact Heap.get?_push_size _ rfl
    ·exact rK (pF R'.len)
   have k2:∀b o,hh.get? b=some o→((hh.push emptyDict).push (instObj (G.cls c) hh.objs.size)).get? b=some o:=fun b o e=>Heap.get?_push_of_some _ (Heap.get?_push_of_some _ e)
   have S2:bX eB α' ((α'++[hh.objs.size])++[hh.objs.size+1]) ⟨hh,g,d,t,os⟩ ⟨(hh.push emptyDict).push (instObj (G.cls c) hh.objs.size),g,d,t,os⟩:=by
    refine⟨⟨[hh.objs.size,hh.objs.size+1],List.append_assoc ..,fun a ha=> ?_⟩,fun b o e=>⟨o,k2 b o e⟩,fun b o e _ _=>k2 b o e,fun b o e _=>k2 b o e,rfl,rfl,rfl⟩
    simp only[List.mem_cons,List.not_mem_nil,or_false]at ha
    rcases ha with rfl |rfl
    ·exact hDf
    ·exact Heap.get?_none_of_le (Nat.le_succ _)
   have hsl:(σ₁++[bF.ns []]).length=σ₁.length+1:=List.length_append
   have VX:RV G ((α'++[hh.objs.size])++[hh.objs.size+1]) ((hh.push emptyDict).push (instObj (G.cls c) hh.objs.size)) (.ref (hh.objs.size+1)) (.ref (σ₁.length+1)):=by
    refine .ref ?_
    rw[←hsl]
    exact pF R1.len
   have e2':f (.ref (σ₁.length+1)::l) ((σ₁++[bF.ns []])++[bF.inst c σ₁.length])=some (.none,σ'):=by simpa using e2
   refine codeAny_mono (hf _ _ _ ⟨(hh.push emptyDict).push (instObj (G.cls c) hh.objs.size),g,d,t,os⟩ _ _ _ _ (dQ.under (hA.le hm)) R2 (.cons VX (HV.later S2.later)) e2') fun r s3 hr=> ?_
   rcases r with e |(v |_ |_ |_)<;>first |exact hr |exact hr.elim |skip
   obtain⟨α3,S3,R3,V3⟩:=hr
   refine⟨V3.none_inv,?_⟩
   exact⟨α3,(S.trans S2).trans S3,R3,VX.later S3.later⟩
  ·exact aN e
 ·exact aN e
end
end
section
noncomputable def bN6 (K:Frag):List DictEntry:=match K.lookup mainGlobals with
 |some ⟨_,_,.dict es _,_⟩=>es.toList
 |_=>[]
noncomputable def bD2 (K:Frag) (x:Str):Option Value:=((bN6 K).find? fun e=>e.key.isStr x).map (·.val)
noncomputable def bE8:CN→Addr
 | .table=>86 | .host=>354 | .book=>401
noncomputable def tZ:CN→Addr
 | .table=>69 | .host=>309 | .book=>398
noncomputable def cJ7:CN→Str
 | .table=>"KindTable" | .host=>"KindHost" | .book=>"Book"
noncomputable def dD5:List Nat:=[69,76,83,97,104,111,118,125,132,139,146,153,160,167,174,181,188,195,202,209,216,223,232,239,246,253,260,267,274,281,288,295,309,316,323,330,337,344,365,372,379,384,398,412,419,426,433,440,447,454,461,468,475,482,489,496,503,511,516,523,528,535,542,549,556,563,570,577,584,591,596]
noncomputable def oJ (f:Fn):Addr:=dD5.getD f 0
noncomputable def tab:List (Nat×List String):=[(1,["self","number","row"]),(2,["self","k"]),(2,["self","row","found","depth","weight","opened","level","inner","k"]),(1,["row","sort"]),(1,["sort"]),(1,["sort"]),(2,["kt","row","sort","inner"]),(2,["kt","row"]),(2,["kt","args","arg"]),(2,["kt","k","sort"]),(3,["kt","tid","args"]),(3,["kt","tid","args"]),(2,["tid","args"]),(2,["kt","elem"]),(2,["kt","k"]),(2,["kt","k"]),(2,["kt","k","row"]),(2,["kt","k","row"]),(2,["kt","k","row"]),(2,["kt","k"]),(2,["kt","k","sort"]),(2,["kt","k","sort"]),(2,["host","k","out","seen","todo","b","inner"]),(2,["host","k","b"]),(2,["host","k","b"]),(2,["host","k"]),(2,["host","k","out","seen"]),(2,["host","k","found","seen","at"]),(4,["host","kinds","found","seen","todo","k","inner"]),(2,["host","k"]),(2,["host","k","under"]),(2,["kt","k"]),(2,["self","kt"]),(2,["self","k"]),(2,["self","k"]),(2,["self","k"]),(2,["self","tid"]),(2,["self","k"]),(2,["host","k","kt","sort"]),(2,["host","k","tid"]),(2,["host","k","kt","best","b"]),(2,["host","k","kt"]),(2,["self","strict"]),(3,["host","s","t"]),(4,["host","s","t","strict","book"]),(3,["host","s","t","book","count"]),(2,["host","book","at","pair"]),(3,["host","pair","book"]),(4,["host","s","t","book","kt"]),(4,["host","s","t","book","kt","at"]),(4,["host","k","t","book","b","at"]),(4,["host","s","t","book","kt","ways","have","want","i","way","pair"]),(4,["host","s","t","book","kt"]),(4,["host","s","t","book"]),(3,["host","s","t"]),(3,["host","exact","t","kt","args"]),(3,["host","exact","t","at"]),(1,["x"]),(2,["w","x","kt","k","inner"]),(2,["x","d","a","b"]),(2,["nums","host","a","b","c","ways","under","w","x"]),(2,["w","x","up"]),(2,["w","x","out","i","y"]),(2,["w","x"]),(4,["w","u","t","road","i","way","pair"]),(4,["w","s","t","road","u"]),(3,["w","x","t"]),(2,["u","m","a","refs","place"]),(2,["w","n","a","b","i","num","ia","exact","x","ups","u","aims"]),(5,["w","host","x","t","turn","want","s","k","count"]),(1,["script","nums","host","w","e","num","twin","rows","j"])]
noncomputable def cC9 (K:Frag) (a:Addr):Option FuncData:=match K.lookup a with
 |some ⟨_,_,.func fd,_⟩=>some fd
 |_=>none
noncomputable def qU (i:Nat):Nat:=(tab.getD i (0,[])).1
noncomputable def wC (i:Nat):List Str:=(tab.getD i (0,[])).2.map Str.ofString
theorem aJ9{α:Type}{f g:Nat→α}{n:Nat}(h:(List.range n).map f=(List.range n).map g){i:Nat}(hi:i<n):f i=g i:=by
 have q:=congrArg (fun l=>l[i]?) h
 simp only[List.getElem?_map,List.getElem?_range hi,Option.map_some,Option.some.injEq]at q
 exact q
structure vX(G:GC):Prop where
 ok:G.Ok
 mg:G.mg=bD2 G.K
 cls:G.cls=bE8
 gcls:oH G
 own:∀x∈["rows","index","depths","weights","opens","kt","bases","ifaces","sorts","variances","unders","bounds","gflags","news","strict","pairs","listed","proved"],uR G (Str.ofString x)
 new:∀c,cG0 G c (cJ7 c) (tZ c)
 len:j0 G "len" (.builtin "len")
 tup:j0 G "tuple" (.type "tuple")
 lst:j0 G "list" (.type "list")
 rng:j0 G "range" (.type "range")
 bd:(List.range 71).map (fun i=>(cC9 G.K (oJ (i:Nat))).map fun fd (a b c d e:Value)=>bindArgs fd ⟨[a,b,c,d,e].take (qU i),[]⟩)=(List.range 71).map fun i=>some fun(a b c d e:Value)=>pure (((wC i).take (qU i)).zip ([a,b,c,d,e].take (qU i)))
noncomputable def dB3:Option (Option Value)→Bool
 |some none=>true
 |_=>false
theorem cS3{v:Option (Option Value)}(h:dB3 v=true):v=some none:=by
 induction v using Option.casesOn with
 |none=>exact c7 h
 |some v=>cases v<;>first |rfl |exact c7 h
noncomputable def dO6 (K:Frag) (c:CN) (l:List String):Bool:=l.all fun x=>dB3 (findIn K (.ref (bE8 c)) (Str.ofString x))
theorem cZ3{G:GC}{l:List String}(hc:G.cls=bE8)(h:∀c,dO6 G.K c l=true):∀x∈l,uR G (Str.ofString x):=
 fun x hx=>⟨fun c=>by rw[hc];exact cS3 (List.all_eq_true.mp (h c) x hx)⟩
set_option tactic.hygienic true in
theorem dI8{K:Frag}{h:Heap}(X:K.In h)(hk:(match K.lookup mainGlobals with |some ⟨_,_,.dict es _,_⟩=>es.all fun e=>(match e.key with | .str _ _=>true |_=>false) |_=>false)=true):h.Ns mainGlobals (bD2 K):=by
 split at hk
 ·rename_i c d es k sl q
  refine⟨_,es,k,X _ _ q,rfl,fun e he=> ?_,fun name=> ?_⟩
  ·have:=Array.all_eq_true_iff_forall_mem.mp hk e he
   split at this
   ·rename_i n t hn;exact⟨n,t,hn⟩
   ·exact c7 this
  ·unfold bD2 bN6 nsFind findBy
   rw[q,Array.find?_toList]
 ·exact c7 hk
noncomputable def jC (B:fB):Bool:=B.ns.all fun x=>(B.sc.names.lookup x==some .local||B.sc.names.lookup x==some .cell)&& !(x==("__debug__":Str))
theorem m6{B:fB}{i:Nat}{x:Str}(h:jC B=true)(hi:B.ns[i]? =some x):(B.sc.names.lookup x=some .local∨B.sc.names.lookup x=some .cell)∧(x==("__debug__":Str))=false:=by
 have:=List.all_eq_true.mp h x (List.mem_of_getElem? hi)
 simp only[Bool.and_eq_true,Bool.or_eq_true,beq_iff_eq,Bool.not_eq_true']at this
 exact this
section
variable {G:GC}{n:Nat}{B:fB}
theorem cX6(h:jC B=true){x:Str}{pos:Pos}(i:Nat)(hn:B.ns[i]? =some x):aY G n B (.Name x pos) (aA i):=by
 obtain⟨hk |hk,hd⟩:=m6 h hn
 ·exact bJ8 hn hk hd
 ·exact bX1 hn hk hd
set_option tactic.hygienic true in
theorem bK4(hN:jC B=true){x:Str}{p pos:Pos}{e:Expr}{m:EM}(i:Nat)(hn:B.ns[i]? =some x)(h:aY G n B e m):fA G n B (.AugAssign (.Name x p) .Add e pos) (mH i m):=by
 obtain⟨hk |hk,hd⟩:=m6 hN hn
 ·exact bY5 hn hk h
 ·refine⟨fun A env ρ α σ s fl ρ' σ' hA hsc F R e'=> ?_⟩
  unfold mH at e'
  split at e'
  ·rename_i a ha
   split at e'
   ·rename_i b σ₁ h1
    split at e'
    ·rename_i a' b' y z
     split at e'
     ·rename_i hz
      (refine qY e' fun p q r=> ?_;clear e';subst p q r)
      have hk':env.kindOf x=some .cell:=by unfold Env.kindOf;rw[hsc];exact hk
      obtain⟨c,u,hc,hcell,hr⟩:=F.cel i x _ hn hk' ha
      refine wpAny_AugAssign_Name (wpAny_loadName_cell F.kind hk' hc hcell (c9 (h.run A env ρ α σ s _ _ hA hsc F R h1) ?_))
      rintro v s₁ ⟨α₁,S₁,R₁,V₁⟩
      obtain⟨t,rfl⟩:=hr.int_inv
      obtain⟨t',rfl⟩:=V₁.int_inv
      refine rC ?_
      exact rG (s:={ s₁ with toks:=s₁.toks+1 }) (F.stp0 S₁.toks) R₁ hn (.inr hk') (.int _ _) fun s' S' R' F'=>⟨α₁,S₁.own.toks.trans S',R',F',.next⟩
     ·exact aN e'
    ·exact aN e'
   ·exact aN e'
  ·exact aN e'
theorem bY1{body:List Stmt}{bm:SM}{h₀:ExceptHandler}{hs:List ExceptHandler}{pos:Pos}(hb:hZ G n B body bm):fA G n B (.Try body (h₀::hs) [] [] pos) bm:=by
 refine⟨fun A env ρ α σ s fl ρ' σ' hA hsc F R e=> ?_⟩
 refine wpAny_Try_except (wpAny_mono (hb.run A env ρ α σ s fl ρ' σ' hA hsc F R e) (fun f s₁ h=> ?_) fun _ _ h=>h.elim)
 cases f<;>first |exact h |exact wpAny_execs_nil h
end
noncomputable def aK4 (B:fB) (scope:Scope) (caps:List (Nat×Nat)) (x:Str) (xs:Nat) (ns':List Str):Bool:=
 decide (scope.kind= .function)&&scope.names.all (fun y=> !(y.2== .local)||scope.names.lookup y.1==some .local)&&scope.names.all (fun y=> !(y.2== .cell))&&scope.names.lookup x==some .local&&ns'[xs]? ==some x&&decide ns'.Nodup&&
 (List.range ns'.length).all (fun i=>i==xs||(match ns'[i]? with
  |some y=>(match caps.lookup i with
   |some j=>B.ns[j]? ==some y&&B.sc.names.lookup y==some .cell&&(mI B.sc scope).names.lookup y==some .cell&&scope.names.contains (y,.free)
   |none=>false)
  |none=>false))&&caps.lookup xs==none&&scope.names.all (fun p=> !(p.2== .free)||(B.sc.names.lookup p.1==some .cell&&B.ns.contains p.1))
set_option tactic.hygienic true in
theorem bR3{B:fB}{scope:Scope}{caps:List (Nat×Nat)}{x:Str}{xs:Nat}{ns':List Str}(h:aK4 B scope caps x xs ns'=true):pP B scope caps x xs ns':=by
 unfold aK4 at h
 simp only[Bool.and_eq_true,decide_eq_true_eq,beq_iff_eq,List.all_eq_true,Bool.or_eq_true,Bool.not_eq_true',beq_eq_false_iff_ne,List.mem_range,List.contains_iff_mem]at h
 obtain⟨⟨⟨⟨⟨⟨⟨⟨k1,k2⟩,k3⟩,k4⟩,k5⟩,k6⟩,k7⟩,k8⟩,k9⟩:=h
 refine⟨k1,fun y hy hl=>(k2 y hy).resolve_left fun q=>q hl,k3,k4,k5,k6,fun i y hi hx=> ?_,k8,fun y hy=> ?_⟩
 ·have hlt:=(List.getElem?_eq_some_iff.mp hi).1
  rcases k7 i hlt with q |q
  ·exact absurd q hx
  ·rw[hi]at q
   simp only at q
   split at q
   ·rename_i j hj
    simp only[Bool.and_eq_true,beq_iff_eq,List.contains_iff_mem]at q
    exact⟨j,hj,q.1.1.1,q.1.1.2,q.1.2,q.2⟩
   ·exact c7 q
 ·rcases k9 _ hy with q |q
  ·exact absurd rfl q
  ·obtain⟨j,hj⟩:=List.getElem?_of_mem q.2
   exact⟨j,hj,q.1⟩
theorem dP6{n:Nat}(hn:n≤5){vs:List Value}(h:vs.length=n):∃a b c d e,vs=[a,b,c,d,e].take n:=by
 subst h
 refine⟨vs.getD 0 .none,vs.getD 1 .none,vs.getD 2 .none,vs.getD 3 .none,vs.getD 4 .none,?_⟩
 rcases vs with _ |⟨a,_ |⟨b,_ |⟨c,_ |⟨d,_ |⟨e,_ |⟨f,vs⟩⟩⟩⟩⟩⟩<;>first |rfl |exact absurd hn (Nat.not_le_of_lt (Nat.le_add_left 6 _))
theorem cT7{G:GC}(K:vX G){i:Nat}(hi:i<71){fd:FuncData}(hf:cC9 G.K (oJ (i:Nat))=some fd)(hn:qU i≤5)(vs:List Value)(hv:vs.length=qU i):bindArgs fd ⟨vs,[]⟩=pure (((wC i).take (qU i)).zip vs):=by
 obtain⟨a,b,c,d,e,rfl⟩:=dP6 hn hv
 have q:=aJ9 K.bd hi
 rw[hf]at q
 exact congrFun (congrFun (congrFun (congrFun (congrFun (Option.some.inj q) a) b) c) d) e
noncomputable def bC7 (K:Frag) (fd:FuncData) (np:Nat) (ns:List Str):Bool:=
 codeIn K fd.code fd.qualname&&fd.closure.isEmpty&&decide (fd.globals=mainGlobals)&&decide (fd.builtins=builtinsNs)&&
 decide (fd.scope.kind= .function)&& !fd.scope.isCoroutine&& !fd.scope.isGenerator&&decide ns.Nodup&&Nat.ble np ns.length&&Nat.ble np 5&&jC ⟨fd.scope,ns⟩
theorem aM6{G:GC}(K:vX G){i:Nat}(hi:i<71){fd:FuncData}{body:List Stmt}{oc:Value}{od:Option Addr}{osl:Array (Option Value)}(hl:G.K.lookup (oJ (i:Nat))=some ⟨oc,od,.func fd,osl⟩)(hb:fd.body= .stmts body)(h:bC7 G.K fd (qU i) (wC i)=true):
  jC ⟨fd.scope,wC i⟩=true∧cL2 G ⟨fd.scope,wC i⟩ (oJ (i:Nat)) (qU i) body:=by
 unfold bC7 at h
 simp only[Bool.and_eq_true,decide_eq_true_eq,Bool.not_eq_true',List.isEmpty_iff]at h
 obtain⟨⟨⟨⟨⟨⟨⟨⟨⟨⟨k1,k2⟩,k3⟩,k4⟩,k5⟩,k6⟩,k7⟩,k8⟩,k9⟩,k10⟩,k11⟩:=h
 refine⟨k11,⟨oc,od,osl,fd,hl,hb,k1,k2,k3,k4,rfl,cT7 K hi (by unfold cC9;rw[hl]) (Nat.le_of_ble_eq_true k10)⟩,k5,k6,k7,k8,Nat.le_of_ble_eq_true k9,fun x hx=> ?_⟩
 obtain⟨j,hj⟩:=List.getElem?_of_mem hx
 exact(m6 k11 hj).1
end
section
noncomputable def dR {α:Type} (P:α→Prop):Type:=Option {m:α//P m}
section
variable {α β γ:Type}{P:α→Prop}{Q:β→Prop}{R:γ→Prop}
noncomputable def no:dR P:=Option.none
noncomputable def ok (m:α) (h:P m):dR P:=Option.some ⟨m,h⟩
noncomputable def bd (r:dR P) (f:(a:α)→P a→dR Q):dR Q:=Option.bind r fun a=>f a.1 a.2
noncomputable def vW (r s:dR P):dR P:=Option.or r s
noncomputable def k1 (r:dR P) (f:α→β) (h:∀a,P a→Q (f a)):dR Q:=bd r fun a p=>ok (f a) (h a p)
noncomputable def k2 (r:dR P) (s:dR Q) (f:α→β→γ) (h:∀a b,P a→Q b→R (f a b)):dR R:=bd r fun a p=>bd s fun b q=>ok (f a b) (h a b p q)
noncomputable def gd (c:Bool) (f:c=true→dR P):dR P:=if h:c=true then f h else no
theorem cA3{r:dR P}{m:α}(h:Option.map (·.1) r=Option.some m):P m:=by
 induction q:r using Option.casesOn with
 |none=>rw[q]at h;exact aN h
 |some a=>rw[q]at h;(refine cT h fun p=> ?_;clear h;subst p);exact a.2
end
noncomputable def dB4:(v:Option Value)→dR fun i:Int=>∃t,v=some (.int i t)
 |some (.int i t)=>ok i ⟨t,rfl⟩
 |_=>no
noncomputable def cZ0:(v:Option Value)→dR fun a:Addr=>v=some (.ref a)
 |some (.ref a)=>ok a rfl
 |_=>no
noncomputable def cJ4:(vs:List Value)→dR fun l:List Int=>∀{G:GC} {α:List Addr} {h:Heap},b8 G α h vs (l.map .int)
 |[]=>ok [] .nil
 |v::vs=>k2 (dB4 (some v)) (cJ4 vs) List.cons fun _ _ h q _ _ _=>by obtain⟨t,h⟩:=h;(refine cT h fun p=> ?_;clear h;subst p);exact .cons (.int _ _) q
section
variable {G:GC}(O:G.Ok)(C:oH G)(K:vX G)
theorem cC1{x:Str}{i:Int}(h:∃t,G.mg x=some (.int i t)):wS G x (.int i):=by
 obtain⟨t,h⟩:=h
 exact⟨_,h,fun _ _ _ _=> .int _ _⟩
theorem cC0(O:G.Ok){x:Str}{a:Addr}{d:Option Addr}{its:Array Value}{k:Nat}{sl:Array (Option Value)}(hm:G.mg x=some (.ref a))(q:G.K.lookup a=some ⟨.type "tuple",d,.seq its k,sl⟩)(l:List Int)(h:∀{G:GC} {α:List Addr} {h:Heap},b8 G α h its.toList (l.map .int)):
  wS G x (.tup (l.map .int)):=⟨.ref a,hm,fun α σ h' R=> .tup (vs:=its.toList) ⟨_,R.base _ _ (O.kin _ _ q),rfl,k,by simp⟩ h⟩
noncomputable def esI (ents:Array DictEntry):List (Int×Int):=ents.toList.map fun e=>((lG e.key).getD 0,(lG e.val).getD 0)
noncomputable def cA2 (a:Addr) (ents:Array DictEntry):Bool:=decide (a≠sysModules)&&decide (ents.toList.map (fun e=>(e.hash,lG e.key,lG e.val))=(esI ents).map fun e=>(hashInt e.1,some e.1,some e.2))
theorem cS5(O:G.Ok){x:Str}{a:Addr}{ents:Array DictEntry}{k:Nat}(hm:G.mg x=some (.ref a))(q:G.K.lookup a=some ⟨.type "dict",none,.dict ents k,#[]⟩)(h:cA2 a ents=true):wS G x (.gd (esI ents)):=by
 unfold cA2 at h
 rw[Bool.and_eq_true,decide_eq_true_eq,decide_eq_true_eq]at h
 exact⟨.ref a,hm,fun α σ h' R=> .gd ⟨_,ents,k,O.kin _ _ q,⟨rfl,rfl,rfl⟩,rfl,h.2⟩ h.1⟩
noncomputable def dJ2 (x:Str) (a:Addr) (hm:G.mg x=some (.ref a)):(o:Option Obj)→G.K.lookup a=o→dR (wS G x)
 |some ⟨.type T,d,.seq its k,sl⟩,q=>gd (T=="tuple") fun h=>bd (cJ4 its.toList) fun l hl=>ok _ (cC0 O hm ((beq_iff_eq.mp h)▸q) l hl)
 |some ⟨.type T,none,.dict ents k,⟨[]⟩⟩,q=>gd (T=="dict") fun h=>gd (cA2 a ents) fun g=>ok _ (cS5 O hm ((beq_iff_eq.mp h)▸q) g)
 |_,_=>no
noncomputable def glob (x:Str):dR (wS G x):=vW (k1 (dB4 (G.mg x)) .int fun _=>cC1) (bd (cZ0 (G.mg x)) fun a h=>dJ2 O x a h _ rfl)
noncomputable def aN0 (a:Addr):Nat:=dD5.idxOf a
noncomputable def dP5 (G:GC) (x:Str):dR fun f:Fn=>cG1 G x (oJ f):=
 bd (cZ0 (G.mg x)) fun a h=>gd (decide (oJ (aN0 a:Nat)=a)&&keepIn G.K (.ref a)) fun h2=>ok (aN0 a:Nat) (by
  rw[Bool.and_eq_true,decide_eq_true_eq]at h2
  rw[h2.1]
  exact⟨h,h2.2⟩)
noncomputable def dO4:(v:Option (Option Value))→dR fun a:Addr=>v=some (some (.ref a))
 |some (some (.ref a))=>ok a rfl
 |_=>no
noncomputable def bN5 (G:GC) (s:Str):List CN→dR fun p:CN×Fn=>aG2 G p.1 s (oJ p.2)
 |[]=>no
 |c::l=>vW (bd (dO4 (findIn G.K (.ref (G.cls c)) s)) fun a h=>gd (decide (oJ (aN0 a:Nat)=a)&&(isFn G.K (.ref a)&&keepIn G.K (.ref a))) fun h2=>ok (c,(aN0 a:Nat)) (by
  rw[Bool.and_eq_true,decide_eq_true_eq,Bool.and_eq_true]at h2
  show aG2 G c s (oJ (aN0 a:Nat))
  rw[h2.1]
  exact⟨h,h2.2.1,h2.2.2⟩)) (bN5 G s l)
noncomputable def aF1 (s:Str):(l:List String)→dR fun x:String=>s=Str.ofString x∧x∈l
 |[]=>no
 |x::l=>if h:s=Str.ofString x then ok x ⟨h,.head _⟩else k1 (aF1 s l) id fun _ q=>⟨q.1,.tail _ q.2⟩
end
structure uS(e:Expr):Prop where
 sw:∀t l env,swapsWith e t l env=pure false
 fo:∀env y,foldedSetIterable e env y=pure y
 su:∀x y,∃ops,subscripted e false x y=operate ops (getItem x y)
noncomputable def dK0 (e:Expr) (_:Unit):Prop:=uS e
noncomputable def wK (e:Expr):dR (dK0 e):=by induction e using PySem.Expr.casesOn with
 |Name |Constant |Call |Attribute |Subscript |BinOp |UnaryOp |List |Tuple |Dict |IfExp |Compare |BoolOp=>exact ok () ⟨fun _ _ _=>rfl,fun _ _=>rfl,fun _ _=>⟨_,rfl⟩⟩
 |_=>exact no
noncomputable def mU (o:Expr):Prop:=∀(s:Str) (env:PySem.Env) (w:Sem Value),attributeBase o s env w=w
noncomputable def dK3 (e:Expr) (_:Unit):Prop:=mU e
noncomputable def cK2 (o:Expr):dR (dK3 o):=by induction o using PySem.Expr.casesOn with
 |Name |Attribute |Subscript |Dict=>exact ok () fun _ _ _=>rfl
 |_=>exact no
theorem cU1{o:Expr}{s:Str}{p:Pos}(h:mU o)(env:PySem.Env):eval (.Attribute o s p) env=(do
  let v ←eval o env
  standAt p.atName
  let r ←holding [v] (getAttr v s true)
  letTemporaryGo o v r
  pure r):=congrArg (fun w:Sem Value=>(do
  let v ←w
  standAt p.atName
  let r ←holding [v] (getAttr v s true)
  letTemporaryGo o v r
  pure r)) (h s env (eval o env))
theorem bE0{env:PySem.Env}{pos:Pos}{es:List Expr}(h:cW es=true)(hl:Nat.ble es.length 9=true):methodCallForm (es.length+0) (backTo pos (starEach es env)) []=true:=by
 have:=jH (env:=env) (pos:=pos) h
 unfold methodCallForm
 rw[Bool.and_eq_true,Bool.and_eq_true]
 refine⟨⟨?_,rfl⟩,decide_eq_true ?_⟩
 ·rw[List.all_eq_not_any_not]
  simpa using this
 ·exact Nat.lt_of_le_of_lt (Nat.le_of_ble_eq_true hl) (Nat.le_of_ble_eq_true rfl)
theorem u8{o:Expr}{s:Str}{ap pos:Pos}{es:List Expr}(hb:mU o)(h:(Nat.ble es.length 9&&(ap.endLine==pos.line))=true)(hp:cW es=true)(env:PySem.Env):∃pl:Sem Bool,eval (.Call (.Attribute o s ap) es [] pos) env=(do
  let ov ←eval o env
  standAt ap.atName
  let(f,first) ←holding [ov] (getMethod ov s pl)
  callWith pos f first (backTo pos (starEach es env)) []):=by
 rw[Bool.and_eq_true]at h
 have e:eval (.Call (.Attribute o s ap) es [] pos) env=(do
  let ov ←attributeBase o s env (eval o env)
  standAt ap.atName
  let(f,first) ←holding [ov] (calleeOf (methodCallForm (es.length+0) (backTo pos (starEach es env)) []) o env ov s)
  let callPos ←methodCallPos (methodCallForm (es.length+0) (backTo pos (starEach es env)) []) o env ap pos
  callWith callPos f first (backTo pos (starEach es env)) []):=rfl
 have q:methodCallPos true o env ap pos=pure pos:=by unfold methodCallPos;rw[h.2];rfl
 rw[bE0 hp h.1,hb,q]at e
 exact⟨_,e⟩
noncomputable def bE7 (o:CmpOp):dR fun c:CO=>lT c=o:=by induction o using PySem.CmpOp.casesOn with
 |Eq=>exact ok .eq rfl
 |NotEq=>exact ok .ne rfl
 |Lt=>exact ok .lt rfl
 |LtE=>exact ok .le rfl
 |Gt=>exact ok .gt rfl
 |GtE=>exact ok .ge rfl
 |In=>exact ok .isIn rfl
 |NotIn=>exact ok .notIn rfl
 |_=>exact no
noncomputable def dP9 (o:Operator):dR fun c:BO=>aF7 c=o:=by induction o using PySem.Operator.casesOn with
 |Add=>exact ok .add rfl
 |Sub=>exact ok .sub rfl
 |Mult=>exact ok .mul rfl
 |FloorDiv=>exact ok .fdiv rfl
 |Mod=>exact ok .mod rfl
 |_=>exact no
noncomputable def dE2 (e:Expr) (q:Int×Nat×Pos):Prop:=e= .Constant (.int q.1) q.2.1 q.2.2
noncomputable def dB5 (e:Expr):dR (dE2 e):=by induction e using PySem.Expr.casesOn with
 |Constant c k p=>induction c using PySem.Const.casesOn with
  |int i=>exact ok (i,k,p) rfl
  |_=>exact no
 |_=>exact no
noncomputable def dE0 (e:Expr) (q:(Int×Nat×Pos)×Pos):Prop:=e= .UnaryOp .USub (.Constant (.int q.1.1) q.1.2.1 q.1.2.2) q.2
noncomputable def dO7 (e:Expr):dR (dE0 e):=by induction e using PySem.Expr.casesOn with
 |UnaryOp op x p=>induction op using PySem.UnaryOp.casesOn with
  |USub=>exact k1 (dB5 x) (fun q=>(q,p)) fun _ h=>congrArg (fun x=>Expr.UnaryOp .USub x p) h
  |_=>exact no
 |_=>exact no
noncomputable def bT4 (e:Expr) (q:Option Expr×Option Expr×Option Expr×Pos):Prop:=e= .Slice q.1 q.2.1 q.2.2.1 q.2.2.2
noncomputable def cX4 (e:Expr):dR (bT4 e):=by induction e using PySem.Expr.casesOn with
 |Slice a b c p=>exact ok (a,b,c,p) rfl
 |_=>exact no
noncomputable def bH6 (e:Expr) (q:Str×Pos):Prop:=e= .Name q.1 q.2
noncomputable def aF4 (e:Expr):dR (bH6 e):=by induction e using PySem.Expr.casesOn with
 |Name x p=>exact ok (x,p) rfl
 |_=>exact no
noncomputable def cL5 (e:Expr) (q:(Str×Pos)×List Expr×Pos):Prop:=e= .Call (.Name q.1.1 q.1.2) q.2.1 [] q.2.2
noncomputable def dJ6 (e:Expr):dR (cL5 e):=by induction e using PySem.Expr.casesOn with
 |Call f es ks p=>induction ks using List.casesOn with
  |nil=>exact k1 (aF4 f) (fun q=>(q,es,p)) fun _ h=>congrArg (fun x=>Expr.Call x es [] p) h
  |cons=>exact no
 |_=>exact no
noncomputable def dE4 (l:List Comprehension) (q:(Str×Pos)×Expr):Prop:=l=[⟨.Name q.1.1 q.1.2,q.2,[],0⟩]
noncomputable def dB9 (l:List Comprehension):dR (dE4 l):=by induction l using List.casesOn with
 |nil=>exact no
 |cons g l=>induction l using List.casesOn with
  |cons=>exact no
  |nil=>
   obtain⟨t,it,ifs,a⟩:=g
   induction ifs using List.casesOn with
    |nil=>exact if h:a=0 then k1 (aF4 t) (fun q=>(q,it)) (fun q g=>by rw[h,show t=_ from g];rfl)else no
    |cons=>exact no
noncomputable def cL4 (e:Expr) (q:Expr×((Str×Pos)×Expr)×Scope×Pos):Prop:=e= .ListComp q.1 [⟨.Name q.2.1.1.1 q.2.1.1.2,q.2.1.2,[],0⟩] q.2.2.1 q.2.2.2
noncomputable def dJ5 (e:Expr):dR (cL4 e):=by induction e using PySem.Expr.casesOn with
 |ListComp e l sc p=>exact k1 (dB9 l) (fun q=>(e,q,sc,p)) fun _ h=>congrArg (fun l=>Expr.ListComp e l sc p) h
 |_=>exact no
section
variable {G:GC}{n:Nat}{B:fB}
noncomputable def uU (G:GC) (n:Nat) (B:fB) (es:List Expr) (ms:List EM):Prop:=kE G n B es ms∧ms.length=es.length∧cW es=true
theorem cS9{e:Expr}{es:List Expr}(hp:gO e=true)(a:EM)(r:List EM)(h:aY G n B e a)(q:uU G n B es r):uU G n B (e::es) (a::r):=⟨iR h q.1 hp,congrArg (· +1) q.2.1,Bool.and_eq_true_iff.mpr ⟨hp,q.2.2⟩⟩
noncomputable def bH5 (G:GC) (n:Nat) (B:fB) (k:List (Option Expr)) (l:List Expr) (ps:List (EM×EM)):Prop:=aQ9 G n B k l ps∧k.all (·.isSome)=true∧k.length=l.length∧ps.length=k.length
theorem cQ7{k v:Expr}{ks:List (Option Expr)}{vs:List Expr}{a b:EM}(h:aY G n B k a)(g:aY G n B v b)(r:List (EM×EM))(q:bH5 G n B ks vs r):bH5 G n B (some k::ks) (v::vs) ((a,b)::r):=
 ⟨bK5 h g q.1,q.2.1,congrArg (· +1) q.2.2.1,congrArg (· +1) q.2.2.2⟩
theorem dH1{l r:Expr}{op:Operator}{o:BO}{p:Pos}(ho:aF7 o=op)(a b:EM)(h:aY G n B l a)(g:aY G n B r b):aY G n B (.BinOp l op r p) (aT o a b):=ho▸bX4 o h g
theorem dH0(O:G.Ok){l r:Expr}{op:CmpOp}{o:CO}{p:Pos}(ho:lT o=op)(hm:(!behindInMarks op r)=true)(a b:EM)(h:aY G n B l a)(g:aY G n B r b):aY G n B (.Compare l [op] [r] p) (cP (aK o a b)):=by
 subst ho;exact cO2 O o h g (by rwa [Bool.not_eq_true']at hm)
theorem dF7(O:G.Ok){l r:Expr}{op:CmpOp}{o:CO}{p:Pos}(ho:lT o=op)(hm:(!behindInMarks op r)=true)(a b:EM)(h:aY G n B l a)(g:aY G n B r b):gD G n B (.Compare l [op] [r] p) (aK o a b):=by
 subst ho;exact bX9 O o h g (by rwa [Bool.not_eq_true']at hm)
theorem cV3(O:G.Ok){l m r:Expr}{op op':CmpOp}{o o':CO}{p:Pos}(ho:lT o=op)(ho':lT o'=op')(hm:(!lastMarks [op,op'] [m,r])=true){a:EM}(b c:EM)(h:aY G n B l a)(g:aY G n B m b)(k:aY G n B r c):gD G n B (.Compare l [op,op'] [m,r] p) (oM o o' a b c):=by
 subst ho ho';exact bK0 O o o' h g k (by rwa [Bool.not_eq_true']at hm)
theorem dG0{es:List Expr}{k:Nat}{p:Pos}(hz:Nat.ble es.length 1000=true)(ms:List EM)(h:uU G n B es ms):aY G n B (.Tuple es k p) (aE ms):=cM9 h.1 (Nat.le_of_ble_eq_true hz) h.2.1
theorem cV5{es:List Expr}{p:Pos}(hz:Nat.ble es.length 1000=true)(ms:List EM)(h:uU G n B es ms):aY G n B (.List es p) (cF ms):=bW8 h.1 (h.2.1▸Nat.le_of_ble_eq_true hz)
theorem cW0{k:Option Expr}{ks:List (Option Expr)}{vs:List Expr}{p:Pos}(hz:Nat.ble (k::ks).length 15=true)(ps:List (EM×EM))(h:bH5 G n B (k::ks) vs ps):aY G n B (.Dict (k::ks) vs p) (cI ps):=bW9 h.1 h.2.1 h.2.2.1 (List.cons_ne_nil _ _) (Nat.le_of_ble_eq_true hz) h.2.2.2
theorem dG1{o i:Expr}{p:Pos}(f:uS i)(a b:EM)(h:aY G n B o a)(g:aY G n B i b):aY G n B (.Subscript o i p) (aG a b):=cN0 h g f.su
theorem cW3(O:G.Ok)(C:oH G){o:Expr}{s:Str}{x:String}{p:Pos}(gx:s=Str.ofString x∧uR G (Str.ofString x))(hb:mU o)(a:EM)(h:aY G n B o a):aY G n B (.Attribute o s p) (aR a x):=by
 obtain⟨rfl,gx⟩:=gx;exact bX5 O C gx h (cU1 hb)
noncomputable def isGl (B:fB) (x:Str):Bool:=decide (B.sc.names.lookup x=some .globalImplicit)&& !(x==("__debug__":Str))
theorem nU{x:Str}(h:isGl B x=true):B.sc.names.lookup x=some .globalImplicit:=of_decide_eq_true (Bool.and_eq_true_iff.mp h).1
theorem aM2{x:Str}(h:isGl B x=true):(x==("__debug__":Str))=false:=by
 have:=(Bool.and_eq_true_iff.mp h).2
 rwa [Bool.not_eq_true']at this
theorem cV6(O:G.Ok){x:Str}{p:Pos}(h:isGl B x=true)(v:V)(g:wS G x v):aY G n B (.Name x p) (aX v):=bA8 O g (nU h) (aM2 h)
theorem cW2(O:G.Ok){nm:Str}{a:Addr}{f:FM}{es:List Expr}{p pos:Pos}(h:isGl B nm=true)(gf:cG1 G nm a)(hf:rA G n a f)(ms:List EM)(r:uU G n B es ms):aY G n B (.Call (.Name nm p) es [] pos) (aJ f ms):=bX2 O gf hf r.1 (nU h) r.2.2 r.2.1 (aM2 h)
theorem dG6(O:G.Ok){c:CN}{nm:Str}{aI:Addr}{f:FM}{es:List Expr}{p pos:Pos}(gn:cG0 G c nm aI)(h:isGl B nm=true)(hf:lY G 1 aI f∧2≤n)(ms:List EM)(r:uU G n B es ms):aY G n B (.Call (.Name nm p) es [] pos) (kN c f ms):=cN6 O gn hf.1 hf.2 r.1 (nU h) r.2.2 r.2.1 (aM2 h)
theorem cV4(O:G.Ok)(C:oH G){o:Expr}{s:Str}{x:String}{c:CN}{ad:Addr}{f:FM}{es:List Expr}{ap pos:Pos}{l:List String}(hs:s=Str.ofString x∧x∈l)(gm:aG2 G c s ad)(hf:rA G n ad f)(hb:mU o)(h:(Nat.ble es.length 9&&(ap.endLine==pos.line))=true)(a:EM)(ms:List EM)(ha:aY G n B o a)(r:uU G n B es ms):aY G n B (.Call (.Attribute o s ap) es [] pos) (dU c x f a ms):=by
 obtain⟨rfl,_⟩:=hs;exact bW7 O C gm hf ha r.1 r.2.2 r.2.1 (u8 hb h r.2.2)
theorem dG5(O:G.Ok){o:Expr}{s:Str}{ap pos:Pos}(hs:(s=="pop")=true)(hb:mU o)(h:(Nat.ble ([]:List Expr).length 9&&(ap.endLine==pos.line))=true)(a:EM)(ha:aY G n B o a):aY G n B (.Call (.Attribute o s ap) [] [] pos) (qX a):=by
 obtain rfl:=beq_iff_eq.mp hs;exact cN3 O ha (u8 hb h rfl)
theorem bU7(O:G.Ok){o e:Expr}{s:Str}{ap pos:Pos}(hs:(s=="append")=true)(hb:mU o)(h:(Nat.ble [e].length 9&&(ap.endLine==pos.line))=true)(hp:cW [e]=true)(a b:EM)(ha:aY G n B o a)(g:aY G n B e b):aY G n B (.Call (.Attribute o s ap) [e] [] pos) (b7 a b):=by
 obtain rfl:=beq_iff_eq.mp hs;exact bB0 O ha g (List.all_eq_true.mp hp _ (.head _)) (u8 hb h hp)
theorem dG8(O:G.Ok){o e d:Expr}{s:Str}{ap pos:Pos}(hs:(s=="get")=true)(hb:mU o)(h:(Nat.ble [e,d].length 9&&(ap.endLine==pos.line))=true)(hp:cW [e,d]=true){a:EM}(ha:aY G n B o a)(b c:EM)(g:aY G n B e b)(k:aY G n B d c):aY G n B (.Call (.Attribute o s ap) [e,d] [] pos) (jQ a b c):=by
 obtain rfl:=beq_iff_eq.mp hs;exact cO0 O ha g k (List.all_eq_true.mp hp _ (.head _)) (List.all_eq_true.mp hp _ (.tail _ (.head _))) (u8 hb h hp)
theorem dG2{s:Str}{k:Nat}{p:Pos}(l:List String)(x:String)(h:s=Str.ofString x∧x∈l):aY G n B (.Constant (.str s) k p) (bU x):=by
 obtain⟨rfl,_⟩:=h;exact cN1
noncomputable def Nm (B:fB) (x:Str) (i:Nat):Prop:=B.ns[i]? =some x
noncomputable def aL9 (B:fB) (x:Str):dR (Nm B x):=if h:B.ns[B.ns.idxOf x]? =some x then ok _ h else no
noncomputable def bI0 (G:GC) (n:Nat) (B:fB) (sc:Scope) (x:Str) (it e:Expr) (q:List (Nat×Nat)×Nat×List Str×EM×EM):Prop:=pP B sc q.1 x q.2.1 q.2.2.1∧aY G n B it q.2.2.2.1∧aY G n ⟨mI B.sc sc,q.2.2.1⟩ e q.2.2.2.2∧uS it
noncomputable def eCm (q:List (Nat×Nat)×Nat×List Str×EM×EM):EM:=gX q.1 q.2.1 q.2.2.2.1 q.2.2.2.2
theorem cW1{sc:Scope}{l:List Comprehension}{r:(Str×Pos)×Expr}{e:Expr}{p:Pos}(hl:dE4 l r)(q:List (Nat×Nat)×Nat×List Str×EM×EM)(h:bI0 G n B sc r.1.1 r.2 e q):aY G n B (.ListComp e l sc p) (eCm q):=hl▸bX0 h.1 h.2.1 h.2.2.1 (fun _ _=>rfl) h.2.2.2.fo
noncomputable def bC6 (B:fB) (z:Str) (pz sp:Pos) (sc:Scope) (p:Pos):Bool:=decide (B.sc.names.lookup z=some .local)&&(decide (B.sc.kind= .function)&&(decide (p.line=sp.line)&&(decide (pz.line=sp.line)&& !(sc.names.any fun p=>p.1==z&&(p.2== .local||p.2== .cell)))))
theorem bI4{z:Str}{u:Expr}{r:Expr×((Str×Pos)×Expr)×Scope×Pos}{pz sp:Pos}{i:Nat}(hu:cL4 u r)(hi:Nm B z i)(g:bC6 B z pz sp r.2.2.1 r.2.2.2=true)(q:List (Nat×Nat)×Nat×List Str×EM×EM)(h:bI0 G n B r.2.2.1 r.2.1.1.1 r.2.1.2 r.1 q):fA G n B (.Assign [.Name z pz] u sp) (aV i (eCm q)):=by
 unfold bC6 at g
 rw[Bool.and_eq_true,Bool.and_eq_true,Bool.and_eq_true,Bool.and_eq_true,decide_eq_true_eq,decide_eq_true_eq,decide_eq_true_eq,decide_eq_true_eq,Bool.not_eq_true']at g
 rw[show u=_ from hu]
 exact aH7 h.1 h.2.1 h.2.2.1 hi g.1 g.2.1 g.2.2.1 g.2.2.2.1 g.2.2.2.2 (fun _ _=>rfl) h.2.2.2.fo
theorem dG7{e:Expr}{p:Pos}(q:Int×Nat×Pos)(h:dE2 e q):aY G n B (.UnaryOp .USub e p) (aB (-q.1)):=by rw[show e=_ from h];exact cN7
theorem dG4{o st:Expr}{lo hi:Option Expr}{p pos:Pos}{q:(Int×Nat×Pos)×Pos}(hq:dE0 st q)(h:lo=none∧hi=none∧q.1.1=1)(a:EM)(ha:aY G n B o a):aY G n B (.Subscript o (.Slice lo hi (some st) p) pos) (oG a):=by
 rw[show st=_ from hq,h.1,h.2.1,h.2.2];exact cN2 ha
theorem cL6{o i:Expr}{q:Option Expr×Option Expr×Option Expr×Pos}{pos:Pos}(hq:bT4 i q)(m:EM)(h:aY G n B (.Subscript o (.Slice q.1 q.2.1 q.2.2.1 q.2.2.2) pos) m):aY G n B (.Subscript o i pos) (id m):=by rw[show i=_ from hq];exact h
theorem cV8{t it:Expr}{q:(Str×Pos)×List Expr×Pos}{body:List Stmt}{pos:Pos}(hq:cL5 it q)(m:SM)(h:fA G n B (.For t (.Call (.Name q.1.1 q.1.2) q.2.1 [] q.2.2) body [] pos) m):fA G n B (.For t it body [] pos) (id m):=by rw[show it=_ from hq];exact h
theorem cV7{t it:Expr}{q:Str×Pos}{body:List Stmt}{pos:Pos}(hq:bH6 t q)(m:SM)(h:fA G n B (.For (.Name q.1 q.2) it body [] pos) m):fA G n B (.For t it body [] pos) (id m):=by rw[show t=_ from hq];exact h
theorem bI5(O:G.Ok)(C:oH G){o e:Expr}{s:Str}{x:String}{p sp:Pos}(gx:s=Str.ofString x∧uR G (Str.ofString x))(f:uS e)(a b:EM)(h:aY G n B o a)(g:aY G n B e b):fA G n B (.Assign [.Attribute o s p] e sp) (cJ a x b):=by
 obtain⟨rfl,gx⟩:=gx;exact aH8 O C gx h g fun env l=>f.sw _ l env
theorem bU6{o k e:Expr}{p sp:Pos}(f:uS e){a:EM}(h:aY G n B o a)(b c:EM)(g:aY G n B k b)(q:aY G n B e c):fA G n B (.Assign [.Subscript o k p] e sp) (bP a b c):=aS3 h g q fun env l=>f.sw _ l env
theorem cV9{e:Expr}{p:Pos}(f:uS e)(a:EM)(h:aY G n B e a):fA G n B (.Expr e p) (cG a):=bK2 h fun env l=>f.sw _ l env
variable (hB:jC B=true)
include hB
theorem dN4{x:Str}{p:Pos}(i:Nat)(h:Nm B x i):aY G n B (.Name x p) (aA i):=cX6 hB i h
theorem dG3{x:Str}{e:Expr}{p sp:Pos}(f:uS e)(i:Nat)(a:EM)(h:Nm B x i)(g:aY G n B e a):fA G n B (.Assign [.Name x p] e sp) (aV i a):=bY2 h (m6 hB h).1 g fun env l=>f.sw _ l env
theorem dH2{t e:Expr}{sp:Pos}{q:Str×Pos}(ht:bH6 t q)(i:Nat)(a:EM)(h:Nm B q.1 i)(g:aY G n B e a):fA G n B (.AugAssign t .Add e sp) (mH i a):=by rw[show t=_ from ht];exact bK4 hB i h g
theorem dG9{x:Str}{it:Expr}{body:List Stmt}{p pos:Pos}{i:Nat}(h:Nm B x i)(f:uS it)(a:EM)(b:SM)(g:aY G n B it a)(k:hZ G n B body b):fA G n B (.For (.Name x p) it body [] pos) (dL i a b):=bY4 h (m6 hB h).1 g k (fun _ _=>rfl) f.fo
theorem cL8(O:G.Ok)(K:vX G){x r:Str}{e:Expr}{body:List Stmt}{p pos rp q:Pos}{i:Nat}(h:Nm B x i)(hr:(r=="range")=true)(hg:isGl B r=true)(hp:cW [e]=true)(a:EM)(b:SM)(g:aY G n B e a)(k:hZ G n B body b):fA G n B (.For (.Name x p) (.Call (.Name r rp) [e] [] q) body [] pos) (fH i (aB 0) a b):=by
 obtain rfl:=beq_iff_eq.mp hr;exact bB4 O K.rng (nU hg) h (m6 hB h).1 g k (List.all_eq_true.mp hp _ (.head _)) (fun _ _=>rfl) (fun _ _=>rfl)
theorem cL7(O:G.Ok)(K:vX G){x r:Str}{e f:Expr}{body:List Stmt}{p pos rp q:Pos}{i:Nat}(h:Nm B x i)(hr:(r=="range")=true)(hg:isGl B r=true)(hp:cW [e,f]=true){c:EM}(g':aY G n B e c)(a:EM)(b:SM)(g:aY G n B f a)(k:hZ G n B body b):fA G n B (.For (.Name x p) (.Call (.Name r rp) [e,f] [] q) body [] pos) (fH i c a b):=by
 obtain rfl:=beq_iff_eq.mp hr;exact bB3 O K.rng (nU hg) h (m6 hB h).1 g' g k (List.all_eq_true.mp hp _ (.head _)) (List.all_eq_true.mp hp _ (.tail _ (.head _))) (fun _ _=>rfl) (fun _ _=>rfl)
end
noncomputable abbrev Tr (G:GC) (n:Nat):Type:=((B:fB)→jC B=true→(e:Expr)→dR (aY G n B e))×((B:fB)→jC B=true→(e:Expr)→dR (gD G n B e))×((B:fB)→jC B=true→(l:List Stmt)→dR (hZ G n B l))
section
variable {G:GC}{n:Nat}(O:G.Ok)(C:oH G)(K:vX G)(c:Fn→FM)(hc:∀f,rA G n (oJ f) (c f))(nw:(k:CN)→dR fun f:FM=>lY G 1 (tZ k) f∧2≤n)(T:Tr G n)(B:fB)(hB:jC B=true)
noncomputable def zEs:(l:List Expr)→dR (uU G n B l)
 |[]=>ok [] ⟨kJ,rfl,rfl⟩
 |e::l=>gd (gO e) fun h=>k2 (T.1 B hB e) (zEs l) List.cons (cS9 h)
noncomputable def zPs:(k:List (Option Expr))→(l:List Expr)→dR (bH5 G n B k l)
 |[],[]=>ok [] ⟨bY6,rfl,rfl,rfl⟩
 |some k::ks,v::vs=>bd (T.1 B hB k) fun a h=>bd (T.1 B hB v) fun b g=>k1 (zPs ks vs) (List.cons (a,b)) (cQ7 h g)
 |_,_=>no
noncomputable def zO:(e:Option Expr)→dR (aR0 G n B e)
 |none=>ok none bK7
 |some e=>k1 (T.1 B hB e) some fun _=>bK6
noncomputable def dF0 (x:Str) (p:Pos):dR (aY G n B (.Name x p)):=vW (k1 (aL9 B x) aA (dN4 hB)) (gd (isGl B x) fun h=>k1 (glob O x) aX (cV6 O h))
noncomputable def cG5 (sc:Scope) (x:Str) (it e:Expr):dR (bI0 G n B sc x it e):=
 let fr:=B.ns.filter fun y=>sc.names.contains (y,.free)
 let caps:=fr.zipIdx.map fun p=>(p.2,B.ns.idxOf p.1)
 let ns:=fr++[x]
 bd (T.1 B hB it) fun s hs=>gd (aK4 B sc caps x fr.length ns) fun h=>bd (wK it) fun _ hf=>gd (jC ⟨mI B.sc sc,ns⟩) fun g=>bd (T.1 _ g e) fun m hm=>ok (caps,fr.length,ns,s,m) ⟨bR3 h,hs,hm,hf⟩
noncomputable def dF4 (nm:Str) (p pos:Pos) (es:List Expr):dR (aY G n B (.Call (.Name nm p) es [] pos)):=
 gd (isGl B nm) fun h=>bd (dP5 G nm) fun f g=>k1 (zEs T B hB es) (aJ (c f)) (cW2 O h g (hc f))
noncomputable def dF6 (id:Str) (p pos:Pos):(es:List Expr)→dR (aY G n B (.Call (.Name id p) es [] pos))
 |[e]=>gd (isGl B id) fun h=>gd (gO e) fun g=>bd (T.1 B hB e) fun a ha=>
   if q:id=("len":Str)then ok (cH a) (by subst q;exact cN8 O K.len ha (nU h) g)
   else if q:id=("tuple":Str)then ok (gI a) (by subst q;exact aS2 O K.tup ha (nU h) g)
   else if q:id=("list":Str)then ok (iP a) (by subst q;exact bA7 O K.lst ha (nU h) g)
   else no
 |_=>no
noncomputable def cV1 (nm:Str) (p pos:Pos) (es:List Expr):List CN→dR (aY G n B (.Call (.Name nm p) es [] pos))
 |[]=>no
 |k::l=>if h:cJ7 k=nm then gd (isGl B nm) fun g=>bd (nw k) fun f hf=>k1 (zEs T B hB es) (kN k f) (dG6 O (h▸K.new k) g hf)else cV1 nm p pos es l
noncomputable def dF2 (o:Expr) (s:Str) (ap pos:Pos) (hb:mU o):(es:List Expr)→(Nat.ble es.length 9&&(ap.endLine==pos.line))=true→dR (aY G n B (.Call (.Attribute o s ap) es [] pos))
 |[],h=>gd (s=="pop") fun q=>k1 (T.1 B hB o) qX (dG5 O q hb h)
 |[e],h=>gd (s=="append") fun q=>gd (cW [e]) fun g=>k2 (T.1 B hB o) (T.1 B hB e) b7 (bU7 O q hb h g)
 |[e,d],h=>gd (s=="get") fun q=>gd (cW [e,d]) fun g=>bd (T.1 B hB o) fun a ha=>k2 (T.1 B hB e) (T.1 B hB d) (jQ a) (dG8 O q hb h g ha)
 |_,_=>no
noncomputable def dF1 (o:Expr) (s:Str) (ap pos:Pos) (es:List Expr):dR (aY G n B (.Call (.Attribute o s ap) es [] pos)):=
 bd (cK2 o) fun _ hb=>gd (Nat.ble es.length 9&&(ap.endLine==pos.line)) fun h=>
  vW (bd (aF1 s ["row","put","sort","base","ifaces_at","under","variance"]) fun x hx=>bd (bN5 G s [.table,.host,.book]) fun f hf=>k2 (T.1 B hB o) (zEs T B hB es) (dU f.1 x (c f.2)) (cV4 O C hx hf (hc f.2) hb h)) (dF2 O T B hB o s ap pos hb es h)
noncomputable def cG6 (s:Str):dR fun x:String=>s=Str.ofString x∧uR G (Str.ofString x):=k1 (aF1 s ["rows","index","depths","weights","opens","kt","bases","ifaces","sorts","variances","unders","bounds","gflags","news","strict","pairs","listed","proved"]) id fun x h=>⟨h.1,K.own x h.2⟩
noncomputable def cV2 (k:Nat) (p:Pos) (v:Const):dR (aY G n B (.Constant v k p)):=by induction v using PySem.Const.casesOn with
 |int i=>exact ok (aB i) cN9
 |bool b=>exact ok (b0 b) bX3
 |str s=>exact k1 (aF1 s ["base","faces","kt","made","num","under","ways"]) bU (dG2 _)
 |_=>exact no
noncomputable def dF5 (op:PySem.BoolOp) (e:Expr) (p:Pos) (es:List Expr):dR (aY G n B (.BoolOp op (e::es) p)):=by induction es using List.casesOn with
 |nil=>induction op using PySem.BoolOp.casesOn with
  |And=>exact k1 (T.1 B hB e) id fun _=>bX6
  |Or=>exact k1 (T.1 B hB e) id fun _=>cN4
 |cons f es=>induction op using PySem.BoolOp.casesOn with
  |And=>exact k2 (T.1 B hB e) (T.1 B hB (.BoolOp .And (f::es) p)) gZ fun _ _=>cO4
  |Or=>exact k2 (T.1 B hB e) (T.1 B hB (.BoolOp .Or (f::es) p)) mV fun _ _=>cX5
noncomputable def dN0 (o:Expr) (lo hi:Option Expr) (p pos:Pos) (st:Option Expr):dR (aY G n B (.Subscript o (.Slice lo hi st p) pos)):=by induction st using Option.casesOn with
 |none=>exact bd (T.1 B hB o) fun a ha=>k2 (zO T B hB lo) (zO T B hB hi) (hX a) fun _ _=>cO1 ha
 |some st=>exact bd (dO7 st) fun q hq=>if h:lo=none∧hi=none∧q.1.1=1 then k1 (T.1 B hB o) oG (dG4 hq h)else no
noncomputable def dM7 (o i:Expr) (pos:Pos):dR (aY G n B (.Subscript o i pos)):=
 vW (bd (cX4 i) fun q hq=>k1 (dN0 T B hB o q.1 q.2.1 q.2.2.2 pos q.2.2.1) id (cL6 hq)) (bd (wK i) fun _ f=>k2 (T.1 B hB o) (T.1 B hB i) aG (dG1 f))
noncomputable def dN1 (l:Expr) (p:Pos) (op:CmpOp) (r:Expr):dR (aY G n B (.Compare l [op] [r] p)):=bd (bE7 op) fun o ho=>gd (!behindInMarks op r) fun h=>k2 (T.1 B hB l) (T.1 B hB r) (fun a b=>cP (aK o a b)) (dH0 O ho h)
noncomputable def zE (e:Expr):dR (aY G n B e):=by induction e using PySem.Expr.casesOn with
 |Constant v k p=>exact cV2 B k p v
 |UnaryOp op e p=>induction op using PySem.UnaryOp.casesOn with
  |USub=>exact k1 (dB5 e) (fun q=>aB (-q.1)) dG7
  |Not=>exact k1 (T.1 B hB e) mO fun _=>cN5
  |_=>exact no
 |Name x p=>exact dF0 O B hB x p
 |Tuple es k p=>exact gd (Nat.ble es.length 1000) fun h=>k1 (zEs T B hB es) aE (dG0 h)
 |List es p=>exact gd (Nat.ble es.length 1000) fun h=>k1 (zEs T B hB es) cF (cV5 h)
 |Dict ks vs p=>induction ks using List.casesOn with
  |nil=>induction vs using List.casesOn with
   |nil=>exact ok (cI []) bJ9
   |cons=>exact no
  |cons k ks=>exact gd (Nat.ble (k::ks).length 15) fun h=>k1 (zPs T B hB (k::ks) vs) cI (cW0 h)
 |BinOp l op r p=>exact bd (dP9 op) fun o ho=>k2 (T.1 B hB l) (T.1 B hB r) (aT o) (dH1 ho)
 |Compare l ops rs p=>induction ops using List.casesOn with
  |nil=>exact no
  |cons op ops=>induction ops using List.casesOn with
   |cons=>exact no
   |nil=>induction rs using List.casesOn with
    |nil=>exact no
    |cons r rs=>induction rs using List.casesOn with
     |cons=>exact no
     |nil=>exact dN1 O T B hB l p op r
 |BoolOp op es p=>induction es using List.casesOn with
  |nil=>exact no
  |cons e es=>exact dF5 T B hB op e p es
 |IfExp t a b p=>exact bd (T.2.1 B hB t) fun t ht=>k2 (T.1 B hB a) (T.1 B hB b) (fF t) fun _ _=>cX7 ht
 |Subscript o i pos=>exact dM7 T B hB o i pos
 |Attribute o s p=>exact bd (cG6 K s) fun x hx=>bd (cK2 o) fun _ hb=>k1 (T.1 B hB o) (fun a=>aR a x) (cW3 O C hx hb)
 |ListComp elt l sc p=>exact bd (dB9 l) fun q hq=>k1 (cG5 T B hB sc q.1.1 q.2 elt) eCm (cW1 hq)
 |Call f es ks pos=>induction ks using List.casesOn with
  |cons=>exact no
  |nil=>induction f using PySem.Expr.casesOn with
   |Name nm p=>exact vW (dF6 O K T B hB nm p pos es) (vW (cV1 O K nw T B hB nm p pos es [.table,.host,.book]) (dF4 O c hc T B hB nm p pos es))
   |Attribute o s ap=>exact dF1 O C c hc T B hB o s ap pos es
   |_=>exact no
 |_=>exact no
noncomputable def dF9 (op:PySem.BoolOp) (e:Expr) (p:Pos) (es:List Expr):dR (gD G n B (.BoolOp op (e::es) p)):=by induction es using List.casesOn with
 |nil=>induction op using PySem.BoolOp.casesOn with
  |And=>exact k1 (T.2.1 B hB e) id fun _=>bK1
  |Or=>exact k1 (T.2.1 B hB e) id fun _=>bX7
 |cons f es=>induction op using PySem.BoolOp.casesOn with
  |And=>exact k2 (T.2.1 B hB e) (T.2.1 B hB (.BoolOp .And (f::es) p)) eJ fun _ _=>bY0
  |Or=>exact k2 (T.2.1 B hB e) (T.2.1 B hB (.BoolOp .Or (f::es) p)) dT fun _ _=>cO5
noncomputable def dN3 (l:Expr) (p:Pos) (op:CmpOp) (r:Expr):dR (gD G n B (.Compare l [op] [r] p)):=bd (bE7 op) fun o ho=>gd (!behindInMarks op r) fun h=>k2 (T.1 B hB l) (T.1 B hB r) (aK o) (dF7 O ho h)
noncomputable def dF8 (l:Expr) (p:Pos) (op op':CmpOp) (m r:Expr):dR (gD G n B (.Compare l [op,op'] [m,r] p)):=bd (bE7 op) fun o ho=>bd (bE7 op') fun o' ho'=>gd (!lastMarks [op,op'] [m,r]) fun h=>bd (T.1 B hB l) fun a ha=>k2 (T.1 B hB m) (T.1 B hB r) (oM o o' a) fun b c=>cV3 O ho ho' h b c ha
noncomputable def zT (e:Expr):dR (gD G n B e):=by induction e using PySem.Expr.casesOn with
 |UnaryOp op e p=>induction op using PySem.UnaryOp.casesOn with
  |Not=>exact k1 (T.2.1 B hB e) gG fun _=>bX8
  |_=>exact no
 |Compare l ops rs p=>induction ops using List.casesOn with
  |nil=>exact no
  |cons op ops=>induction rs using List.casesOn with
   |nil=>exact no
   |cons m rs=>induction ops using List.casesOn with
    |nil=>induction rs using List.casesOn with
     |nil=>exact dN3 O T B hB l p op m
     |cons=>exact no
    |cons op' ops=>induction ops using List.casesOn with
     |cons=>exact no
     |nil=>induction rs using List.casesOn with
      |nil=>exact no
      |cons r rs=>induction rs using List.casesOn with
       |cons=>exact no
       |nil=>exact dF8 O T B hB l p op op' m r
 |BoolOp op es p=>induction es using List.casesOn with
  |nil=>exact no
  |cons e es=>exact dF9 T B hB op e p es
 |Name x p=>exact k1 (T.1 B hB (.Name x p)) bL fun _ h=>o6 h fun _ _=>rfl
 |Call f as ks p=>exact k1 (T.1 B hB (.Call f as ks p)) bL fun _ h=>o6 h fun _ _=>rfl
 |Subscript o i p=>exact k1 (T.1 B hB (.Subscript o i p)) bL fun _ h=>o6 h fun _ _=>rfl
 |Attribute o s p=>exact k1 (T.1 B hB (.Attribute o s p)) bL fun _ h=>o6 h fun _ _=>rfl
 |BinOp l o r p=>exact k1 (T.1 B hB (.BinOp l o r p)) bL fun _ h=>o6 h fun _ _=>rfl
 |_=>exact no
noncomputable def dF3 (x:Str) (p:Pos) (i:Nat) (h:Nm B x i) (body:List Stmt) (pos:Pos) (r:Str) (rp:Pos) (q:Pos):(es:List Expr)→dR (fA G n B (.For (.Name x p) (.Call (.Name r rp) es [] q) body [] pos))
 |[e]=>gd (r=="range") fun hr=>gd (isGl B r) fun hg=>gd (cW [e]) fun hp=>k2 (T.1 B hB e) (T.2.2 B hB body) (fH i (aB 0)) (cL8 hB O K h hr hg hp)
 |[e,f]=>gd (r=="range") fun hr=>gd (isGl B r) fun hg=>gd (cW [e,f]) fun hp=>bd (T.1 B hB e) fun a ha=>k2 (T.1 B hB f) (T.2.2 B hB body) (fH i a) (cL7 hB O K h hr hg hp ha)
 |_=>no
noncomputable def dM9 (x:Str) (p:Pos) (body:List Stmt) (pos:Pos) (it:Expr):dR (fA G n B (.For (.Name x p) it body [] pos)):=
 bd (aL9 B x) fun i h=>vW (bd (dJ6 it) fun q e=>k1 (dF3 O K T B hB x p i h body pos q.1.1 q.1.2 q.2.2 q.2.1) id (cV8 e)) (bd (wK it) fun _ f=>k2 (T.1 B hB it) (T.2.2 B hB body) (dL i) (dG9 hB h f))
noncomputable def dM8 (x:Str) (p:Pos) (e:Expr) (sp:Pos):dR (fA G n B (.Assign [.Name x p] e sp)):=
 bd (aL9 B x) fun i hi=>vW (bd (dJ5 e) fun q he=>gd (bC6 B x p sp q.2.2.1 q.2.2.2) fun g=>k1 (cG5 T B hB q.2.2.1 q.2.1.1.1 q.2.1.2 q.1) (fun r=>aV i (eCm r)) (bI4 he hi g)) (bd (wK e) fun _ f=>k2 (aL9 B x) (T.1 B hB e) aV (dG3 hB f))
noncomputable def dN2 (e:Expr) (sp:Pos) (t:Expr):dR (fA G n B (.Assign [t] e sp)):=by induction t using PySem.Expr.casesOn with
 |Name x p=>exact dM8 T B hB x p e sp
 |Attribute o s p=>exact bd (cG6 K s) fun x hx=>bd (wK e) fun _ f=>k2 (T.1 B hB o) (T.1 B hB e) (fun a=>cJ a x) (bI5 O C hx f)
 |Subscript o k p=>exact bd (wK e) fun _ f=>bd (T.1 B hB o) fun a ha=>k2 (T.1 B hB k) (T.1 B hB e) (bP a) (bU6 f ha)
 |_=>exact no
noncomputable def zS (st:Stmt):dR (fA G n B st):=by induction st using PySem.Stmt.casesOn with
 |Return e p=>induction e using Option.casesOn with
  |none=>exact no
  |some e=>exact k1 (T.1 B hB e) aW fun _=>bY3
 |Assign ts e sp=>induction ts using List.casesOn with
  |nil=>exact no
  |cons t ts=>induction ts using List.casesOn with
   |nil=>exact dN2 O C K T B hB e sp t
   |cons=>exact no
 |AugAssign t op e sp=>induction op using PySem.Operator.casesOn with
  |Add=>exact bd (aF4 t) fun z hz=>k2 (aL9 B z.1) (T.1 B hB e) mH (dH2 hB hz)
  |_=>exact no
 |Expr e p=>exact bd (wK e) fun _ f=>k1 (T.1 B hB e) cG (cV9 f)
 |If t a b p=>exact bd (T.2.1 B hB t) fun t ht=>k2 (T.2.2 B hB a) (T.2.2 B hB b) (a8 t) fun _ _=>cO6 ht
 |While t a l p=>induction l using List.casesOn with
  |nil=>exact k2 (T.2.1 B hB t) (T.2.2 B hB a) iS fun _ _=>bB1
  |cons=>exact no
 |For t it body l pos=>induction l using List.casesOn with
  |nil=>exact bd (aF4 t) fun z hz=>k1 (dM9 O K T B hB z.1 z.2 body pos it) id (cV7 hz)
  |cons=>exact no
 |Continue p=>exact ok xE bK3
 |Try body hs l f p=>induction hs using List.casesOn with
  |nil=>exact no
  |cons=>induction l using List.casesOn with
   |cons=>exact no
   |nil=>induction f using List.casesOn with
    |cons=>exact no
    |nil=>exact k1 (T.2.2 B hB body) id fun _=>bY1
 |_=>exact no
noncomputable def zB:(l:List Stmt)→dR (hZ G n B l)
 |[]=>ok aF bY7
 |st::l=>k2 (vW (zS O C K T B hB st) (ok fX bB2)) (zB l) aC fun _ _=>bK8
noncomputable def tr:Nat→Tr G n
 |0=>⟨fun _ _ _=>no,fun _ _ _=>no,fun _ _ _=>no⟩
 |k+1=>⟨fun B h=>zE O C K c hc nw (tr k) B h,fun B h=>zT O (tr k) B h,fun B h=>zB O C K (tr k) B h⟩
noncomputable def trF (i:Nat):dR (lY G (n+1) (oJ (i:Nat))):=
 match hl:G.K.lookup (oJ (i:Nat))with
 |some ⟨_,_,.func fd,_⟩=>match hb:fd.body with
  | .stmts body=>if h:i<71 then gd (bC7 G.K fd (qU i) (wC i)) fun g=>k1 ((tr O C K c hc nw 60).2.2 ⟨fd.scope,wC i⟩ (aM6 K h hl hb g).1 body) (mkF (qU i)) fun _ r=>cO7 O (aM6 K h hl hb g).2 r else no
  |_=>no
 |_=>no
end
end
section
noncomputable def ini (k:CN):FM:=by cases k with
 |table=>exact mkF 1 (jG fun _ _ _=>none)
 |host=>exact mkF 2 (mA fun _ _ _=>none)
 |book=>exact mkF 2 (nZ fun _ _ _=>none)
section
variable {G:GC}{n:Nat}
theorem nN(f:Addr):rA G n f (fun _ _=>none):=fun A α σ s vs l x σ' _ _ _ e=>by cases e
theorem aH4{O:G.Ok}{C:oH G}{K:vX G}{c:Fn→FM}{hc:∀f,rA G n (oJ f) (c f)}{nw:(k:CN)→dR fun f:FM=>lY G 1 (tZ k) f∧2≤n}{i:Nat}{a:Addr}{f:FM}(h:Option.map (·.1) (trF O C K c hc nw i)=some f)(ha:oJ (i:Nat)=a):lY G (n+1) a f:=ha▸cA3 h
noncomputable def nw1 (hi:∀k,lY G 1 (tZ k) (ini k)) (h2:2≤n) (k:CN):dR fun f:FM=>lY G 1 (tZ k) f∧2≤n:=ok (ini k) ⟨hi k,h2⟩
theorem bR6{c:Fn→FM}(i:Nat)(h:71≤i):hG c (i:Nat)=fun _ _=>none:=by
 show(bR7 c).getD i _=_
 rw[List.getD_eq_getElem?_getD,List.getElem?_eq_none h,Option.getD_none]
noncomputable def bT3 (G:GC):Prop:=∀(O:G.Ok) (C:oH G) (K:vX G) (n:Nat) (c:Fn→FM) (hc:∀f,rA G n (oJ f) (c f)) (hi:∀k,lY G 1 (tZ k) (ini k)) (h2:2≤n),(List.range 71).map (fun i=>Option.map (·.1) (trF O C K c hc (nw1 hi h2) i))=(List.range 71).map fun i=>some (hG c (i:Nat))
theorem aW2(hs:bT3 G)(K:vX G)(hi:∀k,lY G 1 (tZ k) (ini k)):∀n f,rA G n (oJ f) (aL n f)
 |0,f=>nN _
 |n+1,f=>by
  unfold aL
  by_cases g:n<2
  ·rw[if_pos g];exact nN _
  ·rw[if_neg g]
   refine lY.simF (n:=n+1) ?_
   by_cases g':(show Nat from f)<71
   ·exact cA3 (aJ9 (hs K.ok K.gcls K n _ (fun f=>aW2 hs K hi n f) hi (Nat.le_of_not_lt g)) g')
   ·rw[show hG (aL n) f=_ from bR6 f (Nat.le_of_not_lt g')]
    exact fun A α σ s vs l x σ' _ _ _ e=>by cases e
end
end
section
section
variable {G:GC}{P:Params}
theorem cS4{vs:List Value}{ns:List Int}(h:IntsAre vs ns):vs.map lG=ns.map some:=by
 induction h with
 |nil=>rfl
 |cons _ _ _ ih=>rw[List.map_cons,List.map_cons,ih];rfl
noncomputable def xT:List Str:=["script","nums","host","w","e","num","twin","rows","j"]
theorem cR9{A:Around}{qn:Str}{sc:Scope}{fa:Addr}{cd:Value}{body:List Stmt}{h₁:Heap}{s₁:Shared}{L l:Addr}{vs:List Value}{xs:List Int}{tk:Nat}{n:Nat}{ρ':Env}{σ':aD}(F:Fr G.h0 L h₁ (fun x=>[(("script":Str),Value.ref l)].reverse.lookup x))
  (hB:hZ G n ⟨sc,xT⟩ body (vG (aL n))) (hkind:sc.kind= .function) (hloc:(xT.all fun x=>sc.names.lookup x==some .local)=true)
  (hL:G.h0.IsList l vs.toArray) (hI:IntsAre vs xs) (hA:dQ A n) (e:vG (aL n) (fun i=>[V.gl xs][i]?) []=some (.ret (.bool true),ρ',σ')):
  wpAny (cK G) A (execs body (envOf qn sc L fa cd)) (fun fl s'=>fl= .ret (.bool true)∧(∀b o,G.h0.get? b=some o→s'.heap.get? b=some o)∧s'.os=s₁.os∧s'.gens=s₁.gens) fE ⟨h₁,s₁.gens,s₁.drawn,tk,s₁.os⟩:=by
 have hLn:G.h0.get? L=none:=Heap.get?_none_of_le F.above
 have hns:∀(i:Nat) (x:Str),xT[i]? =some x→sc.names.lookup x=some .local:=fun i x h=>by
  have:=List.all_eq_true.mp hloc x (List.mem_of_getElem? h)
  exact beq_iff_eq.mp this
 have R:bZ G [] [] h₁:=⟨F.keep,(by simp),List.nodup_nil,rfl,(by intro i a o h;simp at h)⟩
 have FF:eY G xT (envOf qn sc L fa cd) (fun i=>[V.gl xs][i]?) [] h₁:=by
  refine⟨hkind,rfl,rfl,by decide,⟨_,F.ns,fun i x v h1 h2 h3=> ?_⟩,fun i x v h1 h2 h3=> ?_,⟨by simp,hLn⟩,fun x c h=>(by cases h),fun x y c h=>(by cases h),fun i x h1 h2=> ?_⟩
  ·cases i with
   |succ i=>simp at h3
   |zero=>
    simp at h3
    subst h3
    have:x=("script":Str):=by
     have h1':some ("script":Str)=some x:=h1
     cases h1';rfl
    subst this
    exact⟨.ref l,by simp,.gl ⟨_,hL,cS4 hI⟩⟩
  ·have:=hns i x h1
   rw[show(envOf qn sc L fa cd).kindOf x=sc.names.lookup x from rfl,this]at h2;cases h2
  ·have:=hns i x h1
   rw[show(envOf qn sc L fa cd).kindOf x=sc.names.lookup x from rfl,this]at h2;cases h2
 refine c9 (hB.run A (envOf qn sc L fa cd) _ [] [] ⟨h₁,s₁.gens,s₁.drawn,tk,s₁.os⟩ _ ρ' σ' hA rfl FF R e) ?_
 rintro fl s' ⟨α',S,R',F',V'⟩
 refine⟨?_,R'.base,S.os,S.gens⟩
 cases V' with
 |ret hv=>cases hv;rfl
end
theorem main.tw2886537131642160817:True:=⟨⟩
theorem main.tw16438527106512547009:True:=⟨⟩
theorem main.tw13004153253509836259:True:=⟨⟩
theorem main.tw5249113136707304575:True:=⟨⟩
theorem main.tw10093994123532071389:True:=⟨⟩
theorem main.tw1687537637806219265:True:=⟨⟩
theorem main.tw13810605206505552021:True:=⟨⟩
theorem main.tw5847768233652485373:True:=⟨⟩
theorem main.tw8984083016842042348:True:=⟨⟩
theorem main.tw3869610851955650803:True:=⟨⟩
theorem main.tw4153403021248529786:True:=⟨⟩
theorem main.tw15460443108094267759:True:=⟨⟩
theorem main.tw9094327897801458549:True:=⟨⟩
theorem main.tw4801019796111996920:True:=⟨⟩
theorem main.tw11034916536091838146:True:=⟨⟩
theorem main.tw13866156564276429082:True:=⟨⟩
theorem main.tw6180482224342945610:True:=⟨⟩
theorem main.tw14693090176607500612:True:=⟨⟩
theorem main.tw17669468712313380877:True:=⟨⟩
theorem main.tw1130109773739384056:True:=⟨⟩
theorem main.tw11641305633486760505:True:=⟨⟩
theorem main.tw12692515608570085962:True:=⟨⟩
theorem main.tw2167987231272252977:True:=⟨⟩
theorem main.tw13916493215455637061:True:=⟨⟩
theorem main.tw6705506448350642104:True:=⟨⟩
theorem main.tw5022756136425776485:True:=⟨⟩
theorem main.tw9115325832939985026:True:=⟨⟩
theorem main.tw3948624256716902934:True:=⟨⟩
theorem main.tw4159460275628221608:True:=⟨⟩
theorem main.tw5055280753450627128:True:=⟨⟩
theorem main.tw16028392598184163056:True:=⟨⟩
theorem main.tw2633100523294567566:True:=⟨⟩
theorem main.tw16239573490109993236:True:=⟨⟩
theorem main.tw10130856727921027403:True:=⟨⟩
theorem main.tw15073143240194224712:True:=⟨⟩
theorem main.tw16191586338647638674:True:=⟨⟩
theorem main.tw4300612742597636624:True:=⟨⟩
theorem main.tw1112963673480286534:True:=⟨⟩
theorem main.tw11287953397327612774:True:=⟨⟩
theorem main.tw3692609847910103577:True:=⟨⟩
theorem main.tw727201121964547221:True:=⟨⟩
theorem main.tw5746062570634479219:True:=⟨⟩
theorem main.tw2928028564007261197:True:=⟨⟩
theorem main.tw9335689295537598954:True:=⟨⟩
theorem main.tw2633433360531680643:True:=⟨⟩
theorem main.tw9329782625190375798:True:=⟨⟩
theorem main.tw12830911758012122131:True:=⟨⟩
theorem main.tw7646987749624205320:True:=⟨⟩
theorem main.tw10492438308582190394:True:=⟨⟩
theorem main.tw17180643386855433878:True:=⟨⟩
theorem main.tw2737031353948269604:True:=⟨⟩
theorem main.tw7921815377644882487:True:=⟨⟩
theorem main.tw14458546566710942977:True:=⟨⟩
theorem main.tw1283526657002427284:True:=⟨⟩
theorem main.tw17293040134813132398:True:=⟨⟩
theorem main.tw10250287229669958417:True:=⟨⟩
theorem main.tw15939135216810644357:True:=⟨⟩
theorem main.tw9844532520808570107:True:=⟨⟩
theorem main.tw8909911410470603267:True:=⟨⟩
theorem main.tw6178081710517948605:True:=⟨⟩
theorem main.tw7630305487558755245:True:=⟨⟩
theorem main.tw12291804085094793745:True:=⟨⟩
theorem main.tw18238190117704969506:True:=⟨⟩
theorem main.tw18301661331662831443:True:=⟨⟩
theorem main.tw13155686724948042960:True:=⟨⟩
theorem main.tw10440920105907014920:True:=⟨⟩
theorem main.tw6357531908561853707:True:=⟨⟩
theorem main.tw4454792828321621372:True:=⟨⟩
theorem main.tw11175315845038103690:True:=⟨⟩
theorem main.tw12494496518044278946:True:=⟨⟩
theorem main.tw7722278204354554604:True:=⟨⟩
theorem main.tw7670179019842844407:True:=⟨⟩
theorem main.tw13685464850760795979:True:=⟨⟩
theorem main.tw2853208382243579297:True:=⟨⟩
theorem main.tw15193263178978695244:True:=⟨⟩
theorem main.tw12028935686920467596:True:=⟨⟩
theorem main.tw517253545763640812:True:=⟨⟩
theorem main.tw8628463995273589525:True:=⟨⟩
theorem main.tw13535308556146904540:True:=⟨⟩
theorem main.tw6795767014284890813:True:=⟨⟩
theorem main.tw13580096092930110239:True:=⟨⟩
theorem main.tw117865787843134301:True:=⟨⟩
theorem main.tw10700250215688701388:True:=⟨⟩
theorem main.tw9149475249158978189:True:=⟨⟩
theorem main.tw11343223855656382485:True:=⟨⟩
theorem main.tw8874004035559458439:True:=⟨⟩
theorem main.tw16405295038616099146:True:=⟨⟩
theorem main.tw17079325164956456438:True:=⟨⟩
theorem main.tw4867594002200624942:True:=⟨⟩
theorem main.tw10390374173888912449:True:=⟨⟩
theorem main.tw8028819869400628128:True:=⟨⟩
theorem main.tw9440510433579211515:True:=⟨⟩
theorem main.tw10297972270295956009:True:=⟨⟩
theorem main.tw12246392102278154071:True:=⟨⟩
theorem main.tw1825977663594718130:True:=⟨⟩
theorem main.tw10322969633853836883:True:=⟨⟩
theorem main.tw16136933308854893207:True:=⟨⟩
theorem main.tw9719202250092448289:True:=⟨⟩
theorem main.tw16103328417691970683:True:=⟨⟩
theorem main.tw11827359447094427065:True:=⟨⟩
theorem main.tw4960754326464356880:True:=⟨⟩
theorem main.tw10583265868896537019:True:=⟨⟩
theorem main.tw2544298430078641640:True:=⟨⟩
theorem main.tw6498197727744454919:True:=⟨⟩
theorem main.tw1770443798944706555:True:=⟨⟩
theorem main.tw1745101480760909229:True:=⟨⟩
theorem main.tw2221555247795474028:True:=⟨⟩
theorem main.tw13538414902891089991:True:=⟨⟩
theorem main.tw2650101136147908316:True:=⟨⟩
theorem main.tw14347226246240139161:True:=⟨⟩
theorem main.tw3822345752796464803:True:=⟨⟩
theorem main.tw6312091815898468018:True:=⟨⟩
theorem main.tw8372432500344545951:True:=⟨⟩
theorem main.tw4615647095033124473:True:=⟨⟩
theorem main.tw14169439949656811534:True:=⟨⟩
theorem main.tw7659538399061980777:True:=⟨⟩
theorem main.tw7009055538952385103:True:=⟨⟩
theorem main.tw18142968816848271808:True:=⟨⟩
theorem main.tw8066810042505994534:True:=⟨⟩
theorem main.tw3441466919426651201:True:=⟨⟩
theorem main.tw867116294927962039:True:=⟨⟩
theorem main.tw10444647068345236073:True:=⟨⟩
theorem main.tw11888923222419618904:True:=⟨⟩
theorem main.tw4328267247735480603:True:=⟨⟩
theorem main.tw10523394492770496998:True:=⟨⟩
theorem main.tw1101905337436055879:True:=⟨⟩
theorem main.tw16288059979852645152:True:=⟨⟩
theorem main.tw3965608284049720903:True:=⟨⟩
theorem main.tw7784495168435344669:True:=⟨⟩
theorem main.tw8074177808019917933:True:=⟨⟩
theorem main.tw15146226633581336011:True:=⟨⟩
theorem main.tw18184679981460683836:True:=⟨⟩
theorem main.tw15268511505221204785:True:=⟨⟩
theorem main.tw8858540271125762992:True:=⟨⟩
theorem main.tw15643031011164770099:True:=⟨⟩
theorem main.tw5840107092408520212:True:=⟨⟩
theorem main.tw17344839780428942418:True:=⟨⟩
theorem main.tw6649310733610355799:True:=⟨⟩
theorem main.tw6345274498042001246:True:=⟨⟩
theorem main.tw1446694761647268009:True:=⟨⟩
theorem main.tw15593932114248601048:True:=⟨⟩
theorem main.tw8262367462955680934:True:=⟨⟩
theorem main.tw9432906754913100419:True:=⟨⟩
theorem main.tw432037875751373314:True:=⟨⟩
theorem main.tw1251932400071406003:True:=⟨⟩
theorem main.tw15468000139907181785:True:=⟨⟩
theorem main.tw6498212960163673866:True:=⟨⟩
theorem main.tw6524254272908164914:True:=⟨⟩
theorem main.tw4357975833179775930:True:=⟨⟩
theorem main.tw2178821199819612820:True:=⟨⟩
theorem main.tw16218993716828157846:True:=⟨⟩
theorem main.tw9369852123599154598:True:=⟨⟩
theorem main.tw11443288096424721517:True:=⟨⟩
theorem main.tw4335910966286959084:True:=⟨⟩
theorem main.tw16035636102840645184:True:=⟨⟩
theorem main.tw7462917681035090600:True:=⟨⟩
theorem main.tw5902712137599589837:True:=⟨⟩
theorem main.tw1845388188213433419:True:=⟨⟩
theorem main.tw14292037427810857913:True:=⟨⟩
theorem main.tw3051166587225777028:True:=⟨⟩
theorem main.tw16614730806028959055:True:=⟨⟩
theorem main.tw7257662411179477739:True:=⟨⟩
theorem main.tw7387095368875260393:True:=⟨⟩
theorem main.tw8386956399160234941:True:=⟨⟩
theorem main.tw5197162745757122531:True:=⟨⟩
theorem main.tw3718984994144165473:True:=⟨⟩
theorem main.tw686864128682677561:True:=⟨⟩
theorem main.tw8624647050476810405:True:=⟨⟩
theorem main.tw8512846599769640567:True:=⟨⟩
theorem main.tw18382997825090318735:True:=⟨⟩
theorem main.tw11509008894443506685:True:=⟨⟩
theorem main.tw14116783088108353342:True:=⟨⟩
theorem main.tw16238430190936666235:True:=⟨⟩
theorem main.tw5172733860109081237:True:=⟨⟩
theorem main.tw17023186693513284007:True:=⟨⟩
theorem main.tw3267506352983639151:True:=⟨⟩
theorem main.tw4125460202920646613:True:=⟨⟩
theorem main.tw9881309371292612907:True:=⟨⟩
theorem main.tw5791107954587784898:True:=⟨⟩
theorem main.tw3059808732461744397:True:=⟨⟩
theorem main.tw10938402098977778470:True:=⟨⟩
theorem main.tw4094807246124668419:True:=⟨⟩
theorem main.tw13670416772910508549:True:=⟨⟩
theorem main.tw3306849197303780159:True:=⟨⟩
theorem main.tw15502279438172492361:True:=⟨⟩
theorem main.tw17299735379877282444:True:=⟨⟩
theorem main.tw225424674734612040:True:=⟨⟩
theorem main.tw8872105718554685360:True:=⟨⟩
theorem main.tw8402233074735576723:True:=⟨⟩
theorem main.tw2619486844233121682:True:=⟨⟩
theorem main.tw469107726730205931:True:=⟨⟩
theorem main.tw2184172125623563289:True:=⟨⟩
theorem main.tw17342739349943993621:True:=⟨⟩
theorem main.tw17616163897125503702:True:=⟨⟩
theorem main.tw4331608280046720368:True:=⟨⟩
theorem main.tw5901833263323351908:True:=⟨⟩
theorem main.tw2737750725896957826:True:=⟨⟩
theorem main.tw17900695361700684923:True:=⟨⟩
theorem main.tw9690013620090670815:True:=⟨⟩
theorem main.tw16264370154056066:True:=⟨⟩
theorem main.tw2615157128260120931:True:=⟨⟩
theorem main.tw7118179723604996413:True:=⟨⟩
theorem main.tw6663807924280617270:True:=⟨⟩
theorem main.tw18235984252551956240:True:=⟨⟩
theorem main.tw13261660738576256540:True:=⟨⟩
theorem main.tw12953558148630380205:True:=⟨⟩
theorem main.tw2379418587039239955:True:=⟨⟩
theorem main.tw4878024195029292589:True:=⟨⟩
theorem main.tw17189560309898352479:True:=⟨⟩
theorem main.tw18022016729943910643:True:=⟨⟩
theorem main.tw7679138261593991859:True:=⟨⟩
theorem main.tw12685957366688819421:True:=⟨⟩
theorem main.tw7645214217008657559:True:=⟨⟩
theorem main.tw16822983415644169815:True:=⟨⟩
theorem main.tw3958915594437787476:True:=⟨⟩
theorem main.tw11032920973336576581:True:=⟨⟩
theorem main.tw11148867138117186242:True:=⟨⟩
theorem main.tw4509215696152744449:True:=⟨⟩
theorem main.tw10695546567524401486:True:=⟨⟩
theorem main.tw17391922875715332485:True:=⟨⟩
theorem main.tw9202362961687656120:True:=⟨⟩
theorem main.tw10021318391393745522:True:=⟨⟩
theorem main.tw6958343538655003287:True:=⟨⟩
theorem main.tw14494904676204802095:True:=⟨⟩
theorem main.tw10278875301165399962:True:=⟨⟩
theorem main.tw3531981540585742146:True:=⟨⟩
theorem main.tw13087847357843552312:True:=⟨⟩
theorem main.tw8019843255630367578:True:=⟨⟩
theorem main.tw4304834178718691396:True:=⟨⟩
theorem main.tw17393246987506242659:True:=⟨⟩
theorem main.tw17008886415857585682:True:=⟨⟩
theorem main.tw12158052936666111867:True:=⟨⟩
theorem main.tw362101514219434311:True:=⟨⟩
theorem main.tw15743930626855181957:True:=⟨⟩
theorem main.tw7896732557465485704:True:=⟨⟩
theorem main.tw7250014487561225280:True:=⟨⟩
theorem main.tw10328587823670452498:True:=⟨⟩
theorem main.tw13278140520634309705:True:=⟨⟩
theorem main.tw9420458945464693125:True:=⟨⟩
theorem main.tw17489628448806820680:True:=⟨⟩
theorem main.tw11543472635058493794:True:=⟨⟩
theorem main.tw13178111602982621130:True:=⟨⟩
theorem main.tw5013185972428660573:True:=⟨⟩
theorem main.tw2352082045080494391:True:=⟨⟩
theorem main.tw14120260080095136841:True:=⟨⟩
theorem main.tw6990565588677296644:True:=⟨⟩
theorem main.tw1179163161465106547:True:=⟨⟩
theorem main.tw12866327798292885407:True:=⟨⟩
theorem main.tw12127353596698212756:True:=⟨⟩
theorem main.tw11116706314288256233:True:=⟨⟩
theorem main.tw234242634396511474:True:=⟨⟩
set_option Elab.async true
set_option tactic.hygienic true
set_option tactic.hygienic true in
theorem main:PySem.Challenge.rw_tn0003_01.Holds:=by
 (w_on;o_law;k_head;(case hw=>w_witness2))
 intro w s₀ s₁ mg mb Gr Y fa o pm cd doc dV kV ho hd hcd hD hmg hg args vals as hpre hlay hrd hwl hlo
 have KX:=kIn_of Y
 refine Ground.open Gr ?_
 intro T B D TE TW
 have TA:=at_of_top T
 obtain⟨_,_,he,B0⟩:=based_of_top T (Option.some_get (by kernel_rfl)).symm hmg ho hd
 have he':cd=_:=he
 subst he'
 clear he hmg
 wrow_args hpre hlay hrd hwl hlo
 first |refine callC_kw (enter_call ?_) |refine enter_call ?_ |refine callC_kw (enter_callW ?_) |refine enter_callW ?_ |w_how
 w_top on
 refine codeAny_mono ?_ (fun _ _ g=>GoodW.toG g)
 have K0:=below_caller (Top.heap T)
 w_call any ho hd hcd hD T F
 clear hd TA
 k_drop
 rename_i xs q1 q2 q3 q4 q5 q6 q7 l vs q8 hL q9 qa qb hI qc qd qe h₁ N0
 have hlen:xs.length≤63:=by omega
 obtain⟨σ',e⟩:=bM4 hlen
 obtain⟨fl,ρ',e2,rfl |⟨_,q⟩⟩:=(aX6 (show mkF 1 (vG (aL 690)) [.gl xs] []=some (.bool true,σ')from e)).2
 case inr=>cases q
 let G:GC:=⟨PySem.Challenge.rw_tn0003_01.row.toRowW.prog,w,s₁.heap,bD2 (main.heap_1_39 w.params),mb,main.heap_1_39 w.params,bE8,T.nolimit⟩
 have hO:G.Ok:=⟨dI8 KX (by kernel_rfl),T.b,T.builtins,KX⟩
 have ok:vX G:=⟨hO,rfl,rfl,⟨fun c x=>by cases c<;>kernel_rfl,fun c=>by cases c<;>kernel_rfl,fun c=>by cases c<;>kernel_rfl,fun c=>by cases c<;>kernel_rfl⟩,cZ3 rfl fun c=>by cases c<;>kernel_rfl,
  fun c=>⟨by cases c<;>kernel_rfl,by cases c<;>kernel_rfl,by cases c<;>kernel_rfl,by cases c<;>kernel_rfl,by cases c<;>kernel_rfl⟩,
  ⟨by kernel_rfl,(T.builtins _ (by decide)).trans boot_len⟩,⟨by kernel_rfl,(T.builtins _ (by decide)).trans PyProof.Rows.boot_tuple⟩,⟨by kernel_rfl,(T.builtins _ (by decide)).trans PyProof.Rows.boot_list⟩,⟨by kernel_rfl,(T.builtins _ (by decide)).trans boot_range⟩,by kernel_rfl⟩
 have hi:∀k,lY G 1 (tZ k) (ini k):=fun | .table=>aH4 (O:=hO) (C:=ok.gcls) (K:=ok) (c:=fun _ _ _=>none) (hc:=fun _=>nN _) (nw:=fun _=>no) (i:=0) (f:=ini .table) (by kernel_rfl) rfl | .host=>aH4 (O:=hO) (C:=ok.gcls) (K:=ok) (c:=fun _ _ _=>none) (hc:=fun _=>nN _) (nw:=fun _=>no) (i:=32) (f:=ini .host) (by kernel_rfl) rfl | .book=>aH4 (O:=hO) (C:=ok.gcls) (K:=ok) (c:=fun _ _ _=>none) (hc:=fun _=>nN _) (nw:=fun _=>no) (i:=42) (f:=ini .book) (by kernel_rfl) rfl
 have hs:bT3 G:=fun O C K n c hc hi h2=>by kernel_rfl
 refine wpAny_mono (cR9 (G:=G) (s₁:=s₁) (n:=690) F (cA3 (r:=(tr hO ok.gcls ok _ (aW2 hs ok hi 690) (nw1 hi (by decide)) 60).2.2 ⟨_,xT⟩ (by kernel_rfl) _) (by kernel_rfl)) rfl (by kernel_rfl) hL hI ⟨by show 302+690+2≤1000;omega,by show 7+8*690+1000≤9900;omega,rfl⟩ e2) ?hhQ (fun _ _ h=>h.elim)
 case hhQ=>
  rintro fl s' ⟨rfl,hk,hos,hgens⟩
  exact⟨.inl ⟨.bool true,.bool true,[],rfl,fun _=>rfl,.bool _,by kernel_rfl,unshared_nil⟩,hk,hos,hgens.trans hg⟩
end
end
end Mine.Internal
theorem PySem.Challenge.cw_tn0003_01_holds : PySem.Challenge.rw_tn0003_01.Holds :=
  Mine.Internal.main
