import PyProof.Rows.All
import KE.KDictOf
import KE.KSliceW
import KE.KRevSl
import KE.KEqDeep
import KE.KIsAll
import KE.IntBitsLaws
import Lean
import PySem.Challenge.RW_sq0078_01
open PySem PySem.W PyProof.Rows
set_option maxRecDepth 100000
set_option linter.all false
set_option Elab.async false
set_option genSizeOf false
set_option maxHeartbeats 4000000
set_option bootstrap.genMatcherCode false
set_option compiler.extract_closed false
set_option tactic.hygienic false
set_option genInjectivity false
set_option hygiene false
namespace Mine
local macro_rules
  | `(tactic| erw [$r:rwRule]) => match r with
    | `(Lean.Parser.Tactic.rwRule| ← $t:term) => `(tactic| first | refine Eq.substr (Eq.symm $t) ?_ | refine Eq.substr (Eq.symm ($t _)) ?_ | rewrite [$r])
    | `(Lean.Parser.Tactic.rwRule| $t:term) => `(tactic| first | refine Eq.substr $t ?_ | refine Eq.substr ($t _) ?_ | refine Eq.substr ($t _ _) ?_ | rewrite [$r])
    | _ => Lean.Macro.throwUnsupported
  | `(tactic| rw [$r:rwRule]) => `(tactic| (erw [$r]; try with_reducible rfl))
  | `(tactic| rw [$r:rwRule, $s,*]) => `(tactic| (erw [$r]; rw [$s,*]))
section
inductive Z|v(i:Nat)|n(k:Nat)|a(x y:Z)|s(x y:Z)|g(x:Z)|m(k:Nat)(x:Z)
noncomputable def Z.nd(c:List Nat):Z→Nat
 |.v i=>c.getD i 0
 |.n k=>k
 |.a x y=>x.nd c+y.nd c
 |.s x y=>x.nd c+y.nd c
 |.g x=>x.nd c
 |.m k x=>k*x.nd c
noncomputable def Z.nc(i:Nat):Z→Nat
 |.v j=>bif Nat.beq j i then 1 else 0
 |.n _=>0
 |.a x y=>x.nc i+y.nc i
 |.s x y=>x.nc i+y.nc i
 |.g x=>x.nc i
 |.m k x=>k*x.nc i
noncomputable def Z.nt:Z→Nat
 |.v _=>0
 |.n k=>k
 |.a x y=>x.nt+y.nt
 |.s x y=>x.nt+y.nt
 |.g x=>x.nt
 |.m k x=>k*x.nt
noncomputable def sm(f:Nat→Nat):List Nat→Nat
 |[]=>0
 |y::l=>f 0*y+sm (fun i=>f (i+1)) l
theorem AV:∀(c:List Nat),sm (fun _=>0) c=0
 |[]=>rfl
 |y::l=>by show 0*y+sm (fun _=>0) l=0;rw [AV l,Nat.zero_mul]
theorem Hd:∀(c:List Nat) (i:Nat),sm (fun j=>bif Nat.beq i j then 1 else 0) c=c.getD i 0
 |[],_=>rfl
 |y::l,0=>by show 1*y+sm (fun _=>0) l=y;rw [AV,Nat.one_mul,Nat.add_zero]
 |y::l,i+1=>by show 0*y+sm (fun j=>bif Nat.beq i j then 1 else 0) l=l.getD i 0;rw [Hd l i,Nat.zero_mul,Nat.zero_add]
theorem CT:∀(c:List Nat) (f g:Nat→Nat),sm (fun i=>f i+g i) c=sm f c+sm g c
 |[],_,_=>rfl
 |y::l,f,g=>by
  show(f 0+g 0)*y+sm (fun i=>f (i+1)+g (i+1)) l=f 0*y+sm _ l+(g 0*y+sm _ l)
  rw [CT l,Nat.add_mul,Nat.add_add_add_comm]
theorem GL:∀(c:List Nat) (k:Nat) (f:Nat→Nat),sm (fun i=>k*f i) c=k*sm f c
 |[],_,_=>rfl
 |y::l,k,f=>by
  show k*f 0*y+sm (fun i=>k*f (i+1)) l=k*(f 0*y+sm _ l)
  rw [GL l,Nat.mul_add,Nat.mul_assoc]
theorem Z.ne(c:List Nat):∀x:Z,x.nd c=x.nt+sm (fun i=>x.nc i) c
 |.v i=>(Hd c i).symm.trans (Nat.zero_add _).symm
 |.n k=>(congrArg (k + ·) (AV c)).symm
 |.a x y=>by
  show x.nd c+y.nd c=x.nt+y.nt+sm (fun i=>x.nc i+y.nc i) c
  rw [CT,Z.ne c x,Z.ne c y,Nat.add_add_add_comm]
 |.s x y=>by
  show x.nd c+y.nd c=x.nt+y.nt+sm (fun i=>x.nc i+y.nc i) c
  rw [CT,Z.ne c x,Z.ne c y,Nat.add_add_add_comm]
 |.g x=>Z.ne c x
 |.m k x=>by
  show k*x.nd c=k*x.nt+sm (fun i=>k*x.nc i) c
  rw [GL,Z.ne c x,Nat.mul_add]
noncomputable def cle(x y:Z):Nat→Bool
 |0=>true
 |i+1=>Nat.ble (x.nc i) (y.nc i)&&cle x y i
theorem sm_le:∀(c:List Nat) (f g:Nat→Nat),(∀i,i<c.length→f i≤g i)→sm f c≤sm g c
 |[],_,_,_=>Nat.le_refl 0
 |y::l,f,g,h=>Nat.add_le_add (Nat.mul_le_mul_right y (h 0 (Nat.succ_pos _))) (sm_le l _ _ fun i q=>h (i+1) (Nat.succ_lt_succ q))
theorem cle_le{x y:Z}:∀{n:Nat},cle x y n=true→∀i,i<n→x.nc i≤y.nc i
 |n+1,h,i,q=>by
  have h:=Bool.and_eq_true_iff.mp h
  rcases Nat.lt_or_ge i n with z|z
  ·exact cle_le h.2 i z
  ·exact Nat.le_antisymm (Nat.le_of_lt_succ q) z▸Nat.le_of_ble_eq_true h.1
def Imp(c:List Nat)(l r:Z):List (Z × Z)→Prop
 |[]=>l.nd c≤r.nd c
 |p::t=>p.1.nd c≤p.2.nd c→Imp c l r t
noncomputable def chk(n:Nat)(l r:Z):List (Z × Z)→Bool
 |[]=>Nat.ble l.nt r.nt&&cle l r n
 |p::t=>chk n (.a l p.2) (.a r p.1) t
theorem H5(c:List Nat)(l r:Z):∀(t:List (Z × Z)) (x y:Z),chk c.length x y t=true→(∀z:Nat,x.nd c≤y.nd c+z→l.nd c≤r.nd c+z)→Imp c l r t
 |[],x,y,h,k=>by
  have h:=Bool.and_eq_true_iff.mp h
  refine k 0 (show x.nd c≤y.nd c from ?_)
  rw [Z.ne c x,Z.ne c y]
  exact Nat.add_le_add (Nat.le_of_ble_eq_true h.1) (sm_le c _ _ (cle_le h.2))
 |p::t,x,y,h,k=>fun q=>H5 c l r t (.a x p.2) (.a y p.1) h fun z e=>k z (Nat.le_of_add_le_add_right (b:=p.2.nd c) (Nat.le_trans e (by
   show y.nd c+p.1.nd c+z≤y.nd c+z+p.2.nd c
   rw [Nat.add_right_comm]
   exact Nat.add_le_add_left q _)))
noncomputable abbrev v0:Z:=.v 0
noncomputable abbrev v1:Z:=.v 1
noncomputable abbrev v2:Z:=.v 2
noncomputable abbrev v3:Z:=.v 3
noncomputable abbrev v4:Z:=.v 4
noncomputable abbrev v5:Z:=.v 5
noncomputable abbrev v6:Z:=.v 6
noncomputable abbrev v7:Z:=.v 7
noncomputable abbrev n0:Z:=.n 0
noncomputable abbrev n1:Z:=.n 1
noncomputable abbrev n2:Z:=.n 2
noncomputable abbrev n3:Z:=.n 3
theorem fk(c:List Nat)(t:List (Z × Z))(l r:Z)(h:chk c.length l r t=true):Imp c l r t:=H5 c l r t l r h fun _ e=>e
theorem sq{x y:Nat}:x≤x-y+y:=Nat.le_add_of_sub_le (Nat.le_refl _)
theorem sp{x y:Nat}(h:y≤x):x-y+y≤x:=Nat.le_of_eq (Nat.sub_add_cancel h)
theorem so{x y:Nat}(h:x≤y):x-y≤0:=Nat.le_of_eq (Nat.sub_eq_zero_of_le h)
theorem ml{x y:Nat}(h:x≤y):x≤min x y:=Nat.le_of_eq (Nat.min_eq_left h).symm
theorem mr{x y:Nat}(h:y≤x):y≤min x y:=Nat.le_of_eq (Nat.min_eq_right h).symm
theorem z4(a b c d:Int):a+b+(c+d)=a+c+(b+d):=by rw [Int.add_assoc,Int.add_left_comm b,←Int.add_assoc]
noncomputable def Z.den(c:List Int):Z→Int
 |.v i=>c.getD i 0
 |.n k=>k
 |.a x y=>x.den c+y.den c
 |.s x y=>x.den c-y.den c
 |.g x=>-x.den c
 |.m k x=>(k:Int)*x.den c
noncomputable def Z.co(i:Nat):Z→Int
 |.v j=>bif Nat.beq j i then 1 else 0
 |.n _=>0
 |.a x y=>x.co i+y.co i
 |.s x y=>x.co i-y.co i
 |.g x=>-x.co i
 |.m k x=>(k:Int)*x.co i
noncomputable def Z.ct:Z→Int
 |.v _=>0
 |.n k=>k
 |.a x y=>x.ct+y.ct
 |.s x y=>x.ct-y.ct
 |.g x=>-x.ct
 |.m k x=>(k:Int)*x.ct
noncomputable def zm(f:Nat→Int):List Int→Int
 |[]=>0
 |y::l=>f 0*y+zm (fun i=>f (i+1)) l
theorem z0:∀(c:List Int),zm (fun _=>0) c=0
 |[]=>rfl
 |y::l=>by show 0*y+zm (fun _=>0) l=0;rw [z0 l,Int.zero_mul];rfl
theorem HW:∀(c:List Int) (i:Nat),zm (fun j=>bif Nat.beq i j then 1 else 0) c=c.getD i 0
 |[],_=>rfl
 |y::l,0=>by show 1*y+zm (fun _=>0) l=y;rw [z0,Int.one_mul,Int.add_zero]
 |y::l,i+1=>by show 0*y+zm (fun j=>bif Nat.beq i j then 1 else 0) l=l.getD i 0;rw [HW l i,Int.zero_mul,Int.zero_add]
theorem N3:∀(c:List Int) (k:Int) (f g:Nat→Int),zm (fun i=>f i+k*g i) c=zm f c+k*zm g c
 |[],k,_,_=>(Int.mul_zero k).symm▸rfl
 |y::l,k,f,g=>by
  show(f 0+k*g 0)*y+zm (fun i=>f (i+1)+k*g (i+1)) l=f 0*y+zm _ l+k*(g 0*y+zm _ l)
  rw [N3 l,Int.add_mul,Int.mul_add,Int.mul_assoc]
  exact z4 _ _ _ _
theorem Z.eq(c:List Int):∀x:Z,x.den c=x.ct+zm (fun i=>x.co i) c
 |.v i=>(HW c i).symm.trans (Int.zero_add _).symm
 |.n k=>by show(k:Int)=k+zm (fun _=>0) c;rw [z0,Int.add_zero]
 |.a x y=>by
  have h:=N3 c 1 (fun i=>x.co i) (fun i=>y.co i)
  simp only [Int.one_mul]at h
  show x.den c+y.den c=x.ct+y.ct+zm (fun i=>x.co i+y.co i) c
  rw [h,Z.eq c x,Z.eq c y];exact z4 _ _ _ _
 |.s x y=>by
  have h:=N3 c (-1) (fun i=>x.co i) (fun i=>y.co i)
  simp only [Int.neg_mul,Int.one_mul,←Int.sub_eq_add_neg]at h
  show x.den c-y.den c=x.ct-y.ct+zm (fun i=>x.co i-y.co i) c
  rw [h,Z.eq c x,Z.eq c y,Int.sub_eq_add_neg,Int.neg_add,z4];rfl
 |.g x=>by
  have h:=N3 c (-1) (fun _=>0) (fun i=>x.co i)
  simp only [Int.zero_add,z0,Int.neg_mul,Int.one_mul]at h
  show -x.den c = -x.ct+zm (fun i=>-x.co i) c
  rw [h,Z.eq c x,Int.neg_add]
 |.m k x=>by
  have h:=N3 c k (fun _=>0) (fun i=>x.co i)
  simp only [Int.zero_add,z0]at h
  show(k:Int)*x.den c=k*x.ct+zm (fun i=>k*x.co i) c
  rw [h,Z.eq c x,Int.mul_add]
noncomputable def zeq(x y:Z):Nat→Bool
 |0=>true
 |i+1=>decide (x.co i=y.co i)&&zeq x y i
theorem Y2:∀(c:List Int) (f g:Nat→Int),(∀i,i<c.length→f i=g i)→zm f c=zm g c
 |[],_,_,_=>rfl
 |y::l,f,g,h=>by
  show f 0*y+_=g 0*y+_
  rw [h 0 (Nat.succ_pos _),Y2 l _ _ fun i q=>h (i+1) (Nat.succ_lt_succ q)]
theorem N6{x y:Z}:∀{n:Nat},zeq x y n=true→∀i,i<n→x.co i=y.co i
 |n+1,h,i,q=>by
  have h:=Bool.and_eq_true_iff.mp h
  rcases Nat.lt_or_ge i n with z|z
  ·exact N6 h.2 i z
  ·exact Nat.le_antisymm (Nat.le_of_lt_succ q) z▸of_decide_eq_true h.1
def Jmp(c:List Int)(l r:Z):List (Z × Z)→Prop
 |[]=>l.den c≤r.den c
 |p::t=>p.1.den c≤p.2.den c→Jmp c l r t
noncomputable def jhk(n:Nat)(l r:Z):List (Z × Z)→Bool
 |[]=>decide (l.ct≤r.ct)&&zeq l r n
 |p::t=>jhk n (.a l p.2) (.a r p.1) t
theorem L6(c:List Int)(l r:Z):∀(t:List (Z × Z)) (x y:Z),jhk c.length x y t=true→(x.den c≤y.den c→l.den c≤r.den c)→Jmp c l r t
 |[],x,y,h,k=>by
  have h:=Bool.and_eq_true_iff.mp h
  refine k ?_
  rw [Z.eq c x,Z.eq c y,Y2 c _ _ (N6 h.2)]
  exact Int.add_le_add_right (of_decide_eq_true h.1) _
 |p::t,x,y,h,k=>fun q=>L6 c l r t (.a x p.2) (.a y p.1) h fun(e:x.den c+p.2.den c≤y.den c+p.1.den c)=>k (Int.le_of_add_le_add_right (Int.le_trans e (Int.add_le_add_left q _)))
def inL(a:Int):List Int→Prop
 |[]=>False
 |x::l=>match l with
  |[]=>a=x
  |_::_=>a=x∨inL a l
theorem inl{a:Int}{P:Int→Bool}:∀(l:List Int),l.all P=true→inL a l→P a=true
 |[x],h,e=>e▸(Bool.and_eq_true_iff.mp h).1
 |x::y::l,h,e=>have h:=Bool.and_eq_true_iff.mp h;e.elim (fun e=>e▸h.1) fun e=>inl (y::l) h.2 e
theorem rng{a:Int}{P:Int→Bool}(lo:Int)(n:Nat)(e:(List.range n).all (fun i=>P (lo+i))=true)(h1:lo≤a)(h2:a<lo+n):P a=true:=by
 obtain⟨k,rfl⟩:=Int.le.dest h1
 exact List.all_eq_true.mp e k (List.mem_range.mpr (Int.ofNat_lt.mp (Int.lt_of_add_lt_add_left h2)))
theorem zk(c:List Int)(t:List (Z × Z))(l r:Z)(h:jhk c.length l r t=true):Jmp c l r t:=L6 c l r t l r h id
theorem zc{a b:Nat}(h:a≤b):(a:Int)≤b:=Int.ofNat_le.mpr h
theorem zs{a b:Nat}(h:b≤a):(a:Int)-b≤((a-b:Nat):Int):=Int.le_of_eq (Int.ofNat_sub h).symm
theorem zt{a:Int}(h:0≤a):(a.toNat:Int)≤a:=Int.le_of_eq (Int.toNat_of_nonneg h)
example (a b d:Nat) (h:a+1≤b) (g:(b:Int)+2≤d):(a:Int)<d-2:=zk [a,b,d] [(.a (.v 0) (.n 1),.v 1),(.a (.v 1) (.n 2),.v 2)] (.a (.v 0) (.n 1)) (.s (.v 2) (.n 2)) rfl (zc h) g
end
section
theorem q_0{a:Nat}(h:a≤1000000):(a:Int)<(2 ^ 63):=zk [(a:Int)] [(v0,.n 1000000)] (.a v0 n1) (.n (2 ^ 63)) rfl (zc h)
theorem q_1{a b:Nat}(h:a<64)(h1:b=a):b<64:=fk [b,a] [(v0,v1),(.a v1 n1,.n 64)] (.a v0 n1) (.n 64) rfl (Nat.le_of_eq h1) h
theorem q_2{a b:Nat}(h:a≤1000000)(h1:b=a):b≤16777216:=fk [b,a] [(v0,v1),(v1,.n 1000000)] v0 (.n 16777216) rfl (Nat.le_of_eq h1) h
theorem q_3{a b:Nat}(h:a≤1000)(h1:b=a):b≤1000:=fk [b,a] [(v0,v1),(v1,.n 1000)] v0 (.n 1000) rfl (Nat.le_of_eq h1) h
theorem q_4{a b c d i:Nat}(h:(a+b)≤1000000)(h1:c=a)(h2:d=b)(h3:i=d):(c+i)≤16777216:=fk [c,i,a,b,d] [(v0,v2),(v1,v4),(.a v2 v3,.n 1000000),(v4,v3)] (.a v0 v1) (.n 16777216) rfl (Nat.le_of_eq h1) (Nat.le_of_eq h3) h (Nat.le_of_eq h2)
theorem q_5{a b:Nat}(h:(a+1)≤1000000)(h1:b=(a+1)):b≤16777216:=fk [b,a] [(v0,.a v1 n1),(.a v1 n1,.n 1000000)] v0 (.n 16777216) rfl (Nat.le_of_eq h1) h
theorem q_6{a b:Nat}(h:a=(b+1)):(a-1)<a:=(sp (fk [a,b] [(.a v1 n1,v0)] n1 v0 rfl (Nat.le_of_eq h.symm)))
theorem q_7{a b:Nat}(h:a=(b+1)):a≤((a-1)+1):=sq
theorem DU{a b:Nat}:((a:Int)+(b:Int))=(((a+b):Nat):Int):=(Int.le_antisymm (zk [(a:Int),(b:Int)] [] (.a v0 v1) (.a v0 v1) rfl ) (zk [(a:Int),(b:Int)] [] (.a v0 v1) (.a v0 v1) rfl ))
theorem V3{a:Nat}:¬((a:Int)<0):=(Int.not_lt.mpr (zk [(a:Int)] [(n0,v0)] n0 v0 rfl (Int.natCast_nonneg _)))
theorem FB{a:Int}(h:(0:Int)≤a):a=(((a:Int).toNat:Nat):Int):=(Int.le_antisymm (zk [a,(((a:Int).toNat:Nat):Int)] [(v0,v1)] v0 v1 rfl (Int.self_le_toNat _)) (zk [(((a:Int).toNat:Nat):Int),a] [(v0,v1)] v0 v1 rfl (zt (zk [a] [(n0,v0)] n0 v0 rfl h))))
theorem Fx{a b:Nat}(h:a≤90)(h1:(b:Int)≤(a:Int)):(min b a)≤99999:=fk [(min b a),a] [(v0,v1),(v1,.n 90)] v0 (.n 99999) rfl (Nat.min_le_right _ _) h
theorem HX{a b:Nat}(h:a≤90)(h1:(b:Int)≤(a:Int)):(min b a)≤99:=fk [(min b a),a] [(v0,v1),(v1,.n 90)] v0 (.n 99) rfl (Nat.min_le_right _ _) h
theorem FJ{a b:Nat}(h:a≤90):a≤(100+b):=fk [a,b] [(v0,.n 90)] v0 (.a (.n 100) v1) rfl h
theorem HY{a b c:Nat}(h:a≤100)(h1:(b+(c+1))=a):b≤100:=fk [b,a,c] [(.a v0 (.a v2 n1),v1),(v1,.n 100)] v0 (.n 100) rfl (Nat.le_of_eq h1) h
theorem AM{a b:Nat}(h:a≤10000)(h1:b=a):b≤10000:=fk [b,a] [(v0,v1),(v1,.n 10000)] v0 (.n 10000) rfl (Nat.le_of_eq h1) h
theorem Df{a b c:Nat}(h:a≤(b+c)):a≤(b+(c+1)):=fk [a,b,c] [(v0,.a v1 v2)] v0 (.a v1 (.a v2 n1)) rfl h
theorem El{a b c:Nat}(h:a=b)(h1:c≤a):c≤a:=h1
theorem DT{a b c d i j k:Nat}(h:a≤10000)(h1:b≤(c+d))(h2:i=a)(h3:d≤100)(h4:j≤i)(h5:¬((j:Int)<(c:Int)))(h6:k≤(j-c)):(b+k)≤1000000:=fk [b,k,a,c,d,i,j,(j-c)] [(v0,.a v3 v4),(v1,v7),(.a v7 v3,v6),(v4,.n 100),(v6,v5),(v5,v2),(v2,.n 10000)] (.a v0 v1) (.n 1000000) rfl h1 h6 (sp (Int.ofNat_le.mp (zk [(c:Int),(j:Int)] [(v0,v1)] v0 v1 rfl (Int.not_lt.mp h5)))) h3 h4 (Nat.le_of_eq h2) h
theorem Z0{a b c d:Nat}(h:a=b)(h1:(c+d)≤a):((b:Int)-(c:Int))=(((b-c):Nat):Int):=(Int.le_antisymm (zk [(b:Int),(c:Int),(((b-c):Nat):Int)] [(v0,.a v2 v1)] (.s v0 v1) v2 rfl (zc sq)) (zk [(((b-c):Nat):Int),(b:Int),(c:Int)] [(.a v0 v2,v1)] v0 (.s v1 v2) rfl (zc (sp (fk [c,b,a,d] [(.a v0 v3,v2),(v2,v1)] v0 v1 rfl h1 (Nat.le_of_eq h))))))
theorem HP{a b c d i j:Nat}(h:a≤10000)(h1:b≤a)(h2:c≤(b+d))(h3:i=a)(h4:d≤100)(h5:j≤i)(h6:¬((j:Int)<(b:Int))):(c+(min (j-b) (a-b)))≤1000000:=fk [c,(min (j-b) (a-b)),a,b,d,(a-b)] [(v0,.a v3 v4),(v1,v5),(.a v5 v3,v2),(v2,.n 10000),(v4,.n 100)] (.a v0 v1) (.n 1000000) rfl h2 (Nat.min_le_right _ _) (sp h1) h h4
theorem GU{a b:Nat}:(a-b)≤a:=(Nat.sub_le _ _)
theorem EN{a b c d i j k:Nat}(h:a≤b)(h1:c≤(a+d))(h2:i=b)(h3:j≤i)(h4:¬((j:Int)<(a:Int)))(h5:(k+j)≤i):(c+((min (j-a) (b-a))+1))≤((b-k)+(d+1)):=fk [c,(min (j-a) (b-a)),(b-k),d,a,b,i,j,k,(j-a)] [(v0,.a v4 v3),(v1,.v 9),(.a (.v 9) v4,v7),(.a (.v 8) v7,v6),(v6,v5),(v5,.a v2 (.v 8))] (.a v0 (.a v1 n1)) (.a v2 (.a v3 n1)) rfl h1 (Nat.min_le_left _ _) (sp (Int.ofNat_le.mp (zk [(a:Int),(j:Int)] [(v0,v1)] v0 v1 rfl (Int.not_lt.mp h4)))) h5 (Nat.le_of_eq h2) sq
theorem GJ{a b c d:Nat}(h:a≤10000)(h1:b≤a)(h2:c≤(b+d))(h3:d≤100):(c+(a-b))≤100000:=fk [c,(a-b),a,b,d] [(v0,.a v3 v4),(.a v1 v3,v2),(v2,.n 10000),(v4,.n 100)] (.a v0 v1) (.n 100000) rfl h2 (sp h1) h h3
theorem xE{a:Int}(h:((1:Int)≤a∧a≤1000)):(0:Int)<a:=zk [a] [(n1,v0)] (.a n0 n1) v0 rfl h.1
theorem FU{a:Int}(h:((1:Int)≤a∧a≤1000)):a<1073741824:=zk [a] [(v0,.n 1000)] (.a v0 n1) (.n 1073741824) rfl h.2
theorem X6{a:Int}(h:((1:Int)≤a∧a≤1000)):a≠0:=(fun e=>(absurd (Int.ofNat_le.mp (zk [a] [(n1,v0),(v0,n0)] n1 n0 rfl h.1 (Int.le_of_eq e))) (Nat.not_succ_le_zero 0)))
theorem Z8{a b c d:Nat}(h:(a+(b+c))=d)(h1:d≤900000):(a+b)≤900000:=fk [a,b,c,d] [(.a v0 (.a v1 v2),v3),(v3,.n 900000)] (.a v0 v1) (.n 900000) rfl (Nat.le_of_eq h) h1
theorem q_9{a b:Nat}(h:a≤1000)(h1:b=a):b≤16777216:=fk [b,a] [(v0,v1),(v1,.n 1000)] v0 (.n 16777216) rfl (Nat.le_of_eq h1) h
theorem AX{a b c:Nat}(h:a≤(((b+1)+1)+c)):a≤((b+1)+(c+1)):=fk [a,b,c] [(v0,.a (.a (.a v1 n1) n1) v2)] v0 (.a (.a v1 n1) (.a v2 n1)) rfl h
theorem tX{a b:Nat}:a≤(a+b):=fk [a,b] [] v0 (.a v0 v1) rfl
theorem CG{a b c d:Nat}(h:a≤((b+1)+c))(h1:c≤d):a≤((b+1)+d):=fk [a,b,d,c] [(v0,.a (.a v1 n1) v3),(v3,v2)] v0 (.a (.a v1 n1) v2) rfl h h1
theorem BU{a b c:Nat}(h:a≤b):a≤(c+b):=fk [a,c,b] [(v0,v2)] v0 (.a v1 v2) rfl h
theorem Br{a b c:Int}(h:(a<b∧b<c)):(2:Int)≤(c-a):=zk [c,a,b] [(.a v2 n1,v0),(.a v1 n1,v2)] n2 (.s v0 v1) rfl h.2 h.1
theorem CW{d:Nat}{a b c:Int}(h:(a<b∧b<c))(h1:((d:Int)+1)≤(c-b)):((((d+1):Nat):Int)+1)≤(c-a):=zk [(d:Int),c,a,b] [(.a v0 n1,.s v1 v3),(.a v2 n1,v3)] (.a (.a v0 n1) n1) (.s v1 v2) rfl h1 h.1
theorem BH{a b c d i:Nat}(h:a≤(b+(300*c)))(h1:d≤(i+300)):(d+a)≤((i+b)+(300*(c+1))):=fk [d,a,i,b,c] [(v0,.a v2 (.n 300)),(v1,.a v3 (.m 300 v4))] (.a v0 v1) (.a (.a v2 v3) (.m 300 (.a v4 n1))) rfl h1 h
theorem Ag{a b c d i:Nat}(h:a≤(b+(300*c)))(h1:d≤i):(d+a)≤((i+b)+(300*c)):=fk [d,a,i,b,c] [(v0,v2),(v1,.a v3 (.m 300 v4))] (.a v0 v1) (.a (.a v2 v3) (.m 300 v4)) rfl h1 h
theorem AP{a d:Nat}{b c:Int}(h:a≤40)(h1:b=0)(h2:c=(a:Int))(h3:((d:Int)+1)≤(c-b)):d≤40:=(Int.ofNat_le.mp (zk [(d:Int),(a:Int),b,c] [(.a v0 n1,.s v3 v2),(n0,v2),(v3,v1),(v1,.n 40)] v0 (.n 40) rfl h3 (Int.le_of_eq h1.symm) (Int.le_of_eq h2) (zc h)))
theorem Cv{a b c:Nat}(h:a≤40)(h1:b≤40)(h2:c≤(a+(300*b))):c≤900000:=fk [c,a,b] [(v0,.a v1 (.m 300 v2)),(v1,.n 40),(.m 300 v2,.m 300 (.n 40))] v0 (.n 900000) rfl h2 h (Nat.mul_le_mul_left 300 h1)
theorem AR{a:Nat}(h:a≤40):a<64:=fk [a] [(v0,.n 40)] (.a v0 n1) (.n 64) rfl h
theorem BP{a b:Nat}(h:a≤40)(h1:b≤(1+a)):b≤1000:=fk [b,a] [(v0,.a n1 v1),(v1,.n 40)] v0 (.n 1000) rfl h1 h
theorem AU{a b c d:Nat}(h:a≤40)(h1:(b+c)=a)(h2:(d-1)≤b):d≤1000:=fk [d,a,b,c,(d-1)] [(v0,.a v4 n1),(v4,v2),(.a v2 v3,v1),(v1,.n 40)] v0 (.n 1000) rfl sq h2 (Nat.le_of_eq h1) h
theorem AO{a b c:Nat}(h:a≤40)(h1:(b+c)=a):c≤1000:=fk [c,a,b] [(.a v2 v0,v1),(v1,.n 40)] v0 (.n 1000) rfl (Nat.le_of_eq h1) h
theorem Bn{a b:Nat}:(((a+b):Nat):Int)=((a:Int)+(b:Int)):=(Int.le_antisymm (zk [(a:Int),(b:Int)] [] (.a v0 v1) (.a v0 v1) rfl ) (zk [(a:Int),(b:Int)] [] (.a v0 v1) (.a v0 v1) rfl ))
theorem BE{b:Nat}{a:Int}:a≤(a+(b:Int)):=zk [a,(b:Int)] [(n0,v1)] v0 (.a v0 v1) rfl (Int.natCast_nonneg _)
theorem A5{b c:Nat}{a:Int}:((a+(b:Int))+(c:Int))=(a+((b:Int)+(c:Int))):=(Int.le_antisymm (zk [a,(b:Int),(c:Int)] [] (.a (.a v0 v1) v2) (.a v0 (.a v1 v2)) rfl ) (zk [a,(b:Int),(c:Int)] [] (.a v0 (.a v1 v2)) (.a (.a v0 v1) v2) rfl ))
theorem Bm{a b:Nat}(h:(a-b)=0)(h1:b≤a):b=a:=(Nat.le_antisymm h1 (fk [a,b,(a-b)] [(v0,.a v2 v1),(v2,n0)] v0 v1 rfl sq (Nat.le_of_eq h)))
theorem Cy{a b c d:Nat}(h:(a-b)=(c+1))(h1:b≤a)(h2:a≤d):(d-b)=((d-(b+1))+1):=(Nat.le_antisymm (fk [(d-b),(d-(b+1)),b,d] [(.a v0 v2,v3),(v3,.a v1 (.a v2 n1))] v0 (.a v1 n1) rfl (sp (fk [b,d,a] [(v0,v2),(v2,v1)] v0 v1 rfl h1 h2)) sq) (fk [(d-(b+1)),(d-b),b,d] [(.a v0 (.a v2 n1),v3),(v3,.a v1 v2)] (.a v0 n1) v1 rfl (sp (fk [b,d,(a-b),c,a] [(.a v2 v0,v4),(v4,v1),(.a v3 n1,v2)] (.a v0 n1) v1 rfl (sp h1) h2 (Nat.le_of_eq h.symm))) sq))
theorem DJ{a b c:Nat}(h:(a-b)=(c+1))(h1:b≤a):(b+1)≤a:=fk [b,a,(a-b),c] [(.a v2 v0,v1),(.a v3 n1,v2)] (.a v0 n1) v1 rfl (sp h1) (Nat.le_of_eq h.symm)
theorem At{a b:Nat}(h:a≤b)(h1:b≤90):a≤100:=fk [a,b] [(v0,v1),(v1,.n 90)] v0 (.n 100) rfl h h1
theorem BR{a b i:Nat}{c d j k:Int}(h:a<b)(h1:c=(d+(i:Int)))(h2:(c<j∧j<k)):(d<j∧j<k):=⟨(zk [d,j,c,(i:Int)] [(.a v0 v3,v2),(.a v2 n1,v1),(n0,v3)] (.a v0 n1) v1 rfl (Int.le_of_eq h1.symm) h2.1 (Int.natCast_nonneg _)),(zk [j,k] [(.a v0 n1,v1)] (.a v0 n1) v1 rfl h2.2)⟩
theorem C1{a b:Nat}(h:(a+1)≤b):a<b:=h
theorem K7{a b c:Nat}(h:a≤b)(h1:b<c):a≤c:=fk [a,c,b] [(v0,v2),(.a v2 n1,v1)] v0 v1 rfl h h1
theorem AY{c j:Nat}{a b d i:Int}(h:a=(b+(c:Int)))(h1:d≤b)(h2:a≤i)(h3:i=(j:Int))(h4:d=0)(h5:j≤90):c≤90:=(Int.ofNat_le.mp (zk [(c:Int),a,b,d,i,(j:Int)] [(.a v2 v0,v1),(v1,v4),(v3,v2),(n0,v3),(v4,v5),(v5,.n 90)] v0 (.n 90) rfl (Int.le_of_eq h.symm) h2 h1 (Int.le_of_eq h4.symm) (Int.le_of_eq h3) (zc h5)))
theorem As{a b c d i:Nat}(h:a<b)(h1:c≤d)(h2:i=(c-b))(h3:d≤10000):i≤10000:=fk [i,c,d,(c-b)] [(v0,v3),(v3,v1),(v1,v2),(v2,.n 10000)] v0 (.n 10000) rfl (Nat.le_of_eq h2) (Nat.sub_le _ _) h1 h3
theorem AT{a b c d i j:Nat}{k:Int}(h:a≤b)(h1:(c+d)≤i)(h2:j=d)(h3:((1:Int)≤k∧(k+1)≤(j:Int))):((0:Int)≤((c:Int)+k)∧((c:Int)+k)≤(i:Int)):=⟨(zk [(c:Int),k] [(n0,v0),(n1,v1)] n0 (.a v0 v1) rfl (Int.natCast_nonneg _) h3.1),(zk [(c:Int),k,(i:Int),(d:Int),(j:Int)] [(.a v0 v3,v2),(.a v1 n1,v4),(v4,v3)] (.a v0 v1) v2 rfl (zc h1) h3.2 (zc (Nat.le_of_eq h2)))⟩
theorem Ci{a b c d i j p q:Nat}{k m n o r:Int}(h:a≤b)(h1:(c+d)≤i)(h2:j=d)(h3:k=(m+(i:Int)))(h4:n=(o+(p:Int)))(h5:m=(n+(q:Int)))(h6:((1:Int)≤r∧(r+1)≤(j:Int))):(o<(m+((c:Int)+r))∧(m+((c:Int)+r))<k):=⟨(zk [o,m,(c:Int),r,n,(p:Int),(q:Int)] [(.a v0 v5,v4),(.a v4 v6,v1),(n0,v2),(n1,v3),(n0,v5),(n0,v6)] (.a v0 n1) (.a v1 (.a v2 v3)) rfl (Int.le_of_eq h4.symm) (Int.le_of_eq h5.symm) (Int.natCast_nonneg _) h6.1 (Int.natCast_nonneg _) (Int.natCast_nonneg _)),(zk [m,(c:Int),r,k,(d:Int),(i:Int),(j:Int)] [(.a v0 v5,v3),(.a v1 v4,v5),(.a v2 n1,v6),(v6,v4)] (.a (.a v0 (.a v1 v2)) n1) v3 rfl (Int.le_of_eq h3.symm) (zc h1) h6.2 (zc (Nat.le_of_eq h2)))⟩
theorem Ar{a b c d i:Nat}(h:a≤b)(h1:c≤d)(h2:i≥b):(a+(i-a))=i:=(Nat.le_antisymm (fk [a,(i-a),i] [(.a v1 v0,v2)] (.a v0 v1) v2 rfl (sp (fk [a,i,b] [(v0,v2),(v2,v1)] v0 v1 rfl h h2))) (fk [i,a,(i-a)] [(v0,.a v2 v1)] v0 (.a v1 v2) rfl sq))
theorem Ai{a b c:Nat}(h:(a+1)≤b)(h1:b<c):(a+1)≤c:=fk [a,c,b] [(.a v0 n1,v2),(.a v2 n1,v1)] (.a v0 n1) v1 rfl h h1
theorem Cs{a b:Nat}(h:a<b):(a+1)≤b:=h
theorem CK{a b c d:Nat}(h:(a+1)≤b)(h1:b<c)(h2:c≤d):((a+1)+(c-(a+1)))=c:=(Nat.le_antisymm (fk [a,(c-(a+1)),c] [(.a v1 (.a v0 n1),v2)] (.a (.a v0 n1) v1) v2 rfl (sp (fk [a,c,b] [(.a v0 n1,v2),(.a v2 n1,v1)] (.a v0 n1) v1 rfl h h1))) (fk [c,a,(c-(a+1))] [(v0,.a v2 (.a v1 n1))] v0 (.a (.a v1 n1) v2) rfl sq))
theorem Ch{a b c d i:Int}(h:(a<b∧b<c))(h1:(c<d∧d<i)):b<d:=zk [b,d,c] [(.a v0 n1,v2),(.a v2 n1,v1)] (.a v0 n1) v1 rfl h.2 h1.1
theorem CF{a b i:Nat}{c d j k m:Int}(h:a≤b)(h1:c=(d+(i:Int)))(h2:j≤k)(h3:(d<m∧m<j)):(d<m∧m<k):=⟨(zk [d,m] [(.a v0 n1,v1)] (.a v0 n1) v1 rfl h3.1),(zk [m,k,j] [(.a v0 n1,v2),(v2,v1)] (.a v0 n1) v1 rfl h3.2 h2)⟩
theorem Ba{a b c:Nat}(h:(a+1)≤b)(h1:b<c):a≤c:=fk [a,c,b] [(.a v0 n1,v2),(.a v2 n1,v1)] v0 v1 rfl h h1
theorem CA{a b i m n:Nat}{c d j k o p:Int}(h:a≤b)(h1:c=(d+(i:Int)))(h2:j=(k+(m:Int)))(h3:d=(j+(n:Int)))(h4:(c<o∧o<p)):(k<o∧o<p):=⟨(zk [k,o,c,d,(i:Int),j,(m:Int),(n:Int)] [(.a v0 v6,v5),(.a v2 n1,v1),(.a v3 v4,v2),(.a v5 v7,v3),(n0,v4),(n0,v6),(n0,v7)] (.a v0 n1) v1 rfl (Int.le_of_eq h2.symm) h4.1 (Int.le_of_eq h1.symm) (Int.le_of_eq h3.symm) (Int.natCast_nonneg _) (Int.natCast_nonneg _) (Int.natCast_nonneg _)),(zk [o,p] [(.a v0 n1,v1)] (.a v0 n1) v1 rfl h4.2)⟩
theorem E0{c:Nat}{a b d:Int}(h:a=(b+(c:Int))):(a+d)=(b+((c:Int)+d)):=(Int.le_antisymm (zk [a,d,b,(c:Int)] [(v0,.a v2 v3)] (.a v0 v1) (.a v2 (.a v3 v1)) rfl (Int.le_of_eq h)) (zk [b,(c:Int),d,a] [(.a v0 v1,v3)] (.a v0 (.a v1 v2)) (.a v3 v2) rfl (Int.le_of_eq h.symm)))
theorem iQ:(-1000000000)≤0:=zk [] [] (.g (.n 1000000000)) n0 rfl
theorem iK:(0:Int)≤1000000000:=zk [] [] n0 (.n 1000000000) rfl
theorem BZ{a:Int}(h:(0:Int)≤a):(-1000000000)≤a:=zk [a] [(n0,v0)] (.g (.n 1000000000)) v0 rfl h
theorem DO{a:Int}(h:a<2):a≤1000000000:=zk [a] [(.a v0 n1,n2)] v0 (.n 1000000000) rfl h
theorem Cg{a:Int}(h:a<2):a≤1:=zk [a] [(.a v0 n1,n2)] v0 n1 rfl h
theorem Ck{a:Int}(h:(0:Int)≤a)(h1:a<3):((97:Int)≤(97+a)∧(97+a)≤99):=⟨(zk [a] [(n0,v0)] (.n 97) (.a (.n 97) v0) rfl h),(zk [a] [(.a v0 n1,n3)] (.a (.n 97) v0) (.n 99) rfl h1)⟩
theorem BY{a:Nat}(h:(a+0)≤1):(1+a)≤100000:=fk [a] [(.a v0 n0,n1)] (.a n1 v0) (.n 100000) rfl h
theorem DM{a:Nat}:(-1000000000)≤(((a:Int)+1)+1):=zk [(a:Int)] [(n0,v0)] (.g (.n 1000000000)) (.a (.a v0 n1) n1) rfl (Int.natCast_nonneg _)
theorem Cf{a:Nat}(h:(a+0)≤1):(((a:Int)+1)+1)≤1000000000:=zk [(a:Int)] [(.a v0 n0,n1)] (.a (.a v0 n1) n1) (.n 1000000000) rfl (zc h)
theorem Cw{a:Nat}(h:(a+0)≤1):(((a:Int)+1)+1)≤1000000:=zk [(a:Int)] [(.a v0 n0,n1)] (.a (.a v0 n1) n1) (.n 1000000) rfl (zc h)
theorem yE{a b c:Nat}(h:(a+(b+1))=(c+2)):((a+1)+b)=(c+2):=(Nat.le_antisymm (fk [a,b,c] [(.a v0 (.a v1 n1),.a v2 n2)] (.a (.a v0 n1) v1) (.a v2 n2) rfl (Nat.le_of_eq h)) (fk [c,a,b] [(.a v0 n2,.a v1 (.a v2 n1))] (.a v0 n2) (.a (.a v1 n1) v2) rfl (Nat.le_of_eq h.symm)))
theorem Ah{a:Int}(h:(0:Int)≤a)(h1:a<4):((0:Int)≤a∧a≤9):=⟨(zk [a] [(n0,v0)] n0 v0 rfl h),(zk [a] [(.a v0 n1,.n 4)] v0 (.n 9) rfl h1)⟩
theorem tJ{a:Int}(h:(0:Int)≤a):(1+a)=((((1+a):Int).toNat:Nat):Int):=(Int.le_antisymm (zk [a,((((1+a):Int).toNat:Nat):Int)] [(.a n1 v0,v1)] (.a n1 v0) v1 rfl (Int.self_le_toNat _)) (zk [((((1+a):Int).toNat:Nat):Int),a] [(v0,.a n1 v1)] v0 (.a n1 v1) rfl (zt (zk [a] [(n0,v0)] n0 (.a n1 v0) rfl h))))
theorem F5{b:Nat}{a:Int}(h:(0:Int)≤a)(h1:a<2)(h2:(1+a)=(b:Int)):((1:Nat)≤b∧b≤5):=⟨(Int.ofNat_le.mp (zk [(b:Int),a] [(.a n1 v1,v0),(n0,v1)] n1 v0 rfl (Int.le_of_eq h2) h)),(Int.ofNat_le.mp (zk [(b:Int),a] [(v0,.a n1 v1),(.a v1 n1,n2)] v0 (.n 5) rfl (Int.le_of_eq h2.symm) h1))⟩
theorem J2{b:Nat}{a:Int}(h:(0:Int)≤a)(h1:a<3)(h2:(1+a)=(b:Int)):((1:Nat)≤b∧b≤5):=⟨(Int.ofNat_le.mp (zk [(b:Int),a] [(.a n1 v1,v0),(n0,v1)] n1 v0 rfl (Int.le_of_eq h2) h)),(Int.ofNat_le.mp (zk [(b:Int),a] [(v0,.a n1 v1),(.a v1 n1,n3)] v0 (.n 5) rfl (Int.le_of_eq h2.symm) h1))⟩
theorem X4{a b c:Int}(h:(0:Int)≤a)(h1:(0:Int)≤b)(h2:c=((256*a)+b)):(0:Int)≤c:=zk [c,a,b] [(.a (.m 256 v1) v2,v0),(.m 256 n0,.m 256 v1),(n0,v2)] n0 v0 rfl (Int.le_of_eq h2.symm) (Int.mul_le_mul_of_nonneg_left h (by decide:(0:Int)≤256)) h1
theorem l6{a:Nat}:(0:Int)≤(a:Int):=zk [(a:Int)] [(n0,v0)] n0 v0 rfl (Int.natCast_nonneg _)
theorem EH{a b:Nat}(h:a≤b):(0+a)≤b:=fk [a,b] [(v0,v1)] (.a n0 v0) v1 rfl h
theorem Gs{a b c:Nat}(h:decide ((a:Int)≤(((b:Int)-1)-(c:Int)))=true):(c+a)<b:=(Int.ofNat_le.mp (zk [(c:Int),(a:Int),(b:Int)] [(v1,.s (.s v2 n1) v0)] (.a (.a v0 v1) n1) v2 rfl (of_decide_eq_true h)))
theorem Dh{a b c:Nat}(h:decide ((a:Int)≤(((b:Int)-1)-(c:Int)))=true):(((b:Int)-1)-(c:Int))=(((b-(c+1)):Nat):Int):=(Int.le_antisymm (zk [(b:Int),(c:Int),(((b-(c+1)):Nat):Int)] [(v0,.a v2 (.a v1 n1))] (.s (.s v0 n1) v1) v2 rfl (zc sq)) (zk [(((b-(c+1)):Nat):Int),(b:Int),(c:Int)] [(.a v0 (.a v2 n1),v1)] v0 (.s (.s v1 n1) v2) rfl (zc (sp (Int.ofNat_le.mp (zk [(c:Int),(b:Int),(a:Int)] [(v2,.s (.s v1 n1) v0),(n0,v2)] (.a v0 n1) v1 rfl (of_decide_eq_true h) (Int.natCast_nonneg _)))))))
theorem GP{a b c:Nat}(h:decide ((a:Int)≤(((b:Int)-1)-(c:Int)))=true):(b-(c+1))≤b:=(Nat.sub_le _ _)
theorem Dv{a b c:Nat}(h:decide ((a:Int)≤(((b:Int)-1)-(c:Int)))=true):((b-1)-c)<b:=fk [((b-1)-c),b,(b-1)] [(v0,v2),(.a v2 n1,v1)] (.a v0 n1) v1 rfl (Nat.sub_le _ _) (sp (Int.ofNat_le.mp (zk [(b:Int),(a:Int),(c:Int)] [(v1,.s (.s v0 n1) v2),(n0,v1),(n0,v2)] n1 v0 rfl (of_decide_eq_true h) (Int.natCast_nonneg _) (Int.natCast_nonneg _))))
theorem DZ{a b c:Nat}(h:decide ((a:Int)≤(((b:Int)-1)-(c:Int)))=true):(((b:Int)-1)-(c:Int))=((((b-1)-c):Nat):Int):=(Int.le_antisymm (zk [(b:Int),(c:Int),((((b-1)-c):Nat):Int),(((b-1):Nat):Int)] [(v0,.a v3 n1),(v3,.a v2 v1)] (.s (.s v0 n1) v1) v2 rfl (zc sq) (zc sq)) (zk [((((b-1)-c):Nat):Int),(b:Int),(c:Int),(((b-1):Nat):Int)] [(.a v0 v2,v3),(.a v3 n1,v1)] v0 (.s (.s v1 n1) v2) rfl (zc (sp (Int.ofNat_le.mp (zk [(c:Int),(((b-1):Nat):Int),(a:Int),(b:Int)] [(v2,.s (.s v3 n1) v0),(v3,.a v1 n1),(n0,v2)] v0 v1 rfl (of_decide_eq_true h) (zc sq) (Int.natCast_nonneg _))))) (zc (sp (Int.ofNat_le.mp (zk [(b:Int),(a:Int),(c:Int)] [(v1,.s (.s v0 n1) v2),(n0,v1),(n0,v2)] n1 v0 rfl (of_decide_eq_true h) (Int.natCast_nonneg _) (Int.natCast_nonneg _)))))))
theorem Ge{a b c:Nat}(h:decide ((a:Int)≤(((b:Int)-1)-(c:Int)))=true):(b-(c+1))<(b-c):=fk [(b-(c+1)),(b-c),b,c] [(.a v0 (.a v3 n1),v2),(v2,.a v1 v3)] (.a v0 n1) v1 rfl (sp (Int.ofNat_le.mp (zk [(c:Int),(b:Int),(a:Int)] [(v2,.s (.s v1 n1) v0),(n0,v2)] (.a v0 n1) v1 rfl (of_decide_eq_true h) (Int.natCast_nonneg _)))) sq
theorem ES{a b c:Nat}(h:decide ((a:Int)≤(((b:Int)-1)-(c:Int)))=true):((c+1)+a)≤b:=(Int.ofNat_le.mp (zk [(c:Int),(a:Int),(b:Int)] [(v1,.s (.s v2 n1) v0)] (.a (.a v0 n1) v1) v2 rfl (of_decide_eq_true h)))
theorem Di{a b:Nat}:((((a:Int)-1)-(b:Int))-1)=(((a:Int)-1)-(((b+1):Nat):Int)):=(Int.le_antisymm (zk [(a:Int),(b:Int)] [] (.s (.s (.s v0 n1) v1) n1) (.s (.s v0 n1) (.a v1 n1)) rfl ) (zk [(a:Int),(b:Int)] [] (.s (.s v0 n1) (.a v1 n1)) (.s (.s (.s v0 n1) v1) n1) rfl ))
theorem Gz{a b:Nat}(h:((a+(5*(b+1)))+10)≤700):(((a+1)+(5*b))+10)≤700:=fk [a,b] [(.a (.a v0 (.m 5 (.a v1 n1))) (.n 10),.n 700)] (.a (.a (.a v0 n1) (.m 5 v1)) (.n 10)) (.n 700) rfl h
theorem Hu{a b:Nat}(h:((a+(60*(b+1)))+200)≤9900):(((a+1)+(60*b))+200)≤9900:=fk [a,b] [(.a (.a v0 (.m 60 (.a v1 n1))) (.n 200),.n 9900)] (.a (.a (.a v0 n1) (.m 60 v1)) (.n 200)) (.n 9900) rfl h
theorem F3{a:Int}(h:(0:Int)≤a):(-1000000000)≤(1+a):=zk [a] [(n0,v0)] (.g (.n 1000000000)) (.a n1 v0) rfl h
theorem FI{a:Int}(h:a<5):(1+a)≤1000000000:=zk [a] [(.a v0 n1,.n 5)] (.a n1 v0) (.n 1000000000) rfl h
theorem FK{a:Int}(h:a<5):(1+a)≤5:=zk [a] [(.a v0 n1,.n 5)] (.a n1 v0) (.n 5) rfl h
theorem Fk{a:Int}(h:(0:Int)≤a):(1:Nat)≤((1+a):Int).toNat:=(Int.ofNat_le.mp (zk [((((1+a):Int).toNat:Nat):Int),a] [(.a n1 v1,v0),(n0,v1)] n1 v0 rfl (Int.self_le_toNat _) h))
theorem HC{a b:Nat}:(1:Nat)≤((a+1)+b):=fk [a,b] [] n1 (.a (.a v0 n1) v1) rfl
theorem Ij{a b c d:Nat}(h:(a+b)≤1000000)(h1:(c+d)=(a+b)):c≤1000000:=fk [c,a,b,d] [(.a v0 v3,.a v1 v2),(.a v1 v2,.n 1000000)] v0 (.n 1000000) rfl (Nat.le_of_eq h1) h
theorem IT{a b:Nat}(h:a<b):(((b:Int)-1)-(a:Int))=((((b-1)-a):Nat):Int):=(Int.le_antisymm (zk [(b:Int),(a:Int),((((b-1)-a):Nat):Int),(((b-1):Nat):Int)] [(v0,.a v3 n1),(v3,.a v2 v1)] (.s (.s v0 n1) v1) v2 rfl (zc sq) (zc sq)) (zk [((((b-1)-a):Nat):Int),(b:Int),(a:Int),(((b-1):Nat):Int)] [(.a v0 v2,v3),(.a v3 n1,v1)] v0 (.s (.s v1 n1) v2) rfl (zc (sp (fk [a,(b-1),b] [(.a v0 n1,v2),(v2,.a v1 n1)] v0 v1 rfl h sq))) (zc (sp (fk [b,a] [(.a v1 n1,v0)] n1 v0 rfl h)))))
theorem Im{a:Int}(h:(0:Int)≤a)(h1:a<(2 ^ 20)):((-9223372036854775808)≤a∧a<9223372036854775808):=⟨(zk [a] [(n0,v0)] (.g (.n 9223372036854775808)) v0 rfl h),(zk [a] [(.a v0 n1,.n (2 ^ 20))] (.a v0 n1) (.n 9223372036854775808) rfl h1)⟩
theorem JA{a:Int}(h:a<(2 ^ 20)):a≤1152921504606846975:=zk [a] [(.a v0 n1,.n (2 ^ 20))] v0 (.n 1152921504606846975) rfl h
theorem IA{a:Int}(h:a<(2 ^ 20)):a≤16777216:=zk [a] [(.a v0 n1,.n (2 ^ 20))] v0 (.n 16777216) rfl h
theorem Eg{a b:Nat}(h:((a+(60*b))+200)≤9900):(a+64)<9900:=fk [a,b] [(.a (.a v0 (.m 60 v1)) (.n 200),.n 9900)] (.a (.a v0 (.n 64)) n1) (.n 9900) rfl h
theorem IB{a b:Nat}(h:((a+(60*b))+200)≤9900):((a+1)+0)<9900:=fk [a,b] [(.a (.a v0 (.m 60 v1)) (.n 200),.n 9900)] (.a (.a (.a v0 n1) n0) n1) (.n 9900) rfl h
theorem Ii{a b:Nat}(h:(a+b)>63):(63:Int)<((a:Int)+(b:Int)):=zk [(a:Int),(b:Int)] [(.a (.n 63) n1,.a v0 v1)] (.a (.n 63) n1) (.a v0 v1) rfl (zc h)
theorem JN{a b:Nat}(h:¬((a+b)>63)):((a:Int)+(b:Int))≤63:=zk [(a:Int),(b:Int)] [(.a v0 v1,.n 63)] (.a v0 v1) (.n 63) rfl (zc (Nat.not_lt.mp h))
theorem JQ{a b:Nat}(h:¬((a+b)>63)):(a+b)≤1000000:=fk [a,b] [(.a v0 v1,.n 63)] (.a v0 v1) (.n 1000000) rfl (Nat.not_lt.mp h)
theorem Hw{a b:Nat}(h:¬((a+b)>63)):(a+b)≤63:=(Nat.not_lt.mp h)
theorem IF{a b:Nat}:((a+1)+b)=(a+(b+1)):=(Nat.le_antisymm (fk [a,b] [] (.a (.a v0 n1) v1) (.a v0 (.a v1 n1)) rfl ) (fk [a,b] [] (.a v0 (.a v1 n1)) (.a (.a v0 n1) v1) rfl ))
theorem Av{a b:Nat}(h:a<b):(a+1)<(b+1):=fk [a,b] [(.a v0 n1,v1)] (.a (.a v0 n1) n1) (.a v1 n1) rfl h
theorem v8{a:Nat}:(0:Nat)<(a+1):=fk [a] [] (.a n0 n1) (.a v0 n1) rfl
theorem O1{a b:Nat}(h:a≤b):a≤(b-(b-a)):=fk [a,(b-(b-a)),b,(b-a)] [(.a v3 v0,v2),(v2,.a v1 v3)] v0 v1 rfl (sp h) sq
theorem G9{a b c:Nat}(h:a≤b)(h1:c<a):((b-1)-((a-1)-c))=((b-a)+c):=(Nat.le_antisymm (fk [((b-1)-((a-1)-c)),(b-a),c,a,b,(b-1),(a-1),((a-1)-c)] [(.a v0 v7,v5),(.a v5 n1,v4),(v4,.a v1 v3),(v3,.a v6 n1),(v6,.a v7 v2)] v0 (.a v1 v2) rfl (sp (fk [((a-1)-c),(b-1),a,b,(a-1)] [(v0,v4),(.a v4 n1,v2),(v2,v3),(v3,.a v1 n1)] v0 v1 rfl (Nat.sub_le _ _) (sp (fk [a,c] [(.a v1 n1,v0)] n1 v0 rfl h1)) h sq)) (sp (fk [b,a,c] [(.a v2 n1,v1),(v1,v0)] n1 v0 rfl h1 h)) sq sq sq) (fk [(b-a),c,((b-1)-((a-1)-c)),a,b,(b-1),(a-1),((a-1)-c)] [(.a v0 v3,v4),(.a v7 v1,v6),(v4,.a v5 n1),(v5,.a v2 v7),(.a v6 n1,v3)] (.a v0 v1) v2 rfl (sp h) (sp (fk [c,(a-1),a] [(.a v0 n1,v2),(v2,.a v1 n1)] v0 v1 rfl h1 sq)) sq sq (sp (fk [a,c] [(.a v1 n1,v0)] n1 v0 rfl h1))))
theorem H7{a b:Nat}:a≤(b+(a-b)):=fk [a,b,(a-b)] [(v0,.a v2 v1)] v0 (.a v1 v2) rfl sq
theorem Bf{a b c:Nat}(h:(a+b)≤c):a≤c:=fk [a,c,b] [(.a v0 v2,v1)] v0 v1 rfl h
theorem F7{a b:Nat}(h:(a:Int)≤(b:Int)):a≤b:=(Int.ofNat_le.mp (zk [(a:Int),(b:Int)] [(v0,v1)] v0 v1 rfl h))
theorem Bq{a b c d:Nat}(h:a≤b)(h1:c≤a)(h2:(c+d)=b):(a-c)≤d:=fk [(a-c),d,a,b,c] [(.a v0 v4,v2),(v2,v3),(v3,.a v4 v1)] v0 v1 rfl (sp h1) h (Nat.le_of_eq h2.symm)
theorem Eh{a:Nat}:¬(((a:Int)+1)=0):=(fun e=>(absurd (Int.ofNat_le.mp (zk [(a:Int)] [(.a v0 n1,n0),(n0,v0)] n1 n0 rfl (Int.le_of_eq e) (Int.natCast_nonneg _))) (Nat.not_succ_le_zero 0)))
theorem EX{a:Int}:a=a:=(Int.le_antisymm (zk [a] [] v0 v0 rfl ) (zk [a] [] v0 v0 rfl ))
theorem FH{a:Int}(h:(1:Int)≤a)(h1:¬(a>1)):(1:Int)=a:=(Int.le_antisymm (zk [a] [(n1,v0)] n1 v0 rfl h) (zk [a] [(v0,n1)] v0 n1 rfl (Int.not_lt.mp h1)))
theorem DW{a:Int}(h:a≤63)(h1:¬(a<63)):(63:Int)=a:=(Int.le_antisymm (zk [a] [(.n 63,v0)] (.n 63) v0 rfl (Int.not_lt.mp h1)) (zk [a] [(v0,.n 63)] v0 (.n 63) rfl h))
theorem FW{a:Nat}(h:a≤63):(1+a)≤100000:=fk [a] [(v0,.n 63)] (.a n1 v0) (.n 100000) rfl h
theorem c9{a b:Nat}(h:a≤63)(h1:b=(a+2)):b≤1000000:=fk [b,a] [(v0,.a v1 n2),(v1,.n 63)] v0 (.n 1000000) rfl (Nat.le_of_eq h1) h
theorem Ec{a b:Nat}(h:a=(b+2)):(0:Int)≤((a:Int)+1):=zk [(a:Int)] [(n0,v0)] n0 (.a v0 n1) rfl (Int.natCast_nonneg _)
theorem FO{a b:Nat}(h:a≤63)(h1:b=(a+2)):((b:Int)+1)<1048576:=zk [(b:Int),(a:Int)] [(v0,.a v1 n2),(v1,.n 63)] (.a (.a v0 n1) n1) (.n 1048576) rfl (zc (Nat.le_of_eq h1)) (zc h)
theorem GA{a b:Nat}(h:a=(b+2)):(a:Int)=((b:Int)+2):=(Int.le_antisymm (zk [(a:Int),(b:Int)] [(v0,.a v1 n2)] v0 (.a v1 n2) rfl (zc (Nat.le_of_eq h))) (zk [(b:Int),(a:Int)] [(.a v0 n2,v1)] (.a v0 n2) v1 rfl (zc (Nat.le_of_eq h.symm))))
theorem b9{a:Nat}:(-1000000000)≤(a:Int):=zk [(a:Int)] [(n0,v0)] (.g (.n 1000000000)) v0 rfl (Int.natCast_nonneg _)
theorem HG{a b:Nat}(h:a≤63)(h1:b=(a+2)):(b:Int)≤1000000000:=zk [(b:Int),(a:Int)] [(v0,.a v1 n2),(v1,.n 63)] v0 (.n 1000000000) rfl (zc (Nat.le_of_eq h1)) (zc h)
theorem q_184{a:Nat}:(0+(a+2))=(a+2):=(Nat.le_antisymm (fk [a] [] (.a n0 (.a v0 n2)) (.a v0 n2) rfl ) (fk [a] [] (.a v0 n2) (.a n0 (.a v0 n2)) rfl ))
theorem AK{a:Int}(h:a=0):((0:Int)≤a∧a≤255):=⟨(zk [a] [(n0,v0)] n0 v0 rfl (Int.le_of_eq h.symm)),(zk [a] [(v0,n0)] v0 (.n 255) rfl (Int.le_of_eq h))⟩
theorem Z5{a:Int}(h:((1:Int)≤a∧a≤255)):((0:Int)≤a∧a≤255):=⟨(zk [a] [(n1,v0)] n0 v0 rfl h.1),(zk [a] [(v0,.n 255)] v0 (.n 255) rfl h.2)⟩
theorem FP{a:Int}(h:decide (a<0)=false):¬(a<0):=(Int.not_lt.mpr (zk [a] [(n0,v0)] n0 v0 rfl (Int.not_lt.mp (of_decide_eq_false h))))
theorem Da{a b c:Nat}(h:(a+(b+1))=(c+2)):a≤(c+3):=fk [a,c,b] [(.a v0 (.a v2 n1),.a v1 n2)] v0 (.a v1 n3) rfl (Nat.le_of_eq h)
theorem Gx{a b c:Nat}(h:(a+b)<(c+2)):(a+((b+1)+1))≤(c+3):=fk [a,b,c] [(.a (.a v0 v1) n1,.a v2 n2)] (.a v0 (.a (.a v1 n1) n1)) (.a v2 n3) rfl h
theorem Go{a b c d:Nat}(h:(a+(b+1))≤(c+3))(h1:d=(c+3)):a<d:=fk [a,d,b,c] [(.a v0 (.a v2 n1),.a v3 n3),(.a v3 n3,v1)] (.a v0 n1) v1 rfl h (Nat.le_of_eq h1.symm)
theorem Y4{a b:Nat}(h:a≤63)(h1:b=(a+3)):b≤1000000:=fk [b,a] [(v0,.a v1 n3),(v1,.n 63)] v0 (.n 1000000) rfl (Nat.le_of_eq h1) h
theorem Fp{a b:Nat}:(a+(b+1))=((a+b)+1):=(Nat.le_antisymm (fk [a,b] [] (.a v0 (.a v1 n1)) (.a (.a v0 v1) n1) rfl ) (fk [a,b] [] (.a (.a v0 v1) n1) (.a v0 (.a v1 n1)) rfl ))
theorem Y7:¬((0:Int)≤(-1)):=(Int.not_le.mpr (zk [] [] (.a (.g n1) n1) n0 rfl ))
theorem Fi{a:Nat}(h:(0:Nat)<a):(0:Int)≤((-1)+(a:Int)):=zk [(a:Int)] [(.a n0 n1,v0)] n0 (.a (.g n1) v0) rfl (zc h)
theorem GG{a:Nat}(h:(0:Nat)<a):(a-1)<a:=(sp (fk [a] [(.a n0 n1,v0)] n1 v0 rfl h))
theorem Em{a:Nat}(h:(0:Nat)<a):((a-1)+1)=a:=(Nat.le_antisymm (sp (fk [a] [(.a n0 n1,v0)] n1 v0 rfl h)) sq)
theorem FZ{a:Nat}(h:a≤10):(a:Int)≤64:=zk [(a:Int)] [(v0,.n 10)] v0 (.n 64) rfl (zc h)
theorem IC{a b:Nat}(h:((a+(60*(b+1)))+200)≤9900):(((a+3)+(60*b))+200)≤9900:=fk [a,b] [(.a (.a v0 (.m 60 (.a v1 n1))) (.n 200),.n 9900)] (.a (.a (.a v0 n3) (.m 60 v1)) (.n 200)) (.n 9900) rfl h
theorem Ir{a b:Nat}(h:((a+(5*(b+1)))+10)≤700):a<1000:=fk [a,b] [(.a (.a v0 (.m 5 (.a v1 n1))) (.n 10),.n 700)] (.a v0 n1) (.n 1000) rfl h
theorem Dd{a b c:Nat}:(min (a-b) (c-b))≤(a-b):=(Nat.min_le_left _ _)
theorem Gr{a b c:Nat}(h:a≤b)(h1:b≤c):(c-a)=((b-a)+(c-b)):=(Nat.le_antisymm (fk [(c-a),(b-a),(c-b),a,b,c] [(.a v0 v3,v5),(v5,.a v2 v4),(v4,.a v1 v3)] v0 (.a v1 v2) rfl (sp (fk [a,c,b] [(v0,v2),(v2,v1)] v0 v1 rfl h h1)) sq sq) (fk [(b-a),(c-b),(c-a),a,b,c] [(.a v0 v3,v4),(.a v1 v4,v5),(v5,.a v2 v3)] (.a v0 v1) v2 rfl (sp h) (sp h1) sq))
theorem Fb{a b c:Nat}:(a+b)≤(a+(b+c)):=fk [a,b,c] [] (.a v0 v1) (.a v0 (.a v1 v2)) rfl
theorem q_204{a b c d:Nat}(h:a<b)(h1:a≥c)(h2:b<d):(a-c)<(d-c):=fk [(a-c),(d-c),a,b,c,d] [(.a v0 v4,v2),(.a v2 n1,v3),(.a v3 n1,v5),(v5,.a v1 v4)] (.a v0 n1) v1 rfl (sp h1) h h2 sq
theorem Hj{a b c:Nat}(h:a≤10000)(h1:b≤a)(h2:c≤(64*b))(h3:¬((b:Int)<(a:Int))):c≤640000:=fk [c,a,b] [(v0,.m 64 v2),(.m 64 v2,.m 64 v1),(.m 64 v1,.m 64 (.n 10000))] v0 (.n 640000) rfl h2 (Nat.mul_le_mul_left 64 h1) (Nat.mul_le_mul_left 64 h)
theorem En{a b c:Nat}(h:a≤10000)(h1:b≤(64*c))(h2:(c:Int)<(a:Int)):b≤1000000:=(Int.ofNat_le.mp (zk [(b:Int),(a:Int),(c:Int)] [(v0,.m 64 v2),(.m 64 (.a v2 n1),.m 64 v1),(.m 64 v1,.m 64 (.n 10000))] v0 (.n 1000000) rfl (zc h1) (Int.mul_le_mul_of_nonneg_left h2 (by decide:(0:Int)≤64)) (Int.mul_le_mul_of_nonneg_left (zc h) (by decide:(0:Int)≤64))))
theorem Eo{a b:Nat}(h:a≤(64*b)):(a+1)≤(64*(b+1)):=fk [a,b] [(v0,.m 64 v1)] (.a v0 n1) (.m 64 (.a v1 n1)) rfl h
theorem EJ{a:Nat}:(((a:Int)+1)-1)=(a:Int):=(Int.le_antisymm (zk [(a:Int)] [] (.s (.a v0 n1) n1) v0 rfl ) (zk [(a:Int)] [] v0 (.s (.a v0 n1) n1) rfl ))
theorem AE{a b c d i:Nat}(h:a≤90)(h1:a=(b+c))(h2:c=(d+i)):d≤90:=fk [d,a,b,c,i] [(.a v0 v4,v3),(.a v2 v3,v1),(v1,.n 90)] v0 (.n 90) rfl (Nat.le_of_eq h2.symm) (Nat.le_of_eq h1.symm) h
theorem EM{a b c d i:Nat}(h:a≤10000)(h1:b<c)(h2:d≤a)(h3:i=(d-c)):i≤10000:=fk [i,a,d,(d-c)] [(v0,v3),(v3,v2),(v2,v1),(v1,.n 10000)] v0 (.n 10000) rfl (Nat.le_of_eq h3) (Nat.sub_le _ _) h2 h
theorem Hh{a b c d:Nat}{i:Int}(h:(a+b)≤c)(h1:d=b)(h2:((1:Int)≤i∧(i+1)≤(d:Int))):((0:Int)≤((a:Int)+i)∧((a:Int)+i)≤(c:Int)):=⟨(zk [(a:Int),i] [(n0,v0),(n1,v1)] n0 (.a v0 v1) rfl (Int.natCast_nonneg _) h2.1),(zk [(a:Int),i,(c:Int),(b:Int),(d:Int)] [(.a v0 v3,v2),(.a v1 n1,v4),(v4,v3)] (.a v0 v1) v2 rfl (zc h) h2.2 (zc (Nat.le_of_eq h1)))⟩
theorem Bk{a b:Nat}(h:a≤2)(h1:b≤(1601*a)):b≤(1601*2):=fk [b,a] [(v0,.m 1601 v1),(.m 1601 v1,.m 1601 n2)] v0 (.m 1601 n2) rfl h1 (Nat.mul_le_mul_left 1601 h)
theorem DD{a b:Nat}(h:a≤2)(h1:b≤(12*a)):b≤(12*2):=fk [b,a] [(v0,.m 12 v1),(.m 12 v1,.m 12 n2)] v0 (.m 12 n2) rfl h1 (Nat.mul_le_mul_left 12 h)
theorem CJ{a b c d:Nat}(h:a≤(1601*b))(h1:c≤800)(h2:d≤800):(a+((c+d)+1))≤(1601*(b+1)):=fk [a,c,d,b] [(v0,.m 1601 v3),(v1,.n 800),(v2,.n 800)] (.a v0 (.a (.a v1 v2) n1)) (.m 1601 (.a v3 n1)) rfl h h1 h2
theorem AS{a b c d:Nat}(h:a≤(12*b))(h1:c≤6)(h2:d≤6):((a+c)+d)≤(12*(b+1)):=fk [a,c,d,b] [(v0,.m 12 v3),(v1,.n 6),(v2,.n 6)] (.a (.a v0 v1) v2) (.m 12 (.a v3 n1)) rfl h h1 h2
theorem CO{a:Int}(h:((1:Int)≤a∧a≤2)):((1:Int)≤a∧a≤1000):=⟨(zk [a] [(n1,v0)] n1 v0 rfl h.1),(zk [a] [(v0,n2)] v0 (.n 1000) rfl h.2)⟩
theorem Ce{a b:Int}(h:((1:Int)≤a∧a≤2))(h1:b<a):(1+b)≤1000000000:=zk [b,a] [(.a v0 n1,v1),(v1,n2)] (.a n1 v0) (.n 1000000000) rfl h1 h.2
theorem CX{a b c:Nat}(h:(a+(b+1))≤2)(h1:c≤(1601*a)):c≤1000000:=fk [c,a,b] [(v0,.m 1601 v1),(.m 1601 (.a v1 (.a v2 n1)),.m 1601 n2)] v0 (.n 1000000) rfl h1 (Nat.mul_le_mul_left 1601 h)
theorem Az{a b c d:Nat}(h:(a+(b+1))≤2)(h1:c≤(1601*a))(h2:d≤800):((c+1)+d)≤1000000:=fk [c,d,a,b] [(v0,.m 1601 v2),(v1,.n 800),(.m 1601 (.a v2 (.a v3 n1)),.m 1601 n2)] (.a (.a v0 n1) v1) (.n 1000000) rfl h1 h2 (Nat.mul_le_mul_left 1601 h)
theorem CB{a b c d i:Nat}(h:(a+(b+1))≤2)(h1:c≤(1601*a))(h2:d≤800)(h3:i≤800):((c+(d+1))+i)≤1000000:=fk [c,d,i,a,b] [(v0,.m 1601 v3),(v1,.n 800),(v2,.n 800),(.m 1601 (.a v3 (.a v4 n1)),.m 1601 n2)] (.a (.a v0 (.a v1 n1)) v2) (.n 1000000) rfl h1 h2 h3 (Nat.mul_le_mul_left 1601 h)
theorem IK{a:Int}(h:(0:Int)≤a):(-(2 ^ 62))≤a:=zk [a] [(n0,v0)] (.g (.n (2 ^ 62))) v0 rfl h
theorem Iz{a:Nat}{b:Int}(h:a≤1000000)(h1:(0:Int)≤b)(h2:(b:Int).toNat<a):b<(2 ^ 62):=zk [b,(a:Int),(((b:Int).toNat:Nat):Int)] [(v0,v2),(.a v2 n1,v1),(v1,.n 1000000)] (.a v0 n1) (.n (2 ^ 62)) rfl (Int.self_le_toNat _) (zc h2) (zc h)
theorem q_34{b:Nat}{a:Int}(h:(0:Int)≤a)(h1:(a:Int).toNat<b):a<(b:Int):=zk [a,(b:Int),(((a:Int).toNat:Nat):Int)] [(v0,v2),(.a v2 n1,v1)] (.a v0 n1) v1 rfl (Int.self_le_toNat _) (zc h1)
theorem IE{a:Nat}{b:Int}(h:a≤1000000)(h1:(0:Int)≤(b+(a:Int))):(-(2 ^ 62))≤b:=zk [b,(a:Int)] [(n0,.a v0 v1),(v1,.n 1000000)] (.g (.n (2 ^ 62))) v0 rfl h1 (zc h)
theorem JV{a:Int}(h:¬((0:Int)≤a)):a<(2 ^ 62):=zk [a] [(.a v0 n1,n0)] (.a v0 n1) (.n (2 ^ 62)) rfl (Int.not_le.mp h)
theorem By{a:Int}(h:¬((0:Int)≤a)):a<0:=zk [a] [(.a v0 n1,n0)] (.a v0 n1) n0 rfl (Int.not_le.mp h)
theorem Iq{b:Nat}{a:Int}(h:(0:Int)≤a)(h1:a<(b:Int))(h2:b≤1000):((-9223372036854775808)≤a∧a<9223372036854775808):=⟨(zk [a] [(n0,v0)] (.g (.n 9223372036854775808)) v0 rfl h),(zk [a,(b:Int)] [(.a v0 n1,v1),(v1,.n 1000)] (.a v0 n1) (.n 9223372036854775808) rfl h1 (zc h2))⟩
theorem Hv{b:Nat}{a:Int}(h:(0:Int)≤a)(h1:a<(b:Int)):(-(b:Int))≤a:=zk [(b:Int),a] [(.a v1 n1,v0),(.m 2 n0,.m 2 v1)] (.g v0) v1 rfl h1 (Int.mul_le_mul_of_nonneg_left h (by decide:(0:Int)≤2))
theorem q_40{b:Nat}{a:Int}(h:a<(b:Int))(h1:b≤1000000):a<(2 ^ 63):=zk [a,(b:Int)] [(.a v0 n1,v1),(v1,.n 1000000)] (.a v0 n1) (.n (2 ^ 63)) rfl h (zc h1)
theorem IP{a b:Nat}:(a-(a-b))≤b:=fk [(a-(a-b)),b,(a-b),a] [(.a v0 v2,v3),(v3,.a v2 v1)] v0 v1 rfl (sp (Nat.sub_le _ _)) sq
theorem Iu{a b:Nat}(h:a≤b)(h1:b≤90):a≤1000:=fk [a,b] [(v0,v1),(v1,.n 90)] v0 (.n 1000) rfl h h1
theorem IX{a b:Nat}(h:a<b)(h1:b≤10000):((-1000000000)≤((a:Int)+1)∧(((a:Int)+1)≤1000000000∧(b:Int)≤1000000000)):=⟨(zk [(a:Int)] [(n0,v0)] (.g (.n 1000000000)) (.a v0 n1) rfl (Int.natCast_nonneg _)),⟨(zk [(a:Int),(b:Int)] [(.a v0 n1,v1),(v1,.n 10000)] (.a v0 n1) (.n 1000000000) rfl (zc h) (zc h1)),(zk [(b:Int)] [(v0,.n 10000)] v0 (.n 1000000000) rfl (zc h1))⟩⟩
theorem IS{a b:Nat}(h:(a-b)=0):a≤b:=fk [a,b,(a-b)] [(v0,.a v2 v1),(v2,n0)] v0 v1 rfl sq (Nat.le_of_eq h)
theorem d7{a:Int}(h:(1:Int)≤a):a≠0:=(fun e=>(absurd (Int.ofNat_le.mp (zk [a] [(n1,v0),(v0,n0)] n1 n0 rfl h (Int.le_of_eq e))) (Nat.not_succ_le_zero 0)))
theorem Fa{a:Int}(h:((1:Int)≤a∧a≤255)):(0:Int)≤a:=zk [a] [(n1,v0)] n0 v0 rfl h.1
theorem EL{a:Nat}(h:a≤63):(a:Int)≤63:=zk [(a:Int)] [(v0,.n 63)] v0 (.n 63) rfl (zc h)
theorem K3{a b:Nat}(h:a≤63)(h1:b=(a+1)):b≤1000000:=fk [b,a] [(v0,.a v1 n1),(v1,.n 63)] v0 (.n 1000000) rfl (Nat.le_of_eq h1) h
theorem Jq{a b c:Nat}(h:(a=b∧a≤(c+1))):(a=b∧a≤(c+1)):=⟨(Nat.le_antisymm (Nat.le_of_eq h.1) (Nat.le_of_eq h.1.symm)),h.2⟩
theorem Gn{a:Nat}:(0:Int)≤((-1)+((a:Int)+1)):=zk [(a:Int)] [(n0,v0)] n0 (.a (.g n1) (.a v0 n1)) rfl (Int.natCast_nonneg _)
theorem GV{a b:Nat}(h:a≤63)(h1:b≤100):b≤(163-a):=fk [b,(163-a),a] [(v0,.n 100),(.n 163,.a v1 v2),(v2,.n 63)] v0 v1 rfl h1 sq h
theorem DX{a b:Nat}(h:a≤(162-b)):a≤(162-b):=h
theorem Dz{a b:Nat}(h:(a+1)≤63)(h1:b≤((162-a)+1)):b≤(163-a):=fk [b,(163-a),a,(162-a)] [(v0,.a v3 n1),(.a v3 v2,.n 162),(.n 163,.a v1 v2)] v0 v1 rfl h1 (sp (fk [a] [(.a v0 n1,.n 63)] v0 (.n 162) rfl h)) sq
theorem FG{a b:Nat}(h:(a+1)≤63)(h1:b≤(162-a)):b≤1000000:=fk [b,(162-a)] [(v0,v1),(v1,.n 162)] v0 (.n 1000000) rfl h1 (Nat.sub_le _ _)
theorem Jx{a:Nat}(h:a=4):(a+100)≤16777216:=fk [a] [(v0,.n 4)] (.a v0 (.n 100)) (.n 16777216) rfl (Nat.le_of_eq h)
theorem Jb{a b:Nat}(h:a≤b)(h1:b≤a):a=b:=(Nat.le_antisymm h h1)
theorem JT{a b:Nat}(h:(a+(b+1))≤1000):a≤16777216:=fk [a,b] [(.a v0 (.a v1 n1),.n 1000)] v0 (.n 16777216) rfl h
theorem IH{a b c:Nat}(h:(a+(b+1))≤1000)(h1:c≤(a+1)):(c+b)≤1000:=fk [c,b,a] [(v0,.a v2 n1),(.a v2 (.a v1 n1),.n 1000)] (.a v0 v1) (.n 1000) rfl h1 h
theorem HS{a:Int}(h:(-(2 ^ 62))≤a):(-(2 ^ 63))≤a:=zk [a] [(.g (.n (2 ^ 62)),v0)] (.g (.n (2 ^ 63))) v0 rfl h
theorem Ei{a:Int}(h:a<(2 ^ 62)):a<(2 ^ 63):=zk [a] [(.a v0 n1,.n (2 ^ 62))] (.a v0 n1) (.n (2 ^ 63)) rfl h
theorem Iv{b:Nat}{a:Int}(h:¬(a<(b:Int))):(b:Int)≤a:=zk [(b:Int),a] [(v0,v1)] v0 v1 rfl (Int.not_lt.mp h)
theorem Hr{b:Nat}{a:Int}(h:(0:Int)≤(a+(b:Int))):(-(b:Int))≤a:=zk [(b:Int),a] [(n0,.a v1 v0)] (.g v0) v1 rfl h
theorem Hy{b:Nat}{a:Int}(h:¬((0:Int)≤(a+(b:Int)))):a<(-(b:Int)):=zk [a,(b:Int)] [(.a (.a v0 v1) n1,n0)] (.a v0 n1) (.g v1) rfl (Int.not_le.mp h)
theorem Dr{a:Int}(h:(a-1)<25):¬((25:Int)≤(a-1)):=(Int.not_le.mpr (zk [a] [(.a (.s v0 n1) n1,.n 25)] (.a (.s v0 n1) n1) (.n 25) rfl h))
theorem GF{a b c d:Nat}(h:a=b)(h1:b≤100)(h2:(c+(d+1))=a):c≤100:=fk [c,a,b,d] [(.a v0 (.a v3 n1),v1),(v1,v2),(v2,.n 100)] v0 (.n 100) rfl (Nat.le_of_eq h2) (Nat.le_of_eq h) h1
theorem Ds{a:Int}(h:((-1000000)≤a∧a≤1000000)):(-1073741823)≤a:=zk [a] [(.g (.n 1000000),v0)] (.g (.n 1073741823)) v0 rfl h.1
theorem HE{a:Int}(h:((-1000000)≤a∧a≤1000000)):a≤1073741823:=zk [a] [(v0,.n 1000000)] v0 (.n 1073741823) rfl h.2
theorem EQ{a b:Nat}(h:a<b)(h1:(a+1)≥b):(a+1)=b:=(Nat.le_antisymm h h1)
theorem Fu{a b:Nat}(h:(0:Int)=128):(((0:Int)=0∧(a+1)<b)∨(0:Int)=128):=(.inr (Int.le_antisymm (zk [] [] n0 (.n 128) rfl ) (zk [] [(.n 128,n0)] (.n 128) n0 rfl (Int.le_of_eq h.symm))))
theorem Gy{a:Int}(h:a<128):¬((128:Int)≤a):=(Int.not_le.mpr (zk [a] [(.a v0 n1,.n 128)] (.a v0 n1) (.n 128) rfl h))
theorem HH{a b c d i:Nat}(h:(a+(((b+c)+d)+i))≤900000):(a+b)≤1000000:=fk [a,b,c,d,i] [(.a v0 (.a (.a (.a v1 v2) v3) v4),.n 900000)] (.a v0 v1) (.n 1000000) rfl h
theorem He{a b c d i:Nat}(h:(a+(((b+c)+d)+i))≤900000):(c+i)≤900000:=fk [c,i,a,b,d] [(.a v2 (.a (.a (.a v3 v0) v4) v1),.n 900000)] (.a v0 v1) (.n 900000) rfl h
theorem HA{a b c d i:Nat}(h:(a+(((b+c)+d)+i))≤900000):(a+d)≤1000000:=fk [a,d,b,c,i] [(.a v0 (.a (.a (.a v2 v3) v1) v4),.n 900000)] (.a v0 v1) (.n 1000000) rfl h
theorem EC{a b c d i:Nat}(h:(a+(((b+c)+d)+i))≤900000):((a+d)+i)≤900000:=fk [a,d,i,b,c] [(.a v0 (.a (.a (.a v3 v4) v1) v2),.n 900000)] (.a (.a v0 v1) v2) (.n 900000) rfl h
theorem Dn{a b c d:Nat}(h:a≤b)(h1:(c+(b+d))≤900000):(c+a)≤1000000:=fk [c,a,b,d] [(.a v0 (.a v2 v3),.n 900000),(v1,v2)] (.a v0 v1) (.n 1000000) rfl h1 h
theorem HL{a b c d:Nat}(h:a≤b)(h1:(c+(b+d))≤900000):((c+a)+d)≤900000:=fk [c,a,d,b] [(.a v0 (.a v3 v2),.n 900000),(v1,v3)] (.a (.a v0 v1) v2) (.n 900000) rfl h1 h
theorem Ia{a:Nat}:((((a+1):Nat):Int)-(((0+1):Nat):Int))=(a:Int):=(Int.le_antisymm (zk [(a:Int)] [] (.s (.a v0 n1) (.a n0 n1)) v0 rfl ) (zk [(a:Int)] [] v0 (.s (.a v0 n1) (.a n0 n1)) rfl ))
theorem IW{a b:Int}(h:a<b):(((b-a)-1)+1)=((((b-a):Int).toNat:Nat):Int):=(Int.le_antisymm (zk [b,a,((((b-a):Int).toNat:Nat):Int)] [(.s v0 v1,v2)] (.a (.s (.s v0 v1) n1) n1) v2 rfl (Int.self_le_toNat _)) (zk [((((b-a):Int).toNat:Nat):Int),b,a] [(v0,.s v1 v2)] v0 (.a (.s (.s v1 v2) n1) n1) rfl (zt (zk [b,a] [(.a v1 n1,v0)] n0 (.s v0 v1) rfl h))))
theorem A7{a:Int}(h:a≤59):(a+1)≤60:=zk [a] [(v0,.n 59)] (.a v0 n1) (.n 60) rfl h
theorem Z7{a:Int}(h:a≤59):a≤60:=zk [a] [(v0,.n 59)] v0 (.n 60) rfl h
theorem Jg{a b:Nat}(h:a≤100)(h1:b≤(a+1)):b≤(16777216+1):=fk [b,a] [(v0,.a v1 n1),(v1,.n 100)] v0 (.a (.n 16777216) n1) rfl h1 h
theorem DS{b c:Nat}{a:Int}(h:a=(b:Int)):((b:Int)≤a∧a<((b:Int)+(((c+1):Nat):Int))):=⟨(zk [(b:Int),a] [(v0,v1)] v0 v1 rfl (Int.le_of_eq h.symm)),(zk [a,(b:Int),(c:Int)] [(v0,v1),(n0,v2)] (.a v0 n1) (.a v1 (.a v2 n1)) rfl (Int.le_of_eq h) (Int.natCast_nonneg _))⟩
theorem Dy{a c:Nat}{b:Int}(h:((((a+1):Nat):Int)≤b∧b<((((a+1):Nat):Int)+(c:Int)))):(a:Int)<b:=zk [(a:Int),b] [(.a v0 n1,v1)] (.a v0 n1) v1 rfl h.1
theorem HI{a b:Nat}(h:a≤b):a≤b:=h
theorem Y6{a b:Nat}(h:a≤b):a≤(b+1):=fk [a,b] [(v0,v1)] v0 (.a v1 n1) rfl h
theorem X0{a:Nat}(h:((1:Nat)≤a∧a≤5)):(1:Int)≤(a:Int):=zk [(a:Int)] [(n1,v0)] n1 v0 rfl (zc h.1)
theorem Y5{a:Nat}(h:((1:Nat)≤a∧a≤5)):(a:Int)≤63:=zk [(a:Int)] [(v0,.n 5)] v0 (.n 63) rfl (zc h.2)
theorem Ey{a:Nat}(h:((1:Nat)≤a∧a≤5)):(-1000000000)≤(a:Int):=zk [(a:Int)] [(n1,v0)] (.g (.n 1000000000)) v0 rfl (zc h.1)
theorem HQ{a:Nat}(h:((1:Nat)≤a∧a≤5)):(a:Int)≤1000000000:=zk [(a:Int)] [(v0,.n 5)] v0 (.n 1000000000) rfl (zc h.2)
theorem FS{a b:Nat}(h:((1:Nat)≤a∧a≤5)):(-1000000000)≤(((b:Int)-(a:Int))+1):=zk [(b:Int),(a:Int)] [(n0,v0),(v1,.n 5)] (.g (.n 1000000000)) (.a (.s v0 v1) n1) rfl (Int.natCast_nonneg _) (zc h.2)
theorem FX{a b:Nat}(h:((1:Nat)≤a∧a≤5))(h1:b≤63):(((b:Int)-(a:Int))+1)≤1000000000:=zk [(b:Int),(a:Int)] [(v0,.n 63),(n1,v1)] (.a (.s v0 v1) n1) (.n 1000000000) rfl (zc h1) (zc h.1)
theorem ET{a b c:Nat}(h:((1:Nat)≤a∧a≤5))(h1:((1:Nat)≤b∧b≤5))(h2:c≤63):(((c:Int)-(b:Int))+1)≤(1000000+(a:Int)):=zk [(c:Int),(b:Int),(a:Int)] [(v0,.n 63),(n1,v1),(n1,v2)] (.a (.s v0 v1) n1) (.a (.n 1000000) v2) rfl (zc h2) (zc h1.1) (zc h.1)
theorem Ga{a b:Nat}(h:(0:Nat)<a):b<(b+a):=fk [b,a] [(.a n0 n1,v1)] (.a v0 n1) (.a v0 v1) rfl h
theorem Gq{a b c d:Nat}(h:a≤((b-c)+d)):a≤((b-c)+(d+1)):=fk [a,(b-c),d] [(v0,.a v1 v2)] v0 (.a v1 (.a v2 n1)) rfl h
theorem Fw{a b c d i j:Nat}(h:a≤b)(h1:c≤((d-(d-i))+j))(h2:b≤d)(h3:(i+b)≤d):((min (b-a) (d-a))+(c+1))≤((d-a)+(j+1)):=fk [(min (b-a) (d-a)),c,(d-a),j,a,b,(d-(d-i)),d,i,(d-i),(b-a)] [(v0,.v 10),(v1,.a v6 v3),(.a v6 (.v 9),v7),(v7,.a (.v 9) (.v 8)),(.a (.v 8) v5,v7),(v7,.a v2 v4),(.a (.v 10) v4,v5)] (.a v0 (.a v1 n1)) (.a v2 (.a v3 n1)) rfl (Nat.min_le_left _ _) h1 (sp (Nat.sub_le _ _)) sq h3 sq (sp h)
theorem IV{a b:Nat}(h:a≤b):(1+a)≤(b+1):=fk [a,b] [(v0,v1)] (.a n1 v0) (.a v1 n1) rfl h
theorem AZ{a b:Nat}:a<(a+(b+1)):=fk [a,b] [] (.a v0 n1) (.a v0 (.a v1 n1)) rfl
theorem Bg{a b c:Nat}(h:a<((b+1)+c)):a<(b+(c+1)):=fk [a,b,c] [(.a v0 n1,.a (.a v1 n1) v2)] (.a v0 n1) (.a v1 (.a v2 n1)) rfl h
theorem CZ{a b c d:Nat}(h:a≤b)(h1:c≤(b*d)):(a+c)≤((b*d)+b):=fk [a,c,(b*d),b] [(v0,v3),(v1,v2)] (.a v0 v1) (.a v2 v3) rfl h h1
theorem BB{a b c d i j:Nat}(h:a≤10000)(h1:b≤a)(h2:c≤(63*d))(h3:i≤63)(h4:(d+(j+1))=b):(c+i)≤1000000:=fk [c,i,a,b,d,j] [(v0,.m 63 v4),(v1,.n 63),(.m 63 (.a v4 (.a v5 n1)),.m 63 v3),(.m 63 v3,.m 63 v2),(.m 63 v2,.m 63 (.n 10000))] (.a v0 v1) (.n 1000000) rfl h2 h3 (Nat.mul_le_mul_left 63 (Nat.le_of_eq h4)) (Nat.mul_le_mul_left 63 h1) (Nat.mul_le_mul_left 63 h)
theorem yX{a:Nat}(h:a<64):a≤1000000:=fk [a] [(.a v0 n1,.n 64)] v0 (.n 1000000) rfl h
theorem Bc{a b:Nat}(h:a≤10000)(h1:b≤a):b≤1000000:=fk [b,a] [(v0,v1),(v1,.n 10000)] v0 (.n 1000000) rfl h1 h
theorem BV:(-1000000000)≤1:=zk [] [] (.g (.n 1000000000)) n1 rfl
theorem BO:(1:Int)≤1000000000:=zk [] [] n1 (.n 1000000000) rfl
theorem BS{a:Nat}(h:a<64):(a:Int)≤1000000000:=zk [(a:Int)] [(.a v0 n1,.n 64)] v0 (.n 1000000000) rfl (zc h)
theorem Cj{a:Nat}(h:a<64):a≤1000001:=fk [a] [(.a v0 n1,.n 64)] v0 (.n 1000001) rfl h
theorem Ab{a b:Nat}(h:(1:Nat)≤a)(h1:a<(1+(b-1))):a<b:=fk [a,b,(b-1)] [(.a v0 n1,.a n1 v2),(.a v2 n1,v1)] (.a v0 n1) v1 rfl h1 (sp (fk [b,a,(b-1)] [(n1,v1),(.a v1 n1,.a n1 v2),(v2,v0)] n1 v0 rfl h h1 (Nat.sub_le _ _)))
theorem N8{a b:Nat}(h:(1:Nat)≤a)(h1:a<b):(a-1)<b:=fk [(a-1),b,a] [(v0,v2),(.a v2 n1,v1)] (.a v0 n1) v1 rfl (Nat.sub_le _ _) h1
theorem Aq{a:Nat}(h:(1:Nat)≤a):(a-1)<a:=(sp h)
theorem Ad{a:Nat}(h:(1:Nat)≤a):((a:Int)-1)=(((a-1):Nat):Int):=(Int.le_antisymm (zk [(a:Int),(((a-1):Nat):Int)] [(v0,.a v1 n1)] (.s v0 n1) v1 rfl (zc sq)) (zk [(((a-1):Nat):Int),(a:Int)] [(.a v0 n1,v1)] v0 (.s v1 n1) rfl (zc (sp h))))
theorem CM{a b:Nat}{c d:Int}(h:(1:Nat)≤a)(h1:a<b)(h2:c<d):d≠c:=(fun e=>(absurd (Int.ofNat_le.mp (zk [c,d] [(.a v0 n1,v1),(v1,v0)] n1 n0 rfl h2 (Int.le_of_eq e))) (Nat.not_succ_le_zero 0)))
theorem DH{a b c d i:Nat}(h:a≤1000)(h1:b≤(1000*c))(h2:(c+(d+1))=(i-1))(h3:i≤1000):(b+(a-1))≤1000000:=fk [b,(a-1),a,c,d,(i-1),i] [(v0,.m 1000 v3),(v1,v2),(v2,.n 1000),(.m 1000 (.a v3 (.a v4 n1)),.m 1000 v5),(.m 1000 v5,.m 1000 v6),(.m 1000 v6,.m 1000 (.n 1000))] (.a v0 v1) (.n 1000000) rfl h1 (Nat.sub_le _ _) h (Nat.mul_le_mul_left 1000 (Nat.le_of_eq h2)) (Nat.mul_le_mul_left 1000 (Nat.sub_le _ _)) (Nat.mul_le_mul_left 1000 h3)
theorem Bx{a b c:Nat}(h:(a+b)=c)(h1:c≤90):(a+b)≤90:=fk [a,b,c] [(.a v0 v1,v2),(v2,.n 90)] (.a v0 v1) (.n 90) rfl (Nat.le_of_eq h) h1
theorem JM{a b:Nat}(h:((a+(60*b))+200)≤9900):a<9900:=fk [a,b] [(.a (.a v0 (.m 60 v1)) (.n 200),.n 9900)] (.a v0 n1) (.n 9900) rfl h
theorem HF{a b:Nat}(h:a=b)(h1:b≤900):a≤1000:=fk [a,b] [(v0,v1),(v1,.n 900)] v0 (.n 1000) rfl (Nat.le_of_eq h) h1
theorem II{a:Int}(h:decide (a<0)=false):a=(((a:Int).toNat:Nat):Int):=(Int.le_antisymm (zk [a,(((a:Int).toNat:Nat):Int)] [(v0,v1)] v0 v1 rfl (Int.self_le_toNat _)) (zk [(((a:Int).toNat:Nat):Int),a] [(v0,v1)] v0 v1 rfl (zt (zk [a] [(n0,v0)] n0 v0 rfl (Int.not_lt.mp (of_decide_eq_false h))))))
theorem ID{a b:Nat}{c:Int}(h:a<b)(h1:c=0):¬((128:Int)<c):=(Int.not_lt.mpr (zk [c] [(v0,n0)] v0 (.n 128) rfl (Int.le_of_eq h1)))
theorem Iy{a b:Nat}{c:Int}(h:a<b)(h1:c=128):¬((128:Int)<c):=(Int.not_lt.mpr (zk [c] [(v0,.n 128)] v0 (.n 128) rfl (Int.le_of_eq h1)))
theorem IU{a:Int}(h:a≤60):¬((60:Int)<a):=(Int.not_lt.mpr (zk [a] [(v0,.n 60)] v0 (.n 60) rfl h))
theorem GO{a:Int}(h:(-1000)≤a):(-1073741823)≤a:=zk [a] [(.g (.n 1000),v0)] (.g (.n 1073741823)) v0 rfl h
theorem EK{a:Int}(h:a≤1000):a≤1073741823:=zk [a] [(v0,.n 1000)] v0 (.n 1073741823) rfl h
theorem JP{a:Int}(h:(-1000)≤a):(-2147483647)≤a:=zk [a] [(.g (.n 1000),v0)] (.g (.n 2147483647)) v0 rfl h
theorem Hx{a:Int}(h:a≤1000):a≤2147483647:=zk [a] [(v0,.n 1000)] v0 (.n 2147483647) rfl h
theorem Hp{a b:Nat}(h:a≤b):(a+0)≤b:=fk [a,b] [(v0,v1)] (.a v0 n0) v1 rfl h
theorem JW{a b c:Nat}(h:(a+b)≤c)(h1:(b:Int)<((c:Int)-(a:Int))):(a+b)<c:=(Int.ofNat_le.mp (zk [(a:Int),(b:Int),(c:Int)] [(.a v1 n1,.s v2 v0)] (.a (.a v0 v1) n1) v2 rfl h1))
theorem Je{a b c:Nat}(h:(a:Int)<((b:Int)-(c:Int))):((b-1)-a)<b:=fk [((b-1)-a),b,(b-1)] [(v0,v2),(.a v2 n1,v1)] (.a v0 n1) v1 rfl (Nat.sub_le _ _) (sp (Int.ofNat_le.mp (zk [(b:Int),(a:Int),(c:Int)] [(.a v1 n1,.s v0 v2),(n0,v1),(n0,v2)] n1 v0 rfl h (Int.natCast_nonneg _) (Int.natCast_nonneg _))))
theorem Jf{a b c:Nat}(h:(a:Int)<((b:Int)-(c:Int))):(((b:Int)-1)-(a:Int))=((((b-1)-a):Nat):Int):=(Int.le_antisymm (zk [(b:Int),(a:Int),((((b-1)-a):Nat):Int),(((b-1):Nat):Int)] [(v0,.a v3 n1),(v3,.a v2 v1)] (.s (.s v0 n1) v1) v2 rfl (zc sq) (zc sq)) (zk [((((b-1)-a):Nat):Int),(b:Int),(a:Int),(((b-1):Nat):Int)] [(.a v0 v2,v3),(.a v3 n1,v1)] v0 (.s (.s v1 n1) v2) rfl (zc (sp (Int.ofNat_le.mp (zk [(a:Int),(((b-1):Nat):Int),(b:Int),(c:Int)] [(.a v0 n1,.s v2 v3),(v2,.a v1 n1),(n0,v3)] v0 v1 rfl h (zc sq) (Int.natCast_nonneg _))))) (zc (sp (Int.ofNat_le.mp (zk [(b:Int),(a:Int),(c:Int)] [(.a v1 n1,.s v0 v2),(n0,v1),(n0,v2)] n1 v0 rfl h (Int.natCast_nonneg _) (Int.natCast_nonneg _)))))))
theorem Hs{a b c:Nat}(h:(a+b)≤c)(h1:(b:Int)<((c:Int)-(a:Int))):(c-(b+1))<(c-b):=fk [(c-(b+1)),(c-b),b,c] [(.a v0 (.a v2 n1),v3),(v3,.a v1 v2)] (.a v0 n1) v1 rfl (sp (Int.ofNat_le.mp (zk [(b:Int),(c:Int),(a:Int)] [(.a v0 n1,.s v1 v2),(n0,v2)] (.a v0 n1) v1 rfl h1 (Int.natCast_nonneg _)))) sq
theorem IN{a b c:Nat}(h:(a+b)≤c)(h1:(b:Int)<((c:Int)-(a:Int))):(a+(b+1))≤c:=(Int.ofNat_le.mp (zk [(a:Int),(b:Int),(c:Int)] [(.a v1 n1,.s v2 v0)] (.a v0 (.a v1 n1)) v2 rfl h1))
theorem Il{a b c:Nat}(h:a≤(b+(c+1)))(h1:¬(a≤(b+c))):b=((a-1)-c):=(Nat.le_antisymm (fk [b,((a-1)-c),a,c,(a-1)] [(.a (.a v0 v3) n1,v2),(v2,.a v4 n1),(v4,.a v1 v3)] v0 v1 rfl (Nat.not_le.mp h1) sq sq) (fk [((a-1)-c),b,a,c,(a-1)] [(.a v0 v3,v4),(.a v4 n1,v2),(v2,.a v1 (.a v3 n1))] v0 v1 rfl (sp (fk [c,(a-1),a,b] [(.a (.a v3 v0) n1,v2),(v2,.a v1 n1)] v0 v1 rfl (Nat.not_le.mp h1) sq)) (sp (fk [a,b,c] [(.a (.a v1 v2) n1,v0)] n1 v0 rfl (Nat.not_le.mp h1))) h))
theorem IO{a b:Nat}(h:a≤b):(a+1)≤(b+1):=fk [a,b] [(v0,v1)] (.a v0 n1) (.a v1 n1) rfl h
theorem Id{a b:Nat}(h:a≤b):(a+0)≤(b+1):=fk [a,b] [(v0,v1)] (.a v0 n0) (.a v1 n1) rfl h
theorem Jc{a b:Nat}(h:a≤(b+1)):(a:Int)<(20*((((b+1):Nat):Int)+1)):=zk [(a:Int),(b:Int)] [(v0,.a v1 n1),(.m 19 n0,.m 19 v1)] (.a v0 n1) (.m 20 (.a (.a v1 n1) n1)) rfl (zc h) (Int.mul_le_mul_of_nonneg_left (Int.natCast_nonneg _) (by decide:(0:Int)≤19))
theorem IQ{a b:Nat}(h:a≤100)(h1:b≤(a+1)):(0+(2*(((2*b)+a)+1)))≤800:=fk [b,a] [(.m 4 v0,.m 4 (.a v1 n1)),(.m 6 v1,.m 6 (.n 100))] (.a n0 (.m 2 (.a (.a (.m 2 v0) v1) n1))) (.n 800) rfl (Nat.mul_le_mul_left 4 h1) (Nat.mul_le_mul_left 6 h)
theorem Jd{a b c d:Nat}(h:(a+(2*(((2*b)+c)+d)))≤800):c≤800:=fk [c,a,b,d] [(.a v1 (.m 2 (.a (.a (.m 2 v2) v0) v3)),.n 800)] v0 (.n 800) rfl h
theorem JU{a b c d:Nat}(h:a≤100)(h1:(b+(c+d))=a):(c+d)≤100:=fk [c,d,a,b] [(.a v3 (.a v0 v1),v2),(v2,.n 100)] (.a v0 v1) (.n 100) rfl (Nat.le_of_eq h1) h
theorem FQ{a:Nat}{b:Int}(h:(a:Int)<b):b≠0:=(fun e=>(absurd (Int.ofNat_le.mp (zk [(a:Int),b] [(.a v0 n1,v1),(n0,v0),(v1,n0)] n1 n0 rfl h (Int.natCast_nonneg _) (Int.le_of_eq e))) (Nat.not_succ_le_zero 0)))
theorem Z3{a b c:Nat}(h:(a+(b+c))≤100):(a+b)≤1000:=fk [a,b,c] [(.a v0 (.a v1 v2),.n 100)] (.a v0 v1) (.n 1000) rfl h
theorem Hb{a b:Nat}:(a+1)≤((a+1)+b):=fk [a,b] [] (.a v0 n1) (.a (.a v0 n1) v1) rfl
theorem Fj{a b:Nat}:(a+0)≤((a+1)+b):=fk [a,b] [] (.a v0 n0) (.a (.a v0 n1) v1) rfl
theorem Gj{a b:Nat}(h:(a+(2*(((2*b)+0)+1)))≤800):((a+1)+(2*(((2*b)+0)+0)))≤800:=fk [a,b] [(.a v0 (.m 2 (.a (.a (.m 2 v1) n0) n1)),.n 800)] (.a (.a v0 n1) (.m 2 (.a (.a (.m 2 v1) n0) n0))) (.n 800) rfl h
theorem De{a b c d:Nat}(h:a≤b):(((2*a)+c)+d)<(((2*b)+(c+1))+d):=fk [a,c,d,b] [(.m 2 v0,.m 2 v3)] (.a (.a (.a (.m 2 v0) v1) v2) n1) (.a (.a (.m 2 v3) (.a v1 n1)) v2) rfl (Nat.mul_le_mul_left 2 h)
theorem GX{a b:Nat}{c:Int}(h:a≤b)(h1:(b:Int)<c):(a:Int)<c:=zk [(a:Int),c,(b:Int)] [(v0,v2),(.a v2 n1,v1)] (.a v0 n1) v1 rfl (zc h) h1
theorem Hi{a b c d:Nat}(h:a≤1)(h1:b<c)(h2:(d+(2*c))≤800):((d+(a+1))+(2*b))≤800:=fk [d,a,b,c] [(.a v0 (.m 2 v3),.n 800),(v1,n1),(.m 2 (.a v2 n1),.m 2 v3)] (.a (.a v0 (.a v1 n1)) (.m 2 v2)) (.n 800) rfl h2 h (Nat.mul_le_mul_left 2 h1)
theorem Jt{a b c d i j:Nat}(h:((a+(2*b))+c)<((((2*d)+4)+i)+1)):(((2*b)+a)+j)<(((2*(d+2))+(i+1))+j):=fk [b,a,j,d,i,c] [(.a (.a (.a v1 (.m 2 v0)) v5) n1,.a (.a (.a (.m 2 v3) (.n 4)) v4) n1)] (.a (.a (.a (.m 2 v0) v1) v2) n1) (.a (.a (.m 2 (.a v3 n2)) (.a v4 n1)) v2) rfl h
theorem GM{a c:Nat}{b:Int}(h:(((a+2):Nat):Int)<b)(h1:c≤(a+1)):(c:Int)<(b-1):=zk [(c:Int),b,(a:Int)] [(v0,.a v2 n1),(.a (.a v2 n2) n1,v1)] (.a v0 n1) (.s v1 n1) rfl (zc h1) h
theorem Jw{a b c d i j:Nat}(h:(a+(2*(((2*(b+2))+(c+1))+1)))≤800)(h1:((d+(2*i))+j)<((((2*b)+4)+c)+1)):((a+j)+(2*(((2*i)+d)+1)))≤800:=fk [a,j,i,d,b,c] [(.a v0 (.m 2 (.a (.a (.m 2 (.a v4 n2)) (.a v5 n1)) n1)),.n 800),(.a (.a (.a v3 (.m 2 v2)) v1) n1,.a (.a (.a (.m 2 v4) (.n 4)) v5) n1),(.a (.a (.a v3 (.m 2 v2)) v1) n1,.a (.a (.a (.m 2 v4) (.n 4)) v5) n1)] (.a (.a v0 v1) (.m 2 (.a (.a (.m 2 v2) v3) n1))) (.n 800) rfl h h1 h1
theorem Ji{a:Nat}:(a+1)≤(a+1):=fk [a] [] (.a v0 n1) (.a v0 n1) rfl
theorem Js{a:Nat}:(a+0)≤(a+1):=fk [a] [] (.a v0 n0) (.a v0 n1) rfl
theorem Jr{a b:Nat}:(a+(2*b))<((((2*b)+4)+a)+1):=fk [a,b] [] (.a (.a v0 (.m 2 v1)) n1) (.a (.a (.a (.m 2 v1) (.n 4)) v0) n1) rfl
theorem Jh{a b:Nat}:((a+1)+(2*(b+1)))<((((2*b)+4)+a)+1):=fk [a,b] [] (.a (.a (.a v0 n1) (.m 2 (.a v1 n1))) n1) (.a (.a (.a (.m 2 v1) (.n 4)) v0) n1) rfl
theorem Jl{a b:Nat}:((a+1)+(2*b))<((((2*b)+4)+a)+1):=fk [a,b] [] (.a (.a (.a v0 n1) (.m 2 v1)) n1) (.a (.a (.a (.m 2 v1) (.n 4)) v0) n1) rfl
theorem Jn{a b:Nat}:((a+2)+(2*(b+1)))<((((2*b)+4)+a)+1):=fk [a,b] [] (.a (.a (.a v0 n2) (.m 2 (.a v1 n1))) n1) (.a (.a (.a (.m 2 v1) (.n 4)) v0) n1) rfl
theorem Ju{a b c:Nat}(h:a≤(b+1)):(c+(2*a))<(((2*b)+4)+c):=fk [c,a,b] [(.m 2 v1,.m 2 (.a v2 n1))] (.a (.a v0 (.m 2 v1)) n1) (.a (.a (.m 2 v2) (.n 4)) v0) rfl (Nat.mul_le_mul_left 2 h)
theorem Jj{a b:Nat}:(a+(2*b))<(((2*b)+4)+a):=fk [a,b] [] (.a (.a v0 (.m 2 v1)) n1) (.a (.a (.m 2 v1) (.n 4)) v0) rfl
theorem Jp{a b:Nat}:((a+1)+(2*(b+1)))<(((2*b)+4)+a):=fk [a,b] [] (.a (.a (.a v0 n1) (.m 2 (.a v1 n1))) n1) (.a (.a (.m 2 v1) (.n 4)) v0) rfl
theorem Jv{a b c:Nat}(h:a≤(b+1)):((c+(2*a))+2)<((((2*b)+4)+c)+1):=fk [c,a,b] [(.m 2 v1,.m 2 (.a v2 n1))] (.a (.a (.a v0 (.m 2 v1)) n2) n1) (.a (.a (.a (.m 2 v2) (.n 4)) v0) n1) rfl (Nat.mul_le_mul_left 2 h)
theorem HN{a b c:Nat}(h:a=(b+c)):b≤a:=fk [b,a,c] [(.a v0 v2,v1)] v0 v1 rfl (Nat.le_of_eq h.symm)
theorem Ex{a:Nat}(h:a≤10000):(a:Int)≤1000000000:=zk [(a:Int)] [(v0,.n 10000)] v0 (.n 1000000000) rfl (zc h)
theorem G7{a b c:Nat}(h:(a+(b+1))=c):a<c:=fk [a,c,b] [(.a v0 (.a v2 n1),v1)] (.a v0 n1) v1 rfl (Nat.le_of_eq h)
theorem Y8{a b c:Nat}(h:(a+(b+1))=c):((a+1)+b)=c:=(Nat.le_antisymm (fk [a,b,c] [(.a v0 (.a v1 n1),v2)] (.a (.a v0 n1) v1) v2 rfl (Nat.le_of_eq h)) (fk [c,a,b] [(v0,.a v1 (.a v2 n1))] v0 (.a (.a v1 n1) v2) rfl (Nat.le_of_eq h.symm)))
theorem Hf{a b c:Nat}(h:a≤b)(h1:c≤1):(a+c)≤(b+1):=fk [a,c,b] [(v0,v2),(v1,n1)] (.a v0 v1) (.a v2 n1) rfl h h1
theorem HV{a b c:Nat}(h:a≤10000)(h1:b<c)(h2:c≤a):(min b a)≤1000000:=fk [(min b a),a] [(v0,v1),(v1,.n 10000)] v0 (.n 1000000) rfl (Nat.min_le_right _ _) h
theorem GR{a b:Nat}(h:a≤b)(h1:b≤90):a≤900000:=fk [a,b] [(v0,v1),(v1,.n 90)] v0 (.n 900000) rfl h h1
theorem Es{a b:Nat}(h:a≤b)(h1:b≤90):a≤1000000:=fk [a,b] [(v0,v1),(v1,.n 90)] v0 (.n 1000000) rfl h h1
theorem GC{a b c d:Nat}(h:a≤10000)(h1:(b+(c+1))=a)(h2:d≤b):d≤1000000:=fk [d,a,b,c] [(v0,v2),(.a v2 (.a v3 n1),v1),(v1,.n 10000)] v0 (.n 1000000) rfl h2 (Nat.le_of_eq h1) h
theorem Dx{a b c:Nat}(h:a≤b):a≤((b-c)+c):=fk [a,(b-c),c,b] [(v0,v3),(v3,.a v1 v2)] v0 (.a v1 v2) rfl h sq
theorem EO{a b:Nat}(h:a<(b+1)):a≤b:=fk [a,b] [(.a v0 n1,.a v1 n1)] v0 v1 rfl h
theorem X3{a:Nat}(h:a≤2):(a+1)≤60:=fk [a] [(v0,n2)] (.a v0 n1) (.n 60) rfl h
theorem EG{a:Nat}:(0:Int)<(((a+1):Nat):Int):=zk [(a:Int)] [(n0,v0)] (.a n0 n1) (.a v0 n1) rfl (Int.natCast_nonneg _)
theorem Dc{a b c d:Nat}(h:a<b)(h1:b≤c)(h2:(d+1)≤a):d<c:=fk [d,c,a,b] [(.a v0 n1,v2),(.a v2 n1,v3),(v3,v1)] (.a v0 n1) v1 rfl h2 h h1
theorem FL{a b c:Nat}(h:a≤b)(h1:b<(a+c)):(b-a)<c:=fk [(b-a),c,a,b] [(.a v0 v2,v3),(.a v3 n1,.a v2 v1)] (.a v0 n1) v1 rfl (sp h) h1
theorem q_293{a b c d:Nat}(h:a<b)(h1:c≤a)(h2:b≤d):(a-c)<(d-c):=fk [(a-c),(d-c),a,b,c,d] [(.a v0 v4,v2),(.a v2 n1,v3),(v3,v5),(v5,.a v1 v4)] (.a v0 n1) v1 rfl (sp h1) h h2 sq
theorem B8{a b c:Nat}(h:a≤b)(h1:((a:Int)-(c:Int))=(((a-c):Nat):Int)):(a-c)≤b:=fk [(a-c),b,a] [(v0,v2),(v2,v1)] v0 v1 rfl (Nat.sub_le _ _) h
theorem FF{a b c d i:Nat}(h:a≤10000)(h1:b≤a)(h2:((b:Int)-(c:Int))=(((b-c):Nat):Int)):((b-c)-(d+i))≤10000:=fk [((b-c)-(d+i)),a,b,(b-c)] [(v0,v3),(v3,v2),(v2,v1),(v1,.n 10000)] v0 (.n 10000) rfl (Nat.sub_le _ _) (Nat.sub_le _ _) h1 h
theorem Et{a b c:Nat}(h:(a+(b+c))≤90):(a+b)≤90:=fk [a,b,c] [(.a v0 (.a v1 v2),.n 90)] (.a v0 v1) (.n 90) rfl h
theorem EP{a b:Nat}(h:a≤10000)(h1:b≤a):b≤99999:=fk [b,a] [(v0,v1),(v1,.n 10000)] v0 (.n 99999) rfl h1 h
theorem Gi{a b c d i j k:Nat}(h:a≤b)(h1:c≤d)(h2:i=(d-a))(h3:b<(d-j))(h4:((d:Int)-(j:Int))=(((d-j):Nat):Int))(h5:(d-j)≤k)(h6:k<c):i≤((k-a)+j):=fk [i,(k-a),j,a,d,(d-a),(d-j),k] [(v0,v5),(.a v5 v3,v4),(v4,.a v6 v2),(v6,v7),(v7,.a v1 v3)] v0 (.a v1 v2) rfl (Nat.le_of_eq h2) (sp (fk [a,d,b,(d-j)] [(v0,v2),(.a v2 n1,v3),(v3,v1)] v0 v1 rfl h h3 (Nat.sub_le _ _))) sq h5 sq
theorem q_301{a b c d i j k m:Nat}(h:a≤b)(h1:c≤d)(h2:i=(d-a))(h3:b<(d-j))(h4:(k+j)≤i)(h5:((d:Int)-(j:Int))=(((d-j):Nat):Int))(h6:(d-j)≤m)(h7:m<c):(m-a)<(d-a):=fk [(m-a),(d-a),a,c,d,m] [(.a v0 v2,v5),(.a v5 n1,v3),(v3,v4),(v4,.a v1 v2)] (.a v0 n1) v1 rfl (sp (fk [a,m,b,(d-j)] [(v0,v2),(.a v2 n1,v3),(v3,v1)] v0 v1 rfl h h3 h6)) h7 h1 sq
theorem Dm{a b c d i:Nat}(h:a≤b)(h1:b<(c-d))(h2:(c-d)≤i):(a+(i-a))=i:=(Nat.le_antisymm (fk [a,(i-a),i] [(.a v1 v0,v2)] (.a v0 v1) v2 rfl (sp (fk [a,i,b,(c-d)] [(v0,v2),(.a v2 n1,v3),(v3,v1)] v0 v1 rfl h h1 h2))) (fk [i,a,(i-a)] [(v0,.a v2 v1)] v0 (.a v1 v2) rfl sq))
theorem Ff{a b c:Nat}:a≤((a+b)+c):=fk [a,b,c] [] v0 (.a (.a v0 v1) v2) rfl
theorem EY{a b c d i j:Nat}(h:(a+b)≤c)(h1:c<(d-i))(h2:((d:Int)-(i:Int))=(((d-i):Nat):Int))(h3:j<((d-i)-(a+b))):((a+b)+j)<d:=fk [a,b,j,d,(d-i),((d-i)-(a+b))] [(.a v5 (.a v0 v1),v4),(.a v2 n1,v5),(v4,v3)] (.a (.a (.a v0 v1) v2) n1) v3 rfl (sp (fk [a,b,(d-i),c] [(.a v0 v1,v3),(.a v3 n1,v2)] (.a v0 v1) v2 rfl h h1)) h3 (Nat.sub_le _ _)
theorem Ao{a:Nat}(h:a≤2):(a:Int)≤1000000000:=zk [(a:Int)] [(v0,n2)] v0 (.n 1000000000) rfl (zc h)
theorem Ak{a:Nat}:(0+a)=a:=(Nat.le_antisymm (fk [a] [] (.a n0 v0) v0 rfl ) (fk [a] [] v0 (.a n0 v0) rfl ))
theorem Ay{a b c:Nat}(h:a≤2)(h1:(b+(c+1))=a):((1:Int)≤(2-(b:Int))∧(2-(b:Int))≤2):=⟨(zk [(b:Int),(a:Int),(c:Int)] [(.a v0 (.a v2 n1),v1),(v1,n2),(n0,v2)] n1 (.s n2 v0) rfl (zc (Nat.le_of_eq h1)) (zc h) (Int.natCast_nonneg _)),(zk [(b:Int)] [(n0,v0)] (.s n2 v0) n2 rfl (Int.natCast_nonneg _))⟩
theorem Bt{a:Nat}:(min 1 a)≤1:=(Nat.min_le_left _ _)
theorem Jk:(0:Nat)≤16777216:=fk [] [] n0 (.n 16777216) rfl
theorem Cz{a b:Nat}(h:a≤90)(h1:b≤a):b≤100:=fk [b,a] [(v0,v1),(v1,.n 90)] v0 (.n 100) rfl h1 h
theorem Aw{a b c:Nat}{d:Int}(h:(a+b)=c):((d+(a:Int))+(b:Int))=(d+(c:Int)):=(Int.le_antisymm (zk [d,(a:Int),(b:Int),(c:Int)] [(.a v1 v2,v3)] (.a (.a v0 v1) v2) (.a v0 v3) rfl (zc (Nat.le_of_eq h))) (zk [d,(c:Int),(a:Int),(b:Int)] [(v1,.a v2 v3)] (.a v0 v1) (.a (.a v0 v2) v3) rfl (zc (Nat.le_of_eq h.symm))))
theorem DL{b:Nat}{a:Int}(h:((0:Int)≤a∧a≤(b:Int))):a=(((a:Int).toNat:Nat):Int):=(Int.le_antisymm (zk [a,(((a:Int).toNat:Nat):Int)] [(v0,v1)] v0 v1 rfl (Int.self_le_toNat _)) (zk [(((a:Int).toNat:Nat):Int),a] [(v0,v1)] v0 v1 rfl (zt (zk [a] [(n0,v0)] n0 v0 rfl h.1))))
theorem Bl{a b:Nat}(h:((0:Int)≤(a:Int)∧(a:Int)≤(b:Int))):((a:Int):Int).toNat≤b:=(Int.ofNat_le.mp (zk [((((a:Int):Int).toNat:Nat):Int),(b:Int),(a:Int)] [(v0,v2),(v2,v1)] v0 v1 rfl (zt (zk [(a:Int)] [(n0,v0)] n0 v0 rfl h.1)) h.2))
theorem BQ{a b c d:Nat}(h:a≤90)(h1:((0:Int)≤(b:Int)∧(b:Int)≤(a:Int)))(h2:(c+d)=((min ((b:Int):Int).toNat a)+1)):d≤91:=fk [d,a,c,(min ((b:Int):Int).toNat a)] [(.a v2 v0,.a v3 n1),(v3,v1),(v1,.n 90)] v0 (.n 91) rfl (Nat.le_of_eq h2) (Nat.min_le_right _ _) h
theorem BI{a b c d:Nat}(h:a≤90)(h1:(b+c)=(a-((d:Int):Int).toNat)):b≤90:=fk [b,a,c,(a-((d:Int):Int).toNat)] [(.a v0 v2,v3),(v3,v1),(v1,.n 90)] v0 (.n 90) rfl (Nat.le_of_eq h1) (Nat.sub_le _ _) h
theorem Bj{a b c:Nat}(h:(a+b)≤c):b≤(c-a):=fk [b,(c-a),a,c] [(.a v2 v0,v3),(v3,.a v1 v2)] v0 v1 rfl h sq
theorem Am{a b c d i j k:Nat}(h:a≤90)(h1:(b+c)=((d:Int):Int).toNat)(h2:(b+i)=j)(h3:(j+k)=a):i≤90:=fk [i,a,b,j,k] [(.a v2 v0,v3),(.a v3 v4,v1),(v1,.n 90)] v0 (.n 90) rfl (Nat.le_of_eq h2) (Nat.le_of_eq h3) h
theorem G2{a b:Nat}(h:a≤800):a≤(10000+b):=fk [a,b] [(v0,.n 800)] v0 (.a (.n 10000) v1) rfl h
theorem CR{a b c d i j k m:Nat}(h:(a+b)=((c:Int):Int).toNat)(h1:d≤91)(h2:i≤90)(h3:(a+j)=k)(h4:j≤90):((d+i)+j)≤(m+300):=fk [d,i,j,m] [(v0,.n 91),(v1,.n 90),(v2,.n 90)] (.a (.a v0 v1) v2) (.a v3 (.n 300)) rfl h1 h2 h4
theorem Ap{a b c d i j:Nat}{k:Int}(h:(a+b)=((c:Int):Int).toNat)(h1:(d+i)=a)(h2:j=(b+1)):((((k+(d:Int))+(i:Int))+(j:Int))-1)=(k+(c:Int)):=(Int.le_antisymm (zk [k,(d:Int),(i:Int),(j:Int),(c:Int),(a:Int),(b:Int),((((c:Int):Int).toNat:Nat):Int)] [(.a v1 v2,v5),(v3,.a v6 n1),(v7,v4),(.a v5 v6,v7)] (.s (.a (.a (.a v0 v1) v2) v3) n1) (.a v0 v4) rfl (zc (Nat.le_of_eq h1)) (zc (Nat.le_of_eq h2)) (zt (zk [(c:Int)] [(n0,v0)] n0 v0 rfl (Int.natCast_nonneg _))) (zc (Nat.le_of_eq h))) (zk [k,(c:Int),(d:Int),(i:Int),(j:Int),(a:Int),(b:Int),((((c:Int):Int).toNat:Nat):Int)] [(v1,v7),(v5,.a v2 v3),(.a v6 n1,v4),(v7,.a v5 v6)] (.a v0 v1) (.s (.a (.a (.a v0 v2) v3) v4) n1) rfl (Int.self_le_toNat _) (zc (Nat.le_of_eq h1.symm)) (zc (Nat.le_of_eq h2.symm)) (zc (Nat.le_of_eq h.symm))))
theorem BA{a b c d i j k:Nat}{m:Int}(h:(a+b)=((c:Int):Int).toNat)(h1:(d+i)=a)(h2:(a+j)=k):(((m+(d:Int))+(i:Int))+(j:Int))=(m+(k:Int)):=(Int.le_antisymm (zk [m,(d:Int),(i:Int),(j:Int),(k:Int),(a:Int)] [(.a v1 v2,v5),(.a v5 v3,v4)] (.a (.a (.a v0 v1) v2) v3) (.a v0 v4) rfl (zc (Nat.le_of_eq h1)) (zc (Nat.le_of_eq h2))) (zk [m,(k:Int),(d:Int),(i:Int),(j:Int),(a:Int)] [(v1,.a v5 v4),(v5,.a v2 v3)] (.a v0 v1) (.a (.a (.a v0 v2) v3) v4) rfl (zc (Nat.le_of_eq h2.symm)) (zc (Nat.le_of_eq h1.symm))))
theorem Hl{a:Nat}{b:Int}(h:a≤6)(h1:b<(a:Int)):b≤255:=zk [b,(a:Int)] [(.a v0 n1,v1),(v1,.n 6)] v0 (.n 255) rfl h1 (zc h)
theorem Ed{a b:Nat}(h:(a+(2*(b+1)))≤6):(a+(2*b))≤6:=fk [a,b] [(.a v0 (.m 2 (.a v1 n1)),.n 6)] (.a v0 (.m 2 v1)) (.n 6) rfl h
theorem Ew{a b c d:Nat}(h:(a+(b+1))≤3)(h1:(c=d∧c≤(a+1))):c≤3:=fk [c,a,b] [(v0,.a v1 n1),(.a v1 (.a v2 n1),n3)] v0 n3 rfl h1.2 h
theorem Gk{a:Nat}:(a:Int)<(((a+1):Nat):Int):=zk [(a:Int)] [] (.a v0 n1) (.a v0 n1) rfl
theorem Fg{b:Nat}{a c:Int}(h:((0:Int)≤a∧(a<(b:Int)∧(c=97∨(c=98∨c=45))))):a<(((b+1):Nat):Int):=zk [a,(b:Int)] [(.a v0 n1,v1)] (.a v0 n1) (.a v1 n1) rfl h.2.1
theorem EI{a b c d:Nat}(h:(a+(b+1))≤3)(h1:(c=d∧c≤(a+1))):(c+b)≤3:=fk [c,b,a] [(v0,.a v2 n1),(.a v2 (.a v1 n1),n3)] (.a v0 v1) n3 rfl h1.2 h
theorem Ek{a:Int}(h:a<2):(1+a)≤1000000000:=zk [a] [(.a v0 n1,n2)] (.a n1 v0) (.n 1000000000) rfl h
theorem q_314{a:Int}(h:(0:Int)≤a):((0:Int)+(((((1+a)-0):Int).toNat:Nat):Int))=(1+a):=(Int.le_antisymm (zk [(((((1+a)-0):Int).toNat:Nat):Int),a] [(v0,.s (.a n1 v1) n0)] (.a n0 v0) (.a n1 v1) rfl (zt (zk [a] [(n0,v0)] n0 (.s (.a n1 v0) n0) rfl h))) (zk [a,(((((1+a)-0):Int).toNat:Nat):Int)] [(.s (.a n1 v0) n0,v1)] (.a n1 v0) (.a n0 v1) rfl (Int.self_le_toNat _)))
theorem Ef{a b d i j:Nat}{c:Int}(h:(a+(2*(b+1)))≤6)(h1:c<2)(h2:((d:Int)+(((i+1):Nat):Int))=(1+c))(h3:j=(a+d)):j≤999999:=(Int.ofNat_le.mp (zk [(j:Int),(a:Int),(b:Int),c,(d:Int),(i:Int)] [(v0,.a v1 v4),(.a v1 (.m 2 (.a v2 n1)),.n 6),(.m 2 n0,.m 2 v2),(.a v4 (.a v5 n1),.a n1 v3),(.a v3 n1,n2),(n0,v5)] v0 (.n 999999) rfl (zc (Nat.le_of_eq h3)) (zc h) (Int.mul_le_mul_of_nonneg_left (Int.natCast_nonneg _) (by decide:(0:Int)≤2)) (Int.le_of_eq h2) h1 (Int.natCast_nonneg _)))
theorem Dt{a b:Nat}{c:Int}(h:((a:Int)+(((b+1):Nat):Int))=(1+c)):((((a+1):Nat):Int)+(b:Int))=(1+c):=(Int.le_antisymm (zk [(a:Int),(b:Int),c] [(.a v0 (.a v1 n1),.a n1 v2)] (.a (.a v0 n1) v1) (.a n1 v2) rfl (Int.le_of_eq h)) (zk [c,(a:Int),(b:Int)] [(.a n1 v0,.a v1 (.a v2 n1))] (.a n1 v0) (.a (.a v1 n1) v2) rfl (Int.le_of_eq h.symm)))
theorem Ea{a b c:Nat}(h:a=(b+c)):(a+1)=(b+(c+1)):=(Nat.le_antisymm (fk [a,b,c] [(v0,.a v1 v2)] (.a v0 n1) (.a v1 (.a v2 n1)) rfl (Nat.le_of_eq h)) (fk [b,c,a] [(.a v0 v1,v2)] (.a v0 (.a v1 n1)) (.a v2 n1) rfl (Nat.le_of_eq h.symm)))
theorem DV{a b d i j:Nat}{c:Int}(h:((a:Int)+(((b+1):Nat):Int))=(1+c))(h1:d=(i+a))(h2:b=0)(h3:(j+1)=(d+1)):d≤j:=fk [d,j] [(.a v0 n1,.a v1 n1)] v0 v1 rfl (Nat.le_of_eq h3.symm)
theorem GY{a b d i j:Nat}{c:Int}(h:((a:Int)+(((b+1):Nat):Int))=(1+c))(h1:d=(i+a))(h2:b=0)(h3:(j+1)=(d+1)):(j-d)=0:=(Nat.le_antisymm (fk [(j-d),d,j] [(.a v0 v1,v2),(.a v2 n1,.a v1 n1)] v0 n0 rfl (sp (fk [d,j] [(.a v0 n1,.a v1 n1)] v0 v1 rfl (Nat.le_of_eq h3.symm))) (Nat.le_of_eq h3)) (fk [(j-d)] [] n0 v0 rfl ))
theorem W9{a b:Nat}{c:Int}(h:((a:Int)+(((b+1):Nat):Int))=(1+c))(h1:b=0):(a:Int)=((1+c)-1):=(Int.le_antisymm (zk [(a:Int),c,(b:Int)] [(.a v0 (.a v2 n1),.a n1 v1),(n0,v2)] v0 (.s (.a n1 v1) n1) rfl (Int.le_of_eq h) (zc (Nat.le_of_eq h1.symm))) (zk [c,(a:Int),(b:Int)] [(.a n1 v0,.a v1 (.a v2 n1)),(v2,n0)] (.s (.a n1 v0) n1) v1 rfl (Int.le_of_eq h.symm) (zc (Nat.le_of_eq h1))))
theorem EW{a b d i:Nat}{c:Int}(h:(a+(2*(b+1)))≤6)(h1:c<2)(h2:d=(a+i))(h3:((i:Int)+(0:Int))=(1+c)):(d+(2*b))≤6:=(Int.ofNat_le.mp (zk [(d:Int),(b:Int),(a:Int),c,(i:Int)] [(v0,.a v2 v4),(.a v2 (.m 2 (.a v1 n1)),.n 6),(.a v4 n0,.a n1 v3),(.a v3 n1,n2)] (.a v0 (.m 2 v1)) (.n 6) rfl (zc (Nat.le_of_eq h2)) (zc h) (Int.le_of_eq h3) h1))
theorem Hc{b c d:Nat}{a i j:Int}(h:(0:Int)≤a)(h1:b=(c+d))(h2:((d:Int)+(0:Int))=(1+a))(h3:((0:Int)≤i∧(i<(((c+1):Nat):Int)∧(j=97∨(j=98∨j=45))))):i<(b:Int):=zk [i,(b:Int),a,(c:Int),(d:Int)] [(.a v0 n1,.a v3 n1),(.a v3 v4,v1),(.a n1 v2,.a v4 n0),(n0,v2)] (.a v0 n1) v1 rfl h3.2.1 (zc (Nat.le_of_eq h1.symm)) (Int.le_of_eq h2.symm) h
theorem Hk{a:Int}(h:((a=97∨(a=98∨(a=99∨a=39)))∨a=45)):((0:Int)≤a∧a≤255):=(h.elim (fun e2=>(e2.elim (fun e1=>⟨(zk [a] [(.n 97,v0)] n0 v0 rfl (Int.le_of_eq e1.symm)),(zk [a] [(v0,.n 97)] v0 (.n 255) rfl (Int.le_of_eq e1))⟩) (fun e1=>(e1.elim (fun e1=>⟨(zk [a] [(.n 98,v0)] n0 v0 rfl (Int.le_of_eq e1.symm)),(zk [a] [(v0,.n 98)] v0 (.n 255) rfl (Int.le_of_eq e1))⟩) (fun e1=>(e1.elim (fun e1=>⟨(zk [a] [(.n 99,v0)] n0 v0 rfl (Int.le_of_eq e1.symm)),(zk [a] [(v0,.n 99)] v0 (.n 255) rfl (Int.le_of_eq e1))⟩) (fun e1=>⟨(zk [a] [(.n 39,v0)] n0 v0 rfl (Int.le_of_eq e1.symm)),(zk [a] [(v0,.n 39)] v0 (.n 255) rfl (Int.le_of_eq e1))⟩))))))) (fun e2=>⟨(zk [a] [(.n 45,v0)] n0 v0 rfl (Int.le_of_eq e2.symm)),(zk [a] [(v0,.n 45)] v0 (.n 255) rfl (Int.le_of_eq e2))⟩))
theorem O6{a:Int}(h:(a=97∨(a=98∨(a=99∨a=39)))):(a=97∨(a=98∨(a=99∨(a=39∨(a=45∨(a=1∨a=2)))))):=(of_decide_eq_true (inl (P:=fun a=>decide ((a=97∨(a=98∨(a=99∨(a=39∨(a=45∨(a=1∨a=2)))))))) ([97,98,99,39]) rfl h))
theorem B4{a:Int}(h:(a=97∨(a=98∨(a=99∨a=39)))):(a=97∨(a=98∨(a=99∨(a=39∨a=45)))):=(of_decide_eq_true (inl (P:=fun a=>decide ((a=97∨(a=98∨(a=99∨(a=39∨a=45)))))) ([97,98,99,39]) rfl h))
theorem q_8{a:Int}(h:(a=97∨(a=98∨(a=99∨(a=39∨(a=45∨(a=1∨a=2))))))):((0:Int)≤a∧a<1048576):=(of_decide_eq_true (inl (P:=fun a=>decide (((0:Int)≤a∧a<1048576))) ([97,98,99,39,45,1,2]) rfl h))
theorem I3{a b d:Nat}{c:Int}(h:((1:Nat)≤a∧a≤5))(h1:((1:Nat)≤b∧b≤5))(h2:((a:Int)≤c∧c<((a:Int)+(((((d+1)-b)-a):Nat):Int)))):((1:Int)≤c∧(c+1)≤(d:Int)):=((Nat.le_total (d+1) b).elim (fun e2=>⟨(zk [c,(a:Int)] [(v1,v0),(n1,v1)] n1 v0 rfl h2.1 (zc h.1)),(zk [c,(d:Int),(a:Int),(((((d+1)-b)-a):Nat):Int),((((d+1)-b):Nat):Int)] [(.a v0 n1,.a v2 v3),(n0,v1),(.a v3 v2,v4),(v4,n0)] (.a v0 n1) v1 rfl h2.2 (Int.natCast_nonneg _) (zc (sp (Int.ofNat_le.mp (zk [(a:Int),((((d+1)-b):Nat):Int),c,(((((d+1)-b)-a):Nat):Int)] [(v0,.n 5),(n0,v1),(.m 5 (.a v2 n1),.m 5 (.a v0 v3)),(.m 5 v0,.m 5 v2),(.m 5 v3,.m 5 v1),(.m 5 v1,.m 5 n0)] v0 v1 rfl (zc h.2) (Int.natCast_nonneg _) (Int.mul_le_mul_of_nonneg_left h2.2 (by decide:(0:Int)≤5)) (Int.mul_le_mul_of_nonneg_left h2.1 (by decide:(0:Int)≤5)) (Int.mul_le_mul_of_nonneg_left (zc (Nat.sub_le _ _)) (by decide:(0:Int)≤5)) (Int.mul_le_mul_of_nonneg_left (zc (so e2)) (by decide:(0:Int)≤5)))))) (zc (so e2)))⟩) (fun e2=>((Nat.le_total ((d+1)-b) a).elim (fun e1=>⟨(zk [c,(a:Int)] [(v1,v0),(n1,v1)] n1 v0 rfl h2.1 (zc h.1)),(zk [c,(d:Int),(a:Int),(((((d+1)-b)-a):Nat):Int),((((d+1)-b):Nat):Int)] [(.a v0 n1,.a v2 v3),(v4,.a v1 n1),(v2,.n 5),(v3,v4),(.m 6 (.a v0 n1),.m 6 (.a v2 v3)),(.m 6 v2,.m 6 v0),(.m 6 v3,.m 6 n0)] (.a v0 n1) v1 rfl h2.2 (zc (Nat.sub_le _ _)) (zc h.2) (zc (Nat.sub_le _ _)) (Int.mul_le_mul_of_nonneg_left h2.2 (by decide:(0:Int)≤6)) (Int.mul_le_mul_of_nonneg_left h2.1 (by decide:(0:Int)≤6)) (Int.mul_le_mul_of_nonneg_left (zc (so e1)) (by decide:(0:Int)≤6)))⟩) (fun e1=>⟨(zk [c,(a:Int)] [(v1,v0),(n1,v1)] n1 v0 rfl h2.1 (zc h.1)),(zk [c,(d:Int),(a:Int),(b:Int),(((((d+1)-b)-a):Nat):Int),((((d+1)-b):Nat):Int)] [(.a v0 n1,.a v2 v4),(.a v5 v3,.a v1 n1),(.a v4 v2,v5),(n1,v3)] (.a v0 n1) v1 rfl h2.2 (zc (sp e2)) (zc (sp e1)) (zc h1.1))⟩))))
theorem q_1029{a b c d i:Nat}(h:a≤b)(h1:b<c)(h2:c≤d)(h3:i<c):(i-a)<(c-a):=((Nat.le_total i a).elim (fun e2=>(fk [(i-a),(c-a),a,b,c] [(v0,n0),(.a v3 n1,v4),(v4,.a v1 v2),(v2,v3)] (.a v0 n1) v1 rfl (so e2) h1 sq h)) (fun e2=>(fk [(i-a),(c-a),a,c,i] [(.a v0 v2,v4),(.a v4 n1,v3),(v3,.a v1 v2)] (.a v0 n1) v1 rfl (sp e2) h3 sq)))
theorem Cq{a:Int}(h:a<2):((a-0):Int).toNat≤1000000:=(Int.toNat_le.mpr (zk [a] [(.a v0 n1,n2)] (.s v0 n0) (.n 1000000) rfl h))
theorem CE{a:Nat}:((((a:Int)+1)+1):Int).toNat=(a+2):=rfl
theorem Bs{a:Int}(h:(0:Int)≤a)(h1:a<2):((98+a)=98∨(98+a)=99):=(of_decide_eq_true (rng (P:=fun a=>decide (((98+a)=98∨(98+a)=99))) 0 2 rfl h h1))
theorem Dq{a b:Nat}(h:(0:Int)≤(-1)):a=(b+1):=(absurd h (by decide))
theorem AF{a b c:Int}(h:(0:Int)≤a)(h1:(0:Int)≤b)(h2:b≤255)(h3:(c=98∨c=99))(h4:c=((256*a)+b)):c≤255:=(h3.elim (fun e2=>(zk [c] [(v0,.n 98)] v0 (.n 255) rfl (Int.le_of_eq e2))) (fun e2=>(zk [c] [(v0,.n 99)] v0 (.n 255) rfl (Int.le_of_eq e2))))
theorem Ft{a:Int}(h:(a=98∨a=99)):((1:Int)≤a∧a≤255):=(of_decide_eq_true (inl (P:=fun a=>decide (((1:Int)≤a∧a≤255))) ([98,99]) rfl h))
theorem GW{a:Int}(h:((97:Int)≤a∧a≤99)):(a=97∨(a=98∨a=99)):=(of_decide_eq_true (rng (P:=fun a=>decide ((a=97∨(a=98∨a=99)))) 97 3 rfl h.1 (Int.lt_add_one_of_le h.2)))
theorem EU{a b:Int}(h:(a=98∨a=99))(h1:((97:Int)≤b∧b≤99)):(((1:Int)≤a∧a≤255)∧((1:Int)≤b∧b≤255)):=(h.elim (fun e2=>⟨⟨(zk [a] [(.n 98,v0)] n1 v0 rfl (Int.le_of_eq e2.symm)),(zk [a] [(v0,.n 98)] v0 (.n 255) rfl (Int.le_of_eq e2))⟩,⟨(zk [b] [(.n 97,v0)] n1 v0 rfl h1.1),(zk [b] [(v0,.n 99)] v0 (.n 255) rfl h1.2)⟩⟩) (fun e2=>⟨⟨(zk [a] [(.n 99,v0)] n1 v0 rfl (Int.le_of_eq e2.symm)),(zk [a] [(v0,.n 99)] v0 (.n 255) rfl (Int.le_of_eq e2))⟩,⟨(zk [b] [(.n 97,v0)] n1 v0 rfl h1.1),(zk [b] [(v0,.n 99)] v0 (.n 255) rfl h1.2)⟩⟩))
theorem Ik{a:Int}(h:(a=1∨a=2)):((0:Int)≤a∧a≤255):=(of_decide_eq_true (inl (P:=fun a=>decide (((0:Int)≤a∧a≤255))) ([1,2]) rfl h))
theorem Ez{a:Nat}{b:Int}(h:(0:Nat)<0):(a:Int)≤b:=(absurd h (by decide))
theorem Dp{b:Nat}{a:Int}(h:(0:Nat)<0):a≤(b:Int):=(absurd h (by decide))
theorem HU{a:Int}(h:a<5):(((1+a)-0):Int).toNat≤1000000:=(Int.toNat_le.mpr (zk [a] [(.a v0 n1,.n 5)] (.s (.a n1 v0) n0) (.n 1000000) rfl h))
theorem GZ{a:Int}(h:(0:Int)≤a)(h1:a<6):(a=0∨(a=1∨(a=2∨(a=3∨(a=4∨a=5))))):=(of_decide_eq_true (rng (P:=fun a=>decide ((a=0∨(a=1∨(a=2∨(a=3∨(a=4∨a=5))))))) 0 6 rfl h h1))
theorem AB{a:Int}(h:(a=97∨(a=98∨(a=99∨a=39)))):((0:Int)≤a∧a≤255):=(of_decide_eq_true (inl (P:=fun a=>decide (((0:Int)≤a∧a≤255))) ([97,98,99,39]) rfl h))
theorem W4{a:Int}(h:(0:Int)≤a)(h1:a<5):(a=0∨(a=1∨(a=2∨(a=3∨a=4)))):=(of_decide_eq_true (rng (P:=fun a=>decide ((a=0∨(a=1∨(a=2∨(a=3∨a=4)))))) 0 5 rfl h h1))
theorem Jz{a:Nat}:(((-1)+(a:Int)):Int).toNat=(a-1):=((congrArg Int.toNat (Int.add_comm _ _)).trans (Int.toNat_sub a 1))
theorem Jy{a b:Nat}:(((a:Int)-((b:Int)+1)):Int).toNat=(a-(b+1)):=(Int.toNat_sub a (b+1))
theorem FV{a:Int}(h:¬((63:Int)>1)):(1:Int)=a:=(absurd (Int.not_lt.mp h) (by decide))
theorem Gc{a:Nat}:((((a:Int)+2)+1):Int).toNat=(a+3):=rfl
theorem Gv{a b c:Nat}(h:a<(b-c)):(c+a)<b:=(Nat.add_lt_of_lt_sub' h)
theorem HJ{a b c d i j k:Nat}(h:a≤10000)(h1:b≤(64*c))(h2:(c+1)≤d)(h3:d<i)(h4:i≤a)(h5:j≤d)(h6:k≤(j-(c+1))):((b+1)+k)≤1000000:=fk [b,k,a,c,d,i,j,(j-(c+1))] [(v0,.m 64 v3),(v1,v7),(.m 64 (.a v3 n1),.m 64 v4),(.m 64 (.a v4 n1),.m 64 v5),(.m 64 v5,.m 64 v2),(.m 64 v2,.m 64 (.n 10000)),(v7,v6),(v6,v4),(.a v4 n1,v5),(v5,v2),(v2,.n 10000)] (.a (.a v0 n1) v1) (.n 1000000) rfl h1 h6 (Nat.mul_le_mul_left 64 h2) (Nat.mul_le_mul_left 64 h3) (Nat.mul_le_mul_left 64 h4) (Nat.mul_le_mul_left 64 h) (Nat.sub_le _ _) h5 h3 h4 h
theorem Hn{a b c d i:Nat}(h:a≤b)(h1:(a:Int)<(b:Int))(h2:(a+1)≤c)(h3:c<d)(h4:d≤b)(h5:c<i):(b-i)<(b-a):=((Nat.le_total b i).elim (fun e2=>(fk [(b-i),(b-a),a,b,c,d] [(v0,n0),(.a v2 n1,v4),(.a v4 n1,v5),(v5,v3),(v3,.a v1 v2)] (.a v0 n1) v1 rfl (so e2) h2 h3 h4 sq)) (fun e2=>(fk [(b-i),(b-a),a,b,c,i] [(.a v0 v5,v3),(v3,.a v1 v2),(.a v2 n1,v4),(.a v4 n1,v5)] (.a v0 n1) v1 rfl (sp e2) sq h2 h5)))
theorem Hm{a b c d i j k m n:Nat}(h:a≤(64*b))(h1:(b+1)≤c)(h2:b<d)(h3:d≤c)(h4:c<i)(h5:j=(i-d))(h6:k≤((j-0)+m))(h7:m≤63)(h8:n≤(d-(b+1))):(a+((n+k)+1))≤(64*i):=fk [a,n,k,i,b,d,j,(i-d),(j-0),m,(d-(b+1))] [(v0,.m 64 v4),(v1,.v 10),(v2,.a (.v 8) (.v 9)),(.m 64 (.a (.v 10) (.a v4 n1)),.m 64 v5),(.m 64 (.a v7 v5),.m 64 v3),(.v 8,v6),(v6,v7),(.v 9,.n 63)] (.a v0 (.a (.a v1 v2) n1)) (.m 64 v3) rfl h h8 h6 (Nat.mul_le_mul_left 64 (sp h2)) (Nat.mul_le_mul_left 64 (sp (fk [d,i,c] [(v0,v2),(.a v2 n1,v1)] v0 v1 rfl h3 h4))) (Nat.sub_le _ _) (Nat.le_of_eq h5) h7
theorem Eu{a b:Int}(h:((0:Int)≤a∧a≤100))(h1:(b=a∨(b=5∨(b=0∨b=0)))):((-1000000)≤b∧b≤1000000):=(h1.elim (fun e2=>⟨(zk [b,a] [(v1,v0),(n0,v1)] (.g (.n 1000000)) v0 rfl (Int.le_of_eq e2.symm) h.1),(zk [b,a] [(v0,v1),(v1,.n 100)] v0 (.n 1000000) rfl (Int.le_of_eq e2) h.2)⟩) (fun e2=>(e2.elim (fun e2=>⟨(zk [b] [(.n 5,v0)] (.g (.n 1000000)) v0 rfl (Int.le_of_eq e2.symm)),(zk [b] [(v0,.n 5)] v0 (.n 1000000) rfl (Int.le_of_eq e2))⟩) (fun e2=>(e2.elim (fun e2=>⟨(zk [b] [(n0,v0)] (.g (.n 1000000)) v0 rfl (Int.le_of_eq e2.symm)),(zk [b] [(v0,n0)] v0 (.n 1000000) rfl (Int.le_of_eq e2))⟩) (fun e2=>⟨(zk [b] [(n0,v0)] (.g (.n 1000000)) v0 rfl (Int.le_of_eq e2.symm)),(zk [b] [(v0,n0)] v0 (.n 1000000) rfl (Int.le_of_eq e2))⟩))))))
theorem Du{c:Nat}{a b:Int}(h:((0:Int)≤a∧(a≤255∧(b=0∨(b=1∧a<(c:Int)))))):(0:Int)≤b:=(h.2.2.elim (fun e2=>(zk [b] [(n0,v0)] n0 v0 rfl (Int.le_of_eq e2.symm))) (fun e2=>(zk [b] [(n1,v0)] n0 v0 rfl (Int.le_of_eq e2.1.symm))))
theorem Gf{c:Nat}{a b:Int}(h:((0:Int)≤a∧(a≤255∧(b=0∨(b=1∧a<(c:Int)))))):b≤3:=(h.2.2.elim (fun e2=>(zk [b] [(v0,n0)] v0 n3 rfl (Int.le_of_eq e2))) (fun e2=>(zk [b] [(v0,n1)] v0 n3 rfl (Int.le_of_eq e2.1))))
theorem Fy{c:Nat}{a b:Int}(h:((0:Int)≤a∧(a≤255∧(b=0∨(b=1∧a<(c:Int)))))):b≠3:=(fun e=>(h.2.2.elim (fun e2=>(absurd (Int.ofNat_le.mp (zk [b] [(n3,v0),(v0,n0)] n1 n0 rfl (Int.le_of_eq e.symm) (Int.le_of_eq e2))) (Nat.not_succ_le_zero 0))) (fun e2=>(absurd (Int.ofNat_le.mp (zk [b] [(n3,v0),(v0,n1)] n1 n0 rfl (Int.le_of_eq e.symm) (Int.le_of_eq e2.1))) (Nat.not_succ_le_zero 0)))))
theorem ED{c:Nat}{a b:Int}(h:(a=0∨(a=1∧b<(c:Int)))):a≠2:=(fun e=>(h.elim (fun e2=>(absurd (Int.ofNat_le.mp (zk [a] [(n2,v0),(v0,n0)] n1 n0 rfl (Int.le_of_eq e.symm) (Int.le_of_eq e2))) (Nat.not_succ_le_zero 0))) (fun e2=>(absurd (Int.ofNat_le.mp (zk [a] [(n2,v0),(v0,n1)] n1 n0 rfl (Int.le_of_eq e.symm) (Int.le_of_eq e2.1))) (Nat.not_succ_le_zero 0)))))
theorem FT{a:Int}(h:(a=0∨a=128)):¬((128:Int)<a):=(of_decide_eq_true (inl (P:=fun a=>decide (¬((128:Int)<a))) ([0,128]) rfl h))
theorem Ep{a:Int}(h:(a=0∨a=1)):a<2:=(of_decide_eq_true (inl (P:=fun a=>decide (a<2)) ([0,1]) rfl h))
theorem Y1{a b:Nat}{c:Int}(h:a<b)(h1:((c=0∧(a+1)<b)∨c=128))(h2:decide (c<128)=true):(((a:Int)+c)+1)<(b:Int):=by lia
theorem Hq{a:Int}:(a+((((0+1):Nat):Int)*1))=(a+1):=rfl
theorem JE{a b:Int}(h:¬(a<b)):(0:Int)=((((b-a):Int).toNat:Nat):Int):=(congrArg Int.ofNat (Int.toNat_of_nonpos (Int.sub_nonpos_of_le (Int.not_lt.mp h))).symm)
theorem Eb{a:Int}(h:(a=97∨(a=98∨a=99))):((1:Int)≤a∧a≤255):=(of_decide_eq_true (inl (P:=fun a=>decide (((1:Int)≤a∧a≤255))) ([97,98,99]) rfl h))
theorem Fe{a b c:Nat}(h:((1:Nat)≤a∧a≤5)):((((b+1)-a)-c)=0∨(c+(((b+1)-a)-c))≤(b+1)):=((Nat.le_total c (b+1-a)).elim (fun e=>.inr (Nat.le_trans (Nat.le_of_eq (Nat.add_sub_cancel' e)) (Nat.sub_le _ _))) fun e=>.inl (Nat.sub_eq_zero_of_le e))
theorem GH{a b c:Nat}(h:((1:Nat)≤a∧a≤5)):(((((b:Int)-(c:Int))+1):Int).toNat-a)=(((b+1)-c)-a):=(congrArg (· - a) ((congrArg Int.toNat (show(b:Int)-c+1=b+1-c by rw [Int.sub_eq_add_neg,Int.add_right_comm];rfl)).trans (Int.toNat_sub (b+1) c)))
theorem Fd{a b c:Nat}(h:((a+1)=0∨(b+(a+1))≤(c+1))):b<(c+1):=(h.elim (fun e=>nomatch e) fun e=>Nat.lt_of_lt_of_le (Nat.lt_add_of_pos_right (Nat.succ_pos a)) e)
theorem X5{a b c:Nat}(h:((a+1)=0∨(b+(a+1))≤(c+1))):(a=0∨((b+1)+a)≤(c+1)):=(h.elim (fun e2=>(.inl (Nat.le_antisymm (fk [a] [(.a v0 n1,n0)] v0 n0 rfl (Nat.le_of_eq e2)) (fk [a] [] n0 v0 rfl )))) (fun e2=>(.inr (fk [b,a,c] [(.a v0 (.a v1 n1),.a v2 n1)] (.a (.a v0 n1) v1) (.a v2 n1) rfl e2))))
theorem q_268{a b c:Nat}(h:((1:Nat)≤a∧a≤5))(h1:b≤63):(((b+1)-c)-a)≤63:=((Nat.le_total (b+1) c).elim (fun e2=>(fk [(((b+1)-c)-a)] [(v0,n0)] v0 (.n 63) rfl (so (fk [((b+1)-c),a] [(v0,n0)] v0 v1 rfl (so e2))))) (fun e2=>((Nat.le_total ((b+1)-c) a).elim (fun e1=>(fk [(((b+1)-c)-a)] [(v0,n0)] v0 (.n 63) rfl (so e1))) (fun e1=>(fk [(((b+1)-c)-a),a,b,((b+1)-c)] [(.a v0 v1,v3),(v3,.a v2 n1),(v2,.n 63),(n1,v1)] v0 (.n 63) rfl (sp e1) (Nat.sub_le _ _) h1 h.1)))))
theorem Fh{a b c:Nat}(h:a≤(b-c))(h1:(0:Nat)<a):(c+a)≤b:=(Nat.add_le_of_le_sub' (Nat.le_of_lt (Nat.lt_of_sub_pos (Nat.lt_of_lt_of_le h1 h))) h)
theorem Fr{a b c:Nat}(h:(0:Nat)<a)(h1:b<(c+a)):(b-c)<a:=((Nat.le_total b c).elim (fun e2=>(fk [(b-c),a] [(v0,n0),(.a n0 n1,v1)] (.a v0 n1) v1 rfl (so e2) h)) (fun e2=>(fk [(b-c),a,b,c] [(.a v0 v3,v2),(.a v2 n1,.a v3 v1)] (.a v0 n1) v1 rfl (sp e2) h1)))
theorem FM{a:Int}(h:(a=97∨(a=98∨(a=99∨a=39))))(h1:a>96):(a=97∨(a=98∨a=99)):=(of_decide_eq_true (inl (P:=fun a=>decide (a>96→(a=97∨(a=98∨a=99)))) ([97,98,99,39]) rfl h) h1)
theorem IJ{a b:Nat}(h:(0:Int)=128):(a+1)<b:=(absurd (Int.le_of_eq h.symm) (by decide))
theorem JD{a:Int}(h:(a=0∨a=128)):a≤128:=(of_decide_eq_true (inl (P:=fun a=>decide (a≤128)) ([0,128]) rfl h))
theorem Ja{a b:Nat}:(((a:Int)+((b:Int)*1)):Int).toNat=(a+b):=(by rw [Int.mul_one];rfl)
theorem Ie{a:Nat}:(((-1)+(((a+1):Nat):Int)):Int).toNat=a:=((congrArg Int.toNat (Int.add_comm _ _)).trans (Int.toNat_sub (a+1) 1))
theorem JL{a:Int}(h:(a=3∨a=(-2))):(-1000)≤a:=(of_decide_eq_true (inl (P:=fun a=>decide ((-1000)≤a)) ([3,-2]) rfl h))
theorem JK{a:Int}(h:(a=3∨a=(-2))):a≤1000:=(of_decide_eq_true (inl (P:=fun a=>decide (a≤1000)) ([3,-2]) rfl h))
theorem Ic{a:Int}(h:(a=0∨(a=1∨(a=2∨(a=3∨(a=5∨(a=6∨(a=7∨a=11)))))))):(a+1)≠0:=(of_decide_eq_true (inl (P:=fun a=>decide ((a+1)≠0)) ([0,1,2,3,5,6,7,11]) rfl h))
theorem Jm{a b:Nat}(h:a≤2)(h1:b≤2):(max b a)≤2:=(Nat.max_le.mpr ⟨h1,h⟩)
theorem Fq{a b c d i:Nat}(h:a≤b)(h1:c=(d-a))(h2:b≥(d-i)):c≤((b-a)+i):=((Nat.le_total b a).elim (fun e2=>((Nat.le_total d a).elim (fun e1=>(fk [c,(b-a),i,(d-a)] [(v0,v3),(v3,n0)] v0 (.a v1 v2) rfl (Nat.le_of_eq h1) (so e1))) (fun e1=>(fk [c,(b-a),i,a,b,(d-a),(d-i),d] [(v0,v5),(.a v5 v3,v7),(v7,.a v6 v2),(v6,v4),(v4,v3)] v0 (.a v1 v2) rfl (Nat.le_of_eq h1) (sp e1) sq h2 e2)))) (fun e2=>((Nat.le_total d a).elim (fun e1=>(fk [c,(b-a),i,(d-a)] [(v0,v3),(v3,n0)] v0 (.a v1 v2) rfl (Nat.le_of_eq h1) (so e1))) (fun e1=>(fk [c,(b-a),i,a,b,(d-a),(d-i),d] [(v0,v5),(.a v5 v3,v7),(v7,.a v6 v2),(v6,v4),(v4,.a v1 v3)] v0 (.a v1 v2) rfl (Nat.le_of_eq h1) (sp e1) sq h2 sq)))))
theorem Do{a b c:Nat}(h:a<(b-c)):((b:Int)-(c:Int))=(((b-c):Nat):Int):=(Int.ofNat_sub (Nat.le_of_lt (Nat.lt_of_sub_pos (Nat.lt_of_le_of_lt (Nat.zero_le _) h)))).symm
theorem Gp{a:Int}(h:(a=97∨(a=98∨(a=99∨(a=39∨(a=45∨(a=1∨a=2))))))):((0:Int)≤a∧a≤255):=(of_decide_eq_true (inl (P:=fun a=>decide (((0:Int)≤a∧a≤255))) ([97,98,99,39,45,1,2]) rfl h))
theorem Hg{a:Int}(h:(a=97∨(a=98∨(a=99∨(a=39∨a=45))))):((0:Int)≤a∧a≤255):=(of_decide_eq_true (inl (P:=fun a=>decide (((0:Int)≤a∧a≤255))) ([97,98,99,39,45]) rfl h))
theorem W7{a:Int}(h:(0:Int)≤a)(h1:decide (a<2)=true):(a=0∨a=1):=(of_decide_eq_true (rng (P:=fun a=>decide ((a=0∨a=1))) 0 2 rfl h (of_decide_eq_true h1)))
theorem HM{a:Int}(h:a<10)(h1:decide (a<2)=false):(a=2∨(a=3∨(a=4∨(a=5∨(a=6∨(a=7∨(a=8∨a=9))))))):=(of_decide_eq_true (rng (P:=fun a=>decide ((a=2∨(a=3∨(a=4∨(a=5∨(a=6∨(a=7∨(a=8∨a=9))))))))) 2 8 rfl (Int.not_lt.mp (of_decide_eq_false h1)) h))
theorem W8{a:Int}:((1+(a%2))=1∨(1+(a%2))=2):=((Int.emod_two_eq a).elim (fun e=>.inl (congrArg (1 + ·) e)) fun e=>.inr (congrArg (1 + ·) e))
theorem IM{a b c d:Nat}(h:a≤64*b)(h1:b≤10000)(h2:c≤10000)(h3:d≤10063):a+1+c+d≤1000000:=fk [a,b,c,d] [(v0,.m 64 v1),(.m 64 v1,.m 64 (.n 10000)),(v2,.n 10000),(v3,.n 10063)] (.a (.a (.a v0 n1) v2) v3) (.n 1000000) rfl h (Nat.mul_le_mul_left 64 h1) h2 h3
theorem HR{a c:Nat}{b:Int}(h:((a+1:Nat):Int)≤b∧b<((a+1:Nat):Int)+(c:Int)):(a:Int)≤b∧b<(a:Int)+((c+1:Nat):Int):=⟨Int.le_trans (Int.ofNat_le.mpr (Nat.le_succ a)) h.1,zk [b,a,c] [(.a v0 n1,.a (.a v1 n1) v2)] (.a v0 n1) (.a v1 (.a v2 n1)) rfl h.2⟩
theorem Ix{a b k p e:Nat}(h:k+2*p+e<2*b+5):2*p+(a+k)+1<2*(b+2)+(a+1)+1:=fk [a,b,k,p,e] [(.a (.a (.a v2 (.m 2 v3)) v4) n1,.a (.m 2 v1) (.n 5))] (.a (.a (.a (.m 2 v3) (.a v0 v2)) n1) n1) (.a (.a (.m 2 (.a v1 n2)) (.a v0 n1)) n1) rfl h
theorem IG{a b k p e c:Nat}(h:c+2*(2*(b+2)+(a+1)+1)≤800)(h1:k+2*p+e<2*b+5):c+e+2*(2*p+(a+k)+1)≤800:=fk [a,b,k,p,e,c] [(.a v5 (.m 2 (.a (.a (.m 2 (.a v1 n2)) (.a v0 n1)) n1)),.n 800),(.m 2 (.a (.a (.a v2 (.m 2 v3)) v4) n1),.m 2 (.a (.m 2 v1) (.n 5)))] (.a (.a v5 v4) (.m 2 (.a (.a (.m 2 v3) (.a v0 v2)) n1))) (.n 800) rfl h (Nat.mul_le_mul_left 2 h1)
theorem q_h5{b:Nat}:0+2*b+0<2*b+5:=fk [b] [] (.a (.a (.a n0 (.m 2 v0)) n0) n1) (.a (.m 2 v0) (.n 5)) rfl
theorem q_h6{b:Nat}:1+2*(b+1)+0<2*b+5:=fk [b] [] (.a (.a (.a n1 (.m 2 (.a v0 n1))) n0) n1) (.a (.m 2 v0) (.n 5)) rfl
theorem q_h7{b:Nat}:1+2*b+0<2*b+5:=fk [b] [] (.a (.a (.a n1 (.m 2 v0)) n0) n1) (.a (.m 2 v0) (.n 5)) rfl
theorem q_h8{b:Nat}:1+1+2*(b+1)+0<2*b+5:=fk [b] [] (.a (.a (.a (.a n1 n1) (.m 2 (.a v0 n1))) n0) n1) (.a (.m 2 v0) (.n 5)) rfl
theorem JS{b p:Nat}(h:p≤b+1):0+2*p+1<2*b+5:=fk [b,p] [(.m 2 v1,.m 2 (.a v0 n1))] (.a (.a (.a n0 (.m 2 v1)) n1) n1) (.a (.m 2 v0) (.n 5)) rfl (Nat.mul_le_mul_left 2 h)
theorem q_h10{b:Nat}:0+2*b+1<2*b+5:=fk [b] [] (.a (.a (.a n0 (.m 2 v0)) n1) n1) (.a (.m 2 v0) (.n 5)) rfl
theorem q_h11{b:Nat}:1+2*(b+1)+1<2*b+5:=fk [b] [] (.a (.a (.a n1 (.m 2 (.a v0 n1))) n1) n1) (.a (.m 2 v0) (.n 5)) rfl
theorem q_h12{b p:Nat}(h:p≤b+1):0+2*p+2<2*b+5:=fk [b,p] [(.m 2 v1,.m 2 (.a v0 n1))] (.a (.a (.a n0 (.m 2 v1)) n2) n1) (.a (.m 2 v0) (.n 5)) rfl (Nat.mul_le_mul_left 2 h)
end
set_option genInjectivity true
section
set_option genInjectivity false
theorem lk_list_keys:typeLookup (.type "list") "keys" = pure none:=by rw [typeLookup_type,builtinLookup_eq_fast];kernel_rfl
section
variable{prog:Program}{w:World}{A:Around}{E:Value→Shared→Prop}
theorem j6 {s:Shared}{a:Addr}{xs:Array Value}{k:Nat}{Q:Option Value→Shared→Prop}(hA:A.handled=none) (hx:s.heap.get? a=some {cls:=.type "list",data:=.seq xs k})
  (h:∀h' tk,(∀b o,s.heap.get? b=some o→h'.get? b=some o)→Q none {s with heap:=h',toks:=tk}):wpAny (model prog w) A (getAttr? (.ref a) "keys") Q E s:=by
 obtain⟨hp,g,d,tk,os⟩:=s
 have hT:∀tk',(⟨hp,g,d,tk',os⟩:Shared).TypeIs (.ref a) "list":=fun _=>⟨_,hx,rfl⟩
 have f1:=sub_AttributeError
 have f3:=F.slot_list_getattribute.lookup
 have f4:=F.slot_list_getattribute.bind (.ref a)
 have f5:=am_list_getattr_none
 unfold getAttr? getAttrBy? getAttrBy
 repeat (any_goals (first|assumption|exact hT _|((with_reducible show wpAny _ _ (call (Value.builtin "list.__getattribute__") _ _) _ _ _);refine call_meets F.slot_list_getattribute (hT _) am_entry_list_getattribute (F.args_list_getattribute_2 _ _) (meets_getattribute_miss_list a xs k _ "keys" _ lk_list_keys (by decide) (by size_fits)) ⟨hx,hA,fun h' tk' e hx'=>?_⟩)|wp_step))
 obtain⟨t',u',he⟩:=hx'.there
 show wpAny _ _ (getattributeRaised _ _ _ _ _ _ _) _ _ _
 unfold getattributeRaised
 repeat (any_goals (first|assumption|wp_step))
 exact h _ _ hx'.keeps
theorem cM:plainId "dict.update.loop" = true:=by decide +kernel
theorem fJ:entryFor table "dict.update.loop" = some Builtin.«dict.update.loop»:=entryFor_of_tree (by kernel_rfl)
theorem yY{I l d:Addr}{items:Array Value}(hlI:l≠I)(hdI:d≠I)(hdl:d≠l):∀(rest:List (Addr × Int × Tok × Value)) (i:Nat) (j:Int) (t:Tok) (A:Around) (R:Result→Shared→Prop) (s:Shared) (kvs:List (Int × Value)),A.handled=none →
  s.heap.IsListIter I l i→s.heap.IsList l items→i≤items.size→items.toList.drop i=rest.map (fun p=>.ref p.1)→(∀p∈rest,s.heap.IsTuple p.1 #[.int p.2.1 p.2.2.1,p.2.2.2]∧p.1≠d∧p.1≠I)→s.heap.DictOf (intKind prog w) d kvs→kvs.length+rest.length≤1000 →
  (∀h' tk,h'.DictOf (intKind prog w) d (rest.foldl (fun acc p=>stored acc p.2.1 p.2.2.2) kvs)→(∀b o,b≠d→b≠I→s.heap.get? b=some o→h'.get? b=some o)→R (.ok (.ret .none)) {s with heap:=h',toks:=tk}) →
  codeAny (model prog w) A (.builtin "dict.update.loop" ⟨[.ref d,.ref I,.int j t,.none],[]⟩) R s:=by
 intro rest
 induction rest with
 |nil =>
  intro i j t A R s kvs hh h1 h2 hi h3 h4 h5 h6 k
  have hi':i=items.size:=by
   have:=List.drop_eq_nil_iff.mp h3
   rw [Array.length_toList]at this;exact Jb hi this
  subst hi'
  refine codeAny_builtin fJ ?_
  rw [Around.under_plainId cM _]
  show wpAny _ A.in1 (pyNext (.ref I)>>=_) _ _ s
  refine wpAny_bind ((Walks.list (prog:=prog) (w:=w) (A:=A.in1) hh I l hlI items).done s _ _ ⟨h1,h2⟩ fun h' tk hk=>?_)
  exact wpAny_pure (k h' tk (h5.at fun o e=>hk d o (by simpa using hdI) e) fun b o _ hb e=>hk b o (by simpa using hb) e)
 |cons p rest ih =>
  intro i j t A R s kvs hh h1 h2 hi h3 h4 h5 h6 k
  obtain⟨T,ky,kt,v⟩:=p
  have hi':i<items.size:=by
   rcases Nat.lt_or_ge i items.size with q|q
   ·exact q
   ·rw [List.drop_eq_nil_of_le (by exact q)]at h3;cases h3
  rw [List.drop_eq_getElem_cons (by exact hi')]at h3
  have hT:=(List.cons.inj h3).1
  have hR:=(List.cons.inj h3).2
  obtain⟨q1,q2,q3⟩:=h4 _ (.head _)
  refine codeAny_builtin fJ ?_
  rw [Around.under_plainId cM _]
  show wpAny _ A.in1 (pyNext (.ref I)>>=_) _ _ s
  refine wpAny_bind ((Walks.list (prog:=prog) (w:=w) (A:=A.in1) hh I l hlI items).item i s _ _ hi' ⟨h1,h2⟩ fun v0 h' tk hv hst hk=>?_)
  have ev:v0 = .ref T:=by
   rw [Array.getElem?_eq_getElem hi']at hv
   rw [←Option.some.inj hv];exact hT
  subst ev
  have q1':h'.IsTuple T #[.int ky kt,v]:=q1.at fun o e=>hk T o (by simpa using q3) e
  have h5':h'.DictOf (intKind prog w) d kvs:=h5.at fun o e=>hk d o (by simpa using hdI) e
  obtain⟨oT,e1,e2,nT,e3⟩:=id q1'
  refine wpAny_bind (wpAny_holding (wpAny_bind (wpAny_tryCatch ?_)))
  unfold Builtin.Dict.pairItems
  refine wpAny_bind (wpAny_typeOf (T:="tuple") ⟨oT,e1,e2⟩ ?_)
  rw [if_pos (by decide)]
  refine wpAny_bind (wpAny_seqItems e1 e3 (wpAny_pure ?_))
  show wpAny _ _ (holding [Value.int ky kt,v] (dictSet d (.int ky kt) v)) _ _ _
  refine wpAny_holding (wpAny_dictSet_pairs (knd:=intKind prog w) (k:=ky) (by simp [intKind,Value.isInt]) h5' (fun h2' hd2 hs=>?_) (by rw [sizeLine_eq];simp at h6;exact JT h6))
  have hs':∀b o,b≠d→h'.get? b=some o→h2'.get? b=some o:=fun b o hb e=>(hs.2 b hb).trans e
  refine wpAny_pure ⟨plainId_quiet cM _,?_⟩
  refine ih (i+1) (j+1) 0 A R _ (stored kvs ky v) hh (hst.1.at fun o e=>hs' I o (Ne.symm hdI) e) (hst.2.at fun o e=>hs' l o (Ne.symm hdl) e) hi' hR (fun p hp=>?_) hd2 ?_ ?_
  ·obtain⟨a,b,c⟩:=h4 p (.tail _ hp)
   exact⟨a.at fun o e=>hs' _ o b (hk _ o (by simpa using c) e),b,c⟩
  ·have:=stored_length_le kvs ky v
   simp at h6;exact IH h6 this
  ·intro h3' tk' hd3 hk3
   exact k h3' tk' hd3 fun b o b1 b2 e=>hk3 b o b1 b2 (hs' b o b1 (hk b o (by simpa using b2) e))
theorem nJ {l:Addr}{items:Array Value}{rest:List (Addr × Int × Tok × Value)}{s:Shared}{Q:Value→Shared→Prop}(hh:A.handled=none) {n:Nat}(hl:s.heap.get? l=some {cls:=.type "list",data:=.seq items n}) (hi:items.toList=rest.map (fun p=>.ref p.1))
  (ht:∀p∈rest,s.heap.IsTuple p.1 #[.int p.2.1 p.2.2.1,p.2.2.2]) (hn:(rest.map (fun p=>p.2.1)).Nodup) (hz:rest.length≤1000)
  (h:∀h' tk,h'.DictOf (intKind prog w) s.heap.objs.size (rest.map fun p=>(p.2.1,p.2.2.2))→(∀b o,s.heap.get? b=some o→h'.get? b=some o)→Q (.ref s.heap.objs.size) {s with heap:=h',toks:=tk}) :
  wpAny (model prog w) A (call (.type "dict") [.ref l]) Q E s:=by
 refine callType_codes (Q₁:=fun obj s₁=>obj = .ref s.heap.objs.size∧s₁ ={s with heap:=s.heap.push {cls:=.type "dict",data:=.dict #[]}}) F.kt_called_dict (F.kt_typeCall_dict_1 _) F.entry_dict_init (kt_code_dict_new _ ⟨rfl,rfl⟩) ?_
 rintro obj s₁ ⟨rfl,rfl⟩
 have hnew:(s.heap.push {cls:=.type "dict",data:=.dict #[]}).DictOf (intKind prog w) s.heap.objs.size []:=Heap.DictOf.new s.heap
 have hlt:∀{b o},s.heap.get? b=some o→b≠s.heap.objs.size:=fun e=>Nat.ne_of_lt (Heap.lt_size e)
 have hl1:(s.heap.push {cls:=.type "dict",data:=.dict #[]}).get? l=some {cls:=.type "list",data:=.seq items n}:=Heap.get?_push_of_some _ hl
 refine⟨hnew.typeIs,F.args_dict_init_2 _ _,?_⟩
 unfold Builtin.«dict.__init__»
 refine wpAny_bind ?_
 unfold Builtin.Dict.selfAndRest
 refine wpAny_bind (wpAny_notOrdered_dict hnew.typeIs ?_)
 show wpAny _ _ (pure (s.heap.objs.size,[Value.ref l])) _ _ _
 refine wpAny_pure ?_
 show wpAny _ _ (Builtin.Dict.updateFrom "dict.__init__" s.heap.objs.size (.ref l) [] .none) _ _ _
 unfold Builtin.Dict.updateFrom
 refine wpAny_bind (wpAny_typeOf (T:="list") ⟨_,hl1,rfl⟩ ?_)
 rw [if_pos (by decide)]
 refine wpAny_bind (j6 (A:=A.in1.in1) hh hl1 fun h1 tk1 hk1=>?_)
 rw [if_pos (by rfl)]
 refine wpAny_bind (wpAny_rule ?_)
 have hl2:h1.IsList l items:=⟨_,hk1 _ _ hl1,rfl,n,rfl⟩
 refine wpAny_bind (wpAny_pyIter_list hl2 ?_)
 have hk2:∀b o,s.heap.get? b=some o→h1.get? b=some o:=fun b o e=>hk1 b o (Heap.get?_push_of_some _ e)
 have hd1:h1.DictOf (intKind prog w) s.heap.objs.size []:=hnew.at fun o e=>hk1 _ o e
 have hs1:s.heap.objs.size<h1.objs.size:=by
  obtain⟨_,_,_,hg,_⟩:=hd1
  exact Heap.lt_size hg
 have hl1':l<h1.objs.size:=Heap.lt_size (hk1 _ _ hl1)
 have hI:∀b o,h1.get? b=some o→b≠h1.objs.size:=fun b o e=>Nat.ne_of_lt (Heap.lt_size e)
 have hp:∀{h:Heap}{b o x},h.get? b=some o→(h.push x).get? b=some o:=fun e=>Heap.get?_push_of_some _ e
 refine wpAny_pure ⟨plainId_quiet cM _,?_⟩
 refine yY (prog:=prog) (w:=w) (I:=h1.objs.size) (l:=l) (items:=items) (Nat.ne_of_lt hl1') (Nat.ne_of_lt hs1) (Ne.symm (hlt hl)) rest 0 0 0 A.in1 _ _ [] hh ⟨_,Heap.get?_push_size _ rfl,rfl,rfl⟩ (hl2.at fun o e=>hp e) (Nat.zero_le _) (by exact hi) (fun p hp'=>?_) (hd1.at fun o e=>hp e) (by simpa using hz) fun h3 tk3 hd3 hk3=>?_
 ·obtain⟨o,e,r⟩:=ht p hp'
  exact⟨⟨o,hp (hk2 _ o e),r⟩,hlt e,hI _ o (hk2 _ o e)⟩
 ·refine⟨rfl,?_⟩
  have e:rest.foldl (fun acc p=>stored acc p.2.1 p.2.2.2) []=rest.map fun p=>(p.2.1,p.2.2.2):=by
   have:=merged_nil_of_nodup (rest.map fun p=>(p.2.1,p.2.2.2)) (by rw [List.map_map];exact hn)
   rw [merged,List.foldl_map]at this
   exact this
  rw [e]at hd3
  exact h h3 tk3 hd3 fun b o e=>hk3 b o (hlt e) (hI b o (hk2 b o e)) (hp (hk2 b o e))
end
end
section
theorem nil_snoc{α:Type}:∀l:List α,l = []∨∃r x,l=r++[x]:=fun l=>(List.eq_nil_or_concat l).imp id fun hp1=>by obtain⟨r,x,e⟩:=hp1;exact⟨r,x,e.trans List.concat_eq_append⟩
theorem mAr{α:Type}{a:α}{s t:List α}(h:a∈s∨a∈t):a∈s++t:=List.mem_append.mpr h
theorem mAp{α:Type}{a:α}{s t:List α}(h:a∈s++t):a∈s∨a∈t:=List.mem_append.mp h
theorem mCp{α:Type}{a b:α}{l:List α}(h:a∈b::l):a=b∨a∈l:=List.mem_cons.mp h
theorem mSp{α:Type}{a b:α}(h:a∈[b]):a=b:=List.mem_singleton.mp h
theorem mMp{α β:Type}{f:α→β}{b:β}{l:List α}(h:b∈l.map f):∃a,a∈l∧f a=b:=List.mem_map.mp h
theorem mMr{α β:Type}{f:α→β}{b:β}{l:List α}(h:∃a,a∈l∧f a=b):b∈l.map f:=List.mem_map.mpr h
theorem anp{a b:Bool}(h:(a&&b)=true):a=true∧b=true:=Bool.and_eq_true_iff.mp h
theorem anr{a b:Bool}(h:a=true∧b=true):(a&&b)=true:=Bool.and_eq_true_iff.mpr h
theorem aL{P:Prop}(h:false=true):P:=by cases(h)
theorem dP{P:Prop}(h:true=false):P:=by cases(h)
theorem aF{P:Prop}{α:Type}{x:α}(h:none=some x):P:=by cases(h)
theorem qX{P:Prop}{α:Type}{x:α}(h:some x=none):P:=by cases(h)
theorem Jo{P:Prop}{α:Type}{x:α}{l:List α}(h:[]=x::l):P:=by cases(h)
theorem bV{P:Prop}{α:Type}{x:α}{l:List α}(h:x::l = []):P:=by cases(h)
theorem ar_le{a b k:Nat}(h:a≤b)(e:b≤k):a≤k:=Nat.le_trans h e
theorem ar_l{a b c k:Nat}(h:a+b≤c)(e:c≤k):a≤k:=Nat.le_trans (Nat.le_trans (Nat.le_add_right _ _) h) e
theorem JR{a b c k:Nat}(h:b+a≤c)(e:c≤k):a≤k:=Nat.le_trans (Nat.le_trans (Nat.le_add_left _ _) h) e
theorem wZ{p n:Nat}(h:p<n):n-(p+1)<n-p:=Nat.sub_succ_lt_self _ _ h
theorem Z2{i n:Nat}(h:i<n):n-1-i<n:=Nat.lt_of_le_of_lt (Nat.sub_le _ _) (Nat.sub_lt (Nat.lt_of_le_of_lt (Nat.zero_le _) h) Nat.one_pos)
theorem xG{a b c k:Nat}(h:b≤k):min a (b-c)≤k:=Nat.le_trans (Nat.min_le_right _ _) (Nat.le_trans (Nat.sub_le _ _) h)
theorem Gw{a b n:Nat}(h:b≤n):min (b-a) (n-a)=b-a:=Nat.min_eq_left (Nat.sub_le_sub_right h _)
theorem Ee{p n:Nat}(h:p<n):n-p=n-(p+1)+1:=by rw [Nat.sub_add_eq];exact(Nat.sub_add_cancel (Nat.sub_pos_of_lt h)).symm
theorem AI{p n j:Nat}(h:n-p=j+1):n-(p+1)=j:=by rw [Nat.sub_add_eq,h];rfl
theorem ar_sl{p n j:Nat}(h:n-p=j+1):p<n:=Nat.lt_of_sub_pos (h▸Nat.succ_pos _)
theorem pU{a d k:Nat}(h:a+(d+1)≤k):a+1+d≤k:=by rw [Nat.add_right_comm];exact h
theorem wF{a d k:Nat}(h:a+(d+1)≤k):a+d≤k:=Nat.le_of_succ_le h
theorem Z1{b c n:Nat}(h:b+c≤n):c+(n-b-c)=n-b:=Nat.add_sub_of_le (Nat.le_sub_of_add_le' h)
theorem FA{t n:Nat}(h:t<n):(n:Int)-1-t=((n-1-t:Nat):Int):=by exact IT h
theorem GB{t n:Nat}(h:t≤n):(n:Int)-t=((n-t:Nat):Int):=(Int.ofNat_sub h).symm
theorem AH{n:Nat}:(-1+(n:Int)).toNat=n-1:=(congrArg Int.toNat (Int.add_comm _ _)).trans (Int.toNat_sub n 1)
theorem HK{n p:Nat}:((n:Int)-(p+1)).toNat=n-(p+1):=Int.toNat_sub n (p+1)
theorem jO{p n:Nat}(h:(p:Int)<n):p<n:=Int.ofNat_lt.mp h
theorem J9{p n:Nat}(h:¬(p:Int)<n):n≤p:=Int.ofNat_le.mp (Int.not_lt.mp h)
inductive Cn where
 |Glue|Font|Char|Ligature|Kern|Skip|Penalty|Disc|MathEdge|Word|Stretch|LowerCodes|Patterns
deriving DecidableEq
noncomputable abbrev Fn:=Fin 78
noncomputable def Fn.is_whole:Fn:=⟨0,by decide⟩
noncomputable def Fn.check_whole:Fn:=⟨1,by decide⟩
noncomputable def Fn.check_number:Fn:=⟨2,by decide⟩
noncomputable def Fn.check_dimen:Fn:=⟨3,by decide⟩
noncomputable def Fn.Glue_init:Fn:=⟨4,by decide⟩
noncomputable def Fn.Glue_parts:Fn:=⟨5,by decide⟩
noncomputable def Fn.is_size:Fn:=⟨6,by decide⟩
noncomputable def Fn.check_sizes:Fn:=⟨7,by decide⟩
noncomputable def Fn.check_chars:Fn:=⟨8,by decide⟩
noncomputable def Fn.check_larger:Fn:=⟨9,by decide⟩
noncomputable def Fn.check_program:Fn:=⟨10,by decide⟩
noncomputable def Fn.left_start:Fn:=⟨11,by decide⟩
noncomputable def Fn.Font_init:Fn:=⟨12,by decide⟩
noncomputable def Fn.Font_has:Fn:=⟨13,by decide⟩
noncomputable def Fn.Font_starts:Fn:=⟨14,by decide⟩
noncomputable def Fn.font_name:Fn:=⟨15,by decide⟩
noncomputable def Fn.font_of_rows:Fn:=⟨16,by decide⟩
noncomputable def Fn.check_code:Fn:=⟨17,by decide⟩
noncomputable def Fn.check_short:Fn:=⟨18,by decide⟩
noncomputable def Fn.Char_init:Fn:=⟨19,by decide⟩
noncomputable def Fn.Ligature_init:Fn:=⟨20,by decide⟩
noncomputable def Fn.Kern_init:Fn:=⟨21,by decide⟩
noncomputable def Fn.Skip_init:Fn:=⟨22,by decide⟩
noncomputable def Fn.Penalty_init:Fn:=⟨23,by decide⟩
noncomputable def Fn.Disc_init:Fn:=⟨24,by decide⟩
noncomputable def Fn.MathEdge_init:Fn:=⟨25,by decide⟩
noncomputable def Fn.check_depth:Fn:=⟨26,by decide⟩
noncomputable def Fn.described_rest:Fn:=⟨27,by decide⟩
noncomputable def Fn.described:Fn:=⟨28,by decide⟩
noncomputable def Fn.described_list:Fn:=⟨29,by decide⟩
noncomputable def Fn.look:Fn:=⟨30,by decide⟩
noncomputable def Fn.Word_init:Fn:=⟨31,by decide⟩
noncomputable def Fn.leave:Fn:=⟨32,by decide⟩
noncomputable def Fn.pass_on:Fn:=⟨33,by decide⟩
noncomputable def Fn.put_between:Fn:=⟨34,by decide⟩
noncomputable def Fn.word_nodes:Fn:=⟨35,by decide⟩
noncomputable def Fn.run:Fn:=⟨36,by decide⟩
noncomputable def Fn.is_font_kern:Fn:=⟨37,by decide⟩
noncomputable def Fn.codes_of:Fn:=⟨38,by decide⟩
noncomputable def Fn.is_of_font:Fn:=⟨39,by decide⟩
noncomputable def Fn.first_letter:Fn:=⟨40,by decide⟩
noncomputable def Fn.is_followed_well:Fn:=⟨41,by decide⟩
noncomputable def Fn.word_stretch:Fn:=⟨42,by decide⟩
noncomputable def Fn.mark_of:Fn:=⟨43,by decide⟩
noncomputable def Fn.marks_of:Fn:=⟨44,by decide⟩
noncomputable def Fn.outer_kerns:Fn:=⟨45,by decide⟩
noncomputable def Fn.Stretch_init:Fn:=⟨46,by decide⟩
noncomputable def Fn.Stretch_find_edges:Fn:=⟨47,by decide⟩
noncomputable def Fn.Stretch_alike_ahead:Fn:=⟨48,by decide⟩
noncomputable def Fn.Stretch_alike_behind:Fn:=⟨49,by decide⟩
noncomputable def Fn.Stretch_with_breaks:Fn:=⟨50,by decide⟩
noncomputable def Fn.word_offset:Fn:=⟨51,by decide⟩
noncomputable def Fn.hyphenated:Fn:=⟨52,by decide⟩
noncomputable def Fn.key:Fn:=⟨53,by decide⟩
noncomputable def Fn.LowerCodes_init:Fn:=⟨54,by decide⟩
noncomputable def Fn.LowerCodes_lower:Fn:=⟨55,by decide⟩
noncomputable def Fn.is_word:Fn:=⟨56,by decide⟩
noncomputable def Fn.inner_letters:Fn:=⟨57,by decide⟩
noncomputable def Fn.check_pattern:Fn:=⟨58,by decide⟩
noncomputable def Fn.word_key:Fn:=⟨59,by decide⟩
noncomputable def Fn.least_part:Fn:=⟨60,by decide⟩
noncomputable def Fn.Patterns_init:Fn:=⟨61,by decide⟩
noncomputable def Fn.Patterns_state_of:Fn:=⟨62,by decide⟩
noncomputable def Fn.Patterns_add:Fn:=⟨63,by decide⟩
noncomputable def Fn.Patterns_gap_numbers:Fn:=⟨64,by decide⟩
noncomputable def Fn.Patterns_points:Fn:=⟨65,by decide⟩
noncomputable def Fn.law_box:Fn:=⟨66,by decide⟩
noncomputable def Fn.law_take:Fn:=⟨67,by decide⟩
noncomputable def Fn.law_fonts:Fn:=⟨68,by decide⟩
noncomputable def Fn.law_chunk:Fn:=⟨69,by decide⟩
noncomputable def Fn.law_codes:Fn:=⟨70,by decide⟩
noncomputable def Fn.law_is_new:Fn:=⟨71,by decide⟩
noncomputable def Fn.law_words:Fn:=⟨72,by decide⟩
noncomputable def Fn.law_places:Fn:=⟨73,by decide⟩
noncomputable def Fn.law_flat:Fn:=⟨74,by decide⟩
noncomputable def Fn.law_lines:Fn:=⟨75,by decide⟩
noncomputable def Fn.law_round:Fn:=⟨76,by decide⟩
noncomputable def Fn.law:Fn:=⟨77,by decide⟩
inductive Ty where
 |int|bool|str|tuple|list
noncomputable def Ty.name:Ty→String
 |.int=>"int"
 |.bool=>"bool"
 |.str=>"str"
 |.tuple=>"tuple"
 |.list=>"list"
inductive D where
 |none
 |bool (b:Bool)
 |int (i:Int)
 |str (s:Str)
 |tup (l:List D)
 |lst (l:List D)
 |dct (ks:List Int) (l:List D)
 |rng (lo hi:Int)
 |inst (c:Cn) (l:List D)
 |ty (n:Ty)
inductive V where
 |fz (d:D)
 |loc (a:Addr)
inductive Cell where
 |lst (l:List V)
 |dct (ks:List Int) (l:List V)
 |inst (c:Cn) (d:Addr) (ks:List Str) (l:List V)
noncomputable abbrev Led:=List (Addr × Cell)
noncomputable def Cell.foot(a:Addr):Cell→List Addr
 |.lst _=>[a]
 |.dct _ _=>[a]
 |.inst _ d _ _=>[a,d]
noncomputable def foot:Led→List Addr
 |[]=>[]
 |(a,c)::r=>c.foot a++foot r
noncomputable def fields:Cn→List Str
 |.Glue=>["width","stretch","stretch_order","shrink","shrink_order"]
 |.Font=>["number","name","size","design","check","params","chars","program","kerns","boundary","edge_start","hyphen_char","skew_char"]
 |.Char=>["font","code"]
 |.Ligature=>["font","code","parts","left","right"]
 |.Kern=>["width","sort"]
 |.Skip=>["glue","sort","leader"]
 |.Penalty=>["value"]
 |.Disc=>["pre","post","middle"]
 |.MathEdge=>["is_on","width"]
 |.Word=>["font","waiting","now","edge","found","hit_left","hit_right","is_going"]
 |.Stretch=>["font","first","last","codes","left","right","nodes","begins"]
 |.LowerCodes=>["store"]
 |.Patterns=>["links","numbers","states","exceptions"]
structure Wd where
 prog:Program
 w:World
 K:Frag
 h0:Heap
 ca:Cn→Addr
 fa:Fn→Addr
def gW(h:Heap)(a:Addr)(cls:String)(vs:List Value):Prop:=∃n,h.get? a=some {cls:=.type cls,data:=.seq vs.toArray n}
def KeysS(P:Params):List Str→List DictEntry→Prop
 |[],[]=>True
 |k::ks,e::es=>(∃t,e.key = .str k t∧e.hash=PyData.keyHash P k)∧KeysS P ks es
 |_,_=>False
mutual
def Rep(W:Wd)(h:Heap)(U:List Addr):D→Value→Prop
 |.none,v=>v = .none
 |.ty n,v=>v = .type n.name
 |.bool b,v=>v = .bool b
 |.int i,v=>∃t,v = .int i t
 |.str s,v=>∃t,v = .str s t
 |.tup l,v=>∃a vs,v = .ref a∧a∉U∧gW h a "tuple" vs∧bT W h U l vs
 |.lst l,v=>∃a vs,v = .ref a∧a∉U∧gW h a "list" vs∧bT W h U l vs
 |.dct ks l,v=>∃a kvs,v = .ref a∧a∉U∧(a==sysModules)=false∧h.DictOf (intKind W.prog W.w) a kvs∧kvs.map (·.1)=ks∧bT W h U l (kvs.map (·.2))
 |.rng lo hi,v=>∃a t u r,v = .ref a∧a∉U∧IsRange h a lo hi 1 t u r
 |.inst c l,v=>∃a d es n,v = .ref a∧a∉U∧d∉U∧h.get? a=some (instObj (W.ca c) d)∧h.get? d=some (dictOf es n)∧KeysS W.w.params (fields c) es∧bT W h U l (es.map (·.val))
def bT(W:Wd)(h:Heap)(U:List Addr):List D→List Value→Prop
 |[],vs=>vs = []
 |d::ds,vs=>∃x xs,vs=x::xs∧Rep W h U d x∧bT W h U ds xs
end
def aO(W:Wd)(h:Heap)(U:List Addr):V→Value→Prop
 |.fz d,x=>Rep W h U d x
 |.loc a,x=>x = .ref a
def VRelL(W:Wd)(h:Heap)(U:List Addr):List V→List Value→Prop
 |[],vs=>vs = []
 |v::ds,vs=>∃x xs,vs=x::xs∧aO W h U v x∧VRelL W h U ds xs
def iE(W:Wd)(h:Heap)(U:List Addr)(a:Addr):Cell→Prop
 |.lst l=>∃n vs,h.get? a=some (listOf vs n)∧VRelL W h U l vs.toList
 |.dct ks l=>(a==sysModules)=false∧∃kvs,h.DictOf (intKind W.prog W.w) a kvs∧kvs.map (·.1)=ks∧VRelL W h U l (kvs.map (·.2))
 |.inst c d ks l=>h.get? a=some (instObj (W.ca c) d)∧∃es n,h.get? d=some (dictOf es n)∧KeysS W.w.params ks es∧VRelL W h U l (es.map (·.val))
def bA(U U':List Addr)(h h':Heap):Prop:=∀b o,h.get? b=some o→b∉U→h'.get? b=some o∧b∉U'
theorem bA.refl(U:List Addr)(h:Heap):bA U U h h:=fun _ _ e n=>⟨e,n⟩
theorem bA.trans{U U' U'':List Addr}{h h' h'':Heap}(x:bA U U' h h')(y:bA U' U'' h' h''):bA U U'' h h'' :=
 fun b o e n=>y b o (x b o e n).1 (x b o e n).2
theorem gW.isList {h:Heap}{a:Addr}{vs:List Value}(q:gW h a "list" vs):h.IsList a vs.toArray:=let⟨n,e⟩:=q;⟨_,e,rfl,n,rfl⟩
theorem gW.isTup {h:Heap}{a:Addr}{vs:List Value}(q:gW h a "tuple" vs):IsTup h a vs.toArray:=let⟨n,e⟩:=q;⟨_,e,rfl,n,rfl⟩
theorem gW.keep{U U':List Addr}{h h':Heap}(x:bA U U' h h'){a:Addr}{cls:String}{vs:List Value}(n:a∉U)(q:gW h a cls vs):gW h' a cls vs∧a∉U' :=
 let⟨k,e⟩:=q
 ⟨⟨k,(x a _ e n).1⟩,(x a _ e n).2⟩
mutual
theorem Rep.keep{W:Wd}{U U':List Addr}{h h':Heap}(x:bA U U' h h'):∀{d:D}{v:Value},Rep W h U d v→Rep W h' U' d v
 |.none,_,e=>e
 |.ty _,_,e=>e
 |.bool _,_,e=>e
 |.int _,_,e=>e
 |.str _,_,e=>e
 |.tup _,_,e=>by
  obtain⟨a,vs,e1,e2,e3,e4⟩:=e
  refine(?_:Exists _);exact⟨a,vs,e1,(e3.keep x e2).2,(e3.keep x e2).1,bT.keep x e4⟩
 |.lst _,_,e=>by
  obtain⟨a,vs,e1,e2,e3,e4⟩:=e
  refine(?_:Exists _);exact⟨a,vs,e1,(e3.keep x e2).2,(e3.keep x e2).1,bT.keep x e4⟩
 |.dct _ _,_,e=>by
  obtain⟨a,kvs,e1,e2,e6,⟨o,es,ep,e3,e3'⟩,e4,e5⟩:=e
  refine(?_:Exists _);exact⟨a,kvs,e1,(x a o e3 e2).2,e6,⟨o,es,ep,(x a o e3 e2).1,e3'⟩,e4,bT.keep x e5⟩
 |.rng _ _,_,e=>by
  obtain⟨a,t,u,r,e1,e2,e3⟩:=e
  refine(?_:Exists _);exact⟨a,t,u,r,e1,(x a _ e3 e2).2,(x a _ e3 e2).1⟩
 |.inst _ _,_,e=>by
  obtain⟨a,d,es,n,e1,e2,e3,e4,e5,e6,e7⟩:=e
  refine(?_:Exists _);exact⟨a,d,es,n,e1,(x a _ e4 e2).2,(x d _ e5 e3).2,(x a _ e4 e2).1,(x d _ e5 e3).1,e6,bT.keep x e7⟩
theorem bT.keep{W:Wd}{U U':List Addr}{h h':Heap}(x:bA U U' h h'):∀{d:List D}{v:List Value},bT W h U d v→bT W h' U' d v
 |[],_,e=>e
 |d::ds,_,e=>by
  obtain⟨y,ys,e1,e2,e3⟩:=e
  refine(?_:Exists _);exact⟨y,ys,e1,Rep.keep x e2,bT.keep x e3⟩
end
theorem aO.keep{W:Wd}{U U':List Addr}{h h':Heap}(x:bA U U' h h'):∀{v:V}{y:Value},aO W h U v y→aO W h' U' v y
 |.fz _,_,e=>Rep.keep x e
 |.loc _,_,e=>e
theorem VRelL.keep{W:Wd}{U U':List Addr}{h h':Heap}(x:bA U U' h h'):∀{d:List V}{v:List Value},VRelL W h U d v→VRelL W h' U' d v
 |[],_,e=>e
 |d::ds,_,e=>by
  obtain⟨y,ys,e1,e2,e3⟩:=e
  refine(?_:Exists _);exact⟨y,ys,e1,aO.keep x e2,VRelL.keep x e3⟩
theorem iE.keep{W:Wd}{U U':List Addr}{h h':Heap}(x:bA U U' h h'){a:Addr}{c:Cell}(y:∀b∈c.foot a,∀o,h.get? b=some o→h'.get? b=some o)(q:iE W h U a c):iE W h' U' a c:=by
 cases c with
 |lst l =>
  obtain⟨n,vs,e1,e2⟩:=q
  exact⟨n,vs,y a (by simp [Cell.foot]) _ e1,e2.keep x⟩
 |dct ks l =>
  obtain⟨e0,kvs,⟨o,es,ep,e1,e1'⟩,e2,e3⟩:=q
  exact⟨e0,kvs,⟨o,es,ep,y a (by simp [Cell.foot]) _ e1,e1'⟩,e2,e3.keep x⟩
 |inst c d ks l =>
  obtain⟨e1,es,n,e2,e3,e4⟩:=q
  exact⟨y a (by simp [Cell.foot]) _ e1,es,n,y d (by simp [Cell.foot]) _ e2,e3,e4.keep x⟩
theorem aT{M:Led}{p:Addr × Cell}(h:p∈M){b:Addr}(hb:b∈p.2.foot p.1):b∈foot M:=by
 induction M with
 |nil=>cases h
 |cons q r ih =>
  obtain⟨a,c⟩:=q
  simp only [foot,List.mem_append]
  rcases mCp h with rfl|h
  ·exact .inl hb
  ·exact .inr (ih h)
theorem aW(a:Addr)(c:Cell):a∈c.foot a:=by cases c <;> simp [Cell.foot]
structure Mem(W:Wd)(Y:List Addr)(M:Led)(h:Heap):Prop where
 alive:∀a∈Y++foot M,∃o,h.get? a=some o
 base:∀b o,W.h0.get? b=some o→h.get? b=some o∧b∉Y++foot M
 nodup:(foot M).Nodup
 disj:∀a∈foot M,a∉Y
 led:∀p∈M,iE W h (Y++foot M) p.1 p.2
structure Step(S T:List Addr)(s s':Shared):Prop where
 keep:∀b o,s.heap.get? b=some o→b∉S→s'.heap.get? b=some o
 rest:∃h tk,s' ={s with heap:=h,toks:=tk}
 new:∀a∈T,a∈S∨s.heap.get? a=none
theorem Step.refl(S:List Addr)(s:Shared):Step S S s s:=⟨fun _ _ e _=>e,⟨s.heap,s.toks,rfl⟩,fun _ h=>.inl h⟩
theorem Step.trans{S T R:List Addr}{s s' s'':Shared}(x:Step S T s s')(y:Step T R s' s''):Step S R s s'' where
 keep b o e n:=by
  have e':=x.keep b o e n
  refine y.keep b o e' fun hb=>?_
  rcases x.new b hb with h|h
  ·exact n h
  ·rw [e]at h;cases h
 rest:=by
  obtain⟨h,tk,rfl⟩:=x.rest
  obtain⟨h',tk',e⟩:=y.rest
  exact⟨h',tk',e⟩
 new a ha:=by
  rcases y.new a ha with h|h
  ·exact x.new a h
  ·by_cases hs:a∈S
   ·exact .inl hs
   ·right
    cases q:s.heap.get? a with
    |none=>rfl
    |some o=>rw [x.keep a o q hs]at h;cases h
theorem Step.keeps{Y S T:List Addr}{s s':Shared}(x:Step S T s s'):bA (Y++S) (Y++T) s.heap s'.heap:=fun b o e n=>by
 have nS:b∉S:=fun h=>n (mAr (.inr h))
 refine⟨x.keep b o e nS,fun h=>?_⟩
 rcases mAp h with h|h
 ·exact n (mAr (.inl h))
 ·rcases x.new b h with h|h
  ·exact nS h
  ·rw [e]at h;cases h
theorem Step.narrow{S T T':List Addr}{s s':Shared}(x:Step S T s s')(h:∀a∈T',a∈T):Step S T' s s' :=
 ⟨x.keep,x.rest,fun a ha=>x.new a (h a ha)⟩
noncomputable abbrev aJ:=V→Led→Prop
noncomputable abbrev NoE:Value→Shared→Prop:=fun _ _=>False
noncomputable abbrev Wd.M(W:Wd):Model:=model W.prog W.w
def cF(n:Nat)(A:Around):Prop:=A.handled=none∧A.depth+5*n+10≤700∧A.units+60*n+200≤9900
end
set_option genInjectivity false
section
structure Wk(W:Wd)(G:Str→Option D):Prop where
 X:W.K.In W.h0
 top:∃p loose mg mb,TopRead p loose mg mb W.h0
 sm:∃o,W.h0.get? sysModules=some o
 const:∀x d,G x=some d→∃v,nsIn W.K mainGlobals x=some (some v)∧Rep W W.h0 [] d v
theorem Mem.keep0{W:Wd}{Y:List Addr}{M:Led}{h:Heap}(m:Mem W Y M h):bA [] (Y++foot M) W.h0 h:=fun b o e _=>m.base b o e
theorem Mem.keepB{W:Wd}{Y:List Addr}{M:Led}{h:Heap}(m:Mem W Y M h):∀b o,W.h0.get? b=some o→h.get? b=some o:=fun b o e=>(m.base b o e).1
theorem Mem.size_out{W:Wd}{Y:List Addr}{M:Led}{h:Heap}(m:Mem W Y M h):h.objs.size∉Y++foot M:=fun hb =>
 let⟨_,e⟩:=m.alive _ hb
 Nat.lt_irrefl _ (Heap.lt_size e)
theorem Mem.out{W:Wd}{Y:List Addr}{M:Led}{h:Heap}(m:Mem W Y M h){a:Addr}(n:h.get? a=none):a∉Y++foot M:=fun hb =>
 let⟨_,e⟩:=m.alive _ hb
 by rw [n]at e;exact aF e
theorem Mem.next{W:Wd}{Y:List Addr}{M M':Led}{s s':Shared}(m:Mem W Y M s.heap)(t:Step (foot M) (foot M') s s')(nd:(foot M').Nodup)
  (al:∀a∈foot M',∃o,s'.heap.get? a=some o) (led:∀p∈M',iE W s'.heap (Y++foot M') p.1 p.2):Mem W Y M' s'.heap where
 alive a ha:=by
  rcases mAp ha with h|h
  ·obtain⟨o,e⟩:=m.alive a (mAr (.inl h))
   exact⟨o,t.keep a o e fun q=>m.disj a q h⟩
  ·exact al a h
 base b o e:=(t.keeps (Y:=Y)) b o (m.base b o e).1 (m.base b o e).2
 nodup:=nd
 disj a ha hY:=by
  rcases t.new a ha with h|h
  ·exact m.disj a h hY
  ·obtain⟨o,e⟩:=m.alive a (mAr (.inl hY))
   rw [h]at e;exact aF e
 led:=led
theorem Mem.same{W:Wd}{Y:List Addr}{M:Led}{s s':Shared}(m:Mem W Y M s.heap)(k:∀b o,s.heap.get? b=some o→s'.heap.get? b=some o):Mem W Y M s'.heap where
 alive a ha:=let⟨o,e⟩:=m.alive a ha;⟨o,k a o e⟩
 base b o e:=⟨k b o (m.base b o e).1,(m.base b o e).2⟩
 nodup:=m.nodup
 disj:=m.disj
 led p hp:=(m.led p hp).keep (fun b o e n=>⟨k b o e,n⟩) fun b _ o e=>k b o e
theorem Step.same{S:List Addr}{s s':Shared}(k:∀b o,s.heap.get? b=some o→s'.heap.get? b=some o)(r:∃h tk,s' ={s with heap:=h,toks:=tk}):Step S S s s' :=
 ⟨fun b o e _=>k b o e,r,fun _ h=>.inl h⟩
theorem aQ{h:Heap}(o:Obj):∀b x,h.get? b=some x→(h.push o).get? b=some x:=fun _ _ e=>Heap.get?_push_of_some o e
noncomputable abbrev Loc:=List (Str × V)
noncomputable def nl(s:Str):List Nat:=s.cps.toList
noncomputable def nc(s:Str):Nat:=(nl s).foldl (fun a c=>a*37+c) 1
noncomputable def vR:List Nat→List Nat→Bool
 |[],l=>l.isEmpty
 |a::r,l=>match l with
  |[]=>false
  |b::t=>bif a==b then vR r t else false
theorem a8:∀{a b:List Nat},vR a b=true→a=b
 |[],l,h=>by cases l with|nil=>rfl|cons=>exact aL h
 |a::r,l,h=>by
  cases l with
  |nil=>exact aL h
  |cons b t =>
   have h:(bif a==b then vR r t else false)=true:=h
   cases e:a==b with
   |false=>rw [e]at h;exact aL h
   |true=>rw [e]at h;rw [eq_of_beq e,a8 h]
theorem sH:∀a:List Nat,vR a a=true
 |[]=>rfl
 |a::r=>by show(bif a==a then vR r r else false)=true;rw [beq_self_eq_true];exact sH r
noncomputable def seq(a b:Str):Bool:=bif nc a==nc b then vR (nl a) (nl b)else false
theorem fM{a b:Str}:seq a b=true↔a=b:=by
 constructor
 ·intro h
  have h:(bif nc a==nc b then vR (nl a) (nl b)else false)=true:=h
  cases e:nc a==nc b with
  |false=>rw [e]at h;exact aL h
  |true =>
   rw [e]at h
   have h1:=a8 h
   obtain⟨⟨x⟩⟩:=a
   obtain⟨⟨y⟩⟩:=b
   (revert h1;intro(e_:_=_);subst e_)
   rfl
 ·rintro rfl
  show(bif nc a==nc a then vR (nl a) (nl a)else false)=true
  rw [beq_self_eq_true];exact sH _
theorem hO(a:Str):seq a a=true:=fM.mpr rfl
theorem iZ{a b:Str}(h:¬a=b):seq a b=false:=by
 cases e:seq a b with
 |false=>rfl
 |true=>exact absurd (fM.mp e) h
noncomputable def lk{α:Type}(x:Str):List (Str × α)→Option α
 |[]=>none
 |p::r=>bif seq p.1 x then some p.2 else lk x r
theorem dC{α:Type}{x k:Str}{v:α}{r:List (Str × α)}:lk x ((k,v)::r)=if k=x then some v else lk x r:=by
 show(bif seq k x then some v else lk x r)=_
 by_cases e:k=x
 ·rw [if_pos e,fM.mpr e];rfl
 ·rw [if_neg e,iZ e];rfl
noncomputable def bE(x:Str)(v:V):Loc→Loc
 |[]=>[(x,v)]
 |p::r=>bif seq p.1 x then(p.1,v)::r else p::bE x v r
theorem dQ{x k:Str}{u v:V}{r:Loc}:bE x v ((k,u)::r)=if k=x then(k,v)::r else(k,u)::bE x v r:=by
 show(bif seq k x then(k,v)::r else(k,u)::bE x v r)=_
 by_cases e:k=x
 ·rw [if_pos e,fM.mpr e];rfl
 ·rw [if_neg e,iZ e];rfl
theorem hW(x y:Str)(v:V):∀m:Loc,lk y (bE x v m)=if x=y then some v else lk y m
 |[]=>dC
 |(k,u)::r=>by
  rw [dQ,dC]
  by_cases h:k=x
  ·subst h;rw [if_pos rfl,dC]
   by_cases e:k=y
   ·rw [if_pos e,if_pos e]
   ·rw [if_neg e,if_neg e,if_neg e]
  ·rw [if_neg h,dC,hW x y v r]
   by_cases e:k=y
   ·rw [if_pos e,if_pos e,if_neg fun q=>h (e.trans q.symm)]
   ·rw [if_neg e,if_neg e]
structure Frm(W:Wd)(Y U:List Addr)(env:Env)(m:Loc)(h:Heap):Prop where
 kind:env.scope.kind = .function
 glo:env.globals=mainGlobals
 bui:env.builtins=builtinsNs
 lY:env.locals∈Y
 cY:∀p∈env.cells,p.2∈Y
 ns:∃mR,h.Ns env.locals mR∧∀x v,lk x m=some v→env.kindOf x=some .local→∃y,mR x=some y∧aO W h U v y
 cl:∀x v,lk x m=some v→env.kindOf x=some .cell∨env.kindOf x=some .free→∃c y,env.cells.lookup x=some c∧h.IsCell c (some y)∧aO W h U v y
 ce:∀x,env.kindOf x=some .cell→∃c y,env.cells.lookup x=some c∧h.IsCell c y
 kd:∀x v,lk x m=some v→env.kindOf x=some .local∨env.kindOf x=some .cell∨env.kindOf x=some .free
 ap:∀p∈env.cells,p.2≠env.locals
 ad:env.cells.Pairwise fun x y=>x.2≠y.2
theorem Frm.keep{W:Wd}{Y U U':List Addr}{env:Env}{m:Loc}{h h':Heap}(f:Frm W Y U env m h)(k:bA U U' h h')(y:∀a∈Y,∀o,h.get? a=some o→h'.get? a=some o):Frm W Y U' env m h' where
 kind:=f.kind
 glo:=f.glo
 bui:=f.bui
 lY:=f.lY
 cY:=f.cY
 ns:=by
  obtain⟨mR,⟨o,es,ep,e,r⟩,q⟩:=f.ns
  refine⟨mR,⟨o,es,ep,y _ f.lY o e,r⟩,fun x v a b=>?_⟩
  obtain⟨z,c,d⟩:=q x v a b
  exact⟨z,c,d.keep k⟩
 cl:=fun x v a b=>by
  obtain⟨c,z,e1,⟨o,e2,e3⟩,e4⟩:=f.cl x v a b
  exact⟨c,z,e1,⟨o,y _ (f.cY _ (mem_of_lookup e1)) o e2,e3⟩,e4.keep k⟩
 ce:=fun x a=>by
  obtain⟨c,z,e1,o,e2,e3⟩:=f.ce x a
  exact⟨c,z,e1,o,y _ (f.cY _ (mem_of_lookup e1)) o e2,e3⟩
 kd:=f.kd
 ap:=f.ap
 ad:=f.ad
theorem Mem.yKeep{W:Wd}{Y:List Addr}{M T:Led}{s s':Shared}(m:Mem W Y M s.heap)(t:Step (foot M) (foot T) s s'):∀a∈Y,∀o,s.heap.get? a=some o→s'.heap.get? a=some o :=
 fun a ha o e=>t.keep a o e fun q=>m.disj a q ha
theorem Frm.step{W:Wd}{Y:List Addr}{M M':Led}{env:Env}{m:Loc}{s s':Shared}(f:Frm W Y (Y++foot M) env m s.heap)(me:Mem W Y M s.heap)(t:Step (foot M) (foot M') s s') :
  Frm W Y (Y++foot M') env m s'.heap:=f.keep t.keeps (me.yKeep t)
noncomputable abbrev qD(β α:Type):=Heap→List Addr→β→α→Prop
inductive ResG(W:Wd){α β:Type}(R:qD β α)(Y:List Addr)(M:Led)(s:Shared)(Q:β→Led→Prop)(x:α)(s':Shared):Prop
 |mk (v:β) (M':Led) (q:Q v M') (r:R s'.heap (Y++foot M') v x) (me:Mem W Y M' s'.heap) (st:Step (foot M) (foot M') s s')
theorem ResG.step{W:Wd}{α β:Type}{R:qD β α}{Y:List Addr}{M M':Led}{s s' s'':Shared}{Q:β→Led→Prop}{x:α}(t:Step (foot M) (foot M') s s')(r:ResG W R Y M' s' Q x s''):ResG W R Y M s Q x s'' :=
 let⟨v,N,a,b,c,d⟩:=r
 ⟨v,N,a,b,c,t.trans d⟩
theorem ResG.mono{W:Wd}{α β:Type}{R:qD β α}{Y:List Addr}{M:Led}{s s':Shared}{Q Q':β→Led→Prop}{x:α}(r:ResG W R Y M s Q x s')(h:∀v N,Q v N→Q' v N):ResG W R Y M s Q' x s' :=
 let⟨v,N,a,b,c,d⟩:=r
 ⟨v,N,h _ _ a,b,c,d⟩
def Tr(W:Wd)(n:Nat)(env:Env)(m:Loc){α β:Type}(R:qD β α)(t:Sem α)(Q:β→Led→Prop)(M:Led):Prop :=
 ∀A Y s,cF n A→Mem W Y M s.heap→Frm W Y (Y++foot M) env m s.heap→wpAny W.M A t (ResG W R Y M s Q) NoE s
theorem Tr.mono{W:Wd}{n:Nat}{env:Env}{m:Loc}{α β:Type}{R:qD β α}{t:Sem α}{Q Q':β→Led→Prop}{M:Led}(h:Tr W n env m R t Q M)(k:∀v N,Q v N→Q' v N):Tr W n env m R t Q' M :=
 fun A Y s g me f=>wpAny_mono (h A Y s g me f) (fun _ _ r=>r.mono k) fun _ _ x=>x
theorem Tr.use{W:Wd}{n:Nat}{env:Env}{m:Loc}{α β:Type}{R:qD β α}{t:Sem α}{P:β→Led→Prop}{M:Led}(h:Tr W n env m R t P M){A:Around}{Y:List Addr}{s:Shared}{K:α→Shared→Prop}
  (g:cF n A) (me:Mem W Y M s.heap) (f:Frm W Y (Y++foot M) env m s.heap)
  (k:∀x s1 v M1,P v M1→R s1.heap (Y++foot M1) v x→Mem W Y M1 s1.heap→Frm W Y (Y++foot M1) env m s1.heap→Step (foot M) (foot M1) s s1→K x s1):wpAny W.M A t K NoE s :=
 wpAny_mono (h A Y s g me f) (fun x s1 hp1=>by obtain⟨v,M1,a,b,c,d⟩:=hp1;exact k x s1 v M1 a b c (f.step me d) d) fun _ _ x=>x
noncomputable abbrev TE(W:Wd)(n:Nat)(env:Env)(m:Loc)(e:Expr)(Q:aJ)(M:Led):Prop:=Tr W n env m (aO W) (eval e env) Q M
noncomputable abbrev TB(W:Wd)(n:Nat)(env:Env)(m:Loc)(e:Expr)(Q:Bool→Led→Prop)(M:Led):Prop:=Tr W n env m (fun _ _ b x=>x=b) (isTrue e env (eval e env)) Q M
noncomputable abbrev TL(W:Wd)(n:Nat)(env:Env)(m:Loc)(es:List Expr)(pos:Pos)(Q:List V→Led→Prop)(M:Led):Prop:=Tr W n env m (VRelL W) (spliced (backTo pos (starEach es env))) Q M
def Op(W:Wd)(n:Nat)(vs:List V){α β:Type}(R:qD β α)(t:List Value→Sem α)(Q:β→Led→Prop)(M:Led):Prop :=
 ∀A Y s xs,cF n A→Mem W Y M s.heap→VRelL W s.heap (Y++foot M) vs xs→wpAny W.M A (t xs) (ResG W R Y M s Q) NoE s
section
variable{W:Wd}{G:Str→Option D}{n:Nat}{env:Env}{m:Loc}{M:Led}{Q:aJ}
theorem ResG.here{α β:Type}{R:qD β α}{Y:List Addr}{s:Shared}{Q:β→Led→Prop}{x:α}{v:β}(q:Q v M)(r:R s.heap (Y++foot M) v x)(me:Mem W Y M s.heap):ResG W R Y M s Q x s :=
 ⟨v,M,q,r,me,Step.refl _ _⟩
theorem ResG.soft{α β:Type}{R:qD β α}{Y:List Addr}{s s':Shared}{Q:β→Led→Prop}{x:α}{v:β}(q:Q v M)(me:Mem W Y M s.heap)
  (k:∀b o,s.heap.get? b=some o→s'.heap.get? b=some o) (r:∃h tk,s' ={s with heap:=h,toks:=tk}) (h:R s'.heap (Y++foot M) v x):ResG W R Y M s Q x s' :=
 ⟨v,M,q,h,me.same k,Step.same k r⟩
theorem Ct{i:Int}{k pos}(q:Q (.fz (.int i)) M):TE W n env m (.Constant (.int i) k pos) Q M:=fun A Y s g me f =>
 wpAny_Constant_int (ResG.soft q me (fun _ _ e=>e) ⟨_,_,rfl⟩ ⟨_,rfl⟩)
theorem O8{k pos}(q:Q (.fz .none) M):TE W n env m (.Constant .none k pos) Q M:=fun A Y s g me f =>
 wpAny_Constant_none (ResG.here q rfl me)
theorem R7{b:Bool}{k pos}(q:Q (.fz (.bool b)) M):TE W n env m (.Constant (.bool b) k pos) Q M:=fun A Y s g me f =>
 wpAny_Constant_bool (ResG.here q rfl me)
theorem DP{x:Str}{k pos}(q:Q (.fz (.str x)) M):TE W n env m (.Constant (.str x) k pos) Q M:=fun A Y s g me f =>
 wpAny_Constant_str (ResG.soft q me (fun _ _ e=>e) ⟨_,_,rfl⟩ ⟨_,rfl⟩)
theorem vI {x:Str}{v:V}{pos}(hk:env.kindOf x=some .local) (hv:lk x m=some v) (q:Q v M) (hd:(x==("__debug__" : Str))=false):TE W n env m (.Name x pos) Q M:=fun A Y s g me f=>by
 obtain⟨mR,hn,hm⟩:=f.ns
 obtain⟨y,hy,hr⟩:=hm x v hv hk
 exact wpAny_Name (wpAny_loadName_local f.kind hk hn hy (ResG.here q hr me)) hd
theorem R4 {x:Str}{v:V}{pos}(hk:env.kindOf x=some .cell) (hv:lk x m=some v) (q:Q v M) (hd:(x==("__debug__" : Str))=false):TE W n env m (.Name x pos) Q M:=fun A Y s g me f=>by
 obtain⟨c,y,e1,e2,hr⟩:=f.cl x v hv (.inl hk)
 exact wpAny_Name (wpAny_loadName_cell f.kind hk e1 e2 (ResG.here q hr me)) hd
theorem S9 {x:Str}{v:V}{pos}(hk:env.kindOf x=some .free) (hv:lk x m=some v) (q:Q v M) (hd:(x==("__debug__" : Str))=false) (hc:(x==("__classdict__" : Str))=false):TE W n env m (.Name x pos) Q M:=fun A Y s g me f=>by
 obtain⟨c,y,e1,e2,hr⟩:=f.cl x v hv (.inr hk)
 exact wpAny_Name (wpAny_loadName_free f.kind hk e1 e2 (ResG.here q hr me) hc) hd
theorem Cx {x:Str}{v:V}{pos}(hv:lk x m=some v) (q:Q v M) (hd:(x==("__debug__" : Str))=false) (hc:(x==("__classdict__" : Str))=false):TE W n env m (.Name x pos) Q M:=fun A Y s g me f=>by
 rcases f.kd x v hv with h|h|h
 ·exact vI h hv q hd A Y s g me f
 ·exact R4 h hv q hd A Y s g me f
 ·exact S9 h hv q hd hc A Y s g me f
theorem lR(wk:Wk W G){x:Str}{v:Value}{pos:Pos}{A:Around}{Y U:List Addr}{s:Shared}{K:Value→Shared→Prop}(me:Mem W Y M s.heap)(f:Frm W Y U env m s.heap)
  (hk:env.kindOf x=some .globalImplicit) (hx:nsIn W.K mainGlobals x=some (some v)) (hd:(x==("__debug__" : Str))=false) (k:K v s):wpAny W.M A (eval (.Name x pos) env) K NoE s:=by
 obtain⟨p,loose,mg,mb,T⟩:=wk.top
 exact Calls.Name_function_global f.kind hk (Calls.loadGlobal_global (f.glo▸T.g.keeps me.keepB) (mg_of wk.X T.g hx) k) hd
theorem oN(wk:Wk W G){x:Str}{v:Value}{pos:Pos}{A:Around}{Y U:List Addr}{s:Shared}{K:Value→Shared→Prop}(me:Mem W Y M s.heap)(f:Frm W Y U env m s.heap)
  (hk:env.kindOf x=some .globalImplicit) (hx:nsIn W.K mainGlobals x=some none) (hb:bootBuiltins x=some v) (hn:x≠"__name__") (hd:(x==("__debug__" : Str))=false) (k:K v s):wpAny W.M A (eval (.Name x pos) env) K NoE s:=by
 obtain⟨p,loose,mg,mb,T⟩:=wk.top
 exact Calls.Name_function_global f.kind hk (Calls.loadGlobal_builtin (f.glo▸T.g.keeps me.keepB) (mg_none_of wk.X T.g hx) (f.bui▸T.b.keeps me.keepB) ((T.builtins x hn).trans hb) k) hd
theorem z9 (wk:Wk W G) {x:Str}{d:D}{pos}(hk:env.kindOf x=some .globalImplicit) (hx:G x=some d) (q:Q (.fz d) M) (hd:(x==("__debug__" : Str))=false):TE W n env m (.Name x pos) Q M:=fun A Y s g me f=>by
 obtain⟨v,e1,e2⟩:=wk.const x d hx
 exact lR wk me f hk e1 hd (ResG.here q (Rep.keep me.keep0 e2) me)
theorem I0 {l op r pos}(h:TE W n env m l (fun v M1=>TE W n env m r (fun u M2=>Op W n [v,u] (aO W) (fun xs=>match xs with | [x,y]=>binaryOp op x y|_=>unsupported "") Q M2) M1) M) :
  TE W n env m (.BinOp l op r pos) Q M:=fun A Y s g me f =>
 wpAny_BinOp (h.use g me f fun x s1 v M1 h1 rv me1 f1 t1=>h1.use g me1 f1 fun y s2 u M2 h2 ru me2 f2 t2 =>
  wpAny_mono (h2 A Y s2 [x,y] g me2 ⟨x,[y],rfl,rv.keep t2.keeps,y,[],rfl,ru,rfl⟩) (fun _ _ r=>(r.step t2).step t1) fun _ _ x=>x)
theorem uV {l op r pos}(h:TE W n env m l (fun v M1=>TE W n env m r (fun u M2=>Op W n [v,u] (aO W) (fun xs=>match xs with | [x,y]=>compareOp op x y|_=>unsupported "") Q M2) M1) M)
  (hm:behindInMarks op r=false):TE W n env m (.Compare l [op] [r] pos) Q M:=fun A Y s g me f =>
 wpAny_Compare1 (h.use g me f fun x s1 v M1 h1 rv me1 f1 t1=>h1.use g me1 f1 fun y s2 u M2 h2 ru me2 f2 t2 =>
  wpAny_mono (h2 A Y s2 [x,y] g me2 ⟨x,[y],rfl,rv.keep t2.keeps,y,[],rfl,ru,rfl⟩) (fun _ _ r=>(r.step t2).step t1) fun _ _ x=>x) hm
end
end
section
theorem Op.mono{W:Wd}{n:Nat}{vs:List V}{α β:Type}{R:qD β α}{t:List Value→Sem α}{Q Q':β→Led→Prop}{M:Led}(h:Op W n vs R t Q M)(k:∀v N,Q v N→Q' v N):Op W n vs R t Q' M :=
 fun A Y s xs g me r=>wpAny_mono (h A Y s xs g me r) (fun _ _ r=>r.mono k) fun _ _ x=>x
noncomputable def HZ(op:CmpOp):List Value→Sem Value:=fun xs=>match xs with | [x,y]=>compareOp op x y|_=>unsupported ""
noncomputable def JJ(op:Operator):List Value→Sem Value:=fun xs=>match xs with | [x,y]=>binaryOp op x y|_=>unsupported ""
noncomputable abbrev OpC(W:Wd)(n:Nat)(op:CmpOp)(v u:V)(Q:Bool→Led→Prop)(M:Led):Prop:=Op W n [v,u] (aO W) (HZ op) (fun r M'=>∃b,r = .fz (.bool b)∧Q b M') M
noncomputable abbrev mU(W:Wd)(n:Nat)(op:Operator)(v u:V)(Q:aJ)(M:Led):Prop:=Op W n [v,u] (aO W) (JJ op) Q M
theorem Op.use{W:Wd}{n:Nat}{vs:List V}{α β:Type}{R:qD β α}{t:List Value→Sem α}{P:β→Led→Prop}{M:Led}(h:Op W n vs R t P M){A:Around}{Y:List Addr}{s:Shared}{xs:List Value}{K:α→Shared→Prop}
  (g:cF n A) (me:Mem W Y M s.heap) (r:VRelL W s.heap (Y++foot M) vs xs)
  (k:∀x s1 v M1,P v M1→R s1.heap (Y++foot M1) v x→Mem W Y M1 s1.heap→Step (foot M) (foot M1) s s1→K x s1):wpAny W.M A (t xs) K NoE s :=
 wpAny_mono (h A Y s xs g me r) (fun x s1 hp1=>by obtain⟨v,M1,a,b,c,d⟩:=hp1;exact k x s1 v M1 a b c d) fun _ _ x=>x
theorem VRelL.two{W:Wd}{h:Heap}{U:List Addr}{v u:V}{x y:Value}(a:aO W h U v x)(b:aO W h U u y):VRelL W h U [v,u] [x,y]:=⟨x,[y],rfl,a,y,[],rfl,b,rfl⟩
theorem VRelL.one{W:Wd}{h:Heap}{U:List Addr}{v:V}{x:Value}(a:aO W h U v x):VRelL W h U [v] [x]:=⟨x,[],rfl,a,rfl⟩
theorem VRelL.cons{W:Wd}{h:Heap}{U:List Addr}{v:V}{x:Value}{vs:List V}{xs:List Value}(a:aO W h U v x)(b:VRelL W h U vs xs):VRelL W h U (v::vs) (x::xs):=⟨x,xs,rfl,a,b⟩
theorem VRelL.length{W:Wd}{h:Heap}{U:List Addr}:∀{vs:List V}{xs:List Value},VRelL W h U vs xs→xs.length=vs.length
 |[],_,e=>by obtain rfl:=e;rfl
 |v::vs,_,e=>by
  obtain⟨x,xs,rfl,_,h⟩:=e
  simp [h.length]
section
variable{W:Wd}{G:Str→Option D}{n:Nat}{env:Env}{m:Loc}{M:Led}{Q:aJ}
theorem CN{x:Expr}{pos}(h:TE W n env m x (fun v M1=>∃i,v = .fz (.int i)∧Q (.fz (.int (-i))) M1) M):TE W n env m (.UnaryOp .USub x pos) Q M:=fun A Y s g me f =>
 wpAny_UnaryOp (h.use g me f fun y s1 v M1 hq rv me1 f1 t1=>by
  obtain⟨i,e,q⟩:=hq
  subst e
  obtain⟨t,rfl⟩:=rv
  exact PyProof.Rows.neg_int (ResG.step t1 (ResG.soft q me1 (fun _ _ e=>e) ⟨_,_,rfl⟩ ⟨_,rfl⟩)))
theorem K9{test body orelse pos}(h:TB W n env m test (fun b M1=>if b then TE W n env m body Q M1 else TE W n env m orelse Q M1) M):TE W n env m (.IfExp test body orelse pos) Q M:=fun A Y s g me f =>
 wpAny_IfExp (h.use g me f fun x s1 v M1 q rv me1 f1 t1=>by
  subst rv
  cases x <;> simp only [if_true,Bool.false_eq_true,if_false]at q ⊢
  ·exact wpAny_mono (q A Y s1 g me1 f1) (fun _ _ r=>r.step t1) fun _ _ x=>x
  ·exact wpAny_mono (q A Y s1 g me1 f1) (fun _ _ r=>r.step t1) fun _ _ x=>x)
theorem Cp{e₁ e₂ rest pos}(h:TE W n env m e₁ (fun v M1=>∃b,v = .fz (.bool b)∧if b then TE W n env m (.BoolOp .And (e₂::rest) pos) Q M1 else Q (.fz (.bool false)) M1) M) :
  TE W n env m (.BoolOp .And (e₁::e₂::rest) pos) Q M:=fun A Y s g me f =>
 BoolOp_and (h.use g me f fun x s1 v M1 hp1 rv me1 f1 t1=>by
  obtain⟨b,e,q⟩:=hp1
  subst e
  (revert rv;intro(e_:_=_);subst e_)
  refine wpAny_truthy_bool ?_
  cases b <;> simp only [if_true,Bool.false_eq_true,if_false]at q ⊢
  ·exact(ResG.here q rfl me1).step t1
  ·exact wpAny_mono (q A Y s1 g me1 f1) (fun _ _ r=>r.step t1) fun _ _ x=>x)
theorem Gd{e₁ e₂ rest pos}(h:TE W n env m e₁ (fun v M1=>∃b,v = .fz (.bool b)∧if b then Q (.fz (.bool true)) M1 else TE W n env m (.BoolOp .Or (e₂::rest) pos) Q M1) M) :
  TE W n env m (.BoolOp .Or (e₁::e₂::rest) pos) Q M:=fun A Y s g me f =>
 BoolOp_or (h.use g me f fun x s1 v M1 hp1 rv me1 f1 t1=>by
  obtain⟨b,e,q⟩:=hp1
  subst e
  (revert rv;intro(e_:_=_);subst e_)
  refine wpAny_truthy_bool ?_
  cases b <;> simp only [if_true,Bool.false_eq_true,if_false]at q ⊢
  ·exact wpAny_mono (q A Y s1 g me1 f1) (fun _ _ r=>r.step t1) fun _ _ x=>x
  ·exact(ResG.here q rfl me1).step t1)
theorem A2{op e pos}(h:TE W n env m e Q M):TE W n env m (.BoolOp op [e] pos) Q M:=fun A Y s g me f=>BoolOp_one (h A Y s g me f)
theorem K4{l op₁ op₂ r₁ r₂ pos}(h:TE W n env m l (fun v M1=>TE W n env m r₁ (fun u M2=>OpC W n op₁ v u (fun b M3=>if b then TE W n env m r₂ (fun w M4=>Op W n [u,w] (aO W) (HZ op₂) Q M4) M3 else Q (.fz (.bool false)) M3) M2) M1) M)
  (hm:lastMarks [op₁,op₂] [r₁,r₂]=false):TE W n env m (.Compare l [op₁,op₂] [r₁,r₂] pos) Q M:=fun A Y s g me f =>
 Compare_chain (h.use g me f fun x s1 v M1 h1 rv me1 f1 t1=>chain_link (h1.use g me1 f1 fun y s2 u M2 h2 ru me2 f2 t2=>by
  refine Op.use h2 (xs:=[x,y]) g me2 (VRelL.two (rv.keep t2.keeps) ru) fun c s3 w M3 hp1 rc me3 t3=>?_
  obtain⟨b,e,h3⟩:=hp1
  subst e
  (revert rc;intro(e_:_=_);subst e_)
  refine wpAny_truthy_bool ?_
  have f3:=f2.step me2 t3
  cases b <;> simp only [if_true,Bool.false_eq_true,if_false]at h3 ⊢
  ·exact((ResG.here h3 rfl me3).step t3 |>.step t2).step t1
  ·refine chain_last (h3.use g me3 f3 fun z s4 w M4 h4 rw me4 f4 t4=>?_)
   exact wpAny_mono (h4 A Y s4 [y,z] g me4 (VRelL.two ((ru.keep t3.keeps).keep t4.keeps) rw)) (fun _ _ r=>((r.step t4).step t3 |>.step t2).step t1) fun _ _ x=>x)) hm
variable{QB:Bool→Led→Prop}
theorem Bu{x pos}(h:TB W n env m x (fun b M1=>QB (!b) M1) M):TB W n env m (.UnaryOp .Not x pos) QB M:=fun A Y s g me f =>
 isTrue_not (h.use g me f fun x s1 v M1 q rv me1 f1 t1=>by
  subst rv
  exact(ResG.here q rfl me1).step t1)
theorem pZ{e:Expr}(h:TE W n env m e (fun v M1=>∃b,v = .fz (.bool b)∧QB b M1) M)(he:isTrue e env (eval e env)=(do let v←eval e env;standAt e.pos;holding [v] (truthy v))):TB W n env m e QB M:=fun A Y s g me f =>
 isTrue_plain (h.use g me f fun x s1 v M1 hp1 rv me1 f1 t1=>by
  obtain⟨b,e,q⟩:=hp1
  subst e
  (revert rv;intro(e_:_=_);subst e_)
  exact wpAny_truthy_bool ((ResG.here q rfl me1).step t1)) he
theorem Cd{l op r pos}(h:TE W n env m l (fun v M1=>TE W n env m r (fun u M2=>OpC W n op v u QB M2) M1) M)(hm:behindInMarks op r=false):TB W n env m (.Compare l [op] [r] pos) QB M:=fun A Y s g me f =>
 wpAny_isTrue_Compare1 (h.use g me f fun x s1 v M1 h1 rv me1 f1 t1=>h1.use g me1 f1 fun y s2 u M2 h2 ru me2 f2 t2=>by
  refine Op.use h2 (xs:=[x,y]) g me2 (VRelL.two (rv.keep t2.keeps) ru) fun c s3 w M3 hp1 rc me3 t3=>?_
  obtain⟨b,e,q⟩:=hp1
  subst e
  (revert rc;intro(e_:_=_);subst e_)
  exact wpAny_truthy_bool (((ResG.here q rfl me3).step t3 |>.step t2).step t1)) hm
theorem H1{l op₁ op₂ r₁ r₂ pos}(h:TE W n env m l (fun v M1=>TE W n env m r₁ (fun u M2=>OpC W n op₁ v u (fun b M3=>if b then TE W n env m r₂ (fun w M4=>OpC W n op₂ u w QB M4) M3 else QB false M3) M2) M1) M)
  (hm:lastMarks [op₁,op₂] [r₁,r₂]=false):TB W n env m (.Compare l [op₁,op₂] [r₁,r₂] pos) QB M:=fun A Y s g me f =>
 isTrue_chain (h.use g me f fun x s1 v M1 h1 rv me1 f1 t1=>test_link (h1.use g me1 f1 fun y s2 u M2 h2 ru me2 f2 t2=>by
  refine Op.use h2 (xs:=[x,y]) g me2 (VRelL.two (rv.keep t2.keeps) ru) fun c s3 w M3 hp1 rc me3 t3=>?_
  obtain⟨b,e,h3⟩:=hp1
  subst e
  (revert rc;intro(e_:_=_);subst e_)
  refine wpAny_truthy_bool ?_
  have f3:=f2.step me2 t3
  cases b <;> simp only [if_true,Bool.false_eq_true,if_false]at h3 ⊢
  ·exact((ResG.here h3 rfl me3).step t3 |>.step t2).step t1
  ·refine test_last (h3.use g me3 f3 fun z s4 w M4 h4 rw me4 f4 t4=>?_)
   refine Op.use h4 (xs:=[y,z]) g me4 (VRelL.two ((ru.keep t3.keeps).keep t4.keeps) rw) fun c s5 w M5 hp1 rc me5 t5=>?_
   obtain⟨b,e,q⟩:=hp1
   subst e
   (revert rc;intro(e_:_=_);subst e_)
   exact wpAny_truthy_bool ((((ResG.here q rfl me5).step t5 |>.step t4).step t3 |>.step t2).step t1))) hm
theorem yM{pos}(q:QB true M):TB W n env m (.BoolOp .And [] pos) QB M:=fun A Y s g me f=>isTrue_and_nil (ResG.here q rfl me)
theorem n5{pos}(q:QB false M):TB W n env m (.BoolOp .Or [] pos) QB M:=fun A Y s g me f=>isTrue_or_nil (ResG.here q rfl me)
theorem AQ{x rest pos}(h:TB W n env m x (fun b M1=>if b then TB W n env m (.BoolOp .And rest pos) QB M1 else QB false M1) M):TB W n env m (.BoolOp .And (x::rest) pos) QB M:=fun A Y s g me f =>
 isTrue_and (h.use g me f fun x s1 v M1 q rv me1 f1 t1=>by
  subst rv
  cases x <;> simp only [if_true,Bool.false_eq_true,if_false]at q ⊢
  ·exact(ResG.here q rfl me1).step t1
  ·exact wpAny_mono (q A Y s1 g me1 f1) (fun _ _ r=>r.step t1) fun _ _ x=>x)
theorem Dg{x rest pos}(h:TB W n env m x (fun b M1=>if b then QB true M1 else TB W n env m (.BoolOp .Or rest pos) QB M1) M):TB W n env m (.BoolOp .Or (x::rest) pos) QB M:=fun A Y s g me f =>
 isTrue_or (h.use g me f fun x s1 v M1 q rv me1 f1 t1=>by
  subst rv
  cases x <;> simp only [if_true,Bool.false_eq_true,if_false]at q ⊢
  ·exact wpAny_mono (q A Y s1 g me1 f1) (fun _ _ r=>r.step t1) fun _ _ x=>x
  ·exact(ResG.here q rfl me1).step t1)
variable{QL:List V→Led→Prop}
theorem yT{pos}(q:QL [] M):TL W n env m [] pos QL M:=fun A Y s g me f=>args_nil (ResG.here q rfl me)
theorem nZ{e rest pos}(h:TE W n env m e (fun v M1=>TL W n env m rest pos (fun vs M2=>QL (v::vs) M2) M1) M)(he:starEach (e::rest) env=(false,eval e env)::starEach rest env):TL W n env m (e::rest) pos QL M:=fun A Y s g me f =>
 args_cons (h.use g me f fun x s1 v M1 h1 rv me1 f1 t1=>h1.use g me1 f1 fun xs s2 vs M2 q rs me2 f2 t2 =>
  (ResG.here (R:=VRelL W) (x:=x::xs) (v:=v::vs) q (VRelL.cons (rv.keep t2.keeps) rs) me2).step t2 |>.step t1) he
noncomputable def fzs:List V→Option (List D)
 |[]=>some []
 |.fz d::r=>(fzs r).map (d::·)
 |.loc _::_=>none
theorem fH{W:Wd}{h:Heap}{U:List Addr}:∀{vs:List V}{ds:List D}{xs:List Value},fzs vs=some ds→VRelL W h U vs xs→bT W h U ds xs
 |[],_,_,e,r=>by(have e_:=Option.some.inj e;clear e;subst e_);exact r
 |.fz d::vs,_,_,e,r=>by
  obtain⟨ds,e1,rfl⟩:=Option.map_eq_some_iff.mp (show(fzs vs).map (d::·)=some _ from e)
  obtain⟨x,xs,rfl,a,b⟩:=r
  exact⟨x,xs,rfl,a,fH e1 b⟩
 |.loc _::_,_,_,e,_=>by exact aF e
theorem B9{elts k pos}(h:TL W n env m elts pos (fun vs M1=>vs.length≤1000∧∃ds,fzs vs=some ds∧Q (.fz (.tup ds)) M1) M):TE W n env m (.Tuple elts k pos) Q M:=fun A Y s g me f =>
 Tuple_ (h.use g me f fun xs s1 vs M1 hp1 rs me1 f1 t1=>by
  obtain⟨hl,ds,e,q⟩:=hp1
  refine wpAny_newTuple ?_ (by have:=VRelL.length rs;rw [sizeLine_eq];exact q_9 hl this)
  refine ResG.step t1 (ResG.soft q me1 (aQ _) ⟨_,_,rfl⟩ ?_)
  exact⟨_,_,rfl,me1.size_out,⟨_,Heap.get?_push_size _ rfl⟩,(fH e rs).keep fun b o e n=>⟨aQ _ b o e,n⟩⟩)
theorem Led.new{Y:List Addr}{s:Shared}{o:Obj}(me:Mem W Y M s.heap)(hf:o.isFreed=false){c:Cell}(hc:c.foot s.heap.objs.size = [s.heap.objs.size])
  (k:∀U,bA (Y++foot M) U s.heap (s.heap.push o)→iE W (s.heap.push o) U s.heap.objs.size c) {tk:Nat} :
  Mem W Y ((s.heap.objs.size,c)::M) (s.heap.push o)∧Step (foot M) (foot ((s.heap.objs.size,c)::M)) s {s with heap:=s.heap.push o,toks:=tk}:=by
 have st:Step (foot M) (foot ((s.heap.objs.size,c)::M)) s {s with heap:=s.heap.push o,toks:=tk} :=
  ⟨fun b x e _=>aQ _ b x e,⟨_,_,rfl⟩,fun a ha=>by
   simp only [foot,hc,List.mem_append,List.mem_singleton]at ha
   rcases ha with rfl|ha
   ·right
    cases q:s.heap.get? s.heap.objs.size with
    |none=>rfl
    |some o=>exact absurd (Heap.lt_size q) (Nat.lt_irrefl _)
   ·exact .inl ha⟩
 refine⟨me.next st ?_ ?_ ?_,st⟩
 ·simp only [foot,hc,List.singleton_append,List.nodup_cons]
  exact⟨fun h=>me.size_out (mAr (.inr h)),me.nodup⟩
 ·intro a ha
  simp only [foot,hc,List.mem_append,List.mem_singleton]at ha
  rcases ha with rfl|ha
  ·exact⟨_,Heap.get?_push_size _ hf⟩
  ·obtain⟨o',e⟩:=me.alive a (mAr (.inr ha))
   exact⟨o',aQ _ _ _ e⟩
 ·intro p hp
  rcases mCp hp with rfl|hp
  ·exact k _ st.keeps
  ·exact(me.led p hp).keep st.keeps fun b _ o e=>aQ _ b o e
def bL(M:Led)(c:Cell)(Q:aJ):Prop:=∀a,a∉foot M→Q (.loc a) ((a,c)::M)
theorem P7{elts pos}(h:TL W n env m elts pos (fun vs M1=>vs.length≤1000∧bL M1 (.lst vs) Q) M):TE W n env m (.List elts pos) Q M:=fun A Y s g me f =>
 List_ (h.use g me f fun xs s1 vs M1 hp1 rs me1 f1 t1=>by
  obtain⟨hl,q⟩:=hp1
  refine wpAny_newList ?_ (by have:=VRelL.length rs;rw [sizeLine_eq];exact q_9 hl this)
  obtain⟨m2,st⟩:=Led.new (o:={cls:=.type "list",data:=.seq xs.toArray}) (c:=.lst vs) (tk:=s1.toks) me1 rfl rfl
   (fun U k=>⟨0,xs.toArray,Heap.get?_push_size _ rfl,by exact rs.keep k⟩)
  exact ResG.step t1 ⟨_,_,q s1.heap.objs.size (fun h=>me1.size_out (mAr (.inr h))),rfl,m2,st⟩)
theorem Wk.fresh(wk:Wk W G){Y:List Addr}{h:Heap}(me:Mem W Y M h):(h.objs.size==sysModules)=false:=by
 obtain⟨o,e⟩:=wk.sm
 have:=Heap.lt_size (me.keepB _ _ e)
 exact beq_false_of_ne (Nat.ne_of_gt this)
theorem B6(wk:Wk W G){pos}(q:bL M (.dct [] []) Q):TE W n env m (.Dict [] [] pos) Q M:=fun A Y s g me f=>by
 refine wpAny_Dict_empty ?_
 obtain⟨m2,st⟩:=Led.new (o:={cls:=.type "dict",data:=.dict #[]}) (c:=.dct [] []) (tk:=s.toks) me rfl rfl
  (fun U k=>⟨wk.fresh me,[],Heap.DictOf.new (knd:=intKind W.prog W.w) s.heap,rfl,rfl⟩)
 exact⟨_,_,q s.heap.objs.size (fun h=>me.size_out (mAr (.inr h))),rfl,m2,st⟩
end
end
section
theorem bT.toV{W:Wd}{h:Heap}{U:List Addr}:∀{ds:List D}{xs:List Value},bT W h U ds xs→VRelL W h U (ds.map .fz) xs
 |[],_,e=>e
 |d::ds,_,e=>by
  obtain⟨x,xs,rfl,a,b⟩:=e
  exact⟨x,xs,rfl,a,b.toV⟩
theorem VRelL.get{W:Wd}{h:Heap}{U:List Addr}:∀{vs:List V}{xs:List Value}{j:Nat}{v:V},VRelL W h U vs xs→vs[j]?=some v→∃x,xs[j]?=some x∧aO W h U v x
 |[],_,_,_,e,q=>by simp at q
 |v::vs,_,0,u,e,q=>by
  obtain⟨x,xs,rfl,a,b⟩:=e
  simp only [List.getElem?_cons_zero,Option.some.injEq]at q
  subst q
  exact⟨x,rfl,a⟩
 |v::vs,_,j+1,u,e,q=>by
  obtain⟨x,xs,rfl,a,b⟩:=e
  simp only [List.getElem?_cons_succ]at q ⊢
  exact b.get q
theorem VRelL.append{W:Wd}{h:Heap}{U:List Addr}:∀{vs us:List V}{xs ys:List Value},VRelL W h U vs xs→VRelL W h U us ys→VRelL W h U (vs++us) (xs++ys)
 |[],_,_,_,e,q=>by obtain rfl:=e;exact q
 |v::vs,_,_,_,e,q=>by
  obtain⟨x,xs,rfl,a,b⟩:=e
  exact⟨x,xs++_,rfl,a,b.append q⟩
theorem VRelL.drop{W:Wd}{h:Heap}{U:List Addr}:∀(k:Nat) {vs:List V}{xs:List Value},VRelL W h U vs xs→VRelL W h U (vs.drop k) (xs.drop k)
 |0,_,_,e=>e
 |k+1,[],_,e=>by obtain rfl:=e;rfl
 |k+1,v::vs,_,e=>by
  obtain⟨x,xs,rfl,a,b⟩:=e
  exact VRelL.drop k b
theorem VRelL.take{W:Wd}{h:Heap}{U:List Addr}:∀(k:Nat) {vs:List V}{xs:List Value},VRelL W h U vs xs→VRelL W h U (vs.take k) (xs.take k)
 |0,_,_,e=>rfl
 |k+1,[],_,e=>by obtain rfl:=e;rfl
 |k+1,v::vs,_,e=>by
  obtain⟨x,xs,rfl,a,b⟩:=e
  exact⟨x,xs.take k,rfl,a,VRelL.take k b⟩
theorem VRelL.reverse{W:Wd}{h:Heap}{U:List Addr}:∀{vs:List V}{xs:List Value},VRelL W h U vs xs→VRelL W h U vs.reverse xs.reverse
 |[],_,e=>by obtain rfl:=e;rfl
 |v::vs,_,e=>by
  obtain⟨x,xs,rfl,a,b⟩:=e
  rw [List.reverse_cons,List.reverse_cons]
  exact b.reverse.append (VRelL.one a)
theorem VRelL.set{W:Wd}{h:Heap}{U:List Addr}:∀{vs:List V}{xs:List Value}(j:Nat) {v:V}{x:Value},VRelL W h U vs xs→aO W h U v x→VRelL W h U (vs.set j v) (xs.set j x)
 |[],_,_,_,_,e,_=>by obtain rfl:=e;rfl
 |w::vs,_,0,v,y,e,q=>by
  obtain⟨x,xs,rfl,a,b⟩:=e
  exact⟨y,xs,rfl,q,b⟩
 |w::vs,_,j+1,v,y,e,q=>by
  obtain⟨x,xs,rfl,a,b⟩:=e
  exact⟨x,xs.set j y,rfl,a,b.set j q⟩
noncomputable def cV:Option Cell→Option (Bool × List V)
 |some (.lst l)=>some (false,l)
 |_=>none
theorem Bd{c:Option Cell}{b:Bool}{l:List V}(e:cV c=some (b,l)):c=some (.lst l)∧b=false:=by
 cases c with
 |none=>exact aF e
 |some c=>cases c with
  |lst l'=>cases e;exact⟨rfl,rfl⟩
  |_=>exact aF e
noncomputable def V.view(M:Led):V→Option (Bool × List V)
 |.fz (.tup l)=>some (true,l.map .fz)
 |.fz (.lst l)=>some (false,l.map .fz)
 |.loc a=>cV (M.lookup a)
 |_=>none
theorem aD{M:Led}{a:Addr}{c:Cell}(h:M.lookup a=some c):(a,c)∈M:=by
 induction M with
 |nil=>exact aF h
 |cons p r ih =>
  obtain⟨b,d⟩:=p
  rw [List.lookup_cons]at h
  cases q:a==b with
  |true=>rw [q]at h;(have e_:=Option.some.inj h;clear h;subst e_);rw [eq_of_beq q];exact .head _
  |false=>rw [q]at h;exact .tail _ (ih h)
noncomputable def vJ(b:Bool):String:=if b then "tuple" else "list"
theorem bQ{W:Wd}{Y:List Addr}{M:Led}{h:Heap}{v:V}{b:Bool}{l:List V}{x:Value}(me:Mem W Y M h)(e:v.view M=some (b,l))(r:aO W h (Y++foot M) v x) :
  ∃a vs,x = .ref a∧gW h a (vJ b) vs∧VRelL W h (Y++foot M) l vs:=by
 cases v with
 |fz d =>
  cases d with
  |tup ds =>
   cases e
   obtain⟨a,vs,e1,e2,e3,e4⟩:=r
   exact⟨a,vs,e1,e3,e4.toV⟩
  |lst ds =>
   cases e
   obtain⟨a,vs,e1,e2,e3,e4⟩:=r
   exact⟨a,vs,e1,e3,e4.toV⟩
  |_=>exact aF e
 |loc a =>
  obtain⟨hl,rfl⟩:=Bd e
  obtain⟨n,vs,e1,e2⟩:=me.led _ (aD hl)
  exact⟨a,vs.toList,r,⟨n,by simpa [vJ,PySem.W.listOf]using e1⟩,e2⟩
noncomputable def kJ(e:Expr):Bool:=!Nat.beq e.ctorIdx 26
theorem eA{slice:Expr}(h:kJ slice=true)(o i:Value):subscripted slice false o i=operate [o,i] (getItem o i):=by
 cases slice <;> first|rfl|exact aL h
noncomputable def Ih(value slice:Expr):List Value→Sem Value:=fun xs=>match xs with | [x,y]=>subscriptTail value slice x y|_=>unsupported ""
def zX(W:Wd)(n:Nat)(o i:V)(Q:aJ)(M:Led):Prop:=∀value slice,kJ slice=true→Op W n [o,i] (aO W) (Ih value slice) Q M
section
variable{W:Wd}{G:Str→Option D}{n:Nat}{env:Env}{m:Loc}{M:Led}{Q:aJ}
theorem BG{value slice pos}(hs:kJ slice=true)(h:TE W n env m value (fun o M1=>TE W n env m slice (fun i M2=>zX W n o i Q M2) M1) M):TE W n env m (.Subscript value slice pos) Q M:=fun A Y s g me f =>
 Subscript_ (h.use g me f fun x s1 v M1 h1 rv me1 f1 t1=>h1.use g me1 f1 fun y s2 u M2 h2 ru me2 f2 t2 =>
  wpAny_mono (h2 value slice hs A Y s2 [x,y] g me2 (VRelL.two (rv.keep t2.keeps) ru)) (fun _ _ r=>(r.step t2).step t1) fun _ _ x=>x)
theorem mK{o:V}{i:Int}{b:Bool}{l:List V}{j:Nat}{v:V}(hv:o.view M=some (b,l))(hlo : -(2 ^ 62)≤i)(hhi:i<2 ^ 62)(hj:seqIndex? i l.length=some j)(hx:l[j]?=some v)(q:Q v M) :
  zX W n o (.fz (.int i)) Q M:=fun value slice hs A Y s xs g me r=>by
 obtain⟨x,xs,rfl,r1,y,ys,rfl,⟨t,rfl⟩,rfl⟩:=r
 obtain⟨a,vs,rfl,e3,e4⟩:=bQ me hv r1
 obtain⟨x,ex,rx⟩:=e4.get hx
 have hl:=e4.length
 rw [←hl]at hj
 cases b with
 |true=>exact item_tupleT (l:=vs) e3.isTup (by exact HS hlo) (by exact Ei hhi) hj ex (ResG.here q rx me) (eA hs _ _)
 |false =>
  have hL:s.heap.IsList a vs.toArray:=e3.isList
  refine tail_any hL.typeIs slot_list_getitem.lookup ?_ (eA hs _ _)
  by_cases h0:0≤i
  ·by_cases h1:i<vs.length
   ·have:=seqIndex_at h0 h1
    rw [this]at hj
    (have e_:=Option.some.inj hj;clear hj;subst e_)
    exact wpAny_getItem_list hL h0 (by exact Ei hhi) (by simpa using ex) (ResG.here q rx me)
   ·rw [seqIndex_none (.inr (by exact Iv h1))]at hj;exact aF hj
  ·by_cases h1:0≤i+vs.length
   ·have:=seqIndex_back (by exact By h0) h1
    rw [this]at hj
    (have e_:=Option.some.inj hj;clear hj;subst e_)
    exact wpAny_getItem_list_neg hL (by exact By h0) (by simp only [List.size_toArray];exact Hr h1) (by exact HS hlo) (by simpa using ex) (ResG.here q rx me)
   ·rw [seqIndex_none (.inl (by exact Hy h1))]at hj;exact aF hj
end
end
section
noncomputable def pick{α:Type}(l:List α)(lo hi:Option Int):List α:=(l.drop (kms_lo lo l.length)).take (kms_hi hi l.length-kms_lo lo l.length)
theorem VRelL.pick{W:Wd}{h:Heap}{U:List Addr}{vs:List V}{xs:List Value}(r:VRelL W h U vs xs)(lo hi:Option Int):VRelL W h U (Mine.pick vs lo hi) (Mine.pick xs lo hi):=by
 unfold Mine.pick
 rw [r.length]
 exact(r.drop _).take _
def TP(W:Wd)(n:Nat)(env:Env)(m:Loc)(e:Option Expr)(Q:Option Int→Led→Prop)(M:Led):Prop:=Tr W n env m (fun _ _ a x=>IsPart x a) (evalPart e env) Q M
section
variable{prog:Program}{w:World}{A:Around}{E:Value→Shared→Prop}{s:Shared}
theorem lF{v:Value}{a:Option Int}{Q:Option Int→Shared→Prop}(hp:IsPart v a)(h:Q a s):wpAny (model prog w) A (Builtin.Slice.slicePartIndex v) Q E s:=by
 cases hp with
 |none=>exact slicePart_none h
 |int i t=>exact slicePart_int h
theorem nM{sl:Addr}{n:Nat}{vl vu:Value}{lo hi:Option Int}{Q:Int × Int × Nat→Shared→Prop}(hs:s.heap.IsSliceOf sl vl vu .none)(pl:IsPart vl lo)(pu:IsPart vu hi)
  (h:Q ((Builtin.Slice.sliceAdjust lo hi 1 (n:Int)).1,1,Builtin.Slice.slicePlaces (Builtin.Slice.sliceAdjust lo hi 1 (n:Int)).1 (Builtin.Slice.sliceAdjust lo hi 1 (n:Int)).2 1) s) :
  wpAny (model prog w) A (Builtin.Slice.sliceApplied (.ref sl) (pure (n:Int))) Q E s:=by
 obtain⟨os,hos,hcs,hds⟩:=id hs
 unfold Builtin.Slice.sliceApplied Builtin.Slice.sliceFields
 refine wpAny_bind (wpAny_bind (wpAny_field hos hds (x:=vl) rfl (wpAny_bind (wpAny_field hos hds (x:=vu) rfl (wpAny_bind (wpAny_field hos hds (x:=.none) rfl (wpAny_pure ?_)))))))
 refine wpAny_bind (slicePart_none ?_)
 show wpAny _ _ (if ((1:Int)==0)=true then _ else _) _ _ s
 rw [if_neg (by decide)]
 refine wpAny_bind (lF pl (wpAny_bind (lF pu (wpAny_bind (wpAny_pure ?_)))))
 show wpAny _ _ (match Builtin.Slice.sliceAdjust lo hi 1 (n:Int)with|(lo,hi)=>pure (lo,(1:Int),Builtin.Slice.slicePlaces lo hi 1)) _ _ s
 revert h
 cases Builtin.Slice.sliceAdjust lo hi 1 (n:Int)with
 |mk a b=>exact fun h=>wpAny_pure h
theorem jX{t sl:Addr}{items:Array Value}{vl vu:Value}{lo hi:Option Int}{a k:Nat}{Q:Value→Shared→Prop}(ht:IsTup s.heap t items)(hs:s.heap.IsSliceOf sl vl vu .none)(pl:IsPart vl lo)(pu:IsPart vu hi)
  (e1:(Builtin.Slice.sliceAdjust lo hi 1 (items.size:Int)).1=(a:Int)) (e2:Builtin.Slice.slicePlaces (Builtin.Slice.sliceAdjust lo hi 1 (items.size:Int)).1 (Builtin.Slice.sliceAdjust lo hi 1 (items.size:Int)).2 1=k)
  (hne:a≠0∨k≠items.size) (hle:a+k≤items.size)
  (h:Q (.ref s.heap.objs.size) {s with heap:=s.heap.push {cls:=.type "tuple",data:=.seq ((items.toList.drop a).take k).toArray}})
  (hsz:items.size≤sizeLine):wpAny (model prog w) A (getItem (.ref t) (.ref sl)) Q E s:=by
 have hdrop:sizeOk (.seq ((items.toList.drop a).take k).toArray):=by
  show((items.toList.drop a).take k).toArray.size≤sizeLine
  rw [List.size_toArray,List.length_take,List.length_drop,Array.length_toList]
  exact xG ‹_›
 obtain⟨os,hos,hcs,hds⟩:=id hs
 have hTs:s.TypeIs (.ref sl) "slice":=⟨os,hos,hcs⟩
 unfold getItem
 refine wpAny_holding ?_
 refine wpAny_bind (wpAny_sequenceKey ht.typeIs (by decide) ?_)
 refine wpAny_bind (wpAny_callSpecial?_slot (name:=Str.ofString "__getitem__") ht.typeIs slot_tuple_getitem
  (wpAny_call_entry slot_tuple_getitem ht.typeIs entry_tuple_getitem ?_ (args_tuple_getitem _ _)))
 show wpAny _ _ (Builtin.Tuple.tupleItemsOf (.ref t)>>=_) _ _ s
 refine wpAny_bind (tupleItemsOf_ ht ?_)
 refine wpAny_bind (wpAny_typeOf hTs ?_)
 rw [if_pos (by decide)]
 refine wpAny_bind (nM hs pl pu ?_)
 rw [e2,e1]
 have hno:¬(((a:Int)==0&&(1:Int)==1&&k==items.size)=true):=by
  simp only [Bool.and_eq_true,beq_iff_eq,not_and]
  rcases hne with q|q
  ·intro h;lia
  ·intro _;exact q
 show wpAny _ _ (if ((a:Int)==0&&(1:Int)==1&&k==items.size)=true then _ else _) _ _ s
 rw [if_neg hno]
 have e:(fun(j:Nat)=>items[((a:Int)+(j:Int)*1).toNat]?)=fun j=>items[a+j]?:=by
  funext j
  have:((a:Int)+(j:Int)*1).toNat=a+j:=by exact Ja
  rw [this]
 have pk:((List.range k).filterMap fun(j:Nat)=>items[((a:Int)+(j:Int)*1).toNat]?).toArray=((items.toList.drop a).take k).toArray:=by
  rw [e]
  have:=pick_run items a k
  rw [List.filterMap_map]at this
  have e2:((fun x=>items[x]?)∘fun x=>a+x)=fun k=>items[a+k]?:=rfl
  rw [e2]at this
  rw [this]
 rw [pk]
 first
  |exact wpAny_bind (m:=Builtin.Tuple.tupleExact _) (wpAny_newObj_type (wpAny_pure ⟨_,rfl,wpAny_pure h⟩) hdrop)
  |exact wpAny_bind (m:=Builtin.Tuple.tupleExact _) (wpAny_newObj_type (wpAny_bind (wpAny_pure (wpAny_pure ⟨_,rfl,wpAny_pure h⟩))) hdrop)
  |exact wpAny_bind (wpAny_bind (m:=Builtin.Tuple.tupleExact _) (wpAny_newObj_type (wpAny_pure (wpAny_pure ⟨_,rfl,wpAny_pure h⟩)) hdrop))
  |exact wpAny_bind (wpAny_bind (m:=Builtin.Tuple.tupleExact _) (wpAny_newObj_type (wpAny_pure ⟨_,rfl,wpAny_pure h⟩) hdrop))
end
def n7(M:Led)(o:V)(lo hi:Option Int)(Q:aJ):Prop :=
 (∃l,o.view M=some (false,l)∧l.length≤1000000∧bL M (.lst (pick l lo hi)) Q) ∨
 (∃l,o = .fz (.tup l)∧l.length≤1000000∧∃a k:Nat,(Builtin.Slice.sliceAdjust lo hi 1 (l.length:Int)).1=(a:Int)∧Builtin.Slice.slicePlaces (Builtin.Slice.sliceAdjust lo hi 1 (l.length:Int)).1 (Builtin.Slice.sliceAdjust lo hi 1 (l.length:Int)).2 1=k ∧
  (a≠0∨k≠l.length)∧a+k≤l.length∧Q (.fz (.tup ((l.drop a).take k))) M)
theorem bT.length{W:Wd}{h:Heap}{U:List Addr}:∀{ds:List D}{xs:List Value},bT W h U ds xs→xs.length=ds.length
 |[],_,e=>by obtain rfl:=e;rfl
 |d::ds,_,e=>by
  obtain⟨x,xs,rfl,_,h⟩:=e
  simp [h.length]
theorem bT.drop{W:Wd}{h:Heap}{U:List Addr}:∀(k:Nat) {vs:List D}{xs:List Value},bT W h U vs xs→bT W h U (vs.drop k) (xs.drop k)
 |0,_,_,e=>e
 |k+1,[],_,e=>by obtain rfl:=e;rfl
 |k+1,v::vs,_,e=>by
  obtain⟨x,xs,rfl,a,b⟩:=e
  exact bT.drop k b
theorem bT.take{W:Wd}{h:Heap}{U:List Addr}:∀(k:Nat) {vs:List D}{xs:List Value},bT W h U vs xs→bT W h U (vs.take k) (xs.take k)
 |0,_,_,e=>rfl
 |k+1,[],_,e=>by obtain rfl:=e;rfl
 |k+1,v::vs,_,e=>by
  obtain⟨x,xs,rfl,a,b⟩:=e
  exact⟨x,xs.take k,rfl,a,bT.take k b⟩
section
variable{W:Wd}{G:Str→Option D}{n:Nat}{env:Env}{m:Loc}{M:Led}{Q:aJ}
theorem U2{QP:Option Int→Led→Prop}(q:QP none M):TP W n env m none QP M:=fun A Y s g me f=>wpAny_evalPart_none (ResG.here q .none me)
theorem zZ{e:Expr}{QP:Option Int→Led→Prop}(h:TE W n env m e (fun v M'=>∃i,v = .fz (.int i)∧QP (some i) M') M):TP W n env m (some e) QP M:=fun A Y s g me f =>
 wpAny_evalPart_some (h.use g me f fun x s1 v M1 hq rv me1 f1 t1=>by
  obtain⟨i,e,q⟩:=hq
  subst e
  obtain⟨t,rfl⟩:=rv
  exact ResG.step t1 (ResG.here q (.int i t) me1))
theorem L3{value lo hi p pos}(h:TE W n env m value (fun o M1=>TP W n env m lo (fun a M2=>TP W n env m hi (fun b M3=>n7 M3 o a b Q) M2) M1) M) :
  TE W n env m (.Subscript value (.Slice lo hi none p) pos) Q M:=fun A Y s g me f =>
 Subscript_ (h.use g me f fun x s1 v M1 h1 rv me1 f1 t1=>wpAny_Slice (h1.use g me1 f1 fun vl s2 a M2 h2 pl me2 f2 t2=>h2.use g me2 f2 fun vu s3 b M3 h3 pu me3 f3 t3=>by
  refine wpAny_evalPart_none ?_
  have rv3:=(rv.keep t2.keeps).keep t3.keeps
  have tt:=(t1.trans t2).trans t3
  have kp:∀b o,s3.heap.get? b=some o→(s3.heap.push {cls:=.type "slice",data:=.fields #[vl,vu,.none]}).get? b=some o:=aQ _
  have me4:Mem W Y M3 (s3.heap.push {cls:=.type "slice",data:=.fields #[vl,vu,.none]}):=Mem.same (s':={s3 with heap:=s3.heap.push {cls:=.type "slice",data:=.fields #[vl,vu,.none]}}) me3 kp
  have t4:Step (foot M3) (foot M3) s3 {s3 with heap:=s3.heap.push {cls:=.type "slice",data:=.fields #[vl,vu,.none]}}:=Step.same kp ⟨_,_,rfl⟩
  have hsl:(s3.heap.push {cls:=.type "slice",data:=.fields #[vl,vu,.none]}).IsSliceOf s3.heap.objs.size vl vu .none:=⟨_,Heap.get?_push_size _ rfl,rfl,rfl⟩
  rcases h3 with⟨l,hv,hz,q⟩|⟨l,rfl,hz,k1,k2,e1,e2,hne,hle,q⟩
  ·obtain⟨r,vs,rfl,e3,e4⟩:=bQ me3 hv rv3
   have hL:(s3.heap.push {cls:=.type "slice",data:=.fields #[vl,vu,.none]}).IsList r vs.toArray:=(show s3.heap.IsList r vs.toArray from e3.isList).at fun o e=>kp _ _ e
   have hlen:=e4.length
   refine tail_any (s:={s3 with heap:=_}) hL.typeIs slot_list_getitem.lookup (wpAny_getItem_list_slice hL hsl pl pu .none (by intro h;exact aF h) ?_ (by rw [List.size_toArray,sizeLine_eq];exact q_2 hz hlen)) (by rfl)
   have e5:=e4.keep t4.keeps
   have ep:slicePick vs.toArray a b none=(Mine.pick vs a b).toArray:=kms_pick_eq _ _ _
   rw [ep]
   obtain⟨m5,st⟩:=Led.new (s:={s3 with heap:=s3.heap.push {cls:=.type "slice",data:=.fields #[vl,vu,.none]}}) (o:={cls:=.type "list",data:=.seq (Mine.pick vs a b).toArray}) (c:=.lst (Mine.pick l a b)) (tk:=s3.toks) me4 rfl rfl
    (fun U k=>⟨0,(Mine.pick vs a b).toArray,Heap.get?_push_size _ rfl,by exact(e5.keep k).pick a b⟩)
   exact ResG.step tt (ResG.step t4 ⟨_,_,q _ (fun h=>me4.size_out (mAr (.inr h))),rfl,m5,st⟩)
  ·obtain⟨r,vs,rfl,e2',e3,e4⟩:=rv3
   have hT:IsTup (s3.heap.push {cls:=.type "slice",data:=.fields #[vl,vu,.none]}) r vs.toArray:=IsTup.keeps (show IsTup s3.heap r vs.toArray from e3.isTup) kp
   have hlen:=e4.length
   have hs:vs.toArray.size=l.length:=by rw [List.size_toArray,hlen]
   refine tail_any (s:={s3 with heap:=_}) hT.typeIs slot_tuple_getitem.lookup (jX (a:=k1) (k:=k2) hT hsl pl pu (by rw [hs];exact e1) (by rw [hs];exact e2) (by rw [hs];exact hne) (by rw [hs];exact hle) ?_ (by rw [hs,sizeLine_eq];exact ar_le ‹_› (by decide))) (by rfl)
   refine ResG.step tt (ResG.step t4 (ResG.soft q me4 (aQ _) ⟨_,_,rfl⟩ ?_))
   exact⟨_,_,rfl,me4.size_out,⟨_,Heap.get?_push_size _ rfl⟩,((bT.keep t4.keeps e4).drop k1 |>.take k2).keep fun b o e n=>⟨aQ _ b o e,n⟩⟩))
theorem BW{value st p pos}(h:TE W n env m value (fun o M1=>TP W n env m (some st) (fun k M2=>k=some (-1)∧∃l,o.view M2=some (false,l)∧l.length≤1000000∧bL M2 (.lst l.reverse) Q) M1) M) :
  TE W n env m (.Subscript value (.Slice none none (some st) p) pos) Q M:=fun A Y s g me f =>
 Subscript_ (h.use g me f fun x s1 v M1 h1 rv me1 f1 t1=>wpAny_Slice (wpAny_evalPart_none (wpAny_evalPart_none (h1.use g me1 f1 fun vk s3 k M3 h3 pk me3 f3 t3=>by
  obtain⟨rfl,l,hv,hz,q⟩:=h3
  have rv3:=rv.keep t3.keeps
  have tt:=t1.trans t3
  have kp:∀b o,s3.heap.get? b=some o→(s3.heap.push {cls:=.type "slice",data:=.fields #[.none,.none,vk]}).get? b=some o:=aQ _
  have me4:Mem W Y M3 (s3.heap.push {cls:=.type "slice",data:=.fields #[.none,.none,vk]}):=Mem.same (s':={s3 with heap:=s3.heap.push {cls:=.type "slice",data:=.fields #[.none,.none,vk]}}) me3 kp
  have t4:Step (foot M3) (foot M3) s3 {s3 with heap:=s3.heap.push {cls:=.type "slice",data:=.fields #[.none,.none,vk]}}:=Step.same kp ⟨_,_,rfl⟩
  have hsl:(s3.heap.push {cls:=.type "slice",data:=.fields #[.none,.none,vk]}).IsSliceOf s3.heap.objs.size .none .none vk:=⟨_,Heap.get?_push_size _ rfl,rfl,rfl⟩
  obtain⟨r,vs,rfl,e3,e4⟩:=bQ me3 hv rv3
  have hL:(s3.heap.push {cls:=.type "slice",data:=.fields #[.none,.none,vk]}).IsList r vs.toArray:=(show s3.heap.IsList r vs.toArray from e3.isList).at fun o e=>kp _ _ e
  have hlen:=e4.length
  refine tail_any (ops:=[.ref r,.ref s3.heap.objs.size]) (s:={s3 with heap:=_}) hL.typeIs slot_list_getitem.lookup (wpAny_getItem_list_slice hL hsl .none .none pk (by intro h;cases h) ?_ (by rw [List.size_toArray,sizeLine_eq];exact q_2 hz hlen)) (by rfl)
  have e5:=e4.keep t4.keeps
  rw [krv_pick]
  obtain⟨m5,st⟩:=Led.new (s:={s3 with heap:=s3.heap.push {cls:=.type "slice",data:=.fields #[.none,.none,vk]}}) (o:={cls:=.type "list",data:=.seq vs.toArray.toList.reverse.toArray}) (c:=.lst l.reverse) (tk:=s3.toks) me4 rfl rfl
   (fun U k=>⟨0,vs.toArray.toList.reverse.toArray,Heap.get?_push_size _ rfl,by exact(e5.keep k).reverse⟩)
  exact ResG.step tt (ResG.step t4 ⟨_,_,q _ (fun h=>me4.size_out (mAr (.inr h))),rfl,m5,st⟩)))))
end
end
section
mutual
noncomputable def D.py:D→PyData
 |.none=>.none
 |.bool b=>.bool b
 |.int i=>.int i
 |.str s=>.str s
 |.tup l=>.tuple (pyL l)
 |.lst l=>.list (pyL l)
 |.dct _ _=>.none
 |.rng _ _=>.none
 |.inst _ _=>.none
 |.ty _=>.none
noncomputable def pyL:List D→List PyData
 |[]=>[]
 |d::ds=>d.py::pyL ds
end
mutual
noncomputable def D.isData:D→Bool
 |.none=>true
 |.bool _=>true
 |.int _=>true
 |.str s=>s.cps.all (· < 0x110000)
 |.tup l=>isDataL l
 |.lst l=>isDataL l
 |.dct _ _=>false
 |.rng _ _=>false
 |.inst _ _=>false
 |.ty _=>false
noncomputable def isDataL:List D→Bool
 |[]=>true
 |d::ds=>d.isData&&isDataL ds
end
mutual
noncomputable def D.deep:D→Nat
 |.tup l=>deepL l+1
 |.lst l=>deepL l+1
 |_=>0
noncomputable def deepL:List D→Nat
 |[]=>0
 |d::ds=>max d.deep (deepL ds)
end
theorem j0:∀l:List D,pyL l=l.map D.py
 |[]=>rfl
 |d::ds=>congrArg (d.py::·) (j0 ds)
mutual
theorem g0:∀d:D,d.py.depth=d.deep
 |.none=>rfl
 |.bool _=>rfl
 |.int _=>rfl
 |.str _=>rfl
 |.tup l=>congrArg (· + 1) (pI l)
 |.lst l=>congrArg (· + 1) (pI l)
 |.dct _ _=>rfl
 |.rng _ _=>rfl
 |.inst _ _=>rfl
 |.ty _=>rfl
theorem pI:∀l:List D,PyData.depthAll (pyL l)=deepL l
 |[]=>rfl
 |d::ds=>by show max d.py.depth (PyData.depthAll (pyL ds))=max d.deep (deepL ds);rw [g0 d,pI ds]
end
mutual
theorem lV:∀d:D,d.isData=true→d.py.canLay0=true
 |.none,_=>rfl
 |.bool _,_=>rfl
 |.int _,_=>rfl
 |.str _,h=>h
 |.tup l,h=>jW l h
 |.lst l,h=>jW l h
 |.dct _ _,h=>aL h
 |.rng _ _,h=>aL h
 |.inst _ _,h=>aL h
 |.ty _,h=>aL h
theorem jW:∀l:List D,isDataL l=true→PyData.canLayAll0 (pyL l)=true
 |[],_=>rfl
 |d::ds,h=>have h:=anp h;anr ⟨lV d h.1,jW ds h.2⟩
end
mutual
theorem Rep.reads{W:Wd}{h:Heap}{U:List Addr}(d:D){v:Value}(i:d.isData=true)(e:Rep W h U d v):∃as,Reads h v d.py as:=match d,i,e with
 |.none,_,e=>by subst e;exact⟨_,.none⟩
 |.bool _,_,e=>by subst e;exact⟨_,.bool _⟩
 |.int _,_,e=>by obtain⟨_,e⟩:=e;subst e;exact⟨_,.int _ _⟩
 |.str _,_,e=>by obtain⟨_,e⟩:=e;subst e;exact⟨_,.str _ _⟩
 |.tup l,i,e=>by
  obtain⟨a,vs,rfl,_,⟨n,e3⟩,e6⟩:=e
  obtain⟨as,r⟩:=bT.reads l i e6
  exact⟨_,.tuple e3 rfl rfl (by exact r)⟩
 |.lst l,i,e=>by
  obtain⟨a,vs,rfl,_,⟨n,e3⟩,e6⟩:=e
  obtain⟨as,r⟩:=bT.reads l i e6
  exact⟨_,.list e3 rfl rfl (by exact r)⟩
 |.dct _ _,i,_=>aL i
 |.rng _ _,i,_=>aL i
 |.inst _ _,i,_=>aL i
 |.ty _,i,_=>aL i
theorem bT.reads{W:Wd}{h:Heap}{U:List Addr}(ds:List D){vs:List Value}(i:isDataL ds=true)(e:bT W h U ds vs):∃as,ReadsAll h vs (pyL ds) as:=match ds,i,e with
 |[],_,e=>by subst e;exact⟨_,.nil⟩
 |d::ds,i,e=>by
  have i:=anp i
  obtain⟨x,xs,rfl,a,b⟩:=e
  obtain⟨_,r1⟩:=Rep.reads d i.1 a
  obtain⟨_,r2⟩:=bT.reads ds i.2 b
  exact⟨_,.cons r1 r2⟩
end
noncomputable def cLk:Option Cell→Option D
 |some (.lst l)=>(fzs l).map .lst
 |_=>none
theorem V8{c:Option Cell}{d:D}(e:cLk c=some d):∃l,c=some (.lst l)∧∃ds,fzs l=some ds∧d = .lst ds:=by
 cases c with
 |none=>exact aF e
 |some c=>cases c with
  |lst l'=>obtain⟨ds,e1,e2⟩:=Option.map_eq_some_iff.mp (show(fzs l').map .lst=some d from e);exact⟨l',rfl,ds,e1,e2.symm⟩
  |_=>exact aF e
noncomputable def V.look(M:Led):V→Option D
 |.fz d=>some d
 |.loc a=>cLk (M.lookup a)
theorem qG{W:Wd}{Y:List Addr}{M:Led}{h:Heap}{v:V}{d:D}{x:Value}(me:Mem W Y M h)(e:v.look M=some d)(i:d.isData=true)(r:aO W h (Y++foot M) v x):∃as,Reads h x d.py as:=by
 cases v with
 |fz d'=>(have e_:=Option.some.inj e;clear e;subst e_);exact Rep.reads _ i r
 |loc a =>
  obtain⟨l',hl,ds,e1,rfl⟩:=V8 e
  obtain⟨n,vs,e2,e3⟩:=me.led _ (aD hl)
  (revert r;intro(e_:_=_);subst e_)
  obtain⟨as,r⟩:=bT.reads ds i (fH e1 e3)
  exact⟨_,.list e2 rfl rfl (by exact r)⟩
noncomputable def D.eqv(a b:D):Bool:=PyData.eqv a.py b.py
@[simp] theorem D.eqv_int (a b:Int):D.eqv (.int a) (.int b)=(a==b):=by show PyData.eqv (.int a) (.int b)=_;simp [PyData.eqv]
section
variable{prog:Program}{w:World}{A:Around}{E:Value→Shared→Prop}{s:Shared}
theorem xQ{l b:Addr}{vs ws:List Value}{Q:Value→Shared→Prop}(hl:s.heap.IsList l vs.toArray)(hb:s.heap.IsList b ws.toArray)
  (h:Q (.ref s.heap.objs.size) {s with heap:=s.heap.push {cls:=.type "list",data:=.seq (vs++ws).toArray}}) (hsz:vs.length+ws.length≤sizeLine) :
  wpAny (model prog w) A (binaryOp .Add (.ref l) (.ref b)) Q E s:=by
 obtain⟨⟨cls,dd,data,sl⟩,ho,hc,n,hd⟩:=id hl
 obtain⟨⟨cls2,dd2,data2,sl2⟩,ho2,hc2,n2,hd2⟩:=id hb
 simp only at hc hd hc2 hd2
 subst hc hd hc2 hd2
 have e:vs.toArray++ws.toArray=(vs++ws).toArray:=by simp
 refine concat_meets ⟨_,ho,rfl⟩ ⟨_,ho2,rfl⟩ noFill_list_add seq_list_add PySem.F.slot_list_add PySem.F.entry_list_add (PySem.F.args_list_add_2 _ _) (list_addW l b vs.toArray ws.toArray n n2 dd dd2 sl sl2 (by exact hsz)) ⟨ho,ho2,?_⟩
 rw [e]
 exact h
theorem vQ{t b:Addr}{vs ws:List Value}{Q:Value→Shared→Prop}(ht:IsTup s.heap t vs.toArray)(hb:IsTup s.heap b ws.toArray)(hv:vs≠[])(hw:ws≠[])
  (h:Q (.ref s.heap.objs.size) {s with heap:=s.heap.push {cls:=.type "tuple",data:=.seq (vs++ws).toArray}}) (hsz:vs.length+ws.length≤sizeLine) :
  wpAny (model prog w) A (binaryOp .Add (.ref t) (.ref b)) Q E s:=by
 obtain⟨⟨cls,dd,data,sl⟩,ho,hc,n,hd⟩:=id ht
 obtain⟨⟨cls2,dd2,data2,sl2⟩,ho2,hc2,n2,hd2⟩:=id hb
 simp only at hc hd hc2 hd2
 subst hc hd hc2 hd2
 have e:vs.toArray++ws.toArray=(vs++ws).toArray:=by simp
 refine concat_meets ⟨_,ho,rfl⟩ ⟨_,ho2,rfl⟩ noFill_tuple_add seq_tuple_add PySem.F.slot_tuple_add PySem.F.entry_tuple_add (PySem.F.args_tuple_add_2 _ _)
  (tuple_addW2 t b vs.toArray ws.toArray n n2 dd dd2 sl sl2 (by simpa using hv) (by simpa using hw) (by rw [List.size_toArray,List.size_toArray];exact hsz)) ⟨ho,ho2,?_⟩
 rw [e]
 exact h
theorem sY{t b:Addr}{ws:List Value}{Q:Value→Shared→Prop}(ht:IsTup s.heap t (List.toArray []))(hb:IsTup s.heap b ws.toArray)(h:Q (.ref b) s) :
  wpAny (model prog w) A (binaryOp .Add (.ref t) (.ref b)) Q E s:=by
 obtain⟨⟨cls,dd,data,sl⟩,ho,hc,n,hd⟩:=id ht
 obtain⟨⟨cls2,dd2,data2,sl2⟩,ho2,hc2,n2,hd2⟩:=id hb
 simp only at hc hd hc2 hd2
 subst hc hd hc2 hd2
 exact concat_meets ⟨_,ho,rfl⟩ ⟨_,ho2,rfl⟩ noFill_tuple_add seq_tuple_add PySem.F.slot_tuple_add PySem.F.entry_tuple_add (PySem.F.args_tuple_add_2 _ _)
  (tuple_addW0 t b (List.toArray []) ws.toArray n n2 dd dd2 sl sl2 rfl) ⟨ho,ho2,h⟩
theorem rQ{t b:Addr}{vs:List Value}{Q:Value→Shared→Prop}(ht:IsTup s.heap t vs.toArray)(hb:IsTup s.heap b (List.toArray []))(hv:vs≠[])(h:Q (.ref t) s) :
  wpAny (model prog w) A (binaryOp .Add (.ref t) (.ref b)) Q E s:=by
 obtain⟨⟨cls,dd,data,sl⟩,ho,hc,n,hd⟩:=id ht
 obtain⟨⟨cls2,dd2,data2,sl2⟩,ho2,hc2,n2,hd2⟩:=id hb
 simp only at hc hd hc2 hd2
 subst hc hd hc2 hd2
 exact concat_meets ⟨_,ho,rfl⟩ ⟨_,ho2,rfl⟩ noFill_tuple_add seq_tuple_add PySem.F.slot_tuple_add PySem.F.entry_tuple_add (PySem.F.args_tuple_add_2 _ _)
  (tuple_addW1 t b vs.toArray (List.toArray []) n n2 dd dd2 sl sl2 (by simpa using hv) rfl) ⟨ho,ho2,h⟩
theorem s8{l:Addr}{v:Value}{k:Nat}{x:Int}{u:Tok}{Q:Value→Shared→Prop}(hl:s.heap.get? l=some (listOf #[v] k))(hlo:0≤x)(hhi:x<2 ^ 20)
  (h:Q (.ref s.heap.objs.size) {s with heap:=s.heap.push {cls:=.type "list",data:=.seq (List.replicate x.toNat v).toArray}}) :
  wpAny (model prog w) A (binaryOp .Mult (.ref l) (.int x u)) Q E s:=by
 have hl':s.heap.get? l=some {cls:=.type "list",dict:=none,data:=.seq #[v] k,slots:=#[]}:=hl
 refine wpAny_binaryOp_repeat_ref (T:="list") (U:="int") (by decide) ⟨_,hl',rfl⟩ (fun s'=>typeIs_int s' x u) noFill_list_mul PySem.F.fills_int_mul PySem.F.slot_int_rmul repeat_list PySem.F.slot_int_index.lookup
  (call_meets PySem.F.slot_int_rmul (typeIs_int s x u) PySem.F.entry_int_rmul (PySem.F.args_int_rmul_2 _ _) (int___rmul___int_list x u l #[v] k)
   ⟨hl',rfl,⟨_,hl',rfl⟩,call_meets PySem.F.slot_list_mul ⟨_,hl',rfl⟩ PySem.F.entry_list_mul (PySem.F.args_list_mul_2 _ _)
    (AutoListH.list___mul___list_int_3 l #[v] k x u (by simp [Builtin.List.listFitsIndex];exact Im hlo hhi) (by simp;exact JA hhi) (by simp [Builtin.List.listTooLong,sizeLine];exact IA hhi))
    ⟨hl',?_⟩⟩)
 have e:List.foldl (fun x1 x2:Array Value=>x1++x2) #[] (List.replicate (if (#[v]:Array Value).isEmpty=true then 0 else x.toNat) #[v])=(List.replicate x.toNat v).toArray:=by
  have:(#[v]:Array Value).isEmpty=false:=rfl
  rw [this]
  simp only [Bool.false_eq_true,if_false]
  have aux:∀(n:Nat) (a:Array Value),List.foldl (fun x1 x2:Array Value=>x1++x2) a (List.replicate n #[v])=a++(List.replicate n v).toArray:=by
   intro n
   induction n with
   |zero=>intro a;simp
   |succ n ih=>intro a;rw [List.replicate_succ,List.foldl_cons,ih];apply Array.toList_inj.mp;simp [List.replicate_succ]
  rw [aux];simp
 rw [e]
 exact h
end
def asI(v:V)(K:Int→Prop):Prop:=match v with
 |.fz d=>match d with
  |.int i=>K i
  |_=>False
 |.loc _=>False
def asS(v:V)(K:Str→Prop):Prop:=match v with
 |.fz d=>match d with
  |.str i=>K i
  |_=>False
 |.loc _=>False
def asT(v:V)(K:List D→Prop):Prop:=match v with
 |.fz d=>match d with
  |.tup i=>K i
  |_=>False
 |.loc _=>False
theorem bJ{v:V}{K:Int→Prop}(h:asI v K):∃i,v = .fz (.int i)∧K i:=by
 cases v with
 |loc=>exact h.elim
 |fz d=>cases d <;> first|exact h.elim|exact⟨_,rfl,h⟩
theorem S7{v:V}{K:Str→Prop}(h:asS v K):∃i,v = .fz (.str i)∧K i:=by
 cases v with
 |loc=>exact h.elim
 |fz d=>cases d <;> first|exact h.elim|exact⟨_,rfl,h⟩
theorem zD{v:V}{K:List D→Prop}(h:asT v K):∃i,v = .fz (.tup i)∧K i:=by
 cases v with
 |loc=>exact h.elim
 |fz d=>cases d <;> first|exact h.elim|exact⟨_,rfl,h⟩
def T9(v u:V)(Q:aJ)(M:Led):Prop:=∃l r,v.view M=some (false,l)∧u.view M=some (false,r)∧l.length+r.length≤1000000∧bL M (.lst (l++r)) Q
def HT(v u:V)(Q:aJ)(M:Led):Prop:=match v with
 |.fz d=>match d with
  |.int a=>asI u fun b=>Q (.fz (.int (a+b))) M
  |.str x=>asS u fun y=>x.length+y.length≤1000∧Q (.fz (.str (x++y))) M
  |.tup l=>asT u fun r=>l.length+r.length≤1000000∧Q (.fz (.tup (l++r))) M
  |.lst l=>T9 (.fz (.lst l)) u Q M
  |_=>False
 |.loc a=>T9 (.loc a) u Q M
def Gl(v u:V)(Q:aJ)(M:Led):Prop:=match v with
 |.fz d=>match d with
  |.int a=>asI u fun b=>IntMulOk a b∧Q (.fz (.int (a*b))) M
  |_=>False
 |.loc a=>asI u fun k=>∃v,M.lookup a=some (.lst [v])∧0≤k∧k<2 ^ 20∧bL M (.lst (List.replicate k.toNat v)) Q
def FR(op:Operator)(v u:V)(Q:aJ)(M:Led):Prop:=match op with
 |.Add=>HT v u Q M
 |.Sub=>asI v fun a=>asI u fun b=>Q (.fz (.int (a-b))) M
 |.Mult=>Gl v u Q M
 |.FloorDiv=>asI v fun a=>asI u fun b=>bif decide (0<b)&&decide (b<1073741824)then Q (.fz (.int (a/b))) M else False
 |.Mod=>asI v fun a=>asI u fun b=>bif decide (0<b)then Q (.fz (.int (a%b))) M else False
 |.Pow=>asI v fun a=>asI u fun b=>0≤b∧b≤1000000∧a.natAbs<2 ^ 64∧Q (.fz (.int (a ^ b.toNat))) M
 |_=>False
section
variable{W:Wd}{n:Nat}{M:Led}{Q:aJ}
theorem VRelL.two_inv{W:Wd}{h:Heap}{U:List Addr}{v u:V}{xs:List Value}(r:VRelL W h U [v,u] xs):∃x y,xs = [x,y]∧aO W h U v x∧aO W h U u y:=by
 obtain⟨x,xs,rfl,r1,y,ys,rfl,r2,r3⟩:=r
 (revert r3;intro(e_:_=_);subst e_)
 exact⟨x,y,rfl,r1,r2⟩
theorem Dk{Y:List Addr}{s:Shared}{vs:List V}{xs:List Value}(me:Mem W Y M s.heap)(r:VRelL W s.heap (Y++foot M) vs xs)(q:bL M (.lst vs) Q){tk:Nat} :
  ResG W (aO W) Y M s Q (.ref s.heap.objs.size) {s with heap:=s.heap.push {cls:=.type "list",data:=.seq xs.toArray},toks:=tk}:=by
 obtain⟨m2,st⟩:=Led.new (o:={cls:=.type "list",data:=.seq xs.toArray}) (c:=.lst vs) (tk:=tk) me rfl rfl
  (fun U k=>⟨0,xs.toArray,Heap.get?_push_size _ rfl,by exact r.keep k⟩)
 exact⟨_,_,q s.heap.objs.size (fun h=>me.size_out (mAr (.inr h))),rfl,m2,st⟩
theorem HD{Y:List Addr}{s:Shared}{ds:List D}{xs:List Value}(me:Mem W Y M s.heap)(r:bT W s.heap (Y++foot M) ds xs)(q:Q (.fz (.tup ds)) M){tk:Nat} :
  ResG W (aO W) Y M s Q (.ref s.heap.objs.size) {s with heap:=s.heap.push {cls:=.type "tuple",data:=.seq xs.toArray},toks:=tk} :=
 ResG.soft q me (aQ _) ⟨_,_,rfl⟩ ⟨_,_,rfl,me.size_out,⟨_,Heap.get?_push_size _ rfl⟩,r.keep fun b o e n=>⟨aQ _ b o e,n⟩⟩
theorem gA{Y:List Addr}{s:Shared}{i:Int}{t:Tok}{tk:Nat}(me:Mem W Y M s.heap)(q:Q (.fz (.int i)) M):ResG W (aO W) Y M s Q (.int i t) {s with toks:=tk}:=ResG.soft q me (fun _ _ e=>e) ⟨_,_,rfl⟩ ⟨_,rfl⟩
theorem jG{op:Operator}{v u:V}{K:Int→Int→Prop}(h:asI v fun a=>asI u fun b=>K a b)
  (go:∀{A:Around}{Y:List Addr}{s:Shared}(a b:Int) (t t':Tok),Mem W Y M s.heap→K a b→wpAny W.M A (binaryOp op (.int a t) (.int b t')) (ResG W (aO W) Y M s Q) NoE s):mU W n op v u Q M:=fun A Y s xs _ me r=>by
 obtain⟨x,y,rfl,r1,r2⟩:=r.two_inv
 obtain⟨a,rfl,h1⟩:=bJ h
 obtain⟨b,rfl,h2⟩:=bJ h1
 obtain⟨t,rfl⟩:=r1
 obtain⟨t',rfl⟩:=r2
 exact go a b t t' me h2
theorem Bw{v u:V}(h:asI v fun a=>asI u fun b=>bif decide (0<b)&&decide (b<1073741824)then Q (.fz (.int (a/b))) M else False):mU W n .FloorDiv v u Q M :=
 jG h fun a b t t' me h=>by
  obtain⟨hc,h⟩:(decide (0<b)&&decide (b<1073741824))=true∧Q (.fz (.int (a/b))) M:=by
   cases hc:(decide (0<b)&&decide (b<1073741824))with
   |false=>rw [hc]at h;exact h.elim
   |true=>rw [hc]at h;exact⟨rfl,h⟩
  have hc:=anp hc
  have h1:=of_decide_eq_true hc.1
  have h2:=of_decide_eq_true hc.2
  refine PyProof.Rows.floordiv_int (Int.ne_of_gt h1) ?_ (.inl (PyProof.noPylong_small (by lia)))
  rw [Int.fdiv_eq_ediv_of_nonneg _ (Int.le_of_lt h1)]
  exact gA me h
theorem V7{v u:V}(h:asI v fun a=>asI u fun b=>bif decide (0<b)then Q (.fz (.int (a%b))) M else False):mU W n .Mod v u Q M :=
 jG h fun a b t t' me h=>by
  obtain⟨hc,h⟩:decide (0<b)=true∧Q (.fz (.int (a%b))) M:=by
   cases hc:decide (0<b)with
   |false=>rw [hc]at h;exact h.elim
   |true=>rw [hc]at h;exact⟨rfl,h⟩
  have h1:=of_decide_eq_true hc
  refine PyProof.Rows.mod_int' (Int.ne_of_gt h1) ?_
  rw [Int.fmod_eq_emod_of_nonneg _ (Int.le_of_lt h1)]
  exact gA me h
theorem z7{h:Heap}{U:List Addr}{z:V}{x:Value}(e:aO W h U z x)(k:Nat):VRelL W h U (List.replicate k z) (List.replicate k x):=by
 induction k with
 |zero=>rfl
 |succ k ih=>rw [List.replicate_succ,List.replicate_succ];exact VRelL.cons e ih
theorem R9{v u:V}(h:Gl v u Q M):mU W n .Mult v u Q M:=by
 cases v with
 |fz d =>
  cases d with
  |int a=>exact jG (K:=fun a b=>IntMulOk a b∧Q (.fz (.int (a*b))) M) h fun a b t t' me h=>PyProof.Rows.mul_int (gA me h.2) h.1
  |_=>exact h.elim
 |loc a =>
  obtain⟨k,rfl,z,h1,h2,h3,h4⟩:=bJ h
  clear h
  intro A Y s xs g me r
  obtain⟨x,y,rfl,r1,t',rfl⟩:=r.two_inv
  (revert r1;intro(e_:_=_);subst e_)
  obtain⟨n,vs,e1,x,xs,e3,e4,e5⟩:=me.led _ (aD h1)
  (revert e5;intro(e_:_=_);subst e_)
  obtain rfl:vs = #[x]:=Array.toList_inj.mp e3
  exact s8 e1 h2 h3 (Dk (tk:=s.toks) me (z7 e4 _) h4)
theorem B3{h:Heap}{U:List Addr}{ds es:List D}{xs ys:List Value}(a:bT W h U ds xs)(b:bT W h U es ys):bT W h U (ds++es) (xs++ys):=by
 induction ds generalizing xs with
 |nil=>(revert a;intro(e_:_=_);subst e_);exact b
 |cons d ds ih=>obtain⟨x,xs,rfl,p,q⟩:=a;exact⟨x,xs++ys,rfl,p,ih q⟩
theorem E2{v u:V}(h:T9 v u Q M):mU W n .Add v u Q M:=fun A Y s xs _ me r=>by
 obtain⟨x,y,rfl,r1,r2⟩:=r.two_inv
 obtain⟨l,r,h1,h2,h3,h4⟩:=h
 obtain⟨a,vs,rfl,e1,e2⟩:=bQ me h1 r1
 obtain⟨b,ws,rfl,e3,e4⟩:=bQ me h2 r2
 exact xQ e1.isList e3.isList (Dk (tk:=s.toks) me (e2.append e4) h4) (by rw [sizeLine_eq,e2.length,e4.length];exact ar_le ‹_› (by decide))
theorem S1{l r:List D}(h:l.length+r.length≤1000000∧Q (.fz (.tup (l++r))) M):mU W n .Add (.fz (.tup l)) (.fz (.tup r)) Q M:=fun A Y s xs _ me rr=>by
 obtain⟨x,y,rfl,r1,r2⟩:=rr.two_inv
 have rx:=r1
 have ry:=r2
 obtain⟨a,vs,rfl,_,e1,e2⟩:=r1
 obtain⟨b,ws,rfl,_,e3,e4⟩:=r2
 have l1:=e2.length
 have l2:=e4.length
 cases vs with
 |nil =>
  obtain rfl:=List.length_eq_zero_iff.mp l1.symm
  exact sY e1.isTup e3.isTup (ResG.here h.2 ry me)
 |cons v vs =>
 cases ws with
 |nil =>
  obtain rfl:=List.length_eq_zero_iff.mp l2.symm
  rw [List.append_nil]at h
  exact rQ e1.isTup e3.isTup (List.cons_ne_nil _ _) (ResG.here h.2 rx me)
 |cons w ws=>exact vQ e1.isTup e3.isTup (List.cons_ne_nil _ _) (List.cons_ne_nil _ _) (HD (s:=s) (tk:=s.toks) me (B3 e2 e4) h.2) (by rw [sizeLine_eq];lia)
theorem O3{v u:V}(h:HT v u Q M):mU W n .Add v u Q M:=by
 cases v with
 |loc a=>exact E2 h
 |fz d =>
  cases d with
  |lst l=>exact E2 h
  |int a=>exact jG (K:=fun a b=>Q (.fz (.int (a+b))) M) h fun a b t t' me h=>PyProof.Rows.add_int (gA me h)
  |str a =>
   obtain⟨b,rfl,h⟩:=S7 h
   intro A Y s xs _ me r
   obtain⟨x,y,rfl,⟨t,rfl⟩,t',rfl⟩:=r.two_inv
   exact PyProof.Rows.add_str (fun t' tk=>ResG.soft h.2 me (fun _ _ e=>e) ⟨_,_,rfl⟩ ⟨_,rfl⟩) (by rw [sizeLine_eq];lia)
  |tup l =>
   obtain⟨b,rfl,h⟩:=zD h
   exact S1 h
  |_=>exact h.elim
theorem O2{op:Operator}{v u:V}(h:FR op v u Q M):mU W n op v u Q M:=by
 cases op with
 |Sub=>exact jG h fun a b t t' me h=>PyProof.Rows.sub_int (gA me h)
 |FloorDiv=>exact Bw h
 |Mod=>exact V7 h
 |Pow=>exact jG h fun a b t t' me h=>pow_int_small h.1 h.2.1 h.2.2.1 (gA me h.2.2.2)
 |Mult=>exact R9 h
 |Add=>exact O3 h
 |_=>exact h.elim
noncomputable def dX:List V→Option (List Int)
 |[]=>some []
 |.fz (.int i)::r=>(dX r).map (i::·)
 |_=>none
theorem wO{v:V}{vs:List V}{ns:List Int}(e:dX (v::vs)=some ns):∃i,v = .fz (.int i)∧∃ds,dX vs=some ds∧ns=i::ds:=by
 cases v with
 |loc a=>exact aF e
 |fz d=>cases d with
  |int i=>obtain⟨ds,e1,e2⟩:=Option.map_eq_some_iff.mp (show(dX vs).map (i::·)=some ns from e);exact⟨i,rfl,ds,e1,e2.symm⟩
  |_=>exact aF e
theorem fK{W:Wd}{h:Heap}{U:List Addr}:∀{vs:List V}{ns:List Int}{xs:List Value},dX vs=some ns→VRelL W h U vs xs→IntsAre xs ns
 |[],_,_,e,r=>by(have e_:=Option.some.inj e;clear e;subst e_);(revert r;intro(e_:_=_);subst e_);exact .nil
 |v::vs,_,_,e,r=>by
  obtain⟨i,rfl,ds,e1,rfl⟩:=wO e
  obtain⟨x,xs,rfl,⟨t,rfl⟩,b⟩:=r
  exact .cons i t (fK e1 b)
theorem rS{h:Heap}{xs:List Value}{ns:List Int}(i:IntsAre xs ns):ReadsAll h xs (ns.map .int) []:=by
 induction i with
 |nil=>exact .nil
 |cons n t _ ih=>exact .cons (as:=[]) (.int n t) ih
def Ae(i:Int)(u:V)(Q:Bool→Led→Prop)(M:Led):Prop:=(∃a ks l,u = .loc a∧M.lookup a=some (.dct ks l)∧Q (decide (i∈ks)) M)∨(∃b l ns,u.view M=some (b,l)∧dX l=some ns∧Q (decide (i∈ns)) M)
def JZ(i:Int)(u:D)(Q:Bool→Led→Prop)(M:Led):Prop :=
 match u with
 |.dct ks _=>Q (decide (i∈ks)) M
 |u=>Ae i (.fz u) Q M
def wIn(v u:V)(Q:Bool→Led→Prop)(M:Led):Prop:=asI v fun i=>match u with
 |.fz d=>JZ i d Q M
 |.loc a=>Ae i (.loc a) Q M
def Ht(d:D)(Q:Bool→Led→Prop)(M:Led):Prop :=
 match d with
 |.none=>Q true M
 |_=>Q false M
def wIs(v:V)(Q:Bool→Led→Prop)(M:Led):Prop :=
 match v with
 |.fz d=>Ht d Q M
 |.loc _=>Q false M
def oG(v:V)(K:Prop):Prop:=match v with
 |.fz d=>(match d with
  |.none=>K
  |_=>False)
 |.loc _=>False
def xO(v u:V)(Q:Bool→Led→Prop)(M:Led):Prop:=∃d e,v.look M=some d∧u.look M=some e∧d.isData=true∧e.isData=true∧d.deep≤60∧e.deep≤60∧Q (D.eqv d e) M
def IL(a:Int)(u:V)(Q:Bool→Led→Prop)(M:Led):Prop :=
 match u with
 |.fz e=>(match e with
  |.int b=>Q (a==b) M
  |e=>xO (.fz (.int a)) (.fz e) Q M)
 |.loc x=>xO (.fz (.int a)) (.loc x) Q M
def wEq(v u:V)(Q:Bool→Led→Prop)(M:Led):Prop :=
 match v with
 |.fz d=>(match d with
  |.int a=>IL a u Q M
  |d=>xO (.fz d) u Q M)
 |.loc x=>xO (.loc x) u Q M
def Q5(op:CmpOp)(v u:V)(Q:Bool→Led→Prop)(M:Led):Prop :=
 match op with
 |.Lt=>asI v fun a=>asI u fun b=>Q (decide (a<b)) M
 |.LtE=>asI v fun a=>asI u fun b=>Q (decide (a≤b)) M
 |.Gt=>asI v fun a=>asI u fun b=>Q (decide (b<a)) M
 |.GtE=>asI v fun a=>asI u fun b=>Q (decide (b≤a)) M
 |.Is=>oG u (wIs v Q M)
 |.IsNot=>oG u (wIs v (fun b=>Q (!b)) M)
 |.Eq=>wEq v u Q M
 |.NotEq=>wEq v u (fun b=>Q (!b)) M
 |.In=>wIn v u Q M
 |.NotIn=>wIn v u (fun b=>Q (!b)) M
variable{QB:Bool→Led→Prop}
theorem iG{v:V}{K:Prop}(h:oG v K):v = .fz .none∧K:=by
 cases v with
 |loc a=>exact h.elim
 |fz d=>cases d <;> first|exact⟨rfl,h⟩|exact h.elim
theorem qW{v:V}{x:Value}{h:Heap}{U:List Addr}(r:aO W h U v x)(q:wIs v QB M):QB (x==.none) M:=by
 cases v with
 |loc a=>(revert r;intro(e_:_=_);subst e_);exact q
 |fz d =>
  cases d with
  |none=>(revert r;intro(e_:_=_);subst e_);exact q
  |bool=>(revert r;intro(e_:_=_);subst e_);exact q
  |ty=>(revert r;intro(e_:_=_);subst e_);exact q
  |int=>obtain⟨t,rfl⟩:=r;exact q
  |str=>obtain⟨t,rfl⟩:=r;exact q
  |tup=>obtain⟨a,_,rfl,_⟩:=r;exact q
  |lst=>obtain⟨a,_,rfl,_⟩:=r;exact q
  |dct=>obtain⟨a,_,rfl,_⟩:=r;exact q
  |rng=>obtain⟨a,_,_,_,rfl,_⟩:=r;exact q
  |inst=>obtain⟨a,_,_,_,rfl,_⟩:=r;exact q
theorem shaped_of{d:D}(h:d.isData=true)(k:d.deep≤60)   : PySem.SeqAt.shaped d.py=true:=by
 unfold PySem.SeqAt.shaped
 rw [lV d h,g0,Bool.true_and]
 exact decide_eq_true (by exact ar_le ‹_› (by decide))
theorem wEq_inv{v u:V}(q:wEq v u QB M):(∃a b,v = .fz (.int a)∧u = .fz (.int b)∧QB (a==b) M)∨xO v u QB M:=by
 cases v with
 |loc a=>exact .inr q
 |fz d =>
  cases d with
  |int a =>
   cases u with
   |loc b=>exact .inr q
   |fz e=>cases e <;> first|exact .inl ⟨_,_,rfl,rfl,q⟩|exact .inr q
  |_=>exact .inr q
theorem d6{A:Around}{Y:List Addr}{s:Shared}{v u:V}{x y:Value}{P:Value→Shared→Prop}(ne:Bool)(g:cF n A)(me:Mem W Y M s.heap)(r1:aO W s.heap (Y++foot M) v x)(r2:aO W s.heap (Y++foot M) u y)
  (q:wEq v u QB M) (k:∀b,QB b M→P (.bool (if ne then !b else b)) s):wpAny W.M A (compareOp (if ne then .NotEq else .Eq) x y) P NoE s:=by
 rcases wEq_inv q with⟨a,b,rfl,rfl,q⟩|⟨d,e,h1,h2,h3,h4,h5,h6,q⟩
 ·obtain⟨t,rfl⟩:=r1;obtain⟨t',rfl⟩:=r2
  cases ne with
  |false=>exact PyProof.Rows.eq_int (k _ q)
  |true=>exact PyProof.Rows.ne_int (k _ q)
 ·obtain⟨as,a1⟩:=qG me h1 h3 r1
  obtain⟨bs,b1⟩:=qG me h2 h4 r2
  cases ne with
  |false=>exact eq_dataH a1 b1 (shaped_of h3 h5) (shaped_of h4 h6) (by have:=g.2.2;unfold cLine;exact Eg this) (k _ q)
  |true=>exact ne_dataH a1 b1 (shaped_of h3 h5) (shaped_of h4 h6) (by have:=g.2.2;unfold cLine;exact Eg this) (k _ q)
noncomputable def dGet{α:Type}(i:Int):List Int→List α→Option α
 |k::ks,v::l=>if k=i then some v else dGet i ks l
 |_,_=>none
theorem eD{α:Type}{i k:Int}{ks:List Int}{v:α}{l:List α}:dGet i (k::ks) (v::l)=if k=i then some v else dGet i ks l:=rfl
noncomputable def cDv:Option Cell→Option (List Int × List V)
 |some (.dct ks l)=>some (ks,l)
 |_=>none
theorem S8{c:Option Cell}{ks:List Int}{l:List V}(e:cDv c=some (ks,l)):c=some (.dct ks l):=by
 cases c with
 |none=>exact aF e
 |some c=>cases c with
  |dct ks' l'=>cases e;rfl
  |_=>exact aF e
noncomputable def V.dview(M:Led):V→Option (List Int × List V)
 |.fz (.dct ks l)=>some (ks,l.map .fz)
 |.loc a=>cDv (M.lookup a)
 |_=>none
theorem eU{W:Wd}{Y:List Addr}{M:Led}{h:Heap}{v:V}{ks:List Int}{l:List V}{x:Value}(me:Mem W Y M h)(e:v.dview M=some (ks,l))(r:aO W h (Y++foot M) v x) :
  ∃a kvs,x = .ref a∧(a==sysModules)=false∧h.DictOf (intKind W.prog W.w) a kvs∧kvs.map (·.1)=ks∧VRelL W h (Y++foot M) l (kvs.map (·.2)):=by
 cases v with
 |fz d =>
  cases d with
  |dct ks' ds =>
   cases e
   obtain⟨a,kvs,e1,e2,e3,e4,e5,e6⟩:=r
   exact⟨a,kvs,e1,e3,e4,e5,e6.toV⟩
  |_=>exact aF e
 |loc a =>
  obtain⟨e0,kvs,e1,e2,e3⟩:=me.led _ (aD (S8 e))
  exact⟨a,kvs,r,e0,e1,e2,e3⟩
theorem fP(ns:List Int):PyData.canLayAll0 (ns.map .int)=true:=by
 induction ns with
 |nil=>rfl
 |cons n ns ih=>simp only [List.map_cons,PyData.canLayAll0,PyData.canLay0,ih,Bool.and_self]
theorem tU(ns:List Int)(i:Int):((ns.map PyData.int).any fun y=>PyData.eqv y (.int i))=decide (i∈ns):=by
 induction ns with
 |nil=>rfl
 |cons n ns ih =>
  simp only [List.map_cons,List.any_cons,ih,PyData.eqv]
  by_cases h:n=i
  ·subst h;simp
  ·have:¬i=n:=fun e=>h e.symm
   simp [h,this]
theorem mG{p:Program}{w:World}(i:Int)(t:Tok):(intKind p w).is i (.int i t)=true:=by simp [intKind,Value.isInt]
theorem kO{kvs:List (Int × Value)}{k i:Int}{x:Value}:valueAt ((k,x)::kvs) i=if k=i then some x else valueAt kvs i:=by
 show Option.map _ (match decide (k=i)with|true=>some (k,x)|false=>List.find? _ kvs)=_
 by_cases c:k=i
 ·rw [if_pos c,decide_eq_true c];rfl
 ·rw [if_neg c,decide_eq_false c];rfl
theorem vP{kvs:List (Int × Value)}{i:Int}:(valueAt kvs i).isSome=decide (i∈kvs.map (·.1)):=by
 induction kvs with
 |nil=>rfl
 |cons p r ih =>
  obtain⟨k,v⟩:=p
  rw [kO]
  by_cases h:k=i
  ·rw [if_pos h];exact(decide_eq_true (h▸.head _)).symm
  ·rw [if_neg h,ih];exact decide_eq_decide.mpr ⟨.tail _,fun q=>(mCp q).resolve_left fun e=>h e.symm⟩
theorem S6{v u:V}(q:wIn v u QB M):∃i,v = .fz (.int i)∧((∃ks l,u.dview M=some (ks,l)∧QB (decide (i∈ks)) M)∨(∃b l ns,u.view M=some (b,l)∧dX l=some ns∧QB (decide (i∈ns)) M)):=by
 obtain⟨i,e,q1⟩:=bJ q
 refine⟨i,e,?_⟩
 clear q
 have D:Ae i u QB M→((∃ks l,u.dview M=some (ks,l)∧QB (decide (i∈ks)) M)∨(∃b l ns,u.view M=some (b,l)∧dX l=some ns∧QB (decide (i∈ns)) M)):=by
  rintro(⟨a,ks,l,rfl,h1,q⟩|q)
  ·exact .inl ⟨ks,l,congrArg cDv h1,q⟩
  ·exact .inr q
 cases u with
 |loc a=>exact D q1
 |fz d=>cases d <;> first|exact .inl ⟨_,_,rfl,q1⟩|exact D q1
theorem E5{A:Around}{Y:List Addr}{s:Shared}{v u:V}{x y:Value}{P:Value→Shared→Prop}(no:Bool)(g:cF n A)(me:Mem W Y M s.heap)(r1:aO W s.heap (Y++foot M) v x)(r2:aO W s.heap (Y++foot M) u y)
  (q:wIn v u QB M) (k:∀b tk,QB b M→P (.bool (if no then !b else b)) {s with toks:=tk}):wpAny W.M A (compareOp (if no then .NotIn else .In) x y) P NoE s:=by
 obtain⟨i,e,q1⟩:=S6 q
 clear q
 subst e
 obtain⟨t,rfl⟩:=r1
 rcases q1 with⟨ks,l,h1,q⟩|⟨b,l,ns,h1,h2,q⟩
 ·obtain⟨a,kvs,rfl,hs,hd,rfl,_⟩:=eU me h1 r2
  have hv:QB (valueAt kvs i).isSome M:=by rw [vP];exact q
  cases no with
  |false=>exact wpAny_in_of (knd:=intKind W.prog W.w) (mG _ _) hs hd.mapOf (k _ _ hv)
  |true=>exact wpAny_notIn_of (knd:=intKind W.prog W.w) (mG _ _) hs hd.mapOf (k _ _ hv)
 ·obtain⟨a,vs,rfl,⟨n',e1⟩,e4⟩:=bQ me h1 r2
  have ra:=rS (h:=s.heap) (fK h2 e4)
  have hu:A.units+1+min (PyData.depthAll (ns.map .int)) (PyData.depth (.int i))<cLine:=by
   have:=g.2.2
   simp only [PyData.depth,Nat.min_zero]
   unfold cLine
   exact IB this
  rw [←tU]at q
  cases no with
  |false =>
   cases b with
   |true=>exact PySem.SeqAt.in_tuple_reads (.tuple e1 rfl rfl (by exact ra)) (.int _ _) (fP _) rfl hu (k _ s.toks q)
   |false=>exact PySem.SeqAt.in_list_reads (.list e1 rfl rfl (by exact ra)) (.int _ _) (fP _) rfl hu (k _ s.toks q)
  |true =>
   cases b with
   |true=>exact PySem.SeqAt.notIn_tuple_reads (.tuple e1 rfl rfl (by exact ra)) (.int _ _) (fP _) rfl hu (k _ s.toks q)
   |false=>exact PySem.SeqAt.notIn_list_reads (.list e1 rfl rfl (by exact ra)) (.int _ _) (fP _) rfl hu (k _ s.toks q)
theorem kZ{op:CmpOp}{v u:V}(h:Q5 op v u QB M):OpC W n op v u QB M:=fun A Y s xs g me r=>by
 obtain⟨x,y,rfl,r1,r2⟩:=r.two_inv
 show wpAny W.M A (compareOp op x y) _ _ s
 have fin:∀(b:Bool) (tk:Nat),QB b M→ResG W (aO W) Y M s (fun r M'=>∃b,r = .fz (.bool b)∧QB b M') (.bool b) {s with toks:=tk}:=fun b tk q=>ResG.soft (v:=.fz (.bool b)) ⟨b,rfl,q⟩ me (fun _ _ e=>e) ⟨_,_,rfl⟩ rfl
 have nums:∀{K:Int→Int→Prop},(asI v fun a=>asI u fun b=>K a b)→∃a b t t',x = .int a t∧y = .int b t'∧K a b:=by
  intro K h0
  obtain⟨a,e1,h1⟩:=bJ h0
  obtain⟨b,e2,hk⟩:=bJ h1
  clear h0 h1
  subst e1 e2
  obtain⟨t,rfl⟩:=r1
  obtain⟨t',rfl⟩:=r2
  exact⟨a,b,t,t',rfl,rfl,hk⟩
 cases op with
 |Lt=>obtain⟨a,b,t,t',rfl,rfl,h⟩:=nums h;exact PyProof.Rows.lt_int (fin _ _ h)
 |LtE=>obtain⟨a,b,t,t',rfl,rfl,h⟩:=nums h;exact PyProof.Rows.le_int (fin _ _ h)
 |Gt=>obtain⟨a,b,t,t',rfl,rfl,h⟩:=nums h;exact PyProof.Rows.gt_int (fin _ _ h)
 |GtE=>obtain⟨a,b,t,t',rfl,rfl,h⟩:=nums h;exact PyProof.Rows.ge_int (fin _ _ h)
 |Is=>obtain⟨rfl,h⟩:=iG h;(revert r2;intro(e_:_=_);subst e_);exact is_none (fin _ _ (qW r1 h))
 |IsNot=>obtain⟨rfl,h⟩:=iG h;(revert r2;intro(e_:_=_);subst e_);exact isNot_none (fin _ _ (qW (QB:=fun b=>QB (!b)) r1 h))
 |Eq=>exact d6 false g me r1 r2 h fun b q=>fin b _ q
 |NotEq=>exact d6 true g me r1 r2 h fun b q=>fin (!b) _ q
 |In=>exact E5 false g me r1 r2 h fun b tk q=>fin b tk q
 |NotIn=>exact E5 true g me r1 r2 h fun b tk q=>fin (!b) tk q
end
end
section
noncomputable def fG{α:Type}(x:Str):List Str→List α→Option α
 |[],_=>none
 |k::ks,l=>match l with
  |[]=>none
  |v::l=>bif seq k x then some v else fG x ks l
noncomputable def kPut{α:Type}(x:Str)(v:α):List Str→List α→List Str × List α
 |[],_=>([x],[v])
 |k::ks,l=>match l with
  |[]=>([x],[v])
  |u::l=>bif seq k x then(k::ks,v::l)else(k::(kPut x v ks l).1,u::(kPut x v ks l).2)
theorem eE{α:Type}{x k:Str}{ks:List Str}{v:α}{l:List α}:fG x (k::ks) (v::l)=if k=x then some v else fG x ks l:=by
 show(bif seq k x then some v else fG x ks l)=_
 by_cases e:k=x
 ·rw [if_pos e,fM.mpr e];rfl
 ·rw [if_neg e,iZ e];rfl
theorem j3{α:Type}{x k:Str}{ks:List Str}{u v:α}{l:List α}:kPut x v (k::ks) (u::l)=if k=x then(k::ks,v::l)else(k::(kPut x v ks l).1,u::(kPut x v ks l).2):=by
 show(bif seq k x then(k::ks,v::l)else(k::(kPut x v ks l).1,u::(kPut x v ks l).2))=_
 by_cases e:k=x
 ·rw [if_pos e,fM.mpr e];rfl
 ·rw [if_neg e,iZ e];rfl
noncomputable def lU(x:Str):List Str→Bool
 |[]=>false
 |k::r=>bif seq k x then true else lU x r
theorem qF{x:Str}:∀{l:List Str},lU x l=true→x∈l
 |[],h=>by exact aL h
 |k::r,h=>by
  have h:(bif seq k x then true else lU x r)=true:=h
  cases e:seq k x with
  |true=>rw [fM.mp e];exact .head _
  |false=>rw [e]at h;exact .tail _ (qF h)
theorem pV{x:Str}:∀{l:List Str},lU x l=false→x∉l
 |[],_=>nofun
 |k::r,h=>by
  have h:(bif seq k x then true else lU x r)=false:=h
  cases e:seq k x with
  |true=>rw [e]at h;exact dP h
  |false =>
   rw [e]at h
   intro hm
   rcases mCp hm with q|q
   ·rw [q,hO]at e;exact dP e
   ·exact pV h q
theorem sE{k x:Str}{t:Tok}:(Value.str k t).isStr x=(k==x):=rfl
theorem jI{P:Params}{x:Str}:∀(ks:List Str) {es:List DictEntry},KeysS P ks es→getL x es=some (fG x ks (es.map (·.val))):=by
 intro ks
 induction ks with
 |nil =>
  intro es h
  cases es with
  |nil=>rfl
  |cons e es=>exact h.elim
 |cons k ks ih =>
  intro es h
  cases es with
  |nil=>exact h.elim
  |cons e es =>
   obtain⟨⟨t,h1,h2⟩,h3⟩:=h
   have ih:=ih h3
   unfold getL at ih ⊢
   rw [List.find?_cons,h1,sE,List.map_cons,eE]
   by_cases c:k=x
   ·subst c;simp
   ·have:(k==x)=false:=beq_false_of_ne c
    simp only [this,if_neg c]
    have r:(e::es).any (·.refKey)=es.any (·.refKey):=by
     rw [List.any_cons]
     unfold DictEntry.refKey
     rw [h1];rfl
    rw [r]
    exact ih
theorem xB{W:Wd}{h:Heap}{U:List Addr}{x:Str}:∀(ks:List Str) {l:List V}{xs:List Value},VRelL W h U l xs→(∀v,fG x ks l=some v→∃y,fG x ks xs=some y∧aO W h U v y)∧(fG x ks l=none→fG x ks xs=none):=by
 intro ks
 induction ks with
 |nil=>intro l xs _;exact⟨fun v e=>(by exact aF e),fun _=>rfl⟩
 |cons k ks ih =>
  intro l xs e
  cases l with
  |nil=>(revert e;intro(e_:_=_);subst e_);exact⟨fun v e=>(by exact aF e),fun _=>rfl⟩
  |cons u l =>
   obtain⟨y,ys,rfl,a,b⟩:=e
   have ih:=ih b
   rw [eE,eE]
   by_cases c:k=x
   ·simp only [c,if_true,Option.some.injEq];exact⟨fun v e=>⟨y,rfl,e▸a⟩,fun h=>nomatch h⟩
   ·simp only [c,if_false];exact ih
theorem L7{P:Params}:∀{ks:List Str}{es:List DictEntry},KeysS P ks es→es.length=ks.length:=by
 intro ks
 induction ks with
 |nil=>intro es h;cases es with|nil=>rfl|cons=>exact h.elim
 |cons k ks ih=>intro es h;cases es with|nil=>exact h.elim|cons e es=>simp [ih h.2]
theorem y0{W:Wd}{h:Heap}{U:List Addr}{x:Str}{v:V}{y:Value}{P:Params}{tk:Tok}(r:aO W h U v y):∀(ks:List Str) {es:List DictEntry}{l:List V},KeysS P ks es→VRelL W h U l (es.map (·.val)) →
  KeysS P (kPut x v ks l).1 (putL x (PyData.keyHash P x) (.str x tk) y es)∧VRelL W h U (kPut x v ks l).2 ((putL x (PyData.keyHash P x) (.str x tk) y es).map (·.val))∧(putL x (PyData.keyHash P x) (.str x tk) y es).length≤ks.length+1:=by
 intro ks
 induction ks with
 |nil =>
  intro es l h e
  cases es with
  |nil=>exact⟨⟨⟨tk,rfl,rfl⟩,trivial⟩,VRelL.one r,by simp [putL]⟩
  |cons=>exact h.elim
 |cons k ks ih =>
  intro es l h q
  cases es with
  |nil=>exact h.elim
  |cons e es =>
   cases l with
   |nil=>exact bV q
   |cons u l =>
    obtain⟨⟨t,h1,h2⟩,h3⟩:=h
    obtain⟨z,zs,e1,a,b⟩:=q
    simp only [List.map_cons,List.cons.injEq]at e1
    obtain⟨rfl,rfl⟩:=e1
    rw [j3]
    unfold putL
    rw [h1,sE]
    by_cases c:k=x
    ·subst c
     simp only [beq_self_eq_true,if_true]
     exact⟨⟨⟨t,rfl,h2⟩,h3⟩,VRelL.cons r b,by simp [L7 h3]⟩
    ·have:(k==x)=false:=beq_false_of_ne c
     rw [this]
     simp only [c,if_false,Bool.false_eq_true]
     obtain⟨i1,i2,i3⟩:=ih h3 b
     exact⟨⟨⟨t,h1,h2⟩,i1⟩,VRelL.cons a i2,by exact Nat.succ_le_succ i3⟩
noncomputable def put:Led→Addr→Cell→Led
 |[],_,_=>[]
 |(b,d)::r,a,c=>if a=b then(b,c)::r else(b,d)::put r a c
theorem lookup_cons{M:Led}{a b:Addr}{c:Cell}:((b,c)::M:Led).lookup a=if a=b then some c else M.lookup a:=by
 rw [List.lookup_cons]
 by_cases h:a=b
 ·subst h;simp
 ·have:(a==b)=false:=beq_false_of_ne h
  rw [this,if_neg h]
theorem vK{a b:Addr}{c d:Cell}{r:Led}:put ((b,d)::r) a c=if a=b then(b,c)::r else(b,d)::put r a c:=rfl
theorem cK:∀{M:Led}{a:Addr}{c c':Cell},M.lookup a=some c→c'.foot a=c.foot a→foot (put M a c')=foot M
 |[],_,_,_,h,_=>by exact aF h
 |(b,d)::r,a,c,c',h,e=>by
  rw [lookup_cons]at h
  rw [vK]
  by_cases q:a=b
  ·subst q
   rw [if_pos rfl]at h ⊢
   (have e_:=Option.some.inj h;clear h;subst e_)
   exact congrArg (·++foot r) e
  ·rw [if_neg q]at h ⊢
   exact congrArg (d.foot b++·) (cK h e)
theorem foot_apart:∀{M:Led}{a:Addr}{c c':Cell}{p:Addr × Cell},(foot M).Nodup→M.lookup a=some c→p∈put M a c'→p=(a,c')∨(p∈M∧∀x∈p.2.foot p.1,x∉c.foot a)
 |[],_,_,_,_,_,h,_=>by exact aF h
 |(b,d)::r,a,c,c',p,nd,h,e=>by
  rw [lookup_cons]at h
  rw [vK]at e
  obtain⟨n1,n2,n3⟩:=List.nodup_append.mp nd
  by_cases q:a=b
  ·subst q
   rw [if_pos rfl]at h e
   (have e_:=Option.some.inj h;clear h;subst e_)
   rcases mCp e with rfl|e
   ·exact .inl rfl
   ·exact .inr ⟨.tail _ e,fun x hx hc=>n3 x hc x (aT e hx) rfl⟩
  ·rw [if_neg q]at h e
   rcases mCp e with rfl|e
   ·exact .inr ⟨.head _,fun x hx hc=>n3 x hx x (aT (aD h) hc) rfl⟩
   ·rcases foot_apart n2 h e with z|⟨z1,z2⟩
    ·exact .inl z
    ·exact .inr ⟨.tail _ z1,z2⟩
theorem Mem.put{W:Wd}{Y:List Addr}{M:Led}{s s':Shared}{a:Addr}{c c':Cell}(me:Mem W Y M s.heap)(hl:M.lookup a=some c)(hf:c'.foot a=c.foot a)
  (k:∀b o,s.heap.get? b=some o→b∉c.foot a→s'.heap.get? b=some o) (al:∀b∈c.foot a,∃o,s'.heap.get? b=some o) (rest:∃h tk,s' ={s with heap:=h,toks:=tk})
  (q:iE W s'.heap (Y++foot M) a c'):Mem W Y (Mine.put M a c') s'.heap∧Step (foot M) (foot (Mine.put M a c')) s s':=by
 have sub:∀b∈c.foot a,b∈foot M:=fun b hb=>aT (aD hl) hb
 have ef:=cK hl hf
 have st:Step (foot M) (foot (Mine.put M a c')) s s':=by
  rw [ef]
  exact⟨fun b o e n=>k b o e fun h=>n (sub b h),rest,fun _ h=>.inl h⟩
 refine⟨me.next st (by rw [ef];exact me.nodup) ?_ ?_,st⟩
 ·intro b hb
  rw [ef]at hb
  by_cases hc:b∈c.foot a
  ·exact al b hc
  ·obtain⟨o,e⟩:=me.alive b (mAr (.inr hb))
   exact⟨o,k b o e hc⟩
 ·intro p hp
  rw [ef]
  rcases foot_apart me.nodup hl hp with rfl|⟨h1,h2⟩
  ·exact q
  ·refine(me.led p h1).keep (fun b o e n=>⟨k b o e fun h=>n (mAr (.inr (sub b h))),n⟩) fun b hb o e=>k b o e (h2 b hb)
noncomputable def kindOf:Cn→Option Int
 |.Char=>some 0
 |.Ligature=>some 1
 |.Kern=>some 5
 |.Skip=>some 6
 |.Penalty=>some 7
 |.Disc=>some 8
 |.MathEdge=>some 12
 |_=>none
structure ClsK(W:Wd):Prop where
 hasD:∀c,hasDictIn W.K (W.ca c)=true
 gat:∀c,findIn W.K (.ref (W.ca c)) "__getattribute__" = some (some (.builtin "object.__getattribute__"))
 sat:∀c,findIn W.K (.ref (W.ca c)) "__setattr__" = some (some (.builtin "object.__setattr__"))
 over:∀c,plainOver W.K (W.ca c)=true
 fld:∀c,∀x∈fields c,findIn W.K (.ref (W.ca c)) x=some none∧takerIn W.K (W.ca c) x=some none
 knd:∀c i,kindOf c=some i→∃t,findIn W.K (.ref (W.ca c)) "kind" = some (some (.int i t))∧specialIn W.K (.int i t) "__get__" = some none
noncomputable def jD(e:Expr):Bool:=!Nat.beq e.ctorIdx 16
inductive SK{α:Type}(o:Option α)(K:α→Prop):Prop
 |mk (a:α) (h:o=some a) (k:K a)
def cB{α:Type}(r:Option α)(K:α→Prop):Prop :=
 match r with
 |some a=>K a
 |none=>False
def Er(c:Cn)(x:Str)(Q:aJ)(M:Led):Prop:=bif seq "kind" x then cB (kindOf c) fun i=>Q (.fz (.int i)) M else False
def uE(c:Cn)(x:Str)(Q:aJ)(M:Led)(r:Option D):Prop :=
 match r with
 |some d=>Q (.fz d) M
 |none=>Er c x Q M
def yQ(d:D)(x:Str)(Q:aJ)(M:Led):Prop :=
 match d with
 |.inst c l=>uE c x Q M (fG x (fields c) l)
 |_=>False
inductive atC(M:Led)(a:Addr)(K:Cell→Prop):Prop
 |mk (c:Cell) (h:M.lookup a=some c) (k:K c)
def F9(c:Cell)(x:Str)(Q:aJ)(M:Led):Prop :=
 match c with
 |.inst c _ ks l=>bif lU x (fields c)then cB (fG x ks l) fun v=>Q v M else False
 |_=>False
def qQ(v:V)(x:Str)(Q:aJ)(M:Led):Prop :=
 match v with
 |.fz d=>yQ d x Q M
 |.loc a=>atC M a fun c=>F9 c x Q M
noncomputable def few{α:Type}:Nat→List α→Bool
 |_,[]=>true
 |n,_::l=>match n with
  |0=>false
  |n+1=>few n l
theorem few_le{α:Type}:∀{n:Nat}{l:List α},few n l=true→l.length≤n
 |_,[],_=>Nat.zero_le _
 |0,_::l,h=>by exact aL h
 |n+1,_::l,h=>Nat.succ_le_succ (few_le (n:=n) (l:=l) h)
theorem aZ{b:Bool}{P:Prop}(h:bif b then P else False):b=true∧P:=by
 cases b with
 |true=>exact⟨rfl,h⟩
 |false=>exact h.elim
theorem bB{α:Type}{r:Option α}{K:α→Prop}(h:cB r K):∃a,r=some a∧K a:=by
 cases r with
 |some a=>exact⟨a,rfl,h⟩
 |none=>exact h.elim
theorem qR{a:Addr}{x:Str}{Q:aJ}{M:Led}(h:atC M a fun c=>F9 c x Q M):∃c d ks l v,M.lookup a=some (.inst c d ks l)∧x∈fields c∧fG x ks l=some v∧Q v M:=by
 obtain⟨c,e,h⟩:=h
 cases c <;> first|exact h.elim|skip
 obtain⟨h1,h2⟩:=aZ h
 obtain⟨v,h3,h4⟩:=bB h2
 exact⟨_,_,_,_,v,e,qF h1,h3,h4⟩
section
variable{W:Wd}{G:Str→Option D}{n:Nat}{env:Env}{m:Loc}{M:Led}{Q:aJ}
theorem kGet_mem{α:Type}{x:Str}:∀(ks:List Str) {l:List α}{v:α},fG x ks l=some v→x∈ks:=by
 intro ks
 induction ks with
 |nil=>intro l v e;exact aF e
 |cons k ks ih =>
  intro l v e
  cases l with
  |nil=>exact aF e
  |cons u l =>
   rw [eE]at e
   by_cases c:k=x
   ·exact c▸.head _
   ·rw [if_neg c]at e;exact .tail _ (ih e)
theorem J0{α β:Type}(f:α→β){x:Str}:∀(ks:List Str) (l:List α),fG x ks (l.map f)=(fG x ks l).map f:=by
 intro ks
 induction ks with
 |nil=>intro l;rfl
 |cons k ks ih =>
  intro l
  cases l with
  |nil=>rfl
  |cons d l =>
   rw [List.map_cons,eE,eE]
   split
   ·rfl
   ·exact ih _
theorem N4{M:Led}{a d:Addr}{c:Cn}{ks:List Str}{l:List V}(nd:(foot M).Nodup)(hp:(a,Cell.inst c d ks l)∈M):d≠a:=by
 intro e
 induction M with
 |nil=>cases hp
 |cons p M ih =>
  obtain⟨b,e'⟩:=p
  simp only [foot,List.nodup_append]at nd
  rcases mCp hp with z|z
  ·cases z
   simp [Cell.foot,e]at nd
  ·exact ih nd.2.1 z
theorem rB{h:Heap}{U:List Addr}{v:V}{z:Value}(r:aO W h U v z):handedIn z=true:=by
 cases v with
 |loc a=>(revert r;intro(e_:_=_);subst e_);rfl
 |fz d =>
  cases d with
  |none=>(revert r;intro(e_:_=_);subst e_);rfl
  |bool=>(revert r;intro(e_:_=_);subst e_);rfl
  |ty=>(revert r;intro(e_:_=_);subst e_);rfl
  |int=>obtain⟨t,rfl⟩:=r;rfl
  |str=>obtain⟨t,rfl⟩:=r;rfl
  |tup=>obtain⟨a,_,rfl,_⟩:=r;rfl
  |lst=>obtain⟨a,_,rfl,_⟩:=r;rfl
  |dct=>obtain⟨a,_,rfl,_⟩:=r;rfl
  |rng=>obtain⟨a,_,_,_,rfl,_⟩:=r;rfl
  |inst=>obtain⟨a,_,_,_,rfl,_⟩:=r;rfl
theorem uZ(ck:ClsK W){x:Str}{expr:Bool}{A:Around}{s:Shared}{R:Value→Shared→Prop}{c:Cn}{a d:Addr}{es:List DictEntry}{k:Nat}{ks:List Str}{z:Value}(X:W.K.In s.heap)(h1:s.heap.get? a=some (instObj (W.ca c) d))(h2:s.heap.get? d=some (dictOf es k))(h3:KeysS W.w.params ks es)(h4:x∈fields c)(h5:fG x ks (es.map (·.val))=some z)
  (h6:∀t,R z {s with toks:=t}) (h7:handedIn z=true):wpAny W.M A (getAttr (.ref a) x expr) R NoE s:=by
 refine get_value (ox:=instObj (W.ca c) d) (od:=some (dictOf es k)) X ⟨h1,rfl,rfl,h2⟩ (ck.gat c) (findObj_own (ck.hasD c) (ck.fld c x h4).1 rfl ?_) h7 (h6 _)
 rw [lookIn_dict,jI _ h3,h5]
theorem j4(wk:Wk W G)(ck:ClsK W){c:Cn}{l:List D}{x:Str}{y:Value}{expr:Bool}{A:Around}{Y:List Addr}{s:Shared}(me:Mem W Y M s.heap)(r:aO W s.heap (Y++foot M) (.fz (.inst c l)) y)(q:uE c x Q M (fG x (fields c) l)) :
  wpAny W.M A (getAttr y x expr) (ResG W (aO W) Y M s Q) NoE s:=by
 have X:W.K.In s.heap:=wk.X.keeps me.keepB
 obtain⟨a,d,es,k,rfl,_,_,h1,h2,h3,h4⟩:=r
 have h5:=xB (x:=x) (fields c) h4.toV
 rw [J0]at h5
 cases hd:fG x (fields c) l with
 |some dd =>
  rw [hd]at q h5
  obtain⟨z,hz,rz⟩:=h5.1 (.fz dd) rfl
  exact uZ ck X h1 h2 h3 (kGet_mem _ hd) hz (fun t=>ResG.soft q me (fun _ _ e=>e) ⟨_,_,rfl⟩ rz) (rB rz)
 |none =>
  rw [hd]at q h5
  obtain⟨hx,q1⟩:=aZ (show bif _ then _ else False from q)
  obtain⟨i,hk,q2⟩:=bB q1
  clear q q1
  have hx:=fM.mp hx
  subst hx
  obtain⟨t,f1,f2⟩:=ck.knd c i hk
  refine get_value (ox:=instObj (W.ca c) d) (od:=some (dictOf es k)) X ⟨h1,rfl,rfl,h2⟩ (ck.gat c) (findObj_cls (ck.hasD c) f1 f2 rfl (by decide +kernel) ?_) rfl (ResG.soft q2 me (fun _ _ e=>e) ⟨_,_,rfl⟩ ⟨_,rfl⟩)
  rw [lookIn_dict,jI _ h3,h5.2 rfl]
theorem qE(wk:Wk W G)(ck:ClsK W){v:V}{x:Str}{y:Value}{expr:Bool}{A:Around}{Y:List Addr}{s:Shared}(me:Mem W Y M s.heap)(r:aO W s.heap (Y++foot M) v y)(q:qQ v x Q M) :
  wpAny W.M A (getAttr y x expr) (ResG W (aO W) Y M s Q) NoE s:=by
 cases v with
 |fz d =>
  cases d with
  |inst c l=>exact j4 wk ck me r q
  |_=>exact q.elim
 |loc a =>
  (revert r;intro(e_:_=_);subst e_)
  obtain⟨c,d,ks,l,v,hl,hx,hv,q⟩:=qR q
  obtain⟨h1,es,k,h2,h3,h4⟩:=me.led _ (aD hl)
  obtain⟨z,hz,rz⟩:=(xB (x:=x) _ h4).1 v hv
  exact uZ ck (wk.X.keeps me.keepB) h1 h2 h3 hx hz (fun t=>ResG.soft q me (fun _ _ e=>e) ⟨_,_,rfl⟩ rz) (rB rz)
theorem U6(wk:Wk W G)(ck:ClsK W){value:Expr}{x:Str}{pos}(hp:jD value=true)(h:TE W n env m value (fun v M1=>qQ v x Q M1) M):TE W n env m (.Attribute value x pos) Q M:=fun A Y s g me f =>
 Attribute_any_ (h.use g me f fun y s1 v M1 q rv me1 f1 t1=>wpAny_mono (qE wk ck me1 rv q) (fun _ _ r=>r.step t1) fun _ _ x=>x) (by cases value <;> first|rfl|exact aL hp)
inductive putTo(M:Led)(a:Addr)(c:Cell)(QU:Led→Prop):Prop
 |mk (M':Led) (h:put M a c=M') (k:QU M')
theorem eS{M:Led}{a:Addr}{c:Cell}{QU:Led→Prop}(h:putTo M a c QU):QU (put M a c):=let⟨_,e,q⟩:=h;e▸q
def EV{α β:Type}(p:α × β)(K:α→β→Prop):Prop:=match p with
 |(a,b)=>K a b
def X7(c:Cell)(a:Addr)(x:Str)(u:V)(QU:Led→Prop)(M:Led):Prop :=
 match c with
 |.inst c d ks l=>bif lU x (fields c)then(bif few 100 ks then EV (kPut x u ks l) fun ks' l'=>putTo M a (.inst c d ks' l') QU else False)else False
 |_=>False
def z8(v:V)(x:Str)(u:V)(QU:Led→Prop)(M:Led):Prop :=
 match v with
 |.loc a=>atC M a fun c=>X7 c a x u QU M
 |.fz _=>False
theorem r8{a:Addr}{x:Str}{u:V}{QU:Led→Prop}{M:Led}(h:atC M a fun c=>X7 c a x u QU M):∃c d ks l,M.lookup a=some (.inst c d ks l)∧x∈fields c∧ks.length≤100∧QU (put M a (.inst c d (kPut x u ks l).1 (kPut x u ks l).2)):=by
 obtain⟨c,e,h⟩:=h
 cases c <;> first|exact h.elim|skip
 obtain⟨h1,h2⟩:=aZ h
 obtain⟨h3,h4⟩:=aZ h2
 exact⟨_,_,_,_,e,qF h1,few_le h3,eS (show putTo _ _ _ _ from h4)⟩
inductive ResU(W:Wd)(Y:List Addr)(M:Led)(s:Shared)(Q:Led→Prop)(s':Shared):Prop
 |mk (M':Led) (q:Q M') (me:Mem W Y M' s'.heap) (st:Step (foot M) (foot M') s s')
set_option tactic.hygienic true in
theorem T7{p:Params}{ks:List Str}{es:List DictEntry}{x:Str}(h3:KeysS p ks es):(!es.toArray.any (·.key.isStr x)&&es.toArray.any (·.refKey))=false:=by
 have:=jI (x:=x) _ h3
 unfold getL at this
 rw [List.any_toArray,List.any_toArray]
 split at this
 ·rename_i en he
  rw [List.any_eq_true.mpr ⟨en,List.mem_of_find?_eq_some he,List.find?_some he⟩];rfl
 ·split at this
  ·exact aF this
  ·rename_i z;rw [Bool.not_eq_true]at z;rw [z,Bool.and_false]
theorem jU(wk:Wk W G)(ck:ClsK W){QU:Led→Prop}{v u:V}{x:Str}{y z:Value}{A:Around}{Y:List Addr}{s:Shared}(me:Mem W Y M s.heap)(r:aO W s.heap (Y++foot M) v y)(r2:aO W s.heap (Y++foot M) u z)(q:z8 v x u QU M) :
  wpAny W.M A (setAttr y x z) (fun _ s'=>ResU W Y M s QU s') NoE s:=by
 cases v with
 |fz d=>exact q.elim
 |loc a =>
   (revert r;intro(e_:_=_);subst e_)
   obtain⟨c,d,ks,l,hl,hx,hlen,q⟩:=r8 q
   obtain⟨h1,es,k,h2,h3,h4⟩:=me.led _ (aD hl)
   have X:W.K.In s.heap:=wk.X.keeps me.keepB
   obtain⟨i1,i2,i3⟩:=y0 (x:=x) (tk:=s.toks+1) r2 _ h3 h4
   have ead:d≠a:=N4 me.nodup (aD hl)
   refine set_plain (ox:=instObj (W.ca c) d) (od:=some (dictOf es k)) X ⟨h1,rfl,rfl,h2⟩ (ck.sat c) ?_
   refine osa_open (ox:=instObj (W.ca c) d) (od:=some (dictOf es k)) (s:={s with toks:=s.toks+1}) X ⟨h1,rfl,rfl,h2⟩ (ck.over c) (ck.fld c x hx).2 fun b=>?_
   have X':W.K.In ({s with toks:=s.toks+1}:Shared).heap:=X
   obtain⟨cd,hc,hd'⟩:=any_some (ck.hasD c)
   refine wpAny_bind (wpAny_pure (wpAny_bind (wpAny_bind (wpAny_loadPart (s:={s with toks:=s.toks+1}) h1 (wpAny_bind ((looks_clsIn X' hc).here ?_))))))
   rw [hd']
   refine wpAny_pure (a:=some d) (wpAny_bind (wpAny_pure (wpAny_bind ?_)))
   unfold nsSet
   refine wpAny_bind (wpAny_bind (wpAny_askSetting (wpAny_pure (wpAny_bind (wpAny_mkText (wpAny_bind (wpAny_loadPart h2 ?_)))))))
   dsimp only
   rw [aRefKeyMayBeTheName_at,T7 h3]
   have eput:∀tk,Obj.putName x (PyData.keyHash W.w.params x) (.str x tk) z (dictOf es k)=dictOf (putL x (PyData.keyHash W.w.params x) (.str x tk) z es) (putN x es k):=fun tk=>putName_dict _ _ _ _ _ _
   have D':(s.heap.update d (Obj.putName x (PyData.keyHash W.w.params x) (.str x (s.toks+1)) z)).get? d=some (dictOf (putL x (PyData.keyHash W.w.params x) (.str x (s.toks+1)) z es) (putN x es k)):=by
    rw [←eput]
    exact Heap.get?_update_self _ h2 (by rw [eput];rfl)
   refine wpAny_updatePart h2 ?_
   refine wpAny_bind (wpAny_lookBehind D' (pastItsLine_dict (by rw [List.size_toArray,sizeLine_eq];exact Jg hlen i3)) ?_)
   refine wpAny_pure ?_
   have kp:∀b o,s.heap.get? b=some o→b≠d→(s.heap.update d (Obj.putName x (PyData.keyHash W.w.params x) (.str x (s.toks+1)) z)).get? b=some o:=fun b o e n=>(Heap.get?_update_ne _ _ _ _ n).trans e
   have inF:∀b∈(Cell.inst c d ks l).foot a,b∈foot M:=fun b hb=>aT (aD hl) hb
   obtain⟨m5,st⟩:=Mem.put (s:=s) (s':={s with heap:=s.heap.update d (Obj.putName x (PyData.keyHash W.w.params x) (.str x (s.toks+1)) z),toks:=s.toks+1+1}) (c':=.inst c d (kPut x u ks l).1 (kPut x u ks l).2) me hl rfl
    (fun b o e n=>kp b o e (by intro h;subst h;exact n (by simp [Cell.foot])))
    (fun b hb=>by
     simp only [Cell.foot,List.mem_cons,List.not_mem_nil,or_false]at hb
     rcases hb with rfl|rfl
     ·exact⟨_,kp _ _ h1 (Ne.symm ead)⟩
     ·exact⟨_,D'⟩)
    ⟨_,_,rfl⟩
    ⟨kp _ _ h1 (Ne.symm ead),_,_,D',i1,i2.keep fun b o e n=>⟨kp b o e fun h=>n (by subst h;exact mAr (.inr (inF b (by simp [Cell.foot])))),n⟩⟩
   exact⟨_,q,m5,st⟩
end
end
section
inductive Bi where
 |len|isinst|abs|int|max|min|sum|sorted|tuple|list|dict|range|append|extend|pop|get|enum
deriving DecidableEq
noncomputable def biV:Bi→Value
 |.len=>.builtin "len"
 |.isinst=>.builtin "isinstance"
 |.abs=>.builtin "abs"
 |.int=>.type "int"
 |.max=>.builtin "max"
 |.min=>.builtin "min"
 |.sum=>.builtin "sum"
 |.sorted=>.builtin "sorted"
 |.tuple=>.type "tuple"
 |.list=>.type "list"
 |.dict=>.type "dict"
 |.range=>.type "range"
 |.append=>.builtin "list.append"
 |.extend=>.builtin "list.extend"
 |.pop=>.builtin "list.pop"
 |.get=>.builtin "dict.get"
 |.enum=>.type "enumerate"
def pR(vs:List V)(K:V→Prop):Prop:=match vs with
 |[]=>False
 |v::r=>(match r with
  |[]=>K v
  |_::_=>False)
def u9(vs:List V)(K:V→V→Prop):Prop:=match vs with
 |[]=>False
 |v::r=>pR r (K v)
theorem dJ{vs:List V}{K:V→Prop}(h:pR vs K):∃v,vs = [v]∧K v:=by
 cases vs with
 |nil=>exact h.elim
 |cons v r=>cases r with
  |nil=>exact⟨v,rfl,h⟩
  |cons=>exact h.elim
theorem iN{vs:List V}{K:V→V→Prop}(h:u9 vs K):∃v u,vs = [v,u]∧K v u:=by
 cases vs with
 |nil=>exact h.elim
 |cons v r =>
  obtain⟨u,e,h⟩:=dJ h
  exact⟨v,u,by rw [e],h⟩
def q9(c:Cell)(K:List V→Prop):Prop:=match c with
 |.lst l=>K l
 |.dct _ _=>False
 |.inst _ _ _ _=>False
theorem iM{M:Led}{a:Addr}{K:List V→Prop}(h:atC M a fun c=>q9 c K):∃l,M.lookup a=some (.lst l)∧K l:=by
 obtain⟨c,e,h⟩:=h
 cases c <;> first|exact⟨_,e,h⟩|exact h.elim
def iL(v:V)(M:Led)(K:Addr→List V→Prop):Prop:=match v with
 |.loc a=>atC M a fun c=>q9 c (K a)
 |.fz _=>False
theorem jZ{v:V}{M:Led}{K:Addr→List V→Prop}(h:iL v M K):∃a l,v = .loc a∧M.lookup a=some (.lst l)∧K a l:=by
 cases v with
 |fz=>exact h.elim
 |loc a=>obtain⟨l,e,h⟩:=iM h;exact⟨a,l,rfl,e,h⟩
theorem sG{a:Addr}{l:List V}{M:Led}{K:Addr→List V→Prop}(e:M.lookup a=some (.lst l))(h:K a l):iL (.loc a) M K:=⟨_,e,h⟩
def uU(v:V)(K:Bool→Prop):Prop:=match v with
 |.fz d=>(match d with
  |.bool b=>K b
  |_=>False)
 |.loc _=>False
theorem fA{v:V}{K:Bool→Prop}(h:uU v K):∃b,v = .fz (.bool b)∧K b:=by
 cases v with
 |loc=>exact h.elim
 |fz d=>cases d <;> first|exact h.elim|exact⟨_,rfl,h⟩
def Fs(d:D)(K:Nat→Prop):Prop:=match d with
 |.tup l=>l.length≤1000000∧K l.length
 |.lst l=>l.length≤1000000∧K l.length
 |_=>False
def CI(v:V)(Q:aJ)(M:Led):Prop:=match v with
 |.fz d=>Fs d fun n=>Q (.fz (.int n)) M
 |.loc a=>atC M a fun c=>q9 c fun l=>l.length≤1000000∧Q (.fz (.int l.length)) M
noncomputable def S4(d:D)(t:Ty):Option Bool:=match d with
 |.int _=>(match t with
  |.int=>some true
  |.bool=>some false
  |_=>none)
 |.str _=>(match t with
  |.str=>some true
  |_=>none)
 |.tup _=>(match t with
  |.tuple=>some true
  |_=>none)
 |_=>none
noncomputable def Dj(l:List D):Bool:=match l with
 |[]=>false
 |d::r=>(match d with
  |.ty t=>(match t with
   |.list=>r.isEmpty
   |_=>false)
  |_=>false)
noncomputable def Au(l:List D):Bool:=match l with
 |[]=>false
 |d::r=>(match d with
  |.ty t=>(match t with
   |.tuple=>Dj r
   |_=>false)
  |_=>false)
set_option tactic.hygienic true in
theorem W0{l:List D}(h:Au l=true):l = [.ty .tuple,.ty .list]:=by
 cases l with
 |nil=>exact aL h
 |cons d r =>
  cases d <;> first|exact aL h|skip
  rename_i t
  cases t <;> first|exact aL h|skip
  cases r with
  |nil=>exact aL h
  |cons d r =>
   cases d <;> first|exact aL h|skip
   rename_i t
   cases t <;> first|exact aL h|skip
   cases r with
   |nil=>rfl
   |cons=>exact aL h
def EB(v:V)(t:Ty)(Q:aJ)(M:Led):Prop:=match v with
 |.fz d=>cB (S4 d t) fun b=>Q (.fz (.bool b)) M
 |.loc _=>False
def Db(v:V)(l:List D)(Q:aJ)(M:Led):Prop:=bif Au l then(∃t r,v.view M=some (t,r)∧Q (.fz (.bool true)) M)else False
def DY(v u:V)(Q:aJ)(M:Led):Prop:=match u with
 |.fz d=>(match d with
  |.ty t=>EB v t Q M
  |.tup l=>Db v l Q M
  |_=>False)
 |.loc _=>False
def FY(v:V)(Q:aJ)(M:Led):Prop:=∃l ns,v.view M=some (false,l)∧dX l=some ns∧Q (.fz (.int ns.sum)) M
def zL(v:V)(Q:aJ)(M:Led):Prop:=∃l ns,v.view M=some (false,l)∧dX l=some ns∧ns.length<64∧∀ns':List Int,ns'.Perm ns→ns'.Pairwise (·≤·)→bL M (.lst (ns'.map fun i=>.fz (.int i))) Q
def GK(d:D)(Q:aJ)(M:Led):Prop:=match d with
 |.tup l=>Q (.fz (.tup l)) M
 |.lst l=>l.length≤1000000∧Q (.fz (.tup l)) M
 |_=>False
def Aa(v:V)(Q:aJ)(M:Led):Prop:=match v with
 |.fz d=>GK d Q M
 |.loc a=>atC M a fun c=>q9 c fun l=>cB (fzs l) fun ds=>l.length≤1000000∧Q (.fz (.tup ds)) M
def Y9(v:V)(Q:aJ)(M:Led):Prop:=∃t l,v.view M=some (t,l)∧l.length≤1000000∧bL M (.lst l) Q
def AJ(v:V)(Q:aJ)(M:Led):Prop:=(∃ks l,v.dview M=some (ks,l)∧ks.length≤1000000∧bL M (.dct ks l) Q) ∨
 ∃ps:List (Int × D),v.view M=some (false,ps.map fun p=>.fz (.tup [.int p.1,p.2]))∧(ps.map (·.1)).Nodup∧ps.length≤1000∧bL M (.dct (ps.map (·.1)) (ps.map fun p=>.fz p.2)) Q
def w9(vs:List V)(Q:aJ)(M:Led):Prop:=match vs with
 |[]=>False
 |v::r=>asI v fun a=>(match r with
  |[]=>Q (.fz (.rng 0 a)) M
  |u::r=>asI u fun b=>(match r with
   |[]=>Q (.fz (.rng a b)) M
   |_::_=>False))
def Dl(vs:List V)(Q:aJ)(M:Led):Prop:=match vs with
 |[]=>False
 |d::r=>(match r with
  |[]=>False
  |i::r=>asI i fun i=>(match r with
   |[]=>∃ks l u,d.dview M=some (ks,l)∧(dGet i ks l).getD (.fz .none)=u∧Q u M
   |v::r=>(match r with
    |[]=>∃ks l u,d.dview M=some (ks,l)∧(dGet i ks l).getD v=u∧Q u M
    |_::_=>False)))
def wB(b:Bi)(vs:List V)(Q:aJ)(M:Led):Prop :=
 match b with
 |.len=>pR vs fun v=>CI v Q M
 |.isinst=>u9 vs fun v u=>DY v u Q M
 |.abs=>pR vs fun v=>asI v fun a=>Q (.fz (.int (if a<0 then -a else a))) M
 |.int=>pR vs fun v=>uU v fun b=>Q (.fz (.int (if b then 1 else 0))) M
 |.max=>u9 vs fun v u=>asI v fun a=>asI u fun b=>Q (.fz (.int (if b>a then b else a))) M
 |.min=>u9 vs fun v u=>asI v fun a=>asI u fun b=>Q (.fz (.int (if b<a then b else a))) M
 |.sum=>pR vs fun v=>FY v Q M
 |.sorted=>pR vs fun v=>zL v Q M
 |.tuple=>pR vs fun v=>Aa v Q M
 |.list=>pR vs fun v=>Y9 v Q M
 |.dict=>pR vs fun v=>AJ v Q M
 |.range=>w9 vs Q M
 |.append=>u9 vs fun d v=>iL d M fun a l=>l.length≤1000000∧putTo M a (.lst (l++[v])) (Q (.fz .none))
 |.extend=>u9 vs fun d v=>iL d M fun a l=>∃t r,v.view M=some (t,r)∧l.length+r.length≤1000000∧putTo M a (.lst (l++r)) (Q (.fz .none))
 |.pop=>pR vs fun d=>iL d M fun a l=>l.length≤1000000∧∃r v,l=r++[v]∧putTo M a (.lst r) (Q v)
 |.get=>Dl vs Q M
 |.enum=>False
theorem oX{W:Wd}{h:Heap}{U:List Addr}{i:Int}:∀{kvs:List (Int × Value)}{l:List V},VRelL W h U l (kvs.map (·.2)) →
  (∀v,dGet i (kvs.map (·.1)) l=some v→∃x,valueAt kvs i=some x∧aO W h U v x)∧(dGet i (kvs.map (·.1)) l=none→valueAt kvs i=none)
 |[],_,_=>⟨fun v e=>aF (show none=some v from e),fun _=>rfl⟩
 |(k,y)::kvs,[],e=>bV e
 |(k,y)::kvs,v::l,e=>by
  obtain⟨x,xs,e1,a,b⟩:=e
  simp only [List.map_cons,List.cons.injEq]at e1
  obtain⟨rfl,rfl⟩:=e1
  have ih:=oX (i:=i) b
  rw [kO,List.map_cons,eD]
  by_cases c:k=i
  ·rw [if_pos c,if_pos c];exact⟨fun v e=>⟨_,rfl,Option.some.inj e▸a⟩,qX⟩
  ·rw [if_neg c,if_neg c];exact ih
theorem sN{W:Wd}{h:Heap}{U:List Addr}{i:Int}{kvs:List (Int × Value)}{l:List V}{d:V}{dx:Value}(r:VRelL W h U l (kvs.map (·.2)))(rd:aO W h U d dx) :
  aO W h U ((dGet i (kvs.map (·.1)) l).getD d) ((valueAt kvs i).getD dx):=by
 obtain⟨p,q⟩:=oX (i:=i) r
 cases hd:dGet i (kvs.map (·.1)) l with
 |none=>rw [q hd];exact rd
 |some v=>obtain⟨x,e,r⟩:=p v hd;rw [e];exact r
section
variable{W:Wd}{G:Str→Option D}{n:Nat}{M:Led}{Q:aJ}
theorem VRelL.one_inv{h:Heap}{U:List Addr}{v:V}{xs:List Value}(r:VRelL W h U [v] xs):∃x,xs = [x]∧aO W h U v x:=by
 obtain⟨x,xs,rfl,r1,r2⟩:=r
 (revert r2;intro(e_:_=_);subst e_)
 exact⟨x,rfl,r1⟩
theorem VRelL.three_inv{h:Heap}{U:List Addr}{v u z:V}{xs:List Value}(r:VRelL W h U [v,u,z] xs):∃x y w,xs = [x,y,w]∧aO W h U v x∧aO W h U u y∧aO W h U z w:=by
 obtain⟨x,xs,rfl,r1,r2⟩:=r
 obtain⟨y,w,rfl,r2,r3⟩:=r2.two_inv
 exact⟨x,y,w,rfl,r1,r2,r3⟩
theorem K1{vs:List Value}{ns:List Int}(i:IntsAre vs ns):∃xs:Array (Int × Tok),vs.toArray=intItems xs∧xs.toList.map (·.1)=ns:=by
 induction i with
 |nil=>exact⟨#[],by simp [intItems],rfl⟩
 |cons n t _ ih =>
  obtain⟨xs,e1,e2⟩:=ih
  refine⟨((n,t)::xs.toList).toArray,?_,by simp [e2]⟩
  apply Array.toList_inj.mp
  have:=congrArg Array.toList e1
  simp [intItems]at this ⊢
  exact this
theorem L8{vs:List Value}{ns:List Int}(i:IntsAre vs ns):vs.length=ns.length:=by
 induction i with
 |nil=>rfl
 |cons n t _ ih=>simp [ih]
theorem bM:∀ds:List D,fzs (ds.map V.fz)=some ds
 |[]=>rfl
 |d::ds=>congrArg (Option.map (d::·)) (bM ds)
theorem oF{Y:List Addr}{s:Shared}{a:Addr}{l l':List V}{h':Heap}{tk:Nat}{vs':List Value}{k:Nat}(me:Mem W Y M s.heap)(h1:M.lookup a=some (.lst l))(hs:Heap.SameBut a s.heap h')
  (ho:h'.get? a=some (PySem.W.listOf vs'.toArray k)) (r:VRelL W s.heap (Y++foot M) l' vs') :
  Mem W Y (put M a (.lst l')) h'∧Step (foot M) (foot (put M a (.lst l'))) s {s with heap:=h',toks:=tk} :=
 Mem.put (s:=s) (s':={s with heap:=h',toks:=tk}) (c':=.lst l') me h1 rfl (fun b o e nb=>(hs.2 b (by simpa [Cell.foot]using nb)).trans e)
   (fun b hb=>by simp only [Cell.foot,List.mem_singleton]at hb;subst hb;exact⟨_,ho⟩) ⟨_,_,rfl⟩
   ⟨_,_,ho,by
    have kp:bA (Y++foot M) (Y++foot M) s.heap h':=fun b o e nb=>⟨(hs.2 b (fun z=>nb (mAr (.inr (z▸aT (aD h1) (aW _ _)))))).trans e,nb⟩
    exact r.keep kp⟩
theorem wW{Y:List Addr}{h:Heap}{v:V}{t:Bool}{l:List V}{x:Value}(me:Mem W Y M h)(e:v.view M=some (t,l))(r:aO W h (Y++foot M) v x):∃a,x = .ref a∧KitAt a (vJ t) h:=by
 obtain⟨a,vs,rfl,⟨n,e⟩,_⟩:=bQ me e r
 exact⟨a,rfl,_,e,rfl⟩
theorem iY{Y:List Addr}{s:Shared}{h':Heap}{tk:Nat}{a:Addr}{c:Cell}(me:Mem W Y M s.heap)(nz:s.heap.get? a=none)(hk:∀b o,s.heap.get? b=some o→h'.get? b=some o)(al:∃o,h'.get? a=some o)(hf:c.foot a = [a])
  (hc:∀U,bA (Y++foot M) U s.heap h'→iE W h' U a c) (q:bL M c Q):ResG W (aO W) Y M s Q (.ref a) {s with heap:=h',toks:=tk}:=by
 have hnin:a∉Y++foot M:=me.out nz
 have st:Step (foot M) (foot ((a,c)::M)) s {s with heap:=h',toks:=tk} :=
  ⟨fun b o e _=>hk b o e,⟨_,_,rfl⟩,fun b hb=>by
   simp only [foot,hf,List.mem_append,List.mem_singleton]at hb
   rcases hb with rfl|hb
   ·exact .inr nz
   ·exact .inl hb⟩
 refine⟨_,_,q a (fun h=>hnin (mAr (.inr h))),rfl,?_,st⟩
 have kp:bA (Y++foot M) (Y++foot ((a,c)::M)) s.heap h':=st.keeps
 refine me.next st ?_ ?_ ?_
 ·simp only [foot,hf,List.singleton_append,List.nodup_cons]
  exact⟨fun h=>hnin (mAr (.inr h)),me.nodup⟩
 ·intro b hb
  simp only [foot,hf,List.mem_append,List.mem_singleton]at hb
  rcases hb with rfl|hb
  ·exact al
  ·obtain⟨o,e⟩:=me.alive b (mAr (.inr hb));exact⟨o,hk b o e⟩
 ·intro p hp
  rcases mCp hp with rfl|hp
  ·exact hc _ kp
  ·exact(me.led p hp).keep kp fun b _ o e=>hk b o e
theorem cE(h:Heap):h.get? h.objs.size=none:=by
 cases q:h.get? h.objs.size with
 |none=>rfl
 |some o=>exact(Nat.lt_irrefl _ (Heap.lt_size q)).elim
theorem l9{vs:List Value}{ns:List Int}(i:IntsAre vs ns):∀h U,VRelL W h U (ns.map fun i=>.fz (.int i)) vs:=by
 induction i with
 |nil=>intro h U;rfl
 |cons n t _ ih=>intro h U;exact VRelL.cons ⟨t,rfl⟩ (ih h U)
set_option tactic.hygienic true in
theorem N9{d:D}{K:Nat→Prop}(h:Fs d K):∃t l,(V.fz d).view M=some (t,l)∧l.length≤1000000∧K l.length:=by
 cases d <;> first|exact h.elim|skip
 ·rename_i l;exact⟨true,l.map .fz,rfl,by simpa using h.1,by simpa using h.2⟩
 ·rename_i l;exact⟨false,l.map .fz,rfl,by simpa using h.1,by simpa using h.2⟩
theorem D6{v:V}(h:CI v Q M):∃t l,v.view M=some (t,l)∧l.length≤1000000∧Q (.fz (.int l.length)) M:=by
 cases v with
 |fz d=>exact N9 (K:=fun k=>Q (.fz (.int k)) M) h
 |loc a=>obtain⟨l,e,h1,h2⟩:=iM h;exact⟨false,l,congrArg cV e,h1,h2⟩
theorem wTup_inv{v:V}(h:Aa v Q M):(∃l,v = .fz (.tup l)∧Q (.fz (.tup l)) M)∨(∃l ds,v.view M=some (false,l)∧fzs l=some ds∧l.length≤1000000∧Q (.fz (.tup ds)) M):=by
 cases v with
 |fz d =>
  cases d <;> first|exact h.elim|skip
  ·exact .inl ⟨_,rfl,h⟩
  ·exact .inr ⟨_,_,rfl,bM _,by simpa using h.1,h.2⟩
 |loc a =>
  obtain⟨l,e,h⟩:=iM h
  obtain⟨ds,h1,h2,h3⟩:=bB h
  exact .inr ⟨l,ds,congrArg cV e,h1,h2,h3⟩
theorem Gm{v:V}{A:Around}{Y:List Addr}{s:Shared}{xs:List Value}(g:cF n A)(me:Mem W Y M s.heap)(r:VRelL W s.heap (Y++foot M) [v] xs)(h:CI v Q M):wpAny W.M A (call (biV .len) xs) (ResG W (aO W) Y M s Q) NoE s:=by
 have hh:A.handled=none:=g.1
 obtain⟨x,rfl,r1⟩:=r.one_inv
 obtain⟨t,l,h1,h2,h3⟩:=D6 h
 obtain⟨a,vs,rfl,e3,e4⟩:=bQ me h1 r1
 have hl:=e4.length
 rw [←hl]at h3 h2
 cases t with
 |true=>exact PyProof.Rows.len_tuple e3.isTup (by simp only [List.size_toArray];exact q_0 h2) (ResG.soft h3 me (fun _ _ e=>e) ⟨_,_,rfl⟩ ⟨_,rfl⟩)
 |false=>exact PyProof.Rows.len_list e3.isList (by simp only [List.size_toArray];exact q_0 h2) (ResG.soft h3 me (fun _ _ e=>e) ⟨_,_,rfl⟩ ⟨_,rfl⟩)
theorem tyIs_inv{d:D}{t:Ty}{b:Bool}(e:S4 d t=some b):(∃i,d = .int i∧t = .int∧b=true)∨(∃i,d = .int i∧t = .bool∧b=false)∨(∃s,d = .str s∧t = .str∧b=true)∨(∃l,d = .tup l∧t = .tuple∧b=true):=by
 cases d <;> first|exact aF e|skip
 ·cases t <;> first|exact aF e|exact .inl ⟨_,rfl,rfl,(Option.some.inj e).symm⟩|exact .inr (.inl ⟨_,rfl,rfl,(Option.some.inj e).symm⟩)
 ·cases t <;> first|exact aF e|exact .inr (.inr (.inl ⟨_,rfl,rfl,(Option.some.inj e).symm⟩))
 ·cases t <;> first|exact aF e|exact .inr (.inr (.inr ⟨_,rfl,rfl,(Option.some.inj e).symm⟩))
theorem Cb(wk:Wk W G){v:V}{t:Bool}{l':List V}(h1:v.view M=some (t,l'))(h:Q (.fz (.bool true)) M):Op W n [v,.fz (.tup [.ty .tuple,.ty .list])] (aO W) (fun xs=>call (biV .isinst) xs) Q M:=fun A Y s xs g me r=>by
 obtain⟨x,y,rfl,r1,r2⟩:=r.two_inv
 obtain⟨a,rfl,ka⟩:=wW me h1 r1
 obtain⟨tp,vs,rfl,_,⟨k,e⟩,z1,zs,rfl,rfl,z2,zs',rfl,rfl,rfl⟩:=r2
 have X:W.K.In s.heap:=wk.X.keeps me.keepB
 cases t with
 |true=>exact kia_tup (kitx_tuple (a:=a)) X ka e (b:=true) (by rfl) (by intro e;cases e) fun tk=>ResG.soft h me (fun _ _ e=>e) ⟨_,_,rfl⟩ rfl
 |false=>exact kia_tup (kitx_list (a:=a)) X ka e (b:=true) (by rfl) (by intro e;cases e) fun tk=>ResG.soft h me (fun _ _ e=>e) ⟨_,_,rfl⟩ rfl
theorem Ca{d:D}{t:Ty}{b:Bool}(e:S4 d t=some b)(h:Q (.fz (.bool b)) M):Op W n [.fz d,.fz (.ty t)] (aO W) (fun xs=>call (biV .isinst) xs) Q M:=fun A Y s xs g me r=>by
 obtain⟨x,y,rfl,r1,r2⟩:=r.two_inv
 (revert r2;intro(e_:_=_);subst e_)
 rcases tyIs_inv e with⟨i,rfl,rfl,rfl⟩|⟨i,rfl,rfl,rfl⟩|⟨s',rfl,rfl,rfl⟩|⟨l,rfl,rfl,rfl⟩
 ·obtain⟨t',rfl⟩:=r1;exact IsiPair.int_int (ResG.here h rfl me)
 ·obtain⟨t',rfl⟩:=r1;exact IsiPair.int_bool (ResG.soft h me (fun _ _ e=>e) ⟨_,_,rfl⟩ rfl)
 ·obtain⟨t',rfl⟩:=r1;exact IsiPair.str_str (ResG.here h rfl me)
 ·obtain⟨a,vs,rfl,_,⟨k,e⟩,_⟩:=r1;exact IsiPair.tuple_tuple e rfl (ResG.here h rfl me)
theorem Al(wk:Wk W G){v u:V}(h:DY v u Q M):Op W n [v,u] (aO W) (fun xs=>call (biV .isinst) xs) Q M:=by
 cases u with
 |loc=>exact h.elim
 |fz d =>
  cases d with
  |tup l =>
   obtain⟨e,t,l',h1,h⟩:=aZ (show bif Au l then _ else False from h)
   rw [W0 e]
   exact Cb wk h1 h
  |ty t =>
   cases v with
   |loc=>exact h.elim
   |fz d =>
    obtain⟨b,e,h1⟩:=bB (show cB (S4 d t) _ from h)
    exact Ca e h1
  |_=>exact h.elim
theorem FN{a:Int}{A:Around}{Y:List Addr}{s:Shared}{xs:List Value}(g:cF n A)(me:Mem W Y M s.heap)(r:VRelL W s.heap (Y++foot M) [.fz (.int a)] xs)(h:Q (.fz (.int (if a<0 then -a else a))) M):wpAny W.M A (call (biV .abs) xs) (ResG W (aO W) Y M s Q) NoE s:=by
 have hh:A.handled=none:=g.1
 obtain⟨x,rfl,t,rfl⟩:=r.one_inv
 exact call_abs_int fun u tk=>ResG.soft h me (fun _ _ e=>e) ⟨_,_,rfl⟩ ⟨_,rfl⟩
theorem GT{b:Bool}{A:Around}{Y:List Addr}{s:Shared}{xs:List Value}(g:cF n A)(me:Mem W Y M s.heap)(r:VRelL W s.heap (Y++foot M) [.fz (.bool b)] xs)(h:Q (.fz (.int (if b then 1 else 0))) M):wpAny W.M A (call (biV .int) xs) (ResG W (aO W) Y M s Q) NoE s:=by
 have hh:A.handled=none:=g.1
 obtain⟨x,rfl,r1⟩:=r.one_inv
 (revert r1;intro(e_:_=_);subst e_)
 exact call_int_bool (ResG.soft h me (fun _ _ e=>e) ⟨_,_,rfl⟩ ⟨_,rfl⟩)
theorem EE{a b:Int}{A:Around}{Y:List Addr}{s:Shared}{xs:List Value}(g:cF n A)(me:Mem W Y M s.heap)(r:VRelL W s.heap (Y++foot M) [.fz (.int a),.fz (.int b)] xs)(h:Q (.fz (.int (if b>a then b else a))) M):wpAny W.M A (call (biV .max) xs) (ResG W (aO W) Y M s Q) NoE s:=by
 have hh:A.handled=none:=g.1
 obtain⟨x,y,rfl,⟨t,rfl⟩,⟨u,rfl⟩⟩:=r.two_inv
 refine max_two_ints hh fun h' tk hk=>ResG.soft h me hk ⟨_,_,rfl⟩ ?_
 split <;> exact⟨_,rfl⟩
theorem GS{a b:Int}{A:Around}{Y:List Addr}{s:Shared}{xs:List Value}(g:cF n A)(me:Mem W Y M s.heap)(r:VRelL W s.heap (Y++foot M) [.fz (.int a),.fz (.int b)] xs)(h:Q (.fz (.int (if b<a then b else a))) M):wpAny W.M A (call (biV .min) xs) (ResG W (aO W) Y M s Q) NoE s:=by
 have hh:A.handled=none:=g.1
 obtain⟨x,y,rfl,⟨t,rfl⟩,⟨u,rfl⟩⟩:=r.two_inv
 refine min_two_ints hh fun h' tk hk=>ResG.soft h me hk ⟨_,_,rfl⟩ ?_
 split <;> exact⟨_,rfl⟩
theorem Dw{v:V}{A:Around}{Y:List Addr}{s:Shared}{xs:List Value}(g:cF n A)(me:Mem W Y M s.heap)(r:VRelL W s.heap (Y++foot M) [v] xs)(h:FY v Q M):wpAny W.M A (call (biV .sum) xs) (ResG W (aO W) Y M s Q) NoE s:=by
 have hh:A.handled=none:=g.1
 obtain⟨x,rfl,r1⟩:=r.one_inv
 obtain⟨l,ns,h1,h2,h3⟩:=h
 obtain⟨a,vs,rfl,e3,e4⟩:=bQ me h1 r1
 obtain⟨xs,e5,e6⟩:=K1 (fK h2 e4)
 refine sum_intListG (xs:=xs) hh (e5▸e3.isList) fun h' tk t' hk=>ResG.soft h3 me hk ⟨_,_,rfl⟩ ⟨t',?_⟩
 rw [preSum_eq,e6,List.take_of_length_le (by rw [←e6];simp)]
theorem I7{v:V}{A:Around}{Y:List Addr}{s:Shared}{xs:List Value}(g:cF n A)(me:Mem W Y M s.heap)(r:VRelL W s.heap (Y++foot M) [v] xs)(h:zL v Q M):wpAny W.M A (call (biV .sorted) xs) (ResG W (aO W) Y M s Q) NoE s:=by
 have hh:A.handled=none:=g.1
 obtain⟨x,rfl,r1⟩:=r.one_inv
 obtain⟨l,ns,h1,h2,h3,h4⟩:=h
 obtain⟨a,vs,rfl,e3,e4⟩:=bQ me h1 r1
 have hi:=fK h2 e4
 have hlen:vs.length=ns.length:=L8 hi
 refine sorted_ints e3.isList hi (by exact q_1 h3 hlen) fun out ns' a1 a2 a3=>?_
 obtain⟨e,he⟩:=sortedAll_at s.heap vs out
 have hk:∀b o,s.heap.get? b=some o→(sortedAll s.heap vs out).get? b=some o:=fun _ _=>sortedAll_old
 have nz:s.heap.get? (s.heap.objs.size+1)=none:=by
  cases q:s.heap.get? (s.heap.objs.size+1)with
  |none=>rfl
  |some o=>exact absurd (Heap.lt_size q) (Nat.not_lt.mpr (Nat.le_succ _))
 exact iY (c:=.lst (ns'.map fun i=>.fz (.int i))) me nz hk ⟨_,he⟩ rfl (fun U k=>⟨e,out,he,l9 a1 _ _⟩) (h4 ns' a2 a3)
theorem V6{v:V}{A:Around}{Y:List Addr}{s:Shared}{xs:List Value}(g:cF n A)(me:Mem W Y M s.heap)(r:VRelL W s.heap (Y++foot M) [v] xs)(h:Aa v Q M):wpAny W.M A (call (biV .tuple) xs) (ResG W (aO W) Y M s Q) NoE s:=by
 have hh:A.handled=none:=g.1
 obtain⟨x,rfl,r1⟩:=r.one_inv
 rcases wTup_inv h with⟨l,rfl,h⟩|⟨l,ds,h1,h2,h3,h4⟩
 ·obtain⟨a,vs,rfl,e3,e4⟩:=bQ me (v:=.fz (.tup l)) rfl r1
  exact call_tuple_same (items:=vs.toArray) e3.isTup (ResG.here h r1 me)
 ·obtain⟨a,vs,rfl,e3,e4⟩:=bQ me h1 r1
  have hl:=e4.length
  refine call_tuple_list e3.isList (fun h' hk=>?_) (by rw [List.size_toArray,sizeLine_eq];exact q_2 h3 hl)
  have me':=me.same (s':={s with heap:=h'}) hk
  have:=HD (s:={s with heap:=h'}) (tk:=s.toks) me' ((fH h2 e4).keep fun b o e n=>⟨hk b o e,n⟩) h4
  exact this.step (Step.same (s':={s with heap:=h'}) hk ⟨_,_,rfl⟩)
theorem DG{v:V}{A:Around}{Y:List Addr}{s:Shared}{xs:List Value}(g:cF n A)(me:Mem W Y M s.heap)(r:VRelL W s.heap (Y++foot M) [v] xs)(h:Y9 v Q M):wpAny W.M A (call (biV .list) xs) (ResG W (aO W) Y M s Q) NoE s:=by
 have hh:A.handled=none:=g.1
 obtain⟨x,rfl,r1⟩:=r.one_inv
 obtain⟨t,l,h1,h2,h3⟩:=h
 obtain⟨a,vs,rfl,e3,e4⟩:=bQ me h1 r1
 have hl:=e4.length
 obtain⟨k,e3⟩:=e3
 refine call_list_seq a (T:=vJ t) (by cases t <;> simp [vJ]) e3 rfl rfl (fun h' c' hk ho=>?_) (by rw [List.size_toArray,sizeLine_eq];exact q_2 h2 hl)
 exact iY (c:=.lst l) me (cE _) hk ⟨_,ho⟩ rfl (fun U k=>⟨c',vs.toArray,ho,by exact e4.keep k⟩) h3
theorem vX{W:Wd}{h:Heap}{U:List Addr}:∀{ps:List (Int × D)}{xs:List Value},VRelL W h U (ps.map fun p=>.fz (.tup [.int p.1,p.2])) xs →
  ∃rest:List (Addr × Int × Tok × Value),xs=rest.map (fun p=>.ref p.1)∧(∀p∈rest,h.IsTuple p.1 #[.int p.2.1 p.2.2.1,p.2.2.2])∧rest.map (·.2.1)=ps.map (·.1)∧VRelL W h U (ps.map fun p=>.fz p.2) (rest.map (·.2.2.2))
 |[],xs,r=>⟨[],by(revert r;intro(e_:_=_);subst e_);rfl,fun _ h=>(nomatch h),rfl,rfl⟩
 |(k,d)::ps,xs,r=>by
  obtain⟨x,ys,rfl,r1,r2⟩:=r
  obtain⟨rest,rfl,h1,h2,h3⟩:=vX r2
  obtain⟨a,vs,rfl,_,hs,rl⟩:=r1
  obtain⟨x1,xs1,rfl,⟨t,rfl⟩,⟨x2,xs2,rfl,rd,rfl⟩⟩:=rl
  exact⟨(a,k,t,x2)::rest,rfl,fun p hp=>by
   rcases mCp hp with rfl|hp
   ·exact hs.isTup
   ·exact h1 p hp,by simp [h2],_,_,rfl,rd,h3⟩
theorem Af(wk:Wk W G){v:V}{A:Around}{Y:List Addr}{s:Shared}{xs:List Value}(g:cF n A)(me:Mem W Y M s.heap)(r:VRelL W s.heap (Y++foot M) [v] xs)(h:AJ v Q M):wpAny W.M A (call (biV .dict) xs) (ResG W (aO W) Y M s Q) NoE s:=by
 have hh:A.handled=none:=g.1
 obtain⟨x,rfl,r1⟩:=r.one_inv
 rcases h with⟨ks,l,h1,h2,h3⟩|⟨ps,h1,h2,h3,h4⟩
 ·obtain⟨a,kvs,rfl,e0,e1,rfl,e3⟩:=eU me h1 r1
  refine kt_call_dict (knd:=intKind W.prog W.w) e0 e1 (by rw [sizeLine_eq];simp at h2;exact ar_le ‹_› (by decide)) fun h' hd hs=>?_
  have hk:∀b o,s.heap.get? b=some o→h'.get? b=some o:=fun b o e=>(hs.2 b (fun z=>by subst z;rw [cE]at e;exact aF e)).trans (aQ _ b o e)
  exact iY (c:=.dct (kvs.map (·.1)) l) me (cE _) hk (let⟨o,_,_,e,_⟩:=hd;⟨o,e⟩) rfl (fun U k=>⟨wk.fresh me,kvs,hd,rfl,e3.keep k⟩) h3
 ·obtain⟨a,vs,rfl,⟨k,e3⟩,e4⟩:=bQ me h1 r1
  obtain⟨rest,rfl,q1,q2,q3⟩:=vX e4
  have hlen:rest.length=ps.length:=by simpa using congrArg List.length q2
  have e3':s.heap.get? a=some {cls:=.type "list",data:=.seq (rest.map fun p=>Value.ref p.1).toArray k}:=e3
  refine nJ hh (items:=(rest.map fun p=>Value.ref p.1).toArray) (rest:=rest) (n:=k) e3' (by exact rfl) q1 (by rw [q2];exact h2) (by exact q_3 h3 hlen) fun h' tk hd hk=>?_
  exact iY (c:=.dct (ps.map (·.1)) (ps.map fun p=>.fz p.2)) me (cE _) hk (let⟨o,_,_,e,_⟩:=hd;⟨o,e⟩) rfl (fun U k=>⟨wk.fresh me,_,hd,by rw [List.map_map];exact q2,by rw [List.map_map];exact q3.keep k⟩) h4
theorem M8{a:Int}{A:Around}{Y:List Addr}{s:Shared}{xs:List Value}(g:cF n A)(me:Mem W Y M s.heap)(r:VRelL W s.heap (Y++foot M) [.fz (.int a)] xs)(h:Q (.fz (.rng 0 a)) M):wpAny W.M A (call (biV .range) xs) (ResG W (aO W) Y M s Q) NoE s:=by
 have hh:A.handled=none:=g.1
 obtain⟨x,rfl,t,rfl⟩:=r.one_inv
 refine call_range_1 (ResG.soft h me (aQ _) ⟨_,_,rfl⟩ ?_)
 exact⟨_,_,_,_,rfl,me.size_out,IsRange.new ..⟩
theorem x0{a b:Int}{A:Around}{Y:List Addr}{s:Shared}{xs:List Value}(g:cF n A)(me:Mem W Y M s.heap)(r:VRelL W s.heap (Y++foot M) [.fz (.int a),.fz (.int b)] xs)(h:Q (.fz (.rng a b)) M):wpAny W.M A (call (biV .range) xs) (ResG W (aO W) Y M s Q) NoE s:=by
 have hh:A.handled=none:=g.1
 obtain⟨x,y,rfl,⟨t,rfl⟩,⟨u,rfl⟩⟩:=r.two_inv
 refine call_range_2 (ResG.soft h me (aQ _) ⟨_,_,rfl⟩ ?_)
 exact⟨_,_,_,_,rfl,me.size_out,IsRange.new ..⟩
theorem pJ{d v:V}{A:Around}{Y:List Addr}{s:Shared}{xs:List Value}(g:cF n A)(me:Mem W Y M s.heap)(r:VRelL W s.heap (Y++foot M) [d,v] xs)(h:iL d M fun a l=>l.length≤1000000∧putTo M a (.lst (l++[v])) (Q (.fz .none))):wpAny W.M A (call (biV .append) xs) (ResG W (aO W) Y M s Q) NoE s:=by
 have hh:A.handled=none:=g.1
 obtain⟨x,y,rfl,r1,r2⟩:=r.two_inv
 obtain⟨a,l,rfl,h1,h2,h3⟩:=jZ h
 have h3:=eS h3
 (revert r1;intro(e_:_=_);subst e_)
 obtain⟨k,vs,e1,e2⟩:=me.led _ (aD h1)
 have hl:=e2.length
 rw [Array.length_toList]at hl
 refine append_at e1 (fun h' hs ho=>?_) (by rw [sizeLine_eq];exact q_2 h2 hl)
 have epush:vs.push y=(vs.toList++[y]).toArray:=by apply Array.toList_inj.mp;simp
 obtain⟨m5,st⟩:=oF (vs':=vs.toList++[y]) (l':=l++[_]) (tk:=s.toks) (k:=k+1) me h1 hs (by rw [ho,epush]) (e2.append (VRelL.one r2))
 exact⟨_,_,h3,rfl,m5,st⟩
theorem D2{d v:V}{A:Around}{Y:List Addr}{s:Shared}{xs:List Value}(g:cF n A)(me:Mem W Y M s.heap)(r:VRelL W s.heap (Y++foot M) [d,v] xs)(h:iL d M fun a l=>∃t r,v.view M=some (t,r)∧l.length+r.length≤1000000∧putTo M a (.lst (l++r)) (Q (.fz .none))):wpAny W.M A (call (biV .extend) xs) (ResG W (aO W) Y M s Q) NoE s:=by
 have hh:A.handled=none:=g.1
 obtain⟨x,y,rfl,r1,r2⟩:=r.two_inv
 obtain⟨a,l,rfl,h1,t,rr,hv,h2,h3⟩:=jZ h
 have h3:=eS h3
 (revert r1;intro(e_:_=_);subst e_)
 obtain⟨k,vs,e1,e2⟩:=me.led _ (aD h1)
 obtain⟨b,ws,rfl,⟨k2,e3⟩,e4⟩:=bQ me hv r2
 have hl:=e2.length
 rw [Array.length_toList]at hl
 have hl2:=e4.length
 have hz2:ws.toArray.size=ws.length:=List.size_toArray
 have hz:vs.size+ws.toArray.size≤sizeLine:=by rw [sizeLine_eq];exact q_4 h2 hl hl2 hz2
 have fin:∀a,M.lookup a=some (.lst l)→s.heap.get? a=some (PySem.W.listOf vs k)→Q (V.fz D.none) (put M a (Cell.lst (l++rr)))→ResG W (aO W) Y M s Q .none {s with heap:=s.heap.update a (Obj.mapSeq fun x=>x++ws.toArray),toks:=s.toks}:=by
  intro a h1 e1 h3
  have hs:=Heap.SameBut.update s.heap a (Obj.mapSeq fun x=>x++ws.toArray)
  obtain⟨m5,st⟩:=oF (vs':=vs.toList++ws) (l':=l++rr) (tk:=s.toks) (k:=if (vs++ws.toArray).size==vs.size then k else k+1) me h1 hs (by
   rw [Heap.get?_update_self _ e1 (by rw [mapSeq_app];rfl),mapSeq_app];simp [PySem.W.listOf]) (e2.append e4)
  exact⟨_,_,h3,rfl,m5,st⟩
 cases t with
 |true =>
  exact call_meets PySem.F.slot_list_extend ⟨_,e1,rfl⟩ PySem.F.entry_list_extend (PySem.F.args_list_extend_2 _ _) (AutoSeq1.list_extend_list_tuple_0 _ vs k b ws.toArray k2 (extend_door hz) (by exact ar_l ‹_› (by decide)) (by exact ar_le ‹_› (by decide))) ⟨e1,e3,fin _ h1 e1 h3⟩
 |false =>
  exact call_meets PySem.F.slot_list_extend ⟨_,e1,rfl⟩ PySem.F.entry_list_extend (PySem.F.args_list_extend_2 _ _) (AutoSeq1.list_extend_list_list_0 _ vs k b ws.toArray k2 (extend_door hz) (by exact ar_l ‹_› (by decide)) (by exact ar_le ‹_› (by decide))) ⟨e1,e3,fin _ h1 e1 h3⟩
theorem Ha{d:V}{A:Around}{Y:List Addr}{s:Shared}{xs:List Value}(g:cF n A)(me:Mem W Y M s.heap)(r:VRelL W s.heap (Y++foot M) [d] xs)(h:iL d M fun a l=>l.length≤1000000∧∃r v,l=r++[v]∧putTo M a (.lst r) (Q v)):wpAny W.M A (call (biV .pop) xs) (ResG W (aO W) Y M s Q) NoE s:=by
 have hh:A.handled=none:=g.1
 obtain⟨x,rfl,r1⟩:=r.one_inv
 obtain⟨a,_,rfl,h1,h2,l,v,rfl,h3⟩:=jZ h
 have h3:=eS h3
 (revert r1;intro(e_:_=_);subst e_)
 obtain⟨k,vs,e1,e2⟩:=me.led _ (aD h1)
 have hl:=e2.length
 rw [Array.length_toList,List.length_append]at hl
 obtain⟨y,hy,ry⟩:=e2.get (j:=l.length) (v:=v) (by simp)
 simp only [List.length_singleton]at hl
 have hy':vs[vs.size-1]?=some y:=by
  rw [←Array.getElem?_toList,hl];exact hy
 refine call_meets PySem.F.slot_list_pop ⟨_,e1,rfl⟩ PySem.F.entry_list_pop (PySem.F.args_list_pop_1 _) (PySem.MeetsSeq.list_pop_last a vs k y hy' (by rw [sizeLine_eq];rw [List.length_append,List.length_singleton]at h2;exact q_5 h2 hl)) ⟨e1,?_⟩
 have hs:=Heap.SameBut.update s.heap a (Obj.mapSeq fun xs=>xs.eraseIdxIfInBounds (vs.size-1))
 have ho:=PySem.IsL.update e1 (fun xs=>xs.eraseIdxIfInBounds (vs.size-1))
 have hv:vs.eraseIdxIfInBounds (vs.size-1)=vs.pop:=by
  unfold Array.eraseIdxIfInBounds
  rw [dif_pos (by exact q_6 hl)]
  apply Array.toList_inj.mp
  simp [List.eraseIdx_eq_take_drop_succ,List.dropLast_eq_take]
  exact q_7 hl
 rw [hv]at ho
 have ed:VRelL W s.heap (Y++foot M) l vs.pop.toList:=by
  have:=e2.take l.length
  simp only [List.take_left']at this
  rw [Array.toList_pop,List.dropLast_eq_take,Array.length_toList,hl]
  exact this
 obtain⟨m5,st⟩:=oF (vs':=vs.pop.toList) (l':=l) (tk:=s.toks) me h1 hs (by rw [ho]) ed
 refine⟨_,_,h3,?_,m5,st⟩
 exact ry.keep st.keeps
theorem Bb{d:V}{i:Int}{A:Around}{Y:List Addr}{s:Shared}{xs:List Value}(g:cF n A)(me:Mem W Y M s.heap)(r:VRelL W s.heap (Y++foot M) [d,.fz (.int i)] xs)(h:∃ks l,d.dview M=some (ks,l)∧Q ((dGet i ks l).getD (.fz .none)) M):wpAny W.M A (call (biV .get) xs) (ResG W (aO W) Y M s Q) NoE s:=by
 have hh:A.handled=none:=g.1
 obtain⟨x,y,rfl,r1,⟨t,rfl⟩⟩:=r.two_inv
 obtain⟨ks,l,h1,h3⟩:=h
 obtain⟨a,kvs,rfl,e0,e1,rfl,e3⟩:=eU me h1 r1
 exact call_meetsIn PySem.F.slot_dict_get e1.typeIs PySem.F.entry_dict_get (PySem.F.args_dict_get_2 _ _) (meets_dict_get (intKind W.prog W.w) _ (mG _ _) e0)
  ⟨_,e1.mapOf,ResG.soft h3 me (fun _ _ e=>e) ⟨_,_,rfl⟩ (sN e3 rfl)⟩
theorem BF{d v:V}{i:Int}{A:Around}{Y:List Addr}{s:Shared}{xs:List Value}(g:cF n A)(me:Mem W Y M s.heap)(r:VRelL W s.heap (Y++foot M) [d,.fz (.int i),v] xs)(h:∃ks l,d.dview M=some (ks,l)∧Q ((dGet i ks l).getD v) M):wpAny W.M A (call (biV .get) xs) (ResG W (aO W) Y M s Q) NoE s:=by
 have hh:A.handled=none:=g.1
 obtain⟨x,y,z,rfl,r1,⟨t,rfl⟩,r3⟩:=r.three_inv
 obtain⟨ks,l,h1,h3⟩:=h
 obtain⟨a,kvs,rfl,e0,e1,rfl,e3⟩:=eU me h1 r1
 exact call_meetsIn PySem.F.slot_dict_get e1.typeIs PySem.F.entry_dict_get (PySem.F.args_dict_get_3 _ _ _) (meets_dict_get_default (intKind W.prog W.w) _ (mG _ _) e0 z)
  ⟨_,e1.mapOf,ResG.soft h3 me (fun _ _ e=>e) ⟨_,_,rfl⟩ (sN e3 r3)⟩
theorem F8{vs:List V}(h:w9 vs Q M):Op W n vs (aO W) (fun xs=>call (biV .range) xs) Q M:=by
 cases vs with
 |nil=>exact h.elim
 |cons v rs =>
  obtain⟨a,rfl,h1⟩:=bJ (show asI v _ from h)
  clear h
  cases rs with
  |nil=>exact fun A Y s xs g me r=>M8 g me r h1
  |cons u rs =>
   obtain⟨b,rfl,h2⟩:=bJ (show asI u _ from h1)
   clear h1
   cases rs with
   |nil=>exact fun A Y s xs g me r=>x0 g me r h2
   |cons=>exact h2.elim
theorem BN{vs:List V}(h:Dl vs Q M):Op W n vs (aO W) (fun xs=>call (biV .get) xs) Q M:=by
 cases vs with
 |nil=>exact h.elim
 |cons d rs =>
  cases rs with
  |nil=>exact h.elim
  |cons i rs =>
   obtain⟨i,rfl,h1⟩:=bJ (show asI i _ from h)
   clear h
   cases rs with
   |nil =>
    obtain⟨ks,l,u,h1,rfl,h2⟩:=h1
    exact fun A Y s xs g me r=>Bb g me r ⟨ks,l,h1,h2⟩
   |cons v rs =>
    cases rs with
    |nil =>
     obtain⟨ks,l,u,h1,rfl,h2⟩:=h1
     exact fun A Y s xs g me r=>BF g me r ⟨ks,l,h1,h2⟩
    |cons=>exact h1.elim
theorem Gg(wk:Wk W G){b:Bi}{vs:List V}(h:wB b vs Q M):Op W n vs (aO W) (fun xs=>call (biV b) xs) Q M:=by
 cases b with
 |len=>obtain⟨v,rfl,h⟩:=dJ h;exact fun A Y s xs g me r=>Gm g me r h
 |isinst=>obtain⟨v,u,rfl,h⟩:=iN h;exact Al wk h
 |abs=>obtain⟨v,rfl,h1⟩:=dJ h;clear h;obtain⟨a,rfl,h⟩:=bJ h1;exact fun A Y s xs g me r=>FN g me r h
 |int=>obtain⟨v,rfl,h1⟩:=dJ h;clear h;obtain⟨a,rfl,h⟩:=fA h1;exact fun A Y s xs g me r=>GT g me r h
 |max=>obtain⟨v,u,rfl,h1⟩:=iN h;clear h;obtain⟨a,rfl,h2⟩:=bJ h1;clear h1;obtain⟨b,rfl,h3⟩:=bJ h2;exact fun A Y s xs g me r=>EE g me r h3
 |min=>obtain⟨v,u,rfl,h1⟩:=iN h;clear h;obtain⟨a,rfl,h2⟩:=bJ h1;clear h1;obtain⟨b,rfl,h3⟩:=bJ h2;exact fun A Y s xs g me r=>GS g me r h3
 |sum=>obtain⟨v,rfl,h⟩:=dJ h;exact fun A Y s xs g me r=>Dw g me r h
 |sorted=>obtain⟨v,rfl,h⟩:=dJ h;exact fun A Y s xs g me r=>I7 g me r h
 |tuple=>obtain⟨v,rfl,h⟩:=dJ h;exact fun A Y s xs g me r=>V6 g me r h
 |list=>obtain⟨v,rfl,h⟩:=dJ h;exact fun A Y s xs g me r=>DG g me r h
 |enum=>exact h.elim
 |dict=>obtain⟨v,rfl,h⟩:=dJ h;exact fun A Y s xs g me r=>Af wk g me r h
 |range=>exact F8 h
 |append=>obtain⟨v,u,rfl,h⟩:=iN h;exact fun A Y s xs g me r=>pJ g me r h
 |extend=>obtain⟨v,u,rfl,h⟩:=iN h;exact fun A Y s xs g me r=>D2 g me r h
 |pop=>obtain⟨v,rfl,h⟩:=dJ h;exact fun A Y s xs g me r=>Ha g me r h
 |get=>exact BN h
end
end
section
noncomputable def cQ{α:Type}(l:List α)(i:Int):Option α:=if 0≤i then l[i.toNat]? else if 0≤i+l.length then l[(i+l.length).toNat]? else none
def Fm(d:D)(i:Int)(Q:aJ)(M:Led):Prop :=
 match d with
 |.str x=>0≤i∧i<x.length∧x.length≤1000∧Q (.fz (.str (Txt.item x i))) M
 |.dct ks l=>SK (dGet i ks l) fun d=>Q (.fz d) M
 |.tup l=>few 1000000 l=true∧SK (cQ l i) fun d=>Q (.fz d) M
 |.lst l=>l.length≤1000000∧SK (cQ l i) fun d=>Q (.fz d) M
 |_=>False
def GI(c:Cell)(i:Int)(Q:aJ)(M:Led):Prop :=
 match c with
 |.lst l=>l.length≤1000000∧SK (cQ l i) fun v=>Q v M
 |.dct ks l=>SK (dGet i ks l) fun v=>Q v M
 |.inst _ _ _ _=>False
def CD(o i:V)(Q:aJ)(M:Led):Prop:=asI i fun i=>match o with
 |.fz d=>Fm d i Q M
 |.loc a=>atC M a fun c=>GI c i Q M
theorem cP{α β:Type}(f:α→β)(i:Int):∀(ks:List Int) (l:List α),dGet i ks (l.map f)=(dGet i ks l).map f
 |[],_=>rfl
 |k::ks,[]=>rfl
 |k::ks,v::l=>by
  rw [List.map_cons,eD,eD]
  by_cases c:k=i
  ·rw [if_pos c,if_pos c];rfl
  ·rw [if_neg c,if_neg c];exact cP f i ks l
section
variable{W:Wd}{G:Str→Option D}{n:Nat}{env:Env}{m:Loc}{M:Led}{Q:aJ}
set_option tactic.hygienic true in
theorem mN{α:Type}{l:List α}{i:Int}{v:α}(h:cQ l i=some v)(hz:l.length≤1000000) : -(2 ^ 62)≤i∧i<2 ^ 62∧∃j,seqIndex? i l.length=some j∧l[j]?=some v:=by
 unfold cQ at h
 split at h
 ·rename_i h0
  have hl:i.toNat<l.length:=by
   rcases Nat.lt_or_ge i.toNat l.length with q|q
   ·exact q
   ·rw [List.getElem?_eq_none q]at h;exact aF h
  refine⟨by exact IK h0,by exact Iz hz h0 hl,i.toNat,?_,h⟩
  exact seqIndex_at h0 (by exact q_34 h0 hl)
 ·split at h
  ·rename_i h0 h1
   refine⟨by exact IE hz h1,by exact JV h0,(i+l.length).toNat,?_,h⟩
   exact seqIndex_back (by exact By h0) h1
  ·exact aF h
theorem oZ{o:V}{ks:List Int}{l:List V}{i:Int}{v:V}(hd:o.dview M=some (ks,l))(hv:dGet i ks l=some v)(q:Q v M):zX W n o (.fz (.int i)) Q M:=fun value slice hs A Y s xs g me r=>by
 obtain⟨x,y,rfl,r1,⟨t,rfl⟩⟩:=r.two_inv
 obtain⟨a,kvs,rfl,e0,e1,rfl,e3⟩:=eU me hd r1
 obtain⟨x,ex,rx⟩:=(oX e3).1 v hv
 exact tail_any e1.typeIs PySem.F.slot_dict_getitem.lookup (wpAny_getItem_of (knd:=intKind W.prog W.w) (mG _ _) e1.mapOf ex (ResG.soft q me (fun _ _ e=>e) ⟨_,_,rfl⟩ rx)) (eA hs _ _)
theorem S3{o i:V}(h:CD o i Q M):zX W n o i Q M:=by
 obtain⟨i,e,h1⟩:=bJ h
 clear h
 subst e
 cases o with
 |fz d =>
  cases d <;> first|exact h1.elim|skip
  ·obtain⟨h0,h1,h2,q⟩:=h1
   intro value slice hs A Y s xs g me r
   obtain⟨x,y,rfl,⟨t,rfl⟩,⟨u,rfl⟩⟩:=r.two_inv
   refine PyProof.Rows.item_str (by unfold fitsSsize;simp;exact Iq h0 h1 h2) (by exact Hv h0 h1) h1 (fun _=>ResG.soft q me (fun _ _ e=>e) ⟨_,_,rfl⟩ ⟨_,rfl⟩) (eA hs _ _) (fun r=>by cases value <;> rfl)
  ·obtain⟨hz,q⟩:=h1
   obtain⟨d,h1,q⟩:=q
   obtain⟨h2,h3,j,h4,h5⟩:=mN h1 (few_le hz)
   exact mK (b:=true) (l:=List.map V.fz _) rfl h2 h3 (by rw [List.length_map];exact h4) (by rw [List.getElem?_map,h5];rfl) q
  ·obtain⟨hz,q⟩:=h1
   obtain⟨d,h1,q⟩:=q
   obtain⟨h2,h3,j,h4,h5⟩:=mN h1 hz
   exact mK (b:=false) (l:=List.map V.fz _) rfl h2 h3 (by rw [List.length_map];exact h4) (by rw [List.getElem?_map,h5];rfl) q
  ·obtain⟨d,h1,q⟩:=h1
   exact oZ (l:=List.map V.fz _) rfl (by rw [cP,h1];rfl) q
 |loc a =>
  obtain⟨c,hl,h2⟩:=h1
  cases c with
  |lst l =>
   obtain⟨hz,q⟩:=h2
   obtain⟨d,h1,q⟩:=q
   obtain⟨h2,h3,j,h4,h5⟩:=mN h1 hz
   exact mK (b:=false) (congrArg cV hl) h2 h3 h4 h5 q
  |dct ks l =>
   obtain⟨v,h1,q⟩:=h2
   exact oZ (congrArg cDv hl) h1 q
  |inst=>exact h2.elim
noncomputable def dPut{α:Type}(i:Int)(v:α):List Int→List α→List Int × List α
 |k::ks,u::l=>if k=i then(k::ks,v::l)else(k::(dPut i v ks l).1,u::(dPut i v ks l).2)
 |_,_=>([i],[v])
theorem eG{α:Type}{i k:Int}{v u:α}{ks:List Int}{l:List α}:dPut i v (k::ks) (u::l)=if k=i then(k::ks,v::l)else(k::(dPut i v ks l).1,u::(dPut i v ks l).2):=rfl
def H0(c:Cell)(a:Addr)(i:Int)(u:V)(QU:Led→Prop)(M:Led):Prop :=
 match c with
 |.lst l=>0≤i∧i<l.length∧l.length≤1000000∧putTo M a (.lst (l.set i.toNat u)) QU
 |.dct ks l=>ks.length≤1000000∧putTo M a (.dct (dPut i u ks l).1 (dPut i u ks l).2) QU
 |.inst _ _ _ _=>False
def tI(o i u:V)(QU:Led→Prop)(M:Led):Prop:=asI i fun i=>match o with
 |.loc a=>atC M a fun c=>H0 c a i u QU M
 |.fz _=>False
theorem mP {prog:Program}{w:World}{A:Around}{E:Value→Shared→Prop}{s:Shared}{l:Addr}{items:Array Value}{n0:Nat}{k:Int}{t:Tok}{v:Value}{Q:Unit→Shared→Prop}(ho:s.heap.get? l=some {cls:=.type "list",data:=.seq items n0})
  (h0:0≤k) (hfit:k<2 ^ 63) (hn:k<items.size)
  (hQ:∀h',Heap.SameBut l s.heap h'→∀n',h'.get? l=some {cls:=.type "list",data:=.seq (items.setIfInBounds k.toNat v) n'}→Q () {s with heap:=h'}) :
  wpAny (model prog w) A (setItem (.ref l) (.int k t) v) Q E s:=by
 have hT:s.TypeIs (.ref l) "list":=⟨_,ho,rfl⟩
 unfold setItem
 try with_reducible refine wpAny_holding ?_
 first|refine wpAny_bind (wpAny_pure ?_)|skip
 refine wpAny_bind (wpAny_sequenceKey hT (by decide) ?_)
 refine wpAny_bind (wpAny_callSpecial?_slot (name:=Str.ofString "__setitem__") hT slot_list_setitem
  (wpAny_call_entry slot_list_setitem hT entry_list_setitem ?_ (args_list_setitem _ _ _)))
 show wpAny _ _ (Builtin.List.listSubscript? (.int k t)>>=_) _ _ s
 refine wpAny_bind (wpAny_listSubscript_int (fitsIndex_of h0 hfit) ?_)
 clear hfit
 obtain⟨j,rfl⟩:=Int.eq_ofNat_of_zero_le h0
 have hj:j<items.size:=by exact jO ‹_›
 have hx':items[j]?=some items[j]:=Array.getElem?_eq_getElem hj
 show wpAny _ _ ((seqItemAt l j>>=fun r=>pure (r.map (j,·)))>>=_) _ _ s
 refine wpAny_bind (wpAny_bind (wpAny_seqItemAt ho rfl (wpAny_pure ?_)))
 rw [hx']
 show wpAny _ _ (setSeqItemAt l j v>>=_) _ _ s
 have hfin:=Heap.get?_update_self (Obj.mapSeq (·.setIfInBounds j v)) ho rfl
 refine wpAny_bind (wpAny_setSeqItemAt ho rfl ?_)
 first
  |exact wpAny_bind (wpAny_pure (wpAny_pure ⟨.none,rfl,wpAny_pure (hQ _ (Heap.SameBut.update ..) _ hfin)⟩))
  |exact wpAny_pure ⟨.none,rfl,wpAny_pure (hQ _ (Heap.SameBut.update ..) _ hfin)⟩
theorem pB{h:Heap}{U:List Addr}{i:Int}{u:V}{z:Value}(r:aO W h U u z):∀{kvs:List (Int × Value)}{l:List V},(kvs.map (·.1)).Nodup→VRelL W h U l (kvs.map (·.2)) →
  (stored kvs i z).map (·.1)=(dPut i u (kvs.map (·.1)) l).1∧VRelL W h U (dPut i u (kvs.map (·.1)) l).2 ((stored kvs i z).map (·.2))
 |[],l,_,e=>by
  have e1:stored ([]:List (Int × Value)) i z = [(i,z)]:=rfl
  have e2:dPut i u [] l=([i],[u]):=rfl
  rw [e1]
  simp only [List.map_nil,e2]
  exact⟨rfl,VRelL.one r⟩
 |(k,y)::kvs,[],_,e=>bV e
 |(k,y)::kvs,v::l,nd,e=>by
  obtain⟨x,xs,e1,a,b⟩:=e
  simp only [List.map_cons,List.cons.injEq]at e1
  obtain⟨rfl,rfl⟩:=e1
  simp only [List.map_cons,List.nodup_cons]at nd
  obtain⟨ih1,ih2⟩:=pB (i:=i) r nd.2 b
  rw [List.map_cons,eG]
  unfold stored at ih1 ih2 ⊢
  by_cases c:k=i
  ·subst c
   have hno:∀kv∈kvs,(if kv.1=k then(kv.1,z)else kv)=kv:=by
    intro kv hkv
    rw [if_neg]
    intro e
    exact nd.1 (mMr ⟨kv,hkv,e⟩)
   have hm:kvs.map (fun kv=>if kv.1=k then(kv.1,z)else kv)=kvs:=by
    conv=>rhs;rw [←List.map_id kvs]
    exact List.map_congr_left hno
   simp only [List.any_cons,decide_true,Bool.true_or,if_true,List.map_cons,hm]
   exact⟨trivial,VRelL.cons r b⟩
  ·simp only [List.any_cons,c,decide_false,Bool.false_or,if_false]
   by_cases d:(kvs.any fun kv=>decide (kv.1=i))=true
   ·simp only [d,if_true]at ih1 ih2 ⊢
    simp only [List.map_cons,c,if_false]
    exact⟨by rw [ih1],VRelL.cons a ih2⟩
   ·simp only [d,if_false]at ih1 ih2 ⊢
    simp only [List.cons_append,List.map_cons]
    exact⟨by rw [←ih1];simp [d],VRelL.cons a (by simpa [d]using ih2)⟩
theorem j9{QU:Led→Prop}{o i u:V}{y j z:Value}{A:Around}{Y:List Addr}{s:Shared}(me:Mem W Y M s.heap)(r:aO W s.heap (Y++foot M) o y)(ri:aO W s.heap (Y++foot M) i j)(r2:aO W s.heap (Y++foot M) u z)(q:tI o i u QU M) :
  wpAny W.M A (setItem y j z) (fun _ s'=>ResU W Y M s QU s') NoE s:=by
 obtain⟨i,e,q1⟩:=bJ q
 clear q
 subst e
 cases o with
 |fz=>exact q1.elim
 |loc a =>
  obtain⟨t,rfl⟩:=ri
  (revert r;intro(e_:_=_);subst e_)
  obtain⟨c,hl,q⟩:=q1
  cases c with
  |lst l =>
   obtain⟨h0,h1,hz,q⟩:=q
   have q:=eS q
   obtain⟨k,vs,e1,e2⟩:=me.led _ (aD hl)
   have hlen:=e2.length
   rw [Array.length_toList]at hlen
   have e1':s.heap.get? a=some {cls:=.type "list",data:=.seq vs k}:=e1
   refine mP e1' h0 (by exact q_40 h1 hz) (by rw [hlen];exact_mod_cast h1) fun h' hs k' ho=>?_
   obtain⟨m5,st⟩:=oF (vs':=(vs.setIfInBounds i.toNat z).toList) (l':=l.set i.toNat u) (tk:=s.toks) (k:=k') me hl hs (by rw [ho]) (by
    rw [Array.toList_setIfInBounds];exact e2.set _ r2)
   exact⟨_,q,m5,st⟩
  |dct ks l =>
   obtain⟨hz,q⟩:=q
   have q:=eS q
   obtain⟨e0,kvs,e1,e2,e3⟩:=me.led _ (aD hl)
   subst e2
   have nd:(kvs.map (·.1)).Nodup:=let⟨_,_,_,_,_,_,_,_,hn⟩:=e1;hn
   obtain⟨s1,s2⟩:=pB (i:=i) r2 nd e3
   refine wpAny_setItem_pairs (knd:=intKind W.prog W.w) (mG _ _) e1 (fun h' hd hs=>?_) (by rw [sizeLine_eq];simp at hz;exact ar_le ‹_› (by decide))
   obtain⟨m5,st⟩:=Mem.put (s:=s) (s':={s with heap:=h',toks:=s.toks+1}) (c':=.dct (dPut i u (kvs.map (·.1)) l).1 (dPut i u (kvs.map (·.1)) l).2) me hl rfl (fun b o e nb=>(hs.2 b (by simpa [Cell.foot]using nb)).trans e)
    (fun b hb=>by simp only [Cell.foot,List.mem_singleton]at hb;subst hb;obtain⟨o,_,_,e,_⟩:=hd;exact⟨o,e⟩) ⟨_,_,rfl⟩
    ⟨e0,_,hd,s1,by
     have kp:bA (Y++foot M) (Y++foot M) s.heap h':=fun b o e nb=>⟨(hs.2 b (fun z=>nb (mAr (.inr (z▸aT (aD hl) (aW _ _)))))).trans e,nb⟩
     exact s2.keep kp⟩
   exact⟨_,q,m5,st⟩
  |inst=>exact q.elim
end
end
section
inductive Fl where
 |next|brk|cont
 |ret (v:V)
def rE(W:Wd)(h:Heap)(U:List Addr):Fl→Flow→Prop
 |.next,x=>x = .next
 |.brk,x=>x = .brk
 |.cont,x=>x = .cont
 |.ret v,x=>∃y,x = .ret y∧aO W h U v y
theorem rE.keep{W:Wd}{U U':List Addr}{h h':Heap}(x:bA U U' h h'):∀{v:Fl}{y:Flow},rE W h U v y→rE W h' U' v y
 |.next,_,e=>e
 |.brk,_,e=>e
 |.cont,_,e=>e
 |.ret _,_,⟨y,e,r⟩=>⟨y,e,r.keep x⟩
noncomputable def fr(env:Env):List Addr:=env.locals::env.cells.map (·.2)
noncomputable abbrev bG:=Fl→Loc→Led→Prop
inductive ResS(W:Wd)(Y:List Addr)(env:Env)(M:Led)(s:Shared)(Q:bG)(x:Flow)(s':Shared):Prop
 |mk (f:Fl) (m':Loc) (M':Led) (q:Q f m' M') (r:rE W s'.heap (Y++foot M') f x) (me:Mem W Y M' s'.heap) (fm:Frm W Y (Y++foot M') env m' s'.heap) (st:Step (fr env++foot M) (fr env++foot M') s s')
def TS(W:Wd)(n:Nat)(env:Env)(st:Stmt)(m:Loc)(Q:bG)(M:Led):Prop :=
 ∀A Y s,cF n A→Mem W Y M s.heap→Frm W Y (Y++foot M) env m s.heap→wpAny W.M A (exec st env) (ResS W Y env M s Q) NoE s
def TSs(W:Wd)(n:Nat)(env:Env)(st:List Stmt)(m:Loc)(Q:bG)(M:Led):Prop :=
 ∀A Y s,cF n A→Mem W Y M s.heap→Frm W Y (Y++foot M) env m s.heap→wpAny W.M A (execs st env) (ResS W Y env M s Q) NoE s
theorem Step.fr{F S T:List Addr}{s s':Shared}(x:Step S T s s'):Step (F++S) (F++T) s s' where
 keep b o e n:=x.keep b o e fun h=>n (mAr (.inr h))
 rest:=x.rest
 new a ha:=by
  rcases mAp ha with h|h
  ·exact .inl (mAr (.inl h))
  ·rcases x.new a h with h|h
   ·exact .inl (mAr (.inr h))
   ·exact .inr h
section
variable{W:Wd}{G:Str→Option D}{n:Nat}{env:Env}{m:Loc}{M:Led}{Q:bG}
theorem ResS.step{Y:List Addr}{M':Led}{s s' s'':Shared}{x:Flow}(t:Step (Mine.fr env++foot M) (Mine.fr env++foot M') s s')(r:ResS W Y env M' s' Q x s''):ResS W Y env M s Q x s'' :=
 let⟨f,m',N,a,b,c,d,e⟩:=r
 ⟨f,m',N,a,b,c,d,t.trans e⟩
theorem ResS.mono{Y:List Addr}{s s':Shared}{x:Flow}{Q':bG}(r:ResS W Y env M s Q x s')(h:∀f m N,Q f m N→Q' f m N):ResS W Y env M s Q' x s' :=
 let⟨f,m',N,a,b,c,d,e⟩:=r
 ⟨f,m',N,h _ _ _ a,b,c,d,e⟩
theorem ResS.here{Y:List Addr}{s:Shared}{f:Fl}{x:Flow}(q:Q f m M)(r:rE W s.heap (Y++foot M) f x)(me:Mem W Y M s.heap)(fm:Frm W Y (Y++foot M) env m s.heap):ResS W Y env M s Q x s :=
 ⟨f,m,M,q,r,me,fm,Step.refl _ _⟩
theorem TS.mono{st:Stmt}{Q':bG}(h:TS W n env st m Q M)(k:∀f m N,Q f m N→Q' f m N):TS W n env st m Q' M :=
 fun A Y s g me f=>wpAny_mono (h A Y s g me f) (fun _ _ r=>r.mono k) fun _ _ x=>x
theorem TSs.mono{st:List Stmt}{Q':bG}(h:TSs W n env st m Q M)(k:∀f m N,Q f m N→Q' f m N):TSs W n env st m Q' M :=
 fun A Y s g me f=>wpAny_mono (h A Y s g me f) (fun _ _ r=>r.mono k) fun _ _ x=>x
theorem Q4(q:Q .next m M):TSs W n env [] m Q M:=fun A Y s g me f=>wpAny_execs_nil (ResS.here q rfl me f)
theorem H8{st:Stmt}{rest:List Stmt}(h:TS W n env st m (fun f m' M'=>match f with | .next=>TSs W n env rest m' Q M'|f=>Q f m' M') M):TSs W n env (st::rest) m Q M:=fun A Y s g me f =>
 wpAny_execs_cons (wpAny_mono (h A Y s g me f) (fun x s1 hp1=>by
  obtain⟨fl,m',M',q,r,me1,f1,t⟩:=hp1
  cases fl with
  |next =>
   (revert r;intro(e_:_=_);subst e_)
   exact wpAny_mono (q A Y s1 g me1 f1) (fun _ _ r=>r.step t) fun _ _ x=>x
  |brk=>(revert r;intro(e_:_=_);subst e_);exact⟨.brk,m',M',q,rfl,me1,f1,t⟩
  |cont=>(revert r;intro(e_:_=_);subst e_);exact⟨.cont,m',M',q,rfl,me1,f1,t⟩
  |ret v =>
   obtain⟨y,rfl,r⟩:=r
   exact⟨.ret v,m',M',q,⟨y,rfl,r⟩,me1,f1,t⟩) fun _ _ x=>x)
theorem Mem.yset{Y:List Addr}{h h':Heap}{y:Addr}(me:Mem W Y M h)(hy:y∈Y)(hs:Heap.SameBut y h h')(al:∃o,h'.get? y=some o):Mem W Y M h' where
 alive a ha:=by
  by_cases e:a=y
  ·subst e;exact al
  ·obtain⟨o,q⟩:=me.alive a ha;exact⟨o,(hs.2 a e).trans q⟩
 base b o e:=by
  obtain⟨h1,h2⟩:=me.base b o e
  have:b≠y:=fun z=>h2 (mAr (.inl (z▸hy)))
  exact⟨(hs.2 b this).trans h1,h2⟩
 nodup:=me.nodup
 disj:=me.disj
 led p hp:=(me.led p hp).keep (fun b o e n=>⟨(hs.2 b (fun z=>n (mAr (.inl (z▸hy))))).trans e,n⟩) fun b hb o e =>
  (hs.2 b (fun z=>me.disj b (aT hp hb) (z▸hy))).trans e
theorem Frm.ext{Y U:List Addr}{m m':Loc}{h:Heap}(f:Frm W Y U env m h)(e:∀x,lk x m'=lk x m):Frm W Y U env m' h where
 kind:=f.kind
 glo:=f.glo
 bui:=f.bui
 lY:=f.lY
 cY:=f.cY
 ns:=by
  obtain⟨mR,h1,h2⟩:=f.ns
  exact⟨mR,h1,fun x v a b=>h2 x v (by rw [←e];exact a) b⟩
 cl:=fun x v a b=>f.cl x v (by rw [←e];exact a) b
 ce:=f.ce
 kd:=fun x v a=>f.kd x v (by rw [←e];exact a)
 ap:=f.ap
 ad:=f.ad
noncomputable def bW(env:Env)(x:Str):Bool:=env.kindOf x==some .local||env.kindOf x==some .cell
theorem dZ{Y:List Addr}{s:Shared}{x:Str}{v:V}{y:Value}{A:Around}{K:Unit→Shared→Prop}(hk:bW env x=true)(me:Mem W Y M s.heap)(f:Frm W Y (Y++foot M) env m s.heap)(r:aO W s.heap (Y++foot M) v y)
  (k:∀s',Mem W Y M s'.heap→Frm W Y (Y++foot M) env (bE x v m) s'.heap→Step (Mine.fr env++foot M) (Mine.fr env++foot M) s s'→bA (Y++foot M) (Y++foot M) s.heap s'.heap→(env.kindOf x=some .local→Step ([env.locals]++foot M) ([env.locals]++foot M) s s')→K () s'):wpAny W.M A (storeName env x y) K NoE s:=by
 have kp:∀{h':Heap}{a:Addr},a∈Y→Heap.SameBut a s.heap h'→bA (Y++foot M) (Y++foot M) s.heap h':=fun ha hs b o e n=>⟨(hs.2 b (fun z=>n (mAr (.inl (z▸ha))))).trans e,n⟩
 simp only [bW,Bool.or_eq_true,beq_iff_eq]at hk
 rcases hk with hk|hk
 ·obtain⟨mR,hn,hm⟩:=f.ns
  refine wpAny_storeName_local hk hn (fun h' hn' hs=>?_) (by simp [f.kind])
  have al:∃o,h'.get? env.locals=some o:=let⟨o,_,_,e,_⟩:=hn';⟨o,e⟩
  have kk:=kp f.lY hs
  refine k _ (me.yset f.lY hs al) ?_ ⟨fun b o e n=>(hs.2 b (fun z=>n (mAr (.inl (by rw [z];exact .head _))))).trans e,⟨_,_,rfl⟩,fun _ h=>.inl h⟩ kk fun _=>⟨fun b o e n=>(hs.2 b (fun z=>n (mAr (.inl (by rw [z];exact .head _))))).trans e,⟨_,_,rfl⟩,fun _ h=>.inl h⟩
  exact{
   kind:=f.kind
   glo:=f.glo
   bui:=f.bui
   lY:=f.lY
   cY:=f.cY
   ns:=⟨_,hn',fun z u a b=>by
    rw [hW]at a
    by_cases e:x=z
    ·subst e
     rw [if_pos rfl]at a
     (have e_:=Option.some.inj a;clear a;subst e_)
     exact⟨y,by simp,r.keep kk⟩
    ·rw [if_neg e]at a
     obtain⟨w,h1,h2⟩:=hm z u a b
     exact⟨w,by simp [show ¬z=x from fun q=>e q.symm,h1],h2.keep kk⟩⟩
   cl:=fun z u a b=>by
    rw [hW]at a
    by_cases e:x=z
    ·subst e;rw [hk]at b;rcases b with b|b <;> cases b
    ·rw [if_neg e]at a
     obtain⟨c,w,h1,⟨o,h2,h3⟩,h4⟩:=f.cl z u a b
     exact⟨c,w,h1,⟨o,(hs.2 c (f.ap _ (mem_of_lookup h1))).trans h2,h3⟩,h4.keep kk⟩
   ce:=fun z a=>by
    obtain⟨c,w,h1,o,h2,h3⟩:=f.ce z a
    exact⟨c,w,h1,o,(hs.2 c (f.ap _ (mem_of_lookup h1))).trans h2,h3⟩
   kd:=fun z u a=>by
    rw [hW]at a
    by_cases e:x=z
    ·subst e;exact .inl hk
    ·rw [if_neg e]at a;exact f.kd z u a
   ap:=f.ap
   ad:=f.ad}
 ·obtain⟨c,w0,hc,hv⟩:=f.ce x hk
  have hcY:c∈Y:=f.cY _ (mem_of_lookup hc)
  refine wpAny_storeName_cell f.kind hk hc hv fun h' hn' hs=>?_
  have al:∃o,h'.get? c=some o:=let⟨o,e,_⟩:=hn';⟨o,e⟩
  have kk:=kp hcY hs
  have other:∀{z:Str}{c':Addr},z≠x→env.cells.lookup z=some c'→c'≠c:=by
   intro z c' hz h1 e
   subst e
   have m1:=mem_of_lookup h1
   have m2:=mem_of_lookup hc
   have:=f.ad
   clear hs al kk hn' hv hcY r k me f
   revert m1 m2 this
   generalize env.cells=cs
   intro m1 m2 pw
   induction cs with
   |nil=>cases m1
   |cons p cs ih =>
    rw [List.pairwise_cons]at pw
    rcases mCp m1 with e1|e1
    ·rcases mCp m2 with e2|e2
     ·rw [←e1]at e2;exact hz (congrArg Prod.fst e2).symm
     ·exact pw.1 _ e2 (by rw [←e1])
    ·rcases mCp m2 with e2|e2
     ·exact pw.1 _ e1 (by rw [←e2])
     ·exact ih e1 e2 pw.2
  refine k _ (me.yset hcY hs al) ?_ ⟨fun b o e n=>(hs.2 b (fun z=>n (mAr (.inl (by rw [z];exact .tail _ (mMr ⟨_,mem_of_lookup hc,rfl⟩)))))).trans e,⟨_,_,rfl⟩,fun _ h=>.inl h⟩ kk (fun h=>by rw [hk]at h;cases h)
  exact{
   kind:=f.kind
   glo:=f.glo
   bui:=f.bui
   lY:=f.lY
   cY:=f.cY
   ns:=by
    obtain⟨mR,⟨o,es,ep,e1,e2⟩,hm⟩:=f.ns
    refine⟨mR,⟨o,es,ep,(hs.2 _ (fun z=>f.ap _ (mem_of_lookup hc) z.symm)).trans e1,e2⟩,fun z u a b=>?_⟩
    rw [hW]at a
    by_cases e:x=z
    ·subst e;rw [hk]at b;cases b
    ·rw [if_neg e]at a
     obtain⟨w,h1,h2⟩:=hm z u a b
     exact⟨w,h1,h2.keep kk⟩
   cl:=fun z u a b=>by
    rw [hW]at a
    by_cases e:x=z
    ·subst e
     rw [if_pos rfl]at a
     (have e_:=Option.some.inj a;clear a;subst e_)
     exact⟨c,y,hc,hn',r.keep kk⟩
    ·rw [if_neg e]at a
     obtain⟨c',w,h1,⟨o,h2,h3⟩,h4⟩:=f.cl z u a b
     exact⟨c',w,h1,⟨o,(hs.2 c' (other (Ne.symm e) h1)).trans h2,h3⟩,h4.keep kk⟩
   ce:=fun z a=>by
    by_cases e:x=z
    ·subst e;exact⟨c,_,hc,hn'⟩
    ·obtain⟨c',w,h1,o,h2,h3⟩:=f.ce z a
     exact⟨c',w,h1,o,(hs.2 c' (other (Ne.symm e) h1)).trans h2,h3⟩
   kd:=fun z u a=>by
    rw [hW]at a
    by_cases e:x=z
    ·subst e;exact .inr (.inl hk)
    ·rw [if_neg e]at a;exact f.kd z u a
   ap:=f.ap
   ad:=f.ad}
theorem iJ{Y:List Addr}{s0 s:Shared}{M0:Led}{x:Str}{v:V}{y:Value}{A:Around}(t:Step (Mine.fr env++foot M0) (Mine.fr env++foot M) s0 s)(hk:bW env x=true)(me:Mem W Y M s.heap)(f:Frm W Y (Y++foot M) env m s.heap)(r:aO W s.heap (Y++foot M) v y)
  (q:Q .next (bE x v m) M):wpAny W.M A (storeName env x y) (fun _=>ResS W Y env M0 s0 Q .next) NoE s :=
 dZ hk me f r fun s' me' f' t' _ _=>ResS.step t ⟨.next,_,_,q,rfl,me',f',t'⟩
theorem mQ{x:Str}{p:Pos}{value:Expr}{pos:Pos}(hk:bW env x=true)(hs:swapsWith value (some (.Name x p)) pos.line env=pure false)(h:TE W n env m value (fun v M1=>Q .next (bE x v m) M1) M):TS W n env (.Assign [.Name x p] value pos) m Q M:=fun A Y s g me f =>
 wpAny_Assign_Name (h.use g me f fun y s1 v M1 q rv me1 f1 t1=>iJ t1.fr hk me1 f1 rv q) hs
theorem V0{e:Expr}{pos:Pos}(hs:swapsWith e none pos.line env=pure false)(h:TE W n env m e (fun v M1=>v = .fz .none∧Q .next m M1) M):TS W n env (.Expr e pos) m Q M:=fun A Y s g me f =>
 wpAny_Expr (h.use g me f fun y s1 v M1 hp1 rv me1 f1 t1=>by
  obtain⟨hv,q⟩:=hp1
  subst hv
  (revert rv;intro(e_:_=_);subst e_)
  exact⟨.next,m,M1,q,rfl,me1,f1,t1.fr⟩) (by unfold interactive;rw [f.kind];rfl) hs
theorem q8{e:Expr}{pos:Pos}(h:TE W n env m e (fun v M1=>Q (.ret v) m M1) M):TS W n env (.Return (some e) pos) m Q M:=fun A Y s g me f =>
 wpAny_Return_some (h.use g me f fun y s1 v M1 q rv me1 f1 t1=>⟨.ret v,m,M1,q,⟨y,rfl,rv⟩,me1,f1,t1.fr⟩)
theorem yF{pos:Pos}(q:Q (.ret (.fz .none)) m M):TS W n env (.Return none pos) m Q M:=fun A Y s g me f =>
 wpAny_Return_none (ResS.here q ⟨.none,rfl,rfl⟩ me f)
theorem V9{pos:Pos}(q:Q .next m M):TS W n env (.Pass pos) m Q M:=fun A Y s g me f=>wpAny_Pass (ResS.here q rfl me f)
theorem I5{pos:Pos}(q:Q .brk m M):TS W n env (.Break pos) m Q M:=fun A Y s g me f=>wpAny_Break (ResS.here q rfl me f)
theorem uX{pos:Pos}(q:Q .cont m M):TS W n env (.Continue pos) m Q M:=fun A Y s g me f=>wpAny_Continue (ResS.here q rfl me f)
theorem EF{test:Expr}{body orelse:List Stmt}{pos:Pos}(h:TB W n env m test (fun b M1=>if b then TSs W n env body m Q M1 else TSs W n env orelse m Q M1) M):TS W n env (.If test body orelse pos) m Q M:=fun A Y s g me f =>
 wpAny_If (h.use g me f fun y s1 b M1 q rv me1 f1 t1=>by
  subst rv
  cases y <;> simp only [if_true,Bool.false_eq_true,if_false]at q ⊢
  ·exact wpAny_mono (q A Y s1 g me1 f1) (fun _ _ r=>r.step t1.fr) fun _ _ x=>x
  ·exact wpAny_mono (q A Y s1 g me1 f1) (fun _ _ r=>r.step t1.fr) fun _ _ x=>x)
theorem Aj{x:Str}{p:Pos}{op:Operator}{value:Expr}{pos:Pos}(hk:bW env x=true)(ho:op = .Add∨op = .Sub){i:Int}(hx:lk x m=some (.fz (.int i)))(hl:env.kindOf x=some .local)
  (h:TE W n env m value (fun v M1=>∃j,v = .fz (.int j)∧Q .next (bE x (.fz (.int (if op = .Add then i+j else i-j))) m) M1) M):TS W n env (.AugAssign (.Name x p) op value pos) m Q M:=fun A Y s g me f=>by
 refine wpAny_AugAssign_Name ?_
 obtain⟨mR,hn,hm⟩:=f.ns
 obtain⟨y,hy,t,rfl⟩:=hm x _ hx hl
 refine wpAny_loadName_local f.kind hl hn hy (h.use g me f fun y s1 v M1 hp1 rv me1 f1 t1=>?_)
 obtain⟨j,hv,q⟩:=hp1
 subst hv
 obtain⟨u,rfl⟩:=rv
 have kk:∀tk,Step (foot M1) (foot M1) s1 {s1 with toks:=tk}:=fun tk=>Step.same (fun _ _ e=>e) ⟨_,_,rfl⟩
 rcases ho with rfl|rfl
 ·refine PyProof.Rows.iadd_int ?_
  exact iJ (s:={s1 with toks:=s1.toks+1}) (v:=.fz (.int (i+j))) (t1.trans (kk _)).fr hk me1 f1 ⟨_,rfl⟩ (by exact q)
 ·refine PyProof.Rows.isub_int ?_
  exact iJ (s:={s1 with toks:=s1.toks+1}) (v:=.fz (.int (i-j))) (t1.trans (kk _)).fr hk me1 f1 ⟨_,rfl⟩ (by exact q)
theorem yD(wk:Wk W G)(ck:ClsK W){o:Expr}{x:Str}{p:Pos}{value:Expr}{pos:Pos}(hs:swapsWith value (some (.Attribute o x p)) pos.line env=pure false)
  (h:TE W n env m value (fun u M1=>TE W n env m o (fun v M2=>z8 v x u (Q .next m) M2) M1) M):TS W n env (.Assign [.Attribute o x p] value pos) m Q M:=fun A Y s g me f =>
 plainObj_wpAny_Assign_Attribute (h.use g me f fun y s1 u M1 h1 ru me1 f1 t1=>h1.use g me1 f1 fun z s2 v M2 h2 rv me2 f2 t2 =>
  wpAny_mono (jU wk ck me2 rv (ru.keep t2.keeps) h2) (fun _ s3 hp1=>by obtain⟨M3,q,me3,t3⟩:=hp1;exact⟨.next,m,M3,q,rfl,me3,f2.step me2 t3,((t1.trans t2).trans t3).fr⟩) fun _ _ x=>x) hs
theorem u8{o i:Expr}{p:Pos}{value:Expr}{pos:Pos}(hs:swapsWith value (some (.Subscript o i p)) pos.line env=pure false)
  (h:TE W n env m value (fun u M1=>TE W n env m o (fun v M2=>TE W n env m i (fun j M3=>tI v j u (Q .next m) M3) M2) M1) M):TS W n env (.Assign [.Subscript o i p] value pos) m Q M:=fun A Y s g me f =>
 wpAny_Assign_Subscript (h.use g me f fun y s1 u M1 h1 ru me1 f1 t1=>h1.use g me1 f1 fun z s2 v M2 h2 rv me2 f2 t2=>h2.use g me2 f2 fun w s3 j M3 h3 rj me3 f3 t3 =>
  wpAny_mono (j9 me3 (rv.keep t3.keeps) rj ((ru.keep t2.keeps).keep t3.keeps) h3) (fun _ s4 hp1=>by obtain⟨M4,q,me4,t4⟩:=hp1;exact⟨.next,m,M4,q,rfl,me4,f3.step me3 t4,(((t1.trans t2).trans t3).trans t4).fr⟩) fun _ _ x=>x) hs
theorem xK(wk:Wk W G)(ck:ClsK W){o:Expr}{x:Str}{p:Pos}{op:Operator}{value:Expr}{pos:Pos}(ho:op = .Add∨op = .Sub)
  (h:TE W n env m o (fun v M1=>qQ v x (fun u M2=>∃i,u = .fz (.int i)∧TE W n env m value (fun w M3=>∃j,w = .fz (.int j)∧z8 v x (.fz (.int (if op = .Add then i+j else i-j))) (Q .next m) M3) M2) M1) M) :
  TS W n env (.AugAssign (.Attribute o x p) op value pos) m Q M:=fun A Y s g me f =>
 wpAny_AugAssign_AttributeAny (h.use g me f fun y s1 v M1 h1 rv me1 f1 t1=>wpAny_mono (qE wk ck me1 rv h1) (fun z s2 hp1=>by
  obtain⟨u,M2,⟨i,hu,h2⟩,ru,me2,t2⟩:=hp1
  subst hu
  obtain⟨t,rfl⟩:=ru
  have f2:=f1.step me1 t2
  refine h2.use g me2 f2 fun w s3 u M3 hp1 ru me3 f3 t3=>?_
  obtain⟨j,hu,h3⟩:=hp1
  subst hu
  obtain⟨t',rfl⟩:=ru
  have kk:∀tk,Step (foot M3) (foot M3) s3 {s3 with toks:=tk}:=fun tk=>Step.same (fun _ _ e=>e) ⟨_,_,rfl⟩
  have rv3:aO W s3.heap (Y++foot M3) v y:=(rv.keep t2.keeps).keep t3.keeps
  rcases ho with rfl|rfl
  ·refine PyProof.Rows.iadd_int ?_
   exact wpAny_mono (jU (s:={s3 with toks:=s3.toks+1}) (u:=.fz (.int (i+j))) wk ck me3 rv3 ⟨_,rfl⟩ (by exact h3)) (fun _ s4 hp1=>by obtain⟨M4,q,me4,t4⟩:=hp1;exact⟨.next,m,M4,q,rfl,me4,f3.step (s:={s3 with toks:=s3.toks+1}) me3 t4,((((t1.trans t2).trans t3).trans (kk _)).trans t4).fr⟩) fun _ _ x=>x
  ·refine PyProof.Rows.isub_int ?_
   exact wpAny_mono (jU (s:={s3 with toks:=s3.toks+1}) (u:=.fz (.int (i-j))) wk ck me3 rv3 ⟨_,rfl⟩ (by exact h3)) (fun _ s4 hp1=>by obtain⟨M4,q,me4,t4⟩:=hp1;exact⟨.next,m,M4,q,rfl,me4,f3.step (s:={s3 with toks:=s3.toks+1}) me3 t4,((((t1.trans t2).trans t3).trans (kk _)).trans t4).fr⟩) fun _ _ x=>x) fun _ _ x=>x)
end
end
section
noncomputable def aV(x:Int):Nat→List D
 |0=>[]
 |n+1=>.int x::aV (x+1) n
theorem oW{x:Int}{n:Nat}:aV x (n+1) = .int x::aV (x+1) n:=rfl
inductive Itr(W:Wd)(h:Heap)(U:List Addr)(I:Addr)(rest:List D):Prop
 |lst (l:Addr) (items:Array Value) (i:Nat) (e0:h.IsListIter I l i) (e1:h.IsList l items) (e2:l∉U) (e3:bT W h U rest (items.toList.drop i)) (e4:i≤items.size)
 |tup (l:Addr) (items:Array Value) (i:Nat) (e0:h.IsTupleIter I l i) (e1:h.IsTuple l items) (e2:l∉U) (e3:bT W h U rest (items.toList.drop i)) (e4:i≤items.size)
 |rng (x:Int) (n:Nat) (e0:IsRangeIter h I x n 1) (e1:rest=aV x n)
theorem Itr.keep{W:Wd}{h h':Heap}{U U':List Addr}{I:Addr}{rest:List D}(x:Itr W h U I rest)(k:bA U U' h h')(e:∀o,h.get? I=some o→h'.get? I=some o):Itr W h' U' I rest:=by
 rcases x with⟨l,items,i,⟨oI,e0,e0'⟩,⟨o,e1,e1'⟩,e2,e3,e4⟩|⟨l,items,i,⟨oI,e0,e0'⟩,⟨o,e1,e1'⟩,e2,e3,e4⟩|⟨x,n,e0,e1⟩
 ·exact(.lst l items i ⟨oI,e _ e0,e0'⟩ ⟨o,(k l o e1 e2).1,e1'⟩ ((k l o e1 e2).2) (e3.keep k) e4)
 ·exact(.tup l items i ⟨oI,e _ e0,e0'⟩ ⟨o,(k l o e1 e2).1,e1'⟩ ((k l o e1 e2).2) (e3.keep k) e4)
 ·exact .rng x n (e _ e0) e1
section
variable{W:Wd}{G:Str→Option D}{n:Nat}{env:Env}{m:Loc}{M:Led}
theorem Itr.next{A:Around}{s:Shared}{U:List Addr}{I:Addr}{d:D}{rest:List D}{K:Option Value→Shared→Prop}(hh:A.handled=none)(x:Itr W s.heap U I (d::rest))(hI:I∈U)
  (k:∀v h' tk,(∀b o,b≠I→s.heap.get? b=some o→h'.get? b=some o)→(∃o,h'.get? I=some o)→Rep W h' U d v→Itr W h' U I rest→K (some v) {s with heap:=h',toks:=tk}):wpAny W.M A (pyNext (.ref I)) K NoE s:=by
 rcases x with⟨l,items,i,e0,e1,e2,e3,e4⟩|⟨l,items,i,e0,e1,e2,e3,e4⟩|⟨x,n,e0,e1⟩
 ·have hne:l≠I:=fun h=>e2 (h▸hI)
  obtain⟨y,ys,e5,e6,e7⟩:=e3
  have hi:i<items.size:=by
   rcases Nat.lt_or_ge i items.size with q|q
   ·exact q
   ·rw [List.drop_eq_nil_of_le (by exact q)]at e5;cases e5
  refine(Walks.list (prog:=W.prog) (w:=W.w) (A:=A) hh I l hne items).item i s K NoE hi ⟨e0,e1⟩ fun v h' tk hv hst hk=>?_
  have hk':∀b o,b≠I→s.heap.get? b=some o→h'.get? b=some o:=fun b o q e=>hk b o (by simpa using q) e
  have kk:bA U U s.heap h':=fun b o e nb=>⟨hk' b o (fun z=>nb (z▸hI)) e,nb⟩
  have ed:items.toList.drop i=items.toList[i]'(by exact hi)::items.toList.drop (i+1):=List.drop_eq_getElem_cons (by exact hi)
  rw [ed]at e5
  have ev:v=y:=by
   have:items.toList[i]'(by exact hi)=y:=(List.cons.inj e5).1
   rw [Array.getElem?_eq_getElem hi]at hv
   rw [←this,←Option.some.inj hv];simp
  subst ev
  exact k v h' tk hk' (let⟨o,q,_⟩:=hst.1;⟨o,q⟩) (e6.keep kk) ((.lst l items (i+1) hst.1 hst.2 e2 (by rw [(List.cons.inj e5).2];exact e7.keep kk) hi))
 ·have hne:l≠I:=fun h=>e2 (h▸hI)
  obtain⟨y,ys,e5,e6,e7⟩:=e3
  have hi:i<items.size:=by
   rcases Nat.lt_or_ge i items.size with q|q
   ·exact q
   ·rw [List.drop_eq_nil_of_le (by exact q)]at e5;cases e5
  refine(Walks.tuple (prog:=W.prog) (w:=W.w) (A:=A) hh I l hne items).item i s K NoE hi ⟨e0,e1⟩ fun v h' tk hv hst hk=>?_
  have hk':∀b o,b≠I→s.heap.get? b=some o→h'.get? b=some o:=fun b o q e=>hk b o (by simpa using q) e
  have kk:bA U U s.heap h':=fun b o e nb=>⟨hk' b o (fun z=>nb (z▸hI)) e,nb⟩
  have ed:items.toList.drop i=items.toList[i]'(by exact hi)::items.toList.drop (i+1):=List.drop_eq_getElem_cons (by exact hi)
  rw [ed]at e5
  have ev:v=y:=by
   have:items.toList[i]'(by exact hi)=y:=(List.cons.inj e5).1
   rw [Array.getElem?_eq_getElem hi]at hv
   rw [←this,←Option.some.inj hv];simp
  subst ev
  exact k v h' tk hk' (let⟨o,q,_⟩:=hst.1;⟨o,q⟩) (e6.keep kk) ((.tup l items (i+1) hst.1 hst.2 e2 (by rw [(List.cons.inj e5).2];exact e7.keep kk) hi))
 ·cases n with
  |zero=>exact bV e1
  |succ n =>
   obtain⟨rfl,rfl⟩:=List.cons.inj (show _=D.int x::aV (x+1) n from e1)
   refine(Walks.range (prog:=W.prog) (w:=W.w) (A:=A) hh I x 1 (n+1)).item 0 s K NoE (Nat.succ_pos _) (by simpa using e0) fun v h' tk hv hst hk=>?_
   obtain⟨t,rfl⟩:=hv
   have hk':∀b o,b≠I→s.heap.get? b=some o→h'.get? b=some o:=fun b o q e=>hk b o (by simpa using q) e
   refine k _ h' tk hk' ⟨_,hst⟩ ⟨t,by simp⟩ (.rng (x+1) n ?_ rfl)
   have e1:x+(((0+1:Nat):Int))*1=x+1:=by exact Hq
   have e2:(((n+1:Nat):Int))-(((0+1:Nat):Int))=(n:Int):=by exact Ia
   rw [e1,e2]at hst
   exact hst
theorem Itr.done{A:Around}{s:Shared}{U:List Addr}{I:Addr}{K:Option Value→Shared→Prop}(hh:A.handled=none)(x:Itr W s.heap U I [])(hI:I∈U)
  (k:∀h' tk,(∀b o,b≠I→s.heap.get? b=some o→h'.get? b=some o)→K none {s with heap:=h',toks:=tk}):wpAny W.M A (pyNext (.ref I)) K NoE s:=by
 rcases x with⟨l,items,i,e0,e1,e2,e3,e4⟩|⟨l,items,i,e0,e1,e2,e3,e4⟩|⟨x,n,e0,e1⟩
 ·have hne:l≠I:=fun h=>e2 (h▸hI)
  have hi:i=items.size:=by
   have:=List.drop_eq_nil_iff.mp (show _ = []from e3)
   rw [Array.length_toList]at this
   exact Nat.le_antisymm ‹_› ‹_›
  subst hi
  exact(Walks.list (prog:=W.prog) (w:=W.w) (A:=A) hh I l hne items).done s K NoE ⟨e0,e1⟩ fun h' tk hk=>k h' tk fun b o q e=>hk b o (by simpa using q) e
 ·have hne:l≠I:=fun h=>e2 (h▸hI)
  have hi:i=items.size:=by
   have:=List.drop_eq_nil_iff.mp (show _ = []from e3)
   rw [Array.length_toList]at this
   exact Nat.le_antisymm ‹_› ‹_›
  subst hi
  exact(Walks.tuple (prog:=W.prog) (w:=W.w) (A:=A) hh I l hne items).done s K NoE ⟨e0,e1⟩ fun h' tk hk=>k h' tk fun b o q e=>hk b o (by simpa using q) e
 ·cases n with
  |zero=>exact(Walks.range (prog:=W.prog) (w:=W.w) (A:=A) hh I x 1 0).done s K NoE (by simpa using e0) fun h' tk hk=>k h' tk fun b o q e=>hk b o (by simpa using q) e
  |succ n=>cases e1
theorem Itr.self{A:Around}{s:Shared}{U:List Addr}{I:Addr}{rest:List D}{K:Value→Shared→Prop}(x:Itr W s.heap U I rest)(k:K (.ref I) s):wpAny W.M A (pyIter (.ref I)) K NoE s:=by
 rcases x with⟨l,items,i,e0,e1,e2,e3,e4⟩|⟨l,items,i,e0,e1,e2,e3,e4⟩|⟨x,n,e0,e1⟩
 ·exact wpAny_pyIter_listiter e0 k
 ·exact wpAny_pyIter_tupleiter e0 k
 ·exact wpAny_pyIter_rangeiter e0 k
noncomputable def drop(a:Addr):Led→Led
 |[]=>[]
 |(b,c)::r=>if a=b then r else(b,c)::drop a r
theorem fW{a b:Addr}{c:Cell}{r:Led}:drop a ((b,c)::r)=if a=b then r else(b,c)::drop a r:=rfl
theorem cG:∀{M:Led}{a b:Addr},b∈foot (drop a M)→b∈foot M
 |[],_,_,h=>h
 |(x,c)::r,a,b,h=>by
  rw [fW]at h
  by_cases e:a=x
  ·rw [if_pos e]at h;exact mAr (.inr h)
  ·rw [if_neg e]at h;exact mAr ((mAp h).imp id cG)
theorem uM:∀{M:Led}{a:Addr}{p:Addr × Cell},p∈drop a M→p∈M
 |[],_,_,h=>h
 |(x,c)::r,a,p,h=>by
  rw [fW]at h
  by_cases e:a=x
  ·rw [if_pos e]at h;exact .tail _ h
  ·rw [if_neg e]at h
   rcases mCp h with rfl|h
   ·exact .head _
   ·exact .tail _ (uM h)
theorem qC:∀{M:Led}{a:Addr},(foot M).Nodup→(foot (drop a M)).Nodup
 |[],_,h=>h
 |(x,c)::r,a,h=>by
  rw [fW]
  have h':=List.nodup_append.mp h
  by_cases e:a=x
  ·rw [if_pos e];exact h'.2.1
  ·rw [if_neg e];exact List.nodup_append.mpr ⟨h'.1,qC h'.2.1,fun p hp q hq=>h'.2.2 p hp q (cG hq)⟩
theorem gZ{Y:List Addr}{a b:Addr}(h:b∈Y++foot (drop a M)):b∈Y++foot M:=mAr ((mAp h).imp id cG)
theorem Mem.drop{Y:List Addr}{h:Heap}(me:Mem W Y M h)(a:Addr):Mem W Y (Mine.drop a M) h where
 alive b hb:=me.alive b (gZ hb)
 base b o e:=⟨(me.base b o e).1,fun hb=>(me.base b o e).2 (gZ hb)⟩
 nodup:=qC me.nodup
 disj b hb:=me.disj b (cG hb)
 led p hp:=(me.led p (uM hp)).keep (fun b o e nb=>⟨e,fun hb=>nb (gZ hb)⟩) fun _ _ _ e=>e
theorem bS{Y:List Addr}{h:Heap}(a:Addr):bA (Y++foot M) (Y++foot (Mine.drop a M)) h h:=fun b o e nb=>⟨e,fun hb=>nb (gZ hb)⟩
theorem cX{F:List Addr}{s:Shared}(a:Addr):Step (F++foot M) (F++foot (Mine.drop a M)) s s :=
 (Step.refl (F++foot M) s).narrow fun b hb=>gZ hb
theorem pW{a:Addr}{c:Cell}:∀{M:Led},(foot M).Nodup→M.lookup a=some c→a∉foot (Mine.drop a M)
 |[],_,h=>by exact aF h
 |(x,d)::r,nd,h=>by
  rw [lookup_cons]at h
  have nd:=List.nodup_append.mp nd
  rw [fW]
  by_cases e:a=x
  ·subst e
   rw [if_pos rfl]
   exact fun hb=>nd.2.2 a (aW _ _) a hb rfl
  ·rw [if_neg e]at h ⊢
   exact fun hb=>(mAp hb).elim (fun hb=>nd.2.2 a hb a (aT (aD h) (aW _ _)) rfl) (pW nd.2.1 h)
theorem fV{N:List Addr}{Y:List Addr}{h h':Heap}(hk:∀b o,h.get? b=some o→h'.get? b=some o)(nN:∀a∈N,h.get? a=none):bA (Y++foot M) (N++Y++foot M) h h':=fun b o e nb=>⟨hk b o e,by
 intro hb
 rw [List.append_assoc]at hb
 rcases mAp hb with q|q
 ·rw [nN b q]at e;exact aF e
 ·exact nb q⟩
theorem Mem.grow{N:List Addr}{Y:List Addr}{h h':Heap}(me:Mem W Y M h)(hk:∀b o,h.get? b=some o→h'.get? b=some o)(nN:∀a∈N,h.get? a=none)(al:∀a∈N,∃o,h'.get? a=some o):Mem W (N++Y) M h' where
 alive a ha:=by
  rw [List.append_assoc]at ha
  rcases mAp ha with q|q
  ·exact al a q
  ·obtain⟨o,e⟩:=me.alive a q;exact⟨o,hk a o e⟩
 base b o e:=⟨hk b o (me.base b o e).1,fun hb=>by
  rw [List.append_assoc]at hb
  rcases mAp hb with q|q
  ·have:=(me.base b o e).1;rw [nN b q]at this;exact aF this
  ·exact(me.base b o e).2 q⟩
 nodup:=me.nodup
 disj a ha hb:=by
  rcases mAp hb with q|q
  ·obtain⟨o,e⟩:=me.alive a (mAr (.inr ha));rw [nN a q]at e;exact aF e
  ·exact me.disj a ha q
 led p hp:=(me.led p hp).keep (fV hk nN) fun b _ o e=>hk b o e
theorem nF{N Y:List Addr}{h:Heap}:bA (N++Y++foot M) (Y++foot M) h h:=fun b o e nb=>⟨e,fun hb=>nb (by
 rw [List.append_assoc];exact mAr (.inr hb))⟩
theorem Mem.shrink{N Y:List Addr}{h:Heap}(me:Mem W (N++Y) M h):Mem W Y M h where
 alive a ha:=me.alive a (by rw [List.append_assoc];exact mAr (.inr ha))
 base b o e:=⟨(me.base b o e).1,fun hb=>(me.base b o e).2 (by rw [List.append_assoc];exact mAr (.inr hb))⟩
 nodup:=me.nodup
 disj a ha hb:=me.disj a ha (mAr (.inr hb))
 led p hp:=(me.led p hp).keep nF fun _ _ _ e=>e
theorem Frm.grow{N Y U U':List Addr}{h h':Heap}(f:Frm W Y U env m h)(k:bA U U' h h')(hk:∀b o,h.get? b=some o→h'.get? b=some o):Frm W (N++Y) U' env m h' :=
 let f':=f.keep k fun a _ o e=>hk a o e
 {kind:=f'.kind,glo:=f'.glo,bui:=f'.bui,lY:=mAr (.inr f'.lY),cY:=fun p hp=>mAr (.inr (f'.cY p hp)),ns:=f'.ns,cl:=f'.cl,ce:=f'.ce,kd:=f'.kd,ap:=f'.ap,ad:=f'.ad}
theorem Frm.shrink{N Y Y0 U0 U U':List Addr}{m0:Loc}{h h0:Heap}(f:Frm W (N++Y) U env m h)(f0:Frm W Y U0 env m0 h0)(k:bA U U' h h):Frm W Y U' env m h :=
 let f':=f.keep k fun _ _ _ e=>e
 {kind:=f'.kind,glo:=f'.glo,bui:=f'.bui,lY:=f0.lY,cY:=f0.cY,ns:=f'.ns,cl:=f'.cl,ce:=f'.ce,kd:=f'.kd,ap:=f'.ap,ad:=f'.ad}
theorem jY{N Y:List Addr}{h h':Heap}(hk:∀b o,b∉N→h.get? b=some o→h'.get? b=some o):bA (N++Y++foot M) (Y++foot M) h h':=fun b o e nb=>⟨hk b o (fun hb=>nb (by
 rw [List.append_assoc];exact mAr (.inl hb))) e,fun hb=>nb (by rw [List.append_assoc];exact mAr (.inr hb))⟩
theorem Mem.leave{N Y:List Addr}{h h':Heap}(me:Mem W (N++Y) M h)(hk:∀b o,b∉N→h.get? b=some o→h'.get? b=some o)(hN:∀a∈N,a∉Y):Mem W Y M h' where
 alive a ha:=by
  obtain⟨o,e⟩:=me.alive a (by rw [List.append_assoc];exact mAr (.inr ha))
  refine⟨o,hk a o (fun hb=>?_) e⟩
  rcases mAp ha with q|q
  ·exact hN a hb q
  ·exact me.disj a q (mAr (.inl hb))
 base b o e:=by
  obtain⟨h1,h2⟩:=me.base b o e
  rw [List.append_assoc,List.mem_append,not_or]at h2
  exact⟨hk b o h2.1 h1,h2.2⟩
 nodup:=me.nodup
 disj a ha hb:=me.disj a ha (mAr (.inr hb))
 led p hp:=(me.led p hp).keep (jY hk) fun b hb o e=>hk b o (fun q=>me.disj b (aT hp hb) (mAr (.inl q))) e
theorem Frm.leave{N Y U0 U U':List Addr}{m0:Loc}{h h0 h':Heap}(f:Frm W (N++Y) U env m h)(f0:Frm W Y U0 env m0 h0)(k:bA U U' h h')(hk:∀b o,b∉N→h.get? b=some o→h'.get? b=some o)(hN:∀a∈N,a∉Y):Frm W Y U' env m h' where
 kind:=f.kind
 glo:=f.glo
 bui:=f.bui
 lY:=f0.lY
 cY:=f0.cY
 ns:=by
  obtain⟨mR,⟨o,es,ep,e,r⟩,q⟩:=f.ns
  refine⟨mR,⟨o,es,ep,hk _ o (fun hb=>hN _ hb f0.lY) e,r⟩,fun x v a b=>?_⟩
  obtain⟨z,c,d⟩:=q x v a b
  exact⟨z,c,d.keep k⟩
 cl:=fun x v a b=>by
  obtain⟨c,z,e1,⟨o,e2,e3⟩,e4⟩:=f.cl x v a b
  exact⟨c,z,e1,⟨o,hk _ o (fun hb=>hN _ hb (f0.cY _ (mem_of_lookup e1))) e2,e3⟩,e4.keep k⟩
 ce:=fun x a=>by
  obtain⟨c,z,e1,o,e2,e3⟩:=f.ce x a
  exact⟨c,z,e1,o,hk _ o (fun hb=>hN _ hb (f0.cY _ (mem_of_lookup e1))) e2,e3⟩
 kd:=f.kd
 ap:=f.ap
 ad:=f.ad
theorem Mem.ykeep{Y:List Addr}{h h':Heap}{y:Addr}(me:Mem W Y M h)(hy:y∈Y)(hk:∀b o,b≠y→h.get? b=some o→h'.get? b=some o)(al:∃o,h'.get? y=some o):Mem W Y M h' where
 alive a ha:=by
  by_cases e:a=y
  ·subst e;exact al
  ·obtain⟨o,q⟩:=me.alive a ha;exact⟨o,hk a o e q⟩
 base b o e:=by
  obtain⟨h1,h2⟩:=me.base b o e
  exact⟨hk b o (fun z=>h2 (mAr (.inl (z▸hy)))) h1,h2⟩
 nodup:=me.nodup
 disj:=me.disj
 led p hp:=(me.led p hp).keep (fun b o e n=>⟨hk b o (fun z=>n (mAr (.inl (z▸hy)))) e,n⟩) fun b hb o e =>
  hk b o (fun z=>me.disj b (aT hp hb) (z▸hy)) e
theorem G5{Y U:List Addr}{h h':Heap}{y:Addr}(hy:y∈U)(hk:∀b o,b≠y→h.get? b=some o→h'.get? b=some o):bA U U h h':=fun b o e n=>⟨hk b o (fun z=>n (z▸hy)) e,n⟩
theorem Frm.ykeep{Y U:List Addr}{h h':Heap}{y:Addr}(f:Frm W Y U env m h)(hU:y∈U)(ny:y≠env.locals)(nc:∀p∈env.cells,p.2≠y)(hk:∀b o,b≠y→h.get? b=some o→h'.get? b=some o):Frm W Y U env m h' where
 kind:=f.kind
 glo:=f.glo
 bui:=f.bui
 lY:=f.lY
 cY:=f.cY
 ns:=by
  obtain⟨mR,⟨o,es,ep,e,r⟩,q⟩:=f.ns
  refine⟨mR,⟨o,es,ep,hk _ o (Ne.symm ny) e,r⟩,fun x v a b=>?_⟩
  obtain⟨z,c,d⟩:=q x v a b
  exact⟨z,c,d.keep (G5 (Y:=Y) hU hk)⟩
 cl:=fun x v a b=>by
  obtain⟨c,z,e1,⟨o,e2,e3⟩,e4⟩:=f.cl x v a b
  exact⟨c,z,e1,⟨o,hk _ o (nc _ (mem_of_lookup e1)) e2,e3⟩,e4.keep (G5 (Y:=Y) hU hk)⟩
 ce:=fun x a=>by
  obtain⟨c,z,e1,o,e2,e3⟩:=f.ce x a
  exact⟨c,z,e1,o,hk _ o (nc _ (mem_of_lookup e1)) e2,e3⟩
 kd:=f.kd
 ap:=f.ap
 ad:=f.ad
noncomputable def mV(M:Led)(v:V):Option (List D × Led):=match v with
 |.fz d=>(match d with
  |.tup l=>some (l,M)
  |.lst l=>some (l,M)
  |.rng lo hi=>if -1000000000≤lo∧lo≤1000000000∧-1000000000≤hi∧hi≤1000000000 then some (aV lo (hi-lo).toNat,M)else none
  |_=>none)
 |.loc a=>match M.lookup a with
  |some c=>(match c with
   |.lst l=>(fzs l).map fun ds=>(ds,drop a M)
   |_=>none)
  |none=>none
theorem D0{a:Addr}{l:List V}{ds:List D}(e:M.lookup a=some (.lst l))(h:fzs l=some ds):mV M (.loc a)=some (ds,drop a M):=by
 show(match M.lookup a with|some c=>(match c with | .lst l=>(fzs l).map fun ds=>(ds,drop a M)|_=>none)|none=>none)=_
 rw [e]
 show(fzs l).map _=_
 rw [h];rfl
theorem rC(lo hi:Int):Builtin.Range.rangeSize lo hi 1=(((hi-lo).toNat:Nat):Int):=by
 unfold Builtin.Range.rangeSize
 rw [if_pos (by decide)]
 by_cases h:lo<hi
 ·rw [if_pos h];simp only [Int.ediv_one];exact IW h
 ·rw [if_neg h];exact JE h
theorem iX{i:Int}(h1 : -1000000000≤i)(h2:i≤2000000000):Builtin.Range.rangeFitsLong i=true :=
 anr ⟨decide_eq_true (Int.le_trans (by decide) h1),decide_eq_true (Int.lt_of_le_of_lt h2 (by decide))⟩
theorem vL{lo hi:Int}(h : -1000000000≤lo∧lo≤1000000000∧-1000000000≤hi∧hi≤1000000000):Builtin.Range.small lo hi 1=true:=by
 have h3:=iX h.2.2.1 (Int.le_trans h.2.2.2 (by decide))
 have hn:(((hi-lo).toNat:Nat):Int)≤2000000000:=Int.ofNat_le.mpr (show _≤2000000000 from Int.toNat_le.mpr (Int.sub_le_sub h.2.2.2 h.1))
 unfold Builtin.Range.small
 rewrite [rC,iX h.1 (Int.le_trans h.2.1 (by decide)),h3,iX (Int.le_trans (by decide) (Int.natCast_nonneg _)) hn,iX (by decide) (by decide)]
 show(_||(if (1:Int)>0 then Builtin.Range.rangeFitsLong (hi+(1-1))else _))=true
 rw [if_pos (by decide),Int.sub_self,Int.add_zero,h3,Bool.or_true]
theorem eM{Y:List Addr}{h:Heap}{o:Obj}:bA (Y++foot M) (h.objs.size::Y++foot M) h (h.push o):=fV (N:=[h.objs.size]) (aQ _) fun b hb=>by rw [mSp hb];exact cE h
theorem oB{Y:List Addr}{h:Heap}{o:Obj}(me:Mem W Y M h)(ho:o.isFreed=false):Mem W (h.objs.size::Y) M (h.push o) :=
 me.grow (N:=[_]) (aQ _) (fun b hb=>by rw [mSp hb];exact cE h) fun b hb=>by rw [mSp hb];exact⟨_,Heap.get?_push_size _ ho⟩
def ItK(W:Wd)(Y:List Addr)(M:Led)(s:Shared)(ds:List D)(M2:Led)(K:Value→Shared→Prop):Prop :=
 ∀I h',s.heap.get? I=none→(∃o,h'.get? I=some o)→(∀b o,s.heap.get? b=some o→h'.get? b=some o)→Mem W (I::Y) M2 h'→bA (Y++foot M) (I::Y++foot M2) s.heap h'→(M2=M∨∃a,M2=Mine.drop a M)→Itr W h' (I::Y++foot M2) I ds→K (.ref I) {s with heap:=h'}
theorem C3{A:Around}{Y:List Addr}{s:Shared}{x:Value}{l:List D}{K:Value→Shared→Prop}(me:Mem W Y M s.heap)(r:aO W s.heap (Y++foot M) (.fz (.tup l)) x)(k:ItK W Y M s l M K):wpAny W.M A (pyIter x) K NoE s:=by
 obtain⟨a,vs,rfl,h1,⟨k',h2⟩,h3⟩:=r
 refine wpAny_pyIter_tuple (items:=vs.toArray) ⟨_,h2,rfl,_,rfl⟩ (k _ _ (cE _) ⟨_,Heap.get?_push_size _ rfl⟩ (aQ _) (oB me rfl) eM (.inl rfl) ?_)
 have:=eM (o:={cls:=.type "tuple_iterator",data:=.fields #[.ref a,.int 0 0]}) a _ h2 h1
 exact .tup a vs.toArray 0 ⟨_,Heap.get?_push_size _ rfl,rfl,rfl⟩ ⟨_,this.1,rfl,_,rfl⟩ this.2 (h3.keep eM) (Nat.zero_le _)
theorem H2{A:Around}{Y:List Addr}{s:Shared}{x:Value}{l:List D}{K:Value→Shared→Prop}(me:Mem W Y M s.heap)(r:aO W s.heap (Y++foot M) (.fz (.lst l)) x)(k:ItK W Y M s l M K):wpAny W.M A (pyIter x) K NoE s:=by
 obtain⟨a,vs,rfl,h1,⟨k',h2⟩,h3⟩:=r
 refine wpAny_pyIter_list (items:=vs.toArray) ⟨_,h2,rfl,_,rfl⟩ (k _ _ (cE _) ⟨_,Heap.get?_push_size _ rfl⟩ (aQ _) (oB me rfl) eM (.inl rfl) ?_)
 have:=eM (o:={cls:=.type "list_iterator",data:=.fields #[.ref a,.int 0 0]}) a _ h2 h1
 exact .lst a vs.toArray 0 ⟨_,Heap.get?_push_size _ rfl,rfl,rfl⟩ ⟨_,this.1,rfl,_,rfl⟩ this.2 (h3.keep eM) (Nat.zero_le _)
theorem L0{A:Around}{Y:List Addr}{s:Shared}{a:Addr}{l:List V}{ds:List D}{K:Value→Shared→Prop}(me:Mem W Y M s.heap)(hl:M.lookup a=some (.lst l))(e1:fzs l=some ds)(k:ItK W Y M s ds (Mine.drop a M) K):wpAny W.M A (pyIter (.ref a)) K NoE s:=by
 obtain⟨k',vs,h1,h2⟩:=me.led _ (aD hl)
 have h1:s.heap.get? a=some {cls:=.type "list",data:=.seq vs k'}:=h1
 have ka:=eM (Y:=Y) (M:=M) (h:=s.heap) (o:={cls:=.type "list_iterator",data:=.fields #[.ref a,.int 0 0]})
 have kd:=ka.trans (bS (Y:=s.heap.objs.size::Y) (h:=s.heap.push {cls:=.type "list_iterator",data:=.fields #[.ref a,.int 0 0]}) (M:=M) a)
 have hna:a∉s.heap.objs.size::Y++foot (Mine.drop a M):=by
  intro hb
  rw [List.cons_append,List.mem_cons]at hb
  rcases hb with e|hb
  ·exact Nat.ne_of_lt (Heap.lt_size h1) e
  ·rcases mAp hb with q|q
   ·exact me.disj a (aT (aD hl) (aW _ _)) q
   ·exact pW me.nodup hl q
 refine wpAny_pyIter_list (items:=vs) ⟨_,h1,rfl,_,rfl⟩ (k _ _ (cE _) ⟨_,Heap.get?_push_size _ rfl⟩ (aQ _) ((oB me rfl).drop a) kd (.inr ⟨a,rfl⟩) ?_)
 exact .lst a vs 0 ⟨_,Heap.get?_push_size _ rfl,rfl,rfl⟩ ⟨_,aQ _ _ _ h1,rfl,_,rfl⟩ hna ((fH e1 h2).keep kd) (Nat.zero_le _)
theorem o9{a:Addr}{ds:List D}{M2:Led}(e:mV M (.loc a)=some (ds,M2)):∃l,M.lookup a=some (.lst l)∧fzs l=some ds∧M2=drop a M:=by
 have e:(match M.lookup a with
  |some c=>(match c with
   |.lst l=>(fzs l).map fun ds=>(ds,drop a M)
   |_=>none)
  |none=>none)=some (ds,M2):=e
 cases hl:M.lookup a with
 |none=>rw [hl]at e;exact aF e
 |some c =>
  rw [hl]at e
  cases c with
  |lst l =>
   obtain⟨ds',e1,e2⟩:=Option.map_eq_some_iff.mp (show(fzs l).map (fun ds=>(ds,drop a M))=some (ds,M2)from e)
   exact⟨l,rfl,e1.trans (congrArg some (congrArg Prod.fst e2)),(congrArg Prod.snd e2).symm⟩
  |_=>exact aF e
theorem jM{A:Around}{Y:List Addr}{s:Shared}{v:V}{x:Value}{ds:List D}{M2:Led}{K:Value→Shared→Prop}(me:Mem W Y M s.heap)(e:mV M v=some (ds,M2))(r:aO W s.heap (Y++foot M) v x)
  (k:ItK W Y M s ds M2 K):wpAny W.M A (pyIter x) K NoE s:=by
 cases v with
 |fz d =>
  cases d with
  |tup l =>
   cases e
   exact C3 me r k
  |lst l =>
   cases e
   exact H2 me r k
  |rng lo hi =>
   have e:(if -1000000000≤lo∧lo≤1000000000∧-1000000000≤hi∧hi≤1000000000 then some (aV lo (hi-lo).toNat,M)else none)=some (ds,M2):=e
   by_cases hb : -1000000000≤lo∧lo≤1000000000∧-1000000000≤hi∧hi≤1000000000
   ·rw [if_pos hb]at e
    cases e
    obtain⟨a,t,u,r',rfl,h1,h2⟩:=r
    refine wpAny_pyIter_range h2 (vL hb) (k _ _ (cE _) ⟨_,Heap.get?_push_size _ rfl⟩ (aQ _) (oB me rfl) eM (.inl rfl) ?_)
    refine .rng lo (hi-lo).toNat ?_ rfl
    rw [←rC]
    exact Heap.get?_push_size _ rfl
   ·rw [if_neg hb]at e
    exact aF e
  |_=>exact aF e
 |loc a =>
  (revert r;intro(e_:_=_);subst e_)
  obtain⟨l,hl,e1,rfl⟩:=o9 e
  exact L0 me hl e1 k
end
end
section
noncomputable def nm(e:Expr):Option Str:=match e with
 |.Name x _=>some x
 |_=>none
noncomputable def tupE(e:Expr):Option (List Expr):=match e with
 |.Tuple es _ _=>some es
 |_=>none
theorem tN{e:Expr}{x:Str}(h:nm e=some x):∃p,e = .Name x p:=by
 cases e <;> first|exact aF h|exact⟨_,congrArg (Expr.Name · _) (Option.some.inj h)⟩
theorem wK{e:Expr}{es:List Expr}(h:tupE e=some es):∃j p,e = .Tuple es j p:=by
 cases e <;> first|exact aF h|exact⟨_,_,congrArg (Expr.Tuple · _ _) (Option.some.inj h)⟩
noncomputable def dT:List Expr→List V→Loc→Option Loc
 |[],vs,m=>match vs with
  |[]=>some m
  |_::_=>none
 |e::es,vs,m=>match vs with
  |[]=>none
  |v::vs=>match nm e with
   |some x=>dT es vs (bE x v m)
   |none=>none
noncomputable def dK(env:Env):List Expr→Bool
 |[]=>true
 |e::es=>match nm e with
  |some x=>bW env x&&dK env es
  |none=>false
noncomputable def uS(target:Expr)(d:D)(m:Loc):Option Loc :=
 match nm target with
 |some x=>some (bE x (.fz d) m)
 |none=>match tupE target with
  |some es=>(match d with
   |.tup ds=>dT es (ds.map .fz) m
   |_=>none)
  |none=>none
noncomputable def okT(env:Env)(e:Expr):Bool:=match nm e with
 |some x=>bW env x
 |none=>match tupE e with
  |some es=>dK env es
  |none=>false
theorem okT_cases{env:Env}{t:Expr}(h:okT env t=true):(∃x p,t = .Name x p∧bW env x=true)∨∃es k p,t = .Tuple es k p∧dK env es=true:=by
 cases e:nm t with
 |some x =>
  obtain⟨p,rfl⟩:=tN e
  exact .inl ⟨x,p,rfl,h⟩
 |none =>
  cases e2:tupE t with
  |some es =>
   obtain⟨k,p,rfl⟩:=wK e2
   exact .inr ⟨es,k,p,rfl,h⟩
  |none =>
   unfold okT at h
   rw [e,e2]at h
   exact aL h
theorem kE{env:Env}{e:Expr}{es:List Expr}:dK env (e::es)=(match nm e with|some x=>bW env x&&dK env es|none=>false):=rfl
theorem qO{env:Env}{e:Expr}{es:List Expr}(h:dK env (e::es)=true):∃x p,e = .Name x p∧bW env x=true∧dK env es=true:=by
 cases q:nm e with
 |some x =>
  obtain⟨p,rfl⟩:=tN q
  exact⟨x,p,rfl,anp h⟩
 |none =>
  rw [kE,q]at h
  exact aL h
theorem uF:∀{es:List Expr}{us:List V}{m m':Loc},dT es us m=some m'→es.length=us.length:=by
 intro es
 induction es with
 |nil=>intro us m m' e;cases us with|nil=>rfl|cons=>exact aF e
 |cons e es ih =>
  intro us m m' q
  cases us with
  |nil=>exact aF q
  |cons u us =>
   have q:(match nm e with|some x=>dT es us (bE x u m)|none=>none)=some m':=q
   cases h:nm e with
   |some x=>rw [h]at q;exact congrArg Nat.succ (ih q)
   |none=>rw [h]at q;exact aF q
section
variable{W:Wd}{G:Str→Option D}{n:Nat}{env:Env}{m:Loc}{M:Led}{Q:bG}
theorem gM:∀{es:List Expr},dK env es=true→(assignEach es env).findIdx? (·.1)=none∧(assignEach es env).length=es.length
 |[],_=>⟨rfl,rfl⟩
 |e::es,h=>by
  obtain⟨x,p,rfl,_,h⟩:=qO h
  obtain⟨i1,i2⟩:=gM h
  have:assignEach (.Name x p::es) env=(false,assign (.Name x p) env)::assignEach es env:=rfl
  rw [this,List.findIdx?_cons,i1]
  exact⟨rfl,congrArg Nat.succ i2⟩
theorem pL{A:Around}{Y:List Addr}{K:Unit→Shared→Prop}:∀{es:List Expr}{vs:List V}{xs:List Value}{m m':Loc}{s:Shared},dK env es=true→dT es vs m=some m'→Mem W Y M s.heap→Frm W Y (Y++foot M) env m s.heap→VRelL W s.heap (Y++foot M) vs xs →
  (∀s',Mem W Y M s'.heap→Frm W Y (Y++foot M) env m' s'.heap→Step (Mine.fr env++foot M) (Mine.fr env++foot M) s s'→bA (Y++foot M) (Y++foot M) s.heap s'.heap→K () s') →
  wpAny W.M A (assignInOrder ((assignEach es env).map (·.2)) xs) K NoE s:=by
 intro es
 induction es with
 |nil =>
  intro vs xs m m' s h e me f r k
  cases vs with
  |cons=>exact aF e
  |nil =>
   (have e_:=Option.some.inj e;clear e;subst e_)
   (revert r;intro(e_:_=_);subst e_)
   exact wpAny_assignInOrder_none (k s me f (Step.refl _ _) (bA.refl _ _))
 |cons e es ih =>
  intro vs xs m m' s h e' me f r k
  cases vs with
  |nil=>exact aF e'
  |cons v vs =>
  obtain⟨x,p,rfl,hn⟩:=qO h
  have e':dT es vs (bE x v m)=some m':=e'
  obtain⟨y,ys,rfl,r1,r2⟩:=r
  show wpAny W.M A (assignInOrder (assign (.Name x p) env::(assignEach es env).map (·.2)) (y::ys)) K NoE s
  refine wpAny_assignInOrder_more (wpAny_assign_Name (dZ hn.1 me f r1 fun s1 me1 f1 t1 k1 _=>?_))
  exact ih hn.2 e' me1 f1 (r2.keep k1) fun s2 me2 f2 t2 k2=>k s2 me2 f2 (t1.trans t2) (k1.trans k2)
theorem sJ{A:Around}{Y:List Addr}{K:Unit→Shared→Prop}{target:Expr}{d:D}{y:Value}{m':Loc}{s:Shared}(hh:A.handled=none)(h:okT env target=true)(e:uS target d m=some m')(me:Mem W Y M s.heap)(f:Frm W Y (Y++foot M) env m s.heap)
  (r:Rep W s.heap (Y++foot M) d y)
  (k:∀s',Mem W Y M s'.heap→Frm W Y (Y++foot M) env m' s'.heap→Step (Mine.fr env++foot M) (Mine.fr env++foot M) s s'→bA (Y++foot M) (Y++foot M) s.heap s'.heap→K () s') :
  wpAny W.M A (assign target env y) K NoE s:=by
 rcases okT_cases h with⟨x,p,rfl,h⟩|⟨es,k',p,rfl,h⟩
 ·have e:bE x (.fz d) m=m':=Option.some.inj e
  subst e
  exact wpAny_assign_Name (dZ (v:=.fz d) h me f r fun s' a b c d _=>k s' a b c d)
 ·obtain⟨ds,rfl,e⟩:∃ds,d = .tup ds∧dT es (ds.map .fz) m=some m':=by cases d <;> first|exact⟨_,rfl,e⟩|exact aF e
  obtain⟨a,vs,rfl,h1,h2,h3⟩:=r
  obtain⟨i1,i2⟩:=gM h
  have hl:es.length=vs.length:=by
   rw [h3.length,←List.length_map (f:=V.fz) (as:=ds)]
   exact uF e
  refine wpAny_assign_Tuple (items:=vs.toArray) hh h2.isTup (by rw [i2,List.size_toArray,hl]) i1 fun h' hx=>?_
  have hk:∀b o,s.heap.get? b=some o→h'.get? b=some o:=fun b o e=>hx b o (Nat.ne_of_lt (Heap.lt_size e)) e
  have kk:bA (Y++foot M) (Y++foot M) s.heap h':=fun b o e n=>⟨hk b o e,n⟩
  refine pL (s:={s with heap:=h'}) h e (me.same (s':={s with heap:=h'}) hk) (f.keep kk fun a _ o e=>hk a o e) ((h3.keep kk).toV) fun s2 me2 f2 t2 k2=>k s2 me2 f2 ((Step.same (s':={s with heap:=h'}) hk ⟨_,_,rfl⟩).trans t2) (kk.trans k2)
theorem v9(I:Nat→Loc→Led→Prop){test:Expr}{body:List Stmt}{pos:Pos}
  (turn:∀k m M,I k m M→TB W n env m test (fun b M1=>if b then TSs W n env body m (fun f m' M'=>match f with | .next | .cont=>∃j,j<k∧I j m' M' | .brk=>Q .next m' M' | .ret v=>Q (.ret v) m' M') M1 else Q .next m M1) M)
  {k:Nat}(h:I k m M):TS W n env (.While test body [] pos) m Q M:=fun A Y s g me f =>
 wpAny_While (codeAny_whileLoop (fun k s'=>∃m' M',I k m' M'∧Mem W Y M' s'.heap∧Frm W Y (Y++foot M') env m' s'.heap∧Step (Mine.fr env++foot M) (Mine.fr env++foot M') s s')
  (fun k s1 ⟨m1,M1,hi,me1,f1,t1⟩=>wpAny_mono ((turn k m1 M1 hi).use (K:=fun b s2=>if b=true then wpAny W.M A (execs body env) (fun fl s3=>match fl with
    |.next | .cont=>∃j,j<k∧∃m' M',I j m' M'∧Mem W Y M' s3.heap∧Frm W Y (Y++foot M') env m' s3.heap∧Step (Mine.fr env++foot M) (Mine.fr env++foot M') s s3
    |.brk=>ResS W Y env M s Q .next s3
    |.ret v=>ResS W Y env M s Q (.ret v) s3) NoE s2 else ResS W Y env M s Q .next s2) g me1 f1 fun b s2 b' M2 q rb me2 f2 t2=>by
   subst rb
   cases b <;> simp only [if_true,Bool.false_eq_true,if_false]at q ⊢
   ·exact⟨.next,m1,M2,q,rfl,me2,f2,t1.trans t2.fr⟩
   ·refine wpAny_mono (q A Y s2 g me2 f2) (fun fl s3 hp_=>?_) fun _ _ x=>x
    obtain⟨fl',m3,M3,q3,r3,me3,f3,t3⟩:=hp_
    cases fl' with
    |next=>(revert r3;intro(e_:_=_);subst e_);obtain⟨j,hj,q3⟩:=q3;exact⟨j,hj,m3,M3,q3,me3,f3,(t1.trans t2.fr).trans t3⟩
    |cont=>(revert r3;intro(e_:_=_);subst e_);obtain⟨j,hj,q3⟩:=q3;exact⟨j,hj,m3,M3,q3,me3,f3,(t1.trans t2.fr).trans t3⟩
    |brk=>(revert r3;intro(e_:_=_);subst e_);exact⟨.next,m3,M3,q3,rfl,me3,f3,(t1.trans t2.fr).trans t3⟩
    |ret v=>obtain⟨y,rfl,r3⟩:=r3;exact⟨.ret v,m3,M3,q3,⟨y,rfl,r3⟩,me3,f3,(t1.trans t2.fr).trans t3⟩) (fun b s2 q=>by
     cases b
     ·simp only [Bool.false_eq_true,if_false]at q ⊢
      exact wpAny_execs_nil q
     ·simp only [if_true]at q ⊢
      exact wpAny_mono q (fun fl s3 q=>by cases fl <;> exact q) fun _ _ x=>x.elim) fun _ _ x=>x.elim) k ⟨m,M,h,me,f,Step.refl _ _⟩)
theorem K2{A:Around}{target:Expr}{s:Shared}{U:List Addr}{I:Addr}{rest:List D}{v:Value}{K:Unit→Shared→Prop}(x:Itr W s.heap U I rest)(k:K () s):wpAny W.M A (letOwnedTupleGo target (.ref I) v) K NoE s:=by
 have key:∀(o:Obj) (T:String) (fs:Array Value),s.heap.get? I=some o→o.cls = .type T→o.data = .fields fs→(["enumerate","zip","dict_itemiterator","dict_reverseitemiterator","odict_iterator","itertools.zip_longest","itertools.pairwise"].contains T)=false→wpAny W.M A (letOwnedTupleGo target (.ref I) v) K NoE s:=by
  intro o T fs h1 h2 h3 h4
  unfold letOwnedTupleGo
  have go:wpAny W.M A (do
   let(.ref r,.ref a):=(Value.ref I,v)|return
   let o←load r
   match o.cls,o.data with
   |.type n,.fields vs =>
    if ["enumerate","zip","dict_itemiterator","dict_reverseitemiterator","odict_iterator","itertools.zip_longest","itertools.pairwise"].contains n&&vs[0]?==some (rawInt a)then
     rule "for.unpacks-the-owned-tuple"
     updateField r 0 .none
   |_,_=>pure ()) K NoE s:=by
   cases v <;> first
    |exact wpAny_pure k
    |(refine wpAny_bind (wpAny_load h1 ?_)
      rw [h2,h3]
      simp only [h4,Bool.false_and,Bool.false_eq_true,if_false]
      exact wpAny_pure k)
  cases target <;> first|exact go|exact wpAny_pure k
 rcases x with⟨l,items,i,⟨o,e0,e1,e2⟩,_⟩|⟨l,items,i,⟨o,e0,e1,e2⟩,_⟩|⟨x,n,e0,e1⟩
 ·exact key o _ _ e0 e1 e2 (by decide)
 ·exact key o _ _ e0 e1 e2 (by decide)
 ·exact key _ _ _ e0 rfl rfl (by decide)
theorem Step.through{F S S2 T N:List Addr}{s1 s2 s':Shared}(x:Step (N++(F++S2)) (N++(F++T)) s2 s')(hk:∀b o,s1.heap.get? b=some o→s2.heap.get? b=some o)(hr:∃h tk,s2 ={s1 with heap:=h,toks:=tk})
  (hn:∀a∈N,s1.heap.get? a=none) (hs:∀a∈S2,a∈S∨s1.heap.get? a=none):Step (F++S) (F++T) s1 s' where
 keep b o e nb:=x.keep b o (hk b o e) fun hb=>by
  rcases mAp hb with q|q
  ·rw [hn b q]at e;exact aF e
  ·rcases mAp q with q|q
   ·exact nb (mAr (.inl q))
   ·rcases hs b q with q|q
    ·exact nb (mAr (.inr q))
    ·rw [q]at e;exact aF e
 rest:=by
  obtain⟨h,tk,rfl⟩:=hr
  obtain⟨h',tk',e⟩:=x.rest
  exact⟨h',tk',e⟩
 new a ha:=by
  have non:s2.heap.get? a=none→s1.heap.get? a=none:=fun q=>by
   cases z:s1.heap.get? a with
   |none=>rfl
   |some o=>rw [hk a o z]at q;exact qX q
  rcases x.new a (mAr (.inr ha))with q|q
  ·rcases mAp q with q|q
   ·exact .inr (hn a q)
   ·rcases mAp q with q|q
    ·exact .inl (mAr (.inl q))
    ·rcases hs a q with q|q
     ·exact .inl (mAr (.inr q))
     ·exact .inr q
  ·exact .inr (non q)
theorem Mem.nkeep{Y N:List Addr}{h h':Heap}(me:Mem W Y M h)(hy:∀y∈N,y∈Y)(hk:∀b o,b∉N→h.get? b=some o→h'.get? b=some o)(al:∀y∈N,∃o,h'.get? y=some o):Mem W Y M h' where
 alive a ha:=by
  by_cases e:a∈N
  ·exact al a e
  ·obtain⟨o,q⟩:=me.alive a ha;exact⟨o,hk a o e q⟩
 base b o e:=by
  obtain⟨h1,h2⟩:=me.base b o e
  exact⟨hk b o (fun z=>h2 (mAr (.inl (hy b z)))) h1,h2⟩
 nodup:=me.nodup
 disj:=me.disj
 led p hp:=(me.led p hp).keep (fun b o e n=>⟨hk b o (fun z=>n (mAr (.inl (hy b z)))) e,n⟩) fun b hb o e =>
  hk b o (fun z=>me.disj b (aT hp hb) (hy b z)) e
theorem A8{U N:List Addr}{h h':Heap}(hy:∀y∈N,y∈U)(hk:∀b o,b∉N→h.get? b=some o→h'.get? b=some o):bA U U h h':=fun b o e n=>⟨hk b o (fun z=>n (hy b z)) e,n⟩
theorem Frm.nkeep{Y U N:List Addr}{h h':Heap}(f:Frm W Y U env m h)(hU:∀y∈N,y∈U)(ny:env.locals∉N)(nc:∀p∈env.cells,p.2∉N)(hk:∀b o,b∉N→h.get? b=some o→h'.get? b=some o):Frm W Y U env m h' where
 kind:=f.kind
 glo:=f.glo
 bui:=f.bui
 lY:=f.lY
 cY:=f.cY
 ns:=by
  obtain⟨mR,⟨o,es,ep,e,r⟩,q⟩:=f.ns
  refine⟨mR,⟨o,es,ep,hk _ o ny e,r⟩,fun x v a b=>?_⟩
  obtain⟨z,c,d⟩:=q x v a b
  exact⟨z,c,d.keep (A8 hU hk)⟩
 cl:=fun x v a b=>by
  obtain⟨c,z,e1,⟨o,e2,e3⟩,e4⟩:=f.cl x v a b
  exact⟨c,z,e1,⟨o,hk _ o (nc _ (mem_of_lookup e1)) e2,e3⟩,e4.keep (A8 hU hk)⟩
 ce:=fun x a=>by
  obtain⟨c,z,e1,o,e2,e3⟩:=f.ce x a
  exact⟨c,z,e1,o,hk _ o (nc _ (mem_of_lookup e1)) e2,e3⟩
 kd:=f.kd
 ap:=f.ap
 ad:=f.ad
structure ItP(W:Wd)(target:Expr)(I:Addr)(N:List Addr)(It:List D→Heap→List Addr→Prop):Prop where
 keep:∀ds h h' U U',It ds h U→bA U U' h h'→(∀a∈N,∀o,h.get? a=some o→h'.get? a=some o)→It ds h' U'
 next:∀{A:Around}{s:Shared}{U:List Addr}{d:D}{ds:List D}{K:Value→Shared→Prop},A.handled=none→It (d::ds) s.heap U→(∀a∈N,a∈U)→(∀a∈U,∃o,s.heap.get? a=some o) →
  (∀v h' tk,(∀b o,b∉N→s.heap.get? b=some o→h'.get? b=some o)→(∀a∈N,∃o,h'.get? a=some o)→Rep W h' U d v→It ds h' U→K v {s with heap:=h',toks:=tk}) →
  wpAny W.M A (pyNext (.ref I)) (fun r s'=>∃v,r=some v∧wpAny W.M A (letOwnedTupleGo target (.ref I) v) (fun _ s''=>K v s'') NoE s') NoE s
 done:∀{A:Around}{s:Shared}{U:List Addr}{K:Option Value→Shared→Prop},A.handled=none→It [] s.heap U→(∀a∈N,a∈U) →
  (∀h' tk,(∀b o,b∉N→s.heap.get? b=some o→h'.get? b=some o)→K none {s with heap:=h',toks:=tk})→wpAny W.M A (pyNext (.ref I)) K NoE s
inductive ItO(W:Wd)(env:Env)(m:Loc)(M:Led)(Y:List Addr)(s:Shared)(target:Expr)(J:List D→Loc→Led→Prop)(it:Value)(s2:Shared):Prop
 |mk (M1:Led) (s1:Shared) (I:Addr) (N:List Addr) (It:List D→Heap→List Addr→Prop) (ds:List D) (e:it = .ref I) (ip:ItP W target I N It) (hJ:J ds m M1) (me:Mem W Y M1 s1.heap) (f:Frm W Y (Y++foot M1) env m s1.heap)
  (t:Step (foot M) (foot M1) s s1) (nN:∀a∈N,s1.heap.get? a=none) (aN:∀a∈N,∃o,s2.heap.get? a=some o) (hk:∀b o,s1.heap.get? b=some o→s2.heap.get? b=some o) (hr:∃h tk,s2 ={s1 with heap:=h,toks:=tk}) (hi:It ds s2.heap (N++Y++foot M1))
structure ForS(W:Wd)(env:Env)(N Y:List Addr)(It:List D→Heap→List Addr→Prop)(F:List Addr)(s0:Shared)(ds:List D)(m:Loc)(M:Led)(s:Shared):Prop where
 me:Mem W (N++Y) M s.heap
 fr:Frm W (N++Y) (N++Y++foot M) env m s.heap
 it:It ds s.heap (N++Y++foot M)
 st:Step F (N++(Mine.fr env++foot M)) s0 s
inductive ForI(W:Wd)(env:Env)(N Y:List Addr)(It:List D→Heap→List Addr→Prop)(F:List Addr)(s0:Shared)(J:List D→Loc→Led→Prop)(k:Nat)(s:Shared):Prop
 |mk (ds:List D) (m:Loc) (M:Led) (e:ds.length=k) (h:J ds m M) (q:ForS W env N Y It F s0 ds m M s)
theorem zV{N Y:List Addr}{M:Led}{h:Heap}(nL:env.locals∉N)(nC:∀p∈env.cells,p.2∉N)(me:Mem W (N++Y) M h)(a:Addr)(ha:a∈N):a∉Mine.fr env++foot M:=fun hb=>by
 rcases mAp hb with q|q
 ·rcases mCp q with q|q
  ·exact nL (q▸ha)
  ·obtain⟨p,hp,e⟩:=mMp q;exact nC p hp (e▸ha)
 ·exact me.disj a q (mAr (.inl ha))
theorem u6{N Y:List Addr}{M M':Led}{s s':Shared}(lY:env.locals∈Y)(cY:∀p∈env.cells,p.2∈Y)(t:Step (Mine.fr env++foot M) (Mine.fr env++foot M') s s'):bA (N++Y++foot M) (N++Y++foot M') s.heap s'.heap:=fun b o e nb=>by
 have nf:b∉Mine.fr env++foot M:=fun hb=>by
  rcases mAp hb with q|q
  ·rcases mCp q with q|q
   ·exact nb (mAr (.inl (mAr (.inr (q▸lY)))))
   ·obtain⟨p,hp,e⟩:=mMp q;exact nb (mAr (.inl (mAr (.inr (e▸cY p hp)))))
  ·exact nb (mAr (.inr q))
 refine⟨t.keep b o e nf,fun hb=>?_⟩
 rcases mAp hb with q|q
 ·exact nb (mAr (.inl q))
 ·rcases t.new b (mAr (.inr q))with z|z
  ·exact nf z
  ·rw [e]at z;exact qX z
theorem mF{N Y:List Addr}{It:List D→Heap→List Addr→Prop}{s s0 s1 s2 s':Shared}{ds:List D}{m0 m':Loc}{M1 M':Led}{fl:Fl}{x:Flow}(f:Frm W Y (Y++foot M) env m0 s.heap)(NY:∀a∈N,a∉Y)(t0:Step (Mine.fr env++foot M) (Mine.fr env++foot M1) s s1)(nN:∀a∈N,s1.heap.get? a=none)
  (hk:∀b o,s1.heap.get? b=some o→s0.heap.get? b=some o) (hr0:∃h tk,s0 ={s1 with heap:=h,toks:=tk}) (q:Q fl m' M') (r:rE W s2.heap (N++Y++foot M') fl x) (z:ForS W env N Y It (N++(Mine.fr env++foot M1)) s0 ds m' M' s2)
  (hk2:∀b o,b∉N→s2.heap.get? b=some o→s'.heap.get? b=some o) (hr:∃h tk,s' ={s2 with heap:=h,toks:=tk}):ResS W Y env M s Q x s':=by
 have kl:bA (N++Y++foot M') (Y++foot M') s2.heap s'.heap:=jY (N:=N) hk2
 have st2:Step (N++(Mine.fr env++foot M')) (N++(Mine.fr env++foot M')) s2 s':=⟨fun b o e nb=>hk2 b o (fun z=>nb (mAr (.inl z))) e,hr,fun _ h=>.inl h⟩
 exact⟨fl,m',M',q,r.keep kl,z.me.leave (N:=N) hk2 NY,z.fr.leave (N:=N) f kl hk2 NY,t0.trans ((z.st.trans st2).through hk hr0 nN fun a ha=>.inl ha)⟩
theorem f9(J:List D→Loc→Led→Prop){target iter:Expr}{body:List Stmt}{pos:Pos}(hT:okT env target=true)(hi:∀x,foldedSetIterable iter env x=pure x)
  (open_:∀A Y s,cF n A→Mem W Y M s.heap→Frm W Y (Y++foot M) env m s.heap→wpAny W.M A (eval iter env) (fun x s1=>wpAny W.M A (pyIter x) (fun it s2=>ItO W env m M Y s target J it s2) NoE s1) NoE s)
  (turn:∀d ds m M,J (d::ds) m M→∃m',uS target d m=some m'∧TSs W n env body m' (fun f m'' M''=>match f with | .next | .cont=>J ds m'' M'' | .brk=>Q .next m'' M'' | .ret v=>Q (.ret v) m'' M'') M)
  (done:∀m M,J [] m M→Q .next m M):TS W n env (.For target iter body [] pos) m Q M:=fun A Y s g me f =>
 wpAny_For (wpAny_mono (open_ A Y s g me f) (fun x s1' q=>wpAny_mono q (fun it s2 hp1=>by
  obtain⟨M1,s1,I,N,It,ds,e,ip,hJ,me1,f1,t1,nN,aN,hk,hr,hIt⟩:=hp1
  subst e
  have NY:∀a∈N,a∉Y:=fun a ha hb=>by
   obtain⟨o,e⟩:=me1.alive a (mAr (.inl hb))
   rw [nN a ha]at e;exact aF e
  have nL:env.locals∉N:=fun e=>NY _ e f.lY
  have nC:∀p∈env.cells,p.2∉N:=fun p hp e=>NY _ e (f.cY p hp)
  have NU:∀{M':Led},∀a∈N,a∈N++Y++foot M':=fun a ha=>mAr (.inl (mAr (.inl ha)))
  have hh:A.handled=none:=g.1
  refine codeAny_forLoop_any (s:=s2) (ForI W env N Y It (N++(Mine.fr env++foot M1)) s2 J) (fun k s3 hp=>?_) ds.length ⟨ds,m,M1,rfl,hJ,me1.grow (N:=N) hk nN aN,f1.grow (N:=N) (fV hk nN) hk,hIt,Step.refl _ _⟩
  obtain⟨ds2,m2,M2',hk2,hJ2,z2⟩:=hp
  cases ds2 with
  |nil =>
   exact wpAny_mono (ip.done (K:=fun r s3=>r=none∧ResS W Y env M s Q .next s3) hh z2.it NU fun h3 tk hk3=>⟨rfl,mF f NY t1.fr nN hk hr (done _ _ hJ2) rfl z2 hk3 ⟨_,_,rfl⟩⟩) (fun r s3 hp1=>by obtain⟨e,q⟩:=hp1;subst e;exact wpAny_execs_nil q) fun _ _ x=>x.elim
  |cons d ds2 =>
   refine wpAny_mono (ip.next (K:=fun v s4=>Rep W s4.heap (N++Y++foot M2') d v∧ForS W env N Y It (N++(Mine.fr env++foot M1)) s2 ds2 m2 M2' s4) hh z2.it NU z2.me.alive fun v h3 tk hk3 al rd it3=>⟨rd,z2.me.nkeep (fun y hy=>mAr (.inl hy)) hk3 al,z2.fr.nkeep NU nL nC hk3,it3,
     z2.st.trans ⟨fun b o e nb=>hk3 b o (fun z=>nb (mAr (.inl z))) e,⟨_,_,rfl⟩,fun _ h=>.inl h⟩⟩) (fun r s3 hp=>?_) fun _ _ x=>x.elim
   obtain⟨v,e,hgo⟩:=hp
   subst e
   refine wpAny_mono hgo (fun _ s4 hp1=>?_) fun _ _ x=>x.elim
   obtain⟨rd,z3⟩:=hp1
   obtain⟨m',hm',hb⟩:=turn d ds2 m2 M2' hJ2
   refine wpAny_mono (sJ (Y:=N++Y) hh hT hm' z3.me z3.fr rd (K:=fun _ s5=>ForS W env N Y It (N++(Mine.fr env++foot M1)) s2 ds2 m' M2' s5)
    fun s5 me5 f5 t5 k5=>⟨me5,f5,ip.keep _ _ _ _ _ z3.it k5 fun a ha o e=>t5.keep a o e (zV nL nC z3.me a ha),z3.st.trans t5.fr⟩) (fun _ s5 z5=>?_) fun _ _ x=>x.elim
   refine wpAny_mono (hb A (N++Y) s5 g z5.me z5.fr) (fun fl s6 hp1=>?_) fun _ _ x=>x.elim
   obtain⟨fl',m6,M6,q6,r6,me6,f6,t6⟩:=hp1
   have z6:ForS W env N Y It (N++(Mine.fr env++foot M1)) s2 ds2 m6 M6 s6 :=
    ⟨me6,f6,ip.keep _ _ _ _ _ z5.it (u6 f.lY f.cY t6) fun a ha o e=>t6.keep a o e (zV nL nC z5.me a ha),z5.st.trans t6.fr⟩
   cases fl' with
   |next=>(revert r6;intro(e_:_=_);subst e_);exact⟨ds2.length,by rw [←hk2];exact Nat.lt_succ_self _,ds2,m6,M6,rfl,q6,z6⟩
   |cont=>(revert r6;intro(e_:_=_);subst e_);exact⟨ds2.length,by rw [←hk2];exact Nat.lt_succ_self _,ds2,m6,M6,rfl,q6,z6⟩
   |brk=>(revert r6;intro(e_:_=_);subst e_);exact mF f NY t1.fr nN hk hr q6 (x:=.next) rfl z6 (fun _ _ _ e=>e) ⟨_,_,rfl⟩
   |ret v=>obtain⟨y,rfl,r6⟩:=r6;exact mF f NY t1.fr nN hk hr q6 (x:=.ret y) ⟨y,rfl,r6⟩ z6 (fun _ _ _ e=>e) ⟨_,_,rfl⟩) fun _ _ x=>x) fun _ _ x=>x)
  hi
theorem R5{target:Expr}{I:Addr}:ItP W target I [I] (fun ds h U=>Itr W h U I ds) where
 keep _ _ _ _ _ x k kn:=x.keep k fun o e=>kn I (.head _) o e
 next hh x hN _ k:=Itr.next hh x (hN I (.head _)) fun v h' tk hk al rd it=>⟨v,rfl,K2 it (k v h' tk (fun b o nb e=>hk b o (fun z=>nb (by rw [z];exact .head _)) e) (fun a ha=>by rw [mSp ha];exact al) rd it)⟩
 done hh x hN k:=Itr.done hh x (hN I (.head _)) fun h' tk hk=>k h' tk fun b o nb e=>hk b o (fun z=>nb (by rw [z];exact .head _)) e
theorem Ax(J:List D→Loc→Led→Prop){target iter:Expr}{body:List Stmt}{pos:Pos}(hT:okT env target=true)(hi:∀x,foldedSetIterable iter env x=pure x)
  (h:TE W n env m iter (fun v M1=>∃ds M2,mV M1 v=some (ds,M2)∧J ds m M2) M)
  (turn:∀d ds m M,J (d::ds) m M→∃m',uS target d m=some m'∧TSs W n env body m' (fun f m'' M''=>match f with | .next | .cont=>J ds m'' M'' | .brk=>Q .next m'' M'' | .ret v=>Q (.ret v) m'' M'') M)
  (done:∀m M,J [] m M→Q .next m M):TS W n env (.For target iter body [] pos) m Q M :=
 f9 J hT hi (fun A Y s g me f=>h.use g me f fun x s1 v M1 hp rv me1 f1 t1=>by
  obtain⟨ds,M2,hrow,hJ⟩:=hp
  refine jM me1 hrow rv fun I h' nI aI hk meI kI hM2 hIt=>?_
  have meD:Mem W Y M2 s1.heap∧Frm W Y (Y++foot M2) env m s1.heap∧Step (foot M) (foot M2) s s1:=by
   rcases hM2 with rfl|⟨b,rfl⟩
   ·exact⟨me1,f1,t1⟩
   ·exact⟨me1.drop b,f1.keep (bS b) fun _ _ _ e=>e,t1.trans (cX (F:=[]) b)⟩
  exact .mk M2 s1 I [I] _ ds rfl R5 hJ meD.1 meD.2.1 meD.2.2 (fun a ha=>by rw [mSp ha];exact nI) (fun a ha=>by rw [mSp ha];exact aI) hk ⟨h',_,rfl⟩ hIt) turn done
end
end
section
noncomputable def fD(e:Expr):Bool:=!Nat.beq e.ctorIdx 22
noncomputable def xR(e:Expr):Bool:=Nat.beq e.ctorIdx 25
noncomputable def isCompE(e:Expr):Bool:=Nat.beq e.ctorIdx 8||Nat.beq e.ctorIdx 9||Nat.beq e.ctorIdx 10
section
variable{W:Wd}{G:Str→Option D}{n:Nat}{env:Env}{m:Loc}{M:Led}{Q:bG}
theorem uN{value:Expr}(h:isCompE value=false)(t:Option Expr)(l:Nat):swapsWith value t l env=pure false:=by
 cases value <;> first|rfl|exact dP h
theorem mC{value:Expr}{elts:List Expr}{k:Nat}{p:Pos}{l:Nat}:swapsWithSole [.Tuple elts k p] value l env=pure false:=by
 cases value <;> rfl
theorem wT{value:Expr}{es:List Expr}{k:Nat}{p:Pos}(h:xR value=false):swappedStores [.Tuple es k p] value env=pure none:=by
 cases value <;> first|rfl|exact dP h
theorem u7{es:List Expr}{k:Nat}{p:Pos}{value:Expr}{pos:Pos}(hT:dK env es=true)(ht:xR value=false)
  (h:TE W n env m value (fun v M1=>asT v fun ds=>cB (dT es (ds.map .fz) m) fun m'=>Q .next m' M1) M):TS W n env (.Assign [.Tuple es k p] value pos) m Q M:=fun A Y s g me f =>
 Assign_Tuple (h.use g me f fun y s1 v M1 q0 rv me1 f1 t1=>by
  obtain⟨ds,hv,q1⟩:=zD q0
  obtain⟨m',hm,q⟩:=bB q1
  clear q0
  subst hv
  exact sJ (target:=.Tuple es k p) (d:=.tup ds) g.1 hT hm me1 f1 rv fun s2 me2 f2 t2 _=>⟨.next,m',M1,q,rfl,me2,f2,t1.fr.trans t2⟩) mC (wT ht)
theorem iR{A:Around}{s:Shared}{x:Str}{v:Value}{K:Unit→Shared→Prop}(h:wpAny W.M A (storeName env x v) (fun _ s'=>K () s') NoE s):wpAny W.M A (bindName env x v) K NoE s:=by
 unfold bindName
 exact wpAny_bind (wpAny_holding (wpAny_point (wpAny_bind (wpAny_mono h (fun _ _ q=>wpAny_point q) fun _ _ x=>x))))
theorem tL{α:Type}{b:Bool}{x y z w:α}(e:x=z)(h:b=false→(y=z∨y=w)):(if b=true then x else y)=z∨(if b=true then x else y)=w:=by
 cases b with
 |true=>exact .inl e
 |false=>exact h rfl
theorem BM{g:Expr→Option Str}{x y:Expr}{a b:Str}(hx:g x=some a∨g x=none)(hy:g y=some b∨g y=none)(h:(List.filterMap g [x,y]).length=2):List.filterMap g [x,y] = [a,b]:=by
 rcases hx with hx|hx
 ·rw [List.filterMap_cons_some hx]at h ⊢
  rcases hy with hy|hy
  ·rw [List.filterMap_cons_some hy];rfl
  ·rw [List.filterMap_cons_none hy]at h;cases h
 ·rw [List.filterMap_cons_none hx]at h
  rcases hy with hy|hy
  ·rw [List.filterMap_cons_some hy]at h;cases h
  ·rw [List.filterMap_cons_none hy]at h;cases h
theorem wR{α:Type}{c:Bool}{x:α}:(if c=true then some x else none)=some x∨(if c=true then some x else none)=none:=by
 cases c with
 |true=>exact .inl rfl
 |false=>exact .inr rfl
theorem A1{env:Env}{a b:Str}{pa pb:Pos}{k:Nat}{p:Pos}{e1 e2:Expr}{k2:Nat}{p2:Pos}
  (hc:((foldedForSure 8 e1&&foldedForSure 8 e2)||!(constantsAlone 8 e1&&constantsAlone 8 e2))=true):swappedStores [.Tuple [.Name a pa,.Name b pb] k p] (.Tuple [e1,e2] k2 p2) env=pure none∨swappedStores [.Tuple [.Name a pa,.Name b pb] k p] (.Tuple [e1,e2] k2 p2) env=pure (some [a,b]):=by
 refine tL rfl fun _=>?_
 refine tL rfl fun _=>?_
 refine tL rfl fun h1=>?_
 refine tL rfl fun h2=>?_
 have h1:=BM (x:=.Name a pa) (y:=.Name b pb) wR wR (eq_of_beq (Bool.not_eq_false' ..▸(Bool.or_eq_false_iff.mp h1).1))
 have h3:(constantsAlone 8 e1&&(constantsAlone 8 e2&&true))=false:=by
  rw [Bool.and_true]
  rw [show(foldedForSure 8 e1&&foldedForSure 8 e2)=false by rw [←Bool.and_true (foldedForSure 8 e2)];exact h2]at hc
  exact Bool.not_eq_true' _▸hc
 refine .inr ?_
 show(if (constantsAlone 8 e1&&(constantsAlone 8 e2&&true))=true then _ else pure (some _))=_
 rw [h3,h1]
 rfl
theorem Q7{a b:Str}{pa pb:Pos}{k:Nat}{p:Pos}{e1 e2:Expr}{k2:Nat}{p2:Pos}{pos:Pos}(ha:bW env a=true)(hb:bW env b=true)(hab:a≠b)(h1:fD e1=true)(h2:fD e2=true)
  (hc:((foldedForSure 8 e1&&foldedForSure 8 e2)||!(constantsAlone 8 e1&&constantsAlone 8 e2))=true)
  (h:TL W n env m [e1,e2] p2 (fun us M1=>∃v1 v2,us = [v1,v2]∧Q .next (bE b v2 (bE a v1 m)) M1) M):TS W n env (.Assign [.Tuple [.Name a pa,.Name b pb] k p] (.Tuple [e1,e2] k2 p2) pos) m Q M:=fun A Y s g me f=>by
 have hh:A.handled=none:=g.1
 have hv:∀{K:Value→Shared→Prop},(∀T s1 v1 v2 x1 x2 M1,IsTup s1.heap T #[x1,x2]→Q .next (bE b v2 (bE a v1 m)) M1→aO W s1.heap (Y++foot M1) v1 x1→aO W s1.heap (Y++foot M1) v2 x2→Mem W Y M1 s1.heap→Frm W Y (Y++foot M1) env m s1.heap →
   Step (Mine.fr env++foot M) (Mine.fr env++foot M1) s s1→K (.ref T) s1)→wpAny W.M A (eval (.Tuple [e1,e2] k2 p2) env) K NoE s:=by
  intro K kk
  refine Tuple_ (h.use g me f fun xs s1 us M1 hp1 rs me1 f1 t1=>?_)
  obtain⟨v1,v2,hu,q⟩:=hp1
  subst hu
  obtain⟨x1,x2,rfl,r1,r2⟩:=rs.two_inv
  refine wpAny_newTuple ?_ (by rw [sizeLine_eq];simp)
  have hk:∀b o,s1.heap.get? b=some o→(s1.heap.push {cls:=.type "tuple",data:=.seq #[x1,x2]}).get? b=some o:=aQ _
  have kk':bA (Y++foot M1) (Y++foot M1) s1.heap (s1.heap.push {cls:=.type "tuple",data:=.seq #[x1,x2]}):=fun b o e n=>⟨hk b o e,n⟩
  exact kk _ _ v1 v2 x1 x2 M1 ⟨_,Heap.get?_push_size _ rfl,rfl,_,rfl⟩ q (r1.keep kk') (r2.keep kk') (me1.same (s':={s1 with heap:=s1.heap.push _}) hk) (f1.keep kk' fun a _ o e=>hk a o e) (t1.fr.trans (Step.same (s':={s1 with heap:=s1.heap.push _}) hk ⟨_,_,rfl⟩))
 have hw:=A1 (env:=env) (a:=a) (b:=b) (pa:=pa) (pb:=pb) (k:=k) (p:=p) (k2:=k2) (p2:=p2) hc
 rcases hw with hw|hw
 ·refine Assign_Tuple (hv fun T s1 v1 v2 x1 x2 M1 hT q r1 r2 me1 f1 t1=>?_) mC hw
  have no:dK env [.Name a pa,.Name b pb]=true:=by show(bW env a&&(bW env b&&true))=true;rw [ha,hb];rfl
  obtain⟨i1,i2⟩:=gM no
  refine wpAny_assign_Tuple hh hT (by rw [i2];rfl) i1 fun h' hx=>?_
  have hk:∀b o,s1.heap.get? b=some o→h'.get? b=some o:=fun b o e=>hx b o (Nat.ne_of_lt (Heap.lt_size e)) e
  have kk:bA (Y++foot M1) (Y++foot M1) s1.heap h':=fun b o e n=>⟨hk b o e,n⟩
  exact pL (s:={s1 with heap:=h'}) (vs:=[v1,v2]) no rfl (me1.same (s':={s1 with heap:=h'}) hk) (f1.keep kk fun a _ o e=>hk a o e) (VRelL.two (r1.keep kk) (r2.keep kk)) fun s2 me2 f2 t2 k2=>⟨.next,_,M1,q,rfl,me2,f2,(t1.trans (Step.same (s':={s1 with heap:=h'}) hk ⟨_,_,rfl⟩)).trans t2⟩
 ·refine Assign_Tuple_swapped (hv fun T s1 v1 v2 x1 x2 M1 hT q r1 r2 me1 f1 t1=>?_) mC hw
  rw [show([a,b]:List Str).length=(#[x1,x2]:Array Value).size from rfl]
  refine wpAny_unpackItems_tuple hh hT fun h' hx=>?_
  have hk:∀b o,s1.heap.get? b=some o→h'.get? b=some o:=fun b o e=>hx b o (Nat.ne_of_lt (Heap.lt_size e)) e
  have kk:bA (Y++foot M1) (Y++foot M1) s1.heap h':=fun b o e n=>⟨hk b o e,n⟩
  rw [show([a,b]:List Str).reverse = [b,a]from rfl,show(#[x1,x2]:Array Value).toList.reverse = [x2,x1]from rfl,List.map_cons,List.map_cons,List.map_nil]
  refine wpAny_assignInOrder_more (iR (dZ (s:={s1 with heap:=h'}) hb (me1.same (s':={s1 with heap:=h'}) hk) (f1.keep kk fun a _ o e=>hk a o e) (r2.keep kk) fun s2 me2 f2 t2 k2 _=>?_))
  refine wpAny_assignInOrder_more (iR (dZ ha me2 f2 ((r1.keep kk).keep k2) fun s3 me3 f3 t3 k3 _=>?_))
  refine wpAny_assignInOrder_none ⟨.next,_,M1,q,rfl,me3,f3.ext fun x=>?_,((t1.trans (Step.same (s':={s1 with heap:=h'}) hk ⟨_,_,rfl⟩)).trans t2).trans t3⟩
  simp only [hW]
  by_cases e1:a=x
  ·by_cases e2:b=x
   ·exact(hab (e1.trans e2.symm)).elim
   ·simp [e1,e2]
  ·by_cases e2:b=x <;> simp [e1,e2]
end
end
section
theorem dD{α:Type}{x:Str}:∀l:List (Str × α),l.lookup x=lk x l
 |[]=>rfl
 |(k,v)::r=>by
  rw [List.lookup_cons]
  rw [dC]
  by_cases e:k=x
  ·subst e;simp
  ·have:(x==k)=false:=beq_false_of_ne (fun h=>e h.symm)
   rw [this,if_neg e]
   exact dD r
noncomputable def tV(r:Option NameKind):Bool:=match r with
 |none=>false
 |some k=>(match k with
  |.free=>true
  |_=>false)
theorem rJ{r:Option NameKind}:tV r=true↔r=some .free:=by
 rcases r with _|k
 ·exact⟨fun h=>aL h,fun h=>aF h⟩
 ·cases k <;> first|exact⟨fun _=>rfl,fun _=>rfl⟩|exact⟨fun h=>aL h,fun h=>by cases(h)⟩
noncomputable def dR(ns:List (Str × NameKind)):Loc→Loc
 |[]=>[]
 |p::r=>bif tV (lk p.1 ns)then p::dR ns r else dR ns r
theorem kN{ns:List (Str × NameKind)}{x:Str}:∀{m:Loc}{v:V},lk x (dR ns m)=some v→ns.lookup x=some .free∧lk x m=some v
 |[],_,h=>by exact aF h
 |(y,u)::r,v,h=>by
  rw [dD]
  have h:lk x (bif tV (lk y ns)then(y,u)::dR ns r else dR ns r)=some v:=h
  cases c:tV (lk y ns)with
  |true =>
   rw [c,cond_true,dC]at h
   rw [dC]
   by_cases e:y=x
   ·rw [if_pos e]at h ⊢;exact⟨e▸rJ.mp c,h⟩
   ·rw [if_neg e]at h ⊢;rw [←dD];exact kN h
  |false =>
   rw [c,cond_false]at h
   obtain⟨h1,h2⟩:=kN h
   rw [dD]at h1
   refine⟨h1,?_⟩
   rw [dC,if_neg (fun e=>by rw [e,rJ.mpr h1]at c;exact dP c)]
   exact h2
theorem rX(x:Str)(u v:V):∀m:Loc,bE x v (bE x u m)=bE x v m
 |[]=>by show bE x v [(x,u)] = [(x,v)];rw [dQ,if_pos rfl]
 |(k,w)::r=>by
  rw [dQ,dQ]
  by_cases h:k=x
  ·rw [if_pos h,if_pos h,dQ,if_pos h]
  ·rw [if_neg h,if_neg h,dQ,if_neg h,rX x u v r]
noncomputable def bK(κ:List (Str × NameKind))(scope:Scope)(x:Str):Bool :=
 scope.kind==.function&&scope.names.lookup x==some .local&&scope.names.all (fun y=>y.2 != .cell&&(y.2 != .local||scope.names.lookup y.1==some .local)&&(y.2 != .free||κ.lookup y.1==some .cell))&&decide ((scope.names.map (·.1)).Nodup)
noncomputable def clOf(cells:List (Str × Addr)):List (Str × NameKind)→List (Str × Addr)→List (Str × Addr)
 |[],acc=>acc
 |(n,k)::r,acc=>if k==.free then(match cells.lookup n with
   |some c=>clOf cells r ((n,c)::acc)
   |none=>clOf cells r acc)else clOf cells r acc
theorem sI{cells:List (Str × Addr)}{n:Str}{k:NameKind}{r:List (Str × NameKind)}{acc:List (Str × Addr)}(c:(k==.free)=true):clOf cells ((n,k)::r) acc=(match cells.lookup n with|some c=>clOf cells r ((n,c)::acc)|none=>clOf cells r acc):=if_pos c
theorem wP{cells:List (Str × Addr)}{n:Str}{k:NameKind}{r:List (Str × NameKind)}{acc:List (Str × Addr)}(c:¬(k==.free)=true):clOf cells ((n,k)::r) acc=clOf cells r acc:=if_neg c
theorem qY(env:Env):∀(ns:List (Str × NameKind)) (acc:List (Str × Addr)),(∀y∈ns,y.2 = .free→∃c,env.cells.lookup y.1=some c) →
  (forIn ns acc (fun(x:Str × NameKind) (r:List (Str × Addr))=>(match x with
   |(name,kind)=>if (kind==NameKind.free)=true then do
     let a←cellOf env name
     pure (ForInStep.yield ((name,a)::r))
    else pure (ForInStep.yield r):Sem (ForInStep (List (Str × Addr))))):Sem (List (Str × Addr)))=pure (clOf env.cells ns acc)
 |[],acc,_=>List.forIn_nil ..
 |(n,k)::r,acc,h=>by
  rw [List.forIn_cons]
  have ih:=fun acc=>qY env r acc fun y hy=>h y (.tail _ hy)
  by_cases c:(k==.free)=true
  ·obtain⟨a,ha⟩:=h (n,k) (.head _) (eq_of_beq c)
   have hc:cellOf env n=pure a:=by unfold cellOf;rw [ha]
   dsimp only
   rw [if_pos c,hc]
   simp only [pure_bind]
   rw [ih]
   rw [sI c,show env.cells.lookup n=some a from ha]
  ·simp only [c,if_false,pure_bind,Bool.false_eq_true]
   rw [ih,wP c]
theorem xM(env:Env)(scope:Scope)(h:∀y∈scope.names,y.2 = .free→∃c,env.cells.lookup y.1=some c):closureFor scope env=pure (clOf env.cells scope.names []):=by
 have:=qY env scope.names [] h
 unfold closureFor
 rw [←this]
 simp
theorem jC{cells:List (Str × Addr)}:∀{ns:List (Str × NameKind)}{acc:List (Str × Addr)},(ns.map (·.1)).Nodup→(∀p∈acc,p.1∉ns.map (·.1))→(∀p∈acc,cells.lookup p.1=some p.2)→(acc.map (·.1)).Nodup →
  (∀p∈clOf cells ns acc,cells.lookup p.1=some p.2)∧((clOf cells ns acc).map (·.1)).Nodup∧(∀p∈acc,p∈clOf cells ns acc)∧(∀x c,(x,NameKind.free)∈ns→cells.lookup x=some c→(x,c)∈clOf cells ns acc)
 |[],acc,_,_,h1,h2=>⟨h1,h2,fun _ h=>h,fun x c h=>by cases h⟩
 |(n,k)::r,acc,nd,ha,h1,h2=>by
  simp only [List.map_cons,List.nodup_cons]at nd
  have ha':∀p∈acc,p.1∉r.map (·.1):=fun p hp h=>ha p hp (by simp only [List.map_cons];exact .tail _ h)
  by_cases c:(k==.free)=true
  ·rw [sI c]
   cases q:cells.lookup n with
   |none =>
    obtain⟨i1,i2,i3,i4⟩:=jC (cells:=cells) nd.2 ha' h1 h2
    refine⟨i1,i2,i3,fun x a hx e=>?_⟩
    rcases mCp hx with z|z
    ·cases z;rw [q]at e;exact aF e
    ·exact i4 x a z e
   |some a =>
    obtain⟨i1,i2,i3,i4⟩:=jC (cells:=cells) (acc:=(n,a)::acc) nd.2 (fun p hp=>by
     rcases mCp hp with rfl|hp
     ·exact nd.1
     ·exact ha' p hp) (fun p hp=>by
     rcases mCp hp with rfl|hp
     ·exact q
     ·exact h1 p hp) (by
     simp only [List.map_cons,List.nodup_cons]
     exact⟨fun h=>by
      obtain⟨p,hp,e⟩:=mMp h
      exact ha p hp (by simp [e]),h2⟩)
    refine⟨i1,i2,fun p hp=>i3 p (.tail _ hp),fun x b hx e=>?_⟩
    rcases mCp hx with z|z
    ·cases z;rw [q]at e;(have e_:=Option.some.inj e;clear e;subst e_);exact i3 _ (.head _)
    ·exact i4 x b z e
  ·rw [wP c]
   obtain⟨i1,i2,i3,i4⟩:=jC (cells:=cells) nd.2 ha' h1 h2
   refine⟨i1,i2,i3,fun x a hx e=>?_⟩
   rcases mCp hx with z|z
   ·cases z;simp at c
   ·exact i4 x a z e
theorem eH{β:Type}{x:Str}{c:β}:∀{l:List (Str × β)},(l.map (·.1)).Nodup→(x,c)∈l→l.lookup x=some c
 |[],_,h=>by cases h
 |(y,b)::r,nd,h=>by
  simp only [List.map_cons,List.nodup_cons]at nd
  rw [List.lookup_cons]
  rcases mCp h with z|z
  ·cases z;simp
  ·have:x≠y:=fun e=>nd.1 (e▸mMr ⟨_,z,rfl⟩)
   have:(x==y)=false:=beq_false_of_ne this
   rw [this]
   exact eH nd.2 z
theorem hF{α β:Type}(g:α→Str→β){x:Str}:∀ns:List (Str × α),(ns.map fun p=>(p.1,g p.2 p.1)).lookup x=(ns.lookup x).map fun k=>g k x
 |[]=>rfl
 |(n,k)::r=>by
  rw [List.map_cons,List.lookup_cons,List.lookup_cons]
  by_cases e:x=n
  ·subst e;simp
  ·have ne:(x==n)=false:=beq_false_of_ne e
   simp only [ne]
   exact hF g r
theorem dS{scope:Scope}{env:Env}{cells:List (Str × Addr)}{C:Addr}{x:Str}(hf:env.scope.kind = .function) :
  (compEnvC scope cells C env).kindOf x=(scope.names.lookup x).map fun k=>if (k==.free&&env.kindOf x==some .cell)=true then .cell else k:=by
 rw [←hF (fun k x=>if (k==NameKind.free&&env.kindOf x==some .cell)=true then NameKind.cell else k)]
 show(scope.names.map fun(n,k)=>if (k==.free&&env.scope.kind==.function&&env.kindOf n==some .cell)then(n,NameKind.cell)else(n,k)).lookup x=_
 congr 1
 apply List.map_congr_left
 rintro⟨n,k⟩ _
 have e:(env.scope.kind==ScopeKind.function)=true:=by rw [hf];rfl
 simp only [e,Bool.and_true]
 split <;> rfl
theorem vZ{cells:List (Str × Addr)}(ad:cells.Pairwise fun x y=>x.2≠y.2){x y:Str}{a b:Addr}(h1:cells.lookup x=some a)(h2:cells.lookup y=some b)(hn:x≠y):a≠b:=by
 have m1:=mem_of_lookup h1
 have m2:=mem_of_lookup h2
 clear h1 h2
 intro e
 subst e
 induction cells with
 |nil=>cases m1
 |cons p cs ih =>
  rw [List.pairwise_cons]at ad
  rcases mCp m1 with e1|e1
  ·rcases mCp m2 with e2|e2
   ·rw [←e1]at e2;exact hn (congrArg Prod.fst e2).symm
   ·exact ad.1 _ e2 (by rw [←e1])
  ·rcases mCp m2 with e2|e2
   ·exact ad.1 _ e1 (by rw [←e2])
   ·exact ih ad.2 e1 e2
section
variable{W:Wd}{G:Str→Option D}{n:Nat}{env:Env}{m:Loc}{M:Led}{Q:aJ}
theorem cI{κ:List (Str × NameKind)}{scope:Scope}{x:Str}(h:bK κ scope x=true):scope.kind = .function∧scope.names.lookup x=some .local∧(∀y∈scope.names,y.2≠.cell)∧(∀y∈scope.names,y.2 = .local→scope.names.lookup y.1=some .local) ∧
  (∀y∈scope.names,y.2 = .free→κ.lookup y.1=some .cell)∧(scope.names.map (·.1)).Nodup:=by
 simp only [bK,Bool.and_eq_true,beq_iff_eq,List.all_eq_true,decide_eq_true_eq,Bool.or_eq_true,bne_iff_ne,ne_eq]at h
 obtain⟨⟨⟨h1,h2⟩,h3⟩,h4⟩:=h
 exact⟨h1,h2,fun y hy=>(h3 y hy).1.1,fun y hy e=>((h3 y hy).1.2).resolve_left (fun q=>q e),fun y hy e=>((h3 y hy).2).resolve_left (fun q=>q e),h4⟩
noncomputable def cenvOf(scope:Scope)(env:Env)(C:Addr):Env:=compEnvC scope (clOf env.cells scope.names []) C env
theorem yS{Y:List Addr}{U U':List Addr}{h h':Heap}{scope:Scope}{x:Str}{C:Addr}(hc:bK env.scope.names scope x=true)(f:Frm W Y U env m h)(k:bA U U' h h')(hk:∀b o,h.get? b=some o→h'.get? b=some o)
  (nC:h.get? C=none) (al:∀a∈Y,∃o,h.get? a=some o) (hC:h'.Ns C fun _=>none):Frm W (C::Y) U' (cenvOf scope env C) (dR scope.names m) h':=by
 obtain⟨c1,c2,c3,c4,c5,c6⟩:=cI hc
 obtain⟨s1,s2,_,s4⟩:=jC (cells:=env.cells) (acc:=[]) c6 (by exact fun _ h_=>(List.not_mem_nil h_).elim) (by exact fun _ h_=>(List.not_mem_nil h_).elim) (by simp)
 have old:∀p∈clOf env.cells scope.names [],p.2∈Y:=fun p hp=>f.cY _ (mem_of_lookup (s1 p hp))
 have CY:C∉Y:=fun hb=>by obtain⟨o,e⟩:=al C hb;rw [nC]at e;exact aF e
 have kinds:∀z,scope.names.lookup z=some .free→env.kindOf z=some .cell∧(cenvOf scope env C).kindOf z=some .cell:=by
  intro z hz
  have e:=c5 (z,.free) (mem_of_lookup hz) rfl
  refine⟨e,?_⟩
  unfold cenvOf
  rw [dS f.kind,hz]
  have:env.kindOf z=some .cell:=e
  simp [this]
 have toCl:∀z c,scope.names.lookup z=some .free→env.cells.lookup z=some c→(cenvOf scope env C).cells.lookup z=some c:=fun z c hz e=>eH s2 (s4 z c (mem_of_lookup hz) e)
 exact{
  kind:=c1
  glo:=f.glo
  bui:=f.bui
  lY:=.head _
  cY:=fun p hp=>.tail _ (old p hp)
  ns:=⟨_,hC,fun z v a b=>by
   obtain⟨h1,_⟩:=kN a
   rw [(kinds z h1).2]at b;cases b⟩
  cl:=fun z v a b=>by
   obtain⟨h1,h2⟩:=kN a
   obtain⟨c,y,e1,⟨o,e2,e3⟩,e4⟩:=f.cl z v h2 (.inl (kinds z h1).1)
   exact⟨c,y,toCl z c h1 e1,⟨o,hk _ o e2,e3⟩,e4.keep k⟩
  ce:=fun z a=>by
   have e0:(cenvOf scope env C).kindOf z=(scope.names.lookup z).map fun k=>if (k==.free&&env.kindOf z==some .cell)=true then .cell else k:=dS f.kind
   rw [e0]at a
   cases q:scope.names.lookup z with
   |none=>rw [q]at a;exact aF a
   |some kd =>
    rw [q]at a
    by_cases hfree:kd = .free
    ·subst hfree
     obtain⟨c,y,e1,o,e2,e3⟩:=f.ce z (kinds z q).1
     exact⟨c,y,toCl z c q e1,o,hk _ o e2,e3⟩
    ·have:(kd==.free)=false:=beq_false_of_ne hfree
     simp only [Option.map_some,this,Bool.false_and,Bool.false_eq_true,if_false,Option.some.injEq]at a
     exact(c3 _ (mem_of_lookup q) a).elim
  kd:=fun z v a=>by
   obtain⟨h1,_⟩:=kN a
   exact .inr (.inl (kinds z h1).2)
  ap:=fun p hp e=>CY (by have:=old p hp;rw [e]at this;exact this)
  ad:=by
   have pw:(clOf env.cells scope.names []).Pairwise fun a b=>a.1≠b.1:=by
    have:=s2
    unfold List.Nodup at this
    rwa [List.pairwise_map]at this
   exact pw.imp_of_mem fun ha hb hne=>vZ f.ad (s1 _ ha) (s1 _ hb) hne}
def TI(W:Wd)(n:Nat)(env:Env)(m:Loc)(ifs:List Expr)(Q:Bool→Led→Prop)(M:Led):Prop :=
 match ifs with
 |[]=>Q true M
 |[c]=>TB W n env m c Q M
 |_=>False
theorem Fo{ifs:List Expr}{QB:Bool→Led→Prop}(h:TI W n env m ifs QB M):Tr W n env m (fun _ _ b x=>x=b) (forIn ifs true fun c r=>if r=true then do let ok←isTrue c env (eval c env);pure (ForInStep.yield ok)else pure (ForInStep.yield r)) QB M:=by
 rcases ifs with _|⟨c,_|⟨d,ifs⟩⟩
 ·intro A Y s g me f
  rw [List.forIn_nil]
  exact wpAny_pure (ResG.here h rfl me)
 ·intro A Y s g me f
  rw [List.forIn_cons]
  exact wpAny_bind (wpAny_bind (wpAny_mono (h A Y s g me f) (fun b s' hb=>wpAny_pure (by show wpAny _ _ (forIn [] _ _) _ _ _;rw [List.forIn_nil];exact wpAny_pure hb)) fun _ _ x=>x))
 ·exact h.elim
theorem Step.widen{S S':List Addr}{s s':Shared}(x:Step S S s s')(h:∀a∈S,a∈S'):Step S' S' s s':=⟨fun b o e n=>x.keep b o e fun hb=>n (h b hb),x.rest,fun _ h=>.inl h⟩
structure CpS(W:Wd)(cenv:Env)(I:Addr)(Y:List Addr)(M0:Led)(s0:Shared)(ds:List D)(m:Loc)(M:Led)(s:Shared):Prop where
 me:Mem W (I::Y) M s.heap
 fr:Frm W (I::Y) (I::Y++foot M) cenv m s.heap
 it:Itr W s.heap (I::Y++foot M) I ds
 st:Step ([I,cenv.locals]++foot M0) ([I,cenv.locals]++foot M) s0 s
inductive CpI(W:Wd)(cenv:Env)(I:Addr)(Y:List Addr)(M0:Led)(s0:Shared)(J:List D→List V→Led→Prop)(x:Str)(mc:Loc)(k:Nat)(s:Shared):Prop
 |mk (ds:List D) (acc:List V) (m:Loc) (M:Led) (e:ds.length=k) (h:J ds acc M) (hm:∀d,bE x (.fz d) m=bE x (.fz d) mc) (z:CpS W cenv I Y M0 s0 ds m M s)
theorem kS{I:Addr}{Y:List Addr}{ds:List D}{M5 M6:Led}{s5 s6:Shared}(me:Mem W (I::Y) M5 s5.heap)(st:Step (foot M5) (foot M6) s5 s6)(it:Itr W s5.heap (I::Y++foot M5) I ds):Itr W s6.heap (I::Y++foot M6) I ds :=
 it.keep st.keeps fun o e=>st.keep I o e fun hb=>me.disj I hb (.head _)
theorem q4(wk:Wk W G){elt iter:Expr}{x:Str}{px:Pos}{ifs:List Expr}{scope:Scope}{pos:Pos}{cenv:Env}{mc:Loc}{a:Addr}(J:List D→List V→Led→Prop)(hx:cenv.kindOf x=some .local)
  (turn:∀d ds acc M,J (d::ds) acc M→TI W n cenv (bE x (.fz d) mc) ifs (fun ok M1=>if ok then TE W n cenv (bE x (.fz d) mc) elt (fun v M2=>M2.lookup a=some (.lst acc)∧acc.length≤1000000∧J ds (acc++[v]) (put M2 a (.lst (acc++[v])))) M1 else J ds acc M1) M)
  {A:Around}{Y:List Addr}{s0 s:Shared}{I:Addr}{ds:List D}{acc:List V}{m0:Loc}{M0:Led}{R:Result→Shared→Prop}(g:cF n A) (hm:∀d,bE x (.fz d) m0=bE x (.fz d) mc) (hJ:J ds acc M)
  (me:Mem W (I::Y) M s.heap) (f:Frm W (I::Y) (I::Y++foot M) cenv m0 s.heap) (hI:Itr W s.heap (I::Y++foot M) I ds) (IY:I∉Y) (lY:cenv.locals∈Y) (cY:∀p∈cenv.cells,p.2∈Y) (t:Step ([I,cenv.locals]++foot M0) ([I,cenv.locals]++foot M) s0 s)
  (hR:∀s' acc M',J [] acc M'→Mem W Y M' s'.heap→(∃mR,s'.heap.Ns cenv.locals mR)→Step ([I,cenv.locals]++foot M0) ([I,cenv.locals]++foot M') s0 s'→R (.ok .next) s') :
  codeAny W.M A (.compLoop (.ListComp elt [⟨.Name x px,iter,ifs,0⟩] scope pos) 0 (.ref I) (.ref a) cenv) R s:=by
 have nL:I≠cenv.locals:=fun e=>IY (e▸lY)
 have nC:∀p∈cenv.cells,p.2≠I:=fun p hp e=>IY (e▸cY p hp)
 have hh:A.handled=none:=g.1
 refine codeAny_compLoop_tests (CpI W cenv I Y M0 s0 J x mc) (fun k s2 hp=>?_) ds.length ⟨ds,acc,m0,M,rfl,hJ,hm,me,f,hI,t⟩
 obtain⟨ds2,acc2,m2,M2,hk2,hJ2,hm2,me2,f2,it2,t2⟩:=hp
 cases ds2 with
 |nil =>
  refine wpAny_mono (Itr.done (K:=fun r s3=>r=none∧R (.ok .next) s3) hh it2 (.head _) fun h3 tk hk3=>⟨rfl,?_⟩) (fun r s3 hp1=>by obtain⟨e,q⟩:=hp1;subst e;exact q) fun _ _ x=>x.elim
  obtain⟨mR,⟨o,es,ep,e1,e2⟩,_⟩:=f2.ns
  exact hR _ acc2 M2 hJ2 (me2.leave (N:=[I]) (fun b o nb e=>hk3 b o (by simpa using nb) e) (by simpa using IY)) ⟨mR,o,es,ep,hk3 _ _ (Ne.symm nL) e1,e2⟩
   (t2.trans ⟨fun b o e nb=>hk3 b o (fun z=>nb (z▸.head _)) e,⟨_,_,rfl⟩,fun _ h=>.inl h⟩)
 |cons d ds2 =>
  refine wpAny_mono (Itr.next (K:=fun r s3=>∃v,r=some v∧Rep W s3.heap (I::Y++foot M2) d v∧CpS W cenv I Y M0 s0 ds2 m2 M2 s3) hh it2 (.head _) fun v h3 tk hk3 al rd it3=>⟨v,rfl,rd,me2.ykeep (.head _) hk3 al,f2.ykeep (.head _) nL nC hk3,it3,
    t2.trans ⟨fun b o e nb=>hk3 b o (fun z=>nb (z▸.head _)) e,⟨_,_,rfl⟩,fun _ h=>.inl h⟩⟩) (fun r s3 hp=>?_) fun _ _ x=>x.elim
  obtain⟨v,e,rd,me3,f3,it3,t3⟩:=hp
  subst e
  have htest:=turn d ds2 acc2 M2 hJ2
  refine wpAny_mono (wpAny_assign_Name (dZ (v:=.fz d) (K:=fun _ s4=>CpS W cenv I Y M0 s0 ds2 (bE x (.fz d) mc) M2 s4) (by unfold bW;rw [hx];rfl) me3 f3 rd fun s4 me4 f4 _ k4 t4=>⟨me4,hm2 d▸f4,it3.keep k4 fun o e=>(t4 hx).keep I o e fun hb=>?_,t3.trans ((t4 hx).widen fun b hb=>?_)⟩)) (fun _ s4 z4=>?_) fun _ _ x=>x.elim
  ·rcases mAp hb with q|q
   ·exact nL (mSp q)
   ·exact me3.disj I q (.head _)
  ·rcases mAp hb with q|q
   ·rw [mSp q];exact .tail _ (.head _)
   ·exact mAr (.inr q)
  ·obtain⟨me4,f4,it4,t4⟩:=z4
   have hmc:∀d',bE x (.fz d') (bE x (.fz d) mc)=bE x (.fz d') mc:=fun d'=>rX _ _ _ _
   have hlt:ds2.length<k:=by rw [←hk2];exact Nat.lt_succ_self _
   refine wpAny_mono ((Fo htest).use (K:=fun ok s5=>if ok=true then wpAny W.M A (eval elt cenv) (fun v s6=>wpAny W.M A (call (.builtin "list.append") [.ref a,v]) (fun _ s7=>∃j,j<k∧CpI W cenv I Y M0 s0 J x mc j s7) NoE s6) NoE s5
     else ∃j,j<k∧CpI W cenv I Y M0 s0 J x mc j s5) g me4 f4 fun ok s5 b M5 q rb me5 f5 t5=>?_) (fun ok s5 q=>?_) fun _ _ x=>x.elim
   ·subst rb
    cases ok with
    |false=>exact⟨_,hlt,ds2,acc2,_,M5,rfl,q,hmc,me5,f5,kS me4 t5 it4,t4.trans t5.fr⟩
    |true =>
     refine(show TE W n cenv _ elt _ M5 from q).use g me5 f5 fun v s6 u M6 hp1 ru me6 f6 t6=>?_
     obtain⟨q1,q2,q3⟩:=hp1
     refine wpAny_mono (pJ (n:=n) (d:=.loc a) (v:=u) (Y:=I::Y) (s:=s6) (xs:=[.ref a,v]) (Q:=fun v M7=>M7=put M6 a (.lst (acc2++[u]))) g me6 (VRelL.two rfl ru) (sG q1 ⟨q2,_,rfl,rfl⟩)) (fun _ s7 hp1=>?_) fun _ _ x=>x
     obtain⟨_,M7,hM,_,me7,t7⟩:=hp1
     subst hM
     exact⟨_,hlt,ds2,acc2++[u],_,_,rfl,q3,hmc,me7,f6.step me6 t7,kS me6 t7 (kS me5 t6 (kS me4 t5 it4)),((t4.trans t5.fr).trans t6.fr).trans t7.fr⟩
   ·cases ok with
    |false=>exact q
    |true=>exact wpAny_mono q (fun v s6 q=>wpAny_mono q (fun _ _ q=>q) fun _ _ x=>x.elim) fun _ _ x=>x.elim
end
end
section
section
variable{W:Wd}{G:Str→Option D}{n:Nat}{env:Env}{m:Loc}{M:Led}{Q:aJ}
theorem zC{I C b:Addr}{Y R:List Addr}:b∈I::C::Y++R↔b∈[C]++(I::Y)++R:=(List.Perm.swap C I (Y++R)).mem_iff
theorem g7{I C:Addr}{Y R:List Addr}{h:Heap}:bA ([C]++(I::Y)++R) (I::C::Y++R) h h:=fun b o e nb=>⟨e,fun hb=>nb (zC.mp hb)⟩
theorem Mem.swap{I C:Addr}{Y:List Addr}{h:Heap}(me:Mem W ([C]++(I::Y)) M h):Mem W (I::C::Y) M h where
 alive a ha:=me.alive a (zC.mp ha)
 base b o e:=⟨(me.base b o e).1,fun hb=>(me.base b o e).2 (zC.mp hb)⟩
 nodup:=me.nodup
 disj a ha hb:=me.disj a ha ((List.Perm.swap C I Y).mem_iff.mp hb)
 led p hp:=(me.led p hp).keep g7 fun _ _ _ e=>e
theorem lZ{gens:List Comprehension}{elt iter:Expr}{x:Str}{px:Pos}{ifs:List Expr}{scope:Scope}{pos:Pos}(P:Addr→List V→Led→Prop)(hc:bK env.scope.names scope x=true)
  {A:Around}{Y:List Addr}{s1 s2:Shared}{I:Addr}{ds:List D}{M1 M2:Led}{K:Value→Addr→Result→Shared→Prop}
  (lp:∀(a C:Addr) (s:Shared) (R:Result→Shared→Prop),(cenvOf scope env C).kindOf x=some .local→a∉foot M2→Mem W (I::C::Y) ((a,.lst [])::M2) s.heap→Frm W (I::C::Y) (I::C::Y++foot ((a,Cell.lst [])::M2)) (cenvOf scope env C) (dR scope.names m) s.heap →
   Itr W s.heap (I::C::Y++foot ((a,Cell.lst [])::M2)) I ds→I∉C::Y→(∀p∈(cenvOf scope env C).cells,p.2∈C::Y) →
   (∀s' acc M',P a acc M'→Mem W (C::Y) M' s'.heap→(∃mR,s'.heap.Ns C mR)→Step ([I,C]++foot ((a,Cell.lst [])::M2)) ([I,C]++foot M') s s'→R (.ok .next) s') →
   codeAny W.M A (.compLoop (.ListComp elt (⟨.Name x px,iter,ifs,0⟩::gens) scope pos) 0 (.ref I) (.ref a) (cenvOf scope env C)) R s)
  (nI:s1.heap.get? I=none) (hk:∀b o,s1.heap.get? b=some o→s2.heap.get? b=some o) (hr:∃h tk,s2 ={s1 with heap:=h,toks:=tk}) (sub:∀b∈foot M2,b∈foot M1) (me1:Mem W Y M1 s1.heap) (f1:Frm W Y (Y++foot M1) env m s1.heap)
  (me:Mem W (I::Y) M2 s2.heap) (kI:bA (Y++foot M1) (I::Y++foot M2) s1.heap s2.heap) (hI:Itr W s2.heap (I::Y++foot M2) I ds)
  (hR:∀a C s' acc M',P a acc M'→Mem W (C::Y) M' s'.heap→(∃mR,s'.heap.Ns C mR)→s1.heap.get? C=none→C∉Y→Step (foot M1) (foot M') s1 s'→Frm W Y (Y++foot M') env m s'.heap→K (.ref a) C (.ok .next) s') :
  wpAny W.M A (newList []) (fun acc s₃=>wpAny W.M A (newFunctionEnv scope env.globals (clOf env.cells scope.names []) [] env.qual none .none (some env)) (fun cenv s₄ =>
   codeAny W.M A (.compStart (.ListComp elt (⟨.Name x px,iter,ifs,0⟩::gens) scope pos) 0 (.ref I) acc {cenv with scope:=relabel scope env}) (K acc cenv.locals) s₄) NoE s₃) NoE s2:=by
 obtain⟨c1,c2,c3,c4,c5,c6⟩:=cI hc
 refine wpAny_newList ?_ (by rw [sizeLine_eq];simp)
 have fresh:=cE
 obtain⟨me3,st3⟩:=Led.new (s:=s2) (o:={cls:=.type "list",data:=.seq #[]}) (c:=.lst []) (tk:=s2.toks) me rfl rfl (fun U k=>⟨0,#[],Heap.get?_push_size _ rfl,rfl⟩)
 have hI3:Itr W (s2.heap.push {cls:=.type "list",data:=.seq #[]}) (I::Y++foot ((s2.heap.objs.size,Cell.lst [])::M2)) I ds:=hI.keep st3.keeps (fun o e=>aQ _ _ _ e)
 have nA:s1.heap.get? s2.heap.objs.size=none:=by
  cases q:s1.heap.get? s2.heap.objs.size with
  |none=>rfl
  |some o=>have:=hk _ _ q;rw [fresh]at this;exact aF this
 generalize hH3:s2.heap.push {cls:=.type "list",data:=.seq #[]}=H3 at me3 hI3
 have hk3:∀b o,s2.heap.get? b=some o→H3.get? b=some o:=fun b o e=>hH3▸aQ _ b o e
 refine wpAny_newFunctionEnv c3 (by intro y hy;simp at hy) (fun h4 hns hsb=>?_) c1
 dsimp only at hns hsb ⊢
 generalize hC:H3.objs.size=C at hns hsb ⊢
 have nC3:H3.get? C=none:=hC▸fresh H3
 have hk4:∀b o,H3.get? b=some o→h4.get? b=some o:=fun b o e=>(hsb.2 b (fun z=>by rw [z,nC3]at e;exact aF e)).trans (aQ _ b o e)
 have nC2:s2.heap.get? C=none:=by
  cases q:s2.heap.get? C with
  |none=>rfl
  |some o=>have:=hk3 _ _ q;rw [nC3]at this;exact aF this
 have nC1:s1.heap.get? C=none:=by
  cases q:s1.heap.get? C with
  |none=>rfl
  |some o=>have:=hk _ _ q;rw [nC2]at this;exact aF this
 have hns':h4.Ns C fun _=>none:=by exact hns
 have alC:∃o,h4.get? C=some o:=let⟨o,_,_,e,_⟩:=hns';⟨o,e⟩
 have IY:I∉Y:=fun hb=>by obtain⟨o,e⟩:=me1.alive I (mAr (.inl hb));rw [nI]at e;exact aF e
 have CY:C∉Y:=fun hb=>by obtain⟨o,e⟩:=me1.alive C (mAr (.inl hb));rw [nC1]at e;exact aF e
 have neIC:I≠C:=fun e=>by
  obtain⟨o,q⟩:=me.alive I (.head _);rw [e,nC2]at q;exact aF q
 have meC:Mem W ([C]++(I::Y)) ((s2.heap.objs.size,Cell.lst [])::M2) h4:=me3.grow hk4 (by simpa using nC3) (by simpa using alC)
 have kC:bA (I::Y++foot ((s2.heap.objs.size,Cell.lst [])::M2)) ([C]++(I::Y)++foot ((s2.heap.objs.size,Cell.lst [])::M2)) H3 h4:=fV hk4 (by simpa using nC3)
 have perm:∀{R:List Addr}{h:Heap},bA ([C]++(I::Y)++R) (I::C::Y++R) h h:=g7
 have meD:Mem W (I::C::Y) ((s2.heap.objs.size,Cell.lst [])::M2) h4:=meC.swap
 have hID:Itr W h4 (I::C::Y++foot ((s2.heap.objs.size,Cell.lst [])::M2)) I ds:=(hI3.keep kC fun o e=>hk4 _ _ e).keep perm fun _ e=>e
 have kAll:bA (Y++foot M1) (I::C::Y++foot ((s2.heap.objs.size,Cell.lst [])::M2)) s1.heap h4:=by
  have k1:=kI.trans (st3.keeps (Y:=I::Y))
  rw [show({s2 with heap:=s2.heap.push {cls:=.type "list",data:=.seq #[]},toks:=s2.toks}:Shared).heap=H3 from hH3]at k1
  exact(k1.trans kC).trans perm
 have hkA:∀b o,s1.heap.get? b=some o→h4.get? b=some o:=fun b o e=>hk4 b o (hk3 b o (hk b o e))
 have fC:Frm W (C::Y) (I::C::Y++foot ((s2.heap.objs.size,Cell.lst [])::M2)) (cenvOf scope env C) (dR scope.names m) h4:=yS hc f1 kAll hkA nC1 (fun a ha=>me1.alive a (mAr (.inl ha))) hns'
 have fI:Frm W (I::C::Y) (I::C::Y++foot ((s2.heap.objs.size,Cell.lst [])::M2)) (cenvOf scope env C) (dR scope.names m) h4:=fC.grow (N:=[I]) (bA.refl _ _) fun _ _ e=>e
 have loop:∀tk,codeAny W.M A (.compLoop (.ListComp elt (⟨.Name x px,iter,ifs,0⟩::gens) scope pos) 0 (.ref I) (.ref s2.heap.objs.size) (cenvOf scope env C)) (K (.ref s2.heap.objs.size) C) {s2 with heap:=h4,toks:=tk}:=by
  intro tk
  refine lp s2.heap.objs.size C {s2 with heap:=h4,toks:=tk} _ ?_ (fun h=>me.size_out (mAr (.inr h))) meD fI hID (by
   intro hb;rcases mCp hb with e|e
   ·exact neIC e
   ·exact IY e) fC.cY fun s' acc M' hj me' hN st=>?_
  ·show(compEnvC scope _ C env).kindOf x=some .local
   rw [dS f1.kind,c2];rfl
  ·have stt:Step (foot M1) (foot M') s1 s':=by
    have:=Step.through (F:=[]) (S:=foot M1) (S2:=foot ((s2.heap.objs.size,Cell.lst [])::M2)) (T:=foot M') (N:=[I,C]) (s1:=s1) (s2:={s2 with heap:=h4,toks:=tk}) (by exact st) hkA (by obtain⟨h,t,rfl⟩:=hr;exact⟨_,_,rfl⟩) (by
     intro a ha
     rcases mCp ha with rfl|ha
     ·exact nI
     ·rw [mSp ha];exact nC1) (by
     intro a ha
     simp only [foot,Cell.foot,List.mem_append,List.mem_singleton]at ha
     rcases ha with rfl|ha
     ·exact .inr nA
     ·exact .inl (sub a ha))
    exact this
   have nCf:∀b∈foot M',b≠C:=fun b hb e=>me'.disj b hb (e▸.head _)
   exact hR _ C s' acc M' hj me' hN nC1 CY stt (f1.step me1 stt)
 exact codeAny_compStart_list (loop _) (hID.self (s:={s2 with heap:=h4,toks:=_}) (loop _) |> fun h=>wpAny_mono h (fun _ _ q=>q) fun _ _ x=>x.elim)
theorem wG(wk:Wk W G){elt iter:Expr}{x:Str}{px:Pos}{ifs:List Expr}{scope:Scope}{pos:Pos}(J:Addr→List D→List V→Led→Prop)(hc:bK env.scope.names scope x=true)
  (turn:∀C a d ds acc M,J a (d::ds) acc M→TI W n (cenvOf scope env C) (bE x (.fz d) (dR scope.names m)) ifs (fun ok M1=>if ok then TE W n (cenvOf scope env C) (bE x (.fz d) (dR scope.names m)) elt (fun v M2=>M2.lookup a=some (.lst acc)∧acc.length≤1000000∧J a ds (acc++[v]) (put M2 a (.lst (acc++[v])))) M1 else J a ds acc M1) M)
  {A:Around}{Y:List Addr}{s1 s2:Shared}{I:Addr}{ds:List D}{M1 M2:Led}{K:Value→Addr→Result→Shared→Prop}(g:cF n A) (hJ:∀a,a∉foot M2→J a ds [] ((a,.lst [])::M2))
  (nI:s1.heap.get? I=none) (hk:∀b o,s1.heap.get? b=some o→s2.heap.get? b=some o) (hr:∃h tk,s2 ={s1 with heap:=h,toks:=tk}) (sub:∀b∈foot M2,b∈foot M1) (me1:Mem W Y M1 s1.heap) (f1:Frm W Y (Y++foot M1) env m s1.heap)
  (me:Mem W (I::Y) M2 s2.heap) (kI:bA (Y++foot M1) (I::Y++foot M2) s1.heap s2.heap) (hI:Itr W s2.heap (I::Y++foot M2) I ds)
  (hR:∀a C s' acc M',J a [] acc M'→Mem W (C::Y) M' s'.heap→(∃mR,s'.heap.Ns C mR)→s1.heap.get? C=none→C∉Y→Step (foot M1) (foot M') s1 s'→Frm W Y (Y++foot M') env m s'.heap→K (.ref a) C (.ok .next) s') :
  wpAny W.M A (newList []) (fun acc s₃=>wpAny W.M A (newFunctionEnv scope env.globals (clOf env.cells scope.names []) [] env.qual none .none (some env)) (fun cenv s₄ =>
   codeAny W.M A (.compStart (.ListComp elt [⟨.Name x px,iter,ifs,0⟩] scope pos) 0 (.ref I) acc {cenv with scope:=relabel scope env}) (K acc cenv.locals) s₄) NoE s₃) NoE s2 :=
 lZ (fun a acc M'=>J a [] acc M') hc (fun a C s R hx ha meD fI hID hIC hcY kR =>
  q4 (n:=n) (Y:=C::Y) (s0:=s) (mc:=dR scope.names m) (m0:=dR scope.names m) wk (J a) hx (fun d ds acc M hj=>turn C a d ds acc M hj) g (fun _=>rfl) (hJ a ha) meD fI hID hIC (.head _) hcY (Step.refl _ _) kR) nI hk hr sub me1 f1 me kI hI hR
theorem gH{κ:List (Str × NameKind)}{scope:Scope}{x:Str}{Y U:List Addr}{h:Heap}(hc:bK env.scope.names scope x=true)(f:Frm W Y U env m h):closureFor scope env=pure (clOf env.cells scope.names []):=by
 obtain⟨c1,c2,c3,c4,c5,c6⟩:=cI hc
 refine xM env scope fun y hy e=>?_
 obtain⟨c,z,e1,_⟩:=f.ce y.1 (c5 y hy e)
 exact⟨c,e1⟩
theorem tR(wk:Wk W G){elt iter:Expr}{x:Str}{px:Pos}{ifs:List Expr}{scope:Scope}{pos:Pos}(J:Addr→List D→List V→Led→Prop)(hc:bK env.scope.names scope x=true)(hs:∀x,foldedSetIterable iter env x=pure x)
  (h:TE W n env m iter (fun v M1=>∃ds M2,mV M1 v=some (ds,M2)∧∀a,a∉foot M2→J a ds [] ((a,.lst [])::M2)) M)
  (turn:∀C a d ds acc M,J a (d::ds) acc M→TI W n (cenvOf scope env C) (bE x (.fz d) (dR scope.names m)) ifs (fun ok M1=>if ok then TE W n (cenvOf scope env C) (bE x (.fz d) (dR scope.names m)) elt (fun v M2=>M2.lookup a=some (.lst acc)∧acc.length≤1000000∧J a ds (acc++[v]) (put M2 a (.lst (acc++[v])))) M1 else J a ds acc M1) M)
  (done:∀a acc M,J a [] acc M→Q (.loc a) M):TE W n env m (.ListComp elt [⟨.Name x px,iter,ifs,0⟩] scope pos) Q M:=fun A Y s g me f=>by
 obtain⟨c1,c2,c3,c4,c5,c6⟩:=cI hc
 rw [eval_ListComp]
 refine wpAny_comprehension_free (use:=none) rfl hs (gH (κ:=env.scope.names) hc f) c1 c4 (h.use g me f fun y s1 v M1 hp1 rv me1 f1 t1=>?_)
 obtain⟨ds,M2,hrow,hJ⟩:=hp1
 refine jM me1 hrow rv fun I h' nI aI hk meI kI hM2 hIt=>?_
 have sub:∀a∈foot M2,a∈foot M1:=by
  rcases hM2 with rfl|⟨b,rfl⟩
  ·exact fun _ h=>h
  ·exact fun _ h=>cG h
 refine wG (s2:={s1 with heap:=h'}) (K:=fun acc C=>compPost W.M A NoE none _ acc C) wk J hc turn g hJ nI hk ⟨_,_,rfl⟩ sub me1 f1 meI kI hIt fun a C s' acc M' hj me' hp1 nC CY st f'=>?_
 obtain⟨mR,hN⟩:=hp1
 refine⟨mR,hN,fun h'' hs''=>?_⟩
 have hk2:∀b o,b∉[C]→s'.heap.get? b=some o→h''.get? b=some o:=fun b o nb e=>(hs''.2 b (by simpa using nb)).trans e
 refine ResG.step t1 ⟨.loc a,M',done a acc M' hj,rfl,me'.leave (N:=[C]) hk2 (by simpa using CY),?_⟩
 refine⟨fun b o e nb=>hk2 b o (fun hb=>by rw [mSp hb,nC]at e;exact aF e) (st.keep b o e nb),?_,st.new⟩
 obtain⟨h2,tk2,e⟩:=st.rest
 exact⟨h'',tk2,by rw [e]⟩
theorem mS{A:Around}{Y:List Addr}{s s1 s':Shared}{C a:Addr}{y:Str}{py:Pos}{M1 M':Led}{QS:bG}{mR:Str→Option Value}(hy:bW env y=true)(f1:Frm W Y (Y++foot M1) env m s1.heap)(me1:Mem W Y M1 s1.heap)(me':Mem W (C::Y) M' s'.heap)(hN:s'.heap.Ns C mR)(nC:s1.heap.get? C=none)(CY:C∉Y)(st:Step (foot M1) (foot M') s1 s')
  (t1:Step (Mine.fr env++foot M) (Mine.fr env++foot M1) s s1) (hq:QS .next (bE y (.loc a) m) M'):compPost W.M A NoE (some (assign (.Name y py) env)) (fun _ s'=>ResS W Y env M s QS .next s') (.ref a) C (.ok .next) s':=by
 have LC:C≠env.locals:=fun e=>CY (e▸f1.lY)
 have CC:∀p∈env.cells,p.2≠C:=fun p hp e=>CY (e▸f1.cY p hp)
 have f2:Frm W (C::Y) (C::Y++foot M') env m s'.heap:=by
  have k1:bA (Y++foot M1) (C::Y++foot M') s1.heap s'.heap:=fun b o e nb=>⟨st.keep b o e (fun hb=>nb (mAr (.inr hb))),fun hb=>by
   rcases mAp hb with q|q
   ·rcases mCp q with q|q
    ·rw [q,nC]at e;exact aF e
    ·exact nb (mAr (.inl q))
   ·rcases st.new b q with z|z
    ·exact nb (mAr (.inr z))
    ·rw [z]at e;exact aF e⟩
  have f2:=f1.keep k1 fun b hb o e=>st.keep b o e fun q=>me1.disj b q hb
  exact{kind:=f2.kind,glo:=f2.glo,bui:=f2.bui,lY:=.tail _ f2.lY,cY:=fun p hp=>.tail _ (f2.cY p hp),ns:=f2.ns,cl:=f2.cl,ce:=f2.ce,kd:=f2.kd,ap:=f2.ap,ad:=f2.ad}
 refine wpAny_assign_Name (dZ (v:=.loc a) hy me' f2 rfl fun s3 me3 f3 t3 k3 _=>?_)
 have nCfr:C∉Mine.fr env++foot M':=fun hb=>by
  rcases mAp hb with q|q
  ·rcases mCp q with q|q
   ·exact LC q
   ·obtain⟨p,hp,e⟩:=mMp q;exact CC p hp e
  ·exact me'.disj C q (.head _)
 obtain⟨oC,es,ep,eC,eC'⟩:=hN
 refine⟨mR,⟨oC,es,ep,t3.keep C oC eC nCfr,eC'⟩,fun h'' hs''=>?_⟩
 have hk2:∀b o,b∉[C]→s3.heap.get? b=some o→h''.get? b=some o:=fun b o nb e=>(hs''.2 b (by simpa using nb)).trans e
 have kl:bA (C::Y++foot M') (Y++foot M') s3.heap h'':=jY (N:=[C]) hk2
 have tt:Step (Mine.fr env++foot M1) (Mine.fr env++foot M') s1 s3:=st.fr.trans t3
 refine⟨.next,_,M',hq,rfl,me3.leave (N:=[C]) hk2 (by simpa using CY),f3.leave (N:=[C]) f1 kl hk2 (by simpa using CY),t1.trans ?_⟩
 refine⟨fun b o e nb=>hk2 b o (fun hb=>by rw [mSp hb,nC]at e;exact aF e) (tt.keep b o e nb),?_,tt.new⟩
 obtain⟨h2,tk2,e⟩:=tt.rest
 exact⟨h'',tk2,by rw [e]⟩
theorem jR(wk:Wk W G){QS:bG}{y:Str}{py:Pos}{spos:Pos}{elt iter:Expr}{x:Str}{px:Pos}{ifs:List Expr}{scope:Scope}{pos:Pos}(J:Addr→List D→List V→Led→Prop)(hc:bK env.scope.names scope x=true)(hs:∀x,foldedSetIterable iter env x=pure x)
  (hy:bW env y=true)
  (h:TE W n env m iter (fun v M1=>∃ds M2,mV M1 v=some (ds,M2)∧∀a,a∉foot M2→J a ds [] ((a,.lst [])::M2)) M)
  (turn:∀C a d ds acc M,J a (d::ds) acc M→TI W n (cenvOf scope env C) (bE x (.fz d) (dR scope.names m)) ifs (fun ok M1=>if ok then TE W n (cenvOf scope env C) (bE x (.fz d) (dR scope.names m)) elt (fun v M2=>M2.lookup a=some (.lst acc)∧acc.length≤1000000∧J a ds (acc++[v]) (put M2 a (.lst (acc++[v])))) M1 else J a ds acc M1) M)
  (done:∀a acc M,J a [] acc M→QS .next (bE y (.loc a) m) M):TS W n env (.Assign [.Name y py] (.ListComp elt [⟨.Name x px,iter,ifs,0⟩] scope pos) spos) m QS M:=fun A Y s g me f=>by
 obtain⟨c1,c2,c3,c4,c5,c6⟩:=cI hc
 have hsw:swapsWith (.ListComp elt [⟨.Name x px,iter,ifs,0⟩] scope pos) (some (.Name y py)) spos.line env=pure true∨swapsWith (.ListComp elt [⟨.Name x px,iter,ifs,0⟩] scope pos) (some (.Name y py)) spos.line env=pure false:=by
  show(pure _:Sem Bool)=pure true∨(pure _:Sem Bool)=pure false
  generalize (env.blockKind==.function&&env.kindOf y==some .local&&py.line==_&&_)=b
  cases b
  ·exact .inr rfl
  ·exact .inl rfl
 rcases hsw with hsw|hsw
 ·rw [exec_Assign_Name_used _ _ _ _ hsw]
  refine wpAny_bind (wpAny_standAt (wpAny_bind ?_))
  show wpAny _ A (do let _←comprehension (.ListComp elt [⟨.Name x px,iter,ifs,0⟩] scope pos) scope env _ (newList []) false (eval iter env) (some (assign (.Name y py) env))) _ _ s
  refine wpAny_bind (wpAny_mono (wpAny_comprehension_free (use:=some (assign (.Name y py) env)) (Q:=fun _ s'=>ResS W Y env M s QS .next s') rfl hs (gH (κ:=env.scope.names) hc f) c1 c4 (h.use g me f fun z s1 v M1 hp1 rv me1 f1 t1=>?_)) (fun _ s' hq=>wpAny_pure (wpAny_pure hq)) fun _ _ e=>e)
  obtain⟨ds,M2,hrow,hJ⟩:=hp1
  refine jM me1 hrow rv fun I h' nI aI hk meI kI hM2 hIt=>?_
  have sub:∀a∈foot M2,a∈foot M1:=by
   rcases hM2 with rfl|⟨b,rfl⟩
   ·exact fun _ h=>h
   ·exact fun _ h=>cG h
  refine wG (s2:={s1 with heap:=h'}) (K:=fun acc C=>compPost W.M A NoE (some (assign (.Name y py) env)) _ acc C) wk J hc turn g hJ nI hk ⟨_,_,rfl⟩ sub me1 f1 meI kI hIt fun a C s' acc M' hj me' hp1 nC CY st f'=>?_
  obtain⟨mR,hN⟩:=hp1
  exact mS hy f1 me1 me' hN nC CY st t1.fr (done a acc M' hj)
 ·exact mQ hy hsw (tR wk J hc hs h turn fun a acc M' hj=>done a acc M' hj) A Y s g me f
end
end
section
theorem mM:∀(l:List (Str × Value)) (slots:List (Str × Value)),(l.map (·.1)).Nodup →
  (forIn l slots (fun(p:Str × Value) (r:List (Str × Value))=>(match p with
   |(name,d)=>if (List.lookup name r).isNone=true then pure (ForInStep.yield (r++[(name,d)]))else pure (ForInStep.yield r):Sem (ForInStep (List (Str × Value))))))=pure (slots++l.filter fun p=>(List.lookup p.1 slots).isNone)
 |[],slots,_=>by simp
 |(n,d)::r,slots,nd=>by
  simp only [List.map_cons,List.nodup_cons]at nd
  rw [List.forIn_cons]
  dsimp only
  by_cases c:(List.lookup n slots).isNone=true
  ·rw [if_pos c,pure_bind]
   dsimp only
   rw [mM r _ nd.2]
   have:(r.filter fun p=>(List.lookup p.1 (slots++[(n,d)])).isNone)=r.filter fun p=>(List.lookup p.1 slots).isNone:=by
    apply List.filter_congr
    intro p hp
    have hne:p.1≠n:=fun e=>nd.1 (e▸mMr ⟨p,hp,rfl⟩)
    have:(p.1==n)=false:=beq_false_of_ne hne
    rw [List.lookup_append]
    simp [List.lookup_cons,this]
   rw [this]
   simp [c]
  ·rw [if_neg c,pure_bind]
   dsimp only
   rw [mM r _ nd.2]
   simp [c]
theorem gV{n:Str}:∀{ns:List Str}{xs:List Value},n∉ns→(ns.zip xs).lookup n=none
 |[],_,_=>by exact rfl
 |_::_,[],_=>by exact rfl
 |a::ns,x::xs,h=>by
  simp only [List.mem_cons,not_or]at h
  have:(n==a)=false:=beq_false_of_ne h.1
  rw [List.zip_cons_cons,List.lookup_cons,this]
  exact gV h.2
theorem gR{n:Str}:∀{ns:List Str}{xs:List Value},ns.length≤xs.length→n∈ns→((ns.zip xs).lookup n).isSome=true
 |[],_,_,h=>by cases h
 |_::_,[],h,_=>by simp at h
 |a::ns,x::xs,hl,h=>by
  rw [List.zip_cons_cons,List.lookup_cons]
  by_cases e:n=a
  ·simp [e]
  ·have:(n==a)=false:=beq_false_of_ne e
   rw [this]
   exact gR (by simpa using hl) ((mCp h).resolve_left e)
theorem vS{α β:Type}{f g:α→Option β}:∀{l:List α},(∀a∈l,f a=g a)→l.filterMap f=l.filterMap g
 |[],_=>rfl
 |a::l,h=>by rw [List.filterMap_cons,List.filterMap_cons,h a (.head _),vS fun b hb=>h b (.tail _ hb)]
theorem jQ:∀{ns:List Str}{vs:List Value},ns.Nodup→vs.length=ns.length→(ns.filterMap fun n=>((ns.zip vs).lookup n).map (n,·))=ns.zip vs
 |[],_,_,_=>by exact rfl
 |_::_,[],_,h=>by simp at h
 |a::ns,x::xs,nd,hl=>by
  rw [List.nodup_cons]at nd
  have ih:=jQ nd.2 (vs:=xs) (by exact Nat.succ.inj hl)
  rw [List.zip_cons_cons,List.filterMap_cons,List.lookup_cons]
  simp only [beq_self_eq_true,Option.map_some]
  congr 1
  refine Eq.trans (vS fun n hn=>?_) ih
  have hne:n≠a:=fun e=>nd.1 (e▸hn)
  have:(n==a)=false:=beq_false_of_ne hne
  rw [List.lookup_cons,this]
def AL(s:Shared)(v:Value)(dv:List Value):Prop:=∀(M:Model) (A:Around) (E:Value→Shared→Prop) (Q:Option (Array Value)→Shared→Prop),(∀r,(r.getD #[]).toList=dv→Q r s)→wpAny M A (seqItems? v) Q E s
theorem qI{ns:List Str}{xs:List Value}(h:xs.length≤ns.length):ns.zip xs=(ns.take xs.length).zip xs:=by
 conv=>lhs;rw [←List.take_append_drop xs.length ns]
 rw [show xs=xs++[]from(List.append_nil xs).symm,List.zip_append (by rw [List.append_nil,List.length_take];exact Nat.min_eq_left h),List.append_nil,List.zip_nil_right,List.append_nil]
theorem H6{n:Str}{ns:List Str}{xs:List Value}(h:xs.length≤ns.length)(hn:n∈ns.take xs.length):(List.lookup n (ns.zip xs)).isNone=false:=by
 rw [qI h]
 have:=gR (n:=n) (ns:=ns.take xs.length) (xs:=xs) (by rw [List.length_take];exact Nat.min_le_left _ _) hn
 cases e:List.lookup n ((List.take xs.length ns).zip xs)with
 |none=>rw [e]at this;exact aL this
 |some v=>rfl
theorem I6{ns:List Str}{xs:List Value}{k:Nat}(h:xs.length≤ns.length)(hk:k≤xs.length):(List.filter (fun n=>(List.lookup n (ns.zip xs)).isNone) (List.take k ns)) = []:=by
 rw [List.filter_eq_nil_iff]
 intro n hn
 rw [H6 h ((List.take_subset_take_left ns hk) hn)]
 exact Bool.false_ne_true
theorem N7{ns:List Str}{xs dv:List Value}(nd:ns.Nodup)(h:xs.length≤ns.length){k:Nat}(hk:k≤xs.length)(hdv:dv.length=ns.length-k):(((ns.drop k).zip dv).filter fun p=>(List.lookup p.1 (ns.zip xs)).isNone)=(ns.drop xs.length).zip (dv.drop (xs.length-k)):=by
 have e1:ns.drop k=(ns.drop k).take (xs.length-k)++ns.drop xs.length:=by
  conv=>lhs;rw [←List.take_append_drop (xs.length-k) (ns.drop k)]
  rw [List.drop_drop,show k+(xs.length-k)=xs.length by exact Nat.add_sub_of_le ‹_›]
 have e3:(ns.drop k).zip dv=((ns.drop k).take (xs.length-k)).zip (dv.take (xs.length-k))++(ns.drop xs.length).zip (dv.drop (xs.length-k)):=by
  conv=>lhs;rw [e1,←List.take_append_drop (xs.length-k) dv]
  rw [List.zip_append (by rw [List.length_take,List.length_take,List.length_drop,hdv])]
 rw [e3,List.filter_append]
 have f1:(((ns.drop k).take (xs.length-k)).zip (dv.take (xs.length-k))).filter (fun p=>(List.lookup p.1 (ns.zip xs)).isNone) = []:=by
  rw [List.filter_eq_nil_iff]
  rintro⟨n,v⟩ hp
  have hn:=(List.of_mem_zip hp).1
  rw [show(ns.drop k).take (xs.length-k)=(ns.take xs.length).drop k by rw [List.take_drop,show k+(xs.length-k)=xs.length by exact Nat.add_sub_of_le ‹_›]]at hn
  rw [H6 h (List.mem_of_mem_drop hn)]
  exact Bool.false_ne_true
 have f2:((ns.drop xs.length).zip (dv.drop (xs.length-k))).filter (fun p=>(List.lookup p.1 (ns.zip xs)).isNone)=(ns.drop xs.length).zip (dv.drop (xs.length-k)):=by
  rw [List.filter_eq_self]
  rintro⟨n,v⟩ hp
  have hn:n∈ns.drop xs.length:=(List.of_mem_zip hp).1
  have hn2:n∉ns.take xs.length:=fun h=>by
   have:=List.nodup_append.mp (by rw [List.take_append_drop];exact nd:(ns.take xs.length++ns.drop xs.length).Nodup)
   exact this.2.2 n h n hn rfl
  rw [qI h,gV hn2]
  rfl
 rw [f1,f2,List.nil_append]
theorem O9{ns:List Str}{xs dv:List Value}(nd:ns.Nodup)(h:xs.length≤ns.length)(h2:dv.length≤ns.length)(hk:ns.length-dv.length≤xs.length):ns.zip xs++(((ns.drop (ns.length-dv.length)).zip dv).filter fun p=>(List.lookup p.1 (ns.zip xs)).isNone)=ns.zip (xs++dv.drop (xs.length-(ns.length-dv.length))):=by
 rw [N7 nd h hk (Nat.sub_sub_self h2).symm]
 generalize List.drop (xs.length-(ns.length-dv.length)) dv=rest
 conv=>rhs;rw [←List.take_append_drop xs.length ns]
 rw [List.zip_append (by rw [List.length_take];exact Nat.min_eq_left h),qI h]
theorem V5{x d N:Nat}(h1:x≤N)(h2:d≤N)(h3:N-d≤x):x+(d-(x-(N-d)))=N:=by
 obtain⟨k,rfl⟩:=Nat.le.dest h2
 rw [Nat.add_sub_cancel_left]at h3 ⊢
 obtain⟨e,rfl⟩:=Nat.le.dest h3
 rw [Nat.add_sub_cancel_left,Nat.add_assoc,Nat.add_sub_cancel' (Nat.le_of_add_le_add_left (Nat.add_comm d k▸h1)),Nat.add_comm]
theorem xT{α:Type}{M:Model}{A:Around}{c:Prop}[Decidable c]{x y:Sem α}{Q:α→Shared→Prop}{E:Value→Shared→Prop}{s:Shared}(h:¬c)(k:wpAny M A y Q E s):wpAny M A (if c then x else y) Q E s:=by rw [if_neg h];exact k
theorem BK{α:Type}{M:Model}{A:Around}{x:Sem α}{a:α}{Q:α→Shared→Prop}{E:Value→Shared→Prop}{s:Shared}(e:x=pure a)(k:Q a s):wpAny M A x Q E s:=e▸wpAny_pure k
theorem s9{s:Shared}{fd:FuncData}{ps:List Arg}{kd:List (Option Expr)}{de:List Expr}{xs dv:List Value}(hp:fd.params=⟨[],ps,none,[],kd,none,de⟩)(hd:AL s fd.defaults dv)(nd:(ps.map (·.arg)).Nodup)
  (h1:xs.length≤ps.length) (h2:dv.length≤ps.length) (h3:ps.length-dv.length≤xs.length):BindsTo s fd ⟨xs,[]⟩ ((ps.map (·.arg)).zip (xs++dv.drop (xs.length-(ps.length-dv.length)))):=by
 intro M A E Q hq
 unfold bindArgs
 generalize fd.params=P at hp
 subst hp
 have hlen:(ps.map (·.arg)).length=ps.length:=List.length_map ..
 rw [←hlen]at h1 h2 h3 hq
 have hloop:=mM (((ps.map (·.arg)).drop ((ps.map (·.arg)).length-dv.length)).zip dv) ((ps.map (·.arg)).zip xs) (by
  rw [List.map_fst_zip (by rw [List.length_drop];exact IP)]
  exact nd.sublist (List.drop_sublist _ _))
 rw [O9 nd h1 h2 h3]at hloop
 refine wpAny_bind (wpAny_pure ?_)
 refine wpAny_bind (hd M A E _ fun r hr=>?_)
 subst hr
 refine xT (fun h=>Nat.not_lt.mpr h1 (of_decide_eq_true (anp h).1)) ?_
 have e0:List.drop ((r.getD #[]).toList.length-(ps.map (·.arg)).length) (r.getD #[]).toList=(r.getD #[]).toList:=by rw [Nat.sub_eq_zero_of_le h2,List.drop_zero]
 refine xT ?_ ?_
 ·show ¬(!List.isEmpty (List.filter _ (List.take ((ps.map (·.arg)).length-List.length (List.drop ((r.getD #[]).toList.length-(ps.map (·.arg)).length) (r.getD #[]).toList)) (ps.map (·.arg)))))=true
  rw [e0]
  exact fun h=>aL ((congrArg (fun l=>!List.isEmpty l) (I6 h1 h3)).symm.trans h)
 refine wpAny_bind (BK (a:=(ps.map (·.arg)).zip (xs++List.drop (xs.length-((ps.map (·.arg)).length-(r.getD #[]).toList.length)) (r.getD #[]).toList)) ?_ ?_)
 ·refine Eq.trans ?_ hloop
  show forIn ((List.drop ((ps.map (·.arg)).length-List.length (List.drop ((r.getD #[]).toList.length-(ps.map (·.arg)).length) (r.getD #[]).toList)) (ps.map (·.arg))).zip (List.drop ((r.getD #[]).toList.length-(ps.map (·.arg)).length) (r.getD #[]).toList)) _ _=_
  rw [e0]
  rfl
 refine wpAny_bind (wpAny_pure ?_)
 refine xT Bool.false_ne_true ?_
 refine wpAny_pure ?_
 show Q (List.filterMap _ (ps.map (·.arg)++[])) s
 rw [List.append_nil,jQ nd (by rw [List.length_append,List.length_drop];exact V5 h1 h2 h3)]
 exact hq
end
section
noncomputable def topStmt(i:Nat):Stmt:=(PySem.Challenge.pw_sq0078_01.main.body[i]?).getD (.Pass ⟨0,0,0,0⟩)
noncomputable def aY(i j:Nat):Stmt:=match topStmt i with
 |.ClassDef _ _ _ body ..=>(body[j]?).getD (.Pass ⟨0,0,0,0⟩)
 |s=>s
noncomputable def HB:List Stmt:=[topStmt 14,topStmt 15,topStmt 16,topStmt 17,aY 25 0,aY 25 1,topStmt 36,topStmt 37,topStmt 39,topStmt 40,topStmt 41,topStmt 42,aY 43 0,aY 43 1,aY 43 6,topStmt 44,topStmt 45,topStmt 53,topStmt 54,aY 55 1,aY 56 1,aY 57 1,aY 58 1,aY 59 1,aY 60 1,aY 61 1,topStmt 62,topStmt 64,topStmt 65,topStmt 66,topStmt 70,aY 71 0,topStmt 72,topStmt 73,topStmt 74,topStmt 75,topStmt 76,topStmt 80,topStmt 81,topStmt 82,topStmt 83,topStmt 84,topStmt 85,topStmt 86,topStmt 87,topStmt 88,aY 89 0,aY 89 1,aY 89 2,aY 89 3,aY 89 4,topStmt 90,topStmt 91,topStmt 95,aY 97 0,aY 97 1,topStmt 101,topStmt 102,topStmt 103,topStmt 104,topStmt 105,aY 106 0,aY 106 1,aY 106 2,aY 106 6,aY 106 7,topStmt 108,topStmt 109,topStmt 110,topStmt 111,topStmt 112,topStmt 113,topStmt 114,topStmt 115,topStmt 116,topStmt 117,topStmt 118,topStmt 119]
noncomputable def fdef(f:Fn):Stmt:=(HB[f.val]?).getD (.Pass ⟨0,0,0,0⟩)
noncomputable def bD(f:Fn):Arguments:=match fdef f with
 |.FunctionDef _ a ..=>a
 |_=>⟨[],[],none,[],[],none,[]⟩
noncomputable def eF(f:Fn):List Stmt:=match fdef f with
 |.FunctionDef _ _ b ..=>b
 |_=>[]
noncomputable def scopeOf(f:Fn):Scope:=match fdef f with
 |.FunctionDef _ _ _ _ _ _ s ..=>s
 |_=>{kind:=.module,names:=[],isGenerator:=false,isCoroutine:=false}
noncomputable def argNames(f:Fn):List Str:=(bD f).args.map (·.arg)
structure FnP(f:Fn):Prop where
 c1:bD f=⟨[],(bD f).args,none,[],(bD f).kw_defaults,none,(bD f).defaults⟩
 c2:(scopeOf f).kind = .function
 c3:(scopeOf f).isCoroutine=false
 c4:(scopeOf f).isGenerator=false
 c5:∀x∈argNames f,(scopeOf f).names.lookup x=some .local∨(scopeOf f).names.lookup x=some .cell
 c6:(argNames f).Nodup
 c7:((scopeOf f).names.map (·.1)).Nodup
noncomputable def J5(f:Fn):Bool :=
 ((bD f).posonlyargs.isEmpty&&(bD f).vararg.isNone&&(bD f).kwonlyargs.isEmpty&&(bD f).kwarg.isNone) &&
 ((scopeOf f).kind==.function&&(!(scopeOf f).isCoroutine&&(!(scopeOf f).isGenerator &&
 ((argNames f).all (fun x=>(scopeOf f).names.lookup x==some .local||(scopeOf f).names.lookup x==some .cell) &&
 (decide ((argNames f).Nodup)&&decide (((scopeOf f).names.map (·.1)).Nodup))))))
theorem xY{p:Arguments}(h:(p.posonlyargs.isEmpty&&p.vararg.isNone&&p.kwonlyargs.isEmpty&&p.kwarg.isNone)=true):p=⟨[],p.args,none,[],p.kw_defaults,none,p.defaults⟩:=by
 obtain⟨po,ar,va,ko,kd,kw,de⟩:=p
 cases po with
 |cons=>exact aL h
 |nil=>cases va with
  |some=>exact aL h
  |none=>cases ko with
   |cons=>exact aL h
   |nil=>cases kw with
    |some=>exact aL h
    |none=>rfl
theorem yV{f:Fn}(h:J5 f=true):FnP f:=by
 have h:=anp h
 have h2:=anp h.2
 have h3:=anp h2.2
 have h4:=anp h3.2
 have h5:=anp h4.2
 have h6:=anp h5.2
 exact⟨xY h.1,eq_of_beq h2.1,(Bool.not_eq_true' _).mp h3.1,(Bool.not_eq_true' _).mp h4.1,fun x hx=>(Bool.or_eq_true_iff.mp (List.all_eq_true.mp h5.1 x hx)).imp eq_of_beq eq_of_beq,of_decide_eq_true h6.1,of_decide_eq_true h6.2⟩
end
section
structure FnK(W:Wd)(dflt:Fn→List D)(f:Fn):Prop where
 ex:∃o fd,W.h0.get? (W.fa f)=some o∧o.data = .func fd∧fd.params=bD f∧fd.body = .stmts (eF f)∧fd.scope=scopeOf f∧fd.globals=mainGlobals∧fd.closure = []∧fd.builtins=builtinsNs∧W.h0.CodeRec fd.code fd.qualname ∧
  ((dflt f = []∧fd.defaults = .none)∨∃T k vs,fd.defaults = .ref T∧W.h0.get? T=some {cls:=.type "tuple",data:=.seq (List.toArray vs) k}∧bT W W.h0 [] (dflt f) vs)
 chk:J5 f=true
 few:(dflt f).length≤(argNames f).length
 keep:keepIn W.K (.ref (W.fa f))=true
 isfn:typeIn W.K (.ref (W.fa f))=some (.type "function")
def aA(W:Wd)(n:Nat)(f:Fn)(vs:List V)(Q:aJ)(M:Led):Prop :=
 ∀A Y s xs,cF n A→Mem W Y M s.heap→VRelL W s.heap (Y++foot M) vs xs→codeAny W.M A (.call (.ref (W.fa f)) ⟨xs,[]⟩) (fun r s'=>match r with | .ok (.ret v)=>ResG W (aO W) Y M s Q v s'|_=>False) s
theorem aA.mono{W:Wd}{n:Nat}{f:Fn}{vs:List V}{Q Q':aJ}{M:Led}(h:aA W n f vs Q M)(k:∀v N,Q v N→Q' v N):aA W n f vs Q' M:=fun A Y s xs g me r =>
 codeAny_mono (h A Y s xs g me r) fun r s' q=>by
  rcases r with e|(v|_|_|_) <;> first|exact q.elim|exact ResG.mono q k
theorem aA.op{W:Wd}{n:Nat}{f:Fn}{vs:List V}{Q:aJ}{M:Led}(h:aA W n f vs Q M):Op W n vs (aO W) (fun xs=>call (.ref (W.fa f)) xs) Q M:=fun A Y s xs g me r =>
 wpAny_call (codeAny_mono (h A Y s xs g me r) fun r s' q=>by
  rcases r with e|(v|_|_|_) <;> first|exact q.elim|exact q)
theorem eX:∀{ns:List (Str × NameKind)}{n:Nat}{acc:List (Str × Addr)},(ns.map (·.1)).Nodup→(∀p∈acc,p.1∉ns.map (·.1))→(acc.map (·.1)).Nodup →
  ((cellsFrom n ns acc).map (·.1)).Nodup∧(∀p∈acc,p∈cellsFrom n ns acc)∧(∀x,(x,NameKind.cell)∈ns→∃c,(x,c)∈cellsFrom n ns acc)∧(∀p∈cellsFrom n ns acc,p∈acc∨(p.1,NameKind.cell)∈ns)
 |[],n,acc,_,_,h=>⟨h,fun _ h=>h,fun x h=>(by cases h),fun _ h=>.inl h⟩
 |(x,k)::r,n,acc,nd,ha,hn=>by
  simp only [List.map_cons,List.nodup_cons]at nd
  have ha':∀p∈acc,p.1∉r.map (·.1):=fun p hp h=>ha p hp (by simp only [List.map_cons];exact .tail _ h)
  unfold cellsFrom
  by_cases c:(k==.cell)=true
  ·simp only [c,if_true]
   obtain⟨i1,i2,i3,i4⟩:=eX (n:=n+1) (acc:=(x,n)::acc) nd.2 (fun p hp=>by
    rcases mCp hp with rfl|hp
    ·exact nd.1
    ·exact ha' p hp) (by
    simp only [List.map_cons,List.nodup_cons]
    exact⟨fun h=>by
     obtain⟨p,hp,e⟩:=mMp h
     exact ha p hp (by simp [e]),hn⟩)
   refine⟨i1,fun p hp=>i2 p (.tail _ hp),fun y hy=>?_,fun p hp=>?_⟩
   ·rcases mCp hy with z|z
    ·cases z;exact⟨n,i2 _ (.head _)⟩
    ·exact i3 y z
   ·rcases i4 p hp with z|z
    ·rcases mCp z with rfl|z
     ·right;rw [beq_iff_eq]at c;subst c;exact .head _
     ·exact .inl z
    ·exact .inr (.tail _ z)
  ·simp only [c,if_false,Bool.false_eq_true]
   obtain⟨i1,i2,i3,i4⟩:=eX (n:=n) nd.2 ha' hn
   refine⟨i1,i2,fun y hy=>?_,fun p hp=>(i4 p hp).imp id (.tail _)⟩
   rcases mCp hy with z|z
   ·cases z;simp at c
   ·exact i3 y z
theorem mZ{kd:Str→Option NameKind}{x:Str}:∀{ns:List Str}{xs:List Value}{m:Str→Option Value},x∉ns→bindL kd (ns.zip xs) m x=m x
 |[],_,_,_=>by simp [bindL]
 |_::_,[],_,_=>by simp [bindL]
 |a::ns,y::ys,m,h=>by
  simp only [List.mem_cons,not_or]at h
  rw [List.zip_cons_cons,bindL,mZ h.2]
  split
  ·simp [h.1]
  ·rfl
theorem nD{kd:Str→Option NameKind}{x:Str}:∀{ns:List Str}{xs:List Value}{m:Str→Option Value},x∉ns→bindC kd (ns.zip xs) m x=m x
 |[],_,_,_=>by simp [bindC]
 |_::_,[],_,_=>by simp [bindC]
 |a::ns,y::ys,m,h=>by
  simp only [List.mem_cons,not_or]at h
  rw [List.zip_cons_cons,bindC,nD h.2]
  split
  ·rfl
  ·simp [h.1]
theorem oD{W:Wd}{h:Heap}{U:List Addr}{kd:Str→Option NameKind}{x:Str}{v:V}:∀{ns:List Str}{vs:List V}{xs:List Value}{m:Str→Option Value},ns.Nodup→VRelL W h U vs xs→lk x (ns.zip vs)=some v →
  (kd x=some .local→∃y,bindL kd (ns.zip xs) m x=some y∧aO W h U v y)∧(kd x≠some .local→∃y,bindC kd (ns.zip xs) m x=some y∧aO W h U v y)∧x∈ns
 |[],_,_,_,_,_,e=>by exact aF e
 |a::ns,[],_,_,_,_,e=>by exact aF e
 |a::ns,u::us,_,m,nd,r,e=>by
  obtain⟨y,ys,rfl,r1,r2⟩:=r
  rw [List.nodup_cons]at nd
  rw [List.zip_cons_cons]at e
  rw [dC]at e
  by_cases c:a=x
  ·subst c
   rw [if_pos rfl]at e
   (have e_:=Option.some.inj e;clear e;subst e_)
   refine⟨fun hk=>⟨y,?_,r1⟩,fun hk=>⟨y,?_,r1⟩,.head _⟩
   ·rw [List.zip_cons_cons,bindL,mZ nd.1,if_pos hk];simp
   ·rw [List.zip_cons_cons,bindC,nD nd.1,if_neg hk];simp
  ·rw [if_neg c]at e
   rw [List.zip_cons_cons]
   unfold bindL bindC
   have i:=fun m=>oD (kd:=kd) (m:=m) nd.2 r2 e
   exact⟨fun hk=>(i _).1 hk,fun hk=>(i _).2.1 hk,.tail _ (i fun _=>none).2.2⟩
section
variable{W:Wd}{G:Str→Option D}{n:Nat}{M:Led}{Q:aJ}{dflt:Fn→List D}
theorem cF.call{n:Nat}{A:Around}(g:cF (n+1) A)(env:Env):cF n (A.deeper env):=by
 obtain⟨h1,h2,h3⟩:=g
 refine⟨h1,?_,?_⟩
 ·show A.depth+1+5*n+10≤700;exact Gz h2
 ·show A.units+3+60*n+200≤9900;exact IC h3
theorem uG{f:Fn}:(argNames f).length=(bD f).args.length:=List.length_map ..
theorem G3 {Y:List Addr}{s:Shared}{v:Value}{ds:List D}(me:Mem W Y M s.heap) (h:(ds = []∧v = .none)∨∃T k vs,v = .ref T∧W.h0.get? T=some {cls:=.type "tuple",data:=.seq (List.toArray vs) k}∧bT W W.h0 [] ds vs) :
  ∃dvs,AL s v dvs∧bT W s.heap (Y++foot M) ds dvs:=by
 rcases h with⟨rfl,rfl⟩|⟨T,k,dvs,rfl,q2,q3⟩
 ·exact⟨[],fun M A E K hq=>wpAny_bind (wpAny_pure (wpAny_pure (hq none rfl))),rfl⟩
 ·exact⟨dvs,fun M A E K hq=>wpAny_bind (wpAny_load (me.keepB _ _ q2) (wpAny_pure (hq (some _) rfl))),bT.keep me.keep0 q3⟩
theorem W3(wk:Wk W G){f:Fn}(fk:FnK W dflt f){vs:List V}(hn1:vs.length≤(argNames f).length)(hn2:(argNames f).length-(dflt f).length≤vs.length)
  (h:∀env,env.scope=scopeOf f→TSs W n env (eF f) ((argNames f).zip (vs++((dflt f).drop (vs.length-((argNames f).length-(dflt f).length))).map .fz)) (fun fl _ N=>match fl with | .ret v=>Q v N | .next=>Q (.fz .none) N|_=>False) M) :
  aA W (n+1) f vs Q M:=fun A Y s xs g me r=>by
 obtain⟨o,fd,e1,e2,e3,e4,e5,e6,e7,e8,e9,e10⟩:=fk.ex
 obtain⟨hp,c2,c3,c4,c5,c6,c7⟩:=yV fk.chk
 have hl:=r.length
 obtain⟨dvs,hD1,hD2⟩:=G3 me e10
 have hdl:=hD2.length
 have hB:=s9 (s:=s) (fd:=fd) (xs:=xs) (dv:=dvs) (e3.trans hp) hD1 c6 (by rw [hl,←uG];exact hn1) (by rw [hdl,←uG];exact fk.few) (by rw [hl,hdl,←uG];exact hn2)
 have hal:VRelL W s.heap (Y++foot M) (vs++((dflt f).drop (vs.length-((argNames f).length-(dflt f).length))).map .fz) (xs++dvs.drop (xs.length-((bD f).args.length-dvs.length))):=by
  refine r.append ?_
  have e:xs.length-((bD f).args.length-dvs.length)=vs.length-((argNames f).length-(dflt f).length):=by rw [hl,hdl,uG]
  rw [e]
  exact(hD2.drop _).toV
 generalize hallX:xs++dvs.drop (xs.length-((bD f).args.length-dvs.length))=allX at hB hal
 generalize hallV:vs++((dflt f).drop (vs.length-((argNames f).length-(dflt f).length))).map V.fz=allV at h hal
 have hB':BindsTo s fd ⟨xs,[]⟩ ((argNames f).zip allX):=hB
 have cd:s.heap.CodeRec fd.code fd.qualname:=by
  obtain⟨c,oc,vc,tc,q1,q2,q3⟩:=e9
  exact⟨c,oc,vc,tc,q1,me.keepB _ _ q2,q3⟩
 obtain⟨pT,loose,mg,mb,T⟩:=wk.top
 have hroom:A.depth<recursionLimit:=by have:=g.2.1;unfold recursionLimit;exact Ir this
 refine codeAny_call_function hroom (me.keepB _ _ e1) e2 (by rw [e5];exact c3) (by rw [e5];exact c4) e4 cd ?_
 refine hB' _ _ _ _ ?_
 rw [e5,e6,e7,e8]
 have kinds:∀x∈argNames f,(scopeOf f).names.lookup x=some .local∨(scopeOf f).names.lookup x=some .cell:=c5
 have cspec:=eX (ns:=(scopeOf f).names) (n:=s.heap.objs.size+1) (acc:=[]) c7 (by exact fun _ h_=>(List.not_mem_nil h_).elim) (by simp)
 have cellAt:∀x,(scopeOf f).names.lookup x=some .cell→∃c,(cellsFrom (s.heap.objs.size+1) (scopeOf f).names []).lookup x=some c:=fun x hx=>by
  obtain⟨c,hc⟩:=cspec.2.2.1 x (mem_of_lookup hx)
  exact⟨c,eH cspec.1 hc⟩
 refine wpAny_newFunctionEnv_cells c2 (fun p hp=>?_) fun env he s' ic=>⟨T.nolimit.keeps (me.keepB) |>.keeps ic.toInCall.keep,?_⟩
 ·have hx:p.1∈argNames f:=by
   obtain⟨x,v⟩:=p
   exact(List.of_mem_zip hp).1
  rcases kinds p.1 hx with q|q
  ·exact .inl q
  ·obtain⟨c,hc⟩:=cellAt p.1 q
   exact .inr ⟨q,by rw [hc];rfl⟩
 have hsc:env.scope=scopeOf f:=by rw [he];rfl
 have hL:env.locals=s.heap.objs.size:=by rw [he];rfl
 have hcs:env.cells=cellsFrom (s.heap.objs.size+1) (scopeOf f).names []:=by rw [he];rfl
 have fresh:∀a,s.heap.objs.size≤a→s.heap.get? a=none:=fun a ha=>by
  cases e:s.heap.get? a with
  |none=>rfl
  |some o'=>exact absurd (Heap.lt_size e) (Nat.not_lt.mpr ha)
 have above:∀p∈env.cells,env.locals<p.2:=fun p hp=>ic.above p.1 p.2 hp
 have nN:∀a∈Mine.fr env,s.heap.get? a=none:=fun a ha=>by
  rcases mCp ha with rfl|ha
  ·exact fresh _ (by rw [hL];exact Nat.le_refl _)
  ·obtain⟨p,hp,rfl⟩:=mMp ha
   exact fresh _ (Nat.le_of_lt (by have:=above p hp;rw [hL]at this;exact this))
 have lookC:∀p∈env.cells,env.cells.lookup p.1=some p.2:=fun p hp=>by rw [hcs]at hp ⊢;exact eH cspec.1 hp
 have alN:∀a∈Mine.fr env,∃o,s'.heap.get? a=some o:=fun a ha=>by
  rcases mCp ha with rfl|ha
  ·obtain⟨o,_,_,e,_⟩:=ic.toInCall.ns;exact⟨o,e⟩
  ·obtain⟨p,hp,rfl⟩:=mMp ha
   obtain⟨o,e,_⟩:=ic.cell p.1 p.2 (lookC p hp);exact⟨o,e⟩
 have me':Mem W (Mine.fr env++Y) M s'.heap:=me.grow ic.toInCall.keep nN alN
 have kg:bA (Y++foot M) (Mine.fr env++Y++foot M) s.heap s'.heap:=fV ic.toInCall.keep nN
 have hal':=hal.keep kg
 have kOf:∀x,env.kindOf x=(scopeOf f).names.lookup x:=fun x=>by unfold Env.kindOf;rw [hsc]
 have fm:Frm W (Mine.fr env++Y) (Mine.fr env++Y++foot M) env ((argNames f).zip allV) s'.heap:={
  kind:=by rw [hsc];exact c2
  glo:=by rw [he];rfl
  bui:=by rw [he];rfl
  lY:=mAr (.inl (.head _))
  cY:=fun p hp=>mAr (.inl (.tail _ (mMr ⟨p,hp,rfl⟩)))
  ns:=⟨_,ic.toInCall.ns,fun x v a b=>(oD c6 hal' a).1 b⟩
  cl:=fun x v a b=>by
   obtain⟨_,q2,q3⟩:=oD (kd:=env.kindOf) (m:=fun _=>none) c6 hal' a
   have kx:env.kindOf x=some .cell:=by
    rcases b with b|b
    ·exact b
    ·rcases kinds x q3 with z|z
     ·rw [kOf,z]at b;cases b
     ·rw [kOf,z]at b;cases b
   obtain⟨c,hc⟩:=cellAt x (by rw [←kOf];exact kx)
   rw [←hcs]at hc
   obtain⟨y,hy,ry⟩:=q2 (by rw [kx];intro h;cases h)
   exact⟨c,y,hc,by have:=ic.cell x c hc;rw [hy]at this;exact this,ry⟩
  ce:=fun x a=>by
   obtain⟨c,hc⟩:=cellAt x (by rw [←kOf];exact a)
   rw [←hcs]at hc
   exact⟨c,_,hc,ic.cell x c hc⟩
  kd:=fun x v a=>by
   obtain⟨_,_,q3⟩:=oD (kd:=env.kindOf) (m:=fun _=>none) c6 hal' a
   rw [kOf]
   exact(kinds x q3).imp id .inl
  ap:=fun p hp e=>absurd (above p hp) (by rw [e];exact Nat.lt_irrefl _)
  ad:=ic.apart}
 refine codeAny_func (wpAny_mono (h env hsc (A.deeper env) (Mine.fr env++Y) s' (g.call env) me' fm) (fun fl s'' hp1=>?_) fun _ _ x=>x.elim)
 obtain⟨fl',m',M',q,rr,me2,f2,st⟩:=hp1
 have stt:Step (foot M) (foot M') s s'':=by
  obtain⟨h1,t1,e1⟩:=ic.toInCall.same
  have:=Step.through (F:=[]) (S:=foot M) (S2:=foot M) (T:=foot M') (N:=Mine.fr env) (s1:=s) (s2:=s') (s':=s'') (by exact st) ic.toInCall.keep ⟨h1,t1,e1⟩ nN (fun a ha=>.inl ha)
  exact this
 have fin:∀v x,Q v M'→aO W s''.heap (Mine.fr env++Y++foot M') v x→ResG W (aO W) Y M s Q x s'':=fun v x q r=>⟨v,M',q,r.keep nF,me2.shrink,stt⟩
 cases fl' with
 |next=>(revert rr;intro(e_:_=_);subst e_);exact fin _ _ q rfl
 |brk=>exact q.elim
 |cont=>exact q.elim
 |ret v=>obtain⟨y,rfl,rr⟩:=rr;exact fin _ _ q rr
end
end
section
noncomputable def An:List (Str × Fn):=[("is_whole",.is_whole),("check_whole",.check_whole),("check_number",.check_number),("check_dimen",.check_dimen),("is_size",.is_size),("check_sizes",.check_sizes),("check_chars",.check_chars),("check_larger",.check_larger),("check_program",.check_program),("left_start",.left_start),("font_name",.font_name),("font_of_rows",.font_of_rows),("check_code",.check_code),("check_short",.check_short),("check_depth",.check_depth),("described_rest",.described_rest),("described",.described),("described_list",.described_list),("look",.look),("leave",.leave)]
noncomputable def Bz:List (Str × Fn):=[("pass_on",.pass_on),("put_between",.put_between),("word_nodes",.word_nodes),("run",.run),("is_font_kern",.is_font_kern),("codes_of",.codes_of),("is_of_font",.is_of_font),("first_letter",.first_letter),("is_followed_well",.is_followed_well),("word_stretch",.word_stretch),("mark_of",.mark_of),("marks_of",.marks_of),("outer_kerns",.outer_kerns),("word_offset",.word_offset),("hyphenated",.hyphenated),("key",.key),("is_word",.is_word),("inner_letters",.inner_letters),("check_pattern",.check_pattern),("word_key",.word_key)]
noncomputable def CU:List (Str × Fn):=[("least_part",.least_part),("_law_box",.law_box),("_law_take",.law_take),("_law_fonts",.law_fonts),("_law_chunk",.law_chunk),("_law_codes",.law_codes),("_law_is_new",.law_is_new),("_law_words",.law_words),("_law_places",.law_places),("_law_flat",.law_flat),("_law_lines",.law_lines),("_law_round",.law_round),("law",.law)]
noncomputable def fnTab:List (Str × Fn):=An++Bz++CU
noncomputable def methL:Cn→List (Str × Fn)
 |.Glue=>[("parts",.Glue_parts)]
 |.Font=>[("has",.Font_has),("starts",.Font_starts)]
 |.Stretch=>[("find_edges",.Stretch_find_edges),("alike_ahead",.Stretch_alike_ahead),("alike_behind",.Stretch_alike_behind),("with_breaks",.Stretch_with_breaks)]
 |.LowerCodes=>[("lower",.LowerCodes_lower)]
 |.Patterns=>[("state_of",.Patterns_state_of),("add",.Patterns_add),("gap_numbers",.Patterns_gap_numbers),("points",.Patterns_points)]
 |_=>[]
noncomputable def clsTab:List (Str × Cn):=[("Glue",.Glue),("Font",.Font),("Char",.Char),("Ligature",.Ligature),("Kern",.Kern),("Skip",.Skip),("Penalty",.Penalty),("Disc",.Disc),("MathEdge",.MathEdge),("Word",.Word),("Stretch",.Stretch),("LowerCodes",.LowerCodes),("Patterns",.Patterns)]
noncomputable def initOf:Cn→Fn
 |.Glue=>.Glue_init
 |.Font=>.Font_init
 |.Char=>.Char_init
 |.Ligature=>.Ligature_init
 |.Kern=>.Kern_init
 |.Skip=>.Skip_init
 |.Penalty=>.Penalty_init
 |.Disc=>.Disc_init
 |.MathEdge=>.MathEdge_init
 |.Word=>.Word_init
 |.Stretch=>.Stretch_init
 |.LowerCodes=>.LowerCodes_init
 |.Patterns=>.Patterns_init
noncomputable def biTab:List (Str × Bi):=[("len",.len),("isinstance",.isinst),("abs",.abs),("int",.int),("max",.max),("min",.min),("sum",.sum),("sorted",.sorted),("tuple",.tuple),("list",.list),("dict",.dict),("range",.range),("enumerate",.enum)]
noncomputable def tyTab:List (Str × Ty):=[("int",.int),("bool",.bool),("str",.str),("tuple",.tuple),("list",.list)]
structure NmK(W:Wd):Prop where
 fn:∀p∈fnTab,nsIn W.K mainGlobals p.1=some (some (.ref (W.fa p.2)))
 cls:∀p∈clsTab,nsIn W.K mainGlobals p.1=some (some (.ref (W.ca p.2)))
 bi:∀p∈biTab,nsIn W.K mainGlobals p.1=some none
 ty:∀p∈tyTab,nsIn W.K mainGlobals p.1=some none
 meth:∀c,∀p∈methL c,findIn W.K (.ref (W.ca c)) p.1=some (some (.ref (W.fa p.2)))
 init:∀c,findIn W.K (.ref (W.ca c)) "__init__" = some (some (.ref (W.fa (initOf c))))
 gatt:∀c,findIn W.K (.ref (W.ca c)) "__getattr__" = some none
 makes:∀c,makesIn W.K (W.ca c)=true
 keep:∀c,keepIn W.K (.ref (W.ca c))=true
def gJ(W:Wd)(v:Value):Prop:=(∃b,v = .builtin b)∨(∃t,v = .type t)∨keepIn W.K v=true
section
variable{W:Wd}{G:Str→Option D}{n:Nat}{env:Env}{m:Loc}{M:Led}{Q:aJ}{dflt:Fn→List D}
theorem fY{e:Expr}(h:fD e=true)(rest:List Expr):starEach (e::rest) env=(false,eval e env)::starEach rest env:=by
 cases e <;> first|rfl|exact aL h
theorem rG{pos:Pos}:∀{args:List Expr},args.all fD=true→(backTo pos (starEach args env)).any (·.1)=false
 |[],_=>rfl
 |e::r,h=>by
  simp only [List.all_cons,Bool.and_eq_true]at h
  rw [fY h.1]
  show(false||(backTo pos (starEach r env)).any (·.1))=false
  rw [rG h.2];rfl
theorem gJ.looks{v:Value}(h:gJ W v)(X:∀hp,W.K.In hp→True)(hp:Heap)(x:W.K.In hp):∃k,(k=Keeper.frame∨k=Keeper.machine∨k=Keeper.boundFrame)∧Looks W.M hp (keeperOf v) k:=by
 rcases h with⟨b,rfl⟩|⟨t,rfl⟩|h
 ·exact⟨.machine,.inr (.inl rfl),Looks.of_pure rfl⟩
 ·exact⟨.machine,.inr (.inl rfl),Looks.of_pure rfl⟩
 ·obtain⟨k,q,l⟩:=looks_keep (M:=W.M) h x
  exact⟨k,q.imp id .inl,l⟩
theorem kH(wk:Wk W G){fv:Value}{first:List Value}{e:Expr}{rest:List Expr}{pos:Pos}{QA:List V→Led→Prop}{K:Value→Shared→Prop}(hk:gJ W fv)(hs:(e::rest).all fD=true)(h:TL W n env m (e::rest) pos QA M)
  {A:Around}{Y:List Addr}{s:Shared}(g:cF n A) (me:Mem W Y M s.heap) (f:Frm W Y (Y++foot M) env m s.heap)
  (kk:∀vs xs s1 M1,QA vs M1→VRelL W s1.heap (Y++foot M1) vs xs→Mem W Y M1 s1.heap→Frm W Y (Y++foot M1) env m s1.heap→Step (foot M) (foot M1) s s1→wpAny W.M A (call fv (first++xs) []) K NoE s1) :
  wpAny W.M A (callWith pos fv first (backTo pos (starEach (e::rest) env)) []) K NoE s:=by
 refine callWith_of (P:=W.K.In) (by rw [rG hs];rfl) (fun hp x=>hk.looks (fun _ _=>trivial) hp x) ?_
 simp only [List.all_cons,Bool.and_eq_true]at hs
 have he:backTo pos (starEach (e::rest) env)=(false,eval e env)::backTo pos (starEach rest env):=by rw [fY hs.1];rfl
 rw [he]
 refine Calls.evalArgs_plain ?_
 rw [←he]
 exact h.use g me f fun xs s1 vs M1 q rv me1 f1 t1=>⟨wk.X.keeps me1.keepB,kk vs xs s1 M1 q rv me1 f1 t1⟩
theorem mW(wk:Wk W G){fv:Value}{firstV:List V}{first:List Value}{e:Expr}{rest:List Expr}{pos:Pos}(hk:gJ W fv)(hs:(e::rest).all fD=true)(h:TL W n env m (e::rest) pos (fun vs M1=>Op W n (firstV++vs) (aO W) (fun xs=>call fv xs) Q M1) M)
  {A:Around}{Y:List Addr}{s:Shared}(g:cF n A) (me:Mem W Y M s.heap) (f:Frm W Y (Y++foot M) env m s.heap) (r:VRelL W s.heap (Y++foot M) firstV first) :
  wpAny W.M A (callWith pos fv first (backTo pos (starEach (e::rest) env)) []) (ResG W (aO W) Y M s Q) NoE s :=
 kH wk hk hs h g me f fun vs xs s1 M1 q rv me1 f1 t1=>wpAny_mono (q A Y s1 (first++xs) g me1 ((r.keep t1.keeps).append rv)) (fun _ _ z=>z.step t1) fun _ _ x=>x
theorem kQ(wk:Wk W G){fv:Value}{firstV:List V}{first:List Value}{pos:Pos}(hk:gJ W fv)(h:Op W n firstV (aO W) (fun xs=>call fv xs) Q M)
  {A:Around}{Y:List Addr}{s:Shared}(g:cF n A) (me:Mem W Y M s.heap) (r:VRelL W s.heap (Y++foot M) firstV first) :
  wpAny W.M A (callWith pos fv first (backTo pos (starEach [] env)) []) (ResG W (aO W) Y M s Q) NoE s:=by
 refine callWith_of (P:=W.K.In) rfl (fun hp x=>hk.looks (fun _ _=>trivial) hp x) ?_
 refine PyProof.Rows.evalArgs_none ⟨wk.X.keeps me.keepB,?_⟩
 rw [List.append_nil]
 exact h A Y s first g me r
theorem U1(wk:Wk W G){x:Str}{np pos:Pos}{args:List Expr}{fv:Value}(hn:∀{A:Around}{Y U:List Addr}{s:Shared}{K:Value→Shared→Prop},Mem W Y M s.heap→Frm W Y U env m s.heap→K fv s→wpAny W.M A (eval (.Name x np) env) K NoE s)
  (hk:gJ W fv) (hs:args.all fD=true)
  (h:match args with | []=>Op W n [] (aO W) (fun xs=>call fv xs) Q M|e::rest=>TL W n env m (e::rest) pos (fun vs M1=>Op W n vs (aO W) (fun xs=>call fv xs) Q M1) M) :
  TE W n env m (.Call (.Name x np) args [] pos) Q M:=fun A Y s g me f=>by
 refine wpAny_Call_NameR (hn me f ?_)
 cases args with
 |nil=>exact kQ wk hk h g me (firstV:=[]) rfl
 |cons e rest=>exact mW wk hk hs (firstV:=[]) h g me f rfl
noncomputable def biOf(x:Str):Option Bi:=lk x biTab
noncomputable def fnOf(x:Str):Option Fn:=lk x fnTab
noncomputable def FD(x:Str):Option Cn:=lk x clsTab
noncomputable def tyOf(x:Str):Option Ty:=lk x tyTab
inductive Tg where
 |fn (f:Fn)
 |bi (b:Bi)
 |cls (c:Cn)
noncomputable def DN(x:Str):Option Tg:=match biOf x with
 |some b=>some (.bi b)
 |none=>match fnOf x with
  |some f=>some (.fn f)
  |none=>(FD x).map .cls
noncomputable def tgV(W:Wd):Tg→Value
 |.fn f=>.ref (W.fa f)
 |.bi b=>biV b
 |.cls c=>.ref (W.ca c)
theorem eO{α:Type}{x:Str}{v:α}:∀{l:List (Str × α)},lk x l=some v→(x,v)∈l
 |[],h=>by exact aF h
 |(k,u)::r,h=>by
  rw [dC]at h
  by_cases e:k=x
  ·rw [if_pos e]at h;(have e_:=Option.some.inj h;clear h;subst e_);subst e;exact .head _
  ·rw [if_neg e]at h;exact .tail _ (eO h)
noncomputable def rA(c:Cn)(x:Str):Option Fn:=lk x (methL c)
noncomputable def U7:List (Str × Tg):=[("get",.bi .get)]
noncomputable def CL:List (Str × Tg):=[("append",.bi .append),("extend",.bi .extend),("pop",.bi .pop)]
noncomputable def D9(d:D)(x:Str):Option Tg:=match d with
 |.inst c _=>(rA c x).map .fn
 |.dct _ _=>lk x U7
 |_=>none
noncomputable def AA(c:Cell)(x:Str):Option Tg:=match c with
 |.inst c _ ks _=>bif lU x ks then none else(rA c x).map .fn
 |.lst _=>lk x CL
 |.dct _ _=>lk x U7
def C2(v:V)(x:Str)(M:Led)(K:Tg→Prop):Prop:=match v with
 |.fz d=>cB (D9 d x) K
 |.loc a=>atC M a fun c=>cB (AA c x) K
theorem xC:∀c,∀p∈methL c,p.1∉fields c:=by intro c;cases c <;> decide +kernel
theorem q5{α:Type}{x:Str}:∀(ks:List Str) {l:List α},x∉ks→fG x ks l=none:=by
 intro ks
 induction ks with
 |nil=>intro l _;rfl
 |cons k ks ih =>
  intro l h
  cases l with
  |nil=>rfl
  |cons v l =>
   simp only [List.mem_cons,not_or]at h
   rw [eE,if_neg (fun e=>h.1 e.symm)]
   exact ih h.2
set_option tactic.hygienic true in
theorem uK(wk:Wk W G)(ck:ClsK W)(nk:NmK W)(fk:∀f,FnK W dflt f){v:V}{x:Str}{y:Value}{P:Tg→Prop}{pl:Sem Bool}{A:Around}{Y:List Addr}{s:Shared}{K:Value × List Value→Shared→Prop}(me:Mem W Y M s.heap)(r:aO W s.heap (Y++foot M) v y)(hv:C2 v x M P)
  (k:∀t,P t→gJ W (tgV W t)→K (tgV W t,[y]) s):wpAny W.M A (getMethod y x pl) K NoE s:=by
 have X:W.K.In s.heap:=wk.X.keeps me.keepB
 have inst:∀{c:Cn}{a d:Addr}{es:List DictEntry}{j:Nat}{ks:List Str}{f:Fn},s.heap.get? a=some (instObj (W.ca c) d)→s.heap.get? d=some (dictOf es j)→KeysS W.w.params ks es→x∉ks→rA c x=some f→y = .ref a→P (.fn f)→wpAny W.M A (getMethod y x pl) K NoE s:=by
  intro c a d es j ks f h1 h2 h3 hf hm hy hfv
  subst hy
  have hmem:=eO hm
  have hx:x∉ks:=hf
  refine method_fn (ox:=instObj (W.ca c) d) (od:=some (dictOf es j)) X ⟨h1,rfl,rfl,h2⟩ (ck.gat c) (nk.gatt c) (nk.meth c _ hmem) (fk f).isfn ?_ (k (.fn f) hfv (.inr (.inr (fk f).keep)))
  show(lookIn x (dictOf es j)).map _=_
  rw [lookIn_dict,jI _ h3,q5 _ hx];rfl
 have lst:∀{a:Addr}{l:List V}{id:String}{b:Bi},M.lookup a=some (.lst l)→y = .ref a→P (.bi b)→biV b = .builtin id→Slot "list" x id→typeOf (.builtin id)=pure (.type "method_descriptor")→wpAny W.M A (getMethod y x pl) K NoE s:=by
  intro a l id b hl hy hfv hb slot hty
  subst hy
  have k:=k (.bi b) hfv
  rw [show tgV W (.bi b) = .builtin id from hb]at k
  obtain⟨n',vs,e1,_⟩:=me.led _ (aD hl)
  exact getMethod_builtin (T:="list") ⟨_,e1,rfl⟩ PySem.F.plainAttrs_list slot hty (fun a' e=>by cases e;exact⟨_,e1,rfl⟩) (k (.inl ⟨_,rfl⟩))
 have dct:∀{ks:List Int}{l:List V}{t:Tg},v.dview M=some (ks,l)→lk x U7=some t→P t→wpAny W.M A (getMethod y x pl) K NoE s:=by
  intro ks l t hd ht hfv
  have ht:=eO ht
  simp only [U7,List.mem_singleton,Prod.mk.injEq]at ht
  obtain⟨rfl,rfl⟩:=ht
  have k:=k (.bi .get) hfv
  obtain⟨a,kvs,rfl,e0,e1,rfl,e3⟩:=eU me hd r
  obtain⟨o,es,ep,q1,q2,q3⟩:=id e1
  exact getMethod_builtin (T:="dict") e1.typeIs PySem.F.plainAttrs_dict PySem.F.slot_dict_get PySem.F.type_dict_get (fun a' e=>by cases e;exact e1.mapOf.noDict a rfl) (k (.inl ⟨_,rfl⟩))
 cases v with
 |fz d =>
  cases d <;> first|exact hv.elim|skip
  ·rename_i ks l
   obtain⟨t,ht,hp⟩:=bB hv
   exact dct rfl ht hp
  ·rename_i c l
   obtain⟨t,ht,hp⟩:=bB hv
   have ht:(rA c x).map .fn=some t:=ht
   simp only [Option.map_eq_some_iff]at ht
   obtain⟨f,hm,rfl⟩:=ht
   obtain⟨a,d,es,j,rfl,_,_,h1,h2,h3,h4⟩:=r
   exact inst h1 h2 h3 (xC _ _ (eO hm)) hm rfl hp
 |loc a =>
  (revert r;intro(e_:_=_);subst e_)
  obtain⟨c,hl,h⟩:=hv
  obtain⟨t,ht,hp⟩:=bB h
  cases c with
  |inst c d ks l =>
   have ht:(bif lU x ks then none else(rA c x).map .fn)=some t:=ht
   cases hx:lU x ks with
   |true=>rw [hx]at ht;exact aF ht
   |false =>
    rw [hx,cond_false]at ht
    simp only [Option.map_eq_some_iff]at ht
    obtain⟨f,hm,rfl⟩:=ht
    obtain⟨h1,es,j,h2,h3,h4⟩:=me.led _ (aD hl)
    exact inst h1 h2 h3 (pV hx) hm rfl hp
  |lst l =>
   have ht:=eO (show lk x CL=some t from ht)
   simp only [CL,List.mem_cons,List.not_mem_nil,or_false,Prod.mk.injEq]at ht
   rcases ht with⟨rfl,rfl⟩|⟨rfl,rfl⟩|⟨rfl,rfl⟩
   ·exact lst hl rfl hp rfl PySem.F.slot_list_append PySem.F.type_list_append
   ·exact lst hl rfl hp rfl PySem.F.slot_list_extend PySem.F.type_list_extend
   ·exact lst hl rfl hp rfl PySem.F.slot_list_pop PySem.F.type_list_pop
  |dct ks l=>exact dct (ks:=ks) (l:=l) (congrArg cDv hl) ht hp
end
end
section
section
variable{W:Wd}{G:Str→Option D}{n:Nat}{env:Env}{m:Loc}{M:Led}{Q:aJ}{dflt:Fn→List D}
def E9(W:Wd)(n:Nat)(env:Env)(m:Loc)(pos:Pos)(fv:Value)(firstV:List V)(Q:aJ)(M:Led):List Expr→Prop
 |[]=>Op W n firstV (aO W) (fun xs=>call fv xs) Q M
 |e::rest=>TL W n env m (e::rest) pos (fun vs M2=>Op W n (firstV++vs) (aO W) (fun xs=>call fv xs) Q M2) M
theorem S5(wk:Wk W G)(ck:ClsK W)(nk:NmK W)(fk:∀f,FnK W dflt f){o:Expr}{name:Str}{apos pos:Pos}{args:List Expr}(hp:jD o=true)(hs:args.all fD=true)(hl:args.length<30)(hline:(apos.endLine==pos.line)=true)
  (h:TE W n env m o (fun v M1=>C2 v name M1 fun t=>E9 W n env m pos (tgV W t) [v] Q M1 args) M) :
  TE W n env m (.Call (.Attribute o name apos) args [] pos) Q M:=fun A Y s g me f=>by
 have hbase:attributeBase o name env (eval o env)=eval o env:=by cases o <;> first|rfl|exact aL hp
 have hform:methodCallForm (args.length+([]:List Keyword).length) (backTo pos (starEach args env)) (backToKw pos (keywordEach [] env))=true:=by
  unfold methodCallForm
  have h1:(backTo pos (starEach args env)).all (fun x=>!x.1)=true:=by
   have:=rG (env:=env) (pos:=pos) hs
   rw [List.all_eq_not_any_not]
   simpa using this
  rw [h1]
  exact decide_eq_true hl
 have hpos:methodCallPos true o env apos pos=pure pos:=by unfold methodCallPos;simp [hline]
 rw [arm_eval_Call,hbase]
 refine wpAny_bind (h.use g me f fun y s1 v M1 hv rv me1 f1 t1=>wpAny_bind (wpAny_standAt ?_))
 unfold methodCall
 rw [hform]
 refine wpAny_bind (wpAny_holding (uK wk ck nk fk me1 rv hv fun t q hk=>?_))
 refine wpAny_bind (wpAny_of_eq hpos ?_)
 cases args with
 |nil=>exact wpAny_mono (kQ wk hk q g me1 (VRelL.one rv)) (fun _ _ z=>z.step t1) fun _ _ x=>x
 |cons e rest=>exact wpAny_mono (mW wk hk hs q g me1 f1 (VRelL.one rv)) (fun _ _ z=>z.step t1) fun _ _ x=>x
theorem P2(wk:Wk W G)(nk:NmK W)(fk:∀f,FnK W dflt f){c:Cn}{vs:List V}
  (h:∀a d,a∉foot M→d∉foot M→d≠a→aA W n (initOf c) (.loc a::vs) (fun v N=>v = .fz .none∧Q (.loc a) N) ((a,.inst c d [] [])::M)) :
  Op W (n+1) vs (aO W) (fun xs=>call (.ref (W.ca c)) xs) Q M:=fun A Y s xs g me r=>by
 obtain⟨hp,gg,dd,tk,os⟩:=s
 have X:W.K.In hp:=wk.X.keeps me.keepB
 have fresh:∀(h:Heap),h.get? h.objs.size=none:=fun h=>by
  cases q:h.get? h.objs.size with
  |none=>rfl
  |some o=>exact(Nat.lt_irrefl _ (Heap.lt_size q)).elim
 have gu:cF n (A.under (.builtin "type.__call__" ⟨.ref (W.ca c)::xs,[]⟩)):=by
  obtain⟨h1,h2,h3⟩:=g
  refine⟨h1,?_,?_⟩
  ·rw [depth_under_make];exact Gz h2
  ·rw [units_under_make];exact Hu h3
 refine wpAny_call (make_core (makes_of X (nk.makes c)) (looks_findIn X (nk.init c)) (fun self=>bind_fn X self (fk _).isfn) (.inl rfl) ?_)
 generalize hd:hp.objs.size=d
 have nd:hp.get? d=none:=hd▸fresh hp
 have nx:hp.get? (d+1)=none:=by
  cases q:hp.get? (d+1)with
  |none=>rfl
  |some o=>exact absurd (Heap.lt_size q) (by rw [hd];exact Nat.not_lt.mpr (Nat.le_succ _))
 have hsz:(hp.push emptyDict).objs.size=d+1:=by rw [Heap.size_push,hd]
 have e1:(hp.push emptyDict).get? d=some emptyDict:=hd▸Heap.get?_push_size _ rfl
 generalize hH:(hp.push emptyDict).push (instObj (W.ca c) d)=H
 have e2:H.get? d=some emptyDict:=by rw [←hH];exact aQ _ _ _ e1
 have e3:H.get? (d+1)=some (instObj (W.ca c) d):=by rw [←hH,←hsz];exact Heap.get?_push_size _ rfl
 have hk:∀b o,hp.get? b=some o→H.get? b=some o:=fun b o e=>by rw [←hH];exact aQ _ _ _ (aQ _ _ _ e)
 have nin:∀a,hp.get? a=none→a∉Y++foot M:=fun a e=>me.out e
 have ndx:d≠d+1:=Nat.ne_of_lt (Nat.lt_succ_self _)
 have st:Step (foot M) (foot ((d+1,Cell.inst c d [] [])::M)) ⟨hp,gg,dd,tk,os⟩ ⟨H,gg,dd,tk,os⟩:=⟨fun b o e _=>hk b o e,⟨_,_,rfl⟩,fun b hb=>by
  simp only [foot,Cell.foot,List.mem_append,List.mem_cons,List.not_mem_nil,or_false]at hb
  rcases hb with(rfl|rfl)|hb
  ·exact .inr nx
  ·exact .inr nd
  ·exact .inl hb⟩
 have me2:Mem W Y ((d+1,Cell.inst c d [] [])::M) H:=by
  refine me.next (s:=⟨hp,gg,dd,tk,os⟩) (s':=⟨H,gg,dd,tk,os⟩) st ?_ ?_ ?_
  ·have a1:=nin _ nx
   have a2:=nin _ nd
   rw [List.mem_append,not_or]at a1 a2
   simp only [foot,Cell.foot,List.cons_append,List.nil_append,List.nodup_cons,List.mem_cons,not_or]
   exact⟨⟨Ne.symm ndx,a1.2⟩,a2.2,me.nodup⟩
  ·intro b hb
   simp only [foot,Cell.foot,List.mem_append,List.mem_cons,List.not_mem_nil,or_false]at hb
   rcases hb with(rfl|rfl)|hb
   ·exact⟨_,e3⟩
   ·exact⟨_,e2⟩
   ·obtain⟨o,e⟩:=me.alive b (mAr (.inr hb));exact⟨o,hk b o e⟩
  ·intro p hp'
   rcases mCp hp' with rfl|hp'
   ·exact⟨e3,[],0,e2,trivial,rfl⟩
   ·exact(me.led p hp').keep (st.keeps (Y:=Y)) fun b _ o e=>hk b o e
 have a1:=nin _ nx
 have a2:=nin _ nd
 rw [List.mem_append,not_or]at a1 a2
 have q:=h (d+1) d a1.2 a2.2 ndx _ Y ⟨H,gg,dd,tk,os⟩ (.ref (d+1)::xs) gu me2 (VRelL.cons rfl (r.keep st.keeps))
 refine codeAny_mono q fun r' s' z=>?_
 rcases r' with e|fl
 ·exact z.elim
 ·cases fl <;> first
   |exact z.elim
   |(obtain⟨v',M',⟨hv,hq⟩,rv,me',st'⟩:=z
     subst hv
     (revert rv;intro(e_:_=_);subst e_)
     exact⟨rfl,.loc (d+1),M',hq,rfl,me',st.trans st'⟩)
end
end
section
noncomputable def V.sub(a:Addr)(d:D):V→V
 |.loc b=>if b=a then .fz d else .loc b
 |.fz e=>.fz e
noncomputable def Cell.sub(a:Addr)(d:D):Cell→Cell
 |.lst l=>.lst (l.map (V.sub a d))
 |.dct ks l=>.dct ks (l.map (V.sub a d))
 |.inst c x ks l=>.inst c x ks (l.map (V.sub a d))
noncomputable def eB(a:Addr)(d:D):Nat→Led→Led
 |0,M=>M
 |k+1,M=>match M with
  |[]=>[]
  |p::M=>(p.1,p.2.sub a d)::eB a d k M
theorem iI{a:Addr}{d:D}{M:Led}:eB a d 0 M=M:=rfl
theorem iF{a:Addr}{d:D}{k:Nat}{p:Addr × Cell}{M:Led}:eB a d (k+1) (p::M)=(p.1,p.2.sub a d)::eB a d k M:=rfl
theorem subM_mem{a:Addr}{d:D}:∀{k:Nat}{M:Led}{p:Addr × Cell},p∈eB a d k M→p∈M∨∃q∈M,p=(q.1,q.2.sub a d)
 |0,_,_,h=>.inl h
 |k+1,[],_,h=>by cases h
 |k+1,q::M,p,h=>by
  rcases mCp h with rfl|h
  ·exact .inr ⟨q,.head _,rfl⟩
  ·rcases subM_mem h with h|⟨r,h1,h2⟩
   ·exact .inl (.tail _ h)
   ·exact .inr ⟨r,.tail _ h1,h2⟩
theorem aB{a:Addr}{c:Cell}{M:Led}:drop a ((a,c)::M)=M:=if_pos rfl
theorem dB{a b:Addr}{c:Cell}{M:Led}(h:a≠b):drop a ((b,c)::M)=(b,c)::drop a M:=if_neg h
theorem look_self{a:Addr}{c:Cell}{M:Led}:List.lookup a ((a,c)::M:Led)=some c:=by rw [lookup_cons,if_pos rfl]
theorem look_skip{a b:Addr}{c:Cell}{M:Led}(h:a≠b):List.lookup a ((b,c)::M:Led)=M.lookup a:=by rw [lookup_cons,if_neg h]
theorem aC{a:Addr}{c c':Cell}{M:Led}:put ((a,c)::M) a c'=(a,c')::M:=if_pos rfl
theorem aE{a b:Addr}{c c':Cell}{M:Led}(h:a≠b):put ((b,c)::M) a c'=(b,c)::put M a c':=if_neg h
noncomputable def subL(a:Addr)(d:D)(m:Loc):Loc:=m.map fun p=>(p.1,p.2.sub a d)
noncomputable def Cell.frz:Cell→Option D
 |.lst l=>(fzs l).map .lst
 |.dct ks l=>(fzs l).map (.dct ks)
 |.inst c _ ks l=>if ks=fields c then(fzs l).map (.inst c)else none
theorem k8(a:Addr)(d:D)(b:Addr)(c:Cell):(c.sub a d).foot b=c.foot b:=by cases c <;> rfl
theorem bU(a:Addr)(d:D):∀(k:Nat) (M:Led),foot (eB a d k M)=foot M
 |0,_=>rfl
 |k+1,[]=>rfl
 |k+1,(b,c)::r=>by show(c.sub a d).foot b++foot (eB a d k r)=c.foot b++foot r;rw [bU a d k r,k8]
section
variable{W:Wd}{n:Nat}{env:Env}{m:Loc}{M:Led}
theorem aO.sub{h:Heap}{U U':List Addr}{a:Addr}{d:D}(hd:Rep W h U' d (.ref a))(k:bA U U' h h):∀{v:V}{x:Value},aO W h U v x→aO W h U' (v.sub a d) x
 |.fz e,_,r=>Rep.keep k r
 |.loc b,x,r=>by
  show aO W h U' (if b=a then V.fz d else V.loc b) x
  by_cases e:b=a
  ·subst e;rw [if_pos rfl];(revert r;intro(e_:_=_);subst e_);exact hd
  ·rw [if_neg e];exact r
theorem VRelL.sub{h:Heap}{U U':List Addr}{a:Addr}{d:D}(hd:Rep W h U' d (.ref a))(k:bA U U' h h):∀{vs:List V}{xs:List Value},VRelL W h U vs xs→VRelL W h U' (vs.map (V.sub a d)) xs
 |[],_,r=>r
 |v::vs,_,r=>by
  obtain⟨y,ys,rfl,r1,r2⟩:=r
  exact⟨y,ys,rfl,aO.sub hd k r1,VRelL.sub hd k r2⟩
set_option tactic.hygienic true in
theorem jH{Y:List Addr}{h:Heap}{a:Addr}{c:Cell}{d:D}(me:Mem W Y M h)(hl:M.lookup a=some c)(hf:c.frz=some d):Rep W h (Y++foot (drop a M)) d (.ref a):=by
 have hc:=me.led _ (aD hl)
 have nd:=me.nodup
 have hna:a∉Y++foot (drop a M):=fun hb=>by
  rcases mAp hb with q|q
  ·exact me.disj a (aT (aD hl) (aW _ _)) q
  ·exact pW nd hl q
 have kd:bA (Y++foot M) (Y++foot (drop a M)) h h:=bS a
 cases c with
 |lst l =>
  simp only [Cell.frz,Option.map_eq_some_iff]at hf
  obtain⟨ds,e,rfl⟩:=hf
  obtain⟨k,vs,e1,e2⟩:=hc
  exact⟨a,vs.toList,rfl,hna,⟨k,by simpa [PySem.W.listOf]using e1⟩,(fH e e2).keep kd⟩
 |dct ks l =>
  simp only [Cell.frz,Option.map_eq_some_iff]at hf
  obtain⟨ds,e,rfl⟩:=hf
  obtain⟨e0,kvs,e1,e2,e3⟩:=hc
  exact⟨a,kvs,rfl,hna,e0,e1,e2,(fH e e3).keep kd⟩
 |inst c x ks l =>
  simp only [Cell.frz]at hf
  split at hf
  ·rename_i hk
   subst hk
   simp only [Option.map_eq_some_iff]at hf
   obtain⟨ds,e,rfl⟩:=hf
   obtain⟨h1,es,k,h2,h3,h4⟩:=hc
   refine⟨a,x,es,k,rfl,hna,?_,h1,h2,h3,(fH e h4).keep kd⟩
   intro hb
   have hx:x∈(Cell.inst c x (fields c) l).foot a:=by simp [Cell.foot]
   rcases mAp hb with q|q
   ·exact me.disj x (aT (aD hl) hx) q
   ·have:∀{M:Led},(foot M).Nodup→M.lookup a=some (Cell.inst c x (fields c) l)→x∉foot (drop a M):=by
     intro M
     induction M with
     |nil=>intro _ h;exact aF h
     |cons p r ih =>
      obtain⟨b,cc⟩:=p
      intro nd hl
      rw [lookup_cons]at hl
      have nd:=List.nodup_append.mp nd
      rw [fW]
      by_cases e:a=b
      ·subst e
       rw [if_pos rfl]at hl ⊢
       (have e_:=Option.some.inj hl;clear hl;subst e_)
       exact fun hb=>nd.2.2 x hx x hb rfl
      ·rw [if_neg e]at hl ⊢
       exact fun hb=>(mAp hb).elim (fun hb=>nd.2.2 x hb x (aT (aD hl) hx) rfl) (ih nd.2.1 hl)
    exact this nd hl q
  ·exact aF hf
theorem Mem.freeze(k:Nat){Y:List Addr}{h:Heap}{a:Addr}{c:Cell}{d:D}(me:Mem W Y M h)(hl:M.lookup a=some c)(hf:c.frz=some d):Mem W Y (eB a d k (Mine.drop a M)) h:=by
 have hd:=jH me hl hf
 have md:=me.drop a
 have kd:bA (Y++foot M) (Y++foot (Mine.drop a M)) h h:=bS a
 exact{
  alive:=fun b hb=>md.alive b (by rwa [bU]at hb)
  base:=fun b o e=>by rw [bU];exact md.base b o e
  nodup:=by rw [bU];exact md.nodup
  disj:=fun b hb=>md.disj b (by rwa [bU]at hb)
  led:=fun p hp=>by
   rw [bU]
   rcases subM_mem hp with hq|⟨q,hq,rfl⟩
   ·exact md.led p hq
   have:=md.led q hq
   have kr:=bA.refl (Y++foot (Mine.drop a M)) h
   obtain⟨b,cc⟩:=q
   cases cc with
   |lst l=>obtain⟨k,vs,e1,e2⟩:=this;exact⟨k,vs,e1,VRelL.sub hd kr e2⟩
   |dct ks l=>obtain⟨e0,kvs,e1,e2,e3⟩:=this;exact⟨e0,kvs,e1,e2,VRelL.sub hd kr e3⟩
   |inst c x ks l=>obtain⟨h1,es,k,h2,h3,h4⟩:=this;exact⟨h1,es,k,h2,h3,VRelL.sub hd kr h4⟩}
theorem nY{a:Addr}{d:D}{x:Str}:∀{m:Loc}{v:V},lk x (subL a d m)=some v→∃u,lk x m=some u∧v=u.sub a d
 |[],_,h=>by exact aF h
 |(k,u)::r,v,h=>by
  simp only [subL,List.map_cons]at h
  rw [dC]at h ⊢
  by_cases e:k=x
  ·simp only [e,if_true]at h ⊢;(have e_:=Option.some.inj h;clear h;subst e_);exact⟨u,rfl,rfl⟩
  ·simp only [e,if_false]at h ⊢;exact nY h
theorem Frm.freeze(k:Nat){Y:List Addr}{h:Heap}{a:Addr}{c:Cell}{d:D}(f:Frm W Y (Y++foot M) env m h)(me:Mem W Y M h)(hl:M.lookup a=some c)(hf:c.frz=some d):Frm W Y (Y++foot (eB a d k (Mine.drop a M))) env (subL a d m) h:=by
 have hd:=jH me hl hf
 have kd:bA (Y++foot M) (Y++foot (Mine.drop a M)) h h:=bS a
 rw [bU]
 exact{
  kind:=f.kind
  glo:=f.glo
  bui:=f.bui
  lY:=f.lY
  cY:=f.cY
  ns:=by
   obtain⟨mR,h1,h2⟩:=f.ns
   refine⟨mR,h1,fun x v p q=>?_⟩
   obtain⟨u,e,rfl⟩:=nY p
   obtain⟨y,e1,e2⟩:=h2 x u e q
   exact⟨y,e1,e2.sub hd kd⟩
  cl:=fun x v p q=>by
   obtain⟨u,e,rfl⟩:=nY p
   obtain⟨c,y,e1,e2,e3⟩:=f.cl x u e q
   exact⟨c,y,e1,e2,e3.sub hd kd⟩
  ce:=f.ce
  kd:=fun x v p=>by
   obtain⟨u,e,rfl⟩:=nY p
   exact f.kd x u e
  ap:=f.ap
  ad:=f.ad}
inductive Gh(Q:aJ):V→Led→Prop
 |done {v M}:Q v M→Gh Q v M
 |freeze {v M}(a:Addr) (k:Nat) {c:Cell}{d:D}:M.lookup a=some c→c.frz=some d→Gh Q (v.sub a d) (eB a d k (Mine.drop a M))→Gh Q v M
 |drop {v M}(a:Addr):Gh Q v (Mine.drop a M)→Gh Q v M
theorem ResG.ghost{Y:List Addr}{s s':Shared}{Q:aJ}{x:Value}(r:ResG W (aO W) Y M s (Gh Q) x s'):ResG W (aO W) Y M s Q x s':=by
 obtain⟨v,M',q,rv,me,st⟩:=r
 induction q with
 |done q=>exact⟨_,_,q,rv,me,st⟩
 |freeze a k hl hf _ ih=>exact ih (by rw [bU];exact rv.sub (jH me hl hf) (bS a)) (me.freeze k hl hf) (by rw [bU];exact st.trans (by exact cX (F:=[]) a))
 |drop a _ ih=>exact ih (rv.keep (bS a)) (me.drop a) (st.trans (by exact cX (F:=[]) a))
theorem aA.ghost{f:Fn}{vs:List V}{Q:aJ}(h:aA W n f vs (Gh Q) M):aA W n f vs Q M:=fun A Y s xs g me r =>
 codeAny_mono (h A Y s xs g me r) fun r s' q=>by
  rcases r with e|fl
  ·exact q.elim
  ·cases fl <;> first|exact q.elim|exact ResG.ghost q
theorem aA.freeze{f:Fn}{vs:List V}{Q:aJ}(a:Addr)(k:Nat){c:Cell}{d:D}(hl:M.lookup a=some c)(hf:c.frz=some d)(h:aA W n f (vs.map (V.sub a d)) Q (eB a d k (Mine.drop a M))):aA W n f vs Q M:=fun A Y s xs g me r =>
 codeAny_mono (h A Y s xs g (me.freeze k hl hf) (by rw [bU];exact VRelL.sub (jH me hl hf) (bS a) r)) fun r s' q=>by
  rcases r with e|fl
  ·exact q.elim
  ·cases fl <;> first
    |exact q.elim
    |(obtain⟨v,M',q,rv,me',st⟩:=q
      exact⟨v,M',q,rv,me',by rw [bU]at st;exact(by exact cX (F:=[]) a:Step (foot M) (foot (Mine.drop a M)) s s).trans st⟩)
noncomputable def Ib(m0 m:Loc):List (Option V):=m0.map fun p=>lk p.1 m
def kL(m0 m:Loc):Prop:=Ib m0 m=m0.map fun p=>some p.2
theorem kL.get{m0 m:Loc}{x:Str}{v:V}(s:kL m0 m)(h:lk x m0=some v):lk x m=some v:=by
 induction m0 with
 |nil=>exact aF h
 |cons p r ih =>
  obtain⟨h1,h2⟩:=List.cons.inj s
  rw [dC]at h
  by_cases e:p.1=x
  ·rw [if_pos e]at h;rw [←e];exact h1.trans h
  ·rw [if_neg e]at h;exact ih h2 h
def GE:Loc→Loc→Prop
 |[],_=>True
 |p::r,m=>lk p.1 m=some p.2∧GE r m
theorem kL.of_c{m0 m:Loc}(h:GE m0 m):kL m0 m:=by
 induction m0 with
 |nil=>rfl
 |cons p r ih=>exact List.cons_eq_cons.mpr ⟨h.1,ih h.2⟩
theorem Frm.sub{Y U:List Addr}{m0:Loc}{h:Heap}(f:Frm W Y U env m h)(e:∀x v,lk x m0=some v→lk x m=some v):Frm W Y U env m0 h where
 kind:=f.kind
 glo:=f.glo
 bui:=f.bui
 lY:=f.lY
 cY:=f.cY
 ns:=by
  obtain⟨mR,h1,h2⟩:=f.ns
  exact⟨mR,h1,fun x v a b=>h2 x v (e x v a) b⟩
 cl:=fun x v a b=>f.cl x v (e x v a) b
 ce:=f.ce
 kd:=fun x v a=>f.kd x v (e x v a)
 ap:=f.ap
 ad:=f.ad
inductive Fz(P:Loc→Led→Prop):Loc→Led→Prop
 |go {l:Loc}{N:Led}:P l N→Fz P l N
 |frz {l:Loc}{N:Led}(a:Addr) (k:Nat) {c:Cell}{d:D}:N.lookup a=some c→c.frz=some d→Fz P (subL a d l) (eB a d k (Mine.drop a N))→Fz P l N
 |drp {l:Loc}{N:Led}(a:Addr):Fz P l (Mine.drop a N)→Fz P l N
 |sub {l:Loc}{N:Led}(m0:Loc):kL m0 l→Fz P m0 N→Fz P l N
noncomputable def FzQ(Q:bG):bG:=fun f m M=>match f with
 |.next=>Fz (Q .next) m M
 |.brk=>Q .brk m M
 |.cont=>Q .cont m M
 |.ret v=>Q (.ret v) m M
theorem Fz.run{P:Loc→Led→Prop}{m:Loc}{M:Led}(q:Fz P m M){Y:List Addr}{s:Shared}(me:Mem W Y M s.heap)(f:Frm W Y (Y++foot M) env m s.heap) :
  ∃m' M',P m' M'∧Mem W Y M' s.heap∧Frm W Y (Y++foot M') env m' s.heap∧Step (Mine.fr env++foot M) (Mine.fr env++foot M') s s∧bA (Y++foot M) (Y++foot M') s.heap s.heap∧∀b∈foot M',b∈foot M:=by
 induction q with
 |go q=>exact⟨_,_,q,me,f,Step.refl _ _,bA.refl _ _,fun _ h=>h⟩
 |frz a k hl hf _ ih =>
  obtain⟨m',M',q,me',f',st,kp,sb⟩:=ih (me.freeze k hl hf) (f.freeze k me hl hf)
  rw [bU]at st kp sb
  exact⟨m',M',q,me',f',(cX a).trans st,(bS a).trans kp,fun b hb=>cG (sb b hb)⟩
 |drp a _ ih =>
  obtain⟨m',M',q,me',f',st,kp,sb⟩:=ih (me.drop a) (f.keep (bS a) fun _ _ _ e=>e)
  exact⟨m',M',q,me',f',(cX a).trans st,(bS a).trans kp,fun b hb=>cG (sb b hb)⟩
 |sub m0 h _ ih=>exact ih me (f.sub fun x v e=>h.get e)
theorem ResS.ghost{Y:List Addr}{s s':Shared}{Q:bG}{x:Flow}(r:ResS W Y env M s (FzQ Q) x s'):ResS W Y env M s Q x s':=by
 obtain⟨fl,m',M',q,rv,me,f,st⟩:=r
 cases fl with
 |next =>
  obtain⟨m2,M2,q,me2,f2,st2,_,_⟩:=Fz.run (show Fz (Q .next) m' M' from q) me f
  exact⟨.next,m2,M2,q,rv,me2,f2,st.trans st2⟩
 |brk=>exact⟨_,_,_,q,rv,me,f,st⟩
 |cont=>exact⟨_,_,_,q,rv,me,f,st⟩
 |ret v=>exact⟨_,_,_,q,rv,me,f,st⟩
theorem TS.ghost{st:Stmt}{Q:bG}(h:TS W n env st m (FzQ Q) M):TS W n env st m Q M:=fun A Y s g me f =>
 wpAny_mono (h A Y s g me f) (fun _ _ r=>ResS.ghost r) fun _ _ x=>x
theorem TE.ghost{e:Expr}{Q:aJ}(h:TE W n env m e (Gh Q) M):TE W n env m e Q M:=fun A Y s g me f =>
 wpAny_mono (h A Y s g me f) (fun _ _ r=>ResG.ghost r) fun _ _ x=>x
theorem Op.freeze{vs:List V}{t:List Value→Sem Value}{Q:aJ}(a:Addr)(k:Nat){c:Cell}{d:D}(hl:M.lookup a=some c)(hf:c.frz=some d)(h:Op W n (vs.map (V.sub a d)) (aO W) t Q (eB a d k (Mine.drop a M))):Op W n vs (aO W) t Q M:=fun A Y s xs g me r =>
 wpAny_mono (h A Y s xs g (me.freeze k hl hf) (by rw [bU];exact VRelL.sub (jH me hl hf) (bS a) r)) (fun _ _ hp1=>by obtain⟨v,M',q,rv,me',st⟩:=hp1;exact⟨v,M',q,rv,me',by rw [bU]at st;exact(by exact cX (F:=[]) a:Step (foot M) (foot (Mine.drop a M)) s s).trans st⟩) fun _ _ x=>x
end
end
section
noncomputable abbrev Ks:=List (Str × NameKind)
noncomputable def kIs(κ:Ks)(x:Str)(f:NameKind→Bool):Bool:=match lk x κ with
 |some k=>f k
 |none=>false
noncomputable def zF:NameKind→Bool
 |.globalImplicit=>true
 |_=>false
noncomputable def Ej:NameKind→Bool
 |.local=>true
 |_=>false
noncomputable def kSt:NameKind→Bool
 |.local=>true
 |.cell=>true
 |_=>false
theorem tP{κ:Ks}{x:Str}{f:NameKind→Bool}(h:kIs κ x f=true):∃k,lk x κ=some k∧f k=true:=by
 unfold kIs at h
 cases e:lk x κ with
 |none=>rw [e]at h;exact aL h
 |some k=>rw [e]at h;exact⟨k,rfl,h⟩
theorem qS{κ:Ks}{x:Str}(h:kIs κ x zF=true):lk x κ=some .globalImplicit:=by
 obtain⟨k,e,h⟩:=tP h
 cases k <;> first|exact e|exact aL h
structure Tk where
 W:Wd
 n:Nat
 env:Env
 κ:Ks
def bN(W:Wd)(n:Nat)(c:Cn)(vs:List V)(Q:aJ)(M:Led):Prop:=Op W n vs (aO W) (fun xs=>call (.ref (W.ca c)) xs) Q M
def Cc(c:Const)(Q:aJ)(M:Led):Prop :=
 match c with
 |.int i=>Q (.fz (.int i)) M
 |.str s=>Q (.fz (.str s)) M
 |.none=>Q (.fz .none) M
 |.bool b=>Q (.fz (.bool b)) M
 |_=>False
def tW(G:Str→Option D)(x:Str)(Q:aJ)(M:Led):Prop:=match tyOf x with
 |some t=>Q (.fz (.ty t)) M
 |none=>cB (G x) fun d=>Q (.fz d) M
def W6(G:Str→Option D)(κ:Ks)(m:Loc)(x:Str)(Q:aJ)(M:Led):Prop :=
 bif seq x "__debug__" then False else bif seq x "__classdict__" then False else match lk x m with
 |some v=>Q v M
 |none=>bif kIs κ x zF then tW G x Q M else False
structure Lf(P:Prop):Prop where
 go:P
def wTg(T:Tk)(t:Tg)(vs:List V)(Q:aJ)(M:Led):Prop:=match t with
 |.fn f=>Lf (aA T.W T.n f vs Q M)
 |.bi b=>wB b vs Q M
 |.cls c=>Lf (bN T.W T.n c vs Q M)
structure Ev where
 E:Expr→aJ→Led→Prop
 B:Expr→(Bool→Led→Prop)→Led→Prop
def lE(ev:Ev):List Expr→(List V→Led→Prop)→Led→Prop
 |[],Q,M=>Q [] M
 |e::es,Q,M=>ev.E e (fun v M1=>lE ev es (fun vs M2=>Q (v::vs) M2) M1) M
noncomputable def gT:List Expr→Bool
 |[]=>true
 |e::es=>fD e&&gT es
theorem mJ:∀{es:List Expr},gT es=true→es.all fD=true
 |[],_=>rfl
 |e::es,h=>by
  have h:=anp h
  simp only [List.all_cons,h.1,mJ h.2,Bool.and_self]
def pE(ev:Ev)(e:Option Expr)(Q:Option Int→Led→Prop)(M:Led):Prop:=match e with
 |none=>Q none M
 |some e=>ev.E e (fun v M1=>asI v fun i=>Q (some i) M1) M
noncomputable def zQ:BoolOp→Bool
 |.And=>true
 |.Or=>false
def zH(ev:Ev)(and:Bool):List Expr→aJ→Led→Prop
 |[],_,_=>False
 |e::es,Q,M=>match es with
  |[]=>ev.E e Q M
  |_::_=>ev.E e (fun v M1=>uU v fun b=>match and with
   |true=>bif b then zH ev and es Q M1 else Q (.fz (.bool false)) M1
   |false=>bif b then Q (.fz (.bool true)) M1 else zH ev and es Q M1) M
def zM(ev:Ev)(and:Bool):List Expr→(Bool→Led→Prop)→Led→Prop
 |[],Q,M=>Q and M
 |e::es,Q,M=>ev.B e (fun b M1=>match and with
   |true=>bif b then zM ev and es Q M1 else Q false M1
   |false=>bif b then Q true M1 else zM ev and es Q M1) M
noncomputable def yK(e:Expr):Bool:=match e with
 |.List es _=>es.isEmpty
 |_=>false
noncomputable def uJ(op:CmpOp):Bool:=match op with
 |.Eq=>true
 |.NotEq=>true
 |_=>false
noncomputable def D7(op:CmpOp)(b:Bool):Bool:=match op with
 |.Eq=>b
 |_=>!b
def JO(d:D)(K:Bool→Prop):Prop:=match d with
 |.lst l=>K l.isEmpty
 |_=>False
def Ac(v:V)(M:Led)(K:Bool→Prop):Prop:=match v with
 |.fz d=>JO d K
 |.loc a=>atC M a fun c=>q9 c fun l=>K l.isEmpty
def yP(ev:Ev)(op:CmpOp)(l r:Expr)(Q:Bool→Led→Prop)(M:Led):Prop :=
 bif yK r&&uJ op then ev.E l (fun v M1=>Ac v M1 fun b=>Q (D7 op b) M1) M else
 bif behindInMarks op r then False else ev.E l (fun v M1=>ev.E r (fun u M2=>Q5 op v u Q M2) M1) M
def DA(ev:Ev)(op₁ op₂:CmpOp)(l r₁ r₂:Expr)(Q:Bool→Led→Prop)(M:Led):Prop :=
 bif behindInMarks op₂ r₂ then False else
 ev.E l (fun v M1=>ev.E r₁ (fun u M2=>Q5 op₁ v u (fun b M3=>bif b then ev.E r₂ (fun w M4=>Q5 op₂ u w Q M4) M3 else Q false M3) M2) M1) M
def vY(ev:Ev)(ops:List CmpOp)(l:Expr)(rs:List Expr)(Q:Bool→Led→Prop)(M:Led):Prop:=match ops with
 |[]=>False
 |op₁::ops=>match rs with
  |[]=>False
  |r₁::rs=>match ops with
   |[]=>(match rs with
    |[]=>yP ev op₁ l r₁ Q M
    |_::_=>False)
   |op₂::ops=>match ops with
    |_::_=>False
    |[]=>match rs with
     |[]=>False
     |r₂::rs=>match rs with
      |_::_=>False
      |[]=>DA ev op₁ op₂ l r₁ r₂ Q M
def JF(ev:Ev)(op:UnaryOp)(x:Expr)(Q:aJ)(M:Led):Prop:=match op with
 |.USub=>ev.E x (fun v M1=>asI v fun i=>Q (.fz (.int (-i))) M1) M
 |.Not=>ev.E x (fun v M1=>uU v fun b=>Q (.fz (.bool (!b))) M1) M
 |_=>False
def Gb(ev:Ev)(o:Expr)(lo hi st:Option Expr)(Q:aJ)(M:Led):Prop:=match st with
 |none=>ev.E o (fun v M1=>pE ev lo (fun a M2=>pE ev hi (fun b M3=>n7 M3 v a b Q) M2) M1) M
 |some st=>match lo with
  |some _=>False
  |none=>match hi with
   |some _=>False
   |none=>ev.E o (fun v M1=>ev.E st (fun j M2=>asI j fun i=>i = -1∧∃l,v.view M2=some (false,l)∧l.length≤1000000∧bL M2 (.lst l.reverse) Q) M1) M
def W5(ev:Ev)(o s:Expr)(Q:aJ)(M:Led):Prop:=match s with
 |.Slice lo hi st _=>Gb ev o lo hi st Q M
 |s=>ev.E o (fun v M1=>ev.E s (fun i M2=>CD v i Q M2) M1) M
def D4(T:Tk)(ev:Ev)(f:Expr)(args:List Expr)(pos:Pos)(Q:aJ)(M:Led):Prop:=bif gT args then(match f with
 |.Name x _=>bif seq x "__debug__" then False else bif kIs T.κ x zF then cB (DN x) fun t=>lE ev args (fun vs M1=>wTg T t vs Q M1) M else False
 |.Attribute o x apos=>bif jD o&&few 29 args&&apos.endLine==pos.line then ev.E o (fun v M1=>C2 v x M1 fun t=>lE ev args (fun vs M2=>wTg T t (v::vs) Q M2) M1) M else False
 |_=>False)else False
section
variable(G:Str→Option D)(T:Tk)(m:Loc)
def stE(ev:Ev)(e:Expr)(Q:aJ)(M:Led):Prop:=match e with
 |.Constant c _ _=>Cc c Q M
 |.Name x _=>W6 G T.κ m x Q M
 |.BinOp l op r _=>ev.E l (fun v M1=>ev.E r (fun u M2=>FR op v u Q M2) M1) M
 |.UnaryOp op x _=>JF ev op x Q M
 |.BoolOp op es _=>zH ev (zQ op) es Q M
 |.Compare l ops rs _=>vY ev ops l rs (fun b M1=>Q (.fz (.bool b)) M1) M
 |.IfExp t a b _=>ev.B t (fun c M1=>bif c then ev.E a Q M1 else ev.E b Q M1) M
 |.Tuple es _ _=>bif few 900 es&&gT es then lE ev es (fun vs M1=>cB (fzs vs) fun ds=>Q (.fz (.tup ds)) M1) M else False
 |.List es _=>bif few 900 es&&gT es then lE ev es (fun vs M1=>bL M1 (.lst vs) Q) M else False
 |.Dict ks vs _=>bif ks.isEmpty&&vs.isEmpty then bL M (.dct [] []) Q else False
 |.Attribute o x _=>bif jD o then ev.E o (fun v M1=>qQ v x Q M1) M else False
 |.Subscript o s _=>W5 ev o s Q M
 |.Call f args kw pos=>bif kw.isEmpty then D4 T ev f args pos Q M else False
 |.ListComp elt gens sc pos=>Lf (TE T.W T.n T.env m (.ListComp elt gens sc pos) (Gh Q) M)
 |_=>False
def stB(ev:Ev)(e:Expr)(Q:Bool→Led→Prop)(M:Led):Prop:=match e with
 |.UnaryOp op x _=>(match op with
  |.Not=>ev.B x (fun b M1=>Q (!b) M1) M
  |_=>False)
 |.BoolOp op es _=>zM ev (zQ op) es Q M
 |.Compare l ops rs _=>vY ev ops l rs Q M
 |.Name x p=>ev.E (.Name x p) (fun v M1=>uU v fun b=>Q b M1) M
 |.Attribute o x p=>ev.E (.Attribute o x p) (fun v M1=>uU v fun b=>Q b M1) M
 |.Call f as kw p=>ev.E (.Call f as kw p) (fun v M1=>uU v fun b=>Q b M1) M
 |_=>False
noncomputable def ev:Nat→Ev
 |0=>⟨fun _ _ _=>False,fun _ _ _=>False⟩
 |k+1=>⟨stE G T m (ev k),stB (ev k)⟩
end
structure All(W:Wd)(G:Str→Option D)(dflt:Fn→List D):Prop where
 wk:Wk W G
 ck:ClsK W
 nk:NmK W
 fk:∀f,FnK W dflt f
theorem T6:∀p∈tyTab,bootBuiltins p.1=some (.type p.2.name)∧p.1≠"__name__":=by decide +kernel
theorem U8:∀p∈biTab,bootBuiltins p.1=some (biV p.2)∧p.1≠"__name__":=by decide +kernel
theorem O5{W:Wd}(b:Bi):gJ W (biV b):=by cases b <;> first|exact .inl ⟨_,rfl⟩|exact .inr (.inl ⟨_,rfl⟩)
theorem eV{b:Bool}{P:Prop}(h:bif b then False else P):b=false∧P:=by
 cases b with
 |true=>exact h.elim
 |false=>exact⟨rfl,h⟩
section
variable{W:Wd}{G:Str→Option D}{dflt:Fn→List D}{n:Nat}{env:Env}{κ:Ks}{m:Loc}{M:Led}{Q:aJ}
theorem E7(a:All W G dflt)(hκ:∀x,lk x κ=some .globalImplicit→env.kindOf x=some .globalImplicit){x:Str}{p:Pos}(h:W6 G κ m x Q M):TE W n env m (.Name x p) Q M:=by
 obtain⟨h1,h⟩:=eV h
 obtain⟨h2,h⟩:=eV h
 have hd:(x==("__debug__" : Str))=false:=beq_false_of_ne fun e=>by rw [e,hO]at h1;exact dP h1
 have hc:(x==("__classdict__" : Str))=false:=beq_false_of_ne fun e=>by rw [e,hO]at h2;exact dP h2
 cases hv:lk x m with
 |some v=>rw [hv]at h;exact Cx hv h hd hc
 |none =>
  rw [hv]at h
  obtain⟨hg,h⟩:=aZ (show bif kIs κ x zF then _ else False from h)
  have hg:=qS hg
  cases ht:tyOf x with
  |some t =>
   unfold tW at h
   rw [ht]at h
   obtain⟨b1,b2⟩:=T6 _ (eO ht)
   exact fun A Y s g me f=>oN a.wk me f (hκ x hg) (a.nk.ty _ (eO ht)) b1 b2 hd (ResG.here h rfl me)
  |none =>
   unfold tW at h
   rw [ht]at h
   obtain⟨d,e,q⟩:=bB h
   exact z9 a.wk (hκ x hg) e q hd
theorem A0(a:All W G dflt){t:Tg}{vs:List V}(h:wTg ⟨W,n,env,κ⟩ t vs Q M):Op W n vs (aO W) (fun xs=>call (tgV W t) xs) Q M:=by
 cases t with
 |fn f=>exact aA.op (Lf.go h)
 |bi b=>exact Gg a.wk h
 |cls c=>exact Lf.go h
theorem V2(a:All W G dflt)(t:Tg):gJ W (tgV W t):=by
 cases t with
 |fn f=>exact .inr (.inr (a.fk f).keep)
 |bi b=>exact O5 b
 |cls c=>exact .inr (.inr (a.nk.keep c))
theorem zU (a:All W G dflt) (hκ:∀x,lk x κ=some .globalImplicit→env.kindOf x=some .globalImplicit) {x:Str}{np:Pos}{t:Tg}(h1:seq x "__debug__" = false) (hg:lk x κ=some .globalImplicit) (ht:DN x=some t) {A:Around}{Y U:List Addr}{s:Shared}{K:Value→Shared→Prop}
  (me:Mem W Y M s.heap) (f:Frm W Y U env m s.heap) (k:K (tgV W t) s):wpAny W.M A (eval (.Name x np) env) K NoE s:=by
 have hd:(x==("__debug__" : Str))=false:=beq_false_of_ne fun e=>by rw [e,hO]at h1;exact dP h1
 unfold DN at ht
 cases hb:biOf x with
 |some b =>
  rw [hb]at ht
  (have e_:=Option.some.inj ht;clear ht;subst e_)
  obtain⟨b1,b2⟩:=U8 _ (eO hb)
  exact oN a.wk me f (hκ x hg) (a.nk.bi _ (eO hb)) b1 b2 hd k
 |none =>
  rw [hb]at ht
  cases hf:fnOf x with
  |some g =>
   rw [hf]at ht
   (have e_:=Option.some.inj ht;clear ht;subst e_)
   exact lR a.wk me f (hκ x hg) (a.nk.fn _ (eO hf)) hd k
  |none =>
   rw [hf]at ht
   have ht:(FD x).map .cls=some t:=ht
   simp only [Option.map_eq_some_iff]at ht
   obtain⟨c,hc,rfl⟩:=ht
   exact lR a.wk me f (hκ x hg) (a.nk.cls _ (eO hc)) hd k
theorem P0{x:Expr}{pos:Pos}(h:TE W n env m x (fun v M1=>uU v fun b=>Q (.fz (.bool (!b))) M1) M):TE W n env m (.UnaryOp .Not x pos) Q M:=fun A Y s g me f =>
 wpAny_UnaryOp (h.use g me f fun y s1 v M1 q0 rv me1 f1 t1=>by
  obtain⟨b,e,q⟩:=fA q0
  clear q0
  subst e
  (revert rv;intro(e_:_=_);subst e_)
  unfold unaryOp
  exact wpAny_bind (wpAny_truthy_bool (wpAny_pure (ResG.step t1 (ResG.here q rfl me1)))))
theorem DK {A:Around}{s:Shared}{l b:Addr}{vs:List Value}{ne:Bool}{P:Value→Shared→Prop}(g:cF n A) (h1:gW s.heap l "list" vs) (h2:s.heap.IsList b #[]) (k:P (.bool (if ne then !vs.isEmpty else vs.isEmpty)) s) :
  wpAny W.M A (compareOp (if ne then .NotEq else .Eq) (.ref l) (.ref b)) P NoE s:=by
 have hu:A.units<cLine:=by have:=g.2.2;unfold cLine;exact JM this
 cases vs with
 |nil =>
  cases ne with
  |false=>exact PySem.SeqAt.eq_listAt (e:=fun _=>true) h1.isList h2 rfl hu (fun j h=>(by simp at h)) (by exact k)
  |true=>exact PySem.SeqAt.RcNeAt.lists (e:=fun _=>true) h1.isList h2 rfl hu (fun j h=>(by simp at h)) W.prog W.w _ _ (by exact k)
 |cons v vs =>
  cases ne with
  |false=>exact PySem.SeqAt.eq_list_lengthsAt h1.isList h2 (by exact rfl) hu (by exact k)
  |true=>exact PySem.SeqAt.RcNeAt.lists_lengths h1.isList h2 (by exact rfl) hu W.prog W.w _ _ (by exact k)
set_option tactic.hygienic true in
theorem A4{v:V}{K:Bool→Prop}(h:Ac v M K):∃l,v.view M=some (false,l)∧K l.isEmpty:=by
 cases v with
 |fz d =>
  cases d <;> first|exact h.elim|skip
  rename_i l
  have h:K l.isEmpty:=h
  exact⟨l.map .fz,rfl,by rw [List.isEmpty_map];exact h⟩
 |loc a =>
  obtain⟨l,e,h⟩:=iM h
  exact⟨l,congrArg cV e,h⟩
theorem P8{op:CmpOp}(h:uJ op=true):∃ne:Bool,op=(if ne then .NotEq else .Eq)∧∀b,D7 op b=(if ne then !b else b):=by
 cases op <;> first|(exact aL h;done)|exact⟨false,rfl,fun _=>rfl⟩|exact⟨true,rfl,fun _=>rfl⟩
theorem b6{op:CmpOp}{l:Expr}{p:Pos}{QB:Bool→Led→Prop}(ho:uJ op=true)(h:TE W n env m l (fun v M1=>Ac v M1 fun b=>QB (D7 op b) M1) M){A:Around}{Y:List Addr}{s:Shared}{K:Value→Shared→Prop}(g:cF n A)(me:Mem W Y M s.heap)(f:Frm W Y (Y++foot M) env m s.heap)
  (k:∀b M1 s1,QB b M1→Mem W Y M1 s1.heap→Step (foot M) (foot M1) s s1→K (.bool b) s1):wpAny W.M A (eval l env) (fun x s1=>wpAny W.M A (eval (.List [] p) env) (fun y s2=>wpAny W.M A (compareOp op x y) K NoE s2) NoE s1) NoE s :=
 h.use g me f fun x s1 v M1 q rv me1 f1 t1=>by
  obtain⟨l,hv,q⟩:=A4 q
  obtain⟨ne,rfl,hn⟩:=P8 ho
  rw [hn]at q
  refine List_ (args_nil (wpAny_newList ?_ (by rw [sizeLine_eq];simp)))
  have hk:∀b o,s1.heap.get? b=some o→(s1.heap.push {cls:=.type "list",data:=.seq #[]}).get? b=some o:=aQ _
  obtain⟨a,vs,rfl,e1,e2⟩:=bQ me1 hv rv
  have he:vs.isEmpty=l.isEmpty:=by have:=e2.length;cases vs <;> cases l <;> simp_all
  rw [←he]at q
  obtain⟨c,e1⟩:=e1
  refine DK (s:={s1 with heap:=s1.heap.push _}) g ⟨c,hk _ _ e1⟩ ⟨_,Heap.get?_push_size _ rfl,rfl,_,rfl⟩ ?_
  exact k _ M1 _ q (me1.same (s':={s1 with heap:=s1.heap.push _}) hk) (t1.trans (Step.same (s':={s1 with heap:=s1.heap.push _}) hk ⟨_,_,rfl⟩))
theorem xI{e:Expr}(h:yK e=true):∃p,e = .List [] p:=by
 obtain⟨es,p,rfl,h⟩:∃es p,e = .List es p∧es.isEmpty=true:=by cases e <;> first|exact aL h|exact⟨_,_,rfl,h⟩
 cases es with
 |nil=>exact⟨p,rfl⟩
 |cons=>exact aL h
theorem BC(e:Ev){es:List Expr}{Q:List V→Led→Prop}{Q':List V→Led→Prop}(h:lE e es Q M)(hE:∀x Q M,e.E x Q M→TE W n env m x Q M)(pos:Pos)(hs:gT es=true):TL W n env m es pos (fun vs M1=>vs.length=es.length∧Q vs M1) M:=by
 induction es generalizing Q M with
 |nil=>exact yT ⟨rfl,h⟩
 |cons x es ih =>
  have hs:=anp hs
  exact nZ (Tr.mono (hE _ _ _ h) fun v M1 q=>Tr.mono (ih q hs.2) fun vs M2 q=>⟨by simp [q.1],q.2⟩) (fY hs.1 _)
structure EvOk(W:Wd)(n:Nat)(env:Env)(m:Loc)(e:Ev):Prop where
 E:∀x Q M,e.E x Q M→TE W n env m x Q M
 B:∀x Q M,e.B x Q M→TB W n env m x Q M
variable{e:Ev}
theorem B2(o:EvOk W n env m e){es:List Expr}{Q:List V→Led→Prop}(h:lE e es Q M)(pos:Pos)(hs:gT es=true):TL W n env m es pos (fun vs M1=>vs.length=es.length∧Q vs M1) M:=BC (Q':=Q) e h o.E pos hs
theorem Z6(o:EvOk W n env m e){x:Option Expr}{Q:Option Int→Led→Prop}(h:pE e x Q M):TP W n env m x Q M:=by
 cases x with
 |none=>exact U2 h
 |some x=>exact zZ (Tr.mono (o.E _ _ _ h) fun v M1 q=>bJ q)
theorem pM(o:EvOk W n env m e){op:BoolOp}{pos:Pos}:∀{es:List Expr}{Q:aJ}{M:Led},zH e (zQ op) es Q M→TE W n env m (.BoolOp op es pos) Q M
 |[],_,_,h=>h.elim
 |x::es,Q,M,h=>by
  cases es with
  |nil=>exact A2 (o.E _ _ _ h)
  |cons y es =>
   cases op with
   |And =>
    refine Cp (Tr.mono (o.E _ _ _ h) fun v M1 q=>?_)
    obtain⟨b,e,q⟩:=fA q
    refine⟨b,e,?_⟩
    cases b
    ·exact q
    ·exact pM o q
   |Or =>
    refine Gd (Tr.mono (o.E _ _ _ h) fun v M1 q=>?_)
    obtain⟨b,e,q⟩:=fA q
    refine⟨b,e,?_⟩
    cases b
    ·exact pM o q
    ·exact q
theorem oO(o:EvOk W n env m e){op:BoolOp}{pos:Pos}:∀{es:List Expr}{Q:Bool→Led→Prop}{M:Led},zM e (zQ op) es Q M→TB W n env m (.BoolOp op es pos) Q M
 |[],_,_,h=>by cases op with
  |And=>exact yM h
  |Or=>exact n5 h
 |x::es,Q,M,h=>by
  cases op with
  |And =>
   refine AQ (Tr.mono (o.B _ _ _ h) fun b M1 q=>?_)
   cases b
   ·exact q
   ·exact oO o q
  |Or =>
   refine Dg (Tr.mono (o.B _ _ _ h) fun b M1 q=>?_)
   cases b
   ·exact oO o q
   ·exact q
theorem uY(o:EvOk W n env m e){ops:List CmpOp}{l:Expr}{rs:List Expr}{pos:Pos}{QB:Bool→Led→Prop}(h:vY e ops l rs QB M) :
  TE W n env m (.Compare l ops rs pos) (fun v M1=>∃b,v = .fz (.bool b)∧QB b M1) M∧TB W n env m (.Compare l ops rs pos) QB M:=by
 rcases ops with _|⟨op₁,ops⟩
 ·exact h.elim
 rcases rs with _|⟨r₁,rs⟩
 ·exact h.elim
 rcases ops with _|⟨op₂,ops⟩
 ·rcases rs with _|⟨r₂,rs⟩
  ·have h2:yP e op₁ l r₁ QB M:=h
   clear h
   unfold yP at h2
   cases hn:yK r₁&&uJ op₁ with
   |true =>
    rw [hn,cond_true]at h2
    have h:=h2
    clear h2
    simp only [Bool.and_eq_true]at hn
    obtain⟨p,rfl⟩:=xI hn.1
    exact⟨fun A Y s g me f=>wpAny_Compare1 (b6 hn.2 (o.E _ _ _ h) g me f fun b M1 s1 q me1 t1=>ResG.step t1 (ResG.here (v:=.fz (.bool b)) ⟨b,rfl,q⟩ rfl me1)) rfl,
     fun A Y s g me f=>wpAny_isTrue_Compare1 (b6 hn.2 (o.E _ _ _ h) g me f fun b M1 s1 q me1 t1=>wpAny_truthy_bool (ResG.step t1 (ResG.here (R:=fun _ _ b x=>x=b) q rfl me1))) rfl⟩
   |false =>
    rw [hn,cond_false]at h2
    obtain⟨hb,h⟩:=eV h2
    have h':TE W n env m l (fun v M1=>TE W n env m r₁ (fun u M2=>OpC W n op₁ v u QB M2) M1) M:=Tr.mono (o.E _ _ _ h) fun v M1 q=>Tr.mono (o.E _ _ _ q) fun u M2 q=>kZ q
    exact⟨uV h' hb,Cd h' hb⟩
  ·exact h.elim
 ·rcases ops with _|⟨op₃,ops⟩
  ·rcases rs with _|⟨r₂,rs⟩
   ·exact h.elim
   rcases rs with _|⟨r₃,rs⟩
   ·obtain⟨hb,h⟩:=eV (show bif behindInMarks op₂ r₂ then False else _ from h)
    refine⟨K4 (Tr.mono (o.E _ _ _ h) fun v M1 q=>Tr.mono (o.E _ _ _ q) fun u M2 q=>Op.mono (kZ q) fun r N ⟨b,e,q⟩=>⟨b,e,?_⟩) hb,H1 (Tr.mono (o.E _ _ _ h) fun v M1 q=>Tr.mono (o.E _ _ _ q) fun u M2 q=>Op.mono (kZ q) fun r N ⟨b,e,q⟩=>⟨b,e,?_⟩) hb⟩
    ·cases b
     ·exact⟨false,rfl,q⟩
     ·exact Tr.mono (o.E _ _ _ q) fun w M4 q=>kZ q
    ·cases b
     ·exact q
     ·exact Tr.mono (o.E _ _ _ q) fun w M4 q=>kZ q
   ·exact h.elim
  ·exact(by cases rs <;> exact h.elim)
set_option tactic.hygienic true in
theorem C4(o:EvOk W n env m e){x s:Expr}{pos:Pos}(h:W5 e x s Q M):TE W n env m (.Subscript x s pos) Q M:=by
 by_cases hs:kJ s=true
 ·have h:e.E x (fun v M1=>e.E s (fun i M2=>CD v i Q M2) M1) M:=by cases s <;> first|exact h|exact aL hs
  exact BG hs (Tr.mono (o.E _ _ _ h) fun v M1 q=>Tr.mono (o.E _ _ _ q) fun u M2 q=>S3 q)
 ·cases s <;> first|exact(hs rfl).elim|skip
  rename_i lo hi st p
  have h:Gb e x lo hi st Q M:=h
  cases st with
  |none=>exact L3 (Tr.mono (o.E _ _ _ h) fun v M1 q=>Tr.mono (Z6 o q) fun b M2 q=>Tr.mono (Z6 o q) fun c M3 q=>q)
  |some st =>
   cases lo with
   |some=>exact h.elim
   |none =>
    cases hi with
    |some=>exact h.elim
    |none=>exact BW (Tr.mono (o.E _ _ _ h) fun v M1 q=>zZ (Tr.mono (o.E _ _ _ q) fun j M2 q=>by
      obtain⟨i,e,hi,q⟩:=bJ q
      exact⟨i,e,by rw [hi],q⟩))
theorem xZ(a:All W G dflt)(o:EvOk W n env m e){t:Tg}{firstV:List V}{args:List Expr}{pos:Pos}(hs:gT args=true)(h:lE e args (fun vs M1=>wTg ⟨W,n,env,κ⟩ t (firstV++vs) Q M1) M) :
  E9 W n env m pos (tgV W t) firstV Q M args:=by
 cases args with
 |nil =>
  have h:wTg ⟨W,n,env,κ⟩ t (firstV++[]) Q M:=h
  rw [List.append_nil]at h
  exact A0 a h
 |cons x rest=>exact Tr.mono (B2 o h pos hs) fun vs N q=>A0 a q.2
set_option tactic.hygienic true in
theorem n4(a:All W G dflt)(hκ:∀x,lk x κ=some .globalImplicit→env.kindOf x=some .globalImplicit)(o:EvOk W n env m e){f:Expr}{args:List Expr}{pos:Pos}(h:D4 ⟨W,n,env,κ⟩ e f args pos Q M):TE W n env m (.Call f args [] pos) Q M:=by
 obtain⟨hs,h1⟩:=aZ h
 clear h
 cases f <;> first|exact h1.elim|skip
 case Attribute b x apos =>
  have h:=h1
  obtain⟨hc,h⟩:=aZ (show bif _ then _ else False from h)
  simp only [Bool.and_eq_true]at hc
  exact S5 a.wk a.ck a.nk a.fk hc.1.1 (mJ hs) (Nat.lt_succ_of_le (few_le hc.1.2)) hc.2 (Tr.mono (o.E _ _ _ h) fun v M1 q=>by
   cases v with
   |fz d=>obtain⟨t,e,q⟩:=bB (show cB (D9 d x) _ from q);show cB (D9 d x) _;rw [e];exact xZ a o (firstV:=[.fz d]) hs q
   |loc c =>
    obtain⟨cc,e,q⟩:=q
    obtain⟨t,e2,q⟩:=bB q
    refine⟨cc,e,?_⟩
    show cB (AA cc x) _
    rw [e2]
    exact xZ a o (firstV:=[.loc c]) hs q)
 case Name x np =>
  have h:=h1
  clear h1
  obtain⟨h1,h⟩:=eV (show bif seq x "__debug__" then False else _ from h)
  obtain⟨hg,h⟩:=aZ h
  obtain⟨t,ht,h⟩:=bB h
  refine U1 a.wk (fv:=tgV W t) (fun me f q=>zU a hκ h1 (qS hg) ht me f q) (V2 a t) (mJ hs) ?_
  have:=xZ a o (firstV:=[]) (pos:=pos) hs h
  cases args with
  |nil=>exact this
  |cons e rest=>exact this
set_option tactic.hygienic true in
theorem Bh(a:All W G dflt)(hκ:∀x,lk x κ=some .globalImplicit→env.kindOf x=some .globalImplicit)(o:EvOk W n env m e){x:Expr}(h:stE G ⟨W,n,env,κ⟩ m e x Q M):TE W n env m x Q M:=by
 cases x <;> first|exact h.elim|skip
 case Constant c k p =>
  cases c <;> first|exact h.elim|skip
  ·exact O8 h
  ·exact R7 h
  ·exact Ct h
  ·exact DP h
 case Name x p=>exact E7 a hκ h
 case BinOp l op r p=>exact I0 (Tr.mono (o.E _ _ _ h) fun v M1 q=>Tr.mono (o.E _ _ _ q) fun u M2 q=>O2 q)
 case UnaryOp op x p =>
  cases op <;> first|exact h.elim|skip
  ·exact P0 (o.E _ _ _ h)
  ·exact CN (Tr.mono (o.E _ _ _ h) fun v M1 q=>bJ q)
 case BoolOp op es p=>exact pM o h
 case Compare l ops rs p =>
  exact Tr.mono (uY o (show vY e ops l rs _ M from h)).1 fun v M1 hp1=>by obtain⟨b,e,q⟩:=hp1;subst e;exact q
 case IfExp t x y p =>
  refine K9 (Tr.mono (o.B _ _ _ h) fun b M1 q=>?_)
  cases b
  ·exact o.E _ _ _ q
  ·exact o.E _ _ _ q
 case Tuple es k p =>
  obtain⟨hc,h⟩:=aZ h
  simp only [Bool.and_eq_true]at hc
  exact B9 (Tr.mono (B2 o h p hc.2) fun vs M1 hp1=>by
   obtain⟨hl,q⟩:=hp1
   obtain⟨ds,e,q⟩:=bB q
   have:=few_le hc.1
   exact⟨by exact HF hl this,ds,e,q⟩)
 case List es p =>
  obtain⟨hc,h⟩:=aZ h
  simp only [Bool.and_eq_true]at hc
  exact P7 (Tr.mono (B2 o h p hc.2) fun vs M1 hp1=>by
   obtain⟨hl,q⟩:=hp1
   have:=few_le hc.1
   exact⟨by exact HF hl this,q⟩)
 case Dict ks vs p =>
  obtain⟨hc,h⟩:=aZ h
  cases ks with
  |cons=>exact aL hc
  |nil =>
   cases vs with
   |cons=>exact aL hc
   |nil=>exact B6 a.wk h
 case Attribute x y p =>
  obtain⟨hc,h⟩:=aZ h
  exact U6 a.wk a.ck hc (o.E _ _ _ h)
 case Subscript x y p=>exact C4 o h
 case Call f args kw p =>
  obtain⟨hc,h⟩:=aZ h
  cases kw with
  |cons=>exact aL hc
  |nil=>exact n4 a hκ o h
 case ListComp=>exact TE.ghost (Lf.go h)
set_option tactic.hygienic true in
theorem CQ(o:EvOk W n env m e){x:Expr}{QB:Bool→Led→Prop}(h:stB e x QB M):TB W n env m x QB M:=by
 cases x <;> first|exact h.elim|skip
 case UnaryOp op x p =>
  cases op <;> first|exact h.elim|skip
  exact Bu (o.B _ _ _ h)
 case BoolOp op es p=>exact oO o h
 case Compare l ops rs p=>exact(uY o (show vY e ops l rs _ M from h)).2
 case Name x p=>exact pZ (Tr.mono (o.E _ _ _ h) fun v M1 q=>fA q) rfl
 case Attribute x y p=>exact pZ (Tr.mono (o.E _ _ _ h) fun v M1 q=>fA q) rfl
 case Call f args kw p=>exact pZ (Tr.mono (o.E _ _ _ h) fun v M1 q=>fA q) rfl
theorem kG(a:All W G dflt)(hκ:∀x,lk x κ=some .globalImplicit→env.kindOf x=some .globalImplicit):∀k,EvOk W n env m (ev G ⟨W,n,env,κ⟩ m k)
 |0=>⟨fun _ _ _ h=>h.elim,fun _ _ _ h=>h.elim⟩
 |k+1=>⟨fun _ _ _ h=>Bh a hκ (kG a hκ k) h,fun _ _ _ h=>CQ (kG a hκ k) h⟩
end
end
section
noncomputable def yL(κ:Ks):List Expr→Bool
 |[]=>true
 |e::es=>match nm e with
  |some x=>kIs κ x kSt&&yL κ es
  |none=>false
noncomputable def yO(op:Operator):Bool:=match op with
 |.Add=>true
 |.Sub=>true
 |_=>false
noncomputable def opI(op:Operator)(i j:Int):Int:=match op with
 |.Add=>i+j
 |_=>i-j
def AN(f:Fl)(a b:Prop):Prop:=match f with
 |.next=>a
 |.brk=>b
 |.cont=>b
 |.ret _=>b
noncomputable def hdS(l:List Stmt):Stmt:=match l with
 |[]=>.Pass ⟨0,0,0,0⟩
 |st::_=>st
noncomputable abbrev Sv:=List Stmt→Loc→bG→Led→Prop
section
variable(G:Str→Option D)(T:Tk)
noncomputable def O7(S:Sv)(rest:List Stmt)(Q:bG):bG:=fun f m M=>AN f (S rest m Q M) (Q f m M)
noncomputable def mE(m:Loc):Expr→aJ→Led→Prop:=(ev G T m 40).E
noncomputable def mB(m:Loc):Expr→(Bool→Led→Prop)→Led→Prop:=(ev G T m 40).B
def Cu(m:Loc)(x y:Str)(e1 e2:Expr)(Q:bG)(M:Led):Prop :=
 bif seq x y then False else bif ((foldedForSure 8 e1&&foldedForSure 8 e2)||!(constantsAlone 8 e1&&constantsAlone 8 e2))then
  mE G T m e1 (fun v1 M1=>mE G T m e2 (fun v2 M2=>Q .next (bE y v2 (bE x v1 m)) M2) M1) M else False
def L4(m:Loc)(es vs:List Expr)(Q:bG)(M:Led):Prop:=match es with
 |[]=>False
 |a::es=>cB (nm a) fun x=>match es with
  |[]=>False
  |b::es=>cB (nm b) fun y=>match es with
   |_::_=>False
   |[]=>match vs with
    |[]=>False
    |e1::vs=>match vs with
     |[]=>False
     |e2::vs=>match vs with
      |_::_=>False
      |[]=>Cu G T m x y e1 e2 Q M
def AG(m:Loc)(es:List Expr)(value:Expr)(Q:bG)(M:Led):Prop:=bif yL T.κ es then(match tupE value with
 |some vs=>bif gT vs then L4 G T m es vs Q M else False
 |none=>mE G T m value (fun v M1=>asT v fun ds=>cB (dT es (ds.map .fz) m) fun m'=>Q .next m' M1) M)else False
def AC(m:Loc)(t:Expr)(value:Expr)(pos:Pos)(Q:bG)(M:Led):Prop:=match t with
 |.Name x p=>(match isCompE value with
  |true=>Lf (TS T.W T.n T.env (.Assign [.Name x p] value pos) m (FzQ Q) M)
  |false=>bif kIs T.κ x kSt then mE G T m value (fun v M1=>Q .next (bE x v m) M1) M else False)
 |.Tuple es _ _=>AG G T m es value Q M
 |.Attribute o x _=>mE G T m value (fun u M1=>mE G T m o (fun v M2=>z8 v x u (Q .next m) M2) M1) M
 |.Subscript o i _=>mE G T m value (fun u M1=>mE G T m o (fun v M2=>mE G T m i (fun j M3=>tI v j u (Q .next m) M3) M2) M1) M
 |_=>False
def Y3(m:Loc)(t:Expr)(op:Operator)(value:Expr)(Q:bG)(M:Led):Prop:=bif yO op then(match t with
 |.Name x _=>bif kIs T.κ x Ej then cB (lk x m) fun v=>asI v fun i=>mE G T m value (fun v M1=>asI v fun j=>Q .next (bE x (.fz (.int (opI op i j))) m) M1) M else False
 |.Attribute o x _=>mE G T m o (fun v M1=>qQ v x (fun u M2=>asI u fun i=>mE G T m value (fun w M3=>asI w fun j=>z8 v x (.fz (.int (opI op i j))) (Q .next m) M3) M2) M1) M
 |_=>False)else False
def stS(sv:Sv)(st:Stmt)(m:Loc)(Q:bG)(M:Led):Prop:=match st with
 |.Assign ts value pos=>(match ts with
  |[]=>False
  |t::r=>(match r with
   |[]=>AC G T m t value pos Q M
   |_::_=>False))
 |.AugAssign t op value _=>Y3 G T m t op value Q M
 |.Expr e _=>bif isCompE e then False else mE G T m e (fun v M1=>oG v (Q .next m M1)) M
 |.Return e _=>(match e with
  |some e=>mE G T m e (fun v M1=>Q (.ret v) m M1) M
  |none=>Q (.ret (.fz .none)) m M)
 |.If t b o _=>mB G T m t (fun c M1=>bif c then sv b m Q M1 else sv o m Q M1) M
 |.Pass _=>Q .next m M
 |.Break _=>Q .brk m M
 |.Continue _=>Q .cont m M
 |.For t i b o p=>Lf (TS T.W T.n T.env (.For t i b o p) m (FzQ Q) M)
 |.While t b o p=>Lf (TS T.W T.n T.env (.While t b o p) m (FzQ Q) M)
 |_=>False
noncomputable def sv:Nat→Sv
 |0=>fun _ _ _ _=>False
 |k+1=>fun sts m Q M=>match sts with
  |[]=>Q .next m M
  |_::_=>stS G T (sv k) (hdS sts) m (O7 (sv k) sts.tail Q) M
end
section
variable{W:Wd}{G:Str→Option D}{dflt:Fn→List D}{n:Nat}{env:Env}{κ:Ks}
theorem iC(he:∀x,env.kindOf x=lk x κ){x:Str}(h:kIs κ x kSt=true):bW env x=true:=by
 unfold bW
 rw [he]
 obtain⟨k,e,h⟩:=tP h
 rw [e]
 cases k <;> first|rfl|exact aL h
theorem tA(he:∀x,env.kindOf x=lk x κ):∀{es:List Expr},yL κ es=true→dK env es=true
 |[],_=>rfl
 |e::es,h=>by
  have h:(match nm e with|some x=>kIs κ x kSt&&yL κ es|none=>false)=true:=h
  rw [kE]
  cases q:nm e with
  |none=>rw [q]at h;exact aL h
  |some x =>
   rw [q]at h
   have h:=anp h
   exact anr ⟨iC he h.1,tA he h.2⟩
theorem Bp{x y:Str}(h:seq x y=false):x≠y:=fun e=>by rw [e,hO]at h;exact dP h
theorem xP{op:Operator}(h:yO op=true)(i j:Int):(op = .Add∨op = .Sub)∧(if op = .Add then i+j else i-j)=opI op i j:=by
 cases op <;> first|(exact aL h;done)|exact⟨.inl rfl,rfl⟩|exact⟨.inr rfl,rfl⟩
set_option tactic.hygienic true in
theorem xV{v:V}{x:Str}{Q1 Q2:aJ}{M1:Led}(q:qQ v x Q1 M1)(hh:∀u N,Q1 u N→Q2 u N):qQ v x Q2 M1:=by
 cases v with
 |fz d =>
  cases d <;> first|exact q.elim|skip
  rename_i c l
  have q:uE c x Q1 M1 (fG x (fields c) l):=q
  show uE c x Q2 M1 (fG x (fields c) l)
  cases h:fG x (fields c) l with
  |some d=>rw [h]at q;exact hh _ _ q
  |none =>
   rw [h]at q
   obtain⟨h1,q⟩:=aZ (show bif _ then _ else False from q)
   obtain⟨i,h2,q⟩:=bB q
   show bif _ then cB (kindOf c) _ else False
   rw [h1,h2]
   exact hh _ _ q
 |loc a =>
  obtain⟨c,d,ks,l,v,h1,h2,h3,q⟩:=qR q
  refine⟨_,h1,?_⟩
  show bif lU x (fields c)then _ else False
  have:lU x (fields c)=true:=by
   cases e:lU x (fields c)with
   |true=>rfl
   |false=>exact absurd h2 (pV e)
  rw [this,cond_true,h3]
  exact hh _ _ q
theorem lB(a:All W G dflt)(he:∀x,env.kindOf x=lk x κ){m:Loc}{x:Expr}{Q:aJ}{M:Led}(h:mE G ⟨W,n,env,κ⟩ m x Q M):TE W n env m x Q M :=
 (kG (n:=n) (m:=m) a (fun x h=>by rw [he];exact h) 40).E _ _ _ h
theorem JG(a:All W G dflt)(he:∀x,env.kindOf x=lk x κ){m:Loc}{x:Expr}{Q:Bool→Led→Prop}{M:Led}(h:mB G ⟨W,n,env,κ⟩ m x Q M):TB W n env m x Q M :=
 (kG (n:=n) (m:=m) a (fun x h=>by rw [he];exact h) 40).B _ _ _ h
section
variable{m:Loc}{R:bG}{M:Led}{pos:Pos}(a:All W G dflt)(he:∀x,env.kindOf x=lk x κ)
include a he
theorem l5{es vs:List Expr}{j j2:Nat}{p p2:Pos}(h1:yL κ es=true)(h2:gT vs=true)(h:L4 G ⟨W,n,env,κ⟩ m es vs R M):TS W n env (.Assign [.Tuple es j p] (.Tuple vs j2 p2) pos) m R M:=by
 rcases es with _|⟨ea,es⟩
 ·exact h.elim
 obtain⟨x,ex,h⟩:=bB (show cB (nm ea) _ from h)
 rcases es with _|⟨eb,es⟩
 ·exact h.elim
 obtain⟨y,ey,h⟩:=bB (show cB (nm eb) _ from h)
 rcases es with _|⟨ec,es⟩
 rotate_left
 ·exact h.elim
 rcases vs with _|⟨e1,vs⟩
 ·exact h.elim
 rcases vs with _|⟨e2,vs⟩
 ·exact h.elim
 rcases vs with _|⟨e3,vs⟩
 rotate_left
 ·exact h.elim
 obtain⟨pa,rfl⟩:=tN ex
 obtain⟨pb,rfl⟩:=tN ey
 obtain⟨hxy,h⟩:=eV (show bif seq x y then False else _ from h)
 obtain⟨hc,h⟩:=aZ h
 have h1:=anp h1
 have h2:=anp h2
 have h3:=(anp h2.2).1
 exact Q7 (iC he h1.1) (iC he (anp h1.2).1) (Bp hxy) h2.1 h3 hc
  (nZ (Tr.mono (lB a he h) fun v1 M1 q=>nZ (Tr.mono (lB a he q) fun v2 M2 q=>yT ⟨v1,v2,rfl,q⟩) (fY h3 _)) (fY h2.1 _))
theorem A3{es:List Expr}{value:Expr}{j:Nat}{p:Pos}(h:AG G ⟨W,n,env,κ⟩ m es value R M):TS W n env (.Assign [.Tuple es j p] value pos) m R M:=by
 obtain⟨h1,h⟩:=aZ (show bif yL κ es then _ else False from h)
 cases ht:tupE value with
 |none =>
  rw [ht]at h
  have:xR value=false:=by cases value <;> first|rfl|exact qX ht
  exact u7 (tA he h1) this (lB a he h)
 |some vs =>
  rw [ht]at h
  obtain⟨j2,p2,rfl⟩:∃j2 p2,value = .Tuple vs j2 p2:=wK ht
  obtain⟨h2,h⟩:=aZ (show bif gT vs then _ else False from h)
  exact l5 a he h1 h2 h
set_option tactic.hygienic true in
theorem E8{t value:Expr}(h:AC G ⟨W,n,env,κ⟩ m t value pos R M):TS W n env (.Assign [t] value pos) m R M:=by
 cases t <;> first|exact h.elim|skip
 case Attribute o x p=>exact yD a.wk a.ck (by cases value <;> rfl) (Tr.mono (lB a he h) fun u M1 q=>lB a he q)
 case Subscript o i p=>exact u8 (by cases value <;> rfl) (Tr.mono (lB a he h) fun u M1 q=>Tr.mono (lB a he q) fun v M2 q=>lB a he q)
 case Name x p =>
  have h:(match isCompE value with
   |true=>Lf (TS W n env (.Assign [.Name x p] value pos) m (FzQ R) M)
   |false=>bif kIs κ x kSt then mE G ⟨W,n,env,κ⟩ m value (fun v M1=>R .next (bE x v m) M1) M else False):=h
  cases hc:isCompE value with
  |true=>rw [hc]at h;exact TS.ghost (Lf.go h)
  |false =>
   rw [hc]at h
   obtain⟨h1,h⟩:=aZ (show bif kIs κ x kSt then _ else False from h)
   exact mQ (iC he h1) (uN hc _ _) (lB a he h)
 case Tuple es j p=>exact A3 a he h
set_option tactic.hygienic true in
theorem J8{t value:Expr}{op:Operator}(h0:Y3 G ⟨W,n,env,κ⟩ m t op value R M):TS W n env (.AugAssign t op value pos) m R M:=by
 obtain⟨ho,h⟩:=aZ (show bif yO op then _ else False from h0)
 clear h0
 have hop:=(xP ho 0 0).1
 cases t <;> first|exact h.elim|skip
 case Attribute o x q =>
  refine xK a.wk a.ck hop (Tr.mono (lB a he h) fun v M1 q=>xV q fun u N q=>?_)
  obtain⟨i,e,q⟩:=bJ q
  refine⟨i,e,Tr.mono (lB a he q) fun w M3 q=>?_⟩
  obtain⟨j,e,q⟩:=bJ q
  exact⟨j,e,by rw [(xP ho i j).2];exact q⟩
 case Name x q =>
  obtain⟨hk,h⟩:=aZ (show bif kIs κ x Ej then _ else False from h)
  obtain⟨v,hv,h⟩:=bB h
  obtain⟨i,e,h⟩:=bJ h
  subst e
  have hl:env.kindOf x=some .local:=by
   rw [he]
   obtain⟨k,e,h⟩:=tP hk
   rw [e]
   cases k <;> first|rfl|exact aL h
  refine Aj (by unfold bW;rw [hl];rfl) hop hv hl (Tr.mono (lB a he h) fun v M1 q=>?_)
  obtain⟨j,e,q⟩:=bJ q
  exact⟨j,e,by rw [(xP ho i j).2];exact q⟩
set_option tactic.hygienic true in
theorem CP{S:Sv}(iS:∀sts m Q M,S sts m Q M→TSs W n env sts m Q M){st:Stmt}(h2:stS G ⟨W,n,env,κ⟩ S st m R M):TS W n env st m R M:=by
 cases st <;> first|exact h2.elim|skip
 case Return e p =>
  cases e with
  |none=>exact yF h2
  |some e=>exact q8 (lB a he h2)
 case Assign ts value pos =>
  rcases ts with _|⟨t,_|⟨t2,r⟩⟩
  ·exact h2.elim
  ·exact E8 a he h2
  ·exact h2.elim
 case AugAssign t op value p=>exact J8 a he h2
 case For=>exact TS.ghost (Lf.go h2)
 case While=>exact TS.ghost (Lf.go h2)
 case If t b o p =>
  refine EF (Tr.mono (JG a he h2) fun b M1 q=>?_)
  cases b
  ·exact iS _ _ _ _ q
  ·exact iS _ _ _ _ q
 case Expr e p =>
  obtain⟨hc,h⟩:=eV (show bif isCompE e then False else _ from h2)
  exact V0 (uN hc _ _) (Tr.mono (lB a he h) fun v M1 q=>iG q)
 case Pass=>exact V9 h2
 case Break=>exact I5 h2
 case Continue=>exact uX h2
end
theorem zP(a:All W G dflt)(he:∀x,env.kindOf x=lk x κ)(k:Nat):∀(sts:List Stmt) (m:Loc) (Q:bG) (M:Led),sv G ⟨W,n,env,κ⟩ k sts m Q M→TSs W n env sts m Q M:=by
 induction k with
 |zero=>exact fun _ _ _ _ h=>h.elim
 |succ k iS =>
  intro sts m Q M h
  cases sts with
  |nil=>exact Q4 h
  |cons st rest =>
   refine H8 (Q:=Q) (TS.mono (CP a he iS (show stS G ⟨W,n,env,κ⟩ (sv G ⟨W,n,env,κ⟩ k) st m (O7 (sv G ⟨W,n,env,κ⟩ k) rest Q) M from h)) fun f m' M' q=>?_)
   cases f
   ·exact iS _ _ _ _ q
   ·exact q
   ·exact q
   ·exact q
end
end
section
noncomputable def o0:List (Str × D):=[("ADJUST",.int 11),("ALEADERS",.int 1),("CHAR",.int 0),("DEEPEST",.int 60),("DISC",.int 8),("EDGE_fonts",.int 256),("EDGE_hyphen",.int 0),("FILLL",.int 3),("FOLLOWING",.tup [.int 5,.int 13,.int 6,.int 7,.int 10,.int 11,.int 9]),("FONT_KERN",.int 0),("GLUE",.int 6),("HBOX",.int 2),("INSERT",.int 10),("KERN",.int 5),("KERN_OP",.int 128),("KNOWN_OPS",.tup [.int 0,.int 1,.int 2,.int 3,.int 5,.int 6,.int 7,.int 11]),("LARGER_SORT",.int 2),("LEAD",.int 255),("LETTERS",.str "abcdefghjklmnopqrstuvwxyz"),("LIGATURE",.int 1),("LONGEST_hyphen",.int 63),("LONGEST_hyphlist",.int 63),("LOWER_CODES",.int 14),("MARK",.int 9),("MATH",.int 12),("MAX_DIMEN",.int 1073741823),("MAX_NUMBER",.int 2147483647),("MOST_FONTS",.int 255),("MOST_PARAMS",.int 64),("MOST_SIZE",.int 134217727)]
noncomputable def m7:List (Str × D):=[("MU_KERN",.int 3),("NAMED",.int 100),("NONSCRIPT",.int 5),("NORMAL",.int 0),("NO_CHARACTER",.tup [.int 0,.int 0,.int 0,.int 0,.int 0,.int 0]),("PENALTY",.int 7),("PIECES_SORT",.int 3),("PLAIN",.int 0),("PLAIN_SORT",.int 0),("PROGRAM_SORT",.int 1),("REGION",.int 1048576),("RULE",.int 4),("SMALL_PARAMS",.tup [.int 0,.int 196608,.int 98304,.int 65536,.int 262144,.int 655360,.int 65536]),("SPECIAL",.int 13),("STEPS",.int 20),("STOP_SKIP",.int 128),("UNSET",.int 14),("VBOX",.int 3),("XLEADERS",.int 3)]
noncomputable def xD:List (Str × D):=o0++m7
noncomputable def aU(x:Str):Option D:=lk x xD
noncomputable def dfltOf:Fn→List D
 |.Glue_init=>[.int 0,.int 0,.int 0,.int 0,.int 0]
 |.Font_init=>[.tup [],.tup [],.int 256]
 |.font_of_rows=>[.tup [.int 0,.int 196608,.int 98304,.int 65536,.int 262144,.int 655360,.int 65536],.tup [],.tup [],.int 256]
 |.Ligature_init=>[.bool false,.bool false]
 |.Skip_init=>[.none]
 |.described=>[.int 0]
 |.described_list=>[.int 0]
 |.run=>[.bool true,.bool true]
 |.Patterns_points=>[.int 2,.int 3]
 |_=>[]
noncomputable abbrev aG(W:Wd):Prop:=All W aU dfltOf
noncomputable def q7(Q:aJ):bG:=fun fl _ N=>match fl with
 |.ret v=>Gh Q v N
 |.next=>Gh Q (.fz .none) N
 |.brk=>False
 |.cont=>False
noncomputable def uL(ps:List Arg)(ds:List D)(vs:List V):Loc:=(ps.map (·.arg)).zip (vs++(ds.drop (vs.length-(ps.length-ds.length))).map .fz)
noncomputable def d5(ps:List Arg)(ds:List D)(vs:List V):Bool:=few ps.length vs&&few vs.length (ps.drop ds.length)
section
variable{W:Wd}{n:Nat}{M:Led}{Q:aJ}
theorem aH(a:aG W){f:Fn}{vs:List V}{ps:List Arg}{κ:Ks}{body:List Stmt}{ds:List D}(hp:(bD f).args=ps)(hκ:(scopeOf f).names=κ)(hb:eF f=body)(hd:dfltOf f=ds)(h1:d5 ps ds vs=true)
  (h:∀env,env.scope.names=κ→let T:Tk:=⟨W,n,env,κ⟩;sv aU T 60 body (uL ps ds vs) (q7 Q) M):aA W (n+1) f vs Q M:=by
 simp only [d5,Bool.and_eq_true]at h1
 have l1:=few_le h1.1
 have l2:=few_le h1.2
 rw [List.length_drop]at l2
 subst hd
 refine aA.ghost (W3 a.wk (a.fk f) (by simpa [argNames,hp]using l1) (by simpa [argNames,hp]using l2) fun env he=>?_)
 have hn:argNames f=ps.map (·.arg):=by unfold argNames;rw [hp]
 rw [hb,hn,List.length_map]
 exact TSs.mono (zP (n:=n) (κ:=κ) a (fun x=>by unfold Env.kindOf;rw [he,hκ];exact dD κ) 60 _ _ _ _ (h env (by rw [he,hκ]))) fun fl m N q=>by
  cases fl <;> exact q
end
end
section
set_option tactic.hygienic true
open PySem PySem.W PySem.Calls PyProof.Rows
noncomputable def L2(ok:Thread→Bool)(st:SharedT→Thread→Option (SharedT × Thread)):Nat→SharedT→Thread→Option SharedT
 |0,_,_=>none
 |n+1,s,t=>match through t with
  |true=>some s
  |false=>match ok t with
   |false=>none
   |true=>match st s t with
    |some (s',t')=>L2 ok st n s' t'
    |none=>none
theorem qM{tb:String→Option Builtin}{p:Program}{w:World}{n₀:Nat}{ann:Option Value}:∀{n:Nat}{s s':SharedT}{t:Thread},L2 (stepOk n₀ ann) (stepT (denote tb) p w) n s t=some s'→topRun tb p w n₀ ann n s.abs t=some s'.abs
 |0,_,_,_,h=>by cases h
 |n+1,s,s',t,h=>by
  have h:(match through t with
   |true=>some s
   |false=>match stepOk n₀ ann t with
    |false=>none
    |true=>match stepT (denote tb) p w s t with
     |some (s',t')=>L2 (stepOk n₀ ann) (stepT (denote tb) p w) n s' t'
     |none=>none)=some s':=h
  unfold topRun
  cases he:through t with
  |true=>rw [he]at h;cases h;rfl
  |false =>
   rw [he]at h
   cases hk:stepOk n₀ ann t with
   |false=>rw [hk]at h;cases h
   |true =>
    rw [hk]at h
    cases hs:stepT (denote tb) p w s t with
    |none=>rw [hs]at h;cases h
    |some r=>obtain⟨s₂,t₂⟩:=r;rw [hs]at h;dsimp only;rw [stepT_spec hs];exact qM h
noncomputable def zI(p:Program)(w:World)(n₀:Nat)(ann:Option Value):Nat→SharedT→Thread→Option SharedT :=
 L2 (PySem.W.Fast.tw6613529449190102663 n₀ ann) (PySem.W.Fast.tw10156331382660048174 (PySem.W.Fast.tw11892475500146522536 PySem.W.Fast.tw14364793385576792824) p w)
theorem zA{p:Program}{w:World}{n₀:Nat}{ann:Option Value}{n:Nat}{s:SharedT}{t:Thread}:L2 (stepOk n₀ ann) (stepT (denote treeTable) p w) n s t=zI p w n₀ ann n s t:=by
 rw [PySem.W.Fast.te6613529449190102663,PySem.W.Fast.te10156331382660048174,PySem.W.Fast.te11892475500146522536,PySem.W.Fast.te14364793385576792824]
 rfl
noncomputable def layT:List Obj→Nat→BT→Option (BT × Nat)
 |[],n,T=>some (T,n)
 |o::l,n,T=>match ((T.ins n o).get n).isSome with
  |true=>layT l (n+1) (T.ins n o)
  |false=>none
theorem vE{life:Life}:∀{l:List Obj}{n:Nat}{T T':BT}{n':Nat}{pre:List Obj},absHeap T n life=⟨pre.toArray,life⟩→layT l n T=some (T',n')→absHeap T' n' life=⟨(pre++l).toArray,life⟩
 |[],n,T,T',n',pre,h0,h=>by cases h;rw [List.append_nil];exact h0
 |o::l,n,T,T',n',pre,h0,h=>by
  have h:(match ((T.ins n o).get n).isSome with
   |true=>layT l (n+1) (T.ins n o)
   |false=>none)=some (T',n'):=h
  cases hs:((T.ins n o).get n).isSome with
  |false=>rw [hs]at h;cases h
  |true =>
   rw [hs]at h
   have e:=vE (pre:=pre++[o]) (by rw [absHeap_ins hs,h0];simp [Heap.push]) h
   rw [e];simp
end
section
set_option tactic.hygienic true
open PySem PySem.W PySem.Calls PyProof.Rows
noncomputable abbrev bI:=Addr→Option Obj
noncomputable def K0(g:bI):Frag:=match g mainGlobals with
 |some o=>[(mainGlobals,o)]
 |none=>[]
noncomputable def gv(g:bI)(x:Str):Addr:=match nsIn (K0 g) mainGlobals x with
 |some (some (.ref a))=>a
 |_=>0
noncomputable def allCn:List Cn:=clsTab.map (·.2)
noncomputable def nmC(c:Cn):Str:=match clsTab.find? fun p=>decide (p.2=c)with
 |some p=>p.1
 |none=>""
noncomputable def caG(g:bI)(c:Cn):Addr:=gv g (nmC c)
noncomputable def nsAt(g:bI)(a:Addr):Addr:=match g a with
 |some ⟨_,_,.cls cd,_⟩=>cd.ns
 |_=>0
noncomputable def N5(g:bI)(c:Cn)(x:Str):Addr:=match g (nsAt g (caG g c))with
 |some o=>(match nsIn [(nsAt g (caG g c),o)] (nsAt g (caG g c)) x with
  |some (some (.ref a))=>a
  |_=>0)
 |none=>0
noncomputable def allMeth:List (Cn × Str × Fn):=allCn.flatMap fun c=>(methL c).map fun p=>(c,p)
noncomputable def faG(g:bI)(f:Fn):Addr:=match fnTab.find? fun p=>decide (p.2=f)with
 |some p=>gv g p.1
 |none=>(match allCn.find? fun c=>decide (initOf c=f)with
  |some c=>N5 g c "__init__"
  |none=>(match allMeth.find? fun p=>decide (p.2.2=f)with
   |some p=>N5 g p.1 p.2.1
   |none=>0))
noncomputable def kM:List Fn:=fnTab.map (·.2)++allCn.map initOf++allMeth.map (·.2.2)
theorem jF:∀f:Fn,f∈kM:=by decide +kernel
theorem o8(c:Cn):c∈allCn:=by cases c <;> decide
noncomputable def lN(g:bI):Frag:=((mainGlobals::allCn.map (caG g))++allCn.map (fun c=>nsAt g (caG g c))++kM.map (faG g)).filterMap fun a=>(g a).map fun o=>(a,o)
theorem B7{g:bI}{a:Addr}{o:Obj}(h:(lN g).lookup a=some o):g a=some o:=by
 unfold lN at h
 generalize (mainGlobals::allCn.map (caG g))++allCn.map (fun c=>nsAt g (caG g c))++kM.map (faG g)=l at h
 induction l with
 |nil=>cases h
 |cons b l ih =>
  rw [List.filterMap_cons]at h
  cases hb:g b with
  |none=>rw [hb]at h;exact ih h
  |some x =>
   rw [hb]at h
   simp only [Option.map_some,List.lookup_cons]at h
   split at h
   ·rename_i e;cases h;rw [eq_of_beq e];exact hb
   ·exact ih h
noncomputable def X9:Value→Bool
 |.none=>true
 |_=>false
theorem E6{v:Value}(e:X9 v=true):v = .none:=by cases v <;> first|rfl|exact aL e
noncomputable def X1(b:Bool):Value→Bool
 |.bool c=>b==c
 |_=>false
theorem H9{b:Bool}{v:Value}(e:X1 b v=true):v = .bool b:=by cases v <;> first|exact aL e|exact congrArg Value.bool (eq_of_beq e).symm
noncomputable def Co(i:Int):Value→Bool
 |.int j _=>i==j
 |_=>false
theorem i6{i:Int}{v:Value}(e:Co i v=true):∃t,v = .int i t:=by cases v <;> first|exact aL e|exact⟨_,congrArg (Value.int · _) (eq_of_beq e).symm⟩
noncomputable def EA(i:Str):Value→Bool
 |.str j _=>i==j
 |_=>false
theorem R8{i:Str}{v:Value}(e:EA i v=true):∃t,v = .str i t:=by cases v <;> first|exact aL e|exact⟨_,congrArg (Value.str · _) (eq_of_beq e).symm⟩
noncomputable def Ip:Obj→Option (List Value)
 |⟨c,none,.seq vs _,sl⟩=>if (c==.type "tuple"&&sl.size==0)=true then some vs.toList else none
 |_=>none
noncomputable def Cr:Value→Option Addr
 |.ref a=>some a
 |_=>none
theorem zK{v:Value}{a:Addr}(e:Cr v=some a):v = .ref a:=by cases v <;> first|exact aF e|exact congrArg Value.ref (Option.some.inj e)
noncomputable def vTup(g:bI)(v:Value):Option (List Value):=(Cr v).bind fun a=>(g a).bind Ip
mutual
noncomputable def O4(g:bI):D→Value→Bool
 |.none,v=>X9 v
 |.bool b,v=>X1 b v
 |.int i,v=>Co i v
 |.str s,v=>EA s v
 |.tup l,v=>(match vTup g v with
  |some vs=>zR g l vs
  |none=>false)
 |.lst _,_=>false
 |.dct _ _,_=>false
 |.rng _ _,_=>false
 |.inst _ _,_=>false
 |.ty _,_=>false
noncomputable def zR(g:bI):List D→List Value→Bool
 |[],vs=>vs.isEmpty
 |d::l,vs=>(match vs with
  |[]=>false
  |v::vs=>O4 g d v&&zR g l vs)
end
noncomputable def Fv:Value→Option Str
 |.str x _=>some x
 |_=>none
theorem R0{v:Value}{x:Str}(e:Fv v=some x):∃t,v = .str x t:=by cases v <;> first|exact aF e|exact⟨_,congrArg (Value.str · _) (Option.some.inj e)⟩
noncomputable def Gu:Data→Option (Array Value)
 |.fields vs=>some vs
 |_=>none
theorem W2{d:Data}{x:Array Value}(e:Gu d=some x):d = .fields x:=by cases d <;> first|exact aF e|exact congrArg Data.fields (Option.some.inj e)
noncomputable def fnO:Data→Option FuncData
 |.func f=>some f
 |_=>none
theorem DF{d:Data}{x:FuncData}(e:fnO d=some x):d = .func x:=by cases d <;> first|exact aF e|exact congrArg Data.func (Option.some.inj e)
noncomputable def ooB(f:Value→Bool):Option (Option Value)→Bool
 |none=>false
 |some o=>(match o with
  |none=>false
  |some v=>f v)
theorem I4{f:Value→Bool}{o:Option (Option Value)}(h:ooB f o=true):∃v,o=some (some v)∧f v=true:=by
 cases o with
 |none=>exact aL h
 |some o=>cases o with
  |none=>exact aL h
  |some v=>exact⟨v,rfl,h⟩
noncomputable def AD(g:bI)(cd:Value)(q:Str):Bool:=((Cr cd).bind fun c=>(g c).bind fun o=>(Gu o.data).bind fun vs=>(vs[1]?:Option Value).bind Fv)==some q
noncomputable def fnG(g:bI)(f:Fn):Option FuncData:=(g (faG g f)).bind fun o=>fnO o.data
noncomputable def dfB(g:bI)(v:Value):List D→Bool
 |[]=>v==.none
 |d::l=>O4 g (.tup (d::l)) v
noncomputable def fnT(g:bI)(f:Fn):Option FuncData→Bool
 |none=>false
 |some fd=>fd.globals==mainGlobals&&(fd.closure.isEmpty&&(fd.builtins==builtinsNs&&(AD g fd.code fd.qualname&&dfB g fd.defaults (dfltOf f))))
noncomputable def fnB(g:bI)(f:Fn):Bool:=fnT g f (fnG g f)
noncomputable def kdB(K:Frag)(x:Option (Option Value)):Option Int→Bool
 |none=>true
 |some i=>ooB (fun v=>Co i v&&specialIn K v "__get__"==some none) x
noncomputable def JH(g:bI)(K:Frag)(c:Cn):Bool :=
 hasDictIn K (caG g c)&&findIn K (.ref (caG g c)) "__getattribute__"==some (some (.builtin "object.__getattribute__"))&&findIn K (.ref (caG g c)) "__setattr__"==some (some (.builtin "object.__setattr__"))&&plainOver K (caG g c) &&
 (fields c).all (fun x=>findIn K (.ref (caG g c)) x==some none&&takerIn K (caG g c) x==some none) &&
 kdB K (findIn K (.ref (caG g c)) "kind") (kindOf c) &&
 (methL c).all (fun p=>findIn K (.ref (caG g c)) p.1==some (some (.ref (faG g p.2))))&&findIn K (.ref (caG g c)) "__init__"==some (some (.ref (faG g (initOf c))))&&findIn K (.ref (caG g c)) "__getattr__"==some none&&makesIn K (caG g c)&&keepIn K (.ref (caG g c))
noncomputable def wN(g:bI)(K:Frag):Bool :=
 allCn.all (JH g K)&&fnTab.all (fun p=>nsIn K mainGlobals p.1==some (some (.ref (faG g p.2))))&&clsTab.all (fun p=>nsIn K mainGlobals p.1==some (some (.ref (caG g p.2)))) &&
 biTab.all (fun p=>nsIn K mainGlobals p.1==some none)&&tyTab.all (fun p=>nsIn K mainGlobals p.1==some none) &&
 kM.all (fun f=>keepIn K (.ref (faG g f))&&typeIn K (.ref (faG g f))==some (.type "function")&&fnB g f) &&
 (g sysModules).isSome&&xD.all (fun p=>ooB (O4 g p.2) (nsIn K mainGlobals p.1))
noncomputable def oU(g:bI):List (Option (Arguments × FuncBody × Scope)):=kM.map fun f=>(fnG g f).map fun fd=>(fd.params,fd.body,fd.scope)
noncomputable def kA:List (Option (Arguments × FuncBody × Scope)):=kM.map fun f=>some (bD f,.stmts (eF f),scopeOf f)
theorem CH:kM.all (fun f=>J5 f&&decide ((dfltOf f).length≤(argNames f).length))=true:=by decide +kernel
theorem G4 {g:bI}{h:Heap}(hk:∀b o,g b=some o→h.get? b=some o) {a:Addr}{c:Value}{vs:Array Value}{n:Nat}{sl:Array (Option Value)}(hg:g a=some ⟨c,none,.seq vs n,sl⟩) (hc:c = .type "tuple") (hs:sl.size=0):h.get? a=some {cls:=.type "tuple",data:=.seq vs n}:=by
 subst hc
 rw [hk _ _ hg,Array.eq_empty_of_size_eq_zero hs]
theorem V1{g:bI}{h:Heap}(hk:∀b o,g b=some o→h.get? b=some o){v:Value}{l:List Value}(e:vTup g v=some l):∃a,v = .ref a∧gW h a "tuple" l:=by
 obtain⟨a,ea,e⟩:=Option.bind_eq_some_iff.mp e
 obtain⟨⟨c,d,dt,sl⟩,hg,e⟩:=Option.bind_eq_some_iff.mp e
 obtain rfl:=zK ea
 cases d <;> first|exact aF e|skip
 cases dt <;> first|exact aF e|skip
 rename_i vs n
 have e:(if (c==.type "tuple"&&sl.size==0)=true then some vs.toList else none)=some l:=e
 by_cases z:(c==.type "tuple"&&sl.size==0)=true
 ·rw [if_pos z]at e
  have z:=anp z
  obtain rfl:=Option.some.inj e
  exact⟨a,rfl,n,by rw [Array.toArray_toList];exact G4 hk hg (eq_of_beq z.1) (eq_of_beq z.2)⟩
 ·rw [if_neg z]at e;exact aF e
mutual
theorem sX{W:Wd}{g:bI}{h:Heap}(hk:∀b o,g b=some o→h.get? b=some o):∀{d:D}{v:Value},O4 g d v=true→Rep W h [] d v
 |.none,_,e=>E6 e
 |.bool _,_,e=>H9 e
 |.int _,_,e=>i6 e
 |.str _,_,e=>R8 e
 |.tup l,v,e=>by
  have e2:(match vTup g v with
   |some vs=>zR g l vs
   |none=>false)=true:=e
  clear e
  cases q:vTup g v with
  |none=>rw [q]at e2;exact aL e2
  |some vs =>
   rw [q]at e2
   obtain⟨a,rfl,z⟩:=V1 hk q
   refine(?_:Exists _);exact⟨a,vs,rfl,nofun,z,vD hk e2⟩
 |.lst _,_,e=>aL e
 |.dct _ _,_,e=>aL e
 |.rng _ _,_,e=>aL e
 |.inst _ _,_,e=>aL e
 |.ty _,_,e=>aL e
theorem vD{W:Wd}{g:bI}{h:Heap}(hk:∀b o,g b=some o→h.get? b=some o):∀{l:List D}{vs:List Value},zR g l vs=true→bT W h [] l vs
 |[],_,e=>List.isEmpty_iff.mp e
 |d::l,vs,e=>by
  cases vs with
  |nil=>exact aL e
  |cons v vs =>
   have e:=anp e
   exact⟨v,vs,rfl,sX hk e.1,vD hk e.2⟩
end
noncomputable def B5(w:World)(g:bI)(h:Heap):Wd:=⟨PySem.Challenge.pw_sq0078_01,w,lN g,h,caG g,faG g⟩
theorem U9{g:bI}{h:Heap}(hk:∀b o,g b=some o→h.get? b=some o){cd:Value}{q:Str}(e:AD g cd q=true):h.CodeRec cd q:=by
 have e:=eq_of_beq e
 obtain⟨c,r1,e⟩:=Option.bind_eq_some_iff.mp e
 obtain⟨o,r2,e⟩:=Option.bind_eq_some_iff.mp e
 obtain⟨vs,r3,e⟩:=Option.bind_eq_some_iff.mp e
 obtain⟨v,r4,e⟩:=Option.bind_eq_some_iff.mp e
 obtain⟨t,rfl⟩:=R0 e
 exact⟨c,o,vs,t,zK r1,hk _ _ r2,W2 r3,r4⟩
theorem S0{w:World}{g:bI}{h:Heap}(hk:∀b o,g b=some o→h.get? b=some o)(h1:wN g (lN g)=true)(h2:oU g=kA)(top:∃p loose mg mb,TopRead p loose mg mb h):aG (B5 w g h):=by
 obtain⟨h1,c8⟩:=anp h1
 obtain⟨h1,c7⟩:=anp h1
 obtain⟨h1,c6⟩:=anp h1
 obtain⟨h1,c5⟩:=anp h1
 obtain⟨h1,c4⟩:=anp h1
 obtain⟨h1,c3⟩:=anp h1
 obtain⟨c1,c2⟩:=anp h1
 obtain⟨om,c7⟩:=Option.isSome_iff_exists.mp c7
 have hc:∀c,_:=fun c=>anp (List.all_eq_true.mp c1 c (o8 c))
 have hf:∀f,_:=fun f=>anp (List.all_eq_true.mp c6 f (jF f))
 have X:(lN g).In h:=fun a o e=>hk _ _ (B7 e)
 have hch:=List.all_eq_true.mp CH
 simp only [Bool.and_eq_true,decide_eq_true_eq]at hch
 refine⟨⟨X,top,⟨om,hk _ _ c7⟩,fun x d e=>?_⟩,⟨fun c=>?_,fun c=>?_,fun c=>?_,fun c=>?_,fun c x hx=>?_,fun c i hi=>?_⟩,⟨fun p hp=>?_,fun p hp=>?_,fun p hp=>?_,fun p hp=>?_,fun c p hp=>?_,fun c=>?_,fun c=>?_,fun c=>?_,fun c=>?_⟩,fun f=>⟨?_,(hch f (jF f)).1,(hch f (jF f)).2,?_,?_⟩⟩
 ·obtain⟨v,hv,z⟩:=I4 (List.all_eq_true.mp c8 _ (eO e))
  exact⟨v,hv,sX hk z⟩
 ·exact(anp (anp (anp (anp (anp (anp (anp (anp (anp (hc c).1).1).1).1).1).1).1).1).1).1
 ·exact eq_of_beq (anp (anp (anp (anp (anp (anp (anp (anp (anp (hc c).1).1).1).1).1).1).1).1).1).2
 ·exact eq_of_beq (anp (anp (anp (anp (anp (anp (anp (anp (hc c).1).1).1).1).1).1).1).1).2
 ·exact(anp (anp (anp (anp (anp (anp (anp (hc c).1).1).1).1).1).1).1).2
 ·have:=anp (List.all_eq_true.mp (anp (anp (anp (anp (anp (anp (hc c).1).1).1).1).1).1).2 x hx)
  exact⟨eq_of_beq this.1,eq_of_beq this.2⟩
 ·have:=(anp (anp (anp (anp (anp (hc c).1).1).1).1).1).2
  rw [hi]at this
  obtain⟨v,e1,e2⟩:=I4 this
  obtain⟨t,rfl⟩:=i6 (anp e2).1
  exact⟨t,e1,eq_of_beq (anp e2).2⟩
 ·exact eq_of_beq (List.all_eq_true.mp c2 p hp)
 ·exact eq_of_beq (List.all_eq_true.mp c3 p hp)
 ·exact eq_of_beq (List.all_eq_true.mp c4 p hp)
 ·exact eq_of_beq (List.all_eq_true.mp c5 p hp)
 ·exact eq_of_beq (List.all_eq_true.mp (anp (anp (anp (anp (hc c).1).1).1).1).2 p hp)
 ·exact eq_of_beq (anp (anp (anp (hc c).1).1).1).2
 ·exact eq_of_beq (anp (anp (hc c).1).1).2
 ·exact(anp (hc c).1).2
 ·exact(hc c).2
 ·have hfn:=(hf f).2
  have hs:=List.map_inj_left.mp (show List.map _ kM=List.map _ kM from h2) f (jF f)
  cases hg:fnG g f with
  |none=>exact aL ((show fnT g f none=true from Eq.substr (p:=fun o=>fnT g f o=true) hg.symm hfn))
  |some fd =>
   have hfn:fnT g f (some fd)=true:=Eq.substr (p:=fun o=>fnT g f o=true) hg.symm hfn
   have hs:=Option.some.inj ((congrArg (Option.map fun fd=>(fd.params,fd.body,fd.scope)) hg).symm.trans hs)
   obtain⟨f1,hfn⟩:=anp hfn
   obtain⟨f2,hfn⟩:=anp hfn
   obtain⟨f3,hfn⟩:=anp hfn
   obtain⟨f4,f5⟩:=anp hfn
   obtain⟨o,g1,g2⟩:=Option.bind_eq_some_iff.mp hg
   refine⟨o,fd,hk _ _ g1,DF g2,congrArg (·.1) hs,congrArg (·.2.1) hs,congrArg (·.2.2) hs,eq_of_beq f1,List.isEmpty_iff.mp f2,eq_of_beq f3,U9 hk f4,?_⟩
   cases hd:dfltOf f with
   |nil=>exact .inl ⟨rfl,eq_of_beq (show dfB g fd.defaults []=true from Eq.substr (p:=fun o=>dfB g fd.defaults o=true) hd.symm f5)⟩
   |cons d0 l =>
    obtain⟨T,vs,e1,_,⟨n,e2⟩,e3⟩:=sX (W:=B5 w g h) hk (show dfB g fd.defaults (d0::l)=true from Eq.substr (p:=fun o=>dfB g fd.defaults o=true) hd.symm f5)
    exact .inr ⟨T,n,vs,e1,e2,e3⟩
 ·exact(anp (hf f).1).1
 ·exact eq_of_beq (anp (hf f).1).2
end
section
set_option tactic.hygienic true
open PySem PySem.W PySem.Calls PyProof.Rows
noncomputable abbrev pw:Program:=PySem.Challenge.pw_sq0078_01
noncomputable def yB:Program:={pw with main:={pw.main with body:=(pw.main.body.drop 119).take 1}}
noncomputable def hZ:List Str:=pw.boundNames.filter fun n=>!(n==("law" : Str))
noncomputable def lH(s:SharedT):bI:=fun a=>match Nat.blt a s.n with
 |true=>(match s.tree.get a with
  |some o=>alive o
  |none=>none)
 |false=>none
theorem F0{s:SharedT}{a:Addr}{o:Obj}(h:lH s a=some o):s.abs.heap.get? a=some o:=by
 unfold lH at h
 split at h
 ·rename_i hb
  split at h
  ·rename_i o' ho
   exact(abs_get (by simpa [Nat.blt_eq]using hb) ho).trans h
  ·cases h
 ·cases h
noncomputable def nX(P:Params)(n:Nat)(s:SharedT) :=
 (((boot_heap P).isNs mainGlobals&&((Array.mk []:Array GenState).size==0),(boot_heap P).nsMap mainGlobals "__annotations__"),
  (staticsOk (importedModules pw.main.body) (boot_heap P) s.abs.heap&&namesBound pw s.abs.heap&&gensDone s.abs&&laidKept (boot_heap P) s.abs.heap),
  openSeen yB hZ (importedModules pw.main.body) (fun _=>true) true s.abs)
noncomputable def oQ(_:Params)(_:Nat)(s:SharedT):=(wN (lH s) (lN (lH s)),oU (lH s))
noncomputable def gO{α:Type}(ob:Params→Nat→SharedT→α)(w:World)(os:OsState):Option α:=match layT (boot_heap w.params).objs.toList 0 .nil with
 |some (T,n)=>(zI pw w n (some (.ref 6)) 20000 ⟨T,n,(boot_heap w.params).life,Array.mk [],boot_drawn,boot_toks,os⟩ (topStub pw)).map fun(s:SharedT)=>ob w.params n s
 |none=>none
noncomputable def kX:=((true,some (Value.ref 6)),true,openGood yB hZ)
theorem yH(w:World)(os:OsState):gO nX (w.withFollow "special-get-raises" false) os=some kX:=by
 kernel_rfl
theorem wE(w:World)(os:OsState):gO oQ (w.withFollow "special-get-raises" false) os=some (true,kA):=by
 kernel_rfl
end
section
set_option tactic.hygienic true
open PySem PySem.W PySem.Calls PyProof.Rows
theorem m4(w:World)(os:OsState):gO nX (w.withFollow "special-get-raises" true) os=some kX:=by
 kernel_rfl
theorem yA(w:World)(os:OsState):gO oQ (w.withFollow "special-get-raises" true) os=some (true,kA):=by
 kernel_rfl
theorem F4(w:World)(os:OsState):gO nX w os=some kX∧gO oQ w os=some (true,kA):=by
 have e:=World.withFollow_self w "special-get-raises"
 cases hb:w.params.followText "special-get-raises" <;> rw [hb]at e <;> rw [←e]
 ·exact⟨yH w os,wE w os⟩
 ·exact⟨m4 w os,yA w os⟩
def g6(s:Shared):Prop:=∃g:bI,(∀b o,g b=some o→s.heap.get? b=some o)∧wN g (lN g)=true∧oU g=kA
def lawKept(h:Heap):Prop:=∃g:bI,(∀b o,g b=some o→h.get? b=some o)∧wN g (lN g)=true∧oU g=kA
theorem vT:opening pw=plainProg pw.main.scope.names:=by kernel_rfl
theorem left:LeftO pw yB hZ (fun _=>true) g6 (fun _=>True) 20000:=by
 intro w
 obtain⟨⟨h,gs,d,k,os⟩,h1,h2⟩:=Option.map_eq_some_iff.mp (boot_open (p:=pw) (N:=20000) vT rfl (fun s=>by kernel_rfl) w)
 simp only [Prod.mk.injEq]at h2
 obtain⟨rfl,rfl,rfl,rfl⟩:=h2
 obtain⟨hr,hr2⟩:=F4 w os
 unfold gO at hr hr2
 cases hl:layT (boot_heap w.params).objs.toList 0 .nil with
 |none=>rw [hl]at hr;cases hr
 |some Tn =>
  obtain⟨T,n⟩:=Tn
  rw [hl]at hr
  rw [hl]at hr2
  obtain⟨s,hs,ho⟩:=Option.map_eq_some_iff.mp hr
  obtain⟨s',hs',ho'⟩:=Option.map_eq_some_iff.mp hr2
  obtain rfl:=Option.some.inj (hs.symm.trans hs')
  obtain⟨o5,o6⟩:=Prod.mk.inj (show(wN (lH s) (lN (lH s)),oU (lH s))=(true,kA)from ho')
  have hab:=vE (life:=(boot_heap w.params).life) (pre:=[]) rfl hl
  rw [List.nil_append,Array.toArray_toList]at hab
  have hn:(boot_heap w.params).objs.size=n:=by
   have:=congrArg (fun h=>h.objs.size) hab
   simpa only [absHeap_size]using this.symm
  rw [←zA]at hs
  have ht:=qM hs
  have habs:(SharedT.abs ⟨T,n,(boot_heap w.params).life,Array.mk [],boot_drawn,boot_toks,os⟩)=⟨boot_heap w.params,Array.mk [],boot_drawn,boot_toks,os⟩:=by
   unfold SharedT.abs
   rw [hab]
  rw [habs]at ht
  unfold nX kX at ho
  simp only [Prod.mk.injEq]at ho
  obtain⟨⟨o1,o2⟩,o3,o4⟩:=ho
  have t:topFrom treeTable pw w 20000 ⟨boot_heap w.params,Array.mk [],boot_drawn,boot_toks,os⟩=some s.abs:=by
   unfold topFrom
   dsimp only
   rw [o1,hn,o2,ht]
   show(match staticsOk (importedModules pw.main.body) (boot_heap w.params) s.abs.heap&&namesBound pw s.abs.heap&&gensDone s.abs&&laidKept (boot_heap w.params) s.abs.heap with|true=>_|false=>_)=_
   rw [o3]
  unfold openEnds
  rw [h1]
  show(topFrom treeTable pw w 20000 _).map _=_
  rw [t]
  show some (openSeen _ _ _ _ _ _,g6 _)=_
  rw [o4]
  exact congrArg (fun p=>some (openGood yB hZ,p)) (eq_true ⟨lH s,fun b o=>F0,o5,o6⟩)
end
section
set_option tactic.hygienic true
open PySem PySem.W PySem.W.Fast PyProof.Rows
noncomputable abbrev G8:OpenLaw:=PySem.Challenge.rw_sq0078_01
theorem CV:tw17960256430627541270 (tw2368527892694137696 G8)=true:=by kernel_rfl
theorem Bv:tw9446332074065402090 G8=true:=by
 delta tw9446332074065402090
 iterate 18 (refine look_both ?_ (by kernel_rfl))
 exact CV
theorem law_ws:PySem.Challenge.rw_sq0078_01.wellSaid=true:=(congrFun te9446332074065402090 G8).trans Bv
end
section
theorem map_cons{α:Type}{f:α→D}{d:D}{ds:List D}{l:List α}{P:List α→D→List D→Prop}(e:d::ds=l.map f)(h:∀x r,P (x::r) (f x) (r.map f)):P l d ds:=by
 cases l with
 |nil=>exact bV e
 |cons x r=>obtain⟨rfl,rfl⟩:=List.cons.inj e;exact h x r
theorem map_nil{α:Type}{f:α→D}{l:List α}(e:[]=l.map f):l = []:=List.map_eq_nil_iff.mp e.symm
theorem dA{d:D}{ds:List D}{i:Int}{j:Nat}{P:Nat→D→List D→Prop}(e:d::ds=aV i j)(h:∀k,P (k+1) (.int i) (aV (i+1) k)):P j d ds:=by
 cases j with
 |zero=>exact bV e
 |succ k=>obtain⟨rfl,rfl⟩:=List.cons.inj e;exact h k
theorem R1{α:Sort _}{R:α→Prop}{a b:α}(e:a=b)(h:R b):R a:=e▸h
theorem R2{α β:Sort _}{R:α→β→Prop}{a b:α}{c d:β}(e:a=b)(f:c=d)(h:R b d):R a c:=e▸f▸h
theorem R3{α β γ:Sort _}{R:α→β→γ→Prop}{a b:α}{c d:β}{x y:γ}(e:a=b)(f:c=d)(g:x=y)(h:R b d y):R a c x:=e▸f▸g▸h
noncomputable def okK(κ:Ks)(t:Expr):Bool:=match nm t with
 |some x=>kIs κ x kSt
 |none=>match tupE t with
  |some es=>yL κ es
  |none=>false
theorem I8{env:Env}{κ:Ks}(he:∀x,env.kindOf x=lk x κ){t:Expr}(h:okK κ t=true):okT env t=true:=by
 unfold okK at h
 unfold okT
 cases q:nm t with
 |some x=>rw [q]at h;exact iC he h
 |none =>
  rw [q]at h
  cases q2:tupE t with
  |some es=>rw [q2]at h;exact tA he h
  |none=>rw [q2]at h;exact aL h
inductive rowT(a:Addr)(l:List V)(M:Led)(K:List D→Led→Prop):Prop
 |mk (ds:List D) (M':Led) (h:fzs l=some ds) (e:drop a M=M') (k:K ds M')
def gN(M:Led)(v:V)(K:List D→Led→Prop):Prop:=match v with
 |.fz d=>(match d with
  |.tup l=>K l M
  |.lst l=>K l M
  |.rng lo hi=>(-1000000000≤lo∧lo≤1000000000∧-1000000000≤hi∧hi≤1000000000)∧K (aV lo (hi-lo).toNat) M
  |_=>False)
 |.loc a=>atC M a fun c=>q9 c fun l=>rowT a l M K
theorem dW{M:Led}{v:V}{K:List D→Led→Prop}(h:gN M v K):∃ds M2,mV M v=some (ds,M2)∧K ds M2:=by
 cases v with
 |fz d =>
  cases d <;> first|exact h.elim|skip
  ·exact⟨_,_,rfl,h⟩
  ·exact⟨_,_,rfl,h⟩
  ·exact⟨_,_,if_pos h.1,h.2⟩
 |loc a =>
  obtain⟨l,e,ds,M',h1,h2,h3⟩:=iM h
  exact⟨ds,drop a M,D0 e h1,h2▸h3⟩
noncomputable def yC(J:Loc→Led→Prop)(Q:bG):bG:=fun f m M=>match f with
 |.next=>Fz J m M
 |.cont=>Fz J m M
 |.brk=>Fz (Q .next) m M
 |.ret v=>Q (.ret v) m M
section
variable{W:Wd}{n:Nat}{env:Env}{m:Loc}{M:Led}{Q:bG}{κ:Ks}
theorem Fz.next{J P:Loc→Led→Prop}{l:Loc}{N:Led}(q:Fz J l N){Y:List Addr}{s s':Shared}{Q:bG}{f:Fl}{x:Flow}(hf:rE W s'.heap (Y++foot N) f x)(hx:f = .next∨f = .cont∨f = .brk)(me:Mem W Y N s'.heap)(fr:Frm W Y (Y++foot N) env l s'.heap)(st:Step (Mine.fr env++foot M) (Mine.fr env++foot N) s s')(h:∀m M,J m M→Q f m M):ResS W Y env M s Q x s':=by
 obtain⟨m2,M2,q,me2,f2,st2,_,_⟩:=q.run me fr
 refine⟨f,m2,M2,h _ _ q,?_,me2,f2,st.trans st2⟩
 rcases hx with rfl|rfl|rfl <;> exact hf
theorem pD{J:Loc→Led→Prop}{body:List Stmt}(h:TSs W n env body m (yC J Q) M):TSs W n env body m (fun f m'' M''=>match f with | .next | .cont=>J m'' M'' | .brk=>Q .next m'' M'' | .ret v=>Q (.ret v) m'' M'') M:=fun A Y s g me f =>
 wpAny_mono (h A Y s g me f) (fun x s1 hp1=>by
  obtain⟨fl,m',M',q,r,me',f',st⟩:=hp1
  cases fl with
  |next=>exact Fz.next (P:=J) (show Fz J m' M' from q) r (.inl rfl) me' f' st fun _ _ h=>h
  |cont=>exact Fz.next (P:=J) (show Fz J m' M' from q) r (.inr (.inl rfl)) me' f' st fun _ _ h=>h
  |brk=>exact Fz.next (P:=J) (show Fz (Q .next) m' M' from q) r (.inr (.inr rfl)) me' f' st fun _ _ h=>h
  |ret v=>exact⟨.ret v,m',M',q,r,me',f',st⟩) fun _ _ x=>x
theorem cA(he:env.scope.names=κ):∀x,env.kindOf x=lk x κ:=fun x=>by unfold Env.kindOf;rw [he];exact dD κ
theorem lL{T:Tk}(a:aG T.W)(he:T.env.scope.names=T.κ){x:Expr}{Q:aJ}(h:mE aU T m x Q M):TE T.W T.n T.env m x Q M :=
 (kG (n:=T.n) (m:=m) a (fun x h=>by rw [cA he];exact h) 40).E _ _ _ h
theorem HO{T:Tk}(a:aG T.W)(he:T.env.scope.names=T.κ){x:Expr}{Q:Bool→Led→Prop}(h:mB aU T m x Q M):TB T.W T.n T.env m x Q M :=
 (kG (n:=T.n) (m:=m) a (fun x h=>by rw [cA he];exact h) 40).B _ _ _ h
theorem C7{T:Tk}(a:aG T.W)(he:T.env.scope.names=T.κ){sts:List Stmt}(h:sv aU T 60 sts m Q M):TSs T.W T.n T.env sts m Q M :=
 zP (n:=T.n) a (cA he) 60 _ _ _ _ h
theorem aX{T:Tk}(a:aG T.W)(he:T.env.scope.names=T.κ)(J:List D→Loc→Led→Prop){target iter:Expr}{body:List Stmt}{pos:Pos}(hT:okK T.κ target=true)(hi:∀x,foldedSetIterable iter T.env x=pure x)
  (h:mE aU T m iter (fun v M1=>gN M1 v fun ds M2=>J ds m M2) M)
  (turn:let J1:=J;let Q1:=fun ds=>yC (J1 ds) Q;∀d ds m M,J1 (d::ds) m M→let m1:=m;cB (uS target d m1) fun m'=>sv aU T 60 body m' (Q1 ds) M)
  (done:∀m M,J [] m M→Q .next m M):Lf (TS T.W T.n T.env (.For target iter body [] pos) m Q M) :=
 ⟨Ax J (I8 (cA he) hT) hi (Tr.mono (lL a he h) fun v M1 q=>dW q) (fun d ds m M hj=>by
  obtain⟨m',e,q⟩:=bB (turn d ds m M hj)
  exact⟨m',e,pD (C7 a he q)⟩) done⟩
theorem cJ{T:Tk}(a:aG T.W)(he:T.env.scope.names=T.κ)(I:Nat→Loc→Led→Prop){test:Expr}{body:List Stmt}{pos:Pos}{k:Nat}(h:I k m M)
  (turn:let I1:=I;let Q0:=Q;let Q1:=fun k=>yC (fun m' M'=>∃j,j<k∧I1 j m' M') Q0;∀k m M,I1 k m M→let m1:=m;mB aU T m1 test (fun b M1=>bif b then sv aU T 60 body m1 (Q1 k) M1 else Q0 .next m1 M1) M):Lf (TS T.W T.n T.env (.While test body [] pos) m Q M) :=
 ⟨v9 I (fun k m M hi=>Tr.mono (HO a he (turn k m M hi)) fun b M1 q=>by
  cases b with
  |true=>exact pD (C7 a he q)
  |false=>exact q) h⟩
noncomputable def IR(P:Loc→Led→Prop)(Q:bG):bG:=fun f m M=>match f with
 |.next=>Fz P m M
 |.brk=>False
 |.cont=>False
 |.ret v=>Q (.ret v) m M
theorem cD(P:Loc→Led→Prop){st:Stmt}(h:let P1:=P;Lf (TS W n env st m (IR P1 Q) M))(k:let P1:=P;∀m M,P1 m M→Q .next m M):Lf (TS W n env st m Q M) :=
 ⟨fun A Y s g me f=>wpAny_mono (h.go A Y s g me f) (fun x s1 r=>by
  obtain⟨fl,m',M',q,r,me',f',st⟩:=r
  cases fl with
  |next=>exact Fz.next (P:=P) (show Fz P m' M' from q) r (.inl rfl) me' f' st k
  |brk=>exact q.elim
  |cont=>exact q.elim
  |ret v=>exact⟨.ret v,m',M',q,r,me',f',st⟩) fun _ _ x=>x⟩
theorem bX(m0:Loc){st:Stmt}(h:kL m0 m)(q:Lf (TS W n env st m0 Q M)):Lf (TS W n env st m Q M) :=
 ⟨fun A Y s g me f=>q.go A Y s g me (f.sub fun x v e=>h.get e)⟩
theorem jT(a:Addr)(k:Nat){c:Cell}{d:D}{st:Stmt}(hl:M.lookup a=some c)(hf:c.frz=some d)(q:Lf (TS W n env st (subL a d m) Q (eB a d k (drop a M)))):Lf (TS W n env st m Q M) :=
 ⟨fun A Y s g me f=>wpAny_mono (q.go A Y s g (me.freeze k hl hf) (f.freeze k me hl hf)) (fun x s1 ⟨fl,m',M',q,r,me',f',st⟩=>⟨fl,m',M',q,r,me',f',by
  rw [bU]at st
  exact(cX a).trans st⟩) fun _ _ x=>x⟩
theorem gF{scope:Scope}{env:Env}{C:Addr}{x:Str}(h:lk x scope.names=some .globalImplicit):(cenvOf scope env C).kindOf x=some .globalImplicit:=by
 have:=hF (fun k x=>if (k==NameKind.free&&env.scope.kind==.function&&env.kindOf x==some .cell)=true then NameKind.cell else k) (x:=x) scope.names
 show(scope.names.map fun(n,k)=>if (k==.free&&env.scope.kind==.function&&env.kindOf n==some .cell)then(n,NameKind.cell)else(n,k)).lookup x=_
 have e:(scope.names.map fun(n,k)=>if (k==.free&&env.scope.kind==.function&&env.kindOf n==some .cell)then(n,NameKind.cell)else(n,k))=scope.names.map fun p=>(p.1,if (p.2==NameKind.free&&env.scope.kind==.function&&env.kindOf p.1==some .cell)=true then NameKind.cell else p.2):=by
  apply List.map_congr_left
  rintro⟨n,k⟩ _
  dsimp only
  split <;> rfl
 rw [e,this,dD,h]
 rfl
noncomputable def cT(T:Tk)(scope:Scope)(C:Addr):Tk:=⟨T.W,T.n,cenvOf scope T.env C,scope.names⟩
def mIf(T:Tk)(m:Loc)(ifs:List Expr)(Q:Bool→Led→Prop)(M:Led):Prop:=match ifs with
 |[]=>Q true M
 |c::r=>(match r with
  |[]=>mB aU T m c Q M
  |_::_=>False)
theorem oM(a:aG W){scope:Scope}{C:Addr}{mc:Loc}{x:Expr}{Q:aJ}(h:mE aU ⟨W,n,cenvOf scope env C,scope.names⟩ mc x Q M):TE W n (cenvOf scope env C) mc x Q M :=
 (kG (n:=n) (m:=mc) a (fun x h=>gF h) 40).E _ _ _ h
theorem xL(a:aG W){scope:Scope}{C:Addr}{mc:Loc}{ifs:List Expr}{Q:Bool→Led→Prop}(h:mIf ⟨W,n,cenvOf scope env C,scope.names⟩ mc ifs Q M):TI W n (cenvOf scope env C) mc ifs Q M:=by
 rcases ifs with _|⟨c,_|⟨d,r⟩⟩
 ·exact h
 ·exact(kG (n:=n) (m:=mc) a (fun x h=>gF h) 40).B _ _ _ h
 ·exact h.elim
inductive cTK(J:List D→Led→Prop)(acc:List D)(a:Addr)(v:V)(M2:Led):Prop
 |mk (e:D) (N':Led) (h1:v = .fz e) (h2:M2=(a,.lst (acc.map .fz))::N') (h3:a∉foot N') (h4:J (acc++[e]) N')
inductive cTN(J:List D→Led→Prop)(acc:List D)(a:Addr)(M2:Led):Prop
 |mk (N':Led) (h2:M2=(a,.lst (acc.map .fz))::N') (h3:a∉foot N') (h4:J acc N')
def cTQ(T:Tk)(mc:Loc)(elt:Expr)(J:List D→Led→Prop)(acc:List D)(a:Addr)(ok:Bool)(M1:Led):Prop:=bif ok then mE aU T mc elt (cTK J acc a) M1 else cTN J acc a M1
def K6(T:Tk)(mc:Loc)(elt:Expr)(ifs:List Expr)(J:List D→Led→Prop)(acc:List D)(a:Addr)(N:Led):Prop :=
 mIf T mc ifs (cTQ T mc elt J acc a) ((a,.lst (acc.map .fz))::N)
theorem bZ{Q:aJ}{a:Addr}{ds:List D}{N:Led}(q:Q (.fz (.lst ds)) N):Gh Q (.loc a) ((a,.lst (ds.map .fz))::N) :=
 .freeze a 0 look_self (show Cell.frz _=some (.lst ds) by simp only [Cell.frz,bM,Option.map_some]) (by
  rw [aB]
  exact .done (by simpa [V.sub,iF,iI]using q))
noncomputable abbrev sP(J:List D→List D→Led→Prop):Addr→List D→List V→Led→Prop:=fun b ds acc M=>∃N as,acc=as.map .fz∧M=(b,.lst (as.map .fz))::N∧b∉foot N∧J ds as N∧as.length+ds.length≤1000000
theorem lK{cenv:Env}{mc:Loc}{ifs:List Expr}{Q Q':Bool→Led→Prop}{M:Led}(h:TI W n cenv mc ifs Q M)(k:∀b N,Q b N→Q' b N):TI W n cenv mc ifs Q' M:=by
 rcases ifs with _|⟨c,_|⟨d,r⟩⟩
 ·exact k _ _ h
 ·exact Tr.mono h k
 ·exact h
def rH(W:Wd)(n:Nat)(cenv:Env)(mc:Loc)(elt:Expr)(ifs:List Expr)(J:List D→Led→Prop)(acc:List D)(a:Addr)(N:Led):Prop :=
 TI W n cenv mc ifs (fun ok M1=>if ok then TE W n cenv mc elt (cTK J acc a) M1 else cTN J acc a M1) ((a,.lst (acc.map .fz))::N)
theorem zS(a:aG W){scope:Scope}{C b:Addr}{mc:Loc}{elt:Expr}{ifs:List Expr}{J:List D→Led→Prop}{acc:List D}{N:Led}(h:K6 ⟨W,n,cenvOf scope env C,scope.names⟩ mc elt ifs J acc b N):rH W n (cenvOf scope env C) mc elt ifs J acc b N :=
 lK (xL a h) fun ok M1 q=>by
  cases ok with
  |false=>exact q
  |true=>exact oM a (show mE _ _ _ _ _ _ from q)
theorem jN{scope:Scope}{C b:Addr}{elt:Expr}{ifs:List Expr}{x:Str}{m0:Loc}(J:List D→List D→Led→Prop)
  (turn:∀d ds acc N,b∉foot N→J (d::ds) acc N→rH W n (cenvOf scope env C) (bE x (.fz d) m0) elt ifs (J ds) acc b N) {d:D}{ds:List D}{acc:List V}{M:Led}(h:sP J b (d::ds) acc M) :
  TI W n (cenvOf scope env C) (bE x (.fz d) m0) ifs (fun ok M1=>if ok then TE W n (cenvOf scope env C) (bE x (.fz d) m0) elt (fun v M2=>M2.lookup b=some (.lst acc)∧acc.length≤1000000∧sP J b ds (acc++[v]) (put M2 b (.lst (acc++[v])))) M1 else sP J b ds acc M1) M:=by
 obtain⟨N,as,rfl,rfl,h1,h2,h3⟩:=h
 have h3:as.length+(ds.length+1)≤1000000:=h3
 refine lK (turn d ds as N h1 h2) fun ok M1 q=>?_
 cases ok with
 |false =>
  obtain⟨N',rfl,q1,q2⟩:=q
  exact⟨N',as,rfl,rfl,q1,q2,by exact wF ‹_›⟩
 |true =>
  refine Tr.mono q fun v M2 hp1=>?_
  obtain⟨e,N',hv,hM,q1,q2⟩:=hp1
  subst hv hM
  refine⟨look_self,by rw [List.length_map];exact ar_l ‹_› (by decide),N',as++[e],by simp,by rw [aC];simp,q1,q2,by simp;exact pU ‹_›⟩
theorem pS{T:Tk}(a:aG T.W)(he:T.env.scope.names=T.κ)(J:List D→List D→Led→Prop){elt iter:Expr}{x:Str}{px:Pos}{ifs:List Expr}{scope:Scope}{pos:Pos}{Q:aJ}(hc:bK T.κ scope x=true)(hs:∀x,foldedSetIterable iter T.env x=pure x)
  (h:mE aU T m iter (fun v M1=>gN M1 v fun ds M2=>ds.length≤1000000∧J ds [] M2) M)
  (turn:∀C b d ds acc N,b∉foot N→J (d::ds) acc N→rH T.W T.n (cenvOf scope T.env C) (bE x (.fz d) (dR scope.names m)) elt ifs (J ds) acc b N)
  (done:∀b acc N,b∉foot N→J [] acc N→Gh Q (.loc b) ((b,.lst (acc.map .fz))::N)):Lf (TE T.W T.n T.env m (.ListComp elt [⟨.Name x px,iter,ifs,0⟩] scope pos) (Gh Q) M) :=
 ⟨tR a.wk (sP J) (by rw [he];exact hc) hs (Tr.mono (lL a he h) fun v M1 q=>by
  obtain⟨ds,M2,e,hl,hj⟩:=dW q
  exact⟨ds,M2,e,fun b hb=>⟨M2,[],rfl,rfl,hb,hj,by simpa using hl⟩⟩) (fun C b d ds acc M hj=>jN J (turn C b) hj) fun b acc M hp1=>by
   obtain⟨N,as,e1,e2,h1,h2,_⟩:=hp1
   subst e1 e2
   exact done _ _ _ h1 h2⟩
theorem zN{T:Tk}(a:aG T.W)(he:T.env.scope.names=T.κ)(J:List D→List D→Led→Prop){elt iter:Expr}{x:Str}{px:Pos}{ifs:List Expr}{scope:Scope}{pos:Pos}{Q:aJ}(hc:bK T.κ scope x=true)(hs:∀x,foldedSetIterable iter T.env x=pure x)
  (h:mE aU T m iter (fun v M1=>gN M1 v fun ds M2=>ds.length≤1000000∧J ds [] M2) M)
  (turn:let J1:=J;∀C b d ds acc N,b∉foot N→J1 (d::ds) acc N→let mc:=bE x (.fz d) (dR scope.names m);K6 (cT T scope C) mc elt ifs (J1 ds) acc b N)
  (done:∀b acc N,b∉foot N→J [] acc N→Gh Q (.loc b) ((b,.lst (acc.map .fz))::N)):Lf (TE T.W T.n T.env m (.ListComp elt [⟨.Name x px,iter,ifs,0⟩] scope pos) (Gh Q) M) :=
 pS a he J hc hs h (fun C b d ds acc N hb hj=>zS a (turn C b d ds acc N hb hj)) done
inductive cPK(P:List D→Prop)(acc:List D)(M:Led)(v:V)(M2:Led):Prop
 |mk (e:D) (h1:v = .fz e) (h2:M2=M) (h3:P (acc++[e]))
def cPQ(T:Tk)(mc:Loc)(elt:Expr)(P:List D→Prop)(acc:List D)(M:Led)(ok:Bool)(M1:Led):Prop:=bif ok then mE aU T mc elt (cPK P acc M) M1 else M1=M∧P acc
def zT(T:Tk)(mc:Loc)(elt:Expr)(ifs:List Expr)(P:List D→Prop)(acc:List D)(M:Led):Prop :=
 mIf T mc ifs (cPQ T mc elt P acc M) M
theorem uI(a:aG W){scope:Scope}{C b:Addr}{mc:Loc}{elt:Expr}{ifs:List Expr}{P:List D→List D→Prop}{ds acc:List D}{N:Led}(hb:b∉foot N)(h:zT ⟨W,n,cenvOf scope env C,scope.names⟩ mc elt ifs (P ds) acc ((b,.lst (acc.map .fz))::N)) :
  rH W n (cenvOf scope env C) mc elt ifs (fun acc N'=>P ds acc∧N'=N) acc b N :=
 lK (xL a h) fun ok M1 q=>by
  cases ok with
  |false=>exact⟨N,q.1,hb,q.2,rfl⟩
  |true=>exact Tr.mono (oM a (show mE _ _ _ _ _ _ from q)) fun v M2 hp1=>by obtain⟨e,h1,h2,h3⟩:=hp1;exact⟨e,N,h1,h2,hb,h3,rfl⟩
theorem mD{T:Tk}(a:aG T.W)(he:T.env.scope.names=T.κ)(P:List D→List D→Prop){elt iter:Expr}{x:Str}{px:Pos}{ifs:List Expr}{scope:Scope}{pos:Pos}{Q:aJ}(hc:bK T.κ scope x=true)(hs:∀x,foldedSetIterable iter T.env x=pure x)
  (h:mE aU T m iter (fun v M1=>gN M1 v fun ds M2=>ds.length≤1000000∧P ds []∧M2=M) M)
  (turn:let P1:=P;∀C b d ds acc,b∉foot M→P1 (d::ds) acc→let mc:=bE x (.fz d) (dR scope.names m);zT (cT T scope C) mc elt ifs (P1 ds) acc ((b,.lst (acc.map .fz))::M))
  (done:∀b acc,b∉foot M→P [] acc→Gh Q (.loc b) ((b,.lst (acc.map .fz))::M)):Lf (TE T.W T.n T.env m (.ListComp elt [⟨.Name x px,iter,ifs,0⟩] scope pos) (Gh Q) M) :=
 pS a he (fun ds acc N=>P ds acc∧N=M) hc hs h (fun C b d ds acc N hb hj=>by
  obtain⟨hp,rfl⟩:=hj
  exact uI a hb (turn C b d ds acc hb hp)) fun b acc N hb hp1=>by obtain⟨hp,e⟩:=hp1;subst e;exact done b acc hb hp
def pO(N:Led):Loc→Prop
 |[]=>True
 |p::r=>(match p.2 with
  |.loc c=>c∈foot N
  |.fz _=>True)∧pO N r
theorem rV{b:Addr}{d:D}{N:Led}(hb:b∉foot N):∀{m:Loc},pO N m→subL b d m=m
 |[],_=>rfl
 |(k,v)::r,⟨h1,h2⟩=>by
  have ih:=rV (d:=d) hb h2
  unfold subL at ih ⊢
  rw [List.map_cons,ih]
  cases v with
  |fz e=>rfl
  |loc c =>
   have h1:c∈foot N:=h1
   have:¬c=b:=fun e=>hb (e▸h1)
   simp [V.sub,this]
theorem vG{b:Addr}{d:D}{y:Str}{v:V}:∀{m:Loc},subL b d (bE y v m)=bE y (v.sub b d) (subL b d m)
 |[]=>rfl
 |(k,u)::r=>by
  rw [dQ]
  show _=bE y (v.sub b d) ((k,u.sub b d)::subL b d r)
  rw [dQ]
  split
  ·rfl
  ·rw [←vG];rfl
theorem tH{P:Loc→Led→Prop}{b:Addr}{ds:List D}{N:Led}{y:Str}(hb:b∉foot N)(hm:pO N m)(q:Fz P (bE y (.fz (.lst ds)) m) N):Fz P (bE y (.loc b) m) ((b,.lst (ds.map .fz))::N) :=
 .frz b 0 look_self (show Cell.frz _=some (.lst ds) by simp only [Cell.frz,bM,Option.map_some]) (by
  rw [aB,vG,rV hb hm]
  simpa [V.sub,iF,iI]using q)
theorem Bo{T:Tk}(a:aG T.W)(he:T.env.scope.names=T.κ)(J:List D→List D→Led→Prop){elt iter:Expr}{y:Str}{py spos:Pos}{x:Str}{px:Pos}{ifs:List Expr}{scope:Scope}{pos:Pos}(hc:bK T.κ scope x=true)(hs:∀x,foldedSetIterable iter T.env x=pure x)(hy:kIs T.κ y kSt=true)
  (h:mE aU T m iter (fun v M1=>gN M1 v fun ds M2=>ds.length≤1000000∧J ds [] M2) M)
  (turn:let J1:=J;∀C b d ds acc N,b∉foot N→J1 (d::ds) acc N→let mc:=bE x (.fz d) (dR scope.names m);K6 (cT T scope C) mc elt ifs (J1 ds) acc b N)
  (done:∀acc N,J [] acc N→pO N m∧Fz (Q .next) (bE y (.fz (.lst acc)) m) N):Lf (TS T.W T.n T.env (.Assign [.Name y py] (.ListComp elt [⟨.Name x px,iter,ifs,0⟩] scope pos) spos) m (FzQ Q) M) :=
 ⟨jR a.wk (sP J) (by rw [he];exact hc) hs (iC (cA he) hy) (Tr.mono (lL a he h) fun v M1 q=>by
  obtain⟨ds,M2,e,hl,hj⟩:=dW q
  exact⟨ds,M2,e,fun b hb=>⟨M2,[],rfl,rfl,hb,hj,by simpa using hl⟩⟩) (fun C b d ds acc M hj=>jN J (fun d ds acc N hb hj=>zS a (turn C b d ds acc N hb hj)) hj) fun b acc M hp1=>by
   obtain⟨N,as,e1,e2,h1,h2,_⟩:=hp1
   subst e1 e2
   obtain⟨q1,q2⟩:=done _ _ h2
   exact tH h1 q1 q2⟩
end
end
section
section
variable{W:Wd}{n:Nat}{env:Env}{m:Loc}{M:Led}{Q:bG}
inductive KeyS(W:Wd)(I d:Addr)(kvs:List (Int × Value))(ep:Nat)(ds:List D)(h:Heap)(U:List Addr):Prop
 |mk (i:Nat) (e1:h.IsKeyIter I d i kvs.length ep) (e2:h.DictAt (intKind W.prog W.w) d kvs ep) (e4:d∉U) (e5:i≤kvs.length) (e6:ds=(kvs.drop i).map fun p=>.int p.1)
theorem C0{I d:Addr}(hne:d≠I){kvs:List (Int × Value)}{ep:Nat}{x:Str}{px:Pos} :
  ItP W (.Name x px) I [I] (KeyS W I d kvs ep) where
 keep ds h h' U U':=by
  rintro⟨i,e1,⟨o,es,e2,e3⟩,e4,e5,e6⟩ k kn
  exact⟨i,e1.at fun o e=>kn I (.head _) o e,⟨o,es,(k d o e2 e4).1,e3⟩,(k d o e2 e4).2,e5,e6⟩
 next:=by
  rintro A s U d' ds K hh ⟨i,e1,e2,e4,e5,e6⟩ hN hU k
  have hi:i<kvs.length:=by
   rcases Nat.lt_or_ge i kvs.length with q|q
   ·exact q
   ·rw [List.drop_eq_nil_of_le q]at e6;exact bV e6
  rw [List.drop_eq_getElem_cons hi]at e6
  cases e6
  refine(Walks.dictKeys (prog:=W.prog) (w:=W.w) (A:=A) (knd:=intKind W.prog W.w) hh I d hne kvs ep).item i s _ NoE hi ⟨e1,e2⟩ fun v h' tk hv hst hk=>⟨v,rfl,wpAny_pure ?_⟩
  obtain⟨k',x',h1,h2⟩:=hv
  rw [List.getElem?_eq_getElem hi]at h1
  have h1:=Option.some.inj h1
  obtain⟨t,rfl⟩:=Value.isInt_shape h2
  obtain⟨oi,hoi,_⟩:=id hst.1
  refine k _ h' tk hk (fun a ha=>by rw [mSp ha];exact⟨oi,hoi⟩) ⟨t,?_⟩ ⟨i+1,hst.1,hst.2,e4,hi,rfl⟩
  rw [h1]
 done:=by
  rintro A s U K hh ⟨i,e1,e2,e4,e5,e6⟩ hN k
  have hi:i=kvs.length:=by
   rcases Nat.lt_or_ge i kvs.length with q|q
   ·rw [List.drop_eq_getElem_cons q]at e6;cases e6
   ·exact Nat.le_antisymm ‹_› ‹_›
  subst hi
  exact(Walks.dictKeys (prog:=W.prog) (w:=W.w) (A:=A) (knd:=intKind W.prog W.w) hh I d hne kvs ep).done s K NoE ⟨e1,e2⟩ k
theorem qH{J:List D→Loc→Led→Prop}{T:Tk}(a:aG T.W)(he:T.env.scope.names=T.κ){target iter:Expr}{body:List Stmt}{pos:Pos}(hT:okK T.κ target=true)(hi:∀x,foldedSetIterable iter T.env x=pure x)
  (open_:∀A Y s,cF T.n A→Mem T.W Y M s.heap→Frm T.W Y (Y++foot M) T.env m s.heap→wpAny T.W.M A (eval iter T.env) (fun x s1=>wpAny T.W.M A (pyIter x) (fun it s2=>ItO T.W T.env m M Y s target J it s2) NoE s1) NoE s)
  (turn:let J1:=J;let Q1:=fun ds=>yC (J1 ds) Q;∀d ds m M,J1 (d::ds) m M→let m1:=m;cB (uS target d m1) fun m'=>sv aU T 60 body m' (Q1 ds) M)
  (done:∀m M,J [] m M→Q .next m M):Lf (TS T.W T.n T.env (.For target iter body [] pos) m Q M) :=
 ⟨f9 J (I8 (cA he) hT) hi open_ (fun d ds m M hj=>by
  obtain⟨m',e,q⟩:=bB (turn d ds m M hj)
  exact⟨m',e,pD (C7 a he q)⟩) done⟩
theorem N1{T:Tk}(a:aG T.W)(he:T.env.scope.names=T.κ)(J:List D→Loc→Led→Prop){t:Str}{pt:Pos}{iter:Expr}{body:List Stmt}{pos:Pos}(hT:okK T.κ (.Name t pt)=true)(hi:∀x,foldedSetIterable iter T.env x=pure x)
  (h:mE aU T m iter (fun v M1=>∃ks l,v = .fz (.dct ks l)∧J (ks.map .int) m M1) M)
  (turn:let J1:=J;let Q1:=fun ds=>yC (J1 ds) Q;∀d ds m M,J1 (d::ds) m M→let m1:=m;cB (uS (.Name t pt) d m1) fun m'=>sv aU T 60 body m' (Q1 ds) M)
  (done:∀m M,J [] m M→Q .next m M):Lf (TS T.W T.n T.env (.For (.Name t pt) iter body [] pos) m Q M) :=
 qH a he hT hi (fun A Y s g me f=>(lL a he h).use g me f fun x s1 v M1 hp1 rv me1 f1 t1=>by
  obtain⟨ks,l,e,hJ⟩:=hp1
  subst e
  obtain⟨d,kvs,rfl,hdU,hdS,hd,rfl,_⟩:=rv
  obtain⟨ep,hat⟩:=hd.dictAt
  refine wpAny_pyIter_dict hdS hat ?_
  have hne:d≠s1.heap.objs.size:=Nat.ne_of_lt hat.lt_size
  refine⟨M1,s1,_,[s1.heap.objs.size],_,_,rfl,C0 hne,hJ,me1,f1,t1,by simpa using cE s1.heap,fun a ha=>?_,aQ _,⟨_,_,rfl⟩,0,⟨_,Heap.get?_push_size _ rfl,rfl,rfl⟩,hat.push _,?_,Nat.zero_le _,by simp [List.map_map,Function.comp_def]⟩
  ·rw [mSp ha];exact⟨_,Heap.get?_push_size _ rfl⟩
  ·rw [List.append_assoc]
   exact fun hb=>(mAp hb).elim (fun q=>hne (mSp q)) hdU) turn done
noncomputable def sT:List Int→List D→List D
 |k::ks,d::l=>.tup [.int k,d]::sT ks l
 |_,_=>[]
inductive ItemS(W:Wd)(I d:Addr)(kvs:List (Int × Value))(ep:Nat)(ds:List D)(h:Heap)(U:List Addr):Prop
 |mk (i:Nat) (l:List D) (ok ov:Value) (e1:IsItemIter h I d i kvs.length ep ok ov) (e2:h.DictAt (intKind W.prog W.w) d kvs ep) (e4:d∉U) (e5:i≤kvs.length) (e6:bT W h U l ((kvs.drop i).map (·.2))) (e7:ds=sT ((kvs.drop i).map (·.1)) l)
theorem n6{I d:Addr}(hne:d≠I){kvs:List (Int × Value)}{ep:Nat}{es:List Expr}{k0:Nat}{p0:Pos} :
  ItP W (.Tuple es k0 p0) I [I] (ItemS W I d kvs ep) where
 keep ds h h' U U':=by
  rintro⟨i,l,ok,ov,e1,⟨o,es,e2,e3⟩,e4,e5,e6,e7⟩ k kn
  exact⟨i,l,ok,ov,kn I (.head _) _ e1,⟨o,es,(k d o e2 e4).1,e3⟩,(k d o e2 e4).2,e5,e6.keep k,e7⟩
 next:=by
  rintro A s U d' ds K hh ⟨i,l,ok,ov,e1,e2,e4,e5,e6,e7⟩ hN hU k
  have hi:i<kvs.length:=by
   rcases Nat.lt_or_ge i kvs.length with q|q
   ·exact q
   ·rw [List.drop_eq_nil_of_le q]at e7
    exact bV e7
  rw [List.drop_eq_getElem_cons hi]at e6 e7
  cases l with
  |nil=>exact bV e7
  |cons dv l =>
   cases e7
   obtain⟨x,xs,hx,r1,r2⟩:=e6
   cases hx
   refine wpAny_pyNext_items_item e1 e2 (k:=kvs[i].1) (v:=kvs[i].2) (List.getElem?_eq_getElem hi) fun key h' hkey ho hT hsz hk=>⟨_,rfl,?_⟩
   obtain⟨t,rfl⟩:=Value.isInt_shape hkey
   refine wpAny_letOwnedTupleGo_items ho fun h2 he hs=>?_
   have hIn:I≠s.heap.objs.size:=Nat.ne_of_lt (Heap.lt_size e1)
   have kk:∀b o,b≠I→s.heap.get? b=some o→h2.get? b=some o:=fun b o hb e=>(hs.2 b hb).trans (hk b o hb e)
   have kU:bA U U s.heap h2:=fun b o e n=>⟨kk b o (fun z=>n (z▸hN I (.head _))) e,n⟩
   have nU:s.heap.objs.size∉U:=fun hb=>by
    obtain⟨o,e⟩:=hU _ hb
    exact Nat.lt_irrefl _ (Heap.lt_size e)
   refine k _ h2 s.toks (fun b o hb e=>kk b o (by simpa using hb) e) (fun a ha=>by rw [mSp ha];exact⟨_,he⟩) ?_ ⟨i+1,l,_,_,he,(e2.at' fun o e=>hk d o hne e).at' fun o e=>(hs.2 d hne).trans e,e4,hi,r2.keep kU,rfl⟩
   refine(?_:Exists _);exact⟨_,_,rfl,nU,⟨_,(hs.2 _ (Ne.symm hIn)).trans hT⟩,_,_,rfl,⟨t,rfl⟩,_,_,rfl,r1.keep kU,rfl⟩
 done:=by
  rintro A s U K hh ⟨i,l,ok,ov,e1,e2,e4,e5,e6,e7⟩ hN k
  have hi:i=kvs.length:=by
   rcases Nat.lt_or_ge i kvs.length with q|q
   ·rw [List.drop_eq_getElem_cons q]at e6 e7
    cases l with
    |nil=>exact bV e6
    |cons=>cases e7
   ·exact Nat.le_antisymm ‹_› ‹_›
  subst hi
  exact wpAny_pyNext_items_end hh e1 e2 (by simp) fun h' hx=>k h' s.toks fun b o hb e=>hx b o (fun h=>hb (by simp [h])) e
theorem j7 {T:Tk}(a:aG T.W) (he:T.env.scope.names=T.κ) (J:List D→Loc→Led→Prop) {es:List Expr}{k0:Nat}{p0 px apos cpos:Pos}{x:Str}{body:List Stmt}{pos:Pos}{ks:List Int}{l:List D}(hT:okK T.κ (.Tuple es k0 p0)=true) (hx:lk x T.κ=some .local) (hd:(x==("__debug__" : Str))=false)
  (hv:lk x m=some (.fz (.dct ks l))) (hline:(apos.endLine==cpos.line)=true) (h:J (sT ks l) m M)
  (turn:let J1:=J;let Q1:=fun ds=>yC (J1 ds) Q;∀d ds m M,J1 (d::ds) m M→let m1:=m;cB (uS (.Tuple es k0 p0) d m1) fun m'=>sv aU T 60 body m' (Q1 ds) M)
  (done:∀m M,J [] m M→Q .next m M):Lf (TS T.W T.n T.env (.For (.Tuple es k0 p0) (.Call (.Attribute (.Name x px) "items" apos) [] [] cpos) body [] pos) m Q M) :=
 qH a he hT (fun _=>rfl) (fun A Y s g me f=>by
  have hk:T.env.kindOf x=some .local:=by rw [cA he];exact hx
  obtain⟨mR,hn,hm⟩:=f.ns
  obtain⟨y,hy,hr⟩:=hm x _ hv hk
  obtain⟨d,kvs,rfl,hdU,hdS,hd1,rfl,hl⟩:=hr
  obtain⟨ep,hat⟩:=hd1.dictAt
  refine wpAny_Call_items (knd:=intKind T.W.prog T.W.w) hdS hd1 rfl hline (fun Q' q=>wpAny_Name (wpAny_loadName_local f.kind hk hn hy q) hd) ?_
  refine wpAny_pyIter_items (knd:=intKind T.W.prog T.W.w) (d:=d) (kvs:=kvs) (ep:=ep) ⟨_,Heap.get?_push_size _ rfl,rfl,rfl⟩ (hat.push _) ?_
  have hsz:(s.heap.push {cls:=.type "dict_items",data:=.fields #[.ref d]}).objs.size=s.heap.objs.size+1:=Heap.size_push ..
  have hne:d≠s.heap.objs.size+1:=Nat.ne_of_lt (Nat.lt_succ_of_lt hat.lt_size)
  rw [hsz]
  have nI:s.heap.get? (s.heap.objs.size+1)=none:=Heap.get?_none_of_le (Nat.le_succ _)
  have gI:∀o:Obj,o.isFreed=false→((s.heap.push {cls:=.type "dict_items",data:=.fields #[.ref d]}).push o).get? (s.heap.objs.size+1)=some o:=fun o ho=>by rw [←hsz];exact Heap.get?_push_size _ ho
  refine⟨M,s,_,[s.heap.objs.size+1],_,_,rfl,n6 hne,h,me,f,Step.refl _ _,by simpa using nI,fun a ha=>?_,fun b o e=>Heap.get?_push_of_some _ (Heap.get?_push_of_some _ e),⟨_,_,rfl⟩,0,l,_,_,gI _ rfl,(hat.push _).push _,?_,Nat.zero_le _,?_,rfl⟩
  ·rw [mSp ha];exact⟨_,gI _ rfl⟩
  ·rw [List.append_assoc]
   exact fun hb=>(mAp hb).elim (fun q=>hne (mSp q)) hdU
  ·refine hl.keep (fun b o e nb=>⟨Heap.get?_push_of_some _ (Heap.get?_push_of_some _ e),fun hb=>?_⟩)
   rw [List.append_assoc]at hb
   rcases mAp hb with q|q
   ·rw [mSp q,nI]at e;exact aF e
   ·exact nb q) turn done
noncomputable def wV:Nat→List D→List D
 |i,d::l=>.tup [.int i,d]::wV (i+1) l
 |_,[]=>[]
inductive EnumS(W:Wd)(e it a:Addr)(items:Array Value)(ds:List D)(h:Heap)(U:List Addr):Prop
 |mk (i:Nat) (l:List D) (old:Value) (e1:IsEnum h e it i old) (e0:h.IsListIter it a i) (e2:h.IsList a items) (e4:a∉U) (e5:i≤items.size) (e6:bT W h U l (items.toList.drop i)) (e7:ds=wV i l)
theorem A6{e it a:Addr}(hei:e≠it)(hae:a≠e)(hai:a≠it){items:Array Value}{es:List Expr}{k0:Nat}{p0:Pos} :
  ItP W (.Tuple es k0 p0) e [e,it] (EnumS W e it a items) where
 keep ds h h' U U':=by
  rintro⟨i,l,old,e1,⟨oI,e0,e0'⟩,⟨o,e2,e3⟩,e4,e5,e6,e7⟩ k kn
  exact⟨i,l,old,kn e (.head _) _ e1,⟨oI,kn it (.tail _ (.head _)) _ e0,e0'⟩,⟨o,(k a o e2 e4).1,e3⟩,(k a o e2 e4).2,e5,e6.keep k,e7⟩
 next:=by
  rintro A s U d' ds K hh ⟨i,l,old,e1,e0,e2,e4,e5,e6,e7⟩ hN hU k
  cases l with
  |nil=>exact bV e7
  |cons dv l =>
   cases e7
   obtain⟨x,xs,hx,r1,r2⟩:=e6
   have hi:i<items.size:=by
    rcases Nat.lt_or_ge i items.size with q|q
    ·exact q
    ·rw [List.drop_eq_nil_of_le (by exact q)]at hx;cases hx
   rw [List.drop_eq_getElem_cons (by exact hi)]at hx
   have hx1:items[i]?=some x:=by rw [Array.getElem?_eq_getElem hi];simpa using(List.cons.inj hx).1
   have hx2:=(List.cons.inj hx).2
   refine wpAny_pyNext_enum_item e1 e0 e2 hx1 hei fun h' ho hit' hT hsz hk=>⟨_,rfl,?_⟩
   refine wpAny_letOwnedTupleGo_enum ho fun h2 he2 hs=>?_
   have hen:e≠s.heap.objs.size:=Nat.ne_of_lt (Heap.lt_size e1)
   have kk:∀b o,b≠e→b≠it→s.heap.get? b=some o→h2.get? b=some o:=fun b o hb hb2 q=>(hs.2 b hb).trans (hk b o hb hb2 q)
   have kU:bA U U s.heap h2:=fun b o q n=>⟨kk b o (fun z=>n (z▸hN e (.head _))) (fun z=>n (z▸hN it (.tail _ (.head _)))) q,n⟩
   have nU:s.heap.objs.size∉U:=fun hb=>by
    obtain⟨o,e⟩:=hU _ hb
    exact Nat.lt_irrefl _ (Heap.lt_size e)
   have hit2:h2.IsListIter it a (i+1):=hit'.at fun o q=>(hs.2 it (Ne.symm hei)).trans q
   refine k _ h2 (s.toks+1) (fun b o hb q=>kk b o (fun z=>hb (by simp [z])) (fun z=>hb (by simp [z])) q) (fun b hb=>?_) ?_ ⟨i+1,l,x,by exact he2,hit2,e2.at fun o q=>kk a o hae hai q,e4,hi,by rw [hx2];exact r2.keep kU,rfl⟩
   ·rcases mCp hb with rfl|hb
    ·exact⟨_,he2⟩
    ·rw [mSp hb];obtain⟨o,q,_⟩:=hit2;exact⟨o,q⟩
   ·refine(?_:Exists _);exact⟨_,_,rfl,nU,⟨_,(hs.2 _ (Ne.symm hen)).trans hT⟩,_,_,rfl,⟨_,rfl⟩,_,_,rfl,r1.keep kU,rfl⟩
 done:=by
  rintro A s U K hh ⟨i,l,old,e1,e0,e2,e4,e5,e6,e7⟩ hN k
  cases l with
  |cons=>cases e7
  |nil =>
   have hi:i=items.size:=by
    have:=List.drop_eq_nil_iff.mp (show _ = []from e6)
    rw [Array.length_toList]at this;exact Nat.le_antisymm ‹_› ‹_›
   subst hi
   exact wpAny_pyNext_enum_end hh e1 e0 e2 (by simp) fun h' hx=>k h' s.toks fun b o hb q=>hx b o (fun h=>hb (by simp [h])) q
section
theorem uA{M:Model}{A:Around}{cls:Value}{Q:Bool→Shared→Prop}{E:Value→Shared→Prop}{s:Shared}(h:∀b,Q b s):wpAny M A (Builtin.SmallTypes.calledThroughType cls) Q E s :=
 wpAny_bind (wpAny_stack_any fun _=>wpAny_pure (h _))
set_option maxHeartbeats 4000000 in
theorem nP(l:Addr)(items:Array Value)(n:Nat) :
  Meets (Builtin.«enumerate.__new__» ⟨[.type "enumerate",.ref l],[]⟩) (fun _ R s=>s.heap.get? l=some {cls:=.type "tuple",data:=.seq items n} ∧
   R (.ok (.ret (.ref (s.heap.push {cls:=.type "tuple_iterator",data:=.fields #[.ref l,.int 0 0]}).objs.size)))
    {s with heap:=(s.heap.push {cls:=.type "tuple_iterator",data:=.fields #[.ref l,.int 0 0]}).push {cls:=.type "enumerate",data:=.fields #[.none,.bool false,.ref s.heap.objs.size,rawInt 0,.none,.none]}}) :=
 .of_wp fun prog w A R s h=>by
  obtain⟨hp,g,d,tk,os⟩:=s;obtain⟨hl,h⟩:=h
  have hsub:=sub_enumerate
  have hL:Heap.IsTuple (Shared.heap ⟨hp,g,d,tk,os⟩) l items:=⟨_,hl,rfl,n,rfl⟩
  wp_walk using AutoSeq1.wpAny_loadPart' hl,uA
  intro b
  cases b
  ·wp_walk using AutoSeq1.wpAny_loadPart' hl,wpAny_pyIter_tuple hL
   exact⟨_,rfl,h⟩
  ·wp_walk using AutoSeq1.wpAny_loadPart' hl,wpAny_pyIter_tuple hL
   exact⟨_,rfl,h⟩
end
theorem tB{A:Around}{E:Value→Shared→Prop}{s:Shared}{it t:Addr}{Q:Value→Shared→Prop}(hh:A.handled=none)(hit:s.heap.IsTupleIter it t 0)(ht:s.heap.IsTuple t #[])
  (hE:∀h' e,Heap.ExtBut it s.heap h'→(∃o,h'.get? e=some o∧o.cls = .type "StopIteration")→E (.ref e) {s with heap:=h'}):wpAny W.M A (Builtin.SmallTypes.nextOf (.ref it)) Q E s:=by
 obtain⟨o,ho,hc,hd⟩:=id hit
 obtain⟨ol,hol,_,nl,hdl⟩:=ht
 unfold Builtin.SmallTypes.nextOf
 refine wpAny_bind (wpAny_callSpecial?_slot (name:=Str.ofString "__next__") hit.typeIs PySem.F.slot_tuple_iterator_next
  (wpAny_call_entry PySem.F.slot_tuple_iterator_next hit.typeIs PySem.F.entry_tuple_iterator_next ?_ (PySem.F.args_tuple_iterator_next_1 _)))
 show wpAny _ _ (field (.ref it) 0>>=_) _ _ s
 refine wpAny_bind (wpAny_field ho hd (x:=.ref t) rfl ?_)
 show wpAny _ _ (if (Value.ref t==Value.none)=true then _ else _) _ _ s
 rw [if_neg (show ¬((Value.ref t==Value.none)=true)from Bool.false_ne_true)]
 show wpAny _ _ (field (.ref it) 1>>=_) _ _ s
 refine wpAny_bind (wpAny_field ho hd (x:=.int ((0:Nat):Int) 0) rfl ?_)
 show wpAny _ _ (seqItems? (.ref t)>>=_) _ _ s
 refine wpAny_bind (wpAny_seqItems hol hdl ?_)
 simp only [Int.toNat_natCast]
 refine wpAny_bind (wpAny_rule (wpAny_bind (wpAny_setField ho hd (by simp) ?_)))
 show wpAny _ _ (newExc (.type "StopIteration") []>>=_) _ _ _
 refine wpAny_bind ?_
 simp only [newExc,newTuple]
 refine wpAny_bind (wpAny_newObj_type ?_ (by size_fits))
 refine wpAny_bind (m:=firstArgMember _ _) (wpAny_of_eq (a:=Value.none) (by first|rfl|(simp only [firstArgMember];rfl)) ?_)
 refine wpAny_newObj_type ?_ (by size_fits)
 refine wpAny_raiseNew_none (show _=none from hh) ?_
 exact hE _ _ (((Heap.SameBut.update ..).extBut.push _).push _) ⟨_,Heap.get?_push_size _ rfl,rfl⟩
theorem K5{e it a:Addr}{es:List Expr}{k0:Nat}{p0:Pos} :
  ItP W (.Tuple es k0 p0) e [e,it] (fun ds h U=>ds = []∧(∃old,IsEnum h e it 0 old)∧h.IsTupleIter it a 0∧h.IsTuple a #[]∧a∉U) where
 keep ds h h' U U':=by
  rintro⟨rfl,⟨old,e1⟩,⟨oI,e0,e0'⟩,⟨o,e2,e3⟩,e4⟩ k kn
  exact⟨rfl,⟨old,kn e (.head _) _ e1⟩,⟨oI,kn it (.tail _ (.head _)) _ e0,e0'⟩,⟨o,(k a o e2 e4).1,e3⟩,(k a o e2 e4).2⟩
 next:=by rintro A s U d' ds K hh ⟨h,_⟩;exact bV h
 done:=by
  rintro A s U K hh ⟨_,⟨old,e1⟩,e0,e2,e4⟩ hN k
  have hT:s.TypeIs (.ref e) "enumerate":=⟨_,e1,rfl⟩
  unfold pyNext
  refine wpAny_bind (wpAny_attempt (wpAny_callSpecial?_slot (name:=Str.ofString "__next__") hT PySem.F.slot_enumerate_next
   (wpAny_call_entry PySem.F.slot_enumerate_next hT PySem.F.entry_enumerate_next ?_ (PySem.F.args_enumerate_next_1 _))))
  show wpAny _ _ (field (.ref e) 2>>=_) _ _ _
  refine wpAny_bind (wpAny_field e1 rfl (x:=.ref it) rfl ?_)
  refine wpAny_bind (tB hh e0 e2 fun h' x he' hx'=>?_)
  obtain⟨o,ho,hc⟩:=hx'
  refine wpAny_bind (wpAny_isInstance (T:="StopIteration") (b:=true) ⟨o,ho,hc⟩ isSubtype_stop ?_)
  exact wpAny_pure (k h' s.toks fun b o hb q=>he' b o (fun h=>hb (by simp [h])) q)
theorem nQ {A:Around}{s:Shared}{l:Addr}{n:Nat}{Q:Value→Shared→Prop}(hl:s.heap.get? l=some {cls:=.type "tuple",data:=.seq #[] n})
  (h:∀h',IsEnum h' (s.heap.objs.size+1) s.heap.objs.size 0 .none→h'.IsTupleIter s.heap.objs.size l 0→(∀b o,s.heap.get? b=some o→h'.get? b=some o)→Q (.ref (s.heap.objs.size+1)) {s with heap:=h'}) :
  wpAny W.M A (call (.type "enumerate") [.ref l]) Q NoE s:=by
 refine callType_new PySem.F.called_enumerate (by decide) (PySem.F.typeCall_enumerate_1 _) (PySem.F.newCall_enumerate_1 _) (fun obj=>PySem.F.args_object_init_2 obj _) PySem.F.entry_enumerate_new
  (nP l #[] n) ⟨hl,?_⟩
 have hz:(s.heap.push {cls:=.type "tuple_iterator",data:=.fields #[.ref l,.int 0 0]}).objs.size=s.heap.objs.size+1:=Heap.size_push ..
 show _∧_
 rw [hz]
 have he:IsEnum ((s.heap.push {cls:=.type "tuple_iterator",data:=.fields #[.ref l,.int 0 0]}).push
   {cls:=.type "enumerate",data:=.fields #[.none,.bool false,.ref s.heap.objs.size,rawInt 0,.none,.none]}) (s.heap.objs.size+1) s.heap.objs.size 0 .none:=by
  have:=Heap.get?_push_size (s.heap.push {cls:=.type "tuple_iterator",data:=.fields #[.ref l,.int 0 0]})
   (o:={cls:=.type "enumerate",data:=.fields #[.none,.bool false,.ref s.heap.objs.size,rawInt 0,.none,.none]}) rfl
  rw [hz]at this;exact this
 exact⟨⟨_,he,rfl⟩,h _ he ⟨_,Heap.get?_push_of_some _ (Heap.get?_push_size _ rfl),rfl,rfl⟩ fun b o x=>Heap.get?_push_of_some _ (Heap.get?_push_of_some _ x)⟩
noncomputable def FE(v:V):Option (List D):=match v with
 |.fz (.lst l)=>some l
 |.fz (.tup [])=>some []
 |_=>none
set_option tactic.hygienic true in
theorem wI {T:Tk}(a:aG T.W) (he:T.env.scope.names=T.κ) (J:List D→Loc→Led→Prop) {es:List Expr}{k0:Nat}{p0 np cpos:Pos}{x:Expr}{body:List Stmt}{pos:Pos}(hT:okK T.κ (.Tuple es k0 p0)=true) (hg:lk "enumerate" T.κ=some .globalImplicit) (hs:fD x=true)
  (h:mE aU T m x (fun v M1=>∃l,FE v=some l∧J (wV 0 l) m M1) M)
  (turn:let J1:=J;let Q1:=fun ds=>yC (J1 ds) Q;∀d ds m M,J1 (d::ds) m M→let m1:=m;cB (uS (.Tuple es k0 p0) d m1) fun m'=>sv aU T 60 body m' (Q1 ds) M)
  (done:∀m M,J [] m M→Q .next m M):Lf (TS T.W T.n T.env (.For (.Tuple es k0 p0) (.Call (.Name "enumerate" np) [x] [] cpos) body [] pos) m Q M) :=
 qH a he hT (fun _=>rfl) (fun A Y s g me f=>by
  refine wpAny_Call_NameR (zU a (κ:=T.κ) (t:=.bi .enum) (fun y hy=>by rw [cA he];exact hy) rfl hg rfl me f ?_)
  refine kH a.wk (first:=[]) (QA:=fun vs M1=>∃v,vs = [v]∧∃l,FE v=some l∧J (wV 0 l) m M1) (.inr (.inl ⟨_,rfl⟩)) (by simpa using hs) (nZ (Tr.mono (lL a he h) fun v M1 q=>yT ⟨v,rfl,q⟩) (fY hs _)) g me f fun vs xs s1 M1 hq r me1 f1 t1=>?_
  obtain⟨v,rfl,l,hv,hJ⟩:=hq
  obtain⟨y,rfl,ry⟩:=r.one_inv
  have hh:A.handled=none:=g.1
  have nn:s1.heap.get? s1.heap.objs.size=none:=cE _
  have nn1:s1.heap.get? (s1.heap.objs.size+1)=none:=Heap.get?_none_of_le (Nat.le_succ _)
  have nN:∀b∈[s1.heap.objs.size+1,s1.heap.objs.size],s1.heap.get? b=none:=fun b hb=>by
   rcases mCp hb with rfl|hb
   ·exact nn1
   ·rw [mSp hb];exact nn
  rcases v with d|_
  ·cases d <;> try ((first|exact aF hv|(have e_:=Option.some.inj hv;clear hv;subst e_));done)
   ·rename_i l2
    cases l2 with
    |cons=>exact aF hv
    |nil =>
     (have e_:=Option.some.inj hv;clear hv;subst e_)
     obtain⟨b,vs,rfl,hbU,⟨k,hb⟩,hl⟩:=ry
     (revert hl;intro(e_:_=_);subst e_)
     refine nQ hb fun h' e1 e0 hk=>?_
     refine wpAny_pyIter_enum e1 ⟨M1,s1,_,[s1.heap.objs.size+1,s1.heap.objs.size],_,_,rfl,K5 (a:=b),hJ,me1,f1,t1,nN,fun c hc=>?_,hk,⟨_,_,rfl⟩,rfl,⟨_,e1⟩,e0,⟨_,hk _ _ hb,rfl,_,rfl⟩,?_⟩
     ·rcases mCp hc with rfl|hc
      ·exact⟨_,e1⟩
      ·rw [mSp hc];obtain⟨o,q,_⟩:=e0;exact⟨o,q⟩
     ·rw [List.append_assoc]
      exact fun hc=>(mAp hc).elim (fun q=>by have:=nN _ q;rw [hb]at this;exact qX this) hbU
   ·cases(hv)
    obtain⟨b,vs,rfl,hbU,⟨k,hb⟩,hl⟩:=ry
    refine call_enumerate_list (items:=vs.toArray) ⟨_,hb,rfl,k,rfl⟩ fun h' e1 e0 hz hk=>?_
    have hne:∀c∈[s1.heap.objs.size+1,s1.heap.objs.size],b≠c:=fun c hc e=>by have:=nN _ hc;rw [←e,hb]at this;exact qX this
    refine wpAny_pyIter_enum e1 ⟨M1,s1,_,[s1.heap.objs.size+1,s1.heap.objs.size],_,_,rfl,A6 (Nat.succ_ne_self _) (hne _ (.head _)) (hne _ (.tail _ (.head _))),hJ,me1,f1,t1,nN,fun c hc=>?_,hk,⟨_,_,rfl⟩,0,l,_,e1,e0,⟨_,hk _ _ hb,rfl,_,rfl⟩,?_,Nat.zero_le _,?_,rfl⟩
    ·rcases mCp hc with rfl|hc
     ·exact⟨_,e1⟩
     ·rw [mSp hc];obtain⟨o,q,_⟩:=e0;exact⟨o,q⟩
    ·rw [List.append_assoc]
     exact fun hc=>(mAp hc).elim (fun q=>hne _ q rfl) hbU
    ·refine(show bT T.W _ _ l vs from hl).keep fun c o e nb=>⟨hk c o e,fun hc=>?_⟩
     rw [List.append_assoc]at hc
     rcases mAp hc with q|q
     ·have:=nN _ q;rw [e]at this;exact qX this
     ·exact nb q
  ·exact aF hv) turn done
end
end
section
section
variable{W:Wd}{G:Str→Option D}{n:Nat}{env:Env}{m:Loc}{M:Led}{Q:aJ}
noncomputable abbrev lc2(elt target iter target2 iter2:Expr)(scope:Scope)(pos:Pos):Expr:=.ListComp elt [⟨target,iter,[],0⟩,⟨target2,iter2,[],0⟩] scope pos
theorem Q6(elt t1 i1 target iter:Expr)(scope:Scope)(pos:Pos)(it acc:Value)(env:Env) :
  compTurn (lc2 elt t1 i1 target iter scope pos) 1 it acc env=(standAt iter.pos>>=fun _=>pyNext it>>=fun r=>match r with
   |none=>pure (.done .next)
   |some v=>letOwnedTupleGo target it v>>=fun _=>assign target env v>>=fun _ =>
    (eval elt env>>=fun x=>call (.builtin "list.append") [acc,x]>>=fun _=>pure ())>>=fun _ =>
     again (.compLoop (lc2 elt t1 i1 target iter scope pos) 1 it acc env)):=by rfl
theorem G1(elt:Expr)(target iter target2 iter2:Expr)(scope:Scope)(pos:Pos)(it acc:Value)(env:Env) :
  compTurn (lc2 elt target iter target2 iter2 scope pos) 0 it acc env=(standAt iter.pos>>=fun _=>pyNext it>>=fun r=>match r with
   |none=>pure (.done .next)
   |some v=>letOwnedTupleGo target it v>>=fun _=>assign target env v>>=fun _ =>
    eval iter2 env>>=fun x=>standAt iter2.pos>>=fun _=>foldedSetIterable iter2 env x>>=fun x=>holding [x] (pyIter x)>>=fun it2=>runOwn (.compStart (lc2 elt target iter target2 iter2 scope pos) 1 it2 acc env) env>>=fun _ =>
     again (.compLoop (lc2 elt target iter target2 iter2 scope pos) 0 it acc env)):=by rfl
theorem U3{elt t1 i1 iter:Expr}{y:Str}{py:Pos}{scope:Scope}{pos:Pos}{it acc:Value}{env:Env}{A:Around}{R:Result→Shared→Prop}{s:Shared}(I:Nat→Shared→Prop)
  (turn:∀n s,I n s→wpAny W.M A (pyNext it) (fun r s₁=>match r with
   |none=>R (.ok .next) s₁
   |some v=>wpAny W.M A (assign (.Name y py) env v) (fun _ s₂=>wpAny W.M A (eval elt env) (fun x s₃=>wpAny W.M A (call (.builtin "list.append") [acc,x]) (fun _ s₄=>∃m,m<n∧I m s₄) NoE s₃) NoE s₂) NoE s₁) NoE s)
  (n:Nat) (h:I n s):codeAny W.M A (.compLoop (lc2 elt t1 i1 (.Name y py) iter scope pos) 1 it acc env) R s:=by
 refine codeAny_loop rfl I (fun n s hI=>?_) n h
 show wpAny _ A ((compTurn (lc2 elt t1 i1 (.Name y py) iter scope pos) 1 it acc env).onRaise (fun x=>do noteFrame x env;theTreesLotGoes x)) _ _ s
 refine wpAny_noted ?_
 rw [Q6]
 refine wpAny_bind (wpAny_standAt (wpAny_bind (wpAny_mono (turn n s hI) (fun r s₁ h₁=>?_) fun _ _ h'=>h'.elim)))
 cases r with
 |none=>exact wpAny_pure h₁
 |some v =>
  refine wpAny_bind (wpAny_of_eq (a:=()) rfl ?_)
  exact wpAny_bind (wpAny_mono h₁ (fun _ s₂ h₂=>wpAny_bind (wpAny_bind (wpAny_mono h₂ (fun x s₃ h₃=>wpAny_bind (wpAny_mono h₃ (fun _ s₄ h₄=>wpAny_pure (wpAny_pure ⟨rfl,h₄⟩)) fun _ _ x=>x.elim)) fun _ _ x=>x.elim))) fun _ _ x=>x.elim)
theorem N0{elt iter target2 iter2:Expr}{x:Str}{px:Pos}{scope:Scope}{pos:Pos}{it acc:Value}{env:Env}{A:Around}{R:Result→Shared→Prop}{s:Shared}(hs:∀v,foldedSetIterable iter2 env v=pure v)(I:Nat→Shared→Prop)
  (turn:∀n s,I n s→wpAny W.M A (pyNext it) (fun r s₁=>match r with
   |none=>R (.ok .next) s₁
   |some v=>wpAny W.M A (assign (.Name x px) env v) (fun _ s₂=>wpAny W.M A (eval iter2 env) (fun z s₃=>wpAny W.M A (pyIter z) (fun it2 s₄ =>
    codeAny W.M A (.compStart (lc2 elt (.Name x px) iter target2 iter2 scope pos) 1 it2 acc env) (fun r s₅=>r = .ok .next∧∃m,m<n∧I m s₅) s₄) NoE s₃) NoE s₂) NoE s₁) NoE s)
  (n:Nat) (h:I n s):codeAny W.M A (.compLoop (lc2 elt (.Name x px) iter target2 iter2 scope pos) 0 it acc env) R s:=by
 refine codeAny_loop rfl I (fun n s hI=>?_) n h
 show wpAny _ A ((compTurn (lc2 elt (.Name x px) iter target2 iter2 scope pos) 0 it acc env).onRaise (fun x=>do noteFrame x env;theTreesLotGoes x)) _ _ s
 refine wpAny_noted ?_
 rw [G1]
 refine wpAny_bind (wpAny_standAt (wpAny_bind (wpAny_mono (turn n s hI) (fun r s₁ h₁=>?_) fun _ _ h'=>h'.elim)))
 cases r with
 |none=>exact wpAny_pure h₁
 |some v =>
  refine wpAny_bind (wpAny_of_eq (a:=()) rfl ?_)
  refine wpAny_bind (wpAny_mono h₁ (fun _ s₂ h₂=>wpAny_bind (wpAny_mono h₂ (fun z s₃ h₃=>wpAny_bind (wpAny_standAt ?_)) fun _ _ x=>x.elim)) fun _ _ x=>x.elim)
  rw [hs]
  refine wpAny_bind (wpAny_pure (wpAny_bind (wpAny_holding (wpAny_mono h₃ (fun it2 s₄ h₄=>wpAny_bind ?_) fun _ _ x=>x.elim))))
  refine wpAny_runOwn ?_
  show codeAny W.M A _ _ _
  refine codeAny_mono h₄ fun r s5 hp1=>?_
  obtain⟨e,q⟩:=hp1
  subst e
  exact wpAny_pure ⟨rfl,q⟩
theorem I9{elt t1 i1 t2 i2:Expr}{scope:Scope}{pos:Pos}{it acc:Value}{env:Env}{A:Around}{R:Result→Shared→Prop}{s:Shared}
  (h0:codeAny W.M A (.compLoop (lc2 elt t1 i1 t2 i2 scope pos) 1 it acc env) R s)
  (h:wpAny W.M A (pyIter it) (fun it' s'=>codeAny W.M A (.compLoop (lc2 elt t1 i1 t2 i2 scope pos) 1 it' acc env) R s') NoE s) :
  codeAny W.M A (.compStart (lc2 elt t1 i1 t2 i2 scope pos) 1 it acc env) R s:=by
 refine codeAny_of_tree ?_
 show wpAny _ _ ((compStart (lc2 elt t1 i1 t2 i2 scope pos) 1 it acc env).onRaise (fun x=>do noteFrame x env;standAt theWindowsPlace)) _ _ s
 refine wpAny_notedAt ?_
 unfold compStart
 show wpAny _ _ (ask>>=_) _ _ s
 refine wpAny_bind (wpAny_askSetting (wpAny_ite ?_))
 split
 ·first
   |exact wpAny_bind (wpAny_pure (wpAny_pure (And.intro rfl h0)))
   |exact wpAny_pure (And.intro rfl h0)
 ·first
   |exact wpAny_bind (wpAny_rule (wpAny_bind (wpAny_standAt (wpAny_bind (wpAny_mono h (fun it' s' h'=>wpAny_pure (And.intro rfl h')) fun _ _ x=>x.elim)))))
   |(refine wpAny_bind (wpAny_rule ?_);show wpAny _ _ (standAt _>>=_) _ _ s;exact wpAny_bind (wpAny_standAt (wpAny_bind (wpAny_mono h (fun it' s' h'=>wpAny_pure (And.intro rfl h')) fun _ _ x=>x.elim))))
theorem g5 {t1 i1 iter:Expr}{y:Str}{py py2:Pos}{scope:Scope}{pos:Pos}{cenv:Env}{a:Addr}{N:Led}(hy:cenv.kindOf y=some .local) (hd:(y==("__debug__" : Str))=false)
  {A:Around}{Y:List Addr}{s0 s:Shared}{I:Addr}{es acc:List D}{R:Result→Shared→Prop}(g:cF n A) (hl:acc.length+es.length≤1000000)
  (me:Mem W (I::Y) ((a,.lst (acc.map .fz))::N) s.heap) (f:Frm W (I::Y) (I::Y++a::foot N) cenv [] s.heap) (hI:Itr W s.heap (I::Y++a::foot N) I es) (IY:I∉Y) (lY:cenv.locals∈Y) (cY:∀p∈cenv.cells,p.2∈Y)
  (t:Step ([I,cenv.locals]++a::foot N) ([I,cenv.locals]++a::foot N) s0 s)
  (hR:∀s',Mem W Y ((a,.lst ((acc++es).map .fz))::N) s'.heap→Frm W (I::Y) (I::Y++a::foot N) cenv [] s'.heap→Step ([I,cenv.locals]++a::foot N) ([I,cenv.locals]++a::foot N) s0 s'→R (.ok .next) s') :
  codeAny W.M A (.compLoop (lc2 (.Name y py) t1 i1 (.Name y py2) iter scope pos) 1 (.ref I) (.ref a) cenv) R s:=by
 have nL:I≠cenv.locals:=fun e=>IY (e▸lY)
 have nC:∀p∈cenv.cells,p.2≠I:=fun p hp e=>IY (e▸cY p hp)
 have hh:A.handled=none:=g.1
 let St:List D→List D→Shared→Prop:=fun es acc s'=>Mem W (I::Y) ((a,.lst (acc.map .fz))::N) s'.heap∧Frm W (I::Y) (I::Y++a::foot N) cenv [] s'.heap∧Itr W s'.heap (I::Y++a::foot N) I es∧Step ([I,cenv.locals]++a::foot N) ([I,cenv.locals]++a::foot N) s0 s'
 refine U3 (fun k s'=>∃es2 acc2,es2.length=k∧acc2++es2=acc++es∧St es2 acc2 s') ?_ es.length ⟨es,acc,rfl,rfl,me,f,hI,t⟩
 rintro k s2 ⟨es2,acc2,hk2,e2,me2,f2,it2,t2⟩
 have hl2:acc2.length+es2.length=acc.length+es.length:=by simpa using congrArg List.length e2
 cases es2 with
 |nil =>
  rw [List.append_nil]at e2
  subst e2
  exact wpAny_mono (Itr.done (K:=fun r s3=>r=none∧R (.ok .next) s3) hh it2 (.head _) fun h3 tk hk3=>⟨rfl,hR _ (me2.leave (N:=[I]) (fun b o nb e=>hk3 b o (by simpa using nb) e) (by simpa using IY)) (f2.ykeep (.head _) nL nC hk3)
   (t2.trans ⟨fun b o e nb=>hk3 b o (fun z=>nb (z▸.head _)) e,⟨_,_,rfl⟩,fun _ h=>.inl h⟩)⟩) (fun r s3 hp1=>by obtain⟨e,q⟩:=hp1;subst e;exact q) fun _ _ x=>x.elim
 |cons d es2 =>
  refine wpAny_mono (Itr.next (K:=fun r s3=>∃v,r=some v∧Rep W s3.heap (I::Y++a::foot N) d v∧St es2 acc2 s3) hh it2 (.head _) fun v h3 tk hk3 al rd it3=>⟨v,rfl,rd,me2.ykeep (.head _) hk3 al,f2.ykeep (.head _) nL nC hk3,it3,
    t2.trans ⟨fun b o e nb=>hk3 b o (fun z=>nb (z▸.head _)) e,⟨_,_,rfl⟩,fun _ h=>.inl h⟩⟩) (fun r s3 hp_=>?_) fun _ _ x=>x.elim
  obtain⟨v,e,rd,me3,f3,it3,t3⟩:=hp_
  subst e
  refine wpAny_mono (wpAny_assign_Name (dZ (v:=.fz d) (K:=fun _ s4=>Mem W (I::Y) ((a,.lst (acc2.map .fz))::N) s4.heap∧Frm W (I::Y) (I::Y++a::foot N) cenv [(y,.fz d)] s4.heap∧Itr W s4.heap (I::Y++a::foot N) I es2∧Step ([I,cenv.locals]++a::foot N) ([I,cenv.locals]++a::foot N) s0 s4) (by simp [bW,hy]) me3 f3 rd fun s4 me4 f4 _ k4 t4=>⟨me4,f4,it3.keep k4 fun o e=>(t4 hy).keep I o e fun hb=>?_,t3.trans ((t4 hy).widen fun b hb=>?_)⟩)) (fun _ s4 ⟨me4,f4,it4,t4⟩=>?_) fun _ _ x=>x.elim
  ·rcases mAp hb with q|q
   ·exact nL (mSp q)
   ·exact me3.disj I q (.head _)
  ·rcases mAp hb with q|q
   ·rw [mSp q];exact .tail _ (.head _)
   ·exact mAr (.inr q)
  refine(vI (W:=W) (n:=n) (env:=cenv) (pos:=py) hy (v:=.fz d) (by rw [dC,if_pos rfl]) (Q:=fun v N'=>v = .fz d∧N'=(a,.lst (acc2.map .fz))::N) ⟨rfl,rfl⟩ hd).use g me4 f4 fun v s6 u M6 hp1 ru me6 f6 t6=>?_
  obtain⟨hu,hM⟩:=hp1
  subst hu hM
  refine wpAny_mono (pJ (n:=n) (d:=.loc a) (v:=.fz d) (Y:=I::Y) (s:=s6) (xs:=[.ref a,v]) (Q:=fun v M7=>M7=(a,.lst ((acc2++[d]).map .fz))::N) g me6 (VRelL.two rfl ru) (sG (by rw [lookup_cons,if_pos rfl]) ⟨by simp;exact Ij hl hl2,_,rfl,by rw [List.map_append];exact aC⟩)) (fun _ s7 hp1=>?_) fun _ _ x=>x
  obtain⟨_,M7,hM,_,me7,t7⟩:=hp1
  subst hM
  have itk:∀{s5 s6:Shared},Mem W (I::Y) ((a,.lst (acc2.map .fz))::N) s5.heap→Step (a::foot N) (a::foot N) s5 s6→Itr W s5.heap (I::Y++a::foot N) I es2→Itr W s6.heap (I::Y++a::foot N) I es2:=fun me5 st it=>it.keep st.keeps fun o e=>st.keep I o e fun hb=>me5.disj I hb (.head _)
  exact⟨es2.length,by simp [←hk2],es2,acc2++[d],rfl,by rw [←e2];simp,me7,(f6.step me6 t7).sub fun _ _ e=>(nomatch e),itk me6 t7 (itk me4 t6 it4),(t4.trans t6.fr).trans t7.fr⟩
theorem wC {iter iter2:Expr}{x y:Str}{px py py2:Pos}{scope:Scope}{pos:Pos}{cenv:Env}{a:Addr}{N:Led}(J:List D→List D→Prop) (hx:cenv.kindOf x=some .local) (hy:cenv.kindOf y=some .local) (hd:(y==("__debug__" : Str))=false) (hs:∀v,foldedSetIterable iter2 cenv v=pure v)
  (turn:∀d ds acc,J (d::ds) acc→TE W n cenv [(x,.fz d)] iter2 (fun v M1=>∃es,mV M1 v=some (es,(a,.lst (acc.map .fz))::N)∧acc.length+es.length≤1000000∧J ds (acc++es)) ((a,.lst (acc.map .fz))::N))
  {A:Around}{Y:List Addr}{s0 s:Shared}{I:Addr}{ds acc:List D}{R:Result→Shared→Prop}(g:cF n A) (hJ:J ds acc)
  (me:Mem W (I::Y) ((a,.lst (acc.map .fz))::N) s.heap) (f:Frm W (I::Y) (I::Y++a::foot N) cenv [] s.heap) (hI:Itr W s.heap (I::Y++a::foot N) I ds) (IY:I∉Y) (lY:cenv.locals∈Y) (cY:∀p∈cenv.cells,p.2∈Y)
  (t:Step ([I,cenv.locals]++a::foot N) ([I,cenv.locals]++a::foot N) s0 s)
  (hR:∀s' acc',J [] acc'→Mem W Y ((a,.lst (acc'.map .fz))::N) s'.heap→(∃mR,s'.heap.Ns cenv.locals mR)→Step ([I,cenv.locals]++a::foot N) ([I,cenv.locals]++a::foot N) s0 s'→R (.ok .next) s') :
  codeAny W.M A (.compLoop (lc2 (.Name y py) (.Name x px) iter (.Name y py2) iter2 scope pos) 0 (.ref I) (.ref a) cenv) R s:=by
 have nL:I≠cenv.locals:=fun e=>IY (e▸lY)
 have nC:∀p∈cenv.cells,p.2≠I:=fun p hp e=>IY (e▸cY p hp)
 have hh:A.handled=none:=g.1
 let St:List D→List D→Shared→Prop:=fun ds acc s'=>Mem W (I::Y) ((a,.lst (acc.map .fz))::N) s'.heap∧Frm W (I::Y) (I::Y++a::foot N) cenv [] s'.heap∧Itr W s'.heap (I::Y++a::foot N) I ds∧Step ([I,cenv.locals]++a::foot N) ([I,cenv.locals]++a::foot N) s0 s'
 refine N0 hs (fun k s'=>∃ds2 acc2,ds2.length=k∧J ds2 acc2∧St ds2 acc2 s') ?_ ds.length ⟨ds,acc,rfl,hJ,me,f,hI,t⟩
 rintro k s2 ⟨ds2,acc2,hk2,hJ2,me2,f2,it2,t2⟩
 cases ds2 with
 |nil =>
  obtain⟨mR,⟨o,es,ep,e1,e2⟩,_⟩:=f2.ns
  exact wpAny_mono (Itr.done (K:=fun r s3=>r=none∧R (.ok .next) s3) hh it2 (.head _) fun h3 tk hk3=>⟨rfl,hR _ acc2 hJ2 (me2.leave (N:=[I]) (fun b o nb e=>hk3 b o (by simpa using nb) e) (by simpa using IY)) ⟨mR,o,es,ep,hk3 _ _ (Ne.symm nL) e1,e2⟩
   (t2.trans ⟨fun b o e nb=>hk3 b o (fun z=>nb (z▸.head _)) e,⟨_,_,rfl⟩,fun _ h=>.inl h⟩)⟩) (fun r s3 hp1=>by obtain⟨e,q⟩:=hp1;subst e;exact q) fun _ _ x=>x.elim
 |cons d ds2 =>
  refine wpAny_mono (Itr.next (K:=fun r s3=>∃v,r=some v∧Rep W s3.heap (I::Y++a::foot N) d v∧St ds2 acc2 s3) hh it2 (.head _) fun v h3 tk hk3 al rd it3=>⟨v,rfl,rd,me2.ykeep (.head _) hk3 al,f2.ykeep (.head _) nL nC hk3,it3,
    t2.trans ⟨fun b o e nb=>hk3 b o (fun z=>nb (z▸.head _)) e,⟨_,_,rfl⟩,fun _ h=>.inl h⟩⟩) (fun r s3 hp_=>?_) fun _ _ x=>x.elim
  obtain⟨v,e,rd,me3,f3,it3,t3⟩:=hp_
  subst e
  have noI:∀b∈[cenv.locals]++a::foot N,b≠I:=fun b hb e=>by
   rcases mAp hb with q|q
   ·exact nL (e▸mSp q)
   ·exact me3.disj I (e▸q) (.head _)
  have up:∀b∈[cenv.locals]++a::foot N,b∈[I,cenv.locals]++a::foot N:=fun b hb=>.tail _ hb
  refine wpAny_mono (wpAny_assign_Name (dZ (v:=.fz d) (K:=fun _ s4=>Mem W (I::Y) ((a,.lst (acc2.map .fz))::N) s4.heap∧Frm W (I::Y) (I::Y++a::foot N) cenv [(x,.fz d)] s4.heap∧Itr W s4.heap (I::Y++a::foot N) I ds2∧Step ([I,cenv.locals]++a::foot N) ([I,cenv.locals]++a::foot N) s0 s4) (by simp [bW,hx]) me3 f3 rd fun s4 me4 f4 _ k4 t4=>⟨me4,f4,it3.keep k4 fun o e=>(t4 hx).keep I o e fun hb=>noI I hb rfl,t3.trans ((t4 hx).widen up)⟩)) (fun _ s4 hp1=>?_) fun _ _ x=>x.elim
  obtain⟨me4,f4,it4,t4⟩:=hp1
  refine(turn d ds2 acc2 hJ2).use g me4 f4 fun v s5 u M1 hp1 ru me5 f5 t5=>?_
  obtain⟨es,hrow,hlen,hJ5⟩:=hp1
  refine jM me5 hrow ru fun I2 h6 nI2 aI2 hk6 me6 k6 hM6 it6=>?_
  have sub:∀b∈a::foot N,b∈foot M1:=by
   rcases hM6 with e|⟨b,e⟩
   ·intro b hb;rw [←e];exact hb
   ·intro c hc;exact cG (M:=M1) (a:=b) (by rw [←e];exact hc)
  have I2Y:I2∉I::Y:=fun hb=>by obtain⟨o,e⟩:=me5.alive I2 (mAr (.inl hb));rw [nI2]at e;exact aF e
  have f6:Frm W (I2::I::Y) (I2::I::Y++a::foot N) cenv [] h6:=(f5.grow (N:=[I2]) k6 hk6).sub fun _ _ e=>(nomatch e)
  have fin:∀s',Mem W (I::Y) ((a,.lst ((acc2++es).map .fz))::N) s'.heap→Frm W (I2::I::Y) (I2::I::Y++a::foot N) cenv [] s'.heap→Step ([I2,cenv.locals]++a::foot N) ([I2,cenv.locals]++a::foot N) {s5 with heap:=h6} s' →
    (Except.ok Flow.next:Result) = .ok .next∧∃j,j<k∧∃ds2 acc2,ds2.length=j∧J ds2 acc2∧St ds2 acc2 s':=fun s' me7 f7 t7=>by
   have t8:Step ([cenv.locals]++foot M1) ([cenv.locals]++a::foot N) s5 s':=Step.through (N:=[I2]) (F:=[cenv.locals]) (S:=foot M1) (S2:=a::foot N) (T:=a::foot N) (s2:={s5 with heap:=h6}) t7 hk6 ⟨_,_,rfl⟩ (by simpa using nI2) fun b hb=>.inl (sub b hb)
   have t9:Step ([cenv.locals]++a::foot N) ([cenv.locals]++a::foot N) s4 s':=t5.fr.trans t8
   have k9:bA (I::Y++a::foot N) (I::Y++a::foot N) s4.heap s'.heap:=fun b o e nb=>⟨t9.keep b o e fun hb=>nb (by
    rcases mAp hb with q|q
    ·rw [mSp q];exact mAr (.inl (.tail _ lY))
    ·exact mAr (.inr q)),nb⟩
   refine⟨rfl,ds2.length,by simp [←hk2],ds2,acc2++es,rfl,hJ5,me7,?_,it4.keep k9 fun o e=>t9.keep I o e fun hb=>noI I hb rfl,t4.trans (t9.widen up)⟩
   exact Frm.shrink (N:=[I2]) (Y0:=[]) f7 f4 (fun b o e nb=>⟨e,fun hb=>nb (.tail _ hb)⟩)
  exact I9 (g5 hy hd g hlen me6 f6 it6 I2Y (.tail _ lY) (fun p hp=>.tail _ (cY p hp)) (Step.refl _ _) fin)
   (it6.self (s:={s5 with heap:=h6}) (g5 hy hd g hlen me6 f6 it6 I2Y (.tail _ lY) (fun p hp=>.tail _ (cY p hp)) (Step.refl _ _) fin) |> fun h=>wpAny_mono h (fun _ _ q=>q) fun _ _ x=>x)
theorem sQ {κ:Ks}(a:aG W) (he:env.scope.names=κ) (J:List D→List D→Prop) {iter iter2:Expr}{x y:Str}{px py py2:Pos}{scope:Scope}{pos:Pos}(hc:bK κ scope x=true) (hy:lk y scope.names=some .local) (hcp:dR scope.names m = []) (hd:(y==("__debug__" : Str))=false)
  (hs:∀x,foldedSetIterable iter env x=pure x) (hs2:∀e x,foldedSetIterable iter2 e x=pure x)
  (h:mE aU ⟨W,n,env,κ⟩ m iter (fun v M1=>gN M1 v fun ds M2=>M2=M∧J ds []) M)
  (turn:∀C b d ds acc,b∉foot M→J (d::ds) acc→mE aU ⟨W,n,cenvOf scope env C,scope.names⟩ [(x,.fz d)] iter2 (fun v M1=>gN M1 v fun es M2=>M2=(b,.lst (acc.map .fz))::M∧acc.length+es.length≤1000000∧J ds (acc++es)) ((b,.lst (acc.map .fz))::M))
  (done:∀b acc,b∉foot M→J [] acc→Gh Q (.loc b) ((b,.lst (acc.map .fz))::M)):Lf (TE W n env m (.ListComp (.Name y py) [⟨.Name x px,iter,[],0⟩,⟨.Name y py2,iter2,[],0⟩] scope pos) (Gh Q) M) :=
 ⟨fun A Y s g me f=>by
  have hc':bK env.scope.names scope x=true:=by rw [he];exact hc
  obtain⟨c1,c2,c3,c4,c5,c6⟩:=cI hc'
  rw [eval_ListComp]
  refine wpAny_comprehension_free (use:=none) rfl hs (gH (κ:=env.scope.names) hc' f) c1 c4 ((lL a he h).use g me f fun z s1 v M1 q rv me1 f1 t1=>?_)
  obtain⟨ds,M2,hrow,rfl,hJ⟩:=dW q
  refine jM me1 hrow rv fun I h' nI aI hk meI kI hM2 hIt=>?_
  have sub:∀b∈foot M2,b∈foot M1:=by
   rcases hM2 with rfl|⟨b,rfl⟩
   ·exact fun _ h=>h
   ·exact fun _ h=>cG h
  refine lZ (s2:={s1 with heap:=h'}) (K:=fun acc C=>compPost W.M A NoE none _ acc C) (fun b acc M'=>∃acc',J [] acc'∧M'=(b,.lst (acc'.map .fz))::M2∧b∉foot M2) hc' (fun b C s R hx hb meD fI hID hIC hcY kR=>?_) nI hk ⟨_,_,rfl⟩ sub me1 f1 meI kI hIt fun b C s' acc M' hj me' ⟨mR,hN⟩ nC CY st f'=>?_
  ·have hy':(cenvOf scope env C).kindOf y=some .local:=by
    show(compEnvC scope _ C env).kindOf y=some .local
    rw [dS f1.kind,dD,hy];rfl
   rw [hcp]at fI
   exact wC (acc:=[]) J hx hy' hd (fun v=>hs2 _ v) (fun d ds acc hj=>Tr.mono (oM a (turn C b d ds acc hb hj)) fun v M1 q=>by
    obtain⟨es,M3,h1,rfl,h2,h3⟩:=dW q
    exact⟨es,h1,h2,h3⟩) g hJ meD fI hID hIC (.head _) hcY (Step.refl _ _) fun s' acc' hj me' hN t'=>kR s' (acc'.map .fz) _ ⟨acc',hj,rfl,hb⟩ me' hN t'
  ·obtain⟨acc',hj,rfl,hb⟩:=hj
   refine⟨mR,hN,fun h'' hs''=>?_⟩
   have hk2:∀b o,b∉[C]→s'.heap.get? b=some o→h''.get? b=some o:=fun b o nb e=>(hs''.2 b (by simpa using nb)).trans e
   refine ResG.step t1 ⟨.loc b,_,done b acc' hb hj,rfl,me'.leave (N:=[C]) hk2 (by simpa using CY),?_⟩
   refine⟨fun b o e nb=>hk2 b o (fun hb=>by rw [mSp hb,nC]at e;exact aF e) (st.keep b o e nb),?_,st.new⟩
   obtain⟨h2,tk2,e⟩:=st.rest
   exact⟨h'',tk2,by rw [e]⟩⟩
theorem D8 {κ:Ks}(a:aG W) (he:env.scope.names=κ) (J:List D→List D→Prop) {iter iter2:Expr}{x y yt:Str}{px py py2 pyt:Pos}{scope:Scope}{pos spos:Pos}{Q:bG}(hc:bK κ scope x=true) (hy:lk y scope.names=some .local) (hcp:dR scope.names m = []) (hd:(y==("__debug__" : Str))=false) (hyt:kIs κ yt kSt=true)
  (hs:∀x,foldedSetIterable iter env x=pure x) (hs2:∀e x,foldedSetIterable iter2 e x=pure x)
  (h:mE aU ⟨W,n,env,κ⟩ m iter (fun v M1=>gN M1 v fun ds M2=>M2=M∧J ds []) M)
  (turn:∀C b d ds acc,b∉foot M→J (d::ds) acc→mE aU ⟨W,n,cenvOf scope env C,scope.names⟩ [(x,.fz d)] iter2 (fun v M1=>gN M1 v fun es M2=>M2=(b,.lst (acc.map .fz))::M∧acc.length+es.length≤1000000∧J ds (acc++es)) ((b,.lst (acc.map .fz))::M))
  (done:∀b acc,b∉foot M→J [] acc→Fz (Q .next) (bE yt (.loc b) m) ((b,.lst (acc.map .fz))::M)):Lf (TS W n env (.Assign [.Name yt pyt] (.ListComp (.Name y py) [⟨.Name x px,iter,[],0⟩,⟨.Name y py2,iter2,[],0⟩] scope pos) spos) m (FzQ Q) M) :=
 ⟨fun A Y s g me f=>by
  have hyt':bW env yt=true:=iC (cA he) hyt
  have hsw:swapsWith (.ListComp (.Name y py) [⟨.Name x px,iter,[],0⟩,⟨.Name y py2,iter2,[],0⟩] scope pos) (some (.Name yt pyt)) spos.line env=pure true∨swapsWith (.ListComp (.Name y py) [⟨.Name x px,iter,[],0⟩,⟨.Name y py2,iter2,[],0⟩] scope pos) (some (.Name yt pyt)) spos.line env=pure false:=by
   show(pure _:Sem Bool)=pure true∨(pure _:Sem Bool)=pure false
   generalize (env.blockKind==.function&&env.kindOf yt==some .local&&pyt.line==_&&_)=b
   cases b
   ·exact .inr rfl
   ·exact .inl rfl
  rcases hsw with hsw|hsw
  ·have hc':bK env.scope.names scope x=true:=by rw [he];exact hc
   obtain⟨c1,c2,c3,c4,c5,c6⟩:=cI hc'
   rw [exec_Assign_Name_used _ _ _ _ hsw]
   refine wpAny_bind (wpAny_standAt (wpAny_bind ?_))
   show wpAny _ A (do let _←comprehension (.ListComp (.Name y py) [⟨.Name x px,iter,[],0⟩,⟨.Name y py2,iter2,[],0⟩] scope pos) scope env _ (newList []) false (eval iter env) (some (assign (.Name yt pyt) env))) _ _ s
   refine wpAny_bind (wpAny_mono (wpAny_comprehension_free (use:=some (assign (.Name yt pyt) env)) (Q:=fun _ s'=>ResS W Y env M s (FzQ Q) .next s') rfl hs (gH (κ:=env.scope.names) hc' f) c1 c4 ((lL a he h).use g me f fun z s1 v M1 q rv me1 f1 t1=>?_)) (fun _ s' hq=>wpAny_pure (wpAny_pure hq)) fun _ _ e=>e)
   obtain⟨ds,M2,hrow,rfl,hJ⟩:=dW q
   refine jM me1 hrow rv fun I h' nI aI hk meI kI hM2 hIt=>?_
   have sub:∀b∈foot M2,b∈foot M1:=by
    rcases hM2 with rfl|⟨b,rfl⟩
    ·exact fun _ h=>h
    ·exact fun _ h=>cG h
   refine lZ (s2:={s1 with heap:=h'}) (K:=fun acc C=>compPost W.M A NoE (some (assign (.Name yt pyt) env)) _ acc C) (fun b acc M'=>∃acc',J [] acc'∧M'=(b,.lst (acc'.map .fz))::M2∧b∉foot M2) hc' (fun b C s R hx hb meD fI hID hIC hcY kR=>?_) nI hk ⟨_,_,rfl⟩ sub me1 f1 meI kI hIt fun b C s' acc M' hj me' ⟨mR,hN⟩ nC CY st f'=>?_
   ·have hy':(cenvOf scope env C).kindOf y=some .local:=by
     show(compEnvC scope _ C env).kindOf y=some .local
     rw [dS f1.kind,dD,hy];rfl
    rw [hcp]at fI
    exact wC (acc:=[]) J hx hy' hd (fun v=>hs2 _ v) (fun d ds acc hj=>Tr.mono (oM a (turn C b d ds acc hb hj)) fun v M1 q=>by
     obtain⟨es,M3,h1,rfl,h2,h3⟩:=dW q
     exact⟨es,h1,h2,h3⟩) g hJ meD fI hID hIC (.head _) hcY (Step.refl _ _) fun s' acc' hj me' hN t'=>kR s' (acc'.map .fz) _ ⟨acc',hj,rfl,hb⟩ me' hN t'
   ·obtain⟨acc',hj,rfl,hb⟩:=hj
    exact mS hyt' f1 me1 me' hN nC CY st t1.fr (done b acc' hb hj)
  ·exact mQ hyt' hsw (sQ a he J hc hy hcp hd hs hs2 h turn fun b acc hb hj=>.done (done b acc hb hj)).go.ghost A Y s g me f⟩
theorem M9 {T:Tk}(a:aG T.W) (he:T.env.scope.names=T.κ) (J:List D→List D→Prop) {iter iter2:Expr}{x y:Str}{px py py2:Pos}{scope:Scope}{pos:Pos}(hc:bK T.κ scope x=true) (hy:lk y scope.names=some .local) (hcp:dR scope.names m = []) (hd:(y==("__debug__" : Str))=false)
  (hs:∀x,foldedSetIterable iter T.env x=pure x) (hs2:∀e x,foldedSetIterable iter2 e x=pure x)
  (h:mE aU T m iter (fun v M1=>gN M1 v fun ds M2=>M2=M∧J ds []) M)
  (turn:let J1:=J;∀C b d ds acc,b∉foot M→J1 (d::ds) acc→mE aU (cT T scope C) [(x,.fz d)] iter2 (fun v M1=>gN M1 v fun es M2=>M2=(b,.lst (acc.map .fz))::M∧acc.length+es.length≤1000000∧J1 ds (acc++es)) ((b,.lst (acc.map .fz))::M))
  (done:∀b acc,b∉foot M→J [] acc→Gh Q (.loc b) ((b,.lst (acc.map .fz))::M)):Lf (TE T.W T.n T.env m (.ListComp (.Name y py) [⟨.Name x px,iter,[],0⟩,⟨.Name y py2,iter2,[],0⟩] scope pos) (Gh Q) M) :=
 sQ a he J hc hy hcp hd hs hs2 h turn done
theorem V4 {T:Tk}(a:aG T.W) (he:T.env.scope.names=T.κ) (J:List D→List D→Prop) {iter iter2:Expr}{x y yt:Str}{px py py2 pyt:Pos}{scope:Scope}{pos spos:Pos}{Q:bG}(hc:bK T.κ scope x=true) (hy:lk y scope.names=some .local) (hcp:dR scope.names m = []) (hd:(y==("__debug__" : Str))=false) (hyt:kIs T.κ yt kSt=true)
  (hs:∀x,foldedSetIterable iter T.env x=pure x) (hs2:∀e x,foldedSetIterable iter2 e x=pure x)
  (h:mE aU T m iter (fun v M1=>gN M1 v fun ds M2=>M2=M∧J ds []) M)
  (turn:let J1:=J;∀C b d ds acc,b∉foot M→J1 (d::ds) acc→mE aU (cT T scope C) [(x,.fz d)] iter2 (fun v M1=>gN M1 v fun es M2=>M2=(b,.lst (acc.map .fz))::M∧acc.length+es.length≤1000000∧J1 ds (acc++es)) ((b,.lst (acc.map .fz))::M))
  (done:∀b acc,b∉foot M→J [] acc→Fz (Q .next) (bE yt (.loc b) m) ((b,.lst (acc.map .fz))::M)):Lf (TS T.W T.n T.env (.Assign [.Name yt pyt] (.ListComp (.Name y py) [⟨.Name x px,iter,[],0⟩,⟨.Name y py2,iter2,[],0⟩] scope pos) spos) m (FzQ Q) M) :=
 D8 a he J hc hy hcp hd hyt hs hs2 h turn done
end
end
local macro_rules | `(tactic| delta $t:ident) => `(tactic| (intros; refine (?_ : $t ..)))
section
theorem ln1{α β:Type}{f:α→β}{l:List α}{k:Nat}(h:l.length≤k):(l.map f).length≤k:=Eq.substr (p:=(·≤k)) (List.length_map f) h
theorem ln4{α:Type}{a b:List α}{k:Nat}(h:a.length+b.length≤k):(a++b).length≤k:=Eq.substr (p:=(·≤k)) List.length_append h
theorem aM{b:Bool}{P R:Prop}(h1:b=true→P)(h2:b=false→R):bif b then P else R:=by
 cases b with
 |true=>exact h1 rfl
 |false=>exact h2 rfl
theorem bt{b:Bool}{P R:Prop}(h:b=true)(p:P):bif b then P else R:=by subst h;exact p
theorem bf{b:Bool}{P R:Prop}(h:b=false)(p:R):bif b then P else R:=by subst h;exact p
theorem dt{p:Prop}[Decidable p](h:p):decide p=true:=decide_eq_true h
theorem df{p:Prop}[Decidable p](h:¬p):decide p=false:=decide_eq_false h
theorem nt{b:Bool}(h:b=false):(!b)=true:=by rw [h];rfl
theorem nf{b:Bool}(h:b=true):(!b)=false:=by rw [h];rfl
theorem et{a b:Int}(h:a=b):(a==b)=true:=beq_iff_eq.mpr h
theorem ef{a b:Int}(h:a≠b):(a==b)=false:=beq_false_of_ne h
variable{W:Wd}{n:Nat}{M:Led}{Q:aJ}
theorem wA(a:aG W){v lo hi:Int}(q:Q (.fz (.bool (decide (lo≤v)&&decide (v≤hi)))) M):aA W (n+1) .is_whole [.fz (.int v),.fz (.int lo),.fz (.int hi)] Q M:=by
 refine aH ‹_› rfl rfl rfl rfl rfl fun en_ he_=>?_;intro T;delta cond
 refine aM (b:=decide (lo≤v)) (fun h=>?_) fun h=>?_
 ·exact .done (by rw [h]at q;exact q)
 ·exact .done (by rw [h]at q;exact q)
theorem aP(a:aG W){v lo hi:Int}(h1:lo≤v)(h2:v≤hi)(q:Q (.fz (.bool true)) M):aA W (n+1) .is_whole [.fz (.int v),.fz (.int lo),.fz (.int hi)] Q M :=
 wA a (by rw [decide_eq_true h1,decide_eq_true h2];exact q)
theorem eW(a:aG W){v:Int}(q:Q (.fz (.int v)) M):aA W (n+1) .check_whole [.fz (.int v)] Q M:=by
 refine aH ‹_› rfl rfl rfl rfl rfl fun en_ he_=>?_;intro T;delta Gh
 exact .done q
theorem nO(a:aG W){v:Int}(h1 : -2147483647≤v)(h2:v≤2147483647)(q:Q (.fz (.int v)) M):aA W (n+2) .check_number [.fz (.int v)] Q M:=by
 refine aH ‹_› rfl rfl rfl rfl rfl fun en_ he_=>?_;intro T;delta Lf
 refine⟨eW a ?_⟩
 delta cond
 refine bt (dt h1) ?_
 delta cond
 refine bf (nf (dt h2)) ?_
 delta Gh
 exact .done q
theorem bO(a:aG W){v:Int}(h1 : -1073741823≤v)(h2:v≤1073741823)(q:Q (.fz (.int v)) M):aA W (n+2) .check_dimen [.fz (.int v)] Q M:=by
 refine aH ‹_› rfl rfl rfl rfl rfl fun en_ he_=>?_;intro T;delta Lf
 refine⟨eW a ?_⟩
 delta cond
 refine bt (dt h1) ?_
 delta cond
 refine bf (nf (dt h2)) ?_
 delta Gh
 exact .done q
theorem xU(a:aG W){v:Int}(h1 : -1073741823≤v)(h2:v≤1073741823)(q:Q (.fz (.bool true)) M):aA W (n+2) .is_size [.fz (.int v)] Q M:=by
 refine aH ‹_› rfl rfl rfl rfl rfl fun en_ he_=>?_;intro T;delta Lf
 exact⟨aP a h1 h2 (.done q)⟩
theorem fS(a:aG W){v:Int}(h1:0≤v)(h2:v≤255)(q:Q (.fz (.int v)) M):aA W (n+2) .check_code [.fz (.int v)] Q M:=by
 refine aH ‹_› rfl rfl rfl rfl rfl fun en_ he_=>?_;intro T;delta Lf
 refine⟨aP a h1 h2 ?_⟩
 delta Gh
 exact .done q
theorem gY(a:aG W){v:Int}(h:v≤60)(q:Q (.fz .none) M):aA W (n+1) .check_depth [.fz (.int v)] Q M:=by
 refine aH ‹_› rfl rfl rfl rfl rfl fun en_ he_=>?_;intro T;delta cond
 refine bf (df (by exact IU h)) ?_
 delta Gh
 exact .done q
theorem xS(a:aG W){v:Int}(h1:0≤v)(h2:v<1048576)(q:Q (.fz (.int (14*1048576+v))) M):aA W (n+1) .key [.fz (.int 14),.fz (.int v)] Q M:=by
 refine aH ‹_› rfl rfl rfl rfl rfl fun en_ he_=>?_;intro T;delta cond
 refine bt (dt h1) ?_
 delta cond
 refine bf (nf (dt h2)) ?_
 delta And
 refine⟨IntMulOk.of_left (PySem.intBits_le_iff.mpr (by decide)),?_⟩
 delta Gh
 exact .done q
theorem lD(k:aG W){c:Cn}{vs:List V}(h:∀a d,a∉foot M→d∉foot M→d≠a→aA W n (initOf c) (.loc a::vs) (fun v N=>v = .fz .none∧Gh Q (.loc a) N) ((a,.inst c d [] [])::M)):bN W (n+1) c vs Q M:=fun A Y s xs g me r =>
 wpAny_mono (P2 k.wk k.nk k.fk (n:=n) (Q:=Gh Q) h A Y s xs g me r) (fun _ _ z=>z.ghost) fun _ _ x=>x
theorem sZ{c:Cn}{a d:Addr}{ds:List D}(q:Q (.fz (.inst c ds)) M):Gh Q (.loc a) ((a,.inst c d (fields c) (ds.map .fz))::M) :=
 .freeze a 0 look_self (show Cell.frz _=some (.inst c ds) by simp only [Cell.frz,if_true,bM,Option.map_some]) (by
  rw [aB]
  exact .done (by simpa [V.sub,iF,iI]using q))
theorem eI(k:aG W){c:Cn}{vs:List V}{ds:List D}(h:∀a d,aA W n (initOf c) (.loc a::vs) (fun v N=>v = .fz .none∧N=(a,.inst c d (fields c) (ds.map .fz))::M) ((a,.inst c d [] [])::M))(q:Q (.fz (.inst c ds)) M):bN W (n+1) c vs Q M :=
 lD k fun a d _ _ _=>aA.mono (h a d) fun v N ⟨e1,e2⟩=>⟨e1,by subst e2;exact sZ q⟩
noncomputable def vH(w s sh:Int):D:=.inst .Glue [.int w,.int s,.int 0,.int sh,.int 0]
theorem E4(k:aG W)(q:Q (.fz (vH 7 0 0)) M):bN W (n+4) .Glue [.fz (.int 7)] Q M:=by
 refine eI k (fun a d=>?_) q
 refine aH ‹_› rfl rfl rfl rfl rfl fun en_ he_=>?_;intro T;delta Lf
 refine⟨aP k (by decide) (by decide) ?_⟩
 delta Lf
 refine⟨aP k (by decide) (by decide) ?_⟩
 delta Lf
 refine⟨bO k (by decide) (by decide) ?_⟩
 delta atC
 refine⟨_,look_self,?_⟩;delta putTo;refine⟨_,aC,?_⟩;delta Lf
 refine⟨bO k (by decide) (by decide) ?_⟩
 delta atC
 refine⟨_,look_self,?_⟩;delta putTo;refine⟨_,aC,?_⟩;delta atC
 refine⟨_,look_self,?_⟩;delta putTo;refine⟨_,aC,?_⟩;delta Lf
 refine⟨bO k (by decide) (by decide) ?_⟩
 delta atC
 refine⟨_,look_self,?_⟩;delta putTo;refine⟨_,aC,?_⟩;delta atC
 refine⟨_,look_self,?_⟩;delta putTo;refine⟨_,aC,?_⟩;delta Gh
 exact .done ⟨rfl,rfl⟩
theorem D5(k:aG W)(q:Q (.fz (vH 4 2 1)) M):bN W (n+4) .Glue [.fz (.int 4),.fz (.int 2),.fz (.int 0),.fz (.int 1)] Q M:=by
 refine eI k (fun a d=>?_) q
 refine aH ‹_› rfl rfl rfl rfl rfl fun en_ he_=>?_;intro T;delta Lf
 refine⟨aP k (by decide) (by decide) ?_⟩
 delta Lf
 refine⟨aP k (by decide) (by decide) ?_⟩
 delta Lf
 refine⟨bO k (by decide) (by decide) ?_⟩
 delta atC
 refine⟨_,look_self,?_⟩;delta putTo;refine⟨_,aC,?_⟩;delta Lf
 refine⟨bO k (by decide) (by decide) ?_⟩
 delta atC
 refine⟨_,look_self,?_⟩;delta putTo;refine⟨_,aC,?_⟩;delta atC
 refine⟨_,look_self,?_⟩;delta putTo;refine⟨_,aC,?_⟩;delta Lf
 refine⟨bO k (by decide) (by decide) ?_⟩
 delta atC
 refine⟨_,look_self,?_⟩;delta putTo;refine⟨_,aC,?_⟩;delta atC
 refine⟨_,look_self,?_⟩;delta putTo;refine⟨_,aC,?_⟩;delta Gh
 exact .done ⟨rfl,rfl⟩
theorem rR(k:aG W){w s sh:Int}(q:Q (.fz (.tup [.int w,.int s,.int 0,.int sh,.int 0])) M):aA W (n+1) .Glue_parts [.fz (vH w s sh)] Q M:=by
 refine aH ‹_› rfl rfl rfl rfl rfl fun en_ he_=>?_;intro T;delta Gh
 exact .done q
theorem zE(k:aG W){f:D}{c:Int}(h1:0≤c)(h2:c≤255)(q:Q (.fz (.inst .Char [f,.int c])) M):bN W (n+4) .Char [.fz f,.fz (.int c)] Q M:=by
 refine eI k (fun a d=>?_) q
 refine aH ‹_› rfl rfl rfl rfl rfl fun en_ he_=>?_;intro T;delta atC
 refine⟨_,look_self,?_⟩;delta putTo;refine⟨_,aC,?_⟩;delta Lf
 refine⟨fS k h1 h2 ?_⟩
 delta atC
 refine⟨_,look_self,?_⟩;delta putTo;refine⟨_,aC,?_⟩;delta Gh
 exact .done ⟨rfl,rfl⟩
theorem oJ(k:aG W){w s:Int}(h1 : -1000≤w)(h2:w≤1000)(h3:0≤s)(h4:s≤3)(q:Q (.fz (.inst .Kern [.int w,.int s])) M):bN W (n+4) .Kern [.fz (.int w),.fz (.int s)] Q M:=by
 refine eI k (fun a d=>?_) q
 refine aH ‹_› rfl rfl rfl rfl rfl fun en_ he_=>?_;intro T;delta Lf
 refine⟨aP k h3 h4 ?_⟩
 delta Lf
 refine⟨bO k (by exact GO h1) (by exact EK h2) ?_⟩
 delta atC
 refine⟨_,look_self,?_⟩;delta putTo;refine⟨_,aC,?_⟩;delta atC
 refine⟨_,look_self,?_⟩;delta putTo;refine⟨_,aC,?_⟩;delta Gh
 exact .done ⟨rfl,rfl⟩
theorem zO(k:aG W){g:D}(q:Q (.fz (.inst .Skip [g,.int 0,.none])) M):bN W (n+4) .Skip [.fz g,.fz (.int 0)] Q M:=by
 refine eI k (fun a d=>?_) q
 refine aH ‹_› rfl rfl rfl rfl rfl fun en_ he_=>?_;intro T;delta Lf
 refine⟨aP k (by decide) (by decide) ?_⟩
 delta Exists
 refine⟨_,_,rfl,rfl,rfl,rfl,by decide,by decide,?_⟩
 delta atC
 refine⟨_,look_self,?_⟩;delta putTo;refine⟨_,aC,?_⟩;delta atC
 refine⟨_,look_self,?_⟩;delta putTo;refine⟨_,aC,?_⟩;delta atC
 refine⟨_,look_self,?_⟩;delta putTo;refine⟨_,aC,?_⟩;delta Gh
 exact .done ⟨rfl,rfl⟩
theorem xX(k:aG W){v:Int}(h1 : -1000≤v)(h2:v≤1000)(q:Q (.fz (.inst .Penalty [.int v])) M):bN W (n+4) .Penalty [.fz (.int v)] Q M:=by
 refine eI k (fun a d=>?_) q
 refine aH ‹_› rfl rfl rfl rfl rfl fun en_ he_=>?_;intro T;delta Lf
 refine⟨nO k (by exact JP h1) (by exact Hx h2) ?_⟩
 delta atC
 refine⟨_,look_self,?_⟩;delta putTo;refine⟨_,aC,?_⟩;delta Gh
 exact .done ⟨rfl,rfl⟩
theorem nG(k:aG W){b:Bool}{w:Int}(h1 : -1000≤w)(h2:w≤1000)(q:Q (.fz (.inst .MathEdge [.bool b,.int w])) M):bN W (n+4) .MathEdge [.fz (.bool b),.fz (.int w)] Q M:=by
 refine eI k (fun a d=>?_) q
 refine aH ‹_› rfl rfl rfl rfl rfl fun en_ he_=>?_;intro T;delta atC
 refine⟨_,look_self,?_⟩;delta putTo;refine⟨_,aC,?_⟩;delta Lf
 refine⟨bO k (by exact GO h1) (by exact EK h2) ?_⟩
 delta atC
 refine⟨_,look_self,?_⟩;delta putTo;refine⟨_,aC,?_⟩;delta Gh
 exact .done ⟨rfl,rfl⟩
structure Fnt where
 num:Int
 name:Str
 wd:Int
 ks:List Int
 rows:List (Int × Int)
 prog:List (Int × Int × Int × Int)
 kerns:List Int
 params:List Int
noncomputable def bF(r:Int × Int × Int × Int):D:=.tup [.int r.1,.int r.2.1,.int r.2.2.1,.int r.2.2.2]
noncomputable def dH(wd:Int)(r:Int × Int):D:=.tup [.int wd,.int 5,.int 0,.int 0,.int r.1,.int r.2]
noncomputable def Fnt.toD(f:Fnt):D:=.inst .Font [.int f.num,.str f.name,.int 655360,.int 655360,.int 0,.lst (f.params.map .int),.dct f.ks (f.rows.map (dH f.wd)),.tup (f.prog.map bF),.tup (f.kerns.map .int),.int 256,.int (-1),.int 45,.int (-1)]
inductive Sh where
 |char (f:Fnt) (c:Int)
 |lig (f:Fnt) (c:Int) (ps:List Int) (l r:Bool)
 |kern (w s:Int)
noncomputable def intsD(l:List Int):D:=.tup (l.map .int)
noncomputable def Sh.toD:Sh→D
 |.char f c=>.inst .Char [f.toD,.int c]
 |.lig f c ps l r=>.inst .Ligature [f.toD,.int c,intsD ps,.bool l,.bool r]
 |.kern w s=>.inst .Kern [.int w,.int s]
inductive Nd where
 |sh (s:Sh)
 |skip (w s t:Int)
 |pen (v:Int)
 |disc (a b c:List Sh)
 |math (on:Bool) (w:Int)
noncomputable def shL(l:List Sh):D:=.lst (l.map Sh.toD)
noncomputable def Nd.toD:Nd→D
 |.sh s=>s.toD
 |.skip w s t=>.inst .Skip [vH w s t,.int 0,.none]
 |.pen v=>.inst .Penalty [.int v]
 |.disc a b c=>.inst .Disc [shL a,shL b,shL c]
 |.math on w=>.inst .MathEdge [.bool on,.int w]
noncomputable def ndL(l:List Nd):D:=.lst (l.map Nd.toD)
noncomputable def Sh.codes:Sh→List Int
 |.char _ c=>[c]
 |.lig _ _ ps _ _=>ps
 |.kern _ _=>[]
noncomputable def Nd.codes:Nd→List Int
 |.sh s=>s.codes
 |_=>[]
theorem eL{s:Sh}:Nd.codes (.sh s)=s.codes:=rfl
noncomputable def Sh.isFK:Sh→Bool
 |.kern _ s=>s==0
 |_=>false
noncomputable def Nd.isFK:Nd→Bool
 |.sh s=>s.isFK
 |_=>false
noncomputable def Sh.ofF(n:Int):Sh→Bool
 |.char f _=>f.num==n
 |.lig f _ _ _ _=>f.num==n
 |.kern _ s=>s==0
noncomputable def Nd.ofF(n:Int):Nd→Bool
 |.sh s=>s.ofF n
 |_=>false
theorem aR(k:aG W){d:Nd}(q:Q (.fz (.bool d.isFK)) M):aA W (n+1) .is_font_kern [.fz d.toD] Q M:=by
 refine aH ‹_› rfl rfl rfl rfl rfl fun en_ he_=>?_;intro T;conv=>whnf
 rcases d with(_|_|_)|_|_|_|_ <;>(delta Gh;exact .done q)
theorem cO(k:aG W){d:Nd}(q:Q (.fz (intsD d.codes)) M):aA W (n+1) .codes_of [.fz d.toD] Q M:=by
 refine aH ‹_› rfl rfl rfl rfl rfl fun en_ he_=>?_;intro T;conv=>whnf
 rcases d with(_|_|_)|_|_|_|_ <;>(delta Gh;exact .done q)
theorem fU(k:aG W){d:Nd}{f:Fnt}(q:Q (.fz (.bool (d.ofF f.num))) M):aA W (n+2) .is_of_font [.fz d.toD,.fz f.toD] Q M:=by
 refine aH ‹_› rfl rfl rfl rfl rfl fun en_ he_=>?_;intro T;conv=>whnf
 rcases d with(_|_|⟨w,s⟩)|⟨w,s,t⟩|v|⟨a,b,c⟩|⟨o,w⟩
 ·delta Gh;exact .done q
 ·delta Gh;exact .done q
 ·delta Lf;exact⟨aR (d:=.sh (.kern w s)) k (.done q)⟩
 ·delta Lf;exact⟨aR (d:=.skip w s t) k (.done q)⟩
 ·delta Lf;exact⟨aR (d:=.pen v) k (.done q)⟩
 ·delta Lf;exact⟨aR (d:=.disc a b c) k (.done q)⟩
 ·delta Lf;exact⟨aR (d:=.math o w) k (.done q)⟩
noncomputable def Nd.mark:Nd→D
 |.sh (.char f c)=>.tup [.int 0,.int f.num,.int c]
 |.sh (.lig f c ps l r)=>.tup [.int 1,.int f.num,.int c,intsD ps,.bool l,.bool r]
 |.sh (.kern w s)=>.tup [.int 5,.int w,.int s]
 |.skip _ _ _=>.tup [.int 6]
 |.pen _=>.tup [.int 7]
 |.disc _ _ _=>.tup [.int 8]
 |.math _ _=>.tup [.int 12]
theorem eZ(k:aG W){d:Nd}(q:Q (.fz d.mark) M):aA W (n+1) .mark_of [.fz d.toD] Q M:=by
 refine aH ‹_› rfl rfl rfl rfl rfl fun en_ he_=>?_;intro T;conv=>whnf
 rcases d with(_|_|_)|_|_|_|_ <;>(delta Gh;exact .done q)
end
section
variable{W:Wd}{n:Nat}{M:Led}{Q:aJ}
theorem fE(k:aG W){l:List Sh}(q:Q (.fz (shL l)) M):aA W (n+1) .check_short [.fz (shL l)] Q M:=by
 refine aH ‹_› rfl rfl rfl rfl rfl fun en_ he_=>?_;intro T;delta Lf
 refine aX k ‹_› (fun ds m M'=>∀R:Loc→Led→Prop,(∀(l':List Sh),ds=l'.map Sh.toD→R [("items",.fz (shL l))] M)→R m M') rfl (fun _=>rfl) ?_ ?_ ?_
 ·conv=>whnf
  exact fun R F=>F l rfl
 ·intro J1 Q1 d ds m M' hj
  apply hj;clear hj
  intro l' e
  rcases l' with _|⟨s,l'⟩
  ·exact bV e
  ·cases e
   rcases s with _|_|_ <;>(delta Fz;exact .sub [("items",.fz (shL l))] rfl (.go (fun R F=>F _ rfl)))
 ·intro m M' hj
  apply hj;clear hj
  intro _ _
  refine .go ?_
  delta Gh
  exact .done q
theorem b8(k:aG W){a b c:List Sh}(q:Q (.fz (Nd.disc a b c).toD) M):bN W (n+4) .Disc [.fz (shL a),.fz (shL b),.fz (shL c)] Q M:=by
 refine eI k (fun a d=>?_) q
 refine aH ‹_› rfl rfl rfl rfl rfl fun en_ he_=>?_;intro T;delta Lf
 refine⟨fE k ?_⟩
 delta atC
 refine⟨_,look_self,?_⟩;delta putTo;refine⟨_,aC,?_⟩;delta Lf
 refine⟨fE k ?_⟩
 delta atC
 refine⟨_,look_self,?_⟩;delta putTo;refine⟨_,aC,?_⟩;delta Lf
 refine⟨fE k ?_⟩
 delta atC
 refine⟨_,look_self,?_⟩;delta putTo;refine⟨_,aC,?_⟩;delta Gh
 exact .done ⟨rfl,rfl⟩
theorem tT{α:Type}:∀{n:Nat}{l:List α},l.length≤n→few n l=true
 |n,[],_=>by cases n <;> rfl
 |0,_::l,h=>by simp at h
 |n+1,_::l,h=>by
  show few n l=true
  exact tT (by simpa using h)
def Oct(l:List Int):Prop:=∀c∈l,0≤c∧c≤255
theorem kT(k:aG W){f:Fnt}{c:Int}{ps:List Int}{p:D}{l r:Bool}{vs:List V}(ha:∀a,d5 (bD (initOf .Ligature)).args (dfltOf (initOf .Ligature)) (.loc a::vs)=true)
  (e:∀a,uL (bD (initOf .Ligature)).args (dfltOf (initOf .Ligature)) (.loc a::vs)=([("self",.loc a),("font",.fz f.toD),("code",.fz (.int c)),("parts",.fz p),("left",.fz (.bool l)),("right",.fz (.bool r))]:Loc)) (hp:p=intsD ps∨p = .lst (ps.map .int)) (hl:ps.length≤1000) (h1:0≤c) (h2:c≤255) (h3:Oct ps) (q:Q (.fz (Sh.lig f c ps l r).toD) M) :
  bN W (n+4) .Ligature vs Q M:=by
 refine eI k (fun a d=>?_) q
 refine aH (by assumption) rfl rfl rfl rfl (ha a) fun env he=>?_
 intro T
 rw [e a]
 clear e ha
 delta atC
 refine⟨_,look_self,?_⟩;delta putTo;refine⟨_,aC,?_⟩;delta Lf
 refine⟨fS k h1 h2 ?_⟩
 delta atC
 refine⟨_,look_self,?_⟩;delta putTo;refine⟨_,aC,?_⟩;delta Lf
 refine mD k ‹_› (fun ds acc=>acc++ds=ps.map .int) rfl (fun _=>rfl) ?_ ?_ ?_
 ·rcases hp with rfl|rfl
  ·delta And
   exact⟨by exact ln1 (Nat.le_trans hl (by decide)),by exact rfl,rfl⟩
  ·delta And
   exact⟨by exact ln1 (Nat.le_trans hl (by decide)),by exact rfl,rfl⟩
 ·rintro P1 C b d ds acc hb e
  have hd:d∈ps.map D.int:=by rw [←e];simp
  obtain⟨c',hc,rfl⟩:=mMp hd
  delta Lf
  refine⟨fS k (h3 _ hc).1 (h3 _ hc).2 ?_⟩
  exact⟨_,rfl,rfl,by show _=_;exact(List.append_cons _ _ _).symm.trans (show acc++(_::ds)=_ from e)⟩
 ·rintro b acc hb e
  refine bZ ?_
  rw [List.append_nil]at e
  subst e
  delta And
  refine⟨by exact ln1 (Nat.le_trans hl (by decide)),?_⟩
  delta atC
  refine⟨_,look_self,?_⟩;delta putTo;refine⟨_,aC,?_⟩;delta atC
  refine⟨_,look_self,?_⟩;delta putTo;refine⟨_,aC,?_⟩;delta atC
  refine⟨_,look_self,?_⟩;delta putTo;refine⟨_,aC,?_⟩;delta Gh
  exact .done ⟨rfl,rfl⟩
theorem uW(k:aG W){f:Fnt}{c:Int}{ps:List Int}{p:D}{l r:Bool}(hp:p=intsD ps∨p = .lst (ps.map .int))(hl:ps.length≤1000)(h1:0≤c)(h2:c≤255)(h3:Oct ps)(q:Q (.fz (Sh.lig f c ps l r).toD) M) :
  bN W (n+4) .Ligature [.fz f.toD,.fz (.int c),.fz p,.fz (.bool l),.fz (.bool r)] Q M:=kT k (fun _=>rfl) (fun _=>rfl) hp hl h1 h2 h3 q
theorem tY(k:aG W){f:Fnt}{c:Int}{ps:List Int}{p:D}(hp:p=intsD ps∨p = .lst (ps.map .int))(hl:ps.length≤1000)(h1:0≤c)(h2:c≤255)(h3:Oct ps)(q:Q (.fz (Sh.lig f c ps false false).toD) M) :
  bN W (n+4) .Ligature [.fz f.toD,.fz (.int c),.fz p] Q M:=kT k (fun _=>rfl) (fun _=>rfl) hp hl h1 h2 h3 q
noncomputable def bC:List Int:=[97,98,99,39,45,1,2]
noncomputable def low(c:Int):Int:=if c>96 then c else 0
noncomputable def fR:D:=.inst .LowerCodes [.dct (bC.map fun c=>14*1048576+c) (bC.map fun c=>.int (low c))]
theorem pF(k:aG W){c:Int}(hc:c∈bC)(q:Q (.fz (.int (low c))) M):aA W (n+2) .LowerCodes_lower [.fz fR,.fz (.int c)] Q M:=by
 have hr:0≤c∧c<1048576:=by
  simp only [bC,List.mem_cons,List.not_mem_nil,or_false]at hc
  exact q_8 hc
 have hg:∀v:V,((dGet (14*1048576+c) (bC.map fun c=>14*1048576+c) ((bC.map fun c=>D.int (low c)).map V.fz)).getD v) = .fz (.int (low c)):=by
  intro v
  simp only [bC,List.mem_cons,List.not_mem_nil,or_false]at hc
  rcases hc with rfl|rfl|rfl|rfl|rfl|rfl|rfl <;> rfl
 refine aH ‹_› rfl rfl rfl rfl rfl fun en_ he_=>?_;intro T;delta Lf
 refine⟨xS k hr.1 hr.2 ?_⟩
 delta Exists
 refine⟨_,_,_,rfl,hg _,?_⟩
 delta Gh
 exact .done q
noncomputable def Fnt.row(f:Fnt)(c:Int):Int × Int:=(dGet c f.ks f.rows).getD (0,0)
noncomputable def Fnt.starts(f:Fnt)(c:Int):Int:=if c=256 then -1 else if (f.row c).1=1 then(f.row c).2 else -1
theorem D3(k:aG W){f:Fnt}{c:Int}(q:Q (.fz (.bool (decide (c∈f.ks)))) M):aA W (n+1) .Font_has [.fz f.toD,.fz (.int c)] Q M:=by
 refine aH ‹_› rfl rfl rfl rfl rfl fun en_ he_=>?_;intro T;delta Gh
 exact .done q
theorem sF(k:aG W){f:Fnt}{c:Int}(q:Q (.fz (.int (f.starts c))) M):aA W (n+1) .Font_starts [.fz f.toD,.fz (.int c)] Q M:=by
 refine aH ‹_› rfl rfl rfl rfl rfl fun en_ he_=>?_;intro T;delta cond
 refine aM (b:=c==256) (fun h=>?_) fun h=>?_
 ·delta Gh
  refine .done ?_
  unfold Fnt.starts at q
  rw [if_pos (eq_of_beq h)]at q
  exact q
 ·delta Exists
  have hc:c≠256:=by simpa using h
  unfold Fnt.starts at q
  rw [if_neg hc]at q
  have key:∃w x y z:Int,(dGet c f.ks ((f.rows.map (dH f.wd)).map V.fz)).getD (.fz (.tup [.int 0,.int 0,.int 0,.int 0,.int 0,.int 0])) = .fz (.tup [.int w,.int x,.int y,.int z,.int (f.row c).1,.int (f.row c).2]):=by
   rw [cP,cP]
   unfold Fnt.row
   cases dGet c f.ks f.rows with
   |none=>exact⟨0,0,0,0,rfl⟩
   |some r=>exact⟨_,_,_,_,rfl⟩
  obtain⟨w,x,y,z,e⟩:=key
  refine⟨_,_,_,rfl,e,?_⟩
  delta And
  refine⟨rfl,_,rfl,?_⟩
  delta cond
  refine aM (b:=(f.row c).1==1) (fun h=>?_) fun h=>?_
  ·delta And
   refine⟨rfl,_,rfl,?_⟩
   delta Gh
   rw [if_pos (by simpa using h)]at q
   exact .done q
  ·delta Gh
   rw [if_neg (by simpa using h)]at q
   exact .done q
end
section
variable{W:Wd}{n:Nat}{M:Led}{Q:aJ}
noncomputable def OPS:List Int:=[0,1,2,3,5,6,7,11]
noncomputable def FOL:List Int:=[97,98,99,45,39]
theorem P3:∀c∈FOL,0≤c∧c≤255:=by decide
theorem BJ:∀c∈FOL,c<256:=by decide
theorem oK:∀c∈OPS,0≤c∧c≤11:=by decide
def h9(r:Int × Int × Int × Int):Prop:=(r.1=0∨r.1=128)∧r.2.1∈FOL∧((r.2.2.1=128∧(r.2.2.2=0∨r.2.2.2=1))∨(r.2.2.1∈OPS∧(r.2.2.2=1∨r.2.2.2=2)))
structure FOk(f:Fnt):Prop where
 rows:∀r∈f.prog,h9 r
 stop:∀i r,f.prog[i]?=some r→i+1=f.prog.length→r.1=128
 st:∀c,f.starts c = -1∨(0≤f.starts c∧f.starts c<f.prog.length∧(c=97∨c=98∨c=45))
 ker:f.prog≠[]→f.kerns = [3,-2]
 few:f.prog.length≤100
 ks:f.ks = [97,98,99,39,45,1,2]∨f.ks = [97,98,99,39,45]
theorem D1{f:Fnt}{p:Nat}{r:Int × Int × Int × Int}(h:f.prog[p]?=some r):cQ (f.prog.map bF) (p:Int)=some (bF r):=by
 unfold cQ
 rw [if_pos (by exact l6)]
 simp [h]
theorem gG{a b:Int}(h:a.natAbs<2 ^ 64):IntMulOk a b:=IntMulOk.of_left (PySem.intBits_le_iff.mpr h)
theorem i9(k:aG W){f:Fnt}(hf:FOk f){l r:Int}(q0:Q (.fz .none) M)(q1:(l=97∨l=98∨l=45)→r∈FOL→∀w,(w=3∨w = -2)→Q (.fz (.tup [.int 0,.int w])) M)
  (q2:(l=97∨l=98∨l=45)→r∈FOL→∀op∈OPS,∀c,(c=1∨c=2)→Q (.fz (.tup [.int (op+1),.int c])) M):aA W (n+2) .look [.fz f.toD,.fz (.int l),.fz (.int r)] Q M:=by
 refine aH ‹_› rfl rfl rfl rfl rfl fun en_ he_=>?_;intro T;delta Lf
 refine⟨sF k ?_⟩
 delta cond
 refine aM (b:=decide (f.starts l<0)) (fun h=>?_) fun h=>?_
 ·delta cond
  exact .done q0
 delta cond
 refine aM (b:=r==256) (fun h2=>?_) fun h2=>?_
 ·delta cond
  exact .done q0
 delta cond
 have h1:¬f.starts l<0:=of_decide_eq_false h
 obtain⟨hs0,hs1,hl⟩:0≤f.starts l∧f.starts l<f.prog.length∧(l=97∨l=98∨l=45):=by
  rcases hf.st l with e|e
  ·lia
  ·exact e
 obtain⟨p,hp⟩:∃p:Nat,f.starts l=p:=⟨(f.starts l).toNat,by exact II h⟩
 rw [hp]at hs1
 have hpl:p<f.prog.length:=by exact jO ‹_›
 have hlen:few 1000000 (f.prog.map bF)=true:=tT (by rw [List.length_map];exact Nat.le_trans hf.few (by decide))
 refine bt (nt (ef (by rcases hl with rfl|rfl|rfl <;> decide))) ?_
 delta And
 have hr:f.prog[p]?=some f.prog[p]:=List.getElem?_eq_getElem hpl
 have ho:=hf.rows _ (List.getElem_mem hpl)
 refine⟨hlen,_,(by rw [hp];exact D1 hr),?_⟩
 delta And
 refine⟨rfl,_,rfl,?_⟩
 delta cond
 refine bf (df (by rcases ho.1 with e|e <;>(first|exact ID hpl e|exact Iy hpl e))) ?_
 delta cond
 refine cJ k ‹_› (fun j m M'=>∀R:Nat→Loc→Led→Prop,(∀(p:Nat),∀(g:Bool),(g=true→p<f.prog.length)→R (if g then f.prog.length-p+1 else 0) [("font",.fz f.toD),("left",.fz (.int l)),("right",.fz (.int r)),("place",.fz (.int p)),("program",.fz (.tup (f.prog.map bF))),("going",.fz (.bool g))] M)→R j m M') (k:=f.prog.length-p+1) (fun R F=>R3 rfl (by rw [hp];rfl) rfl (F p true (fun _=>hpl))) ?_
 intro I1 Q0 Q1 j m M' hj
 apply hj;clear hj
 intro p g hg
 delta cond
 cases g with
 |false =>
  delta cond
  refine .go ?_
  delta Gh
  exact .done q0
 |true =>
  have hpl:=hg rfl
  have hr:f.prog[p]?=some f.prog[p]:=List.getElem?_eq_getElem hpl
  have ho:=hf.rows _ (List.getElem_mem hpl)
  have hst:=hf.stop p _ hr
  generalize f.prog[p]=row at hr ho hst
  obtain⟨sk,fo,op,re⟩:=row
  obtain⟨o1,o2,o3⟩:=ho
  simp only at o1 o2 o3 hst
  delta And
  refine⟨hlen,_,D1 hr,?_⟩
  delta cond
  have next:∀(P:Prop),(((sk=0∧p+1<f.prog.length)∨sk=128)→P)→P:=fun P h=>h (by
   rcases o1 with rfl|rfl
   ·refine .inl ?_
    refine⟨rfl,?_⟩
    rcases Nat.lt_or_ge (p+1) f.prog.length with q|q
    ·exact q
    ·have:=hst (by lia);exact IJ this
   ·exact .inr rfl)
  refine aM (b:=fo==r) (fun e=>?_) fun e=>?_
  ·have e:fo=r:=by simpa using e
   subst e
   delta cond
   refine bt (dt (by exact JD o1)) ?_
   delta cond
   rcases o3 with⟨rfl,o3⟩|⟨o3,o4⟩
   ·delta And
    refine⟨gG (by decide),?_⟩
    delta And
    have hk:=hf.ker (by intro e;rw [e]at hpl;simp at hpl)
    have:∃w,cQ (f.kerns.map D.int) (256*(128-128)+re)=some (.int w)∧(w=3∨w = -2):=by
     rw [hk]
     rcases o3 with rfl|rfl
     ·exact⟨3,rfl,.inl rfl⟩
     ·exact⟨-2,rfl,.inr rfl⟩
    obtain⟨w,e1,e2⟩:=this
    refine⟨tT (by rw [hk];simp),_,e1,?_⟩
    delta Gh
    exact .done (q1 hl o2 w e2)
   ·have:op<128:=Int.lt_of_le_of_lt (oK op o3).2 (by decide)
    refine bf (df (p:=128≤op) (by exact Gy this)) ?_
    delta Or
    refine .inr ⟨true,_,OPS,rfl,rfl,?_⟩
    refine bt (dt o3) ?_
    delta Gh
    exact .done (q2 hl o2 op o3 re o4)
  ·delta cond
   refine next _ fun hn=>?_
   refine .sub [("font",.fz f.toD),("left",.fz (.int l)),("right",.fz (.int r)),("place",.fz (.int (p+sk+1))),("program",.fz (.tup (f.prog.map bF))),("going",.fz (.bool (decide (sk<128))))] rfl (.go ?_)
   rcases hn with⟨rfl,h⟩|rfl
   ·exact⟨f.prog.length-(p+1)+1,by(simp;lia),fun R F=>R3 (by exact rfl) (by exact rfl) rfl (F (p+1) true fun _=>h)⟩
   ·exact⟨0,by simp,fun R F=>R3 (by exact rfl) (by exact rfl) rfl (F (p+128+1) false fun h=>by simp at h)⟩
end
section
variable{W:Wd}{n:Nat}{M:Led}{Q:aJ}
structure It where
 c:Int
 ps:List Int
 made:Bool
noncomputable def It.toD(i:It):D:=.tup [.int i.c,intsD i.ps,.bool i.made]
structure It.Ok(i:It):Prop where
 c:0≤i.c∧i.c≤255
 ps:Oct i.ps
 len:i.ps.length≤1000
 md:i.made=true→i.c=1∨i.c=2
 no:i.made=false→i.ps = [i.c]
noncomputable def It.node(f:Fnt)(i:It):Sh:=if i.made then .lig f i.c i.ps false false else .char f i.c
noncomputable def wM(a d w fo:Addr)(cw cf l:List V)(M0:Led):Led:=(fo,.lst cf)::(w,.lst cw)::(a,.inst .Word d (fields .Word) l)::M0
structure WD(a w fo:Addr):Prop where
 aw:a≠w
 af:a≠fo
 wf:w≠fo
section
variable{a d w fo:Addr}{cw cf l cw' cf' l':List V}{M0:Led}(h:WD a w fo)
theorem sC:List.lookup fo (wM a d w fo cw cf l M0)=some (.lst cf):=look_self
include h
theorem dG:List.lookup w (wM a d w fo cw cf l M0)=some (.lst cw):=(look_skip h.wf).trans look_self
theorem bP:List.lookup a (wM a d w fo cw cf l M0)=some (.inst .Word d (fields .Word) l):=(look_skip h.af).trans ((look_skip h.aw).trans look_self)
theorem uC:put (wM a d w fo cw cf l M0) w (.lst cw')=wM a d w fo cw' cf l M0:=(aE h.wf).trans (congrArg _ aC)
theorem m8:put (wM a d w fo cw cf l M0) a (.inst .Word d (fields .Word) l')=wM a d w fo cw cf l' M0:=(aE h.af).trans (congrArg _ ((aE h.aw).trans (congrArg _ aC)))
end
theorem L1{a d w fo:Addr}{cw cf l cf':List V}{M0:Led}:put (wM a d w fo cw cf l M0) fo (.lst cf')=wM a d w fo cw cf' l M0:=aC
noncomputable def wL(f:Fnt)(w fo:Addr)(now:It)(going:Bool):List V:=[.fz f.toD,.loc w,.fz now.toD,.fz (.int 256),.loc fo,.fz (.bool false),.fz (.bool false),.fz (.bool going)]
noncomputable def wS(a d w fo:Addr)(f:Fnt)(wait:List It)(now:It)(found:List Sh)(going:Bool)(M0:Led):Led :=
 wM a d w fo (wait.map fun i=>.fz i.toD) (found.map fun s=>.fz s.toD) (wL f w fo now going) M0
theorem J3(k:aG W){a d w fo:Addr}(h:WD a w fo){f:Fnt}{wait:List It}{now:It}{found:List Sh}{going:Bool}(hn:now.Ok)(hl:found.length≤1000)(q:Q (.fz .none) (wS a d w fo f wait now (found++[now.node f]) going M)) :
  aA W (n+5) .leave [.loc a] Q (wS a d w fo f wait now found going M):=by
 have hl':(found.map fun s=>V.fz s.toD).length≤1000000:=by rw [List.length_map];exact Nat.le_trans hl (by decide)
 obtain⟨c,ps,made⟩:=now
 refine aH ‹_› rfl rfl rfl rfl rfl fun en_ he_=>?_;intro T;delta atC
 refine⟨_,bP h,?_⟩;delta atC
 refine⟨_,bP h,?_⟩;delta cond
 cases made with
 |true =>
  delta atC
  refine⟨_,bP h,?_⟩;delta atC
  refine⟨_,sC,?_⟩;delta atC
  refine⟨_,bP h,?_⟩;delta atC
  refine⟨_,bP h,?_⟩;delta atC
  refine⟨_,bP h,?_⟩;delta Lf
  refine⟨uW k (.inl rfl) hn.len hn.c.1 hn.c.2 hn.ps ?_⟩
  delta atC
  refine⟨_,sC,?_⟩;delta And
  refine⟨hl',_,L1,?_⟩
  delta atC
  refine⟨_,bP h,?_⟩;delta putTo
  refine⟨_,m8 h,?_⟩;delta Gh
  refine .done ?_
  have e:(found++[It.node f ⟨c,ps,true⟩]).map (fun s=>V.fz s.toD)=(found.map fun s=>V.fz s.toD)++[.fz (Sh.lig f c ps false false).toD]:=by simp [It.node]
  unfold wS at q
  rw [e]at q
  exact q
 |false =>
  delta atC
  refine⟨_,bP h,?_⟩;delta atC
  refine⟨_,sC,?_⟩;delta atC
  refine⟨_,bP h,?_⟩;delta Lf
  refine⟨zE k hn.c.1 hn.c.2 ?_⟩
  delta atC
  refine⟨_,sC,?_⟩;delta And
  refine⟨hl',_,L1,?_⟩
  delta Gh
  refine .done ?_
  have e:(found++[It.node f ⟨c,ps,false⟩]).map (fun s=>V.fz s.toD)=(found.map fun s=>V.fz s.toD)++[.fz (Sh.char f c).toD]:=by simp [It.node]
  unfold wS at q
  rw [e]at q
  exact q
theorem cS(k:aG W){a d w fo:Addr}(h:WD a w fo){f:Fnt}{wait:List It}{now:It}{found:List Sh}(hn:now.Ok)(hl:found.length≤1000)(hw:wait.length≤1000)
  (q0:wait = []→Q (.fz .none) (wS a d w fo f [] now (found++[now.node f]) false M)) (q1:∀ws x,wait=ws++[x]→Q (.fz .none) (wS a d w fo f ws x (found++[now.node f]) true M)) :
  aA W (n+6) .pass_on [.loc a] Q (wS a d w fo f wait now found true M):=by
 refine aH ‹_› rfl rfl rfl rfl rfl fun en_ he_=>?_;intro T;delta Lf
 refine⟨J3 k h hn hl ?_⟩
 delta atC
 refine⟨_,bP h,?_⟩;delta atC
 refine⟨_,dG h,?_⟩;delta cond
 rcases nil_snoc wait with rfl|⟨ws,x,rfl⟩
 ·delta atC
  refine⟨_,bP h,?_⟩;delta putTo
  refine⟨_,m8 h,?_⟩;delta Gh
  exact .done (q0 rfl)
 ·have e:(((ws++[x]).map fun i=>V.fz i.toD)).isEmpty=false:=by simp
  refine bf e ?_
  delta atC
  refine⟨_,bP h,?_⟩;delta atC
  refine⟨_,dG h,?_⟩;delta atC
  refine⟨_,dG h,?_⟩;delta And
  refine⟨by rw [List.length_map];exact Nat.le_trans hw (by decide),ws.map fun i=>.fz i.toD,.fz x.toD,by simp,_,uC h,?_⟩
  delta atC
  refine⟨_,bP h,?_⟩;delta putTo
  refine⟨_,m8 h,?_⟩;delta Gh
  exact .done (q1 ws x rfl)
end
section
variable{W:Wd}{n:Nat}{M:Led}{Q:aJ}
inductive PB(now x:It)(ws:List It)(code:Int):List It→It→List It→Prop
 |r0:PB now x ws code ws ⟨code,now.ps++x.ps,true⟩ []
 |r1:PB now x ws code (ws++[x]) ⟨code,now.ps,true⟩ []
 |r2:PB now x ws code (ws++[⟨code,x.ps,true⟩]) now []
 |r3:PB now x ws code (ws++[x]++[⟨code,[],true⟩]) now []
 |r5:PB now x ws code ws x [⟨code,now.ps,true⟩]
 |r6:PB now x ws code ws ⟨code,x.ps,true⟩ [now]
 |r7:PB now x ws code (ws++[x]) ⟨code,[],true⟩ [now]
 |r11:PB now x ws code ws x [now,⟨code,[],true⟩]
theorem eQ{ws:List It}{x:It}:(((ws++[x]).map fun i=>V.fz i.toD)).isEmpty=false:=by simp
theorem lG:Oct []:=fun _ h=>by cases h
theorem L9{c:Int}{ps:List Int}(hc:c=1∨c=2)(h1:Oct ps)(h2:ps.length≤1000):It.Ok ⟨c,ps,true⟩:=⟨by show 0≤c∧c≤255;exact Ik hc,h1,h2,fun _=>hc,fun e=>by exact dP e⟩
theorem JY(k:aG W){a d w fo:Addr}(h:WD a w fo){f:Fnt}{ws:List It}{x now:It}{found:List Sh}{code:Int}(hn:now.Ok)(hx:x.Ok)(hl:found.length≤900)(hw:ws.length≤900)(hp:now.ps.length+x.ps.length≤1000)(hc:code=1∨code=2)(q:Q (.fz .none) (wS a d w fo f ws ⟨code,now.ps++x.ps,true⟩ found true M)) :
  aA W (n+7) .put_between [.loc a,.fz (.int 0),.fz (.int code)] Q (wS a d w fo f (ws++[x]) now found true M):=by
 have hwl:((ws++[x]).map fun i=>V.fz i.toD).length≤1000000:=by(simp;exact ar_le ‹_› (by decide))
 refine aH ‹_› rfl rfl rfl rfl rfl fun en_ he_=>?_;intro T;delta atC
 refine⟨_,bP ‹_›,?_⟩;delta atC
 refine⟨_,bP ‹_›,?_⟩;delta atC
 refine⟨_,dG ‹_›,?_⟩;delta cond
 refine bf eQ ?_;delta And
 refine⟨rfl,_,rfl,?_⟩;delta atC
 refine⟨_,bP ‹_›,?_⟩;delta atC
 refine⟨_,dG ‹_›,?_⟩;delta cond
 refine bf eQ ?_;delta atC
 refine⟨_,bP ‹_›,?_⟩;delta atC
 refine⟨_,dG ‹_›,?_⟩;delta atC
 refine⟨_,dG ‹_›,?_⟩;delta And
 refine⟨hwl,ws.map fun i=>.fz i.toD,.fz x.toD,by simp,_,uC h,?_⟩
 delta And
 refine⟨rfl,_,rfl,?_⟩;delta And
 refine⟨by(refine Eq.substr (List.length_map _) ?_;refine Eq.substr (List.length_map _) ?_;exact ar_le ‹_› (by decide)),?_⟩
 delta atC
 refine⟨_,bP ‹_›,?_⟩;delta putTo
 refine⟨_,m8 ‹_›,?_⟩;delta Lf
 refine bX [("word",.loc a),("op",.fz (.int 0))] rfl ?_
 refine aX k ‹_› (fun ds m M'=>∀R:Loc→Led→Prop,(ds = []→R [("word",.loc a),("op",.fz (.int 0))] (wS a d w fo f ws ⟨code,now.ps++x.ps,true⟩ found true M))→R m M') rfl (fun _=>rfl) ?_ ?_ ?_
 ·delta And
  refine⟨by decide,fun R F=>R2 rfl ?_ (F rfl)⟩
  simp only [wS,wL,It.toD,List.map_append,List.map_cons,List.map_nil,intsD]
  rfl
 ·intro J1 Q1 d ds m M' hj
  apply hj;clear hj
  intro e
  exact bV e
 ·intro m M' hj
  apply hj;clear hj
  intro _
  refine .go ?_
  delta Gh
  exact .done q
theorem IZ(k:aG W){a d w fo:Addr}(h:WD a w fo){f:Fnt}{ws:List It}{x now:It}{found:List Sh}{code:Int}(hn:now.Ok)(hx:x.Ok)(hl:found.length≤900)(hw:ws.length≤900)(hp:now.ps.length+x.ps.length≤1000)(hc:code=1∨code=2)(q:Q (.fz .none) (wS a d w fo f (ws++[x]) ⟨code,now.ps,true⟩ found true M)) :
  aA W (n+7) .put_between [.loc a,.fz (.int 1),.fz (.int code)] Q (wS a d w fo f (ws++[x]) now found true M):=by
 have hwl:((ws++[x]).map fun i=>V.fz i.toD).length≤1000000:=by(simp;exact ar_le ‹_› (by decide))
 refine aH ‹_› rfl rfl rfl rfl rfl fun en_ he_=>?_;intro T;delta atC
 refine⟨_,bP ‹_›,?_⟩;delta atC
 refine⟨_,bP ‹_›,?_⟩;delta atC
 refine⟨_,dG ‹_›,?_⟩;delta cond
 refine bf eQ ?_;delta And
 refine⟨rfl,_,rfl,?_⟩;delta atC
 refine⟨_,bP ‹_›,?_⟩;delta putTo
 refine⟨_,m8 ‹_›,?_⟩;delta Lf
 refine bX [("word",.loc a),("op",.fz (.int 1))] rfl ?_
 refine aX k ‹_› (fun ds m M'=>∀R:Loc→Led→Prop,(ds = []→R [("word",.loc a),("op",.fz (.int 1))] (wS a d w fo f (ws++[x]) ⟨code,now.ps,true⟩ found true M))→R m M') rfl (fun _=>rfl) ?_ ?_ ?_
 ·delta And
  refine⟨by decide,fun R F=>R2 rfl ?_ (F rfl)⟩
  simp only [wS,wL,It.toD,List.map_append,List.map_cons,List.map_nil,intsD]
  rfl
 ·intro J1 Q1 d ds m M' hj
  apply hj;clear hj
  intro e
  exact bV e
 ·intro m M' hj
  apply hj;clear hj
  intro _
  refine .go ?_
  delta Gh
  exact .done q
theorem Ig(k:aG W){a d w fo:Addr}(h:WD a w fo){f:Fnt}{ws:List It}{x now:It}{found:List Sh}{code:Int}(hn:now.Ok)(hx:x.Ok)(hl:found.length≤900)(hw:ws.length≤900)(hp:now.ps.length+x.ps.length≤1000)(hc:code=1∨code=2)(q:Q (.fz .none) (wS a d w fo f (ws++[⟨code,x.ps,true⟩]) now found true M)) :
  aA W (n+7) .put_between [.loc a,.fz (.int 2),.fz (.int code)] Q (wS a d w fo f (ws++[x]) now found true M):=by
 have hwl:((ws++[x]).map fun i=>V.fz i.toD).length≤1000000:=by(simp;exact ar_le ‹_› (by decide))
 refine aH ‹_› rfl rfl rfl rfl rfl fun en_ he_=>?_;intro T;delta atC
 refine⟨_,bP ‹_›,?_⟩;delta atC
 refine⟨_,bP ‹_›,?_⟩;delta atC
 refine⟨_,dG ‹_›,?_⟩;delta cond
 refine bf eQ ?_;delta atC
 refine⟨_,bP ‹_›,?_⟩;delta atC
 refine⟨_,dG ‹_›,?_⟩;delta cond
 refine bf eQ ?_;delta atC
 refine⟨_,bP ‹_›,?_⟩;delta atC
 refine⟨_,dG ‹_›,?_⟩;delta atC
 refine⟨_,dG ‹_›,?_⟩;delta And
 refine⟨hwl,ws.map fun i=>.fz i.toD,.fz x.toD,by simp,_,uC h,?_⟩
 delta And
 refine⟨rfl,_,rfl,?_⟩;delta And
 refine⟨by simp;have:=hx.len;exact ar_le ‹_› (by decide),?_⟩
 delta atC
 refine⟨_,bP ‹_›,?_⟩;delta atC
 refine⟨_,dG ‹_›,?_⟩;delta atC
 refine⟨_,dG ‹_›,?_⟩;delta And
 refine⟨by(refine ln1 ?_;exact ar_le ‹_› (by decide)),_,uC h,?_⟩
 delta Lf
 refine bX [("word",.loc a),("op",.fz (.int 2))] rfl ?_
 refine aX k ‹_› (fun ds m M'=>∀R:Loc→Led→Prop,(ds = []→R [("word",.loc a),("op",.fz (.int 2))] (wS a d w fo f (ws++[⟨code,x.ps,true⟩]) now found true M))→R m M') rfl (fun _=>rfl) ?_ ?_ ?_
 ·delta And
  refine⟨by decide,fun R F=>R2 rfl ?_ (F rfl)⟩
  simp only [wS,wL,It.toD,List.map_append,List.map_cons,List.map_nil,intsD]
  rfl
 ·intro J1 Q1 d ds m M' hj
  apply hj;clear hj
  intro e
  exact bV e
 ·intro m M' hj
  apply hj;clear hj
  intro _
  refine .go ?_
  delta Gh
  exact .done q
theorem JI(k:aG W){a d w fo:Addr}(h:WD a w fo){f:Fnt}{ws:List It}{x now:It}{found:List Sh}{code:Int}(hn:now.Ok)(hx:x.Ok)(hl:found.length≤900)(hw:ws.length≤900)(hp:now.ps.length+x.ps.length≤1000)(hc:code=1∨code=2)(q:Q (.fz .none) (wS a d w fo f (ws++[x]++[⟨code,[],true⟩]) now found true M)) :
  aA W (n+7) .put_between [.loc a,.fz (.int 3),.fz (.int code)] Q (wS a d w fo f (ws++[x]) now found true M):=by
 have hwl:((ws++[x]).map fun i=>V.fz i.toD).length≤1000000:=by(simp;exact ar_le ‹_› (by decide))
 refine aH ‹_› rfl rfl rfl rfl rfl fun en_ he_=>?_;intro T;delta atC
 refine⟨_,bP ‹_›,?_⟩;delta atC
 refine⟨_,bP ‹_›,?_⟩;delta atC
 refine⟨_,dG ‹_›,?_⟩;delta cond
 refine bf eQ ?_;delta atC
 refine⟨_,bP ‹_›,?_⟩;delta atC
 refine⟨_,dG ‹_›,?_⟩;delta atC
 refine⟨_,dG ‹_›,?_⟩;delta And
 refine⟨by(simp;exact ar_le ‹_› (by decide)),_,uC h,?_⟩
 delta Lf
 refine bX [("word",.loc a),("op",.fz (.int 3))] rfl ?_
 refine aX k ‹_› (fun ds m M'=>∀R:Loc→Led→Prop,(ds = []→R [("word",.loc a),("op",.fz (.int 3))] (wS a d w fo f (ws++[x]++[⟨code,[],true⟩]) now found true M))→R m M') rfl (fun _=>rfl) ?_ ?_ ?_
 ·delta And
  refine⟨by decide,fun R F=>R2 rfl ?_ (F rfl)⟩
  simp only [wS,wL,It.toD,List.map_append,List.map_cons,List.map_nil,intsD]
 ·intro J1 Q1 d ds m M' hj
  apply hj;clear hj
  intro e
  exact bV e
 ·intro m M' hj
  apply hj;clear hj
  intro _
  refine .go ?_
  delta Gh
  exact .done q
theorem Hz(k:aG W){a d w fo:Addr}(h:WD a w fo){f:Fnt}{ws:List It}{x now:It}{found:List Sh}{code:Int}(hn:now.Ok)(hx:x.Ok)(hl:found.length≤900)(hw:ws.length≤900)(hp:now.ps.length+x.ps.length≤1000)(hc:code=1∨code=2)(q:Q (.fz .none) (wS a d w fo f ws x (found++[It.node f ⟨code,now.ps,true⟩]) true M)) :
  aA W (n+7) .put_between [.loc a,.fz (.int 5),.fz (.int code)] Q (wS a d w fo f (ws++[x]) now found true M):=by
 have hwl:((ws++[x]).map fun i=>V.fz i.toD).length≤1000000:=by(simp;exact ar_le ‹_› (by decide))
 refine aH ‹_› rfl rfl rfl rfl rfl fun en_ he_=>?_;intro T;delta atC
 refine⟨_,bP ‹_›,?_⟩;delta atC
 refine⟨_,bP ‹_›,?_⟩;delta atC
 refine⟨_,dG ‹_›,?_⟩;delta cond
 refine bf eQ ?_;delta And
 refine⟨rfl,_,rfl,?_⟩;delta atC
 refine⟨_,bP ‹_›,?_⟩;delta putTo
 refine⟨_,m8 ‹_›,?_⟩;delta Lf
 refine bX [("word",.loc a),("op",.fz (.int 5))] rfl ?_
 refine aX k ‹_› (fun ds m M'=>∀R:Loc→Prop,(((ds = [.int 0]∧M'=wS a d w fo f (ws++[x]) ⟨code,now.ps,true⟩ found true M)∨(ds = []∧M'=wS a d w fo f ws x (found++[It.node f ⟨code,now.ps,true⟩]) true M))→R [("word",.loc a),("op",.fz (.int 5))])→R m) rfl (fun _=>rfl) ?_ ?_ ?_
 ·delta And
  refine⟨by decide,fun R F=>F (.inl ⟨rfl,?_⟩)⟩
  simp only [wS,wL,It.toD,List.map_append,List.map_cons,List.map_nil,intsD]
  rfl
 ·intro J1 Q1 d1 ds m M' hj
  apply hj;clear hj
  rintro(⟨e,rfl⟩|⟨e,rfl⟩)
  ·cases e
   delta Lf
   refine⟨cS k h (L9 hc (by first|exact hn.ps|exact hx.ps|exact lG) (by first|exact hn.len|exact hx.len|exact Nat.zero_le _)) (by first|exact ar_le ‹_› (by decide)|((simp;lia))) (by first|lia|((simp;exact ar_le ‹_› (by decide)))) (fun e=>by simp at e) fun ws1 x1 e=>?_⟩
   obtain⟨e1,e2⟩:=List.append_inj' e rfl
   cases e2
   subst e1
   delta Fz
   exact .sub [("word",.loc a),("op",.fz (.int 5))] rfl (.go (fun R F=>F (.inr ⟨rfl,rfl⟩)))
  ·exact bV e
 ·intro m M' hj
  apply hj;clear hj
  rintro(⟨e,rfl⟩|⟨e,rfl⟩)
  ·cases e
  ·refine .go ?_
   delta Gh
   exact .done q
theorem JX(k:aG W){a d w fo:Addr}(h:WD a w fo){f:Fnt}{ws:List It}{x now:It}{found:List Sh}{code:Int}(hn:now.Ok)(hx:x.Ok)(hl:found.length≤900)(hw:ws.length≤900)(hp:now.ps.length+x.ps.length≤1000)(hc:code=1∨code=2)(q:Q (.fz .none) (wS a d w fo f ws ⟨code,x.ps,true⟩ (found++[now.node f]) true M)) :
  aA W (n+7) .put_between [.loc a,.fz (.int 6),.fz (.int code)] Q (wS a d w fo f (ws++[x]) now found true M):=by
 have hwl:((ws++[x]).map fun i=>V.fz i.toD).length≤1000000:=by(simp;exact ar_le ‹_› (by decide))
 refine aH ‹_› rfl rfl rfl rfl rfl fun en_ he_=>?_;intro T;delta atC
 refine⟨_,bP ‹_›,?_⟩;delta atC
 refine⟨_,bP ‹_›,?_⟩;delta atC
 refine⟨_,dG ‹_›,?_⟩;delta cond
 refine bf eQ ?_;delta atC
 refine⟨_,bP ‹_›,?_⟩;delta atC
 refine⟨_,dG ‹_›,?_⟩;delta cond
 refine bf eQ ?_;delta atC
 refine⟨_,bP ‹_›,?_⟩;delta atC
 refine⟨_,dG ‹_›,?_⟩;delta atC
 refine⟨_,dG ‹_›,?_⟩;delta And
 refine⟨hwl,ws.map fun i=>.fz i.toD,.fz x.toD,by simp,_,uC h,?_⟩
 delta And
 refine⟨rfl,_,rfl,?_⟩;delta And
 refine⟨by simp;have:=hx.len;exact ar_le ‹_› (by decide),?_⟩
 delta atC
 refine⟨_,bP ‹_›,?_⟩;delta atC
 refine⟨_,dG ‹_›,?_⟩;delta atC
 refine⟨_,dG ‹_›,?_⟩;delta And
 refine⟨by(refine ln1 ?_;exact ar_le ‹_› (by decide)),_,uC h,?_⟩
 delta Lf
 refine bX [("word",.loc a),("op",.fz (.int 6))] rfl ?_
 refine aX k ‹_› (fun ds m M'=>∀R:Loc→Prop,(((ds = [.int 0]∧M'=wS a d w fo f (ws++[⟨code,x.ps,true⟩]) now found true M)∨(ds = []∧M'=wS a d w fo f ws ⟨code,x.ps,true⟩ (found++[now.node f]) true M))→R [("word",.loc a),("op",.fz (.int 6))])→R m) rfl (fun _=>rfl) ?_ ?_ ?_
 ·delta And
  refine⟨by decide,fun R F=>F (.inl ⟨rfl,?_⟩)⟩
  simp only [wS,wL,It.toD,List.map_append,List.map_cons,List.map_nil,intsD]
  rfl
 ·intro J1 Q1 d1 ds m M' hj
  apply hj;clear hj
  rintro(⟨e,rfl⟩|⟨e,rfl⟩)
  ·cases e
   delta Lf
   refine⟨cS k h hn (by first|exact ar_le ‹_› (by decide)|((simp;lia))) (by first|lia|((simp;exact ar_le ‹_› (by decide)))) (fun e=>by simp at e) fun ws1 x1 e=>?_⟩
   obtain⟨e1,e2⟩:=List.append_inj' e rfl
   cases e2
   subst e1
   delta Fz
   exact .sub [("word",.loc a),("op",.fz (.int 6))] rfl (.go (fun R F=>F (.inr ⟨rfl,rfl⟩)))
  ·exact bV e
 ·intro m M' hj
  apply hj;clear hj
  rintro(⟨e,rfl⟩|⟨e,rfl⟩)
  ·cases e
  ·refine .go ?_
   delta Gh
   exact .done q
theorem JB(k:aG W){a d w fo:Addr}(h:WD a w fo){f:Fnt}{ws:List It}{x now:It}{found:List Sh}{code:Int}(hn:now.Ok)(hx:x.Ok)(hl:found.length≤900)(hw:ws.length≤900)(hp:now.ps.length+x.ps.length≤1000)(hc:code=1∨code=2)(q:Q (.fz .none) (wS a d w fo f (ws++[x]) ⟨code,[],true⟩ (found++[now.node f]) true M)) :
  aA W (n+7) .put_between [.loc a,.fz (.int 7),.fz (.int code)] Q (wS a d w fo f (ws++[x]) now found true M):=by
 have hwl:((ws++[x]).map fun i=>V.fz i.toD).length≤1000000:=by(simp;exact ar_le ‹_› (by decide))
 refine aH ‹_› rfl rfl rfl rfl rfl fun en_ he_=>?_;intro T;delta atC
 refine⟨_,bP ‹_›,?_⟩;delta atC
 refine⟨_,bP ‹_›,?_⟩;delta atC
 refine⟨_,dG ‹_›,?_⟩;delta cond
 refine bf eQ ?_;delta atC
 refine⟨_,bP ‹_›,?_⟩;delta atC
 refine⟨_,dG ‹_›,?_⟩;delta atC
 refine⟨_,dG ‹_›,?_⟩;delta And
 refine⟨by(simp;exact ar_le ‹_› (by decide)),_,uC h,?_⟩
 delta Lf
 refine bX [("word",.loc a),("op",.fz (.int 7))] rfl ?_
 refine aX k ‹_› (fun ds m M'=>∀R:Loc→Prop,(((ds = [.int 0]∧M'=wS a d w fo f (ws++[x]++[⟨code,[],true⟩]) now found true M)∨(ds = []∧M'=wS a d w fo f (ws++[x]) ⟨code,[],true⟩ (found++[now.node f]) true M))→R [("word",.loc a),("op",.fz (.int 7))])→R m) rfl (fun _=>rfl) ?_ ?_ ?_
 ·delta And
  refine⟨by decide,fun R F=>F (.inl ⟨rfl,?_⟩)⟩
  simp only [wS,wL,It.toD,List.map_append,List.map_cons,List.map_nil,intsD]
 ·intro J1 Q1 d1 ds m M' hj
  apply hj;clear hj
  rintro(⟨e,rfl⟩|⟨e,rfl⟩)
  ·cases e
   delta Lf
   refine⟨cS k h hn (by first|exact ar_le ‹_› (by decide)|((simp;lia))) (by first|lia|((simp;exact ar_le ‹_› (by decide)))) (fun e=>by simp at e) fun ws1 x1 e=>?_⟩
   obtain⟨e1,e2⟩:=List.append_inj' e rfl
   cases e2
   subst e1
   delta Fz
   exact .sub [("word",.loc a),("op",.fz (.int 7))] rfl (.go (fun R F=>F (.inr ⟨rfl,rfl⟩)))
  ·exact bV e
 ·intro m M' hj
  apply hj;clear hj
  rintro(⟨e,rfl⟩|⟨e,rfl⟩)
  ·cases e
  ·refine .go ?_
   delta Gh
   exact .done q
theorem GN(k:aG W){a d w fo:Addr}(h:WD a w fo){f:Fnt}{ws:List It}{x now:It}{found:List Sh}{code:Int}(hn:now.Ok)(hx:x.Ok)(hl:found.length≤900)(hw:ws.length≤900)(hp:now.ps.length+x.ps.length≤1000)(hc:code=1∨code=2)(q:Q (.fz .none) (wS a d w fo f ws x (found++[now.node f]++[It.node f ⟨code,[],true⟩]) true M)) :
  aA W (n+7) .put_between [.loc a,.fz (.int 11),.fz (.int code)] Q (wS a d w fo f (ws++[x]) now found true M):=by
 have hwl:((ws++[x]).map fun i=>V.fz i.toD).length≤1000000:=by(simp;exact ar_le ‹_› (by decide))
 refine aH ‹_› rfl rfl rfl rfl rfl fun en_ he_=>?_;intro T;delta atC
 refine⟨_,bP ‹_›,?_⟩;delta atC
 refine⟨_,bP ‹_›,?_⟩;delta atC
 refine⟨_,dG ‹_›,?_⟩;delta cond
 refine bf eQ ?_;delta atC
 refine⟨_,bP ‹_›,?_⟩;delta atC
 refine⟨_,dG ‹_›,?_⟩;delta atC
 refine⟨_,dG ‹_›,?_⟩;delta And
 refine⟨by(simp;exact ar_le ‹_› (by decide)),_,uC h,?_⟩
 delta Lf
 refine bX [("word",.loc a),("op",.fz (.int 11))] rfl ?_
 refine aX k ‹_› (fun ds m M'=>∀R:Loc→Prop,(((ds = [.int 0,.int 1]∧M'=wS a d w fo f (ws++[x]++[⟨code,[],true⟩]) now found true M)∨(ds = [.int 1]∧M'=wS a d w fo f (ws++[x]) ⟨code,[],true⟩ (found++[now.node f]) true M)∨(ds = []∧M'=wS a d w fo f ws x (found++[now.node f]++[It.node f ⟨code,[],true⟩]) true M))→R [("word",.loc a),("op",.fz (.int 11))])→R m) rfl (fun _=>rfl) ?_ ?_ ?_
 ·delta And
  refine⟨by decide,fun R F=>F (.inl ⟨rfl,?_⟩)⟩
  simp only [wS,wL,It.toD,List.map_append,List.map_cons,List.map_nil,intsD]
 ·intro J1 Q1 d1 ds m M' hj
  apply hj;clear hj
  rintro(⟨e,rfl⟩|⟨e,rfl⟩|⟨e,rfl⟩)
  ·cases e
   delta Lf
   refine⟨cS k h hn (by first|exact ar_le ‹_› (by decide)|((simp;lia))) (by first|lia|((simp;exact ar_le ‹_› (by decide)))) (fun e=>by simp at e) fun ws1 x1 e=>?_⟩
   obtain⟨e1,e2⟩:=List.append_inj' e rfl
   cases e2
   subst e1
   delta Fz
   exact .sub [("word",.loc a),("op",.fz (.int 11))] rfl (.go (fun R F=>F (.inr (.inl ⟨rfl,rfl⟩))))
  ·cases e
   delta Lf
   refine⟨cS k h (L9 hc (by first|exact hn.ps|exact hx.ps|exact lG) (by first|exact hn.len|exact hx.len|exact Nat.zero_le _)) (by first|lia|((simp;exact ar_le ‹_› (by decide)))) (by first|lia|((simp;exact ar_le ‹_› (by decide)))) (fun e=>by simp at e) fun ws1 x1 e=>?_⟩
   obtain⟨e1,e2⟩:=List.append_inj' e rfl
   cases e2
   subst e1
   delta Fz
   exact .sub [("word",.loc a),("op",.fz (.int 11))] rfl (.go (fun R F=>F (.inr (.inr ⟨rfl,rfl⟩))))
  ·exact bV e
 ·intro m M' hj
  apply hj;clear hj
  rintro(⟨e,rfl⟩|⟨e,rfl⟩|⟨e,rfl⟩)
  ·cases e
  ·cases e
  ·refine .go ?_
   delta Gh
   exact .done q
theorem oR(k:aG W){a d w fo:Addr}(h:WD a w fo){f:Fnt}{ws:List It}{x now:It}{found:List Sh}{op code:Int}(hn:now.Ok)(hx:x.Ok)(hl:found.length≤900)(hw:ws.length≤900)(hp:now.ps.length+x.ps.length≤1000)(ho:op∈OPS)(hc:code=1∨code=2)
  (q:∀ws' now' ex,PB now x ws code ws' now' ex→Q (.fz .none) (wS a d w fo f ws' now' (found++ex.map (It.node f)) true M)) :
  aA W (n+7) .put_between [.loc a,.fz (.int op),.fz (.int code)] Q (wS a d w fo f (ws++[x]) now found true M):=by
 simp only [OPS,List.mem_cons,List.not_mem_nil,or_false]at ho
 rcases ho with rfl|rfl|rfl|rfl|rfl|rfl|rfl|rfl
 ·exact JY k h hn hx hl hw hp hc (by have:=q _ _ _ .r0;rwa [List.map_nil,List.append_nil]at this)
 ·exact IZ k h hn hx hl hw hp hc (by have:=q _ _ _ .r1;rwa [List.map_nil,List.append_nil]at this)
 ·exact Ig k h hn hx hl hw hp hc (by have:=q _ _ _ .r2;rwa [List.map_nil,List.append_nil]at this)
 ·exact JI k h hn hx hl hw hp hc (by have:=q _ _ _ .r3;rwa [List.map_nil,List.append_nil]at this)
 ·exact Hz k h hn hx hl hw hp hc (q _ _ _ .r5)
 ·exact JX k h hn hx hl hw hp hc (q _ _ _ .r6)
 ·exact JB k h hn hx hl hw hp hc (q _ _ _ .r7)
 ·exact GN k h hn hx hl hw hp hc (by have:=q _ _ _ .r11;rwa [List.map_cons,List.map_cons,List.map_nil,List.append_cons]at this)
end
section
variable{W:Wd}{n:Nat}{M:Led}{Q:aJ}
noncomputable def intL(l:List Int):D:=.lst (l.map .int)
noncomputable def It0(c:Int):It:=⟨c,[c],false⟩
theorem B1{c:Int}(h:0≤c∧c≤255):(It0 c).Ok:=⟨h,fun x hx=>by simp [It0]at hx;subst hx;exact h,by simp [It0],fun e=>(by exact aL e),fun _=>rfl⟩
theorem bH{a b:Addr}{c c':Cell}{M:Led}(h:a≠b):List.lookup a ((b,c)::(a,c')::M:Led)=some c':=(look_skip h).trans look_self
theorem cR{a b e:Addr}{c c' c2:Cell}{M:Led}(h1:a≠b)(h2:a≠e):List.lookup a ((b,c)::(e,c2)::(a,c')::M:Led)=some c':=(look_skip h1).trans (bH h2)
theorem gP{a b:Addr}{c c' c2:Cell}{M:Led}(h:a≠b):put ((b,c)::(a,c')::M) a c2=(b,c)::(a,c2)::M:=(aE h).trans (congrArg _ aC)
theorem hG{a b e:Addr}{c c' c2 c3:Cell}{M:Led}(h1:a≠b)(h2:a≠e):put ((b,c)::(e,c2)::(a,c')::M) a c3=(b,c)::(e,c2)::(a,c3)::M:=(aE h1).trans (congrArg _ (gP h2))
theorem W1(k:aG W){f:Fnt}{cs:List Int}{c:Int}(hl:cs.length≤100)(q:∀a d w fo,WD a w fo→Q (.loc a) (wS a d w fo f (cs.reverse.map It0) (It0 c) [] true M)) :
  bN W (n+2) .Word [.fz f.toD,.fz (intL (c::cs)),.fz (.bool false),.fz (.int 256)] Q M:=by
 refine lD k fun a d ha hd hda=>?_
 refine aH ‹_› rfl rfl rfl rfl rfl fun en_ he_=>?_;intro T;delta atC
 refine⟨_,look_self,?_⟩;delta putTo
 refine⟨_,aC,?_⟩;delta Lf
 refine mD k ‹_› (fun ds acc=>acc++ds.map (fun d=>.tup [d,.tup [d],.bool false])=(c::cs).reverse.map fun c=>(It0 c).toD) rfl (fun _=>rfl) ?_ ?_ ?_
 ·delta And
  refine⟨rfl,_,rfl,by(simp;lia),fun b hb=>?_⟩
  delta atC
  refine⟨_,look_self,?_⟩;conv=>whnf
  refine⟨((c::cs).map D.int).reverse,_,by rw [←List.map_reverse];exact bM _,aB,by(simp;exact ar_le ‹_› (by decide)),?_,rfl⟩
  simp [It0,It.toD,intsD]
 ·rintro P1 C b d ds acc hb e
  (intros;conv=>whnf)
  refine⟨_,rfl,rfl,?_⟩
  show acc++_++_=_
  rw [List.append_assoc]
  exact e
 ·rintro b acc hb e
  simp only [List.map_nil,List.append_nil]at e
  subst e
  refine .done ?_
  have hab:a≠b:=fun e=>hb (e▸.head _)
  delta atC
  refine⟨_,bH hab,?_⟩;delta putTo
  refine⟨_,gP hab,?_⟩;delta atC
  refine⟨_,bH hab,?_⟩;delta atC
  refine⟨_,look_self,?_⟩;delta atC
  refine⟨_,look_self,?_⟩;delta And
  refine⟨by(simp;exact ar_le ‹_› (by decide)),(cs.reverse.map It0).map fun i=>.fz i.toD,.fz (It0 c).toD,by simp,_,aC,?_⟩
  delta atC
  refine⟨_,bH hab,?_⟩;delta putTo
  refine⟨_,gP hab,?_⟩;delta atC
  refine⟨_,bH hab,?_⟩;delta putTo
  refine⟨_,gP hab,?_⟩;conv=>whnf
  intro fo hfo
  have hfa:a≠fo:=fun e=>hfo (by rw [←e];simp [foot,Cell.foot])
  have hfb:b≠fo:=fun e=>hfo (by rw [←e];simp [foot,Cell.foot])
  delta atC
  refine⟨_,cR hfa hab,?_⟩;delta putTo
  refine⟨_,hG hfa hab,?_⟩;delta atC
  refine⟨_,cR hfa hab,?_⟩;delta putTo
  refine⟨_,hG hfa hab,?_⟩;delta atC
  refine⟨_,cR hfa hab,?_⟩;delta putTo
  refine⟨_,hG hfa hab,?_⟩;delta atC
  refine⟨_,cR hfa hab,?_⟩;delta putTo
  refine⟨_,hG hfa hab,?_⟩;delta Gh
  exact .done ⟨rfl,.done (q a d b fo ⟨hab,hfa,hfb⟩)⟩
noncomputable def cU(l:List It):Nat:=l.countP fun i=>!i.made
noncomputable def yZ(l:List It):Bool:=match l.getLast? with
 |some x=>!x.made
 |none=>false
noncomputable def pot(wait:List It)(now:It):Nat:=cU wait+(if (!now.made&&yZ wait)=true then 1 else 0)
noncomputable def psOf(l:List It):List Int:=(l.map (·.ps)).flatten
noncomputable def csOf(l:List Sh):List Int:=(l.map Sh.codes).flatten
noncomputable def isK:Sh→Bool
 |.kern _ _=>true
 |_=>false
inductive NOk(f:Fnt):Sh→Prop
 |char {c:Int}:0≤c→c≤255→NOk f (.char f c)
 |lig {c:Int}{ps:List Int}:0≤c→c≤255→Oct ps→ps.length≤1000→NOk f (.lig f c ps false false)
 |kern {w:Int}:(w=3∨w = -2)→NOk f (.kern w 0)
theorem pY{f:Fnt}{i:It}(h:i.Ok):NOk f (i.node f):=by
 unfold It.node
 cases i.made
 ·exact .char h.c.1 h.c.2
 ·exact .lig h.c.1 h.c.2 h.ps h.len
theorem kB{f:Fnt}{i:It}(h:i.Ok):(i.node f).codes=i.ps:=by
 unfold It.node
 cases e:i.made
 ·rw [h.no e];rfl
 ·rfl
theorem kP{f:Fnt}{i:It}:isK (i.node f)=false:=by
 unfold It.node
 cases i.made <;> rfl
theorem wQ{ws:List It}{x:It}:yZ (ws++[x])=!x.made:=by simp [yZ]
theorem iV{l r:List It}:cU (l++r)=cU l+cU r:=by simp [cU,List.countP_append]
theorem iW{x:It}:cU [x]=if x.made then 0 else 1:=by
 unfold cU
 cases h:x.made <;> simp [h]
noncomputable def mu(wait:List It)(now:It)(going:Bool):Nat:=2*pot wait now+wait.length+(if going then 1 else 0)
structure WI(f:Fnt)(codes:List Int)(wait:List It)(now:It)(found:List Sh)(going:Bool)(s:Int):Prop where
 nowOk:now.Ok
 waitOk:∀i∈wait,i.Ok
 cat:csOf found++(if going then now.ps++psOf wait.reverse else [])=codes
 nok:∀x∈found,NOk f x
 hd:∀x,found.head?=some x→isK x=false
 ls:going=false→∀x,found.getLast?=some x→isK x=false
 steps:(pot wait now:Int)<s
 room:found.length+2*mu wait now going≤800
theorem lP{l r:List Sh}:csOf (l++r)=csOf l++csOf r:=by simp [csOf]
theorem vC{l r:List It}:psOf (l++r)=psOf l++psOf r:=by simp [psOf]
theorem xF{x:Sh}:csOf [x]=x.codes:=by simp [csOf]
theorem uO{x:It}:psOf [x]=x.ps:=by simp [psOf]
theorem DR{x:It}{l:List It}:psOf (x::l)=x.ps++psOf l:=by simp [psOf]
theorem DE{x:It}{l:List It}:cU (x::l)=(if x.made then 0 else 1)+cU l:=by
 rw [←iW,←iV];rfl
theorem DQ:cU []=0:=rfl
theorem yG{found:List Sh}{y:Sh}{r:List Sh}(h:∀x,found.head?=some x→isK x=false)(hy:isK y=false):∀x,(found++y::r).head?=some x→isK x=false:=by
 intro x hx
 cases found with
 |nil=>simp at hx;subst hx;exact hy
 |cons a l=>exact h x (by exact hx)
theorem Be{ws:List It}{x now:It}:pot ws x≤pot (ws++[x]) now:=by
 unfold pot
 rw [iV,iW]
 cases hx:x.made <;> simp <;> split <;>(first|exact Hb|exact Fj)
theorem WI.pass_end{f:Fnt}{codes:List Int}{now:It}{found:List Sh}{s:Int}(h:WI f codes [] now found true s):WI f codes [] now (found++[now.node f]) false s where
 nowOk:=h.nowOk
 waitOk:=h.waitOk
 cat:=by
  have:=h.cat
  simp only [if_true,psOf,List.reverse_nil,List.map_nil,List.flatten_nil,List.append_nil]at this
  simp only [lP,xF,kB h.nowOk,Bool.false_eq_true,if_false,List.append_nil]
  exact this
 nok x hx:=by
  rcases mAp hx with q|q
  ·exact h.nok x q
  ·rw [mSp q];exact pY h.nowOk
 hd:=yG h.hd kP
 ls _ x hx:=by simp at hx;subst hx;exact kP
 steps:=h.steps
 room:=by have:=h.room;simp only [mu,List.length_nil,List.length_append,List.length_singleton,if_true,Bool.false_eq_true,if_false]at this ⊢;exact Gj this
theorem WI.pass{f:Fnt}{codes:List Int}{ws:List It}{x now:It}{found:List Sh}{s:Int}(h:WI f codes (ws++[x]) now found true s){ex:List Sh}(he:ex.length≤1)(hk:∀y∈ex,NOk f y)(hc:csOf ex = []) :
  WI f codes ws x (found++now.node f::ex) true s∧mu ws x true<mu (ws++[x]) now true:=by
 have hp:=Be (ws:=ws) (x:=x) (now:=now)
 have hm:mu ws x true<mu (ws++[x]) now true:=by simp only [mu,List.length_append,List.length_singleton];exact De hp
 refine⟨?_,hm⟩
 exact{
  nowOk:=h.waitOk x (by exact List.mem_append.mpr (.inr (.head _)))
  waitOk:=fun i hi=>h.waitOk i (by simp [hi])
  cat:=by
   have:=h.cat
   simp only [if_true,List.reverse_append,List.reverse_cons,List.reverse_nil,List.nil_append,vC,uO]at this ⊢
   rw [List.append_cons,lP,lP,xF,kB h.nowOk,hc,List.append_nil,←this]
   simp
  nok:=fun y hy=>by
   rcases mAp hy with q|q
   ·exact h.nok y q
   ·rcases mCp q with rfl|q
    ·exact pY h.nowOk
    ·exact hk y q
  hd:=yG h.hd kP
  ls:=fun e=>by exact dP e
  steps:=by have:=h.steps;exact GX hp this
  room:=by have:=h.room;simp only [List.length_append,List.length_cons];exact Hi he hm this}
theorem psOf_rev{ws:List It}{x:It}:psOf (ws++[x]).reverse=x.ps++psOf ws.reverse:=by rw [List.reverse_append];rfl
theorem pot_made{l:List It}{c:Int}{ps:List Int}:pot l ⟨c,ps,true⟩=cU l:=rfl
theorem pot_top{l:List It}{now:It}{c:Int}{ps:List Int}:pot (l++[⟨c,ps,true⟩]) now=cU l:=by
 show cU (l++[⟨c,ps,true⟩])+(if (!now.made&&yZ (l++[⟨c,ps,true⟩]))=true then 1 else 0)=_
 rw [wQ,iV,iW,Bool.and_eq_false_imp.mpr fun _=>rfl];rfl
theorem pot_le1{l:List It}{y:It}:pot l y≤cU l+1:=by
 show cU l+(if (!y.made&&yZ l)=true then 1 else 0)≤_
 by_cases z:(!y.made&&yZ l)=true
 ·rw [if_pos z];exact Nat.le_refl _
 ·rw [if_neg z];exact Nat.le_succ _
theorem zJ{f:Fnt}:∀{l:List It},(∀i∈l,i.Ok)→csOf (l.map (It.node f))=(l.map (·.ps)).flatten
 |[],_=>rfl
 |i::l,hi=>by
  show(It.node f i).codes++csOf (l.map (It.node f))=i.ps++(l.map (·.ps)).flatten
  rw [kB (hi i (.head _)),zJ fun j hj=>hi j (.tail _ hj)]
theorem WI.put{f:Fnt}{codes:List Int}{ws:List It}{x now:It}{found:List Sh}{s:Int}(h:WI f codes (ws++[x]) now found true s){code:Int}(hc:code=1∨code=2)(h1:now.made=false)(h2:x.made=false){ws':List It}{now':It}{ex:List It}(p:PB now x ws code ws' now' ex)(hl:now.ps.length+x.ps.length≤1000) :
  WI f codes ws' now' (found++ex.map (It.node f)) true (s-1)∧mu ws' now' true<mu (ws++[x]) now true:=by
 have hx:=h.waitOk x (mAr (.inr (.head _)))
 have hw:∀i∈ws,i.Ok:=fun i hi=>h.waitOk i (mAr (.inl hi))
 have hn:=h.nowOk
 have nx:cU (ws++[x])=cU ws+1:=by rw [iV,iW,h2];rfl
 have hp:pot (ws++[x]) now=cU ws+2:=by
  show cU (ws++[x])+(if (!now.made&&yZ (ws++[x]))=true then 1 else 0)=_
  rw [nx,wQ,h1,h2];rfl
 have hm:mu (ws++[x]) now true=2*(cU ws+2)+(ws.length+1)+1:=by
  show 2*pot (ws++[x]) now+(ws++[x]).length+1=_
  rw [hp,List.length_append];rfl
 have mk:∀{ps:List Int},Oct ps→ps.length≤1000→It.Ok ⟨code,ps,true⟩:=fun a b=>L9 hc a b
 have hcat:csOf found++(now.ps++(x.ps++psOf ws.reverse))=codes:=by have:=h.cat;rw [psOf_rev]at this;exact this
 have hst:=h.steps
 have hro:=h.room
 rw [hp]at hst
 rw [hm]at hro
 have fin:now'.Ok→(∀i∈ws',i.Ok)→(∀i∈ex,i.Ok)→∀{P K:Nat},pot ws' now'=P→ws'.length=ws.length+K→P≤cU ws+1→K+2*P+ex.length<2*cU ws+5→((ex.map (·.ps)).flatten++(now'.ps++psOf ws'.reverse)=now.ps++(x.ps++psOf ws.reverse))→WI f codes ws' now' (found++ex.map (It.node f)) true (s-1)∧mu ws' now' true<mu (ws++[x]) now true:=by
  intro a1 a2 a3 P K eP eK a4 a5 a6
  have hm2:mu ws' now' true=2*P+(ws.length+K)+1:=by
   show 2*pot ws' now'+ws'.length+1=_
   rw [eP,eK]
  refine⟨?_,by rw [hm,hm2];exact Ix a5⟩
  exact{
   nowOk:=a1
   waitOk:=a2
   cat:=by
    show csOf (found++ex.map (It.node f))++(now'.ps++psOf ws'.reverse)=codes
    rw [lP,←hcat,←a6,List.append_assoc]
    exact congrArg (fun z=>csOf found++(z++_)) (zJ a3)
   nok:=fun y hy=>by
    rcases mAp hy with q|q
    ·exact h.nok y q
    ·obtain⟨i,hi,rfl⟩:=mMp q
     exact pY (a3 i hi)
   hd:=by
    cases ex with
    |nil=>rw [List.map_nil,List.append_nil];exact h.hd
    |cons i ex=>exact yG h.hd kP
   ls:=fun e=>dP e
   steps:=by rw [eP];exact GM hst a4
   room:=by rw [List.length_append,List.length_map,hm2];exact IG hro a5}
 have both:Oct (now.ps++x.ps):=fun c hc=>(mAp hc).elim (hn.ps c) (hx.ps c)
 have o1:∀{i:It},i.Ok→∀j∈[i],j.Ok:=fun h j hj=>mSp hj▸h
 have sn:∀{l:List It}{i:It},(∀j∈l,j.Ok)→i.Ok→∀j∈l++[i],j.Ok:=fun h1 h2 j hj=>(mAp hj).elim (h1 j) (o1 h2 j)
 have ln:∀{l:List It}{i:It},(l++[i]).length=l.length+1:=List.length_append
 cases p with
 |r0=>exact fin (mk both (by(refine ln4 ?_;exact ar_le ‹_› (by decide)))) hw nofun pot_made rfl (Nat.le_succ _) q_h5 (List.append_assoc ..)
 |r1=>exact fin (mk hn.ps hn.len) h.waitOk nofun (pot_made.trans nx) ln (Nat.le_refl _) q_h6 (by rw [psOf_rev];rfl)
 |r2=>exact fin hn (sn hw (mk hx.ps hx.len)) nofun pot_top ln (Nat.le_succ _) q_h7 (by rw [psOf_rev];rfl)
 |r3=>exact fin hn (sn h.waitOk (mk lG (Nat.zero_le _))) nofun (pot_top.trans nx) (ln.trans (congrArg Nat.succ ln)) (Nat.le_refl _) q_h8 (by rw [psOf_rev,psOf_rev];rfl)
 |r5=>exact fin hx hw (o1 (mk hn.ps hn.len)) rfl rfl pot_le1 (JS pot_le1) (congrArg (·++_) (List.append_nil _))
 |r6=>exact fin (mk hx.ps hx.len) hw (o1 hn) pot_made rfl (Nat.le_succ _) q_h10 (congrArg (·++_) (List.append_nil _))
 |r7=>exact fin (mk lG (Nat.zero_le _)) h.waitOk (o1 hn) (pot_made.trans nx) ln (Nat.le_refl _) q_h11 (by rw [psOf_rev];exact congrArg (·++_) (List.append_nil _))
 |r11=>exact fin hx hw (fun i hi=>(mCp hi).elim (fun e=>e▸hn) (o1 (mk lG (Nat.zero_le _)) i)) rfl rfl pot_le1 (q_h12 pot_le1) (congrArg (·++_) (List.append_nil _))
end
section
variable{W:Wd}{n:Nat}{M:Led}{Q:aJ}
theorem Ho{a d w fo:Addr}(h:WD a w fo){f:Fnt}{wait:List It}{now:It}{found:List Sh}{going:Bool}(q:Q (.fz (shL found)) M):Gh Q (.loc fo) (wS a d w fo f wait now found going M) :=
 .freeze fo 0 look_self (show Cell.frz _=some (shL found) by
  have:(found.map fun s=>V.fz s.toD)=(found.map Sh.toD).map .fz:=by simp
  simp only [Cell.frz,this,bM,Option.map_some,shL]) (by
  show Gh Q ((V.loc fo).sub fo _) (Mine.drop fo (wM a d w fo _ _ _ M))
  unfold wM
  rw [aB]
  refine .drop w ?_
  rw [aB]
  refine .drop a ?_
  rw [aB]
  refine .done ?_
  simpa [V.sub]using q)
structure RunOk(f:Fnt)(codes:List Int)(nodes:List Sh):Prop where
 cat:csOf nodes=codes
 nok:∀x∈nodes,NOk f x
 hd:∀x,nodes.head?=some x→isK x=false
 ls:∀x,nodes.getLast?=some x→isK x=false
 room:nodes.length≤800
theorem a9{α:Type}{l:List α}{x:α}:cQ (l++[x]) (-1)=some x:=by
 unfold cQ
 rw [if_neg (by decide),if_pos (by(refine Eq.substr List.length_append ?_;exact Gn))]
 simp only [List.length_append,List.length_singleton]
 have:((-1:Int)+((l.length+1:Nat):Int)).toNat=l.length:=by exact Ie
 rw [this]
 simp
theorem C5:∀c∈FOL,¬(c=1∨c=2):=by decide
theorem rM(k:aG W){f:Fnt}(hf:FOk f){codes:List Int}(hc:Oct codes)(hl:codes.length≤100){le:Bool}(q:∀nodes,RunOk f codes nodes→Q (.fz (shL nodes)) M) :
  aA W (n+8) .word_nodes [.fz f.toD,.fz (intL codes),.fz (.bool le),.fz (.int 256)] Q M:=by
 cases codes with
 |nil =>
  refine aH ‹_› rfl rfl rfl rfl rfl fun en_ he_=>?_;intro T;delta bL
  intro b hb
  refine bZ (ds:=[]) (q [] ⟨rfl,fun x h=>(by cases h),fun x h=>(by exact aF h),fun x h=>(by exact aF h),by exact Nat.zero_le _⟩)
 |cons c cs =>
  have hl2:cs.length≤100:=Nat.le_of_succ_le hl
  refine aH ‹_› rfl rfl rfl rfl rfl fun en_ he_=>?_;intro T;delta cond
  have word:∀{Q:aJ},(∀a d w fo,WD a w fo→Q (.loc a) (wS a d w fo f (cs.reverse.map It0) (It0 c) [] true M))→bN W (n+7) .Word [.fz f.toD,.fz (intL (c::cs)),.fz (.bool false),.fz (.int 256)] Q M:=fun h=>W1 k hl2 h
  have go:WI f (c::cs) (cs.reverse.map It0) (It0 c) [] true (20*(((c::cs).length:Nat)+1)):=by
   have hp:pot (cs.reverse.map It0) (It0 c)≤cs.length+1:=by
    unfold pot cU
    have:=List.countP_le_length (p:=fun i:It=>!i.made) (l:=cs.reverse.map It0)
    simp only [List.length_map,List.length_reverse]at this
    split <;>(first|exact IO this|exact Id this)
   exact{
    nowOk:=B1 (hc c (.head _))
    waitOk:=fun i hi=>by
     obtain⟨x,hx,rfl⟩:=mMp hi
     exact B1 (hc x (List.mem_cons_of_mem _ (by simpa using hx)))
    cat:=by
     simp only [if_true,csOf,List.map_nil,List.flatten_nil,List.nil_append,It0,←List.map_reverse,List.reverse_reverse,psOf,List.map_map]
     have:∀l:List Int,(l.map ((fun x=>x.ps)∘It0)).flatten=l:=by
      intro l
      induction l with
      |nil=>rfl
      |cons x l ih=>rw [List.map_cons,List.flatten_cons,ih];rfl
     rw [this];rfl
    nok:=fun x h=>by cases h
    hd:=fun x h=>by exact aF h
    ls:=fun e=>by exact dP e
    steps:=by simp only [List.length_cons];exact Jc hp
    room:=by simp only [mu,List.length_nil,List.length_map,List.length_reverse,if_true];exact IQ hl2 hp}
  have main:∀(env:Env),env.scope.names=(scopeOf .word_nodes).names→let T:Tk:=⟨W,n+7,env,(scopeOf .word_nodes).names⟩;∀(a d w fo:Addr),WD a w fo→∀{m:Loc}{test:Expr}{body:List Stmt}{pos:Pos}{R:bG},
    kL [("font",.fz f.toD),("word",.loc a),("steps",.fz (.int (20*(((c::cs).length:Nat)+1))))] m →
    (∀wait now found s,WI f (c::cs) wait now found false s→R .next [("font",.fz f.toD),("word",.loc a),("steps",.fz (.int s))] (wS a d w fo f wait now found false M)) →
    (eF .word_nodes)[3]?=some (.While test body [] pos)→Lf (TS T.W T.n T.env (.While test body [] pos) m R (wS a d w fo f (cs.reverse.map It0) (It0 c) [] true M)):=by
   intro env he T a d w fo h m test body pos R hm hR hb
   cases hb
   refine bX _ hm ?_
   refine cJ k ‹_› (fun j m M'=>∀R:Nat→Loc→Led→Prop,(∀wait,∀now,∀found,∀going,∀s,WI f (c::cs) wait now found going s→R (mu wait now going) [("font",.fz f.toD),("word",.loc a),("steps",.fz (.int s))] (wS a d w fo f wait now found going M))→R j m M') (fun R F=>F _ _ _ _ _ go) ?_
   intro I1 Q0 Q1 j m M' hj
   apply hj;clear hj
   intro wait now found going s wi
   delta atC
   refine⟨_,bP ‹_›,?_⟩;delta cond
   cases going with
   |false =>
    delta cond
    exact hR _ _ _ _ wi
   |true =>
    have wl:wait.length≤800:=by have:=wi.room;simp only [mu]at this;exact Jd this
    have fl:found.length≤800:=by have:=wi.room;exact ar_l ‹_› (by decide)
    have psl:∀{l r:List Int},csOf found++(l++r)=c::cs→l.length+r.length≤100:=by
     intro l r e
     have:=congrArg List.length e
     simp only [List.length_append]at this
     exact JU hl this
    delta atC
    refine⟨_,bP ‹_›,?_⟩;delta atC
    refine⟨_,bP ‹_›,?_⟩;delta And
    refine⟨rfl,_,rfl,?_⟩;delta atC
    refine⟨_,bP ‹_›,?_⟩;delta atC
    refine⟨_,dG ‹_›,?_⟩;delta cond
    rcases nil_snoc wait with rfl|⟨ws,x,rfl⟩
    ·delta atC
     refine⟨_,bP ‹_›,?_⟩;delta Lf
     refine⟨i9 k hf ?_ (fun _ h=>by simp [FOL]at h) (fun _ h=>by simp [FOL]at h)⟩
     delta Lf
     refine⟨cS k h wi.nowOk (by exact ar_le ‹_› (by decide)) (by exact Nat.zero_le _) (fun _=>?_) (fun ws x e=>by simp at e)⟩
     delta Fz
     exact .sub [("font",.fz f.toD),("word",.loc a),("steps",.fz (.int s))] rfl (.go ⟨mu [] now false,by simp [mu],fun R F=>F _ _ _ _ _ wi.pass_end⟩)
    ·refine bf eQ ?_
     delta atC
     refine⟨_,bP ‹_›,?_⟩;delta atC
     refine⟨_,dG h,by simp at wl ⊢;exact ar_le ‹_› (by decide),.fz x.toD,by rw [List.map_append];exact a9,?_⟩
     delta And
     refine⟨rfl,_,rfl,?_⟩;delta Lf
     have hx:=wi.waitOk x (by exact List.mem_append.mpr (.inr (.head _)))
     have hws:ws.length≤800:=by simp at wl;exact ar_le ‹_› (by decide)
     have hcat:=wi.cat
     simp only [if_true,List.reverse_append,List.reverse_cons,List.reverse_nil,List.nil_append,vC,uO]at hcat
     have hnp:=psl hcat
     simp only [List.length_append]at hnp
     refine⟨i9 k hf ?_ ?_ ?_⟩
     ·delta Lf
      refine⟨cS k h wi.nowOk (by exact ar_le ‹_› (by decide)) (by exact ar_le ‹_› (by decide)) (fun e=>by simp at e) fun ws1 x1 e=>?_⟩
      obtain⟨e1,e2⟩:=List.append_inj' e rfl
      cases e2
      subst e1
      delta Fz
      obtain⟨w1,w2⟩:=wi.pass (ex:=[]) (by exact Nat.zero_le _) (by exact fun _ h_=>(List.not_mem_nil h_).elim) rfl
      exact .sub [("font",.fz f.toD),("word",.loc a),("steps",.fz (.int s))] rfl (.go ⟨_,w2,fun R F=>F _ _ _ _ _ w1⟩)
     ·intro _ _ kw hkw
      delta And
      refine⟨rfl,_,rfl,?_⟩;delta Lf
      refine⟨cS k h wi.nowOk (by exact ar_le ‹_› (by decide)) (by exact ar_le ‹_› (by decide)) (fun e=>by simp at e) fun ws1 x1 e=>?_⟩
      obtain⟨e1,e2⟩:=List.append_inj' e rfl
      cases e2
      subst e1
      delta atC
      refine⟨_,bP ‹_›,?_⟩;delta atC
      refine⟨_,sC,?_⟩;delta And
      refine⟨rfl,_,rfl,?_⟩;delta Lf
      refine⟨oJ k (by exact JL hkw) (by exact JK hkw) (by decide) (by decide) ?_⟩
      delta atC
      refine⟨_,sC,?_⟩;delta And
      refine⟨by(simp;exact ar_le ‹_› (by decide)),_,L1,?_⟩
      delta Fz
      obtain⟨w1,w2⟩:=wi.pass (ex:=[.kern kw 0]) (by simp) (by simp;exact .kern hkw) rfl
      refine .sub [("font",.fz f.toD),("word",.loc a),("steps",.fz (.int s))] rfl (.go ⟨_,w2,fun R F=>R3 rfl rfl (?_) (F _ _ _ _ _ w1)⟩)
      simp only [wS,List.map_append,List.map_cons,List.map_nil,List.append_assoc,List.cons_append,List.nil_append]
      rfl
     ·intro hl hr op hop cd hcd
      have hop':op=0∨op=1∨op=2∨op=3∨op=5∨op=6∨op=7∨op=11:=by simpa [OPS]using hop
      have n1:now.made=false:=by
       cases e:now.made with
       |false=>rfl
       |true=>have:=wi.nowOk.md e;lia
      have x1:x.made=false:=by
       cases e:x.made with
       |false=>rfl
       |true =>
        have:=hx.md e
        have:=C5 _ hr
        lia
      have hst:=wi.steps
      delta And
      refine⟨rfl,_,rfl,?_⟩;delta cond
      refine bf (ef (by exact Ic hop')) ?_
      delta cond
      refine bf (ef (by exact FQ hst)) ?_
      delta And
      refine⟨rfl,_,rfl,?_⟩;delta And
      refine⟨rfl,_,rfl,?_⟩;delta Lf
      refine⟨oR k h wi.nowOk hx (by exact ar_le ‹_› (by decide)) (by exact ar_le ‹_› (by decide)) (by exact Z3 hnp) (by rw [Int.add_sub_cancel];exact hop) hcd fun ws' now' ex p=>?_⟩
      delta Fz
      obtain⟨w1,w2⟩:=wi.put hcd n1 x1 p (by exact Z3 hnp)
      exact .sub [("font",.fz f.toD),("word",.loc a),("steps",.fz (.int (s-1)))] rfl (.go ⟨_,w2,fun R F=>F _ _ _ _ _ w1⟩)
  have last:∀{a d w fo:Addr}{wait:List It}{now:It}{found:List Sh}{s:Int},WD a w fo→WI f (c::cs) wait now found false s→Gh Q (.loc fo) (wS a d w fo f wait now found false M):=fun h wi =>
   Ho h (q _ ⟨by simpa using wi.cat,wi.nok,wi.hd,wi.ls rfl,by have:=wi.room;exact ar_l ‹_› (by decide)⟩)
  refine aM (b:=le) (fun h1=>?_) fun h1=>?_
  ·delta Lf
   refine⟨sF k ?_⟩
   delta Lf
   refine⟨word fun a d w fo h=>?_⟩
   delta And
   refine⟨by(simp;lia),?_⟩
   delta And
   refine⟨gG (by decide),?_⟩
   delta Lf
   refine main _ ‹_› a d w fo h (.of_c ⟨rfl,rfl,(show some (V.fz (D.int (20*(((List.map D.int (c::cs)).length:Nat)+1))))=_ by rw [List.length_map]),trivial⟩) (fun wait now found s wi=>?_) rfl
   refine .go ?_
   delta atC
   refine⟨_,bP ‹_›,?_⟩;delta Gh
   exact last h wi
  ·delta Lf
   refine⟨word fun a d w fo h=>?_⟩
   delta And
   refine⟨by(simp;lia),?_⟩
   delta And
   refine⟨gG (by decide),?_⟩
   delta Lf
   refine main _ ‹_› a d w fo h (.of_c ⟨rfl,rfl,(show some (V.fz (D.int (20*(((List.map D.int (c::cs)).length:Nat)+1))))=_ by rw [List.length_map]),trivial⟩) (fun wait now found s wi=>?_) rfl
   refine .go ?_
   delta atC
   refine⟨_,bP ‹_›,?_⟩;delta Gh
   exact last h wi
end
section
variable{W:Wd}{n:Nat}{M:Led}{Q:aJ}
theorem tE{a b:Addr}{d:D}(h:b≠a):(V.loc b).sub a d = .loc b:=by simp [V.sub,h]
theorem dF{ds:List D}:(Cell.lst (ds.map V.fz)).frz=some (.lst ds):=by simp only [Cell.frz,bM,Option.map_some]
theorem g9(k:aG W){f:Fnt}(hf:FOk f){codes:List Int}(hc:Oct codes)(hk:∀c∈codes,c∈f.ks)(hl:codes.length≤100){le re:Bool}{vs:List V}(ha:d5 (bD .run).args (dfltOf .run) vs=true)
  (e:uL (bD .run).args (dfltOf .run) vs=([("font",.fz f.toD),("codes",.fz (intL codes)),("left_edge",.fz (.bool le)),("right_edge",.fz (.bool re))]:Loc)) (q:∀nodes,RunOk f codes nodes→Q (.fz (shL nodes)) M):aA W (n+9) .run vs Q M:=by
 refine aH (by assumption) rfl rfl rfl rfl ha fun env he=>?_
 intro T
 rw [e]
 clear e ha
 delta Lf
 refine aX k ‹_› (fun ds m M'=>∀R:Loc→Led→Prop,(∀(l':List Int),ds=l'.map .int→(∀c∈l',c∈codes)→R [("font",.fz f.toD),("codes",.fz (intL codes)),("left_edge",.fz (.bool le)),("right_edge",.fz (.bool re))] M)→R m M') rfl (fun _=>rfl) ?_ ?_ ?_
 ·conv=>whnf
  exact fun R F=>F codes rfl (fun _ h=>h)
 ·intro J1 Q1 d ds m M' hj
  apply hj;clear hj
  intro l' e h
  rcases l' with _|⟨c,l'⟩
  ·exact bV e
  ·cases e
   delta Lf
   have:=hc c (h c (.head _))
   refine⟨aP k this.1 this.2 ?_⟩
   delta Fz
   exact .sub [("font",.fz f.toD),("codes",.fz (intL codes)),("left_edge",.fz (.bool le)),("right_edge",.fz (.bool re))] rfl (.go (fun R F=>F l' rfl (fun x hx=>h x (.tail _ hx))))
 intro m M' hj
 apply hj;clear hj
 intro _ _ _
 refine .go ?_
 conv=>whnf
 intro fo hfo
 conv=>whnf
 intro p hp
 have hpf:p≠fo:=fun e=>hp (by rw [e];exact .head _)
 delta Lf
 refine aX k ‹_› (fun ds m N=>∀R:Loc→Led→Prop,(∀(l1:List Int),∀(l2:List Int),ds=l2.map .int→l1++l2=codes→R [("font",.fz f.toD),("codes",.fz (intL codes)),("left_edge",.fz (.bool le)),("right_edge",.fz (.bool re)),("found",.loc fo),("piece",.loc p),("has_left",.fz (.bool le))] ((p,.lst ((l1.map D.int).map .fz))::(fo,.lst [])::M))→R m N) rfl (fun _=>rfl) ?_ ?_ ?_
 ·conv=>whnf
  exact fun R F=>F [] codes rfl rfl
 ·intro J1 Q1 d ds m N hj
  apply hj;clear hj
  intro l1 l2 e e2
  revert e2
  apply map_cons e
  clear e
  ·intro c l2 e2
   have hcm:c∈codes:=by rw [←e2];simp
   have hll:l1.length≤100:=by have:=congrArg List.length e2;simp at this;exact HY hl this
   delta Lf
   refine⟨D3 k ?_⟩
   delta cond
   refine bt (dt (hk c hcm)) ?_
   delta atC
   refine⟨_,look_self,?_⟩;delta atC
   refine⟨_,look_self,?_⟩;delta And
   refine⟨by(refine ln1 ?_;refine ln1 ?_;exact ar_le ‹_› (by decide)),_,aC,?_⟩
   delta Fz
   refine .sub [("font",.fz f.toD),("codes",.fz (intL codes)),("left_edge",.fz (.bool le)),("right_edge",.fz (.bool re)),("found",.loc fo),("piece",.loc p),("has_left",.fz (.bool le))] rfl (.go (fun R F=>R2 rfl (by simp) (F (l1++[c]) l2 rfl (by exact(List.append_cons _ _ _).symm.trans e2))))
 intro m N hj
 apply hj;clear hj
 intro l1 l2 e e2
 have:l2 = []:=map_nil e
 subst this
 rw [List.append_nil]at e2
 subst e2
 refine .frz p 0 look_self dF ?_
 rw [aB]
 refine .sub [("font",.fz f.toD),("codes",.fz (intL l1)),("right_edge",.fz (.bool re)),("found",.loc fo),("piece",.fz (intL l1)),("has_left",.fz (.bool le))] (.of_c ⟨rfl,rfl,rfl,?_,?_,rfl,trivial⟩) (.go ?_)
 ·show some ((V.loc fo).sub p _)=_
  rw [tE (Ne.symm hpf)]
 ·show some ((V.loc p).sub p _)=_
  simp [V.sub,intL]
 delta atC
 refine⟨_,look_self,?_⟩;delta cond
 refine aM (b:=re) (fun h1=>?_) fun h1=>?_
 all_goals
  delta Lf
  refine⟨rM k hf hc hl fun nodes hr=>?_⟩
  delta atC
  refine⟨_,look_self,?_⟩;delta Exists
  refine⟨_,_,rfl,by have:=hr.room;(simp;exact ar_le ‹_› (by decide)),_,aC,?_⟩
  delta Gh
  refine bZ (ds:=nodes.map Sh.toD) (q _ hr)
theorem sR(k:aG W){f:Fnt}(hf:FOk f){codes:List Int}(hc:Oct codes)(hk:∀c∈codes,c∈f.ks)(hl:codes.length≤100){le re:Bool}(q:∀nodes,RunOk f codes nodes→Q (.fz (shL nodes)) M) :
  aA W (n+9) .run [.fz f.toD,.fz (intL codes),.fz (.bool le),.fz (.bool re)] Q M :=
 g9 k hf hc hk hl rfl rfl q
theorem T8(k:aG W){f:Fnt}(hf:FOk f){codes:List Int}(hc:Oct codes)(hk:∀c∈codes,c∈f.ks)(hl:codes.length≤100)(q:∀nodes,RunOk f codes nodes→Q (.fz (shL nodes)) M):aA W (n+9) .run [.fz f.toD,.fz (intL codes)] Q M :=
 g9 k hf hc hk hl rfl rfl q
end
section
variable{W:Wd}{n:Nat}{M:Led}{Q:aJ}
theorem pG(l:List Sh):shL l=ndL (l.map .sh):=congrArg D.lst (List.map_map (f:=Nd.sh) (g:=Nd.toD) (l:=l)).symm
theorem cH{l:List Nd}{i:Int}{k:Nat}{x:Nd}(h:i=k)(e:l[k]?=some x):cQ (l.map Nd.toD) i=some x.toD:=by
 subst h
 unfold cQ
 rw [if_pos (by exact l6)]
 simp [e]
theorem mY(k:aG W){l:List Nd}(hl:l.length≤10000)(q:Q (.fz (.lst (l.map Nd.mark))) M):aA W (n+2) .marks_of [.fz (ndL l)] Q M:=by
 refine aH ‹_› rfl rfl rfl rfl rfl fun en_ he_=>?_;intro T;delta Lf
 refine mD k ‹_› (fun ds acc=>∀R:List D→Prop,(∀(l1:List Nd),∀(l2:List Nd),ds=l2.map Nd.toD→l1++l2=l→R (l1.map Nd.mark))→R acc) rfl (fun _=>rfl) ?_ ?_ ?_
 ·delta And
  exact⟨by(refine ln1 ?_;exact ar_le ‹_› (by decide)),(fun R F=>F [] l rfl rfl),rfl⟩
 ·intro P1 C b d ds acc hb hj
  apply hj;clear hj
  intro l1 l2 e e2
  revert e2
  apply map_cons e
  clear e
  ·intro x l2 e2
   delta Lf
   refine⟨eZ k ?_⟩
   exact⟨_,rfl,rfl,fun R F=>R1 (by simp) (F (l1++[x]) l2 rfl (by exact(List.append_cons _ _ _).symm.trans e2))⟩
 ·intro b acc hb hj
  apply hj;clear hj
  intro l1 l2 e e2
  have:l2 = []:=map_nil e
  subst this
  rw [List.append_nil]at e2
  subst e2
  refine bZ ?_
  delta Gh
  exact .done q
noncomputable def Nd.isK:Nd→Bool
 |.sh s=>Mine.isK s
 |_=>false
structure Outer(l:List Nd)(lead trail:Nat):Prop where
 sum:lead+trail≤l.length
 le:∀i x,i<lead→l[i]?=some x→x.isK=true
 ln:lead<l.length→∀x,l[lead]?=some x→x.isK=false
 te:∀i x,l.length≤i+trail→l[i]?=some x→x.isK=true
 tn:lead+trail<l.length→∀x,l[l.length-1-trail]?=some x→x.isK=false
theorem iU(k:aG W){l:List Nd}(hl:l.length≤10000)(q:∀a b:Nat,Outer l a b→Q (.fz (.tup [.int a,.int b])) M):aA W (n+1) .outer_kerns [.fz (ndL l)] Q M:=by
 have hl':(l.map Nd.toD).length≤1000000:=by(refine ln1 ?_;exact ar_le ‹_› (by decide))
 refine aH ‹_› rfl rfl rfl rfl rfl fun en_ he_=>?_;intro T;delta Lf
 refine cD (fun m M'=>∀R:Loc→Led→Prop,(∀(i:Nat),i≤l.length→(∀j x,j<i→l[j]?=some x→x.isK=true)→(i<l.length→∀x,l[i]?=some x→x.isK=false)→R [("nodes",.fz (ndL l)),("lead",.fz (.int i)),("trail",.fz (.int 0))] M)→R m M') ?_ ?_
 ·intro P1
  refine cJ k ‹_› (fun j m M'=>∀R:Nat→Loc→Led→Prop,(∀(i:Nat),i≤l.length→(∀j x,j<i→l[j]?=some x→x.isK=true)→R (l.length-i) [("nodes",.fz (ndL l)),("lead",.fz (.int i)),("trail",.fz (.int 0))] M)→R j m M') (k:=l.length) (fun R F=>F 0 (Nat.zero_le _) (fun j x h=>by lia)) ?_
  intro I1 Q0 Q1 j m M' hj
  apply hj;clear hj
  intro i hi hk
  delta And
  refine⟨hl',?_⟩
  delta cond
  refine aM (b:=decide ((i:Int)<(l.map Nd.toD).length)) (fun c=>?_) fun c=>?_
  ·have c:=of_decide_eq_true c
   rw [List.length_map]at c
   have c:i<l.length:=by exact jO ‹_›
   have e:l[i]?=some l[i]:=List.getElem?_eq_getElem c
   generalize l[i]=x at e
   delta And
   refine⟨hl',_,cH rfl e,?_⟩
   rcases x with(_|_|⟨w,s⟩)|_|_|_|_
   case sh.kern =>
    delta Fz
    refine .sub [("nodes",.fz (ndL l)),("lead",.fz (.int (i+1))),("trail",.fz (.int 0))] rfl (.go ⟨l.length-(i+1),by exact wZ ‹_›,fun R F=>R3 rfl (by exact rfl) rfl (F (i+1) c (fun j x hj hx=>?_))⟩)
    rcases Nat.lt_succ_iff_lt_or_eq.mp hj with q|q
    ·exact hk j x q hx
    ·subst q;rw [e]at hx;(have e_:=Option.some.inj hx;clear hx;subst e_);rfl
   all_goals
    delta Fz
    exact .go (fun R F=>F i hi hk (fun _ x hx=>by rw [e]at hx;(have e_:=Option.some.inj hx;clear hx;subst e_);rfl))
  ·have c:=of_decide_eq_false c
   rw [List.length_map]at c
   delta cond
   exact .go (fun R F=>F i hi hk (fun h=>by lia))
 intro P1 m M' hj
 apply hj;clear hj
 intro i hi hk hn
 refine .go ?_
 delta Lf
 refine cD (fun m M1=>∀R:Loc→Led→Prop,(∀(t:Nat),Outer l i t→R [("nodes",.fz (ndL l)),("lead",.fz (.int i)),("trail",.fz (.int t))] M)→R m M1) ?_ ?_
 ·intro P1
  refine cJ k ‹_› (fun j m M1=>∀R:Nat→Loc→Led→Prop,(∀(t:Nat),i+t≤l.length→(∀j x,l.length≤j+t→l[j]?=some x→x.isK=true)→R (l.length-t) [("nodes",.fz (ndL l)),("lead",.fz (.int i)),("trail",.fz (.int t))] M)→R j m M1) (k:=l.length) (fun R F=>F 0 (by exact Hp hi) (fun j x h hx=>(by have:=(List.getElem?_eq_some_iff.mp hx).1;lia))) ?_
  intro I1 Q0 Q1 j m M1 hj
  apply hj;clear hj
  intro t ht htk
  delta And
  refine⟨hl',?_⟩
  delta cond
  refine aM (b:=decide ((t:Int)<(l.map Nd.toD).length-i)) (fun c=>?_) fun c=>?_
  ·have c:=of_decide_eq_true c
   rw [List.length_map]at c
   have c:i+t<l.length:=by exact JW ht c
   have c2:l.length-1-t<l.length:=by exact Je (by assumption)
   have e:l[l.length-1-t]?=some l[l.length-1-t]:=List.getElem?_eq_getElem c2
   generalize l[l.length-1-t]=x at e
   delta And
   refine⟨hl',?_⟩
   delta And
   refine⟨hl',_,cH (by rw [List.length_map];exact Jf (by assumption)) e,?_⟩
   rcases x with(_|_|⟨w,s⟩)|_|_|_|_
   case sh.kern =>
    delta Fz
    refine .sub [("nodes",.fz (ndL l)),("lead",.fz (.int i)),("trail",.fz (.int (t+1)))] rfl (.go ⟨l.length-(t+1),by exact Hs ht (by assumption),fun R F=>R3 rfl (by exact rfl) rfl (F (t+1) (by exact IN ht (by assumption)) (fun j x hj hx=>?_))⟩)
    by_cases q:l.length≤j+t
    ·exact htk j x q hx
    ·have:j=l.length-1-t:=by exact Il hj q
     subst this;rw [e]at hx;(have e_:=Option.some.inj hx;clear hx;subst e_);rfl
   all_goals
    delta Fz
    exact .go (fun R F=>F t ⟨ht,hk,hn,htk,fun _ x hx=>by rw [e]at hx;(have e_:=Option.some.inj hx;clear hx;subst e_);rfl⟩)
  ·have c:=of_decide_eq_false c
   rw [List.length_map]at c
   delta cond
   exact .go (fun R F=>F t ⟨ht,hk,hn,htk,fun h=>by lia⟩)
 intro P1 m M1 hj
 apply hj;clear hj
 intro t ho
 refine .go ?_
 delta Gh
 exact .done (q i t ho)
end
section
variable{W:Wd}{n:Nat}{M:Led}{Q:aJ}
theorem lJ(l:List Int):isDataL (l.map .int)=true:=by
 induction l with
 |nil=>rfl
 |cons i l ih=>exact ih
theorem jL(l:List Int):deepL (l.map .int)=0:=by
 induction l with
 |nil=>rfl
 |cons i l ih=>exact(Nat.zero_max _).trans ih
theorem i8(l:List Int):pyL (l.map .int)=l.map PyData.int:=by
 rw [j0,List.map_map];rfl
theorem tO(l r:List Int):D.eqv (.tup (l.map .int)) (.tup (r.map .int))=decide (l=r):=by
 show PyData.eqv (.tuple (pyL _)) (.tuple (pyL _))=_
 rw [i8,i8];simp only [PyData.eqv,ked_eqvAll]
theorem mA{α:Type}(l:List α){i:Int}{k:Nat}(h:i=k):pick l (some i) none=l.drop k:=by
 subst h
 unfold pick
 simp only [kms_lo,kms_hi]
 rw [if_neg (by exact V3),Int.toNat_natCast]
 rcases Nat.le_total k l.length with h|h
 ·rw [Nat.min_eq_left h,List.take_of_length_le (by simp)]
 ·rw [Nat.min_eq_right h,List.drop_eq_nil_of_le (Nat.le_refl _),List.drop_eq_nil_of_le h,List.take_nil]
noncomputable def Nd.isW:Nd→Bool
 |.sh (.kern _ s)=>s==0
 |.sh _=>true
 |_=>false
noncomputable def Nd.inFol:Nd→Bool
 |.sh _=>true
 |.skip _ _ _=>true
 |.pen _=>true
 |.disc _ _ _=>false
 |.math _ _=>false
noncomputable def G0(i:Nat)(y:Option Nat):List Int→Option Nat
 |[]=>y
 |c::_=>if low c=0 then y else some i
noncomputable def bR:List Nd→Nat→Option Nat
 |[],_=>none
 |x::r,i=>if x.isW then G0 i (bR r (i+1)) x.codes else none
theorem lC{x:Nd}{r:List Nd}{i:Nat}:bR (x::r) i=if x.isW then G0 i (bR r (i+1)) x.codes else none:=rfl
theorem pK{x:Nd}{r:List Nd}{i b:Nat}(h:bR (x::r) i=some b):x.isW=true∧(bR r (i+1)=some b∨i=b∧∃c rs,x.codes=c::rs∧low c≠0):=by
 rw [lC]at h
 by_cases hw:x.isW=true
 ·rw [if_pos hw]at h
  refine⟨hw,?_⟩
  cases hc:x.codes with
  |nil=>rw [hc]at h;exact .inl h
  |cons c rs =>
   rw [hc]at h
   by_cases h0:low c=0
   ·exact .inl ((if_pos h0).symm.trans h)
   ·exact .inr ⟨Option.some.inj ((if_neg h0).symm.trans h),c,rs,rfl,h0⟩
 ·rw [if_neg hw]at h;exact aF h
noncomputable def pH:List Nd→Bool
 |[]=>true
 |x::r=>if x.isW then pH r else x.inFol
theorem DB{x:Nd}{r:List Nd}:pH (x::r)=if x.isW then pH r else x.inFol:=rfl
noncomputable def Nd.font:Nd→Option Fnt
 |.sh (.char f _)=>some f
 |.sh (.lig f _ _ _ _)=>some f
 |_=>none
theorem BL{f:Fnt}{c:Int}:Nd.font (.sh (.char f c))=some f:=rfl
theorem BD{f:Fnt}{c:Int}{ps:List Int}{a b:Bool}:Nd.font (.sh (.lig f c ps a b))=some f:=rfl
theorem AW{w s:Int}:Nd.font (.sh (.kern w s))=none:=rfl
noncomputable def cds(l:List Nd):List Int:=(l.map Nd.codes).flatten
structure IOk(items:List Nd):Prop where
 let4:∀x∈items,∀c∈x.codes,c∈([97,98,99,39]:List Int)
 len:items.length≤10000
 all:(cds items).length≤90
 fnt:∀x∈items,∀f,x.font=some f→FOk f
theorem zB{l:List Nd}{x:Nd}(h:x∈l):x.codes.length≤(cds l).length:=by
 induction l with
 |nil=>cases h
 |cons y l ih =>
  simp only [cds,List.map_cons,List.flatten_cons,List.length_append]at ih ⊢
  rcases mCp h with rfl|h
  ·exact tX
  ·have:=ih h;lia
theorem IOk.cl{l:List Nd}(h:IOk l):∀x∈l,x.codes.length≤1000:=fun x hx=>by have:=zB hx;have:=h.all;exact Iu (by assumption) this
theorem IOk.codes{l:List Nd}(h:IOk l):∀x∈l,∀c∈x.codes,c∈bC:=fun x hx c hc=>by
 have:=h.let4 x hx c hc
 simp only [bC,List.mem_cons,List.not_mem_nil,or_false]at this ⊢
 exact O6 this
noncomputable def JC(o:Option Nat):D:=match o with
 |some i=>.int i
 |none=>.int (-1)
theorem nK(k:aG W){l:List Nd}(hi:IOk l){p:Nat}(hp:p<l.length){up:Bool}(q:Q (.fz (JC (bR (l.drop (p+1)) (p+1)))) M):aA W (n+3) .first_letter [.fz (ndL l),.fz (.int p),.fz fR,.fz (.bool up)] Q M:=by
 have hl':(l.map Nd.toD).length≤1000000:=by have:=hi.len;(refine ln1 ?_;exact ar_le ‹_› (by decide))
 have hlen:=hi.len
 refine aH ‹_› rfl rfl rfl rfl rfl fun en_ he_=>?_;intro T;delta Lf
 refine aX k ‹_› (fun ds m M'=>∀R:Loc→Led→Prop,(∀(i:Nat),i≤l.length→ds=aV i (l.length-i)→bR (l.drop i) i=bR (l.drop (p+1)) (p+1)→R [("items",.fz (ndL l)),("place",.fz (.int p)),("lower",.fz fR),("upper_too",.fz (.bool up))] M)→R m M') rfl (fun _=>rfl) ?_ ?_ ?_
 ·delta And
  refine⟨hl',?_⟩
  delta And
  refine⟨by(simp;exact IX hp hlen),fun R F=>F (p+1) hp ?_ rfl⟩
  rw [List.length_map]
  congr 1
  exact HK
 ·intro J1 Q1 d ds m M' hj
  apply hj;clear hj
  intro i hil e hf
  obtain⟨j,hj⟩:∃j,l.length-i=j+1:=by
   cases h:l.length-i with
   |zero=>rw [h]at e;exact bV e
   |succ j=>exact⟨j,rfl⟩
  rw [hj]at e
  cases e
  have hil2:i<l.length:=by exact ar_sl ‹_›
  have e:l[i]?=some l[i]:=List.getElem?_eq_getElem hil2
  have hd:l.drop i=l[i]::l.drop (i+1):=List.drop_eq_getElem_cons hil2
  have hx:l[i]∈l:=List.getElem_mem hil2
  have hcod:=hi.codes _ hx
  have hcl:=hi.cl _ hx
  generalize l[i]=x at e hd hx hcod hcl
  rw [hd]at hf
  delta And
  refine⟨hl',_,cH rfl e,?_⟩
  have nx:bR (l.drop (i+1)) (i+1)=bR (l.drop (p+1)) (p+1)→(∃i':Nat,i'≤l.length∧aV ((i:Int)+1) j=aV i' (l.length-i')∧bR (l.drop i') i'=bR (l.drop (p+1)) (p+1)):=fun h=>⟨i+1,hil2,by
   have:l.length-(i+1)=j:=by exact AI ‹_›
   rw [this];rfl,h⟩
  have main:∀(cs:List Int),x.codes=cs→x.isW=true→(cs = []→bR (l.drop (i+1)) (i+1)=bR (l.drop (p+1)) (p+1))∧(∀c r,cs=c::r→c∈bC∧(low c=0→bR (l.drop (i+1)) (i+1)=bR (l.drop (p+1)) (p+1))∧(low c≠0→some i=bR (l.drop (p+1)) (p+1))):=by
   intro cs hcs hw
   subst hcs
   refine⟨fun h=>?_,fun c r h=>⟨hcod c (by rw [h];exact .head _),fun h0=>?_,fun h0=>?_⟩⟩
   ·rw [←hf,lC,if_pos hw,h];rfl
   ·rw [←hf,lC,if_pos hw,h];exact(if_pos h0).symm
   ·rw [←hf,lC,if_pos hw,h];exact(if_neg h0).symm
  have lowc:∀{c:Int},low c≠0→low c=c:=by intro c h;unfold low at h ⊢;split <;> simp_all
  have no:x.isW=false→Q (.fz (.int (-1))) M:=fun h=>by
   have:bR (x::l.drop (i+1)) i=none:=by unfold bR;rw [h];simp
   rw [←hf,this]at q
   exact q
  rcases x with(⟨f,c⟩|⟨f,c,ps,lf,rt⟩|⟨w,s⟩)|_|_|_|_
  ·obtain⟨m1,m2⟩:=main [c] rfl rfl
   obtain⟨c1,c2,c3⟩:=m2 c [] rfl
   delta Lf
   refine⟨cO k ?_⟩
   delta Exists
   refine⟨_,_,rfl,rfl,rfl,rfl,by exact Nat.le_of_ble_eq_true rfl,by decide,?_⟩
   delta And
   refine⟨rfl,_,rfl,?_⟩
   delta Lf
   refine⟨pF k c1 ?_⟩
   delta cond
   by_cases h0:low c=0
   ·refine bf (nf (et h0)) ?_
    delta Fz
    exact .sub [("items",.fz (ndL l)),("place",.fz (.int p)),("lower",.fz fR),("upper_too",.fz (.bool up))] rfl (.go (fun R F=>by obtain⟨i',a,b,c⟩:=nx (c2 h0);exact F i' a b c))
   ·refine bt (nt (ef h0)) ?_
    delta And
    refine⟨rfl,_,rfl,?_⟩
    delta cond
    refine bt (et (lowc h0)) ?_
    delta cond
    rw [←c3 h0]at q
    exact .done q
  ·obtain⟨m1,m2⟩:=main ps rfl rfl
   delta Lf
   refine⟨cO k ?_⟩
   delta Exists
   refine⟨_,_,rfl,rfl,lJ _,rfl,(by show deepL (ps.map .int)+1≤60;rw [jL];decide),by decide,?_⟩
   cases ps with
   |nil =>
    refine bf (nf ((tO [] []).trans (dt rfl))) ?_
    delta Fz
    exact .sub [("items",.fz (ndL l)),("place",.fz (.int p)),("lower",.fz fR),("upper_too",.fz (.bool up))] rfl (.go (fun R F=>by obtain⟨i',a,b,c⟩:=nx (m1 rfl);exact F i' a b c))
   |cons c ps =>
    obtain⟨c1,c2,c3⟩:=m2 c ps rfl
    have hfew:few 1000000 ((c::ps).map D.int)=true:=tT (by rw [List.length_map];exact Nat.le_trans hcl (by decide))
    refine bt (nt ((tO (c::ps) []).trans (df (by simp)))) ?_
    delta And
    refine⟨hfew,_,rfl,?_⟩
    delta Lf
    refine⟨pF k c1 ?_⟩
    delta cond
    by_cases h0:low c=0
    ·refine bf (nf (et h0)) ?_
     delta Fz
     exact .sub [("items",.fz (ndL l)),("place",.fz (.int p)),("lower",.fz fR),("upper_too",.fz (.bool up))] rfl (.go (fun R F=>by obtain⟨i',a,b,c⟩:=nx (c2 h0);exact F i' a b c))
    ·refine bt (nt (ef h0)) ?_
     delta And
     refine⟨hfew,_,rfl,?_⟩
     delta cond
     refine bt (et (lowc h0)) ?_
     delta cond
     rw [←c3 h0]at q
     exact .done q
  ·delta Lf
   refine⟨aR (d:=.sh (.kern w s)) k ?_⟩
   delta cond
   cases hs:(s==0)with
   |true =>
    obtain⟨m1,m2⟩:=main [] rfl hs
    refine bf (nf hs) ?_
    delta cond
    refine⟨cO (d:=.sh (.kern w s)) k ?_⟩
    delta Exists
    refine⟨_,_,rfl,rfl,rfl,rfl,by exact Nat.le_of_ble_eq_true rfl,by decide,?_⟩
    delta cond
    exact .sub [("items",.fz (ndL l)),("place",.fz (.int p)),("lower",.fz fR),("upper_too",.fz (.bool up))] rfl (.go (fun R F=>by obtain⟨i',a,b,c⟩:=nx (m1 rfl);exact F i' a b c))
   |false =>
    refine bt (nt hs) ?_
    delta Gh
    exact .done (no hs)
  ·delta Lf
   refine⟨aR (d:=.skip _ _ _) k ?_⟩
   delta Gh
   exact .done (no rfl)
  ·delta Lf
   refine⟨aR (d:=.pen _) k ?_⟩
   delta Gh
   exact .done (no rfl)
  ·delta Lf
   refine⟨aR (d:=.disc _ _ _) k ?_⟩
   delta Gh
   exact .done (no rfl)
  ·delta Lf
   refine⟨aR (d:=.math _ _) k ?_⟩
   delta Gh
   exact .done (no rfl)
 ·intro m M' hj
  apply hj;clear hj
  intro i hil e hf
  have:l.length-i=0:=by
   cases h:l.length-i with
   |zero=>rfl
   |succ j=>rw [h]at e;cases e
  rw [List.drop_eq_nil_of_le (by exact IS this)]at hf
  rw [←hf]at q
  refine .go ?_
  delta Gh
  exact .done q
theorem wX(k:aG W){l:List Nd}(hl:l.length≤10000){p:Nat}(q:Q (.fz (.bool (pH (l.drop p)))) M):aA W (n+2) .is_followed_well [.fz (ndL l),.fz (.int p)] Q M:=by
 refine aH ‹_› rfl rfl rfl rfl rfl fun en_ he_=>?_;intro T;delta Lf
 refine aX k ‹_› (fun ds m M'=>∀R:Loc→Led→Prop,(∀(r:List Nd),ds=r.map Nd.toD→pH r=pH (l.drop p)→R [("items",.fz (ndL l)),("end",.fz (.int p))] M)→R m M') rfl (fun _=>rfl) ?_ ?_ ?_
 ·delta Or
  refine .inl ⟨_,rfl,by(refine ln1 ?_;refine ln1 ?_;exact ar_le ‹_› (by decide)),fun b hb=>?_⟩
  delta atC
  refine⟨_,look_self,?_⟩;conv=>whnf
  refine⟨(l.drop p).map Nd.toD,_,?_,aB,fun R F=>F _ rfl rfl⟩
  rw [mA _ rfl,←List.map_drop,←List.map_drop]
  exact bM _
 ·intro J1 Q1 d ds m M' hj
  apply hj;clear hj
  intro r e hf
  revert hf
  apply map_cons e
  clear e
  ·intro x r hf
   have nx:x.isW=true→pH r=pH (l.drop p):=fun h=>by rw [←hf];exact(if_pos h).symm
   have no:x.isW=false→Q (.fz (.bool x.inFol)) M:=fun h=>by rw [←hf,DB]at q;rw [h]at q;exact q
   rcases x with(⟨f,c⟩|⟨f,c,ps,lf,rt⟩|⟨w,s⟩)|_|_|_|_
   ·delta Fz
    exact .sub [("items",.fz (ndL l)),("end",.fz (.int p))] rfl (.go (fun R F=>F r rfl (nx rfl)))
   ·delta Fz
    exact .sub [("items",.fz (ndL l)),("end",.fz (.int p))] rfl (.go (fun R F=>F r rfl (nx rfl)))
   ·delta Lf
    refine⟨aR (d:=.sh (.kern w s)) k ?_⟩
    delta cond
    cases hs:(s==0)with
    |true =>
     refine bf (nf hs) ?_
     delta cond
     exact .sub [("items",.fz (ndL l)),("end",.fz (.int p))] rfl (.go (fun R F=>F r rfl (nx hs)))
    |false =>
     refine bt (nt hs) ?_
     delta Or
     refine .inr ⟨true,_,[5,13,6,7,10,11,9],rfl,rfl,?_⟩
     delta Gh
     exact .done (no hs)
   ·delta Lf
    refine⟨aR (d:=.skip _ _ _) k ?_⟩
    delta Or
    refine .inr ⟨true,_,[5,13,6,7,10,11,9],rfl,rfl,?_⟩
    delta Gh
    exact .done (no rfl)
   ·delta Lf
    refine⟨aR (d:=.pen _) k ?_⟩
    delta Or
    refine .inr ⟨true,_,[5,13,6,7,10,11,9],rfl,rfl,?_⟩
    delta Gh
    exact .done (no rfl)
   ·delta Lf
    refine⟨aR (d:=.disc _ _ _) k ?_⟩
    delta Or
    refine .inr ⟨true,_,[5,13,6,7,10,11,9],rfl,rfl,?_⟩
    delta Gh
    exact .done (no rfl)
   ·delta Lf
    refine⟨aR (d:=.math _ _) k ?_⟩
    delta Or
    refine .inr ⟨true,_,[5,13,6,7,10,11,9],rfl,rfl,?_⟩
    delta Gh
    exact .done (no rfl)
 ·intro m M' hj
  apply hj;clear hj
  intro r e hf
  have:r = []:=map_nil e
  subst this
  rw [←hf]at q
  refine .go ?_
  delta Gh
  exact .done q
end
section
variable{W:Wd}{n:Nat}{M:Led}{Q:aJ}
set_option tactic.hygienic true in
theorem nH{l:List Nd}:∀{i:Nat}{b:Nat},bR (l.drop i) i=some b→i≤b∧∃x c r,l[b]?=some x∧x.codes=c::r∧low c≠0:=by
 intro i b h
 generalize hr:l.drop i=r at h
 induction r generalizing i with
 |nil=>exact aF h
 |cons x r ih =>
  have hil:i<l.length:=by
   rcases Nat.lt_or_ge i l.length with q|q
   ·exact q
   ·rw [List.drop_eq_nil_of_le q]at hr;cases hr
  rw [List.drop_eq_getElem_cons hil]at hr
  obtain⟨hx,hr⟩:=List.cons.inj hr
  obtain⟨_,h|⟨rfl,c,rs,hc,h0⟩⟩:=pK h
  ·obtain⟨a,b⟩:=ih hr h;exact⟨Nat.le_of_succ_le a,b⟩
  ·exact⟨Nat.le_refl _,x,c,rs,by rw [←hx];exact List.getElem?_eq_getElem hil,hc,h0⟩
noncomputable def strW(num:Int):List Nd→List Int→Nat × List Int
 |[],ls=>(0,ls)
 |x::r,ls=>if x.ofF num=true∧¬(0∈x.codes.map low∨ls.length+x.codes.length>63)then((strW num r (ls++x.codes.map low)).1+1,(strW num r (ls++x.codes.map low)).2)else(0,ls)
theorem gD{num:Int}{x:Nd}{r:List Nd}{ls:List Int}:strW num (x::r) ls=if x.ofF num=true∧¬(0∈x.codes.map low∨ls.length+x.codes.length>63)then((strW num r (ls++x.codes.map low)).1+1,(strW num r (ls++x.codes.map low)).2)else(0,ls):=rfl
noncomputable def wsM(l:List Nd)(b:Nat)(f:Fnt)(lt:Addr)(e:Nat):Loc:=[("items",.fz (ndL l)),("lower",.fz fR),("begin",.fz (.int b)),("font",.fz f.toD),("letters",.loc lt),("end",.fz (.int e))]
noncomputable def fX(l:List Nd)(p:Nat):Option (Nat × Nat × List Int):=(bR (l.drop (p+1)) (p+1)).bind fun b=>((l[b]?).bind Nd.font).bind fun f =>
 if (strW f.num (l.drop b) []).2≠[]∧pH (l.drop (b+(strW f.num (l.drop b) []).1))=true then some (b,b+(strW f.num (l.drop b) []).1,(strW f.num (l.drop b) []).2)else none
theorem T4{c:Prop}[Decidable c]{α:Type}{a b:α}(h:(if c then some a else none)=some b):c∧a=b:=by
 by_cases e:c
 ·rw [if_pos e]at h;exact⟨e,Option.some.inj h⟩
 ·rw [if_neg e]at h;exact aF h
theorem rW{l:List Nd}{p b e:Nat}{ls:List Int}(h:fX l p=some (b,e,ls)):bR (l.drop (p+1)) (p+1)=some b∧∃f,(l[b]?).bind Nd.font=some f∧((strW f.num (l.drop b) []).2≠[]∧pH (l.drop (b+(strW f.num (l.drop b) []).1))=true)∧b+(strW f.num (l.drop b) []).1=e∧(strW f.num (l.drop b) []).2=ls:=by
 obtain⟨b0,hb,h⟩:=Option.bind_eq_some_iff.mp h
 obtain⟨f,hf,h⟩:=Option.bind_eq_some_iff.mp h
 obtain⟨hc,h⟩:=T4 h
 obtain rfl:b0=b:=congrArg (·.1) h
 exact⟨hb,f,hf,hc,congrArg (·.2.1) h,congrArg (·.2.2) h⟩
noncomputable def C6(o:Option (Nat × Nat × List Int)):D:=match o with
 |none=>.none
 |some w=>.tup [.int w.1,.int w.2.1,intL w.2.2]
theorem dO(l:List Int):dX ((l.map D.int).map V.fz)=some l:=by
 induction l with
 |nil=>rfl
 |cons i l ih=>exact congrArg (Option.map (i::·)) ih
theorem nV(k:aG W){l:List Nd}(hi:IOk l){p:Nat}(hp:p<l.length){up:Bool}(q:Q (.fz (C6 (fX l p))) M):aA W (n+4) .word_stretch [.fz (ndL l),.fz (.int p),.fz fR,.fz (.bool up)] Q M:=by
 have hlen:=hi.len
 have hl':(l.map Nd.toD).length≤1000000:=by(refine ln1 ?_;exact ar_le ‹_› (by decide))
 refine aH ‹_› rfl rfl rfl rfl rfl fun en_ he_=>?_;intro T;delta Lf
 refine⟨nK k hi hp ?_⟩
 unfold fX at q
 cases hfl:bR (l.drop (p+1)) (p+1)with
 |none =>
  rw [hfl]at q
  delta Gh
  exact .done q
 |some b =>
  rw [hfl]at q
  obtain⟨hb,x,c,r,hx,hc,h0⟩:=nH hfl
  have hbl:b<l.length:=(List.getElem?_eq_some_iff.mp hx).1
  simp only [hx,Option.bind_some]at q
  delta And
  refine⟨hl',_,cH rfl hx,?_⟩
  have main:∀(f:Fnt) (env:Env),env.scope.names=(scopeOf .word_stretch).names→let T:Tk:=⟨W,n+3,env,(scopeOf .word_stretch).names⟩;Nd.font x=some f→∀lt,lt∉foot M→∀{m:Loc}{test:Expr}{body:List Stmt}{pos:Pos}{R:bG},
    kL [("items",.fz (ndL l)),("lower",.fz fR),("begin",.fz (.int b)),("font",.fz f.toD),("letters",.loc lt),("end",.fz (.int b))] m →
    (R .next [("items",.fz (ndL l)),("begin",.fz (.int b)),("letters",.fz (intL (strW f.num (l.drop b) []).2)),("end",.fz (.int (b+(strW f.num (l.drop b) []).1:Nat)))] M) →
    (eF .word_stretch)[5]?=some (.While test body [] pos)→Lf (TS T.W T.n T.env (.While test body [] pos) m (FzQ R) ((lt,.lst [])::M)):=by
   intro f env he T hf lt hlt m test body pos R hm hR hbd
   cases hbd
   refine bX _ hm ?_
   refine cJ k ‹_› (fun j m M'=>∀R:Nat→Loc→Led→Prop,(∀(e:Nat),∀(ls:List Int),e≤l.length→ls.length≤63→e+(strW f.num (l.drop e) ls).1=b+(strW f.num (l.drop b) []).1→(strW f.num (l.drop e) ls).2=(strW f.num (l.drop b) []).2→R (l.length-e) (wsM l b f lt e) ((lt,.lst ((ls.map D.int).map .fz))::M))→R j m M') (k:=l.length-b) (fun R F=>F b [] (Nat.le_of_lt hbl) (by exact Nat.zero_le _) rfl rfl) ?_
   intro I1 Q0 Q1 j m M' hj
   apply hj;clear hj
   intro e ls he1 hls e1 e2
   have fin:(strW f.num (l.drop e) ls)=(0,ls)→FzQ R .next (wsM l b f lt e) ((lt,.lst ((ls.map D.int).map .fz))::M):=by
    intro h
    rw [h]at e1 e2
    simp only at e1 e2
    subst e2
    rw [Nat.add_zero]at e1
    rw [←e1]at hR
    refine .frz lt 0 look_self dF ?_
    rw [aB]
    refine .sub [("items",.fz (ndL l)),("begin",.fz (.int b)),("letters",.fz (intL (strW f.num (l.drop b) []).2)),("end",.fz (.int e))] (.of_c ⟨rfl,rfl,?_,rfl,trivial⟩) (.go hR)
    show some ((V.loc lt).sub lt _)=_
    simp [V.sub,intL]
   delta And
   refine⟨hl',?_⟩
   delta cond
   refine aM (b:=decide ((e:Int)<(l.map Nd.toD).length)) (fun cc=>?_) fun cc=>?_
   ·have cc:=of_decide_eq_true cc
    rw [List.length_map]at cc
    have cc:e<l.length:=by exact jO ‹_›
    have hy:l[e]?=some l[e]:=List.getElem?_eq_getElem cc
    have hd:l.drop e=l[e]::l.drop (e+1):=List.drop_eq_getElem_cons cc
    have hm:l[e]∈l:=List.getElem_mem cc
    have hcod:=hi.codes _ hm
    have hcl:=hi.cl _ hm
    generalize l[e]=y at hy hd hm hcod hcl
    delta And
    refine⟨hl',_,cH rfl hy,?_⟩
    delta Lf
    refine⟨fU k ?_⟩
    delta cond
    refine aM (b:=y.ofF f.num) (fun h1=>?_) fun h1=>?_
    ·delta Lf
     refine Bo k ‹_› (fun ds acc N=>∀R:List D→Led→Prop,(∀(l1:List Int),∀(l2:List Int),ds=l2.map .int→l1++l2=y.codes→R ((l1.map low).map .int) ((lt,.lst ((ls.map D.int).map .fz))::M))→R acc N) rfl (fun _=>rfl) rfl ?_ ?_ ?_
     ·delta And
      refine⟨hl',_,cH rfl hy,?_⟩
      delta Lf
      refine⟨cO k ?_⟩
      delta And
      exact⟨by(refine ln1 ?_;exact ar_le ‹_› (by decide)),fun R F=>F [] y.codes rfl rfl⟩
     ·intro J1 C b1 d ds acc N hb1 hj
      revert hb1
      apply hj;clear hj
      intro l1 l2 e4 e3 hb1
      revert e3 hb1
      apply map_cons e4
      clear e4
      ·intro c1 l2 e3 hb1
       delta Lf
       refine⟨pF k (hcod c1 (by rw [←e3];simp)) ?_⟩
       exact⟨_,_,rfl,rfl,hb1,fun R F=>R2 (by simp) rfl (F (l1++[c1]) l2 rfl (by exact(List.append_cons _ _ _).symm.trans e3))⟩
     ·intro acc N hj
      apply hj;clear hj
      intro l1 l2 e4 e3
      have:l2 = []:=map_nil e4
      subst this
      rw [List.append_nil]at e3
      subst e3
      refine⟨⟨trivial,trivial,trivial,trivial,mAr (.inl (.head _)),trivial,trivial⟩,.go ?_⟩
      delta Or
      refine .inr ⟨false,_,y.codes.map low,rfl,dO _,?_⟩
      refine aM (b:=decide (0∈y.codes.map low)) (fun h2=>?_) fun h2=>?_
      ·have h2:=of_decide_eq_true h2
       delta cond
       exact .sub (wsM l b f lt e) rfl (.go (fin (by rw [hd,gD,if_neg (fun h=>h.2 (.inl h2))])))
      ·have h2:=of_decide_eq_false h2
       delta atC
       refine⟨_,look_self,?_⟩;delta And
       refine⟨by(refine ln1 ?_;refine ln1 ?_;exact ar_le ‹_› (by decide)),?_⟩
       delta And
       refine⟨by(refine ln1 ?_;refine ln1 ?_;exact ar_le ‹_› (by decide)),?_⟩
       delta cond
       by_cases h3:ls.length+y.codes.length>63
       ·refine bt (dt (by(refine Eq.substr (List.length_map _) ?_;refine Eq.substr (List.length_map _) ?_;refine Eq.substr (List.length_map _) ?_;refine Eq.substr (List.length_map _) ?_;exact Ii h3))) ?_
        delta cond
        exact .sub (wsM l b f lt e) rfl (.go (fin (by rw [hd,gD,if_neg (fun h=>h.2 (.inr h3))])))
       ·refine bf (df (by(simp;exact JN h3))) ?_
        delta atC
        refine⟨_,look_self,?_⟩;delta atC
        refine⟨_,look_self,?_⟩;delta Exists
        refine⟨_,_,rfl,by(refine Eq.substr (List.length_map _) ?_;refine Eq.substr (List.length_map _) ?_;refine Eq.substr (List.length_map _) ?_;refine Eq.substr (List.length_map _) ?_;refine Eq.substr (List.length_map _) ?_;exact JQ h3),_,aC,?_⟩
        delta Fz
        rw [hd,gD]at e1 e2
        have hcnd:(y.ofF f.num=true∧¬(0∈y.codes.map low∨ls.length+y.codes.length>63)):=⟨h1,fun h=>h.elim h2 h3⟩
        rw [if_pos hcnd]at e1 e2
        exact .sub (wsM l b f lt (e+1)) rfl (.go ⟨l.length-(e+1),by exact wZ ‹_›,fun R F=>R3 rfl rfl (by simp) (F (e+1) (ls++y.codes.map low) cc (by(refine ln4 ?_;refine Eq.substr (List.length_map _) ?_;exact Hw h3)) (by rw [←e1];exact IF) e2)⟩)
    ·delta cond
     exact fin (by rw [hd,gD,if_neg (fun h=>by rw [h1]at h;cases h.1)])
   ·have cc:=of_decide_eq_false cc
    rw [List.length_map]at cc
    delta cond
    exact fin (by rw [List.drop_eq_nil_of_le (by exact J9 ‹_›)];rfl)
  have tail:∀(f:Fnt),Nd.font x=some f→∀{G:Prop},G→G:=fun _ _ _ g=>g
  rcases x with(⟨f,c1⟩|⟨f,c1,ps,lf,rt⟩|⟨w,s⟩)|_|_|_|_ <;> first|(cases hc;done)|skip
  all_goals
   simp only [BL,BD,AW,Option.bind_some,Option.bind_none]at q
   delta And
   refine⟨hl',_,cH rfl hx,?_⟩
   conv=>whnf
   intro lt hlt
   delta Lf
   refine main f _ ‹_› rfl lt hlt rfl ?_ rfl
   delta cond
   cases hls:(strW f.num (l.drop b) []).2 with
   |nil =>
    rw [hls]at q
    delta cond
    exact .done (by simpa [C6]using q)
   |cons c2 r2 =>
    rw [hls]at q
    delta cond
    refine⟨wX k hlen ?_⟩
    delta cond
    refine aM (b:=pH (l.drop (b+(strW f.num (l.drop b) []).1))) (fun h=>?_) fun h=>?_
    ·delta Gh
     rw [if_pos ⟨by simp,h⟩]at q
     exact .done q
    ·delta cond
     rw [if_neg (fun h2=>by rw [h]at h2;cases h2.2)]at q
     exact .done q
end
section
variable{W:Wd}{n:Nat}{M:Led}{Q:aJ}
structure Str8 where
 f:Fnt
 first:Nat
 last:Nat
 codes:List Int
 left:Bool
 right:Bool
 nodes:List Nd
noncomputable def dN(l:List Nd):List Int:=(List.range (l.length+1)).map fun i=>(((l.take i).map Nd.codes).flatten.length:Int)
noncomputable def Str8.toD(s:Str8):D:=.inst .Stretch [s.f.toD,.int s.first,.int s.last,intL s.codes,.bool s.left,.bool s.right,ndL s.nodes,intL (dN s.nodes)]
theorem sB{l:List Nd}{i:Nat}{j:Int}(hj:j=i)(h:i≤l.length):cQ ((dN l).map D.int) j=some (.int ((cds (l.take i)).length:Nat)):=by
 subst hj
 unfold cQ
 rw [if_pos (by exact l6)]
 simp [dN,cds,Nat.lt_succ_of_le h]
theorem rD{l:List Nd}(hl:l.length≤10000):((dN l).map D.int).length≤1000000:=by simp [dN];exact ar_le ‹_› (by decide)
structure Ahead(l h:List Nd)(p:Int)(c:Nat):Prop where
 cl:c≤l.length
 ch:c≤h.length
 eq:∀(i:Nat) (x y:Nd),i<c→l[i]?=some x→h[i]?=some y→D.eqv x.mark y.mark=true
 le:0<c→((cds (l.take c)).length:Int)≤p
structure Behind(l t:List Nd)(p:Int)(b c:Nat):Prop where
 cl:c+b≤l.length
 ct:c≤t.length
 eq:∀(i:Nat) (x y:Nd),i<c→l[l.length-1-i]?=some x→t[t.length-1-i]?=some y→D.eqv x.mark y.mark=true
 le:0<c→p≤((cds (l.take (l.length-c))).length:Int)
theorem mark_deep(x:Nd):x.mark.deep≤2:=by
 rcases x with(_|⟨f,c,ps,l,r⟩|_)|_|_|_|_
 ·exact Nat.le_of_ble_eq_true rfl
 ·show max 0 (max 0 (max 0 (max (deepL (ps.map .int)+1) (max 0 (max 0 0)))))+1≤2;rw [jL];decide
 all_goals exact Nat.le_of_ble_eq_true rfl
theorem cZ(x:Nd):x.mark.isData=true∧x.mark.deep≤60:=by
 refine⟨?_,Nat.le_trans (mark_deep x) (by decide)⟩
 rcases x with(_|⟨f,c,ps,l,r⟩|_)|_|_|_|_
 ·rfl
 ·show(isDataL (ps.map .int)&&true)=true;rw [lJ];rfl
 all_goals rfl
theorem qK(k:aG W){s:Str8}{h:List Nd}(hl:s.nodes.length≤10000)(hh:h.length≤10000){p:Int}(q:∀c:Nat,Ahead s.nodes h p c→Q (.fz (.int c)) M) :
  aA W (n+2) .Stretch_alike_ahead [.fz s.toD,.fz (ndL h),.fz (.int p)] Q M:=by
 have l1:(s.nodes.map Nd.toD).length≤1000000:=by(refine ln1 ?_;exact ar_le ‹_› (by decide))
 have l2:(h.map Nd.toD).length≤1000000:=by(refine ln1 ?_;exact ar_le ‹_› (by decide))
 refine aH ‹_› rfl rfl rfl rfl rfl fun en_ he_=>?_;intro T;delta Lf
 refine cD (fun m M'=>∀R:Loc→Led→Prop,(∀(c:Nat),Ahead s.nodes h p c→R [("count",.fz (.int c))] M)→R m M') ?_ ?_
 ·intro P1
  refine cJ k ‹_› (fun j m M'=>∀R:Nat→Loc→Led→Prop,(∀(c:Nat),Ahead s.nodes h p c→R (s.nodes.length-c) [("self",.fz s.toD),("head",.fz (ndL h)),("place",.fz (.int p)),("count",.fz (.int c))] M)→R j m M') (k:=s.nodes.length) (fun R F=>F 0 ⟨Nat.zero_le _,Nat.zero_le _,fun i x y h=>absurd h (Nat.not_lt_zero _),fun h=>by exact Ez h⟩) ?_
  intro I1 Q0 Q1 j m M' hj
  apply hj;clear hj
  intro c ha
  delta And
  refine⟨l1,?_⟩
  have ex:Ahead s.nodes h p c→Fz P1 [("self",.fz s.toD),("head",.fz (ndL h)),("place",.fz (.int p)),("count",.fz (.int c))] M:=fun ha=>.sub [("count",.fz (.int c))] rfl (.go (fun R F=>F c ha))
  delta cond
  refine aM (b:=decide ((c:Int)<(s.nodes.map Nd.toD).length)) (fun c1=>?_) fun _=>ex ha
  have c1:=of_decide_eq_true c1
  rw [List.length_map]at c1
  have c1:c<s.nodes.length:=by exact jO ‹_›
  delta And
  refine⟨l2,?_⟩
  delta cond
  refine aM (b:=decide ((c:Int)<(h.map Nd.toD).length)) (fun c2=>?_) fun _=>ex ha
  have c2:=of_decide_eq_true c2
  rw [List.length_map]at c2
  have c2:c<h.length:=by exact jO ‹_›
  delta And
  refine⟨rD hl,_,sB (i:=c+1) (by exact rfl) c1,?_⟩
  delta cond
  refine aM (b:=decide (((cds (s.nodes.take (c+1))).length:Int)≤p)) (fun c3=>?_) fun _=>ex ha
  have c3:=of_decide_eq_true c3
  have e1:s.nodes[c]?=some s.nodes[c]:=List.getElem?_eq_getElem c1
  have e2:h[c]?=some h[c]:=List.getElem?_eq_getElem c2
  generalize s.nodes[c]=x at e1
  generalize h[c]=y at e2
  delta And
  refine⟨l1,_,cH rfl e1,?_⟩
  delta Lf
  refine⟨eZ k ?_⟩
  delta And
  refine⟨l2,_,cH rfl e2,?_⟩
  delta Lf
  refine⟨eZ k ?_⟩
  have eqm:∀{R:Bool→Led→Prop},R (D.eqv x.mark y.mark) M→wEq (.fz x.mark) (.fz y.mark) R M:=by
   intro R r
   have w:xO (.fz x.mark) (.fz y.mark) R M:=⟨_,_,rfl,rfl,(cZ x).1,(cZ y).1,(cZ x).2,(cZ y).2,r⟩
   rcases x with(_|_|_)|_|_|_|_ <;> exact w
  refine eqm ?_
  refine aM (b:=!D.eqv x.mark y.mark) (fun c4=>?_) fun c4=>?_
  ·delta Fz
   exact .go (ex ha)
  ·delta Fz
   refine .sub [("self",.fz s.toD),("head",.fz (ndL h)),("place",.fz (.int p)),("count",.fz (.int (c+1)))] rfl (.go ⟨s.nodes.length-(c+1),by exact wZ ‹_›,fun R F=>R3 rfl (by exact rfl) rfl (F (c+1) ⟨c1,c2,fun i x' y' hi hx hy=>?_,fun _=>c3⟩)⟩)
   rcases Nat.lt_succ_iff_lt_or_eq.mp hi with hi|rfl
   ·exact ha.eq i x' y' hi hx hy
   ·rw [e1]at hx;rw [e2]at hy;(have e_:=Option.some.inj hx;clear hx;subst e_);(have e_:=Option.some.inj hy;clear hy;subst e_);simpa using c4
 intro P1 m M' hj
 apply hj;clear hj
 intro c ha
 refine .go ?_
 delta Gh
 exact .done (q c ha)
theorem nR(k:aG W){s:Str8}{t:List Nd}(hl:s.nodes.length≤10000)(ht:t.length≤10000){p:Int}{b:Nat}(hb:b≤s.nodes.length)(q:∀c:Nat,Behind s.nodes t p b c→Q (.fz (.int c)) M) :
  aA W (n+2) .Stretch_alike_behind [.fz s.toD,.fz (ndL t),.fz (.int p),.fz (.int b)] Q M:=by
 have l1:(s.nodes.map Nd.toD).length≤1000000:=by(refine ln1 ?_;exact ar_le ‹_› (by decide))
 have l2:(t.map Nd.toD).length≤1000000:=by(refine ln1 ?_;exact ar_le ‹_› (by decide))
 refine aH ‹_› rfl rfl rfl rfl rfl fun en_ he_=>?_;intro T;delta And
 refine⟨l1,?_⟩
 delta Lf
 refine cD (fun m M'=>∀R:Loc→Led→Prop,(∀(c:Nat),Behind s.nodes t p b c→R [("count",.fz (.int c))] M)→R m M') ?_ ?_
 ·intro P1
  refine bX [("self",.fz s.toD),("tail",.fz (ndL t)),("place",.fz (.int p)),("begin",.fz (.int b)),("count",.fz (.int (0:Nat))),("spot",.fz (.int ((s.nodes.length:Int)-1-(0:Nat))))] (.of_c ⟨rfl,rfl,rfl,rfl,rfl,(by show some _=some _;simp),trivial⟩) ?_
  refine cJ k ‹_› (fun j m M'=>∀R:Nat→Loc→Led→Prop,(∀(c:Nat),Behind s.nodes t p b c→R (s.nodes.length-c) [("self",.fz s.toD),("tail",.fz (ndL t)),("place",.fz (.int p)),("begin",.fz (.int b)),("count",.fz (.int c)),("spot",.fz (.int ((s.nodes.length:Int)-1-c)))] M)→R j m M') (k:=s.nodes.length) (fun R F=>F 0 ⟨by exact EH hb,Nat.zero_le _,fun i x y h=>absurd h (Nat.not_lt_zero _),fun h=>by exact Dp h⟩) ?_
  intro I1 Q0 Q1 j m M' hj
  apply hj;clear hj
  intro c ha
  have ex:Behind s.nodes t p b c→Fz P1 [("self",.fz s.toD),("tail",.fz (ndL t)),("place",.fz (.int p)),("begin",.fz (.int b)),("count",.fz (.int c)),("spot",.fz (.int ((s.nodes.length:Int)-1-c)))] M:=fun ha=>.sub [("count",.fz (.int c))] rfl (.go (fun R F=>F c ha))
  delta cond
  refine aM (b:=decide ((b:Int)≤(s.nodes.length:Int)-1-c)) (fun c1=>?_) fun _=>ex ha
  have c1:=of_decide_eq_true c1
  have c1:c+b<s.nodes.length:=by exact Gs (by assumption)
  delta And
  refine⟨l2,?_⟩
  delta cond
  refine aM (b:=decide ((c:Int)<(t.map Nd.toD).length)) (fun c2=>?_) fun _=>ex ha
  have c2:=of_decide_eq_true c2
  rw [List.length_map]at c2
  have c2:c<t.length:=by exact jO ‹_›
  delta And
  refine⟨rD hl,_,sB (i:=s.nodes.length-(c+1)) (by exact Dh (by assumption)) (by exact GP (by assumption)),?_⟩
  delta cond
  refine aM (b:=decide (p≤((cds (s.nodes.take (s.nodes.length-(c+1)))).length:Int))) (fun c3=>?_) fun _=>ex ha
  have c3:=of_decide_eq_true c3
  have e1:s.nodes[s.nodes.length-1-c]?=some s.nodes[s.nodes.length-1-c]:=List.getElem?_eq_getElem (by exact Dv (by assumption))
  have e2:t[t.length-1-c]?=some t[t.length-1-c]:=List.getElem?_eq_getElem (by exact Z2 ‹_›)
  generalize s.nodes[s.nodes.length-1-c]=x at e1
  generalize t[t.length-1-c]=y at e2
  delta And
  refine⟨l1,_,cH (by exact DZ (by assumption)) e1,?_⟩
  delta Lf
  refine⟨eZ k ?_⟩
  delta And
  refine⟨l2,?_⟩
  delta And
  refine⟨l2,_,cH (by rw [List.length_map];exact FA ‹_›) e2,?_⟩
  delta Lf
  refine⟨eZ k ?_⟩
  have eqm:∀{R:Bool→Led→Prop},R (D.eqv x.mark y.mark) M→wEq (.fz x.mark) (.fz y.mark) R M:=by
   intro R r
   have w:xO (.fz x.mark) (.fz y.mark) R M:=⟨_,_,rfl,rfl,(cZ x).1,(cZ y).1,(cZ x).2,(cZ y).2,r⟩
   rcases x with(_|_|_)|_|_|_|_ <;> exact w
  refine eqm ?_
  refine aM (b:=!D.eqv x.mark y.mark) (fun c4=>?_) fun c4=>?_
  ·delta Fz
   exact .go (ex ha)
  ·delta Fz
   refine .sub [("self",.fz s.toD),("tail",.fz (ndL t)),("place",.fz (.int p)),("begin",.fz (.int b)),("count",.fz (.int (c+1))),("spot",.fz (.int ((s.nodes.length:Int)-1-c-1)))] rfl (.go ⟨s.nodes.length-(c+1),by exact Ge (by assumption),fun R F=>R3 rfl (?_) rfl (F (c+1) ⟨by exact ES (by assumption),c2,fun i x' y' hi hx hy=>?_,fun _=>c3⟩)⟩)
   ·have:((s.nodes.length:Int)-1-c-1)=(s.nodes.length:Int)-1-((c+1:Nat):Int):=by exact Di
    rw [this];rfl
   rcases Nat.lt_succ_iff_lt_or_eq.mp hi with hi|rfl
   ·exact ha.eq i x' y' hi hx hy
   ·rw [e1]at hx;rw [e2]at hy;(have e_:=Option.some.inj hx;clear hx;subst e_);(have e_:=Option.some.inj hy;clear hy;subst e_);simpa using c4
 intro P1 m M' hj
 apply hj;clear hj
 intro c ha
 refine .go ?_
 delta Gh
 exact .done (q c ha)
end
section
variable{W:Wd}{n:Nat}{M:Led}{Q:aJ}
theorem pP{α:Type}(l:List α){i j:Int}{a b:Nat}(h:i=a)(h2:j=b):pick l (some i) (some j)=(l.drop a).take (b-a):=by
 subst h h2
 unfold pick
 simp only [kms_lo,kms_hi]
 rw [if_neg (by exact V3),if_neg (by exact V3),Int.toNat_natCast,Int.toNat_natCast]
 rcases Nat.le_total a l.length with h|h
 ·rw [Nat.min_eq_left h]
  rcases Nat.le_total b l.length with h2|h2
  ·rw [Nat.min_eq_left h2]
  ·rw [Nat.min_eq_right h2,List.take_of_length_le (by simp),List.take_of_length_le (by(simp;exact Dx h2))]
 ·rw [Nat.min_eq_right h,List.drop_eq_nil_of_le (Nat.le_refl _),List.drop_eq_nil_of_le h,List.take_nil,List.take_nil]
noncomputable def seg(l:List Nd)(a b:Nat):List Nd:=(l.drop a).take (b-a)
structure StrOk(l:List Nd)(b e:Nat)(s:Str8):Prop where
 fnt:∃x,l[b]?=some x∧x.font=some s.f
 fst:s.first≤b
 lst:b<s.last
 len:s.last≤l.length
 nodes:s.nodes=seg l s.first s.last
 codes:s.codes=cds s.nodes
 short:∀x∈s.nodes,∃y,x = .sh y
 tail:∀(i:Nat) (y:Nd),s.last≤i→i<e→l[i]?=some y→y.codes = []
theorem kF{l:List Nd}{a b:Nat}(h:b≤l.length):(seg l a b).length=b-a:=by simp [seg];exact Gw ‹_›
theorem kD{l:List Nd}{a b i:Nat}(h:i<b-a):(seg l a b)[i]?=l[a+i]?:=by
 unfold seg
 rw [List.getElem?_take_of_lt h,List.getElem?_drop]
theorem rZ{l:List Nd}(hl:l.length≤10000){i j:Int}{a b:Nat}(h:i=a)(h2:j=b){R:aJ}(q:∀p,p∉foot M→R (.loc p) ((p,.lst (((seg l a b).map Nd.toD).map .fz))::M)):n7 M (.fz (ndL l)) (some i) (some j) R:=by
 refine .inl ⟨_,rfl,by(refine ln1 ?_;refine ln1 ?_;exact ar_le ‹_› (by decide)),?_⟩
 rw [pP _ h h2]
 intro p hp
 have:=q p hp
 rwa [show((seg l a b).map Nd.toD).map V.fz=(((l.map Nd.toD).map V.fz).drop a).take (b-a) by simp [seg,List.map_take,List.map_drop]]at this
theorem eJ(pre post:List D){f:Fn}{p:Addr}{ds:List D}(h:aA W n f (pre.map .fz++.fz (.lst ds)::post.map .fz) Q M):aA W n f (pre.map .fz++.loc p::post.map .fz) Q ((p,.lst (ds.map .fz))::M):=by
 refine aA.freeze p 0 look_self dF ?_
 rw [aB]
 have e:∀l:List D,(l.map V.fz).map (V.sub p (.lst ds))=l.map .fz:=fun l=>by simp [V.sub]
 rw [List.map_append,List.map_cons,e,e]
 simpa [V.sub,iF,iI]using h
theorem Z4{cl a d:Addr}{c:Cn}{ks:List Str}{l l':List V}{ds:List D}{m:Loc}{P:Loc→Led→Prop}(hl:l.map (V.sub cl (.lst ds))=l')(q:Fz P (subL cl (.lst ds) m) ((a,.inst c d ks l')::M)):Fz P m ((cl,.lst (ds.map .fz))::(a,.inst c d ks l)::M):=by
 refine .frz cl 1 look_self dF ?_
 rw [aB]
 show Fz P _ ((a,.inst c d ks (l.map (V.sub cl (.lst ds))))::M)
 rw [hl]
 exact q
theorem Fc{env:Env}{m:Loc}{st:Stmt}{QS:bG}{bg nd a d:Addr}{c:Cn}{ks:List Str}{l l':List V}{ds:List D}(hnb:nd≠bg)(lb:List D)(hl:l.map (V.sub nd (.lst ds))=l')
  (q:Lf (TS W n env st (subL nd (.lst ds) m) QS ((bg,.lst (lb.map .fz))::(a,.inst c d ks l')::M))):Lf (TS W n env st m QS ((bg,.lst (lb.map .fz))::(nd,.lst (ds.map .fz))::(a,.inst c d ks l)::M)):=by
 refine jT nd 2 ((look_skip hnb).trans look_self) dF ?_
 rw [dB hnb,aB]
 show Lf (TS W n env st _ QS ((bg,.lst ((lb.map V.fz).map (V.sub nd (.lst ds))))::(a,.inst c d ks (l.map (V.sub nd (.lst ds))))::M))
 rw [hl,show(lb.map V.fz).map (V.sub nd (.lst ds))=lb.map .fz by simp [V.sub]]
 exact q
theorem vM(l:List Nd):∃r,dN l=r++[((cds l).length:Int)]:=by
 unfold dN
 rw [List.range_succ,List.map_append]
 refine⟨(List.range l.length).map fun i=>(((l.take i).map Nd.codes).flatten.length:Int),?_⟩
 congr 1
 rw [List.map_singleton,List.take_length]
 rfl
theorem uT(l:List Nd)(y:Nd):dN (l++[y])=dN l++[((cds l).length:Int)+y.codes.length]:=by
 unfold dN
 rw [List.length_append,List.length_singleton,List.range_succ,List.map_append]
 congr 1
 ·apply List.map_congr_left
  intro i hi
  rw [List.mem_range]at hi
  rw [List.take_append_of_le_length (by exact EO hi)]
 ·rw [List.map_singleton,List.take_of_length_le (by simp),List.map_append,List.flatten_append,List.length_append]
  simp [cds]
theorem marks_isD(l:List Nd):isDataL (l.map Nd.mark)=true:=by
 induction l with
 |nil=>rfl
 |cons x l ih=>exact anr ⟨(cZ x).1,ih⟩
theorem pC(l:List Nd):deepL (l.map Nd.mark)≤2:=by
 induction l with
 |nil=>exact Nat.zero_le _
 |cons x l ih=>exact Nat.max_le.mpr ⟨mark_deep x,ih⟩
theorem m9{f:Fnt}{codes:List Int}{nodes:List Sh}(h:RunOk f codes nodes){a b:Nat}(o:Outer (nodes.map .sh) a b):a=0∧b=0:=by
 have hd:a=0:=by
  cases a with
  |zero=>rfl
  |succ a =>
   cases nodes with
   |nil=>have:=o.sum;simp at this
   |cons x r =>
    have h1:=o.le 0 (.sh x) (by exact v8) rfl
    have h2:=h.hd x rfl
    rw [show(Nd.sh x).isK=isK x from rfl,h2]at h1
    exact aL h1
 subst hd
 refine⟨rfl,?_⟩
 cases b with
 |zero=>rfl
 |succ b =>
  rcases nil_snoc nodes with rfl|⟨r,x,rfl⟩
  ·have:=o.sum;simp at this
  ·have h1:=o.te r.length (.sh x) (by simp) (by simp)
   have h2:=h.ls x (by simp)
   rw [show(Nd.sh x).isK=isK x from rfl,h2]at h1
   exact aL h1
theorem vW(k:aG W){l:List Sh}(hl:l.length≤10000)(q:Q (.fz (.lst ((l.map Nd.sh).map Nd.mark))) M):aA W (n+2) .marks_of [.fz (shL l)] Q M:=by
 rw [pG];exact mY k (by exact ln1 hl) q
theorem wY(k:aG W){f:Fnt}{codes:List Int}{l:List Sh}(h:RunOk f codes l)(q:Q (.fz (.tup [.int 0,.int 0])) M):aA W (n+1) .outer_kerns [.fz (shL l)] Q M:=by
 rw [pG]
 refine iU k (by have:=h.room;(refine ln1 ?_;exact ar_le ‹_› (by decide))) fun x y ho=>?_
 obtain⟨e1,e2⟩:=m9 h ho
 subst e1 e2
 exact q
noncomputable def C8:List Str:=["font","first","last","codes","left","right"]
theorem rL(k:aG W){l:List Nd}(hlen:l.length≤10000){a d:Addr}{f:Fnt}(hf:FOk f){codes:List Int}(hc:∀c∈codes,c∈([97,98,99,39]:List Int))(hcl:codes.length≤90){fst lst:Nat}(q:∀b1 b2:Bool,Q (.fz .none) ((a,.inst .Stretch d C8 [.fz f.toD,.fz (.int fst),.fz (.int lst),.fz (intL codes),.fz (.bool b1),.fz (.bool b2)])::M)) :
  aA W (n+10) .Stretch_find_edges [.loc a,.fz (ndL l)] Q ((a,.inst .Stretch d C8 [.fz f.toD,.fz (.int fst),.fz (.int lst),.fz (intL codes),.fz (.bool false),.fz (.bool false)])::M):=by
 have oc:Oct codes:=fun c h=>by have:=hc c h;simp only [List.mem_cons,List.not_mem_nil,or_false]at this;exact AB this
 have ck:∀c∈codes,c∈f.ks:=fun c h=>by
  have:=hc c h
  simp only [List.mem_cons,List.not_mem_nil,or_false]at this
  rcases hf.ks with e|e <;> rw [e] <;> simp <;>(first|exact O6 this|exact B4 this)
 refine aH ‹_› rfl rfl rfl rfl rfl fun en_ he_=>?_;intro T;delta Lf
 refine aX k ‹_› (fun ds m M'=>∀R:Loc→Led→Prop,(∀(bs:List (Bool × Bool)),(ds=bs.map fun p=>D.tup [.bool p.1,.bool p.2])→R [("self",.loc a),("items",.fz (ndL l))] ((a,.inst .Stretch d C8 [.fz f.toD,.fz (.int fst),.fz (.int lst),.fz (intL codes),.fz (.bool false),.fz (.bool false)])::M))→R m M') rfl (fun _=>rfl) ?_ ?_ ?_
 ·conv=>whnf
  exact fun R F=>F [(true,true),(false,true),(true,false),(false,false)] rfl
 ·intro J1 Q1 dd ds m M' hj
  apply hj;clear hj
  intro bs e
  rcases bs with _|⟨⟨b1,b2⟩,bs⟩
  ·exact bV e
  ·cases e
   delta atC
   refine⟨_,look_self,?_⟩;delta atC
   refine⟨_,look_self,?_⟩;delta Lf
   refine⟨sR k hf oc ck (by exact ar_le ‹_› (by decide)) fun nodes hr=>?_⟩
   delta Lf
   refine⟨wY k hr ?_⟩
   delta Lf
   refine⟨vW k (by have:=hr.room;exact ar_le ‹_› (by decide)) ?_⟩
   delta atC
   refine⟨_,look_self,?_⟩;delta atC
   refine⟨_,look_self,?_⟩;delta Or
   refine rZ hlen (a:=fst) (b:=lst) (by exact rfl) (by exact rfl) fun p hp=>?_
   refine⟨eJ [] [] (mY (l:=seg l fst lst) k (by simp [seg];exact xG ‹_›) ?_)⟩
   delta Exists
   refine⟨_,_,rfl,rfl,marks_isD _,marks_isD _,by show deepL _+1≤60;have:=pC (nodes.map .sh);exact X3 this,by show deepL _+1≤60;have:=pC (seg l fst lst);exact X3 this,?_⟩
   refine aM (fun h=>?_) fun h=>?_
   ·refine⟨_,look_self,?_⟩;delta putTo;refine⟨_,aC,?_⟩;delta atC
    refine⟨_,look_self,?_⟩;delta putTo;refine⟨_,aC,?_⟩;delta atC
    refine⟨_,look_self,?_⟩;delta atC
    refine⟨_,look_self,?_⟩;delta putTo;refine⟨_,aC,?_⟩;delta atC
    refine⟨_,look_self,?_⟩;delta atC
    refine⟨_,look_self,?_⟩;delta putTo;refine⟨_,aC,?_⟩;delta Gh
    have:=q b1 b2
    rw [←Int.sub_zero (fst:Int),←Int.add_zero (lst:Int)]at this
    exact .done this
   ·delta Fz
    exact .sub [("self",.loc a),("items",.fz (ndL l))] rfl (.go (fun R F=>F bs rfl))
 ·intro m M' hj
  apply hj;clear hj
  intro _ _
  refine .go ?_
  delta Gh
  exact .done (q false false)
theorem yI(k:aG W){l:List Nd}(hi:IOk l){b e:Nat}{x:Nd}{f:Fnt}(hx:l[b]?=some x)(hf:x.font=some f)(hbe:b<e)(he:e≤l.length)(hw:∀i y,b≤i→i<e→l[i]?=some y→y.ofF f.num=true)(q:∀s,StrOk l b e s→Q (.fz s.toD) M) :
  bN W (n+14) .Stretch [.fz (ndL l),.fz (.int b),.fz (.int e)] Q M:=by
 have hlen:=hi.len
 have hl':(l.map Nd.toD).length≤1000000:=by(refine ln1 ?_;exact ar_le ‹_› (by decide))
 have hbl:b<l.length:=by exact Nat.lt_of_lt_of_le ‹_› ‹_›
 refine lD k fun a d ha hd hda=>?_
 refine aH ‹_› rfl rfl rfl rfl rfl fun en_ he_=>?_;intro T;delta And
 refine⟨hl',_,cH rfl hx,?_⟩
 have hxf:∀{R:aJ}{N:Led},R (.fz f.toD) N→yQ x.toD "font" R N:=by
  intro R N r
  rcases x with(⟨g,c⟩|⟨g,c,ps,lf,rt⟩|⟨w,s⟩)|_|_|_|_ <;> first|((first|(have e_:=Option.some.inj hf;clear hf;subst e_)|exact aF hf);done)|((have e_:=Option.some.inj hf;clear hf;subst e_);exact r)
 refine hxf ?_
 refine⟨_,look_self,?_⟩;delta putTo;refine⟨_,aC,?_⟩;delta Lf
 refine cD (fun m M'=>∀R:Loc→Led→Prop,(∀(i:Nat),i≤b→(∀j y,i≤j→j<b→l[j]?=some y→y.ofF f.num=true)→R [("self",.loc a),("items",.fz (ndL l)),("first",.fz (.int i)),("last",.fz (.int e))] ((a,.inst .Stretch d ["font"] [.fz f.toD])::M))→R m M') ?_ ?_
 ·intro P1
  refine bX [("self",.loc a),("items",.fz (ndL l)),("first",.fz (.int b)),("last",.fz (.int e))] rfl ?_
  refine cJ k ‹_› (fun j m M'=>∀R:Nat→Loc→Led→Prop,(∀(i:Nat),i≤b→(∀j y,i≤j→j<b→l[j]?=some y→y.ofF f.num=true)→R i [("self",.loc a),("items",.fz (ndL l)),("first",.fz (.int i)),("last",.fz (.int e))] ((a,.inst .Stretch d ["font"] [.fz f.toD])::M))→R j m M') (k:=b) (fun R F=>F b (Nat.le_refl _) (fun j y h1 h2=>by lia)) ?_
  intro I1 Q0 Q1 j m M' hj
  apply hj;clear hj
  intro i hib hin
  have ex:Fz P1 [("self",.loc a),("items",.fz (ndL l)),("first",.fz (.int i)),("last",.fz (.int e))] ((a,.inst .Stretch d ["font"] [.fz f.toD])::M):=.go (fun R F=>F i hib hin)
  delta cond
  cases i with
  |zero=>exact ex
  |succ i =>
   refine bt (dt (p:=(0:Int)<((i+1:Nat):Int)) (by exact EG)) ?_
   delta And
   have hy:l[i]?=some l[i]:=List.getElem?_eq_getElem (by exact Dc hbe he hib)
   generalize l[i]=y at hy
   refine⟨hl',_,cH (by simp) hy,?_⟩
   delta atC
   refine⟨_,look_self,?_⟩;delta Lf
   refine⟨fU k ?_⟩
   delta cond
   refine aM (b:=y.ofF f.num) (fun h1=>?_) fun _=>ex
   delta Fz
   refine .sub [("self",.loc a),("items",.fz (ndL l)),("first",.fz (.int i)),("last",.fz (.int e))] (.of_c ⟨rfl,rfl,(by show some (V.fz (D.int (((i+1:Nat):Int)-1)))=_;simp),rfl,trivial⟩) (.go ⟨i,Nat.lt_succ_self i,fun R F=>F i (by exact Nat.le_of_succ_le ‹_›) (fun j y' h2 h3 hy'=>?_)⟩)
   rcases Nat.eq_or_lt_of_le h2 with rfl|h2
   ·rw [hy]at hy';(have e_:=Option.some.inj hy';clear hy';subst e_);exact h1
   ·exact hin j y' h2 h3 hy'
 intro P1 m M' hj
 apply hj;clear hj
 intro i hib hin
 refine .go ?_
 delta Lf
 refine cD (fun m M'=>∀R:Loc→Led→Prop,(∀(j:Nat),e≤j→j≤l.length→(∀t y,i≤t→t<j→l[t]?=some y→y.ofF f.num=true)→R [("self",.loc a),("items",.fz (ndL l)),("first",.fz (.int i)),("last",.fz (.int j))] ((a,.inst .Stretch d ["font"] [.fz f.toD])::M))→R m M') ?_ ?_
 ·intro P1
  refine cJ k ‹_› (fun jj m M'=>∀R:Nat→Loc→Led→Prop,(∀(j:Nat),e≤j→j≤l.length→(∀t y,i≤t→t<j→l[t]?=some y→y.ofF f.num=true)→R (l.length-j) [("self",.loc a),("items",.fz (ndL l)),("first",.fz (.int i)),("last",.fz (.int j))] ((a,.inst .Stretch d ["font"] [.fz f.toD])::M))→R jj m M') (k:=l.length-e) (fun R F=>F e (Nat.le_refl _) he (fun t y h1 h2 hy=>?_)) ?_
  ·rcases Nat.lt_or_ge t b with q'|q'
   ·exact hin t y h1 q' hy
   ·exact hw t y q' h2 hy
  intro I1 Q0 Q1 jj m M' hj
  apply hj;clear hj
  intro j hej hjl hjn
  have ex:Fz P1 [("self",.loc a),("items",.fz (ndL l)),("first",.fz (.int i)),("last",.fz (.int j))] ((a,.inst .Stretch d ["font"] [.fz f.toD])::M):=.go (fun R F=>F j hej hjl hjn)
  delta And
  refine⟨hl',?_⟩
  delta cond
  refine aM (b:=decide ((j:Int)<(l.map Nd.toD).length)) (fun c1=>?_) fun _=>ex
  have c1:=of_decide_eq_true c1
  rw [List.length_map]at c1
  have c1:j<l.length:=by exact jO ‹_›
  have hy:l[j]?=some l[j]:=List.getElem?_eq_getElem c1
  generalize l[j]=y at hy
  delta And
  refine⟨hl',_,cH rfl hy,?_⟩
  delta atC
  refine⟨_,look_self,?_⟩;delta Lf
  refine⟨fU k ?_⟩
  delta cond
  refine aM (b:=y.ofF f.num) (fun h1=>?_) fun _=>ex
  delta Fz
  refine .sub [("self",.loc a),("items",.fz (ndL l)),("first",.fz (.int i)),("last",.fz (.int (j+1)))] rfl (.go ⟨l.length-(j+1),by exact wZ ‹_›,fun R F=>R3 rfl (by exact rfl) rfl (F (j+1) (by exact Y6 hej) c1 (fun t y' h2 h3 hy'=>?_))⟩)
  rcases Nat.lt_succ_iff_lt_or_eq.mp h3 with h3|rfl
  ·exact hjn t y' h2 h3 hy'
  ·rw [hy]at hy';(have e_:=Option.some.inj hy';clear hy';subst e_);exact h1
 intro P1 m M' hj
 apply hj;clear hj
 intro j hej hjl hjn
 refine .go ?_
 delta Or
 refine rZ hlen (a:=i) (b:=j) rfl rfl fun p hp=>?_
 refine⟨eJ [] [] (iU (l:=seg l i j) k (by simp [seg];exact xG ‹_›) fun ld tr ho=>?_)⟩
 have hsl:(seg l i j).length=j-i:=kF hjl
 have hxk:x.isK=false:=by
  rcases x with(_|_|⟨w,s⟩)|_|_|_|_ <;> first|((first|(have e_:=Option.some.inj hf;clear hf;subst e_)|exact aF hf);done)|rfl
 have hld:i+ld≤b:=by
  rcases Nat.lt_or_ge b (i+ld)with h|h
  ·have:=ho.le (b-i) x (by exact FL hib h) (by rw [kD (by exact q_293 hbe hib hej)];rw [show i+(b-i)=b by exact Nat.add_sub_of_le ‹_›];exact hx)
   rw [hxk]at this;exact aL this
  ·exact h
 have htr:b<j-tr:=by
  rcases Nat.lt_or_ge b (j-tr)with h|h
  ·exact h
  ·have:=ho.te (b-i) x (by exact Fq hib hsl h) (by rw [kD (by exact q_293 hbe hib hej)];rw [show i+(b-i)=b by exact Nat.add_sub_of_le ‹_›];exact hx)
   rw [hxk]at this;exact aL this
 have hsum:=ho.sum
 delta atC
 refine⟨_,look_self,?_⟩;delta putTo;refine⟨_,aC,?_⟩;delta atC
 refine⟨_,look_self,?_⟩;delta putTo;refine⟨_,aC,?_⟩;conv=>whnf
 intro cl hcl
 have hac:a≠cl:=fun e=>hcl (by rw [←e];exact .head _)
 delta atC
 refine⟨_,bH hac,?_⟩;delta putTo
 refine⟨_,(aE hac).trans (congrArg _ aC),?_⟩;delta Lf
 have F1:((i:Int)+ld)=((i+ld:Nat):Int):=by exact rfl
 have F2:((j:Int)-tr)=((j-tr:Nat):Int):=by exact Do htr
 generalize hS:seg l (i+ld) (j-tr)=S
 have hSl:S.length≤10000:=by rw [←hS,kF (by exact B8 hjl F2)];exact FF hlen hjl F2
 have hSm:∀y∈S,y∈l:=fun y hy=>by rw [←hS]at hy;exact List.mem_of_mem_drop (List.mem_of_mem_take hy)
 have hSc:(cds S).length≤90:=by
  have h1:∀(A B:List Nd),(cds (A++B)).length=(cds A).length+(cds B).length:=fun A B=>by simp [cds]
  have h2:=hi.all
  have h3:=h1 (l.take (i+ld)) (l.drop (i+ld))
  rw [List.take_append_drop]at h3
  have h4:=h1 ((l.drop (i+ld)).take (j-tr-(i+ld))) ((l.drop (i+ld)).drop (j-tr-(i+ld)))
  rw [List.take_append_drop]at h4
  rw [←hS]
  unfold seg
  exact AE h2 h3 h4
 have hS4:∀c∈cds S,c∈([97,98,99,39]:List Int):=fun c hc=>by
  obtain⟨r,hr,hcr⟩:=List.mem_flatten.mp hc
  obtain⟨y,hy,rfl⟩:=mMp hr
  exact hi.let4 y (hSm y hy) c hcr
 refine bX [("self",.loc a),("items",.fz (ndL l))] rfl ?_
 refine aX k ‹_› (fun ds m M'=>∀R:Loc→Led→Prop,(∀(l1:List Nd),∀(l2:List Nd),ds=l2.map Nd.toD→l1++l2=S→R [("self",.loc a),("items",.fz (ndL l))] ((cl,.lst (((cds l1).map D.int).map .fz))::(a,.inst .Stretch d ["font","first","last","codes"] [.fz f.toD,.fz (.int (i+ld)),.fz (.int (j-tr)),.loc cl])::M))→R m M') rfl (fun _=>rfl) ?_ ?_ ?_
 ·delta atC
  refine⟨_,bH hac,?_⟩;delta atC
  refine⟨_,bH hac,?_⟩;delta Or
  refine rZ hlen (a:=i+ld) (b:=j-tr) F1 F2 fun p hp=>?_
  rw [hS]
  delta atC
  refine⟨_,look_self,?_⟩;conv=>whnf
  exact⟨_,_,bM _,aB,fun R F=>F [] S rfl rfl⟩
 ·intro J1 Q1 dd ds m M' hj
  apply hj;clear hj
  intro l1 l2 e1 e2
  revert e2
  apply map_cons e1
  clear e1
  ·intro y l2 e2
   have hb:(cds l1).length+y.codes.length≤90:=by
    have:=hSc
    rw [←e2]at this
    simp [cds]at this ⊢
    exact Et this
   delta atC
   refine⟨_,bH hac,?_⟩;delta atC
   refine⟨_,look_self,?_⟩;delta Lf
   refine⟨cO k ?_⟩
   delta atC
   refine⟨_,look_self,?_⟩;delta Exists
   refine⟨_,_,rfl,by(refine Eq.substr (List.length_map _) ?_;refine Eq.substr (List.length_map _) ?_;refine Eq.substr (List.length_map _) ?_;refine Eq.substr (List.length_map _) ?_;exact ar_le ‹_› (by decide)),_,aC,?_⟩
   delta Fz
   refine .sub [("self",.loc a),("items",.fz (ndL l))] rfl (.go (fun R F=>R2 rfl (?_) (F (l1++[y]) l2 rfl (by exact(List.append_cons _ _ _).symm.trans e2))))
   simp [cds]
 intro m M' hj
 apply hj;clear hj
 intro l1 l2 e1 e2
 have:l2 = []:=map_nil e1
 subst this
 rw [List.append_nil]at e2
 subst e2
 refine Z4 (l':=[.fz f.toD,.fz (.int ((i+ld:Nat):Int)),.fz (.int ((j-tr:Nat):Int)),.fz (intL (cds l1))]) (by simp [V.sub,intL,F2]) ?_
 refine .sub [("self",.loc a),("items",.fz (ndL l))] (.of_c ⟨(by show some ((V.loc a).sub cl _)=_;rw [tE hac]),rfl,trivial⟩) (.go ?_)
 delta atC
 refine⟨_,look_self,?_⟩;delta putTo;refine⟨_,aC,?_⟩;delta atC
 refine⟨_,look_self,?_⟩;delta putTo;refine⟨_,aC,?_⟩;delta atC
 refine⟨_,look_self,?_⟩;delta Lf
 refine⟨rL k hlen (hi.fnt x (List.mem_of_getElem? hx) f hf) hS4 hSc fun b1 b2=>?_⟩
 delta atC
 refine⟨_,look_self,?_⟩;delta atC
 refine⟨_,look_self,?_⟩;delta Or
 refine rZ hlen (a:=i+ld) (b:=j-tr) rfl rfl fun nd hnd=>?_
 have han:a≠nd:=fun e=>hnd (by rw [←e];exact .head _)
 rw [hS]
 delta atC
 refine⟨_,bH han,?_⟩;delta putTo
 refine⟨_,(aE han).trans (congrArg _ aC),?_⟩;conv=>whnf
 intro bg hbg
 have hnb:nd≠bg:=fun e=>hbg (by rw [←e];exact .head _)
 have hab:a≠bg:=fun e=>hbg (by rw [←e];simp [foot,Cell.foot])
 delta atC
 refine⟨_,(look_skip hab).trans (bH han),?_⟩;delta putTo
 refine⟨_,(aE hab).trans (congrArg _ ((aE han).trans (congrArg _ aC))),?_⟩;delta Lf
 refine Fc (c:=.Stretch) (ks:=fields .Stretch) (l:=[.fz f.toD,.fz (.int ((i+ld:Nat):Int)),.fz (.int ((j-tr:Nat):Int)),.fz (intL (cds l1)),.fz (.bool b1),.fz (.bool b2),.loc nd,.loc bg])
  (l':=[.fz f.toD,.fz (.int ((i+ld:Nat):Int)),.fz (.int ((j-tr:Nat):Int)),.fz (intL (cds l1)),.fz (.bool b1),.fz (.bool b2),.fz (ndL l1),.loc bg]) hnb [.int 0] (by simp [V.sub,ndL,Ne.symm hnb]) ?_
 refine bX [("self",.loc a)] (.of_c ⟨(by show some ((V.loc a).sub nd _)=_;rw [tE han]),trivial⟩) ?_
 refine aX k ‹_› (fun ds m M'=>∀R:Loc→Led→Prop,(∀(l2:List Nd),∀(l3:List Nd),ds=l3.map Nd.toD→l2++l3=l1→R [("self",.loc a)] ((bg,.lst (((dN l2).map D.int).map .fz))::(a,.inst .Stretch d (fields .Stretch) [.fz f.toD,.fz (.int ((i+ld:Nat):Int)),.fz (.int ((j-tr:Nat):Int)),.fz (intL (cds l1)),.fz (.bool b1),.fz (.bool b2),.fz (ndL l1),.loc bg])::M))→R m M') rfl (fun _=>rfl) ?_ ?_ ?_
 ·delta atC
  refine⟨_,bH hab,?_⟩;conv=>whnf
  exact fun R F=>F [] l1 rfl rfl
 ·intro J1 Q1 dd ds m M' hj
  apply hj;clear hj
  intro l2 l3 e1 e2
  revert e2
  apply map_cons e1
  clear e1
  ·intro y l3 e2
   obtain⟨r,hr⟩:=vM l2
   have hbl:(dN l2).length≤100000:=by
    have:l2.length≤l1.length:=by rw [←e2];simp
    simp [dN];exact EP hSl this
   delta atC
   refine⟨_,bH hab,?_⟩;delta atC
   refine⟨_,look_self,?_⟩;delta atC
   refine⟨_,bH hab,?_⟩;delta atC
   refine⟨_,look_self,by(simp;exact ar_le ‹_› (by decide)),.fz (.int ((cds l2).length:Nat)),by rw [hr,List.map_append,List.map_append];exact a9,?_⟩
   delta Lf
   refine⟨cO k ?_⟩
   delta And
   have hb:y.codes.length≤1000:=hi.cl y (hSm y (by rw [←e2];simp))
   refine⟨by(refine ln1 ?_;exact ar_le ‹_› (by decide)),?_⟩
   delta atC
   refine⟨_,look_self,?_⟩;delta And
   refine⟨by(simp;exact ar_le ‹_› (by decide)),_,aC,?_⟩
   delta Fz
   refine .sub [("self",.loc a)] rfl (.go (fun R F=>R2 rfl (?_) (F (l2++[y]) l3 rfl (by exact(List.append_cons _ _ _).symm.trans e2))))
   rw [uT]
   simp
 intro m M' hj
 apply hj;clear hj
 intro l2 l3 e1 e2
 have:l3 = []:=map_nil e1
 subst this
 rw [List.append_nil]at e2
 subst e2
 refine Z4 (l':=[.fz f.toD,.fz (.int ((i+ld:Nat):Int)),.fz (.int ((j-tr:Nat):Int)),.fz (intL (cds l2)),.fz (.bool b1),.fz (.bool b2),.fz (ndL l2),.fz (intL (dN l2))]) (by simp [V.sub,intL]) ?_
 refine .go ?_
 delta Gh
 refine .done ⟨rfl,?_⟩
 refine sZ (ds:=[f.toD,.int ((i+ld:Nat):Int),.int ((j-tr:Nat):Int),intL (cds l2),.bool b1,.bool b2,ndL l2,intL (dN l2)]) ?_
 refine q ⟨f,i+ld,j-tr,cds l2,b1,b2,l2⟩ ⟨⟨x,hx,hf⟩,hld,htr,by show j-tr≤_;exact B8 hjl F2,hS.symm,rfl,fun y hy=>?_,fun t y h1 h2 hy=>?_⟩
 rotate_left
 ·have h1:j-tr≤t:=h1
  have:=ho.te (t-i) y (by exact Gi hib hej hsl htr F2 (by assumption) h2) (by rw [kD (by exact q_301 hib hej hsl htr hsum F2 (by assumption) h2),show i+(t-i)=t by exact Dm hib htr (by assumption)];exact hy)
  rcases y with(_|_|_)|_|_|_|_ <;> first|rfl|exact aL this
 have hy:y∈l2:=hy
 obtain⟨t,ht,hty⟩:=List.getElem_of_mem hy
 have h1:l2[t]?=some y:=by rw [List.getElem?_eq_getElem ht,hty]
 have htl:t<j-tr-(i+ld):=by rw [←hS,kF (by exact B8 hjl F2)]at ht;exact ht
 rw [←hS,kD htl]at h1
 have h2:=hjn (i+ld+t) y (by exact Ff) (by exact EY hld htr F2 htl) h1
 rcases y with y|_|_|_|_
 ·exact⟨y,rfl⟩
 all_goals exact aL h2
end
section
variable{W:Wd}{n:Nat}{M:Led}{Q:aJ}
theorem qV(k:aG W){l:List Nd}(hi:IOk l){s:Str8}{b:Nat}(q:Q (.fz (.int ((cds (seg l s.first b)).length:Nat))) M):aA W (n+2) .word_offset [.fz s.toD,.fz (ndL l),.fz (.int b)] Q M:=by
 have hlen:=hi.len
 have hsl:(seg l s.first b).length≤10000:=by simp [seg];exact xG ‹_›
 have hm:∀y∈seg l s.first b,y∈l:=fun y hy=>List.mem_of_mem_drop (List.mem_of_mem_take hy)
 generalize hS:seg l s.first b=S at q hsl hm
 refine aH ‹_› rfl rfl rfl rfl rfl fun en_ he_=>?_;intro T;delta Lf
 refine mD k ‹_› (fun ds acc=>∀R:List D→Prop,(∀(l1:List Nd),∀(l2:List Nd),ds=l2.map Nd.toD→l1++l2=S→R ((l1.map fun x=>(x.codes.length:Int)).map .int))→R acc) rfl (fun _=>rfl) ?_ ?_ ?_
 ·delta Or
  refine rZ hlen (a:=s.first) (b:=b) rfl rfl fun p hp=>?_
  rw [hS]
  delta atC
  refine⟨_,look_self,?_⟩;conv=>whnf
  exact⟨_,_,bM _,aB,by(refine ln1 ?_;exact ar_le ‹_› (by decide)),fun R F=>F [] S rfl rfl,rfl⟩
 ·intro P1 C b1 d ds acc hb hj
  apply hj;clear hj
  intro l1 l2 e1 e2
  revert e2
  apply map_cons e1
  clear e1
  ·intro y l2 e2
   delta Lf
   refine⟨cO k ?_⟩
   delta And
   have:=hi.cl y (hm y (by rw [←e2];simp))
   refine⟨by(refine ln1 ?_;exact ar_le ‹_› (by decide)),?_⟩
   exact⟨_,rfl,rfl,fun R F=>R1 (by simp) (F (l1++[y]) l2 rfl (by exact(List.append_cons _ _ _).symm.trans e2))⟩
 ·intro b1 acc hb hj
  apply hj;clear hj
  intro l1 l2 e1 e2
  have:l2 = []:=map_nil e1
  subst this
  rw [List.append_nil]at e2
  subst e2
  refine bZ ?_
  delta Exists
  refine⟨_,_,rfl,dO _,?_⟩
  delta Gh
  refine .done ?_
  have:((l1.map fun x=>(x.codes.length:Int)).sum)=((cds l1).length:Nat):=by
   clear q hm hsl hS
   induction l1 with
   |nil=>rfl
   |cons y l ih=>simp only [List.map_cons,List.sum_cons,ih,cds,List.flatten_cons,List.length_append];exact DU
  rw [this]
  exact q
theorem T5{α:Type}(l:List α){i:Int}{k:Nat}(h:i=k):pick l none (some i)=l.take k:=by
 subst h
 unfold pick
 simp only [kms_lo,kms_hi]
 rw [if_neg (by exact V3),Int.toNat_natCast,List.drop_zero,Nat.sub_zero]
 rcases Nat.le_total k l.length with h|h
 ·rw [Nat.min_eq_left h]
 ·rw [Nat.min_eq_right h,List.take_of_length_le (Nat.le_refl _),List.take_of_length_le h]
theorem xA{ds:List D}(hl:ds.length≤10000){j:Int}{b:Nat}(h2:j=b){R:aJ}(q:∀p,p∉foot M→R (.loc p) ((p,.lst ((ds.take b).map .fz))::M)):n7 M (.fz (.lst ds)) none (some j) R:=by
 refine .inl ⟨_,rfl,by(refine ln1 ?_;exact ar_le ‹_› (by decide)),?_⟩
 rw [T5 _ h2]
 intro p hp
 have:=q p hp
 rwa [List.map_take]at this
theorem oA{ds:List D}(hl:ds.length≤10000){i:Int}{a:Nat}(h:i=a){R:aJ}(q:∀p,p∉foot M→R (.loc p) ((p,.lst ((ds.drop a).map .fz))::M)):n7 M (.fz (.lst ds)) (some i) none R:=by
 refine .inl ⟨_,rfl,by(refine ln1 ?_;exact ar_le ‹_› (by decide)),?_⟩
 rw [mA _ h]
 intro p hp
 have:=q p hp
 rwa [List.map_drop]at this
theorem yU{ds:List D}(hl:ds.length≤10000){i j:Int}{a b:Nat}(h:i=a)(h2:j=b){R:aJ}(q:∀p,p∉foot M→R (.loc p) ((p,.lst (((ds.drop a).take (b-a)).map .fz))::M)):n7 M (.fz (.lst ds)) (some i) (some j) R:=by
 refine .inl ⟨_,rfl,by(refine ln1 ?_;exact ar_le ‹_› (by decide)),?_⟩
 rw [pP _ h h2]
 intro p hp
 have:=q p hp
 rwa [List.map_take,List.map_drop]at this
theorem lX{u v:V}{a b:List D}{R:aJ}(h1:u.view M=some (false,a.map .fz))(h2:v.view M=some (false,b.map .fz))(hl:a.length+b.length≤100000)(q:∀p,p∉foot M→R (.loc p) ((p,.lst ((a++b).map .fz))::M)):T9 u v R M:=by
 refine⟨_,_,h1,h2,by(refine Eq.substr (List.length_map _) ?_;refine Eq.substr (List.length_map _) ?_;exact ar_le ‹_› (by decide)),fun p hp=>?_⟩
 have:=q p hp
 rwa [List.map_append]at this
theorem uR(k:aG W){s:Str8}{h:List Sh}(hl:s.nodes.length≤10000)(hh:h.length≤10000){p:Int}(q:∀c:Nat,Ahead s.nodes (h.map .sh) p c→Q (.fz (.int c)) M) :
  aA W (n+2) .Stretch_alike_ahead [.fz s.toD,.fz (shL h),.fz (.int p)] Q M:=by
 rw [pG];exact qK k hl (by exact ln1 hh) q
theorem uD(k:aG W){s:Str8}{t:List Sh}(hl:s.nodes.length≤10000)(ht:t.length≤10000){p:Int}{b:Nat}(hb:b≤s.nodes.length)(q:∀c:Nat,Behind s.nodes (t.map .sh) p b c→Q (.fz (.int c)) M) :
  aA W (n+2) .Stretch_alike_behind [.fz s.toD,.fz (shL t),.fz (.int p),.fz (.int b)] Q M:=by
 rw [pG];exact nR k hl (by exact ln1 ht) hb q
theorem zG{c:Cn}{a b e:Addr}{x y z:List D}(hab:a≠b)(hae:a≠e)(hbe:b≠e)(h:bN W n c [.fz (.lst x),.fz (.lst y),.fz (.lst z)] Q M):bN W n c [.loc a,.loc b,.loc e] Q ((e,.lst (z.map .fz))::(b,.lst (y.map .fz))::(a,.lst (x.map .fz))::M):=by
 refine Op.freeze e 0 look_self dF ?_
 rw [aB]
 refine Op.freeze b 0 look_self dF ?_
 show Op W n _ _ _ Q (Mine.drop b _)
 rw [show eB e (.lst z) 0 ((b,.lst (y.map V.fz))::(a,.lst (x.map .fz))::M)=(b,.lst (y.map .fz))::(a,.lst (x.map .fz))::M from rfl,aB]
 refine Op.freeze a 0 look_self dF ?_
 show Op W n _ _ _ Q (Mine.drop a _)
 rw [aB]
 have:((([V.loc a,V.loc b,V.loc e].map (V.sub e (.lst z))).map (V.sub b (.lst y))).map (V.sub a (.lst x))) = [.fz (.lst x),.fz (.lst y),.fz (.lst z)]:=by simp [V.sub,hab,hae,hbe]
 rw [this]
 exact h
inductive Brk(s:Str8)(ns:List Sh):Nat→List Int→List Nd→Prop
 |nil {d:Nat}:Brk s ns d [] ((ns.drop d).map .sh)
 |skip {d c:Nat}{p:Int}{ps:List Int}{r:List Nd}{hd:List Sh}:RunOk s.f (s.codes.take p.toNat++[45]) hd→Ahead s.nodes (hd.map .sh) p c→c<d→Brk s ns d ps r→Brk s ns d (p::ps) r
 |take {d c b:Nat}{p:Int}{ps:List Int}{r:List Nd}{hd tl:List Sh}:RunOk s.f (s.codes.take p.toNat++[45]) hd→RunOk s.f (s.codes.drop p.toNat) tl→Ahead s.nodes (hd.map .sh) p c→Behind s.nodes (tl.map .sh) p c b→d≤c→Brk s ns (ns.length-b) ps r →
   Brk s ns d (p::ps) (((ns.drop d).take (c-d)).map .sh++.disc (hd.drop c) (tl.take (tl.length-b)) ((ns.drop c).take (ns.length-b-c))::r)
theorem pN(k:aG W){s:Str8}(hf:FOk s.f){ns:List Sh}(hns:s.nodes=ns.map .sh)(hnl:ns.length≤10000)(hc4:∀c∈s.codes,c∈([97,98,99,39]:List Int))(hcl:s.codes.length≤90){ps:List Int}(hps:∀p∈ps,0≤p∧p≤s.codes.length)(hpl:ps.length≤100)
  (q:∀r,Brk s ns 0 ps r→Q (.fz (ndL r)) M):aA W (n+12) .Stretch_with_breaks [.fz s.toD,.fz (intL ps)] Q M:=by
 have h45:(45:Int)∈s.f.ks:=by rcases hf.ks with e|e <;> rw [e] <;> decide
 have ck:∀l:List Int,(∀c∈l,c∈([97,98,99,39]:List Int)∨c=45)→Oct l∧∀c∈l,c∈s.f.ks:=fun l h=>⟨fun c hc=>by
   have:=h c hc
   simp only [List.mem_cons,List.not_mem_nil,or_false]at this
   exact Hk this,fun c hc=>by
   rcases h c hc with e|e
   ·simp only [List.mem_cons,List.not_mem_nil,or_false]at e
    rcases hf.ks with e2|e2 <;> rw [e2] <;> simp <;>(first|exact O6 e|exact B4 e)
   ·rw [e];exact h45⟩
 refine aH ‹_› rfl rfl rfl rfl rfl fun en_ he_=>?_;intro T;delta Lf
 refine⟨D3 k ?_⟩
 delta cond
 refine bt (dt h45) ?_
 conv=>whnf
 intro hy hhy
 conv=>whnf
 intro fo hfo
 have hhf:hy≠fo:=fun e=>hfo (by rw [←e];exact .head _)
 delta Lf
 refine jT hy 1 ((look_skip hhf).trans look_self) (d:=intL [45]) rfl ?_
 rw [dB hhf,aB]
 refine bX [("self",.fz s.toD),("places",.fz (intL ps)),("hyphen",.fz (intL [45])),("found",.loc fo),("done",.fz (.int 0))] (.of_c ⟨rfl,rfl,(by show some ((V.loc hy).sub hy _)=_;simp [V.sub]),(by show some ((V.loc fo).sub hy _)=_;rw [tE (Ne.symm hhf)]),rfl,trivial⟩) ?_
 refine aX k ‹_› (fun ds m M'=>∀R:Loc→Led→Prop,(∀(p1:List Int),∀(p2:List Int),∀(d:Nat),∀(fd:List Nd),ds=p2.map .int→p1++p2=ps→d≤ns.length→fd.length≤d+p1.length→(∀r,Brk s ns d p2 r→Brk s ns 0 ps (fd++r))→R [("self",.fz s.toD),("places",.fz (intL ps)),("hyphen",.fz (intL [45])),("found",.loc fo),("done",.fz (.int d))] ((fo,.lst ((fd.map Nd.toD).map .fz))::M))→R m M') rfl (fun _=>rfl) ?_ ?_ ?_
 ·conv=>whnf
  exact fun R F=>F [] ps 0 [] rfl rfl (Nat.zero_le _) (Nat.le_refl _) (fun r h=>h)
 ·intro J1 Q1 dd ds m M' hj
  apply hj;clear hj
  intro p1 p2 d fd e1 e2 hd1 hfl hb
  revert e2 hd1 hfl hb
  apply map_cons e1
  clear e1
  intro p p2 e2 hd1 hfl hb
  obtain⟨hp0,hp1⟩:=hps p (by rw [←e2];simp)
  obtain⟨pn,hpn⟩:∃pn:Nat,p=pn:=⟨p.toNat,by exact FB hp0⟩
  subst hpn
  have htk:∀c∈s.codes.take pn++[45],c∈([97,98,99,39]:List Int)∨c=45:=fun c hc=>by
   rcases mAp hc with h|h
   ·exact .inl (hc4 c (List.mem_of_mem_take h))
   ·exact .inr (mSp h)
  have hdk:∀c∈s.codes.drop pn,c∈([97,98,99,39]:List Int)∨c=45:=fun c hc=>.inl (hc4 c (List.mem_of_mem_drop hc))
  delta Or
  refine xA (by(refine ln1 ?_;exact ar_le ‹_› (by decide))) (b:=pn) rfl fun a1 ha1=>?_
  delta Exists
  refine lX (a:=(s.codes.map D.int).take pn) (b:=[.int 45]) (congrArg cV look_self) rfl (by(simp;exact Fx hcl hp1)) fun a2 ha2=>?_
  rw [show(s.codes.map D.int).take pn++[.int 45]=(s.codes.take pn++[45]).map .int by simp [List.map_take]]
  delta Lf
  refine⟨eJ [s.f.toD] [.bool s.left,.bool true] (sR k hf (ck _ htk).1 (ck _ htk).2 (by(simp;exact HX hcl hp1)) fun hd hhd=>?_)⟩
  delta Or
  refine oA (by(refine ln1 ?_;exact ar_le ‹_› (by decide))) (a:=pn) rfl fun a3 ha3=>?_
  rw [←List.map_drop]
  delta Lf
  refine⟨eJ [s.f.toD] [.bool true,.bool s.right] (sR k hf (ck _ hdk).1 (ck _ hdk).2 (by(simp;exact FJ hcl)) fun tl htl=>?_)⟩
  have f1:fo≠a1:=fun e=>ha1 (by rw [←e];exact .head _)
  have hsn:s.nodes.length=ns.length:=by rw [hns];simp
  have hnl2:(s.nodes.map Nd.toD).length≤10000:=by simp [hsn];exact ar_le ‹_› (by decide)
  have hp1l:p1.length≤100:=by have:=congrArg List.length e2;simp at this;exact HY hpl this
  delta Lf
  refine⟨uR k (by exact AM hnl hsn) (by have:=hhd.room;exact ar_le ‹_› (by decide)) fun c hc=>?_⟩
  have hccl:=hc.cl
  delta cond
  refine aM (b:=decide ((c:Int)<d)) (fun h1=>?_) fun h1=>?_
  ·have h1:=of_decide_eq_true h1
   delta Fz
   refine .drp a1 ?_
   rw [aB]
   exact .sub [("self",.fz s.toD),("places",.fz (intL ps)),("hyphen",.fz (intL [45])),("found",.loc fo),("done",.fz (.int d))] rfl (.go (fun R F=>F (p1++[(pn:Int)]) p2 d fd rfl (by exact(List.append_cons _ _ _).symm.trans e2) hd1 (by(refine Eq.substr List.length_append ?_;exact Df hfl)) (fun r hr=>hb r (.skip hhd hc (by exact jO ‹_›) hr))))
  ·have h1:=of_decide_eq_false h1
   delta Lf
   refine⟨uD k (by exact AM hnl hsn) (by have:=htl.room;exact ar_le ‹_› (by decide)) (by exact El hsn hccl) fun b hbh=>?_⟩
   have hbcl:=hbh.cl
   have hbct:=hbh.ct
   rw [List.length_map]at hbct
   delta And
   refine⟨by simp [hsn];exact ar_le ‹_› (by decide),?_⟩
   delta atC
   refine⟨_,bH f1,?_⟩;delta Or
   refine yU hnl2 (a:=d) (b:=c) rfl rfl fun a4 ha4=>?_
   have f4:fo≠a4:=fun e=>ha4 (by rw [←e];simp [foot,Cell.foot])
   have f14:a1≠a4:=fun e=>ha4 (by rw [←e];exact .head _)
   delta atC
   refine⟨_,cR f4 f1,?_⟩;delta Exists
   refine⟨false,(((s.nodes.map Nd.toD).drop d).take (c-d)).map .fz,(congrArg cV look_self),by have:=List.length_take_le (c-d) ((s.nodes.map Nd.toD).drop d);simp only [List.length_map]at this ⊢;exact DT hnl hfl hsn hp1l hccl h1 this,_,hG f4 f1,?_⟩
   delta atC
   refine⟨_,cR f4 f1,?_⟩;delta Or
   refine oA (by have:=hhd.room;(refine ln1 ?_;exact ar_le ‹_› (by decide))) (a:=c) rfl fun a5 ha5=>?_
   have f5:fo≠a5:=fun e=>ha5 (by rw [←e];simp [foot,Cell.foot])
   delta And
   refine⟨by have:=htl.room;(refine ln1 ?_;exact ar_le ‹_› (by decide)),?_⟩
   delta Or
   refine xA (by have:=htl.room;(refine ln1 ?_;exact ar_le ‹_› (by decide))) (b:=tl.length-b) (by(refine Eq.substr (List.length_map _) ?_;exact GB ‹_›)) fun a6 ha6=>?_
   have f65:a5≠a6:=fun e=>ha6 (by rw [←e];exact .head _)
   delta Or
   refine yU hnl2 (a:=c) (b:=ns.length-b) rfl (by simp [hsn];exact Z0 hsn hbcl) fun a7 ha7=>?_
   have f75:a5≠a7:=fun e=>ha7 (by rw [←e];simp [foot,Cell.foot])
   have f76:a6≠a7:=fun e=>ha7 (by rw [←e];exact .head _)
   have hmid:(((s.nodes.map Nd.toD).drop c).take (ns.length-b-c))=((ns.drop c).take (ns.length-b-c)).map Sh.toD:=by
    rw [hns];simp [List.map_take,List.map_drop,Function.comp_def,Nd.toD]
   rw [hmid]
   have hpre:((hd.map Sh.toD).drop c)=(hd.drop c).map Sh.toD:=by simp
   have hpost:((tl.map Sh.toD).take (tl.length-b))=(tl.take (tl.length-b)).map Sh.toD:=by simp
   refine⟨zG f65 f75 f76 ?_⟩
   rw [hpre,hpost]
   refine b8 k ?_
   delta atC
   refine⟨_,cR f4 f1,?_⟩;delta And
   refine⟨by simp [hsn];exact HP hnl hd1 hfl hsn hp1l hccl h1,_,hG f4 f1,?_⟩
   delta Fz
   refine .drp a4 ?_
   rw [aB]
   refine .drp a1 ?_
   rw [aB]
   refine .sub [("self",.fz s.toD),("places",.fz (intL ps)),("hyphen",.fz (intL [45])),("found",.loc fo),("done",.fz (.int ((ns.length-b:Nat):Int)))] (.of_c ⟨rfl,rfl,rfl,rfl,(by show some (V.fz (D.int (((s.nodes.map Nd.toD).length:Int)-b)))=_;rw [List.length_map,hsn,show((ns.length:Int)-b)=((ns.length-b:Nat):Int) by exact Z0 hsn hbcl]),trivial⟩)
    (.go (fun R F=>R2 rfl (?_) (F (p1++[(pn:Int)]) p2 (ns.length-b) (fd++(((ns.drop d).take (c-d)).map .sh++[.disc (hd.drop c) (tl.take (tl.length-b)) ((ns.drop c).take (ns.length-b-c))])) rfl (by exact(List.append_cons _ _ _).symm.trans e2) (by exact GU) (by(simp;exact EN hd1 hfl hsn hccl h1 hbcl)) (fun r hr=>?_))))
   ·congr 2
    rw [hns]
    simp [List.map_take,List.map_drop,Function.comp_def,Nd.toD,shL]
   ·have:=hb _ (.take hhd htl hc hbh (by exact J9 ‹_›) hr)
    simpa using this
 ·intro m M' hj
  apply hj;clear hj
  intro p1 p2 d fd e1 e2 hd1 hfl hb
  have:p2 = []:=map_nil e1
  subst this
  rw [List.append_nil]at e2
  subst e2
  have hsn:s.nodes.length=ns.length:=by rw [hns];simp
  refine .go ?_
  delta Or
  refine oA (by simp [hsn];exact ar_le ‹_› (by decide)) (a:=d) rfl fun a1 ha1=>?_
  have f1:fo≠a1:=fun e=>ha1 (by rw [←e];exact .head _)
  delta Exists
  refine lX (a:=fd.map Nd.toD) (b:=(s.nodes.map Nd.toD).drop d) (congrArg cV (bH f1)) (congrArg cV look_self) (by simp [hsn];exact GJ hnl hd1 hfl hpl) fun a2 ha2=>?_
  delta Gh
  refine .freeze a2 0 look_self dF ?_
  rw [aB]
  refine .drop a1 ?_
  show Gh Q _ (Mine.drop a1 ((a1,_)::_))
  rw [aB]
  refine .drop fo ?_
  rw [aB]
  refine .done ?_
  have:=q _ (hb _ .nil)
  rw [show(V.loc a2).sub a2 (.lst (fd.map Nd.toD++(s.nodes.map Nd.toD).drop d)) = .fz (ndL (fd++(ns.drop d).map .sh)) by
   rw [hns];simp [V.sub,ndL,List.map_drop,Function.comp_def]]
  exact this
end
section
variable{W:Wd}{n:Nat}{M:Led}{Q:aJ}
def xN(ls:List Int):Prop:=ls≠[]∧ls.length≤63∧∀c∈ls,c∈([97,98,99]:List Int)
structure PtOk(W:Wd)(pd:D)(l r:Int)(pt:List Int→List Int):Prop where
 run:∀{n:Nat}{M:Led}{Q:aJ}{ls:List Int},xN ls→Q (.fz (intL (pt ls))) M→aA W (n+8) .Patterns_points [.fz pd,.fz (intL ls),.fz (.int l),.fz (.int r)] Q M
 rng:∀{ls:List Int},xN ls→∀p∈pt ls,1≤p∧p+1≤ls.length
 len:∀{ls:List Int},xN ls→(pt ls).length≤63
noncomputable def fN(t:Bool):Nd→Bool
 |.math on _=>!on
 |_=>t
noncomputable def ptsAt(items:List Nd)(pt:List Int→List Int)(t:Bool)(p:Nat)(x:Nd):Option (Nat × Nat × List Int):=match x with
 |.skip _ _ _=>if t=true then fX items p else none
 |_=>none
theorem qB{items:List Nd}{pt:List Int→List Int}{t:Bool}{p:Nat}{x:Nd}{w:Nat × Nat × List Int}(h:ptsAt items pt t p x=some w):∃a b c,x = .skip a b c∧t=true∧fX items p=some w:=by
 cases x with
 |skip a b c =>
  cases t with
  |true=>exact⟨a,b,c,rfl,rfl,h⟩
  |false=>exact aF h
 |_=>exact aF h
inductive Hyp(items:List Nd)(pt:List Int→List Int):Nat→Bool→List Nd→Prop
 |done {p:Nat}{t:Bool}:items.length≤p→Hyp items pt p t []
 |step {p:Nat}{t:Bool}{x:Nd}{r:List Nd}:items[p]?=some x→(ptsAt items pt t p x=none∨∃w,ptsAt items pt t p x=some w∧pt w.2.2 = [])→Hyp items pt (p+1) (fN t x) r→Hyp items pt p t (x::r)
 |brk {p:Nat}{t:Bool}{x:Nd}{r bs:List Nd}{b e:Nat}{ls:List Int}{s:Str8}{ns:List Sh}:items[p]?=some x→ptsAt items pt t p x=some (b,e,ls)→pt ls≠[]→StrOk items b e s→s.nodes=ns.map .sh→Brk s ns 0 ((pt ls).map fun q=>((cds (seg items s.first b)).length:Int)+q) bs→Hyp items pt s.last t r →
   Hyp items pt p t (x::(seg items (p+1) s.first++bs++r))
theorem sA{num:Int}:∀{l:List Nd}{ls:List Int},(strW num l ls).1≤l.length∧(∀(i:Nat) (y:Nd),i<(strW num l ls).1→l[i]?=some y→y.ofF num=true)∧(strW num l ls).2=ls++((cds (l.take (strW num l ls).1)).map low)∧(ls.length≤63→(strW num l ls).2.length≤63)∧((∀c∈ls,c≠0)→∀c∈(strW num l ls).2,c≠0)
 |[],ls=>⟨Nat.le_refl _,fun i y h=>absurd h (Nat.not_lt_zero i),(List.append_nil ls).symm,fun h=>h,fun h=>h⟩
 |x::r,ls=>by
  rw [gD]
  split
  ·rename_i hc
   obtain⟨h1,h2,h3,h4,h5⟩:=sA (num:=num) (l:=r) (ls:=ls++x.codes.map low)
   refine⟨by simp;exact h1,fun i y hi hy=>?_,?_,fun hl=>h4 (by(simp;lia)),fun hz=>h5 fun c hc'=>?_⟩
   ·cases i with
    |zero=>(have e_:=Option.some.inj hy;clear hy;subst e_);exact hc.1
    |succ i=>exact h2 i y (by exact Nat.lt_of_succ_lt_succ hi) (by exact hy)
   ·simp only [List.take_succ_cons,cds,List.map_cons,List.flatten_cons,List.map_append]at h3 ⊢
    rw [h3,List.append_assoc]
   ·rcases mAp hc' with q|q
    ·exact hz c q
    ·intro e;subst e;exact hc.2 (.inl q)
  ·exact⟨Nat.zero_le _,fun i y h=>absurd h (Nat.not_lt_zero _),by simp [cds],fun h=>h,fun h=>h⟩
set_option tactic.hygienic true in
theorem gK{items:List Nd}(hi:IOk items){p b e:Nat}{ls:List Int}(h:fX items p=some (b,e,ls)):p+1≤b∧b<e∧e≤items.length∧xN ls∧ls=(cds (seg items b e)).map low∧∃x f,items[b]?=some x∧x.font=some f∧∀(i:Nat) (y:Nd),b≤i→i<e→items[i]?=some y→y.ofF f.num=true:=by
 obtain⟨hb0,f,hf,hc,rfl,rfl⟩:=rW h
 clear h
 revert hb0 hf hc
 generalize b=b0
 intro hb0 hf hc
 obtain⟨h1,x,c,r,hx,_⟩:=nH hb0
 have hbl:b0<items.length:=(List.getElem?_eq_some_iff.mp hx).1
 obtain⟨s1,s2,s3,s4,s5⟩:=sA (num:=f.num) (l:=items.drop b0) (ls:=[])
 rw [List.length_drop]at s1
 rw [hx]at hf
 have hseg:seg items b0 (b0+(strW f.num (items.drop b0) []).1)=(items.drop b0).take (strW f.num (items.drop b0) []).1:=by unfold seg;rw [Nat.add_sub_cancel_left]
 have hpos:0<(strW f.num (items.drop b0) []).1:=by
  rcases Nat.eq_zero_or_pos (strW f.num (items.drop b0) []).1 with q|q
  ·rw [q]at s3;exact absurd (by rw [s3];rfl) hc.1
  ·exact q
 refine⟨h1,by exact Ga hpos,by exact Fh s1 hpos,⟨hc.1,s4 (by exact Nat.zero_le _),fun c hc'=>?_⟩,by rw [hseg];exact s3,x,f,hx,hf,fun i y h2 h3 hy=>s2 (i-b0) y (by exact Fr hpos h3) (by rw [List.getElem?_drop,show b0+(i-b0)=i by exact Nat.add_sub_of_le ‹_›];exact hy)⟩
 have hne:=s5 (by exact fun _ h_=>(List.not_mem_nil h_).elim) c hc'
 rw [s3,List.nil_append]at hc'
 obtain⟨c0,h0,rfl⟩:=mMp hc'
 obtain⟨rr,hr,hcr⟩:=List.mem_flatten.mp h0
 obtain⟨y,hy,rfl⟩:=mMp hr
 have:=hi.let4 y (List.mem_of_mem_drop (List.mem_of_mem_take hy)) c0 hcr
 simp only [List.mem_cons,List.not_mem_nil,or_false]at this ⊢
 unfold low at hne ⊢
 split at hne
 ·rw [if_pos ‹_›];exact FM this (by assumption)
 ·exact absurd rfl hne
theorem Brk.len{s:Str8}{ns:List Sh}:∀{d:Nat}{ps:List Int}{r:List Nd},Brk s ns d ps r→s.nodes=ns.map .sh→r.length≤(ns.length-d)+ps.length:=by
 intro d ps r h hns
 induction h with
 |nil=>simp
 |skip _ _ _ _ ih=>exact Gq ih
 |take _ _ hc hb hd _ ih =>
  have h1:=hc.cl
  have h2:=hb.cl
  rw [hns,List.length_map]at h1 h2
  simp at ih ⊢
  exact Fw hd ih h1 h2
end
section
variable{W:Wd}{n:Nat}{M:Led}{Q:aJ}
noncomputable def Nd.kind:Nd→Int
 |.sh (.char _ _)=>0
 |.sh (.lig _ _ _ _ _)=>1
 |.sh (.kern _ _)=>5
 |.skip _ _ _=>6
 |.pen _=>7
 |.disc _ _ _=>8
 |.math _ _=>12
theorem oE(x:Nd){R:aJ}{N:Led}(r:R (.fz (.int x.kind)) N):yQ x.toD "kind" R N:=by
 rcases x with(_|_|_)|_|_|_|_ <;> exact r
theorem seg_self_len{l:List Nd}{a b:Nat}:(seg l a b).length≤b-a:=by simp [seg];exact Dd
theorem Z9(k:aG W){l:List Nd}(hi:IOk l){p:Nat}{i:Int}(hip:i=p)(hp:p<l.length){up:Bool}(q:Q (.fz (C6 (fX l p))) M):aA W (n+4) .word_stretch [.fz (ndL l),.fz (.int i),.fz fR,.fz (.bool up)] Q M:=by
 subst hip;exact nV k hi hp q
theorem cL(A B:List Nd):cds (A++B)=cds A++cds B:=by simp [cds]
theorem jE{l:List Nd}{a b c:Nat}(h1:a≤b)(h2:b≤c):seg l a c=seg l a b++seg l b c:=by
 unfold seg
 rw [show c-a=(b-a)+(c-b) by exact Gr h1 h2,List.take_add,List.drop_drop,show a+(b-a)=b by exact Nat.add_sub_of_le ‹_›]
theorem U4{l:List Nd}{a b:Nat}(h:∀(i:Nat) (y:Nd),a≤i→i<b→l[i]?=some y→y.codes = []):cds (seg l a b) = []:=by
 unfold cds
 rw [List.flatten_eq_nil_iff]
 intro r hr
 obtain⟨y,hy,rfl⟩:=mMp hr
 obtain⟨t,ht,hty⟩:=List.getElem_of_mem hy
 have h1:(seg l a b)[t]?=some y:=by rw [List.getElem?_eq_getElem ht,hty]
 have htl:t<b-a:=Nat.lt_of_lt_of_le ht seg_self_len
 rw [kD htl]at h1
 exact h (a+t) y (by exact tX) (by exact Gv htl) h1
theorem StrOk.room{l:List Nd}{b e:Nat}{s:Str8}(h:StrOk l b e s)(hbe:b<e):(cds (seg l s.first b)).length+(cds (seg l b e)).length≤s.codes.length:=by
 have h1:=h.fst
 have h2:=h.lst
 rw [h.codes,h.nodes,jE (a:=s.first) (b:=b) (c:=s.last) h1 (by exact Nat.le_of_lt ‹_›),cL,List.length_append]
 rcases Nat.le_total e s.last with q|q
 ·rw [jE (a:=b) (b:=e) (c:=s.last) (Nat.le_of_lt hbe) q,cL,List.length_append];exact Fb
 ·rw [jE (a:=b) (b:=s.last) (c:=e) (by exact Nat.le_of_lt ‹_›) q,cL,U4 (a:=s.last) (b:=e) h.tail];simp
theorem StrOk.sh{l:List Nd}{b e:Nat}{s:Str8}(h:StrOk l b e s):∃ns:List Sh,s.nodes=ns.map .sh:=by
 have:=h.short
 revert this
 generalize s.nodes=nd
 intro hs
 induction nd with
 |nil=>exact⟨[],rfl⟩
 |cons x r ih =>
  obtain⟨y,rfl⟩:=hs x (.head _)
  obtain⟨ns,rfl⟩:=ih fun z hz=>hs z (.tail _ hz)
  exact⟨y::ns,rfl⟩
theorem StrOk.first_gt{l:List Nd}{b e p:Nat}{s:Str8}(h:StrOk l b e s){x:Nd}(hx:l[p]?=some x)(hp:p<b)(hk:x.kind=6):p<s.first:=by
 rcases Nat.lt_or_ge p s.first with q|q
 ·exact q
 ·have h2:=h.lst
  have:(seg l s.first s.last)[p-s.first]?=some x:=by rw [kD (by exact q_204 hp q h2),show s.first+(p-s.first)=p by exact Nat.add_sub_of_le ‹_›];exact hx
  obtain⟨y,rfl⟩:=h.short x (by rw [h.nodes];exact List.mem_of_getElem? this)
  rcases y with _|_|_ <;> cases hk
set_option maxHeartbeats 4000000 in
theorem rO(k:aG W){l:List Nd}(hi:IOk l){pl:List D}{lf rt:Int}{pt:List Int→List Int}(hp:PtOk W (.inst .Patterns pl) lf rt pt){up:Bool}(q:∀r,Hyp l pt 0 true r→r.length≤640000→Q (.fz (ndL r)) M) :
  aA W (n+16) .hyphenated [.fz (ndL l),.fz (.inst .Patterns pl),.fz fR,.fz (.bool up),.fz (.int lf),.fz (.int rt)] Q M:=by
 have hlen:=hi.len
 have hl':(l.map Nd.toD).length≤1000000:=by(refine ln1 ?_;exact ar_le ‹_› (by decide))
 refine aH ‹_› rfl rfl rfl rfl rfl fun en_ he_=>?_;intro T;conv=>whnf
 intro fo hfo
 delta Lf
 refine cD (fun m M'=>∀R:Loc→Led→Prop,(∀(fd:List Nd),Hyp l pt 0 true fd→fd.length≤640000→R [("found",.loc fo)] ((fo,.lst ((fd.map Nd.toD).map .fz))::M))→R m M') ?_ ?_
 rotate_left
 ·intro P1 m M' hj
  apply hj;clear hj
  intro fd h1 h2
  refine .go ?_
  delta Gh
  exact bZ (ds:=fd.map Nd.toD) (q fd h1 h2)
 intro P1
 refine cJ k ‹_› (fun j m M'=>∀R:Nat→Loc→Led→Prop,(∀(p:Nat),∀(t:Bool),∀(fd:List Nd),(∀r,Hyp l pt p t r→Hyp l pt 0 true (fd++r))→p≤l.length→fd.length≤64*p→R (l.length-p) [("items",.fz (ndL l)),("patterns",.fz (.inst .Patterns pl)),("lower",.fz fR),("upper_too",.fz (.bool up)),("left",.fz (.int lf)),("right",.fz (.int rt)),("found",.loc fo),("place",.fz (.int p)),("is_text",.fz (.bool t))] ((fo,.lst ((fd.map Nd.toD).map .fz))::M))→R j m M') (k:=l.length) (fun R F=>F 0 true [] (fun r h=>h) (Nat.zero_le _) (by exact Nat.zero_le _)) ?_
 intro I1 Q0 Q1 j m M' hj
 apply hj;clear hj
 intro p t fd hh hpl hfl
 delta And
 refine⟨hl',?_⟩
 delta cond
 refine aM (b:=decide ((p:Int)<(l.map Nd.toD).length)) (fun c1=>?_) fun c1=>?_
 rotate_left
 ·have c1:=of_decide_eq_false c1
  rw [List.length_map]at c1
  exact .sub [("found",.loc fo)] rfl (.go (fun R F=>F fd (by simpa using hh [] (.done (by exact J9 ‹_›))) (by exact Hj hlen hpl hfl c1)))
 have c1:=of_decide_eq_true c1
 rw [List.length_map]at c1
 have c1:p<l.length:=by exact jO ‹_›
 have hx:l[p]?=some l[p]:=List.getElem?_eq_getElem c1
 generalize l[p]=x at hx
 delta And
 refine⟨hl',_,cH rfl hx,?_⟩
 delta atC
 refine⟨_,look_self,?_⟩;delta atC
 refine⟨_,look_self,?_⟩;delta And
 refine⟨by(refine ln1 ?_;refine ln1 ?_;exact En hlen hfl (by assumption)),_,aC,?_⟩
 conv=>whnf
 have none_end:∀{m:Loc}{pc:Addr}{t':Bool},t'=fN t x→ptsAt l pt t p x=none∨(∃w,ptsAt l pt t p x=some w∧pt w.2.2 = []) →
   kL [("items",.fz (ndL l)),("patterns",.fz (.inst .Patterns pl)),("lower",.fz fR),("upper_too",.fz (.bool up)),("left",.fz (.int lf)),("right",.fz (.int rt)),("found",.loc fo),("place",.fz (.int (p+1:Nat))),("is_text",.fz (.bool t'))] m→∀{M'':Led},M''=(fo,.lst (((fd.map Nd.toD).map .fz)++[.fz x.toD]))::M →
   Fz (fun m' M'=>∃j,j<l.length-p∧I1 j m' M') m M'':=by
  intro m pc t' ht hpn hs M'' hM
  subst hM ht
  refine .sub _ hs (.go ⟨l.length-(p+1),by exact wZ ‹_›,fun R F=>R3 rfl rfl (by simp) (F (p+1) (fN t x) (fd++[x]) (fun r hr=>?_) c1 (by(refine ln4 ?_;exact Eo hfl)))⟩)
  have:=hh _ (.step hx hpn hr)
  simpa using this
 refine oE x ?_
 delta cond
 refine aM (b:=x.kind==12) (fun c2=>?_) fun c2=>?_
 ·rcases x with(_|_|_)|_|_|_|⟨on,w⟩ <;> first|(exact aL c2;done)|skip
  conv=>whnf
  intro pc hpc
  delta atC
  refine⟨_,look_self,?_⟩;delta Fz
  refine .drp pc ?_
  rw [aB]
  exact none_end (pc:=pc) (t':=!on) rfl (.inl rfl) (by rfl) rfl
 ·conv=>whnf
  refine oE x ?_
  delta cond
  have tx:t=fN t x:=by rcases x with(_|_|_)|_|_|_|_ <;> first|rfl|(exact dP c2;done)
  refine aM (b:=x.kind==6) (fun c3=>?_) fun c3=>?_
  rotate_left
  ·have pn:ptsAt l pt t p x=none:=by rcases x with(_|_|_)|_|_|_|_ <;> first|rfl|(exact dP c3;done)
   delta cond
   intro pc hpc
   delta atC
   refine⟨_,look_self,?_⟩;delta Fz
   refine .drp pc ?_
   rw [aB]
   exact none_end (pc:=pc) (t':=t) tx (.inl pn) (by rfl) rfl
  delta cond
  cases t with
  |false =>
   have pn:ptsAt l pt false p x=none:=by rcases x with(_|_|_)|_|_|_|_ <;> first|rfl|(cases c3;done)
   delta cond
   intro pc hpc
   delta atC
   refine⟨_,look_self,?_⟩;delta Fz
   refine .drp pc ?_
   rw [aB]
   exact none_end (pc:=pc) (t':=false) tx (.inl pn) (by rfl) rfl
  |true =>
   have pw:ptsAt l pt true p x=fX l p:=by rcases x with(_|_|_)|_|_|_|_ <;> first|rfl|(exact aL c3;done)
   delta cond
   refine⟨Z9 k hi (by show(p:Int)+1-1=p;exact EJ) c1 ?_⟩
   cases hw:fX l p with
   |none =>
    conv=>whnf
    intro pc hpc
    delta atC
    refine⟨_,look_self,?_⟩;delta Fz
    refine .drp pc ?_
    rw [aB]
    exact none_end (pc:=pc) (t':=true) tx (.inl (pw.trans hw)) (by rfl) rfl
   |some w =>
    obtain⟨b,e,ls⟩:=w
    obtain⟨w1,w2,w3,w4,w5,x2,f,w6,w7,w8⟩:=gK hi hw
    delta And
    refine⟨rfl,_,rfl,?_⟩;delta Lf
    refine⟨hp.run w4 ?_⟩
    cases hpt:pt ls with
    |nil =>
     delta Fz
     exact none_end (pc:=fo) (t':=true) tx (.inr ⟨_,pw.trans hw,hpt⟩) (by rfl) rfl
    |cons p0 pr =>
     rw [←hpt]
     delta cond
     refine bt (by rw [hpt];rfl) ?_
     delta And
     refine⟨rfl,_,rfl,?_⟩;delta And
     refine⟨rfl,_,rfl,?_⟩;delta Lf
     refine⟨yI k hi w6 w7 w2 w3 w8 fun s hs0=>?_⟩
     have hs:StrOk l b e s:=hs0
     clear hs0
     obtain⟨ns,hns⟩:=hs.sh
     have hsr:=hs.room w2
     have hsf:=hs.first_gt hx (by exact C1 w1) (by simpa using c3)
     have hs1:=hs.fst
     have hs2:=hs.lst
     have hs3:=hs.len
     have hnl:ns.length=s.last-s.first:=by have:=congrArg List.length hs.nodes;rw [kF hs3,hns,List.length_map]at this;exact this
     have hcod:s.codes.length≤90∧∀c∈s.codes,c∈([97,98,99,39]:List Int):=by
      rw [hs.codes,hs.nodes]
      refine⟨?_,fun c hc=>?_⟩
      ·have h2:=hi.all
       have h3:=congrArg List.length (cL (l.take s.first) (l.drop s.first))
       have h4:=congrArg List.length (cL ((l.drop s.first).take (s.last-s.first)) ((l.drop s.first).drop (s.last-s.first)))
       rw [List.take_append_drop,List.length_append]at h3 h4
       unfold seg
       exact AE h2 h3 h4
      ·obtain⟨r,hr,hcr⟩:=List.mem_flatten.mp hc
       obtain⟨y,hy,rfl⟩:=mMp hr
       exact hi.let4 y (List.mem_of_mem_drop (List.mem_of_mem_take hy)) c hcr
     have hls:ls.length=(cds (seg l b e)).length:=by rw [w5,List.length_map]
     delta And
     refine⟨rfl,_,rfl,?_⟩;delta Lf
     refine⟨qV k hi ?_⟩
     delta atC
     refine⟨_,look_self,?_⟩;delta Or
     refine rZ hlen (a:=p+1) (b:=s.first) rfl rfl fun a1 ha1=>?_
     have f1:fo≠a1:=fun e=>ha1 (by rw [←e];exact .head _)
     delta atC
     refine⟨_,bH f1,?_⟩;delta Exists
     refine⟨false,((seg l (p+1) s.first).map Nd.toD).map .fz,(congrArg cV look_self),by have:=@seg_self_len l (p+1) s.first;(refine Eq.substr (List.length_map _) ?_;refine Eq.substr (List.length_map _) ?_;refine Eq.substr List.length_append ?_;refine Eq.substr (List.length_map _) ?_;refine Eq.substr (List.length_map _) ?_;exact HJ hlen hfl w1 w2 w3 hs1 this),_,gP f1,?_⟩
     delta atC
     refine⟨_,bH f1,?_⟩;delta Lf
     refine mD k ‹_› (fun ds acc=>∀R:List D→Prop,(∀(l1:List Int),∀(l2:List Int),ds=l2.map .int→l1++l2=pt ls→R ((l1.map fun q=>((cds (seg l s.first b)).length:Int)+q).map .int))→R acc) rfl (fun _=>rfl) ?_ ?_ ?_
     ·delta And
      exact⟨by have:=hp.len w4;(refine ln1 ?_;exact ar_le ‹_› (by decide)),(fun R F=>F [] (pt ls) rfl rfl),rfl⟩
     ·intro P1 C b1 dd ds acc hb1 hj
      apply hj;clear hj
      intro l1 l2 e1 e2
      revert e2
      apply map_cons e1
      clear e1
      ·intro y l2 e2
       (intros;conv=>whnf)
       exact⟨_,rfl,rfl,fun R F=>R1 (by simp) (F (l1++[y]) l2 rfl (by exact(List.append_cons _ _ _).symm.trans e2))⟩
     intro b1 acc hb1 hj
     apply hj;clear hj
     intro l1 l2 e1 e2
     have:l2 = []:=map_nil e1
     subst this
     rw [List.append_nil]at e2
     subst e2
     refine bZ ?_
     delta Lf
     refine⟨pN k (by obtain⟨y,hy,hyf⟩:=hs.fnt;exact hi.fnt y (List.mem_of_getElem? hy) _ hyf) hns (by exact EM hlen hsf hs3 hnl) hcod.2 hcod.1 (fun q hq=>?_) (by have:=hp.len w4;(refine ln1 ?_;exact ar_le ‹_› (by decide))) fun bs hbs=>?_⟩
     ·obtain⟨q0,hq0,rfl⟩:=mMp hq
      have:=hp.rng w4 q0 hq0
      exact Hh hsr hls this
     delta atC
     refine⟨_,bH f1,?_⟩;delta Exists
     have hbl:=hbs.len hns
     have hpl2:=hp.len w4
     rw [List.length_map]at hbl
     have hsg:=@seg_self_len l (p+1) s.first
     refine⟨false,(bs.map Nd.toD).map .fz,rfl,by(refine Eq.substr (List.length_map _) ?_;refine Eq.substr (List.length_map _) ?_;refine Eq.substr List.length_append ?_;refine Eq.substr (List.length_map _) ?_;refine Eq.substr (List.length_map _) ?_;refine Eq.substr List.length_append ?_;refine Eq.substr (List.length_map _) ?_;refine Eq.substr (List.length_map _) ?_;exact IM hfl (Nat.le_trans hpl hlen) (Nat.le_trans hsg (Nat.le_trans (Nat.sub_le _ _) (Nat.le_trans hs1 (Nat.le_trans (Nat.le_of_lt w2) (Nat.le_trans w3 hlen))))) (Nat.le_trans hbl (Nat.add_le_add (Nat.le_trans (Nat.sub_le _ _) (hnl▸Nat.le_trans (Nat.sub_le _ _) (Nat.le_trans hs3 hlen))) hpl2))),_,gP f1,?_⟩
     delta Fz
     refine .drp a1 ?_
     rw [aB]
     refine .sub [("items",.fz (ndL l)),("patterns",.fz (.inst .Patterns pl)),("lower",.fz fR),("upper_too",.fz (.bool up)),("left",.fz (.int lf)),("right",.fz (.int rt)),("found",.loc fo),("place",.fz (.int s.last)),("is_text",.fz (.bool true))] rfl
      (.go ⟨l.length-s.last,by exact Hn hpl (by assumption) w1 w2 w3 hs2,fun R F=>R3 rfl rfl (by simp) (F s.last true (fd++(x::(seg l (p+1) s.first++bs))) (fun r hr=>?_) hs3 (by(simp;exact Hm hfl w1 hsf hs1 hs2 hnl hbl hpl2 hsg)))⟩)
     have:=hh _ (.brk hx (pw.trans hw) (by rw [hpt];simp) hs hns hbs hr)
     simpa using this
end
section
variable{W:Wd}{n:Nat}{M:Led}{Q:aJ}
theorem gh_cons{a:Addr}{c:Cell}{v:V}{N:Led}(q:Gh Q v N):Gh Q v ((a,c)::N):=.drop a (by rw [aB];exact q)
theorem dE{a:Addr}{ds:List D}{N:Led}(q:Gh Q (.fz (.lst ds)) N):Gh Q (.loc a) ((a,.lst (ds.map .fz))::N) :=
 .freeze a 0 look_self dF (by
  rw [aB]
  simpa [V.sub,iF,iI]using q)
theorem qP(k:aG W){ls:List Int}(h0:ls≠[])(hl:ls.length≤1000)(h1:∀c∈ls,1≤c∧c≤255)(q:Q (.fz (.bool true)) M):aA W (n+2) .is_word [.fz (intL ls)] Q M:=by
 refine aH ‹_› rfl rfl rfl rfl rfl fun en_ he_=>?_;intro T;delta Exists
 refine⟨_,_,rfl,?_⟩
 delta And
 refine⟨by(refine ln1 ?_;exact ar_le ‹_› (by decide)),?_⟩
 have hne:((ls.map D.int).length:Int)≠0:=by
  cases ls with
  |nil=>exact absurd rfl h0
  |cons=>(refine Eq.substr (List.length_map _) ?_;exact Eh)
 delta cond
 refine bf (ef hne) ?_
 delta Lf
 refine aX k ‹_› (fun ds m M'=>∀R:Loc→Led→Prop,(∀(r:List Int),ds=r.map .int→(∀c∈r,c∈ls)→R [("letters",.fz (intL ls))] M)→R m M') rfl (fun _=>rfl) ?_ ?_ ?_
 ·conv=>whnf
  exact fun R F=>F ls rfl (fun _ h=>h)
 ·intro J1 Q1 d ds m M' hj
  apply hj;clear hj
  intro r e hr
  revert hr
  apply map_cons e
  clear e
  ·intro c r hr
   delta Lf
   have:=h1 c (hr c (.head _))
   refine⟨aP k this.1 this.2 ?_⟩
   delta Fz
   exact .sub [("letters",.fz (intL ls))] rfl (.go (fun R F=>F r rfl (fun x hx=>hr x (.tail _ hx))))
 ·intro m M' hj
  apply hj;clear hj
  intro _ _ _
  refine .go ?_
  delta Gh
  exact .done q
theorem wU(k:aG W){v:Int}(h1:1≤v)(h2:v≤63)(q:Q (.fz (.int v)) M):aA W (n+2) .least_part [.fz (.int v)] Q M:=by
 refine aH ‹_› rfl rfl rfl rfl rfl fun en_ he_=>?_;intro T;delta Lf
 refine⟨eW k ?_⟩
 delta Gh
 refine .done ?_
 have e:(if (if v<63 then v else 63)>1 then(if v<63 then v else 63)else 1)=v:=by split <;> split <;>(first|exact EX|exact FH h1 (by assumption)|exact DW h2 (by assumption)|exact FV (by assumption))
 rw [e]
 exact q
theorem vA(k:aG W){ls:List Int}(hl:ls.length≤63)(h1:∀c∈ls,0≤c∧c≤255)(q:∀i:Int,Q (.fz (.int i)) M):aA W (n+1) .word_key [.fz (intL ls)] Q M:=by
 refine aH ‹_› rfl rfl rfl rfl rfl fun en_ he_=>?_;intro T;delta Lf
 refine aX k ‹_› (fun ds m M'=>∀R:Loc→Led→Prop,(∀(r:List Int),ds=r.map .int→∀(i:Int),R [("letters",.fz (intL ls)),("found",.fz (.int i))] M)→R m M') rfl (fun _=>rfl) ?_ ?_ ?_
 ·conv=>whnf
  exact fun R F=>F ls rfl 0
 ·intro J1 Q1 d ds m M' hj
  apply hj;clear hj
  intro r e i
  revert i
  apply map_cons e
  clear e
  ·intro c r i
   delta And
   refine⟨gG (by decide),?_⟩
   delta Fz
   exact .sub [("letters",.fz (intL ls)),("found",.fz (.int (256*i+c)))] rfl (.go (fun R F=>F r rfl _))
 ·intro m M' hj
  apply hj;clear hj
  intro _ _ i
  refine .go ?_
  delta Gh
  exact .done (q i)
structure PT where
 ks:List Int
 vs:List Int
 nk:List Int
 nv:List (List Int)
 st:Int
noncomputable def PT.fl(t:PT):List D:=[.dct t.ks (t.vs.map .int),.dct t.nk (t.nv.map intsD),.int t.st,.dct [] []]
noncomputable def PT.to(t:PT)(s c:Int):Int:=(dGet (256*s+c) t.ks t.vs).getD (-1)
noncomputable def PT.row(t:PT)(s:Int):List Int:=(dGet s t.nk t.nv).getD []
noncomputable def lay:List Int→Nat→List Int→List Int
 |fd,_,[]=>fd
 |fd,i,d::r=>lay (fd.set i (if d>(fd[i]?).getD 0 then d else(fd[i]?).getD 0)) (i+1) r
noncomputable def gS(t:PT)(b:Nat):Int→List Int→List Int→List Int
 |_,fd,[]=>fd
 |s,fd,c::r=>if t.to s c<0 then fd else gS t b (t.to s c) (lay fd b (t.row (t.to s c))) r
theorem zW{t:PT}{b:Nat}{s:Int}{fd:List Int}{c:Int}{r:List Int}:gS t b s fd (c::r)=if t.to s c<0 then fd else gS t b (t.to s c) (lay fd b (t.row (t.to s c))) r:=rfl
noncomputable def rY(t:PT)(marks:List Int):Nat→List Int→Nat→List Int
 |0,fd,_=>fd
 |j+1,fd,b=>rY t marks j (gS t b 0 fd (marks.drop b)) (b+1)
noncomputable def rP(t:PT)(ls:List Int):List Int:=((rY t ([0]++ls++[0]) (ls.length+2) (List.replicate (ls.length+3) 0) 0).drop 1).take (ls.length+1)
theorem a0:∀{r fd:List Int}{i:Nat},(lay fd i r).length=fd.length
 |[],_,_=>rfl
 |d::r,fd,i=>(a0 (r:=r)).trans List.length_set
theorem sD{t:PT}{b:Nat}:∀{r fd:List Int}{s:Int},(gS t b s fd r).length=fd.length
 |[],_,_=>rfl
 |c::r,fd,s=>by
  show List.length (if t.to s c<0 then fd else gS t b (t.to s c) (lay fd b (t.row (t.to s c))) r)=_
  by_cases h:t.to s c<0
  ·rw [if_pos h]
  ·rw [if_neg h,sD,a0]
theorem mH{t:PT}{mk:List Int}:∀{j:Nat}{fd:List Int}{b:Nat},(rY t mk j fd b).length=fd.length
 |0,_,_=>rfl
 |j+1,fd,b=>(mH (j:=j)).trans sD
structure TabOk(t:PT):Prop where
 dep:∃dep:Int→Nat,dep 0=0∧(∀s c,0≤s→0≤c→c≤255→0≤t.to s c→dep (t.to s c)=dep s+1)∧∀s,t.row s = []∨(t.row s).length=dep s+1
theorem lA{α:Type}{i:Int}{ks:List Int}{l:List α}{f:α→D}{a:α}{d:D}(h:d=f a):(dGet i ks ((l.map f).map V.fz)).getD (.fz d) = .fz (f ((dGet i ks l).getD a)):=by
 rw [cP,cP,h]
 cases dGet i ks l <;> rfl
theorem jA{α:Type}{l:List α}{i:Int}{k:Nat}{x:α}(h:i=k)(e:l[k]?=some x):cQ l i=some x:=by
 subst h
 unfold cQ
 rw [if_pos (by exact l6)]
 exact e
theorem ok_gaps(k:aG W){t:PT}(ht:TabOk t){ls:List Int}(hl:ls.length≤63)(h1:∀c∈ls,1≤c∧c≤255)(q:Q (.fz (intL (rP t ls))) M):aA W (n+1) .Patterns_gap_numbers [.fz (.inst .Patterns t.fl),.fz (intL ls)] Q M:=by
 obtain⟨dep,hd0,hd1,hd2⟩:=ht.dep
 refine aH ‹_› rfl rfl rfl rfl rfl fun en_ he_=>?_;intro T;conv=>whnf
 intro a1 ha1
 delta Exists
 refine⟨_,_,rfl,by(refine ln1 ?_;refine ln1 ?_;exact ar_le ‹_› (by decide)),fun a2 ha2=>?_⟩
 delta Exists
 refine lX (a:=[.int 0]) (b:=ls.map .int) (by show cV _=_;rw [look_skip (fun e=>ha2 (by rw [←e];exact .head _)),look_self];rfl) (congrArg cV look_self) (by(refine Eq.substr (List.length_map _) ?_;exact FW hl)) fun a3 ha3=>?_
 conv=>whnf
 intro a4 ha4
 delta Exists
 refine lX (a:=[.int 0]++ls.map .int) (b:=[.int 0]) (by show cV _=_;rw [look_skip (fun e=>ha4 (by rw [←e];exact .head _)),look_self];rfl) (by show cV _=_;rw [look_self];rfl) (by(simp;exact ar_le ‹_› (by decide))) fun a5 ha5=>?_
 rw [show [D.int 0]++ls.map .int++[.int 0]=([0]++ls++[0]).map .int by simp]
 generalize hmk:[0]++ls++[0]=mk
 have hml:mk.length=ls.length+2:=by rw [←hmk];simp
 generalize hN:((a4,Cell.lst [V.fz (D.int 0)])::_:Led)=N
 conv=>whnf
 intro a6 ha6
 delta atC
 have h56:a5≠a6:=fun e=>ha6 (by rw [←e];exact .head _)
 refine⟨_,bH h56,?_⟩;delta And
 refine⟨by(refine ln1 ?_;refine ln1 ?_;exact c9 hl hml),?_⟩
 delta Exists
 refine⟨.fz (.int 0),look_self,by(refine Eq.substr (List.length_map _) ?_;refine Eq.substr (List.length_map _) ?_;exact Ec hml),by(refine Eq.substr (List.length_map _) ?_;refine Eq.substr (List.length_map _) ?_;exact FO hl hml),?_⟩
 delta bL
 intro fo hfo
 have h5f:a5≠fo:=fun e=>hfo (by rw [←e];exact List.mem_append_right _ (.head _))
 have hmk5:List.lookup a5 ((a6,Cell.lst [V.fz (.int 0)])::(a5,.lst ((mk.map D.int).map V.fz))::N:Led)=some (.lst ((mk.map D.int).map V.fz)):=bH h56
 rw [show List.replicate (((mk.map D.int).map V.fz).length+1:Int).toNat (V.fz (.int 0))=((List.replicate (ls.length+3) (0:Int)).map D.int).map V.fz by simp [hml];exact Gc]
 revert hmk5
 generalize hN2:((a6,Cell.lst [V.fz (.int 0)])::(a5,.lst ((mk.map D.int).map V.fz))::N:Led)=N2
 intro hmk5
 delta Lf
 refine cD (fun m M'=>∀R:Loc→Led→Prop,(∀fd,fd=rY t mk (ls.length+2) (List.replicate (ls.length+3) 0) 0→R [("marks",.loc a5),("found",.loc fo)] ((fo,.lst ((fd.map D.int).map .fz))::N2))→R m M') ?_ ?_
 rotate_left
 ·intro P1 m M' hj
  apply hj;clear hj
  intro fd hfd
  refine .go ?_
  delta atC
  refine⟨_,(look_skip h5f).trans hmk5,?_⟩;delta And
  refine⟨by(refine ln1 ?_;refine ln1 ?_;exact c9 hl hml),?_⟩
  delta Or
  have hfl:fd.length≤1000000:=by rw [hfd,mH];(simp;exact ar_le ‹_› (by decide))
  refine .inl ⟨(fd.map D.int).map V.fz,congrArg cV look_self,by(refine ln1 ?_;refine ln1 ?_;exact ar_le ‹_› (by decide)),?_⟩
  rw [pP _ (i:=1) (a:=1) (j:=((mk.map D.int).map V.fz).length) (b:=ls.length+2) rfl (by(refine Eq.substr (List.length_map _) ?_;refine Eq.substr (List.length_map _) ?_;exact GA hml))]
  intro p hp
  delta Gh
  rw [show(((fd.map D.int).map V.fz).drop 1).take (ls.length+2-1)=((rP t ls).map D.int).map V.fz by rw [hfd,←hmk];simp [rP,List.map_take]]
  subst hN2 hN
  exact dE (gh_cons (gh_cons (gh_cons (gh_cons (gh_cons (gh_cons (gh_cons (.done q))))))))
 intro P1
 refine bX [("self",.fz (.inst .Patterns t.fl)),("marks",.loc a5),("found",.loc fo)] rfl ?_
 refine aX k ‹_› (fun ds m M'=>∀R:Loc→Led→Prop,(∀(j:Nat),∀(b:Nat),∀(fd:List Int),ds=aV b j→b+j=ls.length+2→fd.length=ls.length+3→rY t mk j fd b=rY t mk (ls.length+2) (List.replicate (ls.length+3) 0) 0→R [("self",.fz (.inst .Patterns t.fl)),("marks",.loc a5),("found",.loc fo)] ((fo,.lst ((fd.map D.int).map .fz))::N2))→R m M') rfl (fun _=>rfl) ?_ ?_ ?_
 ·delta atC
  refine⟨_,(look_skip h5f).trans hmk5,?_⟩;delta And
  refine⟨by(refine ln1 ?_;refine ln1 ?_;exact c9 hl hml),?_⟩
  delta And
  refine⟨⟨by exact iQ,by exact iK,by exact b9,by(refine Eq.substr (List.length_map _) ?_;refine Eq.substr (List.length_map _) ?_;exact HG hl hml)⟩,fun R F=>F (ls.length+2) 0 (List.replicate (ls.length+3) 0) ?_ (by exact q_184) (by simp) rfl⟩
  simp only [List.length_map,hml,Int.sub_zero,Int.toNat_natCast]
  rfl
 ·intro J1 Q1 d ds m M' hj
  apply hj;clear hj
  intro j b fd e hj hfl hg
  revert hj hfl hg
  apply dA e
  clear e
  ·intro j hj hfl hg
   delta Lf
   refine aX k ‹_› (fun ds m M'=>∀R:Loc→Led→Prop,(∀(i:Nat),∀(s:Int),∀(fd2:List Int),∀(r:List Int),ds=r.map .int→mk.drop (b+i)=r→dep s=i→0≤s→gS t b s fd2 r=gS t b 0 fd (mk.drop b)→fd2.length=ls.length+3→R [("self",.fz (.inst .Patterns t.fl)),("marks",.loc a5),("found",.loc fo),("begin",.fz (.int b)),("state",.fz (.int s))] ((fo,.lst ((fd2.map D.int).map .fz))::N2))→R m M') rfl (fun _=>rfl) ?_ ?_ ?_
   ·delta Or
    refine .inl ⟨(mk.map D.int).map V.fz,congrArg cV ((look_skip h5f).trans hmk5),by(refine ln1 ?_;refine ln1 ?_;exact c9 hl hml),?_⟩
    rw [mA _ (k:=b) rfl]
    intro p hp
    delta atC
    rw [show((mk.map D.int).map V.fz).drop b=((mk.drop b).map D.int).map V.fz by simp [List.map_drop]]
    exact⟨_,look_self,_,_,bM _,aB,fun R F=>F 0 0 fd (mk.drop b) rfl rfl hd0 (Int.le_refl 0) rfl hfl⟩
   ·intro J1 Q1 d ds m M' hj
    apply hj;clear hj
    rintro i s fd2 r rfl' hr hs h0 hw hl2
    revert hr hs h0 hw hl2
    apply map_cons rfl'
    clear rfl'
    ·intro c r hr hs h0 hw hl2
     delta And
     refine⟨gG (by decide),?_⟩
     delta Exists
     have hc:0≤c∧c≤255:=by
      have:c∈mk:=List.mem_of_mem_drop (hr▸.head _:c∈mk.drop (b+i))
      rw [←hmk]at this
      simp only [List.append_assoc,List.mem_append,List.mem_singleton]at this
      rcases this with e|e|e
      ·exact AK e
      ·have:=h1 c e;exact Z5 this
      ·exact AK e
     have hlen:b+i<ls.length+2:=by
      have:=congrArg List.length hr
      simp at this;lia
     refine⟨_,_,_,rfl,lA (f:=D.int) rfl,?_⟩
     delta cond
     refine aM (b:=decide (t.to s c<0)) (fun h3=>?_) fun h3=>?_
     ·delta Fz
      refine .sub [("self",.fz (.inst .Patterns t.fl)),("marks",.loc a5),("found",.loc fo)] rfl (.go (.go (.go (fun R F=>F j (b+1) fd2 rfl (by exact yE hj) hl2 (?_)))))
      rw [←hg,show fd2=gS t b 0 fd (mk.drop b) by rw [←hw,zW,if_pos (of_decide_eq_true h3)]]
      rfl
     ·delta Lf
      have h3:0≤t.to s c:=Int.not_lt.mp (of_decide_eq_false h3)
      have hs':=hd1 s c h0 hc.1 hc.2 h3
      have hw':gS t b (t.to s c) (lay fd2 b (t.row (t.to s c))) r=gS t b 0 fd (mk.drop b):=by rw [←hw,zW,if_neg (by exact FP (by assumption))]
      generalize hu:(dGet (256*s+c) t.ks t.vs).getD (-1)=u
      have hu:t.to s c=u:=hu
      rw [hu]at h3 hs' hw'
      refine bX [("self",.fz (.inst .Patterns t.fl)),("marks",.loc a5),("found",.loc fo),("begin",.fz (.int b)),("state",.fz (.int u)),("spot",.fz (.int b))] rfl ?_
      refine aX k ‹_› (fun ds m M'=>∀R:Loc→Led→Prop,(∀(j:Nat),∀(fd3:List Int),∀(r3:List Int),ds=r3.map .int→lay fd3 j r3=lay fd2 b (t.row u)→j+r3.length≤ls.length+3→fd3.length=ls.length+3→R [("self",.fz (.inst .Patterns t.fl)),("marks",.loc a5),("found",.loc fo),("begin",.fz (.int b)),("state",.fz (.int u)),("spot",.fz (.int j))] ((fo,.lst ((fd3.map D.int).map .fz))::N2))→R m M') rfl (fun _=>rfl) ?_ ?_ ?_
      ·delta Exists
       refine⟨_,_,_,rfl,lA (f:=intsD) (a:=[]) rfl,fun R F=>F b fd2 (t.row u) rfl rfl ?_ hl2⟩
       rcases hd2 u with e|e
       ·rw [e];exact Da hj
       ·rw [e,hs',hs];exact Gx hlen
      ·intro J1 Q1 d ds m M' hj
       apply hj;clear hj
       rintro j fd3 r3 rfl' hly hj3 hl3
       revert hly hj3 hl3
       apply map_cons rfl'
       clear rfl'
       ·intro g r3 hly hj3 hl3
        delta atC
        have hj:j<fd3.length:=by simp at hj3;exact Go hj3 hl3
        refine⟨_,look_self,⟨by(refine ln1 ?_;refine ln1 ?_;exact Y4 hl hl3),.fz (.int ((fd3[j]?).getD 0)),?_,?_⟩⟩
        ·exact jA rfl (by simp [hj])
        delta atC
        refine⟨_,look_self,by exact l6,by simpa using hj,by(refine ln1 ?_;refine ln1 ?_;exact Y4 hl hl3),_,aC,?_⟩
        delta Fz
        refine .sub [("self",.fz (.inst .Patterns t.fl)),("marks",.loc a5),("found",.loc fo),("begin",.fz (.int b)),("state",.fz (.int u)),("spot",.fz (.int (j+1:Nat)))] rfl (.go (fun R F=>R2 rfl (?_) (F (j+1) _ r3 rfl hly (?_) (?_))))
        ·simp [List.map_set]
        ·simp at hj3;exact pU ‹_›
        ·simpa using hl3
      ·intro m M' hj
       apply hj;clear hj
       rintro j fd3 r3 rfl' hly hj3 hl3
       rcases r3 with _|⟨g,r3⟩
       ·refine .sub [("self",.fz (.inst .Patterns t.fl)),("marks",.loc a5),("found",.loc fo),("begin",.fz (.int b)),("state",.fz (.int u))] rfl (.go (.go (fun R F=>F (i+1) u fd3 r rfl (?_) (?_) h3 (?_) hl3)))
        ·rw [show b+(i+1)=(b+i)+1 by exact Fp,←List.drop_drop,hr];rfl
        ·rw [hs',hs]
        ·rw [show fd3=lay fd2 b (t.row u)from hly,hw']
       ·cases rfl'
   ·intro m M' hj
    apply hj;clear hj
    rintro i s fd2 r rfl' hr hs h0 hw hl2
    rcases r with _|⟨c,r⟩
    ·refine .sub [("self",.fz (.inst .Patterns t.fl)),("marks",.loc a5),("found",.loc fo)] rfl (.go ?_)
     refine .go (fun R F=>F j (b+1) fd2 rfl (by exact yE hj) hl2 (?_))
     rw [←hg,show fd2=gS t b 0 fd (mk.drop b)from hw]
     rfl
    ·cases rfl'
 ·intro m M' hj
  apply hj;clear hj
  intro j b fd e hj hfl hg
  rcases j with _|j
  ·exact .sub [("marks",.loc a5),("found",.loc fo)] rfl (.go (fun R F=>F fd hg))
  ·cases e
end
section
variable{W:Wd}{n:Nat}{M:Led}{Q:aJ}
theorem aA.lend{f:Fn}{vs:List V}(a:Addr){c:Cell}{d:D}(hl:M.lookup a=some c)(hf:c.frz=some d)(h:aA W n f (vs.map (V.sub a d)) (fun v N=>N = []∧(∃i,v = .fz (.int i))∧Q v M) []):aA W n f vs Q M:=fun A Y s xs g me r=>by
 have m1:=me.drop a
 have m2:Mem W (Y++foot (drop a M)) [] s.heap:=⟨fun b hb=>m1.alive b (by simpa [foot]using hb),fun b o e=>⟨(m1.base b o e).1,fun hb=>(m1.base b o e).2 (by simpa [foot]using hb)⟩,.nil,fun b hb=>(nomatch hb),fun p hp=>(nomatch hp)⟩
 refine codeAny_mono (h A _ s xs g m2 (by
  have:=VRelL.sub (jH me hl hf) (bS a) r
  simpa [foot]using this)) fun r s' q=>?_
 rcases r with e|fl
 ·exact q.elim
 ·cases fl <;> first
   |exact q.elim
   |(obtain⟨v,M',⟨rfl,⟨i,rfl⟩,q⟩,rv,me',st⟩:=q
     have kp:∀b o,s.heap.get? b=some o→s'.heap.get? b=some o:=fun b o e=>st.keep b o e (by simp [foot])
     exact⟨_,M,q,rv,me.same kp,Step.same kp st.rest⟩)
noncomputable def ptG(g:List Int):Nat→Nat→List Int
 |_,0=>[]
 |p,j+1=>if (g[p]?.getD 0)%2==1 then(p:Int)::ptG g (p+1) j else ptG g (p+1) j
theorem X2{g:List Int}{p j:Nat}:ptG g p (j+1)=if (g[p]?.getD 0)%2==1 then(p:Int)::ptG g (p+1) j else ptG g (p+1) j:=rfl
theorem EZ{g:List Int}{p:Nat}:ptG g p 0 = []:=rfl
noncomputable def ptOf(t:PT)(lf rt:Nat)(ls:List Int):List Int:=ptG (rP t ls) lf (ls.length+1-rt-lf)
theorem oV{g:List Int}{p j:Nat}:ptG g p (j+1)=if (g[p]?.getD 0)%2==1 then(p:Int)::ptG g (p+1) j else ptG g (p+1) j:=rfl
theorem oH{g:List Int}:∀{j p:Nat}{x:Int},x∈ptG g p j→(p:Int)≤x∧x<p+j
 |0,p,x,h=>by cases h
 |j+1,p,x,h=>by
  rw [oV]at h
  have ih:x∈ptG g (p+1) j→((p+1:Nat):Int)≤x∧x<(p+1:Nat)+j:=oH
  by_cases z:(g[p]?.getD 0)%2==1
  ·rw [if_pos z]at h
   rcases mCp h with e|h
   ·exact DS e
   ·exact HR (ih h)
  ·rw [if_neg z]at h;exact HR (ih h)
theorem tD{g:List Int}:∀{j p:Nat},(ptG g p j).Pairwise (· < ·)
 |0,p=>.nil
 |j+1,p=>by
  rw [oV]
  by_cases z:(g[p]?.getD 0)%2==1
  ·rw [if_pos z];refine .cons (fun x h=>?_) tD
   have:=oH h;exact Dy this
  ·rw [if_neg z];exact tD
theorem ptG_len{g:List Int}:∀{j p:Nat},(ptG g p j).length≤j
 |0,p=>Nat.le_refl _
 |j+1,p=>by
  rw [oV]
  have:(ptG g (p+1) j).length≤j:=ptG_len
  by_cases z:(g[p]?.getD 0)%2==1
  ·rw [if_pos z];(simp;exact HI this)
  ·rw [if_neg z];exact Y6 this
theorem wH{t:PT}{ls:List Int}:(rP t ls).length=ls.length+1:=by simp [rP,mH]
set_option maxHeartbeats 1000000 in
theorem l7(k:aG W){t:PT}(ht:TabOk t){lf rt:Nat}(h1:1≤lf∧lf≤5)(h2:1≤rt∧rt≤5){ls:List Int}(hl:xN ls)(q:Q (.fz (intL (ptOf t lf rt ls))) M):aA W (n+8) .Patterns_points [.fz (.inst .Patterns t.fl),.fz (intL ls),.fz (.int lf),.fz (.int rt)] Q M:=by
 refine aH ‹_› rfl rfl rfl rfl rfl fun en_ he_=>?_;intro T;delta Lf
 obtain⟨hn,hl,hm⟩:=hl
 have hb:∀c∈ls,1≤c∧c≤255:=fun c h=>by
  have:=hm c h
  simp only [List.mem_cons,List.not_mem_nil,or_false]at this
  exact Eb this
 refine⟨qP k hn (by exact ar_le ‹_› (by decide)) hb ?_⟩
 delta Or
 refine xA (by(refine ln1 ?_;exact ar_le ‹_› (by decide))) (b:=63) rfl fun p hp=>?_
 rw [show(ls.map D.int).take 63=ls.map .int from List.take_of_length_le (by(refine ln1 ?_;exact ar_le ‹_› (by decide)))]
 delta Exists
 refine⟨false,(ls.map D.int).map .fz,congrArg cV look_self,by(refine ln1 ?_;refine ln1 ?_;exact ar_le ‹_› (by decide)),fun w hw=>?_⟩
 delta Lf
 refine⟨wU k (by exact X0 h1) (by exact Y5 h1) ?_⟩
 delta atC
 refine⟨_,look_self,?_⟩;delta And
 refine⟨by(refine ln1 ?_;refine ln1 ?_;exact ar_le ‹_› (by decide)),?_⟩
 delta Lf
 refine⟨wU k (by exact X0 h2) (by exact Y5 h2) ?_⟩
 delta Lf
 refine⟨.lend w look_self dF ?_⟩
 rw [show [V.loc w].map (V.sub w (.lst (ls.map D.int))) = [.fz (intL ls)] by simp [V.sub,intL]]
 refine vA k hl (fun c h=>by have:=hb c h;exact Z5 this) fun i=>⟨rfl,⟨i,rfl⟩,?_⟩
 delta Exists
 refine⟨_,_,_,rfl,rfl,?_⟩
 delta Lf
 refine⟨eJ [.inst .Patterns t.fl] [] (ok_gaps k ht hl hb ?_)⟩
 delta Lf
 refine mD k ‹_› (fun ds acc=>∀R:List D→Prop,(∀(j:Nat),∀(p:Nat),∀(l1:List Int),ds=aV p j→l1++ptG (rP t ls) p j=ptOf t lf rt ls→(j=0∨p+j≤ls.length+1)→R (l1.map .int))→R acc) rfl (fun _=>rfl) ?_ ?_ ?_
 ·delta And
  refine⟨⟨by exact Ey h1,by exact HQ h1,by(refine Eq.substr (List.length_map _) ?_;refine Eq.substr (List.length_map _) ?_;exact FS h2),by(refine Eq.substr (List.length_map _) ?_;refine Eq.substr (List.length_map _) ?_;exact FX h2 hl)⟩,?_,fun R F=>F (ls.length+1-rt-lf) lf [] ?_ rfl (by exact Fe h2),rfl⟩
  ·have:∀j (i:Int),(aV i j).length=j:=fun j=>by
    induction j with
    |zero=>exact fun _=>rfl
    |succ j ih=>exact fun i=>by rw [oW,List.length_cons,ih]
   rw [this];(simp;exact ET h1 h2 hl)
  ·congr 1;(simp;exact GH h1)
 ·intro P1 C b d ds acc hb hj
  apply hj;clear hj
  intro j pl l1 e e2 hj
  revert e2 hj
  apply dA e
  clear e
  ·intro j e2 hj
   delta And
   refine⟨by simp [wH];exact ar_le ‹_› (by decide),_,jA (k:=pl) (x:=.int ((rP t ls)[pl]?.getD 0)) rfl ?_,?_⟩
   ·have:pl<(rP t ls).length:=by rw [wH];exact Fd hj
    simp [this]
   delta cond
   refine aM (b:=(rP t ls)[pl]?.getD 0%2==1) (fun c1=>?_) fun c1=>?_
   ·exact⟨_,rfl,rfl,fun R F=>R1 (by simp) (F j (pl+1) (l1++[(pl:Int)]) rfl (by rw [←e2,X2,if_pos c1];simp) (by exact X5 hj))⟩
   ·exact⟨rfl,fun R F=>F j (pl+1) l1 rfl (by rw [←e2,X2,if_neg (by rw [c1];decide)]) (by exact X5 hj)⟩
 ·intro b acc hb hj
  apply hj;clear hj
  intro j pl l1 e e2 hj
  rcases j with _|j
  ·rw [EZ,List.append_nil]at e2
   rw [e2]
   refine dE ?_
   exact gh_cons (.done (show Gh Q _ _ from .done q))
  ·cases e
theorem Io(k:aG W){t:PT}(ht:TabOk t){lf rt:Nat}(h1:1≤lf∧lf≤5)(h2:1≤rt∧rt≤5):PtOk W (.inst .Patterns t.fl) lf rt (ptOf t lf rt) where
 run hl q:=l7 k ht h1 h2 hl q
 rng hl p hp:=by have:=oH hp;exact I3 h1 h2 this
 len hl:=by
  have:=hl.2.1
  exact Nat.le_trans ptG_len (by exact q_268 h1 this)
end
section
variable{W:Wd}{n:Nat}{M:Led}{Q:aJ}
theorem fQ{a b c e:Addr}{x y z u:Cell}(h1:a≠b)(h2:a≠c)(h3:a≠e):List.lookup a ((b,x)::(c,y)::(e,z)::(a,u)::M:Led)=some u:=(look_skip h1).trans (cR h2 h3)
theorem FC{a b c e:Addr}{x y z u v:Cell}(h1:a≠b)(h2:a≠c)(h3:a≠e):put ((b,x)::(c,y)::(e,z)::(a,u)::M) a v=(b,x)::(c,y)::(e,z)::(a,v)::M:=(aE h1).trans (congrArg _ (hG h2 h3))
structure TA where
 a:Addr
 d:Addr
 lk:Addr
 nm:Addr
 ex:Addr
structure TA.Ok(x:TA):Prop where
 alk:x.a≠x.lk
 anm:x.a≠x.nm
 aex:x.a≠x.ex
 lnm:x.lk≠x.nm
 lex:x.lk≠x.ex
 nex:x.nm≠x.ex
noncomputable def TC(x:TA)(t:PT)(M:Led):Led:=(x.ex,.dct [] [])::(x.nm,.dct t.nk ((t.nv.map intsD).map .fz))::(x.lk,.dct t.ks ((t.vs.map .int).map .fz))::(x.a,.inst .Patterns x.d (fields .Patterns) [.loc x.lk,.loc x.nm,.fz (.int t.st),.loc x.ex])::M
structure TA.Out(x:TA)(M:Led):Prop where
 a:x.a∉foot M
 lk:x.lk∉foot M
 nm:x.nm∉foot M
 ex:x.ex∉foot M
theorem vF(k:aG W)(q:∀x:TA,x.Ok→x.Out M→Q (.loc x.a) (TC x ⟨[],[],[],[],1⟩ M)):bN W (n+2) .Patterns [] Q M:=by
 refine lD k fun a d ha hd hda=>?_
 refine aH ‹_› rfl rfl rfl rfl rfl fun en_ he_=>?_;intro T;conv=>whnf
 intro lk hlk
 delta atC
 have h1:a≠lk:=fun e=>hlk (by rw [←e];exact .head _)
 refine⟨_,bH h1,?_⟩;delta putTo
 refine⟨_,gP h1,?_⟩;conv=>whnf
 intro nm hnm
 delta atC
 have h2:a≠nm:=fun e=>hnm (by rw [←e];exact .tail _ (.head _))
 have h3:lk≠nm:=fun e=>hnm (by rw [←e];exact .head _)
 refine⟨_,cR h2 h1,?_⟩;delta putTo
 refine⟨_,hG h2 h1,?_⟩;delta atC
 refine⟨_,cR h2 h1,?_⟩;delta putTo
 refine⟨_,hG h2 h1,?_⟩;conv=>whnf
 intro ex hex
 delta atC
 have h4:a≠ex:=fun e=>hex (by rw [←e];exact .tail _ (.tail _ (.head _)))
 have h5:lk≠ex:=fun e=>hex (by rw [←e];exact .tail _ (.head _))
 have h6:nm≠ex:=fun e=>hex (by rw [←e];exact .head _)
 refine⟨_,fQ h4 h2 h1,?_⟩;delta putTo
 refine⟨_,FC h4 h2 h1,?_⟩;delta Gh
 exact .done ⟨rfl,.done (q ⟨a,d,lk,nm,ex⟩ ⟨h1,h2,h4,h3,h5,h6⟩ ⟨ha,fun h=>hlk (.tail _ (.tail _ h)),fun h=>hnm (.tail _ (.tail _ (.tail _ h))),fun h=>hex (.tail _ (.tail _ (.tail _ (.tail _ h))))⟩)⟩
noncomputable def yW(t:PT):Int→List Int→Int
 |s,[]=>s
 |s,c::r=>if t.to s c<0 then -1 else yW t (t.to s c) r
theorem J4{t:PT}{s c:Int}{r:List Int}:yW t s (c::r)=if t.to s c<0 then -1 else yW t (t.to s c) r:=rfl
theorem vB(k:aG W){x:TA}(hx:x.Ok){t:PT}{ls:List Int}(q:Q (.fz (.int (yW t 0 ls))) (TC x t M)):aA W (n+1) .Patterns_state_of [.loc x.a,.fz (intL ls)] Q (TC x t M):=by
 refine aH ‹_› rfl rfl rfl rfl rfl fun en_ he_=>?_;intro T;delta Lf
 refine aX k ‹_› (fun ds m M'=>∀R:Loc→Led→Prop,(∀(s:Int),∀(r:List Int),ds=r.map .int→yW t s r=yW t 0 ls→R [("self",.loc x.a),("letters",.fz (intL ls)),("state",.fz (.int s))] (TC x t M))→R m M') rfl (fun _=>rfl) ?_ ?_ ?_
 ·conv=>whnf
  exact fun R F=>F 0 ls rfl rfl
 ·intro J1 Q1 d ds m M' hj
  apply hj;clear hj
  intro s r e hr
  revert hr
  apply map_cons e
  clear e
  ·intro c r hr
   delta atC
   refine⟨_,fQ hx.aex hx.anm hx.alk,?_⟩;delta atC
   refine⟨_,cR hx.lex hx.lnm,?_⟩;delta And
   refine⟨gG (by decide),?_⟩
   delta Exists
   refine⟨t.ks,(t.vs.map D.int).map .fz,_,by exact congrArg cDv (cR hx.lex hx.lnm),lA (f:=D.int) rfl,?_⟩
   delta cond
   refine aM (b:=decide (t.to s c<0)) (fun h3=>?_) fun h3=>?_
   ·delta Gh
    refine .done ?_
    rwa [←hr,J4,if_pos (of_decide_eq_true h3)]at q
   ·exact .sub [("self",.loc x.a),("letters",.fz (intL ls)),("state",.fz (.int (t.to s c)))] rfl (.go (fun R F=>F _ r rfl (by rw [←hr,J4,if_neg (of_decide_eq_false h3)])))
 ·intro m M' hj
  apply hj;clear hj
  intro s r e hr
  rcases r with _|⟨c,r⟩
  ·refine .go ?_
   delta Gh
   refine .done ?_
   rwa [←hr]at q
  ·cases e
theorem B0(k:aG W){ls:List Int}(h0:ls≠[])(hl:ls.length≤1000)(h1:∀c∈ls,1≤c∧c≤255)(q:Q (.fz (intL ls)) M):aA W (n+1) .inner_letters [.fz (intL ls)] Q M:=by
 refine aH ‹_› rfl rfl rfl rfl rfl fun en_ he_=>?_;intro T;delta And
 have h00:∃c r,ls=c::r∧∃c',ls[ls.length-1]?=some c'∧1≤c':=by
  cases ls with
  |nil=>exact absurd rfl h0
  |cons c r =>
   have h:(c::r).length-1<(c::r).length:=by simp
   exact⟨c,r,rfl,_,List.getElem?_eq_getElem h,(h1 _ (List.getElem_mem h)).1⟩
 obtain⟨c,r,rfl,c',hc',h1'⟩:=h00
 have h1c:=(h1 c (.head _)).1
 have hlen:((c::r).map D.int).length≤1000000:=by simp at hl ⊢;exact ar_le ‹_› (by decide)
 refine⟨hlen,?_⟩
 delta cond
 refine bt (dt (by simp)) ?_
 delta And
 refine⟨hlen,_,rfl,?_⟩
 delta cond
 refine bf (ef (by exact d7 h1c)) ?_
 (conv=>whnf)
 refine bt (dt (by simp)) ?_
 delta And
 refine⟨hlen,_,jA (k:=(c::r).length-1) (x:=.int c') (by simp) (by rw [List.getElem?_map,hc'];rfl),?_⟩
 delta cond
 refine bf (ef (by exact d7 h1')) ?_
 delta cond
 refine yU (by simp at hl ⊢;exact ar_le ‹_› (by decide)) (a:=0) (b:=(c::r).length) rfl (by simp) fun p hp=>?_
 rw [show(((c::r).map D.int).drop 0).take ((c::r).length-0)=(c::r).map .int from List.take_of_length_le (by simp)]
 delta Exists
 refine⟨false,((c::r).map D.int).map .fz,congrArg cV look_self,by simp at hl ⊢;exact ar_le ‹_› (by decide),fun w hw=>?_⟩
 delta Gh
 refine dE (gh_cons (.done ?_))
 exact q
theorem lW(k:aG W){ls ds:List Int}(h0:ls≠[])(hl:ls.length≤63)(h1:∀c∈ls,1≤c∧c≤255)(hd:ds.length=ls.length+1)(h2:∀c∈ds,0≤c∧c≤9)(q:Q (.fz .none) M) :
  aA W (n+3) .check_pattern [.fz (intL ls),.fz (intL ds)] Q M:=by
 refine aH ‹_› rfl rfl rfl rfl rfl fun en_ he_=>?_;intro T;delta Exists
 refine⟨_,_,rfl,?_⟩
 delta Exists
 refine⟨_,_,rfl,?_⟩
 delta Lf
 refine cD (fun m M'=>∀R:Loc→Led→Prop,(R [("letters",.fz (intL ls)),("digits",.fz (intL ds))] M)→R m M') ?_ ?_
 ·intro P1
  refine aX k ‹_› (fun es m M'=>∀R:Loc→Led→Prop,(∀(r:List Int),es=r.map .int→(∀c∈r,c∈ls)→R [("letters",.fz (intL ls)),("digits",.fz (intL ds))] M)→R m M') rfl (fun _=>rfl) ?_ ?_ ?_
  ·conv=>whnf
   exact fun R F=>F ls rfl (fun _ h=>h)
  ·intro J1 Q1 d es m M' hj
   apply hj;clear hj
   intro r e hr
   revert hr
   apply map_cons e
   clear e
   ·intro c r hr
    delta Lf
    have:=h1 c (hr c (.head _))
    refine⟨aP k (by exact Fa this) this.2 ?_⟩
    delta Fz
    exact .sub [("letters",.fz (intL ls)),("digits",.fz (intL ds))] rfl (.go (fun R F=>F r rfl (fun x hx=>hr x (.tail _ hx))))
  ·intro m M' hj
   apply hj;clear hj
   intro _ _ _
   exact .go (fun R F=>F)
 intro P1 m N hj
 apply hj;clear hj
 refine .go ?_
 delta Lf
 refine⟨B0 k h0 (by exact ar_le ‹_› (by decide)) h1 ?_⟩
 delta Lf
 refine⟨qP k h0 (by exact ar_le ‹_› (by decide)) h1 ?_⟩
 delta And
 refine⟨by(refine ln1 ?_;exact ar_le ‹_› (by decide)),?_⟩
 delta cond
 refine bf (df (by(simp;exact EL hl))) ?_
 delta And
 refine⟨by(refine ln1 ?_;exact K3 hl hd),?_⟩
 delta And
 refine⟨by(refine ln1 ?_;exact ar_le ‹_› (by decide)),?_⟩
 delta cond
 refine bf (nf (et (by simp [hd]))) ?_
 delta Lf
 refine aX k ‹_› (fun es m M'=>∀R:Loc→Led→Prop,(∀(r:List Int),es=r.map .int→(∀c∈r,c∈ds)→R [("letters",.fz (intL ls)),("digits",.fz (intL ds))] M)→R m M') rfl (fun _=>rfl) ?_ ?_ ?_
 ·conv=>whnf
  exact fun R F=>F ds rfl (fun _ h=>h)
 ·intro J1 Q1 d es m M' hj
  apply hj;clear hj
  intro r e hr
  revert hr
  apply map_cons e
  clear e
  ·intro c r hr
   delta Lf
   have:=h2 c (hr c (.head _))
   refine⟨aP k this.1 this.2 ?_⟩
   delta Fz
   exact .sub [("letters",.fz (intL ls)),("digits",.fz (intL ds))] rfl (.go (fun R F=>F r rfl (fun x hx=>hr x (.tail _ hx))))
 ·intro m M' hj
  apply hj;clear hj
  intro _ _ _
  refine .go ?_
  delta Gh
  exact .done q
theorem ER{l:List D}{K:List D→Prop}(h:K l):cB (fzs (l.map .fz)) K:=by rw [bM];exact h
noncomputable def PT.link(t:PT)(i:Int):PT:=if i∈t.ks then t else{t with ks:=(dPut i t.st t.ks t.vs).1,vs:=(dPut i t.st t.ks t.vs).2,st:=t.st+1}
noncomputable def iB:PT→Int→List Int→PT × Int
 |t,s,[]=>(t,s)
 |t,s,c::r=>iB (t.link (256*s+c)) ((t.link (256*s+c)).to s c) r
theorem Cl{t:PT}{s c:Int}{r:List Int}:iB t s (c::r)=iB (t.link (256*s+c)) ((t.link (256*s+c)).to s c) r:=rfl
noncomputable def PT.add(t:PT)(ls ds:List Int):PT:={(iB t 0 ls).1 with nk:=(dPut (iB t 0 ls).2 ds (iB t 0 ls).1.nk (iB t 0 ls).1.nv).1,nv:=(dPut (iB t 0 ls).2 ds (iB t 0 ls).1.nk (iB t 0 ls).1.nv).2}
theorem qA{α β:Type}(f:α→β)(i:Int)(a:α):∀(ks:List Int) (l:List α),dPut i (f a) ks (l.map f)=((dPut i a ks l).1,(dPut i a ks l).2.map f)
 |[],l=>rfl
 |k::ks,[]=>rfl
 |k::ks,b::l=>by
  rw [List.map_cons,eG,eG,qA f i a ks l]
  by_cases h:k=i
  ·rw [if_pos h,if_pos h];rfl
  ·rw [if_neg h,if_neg h];rfl
theorem tM{α:Type}(f:α→D)(i:Int)(a:α)(ks:List Int)(l:List α):dPut i (V.fz (f a)) ks ((l.map f).map V.fz)=((dPut i a ks l).1,((dPut i a ks l).2.map f).map V.fz):=by
 rw [qA V.fz,qA f]
theorem wD{α:Type}(i:Int)(a:α):∀(ks:List Int) (l:List α),ks.length=l.length→dGet i (dPut i a ks l).1 (dPut i a ks l).2=some a
 |[],[],_=>if_pos rfl
 |k::ks,b::l,h=>by
  rw [eG]
  by_cases e:k=i
  ·rw [if_pos e];exact if_pos e
  ·rw [if_neg e];exact(if_neg e).trans (wD i a ks l (Nat.succ.inj h))
theorem oS{α:Type}(i:Int)(a:α):∀(ks:List Int) (l:List α),ks.length=l.length→(dPut i a ks l).1.length=(dPut i a ks l).2.length∧(dPut i a ks l).1.length≤ks.length+1
 |[],[],_=>⟨rfl,Nat.le_refl _⟩
 |k::ks,b::l,h=>by
  have:=oS i a ks l (Nat.succ.inj h)
  rw [eG]
  by_cases e:k=i
  ·rw [if_pos e];exact⟨h,Nat.le_succ _⟩
  ·rw [if_neg e];exact⟨congrArg Nat.succ this.1,Nat.succ_le_succ this.2⟩
theorem rI{α:Type}{i:Int}:∀{ks:List Int}{l:List α},ks.length=l.length→i∈ks→∃a,dGet i ks l=some a
 |k::ks,b::l,h,hi=>by
  rw [eD]
  by_cases e:k=i
  ·exact⟨_,if_pos e⟩
  ·rw [if_neg e];exact rI (Nat.succ.inj h) ((mCp hi).resolve_left fun q=>e q.symm)
def PT.Wf(t:PT)(b:Nat):Prop:=t.ks.length=t.vs.length∧t.ks.length≤b
theorem PT.Wf.link{t:PT}{b:Nat}(h:t.Wf b)(i:Int):(t.link i).Wf (b+1)∧dGet i (t.link i).ks (t.link i).vs=some ((dGet i (t.link i).ks (t.link i).vs).getD (-1)):=by
 unfold PT.link
 split
 ·rename_i e
  obtain⟨a,ha⟩:=rI h.1 e
  exact⟨⟨h.1,Nat.le_succ_of_le h.2⟩,by rw [ha];rfl⟩
 ·have:=oS i t.st t.ks t.vs h.1
  have e:=wD i t.st t.ks t.vs h.1
  exact⟨⟨this.1,Nat.le_trans this.2 (Nat.succ_le_succ h.2)⟩,by rw [e];rfl⟩
set_option maxHeartbeats 1000000 in
theorem xJ(k:aG W){x:TA}(hx:x.Ok){t:PT}(hw:t.Wf 100){ls ds:List Int}(h0:ls≠[])(hl:ls.length≤63)(h1:∀c∈ls,1≤c∧c≤255)(hd:ds.length=ls.length+1)(h2:∀c∈ds,0≤c∧c≤9)
  (hnew:yW t 0 ls∉t.nk) (hn:t.nk.length≤1000) (hnk:(iB t 0 ls).1.nk=t.nk∧(iB t 0 ls).1.nv=t.nv) (q:Q (.fz .none) (TC x (t.add ls ds) M)) :
  aA W (n+4) .Patterns_add [.loc x.a,.fz (intL ls),.fz (intL ds)] Q (TC x t M):=by
 have h00:∃c r,ls=c::r∧∃c',ls[ls.length-1]?=some c'∧1≤c':=by
  cases ls with
  |nil=>exact absurd rfl h0
  |cons c r =>
   have h:(c::r).length-1<(c::r).length:=by simp
   exact⟨c,r,rfl,_,List.getElem?_eq_getElem h,(h1 _ (List.getElem_mem h)).1⟩
 have hlen:(ls.map D.int).length≤1000000:=by(refine ln1 ?_;exact ar_le ‹_› (by decide))
 refine aH ‹_› rfl rfl rfl rfl rfl fun en_ he_=>?_;intro T;delta Lf
 refine⟨lW k h0 hl h1 hd h2 ?_⟩
 delta atC
 refine⟨_,fQ hx.aex hx.anm hx.alk,?_⟩;delta Lf
 refine⟨vB k hx ?_⟩
 delta atC
 refine⟨_,fQ hx.aex hx.anm hx.alk,?_⟩;delta Or
 refine .inl ⟨x.nm,t.nk,_,rfl,bH hx.nex,?_⟩
 delta cond
 refine bf (df hnew) ?_
 delta Exists
 refine⟨_,_,rfl,by(refine ln1 ?_;refine ln1 ?_;exact K3 hl hd),fun rw hrw=>?_⟩
 delta And
 obtain⟨c0,r0,hls,cl,hcl,h1l⟩:=h00
 have hc0:=(h1 c0 (by rw [hls];exact .head _)).1
 refine⟨hlen,.int c0,by rw [hls];rfl,?_⟩
 delta cond
 refine bf (ef (by exact d7 hc0)) ?_
 delta And
 refine⟨hlen,.int cl,?_,?_⟩
 ·unfold cQ
  rw [if_neg (by exact Y7),if_pos (by simp [hls];exact Gn),show(-1+((ls.map D.int).length:Int)).toNat=ls.length-1 by(refine Eq.substr (List.length_map _) ?_;exact AH),List.getElem?_map,hcl]
  rfl
 delta cond
 refine bf (ef (by exact d7 h1l)) ?_
 delta Lf
 have hfx:∀y,y=x.a∨y=x.lk∨y=x.nm∨y=x.ex→y≠rw:=by
  rintro y hy rfl
  refine hrw ?_
  simp only [TC,foot,Cell.foot,List.mem_append,List.mem_cons,List.not_mem_nil,or_false]
  rcases hy with h|h|h|h <;> simp [h]
 have ra:=hfx _ (.inl rfl)
 have rl:=hfx _ (.inr (.inl rfl))
 have rn:=hfx _ (.inr (.inr (.inl rfl)))
 generalize hdc:(ds.map D.int).map V.fz=dc
 refine cD (fun m M'=>∀R:Loc→Led→Prop,((iB t 0 ls).1.Wf 200→R [("self",.loc x.a),("row",.loc rw),("state",.fz (.int (iB t 0 ls).2))] ((rw,.lst dc)::TC x (iB t 0 ls).1 M))→R m M') ?_ ?_
 rotate_left
 ·intro P1 m M' hj
  apply hj;clear hj
  intro hw2
  refine .go ?_
  delta atC
  subst hdc
  refine⟨_,look_self,ER ?_⟩
  delta And
  refine⟨by(refine ln1 ?_;refine ln1 ?_;exact K3 hl hd),?_⟩
  delta atC
  refine⟨_,(look_skip ra).trans (fQ hx.aex hx.anm hx.alk),?_⟩;delta atC
  refine⟨_,(look_skip rn).trans (bH hx.nex),by rw [hnk.1];exact ar_le ‹_› (by decide),_,(aE rn).trans (congrArg _ (gP hx.nex)),?_⟩
  delta Gh
  refine gh_cons (.done ?_)
  change Q _ ((x.ex,_)::(x.nm,.dct (dPut _ (V.fz (intsD ds)) _ _).1 (dPut _ (V.fz (intsD ds)) _ _).2)::_)
  rw [tM]
  exact q
 intro P1
 refine bX [("self",.loc x.a),("letters",.fz (intL ls)),("row",.loc rw),("state",.fz (.int 0))] rfl ?_
 refine aX k ‹_› (fun es m M'=>∀R:Loc→Led→Prop,(∀(r:List Int),∀(s:Int),∀(t':PT),es=r.map .int→iB t' s r=iB t 0 ls→t'.Wf (163-r.length)→r.length≤63→R [("self",.loc x.a),("letters",.fz (intL ls)),("row",.loc rw),("state",.fz (.int s))] ((rw,.lst dc)::TC x t' M))→R m M') rfl (fun _=>rfl) ?_ ?_ ?_
 ·conv=>whnf
  exact fun R F=>F ls 0 t rfl rfl ⟨hw.1,by have:=hw.2;exact GV hl this⟩ hl
 ·intro J1 Q1 d es m M' hj
  apply hj;clear hj
  intro r s t' e hr hw' hrl
  revert hr hw' hrl
  apply map_cons e
  clear e
  ·intro c r hr hw' hrl
   delta And
   refine⟨gG (by decide),?_⟩
   delta atC
   refine⟨_,(look_skip ra).trans (fQ hx.aex hx.anm hx.alk),?_⟩;delta Or
   refine .inl ⟨x.lk,t'.ks,_,rfl,(look_skip rl).trans (cR hx.lex hx.lnm),?_⟩
   delta cond
   have hrl:r.length+1≤63:=hrl
   have hw':t'.Wf (162-r.length):=⟨hw'.1,by have:=hw'.2;simp at this;exact DX this⟩
   have hlk:=hw'.link (256*s+c)
   have hwf:(t'.link (256*s+c)).Wf (163-r.length):=⟨hlk.1.1,by have:=hlk.1.2;exact Dz hrl this⟩
   rw [Cl]at hr
   have fin:∀{m0},kL [("self",.loc x.a),("letters",.fz (intL ls)),("row",.loc rw),("state",.fz (.int ((t'.link (256*s+c)).to s c)))] m0→Fz (J1 (r.map D.int)) m0 ((rw,.lst dc)::TC x (t'.link (256*s+c)) M) :=
    fun hs=>.sub _ hs (.go (fun R F=>F r _ _ rfl hr hwf (by exact ar_l ‹_› (by decide))))
   have fnd:=hlk.2
   clear hlk hr
   refine aM (b:=!decide (256*s+c∈t'.ks)) (fun c1=>?_) fun c1=>?_
   ·have e:t'.link (256*s+c) ={t' with ks:=(dPut (256*s+c) t'.st t'.ks t'.vs).1,vs:=(dPut (256*s+c) t'.st t'.ks t'.vs).2,st:=t'.st+1}:=if_neg (by simpa using c1)
    delta atC
    refine⟨_,(look_skip ra).trans (fQ hx.aex hx.anm hx.alk),?_⟩;delta atC
    refine⟨_,(look_skip ra).trans (fQ hx.aex hx.anm hx.alk),?_⟩;delta atC
    refine⟨_,(look_skip rl).trans (cR hx.lex hx.lnm),by have:=hw'.2;exact FG hrl this,(rw,.lst dc)::(x.ex,.dct [] [])::(x.nm,.dct t'.nk ((t'.nv.map intsD).map .fz))::(x.lk,.dct (dPut (256*s+c) t'.st t'.ks t'.vs).1 (((dPut (256*s+c) t'.st t'.ks t'.vs).2.map D.int).map .fz))::(x.a,.inst .Patterns x.d (fields .Patterns) [.loc x.lk,.loc x.nm,.fz (.int t'.st),.loc x.ex])::M,((aE rl).trans (congrArg _ (hG hx.lex hx.lnm))).trans (by rw [tM D.int]),?_⟩
    delta atC
    refine⟨_,(look_skip ra).trans (fQ hx.aex hx.anm hx.alk),?_⟩;delta atC
    refine⟨_,(look_skip ra).trans (fQ hx.aex hx.anm hx.alk),?_⟩;delta putTo
    refine⟨_,(aE ra).trans (congrArg _ (FC hx.aex hx.anm hx.alk)),?_⟩;delta atC
    refine⟨_,(look_skip ra).trans (fQ hx.aex hx.anm hx.alk),?_⟩;delta atC
    rw [e]at fin fnd
    refine⟨_,(look_skip rl).trans (cR hx.lex hx.lnm),.fz (.int ((t'.link (256*s+c)).to s c)),?_,?_⟩
    ·rw [cP,cP,e]
     exact congrArg (fun o=>(o.map D.int).map V.fz) fnd
    delta Fz
    rw [e]
    exact fin (by rfl)
   ·have e:t'.link (256*s+c)=t':=if_pos (by simpa using c1)
    rw [e]at fin fnd
    delta atC
    refine⟨_,(look_skip ra).trans (fQ hx.aex hx.anm hx.alk),?_⟩;delta atC
    refine⟨_,(look_skip rl).trans (cR hx.lex hx.lnm),.fz (.int (t'.to s c)),?_,?_⟩
    ·rw [cP,cP,fnd];rfl
    delta Fz
    exact fin (by rfl)
 ·intro m M' hj
  apply hj;clear hj
  intro r s t' e hr hw' hrl
  rcases r with _|⟨c,r⟩
  ·exact .sub [("self",.loc x.a),("row",.loc rw),("state",.fz (.int s))] rfl (.go (fun R F=>by rw [←hr]at F;exact F ⟨hw'.1,show t'.ks.length≤200 by have:=hw'.2;exact ar_le ‹_› (by decide)⟩))
  ·cases e
end
section
variable{W:Wd}{n:Nat}{M:Led}{Q:aJ}
def n9(l:List Int):Prop:=∀c∈l,-1000000≤c∧c≤1000000
theorem fB(k:aG W){l:List Int}(h:n9 l)(q:Q (.fz .none) M):aA W (n+3) .check_sizes [.fz (intsD l)] Q M:=by
 refine aH ‹_› rfl rfl rfl rfl rfl fun en_ he_=>?_;intro T;delta Lf
 refine aX k ‹_› (fun es m M'=>∀R:Loc→Led→Prop,(∀(r:List Int),es=r.map .int→(∀c∈r,c∈l)→R [("sizes",.fz (intsD l))] M)→R m M') rfl (fun _=>rfl) ?_ ?_ ?_
 ·conv=>whnf
  exact fun R F=>F l rfl (fun _ h=>h)
 ·intro J1 Q1 d es m M' hj
  apply hj;clear hj
  intro r e hr
  revert hr
  apply map_cons e
  clear e
  ·intro c r hr
   delta Lf
   have:=h c (hr c (.head _))
   refine⟨xU k (by exact Ds this) (by exact HE this) ?_⟩
   delta Fz
   exact .sub [("sizes",.fz (intsD l))] rfl (.go (fun R F=>F r rfl (fun x hx=>hr x (.tail _ hx))))
 ·intro m M' hj
  apply hj;clear hj
  intro _ _ _
  refine .go ?_
  delta Gh
  exact .done q
structure FIn(f:Fnt):Prop where
 len:f.ks.length=f.rows.length
 few:f.ks.length≤100
 kb:∀c∈f.ks,0≤c∧c≤255
 row:∀r∈f.rows,0≤r.2∧r.2≤255∧(r.1=0∨r.1=1∧r.2<f.prog.length)
 wd:0≤f.wd∧f.wd≤100
 rows:∀r∈f.prog,h9 r
 stop:∀i r,f.prog[i]?=some r→i+1=f.prog.length→r.1=128
 full:f.prog≠[]→∀c∈([97,98,99,39,45,1,2]:List Int),c∈f.ks
 ker:f.prog≠[]→f.kerns = [3,-2]
 dk:n9 f.kerns
 lk:f.kerns.length≤10
 par:n9 f.params
 lp:f.params.length≤10
 lpr:f.prog.length≤100
noncomputable def Fnt.chars(f:Fnt):D:=.dct f.ks (f.rows.map (dH f.wd))
theorem pQ(k:aG W){f:Fnt}(hf:FIn f)(q:Q (.fz .none) M):aA W (n+4) .check_chars [.fz f.chars,.fz (.int f.prog.length)] Q M:=by
 refine aH ‹_› rfl rfl rfl rfl rfl fun en_ he_=>?_;intro T;delta Lf
 refine j7 k ‹_› (fun es m M'=>∀R:Loc→Led→Prop,(∀(ks:List Int),∀(rs:List (Int × Int)),es=sT ks (rs.map (dH f.wd))→(∀c∈ks,c∈f.ks)→(∀r∈rs,r∈f.rows)→R [("chars",.fz f.chars),("many",.fz (.int f.prog.length))] M)→R m M') rfl rfl rfl rfl rfl ?_ ?_ ?_
 ·exact fun R F=>F f.ks f.rows rfl (fun _ h=>h) (fun _ h=>h)
 ·intro J1 Q1 d es m M' hj
  apply hj;clear hj
  intro ks rs e hk hr
  rcases ks with _|⟨c,ks⟩
  ·exact bV e
  rcases rs with _|⟨r,rs⟩
  ·exact bV e
  cases e
  delta Lf
  have h1:=hf.kb c (hk c (.head _))
  have h2:=hf.row r (hr r (.head _))
  have hw:=hf.wd
  refine⟨aP k h1.1 h1.2 ?_⟩
  delta And
  refine⟨by simp,?_⟩
  delta Or
  refine .inr ⟨_,rfl,by simp,0,4,rfl,rfl,.inr (by simp),by simp,?_⟩
  delta Lf
  refine⟨fB k (l:=[f.wd,5,0,0]) (fun c hc=>?_) ?_⟩
  ·simp only [List.mem_cons,List.not_mem_nil,or_false]at hc;exact Eu hw hc
  delta And
  refine⟨rfl,_,rfl,?_⟩;delta And
  refine⟨rfl,_,rfl,?_⟩;delta Lf
  refine⟨aP k (by exact Du h2) (by exact Gf h2) ?_⟩
  delta cond
  refine bf (ef (by exact Fy h2)) ?_
  delta Lf
  refine⟨aP k h2.1 h2.2.1 ?_⟩
  delta cond
  refine aM (b:=r.1==1) (fun c1=>?_) fun c1=>?_
  ·delta cond
   refine bf (df (by have:=eq_of_beq c1;lia)) ?_
   delta cond
   exact .sub [("chars",.fz f.chars),("many",.fz (.int f.prog.length))] rfl (.go (fun R F=>F ks rs rfl (fun _ h=>hk _ (.tail _ h)) (fun _ h=>hr _ (.tail _ h))))
  ·delta cond
   exact .sub [("chars",.fz f.chars),("many",.fz (.int f.prog.length))] rfl (.go (fun R F=>F ks rs rfl (fun _ h=>hk _ (.tail _ h)) (fun _ h=>hr _ (.tail _ h))))
 ·intro m M' hj
  apply hj;clear hj
  intro _ _ _ _ _
  refine .go ?_
  delta Gh
  exact .done q
theorem P4{α:Type}{i:Int}{ks:List Int}{l:List α}(h:ks.length=l.length)(hi:i∈ks):∃a,dGet i ks l=some a∧a∈l:=by
 induction ks generalizing l with
 |nil=>cases hi
 |cons k ks ih =>
  cases l with
  |nil=>cases h
  |cons b l =>
   rw [eD]
   by_cases e:k=i
   ·exact⟨b,if_pos e,.head _⟩
   ·rw [if_neg e]
    rcases mCp hi with q|q
    ·exact absurd q.symm e
    ·obtain⟨a,h1,h2⟩:=ih (by exact Nat.succ.inj h) q
     exact⟨a,h1,.tail _ h2⟩
theorem FIn.at{f:Fnt}(hf:FIn f){c:Int}(hc:c∈f.ks):∃r,dGet c f.ks (f.rows.map (dH f.wd))=some (dH f.wd r)∧r∈f.rows:=by
 obtain⟨r,h1,h2⟩:=P4 hf.len hc
 exact⟨r,by rw [cP,h1];rfl,h2⟩
theorem nW(k:aG W){f:Fnt}(hf:FIn f)(q:Q (.fz .none) M):aA W (n+1) .check_larger [.fz f.chars] Q M:=by
 refine aH ‹_› rfl rfl rfl rfl rfl fun en_ he_=>?_;intro T;delta Lf
 refine N1 k ‹_› (fun es m M'=>∀R:Loc→Led→Prop,(∀(ks:List Int),es=ks.map .int→(∀c∈ks,c∈f.ks)→R [("chars",.fz f.chars)] M)→R m M') rfl (fun _=>rfl) ?_ ?_ ?_
 ·delta Exists
  exact⟨_,_,rfl,fun R F=>F f.ks rfl fun _ h=>h⟩
 ·intro J1 Q1 d es m M' hj
  apply hj;clear hj
  intro ks e hk
  revert hk
  apply map_cons e
  clear e
  intro c ks hk
  delta Lf
  refine bX [("chars",.fz f.chars),("far",.fz (.int c)),("turns",.fz (.int 0))] rfl ?_
  refine cJ k ‹_› (fun j m N=>∀R:Loc→Led→Prop,(R [("chars",.fz f.chars),("far",.fz (.int c)),("turns",.fz (.int 0))] M)→R m N) (k:=0) (fun R F=>F) ?_
  intro I1 Q0 Q1 j m N hj
  apply hj;clear hj
  delta cond
  refine aM (b:=decide (c∈f.ks)) (fun c1=>?_) fun c1=>absurd (hk c (.head _)) (of_decide_eq_false c1)
  delta SK
  obtain⟨r,h1,h2⟩:=hf.at (of_decide_eq_true c1)
  refine⟨_,h1,?_⟩
  refine⟨rfl,_,rfl,?_⟩;delta cond
  refine bf (ef (by have:=(hf.row r h2).2.2;exact ED this)) ?_
  delta cond
  exact .sub [("chars",.fz f.chars)] rfl (.go (.go (fun R F=>F ks rfl (fun _ h=>hk _ (.tail _ h)))))
 ·intro m M' hj
  apply hj;clear hj
  intro _ _ _
  refine .go ?_
  delta Gh
  exact .done q
theorem E3:∀c∈FOL,c∈([97,98,99,39,45,1,2]:List Int):=by decide
def vO(f:Fnt)(d:D):Prop:=d = .lst (f.prog.map bF)∨d = .tup []∧f.prog = []
theorem lQ(k:aG W){f:Fnt}(hf:FIn f){d:D}(hd:vO f d)(q:Q (.fz .none) M):aA W (n+2) .check_program [.fz d,.fz (intsD f.kerns),.fz f.chars,.fz (.int 256)] Q M:=by
 have hlp:=hf.lpr
 rcases hd with rfl|⟨rfl,hp0⟩
 rotate_left
 ·refine aH ‹_› rfl rfl rfl rfl rfl fun en_ he_=>?_;intro T;delta And
  refine⟨by exact Nat.zero_le _,?_⟩
  delta Lf
  refine wI k ‹_› (fun es m M'=>∀R:Led→Prop,(es = []→R M)→R M') rfl rfl rfl ?_ ?_ ?_
  ·delta Exists
   exact⟨[],rfl,fun R F=>F rfl⟩
  ·intro J1 Q1 d es m M' hj
   apply hj;clear hj
   intro e
   exact bV e
  ·intro m M' hj
   apply hj;clear hj
   intro _
   refine .go ?_
   delta Gh
   exact .done q
 refine aH ‹_› rfl rfl rfl rfl rfl fun en_ he_=>?_;intro T;delta And
 refine⟨by(refine ln1 ?_;exact ar_le ‹_› (by decide)),?_⟩
 delta Lf
 refine wI k ‹_› (fun es m M'=>∀R:Loc→Led→Prop,(∀(p:Nat),∀(rs:List (Int × Int × Int × Int)),es=wV p (rs.map bF)→f.prog.drop p=rs→R [("program",.fz (.lst (f.prog.map bF))),("kerns",.fz (intsD f.kerns)),("chars",.fz f.chars),("boundary",.fz (.int 256)),("many",.fz (.int (f.prog.map bF).length))] M)→R m M') rfl rfl rfl ?_ ?_ ?_
 ·delta Exists
  exact⟨_,rfl,fun R F=>F 0 f.prog rfl rfl⟩
 ·intro J1 Q1 d es m M' hj
  apply hj;clear hj
  intro p rs e hk
  rcases rs with _|⟨r,rs⟩
  ·exact bV e
  cases e
  have hr:f.prog[p]?=some r:=by
   have:=congrArg (·[0]?) hk
   simpa using this
  have hpl:p<f.prog.length:=(List.getElem?_eq_some_iff.mp hr).1
  have hrs:f.prog.drop (p+1)=rs:=by rw [←List.drop_drop,hk];rfl
  have hne:f.prog≠[]:=by intro e;rw [e]at hpl;simp at hpl
  have hrow:=hf.rows r (List.mem_of_getElem? hr)
  have hst:=hf.stop p r hr
  have hfull:=hf.full hne
  have hker:=hf.ker hne
  obtain⟨sk,fo,op,re⟩:=r
  obtain⟨o1,o2,o3⟩:=hrow
  simp only at o1 o2 o3 hst
  delta And
  refine⟨by simp,?_⟩
  delta Lf
  have ho:∀c∈([sk,fo,op,re]:List Int),0≤c∧c≤255:=by
   intro c hc
   have b2:=P3 fo o2
   have b3:0≤op∧op≤255:=by
    rcases o3 with h|h
    ·rw [h.1];decide
    ·exact⟨(oK op h.1).1,Int.le_trans (oK op h.1).2 (by decide)⟩
   have b4:0≤re∧re≤255:=by
    rcases o3 with⟨_,rfl|rfl⟩|⟨_,rfl|rfl⟩ <;> decide
   have b1:0≤sk∧sk≤255:=by rcases o1 with rfl|rfl <;> decide
   simp only [List.mem_cons,List.not_mem_nil,or_false]at hc
   rcases hc with rfl|rfl|rfl|rfl
   ·exact b1
   ·exact b2
   ·exact b3
   ·exact b4
  refine cD (fun m N=>∀R:Loc→Led→Prop,(R [("program",.fz (.lst (f.prog.map bF))),("kerns",.fz (intsD f.kerns)),("chars",.fz f.chars),("boundary",.fz (.int 256)),("many",.fz (.int (f.prog.map bF).length)),("place",.fz (.int p)),("row",.fz (.tup [.int sk,.int fo,.int op,.int re]))] M)→R m N) ?_ ?_
  ·intro P1
   refine aX k ‹_› (fun es m N=>∀R:Loc→Led→Prop,(∀(r:List Int),es=r.map .int→(∀c∈r,0≤c∧c≤255)→R [("program",.fz (.lst (f.prog.map bF))),("kerns",.fz (intsD f.kerns)),("chars",.fz f.chars),("boundary",.fz (.int 256)),("many",.fz (.int (f.prog.map bF).length)),("place",.fz (.int p)),("row",.fz (.tup [.int sk,.int fo,.int op,.int re]))] M)→R m N) rfl (fun _=>rfl) ?_ ?_ ?_
   ·conv=>whnf
    exact fun R F=>F [sk,fo,op,re] rfl ho
   ·intro J1 Q1 d es m N hj
    apply hj;clear hj
    intro r e hr
    revert hr
    apply map_cons e
    clear e
    intro c r hr
    delta Lf
    have:=hr c (.head _)
    refine⟨aP k this.1 this.2 ?_⟩
    delta Fz
    exact .sub [("program",.fz (.lst (f.prog.map bF))),("kerns",.fz (intsD f.kerns)),("chars",.fz f.chars),("boundary",.fz (.int 256)),("many",.fz (.int (f.prog.map bF).length)),("place",.fz (.int p)),("row",.fz (.tup [.int sk,.int fo,.int op,.int re]))] rfl (.go (fun R F=>F r rfl (fun c h=>hr c (.tail _ h))))
   ·intro m N hj
    apply hj;clear hj
    intro _ _ _
    exact .go (fun R F=>F)
  intro P1 m N hj
  apply hj;clear hj
  refine .go ?_
  delta cond
  have hfo:fo∈f.ks:=hfull fo (E3 fo o2)
  refine bf (df (by exact FT o1)) ?_
  delta cond
  refine bt (nt (ef (Int.ne_of_lt (BJ fo o2)))) ?_
  delta cond
  refine bf (nf (dt hfo)) ?_
  (conv=>whnf)
  have next:∀(P:Prop),(sk=0∧p+1<f.prog.length∨sk=128→P)→P:=fun P h=>h (by
   rcases o1 with rfl|rfl
   ·rcases Nat.lt_or_ge (p+1) f.prog.length with q|q
    ·exact .inl ⟨rfl,q⟩
    ·have:=hst (by exact EQ hpl q);exact Fu this
   ·exact .inr rfl)
  rcases o3 with⟨rfl,o3⟩|⟨o3,o4⟩
  ·delta And
   refine⟨gG (by decide),?_⟩
   delta And
   refine⟨by simp;have:=hf.lk;exact ar_le ‹_› (by decide),?_⟩
   delta cond
   refine bf (df (by simp [hker];exact Ep o3)) ?_
   delta cond
   refine next _ fun hn=>?_
   refine aM (b:=decide (sk<128)) (fun c1=>?_) fun c1=>?_
   ·delta cond
    refine bf (df (by have:=of_decide_eq_true c1;(simp;exact Y1 hpl hn c1))) ?_
    delta cond
    exact .sub [("program",.fz (.lst (f.prog.map bF))),("kerns",.fz (intsD f.kerns)),("chars",.fz f.chars),("boundary",.fz (.int 256)),("many",.fz (.int (f.prog.map bF).length))] rfl (.go (fun R F=>F (p+1) rs rfl hrs))
   ·delta cond
    exact .sub [("program",.fz (.lst (f.prog.map bF))),("kerns",.fz (intsD f.kerns)),("chars",.fz f.chars),("boundary",.fz (.int 256)),("many",.fz (.int (f.prog.map bF).length))] rfl (.go (fun R F=>F (p+1) rs rfl hrs))
  ·have hop:op<128:=Int.lt_of_le_of_lt (oK op o3).2 (by decide)
   have hre:re∈f.ks:=hfull re (by rcases o4 with rfl|rfl <;> decide)
   refine bt (dt hop) ?_
   delta cond
   refine bf (nf (dt hre)) ?_
   (conv=>whnf)
   refine bf (df (p:=128≤op) (by exact Gy hop)) ?_
   delta cond
   refine next _ fun hn=>?_
   refine aM (b:=decide (sk<128)) (fun c1=>?_) fun c1=>?_
   ·delta cond
    refine bf (df (by have:=of_decide_eq_true c1;(simp;exact Y1 hpl hn c1))) ?_
    delta cond
    exact .sub [("program",.fz (.lst (f.prog.map bF))),("kerns",.fz (intsD f.kerns)),("chars",.fz f.chars),("boundary",.fz (.int 256)),("many",.fz (.int (f.prog.map bF).length))] rfl (.go (fun R F=>F (p+1) rs rfl hrs))
   ·delta cond
    exact .sub [("program",.fz (.lst (f.prog.map bF))),("kerns",.fz (intsD f.kerns)),("chars",.fz f.chars),("boundary",.fz (.int 256)),("many",.fz (.int (f.prog.map bF).length))] rfl (.go (fun R F=>F (p+1) rs rfl hrs))
 ·intro m M' hj
  apply hj;clear hj
  intro _ _ _ _
  refine .go ?_
  delta Gh
  exact .done q
end
section
variable{W:Wd}{n:Nat}{M:Led}{Q:aJ}
theorem tS{α:Type}{l:List α}{x:α}(h:l[l.length-1]?=some x):cQ l (-1)=some x:=by
 have hl:0<l.length:=by
  cases l with
  |nil=>exact aF h
  |cons=>simp
 unfold cQ
 rw [if_neg (by exact Y7),if_pos (by exact Fi hl),show(-1+(l.length:Int)).toNat=l.length-1 by exact AH]
 exact h
theorem rT(k:aG W){f:Fnt}(hf:FIn f){d:D}(hd:vO f d)(q:Q (.fz (.int (-1))) M):aA W (n+1) .left_start [.fz d] Q M:=by
 have hlp:=hf.lpr
 rcases hd with rfl|⟨rfl,hp0⟩
 rotate_left
 ·refine aH ‹_› rfl rfl rfl rfl rfl fun en_ he_=>?_;intro T;delta And
  refine⟨by exact Nat.zero_le _,?_⟩
  delta Gh
  exact .done q
 refine aH ‹_› rfl rfl rfl rfl rfl fun en_ he_=>?_;intro T;delta And
 refine⟨by(refine ln1 ?_;exact ar_le ‹_› (by decide)),?_⟩
 delta cond
 refine aM (b:=((f.prog.map bF).length:Int)==0) (fun c1=>?_) fun c1=>?_
 ·delta Gh
  exact .done q
 delta And
 have hl:0<f.prog.length:=by
  rcases Nat.eq_zero_or_pos f.prog.length with e|e
  ·simp [e]at c1
  ·exact e
 obtain⟨r,hr⟩:∃r,f.prog[f.prog.length-1]?=some r:=⟨_,List.getElem?_eq_getElem (by exact GG hl)⟩
 have hs:=hf.stop _ r hr (by exact Em hl)
 obtain⟨sk,fo,op,re⟩:=r
 simp only at hs
 subst hs
 refine⟨by(refine ln1 ?_;exact ar_le ‹_› (by decide)),bF (128,fo,op,re),tS (by simp [hr]),?_⟩
 delta Gh
 exact .done q
theorem vO.one{f:Fnt}{d:D}(hd:vO f d){P:List D→Prop}{R:D→Prop}(h:P (f.prog.map bF)):D.deep.match_1 (fun _=>Prop) d P P R:=by
 rcases hd with rfl|⟨rfl,e⟩
 ·exact h
 ·rw [e]at h;exact h
theorem vO.tup{f:Fnt}(hf:FIn f){d:D}(hd:vO f d){P:List D→Prop}{R:D→Prop}(h:P (f.prog.map bF)):D.deep.match_1 (fun _=>Prop) d P (fun l=>l.length≤1000000∧P l) R:=by
 have:=hf.lpr
 rcases hd with rfl|⟨rfl,e⟩
 ·exact⟨by(refine ln1 ?_;exact ar_le ‹_› (by decide)),h⟩
 ·rw [e]at h;exact h
theorem CS{a dd pl ch:Addr}(hap:a≠pl)(hac:a≠ch){c:Cn}{x:Cell}{d:D}(hx:x.frz=some d){l:List V}{xs l':List D}(hl:(l.map (V.sub ch d)).map (V.sub pl (.lst xs))=l'.map .fz)(q:Q (.fz (.inst c l')) M) :
  Gh Q (.loc a) ((ch,x)::(pl,.lst (xs.map .fz))::(a,.inst c dd (fields c) l)::M):=by
 refine .freeze ch 2 look_self hx ?_
 rw [aB]
 refine .freeze pl 1 (c:=.lst (xs.map .fz)) (d:=.lst xs) ?_ dF ?_
 ·have:(xs.map V.fz).map (V.sub ch d)=xs.map .fz:=by simp [V.sub]
  show List.lookup pl ((pl,Cell.lst ((xs.map V.fz).map (V.sub ch d)))::_)=_
  rw [this];exact look_self
 show Gh Q _ (eB pl _ 1 (Mine.drop pl ((pl,_)::(a,.inst c dd (fields c) (l.map (V.sub ch d)))::M)))
 rw [aB]
 show Gh Q _ ((a,.inst c dd (fields c) ((l.map (V.sub ch d)).map (V.sub pl (.lst xs))))::M)
 rw [hl,V.sub,if_neg hac,V.sub,if_neg hap]
 exact sZ q
set_option maxHeartbeats 2000000 in
theorem tC (k:aG W) {f:Fnt}(hf:FIn f) {d:D}(hd:vO f d) (h1:1≤f.num∧f.num≤255) (hn:f.name = "fa"∨f.name = "fb") (q:Q (.fz f.toD) M) :
  bN W (n+6) .Font [.fz (.int f.num),.fz (.str f.name),.fz (.int 655360),.fz (intsD f.params),.fz f.chars,.fz d,.fz (intsD f.kerns),.fz (.int 256)] Q M:=by
 refine lD k fun a dd ha hdd hda=>?_
 refine aH ‹_› rfl rfl rfl rfl rfl fun en_ he_=>?_;intro T;delta Lf
 refine⟨aP k h1.1 h1.2 ?_⟩
 delta Exists
 have hnd:(D.str f.name).isData=true:=by rcases hn with e|e <;>(rw [e];decide +kernel)
 refine⟨_,_,rfl,rfl,hnd,by decide +kernel,by first|rfl|exact Nat.zero_le _|decide,by first|rfl|exact Nat.zero_le _|decide,?_⟩
 delta cond
 refine bf (by rcases hn with e|e <;>(rw [e];decide +kernel)) ?_
 delta Lf
 refine⟨aP k (by decide) (by decide) ?_⟩
 delta Lf
 refine⟨aP k (by decide) (by decide) ?_⟩
 delta And
 have hlp:=hf.lp
 refine⟨by(refine ln1 ?_;exact ar_le ‹_› (by decide)),?_⟩
 delta cond
 refine bf (df (by(simp;exact FZ hlp))) ?_
 delta Lf
 refine⟨fB k hf.par ?_⟩
 delta Lf
 refine⟨fB k hf.dk ?_⟩
 conv=>whnf
 refine hd.one ⟨by have:=hf.lpr;(refine ln1 ?_;exact ar_le ‹_› (by decide)),?_⟩
 delta Lf
 rw [List.length_map]
 refine⟨pQ k hf ?_⟩
 delta Lf
 refine⟨nW k hf ?_⟩
 delta Lf
 refine⟨lQ k hf hd ?_⟩
 delta atC
 refine⟨_,look_self,?_⟩;delta putTo
 refine⟨(a,.inst .Font dd ((fields .Font).take 1) [.fz (.int f.num)])::M,aC,?_⟩
 delta atC
 refine⟨_,look_self,?_⟩;delta putTo
 refine⟨(a,.inst .Font dd ((fields .Font).take 2) [.fz (.int f.num),.fz (.str f.name)])::M,aC,?_⟩
 delta atC
 refine⟨_,look_self,?_⟩;delta putTo
 refine⟨(a,.inst .Font dd ((fields .Font).take 3) [.fz (.int f.num),.fz (.str f.name),.fz (.int 655360)])::M,aC,?_⟩
 delta atC
 refine⟨_,look_self,?_⟩;delta putTo
 refine⟨(a,.inst .Font dd ((fields .Font).take 4) [.fz (.int f.num),.fz (.str f.name),.fz (.int 655360),.fz (.int 655360)])::M,aC,?_⟩
 delta atC
 refine⟨_,look_self,?_⟩;delta putTo
 refine⟨(a,.inst .Font dd ((fields .Font).take 5) [.fz (.int f.num),.fz (.str f.name),.fz (.int 655360),.fz (.int 655360),.fz (.int 0)])::M,aC,?_⟩
 delta Exists
 refine⟨true,(f.params.map .int).map .fz,rfl,by(refine ln1 ?_;refine ln1 ?_;exact ar_le ‹_› (by decide)),fun pl hpl=>?_⟩
 delta atC
 have hap:a≠pl:=fun e=>hpl (by rw [←e];exact .head _)
 refine⟨_,bH hap,?_⟩;delta putTo
 refine⟨(pl,.lst ((f.params.map D.int).map .fz))::(a,.inst .Font dd ((fields .Font).take 6) [.fz (.int f.num),.fz (.str f.name),.fz (.int 655360),.fz (.int 655360),.fz (.int 0),.loc pl])::M,gP hap,?_⟩
 delta Or
 refine .inl ⟨f.ks,(f.rows.map (dH f.wd)).map .fz,rfl,by have:=hf.few;exact ar_le ‹_› (by decide),fun ch hch=>?_⟩
 delta atC
 have hac:a≠ch:=fun e=>hch (by rw [←e];exact .tail _ (.head _))
 have hpc:pl≠ch:=fun e=>hch (by rw [←e];exact .head _)
 refine⟨_,cR hac hap,?_⟩;delta putTo
 refine⟨(ch,.dct f.ks ((f.rows.map (dH f.wd)).map .fz))::(pl,.lst ((f.params.map D.int).map .fz))::(a,.inst .Font dd ((fields .Font).take 7) [.fz (.int f.num),.fz (.str f.name),.fz (.int 655360),.fz (.int 655360),.fz (.int 0),.loc pl,.loc ch])::M,hG hac hap,?_⟩
 conv=>whnf
 refine hd.tup hf ?_
 delta atC
 refine⟨_,cR hac hap,?_⟩;delta putTo
 refine⟨(ch,.dct f.ks ((f.rows.map (dH f.wd)).map .fz))::(pl,.lst ((f.params.map D.int).map .fz))::(a,.inst .Font dd ((fields .Font).take 8) [.fz (.int f.num),.fz (.str f.name),.fz (.int 655360),.fz (.int 655360),.fz (.int 0),.loc pl,.loc ch,.fz (.tup (f.prog.map bF))])::M,hG hac hap,?_⟩
 delta atC
 refine⟨_,cR hac hap,?_⟩;delta putTo
 refine⟨(ch,.dct f.ks ((f.rows.map (dH f.wd)).map .fz))::(pl,.lst ((f.params.map D.int).map .fz))::(a,.inst .Font dd ((fields .Font).take 9) [.fz (.int f.num),.fz (.str f.name),.fz (.int 655360),.fz (.int 655360),.fz (.int 0),.loc pl,.loc ch,.fz (.tup (f.prog.map bF)),.fz (.tup (f.kerns.map .int))])::M,hG hac hap,?_⟩
 delta atC
 refine⟨_,cR hac hap,?_⟩;delta putTo
 refine⟨(ch,.dct f.ks ((f.rows.map (dH f.wd)).map .fz))::(pl,.lst ((f.params.map D.int).map .fz))::(a,.inst .Font dd ((fields .Font).take 10) [.fz (.int f.num),.fz (.str f.name),.fz (.int 655360),.fz (.int 655360),.fz (.int 0),.loc pl,.loc ch,.fz (.tup (f.prog.map bF)),.fz (.tup (f.kerns.map .int)),.fz (.int 256)])::M,hG hac hap,?_⟩
 delta Lf
 refine⟨rT k hf hd ?_⟩
 delta atC
 refine⟨_,cR hac hap,?_⟩;delta putTo
 refine⟨(ch,.dct f.ks ((f.rows.map (dH f.wd)).map .fz))::(pl,.lst ((f.params.map D.int).map .fz))::(a,.inst .Font dd ((fields .Font).take 11) [.fz (.int f.num),.fz (.str f.name),.fz (.int 655360),.fz (.int 655360),.fz (.int 0),.loc pl,.loc ch,.fz (.tup (f.prog.map bF)),.fz (.tup (f.kerns.map .int)),.fz (.int 256),.fz (.int (-1))])::M,hG hac hap,?_⟩
 delta atC
 refine⟨_,cR hac hap,?_⟩;delta putTo
 refine⟨(ch,.dct f.ks ((f.rows.map (dH f.wd)).map .fz))::(pl,.lst ((f.params.map D.int).map .fz))::(a,.inst .Font dd ((fields .Font).take 12) [.fz (.int f.num),.fz (.str f.name),.fz (.int 655360),.fz (.int 655360),.fz (.int 0),.loc pl,.loc ch,.fz (.tup (f.prog.map bF)),.fz (.tup (f.kerns.map .int)),.fz (.int 256),.fz (.int (-1)),.fz (.int 45)])::M,hG hac hap,?_⟩
 delta atC
 refine⟨_,cR hac hap,?_⟩;delta putTo
 refine⟨(ch,.dct f.ks ((f.rows.map (dH f.wd)).map .fz))::(pl,.lst ((f.params.map D.int).map .fz))::(a,.inst .Font dd ((fields .Font).take 13) [.fz (.int f.num),.fz (.str f.name),.fz (.int 655360),.fz (.int 655360),.fz (.int 0),.loc pl,.loc ch,.fz (.tup (f.prog.map bF)),.fz (.tup (f.kerns.map .int)),.fz (.int 256),.fz (.int (-1)),.fz (.int 45),.fz (.int (-1))])::M,hG hac hap,?_⟩
 delta Gh
 refine .done ⟨rfl,?_⟩
 show Gh Q (.loc a) ((ch,.dct f.ks ((f.rows.map (dH f.wd)).map .fz))::(pl,.lst ((f.params.map D.int).map .fz))::(a,.inst .Font dd (fields .Font)
  [.fz (.int f.num),.fz (.str f.name),.fz (.int 655360),.fz (.int 655360),.fz (.int 0),.loc pl,.loc ch,.fz (.tup (f.prog.map bF)),.fz (.tup (f.kerns.map .int)),.fz (.int 256),.fz (.int (-1)),.fz (.int 45),.fz (.int (-1))])::M)
 exact CS hap hac (d:=f.chars) (by simp only [Cell.frz,bM,Option.map_some];rfl) (l':=[.int f.num,.str f.name,.int 655360,.int 655360,.int 0,.lst (f.params.map .int),f.chars,.tup (f.prog.map bF),.tup (f.kerns.map .int),.int 256,.int (-1),.int 45,.int (-1)]) (by simp [V.sub,hpc]) q
end
section
variable{W:Wd}{n:Nat}{M:Led}{Q:aJ}
theorem sS (k:aG W) {i:Int}{nm:Str}(h:i=1∧nm = "fa"∨i=2∧nm = "fb") (q:Q (.fz (.str nm)) M):aA W (n+1) .font_name [.fz (.int i)] Q M:=by
 have e:∃c:Nat,((i-1)%25:Int)=c∧i-1<25∧c<25∧0≤(i-1)%25∧(i-1)%25<((Str.ofString "abcdefghjklmnopqrstuvwxyz").length:Int):=by
  rcases h with⟨rfl,_⟩|⟨rfl,_⟩
  ·exact⟨0,by decide +kernel⟩
  ·exact⟨1,by decide +kernel⟩
 obtain⟨c,e1,e2,e3,e4,e5⟩:=e
 refine aH ‹_› rfl rfl rfl rfl rfl fun en_ he_=>?_;intro T;delta And
 refine⟨e4,e5,by decide +kernel,?_⟩
 delta Lf
 refine cD (fun m N=>∀R:Loc→Led→Prop,(R [("number",.fz (.int i)),("left",.fz (.int (i-1))),("found",.fz (.str (Txt.item (Str.ofString "abcdefghjklmnopqrstuvwxyz") ((i-1)%25))))] M)→R m N) ?_ ?_
 ·intro P1
  refine cJ k ‹_› (fun j m N=>∀R:Loc→Led→Prop,(R [("number",.fz (.int i)),("left",.fz (.int (i-1))),("found",.fz (.str (Txt.item (Str.ofString "abcdefghjklmnopqrstuvwxyz") ((i-1)%25))))] M)→R m N) (k:=0) (fun R F=>F) ?_
  ·intro I1 Q0 Q1 j m N hj
   apply hj;clear hj
   delta cond
   refine bf (df (by exact Dr e2)) ?_
   delta Fz
   exact .go (fun R F=>F)
 intro P1 m N hj
 apply hj;clear hj
 refine .go ?_
 delta And
 have hs:(Str.ofString "f").length+(Txt.item (Str.ofString "abcdefghjklmnopqrstuvwxyz") ((i-1)%25)).length≤1000∧Str.ofString "f"++Txt.item (Str.ofString "abcdefghjklmnopqrstuvwxyz") ((i-1)%25)=nm:=by
  rcases h with⟨rfl,rfl⟩|⟨rfl,rfl⟩ <;> decide +kernel
 refine⟨hs.1,?_⟩
 delta Gh
 rw [hs.2]
 exact .done q
structure RI where
 c:Int
 r:Int × Int
 full:Bool
noncomputable def RI.toD(wd:Int)(x:RI):D:=if x.full then .tup [.int x.c,.int wd,.int 5,.int 0,.int 0,.int x.r.1,.int x.r.2]else .tup [.int x.c,.int wd,.int 5,.int 0]
theorem qZ{α:Type}{i:Int}{a:α}:∀{ks:List Int}{l:List α},i∉ks→ks.length=l.length→dPut i a ks l=(ks++[i],l++[a])
 |[],[],_,_=>rfl
 |k::ks,b::l,h,e=>by
  rw [eG,if_neg (fun e=>h (by rw [e];exact .head _)),qZ (fun e=>h (.tail _ e)) (Nat.succ.inj e)]
  rfl
theorem gX (k:aG W) {f:Fnt}(hf:FIn f) {d:D}(hd:vO f d) (hn:f.num=1∧f.name = "fa"∨f.num=2∧f.name = "fb") {ri:List RI}(h1:ri.map (·.c)=f.ks) (h2:ri.map (·.r)=f.rows) (h3:f.ks.Nodup) (h4:∀x∈ri,x.full=false→x.r=(0,0)) {vs:List V}(hv:vs = [.fz (.int f.num),.fz (.lst (ri.map (RI.toD f.wd))),.fz (intsD f.params),.fz d,.fz (intsD f.kerns)]∨vs = [.fz (.int f.num),.fz (.lst (ri.map (RI.toD f.wd)))]∧f.params = [0,196608,98304,65536,262144,655360,65536]∧d = .tup []∧f.kerns = []) (q:Q (.fz f.toD) M) :
  aA W (n+7) .font_of_rows vs Q M:=by
 have hn1:1≤f.num∧f.num≤255:=by lia
 have e:uL (bD .font_of_rows).args (dfltOf .font_of_rows) vs=([("number",.fz (.int f.num)),("rows",.fz (.lst (ri.map (RI.toD f.wd)))),("params",.fz (intsD f.params)),("program",.fz d),("kerns",.fz (intsD f.kerns)),("boundary",.fz (.int 256))]:Loc):=by
  rcases hv with rfl|⟨rfl,e1,rfl,e2⟩
  ·rfl
  ·rw [e1,e2];rfl
 refine aH (by assumption) rfl rfl rfl rfl (by rcases hv with rfl|⟨rfl,_⟩ <;> rfl) fun env he=>?_
 intro T
 rw [e]
 clear e hv
 have hl:ri.length=f.ks.length:=by rw [←h1,List.length_map]
 have hfew:=hf.few
 delta Lf
 refine⟨aP k hn1.1 hn1.2 ?_⟩
 conv=>whnf
 intro ch hch
 delta Lf
 refine cD (fun m N=>∀R:Loc→Led→Prop,(R [("number",.fz (.int f.num)),("params",.fz (intsD f.params)),("program",.fz d),("kerns",.fz (intsD f.kerns)),("boundary",.fz (.int 256)),("chars",.loc ch)] ((ch,.dct f.ks ((f.rows.map (dH f.wd)).map .fz))::M))→R m N) ?_ ?_
 rotate_left
 ·intro P1 m N hj
  apply hj;clear hj
  refine .go ?_
  delta Lf
  refine⟨sS k hn ?_⟩
  delta Lf
  refine⟨?_⟩
  refine Op.freeze ch 0 look_self (d:=f.chars) (by simp only [Cell.frz,bM,Option.map_some];rfl) ?_
  rw [aB]
  show bN W (n+6) .Font [.fz (.int f.num),.fz (.str f.name),.fz (.int 655360),.fz (intsD f.params),V.sub ch f.chars (.loc ch),.fz d,.fz (intsD f.kerns),.fz (.int 256)] _ M
  rw [V.sub,if_pos rfl]
  refine tC k hf hd hn1 (hn.elim (fun h=>.inl h.2) fun h=>.inr h.2) ?_
  delta Gh
  exact .done q
 intro P1
 refine bX [("number",.fz (.int f.num)),("rows",.fz (.lst (ri.map (RI.toD f.wd)))),("params",.fz (intsD f.params)),("program",.fz d),("kerns",.fz (intsD f.kerns)),("boundary",.fz (.int 256)),("chars",.loc ch)] rfl ?_
 refine aX k ‹_› (fun es m N=>∀R:Loc→Led→Prop,(∀(l1:List RI),∀(l2:List RI),es=l2.map (RI.toD f.wd)→l1++l2=ri→R [("number",.fz (.int f.num)),("rows",.fz (.lst (ri.map (RI.toD f.wd)))),("params",.fz (intsD f.params)),("program",.fz d),("kerns",.fz (intsD f.kerns)),("boundary",.fz (.int 256)),("chars",.loc ch)] ((ch,.dct (l1.map (·.c)) (((l1.map (·.r)).map (dH f.wd)).map .fz))::M))→R m N) rfl (fun _=>rfl) ?_ ?_ ?_
 ·conv=>whnf
  exact fun R F=>F [] ri rfl rfl
 ·intro J1 Q1 dd es m N hj
  apply hj;clear hj
  intro l1 l2 e he
  revert he
  apply map_cons e
  clear e
  intro x l2 he
  obtain⟨c,r,fu⟩:=x
  have hcn:c∉l1.map (·.c):=by
   rw [←h1,←he,List.map_append,List.nodup_append]at h3
   exact fun h=>h3.2.2 c h c (.head _) rfl
  have hln:l1.length≤100:=by have:=congrArg List.length he;simp at this;exact GF hl hfew this
  have hr4:=h4 ⟨c,r,fu⟩ (by rw [←he];simp)
  cases fu with
  |true =>
   delta And
   refine⟨by simp,?_⟩
   delta And
   refine⟨rfl,_,rfl,?_⟩;delta Or
   refine .inl ⟨ch,_,_,rfl,look_self,?_⟩
   delta cond
   refine bf (df hcn) ?_
   delta And
   refine⟨by simp,?_⟩
   delta Or
   refine .inr ⟨_,rfl,by simp,1,6,rfl,rfl,.inl (by decide),by simp,?_⟩
   delta And
   refine⟨rfl,_,rfl,?_⟩;delta atC
   refine⟨_,look_self,by(refine ln1 ?_;exact ar_le ‹_› (by decide)),(ch,.dct ((l1++[(⟨c,r,true⟩:RI)]).map (·.c)) ((((l1++[(⟨c,r,true⟩:RI)]).map (·.r)).map (dH f.wd)).map .fz))::M,aC.trans ?_,?_⟩
   ·rw [qZ hcn (by simp)]
    simp [dH]
   delta Fz
   exact .sub [("number",.fz (.int f.num)),("rows",.fz (.lst (ri.map (RI.toD f.wd)))),("params",.fz (intsD f.params)),("program",.fz d),("kerns",.fz (intsD f.kerns)),("boundary",.fz (.int 256)),("chars",.loc ch)] rfl (.go (fun R F=>F (l1++[⟨c,r,true⟩]) l2 rfl (by rw [←he];simp)))
  |false =>
   delta And
   refine⟨by simp,?_⟩
   delta And
   refine⟨rfl,_,rfl,?_⟩;delta Or
   refine .inl ⟨ch,_,_,rfl,look_self,?_⟩
   delta cond
   refine bf (df hcn) ?_
   delta And
   have hr4:r=(0,0):=hr4 rfl
   subst hr4
   refine⟨by simp,?_⟩
   delta Or
   refine .inr ⟨_,rfl,by simp,1,6,rfl,rfl,.inl (by decide),by simp,?_⟩
   delta And
   refine⟨rfl,_,rfl,?_⟩;delta atC
   refine⟨_,look_self,by(refine ln1 ?_;exact ar_le ‹_› (by decide)),(ch,.dct ((l1++[(⟨c,(0,0),false⟩:RI)]).map (·.c)) ((((l1++[(⟨c,(0,0),false⟩:RI)]).map (·.r)).map (dH f.wd)).map .fz))::M,aC.trans ?_,?_⟩
   ·rw [qZ hcn (by simp)]
    simp [dH]
   delta Fz
   exact .sub [("number",.fz (.int f.num)),("rows",.fz (.lst (ri.map (RI.toD f.wd)))),("params",.fz (intsD f.params)),("program",.fz d),("kerns",.fz (intsD f.kerns)),("boundary",.fz (.int 256)),("chars",.loc ch)] rfl (.go (fun R F=>F (l1++[⟨c,(0,0),false⟩]) l2 rfl (by rw [←he];simp)))
 ·intro m N hj
  apply hj;clear hj
  intro l1 l2 e he
  rcases l2 with _|⟨x,l2⟩
  ·rw [List.append_nil]at he
   rw [he,h1,h2]
   exact .sub [("number",.fz (.int f.num)),("params",.fz (intsD f.params)),("program",.fz d),("kerns",.fz (intsD f.kerns)),("boundary",.fz (.int 256)),("chars",.loc ch)] rfl (.go (fun R F=>F))
  ·cases e
end
section
variable{W:Wd}{n:Nat}{M:Led}{Q:aJ}
theorem jP(k:aG W){d:D}(q:Q (.fz (.inst .LowerCodes [d])) M):bN W (n+2) .LowerCodes [.fz d] Q M:=by
 refine eI k (fun a d=>?_) q
 refine aH ‹_› rfl rfl rfl rfl rfl fun en_ he_=>?_;intro T;delta atC
 refine⟨_,look_self,?_⟩;delta putTo;refine⟨_,aC,?_⟩;delta Gh
 exact .done ⟨rfl,rfl⟩
noncomputable def b01(b:Bool):D:=.int (if b then 1 else 0)
noncomputable def Sh.desc:Sh→D
 |.char f c=>.tup [.int 0,.int f.num,.int c]
 |.lig f c ps l r=>.tup [.int 1,.int f.num,.int c,intsD ps,b01 l,b01 r]
 |.kern w s=>.tup [.int 5,.int w,.int s]
noncomputable def shT(l:List Sh):D:=.tup (l.map Sh.desc)
noncomputable def Nd.desc:Nd→D
 |.sh s=>s.desc
 |.skip w s t=>.tup [.int 6,.tup [.int w,.int s,.int 0,.int t,.int 0],.int 0,.tup []]
 |.pen v=>.tup [.int 7,.int v]
 |.disc a b c=>.tup [.int 8,shT a,shT b,shT c]
 |.math on w=>.tup [.int 12,b01 on,.int w]
noncomputable def ndT(l:List Nd):D:=.tup (l.map Nd.desc)
theorem eY{α β:Type}(g:α→β)(l:List α):(l.map fun s=>[g s]).flatten=l.map g:=by induction l <;> simp_all
section
variable{env:Env}{κ:Ks}{m:Loc}
theorem oY{cenv:Env}{mc:Loc}{elt:Expr}{ifs:List Expr}{J J':List D→Led→Prop}{acc:List D}{b:Addr}{N:Led}(h:rH W n cenv mc elt ifs J acc b N)(k:∀acc N,J acc N→J' acc N):rH W n cenv mc elt ifs J' acc b N :=
 lK h fun ok M1 q=>by
  cases ok with
  |false=>obtain⟨N',h1,h2,h3⟩:=q;exact⟨N',h1,h2,k _ _ h3⟩
  |true=>exact Tr.mono q fun v M2 ⟨e,N',h1,h2,h3,h4⟩=>⟨e,N',h1,h2,h3,k _ _ h4⟩
theorem i7{T:Tk}(a:aG T.W)(he:T.env.scope.names=T.κ){α:Type}(f:α→D)(g:α→List D)(l:List α){elt iter:Expr}{x:Str}{px:Pos}{ifs:List Expr}{scope:Scope}{pos:Pos}{Q:aJ}(hc:bK T.κ scope x=true)(hs:∀x,foldedSetIterable iter T.env x=pure x)
  (h:mE aU T m iter (fun v M1=>gN M1 v fun ds M2=>ds=l.map f∧ds.length≤1000000∧M2=M) M)
  (turn:∀C b y acc,b∉foot M→y∈l→rH T.W T.n (cenvOf scope T.env C) (bE x (.fz (f y)) (dR scope.names m)) elt ifs (fun r N=>r=acc++g y∧N=M) acc b M)
  (done:∀b,b∉foot M→Gh Q (.loc b) ((b,.lst ((l.map g).flatten.map .fz))::M)):Lf (TE T.W T.n T.env m (.ListComp elt [⟨.Name x px,iter,ifs,0⟩] scope pos) (Gh Q) M) :=
 let J:List D→List D→Led→Prop:=fun ds acc N=>∃l1 l2,ds=l2.map f∧acc=(l1.map g).flatten∧l1++l2=l∧N=M
 ⟨tR a.wk (fun b ds acc M=>∃N as,acc=as.map .fz∧M=(b,.lst (as.map .fz))::N∧b∉foot N∧J ds as N∧as.length+ds.length≤1000000) (by rw [he];exact hc) hs (Tr.mono (lL a he h) fun v M1 q=>by
  obtain⟨ds,M2,e,hd,hl,hj⟩:=dW q
  exact⟨ds,M2,e,fun b hb=>⟨M2,[],rfl,rfl,hb,⟨[],l,hd,rfl,rfl,hj⟩,by simpa using hl⟩⟩) (fun C b d ds acc M' hj=>jN J (fun d ds acc N hb hp_=>by
   obtain⟨l1,l2,e1,e2,e3,e4⟩:=hp_
   subst e2 e4
   rcases l2 with _|⟨y,l2⟩
   ·exact bV e1
   cases e1
   exact oY (turn C b y _ hb (by rw [←e3];simp)) fun r N hp_=>⟨l1++[y],l2,rfl,by rw [hp_.1];simp,by rw [←e3];simp,hp_.2⟩) hj) fun b acc M' hp_=>by
   obtain⟨N,as,e5,e6,hb,⟨l1,l2,e1,e2,e3,e4⟩,_⟩:=hp_
   subst e5 e6 e2 e4
   have:l2 = []:=map_nil e1
   subst this
   rw [List.append_nil]at e3
   subst e3
   exact done b hb⟩
theorem rF{T:Tk}(a:aG T.W)(he:T.env.scope.names=T.κ){α:Type}(f:α→D)(g:α→List D)(l:List α){elt iter:Expr}{x:Str}{px:Pos}{ifs:List Expr}{scope:Scope}{pos:Pos}{Q:aJ}(hc:bK T.κ scope x=true)(hs:∀x,foldedSetIterable iter T.env x=pure x)
  (h:mE aU T m iter (fun v M1=>gN M1 v fun ds M2=>ds=l.map f∧ds.length≤1000000∧M2=M) M)
  (turn:∀C b y acc,b∉foot M→y∈l→let mc:=bE x (.fz (f y)) (dR scope.names m);zT (cT T scope C) mc elt ifs (fun r=>r=acc++g y) acc ((b,.lst (acc.map .fz))::M))
  (done:∀b,b∉foot M→Gh Q (.loc b) ((b,.lst ((l.map g).flatten.map .fz))::M)):Lf (TE T.W T.n T.env m (.ListComp elt [⟨.Name x px,iter,ifs,0⟩] scope pos) (Gh Q) M) :=
 i7 a he f g l hc hs h (fun C b y acc hb hy=>uI a hb (P:=fun _ r=>r=acc++g y) (ds:=[]) (turn C b y acc hb hy)) done
inductive GhB(Q:Bool→Led→Prop)(b:Bool):Led→Prop
 |done {M:Led}:Q b M→GhB Q b M
 |drop {M:Led}(a:Addr):GhB Q b (Mine.drop a M)→GhB Q b M
theorem TB.ghost{e:Expr}{Q:Bool→Led→Prop}(h:TB W n env m e (GhB Q) M):TB W n env m e Q M:=fun A Y s g me f =>
 wpAny_mono (h A Y s g me f) (fun x s' hp_=>by
  obtain⟨b,M',q,r,me',st⟩:=hp_
  induction q with
  |done q=>exact⟨b,_,q,r,me',st⟩
  |drop a _ ih=>exact ih (me'.drop a) (st.trans (by exact cX (F:=[]) a))) fun _ _ x=>x
theorem jB{T:Tk}(a:aG T.W)(he:T.env.scope.names=T.κ){α:Type}(f:α→D)(l:List α){elt iter c:Expr}{x:Str}{px:Pos}{scope:Scope}{pos:Pos}{Q:aJ}(hc:bK T.κ scope x=true)(hs:∀x,foldedSetIterable iter T.env x=pure x)
  (h:mE aU T m iter (fun v M1=>gN M1 v fun ds M2=>ds=l.map f∧ds.length≤1000000∧M2=M) M)
  (turn:∀C b y (acc:List D),b∉foot M→y∈l→let mc:=bE x (.fz (f y)) (dR scope.names m);mB aU (cT T scope C) mc c (GhB fun ok M1=>ok=false∧M1=(b,.lst (acc.map .fz))::M) ((b,.lst (acc.map .fz))::M))
  (done:Q (.fz (.lst [])) M):Lf (TE T.W T.n T.env m (.ListComp elt [⟨.Name x px,iter,[c],0⟩] scope pos) (Gh Q) M) :=
 i7 a he f (fun _=>[]) l hc hs h (fun C b y acc hb hy=>Tr.mono (TB.ghost ((kG (n:=T.n) a (fun x h=>gF h) 40).B _ _ _ (turn C b y acc hb hy))) fun ok M1 hp_=>by
  obtain⟨h1,h2⟩:=hp_
  subst h1 h2
  exact⟨M,rfl,hb,by simp,rfl⟩) fun b hb=>by
  have e:(l.map fun _=>([]:List D)).flatten = []:=by
   clear h turn
   induction l <;> simp_all
  rw [e]
  exact bZ (ds:=[]) done
end
theorem gU(k:aG W){s:Sh}{j:Int}(hj:j≤60)(q:Q (.fz s.desc) M):aA W (n+2) .described [.fz s.toD,.fz (.int j)] Q M:=by
 refine aH ‹_› rfl rfl rfl rfl rfl fun en_ he_=>?_;intro T;delta Lf
 refine⟨gY k hj ?_⟩
 conv=>whnf
 rcases s with⟨f,c⟩|⟨f,c,ps,l,r⟩|⟨w,s⟩
 ·delta Gh
  exact .done q
 ·cases l <;> cases r <;>(delta Gh;exact .done q)
 ·delta Gh
  exact .done q
theorem dM(k:aG W){l:List Sh}(hl:l.length≤10000){j:Int}(hj:j≤60)(q:Q (.fz (shT l)) M):aA W (n+3) .described_list [.fz (shL l),.fz (.int j)] Q M:=by
 refine aH ‹_› rfl rfl rfl rfl rfl fun en_ he_=>?_;intro T;delta Lf
 refine rF k ‹_› Sh.toD (fun s=>[s.desc]) l rfl (fun _=>rfl) ?_ (fun C b y acc hb hy=>?_) fun b hb=>?_
 ·delta And
  exact⟨rfl,by(refine ln1 ?_;exact ar_le ‹_› (by decide)),rfl⟩
 ·delta Lf
  refine⟨gU k hj ?_⟩
  conv=>whnf
  exact⟨_,rfl,rfl,rfl⟩
 ·refine bZ ?_
  delta And
  rw [eY]
  refine⟨by(refine ln1 ?_;exact ar_le ‹_› (by decide)),?_⟩
  delta Gh
  exact .done q
theorem kW(k:aG W){a b c:List Sh}(ha:a.length≤10000)(hb:b.length≤10000)(hc:c.length≤10000){j:Int}(hj:j≤59)(q:Q (.fz (Nd.disc a b c).desc) M):aA W (n+4) .described_rest [.fz (Nd.disc a b c).toD,.fz (.int j)] Q M:=by
 refine aH ‹_› rfl rfl rfl rfl rfl fun en_ he_=>?_;intro T;delta Lf
 refine⟨dM k ha (by exact A7 hj) ?_⟩
 delta Lf
 refine⟨dM k hb (by exact A7 hj) ?_⟩
 delta Lf
 refine⟨dM k hc (by exact A7 hj) ?_⟩
 delta Gh
 exact .done q
def Nd.small:Nd→Prop
 |.disc a b c=>a.length≤10000∧b.length≤10000∧c.length≤10000
 |_=>True
theorem sW(k:aG W){x:Nd}(hx:x.small){j:Int}(hj:j≤59)(q:Q (.fz x.desc) M):aA W (n+5) .described [.fz x.toD,.fz (.int j)] Q M:=by
 rcases x with s|⟨w,s,t⟩|v|⟨a,b,c⟩|⟨o,w⟩
 ·exact gU k (by exact Z7 hj) q
 all_goals (refine aH ‹_› rfl rfl rfl rfl rfl fun en_ he_=>?_;intro T;delta Lf;refine⟨gY k (by exact Z7 hj) ?_⟩;(first|delta Lf|delta Gh|delta cond))
 ·refine⟨rR k ?_⟩
  delta Gh
  exact .done q
 ·exact .done q
 ·refine⟨kW k hx.1 hx.2.1 hx.2.2 hj ?_⟩
  delta Gh
  exact .done q
 ·cases o <;>(delta cond;exact .done q)
theorem dU(k:aG W){l:List Nd}(hl:l.length≤1000000)(hs:∀x∈l,x.small)(q:Q (.fz (ndT l)) M):aA W (n+6) .described_list [.fz (ndL l)] Q M:=by
 refine aH ‹_› rfl rfl rfl rfl rfl fun en_ he_=>?_;intro T;delta Lf
 refine rF k ‹_› Nd.toD (fun s=>[s.desc]) l rfl (fun _=>rfl) ?_ (fun C b y acc hb hy=>?_) fun b hb=>?_
 ·delta And
  exact⟨rfl,by exact ln1 hl,rfl⟩
 ·delta Lf
  refine⟨sW k (hs y hy) (by decide) ?_⟩
  conv=>whnf
  exact⟨_,rfl,rfl,rfl⟩
 ·refine bZ ?_
  delta And
  rw [eY]
  refine⟨by exact ln1 hl,?_⟩
  delta Gh
  exact .done q
end
section
variable{W:Wd}{n:Nat}{M:Led}{Q:aJ}
noncomputable def BX(x y:Int):Cell:=.lst [.fz (.int x),.fz (.int y)]
section
variable{env:Env}
theorem o7{T:Tk}{m:Loc}{e1 e2:Expr}{p q:Pos}(hs:gT [e1,e2]=true)(h:(ev aU T m 39).E e1 (fun v M1=>(ev aU T m 39).E e2 (fun u M2=>bL M2 (.lst [v,u]) fun w M3=>Gh Q w M3) M1) M):sv aU T 60 [.Return (some (.List [e1,e2] p)) q] m (q7 Q) M:=by
 conv=>whnf
 rw [hs]
 exact h
theorem Iw {m:Loc}{c:Int}(hm:lk "cell" m=some (.fz (.int c))) {K:aJ}{p1 p2 p3 p4 p5 p6 p7 p8:Pos}(q:∀v:Int,K (.fz (.int v)) M):(ev aU ⟨W,n,env,(scopeOf .law_box).names⟩ m 39).E (.Call (.Name "max" p1) [.Constant (.int 0) 0 p2,.BinOp (.Name "cell" p3) .Sub (.BinOp (.Constant (.int 10) 0 p4) .Pow (.Constant (.int 18) 0 p5) p6) p7] [] p8) K M:=by
 conv=>whnf
 rw [hm]
 delta And
 refine⟨by decide,by decide,by decide,?_⟩
 conv=>whnf
 exact q _
end
theorem yJ(k:aG W){c m:Int}(q:∀b x y,b∉foot M→Q (.loc b) ((b,BX x y)::M)):aA W (n+1) .law_box [.fz (.int c),.fz (.int m)] Q M:=by
 refine aH (by assumption) rfl rfl rfl rfl rfl fun env he=>?_
 intro T
 refine o7 rfl ?_
 refine Iw (c:=c) rfl fun v=>?_
 delta And
 refine⟨gG (by decide),?_⟩
 delta bL
 intro b hb
 delta Gh
 exact .done (q b _ _ hb)
theorem cW{a:Addr}{c c':Cell}:∀{M:Led},M.lookup a=some c→(put M a c').lookup a=some c'
 |(b,x)::M,h=>by
  by_cases e:a=b
  ·subst e;rw [aC];exact look_self
  ·rw [look_skip e]at h
   rw [aE e,look_skip e]
   exact cW h
theorem aS(k:aG W){bx:Addr}{x y m:Int}(hl:M.lookup bx=some (BX x y))(hm:1≤m∧m≤1000)(q:∀r x' y':Int,0≤r→r<m→Q (.fz (.int r)) (put M bx (BX x' y'))):aA W (n+1) .law_take [.loc bx,.fz (.int m)] Q M:=by
 have hl2:∀{N:Led}{u v:Int},N=put M bx (BX u v)→N.lookup bx=some (BX u v):=fun h=>by rw [h];exact cW hl
 refine aH ‹_› rfl rfl rfl rfl rfl fun en_ he_=>?_;intro T;delta atC
 refine⟨_,hl,?_⟩;delta And
 refine⟨by simp,_,rfl,?_⟩
 delta cond
 refine aM (b:=decide (0<x)) (fun c1=>?_) fun c1=>?_
 ·delta atC
  refine⟨_,hl,?_⟩;delta And
  refine⟨by simp,_,rfl,?_⟩
  delta cond
  refine bt (dt (by exact xE hm)) ?_
  delta atC
  refine⟨_,hl,?_⟩;delta And
  refine⟨by simp,_,rfl,?_⟩
  delta cond
  refine bt (by rw [dt (by exact xE hm),dt (by exact FU hm)];rfl) ?_
  delta atC
  refine⟨_,hl,by decide,by simp,by simp,_,rfl,?_⟩
  delta Gh
  exact .done (q _ (x/m) y (Int.emod_nonneg _ (by exact X6 hm)) (Int.emod_lt_of_pos _ (by exact xE hm)))
 ·delta atC
  refine⟨_,hl,?_⟩;delta And
  refine⟨by simp,_,rfl,?_⟩
  delta And
  refine⟨IntMulOk.of_right (PySem.intBits_le_iff.mpr (by decide)),?_⟩
  delta atC
  refine⟨_,hl,by decide,by simp,by simp,_,rfl,?_⟩
  delta atC
  refine⟨_,hl2 rfl,?_⟩;delta And
  refine⟨by simp,_,rfl,?_⟩
  delta cond
  refine bt (dt (by exact xE hm)) ?_
  delta Gh
  exact .done (q _ x _ (Int.emod_nonneg _ (by exact X6 hm)) (Int.emod_lt_of_pos _ (by exact xE hm)))
theorem hV(k:aG W){l:List Nd}(hl:l.length≤1000000)(hb:(cds l).length≤900000)(q:∀p,p∉foot M→Gh Q (.loc p) ((p,.lst (((cds l).map D.int).map .fz))::M)):aA W (n+1) .law_codes [.fz (ndL l)] Q M:=by
 refine aH ‹_› rfl rfl rfl rfl rfl fun en_ he_=>?_;intro T;conv=>whnf
 intro fo hfo
 delta Lf
 refine cD (fun m N=>∀R:Loc→Led→Prop,(R [("found",.loc fo)] ((fo,.lst (((cds l).map D.int).map .fz))::M))→R m N) ?_ ?_
 rotate_left
 ·intro P1 m N hj
  apply hj;clear hj
  refine .go ?_
  delta Gh
  exact q fo hfo
 intro P1
 refine aX k ‹_› (fun es m N=>∀R:Loc→Led→Prop,(∀(l1:List Nd),∀(l2:List Nd),es=l2.map Nd.toD→l1++l2=l→R [("nodes",.fz (ndL l)),("found",.loc fo)] ((fo,.lst (((cds l1).map D.int).map .fz))::M))→R m N) rfl (fun _=>rfl) ?_ ?_ ?_
 ·conv=>whnf
  exact fun R F=>F [] l rfl rfl
 ·intro J1 Q1 d es m N hj
  apply hj;clear hj
  intro l1 l2 e he
  revert he
  apply map_cons e
  clear e
  intro x l2 he
  delta atC
  refine⟨_,look_self,?_⟩;conv=>whnf
  have hcl:(cds l1).length+x.codes.length≤900000:=by
   have:=congrArg (fun l=>(cds l).length) he
   simp [cds]at this hb ⊢
   exact Z8 this hb
  have fin:∀{p:Addr}{m:Loc}{N:Led},fo≠p→kL [("nodes",.fz (ndL l)),("found",.loc fo)] m→N=(p,.lst ((x.codes.map D.int).map .fz))::(fo,.lst ((((cds l1).map D.int).map .fz)++((x.codes.map D.int).map .fz)))::M →
    Fz (J1 (l2.map Nd.toD)) m N:=by
   rintro p m N hp hm rfl
   refine .drp p ?_
   rw [aB]
   exact .sub _ hm (.go (fun R F=>R2 rfl (by simp [cds]) (F (l1++[x]) l2 rfl (by rw [←he];simp))))
  rcases x with(⟨f,c⟩|⟨f,c,ps,a,b⟩|⟨w,s⟩)|⟨w,s,t⟩|v|⟨a,b,c⟩|⟨o,w⟩
  ·conv=>whnf
   intro p hp
   have h2:fo≠p:=fun e=>hp (by rw [←e];exact .head _)
   delta atC
   refine⟨_,bH h2,?_⟩;delta Exists
   refine⟨false,[.fz (.int c)],congrArg cV look_self,by simp [Sh.codes,eL]at hcl ⊢;exact ar_le ‹_› (by decide),_,gP h2,?_⟩
   delta Fz
   exact fin h2 (by rfl) rfl
  ·delta Exists
   refine⟨true,(ps.map D.int).map .fz,rfl,by simp [Sh.codes,eL]at hcl ⊢;exact JR ‹_› (by decide),fun p hp=>?_⟩
   have h2:fo≠p:=fun e=>hp (by rw [←e];exact .head _)
   delta atC
   refine⟨_,bH h2,?_⟩;delta Exists
   refine⟨false,(ps.map D.int).map .fz,congrArg cV look_self,by simp [Sh.codes,eL]at hcl ⊢;exact ar_le ‹_› (by decide),_,gP h2,?_⟩
   delta Fz
   exact fin h2 (by rfl) rfl
  all_goals
   conv=>whnf
   intro p hp
   have h2:fo≠p:=fun e=>hp (by rw [←e];exact .head _)
   delta atC
   refine⟨_,bH h2,?_⟩;delta Exists
   refine⟨false,[],congrArg cV look_self,by simp [Sh.codes,eL]at hcl ⊢;exact ar_le ‹_› (by decide),_,gP h2,?_⟩
   delta Fz
   exact fin h2 (by rfl) rfl
 ·intro m N hj
  apply hj;clear hj
  intro l1 l2 e he
  rcases l2 with _|⟨x,l2⟩
  ·rw [List.append_nil]at he
   rw [he]
   exact .sub [("found",.loc fo)] rfl (.go (fun R F=>F))
  ·cases e
theorem eR(k:aG W){l:List Nd}(hl:l.length≤1000000)(hb:(cds l).length≤900000)(q:Q (.fz (intL (cds l))) M):aA W (n+1) .law_codes [.fz (ndL l)] Q M :=
 hV k hl hb fun p _=>dE (.done q)
end
section
variable{W:Wd}{n:Nat}{M:Led}{Q:aJ}
noncomputable def Nd.isNew:Nd→Bool
 |.disc (_::_) _ _=>true
 |_=>false
theorem dI(k:aG W){x:Nd}(q:Q (.fz (.bool x.isNew)) M):aA W (n+1) .law_is_new [.fz x.toD] Q M:=by
 refine aH ‹_› rfl rfl rfl rfl rfl fun en_ he_=>?_;intro T;conv=>whnf
 rcases x with(⟨f,c⟩|⟨f,c,ps,a,b⟩|⟨w,s⟩)|⟨w,s,t⟩|v|⟨a,b,c⟩|⟨o,w⟩
 iterate 5 (· delta Gh;exact .done q)
 ·delta Gh
  cases a <;> exact .done q
 ·delta Gh
  exact .done q
noncomputable def shN(l:List Sh):List Nd:=l.map .sh
theorem kY(l:List Sh):shL l=ndL (shN l):=pG l
structure ShB(a:List Sh):Prop where
 len:a.length≤10000
 cl:(cds (shN a)).length≤900000
def Nd.fine:Nd→Prop
 |.disc a b c=>ShB a∧ShB b∧ShB c
 |x=>x.codes.length≤900000
theorem Nd.fine.cl{x:Nd}(h:x.fine):x.codes.length≤900000:=by
 cases x with
 |disc a b c=>exact Nat.zero_le _
 |_=>exact h
theorem fO(k:aG W){a:List Sh}(h:ShB a)(q:Q (.fz (intL (cds (shN a)))) M):aA W (n+1) .law_codes [.fz (shL a)] Q M:=by
 rw [kY]
 exact eR k (by have:=h.len;simp [shN];exact ar_le ‹_› (by decide)) h.cl q
theorem oP(k:aG W){x:Nd}(h:x.codes.length≤900000){p:Addr}(q:Q (.fz (intL x.codes)) M):aA W (n+1) .law_codes [.loc p] Q ((p,.lst [.fz x.toD])::M):=by
 have e:cds [x]=x.codes:=by simp [cds]
 exact eJ [] [] (ds:=[x.toD]) (eR k (l:=[x]) (by simp) (by rw [e];exact h) (by rw [e];exact q))
noncomputable def placesF:Int→List Nd→List Int
 |_,[]=>[]
 |h,.disc (a::as) _ c::r=>(h+(cds (shN (a::as))).length-1)::placesF (h+(cds (shN c)).length) r
 |h,x::r=>placesF (h+x.codes.length) r
theorem k7{h:Int}{a:Sh}{as b c:List Sh}{r:List Nd}:placesF h (.disc (a::as) b c::r)=(h+(cds (shN (a::as))).length-1)::placesF (h+(cds (shN c)).length) r:=rfl
theorem rU(k:aG W){l:List Nd}(hl:l.length≤1000000)(hf:∀x∈l,x.fine)(q:Q (.fz (intL (placesF 0 l))) M):aA W (n+2) .law_places [.fz (ndL l)] Q M:=by
 refine aH ‹_› rfl rfl rfl rfl rfl fun en_ he_=>?_;intro T;conv=>whnf
 intro fo hfo
 delta Lf
 refine cD (fun m N=>∀R:Loc→Led→Prop,(R [("places_found",.loc fo)] ((fo,.lst (((placesF 0 l).map D.int).map .fz))::M))→R m N) ?_ ?_
 rotate_left
 ·intro P1 m N hj
  apply hj;clear hj
  refine .go ?_
  delta Gh
  exact dE (.done q)
 intro P1
 refine aX k ‹_› (fun es m N=>∀R:Loc→Led→Prop,(∀(l2:List Nd),∀(h:Int),∀(ps:List Int),es=l2.map Nd.toD→(∀x∈l2,x.fine)→ps++placesF h l2=placesF 0 l→ps.length+l2.length≤1000000→R [("found",.fz (ndL l)),("places_found",.loc fo),("ahead",.fz (.int h))] ((fo,.lst ((ps.map D.int).map .fz))::M))→R m N) rfl (fun _=>rfl) ?_ ?_ ?_
 ·conv=>whnf
  exact fun R F=>F l 0 [] rfl hf rfl (by simpa using hl)
 ·intro J1 Q1 d es m N hj
  apply hj;clear hj
  intro l2 h ps e hf2 he hln
  revert hf2 he hln
  apply map_cons e
  clear e
  intro x l2 hf2 he hln
  have hx:=hf2 x (.head _)
  delta Lf
  refine⟨dI k ?_⟩
  delta cond
  have els:∀{m:Loc},placesF h (x::l2)=placesF (h+x.codes.length) l2→kL [("found",.fz (ndL l)),("places_found",.loc fo),("ahead",.fz (.int (h+x.codes.length)))] m→∀{N:Led},N=(fo,.lst ((ps.map D.int).map .fz))::M →
    Fz (J1 (l2.map Nd.toD)) m N:=by
   rintro m e2 hm N rfl
   exact .sub _ hm (.go (fun R F=>F l2 _ ps rfl (fun x h=>hf2 x (.tail _ h)) (by rw [←he,e2]) (by simp at hln;exact wF ‹_›)))
  have stp:x.isNew=false→placesF h (x::l2)=placesF (h+x.codes.length) l2:=by
   intro h1
   rcases x with(⟨f,c⟩|⟨f,c,ps,a,b⟩|⟨w,s⟩)|⟨w,s,t⟩|v|⟨_|⟨a,as⟩,b,c⟩|⟨o,w⟩ <;> first|rfl|exact dP h1
  by_cases hn:x.isNew=true
  ·rcases x with _|_|_|⟨_|⟨a,as⟩,b,c⟩|_ <;> first|exact aL hn|skip
   clear els stp
   delta atC
   refine⟨_,look_self,?_⟩;delta Lf
   refine⟨fO k hx.1 ?_⟩
   delta And
   refine⟨by have:=hx.1.cl;(simp;exact ar_le ‹_› (by decide)),?_⟩
   delta atC
   refine⟨_,look_self,by simp at hln ⊢;exact ar_l ‹_› (by decide),_,aC,?_⟩
   delta Lf
   refine⟨fO k hx.2.2 ?_⟩
   delta And
   refine⟨by have:=hx.2.2.cl;(refine ln1 ?_;exact ar_le ‹_› (by decide)),?_⟩
   delta Fz
   rw [List.length_map,List.length_map]
   exact .sub [("found",.fz (ndL l)),("places_found",.loc fo),("ahead",.fz (.int (h+(cds (shN c)).length)))] rfl (.go (fun R F=>R2 rfl (by simp) (F l2 (h+(cds (shN c)).length) (ps++[h+(cds (shN (a::as))).length-1]) rfl (fun x h=>hf2 x (.tail _ h)) (by rw [←he];simp [k7]) (by simp at hln ⊢;exact pU ‹_›))))
  ·have hn:x.isNew=false:=by simpa using hn
   rw [hn]
   delta cond
   intro p hp
   delta Lf
   refine⟨oP k hx.cl ?_⟩
   delta And
   refine⟨by have:=hx.cl;(refine ln1 ?_;exact ar_le ‹_› (by decide)),?_⟩
   delta Fz
   rw [List.length_map]
   exact els (stp hn) (by rfl) rfl
 ·intro m N hj
  apply hj;clear hj
  intro l2 h ps e hf2 he hln
  rcases l2 with _|⟨x,l2⟩
  ·rw [show placesF h [] = []from rfl,List.append_nil]at he
   rw [he]
   exact .sub [("places_found",.loc fo)] rfl (.go (fun R F=>F))
  ·cases e
end
section
variable{W:Wd}{n:Nat}{M:Led}{Q:aJ}
noncomputable def Nd.mids:Nd→List Nd
 |.disc (_::_) _ c=>shN c
 |x=>[x]
noncomputable def flatF(l:List Nd):List Nd:=(l.map Nd.mids).flatten
theorem iO{x:Nd}(h:x.isNew=false):x.mids = [x]:=by
 rcases x with _|_|_|⟨_|⟨a,as⟩,b,c⟩|_ <;> first|rfl|exact dP h
theorem uQ(k:aG W){l:List Nd}(hl:(flatF l).length≤900000)(q:Q (.fz (ndL (flatF l))) M):aA W (n+2) .law_flat [.fz (ndL l)] Q M:=by
 refine aH ‹_› rfl rfl rfl rfl rfl fun en_ he_=>?_;intro T;conv=>whnf
 intro fo hfo
 delta Lf
 refine cD (fun m N=>∀R:Loc→Led→Prop,(R [("flat",.loc fo)] ((fo,.lst (((flatF l).map Nd.toD).map .fz))::M))→R m N) ?_ ?_
 rotate_left
 ·intro P1 m N hj
  apply hj;clear hj
  refine .go ?_
  delta Gh
  exact dE (.done q)
 intro P1
 refine aX k ‹_› (fun es m N=>∀R:Loc→Led→Prop,(∀(l1:List Nd),∀(l2:List Nd),es=l2.map Nd.toD→l1++l2=l→R [("found",.fz (ndL l)),("flat",.loc fo)] ((fo,.lst (((flatF l1).map Nd.toD).map .fz))::M))→R m N) rfl (fun _=>rfl) ?_ ?_ ?_
 ·conv=>whnf
  exact fun R F=>F [] l rfl rfl
 ·intro J1 Q1 d es m N hj
  apply hj;clear hj
  intro l1 l2 e he
  revert he
  apply map_cons e
  clear e
  intro x l2 he
  have hcl:(flatF l1).length+x.mids.length≤900000:=by
   have:=congrArg (fun l=>(flatF l).length) he
   simp [flatF]at this hl ⊢
   exact Z8 this hl
  delta atC
  refine⟨_,look_self,?_⟩;delta Lf
  refine⟨dI k ?_⟩
  delta cond
  by_cases hn:x.isNew=true
  ·rcases x with _|_|_|⟨_|⟨a,as⟩,b,c⟩|_ <;> first|exact aL hn|skip
   delta atC
   refine⟨_,look_self,?_⟩;delta Exists
   refine⟨false,((shN c).map Nd.toD).map .fz,by show V.view _ (.fz (shL c))=_;rw [kY];rfl,by simp [Nd.mids]at hcl ⊢;exact ar_le ‹_› (by decide),_,aC,?_⟩
   delta Fz
   exact .sub [("found",.fz (ndL l)),("flat",.loc fo)] rfl (.go (fun R F=>R2 rfl (by simp [flatF,Nd.mids]) (F (l1++[.disc (a::as) b c]) l2 rfl (by rw [←he];simp))))
  ·have hn:x.isNew=false:=by simpa using hn
   rw [hn]
   delta cond
   intro p hp
   have h2:fo≠p:=fun e=>hp (by rw [←e];exact .head _)
   delta atC
   refine⟨_,bH h2,?_⟩;delta Exists
   refine⟨false,[.fz x.toD],congrArg cV look_self,by rw [iO hn]at hcl;simp at hcl ⊢;exact ar_le ‹_› (by decide),_,gP h2,?_⟩
   delta Fz
   refine .drp p ?_
   rw [aB]
   exact .sub [("found",.fz (ndL l)),("flat",.loc fo)] rfl (.go (fun R F=>R2 rfl (by simp [flatF,iO hn]) (F (l1++[x]) l2 rfl (by rw [←he];simp))))
 ·intro m N hj
  apply hj;clear hj
  intro l1 l2 e he
  rcases l2 with _|⟨x,l2⟩
  ·rw [List.append_nil]at he
   rw [he]
   exact .sub [("flat",.loc fo)] rfl (.go (fun R F=>F))
  ·cases e
theorem P6{l:List Nd}(b:Nat):(cds (l.take b)).length≤(cds l).length:=by
 have:=congrArg List.length (cL (l.take b) (l.drop b))
 rw [List.take_append_drop,List.length_append]at this
 exact HN this
noncomputable def wordsF(items:List Nd)(pt:List Int→List Int):Nat→Nat→Bool→List (List Int)
 |0,_,_=>[]
 |j+1,p,t=>match items[p]? with
  |none=>[]
  |some x=>(match ptsAt items pt t p x with
   |some w=>[(pt w.2.2).map fun q=>((cds (items.take w.1)).length:Int)+q]
   |none=>[])++wordsF items pt j (p+1) (fN t x)
theorem gB{items:List Nd}{pt:List Int→List Int}{j p:Nat}{t:Bool}{x:Nd}(hx:items[p]?=some x):wordsF items pt (j+1) p t=(match ptsAt items pt t p x with|some w=>[(pt w.2.2).map fun q=>((cds (items.take w.1)).length:Int)+q]|none=>[])++wordsF items pt j (p+1) (fN t x):=by
 show(match items[p]? with|none=>[]|some x=>(match ptsAt items pt t p x with|some w=>[(pt w.2.2).map fun q=>((cds (items.take w.1)).length:Int)+q]|none=>[])++wordsF items pt j (p+1) (fN t x))=_
 rw [hx]
theorem nE{items:List Nd}{pt:List Int→List Int}{j p:Nat}{t:Bool}(hx:items[p]?=none):wordsF items pt (j+1) p t = []:=by
 show(match items[p]? with|none=>[]|some x=>(match ptsAt items pt t p x with|some w=>[(pt w.2.2).map fun q=>((cds (items.take w.1)).length:Int)+q]|none=>[])++wordsF items pt j (p+1) (fN t x))=_
 rw [hx]
theorem tG(k:aG W){l:List Nd}(hi:IOk l){pl:List D}{lf rt:Int}{pt:List Int→List Int}(hp:PtOk W (.inst .Patterns pl) lf rt pt){up:Bool}(q:Q (.fz (.lst ((wordsF l pt l.length 0 true).map intL))) M) :
  aA W (n+16) .law_words [.fz (ndL l),.fz fR,.fz (.bool up),.fz (.inst .Patterns pl),.fz (.tup [.int lf,.int rt])] Q M:=by
 have hlen:=hi.len
 have hl':(l.map Nd.toD).length≤1000000:=by(refine ln1 ?_;exact ar_le ‹_› (by decide))
 refine aH ‹_› rfl rfl rfl rfl rfl fun en_ he_=>?_;intro T;conv=>whnf
 intro fo hfo
 delta Lf
 refine cD (fun m N=>∀R:Loc→Led→Prop,(R [("found",.loc fo)] ((fo,.lst (((wordsF l pt l.length 0 true).map intL).map .fz))::M))→R m N) ?_ ?_
 rotate_left
 ·intro P1 m N hj
  apply hj;clear hj
  refine .go ?_
  delta Gh
  exact dE (.done q)
 intro P1
 refine aX k ‹_› (fun es m N=>∀R:Loc→Led→Prop,(∀(j:Nat),∀(p:Nat),∀(t:Bool),∀(fd:List (List Int)),es=aV p j→p+j=l.length→fd++wordsF l pt j p t=wordsF l pt l.length 0 true→fd.length≤p→R [("items",.fz (ndL l)),("lower",.fz fR),("upper_too",.fz (.bool up)),("table",.fz (.inst .Patterns pl)),("sides",.fz (.tup [.int lf,.int rt])),("found",.loc fo),("is_text",.fz (.bool t))] ((fo,.lst ((fd.map intL).map .fz))::M))→R m N) rfl (fun _=>rfl) ?_ ?_ ?_
 ·delta And
  refine⟨hl',?_⟩
  delta And
  refine⟨⟨by exact iQ,by exact iK,by exact b9,by(refine Eq.substr (List.length_map _) ?_;exact Ex hlen)⟩,fun R F=>F l.length 0 true [] ?_ (by simp) rfl (Nat.le_refl _)⟩
  rw [List.length_map,Int.sub_zero,Int.toNat_natCast]
  rfl
 ·intro J1 Q1 d es m N hj
  apply hj;clear hj
  intro j p t fd e hj he hfd
  revert hj he hfd
  apply dA e
  clear e
  intro j hj he hfd
  have hx:l[p]?=some l[p]:=List.getElem?_eq_getElem (by exact G7 hj)
  generalize l[p]=x at hx
  have hst:wordsF l pt (j+1) p t=(match ptsAt l pt t p x with
   |some w=>[(pt w.2.2).map fun q=>((cds (l.take w.1)).length:Int)+q]
   |none=>[])++wordsF l pt j (p+1) (fN t x):=gB hx
  delta And
  refine⟨hl',_,cH rfl hx,?_⟩
  conv=>whnf
  refine oE x ?_
  delta cond
  have fin:∀{m:Loc}{t':Bool}{e:List (List Int)},t'=fN t x→(match ptsAt l pt t p x with
   |some w=>[(pt w.2.2).map fun q=>((cds (l.take w.1)).length:Int)+q]
   |none=>[])=e→e.length≤1→kL [("items",.fz (ndL l)),("lower",.fz fR),("upper_too",.fz (.bool up)),("table",.fz (.inst .Patterns pl)),("sides",.fz (.tup [.int lf,.int rt])),("found",.loc fo),("is_text",.fz (.bool t'))] m→∀{N:Led},N=(fo,.lst (((fd++e).map intL).map .fz))::M →
   Fz (J1 (aV ((p:Int)+1) j)) m N:=by
   rintro m t' e rfl he2 hel hm N rfl
   exact .sub _ hm (.go (fun R F=>F j (p+1) _ (fd++e) rfl (by exact Y8 hj) (by rw [←he,hst,he2];simp) (by(refine ln4 ?_;exact Hf hfd hel))))
  have tx:x.kind≠12→t=fN t x:=by rcases x with(_|_|_)|_|_|_|⟨o,w⟩ <;> first|exact fun _=>rfl|exact fun h=>absurd rfl h
  clear hst he
  refine aM (b:=x.kind==12) (fun c2=>?_) fun c2=>?_
  ·rcases x with(_|_|_)|_|_|_|⟨on,w⟩ <;> first|(exact aL c2;done)|skip
   delta And
   refine⟨hl',_,cH rfl hx,?_⟩
   delta And
   refine⟨hl',_,cH rfl hx,?_⟩
   delta Fz
   exact fin (t':=!on) (e:=[]) rfl rfl (by exact Nat.zero_le _) (by rfl) (by simp)
  have tx:=tx (by simpa using c2)
  delta And
  refine⟨hl',_,cH rfl hx,?_⟩
  conv=>whnf
  refine oE x ?_
  delta cond
  refine aM (b:=x.kind==6) (fun c3=>?_) fun c3=>?_
  rotate_left
  ·have pn:ptsAt l pt t p x=none:=by rcases x with(_|_|_)|_|_|_|_ <;> first|rfl|(exact dP c3;done)
   delta cond
   exact fin (t':=t) (e:=[]) tx (by rw [pn]) (by exact Nat.zero_le _) (by rfl) (by simp)
  delta cond
  cases t with
  |false =>
   have pn:ptsAt l pt false p x=none:=by rcases x with(_|_|_)|_|_|_|_ <;> first|rfl|(cases c3;done)
   delta cond
   exact fin (t':=false) (e:=[]) tx (by rw [pn]) (by exact Nat.zero_le _) (by rfl) (by simp)
  |true =>
   have pw:ptsAt l pt true p x=fX l p:=by rcases x with(_|_|_)|_|_|_|_ <;> first|rfl|(exact aL c3;done)
   delta cond
   refine⟨Z9 k hi rfl (by exact G7 hj) ?_⟩
   cases hw:fX l p with
   |none =>
    delta Fz
    exact fin (t':=true) (e:=[]) tx (by rw [pw,hw]) (by exact Nat.zero_le _) (by rfl) (by simp)
   |some w =>
    obtain⟨b,e,ls⟩:=w
    obtain⟨w1,w2,w3,w4,w5,x2,f,w6,w7,w8⟩:=gK hi hw
    delta And
    refine⟨rfl,_,rfl,?_⟩;delta Or
    refine xA (by(refine ln1 ?_;exact ar_le ‹_› (by decide))) (b:=b) rfl fun p2 hp2=>?_
    rw [←List.map_take]
    delta Lf
    have hcb:=P6 (l:=l) b
    have hall:=hi.all
    refine⟨eJ [] [] (eR k (l:=l.take b) (by(simp;exact HV hlen w2 w3)) (by exact GR hcb hall) ?_)⟩
    delta And
    refine⟨by(refine ln1 ?_;exact Es hcb hall),?_⟩
    delta atC
    refine⟨_,look_self,?_⟩;delta Lf
    refine rF k ‹_› D.int (fun q=>[.int (((cds (l.take b)).length:Int)+q)]) (pt ls) rfl (fun _=>rfl) ?_ (fun C b1 y acc hb1 hy=>?_) fun b1 hb1=>?_
    ·delta And
     refine⟨rfl,_,rfl,?_⟩;delta And
     refine⟨rfl,_,rfl,?_⟩;delta And
     refine⟨rfl,_,rfl,?_⟩;delta Lf
     refine⟨hp.run w4 ?_⟩
     delta And
     exact⟨rfl,by have:=hp.len w4;(refine ln1 ?_;exact ar_le ‹_› (by decide)),rfl⟩
    ·(intros;conv=>whnf)
     rw [List.length_map]
     exact⟨_,rfl,rfl,rfl⟩
    ·refine bZ ?_
     delta atC
     rw [eY]
     refine⟨_,look_self,by(refine ln1 ?_;refine ln1 ?_;exact GC hlen hj hfd),_,aC,?_⟩
     delta Fz
     exact fin (t':=true) (e:=[(pt ls).map fun q=>((cds (l.take b)).length:Int)+q]) tx (by rw [pw,hw]) (by simp) (by rfl) (by simp [intL])
 ·intro m N hj
  apply hj;clear hj
  intro j p t fd e hj he hfd
  rcases j with _|j
  ·rw [show wordsF l pt 0 p t = []from rfl,List.append_nil]at he
   rw [he]
   exact .sub [("found",.loc fo)] rfl (.go (fun R F=>F))
  ·cases e
end
section
variable{W:Wd}{n:Nat}{M:Led}{Q:aJ}
theorem oL{a:Addr}{c:Cell}:∀{M:Led},M.lookup a=some c→put M a c=M
 |(b,x)::M,h=>by
  by_cases e:a=b
  ·subst e;rw [aC];rw [look_self]at h;(have e_:=Option.some.inj h;clear h;subst e_);rfl
  ·rw [look_skip e]at h
   rw [aE e,oL h]
theorem dL{a:Addr}{c c':Cell}:∀{M:Led},put (put M a c) a c'=put M a c'
 |[]=>rfl
 |(b,x)::M=>by
  by_cases e:a=b
  ·subst e;rw [aC,aC,aC]
  ·rw [aE e,aE e,aE e,dL]
noncomputable def LN(o:Bool)(li p:Addr)(X Y:Cell)(M:Led):Led:=match o with
 |true=>(li,X)::(p,Y)::M
 |false=>(p,Y)::(li,X)::M
section
variable{o:Bool}{li p bx:Addr}{X Y X':Cell}(h:li≠p)
include h
theorem sK:List.lookup li (LN o li p X Y M)=some X:=by
 cases o
 ·exact bH h
 ·exact look_self
theorem tF:List.lookup p (LN o li p X Y M)=some Y:=by
 cases o
 ·exact look_self
 ·exact bH (Ne.symm h)
theorem u0:put (LN o li p X Y M) li X'=LN o li p X' Y M:=by
 cases o
 ·exact gP h
 ·exact aC
theorem rK:put (LN o li p X Y M) p X'=LN o li p X X' M:=by
 cases o
 ·exact aC
 ·exact gP (Ne.symm h)
omit h
theorem GD(h1:bx≠li)(h2:bx≠p):List.lookup bx (LN o li p X Y M)=M.lookup bx:=by
 cases o
 ·exact(look_skip h2).trans (look_skip h1)
 ·exact(look_skip h1).trans (look_skip h2)
theorem O0(h1:bx≠li)(h2:bx≠p):put (LN o li p X Y M) bx X'=LN o li p X Y (put M bx X'):=by
 cases o
 ·exact(aE h2).trans (congrArg _ (aE h1))
 ·exact(aE h1).trans (congrArg _ (aE h2))
end
inductive LinesR:List (List Int)→List Int→List Nd→List (List Int)→Prop
 |nil {done:List (List Int)}{cur:List Int}:LinesR done cur [] (done++[cur])
 |brk {done:List (List Int)}{cur:List Int}{a:Sh}{as b c:List Sh}{r:List Nd}{res:List (List Int)}:LinesR (done++[cur++cds (shN (a::as))]) (cds (shN b)) r res→LinesR done cur (.disc (a::as) b c::r) res
 |go {done:List (List Int)}{cur:List Int}{x:Nd}{r:List Nd}{res:List (List Int)}:LinesR done (cur++cds x.mids) r res→LinesR done cur (x::r) res
noncomputable def Nd.big:Nd→Nat
 |.disc a b c=>(cds (shN a)).length+(cds (shN b)).length+(cds (shN c)).length
 |x=>x.codes.length
noncomputable def gL(done:List (List Int))(p:Addr):Cell:=.lst ((done.map fun l=>.fz (intL l))++[.loc p])
noncomputable def gE(cur:List Int):Cell:=.lst ((cur.map D.int).map .fz)
theorem DC{o:Bool}{li p:Addr}(h:li≠p){done:List (List Int)}{cur:List Int}:eB p (intL cur) 1 (drop p (LN o li p (gL done p) (gE cur) M))=(li,.lst (((done++[cur]).map intL).map .fz))::M:=by
 have e:((done.map fun l=>V.fz (intL l))++[V.loc p]).map (V.sub p (intL cur))=((done++[cur]).map intL).map .fz:=by simp [V.sub]
 cases o
 ·show eB p (intL cur) 1 (drop p ((p,_)::(li,_)::M))=_
  rw [aB]
  show(li,Cell.lst (((done.map fun l=>V.fz (intL l))++[V.loc p]).map (V.sub p (intL cur))))::M=_
  rw [e]
 ·show eB p (intL cur) 1 (drop p ((li,_)::(p,_)::M))=_
  rw [dB (Ne.symm h),aB]
  show(li,Cell.lst (((done.map fun l=>V.fz (intL l))++[V.loc p]).map (V.sub p (intL cur))))::M=_
  rw [e]
theorem L5{o:Bool}{li p:Addr}(h:li≠p){done:List (List Int)}{cur:List Int}(q:Q (.fz (.lst ((done++[cur]).map intL))) M):Gh Q (.loc li) (LN o li p (gL done p) (gE cur) M):=by
 refine .freeze p 1 (d:=intL cur) (tF h) dF ?_
 rw [DC h,V.sub,if_neg h]
 exact dE (.done q)
theorem J7 {o:Bool}{li p p1 bx:Addr}(h:li≠p) (h1:p≠p1) (hb:bx≠p) {done:List (List Int)}{cur cur1:List Int}{x:D}{P:Loc→Led→Prop}(q:Fz P [("box",.loc bx),("found",.fz x),("lines",.loc li)] (LN false li p1 (gL (done++[cur]) p1) (gE cur1) M)) :
  Fz P [("box",.loc bx),("found",.fz x),("lines",.loc li)] ((p1,gE cur1)::LN o li p (.lst ((done.map fun l=>V.fz (intL l))++[V.loc p]++[V.loc p1])) (gE cur) M):=by
 refine .frz p 2 (d:=intL cur) ((look_skip h1).trans (tF h)) dF ?_
 rw [dB h1]
 have e:((done.map fun l=>V.fz (intL l))++[V.loc p]++[V.loc p1]).map (V.sub p (intL cur))=((done++[cur]).map fun l=>V.fz (intL l))++[V.loc p1]:=by simp [V.sub,Ne.symm h1]
 have e2:(((cur1.map D.int).map V.fz).map (V.sub p (intL cur)))=(cur1.map D.int).map V.fz:=by simp [V.sub]
 have e3:eB p (intL cur) 2 ((p1,gE cur1)::drop p (LN o li p (.lst ((done.map fun l=>V.fz (intL l))++[V.loc p]++[V.loc p1])) (gE cur) M))=LN false li p1 (gL (done++[cur]) p1) (gE cur1) M:=by
  cases o
  ·show eB p (intL cur) 2 ((p1,gE cur1)::drop p ((p,_)::(li,_)::M))=_
   rw [aB]
   show(p1,Cell.lst (((cur1.map D.int).map V.fz).map (V.sub p (intL cur))))::(li,Cell.lst (((done.map fun l=>V.fz (intL l))++[V.loc p]++[V.loc p1]).map (V.sub p (intL cur))))::M=_
   rw [e,e2];rfl
  ·show eB p (intL cur) 2 ((p1,gE cur1)::drop p ((li,_)::(p,_)::M))=_
   rw [dB (Ne.symm h),aB]
   show(p1,Cell.lst (((cur1.map D.int).map V.fz).map (V.sub p (intL cur))))::(li,Cell.lst (((done.map fun l=>V.fz (intL l))++[V.loc p]++[V.loc p1]).map (V.sub p (intL cur))))::M=_
   rw [e,e2];rfl
 rw [e3,show subL p (intL cur) [("box",.loc bx),("found",.fz x),("lines",.loc li)]=([("box",.loc bx),("found",.fz x),("lines",.loc li)]:Loc) by simp [subL,V.sub,hb,h]]
 exact q
theorem rN(k:aG W){a:List Sh}(h:ShB a)(q:∀p,p∉foot M→Q (.loc p) ((p,gE (cds (shN a)))::M)):aA W (n+1) .law_codes [.fz (shL a)] Q M:=by
 rw [kY]
 exact hV k (by have:=h.len;simp [shN];exact ar_le ‹_› (by decide)) h.cl fun p hp=>.done (q p hp)
theorem uB(k:aG W){bx:Addr}{x y:Int}(hb:M.lookup bx=some (BX x y)){l:List Nd}(hl:l.length≤900000)(hf:∀x∈l,x.fine)(hs:(l.map Nd.big).sum≤900000)(q:∀x' y' res,LinesR [] [] l res→Q (.fz (.lst (res.map intL))) (put M bx (BX x' y'))) :
  aA W (n+3) .law_lines [.loc bx,.fz (ndL l)] Q M:=by
 have hbm:bx∈foot M:=aT (aD hb) (aW _ _)
 refine aH ‹_› rfl rfl rfl rfl rfl fun en_ he_=>?_;intro T;conv=>whnf
 intro p0 hp0
 conv=>whnf
 intro li hli
 delta Lf
 have hl0:li≠p0:=fun e=>hli (by rw [e];exact .head _)
 refine cD (fun m N=>∀R:Loc→Led→Prop,(∀(o:Bool),∀(p:Addr),∀(x:Int),∀(y:Int),∀(done:List (List Int)),∀(cur:List Int),li≠p→LinesR [] [] l (done++[cur])→R [("lines",.loc li)] (LN o li p (gL done p) (gE cur) (put M bx (BX x y))))→R m N) ?_ ?_
 rotate_left
 ·intro P1 m N hj
  apply hj;clear hj
  intro o p x' y' done cur hne hr
  refine .go ?_
  delta Gh
  exact L5 hne (q x' y' _ hr)
 intro P1
 refine aX k ‹_› (fun es m N=>∀R:Loc→Led→Prop,(∀(l2:List Nd),∀(o:Bool),∀(p:Addr),∀(x:Int),∀(y:Int),∀(done:List (List Int)),∀(cur:List Int),es=l2.map Nd.toD→(∀x∈l2,x.fine)→li≠p→bx≠li→bx≠p→(∀res,LinesR done cur l2 res→LinesR [] [] l res)→done.length+l2.length≤900000→cur.length+(l2.map Nd.big).sum≤900000→R [("box",.loc bx),("found",.fz (ndL l)),("lines",.loc li)] (LN o li p (gL done p) (gE cur) (put M bx (BX x y))))→R m N) rfl (fun _=>rfl) ?_ ?_ ?_
 ·conv=>whnf
  exact fun R F=>R2 rfl (by rw [oL hb];rfl) (F l true p0 x y [] [] rfl hf hl0 (fun e=>hli (by rw [←e];exact .tail _ hbm)) (fun e=>hp0 (by rw [←e];exact hbm)) (fun _ h=>h) (by simpa using hl) (by simpa using hs))
 ·intro J1 Q1 d es m N hj
  apply hj;clear hj
  intro l2 o p x y done cur e hf2 hne h1 h2 hr hd hc
  revert hf2 hne h1 h2 hr hd hc
  apply map_cons e
  clear e
  intro z l2 hf2 hne h1 h2 hr hd hc
  have hz:=hf2 z (.head _)
  have hlk:∀{x' y':Int},(put M bx (BX x' y')).lookup bx=some (BX x' y'):=cW hb
  have hrow:cQ ((done.map fun l=>V.fz (intL l))++[V.loc p]) (-1)=some (.loc p):=tS (by simp)
  have hle:((done.map fun l=>V.fz (intL l))++[V.loc p]).length≤1000000:=by(simp;exact ar_l ‹_› (by decide))
  delta Lf
  refine⟨dI k ?_⟩
  delta cond
  by_cases hn:z.isNew=true
  ·rcases z with _|_|_|⟨_|⟨a,as⟩,b,c⟩|_ <;> first|exact aL hn|skip
   delta cond
   refine⟨aS k ((GD h1 h2).trans hlk) (by decide) fun r x' y' r1 r2=>?_⟩
   rw [O0 h1 h2,dL]
   delta cond
   refine aM (b:=r==1) (fun c1=>?_) fun c1=>?_
   ·delta atC
    refine⟨_,sK hne,?_⟩;delta And
    refine⟨hle,_,hrow,?_⟩
    delta atC
    refine⟨_,tF hne,?_⟩;delta Lf
    refine⟨fO k hz.1 ?_⟩
    delta atC
    refine⟨_,tF hne,?_⟩;delta Exists
    refine⟨false,((cds (shN (a::as))).map D.int).map .fz,rfl,by simp [Nd.big]at hc ⊢;exact HH hc,LN o li p (gL done p) (gE (cur++cds (shN (a::as)))) (put M bx (BX x' y')),(rK hne).trans (by simp [gE]),?_⟩
    delta atC
    refine⟨_,sK hne,?_⟩;delta Lf
    refine⟨rN k hz.2.1 fun p1 hp1=>?_⟩
    delta atC
    have g1:li≠p1:=fun e=>hp1 (by rw [←e];exact aT (aD (sK hne)) (aW _ _))
    have g2:p≠p1:=fun e=>hp1 (by rw [←e];exact aT (aD (tF hne)) (aW _ _))
    have g3:bx≠p1:=fun e=>hp1 (by rw [←e];exact aT (aD ((GD h1 h2).trans hlk)) (aW _ _))
    refine⟨_,(look_skip g1).trans (sK hne),hle,_,(aE g1).trans (congrArg _ (u0 hne)),?_⟩
    delta Fz
    refine .sub [("box",.loc bx),("found",.fz (ndL l)),("lines",.loc li)] rfl (J7 hne g2 h2 (.go (fun R F=>F l2 false p1 x' y' _ _ rfl (fun x h=>hf2 x (.tail _ h)) g1 h1 g3 (fun res h=>hr _ (.brk h)) (by simp at hd ⊢;exact pU ‹_›) (by simp [Nd.big]at hc ⊢;exact He hc))))
   ·delta atC
    refine⟨_,sK hne,?_⟩;delta And
    refine⟨hle,_,hrow,?_⟩
    delta atC
    refine⟨_,tF hne,?_⟩;delta Lf
    refine⟨dI k ?_⟩
    delta Lf
    refine⟨fO k hz.2.2 ?_⟩
    delta atC
    refine⟨_,tF hne,?_⟩;delta Exists
    refine⟨false,((cds (shN c)).map D.int).map .fz,rfl,by simp [Nd.big]at hc ⊢;exact HA hc,LN o li p (gL done p) (gE (cur++cds (shN c))) (put M bx (BX x' y')),(rK hne).trans (by simp [gE]),?_⟩
    delta Fz
    exact .sub [("box",.loc bx),("found",.fz (ndL l)),("lines",.loc li)] rfl (.go (fun R F=>F l2 o p x' y' done (cur++cds (shN c)) rfl (fun x h=>hf2 x (.tail _ h)) hne h1 h2 (fun res h=>hr _ (.go h)) (by simp at hd;exact wF ‹_›) (by simp [Nd.big]at hc ⊢;exact EC hc)))
  ·have hn:z.isNew=false:=by simpa using hn
   have hm:=iO hn
   have hbg:z.codes.length≤z.big:=by
    rcases z with _|_|_|⟨_|⟨a,as⟩,b,c⟩|_ <;> first|exact Nat.le_refl _|exact Nat.zero_le _
   rw [hn]
   delta atC
   refine⟨_,sK hne,?_⟩;delta And
   refine⟨hle,_,hrow,?_⟩
   delta atC
   refine⟨_,tF hne,?_⟩;delta Lf
   refine⟨dI k ?_⟩
   delta cond
   rw [hn]
   delta cond
   intro p2 hp2
   delta Lf
   refine⟨oP k hz.cl ?_⟩
   delta atC
   refine⟨_,tF hne,?_⟩;delta Exists
   refine⟨false,(z.codes.map D.int).map .fz,rfl,by simp at hc ⊢;exact Dn hbg hc,LN o li p (gL done p) (gE (cur++z.codes)) (put M bx (BX x y)),(rK hne).trans (by simp [gE]),?_⟩
   delta Fz
   exact .sub [("box",.loc bx),("found",.fz (ndL l)),("lines",.loc li)] rfl (.go (fun R F=>F l2 o p x y done (cur++z.codes) rfl (fun x h=>hf2 x (.tail _ h)) hne h1 h2 (fun res h=>hr _ (.go (by rw [hm];simpa [cds]using h))) (by simp at hd;exact wF ‹_›) (by simp at hc ⊢;exact HL hbg hc)))
 ·intro m N hj
  apply hj;clear hj
  intro l2 o p x y done cur e hf2 hne h1 h2 hr hd hc
  rcases l2 with _|⟨z,l2⟩
  ·exact .sub [("lines",.loc li)] rfl (.go (fun R F=>F o p x y done cur hne (hr _ .nil)))
  ·cases e
end
section
variable{W:Wd}{n:Nat}{M:Led}{Q:aJ}
section
variable{env:Env}{κ:Ks}{m:Loc}
def GQ(T:Tk)(mc:Loc)(elt:Expr)(ifs:List Expr)(J:List D→Led→Prop)(acc:List D)(a:Addr)(N:Led):Prop :=
 mIf T mc ifs (fun ok M1=>bif ok then mE aU T mc elt (Gh (cTK J acc a)) M1 else cTN J acc a M1) ((a,.lst (acc.map .fz))::N)
theorem P5{T:Tk}(a:aG T.W)(he:T.env.scope.names=T.κ)(J:List D→List D→Led→Prop){elt iter:Expr}{x:Str}{px:Pos}{ifs:List Expr}{scope:Scope}{pos:Pos}{Q:aJ}(hc:bK T.κ scope x=true)(hs:∀x,foldedSetIterable iter T.env x=pure x)
  (h:mE aU T m iter (fun v M1=>gN M1 v fun ds M2=>ds.length≤1000000∧J ds [] M2) M)
  (turn:let J1:=J;∀C b d ds acc N,b∉foot N→J1 (d::ds) acc N→let mc:=bE x (.fz d) (dR scope.names m);GQ (cT T scope C) mc elt ifs (J1 ds) acc b N)
  (done:∀b acc N,b∉foot N→J [] acc N→Gh Q (.loc b) ((b,.lst (acc.map .fz))::N)):Lf (TE T.W T.n T.env m (.ListComp elt [⟨.Name x px,iter,ifs,0⟩] scope pos) (Gh Q) M) :=
 pS a he J hc hs h (fun C b d ds acc N hb hj=>lK (xL a (turn C b d ds acc N hb hj)) fun ok M1 q=>by
  cases ok with
  |false=>exact q
  |true=>exact TE.ghost (oM a (show mE _ _ _ _ _ _ from q))) done
end
noncomputable def xW:List Int:=[97,98,99,39]
def Nd.old:Nd→Prop
 |.disc a b c=>a = []∧b = []∧c = []
 |_=>True
theorem Q3{α:Type}{p:α→Prop}{x:α}(h:p x):∀y∈[x],p y:=fun _ e=>Eq.substr (List.mem_singleton.mp e) h
structure ChOk(c:List Nd):Prop where
 let4:∀x∈c,∀i∈x.codes,i∈xW
 len:c.length≤800
 all:(cds c).length≤6
 fnt:∀x∈c,∀f,x.font=some f→FOk f
 fine:∀x∈c,x.small
 old:∀x∈c,x.old
theorem dY:∀{j:Nat}{i:Int},(aV i j).length=j
 |0,_=>rfl
 |j+1,i=>by rw [oW,List.length_cons,dY]
theorem cN(l:List Sh):cds (shN l)=csOf l:=by
 simp only [cds,csOf,shN,List.map_map];rfl
theorem RunOk.ch{f:Fnt}(hf:FOk f){codes:List Int}{nodes:List Sh}(h:RunOk f codes nodes)(hc:∀c∈codes,c∈xW)(hl:codes.length≤6):ChOk (shN nodes) where
 let4 x hx i hi:=hc i (by
  rw [←h.cat,←cN]
  exact List.mem_flatten.mpr ⟨_,mMr ⟨x,hx,rfl⟩,hi⟩)
 len:=by have:=h.room;simpa [shN]using this
 all:=by rw [cN,h.cat];exact hl
 fnt x hx g hg:=by
  obtain⟨y,hy,rfl⟩:=mMp hx
  rcases h.nok y hy with _|_|_
  ·(have e_:=Option.some.inj hg;clear hg;subst e_);exact hf
  ·(have e_:=Option.some.inj hg;clear hg;subst e_);exact hf
  ·exact aF hg
 fine x hx:=by
  obtain⟨y,hy,rfl⟩:=mMp hx
  exact trivial
 old x hx:=by
  obtain⟨y,hy,rfl⟩:=mMp hx
  trivial
theorem G6{c:Cn}{a b e:Addr}(hab:a≠b)(hae:a≠e)(hbe:b≠e)(h:bN W n c [.fz (.lst []),.fz (.lst []),.fz (.lst [])] Q M):bN W n c [.loc a,.loc b,.loc e] Q ((e,.lst [])::(b,.lst [])::(a,.lst [])::M) :=
 zG (x:=[]) (y:=[]) (z:=[]) hab hae hbe h
theorem lM(k:aG W){bx:Addr}{x y:Int}(hb:M.lookup bx=some (BX x y)){f1 f2:Fnt}(h1:FOk f1)(h2:FOk f2)(q:∀x' y' c,ChOk c→Q (.fz (ndL c)) (put M bx (BX x' y'))) :
  aA W (n+10) .law_chunk [.loc bx,.fz (.lst [f1.toD,f2.toD])] Q M:=by
 have hlk:∀{x' y':Int},(put M bx (BX x' y')).lookup bx=some (BX x' y'):=cW hb
 refine aH ‹_› rfl rfl rfl rfl rfl fun en_ he_=>?_;intro T;delta Lf
 refine⟨aS k hb (by decide) fun way x1 y1 w1 w2=>?_⟩
 delta Lf
 refine P5 k ‹_› (fun ds acc N=>∀R:List D→Led→Prop,(∀(j:Nat),∀(p:Int),∀(cs:List Int),∀(x:Int),∀(y:Int),ds=aV p j→(∀c∈cs,c∈xW)→cs.length+j≤5→1≤cs.length+j→R (cs.map .int) (put M bx (BX x y)))→R acc N) rfl (fun _=>rfl) ?_ ?_ ?_
 ·delta Lf
  refine⟨aS k hlk (by decide) fun r x2 y2 r1 r2=>?_⟩
  rw [dL]
  delta And
  refine⟨⟨by exact iQ,by exact iK,by exact F3 r1,by exact FI r2⟩,by rw [dY];exact HU r2,fun R F=>F (1+r-0).toNat 0 [] x2 y2 rfl (by exact fun _ h_=>(List.not_mem_nil h_).elim) (by(simp;exact FK r2)) (by(simp;exact Fk r1))⟩
 ·intro J1 C b d ds acc N hbN hj
  revert hbN
  apply hj;clear hj
  intro j p cs x3 y3 e hcs hle hge hbN
  revert hcs hle hge hbN
  apply dA e
  clear e
  intro j hcs hle hge hbN
  (intros;conv=>whnf)
  intro p1 hp1
  have g1:bx≠b:=fun e=>hbN (by rw [←e];exact aT (aD hlk) (aW _ _))
  have g2:bx≠p1:=fun e=>hp1 (by rw [←e];exact aT (aD ((look_skip g1).trans hlk)) (aW _ _))
  delta Lf
  refine⟨aS k ((look_skip g2).trans ((look_skip g1).trans hlk)) (by decide) fun r x2 y2 r1 r2=>?_⟩
  rw [aE g2,aE g1,dL]
  delta atC
  refine⟨_,look_self,?_⟩
  have hr:∃c,c∈xW∧cQ [V.fz (.int 97),.fz (.int 98),.fz (.int 99),.fz (.int 97),.fz (.int 98),.fz (.int 39)] r=some (.fz (.int c)):=by
   have:r=0∨r=1∨r=2∨r=3∨r=4∨r=5:=by exact GZ r1 r2
   rcases this with rfl|rfl|rfl|rfl|rfl|rfl
   ·exact⟨97,by decide,rfl⟩
   ·exact⟨98,by decide,rfl⟩
   ·exact⟨99,by decide,rfl⟩
   ·exact⟨97,by decide,rfl⟩
   ·exact⟨98,by decide,rfl⟩
   ·exact⟨39,by decide,rfl⟩
  obtain⟨c,hc,hr⟩:=hr
  delta And
  refine⟨by simp,_,hr,?_⟩
  delta Gh
  refine gh_cons (.done ?_)
  refine⟨.int c,put M bx (BX x2 y2),rfl,rfl,?_,fun R F=>R2 (by simp) rfl (F j _ (cs++[c]) x2 y2 rfl (fun i hi=>?_) (by(refine Eq.substr List.length_append ?_;exact pU ‹_›)) (by(refine Eq.substr List.length_append ?_;exact HC)))⟩
  ·rwa [cK (c':=BX x2 y2) hb rfl,←cK (c':=BX x3 y3) hb rfl]
  ·rcases mAp hi with h|h
   ·exact hcs i h
   ·rw [mSp h];exact hc
 ·intro b acc N hbN hj
  revert hbN
  apply hj;clear hj
  intro j p cs x3 y3 e hcs hle hge hbN
  rcases j with _|j
  rotate_left
  ·cases e
  refine bZ ?_
  delta cond
  have hoct:Oct cs:=fun c hc=>by
   have:=hcs c hc
   simp only [xW,List.mem_cons,List.not_mem_nil,or_false]at this
   exact AB this
  have hks:∀{f:Fnt},FOk f→∀c∈cs,c∈f.ks:=fun hf c hc=>by
   have:=hcs c hc
   simp only [xW,List.mem_cons,List.not_mem_nil,or_false]at this
   rcases hf.ks with e|e <;> rw [e] <;> simp only [List.mem_cons,List.not_mem_nil,or_false] <;>(first|exact O6 this|exact B4 this)
  refine aM (b:=decide (way<4)) (fun c1=>?_) fun c1=>?_
  ·delta And
   refine⟨by simp,_,rfl,?_⟩
   delta Lf
   refine⟨sR k h1 hoct (hks h1) (by exact ar_l ‹_› (by decide)) fun nodes hn=>?_⟩
   delta Gh
   refine .done ?_
   rw [kY]
   exact q _ _ _ (hn.ch h1 hcs (by exact ar_l ‹_› (by decide)))
  delta cond
  refine aM (b:=way==4) (fun c2=>?_) fun c2=>?_
  ·delta And
   refine⟨by simp,_,rfl,?_⟩
   delta Lf
   refine⟨T8 k h2 hoct (hks h2) (by exact ar_l ‹_› (by decide)) fun nodes hn=>?_⟩
   delta Gh
   refine .done ?_
   rw [kY]
   exact q _ _ _ (hn.ch h2 hcs (by exact ar_l ‹_› (by decide)))
  delta cond
  refine aM (b:=way==5) (fun c3=>?_) fun c3=>?_
  ·obtain⟨c,cs,rfl⟩:∃c r,cs=c::r:=by
    cases cs with
    |nil=>simp at hge
    |cons c r=>exact⟨c,r,rfl⟩
   have hc:=hcs c (.head _)
   have hc2:=hoct c (.head _)
   delta And
   refine⟨by simp,_,rfl,?_⟩
   delta And
   refine⟨by simp at hle ⊢;exact ar_le ‹_› (by decide),_,rfl,?_⟩
   delta Lf
   refine⟨zE k hc2.1 hc2.2 ?_⟩
   delta Lf
   refine⟨oJ k (by decide) (by decide) (by decide) (by decide) ?_⟩
   delta And
   refine⟨by simp,_,rfl,?_⟩
   delta Lf
   refine⟨tY k (.inr rfl) (by exact ar_l ‹_› (by decide)) (by decide) (by decide) hoct ?_⟩
   delta Lf
   refine⟨oJ k (by decide) (by decide) (by decide) (by decide) ?_⟩
   delta bL
   intro p1 hp1
   delta Gh
   refine dE (ds:=[(Sh.char f1 c).toD,(Sh.kern 3 0).toD,(Sh.lig f1 1 (c::cs) false false).toD,(Sh.kern 2 0).toD]) (.done ?_)
   refine q _ _ [.sh (.char f1 c),.sh (.kern 3 0),.sh (.lig f1 1 (c::cs) false false),.sh (.kern 2 0)] ⟨?_,by simp,?_,?_,?_,?_⟩
   ·simp only [List.mem_cons,List.not_mem_nil,or_false]
    rintro x (rfl|rfl|rfl|rfl) i hi
    ·simp only [eL,Sh.codes,List.mem_cons,List.not_mem_nil,or_false]at hi;rw [hi];exact hc
    ·cases hi
    ·exact hcs i hi
    ·cases hi
   ·simp [cds,eL,Sh.codes]at hle ⊢;exact ar_le ‹_› (by decide)
   ·simp only [List.mem_cons,List.not_mem_nil,or_false]
    rintro x (rfl|rfl|rfl|rfl) f hf <;>(first|(have e_:=Option.some.inj hf;clear hf;subst e_)|exact aF hf) <;> exact h1
   ·simp only [List.mem_cons,List.not_mem_nil,or_false]
    rintro x (rfl|rfl|rfl|rfl) <;> trivial
   ·simp only [List.mem_cons,List.not_mem_nil,or_false]
    rintro x (rfl|rfl|rfl|rfl) <;> trivial
  delta cond
  refine aM (b:=way==6) (fun c4=>?_) fun c4=>?_
  ·delta Lf
   refine⟨E4 k ?_⟩
   delta Lf
   refine⟨zO k ?_⟩
   delta bL
   intro p1 hp1
   delta Gh
   refine dE (ds:=[.inst .Skip [vH 7 0 0,.int 0,.none]]) (.done ?_)
   exact q _ _ [.skip 7 0 0] ⟨Q3 nofun,by simp,Nat.zero_le _,Q3 nofun,Q3 trivial,Q3 trivial⟩
  delta Lf
  refine⟨xX k (by decide) (by decide) ?_⟩
  conv=>whnf
  intro p1 hp1
  delta Lf
  refine⟨oJ k (by decide) (by decide) (by decide) (by decide) ?_⟩
  conv=>whnf
  intro p2 hp2
  delta Lf
  refine⟨nG k (by decide) (by decide) ?_⟩
  conv=>whnf
  intro p3 hp3
  delta Lf
  refine⟨nG k (by decide) (by decide) ?_⟩
  conv=>whnf
  intro p4 hp4
  conv=>whnf
  intro p5 hp5
  conv=>whnf
  intro p6 hp6
  conv=>whnf
  intro p7 hp7
  delta Lf
  have h56:p5≠p6:=fun e=>hp6 (by rw [←e];exact .head _)
  have h57:p5≠p7:=fun e=>hp7 (by rw [←e];exact .tail _ (.head _))
  have h67:p6≠p7:=fun e=>hp7 (by rw [←e];exact .head _)
  refine⟨G6 h56 h57 h67 (b8 (a:=[]) (b:=[]) (c:=[]) k ?_)⟩
  conv=>whnf
  intro p8 hp8
  conv=>whnf
  intro po hpo
  delta Lf
  clear hp5 hp6 hp7 h56 h57 h67
  have l0:=hlk (x':=x3) (y':=y3)
  have ne:∀{N:Led}{p:Addr}{c:Cell},p∉foot N→N.lookup bx=some (BX x3 y3)→bx≠p∧List.lookup bx ((p,c)::N)=some (BX x3 y3):=fun hp hl =>
   have h:bx≠_:=fun e=>hp (by rw [←e];exact aT (aD hl) (aW _ _))
   ⟨h,(look_skip h).trans hl⟩
  obtain⟨g1,l1⟩:=ne hp1 l0
  obtain⟨g2,l2⟩:=ne hp2 l1
  obtain⟨g3,l3⟩:=ne hp3 l2
  obtain⟨g4,l4⟩:=ne hp4 l3
  obtain⟨g8,l8⟩:=ne hp8 l4
  obtain⟨go,lo⟩:=ne hpo l8
  refine⟨aS k lo (by decide) fun r x2 y2 r1 r2=>?_⟩
  rw [aE go,aE g8,aE g4,aE g3,aE g2,aE g1,dL]
  delta atC
  refine⟨_,look_self,?_⟩;delta And
  have q1:∀z:Nd,z.codes = []→z.font=none→z.small→z.old→Q (.fz (ndL [z])) (put M bx (BX x2 y2)):=fun z z1 z2 z3 z4=>q _ _ [z] ⟨by simp [z1],by simp,by simp [cds,z1],by simp [z2],by simpa using z3,by simpa using z4⟩
  have:r=0∨r=1∨r=2∨r=3∨r=4:=by exact W4 r1 r2
  rcases this with rfl|rfl|rfl|rfl|rfl
  ·refine⟨by simp,.loc p1,rfl,?_⟩
   delta Gh
   exact gh_cons (gh_cons (gh_cons (gh_cons (gh_cons (dE (ds:=[(Nd.pen 5).toD]) (.done (q1 (.pen 5) rfl rfl trivial trivial)))))))
  ·refine⟨by simp,.loc p2,rfl,?_⟩
   delta Gh
   exact gh_cons (gh_cons (gh_cons (gh_cons (dE (ds:=[(Nd.sh (.kern 4 1)).toD]) (gh_cons (.done (q1 (.sh (.kern 4 1)) rfl rfl trivial trivial)))))))
  ·refine⟨by simp,.loc p3,rfl,?_⟩
   delta Gh
   exact gh_cons (gh_cons (gh_cons (dE (ds:=[(Nd.math true 0).toD]) (gh_cons (gh_cons (.done (q1 (.math true 0) rfl rfl trivial trivial)))))))
  ·refine⟨by simp,.loc p4,rfl,?_⟩
   delta Gh
   exact gh_cons (gh_cons (dE (ds:=[(Nd.math false 0).toD]) (gh_cons (gh_cons (gh_cons (.done (q1 (.math false 0) rfl rfl trivial trivial)))))))
  ·refine⟨by simp,.loc p8,rfl,?_⟩
   delta Gh
   exact gh_cons (dE (ds:=[(Nd.disc [] [] []).toD]) (gh_cons (gh_cons (gh_cons (gh_cons (.done (q1 (.disc [] [] []) rfl rfl ⟨by exact Nat.zero_le _,by exact Nat.zero_le _,by exact Nat.zero_le _⟩ ⟨rfl,rfl,rfl⟩)))))))
end
section
variable{W:Wd}{n:Nat}{M:Led}{Q:aJ}
section
variable{env:Env}{κ:Ks}{m:Loc}
theorem X8{T:Tk}(a:aG T.W)(he:T.env.scope.names=T.κ){α:Type}(f:α→D)(g:α→List D)(l:List α){elt iter:Expr}{y:Str}{py spos:Pos}{x:Str}{px:Pos}{ifs:List Expr}{scope:Scope}{pos:Pos}{Q:bG}(hc:bK T.κ scope x=true)(hs:∀x,foldedSetIterable iter T.env x=pure x)(hy:kIs T.κ y kSt=true)
  (h:mE aU T m iter (fun v M1=>gN M1 v fun ds M2=>ds=l.map f∧ds.length≤1000000∧M2=M) M)
  (turn:∀C b y acc,b∉foot M→y∈l→let mc:=bE x (.fz (f y)) (dR scope.names m);zT (cT T scope C) mc elt ifs (fun r=>r=acc++g y) acc ((b,.lst (acc.map .fz))::M))
  (done:pO M m∧Fz (Q .next) (bE y (.fz (.lst (l.map g).flatten)) m) M):Lf (TS T.W T.n T.env (.Assign [.Name y py] (.ListComp elt [⟨.Name x px,iter,ifs,0⟩] scope pos) spos) m (FzQ Q) M) :=
 let J:List D→List D→Led→Prop:=fun ds acc N=>∃l1 l2,ds=l2.map f∧acc=(l1.map g).flatten∧l1++l2=l∧N=M
 ⟨jR a.wk (sP J) (by rw [he];exact hc) hs (iC (cA he) hy) (Tr.mono (lL a he h) fun v M1 q=>by
  obtain⟨ds,M2,e,hd,hl,hj⟩:=dW q
  exact⟨ds,M2,e,fun b hb=>⟨M2,[],rfl,rfl,hb,⟨[],l,hd,rfl,rfl,hj⟩,by simpa using hl⟩⟩) (fun C b d ds acc M' hj=>jN J (fun d ds acc N hb hp_=>by
   obtain⟨l1,l2,e1,e2,e3,e4⟩:=hp_
   subst e2 e4
   rcases l2 with _|⟨y,l2⟩
   ·exact bV e1
   cases e1
   exact oY (uI a hb (P:=fun _ r=>r=(l1.map g).flatten++g y) (ds:=[]) (turn C b y _ hb (by rw [←e3];simp))) fun r N hp_=>⟨l1++[y],l2,rfl,by rw [hp_.1];simp,by rw [←e3];simp,hp_.2⟩) hj) fun b acc M' hp_=>by
   obtain⟨N,as,e5,e6,hb,⟨l1,l2,e1,e2,e3,e4⟩,_⟩:=hp_
   subst e5 e6 e2 e4
   have:l2 = []:=map_nil e1
   subst this
   rw [List.append_nil]at e3
   subst e3
   exact tH hb done.1 done.2⟩
end
theorem lI{α:Type}{i c:Int}{a v:α}(h:(if c=i then some a else none)=some v):i=c∧v=a:=by
 by_cases e:c=i
 ·rw [if_pos e]at h;exact⟨e.symm,(Option.some.inj h).symm⟩
 ·rw [if_neg e]at h;exact aF h
theorem dGet_put_inv{α:Type}{i c:Int}{a v:α}:∀{ks:List Int}{l:List α},dGet i (dPut c a ks l).1 (dPut c a ks l).2=some v→(i=c∧v=a)∨dGet i ks l=some v
 |[],_,h=>by
  exact .inl (lI h)
 |k::ks,[],h=>.inl (lI h)
 |k::ks,b::l,h=>by
  rw [eG]at h
  by_cases e:k=c
  ·rw [if_pos e]at h
   have h:(if k=i then some a else dGet i ks l)=some v:=h
   by_cases e2:k=i
   ·rw [if_pos e2]at h;exact .inl ⟨e2.symm.trans e,(Option.some.inj h).symm⟩
   ·rw [if_neg e2]at h;exact .inr ((if_neg e2).trans h)
  ·rw [if_neg e]at h
   have h:(if k=i then some b else dGet i (dPut c a ks l).1 (dPut c a ks l).2)=some v:=h
   by_cases e2:k=i
   ·rw [if_pos e2]at h;exact .inr ((if_pos e2).trans h)
   ·rw [if_neg e2]at h;exact(dGet_put_inv h).imp id (if_neg e2).trans
theorem lS{α:Type}{i:Int}(h:Int→α):∀{ks:List Int},dGet i ks (ks.map h)=if i∈ks then some (h i)else none
 |[]=>rfl
 |k::ks=>by
  rw [List.map_cons,eD]
  by_cases e:k=i
  ·rw [if_pos e,if_pos (e▸.head _),e]
  ·rw [if_neg e,lS]
   by_cases z:i∈ks
   ·rw [if_pos z,if_pos (.tail _ z)]
   ·rw [if_neg z,if_neg fun q=>(mCp q).elim (fun q=>e q.symm) z]
theorem jS{α:Type}{i:Int}{v:α}:∀{ks:List Int}{l:List α},dGet i ks l=some v→i∈ks
 |k::ks,b::l,h=>by
  rw [eD]at h
  by_cases e:k=i
  ·exact e▸.head _
  ·rw [if_neg e]at h;exact .tail _ (jS h)
structure PrgOk(bks bvs:List Int)(prog:List (Int × Int × Int × Int))(top:Nat):Prop where
 rows:∀r∈prog,h9 r
 len:bks.length=bvs.length
 few:bks.length≤3
 beg:∀c v,dGet c bks bvs=some v→0≤v∧v<top∧(c=97∨c=98∨c=45)
noncomputable def iH:List Int:=[97,98,99,39,45,1,2]
noncomputable def mI:List Int:=[97,98,99,39,45]
noncomputable def begRow(bks bvs:List Int)(c:Int):Int × Int:=(if c∈bks then 1 else 0,(dGet c bks bvs).getD 0)
noncomputable def gQ(bks bvs:List Int)(prog:List (Int × Int × Int × Int)):Fnt:=⟨1,"fa",5,iH,iH.map (begRow bks bvs),prog,[3,-2],[0,4,2,1]⟩
noncomputable def fL:Fnt:=⟨2,"fb",6,mI,mI.map fun _=>(0,0),[],[],[0,196608,98304,65536,262144,655360,65536]⟩
def qL(prog:List (Int × Int × Int × Int)):Prop:=∀i r,prog[i]?=some r→i+1=prog.length→r.1=128
theorem j8{bks bvs:List Int}{prog:List (Int × Int × Int × Int)}{c:Int}:(gQ bks bvs prog).row c=if c∈iH then begRow bks bvs c else(0,0):=by
 unfold Fnt.row gQ
 simp only [lS]
 split <;> rfl
theorem begRow_ok{bks bvs:List Int}{prog:List (Int × Int × Int × Int)}(h:PrgOk bks bvs prog prog.length)(c:Int):(begRow bks bvs c=(0,0))∨∃v,begRow bks bvs c=(1,v)∧0≤v∧v<prog.length∧(c=97∨c=98∨c=45):=by
 unfold begRow
 by_cases hc:c∈bks
 ·obtain⟨v,hv⟩:=rI h.len hc
  refine .inr ?_
  rw [if_pos hc,hv]
  exact⟨v,rfl,h.beg c v hv⟩
 ·refine .inl ?_
  rw [if_neg hc]
  cases hg:dGet c bks bvs with
  |none=>rfl
  |some v=>exact absurd (jS hg) hc
theorem H4{bks bvs:List Int}{prog:List (Int × Int × Int × Int)}(h:PrgOk bks bvs prog prog.length)(hs:qL prog)(hf:prog.length≤6):FIn (gQ bks bvs prog)∧FOk (gQ bks bvs prog):=by
 refine⟨⟨rfl,by simp [gQ,iH],fun c hc=>?_,fun r hr=>?_,⟨show(0:Int)≤5 by decide,show(5:Int)≤100 by decide⟩,h.rows,hs,fun _ c hc=>hc,fun _=>rfl,?_,by simp [gQ],?_,by simp [gQ],?_⟩,⟨h.rows,hs,fun c=>?_,fun _=>rfl,?_,.inl rfl⟩⟩
 ·simp only [gQ,iH,List.mem_cons,List.not_mem_nil,or_false]at hc;exact Gp hc
 ·obtain⟨c,hc,rfl⟩:=mMp hr
  rcases begRow_ok h c with e|⟨v,e,h1,h2,_⟩
  ·rw [e];exact⟨by decide,by decide,.inl rfl⟩
  ·rw [e];exact⟨h1,by simp only;exact Hl hf h2,.inr ⟨rfl,h2⟩⟩
 ·unfold n9 gQ;simp only [List.mem_cons,List.not_mem_nil,or_false];lia
 ·unfold n9 gQ;simp only [List.mem_cons,List.not_mem_nil,or_false];lia
 ·show prog.length≤100;exact ar_le ‹_› (by decide)
 ·unfold Fnt.starts
  rw [j8]
  split
  ·exact .inl rfl
  have hz:=begRow_ok h c
  generalize begRow bks bvs c=z at hz
  by_cases hk:c∈iH
  ·rw [if_pos hk]
   rcases hz with rfl|⟨v,rfl,h1,h2,h3⟩
   ·exact .inl rfl
   ·exact .inr ⟨h1,h2,h3⟩
  ·rw [if_neg hk]
   exact .inl rfl
 ·show prog.length≤100;exact ar_le ‹_› (by decide)
theorem K8:FIn fL∧FOk fL:=by
 refine⟨⟨rfl,by simp [fL,mI],fun c hc=>?_,fun r hr=>?_,by decide,fun r h=>(nomatch h),fun i r h=>by simp [fL]at h,fun h=>absurd rfl h,fun h=>absurd rfl h,fun c h=>(nomatch h),by simp [fL],?_,by simp [fL],by simp [fL]⟩,⟨fun r h=>(nomatch h),fun i r h=>by simp [fL]at h,fun c=>.inl ?_,fun h=>absurd rfl h,by simp [fL],.inr rfl⟩⟩
 ·simp only [fL,mI,List.mem_cons,List.not_mem_nil,or_false]at hc;exact Hg hc
 ·obtain⟨c,hc,rfl⟩:=mMp hr
  exact⟨by decide,by decide,.inl rfl⟩
 ·unfold n9 fL;simp only [List.mem_cons,List.not_mem_nil,or_false];lia
 ·unfold Fnt.starts Fnt.row fL
  simp only [lS (fun _=>((0:Int),(0:Int)))]
  split
  ·rfl
  ·rw [if_neg]
   split <;> decide
noncomputable def LF(bg pc:Addr)(bks bvs:List Int)(prog:List (Int × Int × Int × Int))(M:Led):Led:=(bg,.dct bks ((bvs.map D.int).map .fz))::(pc,.lst ((prog.map bF).map .fz))::M
set_option maxHeartbeats 1000000 in
theorem uH(k:aG W){bx:Addr}{x y:Int}(hb:M.lookup bx=some (BX x y))(q:∀x' y' f1 f2,FOk f1→FOk f2→Q (.fz (.lst [f1.toD,f2.toD])) (put M bx (BX x' y'))):aA W (n+8) .law_fonts [.loc bx] Q M:=by
 have hlk:∀{x' y':Int},(put M bx (BX x' y')).lookup bx=some (BX x' y'):=cW hb
 have hbm:bx∈foot M:=aT (aD hb) (aW _ _)
 refine aH ‹_› rfl rfl rfl rfl rfl fun en_ he_=>?_;intro T;conv=>whnf
 intro pc hpc
 conv=>whnf
 intro bg hbg
 delta Lf
 have g1:bx≠pc:=fun e=>hpc (by rw [←e];exact hbm)
 have g2:bx≠bg:=fun e=>hbg (by rw [←e];exact .tail _ hbm)
 have g3:pc≠bg:=fun e=>hbg (by rw [←e];exact .head _)
 have hl2:∀{bks bvs prog}{x' y':Int},List.lookup bx (LF bg pc bks bvs prog (put M bx (BX x' y')))=some (BX x' y'):=(look_skip g2).trans ((look_skip g1).trans hlk)
 have hp2:∀{bks bvs prog}{x' y' x2 y2:Int},put (LF bg pc bks bvs prog (put M bx (BX x' y'))) bx (BX x2 y2)=LF bg pc bks bvs prog (put M bx (BX x2 y2)):=by
  intros;unfold LF;rw [aE g2,aE g1,dL]
 refine cD (fun m N=>∀R:Loc→Led→Prop,(∀bks,∀bvs,∀prog,∀x,∀y,PrgOk bks bvs prog prog.length→qL prog→prog.length≤6→R [("program",.loc pc),("begins",.loc bg)] (LF bg pc bks bvs prog (put M bx (BX x y))))→R m N) ?_ ?_
 rotate_left
 ·intro P1 m N hj
  apply hj;clear hj
  intro bks bvs prog x2 y2 ho hst hp6
  refine .go ?_
  delta Lf
  have hpl:pc∉foot (put M bx (BX x2 y2)):=by rwa [cK (c':=BX x2 y2) hb rfl]
  have hbl:bg∉foot (put M bx (BX x2 y2)):=fun h=>hbg (by rw [cK (c':=BX x2 y2) hb rfl]at h;exact .tail _ h)
  obtain⟨f1i,f1o⟩:=H4 ho hst hp6
  obtain⟨f2i,f2o⟩:=K8
  refine X8 k ‹_› D.int (fun c=>[RI.toD 5 ⟨c,begRow bks bvs c,true⟩]) iH rfl (fun _=>rfl) rfl ?_ (fun C b c acc hb' hc=>?_) ⟨?_,?_⟩
  ·delta And
   exact⟨rfl,by decide,rfl⟩
  ·have hbb:bg≠b:=fun e=>hb' (by rw [←e];exact .head _)
   have hlb:∀{c},List.lookup bg ((b,c)::LF bg pc bks bvs prog (put M bx (BX x2 y2)))=some (.dct bks ((bvs.map D.int).map .fz)):=(look_skip hbb).trans look_self
   have fin:∀{v:Int},v=(begRow bks bvs c).1→∀{w:Int},w=(begRow bks bvs c).2→acc++[D.tup [.int c,.int 5,.int 5,.int 0,.int 0,.int v,.int w]]=acc++[RI.toD 5 ⟨c,begRow bks bvs c,true⟩]:=by rintro v rfl w rfl;rfl
   delta Or
   refine .inl ⟨bg,_,_,rfl,hlb,?_⟩
   delta cond
   refine aM (b:=decide (c∈bks)) (fun c1=>?_) fun c1=>?_
   ·delta atC
    refine⟨_,hlb,?_⟩;delta Exists
    refine⟨bks,(bvs.map D.int).map .fz,_,congrArg cDv hlb,lA (f:=D.int) rfl,?_⟩
    conv=>whnf
    exact⟨_,rfl,rfl,fin (by simp [begRow,of_decide_eq_true c1]) rfl⟩
   ·delta atC
    refine⟨_,hlb,?_⟩;delta Exists
    refine⟨bks,(bvs.map D.int).map .fz,_,congrArg cDv hlb,lA (f:=D.int) rfl,?_⟩
    conv=>whnf
    exact⟨_,rfl,rfl,fin (by simp [begRow,of_decide_eq_false c1]) rfl⟩
  ·exact⟨.tail _ (.head _),.head _,trivial⟩
  rw [eY]
  refine .drp bg ?_
  rw [LF,aB]
  refine .sub [("program",.loc pc),("rows",.fz (.lst (iH.map fun c=>RI.toD 5 ⟨c,begRow bks bvs c,true⟩)))] rfl (.go ?_)
  delta Lf
  refine X8 k ‹_› D.int (fun c=>[RI.toD 6 ⟨c,(0,0),false⟩]) mI rfl (fun _=>rfl) rfl ?_ (fun C b c acc hb' hc=>?_) ⟨⟨.head _,trivial,trivial⟩,?_⟩
  ·delta And
   exact⟨rfl,by decide,rfl⟩
  ·(intros;conv=>whnf)
   exact⟨_,rfl,rfl,rfl⟩
  rw [eY]
  refine .go ?_
  delta Lf
  refine⟨eJ [.int 1,.lst (iH.map fun c=>RI.toD 5 ⟨c,begRow bks bvs c,true⟩),.tup [.int 0,.int 4,.int 2,.int 1]] [.tup [.int 3,.int (-2)]] (gX k (f:=gQ bks bvs prog) f1i (d:=.lst (prog.map bF)) (.inl rfl) (.inl ⟨rfl,rfl⟩) (ri:=iH.map fun c=>⟨c,begRow bks bvs c,true⟩) rfl rfl (show iH.Nodup by decide) (fun x hx h=>?_) (.inl rfl) ?_)⟩
  ·obtain⟨c,_,rfl⟩:=mMp hx;exact dP h
  delta Lf
  refine⟨gX k (f:=fL) f2i (d:=.tup []) (.inr ⟨rfl,rfl⟩) (.inr ⟨rfl,rfl⟩) (ri:=mI.map fun c=>⟨c,(0,0),false⟩) rfl rfl (by decide) (fun x hx h=>?_) (.inr ⟨rfl,rfl,rfl,rfl⟩) ?_⟩
  ·obtain⟨c,_,rfl⟩:=mMp hx;rfl
  delta bL
  intro p hp
  delta Gh
  exact dE (ds:=[(gQ bks bvs prog).toD,fL.toD]) (.done (q _ _ _ _ f1o f2o))
 intro P1
 refine aX k ‹_› (fun es m N=>∀R:Loc→Led→Prop,(∀(cs:List Int),∀(bks:List Int),∀(bvs:List Int),∀(prog:List (Int × Int × Int × Int)),∀(x:Int),∀(y:Int),es=cs.map D.int→(∀c∈cs,c=97∨c=98∨c=45)→PrgOk bks bvs prog prog.length→qL prog→bks.length+cs.length≤3→prog.length+2*cs.length≤6→R [("box",.loc bx),("program",.loc pc),("begins",.loc bg)] (LF bg pc bks bvs prog (put M bx (BX x y))))→R m N) rfl (fun _=>rfl) ?_ ?_ ?_
 ·conv=>whnf
  exact fun R F=>R2 rfl (by rw [oL hb];rfl) (F [97,98,45] [] [] [] x y rfl (by simp) ⟨by exact fun _ h_=>(List.not_mem_nil h_).elim,rfl,by exact Nat.zero_le _,fun c v h=>by exact aF h⟩ (show qL []from fun i r h=>by simp at h) (by simp) (by simp))
 ·intro J1 Q1 d es m N hj
  apply hj;clear hj
  intro cs bks bvs prog x1 y1 e hcs ho hst hl3 hl6
  revert hcs ho hst hl3 hl6
  apply map_cons e
  clear e
  intro c cs hcs ho hst hl3 hl6
  have hc:=hcs c (.head _)
  delta Lf
  refine⟨aS k hl2 (by decide) fun r x2 y2 r1 r2=>?_⟩
  rw [hp2]
  delta cond
  refine aM (b:=decide (0<r)) (fun c1=>?_) fun c1=>?_
  rotate_left
  ·delta Fz
   exact .sub [("box",.loc bx),("program",.loc pc),("begins",.loc bg)] rfl (.go (fun R F=>F cs bks bvs prog x2 y2 rfl (fun c h=>hcs c (.tail _ h)) ho hst (by simp at hl3;exact wF ‹_›) (by simp at hl6;exact Ed hl6)))
  delta atC
  refine⟨_,bH g3,by simp at hl6 ⊢;exact ar_l ‹_› (by decide),?_⟩
  delta atC
  rw [List.length_map,List.length_map]
  have hdl:=oS c (prog.length:Int) bks bvs ho.len
  have ho2:PrgOk (dPut c (prog.length:Int) bks bvs).1 (dPut c (prog.length:Int) bks bvs).2 prog (prog.length+1):=⟨ho.rows,hdl.1,by simp at hl3;exact Ew hl3 hdl,fun c' v h=>by
   rcases dGet_put_inv h with⟨rfl,rfl⟩|h
   ·exact⟨by exact l6,by exact Gk,hc⟩
   ·have:=ho.beg _ _ h;exact⟨this.1,by exact Fg this,this.2.2⟩⟩
  refine⟨_,look_self,by simp at hl3;exact ar_l ‹_› (by decide),LF bg pc (dPut c (prog.length:Int) bks bvs).1 (dPut c (prog.length:Int) bks bvs).2 prog (put M bx (BX x2 y2)),aC.trans (by rw [tM D.int];rfl),?_⟩
  have hdl2:(dPut c (prog.length:Int) bks bvs).1.length+cs.length≤3:=by simp at hl3;exact EI hl3 hdl
  generalize (dPut c (prog.length:Int) bks bvs).1=bks2 at ho2 hdl2
  generalize (dPut c (prog.length:Int) bks bvs).2=bvs2 at ho2
  delta Lf
  refine⟨aS k hl2 (by decide) fun r2 x3 y3 r3 r4=>?_⟩
  rw [hp2]
  delta Lf
  refine bX [("box",.loc bx),("program",.loc pc),("begins",.loc bg),("many",.fz (.int (1+r2)))] rfl ?_
  refine aX k ‹_› (fun es m N=>∀R:Loc→Led→Prop,(∀(j:Nat),∀(p:Nat),∀(prog':List (Int × Int × Int × Int)),∀(x:Int),∀(y:Int),es=aV p j→(p+j:Int)=1+r2→prog'.length=prog.length+p→(∀r∈prog',h9 r)→(j=0→qL prog')→R [("box",.loc bx),("program",.loc pc),("begins",.loc bg),("many",.fz (.int (1+r2)))] (LF bg pc bks2 bvs2 prog' (put M bx (BX x y))))→R m N) rfl (fun _=>rfl) ?_ ?_ ?_
  ·delta And
   refine⟨⟨by exact iQ,by exact iK,by exact F3 r3,by exact Ek r4⟩,fun R F=>F (1+r2-0).toNat 0 prog x3 y3 rfl (by exact q_314 r3) rfl ho.rows (fun h=>by lia)⟩
  ·intro J1 Q1 d es m N hj
   apply hj;clear hj
   intro j p prog' x4 y4 e hj hpl hrw hj0
   revert hj hpl hrw hj0
   apply dA e
   clear e
   intro j hj hpl hrw hj0
   delta Lf
   refine⟨aS k hl2 (by decide) fun way x5 y5 w1 w2=>?_⟩
   rw [hp2]
   conv=>whnf
   intro p1 hp1
   have e1:bx≠p1:=fun e=>hp1 (by rw [←e];exact aT (aD hl2) (aW _ _))
   have e2:pc≠p1:=fun e=>hp1 (by rw [←e];exact .tail _ (.head _))
   delta Lf
   refine⟨aS k ((look_skip e1).trans hl2) (by decide) fun bh x6 y6 b1 b2=>?_⟩
   rw [aE e1,hp2]
   delta atC
   refine⟨_,look_self,?_⟩
   have hbh:∃c,c∈FOL∧cQ [V.fz (.int 97),.fz (.int 98),.fz (.int 99),.fz (.int 45),.fz (.int 39)] bh=some (.fz (.int c)):=by
    have:bh=0∨bh=1∨bh=2∨bh=3∨bh=4:=by exact W4 b1 b2
    rcases this with rfl|rfl|rfl|rfl|rfl
    ·exact⟨97,by decide,rfl⟩
    ·exact⟨98,by decide,rfl⟩
    ·exact⟨99,by decide,rfl⟩
    ·exact⟨45,by decide,rfl⟩
    ·exact⟨39,by decide,rfl⟩
   obtain⟨fo,hfo,hbh⟩:=hbh
   delta And
   refine⟨by simp,_,hbh,?_⟩
   have hpf:(prog'.map bF).length≤999999:=by simp at hl6 ⊢;exact Ef hl6 r4 hj hpl
   have fin:∀{m:Loc}{N:Led}(sk op re:Int),((op=128∧(re=0∨re=1))∨(op∈OPS∧(re=1∨re=2)))→(sk=0∨sk=128)→(j=0→sk=128)→kL [("box",.loc bx),("program",.loc pc),("begins",.loc bg),("many",.fz (.int (1+r2)))] m→N=LF bg pc bks2 bvs2 (prog'++[(sk,fo,op,re)]) (put M bx (BX x6 y6)) →
     Fz (J1 (aV ((p:Int)+1) j)) m N:=by
    rintro m N sk op re h1 h2 h3 hm rfl
    refine .sub _ hm (.go (fun R F=>F j (p+1) (prog'++[(sk,fo,op,re)]) x6 y6 rfl (by exact Dt hj) (by(refine Eq.substr List.length_append ?_;exact Ea hpl)) (fun r hr=>?_) (fun hj0 i r hi hl=>?_)))
    ·rcases mAp hr with h|h
     ·exact hrw r h
     ·rw [mSp h];exact⟨h2,hfo,h1⟩
    ·rw [List.length_append,List.length_singleton]at hl
     rw [List.getElem?_append_right (by exact DV hj hpl hj0 hl),show i-prog'.length=0 by exact GY hj hpl hj0 hl]at hi
     (have e_:=Option.some.inj hi;clear hi;subst e_)
     exact h3 hj0
   delta cond
   refine aM (b:=decide (way<2)) (fun c2=>?_) fun c2=>?_
   ·delta atC
    refine⟨_,(look_skip e2).trans (bH g3),?_⟩;delta cond
    refine aM (b:=(p:Int)==1+r2-1) (fun c3=>?_) fun c3=>?_
    ·delta cond
     refine aM (b:=decide (way<2)) (fun _=>?_) fun c4=>absurd (c2.symm.trans c4) (by decide)
     delta atC
     refine⟨_,(look_skip e2).trans (bH g3),by simp at hpf ⊢;exact ar_le ‹_› (by decide),_,(aE e2).trans (congrArg _ (gP g3)),?_⟩
     delta Fz
     refine .drp p1 ?_
     rw [aB]
     exact fin 128 (128) (way) (.inl ⟨rfl,by have:=of_decide_eq_true c2;exact W7 w1 c2⟩) (.inr rfl) (fun _=>rfl) (by rfl) (by simp [LF,bF])
    ·delta cond
     refine aM (b:=decide (way<2)) (fun _=>?_) fun c4=>absurd (c2.symm.trans c4) (by decide)
     delta atC
     refine⟨_,(look_skip e2).trans (bH g3),by simp at hpf ⊢;exact ar_le ‹_› (by decide),_,(aE e2).trans (congrArg _ (gP g3)),?_⟩
     delta Fz
     refine .drp p1 ?_
     rw [aB]
     exact fin 0 (128) (way) (.inl ⟨rfl,by have:=of_decide_eq_true c2;exact W7 w1 c2⟩) (.inl rfl) (fun h=>absurd (beq_iff_eq.mpr (show(p:Int)=1+r2-1 by exact W9 hj h)) (by rw [c3];decide)) (by rfl) (by simp [LF,bF])
   ·conv=>whnf
    intro p2 hp2'
    delta atC
    have e3:pc≠p2:=fun e=>hp2' (by rw [←e];exact .tail _ (.tail _ (.head _)))
    refine⟨_,look_self,?_⟩
    have hop:∃c,c∈OPS∧cQ [V.fz (.int 0),.fz (.int 1),.fz (.int 2),.fz (.int 3),.fz (.int 5),.fz (.int 6),.fz (.int 7),.fz (.int 11)] (way-2)=some (.fz (.int c)):=by
     have:=of_decide_eq_false c2
     have:way=2∨way=3∨way=4∨way=5∨way=6∨way=7∨way=8∨way=9:=by exact HM w2 c2
     rcases this with rfl|rfl|rfl|rfl|rfl|rfl|rfl|rfl
     ·exact⟨0,by decide,rfl⟩
     ·exact⟨1,by decide,rfl⟩
     ·exact⟨2,by decide,rfl⟩
     ·exact⟨3,by decide,rfl⟩
     ·exact⟨5,by decide,rfl⟩
     ·exact⟨6,by decide,rfl⟩
     ·exact⟨7,by decide,rfl⟩
     ·exact⟨11,by decide,rfl⟩
    obtain⟨op,hop,hro⟩:=hop
    delta And
    refine⟨by simp,_,hro,?_⟩
    delta atC
    refine⟨_,(look_skip e3).trans ((look_skip e2).trans (bH g3)),?_⟩;delta cond
    refine aM (b:=(p:Int)==1+r2-1) (fun c3=>?_) fun c3=>?_
    ·delta cond
     refine aM (b:=decide (way<2)) (fun c4=>absurd (c2.symm.trans c4) (by decide)) fun _=>?_
     delta atC
     refine⟨_,(look_skip e3).trans ((look_skip e2).trans (bH g3)),by simp at hpf ⊢;exact ar_le ‹_› (by decide),_,(aE e3).trans (congrArg _ ((aE e2).trans (congrArg _ (gP g3)))),?_⟩
     delta Fz
     refine .drp p2 ?_
     rw [aB]
     refine .drp p1 ?_
     rw [aB]
     exact fin 128 (op) ((1+way%2)) (.inr ⟨hop,by exact W8⟩) (.inr rfl) (fun _=>rfl) (by rfl) (by simp [LF,bF])
    ·delta cond
     refine aM (b:=decide (way<2)) (fun c4=>absurd (c2.symm.trans c4) (by decide)) fun _=>?_
     delta atC
     refine⟨_,(look_skip e3).trans ((look_skip e2).trans (bH g3)),by simp at hpf ⊢;exact ar_le ‹_› (by decide),_,(aE e3).trans (congrArg _ ((aE e2).trans (congrArg _ (gP g3)))),?_⟩
     delta Fz
     refine .drp p2 ?_
     rw [aB]
     refine .drp p1 ?_
     rw [aB]
     exact fin 0 (op) ((1+way%2)) (.inr ⟨hop,by exact W8⟩) (.inl rfl) (fun h=>absurd (beq_iff_eq.mpr (show(p:Int)=1+r2-1 by exact W9 hj h)) (by rw [c3];decide)) (by rfl) (by simp [LF,bF])
  ·intro m N hj
   apply hj;clear hj
   intro j p prog' x4 y4 e hj hpl hrw hst2
   rcases j with _|j
   rotate_left
   ·cases e
   refine .sub [("box",.loc bx),("program",.loc pc),("begins",.loc bg)] rfl (.go (.go (fun R F=>F cs bks2 bvs2 prog' x4 y4 rfl (fun c h=>hcs c (.tail _ h)) ⟨hrw,ho2.len,ho2.few,fun c v h=>?_⟩ (hst2 rfl) hdl2 (by simp at hl6;exact EW hl6 r4 hpl hj))))
   have:=ho2.beg c v h
   exact⟨this.1,by exact Hc r3 hpl hj this,this.2.2⟩
 ·intro m N hj
  apply hj;clear hj
  intro cs bks bvs prog x1 y1 e hcs ho hst hl3 hl6
  rcases cs with _|⟨c,cs⟩
  ·exact .sub [("program",.loc pc),("begins",.loc bg)] rfl (.go (fun R F=>F bks bvs prog x1 y1 ho hst (by simp at hl6;exact ar_le ‹_› (by decide))))
  ·cases e
end
section
variable{W:Wd}{n:Nat}{M:Led}{Q:aJ}
noncomputable def T0:PT:=⟨[],[],[],[],1⟩
noncomputable def T1:PT:=⟨[97],[1],[1],[[0,1]],2⟩
noncomputable def T2(a:Int)(ds:List Int):PT:=⟨[97,a],[1,2],[1,2],[[0,1],ds],3⟩
noncomputable def T3(a b:Int)(ds:List Int):PT:=⟨[97,a,512+b],[1,2,3],[1,3],[[0,1],ds],4⟩
inductive LawT:PT→Prop
 |one:LawT T1
 |two {a:Int}{ds:List Int}:a=98∨a=99→ds.length=2→(∀d∈ds,0≤d∧d≤9)→LawT (T2 a ds)
 |three {a b:Int}{ds:List Int}:a=98∨a=99→97≤b∧b≤99→ds.length=3→(∀d∈ds,0≤d∧d≤9)→LawT (T3 a b ds)
noncomputable def gC(s:Int):Nat:=if s=0 then 0 else if s=3 then 2 else 1
theorem dg1{α:Type}{i k:Int}{ks:List Int}{a:α}{l:List α}:dGet i (k::ks) (a::l)=if k=i then some a else dGet i ks l:=rfl
theorem hP{α:Type}{i k:Int}{ks:List Int}{a b:α}{l:List α}{P:α→Prop}(h1:k=i→P a)(h2:P ((dGet i ks l).getD b)):P ((dGet i (k::ks) (a::l)).getD b):=by
 rw [dg1]
 split
 ·exact h1 ‹_›
 ·exact h2
theorem LawT.ok{t:PT}(h:LawT t):TabOk t:=by
 refine⟨gC,rfl,fun s c h1 h2 h3=>?_,fun s=>?_⟩
 ·have s0:∀k:Int,k=256*s+c→0≤k→k≤255→s=0:=fun k=>by lia
  have no:0≤(-1:Int)→gC (-1)=gC s+1:=fun h=>by exact Dq h
  rcases h with _|⟨ha,_,_⟩|⟨ha,hb,_,_⟩
  ·exact hP (P:=fun v=>0≤v→gC v=gC s+1) (fun e _=>by rw [s0 _ e (by decide) (by decide)];rfl) no
  ·exact hP (P:=fun v=>0≤v→gC v=gC s+1) (fun e _=>by rw [s0 _ e (by decide) (by decide)];rfl)
    (hP (P:=fun v=>0≤v→gC v=gC s+1) (fun e _=>by rw [s0 _ e (by exact X4 h1 h2 e) (by exact AF h1 h2 h3 ha e)];rfl) no)
  ·exact hP (P:=fun v=>0≤v→gC v=gC s+1) (fun e _=>by rw [s0 _ e (by decide) (by decide)];rfl)
    (hP (P:=fun v=>0≤v→gC v=gC s+1) (fun e _=>by rw [s0 _ e (by exact X4 h1 h2 e) (by exact AF h1 h2 h3 ha e)];rfl)
    (hP (P:=fun v=>0≤v→gC v=gC s+1) (fun e _=>by rw [show s=2 by lia];rfl) no))
 ·rcases h with _|⟨ha,hl,_⟩|⟨ha,hb,hl,_⟩
  ·exact hP (P:=fun v:List Int=>v = []∨v.length=gC s+1) (fun e=>by rw [←e];exact .inr rfl) (.inl rfl)
  ·exact hP (P:=fun v:List Int=>v = []∨v.length=gC s+1) (fun e=>by rw [←e];exact .inr rfl)
    (hP (P:=fun v:List Int=>v = []∨v.length=gC s+1) (fun e=>by rw [←e];exact .inr hl) (.inl rfl))
  ·exact hP (P:=fun v:List Int=>v = []∨v.length=gC s+1) (fun e=>by rw [←e];exact .inr rfl)
    (hP (P:=fun v:List Int=>v = []∨v.length=gC s+1) (fun e=>by rw [←e];exact .inr hl) (.inl rfl))
theorem j1{f:Fn}{a p1 p2:Addr}{x y:List D}(h1:a≠p1)(h2:a≠p2)(h3:p1≠p2)(h:aA W n f [.loc a,.fz (.lst x),.fz (.lst y)] Q M):aA W n f [.loc a,.loc p1,.loc p2] Q ((p2,.lst (y.map .fz))::(p1,.lst (x.map .fz))::M):=by
 refine aA.freeze p2 0 look_self dF ?_
 rw [aB]
 refine aA.freeze p1 0 look_self dF ?_
 show aA W n f _ Q (eB p1 _ 0 (Mine.drop p1 ((p1,_)::M)))
 rw [aB]
 have:(([V.loc a,V.loc p1,V.loc p2].map (V.sub p2 (.lst y))).map (V.sub p1 (.lst x))) = [.loc a,.fz (.lst x),.fz (.lst y)]:=by simp [V.sub,h1,h2,h3]
 rw [this]
 exact h
theorem R6(k:aG W){x:TA}(hx:x.Ok)(q:Q (.fz .none) (TC x T1 M)):aA W (n+4) .Patterns_add [.loc x.a,.fz (intL [97]),.fz (intL [0,1])] Q (TC x T0 M) :=
 xJ k hx (by constructor <;> decide) (by decide) (by decide) (by decide) rfl (by decide) (by decide) (by decide) ⟨rfl,rfl⟩ q
theorem Q8(k:aG W){x:TA}(hx:x.Ok){a:Int}(ha:a=98∨a=99){ds:List Int}(hl:ds.length=2)(hd:∀d∈ds,0≤d∧d≤9)(q:∀t,LawT t→Q (.fz .none) (TC x t M)):aA W (n+4) .Patterns_add [.loc x.a,.fz (intL [a]),.fz (intL ds)] Q (TC x T1 M):=by
 refine xJ k hx (by constructor <;> decide) (by simp) (by simp) (by(simp;exact Ft ha)) hl hd ?_ (by decide) ?_ ?_
 ·rcases ha with rfl|rfl <;> decide
 ·rcases ha with rfl|rfl <;> exact⟨rfl,rfl⟩
 ·have e:T1.add [a] ds=T2 a ds:=by rcases ha with rfl|rfl <;> rfl
  rw [e]
  exact q _ (.two ha hl hd)
theorem Q9(k:aG W){x:TA}(hx:x.Ok){a b:Int}(ha:a=98∨a=99)(hb:97≤b∧b≤99){ds:List Int}(hl:ds.length=3)(hd:∀d∈ds,0≤d∧d≤9)(q:∀t,LawT t→Q (.fz .none) (TC x t M)):aA W (n+4) .Patterns_add [.loc x.a,.fz (intL [a,b]),.fz (intL ds)] Q (TC x T1 M):=by
 have hb':b=97∨b=98∨b=99:=by exact GW hb
 refine xJ k hx (by constructor <;> decide) (by simp) (by simp) (by(simp;exact EU ha hb)) hl hd ?_ (by decide) ?_ ?_
 ·rcases ha with rfl|rfl <;> rcases hb' with rfl|rfl|rfl <;> decide
 ·rcases ha with rfl|rfl <;> rcases hb' with rfl|rfl|rfl <;> exact⟨rfl,rfl⟩
 ·have e:T1.add [a,b] ds=T3 a b ds:=by rcases ha with rfl|rfl <;> rcases hb' with rfl|rfl|rfl <;> rfl
  rw [e]
  exact q _ (.three ha hb hl hd)
end
section
variable{W:Wd}{n:Nat}{M:Led}{Q:aJ}
theorem iP{d:D}(h:d.isData=true):D.eqv d d=true:=PySem.SeqAt.eqv_refl _ (lV d h)
theorem iA:∀{l:List D},(∀d∈l,d.isData=true)→isDataL l=true
 |[],_=>rfl
 |d::l,h=>anr ⟨h d (.head _),iA fun x hx=>h x (.tail _ hx)⟩
theorem deepL_all{k:Nat}:∀{l:List D},(∀d∈l,d.deep≤k)→deepL l≤k
 |[],_=>Nat.zero_le _
 |d::l,h=>Nat.max_le.mpr ⟨h d (.head _),deepL_all fun x hx=>h x (.tail _ hx)⟩
theorem sh_data(s:Sh):s.desc.isData=true∧s.desc.deep≤2:=by
 rcases s with _|⟨f,c,ps,l,r⟩|_
 ·exact⟨rfl,Nat.le_of_ble_eq_true rfl⟩
 ·exact⟨by show(isDataL (ps.map .int)&&true)=true;rw [lJ];rfl,by show max 0 (max 0 (max 0 (max (deepL (ps.map .int)+1) (max 0 (max 0 0)))))+1≤2;rw [jL];decide⟩
 ·exact⟨rfl,Nat.le_of_ble_eq_true rfl⟩
theorem shT_data(l:List Sh):(shT l).isData=true∧(shT l).deep≤3:=by
 constructor
 ·exact iA fun d hd=>by obtain⟨s,_,rfl⟩:=mMp hd;exact(sh_data s).1
 ·exact Nat.succ_le_succ (deepL_all fun d hd=>by obtain⟨s,_,rfl⟩:=mMp hd;exact(sh_data s).2)
theorem f8(x:Nd):x.desc.isData=true∧x.desc.deep≤4:=by
 rcases x with s|_|_|⟨a,b,c⟩|_
 ·exact⟨(sh_data s).1,Nat.le_trans (sh_data s).2 (by decide)⟩
 ·exact⟨rfl,Nat.le_of_ble_eq_true rfl⟩
 ·exact⟨rfl,Nat.le_of_ble_eq_true rfl⟩
 ·exact⟨by show((shT a).isData&&((shT b).isData&&((shT c).isData&&true)))=true;rw [(shT_data a).1,(shT_data b).1,(shT_data c).1];rfl,
   Nat.succ_le_succ (Nat.max_le.mpr ⟨Nat.zero_le _,Nat.max_le.mpr ⟨(shT_data a).2,Nat.max_le.mpr ⟨(shT_data b).2,Nat.max_le.mpr ⟨(shT_data c).2,Nat.zero_le _⟩⟩⟩⟩)⟩
 ·exact⟨rfl,Nat.le_of_ble_eq_true rfl⟩
theorem J6(l:List Nd):(ndT l).isData=true∧(ndT l).deep≤60:=by
 constructor
 ·exact iA fun d hd=>by obtain⟨s,_,rfl⟩:=mMp hd;exact(f8 s).1
 ·exact Nat.le_trans (Nat.succ_le_succ (deepL_all (k:=4) fun d hd=>by obtain⟨s,_,rfl⟩:=mMp hd;exact(f8 s).2)) (by decide)
theorem sL(l:List Int):(intL l).isData=true∧(intL l).deep≤60:=⟨lJ l,by show deepL _+1≤60;rw [jL];decide⟩
structure LinOk(cs:List Int)(res:List (List Int)):Prop where
 ends:∀l∈res.dropLast,l.getLast?=some 45
 cat:(res.dropLast.map List.dropLast).flatten++res.getLast?.getD []=cs
 ne:res≠[]
 len:res.length≤1000
 each:∀l∈res,l.length≤1000
structure LawF(items:List Nd)(pt:List Int→List Int)(r:List Nd):Prop where
 flat:flatF r=items
 fine:∀x∈r,x.fine
 big:(r.map Nd.big).sum≤900000
 few:(placesF 0 r).length<64
 srt:(placesF 0 r).Pairwise (· < ·)
 sub:∀p∈placesF 0 r,p∈(wordsF items pt items.length 0 true).flatten
 fst:∀w∈wordsF items pt items.length 0 true,∀a l,w=a::l→a∈placesF 0 r
 lin:∀res,LinesR [] [] r res→LinOk (cds items) res
theorem qT{items:List Nd}{pt:List Int→List Int}:∀{j p:Nat}{t:Bool},(wordsF items pt j p t).length≤j
 |0,_,_=>Nat.le_refl _
 |j+1,p,t=>by
  cases hx:items[p]? with
  |none=>rw [nE hx];exact Nat.zero_le _
  |some x =>
   have:=@qT items pt j (p+1) (fN t x)
   rw [gB hx,List.length_append]
   cases ptsAt items pt t p x with
   |none=>show 0+_≤_;rw [Nat.zero_add];exact Nat.le_succ_of_le this
   |some w=>show 1+_≤_;rw [Nat.add_comm];exact Nat.succ_le_succ this
theorem mL{α:Type}(l:List α):pick l none (some (-1))=l.dropLast:=by
 unfold pick
 simp only [kms_lo,kms_hi]
 rw [if_pos (by decide),List.drop_zero,Nat.sub_zero,List.dropLast_eq_take]
 congr 1
theorem r9{α:Type}(l:List α):pick l (some (-1)) none=l.drop (l.length-1):=by
 unfold pick
 simp only [kms_lo,kms_hi]
 rw [if_pos (by decide)]
 exact List.take_of_length_le (by rw [List.length_drop];exact Nat.le_refl _)
theorem wJ:∀{l:List Int}{x:Int},l.getLast?=some x→l.drop (l.length-1) = [x]
 |[],_,h=>by exact aF h
 |[a],x,h=>by(have e_:=Option.some.inj h;clear h;subst e_);rfl
 |a::b::l,x,h=>by
  have:=wJ (l:=b::l) (x:=x) (by exact h)
  exact this
theorem kK{d:D}:∀{j:Nat}{p:Nat},d∈aV p j→∃i:Nat,d = .int i∧p≤i∧i<p+j
 |j+1,p,h=>by
  rcases mCp h with rfl|h
  ·exact⟨p,rfl,Nat.le_refl _,by exact AZ⟩
  ·obtain⟨i,h1,h2,h3⟩:=kK (p:=p+1) h
   exact⟨i,h1,by exact Nat.le_of_succ_le ‹_›,by exact Bg h3⟩
theorem qU{k:Nat}:∀{l:List (List Int)},(∀v∈l,v.length≤k)→l.flatten.length≤k*l.length
 |[],_=>Nat.le_refl _
 |v::l,h=>by
  have h1:=h v (.head _)
  have h2:=qU (l:=l) fun w hw=>h w (.tail _ hw)
  rw [List.flatten_cons,List.length_append,List.length_cons,Nat.mul_succ]
  exact CZ h1 h2
set_option tactic.hygienic true in
theorem nB{items:List Nd}(hi:IOk items){pd:D}{lf rt:Int}{pt:List Int→List Int}(hp:PtOk W pd lf rt pt):∀{j p:Nat}{t:Bool},∀w∈wordsF items pt j p t,w.length≤63
 |0,_,_,w,h=>by cases h
 |j+1,p,t,w,h=>by
  cases hx:items[p]? with
  |none=>rw [nE hx]at h;cases h
  |some x =>
   rw [gB hx]at h
   rcases mAp h with h|h
   ·cases hv:ptsAt items pt t p x with
    |none=>rw [hv]at h;cases h
    |some v =>
     rw [hv]at h
     obtain⟨_,_,_,_,_,hw⟩:=qB hv
     rw [mSp h,List.length_map]
     obtain⟨b,e,ls⟩:=v
     exact hp.len (gK hi hw).2.2.2.1
   ·exact nB hi hp w h
noncomputable def xH(bx:Addr)(t:PT)(lf rt:Int)(up:Bool)(items:List Nd):Loc:=[("box",.loc bx),("table",.fz (.inst .Patterns t.fl)),("sides",.fz (.tup [.int lf,.int rt])),("upper_too",.fz (.bool up)),("lower",.fz fR),("items",.fz (ndL items))]
set_option maxHeartbeats 4000000 in
theorem yR(k:aG W){env:Env}(he:env.scope.names=(scopeOf .law_round).names){bx:Addr}{x y:Int}(hb:M.lookup bx=some (BX x y)){items:List Nd}(hi:IOk items)(hsm:∀x∈items,x.small){t:PT}(ht:LawT t){lf rt:Nat}(h1:1≤lf∧lf≤5)(h2:1≤rt∧rt≤5){up:Bool}
  (law:∀r,Hyp items (ptOf t lf rt) 0 true r→r.length≤640000→LawF items (ptOf t lf rt) r) (q:∀x' y',Q (.fz (.bool true)) (put M bx (BX x' y'))) :
  let T:Tk:=⟨W,n+19,env,(scopeOf .law_round).names⟩;sv aU T 52 ((eF .law_round).drop 8) (xH bx t lf rt up items) (q7 Q) M:=by
 intro T
 have hp:=Io k ht.ok h1 h2
 have hil:=hi.len
 delta Lf
 refine⟨dU k (by exact ar_le ‹_› (by decide)) hsm ?_⟩
 delta And
 refine⟨rfl,_,rfl,?_⟩;delta And
 refine⟨rfl,_,rfl,?_⟩;delta Lf
 refine⟨rO k hi hp fun r hr hrl=>?_⟩
 have lw:=law r hr hrl
 delta Lf
 refine⟨dU k (by exact ar_le ‹_› (by decide)) hsm ?_⟩
 delta Exists
 have nd:=J6 items
 refine⟨_,_,rfl,rfl,nd.1,nd.1,nd.2,nd.2,?_⟩
 delta cond
 refine bf (nf (iP nd.1)) ?_
 delta Lf
 refine⟨uQ k (by rw [lw.flat];exact ar_le ‹_› (by decide)) ?_⟩
 rw [lw.flat]
 delta Lf
 refine⟨dU k (by exact ar_le ‹_› (by decide)) hsm ?_⟩
 delta Exists
 refine⟨_,_,rfl,rfl,nd.1,nd.1,nd.2,nd.2,?_⟩
 delta cond
 refine bf (nf (iP nd.1)) ?_
 delta Lf
 refine⟨tG k hi hp ?_⟩
 delta Lf
 refine⟨rU k (by exact ar_le ‹_› (by decide)) lw.fine ?_⟩
 delta Lf
 have hwl:=@qT items (ptOf t lf rt) items.length 0 true
 have hew:=@nB W items hi _ _ _ _ hp items.length 0 true
 have hsub:=lw.sub
 have hfst:=lw.fst
 have hsrt:=lw.srt
 have hfew:=lw.few
 have hlin:=lw.lin
 generalize wordsF items (ptOf t lf rt) items.length 0 true=ws at hwl hew hsub hfst
 generalize placesF 0 r=told at hsub hfst hsrt hfew
 refine V4 k ‹_› (fun ds acc=>∀R:List D→Prop,(∀(l1:List (List Int)),∀(l2:List (List Int)),ds=l2.map intL→l1++l2=ws→R (l1.flatten.map .int))→R acc) rfl rfl rfl rfl rfl (fun _=>rfl) (fun _ _=>rfl) ?_ ?_ ?_
 ·delta And
  exact⟨rfl,fun R F=>F [] ws rfl rfl⟩
 ·intro J1 C b d ds acc hb' hj
  apply hj;clear hj
  intro l1 l2 e1 e2
  revert e2
  apply map_cons e1
  clear e1
  intro w l2 e2
  delta And
  have h63:(l1.flatten).length≤63*l1.length:=qU fun v hv=>hew v (by rw [←e2];simp [hv])
  have h64:=hew w (by rw [←e2];simp)
  have h65:=congrArg List.length e2
  exact⟨rfl,by rw [List.length_map,List.length_map];simp at h65;exact BB hil hwl h63 h64 h65,fun R F=>R1 (by simp) (F (l1++[w]) l2 rfl (by rw [←e2];simp))⟩
 intro b acc hb' hj
 apply hj;clear hj
 intro l1 l2 e1 e2
 have:l2 = []:=map_nil e1
 subst this
 rw [List.append_nil]at e2
 subst e2
 have hbm:bx∈foot M:=aT (aD hb) (aW _ _)
 refine tH hb' ⟨hbm,trivial,trivial,trivial,trivial,trivial,trivial,trivial,trivial,trivial,trivial⟩ (.go ?_)
 delta Exists
 refine⟨_,told,rfl,dO _,hfew,fun ns' hpm hso p hp=>?_⟩
 have hns:ns'=told:=List.Perm.eq_of_pairwise (fun a b _ _ h1 h2=>Int.le_antisymm h1 h2) hso (hsrt.imp fun h=>Int.le_of_lt h) hpm
 subst hns
 delta Exists
 have td:=sL ns'
 refine⟨intL ns',intL ns',by show cLk _=_;rw [look_self];show Option.map _ (fzs (ns'.map fun i=>.fz (.int i)))=_;rw [show(ns'.map fun i=>V.fz (.int i))=(ns'.map D.int).map .fz by simp,bM];rfl,rfl,td.1,td.1,td.2,td.2,?_⟩
 delta cond
 refine bf (nf (iP td.1)) ?_
 delta Lf
 refine jB k ‹_› D.int ns' rfl (fun _=>rfl) ?_ (fun C b y acc hb1 hy=>?_) ?_
 ·delta And
  exact⟨rfl,by(refine ln1 ?_;exact yX hfew),rfl⟩
 ·delta Or
  exact .inr ⟨false,_,l1.flatten,rfl,dO _,.done ⟨nf (dt (hsub y hy)),rfl⟩⟩
 delta Lf
 refine jB k ‹_› intL l1 rfl (fun _=>rfl) ?_ (fun C b w acc hb1 hy=>?_) ?_
 ·delta And
  exact⟨rfl,by(refine ln1 ?_;exact Bc hil hwl),rfl⟩
 ·rcases w with _|⟨w0,w⟩
  ·(intros;conv=>whnf)
   exact .done ⟨rfl,rfl⟩
  ·have h63:=hew _ hy
   have hin:=hfst _ hy w0 w rfl
   delta And
   refine⟨by simp at h63 ⊢;exact ar_le ‹_› (by decide),_,rfl,?_⟩
   delta Or
   refine .inr ⟨false,_,ns',rfl,dO _,?_⟩
   refine bf (nf (dt hin)) ?_
   exact .done ⟨rfl,rfl⟩
 delta Lf
 refine jB k ‹_› id (aV 1 (ns'.length-1)) rfl (fun _=>rfl) ?_ (fun C b y acc hb1 hy=>?_) ?_
 ·delta And
  refine⟨by(refine ln1 ?_;exact yX hfew),?_⟩
  delta And
  refine⟨⟨by exact BV,by exact BO,by exact b9,by(refine Eq.substr (List.length_map _) ?_;exact BS hfew)⟩,?_,by rw [dY];(simp;exact Cj hfew),rfl⟩
  rw [List.map_id]
  congr 1
  simp
 ·obtain⟨i,rfl,hi1,hi2⟩:=kK (p:=1) hy
  have hil:i<ns'.length:=by exact Ab hi1 hi2
  have hlen:(ns'.map D.int).length≤1000000:=by(refine ln1 ?_;exact yX hfew)
  have hlt:ns'[i-1]<ns'[i]:=List.pairwise_iff_getElem.mp hsrt _ _ (by exact N8 hi1 hil) hil (by exact Aq hi1)
  delta And
  refine⟨hlen,.int ns'[i],jA (k:=i) rfl (by simp [hil]),?_⟩
  delta And
  refine⟨hlen,.int ns'[i-1],jA (k:=i-1) (by exact Ad hi1) (by rw [List.getElem?_map,List.getElem?_eq_getElem (by exact N8 hi1 hil)];rfl),?_⟩
  conv=>whnf
  exact .done ⟨ef (by exact CM hi1 hil hlt),rfl⟩
 delta Lf
 have hbp:bx≠p:=fun e=>hp (by rw [←e];exact hbm)
 refine⟨aA.freeze p 0 look_self (d:=intL ns') (by rw [show(ns'.map fun i=>V.fz (.int i))=(ns'.map D.int).map .fz by simp];exact dF) ?_⟩
 rw [aB]
 show aA W (n+19) .law_lines [V.sub p (intL ns') (.loc bx),.fz (ndL r)] _ M
 rw [V.sub,if_neg hbp]
 refine uB k hb (by exact ar_le ‹_› (by decide)) lw.fine lw.big fun x' y' res hres=>?_
 have hl:=hlin res hres
 have hM2:(put M bx (BX x' y')).lookup bx=some (BX x' y'):=cW hb
 replace q:=q x' y'
 generalize put M bx (BX x' y')=M2 at q hM2
 delta Lf
 have hrl:(res.map intL).length≤1000000:=by have:=hl.len;(refine ln1 ?_;exact ar_le ‹_› (by decide))
 refine jB k ‹_› intL res.dropLast rfl (fun _=>rfl) ?_ (fun C b w acc hb1 hy=>?_) ?_
 ·delta Or
  refine .inl ⟨(res.map intL).map .fz,rfl,by exact ln1 hrl,?_⟩
  rw [mL]
  intro p2 hp2
  delta atC
  refine⟨_,look_self,?_⟩;conv=>whnf
  exact⟨(res.map intL).dropLast,_,by rw [←List.map_dropLast];exact bM _,aB,by rw [List.map_dropLast],by simp;have:=hl.len;exact ar_le ‹_› (by decide),rfl⟩
 ·have hwl:=hl.each w (List.dropLast_subset _ hy)
  have hwe:=hl.ends w hy
  have e45:w.drop (w.length-1) = [45]:=wJ hwe
  delta Or
  refine .inl ⟨(w.map D.int).map .fz,rfl,by(refine ln1 ?_;refine ln1 ?_;exact ar_le ‹_› (by decide)),?_⟩
  rw [r9]
  intro p2 hp2
  conv=>whnf
  intro p3 hp3
  delta Exists
  have h23:p2≠p3:=fun e=>hp3 (by rw [←e];exact .head _)
  refine⟨intL [45],intL [45],?_,?_,rfl,rfl,by decide,by decide,?_⟩
  ·show cLk _=_;rw [bH h23,List.length_map,List.length_map,←List.map_drop,←List.map_drop,e45];rfl
  ·show cLk _=_;rw [look_self];rfl
  exact .drop p3 (by rw [aB];exact .drop p2 (by rw [aB];exact .done ⟨nf (iP rfl),rfl⟩))
 delta Lf
 refine M9 k ‹_› (fun ds acc=>∀R:List D→Prop,(∀(l1:List (List Int)),∀(l2:List (List Int)),ds=l2.map intL→l1++l2=res.dropLast→R (((l1.map List.dropLast).flatten).map .int))→R acc) rfl rfl rfl rfl (fun _=>rfl) (fun _ _=>rfl) ?_ ?_ ?_
 ·delta Or
  refine .inl ⟨(res.map intL).map .fz,rfl,by exact ln1 hrl,?_⟩
  rw [mL]
  intro p2 hp2
  delta atC
  refine⟨_,look_self,?_⟩;conv=>whnf
  exact⟨(res.map intL).dropLast,_,by rw [←List.map_dropLast];exact bM _,aB,rfl,fun R F=>F [] res.dropLast (by rw [List.map_dropLast]) rfl⟩
 ·intro J1 C b d ds acc hb' hj
  apply hj;clear hj
  intro l3 l4 e1 e2
  revert e2
  apply map_cons e1
  clear e1
  intro w l4 e2
  have hws:∀v∈l3++w::l4,v.length≤1000:=fun v hv=>hl.each v (List.dropLast_subset _ (e2▸hv))
  have hwl:=hws w (by exact List.mem_append.mpr (.inr (.head _)))
  have hfl:((l3.map List.dropLast).flatten).length≤1000*l3.length:=by
   have:=qU (k:=1000) (l:=l3.map List.dropLast) fun v hv=>by
    obtain⟨u,hu,rfl⟩:=mMp hv
    have:=hws u (by simp [hu])
    (simp;exact ar_le ‹_› (by decide))
   simpa using this
  have hrn:=congrArg List.length e2
  have hrn2:=hl.len
  delta Or
  refine .inl ⟨(w.map D.int).map .fz,rfl,by(refine ln1 ?_;refine ln1 ?_;exact ar_le ‹_› (by decide)),?_⟩
  rw [mL]
  intro p2 hp2
  delta atC
  refine⟨_,look_self,?_⟩;conv=>whnf
  refine⟨(w.dropLast).map D.int,_,by rw [←List.map_dropLast,←List.map_dropLast];exact bM _,aB,rfl,?_,fun R F=>R1 (by simp) (F (l3++[w]) l4 rfl (by rw [←e2];simp))⟩
  have h999:((l3.map List.dropLast).flatten).length+w.dropLast.length≤1000000:=by
   rw [List.length_append,List.length_cons,List.length_dropLast]at hrn
   rw [List.length_dropLast]
   exact DH hwl hfl hrn hrn2
  rw [List.length_map,List.length_map]
  exact h999
 intro b acc hb' hj
 apply hj;clear hj
 intro l3 l4 e1 e2
 have:l4 = []:=map_nil e1
 subst this
 rw [List.append_nil]at e2
 subst e2
 refine bZ ?_
 delta And
 obtain⟨la,hla⟩:∃la,res.getLast?=some la:=by
  cases h:res.getLast? with
  |none=>exact absurd (List.getLast?_eq_none_iff.mp h) hl.ne
  |some la=>exact⟨la,rfl⟩
 have hcat:=hl.cat
 rw [hla]at hcat
 have hcl:=congrArg List.length hcat
 rw [List.length_append]at hcl
 have hall:=hi.all
 have hcl2:((res.dropLast.map List.dropLast).flatten).length+la.length≤90:=by simp only [Option.getD_some]at hcl;exact Bx hcl hall
 refine⟨hrl,intL la,tS (by rw [List.length_map,List.getElem?_map,←List.getLast?_eq_getElem?,hla];rfl),?_⟩
 delta Exists
 refine lX (a:=((res.dropLast.map List.dropLast).flatten).map .int) (b:=la.map .int) rfl rfl (by rw [List.length_map,List.length_map];exact ar_le ‹_› (by decide)) fun p2 hp2=>?_
 rw [←List.map_append,show(res.dropLast.map List.dropLast).flatten++la=cds items from hcat]
 delta Lf
 refine⟨eR k (by exact ar_le ‹_› (by decide)) (by exact ar_le ‹_› (by decide)) ?_⟩
 delta Exists
 have cd:=sL (cds items)
 refine⟨intL (cds items),intL (cds items),by show cLk _=_;rw [look_self];show Option.map _ (fzs _)=_;rw [bM];rfl,rfl,cd.1,cd.1,cd.2,cd.2,?_⟩
 rw [iP cd.1]
 delta Gh
 exact gh_cons (.done q)
end
section
variable{W:Wd}{n:Nat}{M:Led}{Q:aJ}
theorem tQ{a:Addr}{d:D}(l:List D):(l.map V.fz).map (V.sub a d)=l.map .fz:=by simp [V.sub]
theorem DI{env:Env}{m m':Loc}{st:Stmt}{QS:bG}{it:Addr}{t:TA}{t':PT}(ht:t.Ok)(h1:it≠t.ex)(h2:it≠t.nm)(h3:it≠t.lk)(h4:it≠t.a)
  (hm:subL t.a (.inst .Patterns t'.fl) (subL t.lk (.dct t'.ks (t'.vs.map .int)) (subL t.nm (.dct t'.nk (t'.nv.map intsD)) (subL t.ex (.dct [] []) m)))=m') (q:Lf (TS W n env st m' QS ((it,.lst [])::M))):Lf (TS W n env st m QS ((it,.lst [])::TC t t' M)):=by
 have fd:∀{ks:List Int}{l:List D},(Cell.dct ks (l.map .fz)).frz=some (.dct ks l):=by intros;simp only [Cell.frz,bM,Option.map_some]
 refine jT t.ex 4 (c:=.dct [] []) (d:=.dct [] []) ((look_skip (Ne.symm h1)).trans look_self) rfl ?_
 have e1:eB t.ex (.dct [] []) 4 (drop t.ex ((it,.lst [])::TC t t' M))=(it,.lst [])::(t.nm,.dct t'.nk ((t'.nv.map intsD).map .fz))::(t.lk,.dct t'.ks ((t'.vs.map .int).map .fz))::(t.a,.inst .Patterns t.d (fields .Patterns) [.loc t.lk,.loc t.nm,.fz (.int t'.st),.fz (.dct [] [])])::M:=by
  rw [dB (Ne.symm h1),TC,aB]
  simp only [iF,iI,Cell.sub,tQ,List.map_cons,List.map_nil,V.sub,if_true,if_neg ht.lex,if_neg ht.nex]
 rw [e1]
 refine jT t.nm 3 ((look_skip (Ne.symm h2)).trans look_self) fd ?_
 have e2:eB t.nm (.dct t'.nk (t'.nv.map intsD)) 3 (drop t.nm ((it,.lst [])::(t.nm,.dct t'.nk ((t'.nv.map intsD).map .fz))::(t.lk,.dct t'.ks ((t'.vs.map .int).map .fz))::(t.a,.inst .Patterns t.d (fields .Patterns) [.loc t.lk,.loc t.nm,.fz (.int t'.st),.fz (.dct [] [])])::M)) =
   (it,.lst [])::(t.lk,.dct t'.ks ((t'.vs.map .int).map .fz))::(t.a,.inst .Patterns t.d (fields .Patterns) [.loc t.lk,.fz (.dct t'.nk (t'.nv.map intsD)),.fz (.int t'.st),.fz (.dct [] [])])::M:=by
  rw [dB (Ne.symm h2),aB]
  simp only [iF,iI,Cell.sub,tQ,List.map_cons,List.map_nil,V.sub,if_true,if_neg ht.lnm]
 rw [e2]
 refine jT t.lk 2 ((look_skip (Ne.symm h3)).trans look_self) fd ?_
 have e3:eB t.lk (.dct t'.ks (t'.vs.map .int)) 2 (drop t.lk ((it,.lst [])::(t.lk,.dct t'.ks ((t'.vs.map .int).map .fz))::(t.a,.inst .Patterns t.d (fields .Patterns) [.loc t.lk,.fz (.dct t'.nk (t'.nv.map intsD)),.fz (.int t'.st),.fz (.dct [] [])])::M)) =
   (it,.lst [])::(t.a,.inst .Patterns t.d (fields .Patterns) (t'.fl.map .fz))::M:=by
  rw [dB (Ne.symm h3),aB]
  simp only [iF,iI,Cell.sub,tQ,List.map_cons,List.map_nil,V.sub,if_true,PT.fl]
 rw [e3]
 refine jT t.a 1 (d:=.inst .Patterns t'.fl) ((look_skip (Ne.symm h4)).trans look_self) (by simp only [Cell.frz,if_true,bM,Option.map_some]) ?_
 have e4:eB t.a (.inst .Patterns t'.fl) 1 (drop t.a ((it,.lst [])::(t.a,.inst .Patterns t.d (fields .Patterns) (t'.fl.map .fz))::M))=(it,.lst [])::M:=by
  rw [dB (Ne.symm h4),aB]
  rfl
 rw [e4,hm]
 exact q
def iD:Prop:=∀(items:List Nd) (t:PT) (lf rt:Nat) (r:List Nd),LawT t→1≤lf∧lf≤5→1≤rt∧rt≤5→IOk items→(cds items).length≤40→(∀x∈items,x.small∧x.old)→Hyp items (ptOf t lf rt) 0 true r→r.length≤640000→LawF items (ptOf t lf rt) r
structure ItOk(l:List Nd)(p:Nat):Prop where
 let4:∀x∈l,∀i∈x.codes,i∈xW
 len:l.length≤1601*p
 all:(cds l).length≤12*p
 fnt:∀x∈l,∀f,x.font=some f→FOk f
 old:∀x∈l,x.small∧x.old
theorem ItOk.le{l:List Nd}{p:Nat}(h:ItOk l p)(hp:p≤2):ItOk l 2:=⟨h.let4,by have:=h.len;exact Bk hp this,by have:=h.all;exact DD hp this,h.fnt,h.old⟩
theorem ItOk.turn{l c1 c2:List Nd}{p:Nat}(h:ItOk l p)(h1:ChOk c1)(h2:ChOk c2):ItOk (l++[Nd.skip 4 2 1]++c1++c2) (p+1) where
 let4 x hx:=by
  simp only [List.mem_append,List.mem_singleton]at hx
  rcases hx with((hx|rfl)|hx)|hx
  ·exact h.let4 x hx
  ·intro i hi;cases hi
  ·exact h1.let4 x hx
  ·exact h2.let4 x hx
 len:=by have:=h.len;have:=h1.len;have:=h2.len;(simp;exact CJ (by assumption) (by assumption) this)
 all:=by
  have:=h.all;have:=h1.all;have:=h2.all
  rw [cL,cL,cL,List.length_append,List.length_append,List.length_append]
  simp [cds,eL]at *
  exact AS (by assumption) (by assumption) this
 fnt x hx:=by
  simp only [List.mem_append,List.mem_singleton]at hx
  rcases hx with((hx|rfl)|hx)|hx
  ·exact h.fnt x hx
  ·intro f hf;exact aF hf
  ·exact h1.fnt x hx
  ·exact h2.fnt x hx
 old x hx:=by
  simp only [List.mem_append,List.mem_singleton]at hx
  rcases hx with((hx|rfl)|hx)|hx
  ·exact h.old x hx
  ·exact⟨trivial,trivial⟩
  ·exact⟨h1.fine x hx,h1.old x hx⟩
  ·exact⟨h2.fine x hx,h2.old x hx⟩
noncomputable def sU(bx it:Addr)(most:Int)(fd:D)(tv:V)(lf rt:Int)(up:Bool):Loc:=[("box",.loc bx),("most",.fz (.int most)),("fonts",.fz fd),("table",tv),("sides",.fz (.tup [.int lf,.int rt])),("upper_too",.fz (.bool up)),("lower",.fz fR),("items",.loc it)]
set_option maxHeartbeats 1000000 in
theorem sO(pl:iD)(k:aG W){env:Env}(he:env.scope.names=(scopeOf .law_round).names){bx it:Addr}{x y:Int}(hb:M.lookup bx=some (BX x y)){t:TA}{t':PT}(ht:t.Ok)(ho:t.Out M)(hT:LawT t')(hit:it∉foot (TC t t' M)){most:Int}(hm:1≤most∧most≤2){f1 f2:Fnt}(o1:FOk f1)(o2:FOk f2)
  {lf rt:Nat}(h1:1≤lf∧lf≤5) (h2:1≤rt∧rt≤5) {up:Bool}(q:∀x' y',Q (.fz (.bool true)) (put M bx (BX x' y'))) :
  let T:Tk:=⟨W,n+19,env,(scopeOf .law_round).names⟩;Lf (TS T.W T.n T.env ((eF .law_round).getD 7 (.Break ⟨0,0,0,0⟩)) (sU bx it most (.lst [f1.toD,f2.toD]) (.loc t.a) lf rt up) (FzQ (O7 (sv aU T 52) ((eF .law_round).drop 8) (q7 Q))) ((it,.lst [])::TC t t' M)):=by
 intro T
 have hbm:bx∈foot M:=aT (aD hb) (aW _ _)
 have i1:it≠t.ex:=fun e=>hit (by rw [e];exact .head _)
 have i2:it≠t.nm:=fun e=>hit (by rw [e];exact .tail _ (.head _))
 have i3:it≠t.lk:=fun e=>hit (by rw [e];exact .tail _ (.tail _ (.head _)))
 have i4:it≠t.a:=fun e=>hit (by rw [e];exact .tail _ (.tail _ (.tail _ (.head _))))
 have i5:it∉foot M:=fun h=>hit (.tail _ (.tail _ (.tail _ (.tail _ (.tail _ h)))))
 have b1:bx≠t.ex:=fun e=>ho.ex (by rw [←e];exact hbm)
 have b2:bx≠t.nm:=fun e=>ho.nm (by rw [←e];exact hbm)
 have b3:bx≠t.lk:=fun e=>ho.lk (by rw [←e];exact hbm)
 have b4:bx≠t.a:=fun e=>ho.a (by rw [←e];exact hbm)
 have b5:bx≠it:=fun e=>i5 (by rw [←e];exact hbm)
 refine DI (m':=sU bx it most (.lst [f1.toD,f2.toD]) (.fz (.inst .Patterns t'.fl)) lf rt up) ht i1 i2 i3 i4 ?_ ?_
 ·simp [sU,subL,V.sub,b1,b2,b3,b4,i1,i2,i3,i4,ht.alk,ht.anm,ht.aex]
 refine cD (fun m N=>∀R:Loc→Led→Prop,(∀(l:List Nd),∀(x:Int),∀(y:Int),ItOk l 2→R (xH bx t' lf rt up l) (put M bx (BX x y)))→R m N) ?_ ?_
 rotate_left
 ·intro P1 m N hj
  apply hj;clear hj
  intro l x' y' hl
  refine .go ?_
  have hio:IOk l:=⟨hl.let4,by have:=hl.len;exact ar_le ‹_› (by decide),by have:=hl.all;exact ar_le ‹_› (by decide),hl.fnt⟩
  show sv aU T 52 ((eF .law_round).drop 8) _ (q7 Q) _
  exact yR k he (cW hb) hio (fun x hx=>(hl.old x hx).1) hT h1 h2 (fun r hr hrl=>pl l t' lf rt r hT h1 h2 hio (by have:=hl.all;exact ar_le ‹_› (by decide)) hl.old hr hrl) fun x2 y2=>by rw [dL];exact q x2 y2
 intro P1
 refine aX k ‹_› (fun ds m N=>∀R:Loc→Led→Prop,(∀(j:Nat),∀(p:Nat),∀(l:List Nd),∀(x:Int),∀(y:Int),ds=aV p j→p+j≤2→ItOk l p→R (sU bx it most (.lst [f1.toD,f2.toD]) (.fz (.inst .Patterns t'.fl)) lf rt up) ((it,.lst ((l.map Nd.toD).map .fz))::put M bx (BX x y)))→R m N) rfl (fun _=>rfl) ?_ ?_ ?_
 ·delta Lf
  refine⟨aS k ((look_skip b5).trans hb) (by exact CO hm) fun r x2 y2 r1 r2=>?_⟩
  rw [aE b5]
  delta And
  exact⟨⟨by exact iQ,by exact iK,by exact F3 r1,by exact Ce hm r2⟩,fun R F=>F (1+r-0).toNat 0 [] x2 y2 rfl (by lia) ⟨by exact fun _ h_=>(List.not_mem_nil h_).elim,by exact Nat.zero_le _,by simp [cds],by exact fun _ h_=>(List.not_mem_nil h_).elim,by exact fun _ h_=>(List.not_mem_nil h_).elim⟩⟩
 ·intro J1 Q1 d ds m N hj
  apply hj;clear hj
  intro j p l x3 y3 e hj hl
  revert hj hl
  apply dA e
  clear e
  intro j hj hl
  have hlk:∀{x' y':Int},(put M bx (BX x' y')).lookup bx=some (BX x' y'):=cW hb
  delta atC
  refine⟨_,look_self,?_⟩;delta Lf
  refine⟨D5 k ?_⟩
  delta Lf
  refine⟨zO k ?_⟩
  delta atC
  refine⟨_,look_self,by have:=hl.len;(refine ln1 ?_;refine ln1 ?_;exact CX hj this),(it,.lst (((l++[Nd.skip 4 2 1]).map Nd.toD).map .fz))::put M bx (BX x3 y3),aC.trans (by simp;rfl),?_⟩
  delta atC
  refine⟨_,look_self,?_⟩;delta Lf
  refine⟨lM k ((look_skip b5).trans hlk) o1 o2 fun x4 y4 c1 hc1=>?_⟩
  rw [aE b5,dL]
  delta atC
  refine⟨_,look_self,?_⟩;delta Exists
  refine⟨false,(c1.map Nd.toD).map .fz,rfl,by have:=hl.len;have:=hc1.len;(refine Eq.substr (List.length_map _) ?_;refine Eq.substr (List.length_map _) ?_;refine Eq.substr (List.length_map _) ?_;refine Eq.substr (List.length_map _) ?_;refine Eq.substr List.length_append ?_;exact Az hj (by assumption) this),(it,.lst (((l++[Nd.skip 4 2 1]++c1).map Nd.toD).map .fz))::put M bx (BX x4 y4),aC.trans (by simp),?_⟩
  delta atC
  refine⟨_,look_self,?_⟩;delta Lf
  refine⟨lM k ((look_skip b5).trans hlk) o1 o2 fun x5 y5 c2 hc2=>?_⟩
  rw [aE b5,dL]
  delta atC
  refine⟨_,look_self,?_⟩;delta Exists
  refine⟨false,(c2.map Nd.toD).map .fz,rfl,by have:=hl.len;have:=hc1.len;have:=hc2.len;(simp;exact CB hj (by assumption) (by assumption) this),(it,.lst (((l++[Nd.skip 4 2 1]++c1++c2).map Nd.toD).map .fz))::put M bx (BX x5 y5),aC.trans (by simp),?_⟩
  delta Fz
  exact .sub (sU bx it most (.lst [f1.toD,f2.toD]) (.fz (.inst .Patterns t'.fl)) lf rt up) rfl (.go (fun R F=>F j (p+1) _ x5 y5 rfl (by exact pU ‹_›) (hl.turn hc1 hc2)))
 ·intro m N hj
  apply hj;clear hj
  intro j p l x3 y3 e hj hl
  rcases j with _|j
  rotate_left
  ·cases e
  refine .frz it 0 look_self dF ?_
  rw [aB]
  refine .sub (xH bx t' lf rt up l) ?_ (.go (fun R F=>F l x3 y3 (hl.le hj)))
  have e:subL it (.lst (l.map Nd.toD)) (sU bx it most (.lst [f1.toD,f2.toD]) (.fz (.inst .Patterns t'.fl)) lf rt up)=([("box",.loc bx),("most",.fz (.int most)),("fonts",.fz (.lst [f1.toD,f2.toD])),("table",.fz (.inst .Patterns t'.fl)),("sides",.fz (.tup [.int lf,.int rt])),("upper_too",.fz (.bool up)),("lower",.fz fR),("items",.fz (ndL l))]:Loc):=by
   simp [sU,subL,V.sub,b5,ndL]
  rw [e]
  exact rfl
end
section
variable{W:Wd}{n:Nat}{M:Led}{Q:aJ}
theorem A9{f:Fn}{a p1 p3:Addr}{x l1:List D}{y:D}(h3:a≠p3)(h1:a≠p1)(h:aA W n f [.loc a,.fz (.lst x),.fz y] Q M):aA W n f [.loc a,.loc p3,.fz y] Q ((p3,.lst (x.map .fz))::(p1,.lst (l1.map .fz))::M):=by
 refine aA.freeze p3 0 look_self dF ?_
 rw [aB]
 refine aA.freeze p1 0 look_self dF ?_
 show aA W n f _ Q (eB p1 _ 0 (Mine.drop p1 ((p1,_)::M)))
 rw [aB]
 have:(([V.loc a,V.loc p3,V.fz y].map (V.sub p3 (.lst x))).map (V.sub p1 (.lst l1))) = [.loc a,.fz (.lst x),.fz y]:=by simp [V.sub,h1,h3]
 rw [this]
 exact h
set_option maxHeartbeats 4000000 in
theorem tZ(pl:iD)(k:aG W){bx:Addr}{x y:Int}(hb:M.lookup bx=some (BX x y)){most:Int}(hm:1≤most∧most≤2)(q:∀x' y',Q (.fz (.bool true)) (put M bx (BX x' y'))):aA W (n+20) .law_round [.loc bx,.fz (.int most)] Q M:=by
 have hlk:∀{x' y':Int},(put M bx (BX x' y')).lookup bx=some (BX x' y'):=cW hb
 have hbm:∀{x' y':Int},bx∈foot (put M bx (BX x' y')):=aT (aD hlk) (aW _ _)
 refine aH (by assumption) rfl rfl rfl rfl rfl fun env he=>?_
 intro T
 delta Lf
 refine⟨uH k hb fun x1 y1 f1 f2 o1 o2=>?_⟩
 delta Lf
 refine⟨vF k fun t ht ho=>?_⟩
 delta atC
 refine⟨_,fQ ht.aex ht.anm ht.alk,?_⟩;conv=>whnf
 intro p1 hp1
 conv=>whnf
 intro p2 hp2
 delta Lf
 have a1:t.a≠p1:=fun e=>hp1 (by rw [←e];exact .tail _ (.tail _ (.tail _ (.head _))))
 have a2:t.a≠p2:=fun e=>hp2 (by rw [←e];exact .tail _ (.tail _ (.tail _ (.tail _ (.head _)))))
 have a12:p1≠p2:=fun e=>hp2 (by rw [←e];exact .head _)
 refine⟨j1 (x:=[.int 97]) (y:=[.int 0,.int 1]) a1 a2 a12 (R6 k ht ?_)⟩
 delta Lf
 have bex:bx≠t.ex:=fun e=>ho.ex (by rw [←e];exact hbm)
 have bnm:bx≠t.nm:=fun e=>ho.nm (by rw [←e];exact hbm)
 have blk:bx≠t.lk:=fun e=>ho.lk (by rw [←e];exact hbm)
 have ba:bx≠t.a:=fun e=>ho.a (by rw [←e];exact hbm)
 have lT:∀{t':PT}{x y:Int},List.lookup bx (TC t t' (put M bx (BX x y)))=some (BX x y):=(look_skip bex).trans ((look_skip bnm).trans ((look_skip blk).trans ((look_skip ba).trans hlk)))
 have pT:∀{t':PT}{x y x' y':Int},put (TC t t' (put M bx (BX x y))) bx (BX x' y')=TC t t' (put M bx (BX x' y')):=by
  intros;unfold TC;rw [aE bex,aE bnm,aE blk,aE ba,dL]
 have fT:∀{b:Addr}{t':PT}{x y x' y':Int},b∉foot (TC t t' (put M bx (BX x y)))→b∉foot (TC t t' (put M bx (BX x' y'))):=by
  intro b t' x y x' y' h
  have e:foot (put M bx (BX x y))=foot (put M bx (BX x' y')):=(cK (c':=BX x y) hb rfl).trans (cK (c':=BX x' y') hb rfl).symm
  have e2:foot (TC t t' (put M bx (BX x y)))=foot (TC t t' (put M bx (BX x' y'))):=by simp only [TC,foot,e]
  rwa [←e2]
 clear a1 a2 a12 hp1 hp2
 refine⟨aS k lT (by decide) fun r x2 y2 r1 r2=>?_⟩
 rw [pT]
 delta cond
 refine aM (b:=r==1) (fun c1=>?_) fun c1=>?_
 ·delta Lf
  refine⟨aS k lT (by decide) fun r3 x3 y3 r31 r32=>?_⟩
  rw [pT]
  conv=>whnf
  intro p1 hp1
  delta Lf
  have b1:bx≠p1:=fun e=>hp1 (by rw [←e];exact aT (aD lT) (aW _ _))
  have a1:t.a≠p1:=fun e=>hp1 (by rw [←e];exact .tail _ (.tail _ (.tail _ (.head _))))
  refine zN k ‹_› (fun ds acc N=>∀R:List D→Led→Prop,(∀(j:Nat),∀(p:Int),∀(cs:List Int),∀(x:Int),∀(y:Int),ds=aV p j→(∀c∈cs,97≤c∧c≤99)→cs.length+j≤1→R (cs.map .int) ((p1,.lst [.fz (.int (98+r3))])::TC t T1 (put M bx (BX x y))))→R acc N) rfl (fun _=>rfl) ?_ ?_ ?_
  ·delta Lf
   refine⟨aS k ((look_skip b1).trans lT) (by decide) fun r x2 y2 r1 r2=>?_⟩
   rw [aE b1,pT]
   delta And
   exact⟨⟨by exact iQ,by exact iK,by exact BZ r1,by exact DO r2⟩,by rw [dY];exact Cq r2,fun R F=>F ((r-0).toNat) 0 [] x2 y2 rfl (by exact fun _ h_=>(List.not_mem_nil h_).elim) (by(simp;exact Cg r2))⟩
  ·intro J1 C b d ds acc N hbN hj
   revert hbN
   apply hj;clear hj
   intro j p cs x4 y4 e hcs hle hbN
   revert hcs hle hbN
   apply dA e
   clear e
   intro j hcs hle hbN
   have b2:bx≠b:=fun e=>hbN (by rw [←e];exact aT (aD ((look_skip b1).trans lT)) (aW _ _))
   delta Lf
   refine⟨aS k ((look_skip b2).trans ((look_skip b1).trans lT)) (by decide) fun r x2 y2 r1 r2=>?_⟩
   rw [aE b2,aE b1,pT]
   conv=>whnf
   refine⟨_,_,rfl,rfl,?_,fun R F=>R2 (by simp) rfl (F j _ (cs++[97+r]) x2 y2 rfl (fun i hi=>?_) (by(refine Eq.substr List.length_append ?_;exact pU ‹_›)))⟩
   ·exact fun h=>(mAp h).elim (fun h=>hbN (mAr (.inl h))) fun h=>fT (fun h=>hbN (mAr (.inr h))) h
   ·rcases mAp hi with h|h
    ·exact hcs i h
    ·rw [mSp h];exact Ck r1 r2
  intro b acc N hbN hj
  revert hbN
  apply hj;clear hj
  intro j p cs x4 y4 e hcs hle hbN
  rcases j with _|j
  rotate_left
  ·cases e
  refine bZ ?_
  delta Exists
  refine lX (a:=[.int (98+r3)]) (b:=cs.map .int) (by show cV _=_;rw [look_self];rfl) rfl (by(refine Eq.substr (List.length_map _) ?_;exact BY hle)) fun p3 hp3=>?_
  rw [show [D.int (98+r3)]++cs.map D.int=((98+r3)::cs).map .int from rfl]
  have b3:bx≠p3:=fun e=>hp3 (by rw [←e];exact aT (aD ((look_skip b1).trans lT)) (aW _ _))
  have a3:t.a≠p3:=fun e=>hp3 (by rw [←e];exact .tail _ (.tail _ (.tail _ (.tail _ (.head _)))))
  have a13:p1≠p3:=fun e=>hp3 (by rw [←e];exact .head _)
  have l3:∀{c1 c2:Cell}{x y:Int},List.lookup bx ((p3,c1)::(p1,c2)::TC t T1 (put M bx (BX x y)))=some (BX x y):=(look_skip b3).trans ((look_skip b1).trans lT)
  delta atC
  refine⟨_,(look_skip a3).trans ((look_skip a1).trans (fQ ht.aex ht.anm ht.alk)),?_⟩;delta Lf
  refine zN k ‹_› (fun ds acc N=>∀R:List D→Led→Prop,(∀(j:Nat),∀(p:Int),∀(es:List Int),∀(x:Int),∀(y:Int),ds=aV p j→(∀c∈es,0≤c∧c≤9)→es.length+j=cs.length+2→R (es.map .int) ((p3,.lst ((((98+r3)::cs).map D.int).map .fz))::(p1,.lst [.fz (.int (98+r3))])::TC t T1 (put M bx (BX x y))))→R acc N) rfl (fun _=>rfl) ?_ ?_ ?_
  ·delta atC
   refine⟨_,look_self,?_⟩;delta And
   refine⟨by(simp;lia),?_⟩
   delta And
   exact⟨⟨by exact iQ,by exact iK,by(refine Eq.substr (List.length_map _) ?_;refine Eq.substr (List.length_map _) ?_;exact DM),by(refine Eq.substr (List.length_map _) ?_;refine Eq.substr (List.length_map _) ?_;exact Cf hle)⟩,by rw [dY];(simp;exact Cw hle),fun R F=>F _ 0 [] x4 y4 rfl (by exact fun _ h_=>(List.not_mem_nil h_).elim) (by(simp;exact CE))⟩
  ·intro J1 C b d ds acc N hbN hj
   revert hbN
   apply hj;clear hj
   intro j p es x5 y5 e hes hle5 hbN
   revert hes hle5 hbN
   apply dA e
   clear e
   intro j hes hle5 hbN
   have b2:bx≠b:=fun e=>hbN (by rw [←e];exact aT (aD l3) (aW _ _))
   delta Lf
   refine⟨aS k ((look_skip b2).trans l3) (by decide) fun r x2 y2 r1 r2=>?_⟩
   rw [aE b2,aE b3,aE b1,pT]
   conv=>whnf
   refine⟨_,_,rfl,rfl,?_,fun R F=>R2 (by simp) rfl (F j _ (es++[r]) x2 y2 rfl (fun i hi=>?_) (by(refine Eq.substr List.length_append ?_;exact yE hle5)))⟩
   ·exact fun h=>(mAp h).elim (fun h=>hbN (mAr (.inl h))) fun h=>(mAp h).elim (fun h=>hbN (mAr (.inr (mAr (.inl h))))) fun h=>fT (fun h=>hbN (mAr (.inr (mAr (.inr h))))) h
   ·rcases mAp hi with h|h
    ·exact hes i h
    ·rw [mSp h];exact Ah r1 r2
  intro b acc N hbN' hj
  apply hj;clear hj
  intro j p es x5 y5 e hes hle5
  rcases j with _|j
  rotate_left
  ·cases e
  refine bZ ?_
  delta Lf
  have key:∀{K:aJ},(∀t',LawT t'→K (.fz .none) (TC t t' (put M bx (BX x5 y5))))→aA W (n+19) .Patterns_add [.loc t.a,.fz (intL ((98+r3)::cs)),.fz (intL es)] K (TC t T1 (put M bx (BX x5 y5))):=by
   intro K hK
   have h98:98+r3=98∨98+r3=99:=by exact Bs r31 r32
   rcases cs with _|⟨c,_|⟨c2,cs⟩⟩
   ·exact Q8 k ht h98 hle5 hes hK
   ·exact Q9 k ht h98 (hcs c (.head _)) hle5 hes hK
   ·simp at hle
  refine⟨A9 (l1:=[.int (98+r3)]) a3 a1 (key fun t' hT=>?_)⟩
  delta Lf
  refine⟨aS k lT (by decide) fun ra x7 y7 ra1 ra2=>?_⟩
  rw [pT]
  delta Lf
  refine⟨aS k lT (by decide) fun rb x8 y8 rb1 rb2=>?_⟩
  rw [pT]
  delta Lf
  refine⟨aS k lT (by decide) fun rc x9 y9 rc1 rc2=>?_⟩
  rw [pT]
  delta Lf
  refine rF k ‹_› D.int (fun c=>[.tup [.int (14*1048576+c),.int (low c)]]) bC rfl (fun _=>rfl) ?_ (fun C b c acc hb' hc=>?_) fun b hb'=>?_
  ·delta And
   exact⟨rfl,by decide,rfl⟩
  ·have hc3:0≤c∧c<1048576:=by
    simp only [bC,List.mem_cons,List.not_mem_nil,or_false]at hc;exact q_8 hc
   delta Lf
   refine⟨xS k hc3.1 hc3.2 ?_⟩
   delta cond
   refine aM (b:=decide (96<c)) (fun c5=>?_) fun c5=>?_
   ·conv=>whnf
    exact⟨_,rfl,rfl,by rw [low,if_pos (of_decide_eq_true c5)]⟩
   ·conv=>whnf
    exact⟨_,rfl,rfl,by rw [low,if_neg (of_decide_eq_false c5)]⟩
  refine bZ ?_
  rw [eY]
  delta Or
  refine .inr ⟨bC.map fun c=>(14*1048576+c,.int (low c)),by show some (_,List.map _ (List.map _ _))=_;rw [List.map_map],by decide,by simp [bC],fun p4 hp4=>?_⟩
  delta Lf
  refine⟨Op.freeze p4 0 look_self (d:=.dct (bC.map fun c=>14*1048576+c) (bC.map fun c=>.int (low c))) (by rfl) ?_⟩
  rw [aB]
  show bN W (n+19) .LowerCodes [V.sub p4 _ (.loc p4)] _ (TC t _ _)
  rw [V.sub,if_pos rfl]
  refine jP k ?_
  conv=>whnf
  intro it hit
  delta Lf
  have hb9:(put M bx (BX x9 y9)).lookup bx=some (BX x9 y9):=cW hb
  have ho9:t.Out (put M bx (BX x9 y9)):=by
   have e:foot (put M bx (BX x9 y9))=foot (put M bx (BX x1 y1)):=(cK (c':=BX x9 y9) hb rfl).trans (cK (c':=BX x1 y1) hb rfl).symm
   exact⟨e▸ho.a,e▸ho.lk,e▸ho.nm,e▸ho.ex⟩
  obtain⟨lf,hlf⟩:∃lf:Nat,1+ra=lf:=⟨(1+ra).toNat,by exact tJ ra1⟩
  obtain⟨rt,hrt⟩:∃rt:Nat,1+rb=rt:=⟨(1+rb).toNat,by exact tJ rb1⟩
  rw [hlf,hrt]
  refine bX (sU bx it most (.lst [f1.toD,f2.toD]) (.loc t.a) lf rt (rc==1)) rfl ?_
  exact sO pl k he hb9 ht ho9 hT hit hm o1 o2 (by exact F5 ra1 ra2 hlf) (by exact J2 rb1 rb2 hrt) fun x' y'=>by rw [dL];exact q x' y'
 ·delta Lf
  refine⟨aS k lT (by decide) fun ra x7 y7 ra1 ra2=>?_⟩
  rw [pT]
  delta Lf
  refine⟨aS k lT (by decide) fun rb x8 y8 rb1 rb2=>?_⟩
  rw [pT]
  delta Lf
  refine⟨aS k lT (by decide) fun rc x9 y9 rc1 rc2=>?_⟩
  rw [pT]
  delta Lf
  refine rF k ‹_› D.int (fun c=>[.tup [.int (14*1048576+c),.int (low c)]]) bC rfl (fun _=>rfl) ?_ (fun C b c acc hb' hc=>?_) fun b hb'=>?_
  ·delta And
   exact⟨rfl,by decide,rfl⟩
  ·have hc3:0≤c∧c<1048576:=by
    simp only [bC,List.mem_cons,List.not_mem_nil,or_false]at hc;exact q_8 hc
   delta Lf
   refine⟨xS k hc3.1 hc3.2 ?_⟩
   delta cond
   refine aM (b:=decide (96<c)) (fun c5=>?_) fun c5=>?_
   ·conv=>whnf
    exact⟨_,rfl,rfl,by rw [low,if_pos (of_decide_eq_true c5)]⟩
   ·conv=>whnf
    exact⟨_,rfl,rfl,by rw [low,if_neg (of_decide_eq_false c5)]⟩
  refine bZ ?_
  rw [eY]
  delta Or
  refine .inr ⟨bC.map fun c=>(14*1048576+c,.int (low c)),by show some (_,List.map _ (List.map _ _))=_;rw [List.map_map],by decide,by simp [bC],fun p4 hp4=>?_⟩
  delta Lf
  refine⟨Op.freeze p4 0 look_self (d:=.dct (bC.map fun c=>14*1048576+c) (bC.map fun c=>.int (low c))) (by rfl) ?_⟩
  rw [aB]
  show bN W (n+19) .LowerCodes [V.sub p4 _ (.loc p4)] _ (TC t _ _)
  rw [V.sub,if_pos rfl]
  refine jP k ?_
  conv=>whnf
  intro it hit
  delta Lf
  have hb9:(put M bx (BX x9 y9)).lookup bx=some (BX x9 y9):=cW hb
  have ho9:t.Out (put M bx (BX x9 y9)):=by
   have e:foot (put M bx (BX x9 y9))=foot (put M bx (BX x1 y1)):=(cK (c':=BX x9 y9) hb rfl).trans (cK (c':=BX x1 y1) hb rfl).symm
   exact⟨e▸ho.a,e▸ho.lk,e▸ho.nm,e▸ho.ex⟩
  obtain⟨lf,hlf⟩:∃lf:Nat,1+ra=lf:=⟨(1+ra).toNat,by exact tJ ra1⟩
  obtain⟨rt,hrt⟩:∃rt:Nat,1+rb=rt:=⟨(1+rb).toNat,by exact tJ rb1⟩
  rw [hlf,hrt]
  refine bX (sU bx it most (.lst [f1.toD,f2.toD]) (.loc t.a) lf rt (rc==1)) rfl ?_
  exact sO pl k he hb9 ht ho9 .one hit hm o1 o2 (by exact F5 ra1 ra2 hlf) (by exact J2 rb1 rb2 hrt) fun x' y'=>by rw [dL];exact q x' y'
end
section
variable{W:Wd}{n:Nat}{M:Led}{Q:aJ}
theorem zY(pl:iD)(k:aG W){env:Env}(he:env.scope.names=(scopeOf .law).names){xs cs:List Int}(hx:xs.length≤1000)(hc:cs.length≤2){pc:Addr}(q:Q (.fz (.bool true)) M) :
  let T:Tk:=⟨W,n+21,env,(scopeOf .law).names⟩;Lf (TS T.W T.n T.env ((eF .law).getD 1 (.Break ⟨0,0,0,0⟩)) ([("script",.fz (intL xs)),("cells",.loc pc)]:Loc) (FzQ (O7 (sv aU T 58) ((eF .law).drop 2) (q7 Q))) ((pc,.lst ((cs.map D.int).map .fz))::M)):=by
 intro T
 refine jT pc 0 look_self dF ?_
 rw [aB,show subL pc (.lst (cs.map D.int)) ([("script",.fz (intL xs)),("cells",.loc pc)]:Loc)=([("script",.fz (intL xs)),("cells",.fz (intL cs))]:Loc) by simp [subL,V.sub,intL]]
 show Lf (TS T.W T.n T.env _ _ _ M)
 refine aX k ‹_› (fun ds m N=>∀R:Loc→Led→Prop,(∀(j:Nat),∀(p:Nat),ds=aV p j→p+j=cs.length→R [("script",.fz (intL xs)),("cells",.fz (intL cs))] M)→R m N) rfl (fun _=>rfl) ?_ ?_ ?_
 ·delta And
  refine⟨by(refine ln1 ?_;exact ar_le ‹_› (by decide)),?_⟩
  delta And
  refine⟨⟨by exact iQ,by exact iK,by exact b9,by(refine Eq.substr (List.length_map _) ?_;exact Ao hc)⟩,fun R F=>F cs.length 0 ?_ (by exact Ak)⟩
  rw [List.length_map,Int.sub_zero,Int.toNat_natCast]
  rfl
 ·intro J1 Q1 d ds m N hj
  apply hj;clear hj
  intro j p e hj
  revert hj
  apply dA e
  clear e
  intro j hj
  have hpl:p<cs.length:=by exact G7 hj
  delta And
  refine⟨by(refine ln1 ?_;exact ar_le ‹_› (by decide)),.int cs[p],jA (k:=p) rfl (by simp [hpl]),?_⟩
  delta Or
  refine oA (by(refine ln1 ?_;exact ar_le ‹_› (by decide))) (a:=2) rfl fun p2 hp2=>?_
  rw [←List.map_drop]
  delta Exists
  refine⟨((xs.drop 2).map D.int).map .fz,_,congrArg cV look_self,dO _,?_⟩
  delta Lf
  refine⟨yJ k fun b x y hb=>?_⟩
  delta Lf
  refine⟨tZ pl k look_self (by exact Ay hc hj) fun x' y'=>?_⟩
  rw [aC]
  delta Fz
  refine .drp b ?_
  rw [aB]
  refine .drp p2 ?_
  rw [aB]
  exact .sub [("script",.fz (intL xs)),("cells",.fz (intL cs))] rfl (.go (fun R F=>F j (p+1) rfl (by exact Y8 hj)))
 ·intro m N hj
  apply hj;clear hj
  intro j p e hj
  rcases j with _|j
  rotate_left
  ·cases e
  refine .go ?_
  delta Gh
  exact .done q
theorem Cm(pl:iD)(k:aG W){xs:List Int}(hx:xs.length≤1000)(q:Q (.fz (.bool true)) M):aA W (n+22) .law [.fz (intL xs)] Q M:=by
 refine aH (by assumption) rfl rfl rfl rfl rfl fun env he=>?_
 intro T
 rcases xs with _|⟨x,xs⟩
 ·delta And
  refine⟨by decide,by decide,by decide,?_⟩
  generalize (10:Int) ^ (18:Int).toNat=z
  conv=>whnf
  intro pc hpc
  delta Lf
  exact zY pl k he (xs:=[]) (cs:=[z+40391104896]) hx (by simp) q
 ·delta Or
  refine xA (by simp at hx ⊢;exact ar_le ‹_› (by decide)) (b:=2) rfl fun pc hpc=>?_
  rw [←List.map_take]
  delta Lf
  exact zY pl k he (xs:=x::xs) (cs:=(x::xs).take 2) hx (by(simp;exact Bt)) q
end
section
set_option tactic.hygienic true
theorem jJ(l r:List Sh):csOf (l++r)=csOf l++csOf r:=by simp [csOf]
theorem bY(l:List Sh)(n:Nat):csOf (l.take n)++csOf (l.drop n)=csOf l:=by rw [←jJ,List.take_append_drop]
theorem fZ{a b:D}{l m:List D}(h:D.eqv (.tup (a::l)) (.tup (b::m))=true):D.eqv a b=true∧D.eqv (.tup l) (.tup m)=true:=by
 have h:PyData.eqv (.tuple (a.py::pyL l)) (.tuple (b.py::pyL m))=true:=h
 show PyData.eqv a.py b.py=true∧PyData.eqv (.tuple (pyL l)) (.tuple (pyL m))=true
 simp only [PyData.eqv,PyData.eqvAll,Bool.and_eq_true]at h ⊢
 exact h
theorem qJ{x y:Sh}(h:D.eqv (Nd.sh x).mark (Nd.sh y).mark=true):x.codes=y.codes:=by
 rcases x with⟨f,c⟩|⟨f,c,ps,a,b⟩|⟨w,s⟩ <;> rcases y with⟨g,d⟩|⟨g,d,qs,a',b'⟩|⟨w',s'⟩ <;> first|rfl|skip
 all_goals obtain⟨h1,h⟩:=fZ h
 all_goals rw [D.eqv_int]at h1
 all_goals first|exact aL h1|skip
 ·have e:=fZ (fZ h).2
  have e:=e.1
  rw [D.eqv_int]at e
  exact congrArg (fun c=>[c]) (eq_of_beq e)
 ·have e:=(fZ (fZ (fZ h).2).2).1
  have e:=(tO ps qs).symm.trans e
  exact of_decide_eq_true e
theorem qN:∀(n:Nat) (l r:List Sh),n≤l.length→n≤r.length→(∀i x y,i<n→l[i]?=some x→r[i]?=some y→x.codes=y.codes)→csOf (l.take n)=csOf (r.take n)
 |0,_,_,_,_,_=>by exact rfl
 |n+1,[],_,h,_,_=>by simp at h
 |n+1,_::_,[],_,h,_=>by simp at h
 |n+1,x::l,y::r,h1,h2,h=>by
  have e:=qN n l r (by simpa using h1) (by simpa using h2) fun i a b hi ha hb=>h (i+1) a b (by exact Av hi) (by exact ha) (by exact hb)
  simp only [List.take_succ_cons,csOf,List.map_cons,List.flatten_cons]at e ⊢
  rw [e,h 0 x y (by exact v8) rfl rfl]
theorem tK{n:Nat}{l r:List Sh}(h1:n≤l.length)(h2:n≤r.length)(h:∀i x y,i<n→l[l.length-1-i]?=some x→r[r.length-1-i]?=some y→x.codes=y.codes):csOf (l.drop (l.length-n))=csOf (r.drop (r.length-n)):=by
 have:=qN n (l.drop (l.length-n)) (r.drop (r.length-n)) (by(simp;exact O1 h1)) (by(simp;exact O1 h2)) fun i x y hi hx hy=>by
  rw [List.getElem?_drop]at hx hy
  refine h (n-1-i) x y (by exact Z2 ‹_›) ?_ ?_
  ·rw [show l.length-1-(n-1-i)=l.length-n+i by exact G9 h1 hi];exact hx
  ·rw [show r.length-1-(n-1-i)=r.length-n+i by exact G9 h2 hi];exact hy
 rwa [List.take_of_length_le (by(simp;exact H7)),List.take_of_length_le (by(simp;exact H7))]at this
theorem jK{l:List Sh}{i:Nat}{x:Sh}(h:l[i]?=some x):(l.map Nd.sh)[i]?=some (.sh x):=by rw [List.getElem?_map,h];rfl
theorem Ahead.codes{ns hd:List Sh}{p:Int}{c:Nat}(h:Ahead (ns.map .sh) (hd.map .sh) p c):csOf (hd.take c)=csOf (ns.take c) :=
 qN c hd ns (by simpa using h.ch) (by simpa using h.cl) fun i x y hi hx hy=>(qJ (h.eq i _ _ hi (jK hy) (jK hx))).symm
theorem Behind.codes{ns tl:List Sh}{p:Int}{b c:Nat}(h:Behind (ns.map .sh) (tl.map .sh) p b c):csOf (tl.drop (tl.length-c))=csOf (ns.drop (ns.length-c)):=by
 have h1:=h.cl
 have h2:=h.ct
 have h3:=h.eq
 simp only [List.length_map]at h1 h2 h3
 exact tK h2 (by exact Bf h1) fun i x y hi hx hy=>(qJ (h3 i _ _ hi (jK hy) (jK hx))).symm
theorem mT(ns:List Sh)(c:Nat):cds ((ns.map Nd.sh).take c)=csOf (ns.take c):=by rw [←List.map_take];exact cN _
def E1(x:Nd):Prop:=match x with
 |.disc a b c=>a = []∨(∃u,csOf a=u++[45]∧u++csOf b=csOf c)
 |_=>True
theorem U5{s:Str8}{ns:List Sh}(hns:s.nodes=ns.map .sh)(hcs:s.codes=csOf ns){p c b:Nat}{hd tl:List Sh}(hp:p≤s.codes.length)(h1:csOf hd=s.codes.take p++[45])(h2:csOf tl=s.codes.drop p)(h3:Ahead s.nodes (hd.map .sh) p c)(h4:Behind s.nodes (tl.map .sh) p c b) :
  ∃u,csOf (hd.drop c)=u++[45]∧u++csOf (tl.take (tl.length-b))=csOf ((ns.drop c).take (ns.length-b-c))∧(csOf (ns.take c)).length+u.length=p∧(csOf (ns.take c)).length≤p∧p≤(csOf (ns.take (ns.length-b))).length:=by
 rw [hns]at h3 h4
 have a1:=h3.codes
 have b1:=h4.codes
 have hle:(csOf (ns.take c)).length≤p:=by
  rcases Nat.eq_zero_or_pos c with e|e
  ·rw [e];simp [csOf]
  ·have:=h3.le e
   rw [mT]at this
   exact F7 this
 have hge:p≤(csOf (ns.take (ns.length-b))).length:=by
  rcases Nat.eq_zero_or_pos b with e|e
  ·rw [e,Nat.sub_zero,List.take_length,←hcs];exact hp
  ·have:=h4.le e
   rw [List.length_map,mT]at this
   exact F7 this
 have hcl:=h4.cl
 rw [List.length_map]at hcl
 have d1:=bY hd c
 have d2:=bY tl (tl.length-b)
 have d3:=bY ns (ns.length-b)
 have d4:csOf (ns.take c)++csOf ((ns.drop c).take (ns.length-b-c))=csOf (ns.take (ns.length-b)):=by
  rw [←jJ]
  congr 1
  have:=List.take_add (l:=ns) (i:=c) (j:=ns.length-b-c)
  rw [show c+(ns.length-b-c)=ns.length-b by exact Z1 ‹_›]at this
  exact this.symm
 generalize hX:csOf (ns.take (ns.length-b))=X at *
 generalize hA:csOf (ns.take c)=A at *
 generalize csOf ((ns.drop c).take (ns.length-b-c))=Mi at *
 generalize csOf (ns.drop (ns.length-b))=E at *
 rw [a1,h1]at d1
 rw [b1,h2]at d2
 have hc2:s.codes=X++E:=by rw [hcs,←d3]
 have hAX:A++Mi=X:=d4
 have t1:s.codes.take p=X.take p:=by rw [hc2,List.take_append_of_le_length hge]
 have t2:s.codes.drop p=X.drop p++E:=by rw [hc2,List.drop_append_of_le_length hge]
 rw [t1]at d1
 rw [t2]at d2
 have d2':csOf (tl.take (tl.length-b))=X.drop p:=List.append_cancel_right d2
 have t3:X.take p=A++Mi.take (p-A.length):=by
  rw [←hAX,List.take_append,List.take_of_length_le hle]
 rw [t3,List.append_assoc]at d1
 have d1':csOf (hd.drop c)=Mi.take (p-A.length)++[45]:=List.append_cancel_left d1
 have hMl:p-A.length≤Mi.length:=by
  have:=congrArg List.length hAX
  rw [List.length_append]at this
  exact Bq hge hle this
 refine⟨Mi.take (p-A.length),d1',?_,?_,hle,hge⟩
 ·rw [d2',←hAX,List.drop_append,List.drop_eq_nil_of_le hle,List.nil_append,List.take_append_drop]
 ·rw [List.length_take,Nat.min_eq_left hMl];exact Nat.add_sub_of_le ‹_›
end
section
set_option tactic.hygienic true
structure NGood(x:Nd):Prop where
 disc:E1 x
 fine:x.fine
 big:x.big≤(cds x.mids).length+(if x.isNew then 300 else 0)
theorem fF{x:Nd}{h:Int}{r:List Nd}(hx:x.isNew=false):placesF h (x::r)=placesF (h+x.codes.length) r:=by
 rcases x with _|_|_|⟨_|⟨a,as⟩,b,c⟩|_ <;> first|rfl|exact dP hx
theorem mO:∀(l:List Sh) (h:Int) (r:List Nd),placesF h (l.map .sh++r)=placesF (h+(csOf l).length) r
 |[],h,r=>by simp [csOf]
 |x::l,h,r=>by
  rw [List.map_cons,List.cons_append,fF rfl,mO l]
  congr 1
  simp [csOf,eL];exact A5
theorem i0(l:List Sh):flatF (l.map .sh)=l.map .sh:=by
 have:∀s:Sh,(Nd.sh s).mids = [.sh s]:=fun _=>rfl
 simp only [flatF,List.map_map,Function.comp_def,this]
 induction l <;> simp_all
theorem Nd.old.no{x:Nd}(h:x.old):x.isNew=false:=by
 rcases x with _|_|_|⟨a,b,c⟩|_ <;> first|rfl|(obtain⟨rfl,rfl,rfl⟩:=h;rfl)
theorem vV{x:Nd}(h:x.old)(hc:x.codes.length≤100):NGood x:=by
 rcases x with s|_|_|⟨a,b,c⟩|_
 ·exact⟨trivial,by show s.codes.length≤900000;have:s.codes.length≤100:=hc;exact ar_le ‹_› (by decide),by simp [Nd.big,Nd.mids,cds]⟩
 ·exact⟨trivial,Nat.zero_le _,Nat.zero_le _⟩
 ·exact⟨trivial,Nat.zero_le _,Nat.zero_le _⟩
 ·obtain⟨rfl,rfl,rfl⟩:=h
  exact⟨.inl rfl,⟨⟨by exact Nat.zero_le _,by simp [cds,shN]⟩,⟨by exact Nat.zero_le _,by simp [cds,shN]⟩,⟨by exact Nat.zero_le _,by simp [cds,shN]⟩⟩,by simp [Nd.big,cds,shN]⟩
 ·exact⟨trivial,Nat.zero_le _,Nat.zero_le _⟩
theorem Brk.law{s:Str8}{ns:List Sh}(hns:s.nodes=ns.map .sh)(hcs:s.codes=csOf ns)(h90:s.codes.length≤90)(hnl:ns.length≤10000):∀{d:Nat}{ps:List Int}{r:List Nd},Brk s ns d ps r→d≤ns.length→(∀p∈ps,0≤p∧p≤s.codes.length) →
  ∃kept:List Int,kept.Sublist ps∧flatF r=(ns.drop d).map .sh∧(∀x∈r,NGood x)∧(∀(h:Int) (rest:List Nd),placesF (h+(csOf (ns.take d)).length) (r++rest)=kept.map (h + ·)++placesF (h+s.codes.length) rest)∧(d=0→∀p0 l,ps=p0::l→∃l',kept=p0::l'):=by
 have shg:∀x:Sh,x∈ns→NGood (.sh x):=fun x hx=>vV (x:=.sh x) trivial (by
  have:x.codes.length≤(csOf ns).length:=by
   rw [←cN];exact zB (x:=.sh x) (mMr ⟨x,hx,rfl⟩)
  show x.codes.length≤100
  rw [←hcs]at this;exact Cz h90 this)
 intro d ps r hb
 induction hb with
 |nil =>
  rename_i d
  intro hd _
  refine⟨[],.slnil,i0 _,fun x hx=>?_,fun h rest=>?_,fun _ p0 l e=>by cases e⟩
  ·obtain⟨y,hy,rfl⟩:=mMp hx
   exact shg y (List.mem_of_mem_drop hy)
  ·rw [mO,List.map_nil,List.nil_append]
   have:=congrArg List.length (bY ns d)
   rw [List.length_append,←hcs]at this
   congr 1
   exact Aw this
 |skip _ ha hc _ ih =>
  intro hd hp
  obtain⟨kept,k1,k2,k3,k4,k5⟩:=ih hd fun p h=>hp p (.tail _ h)
  exact⟨kept,k1.cons _,k2,k3,k4,fun e=>by lia⟩
 |take hrh hrt ha hbh hdc _ ih =>
  rename_i d c b p ps r hd tl hb2
  intro hdl hps
  have hp0:=hps p (.head _)
  have hcl:=hbh.cl
  rw [hns,List.length_map]at hcl
  obtain⟨kept,k1,k2,k3,k4,k5⟩:=ih (Nat.sub_le _ _) fun p h=>hps p (.tail _ h)
  obtain⟨pn,rfl⟩:∃pn:Nat,p=pn:=⟨p.toNat,by exact DL hp0⟩
  obtain⟨u,u1,u2,u3,u4,u5⟩:=U5 hns hcs (by exact Bl hp0) hrh.cat hrt.cat ha hbh
  have hne:hd.drop c≠[]:=fun e=>by rw [e]at u1;simp [csOf]at u1
  obtain⟨a,as,has⟩:∃a as,hd.drop c=a::as:=by
   cases h:hd.drop c with
   |nil=>exact absurd h hne
   |cons a as=>exact⟨a,as,rfl⟩
  have l1:(csOf (hd.drop c)).length≤91:=by
   have:=congrArg List.length (bY hd c)
   rw [List.length_append,hrh.cat,List.length_append,List.length_take,List.length_singleton]at this
   exact BQ h90 hp0 this
  have l2:(csOf (tl.take (tl.length-b))).length≤90:=by
   have:=congrArg List.length (bY tl (tl.length-b))
   rw [List.length_append,hrt.cat,List.length_drop]at this
   exact BI h90 this
  have hs2:∀i j:Nat,i≤j→ns.drop i=(ns.drop i).take (j-i)++ns.drop j:=fun i j h=>by
   have:=(List.take_append_drop (j-i) (ns.drop i)).symm
   rwa [List.drop_drop,show i+(j-i)=j by exact Nat.add_sub_of_le ‹_›]at this
  have s1:=hs2 d c hdc
  have s2:=hs2 c (ns.length-b) (by exact Bj hcl)
  have c1:(csOf (ns.take d)).length+(csOf ((ns.drop d).take (c-d))).length=(csOf (ns.take c)).length:=by
   rw [←List.length_append,←jJ]
   congr 2
   have:=List.take_add (l:=ns) (i:=d) (j:=c-d)
   rw [show d+(c-d)=c by exact Nat.add_sub_of_le ‹_›]at this
   exact this.symm
  have c2:(csOf (ns.take c)).length+(csOf ((ns.drop c).take (ns.length-b-c))).length=(csOf (ns.take (ns.length-b))).length:=by
   rw [←List.length_append,←jJ]
   congr 2
   have:=List.take_add (l:=ns) (i:=c) (j:=ns.length-b-c)
   rw [show c+(ns.length-b-c)=ns.length-b by exact Z1 ‹_›]at this
   exact this.symm
  have l3:(csOf ((ns.drop c).take (ns.length-b-c))).length≤90:=by
   have:=congrArg List.length (bY ns (ns.length-b))
   rw [List.length_append,←hcs]at this
   exact Am h90 u3 c2 this
  refine⟨(pn:Int)::kept,k1.cons_cons _,?_,fun x hx=>?_,fun h rest=>?_,fun _ p0 l e=>by cases e;exact⟨kept,rfl⟩⟩
  ·have:(Nd.disc (hd.drop c) (tl.take (tl.length-b)) ((ns.drop c).take (ns.length-b-c))).mids=((ns.drop c).take (ns.length-b-c)).map .sh:=by rw [has];rfl
   rw [flatF,List.map_append,List.flatten_append,List.map_cons,List.flatten_cons,this]
   have f1:=i0 ((ns.drop d).take (c-d))
   rw [flatF]at f1 k2
   rw [f1,k2]
   have e:=congrArg (List.map Nd.sh) (s1.trans (congrArg _ s2))
   rw [List.map_append,List.map_append]at e
   exact e.symm
  ·rcases mAp hx with h|h
   ·obtain⟨y,hy,rfl⟩:=mMp h
    exact shg y (List.mem_of_mem_drop (List.mem_of_mem_take hy))
   ·rcases mCp h with rfl|h
    ·exact⟨.inr ⟨u,u1,u2⟩,⟨⟨by have:=hrh.room;(simp;exact G2 this),by rw [cN];exact ar_le ‹_› (by decide)⟩,⟨by have:=hrt.room;(simp;exact G2 this),by rw [cN];exact ar_le ‹_› (by decide)⟩,⟨by(simp;exact xG ‹_›),by rw [cN];exact ar_le ‹_› (by decide)⟩⟩,by
      have hnw:(Nd.disc (hd.drop c) (tl.take (tl.length-b)) ((ns.drop c).take (ns.length-b-c))).isNew=true:=by rw [has];rfl
      rw [if_pos hnw];simp only [Nd.big,cN];exact CR u3 l1 l2 c2 l3⟩
    ·exact k3 x h
  ·rw [List.append_assoc,mO,List.cons_append,has]
   show(_+_-1)::placesF _ (r++rest)=_
   rw [←has]
   have n1:h+((csOf (ns.take d)).length:Int)+((csOf ((ns.drop d).take (c-d))).length:Int)+((cds (shN (hd.drop c))).length:Int)-1=h+pn:=by
    have:=congrArg List.length u1
    rw [List.length_append,List.length_singleton]at this
    rw [cN]
    exact Ap u3 c1 this
   have n2:h+((csOf (ns.take d)).length:Int)+((csOf ((ns.drop d).take (c-d))).length:Int)+((cds (shN ((ns.drop c).take (ns.length-b-c)))).length:Int)=h+(csOf (ns.take (ns.length-b))).length:=by
    rw [cN]
    exact BA u3 c1 c2
   rw [n1,n2,k4 h rest]
   rfl
end
section
set_option tactic.hygienic true
theorem p9{l:List Nd}:∀{i b:Nat},bR (l.drop i) i=some b→∀j,i≤j→j<b→∃s,l[j]?=some (.sh s):=by
 intro i b h
 generalize hr:l.drop i=r at h
 induction r generalizing i with
 |nil=>exact aF h
 |cons x r ih =>
  have hil:i<l.length:=by
   rcases Nat.lt_or_ge i l.length with q|q
   ·exact q
   ·rw [List.drop_eq_nil_of_le q]at hr;cases hr
  rw [List.drop_eq_getElem_cons hil]at hr
  obtain⟨hx,hr⟩:=List.cons.inj hr
  obtain⟨hw,h⟩:=pK h
  have hsh:∃s,l[i]?=some (.sh s):=by
   rw [List.getElem?_eq_getElem hil,hx]
   rcases x with s|_|_|_|_ <;> first|exact⟨s,rfl⟩|exact aL hw
  rcases h with h|⟨rfl,_⟩
  ·exact fun j h1 h2=>by
    rcases Nat.lt_or_ge i j with q|q
    ·exact ih hr h j q h2
    ·rw [show j=i by exact Nat.le_antisymm ‹_› ‹_›];exact hsh
  ·exact fun j h1 h2=>absurd h2 (Nat.not_lt.mpr h1)
theorem F6{items:List Nd}{p b e:Nat}{ls:List Int}(h:fX items p=some (b,e,ls)):∀j,p+1≤j→j<b→∃s,items[j]?=some (.sh s) :=
 p9 (rW h).1
noncomputable def cC(items:List Nd)(i:Nat):Int:=((cds (items.take i)).length:Int)
theorem sV{items:List Nd}{a b:Nat}(h:a≤b):cC items b=cC items a+((cds (seg items a b)).length:Int):=by
 have e:items.take b=items.take a++seg items a b:=by
  have:=List.take_add (l:=items) (i:=a) (j:=b-a)
  rwa [show a+(b-a)=b by exact Nat.add_sub_of_le ‹_›]at this
 unfold cC
 rw [e,cL,List.length_append];exact Bn
theorem uP{items:List Nd}{a b:Nat}(h:a≤b):cC items a≤cC items b:=by rw [sV h];exact BE
theorem d8{items:List Nd}{p:Nat}{x:Nd}(h:items[p]?=some x):cC items (p+1)=cC items p+x.codes.length:=by
 unfold cC
 rw [List.take_add_one,h,Option.toList_some,cL,List.length_append]
 simp [cds]
theorem mX:∀(l:List Nd) (h:Int) (r:List Nd),(∀x∈l,x.old)→placesF h (l++r)=placesF (h+(cds l).length) r
 |[],h,r,_=>by simp [cds]
 |x::l,h,r,ho=>by
  rw [List.cons_append,fF (ho x (.head _)).no,mX l _ _ fun y hy=>ho y (.tail _ hy)]
  congr 1
  simp [cds];exact A5
theorem sM:∀(l:List Nd),(∀x∈l,x.old)→flatF l=l
 |[],_=>rfl
 |x::l,h=>by
  have e:=sM l fun y hy=>h y (.tail _ hy)
  unfold flatF at e ⊢
  rw [List.map_cons,List.flatten_cons,e,iO (h x (.head _)).no];rfl
theorem vN(a b:List Nd):flatF (a++b)=flatF a++flatF b:=by simp [flatF]
theorem pA{items:List Nd}{pt:List Int→List Int}{t:Bool}:∀(k:Nat) {p q:Nat},q-p=k→p≤q→q≤items.length→(∀j,p≤j→j<q→∃s,items[j]?=some (.sh s))→wordsF items pt (items.length-p) p t=wordsF items pt (items.length-q) q t
 |0,p,q,h1,h2,_,_=>by rw [show p=q by exact Bm h1 h2]
 |k+1,p,q,h1,h2,h3,h=>by
  obtain⟨s,hs⟩:=h p (Nat.le_refl _) (by exact ar_sl ‹_›)
  rw [show items.length-p=(items.length-(p+1))+1 by exact Cy h1 h2 h3,gB hs]
  exact(List.nil_append _).trans (pA k (by exact AI ‹_›) (by exact DJ h1 h2) h3 fun j h4 h5=>h j (by exact Nat.le_of_succ_le ‹_›) h5)
structure PtProp(pt:List Int→List Int):Prop where
 rng:∀{ls:List Int},xN ls→∀q∈pt ls,1≤q∧q+1≤ls.length
 srt:∀{ls:List Int},xN ls→(pt ls).Pairwise (· < ·)
structure HypL(items:List Nd)(pt:List Int→List Int)(p:Nat)(t:Bool)(r:List Nd)(told:List Int):Prop where
 flat:flatF r=items.drop p
 good:∀x∈r,NGood x
 plc:placesF (cC items p) r=told
 srt:told.Pairwise (· < ·)
 rng:∀y∈told,cC items p<y∧y<cC items items.length
 sub:∀y∈told,y∈(wordsF items pt (items.length-p) p t).flatten
 fst:∀w∈wordsF items pt (items.length-p) p t,∀a l,w=a::l→a∈told
theorem pX{items:List Nd}{pt:List Int→List Int}{p:Nat}{t:Bool}{x:Nd}(h:items[p]?=some x):wordsF items pt (items.length-p) p t=(match ptsAt items pt t p x with
   |some w=>[(pt w.2.2).map fun q=>((cds (items.take w.1)).length:Int)+q]
   |none=>[])++wordsF items pt (items.length-(p+1)) (p+1) (fN t x):=by
 have hp:p<items.length:=(List.getElem?_eq_some_iff.mp h).1
 rw [show items.length-p=(items.length-(p+1))+1 by exact Ee ‹_›,gB h];all_goals rfl
theorem d9{α:Type}{l:List α}{p:Nat}{x:α}(h:l[p]?=some x):l.drop p=x::l.drop (p+1):=by
 obtain⟨h1,h2⟩:=List.getElem?_eq_some_iff.mp h
 rw [List.drop_eq_getElem_cons h1,h2]
theorem Hyp.law{items:List Nd}(hi:IOk items)(hold:∀x∈items,x.old){pt:List Int→List Int}(hpt:PtProp pt):∀{p:Nat}{t:Bool}{r:List Nd},Hyp items pt p t r→p≤items.length→∃told,HypL items pt p t r told:=by
 intro p t r h
 have og:∀x∈items,NGood x:=fun x hx=>vV (hold x hx) (by have:=zB hx;have:=hi.all;exact At (by assumption) this)
 induction h with
 |done h =>
  intro hp
  rename_i p t
  have e:items.length-p=0:=by exact Nat.sub_eq_zero_of_le ‹_›
  exact⟨[],by rw [List.drop_eq_nil_of_le h];rfl,fun x hx=>(nomatch hx),rfl,.nil,fun y hy=>(nomatch hy),fun y hy=>(nomatch hy),fun w hw=>by rw [e]at hw;cases hw⟩
 |step hx hn _ ih =>
  rename_i p t x r _
  intro hp
  have hpl:p<items.length:=(List.getElem?_eq_some_iff.mp hx).1
  have hxm:=List.mem_of_getElem? hx
  obtain⟨told,hl⟩:=ih hpl
  have hw:=pX (pt:=pt) (t:=t) hx
  have hc:=d8 hx
  refine⟨told,?_,fun y hy=>?_,?_,hl.srt,fun y hy=>?_,fun y hy=>?_,fun w hww a l e=>?_⟩
  ·rw [d9 hx,←hl.flat]
   unfold flatF
   rw [List.map_cons,List.flatten_cons,iO (hold x hxm).no];rfl
  ·rcases mCp hy with rfl|h
   ·exact og _ hxm
   ·exact hl.good y h
  ·rw [fF (hold x hxm).no,←hc,hl.plc]
  ·have:=hl.rng y hy;exact BR hpl hc this
  ·rw [hw,List.flatten_append]
   exact mAr (.inr (hl.sub y hy))
  ·rw [hw]at hww
   rcases mAp hww with h|h
   ·rcases hn with hn|⟨v,hv,hv2⟩
    ·rw [hn]at h;cases h
    ·rw [hv]at h
     simp only [hv2,List.map_nil,List.mem_singleton]at h
     rw [h]at e;cases e
   ·exact hl.fst w h a l e
 |brk hx hpa hne hso hns hbr _ ih =>
  rename_i p t x r bs b e ls s ns _
  intro hp
  have hpl:p<items.length:=(List.getElem?_eq_some_iff.mp hx).1
  have hxm:=List.mem_of_getElem? hx
  obtain⟨told,hl⟩:=ih hso.len
  obtain⟨wv,st,vv,rfl,rfl,hw⟩:∃w s v,x = .skip w s v∧t=true∧fX items p=some (b,e,ls):=qB hpa
  obtain⟨w1,w2,w3,w4,w5,_⟩:=gK hi hw
  have hpf:=hso.first_gt hx (by exact C1 w1) rfl
  have f1:=hso.fst
  have f2:=hso.lst
  have f3:=hso.len
  have hroom:=hso.room w2
  have hlsl:ls.length=(cds (seg items b e)).length:=by rw [w5,List.length_map]
  have hcsf:s.codes=csOf ns:=by rw [hso.codes,hns];exact cN ns
  have hcl:cC items s.last=cC items s.first+s.codes.length:=by rw [hso.codes,hso.nodes];exact sV (by exact K7 f1 f2)
  have h90:s.codes.length≤90:=by
   have h1:=uP (items:=items) (a:=0) (b:=s.first) (Nat.zero_le _)
   have h2:=uP (items:=items) f3
   have h3:cC items items.length=((cds items).length:Int):=by unfold cC;rw [List.take_length]
   have h4:cC items 0=0:=rfl
   have:=hi.all
   exact AY hcl h1 h2 h3 h4 this
  have hnl:ns.length≤10000:=by
   have h1:=congrArg List.length hso.nodes
   rw [hns,List.length_map,kF f3]at h1
   have:=hi.len;exact As hpf f3 h1 this
  have hcb:cC items b=cC items s.first+((cds (seg items s.first b)).length:Int):=sV f1
  obtain⟨p1,p2⟩:=hpt.rng w4,hpt.srt w4
  have p1:=hpt.rng w4
  have p2:=hpt.srt w4
  obtain⟨kept,k1,k2,k3,k4,k5⟩:=hbr.law hns hcsf h90 hnl (Nat.zero_le _) fun q hq=>by
   obtain⟨q0,hq0,rfl⟩:=mMp hq
   have:=p1 q0 hq0
   exact AT f3 hroom hlsl this
  have hseg:∀y∈seg items (p+1) s.first,y∈items:=fun y hy=>List.mem_of_mem_drop (List.mem_of_mem_take hy)
  have hsego:∀y∈seg items (p+1) s.first,y.old:=fun y hy=>hold y (hseg y hy)
  have hcp:=d8 hx
  have hcf:cC items s.first=cC items (p+1)+((cds (seg items (p+1) s.first)).length:Int):=sV hpf
  have hkept:∀q∈kept,∃q0∈pt ls,q=((cds (seg items s.first b)).length:Int)+q0:=fun q hq=>by
   obtain⟨q0,h1,h2⟩:=mMp (k1.subset hq)
   exact⟨q0,h1,h2.symm⟩
  have hlow:∀y∈kept.map (cC items s.first + ·),cC items p<y∧y<cC items s.last:=fun y hy=>by
   obtain⟨q,hq,rfl⟩:=mMp hy
   obtain⟨q0,h1,rfl⟩:=hkept q hq
   have h2:=p1 q0 h1
   have h3:=uP (items:=items) (a:=p) (b:=b) (by exact Nat.le_of_succ_le ‹_›)
   show cC items p<cC items s.first+(((cds (seg items s.first b)).length:Int)+q0)∧cC items s.first+(((cds (seg items s.first b)).length:Int)+q0)<cC items s.last
   exact Ci f3 hroom hlsl hcl hcp hcf h2
  have hshort:∀j,p+1≤j→j<s.last→∃s,items[j]?=some (.sh s):=fun j h1 h2=>by
   rcases Nat.lt_or_ge j b with q|q
   ·exact F6 hw j h1 q
   ·have hj:(seg items s.first s.last)[j-s.first]?=some items[j]:=by
     rw [kD (by exact q_1029 f1 f2 f3 h2),show s.first+(j-s.first)=j by exact Ar f1 f3 q]
     exact List.getElem?_eq_getElem (by exact Nat.lt_of_lt_of_le ‹_› ‹_›)
    obtain⟨y,hy⟩:=hso.short items[j] (by rw [hso.nodes];exact List.mem_of_getElem? hj)
    exact⟨y,by rw [List.getElem?_eq_getElem (by exact Nat.lt_of_lt_of_le ‹_› ‹_›),hy]⟩
  have hws:=pX (pt:=pt) (t:=true) hx
  rw [hpa,show fN true (Nd.skip wv st vv)=true from rfl,pA (pt:=pt) (t:=true) _ rfl (by exact Ai w1 f2) f3 hshort]at hws
  refine⟨kept.map (cC items s.first + ·)++told,?_,fun y hy=>?_,?_,?_,fun y hy=>?_,fun y hy=>?_,fun w hww a l e2=>?_⟩
  ·rw [d9 hx]
   have e1:flatF (Nd.skip wv st vv::(seg items (p+1) s.first++bs++r))=Nd.skip wv st vv::(flatF (seg items (p+1) s.first)++flatF bs++flatF r):=by
    rw [←vN,←vN];rfl
   rw [e1,sM _ hsego,k2,hl.flat,List.drop_zero,←hns,hso.nodes]
   congr 1
   rw [←jE (by exact Cs hpf) (by exact K7 f1 f2),seg]
   have:=List.take_append_drop (s.last-(p+1)) (items.drop (p+1))
   rwa [List.drop_drop,show p+1+(s.last-(p+1))=s.last by exact CK w1 f2 f3]at this
  ·rcases mCp hy with rfl|h
   ·exact og _ hxm
   ·rcases mAp h with h|h
    ·rcases mAp h with h|h
     ·exact og _ (hseg y h)
     ·exact k3 y h
    ·exact hl.good y h
  ·rw [fF rfl,←hcp,List.append_assoc,mX _ _ _ hsego,←hcf]
   have:=k4 (cC items s.first) r
   rw [List.take_zero,show((csOf []).length:Int)=0 from rfl,Int.add_zero,←hcl,hl.plc]at this
   exact this
  ·refine List.pairwise_append.mpr ⟨?_,hl.srt,fun y hy z hz=>?_⟩
   ·have e1:((pt ls).map fun q=>((cds (seg items s.first b)).length:Int)+q).Pairwise (· < ·):=List.Pairwise.map (R:=(· < ·)) _ (fun a b h=>Int.add_lt_add_left h _) p2
    have e2:kept.Pairwise (· < ·):=List.Pairwise.sublist k1 e1
    exact List.Pairwise.map (R:=(· < ·)) _ (fun a b h=>Int.add_lt_add_left h _) e2
   ·have:=hlow y hy;have:=hl.rng z hz;exact Ch (by assumption) this
  ·have hll:=uP (items:=items) f3
   rcases mAp hy with h|h
   ·have:=hlow y h;exact CF f3 hcp hll this
   ·have:=hl.rng y h
    have:=uP (items:=items) (a:=p) (b:=s.last) (by exact Ba w1 f2)
    exact CA f3 hcl hcp hcf (by assumption)
  ·rw [hws,List.flatten_append]
   refine mAr ?_
   rcases mAp hy with h|h
   ·obtain⟨q,hq,rfl⟩:=mMp h
    obtain⟨q0,h1,rfl⟩:=hkept q hq
    refine .inl (List.mem_flatten.mpr ⟨_,.head _,mMr ⟨q0,h1,?_⟩⟩)
    show cC items b+q0=_
    exact E0 hcb
   ·exact .inr (hl.sub y h)
  ·rw [hws]at hww
   refine mAr ?_
   rcases mAp hww with h|h
   ·rw [mSp h]at e2
    cases hq:pt ls with
    |nil=>exact absurd hq hne
    |cons q0 qs =>
     simp only [hq,List.map_cons,List.cons.injEq]at e2
     obtain⟨l',hk⟩:=k5 rfl _ _ (by rw [hq];rfl)
     rw [hk,←e2.1]
     refine .inl ?_
     rw [List.map_cons]
     have e3:((cds (items.take b)).length:Int)+q0=cC items s.first+(((cds (seg items s.first b)).length:Int)+q0):=by
      show cC items b+q0=_
      exact E0 hcb
     rw [e3]
     exact .head _
   ·exact .inr (hl.fst w h a l e2)
end
section
set_option tactic.hygienic true
noncomputable def cntN(r:List Nd):Nat:=r.countP (·.isNew)
theorem jV:∀(r:List Nd) (h:Int),(placesF h r).length=cntN r
 |[],_=>rfl
 |x::r,h=>by
  unfold cntN
  rw [List.countP_cons]
  cases hx:x.isNew with
  |false =>
   rw [fF hx,jV r];simp [cntN]
  |true =>
   rcases x with _|_|_|⟨_|⟨a,as⟩,b,c⟩|_ <;> first|exact aL hx|skip
   show(placesF _ r).length+1=_
   rw [jV r];simp [cntN]
theorem LinesR.ok{done:List (List Int)}{cur:List Int}{r:List Nd}{res:List (List Int)}(h:LinesR done cur r res):(∀x∈r,E1 x)→(∀l∈done,l.getLast?=some 45) →
  (∀l∈res.dropLast,l.getLast?=some 45)∧(res.dropLast.map List.dropLast).flatten++res.getLast?.getD []=(done.map List.dropLast).flatten++cur++cds (flatF r)∧res≠[]∧res.length≤done.length+1+cntN r:=by
 induction h with
 |nil =>
  intro _ hd
  refine⟨by simpa using hd,by simp [flatF,cds],by simp,by simp [cntN]⟩
 |brk _ ih =>
  rename_i done cur a as b c r res _
  intro hx hd
  rcases hx _ (.head _)with h|⟨u,h1,h2⟩
  ·exact bV h
  have hpre:cds (shN (a::as))=u++[45]:=by rw [cN];exact h1
  obtain⟨i1,i2,i3,i4⟩:=ih (fun y hy=>hx y (.tail _ hy)) fun l hl=>by
   rcases mAp hl with h|h
   ·exact hd l h
   ·rw [mSp h,hpre,←List.append_assoc];simp
  refine⟨i1,?_,i3,?_⟩
  ·rw [i2,hpre]
   have e:flatF (.disc (a::as) b c::r)=shN c++flatF r:=rfl
   rw [e,cL,cN,cN,←h2,List.map_append,List.flatten_append]
   simp only [List.map_cons,List.map_nil,List.flatten_cons,List.flatten_nil,List.append_nil,←List.append_assoc,List.dropLast_concat]
  ·have:cntN (.disc (a::as) b c::r)=cntN r+1:=by exact List.countP_cons_of_pos rfl
   rw [this]
   simp at i4;exact AX i4
 |go _ ih =>
  rename_i done cur x r res _
  intro hx hd
  obtain⟨i1,i2,i3,i4⟩:=ih (fun y hy=>hx y (.tail _ hy)) hd
  refine⟨i1,?_,i3,?_⟩
  ·rw [i2]
   have e:flatF (x::r)=x.mids++flatF r:=rfl
   rw [e,cL]
   simp only [List.append_assoc]
  ·have:cntN r≤cntN (x::r):=by unfold cntN;rw [List.countP_cons];exact tX
   exact CG i4 this
theorem lO{v:List Int}:∀{l:List (List Int)},v∈l→v.length≤l.flatten.length
 |w::l,h=>by
  rw [List.flatten_cons,List.length_append]
  rcases mCp h with rfl|h
  ·exact tX
  ·have:=lO h;exact BU this
theorem srt_few:∀{l:List Int}{a b:Int},l.Pairwise (· < ·)→(∀y∈l,a<y∧y<b)→l = []∨(l.length:Int)+1≤b-a
 |[],_,_,_,_=>.inl rfl
 |y::l,a,b,h,hy=>by
  obtain⟨h1,h2⟩:=List.pairwise_cons.mp h
  have h3:=hy y (.head _)
  have:=srt_few h2 (a:=y) (b:=b) fun z hz=>⟨h1 z hz,(hy z (.tail _ hz)).2⟩
  refine .inr ?_
  rw [List.length_cons]
  rcases this with rfl|h4
  ·exact Br h3
  ·exact CW h3 h4
theorem b7:∀{r:List Nd},(∀x∈r,NGood x)→(r.map Nd.big).sum≤(cds (flatF r)).length+300*cntN r
 |[],_=>by exact Nat.zero_le _
 |x::r,h=>by
  have e:flatF (x::r)=x.mids++flatF r:=rfl
  have h1:=(h x (.head _)).big
  have h2:=b7 (r:=r) fun y hy=>h y (.tail _ hy)
  rw [e,cL,List.length_append,List.map_cons,List.sum_cons]
  have h3:cntN (x::r)=cntN r+(if x.isNew then 1 else 0):=by unfold cntN;rw [List.countP_cons]
  rw [h3]
  split at h1 <;> simp_all <;>(first|exact BH h2 h1|exact Ag h2 h1)
theorem j5{t:PT}{lf rt:Nat}(h1:1≤lf∧lf≤5)(h2:1≤rt∧rt≤5):PtProp (ptOf t lf rt) where
 rng hl q hq:=by
  have:=oH hq
  exact I3 h1 h2 this
 srt hl:=tD
theorem n8:iD:=by
 intro items t lf rt r hT h1 h2 hi h40 hold hr hrl
 obtain⟨told,hl⟩:=Hyp.law hi (fun x hx=>(hold x hx).2) (j5 (t:=t) h1 h2) hr (Nat.zero_le _)
 have hp:placesF 0 r=told:=hl.plc
 have hc0:cC items 0=0:=rfl
 have hcl:cC items items.length=((cds items).length:Int):=by unfold cC;rw [List.take_length]
 have hfew:told.length≤40:=by
  rcases srt_few hl.srt hl.rng with e|e
  ·rw [e];exact Nat.zero_le _
  ·exact AP h40 hc0 hcl e
 have hcnt:cntN r≤40:=by rw [←jV r 0,hp];exact hfew
 have hfl:flatF r=items:=hl.flat
 have hbig:=b7 hl.good
 rw [hfl]at hbig
 refine⟨hfl,fun x hx=>(hl.good x hx).fine,by exact Cv h40 hcnt hbig,by rw [hp];exact AR hfew,by rw [hp];exact hl.srt,by rw [hp];exact hl.sub,by rw [hp];exact hl.fst,fun res hres=>?_⟩
 obtain⟨l1,l2,l3,l4⟩:=hres.ok (fun x hx=>(hl.good x hx).disc) fun l h=>(nomatch h)
 rw [hfl]at l2
 have l2':(res.dropLast.map List.dropLast).flatten++res.getLast?.getD []=cds items:=by exact l2
 have hlen:=congrArg List.length l2'
 rw [List.length_append]at hlen
 refine⟨l1,l2',l3,by simp at l4;exact BP hcnt l4,fun l hm=>?_⟩
 rcases List.eq_nil_or_concat res with e|⟨rs,la,e⟩
 ·exact absurd e l3
 ·rw [List.concat_eq_append]at e
  subst e
  rw [List.dropLast_concat]at hlen
  rcases mAp hm with h|h
  ·have:=lO (mMr ⟨l,h,rfl⟩:l.dropLast∈rs.map List.dropLast)
   rw [List.length_dropLast]at this
   exact AU h40 hlen this
  ·rw [mSp h]
   simp at hlen
   exact AO h40 hlen
end
section
set_option tactic.hygienic true
open PySem PySem.W PySem.Calls PyProof.Rows
noncomputable abbrev eN:OpenRow:=PySem.Challenge.rw_sq0078_01.row
noncomputable def yN:DefRec:=⟨"law",bD .law,eF .law,scopeOf .law,match topStmt 119 with
 |.FunctionDef _ _ _ _ _ _ _ _ _ pos=>pos
 |_=>⟨0,0,0,0⟩⟩
theorem law_def:defOf yB eN.name=some (yN,[]):=by kernel_rfl
theorem law_the:eN.prog.theDef eN.name=some (yN.params,yN.body,yN.scope):=by kernel_rfl
theorem law_kw:kwWritten? yN.params.kwonlyargs yN.params.kw_defaults=some []:=by kernel_rfl
theorem law_ok:(chainsOk yB&&opensWell eN.prog&&(frees eN.toRowW&&eN.within.isEmpty))=true:=by kernel_rfl
theorem law_bare:eN.prog.bare:=⟨rfl,rfl,rfl,rfl,rfl,by kernel_rfl⟩
theorem law_prom:eN.toRowW.promised:=⟨[.list []],by decide +kernel,by decide +kernel⟩
theorem P9{w:World}{h:Heap}:∀{xs:List WData}{vs:List Value},WellAll w.params h vs xs→(xs.all fun x=>WShape.has [] x .int)=true→∃is:List Int,is.length=xs.length∧∀W:Wd,bT W h [] (is.map .int) vs:=by
 intro xs
 induction xs with
 |nil=>intro vs hw _;cases hw;exact⟨[],rfl,fun _=>rfl⟩
 |cons d ds ih =>
  intro vs hw e
  cases hw with
  |cons h1 h2 =>
   rw [List.all_cons]at e
   obtain⟨e1,e2⟩:=anp e
   obtain⟨is,hl,hi⟩:=ih h2 e2
   cases d <;> first|exact aL e1|skip
   rename_i i
   cases h1
   rename_i t
   exact⟨i::is,congrArg Nat.succ hl,fun W=>⟨_,_,rfl,⟨t,rfl⟩,hi W⟩⟩
theorem vU:∀xs:List WData,WShape.hasItems [] xs .int=true→(xs.all fun x=>WShape.has [] x .int)=true
 |[],_=>rfl
 |x::xs,h=>by
  have h:(WShape.has [] x .int&&WShape.hasItems [] xs .int)=true:=h
  obtain⟨a,b⟩:=anp h
  rw [List.all_cons,a,vU xs b];rfl
theorem C9{args:List WData}(h:eN.claim.pre args=true):∃xs,args = [.list xs]∧(xs.all fun x=>WShape.has [] x .int)=true∧xs.length≤63:=by
 have h:(WShape.hasAll [] args [.list .int]&&eN.pre.holds [] {args:=args})=true:=h
 obtain⟨h1,h2⟩:=anp h
 rcases args with _|⟨d,_|⟨d2,r⟩⟩
 ·cases h1
 ·have h1:(WShape.has [] d (.list .int)&&true)=true:=h1
  rw [Bool.and_true]at h1
  obtain⟨xs,rfl⟩:∃xs,d = .list xs:=by cases d <;> first|exact⟨_,rfl⟩|cases h1
  refine⟨xs,rfl,?_,?_⟩
  ·have h1:(WShape.hasItems [] xs .int||false)=true:=h1
   rw [Bool.or_false]at h1
   exact vU xs h1
  ·rcases Nat.lt_or_ge 63 xs.length with q|q
   ·exfalso
    have e1:WTm.value [] (.lt (.lit (.int 63)) (.len (.arg 0))) {args:=[.list xs]}=some (.bool true):=by
     show(some (decide ((63:Int)<xs.length))).map WData.bool=_
     rw [decide_eq_true (by omega)];rfl
    have e2:WTm.value [] (.not (.lt (.lit (.int 63)) (.len (.arg 0)))) {args:=[.list xs]}=some (.bool false):=by rw [WTm.value,e1];rfl
    have this:eN.pre.holds [] {args:=[.list xs]}=false:=by
     show WTm.holds [] (.and (.not (.lt (.lit (.int 63)) (.len (.arg 0)))) (.lit (.bool true))) _=false
     rw [WTm.holds,WTm.value,e2]
    rw [this]at h2;cases h2
   ·exact q
 ·have h1:(WShape.has [] d (.list .int)&&false)=true:=by
   have:WShape.hasAll [] (d::d2::r) [.list .int]=(WShape.has [] d (.list .int)&&(WShape.hasAll [] (d2::r) [])):=rfl
   exact h1
  rw [Bool.and_false]at h1;cases h1
theorem law_call:WalkO yB hZ (fun _ _=>True) (fun _ h=>lawKept h) eN.toRowW yN [] fun f vs=>PySem.call f vs:=by
 intro w s₀ s₁ mg mb G Y a o pm cd doc dV kV ho hd hcd hD hmg hg args vals as hpre hlay hrd hwl hlo
 obtain⟨g,hk,h1,h2⟩:=Y
 have aK:aG (B5 w g s₁.heap):=S0 hk h1 h2 ⟨_,_,_,_,topRead_of G.T⟩
 obtain⟨xs,rfl,hxs,h63⟩:=C9 hpre
 rcases hwl with _|@⟨v,_,_,_,hw1,hw2⟩
 cases hw2
 rcases hw1 with _|_|_|_|_|_|_|@⟨l,vs,_,hla,hvs⟩
 obtain⟨is,hil,his⟩:=P9 hvs hxs
 have hfa:(Value.ref a) = .ref (faG g .law):=by
  have:=mg_of aK.wk.X G.T.g (aK.nk.fn ("law",.law) (by decide))
  have e:=hmg.symm.trans this
  exact Option.some.inj e
 have me:Mem (B5 w g s₁.heap) [] [] s₁.heap:=⟨fun _ h=>(nomatch h),fun b o e=>⟨e,fun h=>(nomatch h)⟩,.nil,fun _ h=>(nomatch h),fun _ h=>(nomatch h)⟩
 have vr:VRelL (B5 w g s₁.heap) s₁.heap ([]++foot []) [.fz (intL is)] [.ref l]:=⟨_,_,rfl,by
  show Rep _ _ _ (.lst _) _
  refine(?_:Exists _);exact⟨l,vs,rfl,fun h=>(nomatch h),⟨0,hla⟩,his _⟩,rfl⟩
 have run:=(Cm (n:=8) (M:=[]) (Q:=fun v N=>v = .fz (.bool true)) n8 aK (by omega:is.length≤1000) rfl).op callerA [] s₁ _ ⟨rfl,by decide +kernel,by decide +kernel⟩ me vr
 have hfa:=Value.ref.inj hfa
 subst hfa
 refine wpAny_mono run (fun v s' ⟨v',M',hv,hr,hme,hst⟩=>?_) fun _ _ x=>x.elim
 subst hv
 have hr:v = .bool true:=hr
 subst hr
 obtain⟨h',tk,e⟩:=hst.rest
 refine GoodW.toG ⟨.inl ⟨.bool true,.bool true,[],rfl,fun _=>rfl,.bool true,?_,fun _=>⟨.nil,fun _ h=>(nomatch h)⟩⟩,fun b o hb=>hst.keep b o hb fun h=>(nomatch h),by rw [e],by rw [e];exact hg⟩
 kernel_rfl
end
end Mine
set_option maxRecDepth 100000 in
set_option maxHeartbeats 8000000 in
theorem PySem.Challenge.cw_sq0078_01_holds : PySem.Challenge.rw_sq0078_01.Holds := by
 refine holds_law Mine.law_ws fun said=>?_
 exact holds_open (r:=PySem.Challenge.rw_sq0078_01.row) (XP:=fun _ _=>True) (YP:=fun _ h=>Mine.lawKept h) Mine.left (fun w s e=>of_eq_true e) (fun w h h' ⟨g,a,b⟩ k=>⟨g,fun x o e=>k _ _ (a x o e),b⟩)
  (fun _ _=>trivial) (fun _ _ _ _ _=>trivial) Mine.law_def Mine.law_the Mine.law_kw (fun s _=>recFacts_nil rfl) rfl said Mine.law_ok Mine.law_bare Mine.law_prom Mine.law_call
