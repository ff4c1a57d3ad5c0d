import PyProof.Rows.All
import Wide.All
import OpenK.AllK
import Wide.FinOn
import Open.Split
import KE.KEqDict
import KE.BytesMul
import KE.KDictNew
import KE.KTab
import PySem.Challenge.RW_no0086_01
open PySem PySem.W PyProof.Rows
set_option Elab.async false
set_option maxRecDepth 100000
set_option maxHeartbeats 8000000
namespace Mine
theorem byC {G:Prop} (h:∀ C:Prop,(G→C)→C):G:=h G id
theorem zr:true=true:=Eq.refl true
theorem abs_le {z:Int} {n:Nat} (h0:0 ≤ z) (h1:z ≤ n):z.natAbs ≤ n:=by
  obtain ⟨m,rfl⟩:=Int.eq_ofNat_of_zero_le h0
  exact Int.ofNat_le.mp h1
theorem fits0 {k:Int} (h0:0 ≤ k) (h1:k < 9223372036854775808):-2 ^ 63 ≤ k ∧ k < 2 ^ 63:=⟨Int.le_trans (by decide) h0,h1⟩
theorem lt63 {n:Nat} (h:n ≤ 1000):(n:Int) < 9223372036854775808:=Int.lt_of_le_of_lt (Int.ofNat_le.mpr h) (by decide)
end Mine
section
namespace Mine.Li
inductive Lx where
  | v (i:Nat) | k (n:Nat) | a (x y:Lx) | s (x y:Lx) | m (n:Nat) (x:Lx) | mn (x y:Lx) | mx (x y:Lx) | c (x:Lx) | t (x:Lx)
inductive Lp where
  | le (x y:Lx) | lt (x y:Lx) | eq (x y:Lx) | Le (x y:Lx) | Lt (x y:Lx) | Eq (x y:Lx) | n (p:Lp) | o (p q:Lp) | a (p q:Lp) | f
inductive Ct where
  | w (l:List Nat) | b (x y:Ct)
section
variable (N:List Nat) (I:List Int)
noncomputable def Lx.d (x:Lx):Nat × Int:=match x with
  | .v i=>(N.getD i 0,I.getD i 0)
  | .k n=>(n,n)
  | .a x y=>(x.d.1 + y.d.1,x.d.2 + y.d.2)
  | .s x y=>(x.d.1 - y.d.1,x.d.2 - y.d.2)
  | .m n x=>(n * x.d.1,n * x.d.2)
  | .mn x y=>(min x.d.1 y.d.1,min x.d.2 y.d.2)
  | .mx x y=>(max x.d.1 y.d.1,max x.d.2 y.d.2)
  | .c x=>(0,(x.d.1:Int))
  | .t x=>(x.d.2.toNat,0)
noncomputable def Lp.d (p:Lp):Prop:=match p with
  | .le x y=>(x.d N I).1 ≤ (y.d N I).1
  | .lt x y=>(x.d N I).1 < (y.d N I).1
  | .eq x y=>(x.d N I).1=(y.d N I).1
  | .Le x y=>(x.d N I).2 ≤ (y.d N I).2
  | .Lt x y=>(x.d N I).2 < (y.d N I).2
  | .Eq x y=>(x.d N I).2=(y.d N I).2
  | .n p=>¬ p.d
  | .o p q=>p.d ∨ q.d
  | .a p q=>p.d ∧ q.d
  | .f=>False
noncomputable def Lp.to (g:Lp):List Lp→Prop
  | []=>g.d N I
  | p :: r=>p.d N I→g.to r
end
noncomputable abbrev Lf:=Int × List Int × List Int
noncomputable def addL:List Int→List Int→List Int
  | [],b=>b
  | a,[]=>a
  | x :: a,y :: b=>(x + y) :: addL a b
noncomputable def dotL:List Int→List Int→Int
  | x :: a,y :: b=>x * y + dotL a b
  | _,_=>0
noncomputable def unitL:Nat→List Int
  | 0=>[1]
  | i + 1=>0 :: unitL i
noncomputable def Lf.add (p q:Lf):Lf:=(p.1 + q.1,addL p.2.1 q.2.1,addL p.2.2 q.2.2)
noncomputable def Lf.mul (z:Int) (p:Lf):Lf:=(z * p.1,p.2.1.map (z * ·),p.2.2.map (z * ·))
noncomputable def Lf.sub (p q:Lf):Lf:=Lf.add p (Lf.mul (-1) q)
noncomputable def Lf.k (z:Int):Lf:=(z,[],[])
noncomputable abbrev La:=List (List Lf × Lf)
noncomputable def prL {α β γ:Type} (h:α→β→List (List Lf × γ)) (xs:List (List Lf × α)) (ys:List (List Lf × β)):List (List Lf × γ):=xs.flatMap fun x=>ys.flatMap fun y=>(h x.2 y.2).map fun z=>(z.1 ++ (x.1 ++ y.1),z.2)
noncomputable def unA (h:Lf→Lf→La) (xs:La):La:=prL h xs [([],Lf.k 0)]
noncomputable def addA:Lf→Lf→La:=fun p q=>[([],p.add q)]
noncomputable def subA:Lf→Lf→La:=fun p q=>[([],p.sub q)]
noncomputable def monA:Lf→Lf→La:=fun p q=>[([q.sub p],p.sub q),([p.sub q],Lf.k 0)]
noncomputable def minA:Lf→Lf→La:=fun p q=>[([p.sub q],p),([q.sub p],q)]
noncomputable def maxA:Lf→Lf→La:=fun p q=>[([p.sub q],q),([q.sub p],p)]
noncomputable def mulA (z:Int):Lf→Lf→La:=fun p _=>[([],p.mul z)]
noncomputable def Lx.al:Lx→La × La
  | .v i=>([([],(0,unitL i,[]))],[([],(0,[],unitL i))])
  | .k n=>([([],Lf.k n)],[([],Lf.k n)])
  | .a x y=>(prL addA x.al.1 y.al.1,prL addA x.al.2 y.al.2)
  | .s x y=>(prL monA x.al.1 y.al.1,prL subA x.al.2 y.al.2)
  | .m n x=>(unA (mulA n) x.al.1,unA (mulA n) x.al.2)
  | .mn x y=>(prL minA x.al.1 y.al.1,prL minA x.al.2 y.al.2)
  | .mx x y=>(prL maxA x.al.1 y.al.1,prL maxA x.al.2 y.al.2)
  | .c x=>([([],Lf.k 0)],x.al.1)
  | .t x=>(unA monA x.al.2,[([],Lf.k 0)])
noncomputable abbrev Lb:=List (List Lf × Unit)
noncomputable def leA:Lf→Lf→Lb:=fun p q=>[([p.sub q],())]
noncomputable def ltA:Lf→Lf→Lb:=fun p q=>[([(p.sub q).add (Lf.k 1)],())]
noncomputable def gtA:Lf→Lf→Lb:=fun p q=>[([(q.sub p).add (Lf.k 1)],())]
noncomputable def geA:Lf→Lf→Lb:=fun p q=>[([q.sub p],())]
noncomputable def eqA:Lf→Lf→Lb:=fun p q=>[([p.sub q,q.sub p],())]
noncomputable def neA:Lf→Lf→Lb:=fun p q=>[([(p.sub q).add (Lf.k 1)],()),([(q.sub p).add (Lf.k 1)],())]
noncomputable def andA:Unit→Unit→Lb:=fun _ _=>[([],())]
noncomputable def Lp.al:Lp→Lb × Lb
  | .le x y=>(prL leA x.al.1 y.al.1,prL gtA x.al.1 y.al.1)
  | .lt x y=>(prL ltA x.al.1 y.al.1,prL geA x.al.1 y.al.1)
  | .eq x y=>(prL eqA x.al.1 y.al.1,prL neA x.al.1 y.al.1)
  | .Le x y=>(prL leA x.al.2 y.al.2,prL gtA x.al.2 y.al.2)
  | .Lt x y=>(prL ltA x.al.2 y.al.2,prL geA x.al.2 y.al.2)
  | .Eq x y=>(prL eqA x.al.2 y.al.2,prL neA x.al.2 y.al.2)
  | .n p=>(p.al.2,p.al.1)
  | .o p q=>(p.al.1 ++ q.al.1,prL andA p.al.2 q.al.2)
  | .a p q=>(prL andA p.al.1 q.al.1,p.al.2 ++ q.al.2)
  | .f=>([],[([],())])
noncomputable def posZ (z:Int):Bool:=match z with
  | .ofNat n=>Nat.blt 0 n
  | .negSucc _=>false
noncomputable def nonZ (z:Int):Bool:=match z with
  | .ofNat _=>true
  | .negSucc _=>false
noncomputable def comb:List Nat→List Lf→Lf
  | w :: ws,c :: cs=>(c.mul w).add (comb ws cs)
  | _,_=>Lf.k 0
noncomputable def clo (acc:List Lf) (w:List Nat):Bool:=posZ (comb w acc).1 && ((comb w acc).2.1.all nonZ && (comb w acc).2.2.all fun z=>nonZ z && nonZ (-z))
noncomputable def Ct.l (c:Ct):Ct:=@Ct.casesOn (fun _=>Ct) c .w fun x _=>x
noncomputable def Ct.r (c:Ct):Ct:=@Ct.casesOn (fun _=>Ct) c .w fun _ y=>y
noncomputable def cloC (acc:List Lf) (c:Ct):Bool:=@Ct.casesOn (fun _=>Bool) c (clo acc) fun _ _=>false
noncomputable def brs (f:List Lf→Ct→Bool) (A:Lb):Ct→Bool:=@List.rec (List Lf × Unit) (fun _=>Ct→Bool) (fun _=>true) (fun z zs ih c=>bif zs.isEmpty then f z.1 c else f z.1 c.l && ih c.r) A
noncomputable def runL (As:List Lb):List Lf→Ct→Bool:=@List.rec Lb (fun _=>List Lf→Ct→Bool) cloC (fun A _ ih acc c=>cloC acc c || brs (fun z c=>ih (z ++ acc) c) A c) As
noncomputable def chkL (fs:List Lp) (g:Lp) (c:Ct):Bool:=runL (g.al.2 :: fs.map fun p=>p.al.1) [] c
section
variable {N:List Nat} {I:List Int}
noncomputable def evL (N:List Nat) (I:List Int) (p:Lf):Int:=p.1 + dotL p.2.1 (N.map Int.ofNat) + dotL p.2.2 I
theorem add4 (a b c d:Int):a + b + (c + d)=a + c + (b + d):=by rw [Int.add_assoc,Int.add_left_comm b c d,← Int.add_assoc]
theorem dot_add {V:List Int}:∀ {a b:List Int},dotL (addL a b) V=dotL a V + dotL b V:=by
  intro a
  induction a generalizing V with
  | nil=>intro b; show dotL b V=dotL [] V + _; cases V <;> exact (Int.zero_add _).symm
  | cons x a ih =>
    intro b
    cases b with
    | nil=>show _=_ + dotL [] V; cases V <;> exact (Int.add_zero _).symm
    | cons y b=>cases V with
      | nil=>rfl
      | cons u V =>
        show (x + y) * u + dotL (addL a b) V=(x * u + dotL a V) + (y * u + dotL b V)
        rw [ih,Int.add_mul,add4]
theorem dot_mul {V:List Int} {z:Int} {a:List Int}:dotL (a.map (z * ·)) V=z * dotL a V:=by
  induction a generalizing V with
  | nil=>cases V <;> exact (Int.mul_zero _).symm
  | cons x a ih=>cases V with
    | nil=>exact (Int.mul_zero _).symm
    | cons u V =>
      show z * x * u + dotL (a.map _) V=z * (x * u + dotL a V)
      rw [ih,Int.mul_add,Int.mul_assoc]
theorem dot_unit {V:List Int}:∀ {i:Nat},dotL (unitL i) V=V.getD i 0:=by
  induction V with
  | nil=>intro i; cases i <;> rfl
  | cons u V ih =>
    intro i
    cases i with
    | zero=>show 1 * u + dotL [] V=u; cases V <;> (show 1 * u + 0=u; rw [Int.one_mul,Int.add_zero])
    | succ i=>show 0 * u + dotL (unitL i) V=V.getD i 0; rw [ih,Int.zero_mul,Int.zero_add]
theorem ev_add {p q:Lf}:evL N I (p.add q)=evL N I p + evL N I q:=by
  show p.1 + q.1 + dotL (addL _ _) _ + dotL (addL _ _) _=(p.1 + dotL p.2.1 _ + dotL p.2.2 _) + (q.1 + dotL q.2.1 _ + dotL q.2.2 _)
  rw [dot_add,dot_add,add4 p.1 q.1,add4 (p.1 + _)]
theorem ev_mul {p:Lf} {z:Int}:evL N I (p.mul z)=z * evL N I p:=by
  show z * p.1 + dotL (List.map _ _) _ + dotL (List.map _ _) _=z * (p.1 + dotL p.2.1 _ + dotL p.2.2 _)
  rw [dot_mul,dot_mul,Int.mul_add,Int.mul_add]
theorem ev_sub {p q:Lf}:evL N I (p.sub q)=evL N I p - evL N I q:=by
  show evL N I (p.add _)=_
  rw [ev_add,ev_mul,← Int.neg_eq_neg_one_mul]; rfl
theorem ev_k {z:Int}:evL N I (Lf.k z)=z:=by
  show z + dotL [] _ + dotL [] _=z
  have e:∀ V,dotL [] V=0:=fun V=>by cases V <;> rfl
  rw [e,e,Int.add_zero,Int.add_zero]
noncomputable def AllL (N:List Nat) (I:List Int) (cs:List Lf):Prop:=∀ c ∈ cs,evL N I c ≤ 0
theorem AllL.app {a b:List Lf} (h:AllL N I a) (k:AllL N I b):AllL N I (a ++ b):=fun c hc=>(List.mem_append.mp hc).elim (h c) (k c)
theorem AllL.one {a:Lf} (h:evL N I a ≤ 0):AllL N I [a]:=fun c hc=>List.mem_singleton.mp hc ▸ h
theorem AllL.nil:AllL N I []:=fun c hc=>nomatch hc
noncomputable def HasL {α:Type} (N:List Nat) (I:List Int) (R:α→Prop) (l:List (List Lf × α)):Prop:=∃ z ∈ l,AllL N I z.1 ∧ R z.2
theorem HasL.hd {α:Type} {R:α→Prop} {cs:List Lf} {x:α} {r:List (List Lf × α)} (h:AllL N I cs) (k:R x):HasL N I R ((cs,x) :: r):=⟨_,List.mem_cons_self ..,h,k⟩
theorem HasL.tl {α:Type} {R:α→Prop} {y:List Lf × α} {r:List (List Lf × α)} (h:HasL N I R r):HasL N I R (y :: r):=let ⟨z,hz,h⟩:=h; ⟨z,List.mem_cons_of_mem _ hz,h⟩
theorem HasL.pr {α β γ:Type} {R:α→Prop} {S:β→Prop} {T:γ→Prop} {h:α→β→List (List Lf × γ)} {xs:List (List Lf × α)} {ys:List (List Lf × β)} (hx:HasL N I R xs) (hy:HasL N I S ys) (hh:∀ p q,R p→S q→HasL N I T (h p q)):HasL N I T (prL h xs ys):=by
  refine byC fun zC zk=>?_
  obtain ⟨x,x1,x2,x3⟩:=hx
  obtain ⟨y,y1,y2,y3⟩:=hy
  obtain ⟨z,z1,z2,z3⟩:=hh _ _ x3 y3
  refine zk ?_
  exact ⟨(z.1 ++ (x.1 ++ y.1),z.2),List.mem_flatMap.mpr ⟨x,x1,List.mem_flatMap.mpr ⟨y,y1,List.mem_map.mpr ⟨z,z1,rfl⟩⟩⟩,z2.app (x2.app y2),z3⟩
noncomputable abbrev ValL (N:List Nat) (I:List Int) (z:Int) (l:La):Prop:=HasL N I (fun p=>evL N I p=z) l
theorem val_add {p q:Lf} {a b:Int} (e:evL N I p=a) (f:evL N I q=b):ValL N I (a + b) (addA p q):=.hd .nil (by rw [ev_add,e,f])
theorem val_sub {p q:Lf} {a b:Int} (e:evL N I p=a) (f:evL N I q=b):ValL N I (a - b) (subA p q):=.hd .nil (by rw [ev_sub,e,f])
theorem val_mul {p q:Lf} {z a b:Int} (e:evL N I p=a) (f:evL N I q=b):ValL N I (z * a) (mulA z p q):=.hd .nil (by rw [ev_mul,e])
theorem val_k {z:Int}:ValL N I z [([],Lf.k z)]:=.hd .nil ev_k
theorem val_mon {p q:Lf} {a b z:Int} (h:(b ≤ a ∧ z=a - b) ∨ (a ≤ b ∧ z=0)) (e:evL N I p=a) (f:evL N I q=b):ValL N I z (monA p q):=by
  rcases h with ⟨h,rfl⟩ | ⟨h,rfl⟩
  · exact .hd (.one (by rw [ev_sub,e,f]; exact Int.sub_nonpos_of_le h)) (by rw [ev_sub,e,f])
  · exact .tl (.hd (.one (by rw [ev_sub,e,f]; exact Int.sub_nonpos_of_le h)) ev_k)
theorem val_min {p q:Lf} {a b z:Int} (h:(a ≤ b ∧ z=a) ∨ (b ≤ a ∧ z=b)) (e:evL N I p=a) (f:evL N I q=b):ValL N I z (minA p q):=by
  rcases h with ⟨h,rfl⟩ | ⟨h,rfl⟩
  · exact .hd (.one (by rw [ev_sub,e,f]; exact Int.sub_nonpos_of_le h)) e
  · exact .tl (.hd (.one (by rw [ev_sub,e,f]; exact Int.sub_nonpos_of_le h)) f)
theorem val_max {p q:Lf} {a b z:Int} (h:(a ≤ b ∧ z=b) ∨ (b ≤ a ∧ z=a)) (e:evL N I p=a) (f:evL N I q=b):ValL N I z (maxA p q):=by
  rcases h with ⟨h,rfl⟩ | ⟨h,rfl⟩
  · exact .hd (.one (by rw [ev_sub,e,f]; exact Int.sub_nonpos_of_le h)) f
  · exact .tl (.hd (.one (by rw [ev_sub,e,f]; exact Int.sub_nonpos_of_le h)) e)
theorem Lx.al_ok (x:Lx):ValL N I ((x.d N I).1:Int) x.al.1 ∧ ValL N I (x.d N I).2 x.al.2:=by
  induction x with
  | v i =>
    constructor
    · refine .hd .nil ?_
      show (0:Int) + dotL (unitL i) _ + dotL [] I=((N.getD i 0:Nat):Int)
      rw [dot_unit,show dotL [] I=0 by cases I <;> rfl,List.getD_eq_getElem?_getD,List.getD_eq_getElem?_getD,List.getElem?_map]
      cases N[i]? <;> simp
    · refine .hd .nil ?_
      show (0:Int) + dotL [] _ + dotL (unitL i) I=I.getD i 0
      rw [dot_unit,show dotL [] (N.map Int.ofNat)=0 by cases N <;> rfl,Int.add_zero,Int.zero_add]
  | k n=>exact ⟨val_k,val_k⟩
  | a x y hx hy=>exact ⟨by show ValL N I ((_ + _:Nat):Int) _; rw [Int.natCast_add]; exact hx.1.pr hy.1 fun _ _=>val_add,hx.2.pr hy.2 fun _ _=>val_add⟩
  | s x y hx hy=>exact ⟨hx.1.pr hy.1 fun _ _=>val_mon ((Nat.le_total _ _).imp (fun h=>⟨Int.ofNat_le.mpr h,Int.ofNat_sub h⟩) fun h=>⟨Int.ofNat_le.mpr h,congrArg Int.ofNat (Nat.sub_eq_zero_of_le h)⟩),hx.2.pr hy.2 fun _ _=>val_sub⟩
  | m n x hx=>exact ⟨by show ValL N I ((_ * _:Nat):Int) _; rw [Int.natCast_mul]; exact hx.1.pr (val_k (z:=0)) fun _ _=>val_mul,hx.2.pr (val_k (z:=0)) fun _ _=>val_mul⟩
  | mn x y hx hy=>exact ⟨hx.1.pr hy.1 fun _ _=>val_min ((Nat.le_total _ _).imp (fun h=>⟨Int.ofNat_le.mpr h,congrArg Int.ofNat (Nat.min_eq_left h)⟩) fun h=>⟨Int.ofNat_le.mpr h,congrArg Int.ofNat (Nat.min_eq_right h)⟩),hx.2.pr hy.2 fun _ _=>val_min ((Int.le_total _ _).imp (fun h=>⟨h,Int.min_eq_left h⟩) fun h=>⟨h,Int.min_eq_right h⟩)⟩
  | mx x y hx hy=>exact ⟨hx.1.pr hy.1 fun _ _=>val_max ((Nat.le_total _ _).imp (fun h=>⟨Int.ofNat_le.mpr h,congrArg Int.ofNat (Nat.max_eq_right h)⟩) fun h=>⟨Int.ofNat_le.mpr h,congrArg Int.ofNat (Nat.max_eq_left h)⟩),hx.2.pr hy.2 fun _ _=>val_max ((Int.le_total _ _).imp (fun h=>⟨h,Int.max_eq_right h⟩) fun h=>⟨h,Int.max_eq_left h⟩)⟩
  | c x hx=>exact ⟨val_k,hx.1⟩
  | t x hx=>exact ⟨hx.2.pr (val_k (z:=0)) fun _ _=>val_mon ((Int.le_total 0 _).imp (fun h=>⟨h,(Int.toNat_of_nonneg h).trans (Int.sub_zero _).symm⟩) fun h=>⟨h,congrArg Int.ofNat (Int.toNat_of_nonpos h)⟩),val_k⟩
noncomputable abbrev YesL (N:List Nat) (I:List Int) (l:Lb):Prop:=HasL N I (fun _=>True) l
theorem lt_one {a b:Int} (h:a < b):a - b + 1 ≤ 0:=Int.sub_neg_of_lt h
theorem yes_le {p q:Lf} {a b:Int} (h:a ≤ b) (e:evL N I p=a) (f:evL N I q=b):YesL N I (leA p q):=.hd (.one (by rw [ev_sub,e,f]; exact Int.sub_nonpos_of_le h)) trivial
theorem yes_lt {p q:Lf} {a b:Int} (h:a < b) (e:evL N I p=a) (f:evL N I q=b):YesL N I (ltA p q):=.hd (.one (by rw [ev_add,ev_sub,e,f,ev_k]; exact lt_one h)) trivial
theorem yes_gt {p q:Lf} {a b:Int} (h:b < a) (e:evL N I p=a) (f:evL N I q=b):YesL N I (gtA p q):=.hd (.one (by rw [ev_add,ev_sub,e,f,ev_k]; exact lt_one h)) trivial
theorem yes_ge {p q:Lf} {a b:Int} (h:b ≤ a) (e:evL N I p=a) (f:evL N I q=b):YesL N I (geA p q):=.hd (.one (by rw [ev_sub,e,f]; exact Int.sub_nonpos_of_le h)) trivial
theorem yes_eq {p q:Lf} {a b:Int} (h:a=b) (e:evL N I p=a) (f:evL N I q=b):YesL N I (eqA p q):=.hd (.app (a:=[_]) (.one (by rw [ev_sub,e,f]; exact Int.sub_nonpos_of_le (Int.le_of_eq h))) (.one (by rw [ev_sub,e,f]; exact Int.sub_nonpos_of_le (Int.le_of_eq h.symm)))) trivial
theorem yes_ne {p q:Lf} {a b:Int} (h:a < b ∨ b < a) (e:evL N I p=a) (f:evL N I q=b):YesL N I (neA p q):=by
  rcases h with h | h
  · exact .hd (.one (by rw [ev_add,ev_sub,e,f,ev_k]; exact lt_one h)) trivial
  · exact .tl (.hd (.one (by rw [ev_add,ev_sub,e,f,ev_k]; exact lt_one h)) trivial)
theorem YesL.l {a b:Lb} (h:YesL N I a):YesL N I (a ++ b):=let ⟨z,hz,h⟩:=h; ⟨z,List.mem_append_left _ hz,h⟩
theorem YesL.r {a b:Lb} (h:YesL N I b):YesL N I (a ++ b):=let ⟨z,hz,h⟩:=h; ⟨z,List.mem_append_right _ hz,h⟩
theorem YesL.and {a b:Lb} (h:YesL N I a) (k:YesL N I b):YesL N I (prL andA a b):=h.pr k fun _ _ _ _=>.hd .nil trivial
theorem Lp.al_ok (p:Lp):(p.d N I→YesL N I p.al.1) ∧ (¬ p.d N I→YesL N I p.al.2):=by
  induction p with
  | le x y=>exact ⟨fun h=>x.al_ok.1.pr y.al_ok.1 fun _ _=>yes_le (Int.ofNat_le.mpr h),fun h=>x.al_ok.1.pr y.al_ok.1 fun _ _=>yes_gt (Int.ofNat_lt.mpr (Nat.lt_of_not_le h))⟩
  | lt x y=>exact ⟨fun h=>x.al_ok.1.pr y.al_ok.1 fun _ _=>yes_lt (Int.ofNat_lt.mpr h),fun h=>x.al_ok.1.pr y.al_ok.1 fun _ _=>yes_ge (Int.ofNat_le.mpr (Nat.le_of_not_lt h))⟩
  | eq x y=>exact ⟨fun h=>x.al_ok.1.pr y.al_ok.1 fun _ _=>yes_eq (congrArg Int.ofNat h),fun h=>x.al_ok.1.pr y.al_ok.1 fun _ _=>yes_ne ((Nat.lt_or_gt_of_ne h).imp Int.ofNat_lt.mpr Int.ofNat_lt.mpr)⟩
  | Le x y=>exact ⟨fun h=>x.al_ok.2.pr y.al_ok.2 fun _ _=>yes_le h,fun h=>x.al_ok.2.pr y.al_ok.2 fun _ _=>yes_gt (Int.lt_of_not_ge h)⟩
  | Lt x y=>exact ⟨fun h=>x.al_ok.2.pr y.al_ok.2 fun _ _=>yes_lt h,fun h=>x.al_ok.2.pr y.al_ok.2 fun _ _=>yes_ge (Int.not_lt.mp h)⟩
  | Eq x y=>exact ⟨fun h=>x.al_ok.2.pr y.al_ok.2 fun _ _=>yes_eq h,fun h=>x.al_ok.2.pr y.al_ok.2 fun _ _=>yes_ne (Int.lt_or_gt_of_ne h)⟩
  | n p h=>exact ⟨h.2,fun k=>h.1 (Classical.not_not.mp k)⟩
  | o p q h k=>exact ⟨fun e=>e.elim (fun e=>(h.1 e).l) fun e=>(k.1 e).r,fun e=>(h.2 fun z=>e (.inl z)).and (k.2 fun z=>e (.inr z))⟩
  | a p q h k=>exact ⟨fun e=>(h.1 e.1).and (k.1 e.2),fun e=>(Classical.not_and_iff_not_or_not.mp e).elim (fun e=>(h.2 e).l) fun e=>(k.2 e).r⟩
  | f=>exact ⟨fun h=>h.elim,fun _=>.hd .nil trivial⟩
theorem ofNat_nn {z:Int} (h:nonZ z=true):0 ≤ z:=by cases z with
  | ofNat n=>exact Int.natCast_nonneg n
  | negSucc n=>exact absurd h Bool.false_ne_true
theorem posZ_ok {z:Int} (h:posZ z=true):0 < z:=by cases z with
  | ofNat n=>exact Int.ofNat_lt.mpr (Nat.le_of_ble_eq_true h)
  | negSucc n=>exact absurd h Bool.false_ne_true
theorem comb_ok {cs:List Lf} (h:AllL N I cs):∀ {ws:List Nat},evL N I (comb ws cs) ≤ 0:=by
  induction cs with
  | nil=>intro ws; cases ws <;> exact Int.le_of_eq ev_k
  | cons c cs ih =>
    intro ws
    cases ws with
    | nil=>exact Int.le_of_eq ev_k
    | cons w ws =>
      show evL N I ((c.mul w).add (comb ws cs)) ≤ 0
      rw [ev_add,ev_mul]
      have h1:=Int.mul_le_mul_of_nonneg_left (h c (List.mem_cons_self ..)) (Int.natCast_nonneg w)
      exact Int.add_nonpos ((Int.mul_zero _) ▸ h1) (ih (fun c hc=>h c (List.mem_cons_of_mem _ hc)) (ws:=ws))
theorem dot_nn {a:List Int} (h:a.all nonZ=true):∀ {N:List Nat},0 ≤ dotL a (N.map Int.ofNat):=by
  induction a with
  | nil=>intro N; cases N <;> exact Int.le_refl _
  | cons x a ih =>
    intro N
    obtain ⟨h1,h2⟩:=Bool.and_eq_true_iff.mp (h:(nonZ x && a.all nonZ)=true)
    cases N with
    | nil=>exact Int.le_refl _
    | cons n N=>exact Int.add_nonneg (Int.mul_nonneg (ofNat_nn h1) (Int.natCast_nonneg n)) (ih h2)
theorem dot_zz {a:List Int} (h:(a.all fun z=>nonZ z && nonZ (-z))=true):∀ {V:List Int},dotL a V=0:=by
  induction a with
  | nil=>intro V; cases V <;> rfl
  | cons x a ih =>
    intro V
    obtain ⟨h1,h2⟩:=Bool.and_eq_true_iff.mp (h:((nonZ x && nonZ (-x)) && a.all _)=true)
    obtain ⟨h3,h4⟩:=Bool.and_eq_true_iff.mp h1
    cases V with
    | nil=>rfl
    | cons u V =>
      show x * u + dotL a V=0
      rw [ih h2,Int.le_antisymm (Int.neg_nonneg.mp (ofNat_nn h4)) (ofNat_nn h3),Int.zero_mul,Int.zero_add]
theorem clo_ok {acc:List Lf} {w:List Nat} (h:AllL N I acc) (k:clo acc w=true):False:=by
  obtain ⟨h1,h2⟩:=Bool.and_eq_true_iff.mp k
  obtain ⟨h2,h3⟩:=Bool.and_eq_true_iff.mp h2
  have e:(comb w acc).1 + dotL (comb w acc).2.1 (N.map Int.ofNat) + dotL (comb w acc).2.2 I ≤ 0:=comb_ok h
  rw [dot_zz h3,Int.add_zero] at e
  exact Int.not_le.mpr (Int.add_pos_of_pos_of_nonneg (posZ_ok h1) (dot_nn h2)) e
theorem cloC_ok {acc:List Lf} {c:Ct} (h:AllL N I acc) (k:cloC acc c=true):False:=by
  cases c with
  | w l=>exact clo_ok h k
  | b x y=>exact Bool.false_ne_true k
theorem brs_ok {f:List Lf→Ct→Bool} (hf:∀ z c,AllL N I z→f z c=true→False) {A:Lb}:∀ {c:Ct},YesL N I A→brs f A c=true→False:=by
  induction A with
  | nil=>exact fun ⟨_,h,_⟩ _=>nomatch h
  | cons z zs ih =>
    intro c ⟨y,hy,h,_⟩ k
    have k:(bif zs.isEmpty then f z.1 c else f z.1 c.l && brs f zs c.r)=true:=k
    cases zs with
    | nil=>exact hf _ c (List.mem_singleton.mp hy ▸ h) k
    | cons z2 zs =>
      obtain ⟨k1,k2⟩:=Bool.and_eq_true_iff.mp k
      exact (List.mem_cons.mp hy).elim (fun e=>hf _ _ (e ▸ h) k1) fun hu=>ih ⟨y,hu,h,trivial⟩ k2
theorem run_ok {As:List Lb}:∀ {acc:List Lf} {c:Ct},(∀ A ∈ As,YesL N I A)→AllL N I acc→runL As acc c=true→False:=by
  induction As with
  | nil=>exact fun _ h k=>cloC_ok h k
  | cons A r ih=>exact fun hA h k=>(Bool.or_eq_true_iff.mp k).elim (cloC_ok h) (brs_ok (fun z c hz=>ih (fun A hA'=>hA A (List.mem_cons_of_mem _ hA')) (hz.app h)) (hA A (List.mem_cons_self ..)))
theorem Lp.to_of {g:Lp}:∀ {fs:List Lp},((∀ p ∈ fs,p.d N I)→g.d N I)→g.to N I fs
  | [],h=>h fun _ h=>nomatch h
  | _ :: _,h=>fun hp=>Lp.to_of fun hr=>h fun q hq=>(List.mem_cons.mp hq).elim (fun e=>e ▸ hp) (hr q)
theorem _root_.Mine.ln (N:List Nat) (I:List Int) (fs:List Lp) (g:Lp) (c:Ct) (h:chkL fs g c=true):g.to N I fs:=
  Lp.to_of fun hf=>Classical.byContradiction fun hg=>run_ok (N:=N) (I:=I) (fun A hA=>(List.mem_cons.mp hA).elim (fun e=>e ▸ g.al_ok.2 hg) fun hA=>by
    obtain ⟨p,hp,rfl⟩:=List.mem_map.mp hA
    exact p.al_ok.1 (hf p hp)) .nil h
end
end Mine.Li
end
namespace Mine
noncomputable def exP (self:Value):Code × Pos→Bool
  | (.builtin "bytearray.__contains__" ⟨v :: _,_⟩,_) | (.builtin "bytearray.__mod__" ⟨v :: _,_⟩,_)
  | (.builtin "bytearray.__rmod__" ⟨_ :: v :: _,_⟩,_) | (.builtin "_struct.pack_into.held" ⟨v :: _,_⟩,_)=>Builtin.Bytes.sameRef v self
  | (.builtin "bytearray.find.held" ⟨_ :: _ :: held,_⟩,_)=>held.any (Builtin.Bytes.sameRef self)
  | (.builtin id ⟨v :: _,_⟩,_)=>Builtin.Bytes.sameRef v self && Builtin.Bytes.decodersThatHold.contains id
  | _=>false
noncomputable def okCode (c:Code):Prop:=(fun (self:Value) (p:Pos)=>exP self (c,p))=fun _ _=>false
theorem ok_builtin {id:String} (h0:∀ kw self p,exP self (.builtin id ⟨[],kw⟩,p)=false) (h:∀ v r kw self p,exP self (.builtin id ⟨v :: r,kw⟩,p)=(Builtin.Bytes.sameRef v self && false)) (args:Args):okCode (.builtin id args):=by
  obtain ⟨l,kw⟩:=args
  cases l with
  | nil=>exact funext fun self=>funext fun p=>h0 kw self p
  | cons v r=>exact funext fun self=>funext fun p=>(h v r kw self p).trans (Bool.and_false _)
theorem ok_type_call (args:Args):okCode (.builtin "type.__call__" args):=ok_builtin (fun _ _ _=>by kernel_rfl) (fun _ _ _ _ _=>by kernel_rfl) args
structure Clean (cb:Bool) (Γ:Ctx):Prop where
  own:cb=true→okCode Γ.code
  below:cb=true→∀ x ∈ Γ.below,okCode x.1
theorem Clean.enter {cb:Bool} {Γ:Ctx} (h:Clean cb Γ) {c:Code} (hd:Option Value) (p:Pos) (hc:okCode c):Clean cb (Γ.enter c hd p):=
  ⟨fun _=>hc,fun b x hx=>(List.mem_cons.mp hx).elim (fun e=>e ▸ h.own b) (h.below b x)⟩
theorem Clean.goto {cb:Bool} {Γ:Ctx} (h:Clean cb Γ) {c:Code} (hc:okCode c):Clean cb (Γ.goto c):=⟨fun _=>hc,h.below⟩
noncomputable def wpAt {α:Type} (M:Model) (Γ:Ctx) (t:Sem α) (Q:α→Shared→Prop) (E:Value→Shared→Prop) (s:Shared):Prop:=
  ∀ p,Sem.wp M Γ t (fun a _ s'=>Q a s') (fun e _ s'=>E e s') p s
noncomputable def codeAt (M:Model) (Γ:Ctx) (R:Result→Shared→Prop) (s:Shared):Prop:=∀ p,wpCode M Γ R p s
section
variable {cb:Bool} {α β:Type} {M:Model} {A:Around} {Γ:Ctx} {E:Value→Shared→Prop} {s:Shared}
theorem at_any {t:Sem α} {Q:α→Shared→Prop} (hΓ:Γ.In A) (h:wpAny M A t Q E s):wpAt M Γ t Q E s:=fun p=>h Γ p hΓ
theorem at_mono {t:Sem α} {Q Q':α→Shared→Prop} {E':Value→Shared→Prop} (h:wpAt M Γ t Q E s) (hQ:∀ a s,Q a s→Q' a s) (hE:∀ e s,E e s→E' e s):wpAt M Γ t Q' E' s:=
  fun p=>Sem.wp_mono M Γ t (fun a _ s=>hQ a s) (fun e _ s=>hE e s) p s (h p)
theorem at_bind {m:Sem α} {k:α→Sem β} {Q:β→Shared→Prop} (h:wpAt M Γ m (fun a s'=>wpAt M Γ (k a) Q E s') E s):wpAt M Γ (m >>= k) Q E s:=
  fun p=>by rw [Sem.wp_bind']; exact Sem.wp_mono M Γ m (fun a p' s' h'=>h' p') (fun _ _ _ h'=>h') p s (h p)
theorem at_pure {a:α} {Q:α→Shared→Prop} (h:Q a s):wpAt M Γ (pure a) Q E s:=fun _=>h
theorem at_holding {vs:List Value} {m:Sem α} {Q:α→Shared→Prop} (h:wpAt M Γ m Q E s):wpAt M Γ (holding vs m) Q E s:=fun p=>by rw [Sem.wp_holding]; exact h p
theorem at_standAt {q:Pos} {Q:Unit→Shared→Prop} (h:Q () s):wpAt M Γ (standAt q) Q E s:=fun p=>h
theorem at_of_eq {t:Sem α} {a:α} {Q:α→Shared→Prop} (h:t=pure a) (hQ:Q a s):wpAt M Γ t Q E s:=h ▸ at_pure hQ
theorem at_if_false {c:Bool} {a b:Sem α} {Q:α→Shared→Prop} (hc:c=false) (h:wpAt M Γ b Q E s):wpAt M Γ (if c=true then a else b) Q E s:=by
  subst hc; exact h
theorem at_if_true {c:Bool} {a b:Sem α} {Q:α→Shared→Prop} (hc:c=true) (h:wpAt M Γ a Q E s):wpAt M Γ (if c=true then a else b) Q E s:=by
  subst hc; exact h
theorem at_call {f:Value} {args:List Value} {kw:List (Str × Value)} {Q:Value→Shared→Prop}
    (h:∀ p,codeAt M (Γ.enter (.call f ⟨args,kw⟩) none p) (fun r s'=>match r with | .ok (.ret v)=>Q v s' | .ok _=>False | .error e=>E e s') s) :
    wpAt M Γ (call f args kw) Q E s:=fun p=>by rw [Sem.wp_cmd_call]; exact h p p
theorem code_at_tree {R:Result→Shared→Prop} {t:Sem Fin} (hd:M.den Γ.code=t)
    (h:wpAt M Γ t (fun fin s'=>match fin with | .done f=>R (.ok f) s' | .again c'=>c'.quiet=true ∧ codeAt M (Γ.goto c') R s') (fun e s'=>R (.error e) s') s):codeAt M Γ R s:=fun p=>by
  rw [wpCode_iff_wp,hd]
  refine Sem.wp_mono M Γ _ (fun fin p' s' h'=>?_) (fun _ _ _ h'=>h') p s (h p)
  cases fin with
  | done f=>exact h'
  | again c'=>exact ⟨h'.1,h'.2 p'⟩
theorem code_at_any {c:Code} {R:Result→Shared→Prop} (hc:Γ.code=c) (hΓ:Γ.Below A) (h:codeAny M A c R s):codeAt M Γ R s:=fun p=>h Γ p hc hΓ
theorem codeAt_mono {R R':Result→Shared→Prop} (h:codeAt M Γ R s) (hR:∀ r s,R r s→R' r s):codeAt M Γ R' s:=fun p=>wpCode_mono hR (h p)
end
section
variable {cb:Bool} {prog:Program} {w:World} {A:Around} {Γ:Ctx} {E:Value→Shared→Prop} {s:Shared}
theorem den_builtin {id:String} {args:Args} {b:Builtin} (hb:entryFor table id=some b):(model prog w).den (.builtin id args)=b args:=by
  show (match entryFor table id with | some b=>b args | none=>unsupported ((withoutEnding? id "#data").getD id))=_
  rw [hb]
theorem at_callType {T newId initId:String} {Bi:Builtin} {args:List Value} {Q Q₁:Value→Shared→Prop} (hΓ:Γ.In A) (hC:Clean cb Γ) (ft:TypeCalled T newId initId)
    (hct:checkTypeCall T ⟨args,[]⟩=pure ()) (entryI:entryFor table initId=some Bi) (hok:∀ args,okCode (.builtin initId args))
    (hnew:codeAny (model prog w) A.in1 (.call (.builtin newId) ⟨.type T :: args,[]⟩) (wants Q₁ E) s)
    (hnext:∀ obj s₁,Q₁ obj s₁→s₁.TypeIs obj T ∧ argsOk initId ⟨obj :: args,[]⟩ ∧
      ∀ Γ',Γ'.In A.in1.in1→Clean cb Γ'→wpAt (model prog w) Γ' (Bi ⟨obj :: args,[]⟩) (fun fin s'=>fin=.done (.ret .none) ∧ Q obj s') (fun _ _=>False) s₁) :
    wpAt (model prog w) Γ (call (.type T) args) Q E s:=by
  obtain ⟨c,tl,hmro⟩:=ft.mro
  have hmade:=ft.made
  have hsub:=ft.sub
  refine at_call fun p=>?_
  have hB:=hΓ.enter (.call (.type T) ⟨args,[]⟩) none p (by intro x; cases x)
  have hC1:Clean cb (Γ.enter (.call (.type T) ⟨args,[]⟩) none p):=hC.enter none p rfl
  refine code_at_tree (t:=callAny (.type T) ⟨args,[]⟩) rfl ?_
  refine at_pure (a:=Fin.again (.builtin "type.__call__" ⟨.type T :: args,[]⟩)) ⟨Code.quiet_builtin _ (by decide +kernel),?_⟩
  have hB2:=hB.goto (.builtin "type.__call__" ⟨.type T :: args,[]⟩)
  have hC2:Clean cb ((Γ.enter (.call (.type T) ⟨args,[]⟩) none p).goto (.builtin "type.__call__" ⟨.type T :: args,[]⟩)):=hC1.goto (ok_type_call _)
  have hI2:=hB2.in
  generalize hG:(Γ.enter (.call (.type T) ⟨args,[]⟩) none p).goto (.builtin "type.__call__" ⟨.type T :: args,[]⟩)=Γ2 at *
  have hcode:Γ2.code=.builtin "type.__call__" ⟨.type T :: args,[]⟩:=by rw [← hG]; rfl
  rw [hcode,Around.under_plain (weight_type_call_type T args []) rfl] at hI2
  refine code_at_tree (t:=Builtin.«type.__call__» ⟨.type T :: args,[]⟩) (by rw [hcode]; exact den_builtin F.entry_type_call) ?_
  have h1:=ft.notType
  have h2:=ft.canCreate
  unfold Builtin.«type.__call__»
  refine at_if_false h1 ?_
  refine at_if_false h2 ?_
  refine at_bind (at_of_eq hct ?_)
  refine at_bind (at_of_eq hmro ?_)
  refine at_if_false rfl ?_
  refine at_bind (at_of_eq hmade ?_)
  refine at_bind (at_pure ?_)
  refine at_bind (at_holding (at_any hI2 (wpAny_call (codeAny_mono hnew fun r s₁ hr=>?_))))
  cases r with
  | error e=>exact hr
  | ok fl =>
    cases fl with
    | ret obj =>
      obtain ⟨hT,hok',hsi⟩:=hnext _ _ hr
      have hli:=ft.init.lookup
      have hbi:=ft.init.bind obj
      refine at_bind (at_any hI2 (wpAny_isInstance hT hsub ?_))
      refine at_if_false rfl ?_
      refine at_bind (at_holding ?_)
      unfold callSpecial?
      refine at_bind (at_any hI2 (wpAny_specialOf hT hli ?_))
      refine at_holding (at_bind (at_of_eq hbi ?_))
      refine at_bind (at_call fun p'=>?_)
      have hB3:=hI2.enter (.call (.builtin initId) ⟨[obj] ++ args,[]⟩) none p' (by intro x; cases x)
      have hC3:Clean cb (Γ2.enter (.call (.builtin initId) ⟨[obj] ++ args,[]⟩) none p'):=hC2.enter none p' rfl
      generalize hG3:Γ2.enter (.call (.builtin initId) ⟨[obj] ++ args,[]⟩) none p'=Γ3 at *
      have hcode3:Γ3.code=.call (.builtin initId) ⟨[obj] ++ args,[]⟩:=by rw [← hG3]; rfl
      refine code_at_tree (t:=do checkBuiltinCall initId ⟨[obj] ++ args,[]⟩; again (.builtin initId ⟨[obj] ++ args,[]⟩)) (by rw [hcode3]; rfl) ?_
      have hI3:=hB3.in
      rw [hcode3] at hI3
      refine at_bind (at_any hI3 (ft.init.check _ _ _ _ _ _ _ _ hT hok' ?_))
      refine at_pure ⟨plainId_quiet ft.init.plain _,?_⟩
      have hB4:=hB3.goto (.builtin initId ⟨[obj] ++ args,[]⟩)
      have hC4:Clean cb (Γ3.goto (.builtin initId ⟨[obj] ++ args,[]⟩)):=hC3.goto (hok _)
      generalize hG4:Γ3.goto (.builtin initId ⟨[obj] ++ args,[]⟩)=Γ4 at *
      have hcode4:Γ4.code=.builtin initId ⟨[obj] ++ args,[]⟩:=by rw [← hG4]; rfl
      have hI4:=hB4.in
      rw [hcode4,Around.under_plainId ft.init.plain _] at hI4
      refine code_at_tree (t:=Bi ⟨obj :: args,[]⟩) (by rw [hcode4]; exact den_builtin entryI) ?_
      refine at_mono (hsi Γ4 hI4 hC4) (fun fin s' hf=>?_) fun _ _ h=>h.elim
      obtain ⟨rfl,hq⟩:=hf
      refine at_pure ?_
      refine at_if_false rfl ?_
      exact at_pure hq
    | _=>exact hr.elim
end
end Mine
section
open PySem PySem.W PyProof.Rows PySem.Calls
namespace Mine
noncomputable def callerC:Ctx:=⟨.builtin "claim.caller" {},none,none,[],none⟩
theorem callerC_clean {cb:Bool}:Clean cb callerC:=⟨fun _=>ok_builtin (fun _ _ _=>by kernel_rfl) (fun _ _ _ _ _=>by kernel_rfl) _,fun _ _ h=>nomatch h⟩
theorem thread_at {prog:Program} {w:World} {t:Sem Fin} {s:Shared} {R:Result→Shared→Prop} (hreg:s.asleep)
    (h:wpAt (model prog w) callerC t (fun fin s'=>∃ f,fin=.done f ∧ R (.ok f) s' ∧ leftWithCleanup s'.gens=false) (fun e s'=>R (.error e) s' ∧ leftWithCleanup s'.gens=false) s) :
    ∃ n r s' s'',runN (denote table) prog w n s ⟨t,.builtin "claim.caller" {},default,[]⟩=.halted (outcomeOf r) s' ∧
      schedN (denote table) prog w n (.single s ⟨t,.builtin "claim.caller" {},default,[]⟩)=.halted (outcomeOf r) s' ∧ s'.forget=s''.forget ∧ R r s'':=by
  refine byC fun zC zk=>?_
  obtain ⟨n,r,s₁,s₂,hs,hn,hfo,hR⟩:=wp_halts_full (M:=model prog w) (R:=R) hreg
    (Sem.wp_mono (model prog w) callerC t (fun fin p' s' h'=>by obtain ⟨f,rfl,h⟩:=h'; exact h) (fun _ _ _ h'=>h') default s (h default))
  refine zk ?_
  exact ⟨n,r,s₂,s₁,hn,hs,hfo,hR⟩
noncomputable abbrev WalkA (q:Program) (loose:List Str) (XP:(Str→Option Value)→Heap→Prop) (YP:World→Heap→Prop) (r:RowW) (d:DefRec) (kwd:List (Str × Expr)):Prop:=
  ∀ (w:World) (s₀ s₁:Shared) (mg mb:Str→Option Value),Ground q loose r.records XP w s₀ mg mb s₁.heap→YP w s₁.heap→∀ (a:Addr) (o:Obj) (pm cd doc dV kV:Value),s₁.heap.get? a=some o →
    o.data=.func { docDef d.name d.params d.body d.scope pm cd doc with defaults:=dV,kwdefaults:=kV }→s₁.heap.CodeRec cd d.name→Dflts mg s₁.heap d.params kwd dV kV→mg d.name=some (.ref a)→s₁.gens=#[] →
    ∀ (args:List WData) (vals:List Value) (as:List Addr),r.claim.pre args=true→WData.layableAll args=true→ReadsAllW r.records (classAt s₀.heap) s₁.heap vals args as→WellAll w.params s₁.heap vals args→(∀ a ∈ as,(a == sysModules)=false)→Ground q loose r.records XP w s₀ mg mb s₀.heap ∧ YP w s₀.heap ∧ (∀ b o,s₀.heap.get? b=some o→s₁.heap.get? b=some o) ∧ In s₀.heap.objs.size s₁.heap.objs.size as →
      wpAt (model r.prog w) callerC (PySem.call (.ref a) vals) (fun v s'=>GoodWG r.claim (classAt s₀.heap) (ExcName.means s₀.heap) args s₁ (.ok (.ret v)) s')
        (fun e s'=>GoodWG r.claim (classAt s₀.heap) (ExcName.means s₀.heap) args s₁ (.error e) s') s₁
namespace PySem
namespace W
theorem holds_open {r:OpenRow} {q:Program} {loose:List Str} {Xt:Shared→Bool} {XP:(Str→Option Value)→Heap→Prop} {α:Type} {Yf:Shared→α} {Ya:World→α} {YP:World→Heap→Prop} {d:DefRec} {kwd:List (Str × Expr)} {N:Nat}
    (left:LeftO r.prog q loose Xt Yf Ya N) (hY:∀ w s,Yf s=Ya w→YP w s.heap) (hYk:∀ w h h',YP w h→(∀ b o,h.get? b=some o→h'.get? b=some o)→YP w h')
    (hX:∀ s,Xt s=true→XP (s.heap.nsMap mainGlobals) s.heap) (hXk:∀ mg h h',XP mg h→(∀ b o,h.get? b=some o→h'.get? b=some o)→XP mg h')
    (hdef:defOf q r.name=some (d,kwd)) (hp:r.prog.theDef r.name=some (d.params,d.body,d.scope)) (hk:kwWritten? d.params.kwonlyargs d.params.kw_defaults=some kwd) (hRf:∀ s,Xt s=true→RecFacts r.records s.heap) (hwr:(!r.writes || r.records.isEmpty)=true)
    (k1:r.wellSaid=true) (ok:(chainsOk q && opensWell r.prog && (frees r.toRowW && r.within.isEmpty))=true) (hb:r.prog.bare) (hw:r.toRowW.promised)
    (call:WalkA q loose XP YP r.toRowW d kwd):r.Holds:=by
  refine ⟨k1,hw,?_⟩
  have ok1:=Bool.and_eq_true_iff.mp ok
  have ok2:=Bool.and_eq_true_iff.mp ok1.1
  have ok3:=Bool.and_eq_true_iff.mp ok1.2
  refine byC fun zC zk=>?_
  obtain ⟨hsame,hu,ha,hap,hm⟩:=frees_parts ok3.1
  refine zk ?_
  have hwi:r.toRowW.claim.within=[]:=List.isEmpty_iff.mp ok3.2
  have hi:=ident_freeW hu ha hap
  refine ⟨⟨hb,ok2.2,by show r.makers.map _=[]; rw [hm]; rfl⟩,hw.witness,fun w=>?_⟩
  have top:=left.behind (XP:=fun mg h=>XP mg h ∧ RecFacts r.records h) (fun s e=>⟨hX s e,hRf s e⟩) ok2.1 w
  refine ⟨top.1,fun sI hI=>?_⟩
  refine byC fun zC zk=>?_
  obtain ⟨sF,hf,hF0,s,hT,hz,hg1,hns,GG,hy⟩:=top.2 sI hI
  refine zk ?_
  have G0:Ground q loose [] XP w s (s.heap.nsMap mainGlobals) (s.heap.nsMap builtinsNs) s.heap:={ GG with X:=GG.X.1 }
  have G1:Ground q loose r.records XP w s (s.heap.nsMap mainGlobals) (s.heap.nsMap builtinsNs) s.heap:=GG.X.2.ground G0
  have hgen:s.gens=#[]:=Array.eq_empty_of_size_eq_zero (beq_iff_eq.mp hg1)
  refine ⟨sF,hf,hF0,s,hT,fun n hn=>?_,GG.X.2.1,GG.X.2.2.1,fun args hpre hlay ord hord=>?_⟩
  · have hn':n=r.name:=by split at hn <;> simp_all
    exact hn' ▸ pinned_of_view hns G0 hdef hp hk
  · refine byC fun zC zk=>?_
    obtain ⟨⟨vs,s₁⟩,hl⟩:=Option.isSome_iff_exists.mp (layAllW_isSome (P:=w.params) (ord:=ord) G1.has args r.args s (pre_splitW hpre).1)
    have kp:=layAllW_keeps _ _ _ hl
    have rs:=layAllW_rest _ _ _ hl
    obtain ⟨as,hrd,hin,hold⟩:=reads_layAllW hord _ _ _ hl hlay s₁.heap (fun _ _ e=>e)
    have La:Laid r.records w s s₁ args vs as:=⟨⟨ord,hord,hl⟩,hrd,hin,hold,kp,rs.1.trans hgen,rs.2.2.1⟩
    have G2:=G1.keeps hXk kp
    obtain ⟨a,o,pm,cd,doc,dV,kV,d1,d2,d3,d4,d5⟩:=G2.fn hdef
    have run:=call w s s₁ _ _ G2 (hYk _ _ _ (hY w s hy) kp) a o pm cd doc dV kV d2 d3 d4 d5 (defOf_name hdef ▸ d1) La.gens args vs as hpre hlay La.reads La.well (La.low G1.low) ⟨G1,hY w s hy,kp,La.within⟩
    obtain ⟨k,res,s',s'',hr,hs,hfo,hres⟩:=thread_at (prog:=r.prog) (w:=w) (s:=s₁)
      (t:=do match ← nsGet mainNs r.name with
        | some f=>do ret (← PySem.call f vs)
        | none=>unsupported "claim.caller:no-such-global")
      (R:=fun res s'=>(r.toRowW.claim.Ends s args vs s₁ res s' ∧ s'.os=s.os) ∧ (r.writes=true→namesKept r.prog r.keeps s.heap s'.heap ∧ ∀ x ∈ r.records,∀ a,classAt s.heap x.1=some a→recordClass s'.heap a x.1 (x.2.map (·.1))=true))
      (Shared.asleep_of_life rs.2.2.2 hz)
      (at_bind (at_any caller_in (wpAny_nsGet G2.T.g (by
        rw [d1]
        have fin:∀ (re:Result) (s':Shared),GoodWG r.toRowW.claim (classAt s.heap) (ExcName.means s.heap) args s₁ re s'→(((r.toRowW.claim.Ends s args vs s₁ re s' ∧ s'.os=s.os) ∧ (r.writes=true→namesKept r.prog r.keeps s.heap s'.heap ∧ ∀ x ∈ r.records,∀ a,classAt s.heap x.1=some a→recordClass s'.heap a x.1 (x.2.map (·.1))=true)) ∧ leftWithCleanup s'.gens=false):=fun re s' g=>by
          have z:=g.laid (c:=r.toRowW.claim) hsame hwi hi La
          exact ⟨⟨⟨z.1,z.2.1⟩,fun q=>⟨namesKept_of hT hns r.keeps kp g.2.1.old,noTable hwr q⟩⟩,leftWithCleanup_false_of_bare z.2.2⟩
        exact at_bind (at_mono run (fun v s' g=>at_pure ⟨_,rfl,fin _ _ g⟩) fun e s' g=>fin _ _ g)))))
    obtain ⟨eh,_,_,eo,_⟩:=Shared.forget_eq hfo
    refine zk ?_
    have hres1:r.toRowW.claim.Ends s args vs s₁ res s':=ClaimW.Ends.congr eh hres.1.1
    have hkept:=hres.2
    rw [← eh] at hkept
    have hos:s'.os=s.os:=eo.trans hres.1.2
    have hlife:s'.heap.life=s.heap.life:=(runN_life _ _ _ hr).trans rs.2.2.2
    refine ⟨vs,s₁,hl,k,_,s',hs,?_,(fun _ i x hx=>by rw [hgen] at hx; simp at hx),hkept,by rw [hlife],Shared.rest_eq hos⟩
    rcases hres1 with ⟨v,rfl,c1,c2,c3,c4,c5⟩ | ⟨e,ob,cls,rfl,c1,c2,c3,c4,c5⟩
    · exact .inl ⟨v,rfl,c1,c2,c3,fun b o y _=>c4 b o y,c5⟩
    · exact .inr ⟨e,ob,cls,rfl,c1,c2,c3,c4,fun b o y _=>c5 b o y⟩
end W
end PySem
end Mine
end
namespace Mine
noncomputable abbrev pcD (p:Int × Array UInt8):Dat:=.tuple [.int p.1,.bytes p.2]
noncomputable abbrev tupObj (vs:List Value) (n:Nat):Obj:={ cls:=.type "tuple",data:=.seq vs.toArray n }
theorem newsSub {h₀ h:Heap} {L:Addr} {news news':List (Addr × Obj)} (N:News h₀ L h news') (hs:∀ p ∈ news,p ∈ news'):News h₀ L h news:=fun p hp=>N p (hs p hp)
section
variable {prog:Program} {w:World} {A:Around} {E:Value→Shared→Prop} {s:Shared} {h₀:Heap} {L l:Addr}
end
noncomputable def NextEnd (h₀:Heap) (L:Addr) (J:(Str→Option Value)→List (Addr × Obj)→Prop) (own:List (Addr × Obj)) (s₁:Shared) (f:Flow) (s₂:Shared):Prop:=f=.next ∧ InvEndG h₀ L J own s₁ s₂
section
variable {prog:Program} {w:World} {A:Around} {E:Value→Shared→Prop} {s:Shared} {env:Env} {h₀:Heap} {target:Expr} {body:List Stmt} {Q:Flow→Shared→Prop}
end
theorem allLt_iff {d:Addr}:∀ {l:List (Addr × Obj)},AllLt d l ↔ ∀ p ∈ l,p.1 < d
  | []=>⟨fun _ _ hp=>(nomatch hp),fun _=>trivial⟩
  | p :: r=>⟨fun h q hq=>(List.mem_cons.mp hq).elim (fun e=>e ▸ h.1) (fun hq=>allLt_iff.mp h.2 q hq),fun h=>⟨h p (.head _),allLt_iff.mpr fun q hq=>h q (.tail _ hq)⟩⟩
noncomputable def Above (T tl:List (Addr × Obj)):Prop:=∀ p ∈ T,∀ q ∈ tl,p.1 < q.1
theorem Above.nil {T:List (Addr × Obj)}:Above T []:=fun _ _ _ hq=>nomatch hq
theorem Above.cons {T tl:List (Addr × Obj)} {d:Addr} {o:Obj} (h:AllLt d T) (k:Above T tl):Above T ((d,o) :: tl):=fun p hp q hq=>(List.mem_cons.mp hq).elim (fun e=>e ▸ allLt_iff.mp h p hp) (k p hp q)
theorem Above.sub {T T' tl tl':List (Addr × Obj)} (k:Above T tl) (h:∀ p ∈ T',p ∈ T) (h':∀ p ∈ tl',p ∈ tl):Above T' tl':=fun p hp q hq=>k p (h p hp) q (h' q hq)
theorem Above.app {T tl tl':List (Addr × Obj)} (k:Above T tl) (k':Above T tl'):Above T (tl ++ tl'):=fun p hp q hq=>(List.mem_append.mp hq).elim (k p hp q) (k' p hp q)
theorem Above.ne {T tl:List (Addr × Obj)} (k:Above T tl) {p:Addr × Obj} (hp:p ∈ T):∀ q ∈ tl,q.1 ≠ p.1:=fun q hq=>Nat.ne_of_gt (k p hp q hq)
theorem NextEnd.intro {h₀ h':Heap} {L:Addr} {J:(Str→Option Value)→List (Addr × Obj)→Prop} {m':Str→Option Value} {own news':List (Addr × Obj)} {s₁:Shared} {tk:Nat} (F:Fr h₀ L h' m') (N:News h₀ L h' news') (nx:List (Addr × Obj))
    (hn:∀ p ∈ nx ++ own,p ∈ news') (ha:OwnOff own (nx.map (·.1))) (hj:J m' nx):NextEnd h₀ L J own s₁ .next { s₁ with heap:=h',toks:=tk }:=
  ⟨rfl,h',tk,m',news',nx,rfl,F,N,fun p hp=>hn p (List.mem_append_left _ hp),fun p hp=>hn p (List.mem_append_right _ hp),ha,hj⟩
section
variable {prog:Program} {w:World} {A:Around} {E:Value→Shared→Prop} {s:Shared} {h₀:Heap} {L:Addr} {m:Str→Option Value} {news:List (Addr × Obj)}
end
noncomputable def mn (x y:Int):Int:=if y < x then y else x
noncomputable def mx (x y:Int):Int:=if y > x then y else x
noncomputable def Held (P:Prop):Prop:=P
theorem Held.out {P:Prop} (h:Held P):P:=h
theorem Held.in {P:Prop} (h:P):Held P:=h
end Mine
section
namespace Mine
inductive Bn where
  | len | min | max | append | extend | pop | get | encode | join | sorted | enumr | dict | bytesOf | listOf | range | byteArr | str | exc
noncomputable def Bn.val:Bn→Value
  | .len=>.builtin "len"
  | .min=>.builtin "min"
  | .max=>.builtin "max"
  | .append=>.builtin "list.append"
  | .extend=>.builtin "list.extend"
  | .pop=>.builtin "list.pop"
  | .get=>.builtin "dict.get"
  | .encode=>.builtin "str.encode"
  | .join=>.builtin "bytes.join"
  | .sorted=>.builtin "sorted"
  | .enumr=>.type "enumerate"
  | .dict=>.type "dict"
  | .bytesOf=>.type "bytes"
  | .listOf=>.type "list"
  | .range=>.type "range"
  | .byteArr=>.type "bytearray"
  | .str=>.type "str"
  | .exc=>.type "Exception"
inductive SV where
  | d (x:Dat)
  | obj (i:Nat)
  | tup (l:List SV)
  | lst (l:List SV)
  | ref (a:Addr)
  | bi (n:Bn)
  | kt (x:Str) (i:Int)
  | rng (a b c:Int)
inductive SO where
  | inst (c:Addr) (dx:Nat)
  | attrs (es:List (Str × SV))
  | dict (es:List (Str × SV))
  | ddict (es:List (Str × Dat))
  | list (l:List SV)
  | dlist (ds:List Dat)
  | ba (b:List UInt8)
  | gone
inductive Fl where
  | next
  | ret (v:SV)
  | brk
structure Sy where
  sc:Scope
  loc:List (Str × Option SV)
  hp:List SO
structure FnR where
  name:Str
  qual:Str
  params:Arguments
  body:List Stmt
  scope:Scope
structure ClR where
  fields:List Str
  meths:List (Str × Addr)
  init:Addr
noncomputable abbrev KV:=SV→Sy→Prop
noncomputable abbrev KB:=Bool→Sy→Prop
noncomputable abbrev KL:=List SV→Sy→Prop
noncomputable abbrev KF:=Fl→Sy→Prop
structure Tab where
  fn:Addr→Option FnR
  cl:Addr→Option ClR
  gl:List (Str × SV)
  bl:List (Str × SV)
  sp:Addr→Option (List SV→Sy→KV→Prop)
  aw:Addr→Option (List (Str × (Str × Int)))
  st:Option (Stmt→Sy→KF→Prop)
  fz:Nat→List Nat
  fg:Nat→List Str
  ba:Bool:=true
structure Ops where
  ev:Expr→Sy→KV→Prop
  ts:Expr→Sy→KB→Prop
  ex:List Stmt→Sy→KF→Prop
  cl:SV→List SV→Sy→KV→Prop
noncomputable def req (b:Bool) (x:Prop):Prop:=@Bool.rec (fun _=>Prop) False x b
noncomputable def bite (b:Bool) (x y:Prop):Prop:=@Bool.rec (fun _=>Prop) y x b
noncomputable def nOpt {α:Type} (o:Option α) (k:α→Prop):Prop:=@Option.rec α (fun _=>Prop) False k o
noncomputable def one {α:Type} (l:List α) (k:α→Prop):Prop:=@List.rec α (fun _=>Prop) False (fun a r _=>@List.rec α (fun _=>Prop) (k a) (fun _ _ _=>False) r) l
noncomputable def two {α:Type} (l:List α) (k:α→α→Prop):Prop:=@List.rec α (fun _=>Prop) False (fun a r _=>one r (k a)) l
noncomputable def thr {α:Type} (l:List α) (k:α→α→α→Prop):Prop:=@List.rec α (fun _=>Prop) False (fun a r _=>two r (k a)) l
noncomputable def kdD:Dat→Nat
  | .int _=>0
  | .str _=>1
  | .bytes _=>2
  | .bool _=>3
  | .none=>4
  | .tuple _=>5
  | .list _=>6
noncomputable def kd:SV→Nat
  | .d x=>kdD x
  | .obj _=>7
  | .tup _=>8
  | .lst _=>9
  | .ref _=>10
  | .bi _=>11
  | .kt _ _=>12
  | .rng _ _ _=>13
noncomputable def isK (n:Nat) (v:SV):Bool:=Nat.beq (kd v) n
noncomputable def toDat1:SV→Option Dat
  | .d x=>some x
  | _=>none
noncomputable def dI:Dat→(Int→Prop)→Prop
  | .int z,k=>k z
  | _,_=>False
noncomputable def dS:Dat→(Str→Prop)→Prop
  | .str z,k=>k z
  | _,_=>False
noncomputable def dY:Dat→(Array UInt8→Prop)→Prop
  | .bytes z,k=>k z
  | _,_=>False
noncomputable def dB:Dat→(Bool→Prop)→Prop
  | .bool z,k=>k z
  | _,_=>False
noncomputable def dL:Dat→(List Dat→Prop)→Prop
  | .list z,k=>k z
  | _,_=>False
noncomputable def nI (v:SV) (k:Int→Prop):Prop:=nOpt (toDat1 v) fun x=>dI x k
noncomputable def nS (v:SV) (k:Str→Prop):Prop:=nOpt (toDat1 v) fun x=>dS x k
noncomputable def nY (v:SV) (k:Array UInt8→Prop):Prop:=nOpt (toDat1 v) fun x=>dY x k
noncomputable def nB (v:SV) (k:Bool→Prop):Prop:=nOpt (toDat1 v) fun x=>dB x k
noncomputable def nL (v:SV) (k:List Dat→Prop):Prop:=nOpt (toDat1 v) fun x=>dL x k
noncomputable def objI:SV→Option Nat
  | .obj i=>some i
  | _=>none
noncomputable def refA:SV→Option Addr
  | .ref a=>some a
  | _=>none
noncomputable def nO (σ:Sy) (v:SV) (k:Nat→SO→Prop):Prop:=nOpt (objI v) fun i=>nOpt σ.hp[i]? (k i)
noncomputable def oInst:SO→(Addr→Nat→Prop)→Prop
  | .inst c dx,k=>k c dx
  | _,_=>False
noncomputable def oAttrs:SO→(List (Str × SV)→Prop)→Prop
  | .attrs es,k=>k es
  | _,_=>False
noncomputable def oDict:SO→(List (Str × SV)→Prop)→Prop
  | .dict es,k=>k es
  | .ddict es,k=>k (es.map fun p=>(p.1,.d p.2))
  | _,_=>False
noncomputable def oDl:SO→(List Dat→Prop)→Prop
  | .dlist ds,k=>k ds
  | _,_=>False
noncomputable def oBa:SO→(List UInt8→Prop)→Prop
  | .ba b,k=>k b
  | _,_=>False
noncomputable def eqS (a b:Str):Bool:=Fast.sEq a b
noncomputable def lookS {α:Type} (x:Str):List (Str × α)→Option α
  | []=>none
  | p :: r=>bif eqS x p.1 then some p.2 else lookS x r
noncomputable def putS {α:Type} (x:Str) (v:α):List (Str × α)→List (Str × α)
  | []=>[(x,v)]
  | p :: r=>bif eqS x p.1 then (p.1,v) :: r else p :: putS x v r
noncomputable def putD {α:Type} (x:Str) (v:α) (l:List (Str × α)):List (Str × α):=bif l.any fun p=>eqS p.1 x then l.map fun p=>bif eqS p.1 x then (p.1,v) else p else l ++ [(x,v)]
noncomputable def setL (x:Str) (v:Option SV) (l:List (Str × Option SV)):List (Str × Option SV):=l.map fun p=>(p.1,bif eqS x p.1 then v else p.2)
noncomputable def allB {α:Type} (f:α→Bool) (l:List α):Bool:=l.all f
noncomputable def evs (f:Expr→Sy→KV→Prop):List Expr→Sy→KL→Prop
  | [],σ,K=>K [] σ
  | e :: r,σ,K=>f e σ fun v σ1=>evs f r σ1 fun vs σ2=>K (v :: vs) σ2
noncomputable def Sy.put (σ:Sy) (i:Nat) (o:SO):Sy:={ σ with hp:=σ.hp.set i o }
noncomputable def Sy.new (σ:Sy) (o:SO):Sy:={ σ with hp:=σ.hp ++ [o] }
noncomputable def Sy.loc! (σ:Sy) (x:Str) (v:SV):Sy:={ σ with loc:=setL x (some v) σ.loc }
noncomputable def datsOf (f:SV→Option Dat):List SV→Option (List Dat)
  | []=>some []
  | v :: r=>(f v).bind fun d=>(datsOf f r).map (d :: ·)
noncomputable def toDat:SV→Option Dat
  | .d x=>some x
  | .tup l=>(datsOf toDat1 l).map .tuple
  | _=>none
noncomputable def datItems:Dat→Option (List SV)
  | .list ds=>some (ds.map .d)
  | .tuple ds=>some (ds.map .d)
  | _=>none
noncomputable def soItems:SO→Option (List SV)
  | .list l=>some l
  | .dlist ds=>some (ds.map .d)
  | _=>none
noncomputable def Sy.items (σ:Sy):SV→Option (List SV)
  | .d x=>datItems x
  | .tup l=>some l
  | .lst l=>some l
  | .obj i=>σ.hp[i]?.bind soItems
  | .kt x i=>some [.d (.str x),.d (.int i)]
  | _=>none
noncomputable def isAtom (v:SV):Bool:=!isK 8 v && !isK 9 v
noncomputable def tupItems:SV→Option (List SV)
  | .d x=>datItems x
  | .tup l=>some l
  | _=>none
noncomputable def mkTup (l:List SV):SV:=((datsOf toDat1 l).map fun ds=>SV.d (.tuple ds)).getD (.tup l)
noncomputable def mkList (l:List SV):SO:=((datsOf toDat l).map SO.dlist).getD (.list l)
noncomputable def datE:List (Str × SV)→Option (List (Str × Dat))
  | []=>some []
  | p :: r=>(toDat1 p.2).bind fun d=>(datE r).map ((p.1,d) :: ·)
noncomputable def mkDict (es:List (Str × SV)):SO:=@Option.rec (List (Str × Dat)) (fun _=>SO) (.dict es) .ddict (datE es)
noncomputable def getA (T:Tab) (v:SV) (a:Str) (σ:Sy) (K:KV):Prop:=
  nO σ v fun _ so=>oInst so fun c dx=>nOpt σ.hp[dx]? fun so2=>oAttrs so2 fun es=>nOpt (T.cl c) fun cr=>req (cr.fields.any (eqS a)) (nOpt (lookS a es) fun u=>K u σ)
noncomputable def setA (T:Tab) (v:SV) (a:Str) (u:SV) (σ:Sy) (K:Sy→Prop):Prop:=
  nO σ v fun _ so=>oInst so fun c dx=>nOpt σ.hp[dx]? fun so2=>oAttrs so2 fun es=>nOpt (T.cl c) fun cr=>req (cr.fields.any (eqS a)) (req (Nat.ble es.length 100) (K (σ.put dx (.attrs (putS a u es)))))
noncomputable def getI (v i:SV) (σ:Sy) (K:KV):Prop:=
  bite (isK 1 i) (nS i fun x=>nO σ v fun _ so=>oDict so fun es=>nOpt (lookS x es) fun u=>K u σ)
    (nI i fun z=>req (decide (0 ≤ z)) (bite (isK 2 v)
      (nY v fun b=>req (Nat.ble b.toList.length 1000) (req (Nat.blt z.toNat b.toList.length) (K (.d (.int ((KBw.bInts b).getD z.toNat 0))) σ)))
      (nOpt (σ.items v) fun l=>nOpt l[z.toNat]? fun u=>req (decide (z < 100000)) (K u σ))))
noncomputable def setI (v i u:SV) (σ:Sy) (K:Sy→Prop):Prop:=
  bite (isK 1 i) (nS i fun x=>nO σ v fun j so=>oDict so fun es=>req (Nat.ble es.length 100) (K (σ.put j (mkDict (putD x u es)))))
    (nI i fun z=>req (decide (0 ≤ z)) (nO σ v fun j so=>match so with
      | .ba b=>nI u fun v=>req (Nat.blt z.toNat b.length) (req (Nat.ble b.length 1000) (req (decide (0 ≤ v)) (req (decide (v < 256)) (K (σ.put j (.ba (b.set z.toNat v.toNat.toUInt8)))))))
      | .list l=>req (Nat.blt z.toNat l.length) (req (Nat.ble l.length 1000) (K (σ.put j (.list (l.set z.toNat u)))))
      | _=>False))
noncomputable def eqDb:Dat→Dat→Bool
  | .int x,.int y=>decide (x=y)
  | .str x,.str y=>eqS x y
  | .bytes x,.bytes y=>decide (x.toList=y.toList)
  | .bool x,.bool y=>x == y
  | _,_=>false
noncomputable def eqApp (n:Nat) (a b:Dat):Bool:=Nat.beq (kdD a) (kdD b) && Nat.ble (kdD a) n
noncomputable def memD (x:Dat) (ds:List Dat) (k:Bool→Prop):Prop:=req (ds.all fun d=>eqApp 2 d x) (k (ds.any fun d=>eqDb d x))
noncomputable def nLd (σ:Sy) (v:SV) (k:List Dat→Prop):Prop:=bite (isK 7 v) (nO σ v fun _ so=>oDl so k) (nL v k)
noncomputable def soDict:SO→Bool
  | .dict _=>true
  | .ddict _=>true
  | _=>false
noncomputable def isDict (σ:Sy) (v:SV):Bool:=@Option.rec SO (fun _=>Bool) false soDict ((objI v).bind fun i=>σ.hp[i]?)
noncomputable def inP (σ:Sy) (a b:SV) (k:Bool→Prop):Prop:=nOpt (toDat1 a) fun x =>
  bite (isDict σ b) (nO σ b fun _ so=>oDict so fun es=>dS x fun y=>k (lookS y es).isSome) (nLd σ b fun ds=>memD x ds k)
noncomputable def eqP (a b:SV) (k:Bool→Prop):Prop:=nOpt (toDat1 a) fun x=>nOpt (toDat1 b) fun y=>req (eqApp 3 x y) (k (eqDb x y))
noncomputable def isNone (v:SV):Bool:=isK 4 v
noncomputable def sameD (fs:List (Str × SV)):List (Str × SV)→Prop→Prop
  | [],k=>k
  | p :: r,k=>nOpt (lookS p.1 fs) fun w=>nY p.2 fun x=>nY w fun y=>req (decide (x.toList=y.toList)) (sameD fs r k)
noncomputable def ktP:SV→(Str→Int→Prop)→Prop
  | .kt x i,k=>k x i
  | _,_=>False
noncomputable def dT:Dat→(List Dat→Prop)→Prop
  | .tuple z,k=>k z
  | _,_=>False
noncomputable def neP (σ:Sy) (a b:SV) (k:Bool→Prop):Prop:=
  bite (isK 12 a) (ktP a fun x i=>nOpt (toDat1 b) fun d=>dT d fun l=>two l fun p q=>dS p fun y=>dI q fun j=>req (PyData.strOk x) (req (PyData.strOk y) (k (!(bif eqS x y then decide (i=j) else false))))) <|
  bite (isK 7 a) (nO σ a fun _ so=>oDict so fun es=>nO σ b fun _ so2=>oDict so2 fun es2=>req (Nat.beq es.length es2.length) (sameD es2 es (k false))) (eqP a b fun c=>k (!c))
noncomputable def cmpV (σ:Sy) (op:CmpOp) (a b:SV) (k:Bool→Prop):Prop:=match op with
  | .Lt=>nI a fun x=>nI b fun y=>k (decide (x < y))
  | .LtE=>nI a fun x=>nI b fun y=>k (decide (x ≤ y))
  | .Gt=>nI a fun x=>nI b fun y=>k (decide (x > y))
  | .GtE=>nI a fun x=>nI b fun y=>k (decide (x ≥ y))
  | .Eq=>bite (isK 7 a) (nO σ a fun _ so=>oDl so fun ds=>nO σ b fun _ so2=>oDl so2 fun es=>req es.isEmpty (k ds.isEmpty)) (eqP a b k)
  | .NotEq=>neP σ a b k
  | .Is=>req (isNone b) (k (isNone a))
  | .IsNot=>req (isNone b) (k (!isNone a))
  | .In=>inP σ a b k
  | .NotIn=>inP σ a b fun c=>k (!c)
noncomputable def catB (x y:Array UInt8):Array UInt8:=⟨x.toList ++ y.toList⟩
noncomputable def cutL {α:Type} (b:List α) (lo hi:Option Int):List α:=
  (b.drop (lo.elim 0 (clipAt b.length))).take (hi.elim b.length (clipAt b.length) - lo.elim 0 (clipAt b.length))
noncomputable def pickL {α:Type} (l:List α) (lo hi:Option Int):List α:=(l.drop (kms_lo lo l.length)).take (kms_hi hi l.length - kms_lo lo l.length)
noncomputable def binV (op:Operator) (a b:SV) (σ:Sy) (K:KV):Prop:=match op with
  | .Add=>bite (isK 0 a) (nI a fun x=>nI b fun y=>K (.d (.int (x + y))) σ) <|
      bite (isK 2 a) (nY a fun x=>nY b fun y=>req (Nat.ble (x.toList.length + y.toList.length) 1000) (K (.d (.bytes (catB x y))) σ))
        (bite (isK 1 a) (nS a fun x=>nS b fun y=>x.length ≤ 1000 ∧ y.length ≤ 1000 ∧ ∀ z:Str,z.length ≤ x.length + y.length→K (.d (.str z)) σ)
          (nLd σ a fun ds=>nLd σ b fun es=>req (Nat.ble (ds.length + es.length) 1000) (K (.d (.list (ds ++ es))) σ)))
  | .Sub=>nI a fun x=>nI b fun y=>K (.d (.int (x - y))) σ
  | .Mult=>bite (isK 0 a) (nI a fun x=>nI b fun y=>req (Nat.ble x.natAbs 9223372036854775807) (K (.d (.int (x * y))) σ))
      (nY a fun x=>nI b fun y=>req (decide (2 ≤ y)) (req (decide (y < 100)) (req (Nat.blt 0 x.toList.length) (req (Nat.ble x.toList.length 10) (K (.d (.bytes ⟨(List.replicate y.toNat x.toList).flatten⟩)) σ)))))
  | .Mod=>nI a fun x=>nI b fun y=>req (decide (0 < y)) (K (.d (.int (Int.fmod x y))) σ)
  | .FloorDiv=>nI a fun x=>nI b fun y=>req (decide (0 < y)) (req (!Builtin.divisionGoesByPylong x y) (K (.d (.int (Int.fdiv x y))) σ))
  | .RShift=>nI a fun x=>nI b fun y=>req (decide (0 ≤ x)) (req (decide (0 ≤ y)) (K (.d (.int (Int.fdiv x (2 ^ y.toNat)))) σ))
  | _=>False
noncomputable def partP (v:SV) (k:Option Int→Prop):Prop:=bite (isK 4 v) (k none) (nI v fun z=>k (some z))
noncomputable def sliceV (v l u:SV) (σ:Sy) (K:KV):Prop:=partP l fun lo=>partP u fun hi =>
  bite (isK 2 v) (nY v fun b=>req (Nat.ble b.toList.length 1000) (K (.d (.bytes ⟨cutL b.toList lo hi⟩)) σ)) (nLd σ v fun ds=>req (Nat.ble ds.length 1000) (K (.d (.list (pickL ds lo hi))) σ))
noncomputable def methV (T:Tab) (v:SV) (a:Str) (σ:Sy) (k:SV→Prop):Prop:=
  bite (isK 7 v) (nO σ v fun _ so=>match so with
    | .inst c dx=>nOpt σ.hp[dx]? fun so2=>oAttrs so2 fun es=>nOpt (T.cl c) fun cr=>req (!(lookS a es).isSome) (nOpt (lookS a cr.meths) fun f=>k (.ref f))
    | .list _=>bite (eqS a "append") (k (.bi .append)) (req (eqS a "extend") (k (.bi .extend)))
    | .dlist _=>bite (eqS a "append") (k (.bi .append)) (bite (eqS a "extend") (k (.bi .extend)) (req (eqS a "pop") (k (.bi .pop))))
    | _=>False) <|
  bite (isK 10 v) (nOpt (refA v) fun b=>nOpt (T.aw b) fun _=>req (eqS a "get") (k (.bi .get))) <|
  bite (isK 1 v) (req (eqS a "encode") (k (.bi .encode))) (req (isK 2 v) (req (eqS a "join") (k (.bi .join))))
noncomputable def lenP (σ:Sy) (v:SV) (k:Nat→Prop):Prop:=bite (isK 2 v) (nY v fun b=>k b.toList.length) <|
  bite (isK 7 v) (nO σ v fun _ so=>match so with
    | .list l=>k l.length
    | .dlist ds=>k ds.length
    | .dict es=>k es.length
    | .ddict es=>k es.length
    | _=>False) (nL v fun ds=>k ds.length)
noncomputable def pcE (p:Int × Array UInt8):Dat:=.tuple [.int p.1,.bytes p.2]
noncomputable def sortP (ds:List Dat) (K:List Dat→Prop):Prop:=∃ (xs ys:List (Int × Array UInt8)) (x:Int × Array UInt8),ds=((xs ++ ys) ++ [x]).map pcE ∧ ((xs ++ x :: ys).Pairwise fun p q=>p.1 < q.1) ∧ (xs ++ ys).length < 20 ∧ K ((xs ++ x :: ys).map pcE)
noncomputable def tupP:SV→(List SV→Prop)→Prop
  | .tup l,k=>k l
  | _,_=>False
noncomputable def biV (T:Tab) (b:Bn) (args:List SV) (σ:Sy) (K:KV):Prop:=match b with
  | .len=>one args fun v=>lenP σ v fun n=>req (Nat.ble n 100000) (K (.d (.int n)) σ)
  | .min=>req T.ba <| two args fun u v=>nI u fun x=>nI v fun y=>K (.d (.int (@Bool.rec (fun _=>Int) x y (decide (y < x))))) σ
  | .max=>req T.ba <| two args fun u v=>nI u fun x=>nI v fun y=>K (.d (.int (@Bool.rec (fun _=>Int) x y (decide (y > x))))) σ
  | .append=>two args fun u v=>nO σ u fun i so=>match so with
    | .dlist ds=>nOpt (toDat v) fun d=>req (Nat.ble ds.length 1000) (K (.d .none) (σ.put i (.dlist (ds ++ [d]))))
    | .list l=>req (Nat.ble l.length 1000) (K (.d .none) (σ.put i (.list (l ++ [v]))))
    | _=>False
  | .extend=>two args fun u v=>nO σ u fun i so=>oDl so fun ds=>nLd σ v fun es=>req (Nat.ble (ds.length + es.length) 1000) (K (.d .none) (σ.put i (.dlist (ds ++ es))))
  | .pop=>two args fun u v=>nO σ u fun i so=>oDl so fun ds=>nI v fun z=>nOpt ds[z.toNat]? fun d=>req (Nat.ble ds.length 1000) (req (decide (0 ≤ z)) (K (.d d) (σ.put i (.dlist (ds.eraseIdx z.toNat)))))
  | .bytesOf=>one args fun v=>bite (isK 7 v) (nO σ v fun _ so=>oBa so fun b=>req (Nat.ble b.length 1000) (K (.d (.bytes ⟨b⟩)) σ)) (nY v fun x=>K (.d (.bytes x)) σ)
  | .range=>bite (Nat.beq args.length 3) (thr args fun u v t=>nI u fun a=>nI v fun b=>nI t fun c=>req (decide (c=-1)) (req (!Builtin.divisionGoesByPylong (b - a) c) (K (.rng a b c) σ)))
      (bite (Nat.beq args.length 2) (two args fun u v=>nI u fun a=>nI v fun b=>K (.rng a b 1) σ) (one args fun v=>nI v fun b=>K (.rng 0 b 1) σ))
  | .get=>two args fun u v=>nOpt (refA u) fun a=>nS v fun x=>nOpt (T.aw a) fun l=>@Option.rec (Str × Int) (fun _=>Prop) (K (.d .none) σ) (fun p=>K (.kt p.1 p.2) σ) (lookS x l)
  | .encode=>two args fun u v=>nS u fun x=>nS v fun y=>req (eqS y "ascii") (bite (eqS x "handshake") (K (.d (.bytes #[104,97,110,100,115,104,97,107,101])) σ) (req (eqS x "application") (K (.d (.bytes #[97,112,112,108,105,99,97,116,105,111,110])) σ)))
  | .join=>two args fun u v=>nY u fun x=>req x.toList.isEmpty (nLd σ v fun ds=>two ds fun p q=>dY p fun a=>dY q fun b=>req (Nat.ble (a.toList.length + b.toList.length) 1000) (K (.d (.bytes (catB a b))) σ))
  | .sorted=>one args fun v=>nLd σ v fun ds=>sortP ds fun es=>K (.d (.list es)) σ
  | .dict=>req T.ba <| one args fun v=>nO σ v fun _ so=>match so with
    | .list l=>two l fun p q=>tupP p fun tp=>tupP q fun tq=>two tp fun k1 v1=>two tq fun k2 v2=>nS k1 fun x=>nS k2 fun y=>req (!eqS x y) (K (.obj σ.hp.length) (σ.new (.dict [(x,v1),(y,v2)])))
    | _=>False
  | .listOf=>one args fun v=>nLd σ v fun ds=>req (Nat.ble ds.length 1000) (K (.obj σ.hp.length) (σ.new (.dlist ds)))
  | .byteArr=>req T.ba <| one args fun v=>nI v fun z=>req (decide (0 < z)) (req (decide (z ≤ 1000)) (K (.obj σ.hp.length) (σ.new (.ba (List.replicate z.toNat 0)))))
  | .enumr=>False
  | .str=>one args fun v=>nI v fun z=>z.natAbs < 800 ∧ ∀ y:Str,y.length ≤ 900→K (.d (.str y)) σ
  | .exc=>False
noncomputable def litMem (n:Nat):SV→Bool
  | .obj i=>Nat.blt i n
  | .tup _=>false
  | .lst _=>false
  | _=>true
noncomputable def closedV (n:Nat):SV→Bool
  | .tup l=>l.all (litMem n)
  | .lst l=>l.all (litMem n)
  | v=>litMem n v
noncomputable def SO.allB (f:SV→Bool) (g:Nat→Bool):SO→Bool
  | .inst _ dx=>g dx
  | .attrs es=>es.all fun p=>f p.2
  | .dict es=>es.all fun p=>f p.2
  | .list l=>l.all f
  | _=>true
noncomputable def SO.mapV (f:SV→SV):SO→SO
  | .attrs es=>.attrs (es.map fun p=>(p.1,f p.2))
  | .dict es=>.dict (es.map fun p=>(p.1,f p.2))
  | .list l=>.list (l.map f)
  | o=>o
noncomputable def closedO (n:Nat) (so:SO):Bool:=so.allB (closedV n) fun dx=>Nat.blt dx n
noncomputable def closedL (n:Nat) (l:List (Str × Option SV)):Bool:=l.all fun p=>@Option.rec SV (fun _=>Bool) true (closedV n) p.2
noncomputable def mvV (j n:Nat) (v:SV):SV:=@Option.rec Nat (fun _=>SV) (bif closedV n v then v else .obj (n + 1)) (fun i=>.obj (bif Nat.beq i j then n else bif Nat.blt i n then i else n + 1)) (objI v)
noncomputable def mvL (j n:Nat) (l:List (Str × Option SV)):List (Str × Option SV):=l.map fun p=>(p.1,p.2.map (mvV j n))
noncomputable def trim (n:Nat) (σ:Sy) (K:Sy→Prop):Prop:=
  bite ((σ.hp.take n).all (closedO n)) (bite (closedL n σ.loc) (K { σ with hp:=σ.hp.take n })
    (bite (closedL (n + 1) (mvL (σ.hp.length - 1) n σ.loc)) (nOpt σ.hp[σ.hp.length - 1]? fun so=>oDl so fun ds=>req (Nat.ble (n + 1) σ.hp.length) (K ⟨σ.sc,mvL (σ.hp.length - 1) n σ.loc,σ.hp.take n ++ [.dlist ds]⟩)) (K σ))) (K σ)
noncomputable def frz1 (i:Nat) (w:SV):SV→SV
  | .obj j=>bif Nat.beq j i && isAtom w then w else .obj j
  | v=>v
noncomputable def frzV (i:Nat) (w:SV):SV→SV
  | .tup l=>.tup (l.map (frz1 i w))
  | .obj j=>bif Nat.beq j i then w else .obj j
  | v=>v
noncomputable def normO:SO→SO
  | .dict es=>mkDict es
  | o=>o
noncomputable def frzS (i:Nat) (w:SV) (σ:Sy):Sy:=⟨σ.sc,σ.loc.map fun p=>(p.1,p.2.map (frzV i w)),(σ.hp.map (SO.mapV (frzV i w))).map normO⟩
noncomputable def soLit:SO→Option SV
  | .dlist ds=>some (.d (.list ds))
  | .list l=>bif l.all isAtom then some (.lst l) else none
  | _=>none
noncomputable def frzAt (i:Nat) (σ:Sy):Sy:=@Option.rec SV (fun _=>Sy) σ (fun w=>frzS i w (σ.put i .gone)) (σ.hp[i]?.bind soLit)
noncomputable def frzAll:List Nat→Sy→Sy
  | [],σ=>σ
  | i :: r,σ=>frzAll r (frzAt i σ)
noncomputable def dropL (xs:List Str) (σ:Sy):Sy:={ σ with loc:=σ.loc.map fun p=>(p.1,bif xs.any (eqS p.1) then none else p.2) }
noncomputable def argNames (a:Arguments):List Str:=a.args.map (·.arg)
noncomputable def isHeld:NameKind→Bool
  | .local=>true
  | .cell=>true
  | _=>false
noncomputable def loc0 (names:List (Str × NameKind)) (ps:List (Str × SV)):List (Str × Option SV):=(names.filter fun p=>isHeld p.2).map fun p=>(p.1,lookS p.1 ps)
noncomputable def lv1 (n:Nat) (v:SV) (σ:Sy):SV × Sy:=@Option.rec Nat (fun _=>SV × Sy) (v,σ) (fun i=>bif Nat.ble n i then @Option.rec SV (fun _=>SV × Sy) (v,σ) (fun w=>bif isK 6 w then (w,σ.put i .gone) else (v,σ)) (σ.hp[i]?.bind soLit) else (v,σ)) (objI v)
noncomputable def lvL (n:Nat):List SV→Sy→List SV × Sy
  | [],σ=>([],σ)
  | v :: r,σ=>((lv1 n v σ).1 :: (lvL n r (lv1 n v σ).2).1,(lvL n r (lv1 n v σ).2).2)
noncomputable def lv (n:Nat) (v:SV) (σ:Sy):SV × Sy:=match v with
  | .tup l=>(mkTup (lvL n l σ).1,(lvL n l σ).2)
  | v=>lv1 n v σ
noncomputable def leaveV (n:Nat) (v:SV) (σ:Sy) (K:KV):Prop:=
  bite (closedV n (lv n v σ).1 && ((lv n v σ).2.hp.take n).all (closedO n)) (K (lv n v σ).1 { (lv n v σ).2 with hp:=(lv n v σ).2.hp.take n }) (K (lv n v σ).1 (lv n v σ).2)
noncomputable def onF (fl:Fl) (a b:Prop) (c:SV→Prop):Prop:=@Fl.rec (fun _=>Prop) a c b fl
noncomputable def inlineV (ex:List Stmt→Sy→KF→Prop) (r:FnR) (args:List SV) (σ:Sy) (K:KV):Prop:=
  req (Nat.beq (argNames r.params).length args.length) (ex r.body ⟨r.scope,loc0 r.scope.names ((argNames r.params).zip args),σ.hp⟩ fun fl σ1 =>
    onF fl (leaveV σ.hp.length (.d .none) { σ with hp:=σ1.hp } K) False fun v=>leaveV σ.hp.length v { σ with hp:=σ1.hp } K)
noncomputable def biOf:SV→Option Bn
  | .bi b=>some b
  | _=>none
noncomputable def callV (T:Tab) (ex:List Stmt→Sy→KF→Prop) (f:SV) (args:List SV) (σ:Sy) (K:KV):Prop:=
  bite (isK 11 f) (nOpt (biOf f) fun b=>biV T b args σ K) (nOpt (refA f) fun a =>
    @Option.rec (List SV→Sy→KV→Prop) (fun _=>Prop) (@Option.rec FnR (fun _=>Prop)
      (nOpt (T.cl a) fun c=>nOpt (T.fn c.init) fun r=>inlineV ex r (.obj (σ.hp.length + 1) :: args) ((σ.new (.attrs [])).new (.inst a σ.hp.length)) fun v σ1=>req (isNone v) (K (.obj (σ.hp.length + 1)) σ1))
      (fun r=>inlineV ex r args σ K) (T.fn a)) (fun g=>g args σ K) (T.sp a))
noncomputable def nameV (T:Tab) (x:Str) (σ:Sy) (K:KV):Prop:=
  req (!eqS x "__debug__") (nOpt (lookS x σ.sc.names) fun kd=>bite (isHeld kd) (nOpt (lookS x σ.loc) fun ov=>nOpt ov fun v=>K v σ)
    (req (kd == .globalImplicit) (@Option.rec SV (fun _=>Prop) (nOpt (lookS x T.bl) fun v=>K v σ) (fun v=>K v σ) (lookS x T.gl))))
noncomputable def constV:Const→Option Dat
  | .none=>some .none
  | .bool b=>some (.bool b)
  | .int z=>some (.int z)
  | .str x=>some (.str x)
  | .bytes b=>some (.bytes ⟨b⟩)
  | _=>none
noncomputable def exK:Expr→Nat
  | .Starred ..=>1
  | .Set ..=>2
  | .ListComp ..=>3
  | .SetComp ..=>3
  | .DictComp ..=>3
  | .List ..=>4
  | .Tuple ..=>5
  | .Slice ..=>6
  | .Call ..=>7
  | .Name ..=>8
  | .Constant ..=>9
  | _=>0
noncomputable def isStar (e:Expr):Bool:=Nat.beq (exK e) 1
noncomputable def isSet (e:Expr):Bool:=Nat.beq (exK e) 2
noncomputable def isComp (e:Expr):Bool:=Nat.beq (exK e) 3
noncomputable def isListE (e:Expr):Bool:=Nat.beq (exK e) 4 || Nat.beq (exK e) 1
noncomputable def noStar (l:List Expr):Bool:=l.all fun e=>!isStar e
noncomputable def isCsts (l:List Expr):Bool:=!l.isEmpty && l.all fun e=>Nat.beq (exK e) 9
noncomputable def tupE:Expr→List Expr
  | .Tuple l _ _=>l
  | _=>[]
noncomputable def nameOf:Expr→Str
  | .Name x _=>x
  | _=>⟨#[]⟩
noncomputable def allT (f:Expr→Sy→KB→Prop) (b0:Bool):List Expr→Sy→KB→Prop
  | [],σ,K=>K b0 σ
  | e :: r,σ,K=>f e σ fun b σ1=>bite (b == b0) (allT f b0 r σ1 K) (K b σ1)
noncomputable def allW (f:Expr→Sy→KV→Prop) (b0:Bool) (e:Expr):List Expr→Sy→KV→Prop:=fun r=>@List.rec Expr (fun _=>Expr→Sy→KV→Prop) (fun e σ K=>f e σ K)
  (fun e2 _ ih e σ K=>f e σ fun v σ1=>nB v fun b=>bite (b == b0) (ih e2 σ1 K) (K v σ1)) r e
noncomputable def chainT (f:Expr→Sy→KV→Prop):SV→List CmpOp→List Expr→Sy→KB→Prop
  | v,op :: ops,e :: es,σ,K=>req (!isSet e) (f e σ fun u σ1=>cmpV σ1 op v u fun b=>bite (ops.isEmpty) (req es.isEmpty (K b σ1)) (bite b (chainT f u ops es σ1 K) (K false σ1)))
  | _,_,_,_,_=>False
noncomputable def keyS:Option Expr→Option Str
  | some (.Constant (.str x) _ _)=>some x
  | _=>none
noncomputable def nodupS:List (Str × SV)→Bool
  | []=>true
  | p :: r=>!(r.any fun q=>eqS q.1 p.1) && nodupS r
noncomputable def dictV (f:Expr→Sy→KV→Prop):List (Option Expr)→List Expr→Sy→(List (Str × SV)→Sy→Prop)→Prop
  | [],_,σ,K=>K [] σ
  | k :: ks,es,σ,K=>nOpt es.head? fun e=>nOpt (keyS k) fun x=>f e σ fun v σ1=>dictV f ks es.tail σ1 fun r σ2=>K ((x,v) :: r) σ2
noncomputable def sliceE:Expr→Option (Option Expr × Option Expr)
  | .Slice l u none _=>some (l,u)
  | _=>none
noncomputable def optV (f:Expr→Sy→KV→Prop) (e:Option Expr) (σ:Sy) (K:KV):Prop:=@Option.rec Expr (fun _=>Prop) (K (.d .none) σ) (fun e=>f e σ K) e
noncomputable def datOver:Dat→Option (List SV)
  | .list ds=>some (ds.map .d)
  | .tuple ds=>some (ds.map .d)
  | .bytes b=>some (b.toList.map fun c=>.d (.int c.toNat))
  | _=>none
noncomputable def rngL (c:Int):Nat→Int→List SV
  | 0,_=>[]
  | n + 1,a=>.d (.int a) :: rngL c n (a + c)
noncomputable def tIf {α:Type} (c:Bool) (x:Option α):Option α:=bif c then x else none
noncomputable def overV:SV→Option (List SV)
  | .d x=>datOver x
  | .tup l=>some l
  | .lst l=>some l
  | .rng a b c=>tIf (Builtin.Range.small a b c) (some (rngL c (Builtin.Range.rangeSize a b c).toNat a))
  | _=>none
noncomputable def overP (v:SV) (σ:Sy) (K:List SV→Sy→Prop):Prop:=
  @Option.rec Nat (fun _=>Prop) (nOpt (overV v) fun l=>K l σ) (fun i=>nOpt (σ.hp[i]?.bind soLit) fun w=>nOpt (overV w) fun l=>K l (frzS i w (σ.put i .gone))) (objI v)
noncomputable def relS (scope fs:Scope):Scope:={ scope with names:=scope.names.map fun p=>bif (p.2 == .free && fs.kind == .function && fs.names.lookup p.1 == some .cell) then (p.1,.cell) else p }
noncomputable def compL (o:Ops) (elt:Expr) (ifs:List Expr) (x:Str) (sc:Scope):List SV→List SV→Sy→(List SV→Sy→Prop)→Prop
  | [],acc,σ,K=>K acc σ
  | v :: r,acc,σ,K=>allT o.ts true ifs ⟨relS sc σ.sc,(x,some v) :: (Str.ofString ".0",none) :: σ.loc,σ.hp⟩ fun b σ1=>bite b (o.ev elt σ1 fun u σ2=>compL o elt ifs x sc r (acc ++ [u]) { σ with hp:=σ2.hp } K) (compL o elt ifs x sc r acc { σ with hp:=σ1.hp } K)
noncomputable def scOk (sc fs:Scope) (x:Str):Bool:=sc.kind == .function && fs.kind == .function && (lookS ".0" sc.names == some .local) && (lookS ".0" fs.names).isNone && (lookS x sc.names == some .local) && (sc.names.all fun p=>!(p.2 == .cell) && (bif p.2 == .local then eqS p.1 x || eqS p.1 ".0" else true) && (bif p.2 == .free then lookS p.1 fs.names == some .cell else true))
noncomputable def compV (o:Ops) (elt:Expr) (g:Comprehension) (sc:Scope) (σ:Sy) (K:KV):Prop:=
  req (Nat.beq (exK g.target) 8 && decide (g.is_async=0) && Nat.ble g.ifs.length 1) <| req (scOk sc σ.sc (nameOf g.target)) <| req (!isSet g.iter) <|
    o.ev g.iter σ fun v σ1=>overP v σ1 fun l σ2=>req (Nat.ble l.length 1000) <| compL o elt g.ifs (nameOf g.target) sc l [] σ2 fun vs σ3 =>
      @Option.rec (List Dat) (fun _=>Prop) (K (.obj σ3.hp.length) (σ3.new (.list vs))) (fun ds=>K (.d (.list ds)) σ3) (datsOf toDat vs)
noncomputable def evV (T:Tab) (o:Ops) (e:Expr) (σ:Sy) (K:KV):Prop:=match e with
  | .Name x _=>nameV T x σ K
  | .Constant c _ _=>nOpt (constV c) fun d=>K (.d d) σ
  | .Attribute v a _=>req (!Nat.beq (exK v) 7) (o.ev v σ fun u σ1=>getA T u a σ1 K)
  | .Subscript v i _=>bite (Nat.beq (exK i) 6) (nOpt (sliceE i) fun p=>o.ev v σ fun b σ1=>optV o.ev p.1 σ1 fun x σ2=>optV o.ev p.2 σ2 fun y σ3=>sliceV b x y σ3 K)
      (o.ev v σ fun u σ1=>o.ev i σ1 fun w σ2=>getI u w σ2 K)
  | .BinOp l op r _=>o.ev l σ fun a σ1=>o.ev r σ1 fun b σ2=>binV op a b σ2 K
  | .UnaryOp op x _=>(match op with
    | .Not=>o.ev x σ fun v σ1=>nB v fun b=>K (.d (.bool (!b))) σ1
    | .USub=>o.ev x σ fun v σ1=>nI v fun z=>K (.d (.int (-z))) σ1
    | _=>False)
  | .BoolOp op l _=>nOpt l.head? fun e=>allW o.ev (decide (op=.And)) e l.tail σ K
  | .Compare l ops es _=>one ops fun op=>one es fun r=>req (!isSet r) (o.ev l σ fun a σ1=>o.ev r σ1 fun b σ2=>cmpV σ2 op a b fun c=>K (.d (.bool c)) σ2)
  | .IfExp c a b _=>o.ts c σ fun t σ1=>bite t (o.ev a σ1 K) (o.ev b σ1 K)
  | .Tuple l _ _=>req (noStar l) (evs o.ev l σ fun vs σ1=>req (Nat.ble vs.length 1000) (req (vs.all isAtom) (K (mkTup vs) σ1)))
  | .List l _=>req (noStar l) (evs o.ev l σ fun vs σ1=>req (Nat.ble vs.length 1000) (bite (isCsts l) (nOpt (datsOf toDat vs) fun ds=>K (.d (.list ds)) σ1) (K (.obj σ1.hp.length) (σ1.new (mkList vs)))))
  | .Dict ks vs _=>bite ks.isEmpty (req vs.isEmpty (K (.obj σ.hp.length) (σ.new (.ddict []))))
      (req (Nat.beq ks.length vs.length && (Nat.ble ks.length 12 && ks.all fun k=>(keyS k).isSome)) (dictV o.ev ks vs (σ.new (.ddict [])) fun es σ1=>req (nodupS es) (nOpt σ1.hp[σ.hp.length]? fun so=>oDict so fun es0=>req es0.isEmpty (K (.obj σ.hp.length) (σ1.put σ.hp.length (mkDict es))))))
  | .Call f args kw p=>req kw.isEmpty (req (noStar args) (match f with
    | .Attribute v a ap=>req (!Nat.beq (exK v) 7) (req (Nat.blt args.length 20) (req (Nat.beq ap.endLine p.line)
        (o.ev v σ fun u σ1=>methV T u a σ1 fun f=>evs o.ev args σ1 fun vs σ2=>o.cl f (u :: vs) σ2 K)))
    | .Name y np=>o.ev (.Name y np) σ fun u σ1=>evs o.ev args σ1 fun vs σ2=>o.cl u vs σ2 K
    | _=>False))
  | .ListComp elt gens sc _=>req T.ba <| one gens fun g=>compV o elt g sc σ K
  | _=>False
noncomputable def tsV (o:Ops) (e:Expr) (σ:Sy) (K:KB):Prop:=match e with
  | .UnaryOp op x p=>(match op with
    | .Not=>o.ts x σ fun b σ1=>K (!b) σ1
    | op=>o.ev (.UnaryOp op x p) σ fun v σ1=>nB v fun b=>K b σ1)
  | .BoolOp op l _=>allT o.ts (decide (op=.And)) l σ K
  | .Compare l ops es _=>o.ev l σ fun v σ1=>chainT o.ev v ops es σ1 K
  | .IfExp ..=>False
  | e=>o.ev e σ fun v σ1=>nB v fun b=>K b σ1
noncomputable def isLocal (σ:Sy) (x:Str):Bool:=lookS x σ.sc.names == some .local
noncomputable def asg1 (T:Tab) (o:Ops) (t:Expr) (v:SV) (σ:Sy) (K:Sy→Prop):Prop:=match t with
  | .Name x _=>req (isLocal σ x) (K (σ.loc! x v))
  | .Attribute e a _=>o.ev e σ fun u σ1=>setA T u a v σ1 K
  | .Subscript e i _=>o.ev e σ fun u σ1=>o.ev i σ1 fun w σ2=>setI u w v σ2 K
  | _=>False
noncomputable def asgL (T:Tab) (o:Ops):List Expr→List SV→Sy→(Sy→Prop)→Prop
  | [],_,σ,K=>K σ
  | t :: ts,vs,σ,K=>nOpt vs.head? fun v=>asg1 T o t v σ fun σ1=>asgL T o ts vs.tail σ1 K
noncomputable def asgV (T:Tab) (o:Ops) (t:Expr) (v:SV) (σ:Sy) (K:Sy→Prop):Prop:=
  bite (Nat.beq (exK t) 5) (req (T.ba && noStar (tupE t)) (nOpt (tupItems v) fun vs=>req (Nat.beq (tupE t).length vs.length) (asgL T o (tupE t) vs σ K))) (asg1 T o t v σ K)
noncomputable def forV (asg:SV→Sy→(Sy→Prop)→Prop) (body:Sy→KF→Prop) (n:Nat) (dr:List Str):List SV→Sy→KF→Prop
  | [],σ,K=>K .next σ
  | v :: r,σ,K=>asg v σ fun σ1=>body σ1 fun fl σ2=>onF fl (trim n (dropL dr σ2) fun σ3=>forV asg body n dr r σ3 K) (K .next σ2) fun u=>K (.ret u) σ2
noncomputable def isLoc (sc:Scope) (line:Nat):Expr→Bool
  | .Name x p=>(lookS x sc.names == some .local) && Nat.beq p.line line
  | _=>false
noncomputable def nodupN:List Str→Bool
  | []=>true
  | x :: r=>!(r.any (eqS x)) && nodupN r
noncomputable def swapB (sc:Scope) (ts vs:List Expr):Bool:=
  (Nat.beq ts.length 2 || Nat.beq ts.length 3) && (Nat.beq vs.length ts.length && (noStar vs && (ts.all (isLoc sc ((ts.head?.map (·.pos.line)).getD 0)) && (nodupN (ts.map nameOf) && (!(vs.all (foldedForSure 8)) && !(vs.all (constantsAlone 8)))))))
noncomputable def putNm:List Str→List SV→Sy→Sy
  | x :: xs,v :: vs,σ=>putNm xs vs (σ.loc! x v)
  | _,_,σ=>σ
noncomputable def whileV (ts:Sy→KB→Prop) (body:Sy→KF→Prop) (k:Nat):Sy→KF→Prop:=
  @Nat.rec (fun _=>Sy→KF→Prop) (fun _ _=>False) (fun _ f σ K=>ts σ fun t σ1=>bite t (body σ1 fun fl σ2=>onF fl (f σ2 K) (K .next σ2) fun v=>K (.ret v) σ2) (K .next σ1)) k
noncomputable def tgNames:Expr→List Str
  | .Name x _=>[x]
  | .Tuple l _ _=>l.map nameOf
  | _=>[]
noncomputable def enumL:Nat→List SV→List SV
  | _,[]=>[]
  | i,v :: r=>.tup [.d (.int i),v] :: enumL (i + 1) r
noncomputable def lstP:SV→(List SV→Prop)→Prop
  | .lst l,k=>k l
  | _,_=>False
noncomputable def enumE:Expr→Option (Expr × Expr)
  | .Call (.Name y p) [a] [] _=>bif eqS y "enumerate" then some (.Name y p,a) else none
  | _=>none
noncomputable def isEnumr:SV→Bool
  | .bi .enumr=>true
  | _=>false
noncomputable def overS (o:Ops) (t it:Expr) (σ:Sy) (K:List SV→Sy→Prop):Prop:=
  @Option.rec (Expr × Expr) (fun _=>Prop) (req (!isSet it) (o.ev it σ fun v σ1=>overP v σ1 K))
    (fun p=>req (!isStar p.2 && Nat.beq (exK t) 5) (o.ev p.1 σ fun f σ1=>req (isEnumr f) (o.ev p.2 σ1 fun v σ2=>lstP v fun l=>req (Nat.ble l.length 1000) (K (enumL 0 l) σ2)))) (enumE it)
noncomputable def tidy (n:Nat) (σ:Sy) (K:Sy→Prop):Prop:=bite (Nat.beq σ.hp.length n) (K σ) (trim n σ K)
noncomputable def st1 (T:Tab) (o:Ops) (st:Stmt) (σ:Sy) (K:KF):Prop:=match st with
  | .Expr e _=>req (!isComp e) (o.ev e σ fun _ σ1=>K .next σ1)
  | .Return e _=>optV o.ev e σ fun v σ1=>K (.ret v) σ1
  | .Break _=>K .brk σ
  | .Pass _=>K .next σ
  | .Assign ts e p=>one ts fun t=>bite (Nat.beq (exK t) 5 && Nat.beq (exK e) 5)
      (req (T.ba && swapB σ.sc (tupE t) (tupE e)) (o.ev e σ fun v σ1=>nOpt (tupItems v) fun us=>req (Nat.beq us.length (tupE t).length) (K .next (putNm ((tupE t).reverse.map nameOf) us.reverse σ1))))
      (bite (isComp e) (nOpt T.st fun g=>g (.Assign ts e p) σ K) <| req (!isListE t) (o.ev e σ fun v σ1=>asgV T o t v σ1 fun σ2=>K .next σ2))
  | .AugAssign t op x _=>(match t with
    | .Attribute e a _=>req (decide (op=.Add)) (o.ev e σ fun u σ1=>getA T u a σ1 fun w σ2=>o.ev x σ2 fun y σ3=>nI w fun p=>nI y fun q=>setA T u a (.d (.int (p + q))) σ3 fun σ4=>K .next σ4)
    | _=>False)
  | .If c a b _=>o.ts c σ fun t σ1=>tidy σ.hp.length σ1 fun σ2=>bite t (o.ex a σ2 K) (o.ex b σ2 K)
  | .While c a els _=>req els.isEmpty (whileV (o.ts c) (o.ex a) 100 σ K)
  | .For t it a els p=>req (T.ba && els.isEmpty) (overS o t it (dropL (tgNames t ++ T.fg p.line) (frzAll (T.fz p.line) σ)) fun l σ2=>forV (asgV T o t) (o.ex a) σ2.hp.length (tgNames t ++ T.fg p.line) l σ2 K)
  | st=>nOpt T.st fun g=>g st σ K
noncomputable def exV (T:Tab) (o:Ops):List Stmt→Sy→KF→Prop
  | [],σ,K=>K .next σ
  | st :: r,σ,K=>st1 T o st σ fun fl σ1=>onF fl (exV T o r σ1 K) (K .brk σ1) fun u=>K (.ret u) σ1
noncomputable def stepOps (T:Tab) (o:Ops):Ops where
  ev:=evV T o
  ts:=tsV o
  ex:=exV T o
  cl:=callV T o.ex
noncomputable def noOps:Ops:=⟨fun _ _ _=>False,fun _ _ _=>False,fun _ _ _=>False,fun _ _ _ _=>False⟩
noncomputable def ops (T:Tab) (n:Nat):Ops:=@Nat.rec (fun _=>Ops) noOps (fun _ o=>stepOps T o) n
noncomputable def isD (v:SV):Bool:=@Option.rec Dat (fun _=>Bool) false (fun _=>true) (toDat1 v)
noncomputable def fz1 (σ:Sy) (args:List SV):List SV × Sy:=@List.rec SV (fun _=>List SV × Sy) ([],σ) (fun v r _=>@Option.rec Nat (fun _=>List SV × Sy) (v :: r,σ) (fun i=>@Option.rec SV (fun _=>List SV × Sy) (v :: r,σ) (fun w=>(w :: r,frzS i w (σ.put i .gone))) (σ.hp[i]?.bind soLit)) (objI v)) args
noncomputable def spA (f:Scope→List SV→(SV→Prop)→Prop):List SV→Sy→KV→Prop:=fun args σ K=>f σ.sc (fz1 σ args).1 fun v=>K v (fz1 σ args).2
end Mine
end
section
namespace Mine
noncomputable def stAt (i:Nat):Stmt:=(PySem.Challenge.pw_no0086_01.main.body)[i]?.getD (.Pass default)
noncomputable def fnOfS (s:Stmt) (q:Str):FnR:=match s with
  | .FunctionDef name args body _ _ _ scope _ _ _=>⟨name,q,args,body,scope⟩
  | _=>⟨q,q,default,[],default⟩
noncomputable def bodyOfS:Stmt→List Stmt
  | .ClassDef _ _ _ body _ _ _ _ _ _ _=>body
  | _=>[]
noncomputable def fnI (i:Nat) (q:String):FnR:=fnOfS (stAt i) (Str.ofString q)
noncomputable def mtI (i j:Nat) (q:String):FnR:=fnOfS ((bodyOfS (stAt i))[j]?.getD (.Pass default)) (Str.ofString q)
noncomputable def lookN {α:Type} (a:Nat):List (Nat × α)→Option α
  | []=>none
  | (b,v) :: r=>@Bool.rec (fun _=>Option α) (lookN a r) (some v) (Nat.beq a b)
noncomputable def fnL:List (Nat × FnR):=[
  (35,mtI 6 0 "QuicError.__init__"),(68,fnI 9 "put_whole"),(75,fnI 10 "get_whole"),(89,fnI 27 "put_message"),(96,fnI 28 "split_messages"),(103,fnI 29 "put_field"),(110,fnI 30 "read_fields"),
  (115,fnI 31 "client_hello"),(122,fnI 32 "read_client_hello"),(129,fnI 33 "server_hello"),(136,fnI 34 "read_server_hello"),(143,fnI 35 "extensions"),(150,fnI 36 "read_extensions"),
  (157,fnI 37 "toy_sum"),(164,fnI 38 "finished"),(171,fnI 39 "toy_key"),(178,fnI 40 "chosen_protocol"),
  (198,mtI 45 0 "Handshake.__init__"),(205,mtI 45 1 "Handshake.begin"),(212,mtI 45 2 "Handshake.take"),(219,mtI 45 3 "Handshake.one_message"),(226,mtI 45 4 "Handshake.ready"),
  (233,mtI 45 5 "Handshake.on_client_hello"),(240,mtI 45 6 "Handshake.on_server_hello"),(247,mtI 45 7 "Handshake.on_extensions"),(254,mtI 45 8 "Handshake.on_finished"),
  (261,mtI 45 9 "Handshake.confirm"),(268,mtI 45 10 "Handshake.on_done_frame"),(282,mtI 45 12 "Handshake.drop"),(289,mtI 45 13 "Handshake.can_send"),(296,mtI 45 14 "Handshake.can_read"),
  (317,fnI 47 "add_piece"),(324,fnI 48 "taken_from"),(331,fnI 50 "add_span"),(338,fnI 51 "cut_span"),(345,fnI 52 "first_span"),(352,fnI 53 "without_spans"),
  (366,mtI 56 0 "CryptoIn.__init__"),(373,mtI 56 1 "CryptoIn.arrived"),(401,mtI 57 0 "CryptoOut.__init__"),(408,mtI 57 1 "CryptoOut.put"),(415,mtI 57 2 "CryptoOut.next_chunk"),
  (422,mtI 57 3 "CryptoOut.on_lost"),(429,mtI 57 4 "CryptoOut.on_acked"),
  (450,fnI 59 "_law_take"),(455,fnI 60 "_law_side"),(462,fnI 61 "_law_put"),(467,fnI 62 "_law_arrive"),(474,fnI 63 "_law_waits"),(481,fnI 64 "_law_is_fair"),(488,fnI 65 "_law_moved")]
noncomputable def sL (l:List (String × Nat)):List (Str × Addr):=l.map fun p=>(Str.ofString p.1,p.2)
noncomputable def strL (l:List String):List Str:=l.map Str.ofString
noncomputable def clL:List (Nat × ClR):=[
  (306,⟨strL ["role","config","state","transcript","rests","keys","events","peer_params","protocol","is_complete","is_confirmed","dropped"],
    sL [("begin",205),("take",212),("one_message",219),("ready",226),("on_client_hello",233),("on_server_hello",240),("on_extensions",247),("on_finished",254),("confirm",261),("on_done_frame",268),("drop",282),("can_send",289),("can_read",296)],198⟩),
  (383,⟨strL ["limit","told","waiting"],sL [("arrived",373)],366⟩),
  (439,⟨strL ["data","due","acked"],sL [("put",408),("next_chunk",415),("on_lost",422),("on_acked",429)],401⟩)]
noncomputable def glL:List (Str × SV):=(sL [("put_whole",68),("get_whole",75),("put_message",89),("split_messages",96),("put_field",103),("read_fields",110),("client_hello",115),("read_client_hello",122),("server_hello",129),("read_server_hello",136),
  ("extensions",143),("read_extensions",150),("toy_sum",157),("finished",164),("toy_key",171),("chosen_protocol",178),("add_piece",317),("taken_from",324),("add_span",331),("cut_span",338),("first_span",345),("without_spans",352),
  ("_law_take",450),("_law_side",455),("_law_put",462),("_law_arrive",467),("_law_waits",474),("_law_is_fair",481),("_law_moved",488),("Handshake",306),("CryptoIn",383),("CryptoOut",439),("AWAITED",179),("QuicError",38)]).map fun p=>(p.1,.ref p.2)
noncomputable def glD:List (Str × SV):=[("CLIENT_HELLO",1),("SERVER_HELLO",2),("ENCRYPTED_EXTENSIONS",8),("FINISHED",20),("HEAD_SIZE",4),("RANDOM_SIZE",8),("SUM_SIZE",8),("SUM_BASE",1000003),("SUM_PRIME",2305843009213693951),("PROTOCOL_VIOLATION",10)].map fun p=>(Str.ofString p.1,.d (.int p.2))
noncomputable def glB:List (Str × SV):=[(Str.ofString "SERVER_LABEL",.d (.bytes ⟨[115,101,114,118,101,114,32,102,105,110,105,115,104,101,100]⟩)),(Str.ofString "CLIENT_LABEL",.d (.bytes ⟨[99,108,105,101,110,116,32,102,105,110,105,115,104,101,100]⟩))]
noncomputable def blL:List (Str × SV):=[(Str.ofString "len",.bi .len),(Str.ofString "min",.bi .min),(Str.ofString "max",.bi .max),(Str.ofString "bytes",.bi .bytesOf),(Str.ofString "list",.bi .listOf),(Str.ofString "range",.bi .range),(Str.ofString "bytearray",.bi .byteArr),(Str.ofString "sorted",.bi .sorted),(Str.ofString "enumerate",.bi .enumr),(Str.ofString "dict",.bi .dict),(Str.ofString "str",.bi .str),(Str.ofString "Exception",.bi .exc)]
noncomputable def awL:List (Str × (Str × Int)):=[("wait_server_hello",("initial",2)),("wait_extensions",("handshake",8)),("wait_server_finished",("handshake",20)),("wait_client_hello",("initial",1)),("wait_client_finished",("handshake",20))]
noncomputable def tab (sp:Addr→Option (List SV→Sy→KV→Prop)) (st:Option (Stmt→Sy→KF→Prop)) (fz:Nat→List Nat) (fg:Nat→List Str) (ba:Bool:=true):Tab:=⟨fun a=>lookN a fnL,fun a=>lookN a clL,glL ++ glD ++ glB,blL,sp,fun a=>lookN a [(179,awL)],st,fz,fg,ba⟩
end Mine
end
namespace Mine
noncomputable abbrev baObj (b:Array UInt8):Obj:={ cls:=.type "bytearray",data:=.bytearray b }
theorem ba_mro:mroOf (.type "bytearray")=pure [.type "bytearray",.type "object"]:=by rw [mroOf_type]; kernel_rfl
theorem ba_lookup_new:typeLookup (.type "bytearray") "__new__"=pure (some (.builtin "bytearray.__new__")):=by rw [typeLookup_type,builtinLookup_eq_fast]; kernel_rfl
theorem ba_slot_init:Slot "bytearray" "__init__" "bytearray.__init__":=
  .of (owner:="bytearray") (n:="__init__") (by rw [typeLookup_type,builtinLookup_eq_fast]; kernel_rfl) (by decide +kernel) (by decide +kernel) (by decide +kernel)
    (by first | exact .inl (by decide +kernel) | exact .inr (by decide +kernel)) (by rw [isSubtype_type]; kernel_rfl)
theorem ba_called:TypeCalled "bytearray" "bytearray.__new__" "bytearray.__init__":=
  ⟨by decide +kernel,by decide +kernel,⟨_,_,ba_mro⟩,madeBy_type ba_mro ba_lookup_new (by decide +kernel),by decide +kernel,by rw [isSubtype_type]; kernel_rfl,ba_slot_init⟩
theorem ba_typeCall (a:Value):checkTypeCall "bytearray" ⟨[a],[]⟩=pure ():=by kernel_rfl
theorem ba_newCall (a:Value):checkBuiltinCall "bytearray.__new__" ⟨[.type "bytearray",a],[]⟩=pure ():=by kernel_rfl
theorem ba_entry_new:entryFor table "bytearray.__new__"=some Builtin.«list.__new__»:=entryFor_alias (id':="list.__new__") (by kernel_rfl) (by first | rfl | decide +kernel) (by decide +kernel) (by kernel_rfl)
theorem ba_entry_init:entryFor table "bytearray.__init__"=some Builtin.«bytearray.__init__»:=by first | exact entryFor_of_fast (by kernel_rfl) | exact entryFor_of_tree (by kernel_rfl)
theorem ba_plain_new:plainId "bytearray.__new__"=true:=by decide +kernel
theorem ba_owner:("bytearray.__new__".splitOn ".__new__").headD ""="bytearray":=by rw [split_bytearray]; rfl
theorem any_if_false {M:Model} {A:Around} {α:Type} {c:Bool} {a b:Sem α} {Q:α→Shared→Prop} {E:Value→Shared→Prop} {s:Shared} (hc:c=false) (h:wpAny M A b Q E s):wpAny M A (if c=true then a else b) Q E s:=by
  subst hc; exact h
theorem any_if_true {M:Model} {A:Around} {α:Type} {c:Bool} {a b:Sem α} {Q:α→Shared→Prop} {E:Value→Shared→Prop} {s:Shared} (hc:c=true) (h:wpAny M A a Q E s):wpAny M A (if c=true then a else b) Q E s:=by
  subst hc; exact h
theorem ba_sub:isSubtype (.type "bytearray") (.type "bytearray")=pure true:=by rw [isSubtype_type]; kernel_rfl
section
variable {cb:Bool} {prog:Program} {w:World} {A:Around} {Γ:Ctx} {E:Value→Shared→Prop} {s:Shared}
theorem ba_new (a:Value) {Q₁:Value→Shared→Prop}
    (h:Q₁ (.ref s.heap.objs.size) { s with heap:=s.heap.push (baObj #[]) }) :
    codeAny (model prog w) A (.call (.builtin "bytearray.__new__") ⟨[.type "bytearray",a],[]⟩) (wants Q₁ E) s:=by
  refine codeAny_of_tree ?_
  show wpAny _ A.in1 (do checkBuiltinCall "bytearray.__new__" ⟨[.type "bytearray",a],[]⟩; again (.builtin "bytearray.__new__" ⟨[.type "bytearray",a],[]⟩)) _ _ s
  refine wpAny_bind (wpAny_of_eq (ba_newCall a) (wpAny_pure ⟨plainId_quiet ba_plain_new _,codeAny_builtin_stack ba_entry_new rfl fun p st=>?_⟩))
  rw [Around.under_plainId ba_plain_new _]
  dsimp only
  rw [ba_owner]
  refine wpAny_bind (wpAny_of_eq (a:=true) rfl (any_if_false rfl ?_))
  refine wpAny_bind (wpAny_of_eq ba_sub (any_if_false rfl ?_))
  refine wpAny_bind (m:=pure (Data.bytearray #[])) (wpAny_pure (any_if_true (by decide +kernel) ?_))
  refine wpAny_bind (wpAny_newObj_type ?_)
  exact wpAny_pure h
theorem at_exported {self:Value} {Q:Bool→Shared→Prop} (hC:Clean true Γ) (h:Q false s):wpAt (model prog w) Γ (Builtin.Bytes.exported self) Q E s:=by
  intro p
  unfold Builtin.Bytes.exported
  show Q (List.any ((Γ.code,p) :: Γ.below) (exP self)) s
  have e:List.any ((Γ.code,p) :: Γ.below) (exP self)=false:=List.any_eq_false.mpr fun x hx =>
    (Bool.eq_false_iff.mp (congrFun (congrFun ((List.mem_cons.mp hx).elim (fun e=>(e ▸ hC.own rfl:okCode x.1)) (hC.below rfl x)) self) x.2):exP self (x.1,x.2) ≠ true)
  rw [e]; exact h
theorem ba_lookup_rel:typeLookup (.type "bytearray") "__release_buffer__"=pure (some (.builtin "bytearray.__release_buffer__")):=by rw [typeLookup_type,builtinLookup_eq_fast]; kernel_rfl
theorem ba_ends:("bytearray.__release_buffer__".endsWith ("." ++ "__release_buffer__"))=true:=by decide +kernel
theorem ba_drop:("bytearray.__release_buffer__".dropRight ("__release_buffer__".length + 1))="bytearray":=by decide +kernel
theorem ba_ownRelease {S:Addr} {o:Obj} {Q:Bool→Shared→Prop} (ho:s.heap.get? S=some o) (hc:o.cls=.type "bytearray") (h:Q false s):wpAny (model prog w) A (Builtin.Bytes.ownRelease (.ref S)) Q E s:=by
  have hT:s.TypeIs (.ref S) "bytearray":=⟨o,ho,hc⟩
  unfold Builtin.Bytes.ownRelease Builtin.Bytes.slotIsOwn
  refine wpAny_bind (wpAny_bind (wpAny_specialOf hT ba_lookup_rel ?_))
  dsimp only
  rw [ba_ends,ba_drop]
  exact wpAny_isInstance hT ba_sub (wpAny_pure h)
theorem ba_bind (v:Value):Builtin.Bytes.bindOptional "bytearray.__init__" "bytearray" ["source","encoding","errors"] [v] []=pure [some v,none,none]:=by kernel_rfl
theorem int_index:typeLookup (.type "int") "__index__"=pure (some (.builtin "int.__index__")):=by rw [typeLookup_type,builtinLookup_eq_fast]; kernel_rfl
theorem asStr_int (i:Int) (t:Tok):asStr? (.int i t)=pure none:=rfl
theorem ba_init {S:Addr} {n:Nat} {t:Tok} {Q:Value→Shared→Prop} (hI:Γ.In A) (hC:Clean true Γ) (ho:s.heap.get? S=some (baObj #[])) (hn:0 < n) (hn2:n ≤ 1000)
    (h:Q (.ref S) { s with heap:=(s.heap.update S (Obj.mapBytearray fun _=>#[])).update S (Obj.mapBytearray fun _=>Array.replicate n 0) }) :
    wpAt (model prog w) Γ (Builtin.«bytearray.__init__» ⟨[.ref S,.int n t],[]⟩) (fun fin s'=>fin=.done (.ret .none) ∧ Q (.ref S) s') (fun _ _=>False) s:=by
  unfold Builtin.«bytearray.__init__»
  refine at_bind (at_any hI (ba_ownRelease ho rfl ?_))
  refine at_if_false rfl ?_
  refine at_bind (at_of_eq (ba_bind _) ?_)
  refine at_bind (at_of_eq (a:=()) rfl ?_)
  refine at_bind (at_of_eq (a:=()) rfl ?_)
  refine at_bind ?_
  unfold orM
  refine at_bind (at_exported hC ?_)
  unfold Builtin.Bytes.exportsOf
  refine at_any hI ?_
  refine wpAny_bind (wpAny_bind (wpAny_load ho (wpAny_pure ?_)))
  refine wpAny_pure ?_
  refine at_if_false rfl ?_
  have w1:∀ {h₁:Heap} {b:Array UInt8} {f:Array UInt8→Array UInt8} {P:Unit→Shared→Prop},h₁.get? S=some (baObj b)→(f b).size ≤ 1000→P () { s with heap:=h₁.update S (Obj.mapBytearray f) }→wpAt (model prog w) Γ (Builtin.Bytes.write (.ref S) f) P (fun _ _=>False) { s with heap:=h₁ }:=fun {h₁ b f P} hb hz hp=>by
    refine at_any hI ?_
    show wpAny _ _ (updateBytearray S f) _ _ _
    unfold updateBytearray
    refine wpAny_bind (wpAny_load hb ?_)
    show wpAny _ _ (update S (Obj.mapBytearray f) >>= fun _=>lookBehind S) _ _ _
    refine wpAny_bind (wpAny_update hb ?_)
    have hS₂:=Heap.get?_update_self (Obj.mapBytearray f) hb rfl
    refine wpAny_lookBehind hS₂ ?_ hp
    show (if (f b).size > sizeLine then some "bytearray:memory" else none)=none
    rw [if_neg]
    rw [sizeLine_eq]
    exact ln [_] [] [.le (.v 0) (.k 1000)] (.n (.lt (.k 16777216) (.v 0))) (.w [1,1]) zr hz
  have ho1:(s.heap.update S (Obj.mapBytearray fun _=>#[])).get? S=some (baObj #[]):=Heap.get?_update_self (Obj.mapBytearray fun _=>#[]) ho rfl
  refine at_bind (w1 (h₁:=s.heap) ho (by simp) ?_)
  have hT9:∀ s':Shared,s'.TypeIs (.int (n:Int) t) "int":=fun _=>rfl
  have hA9:asIndex (.int (n:Int) t)=pure (n:Int):=rfl
  have f1:(!Builtin.Bytes.fitsIndex (n:Int))=false:=by unfold Builtin.Bytes.fitsIndex; simp only [Bool.not_eq_false',Bool.and_eq_true,decide_eq_true_eq]; exact fits0 (Int.natCast_nonneg n) (lt63 hn2)
  have f2:¬ ((n:Int) < 0):=by exact ln [_] [] [] (.n (.Lt (.c (.v 0)) (.k 0))) (.w [1]) zr
  have f3:((n:Int) == 2 ^ 63 - 1)=false:=by rw [beq_eq_false_iff_ne]; exact ln [_] [] [.le (.v 0) (.k 1000)] (.n (.Eq (.c (.v 0)) (.s (.k 9223372036854775808) (.k 1)))) (.w [1,0,1]) zr hn2
  have f4:Builtin.Bytes.tooLong (n:Int).toNat=false:=by unfold Builtin.Bytes.tooLong; rw [sizeLine_eq]; simp only [decide_eq_false_iff_not]; exact ln [_] [] [.le (.v 0) (.k 1000)] (.n (.lt (.k 16777216) (.t (.c (.v 0))))) (.b (.w [1,1]) (.w [0,1])) zr hn2
  have f5:(n:Int) > 0:=by exact ln [_] [] [.lt (.k 0) (.v 0)] (.Lt (.k 0) (.c (.v 0))) (.w [1,1]) zr hn
  with_reducible refine at_bind ?_
  with_reducible refine at_of_eq (asStr_int _ _) ?_
  with_reducible refine at_if_false rfl ?_
  with_reducible refine at_bind ?_
  with_reducible refine at_if_false rfl ?_
  with_reducible refine at_if_false rfl ?_
  with_reducible refine at_pure ?_
  with_reducible refine at_bind (at_any hI (wpAny_specialOf (hT9 _) int_index ?_))
  with_reducible refine at_if_true rfl ?_
  with_reducible refine at_bind ?_
  with_reducible refine at_any hI ?_
  with_reducible refine wpAny_attempt ?_
  rw [hA9]
  refine wpAny_pure ?_
  with_reducible refine at_if_false f1 ?_
  rw [if_neg f2]
  with_reducible refine at_if_false f3 ?_
  with_reducible refine at_if_false f4 ?_
  with_reducible refine at_bind (at_any hI (wpAny_rule ?_))
  rw [if_pos f5]
  refine at_bind (w1 ho1 (by simp; exact ln [_] [] [.le (.v 0) (.k 1000)] (.le (.v 0) (.k 1000)) (.w [1,1]) zr hn2) ?_)
  exact at_pure ⟨rfl,h⟩
theorem at_bytearray {h₀:Heap} {L:Addr} {m:Str→Option Value} {news:List (Addr × Obj)} {n:Nat} {t:Tok} {Q:Value→Shared→Prop} (hI:Γ.In A) (hC:Clean true Γ) (hn:0 < n) (hn2:n ≤ 1000) (F:Fr h₀ L s.heap m) (N:News h₀ L s.heap news)
    (h:∀ S h',Fr h₀ L h' m→News h₀ L h' ((S,baObj (Array.replicate n 0)) :: news)→(∀ p ∈ news,p.1 < S)→Q (.ref S) { s with heap:=h' }) :
    wpAt (model prog w) Γ (call (.type "bytearray") [.int n t]) Q E s:=by
  refine at_callType (Q₁:=fun obj s₁=>obj=.ref s.heap.objs.size ∧ s₁={ s with heap:=s.heap.push (baObj #[]) }) hI hC ba_called (ba_typeCall _) ba_entry_init (ok_builtin (fun _ _ _=>by kernel_rfl) fun _ _ _ _ _=>by kernel_rfl) (ba_new _ ⟨rfl,rfl⟩) fun obj s₁ h₁=>?_
  obtain ⟨rfl,rfl⟩:=h₁
  have hS:(s.heap.push (baObj #[])).get? s.heap.objs.size=some (baObj #[]):=Heap.get?_push_size _ rfl
  refine ⟨⟨_,hS,rfl⟩,by unfold argsOk; kernel_rfl,fun Γ' hI' hC'=>ba_init (s:={ s with heap:=s.heap.push (baObj #[]) }) hI' hC' hS hn hn2 ?_⟩
  have hL:s.heap.objs.size ≠ L:=Nat.ne_of_gt F.ns.lt
  have h0:h₀.get? s.heap.objs.size=none:=next_is_new F
  have s1:=Heap.SameBut.update (s.heap.push (baObj #[])) s.heap.objs.size (Obj.mapBytearray fun _=>(#[]:Array UInt8))
  have s2:=Heap.SameBut.update ((s.heap.push (baObj #[])).update s.heap.objs.size (Obj.mapBytearray fun _=>(#[]:Array UInt8))) s.heap.objs.size (Obj.mapBytearray fun _=>Array.replicate n (0:UInt8))
  have hna:∀ p ∈ news,p.1 ≠ s.heap.objs.size:=fun p hp=>Nat.ne_of_lt (Heap.lt_size (N p hp).1)
  have hS1:((s.heap.push (baObj #[])).update s.heap.objs.size (Obj.mapBytearray fun _=>#[])).get? s.heap.objs.size=some (baObj #[]):=Heap.get?_update_self (Obj.mapBytearray fun _=>#[]) hS rfl
  have hS2:=Heap.get?_update_self (Obj.mapBytearray fun _=>Array.replicate n (0:UInt8)) hS1 rfl
  refine h _ _ (kas_fr (kas_fr (F.push _) s1 hL h0) s2 hL h0) (fun p hp=>?_) fun p hp=>Heap.lt_size (N p hp).1
  rcases List.mem_cons.mp hp with rfl | hp
  · exact ⟨hS2,hL,h0⟩
  · exact kas_news (kas_news (N.grown fun b x e=>Heap.get?_push_of_some _ e) s1 hna) s2 hna p hp
end
section
variable {cb:Bool} {α β:Type} {M:Model} {A:Around} {Γ:Ctx} {E:Value→Shared→Prop} {s:Shared} {env:Env}
theorem at_point {Q:Unit→Shared→Prop} (h:Q () s):wpAt M Γ point Q E s:=fun _=>h
theorem at_onRaise {m:Sem α} {h:Value→Sem Unit} {Q:α→Shared→Prop} (k:wpAt M Γ m Q (fun e s'=>wpAt M Γ (h e) (fun _ s''=>E e s'') E s') s):wpAt M Γ (m.onRaise h) Q E s:=fun p=>by
  rw [Sem.wp_onRaise]
  exact Sem.wp_mono M Γ m (fun _ _ _ x=>x) (fun e p' s' x=>x p') p s (k p)
theorem at_keep {vs:List Value} {m:Sem α} {Q:α→Shared→Prop} (h:wpAt M Γ m Q E s):wpAt M Γ (m.keep vs) Q E s:=fun p=>by rw [Sem.wp_keep]; exact h p
theorem at_execs_nil {Q:Flow→Shared→Prop} (h:Q .next s):wpAt M Γ (execs [] env) Q E s:=fun _=>h
theorem at_execs_cons {st rest} {Q:Flow→Shared→Prop} (h:wpAt M Γ (exec st env) (fun f s'=>match f with | .next=>wpAt M Γ (execs rest env) Q E s' | f=>Q f s') E s):wpAt M Γ (execs (st :: rest) env) Q E s:=by
  rw [execs_cons]
  refine at_bind (at_mono h (fun f s' h'=>?_) fun _ _ x=>x)
  cases f <;> first | exact h' | exact at_pure h'
theorem at_Return {e pos} {Q:Flow→Shared→Prop} (h:wpAt M Γ (eval e env) (fun v s'=>Q (.ret v) s') E s):wpAt M Γ (exec (.Return (some e) pos) env) Q E s:=by
  rw [exec_Return_some]
  exact at_bind (at_standAt (at_bind (at_mono h (fun v s' h'=>at_pure h') fun _ _ x=>x)))
theorem at_operate {vs:List Value} {m:Sem Value} {Q:Value→Shared→Prop} (h:wpAt M Γ m Q E s):wpAt M Γ (operate vs m) Q E s:=fun p=>by rw [Sem.wp_operate]; exact h p
theorem at_BinOp {l op r pos} {Q:Value→Shared→Prop}
    (h:wpAt M Γ (eval l env) (fun a s₁=>wpAt M Γ (eval r env) (fun b s₂=>wpAt M Γ (binaryOp op a b) Q E s₂) E s₁) E s):wpAt M Γ (eval (.BinOp l op r pos) env) Q E s:=by
  rw [eval_BinOp]
  refine at_bind (at_mono h (fun a s₁ h₁=>?_) fun _ _ x=>x)
  refine at_bind (at_holding (at_mono h₁ (fun b s₂ h₂=>?_) fun _ _ x=>x))
  exact at_bind (at_standAt (at_operate h₂))
theorem at_bindName {x:Str} {v:Value} {Q:Unit→Shared→Prop} (h:wpAt M Γ (storeName env x v) Q E s):wpAt M Γ (bindName env x v) Q E s:=fun p=>by rw [Sem.wp_bindName]; exact h p
theorem at_spliced_nil {Q:List Value→Shared→Prop} (h:Q [] s):wpAt M Γ (spliced []) Q E s:=fun _=>h
theorem at_spliced_cons {x:Sem Value} {rest:List (Bool × Sem Value)} {Q:List Value→Shared→Prop}
    (h:wpAt M Γ x (fun v s₁=>wpAt M Γ (spliced rest) (fun vs s₂=>Q (v :: vs) s₂) E s₁) E s):wpAt M Γ (spliced ((false,x) :: rest)) Q E s:=by
  unfold spliced
  refine at_bind (at_mono h (fun v s₁ h₁=>?_) fun _ _ x=>x)
  refine at_bind (at_pure ?_)
  exact at_bind (at_holding (at_mono h₁ (fun vs s₂ h₂=>at_pure h₂) fun _ _ x=>x))
theorem at_evalArgs {f:Value} {x:Sem Value} {rest:List (Bool × Sem Value)} {Q:Args→Shared→Prop}
    (h:wpAt M Γ (spliced ((false,x) :: rest)) (fun vs s'=>Q ⟨vs,[]⟩ s') E s):wpAt M Γ (evalArgs f true ((false,x) :: rest) []) Q E s:=by
  unfold evalArgs
  show wpAt M Γ (spliced ((false,x) :: rest) >>= _) Q E s
  refine at_bind (at_mono h (fun vs s' h'=>?_) fun _ _ x=>x)
  refine at_holding ?_
  exact at_bind (at_pure (at_bind (at_pure (at_pure h'))))
theorem at_evalArgs0 {f:Value} {Q:Args→Shared→Prop} (h:Q ⟨[],[]⟩ s):wpAt M Γ (evalArgs f true [] []) Q E s:=by
  have e:evalArgs f true [] []=pure ⟨[],[]⟩:=rfl
  rw [e]
  exact at_pure h
theorem at_ite2 {c:Prop} [Decidable c] {x y:Sem α} {Q:α→Shared→Prop} (h1:wpAt M Γ x Q E s) (h2:wpAt M Γ y Q E s):wpAt M Γ (if c then x else y) Q E s:=by
  by_cases h:c
  · rw [if_pos h]
    exact h1
  · rw [if_neg h]
    exact h2
theorem at_ask {t:Sem Value} {Q:Value→Shared→Prop} (h:wpAt M Γ t Q E s):wpAt M Γ (t >>= fun r=>holding [r] point >>= fun _=>pure r) Q E s:=
  at_bind (at_mono h (fun r s₂ hr=>at_bind (at_holding (at_point (at_pure hr)))) fun _ _ x=>x)
end
section
variable {cb:Bool} {prog:Program} {w:World} {A A₀:Around} {Γ:Ctx} {E:Value→Shared→Prop} {s:Shared} {K:Frag} {C L:Addr} {h₀ base:Heap} {m mg mb:Str→Option Value} {news:List (Addr × Obj)} {p:Program} {loose:List Str} {mean:ExcName→Option Value} {Q:Value→Shared→Prop}
theorem codeAt_func {body:List Stmt} {env:Env} {R:Result→Shared→Prop} (hc:Γ.code=.func body env)
    (h:wpAt (model prog w) Γ (execs body env) (fun f s'=>R (.ok (.ret (match f with | .ret v=>v | _=>.none))) s') (fun _ _=>False) s):codeAt (model prog w) Γ R s:=by
  refine code_at_tree (t:=do point; match ← (execs body env).onRaise (leaving env) with | .ret v=>ret v | _=>ret .none) (by rw [hc]; rfl) ?_
  refine at_bind (at_point (at_bind (at_onRaise (at_mono h (fun f s' h'=>?_) fun _ _ h'=>h'.elim))))
  cases f <;> exact at_pure h'
theorem codeAt_call_function {a:Addr} {args:Args} {o:Obj} {fd:FuncData} {body:List Stmt} {R:Result→Shared→Prop} (hcode:Γ.code=.call (.ref a) args) (hB:Γ.Below A) (hroom:A.depth < recursionLimit)
    (ho:s.heap.get? a=some o)
    (hd':o.data=.func fd) (hco:fd.scope.isCoroutine=false) (hgen:fd.scope.isGenerator=false) (hbody:fd.body=.stmts body) (hcd:s.heap.CodeRec fd.code fd.qualname)
    (h:wpAny (model prog w) A.in1 (bindArgs fd args) (fun binds s₁ =>
      wpAny (model prog w) A.in1 (newFunctionEnv fd.scope fd.globals fd.closure binds (fd.qualname ++ ".<locals>.") (some a) fd.code none fd.builtins)
        (fun env s₂=>s₂.heap.NoLimit ∧ codeAt (model prog w) (Γ.goto (.func body env)) R s₂) (fun e s'=>R (.error e) s') s₁) (fun e s'=>R (.error e) s') s) :
    codeAt (model prog w) Γ R s:=by
  refine code_at_tree (t:=callAny (.ref a) args) (by rw [hcode]; rfl) ?_
  have hI:Γ.In A.in1:=by
    have:=hB.in
    rw [hcode] at this
    exact this
  refine at_any hI ?_
  refine byC fun zC zk=>?_
  obtain ⟨c,oc,vs,tq,hc,hoc,hdc,hq⟩:=hcd
  refine zk ?_
  refine wpAny_bind (m:=load a) (wpAny_load ho ?_)
  rw [hd']
  refine (?_:wpAny (model prog w) A.in1 (callFunction a fd args) _ _ _)
  unfold callFunction
  rw [hc] at h ⊢
  rw [hco,hgen,hbody]
  refine wpAny_bind (m:=field (.ref c) 1) (wpAny_field hoc hdc hq (wpAny_bind (wpAny_pure ?_)))
  exact wpAny_bind (wpAny_mono h (fun binds s₁ h₁=>wpAny_bind (wpAny_mono h₁ (fun env s₂ h₂=>wpAny_bind (wpAny_enterFrame h₂.1 hroom
    (wpAny_pure (And.intro rfl h₂.2)))) fun _ _ h'=>h')) fun _ _ h'=>h')
end
theorem ba_slot_setitem:Slot "bytearray" "__setitem__" "bytearray.__setitem__":=
  .of (owner:="bytearray") (n:="__setitem__") (by rw [typeLookup_type,builtinLookup_eq_fast]; kernel_rfl) (by decide +kernel) (by decide +kernel) (by decide +kernel)
    (by first | exact .inl (by decide +kernel) | exact .inr (by decide +kernel)) (by rw [isSubtype_type]; kernel_rfl)
theorem ba_entry_setitem:entryFor table "bytearray.__setitem__"=some Builtin.«bytearray.__setitem__»:=by first | exact entryFor_of_fast (by kernel_rfl) | exact entryFor_of_tree (by kernel_rfl)
theorem ba_args_setitem (a b c:Value):argsOk "bytearray.__setitem__" ⟨[a,b,c],[]⟩:=by unfold argsOk; kernel_rfl
theorem ba_no_bytes:typeLookup (.type "bytearray") "__bytes__"=pure none:=by rw [typeLookup_type,builtinLookup_eq_fast]; kernel_rfl
theorem ba_no_index:typeLookup (.type "bytearray") "__index__"=pure none:=by rw [typeLookup_type,builtinLookup_eq_fast]; kernel_rfl
theorem ba_buffer:typeLookup (.type "bytearray") "__buffer__"=pure (some (.builtin "bytearray.__buffer__")):=by rw [typeLookup_type,builtinLookup_eq_fast]; kernel_rfl
theorem ba_ends2:("bytearray.__buffer__".endsWith ("." ++ "__buffer__"))=true:=by decide +kernel
theorem ba_drop2:("bytearray.__buffer__".dropRight ("__buffer__".length + 1))="bytearray":=by decide +kernel
section
variable {prog:Program} {w:World} {A:Around} {E:Value→Shared→Prop} {s:Shared} {h₀:Heap} {L D:Addr} {m:Str→Option Value} {news news':List (Addr × Obj)}
theorem ba_payload {S:Addr} {b:Array UInt8} {Q:Array UInt8→Shared→Prop} (ho:s.heap.get? S=some (baObj b)) (h:Q b s):wpAny (model prog w) A (Builtin.Bytes.payload (.ref S)) Q E s:=by
  unfold Builtin.Bytes.payload Builtin.Bytes.payload?
  refine wpAny_bind (wpAny_bind (wpAny_load ho ?_))
  exact wpAny_pure (wpAny_pure h)
theorem ba_write {S:Addr} {b:Array UInt8} {f:Array UInt8→Array UInt8} {Q:Unit→Shared→Prop} (ho:s.heap.get? S=some (baObj b)) (hz:(f b).size ≤ 1000) (h:Q () { s with heap:=s.heap.update S (Obj.mapBytearray f) }):wpAny (model prog w) A (Builtin.Bytes.write (.ref S) f) Q E s:=by
  show wpAny _ _ (updateBytearray S f) _ _ _
  unfold updateBytearray
  refine wpAny_bind (wpAny_load ho ?_)
  show wpAny _ _ (update S (Obj.mapBytearray f) >>= fun _=>lookBehind S) _ _ _
  refine wpAny_bind (wpAny_update ho ?_)
  have hS₂:=Heap.get?_update_self (Obj.mapBytearray f) ho rfl
  refine wpAny_lookBehind hS₂ ?_ h
  show (if (f b).size > sizeLine then some "bytearray:memory" else none)=none
  rw [if_neg]
  rw [sizeLine_eq]
  exact ln [_] [] [.le (.v 0) (.k 1000)] (.n (.lt (.k 16777216) (.v 0))) (.w [1,1]) zr hz
theorem m_setBa {b:Array UInt8} {k x:Int} {t u:Tok} {Q:Unit→Shared→Prop} (F:Fr h₀ L s.heap m) (N:News h₀ L s.heap news) (U:Upd D (baObj b) (baObj (b.setIfInBounds k.toNat x.toNat.toUInt8)) news news') (h0:0 ≤ k) (h1:k < b.size) (hb:b.size ≤ 1000) (x0:0 ≤ x) (x1:x < 256)
    (h:∀ h',Fr h₀ L h' m→News h₀ L h' news'→Q () { s with heap:=h' }):wpAny (model prog w) A (setItem (.ref D) (.int k t) (.int x u)) Q E s:=by
  refine byC fun zC zk=>?_
  obtain ⟨pre,post,rfl,rfl,a,c⟩:=U.split
  obtain ⟨ho,hL,hn0⟩:=N (D,baObj b) (List.mem_append.mpr (.inr (.head _)))
  refine zk ?_
  have hT:s.TypeIs (.ref D) "bytearray":=⟨_,ho,rfl⟩
  unfold setItem
  try with_reducible refine wpAny_holding ?_
  first | refine wpAny_bind (wpAny_pure ?_) | skip
  refine wpAny_bind (wpAny_sequenceKey hT (by decide) ?_)
  refine wpAny_bind (wpAny_callSpecial?_slot (name:=Str.ofString "__setitem__") hT ba_slot_setitem
    (wpAny_call_entry ba_slot_setitem hT ba_entry_setitem ?_ (ba_args_setitem _ _ _)))
  unfold Builtin.«bytearray.__setitem__»
  refine bm_if_false rfl ?_
  have hI:∀ s':Shared,s'.TypeIs (.int k t) "int":=fun _=>rfl
  have f1:Builtin.Bytes.fitsIndex k=true:=by unfold Builtin.Bytes.fitsIndex; simp only [Bool.and_eq_true,decide_eq_true_eq]; exact fits0 h0 (Int.lt_of_lt_of_le h1 (Int.le_trans (Int.ofNat_le.mpr hb) (by decide)))
  unfold Builtin.Bytes.subscript?
  refine wpAny_bind (wpAny_bind (wpAny_specialOf (hI _) int_index ?_))
  refine wpAny_bind (wpAny_of_eq (a:=k) rfl ?_)
  refine bm_if_false (by rw [f1]; rfl) ?_
  refine wpAny_pure ?_
  unfold Builtin.Bytes.byteValue
  refine wpAny_bind (wpAny_bind (wpAny_of_eq (a:=x) rfl ?_))
  have f2:(decide (x < 0) || decide (x ≥ 256))=false:=by simp; exact ln [] [_] [.Le (.k 0) (.v 0),.Lt (.v 0) (.k 256)] (.a (.Le (.k 0) (.v 0)) (.Lt (.v 0) (.k 256))) (.b (.w [0,1,1]) (.w [1,0,1])) zr x0 x1
  refine bm_if_false f2 ?_
  refine wpAny_pure ?_
  refine wpAny_bind (ba_payload ho ?_)
  have f3:seqIndex? k b.size=some k.toNat:=by
    unfold seqIndex?
    simp only [show ¬ k < 0 by exact ln [] [_] [.Le (.k 0) (.v 0)] (.n (.Lt (.v 0) (.k 0))) (.w [1,1]) zr h0,if_false]
    simp; exact ln [_] [_] [.Le (.k 0) (.v 0),.Lt (.v 0) (.c (.v 0))] (.a (.Le (.k 0) (.v 0)) (.Lt (.v 0) (.c (.v 0)))) (.b (.w [0,1,1]) (.w [1,0,1])) zr h0 h1
  rw [f3]
  dsimp only
  have hS₂:=Heap.get?_update_self (Obj.mapBytearray (·.setIfInBounds k.toNat x.toNat.toUInt8)) ho rfl
  refine wpAny_bind (ba_write ho (by rw [Array.size_setIfInBounds]; exact ln [_] [] [.le (.v 0) (.k 1000)] (.le (.v 0) (.k 1000)) (.w [1,1]) zr hb) ?_)
  have fin:=h _ (F.change (Heap.SameBut.update s.heap D (Obj.mapBytearray (·.setIfInBounds k.toNat x.toNat.toUInt8))) hL hn0) (news_set N a c (Heap.SameBut.update ..) hS₂)
  first
    | exact wpAny_bind (wpAny_pure (wpAny_pure ⟨.none,rfl,wpAny_pure fin⟩))
    | exact wpAny_pure ⟨.none,rfl,wpAny_pure fin⟩
theorem ba_bytes_new {S:Addr} {b:Array UInt8} {Q:Value→Shared→Prop} (ho:s.heap.get? S=some (baObj b)) (hb:b.size ≤ 1000) (hQ:∀ t k,Q (.bytes b t) { s with toks:=k }) :
    codeAny (model prog w) A (.call (.builtin "bytes.__new__") ⟨[.type "bytes",.ref S],[]⟩) (wants Q E) s:=by
  refine codeAny_of_tree ?_
  show wpAny _ A.in1 (do checkBuiltinCall "bytes.__new__" ⟨[.type "bytes",.ref S],[]⟩; again (.builtin "bytes.__new__" ⟨[.type "bytes",.ref S],[]⟩)) _ _ s
  refine wpAny_bind (wpAny_of_eq (F.bm_newCall _) (wpAny_pure ⟨plainId_quiet F.bm_plain _,codeAny_builtin F.bm_entry ?_⟩))
  rw [Around.under_plainId F.bm_plain _]
  have hT:s.TypeIs (.ref S) "bytearray":=⟨_,ho,rfl⟩
  unfold Builtin.«bytes.__new__»
  refine wpAny_bind (wpAny_of_eq (a:=true) rfl ?_)
  refine bm_if_false rfl ?_
  refine wpAny_bind (wpAny_of_eq F.bm_sub ?_)
  refine bm_if_false rfl ?_
  refine wpAny_bind (wpAny_of_eq (F.bm_bind _) ?_)
  refine wpAny_bind (wpAny_of_eq (a:=()) rfl ?_)
  refine wpAny_bind (wpAny_of_eq (a:=()) rfl ?_)
  refine bm_if_false rfl ?_
  refine wpAny_bind (wpAny_specialOf hT ba_no_bytes ?_)
  refine wpAny_bind (wpAny_bind ?_)
  show wpAny _ _ (load S >>= _) _ _ _
  refine wpAny_bind (wpAny_load ho ?_)
  refine wpAny_pure (wpAny_pure ?_)
  refine bm_if_false rfl ?_
  refine wpAny_bind (wpAny_specialOf hT ba_no_index ?_)
  refine bm_if_true rfl ?_
  first
    | show wpAny _ _ (Builtin.Bytes.buffer? "bytes.__new__" (.ref S) true >>= _) _ _ _
    | (refine wpAny_bind ?_; show wpAny _ _ (Builtin.Bytes.buffer? "bytes.__new__" (.ref S) true >>= _) _ _ _)
  refine wpAny_bind ?_
  unfold Builtin.Bytes.buffer?
  refine wpAny_bind (wpAny_specialOf hT ba_buffer ?_)
  try dsimp only
  unfold Builtin.Bytes.slotIsOwn
  refine wpAny_bind (wpAny_bind (wpAny_specialOf hT ba_buffer ?_))
  try dsimp only
  rw [ba_ends2,ba_drop2]
  refine wpAny_isInstance hT ba_sub ?_
  refine bm_if_false rfl ?_
  refine wpAny_bind (wpAny_specialOf hT ba_buffer ?_)
  try dsimp only
  refine wpAny_bind (ba_ownRelease ho rfl ?_)
  refine bm_if_false rfl ?_
  refine wpAny_bind (ba_payload ho (wpAny_pure ?_))
  try dsimp only
  refine wpAny_bind (wpAny_rule ?_)
  refine wpAny_bind (wpAny_mkBytes ?_ (by rw [sizeLine_eq]; exact ln [_] [] [.le (.v 0) (.k 1000)] (.le (.v 0) (.k 16777216)) (.w [1,1]) zr hb))
  first
    | exact wpAny_pure (hQ _ _)
    | exact wpAny_pure (wpAny_pure (hQ _ _))
    | (show wpAny _ _ (if (Value.type "bytes" == Value.type "bytes")=true then _ else _) _ _ _
       refine bm_if_true (by decide) ?_
       first
         | exact wpAny_pure (hQ _ _)
         | exact wpAny_bind (wpAny_pure (wpAny_pure (hQ _ _))))
theorem m_bytes_ba {b:Array UInt8} {Q:Value→Shared→Prop} (N:News h₀ L s.heap news) (hm:(D,baObj b) ∈ news) (hb:b.size ≤ 1000) (hQ:∀ t k,Q (.bytes b t) { s with toks:=k }):wpAny (model prog w) A (call (.type "bytes") [.ref D]) Q E s:=by
  refine callType_codes (Q₁:=fun obj s₁=>s₁.TypeIs obj "bytes" ∧ Q obj s₁) F.bm_called (F.bm_typeCall _) F.entry_object_init
    (ba_bytes_new (N _ hm).1 hb fun t k=>⟨PySem.W.typeIs_bytes _ _ _,hQ t k⟩) fun obj s₁ h₁=>?_
  exact ⟨h₁.1,F.args_object_init_2 obj _,object_init_meets F.bm_called.init.lookup F.bm_called.made (by decide) prog w A.in1 _ s₁ ⟨h₁.1,rfl,h₁.2⟩⟩
theorem m_setList {items:Array Value} {n:Nat} {k:Int} {t:Tok} {v:Value} {Q:Unit→Shared→Prop} (F:Fr h₀ L s.heap m) (N:News h₀ L s.heap news) (U:Upd D (listOf items n) (listOf (items.setIfInBounds k.toNat v) n) news news') (h0:0 ≤ k) (h1:k < items.size) (hfit:k < 2 ^ 63)
    (h:∀ h',Fr h₀ L h' m→News h₀ L h' news'→Q () { s with heap:=h' }):wpAny (model prog w) A (setItem (.ref D) (.int k t) v) Q E s:=by
  refine byC fun zC zk=>?_
  obtain ⟨pre,post,rfl,rfl,a,c⟩:=U.split
  refine zk ?_
  have z:=N (D,listOf items n) (List.mem_append.mpr (.inr (.head _)))
  exact ki_setAt z.1 h0 hfit h1 (h _ (F.change (Heap.SameBut.update ..) z.2.1 z.2.2) (ki_turn _ N a c rfl (by simp)))
end
end Mine
section
namespace Mine
theorem req_iff {b:Bool} {x:Prop}:req b x ↔ b=true ∧ x:=by cases b <;> simp [req]
theorem bite_or {b:Bool} {x y:Prop} (h:bite b x y):(b=true ∧ x) ∨ (b=false ∧ y):=by
  cases b with
  | true=>exact .inl ⟨rfl,h⟩
  | false=>exact .inr ⟨rfl,h⟩
theorem req1 {b:Bool} {x:Prop} (h:req b x):b=true ∧ x:=req_iff.mp h
theorem reqD {p:Prop} [Decidable p] {x:Prop} (h:req (decide p) x):p ∧ x:=⟨of_decide_eq_true (req1 h).1,(req1 h).2⟩
theorem reqLe {a b:Nat} {x:Prop} (h:req (Nat.ble a b) x):a ≤ b ∧ x:=⟨Nat.le_of_ble_eq_true (req1 h).1,(req1 h).2⟩
theorem reqLt {a b:Nat} {x:Prop} (h:req (Nat.blt a b) x):a < b ∧ x:=reqLe (a:=a + 1) h
theorem reqEq {a b:Nat} {x:Prop} (h:req (Nat.beq a b) x):a=b ∧ x:=⟨Nat.eq_of_beq_eq_true (req1 h).1,(req1 h).2⟩
theorem reqN {b:Bool} {x:Prop} (h:req (!b) x):b=false ∧ x:=by
  cases b with
  | true=>exact False.elim h
  | false=>exact ⟨rfl,h⟩
theorem nOpt_iff {α:Type} {o:Option α} {k:α→Prop} (h:nOpt o k):∃ a,o=some a ∧ k a:=by
  cases o with
  | none=>exact False.elim h
  | some a=>exact ⟨a,rfl,h⟩
theorem nOpt_el {α:Type} {o:Option α} {k:α→Prop} {C:Prop} (h:nOpt o k) (f:∀ a,o=some a→k a→C):C:=by
  obtain ⟨a,e,h⟩:=nOpt_iff h
  exact f a e h
theorem one_iff {α:Type} {l:List α} {k:α→Prop} (h:one l k):∃ a,l=[a] ∧ k a:=by
  cases l with
  | nil=>exact False.elim h
  | cons a r=>cases r with
    | nil=>exact ⟨a,rfl,h⟩
    | cons _ _=>exact False.elim h
theorem two_iff {α:Type} {l:List α} {k:α→α→Prop} (h:two l k):∃ a b,l=[a,b] ∧ k a b:=by
  cases l with
  | nil=>exact False.elim h
  | cons a r =>
    obtain ⟨b,e,h⟩:=one_iff (h:one r (k a))
    exact ⟨a,b,e ▸ rfl,h⟩
theorem thr_iff {α:Type} {l:List α} {k:α→α→α→Prop} (h:thr l k):∃ a b c,l=[a,b,c] ∧ k a b c:=by
  cases l with
  | nil=>exact False.elim h
  | cons a r =>
    obtain ⟨b,c,e,h⟩:=two_iff (h:two r (k a))
    exact ⟨a,b,c,e ▸ rfl,h⟩
theorem toDat1_eq {v:SV} {x:Dat} (h:toDat1 v=some x):v=.d x:=by
  cases v with
  | d y=>exact Option.some.inj h ▸ rfl
  | _=>cases h
theorem objI_eq {v:SV} {i:Nat} (h:objI v=some i):v=.obj i:=by
  cases v with
  | obj y=>exact Option.some.inj h ▸ rfl
  | _=>cases h
theorem refA_eq {v:SV} {i:Addr} (h:refA v=some i):v=.ref i:=by
  cases v with
  | ref y=>exact Option.some.inj h ▸ rfl
  | _=>cases h
theorem dI_iff {d:Dat} {k:Int→Prop} (h:dI d k):∃ z,d=.int z ∧ k z:=by
  cases d with
  | int z=>exact ⟨z,rfl,h⟩
  | _=>exact False.elim h
theorem dS_iff {d:Dat} {k:Str→Prop} (h:dS d k):∃ z,d=.str z ∧ k z:=by
  cases d with
  | str z=>exact ⟨z,rfl,h⟩
  | _=>exact False.elim h
theorem dY_iff {d:Dat} {k:Array UInt8→Prop} (h:dY d k):∃ z,d=.bytes z ∧ k z:=by
  cases d with
  | bytes z=>exact ⟨z,rfl,h⟩
  | _=>exact False.elim h
theorem dB_iff {d:Dat} {k:Bool→Prop} (h:dB d k):∃ z,d=.bool z ∧ k z:=by
  cases d with
  | bool z=>exact ⟨z,rfl,h⟩
  | _=>exact False.elim h
theorem dL_iff {d:Dat} {k:List Dat→Prop} (h:dL d k):∃ z,d=.list z ∧ k z:=by
  cases d with
  | list z=>exact ⟨z,rfl,h⟩
  | _=>exact False.elim h
theorem dT_iff {d:Dat} {k:List Dat→Prop} (h:dT d k):∃ z,d=.tuple z ∧ k z:=by
  cases d with
  | tuple z=>exact ⟨z,rfl,h⟩
  | _=>exact False.elim h
theorem oInst_iff {so:SO} {k:Addr→Nat→Prop} (h:oInst so k):∃ c d,so=.inst c d ∧ k c d:=by
  cases so with
  | inst c d=>exact ⟨c,d,rfl,h⟩
  | _=>exact False.elim h
theorem oAttrs_iff {so:SO} {k:List (Str × SV)→Prop} (h:oAttrs so k):∃ es,so=.attrs es ∧ k es:=by
  cases so with
  | attrs c=>exact ⟨c,rfl,h⟩
  | _=>exact False.elim h
theorem oDl_iff {so:SO} {k:List Dat→Prop} (h:oDl so k):∃ es,so=.dlist es ∧ k es:=by
  cases so with
  | dlist c=>exact ⟨c,rfl,h⟩
  | _=>exact False.elim h
theorem oBa_iff {so:SO} {k:List UInt8→Prop} (h:oBa so k):∃ es,so=.ba es ∧ k es:=by
  cases so with
  | ba c=>exact ⟨c,rfl,h⟩
  | _=>exact False.elim h
theorem eqS_iff {a b:Str}:eqS a b=true ↔ a=b:=Fast.sEq_iff
theorem beqS (a b:Str):(a == b)=eqS a b:=by rw [Bool.eq_iff_iff,eqS_iff,beq_iff_eq]
theorem eqS_comm (a b:Str):eqS a b=eqS b a:=by rw [Bool.eq_iff_iff,eqS_iff,eqS_iff,eq_comm]
theorem eqS_dec (a b:Str):decide (a=b)=eqS a b:=by rw [Bool.eq_iff_iff,eqS_iff,decide_eq_true_iff]
theorem lookS_c {α:Type} {x:Str} {p:Str × α} {r:List (Str × α)}:lookS x (p :: r)=bif eqS x p.1 then some p.2 else lookS x r:=rfl
theorem lookS_lookup {α:Type} (x:Str):∀ (l:List (Str × α)),lookS x l=l.lookup x
  | []=>rfl
  | (y,v) :: r=>by
    rw [lookS_c,List.lookup_cons,lookS_lookup x r,beqS]
    cases eqS x y <;> rfl
theorem lookS_mem {α:Type} {y:Str} {v:α} {l:List (Str × α)} (h:lookS y l=some v):(y,v) ∈ l:=by
  induction l with
  | nil=>cases h
  | cons p r ih =>
    rw [lookS_c] at h
    cases e:eqS y p.1 with
    | true =>
      rw [e] at h
      obtain ⟨z,u⟩:=p
      cases h
      cases eqS_iff.mp e
      exact List.mem_cons_self ..
    | false=>rw [e] at h; exact List.mem_cons_of_mem _ (ih h)
theorem lookS_map {α β:Type} {y:Str} {f:Str × α→Str × β} (hf:∀ p,(f p).1=p.1):∀ {l:List (Str × α)} {v:β},lookS y (l.map f)=some v→∃ u,lookS y l=some u ∧ f (y,u)=(y,v)
  | [],_,h=>by cases h
  | p :: r,v,h=>by
    rw [List.map_cons,lookS_c,hf] at h
    rw [lookS_c]
    cases e:eqS y p.1 with
    | true =>
      rw [e] at h
      obtain ⟨z,u⟩:=p
      cases eqS_iff.mp e
      exact ⟨u,rfl,Prod.ext (hf _) (Option.some.inj h)⟩
    | false=>rw [e] at h; exact lookS_map hf h
inductive All2 {α β:Type} (R:α→β→Prop):List α→List β→Prop
  | nil:All2 R [] []
  | cons {a:α} {b:β} {l:List α} {m:List β}:R a b→All2 R l m→All2 R (a :: l) (b :: m)
section
variable {α β γ:Type} {R R':α→β→Prop} {l l':List α} {m m':List β}
theorem All2.imp (h:∀ a b,R a b→R' a b) (k:All2 R l m):All2 R' l m:=by
  induction k with
  | nil=>exact .nil
  | cons a _ ih=>exact .cons (h _ _ a) ih
theorem All2.len (k:All2 R l m):l.length=m.length:=by
  induction k with
  | nil=>rfl
  | cons _ _ ih=>exact congrArg Nat.succ ih
theorem All2.map {S:γ→β→Prop} {f:α→γ} (h:∀ a b,R a b→S (f a) b) (k:All2 R l m):All2 S (l.map f) m:=by
  induction k with
  | nil=>exact .nil
  | cons a _ ih=>exact .cons (h _ _ a) ih
theorem All2.app (k:All2 R l m) (k':All2 R l' m'):All2 R (l ++ l') (m ++ m'):=by
  induction k with
  | nil=>exact k'
  | cons a _ ih=>exact .cons a ih
theorem All2.rev (k:All2 R l m):All2 R l.reverse m.reverse:=by
  induction k with
  | nil=>exact .nil
  | cons a _ ih=>rw [List.reverse_cons,List.reverse_cons]; exact ih.app (.cons a .nil)
theorem All2.get {i:Nat} {a:α} (k:All2 R l m) (e:l[i]?=some a):∃ b,m[i]?=some b ∧ R a b:=by
  induction k generalizing i with
  | nil=>cases e
  | cons h _ ih=>cases i with
    | zero=>exact ⟨_,rfl,Option.some.inj e ▸ h⟩
    | succ i=>exact ih (i:=i) e
theorem All2.of (hl:l.length=m.length) (h:∀ (i:Nat) (a:α) (b:β),l[i]?=some a→m[i]?=some b→R a b):All2 R l m:=by
  induction l generalizing m with
  | nil=>cases m with
    | nil=>exact .nil
    | cons _ _=>cases hl
  | cons a l ih=>cases m with
    | nil=>cases hl
    | cons b m=>exact .cons (h 0 a b rfl rfl) (ih (Nat.succ.inj hl) fun i=>h (i + 1))
theorem All2.both {i:Nat} {a:α} {b:β} (h:All2 R l m) (e:l[i]?=some a) (f:m[i]?=some b):R a b:=by
  obtain ⟨b',e',r⟩:=h.get e
  rw [f] at e'
  cases e'
  exact r
theorem All2.take (k:Nat) (h:All2 R l m):All2 R (l.take k) (m.take k):=by
  induction h generalizing k with
  | nil=>rw [List.take_nil,List.take_nil]; exact .nil
  | cons a r ih=>cases k with
    | zero=>exact .nil
    | succ k=>exact .cons a (ih k)
theorem All2.sub (h:All2 R l m) {f:α→Bool} (hf:l.all f=true) (hh:∀ a b,f a=true→R a b→R' a b):All2 R' l m:=by
  induction h with
  | nil=>exact .nil
  | cons a r ih =>
    rw [List.all_cons,Bool.and_eq_true] at hf
    exact .cons (hh _ _ hf.1 a) (ih hf.2)
end
noncomputable def Ext (ρ ρ':List Addr):Prop:=∀ (i:Nat) (a:Addr),ρ[i]?=some a→ρ'[i]?=some a
noncomputable def Sub (F F':List (Addr × Obj)):Prop:=∀ p ∈ F,p ∈ F'
structure Cf where
  ρ:List Addr
  F:List (Addr × Obj)
  J:List (Addr × Obj)
  m:Str→Option Value
  σ:Sy
  s:Shared
structure Le (c c':Cf):Prop where
  ext:Ext c.ρ c'.ρ
  sub:Sub c.F c'.F
  jj:c'.J=c.J
  mm:c'.m=c.m
theorem Le.refl (c:Cf):Le c c:=⟨fun _ _ h=>h,fun _ h=>h,rfl,rfl⟩
theorem Le.trans {a b c:Cf} (h:Le a b) (k:Le b c):Le a c:=⟨fun i x e=>k.ext i x (h.ext i x e),fun p e=>k.sub p (h.sub p e),k.jj.trans h.jj,k.mm.trans h.mm⟩
structure LeS (c c':Cf):Prop where
  ext:Ext c.ρ c'.ρ
  sub:Sub c.F c'.F
  jj:c'.J=c.J
theorem Le.s {c c':Cf} (h:Le c c'):LeS c c':=⟨h.ext,h.sub,h.jj⟩
theorem LeS.trans {a b c:Cf} (h:LeS a b) (k:LeS b c):LeS a c:=⟨fun i x e=>k.ext i x (h.ext i x e),fun p e=>k.sub p (h.sub p e),k.jj.trans h.jj⟩
theorem Ext.snoc (ρ:List Addr) (a:Addr):Ext ρ (ρ ++ [a]):=fun i x e=>by
  rw [List.getElem?_append_left (List.getElem?_eq_some_iff.mp e).1]; exact e
theorem Sub.snoc (F:List (Addr × Obj)) (p:Addr × Obj):Sub F (F ++ [p]):=fun q hq=>List.mem_append_left _ hq
theorem mem_snoc {α:Type} {l:List α} {a:α}:a ∈ l ++ [a]:=List.mem_append_right _ (List.mem_singleton.mpr rfl)
noncomputable abbrev rngObj (a b c:Int) (t u v:Tok):Obj:={ cls:=.type "range",dict:=none,data:=.fields #[.int a t,.int b u,.int c v],slots:=#[] }
noncomputable abbrev tupO (vs:List Value) (n:Nat):Obj:={ cls:=.type "tuple",data:=.seq vs.toArray n }
inductive Den1 (K:Frag) (F:List (Addr × Obj)) (ρ:List Addr):SV→Value→Prop
  | d {v:Value} {x:Dat}:DatIn F v x→Den1 K F ρ (.d x) v
  | obj {i:Nat} {a:Addr}:ρ[i]?=some a→Den1 K F ρ (.obj i) (.ref a)
  | ref (a:Addr):Den1 K F ρ (.ref a) (.ref a)
  | bi (b:Bn):Den1 K F ρ (.bi b) b.val
  | kt {a:Addr} {x:Str} {i:Int} {t u:Tok} {n:Nat} {sl:Array (Option Value)}:K.lookup a=some ⟨.type "tuple",none,.seq #[.str x t,.int i u] n,sl⟩→Den1 K F ρ (.kt x i) (.ref a)
  | rng {r:Addr} {a b c:Int} {t u v:Tok}:(r,rngObj a b c t u v) ∈ F→Den1 K F ρ (.rng a b c) (.ref r)
inductive Den (K:Frag) (F:List (Addr × Obj)) (ρ:List Addr):SV→Value→Prop
  | a1 {v:SV} {u:Value}:Den1 K F ρ v u→Den K F ρ v u
  | tup {a:Addr} {vs:List Value} {n:Nat} {l:List SV}:(a,tupO vs n) ∈ F→All2 (Den1 K F ρ) l vs→Den K F ρ (.tup l) (.ref a)
  | lst {a:Addr} {vs:List Value} {n:Nat} {l:List SV}:(a,listOf vs.toArray n) ∈ F→All2 (Den1 K F ρ) l vs→Den K F ρ (.lst l) (.ref a)
section
variable {K:Frag} {F F':List (Addr × Obj)} {ρ ρ':List Addr} {v:SV} {u:Value}
theorem Den1.subO (hF:Sub F F') (hρ:∀ i a,v=.obj i→ρ[i]?=some a→ρ'[i]?=some a) (h:Den1 K F ρ v u):Den1 K F' ρ' v u:=by
  cases h with
  | d h=>exact .d (h.mono hF)
  | obj h=>exact .obj (hρ _ _ rfl h)
  | ref a=>exact .ref a
  | bi b=>exact .bi b
  | kt h=>exact .kt h
  | rng h=>exact .rng (hF _ h)
theorem Den1.mono (hF:Sub F F') (hρ:Ext ρ ρ') (h:Den1 K F ρ v u):Den1 K F' ρ' v u:=h.subO hF fun i a _ e=>hρ i a e
theorem Den.mono (hF:Sub F F') (hρ:Ext ρ ρ') (h:Den K F ρ v u):Den K F' ρ' v u:=by
  cases h with
  | a1 h=>exact .a1 (h.mono hF hρ)
  | tup h k=>exact .tup (hF _ h) (k.imp fun _ _=>Den1.mono hF hρ)
  | lst h k=>exact .lst (hF _ h) (k.imp fun _ _=>Den1.mono hF hρ)
theorem lit_ext {n:Nat} (hl:litMem n v=true) (hρ:∀ i a,i < n→ρ[i]?=some a→ρ'[i]?=some a) (hF:Sub F F') (h:Den1 K F ρ v u):Den1 K F' ρ' v u:=
  h.subO hF fun i a e hi=>hρ i a (by subst e; exact Nat.le_of_ble_eq_true hl) hi
theorem Den.closed {n:Nat} (hl:closedV n v=true) (hρ:∀ i a,i < n→ρ[i]?=some a→ρ'[i]?=some a) (hF:Sub F F') (h:Den K F ρ v u):Den K F' ρ' v u:=by
  cases h with
  | @a1 v u h =>
    refine .a1 (lit_ext (n:=n) ?_ hρ hF h)
    cases h <;> first | rfl | exact hl
  | tup h k=>exact .tup (hF _ h) (k.sub hl fun _ _ e d=>lit_ext e hρ hF d)
  | lst h k=>exact .lst (hF _ h) (k.sub hl fun _ _ e d=>lit_ext e hρ hF d)
theorem dat_str {z:Str} (h:DatIn F u (.str z)):∃ t,u=.str z t:=by cases h; exact ⟨_,rfl⟩
theorem dat_int {z:Int} (h:DatIn F u (.int z)):∃ t,u=.int z t:=by cases h; exact ⟨_,rfl⟩
theorem dat_bytes {z:Array UInt8} (h:DatIn F u (.bytes z)):∃ t,u=.bytes z t:=by cases h; exact ⟨_,rfl⟩
theorem dat_bool {z:Bool} (h:DatIn F u (.bool z)):u=.bool z:=by cases h; rfl
theorem dA_cons {C:List Value→Prop} {vs:List Value} {d:Dat} {ds:List Dat} (h:DatAll F vs (d :: ds)) (f:∀ v r,DatIn F v d→DatAll F r ds→C (v :: r)):C vs:=by cases h with | cons a b=>exact f _ _ a b
theorem dA_nil {C:List Value→Prop} {vs:List Value} (h:DatAll F vs []) (f:C []):C vs:=by cases h; exact f
theorem den_d {x:Dat} (h:Den K F ρ (.d x) u):DatIn F u x:=by
  cases h with | a1 h=>cases h with | d h=>exact h
theorem den_int {z:Int} (h:Den K F ρ (.d (.int z)) u):∃ t,u=.int z t:=dat_int (den_d h)
theorem den_str {z:Str} (h:Den K F ρ (.d (.str z)) u):∃ t,u=.str z t:=dat_str (den_d h)
theorem den_bytes {z:Array UInt8} (h:Den K F ρ (.d (.bytes z)) u):∃ t,u=.bytes z t:=dat_bytes (den_d h)
theorem den_bool {b:Bool} (h:Den K F ρ (.d (.bool b)) u):u=.bool b:=dat_bool (den_d h)
theorem den_obj {i:Nat} (h:Den K F ρ (.obj i) u):∃ a,u=.ref a ∧ ρ[i]?=some a:=by
  cases h with | a1 h=>cases h with | obj h=>exact ⟨_,rfl,h⟩
theorem den_ref {a:Addr} (h:Den K F ρ (.ref a) u):u=.ref a:=by
  cases h with | a1 h=>cases h; rfl
theorem dat_list {ds:List Dat} {C:Prop} (h:DatIn F u (.list ds)) (k:∀ a vs n,u=.ref a→(a,listOf (List.toArray vs) n) ∈ F→DatAll F vs ds→C):C:=by
  cases h with | list hm hr=>exact k _ _ _ rfl hm hr
theorem dat_tuple {ds:List Dat} {C:Prop} (h:DatIn F u (.tuple ds)) (k:∀ a vs n,u=.ref a→(a,tupO vs n) ∈ F→DatAll F vs ds→C):C:=by
  cases h with | tuple hm hr=>exact k _ _ _ rfl hm hr
theorem den_tup {l:List SV} {C:Prop} (h:Den K F ρ (.tup l) u) (k:∀ a vs n,u=.ref a→(a,tupO vs n) ∈ F→All2 (Den1 K F ρ) l vs→C):C:=by
  cases h with
  | a1 h=>cases h
  | tup hm hr=>exact k _ _ _ rfl hm hr
theorem den_lsC {l:List SV} {C:Prop} (h:Den K F ρ (.lst l) u) (k:∀ a vs n,u=.ref a→(a,listOf (List.toArray vs) n) ∈ F→All2 (Den1 K F ρ) l vs→C):C:=by
  cases h with
  | a1 h=>cases h
  | lst hm hr=>exact k _ _ _ rfl hm hr
theorem den_kt {x:Str} {i:Int} {C:Prop} (h:Den K F ρ (.kt x i) u) (k:∀ a t t' n sl,u=.ref a→K.lookup a=some ⟨.type "tuple",none,.seq #[.str x t,.int i t'] n,sl⟩→C):C:=by
  cases h with | a1 h=>cases h with | kt hk=>exact k _ _ _ _ _ rfl hk
theorem Den.int (z:Int) (t:Tok):Den K F ρ (.d (.int z)) (.int z t):=.a1 (.d (.int _ _))
theorem Den.bool (b:Bool):Den K F ρ (.d (.bool b)) (.bool b):=.a1 (.d (.bool _))
theorem Den.bytes (b:Array UInt8) (t:Tok):Den K F ρ (.d (.bytes b)) (.bytes b t):=.a1 (.d (.bytes _ _))
theorem Den.none:Den K F ρ (.d .none) .none:=.a1 (.d .none)
theorem nI_den {k:Int→Prop} (h:nI v k) (hd:Den K F ρ v u):∃ z t,u=.int z t ∧ k z:=by
  obtain ⟨x,e,h⟩:=nOpt_iff h
  obtain ⟨z,rfl,h⟩:=dI_iff h
  cases toDat1_eq e
  obtain ⟨t,e⟩:=den_int hd
  exact ⟨z,t,e,h⟩
theorem nS_den {k:Str→Prop} (h:nS v k) (hd:Den K F ρ v u):∃ z t,u=.str z t ∧ k z:=by
  obtain ⟨x,e,h⟩:=nOpt_iff h
  obtain ⟨z,rfl,h⟩:=dS_iff h
  cases toDat1_eq e
  obtain ⟨t,e⟩:=den_str hd
  exact ⟨z,t,e,h⟩
theorem nY_den {k:Array UInt8→Prop} (h:nY v k) (hd:Den K F ρ v u):∃ z t,u=.bytes z t ∧ k z:=by
  obtain ⟨x,e,h⟩:=nOpt_iff h
  obtain ⟨z,rfl,h⟩:=dY_iff h
  cases toDat1_eq e
  obtain ⟨t,e⟩:=den_bytes hd
  exact ⟨z,t,e,h⟩
theorem nB_den {k:Bool→Prop} (h:nB v k) (hd:Den K F ρ v u):∃ z,u=.bool z ∧ v=.d (.bool z) ∧ k z:=by
  obtain ⟨x,e,h⟩:=nOpt_iff h
  obtain ⟨z,rfl,h⟩:=dB_iff h
  cases toDat1_eq e
  exact ⟨z,den_bool hd,rfl,h⟩
theorem nL_den {k:List Dat→Prop} (h:nL v k) (hd:Den K F ρ v u):∃ z,DatIn F u (.list z) ∧ k z:=by
  obtain ⟨x,e,h⟩:=nOpt_iff h
  obtain ⟨z,rfl,h⟩:=dL_iff h
  cases toDat1_eq e
  exact ⟨z,den_d hd,h⟩
end
theorem tf {C:Prop} (h:false=true):C:=Bool.noConfusion h
theorem ft {C:Prop} (h:true=false):C:=Bool.noConfusion h
theorem tup_inv {e:Expr} (h:Nat.beq (exK e) 5=true):∃ l k p,e=.Tuple l k p:=by
  cases e with
  | Tuple l k p=>exact ⟨l,k,p,rfl⟩
  | _=>exact tf h
theorem name_inv {e:Expr} (h:Nat.beq (exK e) 8=true):∃ y p,e=.Name y p:=by
  cases e with
  | Name y p=>exact ⟨y,p,rfl⟩
  | _=>exact tf h
theorem sw_none {t e:Expr} {env:Env} (hs:isListE t=false) (h:(Nat.beq (exK t) 5 && Nat.beq (exK e) 5)=false):swappedStores [t] e env=pure none:=by
  cases t with
  | Tuple=>cases e <;> first | rfl | exact ft h
  | _=>first | rfl | exact ft hs
theorem sww_none {e:Expr} {t:Option Expr} {l:Nat} {env:Env} (h:isComp e=false):swapsWith e t l env=pure false:=by cases e <;> first | rfl | exact ft h
theorem each_one {t:Expr} {env:Env} (h:isListE t=false):(assignEach [t] env).map (·.2)=[assign t env]:=by cases t <;> first | rfl | exact ft h
end Mine
end
section
namespace Mine
structure Wd where
  prog:Program
  w:World
  K:Frag
  p:Program
  loose:List Str
  mean:ExcName→Option Value
  mg:Str→Option Value
  mb:Str→Option Value
  cb:Bool
noncomputable abbrev Wd.M (W:Wd):Model:=model W.prog W.w
structure Ac where
  dp:Nat
  un:Nat
  gd:Option (List Code)
  cn:Str
  cs:Scope
  L:Addr
  a:Addr
  ccd:Value
  cl:List (Str × Addr)
  outer:List Env
  A₀:Around
  base:Heap
  h₀:Heap
  cc:Option (Scope × List (Str × Addr) × Addr)
  gn:Array GenState
  os:OsState
  hh:Option Value
noncomputable abbrev Ac.fenv (x:Ac):Env:=envX x.cn x.cs x.L x.a x.ccd x.cl
noncomputable abbrev Ac.ar (x:Ac):Around:={ handled:=x.hh,depth:=x.dp,frames:=some (x.fenv :: x.outer),guards:=x.gd,units:=x.un }
noncomputable def Ac.env (x:Ac):Env:=@Option.rec (Scope × List (Str × Addr) × Addr) (fun _=>Env) x.fenv (fun q=>compEnvC q.1 q.2.1 q.2.2 x.fenv) x.cc
noncomputable def Ac.sc (x:Ac):Scope:=x.env.scope
theorem env_fn {x:Ac} (h:x.cc=none):x.env=x.fenv:=by unfold Ac.env; rw [h]
theorem sc_fn {x:Ac} (h:x.cc=none):x.sc=x.cs:=by unfold Ac.sc; rw [env_fn h]
structure Ac.Ok (W:Wd) (x:Ac) (Γ:Ctx) (n:Nat):Prop where
  B:Below x.A₀ x.base x.outer x.h₀
  X:W.K.In x.h₀
  T:Top W.p W.loose W.mean W.mg W.mb x.h₀
  hk:x.cs.kind=.function
  hk2:x.sc.kind=.function
  dp:x.dp + 2 * n + 40 < recursionLimit
  un:x.un + 16 * n + 320 < cLine
  hI:Γ.In x.ar
  hC:Clean W.cb Γ
  cc0:∀ q,x.cc=some q→lookS ".0" x.sc.names=some .local
  cellsX:∀ y,lookS y x.cs.names=some .cell→∃ a,x.cl.lookup y=some a
  hn:W.cb=true→x.hh=none
theorem Ac.Ok.le {W:Wd} {x:Ac} {Γ:Ctx} {n k:Nat} (h:x.Ok W Γ n) (hk:k ≤ n):x.Ok W Γ k:=⟨h.B,h.X,h.T,h.hk,h.hk2,by have:=h.dp; exact ln [_,_,_,_] [] [.le (.v 0) (.v 1),.lt (.a (.a (.v 2) (.m 2 (.v 1))) (.k 40)) (.v 3)] (.lt (.a (.a (.v 2) (.m 2 (.v 0))) (.k 40)) (.v 3)) (.w [1,2,1]) zr hk this,by have:=h.un; exact ln [_,_,_,_] [] [.le (.v 0) (.v 1),.lt (.a (.a (.v 2) (.m 16 (.v 1))) (.k 320)) (.v 3)] (.lt (.a (.a (.v 2) (.m 16 (.v 0))) (.k 320)) (.v 3)) (.w [1,16,1]) zr hk this,h.hI,h.hC,h.cc0,h.cellsX,h.hn⟩
theorem Ac.Ok.ctx {W:Wd} {x:Ac} {Γ Γ':Ctx} {n:Nat} (ok:x.Ok W Γ n) (hI:Γ'.In x.ar) (hC:Clean W.cb Γ'):x.Ok W Γ' n:=⟨ok.B,ok.X,ok.T,ok.hk,ok.hk2,ok.dp,ok.un,hI,hC,ok.cc0,ok.cellsX,ok.hn⟩
section
variable (W:Wd) (F:List (Addr × Obj)) (ρ:List Addr)
noncomputable def EntOK (p:Str × SV) (e:DictEntry):Prop:=∃ t,e.key=.str p.1 t ∧ Den W.K F ρ p.2 e.val
noncomputable def KvOK (p:Str × SV) (e:Str × Value):Prop:=e.1=p.1 ∧ Den W.K F ρ p.2 e.2
noncomputable def ObjOK:SO→Obj→Prop
  | .inst c dx,o=>∃ a,ρ[dx]?=some a ∧ o=instObj c a
  | .attrs es,o=>∃ vs n,o=dictOf vs n ∧ All2 (EntOK W F ρ) es vs
  | .dict es,o=>∃ kvs,o.IsDictOf (strKind W.prog W.w) kvs ∧ All2 (KvOK W F ρ) es kvs
  | .ddict es,o=>∃ kvs,o.IsDictOf (strKind W.prog W.w) kvs ∧ All2 (fun p e=>KvOK W F ρ (p.1,.d p.2) e) es kvs
  | .list l,o=>∃ vs n,o=listOf (List.toArray vs) n ∧ All2 (Den W.K F ρ) l vs
  | .dlist ds,o=>∃ vs n,o=listOf (List.toArray vs) n ∧ DatAll F vs ds
  | .ba b,o=>o=baObj ⟨b⟩
  | .gone,_=>True
end
noncomputable def SO.alive:SO→Bool
  | .gone=>false
  | _=>true
theorem ObjOK.map {W:Wd} {F F':List (Addr × Obj)} {ρ ρ':List Addr} {so:SO} {o:Obj} {f:SV→SV} {P:SV→Bool} {q:Nat→Bool} (hF:Sub F F') (hq:∀ (i:Nat) (a:Addr),q i=true→ρ[i]?=some a→ρ'[i]?=some a)
    (hP:∀ v u,P v=true→Den W.K F ρ v u→Den W.K F' ρ' (f v) u) (hs:so.allB P q=true) (h:ObjOK W F ρ so o):ObjOK W F' ρ' (so.mapV f) o:=by
  cases so with
  | inst c dx=>obtain ⟨a,h,e⟩:=h; exact ⟨a,hq _ _ hs h,e⟩
  | attrs es=>obtain ⟨vs,n,e,h⟩:=h; exact ⟨vs,n,e,(h.sub (R':=fun p e=>EntOK W F' ρ' (p.1,f p.2) e) hs fun p e hp ⟨t,a,b⟩=>⟨t,a,hP _ _ hp b⟩).map fun _ _ h=>h⟩
  | dict es=>obtain ⟨vs,e,h⟩:=h; exact ⟨vs,e,(h.sub (R':=fun p e=>KvOK W F' ρ' (p.1,f p.2) e) hs fun p e hp ⟨a,b⟩=>⟨a,hP _ _ hp b⟩).map fun _ _ h=>h⟩
  | ddict es=>obtain ⟨vs,e,h⟩:=h; exact ⟨vs,e,h.imp fun p e ⟨a,b⟩=>⟨a,.a1 (.d ((den_d b).mono hF))⟩⟩
  | list l=>obtain ⟨vs,n,e,h⟩:=h; exact ⟨vs,n,e,(h.sub (R':=fun v u=>Den W.K F' ρ' (f v) u) hs fun v u hp d=>hP _ _ hp d).map fun _ _ h=>h⟩
  | dlist ds=>obtain ⟨vs,n,e,h⟩:=h; exact ⟨vs,n,e,h.mono hF⟩
  | ba b=>exact h
  | gone=>exact True.intro
theorem oDict_ok {W:Wd} {F:List (Addr × Obj)} {ρ:List Addr} {so:SO} {o:Obj} {k:List (Str × SV)→Prop} (h:oDict so k) (ok:ObjOK W F ρ so o):∃ es kvs,o.IsDictOf (strKind W.prog W.w) kvs ∧ All2 (KvOK W F ρ) es kvs ∧ so.alive=true ∧ k es:=by
  cases so with
  | dict es=>obtain ⟨kvs,h1,h2⟩:=ok; exact ⟨es,kvs,h1,h2,rfl,h⟩
  | ddict es=>obtain ⟨kvs,h1,h2⟩:=ok; exact ⟨_,kvs,h1,h2.map fun _ _ h=>h,rfl,h⟩
  | _=>exact False.elim h
theorem datE_eq {es:List (Str × SV)}:∀ {fs:List (Str × Dat)},datE es=some fs→es=fs.map fun p=>(p.1,.d p.2):=by
  induction es with
  | nil=>intro fs h; cases h; rfl
  | cons p r ih =>
    intro fs h
    obtain ⟨d,h1,h⟩:=Option.bind_eq_some_iff.mp h
    obtain ⟨gs,h2,h⟩:=Option.map_eq_some_iff.mp h
    cases h
    rw [List.map_cons,← ih h2,← toDat1_eq h1]
theorem All2.unmap {α β γ:Type} {R:β→γ→Prop} {f:α→β} {l:List α}:∀ {m:List γ},All2 R (l.map f) m→All2 (fun a b=>R (f a) b) l m:=by
  induction l with
  | nil=>intro m h; cases h; exact .nil
  | cons a l ih =>
    intro m h
    cases h with | cons h r=>exact .cons h (ih r)
theorem mkDict_ok {W:Wd} {F:List (Addr × Obj)} {ρ:List Addr} {es:List (Str × SV)} {o:Obj} {kvs:List (Str × Value)} (h1:o.IsDictOf (strKind W.prog W.w) kvs) (h2:All2 (KvOK W F ρ) es kvs):ObjOK W F ρ (mkDict es) o ∧ (mkDict es).alive=true:=by
  unfold mkDict
  cases e:datE es with
  | none=>exact ⟨⟨kvs,h1,h2⟩,rfl⟩
  | some fs=>rw [datE_eq e] at h2; exact ⟨⟨kvs,h1,h2.unmap⟩,rfl⟩
theorem mapV_id (so:SO):so.mapV (fun v=>v)=so:=by
  cases so with
  | attrs es=>exact congrArg SO.attrs (List.map_id' es)
  | dict es=>exact congrArg SO.dict (List.map_id' es)
  | list es=>exact congrArg SO.list (List.map_id' es)
  | _=>rfl
theorem allB_true (so:SO):so.allB (fun _=>true) (fun _=>true)=true:=by
  cases so with
  | attrs | dict | list=>exact List.all_eq_true.mpr fun _ _=>rfl
  | _=>rfl
theorem mapV_alive (f:SV→SV) (so:SO):(so.mapV f).alive=so.alive:=by cases so <;> rfl
theorem ObjOK.mono {W:Wd} {F F':List (Addr × Obj)} {ρ ρ':List Addr} {so:SO} {o:Obj} (hF:Sub F F') (hρ:Ext ρ ρ') (h:ObjOK W F ρ so o):ObjOK W F' ρ' so o:=
  mapV_id so ▸ h.map (f:=fun v=>v) hF (fun i a _=>hρ i a) (fun _ _ _ d=>d.mono hF hρ) (allB_true so)
inductive Rd (x:Ac) (F J:List (Addr × Obj)) (m:Str→Option Value) (y:Str) (u:Value):Prop
  | loc:x.cc=none→lookS y x.cs.names=some .local→m y=some u→Rd x F J m y u
  | cell {c:Addr} {o:Obj}:lookS y x.sc.names=some .cell→x.env.cells.lookup y=some c→(c,o) ∈ F→o.data=.cell (some u)→Rd x F J m y u
  | comp {q:Scope × List (Str × Addr) × Addr} {o:Obj}:x.cc=some q→lookS y x.sc.names=some .local→(q.2.2,o) ∈ J→(∀ h:Heap,h.get? q.2.2=some o→∃ m',h.Ns q.2.2 m' ∧ m' y=some u)→Rd x F J m y u
theorem Rd.mono {x:Ac} {F F' J J':List (Addr × Obj)} {m:Str→Option Value} {y:Str} {u:Value} (hF:Sub F F') (hJ:Sub J J') (h:Rd x F J m y u):Rd x F' J' m y u:=by
  cases h with
  | loc a b c=>exact .loc a b c
  | cell a b c d=>exact .cell a b (hF _ c) d
  | comp a b c d=>exact .comp a b (hJ _ c) d
noncomputable abbrev Cf.up (c:Cf) (σ:Sy) (h:Heap) (tk:Nat):Cf:=⟨c.ρ,c.F,c.J,c.m,σ,{ c.s with heap:=h,toks:=tk }⟩
noncomputable def SlotOK (W:Wd) (c:Cf) (so:SO) (p:Addr × Obj):Prop:=ObjOK W c.F c.ρ so p.2 ∧ (∀ q ∈ c.F,q.1=p.1→so.alive=false ∧ q.2.cls=.type "list") ∧ ∀ q ∈ c.J,q.1 ≠ p.1
structure StW (W:Wd) (x:Ac) (c:Cf) (P:List (Addr × Obj)):Prop where
  sc:c.σ.sc=x.sc ∧ c.s.gens=x.gn ∧ c.s.os=x.os
  fr:Fr x.h₀ x.L c.s.heap c.m
  news:News x.h₀ x.L c.s.heap (P ++ (c.F ++ c.J))
  rho:P.map (·.1)=c.ρ
  objs:All2 (SlotOK W c) c.σ.hp P
  nodup:c.ρ.Nodup
  fj:∀ p ∈ c.F,∀ q ∈ c.J,p.1 ≠ q.1
  loc:∀ y v kd,lookS y c.σ.loc=some (some v)→lookS y x.sc.names=some kd→isHeld kd=true→∃ u,Rd x c.F c.J c.m y u ∧ Den W.K c.F c.ρ v u
noncomputable def St (W:Wd) (x:Ac) (c:Cf):Prop:=∃ P,StW W x c P
theorem St.el {W:Wd} {x:Ac} {c:Cf} {C:Prop} (S:St W x c) (k:∀ P,StW W x c P→C):C:=Exists.elim S k
noncomputable def Goes {α β:Type} (W:Wd) (x:Ac) (D:Cf→α→β→Prop) (c:Cf) (K:α→Sy→Prop) (Q:β→Shared→Prop):Prop:=∀ a b c',K a c'.σ→Le c c'→D c' a b→St W x c'→Q b c'.s
theorem Goes.mono {α β:Type} {W:Wd} {x:Ac} {D:Cf→α→β→Prop} {c c':Cf} {K:α→Sy→Prop} {Q:β→Shared→Prop} (G:Goes W x D c K Q) (h:Le c c'):Goes W x D c' K Q:=fun a b c2 hk l d S=>G a b c2 hk (h.trans l) d S
noncomputable def GoesS {α β:Type} (W:Wd) (x:Ac) (D:Cf→α→β→Prop) (c:Cf) (K:α→Sy→Prop) (Q:β→Shared→Prop):Prop:=∀ a b c',K a c'.σ→LeS c c'→D c' a b→St W x c'→Q b c'.s
theorem GoesS.mono {α β:Type} {W:Wd} {x:Ac} {D:Cf→α→β→Prop} {c c':Cf} {K:α→Sy→Prop} {Q:β→Shared→Prop} (G:GoesS W x D c K Q) (h:LeS c c'):GoesS W x D c' K Q:=fun a b c2 hk l d S=>G a b c2 hk (h.trans l) d S
noncomputable abbrev DV (W:Wd) (c:Cf) (v:SV) (u:Value):Prop:=Den W.K c.F c.ρ v u
noncomputable abbrev DL (W:Wd) (c:Cf) (v:List SV) (u:List Value):Prop:=All2 (Den W.K c.F c.ρ) v u
noncomputable abbrev DB (c:Cf) (b b':Bool):Prop:=b=b'
noncomputable abbrev GoesU (W:Wd) (x:Ac) (c:Cf) (K:Sy→Prop) (Q:Unit→Shared→Prop):Prop:=∀ c',K c'.σ→Le c c'→St W x c'→Q () c'.s
theorem DV.mono {W:Wd} {c c':Cf} {v:SV} {u:Value} (l:Le c c') (h:DV W c v u):DV W c' v u:=Den.mono l.sub l.ext h
theorem DL.mono {W:Wd} {c c':Cf} {v:List SV} {u:List Value} (l:Le c c') (h:DL W c v u):DL W c' v u:=h.imp fun _ _=>Den.mono l.sub l.ext
section
variable {W:Wd} {x:Ac} {c:Cf} {P:List (Addr × Obj)}
theorem StW.heap (S:StW W x c P) {h':Heap} (F':Fr x.h₀ x.L h' c.m) (N':News x.h₀ x.L h' (P ++ (c.F ++ c.J))) (tk:Nat):St W x (c.up c.σ h' tk):=⟨P,S.sc,F',N',S.rho,S.objs,S.nodup,S.fj,S.loc⟩
theorem St.tok (S:St W x c) (tk:Nat):St W x { c with s:={ c.s with toks:=tk } }:=by
  obtain ⟨_,h⟩:=S
  exact h.heap h.fr h.news tk
theorem Le.here {s:Shared}:Le c { c with s:=s }:=⟨fun _ _ h=>h,fun _ h=>h,rfl,rfl⟩
theorem Le.up {σ:Sy} {h:Heap} {tk:Nat}:Le c (c.up σ h tk):=⟨fun _ _ h=>h,fun _ h=>h,rfl,rfl⟩
theorem StW.lenH (S:StW W x c P):c.σ.hp.length=c.ρ.length:=by rw [S.objs.len,← S.rho,List.length_map]
theorem StW.memF (S:StW W x c P) {p:Addr × Obj} (h:p ∈ c.F):p ∈ P ++ (c.F ++ c.J):=List.mem_append_right _ (List.mem_append_left _ h)
theorem StW.off (S:StW W x c P) {p:Addr × Obj} (h:p ∈ P ++ (c.F ++ c.J)):p.1 < c.s.heap.objs.size:=Heap.lt_size (S.news p h).1
theorem StW.get (S:StW W x c P) {i:Nat} {so:SO} (h:c.σ.hp[i]?=some so):∃ a o,P[i]?=some (a,o) ∧ c.ρ[i]?=some a ∧ ObjOK W c.F c.ρ so o ∧ (a,o) ∈ P ++ (c.F ++ c.J):=by
  refine byC fun zC zk=>?_
  obtain ⟨⟨a,o⟩,h1,h2⟩:=S.objs.get h
  refine zk ?_
  exact ⟨a,o,h1,by rw [← S.rho,List.getElem?_map,h1]; rfl,h2.1,List.mem_append_left _ (List.mem_of_getElem? h1)⟩
theorem StW.nO (S:StW W x c P) {v:SV} {u:Value} {k:Nat→SO→Prop} (h:nO c.σ v k) (hd:DV W c v u):∃ i so a o,v=.obj i ∧ u=.ref a ∧ c.σ.hp[i]?=some so ∧ P[i]?=some (a,o) ∧ c.ρ[i]?=some a ∧ ObjOK W c.F c.ρ so o ∧ (a,o) ∈ P ++ (c.F ++ c.J) ∧ k i so:=by
  refine nOpt_el h fun i e hh=>?_
  refine nOpt_el hh fun so e1 hk=>?_
  cases objI_eq e
  obtain ⟨a',rfl,hr⟩:=den_obj hd
  obtain ⟨a,o,h1,h2,h3,h4⟩:=S.get e1
  rw [hr] at h2
  cases h2
  exact ⟨i,so,a',o,rfl,rfl,e1,h1,hr,h3,h4,hk⟩
theorem StW.nOC (S:StW W x c P) {v:SV} {u:Value} {k:Nat→SO→Prop} (h:Mine.nO c.σ v k) (hd:DV W c v u) {C:Prop} (f:∀ i a,v=.obj i→u=.ref a→∀ so o,c.σ.hp[i]?=some so→P[i]?=some (a,o)→c.ρ[i]?=some a→ObjOK W c.F c.ρ so o→(a,o) ∈ P ++ (c.F ++ c.J)→k i so→C):C:=by
  obtain ⟨i,so,a,o,e1,e2,h1,h2,h3,h4,h5,h6⟩:=S.nO h hd
  exact f i a e1 e2 so o h1 h2 h3 h4 h5 h6
theorem StW.nLd (S:StW W x c P) {v:SV} {u:Value} {k:List Dat→Prop} (h:nLd c.σ v k) (hd:DV W c v u):∃ ds a vs n,u=.ref a ∧ DatAll c.F vs ds ∧ (a,listOf (List.toArray vs) n) ∈ P ++ (c.F ++ c.J) ∧ k ds:=by
  rcases bite_or h with ⟨_,h⟩ | ⟨_,h⟩
  · refine byC fun zC zk=>?_
    refine S.nOC h hd fun i a e₁ e₂ so o e _ _ ok hm h₂=>?_
    subst e₁ e₂
    have h:=h₂
    obtain ⟨ds,rfl,h⟩:=oDl_iff h
    obtain ⟨vs,n,rfl,hh⟩:=ok
    refine zk ?_
    exact ⟨ds,a,vs,n,rfl,hh,hm,h⟩
  · refine byC fun zC zk=>?_
    obtain ⟨ds,hh,h⟩:=nL_den h hd
    refine zk ?_
    cases hh with
    | list hm hr=>exact ⟨ds,_,_,_,rfl,hr,S.memF hm,h⟩
theorem StW.upd (S:StW W x c P) {i:Nat} {so:SO} {a:Addr} {o:Obj} (h:c.σ.hp[i]?=some so) (hal:so.alive=true) (hP:P[i]?=some (a,o)) {C:Prop}
    (k:∀ R,News x.h₀ x.L c.s.heap ((a,o) :: R)→(∀ p ∈ R,p.1 ≠ a)→(∀ p ∈ P ++ (c.F ++ c.J),p ∈ (a,o) :: R)→(∀ h' tk o' so',Fr x.h₀ x.L h' c.m→News x.h₀ x.L h' ((a,o') :: R)→ObjOK W c.F c.ρ so' o'→so'.alive=true→St W x (c.up (c.σ.put i so') h' tk))→C):C:=by
  have hi:=S.objs.both h hP
  have hlt:i < P.length:=(List.getElem?_eq_some_iff.mp hP).1
  have hm:(a,o) ∈ P ++ (c.F ++ c.J):=List.mem_append_left _ (List.mem_of_getElem? hP)
  have ha:c.ρ[i]?=some a:=by rw [← S.rho,List.getElem?_map,hP]; rfl
  have ne:∀ (j:Nat) (p:Addr × Obj),P[j]?=some p→j ≠ i→p.1 ≠ a:=fun j p hj hn e=>hn <| by
    have hj':c.ρ[j]?=some a:=by rw [← S.rho,List.getElem?_map,hj,← e]; rfl
    exact (List.getElem?_inj (List.getElem?_eq_some_iff.mp hj').1 S.nodup).mp (hj'.trans ha.symm)
  have nF:∀ q ∈ c.F ++ c.J,q.1 ≠ a:=fun q hq e=>(List.mem_append.mp hq).elim (fun h=>by
    have:=(hi.2.1 q h e).1
    rw [hal] at this
    cases this) fun h=>hi.2.2 q h e
  refine k ((P ++ (c.F ++ c.J)).filter fun p=>decide (p.1 ≠ a)) (fun p hp=>?_) (fun p hp=>by simpa using (List.mem_filter.mp hp).2) (fun p hp=>?_) fun h' tk o' so' F' N' ok al=>?_
  · rcases List.mem_cons.mp hp with rfl | hp
    · exact S.news _ hm
    · exact S.news p (List.mem_filter.mp hp).1
  · by_cases e:p.1=a
    · have h1:=(S.news p hp).1
      rw [e,(S.news _ hm).1] at h1
      have:p=(a,o):=Prod.ext e (Option.some.inj h1).symm
      rw [this]; exact List.mem_cons_self ..
    · exact List.mem_cons_of_mem _ (List.mem_filter.mpr ⟨hp,by simpa using e⟩)
  · refine ⟨P.set i (a,o'),S.sc,F',fun p hp=>N' p ?_,?_,All2.of ?_ fun j sj p hj hp=>?_,S.nodup,S.fj,S.loc⟩
    · rcases List.mem_append.mp hp with hp | hp
      · obtain ⟨j,hj,e⟩:=List.getElem_of_mem hp
        have hj2:(P.set i (a,o'))[j]?=some p:=by rw [List.getElem?_eq_getElem hj,e]
        rw [List.getElem?_set] at hj2
        split at hj2
        · cases hj2; exact List.mem_cons_self ..
        · exact List.mem_cons_of_mem _ (List.mem_filter.mpr ⟨List.mem_append_left _ (List.mem_of_getElem? hj2),by simpa using ne j p hj2 (Ne.symm ‹_›)⟩)
      · exact List.mem_cons_of_mem _ (List.mem_filter.mpr ⟨List.mem_append_right _ hp,by simpa using nF p hp⟩)
    · rw [List.map_set,S.rho]
      obtain ⟨k1,k2⟩:=List.getElem?_eq_some_iff.mp ha
      have:c.ρ.set i c.ρ[i]=c.ρ:=List.set_getElem_self k1
      rwa [k2] at this
    · show (c.σ.hp.set i so').length=_
      rw [List.length_set,List.length_set]; exact S.objs.len
    · have hj:(c.σ.hp.set i so')[j]?=some sj:=hj
      have hl:i < c.σ.hp.length:=by rw [S.objs.len]; exact hlt
      rw [List.getElem?_set] at hj hp
      by_cases e:i=j
      · subst e
        rw [if_pos rfl,if_pos hl] at hj
        rw [if_pos rfl,if_pos hlt] at hp
        cases hj; cases hp
        exact ⟨ok,fun q hq e=>absurd e (nF q (List.mem_append_left _ hq)),fun q hq=>nF q (List.mem_append_right _ hq)⟩
      · rw [if_neg e] at hj hp
        exact S.objs.both hj hp
theorem StW.data {D:Addr} {o:Obj} {h':Heap} (S:StW W x c P) (tk:Nat) (F':Fr x.h₀ x.L h' c.m) (N':News x.h₀ x.L h' ((D,o) :: (P ++ (c.F ++ c.J)))) (hD:∀ p ∈ P ++ (c.F ++ c.J),p.1 ≠ D):St W x { c with F:=c.F ++ [(D,o)],s:={ c.s with heap:=h',toks:=tk } }:=by
  have hs:=Sub.snoc c.F (D,o)
  have key:∀ p,p ∈ (c.F ++ [(D,o)]) ++ c.J→p=(D,o) ∨ p ∈ c.F ++ c.J:=fun p hp=>by
    simp only [List.mem_append,List.mem_cons,List.not_mem_nil,or_false] at hp ⊢
    rcases hp with (h | h) | h
    · exact .inr (.inl h)
    · exact .inl h
    · exact .inr (.inr h)
  refine ⟨P,S.sc,F',fun p hp=>N' p ?_,S.rho,All2.of S.objs.len fun i so p h1 h2=>?_,S.nodup,fun p hp q hq=>?_,fun y v kd h1 h2 h3=>?_⟩
  · rcases List.mem_append.mp hp with hp | hp
    · exact List.mem_cons_of_mem _ (List.mem_append_left _ hp)
    · rcases key p hp with h | h
      · exact h ▸ List.mem_cons_self ..
      · exact List.mem_cons_of_mem _ (List.mem_append_right _ h)
  · obtain ⟨k1,k2⟩:=S.objs.both h1 h2
    refine ⟨k1.mono hs fun _ _ e=>e,fun q hq e=>?_,k2.2⟩
    rcases List.mem_append.mp hq with h | h
    · exact k2.1 q h e
    · rw [List.mem_singleton.mp h] at e; exact absurd e.symm (hD p (List.mem_append_left _ (List.mem_of_getElem? h2)))
  · rcases List.mem_append.mp hp with h | h
    · exact S.fj p h q hq
    · rw [List.mem_singleton.mp h]; exact fun e=>hD q (List.mem_append_right _ (List.mem_append_right _ hq)) e.symm
  · obtain ⟨u,k1,k2⟩:=S.loc y v kd h1 h2 h3
    exact ⟨u,k1.mono hs fun _ h=>h,k2.mono hs fun _ _ e=>e⟩
theorem Le.data {p:Addr × Obj} {s:Shared}:Le c { c with F:=c.F ++ [p],s:=s }:=⟨fun _ _ h=>h,Sub.snoc _ _,rfl,rfl⟩
theorem StW.new {D:Addr} {o:Obj} {so:SO} {h':Heap} (S:StW W x c P) (tk:Nat) (F':Fr x.h₀ x.L h' c.m) (N':News x.h₀ x.L h' ((D,o) :: (P ++ (c.F ++ c.J)))) (hD:∀ p ∈ P ++ (c.F ++ c.J),p.1 ≠ D) (ok:ObjOK W c.F (c.ρ ++ [D]) so o) :
    St W x { c with ρ:=c.ρ ++ [D],σ:=c.σ.new so,s:={ c.s with heap:=h',toks:=tk } }:=by
  have e:=Ext.snoc c.ρ D
  have hDr:D ∉ c.ρ:=fun hm=>by
    rw [← S.rho] at hm
    obtain ⟨p,hp,e⟩:=List.mem_map.mp hm
    exact hD p (List.mem_append_left _ hp) e
  refine ⟨P ++ [(D,o)],S.sc,F',fun p hp=>N' p ?_,by rw [List.map_append,S.rho]; rfl,All2.app (S.objs.imp fun so p ⟨k1,k2⟩=>⟨k1.mono (fun _ h=>h) e,k2⟩) (.cons ⟨ok,fun q hq e=>absurd e (hD q (List.mem_append_right _ (List.mem_append_left _ hq))),fun q hq e=>hD q (List.mem_append_right _ (List.mem_append_right _ hq)) e⟩ .nil),?_,S.fj,fun y v kd h1 h2 h3=>?_⟩
  · simp only [List.mem_append,List.mem_cons,List.not_mem_nil,or_false] at hp ⊢
    rcases hp with (h | h) | h
    · exact .inr (.inl h)
    · exact .inl h
    · exact .inr (.inr h)
  · exact List.nodup_append.mpr ⟨S.nodup,by simp,fun a ha b hb e=>hDr ((e.trans (List.mem_singleton.mp hb)) ▸ ha)⟩
  · obtain ⟨u,k1,k2⟩:=S.loc y v kd h1 h2 h3
    exact ⟨u,k1,k2.mono (fun _ h=>h) e⟩
theorem Le.new {D:Addr} {σ:Sy} {s:Shared}:Le c { c with ρ:=c.ρ ++ [D],σ:=σ,s:=s }:=⟨Ext.snoc _ _,fun _ h=>h,rfl,rfl⟩
theorem StW.newObj (S:StW W x c P) {D:Addr}:(c.ρ ++ [D])[c.σ.hp.length]?=some D:=by rw [S.lenH]; simp
theorem nI_el {C:Value→Prop} {v:SV} {u:Value} {k:Int→Prop} (h:nI v k) (hd:DV W c v u) (f:∀ z t,k z→C (.int z t)):C u:=by
  obtain ⟨z,t,e,h⟩:=nI_den h hd
  exact e ▸ f z t h
theorem nS_el {C:Value→Prop} {v:SV} {u:Value} {k:Str→Prop} (h:nS v k) (hd:DV W c v u) (f:∀ z t,k z→C (.str z t)):C u:=by
  obtain ⟨z,t,e,h⟩:=nS_den h hd
  exact e ▸ f z t h
theorem nY_el {C:Value→Prop} {v:SV} {u:Value} {k:Array UInt8→Prop} (h:nY v k) (hd:DV W c v u) (f:∀ z t,k z→C (.bytes z t)):C u:=by
  obtain ⟨z,t,e,h⟩:=nY_den h hd
  exact e ▸ f z t h
theorem nB_el {C:Value→Prop} {v:SV} {u:Value} {k:Bool→Prop} (h:nB v k) (hd:DV W c v u) (f:∀ z,v=.d (.bool z)→k z→C (.bool z)):C u:=by
  obtain ⟨z,e,e2,h⟩:=nB_den h hd
  exact e ▸ f z e2 h
theorem StW.nO_el {C:Value→Prop} (S:StW W x c P) {v:SV} {u:Value} {k:Nat→SO→Prop} (h:Mine.nO c.σ v k) (hd:DV W c v u) (f:∀ i so a o,c.σ.hp[i]?=some so→P[i]?=some (a,o)→ObjOK W c.F c.ρ so o→(a,o) ∈ P ++ (c.F ++ c.J)→k i so→C (.ref a)):C u:=by
  obtain ⟨i,so,a,o,_,e,e1,p1,_,ok,hm,h⟩:=S.nO h hd
  exact e ▸ f i so a o e1 p1 ok hm h
theorem StW.nDl_el {C:Value→Prop} (S:StW W x c P) {v:SV} {u:Value} {k:Nat→List Dat→Prop} (h:Mine.nO c.σ v fun i so=>oDl so (k i)) (hd:DV W c v u) (f:∀ i ds a vs n,c.σ.hp[i]?=some (.dlist ds)→P[i]?=some (a,listOf (List.toArray vs) n)→DatAll c.F vs ds→(a,listOf (List.toArray vs) n) ∈ P ++ (c.F ++ c.J)→k i ds→C (.ref a)):C u:=
  S.nO_el h hd fun i so a o e p ok hm h=>by
    obtain ⟨ds,rfl,h⟩:=oDl_iff h
    obtain ⟨vs,n,rfl,hh⟩:=ok
    exact f i ds a vs n e p hh hm h
theorem StW.nLd_el {C:Value→Prop} (S:StW W x c P) {v:SV} {u:Value} {k:List Dat→Prop} (h:Mine.nLd c.σ v k) (hd:DV W c v u) (f:∀ ds a vs n,DatAll c.F vs ds→(a,listOf (List.toArray vs) n) ∈ P ++ (c.F ++ c.J)→k ds→C (.ref a)):C u:=by
  obtain ⟨ds,a,vs,n,e,hd,hm,h⟩:=S.nLd h hd
  exact e ▸ f ds a vs n hd hm h
theorem one_el {C:List Value→Prop} {l:List SV} {us:List Value} {k:SV→Prop} (h:one l k) (hd:DL W c l us) (f:∀ v u,DV W c v u→k v→C [u]):C us:=by
  obtain ⟨v,rfl,h⟩:=one_iff h
  cases hd with | cons a r=>cases r; exact f _ _ a h
theorem two_el {C:List Value→Prop} {l:List SV} {us:List Value} {k:SV→SV→Prop} (h:two l k) (hd:DL W c l us) (f:∀ v u v' u',DV W c v u→DV W c v' u'→k v v'→C [u,u']):C us:=by
  obtain ⟨v,v',rfl,h⟩:=two_iff h
  cases hd with | cons a r=>cases r with | cons b r=>cases r; exact f _ _ _ _ a b h
theorem thr_el {C:List Value→Prop} {l:List SV} {us:List Value} {k:SV→SV→SV→Prop} (h:thr l k) (hd:DL W c l us) (f:∀ v u v' u' v2 u2,DV W c v u→DV W c v' u'→DV W c v2 u2→k v v' v2→C [u,u',u2]):C us:=by
  obtain ⟨v,v',v2,rfl,h⟩:=thr_iff h
  cases hd with | cons a r=>cases r with | cons b r=>cases r with | cons d r=>cases r; exact f _ _ _ _ _ _ a b d h
theorem refA_el {C:Value→Prop} {v:SV} {u:Value} {k:Addr→Prop} (h:nOpt (refA v) k) (hd:DV W c v u) (f:∀ a,k a→C (.ref a)):C u:=by
  refine nOpt_el h fun a e h=>?_
  cases refA_eq e
  exact den_ref hd ▸ f a h
end
end Mine
end
namespace Mine
structure FnOK (W:Wd) (a:Addr) (r:FnR):Prop where
  at_:∃ dV kV doc pm cdv ct oc an od osl,W.K.lookup a=some ⟨oc,od,.func (fnOf r.name r.qual r.params r.body r.scope dV kV doc pm an cdv ct),osl⟩ ∧ codeIn W.K cdv r.qual=true ∧
    ∀ vs:List Value,vs.length=(argNames r.params).length→bindArgs (fnOf r.name r.qual r.params r.body r.scope dV kV doc pm an cdv ct) ⟨vs,[]⟩=pure ((argNames r.params).zip vs)
  co:r.scope.isCoroutine=false
  gen:r.scope.isGenerator=false
  kind:r.scope.kind=.function
  loc:∀ y ∈ argNames r.params,r.scope.names.lookup y=some .local ∨ r.scope.names.lookup y=some .cell
  cells:((cellsFrom 0 r.scope.names []).map (·.1)).Nodup
  nodup:(argNames r.params).Nodup
  keep:keepIn W.K (.ref a)=true
structure ClOK (W:Wd) (c:Addr) (r:ClR):Prop where
  get:∀ y,plainGet W.K c y=true
  hasD:hasDictIn W.K c=true
  over:plainOver W.K c=true
  set:findIn W.K (.ref c) "__setattr__"=some (some (.builtin "object.__setattr__"))
  field:∀ y,r.fields.any (eqS y)=true→findIn W.K (.ref c) y=some none
  meth:∀ y f,lookS y r.meths=some f→findIn W.K (.ref c) y=some (some (.ref f)) ∧ isFn W.K (.ref f)=true
  makes:makesIn W.K c=true
  keep:keepIn W.K (.ref c)=true
  init:findIn W.K (.ref c) "__init__"=some (some (.ref r.init)) ∧ isFn W.K (.ref r.init)=true
structure TabOK (W:Wd) (T:Tab):Prop where
  gl:∀ y v,lookS y T.gl=some v→∃ u,nsIn W.K mainGlobals y=some (some u) ∧ ∀ F ρ,Den W.K F ρ v u
  bl:∀ y v,lookS y T.gl=none→lookS y T.bl=some v→nsIn W.K mainGlobals y=some none ∧ y ≠ "__name__" ∧ ∃ u,bootBuiltins y=some u ∧ ∀ F ρ,Den W.K F ρ v u
  fn:∀ a r,T.fn a=some r→FnOK W a r
  cl:∀ a r,T.cl a=some r→ClOK W a r
  mods:importsNone W.p=true
  ba:T.ba=true→W.cb=true
  sp:∀ a g,T.sp a=some g→keepIn W.K (.ref a)=true
  aw:∀ a l,T.aw a=some l→∀ (A:Around) (Q E:Value→Shared→Prop) (s:Shared) (y:Str) (t:Tok),W.K.In s.heap→(∀ z i,lookS y l=some (z,i)→∀ u tk,(∀ F ρ,Den W.K F ρ (.kt z i) u)→Q u { s with toks:=tk }) →
    (lookS y l=none→∀ tk,Q .none { s with toks:=tk })→wpAny W.M A (call (.builtin "dict.get") [.ref a,.str y t]) Q E s
  awM:∀ a l,T.aw a=some l→∀ (A:Around) (Q:Value × List Value→Shared→Prop) (E:Value→Shared→Prop) (s:Shared) (pl:Sem Bool),W.K.In s.heap→Q (.builtin "dict.get",[.ref a]) s→wpAny W.M A (getMethod (.ref a) "get" pl) Q E s
theorem env_glob (x:Ac):x.env.globals=mainGlobals ∧ x.env.builtins=builtinsNs:=by
  unfold Ac.env
  cases x.cc <;> exact ⟨rfl,rfl⟩
section
variable {W:Wd} {T:Tab} {x:Ac} {Γ:Ctx} {n:Nat} {c:Cf} {E:Value→Shared→Prop} {P:List (Addr × Obj)}
theorem Goes.here {K:KV} {Q:Value→Shared→Prop} (G:Goes W x (DV W) c K Q) (S:St W x c) {v:SV} {u:Value} (tk:Nat) (h:K v c.σ) (hd:DV W c v u):Q u { c.s with toks:=tk }:=G _ _ { c with s:={ c.s with toks:=tk } } h Le.here hd (S.tok tk)
theorem name_snd (TO:TabOK W T) (ok:x.Ok W Γ n) (S:St W x c) {y:Str} {pos:Pos} {K:KV} {Q:Value→Shared→Prop} (h:nameV T y c.σ K) (G:Goes W x (DV W) c K Q) :
    wpAny W.M x.ar (eval (.Name y pos) x.env) Q E c.s:=by
  refine byC fun zC zk=>?_
  obtain ⟨P,S⟩:=S
  obtain ⟨hd,h⟩:=reqN h
  refine nOpt_el h fun kd e1 h=>?_
  have hd':(y == ("__debug__":Str))=false:=(beqS _ _).trans hd
  rw [S.sc.1] at e1
  have hk:x.env.kindOf y=some kd:=(lookS_lookup y _).symm.trans e1
  obtain ⟨g1,g2⟩:=env_glob x
  refine zk ?_
  rcases bite_or h with ⟨hh,h⟩ | ⟨_,h⟩
  · refine byC fun zC zk=>?_
    refine nOpt_el h fun ov e2 h=>?_
    obtain ⟨v,rfl,h⟩:=nOpt_iff h
    obtain ⟨u,h1,h2⟩:=S.loc y v kd e2 e1 hh
    refine zk ?_
    have q:Q u c.s:=G v u c h (Le.refl c) h2 ⟨P,S⟩
    cases h1 with
    | loc k1 k2 k3 =>
      rw [env_fn k1] at hk ⊢
      exact wpAny_Name (wpAny_loadName_local ok.hk (hk.trans ((e1.symm.trans (by rw [sc_fn k1]; exact k2)))) S.fr.ns k3 q) hd'
    | cell k1 k2 k3 k4=>exact wpAny_Name (wpAny_loadName_cell ok.hk2 (hk.trans (e1.symm.trans k1)) k2 ⟨_,(S.news _ (S.memF k3)).1,k4⟩ q) hd'
    | @comp q9 o9 k1 k2 k3 k4 =>
      have hl:x.env.locals=q9.2.2:=by unfold Ac.env; rw [k1]; rfl
      refine byC fun zC zk=>?_
      obtain ⟨m',n1,n2⟩:=k4 c.s.heap (S.news _ (List.mem_append_right _ (List.mem_append_right _ k3))).1
      refine zk ?_
      exact wpAny_Name (wpAny_loadName_local ok.hk2 (hk.trans (e1.symm.trans k2)) (by rw [hl]; exact n1) n2 q) hd'
  · refine byC fun zC zk=>?_
    obtain ⟨hg,h⟩:=req1 h
    refine zk ?_
    have hg:kd=.globalImplicit:=by cases kd <;> first | rfl | cases hg
    subst hg
    have TR:=topRead_of ok.T
    refine Calls.Name_function_global ok.hk2 hk ?_ hd'
    cases e2:lookS y T.gl with
    | some v =>
      rw [e2] at h
      refine byC fun zC zk=>?_
      obtain ⟨u,h1,h2⟩:=TO.gl y v e2
      refine zk ?_
      exact Calls.loadGlobal_global (by rw [g1]; exact TR.g.keeps S.fr.keep) (mg_of ok.X TR.g h1) (G v u c h (Le.refl c) (h2 _ _) ⟨P,S⟩)
    | none =>
      rw [e2] at h
      refine byC fun zC zk=>?_
      refine nOpt_el h fun v e3 h=>?_
      obtain ⟨h1,hn,u,h2,h3⟩:=TO.bl y v e2 e3
      refine zk ?_
      exact Calls.loadGlobal_builtin (by rw [g1]; exact TR.g.keeps S.fr.keep) (mg_none_of ok.X TR.g h1) (by rw [g2]; exact TR.b.keeps S.fr.keep) ((TR.builtins y hn).trans h2) (G v u c h (Le.refl c) (h3 _ _) ⟨P,S⟩)
theorem const_snd (S:St W x c) {cn:Const} {k:Nat} {pos:Pos} {env:Env} {K:KV} {Q:Value→Shared→Prop} (h:nOpt (constV cn) fun d=>K (.d d) c.σ) (G:Goes W x (DV W) c K Q) :
    wpAny W.M x.ar (eval (.Constant cn k pos) env) Q E c.s:=by
  cases cn with
  | none=>exact wpAny_Constant_none (G.here S _ h .none)
  | bool b=>exact Constant_bool (G.here S _ h (.bool b))
  | int z=>exact wpAny_Constant_int (G.here S _ h (.int z _))
  | str z=>exact Calls.Constant_str (G.here S _ h (.a1 (.d (.str z _))))
  | bytes z=>exact Constant_bytes (G.here S _ h (.bytes _ _))
  | _=>exact False.elim h
theorem isStr_eq {e:DictEntry} {z y:Str} {t:Tok} (hk:e.key=.str z t):e.key.isStr y=eqS y z:=by
  rw [hk,← beqS]
  show (z == y)=_
  rw [beqS,beqS,eqS_comm]
theorem getL_of {F:List (Addr × Obj)} {ρ:List Addr} {y:Str} {es:List (Str × SV)} {vs:List DictEntry} (h:All2 (EntOK W F ρ) es vs) :
    @Option.rec SV (fun _=>Prop) (getL y vs=some none) (fun v=>∃ u,getL y vs=some (some u) ∧ Den W.K F ρ v u) (lookS y es):=by
  have key:vs.any (·.refKey)=false ∧ @Option.rec SV (fun _=>Prop) (vs.find? (·.key.isStr y)=none) (fun v=>∃ e,vs.find? (·.key.isStr y)=some e ∧ Den W.K F ρ v e.val) (lookS y es):=by
    induction h with
    | nil=>exact ⟨rfl,rfl⟩
    | @cons p e l m hp hr ih =>
      refine byC fun zC zk=>?_
      obtain ⟨t,hk,hv⟩:=hp
      refine zk ?_
      refine ⟨by rw [List.any_cons,ih.1,Bool.or_false]; unfold DictEntry.refKey; rw [hk],?_⟩
      rw [List.find?_cons,isStr_eq hk,lookS_c]
      cases eqS y p.1 with
      | true=>exact ⟨e,rfl,hv⟩
      | false=>exact ih.2
  unfold getL
  cases e:lookS y es with
  | none=>rw [e] at key; rw [key.2]; simp [key.1]
  | some v =>
    rw [e] at key
    refine byC fun zC zk=>?_
    obtain ⟨_,e1,h1,h2⟩:=key
    refine zk ?_
    rw [h1]
    exact ⟨_,rfl,h2⟩
theorem putS_c {α:Type} {x:Str} {v:α} {p:Str × α} {r:List (Str × α)}:putS x v (p :: r)=bif eqS x p.1 then (p.1,v) :: r else p :: putS x v r:=rfl
theorem putL_of {F:List (Addr × Obj)} {ρ:List Addr} {y:Str} {v:SV} {u:Value} {hh:Int} {t:Tok} (hv:Den W.K F ρ v u) {es:List (Str × SV)} {vs:List DictEntry} (h:All2 (EntOK W F ρ) es vs):All2 (EntOK W F ρ) (putS y v es) (putL y hh (.str y t) u vs):=by
  induction h with
  | nil=>exact .cons ⟨t,rfl,hv⟩ .nil
  | @cons p e l m hp hr ih =>
    obtain ⟨t',hk,hd⟩:=hp
    rw [putS_c,putL,isStr_eq hk]
    cases eqS y p.1 with
    | true=>exact .cons ⟨t',hk,hv⟩ hr
    | false=>exact .cons ⟨t',hk,hd⟩ ih
theorem putS_len {α:Type} {y:Str} {v:α} {l:List (Str × α)}:(putS y v l).length ≤ l.length + 1:=by
  induction l with
  | nil=>exact Nat.le_refl _
  | cons p r ih =>
    rw [putS_c]
    cases eqS y p.1 with
    | true=>exact Nat.le_succ _
    | false=>exact Nat.succ_le_succ ih
theorem StW.inst (S:StW W x c P) {dx:Nat} {cl:Addr} {es:List (Str × SV)} {a:Addr} {o:Obj} (ho:ObjOK W c.F c.ρ (.inst cl dx) o) (hm:(a,o) ∈ P ++ (c.F ++ c.J)) (h2:c.σ.hp[dx]?=some (.attrs es)) :
    ∃ d vs k,P[dx]?=some (d,dictOf vs k) ∧ InstAt c.s.heap a (instObj cl d) cl (some (dictOf vs k)) ∧ All2 (EntOK W c.F c.ρ) es vs:=by
  refine byC fun zC zk=>?_
  obtain ⟨d,r2,rfl⟩:=ho
  obtain ⟨d',od,p3,r3,⟨vs,k,rfl,hv⟩,m2⟩:=S.get h2
  refine zk ?_
  rw [r2] at r3
  cases r3
  exact ⟨d,vs,k,p3,InstAt.of_news S.news hm m2,hv⟩
theorem getA_snd (TO:TabOK W T) (ok:x.Ok W Γ n) (S:St W x c) {v:SV} {u:Value} {a:Str} {K:KV} {Q:Value→Shared→Prop} (hv:DV W c v u) (h:getA T v a c.σ K) (G:Goes W x (DV W) c K Q) :
    wpAny W.M x.ar (getAttr u a true) Q E c.s:=by
  have S0:=S
  refine byC fun zC zk=>?_
  obtain ⟨P,S⟩:=S
  refine S.nOC h hv fun i ad e₁ e₂ so o e1 p1 r1 ho hm h₂=>?_
  subst e₁ e₂
  have h:=h₂
  obtain ⟨cl,dx,rfl,h⟩:=oInst_iff h
  refine nOpt_el h fun so2 e2 h=>?_
  obtain ⟨es,rfl,h⟩:=oAttrs_iff h
  refine nOpt_el h fun cr e3 h=>?_
  obtain ⟨hf,h⟩:=req1 h
  refine nOpt_el h fun w9 e4 h=>?_
  have CO:=TO.cl cl cr e3
  obtain ⟨d,vs,k,_,I,hvs⟩:=S.inst ho hm e2
  have g:=getL_of hvs (y:=a)
  rw [e4] at g
  obtain ⟨u9,g1,g2⟩:=g
  refine zk ?_
  have hh:handedIn u9=true:=by
    cases g2 with
    | a1 g2=>cases g2 with
      | d h=>exact h.handed
      | bi b=>cases b <;> decide +kernel
      | _=>rfl
    | _=>rfl
  exact get_own S.fr ok.X I (CO.get a) CO.hasD (CO.field a hf) rfl g1 hh (G.here S0 _ h g2)
theorem setA_snd (TO:TabOK W T) (ok:x.Ok W Γ n) (S:St W x c) {v v2:SV} {u u2:Value} {a:Str} {K:Sy→Prop} {Q:Unit→Shared→Prop} (hv:DV W c v u) (hv2:DV W c v2 u2) (h:setA T v a v2 c.σ K) (G:GoesU W x c K Q) :
    wpAny W.M x.ar (setAttr u a u2) Q E c.s:=by
  refine byC fun zC zk=>?_
  obtain ⟨P,S⟩:=S
  refine S.nOC h hv fun i ad e₁ e₂ so o e1 p1 r1 ho hm h₂=>?_
  subst e₁ e₂
  have h:=h₂
  obtain ⟨cl,dx,rfl,h⟩:=oInst_iff h
  refine nOpt_el h fun so2 e2 h=>?_
  obtain ⟨es,rfl,h⟩:=oAttrs_iff h
  refine nOpt_el h fun cr e3 h=>?_
  obtain ⟨hf,h⟩:=req1 h
  obtain ⟨hz,h⟩:=reqLe h
  have CO:=TO.cl cl cr e3
  obtain ⟨d,vs,k,p2,I,hvs⟩:=S.inst ho hm e2
  refine S.upd e2 rfl p2 fun R N off hR put=>?_
  refine zk ?_
  have nf:takerIn W.K cl a=some none:=by unfold takerIn; rw [CO.field a hf]; rfl
  have hl:(getL a vs).isSome=true:=by
    have g:=getL_of hvs (y:=a)
    cases e4:lookS a es with
    | none=>rw [e4] at g; rw [g]; rfl
    | some w9=>rw [e4] at g; obtain ⟨u9,g,_⟩:=g; rw [g]; rfl
  have hp:=putL_of (y:=a) (hh:=PyData.keyHash W.w.params a) (t:=c.s.toks + 1) hv2 hvs
  have hlen:(putL a (PyData.keyHash W.w.params a) (.str a (c.s.toks + 1)) u2 vs).length ≤ 1000:=by
    rw [← hp.len]
    have:=putS_len (y:=a) (v:=v2) (l:=es)
    exact ln [_,_] [] [.le (.v 0) (.k 100),.le (.v 1) (.a (.v 0) (.k 1))] (.le (.v 1) (.k 1000)) (.w [1,1,1]) zr hz this
  exact set_dict S.fr ok.X N I rfl CO.set CO.over nf CO.hasD hl rfl (.head off) hlen (fun h' F' N'=>G (c.up _ h' _) h Le.up (put h' _ _ (.attrs (putS a v2 es)) F' N' ⟨_,_,rfl,hp⟩ rfl))
end
theorem lookup_bytes_bytes:typeLookup (.type "bytes") "__bytes__"=pure (some (.builtin "bytes.__bytes__")):=by rw [typeLookup_type,builtinLookup_eq_fast]; kernel_rfl
section
variable {prog:Program} {w:World} {A:Around} {E:Value→Shared→Prop} {s:Shared}
theorem bytes_new_bytes {b:Array UInt8} {t:Tok} {Q:Value→Shared→Prop} (hQ:Q (.bytes b t) s) :
    codeAny (model prog w) A (.call (.builtin "bytes.__new__") ⟨[.type "bytes",.bytes b t],[]⟩) (wants Q E) s:=by
  refine codeAny_of_tree ?_
  show wpAny _ A.in1 (do checkBuiltinCall "bytes.__new__" ⟨[.type "bytes",.bytes b t],[]⟩; again (.builtin "bytes.__new__" ⟨[.type "bytes",.bytes b t],[]⟩)) _ _ s
  refine wpAny_bind (wpAny_of_eq (F.bm_newCall _) (wpAny_pure ⟨plainId_quiet F.bm_plain _,codeAny_builtin F.bm_entry ?_⟩))
  rw [Around.under_plainId F.bm_plain _]
  have hT:s.TypeIs (.bytes b t) "bytes":=rfl
  unfold Builtin.«bytes.__new__»
  refine wpAny_bind (wpAny_of_eq (a:=true) rfl ?_)
  refine bm_if_false rfl ?_
  refine wpAny_bind (wpAny_of_eq F.bm_sub ?_)
  refine bm_if_false rfl ?_
  refine wpAny_bind (wpAny_of_eq (F.bm_bind _) ?_)
  refine wpAny_bind (wpAny_of_eq (a:=()) rfl ?_)
  refine wpAny_bind (wpAny_of_eq (a:=()) rfl ?_)
  refine bm_if_false rfl ?_
  refine wpAny_bind (wpAny_specialOf hT lookup_bytes_bytes ?_)
  refine wpAny_bind (wpAny_rule ?_)
  refine wpAny_bind (wpAny_typeOf hT ?_)
  refine bm_if_true rfl ?_
  exact wpAny_pure hQ
theorem m_bytes_of {b:Array UInt8} {t:Tok} {Q:Value→Shared→Prop} (hQ:Q (.bytes b t) s):wpAny (model prog w) A (call (.type "bytes") [.bytes b t]) Q E s:=by
  refine callType_codes (Q₁:=fun obj s₁=>s₁.TypeIs obj "bytes" ∧ Q obj s₁) F.bm_called (F.bm_typeCall _) F.entry_object_init
    (bytes_new_bytes ⟨PySem.W.typeIs_bytes _ _ _,hQ⟩) fun obj s₁ h₁=>?_
  exact ⟨h₁.1,F.args_object_init_2 obj _,object_init_meets F.bm_called.init.lookup F.bm_called.made (by decide) prog w A.in1 _ s₁ ⟨h₁.1,rfl,h₁.2⟩⟩
end
theorem cut_at:∀ {vs:List Value} {i:Nat} {y:Value},vs[i]?=some y→kl_cut vs i=some (vs.take i,y,vs.drop (i + 1))
  | [],_,_,h=>by cases h
  | x :: r,0,y,h=>by simp at h; subst h; rfl
  | x :: r,i + 1,y,h=>by
    unfold kl_cut
    rw [cut_at (by simpa using h)]
    rfl
section
variable {prog:Program} {w:World} {A:Around} {E:Value→Shared→Prop} {s:Shared} {h₀:Heap} {L D:Addr} {m:Str→Option Value} {news:List (Addr × Obj)}
end
theorem denL_dat {K:Frag} {F:List (Addr × Obj)} {ρ:List Addr}:∀ {ds:List Dat} {vs:List Value},DatAll F vs ds→All2 (Den K F ρ) (ds.map .d) vs:=by
  intro ds
  induction ds with
  | nil=>intro vs h; cases h; exact .nil
  | cons d ds ih=>intro vs h; cases h with | cons h r=>exact .cons (.a1 (.d h)) (ih r)
section
variable {W:Wd} {T:Tab} {x:Ac} {Γ:Ctx} {n:Nat} {c:Cf} {E:Value→Shared→Prop} {P:List (Addr × Obj)}
theorem valueAt_of {F:List (Addr × Obj)} {ρ:List Addr} {y:Str} {es:List (Str × SV)} {kvs:List (Str × Value)} (h:All2 (KvOK W F ρ) es kvs) :
    @Option.rec SV (fun _=>Prop) (valueAt kvs y=none) (fun v=>∃ u,valueAt kvs y=some u ∧ Den W.K F ρ v u) (lookS y es):=by
  induction h with
  | nil=>rfl
  | @cons p e l m hp hr ih =>
    have hv:valueAt (e :: m) y=bif eqS y p.1 then some e.2 else valueAt m y:=by
      unfold valueAt
      rw [List.find?_cons,eqS_dec,hp.1,eqS_comm]
      cases eqS y p.1 <;> rfl
    rw [hv,lookS_c]
    cases eqS y p.1 with
    | true=>exact ⟨e.2,rfl,hp.2⟩
    | false=>exact ih
theorem stored_of {F:List (Addr × Obj)} {ρ:List Addr} {y:Str} {v:SV} {u:Value} (hv:Den W.K F ρ v u) {es:List (Str × SV)} {kvs:List (Str × Value)} (h:All2 (KvOK W F ρ) es kvs):All2 (KvOK W F ρ) (putD y v es) (stored kvs y u):=by
  have key:(es.any fun p=>eqS p.1 y)=(kvs.any fun kv=>decide (kv.1=y)) ∧ All2 (KvOK W F ρ) (es.map fun p=>bif eqS p.1 y then (p.1,v) else p) (kvs.map fun kv=>if kv.1=y then (kv.1,u) else kv):=by
    induction h with
    | nil=>exact ⟨rfl,.nil⟩
    | @cons p e l m hp hr ih =>
      refine ⟨by rw [List.any_cons,List.any_cons,ih.1,eqS_dec,hp.1],.cons ?_ ih.2⟩
      dsimp only
      by_cases q:e.1=y
      · rw [if_pos q,eqS_iff.mpr (hp.1.symm.trans q)]; exact ⟨hp.1,hv⟩
      · rw [if_neg q,Bool.eq_false_iff.mpr fun e9=>q (hp.1.trans (eqS_iff.mp e9))]; exact hp
  unfold putD stored
  rw [key.1]
  cases kvs.any fun kv=>decide (kv.1=y) with
  | true=>rw [if_pos rfl]; exact key.2
  | false=>rw [if_neg Bool.false_ne_true]; exact h.app (.cons ⟨rfl,hv⟩ .nil)
theorem items_den (X:W.K.In x.h₀) (S:StW W x c P) {v:SV} {u:Value} {l:List SV} (hv:DV W c v u) (h:c.σ.items v=some l) {C:Prop}
    (k:∀ a vs,u=.ref a→All2 (Den W.K c.F c.ρ) l vs→(c.s.heap.IsList a (List.toArray vs) ∨ IsTup c.s.heap a (List.toArray vs))→C):C:=by
  cases v with
  | d x =>
    cases x with
    | tuple ds=>exact dat_tuple (den_d hv) fun a vs n e hm hr=>k a vs e (Option.some.inj h ▸ denL_dat hr) (.inr (S.news.isTup (S.memF hm)))
    | list ds=>exact dat_list (den_d hv) fun a vs n e hm hr=>k a vs e (Option.some.inj h ▸ denL_dat hr) (.inl (S.news.isList (S.memF hm)))
    | _=>cases h
  | obj i =>
    obtain ⟨so,e,h⟩:=Option.bind_eq_some_iff.mp h
    obtain ⟨a,e2,r2⟩:=den_obj hv
    obtain ⟨a',o,p1,r1,ok,hm⟩:=S.get e
    obtain rfl:a=a':=Option.some.inj (r2.symm.trans r1)
    cases so with
    | list l'=>obtain ⟨vs,n,rfl,hl⟩:=ok; exact k a vs e2 (Option.some.inj h ▸ hl) (.inl (S.news.isList hm))
    | dlist ds=>obtain ⟨vs,n,rfl,hl⟩:=ok; exact k a vs e2 (Option.some.inj h ▸ denL_dat hl) (.inl (S.news.isList hm))
    | _=>cases h
  | kt y i=>exact den_kt hv fun a t t' n sl e hk=>k a [_,_] e (Option.some.inj h ▸ .cons (.a1 (.d (.str _ _))) (.cons (.int _ _) .nil)) (.inr ⟨_,S.fr.keep _ _ (X _ _ hk),rfl,_,rfl⟩)
  | tup l'=>exact den_tup hv fun a vs n e hm hr=>k a vs e (Option.some.inj h ▸ hr.imp fun _ _=>.a1) (.inr (S.news.isTup (S.memF hm)))
  | lst l'=>exact den_lsC hv fun a vs n e hm hr=>k a vs e (Option.some.inj h ▸ hr.imp fun _ _=>.a1) (.inl (S.news.isList (S.memF hm)))
  | _=>cases h
theorem subs_of {sl:Expr} (h:Nat.beq (exK sl) 6=false) (o i:Value):subscripted sl false o i=operate [o,i] (getItem o i):=by
  cases sl <;> first | rfl | cases h
theorem getI_snd (ok:x.Ok W Γ n) (S:St W x c) {v v2:SV} {u u2:Value} {K:KV} {Q:Value→Shared→Prop} {value slice:Expr} (hsl:Nat.beq (exK slice) 6=false) (hv:DV W c v u) (hv2:DV W c v2 u2) (h:getI v v2 c.σ K) (G:Goes W x (DV W) c K Q) :
    wpAny W.M x.ar (subscriptTail value slice u u2) Q E c.s:=by
  have S0:=S
  refine byC fun zC zk=>?_
  obtain ⟨P,S⟩:=S
  refine zk ?_
  refine kba_turn (value':=.Name "" default) (fun _=>rfl) ?_
  rcases bite_or h with ⟨_,h⟩ | ⟨_,h⟩
  · refine byC fun zC zk=>?_
    obtain ⟨y,t,rfl,h⟩:=nS_den h hv2
    refine S.nOC h hv fun i ad e₁ e₂ so o e1 p1 r1 ho hm h₂=>?_
    subst e₁ e₂
    have h:=h₂
    obtain ⟨es,kvs,hd,hk,_,h⟩:=oDict_ok h ho
    refine nOpt_el h fun w9 e2 h=>?_
    have g:=valueAt_of hk (y:=y)
    rw [e2] at g
    obtain ⟨u9,g1,g2⟩:=g
    refine zk ?_
    exact kda_item S.news hm hd (strKind_is _ _ _ _) g1 (G.here S0 _ h g2) (subs_of hsl _ _) (fun _=>rfl)
  · refine byC fun zC zk=>?_
    obtain ⟨z,t,rfl,h⟩:=nI_den h hv2
    obtain ⟨hz,h⟩:=reqD h
    refine zk ?_
    rcases bite_or h with ⟨_,h⟩ | ⟨_,h⟩
    · refine byC fun zC zk=>?_
      obtain ⟨b,tb,rfl,h⟩:=nY_den h hv
      obtain ⟨h1,h⟩:=reqLe h
      obtain ⟨h2,h⟩:=reqLt h
      refine zk ?_
      rw [Array.length_toList] at h1 h2
      exact KBw.item_K rfl (by rw [KBw.ints_length]; exact ln [_] [] [.le (.v 0) (.k 1000)] (.le (.v 0) (.k 1099511627776)) (.w [1,1]) zr h1) hz (by rw [KBw.ints_length]; exact ln [_] [_] [.lt (.t (.v 0)) (.v 0)] (.Lt (.v 0) (.c (.v 0))) (.b (.w [1,0,1]) (.w [1,1,1])) zr h2) (fun t' k _ _=>G.here S0 k h (.int _ _)) (subs_of hsl _ _) (fun _=>rfl)
    · refine byC fun zC zk=>?_
      refine nOpt_el h fun l el h=>?_
      refine nOpt_el h fun w9 e h=>?_
      obtain ⟨hz2,h⟩:=reqD h
      refine items_den ok.X S hv el fun a vs e₁ hd hh=>?_
      subst e₁
      obtain ⟨u9,g1,g2⟩:=hd.get e
      refine zk ?_
      have hlt:z.toNat < vs.length:=(List.getElem?_eq_some_iff.mp g1).1
      rcases hh with hh | hh
      · exact item_listR hh hz (by omega) (by simpa using g1) (G.here S0 c.s.toks h g2) (subs_of hsl _ _)
      · refine item_tupleT hh (by omega) (by omega) (j:=z.toNat) ?_ g1 (G.here S0 c.s.toks h g2) (subs_of hsl _ _)
        unfold seqIndex?
        have h1:¬ z < 0:=by exact ln [] [_] [.Le (.k 0) (.v 0)] (.n (.Lt (.v 0) (.k 0))) (.w [1,1]) zr hz
        have h2:z < (vs.length:Int):=by exact ln [_] [_] [.lt (.t (.v 0)) (.v 0)] (.Lt (.v 0) (.c (.v 0))) (.b (.w [1,0,1]) (.w [1,1,1])) zr hlt
        simp [h1,h2,hz]
theorem setI_snd (S:St W x c) {v v2 v3:SV} {u u2 u3:Value} {K:Sy→Prop} {Q:Unit→Shared→Prop} (hv:DV W c v u) (hv2:DV W c v2 u2) (hv3:DV W c v3 u3) (h:setI v v2 v3 c.σ K) (G:GoesU W x c K Q) :
    wpAny W.M x.ar (setItem u u2 u3) Q E c.s:=by
  refine byC fun zC zk=>?_
  obtain ⟨P,S⟩:=S
  refine zk ?_
  rcases bite_or h with ⟨_,h⟩ | ⟨_,h⟩
  · refine byC fun zC zk=>?_
    obtain ⟨y,t,rfl,h⟩:=nS_den h hv2
    refine S.nOC h hv fun i ad e₁ e₂ so o e1 p1 r1 ho hm h₂=>?_
    subst e₁ e₂
    have h:=h₂
    obtain ⟨es,kvs,hd,hk,hal,h⟩:=oDict_ok h ho
    obtain ⟨hz,h⟩:=reqLe h
    refine S.upd e1 hal p1 fun R N off hR put=>?_
    refine zk ?_
    have hl:=hk.len
    exact kda_set S.fr N (.head off) hd (strKind_is _ _ _ _) (by rw [sizeLine_eq]; exact ln [_,_] [] [.le (.v 0) (.k 100),.eq (.v 0) (.v 1)] (.le (.v 1) (.k 16777216)) (.w [0,1,1,1]) zr hz hl) fun h' o' F' N' hd'=>let ⟨m1,m2⟩:=mkDict_ok hd' (stored_of hv3 hk); G (c.up _ h' _) h Le.up (put h' _ _ _ F' N' m1 m2)
  · refine byC fun zC zk=>?_
    obtain ⟨z,t,rfl,h⟩:=nI_den h hv2
    obtain ⟨hz,h⟩:=reqD h
    refine S.nOC h hv fun i ad e₁ e₂ so o e1 p1 r1 ho hm h₂=>?_
    subst e₁ e₂
    have h:=h₂
    refine zk ?_
    cases so with
    | ba b =>
      refine byC fun zC zk=>?_
      obtain ⟨w,tw,rfl,h⟩:=nI_den h hv3
      obtain ⟨h1,h⟩:=reqLt h
      obtain ⟨h2,h⟩:=reqLe h
      obtain ⟨h3,h⟩:=reqD h
      obtain ⟨h4,h⟩:=reqD h
      obtain rfl:o=baObj ⟨b⟩:=ho
      refine S.upd e1 rfl p1 fun R N off hR put=>?_
      refine zk ?_
      have hsz:(Array.mk b).size=b.length:=rfl
      exact m_setBa S.fr N (.head off) hz (by rw [hsz]; exact ln [_] [_] [.lt (.t (.v 0)) (.v 0)] (.Lt (.v 0) (.c (.v 0))) (.b (.w [1,0,1]) (.w [1,1,1])) zr h1) (by rw [hsz]; exact h2) h3 h4 fun h' F' N'=>G (c.up _ h' c.s.toks) h Le.up (put h' _ _ (.ba _) F' N' (show baObj _=baObj _ from congrArg baObj (Array.toList_inj.mp (by simp))) rfl)
    | list l =>
      refine byC fun zC zk=>?_
      obtain ⟨h1,h⟩:=reqLt h
      obtain ⟨h2,h⟩:=reqLe h
      obtain ⟨vs,k,rfl,hl⟩:=ho
      refine S.upd e1 rfl p1 fun R N off hR put=>?_
      refine zk ?_
      have hlen:=hl.len
      refine m_setList S.fr N (.head off) hz (by simp; exact ln [_,_] [_] [.eq (.v 0) (.v 1),.lt (.t (.v 0)) (.v 0)] (.Lt (.v 0) (.c (.v 1))) (.b (.w [1,0,1,0,1]) (.w [1,1,1,0,1])) zr hlen h1) (by omega) fun h' F' N'=>G (c.up _ h' c.s.toks) h Le.up (put h' _ _ (.list _) F' N' ⟨vs.set z.toNat u3,k,by simp,?_⟩ rfl)
      refine All2.of (by simp [hlen]) fun j a b ha hb=>?_
      rw [List.getElem?_set] at ha hb
      by_cases e:z.toNat=j
      · subst e
        rw [if_pos rfl,if_pos (by omega)] at ha hb
        cases ha; cases hb
        exact hv3
      · rw [if_neg e] at ha hb
        exact hl.both ha hb
    | _=>exact False.elim h
end
section
variable {W:Wd} {T:Tab} {x:Ac} {Γ:Ctx} {n:Nat} {c:Cf} {E:Value→Shared→Prop} {P:List (Addr × Obj)}
theorem beq_dec {α:Type} [BEq α] [LawfulBEq α] [DecidableEq α] (a b:α):(a == b)=decide (a=b):=by rw [Bool.eq_iff_iff,beq_iff_eq,decide_eq_true_iff]
noncomputable def valD:Value→Option Dat
  | .int a _=>some (.int a)
  | .str a _=>some (.str a)
  | .bytes a _=>some (.bytes a)
  | _=>none
noncomputable def eqVD (q:Dat) (y:Value):Bool:=@Option.rec Dat (fun _=>Bool) false (fun d=>eqDb d q) (valD y)
theorem eq_kinds {k:Nat} {p q:Dat} (h:eqApp k p q=true):Nat.beq (kdD p) (kdD q)=true ∧ Nat.ble (kdD p) k=true:=Bool.and_eq_true_iff.mp h
theorem kd_0 {q:Dat} (h:Nat.beq 0 (kdD q)=true):∃ z,q=.int z:=by cases q <;> first | exact ⟨_,rfl⟩ | exact tf h
theorem kd_1 {q:Dat} (h:Nat.beq 1 (kdD q)=true):∃ z,q=.str z:=by cases q <;> first | exact ⟨_,rfl⟩ | exact tf h
theorem kd_2 {q:Dat} (h:Nat.beq 2 (kdD q)=true):∃ z,q=.bytes z:=by cases q <;> first | exact ⟨_,rfl⟩ | exact tf h
theorem kd_3 {q:Dat} (h:Nat.beq 3 (kdD q)=true):∃ z,q=.bool z:=by cases q <;> first | exact ⟨_,rfl⟩ | exact tf h
theorem same_el {C:Value→Value→Dat→Dat→Prop} {F:List (Addr × Obj)} {p q:Dat} {u v:Value} {k:Nat} (h:eqApp k p q=true) (hk:k ≤ 3) (hu:DatIn F u p) (hv:DatIn F v q)
    (hi:∀ a b t t',C (.int a t) (.int b t') (.int a) (.int b)) (hs:∀ a b t t',C (.str a t) (.str b t') (.str a) (.str b)) (hy:∀ a b t t',C (.bytes a t) (.bytes b t') (.bytes a) (.bytes b)) (hb:3 ≤ k→∀ a b,C (.bool a) (.bool b) (.bool a) (.bool b)):C u v p q:=by
  obtain ⟨h1,h2⟩:=eq_kinds h
  have big:∀ {m},4 ≤ m→Nat.ble m k=true→False:=fun hm h=>Nat.lt_irrefl 3 (Nat.le_trans hm (Nat.le_trans (Nat.le_of_ble_eq_true h) hk))
  cases hu with
  | int a t=>obtain ⟨b,rfl⟩:=kd_0 h1; obtain ⟨t',rfl⟩:=dat_int hv; exact hi a b t t'
  | str a t=>obtain ⟨b,rfl⟩:=kd_1 h1; obtain ⟨t',rfl⟩:=dat_str hv; exact hs a b t t'
  | bytes a t=>obtain ⟨b,rfl⟩:=kd_2 h1; obtain ⟨t',rfl⟩:=dat_bytes hv; exact hy a b t t'
  | bool a=>obtain ⟨b,rfl⟩:=kd_3 h1; obtain rfl:=dat_bool hv; exact hb (Nat.le_of_ble_eq_true h2) a b
  | none=>exact (big (m:=4) (Nat.le_refl _) h2).elim
  | tuple=>exact (big (m:=5) (by decide) h2).elim
  | list=>exact (big (m:=6) (by decide) h2).elim
theorem gives_snd {F:List (Addr × Obj)} {p q:Dat} {u v:Value} (h:eqApp 2 p q=true) (hu:DatIn F u p) (hv:DatIn F v q):eqVD q u=eqDb p q ∧ MeetsSeq.EqGives u v (eqDb p q):=
  same_el (C:=fun u v p q=>eqVD q u=eqDb p q ∧ MeetsSeq.EqGives u v (eqDb p q)) h (by decide) hu hv (fun a b _ _=>⟨rfl,by show MeetsSeq.EqGives _ _ (decide _); rw [← beq_dec]; exact .int _ _ _ _⟩)
    (fun _ _ _ _=>⟨rfl,fun _ _ _ _ _ _ g=>wpAny_eqBool_str (by rw [eqS_dec]; exact g)⟩) (fun _ _ _ _=>⟨rfl,fun _ _ _ _ _ _ g=>eqBool_bytes g⟩) fun h=>absurd h (by decide)
theorem eq_snd {F:List (Addr × Obj)} {p q:Dat} {u v:Value} {prog:Program} {w:World} {A:Around} {E:Value→Shared→Prop} {s:Shared} {Q:Value→Shared→Prop} (h:eqApp 3 p q=true) (hu:DatIn F u p) (hv:DatIn F v q) :
    (Q (.bool (eqDb p q)) s→wpAny (model prog w) A (compareOp .Eq u v) Q E s) ∧ (Q (.bool (!eqDb p q)) s→wpAny (model prog w) A (compareOp .NotEq u v) Q E s):=
  same_el (C:=fun u v p q=>(Q (.bool (eqDb p q)) s→wpAny (model prog w) A (compareOp .Eq u v) Q E s) ∧ (Q (.bool (!eqDb p q)) s→wpAny (model prog w) A (compareOp .NotEq u v) Q E s)) h (by decide) hu hv
    (fun _ _ _ _=>⟨fun g=>PyProof.Rows.eq_int (by rw [beq_dec]; exact g),fun g=>PyProof.Rows.ne_int (by unfold bne; rw [beq_dec]; exact g)⟩)
    (fun _ _ _ _=>⟨fun g=>PyProof.Rows.eq_str (by rw [beqS]; exact g),fun g=>PyProof.Rows.ne_str (by unfold bne; rw [beqS]; exact g)⟩)
    (fun _ _ _ _=>⟨fun g=>eq_bytes (by rw [beq_dec]; exact g),fun g=>ne_bytes (by unfold bne; rw [beq_dec]; exact g)⟩)
    fun _ _ _=>⟨fun g=>eq_bool g,fun g=>ne_bool g⟩
theorem mem_snd {F:List (Addr × Obj)} {q:Dat} {v:Value} (hv:DatIn F v q) {ds:List Dat} {us:List Value} (h:ds.all (fun d=>eqApp 2 d q)=true) (hd:DatAll F us ds):us.any (eqVD q)=ds.any (fun d=>eqDb d q) ∧ ∀ y ∈ us,MeetsSeq.EqGives y v (eqVD q y):=by
  induction us generalizing ds with
  | nil=>cases hd; exact ⟨rfl,fun _ h=>nomatch h⟩
  | cons u us ih =>
    cases hd with
    | cons a r =>
      rw [List.all_cons,Bool.and_eq_true] at h
      obtain ⟨g1,g2⟩:=gives_snd h.1 a hv
      obtain ⟨i1,i2⟩:=ih h.2 r
      refine ⟨by rw [List.any_cons,List.any_cons,i1,g1],fun y hy=>?_⟩
      rcases List.mem_cons.mp hy with rfl | hy
      · rw [g1]; exact g2
      · exact i2 y hy
theorem not_sys (TO:TabOK W T) (ok:x.Ok W Γ n) {L9:List (Addr × Obj)} {h:Heap} (N:News x.h₀ x.L h L9) {a:Addr} {o:Obj} (hm:(a,o) ∈ L9):(a == sysModules)=false:=by
  rw [beq_eq_false_iff_ne]
  intro e9
  have h1:=(N _ hm).2.2
  obtain ⟨mm,hmm,_⟩:=(ok.T.seer TO.mods).mods
  obtain ⟨o9,_,_,h9,_⟩:=hmm
  rw [e9,h9] at h1
  cases h1
end
section
variable {l9:Addr} {vs9:List Value} {W:Wd} {T:Tab} {x:Ac} {Γ:Ctx} {n:Nat} {c:Cf} {E:Value→Shared→Prop} {P:List (Addr × Obj)}
noncomputable def inOp (ng:Bool):CmpOp:=bif ng then .NotIn else .In
theorem in_dict (TO:TabOK W T) (ok:x.Ok W Γ n) (S:StW W x c P) {y:Str} {t:Tok} {a:Addr} {o:Obj} {es:List (Str × SV)} {kvs:List (Str × Value)} (hm:(a,o) ∈ P ++ (c.F ++ c.J)) (hd:o.IsDictOf (strKind W.prog W.w) kvs) (hk:All2 (KvOK W c.F c.ρ) es kvs) {Q:Value→Shared→Prop} {ng:Bool} (g:∀ tk,Q (.bool (bif ng then !(lookS y es).isSome else (lookS y es).isSome)) { c.s with toks:=tk }) :
    wpAny W.M x.ar (compareOp (inOp ng) (.str y t) (.ref a)) Q E c.s:=by
  have hv:(valueAt kvs y).isSome=(lookS y es).isSome:=by
    have g:=valueAt_of hk (y:=y)
    cases e4:lookS y es with
    | none=>rw [e4] at g; rw [g]; rfl
    | some w9=>rw [e4] at g; obtain ⟨u9,g,_⟩:=g; rw [g]; rfl
  have ns:=not_sys TO ok S.news hm
  cases ng with
  | false=>exact kda_in S.news hm hd ns (strKind_is _ _ _ _) _ hv (g _)
  | true=>exact wpAny_notIn_of (strKind_is _ _ _ _) ns (kda_dict S.news hm hd).mapOf (by show Q (.bool (!(valueAt kvs y).isSome)) _; rw [hv]; exact g _)
theorem in_list {F:List (Addr × Obj)} (hl:c.s.heap.IsList l9 (List.toArray vs9)) {d:Dat} {u:Value} {ds:List Dat} (ha:DatIn F u d) (hd:DatAll F vs9 ds) (h1:ds.all (fun e=>eqApp 2 e d)=true) {Q:Value→Shared→Prop} {ng:Bool} (g:∀ tk,Q (.bool (bif ng then !(ds.any fun e=>eqDb e d) else ds.any fun e=>eqDb e d)) { c.s with toks:=tk }) :
    wpAny W.M x.ar (compareOp (inOp ng) u (.ref l9)) Q E c.s:=by
  obtain ⟨g1,g2⟩:=mem_snd ha h1 hd
  cases ng with
  | false=>exact SeqInW.in_listW (eqVD d) (fun z hz=>g2 z (by simpa using hz)) hl (by simpa [g1] using g c.s.toks)
  | true=>exact SeqInW.notIn_listW (eqVD d) (fun z hz=>g2 z (by simpa using hz)) hl (by simpa [g1] using g c.s.toks)
theorem in_snd (TO:TabOK W T) (ok:x.Ok W Γ n) (S:StW W x c P) {a b:SV} {u v:Value} {k:Bool→Prop} {ng:Bool} {Q:Value→Shared→Prop} (ha:DV W c a u) (hb:DV W c b v) (h:inP c.σ a b k) (g:∀ r tk,k r→Q (.bool (bif ng then !r else r)) { c.s with toks:=tk }):wpAny W.M x.ar (compareOp (inOp ng) u v) Q E c.s:=
  nOpt_el h fun d e h=>by
    cases toDat1_eq e
    have ha:=den_d ha
    exact (bite_or h).elim (fun h=>S.nO_el (C:=fun v=>wpAny W.M x.ar (compareOp (inOp ng) u v) Q E c.s) h.2 hb fun i so ad o _ _ ho hm h=>by
        refine byC fun zC zk=>?_
        obtain ⟨es,kvs,hd,hk,_,h⟩:=oDict_ok h ho
        obtain ⟨y,rfl,h⟩:=dS_iff h
        obtain ⟨t,rfl⟩:=dat_str ha
        refine zk ?_
        exact in_dict TO ok S hm hd hk fun tk=>g _ tk h)
      fun h=>S.nLd_el (C:=fun v=>wpAny W.M x.ar (compareOp (inOp ng) u v) Q E c.s) h.2 hb fun ds l vs q hd hm h=>in_list (S.news.isList hm) ha hd (req1 h).1 fun tk=>g _ tk (req1 h).2
theorem eqNil {prog:Program} {w:World} {A:Around} {vs ws:List Value} {n k:Nat} {d l:Addr} {h₀:Heap} {L:Addr} {news:List (Addr × Obj)} {s:Shared} {Q:Value→Shared→Prop} (N:News h₀ L s.heap news) (hd:(d,listOf (List.toArray vs) n) ∈ news) (hl:(l,listOf (List.toArray ws) k) ∈ news) (hw:ws=[]) (hu:A.units < cLine) (h:Q (.bool vs.isEmpty) s) :
    wpAny (model prog w) A (compareOp .Eq (.ref d) (.ref l)) Q E s:=by
  subst hw
  cases vs with
  | nil=>exact SeqAt.eq_listAt (items:=#[]) (items2:=#[]) (e:=fun _=>true) ⟨_,(N _ hd).1,rfl,n,rfl⟩ ⟨_,(N _ hl).1,rfl,k,rfl⟩ rfl hu (fun j h1=>absurd h1 (Nat.not_lt_zero _)) h
  | cons v r=>exact SeqAt.eq_list_lengthsAt (items:=List.toArray (v :: r)) (items2:=#[]) ⟨_,(N _ hd).1,rfl,n,rfl⟩ ⟨_,(N _ hl).1,rfl,k,rfl⟩ (by simp) hu h
theorem ktP_el {C:Value→Prop} {v:SV} {u:Value} {k:Str→Int→Prop} (h:ktP v k) (hd:DV W c v u) (f:∀ y i a t u' n sl,W.K.lookup a=some ⟨.type "tuple",none,.seq #[.str y t,.int i u'] n,sl⟩→k y i→C (.ref a)):C u:=by
  cases v with
  | kt y i=>cases hd with | a1 hd=>cases hd with | kt hk=>exact f _ _ _ _ _ _ _ hk h
  | _=>exact False.elim h
theorem pair_el {C:List Value→Prop} {F:List (Addr × Obj)} {l:List Dat} {vs:List Value} {k:Str→Int→Prop} (h:two l fun p q=>dS p fun z=>dI q (k z)) (hd:DatAll F vs l) (f:∀ z j t u,k z j→C [.str z t,.int j u]):C vs:=by
  obtain ⟨p,q,rfl,h⟩:=two_iff h
  obtain ⟨z,rfl,h⟩:=dS_iff h
  obtain ⟨j,rfl,h⟩:=dI_iff h
  exact dA_cons hd fun v r d1 hr=>dA_cons (C:=fun r=>C (v :: r)) hr fun v2 r d2 hr=>dA_nil (C:=fun r=>C (v :: v2 :: r)) hr (let ⟨_,e1⟩:=dat_str d1; let ⟨_,e2⟩:=dat_int d2; e1 ▸ e2 ▸ f _ _ _ _ h)
theorem tup2C {C:Value→Prop} {b:SV} {v:Value} {k:Str→Int→Prop} (h:nOpt (toDat1 b) fun d=>dT d fun l=>two l fun p q=>dS p fun z=>dI q (k z)) (hb:DV W c b v) (f:∀ a z j t u n,(a,tupO [.str z t,.int j u] n) ∈ c.F→k z j→C (.ref a)):C v:=by
  refine nOpt_el h fun d e h=>?_
  cases toDat1_eq e
  obtain ⟨l,rfl,h⟩:=dT_iff h
  cases den_d hb with | @tuple a vs n _ hm hr =>
  exact pair_el (C:=fun vs=>(a,tupO vs n) ∈ c.F→C (.ref a)) h hr (fun z j t u hk hm=>f a z j t u n hm hk) hm
theorem m_ne_tupG {prog:Program} {w:World} {A:Around} {a b:Addr} {x y:Str} {i j:Int} {t u t' u':Tok} {s:Shared} {Q:Value→Shared→Prop} (ha:IsTup s.heap a #[.str x t,.int i u]) (hb:IsTup s.heap b #[.str y t',.int j u']) (hx:PyData.strOk x=true) (hy:PyData.strOk y=true) (hu:A.units + 64 < cLine)
    (h:Q (.bool (!(bif eqS x y then decide (i=j) else false))) s):wpAny (model prog w) A (compareOp .NotEq (.ref a) (.ref b)) Q E s:=by
  refine byC fun zC zk=>?_
  obtain ⟨o,ho,hc,k,hd⟩:=ha
  obtain ⟨o',ho',hc',k',hd'⟩:=hb
  refine zk ?_
  refine ne_dataH (Reads.tuple ho hc hd (.cons (.str x t) (.cons (.int i u) .nil))) (Reads.tuple ho' hc' hd' (.cons (.str y t') (.cons (.int j u') .nil))) (by simp [SeqAt.shaped,PyData.canLay0,PyData.canLayAll0,PyData.depth,PyData.depthAll,hx]) (by simp [SeqAt.shaped,PyData.canLay0,PyData.canLayAll0,PyData.depth,PyData.depthAll,hy]) hu ?_
  simp only [PyData.eqv,PyData.eqvAll,Bool.and_true]
  rw [beqS,beq_dec i j]
  cases e9:eqS x y with
  | true=>rw [e9] at h; exact h
  | false=>rw [e9] at h; exact h
theorem sameD_snd {A:Around} {s:Shared} {F:List (Addr × Obj)} {ρ:List Addr} {fs es:List (Str × SV)} {ks ls:List (Str × Value)} {k:Prop} (hf:All2 (KvOK W F ρ) fs ks) (he:All2 (KvOK W F ρ) es ls) (h:sameD fs es k):k ∧ KeqHits A s ks ls true:=by
  induction he with
  | nil=>exact ⟨h,.nil⟩
  | @cons p e l m hp hr ih =>
    refine byC fun zC zk=>?_
    refine nOpt_el (h:nOpt (lookS p.1 fs) _) fun w e1 h=>?_
    obtain ⟨a,t,e2,h⟩:=nY_den h hp.2
    have g:=valueAt_of hf (y:=p.1)
    rw [e1] at g
    obtain ⟨u9,g1,g2⟩:=g
    obtain ⟨b,t',rfl,h⟩:=nY_den h g2
    obtain ⟨hab,h⟩:=reqD h
    obtain ⟨hk,hh⟩:=ih h
    obtain ⟨q,v⟩:=e
    obtain rfl:q=p.1:=hp.1
    obtain rfl:v=.bytes a t:=e2
    refine zk ?_
    exact ⟨hk,.hit (e:=true) (b:=true) g1 (fun _ _ _ _ h=>eqBool_bytes (by rw [decide_eq_true hab]; exact h)) hh⟩
theorem isNone_eq {v:SV} (h:isNone v=true):v=.d .none:=by
  cases v with
  | d x=>cases x with
    | none=>rfl
    | _=>exact tf h
  | _=>exact tf h
noncomputable def vN (u:Value):Bool:=match u with
  | .none=>true
  | _=>false
theorem dat_vN {F:List (Addr × Obj)} {u:Value} {d:Dat} (h:DatIn F u d):isNone (.d d)=vN u:=by cases h <;> rfl
theorem den1_vN {K:Frag} {F:List (Addr × Obj)} {ρ:List Addr} {v:SV} {u:Value} (h:Den1 K F ρ v u):isNone v=vN u:=by
  cases h with
  | d h=>exact dat_vN h
  | bi b=>cases b <;> rfl
  | _=>rfl
theorem den_vN {K:Frag} {F:List (Addr × Obj)} {ρ:List Addr} {v:SV} {u:Value} (h:Den K F ρ v u):isNone v=vN u:=by
  cases h with
  | a1 h=>exact den1_vN h
  | _=>rfl
theorem isNone_den {v:SV} {u:Value} (h:DV W c v u):(isNone v=true→u=.none) ∧ (isNone v=false→u ≠ .none):=
  ⟨fun e=>by cases isNone_eq e; cases den_d h; rfl,fun e q=>by rw [den_vN h,q] at e; exact ft e⟩
theorem eqP_iff {a b:SV} {k:Bool→Prop} {u v:Value} (h:eqP a b k) (ha:DV W c a u) (hb:DV W c b v):∃ p q,DatIn c.F u p ∧ DatIn c.F v q ∧ eqApp 3 p q=true ∧ k (eqDb p q):=by
  refine nOpt_el h fun p e h=>?_
  refine nOpt_el h fun q e2 h=>?_
  cases toDat1_eq e
  cases toDat1_eq e2
  obtain ⟨h1,h⟩:=req1 h
  exact ⟨p,q,den_d ha,den_d hb,h1,h⟩
theorem is_snd {a b:SV} {u v:Value} {k:Bool→Prop} {Q:Value→Shared→Prop} (ha:DV W c a u) (hb:DV W c b v) (h1:isNone b=true) (g:∀ r,k r→Q (.bool r) c.s):(k (isNone a)→wpAny W.M x.ar (compareOp .Is u v) Q E c.s) ∧ (k (!isNone a)→wpAny W.M x.ar (compareOp .IsNot u v) Q E c.s):=by
  cases (isNone_den hb).1 h1
  cases e:isNone a with
  | true=>cases (isNone_den ha).1 e; exact ⟨fun h=>is_none_none (g _ h),fun h=>isnot_none_none (g _ h)⟩
  | false=>exact ⟨fun h=>is_none_ne ((isNone_den ha).2 e) (g _ h),fun h=>isnot_none_ne ((isNone_den ha).2 e) (g _ h)⟩
theorem num2C {C:Value→Value→Prop} {a b:SV} {u v:Value} {k:Int→Int→Prop} (h:nI a fun y=>nI b (k y)) (ha:DV W c a u) (hb:DV W c b v) (f:∀ y t z t',k y z→C (.int y t) (.int z t')):C u v:=
  nI_el (C:=fun u=>C u v) h ha fun y t h=>nI_el (C:=fun v=>C (.int y t) v) h hb fun z t' h=>f y t z t' h
theorem eqs_snd (hu:x.un < cLine) (S:StW W x c P) {a b:SV} {u v:Value} {k:Bool→Prop} {Q:Value→Shared→Prop} (ha:DV W c a u) (hb:DV W c b v) (h:cmpV c.σ .Eq a b k) (g:∀ r,k r→Q (.bool r) c.s):wpAny W.M x.ar (compareOp .Eq u v) Q E c.s:=
  (bite_or h).elim (fun h=>S.nDl_el (C:=fun u=>wpAny W.M x.ar (compareOp .Eq u v) Q E c.s) (k:=fun _ ds=>Mine.nO c.σ b fun _ so2=>oDl so2 fun es=>req es.isEmpty (k ds.isEmpty)) h.2 ha fun i ds ad vs n _ _ d1 hm h=>S.nDl_el (C:=fun v=>wpAny W.M x.ar (compareOp .Eq (.ref ad) v) Q E c.s) (k:=fun _ es=>req es.isEmpty (k ds.isEmpty)) h hb fun i2 es ad2 ws n2 _ _ d2 hm2 h=>by
    have he:=List.isEmpty_iff.mp (req1 h).1
    subst he
    refine eqNil S.news hm hm2 (by cases d2; rfl) hu ?_
    have e:vs.isEmpty=ds.isEmpty:=by cases d1 <;> rfl
    rw [e]; exact g _ (req1 h).2)
  fun h=>by
    obtain ⟨p,q,d1,d2,h1,h⟩:=eqP_iff h.2 ha hb
    exact (eq_snd h1 d1 d2).1 (g _ h)
theorem nes_kt (ok:x.Ok W Γ n) (hu:x.un + 64 < cLine) (S:StW W x c P) {a b:SV} {u v:Value} {k:Bool→Prop} {Q:Value→Shared→Prop} (ha:DV W c a u) (hb:DV W c b v) (h:ktP a fun y i=>nOpt (toDat1 b) fun d=>dT d fun l=>two l fun p q=>dS p fun z=>dI q fun j=>req (PyData.strOk y) (req (PyData.strOk z) (k (!(bif eqS y z then decide (i=j) else false))))) (g:∀ r,k r→Q (.bool r) c.s):wpAny W.M x.ar (compareOp .NotEq u v) Q E c.s:=
  ktP_el (C:=fun u=>wpAny W.M x.ar (compareOp .NotEq u v) Q E c.s) h ha fun y i a' t u' n' sl hk h =>
    tup2C (C:=fun v=>wpAny W.M x.ar (compareOp .NotEq (.ref a') v) Q E c.s) (k:=fun z j=>req (PyData.strOk y) (req (PyData.strOk z) (k (!(bif eqS y z then decide (i=j) else false))))) h hb fun a2 z j t2 u2 n2 hm h =>
    m_ne_tupG ⟨_,S.fr.keep _ _ (ok.X _ _ hk),rfl,_,rfl⟩ (S.news.isTup (S.memF hm)) (req1 h).1 (req1 (req1 h).2).1 hu (g _ (req1 (req1 h).2).2)
theorem nes_dict (TO:TabOK W T) (ok:x.Ok W Γ n) (hu:x.un < cLine) (S:StW W x c P) {a b:SV} {u v:Value} {k:Bool→Prop} {Q:Value→Shared→Prop} (ha:DV W c a u) (hb:DV W c b v) (h:nO c.σ a fun _ so=>oDict so fun es=>nO c.σ b fun _ so2=>oDict so2 fun es2=>req (Nat.beq es.length es2.length) (sameD es2 es (k false))) (g:∀ r,k r→Q (.bool r) c.s):wpAny W.M x.ar (compareOp .NotEq u v) Q E c.s:=
  S.nO_el (C:=fun u=>wpAny W.M x.ar (compareOp .NotEq u v) Q E c.s) h ha fun i so ad o _ _ ho hm h=>by
    obtain ⟨es,kvs,hd,hk,_,h⟩:=oDict_ok h ho
    refine S.nO_el (C:=fun v=>wpAny W.M x.ar (compareOp .NotEq (.ref ad) v) Q E c.s) h hb fun i2 so2 ad2 o2 _ _ ho2 hm2 h=>?_
    obtain ⟨es2,kvs2,hd2,hk2,_,h⟩:=oDict_ok h ho2
    have h1:=reqEq h
    have h2:=sameD_snd (A:=x.ar.in1) (s:=c.s) hk2 hk h1.2
    exact kne_pairs S.news hm hm2 hd hd2 (not_sys TO ok S.news hm) (not_sys TO ok S.news hm2) (by rw [← hk.len,← hk2.len,h1.1]) hu h2.2 (g _ h2.1)
theorem cmp_snd (TO:TabOK W T) (ok:x.Ok W Γ n) (S:St W x c) {op:CmpOp} {a b:SV} {u v:Value} {k:Bool→Prop} {Q:Value→Shared→Prop} (ha:DV W c a u) (hb:DV W c b v) (h:cmpV c.σ op a b k) (g:∀ r tk,k r→Q (.bool r) { c.s with toks:=tk }) :
    wpAny W.M x.ar (compareOp op u v) Q E c.s:=by
  obtain ⟨P,S⟩:=S
  have g0:∀ r,k r→Q (.bool r) c.s:=fun r=>g r c.s.toks
  have hu:x.un + 64 < cLine:=Nat.lt_of_le_of_lt (by exact ln [_,_] [] [] (.le (.a (.v 0) (.k 64)) (.a (.a (.v 0) (.m 16 (.v 1))) (.k 320))) (.w [1]) zr) ok.un
  have hu0:x.un < cLine:=Nat.lt_of_le_of_lt (Nat.le_add_right _ _) hu
  cases op with
  | In=>exact in_snd (ng:=false) TO ok S ha hb h g
  | NotIn=>exact in_snd (ng:=true) TO ok S ha hb (h:inP c.σ a b fun r=>k (!r)) fun r=>g (!r)
  | Is=>exact (is_snd ha hb (req1 h).1 g0).1 (req1 h).2
  | IsNot=>exact (is_snd ha hb (req1 h).1 g0).2 (req1 h).2
  | Lt=>exact num2C (C:=fun u v=>wpAny W.M x.ar (compareOp .Lt u v) Q E c.s) h ha hb fun _ _ _ _ h=>PyProof.Rows.lt_int (g0 _ h)
  | Gt=>exact num2C (C:=fun u v=>wpAny W.M x.ar (compareOp .Gt u v) Q E c.s) h ha hb fun _ _ _ _ h=>PyProof.Rows.gt_int (g0 _ h)
  | LtE=>exact num2C (C:=fun u v=>wpAny W.M x.ar (compareOp .LtE u v) Q E c.s) h ha hb fun _ _ _ _ h=>PyProof.Rows.le_int (g0 _ h)
  | GtE=>exact num2C (C:=fun u v=>wpAny W.M x.ar (compareOp .GtE u v) Q E c.s) h ha hb fun _ _ _ _ h=>PyProof.Rows.ge_int (g0 _ h)
  | Eq=>exact eqs_snd hu0 S ha hb h g0
  | NotEq=>exact (bite_or h).elim (fun h=>nes_kt ok hu S ha hb h.2 g0) fun h=>(bite_or h.2).elim (fun h=>nes_dict TO ok hu0 S ha hb h.2 g0) fun h=>let ⟨p,q,d1,d2,h1,h⟩:=eqP_iff h.2 ha hb; (eq_snd h1 d1 d2).2 (g0 _ h)
end
theorem slot_bytes_join:Slot "bytes" "join" "bytes.join":=
  .of (owner:="bytes") (n:="join") (by rw [typeLookup_type,builtinLookup_eq_fast]; kernel_rfl) (by decide +kernel) (by decide +kernel) (by decide +kernel)
    (by first | exact .inl (by decide +kernel) | exact .inr (by decide +kernel)) (by rw [isSubtype_type]; kernel_rfl)
theorem type_bytes_join:typeOf (.builtin "bytes.join")=pure (.type "method_descriptor"):=by show builtinType _=_; rw [builtinType_eq_fast]; kernel_rfl
theorem entry_bytes_join:entryFor table "bytes.join"=some Builtin.«bytes.join»:=entryFor_of_tree (by kernel_rfl)
theorem args_bytes_join (a b:Value):argsOk "bytes.join" ⟨[a,b],[]⟩:=by
  unfold argsOk; rw [signature?_of (id:="bytes.join") (n:=['n','i','o','j']) (o:=['s','e','t','y','b']) (by kernel_rfl) FB.owner_bytes]; kernel_rfl
theorem take_eq {id:String} {b:Array UInt8} {t:Tok}:Builtin.Bytes.takeBufferQuiet? id (.bytes b t) 0=pure (some (b,none)):=by
  unfold Builtin.Bytes.takeBufferQuiet? Builtin.Bytes.takeBuffer?
  have e:Builtin.Bytes.buffer? id (.bytes b t) (full:=(0:Int) == Builtin.Bytes.fullReadOnly)=pure (some b):=by
    unfold Builtin.Bytes.buffer?
    rw [KBy.special_eq KBy.look_buffer,KBy.own_buffer,KBy.own_release]
    kernel_rfl
  rw [KBy.special_eq KBy.look_buffer,KBy.own_buffer,e]
  rfl
theorem forIn2 {β:Type} (f:Nat→β→Sem (ForInStep β)) (z:β):forIn (m:=Sem) [:2] z f=(f 0 z >>= fun r=>match r with | .done b=>pure b | .yield b=>(f 1 b >>= fun r=>match r with | .done b=>pure b | .yield b=>pure b)):=by
  rw [Std.Legacy.Range.forIn_eq_forIn_range']
  rfl
section
variable {prog:Program} {w:World} {A:Around} {E:Value→Shared→Prop} {s:Shared}
theorem m_encode {x:Str} {b:Array UInt8} {t u:Tok} {Q:Value→Shared→Prop} (he:∀ t u,Builtin.«str.encode» ⟨[.str x t,.str (Str.ofString "ascii") u],[]⟩=(mkBytes b >>= fun v=>ret v)) (hz:b.size ≤ 1000)
    (h:∀ t',Q (.bytes b t') { s with toks:=s.toks + 1 }):wpAny (model prog w) A (call (.builtin "str.encode") [.str x t,.str (Str.ofString "ascii") u]) Q E s:=by
  refine wpAny_call (codeAny_call_builtin F.slot_str_encode.plain F.entry_str_encode (F.slot_str_encode.check _ _ _ _ _ _ _ _ (typeIs_str _ _ _) (F.args_str_encode_2 _ _) ?_))
  rw [he]
  exact wpAny_bind (wpAny_mkBytes (wpAny_pure (h _)))
theorem gm_join {M:Model} {b:Array UInt8} {t:Tok} {pl:Sem Bool} {Q:Value × List Value→Shared→Prop} (h:Q (.builtin "bytes.join",[.bytes b t]) s):wpAny M A (getMethod (.bytes b t) "join" pl) Q E s:=by
  with_reducible exact KBd.method_of (.bytes b t) (typeIs_bytes _ _ _) slot_bytes_join type_bytes_join KBd.noRef h
theorem gm_encode {M:Model} {x:Str} {t:Tok} {pl:Sem Bool} {Q:Value × List Value→Shared→Prop} (h:Q (.builtin "str.encode",[.str x t]) s):wpAny M A (getMethod (.str x t) "encode" pl) Q E s:=by
  with_reducible exact getMethod_builtin (typeIs_str _ _ _) F.plainAttrs_str F.slot_str_encode F.type_str_encode (fun _ e=>nomatch e) h
theorem m_letGo1 {v:Value} {keep:List Value} {Q:Unit→Shared→Prop} (h:Q () s):wpAny (model prog w) A (letGo [v] keep) Q E s:=by
  unfold letGo
  refine wpAny_bind (wpAny_holding (wpAny_point ?_))
  unfold letGo
  exact wpAny_pure h
theorem m_join2 {l:Addr} {b c:Array UInt8} {t t1 t2:Tok} {Q:Value→Shared→Prop} (hl:s.heap.IsList l #[.bytes b t1,.bytes c t2]) (hz:b.size + c.size ≤ 1000)
    (h:∀ t' k,Q (.bytes (b ++ c) t') { s with toks:=k }):wpAny (model prog w) A (call (.builtin "bytes.join") [.bytes #[] t,.ref l]) Q E s:=by
  refine wpAny_call (codeAny_call_builtin slot_bytes_join.plain entry_bytes_join (slot_bytes_join.check _ _ _ _ _ _ _ _ (typeIs_bytes _ _ _) (args_bytes_join _ _) ?_))
  refine byC fun zC zk=>?_
  obtain ⟨o,ho,hc,n,hd⟩:=hl
  refine zk ?_
  have hs:∀ {Q':Option (Array Value)→Shared→Prop} {E':Value→Shared→Prop} {A':Around} {tk:Nat},Q' (some #[.bytes b t1,.bytes c t2]) { s with toks:=tk }→wpAny (model prog w) A' (seqItems? (.ref l)) Q' E' { s with toks:=tk }:=fun hq=>by
    unfold seqItems?
    refine wpAny_bind (wpAny_load ho ?_)
    rw [hd]
    exact wpAny_pure hq
  have hs0:∀ {Q':Option (Array Value)→Shared→Prop} {E':Value→Shared→Prop} {A':Around},Q' (some #[.bytes b t1,.bytes c t2]) s→wpAny (model prog w) A' (seqItems? (.ref l)) Q' E' s:=fun hq=>hs (tk:=s.toks) hq
  unfold Builtin.«bytes.join» Builtin.Bytes.joinM
  refine wpAny_bind (wpAny_of_eq (a:=(.bytes #[] t,.ref l)) rfl ?_)
  refine wpAny_bind ?_
  show wpAny _ _ (Builtin.Bytes.joinItems (.ref l)) _ _ _
  unfold Builtin.Bytes.joinItems
  refine wpAny_bind (wpAny_typeOf (T:="list") ⟨o,ho,hc⟩ ?_)
  refine wpAny_pure ?_
  refine wpAny_bind (hs0 ?_)
  refine bm_if_true rfl ?_
  show wpAny _ _ (forIn (m:=Sem) [:2] _ _ >>= _) _ _ _
  rw [forIn2]
  refine wpAny_bind (wpAny_bind ?_)
  refine wpAny_bind (hs0 ?_)
  refine bm_if_false rfl ?_
  refine wpAny_bind (wpAny_holding ?_)
  show wpAny _ _ (Builtin.Bytes.takeBufferQuiet? _ (.bytes b t1) 0) _ _ _
  rw [take_eq]
  refine wpAny_pure ?_
  refine wpAny_bind (hs0 ?_)
  refine bm_if_false rfl ?_
  refine wpAny_pure ?_
  refine wpAny_bind ?_
  refine wpAny_bind (hs0 ?_)
  refine bm_if_false rfl ?_
  refine wpAny_bind (wpAny_holding ?_)
  show wpAny _ _ (Builtin.Bytes.takeBufferQuiet? _ (.bytes c t2) 0) _ _ _
  rw [take_eq]
  refine wpAny_pure ?_
  refine wpAny_bind (hs0 ?_)
  refine bm_if_false rfl ?_
  refine wpAny_pure ?_
  refine wpAny_pure ?_
  refine wpAny_bind (wpAny_of_eq (a:=#[]) rfl ?_)
  refine bm_if_false ?_ ?_
  · refine KBy.tooLong_not ?_
    simp
    exact ln [_,_] [] [.le (.a (.v 0) (.v 1)) (.k 1000)] (.le (.a (.v 0) (.v 1)) (.k 16777216)) (.w [1,1]) zr hz
  have ej:Builtin.Bytes.joined #[] ((#[].push b).push c).toList=b ++ c:=by
    show ((#[] ++ b) ++ #[]) ++ c=b ++ c
    rw [Array.empty_append,Array.append_empty]
  rw [ej]
  have en:Builtin.Bytes.Kind.bytes.new (b ++ c)=mkBytes (b ++ c):=rfl
  rw [en]
  refine wpAny_bind (wpAny_mkBytes ?_)
  refine wpAny_bind (wpAny_holding (wpAny_point ?_))
  refine wpAny_bind ?_
  show wpAny _ _ (Builtin.Bytes.joinLetGo [(.bytes b t1,none),(.bytes c t2,none)] _) _ _ _
  show wpAny _ _ (letGo [.bytes b t1] _ >>= _) _ _ _
  refine wpAny_bind (m_letGo1 ?_)
  show wpAny _ _ (letGo [.bytes c t2] _ >>= _) _ _ _
  refine wpAny_bind (m_letGo1 ?_)
  refine wpAny_pure ?_
  exact wpAny_pure (h _ _)
end
section
variable {prog:Program} {w:World} {A:Around} {E:Value→Shared→Prop} {s:Shared} {h₀:Heap} {L:Addr} {m:Str→Option Value} {news:List (Addr × Obj)}
theorem getAttrQ_miss_list {a:Addr} {o:Obj} {xs:Array Value} {k:Nat} {name:Str} {Q:Option Value→Shared→Prop}
    (hx:s.heap.get? a=some o) (hc:o.cls=.type "list") (hdat:o.data=.seq xs k) (hd:o.dict=none) (hmiss:typeLookup (.type "list") name=pure none) (hname:(["__module__","__name__","__qualname__","__doc__","__annotations__"]:List Str).contains name=false) (hA:A.handled=none)
    (h:∀ h' tk e,Heap.NewExcOf s.heap h' e "AttributeError"→Q none { s with heap:=h',toks:=tk }) (hsz:name.length + 100 ≤ sizeLine:=by size_fits) :
    wpAny (model prog w) A (getAttr? (.ref a) name) Q E s:=by
  obtain ⟨c,dct,dat,sl⟩:=o
  simp only at hc hdat hd
  subst hc hdat hd
  obtain ⟨hp,g,d,tk,os⟩:=s
  have hT:∀ tk',(⟨hp,g,d,tk',os⟩:Shared).TypeIs (.ref a) "list":=fun _=>⟨_,hx,rfl⟩
  have f1:=sub_AttributeError
  have f3:=F.slot_list_getattribute.lookup
  have f4:=F.slot_list_getattribute.bind (.ref a)
  have f5:=am_list_getattr_none
  unfold getAttr? getAttrBy? getAttrBy
  repeat (any_goals (first | assumption | exact hT _ | ((with_reducible show wpAny _ _ (call (Value.builtin "list.__getattribute__") _ _) _ _ _); refine call_meets F.slot_list_getattribute (hT _) am_entry_list_getattribute (F.args_list_getattribute_2 _ _) (meets_getattribute_miss_list a xs k sl name _ hmiss hname hsz) ⟨hx,hA,fun h' tk' e hx'=>?_⟩) | wp_step))
  obtain ⟨t',u',he⟩:=hx'.there
  show wpAny _ _ (getattributeRaised _ _ _ _ _ _ _) _ _ _
  unfold getattributeRaised
  repeat (any_goals (first | assumption | wp_step))
  exact h _ _ _ hx'.of
theorem entry_dict_update_loop:entryFor table "dict.update.loop"=some Builtin.«dict.update.loop»:=entryFor_of_tree (by kernel_rfl)
theorem plain_dict_update_loop:plainId "dict.update.loop"=true:=by decide +kernel
theorem dict_loop_item {d I l q:Addr} {i j:Nat} {items:Array Value} {k:Str} {t:Tok} {v:Value} {kvs:List (Str × Value)} {R:Result→Shared→Prop}
    (hit:s.heap.IsListIter I l i) (hl:s.heap.IsList l items) (hx:items[i]?=some (.ref q)) (hq:s.heap.IsTuple q #[.str k t,v]) (hd:s.heap.DictOf (strKind prog w) d kvs) (hs:kvs.length ≤ sizeLine)
    (h1:d ≠ I) (h4:q ≠ I)
    (h:∀ h' tk,h'.IsListIter I l (i + 1)→h'.DictOf (strKind prog w) d (stored kvs k v)→(∀ b,b ≠ d→b ≠ I→h'.get? b=s.heap.get? b) →
      codeAny (model prog w) A (.builtin "dict.update.loop" ⟨[.ref d,.ref I,.int (j + 1) 0,.none],[]⟩) R { s with heap:=h',toks:=tk }) :
    codeAny (model prog w) A (.builtin "dict.update.loop" ⟨[.ref d,.ref I,.int j 0,.none],[]⟩) R s:=by
  refine codeAny_builtin entry_dict_update_loop ?_
  rw [Around.under_plainId plain_dict_update_loop _]
  show wpAny _ A.in1 (pyNext (.ref I) >>= _) _ _ s
  refine wpAny_bind (wpAny_pyNext_list_item hit hl hx fun h' hit' hsb=>?_)
  have hq':h'.IsTuple q #[.str k t,v]:=hq.at fun o e=>(hsb.2 q h4).trans e
  have hd':h'.DictOf (strKind prog w) d kvs:=by
    refine byC fun zC zk=>?_
    obtain ⟨o,es,ep,ho,r⟩:=hd
    refine zk ?_
    exact ⟨o,es,ep,(hsb.2 d h1).trans ho,r⟩
  show wpAny _ A.in1 (holding [Value.ref q] _ >>= _) _ _ _
  refine wpAny_bind (wpAny_holding ?_)
  refine byC fun zC zk=>?_
  obtain ⟨o,ho,hc,n,hdat⟩:=hq'
  refine zk ?_
  have hT:Shared.TypeIs { s with heap:=h' } (.ref q) "tuple":=⟨o,ho,hc⟩
  refine wpAny_bind (wpAny_tryCatch ?_)
  unfold Builtin.Dict.pairItems
  refine wpAny_bind (wpAny_typeOf hT ?_)
  rw [if_pos (by decide)]
  refine wpAny_bind (wpAny_seqItems ho hdat (wpAny_pure ?_))
  show wpAny _ _ (holding [Value.str k t,v] (dictSet d (.str k t) v)) _ _ _
  refine wpAny_holding ?_
  refine wpAny_dictSet_pairs (knd:=strKind prog w) (strKind_is prog w k t) hd' (fun h'' hd'' hsb'=>?_) hs
  show wpAny _ _ (again _) _ _ _
  refine wpAny_pure ⟨plainId_quiet plain_dict_update_loop _,h h'' _ ?_ hd'' fun b hb1 hb2=>(hsb'.2 b hb1).trans (hsb.2 b hb2)⟩
  refine byC fun zC zk=>?_
  obtain ⟨oI,hoI,r⟩:=hit'
  refine zk ?_
  exact ⟨oI,(hsb'.2 I (Ne.symm h1)).trans hoI,r⟩
theorem m_dict_pairs {D q0 q1:Addr} {k0 k1:Str} {t0 t1:Tok} {v0 v1:Value} {n n0 n1:Nat} {T:List (Addr × Obj)} {Q:Value→Shared→Prop} (F₀:Fr h₀ L s.heap m) (N:News h₀ L s.heap T) (hbig:sysModules < h₀.objs.size) (hh:A.handled=none)
    (hD:(D,{ cls:=.type "list",data:=.seq #[.ref q0,.ref q1] n }) ∈ T) (h0:(q0,tupObj [.str k0 t0,v0] n0) ∈ T) (h1:(q1,tupObj [.str k1 t1,v1] n1) ∈ T) (hne:k0 ≠ k1)
    (k:∀ d o h' tk,Fr h₀ L h' m→News h₀ L h' ((d,o) :: T)→(∀ p ∈ T,@LT.lt Nat _ p.1 d)→(d == sysModules)=false→o.IsDictOf (strKind prog w) [(k0,v0),(k1,v1)]→Q (.ref d) { s with heap:=h',toks:=tk }) :
    wpAny (model prog w) A (call (.type "dict") [.ref D]) Q E s:=by
  have hDg:=(N _ hD).1
  have hsz:∀ p ∈ T,@LT.lt Nat _ p.1 s.heap.objs.size:=fun p hp=>Heap.lt_size (N p hp).1
  have N1:=News.push F₀ N { cls:=.type "dict",data:=.dict #[] }
  refine callType_codes (Q₁:=fun obj s₁=>obj=.ref s.heap.objs.size ∧ s₁={ s with heap:=s.heap.push { cls:=.type "dict",data:=.dict #[] } }) F.kt_called_dict (F.kt_typeCall_dict_1 _) F.entry_dict_init (kt_code_dict_new _ ⟨rfl,rfl⟩) ?_
  rintro obj s₁ ⟨rfl,rfl⟩
  have hnew:(s.heap.push { cls:=.type "dict",data:=.dict #[] }).DictOf (strKind prog w) s.heap.objs.size []:=Heap.DictOf.new s.heap
  have up1:∀ b o,s.heap.get? b=some o→(s.heap.push { cls:=.type "dict",data:=.dict #[] }).get? b=some o:=fun b o e=>Heap.get?_push_of_some _ e
  refine ⟨hnew.typeIs,F.args_dict_init_2 _ _,?_⟩
  unfold Builtin.«dict.__init__»
  refine wpAny_bind ?_
  unfold Builtin.Dict.selfAndRest
  refine wpAny_bind (wpAny_notOrdered_dict hnew.typeIs ?_)
  show wpAny _ _ (pure (s.heap.objs.size,[Value.ref D])) _ _ _
  refine wpAny_pure ?_
  show wpAny _ _ (Builtin.Dict.updateFrom "dict.__init__" s.heap.objs.size (.ref D) [] .none) _ _ _
  unfold Builtin.Dict.updateFrom
  refine wpAny_bind (wpAny_typeOf (T:="list") ⟨_,up1 _ _ hDg,rfl⟩ ?_)
  rw [if_pos (by decide)]
  refine wpAny_bind (getAttrQ_miss_list (up1 _ _ hDg) rfl rfl rfl (am_miss_of_fast (by decide +kernel)) (by decide) (by simp [hh]) fun h2 tk2 e hexc=>?_)
  show wpAny _ _ (rule _ >>= _) _ _ _
  refine wpAny_bind (wpAny_rule ?_)
  have up2:∀ b o,s.heap.get? b=some o→h2.get? b=some o:=fun b o e=>hexc.keeps b o (up1 b o e)
  refine wpAny_bind (wpAny_pyIter_list (l:=D) (items:=#[.ref q0,.ref q1]) ⟨_,up2 _ _ hDg,rfl,n,rfl⟩ ?_)
  have up3:∀ b o,s.heap.get? b=some o→(h2.push { cls:=.type "list_iterator",data:=.fields #[.ref D,.int 0 0] }).get? b=some o:=fun b o e=>Heap.get?_push_of_some _ (up2 b o e)
  have d2:h2.get? s.heap.objs.size=some { cls:=.type "dict",data:=.dict #[] }:=hexc.keeps _ _ (Heap.get?_push_size _ rfl)
  have dlt:@LT.lt Nat _ s.heap.objs.size h2.objs.size:=Heap.lt_size d2
  have up3d:=Heap.get?_push_of_some { cls:=.type "list_iterator",data:=.fields #[.ref D,.int 0 0] } d2
  have inI:(h2.push { cls:=.type "list_iterator",data:=.fields #[.ref D,.int 0 0] }).IsListIter h2.objs.size D 0:=⟨_,Heap.get?_push_size _ rfl,rfl,rfl⟩
  have hnew3:(h2.push { cls:=.type "list_iterator",data:=.fields #[.ref D,.int 0 0] }).DictOf (strKind prog w) s.heap.objs.size []:=by
    obtain ⟨o,es,ep,ho,r⟩:=hnew
    exact ⟨o,es,ep,Heap.get?_push_of_some _ (hexc.keeps _ _ ho),r⟩
  have low:∀ p ∈ T,p.1 ≠ s.heap.objs.size ∧ p.1 ≠ h2.objs.size:=fun p hp=>⟨Nat.ne_of_lt (hsz p hp),Nat.ne_of_lt (Nat.lt_trans (hsz p hp) dlt)⟩
  show wpAny _ _ (again _) _ _ _
  refine wpAny_pure ⟨plainId_quiet plain_dict_update_loop _,?_⟩
  refine dict_loop_item (i:=0) (j:=0) (l:=D) (items:=#[.ref q0,.ref q1]) (q:=q0) (k:=k0) (t:=t0) (v:=v0) (kvs:=[]) inI ⟨_,up3 _ _ hDg,rfl,n,rfl⟩ rfl ⟨_,up3 _ _ (N _ h0).1,rfl,n0,rfl⟩ hnew3 (by decide) (Nat.ne_of_lt dlt) (low _ h0).2 fun h4 tk4 it4 dd4 sb4=>?_
  have up4:∀ p ∈ T,h4.get? p.1=some p.2:=fun p hp=>(sb4 p.1 (low p hp).1 (low p hp).2).trans (up3 _ _ (N p hp).1)
  refine dict_loop_item (i:=1) (j:=1) (l:=D) (items:=#[.ref q0,.ref q1]) (q:=q1) (k:=k1) (t:=t1) (v:=v1) (kvs:=[(k0,v0)]) it4 ⟨_,up4 _ hD,rfl,n,rfl⟩ rfl ⟨_,up4 _ h1,rfl,n1,rfl⟩ dd4 (show 1 ≤ sizeLine by decide) (Nat.ne_of_lt dlt) (low _ h1).2 fun h5 tk5 it5 dd5 sb5=>?_
  have up5:∀ p ∈ T,h5.get? p.1=some p.2:=fun p hp=>(sb5 p.1 (low p hp).1 (low p hp).2).trans (up4 _ hp)
  refine codeAny_builtin entry_dict_update_loop ?_
  rw [Around.under_plainId plain_dict_update_loop _]
  show wpAny _ _ (pyNext (.ref h2.objs.size) >>= _) _ _ _
  refine wpAny_bind (wpAny_pyNext_list_end (by simp [hh]) it5 ⟨_,up5 _ hD,rfl,n,rfl⟩ rfl fun h6 hb6=>?_)
  show wpAny _ _ (Builtin.Dict.addKeywords s.heap.objs.size [] >>= _) _ _ _
  refine wpAny_bind (wpAny_pure (wpAny_pure ⟨rfl,?_⟩))
  have e6:stored (stored [] k0 v0) k1 v1=[(k0,v0),(k1,v1)]:=by simp [stored,hne]
  rw [show stored [(k0,v0)] k1 v1=[(k0,v0),(k1,v1)] from by simpa [stored] using e6] at dd5
  obtain ⟨o,ho,hdo⟩:=Heap.dictOf_iff.mp dd5
  have hup:∀ b o,s.heap.get? b=some o→h6.get? b=some o:=fun b o e=>by
    have hb:=Heap.lt_size e
    have b1:b ≠ s.heap.objs.size:=Nat.ne_of_lt hb
    have b2:b ≠ h2.objs.size:=Nat.ne_of_lt (Nat.lt_trans hb dlt)
    exact hb6 b o b2 ((sb5 b b1 b2).trans ((sb4 b b1 b2).trans (up3 b o e)))
  refine k _ o h6 _ (F₀.keeps hup) (fun p hp=>?_) hsz (F₀.notModules hbig) hdo
  rcases List.mem_cons.mp hp with rfl | hp
  · exact ⟨hb6 _ _ (Nat.ne_of_lt dlt) ho,(N1 _ (.head _)).2⟩
  · exact N.grown hup p hp
end
section
variable {W:Wd} {T:Tab} {x:Ac} {Γ:Ctx} {n:Nat} {c:Cf} {E:Value→Shared→Prop} {P:List (Addr × Obj)}
theorem arr_eq {a b:Array UInt8} (h:a.toList=b.toList):a=b:=Array.toList_inj.mp h
theorem catB_eq (a b:Array UInt8):a ++ b=catB a b:=arr_eq (by simp [catB])
theorem pick_eq (a b:Int) (c:Prop) [Decidable c]:(@Bool.rec (fun _=>Int) a b (decide c))=if c then b else a:=by
  by_cases h:c
  · rw [if_pos h,decide_eq_true h]
  · rw [if_neg h,decide_eq_false h]
theorem StW.newData (S:StW W x c P) {vs:List Value} {ds:List Dat} {k:Nat} (hd:DatAll c.F vs ds) {D:Addr} {h':Heap} (tk:Nat) (F':Fr x.h₀ x.L h' c.m) (N':News x.h₀ x.L h' ((D,listOf (List.toArray vs) k) :: (P ++ (c.F ++ c.J)))) (hD:∀ p ∈ P ++ (c.F ++ c.J),p.1 ≠ D) {K:KV} {Q:Value→Shared→Prop} (h:K (.d (.list ds)) c.σ) (G:Goes W x (DV W) c K Q):Q (.ref D) { c.s with heap:=h',toks:=tk }:=
  G _ _ ⟨c.ρ,c.F ++ [(D,listOf (List.toArray vs) k)],c.J,c.m,c.σ,_⟩ h Le.data (.a1 (.d (.list mem_snoc (hd.mono (Sub.snoc _ _))))) (S.data tk F' N' hD)
theorem bin_snd (S:St W x c) {op:Operator} {a b:SV} {u v:Value} {K:KV} {Q:Value→Shared→Prop} (ha:DV W c a u) (hb:DV W c b v) (h:binV op a b c.σ K) (G:Goes W x (DV W) c K Q) :
    wpAny W.M x.ar (binaryOp op u v) Q E c.s:=by
  have num2:∀ {f:Int→Int→Prop},(nI a fun y=>nI b (f y))→∃ y t z t',u=.int y t ∧ v=.int z t' ∧ f y z:=fun h=>by
    obtain ⟨y,t,rfl,h⟩:=nI_den h ha
    obtain ⟨z,t',rfl,h⟩:=nI_den h hb
    exact ⟨_,_,_,_,rfl,rfl,h⟩
  cases op with
  | Add =>
    rcases bite_or h with ⟨_,h⟩ | ⟨_,h⟩
    · obtain ⟨_,_,_,_,rfl,rfl,h⟩:=num2 h
      exact PyProof.Rows.add_int (G.here S _ h (.int _ _))
    · rcases bite_or h with ⟨_,h⟩ | ⟨_,h⟩
      · obtain ⟨y,t,rfl,h⟩:=nY_den h ha
        obtain ⟨z,t',rfl,h⟩:=nY_den h hb
        obtain ⟨h1,h⟩:=reqLe h
        rw [Array.length_toList,Array.length_toList] at h1
        exact KBy.add_bytes (by exact ln [_,_] [] [.le (.a (.v 0) (.v 1)) (.k 1000)] (.le (.a (.v 0) (.v 1)) (.k 16777216)) (.w [1,1]) zr h1) fun t' k=>G.here S k h (by rw [catB_eq]; exact .bytes _ _)
      rcases bite_or h with ⟨_,h⟩ | ⟨_,h⟩
      · obtain ⟨y,t,rfl,h⟩:=nS_den h ha
        obtain ⟨z,t',rfl,h1,h2,h⟩:=nS_den h hb
        exact KXadd.add h1 h2 (by decide) fun t' k hz=>G.here S k (h _ hz.2) (.a1 (.d (.str _ _)))
      · obtain ⟨P,S⟩:=S
        obtain ⟨ds,a1,vs,k1,rfl,d1,m1,h⟩:=S.nLd h ha
        obtain ⟨es,a2,ws,k2,rfl,d2,m2,h⟩:=S.nLd h hb
        obtain ⟨h1,h⟩:=reqLe h
        have l1:=d1.length
        have l2:=d2.length
        exact add_lists S.fr S.news (S.news.isList m1) (S.news.isList m2) (fun h' F' N'=>S.newData (k:=0) (d1.append d2) c.s.toks F' N' (fun p hp=>Nat.ne_of_lt (S.off hp)) h G) (by rw [sizeLine_eq]; exact ln [_,_,_,_] [] [.le (.a (.v 0) (.v 1)) (.k 1000),.eq (.v 2) (.v 0),.eq (.v 3) (.v 1)] (.le (.a (.v 2) (.v 3)) (.k 16777216)) (.w [1,0,1,0,1,1]) zr h1 l1 l2)
  | Sub=>obtain ⟨_,_,_,_,rfl,rfl,h⟩:=num2 h; exact PyProof.Rows.sub_int (G.here S _ h (.int _ _))
  | Mult =>
    rcases bite_or h with ⟨_,h⟩ | ⟨_,h⟩
    · obtain ⟨_,_,_,_,rfl,rfl,h⟩:=num2 h
      obtain ⟨h1,h⟩:=reqLe h
      exact mul_int (G.here S _ h (.int _ _)) (IntMulOk.of_left (intBits_le_64 (by omega) (by omega)))
    · obtain ⟨⟨y⟩,t,rfl,h⟩:=nY_den h ha
      obtain ⟨z,t',rfl,h⟩:=nI_den h hb
      obtain ⟨h1,h⟩:=reqD h
      obtain ⟨h2,h⟩:=reqD h
      obtain ⟨h3,h⟩:=reqLt h
      obtain ⟨h4,h⟩:=reqLe h
      have h4:y.length ≤ 10:=h4
      have h5:y.length * z.toNat ≤ 10 * 100:=Nat.mul_le_mul h4 (by exact ln [] [_] [.Lt (.v 0) (.k 100)] (.le (.t (.v 0)) (.k 100)) (.b (.w [1,1]) (.w [0,1])) zr h2)
      exact bytes_mul_K (b:=y) (fun e=>by subst e; cases h3) h1 (by exact ln [] [_] [.Lt (.v 0) (.k 100)] (.Le (.v 0) (.k 1048576)) (.w [1,1]) zr h2) (by exact ln [_] [] [.le (.v 0) (.m 10 (.k 100))] (.le (.v 0) (.k 16777216)) (.w [1,1]) zr h5) rfl fun t' k=>G.here S k h (.bytes _ _)
  | Mod=>obtain ⟨_,_,_,_,rfl,rfl,h⟩:=num2 h; obtain ⟨h1,h⟩:=reqD h; exact mod_int (by exact ln [] [_] [.Lt (.k 0) (.v 0)] (.n (.Eq (.v 0) (.k 0))) (.w [1,1]) zr h1) (G.here S _ h (.int _ _))
  | FloorDiv =>
    obtain ⟨_,_,_,_,rfl,rfl,h⟩:=num2 h
    obtain ⟨h1,h⟩:=reqD h
    obtain ⟨h2,h⟩:=reqN h
    exact floordiv_int (by exact ln [] [_] [.Lt (.k 0) (.v 0)] (.n (.Eq (.v 0) (.k 0))) (.w [1,1]) zr h1) (G.here S _ h (.int _ _)) (.inl (by rw [h2]))
  | RShift=>obtain ⟨_,_,_,_,rfl,rfl,h⟩:=num2 h; obtain ⟨h1,h⟩:=reqD h; obtain ⟨h2,h⟩:=reqD h; exact rshift_int h2 (G.here S _ h (.int _ _))
  | _=>exact False.elim h
theorem part_of {v:SV} {u:Value} {k:Option Int→Prop} (h:partP v k) (hd:DV W c v u):∃ lo,IsPart u lo ∧ k lo:=by
  rcases bite_or h with ⟨e,h⟩ | ⟨_,h⟩
  · cases (isNone_den hd).1 e; exact ⟨_,.none,h⟩
  · obtain ⟨z,t,rfl,h⟩:=nI_den h hd; exact ⟨_,.int _ _,h⟩
theorem slice_snd (S:St W x c) {v l r:SV} {u ul ur:Value} {K:KV} {Q:Value→Shared→Prop} {value:Expr} {le re:Option Expr} {p:Pos} (hv:DV W c v u) (hl:DV W c l ul) (hr:DV W c r ur) (h:sliceV v l r c.σ K) (G:Goes W x (DV W) c K Q) :
    wpAny W.M x.ar (subscriptTail value (.Slice le re none p) u (.ref c.s.heap.objs.size)) Q E { c.s with heap:=c.s.heap.push { cls:=.type "slice",data:=.fields #[ul,ur,.none] } }:=by
  refine byC fun zC zk=>?_
  obtain ⟨P,S⟩:=S
  obtain ⟨lo,pl,h⟩:=part_of h hl
  obtain ⟨hi,pu,h⟩:=part_of h hr
  refine zk ?_
  refine kba_turn (value':=.Name "" default) (fun _=>rfl) ?_
  rcases bite_or h with ⟨_,h⟩ | ⟨_,h⟩
  · refine byC fun zC zk=>?_
    obtain ⟨b,t,rfl,h⟩:=nY_den h hv
    obtain ⟨h1,h⟩:=reqLe h
    refine zk ?_
    rw [Array.length_toList] at h1
    exact KBc.slice_K S.fr S.news rfl pl pu (by rw [KBw.ints_length]; exact ln [_] [] [.le (.v 0) (.k 1000)] (.le (.v 0) (.k 16777216)) (.w [1,1]) zr h1) (fun h' t' k F' N' _=>G _ _ (c.up c.σ h' k) h Le.up (by rw [KBc.picked_eq,show (b.toList.drop _).take _=cutL b.toList lo hi by simp [cutL]]; exact .bytes _ _) (S.heap F' N' k)) rfl (fun _=>rfl)
  · refine byC fun zC zk=>?_
    obtain ⟨ds,a,vs,k,rfl,d1,m1,h⟩:=S.nLd h hv
    obtain ⟨h1,h⟩:=reqLe h
    refine zk ?_
    have l1:=d1.length
    have hd:DatAll c.F (kms_pick vs lo hi) (pickL ds lo hi):=by
      unfold kms_pick pickL
      rw [← l1]
      generalize kms_lo lo vs.length=i
      generalize kms_hi hi vs.length - i=j
      clear h1 h l1 m1
      have dr:∀ {vs:List Value} {ds:List Dat} (i:Nat),DatAll c.F vs ds→DatAll c.F (vs.drop i) (ds.drop i):=by
        intro vs ds i hd
        induction i generalizing vs ds with
        | zero=>exact hd
        | succ i ih=>cases hd with
          | nil=>exact .nil
          | cons a r=>exact ih r
      have tk:∀ {vs:List Value} {ds:List Dat} (i:Nat),DatAll c.F vs ds→DatAll c.F (vs.take i) (ds.take i):=by
        intro vs ds i hd
        induction i generalizing vs ds with
        | zero=>exact .nil
        | succ i ih=>cases hd with
          | nil=>exact .nil
          | cons a r=>exact .cons a (ih r)
      exact tk j (dr i d1)
    exact kms_slice_lit S.fr S.news (S.news.isList m1) pl pu (by simp) (fun D h' F' N' hlt=>S.newData (k:=0) hd c.s.toks F' N' (fun p hp=>Nat.ne_of_lt (hlt p hp)) h G) rfl (fun _=>rfl) (by rw [sizeLine_eq]; simp; exact ln [_,_] [] [.le (.v 0) (.k 1000),.eq (.v 1) (.v 0)] (.le (.v 1) (.k 16777216)) (.w [1,0,1,1]) zr h1 l1)
end
section
variable {W:Wd} {T:Tab} {x:Ac} {Γ:Ctx} {n:Nat} {c:Cf} {E:Value→Shared→Prop} {P:List (Addr × Obj)}
theorem datAll_at {F:List (Addr × Obj)} {vs:List Value} {ds:List Dat} {i:Nat} {d:Dat} (h:DatAll F vs ds) (hd:ds[i]?=some d):∃ v,vs[i]?=some v ∧ DatIn F v d:=by
  induction i generalizing vs ds with
  | zero=>cases h with
    | nil=>cases hd
    | cons a r=>cases hd; exact ⟨_,rfl,a⟩
  | succ i ih=>cases h with
    | nil=>cases hd
    | cons a r=>exact ih r hd
theorem datAll_erase {F:List (Addr × Obj)} {vs:List Value} {ds:List Dat} (h:DatAll F vs ds) (i:Nat):DatAll F (vs.eraseIdx i) (ds.eraseIdx i):=by
  induction i generalizing vs ds with
  | zero=>cases h with
    | nil=>exact .nil
    | cons a r=>exact r
  | succ i ih=>cases h with
    | nil=>exact .nil
    | cons a r=>exact .cons a (ih r)
theorem dats1_of {K:Frag} {F:List (Addr × Obj)} {ρ:List Addr} {l:List SV} {vs:List Value} (h:All2 (Den1 K F ρ) l vs):∀ {ds:List Dat},datsOf toDat1 l=some ds→DatAll F vs ds:=by
  induction h with
  | nil=>intro ds h; cases h; exact .nil
  | cons a r ih =>
    intro ds h
    obtain ⟨d,e1,h⟩:=Option.bind_eq_some_iff.mp h
    obtain ⟨es,e2,rfl⟩:=Option.map_eq_some_iff.mp h
    cases toDat1_eq e1
    cases a with | d a=>exact .cons a (ih e2)
theorem toDat_of {v:SV} {u:Value} {d:Dat} (h:toDat v=some d) (hv:DV W c v u):DatIn c.F u d:=by
  cases hv with
  | a1 hv=>cases hv with
    | d h1=>cases h; exact h1
    | _=>cases h
  | tup hm hr =>
    obtain ⟨es,e2,rfl⟩:=Option.map_eq_some_iff.mp h
    exact .tuple hm (dats1_of hr e2)
  | lst=>cases h
theorem rng_new (S:St W x c) {a b d:Int} {t u v:Tok} {tk:Nat} {K:KV} {Q:Value→Shared→Prop} (h:K (.rng a b d) c.σ) (G:Goes W x (DV W) c K Q):Q (.ref c.s.heap.objs.size) { c.s with heap:=c.s.heap.push (rngObj a b d t u v),toks:=tk }:=by
  obtain ⟨P,S⟩:=S
  exact G _ _ ⟨c.ρ,c.F ++ [(c.s.heap.objs.size,rngObj a b d t u v)],c.J,c.m,c.σ,_⟩ h Le.data (.a1 (.rng (t:=t) (u:=u) (v:=v) mem_snoc)) (S.data tk (S.fr.push _) (News.push S.fr S.news _) fun p hp=>Nat.ne_of_lt (S.off hp))
theorem enc_hs (t u:Tok):Builtin.«str.encode» ⟨[.str (Str.ofString "handshake") t,.str (Str.ofString "ascii") u],[]⟩=(mkBytes #[104,97,110,100,115,104,97,107,101] >>= fun v=>ret v):=by first | rfl | kernel_rfl
theorem enc_ap (t u:Tok):Builtin.«str.encode» ⟨[.str (Str.ofString "application") t,.str (Str.ofString "ascii") u],[]⟩=(mkBytes #[97,112,112,108,105,99,97,116,105,111,110] >>= fun v=>ret v):=by first | rfl | kernel_rfl
theorem StW.newGo (S:StW W x c P) {so:SO} {o:Obj} {D:Addr} {h':Heap} (tk:Nat) (F':Fr x.h₀ x.L h' c.m) (N':News x.h₀ x.L h' ((D,o) :: (P ++ (c.F ++ c.J)))) (hD:∀ p ∈ P ++ (c.F ++ c.J),p.1 ≠ D) (ok:ObjOK W c.F (c.ρ ++ [D]) so o) {K:KV} {Q:Value→Shared→Prop} (h:K (.obj c.σ.hp.length) (c.σ.new so)) (G:Goes W x (DV W) c K Q):Q (.ref D) { c.s with heap:=h',toks:=tk }:=
  G _ _ ⟨c.ρ ++ [D],c.F,c.J,c.m,c.σ.new so,_⟩ h Le.new (.a1 (.obj S.newObj)) (S.new tk F' N' hD ok)
theorem size_of {α:Type} (l:List α):(List.toArray l).size=l.length:=rfl
theorem put_go {K:KV} {Q:Value→Shared→Prop} (G:Goes W x (DV W) c K Q) {i:Nat} {so:SO} {h':Heap} {tk:Nat} (S:St W x (c.up (c.σ.put i so) h' tk)) {v:SV} {u:Value} (h:K v (c.σ.put i so)) (hd:DV W c v u):Q u { c.s with heap:=h',toks:=tk }:=G _ _ (c.up _ h' tk) h Le.up hd S
theorem len_snd (TO:TabOK W T) (ok:x.Ok W Γ n) (S:St W x c) {v:SV} {u:Value} {K:KV} {Q:Value→Shared→Prop} (hv:DV W c v u) (h:lenP c.σ v fun n=>req (Nat.ble n 100000) (K (.d (.int n)) c.σ)) (G:Goes W x (DV W) c K Q):wpAny W.M x.ar (call (.builtin "len") [u]) Q E c.s:=by
  have S0:=S
  obtain ⟨P,S⟩:=S
  have go:∀ {k:Nat} {l:List Value} {a:Addr},req (Nat.ble k 100000) (K (.d (.int k)) c.σ)→k=l.length→c.s.heap.IsList a (List.toArray l)→wpAny W.M x.ar (call (.builtin "len") [.ref a]) Q E c.s:=fun h e hl=>by
    have h:=reqLe h
    subst e
    exact len_list hl (by have hq:=h.1; rw [size_of]; exact ln [_] [] [.le (.v 0) (.k 100000)] (.Lt (.c (.v 0)) (.k 9223372036854775808)) (.w [1,1]) zr h.1) (G.here S0 _ h.2 (.int _ _))
  have dic:∀ {k:Nat} {kvs:List (Str × Value)} {a:Addr} {o:Obj},req (Nat.ble k 100000) (K (.d (.int k)) c.σ)→o.IsDictOf (strKind W.prog W.w) kvs→k=kvs.length→(a,o) ∈ P ++ (c.F ++ c.J)→wpAny W.M x.ar (call (.builtin "len") [.ref a]) Q E c.s:=fun h hd hl hm=>by
    have h:=reqLe h
    refine kda_len S.news hm hd (not_sys TO ok S.news hm) (by have hq:=h.1; exact ln [_,_] [] [.eq (.v 0) (.v 1),.le (.v 0) (.k 100000)] (.le (.v 1) (.k 16777216)) (.w [1,0,1,1]) zr hl h.1) ?_
    rw [← hl]
    exact G.here S0 _ h.2 (.int _ _)
  rcases bite_or h with ⟨_,h⟩ | ⟨_,h⟩
  · refine nY_el (C:=fun u=>wpAny W.M x.ar (call (.builtin "len") [u]) Q E c.s) h hv fun b t h=>?_
    have h:=reqLe h
    rw [Array.length_toList] at h
    exact len_bytes (by have hq:=h.1; exact ln [_] [] [.le (.v 0) (.k 100000)] (.le (.v 0) (.k 1099511627776)) (.w [1,1]) zr h.1) (G.here S0 _ h.2 (.int _ _))
  · rcases bite_or h with ⟨_,h⟩ | ⟨_,h⟩
    · refine S.nO_el (C:=fun u=>wpAny W.M x.ar (call (.builtin "len") [u]) Q E c.s) h hv fun i so a o e p ho hm h=>?_
      cases so with
      | list l=>obtain ⟨vs,k,rfl,hl⟩:=ho; exact go h hl.len (S.news.isList hm)
      | dlist ds=>obtain ⟨vs,k,rfl,hl⟩:=ho; exact go h hl.length.symm (S.news.isList hm)
      | dict es=>obtain ⟨kvs,hd,hk⟩:=ho; exact dic h hd hk.len hm
      | ddict es=>obtain ⟨kvs,hd,hk⟩:=ho; exact dic h hd hk.len hm
      | _=>exact False.elim h
    · obtain ⟨ds,hd,h⟩:=nL_den h hv
      cases hd with | list hm hr=>exact go h hr.length.symm (S.news.isList (S.memF hm))
end
section
variable {W:Wd} {T:Tab} {x:Ac} {Γ:Ctx} {n:Nat} {c:Cf} {E:Value→Shared→Prop} {P:List (Addr × Obj)} {K:KV} {Q:Value→Shared→Prop} {us:List Value} {args:List SV}
theorem num2_el {C:List Value→Prop} {k:Int→Int→Prop} (hd:DL W c args us) (h:two args fun u v=>nI u fun a=>nI v (k a)) (f:∀ a t b t',k a b→C [.int a t,.int b t']):C us:=
  two_el h hd fun v u v' u' d1 d2 h=>nI_el (C:=fun u=>C [u,u']) h d1 fun a t h=>nI_el (C:=fun u=>C [.int a t,u]) h d2 fun b t' h=>f a t b t' h
theorem minmax_snd (hn:T.ba=true→x.hh=none) (S:St W x c) (G:Goes W x (DV W) c K Q) (hd:DL W c args us):(biV T .min args c.σ K→wpAny W.M x.ar (call (.builtin "min") us) Q E c.s) ∧ (biV T .max args c.σ K→wpAny W.M x.ar (call (.builtin "max") us) Q E c.s):=by
  obtain ⟨P,S⟩:=S
  refine ⟨fun h=>?_,fun h=>?_⟩
  · obtain ⟨hb,h⟩:=req1 h
    refine num2_el (C:=fun us=>wpAny W.M x.ar (call (.builtin "min") us) Q E c.s) hd h fun a t b t' h=>?_
    exact min_two_N (hn hb) S.fr S.news fun h' tk F' N'=>G _ _ (c.up c.σ h' tk) h Le.up (by rw [pick_eq]; exact .int _ _) (S.heap F' N' tk)
  · obtain ⟨hb,h⟩:=req1 h
    refine num2_el (C:=fun us=>wpAny W.M x.ar (call (.builtin "max") us) Q E c.s) hd h fun a t b t' h=>?_
    exact max_two_N (hn hb) S.fr S.news fun h' tk F' N'=>G _ _ (c.up c.σ h' tk) h Le.up (by rw [pick_eq]; exact .int _ _) (S.heap F' N' tk)
theorem append_snd (S:St W x c) (G:Goes W x (DV W) c K Q) (hd:DL W c args us) (h:biV T .append args c.σ K):wpAny W.M x.ar (call (.builtin "list.append") us) Q E c.s:=by
  refine byC fun zC zk=>?_
  obtain ⟨P,S⟩:=S
  refine zk ?_
  refine two_el (C:=fun us=>wpAny W.M x.ar (call (.builtin "list.append") us) Q E c.s) h hd fun v u v' u' d1 d2 h=>?_
  refine S.nO_el (C:=fun u=>wpAny W.M x.ar (call (.builtin "list.append") [u,u']) Q E c.s) h d1 fun i so a o e p ho hm h=>?_
  cases so with
  | dlist ds =>
    refine byC fun zC zk=>?_
    refine nOpt_el h fun d e2 h=>?_
    have h:=reqLe h
    obtain ⟨vs,k,rfl,hl⟩:=ho
    refine S.upd e rfl p fun R N off _ put=>?_
    refine zk ?_
    have hz:=hl.length
    exact append_K S.fr N (.head off) (fun h' F' N'=>put_go G (put h' c.s.toks _ (.dlist (ds ++ [d])) F' N' ⟨vs ++ [u'],k + 1,by simp,hl.append (.cons (toDat_of e2 d2) .nil)⟩ rfl) h.2 .none) (by have hq:=h.1; rw [sizeLine_eq,size_of]; exact ln [_,_] [] [.le (.v 0) (.k 1000),.eq (.v 1) (.v 0)] (.le (.v 1) (.k 16777216)) (.w [1,0,1,1]) zr h.1 hz)
  | list l =>
    have h:=reqLe h
    refine byC fun zC zk=>?_
    obtain ⟨vs,k,rfl,hl⟩:=ho
    refine S.upd e rfl p fun R N off _ put=>?_
    refine zk ?_
    have hz:=hl.len
    exact append_K S.fr N (.head off) (fun h' F' N'=>put_go G (put h' c.s.toks _ (.list (l ++ [v'])) F' N' ⟨vs ++ [u'],k + 1,by simp,hl.app (.cons d2 .nil)⟩ rfl) h.2 .none) (by have hq:=h.1; rw [sizeLine_eq,size_of]; exact ln [_,_] [] [.le (.v 0) (.k 1000),.eq (.v 0) (.v 1)] (.le (.v 1) (.k 16777216)) (.w [0,1,1,1]) zr h.1 hz)
  | _=>exact False.elim h
theorem extend_snd (S:St W x c) (G:Goes W x (DV W) c K Q) (hd:DL W c args us) (h:biV T .extend args c.σ K):wpAny W.M x.ar (call (.builtin "list.extend") us) Q E c.s:=by
  obtain ⟨P,S⟩:=S
  refine two_el (C:=fun us=>wpAny W.M x.ar (call (.builtin "list.extend") us) Q E c.s) h hd fun v u v' u' d1 d2 h=>?_
  refine S.nDl_el (C:=fun u=>wpAny W.M x.ar (call (.builtin "list.extend") [u,u']) Q E c.s) h d1 fun i ds a vs k e p hl hm h=>?_
  refine S.nLd_el (C:=fun u'=>wpAny W.M x.ar (call (.builtin "list.extend") [.ref a,u']) Q E c.s) h d2 fun es b ws k2 hl2 hm2 h=>?_
  have h:=reqLe h
  refine S.upd e rfl p fun R N off hR put=>?_
  have z1:=hl.length
  have z2:=hl2.length
  have hlong:¬((!(List.toArray vs).isEmpty && Builtin.List.listTooLong ((List.toArray vs).size + (List.toArray ws).size))=true):=by
    have:Builtin.List.listTooLong ((List.toArray vs).size + (List.toArray ws).size)=false:=decide_eq_false (by have hq:=h.1; rw [sizeLine_eq,size_of,size_of]; exact ln [_,_,_,_] [] [.le (.a (.v 0) (.v 1)) (.k 1000),.eq (.v 2) (.v 0),.eq (.v 3) (.v 1)] (.n (.lt (.k 16777216) (.a (.v 2) (.v 3)))) (.w [1,0,1,0,1,1]) zr h.1 z1 z2)
    rw [this,Bool.and_false]; exact Bool.false_ne_true
  by_cases hw:ws=[]
  · subst hw
    cases hl2
    exact kxn_extend S.fr N (hR _ hm2) rfl (.head off) hlong (by have hq:=h.1; show vs.length ≤ _; rw [sizeLine_eq]; exact ln [_,_,_] [] [.eq (.v 0) (.v 1),.le (.a (.v 1) (.v 2)) (.k 1000)] (.le (.v 0) (.k 16777216)) (.w [1,1,0,1]) zr z1 h.1) (by have hq:=h.1; rw [sizeLine_eq,size_of,size_of]; exact ln [_,_,_] [] [.eq (.v 0) (.v 1),.le (.a (.v 1) (.v 2)) (.k 1000)] (.le (.a (.v 0) (.v 2)) (.a (.k 16777216) (.k 1))) (.w [1,1,0,1]) zr z1 h.1) fun h' F' N'=>put_go G (put h' c.s.toks _ (.dlist (ds ++ [])) F' N' ⟨vs,_,rfl,by rw [List.append_nil]; exact hl⟩ rfl) h.2 .none
  · exact kl_extend S.fr N (hR _ hm2) (l:=vs ++ ws) rfl (fun e=>hw (List.eq_nil_of_length_eq_zero e)) (.head off) hlong (by have hq:=h.1; show vs.length ≤ _; rw [sizeLine_eq]; exact ln [_,_,_] [] [.le (.a (.v 0) (.v 1)) (.k 1000),.eq (.v 2) (.v 0)] (.le (.v 2) (.k 16777216)) (.w [1,0,1,1]) zr h.1 z1) (by have hq:=h.1; rw [sizeLine_eq,size_of,size_of]; exact ln [_,_,_,_] [] [.le (.a (.v 0) (.v 1)) (.k 1000),.eq (.v 2) (.v 0),.eq (.v 3) (.v 1)] (.le (.a (.v 2) (.v 3)) (.a (.k 16777216) (.k 1))) (.w [1,0,1,0,1,1]) zr h.1 z1 z2) fun h' F' N'=>put_go G (put h' c.s.toks _ (.dlist (ds ++ es)) F' N' ⟨vs ++ ws,_,rfl,hl.append hl2⟩ rfl) h.2 .none
theorem pop_snd (S:St W x c) (G:Goes W x (DV W) c K Q) (hd:DL W c args us) (h:biV T .pop args c.σ K):wpAny W.M x.ar (call (.builtin "list.pop") us) Q E c.s:=by
  refine byC fun zC zk=>?_
  obtain ⟨P,S⟩:=S
  refine zk ?_
  refine two_el (C:=fun us=>wpAny W.M x.ar (call (.builtin "list.pop") us) Q E c.s) h hd fun v u v' u' d1 d2 h=>?_
  refine S.nDl_el (C:=fun u=>wpAny W.M x.ar (call (.builtin "list.pop") [u,u']) Q E c.s) h d1 fun i ds a vs k e p hl hm h=>?_
  refine nI_el (C:=fun u'=>wpAny W.M x.ar (call (.builtin "list.pop") [.ref a,u']) Q E c.s) h d2 fun z t h=>?_
  refine byC fun zC zk=>?_
  refine nOpt_el h fun d e2 h=>?_
  have h:=reqLe h
  have h2:=reqD h.2
  obtain ⟨y,g1,g2⟩:=datAll_at hl e2
  have hi:z.toNat < vs.length:=(List.getElem?_eq_some_iff.mp g1).1
  refine S.upd e rfl p fun R N off _ put=>?_
  refine zk ?_
  have hz:=hl.length
  have hz1:=h.1
  have hz2:=h2.1
  refine kl_popAt S.fr N (k:=z.toNat) ?_ ?_ (cut_at g1) (.head off) (by have hq:=h.1; show vs.length ≤ _; rw [sizeLine_eq]; exact ln [_,_] [] [.le (.v 0) (.k 1000),.eq (.v 1) (.v 0)] (.le (.v 1) (.k 16777216)) (.w [1,0,1,1]) zr h.1 hz) fun h' F' N'=>put_go G (put h' c.s.toks _ (.dlist (ds.eraseIdx z.toNat)) F' N' ⟨vs.eraseIdx z.toNat,_,by rw [List.eraseIdx_eq_take_drop_succ],datAll_erase hl _⟩ rfl) h2.2 (.a1 (.d g2))
  · unfold Builtin.List.listFitsIndex
    simp only [Bool.and_eq_true,decide_eq_true_eq]
    have hz3:((z.toNat:Nat):Int)=z:=Int.toNat_of_nonneg hz2
    omega
  · unfold seqIndex?
    rw [size_of,if_neg (Int.not_lt.mpr hz2)]
    have hz3:((z.toNat:Nat):Int)=z:=Int.toNat_of_nonneg hz2
    simp
    exact ln [_] [_] [.lt (.t (.v 0)) (.v 0),.Eq (.c (.t (.v 0))) (.v 0)] (.a (.Le (.k 0) (.v 0)) (.Lt (.v 0) (.c (.v 0)))) (.b (.b (.w [0,1,1]) (.b (.w [0,0,1,0,0,1]) (.w [1,0,0,0,0,1]))) (.b (.w [1,0,1]) (.w [1,1,1]))) zr hi hz3
theorem bytes_snd (S:St W x c) (G:Goes W x (DV W) c K Q) (hd:DL W c args us) (h:biV T .bytesOf args c.σ K):wpAny W.M x.ar (call (.type "bytes") us) Q E c.s:=by
  have S0:=S
  obtain ⟨P,S⟩:=S
  refine one_el (C:=fun us=>wpAny W.M x.ar (call (.type "bytes") us) Q E c.s) h hd fun v u d h=>?_
  rcases bite_or h with ⟨_,h⟩ | ⟨_,h⟩
  · refine S.nO_el (C:=fun u=>wpAny W.M x.ar (call (.type "bytes") [u]) Q E c.s) h d fun i so a o e p ho hm h=>?_
    obtain ⟨b,rfl,h⟩:=oBa_iff h
    have h:=reqLe h
    obtain rfl:o=baObj ⟨b⟩:=ho
    exact m_bytes_ba S.news hm h.1 fun t k=>G.here S0 k h.2 (.bytes _ t)
  · exact nY_el (C:=fun u=>wpAny W.M x.ar (call (.type "bytes") [u]) Q E c.s) h d fun b t h=>m_bytes_of (G.here S0 c.s.toks h (.bytes _ _))
theorem range_snd (S:St W x c) (G:Goes W x (DV W) c K Q) (hd:DL W c args us) (h:biV T .range args c.σ K):wpAny W.M x.ar (call (.type "range") us) Q E c.s:=by
  rcases bite_or h with ⟨_,h⟩ | ⟨_,h⟩
  · refine thr_el (C:=fun us=>wpAny W.M x.ar (call (.type "range") us) Q E c.s) h hd fun v u v' u' v2 u2 d1 d2 d3 h=>?_
    refine nI_el (C:=fun u=>wpAny W.M x.ar (call (.type "range") [u,u',u2]) Q E c.s) h d1 fun a t h=>?_
    refine nI_el (C:=fun u=>wpAny W.M x.ar (call (.type "range") [.int a t,u,u2]) Q E c.s) h d2 fun b t' h=>?_
    refine nI_el (C:=fun u=>wpAny W.M x.ar (call (.type "range") [.int a t,.int b t',u]) Q E c.s) h d3 fun d t2 h=>?_
    have h:=reqD h
    have h2:=reqN h.2
    exact call_range_3 (by omega) (rng_new S h2.2 G) (.inl h2.1)
  · rcases bite_or h with ⟨_,h⟩ | ⟨_,h⟩
    · exact num2_el (C:=fun us=>wpAny W.M x.ar (call (.type "range") us) Q E c.s) hd h fun a t b t' h=>call_range_2 (rng_new S h G)
    · exact one_el (C:=fun us=>wpAny W.M x.ar (call (.type "range") us) Q E c.s) h hd fun v u d h=>nI_el (C:=fun u=>wpAny W.M x.ar (call (.type "range") [u]) Q E c.s) h d fun b t h=>call_range_1 (rng_new S h G)
theorem get_snd (TO:TabOK W T) (ok:x.Ok W Γ n) (S:St W x c) (G:Goes W x (DV W) c K Q) (hd:DL W c args us) (h:biV T .get args c.σ K):wpAny W.M x.ar (call (.builtin "dict.get") us) Q E c.s:=by
  refine two_el (C:=fun us=>wpAny W.M x.ar (call (.builtin "dict.get") us) Q E c.s) h hd fun v u v' u' d1 d2 h=>?_
  refine refA_el (C:=fun u=>wpAny W.M x.ar (call (.builtin "dict.get") [u,u']) Q E c.s) h d1 fun a h=>?_
  refine nS_el (C:=fun u=>wpAny W.M x.ar (call (.builtin "dict.get") [.ref a,u]) Q E c.s) h d2 fun y t h=>?_
  refine nOpt_el h fun l e h=>?_
  refine TO.aw a l e _ _ _ _ _ _ (S.el fun _ S=>ok.X.keeps S.fr.keep) (fun z i hz u tk hu=>?_) fun hz tk=>?_
  · rw [hz] at h; exact G.here S tk h (hu _ _)
  · rw [hz] at h; exact G.here S tk h .none
theorem encode_snd (S:St W x c) (G:Goes W x (DV W) c K Q) (hd:DL W c args us) (h:biV T .encode args c.σ K):wpAny W.M x.ar (call (.builtin "str.encode") us) Q E c.s:=by
  refine two_el (C:=fun us=>wpAny W.M x.ar (call (.builtin "str.encode") us) Q E c.s) h hd fun v u v' u' d1 d2 h=>?_
  refine nS_el (C:=fun u=>wpAny W.M x.ar (call (.builtin "str.encode") [u,u']) Q E c.s) h d1 fun y t h=>?_
  refine nS_el (C:=fun u=>wpAny W.M x.ar (call (.builtin "str.encode") [.str y t,u]) Q E c.s) h d2 fun z t' h=>?_
  obtain ⟨e1,h⟩:=req1 h
  cases eqS_iff.mp e1
  rcases bite_or h with ⟨e2,h⟩ | ⟨_,h⟩
  · cases eqS_iff.mp e2
    exact m_encode enc_hs (by decide) fun t'=>G.here S _ h (.bytes _ _)
  · obtain ⟨e3,h⟩:=req1 h
    cases eqS_iff.mp e3
    exact m_encode enc_ap (by decide) fun t'=>G.here S _ h (.bytes _ _)
theorem join_snd (S:St W x c) (G:Goes W x (DV W) c K Q) (hd:DL W c args us) (h:biV T .join args c.σ K):wpAny W.M x.ar (call (.builtin "bytes.join") us) Q E c.s:=by
  have S0:=S
  obtain ⟨P,S⟩:=S
  refine two_el (C:=fun us=>wpAny W.M x.ar (call (.builtin "bytes.join") us) Q E c.s) h hd fun v u v' u' d1 d2 h=>?_
  refine nY_el (C:=fun u=>wpAny W.M x.ar (call (.builtin "bytes.join") [u,u']) Q E c.s) h d1 fun y t h=>?_
  obtain ⟨e1,h⟩:=req1 h
  have:y=#[]:=arr_eq (List.isEmpty_iff.mp e1)
  subst this
  refine S.nLd_el (C:=fun u=>wpAny W.M x.ar (call (.builtin "bytes.join") [.bytes #[] t,u]) Q E c.s) h d2 fun ds a vs k hl hm h=>?_
  obtain ⟨p,q,rfl,h⟩:=two_iff h
  obtain ⟨b,rfl,h⟩:=dY_iff h
  obtain ⟨d,rfl,h⟩:=dY_iff h
  have h:=reqLe h
  cases hl with | cons h1 hl =>
  cases hl with | cons h2 hl =>
  cases hl; cases h1; cases h2
  rw [Array.length_toList,Array.length_toList] at h
  exact m_join2 (S.news.isList hm) h.1 fun t' k=>G.here S0 k h.2 (by rw [catB_eq]; exact .bytes _ _)
theorem list_snd (S:St W x c) (G:Goes W x (DV W) c K Q) (hd:DL W c args us) (h:biV T .listOf args c.σ K):wpAny W.M x.ar (call (.type "list") us) Q E c.s:=by
  obtain ⟨P,S⟩:=S
  refine one_el (C:=fun us=>wpAny W.M x.ar (call (.type "list") us) Q E c.s) h hd fun v u d h=>?_
  refine S.nLd_el (C:=fun u=>wpAny W.M x.ar (call (.type "list") [u]) Q E c.s) h d fun ds a vs k hl hm h=>?_
  have h:=reqLe h
  have hz:=hl.length
  exact list_copyK S.fr S.news (S.news.isList hm) (fun D c' h' F' N' hlt=>S.newGo (so:=.dlist ds) c.s.toks F' N' (fun p hp=>Nat.ne_of_lt (hlt p hp)) ⟨vs,c',rfl,hl⟩ h.2 G) (by have hq:=h.1; rw [sizeLine_eq,size_of]; exact ln [_,_] [] [.le (.v 0) (.k 1000),.eq (.v 1) (.v 0)] (.le (.v 1) (.k 16777216)) (.w [1,0,1,1]) zr h.1 hz)
theorem tupP_den {v:SV} {u:Value} {k:List SV→Prop} (h:tupP v k) (hd:DV W c v u):∃ l a vs j,u=.ref a ∧ (a,tupO vs j) ∈ c.F ∧ All2 (Den1 W.K c.F c.ρ) l vs ∧ k l:=by
  cases v with
  | tup l=>cases hd with
    | a1 hd=>cases hd
    | tup hm hr=>exact ⟨l,_,_,_,rfl,hm,hr,h⟩
  | _=>exact False.elim h
theorem dict_snd (ok:x.Ok W Γ n) (TO:TabOK W T) (S:St W x c) (G:Goes W x (DV W) c K Q) (hd:DL W c args us) (h:biV T .dict args c.σ K):wpAny W.M x.ar (call (.type "dict") us) Q E c.s:=by
  refine byC fun zC zk=>?_
  obtain ⟨hb,h⟩:=req1 h
  obtain ⟨P,S⟩:=S
  refine zk ?_
  refine one_el (C:=fun us=>wpAny W.M x.ar (call (.type "dict") us) Q E c.s) h hd fun v u d h=>?_
  refine S.nO_el (C:=fun u=>wpAny W.M x.ar (call (.type "dict") [u]) Q E c.s) h d fun i so a o e p ho hm h=>?_
  cases so with
  | list l =>
    refine byC fun zC zk=>?_
    obtain ⟨p1,q1,rfl,h⟩:=two_iff h
    obtain ⟨vs,k,rfl,hl⟩:=ho
    refine zk ?_
    cases hl with | cons dp hl =>
    cases hl with | cons dq hl =>
    cases hl
    refine byC fun zC zk=>?_
    obtain ⟨tp,a1,vs1,j1,rfl,m1,r1,h⟩:=tupP_den h dp
    obtain ⟨tq,a2,vs2,j2,rfl,m2,r2,h⟩:=tupP_den h dq
    obtain ⟨k1,v1,e1,h⟩:=two_iff h
    obtain ⟨k2,v2,e2,h⟩:=two_iff h
    refine zk ?_
    subst e1
    subst e2
    cases r1 with | cons x1 r1 =>
    cases r1 with | cons x2 r1 =>
    cases r1
    cases r2 with | cons y1 r2 =>
    cases r2 with | cons y2 r2 =>
    cases r2
    refine byC fun zC zk=>?_
    obtain ⟨y,t1,rfl,h⟩:=nS_den h (.a1 x1)
    obtain ⟨z,t2,rfl,h⟩:=nS_den h (.a1 y1)
    obtain ⟨hne,h⟩:=reqN h
    refine zk ?_
    have hbig:sysModules < x.h₀.objs.size:=by
      refine byC fun zC zk=>?_
      obtain ⟨mm,hmm,_⟩:=(ok.T.seer TO.mods).mods
      obtain ⟨o9,_,_,h9,_⟩:=hmm
      refine zk ?_
      exact Heap.lt_size h9
    refine m_dict_pairs S.fr S.news hbig (ok.hn (TO.ba hb)) hm (S.memF m1) (S.memF m2) (fun e=>by rw [eqS_iff.mpr e] at hne; cases hne) fun d o h' tk F' N' hlt hs hdd=>?_
    exact S.newGo (so:=.dict _) tk F' N' (fun p hp=>Nat.ne_of_lt (hlt p hp)) ⟨_,hdd,.cons ⟨rfl,(Den.a1 x2).mono (fun _ h=>h) (Ext.snoc _ _)⟩ (.cons ⟨rfl,(Den.a1 y2).mono (fun _ h=>h) (Ext.snoc _ _)⟩ .nil)⟩ h G
  | _=>exact False.elim h
end
noncomputable def kRun {α:Type} (n:Nat) (f:Nat→Nat→Bool):KasT α→Option α
  | .ret a=>some a
  | .ask i j k=>if i < n ∧ j < n ∧ i ≠ j then kRun n f (k (f i j)) else none
theorem kRun_a {α:Type} {n:Nat} {f:Nat→Nat→Bool} {i j:Nat} {k:Bool→KasT α}:kRun n f (.ask i j k)=if i < n ∧ j < n ∧ i ≠ j then kRun n f (k (f i j)) else none:=rfl
theorem kRun_wp {α:Type} {n:Nat} {f:Nat→Nat→Bool} {cmp:Nat→Nat→(Bool→Shared→Prop)→Shared→Prop} {Q:α→Shared→Prop} {s:Shared}
    (hc:∀ i j,i < n→j < n→i ≠ j→∀ (C:Bool→Shared→Prop),C (f i j) s→cmp i j C s):∀ {t:KasT α} {a:α},kRun n f t=some a→Q a s→t.kasWp cmp Q s:=by
  intro t
  induction t with
  | ret _=>intro a h hq; cases h; exact hq
  | ask i j k ih =>
    intro a h hq
    rw [kRun_a] at h
    by_cases hij:i < n ∧ j < n ∧ i ≠ j
    · rw [if_pos hij] at h
      exact hc i j hij.1 hij.2.1 hij.2.2 _ (ih _ h hq)
    · rw [if_neg hij] at h; cases h
noncomputable def rkOf (n r i:Nat):Nat:=if i=n - 1 then 2 * r else 2 * i + 1
noncomputable def lastIn (n r:Nat):Array Nat:=((List.range r) ++ (n - 1) :: (List.range' r (n - 1 - r))).toArray
theorem sort_last:∀ n < 21,2 ≤ n→∀ r < n,kRun n (fun i j=>decide (rkOf n r i < rkOf n r j)) (kas_sort n)=some (lastIn n r):=by decide +kernel
theorem pieces_at {T:List (Addr × Obj)} {vs:List Value} {xs:List (Int × Array UInt8)} (h:DatAll T vs (xs.map pcD)) {i:Nat} (hi:i < xs.length) :
    ∃ a t u n,vs[i]?=some (.ref a) ∧ (a,tupObj [.int (xs.getD i default).1 t,.bytes (xs.getD i default).2 u] n) ∈ T:=by
  have hl:i < (xs.map pcD).length:=by simpa using hi
  obtain ⟨v,hv,hD⟩:=h.get hl
  rw [List.getElem_map] at hD
  have e:xs.getD i default=xs[i]:=by simp [List.getD,hi]
  rw [e]
  cases hD with
  | tuple hm hr =>
    cases hr with
    | cons h1 hr =>
      cases h1
      cases hr with
      | cons h2 hr =>
        cases h2
        cases hr
        exact ⟨_,_,_,_,hv,hm⟩
theorem kat_tups {T:List (Addr × Obj)} {h₀ h:Heap} {L:Addr} (N:News h₀ L h T):∀ {vs:List Value} {xs:List (Int × Array UInt8)},DatAll T vs (xs.map pcD)→∃ fs,KatTups h vs fs ∧ fs.length=xs.length ∧ ∀ v ∈ fs,∃ i t,v=.int i t
  | [],[],_=>⟨[],KatTups.nil,rfl,fun _ h=>nomatch h⟩
  | [],_ :: _,h=>by cases h
  | _ :: _,[],h=>by cases h
  | v :: vs,x :: xs,h=>by
    cases h with
    | cons h1 hr =>
      obtain ⟨fs,hf,hlen,hin⟩:=kat_tups N hr
      cases h1 with
      | tuple hm hr' =>
        cases hr' with
        | cons h1 hr' =>
          cases h1
          refine ⟨_ :: fs,KatTups.cons (N _ hm).1 rfl rfl (by simp; rfl) hf,by simp [hlen],?_⟩
          intro v hv
          rcases List.mem_cons.mp hv with rfl | hv
          · exact ⟨_,_,rfl⟩
          · exact hin v hv
section
variable {prog:Program} {w:World} {A:Around} {E:Value→Shared→Prop} {s:Shared} {h₀:Heap} {L:Addr} {m:Str→Option Value} {news:List (Addr × Obj)}
theorem ask_int {x y:Addr} {a b:Int} {p q:Value} {t u:Tok} {n k:Nat} {C:Bool→Shared→Prop} (hx:s.heap.get? x=some (tupObj [.int a t,p] n)) (hy:s.heap.get? y=some (tupObj [.int b u,q] k)) (hne:a ≠ b) (h:C (decide (a < b)) s) :
    wpAny (model prog w) A (keyLt' (tuples' true) (.ref x) (.ref y)) C (fun _ _=>False) s:=by
  refine kat_lt (xs:=[.int a t,p].toArray) (ys:=[.int b u,q].toArray) hx rfl hy rfl ?_
  refine kat_cons (wpAny_eqBool_int ?_)
  have e:(a == b)=false:=by simpa using hne
  rw [e]
  exact kat_no (oneLt_int h)
theorem m_sorted {l:Addr} {vs:List Value} {n:Nat} {xs:List (Int × Array UInt8)} {r:Nat} {T:List (Addr × Obj)} {Q:Value→Shared→Prop} (F:Fr h₀ L s.heap m) (N:News h₀ L s.heap news) (hl:(l,listOf vs.toArray n) ∈ news) (hT:∀ p ∈ T,p ∈ news) (hx:DatAll T vs (xs.map pcD)) (h2:2 ≤ xs.length) (h20:xs.length < 21) (hr:r < xs.length)
    (hs:∀ i j,i < xs.length→j < xs.length→i ≠ j→(xs.getD i default).1 ≠ (xs.getD j default).1 ∧ decide ((xs.getD i default).1 < (xs.getD j default).1)=decide (rkOf xs.length r i < rkOf xs.length r j))
    (h:∀ D c h',Fr h₀ L h' m→News h₀ L h' ((D,listOf (List.toArray ((lastIn xs.length r).toList.map fun i=>vs.getD i Value.none)) c) :: news)→(∀ p ∈ news,p.1 < D)→Q (.ref D) { s with heap:=h' }) :
    wpAny (model prog w) A (call (.builtin "sorted") [.ref l]) Q E s:=by
  have hvl:vs.length=xs.length:=by simpa using hx.length
  refine kat_sorted F N ⟨_,(N _ hl).1,rfl,n,rfl⟩ (by exact ln [_,_] [] [.le (.k 2) (.v 0),.eq (.v 1) (.v 0)] (.le (.k 2) (.v 1)) (.w [0,1,1,1]) zr h2 hvl) (by exact ln [_,_] [] [.lt (.v 0) (.k 21),.eq (.v 1) (.v 0)] (.lt (.v 1) (.k 64)) (.w [1,0,1,1]) zr h20 hvl) fun D e1 h' F' N' hlt=>?_
  have NT:News h₀ L h' T:=newsSub N' fun p hp=>List.mem_cons_of_mem _ (hT p hp)
  refine byC fun zC zk=>?_
  obtain ⟨fs,hf,hfl,hin⟩:=kat_tups NT hx
  refine zk ?_
  refine kat_kind (s:={ s with heap:=h' }) (T:=.type "int") hf (by exact ln [_,_] [] [.le (.k 2) (.v 0),.eq (.v 1) (.v 0)] (.lt (.k 0) (.v 1)) (.w [0,1,1,1]) zr h2 hfl) (fun v hv=>?_) (by decide) ?_
  · refine byC fun zC zk=>?_
    obtain ⟨i,t,rfl⟩:=hin v hv
    refine zk ?_
    exact Looks.of_pure rfl
  · have hb:((Value.type "int") != Value.type "tuple")=true:=by decide
    rw [hb,hvl]
    refine kRun_wp (n:=xs.length) (f:=fun i j=>decide (rkOf xs.length r i < rkOf xs.length r j)) (fun i j hi hj hij C hC=>?_) (sort_last _ h20 h2 r hr) ?_
    · refine byC fun zC zk=>?_
      obtain ⟨a,t,u,k,e1,m1⟩:=pieces_at hx hi
      obtain ⟨a',t',u',k',e2,m2⟩:=pieces_at hx hj
      refine zk ?_
      have g1:vs.getD i Value.none=.ref a:=by simp [List.getD,e1]
      have g2:vs.getD j Value.none=.ref a':=by simp [List.getD,e2]
      unfold kas_ask
      rw [g1,g2]
      refine byC fun zC zk=>?_
      obtain ⟨s1,s2⟩:=hs i j hi hj hij
      refine zk ?_
      refine ask_int (NT _ m1).1 (NT _ m2).1 s1 ?_
      rw [s2]
      exact hC
    · refine KasFin.intro (s:={ s with heap:=h' }) F' N' (UpdF.head fun p hp=>Nat.ne_of_lt (hlt p hp)) fun h2 c F2 N2=>h D c h2 F2 N2 hlt
theorem sort_one {D:Addr} {v:Value} {n:Nat} {P:PySem.Fin→Shared→Prop} (F:Fr h₀ L s.heap m) (N:News h₀ L s.heap news) (ho:s.heap.get? D=some (listOf [v].toArray n)) (hL:D ≠ L) (h0:h₀.get? D=none) (hna:∀ p ∈ news,p.1 ≠ D)
    (h:∀ c h',Fr h₀ L h' m→News h₀ L h' ((D,listOf [v].toArray c) :: news)→P (.done (.ret .none)) { s with heap:=h' }):wpAny (model prog w) A (Builtin.«list.sort» ⟨[.ref D],[]⟩) P E s:=by
  have s1:=Heap.SameBut.update s.heap D (Obj.mapSeq fun _=>(#[]:Array Value))
  obtain ⟨e1,ho1⟩:∃ e1,(s.heap.update D (Obj.mapSeq fun _=>(#[]:Array Value))).get? D=some (seqObj "list" #[] e1):=⟨_,get?_update_seq ho fun _=>#[]⟩
  have G:Fr h₀ L (((s.heap.update D (Obj.mapSeq fun _=>(#[]:Array Value))).push (seqObj "tuple" [v].toArray 0)).push (seqObj "list" #[] 0)) m:=((kas_fr F s1 hL h0).push _).push _
  have M:News h₀ L (((s.heap.update D (Obj.mapSeq fun _=>(#[]:Array Value))).push (seqObj "tuple" [v].toArray 0)).push (seqObj "list" #[] 0)) news:=(kas_news N s1 hna).grown fun b x e=>Heap.get?_push_of_some _ (Heap.get?_push_of_some _ e)
  have ho2:(((s.heap.update D (Obj.mapSeq fun _=>(#[]:Array Value))).push (seqObj "tuple" [v].toArray 0)).push (seqObj "list" #[] 0)).get? D=some (seqObj "list" #[] e1):=Heap.get?_push_of_some _ (Heap.get?_push_of_some _ ho1)
  rw [list_sort_plain]
  refine wpAny_bind (listItems_at ho rfl ?_)
  refine wpAny_bind (listUpdate_at ho rfl ?_ (by rw [sizeLine_eq]; simp) (Nat.zero_le _))
  refine wpAny_bind (seqEpoch_at ho1 rfl ?_)
  refine wpAny_bind (wpAny_newTuple ?_ (by rw [sizeLine_eq]; simp))
  refine wpAny_bind (wpAny_newList ?_ (Nat.zero_le _))
  refine wpAny_holding ?_
  have hz:[v].toArray.size < 2:=by simp
  rw [if_pos hz,if_pos hz]
  refine wpAny_bind (wpAny_pure ?_)
  refine wpAny_bind (wpAny_pure ?_)
  obtain ⟨c2,hc2⟩:∃ c2,((((s.heap.update D (Obj.mapSeq fun _=>(#[]:Array Value))).push (seqObj "tuple" [v].toArray 0)).push (seqObj "list" #[] 0)).update D (Obj.mapSeq fun _=>[v].toArray)).get? D=some (seqObj "list" [v].toArray c2):=⟨_,get?_update_seq ho2 fun _=>[v].toArray⟩
  have s2:=Heap.SameBut.update (((s.heap.update D (Obj.mapSeq fun _=>(#[]:Array Value))).push (seqObj "tuple" [v].toArray 0)).push (seqObj "list" #[] 0)) D (Obj.mapSeq fun _=>[v].toArray)
  refine wpAny_bind (seqEpoch_at ho2 rfl ?_)
  have hout:(arrOf (SortSt.mk' general' ([v].toArray.zip [v].toArray) #[] 7 none)).map (·.2)=[v].toArray:=by first | rfl | simp [arrOf,SortSt.mk']
  dsimp only
  rw [hout]
  refine wpAny_bind (listUpdate_at ho2 rfl ?_ (Nat.zero_le _) (by rw [sizeLine_eq]; simp))
  simp only [bne_self_eq_false,Bool.false_eq_true,if_false]
  refine wpAny_pure (h c2 _ (kas_fr G s2 hL h0) fun p hp=>?_)
  rcases List.mem_cons.mp hp with rfl | hp
  · exact ⟨hc2,hL,h0⟩
  · exact kas_news M s2 hna p hp
theorem m_sorted1 {l:Addr} {v:Value} {n:Nat} {Q:Value→Shared→Prop} (F:Fr h₀ L s.heap m) (N:News h₀ L s.heap news) (hl:(l,listOf [v].toArray n) ∈ news)
    (h:∀ D c h',Fr h₀ L h' m→News h₀ L h' ((D,listOf [v].toArray c) :: news)→(∀ p ∈ news,p.1 < D)→Q (.ref D) { s with heap:=h' }) :
    wpAny (model prog w) A (call (.builtin "sorted") [.ref l]) Q E s:=by
  refine Calls.call_function_entry kind_sorted plain_sorted entry_sorted (args_sorted1 _) ?_
  unfold Builtin.«sorted»
  refine wpAny_bind (m:=checkCount "sorted" 1 1 _) (wpAny_pure ?_)
  refine wpAny_bind (collect_list (vs:=[v]) ⟨_,(N _ hl).1,rfl,n,rfl⟩ ?_ (by rw [sizeLine_eq]; simp))
  refine wpAny_bind (wpAny_newList ?_ (by rw [sizeLine_eq]; simp))
  have hsz:((s.heap.push (seqObj "list" #[] 0)).update s.heap.objs.size (Obj.mapSeq (· ++ [v].toArray))).objs.size=s.heap.objs.size + 1:=by
    rw [Heap.size_update,size_push']
  have keep:∀ b o,s.heap.get? b=some o→(((s.heap.push (seqObj "list" #[] 0)).update s.heap.objs.size (Obj.mapSeq (· ++ [v].toArray))).push (seqObj "list" [v].toArray 0)).get? b=some o:=fun b o q=>by
    have hlt:b < s.heap.objs.size:=Heap.lt_size q
    rw [Heap.get?_push_ne _ _ _ (by rw [hsz]; exact Nat.ne_of_lt (Nat.lt_succ_of_lt hlt)),Heap.get?_update_ne _ _ _ _ (Nat.ne_of_lt hlt),Heap.get?_push_ne _ _ _ (Nat.ne_of_lt hlt)]
    exact q
  have hoL:(((s.heap.push (seqObj "list" #[] 0)).update s.heap.objs.size (Obj.mapSeq (· ++ [v].toArray))).push (seqObj "list" [v].toArray 0)).get? (s.heap.objs.size + 1)=some (seqObj "list" [v].toArray 0):=by
    rw [← hsz]; exact Heap.get?_push_size _ rfl
  have hL:L < s.heap.objs.size:=F.ns.lt
  show wpAny _ _ _ _ _ { s with heap:=((s.heap.push (seqObj "list" #[] 0)).update s.heap.objs.size (Obj.mapSeq (· ++ [v].toArray))).push (seqObj "list" [v].toArray 0) }
  rw [hsz]
  refine wpAny_bind (wpAny_holding (wpAny_call_entry slot_list_sort ⟨_,hoL,rfl⟩ entry_list_sort ?body (args_list_sort _)))
  case body =>
    refine sort_one (s:={ s with heap:=((s.heap.push (seqObj "list" #[] 0)).update s.heap.objs.size (Obj.mapSeq (· ++ [v].toArray))).push (seqObj "list" [v].toArray 0) })
      (F.kept keep) (N.grown keep) hoL (Nat.ne_of_gt (Nat.lt_succ_of_lt hL)) (Heap.get?_none_of_le (Nat.le_trans F.above (Nat.le_succ_of_le (Nat.le_of_lt hL))))
      (fun p hp=>Nat.ne_of_lt (Nat.lt_succ_of_lt (Heap.lt_size (N p hp).1))) fun c h' F' N'=>⟨_,rfl,wpAny_pure ⟨_,rfl,h _ c h' F' N' fun q hq=>Nat.lt_succ_of_lt (Heap.lt_size (N q hq).1)⟩⟩
end
theorem last_map {vs:List Value} {v:Value} {r:Nat} (hr:r ≤ vs.length):((lastIn (vs ++ [v]).length r).toList.map fun i=>(vs ++ [v]).getD i Value.none)=vs.take r ++ v :: vs.drop r:=by
  have e:(lastIn (vs ++ [v]).length r).toList=List.range r ++ vs.length :: List.range' r (vs.length - r):=by
    unfold lastIn
    simp
  rw [e,List.map_append,List.map_cons]
  congr 1
  · apply List.ext_getElem
    · simp [hr]
    · intro i h1 h2
      simp only [List.length_map,List.length_range] at h1
      simp [List.getD,List.getElem?_append_left (show i < vs.length by exact ln [_,_,_] [] [.le (.v 0) (.v 1),.lt (.v 2) (.v 0)] (.lt (.v 2) (.v 1)) (.w [1,1,1]) zr hr h1),show i < vs.length by exact ln [_,_,_] [] [.le (.v 0) (.v 1),.lt (.v 2) (.v 0)] (.lt (.v 2) (.v 1)) (.w [1,1,1]) zr hr h1]
  · congr 1
    · simp [List.getD]
    · apply List.ext_getElem
      · simp
      · intro i h1 h2
        simp only [List.length_map,List.length_range'] at h1
        simp [List.getD,List.getElem?_append_left (show r + i < vs.length by exact ln [_,_,_] [] [.lt (.v 0) (.s (.v 1) (.v 2))] (.lt (.a (.v 2) (.v 0)) (.v 1)) (.b (.w [1,0,1]) (.w [1])) zr h1),show r + i < vs.length by exact ln [_,_,_] [] [.lt (.v 0) (.s (.v 1) (.v 2))] (.lt (.a (.v 2) (.v 0)) (.v 1)) (.b (.w [1,0,1]) (.w [1])) zr h1]
noncomputable def piOf (n r i:Nat):Nat:=if i=n - 1 then r else if i < r then i else i + 1
theorem pi_key {n r i:Nat} (hi:i < n):(i + 1=n ∧ piOf n r i=r ∧ rkOf n r i=2 * r) ∨ (i + 1 < n ∧ i < r ∧ piOf n r i=i ∧ rkOf n r i=2 * i + 1) ∨ (i + 1 < n ∧ r ≤ i ∧ piOf n r i=i + 1 ∧ rkOf n r i=2 * i + 1):=by
  unfold piOf rkOf
  by_cases h:i=n - 1
  · exact .inl ⟨by exact ln [_,_] [] [.lt (.v 0) (.v 1),.eq (.v 0) (.s (.v 1) (.k 1))] (.eq (.a (.v 0) (.k 1)) (.v 1)) (.b (.b (.w [0,1,0,0,1]) (.w [0,1,1,0,1])) (.w [1,1])) zr hi h,if_pos h,if_pos h⟩
  · rw [if_neg h,if_neg h]
    have h2:i + 1 < n:=by exact ln [_,_] [] [.lt (.v 0) (.v 1),.n (.eq (.v 0) (.s (.v 1) (.k 1)))] (.lt (.a (.v 0) (.k 1)) (.v 1)) (.b (.w [1,0,0,1]) (.b (.w [1,0,1]) (.b (.w [1]) (.w [1,1,1])))) zr hi h
    by_cases h3:i < r
    · exact .inr (.inl ⟨h2,h3,if_pos h3,rfl⟩)
    · exact .inr (.inr ⟨h2,Nat.le_of_not_lt h3,if_neg h3,rfl⟩)
theorem odd_ne (a b:Nat):2 * a ≠ 2 * b + 1:=by omega
theorem pi_lt {n r i j:Nat} (hi:i < n) (hj:j < n) (h:rkOf n r i < rkOf n r j):piOf n r i < piOf n r j:=by
  rcases pi_key (r:=r) hi with ⟨a1,a2,a3⟩ | ⟨a1,a0,a2,a3⟩ | ⟨a1,a0,a2,a3⟩
  · rcases pi_key (r:=r) hj with ⟨b1,b2,b3⟩ | ⟨b1,b0,b2,b3⟩ | ⟨b1,b0,b2,b3⟩
    · exact ln [_,_,_,_,_] [] [.lt (.v 0) (.v 1),.eq (.v 0) (.m 2 (.v 2)),.eq (.v 1) (.m 2 (.v 2))] (.lt (.v 3) (.v 4)) (.w [1,0,0,1,1]) zr h a3 b3
    · exact ln [_,_,_,_,_,_] [] [.lt (.v 0) (.v 1),.eq (.v 0) (.m 2 (.v 2)),.lt (.v 3) (.v 2),.eq (.v 1) (.a (.m 2 (.v 3)) (.k 1))] (.lt (.v 4) (.v 5)) (.w [1,0,2,0,1,1]) zr h a3 b0 b3
    · exact ln [_,_,_,_] [] [.eq (.v 0) (.v 1),.le (.v 1) (.v 2),.eq (.v 3) (.a (.v 2) (.k 1))] (.lt (.v 0) (.v 3)) (.w [0,1,1,1,0,1]) zr a2 b0 b2
  · rcases pi_key (r:=r) hj with ⟨b1,b2,b3⟩ | ⟨b1,b0,b2,b3⟩ | ⟨b1,b0,b2,b3⟩
    · exact ln [_,_,_,_] [] [.lt (.v 0) (.v 1),.eq (.v 2) (.v 0),.eq (.v 3) (.v 1)] (.lt (.v 2) (.v 3)) (.w [0,1,1,0,1,1]) zr a0 a2 b2
    · exact ln [_,_,_,_,_,_] [] [.lt (.v 0) (.v 1),.eq (.v 2) (.v 3),.eq (.v 0) (.a (.m 2 (.v 3)) (.k 1)),.eq (.v 4) (.v 5),.eq (.v 1) (.a (.m 2 (.v 5)) (.k 1))] (.lt (.v 2) (.v 4)) (.w [1,0,0,2,0,1,2,0,1,2]) zr h a2 a3 b2 b3
    · exact ln [_,_,_,_,_,_] [] [.lt (.v 0) (.v 1),.eq (.v 2) (.v 3),.eq (.v 0) (.a (.m 2 (.v 3)) (.k 1)),.eq (.v 4) (.a (.v 5) (.k 1)),.eq (.v 1) (.a (.m 2 (.v 5)) (.k 1))] (.lt (.v 2) (.v 4)) (.w [1,0,0,2,0,1,2,0,1,2]) zr h a2 a3 b2 b3
  · rcases pi_key (r:=r) hj with ⟨b1,b2,b3⟩ | ⟨b1,b0,b2,b3⟩ | ⟨b1,b0,b2,b3⟩
    · exact ln [_,_,_,_,_,_] [] [.lt (.v 0) (.v 1),.le (.v 2) (.v 3),.eq (.v 0) (.a (.m 2 (.v 3)) (.k 1)),.eq (.v 1) (.m 2 (.v 2))] (.lt (.v 4) (.v 5)) (.w [1,0,0,1,2,1]) zr h a0 a3 b3
    · exact ln [_,_,_,_,_,_,_] [] [.lt (.v 0) (.v 1),.le (.v 2) (.v 3),.eq (.v 0) (.a (.m 2 (.v 3)) (.k 1)),.lt (.v 4) (.v 2),.eq (.v 1) (.a (.m 2 (.v 4)) (.k 1))] (.lt (.v 5) (.v 6)) (.w [1,0,2,0,1,2,1]) zr h a0 a3 b0 b3
    · exact ln [_,_,_,_,_,_] [] [.lt (.v 0) (.v 1),.eq (.v 2) (.a (.v 3) (.k 1)),.eq (.v 0) (.a (.m 2 (.v 3)) (.k 1)),.eq (.v 4) (.a (.v 5) (.k 1)),.eq (.v 1) (.a (.m 2 (.v 5)) (.k 1))] (.lt (.v 2) (.v 4)) (.w [1,0,0,2,0,1,2,0,1,2]) zr h a2 a3 b2 b3
theorem rk_ne {n r i j:Nat} (hi:i < n) (hj:j < n) (h:i ≠ j):rkOf n r i ≠ rkOf n r j:=fun e=>by
  rcases pi_key (r:=r) hi with ⟨a1,a2,a3⟩ | ⟨a1,a0,a2,a3⟩ | ⟨a1,a0,a2,a3⟩
  · rcases pi_key (r:=r) hj with ⟨b1,b2,b3⟩ | ⟨b1,b0,b2,b3⟩ | ⟨b1,b0,b2,b3⟩
    · exact ln [_,_,_] [] [.eq (.a (.v 0) (.k 1)) (.v 1),.eq (.a (.v 2) (.k 1)) (.v 1),.n (.eq (.v 0) (.v 2))] (.f) (.b (.w [1,1,0,0,1]) (.w [1,0,1,1])) zr a1 b1 h
    · exact odd_ne _ _ ((a3.symm.trans e).trans b3)
    · exact odd_ne _ _ ((a3.symm.trans e).trans b3)
  · rcases pi_key (r:=r) hj with ⟨b1,b2,b3⟩ | ⟨b1,b0,b2,b3⟩ | ⟨b1,b0,b2,b3⟩
    · exact odd_ne _ _ ((b3.symm.trans e.symm).trans a3)
    · exact ln [_,_,_,_] [] [.eq (.v 0) (.v 1),.eq (.v 0) (.a (.m 2 (.v 2)) (.k 1)),.eq (.v 1) (.a (.m 2 (.v 3)) (.k 1)),.n (.eq (.v 2) (.v 3))] (.f) (.b (.w [2,0,1,1,0,0,1]) (.w [2,1,0,0,1,1])) zr e a3 b3 h
    · exact ln [_,_,_,_,_] [] [.eq (.v 0) (.v 1),.lt (.v 2) (.v 3),.eq (.v 0) (.a (.m 2 (.v 2)) (.k 1)),.le (.v 3) (.v 4),.eq (.v 1) (.a (.m 2 (.v 4)) (.k 1))] (.f) (.w [0,1,2,1,0,2,0,1]) zr e a0 a3 b0 b3
  · rcases pi_key (r:=r) hj with ⟨b1,b2,b3⟩ | ⟨b1,b0,b2,b3⟩ | ⟨b1,b0,b2,b3⟩
    · exact odd_ne _ _ ((b3.symm.trans e.symm).trans a3)
    · exact ln [_,_,_,_,_] [] [.eq (.v 0) (.v 1),.le (.v 2) (.v 3),.eq (.v 0) (.a (.m 2 (.v 3)) (.k 1)),.lt (.v 4) (.v 2),.eq (.v 1) (.a (.m 2 (.v 4)) (.k 1))] (.f) (.w [1,0,2,0,1,2,1]) zr e a0 a3 b0 b3
    · exact ln [_,_,_,_] [] [.eq (.v 0) (.v 1),.eq (.v 0) (.a (.m 2 (.v 2)) (.k 1)),.eq (.v 1) (.a (.m 2 (.v 3)) (.k 1)),.n (.eq (.v 2) (.v 3))] (.f) (.b (.w [2,0,1,1,0,0,1]) (.w [2,1,0,0,1,1])) zr e a3 b3 h
theorem pi_at {α:Type} {xs ys:List α} {x d:α} {i:Nat} (hi:i < xs.length + ys.length + 1):((xs ++ ys) ++ [x]).getD i d=(xs ++ x :: ys).getD (piOf (xs.length + ys.length + 1) xs.length i) d ∧ piOf (xs.length + ys.length + 1) xs.length i < xs.length + ys.length + 1:=by
  unfold piOf
  by_cases h1:i=xs.length + ys.length + 1 - 1
  · rw [if_pos h1]
    have:i=(xs ++ ys).length:=by rw [List.length_append]; exact ln [_,_,_] [] [.eq (.v 0) (.s (.a (.a (.v 1) (.v 2)) (.k 1)) (.k 1))] (.eq (.v 0) (.a (.v 1) (.v 2))) (.b (.b (.w [0,1,0,1]) (.w [0,1,1,1])) (.b (.w [1,0,0,1]) (.w [1,0,0,1]))) zr h1
    refine ⟨?_,by exact ln [_,_] [] [] (.lt (.v 0) (.a (.a (.v 0) (.v 1)) (.k 1))) (.w [1]) zr⟩
    rw [List.getD_eq_getElem?_getD,List.getD_eq_getElem?_getD,List.getElem?_append_right (by exact ln [_,_] [] [.eq (.v 0) (.v 1)] (.le (.v 1) (.v 0)) (.w [0,1,1]) zr this),List.getElem?_append_right (Nat.le_refl _),this]
    simp
  · rw [if_neg h1,List.getD_eq_getElem?_getD,List.getD_eq_getElem?_getD,List.getElem?_append_left (by rw [List.length_append]; exact ln [_,_,_] [] [.lt (.v 0) (.a (.a (.v 1) (.v 2)) (.k 1)),.n (.eq (.v 0) (.s (.a (.a (.v 1) (.v 2)) (.k 1)) (.k 1)))] (.lt (.v 0) (.a (.v 1) (.v 2))) (.b (.w [1,0,0,1]) (.b (.w [1,0,1]) (.b (.w [1]) (.w [1,1,1])))) zr hi h1)]
    by_cases h2:i < xs.length
    · rw [if_pos h2,List.getElem?_append_left h2,List.getElem?_append_left h2]
      exact ⟨rfl,by exact ln [_,_,_] [] [.lt (.v 0) (.a (.a (.v 1) (.v 2)) (.k 1))] (.lt (.v 0) (.a (.a (.v 1) (.v 2)) (.k 1))) (.w [1,1]) zr hi⟩
    · rw [if_neg h2,List.getElem?_append_right (by exact ln [_,_] [] [.n (.lt (.v 0) (.v 1))] (.le (.v 1) (.v 0)) (.w [1,1]) zr h2),List.getElem?_append_right (by exact ln [_,_] [] [.n (.lt (.v 0) (.v 1))] (.le (.v 1) (.a (.v 0) (.k 1))) (.w [1,1]) zr h2),show i + 1 - xs.length=(i - xs.length) + 1 by exact ln [_,_] [] [.n (.lt (.v 0) (.v 1))] (.eq (.s (.a (.v 0) (.k 1)) (.v 1)) (.a (.s (.v 0) (.v 1)) (.k 1))) (.b (.w [0,1]) (.b (.w [0,1]) (.b (.w [1,1]) (.b (.w [0,1,0,1]) (.b (.w [1,0,1]) (.b (.w [1,1]) (.b (.w [1,0,1]) (.w [0,1])))))))) zr h2]
      exact ⟨rfl,by exact ln [_,_,_] [] [.lt (.v 0) (.a (.a (.v 1) (.v 2)) (.k 1)),.n (.eq (.v 0) (.s (.a (.a (.v 1) (.v 2)) (.k 1)) (.k 1)))] (.lt (.a (.v 0) (.k 1)) (.a (.a (.v 1) (.v 2)) (.k 1))) (.b (.w [1,0,0,1]) (.b (.w [1,0,1]) (.b (.w [1]) (.w [1,1,1])))) zr hi h1⟩
section
variable {W:Wd} {T:Tab} {x:Ac} {Γ:Ctx} {n:Nat} {c:Cf} {E:Value→Shared→Prop} {P:List (Addr × Obj)} {K:KV} {Q:Value→Shared→Prop} {us:List Value} {args:List SV}
theorem sorted_snd (S:St W x c) (G:Goes W x (DV W) c K Q) (hd:DL W c args us) (h:biV T .sorted args c.σ K):wpAny W.M x.ar (call (.builtin "sorted") us) Q E c.s:=by
  obtain ⟨P,S⟩:=S
  refine one_el (C:=fun us=>wpAny W.M x.ar (call (.builtin "sorted") us) Q E c.s) h hd fun v u d h=>?_
  refine S.nLd_el (C:=fun u=>wpAny W.M x.ar (call (.builtin "sorted") [u]) Q E c.s) h d fun ds a vs k hl hm h=>?_
  obtain ⟨xs,ys,z,rfl,hs,hz,h⟩:=h
  have fin:∀ {ws:List Value},DatAll c.F ws ((xs ++ z :: ys).map pcE)→∀ {D:Addr} {k':Nat} {h':Heap},Fr x.h₀ x.L h' c.m→News x.h₀ x.L h' ((D,listOf (List.toArray ws) k') :: (P ++ (c.F ++ c.J)))→(∀ p ∈ P ++ (c.F ++ c.J),p.1 < D)→Q (.ref D) { c.s with heap:=h' }:=fun hw D k' h' F' N' hlt=>S.newData hw c.s.toks F' N' (fun p hp=>Nat.ne_of_lt (hlt p hp)) h G
  have hlen:=hl.length
  rw [List.length_map,List.length_append,List.length_append,List.length_singleton] at hlen
  have hsp:∃ vx vy vz,vs=(vx ++ vy) ++ [vz] ∧ DatAll c.F vx (xs.map pcE) ∧ DatAll c.F vy (ys.map pcE) ∧ DatIn c.F vz (pcE z):=by
    have spl:∀ {ds es:List Dat} {vs:List Value},DatAll c.F vs (ds ++ es)→∃ a b,vs=a ++ b ∧ DatAll c.F a ds ∧ DatAll c.F b es:=by
      intro ds
      induction ds with
      | nil=>intro es vs h; exact ⟨[],vs,rfl,.nil,h⟩
      | cons d ds ih =>
        intro es vs h
        cases h with
        | cons a r =>
          obtain ⟨p,q,rfl,h1,h2⟩:=ih r
          exact ⟨_ :: p,q,rfl,.cons a h1,h2⟩
    rw [List.map_append,List.map_append] at hl
    obtain ⟨p,q,rfl,h1,h2⟩:=spl hl
    obtain ⟨p1,p2,rfl,h3,h4⟩:=spl h1
    cases h2 with | cons a r =>
    cases r
    exact ⟨p1,p2,_,rfl,h3,h4,a⟩
  obtain ⟨vx,vy,vz,rfl,dx,dy,dz⟩:=hsp
  have lx:=dx.length
  have ly:=dy.length
  rw [List.length_map] at lx ly
  have hw:DatAll c.F (vx ++ vz :: vy) ((xs ++ z :: ys).map pcE):=by rw [List.map_append]; exact dx.append (.cons dz dy)
  by_cases h1:xs.length + ys.length=0
  · have e1:vx=[]:=List.eq_nil_of_length_eq_zero (by exact ln [_,_,_] [] [.eq (.v 0) (.v 1),.eq (.a (.v 1) (.v 2)) (.k 0)] (.eq (.v 0) (.k 0)) (.b (.w [0,0,0,0,1]) (.w [1,0,1,0,1])) zr lx h1)
    have e2:vy=[]:=List.eq_nil_of_length_eq_zero (by exact ln [_,_,_] [] [.eq (.v 0) (.v 1),.eq (.a (.v 2) (.v 1)) (.k 0)] (.eq (.v 0) (.k 0)) (.b (.w [0,0,0,0,1]) (.w [1,0,1,0,1])) zr ly h1)
    subst e1; subst e2
    exact m_sorted1 S.fr S.news hm fun D k' h' F' N' hlt=>fin hw F' N' hlt
  · rw [List.length_append] at hz
    have ez:((xs ++ ys) ++ [z]).length=xs.length + ys.length + 1:=by simp; exact ln [_,_] [] [] (.eq (.a (.v 0) (.a (.v 1) (.k 1))) (.a (.a (.v 0) (.v 1)) (.k 1))) (.b (.w [1]) (.w [1])) zr
    refine m_sorted (r:=xs.length) (xs:=(xs ++ ys) ++ [z]) (T:=c.F) S.fr S.news hm (fun p hp=>S.memF hp) hl (by rw [ez]; exact ln [_,_] [] [.n (.eq (.a (.v 0) (.v 1)) (.k 0))] (.le (.k 2) (.a (.a (.v 0) (.v 1)) (.k 1))) (.b (.w [1]) (.w [1,1])) zr h1) (by rw [ez]; exact ln [_,_] [] [.lt (.a (.v 0) (.v 1)) (.k 20)] (.lt (.a (.a (.v 0) (.v 1)) (.k 1)) (.k 21)) (.w [1,1]) zr hz) (by rw [ez]; exact ln [_,_] [] [] (.lt (.v 0) (.a (.a (.v 0) (.v 1)) (.k 1))) (.w [1]) zr) (fun i j hi hj hij=>?_) fun D k' h' F' N' hlt=>fin (ws:=vx ++ vz :: vy) (k':=k') hw F' ?_ hlt
    · rw [ez] at hi hj ⊢
      obtain ⟨e1,b1⟩:=pi_at (xs:=xs) (ys:=ys) (x:=z) (d:=default) hi
      obtain ⟨e2,b2⟩:=pi_at (xs:=xs) (ys:=ys) (x:=z) (d:=default) hj
      rw [e1,e2]
      have hL:(xs ++ z :: ys).length=xs.length + ys.length + 1:=by simp; exact ln [_,_] [] [] (.eq (.a (.v 0) (.a (.v 1) (.k 1))) (.a (.a (.v 0) (.v 1)) (.k 1))) (.b (.w [1]) (.w [1])) zr
      have lt:∀ {p q:Nat},p < q→q < xs.length + ys.length + 1→((xs ++ z :: ys).getD p default).1 < ((xs ++ z :: ys).getD q default).1:=fun {p q} h1 h2=>by
        rw [List.getD_eq_getElem?_getD,List.getD_eq_getElem?_getD,List.getElem?_eq_getElem (by exact ln [_,_,_,_,_] [] [.eq (.v 0) (.a (.a (.v 1) (.v 2)) (.k 1)),.lt (.v 3) (.v 4),.lt (.v 4) (.a (.a (.v 1) (.v 2)) (.k 1))] (.lt (.v 3) (.v 0)) (.w [1,1,0,1,1]) zr hL h1 h2),List.getElem?_eq_getElem (by exact ln [_,_,_,_] [] [.eq (.v 0) (.a (.a (.v 1) (.v 2)) (.k 1)),.lt (.v 3) (.a (.a (.v 1) (.v 2)) (.k 1))] (.lt (.v 3) (.v 0)) (.w [1,0,1,1]) zr hL h2)]
        exact (List.pairwise_iff_getElem.mp hs) p q (by exact ln [_,_,_,_,_] [] [.eq (.v 0) (.a (.a (.v 1) (.v 2)) (.k 1)),.lt (.v 3) (.v 4),.lt (.v 4) (.a (.a (.v 1) (.v 2)) (.k 1))] (.lt (.v 3) (.v 0)) (.w [1,1,0,1,1]) zr hL h1 h2) (by exact ln [_,_,_,_] [] [.eq (.v 0) (.a (.a (.v 1) (.v 2)) (.k 1)),.lt (.v 3) (.a (.a (.v 1) (.v 2)) (.k 1))] (.lt (.v 3) (.v 0)) (.w [1,0,1,1]) zr hL h2) h1
      rcases Nat.lt_or_gt_of_ne (rk_ne (r:=xs.length) hi hj hij) with q | q
      · have:=lt (pi_lt hi hj q) b2
        exact ⟨Int.ne_of_lt this,by rw [decide_eq_true this,decide_eq_true q]⟩
      · have:=lt (pi_lt hj hi q) b1
        exact ⟨Int.ne_of_gt this,by rw [decide_eq_false (Int.not_lt.mpr (Int.le_of_lt this)),decide_eq_false (Nat.not_lt.mpr (Nat.le_of_lt q))]⟩
    · have e3:((xs ++ ys) ++ [z]).length=((vx ++ vy) ++ [vz]).length:=by simp; exact ln [_,_,_,_] [] [.eq (.v 0) (.v 1),.eq (.v 2) (.v 3)] (.eq (.a (.v 1) (.a (.v 3) (.k 1))) (.a (.v 0) (.a (.v 2) (.k 1)))) (.b (.w [1,0,1,0,1]) (.w [0,1,0,1,1])) zr lx ly
      rw [e3,last_map (by rw [List.length_append]; exact ln [_,_,_] [] [.eq (.v 0) (.v 1)] (.le (.v 1) (.a (.v 0) (.v 2))) (.w [0,1,1]) zr lx),← lx,List.take_left,List.drop_left] at N'
      exact N'
end
section
variable {cb:Bool} {α β:Type} {M:Model} {A:Around} {Γ:Ctx} {E:Value→Shared→Prop} {s:Shared} {env:Env}
noncomputable abbrev FlowsTo (Q:Flow→Shared→Prop):Result→Shared→Prop:=fun r s'=>match r with | .ok f=>Q f s' | .error _=>False
theorem at_run {c:Code} {Q:Flow→Shared→Prop} (h:∀ p,codeAt M (Γ.enter c none p) (FlowsTo Q) s):wpAt M Γ (run c none) Q E s:=fun p=>by
  rw [Sem.wp_run]
  exact wpCode_mono (fun r s' hr=>by cases r with | ok f=>exact hr | error e=>exact hr.elim) (h p p)
theorem at_runOwn {c:Code} {Q:Flow→Shared→Prop} (h:∀ p,codeAt M (Γ.enter c none p) (FlowsTo Q) s):wpAt M Γ (runOwn c env) Q E s:=by
  unfold runOwn
  exact at_onRaise (at_run h)
end
section
variable {cb:Bool} {prog:Program} {w:World} {A:Around} {Γ:Ctx} {E:Value→Shared→Prop} {s:Shared} {env:Env} {h₀:Heap} {target:Expr} {body:List Stmt}
noncomputable def forC (target:Expr) (it:Value) (body:List Stmt) (env:Env):Code:=.forLoop target it body [] env
noncomputable def LoopC (cb:Bool) (prog:Program) (w:World) (A:Around) (target:Expr) (body:List Stmt) (env:Env) (Q:Flow→Shared→Prop) (it:Value) (s:Shared):Prop:=
  ∀ Γ:Ctx,Γ.code=forC target it body env→Γ.Below A→Clean cb Γ→codeAt (model prog w) Γ (FlowsTo Q) s
theorem at_turn {it:Value} {Q:Flow→Shared→Prop}
    (h:∀ Γ:Ctx,Γ.code=forC target it body env→Γ.In A→Clean cb Γ→wpAt (model prog w) Γ (pyNext it) (fun r s₁=>match r with
      | none=>Q .next s₁
      | some v=>wpAt (model prog w) Γ (letOwnedTupleGo target it v) (fun _ s₂=>wpAt (model prog w) Γ (assign target env v) (fun _ s₃=>wpAt (model prog w) Γ (execs body env) (fun f s₄=>match f with
        | .next | .cont=>LoopC cb prog w A target body env Q it s₄
        | .brk=>Q .next s₄
        | .ret v=>Q (.ret v) s₄) (fun _ _=>False) s₃) (fun _ _=>False) s₂) (fun _ _=>False) s₁) (fun _ _=>False) s):LoopC cb prog w A target body env Q it s:=by
  intro Γ hc hB hC
  have hI:=hB.in
  rw [hc] at hI
  have hI:Γ.In A:=hI
  refine code_at_tree (t:=(forTurn target it body [] env).onRaise (fun x=>do noteFrame x env; theTreesLotGoes x)) (by rw [hc]; rfl) ?_
  refine at_onRaise ?_
  unfold forTurn
  refine at_bind (at_standAt (at_bind (at_onRaise (at_mono (h Γ hc hI hC) (fun r s₁ h₁=>?_) fun _ _ x=>x.elim))))
  cases r with
  | none =>
    refine at_pure ⟨rfl,?_⟩
    exact code_at_any (A:=A) rfl (hB.goto _) (codeAny_block (wpAny_execs_nil h₁))
  | some v =>
    refine at_bind (at_mono h₁ (fun _ s₂ h₂=>?_) fun _ _ x=>x.elim)
    refine at_bind (at_mono h₂ (fun _ s₃ h₃=>?_) fun _ _ x=>x.elim)
    refine at_bind (at_mono h₃ (fun f s₄ h₄=>?_) fun _ _ x=>x.elim)
    cases f with
    | next=>exact at_pure ⟨rfl,h₄ _ rfl (hB.goto _) (hC.goto rfl)⟩
    | cont=>exact at_pure ⟨rfl,h₄ _ rfl (hB.goto _) (hC.goto rfl)⟩
    | brk=>exact at_pure h₄
    | ret v=>exact at_pure h₄
end
section
variable {cb:Bool} {prog:Program} {w:World} {A:Around} {Γ:Ctx} {E:Value→Shared→Prop} {s:Shared} {env:Env}
theorem at_attempt {α:Type} {m:Sem α} {Q:Except Value α→Shared→Prop} (h:wpAt (model prog w) Γ m (fun a=>Q (.ok a)) (fun e=>Q (.error e)) s):wpAt (model prog w) Γ m.attempt Q E s:=fun p=>by
  rw [Sem.wp_attempt]; exact h p
theorem at_run2 {c:Code} {Q:Flow→Shared→Prop} (h:∀ p,codeAt (model prog w) (Γ.enter c none p) (fun r s'=>match r with | .ok f=>Q f s' | .error e=>E e s') s):wpAt (model prog w) Γ (run c none) Q E s:=fun p=>by
  rw [Sem.wp_run]
  exact h p p
theorem at_If {test:Expr} {body orelse:List Stmt} {pos:Pos} {Q:Flow→Shared→Prop}
    (h:wpAt (model prog w) Γ (isTrue test env (eval test env)) (fun b s₂=>if b then wpAt (model prog w) Γ (execs body env) Q E s₂ else wpAt (model prog w) Γ (execs orelse env) Q E s₂) E s) :
    wpAt (model prog w) Γ (exec (.If test body orelse pos) env) Q E s:=by
  rw [exec_If]
  refine at_bind (at_standAt (at_bind (at_mono h (fun b s₂ h₂=>?_) fun _ _ e=>e)))
  cases b
  · exact h₂
  · exact h₂
theorem at_Expr {e:Expr} {pos:Pos} {Q:Flow→Shared→Prop} (hI:Γ.In A) (h:wpAt (model prog w) Γ (eval e env) (fun _=>Q .next) E s)
    (hi:interactive env=false:=by rfl) (hs:swapsWith e none pos.line env=pure false:=by rfl):wpAt (model prog w) Γ (exec (.Expr e pos) env) Q E s:=by
  rw [exec_Expr env e pos hi hs]
  exact at_bind (at_standAt (at_bind (at_mono h (fun v s' h'=>at_any hI (wpAny_dropValue h')) fun _ _ x=>x)))
theorem at_Method {o:Expr} {name:Str} {apos pos:Pos} {args:List Expr} {pl:Sem Bool} {Q:Value→Shared→Prop} (hI:Γ.In A)
    (h:wpAny (model prog w) A (eval o env) (fun ov s₁=>wpAny (model prog w) A (getMethod ov name pl) (fun fx s₂=>wpAt (model prog w) Γ (callWith pos fx.1 fx.2 (backTo pos (starEach args env)) []) Q E s₂) E s₁) E s)
    (he:eval (.Call (.Attribute o name apos) args [] pos) env=(do
      let ov ← eval o env
      standAt apos.atName
      let (f,first) ← holding [ov] (getMethod ov name pl)
      callWith pos f first (backTo pos (starEach args env)) []):=by rfl) :
    wpAt (model prog w) Γ (eval (.Call (.Attribute o name apos) args [] pos) env) Q E s:=by
  rw [he]
  refine at_bind (at_mono (at_any hI h) (fun ov s₁ h₁=>at_bind (at_standAt (at_bind (at_holding (at_mono (at_any hI h₁) (fun fx s₂ h₂=>?_) fun _ _ x=>x))))) fun _ _ x=>x)
  exact h₂
end
section
variable {cb:Bool} {prog:Program} {w:World} {A:Around} {Γ:Ctx} {E:Value→Shared→Prop} {R:Result→Shared→Prop} {s:Shared} {h₀:Heap} {m:Str→Option Value} {news:List (Addr × Obj)}
noncomputable def CompC (cb:Bool) (prog:Program) (w:World) (A:Around) (e:Expr) (it acc:Value) (env:Env) (R:Result→Shared→Prop) (s:Shared):Prop:=
  ∀ Γ:Ctx,Γ.code=.compLoop e 0 it acc env→Γ.Below A→Clean cb Γ→codeAt (model prog w) Γ R s
end
section
variable {cb:Bool} {prog:Program} {w:World} {A:Around} {Γ:Ctx} {E:Value→Shared→Prop} {s:Shared} {env:Env} {h₀:Heap} {L:Addr} {m:Str→Option Value}
end
end Mine
section
namespace Mine
section
variable {W:Wd} {T:Tab} {x:Ac} {Γ:Ctx} {n:Nat} {c:Cf} {E:Value→Shared→Prop} {P:List (Addr × Obj)}
theorem isK_str {v:SV} (h:isK 1 v=true):∃ y,v=.d (.str y):=by
  cases v with
  | d q=>cases q with
    | str y=>exact ⟨y,rfl⟩
    | _=>cases h
  | _=>cases h
theorem isK_bytes {v:SV} (h:isK 2 v=true):∃ y,v=.d (.bytes y):=by
  cases v with
  | d q=>cases q with
    | bytes y=>exact ⟨y,rfl⟩
    | _=>cases h
  | _=>cases h
theorem meth_snd (TO:TabOK W T) (ok:x.Ok W Γ n) (S:St W x c) {v:SV} {u:Value} {a:Str} {k:SV→Prop} {pl:Sem Bool} {Q:Value × List Value→Shared→Prop} (hv:DV W c v u) (h:methV T v a c.σ k)
    (G:∀ f fu,k f→DV W c f fu→Q (fu,[u]) c.s):wpAny W.M x.ar (getMethod u a pl) Q E c.s:=by
  obtain ⟨P,S⟩:=S
  rcases bite_or h with ⟨_,h⟩ | ⟨_,h⟩
  · refine S.nOC h hv fun i ad e₁ e₂ so o e1 p1 r1 ho hm h₂=>?_
    subst e₁ e₂
    have h:=h₂
    have lst:∀ {vs:List Value} {j:Nat},o=listOf (List.toArray vs) j→bite (eqS a "append") (k (.bi .append)) (bite (eqS a "extend") (k (.bi .extend)) (req (eqS a "pop") (k (.bi .pop))))→wpAny W.M x.ar (getMethod (.ref ad) a pl) Q E c.s:=fun e h=>by
      subst e
      rcases bite_or h with ⟨e2,h⟩ | ⟨_,h⟩
      · cases eqS_iff.mp e2
        exact listMethod_K S.news hm PySem.F.slot_list_append PySem.F.type_list_append (G _ _ h (.a1 (.bi .append)))
      · rcases bite_or h with ⟨e2,h⟩ | ⟨_,h⟩
        · cases eqS_iff.mp e2
          exact listMethod_K S.news hm PySem.F.slot_list_extend PySem.F.type_list_extend (G _ _ h (.a1 (.bi .extend)))
        · obtain ⟨e2,h⟩:=req1 h
          cases eqS_iff.mp e2
          exact listMethod_K S.news hm PySem.F.slot_list_pop PySem.F.type_list_pop (G _ _ h (.a1 (.bi .pop)))
    cases so with
    | inst cl dx =>
      refine nOpt_el h fun so2 e2 h=>?_
      obtain ⟨es,rfl,h⟩:=oAttrs_iff h
      refine nOpt_el h fun cr e3 h=>?_
      obtain ⟨h1,h⟩:=reqN h
      refine nOpt_el h fun f e5 h=>?_
      obtain ⟨d,vs,j,_,I,hvs⟩:=S.inst ho hm e2
      have CO:=TO.cl cl cr e3
      obtain ⟨g1,g2⟩:=CO.meth a f e5
      have g:=getL_of hvs (y:=a)
      cases e4:lookS a es with
      | some w=>rw [e4] at h1; cases h1
      | none =>
        rw [e4] at g
        exact method_inst S.fr ok.X I (CO.get a) g1 g2 g (G _ _ h (.a1 (.ref f)))
    | list l =>
      obtain ⟨vs,j,e,_⟩:=ho
      refine lst e ?_
      rcases bite_or h with ⟨e2,h⟩ | ⟨e2,h⟩
      · rw [e2]; exact h
      · obtain ⟨e3,h⟩:=req1 h; rw [e2,e3]; exact h
    | dlist ds=>obtain ⟨vs,j,e,_⟩:=ho; exact lst e h
    | _=>exact False.elim h
  · rcases bite_or h with ⟨_,h⟩ | ⟨_,h⟩
    · refine refA_el (C:=fun u=>(∀ f fu,k f→DV W c f fu→Q (fu,[u]) c.s)→wpAny W.M x.ar (getMethod u a pl) Q E c.s) h hv (fun b h G=>?_) G
      refine nOpt_el h fun l e1 h=>?_
      obtain ⟨e2,h⟩:=req1 h
      cases eqS_iff.mp e2
      exact TO.awM b l e1 _ _ _ _ _ (ok.X.keeps S.fr.keep) (G _ _ h (.a1 (.bi .get)))
    · rcases bite_or h with ⟨e1,h⟩ | ⟨_,h⟩
      · obtain ⟨e2,h⟩:=req1 h
        cases eqS_iff.mp e2
        obtain ⟨y,rfl⟩:=isK_str e1
        obtain ⟨t,rfl⟩:=den_str hv
        exact gm_encode (G _ _ h (.a1 (.bi .encode)))
      · obtain ⟨e1,h⟩:=req1 h
        obtain ⟨e2,h⟩:=req1 h
        cases eqS_iff.mp e2
        obtain ⟨y,rfl⟩:=isK_bytes e1
        obtain ⟨t,rfl⟩:=den_bytes hv
        exact gm_join (G _ _ h (.a1 (.bi .join)))
noncomputable def Keeps (M:Model) (h:Heap) (f:Value):Prop:=∃ k,(k=Keeper.frame ∨ k=Keeper.machine ∨ k=Keeper.boundFrame) ∧ Looks M h (keeperOf f) k
theorem keeps_bi (M:Model) (h:Heap) (b:Bn):Keeps M h b.val:=by
  refine ⟨.machine,.inr (.inl rfl),?_⟩
  cases b <;> exact .now
theorem at_evalArgsG {M:Model} {f:Value} {args:List (Bool × Sem Value)} {Q:Args→Shared→Prop} {s:Shared} (hall:args.any (·.1)=false) (h:wpAt M Γ (spliced args) (fun vs s'=>Q ⟨vs,[]⟩ s') E s):wpAt M Γ (evalArgs f true args []) Q E s:=by
  cases args with
  | nil =>
    refine at_evalArgs0 ?_
    exact h default
  | cons a r =>
    obtain ⟨b,t⟩:=a
    cases b with
    | true=>simp at hall
    | false=>exact at_evalArgs h
theorem at_callG {prog:Program} {w:World} {A:Around} {pos:Pos} {f:Value} {first:List Value} {args:List (Bool × Sem Value)} {Q:Value→Shared→Prop} {s:Shared} (hI:Γ.In A) (hall:args.any (·.1)=false)
    (h:wpAt (model prog w) Γ (spliced args) (fun vs s₁=>Keeps (model prog w) s₁.heap f ∧ wpAt (model prog w) Γ (call f (first ++ vs)) Q E s₁) E s) :
    wpAt (model prog w) Γ (callWith pos f first args []) Q E s:=by
  unfold callWith
  refine at_bind (m:=holding (f :: first) (evalArgs f true args [])) (at_holding (at_evalArgsG hall (at_mono h (fun vs s₁ h₁=>at_bind (at_standAt ?_)) fun _ _ x=>x)))
  refine byC fun zC zk=>?_
  obtain ⟨⟨k,hk,L⟩,h3⟩:=h₁
  refine zk ?_
  refine at_bind (m:=keeperOf f) (at_any hI (L.here ?_))
  rw [hall]
  rcases hk with rfl | rfl | rfl
  · exact at_ite2 (at_ask h3) (at_ask (at_keep h3))
  · exact at_ask h3
  · exact at_ite2 (at_ask h3) (at_ask (at_keep h3))
noncomputable def DenF (W:Wd) (c:Cf) (fl:Fl) (f:Flow):Prop:=@Fl.rec (fun _=>Prop) (f=.next) (fun v=>∃ u,f=.ret u ∧ DV W c v u) (f=.brk) fl
structure Snd (W:Wd) (o:Ops) (n:Nat):Prop where
  ev:∀ {e:Expr} {c:Cf} {K:KV},o.ev e c.σ K→∀ {x:Ac} {Γ:Ctx} {Q E},x.Ok W Γ n→St W x c→Goes W x (DV W) c K Q→wpAt W.M Γ (eval e x.env) Q E c.s
  ts:∀ {e:Expr} {c:Cf} {K:KB},o.ts e c.σ K→∀ {x:Ac} {Γ:Ctx} {Q E},x.Ok W Γ n→St W x c→Goes W x DB c K Q→wpAt W.M Γ (isTrue e x.env (eval e x.env)) Q E c.s
  ex:∀ {l:List Stmt} {c:Cf} {K:KF},o.ex l c.σ K→∀ {x:Ac} {Γ:Ctx} {Q E},x.Ok W Γ n→x.cc=none→St W x c→GoesS W x (DenF W) c K Q→wpAt W.M Γ (execs l x.env) Q E c.s
  cl:∀ {f:SV} {args:List SV} {c:Cf} {K:KV},o.cl f args c.σ K→∀ {x:Ac} {Γ:Ctx} {Q E fu us},x.Ok W Γ n→St W x c→DV W c f fu→DL W c args us→Goes W x (DV W) c K Q →
    (∀ h,W.K.In h→Keeps W.M h fu) ∧ wpAt W.M Γ (call fu us) Q E c.s
end
end Mine
end
namespace Mine
section
variable {W:Wd} {T:Tab} {o:Ops} {x:Ac} {Γ:Ctx} {n:Nat} {c:Cf} {E:Value→Shared→Prop} {K:KV} {Q:Value→Shared→Prop}
theorem star_cons {e:Expr} {r:List Expr} {env:Env} (h:isStar e=false):starEach (e :: r) env=(false,eval e env) :: starEach r env:=by
  cases e <;> first | rfl | cases h
theorem noStar_cons {e:Expr} {r:List Expr} (h:noStar (e :: r)=true):isStar e=false ∧ noStar r=true:=by
  obtain ⟨a,b⟩:=Bool.and_eq_true_iff.mp (h:(!isStar e && noStar r)=true)
  exact ⟨by simpa using a,b⟩
theorem stars_no {pos:Pos} {env:Env} {l:List Expr} (h:noStar l=true):(backTo pos (starEach l env)).any (·.1)=false:=by
  induction l with
  | nil=>rfl
  | cons e r ih =>
    obtain ⟨h1,h2⟩:=noStar_cons h
    rw [star_cons h1]
    exact ih h2
theorem evs_snd (S0:Snd W o n) (ok:x.Ok W Γ n) {pos:Pos} {l:List Expr}:∀ {c:Cf} {K:KL} {Q:List Value→Shared→Prop},noStar l=true→evs o.ev l c.σ K→St W x c→Goes W x (DL W) c K Q→wpAt W.M Γ (spliced (backTo pos (starEach l x.env))) Q E c.s:=by
  induction l with
  | nil=>intro c K Q _ h S G; exact at_spliced_nil (G [] [] c h (Le.refl c) .nil S)
  | cons e r ih =>
    intro c K Q hn h S G
    obtain ⟨h1,h2⟩:=noStar_cons hn
    rw [star_cons h1]
    exact at_spliced_cons (S0.ev h ok S fun v u c1 h l1 d1 S1=>ih h2 h S1 fun vs us c2 h l2 d2 S2=>G _ _ c2 h (l1.trans l2) (.cons (d1.mono l2) d2) S2)
theorem base_of {v:Expr} {a:Str} {env:Env} {t:Sem Value} (h:Nat.beq (exK v) 7=false):attributeBase v a env t=t:=by
  cases v <;> first | rfl | cases h
theorem at_lget {base:Expr} {u r:Value} {Q:Unit→Shared→Prop} {s:Shared} (ok:x.Ok W Γ n) (h:Q () s):wpAt W.M Γ (letTemporaryGo base u r) Q E s:=at_any ok.hI (wpAny_letTemporaryGo h)
theorem attr_snd (S0:Snd W o n) (TO:TabOK W T) {v:Expr} {a:Str} {pos:Pos} (h:req (!Nat.beq (exK v) 7) (o.ev v c.σ fun u σ1=>getA T u a σ1 K)) (ok:x.Ok W Γ n) (S:St W x c) (G:Goes W x (DV W) c K Q) :
    wpAt W.M Γ (eval (.Attribute v a pos) x.env) Q E c.s:=by
  have h:=reqN h
  rw [arm_eval_Attribute,base_of h.1]
  refine at_bind (S0.ev h.2 ok S fun w u c1 h l1 d1 S1=>at_bind (at_standAt (at_bind (at_holding (at_any ok.hI (getA_snd TO ok S1 d1 h fun w2 u2 c2 h l2 d2 S2=>?_))))))
  exact at_bind (at_lget ok (at_pure (G _ _ c2 h (l1.trans l2) d2 S2)))
theorem sub_tail {value slice:Expr} {u i:Value} {s:Shared} (h:wpAt W.M Γ (subscriptTail value slice u i) Q E s):wpAt W.M Γ (do let r ← subscripted slice (← getitemInPython u) u i; letTemporaryGo value u r; pure r) Q E s:=h
theorem opt_snd (S0:Snd W o n) {e:Option Expr} (h:optV o.ev e c.σ K) (ok:x.Ok W Γ n) (S:St W x c) (G:Goes W x (DV W) c K Q) :
    wpAt W.M Γ (valueOrNone (evalOpt e x.env)) Q E c.s:=by
  cases e with
  | none=>exact at_pure (G _ _ c h (Le.refl c) .none S)
  | some e=>exact S0.ev h ok S G
theorem sub_snd (S0:Snd W o n) (TO:TabOK W T) {v i:Expr} {pos:Pos} (h:evV T o (.Subscript v i pos) c.σ K) (ok:x.Ok W Γ n) (S:St W x c) (G:Goes W x (DV W) c K Q) :
    wpAt W.M Γ (eval (.Subscript v i pos) x.env) Q E c.s:=by
  rw [arm_eval_Subscript]
  rcases bite_or (h:bite (Nat.beq (exK i) 6) _ _) with ⟨hi,h⟩ | ⟨hi,h⟩
  · obtain ⟨⟨l,r⟩,e,h⟩:=nOpt_iff h
    have:∃ p,i=.Slice l r none p:=by
      cases i with
      | Slice a b st p=>cases st with
        | none=>cases e; exact ⟨p,rfl⟩
        | some _=>cases e
      | _=>cases e
    obtain ⟨p,rfl⟩:=this
    refine at_bind (S0.ev h ok S fun w u c1 h l1 d1 S1=>at_bind (at_holding ?_))
    rw [arm_eval_Slice]
    refine at_bind (opt_snd S0 h ok S1 fun w2 u2 c2 h l2 d2 S2=>at_bind (at_holding (opt_snd S0 h ok S2 fun w3 u3 c3 h l3 d3 S3=>at_bind (at_holding (at_pure ?_)))))
    refine at_any ok.hI (wpAny_newObj_type (at_bind (at_standAt ?_)))
    exact sub_tail (at_any ok.hI (slice_snd S3 (d1.mono (l2.trans l3)) (d2.mono l3) d3 h (G.mono (l1.trans (l2.trans l3)))))
  · refine at_bind (S0.ev h ok S fun w u c1 h l1 d1 S1=>at_bind (at_holding (S0.ev h ok S1 fun w2 u2 c2 h l2 d2 S2=>at_bind (at_standAt ?_))))
    exact sub_tail (at_any ok.hI (getI_snd ok S2 hi (d1.mono l2) d2 h (G.mono (l1.trans l2))))
theorem binop_snd (S0:Snd W o n) {l r:Expr} {op:Operator} {pos:Pos} (h:o.ev l c.σ fun a σ1=>o.ev r σ1 fun b σ2=>binV op a b σ2 K) (ok:x.Ok W Γ n) (S:St W x c) (G:Goes W x (DV W) c K Q) :
    wpAt W.M Γ (eval (.BinOp l op r pos) x.env) Q E c.s:=
  at_BinOp (S0.ev h ok S fun w u c1 h l1 d1 S1=>S0.ev h ok S1 fun w2 u2 c2 h l2 d2 S2=>at_any ok.hI (bin_snd S2 (d1.mono l2) d2 h (G.mono (l1.trans l2))))
theorem un_snd (S0:Snd W o n) {op:UnaryOp} {e:Expr} {pos:Pos} (h:evV T o (.UnaryOp op e pos) c.σ K) (ok:x.Ok W Γ n) (S:St W x c) (G:Goes W x (DV W) c K Q) :
    wpAt W.M Γ (eval (.UnaryOp op e pos) x.env) Q E c.s:=by
  rw [arm_eval_UnaryOp]
  cases op with
  | Not=>exact at_bind (S0.ev h ok S fun w u c1 h l1 d1 S1=>at_bind (at_standAt (at_holding (nB_el (C:=fun u=>wpAt W.M Γ (unaryOp .Not u) Q E c1.s) h d1 fun b _ h=>at_any ok.hI (not_of (wpAny_truthy_bool (G _ _ c1 h l1 (.bool _) S1)))))))
  | USub=>exact at_bind (S0.ev h ok S fun w u c1 h l1 d1 S1=>at_bind (at_standAt (at_holding (nI_el (C:=fun u=>wpAt W.M Γ (unaryOp .USub u) Q E c1.s) h d1 fun z t h=>at_any ok.hI (neg_int ((G.mono l1).here S1 _ h (.int _ _)))))))
  | _=>exact False.elim h
theorem boolW_snd (S0:Snd W o n) (ok:x.Ok W Γ n) {op:BoolOp} {pos:Pos} {r:List Expr}:∀ {e:Expr} {c:Cf},allW o.ev (decide (op=.And)) e r c.σ K→St W x c→Goes W x (DV W) c K Q→wpAt W.M Γ (boolOp pos op (evalEach (e :: r) x.env)) Q E c.s:=by
  induction r with
  | nil=>intro e c h S G; exact S0.ev h ok S G
  | cons e2 r ih =>
    intro e c h S G
    show wpAt W.M Γ (do
      let v ← eval e x.env
      standAt pos
      let t ← holding [v] (truthy v)
      match op,t with
      | .And,false | .Or,true=>pure v
      | _,_=>boolOp pos op (evalEach (e2 :: r) x.env)) Q E c.s
    refine at_bind (S0.ev h ok S fun w u c1 h l1 d1 S1=>at_bind (at_standAt ?_))
    obtain ⟨b,rfl,rfl,h⟩:=nB_den h d1
    refine at_bind (at_holding (at_any ok.hI (wpAny_truthy_bool ?_)))
    cases op <;> cases b
    · exact at_pure (G _ _ c1 h l1 d1 S1)
    · exact ih h S1 (G.mono l1)
    · exact ih h S1 (G.mono l1)
    · exact at_pure (G _ _ c1 h l1 d1 S1)
theorem marked_of {op:CmpOp} {e:Expr} {t:Sem Value} (h:isSet e=false):markedBehindIn op e t=t:=by
  unfold markedBehindIn
  have:behindInMarks op e=false:=by
    cases e <;> first | rfl | cases h
  rw [this]
theorem cmp1_snd (S0:Snd W o n) (TO:TabOK W T) {l:Expr} {ops:List CmpOp} {es:List Expr} {pos:Pos} (h:evV T o (.Compare l ops es pos) c.σ K) (ok:x.Ok W Γ n) (S:St W x c) (G:Goes W x (DV W) c K Q):wpAt W.M Γ (eval (.Compare l ops es pos) x.env) Q E c.s:=by
  obtain ⟨op,rfl,h⟩:=one_iff (h:one ops _)
  obtain ⟨r,rfl,h⟩:=one_iff h
  have h:=reqN h
  rw [arm_eval_Compare]
  refine at_bind (S0.ev h.2 ok S fun w u c1 h2 l1 d1 S1=>?_)
  show wpAt W.M Γ (do
    let rv ← holding [u] (markedBehindIn op r (eval r x.env))
    standAt pos
    operate [u,rv] (compareOp op u rv)) Q E c1.s
  rw [marked_of h.1]
  exact at_bind (at_holding (S0.ev h2 ok S1 fun w2 u2 c2 h l2 d2 S2=>at_bind (at_standAt (at_operate (at_any ok.hI (cmp_snd TO ok S2 (d1.mono l2) d2 h fun r tk h=>(G.mono (l1.trans l2)).here S2 tk h (.bool r)))))))
theorem ifexp_snd (S0:Snd W o n) {t a b:Expr} {pos:Pos} (h:o.ts t c.σ fun t σ1=>bite t (o.ev a σ1 K) (o.ev b σ1 K)) (ok:x.Ok W Γ n) (S:St W x c) (G:Goes W x (DV W) c K Q) :
    wpAt W.M Γ (eval (.IfExp t a b pos) x.env) Q E c.s:=by
  rw [arm_eval_IfExp]
  refine at_bind (S0.ts h ok S fun t t' c1 h l1 e S1=>?_)
  cases (e:t=t')
  cases t with
  | true=>exact S0.ev h ok S1 (G.mono l1)
  | false=>exact S0.ev h ok S1 (G.mono l1)
theorem atoms_of {F:List (Addr × Obj)} {K:Frag} {ρ:List Addr} {l:List SV} {vs:List Value} (h:All2 (Den K F ρ) l vs) (ha:l.all isAtom=true):All2 (Den1 K F ρ) l vs:=
  h.sub ha fun v u hv d=>by
    cases d with
    | a1 d=>exact d
    | tup=>cases hv
    | lst=>cases hv
theorem mkTup_den {F:List (Addr × Obj)} {K:Frag} {ρ:List Addr} {l:List SV} {vs:List Value} {a:Addr} {k:Nat} (hm:(a,tupO vs k) ∈ F) (h:All2 (Den1 K F ρ) l vs):Den K F ρ (mkTup l) (.ref a):=by
  unfold mkTup
  cases e:datsOf toDat1 l with
  | some ds=>exact .a1 (.d (.tuple hm (dats1_of h e)))
  | none=>exact .tup hm h
theorem tuple_snd (S0:Snd W o n) {l:List Expr} {k:Nat} {pos:Pos} (h:evV T o (.Tuple l k pos) c.σ K) (ok:x.Ok W Γ n) (S:St W x c) (G:Goes W x (DV W) c K Q) :
    wpAt W.M Γ (eval (.Tuple l k pos) x.env) Q E c.s:=by
  have h:=req1 h
  rw [arm_eval_Tuple]
  refine at_bind (at_standAt (at_bind (evs_snd S0 ok h.1 h.2 S fun vs us c1 h l1 d1 S1=>?_)))
  have h:=reqLe h
  have h2:=req1 h.2
  have hl:=d1.len
  obtain ⟨P,S1⟩:=S1
  refine at_any ok.hI (kup_newTuple S1.fr S1.news (fun D h' F' N' hlt=>?_) (by rw [sizeLine_eq]; exact ln [_,_] [] [.le (.v 0) (.k 1000),.eq (.v 0) (.v 1)] (.le (.v 1) (.k 16777216)) (.w [0,1,1,1]) zr h.1 hl))
  exact G _ _ ⟨c1.ρ,c1.F ++ [(D,tupO us 0)],c1.J,c1.m,c1.σ,_⟩ h2.2 (l1.trans Le.data) (mkTup_den mem_snoc ((atoms_of d1 h2.1).imp fun _ _=>Den1.mono (Sub.snoc _ _) fun _ _ e=>e)) (S1.data c1.s.toks F' N' fun p hp=>Nat.ne_of_lt (hlt p hp))
theorem dats_of {l:List SV} {vs:List Value} (h:DL W c l vs):∀ {ds:List Dat},datsOf toDat l=some ds→DatAll c.F vs ds:=by
  induction h with
  | nil=>intro ds h; cases h; exact .nil
  | cons a r ih =>
    intro ds h
    obtain ⟨d,e1,h⟩:=Option.bind_eq_some_iff.mp h
    obtain ⟨es,e2,rfl⟩:=Option.map_eq_some_iff.mp h
    exact .cons (toDat_of e1 a) (ih e2)
theorem mkList_ok {l:List SV} {vs:List Value} {k:Nat} (h:DL W c l vs) {D:Addr}:ObjOK W c.F (c.ρ ++ [D]) (mkList l) (listOf (List.toArray vs) k):=by
  unfold mkList
  cases e:datsOf toDat l with
  | some ds=>exact ⟨vs,k,rfl,dats_of h e⟩
  | none=>exact ⟨vs,k,rfl,h.imp fun _ _=>Den.mono (fun _ h=>h) (Ext.snoc _ _)⟩
theorem list1_snd (S0:Snd W o n) {l:List Expr} {pos:Pos} (h:evV T o (.List l pos) c.σ K) (ok:x.Ok W Γ n) (S:St W x c) (G:Goes W x (DV W) c K Q) :
    wpAt W.M Γ (eval (.List l pos) x.env) Q E c.s:=by
  have h:=req1 h
  rw [arm_eval_List]
  refine at_bind (at_standAt (at_bind (evs_snd S0 ok h.1 h.2 S fun vs us c1 h l1 d1 S1=>?_)))
  have h:=reqLe h
  have hl:=d1.len
  obtain ⟨P,S1⟩:=S1
  refine at_any ok.hI (newList_N S1.fr S1.news (fun h' F' N'=>?_) (by rw [sizeLine_eq]; exact ln [_,_] [] [.le (.v 0) (.k 1000),.eq (.v 0) (.v 1)] (.le (.v 1) (.k 16777216)) (.w [0,1,1,1]) zr h.1 hl))
  have hlt:∀ p ∈ P ++ (c1.F ++ c1.J),p.1 ≠ c1.s.heap.objs.size:=fun p hp=>Nat.ne_of_lt (S1.off hp)
  rcases bite_or h.2 with ⟨_,h⟩ | ⟨_,h⟩
  · refine nOpt_el h fun ds e h=>?_
    exact G _ _ ⟨c1.ρ,c1.F ++ [(c1.s.heap.objs.size,listOf (List.toArray us) 0)],c1.J,c1.m,c1.σ,_⟩ h (l1.trans Le.data) (.a1 (.d (.list mem_snoc ((dats_of d1 e).mono (Sub.snoc _ _))))) (S1.data c1.s.toks F' N' hlt)
  · exact S1.newGo c1.s.toks F' N' hlt (mkList_ok d1) h (G.mono l1)
theorem called (S0:Snd W o n) {args:List Expr} {pos:Pos} {f:SV} {fu:Value} {first:List SV} {us0:List Value} (hn:noStar args=true) (h:evs o.ev args c.σ fun vs σ2=>o.cl f (first ++ vs) σ2 K) (ok:x.Ok W Γ n) (S:St W x c) (df:DV W c f fu) (d0:DL W c first us0) (G:Goes W x (DV W) c K Q) :
    wpAt W.M Γ (callWith pos fu us0 (backTo pos (starEach args x.env)) []) Q E c.s:=
  at_callG ok.hI (stars_no hn) (evs_snd S0 ok hn h S fun vs us c2 h l2 d2 S2=>by
    have C:=S0.cl h ok S2 (df.mono l2) ((d0.mono l2).app d2) (Q:=Q) (E:=E) (G.mono l2)
    obtain ⟨P,S2⟩:=S2
    exact ⟨C.1 _ (ok.X.keeps S2.fr.keep),C.2⟩)
theorem methcall (S0:Snd W o n) (TO:TabOK W T) {v:Expr} {a:Str} {ap pos:Pos} {args:List Expr} {K:SV→SV→Sy→Prop} (h1:Nat.beq (exK v) 7=false) (h2:args.length < 20) (h3:Nat.beq ap.endLine pos.line=true) (hn:noStar args=true) (h:o.ev v c.σ fun u σ1=>methV T u a σ1 fun f=>K u f σ1) (ok:x.Ok W Γ n) (S:St W x c)
    (G:∀ w u f fu c1,K w f c1.σ→Le c c1→DV W c1 w u→DV W c1 f fu→St W x c1→wpAt W.M Γ (callWith pos fu [u] (backTo pos (starEach args x.env)) []) Q E c1.s):wpAt W.M Γ (eval (.Call (.Attribute v a ap) args [] pos) x.env) Q E c.s:=by
  rw [arm_eval_Call,base_of h1]
  refine at_bind (S0.ev h ok S fun w u c1 h l1 d1 S1=>at_bind (at_standAt ?_))
  have hall:(backTo pos (starEach args x.env)).all (fun p=>!p.1)=true:=by
    rw [List.all_eq_not_any_not]
    have:=stars_no (pos:=pos) (env:=x.env) hn
    simpa using this
  have hfew:methodCallForm (args.length + ([]:List Keyword).length) (backTo pos (starEach args x.env)) (backToKw pos (keywordEach [] x.env))=true:=by
    unfold methodCallForm
    rw [hall]
    exact decide_eq_true (show args.length + 0 + 0 < 30 from Nat.lt_of_lt_of_le h2 (by decide))
  show wpAt W.M Γ (methodCall v a ap pos x.env u (args.length + ([]:List Keyword).length) (backTo pos (starEach args x.env)) (backToKw pos (keywordEach [] x.env))) Q E c1.s
  unfold methodCall
  rw [hfew]
  refine at_bind (at_holding ?_)
  show wpAt W.M Γ (getMethod u a (do return (← importBound v x.env).getD true)) _ E c1.s
  refine at_any ok.hI (meth_snd TO ok S1 d1 h fun f fu h df=>?_)
  dsimp only
  have hpos:methodCallPos true v x.env ap pos=pure pos:=by
    unfold methodCallPos
    rw [show (ap.endLine == pos.line)=true from beq_iff_eq.mpr (Nat.eq_of_beq_eq_true h3)]
    rfl
  rw [hpos]
  exact at_bind (at_pure (G w u f fu c1 h l1 d1 df S1))
theorem call_snd (S0:Snd W o n) (TO:TabOK W T) {f:Expr} {args:List Expr} {kw:List Keyword} {pos:Pos} (h:evV T o (.Call f args kw pos) c.σ K) (ok:x.Ok W Γ n) (S:St W x c) (G:Goes W x (DV W) c K Q) :
    wpAt W.M Γ (eval (.Call f args kw pos) x.env) Q E c.s:=by
  obtain ⟨hk,h⟩:=req1 (h:req kw.isEmpty _)
  cases List.isEmpty_iff.mp hk
  obtain ⟨hn,h⟩:=req1 h
  cases f with
  | Name y np =>
    rw [arm_eval_Call_Name']
    exact at_bind (S0.ev h ok S fun w u c1 h l1 d1 S1=>called S0 (first:=[]) hn h ok S1 d1 .nil (G.mono l1))
  | Attribute v a ap =>
    have h1:=reqN h
    have h2:=reqLt h1.2
    have h3:=req1 h2.2
    exact methcall S0 TO h1.1 h2.1 h3.1 hn h3.2 ok S fun w u f fu c1 h l1 d1 df S1=>called S0 (first:=[w]) hn h ok S1 df (.cons d1 .nil) (G.mono l1)
  | _=>exact False.elim h
end
section
variable {W:Wd} {T:Tab} {o:Ops} {x:Ac} {Γ:Ctx} {n:Nat} {c:Cf} {E:Value→Shared→Prop} {K:KV} {Q:Value→Shared→Prop}
theorem at_truth {b:Bool} {Q:Bool→Shared→Prop} {s:Shared} (ok:x.Ok W Γ n) (h:Q b s):wpAt W.M Γ (truthy (.bool b)) Q E s:=at_any ok.hI (wpAny_truthy_bool h)
theorem at_rel {vs us:List Value} {Q:Unit→Shared→Prop} {s:Shared} (ok:x.Ok W Γ n) (h:Q () s):wpAt W.M Γ (release vs us) Q E s:=at_any ok.hI (wpAny_release' h)
theorem allT_snd (S0:Snd W o n) (ok:x.Ok W Γ n) {op:BoolOp} {l:List Expr}:∀ {c:Cf} {K:KB} {Q:Bool→Shared→Prop},allT o.ts (decide (op=.And)) l c.σ K→St W x c→Goes W x DB c K Q→wpAt W.M Γ (allTrue op l x.env) Q E c.s:=by
  induction l with
  | nil=>intro c K Q h S G; cases op <;> exact at_pure (G _ _ c h (Le.refl c) rfl S)
  | cons e r ih =>
    intro c K Q h S G
    show wpAt W.M Γ (do
      match op,← isTrue e x.env (eval e x.env) with
      | .And,false=>pure false
      | .Or,true=>pure true
      | _,_=>allTrue op r x.env) Q E c.s
    refine at_bind (S0.ts h ok S fun b b' c1 h l1 eb S1=>?_)
    cases (eb:b=b')
    cases op <;> cases b
    · exact at_pure (G _ _ c1 h l1 rfl S1)
    · exact ih h S1 (G.mono l1)
    · exact ih h S1 (G.mono l1)
    · exact at_pure (G _ _ c1 h l1 rfl S1)
theorem chainT_snd (S0:Snd W o n) (TO:TabOK W T) (ok:x.Ok W Γ n) {pos:Pos} {es:List Expr}:∀ {ops:List CmpOp} {v:SV} {u:Value} {c:Cf} {K:KB} {Q:Bool→Shared→Prop},chainT o.ev v ops es c.σ K→DV W c v u→St W x c→Goes W x DB c K Q →
    wpAt W.M Γ (testChain pos u ops (markedEach ops es (evalEach es x.env))) Q E c.s:=by
  induction es with
  | nil=>intro ops v u c K Q h; cases ops <;> exact False.elim h
  | cons e es ih =>
    intro ops v u c K Q h dv S G
    cases ops with
    | nil=>exact False.elim h
    | cons op ops =>
      have h:=reqN (h:req (!isSet e) _)
      cases ops with
      | nil =>
        cases es with
        | cons e2 es =>
          show wpAt W.M Γ (do
            let rv ← holding [u] (eval e x.env)
            standAt pos
            let c ← holding [u,rv] (compareOp op u rv)
            release [u,rv] [c]
            if ← holding [c,rv] (truthy c) then testChain pos rv [] (markedEach [] (e2 :: es) (evalEach (e2 :: es) x.env)) else pure false) Q E c.s
          refine at_bind (at_holding (S0.ev h.2 ok S fun w2 u2 c1 h1 l1 d1 S1=>at_bind (at_standAt (at_bind (at_holding (at_any ok.hI (cmp_snd TO ok S1 (dv.mono l1) d1 h1 fun r tk h=>False.elim ?_)))))))
          exact (h:False)
        | nil =>
          show wpAt W.M Γ (do
            let rv ← holding [u] (markedBehindIn op e (eval e x.env))
            standAt pos
            let c ← operate [u,rv] (compareOp op u rv)
            holding [c] (truthy c)) Q E c.s
          rw [marked_of h.1]
          exact at_bind (at_holding (S0.ev h.2 ok S fun w2 u2 c1 h1 l1 d1 S1=>at_bind (at_standAt (at_bind (at_operate (at_any ok.hI (cmp_snd TO ok S1 (dv.mono l1) d1 h1 fun r tk h=>at_holding (at_truth ok (G _ _ { c1 with s:={ c1.s with toks:=tk } } h (l1.trans Le.here) rfl (S1.tok tk))))))))))
      | cons op2 ops =>
        have hm:markedEach (op :: op2 :: ops) (e :: es) (evalEach (e :: es) x.env)=eval e x.env :: markedEach (op2 :: ops) es (evalEach es x.env):=by cases es <;> rfl
        rw [hm]
        show wpAt W.M Γ (do
          let rv ← holding [u] (eval e x.env)
          standAt pos
          let c ← holding [u,rv] (compareOp op u rv)
          release [u,rv] [c]
          if ← holding [c,rv] (truthy c) then testChain pos rv (op2 :: ops) (markedEach (op2 :: ops) es (evalEach es x.env)) else pure false) Q E c.s
        refine at_bind (at_holding (S0.ev h.2 ok S fun w2 u2 c1 h1 l1 d1 S1=>at_bind (at_standAt (at_bind (at_holding (at_any ok.hI (cmp_snd TO ok S1 (dv.mono l1) d1 h1 fun r tk h=>at_bind (at_rel ok (at_bind (at_holding (at_truth ok ?_)))))))))))
        cases r with
        | true=>exact ih (c:={ c1 with s:={ c1.s with toks:=tk } }) h d1 (S1.tok tk) (G.mono (l1.trans Le.here))
        | false=>exact at_pure (G _ _ { c1 with s:={ c1.s with toks:=tk } } h (l1.trans Le.here) rfl (S1.tok tk))
noncomputable def PairsOK (W:Wd) (c:Cf) (p:Str × SV) (e:Value × Value):Prop:=(∃ t,e.1=.str p.1 t) ∧ DV W c p.2 e.2
theorem pairs_str {es:List (Str × SV)} {vs:List (Value × Value)} (h:All2 (PairsOK W c) es vs):allStrKeys vs=true ∧ All2 (KvOK W c.F c.ρ) es (strPairs vs) ∧ (strPairs vs).map (·.1)=es.map (·.1):=by
  induction h with
  | nil=>exact ⟨rfl,.nil,rfl⟩
  | @cons p e _ _ hp _ ih =>
    obtain ⟨k,v⟩:=e
    obtain ⟨⟨t,ht⟩,hv⟩:=hp
    obtain rfl:k=.str _ t:=ht
    exact ⟨ih.1,.cons ⟨rfl,hv⟩ ih.2.1,congrArg (p.1 :: ·) ih.2.2⟩
theorem keyS_eq {k:Option Expr} {y:Str} (h:keyS k=some y):∃ n p,k=some (.Constant (.str y) n p):=by
  cases k with
  | none=>cases h
  | some e=>cases e with
    | Constant v n p=>cases v with
      | str z=>cases h; exact ⟨n,p,rfl⟩
      | _=>cases h
    | _=>cases h
theorem dictV_snd (S0:Snd W o n) (ok:x.Ok W Γ n) {pos:Pos} {ks:List (Option Expr)}:∀ {es:List Expr} {c:Cf} {K:List (Str × SV)→Sy→Prop} {Q:List (Value × Value)→Shared→Prop},ks.length=es.length→dictV o.ev ks es c.σ K→St W x c →
    Goes W x (fun c ps vs=>All2 (PairsOK W c) ps vs) c K Q→wpAt W.M Γ (evalPairs (pairTrees ks es x.env pos)) Q E c.s:=by
  induction ks with
  | nil =>
    intro es c K Q hl h S G
    cases es with
    | nil=>exact at_pure (G [] [] c h (Le.refl c) .nil S)
    | cons _ _=>cases hl
  | cons k ks ih =>
    intro es c K Q hl h S G
    cases es with
    | nil=>cases hl
    | cons e es =>
    have h:nOpt (keyS k) fun y=>o.ev e c.σ fun v σ1=>dictV o.ev ks es σ1 fun r σ2=>K ((y,v) :: r) σ2:=h
    refine nOpt_el h fun y e1 h=>?_
    obtain ⟨n9,p,rfl⟩:=keyS_eq e1
    show wpAt W.M Γ (do
      let kv ← eval (.Constant (.str y) n9 p) x.env
      let vv ← holding [kv] (do let v ← eval e x.env; standAt pos; pure v)
      return (kv,vv) :: (← holding [kv,vv] (evalPairs (pairTrees ks es x.env pos)))) Q E c.s
    refine at_bind (at_any ok.hI (Calls.Constant_str ?_))
    have S1:=S.tok (c.s.toks + 1)
    refine at_bind (at_holding (at_bind (S0.ev (c:={ c with s:={ c.s with toks:=c.s.toks + 1 } }) h ok S1 fun w2 u2 c2 h l2 d2 S2=>at_bind (at_standAt (at_pure ?_)))))
    exact at_bind (at_holding (ih (Nat.succ.inj hl) h S2 fun ps vs c3 h l3 d3 S3=>at_pure (G _ _ c3 h ((Le.here.trans l2).trans l3) (.cons ⟨⟨_,rfl⟩,d2.mono l3⟩ d3) S3)))
theorem nodupS_of {l:List (Str × SV)} (h:nodupS l=true):(l.map (·.1)).Nodup:=by
  induction l with
  | nil=>exact List.nodup_nil
  | cons p r ih =>
    obtain ⟨a,b⟩:=Bool.and_eq_true_iff.mp (h:(!(r.any fun q=>eqS q.1 p.1) && nodupS r)=true)
    refine List.nodup_cons.mpr ⟨fun hm=>?_,ih b⟩
    obtain ⟨q,hq,e⟩:=List.mem_map.mp hm
    have:(r.any fun q=>eqS q.1 p.1)=true:=List.any_eq_true.mpr ⟨q,hq,eqS_iff.mpr e⟩
    rw [this] at a
    cases a
theorem at_pairsLen {pairs:List (Sem Value × Sem Value)} {Q:List (Value × Value)→Shared→Prop} {s:Shared} (h:wpAt W.M Γ (evalPairs pairs) Q E s):wpAt W.M Γ (evalPairs pairs) (fun vs s'=>vs.length=pairs.length ∧ Q vs s') E s:=
  fun p=>wp_evalPairs_len _ Γ pairs _ _ p s (h p)
theorem newDict_St (S:St W x c):St W x { c with ρ:=c.ρ ++ [c.s.heap.objs.size],σ:=c.σ.new (.ddict []),s:={ c.s with heap:=c.s.heap.push { cls:=.type "dict",data:=.dict #[] } } } ∧ (c.ρ ++ [c.s.heap.objs.size])[c.σ.hp.length]?=some c.s.heap.objs.size:=by
  obtain ⟨P,S⟩:=S
  refine ⟨S.new (so:=.ddict []) c.s.toks (S.fr.push _) (News.push S.fr S.news _) (fun p hp=>Nat.ne_of_lt (S.off hp)) ⟨[],?_,.nil⟩,S.newObj⟩
  obtain ⟨o,ho,hd⟩:=Heap.dictOf_iff.mp (Heap.DictOf.new (knd:=strKind W.prog W.w) c.s.heap)
  rw [Heap.get?_push_size _ rfl] at ho
  exact (Option.some.inj ho) ▸ hd
theorem dictD_snd (S0:Snd W o n) {ks:List (Option Expr)} {vs:List Expr} {pos:Pos} (h:evV T o (.Dict ks vs pos) c.σ K) (ok:x.Ok W Γ n) (S:St W x c) (G:Goes W x (DV W) c K Q):wpAt W.M Γ (eval (.Dict ks vs pos) x.env) Q E c.s:=by
  refine byC fun zC zk=>?_
  obtain ⟨S1,r1⟩:=newDict_St S
  refine zk ?_
  rcases bite_or h with ⟨e1,h⟩ | ⟨e1,h⟩
  · refine byC fun zC zk=>?_
    obtain ⟨e2,h⟩:=req1 h
    refine zk ?_
    cases List.isEmpty_iff.mp e1
    cases List.isEmpty_iff.mp e2
    exact at_any ok.hI (wpAny_Dict_empty (G _ _ ⟨c.ρ ++ [c.s.heap.objs.size],c.F,c.J,c.m,c.σ.new (.ddict []),_⟩ h Le.new (.a1 (.obj r1)) S1))
  · refine byC fun zC zk=>?_
    obtain ⟨e2,h⟩:=req1 h
    obtain ⟨hl,e2⟩:=Bool.and_eq_true_iff.mp e2
    obtain ⟨hz,ha⟩:=Bool.and_eq_true_iff.mp e2
    refine zk ?_
    have hl:=Nat.eq_of_beq_eq_true hl
    have hz:=Nat.le_of_ble_eq_true hz
    have ha:ks.all (·.isSome)=true:=List.all_eq_true.mpr fun k hk=>by
      have:=List.all_eq_true.mp ha k hk
      cases k with
      | none=>cases this
      | some _=>rfl
    have hn:=pairTrees_length ks vs x.env pos ha hl
    have hp0:pairTrees ks vs x.env pos ≠ []:=by
      intro he
      rw [he] at hn
      cases ks with
      | nil=>cases e1
      | cons _ _=>cases hn
    rw [arm_eval_Dict,zip_pairTrees ks vs x.env pos ha hl,dictDisplay_pairs _ hp0 (by exact ln [_,_] [] [.le (.v 0) (.k 12),.eq (.v 1) (.v 0)] (.lt (.v 1) (.k 17)) (.w [1,0,1,1]) zr hz hn)]
    refine at_bind (at_standAt (at_bind ?_))
    unfold subDict
    refine at_bind (at_any ok.hI (wpAny_alloc (at_bind (at_holding ?_))))
    rw [if_pos (by exact ln [_,_] [] [.le (.v 0) (.k 12),.eq (.v 1) (.v 0)] (.le (.v 1) (.k 15)) (.w [1,0,1,1]) zr hz hn)]
    refine at_bind (at_mono (at_pairsLen (dictV_snd (c:=⟨c.ρ ++ [c.s.heap.objs.size],c.F,c.J,c.m,c.σ.new (.ddict []),_⟩) (Q:=fun us s2=>us.length=ks.length→_) S0 ok hl h S1 fun ps us c2 h l2 d2 S2 hlen0=>at_holding (at_bind ?_))) (fun us s2 hq=>hq.2 (hq.1.trans hn)) fun _ _ e=>e)
    refine byC fun zC zk=>?_
    obtain ⟨hnd,h⟩:=req1 h
    obtain ⟨hk,hkv,hmap⟩:=pairs_str d2
    refine nOpt_el h fun so e h=>?_
    obtain ⟨P,S2⟩:=S2
    obtain ⟨a,ob,p1,r2,ho,hm⟩:=S2.get e
    obtain ⟨es0,kvs,hd,hkk,hal,h⟩:=oDict_ok h ho
    obtain ⟨e3,h⟩:=req1 h
    refine zk ?_
    cases List.isEmpty_iff.mp e3
    rw [l2.ext _ _ r1] at r2
    cases r2
    cases hkk
    refine byC fun zC zk=>?_
    refine S2.upd e hal p1 fun R N off _ put=>?_
    have hmade:KdnMade W.prog W.w (strKind W.prog W.w) c.s.heap.objs.size (fun v s'=>Q v s') us c2.s:=kdn_made_str S2.fr N (.head off) hd hk (hmap ▸ nodupS_of hnd) fun h' o' F' N' hd' =>
      let ⟨m1,m2⟩:=mkDict_ok hd' hkv
      put_go (G.mono (Le.new.trans l2)) (put h' (c2.s.toks + us.length) _ _ F' N' m1 m2) h (.a1 (.obj (l2.ext _ _ r1)))
    obtain ⟨kvs2,c1,c2',c3⟩:=hmade
    refine zk ?_
    have hlen:([]:List (Str × Value)).length + kvs2.length ≤ sizeLine:=by
      have e1:=c1.length
      rw [sizeLine_eq,List.length_nil]; exact ln [_,_,_] [] [.le (.v 0) (.k 12),.eq (.v 1) (.v 0),.eq (.v 2) (.v 1)] (.le (.a (.k 0) (.v 2)) (.k 16777216)) (.w [1,0,1,0,1,1]) zr hz hlen0 e1
    exact at_any ok.hI (wpAny_storeAll (knd:=strKind W.prog W.w) us kvs2 [] c2.s _ c1 c2' hlen fun h' hm' hs'=>at_pure (at_pure (at_pure (c3 h' hm' hs'))))
end
end Mine
section
namespace Mine
section
variable {W:Wd} {x:Ac} {c:Cf} {P:List (Addr × Obj)}
theorem StW.inρ (S:StW W x c P) {p:Addr × Obj} (h:p ∈ P):p.1 ∈ c.ρ:=S.rho ▸ List.mem_map_of_mem h
structure Fresh (x:Ac) (c:Cf) (b:Addr):Prop where
  l:b ≠ x.L
  h:x.h₀.get? b=none
  r:b ∉ c.ρ
  f:∀ p ∈ c.F ++ c.J,p.1 ≠ b
theorem St.addFJ {ex own:List (Addr × Obj)} (hg:∀ p ∈ ex ++ own,c.s.heap.get? p.1=some p.2 ∧ Fresh x c p.1) (ho:∀ p ∈ ex,∀ q ∈ own,p.1 ≠ q.1) (S:St W x c):St W x { c with F:=c.F ++ ex,J:=own ++ c.J }:=by
  obtain ⟨P,S⟩:=S
  have key:∀ p,p ∈ (c.F ++ ex) ++ (own ++ c.J)→p ∈ c.F ++ c.J ∨ p ∈ ex ++ own:=fun p hp=>by
    simp only [List.mem_append] at hp ⊢
    rcases hp with (h | h) | h | h
    · exact .inl (.inl h)
    · exact .inr (.inl h)
    · exact .inr (.inr h)
    · exact .inl (.inr h)
  have hs:Sub c.F (c.F ++ ex):=fun p hp=>List.mem_append_left _ hp
  refine ⟨P,S.sc,S.fr,fun p hp=>?_,S.rho,All2.of S.objs.len fun i so p h1 h2=>⟨(S.objs.both h1 h2).1.mono hs fun _ _ e=>e,fun q hq e=>?_,fun q hq e=>?_⟩,S.nodup,fun p hp q hq=>?_,fun y v kd h1 h2 h3=>?_⟩
  · rcases List.mem_append.mp hp with hp | hp
    · exact S.news p (List.mem_append_left _ hp)
    · rcases key p hp with h | h
      · exact S.news p (List.mem_append_right _ h)
      · exact ⟨(hg p h).1,(hg p h).2.l,(hg p h).2.h⟩
  · rcases List.mem_append.mp hq with h | h
    · exact (S.objs.both h1 h2).2.1 q h e
    · exact absurd (e ▸ S.inρ (List.mem_of_getElem? h2)) (hg q (List.mem_append_left _ h)).2.r
  · rcases List.mem_append.mp hq with h | h
    · exact absurd (e ▸ S.inρ (List.mem_of_getElem? h2)) (hg q (List.mem_append_right _ h)).2.r
    · exact (S.objs.both h1 h2).2.2 q h e
  · rcases List.mem_append.mp hp with h1 | h1
    · rcases List.mem_append.mp hq with h2 | h2
      · exact (hg q (List.mem_append_right _ h2)).2.f p (List.mem_append_left _ h1)
      · exact S.fj p h1 q h2
    · rcases List.mem_append.mp hq with h2 | h2
      · exact ho p h1 q h2
      · exact fun e=>(hg p (List.mem_append_left _ h1)).2.f q (List.mem_append_right _ h2) e.symm
  · obtain ⟨u,k1,k2⟩:=S.loc y v kd h1 h2 h3
    exact ⟨u,k1.mono hs fun p hp=>List.mem_append_right _ hp,k2.mono hs fun _ _ e=>e⟩
theorem St.dropJ {own J:List (Addr × Obj)} (hJ:c.J=own ++ J) (hx:x.cc=none ∨ ∀ q,x.cc=some q→∃ o,(q.2.2,o) ∈ J) (S:St W x c):St W x { c with J:=J } ∧ ∀ p ∈ own,Fresh x { c with J:=[] } p.1:=by
  obtain ⟨P,S⟩:=S
  have hs:Sub J c.J:=fun p hp=>hJ ▸ List.mem_append_right _ hp
  have hF:∀ p,p ∈ c.F ++ J→p ∈ c.F ++ c.J:=fun p hp=>(List.mem_append.mp hp).elim (fun h=>List.mem_append_left _ h) fun h=>List.mem_append_right _ (hs p h)
  refine ⟨⟨P,S.sc,S.fr,fun p hp=>S.news p ((List.mem_append.mp hp).elim (fun h=>List.mem_append_left _ h) fun h=>List.mem_append_right _ (hF p h)),S.rho,S.objs.imp fun so p ⟨k1,k2,k3⟩=>⟨k1,k2,fun q hq=>k3 q (hs q hq)⟩,S.nodup,fun p hp q hq=>S.fj p hp q (hs q hq),fun y v kd h1 h2 h3=>?_⟩,fun p hp=>?_⟩
  · obtain ⟨u,k1,k2⟩:=S.loc y v kd h1 h2 h3
    refine ⟨u,?_,k2⟩
    cases k1 with
    | loc a b d=>exact .loc a b d
    | cell a b d e=>exact .cell a b d e
    | @comp q o a b d e =>
      rcases hx with hx | hx
      · rw [hx] at a; cases a
      · obtain ⟨o',ho'⟩:=hx q a
        have h1:=(S.news _ (List.mem_append_right _ (List.mem_append_right _ d))).1
        have h2:=(S.news _ (List.mem_append_right _ (List.mem_append_right _ (hs _ ho')))).1
        rw [h1] at h2
        cases h2
        exact .comp a b ho' e
  · have hpJ:p ∈ c.J:=hJ ▸ List.mem_append_left _ hp
    have hn:=S.news p (List.mem_append_right _ (List.mem_append_right _ hpJ))
    refine ⟨hn.2.1,hn.2.2,fun hr=>?_,fun q hq=>?_⟩
    · rw [← S.rho] at hr
      obtain ⟨q,hq,e⟩:=List.mem_map.mp hr
      obtain ⟨i,hi,e2⟩:=List.getElem_of_mem hq
      have hi2:i < c.σ.hp.length:=S.objs.len ▸ hi
      exact (S.objs.both (List.getElem?_eq_getElem hi2) (by rw [List.getElem?_eq_getElem hi,e2])).2.2 p hpJ e.symm
    · rw [List.append_nil] at hq
      exact S.fj q hq p hpJ
theorem St.move {wr:List Addr} {h':Heap} {tk:Nat} (hk:∀ b o,b ∉ wr→c.s.heap.get? b=some o→h'.get? b=some o) (hw:∀ b ∈ wr,Fresh x c b) (S:St W x c):St W x (c.up c.σ h' tk):=by
  obtain ⟨P,S⟩:=S
  have off:∀ p ∈ P ++ (c.F ++ c.J),p.1 ∉ wr:=fun p hp hb=>by
    rcases List.mem_append.mp hp with h | h
    · exact (hw _ hb).r (S.inρ h)
    · exact (hw _ hb).f p h rfl
  exact S.heap ⟨S.fr.ns.at' fun o e=>hk _ o (fun hb=>(hw _ hb).l rfl) e,fun b o e=>hk b o (fun hb=>by rw [(hw _ hb).h] at e; cases e) (S.fr.keep b o e),S.fr.above⟩ (fun p hp=>⟨hk _ _ (off p hp) (S.news p hp).1,(S.news p hp).2⟩) tk
theorem St.gone {i:Nat} {so:SO} {w:SV} (e:c.σ.hp[i]?=some so) (hw:soLit so=some w) (S:St W x c) :
    ∃ a o,c.ρ[i]?=some a ∧ Den W.K (c.F ++ [(a,o)]) c.ρ w (.ref a) ∧ St W x { c with F:=c.F ++ [(a,o)],σ:=c.σ.put i .gone }:=by
  obtain ⟨P,S⟩:=S
  obtain ⟨a,o,p1,r1,ho,hm⟩:=S.get e
  have hs:=Sub.snoc c.F (a,o)
  have hal:so.alive=true:=by cases so <;> first | rfl | cases hw
  have hcd:o.cls=.type "list" ∧ Den W.K (c.F ++ [(a,o)]) c.ρ w (.ref a):=by
    cases so with
    | dlist ds =>
      cases hw
      obtain ⟨vs,k,rfl,hl⟩:=ho
      exact ⟨rfl,.a1 (.d (.list mem_snoc (hl.mono hs)))⟩
    | list l =>
      have hw:(bif l.all isAtom then some (SV.lst l) else none)=some w:=hw
      cases ha:l.all isAtom with
      | false=>rw [ha] at hw; cases hw
      | true =>
        rw [ha] at hw
        cases hw
        obtain ⟨vs,k,rfl,hl⟩:=ho
        exact ⟨rfl,.lst mem_snoc ((atoms_of hl ha).imp fun _ _=>Den1.mono hs fun _ _ e=>e)⟩
    | _=>cases hw
  have hi:i < P.length:=(List.getElem?_eq_some_iff.mp p1).1
  have key:∀ p,p ∈ (c.F ++ [(a,o)]) ++ c.J→p ∈ c.F ++ c.J ∨ p=(a,o):=fun p hp=>by
    simp only [List.mem_append,List.mem_singleton] at hp ⊢
    rcases hp with (h | h) | h
    · exact .inl (.inl h)
    · exact .inr h
    · exact .inl (.inr h)
  refine ⟨a,o,r1,hcd.2,P,S.sc,S.fr,fun p hp=>?_,S.rho,All2.of (by show (c.σ.hp.set i .gone).length=_; rw [List.length_set]; exact S.objs.len) fun j sj p h1 h2=>?_,S.nodup,fun p hp q hq=>?_,fun y v kd h1 h2 h3=>?_⟩
  · rcases List.mem_append.mp hp with hp | hp
    · exact S.news p (List.mem_append_left _ hp)
    · rcases key p hp with h | h
      · exact S.news p (List.mem_append_right _ h)
      · rw [h]; exact S.news _ hm
  · have h1:(c.σ.hp.set i .gone)[j]?=some sj:=h1
    rw [List.getElem?_set] at h1
    by_cases e1:i=j
    · subst e1
      rw [if_pos rfl,if_pos (S.objs.len ▸ hi)] at h1
      cases h1
      rw [p1] at h2
      cases h2
      refine ⟨True.intro,fun q hq eq=>⟨rfl,?_⟩,(S.objs.both e p1).2.2⟩
      rcases List.mem_append.mp hq with h | h
      · exact ((S.objs.both e p1).2.1 q h eq).2
      · rw [List.mem_singleton.mp h]; exact hcd.1
    · rw [if_neg e1] at h1
      have hb:=S.objs.both h1 h2
      refine ⟨hb.1.mono hs fun _ _ e=>e,fun q hq eq=>?_,hb.2.2⟩
      rcases List.mem_append.mp hq with h | h
      · exact hb.2.1 q h eq
      · cases List.mem_singleton.mp h
        have h3:c.ρ[j]?=some a:=by rw [← S.rho,List.getElem?_map,h2]; exact congrArg some (eq:a=p.1).symm
        exact absurd ((List.getElem?_inj (List.getElem?_eq_some_iff.mp r1).1 S.nodup).mp (r1.trans h3.symm)) e1
  · rcases List.mem_append.mp hp with h | h
    · exact S.fj p h q hq
    · rw [List.mem_singleton.mp h]
      exact fun eq=>(S.objs.both e p1).2.2 q hq eq.symm
  · obtain ⟨u,k1,k2⟩:=S.loc y v kd h1 h2 h3
    exact ⟨u,k1.mono hs fun _ h=>h,k2.mono hs fun _ _ e=>e⟩
theorem frzV_den {K:Frag} {F:List (Addr × Obj)} {ρ:List Addr} {i:Nat} {a:Addr} {w v:SV} {u:Value} (hr:ρ[i]?=some a) (hd:Den K F ρ w (.ref a)) (h:Den K F ρ v u):Den K F ρ (frzV i w v) u:=by
  cases h with
  | @a1 v u h=>cases h with
    | @obj j b hb =>
      show Den K F ρ (bif Nat.beq j i then w else .obj j) (.ref b)
      cases e:Nat.beq j i with
      | true =>
        cases Nat.eq_of_beq_eq_true e
        rw [hr] at hb; cases hb
        exact hd
      | false=>exact .a1 (.obj hb)
    | d h=>exact .a1 (.d h)
    | ref a=>exact .a1 (.ref a)
    | bi b=>exact .a1 (.bi b)
    | kt h=>exact .a1 (.kt h)
    | rng h=>exact .a1 (.rng h)
  | tup hm hl =>
    refine .tup hm (hl.map fun v u h=>?_)
    cases h with
    | @obj j b hb =>
      show Den1 K F ρ (bif Nat.beq j i && isAtom w then w else .obj j) (.ref b)
      cases e:Nat.beq j i && isAtom w with
      | true =>
        obtain ⟨e1,e2⟩:=Bool.and_eq_true_iff.mp e
        cases Nat.eq_of_beq_eq_true e1
        rw [hr] at hb; cases hb
        cases hd with
        | a1 hd=>exact hd
        | tup=>cases e2
        | lst=>cases e2
      | false=>exact .obj hb
    | d h=>exact .d h
    | ref a=>exact .ref a
    | bi b=>exact .bi b
    | kt h=>exact .kt h
    | rng h=>exact .rng h
  | lst hm hl=>exact .lst hm hl
theorem St.mapV {f:SV→SV} (hf:∀ v u,Den W.K c.F c.ρ v u→Den W.K c.F c.ρ (f v) u) (S:St W x c):St W x { c with σ:=⟨c.σ.sc,c.σ.loc.map fun p=>(p.1,p.2.map f),c.σ.hp.map (SO.mapV f)⟩ }:=by
  obtain ⟨P,S⟩:=S
  refine ⟨P,S.sc,S.fr,S.news,S.rho,S.objs.map fun so p ⟨k1,k2⟩=>⟨k1.map (fun _ h=>h) (fun _ _ _ e=>e) (fun v u _ h=>hf v u h) (allB_true so),⟨fun q hq e=>by rw [mapV_alive]; exact k2.1 q hq e,k2.2⟩⟩,S.nodup,S.fj,fun y v kd h1 h2 h3=>?_⟩
  obtain ⟨ov,e1,e2⟩:=lookS_map (f:=fun p:Str × Option SV=>(p.1,p.2.map f)) (fun _=>rfl) h1
  cases ov with
  | none=>cases (Prod.mk.inj e2).2
  | some w =>
    cases Option.some.inj (Prod.mk.inj e2).2
    obtain ⟨u,k1,k2⟩:=S.loc y w kd e1 h2 h3
    exact ⟨u,k1,hf _ _ k2⟩
theorem normO_ok {F:List (Addr × Obj)} {ρ:List Addr} {so:SO} {o:Obj} (h:ObjOK W F ρ so o):ObjOK W F ρ (normO so) o ∧ (normO so).alive=so.alive:=by
  cases so with
  | dict es=>obtain ⟨kvs,h1,h2⟩:=h; exact mkDict_ok h1 h2
  | _=>exact ⟨h,rfl⟩
theorem St.norm (S:St W x c):St W x { c with σ:={ c.σ with hp:=c.σ.hp.map normO } }:=by
  obtain ⟨P,S⟩:=S
  exact ⟨P,S.sc,S.fr,S.news,S.rho,S.objs.map fun so p ⟨k1,k2⟩=>⟨(normO_ok k1).1,⟨fun q hq e=>by rw [(normO_ok k1).2]; exact k2.1 q hq e,k2.2⟩⟩,S.nodup,S.fj,S.loc⟩
theorem St.frz {i:Nat} {so:SO} {w:SV} (e:c.σ.hp[i]?=some so) (hw:soLit so=some w) (S:St W x c) :
    ∃ a o,c.ρ[i]?=some a ∧ Den W.K (c.F ++ [(a,o)]) c.ρ w (.ref a) ∧ St W x { c with F:=c.F ++ [(a,o)],σ:=frzS i w (c.σ.put i .gone) }:=by
  obtain ⟨a,o,h1,h2,h3⟩:=S.gone e hw
  exact ⟨a,o,h1,h2,(St.mapV (c:={ c with F:=c.F ++ [(a,o)],σ:=c.σ.put i .gone }) (f:=frzV i w) (fun v u h=>frzV_den h1 h2 h) h3).norm⟩
theorem St.frzAt {i:Nat} (S:St W x c):∃ F',Sub c.F F' ∧ St W x { c with F:=F',σ:=frzAt i c.σ }:=by
  unfold Mine.frzAt
  cases e:c.σ.hp[i]?.bind soLit with
  | none=>exact ⟨c.F,fun _ h=>h,S⟩
  | some w =>
    refine byC fun zC zk=>?_
    obtain ⟨so,e1,e2⟩:=Option.bind_eq_some_iff.mp e
    obtain ⟨a,o,_,_,S'⟩:=S.frz e1 e2
    refine zk ?_
    exact ⟨_,Sub.snoc _ _,S'⟩
theorem St.frzAll {is:List Nat}:∀ {c:Cf},St W x c→∃ F',Sub c.F F' ∧ St W x { c with F:=F',σ:=frzAll is c.σ }:=by
  induction is with
  | nil=>intro c S; exact ⟨c.F,fun _ h=>h,S⟩
  | cons i r ih =>
    intro c S
    refine byC fun zC zk=>?_
    obtain ⟨F1,h1,S1⟩:=S.frzAt (i:=i)
    obtain ⟨F2,h2,S2⟩:=ih S1
    refine zk ?_
    exact ⟨F2,fun p hp=>h2 p (h1 p hp),S2⟩
theorem St.dropL {xs:List Str} (S:St W x c):St W x { c with σ:=dropL xs c.σ }:=by
  obtain ⟨P,S⟩:=S
  refine ⟨P,S.sc,S.fr,S.news,S.rho,S.objs,S.nodup,S.fj,fun y v kd h1 h2 h3=>?_⟩
  obtain ⟨ov,e1,e2⟩:=lookS_map (f:=fun p:Str × Option SV=>(p.1,bif xs.any (eqS p.1) then none else p.2)) (fun _=>rfl) h1
  have e2:=(Prod.mk.inj e2).2
  dsimp only at e2
  cases e:xs.any (eqS y) with
  | true=>rw [e] at e2; cases e2
  | false=>rw [e] at e2; cases (e2:ov=some v); exact S.loc y v kd e1 h2 h3
end
end Mine
end
section
namespace Mine
structure Its (W:Wd) (x:Ac) (c:Cf) (tg:Expr→Prop) (I:Addr) (wr:List Addr) (l:List SV) (At:Nat→Heap→Prop) (Mid:Nat→Value→Heap→Prop):Prop where
  frame:∀ i h,At i h→(∀ p ∈ c.F,h.get? p.1=some p.2)→∃ own:List (Addr × Obj),own.map (·.1)=wr ∧ (∀ p ∈ own,h.get? p.1=some p.2) ∧ ∀ h',(∀ p ∈ own ++ c.F,h'.get? p.1=some p.2)→At i h'
  item:∀ i (s:Shared) (Q:Option Value→Shared→Prop) (E:Value→Shared→Prop) (v:SV),l[i]?=some v→At i s.heap→(∀ p ∈ c.F,s.heap.get? p.1=some p.2) →
    (∀ u h' tk (ex:List (Addr × Obj)),(∀ p ∈ ex,h'.get? p.1=some p.2 ∧ s.heap.objs.size ≤ p.1)→Den W.K (c.F ++ ex) c.ρ v u→Mid i u h'→(∀ b o,b ∉ wr→s.heap.get? b=some o→h'.get? b=some o)→Q (some u) { s with heap:=h',toks:=tk })→wpAny W.M x.ar (pyNext (.ref I)) Q E s
  go:∀ t i u (s:Shared) (Q:Unit→Shared→Prop),tg t→Mid i u s.heap→(∀ h',At (i + 1) h'→(∀ b o,b ∉ wr→s.heap.get? b=some o→h'.get? b=some o)→Q () { s with heap:=h' })→wpAny W.M x.ar (letOwnedTupleGo t (.ref I) u) Q (fun _ _=>False) s
  done:∀ (s:Shared) (Q:Option Value→Shared→Prop) (E:Value→Shared→Prop),At l.length s.heap→(∀ p ∈ c.F,s.heap.get? p.1=some p.2) →
    (∀ h' tk,(∀ b o,b ∉ wr→s.heap.get? b=some o→h'.get? b=some o)→Q none { s with heap:=h',toks:=tk })→wpAny W.M x.ar (pyNext (.ref I)) Q E s
  self:∀ i (s:Shared) (Q:Value→Shared→Prop) (E:Value→Shared→Prop),At i s.heap→Q (.ref I) s→wpAny W.M x.ar (pyIter (.ref I)) Q E s
structure Iter (W:Wd) (x:Ac) (c:Cf) (tg:Expr→Prop) (l:List SV) (I:Addr) (wr:List Addr) (At:Nat→Heap→Prop) (Mid:Nat→Value→Heap→Prop) (h':Heap):Prop where
  its:Its W x c tg I wr l At Mid
  at0:At 0 h'
  new:∀ b ∈ wr,c.s.heap.objs.size ≤ b
  keep:∀ b o,c.s.heap.get? b=some o→h'.get? b=some o
  grow:c.s.heap.objs.size ≤ h'.objs.size
section
variable {W:Wd} {x:Ac} {c:Cf} {P:List (Addr × Obj)} {E:Value→Shared→Prop}
theorem its_of {I:Addr} {fp:List Addr} {l:List SV} {k:Nat} {V:Nat→Value→Prop} {At:Nat→Heap→Prop} (hk:k=l.length) (Wk:Walks W.prog W.w x.ar I fp [I] k V At) (hV:∀ i u v,l[i]?=some v→V i u→DV W c v u) (hI:I ∈ fp) (hfp:∀ b ∈ fp,b=I ∨ ∃ o,(b,o) ∈ c.F)
    (hc:∀ i h,At i h→∃ o,h.get? I=some o) (hgo:∀ t i (s:Shared) v (Q':Unit→Shared→Prop),V i v→At (i + 1) s.heap→Q' () s→wpAny W.M x.ar (letOwnedTupleGo t (.ref I) v) Q' (fun _ _=>False) s) :
    Its W x c (fun _=>True) I [I] l At (fun i u h=>V i u ∧ At (i + 1) h) where
  frame i h st hF:=by
    obtain ⟨o,ho⟩:=hc i h st
    refine ⟨[(I,o)],rfl,fun p hp=>by rw [List.mem_singleton.mp hp]; exact ho,fun h' hh=>Wk.frame i h h' st fun b hb ob hob=>?_⟩
    rcases hfp b hb with e | ⟨oa,ha⟩
    · subst e
      rw [ho] at hob
      cases hob
      exact hh _ (List.mem_append_left _ (List.mem_singleton.mpr rfl))
    · have:=hF _ ha
      rw [hob] at this
      cases this
      exact hh _ (List.mem_append_right _ ha)
  item i s Q E v hv st hF g:=Wk.item i s Q E (by rw [hk]; exact (List.getElem?_eq_some_iff.mp hv).1) st fun u h' tk hu st' hk'=>g u h' tk [] (fun _ h=>nomatch h) (by rw [List.append_nil]; exact hV i u v hv hu) ⟨hu,st'⟩ hk'
  go t i u s Q _ hm g:=hgo t i s u Q hm.1 hm.2 (g s.heap hm.2 fun _ _ _ e=>e)
  done s Q E st hF g:=Wk.done s Q E (hk ▸ st) g
  self i s Q E st g:=Wk.self i s Q E st g
theorem letGo_int {t:Expr} {it:Value} {i:Int} {k:Tok} {s:Shared} {Q':Unit→Shared→Prop} (h:Q' () s):wpAny W.M x.ar (letOwnedTupleGo t it (.int i k)) Q' E s:=by
  unfold letOwnedTupleGo
  cases t <;> first | exact wpAny_pure h | (cases it <;> exact wpAny_pure h)
theorem rngL_at {d:Int} {k:Nat}:∀ {a:Int} {i:Nat} {v:SV},(rngL d k a)[i]?=some v→v=.d (.int (a + i * d)):=by
  induction k with
  | zero=>intro a i v h; cases h
  | succ k ih =>
    intro a i v h
    cases i with
    | zero=>cases h; simp
    | succ i =>
      rw [ih (a:=a + d) (i:=i) h]
      congr 2
      push_cast
      rw [Int.add_mul]
      exact ln [] [_,_,_] [] (.Eq (.a (.a (.v 0) (.v 1)) (.v 2)) (.a (.v 0) (.a (.v 2) (.m 1 (.v 1))))) (.b (.w [1]) (.w [1])) zr
theorem rngL_len {d:Int} {k:Nat}:∀ {a:Int},(rngL d k a).length=k:=by
  induction k with
  | zero=>intro a; rfl
  | succ k ih=>intro a; exact congrArg Nat.succ ih
theorem push_keep {h:Heap} {o:Obj}:∀ b ob,h.get? b=some ob→(h.push o).get? b=some ob:=fun b ob e=>Heap.get?_push_of_some _ e
theorem push_grow {h:Heap} {o:Obj}:h.objs.size ≤ (h.push o).objs.size:=by rw [Heap.size_push]; exact Nat.le_succ _
theorem over1_snd (hn:x.hh=none) {v:SV} {u:Value} {l:List SV} {Q:Value→Shared→Prop} (S:St W x c) (hv:DV W c v u) (h:overV v=some l) (g:∀ I wr At Mid h',Iter W x c (fun _=>True) l I wr At Mid h'→Q (.ref I) { c.s with heap:=h' }) :
    wpAny W.M x.ar (pyIter u) Q E c.s:=by
  obtain ⟨P,S⟩:=S
  have new:∀ b ∈ [c.s.heap.objs.size],c.s.heap.objs.size ≤ b:=fun b hb=>by rw [List.mem_singleton.mp hb]; exact Nat.le_refl _
  have lst:∀ {a:Addr} {vs:List Value} {k:Nat} {l:List SV},(∀ I wr At Mid h',Iter W x c (fun _=>True) l I wr At Mid h'→Q (.ref I) { c.s with heap:=h' })→(a,listOf (List.toArray vs) k) ∈ c.F→All2 (Den W.K c.F c.ρ) l vs→wpAny W.M x.ar (pyIter (.ref a)) Q E c.s:=by
    intro a vs k l g hm hd
    have hls:c.s.heap.IsList a (List.toArray vs):=S.news.isList (S.memF hm)
    have hne:a ≠ c.s.heap.objs.size:=Nat.ne_of_lt (S.off (S.memF hm))
    refine wpAny_pyIter_list hls (g _ _ _ _ _ ⟨its_of (hd.len.symm ▸ rfl) (Walks.list hn c.s.heap.objs.size a hne (List.toArray vs)) (fun i u v hv hu=>hd.both hv (by simpa using hu)) (List.mem_cons_self ..) (fun b hb=>?_) (fun i h st=>?_) fun t i s v Q' _ st hq=>letGo_listiter st.1 hq,⟨⟨_,Heap.get?_push_size _ rfl,rfl,rfl⟩,hls.at fun o e=>push_keep _ _ e⟩,new,push_keep,push_grow⟩)
    · rcases List.mem_cons.mp hb with rfl | hb
      · exact .inl rfl
      · rw [List.mem_singleton.mp hb]; exact .inr ⟨_,hm⟩
    · obtain ⟨⟨o,g1,g2,_⟩,_⟩:=st
      exact ⟨o,g1⟩
  have tup:∀ {a:Addr} {vs:List Value} {k:Nat} {l:List SV},(∀ I wr At Mid h',Iter W x c (fun _=>True) l I wr At Mid h'→Q (.ref I) { c.s with heap:=h' })→(a,tupO vs k) ∈ c.F→All2 (Den W.K c.F c.ρ) l vs→wpAny W.M x.ar (pyIter (.ref a)) Q E c.s:=by
    intro a vs k l g hm hd
    have hls:c.s.heap.IsTuple a (List.toArray vs):=⟨_,(S.news _ (S.memF hm)).1,rfl,k,rfl⟩
    have hne:a ≠ c.s.heap.objs.size:=Nat.ne_of_lt (S.off (S.memF hm))
    refine wpAny_pyIter_tuple hls (g _ _ _ _ _ ⟨its_of (hd.len.symm ▸ rfl) (Walks.tuple hn c.s.heap.objs.size a hne (List.toArray vs)) (fun i u v hv hu=>hd.both hv (by simpa using hu)) (List.mem_cons_self ..) (fun b hb=>?_) (fun i h st=>?_) fun t i s v Q' _ st hq=>letGo_tupleiter st.1 hq,⟨⟨_,Heap.get?_push_size _ rfl,rfl,rfl⟩,hls.at fun o e=>push_keep _ _ e⟩,new,push_keep,push_grow⟩)
    · rcases List.mem_cons.mp hb with rfl | hb
      · exact .inl rfl
      · rw [List.mem_singleton.mp hb]; exact .inr ⟨_,hm⟩
    · obtain ⟨⟨o,g1,g2,_⟩,_⟩:=st
      exact ⟨o,g1⟩
  cases hv with
  | a1 hv=>cases hv with
    | d hd=>cases hd with
      | tuple hm hr=>cases h; exact tup g hm (denL_dat hr)
      | list hm hr=>cases h; exact lst g hm (denL_dat hr)
      | bytes b t =>
        cases h
        refine KBw.pyIter_bytes (g _ _ _ _ _ ⟨its_of (by simp) (KBw.walks hn c.s.heap.objs.size b t) (fun i u v hv hu=>?_) (List.mem_cons_self ..) (fun b hb=>.inl (List.mem_singleton.mp hb)) (fun i h st=>?_) fun t i s v Q' hu st hq=>?_,?_,new,push_keep,push_grow⟩)
        · obtain ⟨d,t,h1,rfl⟩:=hu
          rw [List.getElem?_map,Array.getElem?_toList,h1] at hv
          cases hv
          exact .int _ _
        · obtain ⟨o,g1,g2,_⟩:=st
          exact ⟨o,g1⟩
        · obtain ⟨d,t,h1,rfl⟩:=hu
          exact letGo_int hq
        · show KBw.IsBytesIter _ _ _ _ _
          exact ⟨_,Heap.get?_push_size _ rfl,rfl,rfl⟩
      | _=>cases h
    | @rng r a b d t u v hm =>
      have h:(bif Builtin.Range.small a b d then some (rngL d (Builtin.Range.rangeSize a b d).toNat a) else none)=some l:=h
      cases hs:Builtin.Range.small a b d with
      | false=>rw [hs] at h; cases h
      | true =>
        rw [hs] at h
        cases h
        refine wpAny_pyIter_range (S.news _ (S.memF hm)).1 hs (g _ _ _ _ _ ⟨its_of (rngL_len.symm) (Walks.range hn c.s.heap.objs.size a d (Builtin.Range.rangeSize a b d).toNat) (fun i u v hv hu=>?_) (List.mem_cons_self ..) (fun b hb=>.inl (List.mem_singleton.mp hb)) (fun i h st=>⟨_,st⟩) fun t i s v Q' hu st hq=>?_,?_,new,push_keep,push_grow⟩)
        · obtain ⟨t,rfl⟩:=hu
          rw [rngL_at hv]
          exact .int _ _
        · obtain ⟨t,rfl⟩:=hu
          exact letGo_int hq
        · have e1:a + ((0:Nat):Int) * d=a:=by simp
          have e2:(((Builtin.Range.rangeSize a b d).toNat:Nat):Int) - ((0:Nat):Int)=Builtin.Range.rangeSize a b d:=by rw [← rangeSize_toNat]; simp
          show IsRangeIter _ _ _ _ _
          rw [e1,e2]
          exact Heap.get?_push_size _ rfl
    | _=>cases h
  | tup hm hr=>cases h; exact tup g hm (hr.imp fun _ _=>.a1)
  | lst hm hr=>cases h; exact lst g hm (hr.imp fun _ _=>.a1)
end
end Mine
end
namespace Mine
section
variable {W:Wd} {x:Ac} {c:Cf} {P:List (Addr × Obj)} {E:Value→Shared→Prop}
theorem enumL_at {l:List SV}:∀ {k i:Nat} {v:SV},(enumL k l)[i]?=some v→∃ w,l[i]?=some w ∧ v=.tup [.d (.int ((k + i:Nat):Int)),w]:=by
  induction l with
  | nil=>intro k i v h; cases h
  | cons w r ih =>
    intro k i v h
    cases i with
    | zero=>cases h; exact ⟨w,rfl,rfl⟩
    | succ i =>
      obtain ⟨w',h1,h2⟩:=ih (k:=k + 1) (i:=i) h
      exact ⟨w',h1,by rw [h2,show k + 1 + i=k + (i + 1) by exact ln [_,_] [] [] (.eq (.a (.a (.v 0) (.k 1)) (.v 1)) (.a (.v 0) (.a (.v 1) (.k 1)))) (.b (.w [1]) (.w [1])) zr]⟩
theorem enumL_len {l:List SV}:∀ {k:Nat},(enumL k l).length=l.length:=by
  induction l with
  | nil=>intro k; rfl
  | cons w r ih=>intro k; exact congrArg Nat.succ ih
theorem enum_its (hn:x.hh=none) {e it a:Addr} {vs:List Value} {j:Nat} {l:List SV} (hm:(a,listOf (List.toArray vs) j) ∈ c.F) (hd:All2 (Den1 W.K c.F c.ρ) l vs) (hei:e ≠ it) (hae:a ≠ e) (hai:a ≠ it) :
    Its W x c (fun t=>exK t=5) e [e,it] (enumL 0 l) (fun i h=>(∃ old,IsEnum h e it i old) ∧ h.IsListIter it a i ∧ h.IsList a (List.toArray vs)) (fun i u h=>∃ T y,u=.ref T ∧ IsEnumOut h e it ((i:Int) + 1) y T ∧ h.IsListIter it a (i + 1) ∧ h.IsList a (List.toArray vs)) where
  frame i h st hF:=by
    refine byC fun zC zk=>?_
    obtain ⟨⟨old,he⟩,hit,hl⟩:=st
    obtain ⟨oi,g1,g2,g3⟩:=hit
    refine zk ?_
    refine ⟨[(e,_),(it,oi)],rfl,fun p hp=>?_,fun h' hh=>⟨⟨old,hh _ (List.mem_cons_self ..)⟩,⟨oi,hh (it,oi) (List.mem_cons_of_mem _ (List.mem_cons_self ..)),g2,g3⟩,⟨_,hh (a,listOf (List.toArray vs) j) (List.mem_append_right _ hm),rfl,j,rfl⟩⟩⟩
    rcases List.mem_cons.mp hp with rfl | hp
    · exact he
    · rw [List.mem_singleton.mp hp]; exact g1
  item i s Q E v hv st hF g:=by
    refine byC fun zC zk=>?_
    obtain ⟨⟨old,he⟩,hit,hl⟩:=st
    obtain ⟨w,hw,rfl⟩:=enumL_at hv
    obtain ⟨y,hy,dy⟩:=hd.get hw
    refine zk ?_
    refine wpAny_pyNext_enum_item he hit hl (by simpa using hy) hei fun h' ho hit' hT hsz hk=>?_
    refine g _ h' (s.toks + 1) [(s.heap.objs.size,tupO [.int i s.toks,y] 0)] (fun p hp=>by rw [List.mem_singleton.mp hp]; exact ⟨hT,Nat.le_refl _⟩) ?_ ⟨_,y,rfl,ho,hit',hl.at fun o e9=>hk a o hae hai e9⟩ fun b o hb e9=>hk b o (fun q=>hb (by rw [q]; exact List.mem_cons_self ..)) (fun q=>hb (by rw [q]; exact List.mem_cons_of_mem _ (List.mem_cons_self ..))) e9
    rw [Nat.zero_add]
    exact .tup mem_snoc (.cons (.d (.int _ _)) (.cons (dy.mono (Sub.snoc _ _) fun _ _ e=>e) .nil))
  go t i u s Q ht hm g:=by
    refine byC fun zC zk=>?_
    obtain ⟨T,y,rfl,ho,hit,hl⟩:=hm
    obtain ⟨l9,k9,p9,rfl⟩:=tup_inv (e:=t) (by rw [ht]; rfl)
    refine zk ?_
    refine wpAny_letOwnedTupleGo_enum ho fun h' he' hs'=>g h' ⟨⟨y,by simpa using he'⟩,hit.at fun o q=>(hs'.2 it hei.symm).trans q,hl.at fun o q=>(hs'.2 a hae).trans q⟩ fun b o hb q=>(hs'.2 b fun e'=>hb (by rw [e']; exact List.mem_cons_self ..)).trans q
  done s Q E st hF g:=by
    refine byC fun zC zk=>?_
    obtain ⟨⟨old,he⟩,hit,hl⟩:=st
    refine zk ?_
    refine wpAny_pyNext_enum_end hn he hit hl (Array.getElem?_eq_none (by rw [enumL_len,hd.len]; exact Nat.le_refl _)) fun h' hx=>g h' s.toks fun b o hb q=>hx b o (fun e'=>hb (by rw [e']; exact List.mem_cons_of_mem _ (List.mem_cons_self ..))) q
  self i s Q E st g:=wpAny_pyIter_enum st.1.choose_spec g
end
end Mine
section
namespace Mine
section
variable {cb:Bool} {prog:Program} {w:World} {A:Around} {E:Value→Shared→Prop} {R:Result→Shared→Prop} {s:Shared} {Γ:Ctx}
theorem at_tests {ifs:List Expr} {env:Env} {Q:Bool→Shared→Prop} (hl:ifs.length ≤ 1) (h:wpAt (model prog w) Γ (allTrue .And ifs env) Q E s) :
    wpAt (model prog w) Γ (forIn ifs true fun c r=>if r=true then do let ok ← isTrue c env (eval c env); pure (ForInStep.yield ok) else pure (ForInStep.yield r)) Q E s:=by
  cases ifs with
  | nil=>exact h
  | cons e r=>cases r with
    | cons _ _=>exact absurd hl (by simp)
    | nil =>
      have e1:allTrue .And [e] env=(isTrue e env (eval e env) >>= fun b=>pure b):=by
        show (isTrue e env (eval e env) >>= fun b=>_)=_
        congr 1
        funext b
        cases b <;> rfl
      have h1:wpAt (model prog w) Γ (isTrue e env (eval e env)) Q E s:=fun p=>by
        have h:=h p
        rw [e1,Sem.wp_bind'] at h
        exact h
      rw [List.forIn_cons,if_pos rfl]
      exact at_bind (at_bind (at_mono h1 (fun _ _ hq=>at_pure (at_pure hq)) fun _ _ x=>x))
theorem at_compTurnG {elt target iter:Expr} {ifs:List Expr} {scope:Scope} {pos:Pos} {it acc:Value} {env:Env}
    (hl:ifs.length ≤ 1)
    (h:∀ Γ:Ctx,Γ.In A→Clean cb Γ→wpAt (model prog w) Γ (pyNext it) (fun r s₁=>match r with
      | none=>R (.ok .next) s₁
      | some v=>wpAt (model prog w) Γ (letOwnedTupleGo target it v) (fun _ s'=>wpAt (model prog w) Γ (assign target env v) (fun _ s₂=>wpAt (model prog w) Γ (allTrue .And ifs env) (fun b s₂=>if b=true then wpAt (model prog w) Γ (eval elt env) (fun x s₃ =>
          wpAt (model prog w) Γ (call (.builtin "list.append") [acc,x]) (fun _ s₄=>CompC cb prog w A (.ListComp elt [⟨target,iter,ifs,0⟩] scope pos) it acc env R s₄) (fun _ _=>False) s₃) (fun _ _=>False) s₂ else CompC cb prog w A (.ListComp elt [⟨target,iter,ifs,0⟩] scope pos) it acc env R s₂) (fun _ _=>False) s₂) (fun _ _=>False) s') (fun _ _=>False) s₁) (fun _ _=>False) s):CompC cb prog w A (.ListComp elt [⟨target,iter,ifs,0⟩] scope pos) it acc env R s:=by
  intro Γ hc hB hC
  have hI:=hB.in
  rw [hc] at hI
  have hI:Γ.In A:=hI
  refine code_at_tree (t:=(compTurn (.ListComp elt [⟨target,iter,ifs,0⟩] scope pos) 0 it acc env).onRaise (fun x=>do noteFrame x env; theTreesLotGoes x)) (by rw [hc]; rfl) ?_
  refine at_onRaise ?_
  rw [compTurn_list]
  refine at_bind (at_standAt (at_bind (at_mono (h Γ hI hC) (fun r s₁ h₁=>?_) fun _ _ x=>x.elim)))
  cases r with
  | none=>exact at_pure h₁
  | some v =>
    refine at_bind (at_mono h₁ (fun _ s' h'=>at_bind (at_mono h' (fun _ s₂ h₂=>?_) fun _ _ x=>x.elim)) fun _ _ x=>x.elim)
    refine at_bind (at_mono (at_tests hl h₂) (fun b s₂ h₂=>?_) fun _ _ x=>x.elim)
    cases b with
    | true=>exact at_bind (at_bind (at_mono h₂ (fun x s₃ h₃=>at_bind (at_mono h₃ (fun _ s₄ h₄=>at_pure (at_pure ⟨rfl,h₄ _ rfl (hB.goto _) (hC.goto rfl)⟩)) fun _ _ x=>x.elim)) fun _ _ x=>x.elim))
    | false=>exact at_bind (at_pure (at_pure ⟨rfl,h₂ _ rfl (hB.goto _) (hC.goto rfl)⟩))
theorem at_compStartG {elt target iter:Expr} {ifs:List Expr} {scope:Scope} {pos:Pos} {it acc:Value} {env:Env}
    (h0:CompC cb prog w A (.ListComp elt [⟨target,iter,ifs,0⟩] scope pos) it acc env R s)
    (h:wpAny (model prog w) A (pyIter it) (fun it' s'=>CompC cb prog w A (.ListComp elt [⟨target,iter,ifs,0⟩] scope pos) it' acc env R s') (fun _ _=>False) s)
    (hc:Γ.code=.compStart (.ListComp elt [⟨target,iter,ifs,0⟩] scope pos) 0 it acc env) (hB:Γ.Below A) (hC:Clean cb Γ):codeAt (model prog w) Γ R s:=by
  have hI:=hB.in
  rw [hc] at hI
  have hI:Γ.In A:=hI
  refine code_at_tree (t:=(compStart (.ListComp elt [⟨target,iter,ifs,0⟩] scope pos) 0 it acc env).onRaise (fun x=>do noteFrame x env; standAt theWindowsPlace)) (by rw [hc]; rfl) ?_
  refine at_onRaise ?_
  unfold compStart
  have g0:codeAt (model prog w) (Γ.goto (.compLoop (.ListComp elt [⟨target,iter,ifs,0⟩] scope pos) 0 it acc env)) R s:=h0 _ rfl (hB.goto _) (hC.goto rfl)
  refine at_any hI ?_
  show wpAny _ _ (ask >>= _) _ _ s
  refine wpAny_bind (wpAny_askSetting (wpAny_ite ?_))
  split
  · first
      | exact wpAny_bind (wpAny_pure (wpAny_pure (And.intro rfl g0)))
      | exact wpAny_pure (And.intro rfl g0)
  · refine wpAny_bind (wpAny_rule ?_)
    show wpAny _ _ (standAt iter.pos >>= _) _ _ s
    exact wpAny_bind (wpAny_standAt (wpAny_bind (wpAny_mono h (fun it' s' h'=>wpAny_pure (And.intro rfl (h' _ rfl (hB.goto _) (hC.goto rfl)))) fun _ _ x=>x.elim)))
theorem closure_of {env:Env} {scope:Scope} (h:∀ p ∈ scope.names,p.2=.free→∃ a,env.cells.lookup p.1=some a) :
    ∃ cl,closureFor scope env=pure cl ∧ ∀ y,(y,NameKind.free) ∈ scope.names→cl.lookup y=env.cells.lookup y:=by
  have key:∀ (l:List (Str × NameKind)) (acc:List (Str × Addr)),(∀ p ∈ l,p.2=.free→∃ a,env.cells.lookup p.1=some a)→(∀ y a,acc.lookup y=some a→env.cells.lookup y=some a) →
      ∃ cl,forIn (m:=Sem) l acc (fun (p:Str × NameKind) (cs:List (Str × Addr))=>if (p.2 == .free)=true then do let a ← cellOf env p.1; pure (ForInStep.yield ((p.1,a) :: cs)) else pure (ForInStep.yield cs))=pure cl ∧
        (∀ y a,cl.lookup y=some a→env.cells.lookup y=some a) ∧ (∀ y,(y,NameKind.free) ∈ l→(cl.lookup y).isSome=true) ∧ ∀ y,(acc.lookup y).isSome=true→(cl.lookup y).isSome=true:=by
    intro l
    induction l with
    | nil=>intro acc _ ha; exact ⟨acc,rfl,ha,fun _ h=>(nomatch h),fun _ h=>h⟩
    | cons p r ih =>
      intro acc hl ha
      have hr:=fun q hq=>hl q (List.mem_cons_of_mem _ hq)
      cases hk:p.2 == .free with
      | false =>
        refine byC fun zC zk=>?_
        obtain ⟨cl,h1,h2,h3,h4⟩:=ih acc hr ha
        refine zk ?_
        refine ⟨cl,by rw [List.forIn_cons,hk]; exact h1,h2,fun y hy=>?_,h4⟩
        rcases List.mem_cons.mp hy with e | hy
        · rw [← e] at hk; cases hk
        · exact h3 y hy
      | true =>
        have hk':p.2=.free:=by simpa using hk
        refine byC fun zC zk=>?_
        obtain ⟨a,e⟩:=hl p (List.mem_cons_self ..) hk'
        obtain ⟨cl,h1,h2,h3,h4⟩:=ih ((p.1,a) :: acc) hr fun y b hb=>by
          rw [List.lookup_cons] at hb
          cases hy:y == p.1 with
          | true=>rw [hy] at hb; cases hb; rw [beq_iff_eq.mp hy]; exact e
          | false=>rw [hy] at hb; exact ha y b hb
        refine zk ?_
        refine ⟨cl,by rw [List.forIn_cons,hk,if_pos rfl]; unfold cellOf; rw [e]; exact h1,h2,fun y hy=>?_,fun y hy=>h4 y ?_⟩
        · rcases List.mem_cons.mp hy with q | hy
          · exact h4 y (by rw [List.lookup_cons,← q,beq_self_eq_true]; rfl)
          · exact h3 y hy
        · rw [List.lookup_cons]
          cases y == p.1 with
          | true=>rfl
          | false=>exact hy
  refine byC fun zC zk=>?_
  obtain ⟨cl,h1,h2,h3,_⟩:=key scope.names [] h fun _ _ h=>nomatch h
  refine zk ?_
  refine ⟨cl,?_,fun y hy=>?_⟩
  · show (forIn (m:=Sem) scope.names [] _ >>= fun r=>pure r)=_
    have:=h1
    first
      | exact (congrArg (· >>= fun r=>pure r) h1)
      | (simp only [bind_pure]; exact h1)
  · refine byC fun zC zk=>?_
    obtain ⟨a,e⟩:=Option.isSome_iff_exists.mp (h3 y hy)
    refine zk ?_
    rw [e,h2 y a e]
end
end Mine
end
section
namespace Mine
theorem relS_eq (sc fs:Scope) (env:Env) (h:env.scope=fs):relS sc fs=relabel sc env:=by
  subst h
  unfold relS relabel Env.kindOf
  congr 1
  refine congrArg (fun f=>sc.names.map f) (funext fun ⟨n,k⟩=>?_)
  dsimp only
  cases (k == .free && env.scope.kind == .function && env.scope.names.lookup n == some .cell) <;> rfl
structure ScOK (sc fs:Scope) (y:Str):Prop where
  k:sc.kind=.function
  fk:fs.kind=.function
  d0:lookS ".0" sc.names=some .local
  f0:lookS ".0" fs.names=none
  hy:lookS y sc.names=some .local
  cell:∀ p ∈ sc.names,p.2 ≠ .cell
  loc:∀ p ∈ sc.names,p.2=.local→p.1=y ∨ p.1=".0"
  free:∀ p ∈ sc.names,p.2=.free→lookS p.1 fs.names=some .cell
theorem scOk_iff {sc fs:Scope} {y:Str} (h:scOk sc fs y=true):ScOK sc fs y:=by
  simp only [scOk,Bool.and_eq_true,beq_iff_eq,Option.isNone_iff_eq_none,List.all_eq_true] at h
  obtain ⟨⟨⟨⟨⟨h1,h2⟩,h3⟩,h4⟩,h5⟩,h6⟩:=h
  refine ⟨h1,h2,h3,h4,h5,fun p hp e=>?_,fun p hp e=>?_,fun p hp e=>?_⟩
  · have:=(h6 p hp).1.1
    rw [e] at this
    cases this
  · have:=(h6 p hp).1.2
    rw [e] at this
    rcases Bool.or_eq_true_iff.mp (this:(eqS p.1 y || eqS p.1 ".0")=true) with q | q
    · exact .inl (eqS_iff.mp q)
    · exact .inr (eqS_iff.mp q)
  · have:=(h6 p hp).2
    rw [e] at this
    exact beq_iff_eq.mp (this:(lookS p.1 fs.names == some .cell)=true)
theorem relS_look {sc fs:Scope} {y:Str} (H:ScOK sc fs y) {z:Str} {kd:NameKind} (h:lookS z (relS sc fs).names=some kd) (hh:isHeld kd=true) :
    (kd=.local ∧ (z=y ∨ z=".0")) ∨ (kd=.cell ∧ lookS z fs.names=some .cell ∧ (z,NameKind.free) ∈ sc.names):=by
  obtain ⟨k,e1,e2⟩:=lookS_map (f:=fun p:Str × NameKind=>bif (p.2 == .free && fs.kind == .function && fs.names.lookup p.1 == some .cell) then (p.1,NameKind.cell) else p) (fun p=>by cases (p.2 == .free && fs.kind == .function && fs.names.lookup p.1 == some .cell) <;> rfl) h
  have hm:=lookS_mem e1
  dsimp only at e2
  cases hb:(k == .free && fs.kind == .function && fs.names.lookup z == some .cell) with
  | true =>
    rw [hb] at e2
    cases (Prod.mk.inj (e2:(z,NameKind.cell)=(z,kd))).2
    have hk:k=.free:=by
      simp only [Bool.and_eq_true,beq_iff_eq] at hb
      exact hb.1.1
    subst hk
    exact .inr ⟨rfl,H.free _ hm rfl,hm⟩
  | false =>
    rw [hb] at e2
    cases (Prod.mk.inj (e2:(z,k)=(z,kd))).2
    cases kd with
    | «local»=>exact .inl ⟨rfl,H.loc _ hm rfl⟩
    | cell=>exact absurd rfl (H.cell _ hm)
    | _=>cases hh
theorem relS_loc {sc fs:Scope} {z:Str} (h:lookS z sc.names=some .local):lookS z (relS sc fs).names=some .local:=by
  have key:∀ {l:List (Str × NameKind)},lookS z l=some .local→lookS z (l.map fun p=>bif (p.2 == .free && fs.kind == .function && fs.names.lookup p.1 == some .cell) then (p.1,NameKind.cell) else p)=some .local:=by
    intro l
    induction l with
    | nil=>intro h; cases h
    | cons p r ih =>
      intro h
      rw [lookS_c] at h
      rw [List.map_cons,lookS_c]
      have e:(bif (p.2 == .free && fs.kind == .function && fs.names.lookup p.1 == some .cell) then (p.1,NameKind.cell) else p).1=p.1:=by cases (p.2 == .free && fs.kind == .function && fs.names.lookup p.1 == some .cell) <;> rfl
      rw [e]
      cases q:eqS z p.1 with
      | true =>
        rw [q] at h
        have h:p.2=.local:=Option.some.inj h
        rw [h]
        exact congrArg some h
      | false=>rw [q] at h; exact ih h
  exact key h
section
variable {W:Wd} {T:Tab} {o:Ops} {x:Ac} {Γ:Ctx} {n:Nat} {c:Cf} {E:Value→Shared→Prop}
theorem comp_in {sc:Scope} {cl:List (Str × Addr)} {C:Addr} {y:Str} {v:SV} {u:Value} {ex own:List (Addr × Obj)} {oC:Obj} {m':Str→Option Value} (H:ScOK sc x.cs y) (hcc:x.cc=none) (hcl:∀ z,(z,NameKind.free) ∈ sc.names→cl.lookup z=x.cl.lookup z)
    (hg:∀ p ∈ ex ++ own,c.s.heap.get? p.1=some p.2 ∧ Fresh x c p.1) (ho:∀ p ∈ ex,∀ q ∈ own,p.1 ≠ q.1) (hC:(C,oC) ∈ own) (hn:∀ h:Heap,h.get? C=some oC→h.Ns C m') (hm:m' y=some u) (S:St W x c) (hv:Den W.K (c.F ++ ex) c.ρ v u) :
    St W { x with cc:=some (sc,cl,C) } { c with F:=c.F ++ ex,J:=own ++ c.J,σ:=⟨relS sc c.σ.sc,(y,some v) :: (".0",none) :: c.σ.loc,c.σ.hp⟩ }:=by
  obtain ⟨P,S2⟩:=S.addFJ hg ho
  have e1:x.sc=x.cs:=sc_fn hcc
  have e2:c.σ.sc=x.cs:=S2.sc.1.trans e1
  have e3:Ac.sc { x with cc:=some (sc,cl,C) }=relS sc x.cs:=(relS_eq sc x.cs x.fenv rfl).symm
  refine ⟨P,⟨by rw [e3,e2],S2.sc.2⟩,S2.fr,S2.news,S2.rho,S2.objs,S2.nodup,S2.fj,fun z w kd h1 h2 h3=>?_⟩
  rw [e3] at h2
  have h1:(bif eqS z y then some (some v) else lookS z ((".0",none) :: c.σ.loc))=some (some w):=h1
  cases ey:eqS z y with
  | true =>
    rw [ey] at h1
    cases h1
    cases eqS_iff.mp ey
    exact ⟨u,.comp rfl (by rw [e3]; exact relS_loc H.hy) (List.mem_append_left _ hC) fun h hh=>⟨m',hn h hh,hm⟩,hv⟩
  | false =>
    rw [ey] at h1
    have h1:(bif eqS z ".0" then some none else lookS z c.σ.loc)=some (some w):=h1
    cases e0:eqS z ".0" with
    | true=>rw [e0] at h1; cases h1
    | false =>
      rw [e0] at h1
      rcases relS_look H h2 h3 with ⟨rfl,q⟩ | ⟨rfl,q,qf⟩
      · rcases q with q | q
        · rw [eqS_iff.mpr q] at ey; cases ey
        · rw [eqS_iff.mpr q] at e0; cases e0
      · obtain ⟨u',k1,k2⟩:=S2.loc z w .cell h1 (by rw [e1]; exact q) rfl
        refine ⟨u',?_,k2⟩
        cases k1 with
        | loc a b d=>rw [q] at b; cases b
        | cell a b d e =>
          rw [env_fn hcc] at b
          exact .cell (by rw [e3]; exact h2) ((hcl z qf).trans b) d e
        | comp a=>rw [hcc] at a; cases a
theorem comp_out {q:Scope × List (Str × Addr) × Addr} {c':Cf} {own:List (Addr × Obj)} (hcc:x.cc=none) (S:St W x c) (hl:Ext c.ρ c'.ρ) (hs:Sub c.F c'.F) (hJ:c'.J=own ++ c.J) (hm:c'.m=c.m) (ho:∀ p ∈ own,∀ r ∈ c.J,r.1 ≠ p.1) (S':St W { x with cc:=some q } c') :
    St W x { c' with J:=c.J,σ:={ c.σ with hp:=c'.σ.hp } } ∧ ∀ p ∈ own,Fresh x { c' with J:=c.J,σ:={ c.σ with hp:=c'.σ.hp } } p.1:=by
  obtain ⟨P,S⟩:=S
  obtain ⟨P',S'⟩:=S'
  have hJs:Sub c.J c'.J:=fun p hp=>hJ ▸ List.mem_append_right _ hp
  have hF:∀ p,p ∈ c'.F ++ c.J→p ∈ c'.F ++ c'.J:=fun p hp=>(List.mem_append.mp hp).elim (fun h=>List.mem_append_left _ h) fun h=>List.mem_append_right _ (hJs p h)
  refine ⟨⟨P',⟨S.sc.1,S'.sc.2⟩,S'.fr,fun p hp=>S'.news p ((List.mem_append.mp hp).elim (fun h=>List.mem_append_left _ h) fun h=>List.mem_append_right _ (hF p h)),S'.rho,S'.objs.imp fun so p ⟨k1,k2,k3⟩=>⟨k1,k2,fun q hq=>k3 q (hJs q hq)⟩,S'.nodup,fun p hp q hq=>S'.fj p hp q (hJs q hq),fun y v kd h1 h2 h3=>?_⟩,fun p hp=>?_⟩
  · obtain ⟨u,k1,k2⟩:=S.loc y v kd h1 h2 h3
    refine ⟨u,?_,k2.mono hs hl⟩
    show Rd x c'.F c.J c'.m y u
    rw [hm]
    exact k1.mono hs fun _ h=>h
  · have hpJ:p ∈ c'.J:=hJ ▸ List.mem_append_left _ hp
    have hn:=S'.news p (List.mem_append_right _ (List.mem_append_right _ hpJ))
    refine ⟨hn.2.1,hn.2.2,fun hr=>?_,fun q hq=>?_⟩
    · have hr:p.1 ∈ c'.ρ:=hr
      rw [← S'.rho] at hr
      obtain ⟨q,hq,e⟩:=List.mem_map.mp hr
      obtain ⟨i,hi,e2⟩:=List.getElem_of_mem hq
      have hi2:i < c'.σ.hp.length:=S'.objs.len ▸ hi
      exact (S'.objs.both (List.getElem?_eq_getElem hi2) (by rw [List.getElem?_eq_getElem hi,e2])).2.2 p hpJ e.symm
    · rcases List.mem_append.mp hq with h | h
      · exact S'.fj q h p hpJ
      · exact ho p hp q h
theorem fresh_ge {b:Addr} (S:St W x c) (hb:c.s.heap.objs.size ≤ b):Fresh x c b:=by
  obtain ⟨P,S⟩:=S
  have off:∀ p ∈ P ++ (c.F ++ c.J),p.1 ≠ b:=fun p hp e=>Nat.not_lt.mpr hb (e ▸ S.off hp)
  refine ⟨fun e=>?_,?_,fun hr=>?_,fun p hp=>off p (List.mem_append_right _ hp)⟩
  · exact Nat.not_lt.mpr hb (e ▸ S.fr.ns.lt)
  · cases e:x.h₀.get? b with
    | none=>rfl
    | some o=>exact absurd (Heap.lt_size (S.fr.keep b o e)) (Nat.not_lt.mpr hb)
  · rw [← S.rho] at hr
    obtain ⟨p,hp,e⟩:=List.mem_map.mp hr
    exact off p (List.mem_append_left _ hp) e
theorem St.any (S:St W x c) {σ:Sy} (hs:σ.sc=c.σ.sc) (hl:σ.loc=c.σ.loc) (hh:σ.hp=c.σ.hp):St W x { c with σ:=σ }:=by
  obtain ⟨a,b,d⟩:=σ
  cases hs; cases hl; cases hh
  exact S
structure AccAt (D:Addr) (us:List Value) (k:Nat) (h:Heap):Prop where
  g:h.get? D=some (listOf (List.toArray us) k)
theorem comp_loop (S0:Snd W o n) (TO:TabOK W T) {elt iter:Expr} {ifs:List Expr} {y:Str} {py:Pos} {sc:Scope} {pos:Pos} {cl:List (Str × Addr)} {I C D:Addr} {wr:List Addr} {l:List SV} {At:Nat→Heap→Prop} {Mid:Nat→Value→Heap→Prop} {K:List SV→Sy→Prop} {Q:Value→Shared→Prop}
    (ok:x.Ok W Γ n) (H:ScOK sc x.cs y) (hcc:x.cc=none) (hcl:∀ z,(z,NameKind.free) ∈ sc.names→cl.lookup z=x.cl.lookup z) (hif:ifs.length ≤ 1) {c₀:Cf} (It:Its W x c₀ (fun _=>True) I wr l At Mid) (hl1:l.length ≤ 1000)
    (hDC:D ≠ C) (hDw:D ∉ wr) (hCw:C ∉ wr)
    (fin:∀ (acc:List SV) (us:List Value) (k:Nat) (c':Cf),K acc c'.σ→Le c₀ c'→St W x c'→DL W c' acc us→acc.length ≤ 1000→AccAt D us k c'.s.heap→Fresh x c' D→Q (.ref D) c'.s) :
    ∀ {r:List SV} {i:Nat} {acc:List SV} {us:List Value} {k:Nat} {m':Str→Option Value} {c:Cf},l.drop i=r→i ≤ l.length→compL o elt ifs y sc r acc c.σ K→St W x c→Le c₀ c→c.σ.sc=c₀.σ.sc→At i c.s.heap→DL W c acc us→acc.length ≤ i→AccAt D us k c.s.heap→c.s.heap.Ns C m'→(∀ b,b ∈ wr ∨ b=C ∨ b=D→Fresh x c b) →
      CompC W.cb W.prog W.w x.ar (.ListComp elt [⟨.Name y py,iter,ifs,0⟩] sc pos) (.ref I) (.ref D) (compEnvC sc cl C x.fenv) (fun r s'=>r=.ok .next ∧ ∃ m',s'.heap.Ns C m' ∧ ∀ h',Heap.SameBut C s'.heap h'→Q (.ref D) { s' with heap:=h' }) c.s:=by
  intro r
  induction r with
  | nil =>
    intro i acc us k m' c hr hi h S le hsc st dl hacc ha hns fr
    have:i=l.length:=by
      have:=List.drop_eq_nil_iff.mp hr
      exact ln [_,_] [] [.le (.v 0) (.v 1),.le (.v 1) (.v 0)] (.eq (.v 0) (.v 1)) (.b (.w [1,0,1]) (.w [0,1,1])) zr hi this
    subst this
    have hF:∀ p ∈ c₀.F,c.s.heap.get? p.1=some p.2:=fun p hp=>S.el fun P S=>(S.news p (S.memF (le.sub p hp))).1
    refine at_compTurnG hif fun Γ' hI hC=>at_any hI (It.done _ _ _ st hF fun h' tk hk=>⟨rfl,m',?_,fun h'' hs=>?_⟩)
    · exact hns.at' fun o' e=>hk _ _ hCw e
    · have k2:∀ b o',b ∉ C :: wr→c.s.heap.get? b=some o'→h''.get? b=some o':=fun b o' hb e=>hs.extBut b o' (fun e2=>hb (by rw [e2]; exact List.mem_cons_self ..)) (hk b o' (fun e2=>hb (List.mem_cons_of_mem _ e2)) e)
      refine fin acc us k (c.up c.σ h'' tk) h (le.trans Le.up) (S.move k2 fun b hb=>fr b ?_) dl (Nat.le_trans hacc hl1) ⟨k2 D _ (fun e=>?_) ha.g⟩ ⟨(fr D (.inr (.inr rfl))).l,(fr D (.inr (.inr rfl))).h,(fr D (.inr (.inr rfl))).r,(fr D (.inr (.inr rfl))).f⟩
      · rcases List.mem_cons.mp hb with e | e
        · exact .inr (.inl e)
        · exact .inl e
      · rcases List.mem_cons.mp e with e | e
        · exact hDC e
        · exact hDw e
  | cons v r ih =>
    intro i acc us k m' c hr hi h S le hsc st dl hacc ha hns fr
    have hlt:i < l.length:=by
      rcases Nat.lt_or_ge i l.length with h1 | h1
      · exact h1
      · rw [List.drop_eq_nil_of_le h1] at hr; cases hr
    rw [List.drop_eq_getElem_cons hlt] at hr
    have hlv:l[i]?=some v:=by rw [List.getElem?_eq_getElem hlt]; exact congrArg some (List.cons.inj hr).1
    have hr':l.drop (i + 1)=r:=(List.cons.inj hr).2
    have hF:∀ p ∈ c₀.F,c.s.heap.get? p.1=some p.2:=fun p hp=>S.el fun P S=>(S.news p (S.memF (le.sub p hp))).1
    -- what is written is in the heap already
    have hin:∀ b,b ∈ wr ∨ b=C ∨ b=D→b < c.s.heap.objs.size:=by
      rintro b (hb | rfl | rfl)
      · refine byC fun zC zk=>?_
        obtain ⟨own,e1,e2,_⟩:=It.frame i _ st hF
        rw [← e1] at hb
        obtain ⟨p,hp,rfl⟩:=List.mem_map.mp hb
        refine zk ?_
        exact Heap.lt_size (e2 p hp)
      · obtain ⟨oo,_,_,g,_⟩:=hns; exact Heap.lt_size g
      · exact Heap.lt_size ha.g
    refine at_compTurnG hif fun Γ' hI hC=>at_any hI (It.item i _ _ _ v hlv st hF fun u h1 tk ex hex dv mid hk1=>?_)
    refine at_any hI (It.go _ i u { c.s with heap:=h1,toks:=tk } _ True.intro mid fun h2 st2 hk2=>?_)
    have hns2:h2.Ns C m':=(hns.at' fun o' e=>hk1 _ _ hCw e).at' fun o' e=>hk2 _ _ hCw e
    have hkind:(compEnvC sc cl C x.fenv).kindOf y=some .local:=by
      show (relabel sc x.fenv).names.lookup y=_
      rw [← relS_eq sc x.cs x.fenv rfl,← lookS_lookup]
      exact relS_loc H.hy
    refine at_any hI (wpAny_assign_Name (wpAny_storeName_local hkind hns2 (fun h3 hn3 hs3=>?_) (by show (sc.kind == .class || (sc.kind == .module && _))=false; rw [H.k]; rfl)))
    have k13:∀ b o',b ∉ C :: wr→h1.get? b=some o'→h3.get? b=some o':=fun b o' hb e=>hs3.extBut b o' (fun e2=>hb (by rw [e2]; exact List.mem_cons_self ..)) (hk2 b o' (fun e2=>hb (List.mem_cons_of_mem _ e2)) e)
    have k3:∀ b o',b ∉ C :: wr→c.s.heap.get? b=some o'→h3.get? b=some o':=fun b o' hb e=>k13 b o' hb (hk1 b o' (fun e2=>hb (List.mem_cons_of_mem _ e2)) e)
    have fr':∀ b,b ∈ C :: wr→Fresh x c b:=fun b hb=>fr b ((List.mem_cons.mp hb).elim (fun e=>.inr (.inl e)) .inl)
    have S3:St W x (c.up c.σ h3 (tk + 1)):=S.move k3 fr'
    have hF2:∀ p ∈ c₀.F,h2.get? p.1=some p.2:=fun p hp=>hk2 _ _ (fun hb=>(fr p.1 (.inl hb)).f p (List.mem_append_left _ (le.sub p hp)) rfl) (hk1 _ _ (fun hb=>(fr p.1 (.inl hb)).f p (List.mem_append_left _ (le.sub p hp)) rfl) (hF p hp))
    refine byC fun zC zk=>?_
    obtain ⟨own,w1,w2,w3⟩:=It.frame (i + 1) h2 st2 hF2
    have hwr:∀ p ∈ own,p.1 ∈ wr:=fun p hp=>w1 ▸ List.mem_map_of_mem hp
    obtain ⟨oC,es,ep,gC,rC⟩:=hn3
    have nC:D ∉ C :: wr:=fun e=>(List.mem_cons.mp e).elim hDC hDw
    have hg:∀ p ∈ ex ++ ((C,oC) :: (D,listOf (List.toArray us) k) :: own),(c.up c.σ h3 (tk + 1)).s.heap.get? p.1=some p.2 ∧ Fresh x (c.up c.σ h3 (tk + 1)) p.1:=fun p hp=>by
      rcases List.mem_append.mp hp with hp | hp
      · have hge:=(hex p hp).2
        refine ⟨k13 _ _ (fun hb=>?_) (hex p hp).1,⟨(fresh_ge S hge).l,(fresh_ge S hge).h,(fresh_ge S hge).r,(fresh_ge S hge).f⟩⟩
        have:=hin p.1 ((List.mem_cons.mp hb).elim (fun e=>.inr (.inl e)) .inl)
        exact absurd this (Nat.not_lt.mpr hge)
      · have key:∀ b,b ∈ wr ∨ b=C ∨ b=D→Fresh x (c.up c.σ h3 (tk + 1)) b:=fun b hb=>⟨(fr b hb).l,(fr b hb).h,(fr b hb).r,(fr b hb).f⟩
        rcases List.mem_cons.mp hp with rfl | hp
        · exact ⟨gC,key _ (.inr (.inl rfl))⟩
        · rcases List.mem_cons.mp hp with rfl | hp
          · exact ⟨k3 _ _ nC ha.g,key _ (.inr (.inr rfl))⟩
          · exact ⟨hs3.extBut _ _ (fun e=>by have e:p.1=C:=e; exact hCw (e ▸ hwr p hp)) (w2 p hp),key _ (.inl (hwr p hp))⟩
    have hox:∀ p ∈ ex,∀ q ∈ ((C,oC) :: (D,listOf (List.toArray us) k) :: own),p.1 ≠ q.1:=fun p hp q hq e=>by
      have h1:=(hex p hp).2
      have h2:=hin q.1 (by
        rcases List.mem_cons.mp hq with rfl | hq
        · exact .inr (.inl rfl)
        · rcases List.mem_cons.mp hq with rfl | hq
          · exact .inr (.inr rfl)
          · exact .inl (hwr q hq))
      rw [e] at h1
      exact absurd h2 (Nat.not_lt.mpr h1)
    have dv3:Den W.K (c.F ++ ex) c.ρ v u:=dv.mono (fun p hp=>(List.mem_append.mp hp).elim (fun h=>List.mem_append_left _ (le.sub p h)) fun h=>List.mem_append_right _ h) le.ext
    have S4:=comp_in (c:=c.up c.σ h3 (tk + 1)) (cl:=cl) (C:=C) (y:=y) (v:=v) (m':=fun z=>if z=y then some u else m' z) H hcc hcl hg hox (List.mem_cons_self ..) (fun h hh=>⟨oC,es,ep,hh,rC⟩) (if_pos rfl) S3 dv3
    have ok':Ac.Ok W { x with cc:=some (sc,cl,C) } Γ' n:=by
      have e3:Ac.sc { x with cc:=some (sc,cl,C) }=relS sc x.cs:=(relS_eq sc x.cs x.fenv rfl).symm
      exact ⟨ok.B,ok.X,ok.T,ok.hk,H.k,ok.dp,ok.un,hI,hC,fun q hq=>by rw [e3]; exact relS_loc H.d0,ok.cellsX,ok.hn⟩
    obtain ⟨c4,hc4⟩:∃ c4,c4=({ (c.up c.σ h3 (tk + 1)) with F:=c.F ++ ex,J:=((C,oC) :: (D,listOf (List.toArray us) k) :: own) ++ c.J,σ:=⟨relS sc c.σ.sc,(y,some v) :: (".0",none) :: c.σ.loc,c.σ.hp⟩ }:Cf):=⟨_,rfl⟩
    refine zk ?_
    have S4:St W { x with cc:=some (sc,cl,C) } c4:=hc4 ▸ S4
    -- behind the turn's words
    have back:∀ {acc':List SV} {us':List Value} {k':Nat} {c6:Cf} {h8:Heap} {tk8:Nat},Le c4 c6→St W { x with cc:=some (sc,cl,C) } c6→compL o elt ifs y sc r acc' { c.σ with hp:=c6.σ.hp } K→(∀ b o',b ≠ D→c6.s.heap.get? b=some o'→h8.get? b=some o')→DL W c6 acc' us'→acc'.length ≤ i + 1→AccAt D us' k' h8 →
        CompC W.cb W.prog W.w x.ar (.ListComp elt [⟨.Name y py,iter,ifs,0⟩] sc pos) (.ref I) (.ref D) (compEnvC sc cl C x.fenv) (fun r s'=>r=.ok .next ∧ ∃ m',s'.heap.Ns C m' ∧ ∀ h',Heap.SameBut C s'.heap h'→Q (.ref D) { s' with heap:=h' }) { c6.s with heap:=h8,toks:=tk8 }:=by
      intro acc' us' k' c6 h8 tk8 l6 S6 h hk8 dl8 hacc8 ha8
      have hJ6:c6.J=((C,oC) :: (D,listOf (List.toArray us) k) :: own) ++ c.J:=l6.jj.trans (by rw [hc4])
      have hF6:Sub c.F c6.F:=fun p hp=>l6.sub p (by rw [hc4]; exact List.mem_append_left _ hp)
      have hE6:Ext c.ρ c6.ρ:=fun i a e=>l6.ext i a (by rw [hc4]; exact e)
      have hm6:c6.m=c.m:=l6.mm.trans (by rw [hc4])
      refine byC fun zC zk=>?_
      obtain ⟨S7,f7⟩:=comp_out (c:=c) hcc S hE6 hF6 hJ6 hm6 (fun p hp r hr=>(hg p (List.mem_append_right _ hp)).2.f r (List.mem_append_right _ hr)) S6
      refine zk ?_
      have hh6:∀ p ∈ ((C,oC) :: (D,listOf (List.toArray us) k) :: own),c6.s.heap.get? p.1=some p.2:=fun p hp=>S6.el fun P S=>(S.news p (List.mem_append_right _ (List.mem_append_right _ (hJ6 ▸ List.mem_append_left _ hp)))).1
      have fD:Fresh x { c6 with J:=c.J,σ:={ c.σ with hp:=c6.σ.hp } } D:=f7 (D,_) (List.mem_cons_of_mem _ (List.mem_cons_self ..))
      have S8:St W x (Cf.up { c6 with J:=c.J,σ:={ c.σ with hp:=c6.σ.hp } } { c.σ with hp:=c6.σ.hp } h8 tk8):=S7.move (wr:=[D]) (fun b o' hb e=>hk8 b o' (fun e2=>hb (List.mem_singleton.mpr e2)) e) fun b hb=>by rw [List.mem_singleton.mp hb]; exact fD
      refine ih (i:=i + 1) (m':=fun z=>if z=y then some u else m' z) (c:=Cf.up { c6 with J:=c.J,σ:={ c.σ with hp:=c6.σ.hp } } { c.σ with hp:=c6.σ.hp } h8 tk8) hr' hlt h S8 ⟨fun i a e=>hE6 i a (le.ext i a e),fun p hp=>hF6 p (le.sub p hp),le.jj,hm6.trans le.mm⟩ hsc (w3 h8 fun p hp=>?_) dl8 hacc8 ha8 ⟨oC,es,ep,hk8 _ _ (fun e=>hDC e.symm) (hh6 (C,oC) (List.mem_cons_self ..)),rC⟩ fun b hb=>?_
      · rcases List.mem_append.mp hp with hp | hp
        · exact hk8 _ _ (fun e=>hDw (e ▸ hwr p hp)) (hh6 p (List.mem_cons_of_mem _ (List.mem_cons_of_mem _ hp)))
        · have h9:c6.s.heap.get? p.1=some p.2:=S6.el fun P S=>(S.news p (S.memF (hF6 p (le.sub p hp)))).1
          exact hk8 _ _ (fun e=>fD.f p (List.mem_append_left _ (hF6 p (le.sub p hp))) e) h9
      · have f8:∀ p ∈ ((C,oC) :: (D,listOf (List.toArray us) k) :: own),Fresh x (Cf.up { c6 with J:=c.J,σ:={ c.σ with hp:=c6.σ.hp } } { c.σ with hp:=c6.σ.hp } h8 tk8) p.1:=fun p hp=>⟨(f7 p hp).l,(f7 p hp).h,(f7 p hp).r,(f7 p hp).f⟩
        rcases hb with hb | e | e
        · rw [← w1] at hb
          refine byC fun zC zk=>?_
          obtain ⟨p,hp,rfl⟩:=List.mem_map.mp hb
          refine zk ?_
          exact f8 p (List.mem_cons_of_mem _ (List.mem_cons_of_mem _ hp))
        · rw [e]; exact f8 (C,oC) (List.mem_cons_self ..)
        · rw [e]; exact f8 (D,_) (List.mem_cons_of_mem _ (List.mem_cons_self ..))
    have dl4:DL W c4 acc us:=dl.imp fun _ _ h=>h.mono (fun p hp=>by rw [hc4]; exact List.mem_append_left _ hp) fun i a e=>by rw [hc4]; exact e
    have es4:c4.s={ c.s with heap:=h3,toks:=tk + 1 }:=by rw [hc4]
    have h:allT o.ts (decide (BoolOp.And=BoolOp.And)) ifs c4.σ fun b σ1=>bite b (o.ev elt σ1 fun u σ2=>compL o elt ifs y sc r (acc ++ [u]) { c.σ with hp:=σ2.hp } K) (compL o elt ifs y sc r acc { c.σ with hp:=σ1.hp } K):=by rw [hc4]; exact h
    have T1:=allT_snd (E:=fun _ _=>False) S0 ok' h S4 (Q:=fun b s₂=>if b=true then wpAt W.M Γ' (eval elt (compEnvC sc cl C x.fenv)) (fun z s₃ =>
          wpAt W.M Γ' (call (.builtin "list.append") [.ref D,z]) (fun _ s₄=>CompC W.cb W.prog W.w x.ar (.ListComp elt [⟨.Name y py,iter,ifs,0⟩] sc pos) (.ref I) (.ref D) (compEnvC sc cl C x.fenv) (fun r s'=>r=.ok .next ∧ ∃ m',s'.heap.Ns C m' ∧ ∀ h',Heap.SameBut C s'.heap h'→Q (.ref D) { s' with heap:=h' }) s₄) (fun _ _=>False) s₃) (fun _ _=>False) s₂ else CompC W.cb W.prog W.w x.ar (.ListComp elt [⟨.Name y py,iter,ifs,0⟩] sc pos) (.ref I) (.ref D) (compEnvC sc cl C x.fenv) (fun r s'=>r=.ok .next ∧ ∃ m',s'.heap.Ns C m' ∧ ∀ h',Heap.SameBut C s'.heap h'→Q (.ref D) { s' with heap:=h' }) s₂) fun b b' c5 h l5 eb S5=>by
      cases (eb:b=b')
      have hD5:c5.s.heap.get? D=some (listOf (List.toArray us) k):=S5.el fun P S=>(S.news (D,_) (List.mem_append_right _ (List.mem_append_right _ (by rw [l5.jj,hc4]; exact List.mem_cons_of_mem _ (List.mem_cons_self ..))))).1
      cases b with
      | false=>exact back (h8:=c5.s.heap) (tk8:=c5.s.toks) l5 S5 h (fun _ _ _ e=>e) (dl4.mono l5) (by exact ln [_,_] [] [.le (.v 0) (.v 1)] (.le (.v 0) (.a (.v 1) (.k 1))) (.w [1,1]) zr hacc) ⟨hD5⟩
      | true =>
        refine S0.ev (x:={ x with cc:=some (sc,cl,C) }) h ok' S5 fun z uz c6 h l6 dz S6=>?_
        have hD6:c6.s.heap.get? D=some (listOf (List.toArray us) k):=S6.el fun P S=>(S.news (D,_) (List.mem_append_right _ (List.mem_append_right _ (by rw [(l5.trans l6).jj,hc4]; exact List.mem_cons_of_mem _ (List.mem_cons_self ..))))).1
        have hz:=dl.len
        refine at_any hI (append_at (hsz:=by rw [sizeLine_eq,size_of]; exact ln [_,_,_,_] [] [.le (.v 0) (.k 1000),.le (.v 1) (.v 2),.lt (.v 2) (.v 0),.eq (.v 1) (.v 3)] (.le (.v 3) (.k 16777216)) (.w [0,1,1,1,1,1]) zr hl1 hacc hlt hz) hD6 fun h8 hs8 hd8=>?_)
        exact back (us':=us ++ [uz]) (k':=k + 1) (tk8:=c6.s.toks) (l5.trans l6) S6 h (fun b o' hb e=>hs8.extBut b o' hb e) ((dl4.mono (l5.trans l6)).app (.cons dz .nil)) (by rw [List.length_append]; exact Nat.succ_le_succ hacc) ⟨by rw [hd8]; simp⟩
    rw [es4] at T1
    exact T1
end
end Mine
end
namespace Mine
section
variable {W:Wd} {T:Tab} {o:Ops} {x:Ac} {Γ:Ctx} {n:Nat} {c:Cf} {E:Value→Shared→Prop} {K:KV} {Q:Value→Shared→Prop}
theorem folded_of {e:Expr} (h:isSet e=false) (env:Env) (v:Value):foldedSetIterable e env v=pure v:=by
  cases e <;> first | rfl | cases h
theorem over_snd (hn:x.hh=none) {v:SV} {u:Value} {K:List SV→Sy→Prop} (S:St W x c) (hv:DV W c v u) (h:overP v c.σ K) (g:∀ l c' I wr At Mid h',K l c'.σ→Le c c'→c'.s=c.s→c'.σ.sc=c.σ.sc→St W x c'→Iter W x c' (fun _=>True) l I wr At Mid h'→Q (.ref I) { c'.s with heap:=h' }) :
    wpAny W.M x.ar (pyIter u) Q E c.s:=by
  unfold overP at h
  cases e:objI v with
  | none =>
    rw [e] at h
    refine byC fun zC zk=>?_
    refine nOpt_el h fun l e1 h=>?_
    refine zk ?_
    exact over1_snd hn S hv e1 fun I wr At Mid h' it=>g l c I wr At Mid h' h (Le.refl c) rfl rfl S it
  | some i =>
    rw [e] at h
    cases objI_eq e
    refine byC fun zC zk=>?_
    refine nOpt_el h fun w e1 h=>?_
    refine nOpt_el h fun l e2 h=>?_
    obtain ⟨so,e3,e4⟩:=Option.bind_eq_some_iff.mp e1
    obtain ⟨a,rfl,hr⟩:=den_obj hv
    obtain ⟨a',ob,r1,d1,S1⟩:=S.frz e3 e4
    refine zk ?_
    rw [hr] at r1
    cases r1
    exact over1_snd hn (c:={ c with F:=c.F ++ [(a,ob)],σ:=frzS i w (c.σ.put i .gone) }) S1 d1 e2 fun I wr At Mid h' it=>g l _ I wr At Mid h' h ⟨fun _ _ h=>h,Sub.snoc _ _,rfl,rfl⟩ rfl rfl S1 it
theorem comp_snd (hn:x.hh=none) (S0:Snd W o n) (TO:TabOK W T) {elt:Expr} {g:Comprehension} {sc:Scope} {pos:Pos} (h:compV o elt g sc c.σ K) (ok:x.Ok W Γ n) (S:St W x c) (G:Goes W x (DV W) c K Q):wpAt W.M Γ (eval (.ListComp elt [g] sc pos) x.env) Q E c.s:=by
  obtain ⟨tg,iter,ifs,ia⟩:=g
  obtain ⟨h1,h⟩:=req1 h
  obtain ⟨h1,hifB⟩:=Bool.and_eq_true_iff.mp h1
  obtain ⟨h1,hia⟩:=Bool.and_eq_true_iff.mp h1
  have hia:ia=0:=of_decide_eq_true hia
  subst hia
  have hif:ifs.length ≤ 1:=Nat.le_of_ble_eq_true hifB
  obtain ⟨h2,h⟩:=req1 h
  obtain ⟨hset,h⟩:=reqN h
  obtain ⟨y,py,rfl⟩:=name_inv h1
  have H0:=scOk_iff h2
  have hsc:c.σ.sc=x.sc:=S.el fun _ S=>S.sc.1
  have hcc:x.cc=none:=by
    cases e:x.cc with
    | none=>rfl
    | some q =>
      have:=ok.cc0 q e
      have f0:=H0.f0
      rw [hsc,this] at f0
      cases f0
  have H:ScOK sc x.cs y:=by rw [hsc,sc_fn hcc] at H0; exact H0
  have henv:x.env=x.fenv:=env_fn hcc
  have hkind:sc.kind=.function:=H.k
  rw [henv,eval_ListComp]
  unfold comprehension
  refine at_bind ?_
  show wpAt W.M Γ (eval iter x.fenv) _ E c.s
  rw [← henv]
  refine S0.ev h ok S fun v u c1 h l1 d1 S1=>?_
  refine at_bind (at_standAt ?_)
  rw [henv]
  show wpAt _ _ (foldedSetIterable iter x.fenv u >>= _) _ _ _
  refine at_bind (at_of_eq (folded_of hset _ _) (at_bind (at_holding (at_any ok.hI (over_snd hn S1 d1 h fun l c2 I wr At Mid h' h l2 es2 hsc2 S2 it=>?_)))))
  obtain ⟨hl1,h⟩:=reqLe h
  show wpAt _ _ (newList [] >>= _) _ _ _
  refine at_bind (at_any ok.hI (wpAny_newObj_type (hd:=by size_fits) ?_))
  obtain ⟨P,S2'⟩:=id S2
  -- the cells
  have hcell:∀ p ∈ sc.names,p.2=.free→∃ a,x.fenv.cells.lookup p.1=some a:=fun p hp hf=>ok.cellsX p.1 (H.free p hp hf)
  obtain ⟨cl,hcl,hcl2⟩:=closure_of hcell
  rw [hcl]
  show wpAt _ _ (pure cl >>= _) _ _ _
  refine at_bind (at_pure (at_bind (at_any ok.hI (wpAny_newFunctionEnv H.cell (by intro y hy; simp at hy) (fun h₁ hns₁ hsb₁=>?_) hkind))))
  dsimp only at hns₁ hsb₁ ⊢
  generalize hH2:h'.push { cls:=.type "list",dict:=none,data:=.seq ([]:List Value).toArray }=H2 at hns₁ hsb₁ ⊢
  have hCs:H2.objs.size=h'.objs.size + 1:=by rw [← hH2,Heap.size_push]
  have hk:∀ b o',c2.s.heap.get? b=some o'→h₁.get? b=some o':=fun b o' e=>by
    have e1:=it.keep b o' e
    have e2:H2.get? b=some o':=hH2 ▸ push_keep b o' e1
    exact hsb₁.extBut b o' (Nat.ne_of_lt (Heap.lt_size e2)) (push_keep b o' e2)
  have hF:∀ p ∈ c2.F,h'.get? p.1=some p.2:=fun p hp=>it.keep _ _ (S2'.news p (S2'.memF hp)).1
  obtain ⟨own,w1,w2,w3⟩:=it.its.frame 0 h' it.at0 hF
  have hk':∀ b o',h'.get? b=some o'→h₁.get? b=some o':=fun b o' e=>by
    have e2:H2.get? b=some o':=hH2 ▸ push_keep b o' e
    exact hsb₁.extBut b o' (Nat.ne_of_lt (Heap.lt_size e2)) (push_keep b o' e2)
  have hw:∀ b ∈ wr,b < h'.objs.size:=fun b hb=>by
    rw [← w1] at hb
    obtain ⟨p,hp,rfl⟩:=List.mem_map.mp hb
    exact Heap.lt_size (w2 p hp)
  have hDg:h₁.get? h'.objs.size=some (listOf (List.toArray []) 0):=hsb₁.extBut _ _ (by rw [hCs]; exact Nat.ne_of_lt (Nat.lt_succ_self _)) (push_keep _ _ (hH2 ▸ Heap.get?_push_size _ rfl))
  have S3:St W x (c2.up c2.σ h₁ (c2.s.toks + ([]:List (Str × Value)).length)):=S2.move (wr:=[]) (fun b o' _ e=>hk b o' e) fun b hb=>nomatch hb
  have fr:∀ b,b ∈ wr ∨ b=H2.objs.size ∨ b=h'.objs.size→Fresh x (c2.up c2.σ h₁ (c2.s.toks + ([]:List (Str × Value)).length)) b:=fun b hb=>by
    have hge:c2.s.heap.objs.size ≤ b:=by
      rcases hb with hb | rfl | rfl
      · exact it.new b hb
      · rw [hCs]; exact Nat.le_succ_of_le it.grow
      · exact it.grow
    exact ⟨(fresh_ge S2 hge).l,(fresh_ge S2 hge).h,(fresh_ge S2 hge).r,(fresh_ge S2 hge).f⟩
  have loop:=comp_loop (x:=x) (c:=c2.up c2.σ h₁ (c2.s.toks + ([]:List (Str × Value)).length)) (c₀:=c2) (pos:=pos) (cl:=cl) (py:=py) (iter:=iter) (C:=H2.objs.size) (D:=h'.objs.size) (m':=fun x=>List.lookup x [].reverse) (acc:=[]) (us:=[]) (k:=0) (i:=0) (Q:=Q) S0 TO ok H hcc hcl2 hif it.its hl1
    (by rw [hCs]; exact Nat.ne_of_lt (Nat.lt_succ_self _)) (fun e=>Nat.lt_irrefl _ (hw _ e)) (fun e=>by have:=hw _ e; rw [hCs] at this; exact Nat.lt_irrefl _ (Nat.lt_trans (Nat.lt_succ_self _) this)) (fun acc us k c' h le' S' dl hz ha hf=>?_) (List.drop_zero) (Nat.zero_le _) h S3 Le.up rfl (w3 h₁ fun p hp=>?_) .nil (Nat.le_refl _) ⟨hDg⟩ hns₁ fr
  rotate_left
  · obtain ⟨P',S'⟩:=S'
    have hN:News x.h₀ x.L c'.s.heap ((h'.objs.size,listOf (List.toArray us) k) :: (P' ++ (c'.F ++ c'.J))):=fun p hp=>by
      rcases List.mem_cons.mp hp with rfl | hp
      · exact ⟨ha.g,hf.l,hf.h⟩
      · exact S'.news p hp
    have hD:∀ p ∈ P' ++ (c'.F ++ c'.J),p.1 ≠ h'.objs.size:=fun p hp e=>by
      rcases List.mem_append.mp hp with hp | hp
      · exact hf.r (e ▸ S'.inρ hp)
      · exact hf.f p hp e
    have G':=G.mono (l1.trans (l2.trans le'))
    cases e:datsOf toDat acc with
    | some ds=>rw [e] at h; exact S'.newData (dats_of dl e) c'.s.toks S'.fr hN hD h G'
    | none=>rw [e] at h; exact S'.newGo (so:=.list acc) c'.s.toks S'.fr hN hD ⟨us,k,rfl,dl.imp fun _ _=>Den.mono (fun _ h=>h) (Ext.snoc _ _)⟩ h G'
  · rcases List.mem_append.mp hp with hp | hp
    · exact hk' _ _ (w2 p hp)
    · exact hk' _ _ (hF p hp)
  have hkC:∀ z ∈ (sc.names.filter fun z=>(z.2 == .local || z.2 == .cell) && z.1 != (".0":Str)).reverse,z.2=.local→Env.kindOf (compEnvC sc cl H2.objs.size x.fenv) z.1=some .local:=fun z hz hl=>by
    show (relabel sc x.fenv).names.lookup z.1=_
    rw [← relS_eq sc x.cs x.fenv rfl,← lookS_lookup]
    rcases H.loc z (List.mem_filter.mp (List.mem_reverse.mp hz)).1 hl with e | e
    · rw [e]; exact relS_loc H.hy
    · rw [e]; exact relS_loc H.d0
  refine at_holding (at_bind (?_:wpAt _ _ (Sem.attempt _) _ _ _))
  refine at_attempt (at_holding (at_run2 fun p=>?_))
  refine codeAt_mono (R:=fun r s'=>r=.ok .next ∧ ∃ m',s'.heap.Ns H2.objs.size m' ∧ ∀ h'',Heap.SameBut H2.objs.size s'.heap h''→Q (.ref h'.objs.size) { s' with heap:=h'' }) (at_compStartG loop (it.its.self 0 _ _ _ (w3 h₁ fun p hp=>(List.mem_append.mp hp).elim (fun h=>hk' _ _ (w2 p h)) fun h=>hk' _ _ (hF p h)) loop) rfl (ok.hI.enter _ none p (by intro x; cases x)) (ok.hC.enter none p rfl)) fun r s' hr=>?_
  obtain ⟨rfl,m',hn,hr⟩:=hr
  exact at_bind (at_holding (at_any ok.hI (wpAny_comp_letGo (cenv:=compEnvC sc cl H2.objs.size x.fenv) hkind _ s' m' hkC hn fun h' m' _ hs'=>at_pure (hr h' hs'))))
theorem ev_snd (S0:Snd W o n) (TO:TabOK W T) {e:Expr} (h:evV T o e c.σ K) (ok:x.Ok W Γ n) (S:St W x c) (G:Goes W x (DV W) c K Q):wpAt W.M Γ (eval e x.env) Q E c.s:=by
  cases e with
  | Name y p=>exact at_any ok.hI (name_snd TO ok S h G)
  | Constant v k p=>exact at_any ok.hI (const_snd S h G)
  | Attribute v a p=>exact attr_snd S0 TO h ok S G
  | Subscript v i p=>exact sub_snd S0 TO h ok S G
  | BinOp l op r p=>exact binop_snd S0 h ok S G
  | UnaryOp op v p=>exact un_snd S0 (T:=T) h ok S G
  | BoolOp op l p =>
    cases l with
    | nil=>exact False.elim h
    | cons e r=>rw [arm_eval_BoolOp]; exact boolW_snd S0 ok h S G
  | Compare l ops es p=>exact cmp1_snd S0 TO h ok S G
  | IfExp t a b p=>exact ifexp_snd S0 h ok S G
  | Tuple l k p=>exact tuple_snd S0 (T:=T) h ok S G
  | List l p=>exact list1_snd S0 (T:=T) h ok S G
  | Dict ks vs p=>exact dictD_snd S0 (T:=T) h ok S G
  | Call f args kw p=>exact call_snd S0 TO h ok S G
  | ListComp elt gens sc p =>
    obtain ⟨hb,h⟩:=req1 h
    obtain ⟨g,rfl,h⟩:=one_iff h
    exact comp_snd (ok.hn (TO.ba hb)) S0 TO h ok S G
  | _=>exact False.elim h
theorem plain_snd (S0:Snd W o n) {e:Expr} {K:KB} {Q:Bool→Shared→Prop} (he:isTrue e x.env (eval e x.env)=(do let v ← eval e x.env; standAt e.pos; holding [v] (truthy v))) (h:o.ev e c.σ fun v σ1=>nB v fun b=>K b σ1)
    (ok:x.Ok W Γ n) (S:St W x c) (G:Goes W x DB c K Q):wpAt W.M Γ (isTrue e x.env (eval e x.env)) Q E c.s:=by
  rw [he]
  exact at_bind (S0.ev h ok S fun v u c1 h l1 d1 S1=>at_bind (at_standAt (at_holding (nB_el (C:=fun u=>wpAt W.M Γ (truthy u) Q E c1.s) h d1 fun b _ h=>at_truth ok (G _ _ c1 h l1 rfl S1)))))
theorem ts_snd (S0:Snd W o n) (TO:TabOK W T) {e:Expr} {K:KB} {Q:Bool→Shared→Prop} (h:tsV o e c.σ K) (ok:x.Ok W Γ n) (S:St W x c) (G:Goes W x DB c K Q):wpAt W.M Γ (isTrue e x.env (eval e x.env)) Q E c.s:=by
  cases e with
  | UnaryOp op e2 p =>
    cases op with
    | Not =>
      show wpAt W.M Γ (do return !(← isTrue e2 x.env (eval e2 x.env))) Q E c.s
      exact at_bind (S0.ts h ok S fun b b' c1 h l1 eb S1=>at_pure (by cases (eb:b=b'); exact G _ _ c1 h l1 rfl S1))
    | _=>exact plain_snd S0 rfl h ok S G
  | BoolOp op l p=>exact allT_snd (op:=op) S0 ok h S G
  | Compare l ops es p =>
    show wpAt W.M Γ (do testChain p (← eval l x.env) ops (markedEach ops es (evalEach es x.env))) Q E c.s
    exact at_bind (S0.ev h ok S fun v u c1 h l1 d1 S1=>chainT_snd S0 TO ok h d1 S1 (G.mono l1))
  | IfExp=>exact False.elim h
  | _=>exact plain_snd S0 rfl h ok S G
end
theorem draw_list {prog:Program} {w:World} {A:Around} {it t:Addr} {items:Array Value} {E:Value→Shared→Prop} (hne:t ≠ it):∀ (n i:Nat) (s:Shared) (Q:List Value→Shared→Prop),s.heap.IsListIter it t i→s.heap.IsList t items→i + n ≤ items.size →
    (∀ h' tk,h'.IsListIter it t (i + n)→Heap.SameBut it s.heap h'→Q ((items.toList.drop i).take n) { s with heap:=h',toks:=tk })→wpAny (model prog w) A (draw (.ref it) n) Q E s:=by
  intro n
  induction n with
  | zero =>
    intro i s Q hit _ _ hQ
    show wpAny _ _ (pure []) Q E s
    exact wpAny_pure (by simpa using hQ s.heap s.toks hit (Heap.SameBut.refl ..))
  | succ n ih =>
    intro i s Q hit ht hle hQ
    have hlt:i < items.size:=by exact ln [_,_,_] [] [.le (.a (.v 0) (.a (.v 1) (.k 1))) (.v 2)] (.lt (.v 0) (.v 2)) (.w [1,1]) zr hle
    show wpAny _ _ (pyNext (.ref it) >>= _) Q E s
    refine wpAny_bind (wpAny_pyNext_list_item hit ht (x:=items[i]) (by simp [hlt]) fun h₁ hit₁ hs₁=>?_)
    refine wpAny_bind (wpAny_holding (ih (i + 1) _ _ hit₁ (ht.extBut hs₁.extBut hne) (by exact ln [_,_,_] [] [.le (.a (.v 0) (.a (.v 1) (.k 1))) (.v 2)] (.le (.a (.a (.v 0) (.k 1)) (.v 1)) (.v 2)) (.w [1,1]) zr hle) fun h₂ tk hit₂ hs₂=>wpAny_pure ?_))
    have hd:items.toList.drop i=items[i] :: items.toList.drop (i + 1):=by simp [List.drop_eq_getElem_cons,hlt]
    have:=hQ h₂ tk (by rw [show i + (n + 1)=i + 1 + n by exact ln [_,_] [] [] (.eq (.a (.v 0) (.a (.v 1) (.k 1))) (.a (.a (.v 0) (.k 1)) (.v 1))) (.b (.w [1]) (.w [1])) zr]; exact hit₂) (hs₁.trans hs₂)
    rw [hd,List.take_succ_cons] at this
    exact this
theorem unpackItems_list {prog:Program} {w:World} {A:Around} {t:Addr} {items:Array Value} {s:Shared} {E:Value→Shared→Prop} {Q:List Value→Shared→Prop} (hh:A.handled=none) (ht:s.heap.IsList t items)
    (hQ:∀ h' tk,Heap.ExtBut s.heap.objs.size s.heap h'→Q items.toList { s with heap:=h',toks:=tk }):wpAny (model prog w) A (unpackItems (.ref t) items.size none) Q E s:=by
  have hlt:t ≠ s.heap.objs.size:=by obtain ⟨o,ho,_⟩:=ht; exact Nat.ne_of_lt (Heap.lt_size ho)
  unfold unpackItems
  refine wpAny_bind ?_
  unfold notIterableAtAll
  refine wpAny_bind (wpAny_specialOf ht.typeIs slot_list_iter.lookup ?_)
  refine wpAny_pure ?_
  refine wpAny_bind (wpAny_holding (wpAny_pyIter_list ht ?_))
  refine wpAny_bind (wpAny_holding (draw_list hlt items.size 0 _ _ ⟨_,Heap.get?_push_size _ rfl,rfl,rfl⟩ (ht.at fun o e=>Heap.get?_push_of_some _ e) (by exact ln [_] [] [] (.le (.a (.k 0) (.v 0)) (.v 0)) (.w [1]) zr) fun h₁ tk hit₁ hs₁=>?_))
  have hall:List.take items.size (List.drop 0 items.toList)=items.toList:=by
    rw [List.drop_zero]; exact List.take_of_length_le (by simp)
  rw [hall]
  rw [if_neg (by simp)]
  have ht₁:h₁.IsList t items:=(ht.at fun o e=>Heap.get?_push_of_some _ e).extBut hs₁.extBut hlt
  refine wpAny_bind (wpAny_holding (wpAny_pyNext_list_end hh hit₁ ht₁ (by simp) fun h₂ he₂=>?_))
  exact wpAny_pure (hQ h₂ tk fun b o hb e=>he₂ b o hb (hs₁.extBut b o hb (Heap.get?_push_of_some _ e)))
section
variable {W:Wd} {T:Tab} {o:Ops} {x:Ac} {Γ:Ctx} {n:Nat} {c:Cf} {E:Value→Shared→Prop}
noncomputable abbrev GoesSU (W:Wd) (x:Ac) (c:Cf) (K:Sy→Prop) (Q:Unit→Shared→Prop):Prop:=∀ c',K c'.σ→LeS c c'→St W x c'→Q () c'.s
theorem GoesSU.mono {c':Cf} {K:Sy→Prop} {Q:Unit→Shared→Prop} (G:GoesSU W x c K Q) (h:LeS c c'):GoesSU W x c' K Q:=fun c2 hk l S=>G c2 hk (h.trans l) S
theorem St.store {z:Str} {v:SV} {u:Value} {h':Heap} {tk:Nat} {P:List (Addr × Obj)} (hcc:x.cc=none) (hz:lookS z x.cs.names=some .local) (S:StW W x c P) (F':Fr x.h₀ x.L h' (fun y=>if y=z then some u else c.m y)) (N':News x.h₀ x.L h' (P ++ (c.F ++ c.J))) (hv:DV W c v u) :
    St W x { c with m:=fun y=>if y=z then some u else c.m y,σ:=c.σ.loc! z v,s:={ c.s with heap:=h',toks:=tk } }:=by
  refine ⟨P,S.sc,F',N',S.rho,S.objs,S.nodup,S.fj,fun y w kd h1 h2 h3=>?_⟩
  obtain ⟨ov,e1,e2⟩:=lookS_map (f:=fun p:Str × Option SV=>(p.1,bif eqS z p.1 then some v else p.2)) (fun _=>rfl) h1
  have e2:=(Prod.mk.inj e2).2
  dsimp only at e2
  cases e:eqS z y with
  | true =>
    rw [e] at e2
    cases e2
    cases eqS_iff.mp e
    exact ⟨u,.loc hcc hz (if_pos rfl),hv⟩
  | false =>
    rw [e] at e2
    cases (e2:ov=some w)
    have hne:¬ y=z:=fun q=>by rw [eqS_iff.mpr q.symm] at e; cases e
    obtain ⟨u',k1,k2⟩:=S.loc y w kd e1 h2 h3
    refine ⟨u',?_,k2⟩
    cases k1 with
    | loc a b d=>exact .loc a b ((if_neg hne).trans d)
    | cell a b d e=>exact .cell a b d e
    | comp a=>rw [hcc] at a; cases a
theorem isLocal_iff {σ:Sy} {y:Str} (h:isLocal σ y=true):lookS y σ.sc.names=some .local:=beq_iff_eq.mp h
theorem store_snd (ok:x.Ok W Γ n) (hcc:x.cc=none) (S:St W x c) {y:Str} {v:SV} {u:Value} {K:Sy→Prop} {Q:Unit→Shared→Prop} (hv:DV W c v u) (hl:lookS y c.σ.sc.names=some .local) (hK:K (c.σ.loc! y v)) (G:GoesSU W x c K Q) :
    wpAt W.M Γ (bindName x.env y u) Q E c.s:=by
  obtain ⟨P,S⟩:=S
  rw [S.sc.1,sc_fn hcc] at hl
  rw [env_fn hcc]
  exact at_bindName (at_any ok.hI (storeX_L S.fr S.news (fun h' F' N'=>G { c with m:=fun z=>if z=y then some u else c.m z,σ:=c.σ.loc! y v,s:={ c.s with heap:=h',toks:=c.s.toks + 1 } } hK ⟨fun _ _ e=>e,fun _ e=>e,rfl⟩ (St.store hcc hl S F' N' hv)) ok.hk ((lookS_lookup _ _).symm.trans hl)))
theorem asg1_snd (S0:Snd W o n) (TO:TabOK W T) {t:Expr} {v:SV} {u:Value} {K:Sy→Prop} {Q:Unit→Shared→Prop} (h:asg1 T o t v c.σ K) (ok:x.Ok W Γ n) (hcc:x.cc=none) (hv:DV W c v u) (S:St W x c) (G:GoesSU W x c K Q) :
    wpAt W.M Γ (assign t x.env u) Q E c.s:=by
  cases t with
  | Name y pos =>
    obtain ⟨hl,h⟩:=req1 h
    show wpAt W.M Γ (do standAt pos; bindName x.env y u) Q E c.s
    exact at_bind (at_standAt (store_snd ok hcc S hv (isLocal_iff hl) h G))
  | Attribute e a pos =>
    show wpAt W.M Γ (do
      let ov ← holding [u] (eval e x.env)
      standAt pos.atName
      holding [u,ov] (setAttr ov a u)
      release [u,ov] []) Q E c.s
    exact at_bind (at_holding (S0.ev h ok S fun w u1 c1 h l1 d1 S1=>at_bind (at_standAt (at_bind (at_holding (at_any ok.hI (setA_snd TO ok S1 d1 (hv.mono l1) h fun c2 h l2 S2=>at_rel ok (G c2 h (l1.trans l2).s S2))))))))
  | Subscript e i pos =>
    rw [assign_Subscript]
    exact at_bind (at_holding (S0.ev h ok S fun w u1 c1 h l1 d1 S1=>at_bind (at_holding (S0.ev h ok S1 fun w2 u2 c2 h l2 d2 S2=>at_bind (at_standAt (at_bind (at_holding (at_any ok.hI (setI_snd S2 (d1.mono l2) d2 (hv.mono (l1.trans l2)) h fun c3 h l3 S3=>at_rel ok (G c3 h ((l1.trans l2).trans l3).s S3))))))))))
  | _=>exact False.elim h
theorem starless_assign {env:Env} {l:List Expr} (hn:noStar l=true):(assignEach l env).findIdx? (·.1)=none ∧ (assignEach l env).length=l.length ∧ (assignEach l env).map (·.2)=l.map fun t=>assign t env:=by
  induction l with
  | nil=>exact ⟨rfl,rfl,rfl⟩
  | cons e r ih =>
    obtain ⟨h1,h2⟩:=noStar_cons hn
    have he:assignEach (e :: r) env=(false,assign e env) :: assignEach r env:=by
      cases e <;> first | rfl | cases h1
    obtain ⟨a,b,d⟩:=ih h2
    rw [he]
    refine ⟨?_,by rw [List.length_cons,b]; rfl,by rw [List.map_cons,d]; rfl⟩
    rw [List.findIdx?_cons]
    simp [a]
theorem LeS.dl {c c':Cf} {vs:List SV} {us:List Value} (l:LeS c c') (h:DL W c vs us):DL W c' vs us:=h.imp fun _ _=>Den.mono l.sub l.ext
theorem asgL_snd (S0:Snd W o n) (TO:TabOK W T) (ok:x.Ok W Γ n) (hcc:x.cc=none) {l:List Expr}:∀ {vs:List SV} {us:List Value} {c:Cf} {K:Sy→Prop} {Q:Unit→Shared→Prop},l.length=vs.length→asgL T o l vs c.σ K→DL W c vs us→St W x c→GoesSU W x c K Q →
    wpAt W.M Γ (assignInOrder (l.map fun t=>assign t x.env) us) Q E c.s:=by
  induction l with
  | nil=>intro vs us c K Q _ h dv S G; exact at_pure (G c h (Le.refl c).s S)
  | cons t ts ih =>
    intro vs us c K Q hl h dv S G
    cases dv with
    | nil=>cases hl
    | @cons v u vs us du dr =>
      show wpAt W.M Γ (do holding us (assign t x.env u); assignInOrder (ts.map fun t=>assign t x.env) us) Q E c.s
      have h:asg1 T o t v c.σ fun σ1=>asgL T o ts vs σ1 K:=h
      exact at_bind (at_holding (asg1_snd S0 TO h ok hcc du S fun c1 h l1 S1=>ih (Nat.succ.inj hl) h (l1.dl dr) S1 (G.mono l1)))
theorem tupItems_items {σ:Sy} {v:SV} {l:List SV} (h:tupItems v=some l):σ.items v=some l:=by
  cases v with
  | d x=>exact h
  | tup l'=>exact h
  | _=>cases h
theorem unpack_snd (hn:x.hh=none) (ok:x.Ok W Γ n) {v:SV} {u:Value} {l:List SV} {k:Nat} {Q:List Value→Shared→Prop} (S:St W x c) (hv:DV W c v u) (h:tupItems v=some l) (hk:k=l.length) (g:∀ us h' tk,DL W c l us→St W x (c.up c.σ h' tk)→Q us { c.s with heap:=h',toks:=tk }) :
    wpAt W.M Γ (unpackItems u k none) Q E c.s:=by
  obtain ⟨P,S⟩:=S
  refine items_den ok.X S hv (tupItems_items h) fun a vs e₁ hd ht=>?_
  subst e₁
  have hk':k=(List.toArray vs).size:=by rw [hk,hd.len]; rfl
  rcases ht.symm with ht | ht
  · exact at_any ok.hI (unpackItemsN_ S.fr S.news ht hn hk' fun h' F' N'=>g _ h' c.s.toks (by simpa using hd) (S.heap F' N' c.s.toks))
  · rw [hk']
    exact at_any ok.hI (unpackItems_list hn ht fun h' tk he=>g _ h' tk (by simpa using hd) (S.heap (S.fr.extBut he (Nat.le_refl _)) (S.news.extBut he (Nat.le_refl _)) tk))
theorem asgV_snd (S0:Snd W o n) (TO:TabOK W T) {t:Expr} {v:SV} {u:Value} {K:Sy→Prop} {Q:Unit→Shared→Prop} (h:asgV T o t v c.σ K) (ok:x.Ok W Γ n) (hcc:x.cc=none) (hv:DV W c v u) (S:St W x c) (G:GoesSU W x c K Q) :
    wpAt W.M Γ (assign t x.env u) Q E c.s:=by
  rcases bite_or h with ⟨e1,h⟩ | ⟨_,h⟩
  · obtain ⟨l,k,pos,rfl⟩:=tup_inv e1
    · obtain ⟨hn,h⟩:=req1 h
      obtain ⟨hb,hn⟩:=Bool.and_eq_true_iff.mp hn
      refine nOpt_el h fun vs ev h=>?_
      obtain ⟨hl,h⟩:=reqEq h
      obtain ⟨a1,a2,a3⟩:=starless_assign (l:=l) (env:=x.env) hn
      rw [assign_Tuple]
      refine at_bind (at_standAt ?_)
      unfold unpack
      rw [a1,a2,a3]
      exact at_bind (at_holding (unpack_snd (ok.hn (TO.ba hb)) ok S hv ev hl fun us h' tk hd S1=>asgL_snd (c:=c.up c.σ h' tk) S0 TO ok hcc hl h hd S1 (G.mono Le.up.s)))
  · exact asg1_snd S0 TO h ok hcc hv S G
theorem putNm_snd (ok:x.Ok W Γ n) (hcc:x.cc=none) {xs:List Str}:∀ {vs:List SV} {us:List Value} {c:Cf} {K:Sy→Prop} {Q:Unit→Shared→Prop},xs.length=vs.length→(∀ y ∈ xs,lookS y c.σ.sc.names=some .local)→DL W c vs us→St W x c→K (putNm xs vs c.σ)→GoesSU W x c K Q →
    wpAt W.M Γ (assignInOrder (xs.map fun y=>bindName x.env y) us) Q E c.s:=by
  induction xs with
  | nil =>
    intro vs us c K Q hl hx dv S h G
    cases dv with
    | nil=>exact at_pure (G c h (Le.refl c).s S)
    | cons=>cases hl
  | cons y xs ih =>
    intro vs us c K Q hl hx dv S h G
    cases dv with
    | nil=>cases hl
    | @cons v u vs us du dr =>
      show wpAt W.M Γ (do holding us (bindName x.env y u); assignInOrder (xs.map fun y=>bindName x.env y) us) Q E c.s
      refine at_bind (at_holding (store_snd (K:=fun σ1=>σ1=c.σ.loc! y v) ok hcc S du (hx y (List.mem_cons_self ..)) rfl fun c1 h1 l1 S1=>?_))
      exact ih (Nat.succ.inj hl) (fun z hz=>by rw [h1]; exact hx z (List.mem_cons_of_mem _ hz)) (l1.dl dr) S1 (by rw [h1]; exact h) (G.mono l1)
end
section
variable {W:Wd} {T:Tab} {o:Ops} {x:Ac} {Γ:Ctx} {n:Nat} {c:Cf} {E:Value→Shared→Prop} {K:KF} {Q:Flow→Shared→Prop}
theorem Goes.next (G:GoesS W x (DenF W) c K Q) {c':Cf} (h:K .next c'.σ) (l:LeS c c') (S:St W x c'):Q .next c'.s:=G .next .next c' h l rfl S
theorem Goes.ret (G:GoesS W x (DenF W) c K Q) {c':Cf} {v:SV} {u:Value} (h:K (.ret v) c'.σ) (l:LeS c c') (d:DV W c' v u) (S:St W x c'):Q (.ret u) c'.s:=G (.ret v) (.ret u) c' h l ⟨u,rfl,d⟩ S
theorem expr_snd (S0:Snd W o n) {e:Expr} {pos:Pos} (h:st1 T o (.Expr e pos) c.σ K) (ok:x.Ok W Γ n) (hcc:x.cc=none) (S:St W x c) (G:GoesS W x (DenF W) c K Q):wpAt W.M Γ (exec (.Expr e pos) x.env) Q E c.s:=by
  have h:=reqN h
  refine at_Expr ok.hI (S0.ev h.2 ok S fun v u c1 h l1 d1 S1=>Goes.next G h l1.s S1) ?_ ?_
  · rw [env_fn hcc]
    show (x.cs.kind == .module && _)=false
    rw [ok.hk]; rfl
  · have h:=h.1
    cases e <;> first | rfl | cases h
theorem ret_snd (S0:Snd W o n) {e:Option Expr} {pos:Pos} (h:st1 T o (.Return e pos) c.σ K) (ok:x.Ok W Γ n) (S:St W x c) (G:GoesS W x (DenF W) c K Q):wpAt W.M Γ (exec (.Return e pos) x.env) Q E c.s:=by
  cases e with
  | none =>
    rw [exec_Return_none]
    exact at_bind (at_standAt (at_pure (Goes.ret G h (Le.refl c).s .none S)))
  | some e=>exact at_Return (S0.ev h ok S fun v u c1 h l1 d1 S1=>Goes.ret G h l1.s d1 S1)
theorem nodupN_of {l:List Str} (h:nodupN l=true):l.Nodup:=by
  induction l with
  | nil=>exact List.nodup_nil
  | cons y r ih =>
    obtain ⟨a,b⟩:=Bool.and_eq_true_iff.mp (h:(!(r.any (eqS y)) && nodupN r)=true)
    refine List.nodup_cons.mpr ⟨fun hm=>?_,ih b⟩
    have:r.any (eqS y)=true:=List.any_eq_true.mpr ⟨y,hm,eqS_iff.mpr rfl⟩
    rw [this] at a
    cases a
theorem dups_of {l:List Str} (h:l.Nodup) (hl:l.length=2 ∨ l.length=3):l.eraseDups.length=l.length:=by
  rcases l with _ | ⟨a,_ | ⟨b,_ | ⟨c,_ | ⟨d,l⟩⟩⟩⟩
  · rfl
  · rfl
  · have h1:a ≠ b:=by simpa using h
    have h2:(b == a)=false:=by simpa using fun e=>h1 e.symm
    simp [List.eraseDups_cons,h2]
  · have h1:(¬ a=b ∧ ¬ a=c) ∧ ¬ b=c:=by simpa using h
    have h2:(b == a)=false:=by simpa using fun e=>h1.1.1 e.symm
    have h3:(c == a)=false:=by simpa using fun e=>h1.1.2 e.symm
    have h4:(c == b)=false:=by simpa using fun e=>h1.2 e.symm
    simp [List.eraseDups_cons,h2,h3,h4]
  · exact hl.elim (fun e=>by cases e) fun e=>by cases e
theorem names_loc {line:Nat} {ts:List Expr} (h:ts.all (isLoc x.cs line)=true):(ts.filterMap fun | .Name id pos=>if x.fenv.kindOf id == some .local && pos.line == line then some id else none | _=>none)=ts.map nameOf ∧ ∀ y ∈ ts.map nameOf,lookS y x.cs.names=some .local:=by
  induction ts with
  | nil=>exact ⟨rfl,fun _ h=>nomatch h⟩
  | cons t r ih =>
    obtain ⟨h1,h2⟩:=Bool.and_eq_true_iff.mp (h:(isLoc x.cs line t && r.all (isLoc x.cs line))=true)
    obtain ⟨a,b⟩:=ih h2
    cases t with
    | Name y p =>
      obtain ⟨h1,h3⟩:=Bool.and_eq_true_iff.mp (h1:((lookS y x.cs.names == some .local) && Nat.beq p.line line)=true)
      have h1:=beq_iff_eq.mp h1
      have hk:x.fenv.kindOf y=some .local:=(lookS_lookup _ _).symm.trans h1
      have h3:(p.line == line)=true:=by rw [Nat.eq_of_beq_eq_true h3]; exact beq_self_eq_true _
      refine ⟨?_,fun z hz=>?_⟩
      · rw [List.filterMap_cons,a]
        dsimp only
        rw [hk,h3]; rfl
      · rcases List.mem_cons.mp hz with e | hz
        · rw [e]; exact h1
        · exact b z hz
    | _=>cases h1
theorem swap_of (ok:x.Ok W Γ n) {ts vs:List Expr} {k k2:Nat} {p p2:Pos} (h:swapB x.cs ts vs=true):swappedStores [.Tuple ts k p] (.Tuple vs k2 p2) x.fenv=pure (some (ts.map nameOf)) ∧ ∀ y ∈ ts.map nameOf,lookS y x.cs.names=some .local:=by
  refine byC fun zC zk=>?_
  obtain ⟨h1,h⟩:=Bool.and_eq_true_iff.mp h
  obtain ⟨h2,h⟩:=Bool.and_eq_true_iff.mp h
  obtain ⟨h3,h⟩:=Bool.and_eq_true_iff.mp h
  obtain ⟨h4,h⟩:=Bool.and_eq_true_iff.mp h
  obtain ⟨h5,h⟩:=Bool.and_eq_true_iff.mp h
  obtain ⟨h6,h7⟩:=Bool.and_eq_true_iff.mp h
  have h2:vs.length=ts.length:=Nat.eq_of_beq_eq_true h2
  have h1:ts.length=2 ∨ ts.length=3:=(Bool.or_eq_true_iff.mp h1).elim (fun h=>.inl (Nat.eq_of_beq_eq_true h)) fun h=>.inr (Nat.eq_of_beq_eq_true h)
  have h6:vs.all (foldedForSure 8)=false:=by simpa using h6
  have h7:vs.all (constantsAlone 8)=false:=by simpa using h7
  have hst:(vs.any fun | .Starred ..=>true | _=>false)=false:=by
    rw [List.any_eq_false]
    intro e he
    have:=List.all_eq_true.mp h3 e he
    cases e <;> first | (cases this; done) | exact Bool.false_ne_true
  obtain ⟨n1,n2⟩:=names_loc h4
  refine zk ?_
  have hd:=dups_of (nodupN_of h5) (by simpa using h1)
  refine ⟨?_,n2⟩
  have hb:x.fenv.blockKind=.function:=by
    show (if x.cs.kind.isAnnotationScope=true then ScopeKind.function else x.cs.kind)=_
    rw [ok.hk]; rfl
  have hc1:(!(ts.length == 2 || ts.length == 3) || vs.length != ts.length || x.fenv.blockKind != .function)=false:=by
    rw [hb,h2]
    rcases h1 with h1 | h1 <;> rw [h1] <;> rfl
  have hc2:((ts.map nameOf).length != ts.length || (ts.map nameOf).eraseDups.length != (ts.map nameOf).length)=false:=by
    rw [hd,List.length_map]; simp
  have key:swappedStores [.Tuple ts k p] (.Tuple vs k2 p2) x.fenv=(if (!(ts.length == 2 || ts.length == 3) || vs.length != ts.length || x.fenv.blockKind != .function)=true then pure none else
    if (vs.any fun | .Starred ..=>true | _=>false)=true then pure none else
    (fun names:List Str=>if (names.length != ts.length || names.eraseDups.length != names.length)=true then pure none else
      if vs.all (foldedForSure 8)=true then pure none else
      if vs.all (constantsAlone 8)=true then (do unsupported "assign.tuple-of-constant-expressions:order-of-the-stores"; return some names) else pure (some names))
      (ts.filterMap fun | .Name id pos=>if x.fenv.kindOf id == some .local && pos.line == ((ts.head?.map (·.pos.line)).getD 0) then some id else none | _=>none)):=rfl
  rw [key,hc1,hst,n1]
  dsimp only
  rw [hc2,h6,h7]
  rfl
theorem assign_snd (S0:Snd W o n) (TO:TabOK W T) {ts:List Expr} {e:Expr} {pos:Pos} (sp:nOpt T.st (fun g=>g (.Assign ts e pos) c.σ K)→wpAt W.M Γ (exec (.Assign ts e pos) x.env) Q E c.s) (h:st1 T o (.Assign ts e pos) c.σ K) (ok:x.Ok W Γ n) (hcc:x.cc=none) (S:St W x c) (G:GoesS W x (DenF W) c K Q) :
    wpAt W.M Γ (exec (.Assign ts e pos) x.env) Q E c.s:=by
  obtain ⟨t,rfl,h⟩:=one_iff (h:one ts _)
  rcases bite_or h with ⟨e1,h⟩ | ⟨e1,h⟩
  · rw [exec_Assign]
    obtain ⟨e1,e2⟩:=Bool.and_eq_true_iff.mp e1
    obtain ⟨ts,k,p,rfl⟩:=tup_inv e1
    obtain ⟨vs,k2,p2,rfl⟩:=tup_inv e2
    clear e1 e2
    obtain ⟨hsw,h⟩:=req1 h
    obtain ⟨hb,hsw⟩:=Bool.and_eq_true_iff.mp hsw
    have hsc:c.σ.sc=x.cs:=S.el fun _ S=>S.sc.1.trans (sc_fn hcc)
    rw [hsc] at hsw
    obtain ⟨h2,hloc⟩:=swap_of (ts:=ts) (vs:=vs) (k:=k) (k2:=k2) (p:=p) (p2:=p2) ok hsw
    have h1:swapsWithSole [.Tuple ts k p] (.Tuple vs k2 p2) pos.line x.env=pure false:=rfl
    rw [h1,env_fn hcc,h2,← env_fn hcc]
    refine at_bind (at_standAt (at_bind (at_pure ?_)))
    show wpAt W.M Γ (do
        let v ← eval (.Tuple vs k2 p2) x.env
        assignStores x.env v (← pure (some (ts.map nameOf))) ((assignEach [.Tuple ts k p] x.env).map (·.2))) Q E c.s
    refine at_bind (S0.ev h ok S fun v u c1 h l1 d1 S1=>at_bind (at_pure ?_))
    refine nOpt_el h fun us ev h=>?_
    obtain ⟨hl,h⟩:=reqEq h
    have hl:us.length=ts.length:=hl
    show wpAt W.M Γ (do
      rule "assign.swapped-stores"
      let items ← unpackItems u (ts.map nameOf).length none
      assignInOrder ((ts.map nameOf).reverse.map fun n=>bindName x.env n) items.reverse
      pure .next) Q E c1.s
    refine at_bind (at_any ok.hI (wpAny_rule ?_))
    refine at_bind (unpack_snd (ok.hn (TO.ba hb)) ok S1 d1 ev (by rw [List.length_map,hl]) fun us2 h' tk hd S2=>?_)
    have hsc1:c1.σ.sc=x.cs:=S1.el fun _ S=>S.sc.1.trans (sc_fn hcc)
    refine at_bind (putNm_snd (c:=c1.up c1.σ h' tk) (K:=fun σ'=>K .next σ') (xs:=(ts.map nameOf).reverse) (vs:=us.reverse) ok hcc (by simp [hl]) (fun y hy=>?_) (All2.rev hd) S2 ?_ fun c2 h l2 S2=>at_pure (Goes.next G h ((l1.trans Le.up).s.trans l2) S2))
    · show lookS y c1.σ.sc.names=_
      rw [hsc1]; exact hloc y (List.mem_reverse.mp hy)
    · rw [← List.map_reverse]; exact h
  · rcases bite_or h with ⟨_,h⟩ | ⟨hc,h⟩
    · exact sp h
    rw [exec_Assign]
    obtain ⟨hst,h⟩:=reqN h
    rw [show swapsWithSole [t] e pos.line x.env=pure false from sww_none hc,sw_none hst e1]
    refine at_bind (at_standAt (at_bind (at_pure ?_)))
    show wpAt W.M Γ (do
        let v ← eval e x.env
        assignStores x.env v (← pure none) ((assignEach [t] x.env).map (·.2))) Q E c.s
    refine at_bind (S0.ev h ok S fun v u c1 h l1 d1 S1=>at_bind (at_pure ?_))
    rw [each_one hst]
    show wpAt W.M Γ (do assign t x.env u; pure .next) Q E c1.s
    exact at_bind (asgV_snd S0 TO h ok hcc d1 S1 fun c2 h l2 S2=>at_pure (Goes.next G h (l1.s.trans l2) S2))
theorem aug_snd (S0:Snd W o n) (TO:TabOK W T) {t e2:Expr} {op:Operator} {pos:Pos} (h:st1 T o (.AugAssign t op e2 pos) c.σ K) (ok:x.Ok W Γ n) (S:St W x c) (G:GoesS W x (DenF W) c K Q) :
    wpAt W.M Γ (exec (.AugAssign t op e2 pos) x.env) Q E c.s:=by
  cases t with
  | Attribute e a p =>
    obtain ⟨hop,h⟩:=reqD h
    subst hop
    rw [arm_exec_AugAssign_2]
    refine at_bind (at_standAt (at_bind (S0.ev h ok S fun w u c1 h l1 d1 S1=>?_)))
    refine at_bind (at_holding (at_bind (at_standAt (at_bind (at_any ok.hI (getA_snd TO ok S1 d1 h fun w2 u2 c2 h l2 d2 S2=>?_))))))
    refine at_bind (at_holding (S0.ev h ok S2 fun w3 u3 c3 h l3 d3 S3=>?_))
    obtain ⟨i,t2,rfl,h⟩:=nI_den h (d2.mono l3)
    obtain ⟨j,t3,rfl,h⟩:=nI_den h d3
    refine at_bind (at_standAt (at_operate (at_any ok.hI (AutoIntOps.iadd_0 ?_))))
    refine at_bind (at_standAt (at_bind (at_holding (at_any ok.hI ?_))))
    refine setA_snd (c:={ c3 with s:={ c3.s with toks:=c3.s.toks + 1 } }) TO ok (S3.tok _) (d1.mono ((l2.trans l3).trans Le.here)) (.int _ _) h fun c4 h l4 S4=>at_bind (at_rel ok (at_pure ?_))
    exact Goes.next G h ((((l1.trans l2).trans l3).trans Le.here).trans l4).s S4
  | _=>exact False.elim h
end
section
variable {W:Wd} {T:Tab} {o:Ops} {x:Ac} {Γ:Ctx} {n:Nat} {c:Cf} {E:Value→Shared→Prop} {K:KF} {Q:Flow→Shared→Prop}
noncomputable def LoopW (cb:Bool) (prog:Program) (w:World) (A:Around) (c:Expr) (body:List Stmt) (env:Env) (Q:Flow→Shared→Prop) (s:Shared):Prop:=
  ∀ Γ:Ctx,Γ.code=.whileLoop c body [] env→Γ.Below A→Clean cb Γ→codeAt (model prog w) Γ (FlowsTo Q) s
theorem whileW_snd (S0:Snd W o n) (ok:x.Ok W Γ n) (hcc:x.cc=none) {t:Expr} {a:List Stmt} {k:Nat}:∀ {c:Cf} {K:KF} {Q:Flow→Shared→Prop},whileV (o.ts t) (o.ex a) k c.σ K→St W x c→GoesS W x (DenF W) c K Q→LoopW W.cb W.prog W.w x.ar t a x.env Q c.s:=by
  induction k with
  | zero=>intro c K Q h; exact False.elim h
  | succ k ih =>
    intro c K Q h S G Γ' hc hB hC
    have hI:=hB.in
    rw [hc] at hI
    have hI:Γ'.In x.ar:=hI
    have ok':=ok.ctx hI hC
    refine code_at_tree (t:=(whileTurn t a [] x.env).onRaise (fun e=>do noteFrame e x.env; theTreesLotGoes e)) (by rw [hc]; rfl) ?_
    refine at_onRaise ?_
    unfold whileTurn
    have h:o.ts t c.σ fun t σ1=>bite t (o.ex a σ1 fun fl σ2=>onF fl (whileV (o.ts _) (o.ex a) k σ2 K) (K .next σ2) fun v=>K (.ret v) σ2) (K .next σ1):=h
    refine at_bind (S0.ts h ok' S fun t t' c1 h l1 e1 S1=>?_)
    cases (e1:t=t')
    cases t with
    | false=>exact at_bind (at_execs_nil (at_pure (Goes.next G h l1.s S1)))
    | true =>
      refine at_bind (S0.ex h ok' hcc S1 fun fl f c2 h l2 df S2=>?_)
      cases fl with
      | next=>cases (df:f=.next); exact at_pure ⟨rfl,ih h S2 (G.mono (l1.s.trans l2)) _ rfl (hB.goto _) (hC.goto rfl)⟩
      | brk=>cases (df:f=.brk); exact at_pure (Goes.next G h (l1.s.trans l2) S2)
      | ret v=>obtain ⟨u,rfl,d⟩:=df; exact at_pure (Goes.ret G h (l1.s.trans l2) d S2)
theorem while_snd (S0:Snd W o n) {t:Expr} {a els:List Stmt} {pos:Pos} (h:st1 T o (.While t a els pos) c.σ K) (ok:x.Ok W Γ n) (hcc:x.cc=none) (S:St W x c) (G:GoesS W x (DenF W) c K Q) :
    wpAt W.M Γ (exec (.While t a els pos) x.env) Q E c.s:=by
  obtain ⟨he,hw⟩:=req1 h
  cases List.isEmpty_iff.mp he
  have hw:whileV (o.ts t) (o.ex a) 100 c.σ K:=hw
  rw [exec_While]
  exact at_bind (at_standAt (at_runOwn fun p=>whileW_snd S0 ok hcc hw S G _ rfl (ok.hI.enter _ none p (by intro x; cases x)) (ok.hC.enter none p rfl)))
theorem StW.cut {P:List (Addr × Obj)} {σ':Sy} {ρ':List Addr} {P':List (Addr × Obj)} (S:StW W x c P) (hsc:σ'.sc=c.σ.sc) (hP:∀ p ∈ P',p ∈ P) (hr:P'.map (·.1)=ρ') (hn:ρ'.Nodup) (ho:All2 (SlotOK W { c with ρ:=ρ' }) σ'.hp P')
    (hl:∀ y v,lookS y σ'.loc=some (some v)→∃ w,lookS y c.σ.loc=some (some w) ∧ ∀ u,DV W c w u→Den W.K c.F ρ' v u):StW W x { c with ρ:=ρ',σ:=σ' } P':=
  ⟨⟨hsc.trans S.sc.1,S.sc.2⟩,S.fr,fun p hp=>S.news p ((List.mem_append.mp hp).elim (fun h=>List.mem_append_left _ (hP p h)) fun h=>List.mem_append_right _ h),hr,ho,hn,S.fj,fun y v kd h1 h2 h3=>by
    obtain ⟨w,e1,g⟩:=hl y v h1
    obtain ⟨u,k1,k2⟩:=S.loc y w kd e1 h2 h3
    exact ⟨u,k1,g u k2⟩⟩
theorem closedL_at {k:Nat} {l:List (Str × Option SV)} (h:closedL k l=true) {y:Str} {v:SV} (e:lookS y l=some (some v)):closedV k v=true:=List.all_eq_true.mp h _ (lookS_mem e)
theorem slots_cut {P:List (Addr × Obj)} {k:Nat} (S:StW W x c P) (hh:(c.σ.hp.take k).all (closedO k)=true) {ρ':List Addr} (hρ:∀ (i:Nat) (a:Addr),i < k→c.ρ[i]?=some a→ρ'[i]?=some a):All2 (SlotOK W { c with ρ:=ρ' }) (c.σ.hp.take k) (P.take k):=
  (S.objs.take k).sub hh fun so p hc ⟨k1,k2⟩=>⟨mapV_id so ▸ k1.map (f:=fun v=>v) (fun _ h=>h) (fun i a hi e=>hρ i a (Nat.le_of_ble_eq_true hi) e) (fun v u hv d=>d.closed hv hρ fun _ h=>h) hc,k2⟩
theorem take_at {ρ:List Addr} {k:Nat} (i:Nat) (a:Addr) (h:i < k) (e:ρ[i]?=some a):(ρ.take k)[i]?=some a:=by rw [List.getElem?_take_of_lt h]; exact e
theorem St.cut {k:Nat} (hl:closedL k c.σ.loc=true) (hh:(c.σ.hp.take k).all (closedO k)=true) (S:St W x c):St W x { c with ρ:=c.ρ.take k,σ:={ c.σ with hp:=c.σ.hp.take k } }:=by
  obtain ⟨P,S⟩:=S
  exact ⟨P.take k,S.cut rfl (fun p hp=>List.mem_of_mem_take hp) (by rw [List.map_take,S.rho]) (S.nodup.sublist (List.take_sublist ..)) (slots_cut S hh take_at) fun y v e=>⟨v,e,fun u d=>d.closed (closedL_at hl e) take_at fun _ h=>h⟩⟩
theorem trim_snd {k:Nat} {K:Sy→Prop} (h:trim k c.σ K) (S:St W x c):∃ ρ' σ',K σ' ∧ σ'.sc=c.σ.sc ∧ (∀ (i:Nat) (a:Addr),i < k→c.ρ[i]?=some a→ρ'[i]?=some a) ∧ (∀ a ∈ ρ',a ∈ c.ρ) ∧ St W x { c with ρ:=ρ',σ:=σ' }:=by
  rcases bite_or h with ⟨e1,h⟩ | ⟨_,h⟩
  · rcases bite_or h with ⟨e2,h⟩ | ⟨_,h⟩
    · exact ⟨c.ρ.take k,_,h,rfl,take_at,fun a ha=>List.mem_of_mem_take ha,S.cut e2 e1⟩
    · rcases bite_or h with ⟨e2,h⟩ | ⟨_,h⟩
      · refine nOpt_el h fun so e3 h=>?_
        obtain ⟨ds,rfl,h⟩:=oDl_iff h
        obtain ⟨hz,h⟩:=reqLe h
        obtain ⟨P,S⟩:=S
        obtain ⟨a,ob,p1,r1,hok,hm⟩:=S.get e3
        have hlen:c.ρ.length=c.σ.hp.length:=S.lenH.symm
        have htk:(c.ρ.take k).length=k:=by rw [List.length_take]; exact ln [_,_,_] [] [.le (.a (.v 0) (.k 1)) (.v 1),.eq (.v 2) (.v 1)] (.eq (.mn (.v 0) (.v 2)) (.v 0)) (.b (.w [0,0,0,1]) (.b (.w [0,0,0,1]) (.b (.w [0,1,1,1]) (.w [0,0,0,1,1])))) zr hz hlen
        have ext:∀ (i:Nat) (b:Addr),i < k→c.ρ[i]?=some b→(c.ρ.take k ++ [a])[i]?=some b:=fun i b hi e=>by
          rw [List.getElem?_append_left (by rw [htk]; exact hi)]; exact take_at i b hi e
        have hat:(c.ρ.take k ++ [a])[k]?=some a:=by rw [List.getElem?_append_right (by rw [htk]; exact Nat.le_refl _),htk,Nat.sub_self]; rfl
        have hna:a ∉ c.ρ.take k:=fun hin=>by
          obtain ⟨i,hi,e⟩:=List.getElem_of_mem hin
          have hi':i < k:=by rw [htk] at hi; exact hi
          have e2:c.ρ[i]?=some a:=by rw [← e,← List.getElem?_take_of_lt hi']; exact List.getElem?_eq_getElem hi
          have:=(List.getElem?_inj (List.getElem?_eq_some_iff.mp e2).1 S.nodup).mp (e2.trans r1.symm)
          exact ln [_,_,_,_] [] [.le (.a (.v 0) (.k 1)) (.v 1),.eq (.v 2) (.v 0),.lt (.v 3) (.v 2),.eq (.v 3) (.s (.v 1) (.k 1))] (.f) (.b (.w [0,1,0,1,1,0,1]) (.w [0,1,1,1,1,0,1])) zr hz htk hi this
        have hso:=S.objs.both e3 p1
        refine ⟨c.ρ.take k ++ [a],_,h,rfl,ext,fun b hb=>(List.mem_append.mp hb).elim (fun h=>List.mem_of_mem_take h) fun h=>by rw [List.mem_singleton.mp h]; exact List.mem_of_getElem? r1,P.take k ++ [(a,ob)],S.cut rfl (fun p hp=>(List.mem_append.mp hp).elim (fun h=>List.mem_of_mem_take h) fun h=>by rw [List.mem_singleton.mp h]; exact List.mem_of_getElem? p1) (by rw [List.map_append,List.map_take,S.rho]; rfl) ?_ ((slots_cut S e1 ext).app (.cons ⟨hso.1,hso.2⟩ .nil)) fun y v e=>?_⟩
        · exact List.nodup_append.mpr ⟨S.nodup.sublist (List.take_sublist ..),by simp,fun b hb d hd e=>hna ((e.trans (List.mem_singleton.mp hd)) ▸ hb)⟩
        · obtain ⟨ov,f1,f2⟩:=lookS_map (f:=fun p:Str × Option SV=>(p.1,p.2.map (mvV (c.σ.hp.length - 1) k))) (fun _=>rfl) e
          have f2:=(Prod.mk.inj f2).2
          cases ov with
          | none=>cases f2
          | some w =>
            cases Option.some.inj f2
            have hcl:=closedL_at e2 e
            refine ⟨w,f1,fun u d=>?_⟩
            have hcl:closedV (k + 1) (mvV (c.σ.hp.length - 1) k w)=true:=hcl
            unfold mvV at hcl ⊢
            cases eo:objI w with
            | some i =>
              cases objI_eq eo
              rw [eo] at hcl
              obtain ⟨b,rfl,hb⟩:=den_obj d
              have hcl:Nat.blt (bif Nat.beq i (c.σ.hp.length - 1) then k else bif Nat.blt i k then i else k + 1) (k + 1)=true:=hcl
              show Den W.K c.F _ (.obj (bif Nat.beq i (c.σ.hp.length - 1) then k else bif Nat.blt i k then i else k + 1)) _
              cases ei:Nat.beq i (c.σ.hp.length - 1) with
              | true =>
                cases Nat.eq_of_beq_eq_true ei
                rw [r1] at hb
                cases hb
                exact .a1 (.obj hat)
              | false =>
                rw [ei] at hcl
                cases ej:Nat.blt i k with
                | true=>exact .a1 (.obj (ext i b (Nat.le_of_ble_eq_true ej) hb))
                | false =>
                  rw [ej] at hcl
                  exact absurd (Nat.le_of_ble_eq_true hcl) (Nat.lt_irrefl _)
            | none =>
              rw [eo] at hcl
              cases ec:closedV k w with
              | true=>exact d.closed ec ext fun _ h=>h
              | false =>
                rw [ec] at hcl
                exact absurd (Nat.le_of_ble_eq_true (hcl:Nat.blt (k + 1) (k + 1)=true)) (Nat.lt_irrefl _)
      · exact ⟨c.ρ,c.σ,h,rfl,fun _ _ _ e=>e,fun _ h=>h,S⟩
  · exact ⟨c.ρ,c.σ,h,rfl,fun _ _ _ e=>e,fun _ h=>h,S⟩
end
section
variable {W:Wd} {T:Tab} {o:Ops} {x:Ac} {Γ:Ctx} {n:Nat} {c:Cf} {E:Value→Shared→Prop} {K:KF} {Q:Flow→Shared→Prop}
theorem Fresh.to {c':Cf} {b:Addr} (f:Fresh x c b) (hr:∀ a ∈ c'.ρ,a ∈ c.ρ) (hF:c'.F=c.F) (hJ:c'.J=c.J):Fresh x c' b:=⟨f.l,f.h,fun h=>f.r (hr b h),by rw [hF,hJ]; exact f.f⟩
theorem loop_snd (S0:Snd W o n) (TO:TabOK W T) (ok:x.Ok W Γ n) (hcc:x.cc=none) {t:Expr} {body:List Stmt} {tg:Expr→Prop} {I:Addr} {wr:List Addr} {l:List SV} {At:Nat→Heap→Prop} {Mid:Nat→Value→Heap→Prop} {k:Nat} {dr:List Str} (htg:tg t) {c₀:Cf} (It:Its W x c₀ tg I wr l At Mid) (hk:k=c₀.ρ.length) (G:GoesS W x (DenF W) c₀ K Q) :
    ∀ {r:List SV} {i:Nat} {c:Cf},l.drop i=r→i ≤ l.length→forV (asgV T o t) (o.ex body) k dr r c.σ K→St W x c→LeS c₀ c→At i c.s.heap→(∀ b ∈ wr,Fresh x c b)→LoopC W.cb W.prog W.w x.ar t body x.env Q (.ref I) c.s:=by
  intro r
  induction r with
  | nil =>
    intro i c hr hi h S le st fr
    have:i=l.length:=by
      have:=List.drop_eq_nil_iff.mp hr
      exact ln [_,_] [] [.le (.v 0) (.v 1),.le (.v 1) (.v 0)] (.eq (.v 0) (.v 1)) (.b (.w [1,0,1]) (.w [0,1,1])) zr hi this
    subst this
    have hF:∀ p ∈ c₀.F,c.s.heap.get? p.1=some p.2:=fun p hp=>S.el fun P S=>(S.news p (S.memF (le.sub p hp))).1
    exact at_turn fun Γ' hc hI hC=>at_any hI (It.done _ _ _ st hF fun h' tk hk=>Goes.next (c':=c.up c.σ h' tk) G h (le.trans Le.up.s) (S.move hk fr))
  | cons v r ih =>
    intro i c hr hi h S le st fr
    have hlt:i < l.length:=by
      rcases Nat.lt_or_ge i l.length with h1 | h1
      · exact h1
      · rw [List.drop_eq_nil_of_le h1] at hr; cases hr
    rw [List.drop_eq_getElem_cons hlt] at hr
    have hlv:l[i]?=some v:=by rw [List.getElem?_eq_getElem hlt]; exact congrArg some (List.cons.inj hr).1
    have hr':l.drop (i + 1)=r:=(List.cons.inj hr).2
    have hF:∀ p ∈ c₀.F,c.s.heap.get? p.1=some p.2:=fun p hp=>S.el fun P S=>(S.news p (S.memF (le.sub p hp))).1
    have hin:∀ b ∈ wr,b < c.s.heap.objs.size:=fun b hb=>by
      obtain ⟨own,e1,e2,_⟩:=It.frame i _ st hF
      rw [← e1] at hb
      obtain ⟨p,hp,rfl⟩:=List.mem_map.mp hb
      exact Heap.lt_size (e2 p hp)
    refine at_turn fun Γ' hc hI hC=>at_any hI (It.item i _ _ _ v hlv st hF fun u h1 tk ex hex dv mid hk1=>?_)
    have ok':=ok.ctx hI hC
    refine at_any hI (It.go t i u { c.s with heap:=h1,toks:=tk } _ htg mid fun h2 st2 hk2=>?_)
    have k2:∀ b o',b ∉ wr→c.s.heap.get? b=some o'→h2.get? b=some o':=fun b o' hb e=>hk2 b o' hb (hk1 b o' hb e)
    have S3:St W x (c.up c.σ h2 tk):=S.move k2 fr
    have hF2:∀ p ∈ c₀.F,h2.get? p.1=some p.2:=fun p hp=>k2 _ _ (fun hb=>(fr p.1 hb).f p (List.mem_append_left _ (le.sub p hp)) rfl) (hF p hp)
    obtain ⟨own,w1,w2,w3⟩:=It.frame (i + 1) h2 st2 hF2
    have hwr:∀ p ∈ own,p.1 ∈ wr:=fun p hp=>w1 ▸ List.mem_map_of_mem hp
    have hg:∀ p ∈ ex ++ own,(c.up c.σ h2 tk).s.heap.get? p.1=some p.2 ∧ Fresh x (c.up c.σ h2 tk) p.1:=fun p hp=>by
      rcases List.mem_append.mp hp with hp | hp
      · have hge:=(hex p hp).2
        exact ⟨hk2 _ _ (fun hb=>Nat.not_lt.mpr hge (hin _ hb)) (hex p hp).1,(fresh_ge S hge).to (fun _ h=>h) rfl rfl⟩
      · exact ⟨w2 p hp,(fr p.1 (hwr p hp)).to (fun _ h=>h) rfl rfl⟩
    have hox:∀ p ∈ ex,∀ q ∈ own,p.1 ≠ q.1:=fun p hp q hq e=>Nat.not_lt.mpr (hex p hp).2 (e ▸ hin q.1 (hwr q hq))
    have S4:=S3.addFJ hg hox
    have dv4:Den W.K (c.F ++ ex) c.ρ v u:=dv.mono (fun p hp=>(List.mem_append.mp hp).elim (fun h=>List.mem_append_left _ (le.sub p h)) fun h=>List.mem_append_right _ h) le.ext
    refine asgV_snd (c:={ (c.up c.σ h2 tk) with F:=c.F ++ ex,J:=own ++ c.J }) S0 TO h ok' hcc dv4 S4 fun c5 h l5 S5=>?_
    refine S0.ex h ok' hcc S5 fun fl f c6 h l6 df S6=>?_
    have l46:=l5.trans l6
    have hJ6:c6.J=own ++ c.J:=l46.jj
    obtain ⟨S7,f7⟩:=S6.dropJ hJ6 (.inl hcc)
    have le7:LeS c₀ { c6 with J:=c.J }:=⟨fun i a e=>l46.ext i a (le.ext i a e),fun p hp=>l46.sub p (List.mem_append_left _ (le.sub p hp)),le.jj⟩
    cases fl with
    | next =>
      cases (df:f=.next)
      have S8:=S7.dropL (xs:=dr)
      have h:trim k (Mine.dropL dr c6.σ) (fun σ3=>forV (asgV T o t) (o.ex body) k dr r σ3 K):=h
      obtain ⟨ρ',σ',hK,hsc,hx,hin',S9⟩:=trim_snd (k:=k) (c:={ c6 with J:=c.J,σ:=Mine.dropL dr c6.σ }) h S8
      refine ih (c:={ c6 with J:=c.J,ρ:=ρ',σ:=σ' }) hr' hlt hK S9 ⟨fun j a e=>hx j a (by rw [hk]; exact (List.getElem?_eq_some_iff.mp e).1) (le7.ext j a e),le7.sub,le7.jj⟩ (w3 _ fun p hp=>?_) fun b hb=>?_
      · obtain ⟨P,S6⟩:=S6
        rcases List.mem_append.mp hp with hp | hp
        · exact (S6.news p (List.mem_append_right _ (List.mem_append_right _ (hJ6 ▸ List.mem_append_left _ hp)))).1
        · exact (S6.news p (S6.memF (le7.sub p hp))).1
      · rw [← w1] at hb
        obtain ⟨p,hp,rfl⟩:=List.mem_map.mp hb
        have f8:=f7 p hp
        refine ⟨f8.l,f8.h,fun h=>f8.r (hin' _ h),fun q hq=>?_⟩
        rcases List.mem_append.mp hq with h | h
        · exact f8.f q (List.mem_append_left _ h)
        · exact (hg p (List.mem_append_right _ hp)).2.f q (List.mem_append_right _ h)
    | brk=>cases (df:f=.brk); exact Goes.next (c':={ c6 with J:=c.J }) G h le7 S7
    | ret w=>obtain ⟨u',rfl,d⟩:=df; exact Goes.ret (c':={ c6 with J:=c.J }) G h le7 d S7
theorem enumE_eq {e:Expr} {p:Expr × Expr} (h:enumE e=some p):∃ y np q,e=.Call (.Name y np) [p.2] [] q ∧ p.1=.Name y np:=by
  unfold enumE at h
  cases e with
  | Call f args kw q=>cases f with
    | Name y np =>
      cases args with
      | nil=>cases h
      | cons a r=>cases r with
        | cons _ _=>cases h
        | nil=>cases kw with
          | cons _ _=>cases h
          | nil =>
            have h:(bif eqS y "enumerate" then some (Expr.Name y np,a) else none)=some p:=h
            cases hy:eqS y "enumerate" with
            | false=>rw [hy] at h; cases h
            | true=>rw [hy] at h; cases h; exact ⟨y,np,q,rfl,rfl⟩
    | _=>cases h
  | _=>cases h
theorem isEnumr_eq {v:SV} (h:isEnumr v=true):v=.bi .enumr:=by
  cases v with
  | bi b=>cases b <;> first | rfl | cases h
  | _=>cases h
theorem for_go (S0:Snd W o n) (TO:TabOK W T) (ok:x.Ok W Γ n) (hcc:x.cc=none) {t:Expr} {body:List Stmt} {tg:Expr→Prop} {I:Addr} {wr:List Addr} {l:List SV} {At:Nat→Heap→Prop} {Mid:Nat→Value→Heap→Prop} {dr:List Str} {h':Heap} (htg:tg t) (it:Iter W x c tg l I wr At Mid h') (h:forV (asgV T o t) (o.ex body) c.σ.hp.length dr l c.σ K) (S:St W x c) (G:GoesS W x (DenF W) c K Q) :
    wpAt W.M Γ (runOwn (.forLoop t (.ref I) body [] x.env) x.env) Q E { c.s with heap:=h' }:=by
  have hk:c.σ.hp.length=c.ρ.length:=S.el fun P S=>S.lenH
  have S2:St W x (c.up c.σ h' c.s.toks):=S.move (wr:=[]) (fun b o' _ e=>it.keep b o' e) fun b hb=>nomatch hb
  exact at_runOwn fun p=>loop_snd (c:=c.up c.σ h' c.s.toks) S0 TO ok hcc htg it.its hk G (i:=0) (List.drop_zero) (Nat.zero_le _) h S2 Le.up.s it.at0 (fun b hb=>(fresh_ge S (it.new b hb)).to (fun _ h=>h) rfl rfl) _ rfl (ok.hI.enter _ none p (by intro x; cases x)) (ok.hC.enter none p rfl)
theorem for_snd (S0:Snd W o n) (TO:TabOK W T) {t it:Expr} {body els:List Stmt} {pos:Pos} (h:st1 T o (.For t it body els pos) c.σ K) (ok:x.Ok W Γ n) (hcc:x.cc=none) (S:St W x c) (G:GoesS W x (DenF W) c K Q) :
    wpAt W.M Γ (exec (.For t it body els pos) x.env) Q E c.s:=by
  replace h:=req1 h
  obtain ⟨he,h⟩:=h
  obtain ⟨hb,he⟩:=Bool.and_eq_true_iff.mp he
  have hnn:=ok.hn (TO.ba hb)
  cases List.isEmpty_iff.mp he
  obtain ⟨F1,hF1,S1⟩:=S.frzAll (is:=T.fz pos.line)
  have S1:=S1.dropL (xs:=tgNames t ++ T.fg pos.line)
  obtain ⟨c1,hc1⟩:∃ c1,c1=({ c with F:=F1,σ:=dropL (tgNames t ++ T.fg pos.line) (frzAll (T.fz pos.line) c.σ) }:Cf):=⟨_,rfl⟩
  have S1:St W x c1:=hc1 ▸ S1
  have l1:LeS c c1:=by rw [hc1]; exact ⟨fun _ _ e=>e,hF1,rfl⟩
  have es:c.s=c1.s:=by rw [hc1]
  have h:overS o t it c1.σ fun l σ2=>forV (asgV T o t) (o.ex body) σ2.hp.length (tgNames t ++ T.fg pos.line) l σ2 K:=by rw [hc1]; exact h
  have G1:=G.mono l1
  rw [es]
  clear hc1 es
  rw [exec_For]
  refine at_bind (at_standAt (at_bind ?_))
  unfold overS at h
  cases ee:enumE it with
  | none =>
    rw [ee] at h
    obtain ⟨hset,h⟩:=reqN h
    refine S0.ev h ok S1 fun v u c2 h l2 d2 S2=>?_
    refine at_bind (at_of_eq (folded_of hset _ _) (at_bind (at_standAt (at_bind (at_holding (at_any ok.hI (over_snd hnn S2 d2 h fun l c3 I wr At Mid h' h l3 es3 _ S3 it=>?_)))))))
    exact for_go S0 TO ok hcc True.intro it h S3 (G1.mono (l2.trans l3).s)
  | some p =>
    rw [ee] at h
    obtain ⟨y,np,q,rfl,e1⟩:=enumE_eq ee
    obtain ⟨hs,h⟩:=req1 h
    obtain ⟨hs,ht⟩:=Bool.and_eq_true_iff.mp hs
    rw [e1] at h
    rw [arm_eval_Call_Name']
    refine at_bind (S0.ev h ok S1 fun f fu c2 h l2 d2 S2=>?_)
    obtain ⟨hf,h⟩:=req1 h
    cases isEnumr_eq hf
    have hu:fu=.type "enumerate":=by
      cases d2 with | a1 d2=>cases d2; rfl
    subst hu
    have hn:noStar [p.2]=true:=Bool.and_eq_true_iff.mpr ⟨hs,rfl⟩
    have h:evs o.ev [p.2] c2.σ fun vs σ2=>one vs fun v=>lstP v fun l=>req (Nat.ble l.length 1000) (forV (asgV T o t) (o.ex body) σ2.hp.length (tgNames t ++ T.fg pos.line) (enumL 0 l) σ2 K):=h
    refine at_callG ok.hI (stars_no hn) (evs_snd S0 ok hn h S2 fun vs us c3 h l3 d3 S3=>⟨keeps_bi _ _ Bn.enumr,?_⟩)
    refine one_el (C:=fun us=>wpAt W.M Γ (call (.type "enumerate") ([] ++ us)) _ E c3.s) h d3 fun v u d h=>?_
    cases v with
    | lst l =>
      cases d with
      | a1 d=>cases d
      | @lst a vs j l hm hr =>
        obtain ⟨hz,h⟩:=reqLe h
        obtain ⟨P,S3'⟩:=id S3
        refine at_any ok.hI (call_enumerate_list (S3'.news.isList (S3'.memF hm)) fun h' he hit hsz hk=>?_)
        have hlt:=S3'.off (S3'.memF hm)
        have I1:=enum_its (x:=x) hnn (c:=c3) (e:=c3.s.heap.objs.size + 1) (it:=c3.s.heap.objs.size) hm hr (Nat.succ_ne_self _) (Nat.ne_of_lt (Nat.lt_succ_of_lt hlt)) (Nat.ne_of_lt hlt)
        have at0:(∃ old,IsEnum h' (c3.s.heap.objs.size + 1) c3.s.heap.objs.size ((0:Nat):Int) old) ∧ h'.IsListIter c3.s.heap.objs.size a 0 ∧ h'.IsList a (List.toArray vs):=⟨⟨_,he⟩,hit,⟨_,hk _ _ (S3'.news _ (S3'.memF hm)).1,rfl,j,rfl⟩⟩
        refine at_bind (at_of_eq (folded_of rfl _ _) (at_bind (at_standAt (at_bind (at_holding (at_any ok.hI (I1.self 0 _ _ _ at0 ?_)))))))
        refine for_go S0 TO ok hcc (Nat.eq_of_beq_eq_true ht) ⟨I1,at0,fun b hb=>?_,hk,by rw [hsz]; exact Nat.le_add_right _ _⟩ h S3 (G1.mono (l2.trans l3).s)
        rcases List.mem_cons.mp hb with e | hb
        · rw [e]; exact Nat.le_succ _
        · rw [List.mem_singleton.mp hb]; exact Nat.le_refl _
    | _=>exact False.elim h
theorem tidy_snd {K:Sy→Prop} {c₀:Cf} (h:tidy c₀.σ.hp.length c.σ K) (l:LeS c₀ c) (S₀:St W x c₀) (S:St W x c):∃ c',K c'.σ ∧ LeS c₀ c' ∧ St W x c' ∧ c'.s=c.s:=by
  rcases bite_or h with ⟨_,h⟩ | ⟨_,h⟩
  · exact ⟨c,h,l,S,rfl⟩
  · refine byC fun zC zk=>?_
    obtain ⟨ρ',σ',hK,_,hx,_,S'⟩:=trim_snd h S
    refine zk ?_
    have hl:c₀.σ.hp.length=c₀.ρ.length:=S₀.el fun P S=>S.lenH
    exact ⟨{ c with ρ:=ρ',σ:=σ' },hK,⟨fun j a e=>hx j a (by rw [hl]; exact (List.getElem?_eq_some_iff.mp e).1) (l.ext j a e),l.sub,l.jj⟩,S',rfl⟩
theorem if_snd (S0:Snd W o n) {t:Expr} {a b:List Stmt} {pos:Pos} (h:o.ts t c.σ fun t σ1=>tidy c.σ.hp.length σ1 fun σ2=>bite t (o.ex a σ2 K) (o.ex b σ2 K)) (ok:x.Ok W Γ n) (hcc:x.cc=none) (S:St W x c) (G:GoesS W x (DenF W) c K Q) :
    wpAt W.M Γ (exec (.If t a b pos) x.env) Q E c.s:=by
  rw [exec_If]
  refine at_bind (at_standAt (at_bind (S0.ts h ok S fun t t' c1 h l1 e S1=>?_)))
  obtain ⟨c2,h,l2,S2,es⟩:=tidy_snd h l1.s S S1
  cases (e:t=t')
  rw [← es]
  cases t with
  | true=>exact S0.ex h ok hcc S2 (G.mono l2)
  | false=>exact S0.ex h ok hcc S2 (G.mono l2)
end
section
variable {cb:Bool} {prog:Program} {w:World} {A A₀:Around} {Γ:Ctx} {E:Value→Shared→Prop} {s:Shared} {K:Frag} {L:Addr} {h₀ base:Heap} {m mg mb:Str→Option Value} {news:List (Addr × Obj)} {p:Program} {loose:List Str} {mean:ExcName→Option Value} {Q:Value→Shared→Prop}
theorem at_defC {env:Env} {outer:List Env} {name qual:Str} {params:Arguments} {body:List Stmt} {scope:Scope} {dV kV doc pm cdv ct oc:Value} {an od:Option Addr} {osl:Array (Option Value)} {f:Addr} {args:List Value} {binds:List (Str × Value)}
    (hI:Γ.In A) (hC:Clean cb Γ)
    (B:Below A₀ base outer h₀) (F:Fr h₀ L s.heap m) (X₀:K.In h₀) (N:News h₀ L s.heap news) (T:Top p loose mean mg mb h₀) (hA:A.frames=some (env :: outer)) (hf:env.frame=some L) (hke:env.scope.kind=.function)
    (ho:K.lookup f=some ⟨oc,od,.func (fnOf name qual params body scope dV kV doc pm an cdv ct),osl⟩) (hcd:codeIn K cdv qual=true) (hroom:A.depth < recursionLimit)
    (hbind:BindsTo s (fnOf name qual params body scope dV kV doc pm an cdv ct) ⟨args,[]⟩ binds) (hkind:(binds.all fun y=>scope.names.lookup y.1 == some .local || scope.names.lookup y.1 == some .cell)=true)
    (hnd:((cellsFrom 0 scope.names []).map (·.1)).Nodup)
    (h:∀ g L' h₁ tk cells Γ',Fr h₀ L g m→Fr g L' h₁ (bindL (envOfC qual scope L' f cdv).kindOf binds fun _=>none)→News g L' h₁ (cells ++ news) →
      CellsAre (bindC (envOfC qual scope L' f cdv).kindOf binds fun _=>none) (cellsFrom (L' + 1) scope.names []) cells→Below A base (env :: outer) g→K.In g→Top p loose mean mg mb g→(∀ p ∈ news,p.1 < L')→Γ'.In (A.deeper (envOfC qual scope L' f cdv))→Clean cb Γ' →
      wpAt (model prog w) Γ' (execs body (envOfC qual scope L' f cdv))
        (fun fl s'=>LeaveK h₀ L m g (fun r s'=>match r with | .ok (.ret v)=>Q v s' | .ok _=>False | .error e=>E e s') (match fl with | .ret v=>v | _=>.none) s')
        (fun _ _=>False) { s with heap:=h₁,toks:=tk })
    (hco:scope.isCoroutine=false) (hgen:scope.isGenerator=false) (hk:scope.kind=.function):wpAt (model prog w) Γ (call (.ref f) args) Q E s:=by
  refine at_call fun p0=>?_
  have hB:=hI.enter (.call (.ref f) ⟨args,[]⟩) none p0 (by intro x; cases x)
  have hC1:=hC.enter (c:=.call (.ref f) ⟨args,[]⟩) none p0 rfl
  refine byC fun zC zk=>?_
  obtain ⟨FG,BG,st,lv⟩:=groundX (R:=fun r s'=>match r with | .ok (.ret v)=>Q v s' | .ok _=>False | .error e=>E e s') B F N hA hf hke
  refine zk ?_
  have hcd':s.heap.CodeRec cdv qual:=codeRec_of (X₀.keeps F.keep) hcd
  refine codeAt_call_function rfl hB hroom ((X₀.keeps F.keep) _ _ ho) rfl hco hgen rfl hcd' (hbind _ _ _ _ ?_)
  refine wpAny_newFunctionEnv_cells hk (kindsX hkind _) fun env' he s' x=>?_
  subst he
  refine ⟨(T.nolimit.keeps F.keep).keeps x.toInCall.keep,codeAt_func rfl ?_⟩
  refine byC fun zC zk=>?_
  obtain ⟨h₁,tk,rfl,_⟩:=x.done
  have hk₁:=x.toInCall.keep
  obtain ⟨cells,NC,Y⟩:=Cl.news (h₀:=s.heap) (Nat.le_refl _) fun n c hm=>⟨x.cell n c (lookup_of_mem_nodup (cellsFrom_names scope.names 0 (s.heap.objs.size + 1) [] [] rfl ▸ hnd) hm),x.above n c hm⟩
  refine zk ?_
  have hB2:=hB.goto (.func body (envOfC qual scope s.heap.objs.size f cdv))
  refine at_mono (h _ s.heap.objs.size h₁ tk cells _ FG ⟨x.toInCall.ns,fun b o e=>hk₁ b o (of_hideAll _ e),Nat.le_of_eq (hideAll_size _ _)⟩ (fun p hp=>?_) Y BG (X₀.keeps st) (T.keeps st) (fun p hp=>Heap.lt_size (N p hp).1) hB2.in (hC1.goto rfl)) (fun fl s' hl=>lv _ _ hl) fun _ _ y=>y
  rcases List.mem_append.mp hp with hp | hp
  · refine ⟨(NC p hp).1,(NC p hp).2.1,?_⟩
    cases q:(hideAll s.heap (news.map (·.1))).get? p.1 with
    | none=>rfl
    | some o =>
      have h1:=of_hideAll _ q
      rw [(NC p hp).2.2] at h1
      cases h1
  · exact ⟨hk₁ _ _ (N p hp).1,Nat.ne_of_lt (Heap.lt_size (N p hp).1),hideAll_none _ (List.mem_map_of_mem hp)⟩
end
section
variable {W:Wd} {T:Tab} {o:Ops} {x:Ac} {Γ:Ctx} {n:Nat} {c:Cf} {E:Value→Shared→Prop}
theorem loc0_of {y:Str} {v:SV} {ps:List (Str × SV)} {ns:List (Str × NameKind)} (h:lookS y (loc0 ns ps)=some (some v)):lookS y ps=some v:=by
  unfold loc0 at h
  generalize (ns.filter fun p=>isHeld p.2)=qs at h
  induction qs with
  | nil=>cases h
  | cons p r ih =>
    rw [List.map_cons,lookS_c] at h
    cases e:eqS y p.1 with
    | true =>
      rw [e] at h
      rw [eqS_iff.mp e]
      exact Option.some.inj h
    | false=>rw [e] at h; exact ih h
theorem zip_look {K:Frag} {F:List (Addr × Obj)} {ρ:List Addr} {y:Str} {v:SV} {xs:List Str} {vs:List SV} {us:List Value} (hd:All2 (Den K F ρ) vs us):lookS y (xs.zip vs)=some v→∃ u,(y,u) ∈ xs.zip us ∧ Den K F ρ v u:=by
  induction hd generalizing xs with
  | nil=>intro h; rw [List.zip_nil_right] at h; cases h
  | @cons v0 u0 vs us hd hr ih =>
    intro h
    cases xs with
    | nil=>cases h
    | cons z xs =>
      rw [List.zip_cons_cons,lookS_c] at h
      cases e:eqS y z with
      | true =>
        rw [e] at h
        cases h
        exact ⟨u0,by rw [eqS_iff.mp e]; exact List.mem_cons_self ..,hd⟩
      | false =>
        rw [e] at h
        obtain ⟨u,h1,h2⟩:=ih h
        exact ⟨u,List.mem_cons_of_mem _ h1,h2⟩
theorem bindL_c {k:Str→Option NameKind} {p:Str × Value} {r:List (Str × Value)} {m:Str→Option Value}:bindL k (p :: r) m=bindL k r (if k p.1=some .local then fun y=>if y=p.1 then some p.2 else m y else m):=rfl
theorem bindC_c {k:Str→Option NameKind} {p:Str × Value} {r:List (Str × Value)} {m:Str→Option Value}:bindC k (p :: r) m=bindC k r (if k p.1=some .local then m else fun y=>if y=p.1 then some p.2 else m y):=rfl
theorem bind_no {k:Str→Option NameKind} {y:Str} {l:List (Str × Value)} (h:y ∉ l.map (·.1)):∀ {m:Str→Option Value},bindL k l m y=m y ∧ bindC k l m y=m y:=by
  induction l with
  | nil=>intro m; exact ⟨rfl,rfl⟩
  | cons p r ih =>
    intro m
    have h1:y ≠ p.1:=fun e=>h (by rw [e]; exact List.mem_cons_self ..)
    have ih:=@ih fun hm=>h (List.mem_cons_of_mem _ hm)
    rw [bindL_c,bindC_c,ih.1,ih.2]
    constructor
    · split
      · exact if_neg h1
      · rfl
    · split
      · rfl
      · exact if_neg h1
theorem bind_at {k:Str→Option NameKind} {y:Str} {u:Value} {l:List (Str × Value)} (nd:(l.map (·.1)).Nodup) (h:(y,u) ∈ l):∀ {m m':Str→Option Value},(k y=some .local→bindL k l m y=some u) ∧ (k y ≠ some .local→bindC k l m' y=some u):=by
  induction l with
  | nil=>cases h
  | cons p r ih =>
    intro m m'
    have nd:=List.nodup_cons.mp nd
    rw [bindL_c,bindC_c]
    rcases List.mem_cons.mp h with e | h
    · cases e
      rw [(bind_no nd.1).1,(bind_no nd.1).2]
      exact ⟨fun hk=>by rw [if_pos hk]; exact if_pos rfl,fun hk=>by rw [if_neg hk]; exact if_pos rfl⟩
    · exact ih nd.2 h
theorem cells_mem {cm:Str→Option Value} {cs:List (Str × Addr)} {cells:List (Addr × Obj)} (h:CellsAre cm cs cells):(∀ y c,(y,c) ∈ cs→∃ o,(c,o) ∈ cells ∧ o.data=.cell (cm y)) ∧ ∀ p ∈ cells,∃ y,(y,p.1) ∈ cs:=by
  induction h with
  | nil=>exact ⟨fun _ _ h=>(nomatch h),fun _ h=>(nomatch h)⟩
  | @cons z d o _ _ hd r ih =>
    refine ⟨fun y c h=>?_,fun p h=>?_⟩
    · rcases List.mem_cons.mp h with e | h
      · cases e; exact ⟨o,List.mem_cons_self ..,hd⟩
      · obtain ⟨o',h1,h2⟩:=ih.1 y c h
        exact ⟨o',List.mem_cons_of_mem _ h1,h2⟩
    · rcases List.mem_cons.mp h with e | h
      · rw [e]; exact ⟨z,List.mem_cons_self ..⟩
      · obtain ⟨y,hy⟩:=ih.2 p h
        exact ⟨y,List.mem_cons_of_mem _ hy⟩
theorem cellsFrom_c {k:Nat} {p:Str × NameKind} {r:List (Str × NameKind)} {acc:List (Str × Addr)}:cellsFrom k (p :: r) acc=if p.2 == .cell then cellsFrom (k + 1) r ((p.1,k) :: acc) else cellsFrom k r acc:=rfl
theorem cellsFrom_ge {p:Str × Addr} {ns:List (Str × NameKind)}:∀ {k:Nat} {acc:List (Str × Addr)},p ∈ cellsFrom k ns acc→p ∈ acc ∨ k ≤ p.2:=by
  induction ns with
  | nil=>intro k acc h; exact .inl h
  | cons q r ih =>
    intro k acc h
    rw [cellsFrom_c] at h
    split at h
    · rcases ih h with h | h
      · rcases List.mem_cons.mp h with e | h
        · rw [e]; exact .inr (Nat.le_refl _)
        · exact .inl h
      · exact .inr (Nat.le_of_succ_le h)
    · exact ih h
theorem lookup_in {y:Str} {c:Addr} {l:List (Str × Addr)} (h:l.lookup y=some c):(y,c) ∈ l:=lookS_mem ((lookS_lookup y l).trans h)
theorem lv1_snd {k:Nat} {v:SV} {u:Value} (S:St W x c) (hv:Den1 W.K c.F c.ρ v u):∃ F',Sub c.F F' ∧ Den1 W.K F' c.ρ (lv1 k v c.σ).1 u ∧ (lv1 k v c.σ).2.sc=c.σ.sc ∧ (lv1 k v c.σ).2.loc=c.σ.loc ∧ St W x { c with F:=F',σ:=(lv1 k v c.σ).2 }:=by
  have st:∃ F',Sub c.F F' ∧ Den1 W.K F' c.ρ v u ∧ c.σ.sc=c.σ.sc ∧ c.σ.loc=c.σ.loc ∧ St W x { c with F:=F',σ:=c.σ }:=⟨c.F,fun _ h=>h,hv,rfl,rfl,S⟩
  unfold lv1
  cases eo:objI v with
  | none=>exact st
  | some i =>
    show ∃ F',_
    dsimp only
    cases ek:Nat.ble k i with
    | false=>exact st
    | true =>
      cases eb:c.σ.hp[i]?.bind soLit with
      | none=>exact st
      | some w =>
        cases e6:isK 6 w with
        | false=>rw [show (bif true then @Option.rec SV (fun _=>SV × Sy) (v,c.σ) (fun w=>bif isK 6 w then (w,c.σ.put i .gone) else (v,c.σ)) (some w) else (v,c.σ))=(v,c.σ) by show (bif isK 6 w then _ else _)=_; rw [e6]; rfl]; exact st
        | true =>
          rw [show (bif true then @Option.rec SV (fun _=>SV × Sy) (v,c.σ) (fun w=>bif isK 6 w then (w,c.σ.put i .gone) else (v,c.σ)) (some w) else (v,c.σ))=(w,c.σ.put i .gone) by show (bif isK 6 w then _ else _)=_; rw [e6]; rfl]
          obtain ⟨so,e1,e2⟩:=Option.bind_eq_some_iff.mp eb
          obtain ⟨a,ob,h1,h2,h3⟩:=S.gone e1 e2
          cases objI_eq eo
          cases hv with
          | obj hr =>
            rw [hr] at h1
            cases h1
            refine ⟨_,Sub.snoc _ _,?_,rfl,rfl,h3⟩
            cases h2 with
            | a1 h2=>exact h2
            | tup=>cases e6
            | lst=>cases e6
theorem lvL_snd {k:Nat} {l:List SV}:∀ {c:Cf} {us:List Value},St W x c→All2 (Den1 W.K c.F c.ρ) l us→∃ F',Sub c.F F' ∧ All2 (Den1 W.K F' c.ρ) (lvL k l c.σ).1 us ∧ (lvL k l c.σ).2.sc=c.σ.sc ∧ (lvL k l c.σ).2.loc=c.σ.loc ∧ St W x { c with F:=F',σ:=(lvL k l c.σ).2 }:=by
  induction l with
  | nil=>intro c us S h; cases h; exact ⟨c.F,fun _ h=>h,.nil,rfl,rfl,S⟩
  | cons v r ih =>
    intro c us S h
    cases h with
    | cons hv hr =>
      refine byC fun zC zk=>?_
      obtain ⟨F1,s1,d1,a1,b1,S1⟩:=lv1_snd (k:=k) S hv
      obtain ⟨F2,s2,d2,a2,b2,S2⟩:=ih S1 (hr.imp fun _ _=>Den1.mono s1 fun _ _ e=>e)
      refine zk ?_
      exact ⟨F2,fun p hp=>s2 p (s1 p hp),.cons (d1.mono s2 fun _ _ e=>e) d2,a2.trans a1,b2.trans b1,S2⟩
theorem lv_snd {k:Nat} {v:SV} {u:Value} (S:St W x c) (hv:DV W c v u):∃ F',Sub c.F F' ∧ Den W.K F' c.ρ (lv k v c.σ).1 u ∧ (lv k v c.σ).2.sc=c.σ.sc ∧ (lv k v c.σ).2.loc=c.σ.loc ∧ St W x { c with F:=F',σ:=(lv k v c.σ).2 }:=by
  cases hv with
  | @a1 v u h =>
    have e:lv k v c.σ=lv1 k v c.σ:=by cases h <;> rfl
    rw [e]
    obtain ⟨F',s,d,r⟩:=lv1_snd (k:=k) S h
    exact ⟨F',s,.a1 d,r⟩
  | tup hm hl =>
    obtain ⟨F',s,d,r⟩:=lvL_snd (k:=k) S hl
    exact ⟨F',s,mkTup_den (s _ hm) d,r⟩
  | lst hm hl=>exact ⟨c.F,fun _ h=>h,.lst hm hl,rfl,rfl,S⟩
theorem inline_snd (S0:Snd W o n) {r:FnR} {a:Addr} {args:List SV} {us:List Value} {K:KV} {Q:Value→Shared→Prop} (R:FnOK W a r) (h:inlineV o.ex r args c.σ K) (ok:x.Ok W Γ n) (hd1:x.dp + 1 + 2 * n + 40 < recursionLimit) (hu1:x.un + 3 + 16 * n + 320 < cLine) (S:St W x c) (hd:DL W c args us) (G:Goes W x (DV W) c K Q) :
    wpAt W.M Γ (call (.ref a) us) Q E c.s:=by
  obtain ⟨hl,h⟩:=reqEq h
  obtain ⟨dV,kV,doc,pm,cdv,ct,oc,an,od,osl,ho,hcd,hb⟩:=R.at_
  obtain ⟨P,S⟩:=S
  have hdp:=ok.dp
  have hun:=ok.un
  have hlen:=hd.len
  have hnm:((argNames r.params).zip us).map (·.1)=argNames r.params:=by
    rw [List.map_fst_zip]
    rw [hl,hlen]; exact Nat.le_refl _
  have hnd:(((argNames r.params).zip us).map (·.1)).Nodup:=by rw [hnm]; exact R.nodup
  refine at_defC (A:=x.ar) ok.hI ok.hC ok.B S.fr ok.X S.news ok.T rfl rfl ok.hk ho hcd (by show x.dp < _; exact ln [_,_,_] [] [.lt (.a (.a (.a (.v 0) (.k 1)) (.m 2 (.v 1))) (.k 40)) (.v 2)] (.lt (.v 0) (.v 2)) (.w [1,1]) zr hd1) (BindsTo.of_eq (hb us (hlen.symm.trans hl.symm))) ?_ R.cells ?_ R.co R.gen R.kind
  · rw [List.all_eq_true]
    intro y hy
    rcases R.loc y.1 (List.of_mem_zip hy).1 with h | h <;> rw [h] <;> rfl
  intro g L' h₁ tk cells Γ' FG F' N' Y' B' X' T' hlt hI' hC'
  obtain ⟨x',hx'⟩:∃ x':Ac,x'=⟨x.dp + 1,x.un + 3,((x.ar).deeper (envOfC r.qual r.scope L' a cdv)).guards,r.qual,r.scope,L',a,cdv,cellsFrom (L' + 1) r.scope.names [],x.fenv :: x.outer,x.ar,x.base,g,none,x.gn,x.os,x.hh⟩:=⟨_,rfl⟩
  have ok':x'.Ok W Γ' n:=by subst hx'; exact ⟨B',X',T',R.kind,R.kind,by show x.dp + 1 + _ + _ < _; exact ln [_,_,_] [] [.lt (.a (.a (.a (.v 0) (.k 1)) (.m 2 (.v 1))) (.k 40)) (.v 2)] (.lt (.a (.a (.a (.v 0) (.k 1)) (.m 2 (.v 1))) (.k 40)) (.v 2)) (.w [1,1]) zr hd1,by show x.un + 3 + _ + _ < _; exact ln [_,_,_] [] [.lt (.a (.a (.a (.v 0) (.k 3)) (.m 16 (.v 1))) (.k 320)) (.v 2)] (.lt (.a (.a (.a (.v 0) (.k 3)) (.m 16 (.v 1))) (.k 320)) (.v 2)) (.w [1,1]) zr hu1,hI',hC',fun q h=>(nomatch h),fun y hy=>Option.isSome_iff_exists.mp (cellsFrom_some r.scope.names (L' + 1) [] (.inl ((lookS_lookup y _).symm.trans hy))),ok.hn⟩
  have hcc:x'.cc=none:=by subst hx'; rfl
  have hgn:x'.gn=x.gn:=by rw [hx']
  have hos:x'.os=x.os:=by rw [hx']
  have hcs:x'.cs=r.scope:=by subst hx'; rfl
  have hcl:x'.cl=cellsFrom (L' + 1) r.scope.names []:=by subst hx'; rfl
  have hen:x'.env=envOfC r.qual r.scope L' a cdv:=by subst hx'; rfl
  have hhL:x'.h₀=g ∧ x'.L=L':=by subst hx'; exact ⟨rfl,rfl⟩
  have F'':Fr x'.h₀ x'.L h₁ (bindL (envOfC r.qual r.scope L' a cdv).kindOf ((argNames r.params).zip us) fun _=>none):=by rw [hhL.1,hhL.2]; exact F'
  have N'':News x'.h₀ x'.L h₁ (cells ++ (P ++ (c.F ++ c.J))):=by rw [hhL.1,hhL.2]; exact N'
  clear hx'
  obtain ⟨hc1,hc2⟩:=cells_mem Y'
  have hge:∀ p ∈ cells,L' < p.1:=fun p hp=>by
    obtain ⟨y,hy⟩:=hc2 p hp
    rcases cellsFrom_ge hy with h | h
    · cases h
    · exact h
  have hne:∀ p ∈ P ++ (c.F ++ c.J),∀ q ∈ cells,q.1 ≠ p.1:=fun p hp q hq e=>Nat.lt_asymm (hlt p hp) (e ▸ hge q hq)
  have hsF:Sub c.F (c.F ++ cells):=fun p hp=>List.mem_append_left _ hp
  obtain ⟨c0,hc0⟩:∃ c0:Cf,c0=⟨c.ρ,c.F ++ cells,c.J,bindL (envOfC r.qual r.scope L' a cdv).kindOf ((argNames r.params).zip us) fun _=>none,⟨r.scope,loc0 r.scope.names ((argNames r.params).zip args),c.σ.hp⟩,{ c.s with heap:=h₁,toks:=tk }⟩:=⟨_,rfl⟩
  have S':St W x' c0:=by
    subst hc0
    refine ⟨P,⟨by rw [sc_fn hcc,hcs],S.sc.2.1.trans hgn.symm,S.sc.2.2.trans hos.symm⟩,F'',fun p hp=>N'' p ?_,S.rho,All2.of S.objs.len fun i so p e1 e2=>⟨(S.objs.both e1 e2).1.mono hsF fun _ _ e=>e,fun q hq e=>?_,(S.objs.both e1 e2).2.2⟩,S.nodup,fun p hp q hq=>?_,fun y v kd h1 h2 h3=>?_⟩
    · simp only [List.mem_append] at hp ⊢
      rcases hp with h | (h | h) | h
      · exact .inr (.inl h)
      · exact .inr (.inr (.inl h))
      · exact .inl h
      · exact .inr (.inr (.inr h))
    · rcases List.mem_append.mp hq with hq | hq
      · exact (S.objs.both e1 e2).2.1 q hq e
      · exact absurd e (hne p (List.mem_append_left _ (List.mem_of_getElem? e2)) q hq)
    · rcases List.mem_append.mp hp with hp | hp
      · exact S.fj p hp q hq
      · exact hne q (List.mem_append_right _ (List.mem_append_right _ hq)) p hp
    · obtain ⟨u,h4,h5⟩:=zip_look hd (loc0_of h1)
      refine ⟨u,?_,h5.mono hsF fun _ _ e=>e⟩
      have hk:(envOfC r.qual r.scope L' a cdv).kindOf y=r.scope.names.lookup y:=rfl
      have hb:=bind_at (k:=(envOfC r.qual r.scope L' a cdv).kindOf) (m:=fun _=>none) (m':=fun _=>none) hnd h4
      rcases R.loc y (List.of_mem_zip h4).1 with hy | hy
      · exact .loc hcc (by rw [lookS_lookup,hcs]; exact hy) (hb.1 (hk.trans hy))
      · obtain ⟨b,hb2⟩:=Option.isSome_iff_exists.mp (cellsFrom_some r.scope.names (L' + 1) [] (.inl hy))
        obtain ⟨ob,g1,g2⟩:=hc1 y b (lookup_in hb2)
        exact .cell (by rw [lookS_lookup,sc_fn hcc,hcs]; exact hy) (by rw [hen]; exact hb2) (List.mem_append_right _ g1) (by rw [g2,hb.2 (by rw [hk,hy]; decide)])
  have h:o.ex r.body c0.σ fun fl σ1=>onF fl (leaveV c.σ.hp.length (.d .none) { c.σ with hp:=σ1.hp } K) False fun v=>leaveV c.σ.hp.length v { c.σ with hp:=σ1.hp } K:=by rw [hc0]; exact h
  have e0:c0.s={ c.s with heap:=h₁,toks:=tk }:=by rw [hc0]
  rw [← e0,← hen]
  refine S0.ex (E:=fun _ _=>False) h ok' hcc S' fun fl f c1 h1 l1 df S1=>?_
  have x1:Ext c.ρ c1.ρ:=fun i b e=>l1.ext i b (by rw [hc0]; exact e)
  have f1:Sub c.F c1.F:=fun p hp=>l1.sub p (by rw [hc0]; exact hsF p hp)
  have j1:c1.J=c.J:=l1.jj.trans (by rw [hc0])
  obtain ⟨P1,S1⟩:=S1
  have back:∀ {v:SV} {u:Value},leaveV c.σ.hp.length v { c.σ with hp:=c1.σ.hp } K→DV W c1 v u→LeaveK x.h₀ x.L c.m g (fun r s'=>match r with | .ok (.ret v)=>Q v s' | .ok _=>False | .error e=>E e s') u c1.s:=by
    intro v u hK hv
    have fr1:=S1.fr
    have nw1:=S1.news
    rw [hhL.1,hhL.2] at fr1 nw1
    refine leaveK_ fr1 nw1 fun Fb Nb=>?_
    have S3:St W x { c1 with m:=c.m,σ:={ c.σ with hp:=c1.σ.hp } }:=⟨P1,⟨S.sc.1,S1.sc.2.1.trans hgn,S1.sc.2.2.trans hos⟩,Fb,Nb,S1.rho,S1.objs,S1.nodup,S1.fj,fun y w kd h1 h2 h3=>by
      obtain ⟨u',k1,k2⟩:=S.loc y w kd h1 h2 h3
      exact ⟨u',k1.mono f1 (by show Sub c.J c1.J; rw [j1]; exact fun _ h=>h),k2.mono f1 x1⟩⟩
    obtain ⟨F2,s2,d2,a2,b2,S2⟩:=lv_snd (k:=c.σ.hp.length) S3 hv
    rcases bite_or hK with ⟨hb,hK⟩ | ⟨_,hK⟩
    · obtain ⟨hb1,hb2⟩:=Bool.and_eq_true_iff.mp hb
      have hcut:Ext c.ρ (c1.ρ.take c.σ.hp.length):=fun j b hj=>by
        have hj':j < c.ρ.length:=(List.getElem?_eq_some_iff.mp hj).1
        rw [List.getElem?_take_of_lt (by rw [S.lenH]; exact hj')]
        exact x1 j b hj
      obtain ⟨P2,S2⟩:=S2
      refine G _ u { c1 with ρ:=c1.ρ.take c.σ.hp.length,F:=F2,m:=c.m,σ:={ (lv c.σ.hp.length v { c.σ with hp:=c1.σ.hp }).2 with hp:=(lv c.σ.hp.length v { c.σ with hp:=c1.σ.hp }).2.hp.take c.σ.hp.length } } hK ⟨hcut,fun p hp=>s2 p (f1 p hp),j1,rfl⟩ (d2.closed hb1 take_at fun _ h=>h) ?_
      have S4:=slots_cut S2 hb2 (ρ':=c1.ρ.take c.σ.hp.length) take_at
      refine ⟨P2.take c.σ.hp.length,S2.sc,S2.fr,fun p hp=>S2.news p ((List.mem_append.mp hp).elim (fun h=>List.mem_append_left _ (List.mem_of_mem_take h)) fun h=>List.mem_append_right _ h),by rw [List.map_take,S2.rho],S4,S2.nodup.sublist (List.take_sublist ..),S2.fj,fun y w kd h1 h2 h3=>?_⟩
      have h1:lookS y (lv c.σ.hp.length v { c.σ with hp:=c1.σ.hp }).2.loc=some (some w):=h1
      rw [b2] at h1
      obtain ⟨u',k1,k2⟩:=S.loc y w kd h1 h2 h3
      exact ⟨u',k1.mono (fun p hp=>s2 p (f1 p hp)) (by show Sub c.J c1.J; rw [j1]; exact fun _ h=>h),k2.mono (fun p hp=>s2 p (f1 p hp)) hcut⟩
    · exact G _ u { c1 with F:=F2,m:=c.m,σ:=(lv c.σ.hp.length v { c.σ with hp:=c1.σ.hp }).2 } hK ⟨x1,fun p hp=>s2 p (f1 p hp),j1,rfl⟩ d2 S2
  cases fl with
  | next=>cases (df:f=.next); exact back h1 .none
  | brk=>exact False.elim h1
  | ret v=>obtain ⟨u,rfl,d⟩:=df; exact back h1 d
end
section
variable {prog:Program} {w:World} {A:Around} {Γ:Ctx} {E:Value→Shared→Prop}
theorem at_make {C fI:Addr} {args:List Value} {h:Heap} {g:Array GenState} {d:Drawn} {t:Nat} {os:OsState} {Q:Value→Shared→Prop} (hI:Γ.In A) (hC:Clean cb Γ) (Y:Makes (model prog w) h C) (hi:Looks (model prog w) h (typeLookup (.ref C) "__init__") (some (.ref fI)))
    (hb:∀ self,Looks (model prog w) h (bindSpecial (.ref fI) self) (.ref fI,[self]))
    (hq:∀ Γ',Γ'.In (A.under (.builtin "type.__call__" ⟨.ref C :: args,[]⟩))→Clean cb Γ'→wpAt (model prog w) Γ' (call (.ref fI) (.ref (h.objs.size + 1) :: args)) (fun v s'=>v=.none ∧ Q (.ref (h.objs.size + 1)) s') E ⟨(h.push emptyDict).push (instObj C h.objs.size),g,d,t,os⟩) :
    wpAt (model prog w) Γ (call (.ref C) args) Q E ⟨h,g,d,t,os⟩:=by
  have Y':=Y
  obtain ⟨⟨oc,od,cd,sl,hC0,e1,e2,e4⟩,made,base,self,top,call,typ⟩:=Y
  refine at_call fun p=>?_
  have hB:=hI.enter (.call (.ref C) ⟨args,[]⟩) none p (by intro x; cases x)
  have hC1:Clean cb (Γ.enter (.call (.ref C) ⟨args,[]⟩) none p):=hC.enter none p rfl
  have hI1:(Γ.enter (.call (.ref C) ⟨args,[]⟩) none p).In A.in1:=hB.in
  refine code_at_tree (t:=callAny (.ref C) ⟨args,[]⟩) rfl ?_
  refine at_any hI1 ?_
  refine nd_load hC0 ?_
  show wpAny _ _ (callAny.viaDunder (.ref C) _) _ _ _
  unfold callAny.viaDunder
  refine wpAny_bind (call.at ?_)
  dsimp only
  rw [tc_bind]
  refine wpAny_bind (wpAny_pure (wpAny_bind (wpAny_pure ?_)))
  refine wpAny_pure (a:=Fin.again (.call (.builtin "type.__call__") ⟨.ref C :: args,[]⟩)) (And.intro rfl ?_)
  have hB2:=hB.goto (.call (.builtin "type.__call__") ⟨.ref C :: args,[]⟩)
  have hC2:=hC1.goto (c:=.call (.builtin "type.__call__") ⟨.ref C :: args,[]⟩) rfl
  have hI2:=hB2.in
  refine code_at_tree (t:=do checkBuiltinCall "type.__call__" ⟨.ref C :: args,[]⟩; again (.builtin "type.__call__" ⟨.ref C :: args,[]⟩)) rfl ?_
  refine at_bind (at_any hI2 (check_slot tc_kind tc_split typ (tc_args _ _ _) ?_))
  refine at_pure (a:=Fin.again (.builtin "type.__call__" ⟨.ref C :: args,[]⟩)) ⟨Code.quiet_builtin _ (by decide +kernel),?_⟩
  have hB3:=hB2.goto (.builtin "type.__call__" ⟨.ref C :: args,[]⟩)
  have hC3:=hC2.goto (c:=.builtin "type.__call__" ⟨.ref C :: args,[]⟩) (ok_type_call _)
  have hI3:(((Γ.enter (.call (.ref C) ⟨args,[]⟩) none p).goto (.call (.builtin "type.__call__") ⟨.ref C :: args,[]⟩)).goto (.builtin "type.__call__" ⟨.ref C :: args,[]⟩)).In (A.under (.builtin "type.__call__" ⟨.ref C :: args,[]⟩)):=hB3.in
  refine code_at_tree (t:=Builtin.«type.__call__» ⟨.ref C :: args,[]⟩) (den_builtin entry_typeCall) ?_
  generalize (((Γ.enter (.call (.ref C) ⟨args,[]⟩) none p).goto (.call (.builtin "type.__call__") ⟨.ref C :: args,[]⟩)).goto (.builtin "type.__call__" ⟨.ref C :: args,[]⟩))=Γ3 at *
  have hm:Looks (model prog w) h (mroOf (.ref C)) cd.mro:=((Looks.ld (part:=none) hC0).andThen .now).andThen .now
  unfold Builtin.«type.__call__»
  refine at_if_false rfl ?_
  refine at_bind (at_any hI3 (hm.at ?_))
  refine at_if_false e4 ?_
  refine at_bind (at_any hI3 (made.at ?_))
  refine at_bind (at_pure ?_)
  refine at_bind (at_holding (at_any hI3 (wpAny_call (new_K Y' hi (.inl rfl) ?_))))
  have k:∀ b o,h.get? b=some o→((h.push emptyDict).push (instObj C h.objs.size)).get? b=some o:=fun b o e=>Heap.get?_push_of_some _ (Heap.get?_push_of_some _ e)
  have hx:((h.push emptyDict).push (instObj C h.objs.size)).get? (h.objs.size + 1)=some (instObj C h.objs.size):=by heap_get
  have t1:Looks (model prog w) ((h.push emptyDict).push (instObj C h.objs.size)) (typeOf (.ref (h.objs.size + 1))) (.ref C):=(Looks.ld hx).andThen .now
  have s1:=self.keeps k
  have i1:=hi.keeps k
  have b1:=(hb (.ref (h.objs.size + 1))).keeps k
  have hinst:Looks (model prog w) ((h.push emptyDict).push (instObj C h.objs.size)) (isInstance (.ref (h.objs.size + 1)) (.ref C)) true:=t1.andThen s1
  refine at_bind (at_any hI3 (hinst.at ?_))
  refine at_if_false rfl ?_
  refine at_bind (at_holding ?_)
  unfold callSpecial?
  have hsp:Looks (model prog w) ((h.push emptyDict).push (instObj C h.objs.size)) (specialOf (.ref (h.objs.size + 1)) "__init__") (some (.ref fI)):=t1.andThen i1
  refine at_bind (at_any hI3 (hsp.at ?_))
  refine at_holding (at_bind (at_any hI3 (b1.at ?_)))
  refine at_bind (at_mono (hq Γ3 hI3 hC3) (fun v s' hv=>?_) fun _ _ e=>e)
  obtain ⟨rfl,hQ⟩:=hv
  exact at_pure (at_pure hQ)
end
section
variable {W:Wd} {T:Tab} {o:Ops} {x:Ac} {Γ:Ctx} {n b:Nat} {c:Cf} {E:Value→Shared→Prop}
theorem St.re {dp un:Nat} {gd:Option (List Code)} (S:St W x c):St W { x with dp:=dp,un:=un,gd:=gd } c:=by
  obtain ⟨P,S⟩:=S
  refine ⟨P,S.sc,S.fr,S.news,S.rho,S.objs,S.nodup,S.fj,fun y v kd h1 h2 h3=>?_⟩
  obtain ⟨u,k1,k2⟩:=S.loc y v kd h1 h2 h3
  refine ⟨u,?_,k2⟩
  cases k1 with
  | loc a b d=>exact .loc a b d
  | cell a b d e=>exact .cell a b d e
  | comp a b d e=>exact .comp a b d e
theorem isK4_none {v:SV} {u:Value} (h:isNone v=true) (hd:DV W c v u):u=.none:=by
  cases v with
  | d q=>cases q with
    | none=>cases den_d hd; rfl
    | _=>cases h
  | _=>cases h
theorem class_snd (S0:Snd W o n) {r:FnR} {cl:Addr} {cr:ClR} {args:List SV} {us:List Value} {K:KV} {Q:Value→Shared→Prop} (C:ClOK W cl cr) (R:FnOK W cr.init r)
    (h:inlineV o.ex r (.obj (c.σ.hp.length + 1) :: args) ((c.σ.new (.attrs [])).new (.inst cl c.σ.hp.length)) fun v σ1=>req (isNone v) (K (.obj (c.σ.hp.length + 1)) σ1)) (ok:x.Ok W Γ (n + 1)) (S:St W x c) (hd:DL W c args us) (G:Goes W x (DV W) c K Q) :
    wpAt W.M Γ (call (.ref cl) us) Q E c.s:=by
  obtain ⟨P,S⟩:=S
  have X:W.K.In c.s.heap:=ok.X.keeps S.fr.keep
  refine at_make (h:=c.s.heap) ok.hI ok.hC (makes_of X C.makes) (looks_findIn X C.init.1) (fun self=>bind_fn X self (beq_iff_eq.mp C.init.2)) fun Γ' hI' hC'=>?_
  have hdp:=ok.dp
  have hun:=ok.un
  have hlt:∀ p ∈ P ++ (c.F ++ c.J),p.1 ≠ c.s.heap.objs.size:=fun p hp=>Nat.ne_of_lt (S.off hp)
  have S1:=S.new (so:=.attrs []) c.s.toks (S.fr.push (dictOf [] 0)) (News.push S.fr S.news _) hlt ⟨[],0,rfl,.nil⟩
  obtain ⟨P1,S1⟩:=S1
  have hsz:(c.s.heap.push (dictOf [] 0)).objs.size=c.s.heap.objs.size + 1:=Heap.size_push ..
  have hl:c.ρ.length=c.σ.hp.length:=S.lenH.symm
  have e1:=Ext.snoc c.ρ c.s.heap.objs.size
  have e2:=Ext.snoc (c.ρ ++ [c.s.heap.objs.size]) (c.s.heap.push (dictOf [] 0)).objs.size
  have S2:=S1.new (so:=.inst cl c.σ.hp.length) c.s.toks (S1.fr.push (instObj cl c.s.heap.objs.size)) (News.push S1.fr S1.news _) (fun p hp=>Nat.ne_of_lt (S1.off hp)) ⟨c.s.heap.objs.size,e2 _ _ (by show (c.ρ ++ [_])[c.σ.hp.length]?=_; rw [← hl]; simp),rfl⟩
  obtain ⟨c2,hc2⟩:∃ c2:Cf,c2=⟨(c.ρ ++ [c.s.heap.objs.size]) ++ [(c.s.heap.push (dictOf [] 0)).objs.size],c.F,c.J,c.m,(c.σ.new (.attrs [])).new (.inst cl c.σ.hp.length),{ c.s with heap:=(c.s.heap.push (dictOf [] 0)).push (instObj cl c.s.heap.objs.size) }⟩:=⟨_,rfl⟩
  have S2:St W x c2:=hc2 ▸ S2
  have l2:Le c c2:=by rw [hc2]; exact ⟨fun i a e=>e2 i a (e1 i a e),fun _ h=>h,rfl,rfl⟩
  have dx:DV W c2 (.obj (c.σ.hp.length + 1)) (.ref (c.s.heap.objs.size + 1)):=by rw [hc2]; exact .a1 (.obj (by rw [← hl,hsz]; simp))
  have h:inlineV o.ex r (.obj (c.σ.hp.length + 1) :: args) c2.σ fun v σ1=>req (isNone v) (K (.obj (c.σ.hp.length + 1)) σ1):=by rw [hc2]; exact h
  have es:c2.s={ c.s with heap:=(c.s.heap.push (dictOf [] 0)).push (instObj cl c.s.heap.objs.size) }:=by rw [hc2]
  obtain ⟨x2,hx2⟩:∃ x2:Ac,x2={ x with dp:=x.dp + 1,un:=x.un + 1,gd:=(x.ar.under (.builtin "type.__call__" ⟨.ref cl :: us,[]⟩)).guards }:=⟨_,rfl⟩
  have ok2:x2.Ok W Γ' n:=by subst hx2; exact ⟨ok.B,ok.X,ok.T,ok.hk,ok.hk2,by show x.dp + 1 + _ + _ < _; exact ln [_,_,_] [] [.lt (.a (.a (.v 0) (.m 2 (.a (.v 1) (.k 1)))) (.k 40)) (.v 2)] (.lt (.a (.a (.a (.v 0) (.k 1)) (.m 2 (.v 1))) (.k 40)) (.v 2)) (.w [1,1]) zr hdp,by show x.un + 1 + _ + _ < _; exact ln [_,_,_] [] [.lt (.a (.a (.v 0) (.m 16 (.a (.v 1) (.k 1)))) (.k 320)) (.v 2)] (.lt (.a (.a (.a (.v 0) (.k 1)) (.m 16 (.v 1))) (.k 320)) (.v 2)) (.w [1,1]) zr hun,hI',hC',ok.cc0,ok.cellsX,ok.hn⟩
  have back:∀ {c:Cf},St W x2 c→St W x c:=fun {c} S=>by subst hx2; exact S.re (dp:=x.dp) (un:=x.un) (gd:=x.gd)
  have a1:x2.dp=x.dp + 1 ∧ x2.un=x.un + 1:=by rw [hx2]; exact ⟨rfl,rfl⟩
  refine es ▸ inline_snd (x:=x2) S0 R h ok2 (by exact ln [_,_,_,_,_,_] [] [.lt (.a (.a (.v 0) (.m 2 (.a (.v 1) (.k 1)))) (.k 40)) (.v 2),.a (.eq (.v 3) (.a (.v 0) (.k 1))) (.eq (.v 4) (.a (.v 5) (.k 1)))] (.lt (.a (.a (.a (.v 3) (.k 1)) (.m 2 (.v 1))) (.k 40)) (.v 2)) (.w [1,0,0,0,1,1]) zr hdp a1) (by exact ln [_,_,_,_,_,_] [] [.lt (.a (.a (.v 0) (.m 16 (.a (.v 1) (.k 1)))) (.k 320)) (.v 2),.a (.eq (.v 3) (.a (.v 4) (.k 1))) (.eq (.v 5) (.a (.v 0) (.k 1)))] (.lt (.a (.a (.a (.v 5) (.k 3)) (.m 16 (.v 1))) (.k 320)) (.v 2)) (.w [0,0,1,0,1,1]) zr hun a1) (by rw [hx2]; exact S2.re) (.cons dx (hd.mono l2)) fun v u c3 h3 l3 d3 S3=>?_
  obtain ⟨hv,h3⟩:=req1 h3
  have hu:u=.none:=isK4_none hv d3
  exact ⟨hu,G _ _ c3 h3 (l2.trans l3) (dx.mono l3) (back S3)⟩
noncomputable def SpOK (W:Wd) (T:Tab) (b:Nat):Prop:=∀ (a:Addr) (g:List SV→Sy→KV→Prop),T.sp a=some g→∀ {args:List SV} {c:Cf} {K:KV},g args c.σ K→∀ {x:Ac} {Γ:Ctx} {Q:Value→Shared→Prop} {E:Value→Shared→Prop} {us:List Value},
  x.Ok W Γ b→St W x c→DL W c args us→Goes W x (DV W) c K Q→wpAt W.M Γ (call (.ref a) us) Q E c.s
noncomputable def StOK (W:Wd) (T:Tab) (b:Nat):Prop:=∀ g,T.st=some g→∀ {st:Stmt} {c:Cf} {K:KF},g st c.σ K→∀ {x:Ac} {Γ:Ctx} {Q:Flow→Shared→Prop} {E:Value→Shared→Prop},
  x.Ok W Γ b→x.cc=none→St W x c→GoesS W x (DenF W) c K Q→wpAt W.M Γ (exec st x.env) Q E c.s
theorem byte_snd (TO:TabOK W T) (ok:x.Ok W Γ n) (S:St W x c) {args:List SV} {us:List Value} {K:KV} {Q:Value→Shared→Prop} (G:Goes W x (DV W) c K Q) (hd:DL W c args us) (h:biV T .byteArr args c.σ K):wpAt W.M Γ (call (.type "bytearray") us) Q E c.s:=by
  obtain ⟨hb,h⟩:=req1 h
  refine one_el (C:=fun us=>wpAt W.M Γ (call (.type "bytearray") us) Q E c.s) h hd fun v u d h=>?_
  refine nI_el (C:=fun u=>wpAt W.M Γ (call (.type "bytearray") [u]) Q E c.s) h d fun z t h=>?_
  obtain ⟨h1,h⟩:=reqD h
  obtain ⟨h2,h⟩:=reqD h
  obtain ⟨P,S⟩:=S
  obtain ⟨k,rfl⟩:∃ k:Nat,z=(k:Int):=⟨z.toNat,by exact ln [] [_] [.Lt (.k 0) (.v 0)] (.Eq (.v 0) (.c (.t (.v 0)))) (.b (.w [0,1]) (.b (.w [0,1]) (.b (.w [1,1]) (.w [1,0,1])))) zr h1⟩
  refine at_bytearray (n:=k) ok.hI (TO.ba hb ▸ ok.hC) (by exact ln [_] [] [.Lt (.k 0) (.c (.v 0))] (.lt (.k 0) (.v 0)) (.w [1,1]) zr h1) (by exact ln [_] [] [.Le (.c (.v 0)) (.k 1000)] (.le (.v 0) (.k 1000)) (.w [1,1]) zr h2) S.fr S.news fun D h' F' N' hlt=>?_
  exact S.newGo (so:=.ba (List.replicate k 0)) c.s.toks F' N' (fun p hp=>Nat.ne_of_lt (hlt p hp)) (show baObj _=baObj _ from congrArg baObj (Array.toList_inj.mp (by simp))) h G
theorem str_any (S:St W x c) {K:KV} {Q:Value→Shared→Prop} (G:Goes W x (DV W) c K Q) {z:Int} {t:Tok} (h:z.natAbs < 800 ∧ ∀ y:Str,y.length ≤ 900→K (.d (.str y)) c.σ):wpAny W.M x.ar (call (.type "str") [.int z t]) Q E c.s:=by
  refine str_of_int_fit (N:=800) (by split <;> omega) (by decide) fun _=>G.here S _ (h.2 _ ?_) (.a1 (.d (.str _ _)))
  have h1:=len_str_of_int z
  exact ln [_,_] [] [.lt (.v 0) (.k 800),.Le (.c (.v 1)) (.a (.c (.v 0)) (.k 2))] (.le (.v 1) (.k 900)) (.w [1,1,1]) zr h.1 h1
theorem bi_snd (TO:TabOK W T) (ok:x.Ok W Γ n) (S:St W x c) {b:Bn} {args:List SV} {us:List Value} {K:KV} {Q:Value→Shared→Prop} (hd:DL W c args us) (h:biV T b args c.σ K) (G:Goes W x (DV W) c K Q):wpAt W.M Γ (call b.val us) Q E c.s:=by
  cases b with
  | len=>exact one_el (C:=fun us=>wpAt W.M Γ (call (.builtin "len") us) Q E c.s) h hd fun v u d h=>at_any ok.hI (len_snd TO ok S d h G)
  | min=>exact at_any ok.hI ((minmax_snd (fun h=>ok.hn (TO.ba h)) S G hd).1 h)
  | max=>exact at_any ok.hI ((minmax_snd (fun h=>ok.hn (TO.ba h)) S G hd).2 h)
  | append=>exact at_any ok.hI (append_snd S G hd h)
  | extend=>exact at_any ok.hI (extend_snd S G hd h)
  | pop=>exact at_any ok.hI (pop_snd S G hd h)
  | get=>exact at_any ok.hI (get_snd TO ok S G hd h)
  | encode=>exact at_any ok.hI (encode_snd S G hd h)
  | join=>exact at_any ok.hI (join_snd S G hd h)
  | sorted=>exact at_any ok.hI (sorted_snd S G hd h)
  | enumr=>exact False.elim h
  | dict=>exact at_any ok.hI (dict_snd ok TO S G hd h)
  | bytesOf=>exact at_any ok.hI (bytes_snd S G hd h)
  | listOf=>exact at_any ok.hI (list_snd S G hd h)
  | range=>exact at_any ok.hI (range_snd S G hd h)
  | byteArr=>exact byte_snd TO ok S G hd h
  | str=>exact one_el (C:=fun us=>wpAt W.M Γ (call (.type "str") us) Q E c.s) h hd fun v u d h=>nI_el (C:=fun u=>wpAt W.M Γ (call (.type "str") [u]) Q E c.s) h d fun z t h=>at_any ok.hI (str_any S G h)
  | exc=>exact False.elim h
theorem biOf_eq {v:SV} {b:Bn} (h:biOf v=some b):v=.bi b:=by
  cases v <;> first | (cases h; rfl) | cases h
theorem cl_snd (S0:Snd W o n) (TO:TabOK W T) (SP:SpOK W T b) (hb:b ≤ n + 1) {f:SV} {args:List SV} {fu:Value} {us:List Value} {K:KV} {Q:Value→Shared→Prop} (h:callV T o.ex f args c.σ K) (ok:x.Ok W Γ (n + 1)) (S:St W x c) (hf:DV W c f fu) (hd:DL W c args us) (G:Goes W x (DV W) c K Q) :
    (∀ h,W.K.In h→Keeps W.M h fu) ∧ wpAt W.M Γ (call fu us) Q E c.s:=by
  have hdp:=ok.dp
  have hun:=ok.un
  rcases bite_or h with ⟨_,h⟩ | ⟨_,h⟩
  · refine nOpt_el h fun b e h=>?_
    cases biOf_eq e
    have:fu=b.val:=by cases hf with | a1 hf=>cases hf; rfl
    subst this
    exact ⟨fun h _=>keeps_bi _ _ b,bi_snd TO (ok.le (Nat.le_succ n)) S hd h G⟩
  · refine refA_el (C:=fun fu=>(∀ h,W.K.In h→Keeps W.M h fu) ∧ wpAt W.M Γ (call fu us) Q E c.s) h hf fun a h=>?_
    cases eg:T.sp a with
    | some g=>rw [eg] at h; exact ⟨fun h X=>keeps_K (TO.sp a g eg) h X,SP a g eg h (ok.le hb) S hd G⟩
    | none =>
      rw [eg] at h
      cases er:T.fn a with
      | some r =>
        rw [er] at h
        have R:=TO.fn a r er
        exact ⟨fun h X=>keeps_K R.keep h X,inline_snd S0 R h (ok.le (Nat.le_succ n)) (by exact ln [_,_,_] [] [.lt (.a (.a (.v 0) (.m 2 (.a (.v 1) (.k 1)))) (.k 40)) (.v 2)] (.lt (.a (.a (.a (.v 0) (.k 1)) (.m 2 (.v 1))) (.k 40)) (.v 2)) (.w [1,1]) zr hdp) (by exact ln [_,_,_] [] [.lt (.a (.a (.v 0) (.m 16 (.a (.v 1) (.k 1)))) (.k 320)) (.v 2)] (.lt (.a (.a (.a (.v 0) (.k 3)) (.m 16 (.v 1))) (.k 320)) (.v 2)) (.w [1,1]) zr hun) S hd G⟩
      | none =>
        rw [er] at h
        refine nOpt_el h fun cr ec h=>?_
        refine nOpt_el h fun r er h=>?_
        have C:=TO.cl a cr ec
        exact ⟨fun h X=>keeps_K C.keep h X,class_snd S0 C (TO.fn _ r er) h ok S hd G⟩
theorem st1_snd (S0:Snd W o n) (TO:TabOK W T) (ST:StOK W T b) (hb:b ≤ n) {st:Stmt} {K:KF} {Q:Flow→Shared→Prop} (h:st1 T o st c.σ K) (ok:x.Ok W Γ n) (hcc:x.cc=none) (S:St W x c) (G:GoesS W x (DenF W) c K Q):wpAt W.M Γ (exec st x.env) Q E c.s:=by
  have sp:nOpt T.st (fun g=>g st c.σ K)→wpAt W.M Γ (exec st x.env) Q E c.s:=fun h=>let ⟨g,e,h⟩:=nOpt_iff h; ST g e h (ok.le hb) hcc S G
  cases st with
  | Expr e p=>exact expr_snd S0 h ok hcc S G
  | Return e p=>exact ret_snd S0 h ok S G
  | Break p=>exact at_bind (at_standAt (at_pure (G .brk .brk c h (Le.refl c).s rfl S)))
  | Pass p=>exact at_bind (at_standAt (at_pure (Goes.next G h (Le.refl c).s S)))
  | Assign ts e p=>exact assign_snd S0 TO sp h ok hcc S G
  | AugAssign t op e2 p=>exact aug_snd S0 TO h ok S G
  | If t a b p=>exact if_snd S0 h ok hcc S G
  | While t a els p=>exact while_snd S0 h ok hcc S G
  | For t it a els p=>exact for_snd S0 TO h ok hcc S G
  | _=>exact sp h
theorem exV_snd (S0:Snd W o n) (TO:TabOK W T) (ST:StOK W T b) (hb:b ≤ n) {l:List Stmt} {K:KF}:∀ {c:Cf} {Q:Flow→Shared→Prop},exV T o l c.σ K→x.Ok W Γ n→x.cc=none→St W x c→GoesS W x (DenF W) c K Q→wpAt W.M Γ (execs l x.env) Q E c.s:=by
  induction l with
  | nil=>intro c Q h ok hcc S G; exact at_execs_nil (Goes.next G h (Le.refl c).s S)
  | cons st r ih =>
    intro c Q h ok hcc S G
    refine at_execs_cons (st1_snd S0 TO ST hb h ok hcc S fun fl f c1 h l1 df S1=>?_)
    cases fl with
    | next=>cases (df:f=.next); exact ih h ok hcc S1 (G.mono l1)
    | brk=>cases (df:f=.brk); exact G .brk .brk c1 h l1 rfl S1
    | ret v=>obtain ⟨u,rfl,d⟩:=df; exact Goes.ret G h l1 d S1
theorem step_snd (S0:Snd W o n) (TO:TabOK W T) (SP:SpOK W T b) (ST:StOK W T b) (hb:b ≤ n):Snd W (stepOps T o) (n + 1) where
  ev h _ _ _ _ ok S G:=ev_snd S0 TO h (ok.le (Nat.le_succ n)) S G
  ts h _ _ _ _ ok S G:=ts_snd S0 TO h (ok.le (Nat.le_succ n)) S G
  ex h _ _ _ _ ok hcc S G:=exV_snd S0 TO ST hb h (ok.le (Nat.le_succ n)) hcc S G
  cl h _ _ _ _ _ _ ok S hf hd G:=cl_snd S0 TO SP (Nat.le_succ_of_le hb) h ok S hf hd G
theorem ops_snd (TO:TabOK W T) (SP:SpOK W T b) (ST:StOK W T b) (k:Nat):Snd W (ops T k) (k + b):=by
  induction k with
  | zero=>exact ⟨fun h=>False.elim h,fun h=>False.elim h,fun h=>False.elim h,fun h=>False.elim h⟩
  | succ k ih =>
    have:=step_snd ih TO SP ST (b:=b) (Nat.le_add_left b k)
    rw [Nat.succ_add]
    exact this
end
end Mine
section
namespace Mine
section
variable {W:Wd} {T:Tab} {o:Ops} {x:Ac} {Γ:Ctx} {n b:Nat} {c:Cf} {E:Value→Shared→Prop}
theorem St.hide (S:St W x c):∃ J',St W x { c with ρ:=[],J:=J',σ:=⟨c.σ.sc,[],[]⟩ } ∧ ∀ c1:Cf,Sub c.F c1.F→c1.J=J'→c1.m=c.m→St W x c1→St W x { c1 with ρ:=c.ρ,J:=c.J,σ:=c.σ }:=by
  obtain ⟨P,S⟩:=S
  have hJ:∀ p ∈ P,p.1 ∉ c.F.map (·.1)→p ∈ (P.filter fun p=>decide (p.1 ∉ c.F.map (·.1))) ++ c.J:=fun p hp h=>List.mem_append_left _ (List.mem_filter.mpr ⟨hp,decide_eq_true h⟩)
  refine ⟨(P.filter fun p=>decide (p.1 ∉ c.F.map (·.1))) ++ c.J,⟨[],S.sc,S.fr,fun p hp=>S.news p ?_,rfl,.nil,List.Pairwise.nil,fun p hp q hq=>?_,fun y v kd h=>nomatch h⟩,fun c1 hF hj hm S1=>?_⟩
  · have hp:p ∈ c.F ++ ((P.filter fun p=>decide (p.1 ∉ c.F.map (·.1))) ++ c.J):=hp
    rcases List.mem_append.mp hp with h | h
    · exact List.mem_append_right _ (List.mem_append_left _ h)
    · rcases List.mem_append.mp h with h | h
      · exact List.mem_append_left _ (List.mem_filter.mp h).1
      · exact List.mem_append_right _ (List.mem_append_right _ h)
  · rcases List.mem_append.mp hq with h | h
    · exact fun e=>of_decide_eq_true (List.mem_filter.mp h).2 (e ▸ List.mem_map_of_mem hp)
    · exact S.fj p hp q h
  · obtain ⟨P1,S1⟩:=S1
    have hcJ:∀ p ∈ c.J,p ∈ c1.J:=fun p hp=>hj ▸ List.mem_append_right _ hp
    have n1:∀ p ∈ c1.F ++ c1.J,News x.h₀ x.L c1.s.heap [p]:=fun p hp q hq=>List.mem_singleton.mp hq ▸ S1.news p (List.mem_append_right _ hp)
    have at1:∀ p ∈ c1.F ++ c1.J,c1.s.heap.get? p.1=some p.2:=fun p hp=>(S1.news p (List.mem_append_right _ hp)).1
    have al:∀ p ∈ P,p.1 ∈ c.F.map (·.1)→p ∈ c.F:=fun p hp h=>by
      obtain ⟨q,hq,e⟩:=List.mem_map.mp h
      have h1:=(S.news p (List.mem_append_left _ hp)).1
      rw [← e,(S.news q (S.memF hq)).1] at h1
      rw [show p=q from Prod.ext e.symm (Option.some.inj h1).symm]
      exact hq
    refine ⟨P,⟨S.sc.1,S1.sc.2⟩,hm ▸ S1.fr,fun p hp=>?_,S.rho,All2.of S.objs.len fun i so p h1 h2=>?_,S.nodup,fun p hp q hq=>S1.fj p hp q (hcJ q hq),fun y v kd h1 h2 h3=>?_⟩
    · rcases List.mem_append.mp hp with h | h
      · by_cases e:p.1 ∈ c.F.map (·.1)
        · exact S1.news p (S1.memF (hF p (al p h e)))
        · exact S1.news p (List.mem_append_right _ (List.mem_append_right _ (hj ▸ hJ p h e)))
      · exact S1.news p (List.mem_append_right _ ((List.mem_append.mp h).elim (fun h=>List.mem_append_left _ h) fun h=>List.mem_append_right _ (hcJ p h)))
    · obtain ⟨k1,k2,k3⟩:=S.objs.both h1 h2
      have hp:=List.mem_of_getElem? h2
      refine ⟨k1.mono hF fun _ _ e=>e,fun q hq e=>?_,k3⟩
      by_cases e2:p.1 ∈ c.F.map (·.1)
      · have hpF:=al p hp e2
        have h3:=at1 q (List.mem_append_left _ hq)
        rw [e,at1 p (List.mem_append_left _ (hF p hpF))] at h3
        rw [← Option.some.inj h3]
        exact k2 p hpF rfl
      · exact absurd e (S1.fj q hq p (hj ▸ hJ p hp e2))
    · obtain ⟨u,k1,k2⟩:=S.loc y v kd h1 h2 h3
      refine ⟨u,?_,k2.mono hF fun _ _ e=>e⟩
      rw [show ({ c1 with ρ:=c.ρ,J:=c.J,σ:=c.σ }:Cf).m=c.m from hm]
      exact k1.mono hF fun _ h=>h
theorem isD_eq {v:SV} (h:isD v=true):∃ d,v=.d d:=by
  unfold isD at h
  cases e:toDat1 v with
  | some d=>exact ⟨d,toDat1_eq e⟩
  | none=>rw [e] at h; cases h
theorem pure_cl (S0:Snd W o n) {f:SV} {fu:Value} {args:List SV} {us:List Value} {k:SV→Prop} {K:KV} {Q:Value→Shared→Prop} (h:o.cl f args ⟨c.σ.sc,[],[]⟩ fun v _=>isD v=true ∧ k v) (hf:∀ ρ,Den W.K c.F ρ f fu) (ha:args.all isD=true) (hd:DL W c args us) (ok:x.Ok W Γ n) (S:St W x c) (hk:∀ v,k v→K v c.σ) (G:Goes W x (DV W) c K Q) :
    wpAt W.M Γ (call fu us) Q E c.s:=by
  obtain ⟨J',S1,back⟩:=S.hide
  refine (S0.cl (c:={ c with ρ:=[],J:=J',σ:=⟨c.σ.sc,[],[]⟩ }) h ok S1 (hf _) (hd.sub ha fun v u hv d=>?_) fun v u c1 h1 l1 d1 S2=>?_).2
  · obtain ⟨y,rfl⟩:=isD_eq hv
    exact .a1 (.d (den_d d))
  · obtain ⟨y,rfl⟩:=isD_eq h1.1
    exact G _ u { c1 with ρ:=c.ρ,J:=c.J,σ:=c.σ } (hk _ h1.2) ⟨fun _ _ e=>e,l1.sub,rfl,l1.mm⟩ (.a1 (.d (den_d d1))) (back c1 l1.sub l1.jj l1.mm S2)
theorem fz1_snd (S:St W x c) {args:List SV} {us:List Value} (hd:DL W c args us):∃ F',Sub c.F F' ∧ DL W { c with F:=F' } (fz1 c.σ args).1 us ∧ (fz1 c.σ args).2.sc=c.σ.sc ∧ St W x { c with F:=F',σ:=(fz1 c.σ args).2 }:=by
  cases hd with
  | nil=>exact ⟨c.F,fun _ h=>h,.nil,rfl,S⟩
  | @cons v u r us hv hr =>
    have st:∃ F',Sub c.F F' ∧ DL W { c with F:=F' } (v :: r) (u :: us) ∧ c.σ.sc=c.σ.sc ∧ St W x { c with F:=F',σ:=c.σ }:=⟨c.F,fun _ h=>h,.cons hv hr,rfl,S⟩
    show ∃ F',Sub c.F F' ∧ DL W { c with F:=F' } (@Option.rec Nat (fun _=>List SV × Sy) (v :: r,c.σ) (fun i=>@Option.rec SV (fun _=>List SV × Sy) (v :: r,c.σ) (fun w=>(w :: r,frzS i w (c.σ.put i .gone))) (c.σ.hp[i]?.bind soLit)) (objI v)).1 (u :: us) ∧ (@Option.rec Nat (fun _=>List SV × Sy) (v :: r,c.σ) (fun i=>@Option.rec SV (fun _=>List SV × Sy) (v :: r,c.σ) (fun w=>(w :: r,frzS i w (c.σ.put i .gone))) (c.σ.hp[i]?.bind soLit)) (objI v)).2.sc=c.σ.sc ∧ St W x { c with F:=F',σ:=(@Option.rec Nat (fun _=>List SV × Sy) (v :: r,c.σ) (fun i=>@Option.rec SV (fun _=>List SV × Sy) (v :: r,c.σ) (fun w=>(w :: r,frzS i w (c.σ.put i .gone))) (c.σ.hp[i]?.bind soLit)) (objI v)).2 }
    cases eo:objI v with
    | none=>exact st
    | some i =>
      cases eb:c.σ.hp[i]?.bind soLit with
      | none=>dsimp only; rw [eb]; exact st
      | some w =>
        dsimp only
        rw [eb]
        obtain ⟨so,e1,e2⟩:=Option.bind_eq_some_iff.mp eb
        obtain ⟨a,ob,h1,h2,h3⟩:=S.frz e1 e2
        cases objI_eq eo
        obtain ⟨a',rfl,hr1⟩:=den_obj hv
        rw [hr1] at h1
        cases h1
        exact ⟨_,Sub.snoc _ _,.cons h2 (hr.imp fun _ _=>Den.mono (Sub.snoc _ _) fun _ _ e=>e),rfl,h3⟩
theorem spA_snd (S0:Snd W o n) {a:Addr} {f:Scope→List SV→(SV→Prop)→Prop} (H:∀ {sc args k},f sc args k→args.all isD=true ∧ o.cl (.ref a) args ⟨sc,[],[]⟩ fun v _=>isD v=true ∧ k v) {args:List SV} {K:KV} (h:spA f args c.σ K) {Q:Value→Shared→Prop} {us:List Value} (ok:x.Ok W Γ n) (S:St W x c) (hd:DL W c args us) (G:Goes W x (DV W) c K Q) :
    wpAt W.M Γ (call (.ref a) us) Q E c.s:=by
  refine byC fun zC zk=>?_
  obtain ⟨F',hF,hd',e,S'⟩:=fz1_snd S hd
  obtain ⟨h1,h2⟩:=H h
  refine zk ?_
  exact pure_cl (c:={ c with F:=F',σ:=(fz1 c.σ args).2 }) S0 (by rw [show ({ c with F:=F',σ:=(fz1 c.σ args).2 }:Cf).σ.sc=c.σ.sc from e]; exact h2) (fun _=>.a1 (.ref a)) h1 hd' ok S' (fun v hv=>hv) (G.mono ⟨fun _ _ e=>e,hF,rfl,rfl⟩)
theorem lookN_c {α:Type} {a:Nat} {p:Nat × α} {r:List (Nat × α)}:lookN a (p :: r)=@Bool.rec (fun _=>Option α) (lookN a r) (some p.2) (Nat.beq a p.1):=rfl
theorem lookN_mem {α:Type} {a:Nat} {v:α} {l:List (Nat × α)} (h:lookN a l=some v):(a,v) ∈ l:=by
  induction l with
  | nil=>cases h
  | cons p r ih =>
    obtain ⟨b,w⟩:=p
    rw [lookN_c] at h
    cases e:Nat.beq a b with
    | true =>
      rw [e] at h
      cases h
      rw [Nat.eq_of_beq_eq_true e]
      exact List.mem_cons_self ..
    | false=>rw [e] at h; exact List.mem_cons_of_mem _ (ih h)
end
end Mine
end
section
open PySem PySem.W PyProof.Rows PySem.Calls
namespace Mine
noncomputable def fnObj (r:FnR) (o:Option Obj):Option Obj:=o.bind fun ob=>match ob.data with
  | .func f=>some ⟨ob.cls,ob.dict,.func (fnOf r.name r.qual r.params r.body r.scope f.defaults f.kwdefaults f.doc f.pyModule f.annotations f.code f.closureTuple),ob.slots⟩
  | _=>none
theorem fnObj_of {r:FnR} {o:Option Obj} (e:o=fnObj r o) (h:o.isSome=true):∃ (f:FuncData) (oc:Value) (od:Option Addr) (osl:Array (Option Value)),o=some ⟨oc,od,.func (fnOf r.name r.qual r.params r.body r.scope f.defaults f.kwdefaults f.doc f.pyModule f.annotations f.code f.closureTuple),osl⟩:=by
  cases o with
  | none=>cases h
  | some ob =>
    obtain ⟨c,d,da,sl⟩:=ob
    cases da with
    | func f=>exact ⟨f,c,d,sl,e⟩
    | _=>cases e
noncomputable def noneV:Value→Bool
  | .none=>true
  | _=>false
noncomputable def fnChk (K:Frag) (p:Nat × FnR):Bool:=(match K.lookup p.1 with | some ⟨_,_,.func f,_⟩=>codeIn K f.code p.2.qual && noneV f.defaults | _=>false) &&
  (!p.2.scope.isCoroutine && (!p.2.scope.isGenerator && ((match p.2.scope.kind with | .function=>true | _=>false) && ((argNames p.2.params).all (fun y=>match p.2.scope.names.lookup y with | some .local=>true | some .cell=>true | _=>false) && (decide ((cellsFrom 0 p.2.scope.names []).map (·.1)).Nodup && (decide (argNames p.2.params).Nodup && keepIn K (.ref p.1)))))))
noncomputable def fnB (r:FnR) (vs:List Value) (f:FuncData):Sem (List (Str × Value)):=bindArgs (fnOf r.name r.qual r.params r.body r.scope .none f.kwdefaults f.doc f.pyModule f.annotations f.code f.closureTuple) ⟨vs,[]⟩
noncomputable def ofAr (n:Nat):List (Nat × FnR):=fnL.filter fun p=>Nat.beq (argNames p.2.params).length n
theorem ar_all:fnL.all (fun p=>Nat.ble (argNames p.2.params).length 5)=true:=by kernel_rfl
theorem b1 (f:FuncData) (a:Value):(ofAr 1).map (fun p=>fnB p.2 [a] f)=(ofAr 1).map fun p=>pure ((argNames p.2.params).zip [a]):=by kernel_rfl
theorem b2 (f:FuncData) (a b:Value):(ofAr 2).map (fun p=>fnB p.2 [a,b] f)=(ofAr 2).map fun p=>pure ((argNames p.2.params).zip [a,b]):=by kernel_rfl
theorem b3 (f:FuncData) (a b c:Value):(ofAr 3).map (fun p=>fnB p.2 [a,b,c] f)=(ofAr 3).map fun p=>pure ((argNames p.2.params).zip [a,b,c]):=by kernel_rfl
theorem b4 (f:FuncData) (a b c d:Value):(ofAr 4).map (fun p=>fnB p.2 [a,b,c,d] f)=(ofAr 4).map fun p=>pure ((argNames p.2.params).zip [a,b,c,d]):=by kernel_rfl
theorem b5 (f:FuncData) (a b c d e:Value):(ofAr 5).map (fun p=>fnB p.2 [a,b,c,d,e] f)=(ofAr 5).map fun p=>pure ((argNames p.2.params).zip [a,b,c,d,e]):=by kernel_rfl
theorem b0:ofAr 0=[]:=by kernel_rfl
theorem bind_all {r:FnR} {a:Addr} (h:(a,r) ∈ fnL) (f:FuncData) (vs:List Value) (hl:vs.length=(argNames r.params).length):fnB r vs f=pure ((argNames r.params).zip vs):=by
  have h5:(argNames r.params).length ≤ 5:=Nat.le_of_ble_eq_true (List.all_eq_true.mp ar_all _ h)
  have hm:∀ n,(argNames r.params).length=n→(a,r) ∈ ofAr n:=fun n e=>List.mem_filter.mpr ⟨h,by rw [e]; exact Nat.beq_refl n⟩
  rcases vs with _ | ⟨x,_ | ⟨y,_ | ⟨z,_ | ⟨u,_ | ⟨v,_ | ⟨v',vs⟩⟩⟩⟩⟩⟩
  · have:=hm 0 hl.symm; rw [b0] at this; cases this
  · exact List.map_inj_left.mp (b1 f x) _ (hm 1 hl.symm)
  · exact List.map_inj_left.mp (b2 f x y) _ (hm 2 hl.symm)
  · exact List.map_inj_left.mp (b3 f x y z) _ (hm 3 hl.symm)
  · exact List.map_inj_left.mp (b4 f x y z u) _ (hm 4 hl.symm)
  · exact List.map_inj_left.mp (b5 f x y z u v) _ (hm 5 hl.symm)
  · rw [← hl] at h5
    exact absurd (Nat.le_trans (Nat.le_add_left 6 vs.length) h5) (by decide)
noncomputable def clChk (K:Frag) (p:Nat × ClR):Bool:=plainGet K p.1 ⟨#[]⟩ && (hasDictIn K p.1 && (plainOver K p.1 && (makesIn K p.1 && (keepIn K (.ref p.1) && (findIn K (.ref p.1) "__setattr__" == some (some (.builtin "object.__setattr__")) &&
  (p.2.fields.all (fun y=>findIn K (.ref p.1) y == some none) && (p.2.meths.all (fun q=>findIn K (.ref p.1) q.1 == some (some (.ref q.2)) && isFn K (.ref q.2)) && (findIn K (.ref p.1) "__init__" == some (some (.ref p.2.init)) && isFn K (.ref p.2.init)))))))))
noncomputable def refU (v:SV):Option (Option Value):=(refA v).map fun a=>some (.ref a)
noncomputable def tokI (u:Option (Option Value)):Nat:=match u with
  | some (some (.int _ t))=>t
  | some (some (.bytes _ t))=>t
  | _=>0
noncomputable def datU (v:SV) (u:Option (Option Value)):Option (Option Value):=match v with
  | .d (.int z)=>some (some (.int z (tokI u)))
  | .d (.bytes b)=>some (some (.bytes b (tokI u)))
  | _=>none
noncomputable def awI (P:Params) (x:Str) (t:Nat) (a:Addr):DictEntry:=⟨PyData.keyHash P x,.str x t,.ref a⟩
noncomputable def awE (P:Params):List DictEntry:=[awI P "wait_server_hello" 454 180,awI P "wait_extensions" 456 181,awI P "wait_server_finished" 458 182,awI P "wait_client_hello" 460 183,awI P "wait_client_finished" 462 184]
noncomputable def ktT (x:Str) (t:Nat) (i:Int) (u:Nat):Option Obj:=some ⟨.type "tuple",none,.seq #[.str x t,.int i u],#[]⟩
noncomputable abbrev excBm:List Value:=[.type "Exception",.type "BaseException",.type "object"]
noncomputable abbrev q38:Obj:=excClassObj "QuicError" "QuicError" 38 37 [.type "Exception"] excBm true [] [] false none none (some (.ref 22)) none (some (.str "QuicError" 204)) (some (.str "QuicError" 212)) (some (.bool true)) "Exception.__new__"
structure KOK (P:Params) (K:Frag):Prop where
  fnE:fnL.map (fun q=>K.lookup q.1)=fnL.map (fun q=>fnObj q.2 (K.lookup q.1))
  fnC:fnL.all (fnChk K)=true
  glR:glL.map (fun q=>nsIn K mainGlobals q.1)=glL.map fun q=>refU q.2
  glD:(glD ++ glB).map (fun q=>nsIn K mainGlobals q.1)=(Mine.glD ++ glB).map fun q=>datU q.2 (nsIn K mainGlobals q.1)
  bl:blL.map (fun q=>nsIn K mainGlobals q.1)=blL.map fun _=>some none
  cl:clL.all (clChk K)=true
  aw:K.lookup 179=some ⟨.type "dict",none,.dict ⟨awE P⟩ 5,#[]⟩
  k0:K.lookup 180=ktT "initial" 455 2 293
  k1:K.lookup 181=ktT "handshake" 457 8 295
  k2:K.lookup 182=ktT "handshake" 459 20 297
  k3:K.lookup 183=ktT "initial" 461 1 291
  k4:K.lookup 184=ktT "handshake" 463 20 297
  q:K.lookup 38=some q38
  qn:nsOkIn K 37=true
  qi:nsIn K 37 "__init__"=some (some (.ref 35))
  qf:(K.lookup 35).map (·.cls)=some (.type "function")
  qm:findCls K (.type "Exception") (.type "type") "__init__"=some (.val (.builtin "Exception.__init__"))
  qs:findIn K (.ref 38) "__setattr__"=some (some (.builtin "object.__setattr__"))
  q1:findIn K (.ref 38) "code"=some none
  q2:findIn K (.ref 38) "frame_type"=some none
  q3:findIn K (.ref 38) "text"=some none
  ga:findIn K (.ref 38) "__getattribute__"=some (some (.builtin "BaseException.__getattribute__"))
  gg:findIn K (.ref 38) "__getattr__"=some none
  hd:hasDictIn K 38=true
  qg:nsIn K mainGlobals "QuicError"=some (some (.ref 38))
  qk:keepIn K (.ref 38)=true
theorem aw_rel {P:Params} {K:Frag} (H:KOK P K):All2 (fun (p:Str × (Str × Int)) (e:DictEntry)=>(∃ t,e.key=.str p.1 t) ∧ ∀ F ρ,Den K F ρ (.kt p.2.1 p.2.2) e.val) awL (awE P):=
  .cons ⟨⟨_,rfl⟩,fun _ _=>.a1 (.kt H.k0)⟩ (.cons ⟨⟨_,rfl⟩,fun _ _=>.a1 (.kt H.k1)⟩ (.cons ⟨⟨_,rfl⟩,fun _ _=>.a1 (.kt H.k2)⟩ (.cons ⟨⟨_,rfl⟩,fun _ _=>.a1 (.kt H.k3)⟩ (.cons ⟨⟨_,rfl⟩,fun _ _=>.a1 (.kt H.k4)⟩ .nil))))
theorem aw_find {K:Frag} {y:Str} {l:List (Str × (Str × Int))} {es:List DictEntry} (h:All2 (fun (p:Str × (Str × Int)) (e:DictEntry)=>(∃ t,e.key=.str p.1 t) ∧ ∀ F ρ,Den K F ρ (.kt p.2.1 p.2.2) e.val) l es) :
    @Option.rec (Str × Int) (fun _=>Prop) (es.find? (fun e=>e.key.isStr y)=none) (fun q=>∃ e,es.find? (fun e=>e.key.isStr y)=some e ∧ ∀ F ρ,Den K F ρ (.kt q.1 q.2) e.val) (lookS y l):=by
  induction h with
  | nil=>exact rfl
  | @cons p e l m hp hr ih =>
    obtain ⟨⟨t,hk⟩,hv⟩:=hp
    rw [List.find?_cons,isStr_eq hk,lookS_c]
    cases eqS y p.1 with
    | true=>exact ⟨e,rfl,hv⟩
    | false=>exact ih
theorem aw_all (P:Params):(Array.all ⟨awE P⟩ fun e=>isExactStrKey e.key)=true:=by kernel_rfl
theorem bl_boot:blL.map (fun q=>bootBuiltins q.1)=blL.map fun q=>(biOf q.2).map Bn.val:=by kernel_rfl
theorem bl_some:blL.all (fun q=>(biOf q.2).isSome && !eqS q.1 "__name__")=true:=by kernel_rfl
theorem dat_of {K:Frag} {v:SV} {u:Option (Option Value)} (hv:(∃ z,v=.d (.int z)) ∨ ∃ b,v=.d (.bytes b)) (h:u=datU v u):∃ x,u=some (some x) ∧ ∀ F ρ,Den K F ρ v x:=by
  rcases hv with ⟨z,rfl⟩ | ⟨b,rfl⟩
  · exact ⟨_,h,fun F ρ=>.a1 (.d (.int _ _))⟩
  · exact ⟨_,h,fun F ρ=>.a1 (.d (.bytes _ _))⟩
theorem glD_kind {p:Str × SV} (h:p ∈ glD ++ glB):(∃ z,p.2=.d (.int z)) ∨ ∃ b,p.2=.d (.bytes b):=by
  rcases List.mem_append.mp h with h | h
  · obtain ⟨q,_,rfl⟩:=List.mem_map.mp h; exact .inl ⟨_,rfl⟩
  · rcases List.mem_cons.mp h with rfl | h
    · exact .inr ⟨_,rfl⟩
    · obtain rfl:=List.mem_singleton.mp h; exact .inr ⟨_,rfl⟩
theorem fn_ok {W:Wd} (H:KOK W.w.params W.K) {a:Addr} {r:FnR} (h:(a,r) ∈ fnL):FnOK W a r:=by
  have e1:=List.map_inj_left.mp H.fnE _ h
  have e2:=List.all_eq_true.mp H.fnC _ h
  obtain ⟨c0,e2⟩:=Bool.and_eq_true_iff.mp e2
  obtain ⟨c1,e2⟩:=Bool.and_eq_true_iff.mp e2
  obtain ⟨c2,e2⟩:=Bool.and_eq_true_iff.mp e2
  obtain ⟨c3,e2⟩:=Bool.and_eq_true_iff.mp e2
  obtain ⟨c4,e2⟩:=Bool.and_eq_true_iff.mp e2
  obtain ⟨c5,e2⟩:=Bool.and_eq_true_iff.mp e2
  obtain ⟨c6,c7⟩:=Bool.and_eq_true_iff.mp e2
  have e1:W.K.lookup a=fnObj r (W.K.lookup a):=e1
  obtain ⟨f,oc,od,osl,ho⟩:=fnObj_of e1 (by
    cases e:W.K.lookup a with
    | none=>rw [show W.K.lookup (a,r).1=none from e] at c0; cases c0
    | some _=>rfl)
  rw [show W.K.lookup (a,r).1=_ from ho] at c0
  obtain ⟨k1,k2⟩:=Bool.and_eq_true_iff.mp c0
  have k2:noneV f.defaults=true:=k2
  have ed:f.defaults=.none:=by
    revert k2
    cases f.defaults <;> intro k2 <;> first | rfl | cases k2
  rw [ed] at ho
  refine ⟨⟨_,_,_,_,_,_,_,_,_,_,ho,k1,fun vs hl=>bind_all h f vs hl⟩,(Bool.not_eq_true' _).mp c1,(Bool.not_eq_true' _).mp c2,?_,fun y hy=>?_,of_decide_eq_true c5,of_decide_eq_true c6,c7⟩
  · have c3:(match r.scope.kind with | .function=>true | _=>false)=true:=c3
    revert c3
    cases r.scope.kind <;> intro c3 <;> first | rfl | cases c3
  · have q:=List.all_eq_true.mp c4 y hy
    revert q
    show (match r.scope.names.lookup y with | some .local=>true | some .cell=>true | _=>false)=true→_
    cases r.scope.names.lookup y with
    | none=>intro q; cases q
    | some k=>cases k <;> intro q <;> first | exact .inl rfl | exact .inr rfl | cases q
theorem cl_ok {W:Wd} (H:KOK W.w.params W.K) {a:Addr} {r:ClR} (h:(a,r) ∈ clL):ClOK W a r:=by
  have e2:=List.all_eq_true.mp H.cl _ h
  obtain ⟨c1,e2⟩:=Bool.and_eq_true_iff.mp e2
  obtain ⟨c2,e2⟩:=Bool.and_eq_true_iff.mp e2
  obtain ⟨c3,e2⟩:=Bool.and_eq_true_iff.mp e2
  obtain ⟨c4,e2⟩:=Bool.and_eq_true_iff.mp e2
  obtain ⟨c5,e2⟩:=Bool.and_eq_true_iff.mp e2
  obtain ⟨c6,e2⟩:=Bool.and_eq_true_iff.mp e2
  obtain ⟨c7,e2⟩:=Bool.and_eq_true_iff.mp e2
  obtain ⟨c8,e2⟩:=Bool.and_eq_true_iff.mp e2
  obtain ⟨c9,c10⟩:=Bool.and_eq_true_iff.mp e2
  refine ⟨fun y=>c1,c2,c3,beq_iff_eq.mp c6,fun y hy=>?_,fun y f hy=>?_,c4,c5,beq_iff_eq.mp c9,c10⟩
  · obtain ⟨z,hz,e⟩:=List.any_eq_true.mp hy
    rw [eqS_iff.mp e]
    exact beq_iff_eq.mp (List.all_eq_true.mp c7 z hz)
  · obtain ⟨k1,k2⟩:=Bool.and_eq_true_iff.mp (List.all_eq_true.mp c8 _ (lookS_mem hy))
    exact ⟨beq_iff_eq.mp k1,k2⟩
theorem K_dictGet {prog:Program} {w:World} {A:Around} {E:Value→Shared→Prop} {s:Shared} {a:Addr} {o:Obj} {es:Array DictEntry} {ep:Nat} {y:Str} {t:Tok} {Q:Option Value→Shared→Prop} (ho:s.heap.get? a=some o) (hd:o.data=.dict es ep) (hall:(es.all fun e=>isExactStrKey e.key)=true)
    (h:Q ((es.toList.find? fun e=>e.key.isStr y).map (·.val)) { s with toks:=s.toks + 1 }):wpAny (model prog w) A (dictGet a (.str y t)) Q E s:=by
  unfold dictGet
  try with_reducible refine wpAny_holding ?_
  refine wpAny_bind (wpAny_pyHash_str (wpAny_bind (PyProof.Rows.KTD.kt_dictFind_strs (s:={ s with toks:=s.toks + 1 }) ho hd hall ?_)))
  have hq:Q (findBy (fun k v=>v.isStr k) es y) { s with toks:=s.toks + 1 }:=by
    have hf:findBy (fun k v=>v.isStr k) es y=(es.toList.find? fun e=>e.key.isStr y).map (·.val):=by
      obtain ⟨l⟩:=es
      simp [findBy]
    rw [hf]; exact h
  rw [findBy_of_findIdx?] at hq
  cases hi:es.findIdx? fun e=>e.key.isStr y with
  | none=>rw [hi] at hq; exact wpAny_pure hq
  | some i=>rw [hi] at hq; exact wpAny_bind (wpAny_dictEntries (s:={ s with toks:=s.toks + 1 }) ho hd (wpAny_pure hq))
theorem meets_K {prog:Program} {w:World} {a:Addr} {y:Str} {t:Tok}:MeetsIn prog w (Builtin.«dict.get» ⟨[.ref a,.str y t],[]⟩) (fun _ R s=>∃ o es ep,s.heap.get? a=some o ∧ o.data=.dict es ep ∧ (es.all fun e=>isExactStrKey e.key)=true ∧ (a == sysModules)=false ∧ R (.ok (.ret (((es.toList.find? fun e=>e.key.isStr y).map (·.val)).getD .none))) { s with toks:=s.toks + 1 }):=
  .of_wp fun A R s h=>by
    obtain ⟨o,es,ep,ho,hd,hall,hm,h⟩:=h
    show wpAny _ _ (dictGet a (.str y t) >>= _) _ _ s
    refine wpAny_bind (K_dictGet ho hd hall ?_)
    cases e:(es.toList.find? fun e=>e.key.isStr y).map (·.val) with
    | some v=>rw [e] at h; exact wpAny_pure ⟨v,rfl,h⟩
    | none =>
      rw [e] at h
      show wpAny _ _ (Builtin.Dict.missed a (.str y t) >>= _) _ _ _
      exact wpAny_bind (wpAny_missed_other hm (wpAny_pure ⟨.none,rfl,h⟩))
theorem tab_ok {W:Wd} (H:KOK W.w.params W.K) (hp:importsNone W.p=true) {sp:Addr→Option (List SV→Sy→KV→Prop)} {st:Option (Stmt→Sy→KF→Prop)} {fz:Nat→List Nat} {fg:Nat→List Str}
    {ba:Bool} (hb:ba=true→W.cb=true) (hs:∀ a g,sp a=some g→∃ r,lookN a fnL=some r):TabOK W (tab sp st fz fg ba) where
  gl:=fun y v h=>by
    have h:lookS y (glL ++ glD ++ glB)=some v:=h
    rw [List.append_assoc] at h
    rcases List.mem_append.mp (lookS_mem h) with h | h
    · have e:=List.map_inj_left.mp H.glR _ h
      obtain ⟨q,_,eq⟩:=List.mem_map.mp h
      obtain ⟨rfl,rfl⟩:=Prod.mk.inj eq
      exact ⟨_,e,fun F ρ=>.a1 (.ref _)⟩
    · exact dat_of (glD_kind h) (List.map_inj_left.mp H.glD _ h)
  bl:=fun y v _ h=>by
    have hm:=lookS_mem h
    have b:bootBuiltins y=(biOf v).map Bn.val:=List.map_inj_left.mp bl_boot _ hm
    obtain ⟨b2,b3⟩:=Bool.and_eq_true_iff.mp (List.all_eq_true.mp bl_some _ hm)
    refine ⟨List.map_inj_left.mp H.bl _ hm,fun e=>?_,?_⟩
    · exact ft ((eqS_iff.mpr e).symm.trans ((Bool.not_eq_true' _).mp b3))
    · obtain ⟨n,en⟩:=Option.isSome_iff_exists.mp (b2:(biOf v).isSome=true)
      rw [en] at b
      rw [show v=.bi n from biOf_eq en]
      exact ⟨_,b,fun F ρ=>.a1 (.bi n)⟩
  fn:=fun a r h=>fn_ok H (lookN_mem h)
  cl:=fun a r h=>cl_ok H (lookN_mem h)
  mods:=hp
  ba:=hb
  sp:=fun a g h=>by
    obtain ⟨r,e⟩:=hs a g h
    exact (fn_ok H (lookN_mem e)).keep
  aw:=fun a l h A Q E s y t X h1 h2=>by
    obtain ⟨rfl,rfl⟩:a=179 ∧ l=awL:=Prod.mk.inj (List.mem_singleton.mp (lookN_mem h))
    have ho:=X 179 _ H.aw
    refine call_meetsIn PySem.F.slot_dict_get ⟨_,ho,rfl⟩ PySem.F.entry_dict_get (PySem.F.args_dict_get_2 _ _) meets_K ⟨_,_,_,ho,rfl,aw_all _,by decide,?_⟩
    have f:=aw_find (y:=y) (aw_rel H)
    show Q (((awE W.w.params).find? _).map (·.val) |>.getD .none) _
    cases e:lookS y awL with
    | none=>rw [e] at f; rw [f]; exact h2 e _
    | some p=>rw [e] at f; obtain ⟨e1,e2,e3⟩:=f; rw [e2]; exact h1 p.1 p.2 e _ _ e3
  awM:=fun a l h A Q E s pl X q=>by
    obtain ⟨rfl,rfl⟩:a=179 ∧ l=awL:=Prod.mk.inj (List.mem_singleton.mp (lookN_mem h))
    have ho:=X 179 _ H.aw
    exact getMethod_builtin ⟨_,ho,rfl⟩ PySem.F.plainAttrs_dict PySem.F.slot_dict_get PySem.F.type_dict_get (fun b e=>by injection e with e; subst e; exact ⟨_,ho,rfl⟩) q
end Mine
end
section
open PySem PySem.W PyProof.Rows PySem.Calls Builtin Builtin.ObjectAttr
namespace Mine
noncomputable def TrO (h base:Heap) (e:Addr) (o:Obj) (a0 fl:Value):Prop:=
  ∃ vs T oT ts,h.get? e=some { o with data:=.fields vs } ∧ vs[0]?=some a0 ∧ vs[1]?=some (.ref T) ∧ base.get? T=none ∧ T ≠ e ∧ h.get? T=some oT ∧ oT.data=.fields ts ∧ ts[3]?=some fl
section
variable {M:Model} {A:Around} {E:Value→Shared→Prop} {s:Shared}
theorem note_entry {base:Heap} {env:Env} {outer:List Env} {L e:Addr} {o:Obj} {vs:Array Value} {head a0:Value} {hadNext:Bool} {Q:Unit→Shared→Prop}
    (hfr:A.frames=some (env :: outer)) (hl:s.heap.FunFrames base (env :: outer)) (hf:env.frame=some L)
    (he:s.heap.get? e=some { o with data:=.fields vs }) (hkb:base.StaysIn s.heap) (hen:base.get? e=none) (hsz:1 < vs.size) (h0:vs[0]?=some a0)
    (h:∀ h',base.StaysIn h'→h'.FunFrames base (env :: outer)→TrO h' base e o a0 (rawInt L)→s.heap.UpToSlots h'→Q () { s with heap:=h' }) :
    wpAny M A (do let a ← frameOf env; let pl ← entryPlaceOf L hadNext; let b ← EntryCells.newEntry head a .none (rawInt L) .none pl; setField (.ref e) 1 b) Q E s:=by
  have hene:e ∉ (env :: outer).filterMap (·.frame):=fun hm=>by
    obtain ⟨_,o',ho,hnf⟩:=hl.mem hm
    rw [he] at ho; cases ho; exact hnf vs rfl
  refine wpAny_bind (wpAny_frameOf_fun hfr hl hf fun h₁ hs₁=>?_)
  refine wpAny_bind (wpAny_entryPlaceOf fun pl hpl=>?_)
  unfold EntryCells.newEntry newFields
  refine wpAny_bind (wpAny_newObj_type ?_ (hpl.sizeOk5 _ _ _ _ _))
  obtain ⟨oT,hoT⟩:∃ oT:Obj,oT={ cls:=.type "traceback",dict:=none,data:=.fields ([head,.ref L,.none,rawInt L,.none] ++ (if pl.isEmpty then List.replicate 6 Value.none else pl)).toArray }:=⟨_,rfl⟩
  rw [← hoT]
  have e1:h₁.get? e=some { o with data:=.fields vs }:=(hs₁.2.1 e hene).trans he
  have b1:base.StaysIn h₁:=fun b o' hbo=>(hs₁.2.1 b fun hm=>by rw [(hl.mem hm).1] at hbo; cases hbo).trans (hkb b o' hbo)
  have e2:=Heap.get?_push_of_some oT e1
  refine wpAny_setField e2 rfl hsz ?_
  have hne:h₁.objs.size ≠ e:=Nat.ne_of_gt (Heap.lt_size e1)
  have e3:=Heap.get?_update_self (Obj.mapFields (·.setIfInBounds 1 (Value.ref h₁.objs.size))) e2 (Obj.isFreed_of_fields (Obj.data_mapFields rfl _))
  have t2:(h₁.push oT).get? h₁.objs.size=some oT:=Heap.get?_push_size h₁ (by rw [hoT]; rfl)
  have t3:=(Heap.get?_update_other (h₁.push oT) (Obj.mapFields (·.setIfInBounds 1 (Value.ref h₁.objs.size))) (Ne.symm hne)).trans t2
  have keep:∀ b o',b ≠ e→h₁.get? b=some o'→((h₁.push oT).update e (Obj.mapFields (·.setIfInBounds 1 (Value.ref h₁.objs.size)))).get? b=some o':=fun b o' hbe hb =>
    (Heap.get?_update_other _ _ (Ne.symm hbe)).trans (Heap.get?_push_of_some _ hb)
  have nr:∀ b o',s.heap.get? b=some o'→(∀ vs,o'.data ≠ .fields vs)→b ≠ e:=fun b o' hb hnf q=>by
    rw [q,he] at hb; cases hb; exact hnf vs rfl
  refine h _ (fun b o' hbo=>keep b o' (fun q=>by rw [q,hen] at hbo; cases hbo) (b1 b o' hbo)) (hl.of_keeps fun b o' hb hnf=>?_) ?_ fun b o' hb hnf=>?_
  · obtain ⟨sl,hs⟩:=hs₁.2.2 b o' hb
    exact ⟨_,keep b _ (nr b o' hb hnf) hs,rfl⟩
  · refine ⟨_,_,oT,_,e3,?_,?_,b1.fresh,hne,t3,by rw [hoT],?_⟩
    · rw [Array.getElem?_setIfInBounds_ne (by decide)]; exact h0
    · simp [hsz]
    · first | (simp; done) | (rcases hpl with rfl | ⟨_,_,_,_,_,_,_,rfl⟩ <;> simp)
  · obtain ⟨sl,hs⟩:=hs₁.2.2 b o' hb
    exact ⟨sl,keep b _ (nr b o' hb hnf) hs⟩
theorem note_first {base:Heap} {env:Env} {outer:List Env} {L e:Addr} {o:Obj} {vs:Array Value} {a0:Value} {Q:Unit→Shared→Prop}
    (hfr:A.frames=some (env :: outer)) (hl:s.heap.FunFrames base (env :: outer)) (hf:env.frame=some L)
    (he:s.heap.get? e=some { o with data:=.fields vs }) (hkb:base.StaysIn s.heap) (hen:base.get? e=none) (h1:vs[1]?=some .none) (h0:vs[0]?=some a0)
    (h:∀ h',base.StaysIn h'→h'.FunFrames base (env :: outer)→TrO h' base e o a0 (rawInt L)→s.heap.UpToSlots h'→Q () { s with heap:=h' }) :
    wpAny M A (noteFrame (.ref e) env) Q E s:=by
  unfold noteFrame
  rw [hf]
  refine wpAny_bind (wpAny_field he rfl h1 ?_)
  rw [if_neg (by decide)]
  exact note_entry hfr hl hf he hkb hen (Array.getElem?_eq_some_iff.mp h1).1 h0 h
theorem note_next {base:Heap} {env:Env} {outer:List Env} {L e:Addr} {o:Obj} {a0:Value} {Q:Unit→Shared→Prop}
    (hfr:A.frames=some (env :: outer)) (hl:s.heap.FunFrames base (env :: outer)) (hf:env.frame=some L) (ht:TrO s.heap base e o a0 .none) (hkb:base.StaysIn s.heap) (hen:base.get? e=none)
    (h:∀ h',base.StaysIn h'→h'.FunFrames base (env :: outer)→TrO h' base e o a0 (rawInt L)→s.heap.UpToSlots h'→Q () { s with heap:=h' }) :
    wpAny M A (noteFrame (.ref e) env) Q E s:=by
  refine byC fun zC zk=>?_
  obtain ⟨vs,T,oT,ts,he,h0,h1,hnT,hTe,hT,hdT,h3⟩:=ht
  refine zk ?_
  unfold noteFrame
  rw [hf]
  refine wpAny_bind (wpAny_field he rfl h1 ?_)
  rw [if_pos (show (Value.ref T != Value.none)=true from by simp)]
  refine wpAny_bind (wpAny_field hT hdT h3 ?_)
  rw [if_neg (show ¬ ((Value.none == rawInt L)=true) from by simp [rawInt])]
  refine wpAny_bind (wpAny_setField hT hdT (Array.getElem?_eq_some_iff.mp h3).1 ?_)
  have other:∀ b,b ≠ T→(s.heap.update T (Obj.mapFields (·.setIfInBounds 3 Value.none))).get? b=s.heap.get? b:=fun b hb=>Heap.get?_update_other _ _ (Ne.symm hb)
  have nr:∀ b o',s.heap.get? b=some o'→(∀ vs,o'.data ≠ .fields vs)→b ≠ T:=fun b o' hb hnf q=>by
    rw [q,hT] at hb; cases hb; exact hnf ts hdT
  refine note_entry hfr (hl.of_keeps fun b o' hb hnf=>⟨o',(other b (nr b o' hb hnf)).trans hb,rfl⟩) hf ((other e (Ne.symm hTe)).trans he)
    (fun b o' hbo=>(other b fun q=>by rw [q,hnT] at hbo; cases hbo).trans (hkb b o' hbo)) hen (Array.getElem?_eq_some_iff.mp h1).1 h0
    fun h' x1 x2 x3 x4=>h h' x1 x2 x3 fun b o' hb hnf=>x4 b o' ((other b (nr b o' hb hnf)).trans hb) hnf
theorem note_clear {base:Heap} {l:List Env} {e:Addr} {o:Obj} {a0 fl:Value} {Q:Unit→Shared→Prop}
    (hkb:base.StaysIn s.heap) (hl:s.heap.FunFrames base l) (ht:TrO s.heap base e o a0 fl)
    (h:∀ h',base.StaysIn h'→h'.FunFrames base l→TrO h' base e o a0 .none→s.heap.UpToSlots h'→Q () { s with heap:=h' }) :
    wpAny M A (setFlight (.ref e) none) Q E s:=by
  refine byC fun zC zk=>?_
  obtain ⟨vs,T,oT,ts,he,h0,h1,hnT,hTe,hT,hdT,h3⟩:=ht
  refine zk ?_
  have hsz3:3 < ts.size:=(Array.getElem?_eq_some_iff.mp h3).1
  have other:∀ b,b ≠ T→(s.heap.update T (Obj.mapFields (·.setIfInBounds 3 ((none:Option Addr).elim Value.none fun f=>rawInt f)))).get? b=s.heap.get? b:=
    fun b hb=>Heap.get?_update_other _ _ (Ne.symm hb)
  have nr:∀ b o',s.heap.get? b=some o'→(∀ vs,o'.data ≠ .fields vs)→b ≠ T:=fun b o' hb hnf q=>by
    rw [q,hT] at hb; cases hb; exact hnf ts hdT
  unfold setFlight
  refine wpAny_bind (wpAny_field he rfl h1 ?_)
  rw [if_pos (show (Value.ref T != Value.none)=true from by simp)]
  refine wpAny_setField hT hdT hsz3 (h _ (fun b o' hbo=>(other b fun q=>by rw [q,hnT] at hbo; cases hbo).trans (hkb b o' hbo))
    (hl.of_keeps fun b o' hb hnf=>⟨o',(other b (nr b o' hb hnf)).trans hb,rfl⟩) ?_ fun b o' hb hnf=>⟨o'.slots,(other b (nr b o' hb hnf)).trans hb⟩)
  exact ⟨vs,T,_,_,(other e (Ne.symm hTe)).trans he,h0,h1,hnT,hTe,Heap.get?_update_self _ hT (Obj.isFreed_of_fields (Obj.data_mapFields hdT _)),Obj.data_mapFields hdT _,by simp [hsz3]⟩
end
theorem ns_of {K:Frag} {h:Heap} {N:Addr} {m:Str→Option Value} {n:Str} {v:Value} (X:K.In h) (G:h.Ns N m) (e:nsIn K N n=some (some v)):m n=some v:=by
  refine byC fun zC zk=>?_
  obtain ⟨o,es,ep,ho',hd',_,hf⟩:=G
  refine zk ?_
  delta nsIn at e
  cases q:K.lookup N with
  | none=>rw [q] at e; cases e
  | some o' =>
    have:=X _ _ q
    rw [ho'] at this
    cases this
    obtain ⟨c,d,dt,sl⟩:=o
    cases hd'
    rw [q] at e
    dsimp only at e
    rw [← hf]
    unfold nsFind findBy
    rw [← Array.find?_toList]
    cases he:es.toList.find? fun e=>e.key.isStr n with
    | some e'=>rw [he] at e; exact Option.some.inj e
    | none=>rw [he] at e; exact absurd e (by dsimp only; by_cases hc:(es.toList.any fun x=>x.refKey)=true <;> simp [hc])
theorem quic_ns {K:Frag} {P:Params} {h:Heap} (X:K.In h) (H:KOK P K):∃ m,h.Ns 37 m ∧ m "__init__"=some (.ref 35):=by
  have hN:=Heap.Ns.of_isNs (isNs_of_in X H.qn)
  exact ⟨_,hN,ns_of X hN H.qi⟩
noncomputable abbrev eObj (d:Option Addr) (vs:Array Value):Obj:={ cls:=.ref 38,dict:=d,data:=.fields vs }
noncomputable abbrev eVs (t:Addr):Array Value:=#[.ref t,.none,.none,.none,.bool false,.none]
section
variable {prog:Program} {K:Frag} {P:Params} {w:World} {A:Around} {E:Value→Shared→Prop} {s:Shared} {h₀:Heap} {L:Addr} {m:Str→Option Value} {T:List (Addr × Obj)} {Q:Value→Shared→Prop}
theorem quic_make {args:List Value} (F:Fr h₀ L s.heap m) (X:K.In h₀) (H:KOK P K) (N:News h₀ L s.heap T)
    (h:∀ e t h',Fr h₀ L h' m→News h₀ L h' ((e,eObj none (eVs t)) :: (t,tupObj args 0) :: T)→(∀ p ∈ T,p.1 ≠ e)→(∀ p ∈ T,p.1 ≠ t)→e ≠ t →
      wpAny (model prog w) (A.under (.builtin "type.__call__" ⟨.ref 38 :: args,[]⟩)) (call (.ref 35) (.ref e :: args)) (fun r s'=>r=.none ∧ Q (.ref e) s') E { s with heap:=h' })
    (hz:args.length ≤ sizeLine:=by size_fits):wpAny (model prog w) A (call (.ref 38) args) Q E s:=by
  have hC:=X.keeps F.keep _ _ H.q
  refine byC fun zC zk=>?_
  obtain ⟨mN,hN,hm⟩:=quic_ns (X.keeps F.keep) H
  obtain ⟨oI,hI,hIc⟩:=Option.map_eq_some_iff.mp H.qf
  obtain ⟨hh,g,d,tk,os⟩:=s
  refine zk ?_
  refine wpAny_call_exc_init PySem.F.excBase_Exception hC hN hm ((X.keeps F.keep) _ _ hI) hIc (fun h' e x=>?_) hz
  refine byC fun zC zk=>?_
  obtain ⟨t,he,htn,ht⟩:=x.there
  refine zk ?_
  have fresh:∀ {b},hh.get? b=none→b ≠ L ∧ h₀.get? b=none:=fun {b} hb=>by
    refine ⟨fun q=>?_,?_⟩
    · refine byC fun zC zk=>?_
      obtain ⟨o,es,ep,ho,_⟩:=F.ns
      refine zk ?_
      dsimp only at ho
      rw [q,ho] at hb; cases hb
    · cases q:h₀.get? b with
      | none=>rfl
      | some o=>have:=F.keep b o q; dsimp only at this; rw [hb] at this; cases this
  have ne:∀ {b},hh.get? b=none→∀ p ∈ T,p.1 ≠ b:=fun {b} hb p hp q=>by
    have:=(N p hp).1
    dsimp only at this
    rw [q,hb] at this; cases this
  refine h e t h' (F.keeps x.keeps) (fun p hp=>?_) (ne x.new) (ne htn) (fun q=>by rw [q,ht] at he; cases he)
  rcases List.mem_cons.mp hp with rfl | hp
  · exact ⟨he,fresh x.new⟩
  rcases List.mem_cons.mp hp with rfl | hp
  · exact ⟨ht,fresh htn⟩
  · exact ⟨x.keeps _ _ (N p hp).1,(N p hp).2⟩
theorem exc_nsSet {d:Addr} {es es':List DictEntry} {n n':Nat} {name:Str} {tk:Tok} {v:Value} {R:Fin→Shared→Prop} (D:s.heap.get? d=some (dictOf es n)) (hr:es.any (·.refKey)=false)
    (e1:putL name (PyData.keyHash w.params name) (.str name s.toks) v es=es') (e2:putN name es n=n') (hz:es'.length ≤ 1000)
    (h:R (.done (.ret .none)) { s with heap:=s.heap.update d (Obj.putName name (PyData.keyHash w.params name) (.str name s.toks) v),toks:=s.toks + 1 }) :
    wpAny (model prog w) A (storeInDict d (.str name tk) name v) R E s:=by
  unfold storeInDict newKeyGuard
  refine wpAny_bind (wpAny_pure (wpAny_bind ?_))
  unfold nsSet
  refine wpAny_bind (wpAny_bind (wpAny_askSetting (wpAny_pure (wpAny_bind (wpAny_mkText (wpAny_bind (wpAny_loadPart D ?_)))))))
  dsimp only
  have c:(!es.toArray.any (·.key.isStr name) && es.toArray.any (·.refKey))=false:=by
    rw [← Array.any_toList,← Array.any_toList]
    rw [show (es.toArray.toList.any (·.refKey))=false from hr,Bool.and_false]
  rw [aRefKeyMayBeTheName_at,c]
  refine wpAny_updatePart D ?_
  have D':=Heap.get?_update_self (Obj.putName name (PyData.keyHash w.params name) (.str name s.toks) v) D (by rw [putName_dict]; rfl)
  rw [putName_dict,e1,e2] at D'
  refine wpAny_bind (wpAny_lookBehind D' (pastItsLine_dict (by rw [List.size_toArray,sizeLine_eq]; exact ln [_] [] [.le (.v 0) (.k 1000)] (.le (.v 0) (.a (.k 16777216) (.k 1))) (.w [1,1]) zr hz)) ?_)
  exact wpAny_pure h
end
section
variable {prog:Program} {w:World} {A:Around} {E:Value→Shared→Prop} {s:Shared} {h₀:Heap} {L:Addr} {m:Str→Option Value} {T:List (Addr × Obj)} {K:Frag} {x C:Addr} {name:Str} {v:Value} {cd:ClassData}
theorem exc_osa {ox:Obj} {od:Option Obj} {tk:Tok} {R:Result→Shared→Prop} (X:K.In s.heap) (I:W.InstAt s.heap x ox C od) (hc:clsIn K C=some cd) (hm:cd.mro=.ref C :: excBm) (ha:findIn K (.ref C) name=some none)
    (h:wpAny (model prog w) A.in1 (storeInOwnDict (.ref x) (.ref C) (.str name tk) name v false) (fun fin s'=>match fin with | .done f=>R (.ok f) s' | .again c'=>c'.quiet=true ∧ codeAny (model prog w) A c' R s') (fun e s'=>R (.error e) s') s) :
    codeAny (model prog w) A (.call (.builtin "object.__setattr__") ⟨[.ref x,.str name tk,v],[]⟩) R s:=by
  have SF:=PySem.F.store_object
  have hl:Looks (model prog w) s.heap (mroOf (.ref C)) cd.mro:=(looks_clsIn X hc).andThen .now
  have sub:Looks (model prog w) s.heap (isInstance (.ref x) (.type "object")) true:=I.type.andThen (looks_mroIn X (by unfold mroIn; rw [hc,Option.bind_some,hm]; rfl))
  refine codeAny_call_builtin SF.slot.plain SF.entry (@check_slot (model prog w) _ _ s "object.__setattr__" "object" "__setattr__" (.ref x) [.str name tk,v] [] _ SF.kind SF.split sub (SF.args (.ref x) (.str name tk) v) ?_)
  rw [osa_eq,refuse_eq]
  refine wpAny_bind (wpAny_bind (I.type.here (wpAny_bind (hl.here ?_))))
  rw [hm,refuseLoop_ref,PySem.F.store_Exception.passes]
  refine wpAny_pure (wpAny_bind (I.type.here (wpAny_bind ((looks_findIn X ha).here (wpAny_bind ((Looks.now (a:=none):Looks (model prog w) s.heap (storeTaker? none) none).here ?_))))))
  exact h
theorem exc_store0 {vs:Array Value} {tk:Tok} {R:Result→Shared→Prop} (F:Fr h₀ L s.heap m) (X:K.In h₀) (N:News h₀ L s.heap ((x,({ cls:=.ref C,dict:=none,data:=.fields vs }:Obj)) :: T)) (off:∀ p ∈ T,p.1 ≠ x)
    (hc:clsIn K C=some cd) (hm:cd.mro=.ref C :: excBm) (hd:cd.hasDict=true) (ha:findIn K (.ref C) name=some none)
    (h:∀ d h',Fr h₀ L h' m→News h₀ L h' ((x,({ cls:=.ref C,dict:=some d,data:=.fields vs }:Obj)) :: (d,dictOf [⟨PyData.keyHash w.params name,.str name s.toks,v⟩] 1) :: T)→x ≠ d→(∀ p ∈ T,p.1 ≠ d)→R (.ok (.ret .none)) { s with heap:=h',toks:=s.toks + 1 }) :
    codeAny (model prog w) A (.call (.builtin "object.__setattr__") ⟨[.ref x,.str name tk,v],[]⟩) R s:=by
  have X':=X.keeps F.keep
  have hx:=(N _ (.head _)).1
  have I:W.InstAt s.heap x { cls:=.ref C,dict:=none,data:=.fields vs } C none:=⟨hx,rfl,rfl,trivial⟩
  refine exc_osa X' I hc hm ha ?_
  refine wpAny_bind (wpAny_pure (wpAny_bind (wpAny_bind (wpAny_loadPart hx (wpAny_bind ((looks_clsIn X' hc).here ?_))))))
  rw [hd]
  show wpAny _ _ (alloc emptyDict >>= fun d=>(update x fun o=>{ o with dict:=some d }) >>= fun _=>dictMade (.ref C) x d) _ _ _
  have F1:=F.push emptyDict
  have N1:=N.push F emptyDict
  have hne:x ≠ s.heap.objs.size:=Nat.ne_of_lt (Heap.lt_size hx)
  have offd:∀ p ∈ T,p.1 ≠ s.heap.objs.size:=fun p hp=>Nat.ne_of_lt (Heap.lt_size (N p (.tail _ hp)).1)
  obtain ⟨F2,N2⟩:=news_upd (pre:=[(s.heap.objs.size,emptyDict)]) (post:=T) (f:=fun o=>{ o with dict:=some s.heap.objs.size }) (o':={ cls:=.ref C,dict:=some s.heap.objs.size,data:=.fields vs }) F1 N1 (fun p hp=>by rw [List.mem_singleton.mp hp]; exact Ne.symm hne) off rfl rfl
  refine wpAny_bind (wpAny_alloc (wpAny_bind (wpAny_update (N1 _ (.tail _ (.head _))).1 ?_)))
  refine wpAny_pure ?_
  obtain ⟨F3,N3⟩:=news_upd (pre:=[]) (post:=(x,{ cls:=.ref C,dict:=some s.heap.objs.size,data:=.fields vs }) :: T) (f:=Obj.putName name (PyData.keyHash w.params name) (.str name s.toks) v) (o':=dictOf [⟨PyData.keyHash w.params name,.str name s.toks,v⟩] 1) F2 N2 (fun _ hp=>nomatch hp) (fun p hp=>by
    rcases List.mem_cons.mp hp with rfl | hp
    · exact hne
    · exact offd p hp) (putName_dict name _ _ v [] 0) rfl
  refine exc_nsSet (s:={ s with heap:=_ }) (es:=[]) (n:=0) (N2 _ (.head _)).1 rfl rfl rfl (show 1 ≤ 1000 by decide) ?_
  exact h _ _ F3 (newsSub N3 fun p hp=>by
    simp only [List.nil_append,List.mem_cons] at hp ⊢
    rcases hp with h | h | h
    · exact .inr (.inl h)
    · exact .inl h
    · exact .inr (.inr h)) hne offd
theorem exc_store1 {vs:Array Value} {d:Addr} {es es':List DictEntry} {n n':Nat} {tk:Tok} {R:Result→Shared→Prop} (F:Fr h₀ L s.heap m) (X:K.In h₀) (N:News h₀ L s.heap ((x,({ cls:=.ref C,dict:=some d,data:=.fields vs }:Obj)) :: (d,dictOf es n) :: T)) (ne:x ≠ d) (off:∀ p ∈ T,p.1 ≠ d)
    (hc:clsIn K C=some cd) (hm:cd.mro=.ref C :: excBm) (hd:cd.hasDict=true) (ha:findIn K (.ref C) name=some none) (hr:es.any (·.refKey)=false)
    (e1:putL name (PyData.keyHash w.params name) (.str name s.toks) v es=es') (e2:putN name es n=n') (hz:es'.length ≤ 1000)
    (h:∀ h',Fr h₀ L h' m→News h₀ L h' ((x,({ cls:=.ref C,dict:=some d,data:=.fields vs }:Obj)) :: (d,dictOf es' n') :: T)→R (.ok (.ret .none)) { s with heap:=h',toks:=s.toks + 1 }) :
    codeAny (model prog w) A (.call (.builtin "object.__setattr__") ⟨[.ref x,.str name tk,v],[]⟩) R s:=by
  have X':=X.keeps F.keep
  have hx:=(N _ (.head _)).1
  have D:=(N _ (.tail _ (.head _))).1
  have I:W.InstAt s.heap x { cls:=.ref C,dict:=some d,data:=.fields vs } C (some (dictOf es n)):=⟨hx,rfl,rfl,D⟩
  refine exc_osa X' I hc hm ha ?_
  refine wpAny_bind (wpAny_pure (wpAny_bind (wpAny_bind (wpAny_loadPart hx (wpAny_bind ((looks_clsIn X' hc).here ?_))))))
  rw [hd]
  refine wpAny_pure (a:=some d) ?_
  obtain ⟨F3,N3⟩:=news_upd (pre:=[(x,{ cls:=.ref C,dict:=some d,data:=.fields vs })]) (post:=T) (f:=Obj.putName name (PyData.keyHash w.params name) (.str name s.toks) v) (o':=dictOf es' n') F N (fun p hp=>by rw [List.mem_singleton.mp hp]; exact ne) off (by rw [putName_dict,e1,e2]) rfl
  exact exc_nsSet D hr e1 e2 hz (h _ F3 N3)
theorem exc_set0 {vs:Array Value} {Q:Unit→Shared→Prop} (F:Fr h₀ L s.heap m) (X:K.In h₀) (N:News h₀ L s.heap ((x,({ cls:=.ref C,dict:=none,data:=.fields vs }:Obj)) :: T)) (off:∀ p ∈ T,p.1 ≠ x)
    (hc:clsIn K C=some cd) (hm:cd.mro=.ref C :: excBm) (hd:cd.hasDict=true) (hs:findIn K (.ref C) "__setattr__"=some (some (.builtin "object.__setattr__"))) (ha:findIn K (.ref C) name=some none)
    (h:∀ d h',Fr h₀ L h' m→News h₀ L h' ((x,({ cls:=.ref C,dict:=some d,data:=.fields vs }:Obj)) :: (d,dictOf [⟨PyData.keyHash w.params name,.str name (s.toks + 1),v⟩] 1) :: T)→x ≠ d→(∀ p ∈ T,p.1 ≠ d)→Q () { s with heap:=h',toks:=s.toks + 1 + 1 }) :
    wpAny (model prog w) A (setAttr (.ref x) name v) Q E s:=
  set_plain (X.keeps F.keep) (ox:={ cls:=.ref C,dict:=none,data:=.fields vs }) (od:=none) ⟨(N _ (.head _)).1,rfl,rfl,trivial⟩ hs (exc_store0 (s:={ s with toks:=s.toks + 1 }) F X N off hc hm hd ha h)
theorem exc_set1 {vs:Array Value} {d:Addr} {es es':List DictEntry} {n n':Nat} {Q:Unit→Shared→Prop} (F:Fr h₀ L s.heap m) (X:K.In h₀) (N:News h₀ L s.heap ((x,({ cls:=.ref C,dict:=some d,data:=.fields vs }:Obj)) :: (d,dictOf es n) :: T)) (ne:x ≠ d) (off:∀ p ∈ T,p.1 ≠ d)
    (hc:clsIn K C=some cd) (hm:cd.mro=.ref C :: excBm) (hd:cd.hasDict=true) (hs:findIn K (.ref C) "__setattr__"=some (some (.builtin "object.__setattr__"))) (ha:findIn K (.ref C) name=some none) (hr:es.any (·.refKey)=false)
    (e1:putL name (PyData.keyHash w.params name) (.str name (s.toks + 1)) v es=es') (e2:putN name es n=n') (hz:es'.length ≤ 1000)
    (h:∀ h',Fr h₀ L h' m→News h₀ L h' ((x,({ cls:=.ref C,dict:=some d,data:=.fields vs }:Obj)) :: (d,dictOf es' n') :: T)→Q () { s with heap:=h',toks:=s.toks + 1 + 1 }) :
    wpAny (model prog w) A (setAttr (.ref x) name v) Q E s:=
  set_plain (X.keeps F.keep) (ox:={ cls:=.ref C,dict:=some d,data:=.fields vs }) (od:=some (dictOf es n)) ⟨(N _ (.head _)).1,rfl,rfl,(N _ (.tail _ (.head _))).1⟩ hs (exc_store1 (s:={ s with toks:=s.toks + 1 }) F X N ne off hc hm hd ha hr e1 e2 hz h)
end
section
variable {M:Model} {A:Around} {E:Value→Shared→Prop} {s:Shared} {env:Env}
variable {nm q:Str} {C N:Addr} {bs bm:List Value} {hdct:Bool} {sn:List Str} {sub:List Value} {ab:Bool} {col:Option Bool} {dd:Option Addr} {k0 k1 k2 k3 k5:Option Value} {newId:String}
theorem raise_stmt {x:Sem Value} {Q:Flow→Shared→Prop} (hbase:bm.contains (.type "BaseException")=true) (hh:A.handled=none)
    (h:wpAny M A x (fun v s₁=>∃ e t d,v=.ref e ∧ s₁.heap.get? C=some (excClassObj nm q C N bs bm hdct sn sub ab col dd k0 k1 k2 k3 k5 newId) ∧
      s₁.heap.get? e=some { cls:=.ref C,dict:=some d,data:=.fields #[.ref t,.none,.none,.none,.bool false,.none] } ∧ E (.ref e) s₁) E s) :
    wpAny M A (raiseStmt env (some x) none) Q E s:=by
  have hcB:(Value.ref C :: bm).contains (.type "BaseException")=true:=by rw [List.contains_cons,hbase,Bool.or_true]
  unfold raiseStmt
  refine wpAny_bind (wpAny_mono h (fun v s₁ h₁=>?_) fun _ _ x=>x)
  refine byC fun zC zk=>?_
  obtain ⟨e,t,d,rfl,hC,he,hE⟩:=h₁
  obtain ⟨hp,g,dr,tk,os⟩:=s₁
  refine zk ?_
  repeat (first | with_reducible refine wpAny_loadPart_at he ?_ | with_reducible refine wpAny_loadPart_at hC ?_ | (with_reducible refine wpAny_isSubtype_exc hC ?_; rw [hcB]) | wp_step)
  exact wpAny_raiseNew_none hh hE
end
section
variable {K:Frag} {P:Params} {w:World} {A:Around} {E:Value→Shared→Prop} {s:Shared} {env:Env} {h₀:Heap} {L:Addr} {m:Str→Option Value}
noncomputable def QMade (h₀:Heap) (E:Value→Shared→Prop) (v:Value) (s₁:Shared):Prop:=∃ e t d,v=.ref e ∧ (∀ b o,h₀.get? b=some o→s₁.heap.get? b=some o) ∧ s₁.heap.get? e=some (eObj (some d) (eVs t)) ∧ E (.ref e) s₁
theorem quic_raise {M:Model} {x:PySem.Expr} {pos:Pos} {Q:Flow→Shared→Prop} (hh:A.handled=none) (X:K.In h₀) (H:KOK P K)
    (h:wpAny M A (eval x env) (QMade h₀ E) E s) :
    wpAny M A (exec (.Raise (some x) none pos) env) Q E s:=by
  have hC:=X _ _ H.q
  show wpAny M A (do standAt pos; raiseStmt env (some (do let v ← eval x env; standAt pos; pure v)) none) Q E s
  refine wpAny_bind (wpAny_standAt (raise_stmt (C:=38) (N:=37) (nm:="QuicError") (q:="QuicError") (bs:=[.type "Exception"]) (bm:=excBm) (hdct:=true) (sn:=[]) (sub:=[]) (ab:=false) (col:=none) (dd:=none) (k0:=some (.ref 22)) (k1:=none) (k2:=some (.str "QuicError" 204)) (k3:=some (.str "QuicError" 212)) (k5:=some (.bool true)) (newId:="Exception.__new__") (by decide) hh (wpAny_bind (wpAny_mono h (fun v s₁ h₁=>wpAny_bind (wpAny_standAt (wpAny_pure ?_))) fun _ _ x=>x))))
  refine byC fun zC zk=>?_
  obtain ⟨e,t,d,rfl,hk,he,hE⟩:=h₁
  refine zk ?_
  exact ⟨e,t,d,rfl,hk _ _ hC,he,hE⟩
end
section
variable {prog:Program} {K:Frag} {P:Params} {w:World} {A:Around} {E:Value→Shared→Prop} {s:Shared} {h₀:Heap} {L:Addr} {m:Str→Option Value} {T:List (Addr × Obj)} {Q:Value→Shared→Prop}
theorem exc_init_call {e t:Addr} {args:List Value} (F:Fr h₀ L s.heap m) (X:K.In h₀) (H:KOK P K) (N:News h₀ L s.heap ((e,eObj none (eVs t)) :: T)) (off:∀ p ∈ T,p.1 ≠ e)
    (h:∀ t2 h',Fr h₀ L h' m→News h₀ L h' ((e,eObj none (eVs t2)) :: (t2,tupObj args 0) :: T)→(∀ p ∈ T,p.1 ≠ t2)→e ≠ t2→Q .none { s with heap:=h' }) (hz:args.length ≤ sizeLine:=by size_fits) :
    wpAny (model prog w) A (call (.builtin "Exception.__init__") (.ref e :: args)) Q E s:=by
  have hC:=X.keeps F.keep _ _ H.q
  have B:=PySem.F.excBase_Exception
  have he:=(N _ (.head _)).1
  have F1:=F.push { cls:=.type "tuple",data:=.seq args.toArray }
  have N1:=N.push F { cls:=.type "tuple",data:=.seq args.toArray }
  have hne:e ≠ s.heap.objs.size:=Nat.ne_of_lt (Heap.lt_size he)
  have offt:∀ p ∈ T,p.1 ≠ s.heap.objs.size:=fun p hp=>Nat.ne_of_lt (Heap.lt_size (N p (.tail _ hp)).1)
  obtain ⟨F2,N2⟩:=news_upd (pre:=[(s.heap.objs.size,{ cls:=.type "tuple",data:=.seq args.toArray })]) (post:=T) (f:=Obj.mapFields (·.setIfInBounds 0 (.ref s.heap.objs.size))) (o':=eObj none (eVs s.heap.objs.size)) F1 N1 (fun p hp=>by rw [List.mem_singleton.mp hp]; exact Ne.symm hne) off rfl rfl
  have fin:=h _ _ F2 (newsSub N2 fun p hp=>by
    simp only [List.cons_append,List.nil_append,List.mem_cons] at hp ⊢
    rcases hp with h | h | h
    · exact .inr (.inl h)
    · exact .inl h
    · exact .inr (.inr h)) offt hne
  obtain ⟨hh,g,d,tk,os⟩:=s
  refine wpAny_call (codeAny_call_builtin B.init.plain B.initEntry (wpAny_check_init_sub B hC he rfl ?_))
  wp_walk
  exact fin
end
section
variable {M:Model} {A:Around} {E:Value→Shared→Prop} {s':Shared} {base g h:Heap} {outer:List Env} {L a e d t:Addr} {m:Str→Option Value} {name:Str} {scope:Scope} {cd:Value} {Q:Unit→Shared→Prop} {T:List (Addr × Obj)}
theorem quic_leave (BK:Below A base outer g) (F:Fr g L s'.heap m) (N:News g L s'.heap ((e,eObj (some d) (eVs t)) :: T)) (off:∀ p ∈ T,p.1 ≠ e)
    (hQ:∀ B h',base.StaysIn B→(∀ q ∈ T,B.get? q.1=some q.2 ∧ base.get? q.1=none)→B.get? e=none→base.get? e=none→B.StaysIn h'→h'.FunFrames B outer→TrO h' B e (eObj (some d) (eVs t)) (.ref t) .none→g.UpToSlots h'→Q () { s' with heap:=h' }) (hk:scope.kind=.function:=by rfl) :
    wpAny M (A.deeper (envOf name scope L a cd)) (leaving (envOf name scope L a cd) (.ref e)) Q E s':=by
  have K':=BK.push (name:=name) (a:=a) (cd:=cd) F hk
  obtain ⟨fr,hfr⟩:∃ fr,fr=(envOf name scope L a cd :: outer).filterMap (·.frame):=⟨_,rfl⟩
  have hin:∀ env ∈ (envOf name scope L a cd :: outer),∀ b,env.frame=some b→b ∈ e :: fr:=fun env he b hb=>.tail _ (hfr ▸ List.mem_filterMap.mpr ⟨env,he,hb⟩)
  have ge:=N _ (.head _)
  have st:base.StaysIn (hideAll s'.heap (e :: fr)):=fun b o q=>hideAll_get _ (K'.stays b o q) fun hm=>by
    rcases List.mem_cons.mp hm with rfl | hm
    · have:=BK.stays b o q; rw [ge.2.2] at this; cases this
    · rw [(K'.frames.mem (hfr ▸ hm)).1] at q; cases q
  have hl:∀ q ∈ T,(hideAll s'.heap (e :: fr)).get? q.1=some q.2 ∧ base.get? q.1=none:=fun q hq=>by
    have nq:=N q (.tail _ hq)
    refine ⟨hideAll_get _ nq.1 fun hm=>?_,fresh_of_stays BK.stays nq.2.2⟩
    rcases List.mem_cons.mp hm with h | hm
    · exact off q hq h
    obtain ⟨env,he,hf⟩:=List.mem_filterMap.mp (hfr ▸ hm)
    rcases List.mem_cons.mp he with rfl | he
    · exact nq.2.1 (Option.some.inj hf).symm
    · obtain ⟨o,ho,_⟩:=(BK.frames.mem (List.mem_filterMap.mpr ⟨env,he,hf⟩)).2
      rw [nq.2.2] at ho; cases ho
  have hen:(hideAll s'.heap (e :: fr)).get? e=none:=hideAll_none _ (.head _)
  unfold leaving
  refine wpAny_bind (note_first (o:=eObj (some d) (eVs t)) (vs:=eVs t) (a0:=.ref t) K'.stack (funFrames_hide K'.frames hin) rfl ge.1 (fun b o q=>of_hideAll _ q) hen rfl rfl fun h1 x1 x2 x3 x4=>?_)
  exact note_clear (s:={ s' with heap:=h1 }) x1 x2 x3 fun h2 y1 y2 y3 y4=>hQ _ h2 st hl hen (fresh_of_stays BK.stays ge.2.2) y1 y2.2.2 y3 ((Heap.UpToSlots.of_keeps F.keep).trans (x4.trans y4))
end
section
variable {K:Frag} {P:Params} {w:World} {A:Around} {E:Value→Shared→Prop} {s':Shared} {h₀:Heap} {outer:List Env} {L a e t:Addr} {m:Str→Option Value} {name:Str} {scope:Scope} {cd:Value} {cl:List (Str × Addr)}
  {n:Str} {b₀:Stmt} {suite:List Stmt} {pos np:Pos} {rest:List ExceptHandler} {Q:Flow→Shared→Prop} {news:List (Addr × Obj)} {prog:Program} {d:Option Addr}
theorem quic_caughtX {B:Heap} {mg:Str→Option Value} (hfr:A.frames=some (envX name scope L a cd cl :: outer)) (F:Fr h₀ L s'.heap m) (X:K.In h₀) (H:KOK P K) (G:h₀.Ns mainGlobals mg)
    (b1:h₀.StaysIn B) (b2:∀ q ∈ news,B.get? q.1=some q.2 ∧ h₀.get? q.1=none) (b3:B.get? e=none) (b4:h₀.get? e=none) (b5:B.StaysIn s'.heap) (b6:s'.heap.FunFrames B (envX name scope L a cd cl :: outer)) {vs:Array Value} (b7:TrO s'.heap B e (eObj d vs) (.ref t) .none)
    (k:∀ h' vs tk,Fr h₀ L h' (fun y=>if y=n then some (.ref e) else m y)→News h₀ L h' ((e,eObj d vs) :: news) →
      wpAny (model prog w) (A.mark (some (.ref e))) (execs (b₀ :: suite) (envX name scope L a cd cl))
        (fun f s₄=>wpAny (model prog w) A (do bindName (envX name scope L a cd cl) n .none; unbindBehindTheSuite (envX name scope L a cd cl) n pos) (fun _ s₅=>Q f s₅) E s₄)
        (AsSuiteRaised (model prog w) (A.mark (some (.ref e))) (envX name scope L a cd cl) n pos (notedBy (model prog w) (A.mark (some (.ref e))) (envX name scope L a cd cl) (cameBackBy (model prog w) A (envX name scope L a cd cl) E)))
        { s' with heap:=h',toks:=tk })
    (hk:scope.kind=.function:=by rfl) (hlo:(envX name scope L a cd cl).kindOf n=some .local:=by rfl) (hx:(envX name scope L a cd cl).kindOf (Str.ofString "QuicError")=some .globalImplicit:=by rfl) :
    wpAny (model prog w) A (noteFrame (.ref e) (envX name scope L a cd cl))
      (fun _ s₂=>wpAny (model prog w) A (setFlight (.ref e) none) (fun _ s₃ =>
        wpAny (model prog w) A (handleBy (.ref e) (envX name scope L a cd cl) (.ExceptHandler (some (.Name (Str.ofString "QuicError") np)) (some n) (b₀ :: suite) pos :: rest)) Q E s₃) E s₂) E s':=by
  have hL:B.get? L=none:=by
    refine byC fun zC zk=>?_
    obtain ⟨_,⟨L',_,hf,hn',_⟩,_⟩:=b6
    obtain rfl:L=L':=Option.some.inj hf
    refine zk ?_
    exact hn'
  refine note_next hfr b6 rfl b7 b5 b3 fun h₄ x1 x2 x3 x4=>?_
  refine note_clear (s:={ s' with heap:=h₄ }) x1 x2 x3 fun h₅ y1 y2 y3 y4=>?_
  have up5:=x4.trans y4
  have F₅:Fr h₀ L h₅ m:=F.of_stays (fun b o q=>y1 b o (b1 b o q)) up5
  refine byC fun zC zk=>?_
  obtain ⟨vs5,T5,oT5,ts5,g5,-⟩:=id y3
  refine zk ?_
  refine wpAny_handleBy_cons (codeAny_handlers_test (Calls.Name_function_global (s:={ s' with heap:=h₅ }) hk hx (Calls.loadGlobal_global (G.keeps F₅.keep) (mg_of X G H.qg) ?_) (by decide))) (by intro q; cases q)
  have hC:=X.keeps F₅.keep _ _ H.q
  refine wpAny_excMatches_sub_self hC g5 rfl (by decide) (codeAny_handlers_suite_as ?_)
  refine note_clear (s:={ s' with heap:=h₅ }) y1 y2 y3 fun h₆ z1 z2 z3 z4=>?_
  have F₆:Fr h₀ L h₆ m:=F.of_stays (fun b o q=>z1 b o (b1 b o q)) (up5.trans z4)
  refine byC fun zC zk=>?_
  obtain ⟨vs6,T6,oT6,ts6,g6,-⟩:=z3
  refine zk ?_
  have N₆:News h₀ L h₆ ((e,eObj d vs6) :: news):=fun p hp=>by
    rcases List.mem_cons.mp hp with rfl | hp
    · refine ⟨g6,fun q=>?_,b4⟩
      refine byC fun zC zk=>?_
      obtain ⟨o,es,ep,ho,hd,_⟩:=F₆.ns
      refine zk ?_
      dsimp only at q
      rw [← q,g6] at ho
      cases ho
      cases hd
    · refine ⟨z1 _ _ (b2 p hp).1,fun q=>?_,(b2 p hp).2⟩
      have:=(b2 p hp).1
      rw [q,hL] at this; cases this
  exact wpAny_storeName_local (s:={ s' with heap:=h₆ }) hlo F₆.ns (fun h₇ hn hs=>k h₇ vs6 _ (F₆.set hn hs) (N₆.set hs))
    (by show (scope.kind == .class || (scope.kind == .module && L != mainGlobals))=false; rw [hk]; rfl)
end
section
variable {prog:Program} {w:World} {A:Around} {E:Value→Shared→Prop} {s:Shared} {K:Frag} {x C:Addr} {name:Str} {v:Value} {cd:ClassData} {Q:Value→Shared→Prop}
theorem exc_get {ox:Obj} {od:Option Obj} {expr:Bool} (X:K.In s.heap) (I:W.InstAt s.heap x ox C od) (hc:clsIn K C=some cd) (hm:cd.mro=.ref C :: excBm) (hga:findIn K (.ref C) "__getattribute__"=some (some (.builtin "BaseException.__getattribute__")))
    (hgg:findIn K (.ref C) "__getattr__"=some none) (hf:findObj K C od name=some (.value v)) (hh:handedIn v=true) (h:Q v { s with toks:=s.toks + 1 }):wpAny (model prog w) A (getAttr (.ref x) name expr) Q E s:=by
  obtain ⟨hp,g,d,t,os⟩:=s
  have L0:=I.type (M:=model prog w)
  have L1:=looks_findIn (M:=model prog w) X hga
  have L2:=looks_findIn (M:=model prog w) X hgg
  have L3:=looks_find (M:=model prog w) X I hf
  have sub:Looks (model prog w) hp (isInstance (.ref x) (.type "BaseException")) true:=I.type.andThen (looks_mroIn X (by unfold mroIn; rw [hc,Option.bind_some,hm]; rfl))
  have f3:=PySem.F.attr_Exception.ga.bind (.ref x)
  have hk:builtinKind "BaseException.__getattribute__"=some .slot:=by decide +kernel
  have hsplit:splitId "BaseException.__getattribute__"=some ("BaseException","__getattribute__"):=by decide +kernel
  have hx0:(expr && onTheHeap (Value.builtin "BaseException.__getattribute__"))=false:=by cases expr <;> rfl
  have hx2:(Value.builtin "BaseException.__getattribute__" == Value.builtin "object.__getattribute__")=false:=by decide +kernel
  have hx1:(onTheHeap (Value.ref C) && Value.builtin "BaseException.__getattribute__" == Value.builtin "object.__getattribute__")=false:=by rw [hx2]; rfl
  unfold getAttr getAttrBy
  refine wpAny_bind (wpAny_mkText (wpAny_holding (wpAny_bind (L0.at (wpAny_bind (L1.at ?_))))))
  dsimp only
  rw [hx1]
  show wpAny _ _ (getAttrByItsOwn _ _ _ _ _ _) _ _ _
  unfold getAttrByItsOwn
  refine wpAny_bind ?_
  show wpAny _ _ (typeLookup (.ref C) "__getattr__") _ _ _
  refine L2.at ?_
  unfold callGetattribute
  rw [hx0]
  refine wpAny_bind (wpAny_attempt (wpAny_holding ?_))
  unfold boundAndCalled
  rw [f3]
  refine wpAny_bind (wpAny_pure ?_)
  have fin:wpAny (model prog w) A.in1 (Builtin.«object.__getattribute__» ⟨[.ref x,.str name t],[]⟩) (fun fin s'=>match fin with | .done f=>f=.ret v ∧ s'=⟨hp,g,d,t + 1,os⟩ | .again _=>False) (fun _ _=>False) ⟨hp,g,d,t + 1,os⟩:=by
    unfold Builtin.«object.__getattribute__»
    refine wpAny_bind (wpAny_pure (wpAny_bind (wpAny_pure (wpAny_bind (L0.at (wpAny_bind (L3.at ?_)))))))
    exact wpAny_pure ⟨rfl,rfl⟩
  refine wpAny_call (codeAny_call_builtin PySem.F.attr_Exception.ga.plain PySem.F.entry_bexc_ga (@check_slot (model prog w) _ _ ⟨hp,g,d,t + 1,os⟩ "BaseException.__getattribute__" "BaseException" "__getattribute__" (.ref x) [.str name t] [] _ hk hsplit sub (PySem.F.args_bexc_ga (.ref x) (.str name t)) ?_))
  refine wpAny_mono fin (fun fin s' z=>?_) fun _ _ z=>z.elim
  rcases fin with f | c
  · obtain ⟨rfl,rfl⟩:=z
    show wpAny _ _ (handedOut v) _ _ _
    rw [handedOut_of hh]
    exact wpAny_pure h
  · exact z.elim
end
end Mine
end
section
namespace Mine
noncomputable def u8 (l:List Nat):List UInt8:=l.map UInt8.ofNat
noncomputable def chM:List UInt8:=u8 [1,0,0,33,0,8,99,99,99,99,99,99,99,99,0,8,0,2,104,57,0,2,104,51,0,11,112,97,114,97,109,115,32,111,102,32,99]
noncomputable def shM:List UInt8:=u8 [2,0,0,10,0,8,115,115,115,115,115,115,115,115]
noncomputable def eeM:List UInt8:=u8 [8,0,0,10,0,2,104,51,0,4,111,102,32,115]
noncomputable def sfM:List UInt8:=u8 [20,0,0,8,18,201,184,144,62,91,151,6]
noncomputable def cfM:List UInt8:=u8 [20,0,0,8,4,50,105,118,233,100,219,121]
noncomputable def hsM:List UInt8:=eeM ++ sfM
noncomputable def key1:List UInt8:=u8 [23,46,218,201,222,247,85,27]
noncomputable def key2:List UInt8:=u8 [8,121,165,245,151,0,237,172]
inductive HSt where
  | c0 | c1 | c2 | c3 | s0 | s1 | s2
noncomputable def full (b k:Bool):List UInt8:=@Bool.rec (fun _=>List UInt8) (@Bool.rec (fun _=>List UInt8) chM cfM k) (@Bool.rec (fun _=>List UInt8) shM hsM k) b
noncomputable def HSt.has (s:HSt) (k:Bool):Bool:=@HSt.rec (fun _=>Bool) (!k) (!k) (!k) true false true true s
noncomputable def dat (s:HSt) (b k:Bool):List UInt8:=@Bool.rec (fun _=>List UInt8) [] (full b k) (s.has k)
noncomputable def sl (l:List UInt8) (a b:Int):List UInt8:=(l.drop a.toNat).take (b.toNat - a.toNat)
noncomputable def HSt.comp (s:HSt):Bool:=@HSt.rec (fun _=>Bool) false false false true false false true s
noncomputable def HSt.conf (s:HSt):Bool:=@HSt.rec (fun _=>Bool) false false false false false false true s
noncomputable def str (x:String):Dat:=.str (Str.ofString x)
noncomputable def byt (x:List UInt8):Dat:=.bytes ⟨x⟩
noncomputable def HSt.state (s:HSt):String:=@HSt.rec (fun _=>String) "wait_server_hello" "wait_extensions" "wait_server_finished" "done" "wait_client_hello" "wait_client_finished" "done" s
noncomputable def HSt.tr (s:HSt):List UInt8:=@HSt.rec (fun _=>List UInt8) chM (chM ++ shM) (chM ++ shM ++ eeM) (chM ++ shM ++ hsM) [] (chM ++ shM ++ hsM) (chM ++ shM ++ hsM ++ cfM) s
noncomputable def h3:Dat:=byt (u8 [104,51])
noncomputable def parC:Dat:=byt (u8 [112,97,114,97,109,115,32,111,102,32,99])
noncomputable def parS:Dat:=byt (u8 [111,102,32,115])
noncomputable def HSt.peer (s:HSt):Dat:=@HSt.rec (fun _=>Dat) .none .none parS parS .none parC parC s
noncomputable def HSt.proto (s:HSt):Dat:=@HSt.rec (fun _=>Dat) .none .none h3 h3 .none h3 h3 s
noncomputable def strS (x:String):Str:=Str.ofString x
noncomputable def kE1:Str × Dat:=(strS "handshake",byt key1)
noncomputable def kE2:Str × Dat:=(strS "application",byt key2)
noncomputable def HSt.keys (s:HSt):List (Str × Dat):=@HSt.rec (fun _=>List (Str × Dat)) [] [kE1] [kE1] [kE1,kE2] [] [kE1,kE2] [kE1,kE2] s
noncomputable def evK (x:String) (k:List UInt8):Dat:=.tuple [str "keys",str x,byt k]
noncomputable def evP (p:Dat):List Dat:=[.tuple [str "protocol",h3],.tuple [str "params",p]]
noncomputable def ev1:Dat:=evK "handshake" key1
noncomputable def ev2:Dat:=evK "application" key2
noncomputable def evC:Dat:=.tuple [str "complete"]
noncomputable def HSt.ev (s:HSt):List Dat:=@HSt.rec (fun _=>List Dat) [] [ev1] (ev1 :: evP parS) (ev1 :: (evP parS ++ [ev2,evC])) [] (evP parC ++ [ev1,ev2]) (evP parC ++ [ev1,ev2,evC,.tuple [str "confirmed"],.tuple [str "dropped",str "handshake"]]) s
noncomputable def HSt.rest (s:HSt) (k:Bool) (tI tH:Int):List UInt8:=@Bool.rec (fun _=>List UInt8) (@HSt.rec (fun _=>List UInt8) (sl shM 0 tI) [] [] [] (sl chM 0 tI) [] [] s) (@HSt.rec (fun _=>List UInt8) [] (sl hsM 0 tH) (sl sfM 0 (tH - 14)) [] [] (sl cfM 0 tH) [] s) k
structure Ch where
  due:List (Int × Int)
  acked:List (Int × Int)
  told:Int
  wait:List Dat
  came:List Dat
structure LS where
  ch:Bool→Bool→Ch
  st:Bool→HSt
  rest:Bool→Bool→List UInt8
  data:Bool→Bool→List UInt8
noncomputable def spX (p:Int × Int):Dat:=.tuple [.int p.1,.int p.2]
noncomputable def pcX (D:List UInt8) (p:Int × Int):Dat:=.tuple [.int p.1,byt (sl D p.1 p.2)]
noncomputable def spc (k:Bool):Dat:=@Bool.rec (fun _=>Dat) (str "initial") (str "handshake") k
noncomputable def bI (b:Bool):Int:=@Bool.rec (fun _=>Int) 0 1 b
noncomputable def flD (p:Bool × Bool × Int × Int):Dat:=.tuple [.int (bI p.1),spc p.2.1,.int p.2.2.1,byt (sl (full p.1 p.2.1) p.2.2.1 p.2.2.2)]
noncomputable def eI (x:SV) (y:SV):List (Str × SV):=[(strS "initial",x),(strS "handshake",y)]
noncomputable def dsL (l:List Dat):SV:=.d (.list l)
noncomputable def inA (c:Ch):SO:=.attrs [(strS "limit",.d (.int 200)),(strS "told",.d (.int c.told)),(strS "waiting",dsL c.wait)]
noncomputable def outA (D:List UInt8) (c:Ch):SO:=.attrs [(strS "data",.d (byt D)),(strS "due",dsL (c.due.map spX)),(strS "acked",dsL (c.acked.map spX))]
noncomputable def cfgA (b:Bool):List (Str × Dat):=@Bool.rec (fun _=>List (Str × Dat))
  [(strS "random",byt (u8 [99,99,99,99,99,99,99,99])),(strS "protocols",.list [byt (u8 [104,57]),h3]),(strS "params",parC),(strS "most",.int 100)]
  [(strS "random",byt (u8 [115,115,115,115,115,115,115,115])),(strS "protocols",.list [h3]),(strS "params",parS),(strS "most",.int 100)] b
noncomputable def role (b:Bool):Dat:=@Bool.rec (fun _=>Dat) (str "client") (str "server") b
noncomputable def sideH (n:Nat) (b:Bool) (σ:LS):List SO:=[
  .ddict (cfgA b),
  .attrs [(strS "role",.d (role b)),(strS "config",.obj n),(strS "state",.d (str (σ.st b).state)),(strS "transcript",.d (byt (σ.st b).tr)),(strS "rests",.obj (n + 3)),(strS "keys",.obj (n + 4)),(strS "events",.obj (n + 5)),(strS "peer_params",.d (σ.st b).peer),(strS "protocol",.d (σ.st b).proto),(strS "is_complete",.d (.bool (σ.st b).comp)),(strS "is_confirmed",.d (.bool (σ.st b).conf)),(strS "dropped",.obj (n + 6))],
  .inst 306 (n + 1),
  .ddict [(strS "initial",byt (σ.rest b false)),(strS "handshake",byt (σ.rest b true)),(strS "application",byt [])],
  .ddict (σ.st b).keys,.dlist (σ.st b).ev,.dlist (@Bool.rec (fun _=>List Dat) [] [str "handshake"] (σ.st b).conf),
  .dict [(strS "here",.obj (n + 2)),(strS "in",.obj (n + 15)),(strS "out",.obj (n + 25)),(strS "came",.obj (n + 26))],
  inA (σ.ch (!b) false),.inst 383 (n + 8),.gone,inA (σ.ch (!b) true),.inst 383 (n + 11),.gone,
  .list [.tup [.d (str "initial"),.obj (n + 9)],.tup [.d (str "handshake"),.obj (n + 12)]],.dict (eI (.obj (n + 9)) (.obj (n + 12))),
  outA (σ.data b false) (σ.ch b false),.inst 439 (n + 16),.gone,.gone,outA (σ.data b true) (σ.ch b true),.inst 439 (n + 20),.gone,.gone,
  .list [.tup [.d (str "initial"),.obj (n + 17)],.tup [.d (str "handshake"),.obj (n + 21)]],.dict (eI (.obj (n + 17)) (.obj (n + 21))),
  .ddict [(strS "initial",.list (σ.ch (!b) false).came),(strS "handshake",.list (σ.ch (!b) true).came)],.gone,.gone]
structure Box where
  ns:List Int
  sd:Int
noncomputable def boxH (B:Box):List SO:=[.dlist (B.ns.map .int),.list [.obj 0,.d (.int B.sd)]]
noncomputable def baseH (B:Box) (σ:LS):List SO:=boxH B ++ sideH 2 false σ ++ sideH 31 true σ ++ [.gone]
noncomputable def ch0:Ch:=⟨[],[],0,[],[]⟩
noncomputable def LS0:LS:=⟨fun b k=>@Bool.rec (fun _=>Ch) (@Bool.rec (fun _=>Ch) ⟨[(0,37)],[],0,[],[]⟩ ch0 k) ch0 b,fun b=>@Bool.rec (fun _=>HSt) .c0 .s0 b,fun _ _=>[],fun b k=>@Bool.rec (fun _=>List UInt8) (@Bool.rec (fun _=>List UInt8) chM [] k) [] b⟩
noncomputable def lawR:FnR:=fnI 66 "law"
noncomputable def at1 (l:List Stmt) (i:Nat):List Stmt:=(l.drop i).take 1
noncomputable def fzL:Nat→List Nat:=fun n=>@Option.rec (List Nat) (fun _=>List Nat) [] (fun l=>l) (lookN n [(434,[12,15,20,21,24,25,29,30,41,44,49,50,53,54,58,59,60]),(317,[0])])
noncomputable def sdV:SV:=.lst [.obj 9,.obj 38]
noncomputable def locL (sd:Int) (ds:List Dat):List (Str × Option SV):=setL (strS "box") (some (.obj 1)) (setL (strS "seed") (some (.d (.int sd))) (loc0 lawR.scope.names [(strS "script",.d (.list ds))]))
noncomputable def retK (n:Nat) (σ:Sy) (K:KV):KF:=fun fl σ1=>onF fl (leaveV n (.d .none) { σ with hp:=σ1.hp } K) False fun v=>leaveV n v { σ with hp:=σ1.hp } K
noncomputable def bodyA (a:Addr):List Stmt:=@Option.rec FnR (fun _=>List Stmt) [] (fun r=>r.body) (lookN a fnL)
noncomputable def scA (a:Addr):Scope:=@Option.rec FnR (fun _=>Scope) lawR.scope (fun r=>r.scope) (lookN a fnL)
noncomputable def stA (l:List Stmt) (i:Nat):Stmt:=@Option.rec Stmt (fun _=>Stmt) (.Pass default) (fun s=>s) l[i]?
noncomputable def eqB (a b:Bool):Bool:=@Bool.rec (fun _=>Bool) (!b) b a
noncomputable def upd {α:Type} (f:Bool→Bool→α) (b k:Bool) (v:α):Bool→Bool→α:=fun b' k'=>bif eqB b b' && eqB k k' then v else f b' k'
noncomputable def upCh (σ:LS) (b k:Bool) (c:Ch):LS:={ σ with ch:=upd σ.ch b k c }
noncomputable def setH (σ:LS) (r:Bool) (s:HSt) (RI RH:List UInt8):LS:={ σ with st:=fun b=>bif eqB r b then s else σ.st b,rest:=fun b k=>bif eqB r b then @Bool.rec (fun _=>List UInt8) RI RH k else σ.rest b k }
noncomputable def hpJ (j:Nat) (B:Box) (σ:LS) (l:List Dat):List SO:=baseH B σ ++ (List.replicate j .gone ++ [.dlist l])
noncomputable def sdN (b:Bool):Nat:=@Bool.rec (fun _=>Nat) 2 31 b
noncomputable def outN (b k:Bool):Nat:=sdN b + @Bool.rec (fun _=>Nat) 17 21 k
noncomputable def inN (b k:Bool):Nat:=sdN b + @Bool.rec (fun _=>Nat) 9 12 k
noncomputable def forT:Stmt→Expr
  | .For t _ _ _ _=>t
  | _=>.Name ⟨#[]⟩ default
noncomputable def forB:Stmt→List Stmt
  | .For _ _ b _ _=>b
  | _=>[]
noncomputable def asgL0:Stmt→List Expr
  | .Assign l _ _=>l
  | _=>[]
noncomputable def asgT (s:Stmt):Expr:=@Option.rec Expr (fun _=>Expr) (.Name ⟨#[]⟩ default) (fun e=>e) (asgL0 s)[0]?
noncomputable def loopF (T:Tab) (k:Nat) (s:Stmt) (n:Nat) (dr:List Str) (l:List SV) (σ:Sy) (K:KF):Prop:=forV (asgV T (ops T k) (forT s)) ((ops T k).ex (forB s)) n dr l σ K
noncomputable def mnV (x y:Int):Int:=@Bool.rec (fun _=>Int) x y (decide (y < x))
noncomputable def mxV (x y:Int):Int:=@Bool.rec (fun _=>Int) x y (decide (y > x))
noncomputable def spV (l:List (Int × Int)):List SV:=(l.map spX).map .d
noncomputable def fgL:Nat→List Str:=fun n=>@Option.rec (List Str) (fun _=>List Str) [] (fun l=>l) (lookN n [(269,[strS "end",strS "last",strS "ahead",strS "behind"])])
noncomputable def T0:Tab:=tab (fun _=>none) none fzL fgL
noncomputable def nm (l:List String):List Str:=l.map Str.ofString
end Mine
end
namespace Mine
noncomputable def cutσ (ds:List Dat) (lo hi:Int) (acc:List Dat):Sy:=⟨scA 338,[(strS "spans",some (dsL ds)),(strS "low",some (.d (.int lo))),(strS "high",some (.d (.int hi))),(strS "found",some (.obj 0)),(strS "one",none),(strS "other",none)],[.dlist acc]⟩
noncomputable abbrev cutL1 (l:List SV) (σ:Sy) (K:KF):Prop:=loopF T0 28 (stA (bodyA 338) 1) 1 (nm ["one","other"]) l σ K
theorem cut_in {ds:List Dat} {lo hi:Int} {sc:Scope} {K:KV}:(ops T0 30).cl (.ref 338) [dsL ds,.d (.int lo),.d (.int hi)] ⟨sc,[],[]⟩ K=cutL1 (ds.map .d) (cutσ ds lo hi []) (fun fl σ1=>onF fl (exV T0 (ops T0 28) ((bodyA 338).drop 2) σ1 (retK 0 ⟨sc,[],[]⟩ K)) (retK 0 ⟨sc,[],[]⟩ K .brk σ1) fun u=>retK 0 ⟨sc,[],[]⟩ K (.ret u) σ1):=by kernel_rfl
noncomputable abbrev cutE (r:List SV) (ds:List Dat) (lo hi:Int) (acc:List Dat) (K:KF):Prop:=cutL1 r (cutσ ds lo hi acc) K
theorem cut_step {ds acc:List Dat} {lo hi a b:Int} {r:List SV} {K:KF}:cutE (.d (spX (a,b)) :: r) ds lo hi acc K =
  bite (decide (a < mnV b lo)) (req (Nat.ble acc.length 1000) (bite (decide (mxV a hi < b)) (req (Nat.ble (acc ++ [spX (a,mnV b lo)]).length 1000) (cutE r ds lo hi ((acc ++ [spX (a,mnV b lo)]) ++ [spX (mxV a hi,b)]) K)) (cutE r ds lo hi (acc ++ [spX (a,mnV b lo)]) K)))
    (bite (decide (mxV a hi < b)) (req (Nat.ble acc.length 1000) (cutE r ds lo hi (acc ++ [spX (mxV a hi,b)]) K)) (cutE r ds lo hi acc K)):=by kernel_rfl
theorem cut_end {ds acc:List Dat} {lo hi:Int} {sc:Scope} {K:KV}:exV T0 (ops T0 28) ((bodyA 338).drop 2) (cutσ ds lo hi acc) (retK 0 ⟨sc,[],[]⟩ K)=bite (decide (lo < hi)) (K (dsL acc) ⟨sc,[],[]⟩) (req (Nat.ble ds.length 1000) (K (dsL ds) ⟨sc,[],[]⟩)):=by kernel_rfl
theorem bi {b:Bool} {x y:Prop} (h1:b=true→x) (h2:b=false→y):bite b x y:=by
  cases b with
  | true=>exact h1 rfl
  | false=>exact h2 rfl
theorem rq {b:Bool} {x:Prop} (h1:b=true) (h2:x):req b x:=by subst h1; exact h2
theorem rqLe {a b:Nat} {x:Prop} (h1:a ≤ b) (h2:x):req (Nat.ble a b) x:=rq (Nat.ble_eq_true_of_le h1) h2
noncomputable def cut1 (lo hi:Int) (p:Int × Int):List (Int × Int):=(bif decide (p.1 < mnV p.2 lo) then [(p.1,mnV p.2 lo)] else []) ++ (bif decide (mxV p.1 hi < p.2) then [(mxV p.1 hi,p.2)] else [])
noncomputable def cutS (lo hi:Int) (xs:List (Int × Int)):List (Int × Int):=xs.flatMap (cut1 lo hi)
theorem cut_loop {ds:List Dat} {lo hi:Int} {K:KF} {xs:List (Int × Int)}:∀ {acc:List (Int × Int)},acc.length + 2 * xs.length ≤ 1000→K .next (cutσ ds lo hi ((acc ++ cutS lo hi xs).map spX))→cutE (spV xs) ds lo hi (acc.map spX) K:=by
  induction xs with
  | nil=>intro acc _ h; rw [cutS,List.flatMap_nil,List.append_nil] at h; exact h
  | cons p r ih =>
    intro acc hl h
    obtain ⟨a,b⟩:=p
    rw [List.length_cons] at hl
    rw [cutS,List.flatMap_cons,cut1,← cutS] at h
    have e1:∀ {q:Int × Int} {l:List (Int × Int)},l.map spX ++ [spX q]=(l ++ [q]).map spX:=fun {q l}=>by rw [List.map_append]; rfl
    have hs:=cut_step (ds:=ds) (acc:=acc.map spX) (lo:=lo) (hi:=hi) (a:=a) (b:=b) (r:=spV r) (K:=K)
    refine hs.mpr (bi (fun c=>?_) fun c=>?_)
    · rw [c] at h
      refine rqLe (by rw [List.length_map]; exact ln [_,_] [] [.le (.a (.v 0) (.m 2 (.a (.v 1) (.k 1)))) (.k 1000)] (.le (.v 0) (.k 1000)) (.w [1,1]) zr hl) (bi (fun d=>?_) fun d=>?_)
      · rw [d] at h
        refine rqLe (by rw [List.length_append,List.length_map,List.length_singleton]; exact ln [_,_] [] [.le (.a (.v 0) (.m 2 (.a (.v 1) (.k 1)))) (.k 1000)] (.le (.a (.v 0) (.k 1)) (.k 1000)) (.w [1,1]) zr hl) ?_
        rw [e1,e1]
        refine ih (by simp only [List.length_append,List.length_singleton]; exact ln [_,_] [] [.le (.a (.v 0) (.m 2 (.a (.v 1) (.k 1)))) (.k 1000)] (.le (.a (.a (.a (.v 0) (.k 1)) (.k 1)) (.m 2 (.v 1))) (.k 1000)) (.w [1,1]) zr hl) ?_
        simpa using h
      · rw [d] at h
        rw [e1]
        refine ih (by simp only [List.length_append,List.length_singleton]; exact ln [_,_] [] [.le (.a (.v 0) (.m 2 (.a (.v 1) (.k 1)))) (.k 1000)] (.le (.a (.a (.v 0) (.k 1)) (.m 2 (.v 1))) (.k 1000)) (.w [1,1]) zr hl) ?_
        simpa using h
    · rw [c] at h
      refine bi (fun d=>?_) fun d=>?_
      · rw [d] at h
        refine rqLe (by rw [List.length_map]; exact ln [_,_] [] [.le (.a (.v 0) (.m 2 (.a (.v 1) (.k 1)))) (.k 1000)] (.le (.v 0) (.k 1000)) (.w [1,1]) zr hl) ?_
        rw [e1]
        refine ih (by simp only [List.length_append,List.length_singleton]; exact ln [_,_] [] [.le (.a (.v 0) (.m 2 (.a (.v 1) (.k 1)))) (.k 1000)] (.le (.a (.a (.v 0) (.k 1)) (.m 2 (.v 1))) (.k 1000)) (.w [1,1]) zr hl) ?_
        simpa using h
      · rw [d] at h
        exact ih (by exact ln [_,_] [] [.le (.a (.v 0) (.m 2 (.a (.v 1) (.k 1)))) (.k 1000)] (.le (.a (.v 0) (.m 2 (.v 1))) (.k 1000)) (.w [1,1]) zr hl) h
theorem cut_run {sc:Scope} {lo hi:Int} {xs:List (Int × Int)} {K:KV} (hl:lo < hi) (hx:xs.length ≤ 400) (h:K (dsL ((cutS lo hi xs).map spX)) ⟨sc,[],[]⟩):(ops T0 30).cl (.ref 338) [dsL (xs.map spX),.d (.int lo),.d (.int hi)] ⟨sc,[],[]⟩ K:=by
  refine cut_in.mpr (cut_loop (acc:=[]) (by simp; exact ln [_] [] [.le (.v 0) (.k 400)] (.le (.m 2 (.v 0)) (.k 1000)) (.w [2,1]) zr hx) (cut_end.mpr ?_))
  rw [decide_eq_true hl]
  exact h
theorem mnV_spec (x y:Int):mnV x y ≤ x ∧ mnV x y ≤ y ∧ (mnV x y=x ∨ mnV x y=y):=by
  unfold mnV
  by_cases h:y < x
  · rw [decide_eq_true h]; exact ⟨Int.le_of_lt h,Int.le_refl _,.inr rfl⟩
  · rw [decide_eq_false h]; exact ⟨Int.le_refl _,Int.not_lt.mp h,.inl rfl⟩
theorem mxV_spec (x y:Int):x ≤ mxV x y ∧ y ≤ mxV x y ∧ (mxV x y=x ∨ mxV x y=y):=by
  unfold mxV
  by_cases h:y > x
  · rw [decide_eq_true h]; exact ⟨Int.le_of_lt h,Int.le_refl _,.inr rfl⟩
  · rw [decide_eq_false h]; exact ⟨Int.le_refl _,Int.not_lt.mp h,.inl rfl⟩
noncomputable def addσ (ds:List Dat) (lo hi:Int) (put:Bool) (acc:List Dat):Sy:=⟨scA 331,[(strS "spans",some (dsL ds)),(strS "low",some (.d (.int lo))),(strS "high",some (.d (.int hi))),(strS "found",some (.obj 0)),(strS "is_put",some (.d (.bool put))),(strS "one",none),(strS "other",none)],[.dlist acc]⟩
noncomputable abbrev addL (l:List SV) (σ:Sy) (K:KF):Prop:=loopF T0 28 (stA (bodyA 331) 2) 1 (nm ["one","other"]) l σ K
noncomputable abbrev addE (r:List SV) (ds:List Dat) (lo hi:Int) (put:Bool) (acc:List Dat) (K:KF):Prop:=addL r (addσ ds lo hi put acc) K
theorem add_in {ds:List Dat} {lo hi:Int} {sc:Scope} {K:KV}:(ops T0 30).cl (.ref 331) [dsL ds,.d (.int lo),.d (.int hi)] ⟨sc,[],[]⟩ K =
  bite (decide (lo ≥ hi)) (req (Nat.ble ds.length 1000) (K (dsL ds) ⟨sc,[],[]⟩)) (addE (ds.map .d) ds lo hi false [] (fun fl σ1=>onF fl (exV T0 (ops T0 28) ((bodyA 331).drop 3) σ1 (retK 0 ⟨sc,[],[]⟩ K)) (retK 0 ⟨sc,[],[]⟩ K .brk σ1) fun u=>retK 0 ⟨sc,[],[]⟩ K (.ret u) σ1)):=by kernel_rfl
theorem add_step0 {ds acc:List Dat} {lo hi a b:Int} {r:List SV} {K:KF}:addE (.d (spX (a,b)) :: r) ds lo hi false acc K =
  bite (decide (b < lo)) (req (Nat.ble acc.length 1000) (addE r ds lo hi false (acc ++ [spX (a,b)]) K))
   (bite (decide (hi < a)) (req (Nat.ble acc.length 1000) (req (Nat.ble (acc ++ [spX (lo,hi)]).length 1000) (addE r ds lo hi true ((acc ++ [spX (lo,hi)]) ++ [spX (a,b)]) K)))
    (addE r ds (mnV lo a) (mxV hi b) false acc K)):=by kernel_rfl
theorem add_step1 {ds acc:List Dat} {lo hi a b:Int} {r:List SV} {K:KF}:addE (.d (spX (a,b)) :: r) ds lo hi true acc K =
  bite (decide (b < lo)) (req (Nat.ble acc.length 1000) (addE r ds lo hi true (acc ++ [spX (a,b)]) K))
   (bite (decide (hi < a)) (req (Nat.ble acc.length 1000) (addE r ds lo hi true (acc ++ [spX (a,b)]) K))
    (addE r ds (mnV lo a) (mxV hi b) true acc K)):=by kernel_rfl
theorem add_end1 {ds acc:List Dat} {lo hi:Int} {sc:Scope} {K:KV}:exV T0 (ops T0 28) ((bodyA 331).drop 3) (addσ ds lo hi true acc) (retK 0 ⟨sc,[],[]⟩ K)=K (dsL acc) ⟨sc,[],[]⟩:=by kernel_rfl
theorem add_end0 {ds acc:List Dat} {lo hi:Int} {sc:Scope} {K:KV}:exV T0 (ops T0 28) ((bodyA 331).drop 3) (addσ ds lo hi false acc) (retK 0 ⟨sc,[],[]⟩ K)=req (Nat.ble (acc.length + 1) 1000) (K (dsL (acc ++ [spX (lo,hi)])) ⟨sc,[],[]⟩):=by kernel_rfl
noncomputable def addS:List (Int × Int)→Int→Int→List (Int × Int)
  | [],lo,hi=>[(lo,hi)]
  | p :: xs,lo,hi=>bif decide (p.2 < lo) then p :: addS xs lo hi else bif decide (hi < p.1) then (lo,hi) :: p :: xs else addS xs (mnV lo p.1) (mxV hi p.2)
theorem addS_c {p:Int × Int} {xs:List (Int × Int)} {lo hi:Int}:addS (p :: xs) lo hi=bif decide (p.2 < lo) then p :: addS xs lo hi else bif decide (hi < p.1) then (lo,hi) :: p :: xs else addS xs (mnV lo p.1) (mxV hi p.2):=rfl
noncomputable def Gap (xs:List (Int × Int)):Prop:=(∀ p ∈ xs,p.1 < p.2) ∧ xs.Pairwise fun p q=>p.2 < q.1
theorem Gap.tail {p:Int × Int} {xs:List (Int × Int)} (h:Gap (p :: xs)):Gap xs:=⟨fun q hq=>h.1 q (List.mem_cons_of_mem _ hq),(List.pairwise_cons.mp h.2).2⟩
theorem mapS {q:Int × Int} {l:List (Int × Int)}:l.map spX ++ [spX q]=(l ++ [q]).map spX:=by rw [List.map_append]; rfl
theorem add_put {ds:List Dat} {lo hi:Int} {K:KF} (hlt:lo < hi) {xs:List (Int × Int)}:∀ {acc:List (Int × Int)},acc.length + xs.length ≤ 1000→(∀ p ∈ xs,hi < p.1 ∧ p.1 < p.2)→K .next (addσ ds lo hi true ((acc ++ xs).map spX))→addE (spV xs) ds lo hi true (acc.map spX) K:=by
  induction xs with
  | nil=>intro acc _ _ h; rw [List.append_nil] at h; exact h
  | cons p r ih =>
    intro acc hl hp h
    have h1:=hp p (List.mem_cons_self ..)
    rw [List.length_cons] at hl
    refine (add_step1 (a:=p.1) (b:=p.2) (r:=spV r)).mpr ?_
    rw [decide_eq_false (show ¬ p.2 < lo by exact ln [] [_,_,_,_] [.Lt (.v 0) (.v 1),.a (.Lt (.v 1) (.v 2)) (.Lt (.v 2) (.v 3))] (.n (.Lt (.v 3) (.v 0))) (.w [1,1,1,1]) zr hlt h1),decide_eq_true h1.1]
    refine rqLe (by rw [List.length_map]; exact ln [_,_] [] [.le (.a (.v 0) (.a (.v 1) (.k 1))) (.k 1000)] (.le (.v 0) (.k 1000)) (.w [1,1]) zr hl) ?_
    rw [mapS]
    exact ih (by rw [List.length_append,List.length_singleton]; exact ln [_,_] [] [.le (.a (.v 0) (.a (.v 1) (.k 1))) (.k 1000)] (.le (.a (.a (.v 0) (.k 1)) (.v 1)) (.k 1000)) (.w [1,1]) zr hl) (fun q hq=>hp q (List.mem_cons_of_mem _ hq)) (by rw [List.append_assoc]; exact h)
theorem add_loop {ds:List Dat} {sc:Scope} {K:KV} {xs:List (Int × Int)}:∀ {acc:List (Int × Int)} {lo hi:Int},acc.length + xs.length ≤ 900→lo < hi→Gap xs→K (dsL ((acc ++ addS xs lo hi).map spX)) ⟨sc,[],[]⟩ →
    addE (spV xs) ds lo hi false (acc.map spX) (fun fl σ1=>onF fl (exV T0 (ops T0 28) ((bodyA 331).drop 3) σ1 (retK 0 ⟨sc,[],[]⟩ K)) (retK 0 ⟨sc,[],[]⟩ K .brk σ1) fun u=>retK 0 ⟨sc,[],[]⟩ K (.ret u) σ1):=by
  induction xs with
  | nil =>
    intro acc lo hi hl hlt _ h
    refine add_end0.mpr (rqLe (by rw [List.length_map]; simp at hl; exact ln [_] [] [.le (.v 0) (.k 900)] (.le (.a (.v 0) (.k 1)) (.k 1000)) (.w [1,1]) zr hl) ?_)
    rw [mapS]
    exact h
  | cons p r ih =>
    intro acc lo hi hl hlt hg h
    rw [List.length_cons] at hl
    rw [addS_c] at h
    refine (add_step0 (a:=p.1) (b:=p.2) (r:=spV r)).mpr (bi (fun c=>?_) fun c=>bi (fun d=>?_) fun d=>?_)
    · rw [c] at h
      refine rqLe (by rw [List.length_map]; exact ln [_,_] [] [.le (.a (.v 0) (.a (.v 1) (.k 1))) (.k 900)] (.le (.v 0) (.k 1000)) (.w [1,1]) zr hl) ?_
      rw [mapS]
      exact ih (by rw [List.length_append,List.length_singleton]; exact ln [_,_] [] [.le (.a (.v 0) (.a (.v 1) (.k 1))) (.k 900)] (.le (.a (.a (.v 0) (.k 1)) (.v 1)) (.k 900)) (.w [1,1]) zr hl) hlt hg.tail (by rw [List.append_assoc]; exact h)
    · rw [c,d] at h
      have d:=of_decide_eq_true d
      refine rqLe (by rw [List.length_map]; exact ln [_,_] [] [.le (.a (.v 0) (.a (.v 1) (.k 1))) (.k 900)] (.le (.v 0) (.k 1000)) (.w [1,1]) zr hl) (rqLe (by rw [List.length_append,List.length_map,List.length_singleton]; exact ln [_,_] [] [.le (.a (.v 0) (.a (.v 1) (.k 1))) (.k 900)] (.le (.a (.v 0) (.k 1)) (.k 1000)) (.w [1,1]) zr hl) ?_)
      rw [mapS,mapS]
      refine add_put hlt (by simp only [List.length_append,List.length_singleton]; exact ln [_,_] [] [.le (.a (.v 0) (.a (.v 1) (.k 1))) (.k 900)] (.le (.a (.a (.a (.v 0) (.k 1)) (.k 1)) (.v 1)) (.k 1000)) (.w [1,1]) zr hl) (fun q hq=>?_) (add_end1.mpr (by rw [List.append_assoc,List.append_assoc]; exact h))
      have h1:=hg.1 q (List.mem_cons_of_mem _ hq)
      have h2:=(List.pairwise_cons.mp hg.2).1 q hq
      have h3:=hg.1 p (List.mem_cons_self ..)
      exact ln [] [_,_,_,_,_] [.Lt (.v 0) (.v 1),.Lt (.v 2) (.v 3),.Lt (.v 4) (.v 2),.Lt (.v 1) (.v 4)] (.a (.Lt (.v 0) (.v 2)) (.Lt (.v 2) (.v 3))) (.b (.w [1,1,0,1,1]) (.w [0,0,1,0,1])) zr d h1 h2 h3
    · rw [c,d] at h
      exact ih (by exact ln [_,_] [] [.le (.a (.v 0) (.a (.v 1) (.k 1))) (.k 900)] (.le (.a (.v 0) (.v 1)) (.k 900)) (.w [1,1]) zr hl) (Int.lt_of_le_of_lt (mnV_spec lo p.1).1 (Int.lt_of_lt_of_le hlt (mxV_spec hi p.2).1)) hg.tail h
theorem add_run {sc:Scope} {lo hi:Int} {xs:List (Int × Int)} {K:KV} (hl:lo < hi) (hx:xs.length ≤ 900) (hg:Gap xs) (h:K (dsL ((addS xs lo hi).map spX)) ⟨sc,[],[]⟩):(ops T0 30).cl (.ref 331) [dsL (xs.map spX),.d (.int lo),.d (.int hi)] ⟨sc,[],[]⟩ K:=by
  refine add_in.mpr ?_
  rw [decide_eq_false (show ¬ lo ≥ hi by exact ln [] [_,_] [.Lt (.v 0) (.v 1)] (.n (.Le (.v 1) (.v 0))) (.w [1,1]) zr hl)]
  exact add_loop (acc:=[]) (by simpa using hx) hl hg h
noncomputable def tfσ (ds:List Dat) (t:Int) (fd:List UInt8) (acc:List Dat):Sy:=⟨scA 324,[(strS "pieces",some (dsL ds)),(strS "at",some (.d (.int t))),(strS "found",some (.d (byt fd))),(strS "left",some (.obj 0)),(strS "start",none),(strS "octets",none)],[.dlist acc]⟩
noncomputable def pcO (a:Int) (X:List UInt8):Dat:=.tuple [.int a,byt X]
noncomputable abbrev tfE (r:List SV) (ds:List Dat) (t:Int) (fd:List UInt8) (acc:List Dat) (K:KF):Prop:=loopF T0 28 (stA (bodyA 324) 1) 1 (nm ["start","octets"]) r (tfσ ds t fd acc) K
theorem tf_in {ds:List Dat} {t:Int} {sc:Scope} {K:KV}:(ops T0 30).cl (.ref 324) [dsL ds,.d (.int t)] ⟨sc,[],[]⟩ K=tfE (ds.map .d) ds t [] [] (fun fl σ1=>onF fl (exV T0 (ops T0 28) ((bodyA 324).drop 2) σ1 (retK 0 ⟨sc,[],[]⟩ K)) (retK 0 ⟨sc,[],[]⟩ K .brk σ1) fun u=>retK 0 ⟨sc,[],[]⟩ K (.ret u) σ1):=by kernel_rfl
theorem tf_step {ds acc:List Dat} {t a:Int} {fd X:List UInt8} {r:List SV} {K:KF}:tfE (.d (pcO a X) :: r) ds t fd acc K =
  bite (decide (a ≤ t)) (req (Nat.ble X.length 100000) (bite (decide (t < a + (X.length:Int))) (req (Nat.ble X.length 1000) (tfE r ds t (cutL X (some (t - a)) none) acc K)) (bite (decide (a > t)) (req (Nat.ble acc.length 1000) (tfE r ds t fd (acc ++ [pcO a X]) K)) (tfE r ds t fd acc K))))
    (bite (decide (a > t)) (req (Nat.ble acc.length 1000) (tfE r ds t fd (acc ++ [pcO a X]) K)) (tfE r ds t fd acc K)):=by kernel_rfl
theorem tf_end {ds acc:List Dat} {t:Int} {fd:List UInt8} {sc:Scope} {K:KV}:exV T0 (ops T0 28) ((bodyA 324).drop 2) (tfσ ds t fd acc) (retK 0 ⟨sc,[],[]⟩ K)=K (.d (.tuple [byt fd,.list acc])) ⟨sc,[],[]⟩:=by kernel_rfl
theorem sl_len {D:List UInt8} {a b:Int} (h0:0 ≤ a) (h1:a ≤ b) (h2:b ≤ D.length):((sl D a b).length:Int)=b - a:=by
  obtain ⟨x,rfl⟩:=Int.eq_ofNat_of_zero_le h0
  obtain ⟨y,rfl⟩:=Int.eq_ofNat_of_zero_le (Int.le_trans h0 h1)
  unfold sl
  rw [List.length_take,List.length_drop,Int.toNat_natCast,Int.toNat_natCast,Nat.min_eq_left (Nat.sub_le_sub_right (Int.ofNat_le.mp h2) _),Int.ofNat_sub (Int.ofNat_le.mp h1)]
theorem clip_of {n:Nat} {k:Int} (h:0 ≤ k):clipAt n k=min k.toNat n:=by
  obtain ⟨m,rfl⟩:=Int.eq_ofNat_of_zero_le h
  unfold clipAt
  rw [if_neg (Int.not_lt.mpr h),Int.max_eq_right (Int.le_min.mpr ⟨h,Int.natCast_nonneg n⟩),Int.toNat_natCast]
  rcases Nat.le_total m n with q | q
  · rw [Int.min_eq_left (Int.ofNat_le.mpr q),Nat.min_eq_left q,Int.toNat_natCast]
  · rw [Int.min_eq_right (Int.ofNat_le.mpr q),Nat.min_eq_right q,Int.toNat_natCast]
theorem cutL_lo {Y:List UInt8} {k:Int} (h:0 ≤ k):cutL Y (some k) none=Y.drop k.toNat:=by
  unfold cutL
  simp only [Option.elim,clip_of h]
  by_cases c:k.toNat ≤ Y.length
  · rw [Nat.min_eq_left c,List.take_of_length_le (by rw [List.length_drop]; exact Nat.le_refl _)]
  · rw [Nat.min_eq_right (by exact ln [_] [_] [.n (.le (.t (.v 0)) (.v 0))] (.le (.v 0) (.t (.v 0))) (.b (.b (.w [1,0,1]) (.w [1])) (.b (.w [1,0,1,1]) (.w [1,0,1]))) zr c),Nat.sub_self,List.take_zero,List.drop_eq_nil_of_le (by exact ln [_] [_] [.n (.le (.t (.v 0)) (.v 0))] (.le (.v 0) (.t (.v 0))) (.b (.b (.w [1,0,1]) (.w [1])) (.b (.w [1,0,1,1]) (.w [1,0,1]))) zr c)]
theorem sl_drop {D:List UInt8} {a b k:Int} (h0:0 ≤ a) (h1:0 ≤ k):(sl D a b).drop k.toNat=sl D (a + k) b:=by
  unfold sl
  rw [List.drop_take,List.drop_drop,Int.toNat_add h0 h1,Nat.sub_sub]
theorem sl_take {D:List UInt8} {a b k:Int} (h0:0 ≤ a) (h1:0 ≤ k) (h2:a + k ≤ b):(sl D a b).take k.toNat=sl D a (a + k):=by
  have h3:=Int.toNat_le_toNat h2
  unfold sl
  rw [Int.toNat_add h0 h1] at h3
  rw [List.take_take,Int.toNat_add h0 h1,Nat.add_sub_cancel_left,Nat.min_eq_left (Nat.le_sub_of_add_le' h3)]
theorem sl_app {D:List UInt8} {a b c:Int} (h0:0 ≤ a) (h1:a ≤ b) (h2:b ≤ c):sl D a b ++ sl D b c=sl D a c:=by
  have h3:=Int.toNat_le_toNat h1
  have h4:=Int.toNat_le_toNat h2
  unfold sl
  rw [← Nat.sub_add_sub_cancel h4 h3,Nat.add_comm,List.take_add,List.drop_drop,Nat.add_sub_cancel' h3]
theorem sl_nil {D:List UInt8} {a b:Int} (h:b ≤ a):sl D a b=[]:=by unfold sl; rw [Nat.sub_eq_zero_of_le (Int.toNat_le_toNat h),List.take_zero]
theorem cutL_hi {Y:List UInt8} {k:Int} (h:0 ≤ k):cutL Y none (some k)=Y.take k.toNat:=by
  unfold cutL
  simp only [Option.elim,clip_of h]
  rw [List.drop_zero,Nat.sub_zero]
  by_cases c:k.toNat ≤ Y.length
  · rw [Nat.min_eq_left c]
  · rw [Nat.min_eq_right (by exact ln [_] [_] [.n (.le (.t (.v 0)) (.v 0))] (.le (.v 0) (.t (.v 0))) (.b (.b (.w [1,0,1]) (.w [1])) (.b (.w [1,0,1,1]) (.w [1,0,1]))) zr c),List.take_of_length_le (Nat.le_refl _),List.take_of_length_le (by exact ln [_] [_] [.n (.le (.t (.v 0)) (.v 0))] (.le (.v 0) (.t (.v 0))) (.b (.b (.w [1,0,1]) (.w [1])) (.b (.w [1,0,1,1]) (.w [1,0,1]))) zr c)]
theorem cutL_at {D:List UInt8} {a b:Int} (h0:0 ≤ a) (h1:a ≤ b) (h2:b ≤ D.length):cutL D (some a) (some b)=sl D a b:=by
  unfold cutL sl
  simp only [Option.elim,clip_of h0,clip_of (Int.le_trans h0 h1)]
  rw [Nat.min_eq_left (by exact ln [_] [_] [.Le (.v 0) (.c (.v 0))] (.le (.t (.v 0)) (.v 0)) (.b (.w [1,1]) (.w [0,1])) zr h2),Nat.min_eq_left (by exact ln [_] [_,_] [.Le (.v 0) (.v 1),.Le (.v 1) (.c (.v 0))] (.le (.t (.v 0)) (.v 0)) (.b (.w [1,1,1]) (.w [0,0,1])) zr h1 h2)]
noncomputable def tkF (D:List UInt8) (t:Int):List (Int × Int)→List UInt8 × List (Int × Int)
  | []=>([],[])
  | p :: r=>bif decide (p.1=t) then (sl D t p.2,r) else ([],p :: r)
noncomputable def pcV (D:List UInt8) (l:List (Int × Int)):List SV:=(l.map (pcX D)).map .d
structure PcOk (D:List UInt8) (xs:List (Int × Int)):Prop where
  each:∀ p ∈ xs,0 ≤ p.1 ∧ p.1 < p.2 ∧ p.2 ≤ D.length
  size:D.length ≤ 100
  len:xs.length ≤ 100
theorem mapP {D:List UInt8} {q:Int × Int} {l:List (Int × Int)}:l.map (pcX D) ++ [pcO q.1 (sl D q.1 q.2)]=(l ++ [q]).map (pcX D):=by rw [List.map_append]; rfl
theorem tf_rest {D:List UInt8} {ds:List Dat} {t:Int} {fd:List UInt8} {K:KF} {xs:List (Int × Int)}:∀ {acc:List (Int × Int)},(∀ p ∈ xs,t < p.1)→acc.length + xs.length ≤ 1000→K .next (tfσ ds t fd ((acc ++ xs).map (pcX D)))→tfE (pcV D xs) ds t fd (acc.map (pcX D)) K:=by
  induction xs with
  | nil=>intro acc _ _ h; rw [List.append_nil] at h; exact h
  | cons p r ih =>
    intro acc hp hl h
    have h1:=hp p (List.mem_cons_self ..)
    rw [List.length_cons] at hl
    refine (tf_step (a:=p.1) (X:=sl D p.1 p.2) (r:=pcV D r)).mpr ?_
    rw [decide_eq_false (show ¬ p.1 ≤ t by exact ln [] [_,_] [.Lt (.v 0) (.v 1)] (.n (.Le (.v 1) (.v 0))) (.w [1,1]) zr h1),decide_eq_true (show p.1 > t from h1)]
    refine rqLe (by rw [List.length_map]; exact ln [_,_] [] [.le (.a (.v 0) (.a (.v 1) (.k 1))) (.k 1000)] (.le (.v 0) (.k 1000)) (.w [1,1]) zr hl) ?_
    rw [mapP]
    exact ih (fun q hq=>hp q (List.mem_cons_of_mem _ hq)) (by rw [List.length_append,List.length_singleton]; exact ln [_,_] [] [.le (.a (.v 0) (.a (.v 1) (.k 1))) (.k 1000)] (.le (.a (.a (.v 0) (.k 1)) (.v 1)) (.k 1000)) (.w [1,1]) zr hl) (by rw [List.append_assoc]; exact h)
theorem tf_run {D:List UInt8} {sc:Scope} {t:Int} {xs:List (Int × Int)} {K:KV} (hP:PcOk D xs) (hg:xs.Pairwise fun p q=>p.2 < q.1) (ht:∀ p ∈ xs,t ≤ p.1) (h:K (.d (.tuple [byt (tkF D t xs).1,.list ((tkF D t xs).2.map (pcX D))])) ⟨sc,[],[]⟩) :
    (ops T0 30).cl (.ref 324) [dsL (xs.map (pcX D)),.d (.int t)] ⟨sc,[],[]⟩ K:=by
  refine tf_in.mpr ?_
  cases xs with
  | nil=>exact tf_end.mpr h
  | cons p r =>
    have h0:=hP.each p (List.mem_cons_self ..)
    have h1:=ht p (List.mem_cons_self ..)
    have hl:=hP.len
    rw [List.length_cons] at hl
    have hs:=sl_len h0.1 (Int.le_of_lt h0.2.1) h0.2.2
    have hz:=hP.size
    by_cases c:p.1=t
    · have e:tkF D t (p :: r)=(sl D t p.2,r):=by show (bif decide (p.1=t) then (sl D t p.2,r) else ([],p :: r))=_; rw [decide_eq_true c]; rfl
      rw [e] at h
      refine (tf_step (a:=p.1) (X:=sl D p.1 p.2) (r:=pcV D r)).mpr ?_
      rw [decide_eq_true (show p.1 ≤ t by exact ln [] [_,_] [.Eq (.v 0) (.v 1)] (.Le (.v 0) (.v 1)) (.w [1,0,1]) zr c),decide_eq_true (show t < p.1 + ((sl D p.1 p.2).length:Int) by exact ln [_,_] [_,_,_] [.a (.Le (.k 0) (.v 0)) (.a (.Lt (.v 0) (.v 1)) (.Le (.v 1) (.c (.v 0)))),.Eq (.c (.v 1)) (.s (.v 1) (.v 0)),.Eq (.v 0) (.v 2)] (.Lt (.v 2) (.a (.v 0) (.c (.v 1)))) (.w [0,1,0,1,0,1,0,1]) zr h0 hs c)]
      refine rqLe (by exact ln [_,_] [_,_] [.a (.Le (.k 0) (.v 0)) (.a (.Lt (.v 0) (.v 1)) (.Le (.v 1) (.c (.v 0)))),.Eq (.c (.v 1)) (.s (.v 1) (.v 0)),.le (.v 0) (.k 100)] (.le (.v 1) (.k 100000)) (.w [1,1,0,1,0,1,1]) zr h0 hs hz) (rqLe (by exact ln [_,_] [_,_] [.a (.Le (.k 0) (.v 0)) (.a (.Lt (.v 0) (.v 1)) (.Le (.v 1) (.c (.v 0)))),.Eq (.c (.v 1)) (.s (.v 1) (.v 0)),.le (.v 0) (.k 100)] (.le (.v 1) (.k 1000)) (.w [1,1,0,1,0,1,1]) zr h0 hs hz) ?_)
      rw [show t - p.1=0 by exact ln [] [_,_] [.Eq (.v 0) (.v 1)] (.Eq (.s (.v 1) (.v 0)) (.k 0)) (.b (.w [1,0,1]) (.w [0,1,1])) zr c,cutL_lo (Int.le_refl 0),c]
      exact tf_rest (acc:=[]) (fun q hq=>by have:=(List.pairwise_cons.mp hg).1 q hq; exact ln [_] [_,_,_,_] [.Eq (.c (.v 0)) (.s (.v 0) (.v 1)),.Eq (.v 1) (.v 2),.Lt (.v 0) (.v 3)] (.Lt (.v 2) (.v 3)) (.w [1,0,1,1,0,1]) zr hs c this) (by simp; exact ln [_] [] [.le (.a (.v 0) (.k 1)) (.k 100)] (.le (.v 0) (.k 1000)) (.w [1,1]) zr hl) (tf_end.mpr h)
    · have e:tkF D t (p :: r)=([],p :: r):=by show (bif decide (p.1=t) then (sl D t p.2,r) else ([],p :: r))=_; rw [decide_eq_false c]; rfl
      rw [e] at h
      exact tf_rest (acc:=[]) (fun q hq=>by
        rcases List.mem_cons.mp hq with e | hq
        · rw [e]; exact ln [] [_,_] [.Le (.v 0) (.v 1),.n (.Eq (.v 1) (.v 0))] (.Lt (.v 0) (.v 1)) (.b (.w [1,1]) (.w [1,0,1])) zr h1 c
        · have:=(List.pairwise_cons.mp hg).1 q hq; exact ln [_] [_,_,_,_] [.Le (.v 0) (.v 1),.Eq (.c (.v 0)) (.s (.v 2) (.v 1)),.Lt (.v 2) (.v 3)] (.Lt (.v 0) (.v 3)) (.w [1,1,0,1,1]) zr h1 hs this) (by simp; exact ln [_] [] [.le (.a (.v 0) (.k 1)) (.k 100)] (.le (.v 0) (.k 999)) (.w [1,1]) zr hl) (tf_end.mpr h)
noncomputable def f331 (sc:Scope) (args:List SV) (k:SV→Prop):Prop:=∃ xs lo hi,args=[dsL (xs.map spX),.d (.int lo),.d (.int hi)] ∧ (lo < hi ∧ xs.length ≤ 900 ∧ Gap xs) ∧ k (dsL ((addS xs lo hi).map spX))
noncomputable def f338 (sc:Scope) (args:List SV) (k:SV→Prop):Prop:=∃ xs lo hi,args=[dsL (xs.map spX),.d (.int lo),.d (.int hi)] ∧ (lo < hi ∧ xs.length ≤ 400) ∧ k (dsL ((cutS lo hi xs).map spX))
noncomputable def f352 (sc:Scope) (args:List SV) (k:SV→Prop):Prop:=∃ (ys:List (Int × Int)) (o e:Int),args=[dsL [spX (o,e)],dsL (ys.map spX)] ∧ (o < e ∧ ∀ p ∈ ys,p.1 < p.2 ∧ (p.2 ≤ o ∨ e ≤ p.1)) ∧ k (dsL [spX (o,e)])
noncomputable def f317 (sc:Scope) (args:List SV) (k:SV→Prop):Prop:=∃ D xs o e,args=[dsL (xs.map (pcX D)),.d (.int o),.d (byt (sl D o e))] ∧ (PcOk D xs ∧ xs.length < 19 ∧ (xs.Pairwise fun p q=>p.2 < q.1) ∧ (0 ≤ o ∧ o < e ∧ e ≤ D.length) ∧ (addS xs o e).Pairwise fun p q=>p.1 < q.1) ∧ k (dsL ((addS xs o e).map (pcX D)))
noncomputable def f324 (sc:Scope) (args:List SV) (k:SV→Prop):Prop:=∃ D xs t,args=[dsL (xs.map (pcX D)),.d (.int t)] ∧ (PcOk D xs ∧ (xs.Pairwise fun p q=>p.2 < q.1) ∧ ∀ p ∈ xs,t ≤ p.1) ∧ k (.d (.tuple [byt (tkF D t xs).1,.list ((tkF D t xs).2.map (pcX D))]))
noncomputable def f96 (sc:Scope) (args:List SV) (k:SV→Prop):Prop:=∃ b,args=[.d (byt b),.d (.int 100)] ∧ (ops T0 30).cl (.ref 96) [.d (byt b),.d (.int 100)] ⟨sc,[],[]⟩ fun v _=>isD v=true ∧ k v
noncomputable def pureL:List (Nat × (Scope→List SV→(SV→Prop)→Prop)):=[(331,f331),(338,f338),(352,f352),(317,f317),(324,f324),(96,f96)]
noncomputable def T1:Tab:=tab (fun a=>(lookN a pureL).map spA) none fzL fgL
end Mine
section
namespace Mine
noncomputable def cmpP:Stmt→List Expr × Expr × List Expr × Scope
  | .Assign tg (.BinOp _ _ (.ListComp elt (g :: _) sc _) _) _=>(tg,elt,g.ifs,sc)
  | _=>([],.Name ⟨#[]⟩ default,[],lawR.scope)
noncomputable def cmp0:List Expr × Expr × List Expr × Scope:=cmpP (stA (bodyA 467) 0)
noncomputable def cmpT:Expr:=@Option.rec Expr (fun _=>Expr) (.Name ⟨#[]⟩ default) (fun e=>e) cmp0.1[0]?
noncomputable def locA (r k:Bool) (o:Int) (X:List UInt8) (told:Option SV):List (Str × Option SV):=[(strS "side",some (.obj (sdN r + 7))),(strS "space",some (.d (spc k))),(strS "offset",some (.d (.int o))),(strS "data",some (.d (byt X))),(strS "told",told)]
noncomputable def σA (r k:Bool) (o:Int) (X:List UInt8) (told:Option SV) (j:Nat) (B:Box) (σ:LS) (l:List Dat):Sy:=⟨scA 467,locA r k o X told,hpJ j B σ l⟩
noncomputable abbrev compA (n:Nat) (vs acc:List SV) (σ:Sy) (K:KL):Prop:=compL (ops T1 (n + 20)) cmp0.2.1 cmp0.2.2.1 (strS "at") cmp0.2.2.2 vs acc σ K
section
variable {B:Box} {σ:LS} {l:List Dat} {du ac:List (Int × Int)} {w:List Dat} {t o v:Int} {cm:List Dat} {j n:Nat} {X:List UInt8} {b k:Bool} {told:Option SV}
noncomputable abbrev anyI (cm:List Dat) (v:Int):Bool:=cm.any fun d=>eqDb d (.int v)
theorem comp_step (hj:j=0 ∨ j=1 ∨ j=2) {r acc:List SV} {K:KL}:compA n (.d (.int v) :: r) acc (σA (!b) k o X told j B (upCh σ b k ⟨du,ac,t,w,cm⟩) l) K =
   req (cm.all fun d=>eqApp 2 d (.int v)) (bite ((!anyI cm v) == true) (compA n r (acc ++ [.d (.int v)]) (σA (!b) k o X told j B (upCh σ b k ⟨du,ac,t,w,cm⟩) l) K)
    (bite (!anyI cm v) (compA n r (acc ++ [.d (.int v)]) (σA (!b) k o X told j B (upCh σ b k ⟨du,ac,t,w,cm⟩) l) K) (compA n r acc (σA (!b) k o X told j B (upCh σ b k ⟨du,ac,t,w,cm⟩) l) K))):=by
  rcases hj with rfl | rfl | rfl <;> cases b <;> cases k <;> kernel_rfl
noncomputable def cameR (n:Nat) (cm:List Dat) (K:KF):KV:=fun v σ=>binV .Add (dsL cm) v σ fun y σ1=>asgV T1 (ops T1 (n + 21)) cmpT y σ1 fun σ2=>K .next σ2
theorem came_in (hj:j=0 ∨ j=1 ∨ j=2) {K:KF}:st1 T1 (ops T1 (n + 21)) (stA (bodyA 467) 0) (σA (!b) k o X told j B (upCh σ b k ⟨du,ac,t,w,cm⟩) l) K =
   req (Nat.ble X.length 100000) (nOpt (tIf (Builtin.Range.small o (o + (X.length:Int)) 1) (some (rngL 1 (Builtin.Range.rangeSize o (o + (X.length:Int)) 1).toNat o))) fun vs=>req (Nat.ble vs.length 1000)
    (compL (ops T1 (n + 19)) cmp0.2.1 cmp0.2.2.1 (strS "at") cmp0.2.2.2 vs [] (σA (!b) k o X told j B (upCh σ b k ⟨du,ac,t,w,cm⟩) l) fun vs σ3=>@Option.rec (List Dat) (fun _=>Prop) (cameR n cm K (.obj σ3.hp.length) (σ3.new (.list vs))) (fun ds=>cameR n cm K (.d (.list ds)) σ3) (datsOf toDat vs))):=by
  rcases hj with rfl | rfl | rfl <;> cases b <;> cases k <;> kernel_rfl
theorem came_out (hj:j=0 ∨ j=1 ∨ j=2) {K:KF} {is:List Dat}:cameR n cm K (.d (.list is)) (σA (!b) k o X told j B (upCh σ b k ⟨du,ac,t,w,cm⟩) l) =
   req (Nat.ble (cm.length + is.length) 1000) (K .next (σA (!b) k o X told j B (upCh σ b k ⟨du,ac,t,w,cm ++ is⟩) l)):=by
  rcases hj with rfl | rfl | rfl <;> cases b <;> cases k <;> kernel_rfl
end
end Mine
end
namespace Mine
noncomputable def newI (cs:List Int):Nat→Int→List Int
  | 0,_=>[]
  | n + 1,a=>(bif cs.any (fun x=>decide (x=a)) then [] else [a]) ++ newI cs n (a + 1)
theorem newI_z {cs:List Int} {a:Int}:newI cs 0 a=[]:=rfl
theorem newI_s {cs:List Int} {n:Nat} {a:Int}:newI cs (n + 1) a=(bif cs.any (fun x=>decide (x=a)) then [] else [a]) ++ newI cs n (a + 1):=rfl
theorem datsOf_c {f:SV→Option Dat} {v:SV} {r:List SV}:datsOf f (v :: r)=(f v).bind fun d=>(datsOf f r).map (d :: ·):=rfl
theorem dats_int {l:List Int}:datsOf toDat (l.map fun v=>SV.d (.int v))=some (l.map .int):=by
  induction l with
  | nil=>rfl
  | cons a r ih=>rw [List.map_cons,datsOf_c,ih]; rfl
theorem all_int {cs:List Int} {v:Int}:((cs.map Dat.int).all fun d=>eqApp 2 d (.int v))=true:=by
  rw [List.all_map,List.all_eq_true]; intro x _; rfl
section
variable {B:Box} {σ:LS} {l:List Dat} {du ac:List (Int × Int)} {w:List Dat} {t o v:Int} {j n:Nat} {X:List UInt8} {b k:Bool} {told:Option SV}
theorem comp_run (hj:j=0 ∨ j=1 ∨ j=2) {cs:List Int} {K:KL} {m:Nat}:∀ {a:Int} {acc:List Int},K ((acc ++ newI cs m a).map fun v=>.d (.int v)) (σA (!b) k o X told j B (upCh σ b k ⟨du,ac,t,w,cs.map .int⟩) l) →
    compA n (rngL 1 m a) (acc.map fun v=>.d (.int v)) (σA (!b) k o X told j B (upCh σ b k ⟨du,ac,t,w,cs.map .int⟩) l) K:=by
  induction m with
  | zero=>intro a acc h; rw [newI_z,List.append_nil] at h; exact h
  | succ m ih =>
    intro a acc h
    refine (comp_step hj (v:=a) (r:=rngL 1 m (a + 1))).mpr (rq all_int ?_)
    have e:anyI (cs.map .int) a=cs.any (fun x=>decide (x=a)):=by rw [anyI,List.any_map]; rfl
    rw [e]
    rw [newI_s] at h
    cases e3:cs.any (fun x=>decide (x=a)) with
    | true=>rw [e3] at h; exact ih h
    | false =>
      rw [e3] at h
      have e2:(acc.map fun v=>SV.d (.int v)) ++ [SV.d (.int a)]=(acc ++ [a]).map fun v=>SV.d (.int v):=by rw [List.map_append]; rfl
      show compA n (rngL 1 m (a + 1)) ((acc.map fun v=>SV.d (.int v)) ++ [SV.d (.int a)]) _ K
      rw [e2]
      exact ih (by rw [List.append_assoc]; exact h)
theorem rngC_len {c:Int} {m:Nat}:∀ {a:Int},(rngL c m a).length=m:=by
  induction m with
  | zero=>intro a; rfl
  | succ m ih=>intro a; exact congrArg Nat.succ ih
theorem newI_len {cs:List Int} {m:Nat}:∀ {a:Int},(newI cs m a).length ≤ m:=by
  induction m with
  | zero=>intro a; exact Nat.le_refl _
  | succ m ih =>
    intro a
    rw [newI_s]
    cases cs.any (fun x=>decide (x=a)) with
    | true=>exact Nat.le_succ_of_le ih
    | false=>exact Nat.succ_le_succ ih
theorem came_run (hj:j=0 ∨ j=1 ∨ j=2) {cs:List Int} {K:KF} (ho:0 ≤ o ∧ o ≤ 1000) (hX:X.length ≤ 100) (hX0:0 < X.length) (hc:cs.length ≤ 100) (h:K .next (σA (!b) k o X told j B (upCh σ b k ⟨du,ac,t,w,(cs ++ newI cs X.length o).map .int⟩) l)) :
    st1 T1 (ops T1 (n + 22)) (stA (bodyA 467) 0) (σA (!b) k o X told j B (upCh σ b k ⟨du,ac,t,w,cs.map .int⟩) l) K:=by
  refine (came_in (n:=n + 1) hj).mpr (rqLe (by exact ln [_] [] [.le (.v 0) (.k 100)] (.le (.v 0) (.k 100000)) (.w [1,1]) zr hX) ?_)
  have e1:Builtin.Range.small o (o + (X.length:Int)) 1=true:=small_one (by omega) (by omega) (by omega) (by omega)
  have e2:Builtin.Range.rangeSize o (o + (X.length:Int)) 1=X.length:=by
    unfold Builtin.Range.rangeSize
    rw [if_pos (by decide),if_pos (by exact ln [_] [_] [.lt (.k 0) (.v 0)] (.Lt (.v 0) (.a (.v 0) (.c (.v 0)))) (.w [1,1]) zr hX0),Int.ediv_one]
    exact ln [_] [_] [] (.Eq (.a (.s (.s (.a (.v 0) (.c (.v 0))) (.v 0)) (.k 1)) (.k 1)) (.c (.v 0))) (.b (.w [1]) (.w [1])) zr
  rw [e1,e2,Int.toNat_natCast]
  refine rqLe (by rw [rngC_len]; exact ln [_] [] [.le (.v 0) (.k 100)] (.le (.v 0) (.k 1000)) (.w [1,1]) zr hX) (comp_run hj (acc:=[]) ?_)
  rw [dats_int]
  refine (came_out hj (is:=(newI cs X.length o).map .int)).mpr (rqLe ?_ ?_)
  · have:=newI_len (cs:=cs) (m:=X.length) (a:=o)
    rw [List.length_map,List.length_map]; exact ln [_,_,_] [] [.le (.v 0) (.k 100),.le (.v 1) (.k 100),.le (.v 2) (.v 0)] (.le (.a (.v 1) (.v 2)) (.k 1000)) (.w [1,1,1,1]) zr hX hc this
  · rw [← List.map_append]; exact h
end
end Mine
section
namespace Mine
structure PCh where
  due:List (Int × Int)
  acked:List (Int × Int)
  told:Int
  ws:List (Int × Int)
  cs:List Int
structure PS where
  ch:Bool→Bool→PCh
  c:HSt
  s:HSt
  fly:List (Bool × Bool × Int × Int)
noncomputable def PS.st (S:PS) (b:Bool):HSt:=@Bool.rec (fun _=>HSt) S.c S.s b
noncomputable def toCh (b k:Bool) (c:PCh):Ch:=⟨c.due,c.acked,c.told,c.ws.map (pcX (full b k)),c.cs.map .int⟩
noncomputable def toLS (S:PS):LS:=⟨fun b k=>toCh b k (S.ch b k),S.st,fun r k=>(S.st r).rest k (S.ch (!r) false).told (S.ch (!r) true).told,fun b k=>dat (S.st b) b k⟩
noncomputable def NN (b k:Bool):Int:=@Bool.rec (fun _=>Int) (@Bool.rec (fun _=>Int) 37 12 k) (@Bool.rec (fun _=>Int) 14 26 k) b
theorem NN_eq (b k:Bool):((full b k).length:Int)=NN b k:=by cases b <;> cases k <;> rfl
noncomputable def nP (S:PS) (b k:Bool):Int:=@Bool.rec (fun _=>Int) 0 (NN b k) ((S.st b).has k)
noncomputable def tkT (t:Int):List (Int × Int)→Int × List (Int × Int)
  | []=>(t,[])
  | p :: r=>bif decide (p.1=t) then (p.2,r) else (t,p :: r)
noncomputable def arrW (c:PCh) (o e:Int):Int × List (Int × Int):=bif decide (e ≤ c.told) then (c.told,c.ws) else tkT c.told (addS c.ws (mxV o c.told) e)
noncomputable def arrC (c:PCh) (o e:Int):PCh:=⟨c.due,c.acked,(arrW c o e).1,(arrW c o e).2,c.cs ++ newI c.cs (e - o).toNat o⟩
noncomputable def nxS (s:HSt) (k:Bool) (t:Int):HSt:=@HSt.rec (fun _=>HSt)
  (@Bool.rec (fun _=>HSt) (bif decide (t < 14) then .c0 else .c1) .c0 k) (@Bool.rec (fun _=>HSt) .c1 (bif decide (t < 14) then .c1 else bif decide (t < 26) then .c2 else .c3) k) (@Bool.rec (fun _=>HSt) .c2 (bif decide (t < 26) then .c2 else .c3) k) .c3
  (@Bool.rec (fun _=>HSt) (bif decide (t < 37) then .s0 else .s1) .s0 k) (@Bool.rec (fun _=>HSt) .s1 (bif decide (t < 12) then .s1 else .s2) k) .s2 s
noncomputable def arrS (S:PS) (b k:Bool) (o e:Int):HSt:=nxS (S.st (!b)) k (arrW (S.ch b k) o e).1
noncomputable def frsh (b k:Bool) (s s':HSt) (c:PCh):PCh:=bif s'.has k && !s.has k then { c with due:=[(0,NN b k)] } else c
noncomputable def arrP (S:PS) (b k:Bool) (o e:Int):PS where
  ch:=fun b' k'=>bif eqB b b' then (bif eqB k k' then arrC (S.ch b k) o e else S.ch b' k') else frsh b' k' (S.st b') (arrS S b k o e) (S.ch b' k')
  c:=bif b then arrS S b k o e else S.c
  s:=bif b then S.s else arrS S b k o e
  fly:=S.fly
structure SpOk (n:Int) (xs:List (Int × Int)):Prop where
  each:∀ p ∈ xs,0 ≤ p.1 ∧ p.1 < p.2 ∧ p.2 ≤ n
  gaps:xs.Pairwise fun p q=>p.2 < q.1
noncomputable def stOk (s:HSt) (tI tH:Int):Prop:=match s with
  | .c0=>tI < 14 ∧ tH=0
  | .c1=>tI=14 ∧ tH < 14
  | .c2=>tI=14 ∧ 14 ≤ tH ∧ tH < 26
  | .c3=>tI=14 ∧ tH=26
  | .s0=>tI < 37 ∧ tH=0
  | .s1=>tI=37 ∧ tH < 12
  | .s2=>tI=37 ∧ tH=12
noncomputable def Has (xs:List (Int × Int)) (i:Int):Prop:=∃ p ∈ xs,p.1 ≤ i ∧ i < p.2
structure ChOk (n:Int) (c:PCh):Prop where
  told:0 ≤ c.told ∧ c.told ≤ n
  ws:SpOk n c.ws
  wt:∀ p ∈ c.ws,c.told < p.1
  nd:c.cs.Nodup
  cs:∀ i,i ∈ c.cs ↔ (0 ≤ i ∧ i < c.told) ∨ Has c.ws i
  due:SpOk n c.due
  ack:SpOk n c.acked
structure Ok (S:PS):Prop where
  st:∀ r,stOk (S.st r) (S.ch (!r) false).told (S.ch (!r) true).told
  role:(S.c=.c0 ∨ S.c=.c1 ∨ S.c=.c2 ∨ S.c=.c3) ∧ (S.s=.s0 ∨ S.s=.s1 ∨ S.s=.s2)
  ch:∀ b k,ChOk (nP S b k) (S.ch b k)
  fly:∀ p ∈ S.fly,0 ≤ p.2.2.1 ∧ p.2.2.1 < p.2.2.2 ∧ p.2.2.2 ≤ nP S p.1 p.2.1
end Mine
end
namespace Mine
theorem Has.cons {p:Int × Int} {xs:List (Int × Int)} {i:Int}:Has (p :: xs) i ↔ (p.1 ≤ i ∧ i < p.2) ∨ Has xs i:=
  ⟨fun ⟨q,hq,h⟩=>(List.mem_cons.mp hq).elim (fun e=>.inl (e ▸ h)) fun hq=>.inr ⟨q,hq,h⟩,fun h=>h.elim (fun h=>⟨p,List.mem_cons_self ..,h⟩) fun ⟨q,hq,h⟩=>⟨q,List.mem_cons_of_mem _ hq,h⟩⟩
theorem Has.nil {i:Int}:¬ Has [] i:=fun ⟨_,h,_⟩=>nomatch h
theorem SpOk.nil {n:Int}:SpOk n []:=⟨fun _ h=>(nomatch h),List.Pairwise.nil⟩
theorem SpOk.tail {n:Int} {p:Int × Int} {xs:List (Int × Int)} (h:SpOk n (p :: xs)):SpOk n xs:=⟨fun q hq=>h.each q (List.mem_cons_of_mem _ hq),(List.pairwise_cons.mp h.gaps).2⟩
theorem SpOk.hd {n:Int} {p:Int × Int} {xs:List (Int × Int)} (h:SpOk n (p :: xs)):(0 ≤ p.1 ∧ p.1 < p.2 ∧ p.2 ≤ n) ∧ ∀ q ∈ xs,p.2 < q.1:=⟨h.each p (List.mem_cons_self ..),(List.pairwise_cons.mp h.gaps).1⟩
theorem SpOk.cons {n:Int} {p:Int × Int} {xs:List (Int × Int)} (hp:0 ≤ p.1 ∧ p.1 < p.2 ∧ p.2 ≤ n) (hg:∀ q ∈ xs,p.2 < q.1) (h:SpOk n xs):SpOk n (p :: xs):=
  ⟨fun q hq=>(List.mem_cons.mp hq).elim (fun e=>e ▸ hp) (h.each q),List.pairwise_cons.mpr ⟨hg,h.gaps⟩⟩
theorem SpOk.gap {n:Int} {xs:List (Int × Int)} (h:SpOk n xs):Gap xs:=⟨fun p hp=>(h.each p hp).2.1,h.gaps⟩
theorem SpOk.mono {n m:Int} {xs:List (Int × Int)} (h:SpOk n xs) (hn:n ≤ m):SpOk m xs:=⟨fun p hp=>⟨(h.each p hp).1,(h.each p hp).2.1,Int.le_trans (h.each p hp).2.2 hn⟩,h.gaps⟩
structure AddOk (n:Int) (xs:List (Int × Int)) (lo hi:Int) (r:List (Int × Int)):Prop where
  ok:SpOk n r
  len:r.length ≤ xs.length + 1
  has:∀ i,Has r i ↔ Has xs i ∨ (lo ≤ i ∧ i < hi)
  low:∀ c,c < lo→(∀ p ∈ xs,c < p.1)→∀ p ∈ r,c < p.1
theorem addS_ok {n:Int} {xs:List (Int × Int)}:∀ {lo hi:Int},SpOk n xs→0 ≤ lo→lo < hi→hi ≤ n→AddOk n xs lo hi (addS xs lo hi):=by
  induction xs with
  | nil =>
    intro lo hi _ h0 h1 h2
    exact ⟨.cons ⟨h0,h1,h2⟩ (fun _ h=>nomatch h) .nil,Nat.le_refl _,fun i=>Has.cons.trans Or.comm,fun c hc _ p hp=>List.mem_singleton.mp hp ▸ hc⟩
  | cons q xs ih =>
    intro lo hi hS h0 h1 h2
    obtain ⟨hq,hg⟩:=hS.hd
    rw [addS_c]
    by_cases c1:q.2 < lo
    · rw [decide_eq_true c1]
      have r:=ih hS.tail h0 h1 h2
      exact ⟨.cons hq (r.low _ c1 hg) r.ok,Nat.succ_le_succ r.len,fun i=>by rw [cond_true,Has.cons,Has.cons,r.has,or_assoc],fun c hc hx p hp=>(List.mem_cons.mp hp).elim (fun e=>e ▸ hx _ (List.mem_cons_self ..)) (r.low c hc (fun q hq=>hx q (List.mem_cons_of_mem _ hq)) p)⟩
    · rw [decide_eq_false c1]
      by_cases c2:hi < q.1
      · rw [decide_eq_true c2]
        exact ⟨.cons ⟨h0,h1,h2⟩ (fun p hp=>(List.mem_cons.mp hp).elim (fun e=>e ▸ c2) fun hp=>Int.lt_trans c2 (Int.lt_trans hq.2.1 (hg p hp))) hS,Nat.le_refl _,fun i=>Has.cons.trans Or.comm,fun c hc hx p hp=>(List.mem_cons.mp hp).elim (fun e=>e ▸ hc) (hx p)⟩
      · rw [decide_eq_false c2]
        have m1:=mnV_spec lo q.1
        have m2:=mxV_spec hi q.2
        have r:=ih (lo:=mnV lo q.1) (hi:=mxV hi q.2) hS.tail (by exact ln [] [_,_,_,_,_] [.Le (.k 0) (.v 0),.a (.Le (.k 0) (.v 1)) (.a (.Lt (.v 1) (.v 2)) (.Le (.v 2) (.v 3))),.a (.Le (.v 4) (.v 0)) (.a (.Le (.v 4) (.v 1)) (.o (.Eq (.v 4) (.v 0)) (.Eq (.v 4) (.v 1))))] (.Le (.k 0) (.v 4)) (.b (.w [0,0,0,1,0,0,0,1,1]) (.w [0,0,0,1,1,0,0,0,1])) zr h0 hq m1) (by exact ln [] [_,_,_,_,_,_] [.Lt (.v 0) (.v 1),.a (.Le (.v 2) (.v 0)) (.a (.Le (.v 2) (.v 3)) (.o (.Eq (.v 2) (.v 0)) (.Eq (.v 2) (.v 3)))),.a (.Le (.v 1) (.v 4)) (.a (.Le (.v 5) (.v 4)) (.o (.Eq (.v 4) (.v 1)) (.Eq (.v 4) (.v 5))))] (.Lt (.v 2) (.v 4)) (.b (.b (.w [1,0,0,0,1,0,0,0,1,1]) (.w [1,0,0,0,1,0,0,0,1,1])) (.b (.w [1,0,0,0,1,0,0,0,1,1]) (.w [1,0,0,0,1,0,0,0,1,1]))) zr h1 m1 m2) (by exact ln [] [_,_,_,_,_] [.Le (.v 0) (.v 1),.a (.Le (.k 0) (.v 2)) (.a (.Lt (.v 2) (.v 3)) (.Le (.v 3) (.v 1))),.a (.Le (.v 0) (.v 4)) (.a (.Le (.v 3) (.v 4)) (.o (.Eq (.v 4) (.v 0)) (.Eq (.v 4) (.v 3))))] (.Le (.v 4) (.v 1)) (.b (.w [0,0,1,0,0,0,0,1,1]) (.w [0,0,1,0,0,0,1,0,1])) zr h2 hq m2)
        refine ⟨r.ok,Nat.le_succ_of_le r.len,fun i=>?_,fun c hc hx=>r.low c ?_ fun p hp=>hx p (List.mem_cons_of_mem _ hp)⟩
        · show Has (addS xs _ _) i ↔ _
          have key:(mnV lo q.1 ≤ i ∧ i < mxV hi q.2) ↔ (q.1 ≤ i ∧ i < q.2) ∨ (lo ≤ i ∧ i < hi):=⟨fun h=>by exact ln [] [_,_,_,_,_,_,_] [.n (.Lt (.v 0) (.v 1)),.n (.Lt (.v 2) (.v 3)),.a (.Le (.v 4) (.v 5)) (.Lt (.v 5) (.v 6)),.a (.Le (.v 4) (.v 1)) (.a (.Le (.v 4) (.v 3)) (.o (.Eq (.v 4) (.v 1)) (.Eq (.v 4) (.v 3)))),.a (.Le (.v 2) (.v 6)) (.a (.Le (.v 0) (.v 6)) (.o (.Eq (.v 6) (.v 2)) (.Eq (.v 6) (.v 0))))] (.o (.a (.Le (.v 3) (.v 5)) (.Lt (.v 5) (.v 0))) (.a (.Le (.v 1) (.v 5)) (.Lt (.v 5) (.v 2)))) (.b (.b (.w [0,0,0,1,1,0,0,0,0,1]) (.w [0,0,0,1,1,0,0,0,1])) (.b (.w [0,0,1,0,1,1]) (.b (.w [0,0,0,1,1,1]) (.b (.b (.w [0,0,1,0,0,0,0,0,0,1,0,0,0,1]) (.w [0,0,1,0,0,0,0,0,0,1,0,0,1])) (.b (.w [0,0,1,0,0,0,0,0,0,1,0,0,0,1]) (.w [0,0,1,0,0,0,0,0,0,1,0,0,1])))))) zr c1 c2 h m1 m2,fun h=>by exact ln [] [_,_,_,_,_,_,_] [.a (.Le (.v 0) (.v 1)) (.a (.Le (.v 0) (.v 2)) (.o (.Eq (.v 0) (.v 1)) (.Eq (.v 0) (.v 2)))),.a (.Le (.v 3) (.v 4)) (.a (.Le (.v 5) (.v 4)) (.o (.Eq (.v 4) (.v 3)) (.Eq (.v 4) (.v 5)))),.o (.a (.Le (.v 2) (.v 6)) (.Lt (.v 6) (.v 5))) (.a (.Le (.v 1) (.v 6)) (.Lt (.v 6) (.v 3)))] (.a (.Le (.v 0) (.v 6)) (.Lt (.v 6) (.v 4))) (.b (.b (.b (.b (.w [1,0,0,0,0,0,0,1,0,0,1]) (.w [1,0,0,0,0,0,1,0,0,0,1])) (.b (.w [1,0,0,0,0,0,0,1,0,0,1]) (.w [1,0,0,0,0,0,1,0,0,0,1]))) (.b (.b (.w [1,0,0,0,0,0,0,1,0,0,1]) (.w [1,0,0,0,0,0,1,0,0,0,1])) (.b (.w [1,0,0,0,0,0,0,1,0,0,1]) (.w [1,0,0,0,0,0,1,0,0,0,1])))) (.b (.b (.b (.w [0,1,0,1,0,0,0,0,0,0,1]) (.w [0,1,1,0,0,0,0,0,0,0,1])) (.b (.w [0,1,0,1,0,0,0,0,0,0,1]) (.w [0,1,1,0,0,0,0,0,0,0,1]))) (.b (.b (.w [0,1,0,1,0,0,0,0,0,0,1]) (.w [0,1,1,0,0,0,0,0,0,0,1])) (.b (.w [0,1,0,1,0,0,0,0,0,0,1]) (.w [0,1,1,0,0,0,0,0,0,0,1]))))) zr m1 m2 h⟩
          rw [r.has,Has.cons,key]
          exact ⟨fun h=>h.elim (fun x=>.inl (.inr x)) fun h=>h.elim (fun a=>.inl (.inl a)) .inr,fun h=>h.elim (fun h=>h.elim (fun a=>.inr (.inl a)) .inl) fun b=>.inr (.inr b)⟩
        · have:=hx q (List.mem_cons_self ..); exact ln [] [_,_,_,_] [.Lt (.v 0) (.v 1),.Lt (.v 0) (.v 2),.a (.Le (.v 3) (.v 1)) (.a (.Le (.v 3) (.v 2)) (.o (.Eq (.v 3) (.v 1)) (.Eq (.v 3) (.v 2))))] (.Lt (.v 0) (.v 3)) (.b (.w [0,0,0,1,0,1,1]) (.w [0,0,0,1,1,0,1])) zr hc this m1
theorem sp_len {n:Int} {xs:List (Int × Int)}:∀ {a:Int},SpOk n xs→(∀ p ∈ xs,a ≤ p.1)→a ≤ n + 1→2 * (xs.length:Int) ≤ n - a + 1:=by
  induction xs with
  | nil=>intro a _ _ h; simp; exact ln [] [_,_] [.Le (.v 0) (.a (.v 1) (.k 1))] (.Le (.k 0) (.a (.s (.v 1) (.v 0)) (.k 1))) (.w [1,1]) zr h
  | cons q xs ih =>
    intro a h ha _
    obtain ⟨hq,hg⟩:=h.hd
    have h1:=ha q (List.mem_cons_self ..)
    have h2:=ih (a:=q.2 + 1) h.tail (fun p hp=>hg p hp) (by exact ln [] [_,_,_] [.a (.Le (.k 0) (.v 0)) (.a (.Lt (.v 0) (.v 1)) (.Le (.v 1) (.v 2)))] (.Le (.a (.v 1) (.k 1)) (.a (.v 2) (.k 1))) (.w [0,0,1,1]) zr hq)
    rw [List.length_cons]
    exact ln [_] [_,_,_,_] [.a (.Le (.k 0) (.v 0)) (.a (.Lt (.v 0) (.v 1)) (.Le (.v 1) (.v 2))),.Le (.v 3) (.v 0),.Le (.m 2 (.c (.v 0))) (.a (.s (.v 2) (.a (.v 1) (.k 1))) (.k 1))] (.Le (.m 2 (.c (.a (.v 0) (.k 1)))) (.a (.s (.v 2) (.v 3)) (.k 1))) (.w [1,1,0,1,0,1]) zr hq h1 h2
theorem cutS_off {lo hi:Int} {xs:List (Int × Int)} (h:∀ p ∈ xs,p.1 < p.2 ∧ (p.2 ≤ lo ∨ hi ≤ p.1)) (hlt:lo < hi):cutS lo hi xs=xs:=by
  induction xs with
  | nil=>rfl
  | cons p r ih =>
    have h1:=h p (List.mem_cons_self ..)
    have m1:=mnV_spec p.2 lo
    have m2:=mxV_spec p.1 hi
    have e:cut1 lo hi p=[p]:=by
      unfold cut1
      rcases h1.2 with k | k
      · rw [decide_eq_true (show p.1 < mnV p.2 lo by exact ln [] [_,_,_,_,_] [.Le (.v 0) (.v 1),.a (.Lt (.v 2) (.v 0)) (.o (.Le (.v 0) (.v 1)) (.Le (.v 3) (.v 2))),.a (.Le (.v 4) (.v 0)) (.a (.Le (.v 4) (.v 1)) (.o (.Eq (.v 4) (.v 0)) (.Eq (.v 4) (.v 1))))] (.Lt (.v 2) (.v 4)) (.b (.b (.w [0,0,0,1,1,0,0,1]) (.w [0,0,0,1,1,1,0,1])) (.b (.w [0,0,0,1,1,0,0,1]) (.w [0,0,0,1,1,0,1,1]))) zr k h1 m1),decide_eq_false (show ¬ mxV p.1 hi < p.2 by exact ln [] [_,_,_,_,_] [.Lt (.v 0) (.v 1),.Le (.v 2) (.v 0),.a (.Le (.v 3) (.v 4)) (.a (.Le (.v 1) (.v 4)) (.o (.Eq (.v 4) (.v 3)) (.Eq (.v 4) (.v 1))))] (.n (.Lt (.v 4) (.v 2))) (.b (.w [0,1,0,0,1,1,1]) (.w [0,1,0,0,1,1,1])) zr hlt k m2),show mnV p.2 lo=p.2 by exact ln [] [_,_,_] [.Le (.v 0) (.v 1),.a (.Le (.v 2) (.v 0)) (.a (.Le (.v 2) (.v 1)) (.o (.Eq (.v 2) (.v 0)) (.Eq (.v 2) (.v 1))))] (.Eq (.v 2) (.v 0)) (.b (.b (.w [0,0,0,1,0,1]) (.w [0,0,0,1,1,1])) (.b (.w [1,0,0,0,0,1]) (.w [1,0,0,0,0,1]))) zr k m1]; rfl
      · rw [decide_eq_false (show ¬ p.1 < mnV p.2 lo by exact ln [] [_,_,_,_,_] [.Lt (.v 0) (.v 1),.Le (.v 1) (.v 2),.a (.Le (.v 3) (.v 4)) (.a (.Le (.v 3) (.v 0)) (.o (.Eq (.v 3) (.v 4)) (.Eq (.v 3) (.v 0))))] (.n (.Lt (.v 2) (.v 3))) (.b (.w [0,1,0,0,1,1,1]) (.w [0,1,0,0,1,1,1])) zr hlt k m1),decide_eq_true (show mxV p.1 hi < p.2 by exact ln [] [_,_,_,_,_] [.Le (.v 0) (.v 1),.a (.Lt (.v 1) (.v 2)) (.o (.Le (.v 2) (.v 3)) (.Le (.v 0) (.v 1))),.a (.Le (.v 1) (.v 4)) (.a (.Le (.v 0) (.v 4)) (.o (.Eq (.v 4) (.v 1)) (.Eq (.v 4) (.v 0))))] (.Lt (.v 4) (.v 2)) (.b (.b (.w [0,0,1,0,1,0,0,1]) (.w [0,0,1,0,1,0,1,1])) (.b (.w [0,0,1,0,1,0,0,1]) (.w [0,0,1,0,1,1,0,1]))) zr k h1 m2),show mxV p.1 hi=p.1 by exact ln [] [_,_,_] [.Le (.v 0) (.v 1),.a (.Le (.v 1) (.v 2)) (.a (.Le (.v 0) (.v 2)) (.o (.Eq (.v 2) (.v 1)) (.Eq (.v 2) (.v 0))))] (.Eq (.v 2) (.v 1)) (.b (.b (.w [1,0,0,0,0,1]) (.w [1,0,0,0,0,1])) (.b (.w [0,0,1,0,0,1]) (.w [0,0,1,0,1,1]))) zr k m2]; rfl
    rw [cutS,List.flatMap_cons,e,← cutS,ih fun q hq=>h q (List.mem_cons_of_mem _ hq)]
    rfl
theorem cutS_front {n x y c:Int} {xs:List (Int × Int)} (h:SpOk n ((x,y) :: xs)) (h1:x < c) (h2:c ≤ y):cutS x c ((x,y) :: xs)=(bif decide (c < y) then [(c,y)] else []) ++ xs:=by
  obtain ⟨hq,hg⟩:=h.hd
  have m1:=mnV_spec y x
  have m2:=mxV_spec x c
  rw [cutS,List.flatMap_cons,← cutS,cutS_off (fun p hp=>⟨(h.tail.each p hp).2.1,.inr (by have:=hg p hp; exact ln [] [_,_,_] [.Le (.v 0) (.v 1),.Lt (.v 1) (.v 2)] (.Le (.v 0) (.v 2)) (.w [1,1,1]) zr h2 this)⟩) h1,cut1]
  rw [decide_eq_false (show ¬ x < mnV y x by exact ln [] [_,_,_] [.a (.Le (.v 0) (.v 1)) (.a (.Le (.v 0) (.v 2)) (.o (.Eq (.v 0) (.v 1)) (.Eq (.v 0) (.v 2))))] (.n (.Lt (.v 2) (.v 0))) (.b (.w [0,1,0,0,1]) (.w [0,1,0,0,1])) zr m1),show mxV x c=c by exact ln [] [_,_,_] [.Lt (.v 0) (.v 1),.a (.Le (.v 0) (.v 2)) (.a (.Le (.v 1) (.v 2)) (.o (.Eq (.v 2) (.v 0)) (.Eq (.v 2) (.v 1))))] (.Eq (.v 2) (.v 1)) (.b (.b (.w [0,1,0,0,0,1]) (.w [0,1,0,0,0,1])) (.b (.w [0,1,1,0,1]) (.w [0,0,1,0,0,1]))) zr h1 m2]
  rfl
theorem newI_ok {cs:List Int} {m:Nat}:∀ {a:Int},(∀ i,i ∈ newI cs m a ↔ (a ≤ i ∧ i < a + m) ∧ i ∉ cs) ∧ (newI cs m a).Nodup:=by
  induction m with
  | zero=>intro a; exact ⟨fun i=>⟨fun h=>(nomatch h),fun h=>absurd h.1 (by exact ln [] [_,_] [] (.n (.a (.Le (.v 0) (.v 1)) (.Lt (.v 1) (.a (.v 0) (.c (.k 0)))))) (.w [1,1]) zr)⟩,List.Pairwise.nil⟩
  | succ m ih =>
    intro a
    have ih:=@ih (a + 1)
    have hm:∀ i,a + 1 ≤ i ∧ i < a + 1 + (m:Int) ↔ (a ≤ i ∧ i < a + ((m + 1:Nat):Int)) ∧ i ≠ a:=fun i=>⟨fun h=>by exact ln [_] [_,_] [.a (.Le (.a (.v 0) (.k 1)) (.v 1)) (.Lt (.v 1) (.a (.a (.v 0) (.k 1)) (.c (.v 0))))] (.a (.a (.Le (.v 0) (.v 1)) (.Lt (.v 1) (.a (.v 0) (.c (.a (.v 0) (.k 1)))))) (.n (.Eq (.v 1) (.v 0)))) (.b (.w [1,0,1]) (.b (.w [0,1,1]) (.w [1,0,1]))) zr h,fun h=>by exact ln [_] [_,_] [.a (.a (.Le (.v 0) (.v 1)) (.Lt (.v 1) (.a (.v 0) (.c (.a (.v 0) (.k 1)))))) (.n (.Eq (.v 1) (.v 0)))] (.a (.Le (.a (.v 0) (.k 1)) (.v 1)) (.Lt (.v 1) (.a (.a (.v 0) (.k 1)) (.c (.v 0))))) (.b (.b (.w [1,0,1]) (.w [0,0,1,1])) (.b (.w [0,1,0,1]) (.w [0,1,0,1]))) zr h⟩
    rw [newI_s]
    cases e:cs.any (fun x=>decide (x=a)) with
    | true =>
      obtain ⟨x,hx,hxa⟩:=List.any_eq_true.mp e
      have ha:a ∈ cs:=of_decide_eq_true hxa ▸ hx
      exact ⟨fun i=>(ih.1 i).trans ⟨fun h=>⟨((hm i).mp h.1).1,h.2⟩,fun h=>⟨(hm i).mpr ⟨h.1,fun e=>h.2 (e ▸ ha)⟩,h.2⟩⟩,ih.2⟩
    | false =>
      have ha:a ∉ cs:=fun h=>by
        rw [List.any_eq_true.mpr ⟨a,h,decide_eq_true rfl⟩] at e
        cases e
      refine ⟨fun i=>⟨fun h=>?_,fun h=>?_⟩,List.nodup_cons.mpr ⟨fun h=>((hm a).mp ((ih.1 a).mp h).1).2 rfl,ih.2⟩⟩
      · rcases List.mem_cons.mp h with e | h
        · rw [e]; exact ⟨by exact ln [_] [_] [] (.a (.Le (.v 0) (.v 0)) (.Lt (.v 0) (.a (.v 0) (.c (.a (.v 0) (.k 1)))))) (.b (.w [1]) (.w [1])) zr,ha⟩
        · exact ⟨((hm i).mp ((ih.1 i).mp h).1).1,((ih.1 i).mp h).2⟩
      · by_cases e:i=a
        · rw [e]; exact List.mem_cons_self ..
        · exact List.mem_cons_of_mem _ ((ih.1 i).mpr ⟨(hm i).mpr ⟨h.1,e⟩,h.2⟩)
structure WOk (n:Int) (c:PCh) (o e:Int):Prop where
  told:c.told ≤ (arrW c o e).1 ∧ (arrW c o e).1 ≤ n
  ws:SpOk n (arrW c o e).2
  wt:∀ p ∈ (arrW c o e).2,(arrW c o e).1 < p.1
  has:∀ i,((0 ≤ i ∧ i < c.told) ∨ Has c.ws i) ∨ (o ≤ i ∧ i < e) ↔ (0 ≤ i ∧ i < (arrW c o e).1) ∨ Has (arrW c o e).2 i
theorem arrW_ok {n:Int} {c:PCh} {o e:Int} (h:ChOk n c) (h0:0 ≤ o) (h1:o < e) (h2:e ≤ n):WOk n c o e ∧ (¬ e ≤ c.told→AddOk n c.ws (mxV o c.told) e (addS c.ws (mxV o c.told) e) ∧ (∀ p ∈ addS c.ws (mxV o c.told) e,c.told ≤ p.1) ∧ arrW c o e=tkT c.told (addS c.ws (mxV o c.told) e)):=by
  have ht:=h.told
  have m:=mxV_spec o c.told
  by_cases k:e ≤ c.told
  · have ew:arrW c o e=(c.told,c.ws):=by rw [arrW,decide_eq_true k]; rfl
    refine ⟨⟨?_,?_,?_,fun i=>?_⟩,fun h=>absurd k h⟩ <;> rw [ew]
    · exact ⟨Int.le_refl _,ht.2⟩
    · exact h.ws
    · exact h.wt
    · exact ⟨fun h=>h.elim id fun h=>.inl (by exact ln [] [_,_,_,_] [.Le (.k 0) (.v 0),.Le (.v 1) (.v 2),.a (.Le (.v 0) (.v 3)) (.Lt (.v 3) (.v 1))] (.a (.Le (.k 0) (.v 3)) (.Lt (.v 3) (.v 2))) (.b (.w [1,0,0,1,1]) (.w [0,1,1,0,1])) zr h0 k h),.inl⟩
  · have A:=addS_ok (lo:=mxV o c.told) (hi:=e) h.ws (by exact ln [] [_,_,_] [.Le (.k 0) (.v 0),.a (.Le (.v 0) (.v 1)) (.a (.Le (.v 2) (.v 1)) (.o (.Eq (.v 1) (.v 0)) (.Eq (.v 1) (.v 2))))] (.Le (.k 0) (.v 1)) (.b (.w [1,0,0,0,1,1]) (.w [1,0,0,0,1,1])) zr h0 m) (by exact ln [] [_,_,_,_] [.Lt (.v 0) (.v 1),.n (.Le (.v 1) (.v 2)),.a (.Le (.v 0) (.v 3)) (.a (.Le (.v 2) (.v 3)) (.o (.Eq (.v 3) (.v 0)) (.Eq (.v 3) (.v 2))))] (.Lt (.v 3) (.v 1)) (.b (.w [0,0,1,0,0,1,1]) (.w [0,0,1,0,1,0,1])) zr h1 k m) h2
    have hl:∀ p ∈ addS c.ws (mxV o c.told) e,c.told ≤ p.1:=fun p hp=>Int.add_one_le_of_lt (A.low (c.told - 1) (by exact ln [] [_,_,_] [.a (.Le (.v 0) (.v 1)) (.a (.Le (.v 2) (.v 1)) (.o (.Eq (.v 1) (.v 0)) (.Eq (.v 1) (.v 2))))] (.Lt (.s (.v 2) (.k 1)) (.v 1)) (.b (.w [0,1,0,0,1]) (.w [0,1,0,0,1])) zr m) (fun q hq=>Int.lt_trans (Int.sub_one_lt_of_le (Int.le_refl _)) (h.wt q hq)) p hp) |> fun z=>by exact ln [] [_,_] [.Le (.a (.s (.v 0) (.k 1)) (.k 1)) (.v 1)] (.Le (.v 0) (.v 1)) (.w [1,1]) zr z
    have ew:arrW c o e=tkT c.told (addS c.ws (mxV o c.told) e):=by rw [arrW,decide_eq_false k]; rfl
    refine ⟨?_,fun _=>⟨A,hl,ew⟩⟩
    have hh:∀ i,((0 ≤ i ∧ i < c.told) ∨ Has c.ws i) ∨ (o ≤ i ∧ i < e) ↔ (0 ≤ i ∧ i < c.told) ∨ Has (addS c.ws (mxV o c.told) e) i:=fun i=>by
      rw [A.has]
      have k1:(o ≤ i ∧ i < e)→(0 ≤ i ∧ i < c.told) ∨ (mxV o c.told ≤ i ∧ i < e):=fun h=>by exact ln [] [_,_,_,_,_] [.Le (.k 0) (.v 0),.a (.Le (.v 0) (.v 1)) (.Lt (.v 1) (.v 2)),.a (.Le (.v 0) (.v 3)) (.a (.Le (.v 4) (.v 3)) (.o (.Eq (.v 3) (.v 0)) (.Eq (.v 3) (.v 4))))] (.o (.a (.Le (.k 0) (.v 1)) (.Lt (.v 1) (.v 4))) (.a (.Le (.v 3) (.v 1)) (.Lt (.v 1) (.v 2)))) (.b (.w [1,0,1,1]) (.b (.w [0,1,0,0,1]) (.b (.b (.w [0,0,1,0,1,0,0,0,1]) (.w [0,0,1,0,0,0,0,1,1])) (.w [0,1,0,0,1])))) zr h0 h m
      have k2:(mxV o c.told ≤ i ∧ i < e)→(o ≤ i ∧ i < e):=fun h=>by exact ln [] [_,_,_,_,_] [.a (.Le (.v 0) (.v 1)) (.Lt (.v 1) (.v 2)),.a (.Le (.v 3) (.v 0)) (.a (.Le (.v 4) (.v 0)) (.o (.Eq (.v 0) (.v 3)) (.Eq (.v 0) (.v 4))))] (.a (.Le (.v 3) (.v 1)) (.Lt (.v 1) (.v 2))) (.b (.b (.w [1,0,0,0,1,0,1]) (.w [1,0,0,0,1,0,1])) (.w [0,1,1])) zr h m
      exact ⟨fun h=>h.elim (fun h=>h.elim .inl fun h=>.inr (.inl h)) fun h=>(k1 h).elim .inl fun h=>.inr (.inr h),fun h=>h.elim (fun h=>.inl (.inl h)) fun h=>h.elim (fun h=>.inl (.inr h)) fun h=>.inr (k2 h)⟩
    generalize addS c.ws (mxV o c.told) e=xs at A hl ew hh
    cases xs with
    | nil =>
      refine ⟨?_,?_,?_,?_⟩ <;> rw [ew]
      · exact ⟨Int.le_refl _,ht.2⟩
      · exact .nil
      · exact fun p hp=>nomatch hp
      · exact hh
    | cons p r =>
      obtain ⟨hp,hg⟩:=A.ok.hd
      have hp0:=hl p (List.mem_cons_self ..)
      by_cases d:p.1=c.told
      · have ew:arrW c o e=(p.2,r):=ew.trans (by show (bif decide (p.1=c.told) then (p.2,r) else (c.told,p :: r))=_; rw [decide_eq_true d]; rfl)
        refine ⟨?_,?_,?_,fun i=>(hh i).trans ?_⟩ <;> rw [ew]
        · exact ⟨by dsimp only; exact ln [] [_,_,_,_] [.a (.Le (.k 0) (.v 0)) (.a (.Lt (.v 0) (.v 1)) (.Le (.v 1) (.v 2))),.Eq (.v 0) (.v 3)] (.Le (.v 3) (.v 1)) (.w [0,1,0,1,0,1]) zr hp d,hp.2.2⟩
        · exact A.ok.tail
        · exact hg
        · rw [Has.cons,← or_assoc]
          refine or_congr_left ?_
          dsimp only
          exact ⟨fun h=>by exact ln [] [_,_,_,_,_] [.a (.Le (.k 0) (.v 0)) (.a (.Lt (.v 0) (.v 1)) (.Le (.v 1) (.v 2))),.Eq (.v 0) (.v 3),.o (.a (.Le (.k 0) (.v 4)) (.Lt (.v 4) (.v 3))) (.a (.Le (.v 0) (.v 4)) (.Lt (.v 4) (.v 1)))] (.a (.Le (.k 0) (.v 4)) (.Lt (.v 4) (.v 1))) (.b (.b (.w [1,0,0,0,0,0,0,1]) (.w [1,0,0,0,1,0,0,1])) (.b (.w [0,1,0,1,0,1,0,1]) (.w [0,1,0,0,0,0,0,1]))) zr hp d h,fun h=>by exact ln [] [_,_,_,_] [.Eq (.v 0) (.v 1),.a (.Le (.k 0) (.v 2)) (.Lt (.v 2) (.v 3))] (.o (.a (.Le (.k 0) (.v 2)) (.Lt (.v 2) (.v 1))) (.a (.Le (.v 0) (.v 2)) (.Lt (.v 2) (.v 3)))) (.b (.w [1,0,0,0,1]) (.b (.w [0,1,0,0,0,1]) (.b (.w [0,0,1,0,1,1]) (.w [0,1,0,0,0,1])))) zr d h⟩
      · have ew:arrW c o e=(c.told,p :: r):=ew.trans (by show (bif decide (p.1=c.told) then (p.2,r) else (c.told,p :: r))=_; rw [decide_eq_false d]; rfl)
        refine ⟨?_,?_,?_,?_⟩ <;> rw [ew]
        · exact ⟨Int.le_refl _,ht.2⟩
        · exact A.ok
        · intro q hq
          rcases List.mem_cons.mp hq with e | hq
          · rw [e]; dsimp only; exact ln [] [_,_] [.Le (.v 0) (.v 1),.n (.Eq (.v 1) (.v 0))] (.Lt (.v 0) (.v 1)) (.b (.w [1,1]) (.w [1,0,1])) zr hp0 d
          · have:=hg q hq; dsimp only; exact ln [] [_,_,_,_,_] [.a (.Le (.k 0) (.v 0)) (.a (.Lt (.v 0) (.v 1)) (.Le (.v 1) (.v 2))),.Le (.v 3) (.v 0),.Lt (.v 1) (.v 4)] (.Lt (.v 3) (.v 4)) (.w [1,1,0,1,0,1]) zr hp hp0 this
        · exact hh
theorem arrC_ok {n:Int} {c:PCh} {o e:Int} (h:ChOk n c) (h0:0 ≤ o) (h1:o < e) (h2:e ≤ n):ChOk n (arrC c o e) ∧ ∀ i,i ∈ (arrC c o e).cs ↔ i ∈ c.cs ∨ (o ≤ i ∧ i < e):=by
  have w:=(arrW_ok h h0 h1 h2).1
  have hm:=newI_ok (cs:=c.cs) (m:=(e - o).toNat) (a:=o)
  have hc:∀ i,i ∈ (arrC c o e).cs ↔ i ∈ c.cs ∨ (o ≤ i ∧ i < e):=fun i=>by
    show i ∈ c.cs ++ newI c.cs (e - o).toNat o ↔ _
    rw [List.mem_append,hm.1,show o + ((e - o).toNat:Int)=e by exact ln [] [_,_] [.Lt (.v 0) (.v 1)] (.Eq (.a (.v 0) (.c (.t (.s (.v 1) (.v 0))))) (.v 1)) (.b (.w [0,1]) (.b (.w [0,1]) (.b (.w [1,0,1]) (.w [1,1])))) zr h1]
    exact ⟨fun h=>h.elim .inl fun h=>.inr h.1,fun h=>by
      by_cases k:i ∈ c.cs
      · exact .inl k
      · exact .inr ⟨h.elim (fun h=>absurd h k) id,k⟩⟩
  refine ⟨⟨⟨Int.le_trans h.told.1 w.told.1,w.told.2⟩,w.ws,w.wt,List.nodup_append.mpr ⟨h.nd,hm.2,fun a ha b hb e=>((hm.1 b).mp hb).2 (e ▸ ha)⟩,fun i=>?_,h.due,h.ack⟩,hc⟩
  rw [hc,h.cs]
  exact w.has i
section
variable {sc:Scope} {loc:List (Str × Option SV)} {B:Box} {σ:LS} {l:List Dat} {K:KV} {j n:Nat} {X:List UInt8} {r k:Bool}
noncomputable def locH (r k:Bool) (X:List UInt8):List (Str × Option SV):=[(strS "self",some (.obj (sdN r + 2))),(strS "space",some (.d (spc k))),(strS "data",some (.d (byt X))),(strS "messages",none),(strS "rest",none),(strS "out",none),(strS "kind",none),(strS "body",none),(strS "whole",none),(strS "awaited",none)]
noncomputable def takeK (n:Nat) (r k:Bool) (X:List UInt8) (sc:Scope) (loc:List (Str × Option SV)) (H:List SO) (K:KV) (v:SV):Prop:=
  asgV T1 (ops T1 (n + 28)) (asgT (stA (bodyA 212) 1)) v ⟨scA 212,locH r k X,H⟩ fun σ2=>exV T1 (ops T1 (n + 28)) ((bodyA 212).drop 2) σ2 (retK H.length ⟨sc,loc,H⟩ K)
theorem take_in (hj:j=0 ∨ j=1 ∨ j=2):(ops T1 (n + 30)).cl (.ref 212) [.obj (sdN r + 2),.d (spc k),.d (byt X)] ⟨sc,loc,hpJ j B σ l⟩ K =
   req (Nat.ble ((σ.rest r k).length + X.length) 1000) (∃ b,[SV.d (byt (σ.rest r k ++ X)),.d (.int 100)]=[.d (byt b),.d (.int 100)] ∧ (ops T0 30).cl (.ref 96) [.d (byt b),.d (.int 100)] ⟨scA 212,[],[]⟩ fun v _=>isD v=true ∧ takeK n r k X sc loc (hpJ j B σ l) K v):=by
  rcases hj with rfl | rfl | rfl <;> cases r <;> cases k <;> kernel_rfl
end
section
variable {sc:Scope} {loc:List (Str × Option SV)} {B:Box} {σ:LS} {l:List Dat} {K:KV} {j n:Nat} {X RI RH R:List UInt8} {r k:Bool}
noncomputable def msg (kd:Int) (M:List UInt8):Dat:=.tuple [.int kd,byt (M.drop 4),byt M]
noncomputable def mrV (ms:List Dat) (R:List UInt8):SV:=.d (.tuple [.list ms,byt R])
noncomputable abbrev stH (sc:Scope) (loc:List (Str × Option SV)) (j:Nat) (B:Box) (σ:LS) (r:Bool) (s:HSt) (RI RH:List UInt8) (l:List Dat):Sy:=⟨sc,loc,hpJ j B (setH σ r s RI RH) l⟩
noncomputable def partR (R:List UInt8) (A:Prop):Prop:=req (Nat.ble R.length 100000) (bite (decide ((R.length:Int) > 0) == true) A (bite (decide ((R.length:Int) > 0)) False A))
theorem part_c0 (hj:j=0 ∨ j=1 ∨ j=2):takeK n false false X sc loc (hpJ j B (setH σ false .c0 RI RH) l) K (mrV [] R)=partR R (K (dsL []) (stH sc loc j B σ false .c0 R RH l)):=by
  rcases hj with rfl | rfl | rfl <;> kernel_rfl
theorem part_c1 (hj:j=0 ∨ j=1 ∨ j=2):takeK n false true X sc loc (hpJ j B (setH σ false .c1 RI RH) l) K (mrV [] R)=partR R (K (dsL []) (stH sc loc j B σ false .c1 RI R l)):=by
  rcases hj with rfl | rfl | rfl <;> kernel_rfl
theorem part_c2 (hj:j=0 ∨ j=1 ∨ j=2):takeK n false true X sc loc (hpJ j B (setH σ false .c2 RI RH) l) K (mrV [] R)=partR R (K (dsL []) (stH sc loc j B σ false .c2 RI R l)):=by
  rcases hj with rfl | rfl | rfl <;> kernel_rfl
theorem part_s0 (hj:j=0 ∨ j=1 ∨ j=2):takeK n true false X sc loc (hpJ j B (setH σ true .s0 RI RH) l) K (mrV [] R)=partR R (K (dsL []) (stH sc loc j B σ true .s0 R RH l)):=by
  rcases hj with rfl | rfl | rfl <;> kernel_rfl
theorem part_s1 (hj:j=0 ∨ j=1 ∨ j=2):takeK n true true X sc loc (hpJ j B (setH σ true .s1 RI RH) l) K (mrV [] R)=partR R (K (dsL []) (stH sc loc j B σ true .s1 RI R l)):=by
  rcases hj with rfl | rfl | rfl <;> kernel_rfl
theorem got_sh (hj:j=0 ∨ j=1 ∨ j=2):takeK n false false X sc loc (hpJ j B (setH σ false .c0 RI RH) l) K (mrV [msg 2 shM] [])=K (dsL []) (stH sc loc j B σ false .c1 [] RH l):=by
  rcases hj with rfl | rfl | rfl <;> kernel_rfl
theorem got_ee (hj:j=0 ∨ j=1 ∨ j=2):takeK n false true X sc loc (hpJ j B (setH σ false .c1 [] RH) l) K (mrV [msg 8 eeM] R)=partR R (K (dsL []) (stH sc loc j B σ false .c2 [] R l)):=by
  rcases hj with rfl | rfl | rfl <;> kernel_rfl
noncomputable def outC:List Dat:=[.tuple [str "handshake",byt cfM]]
noncomputable def outS:List Dat:=[.tuple [str "initial",byt shM],.tuple [str "handshake",byt hsM]]
theorem got_ef (hj:j=0 ∨ j=1 ∨ j=2):takeK n false true X sc loc (hpJ j B (setH σ false .c1 [] RH) l) K (mrV [msg 8 eeM,msg 20 sfM] [])=K (dsL outC) (stH sc loc j B σ false .c3 [] [] l):=by
  rcases hj with rfl | rfl | rfl <;> kernel_rfl
theorem got_sf (hj:j=0 ∨ j=1 ∨ j=2):takeK n false true X sc loc (hpJ j B (setH σ false .c2 [] RH) l) K (mrV [msg 20 sfM] [])=K (dsL outC) (stH sc loc j B σ false .c3 [] [] l):=by
  rcases hj with rfl | rfl | rfl <;> kernel_rfl
theorem got_ch (hj:j=0 ∨ j=1 ∨ j=2):takeK n true false X sc loc (hpJ j B (setH σ true .s0 RI RH) l) K (mrV [msg 1 chM] [])=K (dsL outS) (stH sc loc j B σ true .s1 [] RH l):=by
  rcases hj with rfl | rfl | rfl <;> kernel_rfl
theorem got_cf (hj:j=0 ∨ j=1 ∨ j=2):takeK n true true X sc loc (hpJ j B (setH σ true .s1 [] RH) l) K (mrV [msg 20 cfM] [])=K (dsL []) (stH sc loc j B σ true .s2 [] [] l):=by
  rcases hj with rfl | rfl | rfl <;> kernel_rfl
end
section
variable {sc:Scope} {K:KV}
noncomputable abbrev spl (sc:Scope) (K:KV) (b:List UInt8):Prop:=(ops T0 30).cl (.ref 96) [.d (byt b),.d (.int 100)] ⟨sc,[],[]⟩ K
noncomputable abbrev spk (sc:Scope) (K:KV) (ms:List Dat) (b:List UInt8):Prop:=K (mrV ms b) ⟨sc,[],[]⟩
theorem sp_ch:((List.range 37).map fun t=>spl sc K (chM.take t))=(List.range 37).map fun t=>spk sc K [] (chM.take t):=by kernel_rfl
theorem sp_sh:((List.range 14).map fun t=>spl sc K (shM.take t))=(List.range 14).map fun t=>spk sc K [] (shM.take t):=by kernel_rfl
theorem sp_ee:((List.range 14).map fun t=>spl sc K (hsM.take t))=(List.range 14).map fun t=>spk sc K [] (hsM.take t):=by kernel_rfl
theorem sp_ef:((List.range 12).map fun t=>spl sc K (hsM.take (14 + t)))=(List.range 12).map fun t=>spk sc K [msg 8 eeM] (sfM.take t):=by kernel_rfl
theorem sp_sf:((List.range 12).map fun t=>spl sc K (sfM.take t))=(List.range 12).map fun t=>spk sc K [] (sfM.take t):=by kernel_rfl
theorem sp_cf:((List.range 12).map fun t=>spl sc K (cfM.take t))=(List.range 12).map fun t=>spk sc K [] (cfM.take t):=by kernel_rfl
theorem sp_chw:spl sc K chM=spk sc K [msg 1 chM] []:=by kernel_rfl
theorem sp_shw:spl sc K shM=spk sc K [msg 2 shM] []:=by kernel_rfl
theorem sp_hsw:spl sc K hsM=spk sc K [msg 8 eeM,msg 20 sfM] []:=by kernel_rfl
theorem sp_sfw:spl sc K sfM=spk sc K [msg 20 sfM] []:=by kernel_rfl
theorem sp_cfw:spl sc K cfM=spk sc K [msg 20 cfM] []:=by kernel_rfl
theorem map_at {F G:Nat→Prop} {n t:Nat} (h:(List.range n).map F=(List.range n).map G) (ht:t < n):F t=G t:=by
  have e:=congrArg (fun l=>l[t]?) h
  simp only [List.getElem?_map,List.getElem?_range ht] at e
  exact Option.some.inj e
end
noncomputable def upD (σ:LS) (b k:Bool) (D:List UInt8):LS:={ σ with data:=upd σ.data b k D }
section
variable {sc:Scope} {loc:List (Str × Option SV)} {B:Box} {σ:LS} {l:List Dat} {K:KV} {j n:Nat} {ac ac':List (Int × Int)} {w w':List Dat} {t t':Int} {cm cm':List Dat}
noncomputable abbrev stJ' (sc:Scope) (loc:List (Str × Option SV)) (j:Nat) (B:Box) (σ:LS) (l:List Dat):Sy:=⟨sc,loc,hpJ j B σ l⟩
noncomputable def putR (n:Int) (k:List (Int × Int)→Prop):Prop:=∃ xs lo hi,[dsL [],SV.d (.int 0),.d (.int n)]=[dsL (xs.map spX),.d (.int lo),.d (.int hi)] ∧ (lo < hi ∧ xs.length ≤ 900 ∧ Gap xs) ∧ k (addS xs lo hi)
theorem put_0 (hj:j=0 ∨ j=1 ∨ j=2) {r:Bool}:(ops T1 (n + 20)).cl (.ref 462) [.obj (sdN r + 7),dsL []] (stJ' sc loc j B σ l) K=K (.d .none) (stJ' sc loc j B σ l):=by
  rcases hj with rfl | rfl | rfl <;> cases r <;> kernel_rfl
theorem put_c (hj:j=0 ∨ j=1 ∨ j=2):(ops T1 (n + 20)).cl (.ref 462) [.obj (sdN false + 7),dsL outC] (stJ' sc loc j B (upD (upCh σ false true ⟨[],ac,t,w,cm⟩) false true []) l) K =
   putR 12 fun du=>K (.d .none) (stJ' sc loc j B (upD (upCh σ false true ⟨du,ac,t,w,cm⟩) false true cfM) l):=by
  rcases hj with rfl | rfl | rfl <;> kernel_rfl
theorem put_s (hj:j=0 ∨ j=1 ∨ j=2):(ops T1 (n + 20)).cl (.ref 462) [.obj (sdN true + 7),dsL outS] (stJ' sc loc j B (upD (upD (upCh (upCh σ true false ⟨[],ac,t,w,cm⟩) true true ⟨[],ac',t',w',cm'⟩) true false []) true true []) l) K =
   putR 14 fun du=>putR 26 fun du'=>K (.d .none) (stJ' sc loc j B (upD (upD (upCh (upCh σ true false ⟨du,ac,t,w,cm⟩) true true ⟨du',ac',t',w',cm'⟩) true false shM) true true hsM) l):=by
  rcases hj with rfl | rfl | rfl <;> kernel_rfl
end
section
variable {sc:Scope} {loc:List (Str × Option SV)} {B:Box} {σ:LS} {l:List Dat} {K:KV} {j n:Nat} {Y:List UInt8} {r k:Bool}
theorem take_leaf (hj:j=0 ∨ j=1 ∨ j=2) {ms:List Dat} {R b:List UInt8} (hz:b.length ≤ 1000) (hb:σ.rest r k ++ Y=b) (hs:∀ K',spl (scA 212) K' b=spk (scA 212) K' ms R) (ht:takeK n r k Y sc loc (hpJ j B σ l) K (mrV ms R)) :
    (ops T1 (n + 30)).cl (.ref 212) [.obj (sdN r + 2),.d (spc k),.d (byt Y)] ⟨sc,loc,hpJ j B σ l⟩ K:=
  (take_in hj).mpr (rqLe (by rw [← List.length_append,hb]; exact hz) ⟨b,by rw [hb],(hs _).mpr ⟨rfl,ht⟩⟩)
theorem partR_of {R:List UInt8} {A:Prop} (hR:R.length ≤ 100000) (h:A):partR R A:=by
  refine rqLe hR ?_
  cases decide ((R.length:Int) > 0) <;> exact h
theorem sl_take0 {D:List UInt8} {t:Int}:sl D 0 t=D.take t.toNat:=by unfold sl; rw [Int.toNat_zero,List.drop_zero,Nat.sub_zero]
theorem sl_more {D:List UInt8} {t t':Int} (h0:0 ≤ t) (h1:t ≤ t'):sl D 0 t ++ sl D t t'=D.take t'.toNat:=by rw [sl_app (Int.le_refl 0) h0 h1,sl_take0]
theorem sl_sf {a b:Int} (h:14 ≤ a):sl hsM a b=sl sfM (a - 14) (b - 14):=by
  have e:hsM.drop a.toNat=sfM.drop (a - 14).toNat:=by
    show (eeM ++ sfM).drop a.toNat=_
    rw [List.drop_append,List.drop_eq_nil_of_le (show eeM.length ≤ a.toNat by have:eeM.length=14:=rfl; exact ln [_] [_] [.Le (.k 14) (.v 0),.eq (.v 0) (.k 14)] (.le (.v 0) (.t (.v 0))) (.b (.w [1,0,1,1]) (.w [0,0,1,0,1])) zr h this)]
    show sfM.drop (a.toNat - 14)=_
    congr 1; exact ln [] [_] [] (.eq (.s (.t (.v 0)) (.k 14)) (.t (.s (.v 0) (.k 14)))) (.b (.w [1]) (.b (.w [1]) (.b (.w [1,1]) (.b (.w [1,0,0,1]) (.b (.w [1,1]) (.b (.w [1,0,0,1]) (.b (.w [1]) (.b (.w [1]) (.b (.w [0,1]) (.b (.w [0,1]) (.b (.w [0,1]) (.b (.w [1]) (.b (.w [1,0,1]) (.b (.w [1,0,0,1]) (.b (.w [1]) (.w [1])))))))))))))))) zr
  have e1:a.toNat=(a - 14).toNat + 14:=by exact ln [] [_] [.Le (.k 14) (.v 0)] (.eq (.t (.v 0)) (.a (.t (.s (.v 0) (.k 14))) (.k 14))) (.b (.w [0,1]) (.b (.w [0,1]) (.b (.w [1,1]) (.b (.w [0,1,0,1]) (.b (.w [1,0,1]) (.b (.w [1,1]) (.b (.w [1,0,1]) (.w [0,1])))))))) zr h
  have e2:b.toNat - 14=(b - 14).toNat:=by exact ln [] [_] [] (.eq (.s (.t (.v 0)) (.k 14)) (.t (.s (.v 0) (.k 14)))) (.b (.w [1]) (.b (.w [1]) (.b (.w [1,1]) (.b (.w [1,0,0,1]) (.b (.w [1,1]) (.b (.w [1,0,0,1]) (.b (.w [1]) (.b (.w [1]) (.b (.w [0,1]) (.b (.w [0,1]) (.b (.w [0,1]) (.b (.w [1]) (.b (.w [1,0,1]) (.b (.w [1,0,0,1]) (.b (.w [1]) (.w [1])))))))))))))))) zr
  unfold sl
  rw [e,e1,Nat.add_comm,← Nat.sub_sub,e2]
theorem len_full:chM.length=37 ∧ shM.length=14 ∧ hsM.length=26 ∧ sfM.length=12 ∧ cfM.length=12:=⟨rfl,rfl,rfl,rfl,rfl⟩
theorem take_len {D:List UInt8} {t:Nat} (hD:D.length ≤ 40):(D.take t).length ≤ 1000:=by rw [List.length_take]; exact ln [_,_] [] [.le (.v 0) (.k 40)] (.le (.mn (.v 1) (.v 0)) (.k 1000)) (.b (.w [1,1,1]) (.w [1,1])) zr hD
theorem setH_self:setH σ r (σ.st r) (σ.rest r false) (σ.rest r true)=σ:=by
  cases σ with | mk ch st rest data =>
  have e1:(fun b=>bif eqB r b then st r else st b)=st:=funext fun b=>by cases r <;> cases b <;> rfl
  have e2:(fun b k=>bif eqB r b then @Bool.rec (fun _=>List UInt8) (rest r false) (rest r true) k else rest b k)=rest:=funext fun b=>funext fun k=>by cases r <;> cases b <;> cases k <;> rfl
  unfold setH
  dsimp only
  rw [e1,e2]
noncomputable def outsP (s s':HSt):List Dat:=bif s'.has true && !s.has true then @HSt.rec (fun _=>List Dat) [] [] [] outC [] outS [] s' else []
end
section
variable {sc:Scope} {loc:List (Str × Option SV)} {B:Box} {σ:LS} {l:List Dat} {K:KV} {j n:Nat} {t t':Int}
noncomputable abbrev takeG (n:Nat) (r k:Bool) (Y:List UInt8) (sc:Scope) (loc:List (Str × Option SV)) (j:Nat) (B:Box) (σ:LS) (l:List Dat) (K:KV):Prop:=(ops T1 (n + 30)).cl (.ref 212) [.obj (sdN r + 2),.d (spc k),.d (byt Y)] ⟨sc,loc,hpJ j B σ l⟩ K
noncomputable abbrev stN (sc:Scope) (loc:List (Str × Option SV)) (j:Nat) (B:Box) (σ:LS) (r:Bool) (s:HSt) (tI tH:Int) (l:List Dat):Sy:=stH sc loc j B σ r s (s.rest false tI tH) (s.rest true tI tH) l
theorem lenT {D:List UInt8} {t:Nat} (hD:D.length ≤ 40):(D.take t).length ≤ 100000:=by rw [List.length_take]; exact ln [_,_] [] [.le (.v 0) (.k 40)] (.le (.mn (.v 1) (.v 0)) (.k 100000)) (.b (.w [1,1,1]) (.w [1,1])) zr hD
theorem bT {α:Type} {p:Prop} [Decidable p] {a b:α} (h:p):(bif decide p then a else b)=a:=by rw [decide_eq_true h]; rfl
theorem bF {α:Type} {p:Prop} [Decidable p] {a b:α} (h:¬ p):(bif decide p then a else b)=b:=by rw [decide_eq_false h]; rfl
theorem take_c0 (hj:j=0 ∨ j=1 ∨ j=2) (h0:0 ≤ t) (h1:t < t') (h2:t' ≤ 14) (h:K (dsL (outsP .c0 (nxS .c0 false t'))) (stN sc loc j B σ false (nxS .c0 false t') t' 0 l)):takeG n false false (sl shM t t') sc loc j B (setH σ false .c0 (sl shM 0 t) []) l K:=by
  by_cases c:t' < 14
  · rw [show nxS .c0 false t'=.c0 from bT c] at h
    exact take_leaf hj (take_len (by decide)) (sl_more h0 (Int.le_of_lt h1)) (fun K'=>map_at sp_sh (by exact ln [] [_] [.Lt (.v 0) (.k 14)] (.lt (.t (.v 0)) (.k 14)) (.b (.w [1,1]) (.w [0,1])) zr c)) ((part_c0 hj).mpr (partR_of (lenT (by decide)) (sl_take0 ▸ h)))
  · rw [show nxS .c0 false t'=.c1 from bF c] at h
    exact take_leaf hj (b:=shM) (by decide) ((sl_more h0 (Int.le_of_lt h1)).trans (List.take_of_length_le (by rw [len_full.2.1]; exact ln [] [_] [.n (.Lt (.v 0) (.k 14))] (.le (.k 14) (.t (.v 0))) (.b (.w [1,1]) (.w [1,0,1])) zr c))) (fun K'=>sp_shw) ((got_sh hj).mpr h)
theorem take_s0 (hj:j=0 ∨ j=1 ∨ j=2) (h0:0 ≤ t) (h1:t < t') (h2:t' ≤ 37) (h:K (dsL (outsP .s0 (nxS .s0 false t'))) (stN sc loc j B σ true (nxS .s0 false t') t' 0 l)):takeG n true false (sl chM t t') sc loc j B (setH σ true .s0 (sl chM 0 t) []) l K:=by
  by_cases c:t' < 37
  · rw [show nxS .s0 false t'=.s0 from bT c] at h
    exact take_leaf hj (take_len (by decide)) (sl_more h0 (Int.le_of_lt h1)) (fun K'=>map_at sp_ch (by exact ln [] [_] [.Lt (.v 0) (.k 37)] (.lt (.t (.v 0)) (.k 37)) (.b (.w [1,1]) (.w [0,1])) zr c)) ((part_s0 hj).mpr (partR_of (lenT (by decide)) (sl_take0 ▸ h)))
  · rw [show nxS .s0 false t'=.s1 from bF c] at h
    exact take_leaf hj (b:=chM) (by decide) ((sl_more h0 (Int.le_of_lt h1)).trans (List.take_of_length_le (by rw [len_full.1]; exact ln [] [_] [.n (.Lt (.v 0) (.k 37))] (.le (.k 37) (.t (.v 0))) (.b (.w [1,1]) (.w [1,0,1])) zr c))) (fun K'=>sp_chw) ((got_ch hj).mpr h)
theorem take_s1 (hj:j=0 ∨ j=1 ∨ j=2) (h0:0 ≤ t) (h1:t < t') (h2:t' ≤ 12) (h:K (dsL (outsP .s1 (nxS .s1 true t'))) (stN sc loc j B σ true (nxS .s1 true t') 37 t' l)):takeG n true true (sl cfM t t') sc loc j B (setH σ true .s1 [] (sl cfM 0 t)) l K:=by
  by_cases c:t' < 12
  · rw [show nxS .s1 true t'=.s1 from bT c] at h
    exact take_leaf hj (take_len (by decide)) (sl_more h0 (Int.le_of_lt h1)) (fun K'=>map_at sp_cf (by exact ln [] [_] [.Lt (.v 0) (.k 12)] (.lt (.t (.v 0)) (.k 12)) (.b (.w [1,1]) (.w [0,1])) zr c)) ((part_s1 hj).mpr (partR_of (lenT (by decide)) (sl_take0 ▸ h)))
  · rw [show nxS .s1 true t'=.s2 from bF c] at h
    exact take_leaf hj (b:=cfM) (by decide) ((sl_more h0 (Int.le_of_lt h1)).trans (List.take_of_length_le (by rw [len_full.2.2.2.2]; exact ln [] [_] [.n (.Lt (.v 0) (.k 12))] (.le (.k 12) (.t (.v 0))) (.b (.w [1,1]) (.w [1,0,1])) zr c))) (fun K'=>sp_cfw) ((got_cf hj).mpr h)
theorem take_c2 (hj:j=0 ∨ j=1 ∨ j=2) (h0:14 ≤ t) (h1:t < t') (h2:t' ≤ 26) (h:K (dsL (outsP .c2 (nxS .c2 true t'))) (stN sc loc j B σ false (nxS .c2 true t') 14 t' l)):takeG n false true (sl hsM t t') sc loc j B (setH σ false .c2 [] (sl sfM 0 (t - 14))) l K:=by
  rw [sl_sf h0]
  by_cases c:t' < 26
  · rw [show nxS .c2 true t'=.c2 from bT c] at h
    exact take_leaf hj (take_len (by decide)) (sl_more (t:=t - 14) (t':=t' - 14) (by exact ln [] [_] [.Le (.k 14) (.v 0)] (.Le (.k 0) (.s (.v 0) (.k 14))) (.w [1,1]) zr h0) (by exact ln [] [_,_] [.Lt (.v 0) (.v 1)] (.Le (.s (.v 0) (.k 14)) (.s (.v 1) (.k 14))) (.w [1,1]) zr h1)) (fun K'=>map_at sp_sf (by exact ln [] [_] [.Lt (.v 0) (.k 26)] (.lt (.t (.s (.v 0) (.k 14))) (.k 12)) (.b (.w [1,1]) (.w [0,1])) zr c)) ((part_c2 hj).mpr (partR_of (lenT (by decide)) (sl_take0 ▸ h)))
  · rw [show nxS .c2 true t'=.c3 from bF c] at h
    exact take_leaf hj (b:=sfM) (by decide) ((sl_more (t:=t - 14) (t':=t' - 14) (by exact ln [] [_] [.Le (.k 14) (.v 0)] (.Le (.k 0) (.s (.v 0) (.k 14))) (.w [1,1]) zr h0) (by exact ln [] [_,_] [.Lt (.v 0) (.v 1)] (.Le (.s (.v 0) (.k 14)) (.s (.v 1) (.k 14))) (.w [1,1]) zr h1)).trans (List.take_of_length_le (by rw [len_full.2.2.2.1]; exact ln [] [_] [.n (.Lt (.v 0) (.k 26))] (.le (.k 12) (.t (.s (.v 0) (.k 14)))) (.b (.w [1,1]) (.w [1,0,1])) zr c))) (fun K'=>sp_sfw) ((got_sf hj).mpr h)
theorem take_c1 (hj:j=0 ∨ j=1 ∨ j=2) (h0:0 ≤ t) (h1:t < t') (h2:t' ≤ 26) (h:K (dsL (outsP .c1 (nxS .c1 true t'))) (stN sc loc j B σ false (nxS .c1 true t') 14 t' l)):takeG n false true (sl hsM t t') sc loc j B (setH σ false .c1 [] (sl hsM 0 t)) l K:=by
  by_cases c:t' < 14
  · rw [show nxS .c1 true t'=.c1 from bT c] at h
    exact take_leaf hj (take_len (by decide)) (sl_more h0 (Int.le_of_lt h1)) (fun K'=>map_at sp_ee (by exact ln [] [_] [.Lt (.v 0) (.k 14)] (.lt (.t (.v 0)) (.k 14)) (.b (.w [1,1]) (.w [0,1])) zr c)) ((part_c1 hj).mpr (partR_of (lenT (by decide)) (sl_take0 ▸ h)))
  · by_cases d:t' < 26
    · rw [show nxS .c1 true t'=.c2 from (bF c).trans (bT d)] at h
      refine take_leaf hj (b:=hsM.take (14 + (t' - 14).toNat)) (take_len (by decide)) ((sl_more h0 (Int.le_of_lt h1)).trans (by congr 1; exact ln [] [_] [.n (.Lt (.v 0) (.k 14))] (.eq (.t (.v 0)) (.a (.k 14) (.t (.s (.v 0) (.k 14))))) (.b (.w [0,1]) (.b (.w [0,1]) (.b (.w [1,1]) (.b (.w [0,1,0,1]) (.b (.w [1,0,1]) (.b (.w [1,1]) (.b (.w [1,0,1]) (.w [0,1])))))))) zr c)) (fun K'=>map_at sp_ef (t:=(t' - 14).toNat) (by exact ln [] [_] [.Lt (.v 0) (.k 26)] (.lt (.t (.s (.v 0) (.k 14))) (.k 12)) (.b (.w [1,1]) (.w [0,1])) zr d)) ((got_ee hj).mpr (partR_of (lenT (by decide)) (sl_take0 ▸ h)))
    · rw [show nxS .c1 true t'=.c3 from (bF c).trans (bF d)] at h
      exact take_leaf hj (b:=hsM) (by decide) ((sl_more h0 (Int.le_of_lt h1)).trans (List.take_of_length_le (by rw [len_full.2.2.1]; exact ln [] [_] [.n (.Lt (.v 0) (.k 26))] (.le (.k 26) (.t (.v 0))) (.b (.w [1,1]) (.w [1,0,1])) zr d))) (fun K'=>sp_hsw) ((got_ef hj).mpr h)
end
section
variable {sc:Scope} {loc:List (Str × Option SV)} {B:Box} {σ:LS} {l:List Dat} {K:KV} {ac du:List (Int × Int)} {w:List Dat} {t:Int} {cm:List Dat} {j n:Nat}
noncomputable abbrev stJ (sc:Scope) (loc:List (Str × Option SV)) (j:Nat) (B:Box) (σ:LS) (l:List Dat):Sy:=⟨sc,loc,hpJ j B σ l⟩
theorem next_nil (hj:j=0 ∨ j=1) {b k:Bool} {m:Int}:(ops T1 (n + 20)).cl (.ref 415) [.obj (outN b k),.d (.int m)] (stJ sc loc j B (upCh σ b k ⟨[],ac,t,w,cm⟩) l) K=K (.d .none) (stJ sc loc j B (upCh σ b k ⟨[],ac,t,w,cm⟩) l):=by
  rcases hj with rfl | rfl <;> cases b <;> cases k <;> kernel_rfl
noncomputable def nextR (b k:Bool) (m lo hi:Int) (r:List (Int × Int)) (sc:Scope) (loc:List (Str × Option SV)) (j:Nat) (B:Box) (σ:LS) (ac:List (Int × Int)) (w:List Dat) (t:Int) (cm:List Dat) (l:List Dat) (K:KV):Prop:=
  ∃ xs a c,[dsL (spX (lo,hi) :: r.map spX),.d (.int lo),.d (.int (mnV hi (lo + m)))]=[dsL (xs.map spX),.d (.int a),.d (.int c)] ∧ (a < c ∧ xs.length ≤ 400) ∧
    req (Nat.ble (σ.data b k).length 1000) (K (.d (.tuple [.int lo,byt (cutL (σ.data b k) (some lo) (some (mnV hi (lo + m))))])) (stJ sc loc j B (upCh σ b k ⟨cutS a c xs,ac,t,w,cm⟩) l))
theorem next_cons (hj:j=0 ∨ j=1) {b k:Bool} {m lo hi:Int} {r:List (Int × Int)}:(ops T1 (n + 20)).cl (.ref 415) [.obj (outN b k),.d (.int m)] (stJ sc loc j B (upCh σ b k ⟨(lo,hi) :: r,ac,t,w,cm⟩) l) K =
  req (Nat.ble ((r.map spX).length + 1) 100000) (bite (decide (m ≤ 0) == false) (nextR b k m lo hi r sc loc j B σ ac w t cm l K) (bite (decide (m ≤ 0)) (K (.d .none) (stJ sc loc j B (upCh σ b k ⟨(lo,hi) :: r,ac,t,w,cm⟩) l)) (nextR b k m lo hi r sc loc j B σ ac w t cm l K))):=by
  rcases hj with rfl | rfl <;> cases b <;> cases k <;> kernel_rfl
theorem lost_eq {b k:Bool} {o z:Int}:(ops T1 (n + 20)).cl (.ref 422) [.obj (outN b k),.d (.int o),.d (.int z)] (stJ sc loc 0 B (upCh σ b k ⟨du,ac,t,w,cm⟩) l) K =
  ∃ (ys:List (Int × Int)) (o' e':Int),[dsL [spX (o,o + z)],dsL (ac.map spX)]=[dsL [spX (o',e')],dsL (ys.map spX)] ∧ (o' < e' ∧ ∀ p ∈ ys,p.1 < p.2 ∧ (p.2 ≤ o' ∨ e' ≤ p.1)) ∧
   ∃ xs lo hi,[dsL (du.map spX),.d (.int o'),.d (.int e')]=[dsL (xs.map spX),.d (.int lo),.d (.int hi)] ∧ (lo < hi ∧ xs.length ≤ 900 ∧ Gap xs) ∧ K (.d .none) (stJ sc loc 0 B (upCh σ b k ⟨addS xs lo hi,ac,t,w,cm⟩) l):=by
  cases b <;> cases k <;> kernel_rfl
theorem ack_eq {b k:Bool} {o z:Int}:(ops T1 (n + 20)).cl (.ref 429) [.obj (outN b k),.d (.int o),.d (.int z)] (stJ sc loc 0 B (upCh σ b k ⟨du,ac,t,w,cm⟩) l) K =
  ∃ xs lo hi,[dsL (ac.map spX),.d (.int o),.d (.int (o + z))]=[dsL (xs.map spX),.d (.int lo),.d (.int hi)] ∧ (lo < hi ∧ xs.length ≤ 900 ∧ Gap xs) ∧
   ∃ ys lo' hi',[dsL (du.map spX),.d (.int o),.d (.int (o + z))]=[dsL (ys.map spX),.d (.int lo'),.d (.int hi')] ∧ (lo' < hi' ∧ ys.length ≤ 400) ∧ K (.d .none) (stJ sc loc 0 B (upCh σ b k ⟨cutS lo' hi' ys,addS xs lo hi,t,w,cm⟩) l):=by
  cases b <;> cases k <;> kernel_rfl
noncomputable def arrR (b k:Bool) (o:Int) (X:List UInt8) (sc:Scope) (loc:List (Str × Option SV)) (j:Nat) (B:Box) (σ:LS) (du ac:List (Int × Int)) (w:List Dat) (t:Int) (cm:List Dat) (l:List Dat) (K:KV):Prop:=
  ∃ D xs a e,[dsL w,.d (.int o),.d (byt X)]=[dsL (xs.map (pcX D)),.d (.int a),.d (byt (sl D a e))] ∧ (PcOk D xs ∧ xs.length < 19 ∧ (xs.Pairwise fun p q=>p.2 < q.1) ∧ (0 ≤ a ∧ a < e ∧ e ≤ D.length) ∧ (addS xs a e).Pairwise fun p q=>p.1 < q.1) ∧
   ∃ D' ys t',[dsL ((addS xs a e).map (pcX D)),.d (.int t)]=[dsL (ys.map (pcX D')),.d (.int t')] ∧ (PcOk D' ys ∧ (ys.Pairwise fun p q=>p.2 < q.1) ∧ ∀ p ∈ ys,t' ≤ p.1) ∧
    req (Nat.ble (tkF D' t' ys).1.length 100000) (K (.d (byt (tkF D' t' ys).1)) (stJ sc loc j B (upCh σ b k ⟨du,ac,t + ((tkF D' t' ys).1.length:Int),(tkF D' t' ys).2.map (pcX D'),cm⟩) l))
theorem arrived_eq (hj:j=0 ∨ j=1 ∨ j=2) {b k:Bool} {o:Int} {X:List UInt8}:(ops T1 (n + 20)).cl (.ref 373) [.obj (inN (!b) k),.d (.int o),.d (byt X)] (stJ sc loc j B (upCh σ b k ⟨du,ac,t,w,cm⟩) l) K =
  req (Nat.ble X.length 100000) (bite (decide (o + (X.length:Int) > t + 200)) False (req (Nat.ble X.length 100000) (bite (decide (o + (X.length:Int) ≤ t)) (K (.d (byt [])) (stJ sc loc j B (upCh σ b k ⟨du,ac,t,w,cm⟩) l))
   (bite (decide (o < t)) (req (Nat.ble X.length 1000) (arrR b k t (cutL X (some (t - o)) none) sc loc j B σ du ac w t cm l K)) (arrR b k o X sc loc j B σ du ac w t cm l K))))):=by
  rcases hj with rfl | rfl | rfl <;> cases b <;> cases k <;> kernel_rfl
end
section
variable {sc:Scope} {loc:List (Str × Option SV)} {B:Box} {σ σ':LS} {l:List Dat} {K:KV} {j n:Nat} {o:Int} {X Y:List UInt8} {r k:Bool} {told:Option SV}
noncomputable def arrK (sc:Scope) (loc:List (Str × Option SV)) (j:Nat) (B:Box) (σ:LS) (l:List Dat) (K:KV):KF:=retK (62 + j) ⟨sc,loc,hpJ j B σ l⟩ K
theorem arr_ret (hj:j=0 ∨ j=1 ∨ j=2):arrK sc loc j B σ l K .next (σA r k o X told j B σ' l)=K (.d .none) ⟨sc,loc,hpJ j B σ' l⟩:=by
  rcases hj with rfl | rfl | rfl <;> kernel_rfl
theorem arr_in (hj:j=0 ∨ j=1 ∨ j=2):(ops T1 (n + 40)).cl (.ref 467) [.obj (sdN r + 7),.d (spc k),.d (.int o),.d (byt X)] ⟨sc,loc,hpJ j B σ l⟩ K =
   st1 T1 (ops T1 (n + 38)) (stA (bodyA 467) 0) (σA r k o X none j B σ l) fun fl σ1=>onF fl (exV T1 (ops T1 (n + 38)) ((bodyA 467).drop 1) σ1 (arrK sc loc j B σ l K)) (arrK sc loc j B σ l K .brk σ1) fun u=>arrK sc loc j B σ l K (.ret u) σ1:=by
  rcases hj with rfl | rfl | rfl <;> kernel_rfl
theorem arr_1 (hj:j=0 ∨ j=1 ∨ j=2) {Kr:KF}:exV T1 (ops T1 (n + 38)) ((bodyA 467).drop 1) (σA r k o X none j B σ l) Kr =
   (ops T1 (n + 37)).cl (.ref 373) [.obj (inN r k),.d (.int o),.d (byt X)] (σA r k o X none j B σ l) fun v σ1=>asgV T1 (ops T1 (n + 38)) (asgT (stA (bodyA 467) 1)) v σ1 fun σ2=>exV T1 (ops T1 (n + 38)) ((bodyA 467).drop 2) σ2 Kr:=by
  rcases hj with rfl | rfl | rfl <;> cases r <;> cases k <;> kernel_rfl
theorem arr_asg {v:SV} (hj:j=0 ∨ j=1 ∨ j=2) {K:Sy→Prop}:asgV T1 (ops T1 (n + 38)) (asgT (stA (bodyA 467) 1)) v (σA r k o X none j B σ l) K=K (σA r k o X (some v) j B σ l):=by kernel_rfl
theorem arr_2 (hj:j=0 ∨ j=1 ∨ j=2) {Kr:KF}:exV T1 (ops T1 (n + 38)) ((bodyA 467).drop 2) (σA r k o X (some (.d (byt Y))) j B σ l) Kr =
   req (Nat.ble Y.length 100000) (bite (decide ((Y.length:Int) > 0)) ((ops T1 (n + 35)).cl (.ref 212) [.obj (sdN r + 2),.d (spc k),.d (byt Y)] (σA r k o X (some (.d (byt Y))) j B σ l) fun v σ1=>(ops T1 (n + 36)).cl (.ref 462) [.obj (sdN r + 7),v] σ1 fun _ σ2=>Kr .next σ2) (Kr .next (σA r k o X (some (.d (byt Y))) j B σ l))):=by
  rcases hj with rfl | rfl | rfl <;> cases r <;> cases k <;> kernel_rfl
end
section
variable {sc:Scope} {loc:List (Str × Option SV)} {B:Box} {σ σF:LS} {l:List Dat} {K:KV} {j n:Nat} {b k:Bool} {c:PCh} {o e N:Int}
theorem tk_eq {D:List UInt8} {t n:Int} {xs:List (Int × Int)} (h:SpOk n xs) (hn:n ≤ D.length) (ht:0 ≤ t) (hl:∀ p ∈ xs,t ≤ p.1):(tkF D t xs).1=sl D t (tkT t xs).1 ∧ (tkF D t xs).2=(tkT t xs).2 ∧ t ≤ (tkT t xs).1 ∧ (tkT t xs).1 ≤ max t n:=by
  cases xs with
  | nil=>exact ⟨(sl_nil (Int.le_refl t)).symm,rfl,Int.le_refl _,Int.le_max_left ..⟩
  | cons p r =>
    obtain ⟨hp,_⟩:=h.hd
    by_cases d:p.1=t
    · have e1:tkF D t (p :: r)=(sl D t p.2,r):=bT d
      have e2:tkT t (p :: r)=(p.2,r):=bT d
      rw [e1,e2]
      exact ⟨rfl,rfl,by dsimp only; exact ln [] [_,_,_,_] [.a (.Le (.k 0) (.v 0)) (.a (.Lt (.v 0) (.v 1)) (.Le (.v 1) (.v 2))),.Eq (.v 0) (.v 3)] (.Le (.v 3) (.v 1)) (.w [0,1,0,1,0,1]) zr hp d,by dsimp only; exact ln [] [_,_,_,_] [.a (.Le (.k 0) (.v 0)) (.a (.Lt (.v 0) (.v 1)) (.Le (.v 1) (.v 2)))] (.Le (.v 1) (.mx (.v 3) (.v 2))) (.b (.w [0,0,1,1]) (.w [0,0,1,1,1])) zr hp⟩
    · have e1:tkF D t (p :: r)=([],p :: r):=bF d
      have e2:tkT t (p :: r)=(t,p :: r):=bF d
      rw [e1,e2]
      exact ⟨(sl_nil (Int.le_refl t)).symm,rfl,Int.le_refl _,Int.le_max_left ..⟩
theorem sp_small {n:Int} {xs:List (Int × Int)} (h:SpOk n xs) (hn:n ≤ 37) (h0:0 ≤ n):xs.length < 19 + 1 ∧ (∀ t:Int,0 ≤ t→(∀ p ∈ xs,t < p.1)→xs.length < 19):=by
  have h1:=sp_len (a:=0) h (fun p hp=>(h.each p hp).1) (by exact ln [] [_] [.Le (.k 0) (.v 0)] (.Le (.k 0) (.a (.v 0) (.k 1))) (.w [1,1]) zr h0)
  exact ⟨by exact ln [_] [_] [.Le (.v 0) (.k 37),.Le (.m 2 (.c (.v 0))) (.a (.s (.v 0) (.k 0)) (.k 1))] (.lt (.v 0) (.a (.k 19) (.k 1))) (.w [1,1,2]) zr hn h1,fun t ht hl=>by
    have:=sp_len (a:=t + 1) h (fun p hp=>hl p hp)
    by_cases c:t ≤ n
    · have:=this (by exact ln [] [_,_] [.Le (.v 0) (.v 1)] (.Le (.a (.v 0) (.k 1)) (.a (.v 1) (.k 1))) (.w [1,1]) zr c); exact ln [_] [_,_] [.Le (.v 0) (.k 37),.Le (.k 0) (.v 1),.Le (.m 2 (.c (.v 0))) (.a (.s (.v 0) (.a (.v 1) (.k 1))) (.k 1))] (.lt (.v 0) (.k 19)) (.w [1,1,1,2]) zr hn ht this
    · cases xs with
      | nil=>exact Nat.lt_of_lt_of_le (Nat.zero_lt_succ _) (Nat.le_refl _)
      | cons p r=>have h2:=hl p (List.mem_cons_self ..); have h3:=h.hd.1; exact ln [_] [_,_,_,_] [.n (.Le (.v 0) (.v 1)),.Lt (.v 0) (.v 2),.a (.Le (.k 0) (.v 2)) (.a (.Lt (.v 2) (.v 3)) (.Le (.v 3) (.v 1)))] (.lt (.v 0) (.k 19)) (.w [0,1,1,1,1]) zr c h2 h3⟩
theorem arrive_core (hj:j=0 ∨ j=1 ∨ j=2) (hc:ChOk N c) (hN:N=NN b k) (hcs:c.cs.length ≤ 100) (h0:0 ≤ o) (h1:o < e) (h2:e ≤ N)
    (hs:(arrW c o e).1=c.told→upCh σ b k (toCh b k (arrC c o e))=σF)
    (hm:c.told < (arrW c o e).1→∀ (sc':Scope) (loc':List (Str × Option SV)) (K2:Sy→Prop),K2 ⟨sc',loc',hpJ j B σF l⟩→(ops T1 (n + 35)).cl (.ref 212) [.obj (sdN (!b) + 2),.d (spc k),.d (byt (sl (full b k) c.told (arrW c o e).1))] ⟨sc',loc',hpJ j B (upCh σ b k (toCh b k (arrC c o e))) l⟩ fun v σ1=>(ops T1 (n + 36)).cl (.ref 462) [.obj (sdN (!b) + 7),v] σ1 fun _ σ2=>K2 σ2)
    (h:K (.d .none) ⟨sc,loc,hpJ j B σF l⟩) :
    (ops T1 (n + 40)).cl (.ref 467) [.obj (sdN (!b) + 7),.d (spc k),.d (.int o),.d (byt (sl (full b k) o e))] ⟨sc,loc,hpJ j B (upCh σ b k (toCh b k c)) l⟩ K:=by
  have hNf:=NN_eq b k
  have hN37:N ≤ 37:=by rw [hN]; cases b <;> cases k <;> decide
  have hD:(full b k).length ≤ 100:=by exact ln [_] [_,_] [.Eq (.v 0) (.v 1),.Eq (.c (.v 0)) (.v 1),.Le (.v 0) (.k 37)] (.le (.v 0) (.k 100)) (.w [1,1,0,0,1,1]) zr hN hNf hN37
  have hl:=sl_len (D:=full b k) h0 (Int.le_of_lt h1) (by exact ln [_] [_,_,_] [.Eq (.v 0) (.v 1),.Le (.v 2) (.v 0),.Eq (.c (.v 0)) (.v 1)] (.Le (.v 2) (.c (.v 0))) (.w [0,1,1,1,0,1]) zr hN h2 hNf)
  have ht:=hc.told
  have e1:(e - o).toNat=(sl (full b k) o e).length:=by exact ln [_] [_,_] [.Eq (.c (.v 0)) (.s (.v 0) (.v 1))] (.eq (.t (.s (.v 0) (.v 1))) (.v 0)) (.b (.w [1,0,1]) (.b (.w [0,1,1]) (.b (.w [1,0,1,1]) (.w [0,0,1])))) zr hl
  refine (arr_in hj).mpr (came_run (n:=n + 16) hj ⟨h0,by exact ln [_] [_,_,_] [.Le (.v 0) (.v 1),.Le (.v 1) (.k 37),.Eq (.c (.v 0)) (.s (.v 0) (.v 2))] (.Le (.v 2) (.k 1000)) (.w [1,0,1,1,1]) zr h2 hN37 hl⟩ (by exact ln [_] [_,_,_] [.Le (.k 0) (.v 0),.Le (.v 1) (.v 2),.Le (.v 2) (.k 37),.eq (.t (.s (.v 1) (.v 0))) (.v 0)] (.le (.v 0) (.k 100)) (.b (.w [0,1,0,1,1,1,1]) (.w [0,1,0,0,0,0,1])) zr h0 h2 hN37 e1) (by exact ln [_] [_,_] [.Lt (.v 0) (.v 1),.eq (.t (.s (.v 1) (.v 0))) (.v 0)] (.lt (.k 0) (.v 0)) (.b (.w [1,0,0,1,1]) (.w [0,0,1,1])) zr h1 e1) hcs ?_)
  refine (arr_1 hj).mpr ((arrived_eq (n:=n + 17) hj).mpr (rqLe (by exact ln [_] [_,_,_] [.Le (.k 0) (.v 0),.Le (.v 1) (.v 2),.Le (.v 2) (.k 37),.eq (.t (.s (.v 1) (.v 0))) (.v 0)] (.le (.v 0) (.k 100000)) (.b (.w [0,1,0,1,1,1,1]) (.w [0,1,0,0,0,0,1])) zr h0 h2 hN37 e1) ?_))
  rw [decide_eq_false (show ¬ o + ((sl (full b k) o e).length:Int) > c.told + 200 by exact ln [_] [_,_,_,_] [.Le (.v 0) (.v 1),.Le (.v 1) (.k 37),.Eq (.c (.v 0)) (.s (.v 0) (.v 2)),.a (.Le (.k 0) (.v 3)) (.Le (.v 3) (.v 1))] (.n (.Lt (.a (.v 3) (.k 200)) (.a (.v 2) (.c (.v 0))))) (.w [1,0,1,0,1,1,1]) zr h2 hN37 hl ht)]
  refine rqLe (by exact ln [_] [_,_,_] [.Le (.k 0) (.v 0),.Le (.v 1) (.v 2),.Le (.v 2) (.k 37),.eq (.t (.s (.v 1) (.v 0))) (.v 0)] (.le (.v 0) (.k 100000)) (.b (.w [0,1,0,1,1,1,1]) (.w [0,1,0,0,0,0,1])) zr h0 h2 hN37 e1) ?_
  rw [show o + ((sl (full b k) o e).length:Int)=e by exact ln [_] [_,_] [.Eq (.c (.v 0)) (.s (.v 0) (.v 1))] (.Eq (.a (.v 1) (.c (.v 0))) (.v 0)) (.b (.w [0,1,1]) (.w [1,0,1])) zr hl]
  refine byC fun zC zk=>?_
  obtain ⟨w,wm⟩:=arrW_ok hc h0 h1 (by exact ln [] [_,_] [.Le (.v 0) (.v 1)] (.Le (.v 0) (.v 1)) (.w [1,1]) zr h2)
  refine zk ?_
  by_cases d:e ≤ c.told
  · have ew:arrW c o e=(c.told,c.ws):=bT d
    rw [decide_eq_true d]
    refine bi (fun _=>?_) fun p=>nomatch p
    refine (arr_asg (n:=n) hj).mpr ?_
    refine (arr_2 (n:=n) (Y:=[]) hj).mpr ?_
    refine rqLe (by decide) (bi (fun p=>absurd (of_decide_eq_true p) (by decide)) fun _=>(arr_ret hj).mpr ?_)
    have e2:arrC c o e=⟨c.due,c.acked,c.told,c.ws,c.cs ++ newI c.cs (sl (full b k) o e).length o⟩:=by rw [arrC,ew,e1]
    have:=hs (by rw [ew])
    rw [e2] at this
    exact this ▸ h
  · rw [decide_eq_false d]
    refine byC fun zC zk=>?_
    obtain ⟨A,hlow,ew⟩:=wm d
    have m:=mxV_spec o c.told
    have sm:=sp_small hc.ws hN37 (by exact ln [_] [_,_] [.Eq (.v 0) (.v 1),.Eq (.c (.v 0)) (.v 1)] (.Le (.k 0) (.v 0)) (.w [1,0,0,1,1]) zr hN hNf)
    have hP:PcOk (full b k) c.ws:=⟨fun p hp=>⟨(hc.ws.each p hp).1,(hc.ws.each p hp).2.1,by have:=(hc.ws.each p hp).2.2; exact ln [_] [_,_,_] [.Eq (.v 0) (.v 1),.Eq (.c (.v 0)) (.v 1),.Le (.v 2) (.v 0)] (.Le (.v 2) (.c (.v 0))) (.w [1,0,1,1,0,1]) zr hN hNf this⟩,hD,by exact ln [_] [] [.lt (.v 0) (.a (.k 19) (.k 1))] (.le (.v 0) (.k 100)) (.w [1,1]) zr sm.1⟩
    have hP2:PcOk (full b k) (addS c.ws (mxV o c.told) e):=⟨fun p hp=>⟨(A.ok.each p hp).1,(A.ok.each p hp).2.1,by have:=(A.ok.each p hp).2.2; exact ln [_] [_,_,_] [.Eq (.v 0) (.v 1),.Eq (.c (.v 0)) (.v 1),.Le (.v 2) (.v 0)] (.Le (.v 2) (.c (.v 0))) (.w [1,0,1,1,0,1]) zr hN hNf this⟩,hD,by have:=A.len; exact ln [_,_] [] [.lt (.v 0) (.a (.k 19) (.k 1)),.le (.v 1) (.a (.v 0) (.k 1))] (.le (.v 1) (.k 100)) (.w [1,1,1]) zr sm.1 this⟩
    obtain ⟨t1,t2,t3,t4⟩:=tk_eq (D:=full b k) (t:=c.told) A.ok (by exact ln [_] [_,_] [.Eq (.v 0) (.v 1),.Eq (.c (.v 0)) (.v 1)] (.Le (.v 0) (.c (.v 0))) (.w [0,1,1,0,1]) zr hN hNf) ht.1 hlow
    refine zk ?_
    rw [← ew] at t1 t2 t3 t4
    have go:arrR b k (mxV o c.told) (sl (full b k) (mxV o c.told) e) (scA 467) (locA (!b) k o (sl (full b k) o e) none) j B σ c.due c.acked (c.ws.map (pcX (full b k))) c.told ((c.cs ++ newI c.cs (sl (full b k) o e).length o).map .int) l (fun v σ1=>asgV T1 (ops T1 (n + 38)) (asgT (stA (bodyA 467) 1)) v σ1 fun σ2=>exV T1 (ops T1 (n + 38)) ((bodyA 467).drop 2) σ2 (arrK sc loc j B (upCh σ b k (toCh b k c)) l K)):=by
      refine ⟨full b k,c.ws,mxV o c.told,e,rfl,⟨hP,sm.2 c.told ht.1 hc.wt,hc.ws.gaps,⟨by exact ln [] [_,_,_] [.Le (.k 0) (.v 0),.a (.Le (.v 0) (.v 1)) (.a (.Le (.v 2) (.v 1)) (.o (.Eq (.v 1) (.v 0)) (.Eq (.v 1) (.v 2))))] (.Le (.k 0) (.v 1)) (.b (.w [1,0,0,0,1,1]) (.w [1,0,0,0,1,1])) zr h0 m,by exact ln [] [_,_,_,_] [.Lt (.v 0) (.v 1),.n (.Le (.v 1) (.v 2)),.a (.Le (.v 0) (.v 3)) (.a (.Le (.v 2) (.v 3)) (.o (.Eq (.v 3) (.v 0)) (.Eq (.v 3) (.v 2))))] (.Lt (.v 3) (.v 1)) (.b (.w [0,0,1,0,0,1,1]) (.w [0,0,1,0,1,0,1])) zr h1 d m,by exact ln [_] [_,_,_] [.Eq (.v 0) (.v 1),.Le (.v 2) (.v 0),.Eq (.c (.v 0)) (.v 1)] (.Le (.v 2) (.c (.v 0))) (.w [0,1,1,1,0,1]) zr hN h2 hNf⟩,A.ok.gaps.imp_of_mem fun {p q} hp hq hg=>Int.lt_trans (A.ok.each p hp).2.1 hg⟩,full b k,addS c.ws (mxV o c.told) e,c.told,rfl,⟨hP2,A.ok.gaps,hlow⟩,?_⟩
      have hY:=sl_len (D:=full b k) (a:=c.told) (b:=(arrW c o e).1) ht.1 t3 (by exact ln [_] [_,_,_,_] [.Eq (.v 0) (.v 1),.Eq (.c (.v 0)) (.v 1),.a (.Le (.k 0) (.v 2)) (.Le (.v 2) (.v 0)),.Le (.v 3) (.mx (.v 2) (.v 0))] (.Le (.v 3) (.c (.v 0))) (.b (.w [1,0,0,0,0,1,1,0,1]) (.w [1,0,0,1,0,1,1,0,1])) zr hN hNf ht t4)
      rw [t1,t2]
      refine rqLe (by exact ln [_] [_,_,_] [.Le (.v 0) (.k 37),.a (.Le (.k 0) (.v 1)) (.Le (.v 1) (.v 0)),.Eq (.c (.v 0)) (.s (.v 2) (.v 1)),.Le (.v 2) (.mx (.v 1) (.v 0))] (.le (.v 0) (.k 100000)) (.b (.w [1,0,1,0,1,0,1,1]) (.w [1,0,1,0,0,0,0,1])) zr hN37 ht hY t4) ((arr_asg (n:=n) hj).mpr ((arr_2 (n:=n) hj).mpr (rqLe (by exact ln [_] [_,_,_] [.Le (.v 0) (.k 37),.a (.Le (.k 0) (.v 1)) (.Le (.v 1) (.v 0)),.Eq (.c (.v 0)) (.s (.v 2) (.v 1)),.Le (.v 2) (.mx (.v 1) (.v 0))] (.le (.v 0) (.k 100000)) (.b (.w [1,0,1,0,1,0,1,1]) (.w [1,0,1,0,0,0,0,1])) zr hN37 ht hY t4) ?_)))
      rw [show c.told + ((sl (full b k) c.told (arrW c o e).1).length:Int)=(arrW c o e).1 by exact ln [_] [_,_] [.Eq (.c (.v 0)) (.s (.v 0) (.v 1))] (.Eq (.a (.v 1) (.c (.v 0))) (.v 0)) (.b (.w [0,1,1]) (.w [1,0,1])) zr hY]
      have e2:(⟨c.due,c.acked,(arrW c o e).1,(arrW c o e).2.map (pcX (full b k)),(c.cs ++ newI c.cs (sl (full b k) o e).length o).map .int⟩:Ch)=toCh b k (arrC c o e):=by rw [toCh,arrC,e1]
      rw [e2]
      refine bi (fun p=>?_) fun p=>?_
      · have p:=of_decide_eq_true p
        exact hm (by exact ln [_] [_,_] [.Eq (.c (.v 0)) (.s (.v 0) (.v 1)),.Lt (.k 0) (.c (.v 0))] (.Lt (.v 1) (.v 0)) (.w [1,1,0,1]) zr hY p) _ _ (fun σ2=>arrK sc loc j B (upCh σ b k (toCh b k c)) l K .next σ2) ((arr_ret hj).mpr h)
      · have p:=of_decide_eq_false p
        refine (arr_ret hj).mpr ?_
        rw [hs (by exact ln [_] [_,_] [.Eq (.c (.v 0)) (.s (.v 0) (.v 1)),.n (.Lt (.k 0) (.c (.v 0)))] (.Eq (.v 0) (.v 1)) (.b (.w [0,1,0,1]) (.w [1,0,1,1])) zr hY p)]
        exact h
    refine bi (fun p=>nomatch p) fun _=>bi (fun p=>?_) fun p=>?_
    · have p:=of_decide_eq_true p
      refine rqLe (by exact ln [_] [_,_,_] [.Le (.k 0) (.v 0),.Le (.v 1) (.v 2),.Le (.v 2) (.k 37),.eq (.t (.s (.v 1) (.v 0))) (.v 0)] (.le (.v 0) (.k 1000)) (.b (.w [0,1,0,1,1,1,1]) (.w [0,1,0,0,0,0,1])) zr h0 h2 hN37 e1) ?_
      have e3:cutL (sl (full b k) o e) (some (c.told - o)) none=sl (full b k) (mxV o c.told) e:=by
        rw [cutL_lo (by exact ln [] [_,_] [.Lt (.v 0) (.v 1)] (.Le (.k 0) (.s (.v 1) (.v 0))) (.w [1,1]) zr p),sl_drop h0 (by exact ln [] [_,_] [.Lt (.v 0) (.v 1)] (.Le (.k 0) (.s (.v 1) (.v 0))) (.w [1,1]) zr p)]; congr 1; exact ln [] [_,_,_] [.Lt (.v 0) (.v 1),.a (.Le (.v 0) (.v 2)) (.a (.Le (.v 1) (.v 2)) (.o (.Eq (.v 2) (.v 0)) (.Eq (.v 2) (.v 1))))] (.Eq (.a (.v 0) (.s (.v 1) (.v 0))) (.v 2)) (.b (.b (.w [0,1,1,0,1]) (.w [0,0,1,0,0,1])) (.b (.w [0,1,0,0,0,1]) (.w [0,1,0,0,0,1]))) zr p m
      rw [e3]
      rw [show mxV o c.told=c.told by exact ln [] [_,_,_] [.Lt (.v 0) (.v 1),.a (.Le (.v 0) (.v 2)) (.a (.Le (.v 1) (.v 2)) (.o (.Eq (.v 2) (.v 0)) (.Eq (.v 2) (.v 1))))] (.Eq (.v 2) (.v 1)) (.b (.b (.w [0,1,0,0,0,1]) (.w [0,1,0,0,0,1])) (.b (.w [0,1,1,0,1]) (.w [0,0,1,0,0,1]))) zr p m] at go ⊢
      exact go
    · have p:=of_decide_eq_false p
      rw [show mxV o c.told=o by exact ln [] [_,_,_] [.n (.Lt (.v 0) (.v 1)),.a (.Le (.v 0) (.v 2)) (.a (.Le (.v 1) (.v 2)) (.o (.Eq (.v 2) (.v 0)) (.Eq (.v 2) (.v 1))))] (.Eq (.v 2) (.v 0)) (.b (.b (.w [1,0,0,0,0,1]) (.w [1,0,0,0,0,1])) (.b (.w [0,0,1,0,0,1]) (.w [0,0,1,0,1,1]))) zr p m] at go
      exact go
end
theorem ls_ext {a a':LS} (h1:∀ b k,a.ch b k=a'.ch b k) (h2:∀ b,a.st b=a'.st b) (h3:∀ b k,a.rest b k=a'.rest b k) (h4:∀ b k,a.data b k=a'.data b k):a=a':=by
  obtain ⟨c1,s1,r1,d1⟩:=a
  obtain ⟨c2,s2,r2,d2⟩:=a'
  have e1:c1=c2:=funext fun b=>funext fun k=>h1 b k
  have e2:s1=s2:=funext h2
  have e3:r1=r2:=funext fun b=>funext fun k=>h3 b k
  have e4:d1=d2:=funext fun b=>funext fun k=>h4 b k
  rw [e1,e2,e3,e4]
theorem upCh_self {σ:LS} {b k:Bool} {c:Ch} (h:σ.ch b k=c):upCh σ b k c=σ:=ls_ext (fun b' k'=>by
  show (bif eqB b b' && eqB k k' then c else σ.ch b' k')=_
  rw [← h]
  cases b <;> cases k <;> cases b' <;> cases k' <;> rfl) (fun _=>rfl) (fun _ _=>rfl) fun _ _=>rfl
noncomputable def rdS (s:HSt) (k:Bool):Bool:=@Bool.rec (fun _=>Bool) true (@HSt.rec (fun _=>Bool) false true true true false true false s) k
section
variable {S:PS} {b k:Bool} {o e:Int}
noncomputable def tN (S:PS) (b k:Bool) (o e:Int) (k':Bool):Int:=bif eqB k k' then (arrW (S.ch b k) o e).1 else (S.ch b k').told
theorem frsh_no {b k:Bool} {s s':HSt} {c:PCh} (h:s'.has k=s.has k):frsh b k s s' c=c:=by
  unfold frsh
  rw [h]
  cases s.has k <;> rfl
theorem fin_eq (hh:∀ k',(arrS S b k o e).has k'=(S.st (!b)).has k'):setH (upCh (toLS S) b k (toCh b k (arrC (S.ch b k) o e))) (!b) (arrS S b k o e) ((arrS S b k o e).rest false (tN S b k o e false) (tN S b k o e true)) ((arrS S b k o e).rest true (tN S b k o e false) (tN S b k o e true))=toLS (arrP S b k o e):=by
  refine ls_ext (fun b' k'=>?_) (fun b'=>?_) (fun b' k'=>?_) fun b' k'=>?_
  · have e1:(arrP S b k o e).ch b' k'=bif eqB b b' then (bif eqB k k' then arrC (S.ch b k) o e else S.ch b' k') else S.ch b' k':=by
      show (bif eqB b b' then _ else frsh b' k' (S.st b') (arrS S b k o e) (S.ch b' k'))=_
      cases b <;> cases b' <;> first | rfl | exact frsh_no (hh k')
    show (bif eqB b b' && eqB k k' then toCh b k (arrC (S.ch b k) o e) else toCh b' k' (S.ch b' k'))=toCh b' k' ((arrP S b k o e).ch b' k')
    rw [e1]
    cases b <;> cases b' <;> cases k <;> cases k' <;> rfl
  · cases b <;> cases b' <;> rfl
  · show (bif eqB (!b) b' then _ else (S.st b').rest k' (S.ch (!b') false).told (S.ch (!b') true).told)=((arrP S b k o e).st b').rest k' ((arrP S b k o e).ch (!b') false).told ((arrP S b k o e).ch (!b') true).told
    have e2:∀ c:PCh,∀ x y s s',(frsh x y s s' c).told=c.told:=fun c x y s s'=>by unfold frsh; cases s'.has y && !s.has y <;> rfl
    cases b <;> cases b' <;> cases k <;> cases k' <;> first | rfl | (show _=HSt.rest _ _ (frsh _ _ _ _ _).told (frsh _ _ _ _ _).told; rw [e2,e2]; rfl)
  · show dat (S.st b') b' k'=dat ((arrP S b k o e).st b') b' k'
    cases b <;> cases b' <;> first | rfl | (unfold dat; rw [show (arrP S _ k o e).st _=arrS S _ k o e from rfl,hh k']; rfl)
end
section
variable {S:PS} {b k:Bool} {o e:Int} {sc:Scope} {loc:List (Str × Option SV)} {B:Box} {σ σF:LS} {l:List Dat} {K:KV} {j n:Nat} {K2:Sy→Prop}
noncomputable abbrev putG (n:Nat) (r:Bool) (outs:List Dat) (sc:Scope) (loc:List (Str × Option SV)) (j:Nat) (B:Box) (σ:LS) (l:List Dat) (K2:Sy→Prop):Prop:=(ops T1 (n + 36)).cl (.ref 462) [.obj (sdN r + 7),dsL outs] ⟨sc,loc,hpJ j B σ l⟩ fun _ σ2=>K2 σ2
theorem upD_self {D:List UInt8} (h:σ.data b k=D):upD σ b k D=σ:=ls_ext (fun _ _=>rfl) (fun _=>rfl) (fun _ _=>rfl) fun b' k'=>by
  show (bif eqB b b' && eqB k k' then D else σ.data b' k')=_
  rw [← h]
  cases b <;> cases k <;> cases b' <;> cases k' <;> rfl
theorem putR_of {n:Int} {k:List (Int × Int)→Prop} (hn:0 < n) (h:k [(0,n)]):putR n k:=⟨[],0,n,rfl,⟨hn,Nat.zero_le _,fun _ h=>(nomatch h),List.Pairwise.nil⟩,h⟩
theorem put_cF (hj:j=0 ∨ j=1 ∨ j=2) (hd:(σ.ch false true).due=[]) (hD:σ.data false true=[]) (h:K2 ⟨sc,loc,hpJ j B (upD (upCh σ false true { σ.ch false true with due:=[(0,12)] }) false true cfM) l⟩):putG n false outC sc loc j B σ l K2:=by
  have e1:upD (upCh σ false true ⟨[],(σ.ch false true).acked,(σ.ch false true).told,(σ.ch false true).wait,(σ.ch false true).came⟩) false true []=σ:=by
    rw [upCh_self (by rw [← hd]),upD_self hD]
  exact (congrArg (fun σ=>putG n false outC sc loc j B σ l K2) e1).mp ((put_c (n:=n + 16) hj).mpr (putR_of (by decide) h))
theorem put_sF (hj:j=0 ∨ j=1 ∨ j=2) (hd:∀ k,(σ.ch true k).due=[]) (hD:∀ k,σ.data true k=[]) (h:K2 ⟨sc,loc,hpJ j B (upD (upD (upCh (upCh σ true false { σ.ch true false with due:=[(0,14)] }) true true { σ.ch true true with due:=[(0,26)] }) true false shM) true true hsM) l⟩):putG n true outS sc loc j B σ l K2:=by
  have e1:upD (upD (upCh (upCh σ true false ⟨[],(σ.ch true false).acked,(σ.ch true false).told,(σ.ch true false).wait,(σ.ch true false).came⟩) true true ⟨[],(σ.ch true true).acked,(σ.ch true true).told,(σ.ch true true).wait,(σ.ch true true).came⟩) true false []) true true []=σ:=by
    rw [upCh_self (σ:=σ) (b:=true) (k:=false) (by rw [← hd false]),upCh_self (by rw [← hd true]),upD_self (hD false),upD_self (hD true)]
  exact (congrArg (fun σ=>putG n true outS sc loc j B σ l K2) e1).mp ((put_s (n:=n + 16) hj).mpr (putR_of (by decide) (putR_of (by decide) h)))
noncomputable abbrev σ1 (S:PS) (b k:Bool) (o e:Int):LS:=upCh (toLS S) b k (toCh b k (arrC (S.ch b k) o e))
theorem fin_c (hs:arrS S true true o e=.c3) (hh:S.c.has true=false) (hh2:S.c.has false=true) :
    upD (upCh (setH (σ1 S true true o e) false .c3 [] []) false true { (setH (σ1 S true true o e) false .c3 [] []).ch false true with due:=[(0,12)] }) false true cfM=toLS (arrP S true true o e):=by
  have e1:(arrP S true true o e).c=.c3:=hs
  have e2:∀ k',(arrP S true true o e).ch false k'=frsh false k' S.c .c3 (S.ch false k'):=fun k'=>by show frsh false k' S.c (arrS S true true o e) _=_; rw [hs]
  refine ls_ext (fun b' k'=>?_) (fun b'=>?_) (fun b' k'=>?_) fun b' k'=>?_
  · cases b' with
    | true=>cases k' <;> rfl
    | false =>
      show _=toCh false k' ((arrP S true true o e).ch false k')
      rw [e2]
      cases k' with
      | false=>rw [frsh_no (by rw [hh2]; rfl)]; rfl
      | true=>unfold frsh; rw [hh]; rfl
  · cases b' with
    | true=>rfl
    | false=>exact e1.symm
  · cases b' with
    | true =>
      show S.s.rest k' (S.ch false false).told (S.ch false true).told=S.s.rest k' ((arrP S true true o e).ch false false).told ((arrP S true true o e).ch false true).told
      rw [e2,e2]
      unfold frsh
      rw [hh,hh2]
      rfl
    | false =>
      show _=(arrP S true true o e).c.rest k' _ _
      rw [e1]; cases k' <;> rfl
  · cases b' with
    | true=>rfl
    | false =>
      show _=dat (arrP S true true o e).c false k'
      rw [e1]
      cases k' with
      | true=>rfl
      | false=>show dat S.c false false=_; unfold dat; rw [hh2]; rfl
theorem fin_s (hs:arrS S false false o e=.s1) (hh:∀ k',S.s.has k'=false) (h0:(S.ch false true).told=0) :
    upD (upD (upCh (upCh (setH (σ1 S false false o e) true .s1 [] []) true false { (setH (σ1 S false false o e) true .s1 [] []).ch true false with due:=[(0,14)] }) true true { (setH (σ1 S false false o e) true .s1 [] []).ch true true with due:=[(0,26)] }) true false shM) true true hsM=toLS (arrP S false false o e):=by
  have e1:(arrP S false false o e).s=.s1:=hs
  have e2:∀ k',(arrP S false false o e).ch true k'={ S.ch true k' with due:=[(0,NN true k')] }:=fun k'=>by
    show frsh true k' S.s (arrS S false false o e) _=_
    rw [hs]; unfold frsh; rw [hh]; cases k' <;> rfl
  refine ls_ext (fun b' k'=>?_) (fun b'=>?_) (fun b' k'=>?_) fun b' k'=>?_
  · cases b' with
    | false=>cases k' <;> rfl
    | true =>
      show _=toCh true k' ((arrP S false false o e).ch true k')
      rw [e2]
      cases k' <;> rfl
  · cases b' with
    | false=>rfl
    | true=>exact e1.symm
  · cases b' with
    | false =>
      show S.c.rest k' (S.ch true false).told (S.ch true true).told=S.c.rest k' ((arrP S false false o e).ch true false).told ((arrP S false false o e).ch true true).told
      rw [e2,e2]
    | true =>
      show _=(arrP S false false o e).s.rest k' _ _
      rw [e1]
      cases k' with
      | false=>rfl
      | true=>show []=sl cfM 0 (S.ch false true).told; rw [h0]; rfl
  · cases b' with
    | false=>rfl
    | true =>
      show _=dat (arrP S false false o e).s true k'
      rw [e1]
      cases k' <;> rfl
end
section
variable {S:PS} {b k:Bool} {o e:Int} {sc:Scope} {loc:List (Str × Option SV)} {B:Box} {σ σF:LS} {l:List Dat} {K:KV} {j n:Nat} {K2:Sy→Prop}
theorem nx_same {s:HSt} {tI tH:Int} (h:stOk s tI tH):nxS s false tI=s ∧ nxS s true tH=s:=by
  cases s with
  | c0=>exact ⟨bT h.1,rfl⟩
  | c1=>exact ⟨rfl,bT h.2⟩
  | c2=>exact ⟨rfl,bT h.2.2⟩
  | c3=>exact ⟨rfl,rfl⟩
  | s0=>exact ⟨bT h.1,rfl⟩
  | s1=>exact ⟨rfl,bT h.2⟩
  | s2=>exact ⟨rfl,rfl⟩
theorem same_eq (hOk:Ok S) (h:(arrW (S.ch b k) o e).1=(S.ch b k).told):σ1 S b k o e=toLS (arrP S b k o e):=by
  have hs:arrS S b k o e=S.st (!b):=by
    have:=nx_same (hOk.st (!b))
    unfold arrS
    rw [h]
    cases b <;> cases k <;> first | exact this.1 | exact this.2
  have ht:∀ k',tN S b k o e k'=(S.ch b k').told:=fun k'=>by
    unfold tN
    rw [h]
    cases k <;> cases k' <;> rfl
  have f:=fin_eq (S:=S) (b:=b) (k:=k) (o:=o) (e:=e) (fun k'=>by rw [hs])
  rw [hs,ht,ht] at f
  rw [← f]
  refine Eq.trans (setH_self (σ:=σ1 S b k o e) (r:=!b)).symm ?_
  cases b <;> rfl
theorem put_n (hj:j=0 ∨ j=1 ∨ j=2) {s:HSt} (hs:arrS S b k o e=s) (hh:∀ k',s.has k'=(S.st (!b)).has k') (h:K2 ⟨sc,loc,hpJ j B (toLS (arrP S b k o e)) l⟩) :
    putG n (!b) (outsP (S.st (!b)) s) sc loc j B (setH (σ1 S b k o e) (!b) s (s.rest false (tN S b k o e false) (tN S b k o e true)) (s.rest true (tN S b k o e false) (tN S b k o e true))) l K2:=by
  have e1:outsP (S.st (!b)) s=[]:=by unfold outsP; rw [hh]; cases (S.st (!b)).has true <;> rfl
  rw [e1]
  refine (put_0 (n:=n + 16) hj).mpr ?_
  subst hs
  rw [fin_eq hh]
  exact h
end
section
variable {S:PS} {b k:Bool} {o e:Int} {sc:Scope} {loc:List (Str × Option SV)} {B:Box} {l:List Dat} {K:KV} {j n:Nat} {K2:Sy→Prop}
noncomputable abbrev K3 (n:Nat) (r:Bool) (K2:Sy→Prop):KV:=fun v σ1=>(ops T1 (n + 36)).cl (.ref 462) [.obj (sdN r + 7),v] σ1 fun _ σ2=>K2 σ2
noncomputable abbrev moreG (n:Nat) (S:PS) (b k:Bool) (o e:Int) (sc:Scope) (loc:List (Str × Option SV)) (j:Nat) (B:Box) (l:List Dat) (K2:Sy→Prop):Prop:=
  takeG (n + 5) (!b) k (sl (full b k) (S.ch b k).told (arrW (S.ch b k) o e).1) sc loc j B (σ1 S b k o e) l (K3 n (!b) K2)
theorem more_c0 (hj:j=0 ∨ j=1 ∨ j=2) (hc:S.c=.c0) (h0:(S.ch true true).told=0) (ht:0 ≤ (S.ch true false).told) (hlt:(S.ch true false).told < (arrW (S.ch true false) o e).1) (h2:(arrW (S.ch true false) o e).1 ≤ 14) (h:K2 ⟨sc,loc,hpJ j B (toLS (arrP S true false o e)) l⟩):moreG n S true false o e sc loc j B l K2:=by
  obtain ⟨ch,c,s,fly⟩:=S
  cases (hc:c=.c0)
  have e0:setH (σ1 ⟨ch,.c0,s,fly⟩ true false o e) false .c0 (sl shM 0 (ch true false).told) []=σ1 ⟨ch,.c0,s,fly⟩ true false o e:=setH_self
  have p:=put_n (n:=n) (S:=⟨ch,.c0,s,fly⟩) (b:=true) (k:=false) (o:=o) (e:=e) hj rfl (fun k'=>by show (bif decide ((arrW (ch true false) o e).1 < 14) then HSt.c0 else HSt.c1).has k'=_; cases decide ((arrW (ch true false) o e).1 < 14) <;> rfl) h
  rw [show tN ⟨ch,.c0,s,fly⟩ true false o e true=0 from h0] at p
  exact (congrArg (fun σ=>takeG (n + 5) false false (sl shM (ch true false).told (arrW (ch true false) o e).1) sc loc j B σ l (K3 n false K2)) e0).mp (take_c0 hj ht hlt h2 p)
theorem more_s0 (hj:j=0 ∨ j=1 ∨ j=2) (hc:S.s=.s0) (h0:(S.ch false true).told=0) (hd:∀ k,(S.ch true k).due=[]) (ht:0 ≤ (S.ch false false).told) (hlt:(S.ch false false).told < (arrW (S.ch false false) o e).1) (h2:(arrW (S.ch false false) o e).1 ≤ 37) (h:K2 ⟨sc,loc,hpJ j B (toLS (arrP S false false o e)) l⟩):moreG n S false false o e sc loc j B l K2:=by
  obtain ⟨ch,c,s,fly⟩:=S
  cases (hc:s=.s0)
  have e0:setH (σ1 ⟨ch,c,.s0,fly⟩ false false o e) true .s0 (sl chM 0 (ch false false).told) []=σ1 ⟨ch,c,.s0,fly⟩ false false o e:=setH_self
  refine (congrArg (fun σ=>takeG (n + 5) true false (sl chM (ch false false).told (arrW (ch false false) o e).1) sc loc j B σ l (K3 n true K2)) e0).mp (take_s0 hj ht hlt h2 ?_)
  by_cases d:(arrW (ch false false) o e).1 < 37
  · have es:nxS .s0 false (arrW (ch false false) o e).1=.s0:=bT d
    have p:=put_n (n:=n) (S:=⟨ch,c,.s0,fly⟩) (b:=false) (k:=false) (o:=o) (e:=e) hj es (fun k'=>rfl) h
    rw [show tN ⟨ch,c,.s0,fly⟩ false false o e true=0 from h0] at p
    rw [es]
    exact p
  · have es:nxS .s0 false (arrW (ch false false) o e).1=.s1:=bF d
    rw [es]
    have hf:=fin_s (S:=⟨ch,c,.s0,fly⟩) (o:=o) (e:=e) es (fun k'=>by cases k' <;> rfl) h0
    exact put_sF (σ:=setH (σ1 ⟨ch,c,.s0,fly⟩ false false o e) true .s1 [] []) hj hd (fun k'=>by cases k' <;> rfl) (by rw [hf]; exact h)
theorem more_s1 (hj:j=0 ∨ j=1 ∨ j=2) (hc:S.s=.s1) (h0:(S.ch false false).told=37) (ht:0 ≤ (S.ch false true).told) (hlt:(S.ch false true).told < (arrW (S.ch false true) o e).1) (h2:(arrW (S.ch false true) o e).1 ≤ 12) (h:K2 ⟨sc,loc,hpJ j B (toLS (arrP S false true o e)) l⟩):moreG n S false true o e sc loc j B l K2:=by
  obtain ⟨ch,c,s,fly⟩:=S
  cases (hc:s=.s1)
  have e0:setH (σ1 ⟨ch,c,.s1,fly⟩ false true o e) true .s1 [] (sl cfM 0 (ch false true).told)=σ1 ⟨ch,c,.s1,fly⟩ false true o e:=setH_self
  have p:=put_n (n:=n) (S:=⟨ch,c,.s1,fly⟩) (b:=false) (k:=true) (o:=o) (e:=e) hj rfl (fun k'=>by show (bif decide ((arrW (ch false true) o e).1 < 12) then HSt.s1 else HSt.s2).has k'=_; cases decide ((arrW (ch false true) o e).1 < 12) <;> rfl) h
  rw [show tN ⟨ch,c,.s1,fly⟩ false true o e false=37 from h0] at p
  exact (congrArg (fun σ=>takeG (n + 5) true true (sl cfM (ch false true).told (arrW (ch false true) o e).1) sc loc j B σ l (K3 n true K2)) e0).mp (take_s1 hj ht hlt h2 p)
theorem more_c3 (hj:j=0 ∨ j=1 ∨ j=2) (hs:arrS S true true o e=.c3) (hh:S.c.has true=false) (hh2:S.c.has false=true) (hd:(S.ch false true).due=[]) (hD:dat S.c false true=[]) (h:K2 ⟨sc,loc,hpJ j B (toLS (arrP S true true o e)) l⟩):putG n false outC sc loc j B (setH (σ1 S true true o e) false .c3 [] []) l K2:=
  put_cF hj hd hD (by rw [fin_c hs hh hh2]; exact h)
theorem more_c2 (hj:j=0 ∨ j=1 ∨ j=2) (hc:S.c=.c2) (h0:(S.ch true false).told=14) (hd:(S.ch false true).due=[]) (ht:14 ≤ (S.ch true true).told) (hlt:(S.ch true true).told < (arrW (S.ch true true) o e).1) (h2:(arrW (S.ch true true) o e).1 ≤ 26) (h:K2 ⟨sc,loc,hpJ j B (toLS (arrP S true true o e)) l⟩):moreG n S true true o e sc loc j B l K2:=by
  obtain ⟨ch,c,s,fly⟩:=S
  cases (hc:c=.c2)
  have e0:setH (σ1 ⟨ch,.c2,s,fly⟩ true true o e) false .c2 [] (sl sfM 0 ((ch true true).told - 14))=σ1 ⟨ch,.c2,s,fly⟩ true true o e:=setH_self
  refine (congrArg (fun σ=>takeG (n + 5) false true (sl hsM (ch true true).told (arrW (ch true true) o e).1) sc loc j B σ l (K3 n false K2)) e0).mp (take_c2 hj ht hlt h2 ?_)
  by_cases d:(arrW (ch true true) o e).1 < 26
  · have es:nxS .c2 true (arrW (ch true true) o e).1=.c2:=bT d
    have p:=put_n (n:=n) (S:=⟨ch,.c2,s,fly⟩) (b:=true) (k:=true) (o:=o) (e:=e) hj es (fun k'=>rfl) h
    rw [show tN ⟨ch,.c2,s,fly⟩ true true o e false=14 from h0] at p
    rw [es]
    exact p
  · have es:nxS .c2 true (arrW (ch true true) o e).1=.c3:=bF d
    rw [es]
    exact more_c3 hj es rfl rfl hd rfl h
theorem more_c1 (hj:j=0 ∨ j=1 ∨ j=2) (hc:S.c=.c1) (h0:(S.ch true false).told=14) (hd:(S.ch false true).due=[]) (ht:0 ≤ (S.ch true true).told) (hlt:(S.ch true true).told < (arrW (S.ch true true) o e).1) (h2:(arrW (S.ch true true) o e).1 ≤ 26) (h:K2 ⟨sc,loc,hpJ j B (toLS (arrP S true true o e)) l⟩):moreG n S true true o e sc loc j B l K2:=by
  obtain ⟨ch,c,s,fly⟩:=S
  cases (hc:c=.c1)
  have e0:setH (σ1 ⟨ch,.c1,s,fly⟩ true true o e) false .c1 [] (sl hsM 0 (ch true true).told)=σ1 ⟨ch,.c1,s,fly⟩ true true o e:=setH_self
  refine (congrArg (fun σ=>takeG (n + 5) false true (sl hsM (ch true true).told (arrW (ch true true) o e).1) sc loc j B σ l (K3 n false K2)) e0).mp (take_c1 hj ht hlt h2 ?_)
  have pn:∀ {s':HSt},nxS .c1 true (arrW (ch true true) o e).1=s'→(∀ k',s'.has k'=HSt.c1.has k')→K3 n false K2 (dsL (outsP .c1 s')) (stN sc loc j B (σ1 ⟨ch,.c1,s,fly⟩ true true o e) false s' 14 (arrW (ch true true) o e).1 l):=fun {s'} es hh=>by
    have p:=put_n (n:=n) (S:=⟨ch,.c1,s,fly⟩) (b:=true) (k:=true) (o:=o) (e:=e) hj es hh h
    rw [show tN ⟨ch,.c1,s,fly⟩ true true o e false=14 from h0] at p
    exact p
  by_cases d:(arrW (ch true true) o e).1 < 14
  · have es:nxS .c1 true (arrW (ch true true) o e).1=.c1:=bT d
    rw [es]
    exact pn es fun k'=>rfl
  · by_cases d2:(arrW (ch true true) o e).1 < 26
    · have es:nxS .c1 true (arrW (ch true true) o e).1=.c2:=(bF d).trans (bT d2)
      rw [es]
      exact pn es fun k'=>rfl
    · have es:nxS .c1 true (arrW (ch true true) o e).1=.c3:=(bF d).trans (bF d2)
      rw [es]
      exact more_c3 hj es rfl rfl hd rfl h
end
section
variable {S:PS} {b k:Bool} {o e:Int} {sc:Scope} {loc:List (Str × Option SV)} {B:Box} {l:List Dat} {K:KV} {j n:Nat} {K2:Sy→Prop}
theorem SpOk.zero {xs:List (Int × Int)} (h:SpOk 0 xs):xs=[]:=by
  cases xs with
  | nil=>rfl
  | cons p r=>have:=h.hd.1; exact (ln [] [_,_] [.a (.Le (.k 0) (.v 0)) (.a (.Lt (.v 0) (.v 1)) (.Le (.v 1) (.k 0)))] (.f) (.w [1,1,1]) zr this).elim
theorem due0 (hOk:Ok S) (h:(S.st b).has k=false):(S.ch b k).due=[]:=by
  have:=(hOk.ch b k).due
  unfold nP at this
  rw [h] at this
  exact this.zero
theorem nP_at (hOk:Ok S) (h:0 < nP S b k):nP S b k=NN b k:=by
  unfold nP at h ⊢
  cases hh:(S.st b).has k with
  | true=>rfl
  | false=>rw [hh] at h; exact absurd h (Int.lt_irrefl 0)
theorem nd_sub {α:Type} {l:List α}:∀ {l':List α},l.Nodup→(∀ x ∈ l,x ∈ l')→l.length ≤ l'.length:=by
  induction l with
  | nil=>intro l' _ _; exact Nat.zero_le _
  | cons a r ih =>
    intro l' hn hs
    obtain ⟨h1,h2⟩:=List.nodup_cons.mp hn
    obtain ⟨p,q,rfl⟩:=List.append_of_mem (hs a (List.mem_cons_self ..))
    have:=@ih (p ++ q) h2 fun x hx=>by
      have:=hs x (List.mem_cons_of_mem _ hx)
      rcases List.mem_append.mp this with h | h
      · exact List.mem_append_left _ h
      · rcases List.mem_cons.mp h with e | h
        · exact absurd (e ▸ hx) h1
        · exact List.mem_append_right _ h
    simp only [List.length_append,List.length_cons] at this ⊢
    exact ln [_,_,_] [] [.le (.v 0) (.a (.v 1) (.v 2))] (.le (.a (.v 0) (.k 1)) (.a (.v 1) (.a (.v 2) (.k 1)))) (.w [1,1]) zr this
theorem cs_in {n:Int} {c:PCh} (h:ChOk n c) {i:Int} (hi:i ∈ c.cs):0 ≤ i ∧ i < n:=by
  have ht:=h.told
  rcases (h.cs i).mp hi with h1 | ⟨p,hp,h1⟩
  · exact ln [] [_,_,_] [.a (.Le (.k 0) (.v 0)) (.Le (.v 0) (.v 1)),.a (.Le (.k 0) (.v 2)) (.Lt (.v 2) (.v 0))] (.a (.Le (.k 0) (.v 2)) (.Lt (.v 2) (.v 1))) (.b (.w [1,0,0,0,1]) (.w [0,1,0,1,1])) zr ht h1
  · have:=h.ws.each p hp; exact ln [] [_,_,_,_] [.a (.Le (.v 0) (.v 1)) (.Lt (.v 1) (.v 2)),.a (.Le (.k 0) (.v 0)) (.a (.Lt (.v 0) (.v 2)) (.Le (.v 2) (.v 3)))] (.a (.Le (.k 0) (.v 1)) (.Lt (.v 1) (.v 3))) (.b (.w [1,0,0,1,0,1]) (.w [0,0,1,0,1,1])) zr h1 this
theorem cs_len {n:Int} {c:PCh} (h:ChOk n c):(c.cs.length:Int) ≤ n ∧ ((c.cs.length:Int) < n ↔ c.told < n):=by
  have ht:=h.told
  have hr:∀ {m:Int},m ∈ (List.range n.toNat).map Int.ofNat ↔ 0 ≤ m ∧ m < n:=fun {m}=>by
    rw [List.mem_map]
    exact ⟨fun ⟨a,ha,e⟩=>by have h9:=List.mem_range.mp ha; have h8:(a:Int)=m:=e; exact ln [_] [_,_] [.Eq (.c (.v 0)) (.v 0),.lt (.v 0) (.t (.v 1))] (.a (.Le (.k 0) (.v 0)) (.Lt (.v 0) (.v 1))) (.b (.w [1,0,1]) (.b (.w [1,0,0,1,1]) (.w [1]))) zr h8 h9,fun h=>⟨m.toNat,List.mem_range.mpr (by exact ln [] [_,_] [.a (.Le (.k 0) (.v 0)) (.Lt (.v 0) (.v 1))] (.lt (.t (.v 0)) (.t (.v 1))) (.b (.w [0,1,1]) (.b (.w [1,1,0,0,1]) (.b (.w [1,1,1]) (.w [1,1,0,0,1])))) zr h),by show ((m.toNat:Nat):Int)=m; exact ln [] [_,_] [.a (.Le (.k 0) (.v 0)) (.Lt (.v 0) (.v 1))] (.Eq (.c (.t (.v 0))) (.v 0)) (.b (.w [0,0,1]) (.b (.w [0,0,1]) (.b (.w [0,0,1,1]) (.w [1,0,1])))) zr h⟩⟩
  have hl:((List.range n.toNat).map Int.ofNat).length=n.toNat:=by rw [List.length_map,List.length_range]
  have h1:=nd_sub h.nd fun x hx=>hr.mpr (cs_in h hx)
  rw [hl] at h1
  refine ⟨by exact ln [_] [_,_] [.a (.Le (.k 0) (.v 0)) (.Le (.v 0) (.v 1)),.le (.v 0) (.t (.v 1))] (.Le (.c (.v 0)) (.v 1)) (.b (.w [1,0,0,0,1]) (.w [1,0,1,1,1])) zr ht h1,fun h2=>Int.not_le.mp fun h3=>?_,fun h2=>?_⟩
  · have:((List.range n.toNat).map Int.ofNat).Nodup:=List.pairwise_map.mpr (List.nodup_range.imp fun {a b} h e=>h (Int.ofNat.inj e))
    have:=nd_sub this fun x hx=>(h.cs x).mpr (.inl (by have:=hr.mp hx; exact ln [] [_,_,_] [.Le (.v 0) (.v 1),.a (.Le (.k 0) (.v 2)) (.Lt (.v 2) (.v 0))] (.a (.Le (.k 0) (.v 2)) (.Lt (.v 2) (.v 1))) (.b (.w [1,0,0,1]) (.w [0,1,1,1])) zr h3 this))
    rw [hl] at this
    exact ln [_] [_] [.Lt (.c (.v 0)) (.v 0),.le (.t (.v 0)) (.v 0)] (.f) (.b (.w [1,0,1]) (.w [1,1,1])) zr h2 this
  · have hn:c.told ∉ c.cs:=fun hi=>by
      rcases (h.cs _).mp hi with h1 | ⟨p,hp,h1⟩
      · exact ln [] [_] [.a (.Le (.k 0) (.v 0)) (.Lt (.v 0) (.v 0))] (.f) (.w [0,1]) zr h1
      · have:=h.wt p hp; exact ln [] [_,_,_] [.a (.Le (.v 0) (.v 1)) (.Lt (.v 1) (.v 2)),.Lt (.v 1) (.v 0)] (.f) (.w [1,1]) zr h1 this
    have:=nd_sub (List.nodup_cons.mpr ⟨hn,h.nd⟩) fun x hx=>hr.mpr ((List.mem_cons.mp hx).elim (fun e=>e ▸ ⟨ht.1,h2⟩) fun hx=>cs_in h hx)
    rw [hl,List.length_cons] at this
    exact ln [_] [_] [.le (.a (.v 0) (.k 1)) (.t (.v 0))] (.Lt (.c (.v 0)) (.v 0)) (.b (.w [1,0,1]) (.w [1])) zr this
theorem arrive_go (hj:j=0 ∨ j=1 ∨ j=2) (hOk:Ok S) (h0:0 ≤ o) (h1:o < e) (h2:e ≤ nP S b k) (hr:rdS (S.st (!b)) k=true) (h:K (.d .none) ⟨sc,loc,hpJ j B (toLS (arrP S b k o e)) l⟩) :
    (ops T1 (n + 40)).cl (.ref 467) [.obj (sdN (!b) + 7),.d (spc k),.d (.int o),.d (byt (sl (full b k) o e))] ⟨sc,loc,hpJ j B (toLS S) l⟩ K:=by
  have hN:=nP_at hOk (b:=b) (k:=k) (by exact ln [] [_,_,_] [.Le (.k 0) (.v 0),.Lt (.v 0) (.v 1),.Le (.v 1) (.v 2)] (.Lt (.k 0) (.v 2)) (.w [1,1,1,1]) zr h0 h1 h2)
  have hc:=hOk.ch b k
  have hst:=hOk.st (!b)
  have hro:=hOk.role
  have hcl:=(cs_len hc).1
  have hNN:NN b k ≤ 37:=by cases b <;> cases k <;> decide
  have w:=(arrW_ok hc h0 h1 h2).1.told
  rw [hN] at w
  have ht:=hc.told.1
  refine (congrArg (fun σ=>(ops T1 (n + 40)).cl (.ref 467) [.obj (sdN (!b) + 7),.d (spc k),.d (.int o),.d (byt (sl (full b k) o e))] ⟨sc,loc,hpJ j B σ l⟩ K) (upCh_self (σ:=toLS S) (b:=b) (k:=k) rfl)).mp (arrive_core hj hc hN (by exact ln [_] [_,_] [.Eq (.v 0) (.v 1),.Le (.c (.v 0)) (.v 0),.Le (.v 1) (.k 37)] (.le (.v 0) (.k 100)) (.w [1,1,1,0,1]) zr hN hcl hNN) h0 h1 h2 (same_eq hOk) (fun hlt sc' loc' K2 hK=>?_) h)
  have hd:=fun b k=>@due0 S b k hOk
  have no:∀ {a t m:Int},a=m→t ≤ m→¬ a < t:=fun e h=>by exact ln [] [_,_,_] [.Eq (.v 0) (.v 1),.Le (.v 2) (.v 1)] (.n (.Lt (.v 0) (.v 2))) (.w [1,0,1,1]) zr e h
  cases b with
  | true =>
    have hro:=hro.1
    cases k with
    | false =>
      rcases hro with e1 | e1 | e1 | e1 <;> rw [show S.st (!true)=_ from e1] at hst
      · exact more_c0 hj e1 hst.2 ht hlt w.2 hK
      all_goals exact absurd hlt (no (hst.1:(S.ch true false).told=14) w.2)
    | true =>
      rw [show S.st (!true)=S.c from rfl] at hr hst
      rcases hro with e1 | e1 | e1 | e1 <;> rw [e1] at hst hr
      · cases hr
      · exact more_c1 hj e1 hst.1 (hd false true (by show S.c.has true=false; rw [e1]; rfl)) ht hlt w.2 hK
      · exact more_c2 hj e1 hst.1 (hd false true (by show S.c.has true=false; rw [e1]; rfl)) hst.2.1 hlt w.2 hK
      · exact absurd hlt (no (hst.2:(S.ch true true).told=26) w.2)
  | false =>
    have hro:=hro.2
    cases k with
    | false =>
      rcases hro with e1 | e1 | e1 <;> rw [show S.st (!false)=_ from e1] at hst
      · exact more_s0 hj e1 hst.2 (fun k=>hd true k (by show S.s.has k=false; rw [e1]; cases k <;> rfl)) ht hlt w.2 hK
      all_goals exact absurd hlt (no (hst.1:(S.ch false false).told=37) w.2)
    | true =>
      rw [show S.st (!false)=S.s from rfl] at hr hst
      rcases hro with e1 | e1 | e1 <;> rw [e1] at hst hr
      · cases hr
      · exact more_s1 hj e1 hst.1 ht hlt w.2 hK
      · cases hr
end
section
variable {sc:Scope} {loc:List (Str × Option SV)} {sd w z:Int} {r:List Int} {σ:LS} {l:List Dat} {K:KV} {n:Nat}
theorem draw_nil:(ops T1 (n + 20)).cl (.ref 450) [.obj 1,.d (.int w)] ⟨sc,loc,hpJ 0 ⟨[],sd⟩ σ l⟩ K =
   req (Nat.ble sd.natAbs 9223372036854775807) (req (!Builtin.divisionGoesByPylong (Int.fmod (sd * 48271 + 11) 2147483647) 97) (req (decide (0 < w)) (K (.d (.int (Int.fmod (Int.fdiv (Int.fmod (sd * 48271 + 11) 2147483647) 97) w))) ⟨sc,loc,hpJ 0 ⟨[],Int.fmod (sd * 48271 + 11) 2147483647⟩ σ l⟩))):=by kernel_rfl
theorem draw_cons:(ops T1 (n + 20)).cl (.ref 450) [.obj 1,.d (.int w)] ⟨sc,loc,hpJ 0 ⟨z :: r,sd⟩ σ l⟩ K =
   req (Nat.ble ((r.map Dat.int).length + 1) 100000) (bite (decide ((((r.map Dat.int).length + 1:Nat):Int) > 0)) (req (Nat.ble ((r.map Dat.int).length + 1) 1000) (req (decide (0 < w)) (K (.d (.int (Int.fmod z w))) ⟨sc,loc,hpJ 0 ⟨r,sd⟩ σ l⟩)))
   ((ops T1 (n + 19)).ex ((bodyA 450).drop 1) ⟨scA 450,[(strS "box",some (.obj 1)),(strS "wide",some (.d (.int w)))],hpJ 0 ⟨z :: r,sd⟩ σ l⟩ (retK 62 ⟨sc,loc,hpJ 0 ⟨z :: r,sd⟩ σ l⟩ K))):=by kernel_rfl
end
section
variable {sc:Scope} {loc:List (Str × Option SV)} {B:Box} {σ:LS} {l:List Dat} {K:KV} {j n:Nat}
noncomputable def setS (σ:LS) (c s:HSt):LS:={ σ with st:=fun b=>@Bool.rec (fun _=>HSt) c s b }
noncomputable def waitP (σ:LS) (b:Bool) (A C:Prop):Prop:=
  req (Nat.ble (σ.ch (!b) false).came.length 100000) (req (Nat.ble (σ.data (!b) false).length 100000) (bite (decide (((σ.ch (!b) false).came.length:Int) < ((σ.data (!b) false).length:Int))) A
   (req (Nat.ble (σ.ch (!b) true).came.length 100000) (req (Nat.ble (σ.data (!b) true).length 100000) (bite (decide (((σ.ch (!b) true).came.length:Int) < ((σ.data (!b) true).length:Int))) A C)))))
noncomputable abbrev fairC (n:Nat) (sc:Scope) (loc:List (Str × Option SV)) (j:Nat) (B:Box) (σ:LS) (l:List Dat) (K:KV) (c s:HSt):Prop:=(ops T1 (n + 30)).cl (.ref 481) [.obj 9,.obj 38] ⟨sc,loc,hpJ j B (setS σ c s) l⟩ K
noncomputable abbrev fairK (sc:Scope) (loc:List (Str × Option SV)) (j:Nat) (B:Box) (σ:LS) (l:List Dat) (K:KV) (c s:HSt) (b:Bool):Prop:=K (.d (.bool b)) ⟨sc,loc,hpJ j B (setS σ c s) l⟩
theorem fair_00 (hj:j=0 ∨ j=1 ∨ j=2):fairC n sc loc j B σ l K .c0 .s0=fairK sc loc j B σ l K .c0 .s0 true:=by
  rcases hj with rfl | rfl | rfl <;> kernel_rfl
theorem fair_01 (hj:j=0 ∨ j=1 ∨ j=2):fairC n sc loc j B σ l K .c0 .s1=waitP σ false (fairK sc loc j B σ l K .c0 .s1 true) (fairK sc loc j B σ l K .c0 .s1 false):=by
  rcases hj with rfl | rfl | rfl <;> kernel_rfl
theorem fair_11 (hj:j=0 ∨ j=1 ∨ j=2):fairC n sc loc j B σ l K .c1 .s1=waitP σ false (fairK sc loc j B σ l K .c1 .s1 true) (fairK sc loc j B σ l K .c1 .s1 false):=by
  rcases hj with rfl | rfl | rfl <;> kernel_rfl
theorem fair_21 (hj:j=0 ∨ j=1 ∨ j=2):fairC n sc loc j B σ l K .c2 .s1=waitP σ false (fairK sc loc j B σ l K .c2 .s1 true) (fairK sc loc j B σ l K .c2 .s1 false):=by
  rcases hj with rfl | rfl | rfl <;> kernel_rfl
theorem fair_31 (hj:j=0 ∨ j=1 ∨ j=2):fairC n sc loc j B σ l K .c3 .s1=waitP σ false (fairK sc loc j B σ l K .c3 .s1 false) (waitP σ false (fairK sc loc j B σ l K .c3 .s1 false) (waitP σ true (fairK sc loc j B σ l K .c3 .s1 true) (fairK sc loc j B σ l K .c3 .s1 false))):=by
  rcases hj with rfl | rfl | rfl <;> kernel_rfl
theorem fair_32 (hj:j=0 ∨ j=1 ∨ j=2):fairC n sc loc j B σ l K .c3 .s2=waitP σ false (fairK sc loc j B σ l K .c3 .s2 false) (waitP σ true (fairK sc loc j B σ l K .c3 .s2 false) (waitP σ false (fairK sc loc j B σ l K .c3 .s2 false) (waitP σ true (fairK sc loc j B σ l K .c3 .s2 false) (fairK sc loc j B σ l K .c3 .s2 true)))):=by
  rcases hj with rfl | rfl | rfl <;> kernel_rfl
end
noncomputable def okB (B:Box):Prop:=(0 ≤ B.sd ∧ B.sd < 2147483647) ∧ B.ns.length ≤ 24
noncomputable def setC (S:PS) (b k:Bool) (c:PCh):PS:={ S with ch:=upd S.ch b k c }
section
variable {S:PS} {b k:Bool} {sc:Scope} {loc:List (Str × Option SV)} {B:Box} {σ:LS} {l:List Dat} {K:KV} {j n:Nat}
theorem draw_go {v:Int} (hw:0 < v) (hB:okB B) (h:∀ u B',(0 ≤ u ∧ u < v) ∧ okB B'→K (.d (.int u)) ⟨sc,loc,hpJ 0 B' σ l⟩):(ops T1 (n + 20)).cl (.ref 450) [.obj 1,.d (.int v)] ⟨sc,loc,hpJ 0 B σ l⟩ K:=by
  obtain ⟨ns,sd⟩:=B
  obtain ⟨⟨h1,h2⟩,h3⟩:=hB
  have h1:0 ≤ sd:=h1
  have h2:sd < 2147483647:=h2
  have fm:∀ x:Int,0 ≤ Int.fmod x v ∧ Int.fmod x v < v:=fun x=>⟨Int.fmod_nonneg_of_pos _ hw,Int.fmod_lt_of_pos _ hw⟩
  cases ns with
  | nil =>
    refine draw_nil.mpr (rqLe (abs_le h1 (Int.le_of_lt (Int.lt_trans h2 (by decide)))) (rq rfl (rq (decide_eq_true hw) (h _ ⟨[],_⟩ ⟨fm _,⟨Int.fmod_nonneg_of_pos _ (by decide),Int.fmod_lt_of_pos _ (by decide)⟩,h3⟩))))
  | cons z r =>
    have h3:r.length + 1 ≤ 24:=h3
    refine draw_cons.mpr (rqLe (by rw [List.length_map]; exact ln [_] [] [.le (.a (.v 0) (.k 1)) (.k 24)] (.le (.a (.v 0) (.k 1)) (.k 100000)) (.w [1,1]) zr h3) (bi (fun _=>rqLe (by rw [List.length_map]; exact ln [_] [] [.le (.a (.v 0) (.k 1)) (.k 24)] (.le (.a (.v 0) (.k 1)) (.k 1000)) (.w [1,1]) zr h3) (rq (decide_eq_true hw) (h _ ⟨r,sd⟩ ⟨fm _,⟨h1,h2⟩,Nat.le_of_succ_le h3⟩))) fun d=>absurd (of_decide_eq_false d) (by rw [List.length_map]; exact ln [_] [] [] (.n (.n (.Lt (.k 0) (.c (.a (.v 0) (.k 1)))))) (.w [1]) zr)))
theorem setC_eq {c:PCh} (ht:c.told=(S.ch b k).told):upCh (toLS S) b k (toCh b k c)=toLS (setC S b k c):=by
  have e:∀ b' k',((setC S b k c).ch b' k').told=(S.ch b' k').told:=fun b' k'=>by
    show (bif eqB b b' && eqB k k' then c else S.ch b' k').told=_
    cases b <;> cases k <;> cases b' <;> cases k' <;> first | rfl | exact ht
  refine ls_ext (fun b' k'=>?_) (fun b'=>rfl) (fun r k'=>?_) fun b' k'=>rfl
  · show (bif eqB b b' && eqB k k' then toCh b k c else toCh b' k' (S.ch b' k'))=toCh b' k' (bif eqB b b' && eqB k k' then c else S.ch b' k')
    cases b <;> cases k <;> cases b' <;> cases k' <;> rfl
  · show (S.st r).rest k' (S.ch (!r) false).told (S.ch (!r) true).told=(S.st r).rest k' ((setC S b k c).ch (!r) false).told ((setC S b k c).ch (!r) true).told
    rw [e,e]
theorem at_ch {F:LS→Prop} (h:F (upCh (toLS S) b k (toCh b k (S.ch b k)))):F (toLS S):=(congrArg F (upCh_self (σ:=toLS S) (b:=b) (k:=k) rfl)).mp h
theorem nP_le (hOk:Ok S):nP S b k ≤ 37 ∧ 0 ≤ nP S b k:=by unfold nP; cases (S.st b).has k <;> cases b <;> cases k <;> decide
theorem dat_full {s:HSt} (h:s.has k=true):dat s b k=full b k:=by unfold dat; rw [h]
theorem next_go (hj:j=0 ∨ j=1) (hOk:Ok S) {m:Int} (hm:0 < m) (h0:(S.ch b k).due=[]→K (.d .none) ⟨sc,loc,hpJ j B (toLS S) l⟩)
    (h1:∀ lo hi r,(S.ch b k).due=(lo,hi) :: r→K (.d (.tuple [.int lo,byt (sl (full b k) lo (mnV hi (lo + m)))])) ⟨sc,loc,hpJ j B (toLS (setC S b k { S.ch b k with due:=cutS lo (mnV hi (lo + m)) ((lo,hi) :: r) })) l⟩) :
    (ops T1 (n + 20)).cl (.ref 415) [.obj (outN b k),.d (.int m)] ⟨sc,loc,hpJ j B (toLS S) l⟩ K:=by
  have hc:=hOk.ch b k
  have hn:=nP_le (b:=b) (k:=k) hOk
  refine at_ch (b:=b) (k:=k) (F:=fun σ=>(ops T1 (n + 20)).cl (.ref 415) [.obj (outN b k),.d (.int m)] ⟨sc,loc,hpJ j B σ l⟩ K) ?_
  cases e:(S.ch b k).due with
  | nil =>
    have e2:upCh (toLS S) b k ⟨[],(S.ch b k).acked,(S.ch b k).told,(S.ch b k).ws.map (pcX (full b k)),(S.ch b k).cs.map .int⟩=toLS S:=upCh_self (by show toCh b k (S.ch b k)=_; unfold toCh; rw [e])
    unfold toCh
    rw [e]
    exact (next_nil hj).mpr (by rw [e2]; exact h0 e)
  | cons p r =>
    refine byC fun zC zk=>?_
    obtain ⟨lo,hi⟩:=p
    have h1:=h1 lo hi r e
    have hd:=hc.due
    rw [e] at hd
    obtain ⟨hp0,hg⟩:=hd.hd
    refine zk ?_
    have hp:0 ≤ lo ∧ lo < hi ∧ hi ≤ nP S b k:=hp0
    have hN:=nP_at (b:=b) (k:=k) hOk (by exact ln [] [_,_,_] [.a (.Le (.k 0) (.v 0)) (.a (.Lt (.v 0) (.v 1)) (.Le (.v 1) (.v 2)))] (.Lt (.k 0) (.v 2)) (.w [1,1,1,1]) zr hp0)
    have hh:(S.st b).has k=true:=by
      cases q:(S.st b).has k with
      | true=>rfl
      | false=>unfold nP at hp; rw [q] at hp; exact absurd hp.2.2 (by show ¬ hi ≤ 0; exact ln [] [_,_,_] [.a (.Le (.k 0) (.v 0)) (.a (.Lt (.v 0) (.v 1)) (.Le (.v 1) (.v 2)))] (.n (.Le (.v 1) (.k 0))) (.w [1,1,0,1]) zr hp0)
    have hl:=sp_len (a:=0) hd (fun p hp=>(hd.each p hp).1) (by exact ln [] [_] [.a (.Le (.v 0) (.k 37)) (.Le (.k 0) (.v 0))] (.Le (.k 0) (.a (.v 0) (.k 1))) (.w [0,1,1]) zr hn)
    rw [List.length_cons] at hl
    have m1:=mnV_spec hi (lo + m)
    have hf:=NN_eq b k
    unfold toCh
    rw [e]
    refine (next_cons hj).mpr (rqLe (by rw [List.length_map]; exact ln [_] [_] [.a (.Le (.v 0) (.k 37)) (.Le (.k 0) (.v 0)),.Le (.m 2 (.c (.a (.v 0) (.k 1)))) (.a (.s (.v 0) (.k 0)) (.k 1))] (.le (.a (.v 0) (.k 1)) (.k 100000)) (.w [1,1,0,2]) zr hn hl) ?_)
    rw [decide_eq_false (show ¬ m ≤ 0 by exact ln [] [_] [.Lt (.k 0) (.v 0)] (.n (.Le (.v 0) (.k 0))) (.w [1,1]) zr hm)]
    refine ⟨(lo,hi) :: r,lo,mnV hi (lo + m),rfl,⟨by exact ln [] [_,_,_,_,_] [.Lt (.k 0) (.v 0),.a (.Le (.k 0) (.v 1)) (.a (.Lt (.v 1) (.v 2)) (.Le (.v 2) (.v 3))),.a (.Le (.v 4) (.v 2)) (.a (.Le (.v 4) (.a (.v 1) (.v 0))) (.o (.Eq (.v 4) (.v 2)) (.Eq (.v 4) (.a (.v 1) (.v 0)))))] (.Lt (.v 1) (.v 4)) (.b (.w [0,0,0,1,0,1,0,0,1]) (.w [0,0,0,1,0,0,0,1,1])) zr hm hp0 m1,by rw [List.length_cons]; exact ln [_] [_] [.a (.Le (.v 0) (.k 37)) (.Le (.k 0) (.v 0)),.Le (.m 2 (.c (.a (.v 0) (.k 1)))) (.a (.s (.v 0) (.k 0)) (.k 1))] (.le (.a (.v 0) (.k 1)) (.k 400)) (.w [1,1,0,2]) zr hn hl⟩,?_⟩
    have ed:(toLS S).data b k=full b k:=dat_full hh
    rw [ed]
    refine rqLe (by exact ln [_] [_,_] [.a (.Le (.v 0) (.k 37)) (.Le (.k 0) (.v 0)),.Eq (.v 0) (.v 1),.Eq (.c (.v 0)) (.v 1)] (.le (.v 0) (.k 1000)) (.w [1,0,0,1,1,0,1]) zr hn hN hf) ?_
    rw [cutL_at (by exact ln [] [_,_,_] [.a (.Le (.k 0) (.v 0)) (.a (.Lt (.v 0) (.v 1)) (.Le (.v 1) (.v 2)))] (.Le (.k 0) (.v 0)) (.w [1,0,0,1]) zr hp0) (by exact ln [] [_,_,_,_,_] [.Lt (.k 0) (.v 0),.a (.Le (.k 0) (.v 1)) (.a (.Lt (.v 1) (.v 2)) (.Le (.v 2) (.v 3))),.a (.Le (.v 4) (.v 2)) (.a (.Le (.v 4) (.a (.v 1) (.v 0))) (.o (.Eq (.v 4) (.v 2)) (.Eq (.v 4) (.a (.v 1) (.v 0)))))] (.Le (.v 1) (.v 4)) (.b (.w [0,0,0,1,0,1,0,0,1]) (.w [0,0,0,1,0,0,0,1,1])) zr hm hp0 m1) (by exact ln [_] [_,_,_,_,_,_] [.a (.Le (.k 0) (.v 0)) (.a (.Lt (.v 0) (.v 1)) (.Le (.v 1) (.v 2))),.Eq (.v 2) (.v 3),.Eq (.c (.v 0)) (.v 3),.a (.Le (.v 4) (.v 1)) (.a (.Le (.v 4) (.a (.v 0) (.v 5))) (.o (.Eq (.v 4) (.v 1)) (.Eq (.v 4) (.a (.v 0) (.v 5)))))] (.Le (.v 4) (.c (.v 0))) (.b (.w [1,0,0,0,0,1,1,0,0,0,1,1]) (.w [1,0,0,0,0,1,1,0,0,0,1,1])) zr hp0 hN hf m1)]
    exact (congrArg (fun σ=>K (.d (.tuple [.int lo,byt (sl (full b k) lo (mnV hi (lo + m)))])) ⟨sc,loc,hpJ j B σ l⟩) (setC_eq (S:=S) (b:=b) (k:=k) (c:={ S.ch b k with due:=cutS lo (mnV hi (lo + m)) ((lo,hi) :: r) }) rfl)).mpr h1
end
section
variable {S:PS} {b k:Bool} {sc:Scope} {loc:List (Str × Option SV)} {B:Box} {σ:LS} {l:List Dat} {K:KV} {j n:Nat} {o e:Int}
theorem due_len (hOk:Ok S):(S.ch b k).due.length ≤ 100 ∧ (S.ch b k).acked.length ≤ 100:=by
  have hc:=hOk.ch b k
  have hn:=nP_le (b:=b) (k:=k) hOk
  have h1:=sp_len (a:=0) hc.due (fun p hp=>(hc.due.each p hp).1) (by exact ln [] [_] [.a (.Le (.v 0) (.k 37)) (.Le (.k 0) (.v 0))] (.Le (.k 0) (.a (.v 0) (.k 1))) (.w [0,1,1]) zr hn)
  have h2:=sp_len (a:=0) hc.ack (fun p hp=>(hc.ack.each p hp).1) (by exact ln [] [_] [.a (.Le (.v 0) (.k 37)) (.Le (.k 0) (.v 0))] (.Le (.k 0) (.a (.v 0) (.k 1))) (.w [0,1,1]) zr hn)
  exact ln [_,_] [_] [.a (.Le (.v 0) (.k 37)) (.Le (.k 0) (.v 0)),.Le (.m 2 (.c (.v 0))) (.a (.s (.v 0) (.k 0)) (.k 1)),.Le (.m 2 (.c (.v 1))) (.a (.s (.v 0) (.k 0)) (.k 1))] (.a (.le (.v 0) (.k 100)) (.le (.v 1) (.k 100))) (.b (.w [0,1,1,0,2]) (.w [1,0,1,0,2])) zr hn h1 h2
theorem lost_go (hOk:Ok S) (h1:o < e) (ha:∀ p ∈ (S.ch b k).acked,p.2 ≤ o ∨ e ≤ p.1) {z:Int} (hz:z=e - o) (h:K (.d .none) ⟨sc,loc,hpJ 0 B (toLS (setC S b k { S.ch b k with due:=addS (S.ch b k).due o e })) l⟩) :
    (ops T1 (n + 20)).cl (.ref 422) [.obj (outN b k),.d (.int o),.d (.int z)] ⟨sc,loc,hpJ 0 B (toLS S) l⟩ K:=by
  have hc:=hOk.ch b k
  have hl:=due_len (b:=b) (k:=k) hOk
  refine at_ch (b:=b) (k:=k) (F:=fun σ=>(ops T1 (n + 20)).cl (.ref 422) [.obj (outN b k),.d (.int o),.d (.int z)] ⟨sc,loc,hpJ 0 B σ l⟩ K) ?_
  refine lost_eq.mpr ⟨(S.ch b k).acked,o,e,by rw [show o + z=e by exact ln [] [_,_,_] [.Eq (.v 0) (.s (.v 1) (.v 2))] (.Eq (.a (.v 2) (.v 0)) (.v 1)) (.b (.w [0,1,1]) (.w [1,0,1])) zr hz],⟨h1,fun p hp=>⟨(hc.ack.each p hp).2.1,ha p hp⟩⟩,(S.ch b k).due,o,e,rfl,⟨h1,by exact ln [_,_] [] [.a (.le (.v 0) (.k 100)) (.le (.v 1) (.k 100))] (.le (.v 0) (.k 900)) (.w [1,0,1]) zr hl,hc.due.gap⟩,?_⟩
  exact (congrArg (fun σ=>K (.d .none) ⟨sc,loc,hpJ 0 B σ l⟩) (setC_eq (S:=S) (b:=b) (k:=k) (c:={ S.ch b k with due:=addS (S.ch b k).due o e }) rfl)).mpr h
theorem ack_go (hOk:Ok S) (h1:o < e) {z:Int} (hz:z=e - o) (h:K (.d .none) ⟨sc,loc,hpJ 0 B (toLS (setC S b k { S.ch b k with due:=cutS o e (S.ch b k).due,acked:=addS (S.ch b k).acked o e })) l⟩) :
    (ops T1 (n + 20)).cl (.ref 429) [.obj (outN b k),.d (.int o),.d (.int z)] ⟨sc,loc,hpJ 0 B (toLS S) l⟩ K:=by
  have hc:=hOk.ch b k
  have hl:=due_len (b:=b) (k:=k) hOk
  refine at_ch (b:=b) (k:=k) (F:=fun σ=>(ops T1 (n + 20)).cl (.ref 429) [.obj (outN b k),.d (.int o),.d (.int z)] ⟨sc,loc,hpJ 0 B σ l⟩ K) ?_
  have ez:o + z=e:=by exact ln [] [_,_,_] [.Eq (.v 0) (.s (.v 1) (.v 2))] (.Eq (.a (.v 2) (.v 0)) (.v 1)) (.b (.w [0,1,1]) (.w [1,0,1])) zr hz
  refine ack_eq.mpr ⟨(S.ch b k).acked,o,e,by rw [ez],⟨h1,by exact ln [_,_] [] [.a (.le (.v 0) (.k 100)) (.le (.v 1) (.k 100))] (.le (.v 1) (.k 900)) (.w [0,1,1]) zr hl,hc.ack.gap⟩,(S.ch b k).due,o,e,by rw [ez],⟨h1,by exact ln [_,_] [] [.a (.le (.v 0) (.k 100)) (.le (.v 1) (.k 100))] (.le (.v 0) (.k 400)) (.w [1,0,1]) zr hl⟩,?_⟩
  exact (congrArg (fun σ=>K (.d .none) ⟨sc,loc,hpJ 0 B σ l⟩) (setC_eq (S:=S) (b:=b) (k:=k) (c:={ S.ch b k with due:=cutS o e (S.ch b k).due,acked:=addS (S.ch b k).acked o e }) rfl)).mpr h
theorem read_eq {s:HSt} (hj:j=0 ∨ j=1 ∨ j=2):(ops T1 (n + 20)).cl (.ref 296) [.obj (sdN b + 2),.d (spc k)] ⟨sc,loc,hpJ j B (setH σ b s (σ.rest b false) (σ.rest b true)) l⟩ K=K (.d (.bool (rdS s k))) ⟨sc,loc,hpJ j B (setH σ b s (σ.rest b false) (σ.rest b true)) l⟩:=by
  rcases hj with rfl | rfl | rfl <;> cases s <;> cases b <;> cases k <;> kernel_rfl
theorem read_go (hj:j=0 ∨ j=1 ∨ j=2) (h:K (.d (.bool (rdS (S.st b) k))) ⟨sc,loc,hpJ j B (toLS S) l⟩):(ops T1 (n + 20)).cl (.ref 296) [.obj (sdN b + 2),.d (spc k)] ⟨sc,loc,hpJ j B (toLS S) l⟩ K:=by
  have e:=setH_self (σ:=toLS S) (r:=b)
  have h:=(congrArg (fun σ=>K (.d (.bool (rdS (S.st b) k))) ⟨sc,loc,hpJ j B σ l⟩) e).mpr h
  exact (congrArg (fun σ=>(ops T1 (n + 20)).cl (.ref 296) [.obj (sdN b + 2),.d (spc k)] ⟨sc,loc,hpJ j B σ l⟩ K) e).mp ((read_eq hj).mpr h)
theorem dat_len (S:PS):(((toLS S).data b k).length:Int)=nP S b k:=by
  show ((dat (S.st b) b k).length:Int)=nP S b k
  unfold dat nP
  cases (S.st b).has k with
  | true=>exact NN_eq b k
  | false=>rfl
theorem waitP_go (hOk:Ok S) {A C:Prop} (h1:∀ k,(S.ch (!b) k).told < nP S (!b) k→A) (h2:(∀ k,(S.ch (!b) k).told=nP S (!b) k)→C):waitP (toLS S) b A C:=by
  have lc:∀ k,((toLS S).ch (!b) k).came.length=(S.ch (!b) k).cs.length:=fun k=>List.length_map ..
  have c0:=cs_len (hOk.ch (!b) false)
  have c1:=cs_len (hOk.ch (!b) true)
  have d0:=dat_len (b:=!b) (k:=false) S
  have d1:=dat_len (b:=!b) (k:=true) S
  have n0:=nP_le (b:=!b) (k:=false) hOk
  have n1:=nP_le (b:=!b) (k:=true) hOk
  have t0:=(hOk.ch (!b) false).told
  have t1:=(hOk.ch (!b) true).told
  unfold waitP
  rw [lc,lc,d0,d1]
  refine rqLe (by exact ln [_] [_] [.Le (.c (.v 0)) (.v 0),.a (.Le (.v 0) (.k 37)) (.Le (.k 0) (.v 0))] (.le (.v 0) (.k 100000)) (.w [1,0,1,1]) zr c0.1 n0) (rqLe (by exact ln [_] [_] [.Eq (.c (.v 0)) (.v 0),.a (.Le (.v 0) (.k 37)) (.Le (.k 0) (.v 0))] (.le (.v 0) (.k 100000)) (.w [1,0,1,0,1]) zr d0 n0) (bi (fun p=>h1 false (c0.2.mp (of_decide_eq_true p))) fun p=>rqLe (by exact ln [_] [_] [.Le (.c (.v 0)) (.v 0),.a (.Le (.v 0) (.k 37)) (.Le (.k 0) (.v 0))] (.le (.v 0) (.k 100000)) (.w [1,0,1,1]) zr c1.1 n1) (rqLe (by exact ln [_] [_] [.Eq (.c (.v 0)) (.v 0),.a (.Le (.v 0) (.k 37)) (.Le (.k 0) (.v 0))] (.le (.v 0) (.k 100000)) (.w [1,0,1,0,1]) zr d1 n1) (bi (fun q=>h1 true (c1.2.mp (of_decide_eq_true q))) fun q=>h2 fun k=>?_))))
  have p:=mt c0.2.mpr (of_decide_eq_false p)
  have q:=mt c1.2.mpr (of_decide_eq_false q)
  cases k <;> omega
theorem abs1 {a m n:Int} {C:Prop} (e:a=m) (h:a ≤ n) (d:n < m):C:=absurd d (Int.not_lt.mpr (e ▸ h))
theorem abs3 {a m n:Int} {C:Prop} (e:a=m) (h:a < n) (d:n ≤ m):C:=absurd d (Int.not_le.mpr (e ▸ h))
theorem setS_self:setS (toLS S) S.c S.s=toLS S:=rfl
theorem d26:(14:Int) ≤ 26:=by decide
theorem fair_core (hj:j=0 ∨ j=1 ∨ j=2) (hOk:Ok S) (h:fairK sc loc j B (toLS S) l K S.c S.s true):fairC n sc loc j B (toLS S) l K S.c S.s:=by
  have w0:=fun A C=>@waitP_go S false hOk A C
  have w1:=fun A C=>@waitP_go S true hOk A C
  have sc0:stOk S.c (S.ch true false).told (S.ch true true).told:=hOk.st false
  have ss0:stOk S.s (S.ch false false).told (S.ch false true).told:=hOk.st true
  have tI:=(hOk.ch true false).told.2
  have tH:=(hOk.ch false true).told.2
  have n1:∀ k,nP S true k=@Bool.rec (fun _=>Int) 0 (NN true k) (S.s.has k):=fun k=>rfl
  have n0:∀ k,nP S false k=@Bool.rec (fun _=>Int) 0 (NN false k) (S.c.has k):=fun k=>rfl
  rw [n1] at tI
  rw [n0] at tH
  rcases hOk.role.2 with es | es | es <;> rcases hOk.role.1 with ec | ec | ec | ec <;> rw [es] at h ss0 tI n1 ⊢ <;> rw [ec] at h sc0 tH n0 ⊢
  · exact (fair_00 hj).mpr h
  · exact abs1 sc0.1 (show (S.ch true false).told ≤ 0 from tI) (by decide)
  · exact abs1 sc0.1 (show (S.ch true false).told ≤ 0 from tI) (by decide)
  · exact abs1 sc0.1 (show (S.ch true false).told ≤ 0 from tI) (by decide)
  · have d:(14:Int) ≤ @Bool.rec (fun _=>Int) 0 (NN true false) (HSt.s1.has false):=Int.le_refl 14
    exact (fair_01 hj).mpr (w0 (fairK sc loc j B (toLS S) l K .c0 .s1 true) _ (fun _ _=>h) fun q=>abs3 ((q false).trans (n1 false)) (show (S.ch true false).told < 14 from sc0.1) d)
  · have d:(14:Int) ≤ @Bool.rec (fun _=>Int) 0 (NN true true) (HSt.s1.has true):=d26
    exact (fair_11 hj).mpr (w0 (fairK sc loc j B (toLS S) l K .c1 .s1 true) _ (fun _ _=>h) fun q=>abs3 ((q true).trans (n1 true)) (show (S.ch true true).told < 14 from sc0.2) d)
  · have d:(26:Int) ≤ @Bool.rec (fun _=>Int) 0 (NN true true) (HSt.s1.has true):=Int.le_refl 26
    exact (fair_21 hj).mpr (w0 (fairK sc loc j B (toLS S) l K .c2 .s1 true) _ (fun _ _=>h) fun q=>abs3 ((q true).trans (n1 true)) (show (S.ch true true).told < 26 from sc0.2.2) d)
  · have nw:∀ k,¬ (S.ch true k).told < nP S true k:=fun k=>by
      rw [n1]
      cases k with
      | false=>exact Int.not_lt.mpr (Int.le_of_eq sc0.1.symm)
      | true=>exact Int.not_lt.mpr (Int.le_of_eq sc0.2.symm)
    exact (fair_31 hj).mpr (w0 _ _ (fun k q=>absurd q (nw k)) fun _=>w0 _ _ (fun k q=>absurd q (nw k)) fun _=>w1 _ _ (fun _ _=>h) fun q=>abs3 ((q true).trans (n0 true)) (show (S.ch false true).told < 12 from ss0.2) (Int.le_refl 12:(12:Int) ≤ @Bool.rec (fun _=>Int) 0 (NN false true) (HSt.c3.has true)))
  · exact abs1 ss0.2 (show (S.ch false true).told ≤ 0 from tH) (by decide)
  · exact abs1 ss0.2 (show (S.ch false true).told ≤ 0 from tH) (by decide)
  · exact abs1 ss0.2 (show (S.ch false true).told ≤ 0 from tH) (by decide)
  · have nw:∀ k,¬ (S.ch true k).told < nP S true k:=fun k=>by
      rw [n1]
      cases k with
      | false=>exact Int.not_lt.mpr (Int.le_of_eq sc0.1.symm)
      | true=>exact Int.not_lt.mpr (Int.le_of_eq sc0.2.symm)
    have nv:∀ k,¬ (S.ch false k).told < nP S false k:=fun k=>by
      rw [n0]
      cases k with
      | false=>exact Int.not_lt.mpr (Int.le_of_eq ss0.1.symm)
      | true=>exact Int.not_lt.mpr (Int.le_of_eq ss0.2.symm)
    exact (fair_32 hj).mpr (w0 _ _ (fun k q=>absurd q (nw k)) fun _=>w1 _ _ (fun k q=>absurd q (nv k)) fun _=>w0 _ _ (fun k q=>absurd q (nw k)) fun _=>w1 _ _ (fun k q=>absurd q (nv k)) fun _=>h)
theorem fair_go (hj:j=0 ∨ j=1 ∨ j=2) (hOk:Ok S) (h:K (.d (.bool true)) ⟨sc,loc,hpJ j B (toLS S) l⟩):(ops T1 (n + 30)).cl (.ref 481) [.obj 9,.obj 38] ⟨sc,loc,hpJ j B (toLS S) l⟩ K:=
  (congrArg (fun σ=>(ops T1 (n + 30)).cl (.ref 481) [.obj 9,.obj 38] ⟨sc,loc,hpJ j B σ l⟩ K) setS_self).mp (fair_core hj hOk ((congrArg (fun σ=>K (.d (.bool true)) ⟨sc,loc,hpJ j B σ l⟩) setS_self).mpr h))
end
noncomputable abbrev GS:=List SV→Sy→KV→Prop
noncomputable def g450:GS:=fun args σ K=>∃ w B L l,args=[.obj 1,.d (.int w)] ∧ σ.hp=hpJ 0 B L l ∧ (0 < w ∧ okB B) ∧ ∀ u B',(0 ≤ u ∧ u < w) ∧ okB B'→K (.d (.int u)) ⟨σ.sc,σ.loc,hpJ 0 B' L l⟩
noncomputable def g415:GS:=fun args σ K=>∃ j B S l b k m,args=[.obj (outN b k),.d (.int m)] ∧ σ.hp=hpJ j B (toLS S) l ∧ ((j=0 ∨ j=1) ∧ Ok S ∧ 0 < m) ∧ ((S.ch b k).due=[]→K (.d .none) ⟨σ.sc,σ.loc,hpJ j B (toLS S) l⟩) ∧
  ∀ lo hi r,(S.ch b k).due=(lo,hi) :: r→K (.d (.tuple [.int lo,byt (sl (full b k) lo (mnV hi (lo + m)))])) ⟨σ.sc,σ.loc,hpJ j B (toLS (setC S b k { S.ch b k with due:=cutS lo (mnV hi (lo + m)) ((lo,hi) :: r) })) l⟩
noncomputable def g422:GS:=fun args σ K=>∃ B S l b k o e z,args=[.obj (outN b k),.d (.int o),.d (.int z)] ∧ σ.hp=hpJ 0 B (toLS S) l ∧ (Ok S ∧ o < e ∧ (∀ p ∈ (S.ch b k).acked,p.2 ≤ o ∨ e ≤ p.1) ∧ z=e - o) ∧ K (.d .none) ⟨σ.sc,σ.loc,hpJ 0 B (toLS (setC S b k { S.ch b k with due:=addS (S.ch b k).due o e })) l⟩
noncomputable def g429:GS:=fun args σ K=>∃ B S l b k o e z,args=[.obj (outN b k),.d (.int o),.d (.int z)] ∧ σ.hp=hpJ 0 B (toLS S) l ∧ (Ok S ∧ o < e ∧ z=e - o) ∧ K (.d .none) ⟨σ.sc,σ.loc,hpJ 0 B (toLS (setC S b k { S.ch b k with due:=cutS o e (S.ch b k).due,acked:=addS (S.ch b k).acked o e })) l⟩
noncomputable def g467:GS:=fun args σ K=>∃ j B S l b k o e,args=[.obj (sdN (!b) + 7),.d (spc k),.d (.int o),.d (byt (sl (full b k) o e))] ∧ σ.hp=hpJ j B (toLS S) l ∧ ((j=0 ∨ j=1 ∨ j=2) ∧ Ok S ∧ 0 ≤ o ∧ o < e ∧ e ≤ nP S b k ∧ rdS (S.st (!b)) k=true) ∧ K (.d .none) ⟨σ.sc,σ.loc,hpJ j B (toLS (arrP S b k o e)) l⟩
noncomputable def g296:GS:=fun args σ K=>∃ j B S l b k,args=[.obj (sdN b + 2),.d (spc k)] ∧ σ.hp=hpJ j B (toLS S) l ∧ (j=0 ∨ j=1 ∨ j=2) ∧ K (.d (.bool (rdS (S.st b) k))) ⟨σ.sc,σ.loc,hpJ j B (toLS S) l⟩
noncomputable def g481:GS:=fun args σ K=>∃ j B S l,args=[.obj 9,.obj 38] ∧ σ.hp=hpJ j B (toLS S) l ∧ ((j=0 ∨ j=1 ∨ j=2) ∧ Ok S) ∧ K (.d (.bool true)) ⟨σ.sc,σ.loc,hpJ j B (toLS S) l⟩
noncomputable def lawL:List (Nat × GS):=[(450,g450),(415,g415),(422,g422),(429,g429),(467,g467),(296,g296),(481,g481)]
noncomputable def fgR:Nat→List Str:=fun n=>@Option.rec (List Str) (fun _=>List Str) [] (fun l=>l) (lookN n [(269,[strS "end",strS "last",strS "ahead",strS "behind"]),(438,nm ["at","side","space","chunk","waiting","sender","offset","data"]),(439,nm ["space","chunk"]),(440,nm ["chunk"])])
noncomputable def locW (ds:List Dat) (sd:Int) (fl tu a si sp ch wa se off da en:Option SV):List (Str × Option SV):=[(strS "script",some (.d (.list ds))),(strS "seed",some (.d (.int sd))),(strS "one",none),(strS "box",some (.obj 1)),(strS "client",some (.obj 9)),(strS "server",some (.obj 38)),(strS "sides",some sdV),(strS "flying",fl),(strS "turn",tu),(strS "at",a),(strS "side",si),(strS "space",sp),(strS "chunk",ch),(strS "waiting",wa),(strS "sender",se),(strS "offset",off),(strS "data",da),(strS "ends",en),(strS "e",none)]
noncomputable def σW (ds:List Dat) (sd:Int) (fl tu a si sp ch wa se off da en:Option SV) (H:List SO):Sy:=⟨lawR.scope,locW ds sd fl tu a si sp ch wa se off da en,H⟩
noncomputable def endH (B:Box) (L:LS) (l:List Dat):List SO:=hpJ 1 B L l ++ [.list [.obj 4,.obj 33]]
noncomputable abbrev σZ (ds:List Dat) (sd:Int) (B:Box) (L:LS) (l:List Dat):Sy:=σW ds sd (some (.obj 62)) none none none none none none none none none (some (.obj 63)) (endH B (setS L .c3 .s2) l)
noncomputable def gTry:Stmt→Sy→KF→Prop:=fun st σ K=>∃ ds sd B L l,st=stA lawR.body 9 ∧ σ=σW ds sd (some (.obj 62)) none none none none none none none none none none (hpJ 1 B L l) ∧ K .next (σW ds sd (some (.obj 62)) none none none none none none none none none (some (.obj 63)) (endH B L l))
noncomputable def T2:Tab:=tab (fun a=>lookN a (lawL ++ pureL.map fun p=>(p.1,spA p.2))) none fzL fgR
theorem law_ok {p:Nat × GS} (hp:p ∈ lawL) {args:List SV} {σ:Sy} {K:KV} (h:p.2 args σ K):(ops T1 40).cl (.ref p.1) args σ K:=by
  unfold lawL at hp
  obtain ⟨sc,loc,hq⟩:=σ
  simp only [List.mem_cons,List.not_mem_nil,or_false] at hp
  rcases hp with rfl | rfl | rfl | rfl | rfl | rfl | rfl
  · obtain ⟨w,B,L,l,rfl,e,⟨a,b⟩,h⟩:=h; cases (e:hq=_); exact draw_go (n:=20) a b h
  · obtain ⟨j,B,S,l,b,k,m,rfl,e,⟨h1,h2,h3⟩,h4,h5⟩:=h; cases (e:hq=_); exact next_go (n:=20) h1 h2 h3 h4 h5
  · obtain ⟨B,S,l,b,k,o,e1,z,rfl,e,⟨h1,h2,h3,h4⟩,h⟩:=h; cases (e:hq=_); exact lost_go (n:=20) h1 h2 h3 h4 h
  · obtain ⟨B,S,l,b,k,o,e1,z,rfl,e,⟨h1,h2,h3⟩,h⟩:=h; cases (e:hq=_); exact ack_go (n:=20) h1 h2 h3 h
  · obtain ⟨j,B,S,l,b,k,o,e1,rfl,e,⟨h1,h2,h3,h4,h5,h6⟩,h⟩:=h; cases (e:hq=_); exact arrive_go (n:=0) h1 h2 h3 h4 h5 h6 h
  · obtain ⟨j,B,S,l,b,k,rfl,e,h1,h⟩:=h; cases (e:hq=_); exact read_go (n:=20) h1 h
  · obtain ⟨j,B,S,l,rfl,e,⟨h1,h2⟩,h⟩:=h; cases (e:hq=_); exact fair_go (n:=10) h1 h2 h
noncomputable def wosσ (ds es:List Dat) (fd:List Dat):Sy:=⟨scA 352,[(strS "spans",some (dsL ds)),(strS "others",some (dsL es)),(strS "found",some (dsL fd)),(strS "low",none),(strS "high",none)],[.gone]⟩
noncomputable abbrev wosE (r:List SV) (ds es fd:List Dat) (K:KF):Prop:=loopF T0 28 (stA (bodyA 352) 1) 1 (nm ["low","high"]) r (wosσ ds es fd) K
theorem wos_in {p:Int × Int} {es:List Dat} {sc:Scope} {K:KV}:(ops T0 30).cl (.ref 352) [dsL [spX p],dsL es] ⟨sc,[],[]⟩ K=wosE (es.map .d) [spX p] es [spX p] (fun fl σ1=>onF fl (exV T0 (ops T0 28) ((bodyA 352).drop 2) σ1 (retK 0 ⟨sc,[],[]⟩ K)) (retK 0 ⟨sc,[],[]⟩ K .brk σ1) fun u=>retK 0 ⟨sc,[],[]⟩ K (.ret u) σ1):=by kernel_rfl
theorem wos_step {ds es:List Dat} {o e lo hi:Int} {r:List SV} {K:KF}:wosE (.d (spX (lo,hi)) :: r) ds es [spX (o,e)] K =
  bite (decide (o < mnV e lo)) (bite (decide (mxV o hi < e)) (bite (decide (lo < hi)) (wosE r ds es [spX (o,mnV e lo),spX (mxV o hi,e)] K) (wosE r ds es [spX (o,e)] K)) (bite (decide (lo < hi)) (wosE r ds es [spX (o,mnV e lo)] K) (wosE r ds es [spX (o,e)] K)))
    (bite (decide (mxV o hi < e)) (bite (decide (lo < hi)) (wosE r ds es [spX (mxV o hi,e)] K) (wosE r ds es [spX (o,e)] K)) (bite (decide (lo < hi)) (wosE r ds es [] K) (wosE r ds es [spX (o,e)] K))):=by kernel_rfl
theorem wos_end {ds es fd:List Dat} {sc:Scope} {K:KV}:exV T0 (ops T0 28) ((bodyA 352).drop 2) (wosσ ds es fd) (retK 0 ⟨sc,[],[]⟩ K)=K (dsL fd) ⟨sc,[],[]⟩:=by kernel_rfl
theorem wos_loop {ds es:List Dat} {o e:Int} (hoe:o < e) {K:KF} {ys:List (Int × Int)} (h:∀ p ∈ ys,p.1 < p.2 ∧ (p.2 ≤ o ∨ e ≤ p.1)) (hK:K .next (wosσ ds es [spX (o,e)])):wosE (spV ys) ds es [spX (o,e)] K:=by
  induction ys with
  | nil=>exact hK
  | cons p r ih =>
    have h1:=h p (List.mem_cons_self ..)
    have ih:=ih fun q hq=>h q (List.mem_cons_of_mem _ hq)
    obtain ⟨a,b⟩:=p
    have m1:=mnV_spec e a
    have m2:=mxV_spec o b
    refine (wos_step (lo:=a) (hi:=b) (r:=spV r)).mpr ?_
    rw [decide_eq_true h1.1]
    rcases h1.2 with k | k
    · rw [show mxV o b=o by exact ln [] [_,_,_] [.Le (.v 0) (.v 1),.a (.Le (.v 1) (.v 2)) (.a (.Le (.v 0) (.v 2)) (.o (.Eq (.v 2) (.v 1)) (.Eq (.v 2) (.v 0))))] (.Eq (.v 2) (.v 1)) (.b (.b (.w [1,0,0,0,0,1]) (.w [1,0,0,0,0,1])) (.b (.w [0,0,1,0,0,1]) (.w [0,0,1,0,1,1]))) zr k m2,decide_eq_false (show ¬ o < mnV e a by exact ln [] [_,_,_,_,_] [.Le (.v 0) (.v 1),.a (.Lt (.v 2) (.v 0)) (.o (.Le (.v 0) (.v 1)) (.Le (.v 3) (.v 2))),.a (.Le (.v 4) (.v 3)) (.a (.Le (.v 4) (.v 2)) (.o (.Eq (.v 4) (.v 3)) (.Eq (.v 4) (.v 2))))] (.n (.Lt (.v 1) (.v 4))) (.b (.b (.w [0,1,0,0,1,1,0,1]) (.w [0,1,0,0,1,1,0,1])) (.b (.w [0,1,0,0,1,0,1,1]) (.w [0,1,0,0,1,0,1,1]))) zr k h1 m1),decide_eq_true hoe]
      exact ih
    · rw [show mnV e a=e by exact ln [] [_,_,_] [.Le (.v 0) (.v 1),.a (.Le (.v 2) (.v 0)) (.a (.Le (.v 2) (.v 1)) (.o (.Eq (.v 2) (.v 0)) (.Eq (.v 2) (.v 1))))] (.Eq (.v 2) (.v 0)) (.b (.b (.w [0,0,0,1,0,1]) (.w [0,0,0,1,1,1])) (.b (.w [1,0,0,0,0,1]) (.w [1,0,0,0,0,1]))) zr k m1,decide_eq_true hoe,decide_eq_false (show ¬ mxV o b < e by exact ln [] [_,_,_,_,_] [.Le (.v 0) (.v 1),.a (.Lt (.v 1) (.v 2)) (.o (.Le (.v 2) (.v 3)) (.Le (.v 0) (.v 1))),.a (.Le (.v 3) (.v 4)) (.a (.Le (.v 2) (.v 4)) (.o (.Eq (.v 4) (.v 3)) (.Eq (.v 4) (.v 2))))] (.n (.Lt (.v 4) (.v 0))) (.b (.b (.w [0,1,0,0,1,0,1,1]) (.w [0,1,0,0,1,0,1,1])) (.b (.w [0,1,0,0,1,1,0,1]) (.w [0,1,0,0,1,1,0,1]))) zr k h1 m2)]
      exact ih
theorem wos_run {sc:Scope} {o e:Int} {ys:List (Int × Int)} {K:KV} (hoe:o < e) (h:∀ p ∈ ys,p.1 < p.2 ∧ (p.2 ≤ o ∨ e ≤ p.1)) (hK:K (dsL [spX (o,e)]) ⟨sc,[],[]⟩):(ops T0 30).cl (.ref 352) [dsL [spX (o,e)],dsL (ys.map spX)] ⟨sc,[],[]⟩ K:=
  wos_in.mpr (wos_loop hoe h (wos_end.mpr hK))
noncomputable def apσ (ds:List Dat) (o:Int) (B:List UInt8) (s:Int) (Y:List UInt8) (acc:List Dat):Sy:=⟨scA 317,[(strS "pieces",some (dsL ds)),(strS "offset",some (.d (.int o))),(strS "data",some (.d (byt B))),(strS "found",some (.obj 0)),(strS "begin",some (.d (.int s))),(strS "joined",some (.d (byt Y))),(strS "start",none),(strS "octets",none),(strS "end",none),(strS "last",none),(strS "ahead",none),(strS "behind",none)],[.dlist acc]⟩
noncomputable abbrev apE (r:List SV) (ds:List Dat) (o:Int) (B:List UInt8) (s:Int) (Y:List UInt8) (acc:List Dat) (K:KF):Prop:=loopF T0 28 (stA (bodyA 317) 2) 1 (nm ["start","octets","end","last","ahead","behind"]) r (apσ ds o B s Y acc) K
theorem ap_in {ds:List Dat} {o:Int} {B:List UInt8} {sc:Scope} {K:KV}:(ops T0 30).cl (.ref 317) [dsL ds,.d (.int o),.d (byt B)] ⟨sc,[],[]⟩ K =
  req (Nat.ble B.length 100000) (bite (decide ((B.length:Int)=0)) (req (Nat.ble ds.length 1000) (K (dsL ds) ⟨sc,[],[]⟩)) (apE (ds.map .d) ds o B o B [] (fun fl σ1=>onF fl (exV T0 (ops T0 28) ((bodyA 317).drop 3) σ1 (retK 0 ⟨sc,[],[]⟩ K)) (retK 0 ⟨sc,[],[]⟩ K .brk σ1) fun u=>retK 0 ⟨sc,[],[]⟩ K (.ret u) σ1))):=by kernel_rfl
noncomputable def joinX (s a:Int) (X Y:List UInt8):List UInt8:=(cutL Y none (some (mxV 0 (a - s))) ++ X) ++ cutL Y (some (mxV 0 (a + (X.length:Int) - s))) none
noncomputable def apJ (r:List SV) (ds:List Dat) (o:Int) (B:List UInt8) (s:Int) (Y:List UInt8) (acc:List Dat) (a:Int) (X:List UInt8) (K:KF):Prop:=
  req (Nat.ble Y.length 1000) (req (Nat.ble Y.length 1000) (req (Nat.ble ((cutL Y none (some (mxV 0 (a - s)))).length + X.length) 1000) (req (Nat.ble ((cutL Y none (some (mxV 0 (a - s))) ++ X).length + (cutL Y (some (mxV 0 (a + (X.length:Int) - s))) none).length) 1000)
    (apE r ds o B (mnV s a) (joinX s a X Y) acc K))))
noncomputable def apN (r:List SV) (ds:List Dat) (o:Int) (B:List UInt8) (s:Int) (Y:List UInt8) (acc:List Dat) (a:Int) (X:List UInt8) (K:KF):Prop:=req (Nat.ble acc.length 1000) (apE r ds o B s Y (acc ++ [pcO a X]) K)
theorem ap_step {ds acc:List Dat} {o s a:Int} {B X Y:List UInt8} {r:List SV} {K:KF}:apE (.d (pcO a X) :: r) ds o B s Y acc K =
  req (Nat.ble X.length 100000) (req (Nat.ble Y.length 100000) (
    bite (decide (a + (X.length:Int) < s) == false)
      (bite (decide (s + (Y.length:Int) < a) == false) (apJ r ds o B s Y acc a X K) (bite (decide (s + (Y.length:Int) < a)) (apN r ds o B s Y acc a X K) (apJ r ds o B s Y acc a X K)))
      (bite (decide (a + (X.length:Int) < s)) (apN r ds o B s Y acc a X K) (apJ r ds o B s Y acc a X K)))):=by kernel_rfl
theorem ap_end {ds acc:List Dat} {o s:Int} {B Y:List UInt8} {sc:Scope} {K:KV}:exV T0 (ops T0 28) ((bodyA 317).drop 3) (apσ ds o B s Y acc) (retK 0 ⟨sc,[],[]⟩ K)=req (Nat.ble (acc.length + 1) 1000) (sortP (acc ++ [pcO s Y]) fun es=>K (dsL es) ⟨sc,[],[]⟩):=by kernel_rfl
theorem joinX_eq {D:List UInt8} {s e a b:Int} (h0:0 ≤ s) (h1:s < e) (h2:e ≤ D.length) (h3:0 ≤ a) (h4:a < b) (h5:b ≤ D.length) (h6:s ≤ b) (h7:a ≤ e) :
    (cutL (sl D s e) none (some (mxV 0 (a - s)))=sl D (mnV s a) a) ∧ joinX s a (sl D a b) (sl D s e)=sl D (mnV s a) (mxV e b):=by
  have m1:=mnV_spec s a
  have m2:=mxV_spec e b
  have m3:=mxV_spec 0 (a - s)
  have m4:=mxV_spec 0 (b - s)
  have hl:=sl_len h3 (Int.le_of_lt h4) h5
  have e1:cutL (sl D s e) none (some (mxV 0 (a - s)))=sl D (mnV s a) a:=by
    rw [cutL_hi m3.1]
    by_cases c:s ≤ a
    · rw [sl_take h0 m3.1 (by exact ln [] [_,_,_,_] [.Le (.v 0) (.v 1),.Le (.v 2) (.v 0),.a (.Le (.k 0) (.v 3)) (.a (.Le (.s (.v 0) (.v 2)) (.v 3)) (.o (.Eq (.v 3) (.k 0)) (.Eq (.v 3) (.s (.v 0) (.v 2)))))] (.Le (.a (.v 2) (.v 3)) (.v 1)) (.b (.w [0,0,1,0,1,1,1]) (.w [0,0,1,0,0,1,1])) zr h7 c m3)]
      rw [show mnV s a=s by exact ln [] [_,_,_] [.Le (.v 0) (.v 1),.a (.Le (.v 2) (.v 0)) (.a (.Le (.v 2) (.v 1)) (.o (.Eq (.v 2) (.v 0)) (.Eq (.v 2) (.v 1))))] (.Eq (.v 2) (.v 0)) (.b (.b (.w [0,0,0,1,0,1]) (.w [0,0,0,1,1,1])) (.b (.w [1,0,0,0,0,1]) (.w [1,0,0,0,0,1]))) zr c m1,show s + mxV 0 (a - s)=a by exact ln [] [_,_,_] [.Le (.v 0) (.v 1),.a (.Le (.k 0) (.v 2)) (.a (.Le (.s (.v 1) (.v 0)) (.v 2)) (.o (.Eq (.v 2) (.k 0)) (.Eq (.v 2) (.s (.v 1) (.v 0)))))] (.Eq (.a (.v 0) (.v 2)) (.v 1)) (.b (.b (.w [0,1,0,0,0,1]) (.w [0,1,0,0,0,1])) (.b (.w [0,0,1,0,1,1]) (.w [0,0,1,0,0,1]))) zr c m3]
    · rw [show mxV 0 (a - s)=0 by exact ln [] [_,_,_] [.n (.Le (.v 0) (.v 1)),.a (.Le (.k 0) (.v 2)) (.a (.Le (.s (.v 1) (.v 0)) (.v 2)) (.o (.Eq (.v 2) (.k 0)) (.Eq (.v 2) (.s (.v 1) (.v 0)))))] (.Eq (.v 2) (.k 0)) (.b (.b (.w [1,0,0,0,0,1]) (.w [1,0,0,0,0,1])) (.b (.w [0,0,1,0,0,1]) (.w [1,0,1,0,1]))) zr c m3,Int.toNat_zero,List.take_zero,sl_nil (a:=mnV s a) (b:=a) (by exact ln [] [_,_,_] [.n (.Le (.v 0) (.v 1)),.a (.Le (.v 2) (.v 0)) (.a (.Le (.v 2) (.v 1)) (.o (.Eq (.v 2) (.v 0)) (.Eq (.v 2) (.v 1))))] (.Le (.v 1) (.v 2)) (.b (.w [0,1,0,1,1]) (.w [0,0,0,1,0,1])) zr c m1)]
  refine ⟨e1,?_⟩
  unfold joinX
  rw [e1,hl,show a + (b - a) - s=b - s by exact ln [] [_,_,_] [] (.Eq (.s (.a (.v 0) (.s (.v 1) (.v 0))) (.v 2)) (.s (.v 1) (.v 2))) (.b (.w [1]) (.w [1])) zr,cutL_lo m4.1,sl_drop h0 m4.1,sl_app (by exact ln [] [_,_,_] [.Le (.k 0) (.v 0),.Le (.k 0) (.v 1),.a (.Le (.v 2) (.v 0)) (.a (.Le (.v 2) (.v 1)) (.o (.Eq (.v 2) (.v 0)) (.Eq (.v 2) (.v 1))))] (.Le (.k 0) (.v 2)) (.b (.w [0,0,0,1,0,1,1]) (.w [0,0,0,1,1,0,1])) zr h0 h3 m1) (by exact ln [] [_,_,_] [.a (.Le (.v 0) (.v 1)) (.a (.Le (.v 0) (.v 2)) (.o (.Eq (.v 0) (.v 1)) (.Eq (.v 0) (.v 2))))] (.Le (.v 0) (.v 2)) (.b (.w [0,1,0,0,1]) (.w [0,1,0,0,1])) zr m1) (by exact ln [_] [_,_] [.Eq (.c (.v 0)) (.s (.v 0) (.v 1))] (.Le (.v 1) (.v 0)) (.w [1,0,1]) zr hl),show s + mxV 0 (b - s)=b by exact ln [] [_,_,_] [.Le (.v 0) (.v 1),.a (.Le (.k 0) (.v 2)) (.a (.Le (.s (.v 1) (.v 0)) (.v 2)) (.o (.Eq (.v 2) (.k 0)) (.Eq (.v 2) (.s (.v 1) (.v 0)))))] (.Eq (.a (.v 0) (.v 2)) (.v 1)) (.b (.b (.w [0,1,0,0,0,1]) (.w [0,1,0,0,0,1])) (.b (.w [0,0,1,0,1,1]) (.w [0,0,1,0,0,1]))) zr h6 m4]
  by_cases c:b ≤ e
  · rw [show mxV e b=e by exact ln [] [_,_,_] [.Le (.v 0) (.v 1),.a (.Le (.v 1) (.v 2)) (.a (.Le (.v 0) (.v 2)) (.o (.Eq (.v 2) (.v 1)) (.Eq (.v 2) (.v 0))))] (.Eq (.v 2) (.v 1)) (.b (.b (.w [1,0,0,0,0,1]) (.w [1,0,0,0,0,1])) (.b (.w [0,0,1,0,0,1]) (.w [0,0,1,0,1,1]))) zr c m2]
    exact sl_app (by exact ln [] [_,_,_] [.Le (.k 0) (.v 0),.Le (.k 0) (.v 1),.a (.Le (.v 2) (.v 0)) (.a (.Le (.v 2) (.v 1)) (.o (.Eq (.v 2) (.v 0)) (.Eq (.v 2) (.v 1))))] (.Le (.k 0) (.v 2)) (.b (.w [0,0,0,1,0,1,1]) (.w [0,0,0,1,1,0,1])) zr h0 h3 m1) (by exact ln [] [_,_,_,_] [.Le (.v 0) (.v 1),.a (.Le (.v 2) (.v 0)) (.a (.Le (.v 2) (.v 3)) (.o (.Eq (.v 2) (.v 0)) (.Eq (.v 2) (.v 3))))] (.Le (.v 2) (.v 1)) (.b (.w [1,0,0,0,1,1]) (.w [1,0,0,0,1,1])) zr h6 m1) c
  · rw [sl_nil (a:=b) (b:=e) (by exact ln [] [_,_] [.n (.Le (.v 0) (.v 1))] (.Le (.v 1) (.v 0)) (.w [1,1]) zr c),List.append_nil,show mxV e b=b by exact ln [] [_,_,_] [.n (.Le (.v 0) (.v 1)),.a (.Le (.v 1) (.v 2)) (.a (.Le (.v 0) (.v 2)) (.o (.Eq (.v 2) (.v 1)) (.Eq (.v 2) (.v 0))))] (.Eq (.v 2) (.v 0)) (.b (.b (.w [0,1,0,0,0,1]) (.w [0,1,0,0,0,1])) (.b (.w [0,1,1,0,1]) (.w [0,0,1,0,0,1]))) zr c m2]
noncomputable def pcF (D:List UInt8) (p:Int × Int):Int × Array UInt8:=(p.1,⟨sl D p.1 p.2⟩)
theorem pc_map {D:List UInt8} {l:List (Int × Int)}:(l.map (pcF D)).map pcE=l.map (pcX D):=by rw [List.map_map]; rfl
noncomputable abbrev apK (sc:Scope) (K:KV):KF:=fun fl σ1=>onF fl (exV T0 (ops T0 28) ((bodyA 317).drop 3) σ1 (retK 0 ⟨sc,[],[]⟩ K)) (retK 0 ⟨sc,[],[]⟩ K .brk σ1) fun u=>retK 0 ⟨sc,[],[]⟩ K (.ret u) σ1
theorem ap_fin {D:List UInt8} {ds:List Dat} {o s e:Int} {B:List UInt8} {sc:Scope} {K:KV} {l r:List (Int × Int)} (hp:(l ++ (s,e) :: r).Pairwise fun p q=>p.1 < q.1) (hz:(l ++ r).length < 20) (h:K (dsL ((l ++ (s,e) :: r).map (pcX D))) ⟨sc,[],[]⟩) :
    apK sc K .next (apσ ds o B s (sl D s e) ((l ++ r).map (pcX D))):=by
  refine ap_end.mpr (rqLe (by rw [List.length_map]; exact ln [_] [] [.lt (.v 0) (.k 20)] (.le (.a (.v 0) (.k 1)) (.k 1000)) (.w [1,1]) zr hz) ⟨l.map (pcF D),r.map (pcF D),pcF D (s,e),?_,?_,?_,?_⟩)
  · rw [List.map_append,← pc_map,← pc_map,← List.map_append (f:=pcE)]; exact (List.map_append (f:=pcE) (l₁:=l.map (pcF D) ++ r.map (pcF D)) (l₂:=[pcF D (s,e)])).symm
  · rw [← List.map_cons,← List.map_append,List.pairwise_map]; exact hp
  · rw [← List.map_append,List.length_map]; exact hz
  · rw [← List.map_cons,← List.map_append,pc_map]; exact h
theorem ap_right {D:List UInt8} {ds:List Dat} {o s e:Int} {B:List UInt8} {sc:Scope} {K:KV} (hs:0 ≤ s ∧ s < e ∧ e ≤ D.length) (hD:D.length ≤ 100) {l r':List (Int × Int)}:∀ {r:List (Int × Int)},(∀ p ∈ r',0 ≤ p.1 ∧ p.1 < p.2 ∧ p.2 ≤ D.length ∧ e < p.1)→(l ++ (s,e) :: (r ++ r')).Pairwise (fun p q=>p.1 < q.1)→(l ++ (r ++ r')).length < 20→K (dsL ((l ++ (s,e) :: (r ++ r')).map (pcX D))) ⟨sc,[],[]⟩ →
    apE (pcV D r') ds o B s (sl D s e) ((l ++ r).map (pcX D)) (apK sc K):=by
  induction r' with
  | nil=>intro r _ hp hz h; rw [List.append_nil] at hp hz h; exact ap_fin hp hz h
  | cons p r' ih =>
    intro r hr hp hz h
    have h1:=hr p (List.mem_cons_self ..)
    have hX:=sl_len h1.1 (Int.le_of_lt h1.2.1) h1.2.2.1
    have hY:=sl_len hs.1 (Int.le_of_lt hs.2.1) hs.2.2
    have e1:r ++ p :: r'=(r ++ [p]) ++ r':=by rw [List.append_assoc]; rfl
    rw [e1] at hp hz h
    refine (ap_step (a:=p.1) (X:=sl D p.1 p.2) (r:=pcV D r')).mpr (rqLe (by exact ln [_,_] [_,_,_] [.le (.v 0) (.k 100),.a (.Le (.k 0) (.v 0)) (.a (.Lt (.v 0) (.v 1)) (.a (.Le (.v 1) (.c (.v 0))) (.Lt (.v 2) (.v 0)))),.Eq (.c (.v 1)) (.s (.v 1) (.v 0))] (.le (.v 1) (.k 100000)) (.w [1,0,1,0,1,0,1,1]) zr hD h1 hX) (rqLe (by exact ln [_,_] [_,_] [.a (.Le (.k 0) (.v 0)) (.a (.Lt (.v 0) (.v 1)) (.Le (.v 1) (.c (.v 0)))),.le (.v 0) (.k 100),.Eq (.c (.v 1)) (.s (.v 1) (.v 0))] (.le (.v 1) (.k 100000)) (.w [1,0,1,1,0,1,1]) zr hs hD hY) ?_))
    rw [decide_eq_false (show ¬ p.1 + ((sl D p.1 p.2).length:Int) < s by exact ln [_,_,_] [_,_,_,_] [.a (.Le (.k 0) (.v 0)) (.a (.Lt (.v 0) (.v 1)) (.a (.Le (.v 1) (.c (.v 0))) (.Lt (.v 2) (.v 0)))),.Eq (.c (.v 1)) (.s (.v 2) (.v 3))] (.n (.Lt (.a (.v 0) (.c (.v 2))) (.v 3))) (.w [1,0,0,0,0,1,1]) zr h1 hY),decide_eq_true (show s + ((sl D s e).length:Int) < p.1 by exact ln [_,_] [_,_,_,_] [.a (.Le (.k 0) (.v 0)) (.a (.Lt (.v 0) (.v 1)) (.a (.Le (.v 1) (.c (.v 0))) (.Lt (.v 2) (.v 0)))),.Eq (.c (.v 1)) (.s (.v 2) (.v 3))] (.Lt (.a (.v 3) (.c (.v 1))) (.v 0)) (.w [1,0,0,0,0,1,1]) zr h1 hY)]
    refine rqLe (by rw [List.length_map]; simp only [List.length_append] at hz ⊢; exact ln [_,_,_,_] [] [.lt (.a (.v 0) (.a (.a (.v 1) (.v 2)) (.v 3))) (.k 20)] (.le (.a (.v 0) (.v 1)) (.k 1000)) (.w [1,1]) zr hz) ?_
    rw [mapP,List.append_assoc]
    exact ih (fun q hq=>hr q (List.mem_cons_of_mem _ hq)) hp hz h
theorem ap_loop {D:List UInt8} {ds:List Dat} {o:Int} {B:List UInt8} {sc:Scope} {K:KV} (hD:D.length ≤ 100) {xs:List (Int × Int)}:∀ {l:List (Int × Int)} {s e:Int},0 ≤ s ∧ s < e ∧ e ≤ D.length→(∀ p ∈ xs,0 ≤ p.1 ∧ p.1 < p.2 ∧ p.2 ≤ D.length)→(xs.Pairwise fun p q=>p.2 < q.1)→(l ++ addS xs s e).Pairwise (fun p q=>p.1 < q.1)→(l ++ xs).length < 19→K (dsL ((l ++ addS xs s e).map (pcX D))) ⟨sc,[],[]⟩ →
    apE (pcV D xs) ds o B s (sl D s e) (l.map (pcX D)) (apK sc K):=by
  induction xs with
  | nil =>
    intro l s e hs _ _ hp hz h
    have:=ap_fin (ds:=ds) (o:=o) (B:=B) (r:=[]) hp (by rw [List.append_nil] at hz ⊢; exact ln [_] [] [.lt (.v 0) (.k 19)] (.lt (.v 0) (.k 20)) (.w [1,1]) zr hz) h
    rw [List.append_nil] at this
    exact this
  | cons p r ih =>
    intro l s e hs hx hg hp hz h
    have h1:=hx p (List.mem_cons_self ..)
    have hX:=sl_len h1.1 (Int.le_of_lt h1.2.1) h1.2.2
    have hY:=sl_len hs.1 (Int.le_of_lt hs.2.1) hs.2.2
    have hx':∀ q ∈ r,0 ≤ q.1 ∧ q.1 < q.2 ∧ q.2 ≤ D.length:=fun q hq=>hx q (List.mem_cons_of_mem _ hq)
    have hg':=List.pairwise_cons.mp hg
    rw [addS_c] at hp h
    refine (ap_step (a:=p.1) (X:=sl D p.1 p.2) (r:=pcV D r)).mpr (rqLe (by exact ln [_,_] [_,_] [.le (.v 0) (.k 100),.a (.Le (.k 0) (.v 0)) (.a (.Lt (.v 0) (.v 1)) (.Le (.v 1) (.c (.v 0)))),.Eq (.c (.v 1)) (.s (.v 1) (.v 0))] (.le (.v 1) (.k 100000)) (.w [1,0,1,0,1,1,1]) zr hD h1 hX) (rqLe (by exact ln [_,_] [_,_] [.le (.v 0) (.k 100),.a (.Le (.k 0) (.v 0)) (.a (.Lt (.v 0) (.v 1)) (.Le (.v 1) (.c (.v 0)))),.Eq (.c (.v 1)) (.s (.v 1) (.v 0))] (.le (.v 1) (.k 100000)) (.w [1,0,1,0,1,1,1]) zr hD hs hY) ?_))
    by_cases c:p.2 < s
    · rw [decide_eq_true c] at hp h
      rw [decide_eq_true (show p.1 + ((sl D p.1 p.2).length:Int) < s by exact ln [_] [_,_,_] [.Eq (.c (.v 0)) (.s (.v 0) (.v 1)),.Lt (.v 0) (.v 2)] (.Lt (.a (.v 1) (.c (.v 0))) (.v 2)) (.w [1,1,0,1]) zr hX c)]
      refine rqLe (by rw [List.length_map]; simp only [List.length_append] at hz; exact ln [_,_] [] [.lt (.a (.v 0) (.v 1)) (.k 19)] (.le (.v 0) (.k 1000)) (.w [1,1]) zr hz) ?_
      have e1:∀ {z:List (Int × Int)},l ++ p :: z=(l ++ [p]) ++ z:=fun {z}=>by rw [List.append_assoc]; rfl
      have hp:(l ++ p :: addS r s e).Pairwise (fun p q=>p.1 < q.1):=hp
      have h:K (dsL ((l ++ p :: addS r s e).map (pcX D))) ⟨sc,[],[]⟩:=h
      rw [e1] at hp hz h
      rw [mapP]
      exact ih hs hx' hg'.2 hp hz h
    · rw [decide_eq_false c] at hp h
      rw [decide_eq_false (show ¬ p.1 + ((sl D p.1 p.2).length:Int) < s by exact ln [_] [_,_,_] [.Eq (.c (.v 0)) (.s (.v 0) (.v 1)),.n (.Lt (.v 0) (.v 2))] (.n (.Lt (.a (.v 1) (.c (.v 0))) (.v 2))) (.w [1,0,1,1]) zr hX c)]
      by_cases d:e < p.1
      · rw [decide_eq_true d] at hp h
        rw [decide_eq_true (show s + ((sl D s e).length:Int) < p.1 by exact ln [_] [_,_,_] [.Eq (.c (.v 0)) (.s (.v 0) (.v 1)),.Lt (.v 0) (.v 2)] (.Lt (.a (.v 1) (.c (.v 0))) (.v 2)) (.w [1,1,0,1]) zr hY d)]
        refine rqLe (by rw [List.length_map]; simp only [List.length_append] at hz; exact ln [_,_] [] [.lt (.a (.v 0) (.v 1)) (.k 19)] (.le (.v 0) (.k 1000)) (.w [1,1]) zr hz) ?_
        rw [mapP]
        refine ap_right hs hD (r:=[p]) (fun q hq=>?_) hp (by simp only [List.length_append,List.length_cons] at hz ⊢; simp; exact ln [_,_] [] [.lt (.a (.v 0) (.a (.v 1) (.k 1))) (.k 19)] (.lt (.a (.v 0) (.a (.k 1) (.v 1))) (.k 20)) (.w [1,1]) zr hz) h
        have h2:=hx' q hq
        have h3:=hg'.1 q hq
        exact ⟨h2.1,h2.2.1,h2.2.2,by exact ln [_] [_,_,_,_] [.Eq (.c (.v 0)) (.s (.v 0) (.v 1)),.Lt (.v 2) (.v 1),.Lt (.v 0) (.v 3)] (.Lt (.v 2) (.v 3)) (.w [1,1,1,0,1]) zr hX d h3⟩
      · rw [decide_eq_false d] at hp h
        rw [decide_eq_false (show ¬ s + ((sl D s e).length:Int) < p.1 by exact ln [_] [_,_,_] [.Eq (.c (.v 0)) (.s (.v 0) (.v 1)),.n (.Lt (.v 0) (.v 2))] (.n (.Lt (.a (.v 1) (.c (.v 0))) (.v 2))) (.w [1,0,1,1]) zr hY d)]
        obtain ⟨j1,j2⟩:=joinX_eq (D:=D) hs.1 hs.2.1 hs.2.2 h1.1 h1.2.1 h1.2.2 (by exact ln [] [_,_] [.n (.Lt (.v 0) (.v 1))] (.Le (.v 1) (.v 0)) (.w [1,1]) zr c) (by exact ln [] [_,_] [.n (.Lt (.v 0) (.v 1))] (.Le (.v 1) (.v 0)) (.w [1,1]) zr d)
        have m1:=mnV_spec s p.1
        have m2:=mxV_spec e p.2
        have l1:=sl_len (D:=D) (a:=mnV s p.1) (b:=mxV e p.2) (by exact ln [_] [_,_,_,_,_] [.a (.Le (.k 0) (.v 0)) (.a (.Lt (.v 0) (.v 1)) (.Le (.v 1) (.c (.v 0)))),.a (.Le (.k 0) (.v 2)) (.a (.Lt (.v 2) (.v 3)) (.Le (.v 3) (.c (.v 0)))),.a (.Le (.v 4) (.v 0)) (.a (.Le (.v 4) (.v 2)) (.o (.Eq (.v 4) (.v 0)) (.Eq (.v 4) (.v 2))))] (.Le (.k 0) (.v 4)) (.b (.w [0,0,0,1,0,0,0,1,0,0,1]) (.w [0,0,0,1,1,0,0,0,0,0,1])) zr hs h1 m1) (by exact ln [_] [_,_,_,_,_,_] [.Eq (.c (.v 0)) (.s (.v 0) (.v 1)),.a (.Le (.v 2) (.v 3)) (.a (.Le (.v 2) (.v 1)) (.o (.Eq (.v 2) (.v 3)) (.Eq (.v 2) (.v 1)))),.a (.Le (.v 4) (.v 5)) (.a (.Le (.v 0) (.v 5)) (.o (.Eq (.v 5) (.v 4)) (.Eq (.v 5) (.v 0))))] (.Le (.v 2) (.v 5)) (.b (.b (.w [0,1,0,0,0,1,0,0,1,0,1]) (.w [0,1,0,0,0,1,0,0,1,0,1])) (.b (.w [0,1,0,0,0,1,0,0,1,0,1]) (.w [0,1,0,0,0,1,0,0,1,0,1]))) zr hX m1 m2) (by exact ln [_] [_,_,_,_,_] [.a (.Le (.k 0) (.v 0)) (.a (.Lt (.v 0) (.v 1)) (.Le (.v 1) (.c (.v 0)))),.a (.Le (.k 0) (.v 2)) (.a (.Lt (.v 2) (.v 3)) (.Le (.v 3) (.c (.v 0)))),.a (.Le (.v 1) (.v 4)) (.a (.Le (.v 3) (.v 4)) (.o (.Eq (.v 4) (.v 1)) (.Eq (.v 4) (.v 3))))] (.Le (.v 4) (.c (.v 0))) (.b (.w [0,0,1,0,0,0,0,0,0,1,1]) (.w [0,0,1,0,0,0,1,0,0,0,1])) zr hs h1 m2)
        have l2:(joinX s p.1 (sl D p.1 p.2) (sl D s e)).length ≤ 100:=by rw [j2]; exact ln [_,_] [_,_,_,_,_,_] [.le (.v 0) (.k 100),.a (.Le (.k 0) (.v 0)) (.a (.Lt (.v 0) (.v 1)) (.Le (.v 1) (.c (.v 0)))),.a (.Le (.k 0) (.v 2)) (.a (.Lt (.v 2) (.v 3)) (.Le (.v 3) (.c (.v 0)))),.Eq (.c (.v 1)) (.s (.v 4) (.v 5)),.a (.Le (.v 5) (.v 0)) (.a (.Le (.v 5) (.v 2)) (.o (.Eq (.v 5) (.v 0)) (.Eq (.v 5) (.v 2)))),.a (.Le (.v 1) (.v 4)) (.a (.Le (.v 3) (.v 4)) (.o (.Eq (.v 4) (.v 1)) (.Eq (.v 4) (.v 3))))] (.le (.v 1) (.k 100)) (.b (.b (.w [0,0,1,0,0,0,0,1,1,0,0,0,0,1,0,1,1,1]) (.w [0,0,1,0,0,0,0,1,1,0,0,0,1,1,0,0,1,1])) (.b (.w [0,0,1,0,0,0,0,1,1,0,1,0,0,0,0,1,1,1]) (.w [0,0,1,0,0,0,0,1,1,0,1,0,1,0,0,0,1,1]))) zr hD hs h1 l1 m1 m2
        unfold joinX at l2
        rw [List.length_append] at l2
        have l3:(cutL (sl D s e) none (some (mxV 0 (p.1 - s))) ++ sl D p.1 p.2).length ≤ 100:=by exact ln [_,_] [] [.le (.a (.v 0) (.v 1)) (.k 100)] (.le (.v 0) (.k 100)) (.w [1,1]) zr l2
        rw [List.length_append] at l3
        refine rqLe (by exact ln [_,_] [_,_] [.le (.v 0) (.k 100),.a (.Le (.k 0) (.v 0)) (.a (.Lt (.v 0) (.v 1)) (.Le (.v 1) (.c (.v 0)))),.Eq (.c (.v 1)) (.s (.v 1) (.v 0))] (.le (.v 1) (.k 1000)) (.w [1,0,1,0,1,1,1]) zr hD hs hY) (rqLe (by exact ln [_,_] [_,_] [.le (.v 0) (.k 100),.a (.Le (.k 0) (.v 0)) (.a (.Lt (.v 0) (.v 1)) (.Le (.v 1) (.c (.v 0)))),.Eq (.c (.v 1)) (.s (.v 1) (.v 0))] (.le (.v 1) (.k 1000)) (.w [1,0,1,0,1,1,1]) zr hD hs hY) (rqLe (by exact ln [_,_] [] [.le (.a (.v 0) (.v 1)) (.k 100)] (.le (.a (.v 0) (.v 1)) (.k 1000)) (.w [1,1]) zr l3) (rqLe (by exact ln [_,_] [] [.le (.a (.v 0) (.v 1)) (.k 100)] (.le (.a (.v 0) (.v 1)) (.k 1000)) (.w [1,1]) zr l2) ?_)))
        rw [j2]
        exact ih (by exact ln [_] [_,_,_,_,_,_] [.a (.Le (.k 0) (.v 0)) (.a (.Lt (.v 0) (.v 1)) (.Le (.v 1) (.c (.v 0)))),.a (.Le (.k 0) (.v 2)) (.a (.Lt (.v 2) (.v 3)) (.Le (.v 3) (.c (.v 0)))),.a (.Le (.v 4) (.v 0)) (.a (.Le (.v 4) (.v 2)) (.o (.Eq (.v 4) (.v 0)) (.Eq (.v 4) (.v 2)))),.a (.Le (.v 1) (.v 5)) (.a (.Le (.v 3) (.v 5)) (.o (.Eq (.v 5) (.v 1)) (.Eq (.v 5) (.v 3))))] (.a (.Le (.k 0) (.v 4)) (.a (.Lt (.v 4) (.v 5)) (.Le (.v 5) (.c (.v 0))))) (.b (.b (.w [0,0,0,1,0,0,0,1,0,0,1]) (.w [0,0,0,1,1,0,0,0,0,0,1])) (.b (.b (.b (.w [0,1,0,0,0,1,0,0,0,1,0,0,0,0,1]) (.w [1,0,0,0,1,0,0,0,0,0,0,0,1,0,1])) (.b (.w [1,0,0,0,1,0,0,0,0,0,0,0,1,0,1]) (.w [1,0,0,0,1,0,0,0,0,0,0,0,1,0,1]))) (.b (.b (.w [0,0,1,0,0,0,0,0,0,0,0,0,0,1,1]) (.w [0,0,1,0,0,0,0,0,0,0,1,0,0,0,1])) (.b (.w [0,0,1,0,0,0,0,0,0,0,0,0,0,1,1]) (.w [0,0,1,0,0,0,0,0,0,0,1,0,0,0,1]))))) zr hs h1 m1 m2) hx' hg'.2 hp (by simp only [List.length_append,List.length_cons] at hz ⊢; exact ln [_,_] [] [.lt (.a (.v 0) (.a (.v 1) (.k 1))) (.k 19)] (.lt (.a (.v 0) (.v 1)) (.k 19)) (.w [1,1]) zr hz) h
theorem ap_run {D:List UInt8} {sc:Scope} {o e:Int} {xs:List (Int × Int)} {K:KV} (hP:PcOk D xs) (hz:xs.length < 19) (hg:xs.Pairwise fun p q=>p.2 < q.1) (ho:0 ≤ o ∧ o < e ∧ e ≤ D.length) (hp:(addS xs o e).Pairwise fun p q=>p.1 < q.1) (h:K (dsL ((addS xs o e).map (pcX D))) ⟨sc,[],[]⟩) :
    (ops T0 30).cl (.ref 317) [dsL (xs.map (pcX D)),.d (.int o),.d (byt (sl D o e))] ⟨sc,[],[]⟩ K:=by
  have hl:=sl_len ho.1 (Int.le_of_lt ho.2.1) ho.2.2
  have hd:=hP.size
  refine ap_in.mpr (rqLe (by exact ln [_,_] [_,_] [.a (.Le (.k 0) (.v 0)) (.a (.Lt (.v 0) (.v 1)) (.Le (.v 1) (.c (.v 0)))),.Eq (.c (.v 1)) (.s (.v 1) (.v 0)),.le (.v 0) (.k 100)] (.le (.v 1) (.k 100000)) (.w [1,1,0,1,0,1,1]) zr ho hl hd) ?_)
  rw [decide_eq_false (show ¬ ((sl D o e).length:Int)=0 by exact ln [_,_] [_,_] [.a (.Le (.k 0) (.v 0)) (.a (.Lt (.v 0) (.v 1)) (.Le (.v 1) (.c (.v 0)))),.Eq (.c (.v 1)) (.s (.v 1) (.v 0))] (.n (.Eq (.c (.v 1)) (.k 0))) (.w [0,1,0,1,0,1]) zr ho hl)]
  exact ap_loop (l:=[]) hd ho hP.each hg hp hz h
theorem pure_ok {p:Nat × (Scope→List SV→(SV→Prop)→Prop)} (hp:p ∈ pureL) {sc:Scope} {args:List SV} {k:SV→Prop} (h:p.2 sc args k):args.all isD=true ∧ (ops T0 30).cl (.ref p.1) args ⟨sc,[],[]⟩ fun v _=>isD v=true ∧ k v:=by
  unfold pureL at hp
  simp only [List.mem_cons,List.not_mem_nil,or_false] at hp
  rcases hp with rfl | rfl | rfl | rfl | rfl | rfl
  · obtain ⟨xs,lo,hi,rfl,⟨a,b,c⟩,h⟩:=h; exact ⟨rfl,add_run a b c ⟨rfl,h⟩⟩
  · obtain ⟨xs,lo,hi,rfl,⟨a,b⟩,h⟩:=h; exact ⟨rfl,cut_run a b ⟨rfl,h⟩⟩
  · obtain ⟨xs,lo,hi,rfl,⟨a,b⟩,h⟩:=h; exact ⟨rfl,wos_run a b ⟨rfl,h⟩⟩
  · obtain ⟨D,xs,o,e,rfl,⟨a,b,c,d,g⟩,h⟩:=h; exact ⟨rfl,ap_run a b c d g ⟨rfl,h⟩⟩
  · obtain ⟨D,xs,t,rfl,⟨a,b,c⟩,h⟩:=h; exact ⟨rfl,tf_run a b c ⟨rfl,h⟩⟩
  · obtain ⟨b,rfl,h⟩:=h; exact ⟨rfl,h⟩
theorem sp1_ok {W:Wd} {n:Nat} (S0:Snd W (ops T0 30) n):SpOK W T1 n:=by
  intro a g hg args c K h x Γ Q E us ok S hd G
  obtain ⟨f,e1,rfl⟩:=Option.map_eq_some_iff.mp (hg:(lookN a pureL).map spA=some g)
  exact spA_snd S0 (fun h=>pure_ok (lookN_mem e1) h) h ok S hd G
theorem sp2_ok {W:Wd} {n:Nat} (S0:Snd W (ops T0 30) n) (S1:Snd W (ops T1 40) n):SpOK W T2 n:=by
  intro a g hg args c K h x Γ Q E us ok S hd G
  have hm:(a,g) ∈ lawL ++ pureL.map fun p=>(p.1,spA p.2):=lookN_mem hg
  rcases List.mem_append.mp hm with hm | hm
  · exact (S1.cl (law_ok hm h) ok S (.a1 (.ref a)) hd G).2
  · obtain ⟨p,hp,e⟩:=List.mem_map.mp hm
    cases e
    exact spA_snd S0 (fun h=>pure_ok hp h) h ok S hd G
noncomputable def dr (w:Int) (H:List SO) (k:Int→List SO→Prop):Prop:=∃ w' B L l,[SV.obj 1,.d (.int w)]=[.obj 1,.d (.int w')] ∧ H=hpJ 0 B L l ∧ (0 < w' ∧ okB B) ∧ ∀ u B',(0 ≤ u ∧ u < w') ∧ okB B'→k u (hpJ 0 B' L l)
theorem dr_go {w:Int} {B:Box} {L:LS} {l:List Dat} {k:Int→List SO→Prop} (hw:0 < w) (hB:okB B) (h:∀ u B',0 ≤ u→u < w→okB B'→k u (hpJ 0 B' L l)):dr w (hpJ 0 B L l) k:=⟨w,B,L,l,rfl,rfl,⟨hw,hB⟩,fun u B' q=>h u B' q.1.1 q.1.2 q.2⟩
noncomputable def locM (f a s c sp se o d cu:Option SV):List (Str × Option SV):=[(strS "box",some (.obj 1)),(strS "sides",some sdV),(strS "flying",some (.obj 61)),(strS "form",f),(strS "at",a),(strS "space",s),(strS "chunk",c),(strS "spot",sp),(strS "sender",se),(strS "offset",o),(strS "data",d),(strS "cut",cu)]
noncomputable def σM (f a s c sp se o d cu:Option SV) (H:List SO):Sy:=⟨scA 488,locM f a s c sp se o d cu,H⟩
noncomputable abbrev iV (z:Int):Option SV:=some (.d (.int z))
noncomputable abbrev mvX (n i:Nat) (σ:Sy) (Kr:KF):Prop:=exV T2 (ops T2 (n + 48)) ((bodyA 488).drop i) σ Kr
section
variable {sc:Scope} {loc:List (Str × Option SV)} {B B':Box} {σ σ':LS} {l l':List Dat} {K:KV} {n:Nat} {Kr:KF} {u v:Int} {b k:Bool} {f a s c sp se o d cu:Option SV}
noncomputable def mvK (sc:Scope) (loc:List (Str × Option SV)) (B:Box) (σ:LS) (l:List Dat) (K:KV):KF:=retK 62 ⟨sc,loc,hpJ 0 B σ l⟩ K
theorem mv_in:(ops T2 (n + 50)).cl (.ref 488) [.obj 1,sdV,.obj 61] ⟨sc,loc,hpJ 0 B σ l⟩ K=mvX n 0 (σM none none none none none none none none none (hpJ 0 B σ l)) (mvK sc loc B σ l K):=by kernel_rfl
theorem mv_ret:mvK sc loc B σ l K (.ret (.d .none)) (σM f a s c sp se o d cu (hpJ 0 B' σ' l'))=K (.d .none) ⟨sc,loc,hpJ 0 B' σ' l'⟩:=by kernel_rfl
theorem mv_end:mvK sc loc B σ l K .next (σM f a s c sp se o d cu (hpJ 0 B' σ' l'))=K (.d .none) ⟨sc,loc,hpJ 0 B' σ' l'⟩:=by kernel_rfl
theorem mv_0:mvX n 0 (σM f a s c sp se o d cu (hpJ 0 B σ l)) Kr=dr 6 (hpJ 0 B σ l) fun u H=>dr 2 H fun v H=>mvX n 1 (σM (iV u) (iV v) s c sp se o d cu H) Kr:=by kernel_rfl
theorem mv_1:mvX n 1 (σM f a s c sp se o d cu (hpJ 0 B σ l)) Kr=dr 2 (hpJ 0 B σ l) fun u H=>req (decide (0 ≤ u)) (nOpt ([str "initial",str "handshake"].map SV.d)[u.toNat]? fun s=>req (decide (u < 100000)) (mvX n 2 (σM f a (some s) c sp se o d cu H) Kr)):=by kernel_rfl
end
end Mine
section
namespace Mine
noncomputable def ifC:Stmt→Expr
  | .If c _ _ _=>c
  | _=>.Name ⟨#[]⟩ default
noncomputable def ifA:Stmt→List Stmt
  | .If _ a _ _=>a
  | _=>[]
noncomputable def mvT (i:Nat):List Stmt:=ifA (stA (bodyA 488) i)
noncomputable abbrev ifK (n i:Nat) (Kr:KF):KF:=fun fl σ1=>onF fl (mvX n (i + 1) σ1 Kr) (Kr .brk σ1) fun u=>Kr (.ret u) σ1
noncomputable abbrev mvA (n i j:Nat) (σ:Sy) (Kr:KF):Prop:=exV T2 (ops T2 (n + 47)) ((mvT i).drop j) σ (ifK n i Kr)
noncomputable abbrev tsX (n i:Nat) (σ:Sy) (K:KB):Prop:=(ops T2 (n + 48)).ts (ifC (stA (bodyA 488) i)) σ K
noncomputable def ifB (n i:Nat) (Kr:KF):KB:=fun t σ1=>tidy 62 σ1 fun σ2=>bite t (mvA n i 0 σ2 Kr) (mvX n (i + 1) σ2 Kr)
noncomputable def orP (c d:Bool) (A C D:Prop):Prop:=bite (c == false) (bite (d == false) A C) D
section
variable {B:Box} {σ:LS} {l:List Dat} {n i:Nat} {Kr:KF} {KB':KB} {t:Bool} {u v w lo:Int} {X:List UInt8} {b k:Bool} {f a s c sp se o d cu:Option SV}
theorem mv_if2:mvX n 2 (σM f a s c sp se o d cu (hpJ 0 B σ l)) Kr=tsX n 2 (σM f a s c sp se o d cu (hpJ 0 B σ l)) (ifB n 2 Kr):=by kernel_rfl
theorem mv_ts2:tsX n 2 (σM (iV u) a s c sp se o d cu (hpJ 0 B σ l)) KB'=orP (decide (u < 3)) l.isEmpty (KB' false (σM (iV u) a s c sp se o d cu (hpJ 0 B σ l ++ [.dlist []]))) (KB' l.isEmpty (σM (iV u) a s c sp se o d cu (hpJ 0 B σ l ++ [.dlist []]))) (KB' (decide (u < 3)) (σM (iV u) a s c sp se o d cu (hpJ 0 B σ l))):=by kernel_rfl
theorem ifB_0:ifB n i Kr t (σM f a s c sp se o d cu (hpJ 0 B σ l))=bite t (mvA n i 0 (σM f a s c sp se o d cu (hpJ 0 B σ l)) Kr) (mvX n (i + 1) (σM f a s c sp se o d cu (hpJ 0 B σ l)) Kr):=by kernel_rfl
theorem ifB_1 {x y:Dat}:ifB n 2 Kr t (σM (some (.d x)) (some (.d y)) (some (.d (spc k))) none none none none none none (hpJ 0 B σ l ++ [.dlist []]))=bite t (mvA n 2 0 (σM (some (.d x)) (some (.d y)) (some (.d (spc k))) none none none none none none (hpJ 0 B σ l)) Kr) (mvX n 3 (σM (some (.d x)) (some (.d y)) (some (.d (spc k))) none none none none none none (hpJ 0 B σ l)) Kr):=by kernel_rfl
noncomputable def mvC (n:Nat) (c:SV) (σ3:Sy) (Kr:KF):Prop:=asgV T2 (ops T2 (n + 47)) (asgT (stA (mvT 2) 0)) c σ3 fun σ4=>mvA n 2 1 σ4 Kr
theorem mv_2a:mvA n 2 0 (σM f (iV (bI b)) (some (.d (spc k))) c sp se o d cu (hpJ 0 B σ l)) Kr=dr 3 (hpJ 0 B σ l) fun u H=>req (decide (0 ≤ u)) (nOpt ([(7:Int),20,90].map fun z=>SV.d (.int z))[u.toNat]? fun m=>req (decide (u < 100000)) (g415 [.obj (outN b k),m] (σM f (iV (bI b)) (some (.d (spc k))) c sp se o d cu H) fun c σ3=>mvC n c σ3 Kr)):=by
  cases b <;> cases k <;> kernel_rfl
theorem mv_2n:mvC n (.d .none) (σM f a s c sp se o d cu (hpJ 0 B σ l)) Kr=Kr (.ret (.d .none)) (σM f a s (some (.d .none)) sp se o d cu (hpJ 0 B σ l)):=by kernel_rfl
theorem mv_2c:mvC n (.d (.tuple [.int lo,byt X])) (σM f (iV (bI b)) (some (.d (spc k))) c sp se o d cu (hpJ 0 B σ l)) Kr=req (Nat.ble l.length 1000) (Kr (.ret (.d .none)) (σM f (iV (bI b)) (some (.d (spc k))) (some (.d (.tuple [.int lo,byt X]))) sp se o d cu (hpJ 0 B σ (l ++ [.tuple [.int (bI b),spc k,.int lo,byt X]])))):=by
  cases b <;> cases k <;> kernel_rfl
end
end Mine
end
namespace Mine
section
variable {B:Box} {σ:LS} {l:List Dat} {n i:Nat} {Kr:KF} {KB':KB} {t:Bool} {u v w z o lo:Int} {X:List UInt8} {b k:Bool} {f a s c sp se of d cu:Option SV}
theorem mv_3:mvX n 3 (σM f a s c sp se of d cu (hpJ 0 B σ l)) Kr=req (Nat.ble l.length 100000) (dr l.length (hpJ 0 B σ l) fun u H=>mvX n 4 (σM f a s c (iV u) se of d cu H) Kr):=by kernel_rfl
noncomputable def mvU (n:Nat) (x:SV) (σ3:Sy) (Kr:KF):Prop:=asgV T2 (ops T2 (n + 48)) (asgT (stA (bodyA 488) 4)) x σ3 fun σ4=>mvX n 5 σ4 Kr
theorem mv_4:mvX n 4 (σM f a s c (iV u) se of d cu (hpJ 0 B σ l)) Kr=req (decide (0 ≤ u)) (nOpt (l.map SV.d)[u.toNat]? fun x=>req (decide (u < 100000)) (mvU n x (σM f a s c (iV u) se of d cu (hpJ 0 B σ l)) Kr)):=by kernel_rfl
theorem mv_4b {e:Int}:mvU n (.d (flD (b,k,o,e))) (σM f a s c sp se of d cu (hpJ 0 B σ l)) Kr=mvX n 5 (σM f a (some (.d (spc k))) c sp (iV (bI b)) (iV o) (some (.d (byt (sl (full b k) o e)))) cu (hpJ 0 B σ l)) Kr:=by kernel_rfl
theorem mv_if5:mvX n 5 (σM f a s c sp se of d cu (hpJ 0 B σ l)) Kr=tsX n 5 (σM f a s c sp se of d cu (hpJ 0 B σ l)) (ifB n 5 Kr):=by kernel_rfl
theorem mv_ts5:tsX n 5 (σM (iV u) a (some (.d (spc k))) c sp (iV (bI b)) of d cu (hpJ 0 B σ l)) KB'=bite (decide (u=5) == false) (g296 [.obj (sdN (!b) + 2),.d (spc k)] (σM (iV u) a (some (.d (spc k))) c sp (iV (bI b)) of d cu (hpJ 0 B σ l)) fun v σ1=>nB v fun r=>bite ((!r) == false) (KB' false σ1) (KB' (!r) σ1)) (KB' (decide (u=5)) (σM (iV u) a (some (.d (spc k))) c sp (iV (bI b)) of d cu (hpJ 0 B σ l))):=by
  cases b <;> cases k <;> kernel_rfl
theorem mv_5a:mvA n 5 0 (σM f a (some (.d (spc k))) c sp (iV (bI b)) (iV o) (some (.d (byt X))) cu (hpJ 0 B σ l)) Kr=req (Nat.ble X.length 100000) (g422 [.obj (outN b k),.d (.int o),.d (.int X.length)] (σM f a (some (.d (spc k))) c sp (iV (bI b)) (iV o) (some (.d (byt X))) cu (hpJ 0 B σ l)) fun v σ1=>mvA n 5 1 σ1 Kr):=by
  cases b <;> cases k <;> kernel_rfl
theorem mv_5b:mvA n 5 1 (σM f a s c (iV u) se of d cu (hpJ 0 B σ l)) Kr=nOpt l[u.toNat]? fun x=>req (Nat.ble l.length 1000) (req (decide (0 ≤ u)) (Kr (.ret (.d .none)) (σM f a s c (iV u) se of d cu (hpJ 0 B σ (l.eraseIdx u.toNat))))):=by kernel_rfl
theorem mv_6:mvX n 6 (σM (iV u) a s c sp se of (some (.d (byt X))) cu (hpJ 0 B σ l)) Kr=bite (decide (u=4)) (req (Nat.ble X.length 100000) (dr X.length (hpJ 0 B σ l) fun w H=>mvX n 7 (σM (iV u) a s c sp se of (some (.d (byt X))) (iV w) H) Kr)) (mvX n 7 (σM (iV u) a s c sp se of (some (.d (byt X))) (iV 0) (hpJ 0 B σ l)) Kr):=by kernel_rfl
theorem mv_7:mvX n 7 (σM f a (some (.d (spc k))) c sp (iV (bI b)) (iV o) (some (.d (byt X))) (iV w) (hpJ 0 B σ l)) Kr=req (Nat.ble X.length 1000) (g467 [.obj (sdN (!b) + 7),.d (spc k),.d (.int (o + w)),.d (byt (cutL X (some w) none))] (σM f a (some (.d (spc k))) c sp (iV (bI b)) (iV o) (some (.d (byt X))) (iV w) (hpJ 0 B σ l)) fun v σ1=>mvX n 8 σ1 Kr):=by
  cases b <;> cases k <;> kernel_rfl
theorem mv_8:mvX n 8 (σM f a s c sp se of d (iV w) (hpJ 0 B σ l)) Kr=bite (decide (w=0)) (mvA n 8 0 (σM f a s c sp se of d (iV w) (hpJ 0 B σ l)) Kr) (Kr .next (σM f a s c sp se of d (iV w) (hpJ 0 B σ l))):=by kernel_rfl
theorem mv_8a:mvA n 8 0 (σM f a (some (.d (spc k))) c sp (iV (bI b)) (iV o) (some (.d (byt X))) cu (hpJ 0 B σ l)) Kr=req (Nat.ble X.length 100000) (g429 [.obj (outN b k),.d (.int o),.d (.int X.length)] (σM f a (some (.d (spc k))) c sp (iV (bI b)) (iV o) (some (.d (byt X))) cu (hpJ 0 B σ l)) fun v σ1=>mvA n 8 1 σ1 Kr):=by
  cases b <;> cases k <;> kernel_rfl
theorem mv_8b:mvA n 8 1 (σM f a s c (iV u) se of d cu (hpJ 0 B σ l)) Kr=nOpt l[u.toNat]? fun x=>req (Nat.ble l.length 1000) (req (decide (0 ≤ u)) (Kr .next (σM f a s c (iV u) se of d cu (hpJ 0 B σ (l.eraseIdx u.toNat))))):=by kernel_rfl
end
theorem eqB_self {b:Bool}:eqB b b=true:=by cases b <;> rfl
theorem eqB_ne {b c:Bool} (h:¬ b=c):eqB b c=false:=by cases b <;> cases c <;> first | rfl | exact absurd rfl h
theorem upd_all {α:Type} {f:Bool→Bool→α} {b k:Bool} {v:α} {P:Bool→Bool→α→Prop} (h1:P b k v) (h2:∀ b' k',¬ (b=b' ∧ k=k')→P b' k' (f b' k')) (b' k':Bool):P b' k' (upd f b k v b' k'):=by
  by_cases h:b=b' ∧ k=k'
  · obtain ⟨rfl,rfl⟩:=h
    unfold upd
    rw [eqB_self,eqB_self]
    exact h1
  · have e:(eqB b b' && eqB k k')=false:=by cases b <;> cases b' <;> cases k <;> cases k' <;> first | rfl | exact absurd ⟨rfl,rfl⟩ h
    unfold upd
    rw [e]
    exact h2 _ _ h
noncomputable def ind (P:Prop):Nat:=@ite Nat P (Classical.propDecidable P) 1 0
theorem ind1 {P:Prop} (h:P):ind P=1:=@if_pos _ (Classical.propDecidable P) h _ _ _
theorem ind0 {P:Prop} (h:¬ P):ind P=0:=@if_neg _ (Classical.propDecidable P) h _ _ _
theorem ind_iff {P Q:Prop} (h:P ↔ Q):ind P=ind Q:=congrArg ind (propext h)
theorem ind_pos {P:Prop} (h:0 < ind P):P:=by
  by_cases c:P
  · exact c
  · rw [ind0 c] at h; exact absurd h (Nat.lt_irrefl 0)
noncomputable abbrev Fly:=Bool × Bool × Int × Int
noncomputable def cov (b k:Bool) (i:Int) (p:Fly):Nat:=ind ((p.1=b ∧ p.2.1=k) ∧ (p.2.2.1 ≤ i ∧ i < p.2.2.2))
noncomputable def fN (b k:Bool) (i:Int):List Fly→Nat
  | []=>0
  | p :: r=>cov b k i p + fN b k i r
theorem fN_app {b k:Bool} {i:Int} {l m:List Fly}:fN b k i (l ++ m)=fN b k i l + fN b k i m:=by
  induction l with
  | nil=>exact (Nat.zero_add _).symm
  | cons p r ih=>show cov b k i p + fN b k i (r ++ m)=cov b k i p + fN b k i r + fN b k i m; rw [ih,Nat.add_assoc]
theorem fN_one {b k:Bool} {i:Int} {p:Fly}:fN b k i [p]=cov b k i p:=rfl
theorem fN_er {b k:Bool} {i:Int} {p:Fly} {l:List Fly}:∀ {j:Nat},l[j]?=some p→fN b k i (l.eraseIdx j) + cov b k i p=fN b k i l:=by
  induction l with
  | nil=>intro j h; cases h
  | cons q r ih =>
    intro j h
    cases j with
    | zero=>cases h; exact Nat.add_comm ..
    | succ j=>show cov b k i q + fN b k i (r.eraseIdx j) + cov b k i p=cov b k i q + fN b k i r; rw [Nat.add_assoc,ih h]
theorem cov_eq {b k:Bool} {i o e:Int}:cov b k i (b,k,o,e)=ind (o ≤ i ∧ i < e):=ind_iff ⟨fun h=>h.2,fun h=>⟨⟨rfl,rfl⟩,h⟩⟩
theorem cov_ne {b k b' k':Bool} {i o e:Int} (h:¬ (b=b' ∧ k=k')):cov b' k' i (b,k,o,e)=0:=ind0 fun q=>h q.1
noncomputable def dN (xs:List (Int × Int)) (i:Int):Nat:=ind (Has xs i)
noncomputable def mvP (S:PS) (b k:Bool) (due acked:List (Int × Int)) (fl:List Fly):PS:=⟨upd S.ch b k { S.ch b k with due:=due,acked:=acked },S.c,S.s,fl⟩
section
variable {S:PS} {b k:Bool} {due acked:List (Int × Int)} {fl:List Fly} {o e:Int}
theorem mvP_told {b' k':Bool}:((mvP S b k due acked fl).ch b' k').told=(S.ch b' k').told:=upd_all (f:=S.ch) (b:=b) (k:=k) (v:={ S.ch b k with due:=due,acked:=acked }) (P:=fun b' k' (c:PCh)=>c.told=(S.ch b' k').told) rfl (fun _ _ _=>rfl) b' k'
theorem mvP_cs {b' k':Bool}:((mvP S b k due acked fl).ch b' k').cs=(S.ch b' k').cs:=upd_all (f:=S.ch) (b:=b) (k:=k) (v:={ S.ch b k with due:=due,acked:=acked }) (P:=fun b' k' (c:PCh)=>c.cs=(S.ch b' k').cs) rfl (fun _ _ _=>rfl) b' k'
theorem Ok.move (h:Ok S) (hd:SpOk (nP S b k) due) (ha:SpOk (nP S b k) acked) (hf:∀ p ∈ fl,0 ≤ p.2.2.1 ∧ p.2.2.1 < p.2.2.2 ∧ p.2.2.2 ≤ nP S p.1 p.2.1):Ok (mvP S b k due acked fl):=
  have c:=h.ch b k
  ⟨fun r=>by
    show stOk (S.st r) _ _
    rw [mvP_told,mvP_told]; exact h.st r,h.role,upd_all (P:=fun b k c=>ChOk (nP S b k) c) ⟨c.told,c.ws,c.wt,c.nd,c.cs,hd,ha⟩ fun b' k' _=>h.ch b' k',hf⟩
theorem arr_st1:(arrP S b k o e).st (!b)=arrS S b k o e:=by cases b <;> rfl
theorem arr_st2:(arrP S b k o e).st b=S.st b:=by cases b <;> rfl
theorem arr_ch1 {k':Bool}:(arrP S b k o e).ch (!b) k'=frsh (!b) k' (S.st (!b)) (arrS S b k o e) (S.ch (!b) k'):=by cases b <;> rfl
theorem arr_ch2 {k':Bool}:(arrP S b k o e).ch b k'=bif eqB k k' then arrC (S.ch b k) o e else S.ch b k':=by cases b <;> rfl
theorem two_b {P:Bool→Prop} (b:Bool) (h1:P b) (h2:P (!b)) (b':Bool):P b':=by cases b <;> cases b' <;> first | exact h1 | exact h2
theorem bif_s {α:Type} (x:Bool) {s a:α} {P:α→Prop} (h1:P s) (h2:P a):P (bif x then s else a):=by cases x <;> assumption
theorem nx_cases {P:HSt→HSt→Prop} (h0:∀ s,P s s) (h1:P .c0 .c1) (h2:P .c1 .c2) (h3:P .c1 .c3) (h4:P .c2 .c3) (h5:P .s0 .s1) (h6:P .s1 .s2) (s:HSt) (k:Bool) (t:Int):P s (nxS s k t):=by
  cases s <;> cases k <;> first | exact h0 _ | exact bif_s (P:=P _) _ (h0 _) ‹_› | exact bif_s (P:=P _) _ (h0 _) (bif_s (P:=P _) _ ‹_› ‹_›)
noncomputable def HSt.n (s:HSt):Nat:=@HSt.rec (fun _=>Nat) 0 1 2 3 0 1 2 s
theorem nx_has {s:HSt} {k k':Bool} {t:Int} (h:s.has k'=true):(nxS s k t).has k'=true:=nx_cases (P:=fun a c=>a.has k'=true→c.has k'=true) (fun _ h=>h) id id (fun _=>rfl) (fun _=>rfl) (fun _=>rfl) id s k t h
theorem nx_n {s:HSt} {k:Bool} {t:Int}:s.n ≤ (nxS s k t).n:=nx_cases (P:=fun a c=>a.n ≤ c.n) (fun _=>Nat.le_refl _) (by decide) (by decide) (by decide) (by decide) (by decide) (by decide) s k t
theorem frsh_told {k':Bool} {s s':HSt} {c:PCh}:(frsh b k' s s' c).told=c.told:=by unfold frsh; cases s'.has k' && !s.has k' <;> rfl
theorem arr_way (hOk:Ok S) (h0:0 ≤ o) (h1:o < e) (h2:e ≤ nP S b k) (b' k':Bool) :
    ((nP (arrP S b k o e) b' k'=nP S b' k' ∧ ((arrP S b k o e).ch b' k').due=(S.ch b' k').due) ∨ (nP S b' k'=0 ∧ nP (arrP S b k o e) b' k'=NN b' k' ∧ ((arrP S b k o e).ch b' k').due=[(0,NN b' k')])) ∧
    ((arrP S b k o e).ch b' k').acked=(S.ch b' k').acked ∧ (∀ i,i ∈ ((arrP S b k o e).ch b' k').cs ↔ i ∈ (S.ch b' k').cs ∨ (b=b' ∧ k=k') ∧ (o ≤ i ∧ i < e)) ∧ ChOk (nP (arrP S b k o e) b' k') ((arrP S b k o e).ch b' k'):=by
  have A:=arrC_ok (hOk.ch b k) h0 h1 h2
  refine two_b (P:=fun b'=>((nP (arrP S b k o e) b' k'=nP S b' k' ∧ ((arrP S b k o e).ch b' k').due=(S.ch b' k').due) ∨ (nP S b' k'=0 ∧ nP (arrP S b k o e) b' k'=NN b' k' ∧ ((arrP S b k o e).ch b' k').due=[(0,NN b' k')])) ∧ ((arrP S b k o e).ch b' k').acked=(S.ch b' k').acked ∧ (∀ i,i ∈ ((arrP S b k o e).ch b' k').cs ↔ i ∈ (S.ch b' k').cs ∨ (b=b' ∧ k=k') ∧ (o ≤ i ∧ i < e)) ∧ ChOk (nP (arrP S b k o e) b' k') ((arrP S b k o e).ch b' k')) b ?_ ?_ b'
  · have en:nP (arrP S b k o e) b k'=nP S b k':=by unfold nP; rw [arr_st2]
    rw [en,arr_ch2]
    by_cases q:k=k'
    · obtain rfl:=q
      rw [eqB_self]
      exact ⟨.inl ⟨rfl,rfl⟩,rfl,fun i=>(A.2 i).trans (or_congr_right ⟨fun h=>⟨⟨rfl,rfl⟩,h⟩,fun h=>h.2⟩),A.1⟩
    · rw [eqB_ne q]
      exact ⟨.inl ⟨rfl,rfl⟩,rfl,fun i=>⟨.inl,fun h=>h.elim id fun h=>absurd h.1.2 q⟩,hOk.ch b k'⟩
  · have nb:¬ (b=(!b) ∧ k=k'):=fun h=>by cases b <;> exact nomatch h.1
    have ci:∀ {cs:List Int} {i:Int},i ∈ cs ↔ i ∈ cs ∨ (b=(!b) ∧ k=k') ∧ (o ≤ i ∧ i < e):=⟨.inl,fun h=>h.elim id fun h=>absurd h.1 nb⟩
    have c:=hOk.ch (!b) k'
    rw [arr_ch1]
    unfold nP at c ⊢
    rw [arr_st1]
    cases x:(S.st (!b)).has k' with
    | true =>
      have y:(arrS S b k o e).has k'=true:=nx_has x
      rw [x] at c
      rw [y,frsh_no (by rw [x,y])]
      exact ⟨.inl ⟨rfl,rfl⟩,rfl,fun i=>ci,c⟩
    | false =>
      rw [x] at c
      cases y:(arrS S b k o e).has k' with
      | false =>
        rw [frsh_no (by rw [x,y])]
        exact ⟨.inl ⟨rfl,rfl⟩,rfl,fun i=>ci,c⟩
      | true =>
        have hn:0 < NN (!b) k':=by cases b <;> cases k' <;> decide
        have e1:frsh (!b) k' (S.st (!b)) (arrS S b k o e) (S.ch (!b) k')={ S.ch (!b) k' with due:=[(0,NN (!b) k')] }:=by unfold frsh; rw [x,y]; rfl
        rw [e1]
        exact ⟨.inr ⟨rfl,rfl,rfl⟩,rfl,fun i=>ci,⟨⟨c.told.1,Int.le_trans c.told.2 (Int.le_of_lt hn)⟩,c.ws.mono (Int.le_of_lt hn),c.wt,c.nd,c.cs,⟨fun p hp=>by
          obtain rfl:=List.mem_singleton.mp hp
          exact ⟨Int.le_refl _,hn,Int.le_refl _⟩,List.pairwise_singleton ..⟩,c.ack.mono (Int.le_of_lt hn)⟩⟩
theorem nx_ok {s:HSt} {k:Bool} {tI tH t:Int} (h:stOk s tI tH) (hr:rdS s k=true) (h1:(@Bool.rec (fun _=>Int) tI tH k) ≤ t) (hn:t ≤ @HSt.rec (fun _=>Int) (@Bool.rec (fun _=>Int) 14 26 k) (@Bool.rec (fun _=>Int) 14 26 k) (@Bool.rec (fun _=>Int) 14 26 k) (@Bool.rec (fun _=>Int) 14 26 k) (@Bool.rec (fun _=>Int) 37 12 k) (@Bool.rec (fun _=>Int) 37 12 k) (@Bool.rec (fun _=>Int) 37 12 k) s) :
    stOk (nxS s k t) (@Bool.rec (fun _=>Int) t tI k) (@Bool.rec (fun _=>Int) tH t k):=by
  have tw:∀ {d:Prop} [Decidable d] {a c:HSt} {x y:Int},(d→stOk a x y)→(¬ d→stOk c x y)→stOk (bif decide d then a else c) x y:=fun {d} _ {a c x y} p q=>by
    by_cases z:d
    · rw [decide_eq_true z]; exact p z
    · rw [decide_eq_false z]; exact q z
  cases s <;> cases k
  · dsimp only at h1 hn
    unfold stOk at h
    dsimp only at h
    refine tw (fun d=>?_) fun d=>?_
    · unfold stOk
      dsimp only
      exact ln [] [_,_,_] [.a (.Lt (.v 0) (.k 14)) (.Eq (.v 1) (.k 0)),.Lt (.v 2) (.k 14)] (.a (.Lt (.v 2) (.k 14)) (.Eq (.v 1) (.k 0))) (.b (.w [1,0,0,0,1]) (.b (.w [0,0,0,1,1]) (.w [0,0,1,0,1]))) zr h d
    · unfold stOk
      dsimp only
      exact ln [] [_,_,_] [.a (.Lt (.v 0) (.k 14)) (.Eq (.v 1) (.k 0)),.Le (.v 2) (.k 14),.n (.Lt (.v 2) (.k 14))] (.a (.Eq (.v 2) (.k 14)) (.Lt (.v 1) (.k 14))) (.b (.w [1,0,0,0,0,1]) (.b (.w [0,1,0,0,0,1]) (.w [0,0,0,1,0,1]))) zr h hn d
  · exact absurd hr Bool.false_ne_true
  · dsimp only at h1 hn
    unfold stOk at h
    dsimp only at h
    unfold nxS stOk
    dsimp only
    exact ln [] [_,_,_] [.a (.Eq (.v 0) (.k 14)) (.Lt (.v 1) (.k 14)),.Le (.v 0) (.v 2),.Le (.v 2) (.k 14)] (.a (.Eq (.v 2) (.k 14)) (.Lt (.v 1) (.k 14))) (.b (.w [0,1,0,1,0,1]) (.b (.w [1,0,0,0,0,1]) (.w [0,0,0,0,1,1]))) zr h h1 hn
  · dsimp only at h1 hn
    unfold stOk at h
    dsimp only at h
    refine tw (fun d=>?_) fun d=>tw (fun d9=>?_) fun d9=>?_
    · unfold stOk
      dsimp only
      exact ln [] [_,_,_] [.a (.Eq (.v 0) (.k 14)) (.Lt (.v 1) (.k 14)),.Lt (.v 2) (.k 14)] (.a (.Eq (.v 0) (.k 14)) (.Lt (.v 2) (.k 14))) (.b (.w [0,0,1,0,1]) (.b (.w [0,1,0,0,1]) (.w [1,0,0,0,1]))) zr h d
    · unfold stOk
      dsimp only
      exact ln [] [_,_,_] [.a (.Eq (.v 0) (.k 14)) (.Lt (.v 1) (.k 14)),.n (.Lt (.v 2) (.k 14)),.Lt (.v 2) (.k 26)] (.a (.Eq (.v 0) (.k 14)) (.a (.Le (.k 14) (.v 2)) (.Lt (.v 2) (.k 26)))) (.b (.w [0,0,0,1,0,1]) (.b (.w [0,0,1,0,0,1]) (.b (.w [0,1,0,0,0,1]) (.w [1,0,0,0,0,1])))) zr h d d9
    · unfold stOk
      dsimp only
      exact ln [] [_,_,_] [.a (.Eq (.v 0) (.k 14)) (.Lt (.v 1) (.k 14)),.Le (.v 2) (.k 26),.n (.Lt (.v 2) (.k 26))] (.a (.Eq (.v 0) (.k 14)) (.Eq (.v 2) (.k 26))) (.b (.w [0,0,0,1,0,1]) (.b (.w [0,0,1,0,0,1]) (.b (.w [1,0,0,0,0,1]) (.w [0,1,0,0,0,1])))) zr h hn d9
  · dsimp only at h1 hn
    unfold stOk at h
    dsimp only at h
    unfold nxS stOk
    dsimp only
    exact ln [] [_,_,_] [.a (.Eq (.v 0) (.k 14)) (.a (.Le (.k 14) (.v 1)) (.Lt (.v 1) (.k 26))),.Le (.v 0) (.v 2),.Le (.v 2) (.k 14)] (.a (.Eq (.v 2) (.k 14)) (.a (.Le (.k 14) (.v 1)) (.Lt (.v 1) (.k 26)))) (.b (.w [0,1,0,1,0,0,1]) (.b (.w [1,0,0,0,0,0,1]) (.b (.w [0,0,0,0,1,0,1]) (.w [0,0,0,0,0,1,1])))) zr h h1 hn
  · dsimp only at h1 hn
    unfold stOk at h
    dsimp only at h
    refine tw (fun d=>?_) fun d=>?_
    · unfold stOk
      dsimp only
      exact ln [] [_,_,_] [.a (.Eq (.v 0) (.k 14)) (.a (.Le (.k 14) (.v 1)) (.Lt (.v 1) (.k 26))),.Le (.v 1) (.v 2),.Lt (.v 2) (.k 26)] (.a (.Eq (.v 0) (.k 14)) (.a (.Le (.k 14) (.v 2)) (.Lt (.v 2) (.k 26)))) (.b (.w [0,0,0,1,0,0,1]) (.b (.w [0,0,1,0,0,0,1]) (.b (.w [0,1,0,0,1,0,1]) (.w [1,0,0,0,0,0,1])))) zr h h1 d
    · unfold stOk
      dsimp only
      exact ln [] [_,_,_] [.a (.Eq (.v 0) (.k 14)) (.a (.Le (.k 14) (.v 1)) (.Lt (.v 1) (.k 26))),.Le (.v 2) (.k 26),.n (.Lt (.v 2) (.k 26))] (.a (.Eq (.v 0) (.k 14)) (.Eq (.v 2) (.k 26))) (.b (.w [0,0,0,1,0,0,1]) (.b (.w [0,0,1,0,0,0,1]) (.b (.w [1,0,0,0,0,0,1]) (.w [0,1,0,0,0,0,1])))) zr h hn d
  · dsimp only at h1 hn
    unfold stOk at h
    dsimp only at h
    unfold nxS stOk
    dsimp only
    exact ln [] [_,_,_] [.a (.Eq (.v 0) (.k 14)) (.Eq (.v 1) (.k 26)),.Le (.v 0) (.v 2),.Le (.v 2) (.k 14)] (.a (.Eq (.v 2) (.k 14)) (.Eq (.v 1) (.k 26))) (.b (.w [0,1,0,1,0,0,1]) (.b (.w [1,0,0,0,0,0,1]) (.b (.w [0,0,0,0,0,1,1]) (.w [0,0,0,0,1,0,1])))) zr h h1 hn
  · dsimp only at h1 hn
    unfold stOk at h
    dsimp only at h
    unfold nxS stOk
    dsimp only
    exact ln [] [_,_,_] [.a (.Eq (.v 0) (.k 14)) (.Eq (.v 1) (.k 26)),.Le (.v 1) (.v 2),.Le (.v 2) (.k 26)] (.a (.Eq (.v 0) (.k 14)) (.Eq (.v 2) (.k 26))) (.b (.w [0,0,0,1,0,0,1]) (.b (.w [0,0,1,0,0,0,1]) (.b (.w [0,1,0,0,0,1,1]) (.w [1,0,0,0,0,0,1])))) zr h h1 hn
  · dsimp only at h1 hn
    unfold stOk at h
    dsimp only at h
    refine tw (fun d=>?_) fun d=>?_
    · unfold stOk
      dsimp only
      exact ln [] [_,_,_] [.a (.Lt (.v 0) (.k 37)) (.Eq (.v 1) (.k 0)),.Lt (.v 2) (.k 37)] (.a (.Lt (.v 2) (.k 37)) (.Eq (.v 1) (.k 0))) (.b (.w [1,0,0,0,1]) (.b (.w [0,0,0,1,1]) (.w [0,0,1,0,1]))) zr h d
    · unfold stOk
      dsimp only
      exact ln [] [_,_,_] [.a (.Lt (.v 0) (.k 37)) (.Eq (.v 1) (.k 0)),.Le (.v 2) (.k 37),.n (.Lt (.v 2) (.k 37))] (.a (.Eq (.v 2) (.k 37)) (.Lt (.v 1) (.k 12))) (.b (.w [1,0,0,0,0,1]) (.b (.w [0,1,0,0,0,1]) (.w [0,0,0,1,0,1]))) zr h hn d
  · exact absurd hr Bool.false_ne_true
  · dsimp only at h1 hn
    unfold stOk at h
    dsimp only at h
    unfold nxS stOk
    dsimp only
    exact ln [] [_,_,_] [.a (.Eq (.v 0) (.k 37)) (.Lt (.v 1) (.k 12)),.Le (.v 0) (.v 2),.Le (.v 2) (.k 37)] (.a (.Eq (.v 2) (.k 37)) (.Lt (.v 1) (.k 12))) (.b (.w [0,1,0,1,0,1]) (.b (.w [1,0,0,0,0,1]) (.w [0,0,0,0,1,1]))) zr h h1 hn
  · dsimp only at h1 hn
    unfold stOk at h
    dsimp only at h
    refine tw (fun d=>?_) fun d=>?_
    · unfold stOk
      dsimp only
      exact ln [] [_,_,_] [.a (.Eq (.v 0) (.k 37)) (.Lt (.v 1) (.k 12)),.Lt (.v 2) (.k 12)] (.a (.Eq (.v 0) (.k 37)) (.Lt (.v 2) (.k 12))) (.b (.w [0,0,1,0,1]) (.b (.w [0,1,0,0,1]) (.w [1,0,0,0,1]))) zr h d
    · unfold stOk
      dsimp only
      exact ln [] [_,_,_] [.a (.Eq (.v 0) (.k 37)) (.Lt (.v 1) (.k 12)),.Le (.v 2) (.k 12),.n (.Lt (.v 2) (.k 12))] (.a (.Eq (.v 0) (.k 37)) (.Eq (.v 2) (.k 12))) (.b (.w [0,0,0,1,0,1]) (.b (.w [0,0,1,0,0,1]) (.b (.w [1,0,0,0,0,1]) (.w [0,1,0,0,0,1])))) zr h hn d
  · dsimp only at h1 hn
    unfold stOk at h
    dsimp only at h
    unfold nxS stOk
    dsimp only
    exact ln [] [_,_,_] [.a (.Eq (.v 0) (.k 37)) (.Eq (.v 1) (.k 12)),.Le (.v 0) (.v 2),.Le (.v 2) (.k 37)] (.a (.Eq (.v 2) (.k 37)) (.Eq (.v 1) (.k 12))) (.b (.w [0,1,0,1,0,0,1]) (.b (.w [1,0,0,0,0,0,1]) (.b (.w [0,0,0,0,0,1,1]) (.w [0,0,0,0,1,0,1])))) zr h h1 hn
  · exact absurd hr Bool.false_ne_true
end
section
variable {S:PS} {b k:Bool} {due acked:List (Int × Int)} {fl:List Fly} {o e:Int}
theorem Ok.arr (hOk:Ok S) (h0:0 ≤ o) (h1:o < e) (h2:e ≤ nP S b k) (hr:rdS (S.st (!b)) k=true):Ok (arrP S b k o e) where
  st:=fun r=>by
    have w:=(arrW_ok (hOk.ch b k) h0 h1 h2).1.told
    have hN:=nP_at hOk (b:=b) (k:=k) (by exact ln [] [_,_,_] [.Le (.k 0) (.v 0),.Lt (.v 0) (.v 1),.Le (.v 1) (.v 2)] (.Lt (.k 0) (.v 2)) (.w [1,1,1,1]) zr h0 h1 h2)
    rw [hN] at w
    refine two_b (P:=fun r=>stOk ((arrP S b k o e).st r) ((arrP S b k o e).ch (!r) false).told ((arrP S b k o e).ch (!r) true).told) (!b) ?_ ?_ r
    · have h:=hOk.st (!b)
      have hro:=hOk.role
      rw [arr_st1]
      rw [Bool.not_not] at h ⊢
      have ec:∀ k',((arrP S b k o e).ch b k').told=@Bool.rec (fun _=>Int) (@Bool.rec (fun _=>Int) (arrW (S.ch b k) o e).1 (S.ch b k').told k') (@Bool.rec (fun _=>Int) (S.ch b k').told (arrW (S.ch b k) o e).1 k') k:=fun k'=>by
        rw [arr_ch2]; cases k <;> cases k' <;> rfl
      have m:=nx_ok (t:=(arrW (S.ch b k) o e).1) h hr (by cases k <;> exact w.1) (by
        cases b with
        | false=>rcases hro.2 with x | x | x <;> rw [show S.st (!false)=_ from x] <;> cases k <;> exact w.2
        | true=>rcases hro.1 with x | x | x | x <;> rw [show S.st (!true)=_ from x] <;> cases k <;> exact w.2)
      rw [ec,ec]
      cases k <;> exact m
    · have h:=hOk.st b
      rw [Bool.not_not,arr_st2,arr_ch1,arr_ch1,frsh_told,frsh_told]
      exact h
  role:=by
    have hro:=hOk.role
    cases b with
    | false=>exact ⟨hro.1,nx_cases (P:=fun a c=>(a=.s0 ∨ a=.s1 ∨ a=.s2)→c=.s0 ∨ c=.s1 ∨ c=.s2) (fun _ h=>h) (fun h=>by simp at h) (fun h=>by simp at h) (fun h=>by simp at h) (fun h=>by simp at h) (fun _=>.inr (.inl rfl)) (fun _=>.inr (.inr rfl)) _ _ _ hro.2⟩
    | true=>exact ⟨nx_cases (P:=fun a c=>(a=.c0 ∨ a=.c1 ∨ a=.c2 ∨ a=.c3)→c=.c0 ∨ c=.c1 ∨ c=.c2 ∨ c=.c3) (fun _ h=>h) (fun _=>.inr (.inl rfl)) (fun _=>.inr (.inr (.inl rfl))) (fun _=>.inr (.inr (.inr rfl))) (fun _=>.inr (.inr (.inr rfl))) (fun h=>by simp at h) (fun h=>by simp at h) _ _ _ hro.1,hro.2⟩
  ch:=fun b' k'=>(arr_way hOk h0 h1 h2 b' k').2.2.2
  fly:=fun p hp=>by
    have h:=hOk.fly p hp
    have c:=(arr_way hOk h0 h1 h2 p.1 p.2.1).1
    rcases c with c | c
    · exact ln [] [_,_,_,_] [.a (.Le (.k 0) (.v 0)) (.a (.Lt (.v 0) (.v 1)) (.Le (.v 1) (.v 2))),.Eq (.v 3) (.v 2)] (.a (.Le (.k 0) (.v 0)) (.a (.Lt (.v 0) (.v 1)) (.Le (.v 1) (.v 3)))) (.b (.w [0,0,1,0,0,1]) (.b (.w [0,0,0,1,0,1]) (.w [0,1,0,0,1,1]))) zr h c.1
    · exact ln [] [_,_,_,_] [.a (.Le (.k 0) (.v 0)) (.a (.Lt (.v 0) (.v 1)) (.Le (.v 1) (.v 2))),.Eq (.v 2) (.k 0)] (.a (.Le (.k 0) (.v 0)) (.a (.Lt (.v 0) (.v 1)) (.Le (.v 1) (.v 3)))) (.b (.w [0,0,1,0,0,1]) (.b (.w [0,0,0,1,0,1]) (.w [1,0,1,1,1]))) zr h c.1
structure Inv (S:PS) (X Y t:Nat):Prop where
  ok:Ok S
  cnt:∀ b k i,0 ≤ i→i < nP S b k→dN (S.ch b k).due i + dN (S.ch b k).acked i + fN b k i S.fly=1
  ack:∀ b k i,Has (S.ch b k).acked i→i ∈ (S.ch b k).cs
  bud:2 * X + 2 * Y + S.fly.length ≤ t
  len:∀ b k,(S.ch b k).due.length ≤ 1 + X
  noY:Y=0→∀ b k,(S.ch b k).acked=[]
theorem Inv.move {X Y X' Y' t t':Nat} (h:Inv S X Y t) (hd:SpOk (nP S b k) due) (ha:SpOk (nP S b k) acked) (hf:∀ p ∈ fl,0 ≤ p.2.2.1 ∧ p.2.2.1 < p.2.2.2 ∧ p.2.2.2 ≤ nP S p.1 p.2.1)
    (hc:∀ i,0 ≤ i→i < nP S b k→dN due i + dN acked i + fN b k i fl=dN (S.ch b k).due i + dN (S.ch b k).acked i + fN b k i S.fly) (hc2:∀ b' k' i,¬ (b=b' ∧ k=k')→fN b' k' i fl=fN b' k' i S.fly)
    (hk:∀ i,Has acked i→i ∈ (S.ch b k).cs) (hb:2 * X' + 2 * Y' + fl.length ≤ t') (hX:X ≤ X') (hl:due.length ≤ 1 + X') (hY:Y'=0→Y=0 ∧ acked=[]):Inv (mvP S b k due acked fl) X' Y' t' where
  ok:=h.ok.move hd ha hf
  cnt:=fun b' k' i h0 h1=>upd_all (f:=S.ch) (b:=b) (k:=k) (v:={ S.ch b k with due:=due,acked:=acked }) (P:=fun b' k' (c:PCh)=>0 ≤ i→i < nP S b' k'→dN c.due i + dN c.acked i + fN b' k' i fl=1) (fun h0 h1=>(hc i h0 h1).trans (h.cnt b k i h0 h1)) (fun b' k' ne h0 h1=>by rw [hc2 b' k' i ne]; exact h.cnt b' k' i h0 h1) b' k' h0 h1
  ack:=fun b' k' i q=>by
    rw [mvP_cs]
    exact upd_all (f:=S.ch) (b:=b) (k:=k) (v:={ S.ch b k with due:=due,acked:=acked }) (P:=fun b' k' (c:PCh)=>Has c.acked i→i ∈ (S.ch b' k').cs) (hk i) (fun b' k' _=>h.ack b' k' i) b' k' q
  bud:=hb
  len:=upd_all (f:=S.ch) (b:=b) (k:=k) (v:={ S.ch b k with due:=due,acked:=acked }) (P:=fun b' k' (c:PCh)=>c.due.length ≤ 1 + X') hl fun b' k' _=>Nat.le_trans (h.len b' k') (Nat.add_le_add_left hX 1)
  noY:=fun y=>upd_all (f:=S.ch) (b:=b) (k:=k) (v:={ S.ch b k with due:=due,acked:=acked }) (P:=fun b' k' (c:PCh)=>c.acked=[]) (hY y).2 fun b' k' _=>h.noY (hY y).1 b' k'
theorem fly_app {p:Fly} {P:Fly→Prop} (h:∀ q ∈ S.fly,P q) (hp:P p):∀ q ∈ S.fly ++ [p],P q:=fun q hq=>(List.mem_append.mp hq).elim (h q) fun e=>List.mem_singleton.mp e ▸ hp
theorem fly_er {j:Nat} {P:Fly→Prop} (h:∀ q ∈ S.fly,P q):∀ q ∈ S.fly.eraseIdx j,P q:=fun q hq=>h q (List.mem_of_mem_eraseIdx hq)
theorem sent_ok {n lo hi x:Int} {r:List (Int × Int)} (h:SpOk n ((lo,hi) :: r)) (h1:lo < x) (h2:x ≤ hi) :
    SpOk n (cutS lo x ((lo,hi) :: r)) ∧ (cutS lo x ((lo,hi) :: r)).length ≤ r.length + 1 ∧ (hi ≤ x→cutS lo x ((lo,hi) :: r)=r) ∧ ∀ i,dN (cutS lo x ((lo,hi) :: r)) i + ind (lo ≤ i ∧ i < x)=dN ((lo,hi) :: r) i:=by
  obtain ⟨hp0,hg0⟩:=h.hd
  have hp:0 ≤ lo ∧ lo < hi ∧ hi ≤ n:=hp0
  have hg:∀ q ∈ r,hi < q.1:=hg0
  have nr:∀ {i},i ≤ hi→¬ Has r i:=fun hi' ⟨q,hq,hh⟩=>by have:=hg q hq; exact ln [] [_,_,_,_] [.Le (.v 0) (.v 1),.a (.Le (.v 2) (.v 0)) (.Lt (.v 0) (.v 3)),.Lt (.v 1) (.v 2)] (.f) (.w [1,1,0,1]) zr hi' hh this
  rw [cutS_front h h1 h2]
  by_cases c:x < hi
  · rw [decide_eq_true c]
    refine ⟨.cons ⟨by dsimp only; exact ln [] [_,_,_,_] [.Lt (.v 0) (.v 1),.a (.Le (.k 0) (.v 0)) (.a (.Lt (.v 0) (.v 2)) (.Le (.v 2) (.v 3)))] (.Le (.k 0) (.v 1)) (.w [1,0,0,1,1]) zr h1 hp0,c,hp.2.2⟩ hg h.tail,Nat.le_refl _,fun h=>by exact (ln [] [_,_] [.Lt (.v 0) (.v 1),.Le (.v 1) (.v 0)] (.f) (.w [1,1]) zr c h).elim,fun i=>?_⟩
    by_cases d:lo ≤ i ∧ i < x
    · rw [ind1 d]
      have e1:¬ Has ((x,hi) :: r) i:=fun q=>(Has.cons.mp q).elim (fun q=>by dsimp only at q; exact ln [] [_,_,_,_] [.a (.Le (.v 0) (.v 1)) (.Lt (.v 1) (.v 2)),.a (.Le (.v 2) (.v 1)) (.Lt (.v 1) (.v 3))] (.f) (.w [1,0,0,1]) zr d q) (nr (by exact ln [] [_,_,_,_] [.Lt (.v 0) (.v 1),.a (.Le (.v 2) (.v 3)) (.Lt (.v 3) (.v 0))] (.Le (.v 3) (.v 1)) (.w [0,1,1,1]) zr c d))
      exact (congrArg (· + 1) (ind0 e1)).trans (ind1 (Has.cons.mpr (.inl ⟨d.1,Int.lt_of_lt_of_le d.2 h2⟩))).symm
    · rw [ind0 d]
      refine ind_iff ?_
      show Has ((x,hi) :: r) i ↔ _
      rw [Has.cons,Has.cons]
      refine or_congr_left ?_
      dsimp only
      exact ⟨fun h=>by exact ln [] [_,_,_,_] [.Lt (.v 0) (.v 1),.a (.Le (.v 1) (.v 2)) (.Lt (.v 2) (.v 3))] (.a (.Le (.v 0) (.v 2)) (.Lt (.v 2) (.v 3))) (.b (.w [1,0,1,1]) (.w [0,1,0,1])) zr h1 h,fun h=>by exact ln [] [_,_,_,_] [.a (.Le (.v 0) (.v 1)) (.Lt (.v 1) (.v 2)),.n (.a (.Le (.v 0) (.v 1)) (.Lt (.v 1) (.v 3)))] (.a (.Le (.v 3) (.v 1)) (.Lt (.v 1) (.v 2))) (.b (.b (.w [1,1]) (.w [1,0,0,1])) (.w [0,1,1])) zr h d⟩
  · rw [decide_eq_false c]
    obtain rfl:x=hi:=by exact ln [] [_,_] [.Le (.v 0) (.v 1),.n (.Lt (.v 0) (.v 1))] (.Eq (.v 0) (.v 1)) (.b (.w [1,0,1]) (.w [0,1,1])) zr h2 c
    refine ⟨h.tail,Nat.le_succ _,fun _=>rfl,fun i=>?_⟩
    by_cases d:lo ≤ i ∧ i < x
    · rw [ind1 d]
      exact (congrArg (· + 1) (ind0 (nr (by exact ln [] [_,_,_] [.a (.Le (.v 0) (.v 1)) (.Lt (.v 1) (.v 2))] (.Le (.v 1) (.v 2)) (.w [0,1,1]) zr d)))).trans (ind1 (Has.cons.mpr (.inl d))).symm
    · rw [ind0 d]
      exact ind_iff ⟨fun q=>Has.cons.mpr (.inr q),fun q=>(Has.cons.mp q).elim (fun q=>absurd q d) id⟩
theorem Inv.send {X Y t:Nat} (h:Inv S X Y t) {lo hi x:Int} {r:List (Int × Int)} (e:(S.ch b k).due=(lo,hi) :: r) (h1:lo < x) (h2:x ≤ hi) :
    Inv (mvP S b k (cutS lo x ((lo,hi) :: r)) (S.ch b k).acked (S.fly ++ [(b,k,lo,x)])) X Y (t + 1):=by
  have hd:=(h.ok.ch b k).due
  have hL:=h.len b k
  rw [e] at hd hL
  have hp:0 ≤ lo ∧ lo < hi ∧ hi ≤ nP S b k:=hd.hd.1
  have m:=sent_ok hd h1 h2
  have hb:=h.bud
  refine h.move m.1 (h.ok.ch b k).ack (fly_app h.ok.fly ⟨hp.1,h1,Int.le_trans h2 hp.2.2⟩) (fun i _ _=>?_) (fun b' k' i ne=>?_) (h.ack b k) ?_ (Nat.le_refl _) (Nat.le_trans m.2.1 hL) fun y=>⟨y,h.noY y b k⟩
  · have:=m.2.2.2 i
    rw [fN_app,fN_one,cov_eq,e]; exact ln [_,_,_,_,_] [] [.eq (.a (.v 0) (.v 1)) (.v 2)] (.eq (.a (.a (.v 0) (.v 3)) (.a (.v 4) (.v 1))) (.a (.a (.v 2) (.v 3)) (.v 4))) (.b (.w [0,1,1]) (.w [1,0,1])) zr this
  · rw [fN_app,fN_one,cov_ne ne]; rfl
  · rw [List.length_append,List.length_singleton]; exact ln [_,_,_,_] [] [.le (.a (.a (.m 2 (.v 0)) (.m 2 (.v 1))) (.v 2)) (.v 3)] (.le (.a (.a (.m 2 (.v 0)) (.m 2 (.v 1))) (.a (.v 2) (.k 1))) (.a (.v 3) (.k 1))) (.w [1,1]) zr hb
theorem fly_at {j:Nat} {p:Fly} {P:Fly→Prop} (h:∀ q ∈ S.fly,P q) (e:S.fly[j]?=some p):P p:=h p (List.mem_of_getElem? e)
theorem Inv.alone {X Y t:Nat} (h:Inv S X Y t) {j:Nat} (ej:S.fly[j]?=some (b,k,o,e)) {i:Int} (hi:o ≤ i ∧ i < e):dN (S.ch b k).due i=0 ∧ dN (S.ch b k).acked i=0:=by
  have hp:0 ≤ o ∧ o < e ∧ e ≤ nP S b k:=fly_at h.ok.fly ej
  have c:=h.cnt b k i (by exact ln [] [_,_,_,_] [.a (.Le (.v 0) (.v 1)) (.Lt (.v 1) (.v 2)),.a (.Le (.k 0) (.v 0)) (.a (.Lt (.v 0) (.v 2)) (.Le (.v 2) (.v 3)))] (.Le (.k 0) (.v 1)) (.w [1,0,0,1,0,1]) zr hi hp) (by exact ln [] [_,_,_,_] [.a (.Le (.v 0) (.v 1)) (.Lt (.v 1) (.v 2)),.a (.Le (.k 0) (.v 0)) (.a (.Lt (.v 0) (.v 2)) (.Le (.v 2) (.v 3)))] (.Lt (.v 1) (.v 3)) (.w [0,0,1,0,1,1]) zr hi hp)
  have f:=fN_er (b:=b) (k:=k) (i:=i) ej
  rw [cov_eq,ind1 hi] at f
  exact ln [_,_,_,_] [] [.eq (.a (.a (.v 0) (.v 1)) (.v 2)) (.k 1),.eq (.a (.v 3) (.k 1)) (.v 2)] (.a (.eq (.v 0) (.k 0)) (.eq (.v 1) (.k 0))) (.b (.w [0,0,0,0,1]) (.b (.w [1,0,1,0,1]) (.b (.w [0,0,0,0,1]) (.w [1,0,1,0,1])))) zr c f
theorem apart_of {xs:List (Int × Int)} {n:Int} (h:SpOk n xs) (h1:o < e) (hn:∀ i,(o ≤ i ∧ i < e)→dN xs i=0):∀ p ∈ xs,p.1 < p.2 ∧ (p.2 ≤ o ∨ e ≤ p.1):=fun p hp=>by
  have hq:=h.each p hp
  refine ⟨hq.2.1,Classical.byContradiction fun c=>?_⟩
  have:=hn (max p.1 o) (by exact ln [] [_,_,_,_] [.Lt (.v 0) (.v 1),.n (.o (.Le (.v 2) (.v 0)) (.Le (.v 1) (.v 3)))] (.a (.Le (.v 0) (.mx (.v 3) (.v 0))) (.Lt (.mx (.v 3) (.v 0)) (.v 1))) (.b (.w [0,0,0,1]) (.b (.w [0,0,0,1,1]) (.b (.w [0,0,1,1]) (.w [0,1,0,1])))) zr h1 c)
  rw [dN,ind1 ⟨p,hp,by exact ln [] [_,_,_,_,_] [.a (.Le (.k 0) (.v 0)) (.a (.Lt (.v 0) (.v 1)) (.Le (.v 1) (.v 2))),.n (.o (.Le (.v 1) (.v 3)) (.Le (.v 4) (.v 0)))] (.a (.Le (.v 0) (.mx (.v 0) (.v 3))) (.Lt (.mx (.v 0) (.v 3)) (.v 1))) (.b (.w [0,0,0,0,0,1,1]) (.b (.w [0,0,0,0,0,1]) (.b (.w [1,0,0,0,0,1]) (.w [0,0,0,1,0,1])))) zr hq c⟩] at this
  cases this
theorem Inv.apart {X Y t:Nat} (h:Inv S X Y t) {j:Nat} (ej:S.fly[j]?=some (b,k,o,e)):(∀ p ∈ (S.ch b k).due,p.1 < p.2 ∧ (p.2 ≤ o ∨ e ≤ p.1)) ∧ ∀ p ∈ (S.ch b k).acked,p.1 < p.2 ∧ (p.2 ≤ o ∨ e ≤ p.1):=by
  have hp:0 ≤ o ∧ o < e ∧ e ≤ nP S b k:=fly_at h.ok.fly ej
  exact ⟨apart_of (h.ok.ch b k).due hp.2.1 fun i q=>(h.alone ej q).1,apart_of (h.ok.ch b k).ack hp.2.1 fun i q=>(h.alone ej q).2⟩
theorem er_len {j:Nat} {p:Fly} (e:S.fly[j]?=some p):(S.fly.eraseIdx j).length + 1=S.fly.length:=by
  obtain ⟨hj,_⟩:=List.getElem?_eq_some_iff.mp e
  rw [List.length_eraseIdx,if_pos hj]; exact ln [_,_] [] [.lt (.v 0) (.v 1)] (.eq (.a (.s (.v 1) (.k 1)) (.k 1)) (.v 1)) (.b (.w [0,1]) (.b (.w [0,1]) (.b (.w [0,1,1]) (.w [1,1])))) zr hj
theorem add_cnt {n:Int} {xs:List (Int × Int)} (A:AddOk n xs o e (addS xs o e)) (hn:∀ i,(o ≤ i ∧ i < e)→dN xs i=0) (i:Int):dN (addS xs o e) i=dN xs i + ind (o ≤ i ∧ i < e):=by
  by_cases d:o ≤ i ∧ i < e
  · rw [hn i d,ind1 d]; exact ind1 ((A.has i).mpr (.inr d))
  · rw [ind0 d]; exact ind_iff ((A.has i).trans ⟨fun h=>h.elim id fun h=>absurd h d,.inl⟩)
theorem Inv.lost {X Y t:Nat} (h:Inv S X Y t) {j:Nat} (ej:S.fly[j]?=some (b,k,o,e)) :
    Inv (mvP S b k (addS (S.ch b k).due o e) (S.ch b k).acked (S.fly.eraseIdx j)) (X + 1) Y (t + 1):=by
  have hp:0 ≤ o ∧ o < e ∧ e ≤ nP S b k:=fly_at h.ok.fly ej
  have A:=addS_ok (h.ok.ch b k).due hp.1 hp.2.1 hp.2.2
  have hb:=h.bud
  have hl:=h.len b k
  have el:=er_len ej
  have f:=fun b' k' i=>fN_er (b:=b') (k:=k') (i:=i) ej
  refine h.move A.ok (h.ok.ch b k).ack (fly_er h.ok.fly) (fun i _ _=>?_) (fun b' k' i ne=>?_) (h.ack b k) (by exact ln [_,_,_,_,_] [] [.le (.a (.a (.m 2 (.v 0)) (.m 2 (.v 1))) (.v 2)) (.v 3),.eq (.a (.v 4) (.k 1)) (.v 2)] (.le (.a (.a (.m 2 (.a (.v 0) (.k 1))) (.m 2 (.v 1))) (.v 4)) (.a (.v 3) (.k 1))) (.w [1,0,1,1]) zr hb el) (Nat.le_succ _) (by have:=A.len; exact ln [_,_,_] [] [.le (.v 0) (.a (.k 1) (.v 1)),.le (.v 2) (.a (.v 0) (.k 1))] (.le (.v 2) (.a (.k 1) (.a (.v 1) (.k 1)))) (.w [1,1,1]) zr hl this) fun y=>⟨y,h.noY y b k⟩
  · have:=f b k i
    rw [cov_eq] at this
    rw [add_cnt A (fun i q=>(h.alone ej q).1)]; exact ln [_,_,_,_,_] [] [.eq (.a (.v 0) (.v 1)) (.v 2)] (.eq (.a (.a (.a (.v 3) (.v 1)) (.v 4)) (.v 0)) (.a (.a (.v 3) (.v 4)) (.v 2))) (.b (.w [0,1,1]) (.w [1,0,1])) zr this
  · have:=f b' k' i
    rw [cov_ne ne] at this
    exact this
theorem Inv.ackd {X Y t:Nat} (h:Inv S X Y t) {j:Nat} (ej:S.fly[j]?=some (b,k,o,e)) (hc:∀ i,(o ≤ i ∧ i < e)→i ∈ (S.ch b k).cs) :
    Inv (mvP S b k (cutS o e (S.ch b k).due) (addS (S.ch b k).acked o e) (S.fly.eraseIdx j)) X (Y + 1) (t + 1):=by
  have hp:0 ≤ o ∧ o < e ∧ e ≤ nP S b k:=fly_at h.ok.fly ej
  have A:=addS_ok (h.ok.ch b k).ack hp.1 hp.2.1 hp.2.2
  have hb:=h.bud
  have hl:=h.len b k
  have el:=er_len ej
  have f:=fun b' k' i=>fN_er (b:=b') (k:=k') (i:=i) ej
  rw [cutS_off (h.apart ej).1 hp.2.1]
  refine h.move (h.ok.ch b k).due A.ok (fly_er h.ok.fly) (fun i _ _=>?_) (fun b' k' i ne=>?_) (fun i q=>((A.has i).mp q).elim (h.ack b k i) (hc i)) (by exact ln [_,_,_,_,_] [] [.le (.a (.a (.m 2 (.v 0)) (.m 2 (.v 1))) (.v 2)) (.v 3),.eq (.a (.v 4) (.k 1)) (.v 2)] (.le (.a (.a (.m 2 (.v 0)) (.m 2 (.a (.v 1) (.k 1)))) (.v 4)) (.a (.v 3) (.k 1))) (.w [1,0,1,1]) zr hb el) (Nat.le_refl _) hl fun y=>absurd y (Nat.succ_ne_zero _)
  · have:=f b k i
    rw [cov_eq] at this
    rw [add_cnt A (fun i q=>(h.alone ej q).2)]; exact ln [_,_,_,_,_] [] [.eq (.a (.v 0) (.v 1)) (.v 2)] (.eq (.a (.a (.v 3) (.a (.v 4) (.v 1))) (.v 0)) (.a (.a (.v 3) (.v 4)) (.v 2))) (.b (.w [0,1,1]) (.w [1,0,1])) zr this
  · have:=f b' k' i
    rw [cov_ne ne] at this
    exact this
theorem Inv.arr {X Y t:Nat} (h:Inv S X Y t) (h0:0 ≤ o) (h1:o < e) (h2:e ≤ nP S b k) (hr:rdS (S.st (!b)) k=true):Inv (arrP S b k o e) X Y t where
  ok:=h.ok.arr h0 h1 h2 hr
  cnt:=fun b' k' i i0 i1=>by
    obtain ⟨w1,w2,w3,w4⟩:=arr_way h.ok h0 h1 h2 b' k'
    rw [w2]
    show _ + _ + fN b' k' i S.fly=1
    rcases w1 with ⟨a,c⟩ | ⟨a,a',c⟩
    · rw [a] at i1
      rw [c]; exact h.cnt b' k' i i0 i1
    · rw [a'] at i1
      have e1:dN [((0:Int),NN b' k')] i=1:=ind1 ⟨_,List.mem_singleton.mpr rfl,i0,i1⟩
      have ha:=(h.ok.ch b' k').ack
      rw [a] at ha
      have e2:(S.ch b' k').acked=[]:=ha.zero
      have e3:dN [] i=0:=ind0 Has.nil
      have e4:∀ {l:List Fly},(∀ p ∈ l,0 ≤ p.2.2.1 ∧ p.2.2.1 < p.2.2.2 ∧ p.2.2.2 ≤ nP S p.1 p.2.1)→fN b' k' i l=0:=fun {l} hl=>by
        induction l with
        | nil=>rfl
        | cons p r ih =>
          have q:=hl p (List.mem_cons_self ..)
          have:cov b' k' i p=0:=ind0 fun z=>by rw [z.1.1,z.1.2,a] at q; exact ln [] [_,_] [.a (.Le (.k 0) (.v 0)) (.a (.Lt (.v 0) (.v 1)) (.Le (.v 1) (.k 0)))] (.f) (.w [1,1,1]) zr q
          show cov b' k' i p + fN b' k' i r=0
          rw [this,ih fun p hp=>hl p (List.mem_cons_of_mem _ hp)]
      rw [c,e1,e2,e3,e4 h.ok.fly]
  ack:=fun b' k' i q=>by
    obtain ⟨w1,w2,w3,w4⟩:=arr_way h.ok h0 h1 h2 b' k'
    rw [w2] at q
    exact (w3 i).mpr (.inl (h.ack b' k' i q))
  bud:=h.bud
  len:=fun b' k'=>by
    rcases (arr_way h.ok h0 h1 h2 b' k').1 with ⟨_,c⟩ | ⟨_,_,c⟩ <;> rw [c]
    · exact h.len b' k'
    · exact Nat.le_add_right 1 X
  noY:=fun y b' k'=>(arr_way h.ok h0 h1 h2 b' k').2.1.trans (h.noY y b' k')
end
theorem nOpt_of {α:Type} {o:Option α} {a:α} {k:α→Prop} (e:o=some a) (h:k a):nOpt o k:=by subst e; exact h
theorem er_map {α β:Type} {f:α→β} {l:List α}:∀ {j:Nat},(l.map f).eraseIdx j=(l.eraseIdx j).map f:=by
  induction l with
  | nil=>intro j; cases j <;> rfl
  | cons a r ih=>intro j; cases j with
    | zero=>rfl
    | succ j=>exact congrArg (f a :: ·) ih
theorem bI_of {v:Int} (h0:0 ≤ v) (h1:v < 2):∃ b,v=bI b:=by
  by_cases c:v=0
  · exact ⟨false,c⟩
  · exact ⟨true,(by exact ln [] [_] [.Le (.k 0) (.v 0),.Lt (.v 0) (.k 2),.n (.Eq (.v 0) (.k 0))] (.Eq (.v 0) (.k 1)) (.b (.b (.w [1,0,1]) (.w [1,0,0,1])) (.w [1,0,1])) zr h0 h1 c:v=1)⟩
theorem bef {c:Bool} {x y:Prop} (h1:c=false→x) (h2:c=true→y):bite (c == false) x y:=by cases c with
  | false=>exact h1 rfl
  | true=>exact h2 rfl
theorem orP_of {c d:Bool} {A C D:Prop} (h1:c=true→D) (h2:c=false→d=true→C) (h3:c=false→d=false→A):orP c d A C D:=bef (fun p=>bef (h3 p) (h2 p)) h1
theorem bite_t {x y:Prop} (h:x):bite true x y:=h
theorem bite_f {x y:Prop} (h:y):bite false x y:=h
theorem ifB_t {B:Box} {σ:LS} {l:List Dat} {n i:Nat} {Kr:KF} {t:Bool} {f a s c sp se o d cu:Option SV} (ht:t=true) (h:mvA n i 0 (σM f a s c sp se o d cu (hpJ 0 B σ l)) Kr):ifB n i Kr t (σM f a s c sp se o d cu (hpJ 0 B σ l)):=by subst ht; exact ifB_0.mpr (bite_t h)
theorem ifB_f {B:Box} {σ:LS} {l:List Dat} {n i:Nat} {Kr:KF} {t:Bool} {f a s c sp se o d cu:Option SV} (ht:t=false) (h:mvX n (i + 1) (σM f a s c sp se o d cu (hpJ 0 B σ l)) Kr):ifB n i Kr t (σM f a s c sp se o d cu (hpJ 0 B σ l)):=by subst ht; exact ifB_0.mpr (bite_f h)
theorem ifB1_t {B:Box} {σ:LS} {l:List Dat} {n:Nat} {Kr:KF} {t k:Bool} {x y:Dat} (ht:t=true) (h:mvA n 2 0 (σM (some (.d x)) (some (.d y)) (some (.d (spc k))) none none none none none none (hpJ 0 B σ l)) Kr):ifB n 2 Kr t (σM (some (.d x)) (some (.d y)) (some (.d (spc k))) none none none none none none (hpJ 0 B σ l ++ [.dlist []])):=by subst ht; exact ifB_1.mpr (bite_t h)
theorem ifB1_f {B:Box} {σ:LS} {l:List Dat} {n:Nat} {Kr:KF} {t k:Bool} {x y:Dat} (ht:t=false) (h:mvX n 3 (σM (some (.d x)) (some (.d y)) (some (.d (spc k))) none none none none none none (hpJ 0 B σ l)) Kr):ifB n 2 Kr t (σM (some (.d x)) (some (.d y)) (some (.d (spc k))) none none none none none none (hpJ 0 B σ l ++ [.dlist []])):=by subst ht; exact ifB_1.mpr (bite_f h)
section
variable {S:PS} {B B0:Box} {σ0:LS} {l0:List Dat} {n X Y t:Nat} {u v w z o e lo:Int} {b k:Bool} {f a s c sp se of d cu:Option SV} {sc:Scope} {loc:List (Str × Option SV)} {K:KV}
noncomputable abbrev TurnK (sc:Scope) (loc:List (Str × Option SV)) (K:KV) (t:Nat):Prop:=∀ B' S' X' Y',okB B'→Inv S' X' Y' t→K (.d .none) ⟨sc,loc,hpJ 0 B' (toLS S') (S'.fly.map flD)⟩
theorem fly_len (h:Inv S X Y t) (ht:t ≤ 100):(S.fly.map flD).length ≤ 100:=by rw [List.length_map]; have:=h.bud; exact ln [_,_,_,_] [] [.le (.v 0) (.k 100),.le (.a (.a (.m 2 (.v 1)) (.m 2 (.v 2))) (.v 3)) (.v 0)] (.le (.v 3) (.k 100)) (.w [1,1,1]) zr ht this
theorem Inv.up {t':Nat} (h:Inv S X Y t) (ht:t ≤ t'):Inv S X Y t':=⟨h.ok,h.cnt,h.ack,Nat.le_trans h.bud ht,h.len,h.noY⟩
theorem sent_go (h:Inv S X Y t) (ht:t ≤ 100) (hB:okB B) (hK:TurnK sc loc K (t + 1)):mvA n 2 0 (σM f (iV (bI b)) (some (.d (spc k))) c sp se of d cu (hpJ 0 B (toLS S) (S.fly.map flD))) (mvK sc loc B0 σ0 l0 K):=by
  refine mv_2a.mpr (dr_go (by decide) hB fun w B1 w0 w1 hB1=>rq (decide_eq_true w0) ?_)
  have hm:∃ m:Int,0 < m ∧ ([(7:Int),20,90].map fun z=>SV.d (.int z))[w.toNat]?=some (.d (.int m)):=by
    by_cases c0:w=0
    · subst c0; exact ⟨7,by decide,rfl⟩
    · by_cases c1:w=1
      · subst c1; exact ⟨20,by decide,rfl⟩
      · obtain rfl:w=2:=by exact ln [] [_] [.Le (.k 0) (.v 0),.Lt (.v 0) (.k 3),.n (.Eq (.v 0) (.k 0)),.n (.Eq (.v 0) (.k 1))] (.Eq (.v 0) (.k 2)) (.b (.b (.w [1,0,1]) (.b (.w [1,1]) (.w [1,0,0,0,1]))) (.w [1,0,1])) zr w0 w1 c0 c1
        exact ⟨90,by decide,rfl⟩
  obtain ⟨m,m0,em⟩:=hm
  refine nOpt_of em (rq (decide_eq_true (by exact ln [] [_] [.Lt (.v 0) (.k 3)] (.Lt (.v 0) (.k 100000)) (.w [1,1]) zr w1)) ⟨0,B1,S,_,b,k,m,rfl,rfl,⟨.inl rfl,h.ok,m0⟩,fun _=>mv_2n.mpr (mv_ret.mpr (hK _ _ _ _ hB1 (h.up (Nat.le_succ t)))),fun lo hi r e=>?_⟩)
  have hd:=(h.ok.ch b k).due
  rw [e] at hd
  have hp:0 ≤ lo ∧ lo < hi ∧ hi ≤ nP S b k:=hd.hd.1
  have m1:=mnV_spec hi (lo + m)
  have I:=h.send e (x:=mnV hi (lo + m)) (by exact ln [] [_,_,_,_,_] [.Lt (.k 0) (.v 0),.a (.Le (.k 0) (.v 1)) (.a (.Lt (.v 1) (.v 2)) (.Le (.v 2) (.v 3))),.a (.Le (.v 4) (.v 2)) (.a (.Le (.v 4) (.a (.v 1) (.v 0))) (.o (.Eq (.v 4) (.v 2)) (.Eq (.v 4) (.a (.v 1) (.v 0)))))] (.Lt (.v 1) (.v 4)) (.b (.w [0,0,0,1,0,1,0,0,1]) (.w [0,0,0,1,0,0,0,1,1])) zr m0 hp m1) m1.1
  refine mv_2c.mpr (rqLe (Nat.le_trans (fly_len h ht) (by decide)) (mv_ret.mpr ?_))
  have el:(S.fly ++ [(b,k,lo,mnV hi (lo + m))]).map flD=S.fly.map flD ++ [.tuple [.int (bI b),spc k,.int lo,byt (sl (full b k) lo (mnV hi (lo + m)))]]:=by rw [List.map_append]; rfl
  rw [← el]
  exact hK B1 _ X Y hB1 I
theorem lost_part (h:Inv S X Y t) (ht:t ≤ 100) (hB:okB B) (hK:TurnK sc loc K (t + 1)) {j:Int} (hj:0 ≤ j) (ej:S.fly[j.toNat]?=some (b,k,o,e)) :
    mvA n 5 0 (σM f a (some (.d (spc k))) c (iV j) (iV (bI b)) (iV o) (some (.d (byt (sl (full b k) o e)))) cu (hpJ 0 B (toLS S) (S.fly.map flD))) (mvK sc loc B0 σ0 l0 K):=by
  have hp:0 ≤ o ∧ o < e ∧ e ≤ nP S b k:=fly_at h.ok.fly ej
  have hN:=nP_at h.ok (b:=b) (k:=k) (by exact ln [] [_,_,_] [.a (.Le (.k 0) (.v 0)) (.a (.Lt (.v 0) (.v 1)) (.Le (.v 1) (.v 2)))] (.Lt (.k 0) (.v 2)) (.w [1,1,1,1]) zr hp)
  have hf:=NN_eq b k
  have hn:=nP_le (b:=b) (k:=k) h.ok
  have hl:=sl_len (D:=full b k) hp.1 (Int.le_of_lt hp.2.1) (by exact ln [_] [_,_,_,_] [.a (.Le (.k 0) (.v 0)) (.a (.Lt (.v 0) (.v 1)) (.Le (.v 1) (.v 2))),.Eq (.v 2) (.v 3),.Eq (.c (.v 0)) (.v 3)] (.Le (.v 1) (.c (.v 0))) (.w [0,1,1,0,0,0,1,1]) zr hp hN hf)
  refine mv_5a.mpr (rqLe (by exact ln [_] [_,_,_] [.a (.Le (.k 0) (.v 0)) (.a (.Lt (.v 0) (.v 1)) (.Le (.v 1) (.v 2))),.a (.Le (.v 2) (.k 37)) (.Le (.k 0) (.v 2)),.Eq (.c (.v 0)) (.s (.v 1) (.v 0))] (.le (.v 0) (.k 100000)) (.w [1,0,1,0,1,0,1,1]) zr hp hn hl) ⟨B,S,_,b,k,o,e,_,rfl,rfl,⟨h.ok,hp.2.1,fun p hp=>((h.apart ej).2 p hp).2,hl⟩,mv_5b.mpr (nOpt_of (a:=flD (b,k,o,e)) ?_ (rqLe (Nat.le_trans (fly_len h ht) (by decide)) (rq (decide_eq_true hj) (mv_ret.mpr ?_))))⟩)
  · rw [List.getElem?_map,ej]; rfl
  · rw [er_map]
    exact hK B _ _ _ hB (h.lost ej)
theorem arr_part (h:Inv S X Y t) (ht:t ≤ 100) (hB:okB B) (hK:TurnK sc loc K (t + 1)) {j:Int} (hj:0 ≤ j) (ej:S.fly[j.toNat]?=some (b,k,o,e)) (hr:rdS (S.st (!b)) k=true) (w0:0 ≤ w) (w1:o + w < e) :
    mvX n 7 (σM f a (some (.d (spc k))) c (iV j) (iV (bI b)) (iV o) (some (.d (byt (sl (full b k) o e)))) (iV w) (hpJ 0 B (toLS S) (S.fly.map flD))) (mvK sc loc B0 σ0 l0 K):=by
  have hp:0 ≤ o ∧ o < e ∧ e ≤ nP S b k:=fly_at h.ok.fly ej
  have hN:=nP_at h.ok (b:=b) (k:=k) (by exact ln [] [_,_,_] [.a (.Le (.k 0) (.v 0)) (.a (.Lt (.v 0) (.v 1)) (.Le (.v 1) (.v 2)))] (.Lt (.k 0) (.v 2)) (.w [1,1,1,1]) zr hp)
  have hf:=NN_eq b k
  have hn:=nP_le (b:=b) (k:=k) h.ok
  have hl:=sl_len (D:=full b k) hp.1 (Int.le_of_lt hp.2.1) (by exact ln [_] [_,_,_,_] [.a (.Le (.k 0) (.v 0)) (.a (.Lt (.v 0) (.v 1)) (.Le (.v 1) (.v 2))),.Eq (.v 2) (.v 3),.Eq (.c (.v 0)) (.v 3)] (.Le (.v 1) (.c (.v 0))) (.w [0,1,1,0,0,0,1,1]) zr hp hN hf)
  have I:=h.arr (o:=o + w) (e:=e) (by exact ln [] [_,_,_,_] [.Le (.k 0) (.v 0),.a (.Le (.k 0) (.v 1)) (.a (.Lt (.v 1) (.v 2)) (.Le (.v 2) (.v 3)))] (.Le (.k 0) (.a (.v 1) (.v 0))) (.w [1,0,0,1,1]) zr w0 hp) w1 hp.2.2 hr
  refine mv_7.mpr (rqLe (by exact ln [_] [_,_,_] [.a (.Le (.k 0) (.v 0)) (.a (.Lt (.v 0) (.v 1)) (.Le (.v 1) (.v 2))),.a (.Le (.v 2) (.k 37)) (.Le (.k 0) (.v 2)),.Eq (.c (.v 0)) (.s (.v 1) (.v 0))] (.le (.v 0) (.k 1000)) (.w [1,0,1,0,1,0,1,1]) zr hp hn hl) ⟨0,B,S,_,b,k,o + w,e,?_,rfl,⟨.inl rfl,h.ok,by exact ln [] [_,_,_,_] [.Le (.k 0) (.v 0),.a (.Le (.k 0) (.v 1)) (.a (.Lt (.v 1) (.v 2)) (.Le (.v 2) (.v 3)))] (.Le (.k 0) (.a (.v 1) (.v 0))) (.w [1,0,0,1,1]) zr w0 hp,w1,hp.2.2,hr⟩,mv_8.mpr (bi (fun c=>?_) fun c=>mv_end.mpr (hK B _ X Y hB (I.up (Nat.le_succ t))))⟩)
  · rw [cutL_lo w0,sl_drop hp.1 w0]
  · obtain rfl:=of_decide_eq_true c
    rw [Int.add_zero] at I ⊢
    have w3:=(arr_way h.ok hp.1 hp.2.1 hp.2.2 b k).2.2.1
    refine mv_8a.mpr (rqLe (by exact ln [_] [_,_,_] [.a (.Le (.k 0) (.v 0)) (.a (.Lt (.v 0) (.v 1)) (.Le (.v 1) (.v 2))),.a (.Le (.v 2) (.k 37)) (.Le (.k 0) (.v 2)),.Eq (.c (.v 0)) (.s (.v 1) (.v 0))] (.le (.v 0) (.k 100000)) (.w [1,0,1,0,1,0,1,1]) zr hp hn hl) ⟨B,arrP S b k o e,_,b,k,o,e,_,rfl,rfl,⟨I.ok,hp.2.1,hl⟩,mv_8b.mpr (nOpt_of (a:=flD (b,k,o,e)) ?_ (rqLe (Nat.le_trans (fly_len h ht) (by decide)) (rq (decide_eq_true hj) (mv_end.mpr ?_))))⟩)
    · rw [List.getElem?_map,ej]; rfl
    · rw [er_map]
      exact hK B _ _ _ hB (I.ackd (show (arrP S b k o e).fly[j.toNat]?=_ from ej) fun i q=>(w3 i).mpr (.inr ⟨⟨rfl,rfl⟩,q⟩))
theorem rest_go (h:Inv S X Y t) (ht:t ≤ 100) (hB:okB B) (hK:TurnK sc loc K (t + 1)) (hf:0 < S.fly.length) :
    mvX n 3 (σM (iV u) a s c sp se of d cu (hpJ 0 B (toLS S) (S.fly.map flD))) (mvK sc loc B0 σ0 l0 K):=by
  have hl:=fly_len h ht
  refine mv_3.mpr (rqLe (Nat.le_trans hl (by decide)) ?_)
  rw [List.length_map] at hl ⊢
  refine dr_go (by exact ln [_] [] [.lt (.k 0) (.v 0)] (.Lt (.k 0) (.c (.v 0))) (.w [1,1]) zr hf) hB fun j B1 j0 j1 hB1=>mv_4.mpr (rq (decide_eq_true j0) ?_)
  have hj:j.toNat < S.fly.length:=by exact ln [_] [_] [.lt (.k 0) (.v 0),.Lt (.v 0) (.c (.v 0))] (.lt (.t (.v 0)) (.v 0)) (.b (.w [1,0,1]) (.w [0,1,1])) zr hf j1
  obtain ⟨⟨b,k,o,e⟩,ep⟩:∃ p,S.fly[j.toNat]?=some p:=⟨_,List.getElem?_eq_getElem hj⟩
  refine nOpt_of (a:=.d (flD (b,k,o,e))) (by rw [List.getElem?_map,List.getElem?_map,ep]; rfl) (rq (decide_eq_true (by exact ln [_] [_] [.le (.v 0) (.k 100),.Lt (.v 0) (.c (.v 0))] (.Lt (.v 0) (.k 100000)) (.w [1,1,1]) zr hl j1)) (mv_4b.mpr (mv_if5.mpr (mv_ts5.mpr ?_))))
  have lp:mvA n 5 0 (σM (iV u) a (some (.d (spc k))) c (iV j) (iV (bI b)) (iV o) (some (.d (byt (sl (full b k) o e)))) cu (hpJ 0 B1 (toLS S) (S.fly.map flD))) (mvK sc loc B0 σ0 l0 K):=lost_part h ht hB1 hK j0 ep
  refine bef (fun _=>⟨0,B1,S,_,!b,k,rfl,rfl,.inl rfl,bef (fun hr=>ifB_f rfl (mv_6.mpr ?_)) fun q=>ifB_t q lp⟩) fun q=>ifB_t q lp
  have hr:rdS (S.st (!b)) k=true:=by cases x:rdS (S.st (!b)) k with
    | true=>rfl
    | false=>rw [x] at hr; cases hr
  have hp:0 ≤ o ∧ o < e ∧ e ≤ nP S b k:=fly_at h.ok.fly ep
  have hN:=nP_at h.ok (b:=b) (k:=k) (by exact ln [] [_,_,_] [.a (.Le (.k 0) (.v 0)) (.a (.Lt (.v 0) (.v 1)) (.Le (.v 1) (.v 2)))] (.Lt (.k 0) (.v 2)) (.w [1,1,1,1]) zr hp)
  have hf:=NN_eq b k
  have hn:=nP_le (b:=b) (k:=k) h.ok
  have hs:=sl_len (D:=full b k) hp.1 (Int.le_of_lt hp.2.1) (by exact ln [_] [_,_,_,_] [.a (.Le (.k 0) (.v 0)) (.a (.Lt (.v 0) (.v 1)) (.Le (.v 1) (.v 2))),.Eq (.v 2) (.v 3),.Eq (.c (.v 0)) (.v 3)] (.Le (.v 1) (.c (.v 0))) (.w [0,1,1,0,0,0,1,1]) zr hp hN hf)
  exact bi (fun _=>rqLe (by exact ln [_] [_,_,_] [.a (.Le (.k 0) (.v 0)) (.a (.Lt (.v 0) (.v 1)) (.Le (.v 1) (.v 2))),.a (.Le (.v 2) (.k 37)) (.Le (.k 0) (.v 2)),.Eq (.c (.v 0)) (.s (.v 1) (.v 0))] (.le (.v 0) (.k 100000)) (.w [1,0,1,0,1,0,1,1]) zr hp hn hs) (dr_go (by exact ln [_] [_,_,_] [.a (.Le (.k 0) (.v 0)) (.a (.Lt (.v 0) (.v 1)) (.Le (.v 1) (.v 2))),.Eq (.c (.v 0)) (.s (.v 1) (.v 0))] (.Lt (.k 0) (.c (.v 0))) (.w [0,1,0,1,0,1]) zr hp hs) hB1 fun w B2 w0 w1 hB2=>arr_part h ht hB2 hK j0 ep hr w0 (by exact ln [_] [_,_,_] [.Eq (.c (.v 0)) (.s (.v 0) (.v 1)),.Lt (.v 2) (.c (.v 0))] (.Lt (.a (.v 1) (.v 2)) (.v 0)) (.w [1,1,0,1]) zr hs w1))) fun _=>arr_part h ht hB1 hK j0 ep hr (Int.le_refl 0) (by exact ln [] [_,_,_] [.a (.Le (.k 0) (.v 0)) (.a (.Lt (.v 0) (.v 1)) (.Le (.v 1) (.v 2)))] (.Lt (.a (.v 0) (.k 0)) (.v 1)) (.w [0,1,0,1]) zr hp)
theorem moved_go (h:Inv S X Y t) (ht:t ≤ 100) (hB:okB B) (hK:TurnK sc loc K (t + 1)):(ops T2 (n + 50)).cl (.ref 488) [.obj 1,sdV,.obj 61] ⟨sc,loc,hpJ 0 B (toLS S) (S.fly.map flD)⟩ K:=by
  refine mv_in.mpr (mv_0.mpr (dr_go (by decide) hB fun u B1 u0 u1 hB1=>dr_go (by decide) hB1 fun v B2 v0 v1 hB2=>mv_1.mpr (dr_go (by decide) hB2 fun x B3 x0 x1 hB3=>rq (decide_eq_true x0) ?_)))
  obtain ⟨b,rfl⟩:=bI_of v0 v1
  obtain ⟨k,rfl⟩:=bI_of x0 x1
  refine nOpt_of (a:=.d (spc k)) (by cases k <;> rfl) (rq (by cases k <;> rfl) (mv_if2.mpr (mv_ts2.mpr ?_)))
  refine orP_of (fun q=>ifB_t q ?_) (fun _ q=>ifB1_t q ?_) fun _ q=>ifB1_f rfl ?_
  · exact sent_go h ht hB3 hK
  · exact sent_go h ht hB3 hK
  · exact rest_go h ht hB3 hK (by cases ef:S.fly with
      | nil=>rw [ef] at q; cases q
      | cons p r=>exact Nat.zero_lt_succ _)
end
noncomputable def σP (ds:List Dat) (B:Box):Sy:=⟨lawR.scope,locL B.sd ds,boxH B⟩
end Mine
section
namespace Mine
noncomputable def g488:GS:=fun args σ K=>∃ B S X Y t,args=[.obj 1,sdV,.obj 61] ∧ σ.hp=hpJ 0 B (toLS S) (S.fly.map flD) ∧ (Inv S X Y t ∧ t ≤ 100 ∧ okB B) ∧ TurnK σ.sc σ.loc K (t + 1)
noncomputable def T3:Tab:=tab (fun a=>lookN a ((488,g488) :: (lawL ++ pureL.map fun p=>(p.1,spA p.2)))) (some gTry) fzL fgR
noncomputable abbrev O1 (o:Ops):Ops:=stepOps T3 o
noncomputable abbrev O2 (o:Ops):Ops:=stepOps T3 (stepOps T3 o)
noncomputable def lawB:List Stmt:=lawR.body.take 13
noncomputable abbrev lwX (o:Ops) (i:Nat) (σ:Sy) (K:KF):Prop:=exV T3 (O2 o) (lawB.drop i) σ K
noncomputable def lwK (o:Ops) (i:Nat) (K:KF):KF:=fun fl σ1=>onF fl (lwX o i σ1 K) (K .brk σ1) fun u=>K (.ret u) σ1
noncomputable def tnB:List Stmt:=forB (stA lawR.body 7)
noncomputable def rdB:List Stmt:=forB (stA lawR.body 8)
noncomputable def s0B:List Stmt:=forB (stA rdB 0)
noncomputable def p0B:List Stmt:=forB (stA s0B 0)
noncomputable def d0B:List Stmt:=forB (stA rdB 2)
noncomputable def lpF (o:Ops) (s:Stmt) (n:Nat) (dr:List Str) (l:List SV) (σ:Sy) (K:KF):Prop:=forV (asgV T3 o (forT s)) (o.ex (forB s)) n dr l σ K
noncomputable def lpK (o:Ops) (s:Stmt) (n:Nat) (dr:List Str) (r:List SV) (K:KF):KF:=fun fl σ2=>onF fl (trim n (dropL dr σ2) fun σ3=>lpF o s n dr r σ3 K) (K .next σ2) fun u=>K (.ret u) σ2
noncomputable def tnL (o:Ops) (l:List SV) (σ:Sy) (K:KF):Prop:=lpF (O2 o) (stA lawR.body 7) 62 (nm ["turn"]) l σ K
noncomputable def tnK (o:Ops) (r:List SV) (K:KF):KF:=lpK (O2 o) (stA lawR.body 7) 62 (nm ["turn"]) r K
noncomputable def rdN:List Str:=nm ["turn","at","side","space","chunk","waiting","sender","offset","data"]
noncomputable def rdL (o:Ops) (l:List SV) (σ:Sy) (K:KF):Prop:=lpF (O2 o) (stA lawR.body 8) 62 rdN l σ K
noncomputable def rdK (o:Ops) (r:List SV) (K:KF):KF:=lpK (O2 o) (stA lawR.body 8) 62 rdN r K
noncomputable abbrev oV (n:Nat):Option SV:=some (.obj n)
noncomputable abbrev dV (d:Dat):Option SV:=some (.d d)
noncomputable def lpN (o:Ops) (σ:Sy) (K:KF):Prop:=lpF (O2 o) (stA lawR.body 7) σ.hp.length (nm ["turn"]) (rngL 1 10 0) σ K
noncomputable def forI:Stmt→Expr
  | .For _ i _ _ _=>i
  | _=>.Name ⟨#[]⟩ default
noncomputable def sideU (n:Nat) (b:Bool) (s:HSt) (D:List UInt8) (du:SV) (g:SO):List SO:=[
  .ddict (cfgA b),
  .attrs [(strS "role",.d (role b)),(strS "config",.obj n),(strS "state",.d (str s.state)),(strS "transcript",.d (byt s.tr)),(strS "rests",.obj (n + 3)),(strS "keys",.obj (n + 4)),(strS "events",.obj (n + 5)),(strS "peer_params",.d .none),(strS "protocol",.d .none),(strS "is_complete",.d (.bool false)),(strS "is_confirmed",.d (.bool false)),(strS "dropped",.obj (n + 6))],
  .inst 306 (n + 1),.ddict [(strS "initial",byt []),(strS "handshake",byt []),(strS "application",byt [])],.ddict [],.dlist [],.dlist [],
  .dict [(strS "here",.obj (n + 2)),(strS "in",.obj (n + 15)),(strS "out",.obj (n + 25)),(strS "came",.obj (n + 26))],
  .attrs [(strS "limit",.d (.int 200)),(strS "told",.d (.int 0)),(strS "waiting",.obj (n + 10))],.inst 383 (n + 8),.dlist [],
  .attrs [(strS "limit",.d (.int 200)),(strS "told",.d (.int 0)),(strS "waiting",.obj (n + 13))],.inst 383 (n + 11),.dlist [],
  .list [.tup [.d (str "initial"),.obj (n + 9)],.tup [.d (str "handshake"),.obj (n + 12)]],.dict (eI (.obj (n + 9)) (.obj (n + 12))),
  .attrs [(strS "data",.d (byt D)),(strS "due",du),(strS "acked",.obj (n + 19))],.inst 439 (n + 16),g,.dlist [],
  .attrs [(strS "data",.d (byt [])),(strS "due",.obj (n + 22)),(strS "acked",.obj (n + 23))],.inst 439 (n + 20),.dlist [],.dlist [],
  .list [.tup [.d (str "initial"),.obj (n + 17)],.tup [.d (str "handshake"),.obj (n + 21)]],.dict (eI (.obj (n + 17)) (.obj (n + 21))),
  .dict (eI (.obj (n + 27)) (.obj (n + 28))),.dlist [],.dlist []]
noncomputable def σ7 (ds:List Dat) (B:Box) (du:List (Int × Int)):Sy:=⟨lawR.scope,[(strS "script",some (.d (.list ds))),(strS "seed",some (.d (.int B.sd))),(strS "one",none),(strS "box",some (.obj 1)),(strS "client",some (.obj 9)),(strS "server",some (.obj 38)),(strS "sides",some (.obj 60)),(strS "flying",some (.obj 61)),(strS "turn",none),(strS "at",none),(strS "side",none),(strS "space",none),(strS "chunk",none),(strS "waiting",none),(strS "sender",none),(strS "offset",none),(strS "data",none),(strS "ends",none),(strS "e",none)],
  boxH B ++ sideU 2 false .c0 chM (dsL (du.map spX)) .gone ++ sideU 31 true .s0 [] (.obj 49) (.dlist []) ++ [.list [.obj 9,.obj 38],.dlist []]⟩
noncomputable abbrev o58:Ops:=ops T3 58
noncomputable def ovS (K:KF) (σ:Sy):Prop:=overS (O2 o58) (forT (stA lawR.body 7)) (forI (stA lawR.body 7)) σ fun l σ2=>lpF (O2 o58) (stA lawR.body 7) σ2.hp.length (nm ["turn"]) l σ2 (lwK o58 8 K)
noncomputable def tnQ (r:List SV) (K:KF):KV:=fun v σ1=>nB v fun b=>tidy 62 σ1 fun σ2=>bite (!b) (tnK o58 r K (.ret (.d (.bool false))) σ2) (tnK o58 r K .next σ2)
section
variable {ds:List Dat} {sd:Int} {B:Box} {L:LS} {l:List Dat} {K:KF} {r:List SV} {z:Int} {fl tu a si sp ch wa se off da en:Option SV}
theorem lw_7a {σ:Sy}:lwX o58 7 σ K=ovS K (dropL (nm ["turn"]) (frzAll (fzL 434) σ)):=by kernel_rfl
theorem lw_7b:ovS K (σW ds sd fl tu a si sp ch wa se off da en (hpJ 0 B L l))=lpN o58 (σW ds sd fl tu a si sp ch wa se off da en (hpJ 0 B L l)) (lwK o58 8 K):=by kernel_rfl
theorem frz_7 {du:List (Int × Int)}:dropL (nm ["turn"]) (frzAll (fzL 434) (σ7 ds B du))=σW ds B.sd (oV 61) none none none none none none none none none none (hpJ 0 B (upCh LS0 false false ⟨du,[],0,[],[]⟩) []):=by kernel_rfl
theorem lpN_0:lpN o58 (σW ds sd fl tu a si sp ch wa se off da en (hpJ 0 B L l)) K=tnL o58 (rngL 1 10 0) (σW ds sd fl tu a si sp ch wa se off da en (hpJ 0 B L l)) K:=by kernel_rfl
theorem prologue3:exV T3 (O2 o58) ((lawR.body.drop 3).take 4) (σP ds B) K=putR 37 fun du=>K .next (σ7 ds B du):=by kernel_rfl
theorem tn_step:tnL o58 (.d (.int z) :: r) (σW ds sd (oV 61) tu none none none none none none none none none (hpJ 0 B L l)) K=g488 [.obj 1,sdV,.obj 61] (σW ds sd (oV 61) (dV (.int z)) none none none none none none none none none (hpJ 0 B L l)) fun _ σ1=>exV T3 (O1 o58) (tnB.drop 1) σ1 (tnK o58 r K):=by kernel_rfl
theorem tn_fair:exV T3 (O1 o58) (tnB.drop 1) (σW ds sd (oV 61) tu none none none none none none none none none (hpJ 0 B L l)) (tnK o58 r K)=g481 [.obj 9,.obj 38] (σW ds sd (oV 61) tu none none none none none none none none none (hpJ 0 B L l)) (tnQ r K):=by kernel_rfl
theorem tn_q:tnQ r K (.d (.bool true)) (σW ds sd (oV 61) tu none none none none none none none none none (hpJ 0 B L l))=tnL o58 r (σW ds sd (oV 61) none none none none none none none none none none (hpJ 0 B L l)) K:=by kernel_rfl
theorem lw_8:lwX o58 8 (σW ds sd (oV 61) none none none none none none none none none none (hpJ 0 B L l)) K=rdL o58 (rngL 1 8 0) (σW ds sd (oV 61) none none none none none none none none none none (hpJ 0 B L l)) (lwK o58 9 K):=by kernel_rfl
end
end Mine
end
section
namespace Mine
noncomputable def ifE:Stmt→List Stmt
  | .If _ _ b _=>b
  | _=>[]
noncomputable abbrev rdX (i:Nat) (σ:Sy) (Kr:KF):Prop:=exV T3 (ops T3 59) (rdB.drop i) σ Kr
noncomputable def rk (i:Nat) (Kr:KF):KF:=fun fl σ1=>onF fl (rdX i σ1 Kr) (Kr .brk σ1) fun u=>Kr (.ret u) σ1
noncomputable def sdW:List Str:=nm ["at","side","space","chunk"]
noncomputable def sdL (j:Nat) (l:List SV) (σ:Sy) (K:KF):Prop:=lpF (ops T3 59) (stA rdB 0) (62 + j) sdW l σ K
noncomputable def sdK (j:Nat) (r:List SV) (K:KF):KF:=lpK (ops T3 59) (stA rdB 0) (62 + j) sdW r K
noncomputable def sdK1 (j:Nat) (r:List SV) (K:KF):KF:=fun fl σ1=>onF fl (exV T3 (ops T3 58) (s0B.drop 1) σ1 (sdK j r K)) (sdK j r K .brk σ1) fun u=>sdK j r K (.ret u) σ1
noncomputable def pcN:List Str:=nm ["space","chunk"]
noncomputable def pcL (j:Nat) (l:List SV) (σ:Sy) (K:KF):Prop:=lpF (ops T3 58) (stA s0B 0) (62 + j) pcN l σ K
noncomputable def pcK (j:Nat) (r:List SV) (K:KF):KF:=lpK (ops T3 58) (stA s0B 0) (62 + j) pcN r K
noncomputable def pcC (j:Nat) (c:SV) (r:List SV) (σ1:Sy) (K:KF):Prop:=asgV T3 (ops T3 57) (asgT (stA p0B 0)) c σ1 fun σ2=>exV T3 (ops T3 57) (p0B.drop 1) σ2 (pcK j r K)
noncomputable def dlN:List Str:=nm ["sender","space","offset","data"]
noncomputable def dlL (j:Nat) (l:List SV) (σ:Sy) (K:KF):Prop:=lpF (ops T3 59) (stA rdB 2) (63 + j) dlN l σ K
noncomputable def dlK (j:Nat) (r:List SV) (K:KF):KF:=lpK (ops T3 59) (stA rdB 2) (63 + j) dlN r K
noncomputable def dlK1 (j:Nat) (r:List SV) (K:KF):KF:=fun fl σ1=>onF fl (exV T3 (ops T3 58) (d0B.drop 1) σ1 (dlK j r K)) (dlK j r K .brk σ1) fun u=>dlK j r K (.ret u) σ1
section
variable {ds:List Dat} {sd:Int} {B:Box} {L:LS} {l w:List Dat} {K Kr:KF} {F:Sy→Prop} {r:List SV} {z o e lo:Int} {b k:Bool} {j:Nat} {X:List UInt8} {fl tu a si sp ch wa se off da en:Option SV}
noncomputable abbrev σS (ds:List Dat) (sd:Int) (j:Nat) (z:Int) (b:Bool) (sp ch:Option SV) (H:List SO):Sy:=σW ds sd (oV (61 + j)) (dV (.int z)) (dV (.int (bI b))) (oV (sdN b + 7)) sp ch none none none none none H
noncomputable abbrev σR (ds:List Dat) (sd:Int) (j:Nat) (tu:Option SV) (H:List SO):Sy:=σW ds sd (oV (61 + j)) tu none none none none none none none none none H
noncomputable abbrev σD (ds:List Dat) (sd:Int) (j:Nat) (fl:List Dat) (z:Int) (sp se off da:Option SV) (H:List SO):Sy:=σW ds sd (dV (.list fl)) (dV (.int z)) none none sp none (oV (62 + j)) se off da none H
noncomputable def en2:List SV:=[.tup [.d (.int 0),.obj 9],.tup [.d (.int 1),.obj 38]]
theorem rd_step (hj:j=0 ∨ j=1):rdL o58 (.d (.int z) :: r) (σR ds sd j none (hpJ j B L l)) K=sdL j en2 (σR ds sd j (dV (.int z)) (hpJ j B L l)) (rk 1 (rdK o58 r K)):=by
  rcases hj with rfl | rfl <;> kernel_rfl
theorem sd_step (hj:j=0 ∨ j=1):sdL j (.tup [.d (.int (bI b)),.obj (sdN b + 7)] :: r) (σR ds sd j (dV (.int z)) (hpJ j B L l)) K=pcL j [.d (spc false),.d (spc true)] (σS ds sd j z b none none (hpJ j B L l)) (sdK1 j r K):=by
  rcases hj with rfl | rfl <;> kernel_rfl
theorem pc_step (hj:j=0 ∨ j=1):pcL j (.d (spc k) :: r) (σS ds sd j z b none none (hpJ j B L l)) K=g415 [.obj (outN b k),.d (.int 200)] (σS ds sd j z b (dV (spc k)) none (hpJ j B L l)) fun c σ1=>pcC j c r σ1 K:=by
  rcases hj with rfl | rfl <;> cases b <;> cases k <;> kernel_rfl
theorem pc_none (hj:j=0 ∨ j=1):pcC j (.d .none) r (σS ds sd j z b (dV (spc k)) none (hpJ j B L l)) K=pcL j r (σS ds sd j z b none none (hpJ j B L l)) K:=by
  rcases hj with rfl | rfl <;> cases b <;> kernel_rfl
theorem pc_some (hj:j=0 ∨ j=1):pcC j (.d (.tuple [.int lo,byt X])) r (σS ds sd j z b (dV (spc k)) none (hpJ j B L l)) K=req (Nat.ble l.length 1000) (pcL j r (σS ds sd j z b none none (hpJ j B L (l ++ [.tuple [.int (bI b),spc k,.int lo,byt X]]))) K):=by
  rcases hj with rfl | rfl <;> cases b <;> cases k <;> kernel_rfl
theorem pc_end (hj:j=0 ∨ j=1):pcL j [] (σS ds sd j z b none none (hpJ j B L l)) (sdK1 j r K)=sdL j r (σR ds sd j (dV (.int z)) (hpJ j B L l)) K:=by
  rcases hj with rfl | rfl <;> cases b <;> kernel_rfl
theorem sd_end {σ:Sy}:sdL j [] σ (rk 1 Kr)=rdX 1 σ Kr:=by kernel_rfl
theorem rd_1 (hj:j=0 ∨ j=1):rdX 1 (σR ds sd j (dV (.int z)) (hpJ j B L l)) Kr=dlL j (l.map .d) (σD ds sd j l z none none none none (hpJ (j + 1) B L [])) (rk 3 Kr):=by
  rcases hj with rfl | rfl <;> kernel_rfl
end
end Mine
end
namespace Mine
section
variable {ds fl:List Dat} {sd:Int} {B:Box} {L:LS} {l w:List Dat} {K Kr Kx:KF} {F:Sy→Prop} {r:List SV} {z o e lo:Int} {b k:Bool} {j:Nat} {X:List UInt8}
noncomputable abbrev σE (ds:List Dat) (sd:Int) (j:Nat) (fl:List Dat) (z:Int) (b k:Bool) (o:Int) (X:List UInt8) (H:List SO):Sy:=σD ds sd j fl z (dV (spc k)) (dV (.int (bI b))) (dV (.int o)) (dV (byt X)) H
theorem dl_step (hj:j=0 ∨ j=1):dlL j (.d (flD (b,k,o,e)) :: r) (σD ds sd j fl z none none none none (hpJ (j + 1) B L w)) K=g296 [.obj (sdN (!b) + 2),.d (spc k)] (σE ds sd j fl z b k o (sl (full b k) o e) (hpJ (j + 1) B L w)) fun v σ1=>nB v fun t=>tidy (63 + j) σ1 fun σ2=>bite t (exV T3 (ops T3 57) (ifA (stA d0B 0)) σ2 (dlK1 j r K)) (exV T3 (ops T3 57) (ifE (stA d0B 0)) σ2 (dlK1 j r K)):=by
  rcases hj with rfl | rfl <;> cases b <;> kernel_rfl
theorem tidy_j (hj:j=0 ∨ j=1):tidy (63 + j) (σE ds sd j fl z b k o X (hpJ (j + 1) B L w)) F=F (σE ds sd j fl z b k o X (hpJ (j + 1) B L w)):=by
  rcases hj with rfl | rfl <;> kernel_rfl
theorem dl_arr (hj:j=0 ∨ j=1):exV T3 (ops T3 57) (ifA (stA d0B 0)) (σE ds sd j fl z b k o X (hpJ (j + 1) B L w)) Kx=g467 [.obj (sdN (!b) + 7),.d (spc k),.d (.int o),.d (byt X)] (σE ds sd j fl z b k o X (hpJ (j + 1) B L w)) fun v σ1=>Kx .next σ1:=by
  rcases hj with rfl | rfl <;> cases b <;> kernel_rfl
theorem dl_els (hj:j=0 ∨ j=1):exV T3 (ops T3 57) (ifE (stA d0B 0)) (σE ds sd j fl z b k o (sl (full b k) o e) (hpJ (j + 1) B L w)) Kx=bite (!(L.st (!b)).comp) (req (Nat.ble w.length 1000) (Kx .next (σE ds sd j fl z b k o (sl (full b k) o e) (hpJ (j + 1) B L (w ++ [flD (b,k,o,e)]))))) (Kx .next (σE ds sd j fl z b k o (sl (full b k) o e) (hpJ (j + 1) B L w))):=by
  rcases hj with rfl | rfl <;> cases b <;> cases k <;> kernel_rfl
theorem dl_go {σ:Sy}:dlK1 j r K .next σ=exV T3 (ops T3 58) (d0B.drop 1) σ (dlK j r K):=by kernel_rfl
theorem dl_fair (hj:j=0 ∨ j=1):exV T3 (ops T3 58) (d0B.drop 1) (σE ds sd j fl z b k o X (hpJ (j + 1) B L w)) Kx=g481 [.obj 9,.obj 38] (σE ds sd j fl z b k o X (hpJ (j + 1) B L w)) fun v σ1=>nB v fun t=>tidy (63 + j) σ1 fun σ2=>bite (!t) (Kx (.ret (.d (.bool false))) σ2) (Kx .next σ2):=by
  rcases hj with rfl | rfl <;> kernel_rfl
theorem dl_next (hj:j=0 ∨ j=1):dlK j r K .next (σE ds sd j fl z b k o X (hpJ (j + 1) B L w))=dlL j r (σD ds sd j fl z none none none none (hpJ (j + 1) B L w)) K:=by
  rcases hj with rfl | rfl <;> kernel_rfl
theorem dl_end {σ:Sy}:dlL j [] σ (rk 3 Kr)=rdX 3 σ Kr:=by kernel_rfl
theorem rd_3 (hj:j=0 ∨ j=1):rdX 3 (σD ds sd j fl z none none none none (hpJ (j + 1) B L w)) (rdK o58 r K)=rdL o58 r (σR ds sd 1 none (hpJ 1 B L w)) K:=by
  rcases hj with rfl | rfl <;> kernel_rfl
theorem rd_end {σ:Sy}:rdL o58 [] σ (lwK o58 9 K)=lwX o58 9 σ K:=by kernel_rfl
theorem tn_lw {σ:Sy}:tnL o58 [] σ (lwK o58 8 K)=lwX o58 8 σ K:=by kernel_rfl
end
section
variable {ds:List Dat} {sd:Int} {B:Box} {L:LS} {l:List Dat} {K:KF} {σ:Sy}
noncomputable abbrev lwS (i:Nat) (σ:Sy) (K:KF):Prop:=st1 T3 (O2 o58) (stA lawR.body i) σ K
theorem lw_s9:lwX o58 9 σ K=lwS 9 σ (lwK o58 10 K):=by kernel_rfl
theorem lw_s10:lwX o58 10 σ K=lwS 10 σ (lwK o58 11 K):=by kernel_rfl
theorem lw_s11:lwX o58 11 σ K=lwS 11 σ (lwK o58 12 K):=by kernel_rfl
theorem lw_s12:lwX o58 12 σ K=lwS 12 σ (lwK o58 13 K):=by kernel_rfl
theorem lwK_n {i:Nat}:lwK o58 i K .next σ=lwX o58 i σ K:=by kernel_rfl
theorem lw_9:lwS 9 (σR ds sd 1 none (hpJ 1 B L l)) K=gTry (stA lawR.body 9) (σR ds sd 1 none (hpJ 1 B L l)) K:=by kernel_rfl
theorem lw_10:lwS 10 (σZ ds sd B L l) K=K .next (σZ ds sd B L l):=by kernel_rfl
theorem lw_11:lwS 11 (σZ ds sd B L l) K=K .next (σZ ds sd B L l):=by kernel_rfl
theorem lw_12:lwS 12 (σZ ds sd B L l) K=K .next (σZ ds sd B L l):=by kernel_rfl
theorem lw_13 {σ:Sy}:lwX o58 13 σ K=K .next σ:=by kernel_rfl
end
structure Cv (S:PS) (F:Nat):Prop where
  ok:Ok S
  cvr:∀ b k i,0 ≤ i→i < nP S b k→dN (S.ch b k).due i=0→fN b k i S.fly=0→i ∈ (S.ch b k).cs
  fl:S.fly.length ≤ F
noncomputable def lenD (S:PS) (b k:Bool):Nat:=(S.ch b k).due.length
noncomputable def flP (S:PS) (fl:List Fly):PS:={ S with fly:=fl }
section
variable {S:PS} {b k:Bool} {o e:Int} {F:Nat} {fl:List Fly}
theorem Inv.cv {X Y t:Nat} (h:Inv S X Y t) (ht:t ≤ F):Cv S F:=⟨h.ok,fun b k i h0 h1 d f=>by
  have c:=h.cnt b k i h0 h1
  exact h.ack b k i (ind_pos (show 0 < dN (S.ch b k).acked i by exact ln [_,_,_] [] [.eq (.v 0) (.k 0),.eq (.v 1) (.k 0),.eq (.a (.a (.v 0) (.v 2)) (.v 1)) (.k 1)] (.lt (.k 0) (.v 2)) (.w [0,1,1,0,1,0,1]) zr d f c)),by have:=h.bud; exact ln [_,_,_,_,_] [] [.le (.v 0) (.v 1),.le (.a (.a (.m 2 (.v 2)) (.m 2 (.v 3))) (.v 4)) (.v 0)] (.le (.v 4) (.v 1)) (.w [1,1,1]) zr ht this⟩
theorem Cv.send (h:Cv S F) {lo hi x:Int} {r:List (Int × Int)} (e:(S.ch b k).due=(lo,hi) :: r) (h1:lo < x) (h2:x ≤ hi):Cv (mvP S b k (cutS lo x ((lo,hi) :: r)) (S.ch b k).acked (S.fly ++ [(b,k,lo,x)])) (F + 1):=by
  have hd:=(h.ok.ch b k).due
  rw [e] at hd
  have hp:0 ≤ lo ∧ lo < hi ∧ hi ≤ nP S b k:=hd.hd.1
  have m:=sent_ok hd h1 h2
  refine ⟨h.ok.move m.1 (h.ok.ch b k).ack (fly_app h.ok.fly ⟨hp.1,h1,Int.le_trans h2 hp.2.2⟩),fun b' k' i h0 h1 d f=>?_,?_⟩
  · rw [mvP_cs]
    have c:=h.cvr b' k' i h0 h1
    have f:fN b' k' i (S.fly ++ [(b,k,lo,x)])=0:=f
    rw [fN_app,fN_one] at f
    refine c ?_ (by exact ln [_,_] [] [.eq (.a (.v 0) (.v 1)) (.k 0)] (.eq (.v 0) (.k 0)) (.b (.w [0,0,1]) (.w [1,0,1])) zr f)
    refine upd_all (f:=S.ch) (b:=b) (k:=k) (v:={ S.ch b k with due:=cutS lo x ((lo,hi) :: r),acked:=(S.ch b k).acked }) (P:=fun b' k' (c:PCh)=>dN c.due i=0→cov b' k' i (b,k,lo,x)=0→dN (S.ch b' k').due i=0) (fun d f=>?_) (fun b' k' _ d _=>d) b' k' d (by exact ln [_,_] [] [.eq (.a (.v 0) (.v 1)) (.k 0)] (.eq (.v 1) (.k 0)) (.b (.w [0,0,1]) (.w [1,0,1])) zr f)
    rw [cov_eq] at f
    have:=m.2.2.2 i
    rw [e]
    have d:dN (cutS lo x ((lo,hi) :: r)) i=0:=d
    exact ln [_,_,_] [] [.eq (.v 0) (.k 0),.eq (.a (.v 1) (.v 0)) (.v 2),.eq (.v 1) (.k 0)] (.eq (.v 2) (.k 0)) (.b (.w [0,0,0,0,0,0,1]) (.w [1,0,0,1,1,0,1])) zr f this d
  · show (S.fly ++ [(b,k,lo,x)]).length ≤ F + 1
    rw [List.length_append]; exact Nat.succ_le_succ h.fl
theorem send_len {D:Bool→Bool→Nat} {acked:List (Int × Int)} {n lo hi x:Int} {r:List (Int × Int)} (hl:∀ b' k',lenD S b' k' ≤ D b' k') (hd:SpOk n ((lo,hi) :: r)) (e:(S.ch b k).due=(lo,hi) :: r) (h1:lo < x) (h2:x=hi):∀ b' k',lenD (mvP S b k (cutS lo x ((lo,hi) :: r)) acked fl) b' k' ≤ upd D b k (D b k - 1) b' k':=fun b' k'=>by
  subst h2
  have m:=sent_ok hd h1 (Int.le_refl _)
  have q:=hl b k
  unfold lenD at q
  rw [e] at q
  have q:r.length + 1 ≤ D b k:=q
  refine upd_all (f:=S.ch) (b:=b) (k:=k) (v:={ S.ch b k with due:=cutS lo x ((lo,x) :: r),acked:=acked }) (P:=fun b' k' (c:PCh)=>c.due.length ≤ upd D b k (D b k - 1) b' k') ?_ (fun b' k' ne=>?_) b' k'
  · show (cutS lo x ((lo,x) :: r)).length ≤ upd D b k (D b k - 1) b k
    rw [m.2.2.1 (Int.le_refl _)]
    unfold upd; rw [eqB_self,eqB_self]
    exact Nat.le_sub_of_add_le q
  · refine upd_all (f:=D) (b:=b) (k:=k) (v:=D b k - 1) (P:=fun b' k' (z:Nat)=>¬ (b=b' ∧ k=k')→(S.ch b' k').due.length ≤ z) (fun ne=>absurd ⟨rfl,rfl⟩ ne) (fun b' k' _ _=>hl b' k') b' k' ne
theorem none_len {D:Bool→Bool→Nat} (hl:∀ b' k',lenD S b' k' ≤ D b' k') (e:(S.ch b k).due=[]):∀ b' k',lenD S b' k' ≤ upd D b k (D b k - 1) b' k':=fun b' k' =>
  upd_all (f:=D) (b:=b) (k:=k) (v:=D b k - 1) (P:=fun b' k' (z:Nat)=>lenD S b' k' ≤ z) (by unfold lenD; rw [e]; exact Nat.zero_le _) (fun b' k' _=>hl b' k') b' k'
structure Md (st0:Bool→HSt) (D:Bool→Bool→Nat) (F:Nat) (S:PS) (r W:List Fly):Prop where
  cv:Cv S F
  fly:S.fly=r ++ W
  mono:∀ b,(st0 b).n ≤ (S.st b).n
  len:∀ b k,lenD S b k ≤ D b k
  fr:∀ b k,(S.st b).has k=false→1 ≤ D b k
  wt:∀ p ∈ W,p.2.1=true ∧ (st0 (!p.1)).n=0
theorem Ok.sub (h:Ok S) (hf:∀ p ∈ fl,p ∈ S.fly):Ok (flP S fl):=⟨h.st,h.role,h.ch,fun p hp=>h.fly p (hf p hp)⟩
theorem has_of (h:nP S b k=0):(S.st b).has k=false:=by
  unfold nP at h
  cases e:(S.st b).has k with
  | false=>rfl
  | true=>rw [e] at h; exact absurd h (by cases b <;> cases k <;> decide)
section
variable {st0:Bool→HSt} {D:Bool→Bool→Nat} {r W:List Fly}
theorem Md.arr (h:Md st0 D F S ((b,k,o,e) :: r) W) (hr:rdS (S.st (!b)) k=true):Md st0 D F (flP (arrP S b k o e) (r ++ W)) r W:=by
  have hp:0 ≤ o ∧ o < e ∧ e ≤ nP S b k:=h.cv.ok.fly (b,k,o,e) (by rw [h.fly]; exact List.mem_cons_self ..)
  have w:=arr_way h.cv.ok hp.1 hp.2.1 hp.2.2
  have hf:=h.fly
  refine ⟨⟨(h.cv.ok.arr hp.1 hp.2.1 hp.2.2 hr).sub fun p hp=>by show p ∈ S.fly; rw [hf]; exact List.mem_cons_of_mem _ hp,fun b' k' i h0 h1 d f=>?_,?_⟩,rfl,fun b'=>?_,fun b' k'=>?_,fun b' k' q=>?_,h.wt⟩
  · obtain ⟨w1,w2,w3,w4⟩:=w b' k'
    have f:fN b' k' i (r ++ W)=0:=f
    refine (w3 i).mpr ?_
    by_cases q:(b=b' ∧ k=k') ∧ (o ≤ i ∧ i < e)
    · exact .inr q
    · refine .inl ?_
      have h1:i < nP (arrP S b k o e) b' k':=h1
      have d:dN ((arrP S b k o e).ch b' k').due i=0:=d
      rcases w1 with ⟨a,c⟩ | ⟨a,a',c⟩
      · rw [a] at h1
        rw [c] at d
        refine h.cv.cvr b' k' i h0 h1 d ?_
        rw [hf]
        show cov b' k' i (b,k,o,e) + fN b' k' i (r ++ W)=0
        rw [f]; exact ind0 q
      · rw [c] at d
        rw [a'] at h1
        have:dN [((0:Int),NN b' k')] i=1:=ind1 ⟨_,List.mem_singleton.mpr rfl,h0,h1⟩
        exact (ln [_] [] [.eq (.v 0) (.k 0),.eq (.v 0) (.k 1)] (.f) (.w [0,1,1]) zr d this).elim
  · have:=h.cv.fl
    rw [hf] at this
    exact Nat.le_of_succ_le this
  · refine two_b (P:=fun b'=>(st0 b').n ≤ ((arrP S b k o e).st b').n) b ?_ ?_ b'
    · rw [arr_st2]; exact h.mono b
    · rw [arr_st1]; exact Nat.le_trans (h.mono (!b)) nx_n
  · show ((arrP S b k o e).ch b' k').due.length ≤ D b' k'
    rcases (w b' k').1 with ⟨_,c⟩ | ⟨a,_,c⟩ <;> rw [c]
    · exact h.len b' k'
    · exact h.fr b' k' (has_of a)
  · refine h.fr b' k' ?_
    have q:((arrP S b k o e).st b').has k'=false:=q
    revert q
    refine two_b (P:=fun b'=>((arrP S b k o e).st b').has k'=false→(S.st b').has k'=false) b ?_ ?_ b'
    · rw [arr_st2]; exact id
    · rw [arr_st1]; intro q
      cases x:(S.st (!b)).has k' with
      | false=>rfl
      | true=>rw [show (arrS S b k o e).has k'=true from nx_has x] at q; cases q
theorem Md.wait (h:Md st0 D F S ((b,k,o,e) :: r) W) (hr:rdS (S.st (!b)) k=false) (hc:(S.st (!b)).comp=false):Md st0 D F (flP S (r ++ (W ++ [(b,k,o,e)]))) r (W ++ [(b,k,o,e)]):=by
  have hf:=h.fly
  refine ⟨⟨h.cv.ok.sub fun p hp=>?_,fun b' k' i h0 h1 d f=>h.cv.cvr b' k' i h0 h1 d ?_,?_⟩,rfl,h.mono,h.len,h.fr,fun p hp=>?_⟩
  · rw [hf]
    rcases List.mem_append.mp hp with hp | hp
    · exact List.mem_cons_of_mem _ (List.mem_append_left _ hp)
    rcases List.mem_append.mp hp with hp | hp
    · exact List.mem_cons_of_mem _ (List.mem_append_right _ hp)
    · rw [List.mem_singleton.mp hp]; exact List.mem_cons_self ..
  · have f:fN b' k' i (r ++ (W ++ [(b,k,o,e)]))=0:=f
    rw [fN_app,fN_app,fN_one] at f
    rw [hf]
    show cov b' k' i (b,k,o,e) + fN b' k' i (r ++ W)=0
    rw [fN_app]; exact ln [_,_,_] [] [.eq (.a (.v 0) (.a (.v 1) (.v 2))) (.k 0)] (.eq (.a (.v 2) (.a (.v 0) (.v 1))) (.k 0)) (.b (.w [0,1,1]) (.w [1,0,1])) zr f
  · have:=h.cv.fl
    rw [hf] at this
    show (r ++ (W ++ [(b,k,o,e)])).length ≤ F
    simp only [List.length_append,List.length_cons,List.length_nil] at this ⊢
    exact ln [_,_,_] [] [.le (.a (.a (.v 0) (.k 1)) (.v 1)) (.v 2)] (.le (.a (.v 0) (.a (.v 1) (.a (.k 0) (.k 1)))) (.v 2)) (.w [1,1]) zr this
  · rcases List.mem_append.mp hp with hp | hp
    · exact h.wt p hp
    · rw [List.mem_singleton.mp hp]
      have m:=h.mono (!b)
      show k=true ∧ (st0 (!b)).n=0
      generalize S.st (!b)=s at hr hc m
      cases k with
      | false=>cases hr
      | true=>exact ⟨rfl,by cases s <;> first | exact Nat.le_zero.mp m | exact absurd hr.symm Bool.false_ne_true | exact absurd hc.symm Bool.false_ne_true⟩
theorem told_comp (hOk:Ok S) (hc:(S.st (!b)).comp=true):nP S b k ≤ (S.ch b k).told:=by
  have h:=hOk.st (!b)
  rw [Bool.not_not] at h
  have hn:nP S b k ≤ NN b k:=by unfold nP; cases (S.st b).has k <;> cases b <;> cases k <;> decide
  have hro:=hOk.role
  refine Int.le_trans hn ?_
  cases b with
  | false=>rcases hro.2 with x | x | x <;> rw [show S.st (!false)=_ from x] at h hc <;> first | exact absurd hc Bool.false_ne_true | (cases k <;> first | exact Int.le_of_eq h.1.symm | exact Int.le_of_eq h.2.symm)
  | true=>rcases hro.1 with x | x | x | x <;> rw [show S.st (!true)=_ from x] at h hc <;> first | exact absurd hc Bool.false_ne_true | (cases k <;> first | exact Int.le_of_eq h.1.symm | exact Int.le_of_eq h.2.symm)
theorem Md.drop (h:Md st0 D F S ((b,k,o,e) :: r) W) (hc:(S.st (!b)).comp=true):Md st0 D F (flP S (r ++ W)) r W:=by
  have hf:=h.fly
  refine ⟨⟨h.cv.ok.sub fun p hp=>by rw [hf]; exact List.mem_cons_of_mem _ hp,fun b' k' i h0 h1 d f=>?_,?_⟩,rfl,h.mono,h.len,h.fr,h.wt⟩
  · have f:fN b' k' i (r ++ W)=0:=f
    by_cases q:(b=b' ∧ k=k') ∧ (o ≤ i ∧ i < e)
    · obtain ⟨⟨rfl,rfl⟩,_⟩:=q
      have t:=told_comp (k:=k) h.cv.ok hc
      exact ((h.cv.ok.ch b k).cs i).mpr (.inl ⟨h0,Int.lt_of_lt_of_le h1 t⟩)
    · refine h.cv.cvr b' k' i h0 h1 d ?_
      rw [hf]
      show cov b' k' i (b,k,o,e) + fN b' k' i (r ++ W)=0
      rw [f]; exact ind0 q
  · have:=h.cv.fl
    rw [hf] at this
    exact Nat.le_of_succ_le this
theorem Cv.all (h:Cv S F) (hd:lenD S b k=0) (hf:∀ p ∈ S.fly,¬ (p.1=b ∧ p.2.1=k)):nP S b k ≤ (S.ch b k).told:=by
  have c:=h.ok.ch b k
  refine Int.not_lt.mp fun lt=>?_
  have e1:(S.ch b k).due=[]:=List.eq_nil_of_length_eq_zero hd
  have e2:∀ {l:List Fly},(∀ p ∈ l,¬ (p.1=b ∧ p.2.1=k))→fN b k (S.ch b k).told l=0:=fun {l} hl=>by
    induction l with
    | nil=>rfl
    | cons p r ih =>
      show cov b k _ p + fN b k _ r=0
      rw [ih fun p hp=>hl p (List.mem_cons_of_mem _ hp)]
      exact ind0 fun q=>hl p (List.mem_cons_self ..) q.1
  have m:=h.cvr b k _ c.told.1 lt (by rw [e1]; exact ind0 Has.nil) (e2 hf)
  rcases (c.cs _).mp m with q | ⟨p,hp,q⟩
  · exact ln [] [_] [.a (.Le (.k 0) (.v 0)) (.Lt (.v 0) (.v 0))] (.f) (.w [0,1]) zr q
  · have:=c.wt p hp; exact ln [] [_,_,_] [.a (.Le (.v 0) (.v 1)) (.Lt (.v 1) (.v 2)),.Lt (.v 1) (.v 0)] (.f) (.w [1,1]) zr q this
end
end
structure RkF (c s dFF dFT dTF dTT n:Nat):Prop where
  ra:s=0→dFF + 3 ≤ n ∧ 4 ≤ n
  rb:s=1→c=0→dTF + 2 ≤ n ∧ dTT + 1 ≤ n ∧ 3 ≤ n
  rc:s=1→1 ≤ c→c ≤ 2→dTT + 1 ≤ n ∧ 2 ≤ n
  rd:s=1→c=3→dFT ≤ n ∧ 1 ≤ n
noncomputable def Rk (S:PS) (n:Nat):Prop:=RkF S.c.n S.s.n (lenD S false false) (lenD S false true) (lenD S true false) (lenD S true true) n
noncomputable def D1 (S:PS) (b k:Bool):Nat:=bif (S.st b).has k then lenD S b k - 1 else 1
section
variable {S S0:PS} {F n:Nat} {W:List Fly}
theorem kindS (h:Ok S):(S.s.n=0 ∧ S.s=.s0) ∨ (S.s.n=1 ∧ S.s=.s1) ∨ (S.s.n=2 ∧ S.s=.s2):=by
  rcases h.role.2 with e | e | e <;> rw [e]
  · exact .inl ⟨rfl,rfl⟩
  · exact .inr (.inl ⟨rfl,rfl⟩)
  · exact .inr (.inr ⟨rfl,rfl⟩)
theorem kindC (h:Ok S):(S.c.n=0 ∧ S.c=.c0) ∨ (S.c.n=1 ∧ S.c=.c1) ∨ (S.c.n=2 ∧ S.c=.c2) ∨ (S.c.n=3 ∧ S.c=.c3):=by
  rcases h.role.1 with e | e | e | e <;> rw [e]
  · exact .inl ⟨rfl,rfl⟩
  · exact .inr (.inl ⟨rfl,rfl⟩)
  · exact .inr (.inr (.inl ⟨rfl,rfl⟩))
  · exact .inr (.inr (.inr ⟨rfl,rfl⟩))
theorem ok_c (h:Ok S):stOk S.c (S.ch true false).told (S.ch true true).told:=h.st false
theorem ok_s (h:Ok S):stOk S.s (S.ch false false).told (S.ch false true).told:=h.st true
theorem nP_s {k:Bool} (h:S.s.has k=true):nP S true k=NN true k:=by unfold nP; rw [show (S.st true).has k=true from h]
theorem nP_c {k:Bool} (h:S.c.has k=true):nP S false k=NN false k:=by unfold nP; rw [show (S.st false).has k=true from h]
theorem d1T {b k:Bool} (h:(S.st b).has k=true):D1 S b k=lenD S b k - 1:=by unfold D1; rw [h]; rfl
theorem d1F {b k:Bool} (h:(S.st b).has k=false):D1 S b k=1:=by unfold D1; rw [h]; rfl
theorem fact0 (h:Ok S):S.s.n=0→S.c.n=0:=fun e=>by
  rcases kindS h with ⟨x,y⟩ | ⟨x,y⟩ | ⟨x,y⟩ <;> first | omega | skip
  have t:=(h.ch true false).told.2
  unfold nP at t
  rw [show (S.st true).has false=false by show S.s.has false=false; rw [y]; rfl] at t
  have t:(S.ch true false).told ≤ 0:=t
  have q:=ok_c h
  rcases kindC h with ⟨x,z⟩ | ⟨x,z⟩ | ⟨x,z⟩ | ⟨x,z⟩ <;> first | exact x | (rw [z] at q; have:=q.1; exact ln [_] [_] [.Le (.v 0) (.k 0),.Eq (.v 0) (.k 14)] (.eq (.v 0) (.k 0)) (.b (.w [0,0,0,1]) (.w [0,1,1])) zr t this)
theorem lenFF (h0:Ok S0):D1 S0 false false=lenD S0 false false - 1:=d1T (by rcases kindC h0 with ⟨_,y⟩ | ⟨_,y⟩ | ⟨_,y⟩ | ⟨_,y⟩ <;> (show S0.c.has false=true; rw [y]; rfl))
theorem lenTk (h0:Ok S0) (k:Bool):(S0.s.n=0 ∧ D1 S0 true k=1) ∨ (1 ≤ S0.s.n ∧ D1 S0 true k=lenD S0 true k - 1):=by
  rcases kindS h0 with ⟨x,y⟩ | ⟨x,y⟩ | ⟨x,y⟩
  · exact .inl ⟨x,d1F (by show S0.s.has k=false; rw [y]; rfl)⟩
  · exact .inr ⟨by exact ln [_] [] [.eq (.v 0) (.k 1)] (.le (.k 1) (.v 0)) (.w [0,1,1]) zr x,d1T (by show S0.s.has k=true; rw [y]; rfl)⟩
  · exact .inr ⟨by exact ln [_] [] [.eq (.v 0) (.k 2)] (.le (.k 1) (.v 0)) (.w [0,1,1]) zr x,d1T (by show S0.s.has k=true; rw [y]; rfl)⟩
theorem lenFT (h0:Ok S0):(S0.c.n ≤ 2 ∧ D1 S0 false true=1) ∨ (S0.c.n=3 ∧ D1 S0 false true=lenD S0 false true - 1):=by
  rcases kindC h0 with ⟨x,y⟩ | ⟨x,y⟩ | ⟨x,y⟩ | ⟨x,y⟩
  · exact .inl ⟨by exact ln [_] [] [.eq (.v 0) (.k 0)] (.le (.v 0) (.k 2)) (.w [1,0,1]) zr x,d1F (by show S0.c.has true=false; rw [y]; rfl)⟩
  · exact .inl ⟨by exact ln [_] [] [.eq (.v 0) (.k 1)] (.le (.v 0) (.k 2)) (.w [1,0,1]) zr x,d1F (by show S0.c.has true=false; rw [y]; rfl)⟩
  · exact .inl ⟨by exact ln [_] [] [.eq (.v 0) (.k 2)] (.le (.v 0) (.k 2)) (.w [1,0,1]) zr x,d1F (by show S0.c.has true=false; rw [y]; rfl)⟩
  · exact .inr ⟨x,d1T (by show S0.c.has true=true; rw [y]; rfl)⟩
theorem rk_num {c0 s0 c1 s1 d00 d01 d10 d11 e00 e01 e10 e11 x01 x10 x11 n:Nat} (h:RkF c0 s0 d00 d01 d10 d11 (n + 1)) (m1:c0 ≤ c1) (m2:s0 ≤ s1) (l00:e00 ≤ d00 - 1) (l01:e01 ≤ x01) (l10:e10 ≤ x10) (l11:e11 ≤ x11)
    (k01:(c0 ≤ 2 ∧ x01=1) ∨ (c0=3 ∧ x01=d01 - 1)) (k10:(s0=0 ∧ x10=1) ∨ (1 ≤ s0 ∧ x10=d10 - 1)) (k11:(s0=0 ∧ x11=1) ∨ (1 ≤ s0 ∧ x11=d11 - 1)) (z0:s0=0→c0=0)
    (A1:s1=0→1 ≤ e00) (A2:1 ≤ s1→c1=0→1 ≤ e10) (A3:1 ≤ c0→1 ≤ s1→c1 ≤ 2→1 ≤ e11) (A4:1 ≤ s0→c1=3→s1=1→1 ≤ e01):RkF c1 s1 e00 e01 e10 e11 n:=by
  obtain ⟨a,b,c,d⟩:=h
  refine ⟨fun e=>?_,fun e e2=>?_,fun e e2 e3=>?_,fun e e2=>?_⟩
  · have a:=a (by exact ln [_,_] [] [.le (.v 0) (.v 1),.eq (.v 1) (.k 0)] (.eq (.v 0) (.k 0)) (.b (.w [0,0,0,1]) (.w [1,0,1,1])) zr m2 e)
    have A1:=A1 e
    clear b c d A2 A3 A4 k01 k10 k11 z0
    exact ln [_,_,_] [] [.a (.le (.a (.v 0) (.k 3)) (.a (.v 1) (.k 1))) (.le (.k 4) (.a (.v 1) (.k 1))),.le (.k 1) (.v 2),.le (.v 2) (.s (.v 0) (.k 1))] (.a (.le (.a (.v 2) (.k 3)) (.v 1)) (.le (.k 4) (.v 1))) (.b (.b (.w [1,0,0,1,0,1]) (.w [1,0,1])) (.b (.w [1,0,1,1,0,1]) (.w [1,0,1]))) zr a A1 l00
  · have A2:=A2 (by exact ln [_] [] [.eq (.v 0) (.k 1)] (.le (.k 1) (.v 0)) (.w [0,1,1]) zr e) e2
    clear A1 A3 A4 c d k01
    by_cases q:s0=0
    · have a:=a q
      clear b z0
      exact ln [_,_,_,_,_,_,_,_,_] [] [.le (.v 0) (.v 1),.le (.v 2) (.v 3),.eq (.v 4) (.k 0),.a (.le (.a (.v 5) (.k 3)) (.a (.v 6) (.k 1))) (.le (.k 4) (.a (.v 6) (.k 1))),.o (.a (.eq (.v 4) (.k 0)) (.eq (.v 1) (.k 1))) (.a (.le (.k 1) (.v 4)) (.eq (.v 1) (.s (.v 7) (.k 1)))),.o (.a (.eq (.v 4) (.k 0)) (.eq (.v 3) (.k 1))) (.a (.le (.k 1) (.v 4)) (.eq (.v 3) (.s (.v 8) (.k 1))))] (.a (.le (.a (.v 0) (.k 2)) (.v 6)) (.a (.le (.a (.v 2) (.k 1)) (.v 6)) (.le (.k 3) (.v 6)))) (.b (.b (.w [0,0,1,0,0,1,0,0,0,1,1]) (.b (.w [1,0,0,0,0,0,1]) (.w [0,1,0,0,0,1,0,0,0,1,1]))) (.b (.b (.b (.w [0,0,1,0,0,0,0,0,0,1,0,0,1,0,1]) (.b (.w [1,0,0,0,1]) (.w [0,1,0,0,0,0,0,0,0,1,0,0,1,0,1]))) (.b (.w [1,0,0,0,0,0,1]) (.w [1,0,0,0,0,0,1]))) (.w [0,1,0,0,0,0,1]))) zr l10 l11 q a k10 k11
    · have b:=b (by exact ln [_,_] [] [.le (.v 0) (.v 1),.eq (.v 1) (.k 1),.n (.eq (.v 0) (.k 0))] (.eq (.v 0) (.k 1)) (.b (.b (.w [1]) (.w [1,0,0,0,1])) (.w [1,0,1,1])) zr m2 e q) (by exact ln [_,_] [] [.le (.v 0) (.v 1),.eq (.v 1) (.k 0)] (.eq (.v 0) (.k 0)) (.b (.w [0,0,0,1]) (.w [1,0,1,1])) zr m1 e2)
      clear a z0
      exact ln [_,_,_,_,_,_,_,_] [] [.le (.v 0) (.v 1),.le (.v 2) (.v 3),.le (.k 1) (.v 0),.a (.le (.a (.v 4) (.k 2)) (.a (.v 5) (.k 1))) (.a (.le (.a (.v 6) (.k 1)) (.a (.v 5) (.k 1))) (.le (.k 3) (.a (.v 5) (.k 1)))),.o (.a (.eq (.v 7) (.k 0)) (.eq (.v 1) (.k 1))) (.a (.le (.k 1) (.v 7)) (.eq (.v 1) (.s (.v 4) (.k 1)))),.o (.a (.eq (.v 7) (.k 0)) (.eq (.v 3) (.k 1))) (.a (.le (.k 1) (.v 7)) (.eq (.v 3) (.s (.v 6) (.k 1)))),.n (.eq (.v 7) (.k 0))] (.a (.le (.a (.v 0) (.k 2)) (.v 5)) (.a (.le (.a (.v 2) (.k 1)) (.v 5)) (.le (.k 3) (.v 5)))) (.b (.b (.b (.b (.w [1,0,1]) (.w [1,1])) (.b (.w [1,0,0,0,1]) (.w [1,0,0,0,1]))) (.b (.w [0,1,0,0,1,0,0,0,0,1,1]) (.w [0,1,0,0,0,0,0,1,0,1]))) (.b (.b (.b (.w [0,0,1,0,0,0,0,0,0,0,1,0,1,0,1]) (.b (.w [0,1,0,0,0,0,0,0,0,1,0,0,1,0,1]) (.w [0,1,0,0,0,0,0,0,0,0,1,0,1,0,1]))) (.b (.b (.w [0,0,1,0,0,0,0,0,0,0,1,0,1,0,1]) (.b (.w [0,1,0,0,0,0,0,0,0,1,0,0,1,0,1]) (.w [0,1,0,0,0,0,0,0,0,0,1,0,1,0,1]))) (.w [0,1,0,0,0,0,0,1,0,1]))) (.b (.b (.b (.w [1,0,1]) (.w [1,1])) (.b (.w [1,0,0,0,1]) (.w [1,0,0,0,1]))) (.b (.w [0,1,0,0,1,0,0,1,0,1,1]) (.w [0,1,0,0,0,0,0,1,0,1]))))) zr l10 l11 A2 b k10 k11 q
  · clear A1 A2 A4 d k01 k10
    by_cases q:s0=0
    · have a:=a q
      clear b c z0 A3
      exact ln [_,_,_,_,_,_] [] [.le (.v 0) (.v 1),.eq (.v 2) (.k 0),.a (.le (.a (.v 3) (.k 3)) (.a (.v 4) (.k 1))) (.le (.k 4) (.a (.v 4) (.k 1))),.o (.a (.eq (.v 2) (.k 0)) (.eq (.v 1) (.k 1))) (.a (.le (.k 1) (.v 2)) (.eq (.v 1) (.s (.v 5) (.k 1))))] (.a (.le (.a (.v 0) (.k 1)) (.v 4)) (.le (.k 2) (.v 4))) (.b (.b (.w [0,0,1,0,0,1,0,0,1,1]) (.b (.w [1,0,0,0,0,0,1]) (.w [0,1,0,0,0,1,0,0,1,1]))) (.w [0,1,0,0,0,1])) zr l11 q a k11
    · by_cases q2:c0=0
      · have b:=b (by exact ln [_,_] [] [.le (.v 0) (.v 1),.eq (.v 1) (.k 1),.n (.eq (.v 0) (.k 0))] (.eq (.v 0) (.k 1)) (.b (.b (.w [1]) (.w [1,0,0,0,1])) (.w [1,0,1,1])) zr m2 e q) q2
        clear a c z0 A3
        exact ln [_,_,_,_,_,_] [] [.le (.v 0) (.v 1),.a (.le (.a (.v 2) (.k 2)) (.a (.v 3) (.k 1))) (.a (.le (.a (.v 4) (.k 1)) (.a (.v 3) (.k 1))) (.le (.k 3) (.a (.v 3) (.k 1)))),.o (.a (.eq (.v 5) (.k 0)) (.eq (.v 1) (.k 1))) (.a (.le (.k 1) (.v 5)) (.eq (.v 1) (.s (.v 4) (.k 1))))] (.a (.le (.a (.v 0) (.k 1)) (.v 3)) (.le (.k 2) (.v 3))) (.b (.b (.w [0,0,1,0,0,0,1,1,1]) (.b (.w [0,1,0,0,0,1,0,1,1]) (.w [0,1,0,0,0,0,1,1,1]))) (.w [0,0,1,0,1])) zr l11 b k11
      · have c:=c (by exact ln [_,_] [] [.le (.v 0) (.v 1),.eq (.v 1) (.k 1),.n (.eq (.v 0) (.k 0))] (.eq (.v 0) (.k 1)) (.b (.b (.w [1]) (.w [1,0,0,0,1])) (.w [1,0,1,1])) zr m2 e q) (by exact ln [_] [] [.n (.eq (.v 0) (.k 0))] (.le (.k 1) (.v 0)) (.b (.w [1]) (.w [1,1])) zr q2) (by exact ln [_,_] [] [.le (.v 0) (.v 1),.le (.v 1) (.k 2)] (.le (.v 0) (.k 2)) (.w [1,1,1]) zr m1 e3)
        have A3:=A3 (by exact ln [_] [] [.n (.eq (.v 0) (.k 0))] (.le (.k 1) (.v 0)) (.b (.w [1]) (.w [1,1])) zr q2) (by exact ln [_] [] [.eq (.v 0) (.k 1)] (.le (.k 1) (.v 0)) (.w [0,1,1]) zr e) e3
        clear a b z0
        exact ln [_,_,_,_,_] [] [.le (.v 0) (.v 1),.a (.le (.a (.v 2) (.k 1)) (.a (.v 3) (.k 1))) (.le (.k 2) (.a (.v 3) (.k 1))),.le (.k 1) (.v 0),.o (.a (.eq (.v 4) (.k 0)) (.eq (.v 1) (.k 1))) (.a (.le (.k 1) (.v 4)) (.eq (.v 1) (.s (.v 2) (.k 1)))),.n (.eq (.v 4) (.k 0))] (.a (.le (.a (.v 0) (.k 1)) (.v 3)) (.le (.k 2) (.v 3))) (.b (.b (.b (.w [1,0,1]) (.w [1,1])) (.b (.w [0,1,0,0,0,1,0,1,1]) (.w [0,1,0,0,1,0,0,1]))) (.b (.b (.w [1,0,1]) (.w [1,1])) (.b (.w [0,1,0,0,1,1,0,1,1]) (.w [0,1,0,0,1,0,0,1])))) zr l11 c A3 k11 q
  · have A4:=fun z=>A4 z e2 e
    clear A1 A2 A3 k10 k11
    by_cases q:s0=0
    · have a:=a q
      have z0:=z0 q
      clear b c d A4
      exact ln [_,_,_,_,_,_] [] [.le (.v 0) (.v 1),.a (.le (.a (.v 2) (.k 3)) (.a (.v 3) (.k 1))) (.le (.k 4) (.a (.v 3) (.k 1))),.eq (.v 4) (.k 0),.o (.a (.le (.v 4) (.k 2)) (.eq (.v 1) (.k 1))) (.a (.eq (.v 4) (.k 3)) (.eq (.v 1) (.s (.v 5) (.k 1))))] (.a (.le (.v 0) (.v 3)) (.le (.k 1) (.v 3))) (.b (.b (.w [0,1,0,0,0,0,1,1,1]) (.b (.w [0,1,0,0,0,1]) (.w [0,0,1,0,0,0,0,0,1,1,1]))) (.w [0,0,0,1,0,1])) zr l01 a z0 k01
    · by_cases q2:c0=0
      · have b:=b (by exact ln [_,_] [] [.le (.v 0) (.v 1),.eq (.v 1) (.k 1),.n (.eq (.v 0) (.k 0))] (.eq (.v 0) (.k 1)) (.b (.b (.w [1]) (.w [1,0,0,0,1])) (.w [1,0,1,1])) zr m2 e q) q2
        clear a c d z0 A4
        exact ln [_,_,_,_,_,_,_] [] [.le (.v 0) (.v 1),.eq (.v 2) (.k 0),.a (.le (.a (.v 3) (.k 2)) (.a (.v 4) (.k 1))) (.a (.le (.a (.v 5) (.k 1)) (.a (.v 4) (.k 1))) (.le (.k 3) (.a (.v 4) (.k 1)))),.o (.a (.le (.v 2) (.k 2)) (.eq (.v 1) (.k 1))) (.a (.eq (.v 2) (.k 3)) (.eq (.v 1) (.s (.v 6) (.k 1))))] (.a (.le (.v 0) (.v 4)) (.le (.k 1) (.v 4))) (.b (.b (.w [0,1,0,0,0,1,0,0,1,1]) (.b (.w [0,1,0,0,0,0,0,0,1]) (.w [0,0,1,0,0,0,0,1,0,0,1,1]))) (.w [0,0,1,0,0,0,1])) zr l01 q2 b k01
      · by_cases q3:c0 ≤ 2
        · have c:=c (by exact ln [_,_] [] [.le (.v 0) (.v 1),.eq (.v 1) (.k 1),.n (.eq (.v 0) (.k 0))] (.eq (.v 0) (.k 1)) (.b (.b (.w [1]) (.w [1,0,0,0,1])) (.w [1,0,1,1])) zr m2 e q) (by exact ln [_] [] [.n (.eq (.v 0) (.k 0))] (.le (.k 1) (.v 0)) (.b (.w [1]) (.w [1,1])) zr q2) q3
          clear a b d z0 A4
          exact ln [_,_,_,_,_,_] [] [.le (.v 0) (.v 1),.le (.v 2) (.k 2),.a (.le (.a (.v 3) (.k 1)) (.a (.v 4) (.k 1))) (.le (.k 2) (.a (.v 4) (.k 1))),.o (.a (.le (.v 2) (.k 2)) (.eq (.v 1) (.k 1))) (.a (.eq (.v 2) (.k 3)) (.eq (.v 1) (.s (.v 5) (.k 1))))] (.a (.le (.v 0) (.v 4)) (.le (.k 1) (.v 4))) (.b (.b (.w [0,1,0,0,1,0,1,1]) (.b (.w [0,1,0,0,0,0,0,1]) (.w [0,0,1,0,0,0,1,0,1,1]))) (.w [0,1,0,0,1])) zr l01 q3 c k01
        · have d:=d (by exact ln [_,_] [] [.le (.v 0) (.v 1),.eq (.v 1) (.k 1),.n (.eq (.v 0) (.k 0))] (.eq (.v 0) (.k 1)) (.b (.b (.w [1]) (.w [1,0,0,0,1])) (.w [1,0,1,1])) zr m2 e q) (by exact ln [_,_] [] [.le (.v 0) (.v 1),.eq (.v 1) (.k 3),.n (.le (.v 0) (.k 2))] (.eq (.v 0) (.k 3)) (.b (.w [1,0,0,0,1]) (.w [0,1,0,1,1])) zr m1 e2 q3)
          have A4:=A4 (by exact ln [_] [] [.n (.eq (.v 0) (.k 0))] (.le (.k 1) (.v 0)) (.b (.w [1]) (.w [1,1])) zr q)
          clear a b c z0
          exact ln [_,_,_,_,_] [] [.le (.v 0) (.v 1),.n (.le (.v 2) (.k 2)),.a (.le (.v 3) (.a (.v 4) (.k 1))) (.le (.k 1) (.a (.v 4) (.k 1))),.le (.k 1) (.v 0),.o (.a (.le (.v 2) (.k 2)) (.eq (.v 1) (.k 1))) (.a (.eq (.v 2) (.k 3)) (.eq (.v 1) (.s (.v 3) (.k 1))))] (.a (.le (.v 0) (.v 4)) (.le (.k 1) (.v 4))) (.b (.b (.w [1,0,0,0,0,0,1]) (.b (.w [0,0,1,0,0,0,1,0,0,1,1]) (.w [0,0,1,0,0,1,0,0,0,1]))) (.b (.w [1,0,0,0,0,0,1]) (.b (.w [0,0,1,0,0,1,1,0,0,1,1]) (.w [0,0,1,0,0,1,0,0,0,1])))) zr l01 q3 d A4 k01
theorem Rk.step (h0:Ok S0) (h:Md S0.st (D1 S0) F S [] W) (hk:Rk S0 (n + 1)):Rk S n:=by
  have hO:=h.cv.ok
  have hf:S.fly=W:=h.fly
  have m1:S0.c.n ≤ S.c.n:=h.mono false
  have m2:S0.s.n ≤ S.s.n:=h.mono true
  have l1:=h.len false false
  have l2:=h.len false true
  have l3:=h.len true false
  have l4:=h.len true true
  rw [lenFF h0] at l1
  have k1:=lenTk h0 false
  have k2:=lenTk h0 true
  have k3:=lenFT h0
  have z0:=fact0 h0
  have noW:∀ {b k:Bool},(k=false ∨ 1 ≤ (S0.st (!b)).n)→lenD S b k=0→nP S b k ≤ (S.ch b k).told:=fun {b k} hb hd=>h.cv.all hd fun p hp q=>by
    rw [hf] at hp
    have w:=h.wt p hp
    rw [q.1,q.2] at w
    rcases hb with hb | hb
    · rw [hb] at w; exact nomatch w.1
    · exact ln [_] [] [.eq (.v 0) (.k 0),.le (.k 1) (.v 0)] (.f) (.w [1,1]) zr w.2 hb
  have kc:=kindC hO
  have ks:=kindS hO
  have kc:=kc
  have A1:S.s.n=0→1 ≤ lenD S false false:=fun e=>Nat.pos_of_ne_zero fun d=>by
    have t:=noW (b:=false) (k:=false) (.inl rfl) d
    have q:=ok_s hO
    rw [nP_c (by rcases kc with ⟨_,y⟩ | ⟨_,y⟩ | ⟨_,y⟩ | ⟨_,y⟩ <;> (rw [y]; rfl))] at t
    have t:37 ≤ (S.ch false false).told:=t
    rcases ks with ⟨x,y⟩ | ⟨x,y⟩ | ⟨x,y⟩ <;> first | omega | (rw [y] at q; have:=q.1; exact ln [] [_] [.Le (.k 37) (.v 0),.Lt (.v 0) (.k 37)] (.f) (.w [1,1]) zr t this)
  have A2:1 ≤ S.s.n→S.c.n=0→1 ≤ lenD S true false:=fun e1 e=>Nat.pos_of_ne_zero fun d=>by
    have t:=noW (b:=true) (k:=false) (.inl rfl) d
    have q:=ok_c hO
    rw [nP_s (by rcases ks with ⟨x,y⟩ | ⟨_,y⟩ | ⟨_,y⟩ <;> first | exact (ln [_] [] [.le (.k 1) (.v 0),.eq (.v 0) (.k 0)] (.f) (.w [1,0,1]) zr e1 x).elim | (rw [y]; rfl))] at t
    have t:14 ≤ (S.ch true false).told:=t
    rcases kc with ⟨x,y⟩ | ⟨x,y⟩ | ⟨x,y⟩ | ⟨x,y⟩ <;> first | omega | (rw [y] at q; have:=q.1; exact ln [] [_] [.Le (.k 14) (.v 0),.Lt (.v 0) (.k 14)] (.f) (.w [1,1]) zr t this)
  have A3:1 ≤ S0.c.n→1 ≤ S.s.n→S.c.n ≤ 2→1 ≤ lenD S true true:=fun e0 e1 e=>Nat.pos_of_ne_zero fun d=>by
    have t:=noW (b:=true) (k:=true) (.inr e0) d
    have q:=ok_c hO
    rw [nP_s (by rcases ks with ⟨x,y⟩ | ⟨_,y⟩ | ⟨_,y⟩ <;> first | exact (ln [_] [] [.le (.k 1) (.v 0),.eq (.v 0) (.k 0)] (.f) (.w [1,0,1]) zr e1 x).elim | (rw [y]; rfl))] at t
    have t:26 ≤ (S.ch true true).told:=t
    rcases kc with ⟨x,y⟩ | ⟨x,y⟩ | ⟨x,y⟩ | ⟨x,y⟩ <;> first | omega | (rw [y] at q; have:=q.2; omega) | (rw [y] at q; have:=q.2.2; omega)
  have A4:1 ≤ S0.s.n→S.c.n=3→S.s.n=1→1 ≤ lenD S false true:=fun e0 e1 e=>Nat.pos_of_ne_zero fun d=>by
    have t:=noW (b:=false) (k:=true) (.inr e0) d
    have q:=ok_s hO
    rw [nP_c (by rcases kc with ⟨x,y⟩ | ⟨x,y⟩ | ⟨x,y⟩ | ⟨x,y⟩ <;> first | omega | (rw [y]; rfl))] at t
    have t:12 ≤ (S.ch false true).told:=t
    rcases ks with ⟨x,y⟩ | ⟨x,y⟩ | ⟨x,y⟩ <;> first | omega | (rw [y] at q; have:=q.2; exact ln [] [_] [.Le (.k 12) (.v 0),.Lt (.v 0) (.k 12)] (.f) (.w [1,1]) zr t this)
  exact rk_num hk m1 m2 l1 l2 l3 l4 k3 k1 k2 z0 A1 A2 A3 A4
theorem one_due {m:Int} {xs:List (Int × Int)} (h:SpOk m xs) (hc:∀ i,0 ≤ i→i < m→dN xs i=1):xs.length ≤ 1:=by
  match xs,h,hc with
  | [],_,_=>exact Nat.zero_le _
  | [_],_,_=>exact Nat.le_refl _
  | p :: q :: r,h,hc =>
    exfalso
    obtain ⟨hp,hg⟩:=h.hd
    have g1:=hg q (List.mem_cons_self ..)
    have hq:=h.tail.hd.1
    have:=ind_pos (P:=Has (p :: q :: r) p.2) (by have:=hc p.2 (by exact ln [] [_,_,_] [.a (.Le (.k 0) (.v 0)) (.a (.Lt (.v 0) (.v 1)) (.Le (.v 1) (.v 2)))] (.Le (.k 0) (.v 1)) (.w [1,1,0,1]) zr hp) (by exact ln [] [_,_,_,_] [.Lt (.v 0) (.v 1),.a (.Le (.k 0) (.v 1)) (.a (.Lt (.v 1) (.v 2)) (.Le (.v 2) (.v 3)))] (.Lt (.v 0) (.v 3)) (.w [0,1,1,1,1]) zr g1 hq); unfold dN at this; exact ln [_] [] [.eq (.v 0) (.k 1)] (.lt (.k 0) (.v 0)) (.w [0,1,1]) zr this)
    rcases Has.cons.mp this with a | ⟨z,hz,a⟩
    · exact ln [] [_,_] [.a (.Le (.v 0) (.v 1)) (.Lt (.v 1) (.v 1))] (.f) (.w [0,1]) zr a
    · have:=hg z hz; exact ln [] [_,_,_] [.a (.Le (.v 0) (.v 1)) (.Lt (.v 1) (.v 2)),.Lt (.v 1) (.v 0)] (.f) (.w [1,1]) zr a this
theorem Rk.start {X Y:Nat} (h:Inv S X Y 10):Rk S 8:=by
  have hb:=h.bud
  have l1:=h.len false false
  have l2:=h.len false true
  have l3:=h.len true false
  have l4:=h.len true true
  have five:lenD S false false ≤ 5:=by
    by_cases c:X ≤ 4
    · exact Nat.le_trans l1 (by exact ln [_] [] [.le (.v 0) (.k 4)] (.le (.a (.k 1) (.v 0)) (.k 5)) (.w [1,1]) zr c)
    · have y0:Y=0:=by exact ln [_,_,_] [] [.le (.a (.a (.m 2 (.v 0)) (.m 2 (.v 1))) (.v 2)) (.k 10),.n (.le (.v 0) (.k 4))] (.eq (.v 1) (.k 0)) (.b (.w [0,0,1]) (.w [2,1,2])) zr hb c
      have f0:S.fly=[]:=List.eq_nil_of_length_eq_zero (by exact ln [_,_,_] [] [.le (.a (.a (.m 2 (.v 0)) (.m 2 (.v 1))) (.v 2)) (.k 10),.n (.le (.v 0) (.k 4))] (.eq (.v 2) (.k 0)) (.b (.w [0,0,1]) (.w [2,1,1])) zr hb c)
      refine Nat.le_trans (one_due (h.ok.ch false false).due fun i i0 i1=>?_) (by decide)
      have q:=h.cnt false false i i0 i1
      rw [h.noY y0,f0] at q
      have e:dN [] i=0:=ind0 Has.nil
      have e2:fN false false i []=0:=rfl
      exact ln [_,_,_] [] [.eq (.a (.a (.v 0) (.v 1)) (.v 2)) (.k 1),.eq (.v 1) (.k 0),.eq (.v 2) (.k 0)] (.eq (.v 0) (.k 1)) (.b (.w [1,0,1,0,0,1,1]) (.w [0,1,0,1,1,0,1])) zr q e e2
  exact ⟨fun _=>by exact ln [_] [] [.le (.v 0) (.k 5)] (.a (.le (.a (.v 0) (.k 3)) (.k 8)) (.le (.k 4) (.k 8))) (.b (.w [1,1]) (.w [0,1])) zr five,fun _ _=>by show lenD S true false + 2 ≤ 8 ∧ lenD S true true + 1 ≤ 8 ∧ _; unfold lenD; exact ln [_,_,_,_,_] [] [.le (.a (.a (.m 2 (.v 0)) (.m 2 (.v 1))) (.v 2)) (.k 10),.le (.v 3) (.a (.k 1) (.v 0)),.le (.v 4) (.a (.k 1) (.v 0))] (.a (.le (.a (.v 3) (.k 2)) (.k 8)) (.a (.le (.a (.v 4) (.k 1)) (.k 8)) (.le (.k 3) (.k 8)))) (.b (.w [0,2,1,2]) (.b (.w [2,0,1,2]) (.w [0,0,0,1]))) zr hb l3 l4,fun _ _ _=>by show lenD S true true + 1 ≤ 8 ∧ _; unfold lenD; exact ln [_,_,_,_] [] [.le (.a (.a (.m 2 (.v 0)) (.m 2 (.v 1))) (.v 2)) (.k 10),.le (.v 3) (.a (.k 1) (.v 0))] (.a (.le (.a (.v 3) (.k 1)) (.k 8)) (.le (.k 2) (.k 8))) (.b (.w [2,1,2]) (.w [0,0,1])) zr hb l4,fun _ _=>by show lenD S false true ≤ 8 ∧ _; unfold lenD; exact ln [_,_,_,_] [] [.le (.a (.a (.m 2 (.v 0)) (.m 2 (.v 1))) (.v 2)) (.k 10),.le (.v 3) (.a (.k 1) (.v 0))] (.a (.le (.v 3) (.k 8)) (.le (.k 1) (.k 8))) (.b (.w [2,1,2]) (.w [0,0,1])) zr hb l2⟩
theorem Rk.fin (hO:Ok S) (h:Rk S 0):S.c=.c3 ∧ S.s=.s2:=by
  obtain ⟨a,b,c,d⟩:=h
  have q:=ok_s hO
  rcases kindS hO with ⟨x,y⟩ | ⟨x,y⟩ | ⟨x,y⟩
  · have:=a x; exact (ln [_] [] [.a (.le (.a (.v 0) (.k 3)) (.k 0)) (.le (.k 4) (.k 0))] (.f) (.w [0,1]) zr this).elim
  · rcases kindC hO with ⟨z,_⟩ | ⟨z,_⟩ | ⟨z,_⟩ | ⟨z,_⟩
    · have:=b x z; exact (ln [_,_] [] [.a (.le (.a (.v 0) (.k 2)) (.k 0)) (.a (.le (.a (.v 1) (.k 1)) (.k 0)) (.le (.k 3) (.k 0)))] (.f) (.w [0,0,1]) zr this).elim
    · have:=c x (by exact ln [_] [] [.eq (.v 0) (.k 1)] (.le (.k 1) (.v 0)) (.w [0,1,1]) zr z) (by exact ln [_] [] [.eq (.v 0) (.k 1)] (.le (.v 0) (.k 2)) (.w [1,0,1]) zr z); exact (ln [_] [] [.a (.le (.a (.v 0) (.k 1)) (.k 0)) (.le (.k 2) (.k 0))] (.f) (.w [0,1]) zr this).elim
    · have:=c x (by exact ln [_] [] [.eq (.v 0) (.k 2)] (.le (.k 1) (.v 0)) (.w [0,1,1]) zr z) (by exact ln [_] [] [.eq (.v 0) (.k 2)] (.le (.v 0) (.k 2)) (.w [1,0,1]) zr z); exact (ln [_] [] [.a (.le (.a (.v 0) (.k 1)) (.k 0)) (.le (.k 2) (.k 0))] (.f) (.w [0,1]) zr this).elim
    · have:=d x z; exact (ln [_] [] [.a (.le (.v 0) (.k 0)) (.le (.k 1) (.k 0))] (.f) (.w [0,1]) zr this).elim
  · refine ⟨?_,y⟩
    rw [y] at q
    have t:=(hO.ch false true).told.2
    rw [q.2] at t
    rcases kindC hO with ⟨_,z⟩ | ⟨_,z⟩ | ⟨_,z⟩ | ⟨_,z⟩ <;> first | exact z | (unfold nP at t; rw [show (S.st false).has true=false by show S.c.has true=false; rw [z]; rfl] at t; exact absurd t (by decide))
end
section
variable {ds:List Dat} {sd:Int} {B:Box} {S:PS} {K Kr:KF} {r:List SV} {z:Int} {b k:Bool} {j F:Nat} {D:Bool→Bool→Nat}
theorem pc_go (hj:j=0 ∨ j=1) (h:Cv S F) (hF:F ≤ 900) (hl:∀ b' k',lenD S b' k' ≤ D b' k')
    (hK:∀ S',Cv S' (F + 1)→S'.c=S.c→S'.s=S.s→(∀ b' k',lenD S' b' k' ≤ upd D b k (D b k - 1) b' k')→pcL j r (σS ds sd j z b none none (hpJ j B (toLS S') (S'.fly.map flD))) K) :
    pcL j (.d (spc k) :: r) (σS ds sd j z b none none (hpJ j B (toLS S) (S.fly.map flD))) K:=by
  refine (pc_step hj).mpr ⟨j,B,S,_,b,k,200,rfl,rfl,⟨hj,h.ok,by decide⟩,fun e=>(pc_none hj).mpr (hK S ⟨h.ok,h.cvr,Nat.le_succ_of_le h.fl⟩ rfl rfl (none_len hl e)),fun lo hi r' e=>?_⟩
  have hd:=(h.ok.ch b k).due
  rw [e] at hd
  have hp:0 ≤ lo ∧ lo < hi ∧ hi ≤ nP S b k:=hd.hd.1
  have hn:=(nP_le (b:=b) (k:=k) h.ok).1
  have m1:=mnV_spec hi (lo + 200)
  have em:mnV hi (lo + 200)=hi:=by exact ln [] [_,_,_,_] [.a (.Le (.k 0) (.v 0)) (.a (.Lt (.v 0) (.v 1)) (.Le (.v 1) (.v 2))),.Le (.v 2) (.k 37),.a (.Le (.v 3) (.v 1)) (.a (.Le (.v 3) (.a (.v 0) (.k 200))) (.o (.Eq (.v 3) (.v 1)) (.Eq (.v 3) (.a (.v 0) (.k 200)))))] (.Eq (.v 3) (.v 1)) (.b (.b (.w [0,0,0,1,0,0,0,0,1]) (.w [1,0,0,1,1,1,0,1])) (.b (.w [1,0,0,0,0,0,0,0,1]) (.w [1,0,0,0,0,0,0,0,1]))) zr hp hn m1
  refine (pc_some hj).mpr (rqLe (by rw [List.length_map]; exact Nat.le_trans h.fl (Nat.le_trans hF (by decide))) ?_)
  have el:(S.fly ++ [(b,k,lo,mnV hi (lo + 200))]).map flD=S.fly.map flD ++ [.tuple [.int (bI b),spc k,.int lo,byt (sl (full b k) lo (mnV hi (lo + 200)))]]:=by rw [List.map_append]; rfl
  rw [← el]
  exact hK _ (h.send e (by exact ln [] [_,_,_,_] [.a (.Le (.k 0) (.v 0)) (.a (.Lt (.v 0) (.v 1)) (.Le (.v 1) (.v 2))),.a (.Le (.v 3) (.v 1)) (.a (.Le (.v 3) (.a (.v 0) (.k 200))) (.o (.Eq (.v 3) (.v 1)) (.Eq (.v 3) (.a (.v 0) (.k 200)))))] (.Lt (.v 0) (.v 3)) (.b (.w [0,0,0,1,0,1,0,1]) (.w [0,0,0,1,0,0,0,1])) zr hp m1) m1.1) rfl rfl (send_len hl hd e (by exact ln [] [_,_,_,_] [.a (.Le (.k 0) (.v 0)) (.a (.Lt (.v 0) (.v 1)) (.Le (.v 1) (.v 2))),.a (.Le (.v 3) (.v 1)) (.a (.Le (.v 3) (.a (.v 0) (.k 200))) (.o (.Eq (.v 3) (.v 1)) (.Eq (.v 3) (.a (.v 0) (.k 200)))))] (.Lt (.v 0) (.v 3)) (.b (.w [0,0,0,1,0,1,0,1]) (.w [0,0,0,1,0,0,0,1])) zr hp m1) em)
theorem sd_go (hj:j=0 ∨ j=1) (h:Cv S F) (hF:F + 1 ≤ 900) (hl:∀ b' k',lenD S b' k' ≤ D b' k')
    (hK:∀ S',Cv S' (F + 2)→S'.c=S.c→S'.s=S.s→(∀ b' k',lenD S' b' k' ≤ upd (upd D b false (D b false - 1)) b true (upd D b false (D b false - 1) b true - 1) b' k')→sdL j r (σR ds sd j (dV (.int z)) (hpJ j B (toLS S') (S'.fly.map flD))) K) :
    sdL j (.tup [.d (.int (bI b)),.obj (sdN b + 7)] :: r) (σR ds sd j (dV (.int z)) (hpJ j B (toLS S) (S.fly.map flD))) K:=by
  refine (sd_step hj).mpr (pc_go hj h (Nat.le_of_succ_le hF) hl fun S1 h1 e1 e2 hl1=>pc_go hj h1 hF hl1 fun S2 h2 e3 e4 hl2=>(pc_end hj).mpr (hK S2 h2 (e3.trans e1) (e4.trans e2) hl2))
theorem send_all (hj:j=0 ∨ j=1) (h:Cv S F) (hF:F + 3 ≤ 900)
    (hK:∀ S',Cv S' (F + 4)→S'.c=S.c→S'.s=S.s→(∀ b k,lenD S' b k ≤ lenD S b k - 1)→rdX 1 (σR ds sd j (dV (.int z)) (hpJ j B (toLS S') (S'.fly.map flD))) Kr) :
    sdL j en2 (σR ds sd j (dV (.int z)) (hpJ j B (toLS S) (S.fly.map flD))) (rk 1 Kr):=by
  show sdL j (.tup [.d (.int (bI false)),.obj (sdN false + 7)] :: .tup [.d (.int (bI true)),.obj (sdN true + 7)] :: []) _ _
  refine sd_go hj h (by exact ln [_] [] [.le (.a (.v 0) (.k 3)) (.k 900)] (.le (.a (.v 0) (.k 1)) (.k 900)) (.w [1,1]) zr hF) (fun _ _=>Nat.le_refl _) fun S1 h1 e1 e2 hl1=>sd_go hj h1 (by exact ln [_] [] [.le (.a (.v 0) (.k 3)) (.k 900)] (.le (.a (.a (.v 0) (.k 2)) (.k 1)) (.k 900)) (.w [1,1]) zr hF) hl1 fun S2 h2 e3 e4 hl2=>sd_end.mpr (hK S2 h2 (e3.trans e1) (e4.trans e2) fun b k=>?_)
  have:=hl2 b k
  cases b <;> cases k <;> exact this
variable {fl:List Dat} {st0:Bool→HSt} {X:List UInt8} {o:Int}
theorem fair_dl (hj:j=0 ∨ j=1) (hO:Ok S) {W:List Dat} (h:dlL j r (σD ds sd j fl z none none none none (hpJ (j + 1) B (toLS S) W)) K) :
    exV T3 (ops T3 58) (d0B.drop 1) (σE ds sd j fl z b k o X (hpJ (j + 1) B (toLS S) W)) (dlK j r K):=
  (dl_fair hj).mpr ⟨j + 1,B,S,W,rfl,rfl,⟨by exact ln [_] [] [.o (.eq (.v 0) (.k 0)) (.eq (.v 0) (.k 1))] (.o (.eq (.a (.v 0) (.k 1)) (.k 0)) (.o (.eq (.a (.v 0) (.k 1)) (.k 1)) (.eq (.a (.v 0) (.k 1)) (.k 2)))) (.b (.w [1]) (.b (.w [1,0,1]) (.b (.w [1,1]) (.b (.w [1,1]) (.b (.w [1,1]) (.b (.w [1,1]) (.b (.w [0,1,1]) (.b (.w [1,0,0,1]) (.w [1,0,0,0,1]))))))))) zr hj,hO⟩,(tidy_j hj).mpr (bite_f ((dl_next hj).mpr h))⟩
theorem deliver (hj:j=0 ∨ j=1) (hF:F ≤ 900) {r:List Fly}:∀ {S:PS} {W:List Fly},Md st0 D F S r W→(∀ S' W',Md st0 D F S' [] W'→rdX 3 (σD ds sd j fl z none none none none (hpJ (j + 1) B (toLS S') (W'.map flD))) Kr) →
    dlL j ((r.map flD).map .d) (σD ds sd j fl z none none none none (hpJ (j + 1) B (toLS S) (W.map flD))) (rk 3 Kr):=by
  induction r with
  | nil=>intro S W h hK; exact dl_end.mpr (hK S W h)
  | cons p r ih =>
    intro S W h hK
    obtain ⟨b,k,o,e⟩:=p
    have hp:0 ≤ o ∧ o < e ∧ e ≤ nP S b k:=h.cv.ok.fly (b,k,o,e) (by rw [h.fly]; exact List.mem_cons_self ..)
    have hw:(W.map flD).length ≤ 1000:=by
      have:=h.cv.fl
      rw [h.fly,List.length_append] at this
      rw [List.length_map]; exact ln [_,_,_] [] [.le (.v 0) (.k 900),.le (.a (.v 1) (.v 2)) (.v 0)] (.le (.v 2) (.k 1000)) (.w [1,1,1]) zr hF this
    refine (dl_step hj).mpr ⟨j + 1,B,S,W.map flD,!b,k,rfl,rfl,by exact ln [_] [] [.o (.eq (.v 0) (.k 0)) (.eq (.v 0) (.k 1))] (.o (.eq (.a (.v 0) (.k 1)) (.k 0)) (.o (.eq (.a (.v 0) (.k 1)) (.k 1)) (.eq (.a (.v 0) (.k 1)) (.k 2)))) (.b (.w [1]) (.b (.w [1,0,1]) (.b (.w [1,1]) (.b (.w [1,1]) (.b (.w [1,1]) (.b (.w [1,1]) (.b (.w [0,1,1]) (.b (.w [1,0,0,1]) (.w [1,0,0,0,1]))))))))) zr hj,(tidy_j hj).mpr (bi (fun hr=>?_) fun hr=>?_)⟩
    · have m:=h.arr hr
      exact (dl_arr hj).mpr ⟨j + 1,B,S,W.map flD,b,k,o,e,rfl,rfl,⟨by exact ln [_] [] [.o (.eq (.v 0) (.k 0)) (.eq (.v 0) (.k 1))] (.o (.eq (.a (.v 0) (.k 1)) (.k 0)) (.o (.eq (.a (.v 0) (.k 1)) (.k 1)) (.eq (.a (.v 0) (.k 1)) (.k 2)))) (.b (.w [1]) (.b (.w [1,0,1]) (.b (.w [1,1]) (.b (.w [1,1]) (.b (.w [1,1]) (.b (.w [1,1]) (.b (.w [0,1,1]) (.b (.w [1,0,0,1]) (.w [1,0,0,0,1]))))))))) zr hj,h.cv.ok,hp.1,hp.2.1,hp.2.2,hr⟩,dl_go.mpr (fair_dl (S:=flP (arrP S b k o e) (r ++ W)) hj m.cv.ok (ih m hK))⟩
    · refine (dl_els hj).mpr (bi (fun hc=>rqLe hw (dl_go.mpr ?_)) fun hc=>dl_go.mpr ?_)
      · have m:=h.wait hr (by
          have hc:(!(S.st (!b)).comp)=true:=hc
          cases x:(S.st (!b)).comp with
          | false=>rfl
          | true=>rw [x] at hc; cases hc)
        have q:=ih m hK
        rw [List.map_append] at q
        exact fair_dl (S:=flP S (r ++ (W ++ [(b,k,o,e)]))) hj m.cv.ok q
      · have m:=h.drop (by
          have hc:(!(S.st (!b)).comp)=false:=hc
          cases x:(S.st (!b)).comp with
          | true=>rfl
          | false=>rw [x] at hc; cases hc)
        exact fair_dl (S:=flP S (r ++ W)) hj m.cv.ok (ih m hK)
theorem md_start {S1:PS} (h0:Ok S) (h:Cv S1 F) (e1:S1.c=S.c) (e2:S1.s=S.s) (hl:∀ b k,lenD S1 b k ≤ lenD S b k - 1):Md S.st (D1 S) F S1 S1.fly []:=by
  have es:S1.st=S.st:=by funext b; cases b; exact e1; exact e2
  refine ⟨h,(List.append_nil _).symm,fun b=>by rw [es]; exact Nat.le_refl _,fun b k=>?_,fun b k q=>?_,fun p hp=>nomatch hp⟩
  · cases x:(S.st b).has k with
    | true=>rw [d1T x]; exact hl b k
    | false =>
      rw [d1F x]
      refine Nat.le_trans (hl b k) ?_
      unfold lenD
      rw [due0 h0 x]
      exact Nat.zero_le _
  · rw [es] at q
    rw [d1F q]; exact Nat.le_refl _
theorem round_go {n:Nat} (hj:j=0 ∨ j=1) (h:Cv S F) (hk:Rk S (n + 1)) (hF:F + 4 ≤ 900) (hK:∀ S',Cv S' (F + 4)→Rk S' n→rdL o58 r (σR ds sd 1 none (hpJ 1 B (toLS S') (S'.fly.map flD))) K) :
    rdL o58 (.d (.int z) :: r) (σR ds sd j none (hpJ j B (toLS S) (S.fly.map flD))) K:=by
  refine (rd_step hj).mpr (send_all hj h (by exact ln [_] [] [.le (.a (.v 0) (.k 4)) (.k 900)] (.le (.a (.v 0) (.k 3)) (.k 900)) (.w [1,1]) zr hF) fun S1 h1 e1 e2 hl=>(rd_1 hj).mpr (deliver (W:=[]) hj hF (md_start h.ok h1 e1 e2 hl) fun S2 W2 m=>(rd_3 hj).mpr ?_))
  have q:=hK S2 m.cv (Rk.step h.ok m hk)
  rw [show S2.fly=W2 from m.fly] at q
  exact q
theorem rounds_go {n:Nat}:∀ {F:Nat} {z:Int} {S:PS},Cv S F→Rk S n→F + 4 * n ≤ 900→(∀ S',Ok S'→Rk S' 0→rdL o58 [] (σR ds sd 1 none (hpJ 1 B (toLS S') (S'.fly.map flD))) K) →
    rdL o58 (rngL 1 n z) (σR ds sd 1 none (hpJ 1 B (toLS S) (S.fly.map flD))) K:=by
  induction n with
  | zero=>intro F z S h hk _ hK; exact hK S h.ok hk
  | succ n ih=>intro F z S h hk hF hK; exact round_go (.inr rfl) h hk (by exact ln [_,_] [] [.le (.a (.v 0) (.m 4 (.a (.v 1) (.k 1)))) (.k 900)] (.le (.a (.v 0) (.k 4)) (.k 900)) (.w [1,1]) zr hF) fun S' h' hk'=>ih h' hk' (by exact ln [_,_] [] [.le (.a (.v 0) (.m 4 (.a (.v 1) (.k 1)))) (.k 900)] (.le (.a (.a (.v 0) (.k 4)) (.m 4 (.v 1))) (.k 900)) (.w [1,1]) zr hF) hK
theorem eight_go {X Y:Nat} (h:Inv S X Y 10) (hK:∀ B L l,K .next (σZ ds sd B L l)):lwX o58 8 (σW ds sd (oV 61) none none none none none none none none none none (hpJ 0 B (toLS S) (S.fly.map flD))) K:=by
  refine lw_8.mpr (round_go (n:=7) (F:=10) (j:=0) (.inl rfl) (h.cv (Nat.le_refl _)) (Rk.start h) (by decide) fun S1 h1 k1=>rounds_go h1 k1 (by decide) fun S2 h2 k2=>rd_end.mpr ?_)
  obtain ⟨e1,e2⟩:=Rk.fin h2 k2
  have es:toLS S2=setS (toLS S2) .c3 .s2:=(congrArg (fun s=>setS (toLS S2) s S2.s) e1).trans (congrArg (fun s=>setS (toLS S2) .c3 s) e2)
  rw [es]
  refine lw_s9.mpr (lw_9.mpr ⟨ds,sd,B,setS (toLS S2) .c3 .s2,S2.fly.map flD,rfl,rfl,lwK_n.mpr ?_⟩)
  exact lw_s10.mpr (lw_10.mpr (lwK_n.mpr (lw_s11.mpr (lw_11.mpr (lwK_n.mpr (lw_s12.mpr (lw_12.mpr (lwK_n.mpr (lw_13.mpr (hK _ _ _))))))))))
end
noncomputable abbrev sdF (l:List SV) (σ:Sy) (K:KF):Prop:=lpF (O2 o58) (stA lawR.body 1) 0 (nm ["one"]) l σ K
noncomputable def σ0 (ds:List Dat) (s:Option SV):Sy:=⟨lawR.scope,[(strS "script",some (.d (.list ds))),(strS "seed",s),(strS "one",none),(strS "box",none),(strS "client",none),(strS "server",none),(strS "sides",none),(strS "flying",none),(strS "turn",none),(strS "at",none),(strS "side",none),(strS "space",none),(strS "chunk",none),(strS "waiting",none),(strS "sender",none),(strS "offset",none),(strS "data",none),(strS "ends",none),(strS "e",none)],[]⟩
section
variable {ds:List Dat} {B:Box} {K:KF} {r:List SV} {x sd:Int}
theorem lw_s0 {σ:Sy}:lwX o58 0 σ K=lwS 0 σ (lwK o58 1 K):=by kernel_rfl
theorem lw_s1 {σ:Sy}:lwX o58 1 σ K=lwS 1 σ (lwK o58 2 K):=by kernel_rfl
theorem lw_s2 {σ:Sy}:lwX o58 2 σ K=lwS 2 σ (lwK o58 3 K):=by kernel_rfl
theorem lw_0:lwS 0 (σ0 ds none) K=K .next (σ0 ds (dV (.int 77))):=by kernel_rfl
theorem lw_1:lwS 1 (σ0 ds (dV (.int sd))) K=req (Nat.ble ds.length 1000) (sdF ((pickL ds none (some 24)).map .d) (σ0 ds (dV (.int sd))) K):=by kernel_rfl
theorem sd_one:sdF (.d (.int x) :: r) (σ0 ds (dV (.int sd))) K=req (Nat.ble sd.natAbs 9223372036854775807) (sdF r (σ0 ds (dV (.int (Int.fmod (sd * 31 + x) 2147483647)))) K):=by kernel_rfl
theorem sd_nil {σ:Sy}:sdF [] σ K=K .next σ:=by kernel_rfl
theorem lw_2:lwS 2 (σ0 ds (dV (.int sd))) K=req (Nat.ble ds.length 1000) (req (Nat.ble (pickL ds none (some 24)).length 1000) (K .next ⟨lawR.scope,locL sd ds,[.dlist (pickL ds none (some 24)),.list [.obj 0,.d (.int sd)]]⟩)):=by kernel_rfl
end
structure Wr (P:Prop):Prop where
  go:P
theorem Wr.of {P Q:Prop} (h:Wr Q) (e:P=Q):Wr P:=e ▸ h
theorem Wr.rq {a b:Nat} {P:Prop} (h:Wr P) (hb:a ≤ b):Wr (req (Nat.ble a b) P):=⟨rqLe hb h.go⟩
theorem putR_w {n:Int} {k:List (Int × Int)→Prop} (hn:0 < n) (h:Wr (k [(0,n)])):Wr (putR n k):=⟨putR_of hn h.go⟩
theorem exV_app {T:Tab} {o:Ops} {m:List Stmt} {K:KF} {l:List Stmt}:∀ {σ:Sy},exV T o (l ++ m) σ K=exV T o l σ fun fl σ1=>onF fl (exV T o m σ1 K) (K .brk σ1) fun u=>K (.ret u) σ1:=by
  induction l with
  | nil=>intro σ; rfl
  | cons st r ih =>
    intro σ
    show st1 T o st σ (fun fl σ1=>onF fl (exV T o (r ++ m) σ1 K) (K .brk σ1) fun u=>K (.ret u) σ1)=st1 T o st σ _
    refine congrArg _ (funext fun fl=>funext fun σ1=>?_)
    cases fl with
    | next=>exact ih
    | brk=>rfl
    | ret u=>rfl
noncomputable def p0:PCh:=⟨[],[],0,[],[]⟩
noncomputable def PS0:PS:=⟨fun b k=>@Bool.rec (fun _=>PCh) (@Bool.rec (fun _=>PCh) ⟨[(0,37)],[],0,[],[]⟩ p0 k) p0 b,.c0,.s0,[]⟩
theorem ps0_eq:upCh LS0 false false ⟨[(0,37)],[],0,[],[]⟩=toLS PS0:=ls_ext (fun b k=>by cases b <;> cases k <;> rfl) (fun b=>by cases b <;> rfl) (fun b k=>by cases b <;> cases k <;> rfl) fun b k=>by cases b <;> cases k <;> rfl
theorem ok0:Ok PS0:=by
  have e0:∀ {n},0 ≤ n→ChOk n p0:=fun hn=>⟨⟨Int.le_refl _,hn⟩,.nil,fun _ h=>(nomatch h),List.Pairwise.nil,fun i=>⟨fun h=>(nomatch h),fun h=>h.elim (fun h=>by have:=h.1; have:i < 0:=h.2; exact (ln [] [_,_] [.a (.Le (.k 0) (.v 0)) (.Lt (.v 0) (.v 1)),.Lt (.v 0) (.k 0)] (.f) (.w [1,1]) zr h this).elim) fun h=>absurd h Has.nil⟩,.nil,.nil⟩
  refine ⟨fun r=>?_,⟨.inl rfl,.inl rfl⟩,fun b k=>?_,fun p hp=>nomatch hp⟩
  · cases r
    · exact ⟨(by decide:(0:Int) < 14),rfl⟩
    · exact ⟨(by decide:(0:Int) < 37),rfl⟩
  · cases b with
    | true=>cases k <;> exact e0 (Int.le_refl 0)
    | false=>cases k with
      | true=>exact e0 (Int.le_refl 0)
      | false =>
        have e:=e0 (n:=37) (by decide)
        exact ⟨e.told,e.ws,e.wt,e.nd,e.cs,.cons ⟨by decide,by decide,by decide⟩ (fun _ h=>nomatch h) .nil,.nil⟩
theorem inv0:Inv PS0 0 0 0 where
  ok:=ok0
  cnt:=fun b k i h0 h1=>by
    have n0:dN [] i=0:=ind0 Has.nil
    cases b with
    | true=>cases k <;> exact absurd h1 (Int.not_lt.mpr h0)
    | false=>cases k with
      | true=>exact absurd h1 (Int.not_lt.mpr h0)
      | false =>
        show dN [((0:Int),(37:Int))] i + dN [] i + 0=1
        rw [n0]
        exact ind1 ⟨_,List.mem_singleton.mpr rfl,h0,h1⟩
  ack:=fun b k i h=>by
    have:Has [] i:=by cases b <;> cases k <;> exact h
    exact absurd this Has.nil
  bud:=Nat.le_refl _
  len:=fun b k=>by cases b <;> cases k <;> decide
  noY:=fun _ b k=>by cases b <;> cases k <;> rfl
section
variable {ds:List Dat} {B:Box} {K:KF} {r:List SV} {x sd:Int} {S:PS}
theorem turns_go {n:Nat}:∀ {z:Int} {B:Box} {S:PS} {X Y t:Nat},Inv S X Y t→t + n=10→okB B→(∀ B' S' X' Y',Inv S' X' Y' 10→tnL o58 [] (σW ds sd (oV 61) none none none none none none none none none none (hpJ 0 B' (toLS S') (S'.fly.map flD))) K) →
    tnL o58 (rngL 1 n z) (σW ds sd (oV 61) none none none none none none none none none none (hpJ 0 B (toLS S) (S.fly.map flD))) K:=by
  induction n with
  | zero=>intro z B S X Y t h ht hB hK; exact hK B S X Y (by rw [← ht]; exact h)
  | succ n ih =>
    intro z B S X Y t h ht hB hK
    refine tn_step.mpr ⟨B,S,X,Y,t,rfl,rfl,⟨h,by exact ln [_,_] [] [.eq (.a (.v 0) (.a (.v 1) (.k 1))) (.k 10)] (.le (.v 0) (.k 100)) (.w [1,0,1]) zr ht,hB⟩,fun B' S' X' Y' hB' h'=>?_⟩
    exact tn_fair.mpr ⟨0,B',S',_,rfl,rfl,⟨.inl rfl,h'.ok⟩,tn_q.mpr (ih h' (by exact ln [_,_] [] [.eq (.a (.v 0) (.a (.v 1) (.k 1))) (.k 10)] (.eq (.a (.a (.v 0) (.k 1)) (.v 1)) (.k 10)) (.b (.w [0,1,1]) (.w [1,0,1])) zr ht) hB' hK)⟩
theorem body3:lawB.drop 3=(lawR.body.drop 3).take 4 ++ lawB.drop 7:=by kernel_rfl
theorem lw3_app {σ:Sy}:lwX o58 3 σ K=exV T3 (O2 o58) ((lawR.body.drop 3).take 4) σ (lwK o58 7 K):=(congrArg (fun l=>exV T3 (O2 o58) l σ K) body3).trans exV_app
theorem lw7_eq:lwX o58 7 (σ7 ds B [(0,37)]) K=tnL o58 (rngL 1 10 0) (σW ds B.sd (oV 61) none none none none none none none none none none (hpJ 0 B (upCh LS0 false false ⟨[(0,37)],[],0,[],[]⟩) [])) (lwK o58 8 K):=lw_7a.trans ((congrArg (ovS K) frz_7).trans (lw_7b.trans lpN_0))
noncomputable def tn0 (ds:List Dat) (B:Box) (K:KF) (L:LS):Prop:=tnL o58 (rngL 1 10 0) (σW ds B.sd (oV 61) none none none none none none none none none none (hpJ 0 B L [])) (lwK o58 8 K)
theorem lw3_eq:lwX o58 3 (σP ds B) K=putR 37 fun du=>lwK o58 7 K .next (σ7 ds B du):=lw3_app.trans prologue3
theorem tn0_go (hB:okB B) (hK:∀ B' L l,K .next (σZ ds B.sd B' L l)):tn0 ds B K (toLS PS0):=
  turns_go (ds:=ds) (sd:=B.sd) (K:=lwK o58 8 K) (z:=0) (n:=10) (S:=PS0) inv0 rfl hB fun B' S' X' Y' h=>tn_lw.mpr (eight_go h hK)
theorem lw7_go (hB:okB B) (hK:∀ B' L l,K .next (σZ ds B.sd B' L l)):Wr (lwX o58 7 (σ7 ds B [(0,37)]) K):=(Wr.mk (tn0_go hB hK)).of (lw7_eq.trans (congrArg (tn0 ds B K) ps0_eq))
theorem law3_go (hB:okB B) (hK:∀ B' L l,K .next (σZ ds B.sd B' L l)):Wr (lwX o58 3 (σP ds B) K):=(putR_w (k:=fun du=>lwK o58 7 K .next (σ7 ds B du)) (by decide) ((lw7_go hB hK).of lwK_n)).of lw3_eq
theorem sd_oneW (h0:0 ≤ sd ∧ sd < 2147483647) (h:Wr (sdF r (σ0 ds (dV (.int (Int.fmod (sd * 31 + x) 2147483647)))) K)):Wr (sdF (.d (.int x) :: r) (σ0 ds (dV (.int sd))) K):=(h.rq (abs_le h0.1 (Int.le_of_lt (Int.lt_trans h0.2 (by decide))))).of sd_one
theorem seed_go {zs:List Int}:∀ {sd:Int},(0 ≤ sd ∧ sd < 2147483647)→(∀ sd',(0 ≤ sd' ∧ sd' < 2147483647)→Wr (K .next (σ0 ds (dV (.int sd')))))→Wr (sdF ((zs.map Dat.int).map .d) (σ0 ds (dV (.int sd))) K):=by
  induction zs with
  | nil=>intro sd h hK; exact (hK sd h).of sd_nil
  | cons z r ih=>intro sd h hK; exact sd_oneW h (ih ⟨Int.fmod_nonneg_of_pos _ (by decide),Int.fmod_lt_of_pos _ (by decide)⟩ hK)
theorem pick_map {zs:List Int}:pickL (zs.map Dat.int) none (some 24)=((zs.take 24).map Dat.int) ∧ (zs.take 24).length ≤ 24:=by
  refine ⟨?_,by rw [List.length_take]; exact Nat.min_le_left ..⟩
  show ((zs.map Dat.int).drop 0).take (min 24 (zs.map Dat.int).length - 0)=_
  rw [List.drop_zero,Nat.sub_zero,List.map_take]
  by_cases h:24 ≤ (zs.map Dat.int).length
  · rw [Nat.min_eq_left h]
  · rw [Nat.min_eq_right (by exact ln [_] [] [.n (.le (.k 24) (.v 0))] (.le (.v 0) (.k 24)) (.w [1,1]) zr h),List.take_of_length_le (Nat.le_refl _),List.take_of_length_le (by exact ln [_] [] [.n (.le (.k 24) (.v 0))] (.le (.v 0) (.k 24)) (.w [1,1]) zr h)]
theorem lw2_go {zs:List Int} (hl:(zs.map Dat.int).length ≤ 1000) (h:Wr (lwX o58 3 (σP (zs.map .int) ⟨zs.take 24,sd⟩) K)):Wr (lwX o58 2 (σ0 (zs.map .int) (dV (.int sd))) K):=by
  obtain ⟨e1,e2⟩:=pick_map (zs:=zs)
  refine Wr.of ?_ (lw_s2.trans lw_2)
  rw [e1]
  exact ((h.of lwK_n).rq (by rw [List.length_map]; exact ln [_] [] [.le (.v 0) (.k 24)] (.le (.v 0) (.k 1000)) (.w [1,1]) zr e2)).rq hl
theorem lw1_go {zs:List Int} (hl:(zs.map Dat.int).length ≤ 1000) (h:Wr (sdF (((zs.take 24).map Dat.int).map .d) (σ0 (zs.map .int) (dV (.int sd))) (lwK o58 2 K))):Wr (lwX o58 1 (σ0 (zs.map .int) (dV (.int sd))) K):=by
  obtain ⟨e1,e2⟩:=pick_map (zs:=zs)
  refine Wr.of ?_ (lw_s1.trans lw_1)
  rw [e1]
  exact h.rq hl
theorem law_go {zs:List Int} (hz:zs.length ≤ 900) (hK:∀ sd B L l,K .next (σZ (zs.map .int) sd B L l)):Wr (lwX o58 0 (σ0 (zs.map .int) none) K):=by
  have hl:(zs.map Dat.int).length ≤ 1000:=by rw [List.length_map]; exact ln [_] [] [.le (.v 0) (.k 900)] (.le (.v 0) (.k 1000)) (.w [1,1]) zr hz
  refine ((lw1_go hl (seed_go ⟨by decide,by decide⟩ fun sd hsd=>(lw2_go hl (law3_go ⟨hsd,(pick_map (zs:=zs)).2⟩ fun B' L l=>hK _ B' L l)).of lwK_n)).of lwK_n).of (lw_s0.trans lw_0)
end
end Mine
section
open PySem PySem.W PyProof.Rows PySem.Calls
namespace Mine
section
variable {W:Wd} {o:Ops} {n m:Nat}
theorem Snd.up (h:Snd W o n) (hm:n ≤ m):Snd W o m:=⟨fun a _ _ _ _ ok S G=>h.ev a (ok.le hm) S G,fun a _ _ _ _ ok S G=>h.ts a (ok.le hm) S G,fun a _ _ _ _ ok hc S G=>h.ex a (ok.le hm) hc S G,fun a _ _ _ _ _ _ ok S f l G=>h.cl a (ok.le hm) S f l G⟩
structure WOK (W:Wd):Prop where
  K:KOK W.w.params W.K
  p:importsNone W.p=true
  prog:W.prog=PySem.Challenge.rw_no0086_01.prog
  cb:W.cb=true
theorem keys_in {α:Type} {l:List (Nat × α)} (h:l.all (fun p=>(lookN p.1 fnL).isSome)=true) {a:Nat} {g:α} (e:lookN a l=some g):∃ r,lookN a fnL=some r:=
  Option.isSome_iff_exists.mp (List.all_eq_true.mp h _ (lookN_mem e))
theorem k1:pureL.all (fun p=>(lookN p.1 fnL).isSome)=true:=by kernel_rfl
theorem k2:(lawL ++ pureL.map fun p=>(p.1,spA p.2)).all (fun p=>(lookN p.1 fnL).isSome)=true:=by kernel_rfl
theorem k3:((488,g488) :: (lawL ++ pureL.map fun p=>(p.1,spA p.2))).all (fun p=>(lookN p.1 fnL).isSome)=true:=by kernel_rfl
theorem st_no {T:Tab} {b:Nat} (h:T.st=none:=by rfl):StOK W T b:=fun g e=>by rw [h] at e; cases e
theorem snd0 (H:WOK W):Snd W (ops T0 30) 30:=ops_snd (b:=0) (tab_ok H.K H.p (fun _=>H.cb) fun a g h=>nomatch (h:(none:Option (List SV→Sy→KV→Prop))=some g)) (fun a g h=>nomatch (h:(none:Option (List SV→Sy→KV→Prop))=some g)) st_no 30
theorem snd1 (H:WOK W):Snd W (ops T1 40) 70:=ops_snd (b:=30) (tab_ok H.K H.p (fun _=>H.cb) fun a g h=>by
  obtain ⟨f,e1,_⟩:=Option.map_eq_some_iff.mp (h:(lookN a pureL).map spA=some g)
  exact keys_in k1 e1) (sp1_ok (snd0 H)) st_no 40
theorem snd2 (H:WOK W):Snd W (ops T2 60) 130:=ops_snd (b:=70) (tab_ok H.K H.p (fun _=>H.cb) fun a g h=>keys_in k2 h) (sp2_ok ((snd0 H).up (by decide)) (snd1 H)) st_no 60
theorem g488_ok {args:List SV} {σ:Sy} {K:KV} (h:g488 args σ K):(ops T2 60).cl (.ref 488) args σ K:=by
  obtain ⟨B,P,X,Y,t,rfl,e2,⟨i,ht,hB⟩,hK⟩:=h
  obtain ⟨sc,loc,hp⟩:=σ
  obtain rfl:hp=_:=e2
  exact moved_go (n:=10) i ht hB hK
theorem sp3_ok (H:WOK W):SpOK W T3 130:=by
  intro a g hg args c K h x Γ Q E us ok S hd G
  have hm:(a,g) ∈ (488,g488) :: (lawL ++ pureL.map fun p=>(p.1,spA p.2)):=lookN_mem hg
  rcases List.mem_cons.mp hm with e | hm
  · obtain ⟨rfl,rfl⟩:a=488 ∧ g=g488:=⟨congrArg (·.1) e,congrArg (·.2) e⟩
    exact ((snd2 H).cl (g488_ok h) ok S (.a1 (.ref 488)) hd G).2
  · rcases List.mem_append.mp hm with hm | hm
    · exact ((snd1 H).cl (law_ok hm h) (ok.le (by decide)) S (.a1 (.ref a)) hd G).2
    · obtain ⟨p,hp,e⟩:=List.mem_map.mp hm
      cases e
      exact spA_snd ((snd0 H).up (by decide)) (fun h=>pure_ok hp h) h ok S hd G
theorem snd3 (H:WOK W) (ST:StOK W T3 130):Snd W (ops T3 61) 191:=ops_snd (b:=130) (tab_ok H.K H.p (fun _=>H.cb) fun a g h=>keys_in k3 h) (sp3_ok H) ST 61
end
end Mine
end
section
open PySem PySem.W PyProof.Rows PySem.Calls
namespace Mine
theorem at_fullW {prog:Program} {w:World} {A:Around} {Γ:Ctx} {Q:Value→Shared→Prop} {E:Value→Shared→Prop} {s:Shared} {name:Str} {params:Arguments} {body:List Stmt} {scope:Scope}
    {dV kV pm cd doc:Value} {a:Addr} {o:Obj} {args:List Value} {binds:List (Str × Value)}
    (hI:Γ.In A) (hC:Clean cb Γ)
    (hroom:A.depth < recursionLimit) (ho:s.heap.get? a=some o) (hdata:o.data=.func { docDef name params body scope pm cd doc with defaults:=dV,kwdefaults:=kV }) (hlim:s.heap.NoLimit) (hcd:s.heap.CodeRec cd name)
    (hbind:BindsTo s { docDef name params body scope pm cd doc with defaults:=dV,kwdefaults:=kV } ⟨args,[]⟩ binds)
    (hloc:∀ x ∈ binds,scope.names.lookup x.1=some .local)
    (h:∀ h₁ Γ',Fr s.heap s.heap.objs.size h₁ (fun x=>binds.reverse.lookup x)→Γ'.In (A.deeper (envOf name scope s.heap.objs.size a cd))→Clean cb Γ' →
      wpAt (model prog w) Γ' (execs body (envOf name scope s.heap.objs.size a cd)) (fun f s'=>Q (match f with | .ret v=>v | _=>.none) s') (fun _ _=>False) { s with heap:=h₁,toks:=s.toks + binds.length })
    (hco:scope.isCoroutine=false:=by rfl) (hgen:scope.isGenerator=false:=by rfl) (hk:scope.kind=.function:=by rfl)
    (hcell:∀ x ∈ scope.names,x.2 ≠ .cell:=by decide) :
    wpAt (model prog w) Γ (call (.ref a) args) Q E s:=by
  refine at_call fun p0=>?_
  have hB:(Γ.enter (.call (.ref a) ⟨args,[]⟩) none p0).Below A:=hI.enter _ none p0 (by intro x; cases x)
  have hC1:Clean cb (Γ.enter (.call (.ref a) ⟨args,[]⟩) none p0):=hC.enter none p0 rfl
  refine codeAt_call_function rfl hB hroom ho hdata hco hgen rfl hcd (hbind _ _ _ _ ?_)
  refine wpAny_newFunctionEnv hcell hloc (fun h₁ hns hsb=>⟨hlim.fresh _ hsb,?_⟩) hk
  have hk₁:∀ b o,s.heap.get? b=some o→h₁.get? b=some o:=fun b o e=>hsb.extBut b o (Nat.ne_of_lt (Heap.lt_size e)) (Heap.get?_push_of_some _ e)
  have hB2:=hB.goto (.func body (envOf name scope s.heap.objs.size a cd))
  have hI2:=hB2.in
  refine codeAt_func rfl ?_
  exact at_mono (h h₁ ((Γ.enter (.call (.ref a) ⟨args,[]⟩) none p0).goto (.func body (envOf name scope s.heap.objs.size a cd))) ⟨hns,hk₁,Nat.le_refl _⟩ hI2 (hC1.goto rfl)) (fun fl s' hl=>hl) fun _ _ y=>y
end Mine
end
section
open PySem PySem.W PyProof.Rows PySem.Calls
namespace Mine
theorem law_kind:lawR.scope.kind=.function:=by kernel_rfl
theorem law_nocell:lawR.scope.names.all (fun p=>match p.2 with | .cell=>false | _=>true)=true:=by kernel_rfl
theorem law_script:lookS (strS "script") lawR.scope.names=some .local:=by kernel_rfl
theorem ints_dat {F:List (Addr × Obj)} {vs:List Value} {zs:List Int} (h:IntsAre vs zs):DatAll F vs (zs.map .int):=by
  induction h with
  | nil=>exact .nil
  | cons n t _ ih=>exact .cons (.int n t) ih
theorem loc_none {y:Str} {v:SV} {l:List (Str × Option SV)} (hl:l.all (fun p=>p.2.isNone)=true):lookS y l ≠ some (some v):=fun e=>by
  have:=List.all_eq_true.mp hl _ (lookS_mem e)
  cases this
noncomputable def besJ (g h:Heap) (a:Addr):List (Addr × Obj):=(List.range h.objs.size).filterMap fun b=>if b=a then none else if (g.get? b).isSome then none else (h.get? b).map (b,·)
theorem besJ_mem {g h:Heap} {a:Addr} {p:Addr × Obj} (hp:p ∈ besJ g h a):p.1 ≠ a ∧ g.get? p.1=none ∧ h.get? p.1=some p.2:=by
  obtain ⟨b,_,e⟩:=List.mem_filterMap.mp hp
  by_cases c:b=a
  · rw [if_pos c] at e; cases e
  · rw [if_neg c] at e
    by_cases d:(g.get? b).isSome=true
    · rw [if_pos d] at e; cases e
    · rw [if_neg d] at e
      obtain ⟨o,e1,rfl⟩:=Option.map_eq_some_iff.mp e
      refine ⟨c,?_,e1⟩
      cases q:g.get? b with
      | none=>rfl
      | some _=>exact absurd (by show (g.get? b).isSome=true; rw [q]; rfl) d
theorem besJ_of {g h:Heap} {a b:Addr} {o:Obj} (e:h.get? b=some o) (n:b ≠ a) (d:g.get? b=none):(b,o) ∈ besJ g h a:=
  List.mem_filterMap.mpr ⟨b,List.mem_range.mpr (Heap.lt_size e),by rw [if_neg n,d,e]; rfl⟩
theorem lw_top {σ:Sy} {K:KF}:(ops T3 61).ex lawB σ K=lwX o58 0 σ K:=by kernel_rfl
theorem law_ex {zs:List Int} {K:KF} (hz:zs.length ≤ 900) (hK:∀ sd B L l,K .next (σZ (zs.map .int) sd B L l)):Wr ((ops T3 61).ex lawB (σ0 (zs.map .int) none) K):=(law_go hz hK).of lw_top
theorem use_ex {W:Wd} {o:Ops} {n:Nat} (h:Snd W o n) {l:List Stmt} {c:Cf} {K:KF} (e:Wr (o.ex l c.σ K)) {x:Ac} {Γ:Ctx} {Q:Flow→Shared→Prop} {E:Value→Shared→Prop} (ok:x.Ok W Γ n) (hcc:x.cc=none) (S:St W x c) (G:GoesS W x (DenF W) c K Q):wpAt W.M Γ (execs l x.env) Q E c.s:=h.ex e.go ok hcc S G
theorem dp_ok:callerA.depth + 1 + 2 * 191 + 40 < recursionLimit:=by decide +kernel
theorem un_ok:callerA.units + 3 + 16 * 191 + 320 < cLine:=by decide +kernel
noncomputable abbrev lawAc (cn:Str) (fa:Addr) (cd:Value) (s₀ s₁:Shared):Ac:=⟨callerA.depth + 1,callerA.units + 3,(callerA.deeper (envX cn lawR.scope s₁.heap.objs.size fa cd [])).guards,cn,lawR.scope,s₁.heap.objs.size,fa,cd,[],[],callerA,s₀.heap,s₀.heap,none,#[],s₁.os,none⟩
theorem law_entry {K:Frag} {p:Program} {loose:List Str} {mean:ExcName→Option Value} {mg mb:Str→Option Value} {w:World} {s₀ s₁:Shared} {fa sc0:Addr} {vs:List Value} {zs:List Int} {cd:Value} {cn:Str} {h₁:Heap} {tk:Nat} {m:Str→Option Value} {Γ:Ctx} {Q:Flow→Shared→Prop} {E:Value→Shared→Prop}
    (HK:KOK w.params K) (ST:∀ W,WOK W→StOK W T3 130) (T0:Top p loose mean mg mb s₀.heap) (X0:(K).In s₀.heap) (hp:importsNone p=true) (kp:∀ b o,s₀.heap.get? b=some o→s₁.heap.get? b=some o) (h0:s₀.heap.objs.size ≤ sc0) {nn:Nat} (ho:s₁.heap.get? sc0=some (listOf vs.toArray nn)) (hz:IntsAre vs zs) (hzl:zs.length ≤ 900) (hg:s₁.gens=#[])
    (F:Fr s₁.heap s₁.heap.objs.size h₁ m) (hm:m (strS "script")=some (.ref sc0)) (hI:Γ.In (callerA.deeper (envX cn lawR.scope s₁.heap.objs.size fa cd []))) (hC:Clean true Γ)
    (hQ:∀ (x:Ac) (c':Cf) sd B L l,x.cs=lawR.scope→x.cc=none→x.hh=none→x.base=x.h₀→(x.gn=#[] ∧ x.os=s₁.os)→x.dp + 422 < recursionLimit→x.un + 3376 < cLine→Below x.A₀ x.base x.outer x.h₀→(K).In x.h₀→Top p loose mean mg mb x.h₀→Γ.In x.ar→x.fenv=envX cn lawR.scope s₁.heap.objs.size fa cd []→St ⟨PySem.Challenge.rw_no0086_01.prog,w,K,p,loose,mean,mg,mb,true⟩ x c'→c'.σ=σZ (zs.map .int) sd B L l→(∀ (h':Heap) (m':Str→Option Value),Fr x.h₀ x.L h' m'→(∀ q ∈ c'.F ++ c'.J,h'.get? q.1=some q.2)→Fr s₁.heap s₁.heap.objs.size h' m')→Q .next c'.s) :
    wpAt (model PySem.Challenge.rw_no0086_01.prog w) Γ (execs lawB (envX cn lawR.scope s₁.heap.objs.size fa cd [])) Q E { s₁ with heap:=h₁,toks:=tk }:=by
  have hlt:sc0 < s₁.heap.objs.size:=Heap.lt_size ho
  have hn0:s₀.heap.get? sc0=none:=Heap.get?_none_of_le h0
  have H:WOK ⟨PySem.Challenge.rw_no0086_01.prog,w,K,p,loose,mean,mg,mb,true⟩:=⟨HK,hp,rfl,rfl⟩
  have SN:=snd3 H (ST _ H)
  have hex:=law_ex (zs:=zs) (K:=fun fl σ=>fl=.next ∧ ∃ sd B L l,σ=σZ (zs.map .int) sd B L l) hzl fun sd B L l=>⟨rfl,sd,B,L,l,rfl⟩
  refine use_ex SN (c:=⟨[],[(sc0,listOf vs.toArray nn)],besJ s₀.heap s₁.heap sc0,m,σ0 (zs.map .int) none,{ s₁ with heap:=h₁,toks:=tk }⟩)
    (x:=lawAc cn fa cd s₀ s₁) hex
    ⟨below_caller _,X0,T0,law_kind,law_kind,dp_ok,un_ok,hI,hC,fun q e=>(nomatch e),fun y e=>?_,fun _=>rfl⟩ rfl ⟨[],⟨rfl,hg,rfl⟩,⟨F.ns,fun b o e=>F.keep b o (kp b o e),Nat.le_of_lt (Nat.lt_of_le_of_lt h0 hlt)⟩,fun q hq=>?_,rfl,.nil,List.Pairwise.nil,fun q hq r hr=>?_,fun y v kd e1 e2 e3=>?_⟩ fun fl f c' hk l df S=>?_
  · have:=List.all_eq_true.mp law_nocell _ (lookS_mem e)
    cases this
  · have hq:q ∈ [(sc0,listOf vs.toArray nn)] ++ besJ s₀.heap s₁.heap sc0:=hq
    rcases List.mem_append.mp hq with hq | hq
    · obtain rfl:=List.mem_singleton.mp hq
      exact ⟨F.keep _ _ ho,Nat.ne_of_lt hlt,hn0⟩
    · obtain ⟨k1,k2,k3⟩:=besJ_mem hq
      exact ⟨F.keep _ _ k3,Nat.ne_of_lt (Heap.lt_size k3),k2⟩
  · obtain rfl:=List.mem_singleton.mp hq
    exact fun e=>(besJ_mem hr).1 e.symm
  · have e1:(bif eqS y (strS "script") then some (some (.d (.list (zs.map .int)))) else lookS y (σ0 (zs.map .int) none).loc.tail)=some (some v):=e1
    cases ey:eqS y (strS "script") with
    | false=>rw [ey] at e1; exact absurd e1 (loc_none rfl)
    | true =>
      rw [ey] at e1
      obtain rfl:=Option.some.inj (Option.some.inj e1)
      obtain rfl:=eqS_iff.mp ey
      exact ⟨.ref sc0,.loc rfl law_script hm,.a1 (.d (.list (List.mem_singleton.mpr rfl) (ints_dat hz)))⟩
  · obtain ⟨rfl,sd,B,L,l2,eσ⟩:=hk
    obtain rfl:f=.next:=df
    have S0:=S
    obtain ⟨P,S⟩:=S
    refine hQ (lawAc cn fa cd s₀ s₁) c' sd B L l2 rfl rfl rfl rfl ⟨rfl,rfl⟩ dp_ok un_ok (below_caller _) X0 T0 hI rfl S0 eσ fun h' m' F' hFJ=>⟨F'.ns,fun b ob e=>?_,Nat.le_refl _⟩
    cases q:s₀.heap.get? b with
    | some o2 =>
      have:=kp _ _ q
      rw [e] at this
      exact Option.some.inj this ▸ F'.keep _ _ q
    | none =>
      by_cases c2:b=sc0
      · subst c2
        rw [ho] at e
        exact Option.some.inj e ▸ hFJ _ (List.mem_append_left _ (l.sub _ (List.mem_singleton.mpr rfl)))
      · have:=besJ_of e c2 q
        exact hFJ (b,ob) (List.mem_append_right _ (by rw [l.jj]; exact this))
end Mine
end
section
open PySem PySem.W PyProof.Rows PySem.Calls
namespace Mine
noncomputable def scE:Scope:={ kind:=.function,names:=[(strS ".0",.local),(strS "side",.local)],isGenerator:=false,isCoroutine:=false,more:=[] }
noncomputable def eltE:Expr:=.Subscript (.Name (strS "side") ⟨453,12,453,16⟩) (.Constant (.str (strS "here")) 0 ⟨453,17,453,23⟩) ⟨453,12,453,24⟩
noncomputable def iterE:Expr:=.Name (strS "sides") ⟨453,37,453,42⟩
theorem ends_eq:stA lawR.body 9=.Assign [.Name (strS "ends") ⟨453,4,453,8⟩] (.ListComp eltE [⟨.Name (strS "side") ⟨453,29,453,33⟩,iterE,[],0⟩] scE ⟨453,11,453,43⟩) ⟨453,4,453,43⟩:=by kernel_rfl
section
variable {prog:Program} {w:World} {A:Around} {E:Value→Shared→Prop} {s:Shared} {h₀:Heap} {L C d:Addr} {env:Env} {m₂:Str→Option Value} {news:List (Addr × Obj)} {o:Obj} {kvs:List (Str × Value)} {v:Value} {Q:Value→Shared→Prop}
theorem side_get (hn:s.heap.Ns C m₂) (hm:m₂ (strS "side")=some (.ref d)) (N:News h₀ L s.heap news) (hp:(d,o) ∈ news) (hd:o.IsDictOf (strKind prog w) kvs) (hl:valueAt kvs (strS "here")=some v) (h:Q v { s with toks:=s.toks + 1 + 1 }) :
    wpAny (model prog w) A (eval eltE (compEnvC scE [] C env)) Q E s:=by
  unfold eltE
  refine Subscript_ (wpAny_Name (wpAny_loadName_local rfl (lookup_relabel_local rfl) hn hm (Calls.Constant_str ?_)) rfl)
  exact kda_item (s:={ s with toks:=s.toks + 1 }) (knd:=strKind prog w) N hp hd (strKind_is _ _ _ _) hl h
end
section
variable {W:Wd} {x:Ac} {Γ:Ctx} {n:Nat} {c:Cf} {E:Value→Shared→Prop} {P:List (Addr × Obj)}
theorem StW.newLoc {z:Str} {D:Addr} {o:Obj} {so:SO} {h':Heap} {tk:Nat} (hcc:x.cc=none) (hz:lookS z x.cs.names=some .local) (S:StW W x c P) (F':Fr x.h₀ x.L h' (fun y=>if y=z then some (.ref D) else c.m y)) (N':News x.h₀ x.L h' ((D,o) :: (P ++ (c.F ++ c.J)))) (hD:∀ p ∈ P ++ (c.F ++ c.J),p.1 ≠ D) (ok:ObjOK W c.F (c.ρ ++ [D]) so o) :
    St W x { c with ρ:=c.ρ ++ [D],m:=fun y=>if y=z then some (.ref D) else c.m y,σ:=(c.σ.new so).loc! z (.obj c.σ.hp.length),s:={ c.s with heap:=h',toks:=tk } }:=by
  have e:=Ext.snoc c.ρ D
  have hDr:D ∉ c.ρ:=fun hm=>by
    rw [← S.rho] at hm
    obtain ⟨p,hp,e⟩:=List.mem_map.mp hm
    exact hD p (List.mem_append_left _ hp) e
  refine ⟨P ++ [(D,o)],S.sc,F',fun p hp=>N' p ?_,by rw [List.map_append,S.rho]; rfl,All2.app (S.objs.imp fun so p ⟨k1,k2⟩=>⟨k1.mono (fun _ h=>h) e,k2⟩) (.cons ⟨ok,fun q hq e=>absurd e (hD q (List.mem_append_right _ (List.mem_append_left _ hq))),fun q hq e=>hD q (List.mem_append_right _ (List.mem_append_right _ hq)) e⟩ .nil),?_,S.fj,fun y w kd h1 h2 h3=>?_⟩
  · simp only [List.mem_append,List.mem_cons,List.not_mem_nil,or_false] at hp ⊢
    rcases hp with (h | h) | h
    · exact .inr (.inl h)
    · exact .inl h
    · exact .inr (.inr h)
  · exact List.nodup_append.mpr ⟨S.nodup,by simp,fun a ha b hb e=>hDr ((e.trans (List.mem_singleton.mp hb)) ▸ ha)⟩
  · obtain ⟨ov,e1,e2⟩:=lookS_map (f:=fun p:Str × Option SV=>(p.1,bif eqS z p.1 then some (.obj c.σ.hp.length) else p.2)) (fun _=>rfl) h1
    have e2:=(Prod.mk.inj e2).2
    dsimp only at e2
    cases ez:eqS z y with
    | true =>
      rw [ez] at e2
      cases e2
      cases eqS_iff.mp ez
      exact ⟨.ref D,.loc hcc hz (if_pos rfl),.a1 (.obj S.newObj)⟩
    | false =>
      rw [ez] at e2
      cases (e2:ov=some w)
      have hne:¬ y=z:=fun q=>by rw [eqS_iff.mpr q.symm] at ez; cases ez
      obtain ⟨u',k1,k2⟩:=S.loc y w kd e1 h2 h3
      refine ⟨u',?_,k2.mono (fun _ h=>h) e⟩
      cases k1 with
      | loc a b d=>exact .loc a b ((if_neg hne).trans d)
      | cell a b d e=>exact .cell a b d e
      | comp a=>rw [hcc] at a; cases a
end
end Mine
end
section
open PySem PySem.W PyProof.Rows PySem.Calls
namespace Mine
section
variable {W:Wd} {x:Ac} {Γ:Ctx} {n:Nat} {c:Cf} {E:Value→Shared→Prop} {P:List (Addr × Obj)}
theorem den1_obj {K:Frag} {F:List (Addr × Obj)} {ρ:List Addr} {i:Nat} {u:Value} (h:Den1 K F ρ (.obj i) u):∃ a,u=.ref a ∧ ρ[i]?=some a:=by cases h with | obj h=>exact ⟨_,rfl,h⟩
theorem den_lst {K:Frag} {F:List (Addr × Obj)} {ρ:List Addr} {l:List SV} {u:Value} (h:Den K F ρ (.lst l) u):∃ a vs n,u=.ref a ∧ (a,listOf vs.toArray n) ∈ F ∧ All2 (Den1 K F ρ) l vs:=by
  cases h with
  | a1 h=>cases h
  | lst h k=>exact ⟨_,_,_,rfl,h,k⟩
theorem StW.slot (S:StW W x c P) {i:Nat} {a:Addr} {so:SO} (e:c.σ.hp[i]?=some so) (r:c.ρ[i]?=some a):∃ o,(a,o) ∈ P ∧ ObjOK W c.F c.ρ so o:=by
  obtain ⟨p,h1,h2⟩:=S.objs.get e
  rw [← S.rho,List.getElem?_map,h1] at r
  obtain rfl:=Option.some.inj r
  exact ⟨p.2,List.mem_of_getElem? h1,h2.1⟩
theorem side_kvs {o:Obj} {i:Nat} {es:List (Str × SV)} (h:ObjOK W c.F c.ρ (.dict ((strS "here",.obj i) :: es)) o):∃ kvs a,o.IsDictOf (strKind W.prog W.w) kvs ∧ valueAt kvs (strS "here")=some (.ref a) ∧ c.ρ[i]?=some a:=by
  refine byC fun zC zk=>?_
  obtain ⟨kvs,h1,h2⟩:=h
  refine zk ?_
  cases h2 with
  | @cons _ b _ m h2 _ =>
    refine byC fun zC zk=>?_
    obtain ⟨k,v⟩:=b
    obtain ⟨e1,d⟩:=h2
    obtain ⟨a,e2,r⟩:=den1_obj (show Den1 W.K c.F c.ρ (.obj i) v by cases d with | a1 d=>exact d)
    refine zk ?_
    refine ⟨_,a,h1,?_,r⟩
    have e1:k=strS "here":=e1
    subst e1
    unfold valueAt
    rw [List.find?_cons,decide_eq_true rfl]
    exact congrArg some e2
theorem lw_sides {K:KV} {ds l:List Dat} {sd:Int} {B:Box} {L:LS} {fl tu a si sp ch wa se off da en:Option SV}:nameV T3 (strS "sides") (σW ds sd fl tu a si sp ch wa se off da en (hpJ 1 B L l)) K=K sdV (σW ds sd fl tu a si sp ch wa se off da en (hpJ 1 B L l)):=by kernel_rfl
theorem law_ends:lawR.scope.names.lookup (strS "ends")=some .local:=by kernel_rfl
theorem law_ends':lookS (strS "ends") lawR.scope.names=some .local:=by kernel_rfl
theorem hp_9 {B:Box} {L:LS} {l:List Dat}:(hpJ 1 B L l)[9]?=some (.dict ((strS "here",.obj 4) :: [(strS "in",.obj 17),(strS "out",.obj 27),(strS "came",.obj 28)])):=by kernel_rfl
theorem hp_38 {B:Box} {L:LS} {l:List Dat}:(hpJ 1 B L l)[38]?=some (.dict ((strS "here",.obj 33) :: [(strS "in",.obj 46),(strS "out",.obj 56),(strS "came",.obj 57)])):=by kernel_rfl
theorem sw_ends {env:Env} (hb:env.blockKind=.function) (hk:env.kindOf (strS "ends")=some .local):swapsWith (.ListComp eltE [⟨.Name (strS "side") ⟨453,29,453,33⟩,iterE,[],0⟩] scE ⟨453,11,453,43⟩) (some (.Name (strS "ends") ⟨453,4,453,8⟩)) 453 env=pure true:=by
  show pure ((env.blockKind == .function && env.kindOf (strS "ends") == some .local && _) && _)=pure true
  rw [hb,hk]
  rfl
theorem off1_mem {D:Addr} {l:List (Addr × Obj)} (h:LCg.Off1 D l):∀ p ∈ l,p.1 ≠ D:=by
  induction l with
  | nil=>exact fun p hp=>nomatch hp
  | cons q r ih=>exact fun p hp=>(List.mem_cons.mp hp).elim (fun e=>e ▸ h.1) (ih h.2 p)
theorem ends_st {ds l:List Dat} {sd:Int} {B:Box} {L:LS} {K:KF}:K .next (((σW ds sd (some (.obj 62)) none none none none none none none none none none (hpJ 1 B L l)).new (.list [.obj 4,.obj 33])).loc! (strS "ends") (.obj (σW ds sd (some (.obj 62)) none none none none none none none none none none (hpJ 1 B L l)).hp.length))=K .next (σW ds sd (some (.obj 62)) none none none none none none none none none (some (.obj 63)) (endH B L l)):=by kernel_rfl
theorem ends9 {prog:Program} (hcb:W.cb=true) (TO:TabOK W T3) (ok:x.Ok W Γ n) (hcc:x.cc=none) (hh:c.σ.sc=lawR.scope) (S:St W x c) {ds l:List Dat} {sd:Int} {B:Box} {L:LS} {K:KF} {Q:Flow→Shared→Prop}
    (hσ:c.σ=σW ds sd (some (.obj 62)) none none none none none none none none none none (hpJ 1 B L l)) (hk:K .next (σW ds sd (some (.obj 62)) none none none none none none none none none (some (.obj 63)) (endH B L l))) (G:GoesS W x (DenF W) c K Q) :
    wpAt W.M Γ (exec (stA lawR.body 9) x.env) Q E c.s:=by
  refine byC fun zC zk=>?_
  obtain ⟨P,S⟩:=S
  refine zk ?_
  have hsc:x.cs=lawR.scope:=(sc_fn hcc).symm.trans (S.sc.1.symm.trans hh)
  have hlk:x.fenv.kindOf (strS "ends")=some .local:=by show x.cs.names.lookup _=_; rw [hsc]; exact law_ends
  rw [ends_eq,env_fn hcc]
  refine at_any ok.hI (LCg.Assign_ListComp_U (cl:=[]) S.fr rfl (sw_ends ?_ hlk) (closureFor_none (by decide)) (by decide) rfl (by decide) (by decide) hlk ?_ ?_)
  · show (if x.cs.kind.isAnnotationScope then _ else x.cs.kind)=_
    rw [ok.hk]; rfl
  · show (x.cs.kind == ScopeKind.class || (x.cs.kind == ScopeKind.module && _))=false
    rw [ok.hk]; rfl
  · rw [← env_fn hcc]
    refine name_snd (T:=T3) TO ok ⟨P,S⟩ (K:=fun v σ=>v=sdV ∧ σ=c.σ) ?_ fun v u c1 hK l1 d1 S1=>?_
    · rw [hσ]
      exact lw_sides.mpr ⟨rfl,rfl⟩
    · refine byC fun zC zk=>?_
      obtain ⟨rfl,e1⟩:=hK
      obtain ⟨P1,S1⟩:=S1
      obtain ⟨a,vs,k,rfl,hm,d2⟩:=den_lst d1
      refine zk ?_
      cases d2 with
      | @cons _ v0 _ vs d0 d2=>cases d2 with
      | @cons _ v1 _ vs d3 d2 =>
      cases d2
      refine byC fun zC zk=>?_
      obtain ⟨a9,rfl,r9⟩:=den1_obj d0
      obtain ⟨a38,rfl,r38⟩:=den1_obj d3
      have eσ:c1.σ=_:=e1.trans hσ
      obtain ⟨o9,m9,k9⟩:=S1.slot (by rw [eσ]; exact hp_9) r9
      obtain ⟨o38,m38,k38⟩:=S1.slot (by rw [eσ]; exact hp_38) r38
      obtain ⟨kv9,a4,i9,v9,r4⟩:=side_kvs k9
      obtain ⟨kv38,a33,i38,v38,r33⟩:=side_kvs k38
      refine zk ?_
      have hmm:c1.m=c.m:=l1.mm
      have F1:=S1.fr
      rw [hmm] at F1
      have w9:(a9,o9) ∈ P1 ++ (c1.F ++ c1.J):=List.mem_append_left _ m9
      have w38:(a38,o38) ∈ P1 ++ (c1.F ++ c1.J):=List.mem_append_left _ m38
      have wl:(a,listOf [Value.ref a9,Value.ref a38].toArray k) ∈ P1 ++ (c1.F ++ c1.J):=S1.memF hm
      refine LCg.CompSrc.ledger (ok.hn hcb) F1 S1.news wl (by show 2 ≤ sizeLine; decide) fun g=>?_
      refine LCg.CompRest.succ fun v I oI C oC D m₂ h tk E' hP hO hm₂ F N off ne=>?_
      obtain rfl:Value.ref a9=v:=Option.some.inj hP
      have sub:∀ {q:Addr × Obj} {I' C' D':Addr × Obj},q ∈ P1 ++ (c1.F ++ c1.J)→q ∈ I' :: C' :: D' :: (P1 ++ (c1.F ++ c1.J)):=fun h=>.tail _ (.tail _ (.tail _ h))
      refine side_get (s:={ c1.s with heap:=h,toks:=tk }) (hO.ns (N _ (.tail _ (.head _))).1) hm₂ N (sub w9) i9 v9 ?_
      refine LCg.CompEnd.intro (s₁:={ c1.s with heap:=h,toks:=tk }) F N _ (fun _ h=>h) off (.inr ⟨_,wl,rfl,_,rfl⟩) ?_
      refine LCg.CompRest.succ fun v I oI C oC D m₂ h tk E' hP hO hm₂ F N off ne=>?_
      obtain rfl:Value.ref a38=v:=Option.some.inj hP
      refine side_get (s:={ c1.s with heap:=h,toks:=tk }) (hO.ns (N _ (.tail _ (.head _))).1) hm₂ N (sub w38) i38 v38 ?_
      refine LCg.CompEnd.intro (s₁:={ c1.s with heap:=h,toks:=tk }) F N _ (fun _ h=>h) off (.inr ⟨_,wl,rfl,_,rfl⟩) ?_
      refine LCg.CompRest.zero fun D h tk F N off=>?_
      have hD:∀ p ∈ P1 ++ (c1.F ++ c1.J),p.1 ≠ D:=off1_mem off
      have S2:=S1.newLoc (z:=strS "ends") (so:=.list [.obj 4,.obj 33]) (tk:=tk) hcc (by rw [hsc]; exact law_ends') (by rw [hmm]; exact F) N hD ⟨_,_,rfl,.cons (.a1 (.obj (Ext.snoc _ _ _ _ r4))) (.cons (.a1 (.obj (Ext.snoc _ _ _ _ r33))) .nil)⟩
      refine G .next .next _ ?_ ?_ rfl S2
      · show K .next ((c1.σ.new _).loc! _ (.obj c1.σ.hp.length))
        rw [eσ]
        exact ends_st.mpr hk
      · exact l1.s.trans ⟨Ext.snoc _ _,fun _ h=>h,rfl⟩
end
end Mine
end
section
open PySem PySem.W PyProof.Rows PySem.Calls
namespace Mine
theorem any_at {α:Type} {M:Model} {A:Around} {E:Value→Shared→Prop} {s:Shared} {t:Sem α} {Q:α→Shared→Prop} (h:∀ Γ,Γ.In A→wpAt M Γ t Q E s):wpAny M A t Q E s:=fun Γ p hΓ=>h Γ hΓ p
theorem look_nodup {α:Type} {y:Str} {u:α} {l:List (Str × α)} (nd:(l.map (·.1)).Nodup) (h:(y,u) ∈ l):l.lookup y=some u:=by
  rw [← lookS_lookup]
  induction l with
  | nil=>cases h
  | cons p r ih =>
    have nd:=List.nodup_cons.mp nd
    rw [lookS]
    rcases List.mem_cons.mp h with e | h
    · rw [← e,eqS_iff.mpr rfl]; rfl
    · cases e:eqS y p.1 with
      | true=>exact absurd (List.mem_map.mpr ⟨_,h,eqS_iff.mp e⟩) nd.1
      | false=>exact ih nd.2 h
structure OkB (W:Wd) (x:Ac) (n:Nat):Prop where
  cb:W.cb=false
  B:Below x.A₀ x.base x.outer x.h₀
  X:W.K.In x.h₀
  T:Top W.p W.loose W.mean W.mg W.mb x.h₀
  hk:x.cs.kind=.function
  cc:x.cc=none
  dp:x.dp + 2 * n + 40 < recursionLimit
  un:x.un + 16 * n + 320 < cLine
  cellsX:∀ y,lookS y x.cs.names=some .cell→∃ a,x.cl.lookup y=some a
theorem clean_no {b:Bool} {Γ:Ctx} (h:b=false):Clean b Γ:=⟨fun e=>ft (e.symm.trans h),fun e=>ft (e.symm.trans h)⟩
theorem OkB.ok {W:Wd} {x:Ac} {n:Nat} (o:OkB W x n) {Γ:Ctx} (hI:Γ.In x.ar):x.Ok W Γ n:=
  ⟨o.B,o.X,o.T,o.hk,by rw [sc_fn o.cc]; exact o.hk,o.dp,o.un,hI,clean_no o.cb,fun q e=>(nomatch o.cc.symm.trans e),o.cellsX,fun e=>ft (e.symm.trans o.cb)⟩
noncomputable abbrev inAc (x:Ac) (r:FnR) (L' a:Addr) (cdv:Value) (g:Heap):Ac:=⟨x.dp + 1,x.un + 3,((x.ar).deeper (envOf r.qual r.scope L' a cdv)).guards,r.qual,r.scope,L',a,cdv,[],x.fenv :: x.outer,x.ar,x.base,g,none,x.gn,x.os,x.hh⟩
section
variable {W:Wd} {x:Ac} {c:Cf} {n:Nat} {Q:Value→Shared→Prop} {E:Value→Shared→Prop} {P:List (Addr × Obj)}
theorem enter_any {r:FnR} {a:Addr} {args:List SV} {us:List Value} (R:FnOK W a r) (hl:(argNames r.params).length=args.length) (hloc:(argNames r.params).all (fun y=>r.scope.names.lookup y == some .local)=true) (hcell:r.scope.names.all (fun p=>!(p.2 == .cell))=true)
    (ok:OkB W x (n + 1)) (S:StW W x c P) (hd:DL W c args us)
    (h:∀ L' g cdv h₁ m' tk,Fr x.h₀ x.L g c.m→OkB W (inAc x r L' a cdv g) n→StW W (inAc x r L' a cdv g) ⟨c.ρ,c.F,c.J,m',⟨r.scope,loc0 r.scope.names ((argNames r.params).zip args),c.σ.hp⟩,{ c.s with heap:=h₁,toks:=tk }⟩ P →
      wpAny W.M (inAc x r L' a cdv g).ar (execs r.body (inAc x r L' a cdv g).env) (fun fl s'=>LeaveK x.h₀ x.L c.m g (fun r s'=>match r with | .ok (.ret v)=>Q v s' | .ok _=>False | .error e=>E e s') (match fl with | .ret v=>v | _=>.none) s')
        (fun e s'=>wpAny W.M (inAc x r L' a cdv g).ar (leaving (inAc x r L' a cdv g).env e) (fun _ s''=>E e s'') E s') { c.s with heap:=h₁,toks:=tk }) :
    wpAny W.M x.ar (call (.ref a) us) Q E c.s:=by
  refine byC fun zC zk=>?_
  obtain ⟨dV,kV,doc,pm,cdv,ct,oc,an,od,osl,ho,hcd,hb⟩:=R.at_
  refine zk ?_
  have hlen:=hd.len
  have hnm:((argNames r.params).zip us).map (·.1)=argNames r.params:=by
    rw [List.map_fst_zip]
    rw [hl,hlen]; exact Nat.le_refl _
  have hnd:(((argNames r.params).zip us).map (·.1)).Nodup:=by rw [hnm]; exact R.nodup
  have hloc1:∀ y ∈ argNames r.params,r.scope.names.lookup y=some .local:=fun y hy=>beq_iff_eq.mp (List.all_eq_true.mp hloc y hy)
  have hdp:=ok.dp
  have hun:=ok.un
  refine wpAny_call (code_def (A:=x.ar) ok.B S.fr ok.X S.news ok.T rfl rfl ok.hk ho hcd (by show x.dp < _; exact ln [_,_,_] [] [.lt (.a (.a (.v 0) (.m 2 (.a (.v 1) (.k 1)))) (.k 40)) (.v 2)] (.lt (.v 0) (.v 2)) (.w [1,1]) zr hdp) (BindsTo.of_eq (hb us (hlen.symm.trans hl.symm))) (fun y hy=>hloc1 _ (List.of_mem_zip hy).1)
    (fun g L' h₁ FG F' N' B' X' T'=>h L' g cdv h₁ _ _ FG ⟨ok.cb,B',X',T',R.kind,rfl,by show x.dp + 1 + _ + _ < _; exact ln [_,_,_] [] [.lt (.a (.a (.v 0) (.m 2 (.a (.v 1) (.k 1)))) (.k 40)) (.v 2)] (.lt (.a (.a (.a (.v 0) (.k 1)) (.m 2 (.v 1))) (.k 40)) (.v 2)) (.w [1,1]) zr hdp,by show x.un + 3 + _ + _ < _; exact ln [_,_,_] [] [.lt (.a (.a (.v 0) (.m 16 (.a (.v 1) (.k 1)))) (.k 320)) (.v 2)] (.lt (.a (.a (.a (.v 0) (.k 3)) (.m 16 (.v 1))) (.k 320)) (.v 2)) (.w [1,1]) zr hun,fun y e=>?_⟩ ⟨⟨rfl,S.sc.2⟩,F',N',S.rho,S.objs,S.nodup,S.fj,fun y v kd h1 h2 h3=>?_⟩) R.co R.gen R.kind fun p hp=>?_)
  · have:=List.all_eq_true.mp hcell _ (lookS_mem e)
    cases this
  · refine byC fun zC zk=>?_
    obtain ⟨u,h4,h5⟩:=zip_look hd (loc0_of h1)
    refine zk ?_
    refine ⟨u,.loc rfl (by rw [lookS_lookup]; exact hloc1 y (List.of_mem_zip h4).1) (look_nodup ?_ (List.mem_reverse.mpr h4)),h5⟩
    rw [List.map_reverse]; exact List.pairwise_reverse.mpr (hnd.imp Ne.symm)
  · have:=List.all_eq_true.mp hcell p hp
    intro e
    rw [e] at this
    cases this
theorem nm_loc {M:Model} {A:Around} {s:Shared} {h₀:Heap} {L a:Addr} {cn:Str} {cs:Scope} {ccd:Value} {cl:List (Str × Addr)} {m:Str→Option Value} {y:Str} {u:Value} {pos:Pos} (F:Fr h₀ L s.heap m) (hk:cs.kind=.function) (hl:cs.names.lookup y=some .local) (hm:m y=some u) (q:Q u s) (hd:(y == ("__debug__":Str))=false) :
    wpAny M A (eval (.Name y pos) (envX cn cs L a ccd cl)) Q E s:=wpAny_Name (wpAny_loadName_local hk hl F.ns hm q) hd
noncomputable def T9:Tab:=tab (fun _=>none) none fzL fgL false
noncomputable abbrev o9:Ops:=ops T9 30
theorem tab9 (H:KOK W.w.params W.K) (hp:importsNone W.p=true):TabOK W T9:=tab_ok H hp (fun e=>tf e) fun a g h=>nomatch (h:(none:Option (List SV→Sy→KV→Prop))=some g)
theorem snd9 (H:KOK W.w.params W.K) (hp:importsNone W.p=true):Snd W o9 30:=ops_snd (b:=0) (tab9 H hp) (fun a g h=>nomatch (h:(none:Option (List SV→Sy→KV→Prop))=some g)) st_no 30
noncomputable abbrev r268:FnR:=mtI 45 10 "Handshake.on_done_frame"
noncomputable abbrev r35:FnR:=mtI 6 0 "QuicError.__init__"
noncomputable def tst9:Expr:=.Compare (.Attribute (.Name (strS "self") ⟨234,11,234,15⟩) (strS "role") ⟨234,11,234,20⟩) [.Eq] [.Constant (.str (strS "server")) 0 ⟨234,24,234,32⟩] ⟨234,11,234,32⟩
noncomputable def args9:List Expr:=[.Name (strS "PROTOCOL_VIOLATION") ⟨235,28,235,46⟩,.Constant (.int 30) 0 ⟨235,48,235,50⟩,.Constant (.str (strS "a client does not tell that the handshake is done")) 0 ⟨235,52,235,103⟩]
theorem body268:r268.body=.If tst9 [.Raise (some (.Call (.Name (strS "QuicError") ⟨235,18,235,27⟩) args9 [] ⟨235,18,235,104⟩)) none ⟨235,12,235,104⟩] [] ⟨234,8,235,104⟩ :: r268.body.drop 1:=by kernel_rfl
noncomputable def arg2:List Expr:=[.Name (strS "self") ⟨12,27,12,31⟩,.BinOp (.BinOp (.Call (.Name (strS "str") ⟨12,33,12,36⟩) [.Name (strS "code") ⟨12,37,12,41⟩] [] ⟨12,33,12,42⟩) .Add (.Constant (.str (strS ": ")) 0 ⟨12,45,12,49⟩) ⟨12,33,12,49⟩) .Add (.Name (strS "text") ⟨12,52,12,56⟩) ⟨12,33,12,56⟩]
noncomputable def asgS (x:String) (l a b e:Nat):Stmt:=.Assign [.Attribute (.Name (strS "self") ⟨l,8,l,12⟩) (strS x) ⟨l,8,l,a⟩] (.Name (strS x) ⟨l,b,l,e⟩) ⟨l,8,l,e⟩
noncomputable def ini9:Stmt:=.Expr (.Call (.Attribute (.Name (strS "Exception") ⟨12,8,12,17⟩) (strS "__init__") ⟨12,8,12,26⟩) arg2 [] ⟨12,8,12,57⟩) ⟨12,8,12,57⟩
theorem body35:r35.body=[ini9,asgS "code" 13 17 20 24,asgS "frame_type" 14 23 26 36,asgS "text" 15 17 20 24]:=by kernel_rfl
noncomputable def txt9:Str:=strS "a client does not tell that the handshake is done"
noncomputable def stA9 (B:Box) (L:LS) (l:List Dat):Sy:=⟨r268.scope,loc0 r268.scope.names ((argNames r268.params).zip [.obj 33]),endH B (setS L .c3 .s2) l⟩
noncomputable def stB9 (e:Addr) (hp:List SO):Sy:=⟨r35.scope,loc0 r35.scope.names ((argNames r35.params).zip [.ref e,.d (.int 10),.d (.int 30),.d (.str txt9)]),hp⟩
theorem f_tst {K:KB} {B:Box} {L:LS} {l:List Dat}:o9.ts tst9 (stA9 B L l) K=K true (stA9 B L l):=by kernel_rfl
theorem f_nm {K:KV} {B:Box} {L:LS} {l:List Dat} {p:Pos}:o9.ev (.Name (strS "QuicError") p) (stA9 B L l) K=K (.ref 38) (stA9 B L l):=by kernel_rfl
theorem f_args {K:KL} {B:Box} {L:LS} {l:List Dat}:evs o9.ev args9 (stA9 B L l) K=K [.d (.int 10),.d (.int 30),.d (.str txt9)] (stA9 B L l):=by kernel_rfl
theorem f_exc {K:KV} {e:Addr} {hp:List SO}:nameV T9 (strS "Exception") (stB9 e hp) K=K (.bi .exc) (stB9 e hp):=by kernel_rfl
theorem f_arg2 {K:KL} {e:Addr} {hp:List SO}:evs o9.ev arg2 (stB9 e hp) K=((10:Int).natAbs < 800 ∧ ∀ y:Str,y.length ≤ 900→y.length ≤ 1000 ∧ (strS ": ").length ≤ 1000 ∧ ∀ z:Str,z.length ≤ y.length + (strS ": ").length→z.length ≤ 1000 ∧ txt9.length ≤ 1000 ∧ ∀ z2:Str,z2.length ≤ z.length + txt9.length→K [.ref e,.d (.str z2)] (stB9 e hp)):=by kernel_rfl
end
end Mine
end
section
open PySem PySem.W PyProof.Rows PySem.Calls
namespace Mine
section
variable {W:Wd} {x:Ac} {c:Cf} {n:Nat} {Q:Value→Shared→Prop} {E:Value→Shared→Prop} {P:List (Addr × Obj)}
theorem StW.locv (S:StW W x c P) (hcc:x.cc=none) {y:Str} {v:SV} (h1:lookS y c.σ.loc=some (some v)) (h2:lookS y x.cs.names=some .local):∃ u,c.m y=some u ∧ DV W c v u:=by
  obtain ⟨u,rd,d⟩:=S.loc y v .local h1 (by rw [sc_fn hcc]; exact h2) rfl
  refine ⟨u,?_,d⟩
  cases rd with
  | loc _ _ h=>exact h
  | cell h=>rw [sc_fn hcc,h2] at h; exact nomatch h
  | comp h=>exact nomatch hcc.symm.trans h
theorem nm_ac {s:Shared} {m:Str→Option Value} {y:Str} {u:Value} {pos:Pos} (F:Fr x.h₀ x.L s.heap m) (hcc:x.cc=none) (hk:x.cs.kind=.function) (hl:lookS y x.cs.names=some .local) (hm:m y=some u) (q:Q u s) (hd:(y == ("__debug__":Str))=false) :
    wpAny W.M x.ar (eval (.Name y pos) x.env) Q E s:=by
  rw [env_fn hcc]; exact nm_loc F hk ((lookS_lookup _ _).symm.trans hl) hm q hd
theorem cd38 {K:Frag} {Pm:Params} (H:KOK Pm K):clsIn K 38=some { name:="QuicError",qualname:="QuicError",bases:=[.type "Exception"],mro:=.ref 38 :: excBm,ns:=37 }:=by unfold clsIn; rw [H.q]
theorem sets9 (H:KOK W.w.params W.K) (ok:OkB W x n) (hcs:x.cs=r35.scope) {e t:Addr} {k7:Tok} {v3 v4:Value} {s:Shared} {m:Str→Option Value} {T:List (Addr × Obj)} (F:Fr x.h₀ x.L s.heap m) (N:News x.h₀ x.L s.heap ((e,eObj none (eVs t)) :: T)) (off:∀ p ∈ T,p.1 ≠ e)
    (m1:m (strS "self")=some (.ref e)) (m2:m (strS "code")=some (.int 10 k7)) (m3:m (strS "frame_type")=some v3) (m4:m (strS "text")=some v4) {Q:Flow→Shared→Prop}
    (ret:∀ d k9 k8 r9 h' tk,Fr x.h₀ x.L h' m→News x.h₀ x.L h' ((e,eObj (some d) (eVs t)) :: (d,dictOf (⟨k9,.str (strS "code") k8,.int 10 k7⟩ :: r9) 3) :: T)→e ≠ d→(∀ p ∈ T,p.1 ≠ d)→Q .next { s with heap:=h',toks:=tk }) :
    wpAny W.M x.ar (execs [asgS "code" 13 17 20 24,asgS "frame_type" 14 23 26 36,asgS "text" 15 17 20 24] x.env) Q E s:=by
  have hn1:lookS (strS "self") x.cs.names=some .local:=by rw [hcs]; kernel_rfl
  have hc:=cd38 H
  have nm:∀ {y:Str} {u:Value} {pos:Pos} {s':Shared} {Q:Value→Shared→Prop},Fr x.h₀ x.L s'.heap m→lookS y r35.scope.names=some .local→m y=some u→(y == ("__debug__":Str))=false→Q u s'→wpAny W.M x.ar (eval (.Name y pos) x.env) Q E s':=fun F hl hm hd q=>nm_ac F ok.cc ok.hk (by rw [hcs]; exact hl) hm q hd
  refine any_at fun Γ hI=>at_execs_cons (at_any hI (plainObj_wpAny_Assign_Attribute (nm F (by kernel_rfl) m2 (by kernel_rfl) (nm F (by kernel_rfl) m1 (by kernel_rfl) (exc_set0 F ok.X N off hc rfl rfl H.qs H.q1 fun d h10 F10 N10 o6 o7=>?_)))))
  refine at_execs_cons (at_any hI (plainObj_wpAny_Assign_Attribute (nm F10 (by kernel_rfl) m3 (by kernel_rfl) (nm F10 (by kernel_rfl) m1 (by kernel_rfl) (exc_set1 (es':=[⟨_,_,_⟩,⟨_,_,_⟩]) (n':=2) (s:={ s with heap:=h10,toks:=_ }) F10 ok.X N10 o6 o7 hc rfl rfl H.qs H.q2 rfl rfl rfl (show 2 ≤ 1000 by decide) fun h11 F11 N11=>?_)))))
  refine at_execs_cons (at_any hI (plainObj_wpAny_Assign_Attribute (nm F11 (by kernel_rfl) m4 (by kernel_rfl) (nm F11 (by kernel_rfl) m1 (by kernel_rfl) (exc_set1 (es':=[⟨_,_,_⟩,⟨_,_,_⟩,⟨_,_,_⟩]) (n':=3) (s:={ s with heap:=h11,toks:=_ }) F11 ok.X N11 o6 o7 hc rfl rfl H.qs H.q3 rfl rfl rfl (show 3 ≤ 1000 by decide) fun h12 F12 N12=>?_)))))
  exact at_execs_nil (ret d _ _ _ h12 _ F12 N12 o6 o7)
theorem StW.less {J:List (Addr × Obj)} {q0:Addr × Obj} (S:StW W x c P) (h0:q0 ∈ c.J) (hJ:∀ q ∈ J,q ∈ c.J) (hJe:∀ q ∈ J,q.1 ≠ q0.1):(∀ p ∈ P ++ (c.F ++ J),p.1 ≠ q0.1) ∧ News x.h₀ x.L c.s.heap (q0 :: (P ++ (c.F ++ J))):=by
  refine ⟨fun p hp q=>?_,fun p hp=>S.news p ?_⟩
  · rcases List.mem_append.mp hp with hp | hp
    · obtain ⟨i,hi,e2⟩:=List.getElem_of_mem hp
      exact (S.objs.both (List.getElem?_eq_getElem (S.objs.len ▸ hi)) (by rw [List.getElem?_eq_getElem hi,e2])).2.2 _ h0 q.symm
    · exact (List.mem_append.mp hp).elim (fun hp=>S.fj p hp _ h0 q) fun hp=>hJe p hp q
  · rcases List.mem_cons.mp hp with rfl | hp
    · exact List.mem_append_right _ (List.mem_append_right _ h0)
    · exact (List.mem_append.mp hp).elim (List.mem_append_left _) fun hp=>List.mem_append_right _ ((List.mem_append.mp hp).elim (List.mem_append_left _) fun hp=>List.mem_append_right _ (hJ p hp))
theorem ext_eq {ρ ρ':List Addr} (h:Ext ρ ρ') (hl:ρ'.length=ρ.length):ρ'=ρ:=List.ext_getElem? fun i=>by
  rcases Nat.lt_or_ge i ρ.length with q | q
  · rw [List.getElem?_eq_getElem q]; exact h i _ (List.getElem?_eq_getElem q)
  · rw [List.getElem?_eq_none (by rw [hl]; exact q),List.getElem?_eq_none q]
theorem arg2_ok {e:Addr} {hp:List SO}:evs o9.ev arg2 (stB9 e hp) fun vs σ=>(∃ z,vs=[.ref e,.d (.str z)]) ∧ σ=stB9 e hp:=
  f_arg2.mpr ⟨by decide,fun y hy=>⟨Nat.le_trans hy (by decide),Nat.le_of_ble_eq_true (by kernel_rfl),fun z hz=>⟨Nat.le_trans (Nat.le_trans hz (Nat.add_le_add_right hy _)) (Nat.le_of_ble_eq_true (by kernel_rfl)),Nat.le_of_ble_eq_true (by kernel_rfl),fun z2 _=>⟨⟨z2,rfl⟩,rfl⟩⟩⟩⟩
theorem init_body (H:KOK W.w.params W.K) (hp:importsNone W.p=true) (ok:OkB W x 30) (hcs:x.cs=r35.scope) {e t:Addr} {o2:Addr × Obj} {J:List (Addr × Obj)} {H0:List SO} (S:St W x c) (eσ:c.σ=stB9 e H0) (hJ:c.J=(e,eObj none (eVs t)) :: o2 :: J) (hJe:∀ q ∈ J,q.1 ≠ e) {Q:Flow→Shared→Prop}
    (ret:∀ d t2 k9 k8 k7 r9 s' P6 F6 m,P6.map (·.1)=c.ρ→All2 (SlotOK W { c with F:=F6,J:=J }) H0 P6→Sub c.F F6→(∀ p ∈ F6,∀ q ∈ J,p.1 ≠ q.1)→Fr x.h₀ x.L s'.heap m→News x.h₀ x.L s'.heap ((e,eObj (some d) (eVs t2)) :: (d,dictOf (⟨k9,.str (strS "code") k8,.int 10 k7⟩ :: r9) 3) :: (P6 ++ (F6 ++ J)))→e ≠ d→(∀ p ∈ P6 ++ (F6 ++ J),p.1 ≠ d)→(∀ p ∈ P6 ++ (F6 ++ J),p.1 ≠ e)→s'.gens=x.gn→s'.os=x.os→Q .next s') :
    wpAny W.M x.ar (execs r35.body x.env) Q E c.s:=by
  have TO:=tab9 H hp
  have hin:interactive x.env=false:=by
    rw [env_fn ok.cc]
    show (x.cs.kind == .module && _)=false
    rw [ok.hk]; rfl
  have hx:nameV T9 (strS "Exception") c.σ fun v σ=>v=.bi .exc ∧ σ=stB9 e H0:=by rw [eσ,f_exc]; exact ⟨rfl,rfl⟩
  rw [body35]
  refine any_at fun Γ hI=>at_execs_cons (at_Expr (hi:=hin) hI (at_Method (args:=arg2) (he:=rfl) hI (name_snd TO (ok.ok hI) S hx fun v u c6 hk l6 d6 S6=>?_)))
  refine byC fun zC zk=>?_
  obtain ⟨rfl,e6⟩:=hk
  obtain rfl:u=.type "Exception":=by cases d6 with | a1 h=>cases h; rfl
  refine zk ?_
  refine method_type (S6.el fun _ S=>S.fr) ok.X (by kernel_rfl) (by decide +kernel) H.qm rfl ?_
  have hna:noStar arg2=true:=by kernel_rfl
  have ha:evs o9.ev arg2 c6.σ fun vs σ=>(∃ z,vs=[.ref e,.d (.str z)]) ∧ σ=stB9 e H0:=by rw [e6]; exact arg2_ok
  refine at_callG hI (stars_no hna) (evs_snd (c:={ c6 with s:={ c6.s with toks:=c6.s.toks + 1 } }) (snd9 H hp) (ok.ok hI) hna ha (S6.tok _) fun vs us c7 hk l7 d7 S7=>And.intro ⟨.machine,.inr (.inl rfl),.now⟩ ?_)
  refine byC fun zC zk=>?_
  obtain ⟨⟨z,rfl⟩,e7⟩:=hk
  refine zk ?_
  refine two_el (C:=fun us=>wpAt W.M Γ (call (.builtin "Exception.__init__") ([] ++ us)) _ _ c7.s) (k:=fun a b=>a=.ref e) (show two [SV.ref e,SV.d (.str z)] (fun a b=>a=.ref e) from rfl) d7 fun v1 u1 v2 u2 d1 _ hv=>?_
  subst hv
  obtain rfl:=den_ref d1
  have l57:=l6.trans (Le.here.trans l7)
  refine byC fun zC zk=>?_
  obtain ⟨P7,S7⟩:=S7
  have hJ7:=l57.jj.trans hJ
  have hJm:∀ q ∈ J,q ∈ c7.J:=fun q hq=>hJ7 ▸ .tail _ (.tail _ hq)
  have hl:c7.σ.hp.length=c.σ.hp.length:=by rw [e7,eσ]
  have hρ7:c7.ρ=c.ρ:=ext_eq l57.ext (S7.lenH.symm.trans (hl.trans (S.el fun _ S=>S.lenH)))
  obtain ⟨hof,N7⟩:=S7.less (q0:=(e,eObj none (eVs t))) (hJ7 ▸ .head _) hJm hJe
  obtain ⟨v1,m1,dv1⟩:=S7.locv ok.cc (y:=strS "self") (v:=.ref e) (by rw [e7]; kernel_rfl) (by rw [hcs]; kernel_rfl)
  obtain ⟨v2,m2,dv2⟩:=S7.locv ok.cc (y:=strS "code") (v:=.d (.int 10)) (by rw [e7]; kernel_rfl) (by rw [hcs]; kernel_rfl)
  obtain ⟨v3,m3,_⟩:=S7.locv ok.cc (y:=strS "frame_type") (v:=.d (.int 30)) (by rw [e7]; kernel_rfl) (by rw [hcs]; kernel_rfl)
  obtain ⟨v4,m4,_⟩:=S7.locv ok.cc (y:=strS "text") (v:=.d (.str txt9)) (by rw [e7]; kernel_rfl) (by rw [hcs]; kernel_rfl)
  obtain rfl:=den_ref dv1
  obtain ⟨k7,rfl⟩:=den_int dv2
  refine zk ?_
  refine at_any hI (exc_init_call S7.fr ok.X H N7 hof (fun t2 h9 F9 N9 o4 o5=>?_) (by show 1 ≤ sizeLine; decide))
  refine at_any hI (sets9 (s:={ c7.s with heap:=h9 }) H ok hcs F9 (fun p hp=>N9 p ((List.mem_cons.mp hp).elim (fun h=>h ▸ .head _) fun h=>.tail _ (.tail _ h))) hof m1 m2 m3 m4 fun d k9 k8 r9 h' tk F12 N12 o6 o7=>?_)
  refine ret d t2 k9 k8 k7 r9 _ P7 c7.F _ (S7.rho.trans hρ7) ?_ l57.sub (fun p hp q hq=>S7.fj p hp q (hJm q hq)) F12 N12 o6 o7 hof S7.sc.2.1 S7.sc.2.2
  have o:=S7.objs
  rw [e7] at o
  exact All2.imp (R:=SlotOK W c7) (fun so p h=>⟨hρ7 ▸ h.1,h.2.1,fun q hq=>h.2.2 q (hJm q hq)⟩) o
theorem init_ct (H:KOK W.w.params W.K) (hp:importsNone W.p=true) (ok:OkB W x 31) {e t:Addr} {o2:Addr × Obj} {t10 t30 tz:Tok} {J:List (Addr × Obj)} (S:StW W x c P) (hJ:c.J=(e,eObj none (eVs t)) :: o2 :: J) (hJe:∀ q ∈ J,q.1 ≠ e)
    (ret:∀ d t2 k9 k8 k7 r9 s' P6 F6,P6.map (·.1)=c.ρ→All2 (SlotOK W { c with F:=F6,J:=J }) c.σ.hp P6→Sub c.F F6→(∀ p ∈ F6,∀ q ∈ J,p.1 ≠ q.1)→Fr x.h₀ x.L s'.heap c.m→News x.h₀ x.L s'.heap ((e,eObj (some d) (eVs t2)) :: (d,dictOf (⟨k9,.str (strS "code") k8,.int 10 k7⟩ :: r9) 3) :: (P6 ++ (F6 ++ J)))→e ≠ d→(∀ p ∈ P6 ++ (F6 ++ J),p.1 ≠ d)→(∀ p ∈ P6 ++ (F6 ++ J),p.1 ≠ e)→s'.gens=x.gn→s'.os=x.os→Q .none s') :
    wpAny W.M x.ar (call (.ref 35) [.ref e,.int 10 t10,.int 30 t30,.str txt9 tz]) Q E c.s:=
  enter_any (n:=30) (r:=r35) (args:=[.ref e,.d (.int 10),.d (.int 30),.d (.str txt9)]) (fn_ok H (lookN_mem (by kernel_rfl))) rfl (by kernel_rfl) (by kernel_rfl) ok S (.cons (.a1 (.ref e)) (.cons (.int 10 t10) (.cons (.int 30 t30) (.cons (.a1 (.d (.str _ _))) .nil)))) fun L' g cdv h₁ m' tk FG ok3 S3 =>
    init_body H hp ok3 rfl ⟨P,S3⟩ rfl hJ hJe fun d t2 k9 k8 k7 r9 s' P6 F6 m a1 a2 a3 a4 a5 a6 a7 a8 a9 a10 a11=>leaveK_ a5 a6 fun Fb Nb=>ret d t2 k9 k8 k7 r9 s' P6 F6 a1 a2 a3 a4 Fb Nb a7 a8 a9 a10 a11
end
end Mine
end
section
open PySem PySem.W PyProof.Rows PySem.Calls
namespace Mine
section
variable {W:Wd} {x:Ac} {c:Cf} {n:Nat} {Q:Value→Shared→Prop} {E:Value→Shared→Prop} {P:List (Addr × Obj)}
theorem StW.addJ (S:StW W x c P) {J:List (Addr × Obj)} {h':Heap} {tk:Nat} (F':Fr x.h₀ x.L h' c.m) (N':News x.h₀ x.L h' (J ++ (P ++ (c.F ++ c.J)))) (off:∀ q ∈ J,∀ p ∈ P ++ (c.F ++ c.J),p.1 ≠ q.1):StW W x { c with J:=J ++ c.J,s:={ c.s with heap:=h',toks:=tk } } P:=by
  have inP:∀ p ∈ P,p ∈ P ++ (c.F ++ c.J):=fun p hp=>List.mem_append_left _ hp
  have inF:∀ p ∈ c.F,p ∈ P ++ (c.F ++ c.J):=fun p hp=>List.mem_append_right _ (List.mem_append_left _ hp)
  refine ⟨S.sc,F',fun p hp=>N' p ?_,S.rho,?_,S.nodup,fun p hp q hq=>?_,fun y v kd h1 h2 h3=>?_⟩
  · rcases List.mem_append.mp hp with hp | hp
    · exact List.mem_append_right _ (inP p hp)
    · rcases List.mem_append.mp hp with hp | hp
      · exact List.mem_append_right _ (inF p hp)
      · exact (List.mem_append.mp hp).elim (List.mem_append_left _) fun hp=>List.mem_append_right _ (List.mem_append_right _ (List.mem_append_right _ hp))
  · refine All2.of S.objs.len fun i so p e1 e2=>⟨(S.objs.both e1 e2).1,(S.objs.both e1 e2).2.1,fun q hq=>?_⟩
    exact (List.mem_append.mp hq).elim (fun hq=>(off q hq p (inP p (List.mem_of_getElem? e2))).symm) ((S.objs.both e1 e2).2.2 q)
  · exact (List.mem_append.mp hq).elim (fun hq=>off q hq p (inF p hp)) (S.fj p hp q)
  · obtain ⟨u,k1,k2⟩:=S.loc y v kd h1 h2 h3
    exact ⟨u,k1.mono (fun _ h=>h) fun _ h=>List.mem_append_right _ h,k2⟩
noncomputable def Thrown (W:Wd) (h₀:Heap) (L:Addr) (m:Str→Option Value) (ρ:List Addr) (F J:List (Addr × Obj)) (hp:List SO) (gn:Array GenState) (os:OsState) (e d t:Addr) (k9:Int) (k8 k7:Tok) (r9:List DictEntry) (P6 F6:List (Addr × Obj)) (s':Shared):Prop:=
  P6.map (·.1)=ρ ∧ All2 (fun so p=>ObjOK W F6 ρ so p.2 ∧ (∀ q ∈ F6,q.1=p.1→so.alive=false ∧ q.2.cls=.type "list") ∧ ∀ q ∈ J,q.1 ≠ p.1) hp P6 ∧ Sub F F6 ∧ (∀ p ∈ F6,∀ q ∈ J,p.1 ≠ q.1) ∧ Fr h₀ L s'.heap m ∧
    News h₀ L s'.heap ((e,eObj (some d) (eVs t)) :: (d,dictOf (⟨k9,.str (strS "code") k8,.int 10 k7⟩ :: r9) 3) :: (P6 ++ (F6 ++ J))) ∧ e ≠ d ∧ (∀ p ∈ P6 ++ (F6 ++ J),p.1 ≠ d) ∧ (∀ p ∈ P6 ++ (F6 ++ J),p.1 ≠ e) ∧ s'.gens=gn ∧ s'.os=os
theorem make_go (H:KOK W.w.params W.K) (hp:importsNone W.p=true) (ok:OkB W x 32) (S:StW W x c P) {t10 t30 tz:Tok}
    (ret:∀ e d t k9 k8 k7 r9 P6 F6 s',Thrown W x.h₀ x.L c.m c.ρ c.F c.J c.σ.hp x.gn x.os e d t k9 k8 k7 r9 P6 F6 s'→E (.ref e) s') :
    wpAny W.M x.ar (call (.ref 38) [.int 10 t10,.int 30 t30,.str txt9 tz]) (QMade x.h₀ E) E c.s:=by
  have hdp:=ok.dp
  have hun:=ok.un
  refine quic_make S.fr ok.X H S.news (fun e t h' F8 N8 o1 o2 o3=>?_) (by show 3 ≤ sizeLine; decide)
  refine init_ct (P:=P) (J:=c.J) (x:={ x with dp:=x.dp + 1,un:=x.un + 1,gd:=(x.ar.under (.builtin "type.__call__" ⟨.ref 38 :: [.int 10 t10,.int 30 t30,.str txt9 tz],[]⟩)).guards })
    (c:={ c with J:=[(e,eObj none (eVs t)),(t,tupObj [.int 10 t10,.int 30 t30,.str txt9 tz] 0)] ++ c.J,s:={ c.s with heap:=h',toks:=c.s.toks } })
    H hp ⟨ok.cb,ok.B,ok.X,ok.T,ok.hk,ok.cc,by show x.dp + 1 + _ + _ < _; exact ln [_,_] [] [.lt (.a (.a (.v 0) (.m 2 (.k 32))) (.k 40)) (.v 1)] (.lt (.a (.a (.a (.v 0) (.k 1)) (.m 2 (.k 31))) (.k 40)) (.v 1)) (.w [1,1]) zr hdp,by show x.un + 1 + _ + _ < _; exact ln [_,_] [] [.lt (.a (.a (.v 0) (.m 16 (.k 32))) (.k 320)) (.v 1)] (.lt (.a (.a (.a (.v 0) (.k 1)) (.m 16 (.k 31))) (.k 320)) (.v 1)) (.w [1,1]) zr hun,ok.cellsX⟩ ?_ rfl (fun q hq=>o1 q (List.mem_append_right _ (List.mem_append_right _ hq))) fun d t2 k9 k8 k7 r9 s' P6 F6 a1 a2 a3 a4 a5 a6 a7 a8 a9 a10 a11=>⟨rfl,e,t2,d,rfl,a5.keep,(a6 _ (.head _)).1,ret e d t2 k9 k8 k7 r9 P6 F6 s' ⟨a1,a2,a3,a4,a5,a6,a7,a8,a9,a10,a11⟩⟩
  have Sx:=S.addJ (J:=[(e,eObj none (eVs t)),(t,tupObj [.int 10 t10,.int 30 t30,.str txt9 tz] 0)]) (tk:=c.s.toks) F8 N8 fun q hq p hp=>by
    rcases List.mem_cons.mp hq with rfl | hq
    · exact o1 p hp
    · rw [List.mem_singleton.mp hq]; exact o2 p hp
  exact ⟨Sx.sc,Sx.fr,Sx.news,Sx.rho,Sx.objs,Sx.nodup,Sx.fj,fun y v kd h1 h2 h3=>by
    obtain ⟨u,k1,k2⟩:=Sx.loc y v kd h1 h2 h3
    refine ⟨u,?_,k2⟩
    cases k1 with
    | loc a b c=>exact .loc a b c
    | cell a b c d=>exact .cell a b c d
    | comp a b c d=>exact .comp a b c d⟩
theorem Thrown.up {W:Wd} {h₀:Heap} {L:Addr} {m:Str→Option Value} {ρ ρ':List Addr} {F F' J J':List (Addr × Obj)} {hp hp':List SO} {gn:Array GenState} {os:OsState} {e d t:Addr} {k9:Int} {k8 k7:Tok} {r9:List DictEntry} {P6 F6:List (Addr × Obj)} {s':Shared} {m':Str→Option Value}
    (h:Thrown W h₀ L m ρ F J hp gn os e d t k9 k8 k7 r9 P6 F6 s') (h1:ρ=ρ') (h2:Sub F' F) (h3:J=J') (h4:hp=hp') (h5:m=m'):Thrown W h₀ L m' ρ' F' J' hp' gn os e d t k9 k8 k7 r9 P6 F6 s':=by
  subst h1 h3 h4 h5
  exact ⟨h.1,h.2.1,fun p hp=>h.2.2.1 p (h2 p hp),h.2.2.2⟩
theorem done_body (H:KOK W.w.params W.K) (hp:importsNone W.p=true) (ok:OkB W x 32) (hh:x.hh=none) (hcs:x.cs=r268.scope) {B:Box} {L:LS} {l:List Dat} (S:St W x c) (eσ:c.σ=stA9 B L l) {Q:Flow→Shared→Prop}
    (ret:∀ e d t k9 k8 k7 r9 P6 F6 s',Thrown W x.h₀ x.L c.m c.ρ c.F c.J c.σ.hp x.gn x.os e d t k9 k8 k7 r9 P6 F6 s'→E (.ref e) s') :
    wpAny W.M x.ar (execs r268.body x.env) Q E c.s:=by
  have S0:=snd9 H hp
  have ok0:OkB W x 30:=⟨ok.cb,ok.B,ok.X,ok.T,ok.hk,ok.cc,by have:=ok.dp; exact ln [_,_] [] [.lt (.a (.a (.v 0) (.m 2 (.k 32))) (.k 40)) (.v 1)] (.lt (.a (.a (.v 0) (.m 2 (.k 30))) (.k 40)) (.v 1)) (.w [1,1]) zr this,by have:=ok.un; exact ln [_,_] [] [.lt (.a (.a (.v 0) (.m 16 (.k 32))) (.k 320)) (.v 1)] (.lt (.a (.a (.v 0) (.m 16 (.k 30))) (.k 320)) (.v 1)) (.w [1,1]) zr this,ok.cellsX⟩
  have h1:o9.ts tst9 c.σ fun b σ=>b=true ∧ σ=stA9 B L l:=by rw [eσ,f_tst]; exact ⟨rfl,rfl⟩
  rw [body268]
  refine any_at fun Γ hI=>at_execs_cons (at_If (S0.ts h1 (ok0.ok hI) S fun b b' c2 hk l2 eb S2=>?_))
  obtain ⟨rfl,e2⟩:=hk
  cases (eb:true=b')
  refine at_execs_cons (at_any hI (quic_raise hh ok.X H (any_at fun Γ2 hI2=>?_)))
  have h2:o9.ev (.Name (strS "QuicError") ⟨235,18,235,27⟩) c2.σ fun v σ=>v=.ref 38 ∧ σ=stA9 B L l:=by rw [e2,f_nm]; exact ⟨rfl,rfl⟩
  rw [arm_eval_Call_Name']
  refine at_bind (S0.ev h2 (ok0.ok hI2) S2 fun v u c3 hk l3 d3 S3=>?_)
  obtain ⟨rfl,e3⟩:=hk
  obtain rfl:=den_ref d3
  have h3:evs o9.ev args9 c3.σ fun vs σ=>vs=[.d (.int 10),.d (.int 30),.d (.str txt9)] ∧ σ=stA9 B L l:=by rw [e3,f_args]; exact ⟨rfl,rfl⟩
  have hna:noStar args9=true:=by kernel_rfl
  refine at_callG hI2 (stars_no hna) (evs_snd S0 (ok0.ok hI2) hna h3 S3 fun vs us c4 hk l4 d4 S4=>?_)
  obtain ⟨rfl,e4⟩:=hk
  obtain ⟨P4,S4⟩:=S4
  refine And.intro (keeps_K H.qk _ (ok.X.keeps S4.fr.keep)) ?_
  refine thr_el (C:=fun us=>wpAt W.M Γ2 (call (.ref 38) ([] ++ us)) _ _ c4.s) (k:=fun a b c=>a=.d (.int 10) ∧ b=.d (.int 30) ∧ c=.d (.str txt9)) (show thr [SV.d (.int 10),SV.d (.int 30),SV.d (.str txt9)] (fun a b c=>a=.d (.int 10) ∧ b=.d (.int 30) ∧ c=.d (.str txt9)) from ⟨rfl,rfl,rfl⟩) d4 fun v1 u1 v2 u2 v3 u3 d1 d2 d3 hv=>?_
  obtain ⟨rfl,rfl,rfl⟩:=hv
  obtain ⟨t10,rfl⟩:=den_int d1
  obtain ⟨t30,rfl⟩:=den_int d2
  obtain ⟨tz,rfl⟩:=den_str d3
  have l14:=(l2.trans l3).trans l4
  have hl:c4.σ.hp.length=c.σ.hp.length:=by rw [e4,eσ]
  exact at_any hI2 (make_go H hp ok S4 fun e d t k9 k8 k7 r9 P6 F6 s' h=>ret e d t k9 k8 k7 r9 P6 F6 s' (h.up (ext_eq l14.ext (S4.lenH.symm.trans (hl.trans (S.el fun _ S=>S.lenH)))) l14.sub l14.jj (by rw [e4,eσ]) l14.mm))
noncomputable def Left (W:Wd) (h₀:Heap) (L:Addr) (m:Str→Option Value) (ρ:List Addr) (F J:List (Addr × Obj)) (hp:List SO) (gn:Array GenState) (os:OsState) (l:List Env) (e d t:Addr) (k9:Int) (k8 k7:Tok) (r9:List DictEntry) (P6 F6:List (Addr × Obj)) (B:Heap) (s':Shared):Prop:=
  P6.map (·.1)=ρ ∧ All2 (fun so p=>ObjOK W F6 ρ so p.2 ∧ (∀ q ∈ F6,q.1=p.1→so.alive=false ∧ q.2.cls=.type "list") ∧ ∀ q ∈ J,q.1 ≠ p.1) hp P6 ∧ Sub F F6 ∧ (∀ p ∈ F6,∀ q ∈ J,p.1 ≠ q.1) ∧ Fr h₀ L s'.heap m ∧ h₀.StaysIn B ∧
    (∀ q ∈ (d,dictOf (⟨k9,.str (strS "code") k8,.int 10 k7⟩ :: r9) 3) :: (P6 ++ (F6 ++ J)),B.get? q.1=some q.2 ∧ h₀.get? q.1=none) ∧ e ≠ d ∧ (∀ p ∈ P6 ++ (F6 ++ J),p.1 ≠ d) ∧ (∀ p ∈ P6 ++ (F6 ++ J),p.1 ≠ e) ∧ B.get? e=none ∧ h₀.get? e=none ∧ B.StaysIn s'.heap ∧ s'.heap.FunFrames B l ∧ TrO s'.heap B e (eObj (some d) (eVs t)) (.ref t) .none ∧ s'.gens=gn ∧ s'.os=os
theorem done_s (H:KOK W.w.params W.K) (hp:importsNone W.p=true) (ok:OkB W x 33) (hh:x.hh=none) (hb:x.base=x.h₀) {B:Box} {L:LS} {l:List Dat} (S:StW W x c P) (hσ:c.σ.hp=endH B (setS L .c3 .s2) l) {xs:Addr} (hd:DV W c (.obj 33) (.ref xs))
    (ret:∀ e d t k9 k8 k7 r9 P6 F6 Bh s',Left W x.h₀ x.L c.m c.ρ c.F c.J c.σ.hp x.gn x.os (x.fenv :: x.outer) e d t k9 k8 k7 r9 P6 F6 Bh s'→E (.ref e) s') :
    wpAny W.M x.ar (call (.ref 268) [.ref xs]) Q E c.s:=by
  refine enter_any (n:=32) (r:=r268) (args:=[.obj 33]) (fn_ok H (lookN_mem (by kernel_rfl))) rfl (by kernel_rfl) (by kernel_rfl) ok S (.cons hd .nil) fun L' g cdv h₁ m' tk FG ok3 S3=>?_
  refine done_body H hp ok3 hh rfl ⟨P,S3⟩ (by show (⟨_,_,c.σ.hp⟩:Sy)=_; rw [hσ]; rfl) fun e d t k9 k8 k7 r9 P6 F6 s' h=>?_
  refine byC fun zC zk=>?_
  obtain ⟨a1,a2,a3,a4,a5,a6,a7,a8,a9,a10,a11⟩:=h
  refine zk ?_
  refine quic_leave (A:=x.ar) (name:=r268.qual) (scope:=r268.scope) ok3.B a5 a6 (fun p hp=>?_) (fun Bh h' b1 b2 b3 b4 b5 b6 b7 b8=>?_) (by kernel_rfl)
  · rcases List.mem_cons.mp hp with rfl | hp
    · exact Ne.symm a7
    · exact a9 p hp
  · have b1:x.base.StaysIn Bh:=b1
    rw [hb] at b1
    refine ret e d t k9 k8 k7 r9 P6 F6 Bh _ ⟨a1,a2,a3,a4,Fr.of_stays FG (fun b o q=>b5 b o (b1 b o q)) b8,b1,fun q hq=>?_,a7,a8,a9,b3,?_,b5,b6,b7,a10,a11⟩
    · exact hb ▸ b2 q hq
    · exact hb ▸ b4
end
end Mine
end
section
open PySem PySem.W PyProof.Rows PySem.Calls
namespace Mine
noncomputable def m268 (i:Nat) (l:Nat):Expr:=.Subscript (.Name (strS "ends") ⟨l,8,l,12⟩) (.Constant (.int i) 0 ⟨l,13,l,14⟩) ⟨l,8,l,15⟩
noncomputable def call9 (i:Nat) (l:Nat):Expr:=.Call (.Attribute (m268 i l) (strS "on_done_frame") ⟨l,8,l,29⟩) [] [] ⟨l,8,l,31⟩
noncomputable def code9:Expr:=.Compare (.Attribute (.Name (strS "e") ⟨464,15,464,16⟩) (strS "code") ⟨464,15,464,21⟩) [.Eq] [.Constant (.int 10) 0 ⟨464,25,464,27⟩] ⟨464,15,464,27⟩
noncomputable def conf9:Expr:=.Attribute (.Subscript (.Name (strS "ends") ⟨464,32,464,36⟩) (.Constant (.int 0) 0 ⟨464,37,464,38⟩) ⟨464,32,464,39⟩) (strS "is_confirmed") ⟨464,32,464,52⟩
noncomputable def ret9:Stmt:=.Return (some (.BoolOp .And [code9,conf9] ⟨464,15,464,52⟩)) ⟨464,8,464,52⟩
theorem try9:lawR.body.drop 13=.Try [.Expr (call9 1 461) ⟨461,8,461,31⟩] [.ExceptHandler (some (.Name (strS "QuicError") ⟨462,11,462,20⟩)) (some (strS "e")) [.Expr (call9 0 463) ⟨463,8,463,31⟩,ret9] ⟨462,4,464,52⟩] [] [] ⟨460,4,464,52⟩ :: lawR.body.drop 14:=by kernel_rfl
section
variable {ds l:List Dat} {sd:Int} {B:Box} {L:LS}
theorem f_m1 {K:SV→SV→Sy→Prop}:(o9.ev (m268 1 461) (σZ ds sd B L l) fun u σ=>methV T9 u (strS "on_done_frame") σ fun f=>K u f σ)=K (.obj 33) (.ref 268) (σZ ds sd B L l):=by kernel_rfl
noncomputable def stE9 (ds:List Dat) (sd:Int) (B:Box) (L:LS) (l:List Dat) (e:Addr):Sy:=(σZ ds sd B L l).loc! (strS "e") (.ref e)
theorem f_s1 {e:Addr}:(st1 T9 o9 (.Expr (call9 0 463) ⟨463,8,463,31⟩) (stE9 ds sd B L l e) fun fl σ=>fl=.next ∧ o9.ev (.Name (strS "e") ⟨464,15,464,16⟩) σ fun v σ'=>v=.ref e ∧ o9.ev conf9 σ' fun u _=>u=.d (.bool true))=(Fl.next=.next ∧ SV.ref e=.ref e ∧ SV.d (.bool true)=.d (.bool true)):=by kernel_rfl
theorem f_c10 {K:KV} {σ:Sy} {p:Pos}:o9.ev (.Constant (.int 10) 0 p) σ K=K (.d (.int 10)) σ:=by kernel_rfl
theorem f_eq10 {σ:Sy} {k:Bool→Prop}:cmpV σ .Eq (.d (.int 10)) (.d (.int 10)) k=k true:=by kernel_rfl
end
section
variable {W:Wd} {x:Ac} {c:Cf} {n:Nat} {E:Value→Shared→Prop} {P:List (Addr × Obj)}
theorem code_go (H:KOK W.w.params W.K) (hp:importsNone W.p=true) (ok:OkB W x 30) {e d:Addr} {vs:Array Value} {k9:Int} {k8 k7:Tok} {r9:List DictEntry} (S:St W x c) (he:(e,eObj (some d) vs) ∈ c.J) (hd:(d,dictOf (⟨k9,.str (strS "code") k8,.int 10 k7⟩ :: r9) 3) ∈ c.J) {K:Sy→Prop} {Q:Value→Shared→Prop} {Γ:Ctx} (hI:Γ.In x.ar)
    (h:o9.ev (.Name (strS "e") ⟨464,15,464,16⟩) c.σ fun v σ=>v=.ref e ∧ K σ) (G:∀ c',K c'.σ→Le c c'→St W x c'→Q (.bool true) c'.s):wpAt W.M Γ (eval code9 x.env) Q E c.s:=by
  have S0:=snd9 H hp
  show wpAt W.M Γ (eval (.Compare (.Attribute (.Name (strS "e") ⟨464,15,464,16⟩) (strS "code") ⟨464,15,464,21⟩) [.Eq] [.Constant (.int 10) 0 ⟨464,25,464,27⟩] ⟨464,15,464,27⟩) x.env) Q E c.s
  rw [arm_eval_Compare,arm_eval_Attribute,base_of rfl]
  refine at_bind (at_bind (S0.ev h (ok.ok hI) S fun v u c1 hk l1 d1 S1=>at_bind (at_standAt (at_bind (at_holding (at_any hI ?_))))))
  obtain ⟨rfl,hk⟩:=hk
  obtain rfl:=den_ref d1
  have g:∀ {q},q ∈ c.J→c1.s.heap.get? q.1=some q.2:=fun {q} hq=>S1.el fun _ S=>(S.news q (List.mem_append_right _ (List.mem_append_right _ (l1.jj ▸ hq)))).1
  refine exc_get (v:=.int 10 k7) (ok.X.keeps (S1.el fun _ S=>S.fr.keep)) (ox:=eObj (some d) vs) ⟨g he,rfl,rfl,g hd⟩ (cd38 H) rfl H.ga H.gg (findObj_own H.hd H.q1 rfl rfl) rfl ?_
  refine at_bind (at_lget (ok.ok hI) (at_pure ?_))
  show wpAt W.M Γ (do
    let rv ← holding [.int 10 k7] (markedBehindIn .Eq (.Constant (.int 10) 0 ⟨464,25,464,27⟩) (eval (.Constant (.int 10) 0 ⟨464,25,464,27⟩) x.env))
    standAt ⟨464,15,464,27⟩
    operate [.int 10 k7,rv] (compareOp .Eq (.int 10 k7) rv)) Q E { c1.s with toks:=c1.s.toks + 1 }
  rw [marked_of rfl]
  refine at_bind (at_holding (S0.ev (c:={ c1 with s:={ c1.s with toks:=c1.s.toks + 1 } }) (K:=fun v σ=>v=.d (.int 10) ∧ K σ) (f_c10.mpr ⟨rfl,hk⟩) (ok.ok hI) (S1.tok _) fun v2 u2 c2 hk2 l2 d2 S2=>at_bind (at_standAt (at_operate (at_any hI ?_)))))
  obtain ⟨rfl,hk2⟩:=hk2
  exact cmp_snd (k:=fun b=>b=true) (tab9 H hp) (ok.ok hI) S2 (.int 10 k7) d2 (f_eq10.mpr rfl) fun b tk hb=>by
    subst hb
    exact G { c2 with s:={ c2.s with toks:=tk } } hk2 ((l1.trans Le.here).trans (l2.trans Le.here)) (S2.tok _)
theorem ret_go (H:KOK W.w.params W.K) (hp:importsNone W.p=true) (ok:OkB W x 30) {e d:Addr} {vs:Array Value} {k9:Int} {k8 k7:Tok} {r9:List DictEntry} (S:St W x c) (he:(e,eObj (some d) vs) ∈ c.J) (hd:(d,dictOf (⟨k9,.str (strS "code") k8,.int 10 k7⟩ :: r9) 3) ∈ c.J) {Q:Flow→Shared→Prop} {Γ:Ctx} (hI:Γ.In x.ar)
    (h:o9.ev (.Name (strS "e") ⟨464,15,464,16⟩) c.σ fun v σ=>v=.ref e ∧ o9.ev conf9 σ fun u _=>u=.d (.bool true)) (ret:∀ c',Le c c'→St W x c'→Q (.ret (.bool true)) c'.s):wpAt W.M Γ (exec ret9 x.env) Q E c.s:=by
  refine at_Return ?_
  rw [arm_eval_BoolOp]
  show wpAt W.M Γ (do
    let v ← eval code9 x.env
    standAt ⟨464,15,464,52⟩
    let t ← holding [v] (truthy v)
    match BoolOp.And,t with
    | .And,false | .Or,true=>pure v
    | _,_=>eval conf9 x.env) _ E c.s
  refine at_bind (code_go H hp ok S he hd hI h fun c1 hk l1 S1=>at_bind (at_standAt (at_bind (at_holding (at_any hI (wpAny_truthy_bool ?_))))))
  refine (snd9 H hp).ev hk (ok.ok hI) S1 fun v u c2 hk l2 d2 S2=>?_
  subst hk
  obtain rfl:=den_bool d2
  exact ret c2 (l1.trans l2) S2
theorem suite_go (H:KOK W.w.params W.K) (hp:importsNone W.p=true) (ok:OkB W x 30) {e d:Addr} {vs:Array Value} {k9:Int} {k8 k7:Tok} {r9:List DictEntry} (S:St W x c) (he:(e,eObj (some d) vs) ∈ c.J) (hd:(d,dictOf (⟨k9,.str (strS "code") k8,.int 10 k7⟩ :: r9) 3) ∈ c.J) {ds l:List Dat} {sd:Int} {B:Box} {L:LS} (eσ:c.σ=stE9 ds sd B L l e) {Q:Flow→Shared→Prop}
    (ret:∀ c',LeS c c'→St W x c'→Q (.ret (.bool true)) c'.s):wpAny W.M x.ar (execs [.Expr (call9 0 463) ⟨463,8,463,31⟩,ret9] x.env) Q E c.s:=by
  refine any_at fun Γ hI=>at_execs_cons (expr_snd (snd9 H hp) (T:=T9) (by rw [eσ]; exact f_s1.mpr ⟨rfl,rfl,rfl⟩) (ok.ok hI) ok.cc S fun fl f c1 hk l1 df S1=>?_)
  obtain ⟨rfl,hk⟩:=hk
  cases (df:f=.next)
  exact at_execs_cons (ret_go H hp ok S1 (l1.jj ▸ he) (l1.jj ▸ hd) hI hk fun c2 l2 S2=>ret c2 (l1.trans l2.s) S2)
theorem StW.cbs (S:StW W x c P) (b:Bool):StW { W with cb:=b } x c P:=⟨S.sc,S.fr,S.news,S.rho,S.objs,S.nodup,S.fj,S.loc⟩
theorem Left.up {h₀:Heap} {L:Addr} {m m':Str→Option Value} {ρ ρ':List Addr} {F F' J J':List (Addr × Obj)} {hp hp':List SO} {gn:Array GenState} {os:OsState} {l:List Env} {e d t:Addr} {k9:Int} {k8 k7:Tok} {r9:List DictEntry} {P6 F6:List (Addr × Obj)} {Bh:Heap} {s':Shared}
    (h:Left W h₀ L m ρ F J hp gn os l e d t k9 k8 k7 r9 P6 F6 Bh s') (h1:ρ=ρ') (h2:Sub F' F) (h3:J=J') (h4:hp=hp') (h5:m=m'):Left W h₀ L m' ρ' F' J' hp' gn os l e d t k9 k8 k7 r9 P6 F6 Bh s':=by
  subst h1 h3 h4 h5
  exact ⟨h.1,h.2.1,fun p hp=>h.2.2.1 p (h2 p hp),h.2.2.2⟩
theorem call1_go (H:KOK W.w.params W.K) (hp:importsNone W.p=true) (ok:OkB W x 33) (hh:x.hh=none) (hb:x.base=x.h₀) {ds l:List Dat} {sd:Int} {B:Box} {L:LS} (S:St W x c) (eσ:c.σ=σZ ds sd B L l) {Q:Flow→Shared→Prop}
    (ret:∀ e d t k9 k8 k7 r9 P6 F6 Bh s',Left W x.h₀ x.L c.m c.ρ c.F c.J c.σ.hp x.gn x.os (x.fenv :: x.outer) e d t k9 k8 k7 r9 P6 F6 Bh s'→E (.ref e) s') :
    wpAny W.M x.ar (execs [.Expr (call9 1 461) ⟨461,8,461,31⟩] x.env) Q E c.s:=by
  have ok0:OkB W x 30:=⟨ok.cb,ok.B,ok.X,ok.T,ok.hk,ok.cc,by have:=ok.dp; exact ln [_,_] [] [.lt (.a (.a (.v 0) (.m 2 (.k 33))) (.k 40)) (.v 1)] (.lt (.a (.a (.v 0) (.m 2 (.k 30))) (.k 40)) (.v 1)) (.w [1,1]) zr this,by have:=ok.un; exact ln [_,_] [] [.lt (.a (.a (.v 0) (.m 16 (.k 33))) (.k 320)) (.v 1)] (.lt (.a (.a (.v 0) (.m 16 (.k 30))) (.k 320)) (.v 1)) (.w [1,1]) zr this,ok.cellsX⟩
  have hin:interactive x.env=false:=by
    rw [env_fn ok.cc]
    show (x.cs.kind == .module && _)=false
    rw [ok.hk]; rfl
  refine any_at fun Γ hI=>at_execs_cons (at_Expr (hi:=hin) hI (methcall (K:=fun w f σ=>w=.obj 33 ∧ f=.ref 268 ∧ σ=σZ ds sd B L l) (snd9 H hp) (tab9 H hp) (by kernel_rfl) (by decide) (by kernel_rfl) rfl (by rw [eσ]; exact f_m1.mpr ⟨rfl,rfl,rfl⟩) (ok0.ok hI) S fun w u f fu c1 hk l1 du df S1=>?_))
  obtain ⟨rfl,rfl,e1⟩:=hk
  obtain rfl:=den_ref df
  obtain ⟨xs,rfl,_⟩:=den_obj du
  obtain ⟨P1,S1⟩:=S1
  refine at_callG hI rfl (at_spliced_nil ⟨keeps_K (fn_ok H (a:=268) (lookN_mem (by kernel_rfl):(268,r268) ∈ fnL)).keep _ (ok.X.keeps S1.fr.keep),at_any hI (done_s H hp ok hh hb S1 (by rw [e1]; rfl) du fun e d t k9 k8 k7 r9 P6 F6 Bh s' h=>?_)⟩)
  have hl:c1.σ.hp.length=c.σ.hp.length:=by rw [e1,eσ]
  exact ret e d t k9 k8 k7 r9 P6 F6 Bh s' (h.up (ext_eq l1.ext (S1.lenH.symm.trans (hl.trans (S.el fun _ S=>S.lenH)))) l1.sub l1.jj (by rw [e1,eσ]) l1.mm)
theorem f_locE {ds l:List Dat} {sd:Int} {B:Box} {L:LS} {e:Addr}:(stE9 ds sd B L l e).loc=(σZ ds sd B L l).loc.map fun p=>(p.1,bif eqS (strS "e") p.1 then some (.ref e) else p.2):=rfl
theorem caught_st (hcc:x.cc=none) (hcs:x.cs=lawR.scope) (S:StW W x c P) {ds l:List Dat} {sd:Int} {B:Box} {L:LS} (hσ:c.σ=σZ ds sd B L l) {e d t:Addr} {k9:Int} {k8 k7:Tok} {r9:List DictEntry} {P6 F6:List (Addr × Obj)} {Bh:Heap} {s':Shared} {gl:List Env} {vs:Array Value} {h':Heap} {tk:Nat}
    (h:Left W x.h₀ x.L c.m c.ρ c.F c.J c.σ.hp x.gn x.os gl e d t k9 k8 k7 r9 P6 F6 Bh s') (F9:Fr x.h₀ x.L h' fun y=>if y=strS "e" then some (.ref e) else c.m y)
    (N9:News x.h₀ x.L h' ((e,eObj (some d) vs) :: (d,dictOf (⟨k9,.str (strS "code") k8,.int 10 k7⟩ :: r9) 3) :: (P6 ++ (F6 ++ c.J)))) :
    StW W { x with hh:=some (.ref e) } ⟨c.ρ,F6,(e,eObj (some d) vs) :: (d,dictOf (⟨k9,.str (strS "code") k8,.int 10 k7⟩ :: r9) 3) :: c.J,fun y=>if y=strS "e" then some (.ref e) else c.m y,stE9 ds sd B L l e,{ s' with heap:=h',toks:=tk }⟩ P6:=by
  refine byC fun zC zk=>?_
  obtain ⟨a1,a2,a3,a4,_,_,_,o1,o2,o3,_,_,_,_,_,a5,a6⟩:=h
  refine zk ?_
  refine ⟨⟨?_,a5,a6⟩,F9,fun p hp=>N9 p ?_,a1,?_,S.nodup,fun p hp q hq=>?_,fun y v kd h1 h2 h3=>?_⟩
  · have:=S.sc.1
    rw [hσ] at this
    exact this
  · rcases List.mem_append.mp hp with hp | hp
    · exact .tail _ (.tail _ (List.mem_append_left _ hp))
    · rcases List.mem_append.mp hp with hp | hp
      · exact .tail _ (.tail _ (List.mem_append_right _ (List.mem_append_left _ hp)))
      · rcases List.mem_cons.mp hp with rfl | hp
        · exact .head _
        rcases List.mem_cons.mp hp with rfl | hp
        · exact .tail _ (.head _)
        · exact .tail _ (.tail _ (List.mem_append_right _ (List.mem_append_right _ hp)))
  · have ehp:c.σ.hp=(stE9 ds sd B L l e).hp:=by rw [hσ]; rfl
    rw [ehp] at a2
    refine All2.of a2.len fun i so p e1 e2=>⟨(a2.both e1 e2).1,(a2.both e1 e2).2.1,fun q hq=>?_⟩
    have hp:p ∈ P6 ++ (F6 ++ c.J):=List.mem_append_left _ (List.mem_of_getElem? e2)
    rcases List.mem_cons.mp hq with rfl | hq
    · exact (o3 p hp).symm
    rcases List.mem_cons.mp hq with rfl | hq
    · exact (o2 p hp).symm
    · exact (a2.both e1 e2).2.2 q hq
  · have hp':p ∈ P6 ++ (F6 ++ c.J):=List.mem_append_right _ (List.mem_append_left _ hp)
    rcases List.mem_cons.mp hq with rfl | hq
    · exact o3 p hp'
    rcases List.mem_cons.mp hq with rfl | hq
    · exact o2 p hp'
    · exact a4 p hp q hq
  · have h1:lookS y (stE9 ds sd B L l e).loc=some (some v):=h1
    rw [f_locE] at h1
    refine byC fun zC zk=>?_
    obtain ⟨ov,e1,e2⟩:=lookS_map (f:=fun p:Str × Option SV=>(p.1,bif eqS (strS "e") p.1 then some (.ref e) else p.2)) (fun _=>rfl) h1
    refine zk ?_
    have e2:(bif eqS (strS "e") y then some (.ref e) else ov)=some v:=(Prod.mk.inj e2).2
    have hk:lookS y x.cs.names=some kd:=by rw [← sc_fn hcc]; exact h2
    have hcc':({ x with hh:=some (.ref e) }:Ac).cc=none:=hcc
    cases ez:eqS (strS "e") y with
    | true =>
      rw [ez] at e2
      obtain rfl:=Option.some.inj e2
      obtain rfl:=eqS_iff.mp ez
      exact ⟨.ref e,.loc hcc' (by show lookS _ x.cs.names=_; rw [hcs]; kernel_rfl) (show (if strS "e"=strS "e" then some (Value.ref e) else c.m (strS "e"))=some (.ref e) from if_pos rfl),.a1 (.ref e)⟩
    | false =>
      rw [ez] at e2
      have hne:¬ y=strS "e":=fun q=>ft ((eqS_iff.mpr q.symm).symm.trans ez)
      obtain rfl:ov=some v:=e2
      refine byC fun zC zk=>?_
      obtain ⟨u,k1,k2⟩:=S.loc y v kd (by rw [hσ]; exact e1) h2 h3
      refine zk ?_
      refine ⟨u,?_,k2.mono a3 fun _ _ h=>h⟩
      cases k1 with
      | loc a b q=>exact .loc hcc' b ((if_neg hne).trans q)
      | cell a b q r=>exact .cell a b (a3 _ q) r
      | comp a=>exact nomatch hcc.symm.trans a
theorem try_go (H:KOK W.w.params W.K) (hp:importsNone W.p=true) (hcs:x.cs=lawR.scope) (hcc:x.cc=none) (hh:x.hh=none) (hb:x.base=x.h₀) (hdp:x.dp + 422 < recursionLimit) (hun:x.un + 3376 < cLine) (B0:Below x.A₀ x.base x.outer x.h₀) (X:W.K.In x.h₀) (T0:Top W.p W.loose W.mean W.mg W.mb x.h₀) {Γ:Ctx} (hI:Γ.In x.ar)
    (S:St W x c) {ds l:List Dat} {sd:Int} {B:Box} {L:LS} (hσ:c.σ=σZ ds sd B L l) {Q:Flow→Shared→Prop}
    (hQ:∀ s' m',Fr x.h₀ x.L s'.heap m'→(∀ q ∈ c.F ++ c.J,s'.heap.get? q.1=some q.2)→s'.gens=x.gn→s'.os=x.os→Q (.ret (.bool true)) s') :
    wpAt W.M Γ (execs (lawR.body.drop 13) x.env) Q E c.s:=by
  have H0:KOK ({ W with cb:=false }:Wd).w.params ({ W with cb:=false }:Wd).K:=H
  have hnc:∀ y,lookS y x.cs.names=some .cell→∃ a,x.cl.lookup y=some a:=fun y e=>by
    have:=List.all_eq_true.mp law_nocell _ (lookS_mem (hcs ▸ e))
    cases this
  have hkd:x.cs.kind=.function:=by rw [hcs]; exact law_kind
  have ok:OkB { W with cb:=false } x 33:=⟨rfl,B0,X,T0,hkd,hcc,by exact ln [_,_] [] [.lt (.a (.v 0) (.k 422)) (.v 1)] (.lt (.a (.a (.v 0) (.m 2 (.k 33))) (.k 40)) (.v 1)) (.w [1,1]) zr hdp,by exact ln [_,_] [] [.lt (.a (.v 0) (.k 3376)) (.v 1)] (.lt (.a (.a (.v 0) (.m 16 (.k 33))) (.k 320)) (.v 1)) (.w [1,1]) zr hun,hnc⟩
  refine byC fun zC zk=>?_
  obtain ⟨P,S⟩:=S
  refine zk ?_
  have S0:=S.cbs false
  rw [try9]
  refine at_execs_cons (at_any hI (wpAny_Try_except (call1_go (W:={ W with cb:=false }) H0 hp ok hh hb ⟨P,S0⟩ hσ fun e d t k9 k8 k7 r9 P6 F6 Bh s' h=>?_)))
  rw [env_fn hcc]
  have h0:=h
  refine byC fun zC zk=>?_
  obtain ⟨_,_,a3,_,f1,b1,b2,o1,_,o3,b3,b4,b5,b6,b7,_,_⟩:=h0
  refine zk ?_
  refine quic_caughtX (K:=W.K) (np:=⟨462,11,462,20⟩) (A:=x.ar) rfl f1 X H T0.g b1 b2 b3 b4 b5 b6 b7 (fun h' vs tk F9 N9=>?_) hkd (by show x.cs.names.lookup _=_; rw [hcs]; kernel_rfl) (by show x.cs.names.lookup _=_; rw [hcs]; kernel_rfl)
  have S9:=caught_st (W:={ W with cb:=false }) (tk:=tk) hcc hcs S0 hσ h F9 N9
  have he:({ x with hh:=some (.ref e) }:Ac).env=x.fenv:=env_fn (x:={ x with hh:=some (.ref e) }) hcc
  have ok9:OkB { W with cb:=false } { x with hh:=some (.ref e) } 30:=⟨rfl,B0,X,T0,hkd,hcc,by show x.dp + _ + _ < _; exact ln [_,_] [] [.lt (.a (.v 0) (.k 422)) (.v 1)] (.lt (.a (.a (.v 0) (.m 2 (.k 30))) (.k 40)) (.v 1)) (.w [1,1]) zr hdp,by show x.un + _ + _ < _; exact ln [_,_] [] [.lt (.a (.v 0) (.k 3376)) (.v 1)] (.lt (.a (.a (.v 0) (.m 16 (.k 30))) (.k 320)) (.v 1)) (.w [1,1]) zr hun,hnc⟩
  have key:=fun Q9 E9=>suite_go (E:=E9) H0 hp ok9 ⟨P6,S9⟩ (.head _) (.tail _ (.head _)) rfl (Q:=Q9)
  rw [he] at key
  refine key _ _ fun c' l' S'=>?_
  refine byC fun zC zk=>?_
  obtain ⟨P',S'⟩:=S'
  refine zk ?_
  refine wpAny_nameGoes (by show x.cs.names.lookup _=_; rw [hcs]; kernel_rfl) S'.fr.ns (by show (x.cs.kind == .class || (x.cs.kind == .module && _))=false; rw [hkd]; rfl) fun h'' m'' hn hs=>?_
  have N':=S'.news.set hs
  refine hQ _ _ (S'.fr.set hn hs) (fun q hq=>(N' q (List.mem_append_right _ ?_)).1) S'.sc.2.1 S'.sc.2.2
  rcases List.mem_append.mp hq with hq | hq
  · exact List.mem_append_left _ (l'.sub _ (a3 _ hq))
  · exact List.mem_append_right _ (l'.jj ▸ .tail _ (.tail _ hq))
end
end Mine
end
section
open PySem PySem.W PyProof.Rows PySem.Calls
namespace Mine
theorem body_eq:lawR.body=lawB ++ lawR.body.drop 13:=by kernel_rfl
theorem execs_app {env:Env} {r:List Stmt} {l:List Stmt}:execs (l ++ r) env=(execs l env >>= fun f=>match f with | .next=>execs r env | f=>pure f):=by
  induction l with
  | nil=>exact (LawfulMonad.pure_bind _ _).symm
  | cons st l ih =>
    rw [List.cons_append,execs_cons,execs_cons,LawfulMonad.bind_assoc]
    refine congrArg _ (funext fun f=>?_)
    cases f <;> first | exact ih | exact (LawfulMonad.pure_bind _ _).symm
theorem at_app {M:Model} {Γ:Ctx} {env:Env} {r:List Stmt} {E:Value→Shared→Prop} {l:List Stmt} {Q:Flow→Shared→Prop} {s:Shared} (h:wpAt M Γ (execs l env) (fun f s'=>f=.next ∧ wpAt M Γ (execs r env) Q E s') E s):wpAt M Γ (execs (l ++ r) env) Q E s:=by
  rw [execs_app]
  refine at_bind (at_mono h (fun f s' h'=>?_) fun _ _ x=>x)
  obtain ⟨rfl,h'⟩:=h'
  exact h'
theorem st_ok (W:Wd) (H:WOK W):StOK W T3 130:=by
  intro g e st c K h x Γ Q E ok hcc S G
  obtain rfl:gTry=g:=Option.some.inj e
  refine byC fun zC zk=>?_
  obtain ⟨ds,sd,B,L,l,rfl,hσ,hk⟩:=h
  refine zk ?_
  exact ends9 (prog:=PySem.Challenge.rw_no0086_01.prog) H.cb (tab_ok H.K H.p (fun _=>H.cb) fun a g h=>keys_in k3 h) ok hcc (by rw [hσ]; rfl) S hσ hk G
theorem law_fin {K:Frag} {q:Program} {loose:List Str} {mean:ExcName→Option Value} {mg mb:Str→Option Value} {w:World} {s₀ s₁:Shared} {fa sc0:Addr} {vs:List Value} {zs:List Int} {cd:Value} {cn:Str} {h₁:Heap} {tk:Nat} {m:Str→Option Value} {Γ:Ctx} {Q:Flow→Shared→Prop} {E:Value→Shared→Prop} {nn:Nat}
    (HK:KOK w.params K) (hq:importsNone q=true) (T0:Top q loose mean mg mb s₀.heap) (X0:K.In s₀.heap) (kp:∀ b o,s₀.heap.get? b=some o→s₁.heap.get? b=some o) (h0:s₀.heap.objs.size ≤ sc0) (ho:s₁.heap.get? sc0=some (listOf vs.toArray nn)) (hz:IntsAre vs zs) (hzl:zs.length ≤ 900) (hg:s₁.gens=#[])
    (F:Fr s₁.heap s₁.heap.objs.size h₁ m) (hm:m (strS "script")=some (.ref sc0)) (hI:Γ.In (callerA.deeper (envX cn lawR.scope s₁.heap.objs.size fa cd []))) (hC:Clean true Γ)
    (hQ:∀ s' m',s'.gens=#[]→s'.os=s₁.os→Fr s₁.heap s₁.heap.objs.size s'.heap m'→Q (.ret (.bool true)) s') :
    wpAt (model PySem.Challenge.rw_no0086_01.prog w) Γ (execs lawR.body (envX cn lawR.scope s₁.heap.objs.size fa cd [])) Q E { s₁ with heap:=h₁,toks:=tk }:=by
  rw [body_eq]
  refine at_app (law_entry HK st_ok T0 X0 hq kp h0 ho hz hzl hg F hm hI hC fun x c' sd B L l hcs hcc hhn hb hgn hdp hun B0 X T hI2 hen S hσ fin=>⟨rfl,?_⟩)
  rw [← hen,← env_fn hcc]
  refine try_go HK hq hcs hcc hhn hb hdp hun B0 X T hI2 S hσ fun s' m' F' hFJ g1 g2=>?_
  exact hQ s' m' (g1.trans hgn.1) (g2.trans hgn.2) (fin s'.heap m' F' hFJ)
theorem post_true {R:WRecords} {as:List WData}:(WTm.eq .res (.lit (.bool true))).value R { args:=as,res:=some (.bool true),after:=as }=some (.bool true):=by
  simp [WTm.value]
  exact same_self _
theorem post_ok (as:List WData):PySem.Challenge.rw_no0086_01.row.claim.post as (.bool true) as=true:=postW_of rfl post_true rfl
theorem law_cells:∀ x ∈ lawR.scope.names,x.2 ≠ .cell:=fun x hx e=>by
  have:=List.all_eq_true.mp law_nocell x hx
  rw [e] at this
  exact tf this
theorem law_walk {ps:Pos} {q:Program} {loose:List Str} {XP:(Str→Option Value)→Heap→Prop} {YP:World→Heap→Prop} {K:Params→Frag} (hY:∀ w h,YP w h→(K w.params).In h) (HK:∀ p,KOK p (K p)) (hq:importsNone q=true) :
    WalkA q loose XP YP PySem.Challenge.rw_no0086_01.row.toRowW { name:=Str.ofString "law",params:=lawR.params,body:=lawR.body,scope:=lawR.scope,pos:=ps } []:=by
  intro w s₀ s₁ mg mb G Y fa o pm cd doc dV kV ho hd hcd hD hmg hg args vals as hpre hlay hrd hwl hlo HX
  obtain ⟨G0,Y0,kp,hin⟩:=HX
  have KX:=hY _ _ Y0
  have T0:=G0.T
  have T:=G.T
  wrow_args hpre hlay hrd hwl hlo
  have he:=Dflts.none hD rfl
  subst he
  rename Heap.IsList _ _ _=>hLs
  rename IntsAre _ _=>hIs
  rename Well _ _ _ _=>hW
  rename Reads _ _ _ _=>hR
  refine at_fullW (cb:=true) (binds:=[(strS "script",.ref _)]) caller_in callerC_clean (by decide) ho hd (Top.nolimit T) hcd (BindsTo.of_eq rfl) (locs rfl) (hcell:=law_cells) fun h₁ Γ' F hI hC=>?_
  clear hD hd hcd hmg
  cases hW with
  | list e _ =>
    obtain ⟨o2,e2,-,n2,e3⟩:=hLs
    rw [e] at e2
    cases e2
    have ev:_=_:=congrArg Array.toList (Data.seq.inj e3).1
    dsimp only at ev
    subst ev
    cases hR with
    | list _ _ _ _ =>
      have h0:=(hin.2.2 _ (List.mem_append_left _ (List.mem_cons_self ..))).1
      refine law_fin (nn:=0) (HK _) hq T0 KX kp h0 e hIs ?hzl hg F rfl hI hC ?hQ
      case hzl=>omega
      case hQ =>
        intro s' m' g' o' F'
        exact GoodW.toG (goodW_bool F' g' (fun _=>rfl) (post_ok _) o')
end Mine
end
namespace Mine.head
theorem tw12310735299239354703:True:=⟨⟩
theorem tw976808484645153763:True:=⟨⟩
theorem tw12460202669355646752:True:=⟨⟩
theorem tw15501141472565082077:True:=⟨⟩
theorem tw3453547403478019728:True:=⟨⟩
theorem tw2554682012703037696:True:=⟨⟩
theorem tw8159583801465064534:True:=⟨⟩
theorem tw16871623187472473471:True:=⟨⟩
theorem tw14788773977795034992:True:=⟨⟩
theorem tw6772502638888315869:True:=⟨⟩
theorem tw15794997505209512671:True:=⟨⟩
theorem tw11296743742662292762:True:=⟨⟩
theorem tw2393098407364606883:True:=⟨⟩
theorem tw18007968972792079559:True:=⟨⟩
theorem tw2864405669816312776:True:=⟨⟩
theorem tw13256568369750436767:True:=⟨⟩
theorem tw12998212659555988865:True:=⟨⟩
theorem tw9186546921256032858:True:=⟨⟩
theorem tw3986194592780655508:True:=⟨⟩
theorem tw14628233357713752721:True:=⟨⟩
theorem tw9984397402777080727:True:=⟨⟩
theorem tw3790771472595898956:True:=⟨⟩
theorem tw7494366503370351645:True:=⟨⟩
theorem tw7450023128482652576:True:=⟨⟩
theorem tw1134157569726261602:True:=⟨⟩
theorem tw12870424476946447624:True:=⟨⟩
theorem tw69809265629811306:True:=⟨⟩
theorem tw7013799640231393816:True:=⟨⟩
theorem tw4834694072379752904:True:=⟨⟩
theorem tw45052839361067614:True:=⟨⟩
theorem tw4965378191221513410:True:=⟨⟩
theorem tw14720509044617813951:True:=⟨⟩
theorem tw1919001801439425371:True:=⟨⟩
theorem tw6684681932595197013:True:=⟨⟩
theorem tw8187629637223713605:True:=⟨⟩
theorem tw13510609219080548989:True:=⟨⟩
theorem tw11105056867450500199:True:=⟨⟩
theorem tw16817119741492734445:True:=⟨⟩
theorem tw7498250532897285284:True:=⟨⟩
theorem tw18416563613846182222:True:=⟨⟩
theorem tw7876399200375917224:True:=⟨⟩
theorem tw10812213935944405949:True:=⟨⟩
theorem tw17453365369857097546:True:=⟨⟩
theorem tw9114333099845857663:True:=⟨⟩
theorem tw2172669909848549399:True:=⟨⟩
theorem tw8182079617134344778:True:=⟨⟩
theorem tw6889739017440866108:True:=⟨⟩
theorem tw4693820183103290663:True:=⟨⟩
theorem tw17782148633632673465:True:=⟨⟩
theorem tw3746228215898030841:True:=⟨⟩
theorem tw9464831228461672588:True:=⟨⟩
theorem tw709382114072422158:True:=⟨⟩
theorem tw13357441389134331599:True:=⟨⟩
theorem tw7161073391023584161:True:=⟨⟩
theorem tw9746458257258439470:True:=⟨⟩
theorem tw16659920880120507502:True:=⟨⟩
theorem tw12601080634535202701:True:=⟨⟩
theorem tw1714602735852981970:True:=⟨⟩
theorem tw5508695066786827253:True:=⟨⟩
theorem tw2096541523181747872:True:=⟨⟩
theorem tw16966009324859112401:True:=⟨⟩
theorem tw1212124681294104184:True:=⟨⟩
theorem tw9388430590476628193:True:=⟨⟩
theorem tw8402214883040486957:True:=⟨⟩
theorem tw12822298378996975857:True:=⟨⟩
theorem tw7661765248129044261:True:=⟨⟩
theorem tw8169693465737517768:True:=⟨⟩
theorem tw649443455394278489:True:=⟨⟩
theorem tw15798066900824788120:True:=⟨⟩
theorem tw7758381527925395934:True:=⟨⟩
theorem tw13335025841360890868:True:=⟨⟩
theorem tw604627371996746742:True:=⟨⟩
theorem tw5104563664521345299:True:=⟨⟩
theorem tw16714887947964762639:True:=⟨⟩
theorem tw3944913497352057107:True:=⟨⟩
theorem tw10015159338476511836:True:=⟨⟩
theorem tw12201952087667049370:True:=⟨⟩
theorem tw15296082917334920728:True:=⟨⟩
theorem tw17017319662998615:True:=⟨⟩
theorem tw11427066125472700054:True:=⟨⟩
theorem tw9987851973559822609:True:=⟨⟩
theorem tw10706776884845955466:True:=⟨⟩
theorem tw15604011560834605598:True:=⟨⟩
theorem tw4956759928380993254:True:=⟨⟩
theorem tw15735840784391694233:True:=⟨⟩
theorem tw742351954350328859:True:=⟨⟩
theorem tw6247268493268985975:True:=⟨⟩
theorem tw12773685731770592110:True:=⟨⟩
theorem tw13637325136056909300:True:=⟨⟩
theorem tw7658410731251134818:True:=⟨⟩
theorem tw11714945338242495837:True:=⟨⟩
theorem tw866174269921992937:True:=⟨⟩
theorem tw17332727794074296334:True:=⟨⟩
theorem tw13294958713779813728:True:=⟨⟩
theorem tw532055438628499158:True:=⟨⟩
theorem tw17297054508065495485:True:=⟨⟩
theorem tw6588589085864783938:True:=⟨⟩
theorem tw14643560169476415855:True:=⟨⟩
theorem tw16111715859725283846:True:=⟨⟩
theorem tw9196398404247428943:True:=⟨⟩
theorem tw1832916270232011604:True:=⟨⟩
theorem tw1024532450058505680:True:=⟨⟩
theorem tw15204471325056678010:True:=⟨⟩
theorem tw15894371620910866019:True:=⟨⟩
theorem tw14676189674455941282:True:=⟨⟩
theorem tw15796087645652482245:True:=⟨⟩
theorem tw9162278640276766204:True:=⟨⟩
theorem tw10270352894671993868:True:=⟨⟩
theorem tw12695399030622205104:True:=⟨⟩
theorem tw5723944856813171866:True:=⟨⟩
theorem tw15785421084128741142:True:=⟨⟩
theorem tw7253898381062576733:True:=⟨⟩
theorem tw1457377512435260902:True:=⟨⟩
theorem tw8603420104599213669:True:=⟨⟩
theorem tw12362083183470981646:True:=⟨⟩
theorem tw14842460003800876886:True:=⟨⟩
theorem tw4964814941381164201:True:=⟨⟩
theorem tw3264716943610762504:True:=⟨⟩
theorem tw739537129135343663:True:=⟨⟩
theorem tw17552560543380974038:True:=⟨⟩
theorem tw13295082483830516422:True:=⟨⟩
theorem tw9062998866958442273:True:=⟨⟩
theorem tw5111174896325423537:True:=⟨⟩
theorem tw11063524718261073790:True:=⟨⟩
theorem tw14999265807660949796:True:=⟨⟩
theorem tw12478146576626367362:True:=⟨⟩
theorem tw8382746154173761051:True:=⟨⟩
theorem tw18260194641540637818:True:=⟨⟩
theorem tw17173245716831642929:True:=⟨⟩
theorem tw4433315090154635215:True:=⟨⟩
theorem tw13906610036690215845:True:=⟨⟩
theorem tw17844492200522320778:True:=⟨⟩
theorem tw15305915472762889579:True:=⟨⟩
theorem tw9625377726130185387:True:=⟨⟩
theorem tw3501597964444990463:True:=⟨⟩
theorem tw2581250870941146908:True:=⟨⟩
theorem tw174166394780034911:True:=⟨⟩
theorem tw3089916443595474862:True:=⟨⟩
theorem tw5438144065070405397:True:=⟨⟩
theorem tw15037083628117588352:True:=⟨⟩
theorem tw7994106446794305319:True:=⟨⟩
theorem tw1909714482019496454:True:=⟨⟩
theorem tw8627200689577751383:True:=⟨⟩
theorem tw13086575352542018947:True:=⟨⟩
theorem tw9114473537983693240:True:=⟨⟩
theorem tw4691952243595246448:True:=⟨⟩
theorem tw4415685298772064003:True:=⟨⟩
theorem tw17113217626458354986:True:=⟨⟩
theorem tw5870146547769353613:True:=⟨⟩
theorem tw807142644699662319:True:=⟨⟩
theorem tw17789423225533864492:True:=⟨⟩
theorem tw15647610678857825673:True:=⟨⟩
theorem tw780477332936465449:True:=⟨⟩
theorem tw16922147877168347812:True:=⟨⟩
theorem tw12892129938458570674:True:=⟨⟩
theorem tw12344544660321961925:True:=⟨⟩
theorem tw2203363585012173787:True:=⟨⟩
theorem tw5401097623525119610:True:=⟨⟩
theorem tw6327039764776113722:True:=⟨⟩
theorem tw5353729903917744248:True:=⟨⟩
theorem tw8535708456716222715:True:=⟨⟩
theorem tw1495726902847802894:True:=⟨⟩
theorem tw15638870477510070732:True:=⟨⟩
theorem tw2518057956044344595:True:=⟨⟩
theorem tw10510622979536455646:True:=⟨⟩
theorem tw12841863872788715202:True:=⟨⟩
theorem tw693309671712327132:True:=⟨⟩
theorem tw1506576300011279404:True:=⟨⟩
theorem tw7704315382344345624:True:=⟨⟩
theorem tw16997897962222511:True:=⟨⟩
theorem tw16894197260953374720:True:=⟨⟩
theorem tw1643771367246577777:True:=⟨⟩
theorem tw5986637957666399235:True:=⟨⟩
theorem tw15039987702171664376:True:=⟨⟩
theorem tw12475708393154427166:True:=⟨⟩
theorem tw5092371620264689978:True:=⟨⟩
theorem tw15112835437128306455:True:=⟨⟩
theorem tw11484358847640170188:True:=⟨⟩
theorem tw14512941343882779238:True:=⟨⟩
theorem tw14061139507663348314:True:=⟨⟩
theorem tw6053349399257934933:True:=⟨⟩
theorem tw11582096051123008839:True:=⟨⟩
theorem tw13353151263460963528:True:=⟨⟩
theorem tw4528443807372415038:True:=⟨⟩
theorem tw5927865893512547691:True:=⟨⟩
theorem tw10079960370226730655:True:=⟨⟩
theorem tw1224924573807776437:True:=⟨⟩
theorem tw4708111749353345164:True:=⟨⟩
theorem tw2400818531096893172:True:=⟨⟩
theorem tw9082462177598256812:True:=⟨⟩
theorem tw573967197379146972:True:=⟨⟩
theorem tw8097174177036852075:True:=⟨⟩
theorem tw13988103294471073821:True:=⟨⟩
theorem tw1917425121527220963:True:=⟨⟩
theorem tw1276956409769668328:True:=⟨⟩
theorem tw3688799982635324794:True:=⟨⟩
theorem tw14744981736328886265:True:=⟨⟩
theorem tw17464823870196871000:True:=⟨⟩
theorem tw12043669396524033845:True:=⟨⟩
theorem tw10748227973586771634:True:=⟨⟩
theorem tw4543076655600059902:True:=⟨⟩
theorem tw6857060684267632606:True:=⟨⟩
theorem tw13180129090757240718:True:=⟨⟩
theorem tw6880043348581005364:True:=⟨⟩
theorem tw17996886184498570944:True:=⟨⟩
theorem tw9698977904933032859:True:=⟨⟩
theorem tw9325057278558614444:True:=⟨⟩
theorem tw14149427978524627653:True:=⟨⟩
theorem tw17212568112599259466:True:=⟨⟩
theorem tw6237802210402583469:True:=⟨⟩
theorem tw1852205218256702202:True:=⟨⟩
theorem tw2994366008111725845:True:=⟨⟩
theorem tw12147184966966947637:True:=⟨⟩
theorem tw1858285994304674589:True:=⟨⟩
theorem tw13137911371727378231:True:=⟨⟩
theorem tw10005452208157733855:True:=⟨⟩
theorem tw17197444120159719569:True:=⟨⟩
theorem tw13246386896891170512:True:=⟨⟩
theorem tw5788964047882338313:True:=⟨⟩
theorem tw6426539377367359892:True:=⟨⟩
theorem tw6053997905714604814:True:=⟨⟩
theorem tw12775505166333009402:True:=⟨⟩
theorem tw5638995163158488052:True:=⟨⟩
theorem tw3160712208675142370:True:=⟨⟩
theorem tw16474958459275807246:True:=⟨⟩
theorem tw17826015225549371706:True:=⟨⟩
theorem tw13605870324054321959:True:=⟨⟩
theorem tw17895739583965686969:True:=⟨⟩
theorem tw1748456618969930982:True:=⟨⟩
theorem tw12359489953124434286:True:=⟨⟩
theorem tw5506250874072839755:True:=⟨⟩
theorem tw4381510469713062047:True:=⟨⟩
theorem tw14877080517539528568:True:=⟨⟩
theorem tw17821319399108415887:True:=⟨⟩
theorem tw2260579728952749127:True:=⟨⟩
theorem tw13954853420313727417:True:=⟨⟩
theorem tw851385035628625539:True:=⟨⟩
theorem tw8408249889716310983:True:=⟨⟩
theorem tw5187041380464763778:True:=⟨⟩
theorem tw8402328212356670530:True:=⟨⟩
theorem tw6085824867444503733:True:=⟨⟩
theorem tw14797483279817189649:True:=⟨⟩
theorem tw10533634037010066435:True:=⟨⟩
theorem tw1463646239528298992:True:=⟨⟩
theorem tw8812732774380208333:True:=⟨⟩
theorem tw16984083398119652359:True:=⟨⟩
theorem tw12032222614953749359:True:=⟨⟩
theorem tw16172288393029767808:True:=⟨⟩
theorem tw17508272824862286709:True:=⟨⟩
theorem tw9145527808636388435:True:=⟨⟩
theorem tw7906546307943345882:True:=⟨⟩
theorem tw4975070653579243887:True:=⟨⟩
theorem tw14234965402570480558:True:=⟨⟩
theorem tw262713603470380999:True:=⟨⟩
theorem tw1626232751844553403:True:=⟨⟩
theorem tw7090939061502383884:True:=⟨⟩
theorem tw6846597200999610202:True:=⟨⟩
theorem tw6110071263904590700:True:=⟨⟩
theorem tw9230457504140801826:True:=⟨⟩
theorem tw8874674299285249911:True:=⟨⟩
theorem tw11124748197601291601:True:=⟨⟩
theorem tw3304075619188804072:True:=⟨⟩
theorem tw5973763720392745831:True:=⟨⟩
theorem tw7712916153251135833:True:=⟨⟩
theorem tw14364637388885140079:True:=⟨⟩
theorem tw1985537357303476512:True:=⟨⟩
theorem tw315434073420411817:True:=⟨⟩
theorem tw779419810087314491:True:=⟨⟩
theorem tw14527164170590304321:True:=⟨⟩
theorem tw733406405333840765:True:=⟨⟩
theorem tw14909605222495392915:True:=⟨⟩
theorem tw17243387458012846398:True:=⟨⟩
theorem tw10987702880554017565:True:=⟨⟩
theorem tw8216834362191484069:True:=⟨⟩
theorem tw3821945547825155762:True:=⟨⟩
theorem tw5479459121986351116:True:=⟨⟩
theorem tw8414573866900348196:True:=⟨⟩
theorem tw11988142204041823098:True:=⟨⟩
theorem tw18332285231265401824:True:=⟨⟩
theorem tw7523532297153676066:True:=⟨⟩
theorem tw10059252607514160932:True:=⟨⟩
theorem tw10205530081349824492:True:=⟨⟩
theorem tw15895748673760503845:True:=⟨⟩
theorem tw5319049981483164881:True:=⟨⟩
theorem tw9716329373054682134:True:=⟨⟩
theorem tw10519217271611395807:True:=⟨⟩
theorem tw18080951475816111786:True:=⟨⟩
theorem tw18051680202136193954:True:=⟨⟩
theorem tw11692735721529064706:True:=⟨⟩
theorem tw15782939476341012554:True:=⟨⟩
theorem tw4023466491090337370:True:=⟨⟩
theorem tw10730805705081004914:True:=⟨⟩
theorem tw13078646160514809887:True:=⟨⟩
theorem tw1489404036187247834:True:=⟨⟩
theorem tw9820158181544301314:True:=⟨⟩
theorem tw12987040726578829979:True:=⟨⟩
theorem tw11005904730967762025:True:=⟨⟩
theorem tw6265338273532641288:True:=⟨⟩
theorem tw7688317290187622652:True:=⟨⟩
theorem tw15326552575505426906:True:=⟨⟩
theorem tw14385403278947933607:True:=⟨⟩
theorem tw13227620805987009915:True:=⟨⟩
theorem tw6100774026682323163:True:=⟨⟩
theorem tw12287978374625458572:True:=⟨⟩
theorem tw4311042196063409733:True:=⟨⟩
theorem tw3368030927266983236:True:=⟨⟩
theorem tw14667470093908496907:True:=⟨⟩
theorem tw17646911460466567920:True:=⟨⟩
theorem tw6474009502463322548:True:=⟨⟩
theorem tw13537664574400122534:True:=⟨⟩
theorem tw9827913525700040407:True:=⟨⟩
theorem tw16065720564569863766:True:=⟨⟩
theorem tw6388477656530123435:True:=⟨⟩
theorem tw17142359554024780413:True:=⟨⟩
theorem tw3690969761935527329:True:=⟨⟩
theorem tw12089259706078758787:True:=⟨⟩
theorem tw4196546014268931301:True:=⟨⟩
theorem tw10875119458065257276:True:=⟨⟩
theorem tw3083302935323014018:True:=⟨⟩
theorem tw12903917746401883607:True:=⟨⟩
theorem tw16576625349610184965:True:=⟨⟩
theorem tw3749026756887285471:True:=⟨⟩
theorem tw16640130746408290383:True:=⟨⟩
theorem tw10898857373019930491:True:=⟨⟩
theorem tw14982685227137828758:True:=⟨⟩
theorem tw11925700103697007601:True:=⟨⟩
theorem tw16874305072444578374:True:=⟨⟩
theorem tw11923155195566972133:True:=⟨⟩
theorem tw10865165270600546614:True:=⟨⟩
theorem tw14969872817325187116:True:=⟨⟩
theorem tw5274623360512300857:True:=⟨⟩
theorem tw2249667046024356820:True:=⟨⟩
theorem tw3581614266968435656:True:=⟨⟩
theorem tw5140934472235413692:True:=⟨⟩
theorem tw8773370040425892893:True:=⟨⟩
theorem tw6298033893332097587:True:=⟨⟩
theorem tw3991279037241028524:True:=⟨⟩
theorem tw12741294794224977040:True:=⟨⟩
theorem tw11485113708198979986:True:=⟨⟩
theorem tw2728595385866086531:True:=⟨⟩
theorem tw6489421142724028100:True:=⟨⟩
theorem tw12740806245664736207:True:=⟨⟩
theorem tw466721876749952763:True:=⟨⟩
theorem tw4976181008148175253:True:=⟨⟩
theorem tw12398312691204496596:True:=⟨⟩
theorem tw11484797826999851062:True:=⟨⟩
theorem tw7789450098604059249:True:=⟨⟩
theorem tw4764554697811233:True:=⟨⟩
theorem tw11544532188706048022:True:=⟨⟩
theorem tw10366927770000222440:True:=⟨⟩
theorem tw18433677622606106133:True:=⟨⟩
theorem tw5038994553942263901:True:=⟨⟩
theorem tw6846866878297920324:True:=⟨⟩
theorem tw12330954535739239725:True:=⟨⟩
theorem tw12865059321931465230:True:=⟨⟩
theorem tw6212921109956642855:True:=⟨⟩
theorem tw3794523003379204399:True:=⟨⟩
theorem tw4160124254940468481:True:=⟨⟩
theorem tw18123143868385100064:True:=⟨⟩
theorem tw10242447542790323104:True:=⟨⟩
theorem tw9280153536138602973:True:=⟨⟩
theorem tw13713612050660200124:True:=⟨⟩
theorem tw13653928888864918839:True:=⟨⟩
theorem tw7833285031277912329:True:=⟨⟩
theorem tw17698105195316432488:True:=⟨⟩
theorem tw5737951250597237232:True:=⟨⟩
theorem tw12472887615940459650:True:=⟨⟩
theorem tw4746297304354101679:True:=⟨⟩
theorem tw1082313596108445148:True:=⟨⟩
theorem tw6836605351468522007:True:=⟨⟩
theorem tw11770459041652445329:True:=⟨⟩
theorem tw7313386461004707312:True:=⟨⟩
theorem tw4053978428183960486:True:=⟨⟩
theorem tw9214367901419015226:True:=⟨⟩
theorem tw5331137831679937033:True:=⟨⟩
theorem tw2694075680205673411:True:=⟨⟩
theorem tw14195316510222423288:True:=⟨⟩
theorem tw8035625575855466936:True:=⟨⟩
theorem tw1939405473400901271:True:=⟨⟩
theorem tw13337238644230332656:True:=⟨⟩
theorem tw13198292447841614426:True:=⟨⟩
theorem tw3869590956505411354:True:=⟨⟩
theorem tw5944575059761466720:True:=⟨⟩
theorem tw13896987355042952010:True:=⟨⟩
theorem tw1620002657737552111:True:=⟨⟩
theorem tw17905491414393134947:True:=⟨⟩
theorem tw14699528089545365996:True:=⟨⟩
theorem tw6161856959107265637:True:=⟨⟩
theorem tw8758324158161630591:True:=⟨⟩
theorem tw10786079294511566085:True:=⟨⟩
theorem tw5363715690607933:True:=⟨⟩
theorem tw11426403942048686318:True:=⟨⟩
theorem tw13689084217373910675:True:=⟨⟩
theorem tw5346772772824661884:True:=⟨⟩
theorem tw4972248218790579157:True:=⟨⟩
theorem tw10323400222655561569:True:=⟨⟩
theorem tw4709128311485490483:True:=⟨⟩
theorem tw8299393411229908732:True:=⟨⟩
theorem tw9074772780463953568:True:=⟨⟩
theorem tw12858780395421280599:True:=⟨⟩
theorem tw5442484570284002534:True:=⟨⟩
theorem tw14393718171448925343:True:=⟨⟩
theorem tw7404141018258913797:True:=⟨⟩
theorem tw5617373736292572815:True:=⟨⟩
theorem tw14112051064653734678:True:=⟨⟩
theorem tw2355103038987944067:True:=⟨⟩
theorem tw11308087075614649832:True:=⟨⟩
theorem tw9777900189565919194:True:=⟨⟩
theorem tw14969385696402013904:True:=⟨⟩
theorem tw11097941207591946120:True:=⟨⟩
theorem tw15468718075485040107:True:=⟨⟩
theorem tw16800043278716471037:True:=⟨⟩
theorem tw10840385229135970747:True:=⟨⟩
theorem tw15841401105113185080:True:=⟨⟩
theorem tw6207834228037699737:True:=⟨⟩
theorem tw9515422150858430662:True:=⟨⟩
theorem tw1992862871153497056:True:=⟨⟩
theorem tw4945251732147069371:True:=⟨⟩
theorem tw10668533816033670360:True:=⟨⟩
theorem tw10170866484434975347:True:=⟨⟩
theorem tw3547030090768783262:True:=⟨⟩
theorem tw15532160837916378065:True:=⟨⟩
theorem tw1319983325249436295:True:=⟨⟩
theorem tw1389810093214676884:True:=⟨⟩
theorem tw15253846138512369154:True:=⟨⟩
theorem tw8534208459206503383:True:=⟨⟩
theorem tw1499353310998574721:True:=⟨⟩
theorem tw2591067827882107080:True:=⟨⟩
theorem tw17002534310236347988:True:=⟨⟩
theorem tw11290360913936777911:True:=⟨⟩
theorem tw17525636777796739105:True:=⟨⟩
theorem tw3973953319845086491:True:=⟨⟩
theorem tw4839655697589452165:True:=⟨⟩
theorem tw6684978435548883818:True:=⟨⟩
theorem tw13955511503576765797:True:=⟨⟩
theorem tw16014373381606645092:True:=⟨⟩
theorem tw17275705279478898512:True:=⟨⟩
theorem tw9325123708862168440:True:=⟨⟩
theorem tw6623768065929118973:True:=⟨⟩
theorem tw7599496313472250701:True:=⟨⟩
theorem tw16172356507618199906:True:=⟨⟩
theorem tw15064752311394979489:True:=⟨⟩
theorem tw6202090305015876224:True:=⟨⟩
theorem tw2491421050496283774:True:=⟨⟩
theorem tw9592777112578238593:True:=⟨⟩
theorem tw12763952150808568291:True:=⟨⟩
theorem tw10258521583956687137:True:=⟨⟩
theorem tw5764021196749891206:True:=⟨⟩
theorem tw4009957668330374740:True:=⟨⟩
theorem tw14679116673082234219:True:=⟨⟩
theorem tw13379354915994877463:True:=⟨⟩
theorem tw16572314662081343053:True:=⟨⟩
theorem tw4857777746444614323:True:=⟨⟩
theorem tw3980653432952411973:True:=⟨⟩
theorem tw15895551434495452948:True:=⟨⟩
theorem tw12527921394978015684:True:=⟨⟩
theorem tw8185714761375850791:True:=⟨⟩
theorem tw4607607821588926596:True:=⟨⟩
theorem tw17014734716931888790:True:=⟨⟩
theorem tw9083612298779875492:True:=⟨⟩
theorem tw930087139818521243:True:=⟨⟩
theorem tw2437478716016495240:True:=⟨⟩
theorem tw12851702773856589430:True:=⟨⟩
theorem tw1062042127530464391:True:=⟨⟩
theorem tw5906749814970224870:True:=⟨⟩
theorem tw5467695095851852608:True:=⟨⟩
theorem tw3547240966391284428:True:=⟨⟩
theorem tw10431609616501453582:True:=⟨⟩
theorem tw15148963937461231693:True:=⟨⟩
theorem tw7287109101882759415:True:=⟨⟩
theorem tw14492117785962260688:True:=⟨⟩
theorem tw14843749296085226474:True:=⟨⟩
theorem tw14205479233844494046:True:=⟨⟩
theorem tw8451290768687142514:True:=⟨⟩
theorem tw6871339299614917876:True:=⟨⟩
theorem tw2340069552987342377:True:=⟨⟩
theorem tw7680146299302783591:True:=⟨⟩
theorem tw17958272820484234708:True:=⟨⟩
theorem tw8997269238129315039:True:=⟨⟩
theorem tw17513103129775332898:True:=⟨⟩
theorem tw8476099583838051002:True:=⟨⟩
theorem tw7277520189549225825:True:=⟨⟩
theorem tw16471695610963150605:True:=⟨⟩
theorem tw13986843968525588388:True:=⟨⟩
theorem tw10010264046613662565:True:=⟨⟩
theorem tw8912104118211102971:True:=⟨⟩
theorem tw13801937863458859944:True:=⟨⟩
theorem tw12949380547846470161:True:=⟨⟩
theorem tw17362218986543327160:True:=⟨⟩
theorem tw17411354535832351560:True:=⟨⟩
theorem tw1315816938146588887:True:=⟨⟩
theorem tw6737735255597943219:True:=⟨⟩
theorem tw2154566216772986472:True:=⟨⟩
theorem tw11434997419882176723:True:=⟨⟩
theorem tw16031315777459398524:True:=⟨⟩
theorem tw44622916816846810:True:=⟨⟩
theorem tw5593727005144783397:True:=⟨⟩
theorem tw1673358830478937286:True:=⟨⟩
theorem tw9101448428047585222:True:=⟨⟩
theorem tw1211024037004892549:True:=⟨⟩
theorem tw9743709737119245314:True:=⟨⟩
theorem tw7119846925741900413:True:=⟨⟩
theorem tw9978949632667528635:True:=⟨⟩
theorem tw15506723302920939300:True:=⟨⟩
theorem tw17015032458148788900:True:=⟨⟩
theorem tw13199516396595161752:True:=⟨⟩
theorem tw2525317073905713282:True:=⟨⟩
theorem tw3556061257289618393:True:=⟨⟩
theorem tw16106133796442146334:True:=⟨⟩
theorem tw14646466228836335164:True:=⟨⟩
theorem tw13478637309914159250:True:=⟨⟩
theorem tw12604462930493870256:True:=⟨⟩
theorem tw9495540839478616804:True:=⟨⟩
theorem tw13585267454733459922:True:=⟨⟩
theorem tw9103479521544129834:True:=⟨⟩
theorem tw15967466079928408925:True:=⟨⟩
theorem tw10467814448475477596:True:=⟨⟩
theorem tw18142436923706422962:True:=⟨⟩
theorem tw5487235932777146282:True:=⟨⟩
theorem tw9658139154387788515:True:=⟨⟩
theorem tw3496171461512900480:True:=⟨⟩
theorem tw15510365090734361527:True:=⟨⟩
theorem tw14417885227837004991:True:=⟨⟩
end Mine.head
namespace Mine
set_option Elab.async true in
theorem head:PySem.Challenge.rw_no0086_01.Holds:=by
  w_on
  o_law
  k_head
  case hw=>w_witness2
  exact law_walk (fun w h Y=>kIn_of Y) (fun p=>⟨by kernel_rfl,by kernel_rfl,by kernel_rfl,by kernel_rfl,by kernel_rfl,by kernel_rfl,by kernel_rfl,by kernel_rfl,by kernel_rfl,by kernel_rfl,by kernel_rfl,by kernel_rfl,by kernel_rfl,by kernel_rfl,by kernel_rfl,by kernel_rfl,by kernel_rfl,by kernel_rfl,by kernel_rfl,by kernel_rfl,by kernel_rfl,by kernel_rfl,by kernel_rfl,by kernel_rfl,by kernel_rfl,by kernel_rfl⟩) (by kernel_rfl)
end Mine
theorem PySem.Challenge.cw_no0086_01_holds : PySem.Challenge.rw_no0086_01.Holds :=
  Mine.head
