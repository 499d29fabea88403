import PyProof.Rows.All
import Wide.All
import Wide.FinOn
import Open.FastRun
import OpenK.KEqL
import KE.BytesK
import KE.KBytesCut
import KE.KBytesWalk
import KE.KPar
import KE.KxBytes
import KE.BitLaws
import Lean
import PySem.Challenge.RW_pq1094_01
set_option Elab.async false
set_option linter.all false
set_option maxRecDepth 100000
set_option maxHeartbeats 0
set_option exponentiation.threshold 2000
set_option bootstrap.genMatcherCode false
set_option genSizeOf false
set_option tactic.hygienic false
section
set_option genSizeOf false
set_option genInjectivity false
namespace Mine.L
inductive LE where
  | k (i:Int) | v (i:Nat) | a (x y:LE) | s (x y:LE) | m (c:Int) (x:LE) | r (x:LE) (c:Int) | g (x:LE)
inductive LF where
  | le (x y:LE) | lt (x y:LE) | eq (x y:LE) | nle (x y:LE) | nlt (x y:LE) | an (p q:LF)
noncomputable def lat:List Int→Nat→Int
  | [],_=>0
  | x :: _,0=>x
  | _ :: l,n+1=>lat l n
noncomputable def LE.ev (c:List Int):LE→Int
  | .k i=>i
  | .v i=>lat c i
  | .a x y=>x.ev c+y.ev c
  | .s x y=>x.ev c - y.ev c
  | .m i x=>i * x.ev c
  | .r x i=>x.ev c * i
  | .g x=>-x.ev c
noncomputable def LF.ev (c:List Int):LF→Prop
  | .le x y=>x.ev c≤y.ev c
  | .lt x y=>x.ev c < y.ev c
  | .eq x y=>x.ev c=y.ev c
  | .nle x y=>¬ x.ev c≤y.ev c
  | .nlt x y=>¬ x.ev c < y.ev c
  | .an p q=>p.ev c∧q.ev c
noncomputable def padd:List Int→List Int→List Int
  | [],q=>q
  | x :: p,[]=>x :: p
  | x :: p,y :: q=>(x+y) :: padd p q
noncomputable def pmul (c:Int):List Int→List Int
  | []=>[]
  | x :: p=>(c * x) :: pmul c p
noncomputable def unit:Nat→List Int
  | 0=>[1]
  | n+1=>0 :: unit n
noncomputable def dot:List Int→List Int→Int
  | c :: p,x :: l=>c * x+dot p l
  | _,_=>0
theorem dot_nil (p:List Int):dot p []=0:=by cases p <;> rfl
theorem dot_add:∀ (p q l:List Int),dot (padd p q) l=dot p l+dot q l
  | [],q,l=>(Int.zero_add _).symm
  | x :: p,[],l=>(Int.add_zero _).symm
  | x :: p,y :: q,[]=>rfl
  | x :: p,y :: q,z :: l=>by
    show (x+y) * z+dot (padd p q) l=(x * z+dot p l)+(y * z+dot q l)
    rw [dot_add p q l,Int.add_mul,Int.add_assoc,Int.add_assoc,Int.add_left_comm (y * z)]
theorem dot_mul (c:Int):∀ (p l:List Int),dot (pmul c p) l=c * dot p l
  | [],l=>(Int.mul_zero _).symm
  | x :: p,[]=>(Int.mul_zero _).symm
  | x :: p,z :: l=>by
    show c * x * z+dot (pmul c p) l=c * (x * z+dot p l)
    rw [dot_mul c p l,Int.mul_add,Int.mul_assoc]
theorem dot_unit:∀ (i:Nat) (l:List Int),dot (unit i) l=lat l i
  | i,[]=>by rw [dot_nil];cases i <;> rfl
  | 0,x :: l=>by
    show 1 * x+dot [] l=x
    rw [Int.one_mul];exact Int.add_zero _
  | i+1,x :: l=>by
    show 0 * x+dot (unit i) l=lat l i
    rw [dot_unit i l,Int.zero_mul,Int.zero_add]
noncomputable def LE.pol:LE→List Int
  | .k i=>[i]
  | .v i=>0 :: unit i
  | .a x y=>padd x.pol y.pol
  | .s x y=>padd x.pol (pmul (-1) y.pol)
  | .m i x=>pmul i x.pol
  | .r x i=>pmul i x.pol
  | .g x=>pmul (-1) x.pol
theorem pol_ev (c:List Int) (e:LE):dot e.pol (1 :: c)=e.ev c:=by
  induction e with
  | k i=>show i * 1+dot [] c=i;rw [Int.mul_one];exact Int.add_zero _
  | v i=>show 0 * 1+dot (unit i) c=lat c i;rw [dot_unit,Int.zero_mul,Int.zero_add]
  | a x y h k=>show dot (padd x.pol y.pol) _=x.ev c+y.ev c;rw [dot_add,h,k]
  | s x y h k=>show dot (padd x.pol (pmul (-1) y.pol)) _=x.ev c - y.ev c;rw [dot_add,dot_mul,h,k,Int.neg_one_mul];rfl
  | m i x h=>show dot (pmul i x.pol) _=i * x.ev c;rw [dot_mul,h]
  | r x i h=>show dot (pmul i x.pol) _=x.ev c * i;rw [dot_mul,h,Int.mul_comm]
  | g x h=>show dot (pmul (-1) x.pol) _=-x.ev c;rw [dot_mul,h,Int.neg_one_mul]
noncomputable def dif (x y:LE):List Int:=padd y.pol (pmul (-1) x.pol)
theorem dif_ev (c:List Int) (x y:LE):dot (dif x y) (1 :: c)=y.ev c - x.ev c:=by
  unfold dif
  rw [dot_add,dot_mul,pol_ev,pol_ev,Int.neg_one_mul];rfl
theorem dec_ev (c p:List Int):dot (padd [-1] p) (1 :: c)=dot p (1 :: c) - 1:=by
  rw [dot_add]
  show (-1 * 1+dot [] c)+_=_
  rw [show dot [] c=0 from rfl,Int.add_comm];rfl
noncomputable def LF.ps:LF→List (List Int)
  | .le x y=>[dif x y]
  | .lt x y=>[padd [-1] (dif x y)]
  | .eq x y=>[dif x y,dif y x]
  | .nle x y=>[padd [-1] (dif y x)]
  | .nlt x y=>[dif y x]
  | .an p q=>p.ps ++ q.ps
abbrev Nn (c:List Int) (ps:List (List Int)):Prop:=∀ p ∈ ps,0≤dot p (1 :: c)
theorem nn1 {c p:List Int} (h:0≤dot p (1 :: c)):Nn c [p]:=fun q m=>by rw [List.mem_singleton.mp m];exact h
theorem le_ev {c:List Int} {x y:LE} (h:x.ev c≤y.ev c):0≤dot (dif x y) (1 :: c):=by rw [dif_ev];exact Int.sub_nonneg_of_le h
theorem lt_ev {c:List Int} {x y:LE} (h:x.ev c < y.ev c):0≤dot (padd [-1] (dif x y)) (1 :: c):=by rw [dec_ev,dif_ev];exact Int.sub_nonneg_of_le (Int.add_one_le_of_lt (Int.sub_pos_of_lt h))
theorem ps_ok (c:List Int):∀ f:LF,f.ev c→Nn c f.ps
  | .le _ _,h=>nn1 (le_ev h)
  | .lt _ _,h=>nn1 (lt_ev h)
  | .eq x y,h=>fun p m=>by
    have h:x.ev c=y.ev c:=h
    rcases List.mem_cons.mp m with rfl | m
    · exact le_ev (Int.le_of_eq h)
    · exact nn1 (le_ev (Int.le_of_eq h.symm)) p m
  | .nle _ _,h=>nn1 (lt_ev (Int.not_le.mp h))
  | .nlt _ _,h=>nn1 (le_ev (Int.not_lt.mp h))
  | .an p q,h=>fun r m=>(List.mem_append.mp m).elim (ps_ok c p h.1 r) (ps_ok c q h.2 r)
noncomputable def comb (b:Nat):Nat→List (List Int)→List Int
  | _,[]=>[]
  | n,p :: ps=>match n % b with | 0=>comb b (n / b) ps | m+1=>padd (pmul (Int.ofNat (m+1)) p) (comb b (n / b) ps)
theorem comb_ok {c:List Int} {ps:List (List Int)} {b n:Nat} (h:Nn c ps):0≤dot (comb b n ps) (1 :: c):=by
  induction ps generalizing n with
  | nil=>exact Int.le_refl _
  | cons p ps ih =>
    have ih:=fun n=>ih (n:=n) fun q m=>h q (List.mem_cons_of_mem _ m)
    show 0≤dot (match n % b with | 0=>comb b (n / b) ps | m+1=>padd (pmul (Int.ofNat (m+1)) p) (comb b (n / b) ps)) _
    cases n % b with
    | zero=>exact ih _
    | succ m =>
      show 0≤dot (padd (pmul (Int.ofNat (m+1)) p) (comb b (n / b) ps)) _
      rw [dot_add,dot_mul]
      exact Int.add_nonneg (Int.mul_nonneg (Int.natCast_nonneg _) (h p List.mem_cons_self)) (ih _)
noncomputable def isZ:Int→Bool
  | .ofNat n=>Nat.beq n 0
  | _=>false
theorem isZ_e {i:Int} (h:isZ i=true):i=0:=by
  cases i with
  | ofNat n=>exact congrArg Int.ofNat (Nat.eq_of_beq_eq_true h)
  | negSucc n=>exact nomatch h
noncomputable def dvs (q:Int):List Int→Bool
  | []=>true
  | x :: l=>and (isZ (x % q)) (dvs q l)
noncomputable def pdv (q:Int):List Int→List Int
  | []=>[]
  | x :: l=>(x / q) :: pdv q l
theorem pdv_ev {q:Int}:∀ {p l:List Int},dvs q p=true→q * dot (pdv q p) l=dot p l
  | [],l,_=>Int.mul_zero _
  | x :: p,[],_=>Int.mul_zero _
  | x :: p,z :: l,h=>by
    have h:=Bool.and_eq_true_iff.mp h
    show q * (x / q * z+dot (pdv q p) l)=x * z+dot p l
    rw [Int.mul_add,pdv_ev h.2,← Int.mul_assoc,Int.mul_ediv_cancel' (Int.dvd_of_emod_eq_zero (isZ_e h.1))]
noncomputable def allZ:List Int→Bool
  | []=>true
  | x :: l=>and (isZ x) (allZ l)
theorem allZ_ev:∀ {p l:List Int},allZ p=true→dot p l=0
  | [],l,_=>rfl
  | x :: p,[],_=>rfl
  | x :: p,z :: l,h=>by
    have h:=Bool.and_eq_true_iff.mp h
    show x * z+dot p l=0
    rw [isZ_e h.1,allZ_ev h.2,Int.zero_mul];rfl
noncomputable def neg1:List Int→Bool
  | .negSucc _ :: p=>allZ p
  | _=>false
noncomputable def tig (q:Nat):List Int→Option (List Int)
  | []=>none
  | x :: p=>match dvs (Int.ofNat (q+1)) p with | true=>some ((x / Int.ofNat (q+1)) :: pdv (Int.ofNat (q+1)) p) | false=>none
theorem tig_ok {q:Nat} {p r c:List Int} (h:0≤dot p (1 :: c)) (e:tig q p=some r):0≤dot r (1 :: c):=by
  cases p with
  | nil=>exact nomatch e
  | cons x p =>
    have e:(match dvs (Int.ofNat (q+1)) p with | true=>some ((x / Int.ofNat (q+1)) :: pdv (Int.ofNat (q+1)) p) | false=>none)=some r:=e
    cases d:dvs (Int.ofNat (q+1)) p with
    | false=>rw [d] at e;exact nomatch e
    | true =>
      rw [d] at e
      cases e
      have h:0≤x * 1+dot p c:=h
      show 0≤x / Int.ofNat (q+1) * 1+dot (pdv (Int.ofNat (q+1)) p) c
      rw [← pdv_ev d,Int.mul_one] at h
      rw [Int.mul_one]
      have hq:(0:Int) < Int.ofNat (q+1):=Int.natCast_pos.mpr (Nat.succ_pos q)
      rw [← Int.add_mul_ediv_left _ _ (Int.ne_of_gt hq)]
      exact Int.ediv_nonneg h (Int.le_of_lt hq)
noncomputable def ck (b:Nat):List Nat→List (List Int)→Bool
  | [],ps=>match ps with | p :: _=>neg1 p | []=>false
  | n :: r,ps=>match tig (n % b) (comb b (n / b) ps) with | some p=>ck b r (p :: ps) | none=>false
theorem neg1_no {p c:List Int} (h:0≤dot p (1 :: c)) (e:neg1 p=true):False:=by
  cases p with
  | nil=>exact nomatch e
  | cons x p =>
    cases x with
    | ofNat n=>exact nomatch e
    | negSucc n =>
      have h:0≤Int.negSucc n * 1+dot p c:=h
      rw [allZ_ev (p:=p) e,Int.add_zero,Int.mul_one] at h
      exact nomatch h
theorem ck_no {b:Nat} {c:List Int} {l:List Nat} {ps:List (List Int)} (h:Nn c ps) (e:ck b l ps=true):False:=by
  induction l generalizing ps with
  | nil =>
    cases ps with
    | nil=>exact nomatch e
    | cons p ps=>exact neg1_no (h p List.mem_cons_self) e
  | cons n r ih =>
    have e:(match tig (n % b) (comb b (n / b) ps) with | some p=>ck b r (p :: ps) | none=>false)=true:=e
    cases t:tig (n % b) (comb b (n / b) ps) with
    | none=>rw [t] at e;exact nomatch e
    | some p =>
      rw [t] at e
      refine ih (ps:=p :: ps) (fun x m=>?_) e
      rcases List.mem_cons.mp m with rfl | m
      · exact tig_ok (comb_ok h) t
      · exact h x m
noncomputable def allF (c:List Int):List LF→Prop
  | []=>True
  | f :: l=>f.ev c∧allF c l
noncomputable def psL:List LF→List (List Int)
  | []=>[]
  | f :: l=>f.ps ++ psL l
theorem psL_ok {c:List Int}:∀ {l:List LF},allF c l→Nn c (psL l)
  | [],_=>fun p m=>nomatch m
  | f :: l,h=>fun p m=>(List.mem_append.mp m).elim (ps_ok c f h.1 p) (psL_ok h.2 p)
theorem lin {b:Nat} {c:List Int} {fs:List LF} (l:List Nat) (h:allF c fs) (e:ck b l (psL fs)=true):False:=ck_no (psL_ok h) e
theorem l1_ (c:List Int) (f0:LF) (l:List Nat) (h0:f0.ev c) (e:ck 64 l (psL [f0])=true):False:=lin (fs:=[f0]) l (by exact ⟨h0,trivial⟩) e
theorem l2_ (c:List Int) (f0 f1:LF) (l:List Nat) (h0:f0.ev c) (h1:f1.ev c) (e:ck 64 l (psL [f0,f1])=true):False:=lin (fs:=[f0,f1]) l (by exact ⟨h0,h1,trivial⟩) e
theorem l3_ (c:List Int) (f0 f1 f2:LF) (l:List Nat) (h0:f0.ev c) (h1:f1.ev c) (h2:f2.ev c) (e:ck 64 l (psL [f0,f1,f2])=true):False:=lin (fs:=[f0,f1,f2]) l (by exact ⟨h0,h1,h2,trivial⟩) e
theorem l4_ (c:List Int) (f0 f1 f2 f3:LF) (l:List Nat) (h0:f0.ev c) (h1:f1.ev c) (h2:f2.ev c) (h3:f3.ev c) (e:ck 64 l (psL [f0,f1,f2,f3])=true):False:=lin (fs:=[f0,f1,f2,f3]) l (by exact ⟨h0,h1,h2,h3,trivial⟩) e
theorem l5_ (c:List Int) (f0 f1 f2 f3 f4:LF) (l:List Nat) (h0:f0.ev c) (h1:f1.ev c) (h2:f2.ev c) (h3:f3.ev c) (h4:f4.ev c) (e:ck 64 l (psL [f0,f1,f2,f3,f4])=true):False:=lin (fs:=[f0,f1,f2,f3,f4]) l (by exact ⟨h0,h1,h2,h3,h4,trivial⟩) e
theorem l6_ (c:List Int) (f0 f1 f2 f3 f4 f5:LF) (l:List Nat) (h0:f0.ev c) (h1:f1.ev c) (h2:f2.ev c) (h3:f3.ev c) (h4:f4.ev c) (h5:f5.ev c) (e:ck 64 l (psL [f0,f1,f2,f3,f4,f5])=true):False:=lin (fs:=[f0,f1,f2,f3,f4,f5]) l (by exact ⟨h0,h1,h2,h3,h4,h5,trivial⟩) e
theorem l7_ (c:List Int) (f0 f1 f2 f3 f4 f5 f6:LF) (l:List Nat) (h0:f0.ev c) (h1:f1.ev c) (h2:f2.ev c) (h3:f3.ev c) (h4:f4.ev c) (h5:f5.ev c) (h6:f6.ev c) (e:ck 64 l (psL [f0,f1,f2,f3,f4,f5,f6])=true):False:=lin (fs:=[f0,f1,f2,f3,f4,f5,f6]) l (by exact ⟨h0,h1,h2,h3,h4,h5,h6,trivial⟩) e
theorem m2_ (c:List Int) (f0 f1:LF) (l:List Nat) (h0:f0.ev c) (h1:f1.ev c) (e:ck 1048576 l (psL [f0,f1])=true):False:=lin (fs:=[f0,f1]) l (by exact ⟨h0,h1,trivial⟩) e
theorem m3_ (c:List Int) (f0 f1 f2:LF) (l:List Nat) (h0:f0.ev c) (h1:f1.ev c) (h2:f2.ev c) (e:ck 1048576 l (psL [f0,f1,f2])=true):False:=lin (fs:=[f0,f1,f2]) l (by exact ⟨h0,h1,h2,trivial⟩) e
theorem m4_ (c:List Int) (f0 f1 f2 f3:LF) (l:List Nat) (h0:f0.ev c) (h1:f1.ev c) (h2:f2.ev c) (h3:f3.ev c) (e:ck 1048576 l (psL [f0,f1,f2,f3])=true):False:=lin (fs:=[f0,f1,f2,f3]) l (by exact ⟨h0,h1,h2,h3,trivial⟩) e
theorem m5_ (c:List Int) (f0 f1 f2 f3 f4:LF) (l:List Nat) (h0:f0.ev c) (h1:f1.ev c) (h2:f2.ev c) (h3:f3.ev c) (h4:f4.ev c) (e:ck 1048576 l (psL [f0,f1,f2,f3,f4])=true):False:=lin (fs:=[f0,f1,f2,f3,f4]) l (by exact ⟨h0,h1,h2,h3,h4,trivial⟩) e
theorem tnE (x:Int):(0≤x∧(x.toNat:Int)=x) ∨ (x < 0∧(x.toNat:Int)=0):=(Int.lt_or_le x 0).symm.imp (fun h=>⟨h,Int.toNat_of_nonneg h⟩) fun h=>⟨h,congrArg _ (Int.toNat_of_nonpos (Int.le_of_lt h))⟩
theorem sbE (a b:Nat):((b:Int)≤a∧((a - b:Nat):Int)=a - b) ∨ ((a:Int) < b∧((a - b:Nat):Int)=0):=(Nat.lt_or_ge a b).symm.imp (fun h=>⟨Int.ofNat_le.mpr h,Int.ofNat_sub h⟩) fun h=>⟨Int.ofNat_lt.mpr h,congrArg _ (Nat.sub_eq_zero_of_le (Nat.le_of_lt h))⟩
theorem mnN (a b:Nat):((a:Int)≤b∧((min a b:Nat):Int)=a) ∨ ((b:Int) < a∧((min a b:Nat):Int)=b):=(Nat.lt_or_ge b a).symm.imp (fun h=>⟨Int.ofNat_le.mpr h,congrArg _ (Nat.min_eq_left h)⟩) fun h=>⟨Int.ofNat_lt.mpr h,congrArg _ (Nat.min_eq_right (Nat.le_of_lt h))⟩
theorem mxN (a b:Nat):((a:Int)≤b∧((max a b:Nat):Int)=b) ∨ ((b:Int) < a∧((max a b:Nat):Int)=a):=(Nat.lt_or_ge b a).symm.imp (fun h=>⟨Int.ofNat_le.mpr h,congrArg _ (Nat.max_eq_right h)⟩) fun h=>⟨Int.ofNat_lt.mpr h,congrArg _ (Nat.max_eq_left (Nat.le_of_lt h))⟩
theorem mnI (a b:Int):(a≤b∧min a b=a) ∨ (b < a∧min a b=b):=(Int.lt_or_le b a).symm.imp (fun h=>⟨h,Int.min_eq_left h⟩) fun h=>⟨h,Int.min_eq_right (Int.le_of_lt h)⟩
theorem mxI (a b:Int):(a≤b∧max a b=b) ∨ (b < a∧max a b=a):=(Int.lt_or_le b a).symm.imp (fun h=>⟨h,Int.max_eq_right h⟩) fun h=>⟨h,Int.max_eq_left (Int.le_of_lt h)⟩
theorem dmI (x:Int) (n:Nat):Int.ofNat (n+1) * (x / Int.ofNat (n+1))+x % Int.ofNat (n+1)=x∧0≤x % Int.ofNat (n+1)∧x % Int.ofNat (n+1) < Int.ofNat (n+1):=⟨Int.mul_ediv_add_emod ..,Int.emod_nonneg _ (Int.ofNat_ne_zero.mpr (Nat.succ_ne_zero n)),Int.emod_lt_of_pos _ (Int.natCast_pos.mpr (Nat.succ_pos n))⟩
theorem dmN (x n:Nat):Int.ofNat (n+1) * ((x / (n+1):Nat):Int)+((x % (n+1):Nat):Int)=x∧(0:Int)≤((x % (n+1):Nat):Int)∧((x % (n+1):Nat):Int) < Int.ofNat (n+1):=dmI x n
theorem ltgt {a b:Int} (h:¬ a=b):a < b ∨ b < a:=Int.lt_or_gt_of_ne h
theorem nnn (n:Nat):(0:Int)≤n:=Int.natCast_nonneg n
theorem nle {a b:Nat} (h:a≤b):(a:Int)≤b:=Int.ofNat_le.mpr h
theorem nlt {a b:Nat} (h:a < b):(a:Int) < b:=Int.ofNat_lt.mpr h
theorem neq {a b:Nat} (h:a=b):(a:Int)=b:=congrArg _ h
theorem nnle {a b:Nat} (h:¬ a≤b):¬ (a:Int)≤b:=fun k=>h (Int.ofNat_le.mp k)
theorem nnlt {a b:Nat} (h:¬ a < b):¬ (a:Int) < b:=fun k=>h (Int.ofNat_lt.mp k)
theorem nne {a b:Nat} (h:¬ a=b):¬ (a:Int)=b:=fun k=>h (Int.ofNat.inj k)
theorem gor {p q:Prop} (h:¬ p→¬ q→False):p ∨ q:=Classical.byContradiction fun k=>h (fun x=>k (.inl x)) fun y=>k (.inr y)
theorem gle {a b:Int} (h:¬ a≤b→False):a≤b:=Decidable.byContradiction h
theorem glt {a b:Int} (h:¬ a < b→False):a < b:=Decidable.byContradiction h
theorem geq {a b:Int} (h:¬ a≤b→False) (k:¬ b≤a→False):a=b:=Int.le_antisymm (gle h) (gle k)
theorem gnle {a b:Nat} (h:¬ (a:Int)≤b→False):a≤b:=Int.ofNat_le.mp (gle h)
theorem gnlt {a b:Nat} (h:¬ (a:Int) < b→False):a < b:=Int.ofNat_lt.mp (glt h)
theorem gneq {a b:Nat} (h:¬ (a:Int)≤b→False) (k:¬ (b:Int)≤a→False):a=b:=Int.ofNat.inj (geq h k)
end Mine.L
end
section
namespace Mine.L
noncomputable def v0:LE:=.v 0
noncomputable def v1:LE:=.v 1
noncomputable def v2:LE:=.v 2
noncomputable def v3:LE:=.v 3
noncomputable def v4:LE:=.v 4
noncomputable def v5:LE:=.v 5
noncomputable def v6:LE:=.v 6
noncomputable def v7:LE:=.v 7
noncomputable def v8:LE:=.v 8
noncomputable def v9:LE:=.v 9
noncomputable def k0:LE:=.k 0
noncomputable def k1:LE:=.k 1
noncomputable def k2:LE:=.k 2
noncomputable def k3:LE:=.k 3
noncomputable def k4:LE:=.k 4
noncomputable def k8:LE:=.k 8
theorem q0 {s t:Nat} (h0:s+8<t):s<t:=gnlt fun g=>l2_ [s,t] (.lt (.a v0 k8) v1) (.nlt v0 v1) [4160] (nlt h0) g rfl
theorem q1 {s t:Nat} (h0:s+8<t):s+1<t:=gnlt fun g=>l2_ [s,t] (.lt (.a v0 k8) v1) (.nlt (.a v0 k1) v1) [4160] (nlt h0) g rfl
theorem q2 {s t:Nat} :(((s+1)+(t+1))+1)=s+(t+3):=let c:List Int:=[s,t];gneq (fun g=>l1_ c (.nle (.a (.a (.a v0 k1) (.a v1 k1)) k1) (.a v0 (.a v1 k3))) [64] g rfl) fun g=>l1_ c (.nle (.a v0 (.a v1 k3)) (.a (.a (.a v0 k1) (.a v1 k1)) k1)) [64] g rfl
theorem q3 {s t:Nat} (h0:s+16<t):(s+1)+8<t:=gnlt fun g=>l2_ [s,t] (.lt (.a v0 (.k 16)) v1) (.nlt (.a (.a v0 k1) k8) v1) [4160] (nlt h0) g rfl
theorem q4 {s t:Nat} (h0:s+16<t):s<t:=gnlt fun g=>l2_ [s,t] (.lt (.a v0 (.k 16)) v1) (.nlt v0 v1) [4160] (nlt h0) g rfl
theorem q5 {s t:Nat} (h0:s+16<t):s+8<t:=gnlt fun g=>l2_ [s,t] (.lt (.a v0 (.k 16)) v1) (.nlt (.a v0 k8) v1) [4160] (nlt h0) g rfl
theorem q6 {s:Int} {t:Nat} (h0:s≤1000) (h1:t≤1000):((t:Int)+s)≤134217728:=gle fun g=>l3_ [s,t] (.le v0 (.k 1000)) (.le v1 (.k 1000)) (.nle (.a v1 v0) (.k 134217728)) [266304] h0 (nle h1) g rfl
theorem q7 {s:Int} (h0:0≤s) (h1:s≤1000):(-9223372036854775808≤s)∧(s<9223372036854775808):=⟨gle fun g1=>l2_ [s] (.le k0 v0) (.nle (.k (-9223372036854775808)) v0) [4160] h0 g1 rfl,glt fun g1=>l2_ [s] (.le v0 (.k 1000)) (.nlt v0 (.k 9223372036854775808)) [4160] h1 g1 rfl⟩
theorem q8 {s:Nat} (h0:s≤1000*1000):¬((9223372036854775808-1)/8<s):=let c:List Int:=[s,((((9223372036854775808-1)/8):Nat):Int),((((9223372036854775808-1)%8):Nat):Int),(((9223372036854775808-1):Nat):Int)];fun g=>(sbE (9223372036854775808:Nat) (1:Nat)).elim (fun a=>l4_ c (.le v0 (.m 1000 (.k 1000))) (.lt v1 v0) (.an (.eq (.a (.m 8 v1) v2) v3) (.an (.le k0 v2) (.lt v2 k8))) (.an (.le k1 (.k 9223372036854775808)) (.eq v3 (.s (.k 9223372036854775808) k1))) [18014467245735943,266304] (nle h0) (nlt g) (dmN (9223372036854775808-1) 7) a rfl) fun a=>l1_ c (.an (.lt (.k 9223372036854775808) k1) (.eq v3 k0)) [64] a rfl
theorem q9 {s:Nat} (h0:s≤1000*1000):s≤16777216:=gnle fun g=>l2_ [s] (.le v0 (.m 1000 (.k 1000))) (.nle v0 (.k 16777216)) [4160] (nle h0) g rfl
theorem q10 {s:Nat} (h0:s≤1):s+1≤2:=gnle fun g=>l2_ [s] (.le v0 k1) (.nle (.a v0 k1) k2) [4160] (nle h0) g rfl
theorem q11 {s:Int} (h0:0≤s) (h1:s<9223372036854775808):(-9223372036854775808≤s)∧(s<9223372036854775808):=⟨gle fun g1=>l2_ [s] (.le k0 v0) (.nle (.k (-9223372036854775808)) v0) [4160] h0 g1 rfl,glt fun g1=>l2_ [s] (.lt v0 (.k 9223372036854775808)) (.nlt v0 (.k 9223372036854775808)) [4160] h1 g1 rfl⟩
theorem q12 {s:Int} (h0:0≤s):¬(s<0):=fun g=>l2_ [s] (.le k0 v0) (.lt v0 k0) [4160] h0 g rfl
theorem q13 {s:Int} {t:Nat} (h0:s.toNat<t):s<(t:Int):=let c:List Int:=[↑s.toNat,t,s];let f0:LF:=.lt v0 v1;let f1:LF:=.nlt v2 v1;glt fun g=>(tnE s).elim (fun a=>l3_ c f0 f1 (.an (.le k0 v2) (.eq v0 v2)) [1073745984] (nlt h0) g a rfl) fun a=>l3_ c f0 f1 (.an (.lt v2 k0) (.eq v0 k0)) [1074008128] (nlt h0) g a rfl
theorem q14 {s t:Nat} (h0:s<t):(s:Int)<(t:Int):=glt fun g=>l2_ [s,t] (.lt v0 v1) (.nlt v0 v1) [4160] (nlt h0) g rfl
theorem q15 {s:Int} {t:Nat} (h0:(0≤s)∧(s<(t:Int))):s.toNat<t:=let c:List Int:=[s,t,↑s.toNat];gnlt fun g=>(tnE s).elim (fun a=>l3_ c (.lt v0 v1) (.nlt v2 v1) (.an (.le k0 v0) (.eq v2 v0)) [16781376] h0.2 g a rfl) fun a=>l2_ c (.le k0 v0) (.an (.lt v0 k0) (.eq v2 k0)) [4160] h0.1 a rfl
theorem q16 {s:Nat} {t:Int} (h0:s≤1000000) (h1:(0≤t)∧(t<(s:Int))):t<9223372036854775808:=glt fun g=>l3_ [s,t] (.le v0 (.k 1000000)) (.lt v1 v0) (.nlt v1 (.k 9223372036854775808)) [266304] (nle h0) h1.2 g rfl
theorem q17 {s:Nat} {t:Int} (h0:s≤1000000) (h1:(0≤t)∧(t<(s:Int))):(-9223372036854775808≤t)∧(t<9223372036854775808):=⟨gle fun g1=>l2_ [t] (.le k0 v0) (.nle (.k (-9223372036854775808)) v0) [4160] h1.1 g1 rfl,glt fun g1=>l3_ [(s:Int),t] (.le v0 (.k 1000000)) (.lt v1 v0) (.nlt v1 (.k 9223372036854775808)) [266304] (nle h0) h1.2 g1 rfl⟩
theorem q18 {s:Int} {t:Nat} (h0:(0≤s)∧(s<(t:Int))):-9223372036854775808≤s:=gle fun g=>l2_ [s] (.le k0 v0) (.nle (.k (-9223372036854775808)) v0) [4160] h0.1 g rfl
theorem q19 {s:Int} {t:Nat} (h0:(0≤s)∧(s<(t:Int))) (h1:t≤1000000):s<9223372036854775808:=glt fun g=>l3_ [s,t] (.lt v0 v1) (.le v1 (.k 1000000)) (.nlt v0 (.k 9223372036854775808)) [266304] h0.2 (nle h1) g rfl
theorem q20 {s:Int} {t u:Nat} (h0:(0≤s)∧(s<(t:Int))) (h1:u=t):s<(u:Int):=glt fun g=>l3_ [s,t,u] (.lt v0 v1) (.eq v2 v1) (.nlt v0 v2) [17039424] h0.2 (neq h1) g rfl
theorem q21 {s t:Nat} (h0:¬(s≤t)):t≤s:=gnle fun g=>l2_ [s,t] (.nle v0 v1) (.nle v1 v0) [4160] (nnle h0) g rfl
theorem q22 {s t u:Nat} (h0:¬(s≤t)):t≤(s-u)+u:=let c:List Int:=[s,t,(((s-u):Nat):Int),u];let f0:LF:=.nle v0 v1;let f1:LF:=.nle v1 (.a v2 v3);gnle fun g=>(sbE s u).elim (fun a=>l3_ c f0 f1 (.an (.le v3 v0) (.eq v2 (.s v0 v3))) [1073745984] (nnle h0) g a rfl) fun a=>l3_ c f0 f1 (.an (.lt v0 v3) (.eq v2 k0)) [1074008128] (nnle h0) g a rfl
theorem q23  :¬((1:Int)<(0:Int)):=fun g=>l1_ [] (.lt k1 k0) [64] g rfl
theorem q24 {s:Nat} :¬((s:Int)<0):=fun g=>l2_ [s] (.lt v0 k0) (.le k0 v0) [4160] g (nnn s) rfl
theorem q25 {s t:Nat} (h0:s<t):(min (s:Int) (t:Int))=(s:Int):=let c:List Int:=[(min (s:Int) (t:Int)),s,t];let f0:LF:=.an (.le v1 v2) (.eq v0 v1);let f1:LF:=.lt v1 v2;let f2:LF:=.an (.lt v2 v1) (.eq v0 v2);geq (fun g=>(mnI (s:Int) (t:Int)).elim (fun a=>l2_ c (.nle v0 v1) f0 [262208] g a rfl) fun a=>l2_ c f1 f2 [17043520] (nlt h0) a rfl) fun g=>(mnI (s:Int) (t:Int)).elim (fun a=>l2_ c (.nle v1 v0) f0 [16777280] g a rfl) fun a=>l2_ c f1 f2 [17043520] (nlt h0) a rfl
theorem q26  :(0:Int)<(1:Int):=glt fun g=>l1_ [] (.nlt k0 k1) [64] g rfl
theorem q27 {s t:Nat} (h0:s<t):¬(s=t):=fun g=>l2_ [s,t] (.lt v0 v1) (.eq v0 v1) [262208] (nlt h0) (neq g) rfl
theorem q28 {s t u:Nat} (h0:s≤t):min u s≤t:=let c:List Int:=[s,t,(((min u s):Nat):Int),u];let f0:LF:=.le v0 v1;let f1:LF:=.nle v2 v1;gnle fun g=>(mnN u s).elim (fun a=>l3_ c f0 f1 (.an (.le v3 v0) (.eq v2 v3)) [17043520] (nle h0) g a rfl) fun a=>l3_ c f0 f1 (.an (.lt v0 v3) (.eq v2 v0)) [16781376] (nle h0) g a rfl
theorem q29 {s t:Nat} (h0:s≤1000000) (h1:t=s):t≤16777216:=gnle fun g=>l3_ [s,t] (.le v0 (.k 1000000)) (.eq v1 v0) (.nle v1 (.k 16777216)) [16781376] (nle h0) (neq h1) g rfl
theorem q30 {s:Nat} (h0:s≤1000000):s≤16777216:=gnle fun g=>l2_ [s] (.le v0 (.k 1000000)) (.nle v0 (.k 16777216)) [4160] (nle h0) g rfl
theorem q31 {s t u:Nat} (h0:s=t) (h1:(u:Int)<(t:Int)):u<s:=gnlt fun g=>l3_ [s,t,u] (.eq v0 v1) (.lt v2 v1) (.nlt v2 v0) [17043456] (neq h0) h1 g rfl
theorem q32 {s:Nat} (h0:s≤1000):s+1≤16777216+1:=gnle fun g=>l2_ [s] (.le v0 (.k 1000)) (.nle (.a v0 k1) (.a (.k 16777216) k1)) [4160] (nle h0) g rfl
theorem q33 {s:Nat} (h0:s≤16777216):¬(9223372036854775808≤(s:Int)):=fun g=>l2_ [s] (.le v0 (.k 16777216)) (.le (.k 9223372036854775808) v0) [4160] (nle h0) g rfl
theorem q34 {s:Nat} (h0:s≤16777216):s≤16777216:=gnle fun g=>l2_ [s] (.le v0 (.k 16777216)) (.nle v0 (.k 16777216)) [4160] (nle h0) g rfl
theorem q35 {s:Nat} (h0:s≤1000000):(s:Int)<9223372036854775808:=glt fun g=>l2_ [s] (.le v0 (.k 1000000)) (.nlt v0 (.k 9223372036854775808)) [4160] (nle h0) g rfl
theorem q36 {s:Nat} (h0:s≤1000000):s≤1099511627776:=gnle fun g=>l2_ [s] (.le v0 (.k 1000000)) (.nle v0 (.k 1099511627776)) [4160] (nle h0) g rfl
theorem q37 {s:Nat} (h0:s≤1000000):¬(9223372036854775808≤(s:Int)):=fun g=>l2_ [s] (.le v0 (.k 1000000)) (.le (.k 9223372036854775808) v0) [4160] (nle h0) g rfl
theorem q38 {s t:Int} (h0:s<t):0≤(t-s)-1:=gle fun g=>l2_ [s,t] (.lt v0 v1) (.nle k0 (.s (.s v1 v0) k1)) [4160] h0 g rfl
theorem q39 {s t u:Int} (h0:0≤s) (h1:t≤1000000) (h2:u≤(t-s)-1):u+1≤1000000:=gle fun g=>l4_ [s,t,u] (.le k0 v0) (.le v1 (.k 1000000)) (.le v2 (.s (.s v1 v0) k1)) (.nle (.a v2 k1) (.k 1000000)) [17043520] h0 h1 h2 g rfl
theorem q40  :(0:Int)≤(1000000:Int):=gle fun g=>l1_ [] (.nle k0 (.k 1000000)) [64] g rfl
theorem q41  :(-4611686018427387904:Int)≤(0:Int):=gle fun g=>l1_ [] (.nle (.k (-4611686018427387904)) k0) [64] g rfl
theorem q42  :(0:Int)<(4611686018427387904:Int):=glt fun g=>l1_ [] (.nlt k0 (.k 4611686018427387904)) [64] g rfl
theorem q43 {s:Int} (h0:(-1000000≤s)∧(s≤1000000)):-4611686018427387904≤s:=gle fun g=>l2_ [s] (.le (.k (-1000000)) v0) (.nle (.k (-4611686018427387904)) v0) [4160] h0.1 g rfl
theorem q44 {s:Int} (h0:(-1000000≤s)∧(s≤1000000)):s<4611686018427387904:=glt fun g=>l2_ [s] (.le v0 (.k 1000000)) (.nlt v0 (.k 4611686018427387904)) [4160] h0.2 g rfl
theorem q45 {s:Int} (h0:0<s):0≤s:=gle fun g=>l2_ [s] (.lt k0 v0) (.nle k0 v0) [4160] h0 g rfl
theorem q46 {s t u v:Int} (h0:0≤s) (h1:s≤1000000) (h2:t≤1000000) (h3:0<u) (h4:u≤1000000) (h5:s<t) (h6:v≤(t-s)-1) (h7:0≤v):(((((-9223372036854775808≤s)∧(s<9223372036854775808))∧((-9223372036854775808≤t)∧(t<9223372036854775808)))∧((-9223372036854775808≤u)∧(u<9223372036854775808)))∧((-9223372036854775808≤v+1)∧(v+1<9223372036854775808)))∧((v+1=0)∨((-9223372036854775808≤t+(u-1))∧(t+(u-1)<9223372036854775808))):=let c:List Int:=[s,t,u,v];let f0:LF:=.le k0 v0;let f1:LF:=.le v1 (.k 1000000);let f2:LF:=.lt v0 v1;let f3:LF:=.lt k0 v2;let f4:LF:=.le v2 (.k 1000000);⟨⟨⟨⟨⟨gle fun g5=>l2_ c f0 (.nle (.k (-9223372036854775808)) v0) [4160] h0 g5 rfl,glt fun g5=>l3_ c f1 f2 (.nlt v0 (.k 9223372036854775808)) [266304] h2 h5 g5 rfl⟩,⟨gle fun g5=>l3_ c f0 f2 (.nle (.k (-9223372036854775808)) v1) [266304] h0 h5 g5 rfl,glt fun g5=>l2_ c f1 (.nlt v1 (.k 9223372036854775808)) [4160] h2 g5 rfl⟩⟩,⟨gle fun g4=>l2_ c f3 (.nle (.k (-9223372036854775808)) v2) [4160] h3 g4 rfl,glt fun g4=>l2_ c f4 (.nlt v2 (.k 9223372036854775808)) [4160] h4 g4 rfl⟩⟩,⟨gle fun g3=>l2_ c (.le k0 v3) (.nle (.k (-9223372036854775808)) (.a v3 k1)) [4160] h7 g3 rfl,glt fun g3=>l4_ c f0 f1 (.le v3 (.s (.s v1 v0) k1)) (.nlt (.a v3 k1) (.k 9223372036854775808)) [17043520] h0 h2 h6 g3 rfl⟩⟩,gor fun g1 g1'=>(Classical.not_and_iff_not_or_not.mp g1').elim (fun b=>l4_ c f0 f3 f2 (.nle (.k (-9223372036854775808)) (.a v1 (.s v2 k1))) [17043520] h0 h3 h5 b rfl) fun b=>l3_ c f1 f4 (.nlt (.a v1 (.s v2 k1)) (.k 9223372036854775808)) [266304] h2 h4 b rfl⟩
theorem q47 {s t u:Int} (h0:0≤s) (h1:s≤1000000) (h2:-1000000≤t) (h3:t≤1000000) (h4:0<u) (h5:u≤1000000):(((((-9223372036854775808≤s)∧(s<9223372036854775808))∧((-9223372036854775808≤t)∧(t<9223372036854775808)))∧((-9223372036854775808≤u)∧(u<9223372036854775808)))∧(((-9223372036854775808:Int)≤(0:Int))∧((0:Int)<(9223372036854775808:Int))))∧(((0:Int)=(0:Int))∨((-9223372036854775808≤t+(u-1))∧(t+(u-1)<9223372036854775808))):=⟨⟨⟨⟨⟨gle fun g5=>l2_ [s] (.le k0 v0) (.nle (.k (-9223372036854775808)) v0) [4160] h0 g5 rfl,glt fun g5=>l2_ [s] (.le v0 (.k 1000000)) (.nlt v0 (.k 9223372036854775808)) [4160] h1 g5 rfl⟩,⟨gle fun g5=>l2_ [t] (.le (.k (-1000000)) v0) (.nle (.k (-9223372036854775808)) v0) [4160] h2 g5 rfl,glt fun g5=>l2_ [t] (.le v0 (.k 1000000)) (.nlt v0 (.k 9223372036854775808)) [4160] h3 g5 rfl⟩⟩,⟨gle fun g4=>l2_ [u] (.lt k0 v0) (.nle (.k (-9223372036854775808)) v0) [4160] h4 g4 rfl,glt fun g4=>l2_ [u] (.le v0 (.k 1000000)) (.nlt v0 (.k 9223372036854775808)) [4160] h5 g4 rfl⟩⟩,⟨gle fun g3=>l1_ [] (.nle (.k (-9223372036854775808)) k0) [64] g3 rfl,glt fun g3=>l1_ [] (.nlt k0 (.k 9223372036854775808)) [64] g3 rfl⟩⟩,gor fun g1 g1'=>(ltgt g1).elim (fun a=>l1_ [] (.lt k0 k0) [64] a rfl) fun a=>l1_ [] (.lt k0 k0) [64] a rfl⟩
theorem q48 {s t:Nat} :s<(t+1)+s:=gnlt fun g=>l2_ [s,t] (.nlt v0 (.a (.a v1 k1) v0)) (.le k0 v1) [4160] g (nnn t) rfl
theorem q49 {s t:Nat} :s+(t+1)=(s+1)+t:=let c:List Int:=[s,t];gneq (fun g=>l1_ c (.nle (.a v0 (.a v1 k1)) (.a (.a v0 k1) v1)) [64] g rfl) fun g=>l1_ c (.nle (.a (.a v0 k1) v1) (.a v0 (.a v1 k1))) [64] g rfl
theorem q50 {s t u:Nat} (h0:(s+1)+t=u):s+(t+1)=u:=let c:List Int:=[s,t,u];let f0:LF:=.eq (.a (.a v0 k1) v1) v2;gneq (fun g=>l2_ c f0 (.nle (.a v0 (.a v1 k1)) v2) [262208] (neq h0) g rfl) fun g=>l2_ c f0 (.nle v2 (.a v0 (.a v1 k1))) [266240] (neq h0) g rfl
theorem q51 {s t:Nat} (h0:s≤8+(12*t)) (h1:t≤90):s+40<9900:=gnlt fun g=>l3_ [s,t] (.le v0 (.a k8 (.m 12 v1))) (.le v1 (.k 90)) (.nlt (.a v0 (.k 40)) (.k 9900)) [262219,262208] (nle h0) (nle h1) g rfl
theorem q52 {s:Int} {t:Nat} (h0:((0≤s)∧(s<256))∧(t≤1000)):s.toNat<256:=gnlt fun g=>(tnE s).elim (fun a=>l3_ [s,↑s.toNat] (.lt v0 (.k 256)) (.nlt v1 (.k 256)) (.an (.le k0 v0) (.eq v1 v0)) [16781376] h0.1.2 g a rfl) fun a=>l2_ [s,↑s.toNat] (.le k0 v0) (.an (.lt v0 k0) (.eq v1 k0)) [4160] h0.1.1 a rfl
theorem q53 {s:Int} {t:Nat} (h0:((0≤s)∧(s<256))∧(t≤1000)):↑s.toNat=s:=let c:List Int:=[↑s.toNat,s];let f0:LF:=.an (.le k0 v1) (.eq v0 v1);let f1:LF:=.an (.lt v1 k0) (.eq v0 k0);let f2:LF:=.nle v1 v0;geq (fun g=>(tnE s).elim (fun a=>l2_ c (.nle v0 v1) f0 [262208] g a rfl) fun a=>l2_ c (.le k0 v1) f1 [4160] h0.1.1 a rfl) fun g=>(tnE s).elim (fun a=>l2_ c f2 f0 [16777280] g a rfl) fun a=>l2_ c f2 f1 [16781376] g a rfl
theorem q54 {s:Nat} (h0:s≤1000):s≤1000000:=gnle fun g=>l2_ [s] (.le v0 (.k 1000)) (.nle v0 (.k 1000000)) [4160] (nle h0) g rfl
theorem q55 {s:Nat} (h0:s≤1000):s≤16777216:=gnle fun g=>l2_ [s] (.le v0 (.k 1000)) (.nle v0 (.k 16777216)) [4160] (nle h0) g rfl
theorem q56 {s t u:Nat} (h0:s≤15) (h1:t=s) (h2:u=t):0+u≤16777216:=gnle fun g=>l4_ [s,t,u] (.le v0 (.k 15)) (.eq v1 v0) (.eq v2 v1) (.nle (.a k0 v2) (.k 16777216)) [68736258112] (nle h0) (neq h1) (neq h2) g rfl
theorem q57 {s:Nat} (h0:0<s) (h1:0=s):False:=l2_ [s] (.lt k0 v0) (.eq k0 v0) [262208] (nlt h0) (neq h1) rfl
theorem q58 {s t:Nat} (h0:s≤15) (h1:t=s):t<17:=gnlt fun g=>l3_ [s,t] (.le v0 (.k 15)) (.eq v1 v0) (.nlt v1 (.k 17)) [16781376] (nle h0) (neq h1) g rfl
theorem q59 {s t:Nat} (h0:s≤15) (h1:t=s):t≤15:=gnle fun g=>l3_ [s,t] (.le v0 (.k 15)) (.eq v1 v0) (.nle v1 (.k 15)) [16781376] (nle h0) (neq h1) g rfl
theorem q60 {s t:Nat} (h0:s≤301+(4*t)):s+1≤302+(4*t):=gnle fun g=>l2_ [s,t] (.le v0 (.a (.k 301) (.m 4 v1))) (.nle (.a v0 k1) (.a (.k 302) (.m 4 v1))) [4160] (nle h0) g rfl
theorem q61 {s t:Nat} (h0:s≤8+(12*t)):s+1≤12+(12*t):=gnle fun g=>l2_ [s,t] (.le v0 (.a k8 (.m 12 v1))) (.nle (.a v0 k1) (.a (.k 12) (.m 12 v1))) [4160] (nle h0) g rfl
theorem q62 {s:Nat} (h0:s<20):s<30:=gnlt fun g=>l2_ [s] (.lt v0 (.k 20)) (.nlt v0 (.k 30)) [4160] (nlt h0) g rfl
theorem q63 {s t:Nat} (h0:s≤8+(12*t)) (h1:t≤90):(s+1)+16<9900:=gnlt fun g=>l3_ [s,t] (.le v0 (.a k8 (.m 12 v1))) (.le v1 (.k 90)) (.nlt (.a (.a v0 k1) (.k 16)) (.k 9900)) [262219,262208] (nle h0) (nle h1) g rfl
theorem q64 {s t:Nat} (h0:s≤t):s+1≤t+1:=gnle fun g=>l2_ [s,t] (.le v0 v1) (.nle (.a v0 k1) (.a v1 k1)) [4160] (nle h0) g rfl
theorem q65 {s t:Nat} (h0:(s:Int)<(t:Int)):s<t:=gnlt fun g=>l2_ [s,t] (.lt v0 v1) (.nlt v0 v1) [4160] h0 g rfl
theorem q66 {s:Nat} (h0:s<1000000):s≤16777216:=gnle fun g=>l2_ [s] (.lt v0 (.k 1000000)) (.nle v0 (.k 16777216)) [4160] (nlt h0) g rfl
theorem q67 {s t:Nat} (h0:s<1000000) (h1:t=s):t<1000000:=gnlt fun g=>l3_ [s,t] (.lt v0 (.k 1000000)) (.eq v1 v0) (.nlt v1 (.k 1000000)) [16781376] (nlt h0) (neq h1) g rfl
theorem q68 {s:Nat} (h0:s<1000000):s+1≤1000000:=gnle fun g=>l2_ [s] (.lt v0 (.k 1000000)) (.nle (.a v0 k1) (.k 1000000)) [4160] (nlt h0) g rfl
theorem q69 {s t u:Nat} (h0:s+1≤1000000) (h1:t=s) (h2:u=t+1):u≤16777216:=gnle fun g=>l4_ [s,t,u] (.le (.a v0 k1) (.k 1000000)) (.eq v1 v0) (.eq v2 (.a v1 k1)) (.nle v2 (.k 16777216)) [68736258112] (nle h0) (neq h1) (neq h2) g rfl
theorem q70 {s:Nat} (h0:s+1≤1000000):s≤1000000:=gnle fun g=>l2_ [s] (.le (.a v0 k1) (.k 1000000)) (.nle v0 (.k 1000000)) [4160] (nle h0) g rfl
theorem q71 {s t:Nat} (h0:s<1000) (h1:t≤s):t≤16777216:=gnle fun g=>l3_ [s,t] (.lt v0 (.k 1000)) (.le v1 v0) (.nle v1 (.k 16777216)) [266304] (nlt h0) (nle h1) g rfl
theorem q72 {s t:Nat} (h0:s≤1000) (h1:t=s):t≤16777216:=gnle fun g=>l3_ [s,t] (.le v0 (.k 1000)) (.eq v1 v0) (.nle v1 (.k 16777216)) [16781376] (nle h0) (neq h1) g rfl
theorem q73 {s t:Nat} (h0:s≤t):(Int.toNat (max (s:Int) (t:Int)))=max s t:=let c:List Int:=[(((Int.toNat (max (s:Int) (t:Int))):Nat):Int),(((max s t):Nat):Int),(max (s:Int) (t:Int)),s,t];let f0:LF:=.nle v0 v1;let f1:LF:=.an (.le k0 v2) (.eq v0 v2);let f2:LF:=.an (.le v3 v4) (.eq v1 v4);let f3:LF:=.an (.le v3 v4) (.eq v2 v4);let f4:LF:=.le v3 v4;let f5:LF:=.an (.lt v4 v3) (.eq v2 v3);let f6:LF:=.an (.lt v4 v3) (.eq v1 v3);let f7:LF:=.an (.lt v2 k0) (.eq v0 k0);let f8:LF:=.nle v1 v0;gneq (fun g=>(tnE (max (s:Int) (t:Int))).elim (fun a=>(mxN s t).elim (fun b=>(mxI (s:Int) (t:Int)).elim (fun d=>l4_ c f0 f1 f2 f3 [18018796556255296] g a b d rfl) fun d=>l2_ c f4 f5 [17043520] (nle h0) d rfl) fun b=>l2_ c f4 f6 [17043520] (nle h0) b rfl) fun a=>l3_ c f0 (.le k0 v1) f7 [16781376] g (nnn (max s t)) a rfl) fun g=>(mxN s t).elim (fun a=>(mxI (s:Int) (t:Int)).elim (fun b=>(tnE (max (s:Int) (t:Int))).elim (fun d=>l4_ c f8 f2 f3 f1 [1152925902653620288] g a b d rfl) fun d=>l4_ c f8 f2 f3 f7 [1153207377630330944] g a b d rfl) fun b=>l2_ c f4 f5 [17043520] (nle h0) b rfl) fun a=>l2_ c f4 f6 [17043520] (nle h0) a rfl
theorem q74 {s t:Nat} (h0:s<1000000) (h1:t<1000000):¬(16777216<s+t):=fun g=>l3_ [s,t] (.lt v0 (.k 1000000)) (.lt v1 (.k 1000000)) (.lt (.k 16777216) (.a v0 v1)) [266304] (nlt h0) (nlt h1) (nlt g) rfl
theorem q75 {s t u v:Nat} (h0:s≤t) (h1:t≤u) (h2:u<1000000) (h3:v<1000000):(((min s u)+v)+(u-(max s t)))≤16777216+1:=let c:List Int:=[u,v,(((min s u):Nat):Int),(((u-(max s t)):Nat):Int),(((max s t):Nat):Int),s,t];let f0:LF:=.lt v0 (.k 1000000);let f1:LF:=.lt v1 (.k 1000000);let f2:LF:=.nle (.a (.a v2 v1) v3) (.a (.k 16777216) k1);let f3:LF:=.an (.le v5 v0) (.eq v2 v5);gnle fun g=>(mnN s u).elim (fun a=>(sbE u (max s t)).elim (fun b=>l6_ c f0 f1 f2 (.le k0 v4) f3 (.an (.le v4 v0) (.eq v3 (.s v0 v4))) [1188950371436073088] (nlt h2) (nlt h3) g (nnn (max s t)) a b rfl) fun b=>l5_ c f0 f1 f2 f3 (.an (.lt v0 v4) (.eq v3 k0)) [281476067496000] (nlt h2) (nlt h3) g a b rfl) fun a=>l3_ c (.le v5 v6) (.le v6 v0) (.an (.lt v0 v5) (.eq v2 v0)) [1090785344] (nle h0) (nle h1) a rfl
theorem q76 {s t u v:Nat} (h0:s≤t) (h1:t≤1000000) (h2:u=s-v):u≤16777216:=let c:List Int:=[s,t,u,(((s-v):Nat):Int),v];let f0:LF:=.eq v2 v3;let f1:LF:=.nle v2 (.k 16777216);gnle fun g=>(sbE s v).elim (fun a=>l6_ c (.le v0 v1) (.le v1 (.k 1000000)) f0 f1 (.le k0 v4) (.an (.le v4 v0) (.eq v3 (.s v0 v4))) [281544770195520] (nle h0) (nle h1) (neq h2) g (nnn v) a rfl) fun a=>l3_ c f0 f1 (.an (.lt v0 v4) (.eq v3 k0)) [1074004032] (neq h2) g a rfl
theorem q77 {s t u:Nat} (h0:s≤t) (h1:u=t-s):(u:Int)=((max (s:Int) (t:Int))-(s:Int)):=let c:List Int:=[u,(((t-s):Nat):Int),(max (s:Int) (t:Int)),s,t];let f0:LF:=.eq v0 v1;let f1:LF:=.an (.le v3 v4) (.eq v1 (.s v4 v3));let f2:LF:=.an (.le v3 v4) (.eq v2 v4);let f3:LF:=.an (.lt v4 v3) (.eq v2 v3);let f4:LF:=.le v3 v4;let f5:LF:=.an (.lt v4 v3) (.eq v1 k0);geq (fun g=>(sbE t s).elim (fun a=>(mxI (s:Int) (t:Int)).elim (fun b=>l4_ c f0 (.nle v0 (.s v2 v3)) f1 f2 [18014399583486016] (neq h1) g a b rfl) fun b=>l2_ c f1 f3 [17043520] a b rfl) fun a=>l2_ c f4 f5 [4160] (nle h0) a rfl) fun g=>(sbE t s).elim (fun a=>(mxI (s:Int) (t:Int)).elim (fun b=>l4_ c f0 (.nle (.s v2 v3) v0) f1 f2 [281543696453632] (neq h1) g a b rfl) fun b=>l2_ c f4 f3 [17043520] (nle h0) b rfl) fun a=>l2_ c f4 f5 [4160] (nle h0) a rfl
theorem q78 {s t u v w:Nat} (h0:s≤t) (h1:t≤u) (h2:v=t-s) (h3:w=(((min s u)+v)+(u-(max s t)))):w=u:=let c:List Int:=[v,(((t-s):Nat):Int),w,(((min s u):Nat):Int),(((u-(max s t)):Nat):Int),u,s,t,(((max s t):Nat):Int)];let f0:LF:=.eq v0 v1;let f1:LF:=.eq v2 (.a (.a v3 v0) v4);let f2:LF:=.nle v2 v5;let f3:LF:=.an (.le v6 v7) (.eq v1 (.s v7 v6));let f4:LF:=.an (.le v6 v5) (.eq v3 v6);let f5:LF:=.an (.le v8 v5) (.eq v4 (.s v5 v8));let f6:LF:=.an (.le v6 v7) (.eq v8 v7);let f7:LF:=.an (.lt v7 v6) (.eq v8 v6);let f8:LF:=.le v7 v5;let f9:LF:=.an (.lt v5 v8) (.eq v4 k0);let f10:LF:=.le v6 v7;let f11:LF:=.an (.lt v5 v6) (.eq v3 v5);let f12:LF:=.an (.lt v7 v6) (.eq v1 k0);let f13:LF:=.nle v5 v2;gneq (fun g=>(sbE t s).elim (fun a=>(mnN s u).elim (fun b=>(sbE u (max s t)).elim (fun d=>(mxN s t).elim (fun e=>l7_ c f0 f1 f2 f3 f4 f5 f6 [5070602703145525435547833860160] (neq h2) (neq h3) g a b d e rfl) fun e=>l2_ c f3 f7 [17043520] a e rfl) fun d=>l7_ c f8 f0 f1 f2 f3 f4 f9 [19342886901091905346474048] (nle h1) (neq h2) (neq h3) g a b d rfl) fun b=>l3_ c f10 f8 f11 [1090785344] (nle h0) (nle h1) b rfl) fun a=>l2_ c f10 f12 [4160] (nle h0) a rfl) fun g=>(sbE t s).elim (fun a=>(mnN s u).elim (fun b=>(mxN s t).elim (fun d=>(sbE u (max s t)).elim (fun e=>l7_ c f0 f1 f13 f3 f4 f6 f5 [5070602703218159767415011938304] (neq h2) (neq h3) g a b d e rfl) fun e=>l7_ c f0 f1 f13 f3 f4 f6 f9 [5071840643257445147689911062528] (neq h2) (neq h3) g a b d e rfl) fun d=>l2_ c f10 f7 [17043520] (nle h0) d rfl) fun b=>l3_ c f10 f8 f11 [1090785344] (nle h0) (nle h1) b rfl) fun a=>l2_ c f10 f12 [4160] (nle h0) a rfl
theorem q79 {s t u:Int} :(s+t)+u=s+(u+t):=geq (fun g=>l1_ [s,t,u] (.nle (.a (.a v0 v1) v2) (.a v0 (.a v2 v1))) [64] g rfl) fun g=>l1_ [s,u,t] (.nle (.a v0 (.a v1 v2)) (.a (.a v0 v2) v1)) [64] g rfl
theorem q80 {s t:Nat} :(s+1)+t=s+(t+1):=let c:List Int:=[s,t];gneq (fun g=>l1_ c (.nle (.a (.a v0 k1) v1) (.a v0 (.a v1 k1))) [64] g rfl) fun g=>l1_ c (.nle (.a v0 (.a v1 k1)) (.a (.a v0 k1) v1)) [64] g rfl
theorem q81 {s:Int} (h0:s≤1000000):s.toNat≤1000000:=let c:List Int:=[s,↑s.toNat];let f0:LF:=.nle v1 (.k 1000000);gnle fun g=>(tnE s).elim (fun a=>l3_ c (.le v0 (.k 1000000)) f0 (.an (.le k0 v0) (.eq v1 v0)) [16781376] h0 g a rfl) fun a=>l2_ c f0 (.an (.lt v0 k0) (.eq v1 k0)) [262208] g a rfl
theorem q82 {s:Int} (h0:0≤s):0≤s+1:=gle fun g=>l2_ [s] (.le k0 v0) (.nle k0 (.a v0 k1)) [4160] h0 g rfl
theorem q83  :(0:Int)≤(0:Int):=gle fun g=>l1_ [] (.nle k0 k0) [64] g rfl
theorem q84 {s:Int} (h0:0≤s):s=↑s.toNat:=let c:List Int:=[s,↑s.toNat];let f0:LF:=.nle v0 v1;let f1:LF:=.an (.le k0 v0) (.eq v1 v0);let f2:LF:=.an (.lt v0 k0) (.eq v1 k0);geq (fun g=>(tnE s).elim (fun a=>l2_ c f0 f1 [16777280] g a rfl) fun a=>l2_ c f0 f2 [16781376] g a rfl) fun g=>(tnE s).elim (fun a=>l2_ c (.nle v1 v0) f1 [262208] g a rfl) fun a=>l2_ c (.le k0 v0) f2 [4160] h0 a rfl
theorem q85 {s t:Nat} (h0:s+(t+1)≤1000000):(s+t)+1≤1000000:=gnle fun g=>l2_ [s,t] (.le (.a v0 (.a v1 k1)) (.k 1000000)) (.nle (.a (.a v0 v1) k1) (.k 1000000)) [4160] (nle h0) g rfl
theorem q86 {s t:Nat} (h0:(s+t)+1≤1000000):s+t≤1000000:=gnle fun g=>l2_ [s,t] (.le (.a (.a v0 v1) k1) (.k 1000000)) (.nle (.a v0 v1) (.k 1000000)) [4160] (nle h0) g rfl
theorem q87 {s t:Nat} (h0:(s+t)+1≤1000000):s≤16777216:=gnle fun g=>l3_ [s,t] (.le (.a (.a v0 v1) k1) (.k 1000000)) (.nle v0 (.k 16777216)) (.le k0 v1) [266304] (nle h0) g (nnn t) rfl
theorem q88 {s t:Nat} (h0:(s+t)+1≤1000000):(s+1)+t≤1000000:=gnle fun g=>l2_ [s,t] (.le (.a (.a v0 v1) k1) (.k 1000000)) (.nle (.a (.a v0 k1) v1) (.k 1000000)) [4160] (nle h0) g rfl
theorem q89 {s t:Nat} (h0:s≤t):s≤t+1:=gnle fun g=>l2_ [s,t] (.le v0 v1) (.nle v0 (.a v1 k1)) [4160] (nle h0) g rfl
theorem q90 {s:Nat} (h0:s≤1000000):0+s≤1000000:=gnle fun g=>l2_ [s] (.le v0 (.k 1000000)) (.nle (.a k0 v0) (.k 1000000)) [4160] (nle h0) g rfl
theorem q91 {s t u:Nat} (h0:s=t) (h1:u=t):s=u:=let c:List Int:=[s,t,u];let f0:LF:=.eq v0 v1;let f1:LF:=.eq v2 v1;gneq (fun g=>l3_ c f0 f1 (.nle v0 v2) [1090519104] (neq h0) (neq h1) g rfl) fun g=>l3_ c f0 f1 (.nle v2 v0) [1074008064] (neq h0) (neq h1) g rfl
theorem q92 {s t:Nat} (h0:s=t):s≤t:=gnle fun g=>l2_ [s,t] (.eq v0 v1) (.nle v0 v1) [262208] (neq h0) g rfl
theorem q93 {s t u v:Nat} (h0:s≤t) (h1:t≤u):(((min s u)+v)+(u-(max s t)))=((u-(t-s))+v):=let c:List Int:=[(((min s u):Nat):Int),v,(((u-(max s t)):Nat):Int),(((u-(t-s)):Nat):Int),s,u,t,(((max s t):Nat):Int),(((t-s):Nat):Int)];let f0:LF:=.nle (.a (.a v0 v1) v2) (.a v3 v1);let f1:LF:=.an (.le v4 v5) (.eq v0 v4);let f2:LF:=.an (.le v4 v6) (.eq v7 v6);let f3:LF:=.an (.le v7 v5) (.eq v2 (.s v5 v7));let f4:LF:=.an (.le v4 v6) (.eq v8 (.s v6 v4));let f5:LF:=.an (.le v8 v5) (.eq v3 (.s v5 v8));let f6:LF:=.an (.lt v5 v8) (.eq v3 k0);let f7:LF:=.le v4 v6;let f8:LF:=.an (.lt v6 v4) (.eq v8 k0);let f9:LF:=.le v6 v5;let f10:LF:=.an (.lt v5 v7) (.eq v2 k0);let f11:LF:=.an (.lt v6 v4) (.eq v7 v4);let f12:LF:=.an (.lt v5 v4) (.eq v0 v5);let f13:LF:=.nle (.a v3 v1) (.a (.a v0 v1) v2);gneq (fun g=>(mnN s u).elim (fun a=>(mxN s t).elim (fun b=>(sbE u (max s t)).elim (fun d=>(sbE t s).elim (fun e=>(sbE u (t-s)).elim (fun i=>l6_ c f0 f1 f2 f3 f4 f5 [79228167236648839259745419328] g a b d e i rfl) fun i=>l6_ c f0 f1 f2 f3 f4 f6 [79247510049762673326540718144] g a b d e i rfl) fun e=>l2_ c f7 f8 [4160] (nle h0) e rfl) fun d=>l3_ c f9 f2 f10 [1074004032] (nle h1) b d rfl) fun b=>l2_ c f7 f11 [17043520] (nle h0) b rfl) fun a=>l3_ c f7 f9 f12 [1090785344] (nle h0) (nle h1) a rfl) fun g=>(sbE u (t-s)).elim (fun a=>(mnN s u).elim (fun b=>(sbE t s).elim (fun d=>(mxN s t).elim (fun e=>(sbE u (max s t)).elim (fun i=>l6_ c f13 f5 f1 f4 f2 f3 [79228167237783746365842784320] g a b d e i rfl) fun i=>l6_ c f13 f5 f1 f4 f2 f10 [79247510050897580432638083136] g a b d e i rfl) fun e=>l2_ c f4 f11 [17043520] d e rfl) fun d=>l2_ c f7 f8 [4160] (nle h0) d rfl) fun b=>l3_ c f7 f9 f12 [1090785344] (nle h0) (nle h1) b rfl) fun a=>l4_ c f13 (.le k0 v0) (.le k0 v2) f6 [1074008128] g (nnn (min s u)) (nnn (u-(max s t))) a rfl
theorem q94 {s t:Nat} (h0:(s:Int)≤(t:Int)):s≤t:=gnle fun g=>l2_ [s,t] (.le v0 v1) (.nle v0 v1) [4160] h0 g rfl
theorem q95 {s t u:Nat} (h0:(s:Int)≤(t:Int)) (h1:u=t):s≤u:=gnle fun g=>l3_ [s,t,u] (.le v0 v1) (.eq v2 v1) (.nle v0 v2) [17039424] h0 (neq h1) g rfl
theorem q96 {s t:Nat} (h0:s≤100000) (h1:t=s):t<1000000:=gnlt fun g=>l3_ [s,t] (.le v0 (.k 100000)) (.eq v1 v0) (.nlt v1 (.k 1000000)) [16781376] (nle h0) (neq h1) g rfl
theorem q97 {s t:Nat} (h0:s≤1000) (h1:t=s):t<1000000:=gnlt fun g=>l3_ [s,t] (.le v0 (.k 1000)) (.eq v1 v0) (.nlt v1 (.k 1000000)) [16781376] (nle h0) (neq h1) g rfl
theorem q98 {s t u v:Nat} (h0:s≤100000) (h1:t≤1000):((s-(u-v))+t)≤1000000:=let c:List Int:=[s,t,(((s-(u-v)):Nat):Int),(((u-v):Nat):Int)];let f0:LF:=.le v1 (.k 1000);let f1:LF:=.nle (.a v2 v1) (.k 1000000);gnle fun g=>(sbE s (u-v)).elim (fun a=>l5_ c (.le v0 (.k 100000)) f0 f1 (.le k0 v3) (.an (.le v3 v0) (.eq v2 (.s v0 v3))) [68736520256] (nle h0) (nle h1) g (nnn (u-v)) a rfl) fun a=>l3_ c f0 f1 (.an (.lt v0 v3) (.eq v2 k0)) [16781376] (nle h1) g a rfl
theorem q99 {s t u:Nat} (h0:(s:Int)≤(t:Int)) (h1:(u:Int)=((t:Int)-(s:Int))):u=t-s:=let c:List Int:=[u,t,s,(((t-s):Nat):Int)];let f0:LF:=.eq v0 (.s v1 v2);let f1:LF:=.nle v0 v3;let f2:LF:=.an (.le v2 v1) (.eq v3 (.s v1 v2));let f3:LF:=.an (.lt v1 v2) (.eq v3 k0);gneq (fun g=>(sbE t s).elim (fun a=>l3_ c f0 f1 f2 [68719738944] h1 g a rfl) fun a=>l3_ c f0 f1 f3 [68736516160] h1 g a rfl) fun g=>(sbE t s).elim (fun a=>l3_ c f0 (.nle v3 v0) f2 [1074008064] h1 g a rfl) fun a=>l2_ c (.le v2 v1) f3 [4160] h0 a rfl
theorem q100 {s t u v:Nat} (h0:(s:Int)≤(t:Int)) (h1:t≤1000000) (h2:(u:Int)=((s:Int)-(v:Int))):((t-(s-v))+u)≤1000000:=let c:List Int:=[t,u,s,v,(((t-(s-v)):Nat):Int),(((s-v):Nat):Int)];let f0:LF:=.le v0 (.k 1000000);let f1:LF:=.eq v1 (.s v2 v3);let f2:LF:=.nle (.a v4 v1) (.k 1000000);let f3:LF:=.an (.le v5 v0) (.eq v4 (.s v0 v5));gnle fun g=>(sbE t (s-v)).elim (fun a=>(sbE s v).elim (fun b=>l5_ c f0 f1 f2 f3 (.an (.le v3 v2) (.eq v5 (.s v2 v3))) [1152921573343105088] (nle h1) h2 g a b rfl) fun b=>l5_ c f0 f1 f2 f3 (.an (.lt v2 v3) (.eq v5 k0)) [1153203048319815744] (nle h1) h2 g a b rfl) fun a=>l6_ c (.le v2 v0) f0 f1 f2 (.le k0 v3) (.an (.lt v0 v5) (.eq v4 k0)) [281544770195520] h0 (nle h1) h2 g (nnn v) a rfl
theorem q101 {s t:Nat} (h0:s+t≤1000000):s+t≤16777216:=gnle fun g=>l2_ [s,t] (.le (.a v0 v1) (.k 1000000)) (.nle (.a v0 v1) (.k 16777216)) [4160] (nle h0) g rfl
theorem q102 {s t u:Nat} (h0:s≤t) (h1:u=s):u≤t:=gnle fun g=>l3_ [s,t,u] (.le v0 v1) (.eq v2 v0) (.nle v2 v1) [16781376] (nle h0) (neq h1) g rfl
theorem q103 {s t u v:Nat} (h0:s≤t+u) (h1:v=t):s≤v+u:=gnle fun g=>l3_ [s,t,u,v] (.le v0 (.a v1 v2)) (.eq v3 v1) (.nle v0 (.a v3 v2)) [17039424] (nle h0) (neq h1) g rfl
theorem q104 {s t u:Nat} (h0:s≤t) (h1:t≤s+u):(s+(u-((s+u)-t)))=t:=let c:List Int:=[s,(((u-((s+u)-t)):Nat):Int),t,((((s+u)-t):Nat):Int),u];let f0:LF:=.nle (.a v0 v1) v2;let f1:LF:=.an (.le v3 v4) (.eq v1 (.s v4 v3));let f2:LF:=.an (.le v2 (.a v0 v4)) (.eq v3 (.s (.a v0 v4) v2));let f3:LF:=.an (.lt (.a v0 v4) v2) (.eq v3 k0);let f4:LF:=.an (.lt v4 v3) (.eq v1 k0);let f5:LF:=.nle v2 (.a v0 v1);gneq (fun g=>(sbE u ((s+u)-t)).elim (fun a=>(sbE (s+u) t).elim (fun b=>l3_ c f0 f1 f2 [4398046773312] g a b rfl) fun b=>l3_ c f0 f1 f3 [4399120515136] g a b rfl) fun a=>l3_ c (.le v0 v2) f0 f4 [16781376] (nle h0) g a rfl) fun g=>(sbE (s+u) t).elim (fun a=>(sbE u ((s+u)-t)).elim (fun b=>l3_ c f5 f2 f1 [4398046773312] g a b rfl) fun b=>l3_ c f5 f2 f4 [4399120515136] g a b rfl) fun a=>l2_ c (.le v2 (.a v0 v4)) f3 [4160] (nle h1) a rfl
theorem q105 {s t:Nat} :min s t≤s:=let c:List Int:=[(((min s t):Nat):Int),s,t];let f0:LF:=.nle v0 v1;gnle fun g=>(mnN s t).elim (fun a=>l2_ c f0 (.an (.le v1 v2) (.eq v0 v1)) [262208] g a rfl) fun a=>l2_ c f0 (.an (.lt v2 v1) (.eq v0 v2)) [266304] g a rfl
theorem q106 {s t:Nat} (h0:s+1≤90) (h1:t≤302+(4*s)):t<1000:=gnlt fun g=>l3_ [s,t] (.le (.a v0 k1) (.k 90)) (.le v1 (.a (.k 302) (.m 4 v0))) (.nlt v1 (.k 1000)) [266496] (nle h0) (nle h1) g rfl
theorem q107 {s t:Nat} (h0:s≤302+(4*t)):s+1≤(301+(4*(t+1))):=gnle fun g=>l2_ [s,t] (.le v0 (.a (.k 302) (.m 4 v1))) (.nle (.a v0 k1) (.a (.k 301) (.m 4 (.a v1 k1)))) [4160] (nle h0) g rfl
theorem q108 {s t:Nat} (h0:s≤12+(12*t)):s+3≤(8+(12*(t+1))):=gnle fun g=>l2_ [s,t] (.le v0 (.a (.k 12) (.m 12 v1))) (.nle (.a v0 k3) (.a k8 (.m 12 (.a v1 k1)))) [4160] (nle h0) g rfl
theorem q111 {s t:Nat} (h0:s≤559) (h1:(t=s)∨((t=s-1)∨((t=143)∨(t=268)))):t<560:=let c:List Int:=[s,t,(((s-1):Nat):Int)];let f0:LF:=.le v0 (.k 559);let f1:LF:=.nlt v1 (.k 560);let f2:LF:=.eq v1 v2;gnlt fun g=>h1.elim (fun a=>l3_ c f0 f1 (.eq v1 v0) [266304] (nle h0) g (neq a) rfl) fun a=>a.elim (fun b=>(sbE s (1:Nat)).elim (fun d=>l4_ c f0 f1 f2 (.an (.le k1 v0) (.eq v2 (.s v0 k1))) [68719743040] (nle h0) g (neq b) d rfl) fun d=>l3_ c f1 f2 (.an (.lt v0 k1) (.eq v2 k0)) [1073745984] g (neq b) d rfl) fun b=>b.elim (fun d=>l2_ c f1 (.eq v1 (.k 143)) [4160] g (neq d) rfl) fun d=>l2_ c f1 (.eq v1 (.k 268)) [4160] g (neq d) rfl
theorem q112 {s t:Nat} (h0:¬(s<t)):t≤s:=gnle fun g=>l2_ [s,t] (.nlt v0 v1) (.nle v1 v0) [4160] (nnlt h0) g rfl
theorem q113 {s t u:Nat} (h0:s≤t):s-(t-u)<u+1:=let c:List Int:=[s,t,(((s-(t-u)):Nat):Int),u,(((t-u):Nat):Int)];let f0:LF:=.le v0 v1;let f1:LF:=.nlt v2 (.a v3 k1);let f2:LF:=.an (.le v4 v0) (.eq v2 (.s v0 v4));gnlt fun g=>(sbE s (t-u)).elim (fun a=>(sbE t u).elim (fun b=>l4_ c f0 f1 f2 (.an (.le v3 v1) (.eq v4 (.s v1 v3))) [281474993492032] (nle h0) g a b rfl) fun b=>l4_ c f0 f1 f2 (.an (.lt v1 v3) (.eq v4 k0)) [281543712968768] (nle h0) g a b rfl) fun a=>l3_ c f1 (.le k0 v3) (.an (.lt v0 v4) (.eq v2 k0)) [16781376] g (nnn u) a rfl
theorem q114 {s t u v:Nat} (h0:s=t) (h1:s≤u) (h2:u≤v+t):((u-s)+(v-(u-s)))=v:=let c:List Int:=[(((u-s):Nat):Int),(((v-(u-s)):Nat):Int),v,s,t,u];let f0:LF:=.an (.le v0 v2) (.eq v1 (.s v2 v0));let f1:LF:=.an (.lt v2 v0) (.eq v1 k0);let f2:LF:=.nle v2 (.a v0 v1);gneq (fun g=>(sbE u s).elim (fun a=>(sbE v (u-s)).elim (fun b=>l2_ c (.nle (.a v0 v1) v2) f0 [262208] g b rfl) fun b=>l4_ c (.eq v3 v4) (.le v5 (.a v2 v4)) (.an (.le v3 v5) (.eq v0 (.s v5 v3))) f1 [4399120519168] (neq h0) (nle h2) a b rfl) fun a=>l2_ c (.le v3 v5) (.an (.lt v5 v3) (.eq v0 k0)) [4160] (nle h1) a rfl) fun g=>(sbE v (u-s)).elim (fun b=>l2_ c f2 f0 [16777280] g b rfl) fun b=>l2_ c f2 f1 [16781376] g b rfl
theorem q115 {s t u v:Nat} (h0:s=t) (h1:s≤u) (h2:((u-s)+(v-(u-s)))=v):(v+t)-u=v-(u-s):=let c:List Int:=[s,t,(((u-s):Nat):Int),(((v-(u-s)):Nat):Int),v,((((v+t)-u):Nat):Int),u];let f0:LF:=.eq v0 v1;let f1:LF:=.eq (.a v2 v3) v4;let f2:LF:=.an (.le v0 v6) (.eq v2 (.s v6 v0));let f3:LF:=.an (.le v6 (.a v4 v1)) (.eq v5 (.s (.a v4 v1) v6));let f4:LF:=.an (.lt (.a v4 v1) v6) (.eq v5 k0);let f5:LF:=.le v0 v6;let f6:LF:=.an (.lt v6 v0) (.eq v2 k0);let f7:LF:=.nle v3 v5;gneq (fun g=>(sbE u s).elim (fun a=>(sbE (v+t) u).elim (fun d=>l5_ c f0 f1 (.nle v5 v3) f2 f3 [1152925903743881216] (neq h0) (neq h2) g a d rfl) fun d=>l5_ c f0 f1 (.le k0 v3) f2 f4 [18295874560196672] (neq h0) (neq h2) (nnn (v-(u-s))) a d rfl) fun a=>l2_ c f5 f6 [4160] (nle h1) a rfl) fun g=>(sbE u s).elim (fun a=>(sbE (v+t) u).elim (fun d=>l5_ c f0 f1 f7 f2 f3 [73787257770888921152] (neq h0) (neq h2) g a d rfl) fun d=>l5_ c f0 f1 f7 f2 f4 [73805272169398403136] (neq h0) (neq h2) g a d rfl) fun a=>l2_ c f5 f6 [4160] (nle h1) a rfl
theorem q116 {s t:Nat} (h0:s+(t+1)≤90):(s+1)+t≤90:=gnle fun g=>l2_ [s,t] (.le (.a v0 (.a v1 k1)) (.k 90)) (.nle (.a (.a v0 k1) v1) (.k 90)) [4160] (nle h0) g rfl
theorem q117 {s t:Nat} (h0:s+(t+1)≤90):s+1≤90:=gnle fun g=>l3_ [s,t] (.le (.a v0 (.a v1 k1)) (.k 90)) (.nle (.a v0 k1) (.k 90)) (.le k0 v1) [266304] (nle h0) g (nnn t) rfl
theorem q118  :¬((256:Int)=(0:Int)):=fun g=>l1_ [] (.eq (.k 256) k0) [64] g rfl
theorem q119  :(0:Int)<(256:Int):=glt fun g=>l1_ [] (.nlt k0 (.k 256)) [64] g rfl
theorem q120 {s t:Int} {u v:Nat} (h0:0≤s) (h1:s≤t) (h2:t≤(u:Int)) (h3:(v:Int)=t-s):(((min s.toNat u)+v)+(u-(max s.toNat t.toNat)))=u:=let c:List Int:=[v,t,s,(((min s.toNat u):Nat):Int),(((u-(max s.toNat t.toNat)):Nat):Int),u,↑s.toNat,(((max s.toNat t.toNat):Nat):Int),↑t.toNat];let f0:LF:=.eq v0 (.s v1 v2);let f1:LF:=.nle (.a (.a v3 v0) v4) v5;let f2:LF:=.an (.le k0 v2) (.eq v6 v2);let f3:LF:=.an (.le v6 v5) (.eq v3 v6);let f4:LF:=.an (.le v7 v5) (.eq v4 (.s v5 v7));let f5:LF:=.an (.le k0 v1) (.eq v8 v1);let f6:LF:=.an (.le v6 v8) (.eq v7 v8);let f7:LF:=.an (.lt v8 v6) (.eq v7 v6);let f8:LF:=.an (.lt v1 k0) (.eq v8 k0);let f9:LF:=.le v1 v5;let f10:LF:=.an (.lt v5 v7) (.eq v4 k0);let f11:LF:=.le v2 v1;let f12:LF:=.an (.lt v5 v6) (.eq v3 v5);let f13:LF:=.le k0 v2;let f14:LF:=.an (.lt v2 k0) (.eq v6 k0);let f15:LF:=.nle v5 (.a (.a v3 v0) v4);gneq (fun g=>(tnE s).elim (fun a=>(mnN s.toNat u).elim (fun b=>(sbE u (max s.toNat t.toNat)).elim (fun d=>(tnE t).elim (fun e=>(mxN s.toNat t.toNat).elim (fun i=>l7_ c f0 f1 f2 f3 f4 f5 f6 [324519791598539799421201808621632] h3 g a b d e i rfl) fun i=>l7_ c f0 f1 f2 f3 f4 f5 f7 [654188175820393708147938185969728] h3 g a b d e i rfl) fun e=>l7_ c f0 f1 (.le k0 v7) f2 f3 f4 f8 [19347535498331403686510656] h3 g (nnn (max s.toNat t.toNat)) a b d e rfl) fun d=>l6_ c f9 f0 f1 f2 f3 f10 [4722384497336890953792] h2 h3 g a b d rfl) fun b=>l4_ c f11 f9 f2 f12 [285941759479872] h1 h2 a b rfl) fun a=>l2_ c f13 f14 [4160] h0 a rfl) fun g=>(mnN s.toNat u).elim (fun a=>(tnE s).elim (fun b=>(tnE t).elim (fun d=>(mxN s.toNat t.toNat).elim (fun e=>(sbE u (max s.toNat t.toNat)).elim (fun i=>l7_ c f0 f15 f3 f2 f5 f6 f4 [324518573001313645607984883306496] h3 g a b d e i rfl) fun i=>l7_ c f0 f15 f3 f2 f5 f6 f10 [324597801163827909945578427256832] h3 g a b d e i rfl) fun e=>l4_ c f11 f2 f5 f7 [1171221776139812928] h1 b d e rfl) fun d=>l3_ c f13 f11 f8 [266304] h0 h1 d rfl) fun b=>l2_ c f13 f14 [4160] h0 b rfl) fun a=>l5_ c f11 f0 f15 (.le k0 v4) f12 [281476067491904] h1 h3 g (nnn (u-(max s.toNat t.toNat))) a rfl
theorem q121 {s t:Int} {u:Nat} (h0:0≤s) (h1:s≤t) (h2:t≤(u:Int)):(min t.toNat u)-s.toNat=Int.toNat (t-s):=let c:List Int:=[((((min t.toNat u)-s.toNat):Nat):Int),(((Int.toNat (t-s)):Nat):Int),↑s.toNat,(((min t.toNat u):Nat):Int),t,s,↑t.toNat,u];let f0:LF:=.nle v0 v1;let f1:LF:=.an (.le v2 v3) (.eq v0 (.s v3 v2));let f2:LF:=.an (.le k0 (.s v4 v5)) (.eq v1 (.s v4 v5));let f3:LF:=.an (.le k0 v5) (.eq v2 v5);let f4:LF:=.an (.le k0 v4) (.eq v6 v4);let f5:LF:=.an (.le v6 v7) (.eq v3 v6);let f6:LF:=.an (.lt v7 v6) (.eq v3 v7);let f7:LF:=.le v5 v4;let f8:LF:=.an (.lt v4 k0) (.eq v6 k0);let f9:LF:=.le k0 v5;let f10:LF:=.an (.lt v5 k0) (.eq v2 k0);let f11:LF:=.an (.lt (.s v4 v5) k0) (.eq v1 k0);let f12:LF:=.an (.lt v3 v2) (.eq v0 k0);gneq (fun g=>(sbE (min t.toNat u) s.toNat).elim (fun a=>(tnE (t-s)).elim (fun b=>(tnE s).elim (fun d=>(tnE t).elim (fun e=>(mnN t.toNat u).elim (fun i=>l6_ c f0 f1 f2 f3 f4 f5 [1237944762804789047197958208] g a b d e i rfl) fun i=>l6_ c f0 f1 f2 f3 f4 f6 [1257287575918623113993257024] g a b d e i rfl) fun e=>l3_ c f7 f3 f8 [1090785344] h1 d e rfl) fun d=>l2_ c f9 f10 [4160] h0 d rfl) fun b=>l2_ c f7 f11 [4160] h1 b rfl) fun a=>l3_ c f0 (.le k0 v1) f12 [16781376] g (nnn (Int.toNat (t-s))) a rfl) fun g=>(tnE (t-s)).elim (fun a=>(tnE s).elim (fun b=>(tnE t).elim (fun d=>(mnN t.toNat u).elim (fun e=>(sbE (min t.toNat u) s.toNat).elim (fun i=>l6_ c (.nle v1 v0) f2 f3 f4 f5 f1 [79228464746872162824164212800] g a b d e i rfl) fun i=>l5_ c f2 f3 f4 f5 f12 [306953839400926522380352] a b d e i rfl) fun e=>l3_ c (.le v4 v7) f4 f6 [4467839991872] h2 d e rfl) fun d=>l3_ c f2 f3 f8 [4467857039424] a b d rfl) fun b=>l2_ c f9 f10 [4160] h0 b rfl) fun a=>l2_ c f7 f11 [4160] h1 a rfl
theorem q122 {s t:Int} {u v:Nat} (h0:s-t≤(u:Int)) (h1:0≤t):(min s.toNat v)-t.toNat≤u:=let c:List Int:=[s,t,u,((((min s.toNat v)-t.toNat):Nat):Int),↑t.toNat,(((min s.toNat v):Nat):Int),↑s.toNat,v];let f0:LF:=.le (.s v0 v1) v2;let f1:LF:=.nle v3 v2;let f2:LF:=.an (.le v4 v5) (.eq v3 (.s v5 v4));let f3:LF:=.an (.le k0 v1) (.eq v4 v1);let f4:LF:=.an (.le v6 v7) (.eq v5 v6);let f5:LF:=.an (.le k0 v0) (.eq v6 v0);let f6:LF:=.le k0 v2;let f7:LF:=.an (.lt v0 k0) (.eq v6 k0);let f8:LF:=.an (.lt v7 v6) (.eq v5 v7);gnle fun g=>(sbE (min s.toNat v) t.toNat).elim (fun a=>(tnE t).elim (fun b=>(mnN s.toNat v).elim (fun d=>(tnE s).elim (fun e=>l6_ c f0 f1 f2 f3 f4 f5 [302232608106636894015552] h0 g a b d e rfl) fun e=>l6_ c f1 f6 (.le k0 v4) f2 f4 f7 [73787257770888925248] g (nnn u) (nnn t.toNat) a d e rfl) fun d=>(tnE s).elim (fun e=>l6_ c f0 f1 f2 f3 f8 f5 [302232626121035403497536] h0 g a b d e rfl) fun e=>l4_ c f2 f3 f8 f7 [73787262236597682240] a b d e rfl) fun b=>l2_ c (.le k0 v1) (.an (.lt v1 k0) (.eq v4 k0)) [4160] h1 b rfl) fun a=>l3_ c f1 f6 (.an (.lt v5 v4) (.eq v3 k0)) [16781376] g (nnn u) a rfl
theorem q123  :(0:Nat)<(2:Nat):=gnlt fun g=>l1_ [] (.nlt k0 k2) [64] g rfl
theorem q124 {s:Nat} (h0:¬(s<8)):8≤s:=gnle fun g=>l2_ [s] (.nlt v0 k8) (.nle k8 v0) [4160] (nnlt h0) g rfl
theorem q125 {s:Int} (h0:0≤s):0≤s*256:=gle fun g=>m2_ [s] (.le k0 v0) (.nle k0 (.r v0 256)) [1099511628031,1099512676352] h0 g rfl
theorem q126 {s:Int} (h0:0≤s):Int.toNat (s*256)=s.toNat*256:=let c:List Int:=[(((Int.toNat (s*256)):Nat):Int),↑s.toNat,s];let f0:LF:=.an (.le k0 (.r v2 256)) (.eq v0 (.r v2 256));let f1:LF:=.an (.le k0 v2) (.eq v1 v2);let f2:LF:=.an (.lt v2 k0) (.eq v1 k0);let f3:LF:=.le k0 v2;let f4:LF:=.an (.lt (.r v2 256) k0) (.eq v0 k0);gneq (fun g=>(tnE (s*256)).elim (fun a=>(tnE s).elim (fun b=>m3_ c (.nle v0 (.r v1 256)) f0 f1 [1152921504607895807,1461501637330902918203684832716283019655933591552] g a b rfl) fun b=>m2_ c f0 f2 [1048831,1267650600228229401496704253952] a b rfl) fun a=>m2_ c f3 f4 [1099511628031,1099512676352] h0 a rfl) fun g=>(tnE s).elim (fun a=>(tnE (s*256)).elim (fun b=>m3_ c (.nle (.r v1 256) v0) f1 f0 [1393796574908163946346277539945701947998208] g a b rfl) fun b=>m2_ c f1 f4 [1208925819614629174706431,1208926972537233294229504] a b rfl) fun a=>l2_ c f3 f2 [4160] h0 a rfl
theorem q127 {s:Int} (h0:s<256):s.toNat<256:=gnlt fun g=>(tnE s).elim (fun a=>l3_ [s,↑s.toNat] (.lt v0 (.k 256)) (.nlt v1 (.k 256)) (.an (.le k0 v0) (.eq v1 v0)) [16781376] h0 g a rfl) fun a=>l2_ [↑s.toNat,s] (.nlt v0 (.k 256)) (.an (.lt v1 k0) (.eq v0 k0)) [262208] g a rfl
theorem q128 {s t:Int} :(((s*256)+t)-0)=(s*256)+t:=geq (fun g=>l1_ [s,t] (.nle (.s (.a (.r v0 256) v1) k0) (.a (.r v0 256) v1)) [64] g rfl) fun g=>l1_ [s,t] (.nle (.a (.r v0 256) v1) (.s (.a (.r v0 256) v1) k0)) [64] g rfl
theorem q131 {s:Int} (h0:65535<s):¬((s%65536)+(s/65536)=0):=fun g=>m3_ [s,(s%65536),(s/65536)] (.lt (.k 65535) v0) (.eq (.a v1 v2) k0) (.an (.eq (.a (.m 65536 v2) v1) v0) (.an (.le k0 v1) (.lt v1 (.k 65536)))) [1267650600228229402596215947262,1393796574908163946345983544962027202019328] h0 g (dmI s 65535) rfl
theorem q132 {s:Int} (h0:65535<s):¬(s=0):=fun g=>l2_ [s] (.lt (.k 65535) v0) (.eq v0 k0) [4160] h0 g rfl
theorem q133 {s:Int} :(((((s%65536)+(s/65536))-1)%65535)+1)=(((s-1)%65535)+1):=let c:List Int:=[((((s%65536)+(s/65536))-1)%65535),((s-1)%65535),((((s%65536)+(s/65536))-1)/65535),(s%65536),(s/65536),((s-1)/65535),s];let f0:LF:=.an (.eq (.a (.m 65535 v2) v0) (.s (.a v3 v4) k1)) (.an (.le k0 v0) (.lt v0 (.k 65535)));let f1:LF:=.an (.eq (.a (.m 65535 v5) v1) (.s v6 k1)) (.an (.le k0 v1) (.lt v1 (.k 65535)));let f2:LF:=.an (.eq (.a (.m 65536 v4) v3) v6) (.an (.le k0 v3) (.lt v3 (.k 65536)));geq (fun g=>m4_ c (.nle (.a v0 k1) (.a v1 k1)) f0 f1 f2 [1606938044258990276935758667249326548868185385824414942167038,1766847064778384331115793041610201172089967083758398922855807604243824640] g (dmI (((s%65536)+(s/65536))-1) 65534) (dmI (s-1) 65534) (dmI s 65535) rfl) fun g=>m4_ c (.nle (.a v1 k1) (.a v0 k1)) f1 f0 f2 [1684996666696914987166689836735301825266267872391177821691082506238,1684996666698447482707555725594989400289204306373519981471926845440] g (dmI (s-1) 65534) (dmI (((s%65536)+(s/65536))-1) 65534) (dmI s 65535) rfl
theorem q134 {s t u:Int} :(s+t)+u=s+(t+u):=geq (fun g=>l1_ [s,t,u] (.nle (.a (.a v0 v1) v2) (.a v0 (.a v1 v2))) [64] g rfl) fun g=>l1_ [s,t,u] (.nle (.a v0 (.a v1 v2)) (.a (.a v0 v1) v2)) [64] g rfl
theorem q135 {s t u:Int} (h0:(0≤s)∧(s<t)) (h1:0≤u):0≤u+s:=gle fun g=>l3_ [s,u] (.le k0 v0) (.le k0 v1) (.nle k0 (.a v1 v0)) [266304] h0.1 h1 g rfl
theorem q136 {s:Int} (h0:(0≤s)∧(s<256)):s≤255:=gle fun g=>l2_ [s] (.lt v0 (.k 256)) (.nle v0 (.k 255)) [4160] h0.2 g rfl
theorem q137 {s t u:Int} (h0:(0≤s)∧(s<t)) (h1:u≤255*t):u+s<t*256:=glt fun g=>l3_ [s,t,u] (.lt v0 v1) (.le v2 (.m 255 v1)) (.nlt (.a v2 v0) (.r v1 256)) [266304] h0.2 h1 g rfl
theorem q138  :(0:Nat)<(256:Nat):=gnlt fun g=>l1_ [] (.nlt k0 (.k 256)) [64] g rfl
theorem q139 {s:Nat} :(0:Int)≤(2*(s:Int)):=gle fun g=>l2_ [s] (.nle k0 (.m 2 v0)) (.le k0 v0) [65,262208] g (nnn s) rfl
theorem q140 {s t:Nat} (h0:(2*s)+1<t):(2*(s:Int))<(t:Int):=glt fun g=>l2_ [s,t] (.lt (.a (.m 2 v0) k1) v1) (.nlt (.m 2 v0) v1) [4160] (nlt h0) g rfl
theorem q141 {s:Nat} :0≤((2*(s:Int))+1):=gle fun g=>l2_ [s] (.nle k0 (.a (.m 2 v0) k1)) (.le k0 v0) [65,262208] g (nnn s) rfl
theorem q142 {s t:Nat} (h0:(2*s)+1<t):((2*(s:Int))+1)<(t:Int):=glt fun g=>l2_ [s,t] (.lt (.a (.m 2 v0) k1) v1) (.nlt (.a (.m 2 v0) k1) v1) [4160] (nlt h0) g rfl
theorem q143 {s t:Int} (h0:(0≤s)∧(s<256)) (h1:(0≤t)∧(t<256)):(0≤(s*256)+t)∧((s*256)+t≤65535):=⟨gle fun g1=>m3_ [s,t] (.le k0 v0) (.le k0 v1) (.nle k0 (.a (.r v0 256) v1)) [1152922604386910208] h0.1 h1.1 g1 rfl,gle fun g1=>m3_ [s,t] (.lt v0 (.k 256)) (.lt v1 (.k 256)) (.nle (.a (.r v0 256) v1) (.k 65535)) [1152922604386910208] h0.2 h1.2 g1 rfl⟩
theorem q144 {s:Int} (h0:0≤s):0≤s:=gle fun g=>l2_ [s] (.le k0 v0) (.nle k0 v0) [4160] h0 g rfl
theorem q145 {s t:Nat} (h0:2*(s+1)≤t):2*s≤t:=gnle fun g=>l2_ [s,t] (.le (.m 2 (.a v0 k1)) v1) (.nle (.m 2 v0) v1) [4160] (nle h0) g rfl
theorem q146 {s t:Nat} (h0:2*(s+1)≤t):(2*s)+1<t:=gnlt fun g=>l2_ [s,t] (.le (.m 2 (.a v0 k1)) v1) (.nlt (.a (.m 2 v0) k1) v1) [4160] (nle h0) g rfl
theorem q147 {s t u:Nat} (h0:s=t) (h1:2*(u+1)≤s):(2*u)+1<t:=gnlt fun g=>l3_ [s,t,u] (.eq v0 v1) (.le (.m 2 (.a v2 k1)) v0) (.nlt (.a (.m 2 v2) k1) v1) [17039424] (neq h0) (nle h1) g rfl
theorem q148 {s t:Int} {u:Nat} {v w:Int} (h0:(0≤s)∧(s≤(t+(131070*(u:Int))))) (h1:(0≤v)∧(v≤65535)) (h2:(0≤w)∧(w≤65535)):(0≤(((s+65535)-v)+w))∧((((s+65535)-v)+w)≤(t+(131070*((u:Int)+1)))):=⟨gle fun g1=>l4_ [s,v,w] (.le k0 v0) (.le v1 (.k 65535)) (.le k0 v2) (.nle k0 (.a (.s (.a v0 (.k 65535)) v1) v2)) [17043520] h0.1 h1.2 h2.1 g1 rfl,gle fun g1=>l4_ [s,t,(u:Int),v,w] (.le v0 (.a v1 (.m 131070 v2))) (.le k0 v3) (.le v4 (.k 65535)) (.nle (.a (.s (.a v0 (.k 65535)) v3) v4) (.a v1 (.m 131070 (.a v2 k1)))) [17043520] h0.2 h1.1 h2.2 g1 rfl⟩
theorem q149 {s:Nat} :2*(s/2)≤s:=gnle fun g=>l2_ [(((s/2):Nat):Int),s,(((s%2):Nat):Int)] (.nle (.m 2 v0) v1) (.an (.eq (.a (.m 2 v0) v2) v1) (.an (.le k0 v2) (.lt v2 k2))) [16781376] g (dmN s 1) rfl
theorem q150 {s:Int} (h0:s≤65535):(0:Int)≤65535-s:=gle fun g=>l2_ [s] (.le v0 (.k 65535)) (.nle k0 (.s (.k 65535) v0)) [4160] h0 g rfl
theorem q151 {s:Int} (h0:(0≤s)∧(s≤65535)):((0:Int)≤65535-s)∧(65535-s≤65535):=⟨gle fun g1=>l2_ [s] (.le v0 (.k 65535)) (.nle k0 (.s (.k 65535) v0)) [4160] h0.2 g1 rfl,gle fun g1=>l2_ [s] (.le k0 v0) (.nle (.s (.k 65535) v0) (.k 65535)) [4160] h0.1 g1 rfl⟩
theorem q156  :(-1:Int)<(0:Int):=glt fun g=>l1_ [] (.nlt (.k (-1)) k0) [64] g rfl
theorem q157 {s:Int} (h0:s=0):(0≤s)∧(s<256):=⟨gle fun g1=>l2_ [s] (.eq v0 k0) (.nle k0 v0) [266240] h0 g1 rfl,glt fun g1=>l2_ [s] (.eq v0 k0) (.nlt v0 (.k 256)) [262208] h0 g1 rfl⟩
theorem q158 {s t:Nat} {u:Int} (h0:s=t) (h1:u≤((t:Int)+1)):u≤((s:Int)+1):=gle fun g=>l3_ [s,t,u] (.eq v0 v1) (.le v2 (.a v1 k1)) (.nle v2 (.a v0 k1)) [17043456] (neq h0) h1 g rfl
theorem q159 {s:Int} {t:Nat} (h0:s≤((t:Int)+1)):s≤((t:Int)+1):=gle fun g=>l2_ [s,t] (.le v0 (.a v1 k1)) (.nle v0 (.a v1 k1)) [4160] h0 g rfl
theorem q160 {s:Int} :(s+2)-s≤2:=gle fun g=>l1_ [s] (.nle (.s (.a v0 k2) v0) k2) [64] g rfl
theorem q161 {s t:Int} (h0:(0≤s)∧(s<t)) (h1:t≤65536):s≤65535:=gle fun g=>l3_ [s,t] (.lt v0 v1) (.le v1 (.k 65536)) (.nle v0 (.k 65535)) [266304] h0.2 h1 g rfl
theorem q162  :(0:Int)≤(10:Int):=gle fun g=>l1_ [] (.nle k0 (.k 10)) [64] g rfl
theorem q163 {s:Int} (h0:20≤s):10+2≤s:=gle fun g=>l2_ [s] (.le (.k 20) v0) (.nle (.a (.k 10) k2) v0) [4160] h0 g rfl
theorem q164 {s t u:Int} (h0:(0≤s)∧((0≤t)∧((s+t)+2≤u))):0≤s+t:=gle fun g=>l3_ [s,t] (.le k0 v0) (.le k0 v1) (.nle k0 (.a v0 v1)) [266304] h0.1 h0.2.1 g rfl
theorem q165 {s t u:Int} (h0:(0≤s)∧((0≤t)∧((s+t)+2≤u))):(s+t)+2≤u:=gle fun g=>l2_ [s,t,u] (.le (.a (.a v0 v1) k2) v2) (.nle (.a (.a v0 v1) k2) v2) [4160] h0.2.2 g rfl
theorem q166 {s:Int} :s≤s+2:=gle fun g=>l1_ [s] (.nle v0 (.a v0 k2)) [64] g rfl
theorem q167 {s:Int} :2=(s+2)-s:=geq (fun g=>l1_ [s] (.nle k2 (.s (.a v0 k2) v0)) [64] g rfl) fun g=>l1_ [s] (.nle (.s (.a v0 k2) v0) k2) [64] g rfl
theorem q168 {s t:Int} (h0:0≤s) (h1:(0≤t)∧(t<256)):0≤(s*256)+t:=gle fun g=>m3_ [s,t] (.le k0 v0) (.le k0 v1) (.nle k0 (.a (.r v0 256) v1)) [1152922604386910208] h0 h1.1 g rfl
theorem q169 {s t:Int} (h0:(0≤s)∧(s<256)):(((t*256)+s)+1)≤(t+1)*256:=gle fun g=>l2_ [s,t] (.lt v0 (.k 256)) (.nle (.a (.a (.r v1 256) v0) k1) (.r (.a v1 k1) 256)) [4160] h0.2 g rfl
theorem q170 {s:Nat} (h0:s≤30):s≤31:=gnle fun g=>l2_ [s] (.le v0 (.k 30)) (.nle v0 (.k 31)) [4160] (nle h0) g rfl
theorem q171 {s:Int} (h0:0≤s):0≤(s%65536)+(s/65536):=gle fun g=>m3_ [s,(s%65536),(s/65536)] (.le k0 v0) (.nle k0 (.a v1 v2)) (.an (.eq (.a (.m 65536 v2) v1) v0) (.an (.le k0 v1) (.lt v1 (.k 65536)))) [1208925891672223213748222,1329227995784915872903807060281393152] h0 g (dmI s 65535) rfl
theorem q172 {s:Int} (h0:s<4294967296):(s%65536)+(s/65536)<4294967296:=glt fun g=>m3_ [s,(s%65536),(s/65536)] (.lt v0 (.k 4294967296)) (.nlt (.a v1 v2) (.k 4294967296)) (.an (.eq (.a (.m 65536 v2) v1) v0) (.an (.le k0 v1) (.lt v1 (.k 65536)))) [1224979098645889022,1393796574908163946345982392040522595172352] h0 g (dmI s 65535) rfl
theorem q173 {s:Int} (h0:0≤s) (h1:¬(s/65536=0)):65535<s:=let c:List Int:=[s,(s/65536),(s%65536)];let f0:LF:=.an (.eq (.a (.m 65536 v1) v2) v0) (.an (.le k0 v2) (.lt v2 (.k 65536)));glt fun g=>(ltgt h1).elim (fun a=>m3_ c (.le k0 v0) f0 (.lt v1 k0) [87112285933027897246853281825533973233664] h0 (dmI s 65535) a rfl) fun a=>m3_ c (.nlt (.k 65535) v0) f0 (.lt k0 v1) [87112285931760247855549719118261349515264] g (dmI s 65535) a rfl
theorem q174 {s:Int} (h0:s/65536=0):s≤65535:=gle fun g=>m3_ [(s/65536),s,(s%65536)] (.eq v0 k0) (.nle v1 (.k 65535)) (.an (.eq (.a (.m 65536 v0) v2) v1) (.an (.le k0 v2) (.lt v2 (.k 65536)))) [1393796574909431596946211774363592623652864] h0 g (dmI s 65535) rfl
theorem q175 {s:Nat} {t u:Int} :(s:Int)=(((t+u)+(s:Int))-(t+u)):=geq (fun g=>l1_ [(s:Int),t,u] (.nle v0 (.s (.a (.a v1 v2) v0) (.a v1 v2))) [64] g rfl) fun g=>l1_ [t,u,(s:Int)] (.nle (.s (.a (.a v0 v1) v2) (.a v0 v1)) v2) [64] g rfl
theorem q176 {s:Int} {t:Nat} (h0:0≤s) (h1:¬((t:Int)<s+2)):(0≤s+1)∧(s+1<(t:Int)):=⟨gle fun g1=>l2_ [s] (.le k0 v0) (.nle k0 (.a v0 k1)) [4160] h0 g1 rfl,glt fun g1=>l2_ [(t:Int),s] (.nlt v0 (.a v1 k2)) (.nlt (.a v1 k1) v0) [4160] h1 g1 rfl⟩
theorem q177 {s:Int} :(s+4)-(s+2)≤30:=gle fun g=>l1_ [s] (.nle (.s (.a v0 k4) (.a v0 k2)) (.k 30)) [64] g rfl
theorem q178 {s t:Nat} (h0:s<t):(Int.toNat (8*(((t:Int)-1)-(s:Int))))=(8*((t-1)-s)):=let c:List Int:=[(((Int.toNat (8*(((t:Int)-1)-(s:Int)))):Nat):Int),((((t-1)-s):Nat):Int),t,s,(((t-1):Nat):Int)];let f0:LF:=.nle v0 (.m 8 v1);let f1:LF:=.an (.le k0 (.m 8 (.s (.s v2 k1) v3))) (.eq v0 (.m 8 (.s (.s v2 k1) v3)));let f2:LF:=.an (.le k1 v2) (.eq v4 (.s v2 k1));let f3:LF:=.an (.le v3 v4) (.eq v1 (.s v4 v3));let f4:LF:=.an (.lt v4 v3) (.eq v1 k0);let f5:LF:=.le k0 v3;let f6:LF:=.an (.lt v2 k1) (.eq v4 k0);let f7:LF:=.an (.lt (.m 8 (.s (.s v2 k1) v3)) k0) (.eq v0 k0);let f8:LF:=.nle (.m 8 v1) v0;let f9:LF:=.le k0 v0;gneq (fun g=>(tnE (8*(((t:Int)-1)-(s:Int)))).elim (fun a=>(sbE t (1:Nat)).elim (fun b=>(sbE (t-1) s).elim (fun d=>l4_ c f0 f1 f2 f3 [262215,73787257769814917184] g a b d rfl) fun d=>l3_ c f1 f2 f4 [71,285873023221824] a b d rfl) fun b=>l3_ c f5 f1 f6 [4103,68719480896] (nnn s) a b rfl) fun a=>l3_ c f0 (.le k0 v1) f7 [16777287,262208] g (nnn ((t-1)-s)) a rfl) fun g=>(sbE (t-1) s).elim (fun a=>(tnE (8*(((t:Int)-1)-(s:Int)))).elim (fun b=>(sbE t (1:Nat)).elim (fun d=>l4_ c f8 f3 f1 f2 [144119586124464192] g a b d rfl) fun d=>l5_ c f8 f5 f9 f3 f6 [2251808403914816] g (nnn s) (nnn (Int.toNat (8*(((t:Int)-1)-(s:Int))))) a d rfl) fun b=>l2_ c (.lt v3 v2) f7 [4103,4160] (nlt h0) b rfl) fun a=>l3_ c f8 f9 f4 [134221888] g (nnn (Int.toNat (8*(((t:Int)-1)-(s:Int))))) a rfl
theorem q179 {s:Nat} :(Int.toNat (8*(s:Int)))=8*s:=let c:List Int:=[(((Int.toNat (8*(s:Int))):Nat):Int),s];let f0:LF:=.an (.le k0 (.m 8 v1)) (.eq v0 (.m 8 v1));let f1:LF:=.an (.lt (.m 8 v1) k0) (.eq v0 k0);let f2:LF:=.nle (.m 8 v1) v0;gneq (fun g=>(tnE (8*(s:Int))).elim (fun a=>l2_ c (.nle v0 (.m 8 v1)) f0 [262208] g a rfl) fun a=>l2_ c (.le k0 v1) f1 [4103,4160] (nnn s) a rfl) fun g=>(tnE (8*(s:Int))).elim (fun a=>l2_ c f2 f0 [16777280] g a rfl) fun a=>l2_ c f2 f1 [4103,1073745927,4160] g a rfl
theorem q180 {s:Nat} (h0:s≤16):(-1000000≤(s:Int))∧((s:Int)≤1000000):=⟨gle fun g1=>l2_ [(s:Int)] (.nle (.k (-1000000)) v0) (.le k0 v0) [4160] g1 (nnn s) rfl,gle fun g1=>l2_ [(s:Int)] (.le v0 (.k 16)) (.nle v0 (.k 1000000)) [4160] (nle h0) g1 rfl⟩
theorem q181 {s t:Nat} (h0:(s:Int)<(t:Int)):(0:Int)≤(8*(((t:Int)-1)-(s:Int))):=gle fun g=>l2_ [s,t] (.lt v0 v1) (.nle k0 (.m 8 (.s (.s v1 k1) v0))) [4103,4160] h0 g rfl
theorem q182 {s:Nat} (h0:s%2=0):(Int.toNat (((s:Int)+1)/2))=s/2:=let c:List Int:=[(((s%2):Nat):Int),(((Int.toNat (((s:Int)+1)/2)):Nat):Int),(((s/2):Nat):Int),s,(((s:Int)+1)/2),(((s:Int)+1)%2)];let f0:LF:=.an (.eq (.a (.m 2 v2) v0) v3) (.an (.le k0 v0) (.lt v0 k2));let f1:LF:=.an (.eq (.a (.m 2 v4) v5) (.a v3 k1)) (.an (.le k0 v5) (.lt v5 k2));let f2:LF:=.an (.le k0 v4) (.eq v1 v4);let f3:LF:=.an (.lt v4 k0) (.eq v1 k0);let f4:LF:=.nle v2 v1;gneq (fun g=>(tnE (((s:Int)+1)/2)).elim (fun a=>l5_ c (.eq v0 k0) (.nle v1 v2) f0 f1 f2 [1153202980657299521,19342813113834066812076096] (neq h0) g (dmN s 1) (dmI ((s:Int)+1) 1) a rfl) fun a=>l4_ c f0 (.le k0 v2) f1 f3 [2323861807917432896] (dmN s 1) (nnn (s/2)) (dmI ((s:Int)+1) 1) a rfl) fun g=>(tnE (((s:Int)+1)/2)).elim (fun a=>l4_ c f4 f0 f1 f2 [9444750984535863201920] g (dmN s 1) (dmI ((s:Int)+1) 1) a rfl) fun a=>l4_ c f4 f0 f1 f3 [9447056827545076895872] g (dmN s 1) (dmI ((s:Int)+1) 1) a rfl
theorem q183 {s:Nat} (h0:s%2=0):¬(((s:Int)%2)=1):=fun g=>l4_ [(((s%2):Nat):Int),((s:Int)%2),(((s/2):Nat):Int),s,((s:Int)/2)] (.eq v0 k0) (.eq v1 k1) (.an (.eq (.a (.m 2 v2) v0) v3) (.an (.le k0 v0) (.lt v0 k2))) (.an (.eq (.a (.m 2 v4) v1) v3) (.an (.le k0 v1) (.lt v1 k2))) [18014467245736001,73786976363574722561,4160] (neq h0) g (dmN s 1) (dmI (s:Int) 1) rfl
theorem q184 {s:Nat} (h0:s≤300):(((0:Int)≤(0:Int))∧((0:Int)≤(1000000:Int)))∧(((-1000000≤(s:Int))∧((s:Int)≤1000000))∧(((0:Int)<(2:Int))∧((2:Int)≤(1000000:Int)))):=⟨⟨gle fun g2=>l1_ [] (.nle k0 k0) [64] g2 rfl,gle fun g2=>l1_ [] (.nle k0 (.k 1000000)) [64] g2 rfl⟩,⟨⟨gle fun g3=>l2_ [(s:Int)] (.nle (.k (-1000000)) v0) (.le k0 v0) [4160] g3 (nnn s) rfl,gle fun g3=>l2_ [(s:Int)] (.le v0 (.k 300)) (.nle v0 (.k 1000000)) [4160] (nle h0) g3 rfl⟩,⟨glt fun g3=>l1_ [] (.nlt k0 k2) [64] g3 rfl,gle fun g3=>l1_ [] (.nle k2 (.k 1000000)) [64] g3 rfl⟩⟩⟩
theorem q185 {s t:Nat} (h0:s<t/2):(2*s)+1<t:=gnlt fun g=>l3_ [s,(((t/2):Nat):Int),t,(((t%2):Nat):Int)] (.lt v0 v1) (.nlt (.a (.m 2 v0) k1) v2) (.an (.eq (.a (.m 2 v1) v3) v2) (.an (.le k0 v3) (.lt v3 k2))) [1074008192] (nlt h0) g (dmN t 1) rfl
theorem q186 {s t u:Nat} (h0:s=t) (h1:(2*u)+1<s):(2*(u:Int))<(t:Int):=glt fun g=>l3_ [s,t,u] (.eq v0 v1) (.lt (.a (.m 2 v2) k1) v0) (.nlt (.m 2 v2) v1) [17039424] (neq h0) (nlt h1) g rfl
theorem q187 {s t u:Nat} (h0:s=t) (h1:(2*u)+1<s):((2*(u:Int))+1)<(t:Int):=glt fun g=>l3_ [s,t,u] (.eq v0 v1) (.lt (.a (.m 2 v2) k1) v0) (.nlt (.a (.m 2 v2) k1) v1) [17039424] (neq h0) (nlt h1) g rfl
theorem q188 {s t:Nat} (h0:(2*s)+1<t):((0:Int)≤(2*(s:Int)))∧((2*(s:Int))<(t:Int)):=let c:List Int:=[s,t];⟨gle fun g1=>l2_ c (.nle k0 (.m 2 v0)) (.le k0 v0) [65,262208] g1 (nnn s) rfl,glt fun g1=>l2_ c (.lt (.a (.m 2 v0) k1) v1) (.nlt (.m 2 v0) v1) [4160] (nlt h0) g1 rfl⟩
theorem q189 {s t:Nat} (h0:(2*s)+1<t):(0≤((2*(s:Int))+1))∧(((2*(s:Int))+1)<(t:Int)):=let c:List Int:=[s,t];⟨gle fun g1=>l2_ c (.nle k0 (.a (.m 2 v0) k1)) (.le k0 v0) [65,262208] g1 (nnn s) rfl,glt fun g1=>l2_ c (.lt (.a (.m 2 v0) k1) v1) (.nlt (.a (.m 2 v0) k1) v1) [4160] (nlt h0) g1 rfl⟩
theorem q190 {s:Nat} {t u:Int} (h0:s≤300) (h1:0≤t) (h2:(0≤u)∧(u≤((65535-t)+(131070*(((s/2):Nat):Int))))):u<4294967296:=glt fun g=>m5_ [s,t,u,(((s/2):Nat):Int),(((s%2):Nat):Int)] (.le v0 (.k 300)) (.le k0 v1) (.le v2 (.a (.s (.k 65535) v1) (.m 131070 v3))) (.nlt v2 (.k 4294967296)) (.an (.eq (.a (.m 2 v3) v4) v0) (.an (.le k0 v4) (.lt v4 k2))) [1208926972537233293311997,1461501637332232146199469748589186827815726612480] (nle h0) h1 h2.2 g (dmN s 1) rfl
theorem q191 {s t:Int} (h0:s%2=0) (h1:t%2=0):((Int.toNat (t-s))%2)=0:=let c:List Int:=[(s%2),(t%2),((((Int.toNat (t-s))%2):Nat):Int),(s/2),s,(t/2),t,((((Int.toNat (t-s))/2):Nat):Int),(((Int.toNat (t-s)):Nat):Int)];let f0:LF:=.nle v2 k0;let f1:LF:=.an (.eq (.a (.m 2 v7) v2) v8) (.an (.le k0 v2) (.lt v2 k2));gneq (fun g=>(tnE (t-s)).elim (fun a=>l7_ c (.eq v0 k0) (.eq v1 k0) f0 (.an (.eq (.a (.m 2 v3) v0) v4) (.an (.le k0 v0) (.lt v0 k2))) (.an (.eq (.a (.m 2 v5) v1) v6) (.an (.le k0 v1) (.lt v1 k2))) f1 (.an (.le k0 (.s v6 v4)) (.eq v8 (.s v6 v4))) [20769187453482197414932416743870465,85070916328016436880622030378395242497,4160] h0 h1 g (dmI s 1) (dmI t 1) (dmN (Int.toNat (t-s)) 1) a rfl) fun a=>l3_ c f0 f1 (.an (.lt (.s v6 v4) k0) (.eq v8 k0)) [4398046515265,18014467245735937,4160] g (dmN (Int.toNat (t-s)) 1) a rfl) fun g=>l2_ c (.nle k0 v2) (.le k0 v2) [4160] g (nnn ((Int.toNat (t-s))%2)) rfl
theorem q192 {s t:Int} (h0:s-t≤300):Int.toNat (s-t)≤300:=let c:List Int:=[s,t,(((Int.toNat (s-t)):Nat):Int)];let f0:LF:=.nle v2 (.k 300);gnle fun g=>(tnE (s-t)).elim (fun a=>l3_ c (.le (.s v0 v1) (.k 300)) f0 (.an (.le k0 (.s v0 v1)) (.eq v2 (.s v0 v1))) [16781376] h0 g a rfl) fun a=>l2_ c f0 (.an (.lt (.s v0 v1) k0) (.eq v2 k0)) [262208] g a rfl
theorem q193 {s t:Int} (h0:(0≤s)∧(s<t)) (h1:t≤65536):(0≤s)∧(s≤65535):=⟨gle fun g1=>l2_ [s] (.le k0 v0) (.nle k0 v0) [4160] h0.1 g1 rfl,gle fun g1=>l3_ [s,t] (.lt v0 v1) (.le v1 (.k 65536)) (.nle v0 (.k 65535)) [266304] h0.2 h1 g1 rfl⟩
theorem q194 {s:Int} :(s+2)-s≤30:=gle fun g=>l1_ [s] (.nle (.s (.a v0 k2) v0) (.k 30)) [64] g rfl
theorem q195 {s:Nat} (h0:20≤s):((0:Int)≤(0:Int))∧(0<(s:Int)):=⟨gle fun g1=>l1_ [] (.nle k0 k0) [64] g1 rfl,glt fun g1=>l2_ [(s:Int)] (.le (.k 20) v0) (.nlt k0 v0) [4160] (nle h0) g1 rfl⟩
theorem q196 {s:Nat} (h0:20≤s):12≤(s:Int):=gle fun g=>l2_ [s] (.le (.k 20) v0) (.nle (.k 12) v0) [4160] (nle h0) g rfl
theorem q197 {s:Nat} {t:Int} :(s:Int)=((t+(s:Int))-t):=geq (fun g=>l1_ [(s:Int),t] (.nle v0 (.s (.a v1 v0) v1)) [64] g rfl) fun g=>l1_ [t,(s:Int)] (.nle (.s (.a v0 v1) v0) v1) [64] g rfl
theorem q198 {s:Nat} {t:Int} (h0:s≤290):((t+(s:Int))-t)≤290:=gle fun g=>l2_ [s,t] (.le v0 (.k 290)) (.nle (.s (.a v1 v0) v1) (.k 290)) [4160] (nle h0) g rfl
theorem q199 {s:Nat} (h0:20≤s):20≤(s:Int):=gle fun g=>l2_ [s] (.le (.k 20) v0) (.nle (.k 20) v0) [4160] (nle h0) g rfl
theorem q200 {s t:Int} (h0:0≤s) (h1:s<t):s.toNat<t.toNat:=let c:List Int:=[s,t,↑s.toNat,↑t.toNat];let f0:LF:=.lt v0 v1;let f1:LF:=.le k0 v0;gnlt fun g=>(tnE s).elim (fun a=>(tnE t).elim (fun b=>l4_ c f0 (.nlt v2 v3) (.an (.le k0 v0) (.eq v2 v0)) (.an (.le k0 v1) (.eq v3 v1)) [281474993492032] h1 g a b rfl) fun b=>l3_ c f1 f0 (.an (.lt v1 k0) (.eq v3 k0)) [266304] h0 h1 b rfl) fun a=>l2_ c f1 (.an (.lt v0 k0) (.eq v2 k0)) [4160] h0 a rfl
theorem q201 {s:Int} :s≤s+1:=gle fun g=>l1_ [s] (.nle v0 (.a v0 k1)) [64] g rfl
theorem q202 {s:Int} :(Int.toNat ((s+1)-s))=1:=let c:List Int:=[(((Int.toNat ((s+1)-s)):Nat):Int),s];let f0:LF:=.an (.le k0 (.s (.a v1 k1) v1)) (.eq v0 (.s (.a v1 k1) v1));let f1:LF:=.an (.lt (.s (.a v1 k1) v1) k0) (.eq v0 k0);gneq (fun g=>(tnE ((s+1)-s)).elim (fun a=>l2_ c (.nle v0 k1) f0 [262208] g a rfl) fun a=>l1_ c f1 [64] a rfl) fun g=>(tnE ((s+1)-s)).elim (fun a=>l2_ c (.nle k1 v0) f0 [16777280] g a rfl) fun a=>l1_ c f1 [64] a rfl
theorem q203 {s:Int} {t:Nat} (h0:s≤(t:Int)) (h1:20≤s):20≤t:=gnle fun g=>l3_ [s,t] (.le v0 v1) (.le (.k 20) v0) (.nle (.k 20) v1) [266304] h0 h1 g rfl
theorem q204 {s:Int} {t:Nat} {u:Int} (h0:(8≤s)∧((s+(t:Int))≤u)):0≤s:=gle fun g=>l2_ [s] (.le k8 v0) (.nle k0 v0) [4160] h0.1 g rfl
theorem q205 {s t:Int} {u:Nat} (h0:((s=2)∧((12≤t)∧((t+(u:Int))≤20)))∨((s=10)∧((8≤t)∧((t+(u:Int))≤40)))):u≤290:=let c:List Int:=[u,t];let f0:LF:=.nle v0 (.k 290);gnle fun g=>h0.elim (fun a=>l3_ c f0 (.le (.k 12) v1) (.le (.a v1 v0) (.k 20)) [266304] g a.2.1 a.2.2 rfl) fun a=>l3_ c f0 (.le k8 v1) (.le (.a v1 v0) (.k 40)) [266304] g a.2.1 a.2.2 rfl
theorem q206 {s t:Int} {u:Nat} (h0:((s=2)∧((12≤t)∧((t+(u:Int))≤20)))∨((s=10)∧((8≤t)∧((t+(u:Int))≤40)))) (h1:s=2):12≤t:=gle fun g=>h0.elim (fun a=>l2_ [t] (.nle (.k 12) v0) (.le (.k 12) v0) [4160] g a.2.1 rfl) fun a=>l2_ [s] (.eq v0 k2) (.eq v0 (.k 10)) [16777280] h1 a.1 rfl
theorem q207 {s:Int} {t:Nat} {u v w:Int} (h0:(8≤s)∧((s+(t:Int))≤u)) (h1:0≤v) (h2:u≤w):(s+(t:Int))≤w+v:=gle fun g=>l4_ [s,t,u,v,w] (.le (.a v0 v1) v2) (.le k0 v3) (.le v2 v4) (.nle (.a v0 v1) (.a v4 v3)) [17043520] h0.2 h1 h2 g rfl
theorem q208 {s:Int} {t:Nat} {u:Int} {v:Nat} (h0:s≤(t:Int)) (h1:(8≤u)∧((u+(v:Int))≤s)):(u+(v:Int))≤(t:Int):=gle fun g=>l3_ [s,t,u,v] (.le v0 v1) (.le (.a v2 v3) v0) (.nle (.a v2 v3) v1) [266304] h0 h1.2 g rfl
theorem q209 {s t u:Int} (h0:0≤s) (h1:20≤t) (h2:t≤u):12≤u+s:=gle fun g=>l4_ [s,t,u] (.le k0 v0) (.le (.k 20) v1) (.le v1 v2) (.nle (.k 12) (.a v2 v0)) [17043520] h0 h1 h2 g rfl
theorem q210 {s t:Int} {u:Nat} {v:Int} (h0:(s+2≤t)∨((t+(u:Int))≤s)):(((v+t)+(u:Int))≤v+s)∨((v+s)+2≤v+t):=gor fun g g'=>h0.elim (fun a=>l2_ [v,s,t] (.nle (.a (.a v0 v1) k2) (.a v0 v2)) (.le (.a v1 k2) v2) [4160] g' a rfl) fun a=>l2_ [v,t,(u:Int),s] (.nle (.a (.a v0 v1) v2) (.a v0 v3)) (.le (.a v1 v2) v3) [4160] g a rfl
theorem q211 {s t:Int} (h0:0≤s):t≤t+s:=gle fun g=>l2_ [s,t] (.le k0 v0) (.nle v1 (.a v1 v0)) [4160] h0 g rfl
theorem q212 {s t:Int} (h0:s%2=0) (h1:t%2=0):(t+s)%2=0:=let c:List Int:=[(s%2),(t%2),((t+s)%2),(s/2),s,(t/2),t,((t+s)/2)];let f0:LF:=.an (.eq (.a (.m 2 v7) v2) (.a v6 v4)) (.an (.le k0 v2) (.lt v2 k2));geq (fun g=>l6_ c (.eq v0 k0) (.eq v1 k0) (.nle v2 k0) (.an (.eq (.a (.m 2 v3) v0) v4) (.an (.le k0 v0) (.lt v0 k2))) (.an (.eq (.a (.m 2 v5) v1) v6) (.an (.le k0 v1) (.lt v1 k2))) f0 [19342886900814760754020417,324597781821014778101443523248129,4160] h0 h1 g (dmI s 1) (dmI t 1) (dmI (t+s) 1) rfl) fun g=>l2_ c (.nle k0 v2) f0 [17043520] g (dmI (t+s) 1) rfl
theorem q213 {s:Nat} {t u:Int} {v:Nat} (h0:(s%2=0)∨(((t+u)+(s:Int))=(v:Int))):(s%2=0)∨(((t+u)+(s:Int))=(v:Int)):=let c:List Int:=[(((s%2):Nat):Int),t,u,s,v];let f0:LF:=.eq (.a (.a v1 v2) v3) v4;gor fun g g'=>(ltgt (nne g)).elim (fun a=>l2_ c (.le k0 v0) (.lt v0 k0) [4160] (nnn (s%2)) a rfl) fun a=>h0.elim (fun b=>l2_ c (.lt k0 v0) (.eq v0 k0) [4160] a (neq b) rfl) fun b=>(ltgt g').elim (fun d=>l2_ c f0 (.lt (.a (.a v1 v2) v3) v4) [266240] b d rfl) fun d=>l2_ c f0 (.lt v4 (.a (.a v1 v2) v3)) [262208] b d rfl
theorem q214 {s t:Int} {u:Nat} {v:Int} (h0:(s+2≤t)∨((t+(u:Int))≤s)):((v+s)+2≤v+t)∨(((v+t)+(u:Int))≤v+s):=gor fun g g'=>h0.elim (fun a=>l2_ [v,s,t] (.nle (.a (.a v0 v1) k2) (.a v0 v2)) (.le (.a v1 k2) v2) [4160] g a rfl) fun a=>l2_ [v,t,(u:Int),s] (.nle (.a (.a v0 v1) v2) (.a v0 v3)) (.le (.a v1 v2) v3) [4160] g' a rfl
theorem q215 {s t u:Int} (h0:(0≤s)∧(t=u)) (h1:s<0):False:=l2_ [s] (.le k0 v0) (.lt v0 k0) [4160] h0.1 h1 rfl
theorem q216 {s:Int} (h0:¬(s<0)):0≤s:=gle fun g=>l2_ [s] (.nlt v0 k0) (.nle k0 v0) [4160] h0 g rfl
theorem q217 {s t:Int} (h0:0<s) (h1:s≤t):s.toNat≤t.toNat:=let c:List Int:=[s,t,↑s.toNat,↑t.toNat];let f0:LF:=.le v0 v1;let f1:LF:=.lt k0 v0;gnle fun g=>(tnE s).elim (fun a=>(tnE t).elim (fun b=>l4_ c f0 (.nle v2 v3) (.an (.le k0 v0) (.eq v2 v0)) (.an (.le k0 v1) (.eq v3 v1)) [281474993492032] h1 g a b rfl) fun b=>l3_ c f1 f0 (.an (.lt v1 k0) (.eq v3 k0)) [266304] h0 h1 b rfl) fun a=>l2_ c f1 (.an (.lt v0 k0) (.eq v2 k0)) [4160] h0 a rfl
theorem q218 {s:Int} {t:Nat} (h0:s≤(t:Int)):s.toNat≤t:=let c:List Int:=[s,t,↑s.toNat];let f0:LF:=.nle v2 v1;gnle fun g=>(tnE s).elim (fun a=>l3_ c (.le v0 v1) f0 (.an (.le k0 v0) (.eq v2 v0)) [16781376] h0 g a rfl) fun a=>l3_ c f0 (.le k0 v1) (.an (.lt v0 k0) (.eq v2 k0)) [16781376] g (nnn t) a rfl
theorem q219 {s t:Int} {u:Nat} (h0:0<s) (h1:s≤t) (h2:(u:Int)=t-s):u=t.toNat-s.toNat:=let c:List Int:=[u,t,s,(((t.toNat-s.toNat):Nat):Int),↑t.toNat,↑s.toNat];let f0:LF:=.eq v0 (.s v1 v2);let f1:LF:=.nle v0 v3;let f2:LF:=.an (.le k0 v1) (.eq v4 v1);let f3:LF:=.an (.le k0 v2) (.eq v5 v2);let f4:LF:=.an (.le v5 v4) (.eq v3 (.s v4 v5));let f5:LF:=.an (.lt v4 v5) (.eq v3 k0);let f6:LF:=.lt k0 v2;let f7:LF:=.an (.lt v2 k0) (.eq v5 k0);let f8:LF:=.an (.lt v1 k0) (.eq v4 k0);let f9:LF:=.nle v3 v0;let f10:LF:=.le v2 v1;gneq (fun g=>(tnE t).elim (fun a=>(tnE s).elim (fun b=>(sbE t.toNat s.toNat).elim (fun d=>l5_ c f0 f1 f2 f3 f4 [4722366764413341663296] h2 g a b d rfl) fun d=>l5_ c f0 f1 f2 f3 f5 [4723519685917948510272] h2 g a b d rfl) fun b=>l2_ c f6 f7 [4160] h0 b rfl) fun a=>l5_ c f6 f0 f1 (.le k0 v3) f8 [69809999936] h0 h2 g (nnn (t.toNat-s.toNat)) a rfl) fun g=>(sbE t.toNat s.toNat).elim (fun a=>(tnE t).elim (fun b=>(tnE s).elim (fun d=>l5_ c f0 f9 f4 f2 f3 [4722366764345695932416] h2 g a b d rfl) fun d=>l5_ c f0 f9 f4 f2 f7 [4723519685850302779392] h2 g a b d rfl) fun b=>l3_ c f6 f10 f8 [266304] h0 h1 b rfl) fun a=>l4_ c f10 f0 f9 f5 [68736516160] h1 h2 g a rfl
theorem q220 {s:Int} (h0:0<s):0<s.toNat:=gnlt fun g=>(tnE s).elim (fun a=>l3_ [s,↑s.toNat] (.lt k0 v0) (.nlt k0 v1) (.an (.le k0 v0) (.eq v1 v0)) [1073745984] h0 g a rfl) fun a=>l2_ [s,↑s.toNat] (.lt k0 v0) (.an (.lt v0 k0) (.eq v1 k0)) [4160] h0 a rfl
theorem q221 {s:Int} {t:Nat} :s≤(s+(t:Int)):=gle fun g=>l2_ [s,t] (.nle v0 (.a v0 v1)) (.le k0 v1) [4160] g (nnn t) rfl
theorem q222 {s t:Int} {u:Nat} {v w x:Int} (h0:2≤s) (h1:¬((t<0)∨(((u:Int)<(t+s)+2)∨((v<w)∧(x=1))))):0<t+s:=glt fun g=>l3_ [s,t] (.le k2 v0) (.nlt v1 k0) (.nlt k0 (.a v1 v0)) [266304] h0 (not_or.mp h1).1 g rfl
theorem q223 {s t:Int} :s+t≤(s+t)+2:=gle fun g=>l1_ [s,t] (.nle (.a v0 v1) (.a (.a v0 v1) k2)) [64] g rfl
theorem q224 {s:Int} {t:Nat} {u v w x:Int} (h0:¬((s<0)∨(((t:Int)<(s+u)+2)∨((v<w)∧(x=1))))):(s+u)+2≤(t:Int):=gle fun g=>l2_ [t,s,u] (.nlt v0 (.a (.a v1 v2) k2)) (.nle (.a (.a v1 v2) k2) v0) [4160] (not_or.mp (not_or.mp h0).2).1 g rfl
theorem q225 {s t:Int} :2=(((s+t)+2)-(s+t)):=geq (fun g=>l1_ [s,t] (.nle k2 (.s (.a (.a v0 v1) k2) (.a v0 v1))) [64] g rfl) fun g=>l1_ [s,t] (.nle (.s (.a (.a v0 v1) k2) (.a v0 v1)) k2) [64] g rfl
theorem q226 {s t:Int} {u:Nat} (h0:((s=2)∧((12≤t)∧((t+(u:Int))≤20)))∨((s=10)∧((8≤t)∧((t+(u:Int))≤40)))):8≤t:=gle fun g=>h0.elim (fun a=>l2_ [t] (.nle k8 v0) (.le (.k 12) v0) [4160] g a.2.1 rfl) fun a=>l2_ [t] (.nle k8 v0) (.le k8 v0) [4160] g a.2.1 rfl
theorem q227 {s:Int} {t:Nat} {u:Int} {v:Nat} (h0:s≤(t:Int)) (h1:(u+(v:Int))≤s):(u+(v:Int))≤(t:Int):=gle fun g=>l3_ [s,t,u,v] (.le v0 v1) (.le (.a v2 v3) v0) (.nle (.a v2 v3) v1) [266304] h0 h1 g rfl
theorem q228 {s:Int} (h0:8≤s):0≤s:=gle fun g=>l2_ [s] (.le k8 v0) (.nle k0 v0) [4160] h0 g rfl
theorem q229 {s:Int} (h0:8≤s):0<s:=glt fun g=>l2_ [s] (.le k8 v0) (.nlt k0 v0) [4160] h0 g rfl
theorem q230 {s t:Int} (h0:0≤s) (h1:0≤t):0≤t+s:=gle fun g=>l3_ [s,t] (.le k0 v0) (.le k0 v1) (.nle k0 (.a v1 v0)) [266304] h0 h1 g rfl
theorem q231 {s t:Int} {u:Nat} (h0:(s+t)+2≤(u:Int)):s+t≤((u:Int)-2):=gle fun g=>l2_ [s,t,u] (.le (.a (.a v0 v1) k2) v2) (.nle (.a v0 v1) (.s v2 k2)) [4160] h0 g rfl
theorem q232 {s t:Int} {u:Nat} (h0:(0≤s+t)∧(s+t≤((u:Int)-2))):(s+t)+2≤(u:Int):=gle fun g=>l2_ [s,t,u] (.le (.a v0 v1) (.s v2 k2)) (.nle (.a (.a v0 v1) k2) v2) [4160] h0.2 g rfl
theorem q233 {s t u:Int} (h0:s-t≤30):(u+s)-(u+t)≤30:=gle fun g=>l2_ [s,t,u] (.le (.s v0 v1) (.k 30)) (.nle (.s (.a v2 v0) (.a v2 v1)) (.k 30)) [4160] h0 g rfl
theorem q234 {s t:Int} (h0:s≤30):(t+s)-t≤30:=gle fun g=>l2_ [s,t] (.le v0 (.k 30)) (.nle (.s (.a v1 v0) v1) (.k 30)) [4160] h0 g rfl
theorem q235 {s:Nat} {t:Int} (h0:¬((s:Int)<t+8)):t<(s:Int):=glt fun g=>l2_ [s,t] (.nlt v0 (.a v1 k8)) (.nlt v1 v0) [4160] h0 g rfl
theorem q236 {s:Nat} {t:Int} (h0:¬((s:Int)<t+8)):t+1<(s:Int):=glt fun g=>l2_ [s,t] (.nlt v0 (.a v1 k8)) (.nlt (.a v1 k1) v0) [4160] h0 g rfl
theorem q237 {s t:Nat} (h0:s+(t+1)≤100):(s+1)+t≤100:=gnle fun g=>l2_ [s,t] (.le (.a v0 (.a v1 k1)) (.k 100)) (.nle (.a (.a v0 k1) v1) (.k 100)) [4160] (nle h0) g rfl
theorem q238 {s t u:Nat} (h0:(s+1)+t≤100) (h1:u≤s):u<1000:=gnlt fun g=>l4_ [s,t,u] (.le (.a (.a v0 k1) v1) (.k 100)) (.le v2 v0) (.nlt v2 (.k 1000)) (.le k0 v1) [17043520] (nle h0) (nle h1) g (nnn t) rfl
theorem q239 {s:Nat} (h0:s≤100):s<1000:=gnlt fun g=>l2_ [s] (.le v0 (.k 100)) (.nlt v0 (.k 1000)) [4160] (nle h0) g rfl
theorem q240 {s:Nat} (h0:s≤100):s+1<1000:=gnlt fun g=>l2_ [s] (.le v0 (.k 100)) (.nlt (.a v0 k1) (.k 1000)) [4160] (nle h0) g rfl
theorem q241 {s t:Nat} (h0:s=t+1):¬(s=t):=fun g=>l2_ [s,t] (.eq v0 (.a v1 k1)) (.eq v0 v1) [266240] (neq h0) (neq g) rfl
theorem q242 {s t:Nat} (h0:s=t+1):t≤s:=gnle fun g=>l2_ [s,t] (.eq v0 (.a v1 k1)) (.nle v1 v0) [266240] (neq h0) g rfl
theorem q243 {s:Int} (h0:¬(s<0)) (h1:¬(s=0)):0<s:=glt fun g=>(ltgt h1).elim (fun a=>l2_ [s] (.nlt v0 k0) (.lt v0 k0) [4160] h0 a rfl) fun a=>l2_ [s] (.nlt k0 v0) (.lt k0 v0) [4160] g a rfl
theorem q244 {s:Int} {t:Nat} (h0:s+4≤(t:Int)):s+3<(t:Int):=glt fun g=>l2_ [s,t] (.le (.a v0 k4) v1) (.nlt (.a v0 k3) v1) [4160] h0 g rfl
theorem q245 {s:Int} {t:Nat} (h0:s+4≤(t:Int)):s<(t:Int):=glt fun g=>l2_ [s,t] (.le (.a v0 k4) v1) (.nlt v0 v1) [4160] h0 g rfl
theorem q246 {s:Int} (h0:s<4) (h1:1<s):(s=2)∨(s=3):=gor fun g g'=>(ltgt g).elim (fun a=>l2_ [s] (.lt k1 v0) (.lt v0 k2) [4160] h1 a rfl) fun a=>(ltgt g').elim (fun b=>l2_ [s] (.lt k2 v0) (.lt v0 k3) [4160] a b rfl) fun b=>l2_ [s] (.lt v0 k4) (.lt k3 v0) [4160] h0 b rfl
theorem q247 {s t:Nat} (h0:s+8≤t):((s:Int)+4)≤(t:Int):=gle fun g=>l2_ [s,t] (.le (.a v0 k8) v1) (.nle (.a v0 k4) v1) [4160] (nle h0) g rfl
theorem q248 {s t:Nat} (h0:¬(s+8≤t)):t<s+8:=gnlt fun g=>l2_ [s,t] (.nle (.a v0 k8) v1) (.nlt v1 (.a v0 k8)) [4160] (nnle h0) g rfl
theorem q249 {s:Int} (h0:s<0):¬(0<s):=fun g=>l2_ [s] (.lt v0 k0) (.lt k0 v0) [4160] h0 g rfl
theorem q250 {s t u:Nat} (h0:s≤t):s≤min t (s+u):=let c:List Int:=[s,t,(((min t (s+u)):Nat):Int),u];let f0:LF:=.nle v0 v2;gnle fun g=>(mnN t (s+u)).elim (fun a=>l3_ c (.le v0 v1) f0 (.an (.le v1 (.a v0 v3)) (.eq v2 v1)) [1073745984] (nle h0) g a rfl) fun a=>l3_ c f0 (.le k0 v3) (.an (.lt (.a v0 v3) v1) (.eq v2 (.a v0 v3))) [1073745984] g (nnn u) a rfl
theorem q251 {s:Int} (h0:¬(1<s)):¬(s=3):=fun g=>l2_ [s] (.nlt k1 v0) (.eq v0 k3) [262208] h0 g rfl
theorem q252 {s t u:Nat} (h0:8≤s) (h1:t+s≤u):((t:Int)+4)≤(u:Int):=gle fun g=>l3_ [s,t,u] (.le k8 v0) (.le (.a v1 v0) v2) (.nle (.a v1 k4) v2) [266304] (nle h0) (nle h1) g rfl
theorem q253 {s:Nat} (h0:8≤s):¬((s:Int)=0):=fun g=>l2_ [s] (.le k8 v0) (.eq v0 k0) [4160] (nle h0) g rfl
theorem q254 {s t u v:Nat} (h0:s+t≤u) (h1:u≤v):s+t≤v:=gnle fun g=>l3_ [s,t,u,v] (.le (.a v0 v1) v2) (.le v2 v3) (.nle (.a v0 v1) v3) [266304] (nle h0) (nle h1) g rfl
theorem q255 {s t u:Nat} (h0:¬(s+t≤u)):u<s+t:=gnlt fun g=>l2_ [s,t,u] (.nle (.a v0 v1) v2) (.nlt v2 (.a v0 v1)) [4160] (nnle h0) g rfl
theorem q256 {s t u v:Nat} (h0:¬(s+t≤u)):u<s+(t+v):=gnlt fun g=>l3_ [s,t,u,v] (.nle (.a v0 v1) v2) (.nlt v2 (.a v0 (.a v1 v3))) (.le k0 v3) [266304] (nnle h0) g (nnn v) rfl
theorem q257 {s:Int} (h0:s<0):¬(s=0):=fun g=>l2_ [s] (.lt v0 k0) (.eq v0 k0) [262208] h0 g rfl
theorem q258 {s t u:Nat} (h0:20≤s) (h1:20≤t):20≤min s (t+u):=let c:List Int:=[s,(((min s (t+u)):Nat):Int),t,u];let f0:LF:=.nle (.k 20) v1;gnle fun g=>(mnN s (t+u)).elim (fun a=>l3_ c (.le (.k 20) v0) f0 (.an (.le v0 (.a v2 v3)) (.eq v1 v0)) [1073745984] (nle h0) g a rfl) fun a=>l4_ c (.le (.k 20) v2) f0 (.le k0 v3) (.an (.lt (.a v2 v3) v0) (.eq v1 (.a v2 v3))) [68719743040] (nle h1) g (nnn u) a rfl
theorem q259 {s t:Nat} (h0:20≤s) (h1:t<20):(t:Int)<(s:Int):=glt fun g=>l3_ [s,t] (.le (.k 20) v0) (.lt v1 (.k 20)) (.nlt v1 v0) [266304] (nle h0) (nlt h1) g rfl
theorem q260 {s:Nat} (h0:20≤s):¬((s:Int)<20):=fun g=>l2_ [s] (.le (.k 20) v0) (.lt v0 (.k 20)) [4160] (nle h0) g rfl
theorem q261 {s:Nat} {t:Int} (h0:20≤s) (h1:t*4=(s:Int)):¬(t*4<20):=fun g=>l3_ [s,t] (.le (.k 20) v0) (.eq (.r v1 4) v0) (.lt (.r v1 4) (.k 20)) [16777219,16781315,4160] (nle h0) h1 g rfl
theorem q262 {s:Int} {t u:Nat} (h0:s*4=(t:Int)) (h1:(u:Int)<s*4):¬(t≤u):=fun g=>l3_ [s,t,u] (.eq (.r v0 4) v1) (.lt v2 (.r v0 4)) (.le v1 v2) [17039424] h0 h1 (nle g) rfl
theorem q263 {s:Int} {t u:Nat} (h0:s*4=(t:Int)) (h1:¬((u:Int)<s*4)):t≤u:=gnle fun g=>l3_ [s,t,u] (.eq (.r v0 4) v1) (.nlt v2 (.r v0 4)) (.nle v1 v2) [17043456] h0 h1 g rfl
theorem q264 {s:Nat} (h0:40≤s):0<(s:Int):=glt fun g=>l2_ [s] (.le (.k 40) v0) (.nlt k0 v0) [4160] (nle h0) g rfl
theorem q265  :(0:Int)≤(6:Int):=gle fun g=>l1_ [] (.nle k0 (.k 6)) [64] g rfl
theorem q266 {s:Nat} (h0:40≤s):6<(s:Int):=glt fun g=>l2_ [s] (.le (.k 40) v0) (.nlt (.k 6) v0) [4160] (nle h0) g rfl
theorem q267 {s t u:Nat} (h0:40≤s):40≤(min s ((40+t)+u)):=let c:List Int:=[s,(((min s ((40+t)+u)):Nat):Int),t,u];let f0:LF:=.nle (.k 40) v1;gnle fun g=>(mnN s ((40+t)+u)).elim (fun a=>l3_ c (.le (.k 40) v0) f0 (.an (.le v0 (.a (.a (.k 40) v2) v3)) (.eq v1 v0)) [1073745984] (nle h0) g a rfl) fun a=>l4_ c f0 (.le k0 v2) (.le k0 v3) (.an (.lt (.a (.a (.k 40) v2) v3) v0) (.eq v1 (.a (.a (.k 40) v2) v3))) [68719743040] g (nnn t) (nnn u) a rfl
theorem q268 {s t:Nat} (h0:40≤s) (h1:t<40):(t:Int)<(s:Int):=glt fun g=>l3_ [s,t] (.le (.k 40) v0) (.lt v1 (.k 40)) (.nlt v1 v0) [266304] (nle h0) (nlt h1) g rfl
theorem q269 {s:Nat} (h0:40≤s):¬((s:Int)<40):=fun g=>l2_ [s] (.le (.k 40) v0) (.lt v0 (.k 40)) [4160] (nle h0) g rfl
theorem q270 {s t:Nat} (h0:40≤s) (h1:t=40):t≤s:=gnle fun g=>l3_ [s,t] (.le (.k 40) v0) (.eq v1 (.k 40)) (.nle v1 v0) [16781376] (nle h0) (neq h1) g rfl
theorem q271 {s t u:Nat} (h0:s<t+u):¬(t+u≤s):=fun g=>l2_ [s,t,u] (.lt v0 (.a v1 v2)) (.le (.a v1 v2) v0) [4160] (nlt h0) (nle g) rfl
theorem q272 {s t u v:Int} (h0:(0≤s)∧((t=u)∧(0≤v))):s≤s+v:=gle fun g=>l2_ [v,s] (.le k0 v0) (.nle v1 (.a v1 v0)) [4160] h0.2.2 g rfl
theorem q273 {s:Int} {t:Nat} (h0:(0≤s)∧(s≤((t:Int)-2))):s+2≤(t:Int):=gle fun g=>l2_ [s,t] (.le v0 (.s v1 k2)) (.nle (.a v0 k2) v1) [4160] h0.2 g rfl
theorem q274 {s t:Int} {u:Nat} (h0:s≤t) (h1:t+8≤(u:Int)) (h2:20≤s):(((u-(Int.toNat (t+8))):Nat):Int)=((u:Int)-(t+8)):=let c:List Int:=[(((u-(Int.toNat (t+8))):Nat):Int),u,t,(((Int.toNat (t+8)):Nat):Int),s];let f0:LF:=.nle v0 (.s v1 (.a v2 k8));let f1:LF:=.an (.le v3 v1) (.eq v0 (.s v1 v3));let f2:LF:=.an (.le k0 (.a v2 k8)) (.eq v3 (.a v2 k8));let f3:LF:=.le v4 v2;let f4:LF:=.le (.k 20) v4;let f5:LF:=.an (.lt (.a v2 k8) k0) (.eq v3 k0);let f6:LF:=.an (.lt v1 v3) (.eq v0 k0);let f7:LF:=.nle (.s v1 (.a v2 k8)) v0;geq (fun g=>(sbE u (Int.toNat (t+8))).elim (fun a=>(tnE (t+8)).elim (fun b=>l3_ c f0 f1 f2 [4398046773312] g a b rfl) fun b=>l3_ c f3 f4 f5 [266304] h0 h2 b rfl) fun a=>l3_ c (.le (.a v2 k8) v1) f0 f6 [16781376] h1 g a rfl) fun g=>(tnE (t+8)).elim (fun a=>(sbE u (Int.toNat (t+8))).elim (fun b=>l3_ c f7 f2 f1 [4398046773312] g a b rfl) fun b=>l3_ c f7 f2 f6 [4399120515136] g a b rfl) fun a=>l3_ c f3 f4 f5 [266304] h0 h2 a rfl
theorem q275 {s t:Nat} {u:Int} (h0:(s:Int)=((t:Int)-(u+8))):(Int.toNat ((u+8)+(max 0 (((t:Int)-u)-8))))=t:=let c:List Int:=[(((Int.toNat ((u+8)+(max 0 (((t:Int)-u)-8)))):Nat):Int),t,u,(max 0 (((t:Int)-u)-8)),s];let f0:LF:=.nle v0 v1;let f1:LF:=.an (.le k0 (.a (.a v2 k8) v3)) (.eq v0 (.a (.a v2 k8) v3));let f2:LF:=.an (.le k0 (.s (.s v1 v2) k8)) (.eq v3 (.s (.s v1 v2) k8));let f3:LF:=.eq v4 (.s v1 (.a v2 k8));let f4:LF:=.le k0 v4;let f5:LF:=.an (.lt (.s (.s v1 v2) k8) k0) (.eq v3 k0);let f6:LF:=.an (.lt (.a (.a v2 k8) v3) k0) (.eq v0 k0);let f7:LF:=.nle v1 v0;gneq (fun g=>(tnE ((u+8)+(max 0 (((t:Int)-u)-8)))).elim (fun a=>(mxI (0:Int) (((t:Int)-u)-8)).elim (fun b=>l3_ c f0 f1 f2 [68719738944] g a b rfl) fun b=>l3_ c f3 f4 f5 [17039424] h0 (nnn s) b rfl) fun a=>l3_ c f0 (.le k0 v1) f6 [16781376] g (nnn t) a rfl) fun g=>(mxI (0:Int) (((t:Int)-u)-8)).elim (fun a=>(tnE ((u+8)+(max 0 (((t:Int)-u)-8)))).elim (fun b=>l3_ c f7 f2 f1 [4398063288384] g a b rfl) fun b=>l3_ c f7 f2 f6 [4399137030208] g a b rfl) fun a=>l3_ c f3 f4 f5 [17039424] h0 (nnn s) a rfl
theorem q276 {s:Nat} {t:Int} :0≤(max 0 (((s:Int)-t)-8)):=let c:List Int:=[(max 0 (((s:Int)-t)-8)),s,t];let f0:LF:=.nle k0 v0;gle fun g=>(mxI (0:Int) (((s:Int)-t)-8)).elim (fun a=>l2_ c f0 (.an (.le k0 (.s (.s v1 v2) k8)) (.eq v0 (.s (.s v1 v2) k8))) [16781376] g a rfl) fun a=>l2_ c f0 (.an (.lt (.s (.s v1 v2) k8) k0) (.eq v0 k0)) [16777280] g a rfl
theorem q277 {s t:Int} (h0:s≤t) (h1:20≤s):0≤t:=gle fun g=>l3_ [s,t] (.le v0 v1) (.le (.k 20) v0) (.nle k0 v1) [266304] h0 h1 g rfl
theorem q278 {s t:Nat} {u:Int} (h0:(s:Int)=((t:Int)-(u+8))):((u+8)+(max 0 (((t:Int)-u)-8)))≤(t:Int):=let c:List Int:=[u,(max 0 (((t:Int)-u)-8)),t,s];gle fun g=>(mxI (0:Int) (((t:Int)-u)-8)).elim (fun a=>l2_ c (.nle (.a (.a v0 k8) v1) v2) (.an (.le k0 (.s (.s v2 v0) k8)) (.eq v1 (.s (.s v2 v0) k8))) [262208] g a rfl) fun a=>l3_ c (.eq v3 (.s v2 (.a v0 k8))) (.le k0 v3) (.an (.lt (.s (.s v2 v0) k8) k0) (.eq v1 k0)) [17039424] h0 (nnn s) a rfl
theorem q279 {s t:Nat} {u:Int} (h0:(s:Int)=((t:Int)-(u+8))):((u+8)+(s:Int))=(t:Int):=let c:List Int:=[s,t,u];let f0:LF:=.eq v0 (.s v1 (.a v2 k8));geq (fun g=>l2_ c f0 (.nle (.a (.a v2 k8) v0) v1) [262208] h0 g rfl) fun g=>l2_ c f0 (.nle v1 (.a (.a v2 k8) v0)) [266240] h0 g rfl
theorem q280 {s:Int} (h0:s≤6):s+2≤8:=gle fun g=>l2_ [s] (.le v0 (.k 6)) (.nle (.a v0 k2) k8) [4160] h0 g rfl
theorem q281 {s t:Nat} {u:Int} (h0:(s:Int)=((t:Int)-(u+8))):((u+8)+(s:Int))≤(t:Int):=gle fun g=>l2_ [s,t,u] (.eq v0 (.s v1 (.a v2 k8))) (.nle (.a (.a v2 k8) v0) v1) [262208] h0 g rfl
theorem q282 {s:Int} (h0:s≤16):s≤1000:=gle fun g=>l2_ [s] (.le v0 (.k 16)) (.nle v0 (.k 1000)) [4160] h0 g rfl
theorem q283 {s t:Nat} (h0:(s:Int)<(t:Int)):0≤(((t:Int)-1)-(s:Int)):=gle fun g=>l2_ [s,t] (.lt v0 v1) (.nle k0 (.s (.s v1 k1) v0)) [4160] h0 g rfl
theorem q284 {s t:Nat} (h0:s≤16):(((s:Int)-1)-(t:Int))≤16:=gle fun g=>l3_ [s,t] (.le v0 (.k 16)) (.nle (.s (.s v0 k1) v1) (.k 16)) (.le k0 v1) [266304] (nle h0) g (nnn t) rfl
theorem q285 {s t:Nat} (h0:s≤16):(Int.toNat (((s:Int)-1)-(t:Int)))≤16:=let c:List Int:=[s,(((Int.toNat (((s:Int)-1)-(t:Int))):Nat):Int),t];let f0:LF:=.nle v1 (.k 16);gnle fun g=>(tnE (((s:Int)-1)-(t:Int))).elim (fun a=>l4_ c (.le v0 (.k 16)) f0 (.le k0 v2) (.an (.le k0 (.s (.s v0 k1) v2)) (.eq v1 (.s (.s v0 k1) v2))) [1074008128] (nle h0) g (nnn t) a rfl) fun a=>l2_ c f0 (.an (.lt (.s (.s v0 k1) v2) k0) (.eq v1 k0)) [262208] g a rfl
theorem q286 {s t:Nat} :(Int.toNat (((s:Int)-1)-(t:Int)))=(s-1)-t:=let c:List Int:=[(((Int.toNat (((s:Int)-1)-(t:Int))):Nat):Int),((((s-1)-t):Nat):Int),s,t,(((s-1):Nat):Int)];let f0:LF:=.nle v0 v1;let f1:LF:=.an (.le k0 (.s (.s v2 k1) v3)) (.eq v0 (.s (.s v2 k1) v3));let f2:LF:=.an (.le k1 v2) (.eq v4 (.s v2 k1));let f3:LF:=.an (.le v3 v4) (.eq v1 (.s v4 v3));let f4:LF:=.an (.lt v4 v3) (.eq v1 k0);let f5:LF:=.le k0 v3;let f6:LF:=.an (.lt v2 k1) (.eq v4 k0);let f7:LF:=.an (.lt (.s (.s v2 k1) v3) k0) (.eq v0 k0);let f8:LF:=.nle v1 v0;let f9:LF:=.le k0 v0;gneq (fun g=>(tnE (((s:Int)-1)-(t:Int))).elim (fun a=>(sbE s (1:Nat)).elim (fun b=>(sbE (s-1) t).elim (fun d=>l4_ c f0 f1 f2 f3 [1152925902653620288] g a b d rfl) fun d=>l3_ c f1 f2 f4 [4466765987904] a b d rfl) fun b=>l3_ c f5 f1 f6 [1073745984] (nnn t) a b rfl) fun a=>l3_ c f0 (.le k0 v1) f7 [16781376] g (nnn ((s-1)-t)) a rfl) fun g=>(sbE (s-1) t).elim (fun a=>(sbE s (1:Nat)).elim (fun b=>(tnE (((s:Int)-1)-(t:Int))).elim (fun d=>l4_ c f8 f3 f2 f1 [1152921573326585920] g a b d rfl) fun d=>l3_ c f3 f2 f7 [4399120252992] a b d rfl) fun b=>l5_ c f8 f9 f5 f3 f6 [281476050718784] g (nnn (Int.toNat (((s:Int)-1)-(t:Int)))) (nnn t) a b rfl) fun a=>l3_ c f8 f9 f4 [16781376] g (nnn (Int.toNat (((s:Int)-1)-(t:Int)))) a rfl
theorem q287 {s t:Nat} (h0:s<t):(Int.toNat (((t:Int)-1)-(s:Int)))=(t-1)-s:=let c:List Int:=[(((Int.toNat (((t:Int)-1)-(s:Int))):Nat):Int),((((t-1)-s):Nat):Int),t,s,(((t-1):Nat):Int)];let f0:LF:=.nle v0 v1;let f1:LF:=.an (.le k0 (.s (.s v2 k1) v3)) (.eq v0 (.s (.s v2 k1) v3));let f2:LF:=.an (.le k1 v2) (.eq v4 (.s v2 k1));let f3:LF:=.an (.le v3 v4) (.eq v1 (.s v4 v3));let f4:LF:=.an (.lt v4 v3) (.eq v1 k0);let f5:LF:=.le k0 v3;let f6:LF:=.an (.lt v2 k1) (.eq v4 k0);let f7:LF:=.an (.lt (.s (.s v2 k1) v3) k0) (.eq v0 k0);let f8:LF:=.nle v1 v0;gneq (fun g=>(tnE (((t:Int)-1)-(s:Int))).elim (fun a=>(sbE t (1:Nat)).elim (fun b=>(sbE (t-1) s).elim (fun d=>l4_ c f0 f1 f2 f3 [1152925902653620288] g a b d rfl) fun d=>l3_ c f1 f2 f4 [4466766254144] a b d rfl) fun b=>l3_ c f5 f1 f6 [1090785344] (nnn s) a b rfl) fun a=>l3_ c f0 (.le k0 v1) f7 [16781376] g (nnn ((t-1)-s)) a rfl) fun g=>(sbE (t-1) s).elim (fun a=>(tnE (((t:Int)-1)-(s:Int))).elim (fun b=>(sbE t (1:Nat)).elim (fun d=>l4_ c f8 f3 f1 f2 [18018796556255296] g a b d rfl) fun d=>l3_ c f5 f1 f6 [1090785344] (nnn s) b d rfl) fun b=>l2_ c (.lt v3 v2) f7 [4160] (nlt h0) b rfl) fun a=>l3_ c f8 (.le k0 v0) f4 [16781376] g (nnn (Int.toNat (((t:Int)-1)-(s:Int)))) a rfl
theorem q288 {s t:Int} (h0:¬((s<0)∨(t<0))):0≤t:=gle fun g=>l2_ [t] (.nlt v0 k0) (.nle k0 v0) [4160] (not_or.mp h0).2 g rfl
theorem q289 {s:Int} :(s+2)-s≤16:=gle fun g=>l1_ [s] (.nle (.s (.a v0 k2) v0) (.k 16)) [64] g rfl
theorem q290 {s:Int} :(s+4)-(s+2)≤16:=gle fun g=>l1_ [s] (.nle (.s (.a v0 k4) (.a v0 k2)) (.k 16)) [64] g rfl
theorem q291 {s:Nat} {t:Int} (h0:¬((s:Int)<t+8)):t+2≤(s:Int):=gle fun g=>l2_ [s,t] (.nlt v0 (.a v1 k8)) (.nle (.a v1 k2) v0) [4160] h0 g rfl
theorem q292 {s:Int} :(s+6)-(s+4)≤16:=gle fun g=>l1_ [s] (.nle (.s (.a v0 (.k 6)) (.a v0 k4)) (.k 16)) [64] g rfl
theorem q293 {s:Nat} :(Int.toNat (((s:Int)+1)/2))=((((s+1)/2)*2)/2):=let c:List Int:=[(((Int.toNat (((s:Int)+1)/2)):Nat):Int),((((((s+1)/2)*2)/2):Nat):Int),((((((s+1)/2)*2)%2):Nat):Int),((((s+1)/2):Nat):Int),(((s:Int)+1)/2),(((s:Int)+1)%2),s,((((s+1)%2):Nat):Int)];let f0:LF:=.an (.eq (.a (.m 2 v1) v2) (.r v3 2)) (.an (.le k0 v2) (.lt v2 k2));let f1:LF:=.an (.eq (.a (.m 2 v4) v5) (.a v6 k1)) (.an (.le k0 v5) (.lt v5 k2));let f2:LF:=.an (.eq (.a (.m 2 v3) v7) (.a v6 k1)) (.an (.le k0 v7) (.lt v7 k2));let f3:LF:=.an (.le k0 v4) (.eq v0 v4);let f4:LF:=.an (.lt v4 k0) (.eq v0 k0);let f5:LF:=.nle v1 v0;gneq (fun g=>(tnE (((s:Int)+1)/2)).elim (fun a=>l5_ c (.nle v0 v1) f0 f1 f2 f3 [1074003969,158475672564027010920084414592] g (dmN (((s+1)/2)*2) 1) (dmI ((s:Int)+1) 1) (dmN (s+1) 1) a rfl) fun a=>l3_ c f1 (.le k0 v6) f4 [1090523137,4398046511168] (dmI ((s:Int)+1) 1) (nnn s) a rfl) fun g=>(tnE (((s:Int)+1)/2)).elim (fun a=>l5_ c f5 f0 f2 f1 f3 [16781313,10141224149361333547706622156928] g (dmN (((s+1)/2)*2) 1) (dmN (s+1) 1) (dmI ((s:Int)+1) 1) a rfl) fun a=>l5_ c f5 f0 f2 f1 f4 [16781313,10143700029439904308256420405376] g (dmN (((s+1)/2)*2) 1) (dmN (s+1) 1) (dmI ((s:Int)+1) 1) a rfl
theorem q294 {s:Nat} (h0:s≤290):(((0:Int)≤(0:Int))∧((0:Int)≤(1000000:Int)))∧(((-1000000≤(s:Int))∧((s:Int)≤1000000))∧(((0:Int)<(2:Int))∧((2:Int)≤(1000000:Int)))):=⟨⟨gle fun g2=>l1_ [] (.nle k0 k0) [64] g2 rfl,gle fun g2=>l1_ [] (.nle k0 (.k 1000000)) [64] g2 rfl⟩,⟨⟨gle fun g3=>l2_ [(s:Int)] (.nle (.k (-1000000)) v0) (.le k0 v0) [4160] g3 (nnn s) rfl,gle fun g3=>l2_ [(s:Int)] (.le v0 (.k 290)) (.nle v0 (.k 1000000)) [4160] (nle h0) g3 rfl⟩,⟨glt fun g3=>l1_ [] (.nlt k0 k2) [64] g3 rfl,gle fun g3=>l1_ [] (.nle k2 (.k 1000000)) [64] g3 rfl⟩⟩⟩
theorem q295 {s t:Nat} (h0:s<((((t+1)/2)*2)/2)):s<(t+1)/2:=gnlt fun g=>l3_ [s,((((((t+1)/2)*2)/2):Nat):Int),((((t+1)/2):Nat):Int),((((((t+1)/2)*2)%2):Nat):Int)] (.lt v0 v1) (.nlt v0 v2) (.an (.eq (.a (.m 2 v1) v3) (.r v2 2)) (.an (.le k0 v3) (.lt v3 k2))) [1074003969,266304] (nlt h0) g (dmN (((t+1)/2)*2) 1) rfl
theorem q296 {s:Nat} :(((2*(s:Int))+2)-(2*(s:Int)))≤16:=gle fun g=>l1_ [s] (.nle (.s (.a (.m 2 v0) k2) (.m 2 v0)) (.k 16)) [64] g rfl
theorem q297 {s t u:Int} :(s+((65535-t)+u))=(((s+65535)-t)+u):=geq (fun g=>l1_ [s,t,u] (.nle (.a v0 (.a (.s (.k 65535) v1) v2)) (.a (.s (.a v0 (.k 65535)) v1) v2)) [64] g rfl) fun g=>l1_ [s,t,u] (.nle (.a (.s (.a v0 (.k 65535)) v1) v2) (.a v0 (.a (.s (.k 65535) v1) v2))) [64] g rfl
theorem q298 {s t:Nat} (h0:s=t) (h1:20≤t):12≤(s:Int):=gle fun g=>l3_ [s,t] (.eq v0 v1) (.le (.k 20) v1) (.nle (.k 12) v0) [17043456] (neq h0) (nle h1) g rfl
theorem q299 {s t:Nat} (h0:s=t) (h1:t≤1000):s≤100000:=gnle fun g=>l3_ [s,t] (.eq v0 v1) (.le v1 (.k 1000)) (.nle v0 (.k 100000)) [17039424] (neq h0) (nle h1) g rfl
theorem q300 {s:Int} {t:Nat} :(Int.toNat ((s+(t:Int))-s))=t:=let c:List Int:=[(((Int.toNat ((s+(t:Int))-s)):Nat):Int),t,s];let f0:LF:=.an (.le k0 (.s (.a v2 v1) v2)) (.eq v0 (.s (.a v2 v1) v2));let f1:LF:=.an (.lt (.s (.a v2 v1) v2) k0) (.eq v0 k0);let f2:LF:=.nle v1 v0;gneq (fun g=>(tnE ((s+(t:Int))-s)).elim (fun a=>l2_ c (.nle v0 v1) f0 [262208] g a rfl) fun a=>l2_ c (.le k0 v1) f1 [4160] (nnn t) a rfl) fun g=>(tnE ((s+(t:Int))-s)).elim (fun a=>l2_ c f2 f0 [16777280] g a rfl) fun a=>l2_ c f2 f1 [16781376] g a rfl
theorem q301 {s t:Int} (h0:2≤s) (h1:¬(t<0)):0≤t+s:=gle fun g=>l3_ [s,t] (.le k2 v0) (.nlt v1 k0) (.nle k0 (.a v1 v0)) [266304] h0 h1 g rfl
theorem q302 {s t:Int} {u:Nat} {v w x:Int} (h0:¬(s<0)) (h1:(s+t)+2≤(u:Int)) (h2:¬((v<w)∧(x=1))):¬((s<0)∨(((u:Int)<(s+t)+2)∨((v<w)∧(x=1)))):=fun g=>g.elim (fun a=>l2_ [s] (.nlt v0 k0) (.lt v0 k0) [4160] h0 a rfl) fun a=>a.elim (fun b=>l2_ [s,t,(u:Int)] (.le (.a (.a v0 v1) k2) v2) (.lt v2 (.a (.a v0 v1) k2)) [4160] h1 b rfl) fun b=>(Classical.not_and_iff_not_or_not.mp h2).elim (fun d=>l2_ [v,w] (.lt v0 v1) (.nlt v0 v1) [4160] b.1 d rfl) fun d=>(ltgt d).elim (fun e=>l2_ [x] (.eq v0 k1) (.lt v0 k1) [266240] b.2 e rfl) fun e=>l2_ [x] (.eq v0 k1) (.lt k1 v0) [262208] b.2 e rfl
theorem q303 {s t:Int} :(((s+t)+2)-(s+t))≤16:=gle fun g=>l1_ [s,t] (.nle (.s (.a (.a v0 v1) k2) (.a v0 v1)) (.k 16)) [64] g rfl
theorem q304 {s:Nat} (h0:s≤1000):s≤100000:=gnle fun g=>l2_ [s] (.le v0 (.k 1000)) (.nle v0 (.k 100000)) [4160] (nle h0) g rfl
theorem q305 {s t:Nat} {u:Int} (h0:s≤1000) (h1:t≤290):(min u.toNat s)+t≤1000000:=let c:List Int:=[s,t,(((min u.toNat s):Nat):Int),↑u.toNat];let f0:LF:=.le v0 (.k 1000);let f1:LF:=.le v1 (.k 290);let f2:LF:=.nle (.a v2 v1) (.k 1000000);gnle fun g=>(mnN u.toNat s).elim (fun a=>l4_ c f0 f1 f2 (.an (.le v3 v0) (.eq v2 v3)) [1090785344] (nle h0) (nle h1) g a rfl) fun a=>l4_ c f0 f1 f2 (.an (.lt v0 v3) (.eq v2 v0)) [1074008128] (nle h0) (nle h1) g a rfl
theorem q306 {s:Nat} {t:Int} {u:Nat} (h0:s≤1000) (h1:0≤t) (h2:(t+(u:Int))≤(s:Int)):(((min t.toNat s)+u)+(s-(Int.toNat (t+(u:Int)))))≤1000000:=let c:List Int:=[s,t,u,(((min t.toNat s):Nat):Int),(((s-(Int.toNat (t+(u:Int)))):Nat):Int),(((Int.toNat (t+(u:Int))):Nat):Int),↑t.toNat];let f0:LF:=.le v0 (.k 1000);let f1:LF:=.le (.a v1 v2) v0;let f2:LF:=.nle (.a (.a v3 v2) v4) (.k 1000000);let f3:LF:=.an (.le k0 v1) (.eq v6 v1);let f4:LF:=.an (.le v6 v0) (.eq v3 v6);gnle fun g=>(tnE t).elim (fun a=>(mnN t.toNat s).elim (fun b=>(sbE s (Int.toNat (t+(u:Int)))).elim (fun d=>l7_ c f0 f1 f2 (.le k0 v5) f3 f4 (.an (.le v5 v0) (.eq v4 (.s v0 v5))) [311676205883863830106240] (nle h0) h2 g (nnn (Int.toNat (t+(u:Int)))) a b d rfl) fun d=>l6_ c f0 f1 f2 f3 f4 (.an (.lt v0 v5) (.eq v4 k0)) [73787257770888925248] (nle h0) h2 g a b d rfl) fun b=>l4_ c f1 (.le k0 v2) f3 (.an (.lt v0 v6) (.eq v3 v0)) [285941759479872] h2 (nnn u) a b rfl) fun a=>l2_ c (.le k0 v1) (.an (.lt v1 k0) (.eq v6 k0)) [4160] h1 a rfl
theorem q307 {s:Int} {t:Nat} {u v:Int} (h0:s≤(t:Int)) (h1:(0≤u)∧(u+↑v.toNat≤s)):u+↑v.toNat≤(t:Int):=gle fun g=>l3_ [s,t,u,↑v.toNat] (.le v0 v1) (.le (.a v2 v3) v0) (.nle (.a v2 v3) v1) [266304] h0 h1.2 g rfl
theorem q308 {s t:Nat} (h0:s≤1000) (h1:t=s):t≤1000:=gnle fun g=>l3_ [s,t] (.le v0 (.k 1000)) (.eq v1 v0) (.nle v1 (.k 1000)) [16781376] (nle h0) (neq h1) g rfl
theorem q309 {s:Int} {t u:Nat} (h0:s≤(t:Int)) (h1:u=t):s≤(u:Int):=gle fun g=>l3_ [s,t,u] (.le v0 v1) (.eq v2 v1) (.nle v0 v2) [17039424] h0 (neq h1) g rfl
theorem q310 {s t:Nat} {u:Int} (h0:s=t) (h1:u≤((t:Int)-2)):u+2≤(s:Int):=gle fun g=>l3_ [s,t,u] (.eq v0 v1) (.le v2 (.s v1 k2)) (.nle (.a v2 k2) v0) [17043456] (neq h0) h1 g rfl
theorem q311 {s:Int} {t:Nat} (h0:(↑s.toNat=s)∧(s.toNat≤16)) (h1:t=s.toNat):t≤290:=gnle fun g=>l3_ [↑s.toNat,t] (.le v0 (.k 16)) (.eq v1 v0) (.nle v1 (.k 290)) [16781376] (nle h0.2) (neq h1) g rfl
theorem q312 {s t:Int} (h0:((s=16)∧(t=6))∨(((s=6)∧(t=17))∨(((s=2)∧((t=1)∨(t=58)))∨((s=-1)∧((¬(t=6))∧((¬(t=17))∧((¬(t=1))∧(¬(t=58))))))))):s+2≤24:=let c:List Int:=[s];let f0:LF:=.nle (.a v0 k2) (.k 24);gle fun g=>h0.elim (fun a=>l2_ c f0 (.eq v0 (.k 16)) [4160] g a.1 rfl) fun a=>a.elim (fun b=>l2_ c f0 (.eq v0 (.k 6)) [4160] g b.1 rfl) fun b=>b.elim (fun d=>l2_ c f0 (.eq v0 k2) [4160] g d.1 rfl) fun d=>l2_ c f0 (.eq v0 (.k (-1))) [4160] g d.1 rfl
theorem q313 {s:Int} (h0:(0≤s)∧(s<3)):Int.toNat (4*s)≤8:=let c:List Int:=[s,(((Int.toNat (4*s)):Nat):Int)];gnle fun g=>(tnE (4*s)).elim (fun a=>l3_ c (.lt v0 k3) (.nle v1 k8) (.an (.le k0 (.m 4 v0)) (.eq v1 (.m 4 v0))) [16781315,4160] h0.2 g a rfl) fun a=>l2_ c (.le k0 v0) (.an (.lt (.m 4 v0) k0) (.eq v1 k0)) [4099,4160] h0.1 a rfl
theorem q314 {s:Int} (h0:0≤s) (h1:s<3):(20≤(max (20+(4*s)) 0))∧(20+(4*s)≤184):=let c:List Int:=[s,(max (20+(4*s)) 0)];let f0:LF:=.le k0 v0;⟨gle fun g1=>(mxI (20+(4*s)) (0:Int)).elim (fun a=>l2_ c f0 (.an (.le (.a (.k 20) (.m 4 v0)) k0) (.eq v1 k0)) [4099,4160] h0 a rfl) fun a=>l3_ c f0 (.nle (.k 20) v1) (.an (.lt k0 (.a (.k 20) (.m 4 v0))) (.eq v1 (.a (.k 20) (.m 4 v0)))) [1073745923,4160] h0 g1 a rfl,gle fun g1=>l2_ c (.lt v0 k3) (.nle (.a (.k 20) (.m 4 v0)) (.k 184)) [4099,4160] h1 g1 rfl⟩
theorem q315 {s t:Nat} (h0:s≤24*t) (h1:t≤6):((40:Int)≤(40+(s:Int)))∧(40+s≤184):=let c:List Int:=[s,t];⟨gle fun g1=>l2_ c (.nle (.k 40) (.a (.k 40) v0)) (.le k0 v0) [4160] g1 (nnn s) rfl,gnle fun g1=>l3_ c (.le v0 (.m 24 v1)) (.le v1 (.k 6)) (.nle (.a (.k 40) v0) (.k 184)) [262231,262208] (nle h0) (nle h1) g1 rfl⟩
theorem q316 {s t:Nat} :(0≤(s:Int))∧((s:Int)<(((s+(t+1)):Nat):Int)):=let c:List Int:=[s,t];⟨gle fun g1=>l2_ c (.nle k0 v0) (.le k0 v0) [4160] g1 (nnn s) rfl,glt fun g1=>l2_ c (.nlt v0 (.a v0 (.a v1 k1))) (.le k0 v1) [4160] g1 (nnn t) rfl⟩
theorem q317 {s:Int} (h0:(0≤s)∧(s≤22)):s.toNat≤22:=gnle fun g=>(tnE s).elim (fun a=>l3_ [s,↑s.toNat] (.le v0 (.k 22)) (.nle v1 (.k 22)) (.an (.le k0 v0) (.eq v1 v0)) [16781376] h0.2 g a rfl) fun a=>l2_ [s,↑s.toNat] (.le k0 v0) (.an (.lt v0 k0) (.eq v1 k0)) [4160] h0.1 a rfl
theorem q318 {s:Nat} :1<(((s:Int)+1)+1):=glt fun g=>l2_ [s] (.nlt k1 (.a (.a v0 k1) k1)) (.le k0 v0) [4160] g (nnn s) rfl
theorem q319 {s t:Nat} :(0≤((s:Int)+1))∧(1<(((t:Int)+1)+1)):=⟨gle fun g1=>l2_ [(s:Int)] (.nle k0 (.a v0 k1)) (.le k0 v0) [4160] g1 (nnn s) rfl,glt fun g1=>l2_ [(t:Int)] (.nlt k1 (.a (.a v0 k1) k1)) (.le k0 v0) [4160] g1 (nnn t) rfl⟩
theorem q320 {s t u:Nat} (h0:s≤24*t) (h1:t+(u+1)≤6):s≤500:=gnle fun g=>l4_ [s,t,u] (.le v0 (.m 24 v1)) (.le (.a v1 (.a v2 k1)) (.k 6)) (.nle v0 (.k 500)) (.le k0 v2) [262231,1074004032] (nle h0) (nle h1) g (nnn u) rfl
theorem q321 {s t u:Nat} (h0:s≤24*t) (h1:u≤24):s+u≤24*(t+1):=gnle fun g=>l3_ [s,t,u] (.le v0 (.m 24 v1)) (.le v2 (.k 24)) (.nle (.a v0 v2) (.m 24 (.a v1 k1))) [266304] (nle h0) (nle h1) g rfl
theorem q322 {s t:Nat} (h0:s≤6) (h1:t≤24*s):t≤200:=gnle fun g=>l3_ [s,t] (.le v0 (.k 6)) (.le v1 (.m 24 v0)) (.nle v1 (.k 200)) [267776] (nle h0) (nle h1) g rfl
theorem q323 {s:Nat} (h0:s≤6):(-1000000≤(s:Int))∧((s:Int)≤1000000):=⟨gle fun g1=>l2_ [(s:Int)] (.nle (.k (-1000000)) v0) (.le k0 v0) [4160] g1 (nnn s) rfl,gle fun g1=>l2_ [(s:Int)] (.le v0 (.k 6)) (.nle v0 (.k 1000000)) [4160] (nle h0) g1 rfl⟩
theorem q324 {s:Nat} :((0:Int)≤(0:Int))∧(0<(((s+1):Nat):Int)):=⟨gle fun g1=>l1_ [] (.nle k0 k0) [64] g1 rfl,glt fun g1=>l2_ [(s:Int)] (.nlt k0 (.a v0 k1)) (.le k0 v0) [4160] g1 (nnn s) rfl⟩
theorem q325 {s:Int} (h0:(0≤s)∧(s<6)):(-1000000≤s)∧(s≤1000000):=⟨gle fun g1=>l2_ [s] (.le k0 v0) (.nle (.k (-1000000)) v0) [4160] h0.1 g1 rfl,gle fun g1=>l2_ [s] (.lt v0 (.k 6)) (.nle v0 (.k 1000000)) [4160] h0.2 g1 rfl⟩
theorem q326 {s:Int} {t:Nat} (h0:(0≤s)∧(s<6)) (h1:t=s.toNat):t<6:=let c:List Int:=[s,t,↑s.toNat];gnlt fun g=>(tnE s).elim (fun a=>l4_ c (.lt v0 (.k 6)) (.eq v1 v2) (.nlt v1 (.k 6)) (.an (.le k0 v0) (.eq v2 v0)) [68736258112] h0.2 (neq h1) g a rfl) fun a=>l2_ c (.le k0 v0) (.an (.lt v0 k0) (.eq v2 k0)) [4160] h0.1 a rfl
theorem q327 {s:Int} (h0:0≤s) (h1:s≤1048576):((0:Int)≤167772160+s)∧(167772160+s<4294967296):=⟨gle fun g1=>l2_ [s] (.le k0 v0) (.nle k0 (.a (.k 167772160) v0)) [4160] h0 g1 rfl,glt fun g1=>l2_ [s] (.le v0 (.k 1048576)) (.nlt (.a (.k 167772160) v0) (.k 4294967296)) [4160] h1 g1 rfl⟩
theorem q328 {s:Nat} {t:Int} {u:Nat} (h0:s≤24) (h1:(t≤(u:Int))∧(u≤184)):u+s≤1000000:=gnle fun g=>l3_ [s,u] (.le v0 (.k 24)) (.le v1 (.k 184)) (.nle (.a v1 v0) (.k 1000000)) [266304] (nle h0) (nle h1.2) g rfl
theorem q329 {s:Nat} (h0:s≤24):(s:Int)≤1000:=gle fun g=>l2_ [s] (.le v0 (.k 24)) (.nle v0 (.k 1000)) [4160] (nle h0) g rfl
theorem q330 {s t u:Int} (h0:(0≤s)∧(s<65536)) (h1:(0≤t)∧(t<65536)) (h2:(u=s)∨((u=0)∨((u=65535)∨((u=t)∨(u=t))))):(0≤u)∧(u<65536):=let c:List Int:=[s,u,t];let f0:LF:=.nle k0 v1;let f1:LF:=.eq v1 v0;let f2:LF:=.eq v1 k0;let f3:LF:=.eq v1 (.k 65535);let f4:LF:=.le k0 v2;let f5:LF:=.eq v1 v2;let f6:LF:=.nlt v1 (.k 65536);let f7:LF:=.lt v2 (.k 65536);⟨gle fun g1=>h2.elim (fun a=>l3_ c (.le k0 v0) f0 f1 [16781376] h0.1 g1 a rfl) fun a=>a.elim (fun b=>l2_ c f0 f2 [262208] g1 b rfl) fun b=>b.elim (fun d=>l2_ c f0 f3 [262208] g1 d rfl) fun d=>d.elim (fun e=>l3_ c f4 f0 f5 [16781376] h1.1 g1 e rfl) fun e=>l3_ c f4 f0 f5 [16781376] h1.1 g1 e rfl,glt fun g1=>h2.elim (fun a=>l3_ c (.lt v0 (.k 65536)) f6 f1 [266304] h0.2 g1 a rfl) fun a=>a.elim (fun b=>l2_ c f6 f2 [4160] g1 b rfl) fun b=>b.elim (fun d=>l2_ c f6 f3 [4160] g1 d rfl) fun d=>d.elim (fun e=>l3_ c f7 f6 f5 [266304] h1.2 g1 e rfl) fun e=>l3_ c f7 f6 f5 [266304] h1.2 g1 e rfl⟩
theorem q331 {s:Int} {t:Nat} (h0:s≤((t:Int)-2)):s+2≤(t:Int):=gle fun g=>l2_ [s,t] (.le v0 (.s v1 k2)) (.nle (.a v0 k2) v1) [4160] h0 g rfl
theorem q332 {s:Int} :(Int.toNat ((s+2)-s))=2:=let c:List Int:=[(((Int.toNat ((s+2)-s)):Nat):Int),s];let f0:LF:=.an (.le k0 (.s (.a v1 k2) v1)) (.eq v0 (.s (.a v1 k2) v1));let f1:LF:=.an (.lt (.s (.a v1 k2) v1) k0) (.eq v0 k0);gneq (fun g=>(tnE ((s+2)-s)).elim (fun a=>l2_ c (.nle v0 k2) f0 [262208] g a rfl) fun a=>l1_ c f1 [64] a rfl) fun g=>(tnE ((s+2)-s)).elim (fun a=>l2_ c (.nle k2 v0) f0 [16777280] g a rfl) fun a=>l1_ c f1 [64] a rfl
theorem q333 {s:Int} (h0:(0≤s)∧(s<2)) (h1:¬(s=0)):s-1=0:=geq (fun g=>l2_ [s] (.lt v0 k2) (.nle (.s v0 k1) k0) [4160] h0.2 g rfl) fun g=>(ltgt h1).elim (fun a=>l2_ [s] (.le k0 v0) (.lt v0 k0) [4160] h0.1 a rfl) fun a=>l2_ [s] (.nle k0 (.s v0 k1)) (.lt k0 v0) [4160] g a rfl
theorem q334 {s:Nat} :(((2+((((s+1)+1)+1)+1))+1)+1)=8+s:=gneq (fun g=>l1_ [(s:Int)] (.nle (.a (.a (.a k2 (.a (.a (.a (.a v0 k1) k1) k1) k1)) k1) k1) (.a k8 v0)) [64] g rfl) fun g=>l1_ [(s:Int)] (.nle (.a k8 v0) (.a (.a (.a k2 (.a (.a (.a (.a v0 k1) k1) k1) k1)) k1) k1)) [64] g rfl
theorem q335 {s:Nat} {t:Int} {u v:Nat} (h0:s≤300) (h1:(t≤(u:Int))∧(u≤184)):(u+(8+(min v s)))≤1000000:=let c:List Int:=[s,u,(((min v s):Nat):Int),v];let f0:LF:=.le v0 (.k 300);let f1:LF:=.le v1 (.k 184);let f2:LF:=.nle (.a v1 (.a k8 v2)) (.k 1000000);gnle fun g=>(mnN v s).elim (fun a=>l4_ c f0 f1 f2 (.an (.le v3 v0) (.eq v2 v3)) [1090785344] (nle h0) (nle h1.2) g a rfl) fun a=>l4_ c f0 f1 f2 (.an (.lt v0 v3) (.eq v2 v0)) [1074008128] (nle h0) (nle h1.2) g a rfl
theorem q336 {s t:Nat} (h0:s≤300):(((8+(min t s)):Nat):Int)≤1000:=let c:List Int:=[s,(((min t s):Nat):Int),t];let f0:LF:=.le v0 (.k 300);let f1:LF:=.nle (.a k8 v1) (.k 1000);gle fun g=>(mnN t s).elim (fun a=>l3_ c f0 f1 (.an (.le v2 v0) (.eq v1 v2)) [17043520] (nle h0) g a rfl) fun a=>l3_ c f0 f1 (.an (.lt v0 v2) (.eq v1 v0)) [16781376] (nle h0) g a rfl
theorem q337 {s t:Int} :s≤(((Int.toNat (max s t)):Nat):Int):=let c:List Int:=[s,(((Int.toNat (max s t)):Nat):Int),(max s t),t];let f0:LF:=.nle v0 v1;let f1:LF:=.an (.le k0 v2) (.eq v1 v2);let f2:LF:=.an (.le v0 v3) (.eq v2 v3);let f3:LF:=.an (.lt v3 v0) (.eq v2 v0);let f4:LF:=.an (.lt v2 k0) (.eq v1 k0);gle fun g=>(tnE (max s t)).elim (fun a=>(mxI s t).elim (fun b=>l3_ c f0 f1 f2 [4399137030208] g a b rfl) fun b=>l3_ c f0 f1 f3 [4398063288384] g a b rfl) fun a=>(mxI s t).elim (fun b=>l3_ c f0 f4 f2 [4399137034304] g a b rfl) fun b=>l3_ c f0 f4 f3 [4398063292480] g a b rfl
theorem q338 {s:Nat} {t u:Int} (h0:s≤300):(min (Int.toNat (max t u)) s)≤300:=let c:List Int:=[s,(((min (Int.toNat (max t u)) s):Nat):Int),(((Int.toNat (max t u)):Nat):Int)];let f0:LF:=.le v0 (.k 300);let f1:LF:=.nle v1 (.k 300);gnle fun g=>(mnN (Int.toNat (max t u)) s).elim (fun a=>l3_ c f0 f1 (.an (.le v2 v0) (.eq v1 v2)) [17043520] (nle h0) g a rfl) fun a=>l3_ c f0 f1 (.an (.lt v0 v2) (.eq v1 v0)) [16781376] (nle h0) g a rfl
theorem q339 {s t:Int} (h0:(0≤s)∧(s≤40)):0≤max s t:=gle fun g=>(mxI s t).elim (fun a=>l3_ [s,(max s t),t] (.le k0 v0) (.nle k0 v1) (.an (.le v0 v2) (.eq v1 v2)) [1074008128] h0.1 g a rfl) fun a=>l3_ [s,(max s t),t] (.le k0 v0) (.nle k0 v1) (.an (.lt v2 v0) (.eq v1 v0)) [1073745984] h0.1 g a rfl
theorem q340 {s:Int} (h0:(s=6)∨((s=17)∨((s=1)∨((s=58)∨((s=47)∨((s=132)∨((s=33)∨(s=50)))))))):(0≤s)∧(s<256):=let c:List Int:=[s];let f0:LF:=.nle k0 v0;let f1:LF:=.eq v0 (.k 6);let f2:LF:=.eq v0 (.k 17);let f3:LF:=.eq v0 k1;let f4:LF:=.eq v0 (.k 58);let f5:LF:=.eq v0 (.k 47);let f6:LF:=.eq v0 (.k 132);let f7:LF:=.eq v0 (.k 33);let f8:LF:=.eq v0 (.k 50);let f9:LF:=.nlt v0 (.k 256);⟨gle fun g1=>h0.elim (fun a=>l2_ c f0 f1 [262208] g1 a rfl) fun a=>a.elim (fun b=>l2_ c f0 f2 [262208] g1 b rfl) fun b=>b.elim (fun d=>l2_ c f0 f3 [262208] g1 d rfl) fun d=>d.elim (fun e=>l2_ c f0 f4 [262208] g1 e rfl) fun e=>e.elim (fun i=>l2_ c f0 f5 [262208] g1 i rfl) fun i=>i.elim (fun j=>l2_ c f0 f6 [262208] g1 j rfl) fun j=>j.elim (fun t6=>l2_ c f0 f7 [262208] g1 t6 rfl) fun t6=>l2_ c f0 f8 [262208] g1 t6 rfl,glt fun g1=>h0.elim (fun a=>l2_ c f9 f1 [4160] g1 a rfl) fun a=>a.elim (fun b=>l2_ c f9 f2 [4160] g1 b rfl) fun b=>b.elim (fun d=>l2_ c f9 f3 [4160] g1 d rfl) fun d=>d.elim (fun e=>l2_ c f9 f4 [4160] g1 e rfl) fun e=>e.elim (fun i=>l2_ c f9 f5 [4160] g1 i rfl) fun i=>i.elim (fun j=>l2_ c f9 f6 [4160] g1 j rfl) fun j=>j.elim (fun t6=>l2_ c f9 f7 [4160] g1 t6 rfl) fun t6=>l2_ c f9 f8 [4160] g1 t6 rfl⟩
theorem q341 {s:Int} {t u v:Nat} (h0:s≤(t:Int)) (h1:(s≤(u:Int))∧(u≤184)):s≤(((min t (u+v)):Nat):Int):=let c:List Int:=[s,t,(((min t (u+v)):Nat):Int),u,v];let f0:LF:=.nle v0 v2;gle fun g=>(mnN t (u+v)).elim (fun a=>l3_ c (.le v0 v1) f0 (.an (.le v1 (.a v3 v4)) (.eq v2 v1)) [1073745984] h0 g a rfl) fun a=>l4_ c (.le v0 v3) f0 (.le k0 v4) (.an (.lt (.a v3 v4) v1) (.eq v2 (.a v3 v4))) [68719743040] h1.1 g (nnn v) a rfl
theorem q342 {s:Int} {t:Nat} (h0:s≤(t:Int)) (h1:s=20):20≤t:=gnle fun g=>l3_ [s,t] (.le v0 v1) (.eq v0 (.k 20)) (.nle (.k 20) v1) [17039424] h0 h1 g rfl
theorem q343 {s:Int} {t:Nat} (h0:(s≤(t:Int))∧(t≤184)) (h1:s=20):20≤t:=gnle fun g=>l3_ [s,t] (.le v0 v1) (.eq v0 (.k 20)) (.nle (.k 20) v1) [17039424] h0.1 h1 g rfl
theorem q344 {s:Int} {t:Nat} (h0:s≤(t:Int)) (h1:s=40):40≤t:=gnle fun g=>l3_ [s,t] (.le v0 v1) (.eq v0 (.k 40)) (.nle (.k 40) v1) [17039424] h0 h1 g rfl
theorem q345 {s:Nat} (h0:s≤600):s≤1000:=gnle fun g=>l2_ [s] (.le v0 (.k 600)) (.nle v0 (.k 1000)) [4160] (nle h0) g rfl
theorem q346 {s:Int} {t:Nat} {u:Int} (h0:s≤(t:Int)) (h1:(u=-1)∨(u=(t:Int))) (h2:0≤u):s≤u:=gle fun g=>h1.elim (fun a=>l2_ [u] (.le k0 v0) (.eq v0 (.k (-1))) [4160] h2 a rfl) fun a=>l3_ [s,(t:Int),u] (.le v0 v1) (.nle v0 v2) (.eq v2 v1) [16781376] h0 g a rfl
theorem q347 {s:Nat} {t:Int} (h0:s%4=0) (h1:(t=-1)∨(t=(s:Int))) (h2:0≤t):t%2=0:=let c:List Int:=[t,(((s%4):Nat):Int),(t%2),(((s/4):Nat):Int),s,(t/2)];let f0:LF:=.an (.eq (.a (.m 2 v5) v2) v0) (.an (.le k0 v2) (.lt v2 k2));geq (fun g=>h1.elim (fun a=>l2_ c (.le k0 v0) (.eq v0 (.k (-1))) [4160] h2 a rfl) fun a=>l5_ c (.eq v1 k0) (.nle v2 k0) (.an (.eq (.a (.m 4 v3) v1) v4) (.an (.le k0 v1) (.lt v1 k4))) f0 (.eq v0 v4) [4722366764345695928385,19347536633238442121363457,4160] (neq h0) g (dmN s 3) (dmI t 1) a rfl) fun g=>l2_ c (.nle k0 v2) f0 [16777280] g (dmI t 1) rfl
theorem q348 {s:Int} {t:Nat} (h0:20≤s) (h1:s≤(t:Int)):20≤(t:Int):=gle fun g=>l3_ [s,t] (.le (.k 20) v0) (.le v0 v1) (.nle (.k 20) v1) [266304] h0 h1 g rfl
theorem q349 {s:Int} {t:Nat} (h0:(s=-1)∨(s=(t:Int))) (h1:0≤s):(t:Int)≤s:=gle fun g=>h0.elim (fun a=>l2_ [s] (.le k0 v0) (.eq v0 (.k (-1))) [4160] h1 a rfl) fun a=>l2_ [(t:Int),s] (.nle v0 v1) (.eq v1 v0) [262208] g a rfl
theorem q350 {s:Int} {t:Nat} (h0:0≤s):¬((s<0)∨((t:Int)<0)):=fun g=>g.elim (fun a=>l2_ [s] (.le k0 v0) (.lt v0 k0) [4160] h0 a rfl) fun a=>l2_ [(t:Int)] (.le k0 v0) (.lt v0 k0) [4160] (nnn t) a rfl
theorem q351 {s t:Nat} (h0:s≤t):(s:Int)≤(t:Int):=gle fun g=>l2_ [s,t] (.le v0 v1) (.nle v0 v1) [4160] (nle h0) g rfl
theorem q352 {s t:Nat} (h0:¬(s≤t)):¬((s:Int)≤(t:Int)):=fun g=>l2_ [s,t] (.nle v0 v1) (.le v0 v1) [4160] (nnle h0) g rfl
theorem q353 {s:Nat} {t:Int} {u:Nat} (h0:s≤24) (h1:(t≤(u:Int))∧(u≤184)):u+s≤208:=gnle fun g=>l3_ [s,u] (.le v0 (.k 24)) (.le v1 (.k 184)) (.nle (.a v1 v0) (.k 208)) [266304] (nle h0) (nle h1.2) g rfl
theorem q354 {s:Nat} (h0:s≤208):s≤300:=gnle fun g=>l2_ [s] (.le v0 (.k 208)) (.nle v0 (.k 300)) [4160] (nle h0) g rfl
theorem q355 {s t:Nat} :(s:Int)≤(((s+t):Nat):Int):=gle fun g=>l2_ [s,t] (.nle v0 (.a v0 v1)) (.le k0 v1) [4160] g (nnn t) rfl
theorem q356 {s t:Nat} (h0:s≤208):min t s≤208:=let c:List Int:=[s,(((min t s):Nat):Int),t];let f0:LF:=.le v0 (.k 208);let f1:LF:=.nle v1 (.k 208);gnle fun g=>(mnN t s).elim (fun a=>l3_ c f0 f1 (.an (.le v2 v0) (.eq v1 v2)) [17043520] (nle h0) g a rfl) fun a=>l3_ c f0 f1 (.an (.lt v0 v2) (.eq v1 v0)) [16781376] (nle h0) g a rfl
theorem q357 {s:Nat} (h0:s≤208):s≤600:=gnle fun g=>l2_ [s] (.le v0 (.k 208)) (.nle v0 (.k 600)) [4160] (nle h0) g rfl
theorem q358 {s:Int} {t u v:Nat} (h0:(s≤(t:Int))∧(t≤184)) (h1:u=t+(8+v)):s≤(u:Int):=gle fun g=>l4_ [s,t,u,v] (.le v0 v1) (.eq v2 (.a v1 (.a k8 v3))) (.nle v0 v2) (.le k0 v3) [1090781248] h0.1 (neq h1) g (nnn v) rfl
theorem q359 {s:Nat} {t:Int} {u v:Nat} (h0:s≤208) (h1:(t≤(u:Int))∧(u≤184)) (h2:v=u+(8+s)):v≤600:=gnle fun g=>l4_ [s,u,v] (.le v0 (.k 208)) (.le v1 (.k 184)) (.eq v2 (.a v1 (.a k8 v0))) (.nle v2 (.k 600)) [1074008128] (nle h0) (nle h1.2) (neq h2) g rfl
theorem q360 {s t u:Nat} (h0:s=t+(8+u)):t≤s:=gnle fun g=>l3_ [s,t,u] (.eq v0 (.a v1 (.a k8 v2))) (.nle v1 v0) (.le k0 v2) [17043456] (neq h0) g (nnn u) rfl
theorem q361 {s:Nat} :(Int.toNat ((s:Int)+8))=s+8:=let c:List Int:=[(((Int.toNat ((s:Int)+8)):Nat):Int),s];let f0:LF:=.an (.le k0 (.a v1 k8)) (.eq v0 (.a v1 k8));let f1:LF:=.le k0 v1;let f2:LF:=.an (.lt (.a v1 k8) k0) (.eq v0 k0);gneq (fun g=>(tnE ((s:Int)+8)).elim (fun a=>l2_ c (.nle v0 (.a v1 k8)) f0 [262208] g a rfl) fun a=>l2_ c f1 f2 [4160] (nnn s) a rfl) fun g=>(tnE ((s:Int)+8)).elim (fun a=>l2_ c (.nle (.a v1 k8) v0) f0 [16777280] g a rfl) fun a=>l2_ c f1 f2 [4160] (nnn s) a rfl
theorem q362 {s:Nat} (h0:(s:Int)<0):False:=l2_ [s] (.lt v0 k0) (.le k0 v0) [4160] h0 (nnn s) rfl
theorem q363 {s t u:Nat} (h0:s=t+(8+u)) (h1:(s:Int)≤(t:Int)):False:=l3_ [s,t,u] (.eq v0 (.a v1 (.a k8 v2))) (.le v0 v1) (.le k0 v2) [17043456] (neq h0) h1 (nnn u) rfl
theorem q364 {s:Nat} (h0:s%4=0):((s:Int)%2)=0:=let c:List Int:=[(((s%4):Nat):Int),((s:Int)%2),(((s/4):Nat):Int),s,((s:Int)/2)];let f0:LF:=.an (.eq (.a (.m 2 v4) v1) v3) (.an (.le k0 v1) (.lt v1 k2));geq (fun g=>l4_ c (.eq v0 k0) (.nle v1 k0) (.an (.eq (.a (.m 4 v2) v0) v3) (.an (.le k0 v0) (.lt v0 k4))) f0 [281476050714689,4723519404375326064641,4160] (neq h0) g (dmN s 3) (dmI (s:Int) 1) rfl) fun g=>l2_ c (.nle k0 v1) f0 [17043520] g (dmI (s:Int) 1) rfl
theorem q365 {s t u:Nat} (h0:s=t+(8+u)):((t:Int)+8)≤(s:Int):=gle fun g=>l3_ [s,t,u] (.eq v0 (.a v1 (.a k8 v2))) (.nle (.a v1 k8) v0) (.le k0 v2) [17043456] (neq h0) g (nnn u) rfl
theorem q366 {s:Nat} (h0:s≤208):s≤290:=gnle fun g=>l2_ [s] (.le v0 (.k 208)) (.nle v0 (.k 290)) [4160] (nle h0) g rfl
theorem q367 {s:Int} {t:Nat} (h0:20≤s) (h1:s≤(t:Int)):0<t:=gnlt fun g=>l3_ [s,t] (.le (.k 20) v0) (.le v0 v1) (.nlt k0 v1) [266304] h0 h1 g rfl
theorem q368 {s t:Int} (h0:0≤s) (h1:s<0):t<0:=glt fun g=>l2_ [s] (.le k0 v0) (.lt v0 k0) [4160] h0 h1 rfl
theorem q369 {s:Nat} :0≤((s:Int)+8):=gle fun g=>l2_ [s] (.nle k0 (.a v0 k8)) (.le k0 v0) [4160] g (nnn s) rfl
theorem q370 {s t u:Nat} (h0:s=t+(8+u)):(((t:Int)+8)+(u:Int))≤(s:Int):=gle fun g=>l2_ [s,t,u] (.eq v0 (.a v1 (.a k8 v2))) (.nle (.a (.a v1 k8) v2) v0) [266240] (neq h0) g rfl
theorem q371 {s:Int} {t:Nat} (h0:s<0) (h1:0≤s):(t:Int)<0:=glt fun g=>l2_ [s] (.lt v0 k0) (.le k0 v0) [4160] h0 h1 rfl
theorem q372 {s t u v:Nat} (h0:s≤t) (h1:s≤u) (h2:s=v+1):(¬(t=v))∧(¬(u=v)):=let c:List Int:=[s,t,v,u];let f0:LF:=.eq v0 (.a v2 k1);⟨fun g1=>l3_ c (.le v0 v1) f0 (.eq v1 v2) [17039424] (nle h0) (neq h2) (neq g1) rfl,fun g1=>l3_ c (.le v0 v3) f0 (.eq v3 v2) [17039424] (nle h1) (neq h2) (neq g1) rfl⟩
theorem q373 {s t u v:Nat} (h0:s≤t) (h1:s=u+1) (h2:v<u):¬(t=v):=fun g=>l4_ [s,t,u,v] (.le v0 v1) (.eq v0 (.a v2 k1)) (.lt v3 v2) (.eq v1 v3) [1090781248] (nle h0) (neq h1) (nlt h2) (neq g) rfl
theorem q374 {s t u:Nat} (h0:s<t) (h1:u<s):¬(t=u):=fun g=>l3_ [s,t,u] (.lt v0 v1) (.lt v2 v0) (.eq v1 v2) [266304] (nlt h0) (nlt h1) (neq g) rfl
theorem q375 {s t u:Nat} (h0:s<t) (h1:u<s):¬(u=t):=fun g=>l3_ [s,t,u] (.lt v0 v1) (.lt v2 v0) (.eq v2 v1) [16781376] (nlt h0) (nlt h1) (neq g) rfl
theorem q376 {s:Int} {t u v:Nat} (h0:(s≤(t:Int))∧(t≤184)) (h1:u=t+v):s≤(u:Int):=gle fun g=>l4_ [s,t,u,v] (.le v0 v1) (.eq v2 (.a v1 v3)) (.nle v0 v2) (.le k0 v3) [1090781248] h0.1 (neq h1) g (nnn v) rfl
theorem q377 {s:Nat} {t:Int} {u v:Nat} (h0:s≤24) (h1:(t≤(u:Int))∧(u≤184)) (h2:v=u+s):v≤600:=gnle fun g=>l4_ [s,u,v] (.le v0 (.k 24)) (.le v1 (.k 184)) (.eq v2 (.a v1 v0)) (.nle v2 (.k 600)) [1074008128] (nle h0) (nle h1.2) (neq h2) g rfl
theorem q378 {s t u:Nat} (h0:s=t+u):t≤s:=gnle fun g=>l3_ [s,t,u] (.eq v0 (.a v1 v2)) (.nle v1 v0) (.le k0 v2) [17043456] (neq h0) g (nnn u) rfl
theorem q379 {s t u:Nat} (h0:s<t) (h1:t≤u):¬(u=s):=fun g=>l3_ [s,t,u] (.lt v0 v1) (.le v1 v2) (.eq v2 v0) [266304] (nlt h0) (nle h1) (neq g) rfl
theorem q380 {s t:Int} (h0:(0≤s)∧(s<256)) (h1:s<0):t<0:=glt fun g=>l2_ [s] (.le k0 v0) (.lt v0 k0) [4160] h0.1 h1 rfl
theorem q381 {s t:Int} (h0:(0≤s)∧(s<256)) (h1:¬(t<0)):¬((s<0)∨(t<0)):=fun g=>g.elim (fun a=>l2_ [s] (.le k0 v0) (.lt v0 k0) [4160] h0.1 a rfl) fun a=>l2_ [t] (.nlt v0 k0) (.lt v0 k0) [4160] h1 a rfl
theorem q382 {s:Nat} :min 63 s≤64:=let c:List Int:=[(((min 63 s):Nat):Int),s];let f0:LF:=.nle v0 (.k 64);gnle fun g=>(mnN (63:Nat) s).elim (fun a=>l2_ c f0 (.an (.le (.k 63) v1) (.eq v0 (.k 63))) [262208] g a rfl) fun a=>l2_ c f0 (.an (.lt v1 (.k 63)) (.eq v0 v1)) [266304] g a rfl
theorem q383 {s t:Nat} (h0:s≤t):s+(t-s)=t:=let c:List Int:=[s,(((t-s):Nat):Int),t];let f0:LF:=.an (.le v0 v2) (.eq v1 (.s v2 v0));let f1:LF:=.an (.lt v2 v0) (.eq v1 k0);let f2:LF:=.nle v2 (.a v0 v1);gneq (fun g=>(sbE t s).elim (fun a=>l2_ c (.nle (.a v0 v1) v2) f0 [262208] g a rfl) fun a=>l2_ c (.le v0 v2) f1 [4160] (nle h0) a rfl) fun g=>(sbE t s).elim (fun a=>l2_ c f2 f0 [16777280] g a rfl) fun a=>l2_ c f2 f1 [16781376] g a rfl
theorem q384 {s:Nat} (h0:¬(63<(s:Int))):s≤63:=gnle fun g=>l2_ [s] (.nlt (.k 63) v0) (.nle v0 (.k 63)) [4160] h0 g rfl
theorem q385 {s:Nat} (h0:s≤63):s≤1000000:=gnle fun g=>l2_ [s] (.le v0 (.k 63)) (.nle v0 (.k 1000000)) [4160] (nle h0) g rfl
theorem q386  :0+40≤90:=gnle fun g=>l1_ [] (.nle (.a k0 (.k 40)) (.k 90)) [64] g rfl
theorem q387 {s t:Int} {u v:Nat} (h0:0≤s) (h1:s<t) (h2:t≤((u:Int)+1)) (h3:v=(min t.toNat u)-s.toNat) (h4:(v:Int)<t-s):v+1=Int.toNat (t-s):=let c:List Int:=[v,t,s,(((Int.toNat (t-s)):Nat):Int),((((min t.toNat u)-s.toNat):Nat):Int),↑s.toNat,↑t.toNat,(((min t.toNat u):Nat):Int),u];let f0:LF:=.an (.le k0 (.s v1 v2)) (.eq v3 (.s v1 v2));let f1:LF:=.lt v2 v1;let f2:LF:=.an (.lt (.s v1 v2) k0) (.eq v3 k0);let f3:LF:=.eq v0 v4;let f4:LF:=.nle v3 (.a v0 k1);let f5:LF:=.an (.le k0 v2) (.eq v5 v2);let f6:LF:=.an (.le k0 v1) (.eq v6 v1);let f7:LF:=.an (.le v5 v7) (.eq v4 (.s v7 v5));let f8:LF:=.an (.le v6 v8) (.eq v7 v6);let f9:LF:=.le v1 (.a v8 k1);let f10:LF:=.an (.lt v8 v6) (.eq v7 v8);let f11:LF:=.an (.lt v7 v5) (.eq v4 k0);gneq (fun g=>(tnE (t-s)).elim (fun a=>l3_ c (.lt v0 (.s v1 v2)) (.nle (.a v0 k1) v3) f0 [1073745984] h4 g a rfl) fun a=>l2_ c f1 f2 [4160] h1 a rfl) fun g=>(tnE (t-s)).elim (fun a=>(tnE s).elim (fun b=>(tnE t).elim (fun d=>(sbE (min t.toNat u) s.toNat).elim (fun e=>(mnN t.toNat u).elim (fun i=>l7_ c f3 f4 f0 f5 f6 f7 f8 [324519791603188378927776615632896] (neq h3) g a b d e i rfl) fun i=>l7_ c f9 f3 f4 f0 f5 f7 f10 [79228464745737255718083625024] h2 (neq h3) g a b e i rfl) fun e=>(mnN t.toNat u).elim (fun i=>l5_ c f0 f5 f6 f11 f8 [1237940040456316179089461312] a b d e i rfl) fun i=>l7_ c f9 f3 f4 f0 f5 f11 f10 [79228464819524232012921831488] h2 (neq h3) g a b e i rfl) fun d=>l3_ c f0 f5 (.an (.lt v1 k0) (.eq v6 k0)) [4467857039424] a b d rfl) fun b=>l2_ c (.le k0 v2) (.an (.lt v2 k0) (.eq v5 k0)) [4160] h0 b rfl) fun a=>l2_ c f1 f2 [4160] h1 a rfl
theorem q388 {s t:Int} {u v:Nat} (h0:0≤s) (h1:s<t) (h2:u=(min t.toNat v)-s.toNat) (h3:¬((u:Int)<t-s)):u=Int.toNat (t-s):=let c:List Int:=[u,((((min t.toNat v)-s.toNat):Nat):Int),(((Int.toNat (t-s)):Nat):Int),↑s.toNat,(((min t.toNat v):Nat):Int),t,s,↑t.toNat,v];let f0:LF:=.eq v0 v1;let f1:LF:=.nle v0 v2;let f2:LF:=.an (.le v3 v4) (.eq v1 (.s v4 v3));let f3:LF:=.an (.le k0 (.s v5 v6)) (.eq v2 (.s v5 v6));let f4:LF:=.an (.le k0 v6) (.eq v3 v6);let f5:LF:=.an (.le k0 v5) (.eq v7 v5);let f6:LF:=.lt v6 v5;let f7:LF:=.an (.lt (.s v5 v6) k0) (.eq v2 k0);let f8:LF:=.nlt v0 (.s v5 v6);gneq (fun g=>(sbE (min t.toNat v) s.toNat).elim (fun a=>(tnE (t-s)).elim (fun b=>(tnE s).elim (fun d=>(tnE t).elim (fun e=>(mnN t.toNat v).elim (fun i=>l7_ c f0 f1 f2 f3 f4 f5 (.an (.le v7 v8) (.eq v4 v7)) [5070621748448415937322836820032] (neq h2) g a b d e i rfl) fun i=>l7_ c f0 f1 f2 f3 f4 f5 (.an (.lt v8 v7) (.eq v4 v8)) [5149849910962680274916380770368] (neq h2) g a b d e i rfl) fun e=>l3_ c f6 f4 (.an (.lt v5 k0) (.eq v7 k0)) [1090785344] h1 d e rfl) fun d=>l2_ c (.le k0 v6) (.an (.lt v6 k0) (.eq v3 k0)) [4160] h0 d rfl) fun b=>l2_ c f6 f7 [4160] h1 b rfl) fun a=>l4_ c f6 f0 f8 (.an (.lt v4 v3) (.eq v1 k0)) [68736258112] h1 (neq h2) h3 a rfl) fun g=>(tnE (t-s)).elim (fun b=>l3_ c f8 (.nle v2 v0) f3 [16781376] h3 g b rfl) fun b=>l2_ c f6 f7 [4160] h1 b rfl
theorem q389 {s:Nat} :(Int.toNat ((s:Int)+2))=s+2:=let c:List Int:=[(((Int.toNat ((s:Int)+2)):Nat):Int),s];let f0:LF:=.an (.le k0 (.a v1 k2)) (.eq v0 (.a v1 k2));let f1:LF:=.le k0 v1;let f2:LF:=.an (.lt (.a v1 k2) k0) (.eq v0 k0);gneq (fun g=>(tnE ((s:Int)+2)).elim (fun a=>l2_ c (.nle v0 (.a v1 k2)) f0 [262208] g a rfl) fun a=>l2_ c f1 f2 [4160] (nnn s) a rfl) fun g=>(tnE ((s:Int)+2)).elim (fun a=>l2_ c (.nle (.a v1 k2) v0) f0 [16777280] g a rfl) fun a=>l2_ c f1 f2 [4160] (nnn s) a rfl
theorem q390 {s:Nat} (h0:0≤(s:Int)):(Int.toNat ((s:Int)+1))=s+1:=let c:List Int:=[(((Int.toNat ((s:Int)+1)):Nat):Int),s];let f0:LF:=.an (.le k0 (.a v1 k1)) (.eq v0 (.a v1 k1));let f1:LF:=.le k0 v1;let f2:LF:=.an (.lt (.a v1 k1) k0) (.eq v0 k0);gneq (fun g=>(tnE ((s:Int)+1)).elim (fun a=>l2_ c (.nle v0 (.a v1 k1)) f0 [262208] g a rfl) fun a=>l2_ c f1 f2 [4160] h0 a rfl) fun g=>(tnE ((s:Int)+1)).elim (fun a=>l2_ c (.nle (.a v1 k1) v0) f0 [16777280] g a rfl) fun a=>l2_ c f1 f2 [4160] h0 a rfl
theorem q391 {s:Nat} :s+0<s+2:=gnlt fun g=>l1_ [s] (.nlt (.a v0 k0) (.a v0 k2)) [64] g rfl
theorem q392 {s t:Nat} (h0:((s:Int)+2)≤(t:Int)):s<t:=gnlt fun g=>l2_ [s,t] (.le (.a v0 k2) v1) (.nlt v0 v1) [4160] h0 g rfl
theorem q393 {s:Nat} :s+1<s+2:=gnlt fun g=>l1_ [s] (.nlt (.a v0 k1) (.a v0 k2)) [64] g rfl
theorem q394 {s t:Nat} (h0:((s:Int)+2)≤(t:Int)):s+1<t:=gnlt fun g=>l2_ [s,t] (.le (.a v0 k2) v1) (.nlt (.a v0 k1) v1) [4160] h0 g rfl
theorem q395 {s t u:Nat} :min (s+2) t≤s+(u+2):=let c:List Int:=[(((min (s+2) t):Nat):Int),s,u,t];let f0:LF:=.nle v0 (.a v1 (.a v2 k2));let f1:LF:=.le k0 v2;gnle fun g=>(mnN (s+2) t).elim (fun a=>l3_ c f0 f1 (.an (.le (.a v1 k2) v3) (.eq v0 (.a v1 k2))) [16781376] g (nnn u) a rfl) fun a=>l3_ c f0 f1 (.an (.lt v3 (.a v1 k2)) (.eq v0 v3)) [17043520] g (nnn u) a rfl
theorem q396 {s:Nat} (h0:s%2=1):s+1=(((s+1)/2)*2):=let c:List Int:=[(((s%2):Nat):Int),s,((((s+1)/2):Nat):Int),((((s+1)%2):Nat):Int),(((s/2):Nat):Int)];let f0:LF:=.an (.eq (.a (.m 2 v2) v3) (.a v1 k1)) (.an (.le k0 v3) (.lt v3 k2));gneq (fun g=>l4_ c (.eq v0 k1) (.nle (.a v1 k1) (.r v2 2)) f0 (.an (.eq (.a (.m 2 v4) v0) v1) (.an (.le k0 v0) (.lt v0 k2))) [285874096967681,1152921574416846849,4160] (neq h0) g (dmN (s+1) 1) (dmN s 1) rfl) fun g=>l2_ c (.nle (.r v2 2) (.a v1 k1)) f0 [16781376] g (dmN (s+1) 1) rfl
theorem q397 {s:Nat} (h0:¬(s%2=1)):s=(((s+1)/2)*2):=let c:List Int:=[s,((((s+1)/2):Nat):Int),((((s+1)%2):Nat):Int),(((s/2):Nat):Int),(((s%2):Nat):Int)];let f0:LF:=.an (.eq (.a (.m 2 v1) v2) (.a v0 k1)) (.an (.le k0 v2) (.lt v2 k2));let f1:LF:=.an (.eq (.a (.m 2 v3) v4) v0) (.an (.le k0 v4) (.lt v4 k2));gneq (fun g=>l2_ c (.nle v0 (.r v1 2)) f0 [1074004032] g (dmN (s+1) 1) rfl) fun g=>(ltgt (nne h0)).elim (fun a=>l4_ c (.nle (.r v1 2) v0) f0 f1 (.lt v4 k1) [281543696453697,73787257770888921089,4160] g (dmN (s+1) 1) (dmN s 1) a rfl) fun a=>l2_ c f1 (.lt k1 v4) [1090519040] (dmN s 1) a rfl
theorem q398 {s:Int} {t:Nat} (h0:0≤s) (h1:s<(t:Int)):s.toNat<t:=let c:List Int:=[s,t,↑s.toNat];gnlt fun g=>(tnE s).elim (fun a=>l3_ c (.lt v0 v1) (.nlt v2 v1) (.an (.le k0 v0) (.eq v2 v0)) [16781376] h1 g a rfl) fun a=>l2_ c (.le k0 v0) (.an (.lt v0 k0) (.eq v2 k0)) [4160] h0 a rfl
theorem q399 {s t:Nat} (h0:s<(t+1)/2):((2*(s:Int))+2)≤(((t+1):Nat):Int):=gle fun g=>l3_ [s,((((t+1)/2):Nat):Int),t,((((t+1)%2):Nat):Int)] (.lt v0 v1) (.nle (.a (.m 2 v0) k2) (.a v2 k1)) (.an (.eq (.a (.m 2 v1) v3) (.a v2 k1)) (.an (.le k0 v3) (.lt v3 k2))) [1074008192] (nlt h0) g (dmN (t+1) 1) rfl
theorem q400 {s t:Nat} (h0:s<(t+1)/2):(2*(s:Int))<(t:Int):=glt fun g=>l3_ [s,((((t+1)/2):Nat):Int),t,((((t+1)%2):Nat):Int)] (.lt v0 v1) (.nlt (.m 2 v0) v2) (.an (.eq (.a (.m 2 v1) v3) (.a v2 k1)) (.an (.le k0 v3) (.lt v3 k2))) [1074008192] (nlt h0) g (dmN (t+1) 1) rfl
theorem q401 {s t:Nat} (h0:s<(t+1)/2) (h1:¬(t%2=1)):((2*(s:Int))+1)<(t:Int):=let c:List Int:=[s,((((t+1)/2):Nat):Int),t,((((t+1)%2):Nat):Int),(((t/2):Nat):Int),(((t%2):Nat):Int)];let f0:LF:=.an (.eq (.a (.m 2 v4) v5) v2) (.an (.le k0 v5) (.lt v5 k2));glt fun g=>(ltgt (nne h1)).elim (fun a=>l5_ c (.lt v0 v1) (.nlt (.a (.m 2 v0) k1) v2) (.an (.eq (.a (.m 2 v1) v3) (.a v2 k1)) (.an (.le k0 v3) (.lt v3 k2))) f0 (.lt v5 k1) [73787257770888921089,1153202980674338817,266304] (nlt h0) g (dmN (t+1) 1) (dmN t 1) a rfl) fun a=>l2_ c f0 (.lt k1 v5) [1090519040] (dmN t 1) a rfl
theorem q402 {s:Int} {t u:Nat} (h0:0≤s) (h1:(s+(t:Int))≤(u:Int)):(((min s.toNat u)+t)+(u-(Int.toNat (s+(t:Int)))))=u:=let c:List Int:=[(((min s.toNat u):Nat):Int),t,(((u-(Int.toNat (s+(t:Int)))):Nat):Int),u,s,↑s.toNat,(((Int.toNat (s+(t:Int))):Nat):Int)];let f0:LF:=.nle (.a (.a v0 v1) v2) v3;let f1:LF:=.an (.le k0 v4) (.eq v5 v4);let f2:LF:=.an (.le v5 v3) (.eq v0 v5);let f3:LF:=.an (.le v6 v3) (.eq v2 (.s v3 v6));let f4:LF:=.an (.le k0 (.a v4 v1)) (.eq v6 (.a v4 v1));let f5:LF:=.an (.lt (.a v4 v1) k0) (.eq v6 k0);let f6:LF:=.le (.a v4 v1) v3;let f7:LF:=.an (.lt v3 v6) (.eq v2 k0);let f8:LF:=.le k0 v1;let f9:LF:=.an (.lt v3 v5) (.eq v0 v3);let f10:LF:=.le k0 v4;let f11:LF:=.an (.lt v4 k0) (.eq v5 k0);let f12:LF:=.nle v3 (.a (.a v0 v1) v2);gneq (fun g=>(tnE s).elim (fun a=>(mnN s.toNat u).elim (fun b=>(sbE u (Int.toNat (s+(t:Int)))).elim (fun d=>(tnE (s+(t:Int))).elim (fun e=>l5_ c f0 f1 f2 f3 f4 [302231472918124522897472] g a b d e rfl) fun e=>l5_ c f0 f1 f2 f3 f5 [302305259894419361103936] g a b d e rfl) fun d=>l5_ c f6 f0 f1 f2 f7 [1152925902670139456] h1 g a b d rfl) fun b=>l4_ c f6 f8 f1 f9 [285941759479872] h1 (nnn t) a b rfl) fun a=>l2_ c f10 f11 [4160] h0 a rfl) fun g=>(mnN s.toNat u).elim (fun a=>(tnE s).elim (fun b=>(tnE (s+(t:Int))).elim (fun d=>(sbE u (Int.toNat (s+(t:Int)))).elim (fun e=>l5_ c f12 f2 f1 f4 f3 [302231472922453866446912] g a b d e rfl) fun e=>l5_ c f12 f2 f1 f4 f7 [302305259898748704653376] g a b d e rfl) fun d=>l3_ c f10 f8 f5 [266304] h0 (nnn t) d rfl) fun b=>l2_ c f10 f11 [4160] h0 b rfl) fun a=>l4_ c f12 f8 (.le k0 v2) f9 [68719743040] g (nnn t) (nnn (u-(Int.toNat (s+(t:Int))))) a rfl
theorem q403  :(10:Int)≤(12:Int):=gle fun g=>l1_ [] (.nle (.k 10) (.k 12)) [64] g rfl
theorem q404 {s t:Int} {u:Nat} {v w x:Int} (h0:2≤s) (h1:¬((t<0)∨(((u:Int)<(t+s)+2)∨((v<w)∧(x=1))))):0≤t+s:=gle fun g=>l3_ [s,t] (.le k2 v0) (.nlt v1 k0) (.nle k0 (.a v1 v0)) [266304] h0 (not_or.mp h1).1 g rfl
theorem q405 {s:Int} {t:Nat} {u:Int} (h0:0≤s) (h1:(s+(t:Int))<u):s.toNat+t<u.toNat:=let c:List Int:=[s,t,u,↑s.toNat,↑u.toNat];let f0:LF:=.lt (.a v0 v1) v2;let f1:LF:=.nlt (.a v3 v1) v4;let f2:LF:=.an (.le k0 v0) (.eq v3 v0);gnlt fun g=>(tnE s).elim (fun a=>(tnE u).elim (fun b=>l4_ c f0 f1 f2 (.an (.le k0 v2) (.eq v4 v2)) [281474993492032] h1 g a b rfl) fun b=>l4_ c f0 f1 f2 (.an (.lt v2 k0) (.eq v4 k0)) [281543712968768] h1 g a b rfl) fun a=>l2_ c (.le k0 v0) (.an (.lt v0 k0) (.eq v3 k0)) [4160] h0 a rfl
theorem q406 {s:Int} {t:Nat} {u:Int} {v:Nat} (h0:0≤s) (h1:¬((s+(t:Int))<u)):min u.toNat v≤s.toNat+t:=let c:List Int:=[s,t,u,(((min u.toNat v):Nat):Int),↑s.toNat,↑u.toNat,v];let f0:LF:=.nlt (.a v0 v1) v2;let f1:LF:=.nle v3 (.a v4 v1);let f2:LF:=.an (.le k0 v0) (.eq v4 v0);let f3:LF:=.an (.le v5 v6) (.eq v3 v5);let f4:LF:=.an (.le k0 v2) (.eq v5 v2);let f5:LF:=.le k0 v1;let f6:LF:=.an (.lt v2 k0) (.eq v5 k0);let f7:LF:=.an (.lt v6 v5) (.eq v3 v6);gnle fun g=>(tnE s).elim (fun a=>(mnN u.toNat v).elim (fun b=>(tnE u).elim (fun d=>l5_ c f0 f1 f2 f3 f4 [1152925903727104064] h1 g a b d rfl) fun d=>l5_ c f1 f5 f2 f3 f6 [1152925903727366208] g (nnn t) a b d rfl) fun b=>(tnE u).elim (fun d=>l5_ c f0 f1 f2 f7 f4 [1152925972446580800] h1 g a b d rfl) fun d=>l5_ c f1 f5 f2 f7 f6 [1152925972446842944] g (nnn t) a b d rfl) fun a=>l2_ c (.le k0 v0) (.an (.lt v0 k0) (.eq v4 k0)) [4160] h0 a rfl
theorem q407 {s t:Nat} (h0:s≤t):max s t=t:=let c:List Int:=[(((max s t):Nat):Int),t,s];let f0:LF:=.an (.le v2 v1) (.eq v0 v1);let f1:LF:=.an (.lt v1 v2) (.eq v0 v2);let f2:LF:=.nle v1 v0;gneq (fun g=>(mxN s t).elim (fun a=>l2_ c (.nle v0 v1) f0 [262208] g a rfl) fun a=>l2_ c (.le v2 v1) f1 [17043520] (nle h0) a rfl) fun g=>(mxN s t).elim (fun a=>l2_ c f2 f0 [16777280] g a rfl) fun a=>l2_ c f2 f1 [16781376] g a rfl
theorem q408 {s t u:Nat} (h0:s≤t) (h1:t≤u):min s u=s:=let c:List Int:=[(((min s u):Nat):Int),s,u,t];let f0:LF:=.nle v0 v1;let f1:LF:=.an (.le v1 v2) (.eq v0 v1);let f2:LF:=.an (.lt v2 v1) (.eq v0 v2);gneq (fun g=>(mnN s u).elim (fun a=>l2_ c f0 f1 [262208] g a rfl) fun a=>l2_ c f0 f2 [266304] g a rfl) fun g=>(mnN s u).elim (fun a=>l2_ c (.nle v1 v0) f1 [16777280] g a rfl) fun a=>l3_ c (.le v1 v3) (.le v3 v2) f2 [1090785344] (nle h0) (nle h1) a rfl
theorem q409 {s t u:Nat} (h0:s=t) (h1:u<t):u<s:=gnlt fun g=>l3_ [s,t,u] (.eq v0 v1) (.lt v2 v1) (.nlt v2 v0) [17043456] (neq h0) (nlt h1) g rfl
theorem q410 {s t u:Nat} (h0:s=t) (h1:¬(u<t)):s≤u:=gnle fun g=>l3_ [s,t,u] (.eq v0 v1) (.nlt v2 v1) (.nle v0 v2) [17039424] (neq h0) (nnlt h1) g rfl
theorem q411 {s t u v:Nat} (h0:s=t-u) (h1:¬(v<u)) (h2:v<t):v-u<s:=let c:List Int:=[s,(((t-u):Nat):Int),v,t,(((v-u):Nat):Int),u];let f0:LF:=.lt v2 v3;let f1:LF:=.nlt v2 v5;gnlt fun g=>(sbE t u).elim (fun a=>(sbE v u).elim (fun b=>l5_ c (.eq v0 v1) f0 (.nlt v4 v0) (.an (.le v5 v3) (.eq v1 (.s v3 v5))) (.an (.le v5 v2) (.eq v4 (.s v2 v5))) [18018796573036544] (neq h0) (nlt h2) g a b rfl) fun b=>l2_ c f1 (.an (.lt v2 v5) (.eq v4 k0)) [4160] (nnlt h1) b rfl) fun a=>l3_ c f1 f0 (.an (.lt v3 v5) (.eq v1 k0)) [266304] (nnlt h1) (nlt h2) a rfl
theorem q412 {s t u v:Nat} (h0:s=t-u) (h1:¬(v<t)):s≤v-u:=let c:List Int:=[s,(((t-u):Nat):Int),v,t,(((v-u):Nat):Int),u];let f0:LF:=.eq v0 v1;let f1:LF:=.nlt v2 v3;let f2:LF:=.nle v0 v4;let f3:LF:=.an (.le v5 v3) (.eq v1 (.s v3 v5));gnle fun g=>(sbE t u).elim (fun a=>(sbE v u).elim (fun b=>l5_ c f0 f1 f2 f3 (.an (.le v5 v2) (.eq v4 (.s v2 v5))) [1152921573343363136] (neq h0) (nnlt h1) g a b rfl) fun b=>l3_ c f1 f3 (.an (.lt v2 v5) (.eq v4 k0)) [1073745984] (nnlt h1) a b rfl) fun a=>l4_ c f0 f2 (.le k0 v4) (.an (.lt v3 v5) (.eq v1 k0)) [68736516160] (neq h0) g (nnn (v-u)) a rfl
theorem q413 {s t u:Nat} (h0:s≤t) (h1:¬(u<t)):(t+((u-s)-(t-s)))=u:=let c:List Int:=[t,((((u-s)-(t-s)):Nat):Int),u,(((t-s):Nat):Int),(((u-s):Nat):Int),s];let f0:LF:=.nle (.a v0 v1) v2;let f1:LF:=.an (.le v3 v4) (.eq v1 (.s v4 v3));let f2:LF:=.an (.le v5 v2) (.eq v4 (.s v2 v5));let f3:LF:=.an (.le v5 v0) (.eq v3 (.s v0 v5));let f4:LF:=.an (.lt v0 v5) (.eq v3 k0);let f5:LF:=.nlt v2 v0;let f6:LF:=.an (.lt v2 v5) (.eq v4 k0);let f7:LF:=.an (.lt v4 v3) (.eq v1 k0);let f8:LF:=.nle v2 (.a v0 v1);let f9:LF:=.le v5 v0;gneq (fun g=>(sbE (u-s) (t-s)).elim (fun a=>(sbE u s).elim (fun b=>(sbE t s).elim (fun d=>l4_ c f0 f1 f2 f3 [1152921573326585920] g a b d rfl) fun d=>l4_ c f0 f1 f2 f4 [1153203048303296576] g a b d rfl) fun b=>l5_ c f5 f0 (.le k0 v3) f1 f6 [281476050718784] (nnlt h1) g (nnn (t-s)) a b rfl) fun a=>l3_ c f5 f0 f7 [16781376] (nnlt h1) g a rfl) fun g=>(sbE u s).elim (fun a=>(sbE t s).elim (fun b=>(sbE (u-s) (t-s)).elim (fun d=>l4_ c f8 f2 f3 f1 [1152921573343100992] g a b d rfl) fun d=>l4_ c f8 f2 f3 f7 [1153203048319811648] g a b d rfl) fun b=>l2_ c f9 f4 [4160] (nle h0) b rfl) fun a=>l4_ c f9 f8 (.le k0 v1) f6 [17043520] (nle h0) g (nnn ((u-s)-(t-s))) a rfl
theorem q414 {s t:Int} (h0:s≤t):s.toNat≤t.toNat:=let c:List Int:=[s,t,↑s.toNat,↑t.toNat];let f0:LF:=.le v0 v1;let f1:LF:=.nle v2 v3;let f2:LF:=.an (.le k0 v0) (.eq v2 v0);gnle fun g=>(tnE s).elim (fun a=>(tnE t).elim (fun b=>l4_ c f0 f1 f2 (.an (.le k0 v1) (.eq v3 v1)) [281474993492032] h0 g a b rfl) fun b=>l3_ c f0 f2 (.an (.lt v1 k0) (.eq v3 k0)) [1090785344] h0 a b rfl) fun a=>l3_ c f1 (.le k0 v3) (.an (.lt v0 k0) (.eq v2 k0)) [16781376] g (nnn t.toNat) a rfl
theorem q415 {s:Int} {t:Nat} {u:Int} (h0:0≤s) (h1:(t:Int)=u-s):t=u.toNat-s.toNat:=let c:List Int:=[t,u,s,(((u.toNat-s.toNat):Nat):Int),↑u.toNat,↑s.toNat];let f0:LF:=.eq v0 (.s v1 v2);let f1:LF:=.nle v0 v3;let f2:LF:=.an (.le k0 v1) (.eq v4 v1);let f3:LF:=.an (.le k0 v2) (.eq v5 v2);let f4:LF:=.an (.le v5 v4) (.eq v3 (.s v4 v5));let f5:LF:=.an (.lt v4 v5) (.eq v3 k0);let f6:LF:=.le k0 v2;let f7:LF:=.an (.lt v2 k0) (.eq v5 k0);let f8:LF:=.an (.lt v1 k0) (.eq v4 k0);let f9:LF:=.nle v3 v0;let f10:LF:=.le k0 v0;gneq (fun g=>(tnE u).elim (fun a=>(tnE s).elim (fun b=>(sbE u.toNat s.toNat).elim (fun d=>l5_ c f0 f1 f2 f3 f4 [4722366764413341663296] h1 g a b d rfl) fun d=>l5_ c f0 f1 f2 f3 f5 [4723519685917948510272] h1 g a b d rfl) fun b=>l2_ c f6 f7 [4160] h0 b rfl) fun a=>l5_ c f6 f0 f1 (.le k0 v3) f8 [69809999936] h0 h1 g (nnn (u.toNat-s.toNat)) a rfl) fun g=>(sbE u.toNat s.toNat).elim (fun a=>(tnE u).elim (fun b=>(tnE s).elim (fun d=>l5_ c f0 f9 f4 f2 f3 [4722366764345695932416] h1 g a b d rfl) fun d=>l5_ c f0 f9 f4 f2 f7 [4723519685850302779392] h1 g a b d rfl) fun b=>l5_ c f9 f10 (.le k0 v5) f4 f8 [281476050718784] g (nnn t) (nnn s.toNat) a b rfl) fun a=>l3_ c f9 f10 f5 [16781376] g (nnn t) a rfl
theorem q416 {s t u:Int} {v:Nat} (h0:0≤s) (h1:s≤t) (h2:0≤u) (h3:t≤u):¬(u.toNat+v<s.toNat):=let c:List Int:=[s,t,u,↑u.toNat,v,↑s.toNat];fun g=>(tnE u).elim (fun a=>(tnE s).elim (fun b=>l6_ c (.le v0 v1) (.le v1 v2) (.lt (.a v3 v4) v5) (.le k0 v4) (.an (.le k0 v2) (.eq v3 v2)) (.an (.le k0 v0) (.eq v5 v0)) [18018796573036608] h1 h3 (nlt g) (nnn v) a b rfl) fun b=>l2_ c (.le k0 v0) (.an (.lt v0 k0) (.eq v5 k0)) [4160] h0 b rfl) fun a=>l2_ c (.le k0 v2) (.an (.lt v2 k0) (.eq v3 k0)) [4160] h2 a rfl
theorem q417 {s t u:Int} {v:Nat} (h0:0≤s) (h1:s≤t) (h2:0≤u) (h3:t≤u):¬(u.toNat+v<t.toNat):=let c:List Int:=[t,u,↑u.toNat,v,↑t.toNat,s];fun g=>(tnE u).elim (fun a=>(tnE t).elim (fun b=>l5_ c (.le v0 v1) (.lt (.a v2 v3) v4) (.le k0 v3) (.an (.le k0 v1) (.eq v2 v1)) (.an (.le k0 v0) (.eq v4 v0)) [281543696453696] h3 (nlt g) (nnn v) a b rfl) fun b=>l3_ c (.le k0 v5) (.le v5 v0) (.an (.lt v0 k0) (.eq v4 k0)) [266304] h0 h1 b rfl) fun a=>l2_ c (.le k0 v1) (.an (.lt v1 k0) (.eq v2 k0)) [4160] h2 a rfl
theorem q418 {s:Int} {t:Nat} {u v:Int} (h0:0≤s) (h1:(s+(t:Int))<u) (h2:u≤v):s.toNat+t<v.toNat:=let c:List Int:=[s,t,u,v,↑s.toNat,↑v.toNat];let f0:LF:=.lt (.a v0 v1) v2;let f1:LF:=.le v2 v3;let f2:LF:=.nlt (.a v4 v1) v5;let f3:LF:=.an (.le k0 v0) (.eq v4 v0);gnlt fun g=>(tnE s).elim (fun a=>(tnE v).elim (fun b=>l5_ c f0 f1 f2 f3 (.an (.le k0 v3) (.eq v5 v3)) [18014399583490112] h1 h2 g a b rfl) fun b=>l5_ c f0 f1 f2 f3 (.an (.lt v3 k0) (.eq v5 k0)) [18018797630001216] h1 h2 g a b rfl) fun a=>l2_ c (.le k0 v0) (.an (.lt v0 k0) (.eq v4 k0)) [4160] h0 a rfl
theorem q419 {s:Int} {t:Nat} {u:Int} (h0:(s+(t:Int))<u):s.toNat≤u.toNat:=let c:List Int:=[s,t,u,↑s.toNat,↑u.toNat];let f0:LF:=.lt (.a v0 v1) v2;let f1:LF:=.nle v3 v4;let f2:LF:=.le k0 v1;let f3:LF:=.an (.le k0 v0) (.eq v3 v0);gnle fun g=>(tnE s).elim (fun a=>(tnE u).elim (fun b=>l5_ c f0 f1 f2 f3 (.an (.le k0 v2) (.eq v4 v2)) [18014399583490112] h0 g (nnn t) a b rfl) fun b=>l4_ c f0 f2 f3 (.an (.lt v2 k0) (.eq v4 k0)) [69810262080] h0 (nnn t) a b rfl) fun a=>l3_ c f1 (.le k0 v4) (.an (.lt v0 k0) (.eq v3 k0)) [16781376] g (nnn u.toNat) a rfl
theorem q420 {s:Int} {t:Nat} :¬(s.toNat+t<s.toNat):=fun g=>l2_ [↑s.toNat,t] (.lt (.a v0 v1) v0) (.le k0 v1) [4160] (nlt g) (nnn t) rfl
theorem q421 {s:Int} {t:Nat} :(s.toNat+t)-s.toNat=t:=let c:List Int:=[((((s.toNat+t)-s.toNat):Nat):Int),t,↑s.toNat];let f0:LF:=.an (.le v2 (.a v2 v1)) (.eq v0 (.s (.a v2 v1) v2));let f1:LF:=.an (.lt (.a v2 v1) v2) (.eq v0 k0);let f2:LF:=.nle v1 v0;gneq (fun g=>(sbE (s.toNat+t) s.toNat).elim (fun a=>l2_ c (.nle v0 v1) f0 [262208] g a rfl) fun a=>l2_ c (.le k0 v1) f1 [4160] (nnn t) a rfl) fun g=>(sbE (s.toNat+t) s.toNat).elim (fun a=>l2_ c f2 f0 [16777280] g a rfl) fun a=>l2_ c f2 f1 [16781376] g a rfl
theorem q422 {s:Nat} {t u:Int} {v:Nat} (h0:(s:Int)=t-u) (h1:¬((u+(v:Int))<t)):s≤v:=gnle fun g=>l3_ [s,t,u,v] (.eq v0 (.s v1 v2)) (.nlt (.a v2 v3) v1) (.nle v0 v3) [17039424] h0 h1 g rfl
theorem q423 {s t:Int} (h0:0≤s) (h1:s≤t):s.toNat≤t.toNat:=let c:List Int:=[s,t,↑s.toNat,↑t.toNat];let f0:LF:=.le v0 v1;let f1:LF:=.an (.le k0 v0) (.eq v2 v0);gnle fun g=>(tnE s).elim (fun a=>(tnE t).elim (fun b=>l4_ c f0 (.nle v2 v3) f1 (.an (.le k0 v1) (.eq v3 v1)) [281474993492032] h1 g a b rfl) fun b=>l3_ c f0 f1 (.an (.lt v1 k0) (.eq v3 k0)) [1090785344] h1 a b rfl) fun a=>l2_ c (.le k0 v0) (.an (.lt v0 k0) (.eq v2 k0)) [4160] h0 a rfl
theorem q424 {s t:Int} (h0:0≤s):Int.toNat (t-s)=t.toNat-s.toNat:=let c:List Int:=[(((Int.toNat (t-s)):Nat):Int),(((t.toNat-s.toNat):Nat):Int),t,s,↑t.toNat,↑s.toNat];let f0:LF:=.nle v0 v1;let f1:LF:=.an (.le k0 (.s v2 v3)) (.eq v0 (.s v2 v3));let f2:LF:=.an (.le k0 v2) (.eq v4 v2);let f3:LF:=.an (.le k0 v3) (.eq v5 v3);let f4:LF:=.an (.le v5 v4) (.eq v1 (.s v4 v5));let f5:LF:=.an (.lt v4 v5) (.eq v1 k0);let f6:LF:=.le k0 v3;let f7:LF:=.an (.lt v3 k0) (.eq v5 k0);let f8:LF:=.an (.lt v2 k0) (.eq v4 k0);let f9:LF:=.an (.lt (.s v2 v3) k0) (.eq v0 k0);let f10:LF:=.nle v1 v0;let f11:LF:=.le k0 v0;gneq (fun g=>(tnE (t-s)).elim (fun a=>(tnE t).elim (fun b=>(tnE s).elim (fun d=>(sbE t.toNat s.toNat).elim (fun e=>l5_ c f0 f1 f2 f3 f4 [302231472922453849931840] g a b d e rfl) fun e=>l4_ c f1 f2 f3 f5 [1153203048303300672] a b d e rfl) fun d=>l2_ c f6 f7 [4160] h0 d rfl) fun b=>l3_ c f6 f1 f8 [1090785344] h0 a b rfl) fun a=>l3_ c f0 (.le k0 v1) f9 [16781376] g (nnn (t.toNat-s.toNat)) a rfl) fun g=>(sbE t.toNat s.toNat).elim (fun a=>(tnE t).elim (fun b=>(tnE s).elim (fun d=>(tnE (t-s)).elim (fun e=>l5_ c f10 f4 f2 f3 f1 [302232607825230620262464] g a b d e rfl) fun e=>l4_ c f4 f2 f3 f9 [1170935904190070848] a b d e rfl) fun d=>l2_ c f6 f7 [4160] h0 d rfl) fun b=>l5_ c f10 f11 (.le k0 v5) f4 f8 [281476050718784] g (nnn (Int.toNat (t-s))) (nnn s.toNat) a b rfl) fun a=>l3_ c f10 f11 f5 [16781376] g (nnn (Int.toNat (t-s))) a rfl
theorem q425 {s:Int} {t:Nat} {u:Int} (h0:0≤s) (h1:¬(t<s.toNat)) (h2:t<u.toNat):(s+(((t-s.toNat):Nat):Int))<u:=let c:List Int:=[t,↑u.toNat,s,(((t-s.toNat):Nat):Int),u,↑s.toNat];let f0:LF:=.lt v0 v1;glt fun g=>(tnE s).elim (fun a=>(tnE u).elim (fun b=>(sbE t s.toNat).elim (fun d=>l5_ c f0 (.nlt (.a v2 v3) v4) (.an (.le k0 v2) (.eq v5 v2)) (.an (.le k0 v4) (.eq v1 v4)) (.an (.le v5 v0) (.eq v3 (.s v0 v5))) [1152925903727104064] (nlt h2) g a b d rfl) fun d=>l2_ c (.nlt v0 v5) (.an (.lt v0 v5) (.eq v3 k0)) [4160] (nnlt h1) d rfl) fun b=>l3_ c f0 (.le k0 v0) (.an (.lt v4 k0) (.eq v1 k0)) [16781376] (nlt h2) (nnn t) b rfl) fun a=>l2_ c (.le k0 v2) (.an (.lt v2 k0) (.eq v5 k0)) [4160] h0 a rfl
theorem q426 {s:Nat} {t:Int} (h0:¬(s<t.toNat)):t.toNat+(s-t.toNat)=s:=let c:List Int:=[↑t.toNat,(((s-t.toNat):Nat):Int),s];let f0:LF:=.an (.le v0 v2) (.eq v1 (.s v2 v0));let f1:LF:=.an (.lt v2 v0) (.eq v1 k0);let f2:LF:=.nle v2 (.a v0 v1);gneq (fun g=>(sbE s t.toNat).elim (fun a=>l2_ c (.nle (.a v0 v1) v2) f0 [262208] g a rfl) fun a=>l2_ c (.nlt v2 v0) f1 [4160] (nnlt h0) a rfl) fun g=>(sbE s t.toNat).elim (fun a=>l2_ c f2 f0 [16777280] g a rfl) fun a=>l2_ c f2 f1 [16781376] g a rfl
theorem q427 {s t:Int} (h0:(0≤s)∧(s<256)):((((t*256)+s)/1)%256)=s:=let c:List Int:=[s,((((t*256)+s)/1)%256),((((t*256)+s)/1)/256),(((t*256)+s)/1),(((t*256)+s)%1),t];let f0:LF:=.an (.eq (.a (.m 256 v2) v1) v3) (.an (.le k0 v1) (.lt v1 (.k 256)));let f1:LF:=.an (.eq (.a (.m 1 v3) v4) (.a (.r v5 256) v0)) (.an (.le k0 v4) (.lt v4 k1));geq (fun g=>m4_ c (.le k0 v0) (.nle v1 v0) f0 f1 [1532495540867282654933255191096655167163702248896200959,1684996666698447482707555725593660173561068781803025962310236635136] h0.1 g (dmI (((t*256)+s)/1) 255) (dmI ((t*256)+s) 0) rfl) fun g=>m4_ c (.lt v0 (.k 256)) (.nle v0 v1) f0 f1 [1606938044260451777179292995259366288563845096418177454178559,1606938044260451777179294324487362073479718000225238002958336] h0.2 g (dmI (((t*256)+s)/1) 255) (dmI ((t*256)+s) 0) rfl
theorem q428 {s:Int} {t:Nat} (h0:0≤s):(max s.toNat (Int.toNat (s+(t:Int))))=(Int.toNat (s+(t:Int))):=let c:List Int:=[(((max s.toNat (Int.toNat (s+(t:Int)))):Nat):Int),(((Int.toNat (s+(t:Int))):Nat):Int),↑s.toNat,t,s];let f0:LF:=.an (.le v2 v1) (.eq v0 v1);let f1:LF:=.le k0 v3;let f2:LF:=.an (.lt v1 v2) (.eq v0 v2);let f3:LF:=.le k0 v4;let f4:LF:=.nle v1 v0;gneq (fun g=>(mxN s.toNat (Int.toNat (s+(t:Int)))).elim (fun a=>l2_ c (.nle v0 v1) f0 [262208] g a rfl) fun a=>(tnE (s+(t:Int))).elim (fun b=>(tnE s).elim (fun d=>l4_ c f1 f2 (.an (.le k0 (.a v4 v3)) (.eq v1 (.a v4 v3))) (.an (.le k0 v4) (.eq v2 v4)) [18018796555997248] (nnn t) a b d rfl) fun d=>l2_ c f3 (.an (.lt v4 k0) (.eq v2 k0)) [4160] h0 d rfl) fun b=>l3_ c f3 f1 (.an (.lt (.a v4 v3) k0) (.eq v1 k0)) [266304] h0 (nnn t) b rfl) fun g=>(mxN s.toNat (Int.toNat (s+(t:Int)))).elim (fun b=>l2_ c f4 f0 [16777280] g b rfl) fun b=>l2_ c f4 f2 [16781376] g b rfl
theorem q429 {s:Nat} (h0:s%2=0):¬(s%2=1):=fun g=>l2_ [(((s%2):Nat):Int)] (.eq v0 k0) (.eq v0 k1) [16777280] (neq h0) (neq g) rfl
theorem q430 {s:Int} (h0:s%2=0):(((s+1)/2)*2)=s:=let c:List Int:=[(s%2),((s+1)/2),s,((s+1)%2),(s/2)];let f0:LF:=.an (.eq (.a (.m 2 v1) v3) (.a v2 k1)) (.an (.le k0 v3) (.lt v3 k2));geq (fun g=>l4_ c (.eq v0 k0) (.nle (.r v1 2) v2) f0 (.an (.eq (.a (.m 2 v4) v0) v2) (.an (.le k0 v0) (.lt v0 k2))) [281476067495937,1152925903727104001,4160] h0 g (dmI (s+1) 1) (dmI s 1) rfl) fun g=>l2_ c (.nle v2 (.r v1 2)) f0 [1074004032] g (dmI (s+1) 1) rfl
theorem q431 {s:Nat} {t u:Int} (h0:s=Int.toNat (t-u)):¬((s:Int)<t-u):=let c:List Int:=[s,(((Int.toNat (t-u)):Nat):Int),t,u];let f0:LF:=.eq v0 v1;let f1:LF:=.lt v0 (.s v2 v3);fun g=>(tnE (t-u)).elim (fun a=>l3_ c f0 f1 (.an (.le k0 (.s v2 v3)) (.eq v1 (.s v2 v3))) [68719742976] (neq h0) g a rfl) fun a=>l3_ c f0 f1 (.an (.lt (.s v2 v3) k0) (.eq v1 k0)) [68736520192] (neq h0) g a rfl
theorem q432 {s:Int} {t:Nat} {u:Int} (h0:s%2=0) (h1:t=Int.toNat (u-s)) (h2:(((u+1)/2)*2)=u):t%2=0:=let c:List Int:=[(s%2),t,(((Int.toNat (u-s)):Nat):Int),((u+1)/2),u,(((t%2):Nat):Int),(s/2),s,(((t/2):Nat):Int)];let f0:LF:=.eq v1 v2;let f1:LF:=.nle v5 k0;let f2:LF:=.an (.eq (.a (.m 2 v8) v5) v1) (.an (.le k0 v5) (.lt v5 k2));gneq (fun g=>(tnE (u-s)).elim (fun a=>l7_ c (.eq v0 k0) f0 (.eq (.r v3 2) v4) f1 (.an (.eq (.a (.m 2 v6) v0) v7) (.an (.le k0 v0) (.lt v0 k2))) f2 (.an (.le k0 (.s v4 v7)) (.eq v2 (.s v4 v7))) [5070602405635284374798200999937,20769266681644639045215220056199169,4160] h0 (neq h1) h2 g (dmI s 1) (dmN t 1) a rfl) fun a=>l4_ c f0 f1 f2 (.an (.lt (.s v4 v7) k0) (.eq v2 k0)) [18014398526521409,73787257838534656001,4160] (neq h1) g (dmN t 1) a rfl) fun g=>l2_ c (.nle k0 v5) (.le k0 v5) [4160] g (nnn (t%2)) rfl
theorem q433 {s:Int} (h0:¬(s%2=0)):(((s+1)/2)*2)=s+1:=let c:List Int:=[((s+1)/2),s,((s+1)%2),(s/2),(s%2)];let f0:LF:=.an (.eq (.a (.m 2 v0) v2) (.a v1 k1)) (.an (.le k0 v2) (.lt v2 k2));let f1:LF:=.an (.eq (.a (.m 2 v3) v4) v1) (.an (.le k0 v4) (.lt v4 k2));geq (fun g=>l2_ c (.nle (.r v0 2) (.a v1 k1)) f0 [16781376] g (dmI (s+1) 1) rfl) fun g=>(ltgt h0).elim (fun a=>l2_ c f1 (.lt v4 k0) [1074003968] (dmI s 1) a rfl) fun a=>l4_ c (.nle (.a v1 k1) (.r v0 2)) f0 f1 (.lt k0 v4) [1152921574400327681,1153202979600601089,4160] g (dmI (s+1) 1) (dmI s 1) a rfl
theorem q434 {s:Int} {t:Nat} (h0:s=(t:Int)):t≤Int.toNat (s+1):=let c:List Int:=[s,t,(((Int.toNat (s+1)):Nat):Int)];let f0:LF:=.eq v0 v1;let f1:LF:=.nle v1 v2;gnle fun g=>(tnE (s+1)).elim (fun a=>l3_ c f0 f1 (.an (.le k0 (.a v0 k1)) (.eq v2 (.a v0 k1))) [68719742976] h0 g a rfl) fun a=>l3_ c f0 f1 (.an (.lt (.a v0 k1) k0) (.eq v2 k0)) [68736520192] h0 g a rfl
theorem q435 {s:Int} {t:Nat} (h0:s=(t:Int)):t≤s.toNat:=let c:List Int:=[s,t,↑s.toNat];let f0:LF:=.eq v0 v1;let f1:LF:=.nle v1 v2;gnle fun g=>(tnE s).elim (fun a=>l3_ c f0 f1 (.an (.le k0 v0) (.eq v2 v0)) [68719742976] h0 g a rfl) fun a=>l3_ c f0 f1 (.an (.lt v0 k0) (.eq v2 k0)) [68736520192] h0 g a rfl
theorem q436 {s t:Int} {u:Nat} (h0:s≤t) (h1:u=Int.toNat (t-s)):(u:Int)<(t+1)-s:=let c:List Int:=[u,(((Int.toNat (t-s)):Nat):Int),t,s];glt fun g=>(tnE (t-s)).elim (fun a=>l3_ c (.eq v0 v1) (.nlt v0 (.s (.a v2 k1) v3)) (.an (.le k0 (.s v2 v3)) (.eq v1 (.s v2 v3))) [1074004032] (neq h1) g a rfl) fun a=>l2_ c (.le v3 v2) (.an (.lt (.s v2 v3) k0) (.eq v1 k0)) [4160] h0 a rfl
theorem q437 {s t:Int} {u:Nat} (h0:s≤t) (h1:s%2=0) (h2:u=Int.toNat (t-s)) (h3:(((t+1)/2)*2)=t+1):u%2=1:=let c:List Int:=[(((u%2):Nat):Int),(((u/2):Nat):Int),u,(s%2),(((Int.toNat (t-s)):Nat):Int),((t+1)/2),t,(s/2),s];let f0:LF:=.an (.eq (.a (.m 2 v1) v0) v2) (.an (.le k0 v0) (.lt v0 k2));gneq (fun g=>l2_ c (.nle v0 k1) f0 [1073741888] g (dmN u 1) rfl) fun g=>(tnE (t-s)).elim (fun a=>l7_ c (.eq v3 k0) (.eq v2 v4) (.eq (.r v5 2) (.a v6 k1)) (.nle k1 v0) (.an (.eq (.a (.m 2 v7) v3) v8) (.an (.le k0 v3) (.lt v3 k2))) f0 (.an (.le k0 (.s v6 v8)) (.eq v4 (.s v6 v8))) [5070621748448398204466949787649,20769187453482124781159101488959489,4160] h1 (neq h2) h3 g (dmI s 1) (dmN u 1) a rfl) fun a=>l2_ c (.le v8 v6) (.an (.lt (.s v6 v8) k0) (.eq v4 k0)) [4160] h0 a rfl
theorem q438 {s t:Int} (h0:s<t):s<(((t+1)/2)*2):=glt fun g=>l3_ [s,t,((t+1)/2),((t+1)%2)] (.lt v0 v1) (.nlt v0 (.r v2 2)) (.an (.eq (.a (.m 2 v2) v3) (.a v1 k1)) (.an (.le k0 v3) (.lt v3 k2))) [68736258112] h0 g (dmI (t+1) 1) rfl
theorem q439 {s t:Int} (h0:s<t):s≤t:=gle fun g=>l2_ [s,t] (.lt v0 v1) (.nle v0 v1) [4160] h0 g rfl
theorem q440 {s t:Nat} {u:Int} (h0:s=t) (h1:u≤(t:Int)):u≤(s:Int):=gle fun g=>l3_ [s,t,u] (.eq v0 v1) (.le v2 v1) (.nle v2 v0) [17043456] (neq h0) h1 g rfl
theorem q441 {s t:Nat} {u:Int} (h0:s=t) (h1:(u%2=0)∨(u=(t:Int))):(u%2=0)∨(u=(s:Int)):=let c:List Int:=[(u/2),(u%2),u,s,t];let f0:LF:=.eq v3 v4;let f1:LF:=.eq v2 v4;gor fun g g'=>(ltgt g).elim (fun a=>l2_ c (.an (.eq (.a (.m 2 v0) v1) v2) (.an (.le k0 v1) (.lt v1 k2))) (.lt v1 k0) [1074008128] (dmI u 1) a rfl) fun a=>h1.elim (fun b=>l2_ c (.lt k0 v1) (.eq v1 k0) [4160] a b rfl) fun b=>(ltgt g').elim (fun d=>l3_ c f0 f1 (.lt v2 v3) [1090519104] (neq h0) b d rfl) fun d=>l3_ c f0 f1 (.lt v3 v2) [1074008064] (neq h0) b d rfl
theorem q442 {s t u v:Int} (h0:s≤t) (h1:u≤v) (h2:t<u):max t s<min u v:=let c:List Int:=[s,t,u,(max t s),(min u v),v];let f0:LF:=.lt v1 v2;let f1:LF:=.nlt v3 v4;let f2:LF:=.an (.le v2 v5) (.eq v4 v2);glt fun g=>(mnI u v).elim (fun a=>(mxI t s).elim (fun b=>l5_ c (.le v0 v1) f0 f1 f2 (.an (.le v1 v0) (.eq v3 v0)) [281543696453696] h0 h2 g a b rfl) fun b=>l4_ c f0 f1 f2 (.an (.lt v0 v1) (.eq v3 v1)) [4399120257088] h2 g a b rfl) fun a=>l2_ c (.le v2 v5) (.an (.lt v5 v2) (.eq v4 v5)) [17043520] h1 a rfl
theorem q443 {s t:Int} (h0:s≤t):max t s=t:=let c:List Int:=[s,t,(max t s)];let f0:LF:=.nle v2 v1;let f1:LF:=.an (.le v1 v0) (.eq v2 v0);let f2:LF:=.an (.lt v0 v1) (.eq v2 v1);let f3:LF:=.nle v1 v2;geq (fun g=>(mxI t s).elim (fun a=>l3_ c (.le v0 v1) f0 f1 [16781376] h0 g a rfl) fun a=>l2_ c f0 f2 [262208] g a rfl) fun g=>(mxI t s).elim (fun a=>l2_ c f3 f1 [16781376] g a rfl) fun a=>l2_ c f3 f2 [16777280] g a rfl
theorem q444 {s t:Int} (h0:s≤t):min s t=s:=let c:List Int:=[(min s t),s,t];let f0:LF:=.nle v0 v1;let f1:LF:=.an (.le v1 v2) (.eq v0 v1);let f2:LF:=.an (.lt v2 v1) (.eq v0 v2);geq (fun g=>(mnI s t).elim (fun a=>l2_ c f0 f1 [262208] g a rfl) fun a=>l2_ c f0 f2 [266304] g a rfl) fun g=>(mnI s t).elim (fun a=>l2_ c (.nle v1 v0) f1 [16777280] g a rfl) fun a=>l2_ c (.le v1 v2) f2 [17043520] h0 a rfl
theorem q445 {s:Int} (h0:s%2=0):(s/2)*2=s:=let c:List Int:=[(s/2),s,(s%2)];let f0:LF:=.an (.eq (.a (.m 2 v0) v2) v1) (.an (.le k0 v2) (.lt v2 k2));geq (fun g=>l2_ c (.nle (.r v0 2) v1) f0 [16781376] g (dmI s 1) rfl) fun g=>l3_ c (.eq v2 k0) (.nle v1 (.r v0 2)) f0 [1074004032] h0 g (dmI s 1) rfl
theorem q446 {s t u v:Int} (h0:(s≤t)∨(u≤v)):¬(max t v<min u s):=let c:List Int:=[(max t v),(min u s),t,v,s,u];let f0:LF:=.lt v0 v1;let f1:LF:=.an (.le v2 v3) (.eq v0 v3);let f2:LF:=.le v4 v2;let f3:LF:=.an (.le v5 v4) (.eq v1 v5);let f4:LF:=.an (.lt v4 v5) (.eq v1 v4);let f5:LF:=.le v5 v3;let f6:LF:=.an (.lt v3 v2) (.eq v0 v2);fun g=>(mxI t v).elim (fun a=>h0.elim (fun b=>(mnI u s).elim (fun d=>l4_ c f0 f1 f2 f3 [4467856511040] g a b d rfl) fun d=>l4_ c f0 f1 f2 f4 [4399137034304] g a b d rfl) fun b=>(mnI u s).elim (fun d=>l4_ c f0 f1 f5 f3 [4399137030208] g a b d rfl) fun d=>l4_ c f0 f1 f5 f4 [4467856506944] g a b d rfl) fun a=>h0.elim (fun b=>(mnI u s).elim (fun d=>l4_ c f0 f6 f2 f3 [4467856506944] g a b d rfl) fun d=>l4_ c f0 f6 f2 f4 [4399137030208] g a b d rfl) fun b=>(mnI u s).elim (fun d=>l4_ c f0 f6 f5 f3 [4399137034304] g a b d rfl) fun d=>l4_ c f0 f6 f5 f4 [4467856511040] g a b d rfl
theorem q447 {s:Int} {t u:Nat} (h0:s+2≤(t:Int)) (h1:t=u):s+2≤(u:Int):=gle fun g=>l3_ [s,t,u] (.le (.a v0 k2) v1) (.eq v1 v2) (.nle (.a v0 k2) v2) [16781376] h0 (neq h1) g rfl
theorem q448 {s t:Int} (h0:0≤s) (h1:(s<0)∧(t=9999)):t=s:=geq (fun g=>l2_ [s] (.le k0 v0) (.lt v0 k0) [4160] h0 h1.1 rfl) fun g=>l3_ [s,t] (.lt v0 k0) (.eq v1 (.k 9999)) (.nle v0 v1) [17039424] h1.1 h1.2 g rfl
theorem q449 {s t:Int} (h0:0≤s) (h1:20≤t):0≤t+s:=gle fun g=>l3_ [s,t] (.le k0 v0) (.le (.k 20) v1) (.nle k0 (.a v1 v0)) [266304] h0 h1 g rfl
theorem q450 {s t:Nat} {u v:Int} (h0:s=t) (h1:(u+v)+2≤(t:Int)):(u+v)+2≤(s:Int):=gle fun g=>l3_ [s,t,u,v] (.eq v0 v1) (.le (.a (.a v2 v3) k2) v1) (.nle (.a (.a v2 v3) k2) v0) [17043456] (neq h0) h1 g rfl
theorem q451 {s:Int} (h0:20≤s) (h1:s<0):False:=l2_ [s] (.le (.k 20) v0) (.lt v0 k0) [4160] h0 h1 rfl
theorem q452 {s t:Int} {u:Nat} (h0:(s+t)+2≤(u:Int)) (h1:(u:Int)<(s+t)+2):False:=l2_ [s,t,u] (.le (.a (.a v0 v1) k2) v2) (.lt v2 (.a (.a v0 v1) k2)) [4160] h0 h1 rfl
theorem q453 {s t:Int} (h0:0≤s) (h1:20≤t):¬(t+s=10):=fun g=>l3_ [s,t] (.le k0 v0) (.le (.k 20) v1) (.eq (.a v1 v0) (.k 10)) [266304] h0 h1 g rfl
theorem q454 {s t:Int} {u:Nat} {v w x y:Int} (h0:¬((0≤s)∧((0≤t)∧((s+t)+2≤(u:Int))))) (h1:(0≤t)∧(v=t)):(s<0)∨(((u:Int)<(s+t)+2)∨((w<x)∧(y=1))):=gor fun g g'=>(Classical.not_and_iff_not_or_not.mp h0).elim (fun a=>l2_ [s] (.nlt v0 k0) (.nle k0 v0) [4160] g a rfl) fun a=>(Classical.not_and_iff_not_or_not.mp a).elim (fun b=>l2_ [t] (.le k0 v0) (.nle k0 v0) [4160] h1.1 b rfl) fun b=>l2_ [(u:Int),s,t] (.nlt v0 (.a (.a v1 v2) k2)) (.nle (.a (.a v1 v2) k2) v0) [4160] (not_or.mp g').1 b rfl
theorem q455 {s:Nat} {t u v w:Int} (h0:s≤1000):(t<0)∨(((s:Int)<(t+9999)+2)∨((u<v)∧(w=1))):=gor fun g g'=>l3_ [s,t] (.le v0 (.k 1000)) (.nlt v1 k0) (.nlt v0 (.a (.a v1 (.k 9999)) k2)) [266304] (nle h0) g (not_or.mp g').1 rfl
theorem q456 {s:Int} {t:Nat} (h0:s%2=0) (h1:t%2=0):((((s+(t:Int))+1)/2)*2)=(s+(t:Int)):=let c:List Int:=[(s%2),(((t%2):Nat):Int),(((s+(t:Int))+1)/2),s,t,(((s+(t:Int))+1)%2),(s/2),(((t/2):Nat):Int)];let f0:LF:=.an (.eq (.a (.m 2 v2) v5) (.a (.a v3 v4) k1)) (.an (.le k0 v5) (.lt v5 k2));geq (fun g=>l6_ c (.eq v0 k0) (.eq v1 k0) (.nle (.r v2 2) (.a v3 v4)) f0 (.an (.eq (.a (.m 2 v6) v0) v3) (.an (.le k0 v0) (.lt v0 k2))) (.an (.eq (.a (.m 2 v7) v1) v4) (.an (.le k0 v1) (.lt v1 k2))) [19342814266760039258656769,79228167236648839259761938433,4160] h0 (neq h1) g (dmI ((s+(t:Int))+1) 1) (dmI s 1) (dmN t 1) rfl) fun g=>l2_ c (.nle (.a v3 v4) (.r v2 2)) f0 [1074004032] g (dmI ((s+(t:Int))+1) 1) rfl
theorem q457 {s:Int} {t u:Nat} (h0:s≤(t:Int)) (h1:20≤s) (h2:u=t):12≤(u:Int):=gle fun g=>l4_ [s,t,u] (.le v0 v1) (.le (.k 20) v0) (.eq v2 v1) (.nle (.k 12) v2) [1090523200] h0 h1 (neq h2) g rfl
theorem q458 {s t:Int} {u:Nat} {v:Int} (h0:((s=2)∧((12≤t)∧((t+(u:Int))≤20)))∨((s=10)∧((8≤t)∧((t+(u:Int))≤40)))) (h1:(s=2)∧((t<20)∧(0≤v))):(12≤t)∨((t+(u:Int))≤10):=gor fun g g'=>h0.elim (fun a=>l2_ [t] (.nle (.k 12) v0) (.le (.k 12) v0) [4160] g a.2.1 rfl) fun a=>l2_ [s] (.eq v0 k2) (.eq v0 (.k 10)) [16777280] h1.1 a.1 rfl
theorem q459 {s:Int} (h0:12≤s):0≤s:=gle fun g=>l2_ [s] (.le (.k 12) v0) (.nle k0 v0) [4160] h0 g rfl
theorem q460 {s t:Int} {u:Nat} (h0:20≤s*4) (h1:(t+(u:Int))≤20):(t+(u:Int))≤s*4:=gle fun g=>l3_ [s,t,u] (.le (.k 20) (.r v0 4)) (.le (.a v1 v2) (.k 20)) (.nle (.a v1 v2) (.r v0 4)) [67,17039363,4160] h0 h1 g rfl
theorem q461 {s:Nat} {t:Int} (h0:0<s):t<(t+(s:Int)):=glt fun g=>l2_ [s,t] (.lt k0 v0) (.nlt v1 (.a v1 v0)) [4160] (nlt h0) g rfl
theorem q462 {s:Int} {t:Nat} (h0:((((s+(t:Int))+1)/2)*2)=(s+(t:Int))):((s+(t:Int))%2)=0:=let c:List Int:=[(((s+(t:Int))+1)/2),s,t,((s+(t:Int))%2),((s+(t:Int))/2)];let f0:LF:=.an (.eq (.a (.m 2 v4) v3) (.a v1 v2)) (.an (.le k0 v3) (.lt v3 k2));geq (fun g=>l3_ c (.eq (.r v0 2) (.a v1 v2)) (.nle v3 k0) f0 [17043457,281543696191489,4160] h0 g (dmI (s+(t:Int)) 1) rfl) fun g=>l2_ c (.nle k0 v3) f0 [16777280] g (dmI (s+(t:Int)) 1) rfl
theorem q463 {s:Int} :¬(((34525:Int)=(2048:Int))∧(0≤s)):=fun g=>l1_ [] (.eq (.k 34525) (.k 2048)) [64] g.1 rfl
theorem q464 {s t:Int} :¬(((10:Int)=(2:Int))∧((s<20)∧(0≤t))):=fun g=>l1_ [] (.eq (.k 10) k2) [64] g.1 rfl
theorem q465 {s:Int} {t:Nat} {u v:Int} (h0:(s+(t:Int))≤u) (h1:u≤v):(s+(t:Int))≤v:=gle fun g=>l3_ [s,t,u,v] (.le (.a v0 v1) v2) (.le v2 v3) (.nle (.a v0 v1) v3) [266304] h0 h1 g rfl
theorem q466 {s:Int} {t:Nat} (h0:(((2:Int)=(2:Int))∧((12≤s)∧((s+(t:Int))≤20)))∨(((2:Int)=(10:Int))∧((8≤s)∧((s+(t:Int))≤40)))):12≤s:=gle fun g=>h0.elim (fun a=>l2_ [s] (.nle (.k 12) v0) (.le (.k 12) v0) [4160] g a.2.1 rfl) fun a=>l1_ [] (.eq k2 (.k 10)) [4096] a.1 rfl
theorem q467 {s:Int} {t:Nat} (h0:(((2:Int)=(2:Int))∧((12≤s)∧((s+(t:Int))≤20)))∨(((2:Int)=(10:Int))∧((8≤s)∧((s+(t:Int))≤40)))):(s+(t:Int))≤20:=gle fun g=>h0.elim (fun a=>l2_ [s,(t:Int)] (.nle (.a v0 v1) (.k 20)) (.le (.a v0 v1) (.k 20)) [4160] g a.2.2 rfl) fun a=>l1_ [] (.eq k2 (.k 10)) [4096] a.1 rfl
theorem q468 {s:Int} {t:Nat} (h0:(((10:Int)=(2:Int))∧((12≤s)∧((s+(t:Int))≤20)))∨(((10:Int)=(10:Int))∧((8≤s)∧((s+(t:Int))≤40)))):8≤s:=gle fun g=>h0.elim (fun a=>l1_ [] (.eq (.k 10) k2) [64] a.1 rfl) fun a=>l2_ [s] (.nle k8 v0) (.le k8 v0) [4160] g a.2.1 rfl
theorem q469 {s:Int} {t:Nat} (h0:(((10:Int)=(2:Int))∧((12≤s)∧((s+(t:Int))≤20)))∨(((10:Int)=(10:Int))∧((8≤s)∧((s+(t:Int))≤40)))):(s+(t:Int))≤40:=gle fun g=>h0.elim (fun a=>l1_ [] (.eq (.k 10) k2) [64] a.1 rfl) fun a=>l2_ [s,(t:Int)] (.nle (.a v0 v1) (.k 40)) (.le (.a v0 v1) (.k 40)) [4160] g a.2.2 rfl
theorem q470 {s t:Int} (h0:20≤s) (h1:s≤t):20≤t:=gle fun g=>l3_ [s,t] (.le (.k 20) v0) (.le v0 v1) (.nle (.k 20) v1) [266304] h0 h1 g rfl
theorem q471 {s:Int} {t:Nat} {u v w:Int} (h0:(s+(t:Int))≤u) (h1:0≤v) (h2:u≤w):(s+(t:Int))≤w+v:=gle fun g=>l4_ [s,t,u,v,w] (.le (.a v0 v1) v2) (.le k0 v3) (.le v2 v4) (.nle (.a v0 v1) (.a v4 v3)) [17043520] h0 h1 h2 g rfl
theorem q472 {s t u:Int} (h0:20≤s) (h1:0≤t) (h2:s≤u):12≤u+t:=gle fun g=>l4_ [s,t,u] (.le (.k 20) v0) (.le k0 v1) (.le v0 v2) (.nle (.k 12) (.a v2 v1)) [17043520] h0 h1 h2 g rfl
theorem q473 {s t u:Int} (h0:s≤t) (h1:t≤u) (h2:20≤s):0≤u:=gle fun g=>l4_ [s,t,u] (.le v0 v1) (.le v1 v2) (.le (.k 20) v0) (.nle k0 v2) [17043520] h0 h1 h2 g rfl
theorem q474 {s:Int} {t u:Nat} (h0:(s+(t:Int))≤(u:Int)):(s+(t:Int))≤(u:Int):=gle fun g=>l2_ [s,t,u] (.le (.a v0 v1) v2) (.nle (.a v0 v1) v2) [4160] h0 g rfl
theorem q475 {s t u v w:Int} (h0:s≤t) (h1:t≤u) (h2:20≤s):¬((v=2)∧((u<20)∧(0≤w))):=fun g=>l4_ [s,t,u] (.le v0 v1) (.le v1 v2) (.le (.k 20) v0) (.lt v2 (.k 20)) [17043520] h0 h1 h2 g.2.1 rfl
theorem q476 {s t u:Int} (h0:(s=2048)∧(0≤t)) (h1:s=34525):u=2:=geq (fun g=>l2_ [s] (.eq v0 (.k 2048)) (.eq v0 (.k 34525)) [16777280] h0.1 h1 rfl) fun g=>l2_ [s] (.eq v0 (.k 2048)) (.eq v0 (.k 34525)) [16777280] h0.1 h1 rfl
theorem q477 {s t u:Int} {v w x:Nat} (h0:s≤t) (h1:t≤u) (h2:(u+(v:Int))≤(w:Int)) (h3:20≤s) (h4:x=w):10+2≤(x:Int):=gle fun g=>l7_ [s,t,u,v,w,x] (.le v0 v1) (.le v1 v2) (.le (.a v2 v3) v4) (.le (.k 20) v0) (.eq v5 v4) (.nle (.a (.k 10) k2) v5) (.le k0 v3) [285941759742016] h0 h1 h2 h3 (neq h4) g (nnn v) rfl
theorem q478 {s t u:Int} {v:Nat} (h0:s≤t) (h1:t≤u) (h2:20≤s):(10+2≤u)∨((u+(v:Int))≤10):=gor fun g g'=>l4_ [s,t,u] (.le v0 v1) (.le v1 v2) (.le (.k 20) v0) (.nle (.a (.k 10) k2) v2) [17043520] h0 h1 h2 g rfl
theorem q479 {s t u:Int} (h0:s≤t) (h1:u≤s) (h2:20≤u):20≤t:=gle fun g=>l4_ [s,t,u] (.le v0 v1) (.le v2 v0) (.le (.k 20) v2) (.nle (.k 20) v1) [17043520] h0 h1 h2 g rfl
theorem q480 {s t u:Int} (h0:s≤t) (h1:u≤s) (h2:u=40):40≤t:=gle fun g=>l4_ [s,t,u] (.le v0 v1) (.le v2 v0) (.eq v2 (.k 40)) (.nle (.k 40) v1) [1090523200] h0 h1 h2 g rfl
theorem q481 {s t u:Int} (h0:s≤t) (h1:t≤u):¬(u<s):=fun g=>l3_ [s,t,u] (.le v0 v1) (.le v1 v2) (.lt v2 v0) [266304] h0 h1 g rfl
theorem q482 {s:Int} {t u:Nat} (h0:s%2=0) (h1:(t%2=0)∨((s+(t:Int))=(u:Int))):(((s+(t:Int))%2)=0)∨((s+(t:Int))=(u:Int)):=let c:List Int:=[((s+(t:Int))/2),((s+(t:Int))%2),s,t,(s%2),(s/2),(((t/2):Nat):Int),(((t%2):Nat):Int),u];let f0:LF:=.an (.eq (.a (.m 2 v0) v1) (.a v2 v3)) (.an (.le k0 v1) (.lt v1 k2));let f1:LF:=.eq (.a v2 v3) v8;gor fun g g'=>(ltgt g).elim (fun a=>l2_ c f0 (.lt v1 k0) [1074003968] (dmI (s+(t:Int)) 1) a rfl) fun a=>h1.elim (fun b=>l6_ c (.eq v4 k0) (.an (.eq (.a (.m 2 v5) v4) v2) (.an (.le k0 v4) (.lt v4 k2))) (.an (.eq (.a (.m 2 v6) v7) v3) (.an (.le k0 v7) (.lt v7 k2))) f0 (.lt k0 v1) (.eq v7 k0) [19347535498335732996771841,5149830568149566440849585213441,4160] h0 (dmI s 1) (dmN t 1) (dmI (s+(t:Int)) 1) a (neq b) rfl) fun b=>(ltgt g').elim (fun d=>l2_ c f1 (.lt (.a v2 v3) v8) [266240] b d rfl) fun d=>l2_ c f1 (.lt v8 (.a v2 v3)) [262208] b d rfl
theorem q483 {s t:Int} (h0:s≤t) (h1:20≤s):20≤t:=gle fun g=>l3_ [s,t] (.le v0 v1) (.le (.k 20) v0) (.nle (.k 20) v1) [266304] h0 h1 g rfl
theorem q484 {s t:Int} (h0:0≤s) (h1:0≤t):0≤s+t:=gle fun g=>l3_ [s,t] (.le k0 v0) (.le k0 v1) (.nle k0 (.a v0 v1)) [266304] h0 h1 g rfl
theorem q485 {s:Int} (h0:(s=60)∨((s=43)∨(s=51))):(s=60)∨((s=43)∨(s=51)):=gor fun g g'=>h0.elim (fun a=>(ltgt g).elim (fun b=>l2_ [s] (.eq v0 (.k 60)) (.lt v0 (.k 60)) [266240] a b rfl) fun b=>l2_ [s] (.eq v0 (.k 60)) (.lt (.k 60) v0) [262208] a b rfl) fun a=>a.elim (fun d=>(ltgt (not_or.mp g').1).elim (fun e=>l2_ [s] (.eq v0 (.k 43)) (.lt v0 (.k 43)) [266240] d e rfl) fun e=>l2_ [s] (.eq v0 (.k 43)) (.lt (.k 43) v0) [262208] d e rfl) fun d=>(ltgt (not_or.mp g').2).elim (fun i=>l2_ [s] (.eq v0 (.k 51)) (.lt v0 (.k 51)) [266240] d i rfl) fun i=>l2_ [s] (.eq v0 (.k 51)) (.lt (.k 51) v0) [262208] d i rfl
theorem q486 {s:Int} (h0:(s=60)∨((s=43)∨(s=51))):¬(s=44):=let c:List Int:=[s];let f0:LF:=.eq v0 (.k 44);fun g=>h0.elim (fun a=>l2_ c f0 (.eq v0 (.k 60)) [16777280] g a rfl) fun a=>a.elim (fun b=>l2_ c f0 (.eq v0 (.k 43)) [266240] g b rfl) fun b=>l2_ c f0 (.eq v0 (.k 51)) [16777280] g b rfl
theorem q487 {s:Nat} :1+s=s+1:=gneq (fun g=>l1_ [(s:Int)] (.nle (.a k1 v0) (.a v0 k1)) [64] g rfl) fun g=>l1_ [(s:Int)] (.nle (.a v0 k1) (.a k1 v0)) [64] g rfl
theorem q488 {s:Int} (h0:0≤s):((((((((((0+1)+1)+2)+((0+1)+1))+2)+((0+1)+1))+2)+4)+4)+(Int.toNat (4*s)))=(Int.toNat (20+(4*s))):=let c:List Int:=[(((Int.toNat (4*s)):Nat):Int),(((Int.toNat (20+(4*s))):Nat):Int),s];let f0:LF:=.an (.le k0 (.m 4 v2)) (.eq v0 (.m 4 v2));let f1:LF:=.an (.le k0 (.a (.k 20) (.m 4 v2))) (.eq v1 (.a (.k 20) (.m 4 v2)));let f2:LF:=.le k0 v2;let f3:LF:=.an (.lt (.a (.k 20) (.m 4 v2)) k0) (.eq v1 k0);let f4:LF:=.an (.lt (.m 4 v2) k0) (.eq v0 k0);let f5:LF:=.nle v1 (.a (.a (.a (.a (.a (.a (.a (.a (.a (.a k0 k1) k1) k2) (.a (.a k0 k1) k1)) k2) (.a (.a k0 k1) k1)) k2) k4) k4) v0);gneq (fun g=>(tnE (4*s)).elim (fun a=>(tnE (20+(4*s))).elim (fun b=>l3_ c (.nle (.a (.a (.a (.a (.a (.a (.a (.a (.a (.a k0 k1) k1) k2) (.a (.a k0 k1) k1)) k2) (.a (.a k0 k1) k1)) k2) k4) k4) v0) v1) f0 f1 [4398046773312] g a b rfl) fun b=>l2_ c f2 f3 [4099,4160] h0 b rfl) fun a=>l2_ c f2 f4 [4099,4160] h0 a rfl) fun g=>(tnE (20+(4*s))).elim (fun a=>(tnE (4*s)).elim (fun b=>l3_ c f5 f1 f0 [4398046773312] g a b rfl) fun b=>l3_ c f5 f1 f4 [1073741827,281474993491971,4160] g a b rfl) fun a=>l2_ c f2 f3 [4099,4160] h0 a rfl
theorem q489 {s:Nat} (h0:s<6):s+1≤6:=gnle fun g=>l2_ [s] (.lt v0 (.k 6)) (.nle (.a v0 k1) (.k 6)) [4160] (nlt h0) g rfl
theorem q490 {s:Nat} (h0:s<6):s≤6:=gnle fun g=>l2_ [s] (.lt v0 (.k 6)) (.nle v0 (.k 6)) [4160] (nlt h0) g rfl
theorem q491 {s t:Nat} (h0:s<t):(((t+1)-1)-(s+1))=(t-1)-s:=let c:List Int:=[(((((t+1)-1)-(s+1)):Nat):Int),((((t-1)-s):Nat):Int),s,((((t+1)-1):Nat):Int),t,(((t-1):Nat):Int)];let f0:LF:=.nle v0 v1;let f1:LF:=.an (.le (.a v2 k1) v3) (.eq v0 (.s v3 (.a v2 k1)));let f2:LF:=.an (.le k1 (.a v4 k1)) (.eq v3 (.s (.a v4 k1) k1));let f3:LF:=.an (.le k1 v4) (.eq v5 (.s v4 k1));let f4:LF:=.an (.le v2 v5) (.eq v1 (.s v5 v2));let f5:LF:=.an (.lt v5 v2) (.eq v1 k0);let f6:LF:=.le k0 v2;let f7:LF:=.an (.lt v4 k1) (.eq v5 k0);let f8:LF:=.an (.lt (.a v4 k1) k1) (.eq v3 k0);let f9:LF:=.an (.lt v3 (.a v2 k1)) (.eq v0 k0);let f10:LF:=.nle v1 v0;gneq (fun g=>(sbE ((t+1)-1) (s+1)).elim (fun a=>(sbE (t+1) (1:Nat)).elim (fun b=>(sbE t (1:Nat)).elim (fun d=>(sbE (t-1) s).elim (fun e=>l5_ c f0 f1 f2 f3 f4 [302232607825230620262464] g a b d e rfl) fun e=>l4_ c f1 f2 f3 f5 [1170935904190337088] a b d e rfl) fun d=>l4_ c f6 f1 f2 f7 [281543713230912] (nnn s) a b d rfl) fun b=>l2_ c (.le k0 v4) f8 [4160] (nnn t) b rfl) fun a=>l3_ c f0 (.le k0 v1) f9 [16781376] g (nnn ((t-1)-s)) a rfl) fun g=>(sbE (t-1) s).elim (fun a=>(sbE t (1:Nat)).elim (fun b=>(sbE (t+1) (1:Nat)).elim (fun d=>(sbE ((t+1)-1) (s+1)).elim (fun e=>l5_ c f10 f4 f3 f2 f1 [302232607825230620262464] g a b d e rfl) fun e=>l4_ c f4 f3 f2 f9 [1170935904190337088] a b d e rfl) fun d=>l2_ c f3 f8 [17043520] b d rfl) fun b=>l3_ c (.lt v2 v4) f6 f7 [266304] (nlt h0) (nnn s) b rfl) fun a=>l3_ c f10 (.le k0 v0) f5 [16781376] g (nnn (((t+1)-1)-(s+1))) a rfl
theorem q492 {s t u:Int} :s+(t+u)=(t+s)+u:=geq (fun g=>l1_ [s,t,u] (.nle (.a v0 (.a v1 v2)) (.a (.a v1 v0) v2)) [64] g rfl) fun g=>l1_ [t,s,u] (.nle (.a (.a v0 v1) v2) (.a v1 (.a v0 v2))) [64] g rfl
theorem q493 {s:Int} (h0:s<256):s≤255:=gle fun g=>l2_ [s] (.lt v0 (.k 256)) (.nle v0 (.k 255)) [4160] h0 g rfl
theorem q494 {s t u:Int} (h0:s<t) (h1:u≤255*t):u+s<t*256:=glt fun g=>l3_ [s,t,u] (.lt v0 v1) (.le v2 (.m 255 v1)) (.nlt (.a v2 v0) (.r v1 256)) [266304] h0 h1 g rfl
theorem q495 {s t:Nat} :(Int.toNat ((s:Int)+(t:Int)))=s+t:=let c:List Int:=[(((Int.toNat ((s:Int)+(t:Int))):Nat):Int),s,t];let f0:LF:=.an (.le k0 (.a v1 v2)) (.eq v0 (.a v1 v2));let f1:LF:=.an (.lt (.a v1 v2) k0) (.eq v0 k0);let f2:LF:=.nle (.a v1 v2) v0;gneq (fun g=>(tnE ((s:Int)+(t:Int))).elim (fun a=>l2_ c (.nle v0 (.a v1 v2)) f0 [262208] g a rfl) fun a=>l3_ c (.le k0 v1) (.le k0 v2) f1 [266304] (nnn s) (nnn t) a rfl) fun g=>(tnE ((s:Int)+(t:Int))).elim (fun a=>l2_ c f2 f0 [16777280] g a rfl) fun a=>l2_ c f2 f1 [16781376] g a rfl
theorem q496 {s t:Nat} :s≤(Int.toNat ((s:Int)+(t:Int))):=let c:List Int:=[s,(((Int.toNat ((s:Int)+(t:Int))):Nat):Int),t];let f0:LF:=.nle v0 v1;let f1:LF:=.le k0 v2;gnle fun g=>(tnE ((s:Int)+(t:Int))).elim (fun a=>l3_ c f0 f1 (.an (.le k0 (.a v0 v2)) (.eq v1 (.a v0 v2))) [1073745984] g (nnn t) a rfl) fun a=>l3_ c f0 f1 (.an (.lt (.a v0 v2) k0) (.eq v1 k0)) [1074008128] g (nnn t) a rfl
theorem q497 {s t:Nat} :((Int.toNat ((s:Int)+(t:Int)))-s)=(Int.toNat (t:Int)):=let c:List Int:=[((((Int.toNat ((s:Int)+(t:Int)))-s):Nat):Int),(((Int.toNat (t:Int)):Nat):Int),s,(((Int.toNat ((s:Int)+(t:Int))):Nat):Int),t];let f0:LF:=.nle v0 v1;let f1:LF:=.an (.le v2 v3) (.eq v0 (.s v3 v2));let f2:LF:=.an (.le k0 v4) (.eq v1 v4);let f3:LF:=.an (.le k0 (.a v2 v4)) (.eq v3 (.a v2 v4));let f4:LF:=.le k0 v2;let f5:LF:=.an (.lt (.a v2 v4) k0) (.eq v3 k0);let f6:LF:=.an (.lt v4 k0) (.eq v1 k0);let f7:LF:=.an (.lt v3 v2) (.eq v0 k0);let f8:LF:=.nle v1 v0;gneq (fun g=>(sbE (Int.toNat ((s:Int)+(t:Int))) s).elim (fun a=>(tnE (t:Int)).elim (fun b=>(tnE ((s:Int)+(t:Int))).elim (fun d=>l4_ c f0 f1 f2 f3 [18018796556255296] g a b d rfl) fun d=>l3_ c f4 f2 f5 [1073745984] (nnn s) b d rfl) fun b=>l2_ c (.le k0 v4) f6 [4160] (nnn t) b rfl) fun a=>l3_ c f0 (.le k0 v1) f7 [16781376] g (nnn (Int.toNat (t:Int))) a rfl) fun g=>(tnE (t:Int)).elim (fun a=>(tnE ((s:Int)+(t:Int))).elim (fun b=>(sbE (Int.toNat ((s:Int)+(t:Int))) s).elim (fun d=>l4_ c f8 f2 f3 f1 [1152925902653620288] g a b d rfl) fun d=>l3_ c f2 f3 f7 [4466765987904] a b d rfl) fun b=>l3_ c f4 f2 f5 [1073745984] (nnn s) a b rfl) fun a=>l3_ c f8 (.le k0 v0) f6 [16781376] g (nnn ((Int.toNat ((s:Int)+(t:Int)))-s)) a rfl
theorem q498  :8≤((((0+1)+1)+2)+((((0+1)+1)+1)+1)):=gnle fun g=>l1_ [] (.nle k8 (.a (.a (.a (.a k0 k1) k1) k2) (.a (.a (.a (.a k0 k1) k1) k1) k1))) [64] g rfl
theorem q499 {s t:Nat} :0≤((s:Int)+(t:Int)):=gle fun g=>l3_ [s,t] (.nle k0 (.a v0 v1)) (.le k0 v0) (.le k0 v1) [266304] g (nnn s) (nnn t) rfl
theorem q500 {s t u:Nat} (h0:s+t<u):((s:Int)+(t:Int))<(u:Int):=glt fun g=>l2_ [s,t,u] (.lt (.a v0 v1) v2) (.nlt (.a v0 v1) v2) [4160] (nlt h0) g rfl
theorem q501 {s t u v:Nat} (h0:8≤s) (h1:t≤u) (h2:v+s≤t):v+1<u:=gnlt fun g=>l4_ [s,t,u,v] (.le k8 v0) (.le v1 v2) (.le (.a v3 v0) v1) (.nlt (.a v3 k1) v2) [17043520] (nle h0) (nle h1) (nle h2) g rfl
theorem q502 {s t u v:Nat} (h0:8≤s) (h1:t≤u) (h2:v+s≤t):v+0<u:=gnlt fun g=>l4_ [s,t,u,v] (.le k8 v0) (.le v1 v2) (.le (.a v3 v0) v1) (.nlt (.a v3 k0) v2) [17043520] (nle h0) (nle h1) (nle h2) g rfl
theorem q503 {s:Nat} :((s:Int)+0)=(s:Int):=geq (fun g=>l1_ [(s:Int)] (.nle (.a v0 k0) v0) [64] g rfl) fun g=>l1_ [(s:Int)] (.nle v0 (.a v0 k0)) [64] g rfl
theorem q504 {s t u:Nat} (h0:8≤s) (h1:t+s≤u):¬((u:Int)<((t:Int)+2)):=fun g=>l3_ [s,t,u] (.le k8 v0) (.le (.a v1 v0) v2) (.lt v2 (.a v1 k2)) [266304] (nle h0) (nle h1) g rfl
theorem q505 {s t u:Nat} (h0:s+t≤u):¬((u:Int)<((s:Int)+(t:Int))):=fun g=>l2_ [s,t,u] (.le (.a v0 v1) v2) (.lt v2 (.a v0 v1)) [4160] (nle h0) g rfl
theorem q506 {s t u:Nat} (h0:s≤t) (h1:¬((s:Int)<((u:Int)+2))):u+1<t:=gnlt fun g=>l3_ [s,t,u] (.le v0 v1) (.nlt v0 (.a v2 k2)) (.nlt (.a v2 k1) v1) [266304] (nle h0) h1 g rfl
theorem q507 {s t u:Nat} (h0:s<t+u):(s:Int)<((t:Int)+(u:Int)):=glt fun g=>l2_ [s,t,u] (.lt v0 (.a v1 v2)) (.nlt v0 (.a v1 v2)) [4160] (nlt h0) g rfl
theorem q508 {s t u:Nat} (h0:s+8≤t) (h1:t≤u):((s:Int)+4)≤(u:Int):=gle fun g=>l3_ [s,t,u] (.le (.a v0 k8) v1) (.le v1 v2) (.nle (.a v0 k4) v2) [266304] (nle h0) (nle h1) g rfl
theorem q509 {s:Nat} :((s:Int)+4)=(((s:Int)+2)+2):=geq (fun g=>l1_ [(s:Int)] (.nle (.a v0 k4) (.a (.a v0 k2) k2)) [64] g rfl) fun g=>l1_ [(s:Int)] (.nle (.a (.a v0 k2) k2) (.a v0 k4)) [64] g rfl
theorem q510  :((0:Int)≤(0:Int))∧((0:Int)<(256:Int)):=⟨gle fun g1=>l1_ [] (.nle k0 k0) [64] g1 rfl,glt fun g1=>l1_ [] (.nlt k0 (.k 256)) [64] g1 rfl⟩
theorem q511  :((0:Int)≤(5:Int))∧((5:Int)<(256:Int)):=⟨gle fun g1=>l1_ [] (.nle k0 (.k 5)) [64] g1 rfl,glt fun g1=>l1_ [] (.nlt (.k 5) (.k 256)) [64] g1 rfl⟩
theorem q512  :((0:Int)≤(9:Int))∧((9:Int)<(256:Int)):=⟨gle fun g1=>l1_ [] (.nle k0 (.k 9)) [64] g1 rfl,glt fun g1=>l1_ [] (.nlt (.k 9) (.k 256)) [64] g1 rfl⟩
theorem q513 {s:Int} (h0:(s=44)∨((s=60)∨((s=43)∨(s=51)))):(0≤s)∧(s<256):=let c:List Int:=[s];let f0:LF:=.nle k0 v0;let f1:LF:=.eq v0 (.k 44);let f2:LF:=.eq v0 (.k 60);let f3:LF:=.eq v0 (.k 43);let f4:LF:=.eq v0 (.k 51);let f5:LF:=.nlt v0 (.k 256);⟨gle fun g1=>h0.elim (fun a=>l2_ c f0 f1 [262208] g1 a rfl) fun a=>a.elim (fun b=>l2_ c f0 f2 [262208] g1 b rfl) fun b=>b.elim (fun d=>l2_ c f0 f3 [262208] g1 d rfl) fun d=>l2_ c f0 f4 [262208] g1 d rfl,glt fun g1=>h0.elim (fun a=>l2_ c f5 f1 [4160] g1 a rfl) fun a=>a.elim (fun b=>l2_ c f5 f2 [4160] g1 b rfl) fun b=>b.elim (fun d=>l2_ c f5 f3 [4160] g1 d rfl) fun d=>l2_ c f5 f4 [4160] g1 d rfl⟩
theorem q514 {s t:Nat} (h0:s%4=0) (h1:t%4=0):(t+s)%4=0:=let c:List Int:=[(((s%4):Nat):Int),(((t%4):Nat):Int),((((t+s)%4):Nat):Int),(((s/4):Nat):Int),s,(((t/4):Nat):Int),t,((((t+s)/4):Nat):Int)];gneq (fun g=>l6_ c (.eq v0 k0) (.eq v1 k0) (.nle v2 k0) (.an (.eq (.a (.m 4 v3) v0) v4) (.an (.le k0 v0) (.lt v0 k4))) (.an (.eq (.a (.m 4 v5) v1) v6) (.an (.le k0 v1) (.lt v1 k4))) (.an (.eq (.a (.m 4 v7) v2) (.a v6 v4)) (.an (.le k0 v2) (.lt v2 k4))) [19342886900814760754020419,324597781821014778101443523248131,4160] (neq h0) (neq h1) g (dmN s 3) (dmN t 3) (dmN (t+s) 3) rfl) fun g=>l2_ c (.nle k0 v2) (.le k0 v2) [4160] g (nnn ((t+s)%4)) rfl
theorem q515 {s:Int} (h0:0≤s) (h1:s<3):((0:Int)≤69+s)∧(69+s<256):=⟨gle fun g1=>l2_ [s] (.le k0 v0) (.nle k0 (.a (.k 69) v0)) [4160] h0 g1 rfl,glt fun g1=>l2_ [s] (.lt v0 k3) (.nlt (.a (.k 69) v0) (.k 256)) [4160] h1 g1 rfl⟩
theorem q516  :((0:Int)≤(1:Int))∧((1:Int)<(256:Int)):=⟨gle fun g1=>l1_ [] (.nle k0 k1) [64] g1 rfl,glt fun g1=>l1_ [] (.nlt k1 (.k 256)) [64] g1 rfl⟩
theorem q517  :((0:Int)≤(2:Int))∧((2:Int)<(256:Int)):=⟨gle fun g1=>l1_ [] (.nle k0 k2) [64] g1 rfl,glt fun g1=>l1_ [] (.nlt k2 (.k 256)) [64] g1 rfl⟩
theorem q518  :((0:Int)≤(64:Int))∧((64:Int)<(256:Int)):=⟨gle fun g1=>l1_ [] (.nle k0 (.k 64)) [64] g1 rfl,glt fun g1=>l1_ [] (.nlt (.k 64) (.k 256)) [64] g1 rfl⟩
theorem q519  :((0:Int)≤(96:Int))∧((96:Int)<(256:Int)):=⟨gle fun g1=>l1_ [] (.nle k0 (.k 96)) [64] g1 rfl,glt fun g1=>l1_ [] (.nlt (.k 96) (.k 256)) [64] g1 rfl⟩
theorem q520 {s:Int} (h0:0≤s):((Int.toNat (20+(4*s)))%4)=0:=let c:List Int:=[((((Int.toNat (20+(4*s)))%4):Nat):Int),((((Int.toNat (20+(4*s)))/4):Nat):Int),(((Int.toNat (20+(4*s))):Nat):Int),s];gneq (fun g=>(tnE (20+(4*s))).elim (fun a=>l3_ c (.nle v0 k0) (.an (.eq (.a (.m 4 v1) v0) v2) (.an (.le k0 v0) (.lt v0 k4))) (.an (.le k0 (.a (.k 20) (.m 4 v3))) (.eq v2 (.a (.k 20) (.m 4 v3)))) [4398046515267,18014467245735939,4160] g (dmN (Int.toNat (20+(4*s))) 3) a rfl) fun a=>l2_ c (.le k0 v3) (.an (.lt (.a (.k 20) (.m 4 v3)) k0) (.eq v2 k0)) [4099,4160] h0 a rfl) fun g=>l2_ c (.nle k0 v0) (.le k0 v0) [4160] g (nnn ((Int.toNat (20+(4*s)))%4)) rfl
theorem q521 {s:Nat} (h0:s%4=0):(40+s)%4=0:=let c:List Int:=[(((s%4):Nat):Int),((((40+s)%4):Nat):Int),(((s/4):Nat):Int),s,((((40+s)/4):Nat):Int)];gneq (fun g=>l4_ c (.eq v0 k0) (.nle v1 k0) (.an (.eq (.a (.m 4 v2) v0) v3) (.an (.le k0 v0) (.lt v0 k4))) (.an (.eq (.a (.m 4 v4) v1) (.a (.k 40) v3)) (.an (.le k0 v1) (.lt v1 k4))) [281476050714691,4723519404375326064643,4160] (neq h0) g (dmN s 3) (dmN (40+s) 3) rfl) fun g=>l2_ c (.nle k0 v1) (.le k0 v1) [4160] g (nnn ((40+s)%4)) rfl
theorem q522 {s:Nat} (h0:20≤(s:Int)):16≤(s:Int):=gle fun g=>l2_ [s] (.le (.k 20) v0) (.nle (.k 16) v0) [4160] h0 g rfl
theorem q523 {s:Nat} (h0:20≤(s:Int)):20≤(s:Int):=gle fun g=>l2_ [s] (.le (.k 20) v0) (.nle (.k 20) v0) [4160] h0 g rfl
theorem q524 {s:Nat} (h0:40≤(s:Int)):24≤(s:Int):=gle fun g=>l2_ [s] (.le (.k 40) v0) (.nle (.k 24) v0) [4160] h0 g rfl
theorem q525 {s:Nat} (h0:40≤(s:Int)):40≤(s:Int):=gle fun g=>l2_ [s] (.le (.k 40) v0) (.nle (.k 40) v0) [4160] h0 g rfl
theorem q526 {s:Nat} (h0:20≤s):0<(s:Int):=glt fun g=>l2_ [s] (.le (.k 20) v0) (.nlt k0 v0) [4160] (nle h0) g rfl
theorem q527  :(0:Int)≤(9:Int):=gle fun g=>l1_ [] (.nle k0 (.k 9)) [64] g rfl
theorem q528 {s:Nat} (h0:20≤s):9<(s:Int):=glt fun g=>l2_ [s] (.le (.k 20) v0) (.nlt (.k 9) v0) [4160] (nle h0) g rfl
theorem q529 {s:Nat} (h0:20≤s):8≤(s:Int):=gle fun g=>l2_ [s] (.le (.k 20) v0) (.nle k8 v0) [4160] (nle h0) g rfl
theorem q530 {s:Int} (h0:0≤s) (h1:s<3):(s=0)∨((s=1)∨(s=2)):=gor fun g g'=>(ltgt g).elim (fun a=>l2_ [s] (.le k0 v0) (.lt v0 k0) [4160] h0 a rfl) fun a=>(ltgt (not_or.mp g').1).elim (fun b=>l2_ [s] (.lt k0 v0) (.lt v0 k1) [4160] a b rfl) fun b=>(ltgt (not_or.mp g').2).elim (fun d=>l2_ [s] (.lt k1 v0) (.lt v0 k2) [4160] b d rfl) fun d=>l2_ [s] (.lt v0 k3) (.lt k2 v0) [4160] h1 d rfl
theorem q531 {s:Int} (h0:0≤s) (h1:s<4):(s=0)∨((s=1)∨((s=2)∨(s=3))):=gor fun g g'=>(ltgt g).elim (fun a=>l2_ [s] (.le k0 v0) (.lt v0 k0) [4160] h0 a rfl) fun a=>(ltgt (not_or.mp g').1).elim (fun b=>l2_ [s] (.lt k0 v0) (.lt v0 k1) [4160] a b rfl) fun b=>(ltgt (not_or.mp (not_or.mp g').2).1).elim (fun d=>l2_ [s] (.lt k1 v0) (.lt v0 k2) [4160] b d rfl) fun d=>(ltgt (not_or.mp (not_or.mp g').2).2).elim (fun e=>l2_ [s] (.lt k2 v0) (.lt v0 k3) [4160] d e rfl) fun e=>l2_ [s] (.lt v0 k4) (.lt k3 v0) [4160] h1 e rfl
theorem q532 {s t u v:Nat} (h0:s≤1000000) (h1:t=s) (h2:u=v) (h3:u≤t):v≤1000000:=gnle fun g=>l5_ [s,t,u,v] (.le v0 (.k 1000000)) (.eq v1 v0) (.eq v2 v3) (.le v2 v1) (.nle v3 (.k 1000000)) [4467839733824] (nle h0) (neq h1) (neq h2) (nle h3) g rfl
theorem q533 {s:Int} (h0:¬(0<s)):0≤-s:=gle fun g=>l2_ [s] (.nlt k0 v0) (.nle k0 (.g v0)) [4160] h0 g rfl
theorem q534 {s t u:Nat} (h0:s=t+1) (h1:s≤u) (h2:u=t):False:=l3_ [s,t,u] (.eq v0 (.a v1 k1)) (.le v0 v2) (.eq v2 v1) [17043456] (neq h0) (nle h1) (neq h2) rfl
theorem q535 {s t u v:Nat} (h0:s≤2) (h1:t+40<u) (h2:min s v≤s):(t+1)+(min s v)<u:=gnlt fun g=>l4_ [s,t,u,(((min s v):Nat):Int)] (.le v0 k2) (.lt (.a v1 (.k 40)) v2) (.le v3 v0) (.nlt (.a (.a v1 k1) v3) v2) [17043520] (nle h0) (nlt h1) (nle h2) g rfl
theorem q536 {s t:Int} (h0:s<t):min t s=s:=let c:List Int:=[s,t,(min t s)];let f0:LF:=.lt v0 v1;let f1:LF:=.an (.le v1 v0) (.eq v2 v1);let f2:LF:=.an (.lt v0 v1) (.eq v2 v0);geq (fun g=>(mnI t s).elim (fun a=>l2_ c f0 f1 [17043520] h0 a rfl) fun a=>l2_ c (.nle v2 v0) f2 [262208] g a rfl) fun g=>(mnI t s).elim (fun a=>l2_ c f0 f1 [17043520] h0 a rfl) fun a=>l2_ c (.nle v0 v2) f2 [16777280] g a rfl
theorem q537 {s t:Int} (h0:¬(s<t)):min t s=t:=let c:List Int:=[(min t s),t,s];let f0:LF:=.nle v0 v1;let f1:LF:=.an (.le v1 v2) (.eq v0 v1);let f2:LF:=.an (.lt v2 v1) (.eq v0 v2);geq (fun g=>(mnI t s).elim (fun a=>l2_ c f0 f1 [262208] g a rfl) fun a=>l2_ c f0 f2 [266304] g a rfl) fun g=>(mnI t s).elim (fun a=>l2_ c (.nle v1 v0) f1 [16777280] g a rfl) fun a=>l2_ c (.nlt v2 v1) f2 [17043520] h0 a rfl
theorem q538 {s t:Int} (h0:s<t):max s t=t:=let c:List Int:=[(max s t),t,s];let f0:LF:=.an (.le v2 v1) (.eq v0 v1);let f1:LF:=.lt v2 v1;let f2:LF:=.an (.lt v1 v2) (.eq v0 v2);geq (fun g=>(mxI s t).elim (fun a=>l2_ c (.nle v0 v1) f0 [262208] g a rfl) fun a=>l2_ c f1 f2 [17043520] h0 a rfl) fun g=>(mxI s t).elim (fun a=>l2_ c (.nle v1 v0) f0 [16777280] g a rfl) fun a=>l2_ c f1 f2 [17043520] h0 a rfl
theorem q539 {s t:Int} (h0:¬(s<t)):max s t=s:=let c:List Int:=[s,t,(max s t)];let f0:LF:=.nle v2 v0;let f1:LF:=.an (.le v0 v1) (.eq v2 v1);let f2:LF:=.an (.lt v1 v0) (.eq v2 v0);let f3:LF:=.nle v0 v2;geq (fun g=>(mxI s t).elim (fun a=>l3_ c (.nlt v0 v1) f0 f1 [16781376] h0 g a rfl) fun a=>l2_ c f0 f2 [262208] g a rfl) fun g=>(mxI s t).elim (fun a=>l2_ c f3 f1 [16781376] g a rfl) fun a=>l2_ c f3 f2 [16777280] g a rfl
theorem q540 {s t u:Nat} (h0:s≤24) (h1:t≤24*u):s+t≤24*(u+1):=gnle fun g=>l3_ [s,t,u] (.le v0 (.k 24)) (.le v1 (.m 24 v2)) (.nle (.a v0 v1) (.m 24 (.a v2 k1))) [266304] (nle h0) (nle h1) g rfl
theorem q541 {s t u v w:Int} (h0:0≤s) (h1:t≤u) (h2:t-s≤290):(0≤(((max s v)/2)*2))∧((((((max s v)/2)*2)%2)=0)∧(((((((min t w)+1)/2)*2)%2)=0)∧((((((min t w)+1)/2)*2)≤u+1)∧((((((min t w)+1)/2)*2)-(((max s v)/2)*2))≤300)))):=⟨gle fun g1=>(mxI s v).elim (fun a=>l4_ [s,((max s v)/2),((max s v)%2),(max s v),v] (.le k0 v0) (.nle k0 (.r v1 2)) (.an (.eq (.a (.m 2 v1) v2) v3) (.an (.le k0 v2) (.lt v2 k2))) (.an (.le v0 v4) (.eq v3 v4)) [4097,1153207378703814784] h0 g1 (dmI (max s v) 1) a rfl) fun a=>l4_ [s,((max s v)/2),((max s v)%2),(max s v),v] (.le k0 v0) (.nle k0 (.r v1 2)) (.an (.eq (.a (.m 2 v1) v2) v3) (.an (.le k0 v2) (.lt v2 k2))) (.an (.lt v4 v0) (.eq v3 v0)) [4097,1152925903727104128] h0 g1 (dmI (max s v) 1) a rfl,⟨geq (fun g2=>l2_ [((((max s v)/2)*2)%2),((((max s v)/2)*2)/2),((max s v)/2)] (.nle v0 k0) (.an (.eq (.a (.m 2 v1) v0) (.r v2 2)) (.an (.le k0 v0) (.lt v0 k2))) [4161,68736253953,4160] g2 (dmI (((max s v)/2)*2) 1) rfl) fun g2=>l2_ [((((max s v)/2)*2)%2),((((max s v)/2)*2)/2),((max s v)/2)] (.nle k0 v0) (.an (.eq (.a (.m 2 v1) v0) (.r v2 2)) (.an (.le k0 v0) (.lt v0 k2))) [262209,1074003969,4160] g2 (dmI (((max s v)/2)*2) 1) rfl,⟨geq (fun g3=>l2_ [(((((min t w)+1)/2)*2)%2),(((((min t w)+1)/2)*2)/2),(((min t w)+1)/2)] (.nle v0 k0) (.an (.eq (.a (.m 2 v1) v0) (.r v2 2)) (.an (.le k0 v0) (.lt v0 k2))) [4161,68736253953,4160] g3 (dmI ((((min t w)+1)/2)*2) 1) rfl) fun g3=>l2_ [(((((min t w)+1)/2)*2)%2),(((((min t w)+1)/2)*2)/2),(((min t w)+1)/2)] (.nle k0 v0) (.an (.eq (.a (.m 2 v1) v0) (.r v2 2)) (.an (.le k0 v0) (.lt v0 k2))) [262209,1074003969,4160] g3 (dmI ((((min t w)+1)/2)*2) 1) rfl,⟨gle fun g4=>(mnI t w).elim (fun a=>l4_ [t,u,(((min t w)+1)/2),(((min t w)+1)%2),(min t w),w] (.le v0 v1) (.nle (.r v2 2) (.a v1 k1)) (.an (.eq (.a (.m 2 v2) v3) (.a v4 k1)) (.an (.le k0 v3) (.lt v3 k2))) (.an (.le v0 v5) (.eq v4 v0)) [281476050718784] h1 g4 (dmI ((min t w)+1) 1) a rfl) fun a=>l4_ [t,u,(((min t w)+1)/2),(((min t w)+1)%2),(min t w),w] (.le v0 v1) (.nle (.r v2 2) (.a v1 k1)) (.an (.eq (.a (.m 2 v2) v3) (.a v4 k1)) (.an (.le k0 v3) (.lt v3 k2))) (.an (.lt v5 v0) (.eq v4 v5)) [285874097229888] h1 g4 (dmI ((min t w)+1) 1) a rfl,gle fun g4=>(mxI s v).elim (fun a=>(mnI t w).elim (fun b=>l6_ [t,s,(((min t w)+1)/2),((max s v)/2),(((min t w)+1)%2),(min t w),((max s v)%2),(max s v),v,w] (.le (.s v0 v1) (.k 290)) (.nle (.s (.r v2 2) (.r v3 2)) (.k 300)) (.an (.eq (.a (.m 2 v2) v4) (.a v5 k1)) (.an (.le k0 v4) (.lt v4 k2))) (.an (.eq (.a (.m 2 v3) v6) v7) (.an (.le k0 v6) (.lt v6 k2))) (.an (.le v1 v8) (.eq v7 v8)) (.an (.le v0 v9) (.eq v5 v0)) [4097,79247510123549645292068409472] h2 g4 (dmI ((min t w)+1) 1) (dmI (max s v) 1) a b rfl) fun b=>l6_ [t,s,(((min t w)+1)/2),((max s v)/2),(((min t w)+1)%2),(min t w),((max s v)%2),(max s v),v,w] (.le (.s v0 v1) (.k 290)) (.nle (.s (.r v2 2) (.r v3 2)) (.k 300)) (.an (.eq (.a (.m 2 v2) v4) (.a v5 k1)) (.an (.le k0 v4) (.lt v4 k2))) (.an (.eq (.a (.m 2 v3) v6) v7) (.an (.le k0 v6) (.lt v6 k2))) (.an (.le v1 v8) (.eq v7 v8)) (.an (.lt v9 v0) (.eq v5 v9)) [4097,80485450162835025566967533696] h2 g4 (dmI ((min t w)+1) 1) (dmI (max s v) 1) a b rfl) fun a=>(mnI t w).elim (fun b=>l6_ [t,s,(((min t w)+1)/2),((max s v)/2),(((min t w)+1)%2),(min t w),((max s v)%2),(max s v),v,w] (.le (.s v0 v1) (.k 290)) (.nle (.s (.r v2 2) (.r v3 2)) (.k 300)) (.an (.eq (.a (.m 2 v2) v4) (.a v5 k1)) (.an (.le k0 v4) (.lt v4 k2))) (.an (.eq (.a (.m 2 v3) v6) v7) (.an (.le k0 v6) (.lt v6 k2))) (.an (.lt v8 v1) (.eq v7 v1)) (.an (.le v0 v9) (.eq v5 v0)) [4097,79247505401183162422423195776] h2 g4 (dmI ((min t w)+1) 1) (dmI (max s v) 1) a b rfl) fun b=>l6_ [t,s,(((min t w)+1)/2),((max s v)/2),(((min t w)+1)%2),(min t w),((max s v)%2),(max s v),v,w] (.le (.s v0 v1) (.k 290)) (.nle (.s (.r v2 2) (.r v3 2)) (.k 300)) (.an (.eq (.a (.m 2 v2) v4) (.a v5 k1)) (.an (.le k0 v4) (.lt v4 k2))) (.an (.eq (.a (.m 2 v3) v6) v7) (.an (.le k0 v6) (.lt v6 k2))) (.an (.lt v8 v1) (.eq v7 v1)) (.an (.lt v9 v0) (.eq v5 v9)) [4097,80485445440468542697322320000] h2 g4 (dmI ((min t w)+1) 1) (dmI (max s v) 1) a b rfl⟩⟩⟩⟩
theorem q543 {s:Int} :(Int.toNat ((((s-0)-1)/1)+1))=s.toNat:=let c:List Int:=[(((Int.toNat ((((s-0)-1)/1)+1)):Nat):Int),↑s.toNat,(((s-0)-1)/1),(((s-0)-1)%1),s];let f0:LF:=.nle v0 v1;let f1:LF:=.an (.eq (.a (.m 1 v2) v3) (.s (.s v4 k0) k1)) (.an (.le k0 v3) (.lt v3 k1));let f2:LF:=.an (.le k0 (.a v2 k1)) (.eq v0 (.a v2 k1));let f3:LF:=.an (.le k0 v4) (.eq v1 v4);let f4:LF:=.an (.lt v4 k0) (.eq v1 k0);let f5:LF:=.an (.lt (.a v2 k1) k0) (.eq v0 k0);let f6:LF:=.nle v1 v0;gneq (fun g=>(tnE ((((s-0)-1)/1)+1)).elim (fun a=>(tnE s).elim (fun b=>l4_ c f0 f1 f2 f3 [73786980692901498944] g (dmI ((s-0)-1) 0) a b rfl) fun b=>l3_ c f1 f2 f4 [281476050714688] (dmI ((s-0)-1) 0) a b rfl) fun a=>l3_ c f0 (.le k0 v1) f5 [16781376] g (nnn s.toNat) a rfl) fun g=>(tnE s).elim (fun a=>(tnE ((((s-0)-1)/1)+1)).elim (fun b=>l4_ c f6 f1 f3 f2 [73786980693958721600] g (dmI ((s-0)-1) 0) a b rfl) fun b=>l3_ c f1 f3 f5 [281476067233792] (dmI ((s-0)-1) 0) a b rfl) fun a=>l3_ c f6 (.le k0 v0) f4 [16781376] g (nnn (Int.toNat ((((s-0)-1)/1)+1))) a rfl
theorem q545 {s:Int} (h0:0<s):(Int.toNat ((((s-0)-1)/2)+1))=(Int.toNat ((s+1)/2)):=let c:List Int:=[(((Int.toNat ((((s-0)-1)/2)+1)):Nat):Int),(((Int.toNat ((s+1)/2)):Nat):Int),(((s-0)-1)/2),(((s-0)-1)%2),s,((s+1)/2),((s+1)%2)];let f0:LF:=.nle v0 v1;let f1:LF:=.an (.eq (.a (.m 2 v2) v3) (.s (.s v4 k0) k1)) (.an (.le k0 v3) (.lt v3 k2));let f2:LF:=.an (.eq (.a (.m 2 v5) v6) (.a v4 k1)) (.an (.le k0 v6) (.lt v6 k2));let f3:LF:=.an (.le k0 (.a v2 k1)) (.eq v0 (.a v2 k1));let f4:LF:=.an (.le k0 v5) (.eq v1 v5);let f5:LF:=.lt k0 v4;let f6:LF:=.an (.lt v5 k0) (.eq v1 k0);let f7:LF:=.an (.lt (.a v2 k1) k0) (.eq v0 k0);let f8:LF:=.nle v1 v0;gneq (fun g=>(tnE ((((s-0)-1)/2)+1)).elim (fun a=>(tnE ((s+1)/2)).elim (fun b=>l5_ c f0 f1 f2 f3 f4 [2475880226162731936047435904] g (dmI ((s-0)-1) 1) (dmI (s+1) 1) a b rfl) fun b=>l3_ c f5 f2 f6 [138512957504] h0 (dmI (s+1) 1) b rfl) fun a=>l3_ c f0 (.le k0 v1) f7 [16781376] g (nnn (Int.toNat ((s+1)/2))) a rfl) fun g=>(tnE ((s+1)/2)).elim (fun a=>(tnE ((((s-0)-1)/2)+1)).elim (fun b=>l5_ c f8 f2 f1 f4 f3 [2475880226162731936047435904] g (dmI (s+1) 1) (dmI ((s-0)-1) 1) a b rfl) fun b=>l3_ c f5 f1 f7 [138512957504] h0 (dmI ((s-0)-1) 1) b rfl) fun a=>l3_ c f8 (.le k0 v0) f6 [16781376] g (nnn (Int.toNat ((((s-0)-1)/2)+1))) a rfl
end Mine.L
end
open PySem PySem.Calls PySem.W PyProof.Rows
open PySem renaming wpAny_bind→wb_,wpAny_pure→wq_
namespace Mine
section
noncomputable def exL (v:Value) (l:List (Code × Pos)):Bool:=match Builtin.Bytes.exported v with
 | .stack k=>(match k l with | .pure b=>b | _=>true)
 | _=>true
def good (c:Code):Prop:=∀ v p,exL v [(c,p)]=false
def Clean (Γ:Ctx):Prop:=good Γ.code∧∀ x ∈ Γ.below,good x.1
section
variable {α β:Type} {M:Model} {A A':Around} {s:Shared}
def wpX (M:Model) (A:Around) (t:Sem α) (Q:α→Shared→Prop) (s:Shared):Prop :=
 ∀ Γ p,Γ.In A→Clean Γ→Sem.wp M Γ t (fun a _ s'=>Q a s') (fun _ _ _=>False) p s
def okR (R:Flow→Shared→Prop):Result→Shared→Prop
 | .ok f,s=>R f s
 | .error _,_=>False
def codeX (M:Model) (A:Around) (c:Code) (R:Flow→Shared→Prop) (s:Shared):Prop :=
 ∀ Γ p,Γ.code=c→Γ.Below A→Clean Γ→wpCode M Γ (okR R) p s
abbrev noE:Value→Shared→Prop:=fun _ _=>False
theorem gG {P:Prop} (h:∀ G:Prop,(P→G)→G):P:=h P id
theorem Xa_ {t:Sem α} {Q:α→Shared→Prop} (h:wpAny M A t Q noE s):wpX M A t Q s:=fun Γ p hΓ _=>h Γ p hΓ
theorem Xp_ {a:α} {Q:α→Shared→Prop} (h:Q a s):wpX M A (pure a) Q s:=fun _ _ _ _=>h
theorem Xm_ {t:Sem α} {Q Q':α→Shared→Prop} (h:wpX M A t Q s) (hQ:∀ a s,Q a s→Q' a s):wpX M A t Q' s :=
 fun Γ p hΓ hc=>Sem.wp_mono M Γ t (fun a _ s=>hQ a s) (fun _ _ _ h=>h) p s (h Γ p hΓ hc)
theorem Xb_ {m:Sem α} {f:α→Sem β} {Q:β→Shared→Prop} (h:wpX M A m (fun a s'=>wpX M A (f a) Q s') s):wpX M A (m >>= f) Q s :=
 fun Γ p hΓ hc=>by
  rw [Sem.wp_bind']
  exact Sem.wp_mono M Γ m (fun a p' s' h'=>h' Γ p' hΓ hc) (fun _ _ _ h'=>h') p s (h Γ p hΓ hc)
theorem Xh_ {vs:List Value} {m:Sem α} {Q:α→Shared→Prop} (h:wpX M A m Q s):wpX M A (holding vs m) Q s :=
 fun Γ p hΓ hc=>by rw [Sem.wp_holding];exact h Γ p hΓ hc
theorem X_keep {vs:List Value} {m:Sem α} {Q:α→Shared→Prop} (h:wpX M A m Q s):wpX M A (m.keep vs) Q s :=
 fun Γ p hΓ hc=>by rw [Sem.wp_keep];exact h Γ p hΓ hc
theorem Xt_ {pos:Pos} {Q:Unit→Shared→Prop} (h:Q () s):wpX M A (standAt pos) Q s:=fun _ _ _ _=>h
theorem X_rule {tag:String} {Q:Unit→Shared→Prop} (h:Q () s):wpX M A (rule tag) Q s:=fun _ _ _ _=>h
theorem X_point {Q:Unit→Shared→Prop} (h:Q () s):wpX M A point Q s:=fun _ _ _ _=>h
theorem X_release {vs keep:List Value} {Q:Unit→Shared→Prop} (h:Q () s):wpX M A (release vs keep) Q s:=Xa_ (wpAny_release' h)
theorem X_operate {vs:List Value} {m:Sem Value} {Q:Value→Shared→Prop} (h:wpX M A m Q s):wpX M A (operate vs m) Q s :=
 Xb_ (Xh_ (Xm_ h fun _ _ x=>Xb_ (X_release (Xp_ x))))
theorem X_onRaise {m:Sem α} {k:Value→Sem Unit} {Q:α→Shared→Prop} (h:wpX M A m Q s):wpX M A (m.onRaise k) Q s:=fun Γ p hΓ hc=>by
 rw [Sem.wp_onRaise]
 exact Sem.wp_mono M Γ m (fun _ _ _ h'=>h') (fun _ _ _ h'=>h'.elim) p s (h Γ p hΓ hc)
theorem X_attempt {m:Sem α} {Q:Except Value α→Shared→Prop} (h:wpX M A m (fun a=>Q (.ok a)) s):wpX M A m.attempt Q s:=fun Γ p hΓ hc=>by
 rw [Sem.wp_attempt]
 exact Sem.wp_mono M Γ m (fun _ _ _ h'=>h') (fun _ _ _ h'=>h'.elim) p s (h Γ p hΓ hc)
theorem X_of_eq {t:Sem α} {a:α} {Q:α→Shared→Prop} (e:t=pure a) (h:Q a s):wpX M A t Q s:=e ▸ Xp_ h
theorem cX_mono {c:Code} {R R':Flow→Shared→Prop} (h:codeX M A c R s) (hR:∀ r s,R r s→R' r s):codeX M A c R' s :=
 fun Γ p hc hΓ hk=>wpCode_mono (fun r s x=>by cases r <;> first | exact hR _ _ x | exact x) (h Γ p hc hΓ hk)
theorem In_le {Γ:Ctx} (h:Γ.In A) (hh:A.handled=A'.handled) (hd:A.depth≤A'.depth) (hf:A'.frames=none) (hg:A'.guards=none) (hu:A.units≤A'.units):Γ.In A' :=
 ⟨h.1.trans hh,Nat.le_trans h.2.1 hd,(fun l e=>by rw [hf] at e;cases e),(fun l e=>by rw [hg] at e;cases e),Nat.le_trans h.2.2.2.2 hu⟩
theorem X_le {t:Sem α} {Q:α→Shared→Prop} (h:wpX M A' t Q s) (hh:A.handled=A'.handled) (hd:A.depth≤A'.depth) (hf:A'.frames=none) (hg:A'.guards=none) (hu:A.units≤A'.units):wpX M A t Q s :=
 fun Γ p hΓ hc=>h Γ p (In_le hΓ hh hd hf hg hu) hc
theorem clean_enter {Γ:Ctx} {c:Code} {h:Option Value} {p:Pos} (hk:Clean Γ) (hc:good c):Clean (Γ.enter c h p) :=
 ⟨hc,fun x hx=>(List.mem_cons.mp hx).elim (fun e=>e ▸ hk.1) (hk.2 x)⟩
theorem X_run {c:Code} {Q:Flow→Shared→Prop} (hg:good c) (hc:codeX M A c Q s):wpX M A (run c none) Q s :=
 fun Γ p hΓ hk=>by
  rw [Sem.wp_run]
  refine wpCode_mono (fun r s x=>?_) (hc _ p rfl (hΓ.enter c none p (by intro x;cases x)) (clean_enter hk hg))
  cases r <;> exact x
theorem X_runValue {c:Code} {Q:Value→Shared→Prop} (hg:good c) (hc:codeX M A c (fun f s'=>match f with | .ret v=>Q v s' | _=>False) s):wpX M A (runValue c) Q s :=
 fun Γ p hΓ hk=>by
  rw [Sem.wp_runValue]
  refine wpCode_mono (fun r s x=>?_) (hc _ p rfl (hΓ.enter c none p (by intro x;cases x)) (clean_enter hk hg))
  rcases r with e | (v | _ | _ | _) <;> exact x
theorem X_call {f:Value} {pos:List Value} {kw:List (Str × Value)} {Q:Value→Shared→Prop}
  (hc:codeX M A (.call f ⟨pos,kw⟩) (fun f s'=>match f with | .ret v=>Q v s' | _=>False) s):wpX M A (call f pos kw) Q s:=X_runValue (fun _ _=>rfl) hc
theorem X_runOwn {c:Code} {env:Env} {Q:Flow→Shared→Prop} (hg:good c) (hc:codeX M A c Q s):wpX M A (runOwn c env none) Q s:=by
 unfold runOwn
 exact X_onRaise (X_run hg hc)
def finX (M:Model) (A:Around) (R:Flow→Shared→Prop) (fin:Fin) (s':Shared):Prop:=match fin with
 | .done f=>R f s'
 | .again c'=>c'.quiet=true∧good c'∧codeX M A c' R s'
theorem cX_own {c:Code} {R:Flow→Shared→Prop}
  (h:∀ Γ p,Γ.code=c→Γ.Below A→Clean Γ→Sem.wp M Γ (M.den c) (fun fin _ s'=>finX M A R fin s') (fun _ _ _=>False) p s):codeX M A c R s:=fun Γ p hc hΓ hk=>by
 rw [wpCode_iff_wp,hc]
 refine Sem.wp_mono M Γ _ (fun fin p' s' h'=>?_) (fun _ _ _ h'=>h'.elim) p s (h Γ p hc hΓ hk)
 cases fin with
 | done f=>exact h'
 | again c'=>exact ⟨h'.1,h'.2.2 (Γ.goto c') p' rfl (hΓ.goto c') ⟨h'.2.1,hk.2⟩⟩
theorem cX_tree {c:Code} {R:Flow→Shared→Prop} (h:wpX M (A.under c) (M.den c) (fun fin s'=>finX M A R fin s') s):codeX M A c R s :=
 cX_own fun Γ p hc hΓ hk=>h Γ p (hc ▸ hΓ.in) hk
end
section
variable {α:Type} {prog:Program} {w:World} {A:Around} {s:Shared} {env:Env}
theorem under_func (A:Around) (body:List Stmt) (env:Env):A.under (.func body env)=A.deeper env:=by
 induction A using Around.casesOn;rfl
theorem cX_func {body:List Stmt} {R:Flow→Shared→Prop}
  (h:wpX (model prog w) (A.deeper env) (execs body env) (fun f s'=>R (.ret (match f with | .ret v=>v | _=>.none)) s') s):codeX (model prog w) A (.func body env) R s:=by
 refine cX_tree ?_
 rw [under_func]
 show wpX _ (A.deeper env) (do point;match ← (execs body env).onRaise (leaving env) with | .ret v=>ret v | _=>ret .none) _ s
 refine Xb_ (X_point (Xb_ (X_onRaise (Xm_ h (fun f s' h'=>?_)))))
 induction f using Flow.casesOn <;> exact Xp_ h'
theorem cX_block {stmts:List Stmt} {R:Flow→Shared→Prop} (h:wpX (model prog w) A (execs stmts env) R s):codeX (model prog w) A (.block stmts env) R s:=by
 refine cX_tree ?_
 show wpX _ _ (do return Fin.done (← (execs stmts env).onRaise (fun x=>do noteFrame x env;theTreesLotGoes x))) _ s
 exact Xb_ (X_onRaise (Xm_ h fun f s' h'=>Xp_ h'))
theorem cX_call_function {a:Addr} {args:Args} {o:Obj} {fd:FuncData} {body:List Stmt} {R:Flow→Shared→Prop} (hroom:A.depth < recursionLimit)
  (ho:s.heap.get? a=some o) (hd':o.data=.func fd) (hco:fd.scope.isCoroutine=false) (hgen:fd.scope.isGenerator=false) (hbody:fd.body=.stmts body) (hcd:s.heap.CodeRec fd.code fd.qualname)
  (h:wpX (model prog w) A.in1 (bindArgs fd args) (fun binds s₁ =>
   wpX (model prog w) A.in1 (newFunctionEnv fd.scope fd.globals fd.closure binds (fd.qualname ++ ".<locals>.") (some a) fd.code none fd.builtins)
    (fun env s₂=>s₂.heap.NoLimit∧codeX (model prog w) A (.func body env) R s₂) s₁) s) :
  codeX (model prog w) A (.call (.ref a) args) R s:=by
 refine cX_tree ?_
 show wpX _ A.in1 (callAny (.ref a) args) _ s
 simp only [callAny]
 refine Xb_ (Xa_ (wpAny_load ho ?_))
 obtain ⟨c,oc,vs,tq,hc,hoc,hdc,hq⟩:=hcd
 simp only [hd',callFunction,hco,hgen,hbody,hc]
 rw [hc] at h
 refine Xb_ (m:=field (.ref c) 1) (Xa_ (wpAny_field hoc hdc hq ?_))
 refine Xb_ (Xp_ ?_)
 exact Xb_ (Xm_ h (fun binds s₁ h₁=>Xb_ (Xm_ h₁ (fun env s₂ h₂=>Xb_ (Xm_ (Xa_ (wpAny_enterFrame (Q:=fun _ s'=>s'=s₂) h₂.1 hroom rfl)) (fun _ _ e=>e ▸ Xp_ ⟨rfl,(fun _ _=>rfl),h₂.2⟩))))))
end
end
section
noncomputable abbrev rwl:=PySem.Challenge.rw_pq1094_01
noncomputable abbrev pp:Program:=PySem.Challenge.pw_pq1094_01
theorem k1:namesResolve pp=true:=by kernel_rfl
theorem k2:(namesMeet pp pp.main.body fun _ n=>attrL n)=true:=by kernel_rfl
theorem k3:(["vars", "dir", "locals"]:List Str).filter (readsOut pp pp.main.body)=[]:=by kernel_rfl
theorem k5:noRoadLSs { strict:=!(importedModules pp.main.body).all cThrough.contains,foot:=none,bare:=[] } pp.main.body=true:=by kernel_rfl
theorem k4:noClassBlock rwl.prog rwl.footing=true:=by kernel_rfl
theorem k7:noRoadLSs { strict:=true,foot:=some rwl.bound',writes:=rwl.writes,may:=rwl.may } rwl.footing=true:=by kernel_rfl
theorem k9:rwl.namesIt=true:=by kernel_rfl
theorem k11:(rwl.bound'.all fun n=>!builtinNamed n || rwl.about == [n] || !rwl.reads n)=true:=by kernel_rfl
theorem k14:(namesMeet rwl.prog rwl.footing (fun sc n=>(!(["type", "isinstance", "issubclass", "getattr", "hasattr"]:List Str).contains n || sc.names.lookup n == some .globalImplicit) &&
  (rwl.may != some n || sc.kind == .module || sc.names.lookup n == some .globalImplicit)))=true:=by kernel_rfl
theorem k17:(rwl.own.all (fun n=>!builtinNamed n))=true:=by kernel_rfl
theorem k18:(namesMeet rwl.prog rwl.above (fun _ n=>!rwl.own.contains n))=true:=by kernel_rfl
theorem k19:(namesMeet rwl.prog rwl.footing fun sc n=>sc.kind == .module || sc.names.lookup n != some .globalExplicit)=true:=by kernel_rfl
theorem kL:looksOpen pp=true:=by
 unfold looksOpen
 rw [k1,k2,k3,k5]
 kernel_rfl
theorem kP:rwl.row.partSaid=true:=by
 unfold OpenRow.partSaid
 rw [show looksOpen rwl.row.prog=true from kL]
 kernel_rfl
theorem kW:rwl.row.wellSaid=true:=by
 unfold OpenRow.wellSaid
 rw [kP]
 kernel_rfl
theorem h_ws:rwl.wellSaid=true:=by
 unfold OpenLaw.wellSaid
 rw [kW,k4,k7,k9,k11,k14,k17,k18,k19]
 kernel_rfl
end
section
set_option genSizeOf false
set_option genInjectivity false
inductive PV where
 | none | bool (b:Bool) | int (i:Int) | str (s:Str)
 | bytes (l:List Int) | ba (l:List Int)
 | tup (l:List PV) | il (l:List Int) | lst (l:List PV)
 | any | rng (a b c:Int) | ref (i:Nat) | inst (c i:Nat) | fn (f:Nat)
 | ed | sdx (n:Nat) | sd (k:List Nat) (v:List PV) | idc (k:List Int) (v:List PV) | td (a:Int) (k:List Int) (v:PV) | att (k:List Nat) (v:List PV)
inductive LV where
 | un | v (x:PV) | own (x:PV)
structure St where
 r:List LV
 s:List PV
inductive Fl where
 | next | brk | ret (x:PV)
mutual
inductive CE where
 | lit (n:Nat) (x:PV) | loc (n i:Nat) | fnv (n i f:Nat)
 | bin (n:Nat) (op:Operator) (a b:CE) | tadd (n:Nat) (a b:CE) | neg (n:Nat) (a:CE)
 | ifx (n:Nat) (t:CT) (a b:CE) | bl (n:Nat) (op:BoolOp) (l:CL) | cmp (n:Nat) (op:CmpOp) (a b:CE)
 | tup (n:Nat) (l:CL) | tix (n:Nat) (a:CE) (k:Nat) | item (n:Nat) (a i:CE) | slice (n:Nat) (a:CE) (lo hi:CO) | key (n:Nat) (a:CE) (k:Nat)
 | attr (n:Nat) (a:CE) (j:Nat)
 | call (n i f:Nat) (l:CL) | callv (n i:Nat) (l:CL) | new (n i c:Nat) (l:CL)
 | b1 (n i:Nat) (b:Nat) (a:CE) | mnx (n i:Nat) (mx:Bool) (a b:CE) | rng3 (n i:Nat) (a b c:CE)
 | get (n:Nat) (o a:CE) (d:CO) | pop (n m:Nat) (o:CE)
 | fz (a:CN) | th (a:CN)
inductive CN where
 | lst (n:Nat) (l:CL) | add (n:Nat) (a b:CE) | mul (n:Nat) (a b:CE) | step (n m:Nat) (a i:CE)
 | comp (n:Nat) (e:CE) (t:Nat) (it:CE) (c:CO) (iv:Bool) (m:List Nat) (u:Nat)
 | dict0 (n:Nat) | dictI (n:Nat) (k:List Int) (l:CL) | dictS (n:Nat) (k:List Nat) (l:CL) | b1 (n i:Nat) (b:Nat) (a:CE)
inductive CO where
 | no | so (e:CE) | te (t:CT)
inductive CL where
 | nil | cons (a:CE) (l:CL)
inductive CT where
 | val (a:CE) | nt (n:Nat) (t:CT) | bl (n:Nat) (op:BoolOp) (l:CTL) | cmp (n:Nat) (op:CmpOp) (a b:CE) | cmp2 (n:Nat) (o p:CmpOp) (a b c:CE)
inductive CTL where
 | nil | cons (t:CT) (l:CTL)
end
inductive CP where
 | own (n i:Nat) | ref (e:CE)
inductive CG where
 | nm (n i:Nat) | tup (n:Nat) (l:List (Nat × Nat))
mutual
inductive CS where
 | ex (n:Nat) (e:CE) | app (n:Nat) (p:CP) (e:CE)
 | asg (n:Nat) (i:Nat) (e:CE) | asgO (n:Nat) (i:Nat) (a:CN) | asgT (n:Nat) (l:List (Nat × Nat)) (e:CE)
 | asgA (n:Nat) (o:CE) (j:Nat) (e:CE) | asgI (n:Nat) (p:CP) (i e:CE) | asgK (n:Nat) (p:CP) (j:Nat) (e:CE) | asgS (n:Nat) (p:CP) (lo hi e:CE)
 | aug (n i:Nat) (e:CE)
 | ite (n:Nat) (t:CT) (a b:CB) | for_ (n:Nat) (g:CG) (it:CE) (b:CB) | fore (n m i:Nat) (g:CG) (it:CE) (b:CB) | whl (n:Nat) (t:CT) (b:CB)
 | ret (n:Nat) (e:CE) | ret0 (n:Nat) | brk (n:Nat) | stuck (s:Nat)
inductive CB where
 | nil | cons (s:CS) (b:CB)
end
end
section
def br (b:Bool) (P Q:Prop):Prop:=Bool.rec (motive:=fun _=>Prop) Q P b
def gd (p:Prop) [Decidable p] (P:Prop):Prop:=Bool.rec (motive:=fun _=>Prop) False P (decide p)
@[irreducible] def gp (p P:Prop):Prop:=p∧P
@[irreducible] def gs (σ:List PV) (i:Nat) (K:PV→Prop):Prop:=∃ x,σ[i]?=some x∧K x
theorem br_i {b:Bool} {P Q:Prop} (h:b=true→P) (k:b=false→Q):br b P Q:=by
 cases b
 ·exact k rfl
 ·exact h rfl
theorem br_t {b:Bool} {P Q:Prop} (h:b=true) (k:P):br b P Q:=br_i (fun _=>k) fun e=>nomatch h.symm.trans e
theorem br_f {b:Bool} {P Q:Prop} (h:b=false) (k:Q):br b P Q:=br_i (fun e=>nomatch e.symm.trans h) fun _=>k
theorem gd_i {p P:Prop} [Decidable p] (h:p) (k:P):gd p P:=by unfold gd;rw [decide_eq_true h];exact k
theorem gp_i {p P:Prop} (h:p) (k:P):gp p P:=by unfold gp;exact ⟨h,k⟩
theorem gs_i {σ:List PV} {i:Nat} {K:PV→Prop} {x:PV} (h:σ[i]?=some x) (k:K x):gs σ i K:=by unfold gs;exact ⟨x,h,k⟩
def asI (x:PV) (K:Int→Prop):Prop:=match x with | .int i=>K i | _=>False
def asB (x:PV) (K:Bool→Prop):Prop:=match x with | .bool b=>K b | _=>False
def asT (x:PV) (K:List PV→Prop):Prop:=match x with | .tup l=>K l | _=>False
def asY (x:PV) (K:List Int→Prop):Prop:=match x with | .bytes l=>K l | _=>False
noncomputable def asIs:List PV→(List Int→Prop)→Prop
 | [],K=>K []
 | x :: r,K=>asI x fun i=>asIs r fun l=>K (i :: l)
noncomputable def asIss:List PV→(List (List Int)→Prop)→Prop
 | [],K=>K []
 | x :: r,K=>asT x fun i=>asIs i fun i=>asIss r fun l=>K (i :: l)
def drf (σ:List PV) (x:PV) (K:PV→Prop):Prop:=match x with | .ref i=>gs σ i K | _=>K x
def asL (σ:List PV) (x:PV) (K:List Int→Prop):Prop:=drf σ x fun x=>match x with | .il l=>K l | _=>False
noncomputable def nth {α:Type}:List α→Nat→Option α
 | [],_=>none
 | x :: _,0=>some x
 | _ :: r,n+1=>nth r n
noncomputable def st1 {α:Type}:List α→Nat→α→List α
 | [],_,_=>[]
 | _ :: r,0,y=>y :: r
 | x :: r,n+1,y=>x :: st1 r n y
noncomputable def lk:List Nat→List PV→Nat→Option PV
 | k :: ks,v :: vs,j=>match Nat.beq k j with | true=>some v | false=>lk ks vs j
 | _,_,_=>none
noncomputable def inK:List Nat→Nat→Bool
 | [],_=>false
 | k :: ks,j=>match Nat.beq k j with | true=>true | false=>inK ks j
noncomputable def pv:List Nat→List PV→Nat→PV→List PV
 | k :: ks,v :: vs,j,x=>match Nat.beq k j with | true=>x :: vs | false=>v :: pv ks vs j x
 | _,_,_,x=>[x]
noncomputable def pk (ks:List Nat) (j:Nat):List Nat:=match inK ks j with | true=>ks | false=>ks ++ [j]
noncomputable def lkI:List Int→List PV→Int→(PV→Prop)→Prop→Prop
 | k :: ks,v :: vs,j,K,N=>br (decide (j=k)) (K v) (lkI ks vs j K N)
 | _,_,_,_,N=>N
noncomputable def fzP:PV→PV
 | .ed | .sdx _ | .sd .. | .td .. | .att ..=>.any
 | x=>x
def nA (x:PV) (P:Prop):Prop:=match x with | .any=>False | _=>P
def rdW (st:St) (i:Nat) (K:PV→St→Prop):Prop:=match nth st.r i with
 | some (.v x)=>K x st
 | some (.own x)=>K (fzP x) ⟨st1 st.r i (.v (fzP x)),st.s⟩
 | _=>False
noncomputable def ix (l:List Int) (k:Int):Int:=l.getD k.toNat 0
noncomputable def sl {α:Type} (l:List α) (a b:Int):List α:=(l.take b.toNat).drop a.toNat
def binI (op:Operator) (a b:Int) (K:Int→Prop):Prop:=match op with
 | .Add=>K (a+b)
 | .Sub=>K (a - b)
 | .Mult=>gd (b.natAbs < 2 ^ 64 ∨ a.natAbs < 2 ^ 64) (K (a * b))
 | .FloorDiv=>gd (0 < b∧b < 2 ^ 1000) (K (a / b))
 | .Mod=>gd (0 < b) (K (a % b))
 | .Pow=>gd (0≤b∧b≤1000∧a.natAbs < 2 ^ 64) (K (a ^ b.toNat))
 | .LShift=>gd (0≤b∧b≤1000∧a.natAbs < 2 ^ 1000) (K (a * 2 ^ b.toNat))
 | .RShift=>gd (0≤b) (K (a / 2 ^ b.toNat))
 | .BitAnd=>K (Builtin.bitAnd a b)
 | .BitOr=>K (Builtin.bitOr a b)
 | _=>False
def addW (x y:PV) (K:PV→Prop):Prop:=match x,y with
 | .il a,.il b=>gd (a.length+b.length≤1000000) (K (.il (a ++ b)))
 | _,_=>False
def bd (n:Nat) (P:Prop):Prop:=match Nat.ble n 1000 with | true=>P | false=>False
def lt (i n:Nat) (P:Prop):Prop:=match Nat.blt i n with | true=>P | false=>False
noncomputable def lts:List Nat→Nat→Prop→Prop
 | [],_,P=>P
 | i :: l,n,P=>lt i n (lts l n P)
def taW (x y:List PV) (P:Prop):Prop:=match x,y with | _ :: _,_ :: _=>P | _,_=>False
def eqW (σ:List PV) (x y:PV) (K:Bool→Prop):Prop:=match x with
 | .int a=>asI y fun b=>K (decide (a=b))
 | .bool a=>asB y fun b=>K (decide (a=b))
 | .str a=>(match y with | .str b=>K (decide (a=b)) | _=>False)
 | .none=>(match y with | .none=>K true | .tup _=>K false | _=>False)
 | .tup l=>(match y with | .none=>K false | .tup m=>asIs l fun a=>asIs m fun b=>K (decide (a=b)) | _=>False)
 | .bytes a=>asY y fun b=>K (decide (a=b))
 | _=>asL σ x fun a=>asL σ y fun b=>K (decide (a=b))
def isN (x:PV) (K:Bool→Prop):Prop:=match x with
 | .none=>K true
 | .any=>False
 | .ed=>False
 | _=>K false
def inW (x y:PV) (K:Bool→Prop):Prop:=asT y fun l=>match x with
 | .int i=>asIs l fun l=>K (decide (i ∈ l))
 | .tup t=>asIs t fun t=>asIss l fun l=>K (decide (t ∈ l))
 | _=>False
def cmpW (σ:List PV) (op:CmpOp) (x y:PV) (K:Bool→Prop):Prop:=match op with
 | .Eq=>eqW σ x y K
 | .NotEq=>eqW σ x y fun b=>K (!b)
 | .Lt=>asI x fun a=>asI y fun b=>K (decide (a < b))
 | .LtE=>asI x fun a=>asI y fun b=>K (decide (a≤b))
 | .Gt=>asI x fun a=>asI y fun b=>K (decide (a > b))
 | .GtE=>asI x fun a=>asI y fun b=>K (decide (a ≥ b))
 | .Is=>(match y with | .none=>isN x K | _=>False)
 | .IsNot=>(match y with | .none=>isN x fun b=>K (!b) | _=>False)
 | .In=>inW x y K
 | .NotIn=>inW x y fun b=>K (!b)
def trW (x:PV) (K:Bool→Prop):Prop:=match x with
 | .bool b=>K b
 | .int i=>K (decide (i ≠ 0))
 | .none=>K false
 | _=>False
def atI (l:List Int) (k:Int) (K:Int→Prop):Prop:=gd (0≤k∧k < l.length) (K (ix l k))
noncomputable def atT:List PV→Int→(PV→Prop)→Prop
 | [],_,_=>False
 | [x],k,K=>gd (k=0) (K x)
 | x :: r,k,K=>br (decide (k=0)) (K x) (atT r (k - 1) K)
noncomputable def allI:List PV→Bool
 | []=>true
 | .int _ :: r=>allI r
 | _=>false
def itemW (σ:List PV) (x y:PV) (K:PV→Prop):Prop:=drf σ x fun x=>match x with
 | .il l=>asI y fun k=>atI l k fun i=>K (.int i)
 | .bytes l=>asI y fun k=>atI l k fun i=>K (.int i)
 | .ba l=>asI y fun k=>atI l k fun i=>K (.int i)
 | .tup l=>(match y with
  | .int k=>(match allI l with | true=>asIs l fun l=>atI l k fun i=>K (.int i) | false=>atT l k K)
  | .bool b=>(match l with | [u,v]=>br b (K v) (K u) | _=>False)
  | _=>False)
 | .idc ks vs=>asI y fun k=>lkI ks vs k K False
 | _=>False
def tixW (σ:List PV) (x:PV) (k:Nat) (K:PV→Prop):Prop:=drf σ x fun x=>match x with
 | .il l=>atI l k fun i=>K (.int i)
 | .bytes l=>atI l k fun i=>K (.int i)
 | .ba l=>atI l k fun i=>K (.int i)
 | .tup l=>(match nth l k with | some y=>K y | none=>False)
 | _=>False
def bdW (x:Option PV) (K:Option Int→Prop):Prop:=match x with
 | none=>K none
 | some x=>asI x fun i=>gd (0≤i) (K (some i))
noncomputable def slc {α:Type} (l:List α) (lo hi:Option Int):List α:=match lo,hi with
 | none,none=>l
 | some a,none=>l.drop a.toNat
 | none,some b=>l.take b.toNat
 | some a,some b=>sl l a b
def sliceW (σ:List PV) (x:PV) (lo hi:Option Int) (K:PV→Prop):Prop:=drf σ x fun x=>match x with
 | .il l=>K (.il (slc l lo hi))
 | .bytes l=>K (.bytes (slc l lo hi))
 | .ba l=>K (.ba (slc l lo hi))
 | .tup l=>(match lo,hi with | none,some b=>gd (b < l.length) (K (.tup (l.take b.toNat))) | _,_=>False)
 | _=>False
def lenW (σ:List PV) (x:PV) (K:Int→Prop):Prop:=drf σ x fun x=>match x with
 | .il l=>K l.length
 | .lst l=>K l.length
 | .tup l=>K l.length
 | .bytes l=>K l.length
 | .ba l=>K l.length
 | _=>False
def Oct (l:List Int):Prop:=∀ x ∈ l,0≤x∧x < 256
def b1W (σ:List PV) (b:Nat) (x:PV) (K:PV→Prop):Prop:=match b with
 | 0=>lenW σ x fun n=>K (.int n)
 | 1=>(match x with | .il l=>K (.int l.sum) | _=>False)
 | 2=>asI x fun n=>gd (-1000000≤n∧n≤1000000) (K (.rng 0 n 1))
 | 3=>drf σ x fun x=>match x with
  | .il l=>gp (Oct l) (K (.bytes l))
  | .ba l=>K (.bytes l)
  | .bytes l=>K (.bytes l)
  | _=>False
 | _=>False
def n1W (σ:List PV) (b:Nat) (x:PV) (K:PV→Prop):Prop:=match b with
 | 0=>asY x fun l=>K (.ba l)
 | 1=>drf σ x fun x=>match x with | .ba l=>K (.il l) | _=>False
 | _=>False
def isD (σ:List PV) (x:PV) (P:Prop):Prop:=drf σ x fun x=>match x with | .idc ..=>P | .td ..=>P | _=>False
def isLs (x:PV) (P:Prop):Prop:=match x with | .il _=>P | .lst _=>P | _=>False
def getW (σ:List PV) (x k:PV) (d:Option PV) (K:PV→Prop):Prop:=drf σ x fun x=>match x with
 | .idc ks vs=>asI k fun k=>lkI ks vs k K (match d with | some d=>K d | none=>K .none)
 | .td a u v=>(match d with
  | none=>asT k fun t=>(match t with
   | [y,z]=>asI y fun b=>asT z fun t=>asIs t fun t=>gd (b=a∧t=u) (K v)
   | _=>False)
  | some _=>False)
 | _=>False
noncomputable def upJ (a c:Int):Nat→List PV
 | 0=>[]
 | n+1=>.int a :: upJ (a+c) c n
@[irreducible] noncomputable def upI (a c:Int) (n:Nat):List PV:=Classical.choose (⟨upJ a c n,rfl⟩:∃ l,l=upJ a c n)
theorem upI_eq {a c:Int} {n:Nat}:upI a c n=upJ a c n:=by
 unfold upI
 exact Classical.choose_spec (⟨upJ a c n,rfl⟩:∃ l,l=upJ a c n)
def itsW (_:List PV) (x:PV) (K:List PV→Prop):Prop:=match x with
 | .il l=>K (l.map .int)
 | .lst l=>K l
 | .tup l=>K l
 | .bytes l=>K (l.map .int)
 | .ba l=>K (l.map .int)
 | .rng a b c=>K (upI a c (Builtin.Range.rangeSize a b c).toNat)
 | _=>False
noncomputable def stepL (l:List Int) (a:Int):List Int :=
 (sliceRange (PySem.sliceBounds (some a) none (some 5) l.length).1 (PySem.sliceBounds (some a) none (some 5) l.length).2.1 (PySem.sliceBounds (some a) none (some 5) l.length).2.2).filterMap (l[·]?)
inductive PL where
 | own (i:Nat) | ref (i:Nat)
noncomputable abbrev Orc:=Nat→List PV→List PV→(PV→List PV→Prop)→Prop
noncomputable def lcW (step:PV→List PV→(Option PV→List PV→Prop)→Prop):List PV→List PV→(List PV→List PV→Prop)→Prop
 | [],σ,K=>K [] σ
 | x :: l,σ,K=>step x σ fun y σ=>lcW step l σ fun r σ=>match y with | some y=>K (y :: r) σ | none=>K r σ
def ilW (l:List PV) (K:PV→Prop):Prop:=asIs l fun l=>K (.il l)
def mkL (l:List PV) (K:PV→Prop):Prop:=match l with
 | []=>K (.il [])
 | .int _ :: _=>ilW l K
 | _=>K (.lst l)
noncomputable def frm (r:List LV):List Nat→List LV
 | []=>[]
 | i :: m=>(match i with | 0=>.un | i+1=>(match nth r i with | some x=>x | none=>.un)) :: frm r m
section
variable (C:Orc)
mutual
noncomputable def wE:CE→St→(PV→St→Prop)→Prop
 | .lit _ x,st,K=>K x st
 | .loc _ i,st,K=>rdW st i K
 | .fnv _ _ f,st,K=>K (.fn f) st
 | .bin _ op a b,st,K=>wE a st fun x st=>wE b st fun y st=>asI x fun x=>asI y fun y=>binI op x y fun z=>K (.int z) st
 | .tadd _ a b,st,K=>wE a st fun x st=>wE b st fun y st=>asT x fun x=>asT y fun y=>taW x y (bd (x ++ y).length (K (.tup (x ++ y)) st))
 | .neg _ a,st,K=>wE a st fun x st=>asI x fun i=>K (.int (-i)) st
 | .ifx _ t a b,st,K=>wT t st fun c st=>br c (wE a st K) (wE b st K)
 | .bl _ op l,st,K=>wBl op l st fun b st=>K (.bool b) st
 | .cmp _ op a b,st,K=>wE a st fun x st=>wE b st fun y st=>cmpW st.s op x y fun b=>K (.bool b) st
 | .tup _ l,st,K=>wL l st fun l st=>bd l.length (K (.tup l) st)
 | .tix _ a k,st,K=>wE a st fun x st=>tixW st.s x k fun z=>K z st
 | .item _ a i,st,K=>wE a st fun x st=>wE i st fun y st=>itemW st.s x y fun z=>K z st
 | .slice _ a lo hi,st,K=>wE a st fun x st=>wO lo st fun l st=>wO hi st fun h st=>bdW l fun l=>bdW h fun h=>sliceW st.s x l h fun z=>K z st
 | .key _ a k,st,K=>wE a st fun x st=>drf st.s x fun x=>match x with | .sd ks vs=>lt k 2 (match lk ks vs k with | some y=>K y st | none=>False) | _=>False
 | .attr _ a j,st,K=>wE a st fun x st=>match x with
  | .inst _ i=>gs st.s i fun x=>(match x with | .att ks vs=>(match lk ks vs j with | some y=>nA y (K y st) | none=>False) | _=>False)
  | _=>False
 | .call _ _ f l,st,K=>wL l st fun l st=>C f l st.s fun x σ=>K x ⟨st.r,σ⟩
 | .callv _ i l,st,K=>rdW st i fun f st=>match f with | .fn f=>wL l st fun l st=>C f l st.s fun x σ=>K x ⟨st.r,σ⟩ | _=>False
 | .new _ _ c l,st,K=>wL l st fun l st=>C c (.inst c st.s.length :: l) (st.s ++ [.att [] []]) fun x σ=>match x with | .none=>K (.inst c st.s.length) ⟨st.r,σ⟩ | _=>False
 | .b1 _ _ b a,st,K=>wE a st fun x st=>b1W st.s b x fun z=>K z st
 | .mnx _ _ mx a b,st,K=>wE a st fun x st=>wE b st fun y st=>asI x fun x=>asI y fun y=>match mx with | true=>K (.int (max x y)) st | false=>K (.int (min x y)) st
 | .rng3 _ _ a b c,st,K=>wE a st fun x st=>wE b st fun y st=>wE c st fun z st=>asI x fun x=>asI y fun y=>asI z fun z=>gd ((0≤x∧x≤1000000)∧(-1000000≤y∧y≤1000000)∧0 < z∧z≤1000000) (K (.rng x y z) st)
 | .get _ o a d,st,K=>wE o st fun x st=>isD st.s x (wE a st fun k st=>wO d st fun d st=>getW st.s x k d fun z=>K z st)
 | .pop _ _ o,st,K=>wE o st fun x st=>match x with
  | .ref i=>gs st.s i fun x=>(match x with | .il (y :: l)=>K (.int y) ⟨st.r,st.s.set i (.il l)⟩ | _=>False)
  | _=>False
 | .fz a,st,K=>wN a st fun x st=>K (fzP x) st
 | .th a,st,K=>wN a st fun x st=>K (.ref st.s.length) ⟨st.r,st.s ++ [x]⟩
noncomputable def wN:CN→St→(PV→St→Prop)→Prop
 | .lst _ l,st,K=>wL l st fun l st=>bd l.length (mkL l fun x=>K x st)
 | .add _ a b,st,K=>wE a st fun x st=>wE b st fun y st=>addW x y fun z=>K z st
 | .mul _ a b,st,K=>wE a st fun x st=>wE b st fun y st=>match x with
  | .il (x :: l)=>asI y fun n=>gd (0≤n∧n≤1000∧(x :: l).length≤1000) (K (.il (List.replicate n.toNat (x :: l)).flatten) st)
  | _=>False
 | .step _ _ a i,st,K=>wE a st fun x st=>wE i st fun y st=>match x with
  | .il x=>asI y fun i=>gd (0≤i∧i < 2 ^ 63∧x.length≤64) (K (.il (stepL x i)) st)
  | _=>False
 | .comp _ e t it c iv m u,st,K=>wE it st fun x st=>itsW st.s x fun l=>lcW (fun y σ k=>wC c ⟨st1 (frm st.r m) t (.v y),σ⟩ fun b st'=>br b (wE e st' fun z st'=>k (some z) st'.s) (k none st'.s)) l st.s fun out σ=>match iv with
  | true=>ilW out fun x=>K x ⟨st.r,σ⟩
  | false=>K (.lst out) ⟨st.r,σ⟩
 | .dict0 _,st,K=>K .ed st
 | .dictI _ k l,st,K=>wL l st fun l st=>bd k.length (K (.idc k l) st)
 | .dictS _ k l,st,K=>wL l st fun l st=>bd k.length (lts k 2 (K (.sd k l) st))
 | .b1 _ _ b a,st,K=>wE a st fun x st=>n1W st.s b x fun z=>K z st
noncomputable def wO:CO→St→(Option PV→St→Prop)→Prop
 | .no,st,K=>K none st
 | .so e,st,K=>wE e st fun x st=>K (some x) st
 | .te _,_,_=>False
noncomputable def wC:CO→St→(Bool→St→Prop)→Prop
 | .no,st,K=>K true st
 | .so _,_,_=>False
 | .te t,st,K=>wT t st K
noncomputable def wL:CL→St→(List PV→St→Prop)→Prop
 | .nil,st,K=>K [] st
 | .cons a l,st,K=>wE a st fun x st=>wL l st fun l st=>K (x :: l) st
noncomputable def wBl:BoolOp→CL→St→(Bool→St→Prop)→Prop
 | _,.nil,_,_=>False
 | op,.cons a l,st,K=>wE a st fun x st=>asB x fun b=>match l with
  | .nil=>K b st
  | l=>(match op with | .And=>br b (wBl op l st K) (K false st) | .Or=>br b (K true st) (wBl op l st K))
noncomputable def wT:CT→St→(Bool→St→Prop)→Prop
 | .val a,st,K=>wE a st fun x st=>trW x fun b=>K b st
 | .nt _ t,st,K=>wT t st fun b st=>K (!b) st
 | .bl _ op l,st,K=>wTl op l st K
 | .cmp _ op a b,st,K=>wE a st fun x st=>wE b st fun y st=>cmpW st.s op x y fun b=>K b st
 | .cmp2 _ o p a b c,st,K=>wE a st fun x st=>wE b st fun y st=>cmpW st.s o x y fun t=>br t (wE c st fun z st=>cmpW st.s p y z fun b=>K b st) (K false st)
noncomputable def wTl:BoolOp→CTL→St→(Bool→St→Prop)→Prop
 | .And,.nil,st,K=>K true st
 | .Or,.nil,st,K=>K false st
 | .And,.cons a l,st,K=>wT a st fun b st=>br b (wTl .And l st K) (K false st)
 | .Or,.cons a l,st,K=>wT a st fun b st=>br b (K true st) (wTl .Or l st K)
end
def wP (p:CP) (st:St) (K:PL→St→Prop):Prop:=match p with
 | .own _ i=>(match nth st.r i with | some (.own _)=>K (.own i) st | _=>False)
 | .ref e=>wE C e st fun x st=>match x with | .ref i=>K (.ref i) st | _=>False
end
def plG (p:PL) (st:St) (K:PV→Prop):Prop:=match p with
 | .own i=>(match nth st.r i with | some (.own x)=>K x | _=>False)
 | .ref i=>gs st.s i K
noncomputable def plP (p:PL) (y:PV) (st:St):St:=match p with
 | .own i=>⟨st1 st.r i (.own y),st.s⟩
 | .ref i=>⟨st.r,st.s.set i y⟩
noncomputable def tpl (l:List (Nat × Nat)) (v:List PV) (r:List LV) (K:List LV→Prop):Prop:=match l,v with
 | [],[]=>K r
 | p :: l,x :: v=>tpl l v (st1 r p.2 (.v x)) K
 | _,_=>False
def wG (g:CG) (x:PV) (r:List LV) (K:List LV→Prop):Prop:=match g with
 | .nm _ i=>K (st1 r i (.v x))
 | .tup _ l=>asT x fun v=>tpl l v r K
def appW (x y:PV) (K:PV→Prop):Prop:=match x with
 | .il l=>gd (l.length < 1000000) (match y with | .int i=>K (.il (l ++ [i])) | _=>(match l with | []=>K (.lst [y]) | _=>False))
 | .lst l=>gd (l.length < 1000000) (K (.lst (l ++ [y])))
 | _=>False
def storeW (x k y:PV) (K:PV→Prop):Prop:=match x with
 | .il l=>asI k fun k=>asI y fun y=>gd (0≤k∧k < l.length) (K (.il (l.set k.toNat y)))
 | .ed=>(match k with
  | .str _=>K (.sdx 1)
  | .int k=>K (.idc [k] [y])
  | .tup [a,b]=>asI a fun a=>asT b fun b=>asIs b fun b=>K (.td a b y)
  | _=>False)
 | .sdx n=>(match k with | .str _=>gd (n < 1000) (K (.sdx (n+1))) | _=>False)
 | _=>False
noncomputable def putL {α:Type} (l:List α) (a b:Nat) (new:List α):List α:=l.take a ++ new ++ l.drop (max a b)
def sstoreW (x lo hi y:PV) (K:PV→Prop):Prop:=asI lo fun a=>asI hi fun b=>match x with
 | .il l=>(match y with | .il m=>gd ((0≤a∧a≤b)∧b≤l.length∧l.length≤100000∧m.length≤1000) (K (.il (putL l a.toNat b.toNat m))) | _=>False)
 | .ba l=>asY y fun m=>gd ((0≤a∧a≤b)∧b≤l.length∧(m.length:Int)=b - a) (K (.ba (putL l a.toNat b.toNat m)))
 | _=>False
def augW (x y:PV) (K:PV→Prop):Prop:=match x with
 | .int a=>asI y fun b=>K (.int (a+b))
 | .bytes a=>asY y fun b=>gd (a.length+b.length≤1000000) (K (.bytes (a ++ b)))
 | _=>False
noncomputable def forW (step:PV→St→(Fl→St→Prop)→Prop):List PV→St→(Fl→St→Prop)→Prop
 | [],st,K=>K .next st
 | x :: l,st,K=>step x st fun fl st=>match fl with
  | .next=>forW step l st K
  | .brk=>K .next st
  | .ret y=>K (.ret y) st
noncomputable def whlW (test:St→(Bool→St→Prop)→Prop) (step:St→(Fl→St→Prop)→Prop):Nat→St→(Fl→St→Prop)→Prop
 | 0,_,_=>False
 | n+1,st,K=>test st fun b st=>br b (step st fun fl st=>match fl with
  | .next=>whlW test step n st K
  | .brk=>K .next st
  | .ret y=>K (.ret y) st) (K .next st)
noncomputable def enm:Nat→List PV→List PV
 | _,[]=>[]
 | k,x :: l=>.tup [.int k,x] :: enm (k+1) l
section
variable (C:Orc)
mutual
noncomputable def wS:CS→St→(Fl→St→Prop)→Prop
 | .ex _ e,st,K=>wE C e st fun _ st=>K .next st
 | .app _ p e,st,K=>wP C p st fun p st=>plG p st fun x=>isLs x (wE C e st fun y st=>plG p st fun x=>appW x y fun z=>K .next (plP p z st))
 | .asg _ i e,st,K=>wE C e st fun x st=>K .next ⟨st1 st.r i (.v x),st.s⟩
 | .asgO _ i a,st,K=>wN C a st fun x st=>K .next ⟨st1 st.r i (.own x),st.s⟩
 | .asgT _ l e,st,K=>wE C e st fun x st=>asT x fun v=>tpl l v st.r fun r=>K .next ⟨r,st.s⟩
 | .asgA _ o j e,st,K=>wE C e st fun x st=>wE C o st fun o st=>match o with
  | .inst _ i=>gs st.s i fun y=>(match y with | .att ks vs=>lt j 28 (bd ks.length (K .next ⟨st.r,st.s.set i (.att (pk ks j) (pv ks vs j x))⟩)) | _=>False)
  | _=>False
 | .asgI _ p i e,st,K=>wE C e st fun x st=>wP C p st fun p st=>wE C i st fun k st=>plG p st fun y=>storeW y k x fun z=>K .next (plP p z st)
 | .asgK _ p j e,st,K=>wE C e st fun x st=>wP C p st fun p st=>plG p st fun y=>match y with | .sd ks vs=>lt j 2 (bd ks.length (K .next (plP p (.sd (pk ks j) (pv ks vs j x)) st))) | _=>False
 | .asgS _ p lo hi e,st,K=>wE C e st fun x st=>wP C p st fun p st=>wE C lo st fun a st=>wE C hi st fun b st=>plG p st fun y=>sstoreW y a b x fun z=>K .next (plP p z st)
 | .aug _ i e,st,K=>(match nth st.r i with
  | some (.v x)=>wE C e st fun y st=>augW x y fun z=>K .next ⟨st1 st.r i (.v z),st.s⟩
  | _=>False)
 | .ite _ t a b,st,K=>wT C t st fun c st=>br c (wB a st K) (wB b st K)
 | .for_ _ g it b,st,K=>wE C it st fun x st=>itsW st.s x fun l=>forW (fun y st k=>wG g y st.r fun r=>wB b ⟨r,st.s⟩ k) l st K
 | .fore _ _ _ g it b,st,K=>wE C it st fun x st=>(match x with
  | .lst l=>forW (fun y st k=>wG g y st.r fun r=>wB b ⟨r,st.s⟩ k) (enm 0 l) st K
  | _=>False)
 | .whl _ t b,st,K=>∃ n,whlW (fun st k=>wT C t st k) (fun st k=>wB b st k) n st K
 | .ret _ e,st,K=>wE C e st fun x st=>K (.ret x) st
 | .ret0 _,st,K=>K (.ret .none) st
 | .brk _,st,K=>K .brk st
 | .stuck _,_,_=>False
noncomputable def wB:CB→St→(Fl→St→Prop)→Prop
 | .nil,st,K=>K .next st
 | .cons s b,st,K=>wS s st fun fl st=>match fl with
  | .next=>wB b st K
  | fl=>K fl st
end
end
end
section
section
variable {prog:Program} {w:World} {A:Around} {E:Value→Shared→Prop} {s:Shared}
def IsPair (prog:Program) (w:World) (h:Heap) (k:Int × List Int) (a:Addr):Prop :=
 ∃ o n t q,h.get? a=some o∧o.cls=.type "tuple" ∧ o.data=.seq #[.int k.1 t,.ref q] n∧IsTupleKey (intKind prog w) h k.2 q
noncomputable def pairHash (prog:Program) (w:World) (k:Int × List Int):Int:=reduceHash (Builtin.Tuple.tupleHashOf #[(intKind prog w).hash k.1,tupleKeyHash (intKind prog w) k.2].toList)
theorem IsPair.typeIs {k:Int × List Int} {a:Addr} (x:IsPair prog w s.heap k a):s.TypeIs (.ref a) "tuple" := by obtain ⟨o,_,_,_,ho,hc,_⟩:=x;exact ⟨o,ho,hc⟩
theorem IsPair.inj {h:Heap} {a:Addr} {x y:Int × List Int} (hx:IsPair prog w h x a) (hy:IsPair prog w h y a):x=y:=by
 obtain ⟨o,n,t,q,ho,_,hd,hk⟩:=hx
 obtain ⟨o',n',t',q',ho',_,hd',hk'⟩:=hy
 obtain rfl:o=o':=Option.some.inj (ho.symm.trans ho')
 rw [hd] at hd'
 injection hd' with h1 _
 have h2:=congrArg Array.toList h1
 simp only [List.cons.injEq,Value.int.injEq,Value.ref.injEq,and_true] at h2
 obtain ⟨⟨e1,_⟩,e2⟩:=h2
 subst e2
 obtain ⟨a,b⟩:=x
 obtain ⟨c,d⟩:=y
 rw [show a=c from e1,show b=d from hk.inj hk']
theorem IsPair.keeps {h h':Heap} {k:Int × List Int} {a d:Addr} {o:Obj} {es ep} (x:IsPair prog w h k a) (ho:h.get? d=some o) (hd:o.data=.dict es ep) (hs:Heap.SameBut d h h'):IsPair prog w h' k a:=by
 obtain ⟨o',n,t,q,ho',hc,hd',hk⟩:=x
 have hne:a ≠ d:=by
  rintro rfl
  obtain rfl:o'=o:=Option.some.inj (ho'.symm.trans ho)
  rw [hd] at hd';exact nomatch hd'
 exact ⟨o',n,t,q,(hs.2 a hne).trans ho',hc,hd',hk.keeps ho hd hs⟩
theorem pair_hash {k:Int × List Int} {a:Addr} {Q:Int→Shared→Prop} (hu:A.units+8 < cLine) (hk:IsPair prog w s.heap k a) (h:Q (pairHash prog w k) { s with toks:=s.toks+(k.2.length+3) }) :
  wpAny (model prog w) A (pyHash (.ref a)) Q E s:=by
 have hT:=hk.typeIs
 obtain ⟨o,n,t,q,ho,_,hd,hi⟩:=hk
 unfold pyHash
 first | unfold pyHashByItsType | skip
 first | refine wb_ (wpAny_cRoomFor_or (.inr (L.q0 hu)) ?_) | skip
 refine wb_ (wpAny_specialOf hT F.slot_tuple_hash.lookup ?_)
 show wpAny _ _ (if (some (Value.builtin "tuple.__hash__") == some Value.none)=true then _ else _) Q E s
 rw [if_neg (by rw [beq_builtin_none];exact Bool.false_ne_true)]
 refine wb_ (wpAny_specialOf hT F.slot_tuple_hash.lookup ?_)
 show wpAny _ _ (callSpecialIfBoundUnlessNone? (.ref a) "__hash__" _ >>= _) Q E s
 refine wb_ (wpAny_callSpecialIfBoundUnlessNone?_slot hT F.slot_tuple_hash (wpAny_call_entry F.slot_tuple_hash hT F.entry_tuple_hash ?_ (F.args_tuple_hash_1 _)))
 show wpAny _ _ (Builtin.Tuple.tupleItemsOf (.ref a) >>= _) _ _ s
 refine wb_ (wpAny_tupleItemsOf ho hd ?_)
 refine wb_ ?_
 rw [← Array.forIn_toList,List.forIn_cons]
 refine wb_ (wb_ ((intKind prog w).pyHash (k:=k.1) (intKind_is prog w k.1 t) ?_))
 refine wq_ ?_
 dsimp only
 rw [List.forIn_cons]
 have hu1:A.in1.units < cLine:=by show A.units+1 < cLine;exact L.q1 hu
 refine wb_ (wb_ (wpAny_pyHash_tuple (s:={ s with toks:=s.toks+1 }) hu1 hi ?_))
 refine wq_ ?_
 dsimp only
 rw [List.forIn_nil]
 refine wq_ ?_
 show wpAny _ _ (retInt (Builtin.Tuple.tupleHashOf #[(intKind prog w).hash k.1,tupleKeyHash (intKind prog w) k.2].toList)) _ _ _
 refine wpAny_ret_mkInt ?_
 show wpAny _ _ (if (decide (-(2:Int) ^ 63≤Builtin.Tuple.tupleHashOf #[(intKind prog w).hash k.1,tupleKeyHash (intKind prog w) k.2].toList) && decide (Builtin.Tuple.tupleHashOf #[(intKind prog w).hash k.1,tupleKeyHash (intKind prog w) k.2].toList < 2 ^ 63))=true then _ else _) Q E _
 unfold pairHash reduceHash at h
 have et:s.toks+1+(k.2.length+1)+1=s.toks+(k.2.length+3):=L.q2
 by_cases hr:(decide (-(2:Int) ^ 63≤Builtin.Tuple.tupleHashOf #[(intKind prog w).hash k.1,tupleKeyHash (intKind prog w) k.2].toList) && decide (Builtin.Tuple.tupleHashOf #[(intKind prog w).hash k.1,tupleKeyHash (intKind prog w) k.2].toList < 2 ^ 63))=true
 ·rw [if_pos hr]
  rw [if_pos hr,← et] at h
  exact wq_ h
 ·rw [if_neg hr]
  rw [if_neg hr,← et] at h
  exact wb_ (wpAny_rule (wq_ h))
theorem pair_eq_tree {x y:Int × List Int} {a b:Addr} {P:Fin→Shared→Prop} (hu:A.units+8 < cLine) (hx:IsPair prog w s.heap x a) (hy:IsPair prog w s.heap y b) (h:P (.done (.ret (.bool (decide (x=y))))) s) :
  wpAny (model prog w) A (Builtin.«tuple.__eq__» ⟨[.ref a,.ref b],[]⟩) P E s:=by
 have hTb:=hy.typeIs
 obtain ⟨oa,na,ta,qa,hoa,_,hda,hia⟩:=hx
 obtain ⟨ob,nb,tb,qb,hob,_,hdb,hib⟩:=hy
 show wpAny _ _ (isInstance (.ref b) (.type "tuple") >>= _) _ _ s
 refine wb_ (wpAny_isInstance hTb isSubtype_tuple_tuple ?_)
 refine PySem.bm_if_false rfl ?_
 refine wb_ (wpAny_tupleItemsOf hoa hda ?_)
 refine wb_ (wpAny_tupleItemsOf hob hdb ?_)
 refine wb_ ?_
 show wpAny _ _ (forIn [(Value.int x.1 ta,Value.int y.1 tb),(Value.ref qa,Value.ref qb)] _ _) _ _ _
 rw [List.forIn_cons]
 have hu1:A.units < cLine:=L.q0 hu
 refine wb_ (wb_ ((intKind prog w).eqBool (a:=x.1) (b:=y.1) (intKind_is prog w _ _) (intKind_is prog w _ _) ?_))
 by_cases h1:x.1=y.1
 ·rw [decide_eq_true h1]
  refine bm_if_false rfl (wq_ ?_)
  dsimp only
  rw [List.forIn_cons]
  refine wb_ (wb_ (wpAny_eqBool_tuple hu1 hia hib ?_))
  by_cases h2:x.2=y.2
  ·rw [decide_eq_true h2]
   refine bm_if_false rfl (wq_ ?_)
   dsimp only
   rw [List.forIn_nil]
   refine wq_ ?_
   have e:x=y:=Prod.ext h1 h2
   rw [decide_eq_true e] at h
   exact wq_ h
  ·rw [decide_eq_false h2]
   have e:¬ x=y:=fun e=>h2 (e ▸ rfl)
   rw [decide_eq_false e] at h
   exact bm_if_true rfl (wb_ (wq_ (wq_ (wq_ (wq_ h)))))
 ·rw [decide_eq_false h1]
  have e:¬ x=y:=fun e=>h1 (e ▸ rfl)
  rw [decide_eq_false e] at h
  exact bm_if_true rfl (wb_ (wq_ (wq_ (wq_ (wq_ h)))))
theorem pair_eq {x y:Int × List Int} {a b:Addr} {Q:Bool→Shared→Prop} (hu:A.units+16 < cLine) (hx:IsPair prog w s.heap x a) (hy:IsPair prog w s.heap y b) (h:Q (decide (x=y)) s) :
  wpAny (model prog w) A (eqBool (.ref a) (.ref b)) Q E s:=by
 unfold eqBool
 try with_reducible refine wpAny_holding ?_
 show wpAny _ _ (if (Value.ref a == Value.ref b)=true then _ else _) Q E s
 by_cases hab:(Value.ref a == Value.ref b)=true
 ·rw [if_pos hab]
  have e:a=b:=by have:=eq_of_beq hab;injection this
  subst e
  obtain rfl:=hx.inj hy
  exact wb_ (wpAny_rule (wq_ (by simpa using h)))
 ·rw [if_neg hab]
  exact wb_ (wpAny_richCompare_same_room (op:=.Eq) hx.typeIs hy.typeIs F.slot_tuple_eq
   (wpAny_call_entry F.slot_tuple_eq hx.typeIs F.entry_tuple_eq (pair_eq_tree (by show A.units+1+8 < _;exact L.q3 hu) hx hy ⟨_,rfl,(fun e=>nomatch e),wpAny_truthy_bool h⟩) (F.args_tuple_eq_2 _ _)) (L.q4 hu))
theorem quiet_tuple {n:Nat} {ks:List Int} {a:Addr} {Q:Bool→Shared→Prop} (hk:IsTupleKey (intKind prog w) s.heap ks a) (h:Q true s):wpAny (model prog w) A (eqIsQuiet (n+1) (.ref a)) Q E s:=by
 have hT:=hk.typeIs
 obtain ⟨o,items,n,ho,_,hd,hi⟩:=hk
 unfold eqIsQuiet
 refine wb_ (wpAny_specialOf hT F.slot_tuple_eq.lookup ?_)
 show wpAny _ _ (isInstance (.ref a) (.type "tuple") >>= _) _ _ s
 refine wb_ (wpAny_isInstance hT isSubtype_tuple_tuple ?_)
 refine PySem.bm_if_false rfl ?_
 refine wb_ (wpAny_seqItems ho hd ?_)
 refine wb_ ?_
 show wpAny _ _ (forIn items _ _) _ _ s
 rw [← Array.forIn_toList]
 refine wpAny_forIn_list _ (fun rest r s'=>r.1=none∧s'=s∧∀ v ∈ rest,carriedByValue v=true) _ ?_ ?_ _ _ ⟨rfl,rfl,hi.byValue⟩
 ·rintro v rest r s' ⟨hr,rfl,hall⟩
  rw [eqIsQuiet_byValue _ (hall v List.mem_cons_self)]
  refine wb_ (wq_ ?_)
  refine PySem.bm_if_false rfl ?_
  exact wq_ ⟨rfl,rfl,fun u hu'=>hall u (List.mem_cons_of_mem _ hu')⟩
 ·rintro ⟨r1,r2⟩ s' ⟨hr,rfl,_⟩
  simp only at hr
  subst hr
  exact wq_ h
theorem pair_quiet {k:Int × List Int} {a:Addr} {Q:Bool→Shared→Prop} (hk:IsPair prog w s.heap k a) (h:Q true s):wpAny (model prog w) A (eqIsQuiet 8 (.ref a)) Q E s:=by
 have hT:=hk.typeIs
 obtain ⟨o,n,t,q,ho,_,hd,hi⟩:=hk
 unfold eqIsQuiet
 refine wb_ (wpAny_specialOf hT F.slot_tuple_eq.lookup ?_)
 show wpAny _ _ (isInstance (.ref a) (.type "tuple") >>= _) _ _ s
 refine wb_ (wpAny_isInstance hT isSubtype_tuple_tuple ?_)
 refine PySem.bm_if_false rfl ?_
 refine wb_ (wpAny_seqItems ho hd ?_)
 refine wb_ ?_
 show wpAny _ _ (forIn #[Value.int k.1 t,Value.ref q] _ _) _ _ s
 rw [← Array.forIn_toList,List.forIn_cons,eqIsQuiet_byValue _ rfl]
 refine wb_ (wb_ (wq_ (bm_if_false rfl (wq_ ?_))))
 dsimp only
 rw [List.forIn_cons]
 refine wb_ (wb_ (quiet_tuple hi (bm_if_false rfl (wq_ ?_))))
 dsimp only
 rw [List.forIn_nil]
 exact wq_ (wq_ h)
end
noncomputable def pairKind (prog:Program) (w:World):HeapKind prog w (Int × List Int) where
 is:=IsPair prog w
 hash:=pairHash prog w
 draws:=fun k=>k.2.length+3
 room:=fun A=>A.units+16 < cLine
 inj:=fun hx hy=>hx.inj hy
 keeps:=fun x ho hd hs=>x.keeps ho hd hs
 pyHash:=fun hu hk h=>pair_hash (L.q5 hu) hk h
 eqBool:=fun hu hx hy h=>pair_eq hu hx hy h
 quiet:=fun hk h=>pair_quiet hk h
end
section
open PySem
noncomputable def c4:CB:=(.cons (.asg 0 1 (.lit 2 (.int 0))) (.cons (.for_ 3 (.nm 4 2) (.loc 5 0) (.cons (.asg 6 1 (.bin 8 .BitOr (.bin 9 .LShift (.loc 10 1) (.lit 11 (.int 8))) (.loc 12 2))) .nil)) (.cons (.ret 13 (.loc 14 1)) .nil)))
noncomputable def c5:CB:=(.cons (.ite 0 (.bl 1 .Or (.cons (.cmp 2 .Lt (.loc 3 0) (.lit 4 (.int 0))) (.cons (.cmp 5 .NotEq (.bin 6 .RShift (.loc 7 0) (.bin 8 .Mult (.lit 9 (.int 8)) (.loc 10 1))) (.lit 11 (.int 0))) .nil))) (.cons (.stuck 0) .nil) .nil) (.cons (.ret 12 (.b1 13 3 3 (.fz (.comp 15 (.bin 20 .BitAnd (.bin 21 .RShift (.loc 22 2) (.bin 23 .Mult (.lit 24 (.int 8)) (.bin 25 .Sub (.bin 26 .Sub (.loc 27 3) (.lit 28 (.int 1))) (.loc 29 1)))) (.lit 30 (.int 255))) 1 (.b1 17 4 2 (.loc 19 1)) .no true [0,0,1,2] 0)))) .nil))
noncomputable def c6:CB:=(.cons (.whl 0 (.cmp 1 .NotEq (.bin 2 .RShift (.loc 3 0) (.lit 4 (.int 16))) (.lit 5 (.int 0))) (.cons (.asg 6 0 (.bin 8 .Add (.bin 9 .BitAnd (.loc 10 0) (.lit 11 (.int 65535))) (.bin 12 .RShift (.loc 13 0) (.lit 14 (.int 16))))) .nil)) (.cons (.ret 15 (.loc 16 0)) .nil))
noncomputable def c7:CB:=(.cons (.ite 0 (.bl 1 .Or (.cons (.cmp 2 .NotEq (.b1 3 5 0 (.loc 5 1)) (.b1 6 5 0 (.loc 8 2))) (.cons (.cmp 9 .Eq (.bin 10 .Mod (.b1 11 5 0 (.loc 13 1)) (.lit 14 (.int 2))) (.lit 15 (.int 1))) .nil))) (.cons (.stuck 0) .nil) .nil) (.cons (.asg 16 3 (.bin 18 .Sub (.lit 19 (.int 65535)) (.loc 20 0))) (.cons (.for_ 21 (.nm 22 4) (.rng3 23 7 (.lit 25 (.int 0)) (.b1 26 5 0 (.loc 28 1)) (.lit 29 (.int 2))) (.cons (.asg 30 3 (.bin 32 .Sub (.bin 33 .Add (.loc 34 3) (.lit 35 (.int 65535))) (.bin 36 .BitOr (.bin 37 .LShift (.item 38 (.loc 40 1) (.loc 39 4)) (.lit 41 (.int 8))) (.item 42 (.loc 46 1) (.bin 43 .Add (.loc 44 4) (.lit 45 (.int 1))))))) (.cons (.asg 47 3 (.bin 49 .Add (.loc 50 3) (.bin 51 .BitOr (.bin 52 .LShift (.item 53 (.loc 55 2) (.loc 54 4)) (.lit 56 (.int 8))) (.item 57 (.loc 61 2) (.bin 58 .Add (.loc 59 4) (.lit 60 (.int 1))))))) .nil))) (.cons (.ret 62 (.bin 63 .Sub (.lit 64 (.int 65535)) (.call 65 8 6 (.cons (.loc 67 3) .nil)))) .nil))))
noncomputable def c9:CB:=(.cons (.ite 0 (.bl 1 .Or (.cons (.cmp 2 .Lt (.b1 3 3 0 (.loc 5 0)) (.lit 6 (.int 20))) (.cons (.cmp 7 .NotEq (.bin 8 .RShift (.tix 9 (.loc 11 0) 0) (.lit 12 (.int 4))) (.lit 13 (.int 4))) .nil))) (.cons (.ret 14 (.lit 15 .none)) .nil) .nil) (.cons (.asg 16 1 (.bin 18 .Mult (.bin 19 .BitAnd (.tix 20 (.loc 22 0) 0) (.lit 23 (.int 15))) (.lit 24 (.int 4)))) (.cons (.ite 25 (.bl 26 .Or (.cons (.cmp 27 .Lt (.loc 28 1) (.lit 29 (.int 20))) (.cons (.cmp 30 .Gt (.loc 31 1) (.b1 32 3 0 (.loc 34 0))) .nil))) (.cons (.ret 35 (.lit 36 .none)) .nil) .nil) (.cons (.asg 37 2 (.call 39 4 4 (.cons (.slice 41 (.loc 45 0) (.so (.lit 43 (.int 6))) (.so (.lit 44 (.int 8)))) .nil))) (.cons (.ret 46 (.tup 47 (.cons (.tix 48 (.loc 50 0) 9) (.cons (.loc 51 1) (.cons (.bin 52 .Mult (.bin 53 .BitAnd (.loc 54 2) (.lit 55 (.int 8191))) (.lit 56 (.int 8))) (.cons (.cmp 57 .NotEq (.bin 58 .BitAnd (.loc 59 2) (.lit 60 (.int 8192))) (.lit 61 (.int 0))) .nil)))))) .nil)))))
noncomputable def c11:CB:=(.cons (.ite 0 (.cmp 1 .In (.loc 2 0) (.tup 3 (.cons (.lit 4 (.int 0)) (.cons (.lit 5 (.int 43)) (.cons (.lit 6 (.int 60)) .nil))))) (.cons (.ret 7 (.bin 8 .Mult (.bin 9 .Add (.loc 10 1) (.lit 11 (.int 1))) (.lit 12 (.int 8)))) .nil) .nil) (.cons (.ite 13 (.cmp 14 .Eq (.loc 15 0) (.lit 16 (.int 51))) (.cons (.ret 17 (.bin 18 .Mult (.bin 19 .Add (.loc 20 1) (.lit 21 (.int 2))) (.lit 22 (.int 4)))) .nil) .nil) (.cons (.ite 23 (.cmp 24 .Eq (.loc 25 0) (.lit 26 (.int 44))) (.cons (.ret 27 (.lit 28 (.int 8))) .nil) .nil) (.cons (.ret 29 (.lit 30 (.int 0))) .nil))))
noncomputable def c12:CB:=(.cons (.ite 0 (.cmp 1 .Eq (.call 2 5 11 (.cons (.loc 4 2) (.cons (.lit 5 (.int 0)) .nil))) (.lit 6 (.int 0))) (.cons (.ret 7 (.lit 8 (.int 0))) .nil) .nil) (.cons (.ite 9 (.cmp 10 .Gt (.bin 11 .Add (.loc 12 1) (.lit 13 (.int 2))) (.loc 14 3)) (.cons (.ret 15 (.neg 16 (.lit 17 (.int 1)))) .nil) .nil) (.cons (.asg 18 4 (.call 20 5 11 (.cons (.loc 22 2) (.cons (.item 23 (.loc 27 0) (.bin 24 .Add (.loc 25 1) (.lit 26 (.int 1)))) .nil)))) (.cons (.ite 28 (.cmp 29 .Gt (.bin 30 .Add (.loc 31 1) (.loc 32 4)) (.loc 33 3)) (.cons (.ret 34 (.neg 35 (.lit 36 (.int 1)))) .nil) .nil) (.cons (.ret 37 (.loc 38 4)) .nil)))))
noncomputable def c13:CB:=(.cons (.ret 0 (.bin 1 .BitAnd (.call 2 2 4 (.cons (.slice 4 (.loc 12 0) (.so (.bin 6 .Add (.loc 7 1) (.lit 8 (.int 2)))) (.so (.bin 9 .Add (.loc 10 1) (.lit 11 (.int 4))))) .nil)) (.lit 13 (.int 65528)))) .nil)
noncomputable def c14:CB:=(.cons (.ite 0 (.bl 1 .Or (.cons (.cmp 2 .Lt (.b1 3 6 0 (.loc 5 0)) (.lit 6 (.int 40))) (.cons (.cmp 7 .NotEq (.bin 8 .RShift (.tix 9 (.loc 11 0) 0) (.lit 12 (.int 4))) (.lit 13 (.int 6))) .nil))) (.cons (.ret 14 (.lit 15 .none)) .nil) .nil) (.cons (.asg 16 1 (.tix 18 (.loc 20 0) 6)) (.cons (.asg 21 2 (.lit 23 (.int 40))) (.cons (.asg 24 3 (.lit 26 (.int 0))) (.cons (.asg 27 4 (.lit 29 (.bool false))) (.cons (.whl 30 (.cmp 31 .Eq (.loc 32 3) (.lit 33 (.int 0))) (.cons (.asg 34 5 (.call 36 7 12 (.cons (.loc 38 0) (.cons (.loc 39 2) (.cons (.loc 40 1) (.cons (.b1 41 6 0 (.loc 43 0)) .nil)))))) (.cons (.ite 44 (.bl 45 .Or (.cons (.cmp 46 .Lt (.loc 47 5) (.lit 48 (.int 0))) (.cons (.bl 49 .And (.cons (.cmp 50 .Eq (.loc 51 1) (.lit 52 (.int 0))) (.cons (.cmp 53 .Gt (.loc 54 2) (.lit 55 (.int 40))) .nil))) .nil))) (.cons (.ret 56 (.lit 57 .none)) .nil) .nil) (.cons (.ite 58 (.cmp 59 .Eq (.loc 60 5) (.lit 61 (.int 0))) (.cons (.brk 62) .nil) .nil) (.cons (.ite 63 (.cmp 64 .Eq (.loc 65 1) (.lit 66 (.int 44))) (.cons (.asg 67 3 (.call 69 8 13 (.cons (.loc 71 0) (.cons (.loc 72 2) .nil)))) (.cons (.asg 73 4 (.cmp 75 .Eq (.bin 76 .BitAnd (.item 77 (.loc 81 0) (.bin 78 .Add (.loc 79 2) (.lit 80 (.int 3)))) (.lit 82 (.int 1))) (.lit 83 (.int 1)))) .nil)) .nil) (.cons (.asg 84 1 (.item 86 (.loc 88 0) (.loc 87 2))) (.cons (.aug 89 2 (.loc 91 5)) .nil))))))) (.cons (.ret 92 (.tup 93 (.cons (.loc 94 1) (.cons (.loc 95 2) (.cons (.loc 96 3) (.cons (.loc 97 4) .nil)))))) .nil)))))))
noncomputable def c16:CB:=(.cons (.asgO 0 0 (.dict0 2)) (.cons (.for_ 3 (.nm 4 1) (.tup 5 (.cons (.lit 6 (.str "mark")) (.cons (.lit 7 (.str "priority")) (.cons (.lit 8 (.str "iif")) (.cons (.lit 9 (.str "oif")) (.cons (.lit 10 (.str "iifname")) (.cons (.lit 11 (.str "oifname")) (.cons (.lit 12 (.str "pkttype")) .nil)))))))) (.cons (.asgI 13 (.own 16 0) (.loc 15 1) (.lit 17 (.int 0))) .nil)) (.cons (.asgI 18 (.own 21 0) (.lit 20 (.str "iiftype")) (.lit 22 (.int 1))) (.cons (.asgI 23 (.own 26 0) (.lit 25 (.str "oiftype")) (.lit 27 (.int 1))) (.cons (.ret 28 (.loc 29 0)) .nil)))))
noncomputable def c17:CB:=(.cons (.asgA 0 (.loc 2 0) 0 (.th (.b1 3 4 0 (.loc 5 1)))) (.cons (.asgA 6 (.loc 8 0) 1 (.th (.b1 9 4 0 (.loc 11 3)))) (.cons (.asgA 12 (.loc 14 0) 2 (.loc 15 2)) (.cons (.asgA 16 (.loc 18 0) 3 (.neg 19 (.lit 20 (.int 1)))) (.cons (.asgA 21 (.loc 23 0) 4 (.neg 24 (.lit 25 (.int 1)))) (.cons (.asgA 26 (.loc 28 0) 5 (.lit 29 (.int 0))) (.cons (.asgA 30 (.loc 32 0) 6 (.call 33 5 16 .nil)) .nil)))))))
noncomputable def c18:CB:=(.cons (.asgA 0 (.loc 2 0) 3 (.neg 3 (.lit 4 (.int 1)))) (.cons (.asgA 5 (.loc 7 0) 4 (.neg 8 (.lit 9 (.int 1)))) (.cons (.asgA 10 (.loc 12 0) 5 (.lit 13 (.int 0))) (.cons (.asg 14 1 (.lit 16 .none)) (.cons (.ite 17 (.cmp 18 .Eq (.attr 19 (.loc 20 0) 2) (.lit 21 (.int 2048))) (.cons (.asg 22 1 (.call 24 2 9 (.cons (.attr 26 (.loc 27 0) 0) .nil))) .nil) (.cons (.ite 28 (.cmp 29 .Eq (.attr 30 (.loc 31 0) 2) (.lit 32 (.int 34525))) (.cons (.asg 33 1 (.call 35 3 14 (.cons (.attr 37 (.loc 38 0) 0) .nil))) .nil) .nil) .nil)) (.cons (.ite 39 (.cmp 40 .Is (.loc 41 1) (.lit 42 .none)) (.cons (.ret0 43) .nil) .nil) (.cons (.asgA 44 (.loc 46 0) 3 (.tix 47 (.loc 49 1) 0)) (.cons (.asgA 50 (.loc 52 0) 5 (.tix 53 (.loc 55 1) 2)) (.cons (.ite 56 (.bl 57 .And (.cons (.cmp 58 .Eq (.tix 59 (.loc 61 1) 2) (.lit 62 (.int 0))) (.cons (.cmp 63 .LtE (.tix 64 (.loc 66 1) 1) (.b1 67 4 0 (.attr 69 (.loc 70 0) 0))) .nil))) (.cons (.asgA 71 (.loc 73 0) 4 (.tix 74 (.loc 76 1) 1)) .nil) .nil) .nil)))))))))
noncomputable def c19:CB:=(.cons (.asg 0 3 (.new 2 4 17 (.cons (.loc 4 0) (.cons (.loc 5 1) (.cons (.loc 6 2) .nil))))) (.cons (.ex 7 (.call 8 5 18 (.cons (.loc 10 3) .nil))) (.cons (.ret 11 (.loc 12 3)) .nil)))
noncomputable def c20:CB:=(.cons (.ite 0 (.cmp 1 .Eq (.attr 2 (.loc 3 0) 2) (.lit 4 (.int 2048))) (.cons (.ret 5 (.lit 6 (.int 2))) .nil) .nil) (.cons (.ite 7 (.cmp 8 .Eq (.attr 9 (.loc 10 0) 2) (.lit 11 (.int 34525))) (.cons (.ret 12 (.lit 13 (.int 10))) .nil) .nil) (.cons (.ite 14 (.cmp 15 .Eq (.attr 16 (.loc 17 0) 2) (.lit 18 (.int 2054))) (.cons (.ret 19 (.lit 20 (.int 3))) .nil) .nil) (.cons (.ret 21 (.lit 22 (.int 0))) .nil))))
noncomputable def c21:CB:=(.cons (.ite 0 (.cmp 1 .Eq (.loc 2 1) (.lit 3 (.str "network"))) (.cons (.ret 4 (.tup 5 (.cons (.attr 6 (.loc 7 0) 0) (.cons (.lit 8 (.int 0)) .nil)))) .nil) .nil) (.cons (.ite 9 (.cmp 10 .Eq (.loc 11 1) (.lit 12 (.str "transport"))) (.cons (.ite 13 (.cmp 14 .Lt (.attr 15 (.loc 16 0) 4) (.lit 17 (.int 0))) (.cons (.ret 18 (.lit 19 .none)) .nil) .nil) (.cons (.ret 20 (.tup 21 (.cons (.attr 22 (.loc 23 0) 0) (.cons (.attr 24 (.loc 25 0) 4) .nil)))) .nil)) .nil) (.cons (.ite 26 (.cmp 27 .NotEq (.loc 28 1) (.lit 29 (.str "link"))) (.cons (.stuck 0) .nil) .nil) (.cons (.ite 30 (.cmp 31 .Eq (.b1 32 3 0 (.attr 34 (.loc 35 0) 1)) (.lit 36 (.int 0))) (.cons (.ret 37 (.lit 38 .none)) .nil) .nil) (.cons (.ret 39 (.tup 40 (.cons (.attr 41 (.loc 42 0) 1) (.cons (.lit 43 (.int 0)) .nil)))) .nil)))))
noncomputable def c22:CB:=(.cons (.asg 0 4 (.call 2 6 21 (.cons (.loc 4 0) (.cons (.loc 5 1) .nil)))) (.cons (.ite 6 (.bl 7 .Or (.cons (.cmp 8 .Is (.loc 9 4) (.lit 10 .none)) (.cons (.cmp 11 .Lt (.loc 12 2) (.lit 13 (.int 0))) .nil))) (.cons (.ret 14 (.lit 15 .none)) .nil) .nil) (.cons (.asg 16 5 (.bin 18 .Add (.tix 19 (.loc 21 4) 1) (.loc 22 2))) (.cons (.ite 23 (.cmp 24 .Gt (.bin 25 .Add (.loc 26 5) (.loc 27 3)) (.b1 28 7 0 (.tix 30 (.loc 32 4) 0))) (.cons (.ret 33 (.lit 34 .none)) .nil) .nil) (.cons (.ret 35 (.b1 36 8 3 (.slice 38 (.tix 44 (.loc 46 4) 0) (.so (.loc 40 5)) (.so (.bin 41 .Add (.loc 42 5) (.loc 43 3)))))) .nil)))))
noncomputable def c23:CB:=(.cons (.asg 0 4 (.call 2 6 21 (.cons (.loc 4 0) (.cons (.loc 5 1) .nil)))) (.cons (.ite 6 (.bl 7 .Or (.cons (.cmp 8 .Is (.loc 9 4) (.lit 10 .none)) (.cons (.cmp 11 .Lt (.loc 12 2) (.lit 13 (.int 0))) (.cons (.cmp 14 .Gt (.bin 15 .Add (.bin 16 .Add (.tix 17 (.loc 19 4) 1) (.loc 20 2)) (.b1 21 7 0 (.loc 23 3))) (.b1 24 7 0 (.tix 26 (.loc 28 4) 0))) .nil)))) (.cons (.stuck 0) .nil) .nil) (.cons (.asg 29 5 (.bin 31 .Add (.tix 32 (.loc 34 4) 1) (.loc 35 2))) (.cons (.asgS 36 (.ref (.tix 45 (.loc 47 4) 0)) (.loc 39 5) (.bin 40 .Add (.loc 41 5) (.b1 42 7 0 (.loc 44 3))) (.loc 48 3)) .nil))))
noncomputable def c24:CB:=(.cons (.ite 0 (.cmp 1 .Eq (.loc 2 0) (.lit 3 (.int 6))) (.cons (.ret 4 (.lit 5 (.int 16))) .nil) .nil) (.cons (.ite 6 (.cmp 7 .Eq (.loc 8 0) (.lit 9 (.int 17))) (.cons (.ret 10 (.lit 11 (.int 6))) .nil) .nil) (.cons (.ite 12 (.cmp 13 .In (.loc 14 0) (.tup 15 (.cons (.lit 16 (.int 1)) (.cons (.lit 17 (.int 58)) .nil)))) (.cons (.ret 18 (.lit 19 (.int 2))) .nil) .nil) (.cons (.ret 20 (.neg 21 (.lit 22 (.int 1)))) .nil))))
noncomputable def c25:CB:=(.cons (.asg 0 4 (.mnx 2 6 true (.loc 4 0) (.loc 5 2))) (.cons (.asg 6 5 (.mnx 8 7 false (.loc 10 1) (.loc 11 3))) (.cons (.ite 12 (.cmp 13 .GtE (.loc 14 4) (.loc 15 5)) (.cons (.ret 16 (.tup 17 (.cons (.lit 18 (.int 0)) (.cons (.lit 19 (.int 0)) .nil)))) .nil) .nil) (.cons (.ret 20 (.tup 21 (.cons (.bin 22 .Mult (.bin 23 .FloorDiv (.loc 24 4) (.lit 25 (.int 2))) (.lit 26 (.int 2))) (.cons (.bin 27 .Mult (.bin 28 .FloorDiv (.bin 29 .Add (.loc 30 5) (.lit 31 (.int 1))) (.lit 32 (.int 2))) (.lit 33 (.int 2))) .nil)))) .nil))))
noncomputable def c26:CB:=(.cons (.asgO 0 3 (.lst 2 .nil)) (.cons (.ite 3 (.bl 4 .And (.cons (.cmp 5 .Eq (.attr 6 (.loc 7 0) 2) (.lit 8 (.int 2048))) (.cons (.cmp 9 .GtE (.attr 10 (.loc 11 0) 3) (.lit 12 (.int 0))) .nil))) (.cons (.app 13 (.own 16 3) (.tup 17 (.cons (.lit 18 (.int 10)) (.cons (.fz (.lst 19 (.cons (.call 20 6 25 (.cons (.loc 22 1) (.cons (.loc 23 2) (.cons (.lit 24 (.int 0)) (.cons (.bin 25 .Mult (.bin 26 .BitAnd (.tix 27 (.attr 29 (.loc 30 0) 0) 0) (.lit 31 (.int 15))) (.lit 32 (.int 4))) .nil))))) .nil))) .nil)))) .nil) .nil) (.cons (.asg 33 4 (.call 35 7 24 (.cons (.attr 37 (.loc 38 0) 3) .nil))) (.cons (.ite 39 (.bl 40 .And (.cons (.cmp 41 .GtE (.attr 42 (.loc 43 0) 4) (.lit 44 (.int 0))) (.cons (.cmp 45 .GtE (.loc 46 4) (.lit 47 (.int 0))) .nil))) (.cons (.asgO 48 5 (.lst 50 (.cons (.call 51 6 25 (.cons (.loc 53 1) (.cons (.loc 54 2) (.cons (.attr 55 (.loc 56 0) 4) (.cons (.b1 57 8 0 (.attr 59 (.loc 60 0) 0)) .nil))))) .nil))) (.cons (.ite 61 (.bl 62 .And (.cons (.cmp 63 .NotEq (.attr 64 (.loc 65 0) 3) (.lit 66 (.int 1))) (.cons (.cmp 67 .Eq (.attr 68 (.loc 69 0) 2) (.lit 70 (.int 2048))) .nil))) (.cons (.app 71 (.own 74 5) (.call 75 6 25 (.cons (.loc 77 1) (.cons (.loc 78 2) (.cons (.lit 79 (.int 12)) (.cons (.lit 80 (.int 20)) .nil)))))) .nil) (.cons (.ite 81 (.cmp 82 .NotEq (.attr 83 (.loc 84 0) 3) (.lit 85 (.int 1))) (.cons (.app 86 (.own 89 5) (.call 90 6 25 (.cons (.loc 92 1) (.cons (.loc 93 2) (.cons (.lit 94 (.int 8)) (.cons (.lit 95 (.int 40)) .nil)))))) .nil) .nil) .nil)) (.cons (.app 96 (.own 99 3) (.tup 100 (.cons (.bin 101 .Add (.attr 102 (.loc 103 0) 4) (.loc 104 4)) (.cons (.loc 105 5) .nil)))) .nil))) .nil) (.cons (.ret 106 (.fz (.comp 107 (.loc 134 1) 1 (.loc 109 3) (.te (.bl 110 .And (.cons (.cmp 111 .LtE (.bin 112 .Add (.tix 113 (.loc 115 1) 0) (.lit 116 (.int 2))) (.b1 117 2 0 (.attr 119 (.loc 120 5) 0))) (.cons (.bl 121 .Or (.cons (.cmp 122 .LtE (.loc 123 4) (.tix 124 (.loc 126 1) 0)) (.cons (.cmp 127 .LtE (.bin 128 .Add (.tix 129 (.loc 131 1) 0) (.lit 132 (.int 2))) (.loc 133 3)) .nil))) .nil)))) false [0,0,0,2,3,1] 0))) .nil)))))
noncomputable def c27:CB:=(.cons (.asg 0 3 (.b1 2 4 3 (.slice 4 (.loc 8 0) (.so (.loc 6 1)) (.so (.loc 7 2))))) (.cons (.ite 9 (.cmp 10 .Lt (.b1 11 5 0 (.loc 13 3)) (.bin 14 .Sub (.loc 15 2) (.loc 16 1))) (.cons (.aug 17 3 (.lit 19 (.bytes [0]))) .nil) .nil) (.cons (.ret 20 (.loc 21 3)) .nil)))
noncomputable def c28:CB:=(.cons (.asg 0 5 (.call 2 8 4 (.cons (.slice 4 (.loc 10 1) (.so (.loc 6 2)) (.so (.bin 7 .Add (.loc 8 2) (.lit 9 (.int 2))))) .nil))) (.cons (.ite 11 (.bl 12 .And (.cons (.val (.loc 13 4)) (.cons (.cmp 14 .Eq (.loc 15 5) (.lit 16 (.int 0))) .nil))) (.cons (.ret0 17) .nil) .nil) (.cons (.for_ 18 (.tup 19 [(20,6),(21,7)]) (.loc 22 3) (.cons (.ite 23 (.cmp 24 .Lt (.loc 25 6) (.loc 26 7)) (.cons (.asg 27 5 (.call 29 9 7 (.cons (.loc 31 5) (.cons (.call 32 10 27 (.cons (.loc 34 1) (.cons (.loc 35 6) (.cons (.loc 36 7) .nil)))) (.cons (.call 37 10 27 (.cons (.attr 39 (.loc 40 0) 0) (.cons (.loc 41 6) (.cons (.loc 42 7) .nil)))) .nil))))) .nil) .nil) .nil)) (.cons (.ite 43 (.bl 44 .And (.cons (.val (.loc 45 4)) (.cons (.cmp 46 .Eq (.loc 47 5) (.lit 48 (.int 0))) .nil))) (.cons (.asg 49 5 (.lit 51 (.int 65535))) .nil) .nil) (.cons (.asgS 52 (.ref (.attr 59 (.loc 60 0) 0)) (.loc 55 2) (.bin 56 .Add (.loc 57 2) (.lit 58 (.int 2))) (.call 61 11 5 (.cons (.loc 63 5) (.cons (.lit 64 (.int 2)) .nil)))) .nil)))))
noncomputable def c29:CB:=(.cons (.ite 0 (.cmp 1 .Eq (.loc 2 1) (.lit 3 (.str "link"))) (.cons (.ex 4 (.call 5 9 23 (.cons (.loc 7 0) (.cons (.loc 8 1) (.cons (.loc 9 2) (.cons (.loc 10 3) .nil)))))) (.cons (.ret0 11) .nil)) .nil) (.cons (.asg 12 4 (.b1 14 10 3 (.attr 16 (.loc 17 0) 0))) (.cons (.asg 18 5 (.loc 20 2)) (.cons (.ite 21 (.cmp 22 .Eq (.loc 23 1) (.lit 24 (.str "transport"))) (.cons (.asg 25 5 (.bin 27 .Add (.attr 28 (.loc 29 0) 4) (.loc 30 2))) .nil) .nil) (.cons (.asg 31 6 (.call 33 11 26 (.cons (.loc 35 0) (.cons (.loc 36 5) (.cons (.bin 37 .Add (.loc 38 5) (.b1 39 12 0 (.loc 41 3))) .nil))))) (.cons (.ex 42 (.call 43 9 23 (.cons (.loc 45 0) (.cons (.loc 46 1) (.cons (.loc 47 2) (.cons (.loc 48 3) .nil)))))) (.cons (.for_ 49 (.tup 50 [(51,7),(52,8)]) (.loc 53 6) (.cons (.ex 54 (.call 55 13 28 (.cons (.loc 57 0) (.cons (.loc 58 4) (.cons (.loc 59 7) (.cons (.loc 60 8) (.cons (.bl 61 .And (.cons (.cmp 62 .Eq (.attr 63 (.loc 64 0) 3) (.lit 65 (.int 17))) (.cons (.cmp 66 .NotEq (.loc 67 7) (.lit 68 (.int 10))) .nil))) .nil))))))) .nil)) .nil)))))))
noncomputable def c30:CB:=(.cons (.asg 0 3 (.lit 2 .none)) (.cons (.ite 3 (.cmp 4 .Eq (.attr 5 (.loc 6 0) 2) (.lit 7 (.int 2048))) (.cons (.asg 8 3 (.call 10 4 22 (.cons (.loc 12 0) (.cons (.lit 13 (.str "network")) (.cons (.loc 14 1) (.cons (.lit 15 (.int 4)) .nil)))))) .nil) (.cons (.ite 16 (.cmp 17 .Eq (.attr 18 (.loc 19 0) 2) (.lit 20 (.int 34525))) (.cons (.asg 21 3 (.call 23 4 22 (.cons (.loc 25 0) (.cons (.lit 26 (.str "network")) (.cons (.loc 27 2) (.cons (.lit 28 (.int 16)) .nil)))))) .nil) .nil) .nil)) (.cons (.ite 29 (.cmp 30 .Is (.loc 31 3) (.lit 32 .none)) (.cons (.ret 33 (.lit 34 .none)) .nil) .nil) (.cons (.ret 35 (.call 36 5 4 (.cons (.loc 38 3) .nil))) .nil))))
noncomputable def c31:CB:=(.cons (.ret 0 (.call 1 1 30 (.cons (.loc 3 0) (.cons (.lit 4 (.int 16)) (.cons (.lit 5 (.int 24)) .nil))))) .nil)
noncomputable def c33:CB:=(.cons (.ret 0 (.ifx 1 (.cmp 2 .Eq (.loc 3 0) (.lit 4 (.int 2))) (.tup 5 (.cons (.lit 6 (.int 3)) (.cons (.lit 7 (.int 4)) (.cons (.lit 8 (.int 5)) (.cons (.lit 9 (.int 11)) (.cons (.lit 10 (.int 12)) .nil)))))) (.tup 11 (.cons (.lit 12 (.int 1)) (.cons (.lit 13 (.int 2)) (.cons (.lit 14 (.int 3)) (.cons (.lit 15 (.int 4)) .nil))))))) .nil)
noncomputable def c36:CB:=(.cons (.asgA 0 (.loc 2 0) 7 (.loc 3 1)) (.cons (.asgA 4 (.loc 6 0) 8 (.loc 7 2)) (.cons (.asgA 8 (.loc 10 0) 9 (.loc 11 3)) (.cons (.asgA 12 (.loc 14 0) 10 (.loc 15 4)) (.cons (.asgA 16 (.loc 18 0) 11 (.lit 19 (.int 0))) (.cons (.asgA 20 (.loc 22 0) 12 (.lit 23 (.int 0))) (.cons (.asgA 24 (.loc 26 0) 13 (.lit 27 (.int 0))) (.cons (.asgA 28 (.loc 30 0) 14 (.lit 31 (.int 0))) (.cons (.asgA 32 (.loc 34 0) 15 (.lit 35 (.int 0))) (.cons (.asgA 36 (.loc 38 0) 16 (.lit 39 .none)) (.cons (.asgA 40 (.loc 42 0) 17 (.lit 43 (.int 0))) .nil)))))))))))
noncomputable def c37:CB:=(.cons (.asgA 0 (.loc 2 0) 18 (.loc 3 1)) (.cons (.asgA 4 (.loc 6 0) 19 (.loc 7 2)) (.cons (.asgA 8 (.loc 10 0) 20 (.loc 11 3)) (.cons (.asgA 12 (.loc 14 0) 21 (.th (.dict0 15))) (.cons (.asgA 16 (.loc 18 0) 22 (.th (.dict0 19))) (.cons (.asgA 20 (.loc 22 0) 23 (.lit 23 (.int 0))) (.cons (.asgA 24 (.loc 26 0) 24 (.th (.dict0 27))) (.cons (.asgA 28 (.loc 30 0) 25 (.th (.lst 31 .nil))) (.cons (.asgA 32 (.loc 34 0) 26 (.th (.dict0 35))) (.cons (.asgA 36 (.loc 38 0) 27 (.lit 39 (.bool true))) .nil))))))))))
noncomputable def c38:CB:=(.cons (.ret 0 (.bl 1 .Or (.cons (.bl 2 .And (.cons (.cmp 3 .Eq (.loc 4 0) (.lit 5 (.int 2))) (.cons (.cmp 6 .Eq (.loc 7 1) (.lit 8 (.int 1))) .nil))) (.cons (.bl 9 .And (.cons (.cmp 10 .Eq (.loc 11 0) (.lit 12 (.int 10))) (.cons (.cmp 13 .Eq (.loc 14 1) (.lit 15 (.int 58))) .nil))) .nil)))) .nil)
noncomputable def c39:CB:=(.cons (.ret 0 (.cmp 1 .In (.loc 2 1) (.call 3 2 33 (.cons (.loc 5 0) .nil)))) .nil)
noncomputable def c40:CB:=(.cons (.asg 0 2 (.ifx 2 (.cmp 3 .Eq (.loc 4 0) (.lit 5 (.int 2))) (.tup 6 (.cons (.tup 7 (.cons (.lit 8 (.int 8)) (.cons (.lit 9 (.int 0)) .nil))) (.cons (.tup 10 (.cons (.lit 11 (.int 13)) (.cons (.lit 12 (.int 14)) .nil))) (.cons (.tup 13 (.cons (.lit 14 (.int 15)) (.cons (.lit 15 (.int 16)) .nil))) (.cons (.tup 16 (.cons (.lit 17 (.int 17)) (.cons (.lit 18 (.int 18)) .nil))) .nil))))) (.tup 19 (.cons (.tup 20 (.cons (.lit 21 (.int 128)) (.cons (.lit 22 (.int 129)) .nil))) .nil)))) (.cons (.for_ 23 (.tup 24 [(25,3),(26,4)]) (.loc 27 2) (.cons (.ite 28 (.cmp 29 .Eq (.loc 30 1) (.loc 31 3)) (.cons (.ret 32 (.loc 33 4)) .nil) .nil) (.cons (.ite 34 (.cmp 35 .Eq (.loc 36 1) (.loc 37 4)) (.cons (.ret 38 (.loc 39 3)) .nil) .nil) .nil))) (.cons (.ret 40 (.neg 41 (.lit 42 (.int 1)))) .nil)))
noncomputable def c41:CB:=(.cons (.ite 0 (.bl 1 .Or (.cons (.cmp 2 .Eq (.loc 3 2) (.lit 4 (.int 6))) (.cons (.cmp 5 .Eq (.loc 6 2) (.lit 7 (.int 17))) .nil))) (.cons (.ite 8 (.cmp 9 .Gt (.bin 10 .Add (.loc 11 3) (.lit 12 (.int 4))) (.b1 13 6 0 (.loc 15 0))) (.cons (.ret 16 (.lit 17 .none)) .nil) .nil) (.cons (.ret 18 (.tup 19 (.cons (.call 20 7 4 (.cons (.slice 22 (.loc 28 0) (.so (.loc 24 3)) (.so (.bin 25 .Add (.loc 26 3) (.lit 27 (.int 2))))) .nil)) (.cons (.call 29 7 4 (.cons (.slice 31 (.loc 39 0) (.so (.bin 33 .Add (.loc 34 3) (.lit 35 (.int 2)))) (.so (.bin 36 .Add (.loc 37 3) (.lit 38 (.int 4))))) .nil)) .nil)))) .nil)) .nil) (.cons (.ite 40 (.nt 41 (.val (.call 42 8 38 (.cons (.loc 44 1) (.cons (.loc 45 2) .nil))))) (.cons (.ret 46 (.tup 47 (.cons (.lit 48 (.int 0)) (.cons (.lit 49 (.int 0)) .nil)))) .nil) .nil) (.cons (.ite 50 (.cmp 51 .Gt (.bin 52 .Add (.loc 53 3) (.lit 54 (.int 8))) (.b1 55 6 0 (.loc 57 0))) (.cons (.ret 58 (.lit 59 .none)) .nil) .nil) (.cons (.asg 60 4 (.item 62 (.loc 64 0) (.loc 63 3))) (.cons (.asg 65 5 (.lit 67 (.int 0))) (.cons (.ite 68 (.cmp 69 .GtE (.call 70 9 40 (.cons (.loc 72 1) (.cons (.loc 73 4) .nil))) (.lit 74 (.int 0))) (.cons (.asg 75 5 (.call 77 7 4 (.cons (.slice 79 (.loc 87 0) (.so (.bin 81 .Add (.loc 82 3) (.lit 83 (.int 4)))) (.so (.bin 84 .Add (.loc 85 3) (.lit 86 (.int 6))))) .nil))) .nil) .nil) (.cons (.ret 88 (.tup 89 (.cons (.loc 90 5) (.cons (.bin 91 .Add (.bin 92 .Mult (.loc 93 4) (.lit 94 (.int 256))) (.item 95 (.loc 99 0) (.bin 96 .Add (.loc 97 3) (.lit 98 (.int 1))))) .nil)))) .nil)))))))
noncomputable def c42:CB:=(.cons (.asg 0 4 (.call 2 9 41 (.cons (.loc 4 0) (.cons (.loc 5 1) (.cons (.loc 6 2) (.cons (.loc 7 3) .nil)))))) (.cons (.ite 8 (.cmp 9 .Is (.loc 10 4) (.lit 11 .none)) (.cons (.ret 12 (.lit 13 .none)) .nil) .nil) (.cons (.asg 14 5 (.lit 16 (.int 12))) (.cons (.asg 17 6 (.lit 19 (.int 4))) (.cons (.ite 20 (.cmp 21 .Eq (.loc 22 1) (.lit 23 (.int 10))) (.cons (.asg 24 5 (.lit 26 (.int 8))) (.cons (.asg 27 6 (.lit 29 (.int 16))) .nil)) .nil) (.cons (.asg 30 7 (.call 32 10 4 (.cons (.slice 34 (.loc 40 0) (.so (.loc 36 5)) (.so (.bin 37 .Add (.loc 38 5) (.loc 39 6)))) .nil))) (.cons (.asg 41 8 (.call 43 10 4 (.cons (.slice 45 (.loc 55 0) (.so (.bin 47 .Add (.loc 48 5) (.loc 49 6))) (.so (.bin 50 .Add (.bin 51 .Add (.loc 52 5) (.loc 53 6)) (.loc 54 6)))) .nil))) (.cons (.ret 56 (.tup 57 (.cons (.loc 58 1) (.cons (.loc 59 2) (.cons (.loc 60 7) (.cons (.tix 61 (.loc 63 4) 0) (.cons (.loc 64 8) (.cons (.tix 65 (.loc 67 4) 1) .nil)))))))) .nil))))))))
noncomputable def c43:CB:=(.cons (.asg 0 1 (.call 2 2 20 (.cons (.loc 4 0) .nil))) (.cons (.ite 5 (.bl 6 .Or (.cons (.cmp 7 .NotIn (.loc 8 1) (.tup 9 (.cons (.lit 10 (.int 2)) (.cons (.lit 11 (.int 10)) .nil)))) (.cons (.cmp 12 .Lt (.attr 13 (.loc 14 0) 4) (.lit 15 (.int 0))) .nil))) (.cons (.ret 16 (.lit 17 .none)) .nil) .nil) (.cons (.ret 18 (.call 19 3 42 (.cons (.attr 21 (.loc 22 0) 0) (.cons (.loc 23 1) (.cons (.attr 24 (.loc 25 0) 3) (.cons (.attr 26 (.loc 27 0) 4) .nil)))))) .nil)))
noncomputable def c44:CB:=(.cons (.asg 0 2 (.ifx 2 (.cmp 3 .Eq (.loc 4 1) (.lit 5 (.int 2))) (.call 6 3 9 (.cons (.loc 8 0) .nil)) (.call 9 4 14 (.cons (.loc 11 0) .nil)))) (.cons (.ite 12 (.bl 13 .Or (.cons (.cmp 14 .Is (.loc 15 2) (.lit 16 .none)) (.cons (.cmp 17 .NotEq (.tix 18 (.loc 20 2) 2) (.lit 21 (.int 0))) .nil))) (.cons (.ret 22 (.lit 23 .none)) .nil) .nil) (.cons (.ret 24 (.call 25 5 42 (.cons (.loc 27 0) (.cons (.loc 28 1) (.cons (.tix 29 (.loc 31 2) 0) (.cons (.tix 32 (.loc 34 2) 1) .nil)))))) .nil)))
noncomputable def c45:CB:=(.cons (.asgT 0 [(2,1),(3,2),(4,3),(5,4),(6,5),(7,6)] (.loc 8 0)) (.cons (.ite 9 (.nt 10 (.val (.call 11 8 38 (.cons (.loc 13 1) (.cons (.loc 14 2) .nil))))) (.cons (.ret 15 (.tup 16 (.cons (.loc 17 1) (.cons (.loc 18 2) (.cons (.loc 19 5) (.cons (.loc 20 6) (.cons (.loc 21 3) (.cons (.loc 22 4) .nil)))))))) .nil) .nil) (.cons (.asg 23 7 (.call 25 9 40 (.cons (.loc 27 1) (.cons (.bin 28 .RShift (.loc 29 6) (.lit 30 (.int 8))) .nil)))) (.cons (.ite 31 (.cmp 32 .Lt (.loc 33 7) (.lit 34 (.int 0))) (.cons (.ret 35 (.lit 36 .none)) .nil) .nil) (.cons (.ret 37 (.tup 38 (.cons (.loc 39 1) (.cons (.loc 40 2) (.cons (.loc 41 5) (.cons (.loc 42 4) (.cons (.loc 43 3) (.cons (.bin 44 .Add (.bin 45 .Mult (.loc 46 7) (.lit 47 (.int 256))) (.bin 48 .BitAnd (.loc 49 6) (.lit 50 (.int 255)))) .nil)))))))) .nil)))))
noncomputable def c46:CB:=(.cons (.ret 0 (.ifx 1 (.val (.loc 2 1)) (.attr 3 (.loc 4 0) 9) (.attr 5 (.loc 6 0) 8))) .nil)
noncomputable def c48:CB:=(.cons (.asg 0 4 (.get 2 (.attr 4 (.loc 5 0) 21) (.tup 6 (.cons (.loc 7 1) (.cons (.loc 8 2) .nil))) .no)) (.cons (.ite 9 (.cmp 10 .Is (.loc 11 4) (.lit 12 .none)) (.cons (.ret 13 (.lit 14 .none)) .nil) .nil) (.cons (.asg 15 5 (.item 17 (.attr 21 (.loc 22 0) 22) (.tix 18 (.loc 20 4) 0))) (.cons (.ite 23 (.cmp 24 .LtE (.attr 25 (.loc 26 5) 11) (.loc 27 3)) (.cons (.ex 28 (.call 29 6 47 (.cons (.loc 31 0) (.cons (.loc 32 5) .nil)))) (.cons (.ret 33 (.lit 34 .none)) .nil)) .nil) (.cons (.ret 35 (.tup 36 (.cons (.loc 37 5) (.cons (.tix 38 (.loc 40 4) 1) .nil)))) .nil)))))
noncomputable def c50:CB:=(.cons (.asg 0 4 (.call 2 5 22 (.cons (.loc 4 0) (.cons (.loc 5 1) (.cons (.loc 6 2) (.cons (.b1 7 6 0 (.loc 9 3)) .nil)))))) (.cons (.ite 10 (.bl 11 .And (.cons (.cmp 12 .IsNot (.loc 13 4) (.lit 14 .none)) (.cons (.cmp 15 .NotEq (.loc 16 4) (.loc 17 3)) .nil))) (.cons (.ex 18 (.call 19 7 29 (.cons (.loc 21 0) (.cons (.loc 22 1) (.cons (.loc 23 2) (.cons (.loc 24 3) .nil)))))) .nil) .nil) .nil))
noncomputable def c51:CB:=(.cons (.ite 0 (.bl 1 .Or (.cons (.cmp 2 .Eq (.attr 3 (.loc 4 0) 3) (.lit 5 (.int 6))) (.cons (.cmp 6 .Eq (.attr 7 (.loc 8 0) 3) (.lit 9 (.int 17))) .nil))) (.cons (.ret 10 (.ifx 11 (.cmp 12 .Eq (.loc 13 1) (.lit 14 (.str "src"))) (.lit 15 (.int 0)) (.lit 16 (.int 2)))) .nil) .nil) (.cons (.asg 17 2 (.call 19 4 20 (.cons (.loc 21 0) .nil))) (.cons (.asg 22 3 (.call 24 5 22 (.cons (.loc 26 0) (.cons (.lit 27 (.str "transport")) (.cons (.lit 28 (.int 0)) (.cons (.lit 29 (.int 1)) .nil)))))) (.cons (.ite 30 (.bl 31 .And (.cons (.cmp 32 .IsNot (.loc 33 3) (.lit 34 .none)) (.cons (.val (.call 35 6 38 (.cons (.loc 37 2) (.cons (.attr 38 (.loc 39 0) 3) .nil)))) (.cons (.cmp 40 .GtE (.call 41 7 40 (.cons (.loc 43 2) (.cons (.tix 44 (.loc 46 3) 0) .nil))) (.lit 47 (.int 0))) .nil)))) (.cons (.ret 48 (.lit 49 (.int 4))) .nil) .nil) (.cons (.ret 50 (.neg 51 (.lit 52 (.int 1)))) .nil)))))
noncomputable def c52:CB:=(.cons (.asgT 0 [(2,3),(3,4),(4,5),(5,6),(6,7),(7,8)] (.loc 8 1)) (.cons (.ite 9 (.cmp 10 .NotEq (.call 11 14 20 (.cons (.loc 13 0) .nil)) (.loc 14 3)) (.cons (.ret0 15) .nil) .nil) (.cons (.asgT 16 [(18,9),(19,10)] (.ifx 20 (.cmp 21 .Eq (.loc 22 3) (.lit 23 (.int 2))) (.tup 24 (.cons (.lit 25 (.int 12)) (.cons (.lit 26 (.int 4)) .nil))) (.tup 27 (.cons (.lit 28 (.int 8)) (.cons (.lit 29 (.int 16)) .nil))))) (.cons (.asg 30 11 (.ifx 32 (.cmp 33 .Eq (.attr 34 (.loc 35 0) 3) (.loc 36 4)) (.call 37 15 51 (.cons (.loc 39 0) (.cons (.loc 40 2) .nil))) (.neg 41 (.lit 42 (.int 1))))) (.cons (.ite 43 (.cmp 44 .Eq (.loc 45 2) (.lit 46 (.str "src"))) (.cons (.asgT 47 [(49,12),(50,13)] (.tup 51 (.cons (.loc 52 5) (.cons (.loc 53 6) .nil)))) .nil) (.cons (.asgT 54 [(56,9),(57,12),(58,13)] (.tup 59 (.cons (.bin 60 .Add (.loc 61 9) (.loc 62 10)) (.cons (.loc 63 7) (.cons (.loc 64 8) .nil))))) .nil)) (.cons (.ite 65 (.cmp 66 .Eq (.loc 67 11) (.lit 68 (.int 4))) (.cons (.asg 69 13 (.loc 71 6)) .nil) .nil) (.cons (.ex 72 (.call 73 16 50 (.cons (.loc 75 0) (.cons (.lit 76 (.str "network")) (.cons (.loc 77 9) (.cons (.call 78 17 5 (.cons (.loc 80 12) (.cons (.loc 81 10) .nil))) .nil)))))) (.cons (.ite 82 (.cmp 83 .GtE (.loc 84 11) (.lit 85 (.int 0))) (.cons (.ex 86 (.call 87 16 50 (.cons (.loc 89 0) (.cons (.lit 90 (.str "transport")) (.cons (.loc 91 11) (.cons (.call 92 17 5 (.cons (.loc 94 13) (.cons (.lit 95 (.int 2)) .nil))) .nil)))))) .nil) .nil) .nil))))))))
noncomputable def c53:CB:=(.cons (.asg 0 3 (.call 2 4 19 (.cons (.loc 4 0) (.cons (.ifx 5 (.cmp 6 .Eq (.tix 7 (.loc 9 1) 0) (.lit 10 (.int 2))) (.lit 11 (.int 2048)) (.lit 12 (.int 34525))) .nil)))) (.cons (.ex 13 (.call 14 5 52 (.cons (.loc 16 3) (.cons (.loc 17 1) (.cons (.loc 18 2) .nil))))) (.cons (.ret 19 (.b1 20 6 3 (.attr 22 (.loc 23 3) 0))) .nil)))
noncomputable def c54:CB:=(.cons (.asg 0 3 (.call 2 4 22 (.cons (.loc 4 0) (.cons (.lit 5 (.str "transport")) (.cons (.lit 6 (.int 8)) (.cons (.mnx 7 5 true (.lit 9 (.int 0)) (.bin 10 .Sub (.bin 11 .Sub (.b1 12 6 0 (.attr 14 (.loc 15 0) 0)) (.attr 16 (.loc 17 0) 4)) (.lit 18 (.int 8)))) .nil)))))) (.cons (.ite 19 (.cmp 20 .IsNot (.loc 21 3) (.lit 22 .none)) (.cons (.ex 23 (.call 24 7 50 (.cons (.loc 26 0) (.cons (.lit 27 (.str "transport")) (.cons (.lit 28 (.int 8)) (.cons (.call 29 8 53 (.cons (.loc 31 3) (.cons (.loc 32 1) (.cons (.loc 33 2) .nil)))) .nil)))))) .nil) .nil) .nil))
noncomputable def c56:CB:=(.cons (.asg 0 4 (.call 2 8 20 (.cons (.loc 4 1) .nil))) (.cons (.asg 5 5 (.call 7 9 44 (.cons (.slice 9 (.attr 15 (.loc 16 1) 0) (.so (.bin 11 .Add (.attr 12 (.loc 13 1) 4) (.lit 14 (.int 8)))) .no) (.cons (.loc 17 4) .nil)))) (.cons (.ite 18 (.cmp 19 .Is (.loc 20 5) (.lit 21 .none)) (.cons (.ret 22 (.lit 23 .none)) .nil) .nil) (.cons (.asg 24 6 (.call 26 10 45 (.cons (.loc 28 5) .nil))) (.cons (.ite 29 (.cmp 30 .Is (.loc 31 6) (.lit 32 .none)) (.cons (.ret 33 (.lit 34 .none)) .nil) .nil) (.cons (.asg 35 7 (.call 37 11 48 (.cons (.loc 39 0) (.cons (.loc 40 2) (.cons (.loc 41 6) (.cons (.loc 42 3) .nil)))))) (.cons (.ite 43 (.bl 44 .Or (.cons (.cmp 45 .Is (.loc 46 7) (.lit 47 .none)) (.cons (.cmp 48 .NotEq (.tix 49 (.call 51 12 46 (.cons (.tix 53 (.loc 55 7) 0) (.cons (.tix 56 (.loc 58 7) 1) .nil))) 4) (.call 59 13 31 (.cons (.loc 61 1) .nil))) .nil))) (.cons (.ret 62 (.lit 63 .none)) .nil) .nil) (.cons (.ret 64 (.loc 65 7)) .nil))))))))
noncomputable def c57:CB:=(.cons (.asg 0 1 (.call 2 2 20 (.cons (.loc 4 0) .nil))) (.cons (.ite 5 (.bl 6 .Or (.cons (.nt 7 (.val (.call 8 3 38 (.cons (.loc 10 1) (.cons (.attr 11 (.loc 12 0) 3) .nil))))) (.cons (.cmp 13 .Lt (.attr 14 (.loc 15 0) 4) (.lit 16 (.int 0))) (.cons (.cmp 17 .GtE (.attr 18 (.loc 19 0) 4) (.b1 20 4 0 (.attr 22 (.loc 23 0) 0))) .nil)))) (.cons (.ret 24 (.lit 25 (.bool false))) .nil) .nil) (.cons (.ret 26 (.call 27 5 39 (.cons (.loc 29 1) (.cons (.item 30 (.attr 33 (.loc 34 0) 0) (.attr 31 (.loc 32 0) 4)) .nil)))) .nil)))
noncomputable def c59:CB:=(.cons (.asg 0 2 (.ifx 2 (.cmp 3 .NotEq (.key 4 (.loc 6 0) 0) (.fz (.lst 7 .nil))) (.pop 8 13 (.key 10 (.loc 12 0) 0)) (.lit 14 (.int 0)))) (.cons (.asg 15 3 (.bin 17 .Mod (.bin 18 .Add (.loc 19 2) (.key 20 (.loc 22 0) 1)) (.loc 23 1))) (.cons (.asgK 24 (.ref (.loc 27 0)) 1 (.bin 28 .FloorDiv (.key 29 (.loc 31 0) 1) (.loc 32 1))) (.cons (.ret 33 (.loc 34 3)) .nil))))
noncomputable def c60:CB:=(.cons (.ret 0 (.fz (.comp 1 (.bin 6 .Mod (.bin 7 .FloorDiv (.loc 8 2) (.bin 9 .Pow (.lit 10 (.int 256)) (.bin 11 .Sub (.bin 12 .Sub (.loc 13 3) (.lit 14 (.int 1))) (.loc 15 1)))) (.lit 16 (.int 256))) 1 (.b1 3 2 2 (.loc 5 1)) .no true [0,0,1,2] 0))) .nil)
noncomputable def c61:CB:=(.cons (.ret 0 (.b1 1 1 1 (.fz (.comp 3 (.bin 10 .Mult (.item 11 (.loc 13 3) (.loc 12 1)) (.bin 14 .Pow (.lit 15 (.int 256)) (.bin 16 .Sub (.bin 17 .Sub (.b1 18 2 0 (.loc 20 3)) (.lit 21 (.int 1))) (.loc 22 1)))) 1 (.b1 5 2 2 (.b1 7 3 0 (.loc 9 0))) .no true [0,0,0,1] 0)))) .nil)
noncomputable def c62:CB:=(.cons (.ret 0 (.fz (.lst 1 (.cons (.th (.lst 2 (.cons (.lit 3 (.int 0)) (.cons (.lit 4 (.int 0)) (.cons (.lit 5 (.int 0)) (.cons (.lit 6 (.int 0)) (.cons (.lit 7 (.int 17)) (.cons (.lit 8 (.int 1)) (.cons (.lit 9 (.int 0)) (.cons (.lit 10 (.int 0)) (.cons (.lit 11 (.int 1)) (.cons (.lit 12 (.int 0)) (.cons (.lit 13 (.int 0)) (.cons (.lit 14 (.int 0)) (.cons (.lit 15 (.int 0)) (.cons (.lit 16 (.int 0)) (.cons (.lit 17 (.int 0)) (.cons (.lit 18 (.int 3)) (.cons (.lit 19 (.int 777)) (.cons (.lit 20 (.int 0)) (.cons (.lit 21 (.int 0)) (.cons (.lit 22 (.int 0)) (.cons (.lit 23 (.int 1)) (.cons (.lit 24 (.int 8)) (.cons (.lit 25 (.int 1)) (.cons (.lit 26 (.int 0)) (.cons (.lit 27 (.int 0)) (.cons (.lit 28 (.int 0)) .nil)))))))))))))))))))))))))))) (.cons (.th (.lst 29 (.cons (.lit 30 (.int 1)) (.cons (.lit 31 (.int 1)) (.cons (.lit 32 (.int 0)) (.cons (.lit 33 (.int 0)) (.cons (.lit 34 (.int 5)) (.cons (.lit 35 (.int 0)) (.cons (.lit 36 (.int 0)) (.cons (.lit 37 (.int 0)) (.cons (.lit 38 (.int 4)) (.cons (.lit 39 (.int 2)) (.cons (.lit 40 (.int 0)) (.cons (.lit 41 (.int 1)) (.cons (.lit 42 (.int 2)) (.cons (.lit 43 (.int 1)) (.cons (.lit 44 (.int 0)) (.cons (.lit 45 (.int 0)) (.cons (.lit 46 (.int 1)) (.cons (.lit 47 (.int 2)) (.cons (.lit 48 (.int 0)) (.cons (.lit 49 (.int 1)) (.cons (.lit 50 (.int 0)) (.cons (.lit 51 (.int 2)) (.cons (.lit 52 (.int 9)) (.cons (.lit 53 (.int 3)) (.cons (.lit 54 (.int 1)) .nil))))))))))))))))))))))))))) (.cons (.th (.lst 55 (.cons (.lit 56 (.int 0)) (.cons (.lit 57 (.int 2)) (.cons (.lit 58 (.int 6)) (.cons (.lit 59 (.int 1)) (.cons (.lit 60 (.int 40)) (.cons (.lit 61 (.int 2)) (.cons (.lit 62 (.int 4660)) (.cons (.lit 63 (.int 0)) (.cons (.lit 64 (.int 0)) (.cons (.lit 65 (.int 1)) (.cons (.lit 66 (.int 2)) (.cons (.lit 67 (.int 513)) (.cons (.lit 68 (.int 0)) (.cons (.lit 69 (.int 0)) (.cons (.lit 70 (.int 2)) (.cons (.lit 71 (.int 1)) (.cons (.lit 72 (.int 0)) (.cons (.lit 73 (.int 1)) (.cons (.lit 74 (.int 3)) (.cons (.lit 75 (.int 2)) .nil)))))))))))))))))))))) (.cons (.th (.lst 76 (.cons (.lit 77 (.int 1)) (.cons (.lit 78 (.int 3)) (.cons (.lit 79 (.int 15)) (.cons (.lit 80 (.int 3)) (.cons (.lit 81 (.int 9)) (.cons (.lit 82 (.int 1)) (.cons (.lit 83 (.int 0)) (.cons (.lit 84 (.int 1)) (.cons (.lit 85 (.int 1)) (.cons (.lit 86 (.int 0)) (.cons (.lit 87 (.int 1)) (.cons (.lit 88 (.int 1)) (.cons (.lit 89 (.int 0)) (.cons (.lit 90 (.int 0)) (.cons (.lit 91 (.int 1)) (.cons (.lit 92 (.int 2)) (.cons (.lit 93 (.int 0)) (.cons (.lit 94 (.int 2)) (.cons (.lit 95 (.int 0)) (.cons (.lit 96 (.int 1)) (.cons (.lit 97 (.int 1)) .nil))))))))))))))))))))))) (.cons (.th (.lst 98 (.cons (.lit 99 (.int 0)) (.cons (.lit 100 (.int 5)) (.cons (.lit 101 (.int 0)) (.cons (.lit 102 (.int 2)) (.cons (.lit 103 (.int 200)) (.cons (.lit 104 (.int 0)) (.cons (.lit 105 (.int 0)) (.cons (.lit 106 (.int 3)) (.cons (.lit 107 (.int 2)) (.cons (.lit 108 (.int 1)) (.cons (.lit 109 (.int 0)) (.cons (.lit 110 (.int 9)) (.cons (.lit 111 (.int 1)) (.cons (.lit 112 (.int 0)) (.cons (.lit 113 (.int 0)) (.cons (.lit 114 (.int 1)) (.cons (.lit 115 (.int 4)) (.cons (.lit 116 (.int 500)) (.cons (.lit 117 (.int 0)) (.cons (.lit 118 (.int 2)) (.cons (.lit 119 (.int 3)) (.cons (.lit 120 (.int 1)) (.cons (.lit 121 (.int 1)) .nil))))))))))))))))))))))))) .nil)))))))) .nil)
noncomputable def c63:CB:=(.cons (.asg 0 2 (.fz (.dictI 2 [128,129] (.cons (.lit 5 (.int 129)) (.cons (.lit 6 (.int 128)) .nil))))) (.cons (.ite 7 (.cmp 8 .Eq (.loc 9 0) (.lit 10 (.int 2))) (.cons (.asg 11 2 (.fz (.dictI 13 [8,0,13,14,15,16,17,18] (.cons (.lit 22 (.int 0)) (.cons (.lit 23 (.int 8)) (.cons (.lit 24 (.int 14)) (.cons (.lit 25 (.int 13)) (.cons (.lit 26 (.int 16)) (.cons (.lit 27 (.int 15)) (.cons (.lit 28 (.int 18)) (.cons (.lit 29 (.int 17)) .nil))))))))))) .nil) .nil) (.cons (.ret 30 (.get 31 (.loc 33 2) (.loc 34 1) (.so (.neg 35 (.lit 36 (.int 1)))))) .nil)))
noncomputable def c64:CB:=(.cons (.ret 0 (.cmp 1 .In (.tup 2 (.cons (.loc 3 0) (.cons (.loc 4 1) .nil))) (.tup 5 (.cons (.tup 6 (.cons (.lit 7 (.int 2)) (.cons (.lit 8 (.int 1)) .nil))) (.cons (.tup 9 (.cons (.lit 10 (.int 10)) (.cons (.lit 11 (.int 58)) .nil))) .nil))))) .nil)
noncomputable def c65:CB:=(.cons (.asg 0 2 (.item 2 (.tup 7 (.cons (.lit 8 (.int 8)) (.cons (.lit 9 (.int 0)) (.cons (.lit 10 (.int 13)) (.cons (.lit 11 (.int 14)) (.cons (.lit 12 (.int 15)) (.cons (.lit 13 (.int 16)) (.cons (.lit 14 (.int 17)) (.cons (.lit 15 (.int 18)) (.cons (.lit 16 (.int 3)) (.cons (.lit 17 (.int 11)) (.cons (.lit 18 (.int 30)) (.cons (.lit 19 (.int 128)) (.cons (.lit 20 (.int 129)) (.cons (.lit 21 (.int 1)) (.cons (.lit 22 (.int 133)) (.cons (.lit 23 (.int 2)) .nil))))))))))))))))) (.call 3 9 59 (.cons (.loc 5 0) (.cons (.lit 6 (.int 16)) .nil))))) (.cons (.asgT 24 [(26,3),(27,4)] (.tup 28 (.cons (.call 29 9 59 (.cons (.loc 31 0) (.cons (.lit 32 (.int 4)) .nil))) (.cons (.call 33 9 59 (.cons (.loc 35 0) (.cons (.lit 36 (.int 256)) .nil))) .nil)))) (.cons (.asgO 37 5 (.comp 39 (.bin 44 .Mod (.bin 45 .Add (.bin 46 .Mult (.lit 47 (.int 11)) (.loc 48 1)) (.loc 49 2)) (.lit 50 (.int 256))) 1 (.b1 41 10 2 (.lit 43 (.int 24))) .no true [0,0,5] 0)) (.cons (.asgT 51 [(53,6),(54,7)] (.tup 55 (.cons (.call 56 9 59 (.cons (.loc 58 0) (.cons (.lit 59 (.int 3)) .nil))) (.cons (.call 60 9 59 (.cons (.loc 62 0) (.cons (.lit 63 (.int 65536)) .nil))) .nil)))) (.cons (.asg 64 8 (.get 66 (.fz (.dictI 68 [6,17,1,58] (.cons (.lit 73 (.int 16)) (.cons (.lit 74 (.int 6)) (.cons (.lit 75 (.int 2)) (.cons (.lit 76 (.int 2)) .nil)))))) (.loc 77 1) (.so (.neg 78 (.lit 79 (.int 1)))))) (.cons (.ite 80 (.cmp 81 .GtE (.loc 82 8) (.lit 83 (.int 0))) (.cons (.asgS 84 (.own 91 5) (.loc 87 8) (.bin 88 .Add (.loc 89 8) (.lit 90 (.int 2))) (.call 92 11 60 (.cons (.item 94 (.tup 96 (.cons (.lit 97 (.int 0)) (.cons (.lit 98 (.int 65535)) (.cons (.loc 99 7) .nil)))) (.loc 95 6)) (.cons (.lit 100 (.int 2)) .nil)))) .nil) .nil) (.cons (.ite 101 (.cmp 102 .In (.loc 103 1) (.tup 104 (.cons (.lit 105 (.int 1)) (.cons (.lit 106 (.int 58)) .nil)))) (.cons (.asgI 107 (.own 110 5) (.lit 109 (.int 0)) (.loc 111 2)) .nil) .nil) (.cons (.ret 112 (.tup 113 (.cons (.slice 114 (.loc 130 5) .no (.so (.item 116 (.tup 121 (.cons (.lit 122 (.int 24)) (.cons (.lit 123 (.int 23)) (.cons (.lit 124 (.int 19)) (.cons (.lit 125 (.int 8)) (.cons (.lit 126 (.int 7)) (.cons (.lit 127 (.int 4)) (.cons (.lit 128 (.int 3)) (.cons (.lit 129 (.int 0)) .nil))))))))) (.call 117 9 59 (.cons (.loc 119 0) (.cons (.lit 120 (.int 8)) .nil)))))) (.cons (.loc 131 3) .nil)))) .nil))))))))
noncomputable def c66:CB:=(.cons (.ret 0 (.ifx 1 (.cmp 2 .Eq (.loc 3 0) (.lit 4 (.int 2))) (.bin 5 .Add (.lit 6 (.int 167772160)) (.loc 7 1)) (.bin 8 .Add (.bin 9 .Add (.bin 10 .Mult (.lit 11 (.int 536939960)) (.bin 12 .Pow (.lit 13 (.int 2)) (.lit 14 (.int 96)))) (.bin 15 .Mult (.bin 16 .Pow (.lit 17 (.int 2)) (.lit 18 (.int 64))) (.loc 19 1))) (.loc 20 1)))) .nil)
noncomputable def c67:CB:=(.cons (.asgT 0 [(2,5),(3,6)] (.tup 4 (.cons (.call 5 10 59 (.cons (.loc 7 0) (.cons (.lit 8 (.int 3)) .nil))) (.cons (.call 9 10 59 (.cons (.loc 11 0) (.cons (.lit 12 (.int 3)) .nil))) .nil)))) (.cons (.asgT 13 [(15,7),(16,8)] (.tup 17 (.cons (.call 18 10 59 (.cons (.loc 20 0) (.cons (.lit 21 (.int 3)) .nil))) (.cons (.call 22 10 59 (.cons (.loc 24 0) (.cons (.lit 25 (.int 65536)) .nil))) .nil)))) (.cons (.asg 26 9 (.fz (.add 28 (.fz (.add 29 (.fz (.lst 30 (.cons (.bin 31 .Add (.lit 32 (.int 69)) (.loc 33 5)) (.cons (.lit 34 (.int 0)) .nil)))) (.call 35 11 60 (.cons (.item 37 (.tup 39 (.cons (.bin 40 .Add (.bin 41 .Add (.lit 42 (.int 20)) (.bin 43 .Mult (.lit 44 (.int 4)) (.loc 45 5))) (.loc 46 3)) (.cons (.lit 47 (.int 20)) (.cons (.lit 48 (.int 65535)) .nil)))) (.loc 38 6)) (.cons (.lit 49 (.int 2)) .nil))))) (.fz (.lst 50 (.cons (.lit 51 (.int 1)) (.cons (.lit 52 (.int 2)) .nil))))))) (.cons (.asg 53 9 (.fz (.add 55 (.fz (.add 56 (.loc 57 9) (.call 58 11 60 (.cons (.item 60 (.tup 62 (.cons (.lit 63 (.int 0)) (.cons (.lit 64 (.int 16384)) (.cons (.lit 65 (.int 8192)) (.cons (.lit 66 (.int 1)) .nil))))) (.loc 61 2)) (.cons (.lit 67 (.int 2)) .nil))))) (.fz (.lst 68 (.cons (.lit 69 (.int 64)) (.cons (.loc 70 1) .nil))))))) (.cons (.asg 71 9 (.fz (.add 73 (.loc 74 9) (.call 75 11 60 (.cons (.item 77 (.tup 79 (.cons (.lit 80 (.int 65535)) (.cons (.lit 81 (.int 0)) (.cons (.loc 82 8) .nil)))) (.loc 78 7)) (.cons (.lit 83 (.int 2)) .nil)))))) (.cons (.ret 84 (.fz (.add 85 (.fz (.add 86 (.fz (.add 87 (.loc 88 9) (.call 89 11 60 (.cons (.tix 91 (.loc 93 4) 0) (.cons (.lit 94 (.int 4)) .nil))))) (.call 95 11 60 (.cons (.tix 97 (.loc 99 4) 1) (.cons (.lit 100 (.int 4)) .nil))))) (.fz (.mul 101 (.fz (.lst 102 (.cons (.lit 103 (.int 1)) .nil))) (.bin 104 .Mult (.lit 105 (.int 4)) (.loc 106 5))))))) .nil))))))
noncomputable def c68:CB:=(.cons (.asgO 0 5 (.comp 2 (.item 10 (.tup 15 (.cons (.lit 16 (.int 60)) (.cons (.lit 17 (.int 43)) (.cons (.lit 18 (.int 51)) .nil)))) (.call 11 2 59 (.cons (.loc 13 3) (.cons (.lit 14 (.int 3)) .nil)))) 1 (.b1 4 13 2 (.call 6 14 59 (.cons (.loc 8 0) (.cons (.lit 9 (.int 6)) .nil)))) .no true [0,0,0,1] 0)) (.cons (.ite 19 (.cmp 20 .Gt (.loc 21 2) (.lit 22 (.int 1))) (.cons (.app 23 (.own 26 5) (.lit 27 (.int 44))) .nil) .nil) (.cons (.asg 28 6 (.fz (.lst 30 .nil))) (.cons (.for_ 31 (.nm 32 7) (.b1 33 13 2 (.b1 35 15 0 (.loc 37 5))) (.cons (.asg 38 8 (.ifx 40 (.cmp 41 .Lt (.bin 42 .Add (.loc 43 7) (.lit 44 (.int 1))) (.b1 45 15 0 (.loc 47 5))) (.item 48 (.loc 52 5) (.bin 49 .Add (.loc 50 7) (.lit 51 (.int 1)))) (.loc 53 1))) (.cons (.ite 54 (.cmp 55 .Eq (.item 56 (.loc 58 5) (.loc 57 7)) (.lit 59 (.int 44))) (.cons (.asg 60 6 (.fz (.add 62 (.fz (.add 63 (.fz (.add 64 (.loc 65 6) (.fz (.lst 66 (.cons (.loc 67 8) (.cons (.lit 68 (.int 0)) .nil)))))) (.call 69 16 60 (.cons (.bin 71 .Add (.bin 72 .Mult (.lit 73 (.int 8)) (.bin 74 .Sub (.loc 75 2) (.lit 76 (.int 2)))) (.lit 77 (.int 1))) (.cons (.lit 78 (.int 2)) .nil))))) (.fz (.lst 79 (.cons (.lit 80 (.int 0)) (.cons (.lit 81 (.int 0)) (.cons (.lit 82 (.int 0)) (.cons (.lit 83 (.int 5)) .nil))))))))) .nil) (.cons (.asgT 84 [(86,9),(87,10)] (.item 88 (.fz (.dictI 92 [60,43,51] (.cons (.tup 96 (.cons (.lit 97 (.int 0)) (.cons (.lit 98 (.int 8)) .nil))) (.cons (.tup 99 (.cons (.lit 100 (.int 1)) (.cons (.lit 101 (.int 16)) .nil))) (.cons (.tup 102 (.cons (.lit 103 (.int 4)) (.cons (.lit 104 (.int 24)) .nil))) .nil))))) (.item 89 (.loc 91 5) (.loc 90 7)))) (.cons (.asg 105 6 (.fz (.add 107 (.fz (.add 108 (.loc 109 6) (.fz (.lst 110 (.cons (.loc 111 8) (.cons (.loc 112 9) .nil)))))) (.fz (.mul 113 (.fz (.lst 114 (.cons (.lit 115 (.int 9)) .nil))) (.bin 116 .Sub (.loc 117 10) (.lit 118 (.int 2)))))))) .nil))) .nil))) (.cons (.asg 119 11 (.item 121 (.tup 126 (.cons (.bin 127 .Add (.b1 128 15 0 (.loc 130 6)) (.loc 131 3)) (.cons (.lit 132 (.int 0)) (.cons (.lit 133 (.int 9)) .nil)))) (.call 122 14 59 (.cons (.loc 124 0) (.cons (.lit 125 (.int 3)) .nil))))) (.cons (.asg 134 12 (.fz (.add 136 (.fz (.add 137 (.fz (.lst 138 (.cons (.lit 139 (.int 96)) (.cons (.lit 140 (.int 0)) (.cons (.lit 141 (.int 0)) (.cons (.lit 142 (.int 0)) .nil)))))) (.call 143 16 60 (.cons (.loc 145 11) (.cons (.lit 146 (.int 2)) .nil))))) (.fz (.lst 147 (.cons (.tix 148 (.fz (.add 150 (.loc 151 5) (.fz (.lst 152 (.cons (.loc 153 1) .nil))))) 0) (.cons (.lit 154 (.int 64)) .nil))))))) (.cons (.ret 155 (.fz (.add 156 (.fz (.add 157 (.fz (.add 158 (.loc 159 12) (.call 160 16 60 (.cons (.tix 162 (.loc 164 4) 0) (.cons (.lit 165 (.int 16)) .nil))))) (.call 166 16 60 (.cons (.tix 168 (.loc 170 4) 1) (.cons (.lit 171 (.int 16)) .nil))))) (.loc 172 6)))) .nil)))))))
noncomputable def c69:CB:=(.cons (.asgT 0 [(2,1),(3,2)] (.tup 4 (.cons (.item 5 (.tup 10 (.cons (.lit 11 (.int 2)) (.cons (.lit 12 (.int 10)) .nil))) (.call 6 8 59 (.cons (.loc 8 0) (.cons (.lit 9 (.int 2)) .nil)))) (.cons (.item 13 (.tup 18 (.cons (.lit 19 (.int 6)) (.cons (.lit 20 (.int 17)) (.cons (.lit 21 (.int 1)) (.cons (.lit 22 (.int 58)) (.cons (.lit 23 (.int 47)) (.cons (.lit 24 (.int 132)) (.cons (.lit 25 (.int 33)) (.cons (.lit 26 (.int 50)) .nil))))))))) (.call 14 8 59 (.cons (.loc 16 0) (.cons (.lit 17 (.int 8)) .nil)))) .nil)))) (.cons (.asgT 27 [(29,3),(30,4)] (.call 31 9 65 (.cons (.loc 33 0) (.cons (.loc 34 2) .nil)))) (.cons (.asg 35 5 (.fz (.lst 37 (.cons (.call 38 10 66 (.cons (.loc 40 1) (.cons (.lit 41 (.int 1)) .nil))) (.cons (.call 42 10 66 (.cons (.loc 44 1) (.cons (.lit 45 (.int 2)) .nil))) .nil))))) (.cons (.asg 46 6 (.ifx 48 (.cmp 49 .Eq (.loc 50 1) (.lit 51 (.int 2))) (.fnv 52 11 67) (.fnv 53 12 68))) (.cons (.asg 54 7 (.callv 56 6 (.cons (.loc 58 0) (.cons (.loc 59 2) (.cons (.loc 60 4) (.cons (.b1 61 13 0 (.loc 63 3)) (.cons (.loc 64 5) .nil))))))) (.cons (.ret 65 (.tup 66 (.cons (.fz (.add 67 (.loc 68 7) (.loc 69 3))) (.cons (.tup 70 (.cons (.loc 71 1) (.cons (.loc 72 2) (.cons (.ifx 73 (.cmp 74 .Eq (.loc 75 4) (.lit 76 (.int 3))) (.neg 77 (.lit 78 (.int 1))) (.b1 79 13 0 (.loc 81 7))) .nil)))) (.cons (.b1 82 13 0 (.loc 84 7)) .nil))))) .nil))))))
noncomputable def c70:CB:=(.cons (.asgT 0 [(2,2),(3,3),(4,4)] (.loc 5 1)) (.cons (.ite 6 (.bl 7 .Or (.cons (.cmp 8 .Lt (.loc 9 3) (.lit 10 (.int 0))) (.cons (.cmp 11 .Lt (.loc 12 4) (.lit 13 (.int 0))) .nil))) (.cons (.ret 14 (.lit 15 .none)) .nil) .nil) (.cons (.asg 16 5 (.tup 18 (.cons (.lit 19 (.int 0)) (.cons (.lit 20 (.int 0)) .nil)))) (.cons (.ite 21 (.cmp 22 .In (.loc 23 3) (.tup 24 (.cons (.lit 25 (.int 6)) (.cons (.lit 26 (.int 17)) .nil)))) (.cons (.ite 27 (.cmp 28 .Gt (.bin 29 .Add (.loc 30 4) (.lit 31 (.int 4))) (.b1 32 11 0 (.loc 34 0))) (.cons (.ret 35 (.lit 36 .none)) .nil) .nil) (.cons (.asg 37 5 (.tup 39 (.cons (.call 40 12 61 (.cons (.slice 42 (.loc 48 0) (.so (.loc 44 4)) (.so (.bin 45 .Add (.loc 46 4) (.lit 47 (.int 2))))) .nil)) (.cons (.call 49 12 61 (.cons (.slice 51 (.loc 59 0) (.so (.bin 53 .Add (.loc 54 4) (.lit 55 (.int 2)))) (.so (.bin 56 .Add (.loc 57 4) (.lit 58 (.int 4))))) .nil)) .nil)))) .nil)) (.cons (.ite 60 (.val (.call 61 13 64 (.cons (.loc 63 2) (.cons (.loc 64 3) .nil)))) (.cons (.ite 65 (.cmp 66 .Gt (.bin 67 .Add (.loc 68 4) (.lit 69 (.int 8))) (.b1 70 11 0 (.loc 72 0))) (.cons (.ret 73 (.lit 74 .none)) .nil) .nil) (.cons (.asg 75 6 (.cmp 77 .GtE (.call 78 14 63 (.cons (.loc 80 2) (.cons (.item 81 (.loc 83 0) (.loc 82 4)) .nil))) (.lit 84 (.int 0)))) (.cons (.asg 85 5 (.tup 87 (.cons (.ifx 88 (.val (.loc 89 6)) (.call 90 12 61 (.cons (.slice 92 (.loc 100 0) (.so (.bin 94 .Add (.loc 95 4) (.lit 96 (.int 4)))) (.so (.bin 97 .Add (.loc 98 4) (.lit 99 (.int 6))))) .nil)) (.lit 101 (.int 0))) (.cons (.call 102 12 61 (.cons (.slice 104 (.loc 110 0) (.so (.loc 106 4)) (.so (.bin 107 .Add (.loc 108 4) (.lit 109 (.int 2))))) .nil)) .nil)))) .nil))) .nil) .nil)) (.cons (.asgT 111 [(113,7),(114,8)] (.ifx 115 (.cmp 116 .Eq (.loc 117 2) (.lit 118 (.int 2))) (.tup 119 (.cons (.lit 120 (.int 12)) (.cons (.lit 121 (.int 4)) .nil))) (.tup 122 (.cons (.lit 123 (.int 8)) (.cons (.lit 124 (.int 16)) .nil))))) (.cons (.asgT 125 [(127,9),(128,10)] (.tup 129 (.cons (.call 130 12 61 (.cons (.slice 132 (.loc 138 0) (.so (.loc 134 7)) (.so (.bin 135 .Add (.loc 136 7) (.loc 137 8)))) .nil)) (.cons (.call 139 12 61 (.cons (.slice 141 (.loc 151 0) (.so (.bin 143 .Add (.loc 144 7) (.loc 145 8))) (.so (.bin 146 .Add (.loc 147 7) (.bin 148 .Mult (.lit 149 (.int 2)) (.loc 150 8))))) .nil)) .nil)))) (.cons (.ret 152 (.tup 153 (.cons (.loc 154 2) (.cons (.loc 155 3) (.cons (.loc 156 9) (.cons (.tix 157 (.loc 159 5) 0) (.cons (.loc 160 10) (.cons (.tix 161 (.loc 163 5) 1) .nil)))))))) .nil)))))))
noncomputable def c71:CB:=(.cons (.asgT 0 [(2,2),(3,3),(4,4)] (.loc 5 1)) (.cons (.ite 6 (.bl 7 .Or (.cons (.nt 8 (.val (.call 9 5 64 (.cons (.loc 11 2) (.cons (.loc 12 3) .nil))))) (.cons (.nt 13 (.cmp2 14 .LtE .Lt (.lit 15 (.int 0)) (.loc 16 4) (.b1 17 6 0 (.loc 19 0)))) .nil))) (.cons (.ret 20 (.lit 21 (.bool false))) .nil) .nil) (.cons (.ret 22 (.cmp 23 .In (.item 24 (.loc 26 0) (.loc 25 4)) (.ifx 27 (.cmp 28 .Eq (.loc 29 2) (.lit 30 (.int 2))) (.tup 31 (.cons (.lit 32 (.int 3)) (.cons (.lit 33 (.int 4)) (.cons (.lit 34 (.int 5)) (.cons (.lit 35 (.int 11)) (.cons (.lit 36 (.int 12)) .nil)))))) (.tup 37 (.cons (.lit 38 (.int 1)) (.cons (.lit 39 (.int 2)) (.cons (.lit 40 (.int 3)) (.cons (.lit 41 (.int 4)) .nil)))))))) .nil)))
noncomputable def c72:CB:=(.cons (.asg 0 3 (.bin 2 .Sub (.lit 3 (.int 65535)) (.loc 4 0))) (.cons (.for_ 5 (.nm 6 4) (.rng3 7 5 (.lit 9 (.int 0)) (.b1 10 6 0 (.loc 12 1)) (.lit 13 (.int 2))) (.cons (.aug 14 3 (.bin 16 .Add (.bin 17 .Sub (.lit 18 (.int 65535)) (.call 19 7 61 (.cons (.slice 21 (.fz (.add 27 (.loc 28 1) (.fz (.lst 29 (.cons (.lit 30 (.int 0)) .nil))))) (.so (.loc 23 4)) (.so (.bin 24 .Add (.loc 25 4) (.lit 26 (.int 2))))) .nil))) (.call 31 7 61 (.cons (.slice 33 (.fz (.add 39 (.loc 40 2) (.fz (.lst 41 (.cons (.lit 42 (.int 0)) .nil))))) (.so (.loc 35 4)) (.so (.bin 36 .Add (.loc 37 4) (.lit 38 (.int 2))))) .nil)))) .nil)) (.cons (.ret 43 (.bin 44 .Sub (.lit 45 (.int 65535)) (.ifx 46 (.cmp 47 .Eq (.loc 48 3) (.lit 49 (.int 0))) (.lit 50 (.int 0)) (.bin 51 .Add (.bin 52 .Mod (.bin 53 .Sub (.loc 54 3) (.lit 55 (.int 1))) (.lit 56 (.int 65535))) (.lit 57 (.int 1)))))) .nil)))
noncomputable def c73:CB:=(.cons (.asgT 0 [(2,4),(3,5),(4,6)] (.loc 5 1)) (.cons (.asg 6 7 (.slice 8 (.loc 16 0) (.so (.loc 10 2)) (.so (.bin 11 .Add (.loc 12 2) (.b1 13 12 0 (.loc 15 3)))))) (.cons (.ite 17 (.cmp 18 .Eq (.loc 19 7) (.loc 20 3)) (.cons (.ret 21 (.loc 22 0)) .nil) .nil) (.cons (.asgO 23 8 (.add 25 (.fz (.add 26 (.slice 27 (.loc 30 0) .no (.so (.loc 29 2))) (.loc 31 3))) (.slice 32 (.loc 39 0) (.so (.bin 34 .Add (.loc 35 2) (.b1 36 12 0 (.loc 38 3)))) .no))) (.cons (.asg 40 9 (.cmp 42 .Lt (.loc 43 2) (.ifx 44 (.cmp 45 .Eq (.loc 46 4) (.lit 47 (.int 2))) (.lit 48 (.int 20)) (.lit 49 (.int 40))))) (.cons (.ite 50 (.bl 51 .And (.cons (.cmp 52 .Eq (.loc 53 4) (.lit 54 (.int 2))) (.cons (.val (.loc 55 9)) (.cons (.cmp 56 .GtE (.loc 57 5) (.lit 58 (.int 0))) .nil)))) (.cons (.asgS 59 (.own 64 8) (.lit 62 (.int 10)) (.lit 63 (.int 12)) (.call 65 13 60 (.cons (.call 67 14 72 (.cons (.call 69 15 61 (.cons (.slice 71 (.loc 75 0) (.so (.lit 73 (.int 10))) (.so (.lit 74 (.int 12)))) .nil)) (.cons (.loc 76 7) (.cons (.loc 77 3) .nil)))) (.cons (.lit 78 (.int 2)) .nil)))) .nil) .nil) (.cons (.asg 79 10 (.bin 81 .Add (.loc 82 6) (.get 83 (.fz (.dictI 85 [6,17,1,58] (.cons (.lit 90 (.int 16)) (.cons (.lit 91 (.int 6)) (.cons (.lit 92 (.int 2)) (.cons (.lit 93 (.int 2)) .nil)))))) (.loc 94 5) (.so (.lit 95 (.int 9999)))))) (.cons (.ite 96 (.bl 97 .Or (.cons (.cmp 98 .Lt (.loc 99 6) (.lit 100 (.int 0))) (.cons (.cmp 101 .Gt (.bin 102 .Add (.loc 103 10) (.lit 104 (.int 2))) (.b1 105 12 0 (.loc 107 0))) (.cons (.bl 108 .And (.cons (.val (.loc 109 9)) (.cons (.cmp 110 .Eq (.loc 111 5) (.lit 112 (.int 1))) .nil))) .nil)))) (.cons (.ret 113 (.loc 114 8)) .nil) .nil) (.cons (.asg 115 11 (.call 117 15 61 (.cons (.slice 119 (.loc 125 0) (.so (.loc 121 10)) (.so (.bin 122 .Add (.loc 123 10) (.lit 124 (.int 2))))) .nil))) (.cons (.ite 126 (.bl 127 .Or (.cons (.cmp 128 .NotEq (.loc 129 5) (.lit 130 (.int 17))) (.cons (.cmp 131 .NotEq (.loc 132 11) (.lit 133 (.int 0))) .nil))) (.cons (.asg 134 11 (.call 136 14 72 (.cons (.loc 138 11) (.cons (.loc 139 7) (.cons (.loc 140 3) .nil))))) (.cons (.asgS 141 (.own 148 8) (.loc 144 10) (.bin 145 .Add (.loc 146 10) (.lit 147 (.int 2))) (.call 149 13 60 (.cons (.ifx 151 (.bl 152 .And (.cons (.cmp 153 .Eq (.loc 154 5) (.lit 155 (.int 17))) (.cons (.cmp 156 .Eq (.loc 157 11) (.lit 158 (.int 0))) .nil))) (.lit 159 (.int 65535)) (.loc 160 11)) (.cons (.lit 161 (.int 2)) .nil)))) .nil)) .nil) (.cons (.ret 162 (.loc 163 8)) .nil)))))))))))
noncomputable def c74:CB:=(.cons (.asgT 0 [(2,4),(3,5),(4,6)] (.loc 5 1)) (.cons (.ite 6 (.bl 7 .Or (.cons (.cmp 8 .Lt (.loc 9 6) (.lit 10 (.int 0))) (.cons (.cmp 11 .NotEq (.loc 12 5) (.tix 13 (.loc 15 2) 1)) .nil))) (.cons (.ret 16 (.neg 17 (.lit 18 (.int 1)))) .nil) .nil) (.cons (.ite 19 (.cmp 20 .In (.loc 21 5) (.tup 22 (.cons (.lit 23 (.int 6)) (.cons (.lit 24 (.int 17)) .nil)))) (.cons (.ret 25 (.ifx 26 (.cmp 27 .Eq (.loc 28 3) (.lit 29 (.str "src"))) (.loc 30 6) (.bin 31 .Add (.loc 32 6) (.lit 33 (.int 2))))) .nil) .nil) (.cons (.ite 34 (.bl 35 .And (.cons (.val (.call 36 7 64 (.cons (.loc 38 4) (.cons (.loc 39 5) .nil)))) (.cons (.cmp 40 .Lt (.loc 41 6) (.b1 42 8 0 (.loc 44 0))) (.cons (.cmp 45 .GtE (.call 46 9 63 (.cons (.loc 48 4) (.cons (.item 49 (.loc 51 0) (.loc 50 6)) .nil))) (.lit 52 (.int 0))) .nil)))) (.cons (.ret 53 (.bin 54 .Add (.loc 55 6) (.lit 56 (.int 4)))) .nil) .nil) (.cons (.ret 57 (.neg 58 (.lit 59 (.int 1)))) .nil)))))
noncomputable def c75:CB:=(.cons (.ite 0 (.cmp 1 .NotEq (.tix 2 (.loc 4 2) 0) (.tix 5 (.loc 7 1) 0)) (.cons (.ret 8 (.loc 9 0)) .nil) .nil) (.cons (.asgT 10 [(12,4),(13,5)] (.ifx 14 (.cmp 15 .Eq (.tix 16 (.loc 18 2) 0) (.lit 19 (.int 2))) (.tup 20 (.cons (.lit 21 (.int 12)) (.cons (.lit 22 (.int 4)) .nil))) (.tup 23 (.cons (.lit 24 (.int 8)) (.cons (.lit 25 (.int 16)) .nil))))) (.cons (.ite 26 (.cmp 27 .Eq (.loc 28 3) (.lit 29 (.str "dst"))) (.cons (.aug 30 4 (.loc 32 5)) .nil) .nil) (.cons (.asg 33 6 (.call 35 8 74 (.cons (.loc 37 0) (.cons (.loc 38 1) (.cons (.loc 39 2) (.cons (.loc 40 3) .nil)))))) (.cons (.asg 41 7 (.cmp 43 .NotIn (.tix 44 (.loc 46 2) 1) (.tup 47 (.cons (.lit 48 (.int 6)) (.cons (.lit 49 (.int 17)) .nil))))) (.cons (.ite 50 (.cmp 51 .LtE (.bin 52 .Add (.loc 53 4) (.loc 54 5)) (.b1 55 9 0 (.loc 57 0))) (.cons (.asg 58 0 (.call 60 10 73 (.cons (.loc 62 0) (.cons (.loc 63 1) (.cons (.loc 64 4) (.cons (.call 65 11 60 (.cons (.ifx 67 (.cmp 68 .Eq (.loc 69 3) (.lit 70 (.str "src"))) (.tix 71 (.loc 73 2) 2) (.tix 74 (.loc 76 2) 4)) (.cons (.loc 77 5) .nil))) .nil)))))) .nil) .nil) (.cons (.ite 78 (.cmp2 79 .LtE .LtE (.lit 80 (.int 0)) (.loc 81 6) (.bin 82 .Sub (.b1 83 9 0 (.loc 85 0)) (.lit 86 (.int 2)))) (.cons (.asg 87 0 (.call 89 10 73 (.cons (.loc 91 0) (.cons (.loc 92 1) (.cons (.loc 93 6) (.cons (.call 94 11 60 (.cons (.ifx 96 (.bl 97 .Or (.cons (.cmp 98 .Eq (.loc 99 3) (.lit 100 (.str "src"))) (.cons (.val (.loc 101 7)) .nil))) (.tix 102 (.loc 104 2) 3) (.tix 105 (.loc 107 2) 5)) (.cons (.lit 108 (.int 2)) .nil))) .nil)))))) .nil) .nil) (.cons (.ret 109 (.loc 110 0)) .nil))))))))
noncomputable def c76:CB:=(.cons (.asgT 0 [(2,3),(3,4),(4,5)] (.loc 5 2)) (.cons (.asg 6 6 (.item 8 (.tup 13 (.cons (.lit 14 (.str "src")) (.cons (.lit 15 (.str "dst")) .nil))) (.call 9 17 59 (.cons (.loc 11 0) (.cons (.lit 12 (.int 2)) .nil))))) (.cons (.asgT 16 [(18,7),(19,8)] (.tup 20 (.cons (.cmp 21 .Eq (.call 22 17 59 (.cons (.loc 24 0) (.cons (.lit 25 (.int 8)) .nil))) (.lit 26 (.int 7))) (.cons (.cmp 27 .Eq (.call 28 17 59 (.cons (.loc 30 0) (.cons (.lit 31 (.int 8)) .nil))) (.lit 32 (.int 7))) .nil)))) (.cons (.asg 33 9 (.call 35 18 66 (.cons (.loc 37 3) (.cons (.item 38 (.tup 43 (.cons (.item 44 (.tup 48 (.cons (.lit 49 (.int 1)) (.cons (.lit 50 (.int 2)) .nil))) (.cmp 45 .Eq (.loc 46 6) (.lit 47 (.str "dst")))) (.cons (.lit 51 (.int 9)) (.cons (.bin 52 .Pow (.lit 53 (.int 2)) (.lit 54 (.int 20))) .nil)))) (.call 39 17 59 (.cons (.loc 41 0) (.cons (.lit 42 (.int 3)) .nil)))) .nil)))) (.cons (.asg 55 10 (.call 57 19 74 (.cons (.loc 59 1) (.cons (.loc 60 2) (.cons (.slice 61 (.loc 64 2) .no (.so (.lit 63 (.int 2)))) (.cons (.loc 65 6) .nil)))))) (.cons (.asg 66 11 (.ifx 68 (.cmp2 69 .LtE .LtE (.lit 70 (.int 0)) (.loc 71 10) (.bin 72 .Sub (.b1 73 20 0 (.loc 75 1)) (.lit 76 (.int 2)))) (.call 77 21 61 (.cons (.slice 79 (.loc 85 1) (.so (.loc 81 10)) (.so (.bin 82 .Add (.loc 83 10) (.lit 84 (.int 2))))) .nil)) (.lit 86 (.int 0)))) (.cons (.asgT 87 [(89,12),(90,13)] (.tup 91 (.cons (.call 92 17 59 (.cons (.loc 94 0) (.cons (.lit 95 (.int 5)) .nil))) (.cons (.call 96 17 59 (.cons (.loc 98 0) (.cons (.lit 99 (.int 65536)) .nil))) .nil)))) (.cons (.asg 100 14 (.item 102 (.tup 104 (.cons (.loc 105 11) (.cons (.lit 106 (.int 0)) (.cons (.lit 107 (.int 65535)) (.cons (.loc 108 13) (.cons (.loc 109 13) .nil)))))) (.loc 103 12))) (.cons (.asg 110 15 (.tup 112 (.cons (.ifx 113 (.val (.loc 114 7)) (.bin 115 .Sub (.lit 116 (.int 12)) (.loc 117 3)) (.loc 118 3)) (.cons (.ifx 119 (.val (.loc 120 8)) (.ifx 121 (.cmp 122 .Eq (.loc 123 4) (.lit 124 (.int 6))) (.lit 125 (.int 17)) (.lit 126 (.int 6))) (.loc 127 4)) .nil)))) (.cons (.asg 128 16 (.call 130 18 66 (.cons (.loc 132 3) (.cons (.lit 133 (.int 77)) .nil)))) (.cons (.ite 134 (.cmp 135 .Eq (.loc 136 6) (.lit 137 (.str "src"))) (.cons (.ret 138 (.tup 139 (.cons (.tadd 140 (.loc 141 15) (.tup 142 (.cons (.loc 143 9) (.cons (.loc 144 14) (.cons (.loc 145 16) (.cons (.lit 146 (.int 88)) .nil)))))) (.cons (.loc 147 6) .nil)))) .nil) .nil) (.cons (.ret 148 (.tup 149 (.cons (.tadd 150 (.tadd 151 (.loc 152 15) (.ifx 153 (.cmp 154 .In (.loc 155 4) (.tup 156 (.cons (.lit 157 (.int 1)) (.cons (.lit 158 (.int 58)) .nil)))) (.tup 159 (.cons (.loc 160 16) (.cons (.loc 161 14) .nil))) (.tup 162 (.cons (.loc 163 16) (.cons (.lit 164 (.int 88)) .nil))))) (.tup 165 (.cons (.loc 166 9) (.cons (.loc 167 14) .nil)))) (.cons (.loc 168 6) .nil)))) .nil))))))))))))
noncomputable def c77:CB:=(.cons (.asgT 0 [(2,4),(3,5),(4,6)] (.loc 5 2)) (.cons (.asg 6 7 (.ifx 8 (.cmp 9 .Eq (.loc 10 4) (.lit 11 (.int 2))) (.tup 12 (.cons (.lit 13 (.int 3)) (.cons (.lit 14 (.int 11)) (.cons (.lit 15 (.int 12)) (.cons (.lit 16 (.int 4)) (.cons (.lit 17 (.int 5)) .nil)))))) (.tup 18 (.cons (.lit 19 (.int 1)) (.cons (.lit 20 (.int 2)) (.cons (.lit 21 (.int 3)) (.cons (.lit 22 (.int 4)) (.cons (.lit 23 (.int 1)) .nil)))))))) (.cons (.asgT 24 [(26,8),(27,9)] (.tup 28 (.cons (.item 29 (.loc 34 7) (.call 30 18 59 (.cons (.loc 32 0) (.cons (.lit 33 (.int 5)) .nil)))) (.cons (.call 35 18 59 (.cons (.loc 37 0) (.cons (.lit 38 (.int 65536)) .nil))) .nil)))) (.cons (.asg 39 10 (.ifx 41 (.cmp 42 .Eq (.loc 43 4) (.lit 44 (.int 2))) (.lit 45 (.int 20)) (.lit 46 (.int 40)))) (.cons (.asg 47 11 (.item 49 (.tup 54 (.cons (.b1 55 19 0 (.loc 57 1)) (.cons (.bin 58 .Add (.loc 59 3) (.lit 60 (.int 8))) (.cons (.bin 61 .Add (.loc 62 3) (.lit 63 (.int 3))) (.cons (.loc 64 3) (.cons (.loc 65 10) (.cons (.bin 66 .Add (.loc 67 3) (.lit 68 (.int 7))) .nil))))))) (.call 50 18 59 (.cons (.loc 52 0) (.cons (.lit 53 (.int 6)) .nil))))) (.cons (.asg 69 12 (.slice 71 (.loc 77 1) .no (.so (.mnx 73 20 true (.loc 75 10) (.loc 76 11))))) (.cons (.asgO 78 13 (.add 80 (.fz (.add 81 (.fz (.add 82 (.fz (.lst 83 (.cons (.loc 84 8) (.cons (.lit 85 (.int 0)) .nil)))) (.call 86 21 60 (.cons (.loc 88 9) (.cons (.lit 89 (.int 2)) .nil))))) (.fz (.lst 90 (.cons (.lit 91 (.int 0)) (.cons (.lit 92 (.int 0)) (.cons (.lit 93 (.int 0)) (.cons (.lit 94 (.int 0)) .nil)))))))) (.loc 95 12))) (.cons (.asg 96 14 (.cmp 98 .Lt (.call 99 18 59 (.cons (.loc 101 0) (.cons (.lit 102 (.int 4)) .nil))) (.lit 103 (.int 3)))) (.cons (.asg 104 15 (.fz (.lst 106 (.cons (.call 107 22 66 (.cons (.loc 109 4) (.cons (.lit 110 (.int 500)) .nil))) (.cons (.call 111 22 66 (.cons (.loc 113 4) (.cons (.ifx 114 (.val (.loc 115 14)) (.lit 116 (.int 1)) (.lit 117 (.int 3))) .nil))) .nil))))) (.cons (.ite 118 (.cmp 119 .Eq (.loc 120 4) (.lit 121 (.int 2))) (.cons (.asg 122 16 (.call 124 23 67 (.cons (.loc 126 0) (.cons (.lit 127 (.int 1)) (.cons (.lit 128 (.int 0)) (.cons (.b1 129 19 0 (.loc 131 13)) (.cons (.loc 132 15) .nil))))))) .nil) (.cons (.asg 133 16 (.call 135 24 68 (.cons (.loc 137 0) (.cons (.lit 138 (.int 58)) (.cons (.lit 139 (.int 0)) (.cons (.b1 140 19 0 (.loc 142 13)) (.cons (.loc 143 15) .nil))))))) .nil)) (.cons (.asg 144 17 (.ifx 146 (.cmp 147 .GtE (.b1 148 19 0 (.loc 150 12)) (.loc 151 3)) (.loc 152 2) (.tup 153 (.cons (.loc 154 4) (.cons (.neg 155 (.lit 156 (.int 1))) (.cons (.neg 157 (.lit 158 (.int 1))) .nil)))))) (.cons (.ret 159 (.tup 160 (.cons (.fz (.add 161 (.loc 162 16) (.loc 163 13))) (.cons (.tup 164 (.cons (.loc 165 4) (.cons (.ifx 166 (.cmp 167 .Eq (.loc 168 4) (.lit 169 (.int 2))) (.lit 170 (.int 1)) (.lit 171 (.int 58))) (.cons (.b1 172 19 0 (.loc 174 16)) .nil)))) (.cons (.loc 175 12) (.cons (.loc 176 17) (.cons (.loc 177 14) .nil))))))) .nil))))))))))))
noncomputable def c78:CB:=(.cons (.asgT 0 [(2,1),(3,2),(4,3),(5,4),(6,5),(7,6)] (.loc 8 0)) (.cons (.ite 9 (.nt 10 (.val (.call 11 8 64 (.cons (.loc 13 1) (.cons (.loc 14 2) .nil))))) (.cons (.ret 15 (.tup 16 (.cons (.loc 17 1) (.cons (.loc 18 2) (.cons (.loc 19 5) (.cons (.loc 20 6) (.cons (.loc 21 3) (.cons (.loc 22 4) .nil)))))))) .nil) .nil) (.cons (.asg 23 7 (.call 25 9 63 (.cons (.loc 27 1) (.cons (.bin 28 .FloorDiv (.loc 29 6) (.lit 30 (.int 256))) .nil)))) (.cons (.ret 31 (.ifx 32 (.cmp 33 .Lt (.loc 34 7) (.lit 35 (.int 0))) (.lit 36 .none) (.tup 37 (.cons (.loc 38 1) (.cons (.loc 39 2) (.cons (.loc 40 5) (.cons (.loc 41 4) (.cons (.loc 42 3) (.cons (.bin 43 .Add (.bin 44 .Mult (.lit 45 (.int 256)) (.loc 46 7)) (.bin 47 .Mod (.loc 48 6) (.lit 49 (.int 256)))) .nil))))))))) .nil))))
noncomputable def c79:CB:=(.cons (.asgT 0 [(2,6),(3,7),(4,8),(5,9),(6,10)] (.call 7 17 77 (.cons (.loc 9 0) (.cons (.loc 10 1) (.cons (.loc 11 2) (.cons (.loc 12 3) .nil)))))) (.cons (.asg 13 11 (.call 15 18 19 (.cons (.b1 17 19 3 (.loc 19 6)) (.cons (.ifx 20 (.cmp 21 .Eq (.tix 22 (.loc 24 2) 0) (.lit 25 (.int 2))) (.lit 26 (.int 2048)) (.lit 27 (.int 34525))) .nil)))) (.cons (.asg 28 12 (.call 30 20 70 (.cons (.loc 32 8) (.cons (.loc 33 9) .nil)))) (.cons (.asg 34 13 (.ifx 36 (.cmp 37 .Is (.loc 38 12) (.lit 39 .none)) (.lit 40 .none) (.call 41 21 78 (.cons (.loc 43 12) .nil)))) (.cons (.asg 44 14 (.new 46 22 37 (.cons (.lit 48 (.int 8)) (.cons (.lit 49 (.int 0)) .nil)))) (.cons (.ite 50 (.cmp 51 .IsNot (.loc 52 13) (.lit 53 .none)) (.cons (.asg 54 15 (.new 56 23 36 (.cons (.lit 58 (.int 7)) (.cons (.tup 59 (.cons (.lit 60 (.int 2)) (.cons (.lit 61 (.int 17)) (.cons (.lit 62 (.int 5)) (.cons (.lit 63 (.int 5)) (.cons (.lit 64 (.int 5)) (.cons (.lit 65 (.int 5)) .nil))))))) (.cons (.loc 66 13) (.cons (.lit 67 (.int 0)) .nil)))))) (.cons (.asgA 68 (.loc 70 15) 11 (.lit 71 (.int 9))) (.cons (.asgI 72 (.ref (.attr 75 (.loc 76 14) 22)) (.lit 74 (.int 7)) (.loc 77 15)) (.cons (.asgI 78 (.ref (.attr 83 (.loc 84 14) 21)) (.tup 80 (.cons (.lit 81 (.int 0)) (.cons (.loc 82 13) .nil))) (.tup 85 (.cons (.lit 86 (.int 7)) (.cons (.lit 87 (.int 1)) .nil)))) .nil)))) .nil) (.cons (.asg 88 16 (.call 90 24 56 (.cons (.loc 92 14) (.cons (.loc 93 11) (.cons (.lit 94 (.int 0)) (.cons (.lit 95 (.int 5)) .nil)))))) (.cons (.ite 96 (.bl 97 .Or (.cons (.cmp 98 .NotEq (.cmp 99 .IsNot (.loc 100 16) (.lit 101 .none)) (.bl 102 .And (.cons (.cmp 103 .IsNot (.loc 104 13) (.lit 105 .none)) (.cons (.loc 106 10) .nil)))) (.cons (.nt 107 (.val (.call 108 25 57 (.cons (.loc 110 11) .nil)))) .nil))) (.cons (.ret 111 (.lit 112 (.bool false))) .nil) .nil) (.cons (.ite 113 (.bl 114 .And (.cons (.cmp 115 .IsNot (.loc 116 16) (.lit 117 .none)) (.cons (.cmp 118 .NotEq (.tup 119 (.cons (.attr 120 (.tix 121 (.loc 123 16) 0) 7) (.cons (.tix 124 (.loc 126 16) 1) .nil))) (.tup 127 (.cons (.lit 128 (.int 7)) (.cons (.lit 129 (.int 1)) .nil)))) .nil))) (.cons (.ret 130 (.lit 131 (.bool false))) .nil) .nil) (.cons (.ite 132 (.cmp 133 .NotEq (.tix 134 (.loc 136 4) 0) (.tix 137 (.loc 139 2) 0)) (.cons (.ret 140 (.lit 141 (.bool true))) .nil) .nil) (.cons (.ex 142 (.call 143 26 54 (.cons (.loc 145 11) (.cons (.loc 146 4) (.cons (.loc 147 5) .nil))))) (.cons (.ret 148 (.cmp 149 .Eq (.fz (.b1 150 27 1 (.attr 152 (.loc 153 11) 0))) (.call 154 28 73 (.cons (.loc 156 6) (.cons (.loc 157 7) (.cons (.bin 158 .Add (.tix 159 (.loc 161 7) 2) (.lit 162 (.int 8))) (.cons (.call 163 29 75 (.cons (.loc 165 8) (.cons (.loc 166 9) (.cons (.loc 167 4) (.cons (.loc 168 5) .nil))))) .nil))))))) .nil))))))))))))
noncomputable def c80:CB:=(.cons (.asgT 0 [(2,1),(3,2),(4,3)] (.call 5 7 69 (.cons (.loc 7 0) .nil))) (.cons (.asg 8 4 (.call 10 8 19 (.cons (.b1 12 9 3 (.loc 14 1)) (.cons (.ifx 15 (.cmp 16 .Eq (.tix 17 (.loc 19 2) 0) (.lit 20 (.int 2))) (.lit 21 (.int 2048)) (.lit 22 (.int 34525))) .nil)))) (.cons (.ite 23 (.bl 24 .Or (.cons (.cmp 25 .NotEq (.call 26 10 43 (.cons (.loc 28 4) .nil)) (.call 29 11 70 (.cons (.loc 31 1) (.cons (.loc 32 2) .nil)))) (.cons (.cmp 33 .NotEq (.call 34 12 57 (.cons (.loc 36 4) .nil)) (.call 37 13 71 (.cons (.loc 39 1) (.cons (.loc 40 2) .nil)))) .nil))) (.cons (.ret 41 (.lit 42 (.bool false))) .nil) .nil) (.cons (.asgT 43 [(45,5),(46,6)] (.call 47 14 76 (.cons (.loc 49 0) (.cons (.loc 50 1) (.cons (.loc 51 2) .nil))))) (.cons (.ex 52 (.call 53 15 52 (.cons (.loc 55 4) (.cons (.loc 56 5) (.cons (.loc 57 6) .nil))))) (.cons (.ite 58 (.cmp 59 .NotEq (.fz (.b1 60 16 1 (.attr 62 (.loc 63 4) 0))) (.call 64 17 75 (.cons (.loc 66 1) (.cons (.loc 67 2) (.cons (.loc 68 5) (.cons (.loc 69 6) .nil)))))) (.cons (.ret 70 (.lit 71 (.bool false))) .nil) .nil) (.cons (.ret 72 (.call 73 18 79 (.cons (.loc 75 0) (.cons (.loc 76 1) (.cons (.loc 77 2) (.cons (.loc 78 3) (.cons (.loc 79 5) (.cons (.loc 80 6) .nil)))))))) .nil)))))))
noncomputable def c81:CB:=(.cons (.asg 0 0 (.slice 2 (.loc 5 0) .no (.so (.lit 4 (.int 63))))) (.cons (.fore 6 10 3 (.tup 7 [(8,1),(9,2)]) (.call 12 4 62 .nil) (.cons (.ite 14 (.nt 15 (.val (.call 16 5 80 (.cons (.th (.dictS 18 [0,1] (.cons (.loc 21 2) (.cons (.b1 22 6 1 (.fz (.step 24 27 (.loc 28 0) (.loc 26 1)))) .nil)))) .nil)))) (.cons (.ret 29 (.lit 30 (.bool false))) .nil) .nil) .nil)) (.cons (.ret 31 (.lit 32 (.bool true))) .nil)))
end
section
noncomputable def prg:Program:=PySem.Challenge.pw_pq1094_01
structure Bs where
 w:World
 h₀:Heap
 K:Frag
 mg:Str→Option Value
 mb:Str→Option Value
 fa:Nat→Option Addr
 ca:Nat→Option Addr
noncomputable def sks:List Str:=["row", "rest"]
noncomputable def skey (k:Nat):Str:=sks.getD k ""
noncomputable def ans:List Str:=["data", "link", "kind", "l4", "off", "place", "meta", "number", "original", "reply", "zone", "until", "since", "mark", "status", "state", "sides", "master", "most", "seed", "tries", "table", "talks", "last", "trackers", "expects", "flows", "is_loose"]
noncomputable def an (j:Nat):Str:=ans.getD j ""
noncomputable def bts (a:Array UInt8):List Int:=a.toList.map fun c=>(c.toNat:Int)
def IsBA (h:Heap) (a:Addr) (arr:Array UInt8):Prop:=h.get? a=some { cls:=.type "bytearray",data:=.bytearray arr 0 }
def IsT (h:Heap) (a:Addr) (items:Array Value):Prop:=∃ n,h.get? a=some { cls:=.type "tuple",data:=.seq items n }
def IsLs (h:Heap) (a:Addr) (items:Array Value):Prop:=∃ n,IsL h a items n
def Le (F h:Heap):Prop:=∀ a o,F.get? a=some o→h.get? a=some o
theorem Le.refl (h:Heap):Le h h:=fun _ _ e=>e
theorem Le.trans {a b c:Heap} (x:Le a b) (y:Le b c):Le a c:=fun p o e=>y p o (x p o e)
theorem Le.push (h:Heap) (o:Obj):Le h (h.push o):=fun _ _ e=>Heap.get?_push_of_some o e
def Pre (μ μ':List Addr):Prop:=∃ δ,μ'=μ ++ δ
theorem Pre.refl (μ:List Addr):Pre μ μ:=⟨[],(List.append_nil μ).symm⟩
theorem Pre.trans {a b c:List Addr} (x:Pre a b) (y:Pre b c):Pre a c:=by obtain ⟨d,e⟩:=x;obtain ⟨d',e'⟩:=y;exact ⟨d ++ d',by rw [e',e,List.append_assoc]⟩
theorem Pre.at {μ μ':List Addr} (x:Pre μ μ') {i:Nat} {a:Addr} (e:μ[i]?=some a):μ'[i]?=some a:=by
 obtain ⟨d,rfl⟩:=x
 rw [List.getElem?_append_left (List.getElem?_eq_some_iff.mp e).1];exact e
section
variable (B:Bs) (F:Heap) (μ:List Addr)
mutual
noncomputable def Rep:Value→PV→Prop
 | v,.none=>v=.none
 | v,.bool b=>v=.bool b
 | v,.int i=>∃ t,v=.int i t
 | v,.str x=>∃ t,v=.str x t
 | v,.bytes l=>∃ a t,v=.bytes a t∧bts a=l∧l.length≤1000000
 | v,.ba l=>∃ p,v=.ref p∧∃ a,IsBA F p a∧bts a=l∧l.length≤1000000
 | v,.tup l=>∃ p,v=.ref p∧∃ a,IsT F p a∧RepL a.toList l∧l.length≤1000000
 | v,.il l=>∃ p,v=.ref p∧∃ a,IsLs F p a∧IntsAre a.toList l∧l.length≤1000000
 | v,.lst l=>∃ p,v=.ref p∧∃ a,IsLs F p a∧RepL a.toList l∧l.length≤1000000
 | _,.any=>True
 | v,.rng a b c=>∃ p,v=.ref p∧∃ t u w,IsRange F p a b c t u w∧Builtin.Range.small a b c=true∧Builtin.Range.rangeSize a b c≤1000000
 | v,.ref i=>∃ p,v=.ref p∧μ[i]?=some p
 | v,.inst c i=>∃ p,v=.ref p∧∃ d C,F.get? p=some (instObj C d)∧B.ca c=some C∧μ[i]?=some d
 | v,.fn f=>∃ a,v=.ref a∧B.fa f=some a
 | v,.idc k l=>∃ p,v=.ref p∧(p == sysModules)=false∧∃ kvs,F.DictOf (intKind prg B.w) p kvs∧kvs.map (·.1)=k∧RepL (kvs.map (·.2)) l
 | _,_=>False
noncomputable def RepL:List Value→List PV→Prop
 | vs,[]=>vs=[]
 | vs,x :: l=>∃ v r,vs=v :: r∧Rep v x∧RepL r l
end
def Con (h:Heap) (a:Addr):PV→Prop
 | .il l=>∃ i,IsLs h a i∧IntsAre i.toList l∧l.length≤1000000
 | .lst l=>∃ i,IsLs h a i∧RepL B F μ i.toList l∧l.length≤1000000
 | .tup l=>∃ i,IsT h a i∧RepL B F μ i.toList l∧l.length≤1000000
 | .ba l=>∃ i,IsBA h a i∧bts i=l∧l.length≤1000000
 | .rng x y z=>∃ t u v,IsRange h a x y z t u v∧Builtin.Range.small x y z=true∧Builtin.Range.rangeSize x y z≤1000000
 | .ed=>(a == sysModules)=false∧∃ ep,h.get? a=some { cls:=.type "dict",data:=.dict #[] ep }
 | .sdx n=>∃ kvs,h.DictOf (strKind prg B.w) a kvs∧kvs.length≤n
 | .sd k l=>∃ kvs,h.DictOf (strKind prg B.w) a kvs∧kvs.map (·.1)=k.map skey∧RepL B F μ (kvs.map (·.2)) l∧∀ i ∈ k,i < 2
 | .idc k l=>(a == sysModules)=false∧∃ kvs,h.DictOf (intKind prg B.w) a kvs∧kvs.map (·.1)=k∧RepL B F μ (kvs.map (·.2)) l
 | .td i ks x=>(a == sysModules)=false∧∃ o ep ka v,(h.get? a=some o∧o.ExactDict∧o.data=.dict #[entryOfKey (pairKind prg B.w) ((i,ks),ka,v)] ep)∧IsPair prg B.w F (i,ks) ka∧Rep B F μ v x
 | .att k l=>∃ m,h.Ns1 a m∧(∀ j x,lk k l j=some x→∃ v,m (an j)=some v∧Rep B F μ v x)∧(∀ n v,m n=some v→n ∈ k.map an)∧k.length=l.length∧∀ j ∈ k,j < 28
 | _=>False
def RC (h:Heap) (v:Value):PV→Prop
 | .none=>v=.none
 | .bool b=>v=.bool b
 | .int i=>∃ t,v=.int i t
 | .str x=>∃ t,v=.str x t
 | .bytes l=>∃ a t,v=.bytes a t∧bts a=l∧l.length≤1000000
 | .any=>True
 | .ref _=>False
 | .inst c i=>Rep B F μ v (.inst c i)
 | .fn f=>Rep B F μ v (.fn f)
 | x=>∃ a,v=.ref a∧Con B F μ h a x
end
section
variable {B:Bs} {F F' h h':Heap} {μ μ':List Addr}
theorem dictOf_at {K:Type} [DecidableEq K] {knd:KeyKind prg B.w K} {a:Addr} {kvs:List (K × Value)} (x:h.DictOf knd a kvs) (e:∀ o,h.get? a=some o→h'.get? a=some o):h'.DictOf knd a kvs :=
 by obtain ⟨o,es,ep,ho,r⟩:=x;exact ⟨o,es,ep,e o ho,r⟩
theorem ns_at {a:Addr} {m:Str→Option Value} (x:h.Ns a m) (e:∀ o,h.get? a=some o→h'.get? a=some o):h'.Ns a m :=
 by obtain ⟨o,es,ep,ho,r⟩:=x;exact ⟨o,es,ep,e o ho,r⟩
theorem IsLs.at {a:Addr} {i:Array Value} (x:IsLs h a i) (e:∀ o,h.get? a=some o→h'.get? a=some o):IsLs h' a i:=by obtain ⟨n,q⟩:=x;exact ⟨n,e _ q⟩
theorem IsT.at {a:Addr} {i:Array Value} (x:IsT h a i) (e:∀ o,h.get? a=some o→h'.get? a=some o):IsT h' a i:=by obtain ⟨n,q⟩:=x;exact ⟨n,e _ q⟩
abbrev RM (B:Bs) (F F':Heap) (μ μ':List Addr) (x:PV):Prop:=∀ v,Rep B F μ v x→Rep B F' μ' v x
mutual
theorem rep_mono (f:Le F F') (p:Pre μ μ'):∀ x:PV,RM B F F' μ μ' x
 | .none | .bool _ | .int _ | .str _ | .bytes _ | .any | .fn _=>fun _ h=>h
 | .ba _=>fun _ h=>by obtain ⟨q,e,a,i,r⟩:=h;exact ⟨q,e,a,f _ _ i,r⟩
 | .tup l=>fun _ h=>by obtain ⟨q,e,a,i,r,z⟩:=h;exact ⟨q,e,a,i.at (f _),repL_mono f p l _ r,z⟩
 | .il _=>fun _ h=>by obtain ⟨q,e,a,i,r⟩:=h;exact ⟨q,e,a,i.at (f _),r⟩
 | .lst l=>fun _ h=>by obtain ⟨q,e,a,i,r,z⟩:=h;exact ⟨q,e,a,i.at (f _),repL_mono f p l _ r,z⟩
 | .rng ..=>fun _ h=>by obtain ⟨q,e,t,u,w,i,r⟩:=h;exact ⟨q,e,t,u,w,f _ _ i,r⟩
 | .ref _=>fun _ h=>by obtain ⟨q,e,i⟩:=h;exact ⟨q,e,p.at i⟩
 | .inst ..=>fun _ h=>by obtain ⟨q,e,d,C,i,c,m⟩:=h;exact ⟨q,e,d,C,f _ _ i,c,p.at m⟩
 | .idc _ l=>fun _ h=>by obtain ⟨q,e,n,kvs,d,k,r⟩:=h;exact ⟨q,e,n,kvs,dictOf_at d (f _),k,repL_mono f p l _ r⟩
 | .ed | .sdx _ | .sd .. | .td .. | .att ..=>fun _ h=>h.elim
termination_by structural x=>x
theorem repL_mono (f:Le F F') (p:Pre μ μ'):∀ l:List PV,∀ vs,RepL B F μ vs l→RepL B F' μ' vs l
 | []=>fun _ h=>h
 | x :: l=>fun _ h=>by obtain ⟨v,r,e,a,b⟩:=h;exact ⟨v,r,e,rep_mono f p x v a,repL_mono f p l r b⟩
termination_by structural l=>l
end
theorem Rep.mono {v:Value} {x:PV} (f:Le F F') (p:Pre μ μ') (h:Rep B F μ v x):Rep B F' μ' v x:=rep_mono f p x v h
theorem RepL.mono {vs:List Value} {l:List PV} (f:Le F F') (p:Pre μ μ') (h:RepL B F μ vs l):RepL B F' μ' vs l:=repL_mono f p l vs h
theorem IsPair.le {prog:Program} {w:World} {k:Int × List Int} {a:Addr} (f:Le F F') (x:IsPair prog w F k a):IsPair prog w F' k a :=
 by obtain ⟨o,n,t,q,h1,h2,h3,o',i',n',h4,h5⟩:=x;exact ⟨o,n,t,q,f _ _ h1,h2,h3,o',i',n',f _ _ h4,h5⟩
theorem Con.mono (f:Le F F') (p:Pre μ μ') {a:Addr} {x:PV} (c:Con B F μ h a x) (e:∀ o,h.get? a=some o→h'.get? a=some o):Con B F' μ' h' a x:=by
 induction x using PV.casesOn <;> try exact c.elim
 case il=>obtain ⟨i,q,r⟩:=c;exact ⟨i,q.at e,r⟩
 case lst=>obtain ⟨i,q,r,z⟩:=c;exact ⟨i,q.at e,r.mono f p,z⟩
 case tup=>obtain ⟨i,q,r,z⟩:=c;exact ⟨i,q.at e,r.mono f p,z⟩
 case ba=>obtain ⟨i,q,r⟩:=c;exact ⟨i,e _ q,r⟩
 case rng=>obtain ⟨t,u,v,q,r⟩:=c;exact ⟨t,u,v,e _ q,r⟩
 case ed=>obtain ⟨s,i,q⟩:=c;exact ⟨s,i,e _ q⟩
 case sdx=>obtain ⟨k,q,r⟩:=c;exact ⟨k,dictOf_at q e,r⟩
 case sd=>obtain ⟨k,q,r,l,z⟩:=c;exact ⟨k,dictOf_at q e,r,l.mono f p,z⟩
 case idc=>obtain ⟨n,k,q,r,l⟩:=c;exact ⟨n,k,dictOf_at q e,r,l.mono f p⟩
 case td=>obtain ⟨n,o,ep,ka,v,⟨q,q2⟩,q4,q5⟩:=c;exact ⟨n,o,ep,ka,v,⟨e _ q,q2⟩,q4.le f,q5.mono f p⟩
 case att=>obtain ⟨m,q,r,z⟩:=c;exact ⟨m,q.at e,fun j x hx=>by obtain ⟨v,a,b⟩:=r j x hx;exact ⟨v,a,b.mono f p⟩,z⟩
theorem Con.ex {a:Addr} {x:PV} (c:Con B F μ h a x):∃ o,h.get? a=some o:=by
 induction x using PV.casesOn <;> try exact c.elim
 case il=>obtain ⟨_,⟨_,q⟩,_⟩:=c;exact ⟨_,q⟩
 case lst=>obtain ⟨_,⟨_,q⟩,_⟩:=c;exact ⟨_,q⟩
 case tup=>obtain ⟨_,⟨_,q⟩,_⟩:=c;exact ⟨_,q⟩
 case ba=>obtain ⟨_,q,_⟩:=c;exact ⟨_,q⟩
 case rng=>obtain ⟨_,_,_,q,_⟩:=c;exact ⟨_,q⟩
 case ed=>obtain ⟨_,_,q⟩:=c;exact ⟨_,q⟩
 case sdx=>obtain ⟨_,⟨_,_,_,q,_⟩,_⟩:=c;exact ⟨_,q⟩
 case sd=>obtain ⟨_,⟨_,_,_,q,_⟩,_⟩:=c;exact ⟨_,q⟩
 case idc=>obtain ⟨_,_,⟨_,_,_,q,_⟩,_⟩:=c;exact ⟨_,q⟩
 case td=>obtain ⟨_,_,_,_,_,⟨q,_⟩,_⟩:=c;exact ⟨_,q⟩
 case att=>obtain ⟨_,⟨_,_,_,q,_⟩,_⟩:=c;exact ⟨_,q⟩
theorem Con.lt {a:Addr} {x:PV} (c:Con B F μ h a x):a < h.objs.size:=by obtain ⟨_,q⟩:=c.ex;exact Heap.lt_size q
theorem Con.rep {a:Addr} {x:PV} (c:Con B F μ h a x) (f:Le F F') (e:∀ o,h.get? a=some o→F'.get? a=some o):Rep B F' μ (.ref a) (fzP x):=by
 have p:=Pre.refl μ
 induction x using PV.casesOn <;> try exact c.elim
 case il=>obtain ⟨i,q,r⟩:=c;exact ⟨a,rfl,i,q.at e,r⟩
 case lst=>obtain ⟨i,q,r,z⟩:=c;exact ⟨a,rfl,i,q.at e,r.mono f p,z⟩
 case tup=>obtain ⟨i,q,r,z⟩:=c;exact ⟨a,rfl,i,q.at e,r.mono f p,z⟩
 case ba=>obtain ⟨i,q,r⟩:=c;exact ⟨a,rfl,i,e _ q,r⟩
 case rng=>obtain ⟨t,u,v,q,r⟩:=c;exact ⟨a,rfl,t,u,v,e _ q,r⟩
 case idc=>obtain ⟨n,k,q,r,l⟩:=c;exact ⟨a,rfl,n,k,dictOf_at q e,r,l.mono f p⟩
 all_goals trivial
theorem grow (f:Le F h) {a:Addr} {o:Obj} (e:h.get? a=some o):∃ F':Heap,Le F F'∧Le F' h∧F'.get? a=some o∧∀ b o',F'.get? b=some o'→F.get? b=some o' ∨ b=a:=by
 classical
 let F':Heap:=⟨(Array.range h.objs.size).map fun i=>if (F.get? i).isSome ∨ i=a then h.objs.getD i { cls:=.none,data:=.freed } else { cls:=.none,data:=.freed },h.life⟩
 have key (b:Addr):F'.get? b=if (F.get? b).isSome ∨ b=a then h.get? b else none:=by
  show (match F'.objs[b]? with | some ⟨_,_,.freed,_⟩=>none | o=>o)=if _ then (match h.objs[b]? with | some ⟨_,_,.freed,_⟩=>none | o=>o) else none
  by_cases hl:b < h.objs.size
  ·have:F'.objs[b]?=some (if (F.get? b).isSome ∨ b=a then h.objs.getD b { cls:=.none,data:=.freed } else { cls:=.none,data:=.freed }):=by
    show ((Array.range h.objs.size).map _)[b]?=_
    rw [Array.getElem?_map,Array.getElem?_range,if_pos hl];rfl
   rw [this]
   by_cases hs:(F.get? b).isSome ∨ b=a
   ·rw [if_pos hs,if_pos hs,Array.getD_eq_getD_getElem?,Array.getElem?_eq_getElem hl];rfl
   ·rw [if_neg hs,if_neg hs]
  ·have:F'.objs[b]?=none:=Array.getElem?_eq_none (by show ((Array.range h.objs.size).map _).size≤b;rw [Array.size_map,Array.size_range];exact Nat.not_lt.mp hl)
   rw [this,Array.getElem?_eq_none (Nat.not_lt.mp hl)]
   exact (ite_self none).symm
 refine ⟨F',fun b o' x=>?_,fun b o' x=>?_,(key a).trans ((if_pos (.inr rfl)).trans e),fun b o' x=>?_⟩
 ·rw [key,if_pos (.inl (by rw [x];rfl))];exact f _ _ x
 ·rw [key] at x
  split at x
  ·exact x
  ·cases x
 ·rw [key] at x
  split at x
  ·rename_i r
   rcases r with r | r
   ·obtain ⟨o'',ho⟩:=Option.isSome_iff_exists.mp r
    rw [f _ _ ho] at x
    exact .inl (ho.trans x)
   ·exact .inr r
  ·cases x
theorem none_of {F:Heap} {b:Addr} (h:∀ o,F.get? b=some o→False):F.get? b=none:=by
 cases q:F.get? b with
 | none=>rfl
 | some o=>exact (h o q).elim
structure SS (B:Bs) (F:Heap) (μ:List Addr) (σ:List PV) (h:Heap):Prop where
 base:Le B.h₀ F
 sub:Le F h
 len:μ.length=σ.length
 obj:∀ (i:Nat) (a:Addr) (x:PV),μ[i]?=some a→σ[i]?=some x→Con B F μ h a x
 free:∀ a ∈ μ,F.get? a=none
 nd:μ.Nodup
structure Ext (n₀:Nat) (F:Heap) (μ:List Addr) (h F':Heap) (μ':List Addr) (h':Heap):Prop where
 fm:Le F F'
 nf:∀ a o,F'.get? a=some o→F.get? a=some o ∨ n₀≤a
 pres:∀ a o,a < n₀→a ∉ μ→h.get? a=some o→h'.get? a=some o
 mu:∃ δ,μ'=μ ++ δ∧∀ b ∈ δ,n₀≤b
variable {F'' h'':Heap} {μ'':List Addr} {n₀ n₁:Nat} {σ σ':List PV}
theorem Ext.pre (e:Ext n₀ F μ h F' μ' h'):Pre μ μ':=by obtain ⟨δ,q,_⟩:=e.mu;exact ⟨δ,q⟩
theorem mu0 {μ:List Addr} {n₀:Nat}:∃ δ,μ=μ ++ δ∧∀ b ∈ δ,n₀≤b:=⟨[],(List.append_nil μ).symm,fun _ h=>nomatch h⟩
theorem Ext.grow (l:Le h h'):Ext n₀ F μ h F μ h':=⟨Le.refl _,fun _ _ x=>.inl x,fun a o _ _ x=>l a o x,mu0⟩
theorem Ext.trans (x:Ext n₀ F μ h F' μ' h') (y:Ext n₀ F' μ' h' F'' μ'' h''):Ext n₀ F μ h F'' μ'' h'':=by
 obtain ⟨δ,rfl,hδ⟩:=x.mu
 obtain ⟨ε,rfl,hε⟩:=y.mu
 refine ⟨x.fm.trans y.fm,fun a o q=>(y.nf a o q).elim (x.nf a o) .inr,fun a o hl ha hx=>y.pres a o hl (fun hm=>(List.mem_append.mp hm).elim ha fun hm=>absurd (hδ _ hm) (Nat.not_le.mpr hl)) (x.pres a o hl ha hx),
  δ ++ ε,List.append_assoc ..,fun b hb=>(List.mem_append.mp hb).elim (hδ b) (hε b)⟩
theorem Ext.wide (x:Ext n₁ F μ h F' μ' h') (l:n₀≤n₁):Ext n₀ F μ h F' μ' h' :=
 ⟨x.fm,fun a o q=>(x.nf a o q).imp id (Nat.le_trans l),fun a o hl ha=>x.pres a o (Nat.lt_of_lt_of_le hl l) ha,by obtain ⟨δ,q,r⟩:=x.mu;exact ⟨δ,q,fun b hb=>Nat.le_trans l (r b hb)⟩⟩
theorem SS.grow (s:SS B F μ σ h) (l:Le h h'):SS B F μ σ h' :=
 ⟨s.base,s.sub.trans l,s.len,fun i a x ha hx=>(s.obj i a x ha hx).mono (Le.refl _) (Pre.refl _) (fun o=>l a o),s.free,s.nd⟩
theorem SS.freezeO (s:SS B F μ σ h) {a:Addr} {o:Obj} (ho:h.get? a=some o) (ha:a ∉ μ) (hn:n₀≤a):∃ F',Le F F'∧SS B F' μ σ h∧Ext n₀ F μ h F' μ h∧F'.get? a=some o∧∀ b o,F'.get? b=some o→F.get? b=some o ∨ b=a:=by
 obtain ⟨F',f1,f2,f3,f4⟩:=Mine.grow s.sub ho
 exact ⟨F',f1,⟨s.base.trans f1,f2,s.len,fun i b y hb hy=>(s.obj i b y hb hy).mono f1 (Pre.refl _) fun _=>id,fun b hb=>none_of fun o' q=>(f4 b o' q).elim (fun q=>nomatch (s.free b hb).symm.trans q) fun q=>ha (q ▸ hb),s.nd⟩,
  ⟨f1,fun b o' q=>(f4 b o' q).imp id fun (e:b=a)=>(e ▸ hn:n₀≤b),fun _ _ _ _ x=>x,mu0⟩,f3,f4⟩
theorem SS.thaw (s:SS B F μ σ h) {a:Addr} {x:PV} (c:Con B F μ h a x) (ha:a ∉ μ) (hf:F.get? a=none) (hn:n₀≤a):SS B F (μ ++ [a]) (σ ++ [x]) h∧Ext n₀ F μ h F (μ ++ [a]) h∧(μ ++ [a])[σ.length]?=some a:=by
 have p:Pre μ (μ ++ [a]):=⟨_,rfl⟩
 refine ⟨⟨s.base,s.sub,by rw [List.length_append,List.length_append,s.len];rfl,fun i b y hb hy=>?_,fun b hb=>(List.mem_append.mp hb).elim (s.free b) fun hb=>(List.mem_singleton.mp hb).symm ▸ hf,
   List.nodup_append.mpr ⟨s.nd,List.nodup_cons.mpr ⟨List.not_mem_nil,List.nodup_nil⟩,fun b hb c hc e=>ha ((e.trans (List.mem_singleton.mp hc)) ▸ hb)⟩⟩,
  ⟨Le.refl _,fun _ _ x=>.inl x,fun _ _ _ _ x=>x,[a],rfl,fun b hb=>(List.mem_singleton.mp hb).symm ▸ hn⟩,by rw [← s.len,List.getElem?_append_right (Nat.le_refl _),Nat.sub_self];rfl⟩
 by_cases hi:i < μ.length
 ·rw [List.getElem?_append_left hi] at hb
  rw [List.getElem?_append_left (s.len ▸ hi)] at hy
  exact (s.obj i b y hb hy).mono (Le.refl _) p fun _=>id
 ·have hj:=Nat.not_lt.mp hi
  rw [List.getElem?_append_right hj] at hb
  rw [List.getElem?_append_right (s.len ▸ hj),← s.len] at hy
  cases hk:i - μ.length with
  | zero=>rw [hk] at hb hy;cases hb;cases hy;exact c.mono (Le.refl _) p fun _=>id
  | succ k=>rw [hk] at hb;cases hb
theorem SS.put (s:SS B F μ σ h) {i:Nat} {a:Addr} {x:PV} (hi:μ[i]?=some a) (hs:Heap.SameBut a h h') (c:Con B F μ h' a x):SS B F μ (σ.set i x) h':=by
 have ha:a ∈ μ:=List.mem_of_getElem? hi
 refine ⟨s.base,fun b o q=>?_,by rw [List.length_set];exact s.len,fun j b y hb hy=>?_,s.free,s.nd⟩
 ·rw [hs.2 b (fun e:b=a=>by subst e;rw [s.free b ha] at q;cases q)];exact s.sub _ _ q
 ·by_cases hj:i=j
  ·subst hj
   obtain rfl:a=b:=Option.some.inj (hi.symm.trans hb)
   rw [List.getElem?_set,if_pos rfl] at hy
   split at hy
   ·cases hy;exact c
   ·cases hy
  ·rw [List.getElem?_set_ne hj] at hy
   refine (s.obj j b y hb hy).mono (Le.refl _) (Pre.refl _) fun o q=>(hs.2 b fun e=>?_).trans q
   subst e
   obtain ⟨l1,e1⟩:=List.getElem?_eq_some_iff.mp hi
   obtain ⟨l2,e2⟩:=List.getElem?_eq_some_iff.mp hb
   exact hj ((List.getElem_inj s.nd).mp (e1.trans e2.symm))
theorem Ext.put {i:Nat} {a:Addr} (hi:μ[i]?=some a) (hs:Heap.SameBut a h h'):Ext n₀ F μ h F μ h' :=
 ⟨Le.refl _,fun _ _ x=>.inl x,fun b o _ hb x=>(hs.2 b (fun e=>hb (e ▸ List.mem_of_getElem? hi))).trans x,mu0⟩
end
end
section
structure Wh where
 n₀:Nat
 env:Env
 sc:List (Str × NameKind)
 oa:Nat→Addr
 tm:Addr→Option Obj
noncomputable def Wh.at (e:Wh) (oa:Nat→Addr):Wh:={ e with oa }
inductive Tg where
 | loc | cell | own (i:Nat) | tmp
def Is (e:Wh) (r:List LV):Tg→Addr→Prop
 | .loc,b=>b=e.env.locals
 | .cell,b=>∃ z,e.env.cells.lookup z=some b
 | .own i,b=>b=e.oa i∧∃ p,nth r i=some (.own p)
 | .tmp,b=>(e.tm b).isSome=true
def NameAt (B:Bs) (e:Wh) (F:Heap) (μ:List Addr) (h:Heap) (m:Str→Option Value) (i:Nat):LV→Prop
 | .un=>True
 | .v p=>∃ x k v,nth e.sc i=some (x,k)∧Rep B F μ v p∧((k=.local∧m x=some v) ∨ ((k=.cell ∨ k=.free)∧∃ c,e.env.cells.lookup x=some c∧h.IsCell c (some v)))
 | .own p=>∃ x,nth e.sc i=some (x,.local)∧m x=some (.ref (e.oa i))∧Con B F μ h (e.oa i) p∧e.n₀≤e.oa i
structure ScOk (e:Wh):Prop where
 kind:e.env.scope.kind=.function
 names:∀ i x k,nth e.sc i=some (x,k)→e.env.kindOf x=some k ∨ (k=.free∧e.env.kindOf x=some .cell)
 dbg:∀ i x k,nth e.sc i=some (x,k)→(x == "__debug__" || x == "__classdict__")=false
 inj:∀ i j x k k',nth e.sc i=some (x,k)→nth e.sc j=some (x,k')→i=j
 glb:e.env.globals=mainGlobals
 bi:e.env.builtins=builtinsNs∧sysModules < e.n₀
 L0:e.n₀≤e.env.locals
 cinj:∀ i x y c,nth e.sc i=some (x,.cell)→e.env.cells.lookup x=some c→e.env.cells.lookup y=some c→x=y
structure FR (B:Bs) (e:Wh) (F:Heap) (μ:List Addr) (r:List LV) (h:Heap):Prop where
 sc:ScOk e
 cell:∀ i x,nth e.sc i=some (x,.cell)→∃ c v,e.env.cells.lookup x=some c∧h.IsCell c v∧e.n₀≤c
 ap:∀ t b,Is e r t b→(∃ o,h.get? b=some o)∧F.get? b=none∧b ∉ μ
 dj:∀ t t' b,Is e r t b→Is e r t' b→t=t'
 ns:∃ m,h.Ns e.env.locals m∧∀ i y,nth r i=some y→NameAt B e F μ h m i y
 tmp:∀ a o,e.tm a=some o→h.get? a=some o
structure SR (B:Bs) (e:Wh) (F:Heap) (μ:List Addr) (st:St) (h:Heap):Prop where
 ss:SS B F μ st.s h
 fr:FR B e F μ st.r h
section
variable {B:Bs} {e:Wh} {F F' h h':Heap} {μ μ':List Addr} {n₁:Nat} {st:St} {r:List LV} {m m':Str→Option Value} {i:Nat} {y:LV}
theorem ScOk.kindOf (s:ScOk e) {x:Str} {k:NameKind} (q:nth e.sc i=some (x,k)) (hk:k ≠ .free:=by decide):e.env.kindOf x=some k:=(s.names i x k q).elim id fun q=>absurd q.1 hk
theorem NameAt.tr (x:NameAt B e F μ h m i y) (hy:nth r i=some y) (fm:Le F F') (pr:Pre μ μ') (km:∀ x k,nth e.sc i=some (x,k)→m' x=m x)
  (kc:∀ b,(∃ x k,nth e.sc i=some (x,k)∧e.env.cells.lookup x=some b) ∨ Is e r (.own i) b→∀ o,h.get? b=some o→h'.get? b=some o):NameAt B e F' μ' h' m' i y:=by
 cases y with
 | un=>trivial
 | v p =>
  obtain ⟨x,k,v,a,b,c⟩:=x
  exact ⟨x,k,v,a,b.mono fm pr,c.imp (fun c=>⟨c.1,(km _ _ a).trans c.2⟩) fun z1_=>by obtain ⟨c,d,l,o,ho,hd⟩:=z1_;exact ⟨c,d,l,o,kc d (.inl ⟨x,k,a,l⟩) o ho,hd⟩⟩
 | own p =>
  obtain ⟨x,a,b,c,d⟩:=x
  exact ⟨x,a,(km _ _ a).trans b,c.mono fm pr (kc _ (.inr ⟨rfl,p,hy⟩)),d⟩
theorem FR.step (f:FR B e F μ r h) (fm:Le F F') (pr:Pre μ μ')
  (k:∀ t b,Is e r t b→(∃ o,h.get? b=some o)→F.get? b=none→b ∉ μ→(∀ o,h.get? b=some o→h'.get? b=some o)∧F'.get? b=none∧b ∉ μ'):FR B e F' μ' r h':=by
 have k (t:Tg) (b:Addr) (x:Is e r t b):=let a:=f.ap t b x;k t b x a.1 a.2.1 a.2.2
 refine ⟨f.sc,fun i x q=>?_,fun t b x=>⟨by obtain ⟨o,q⟩:=(f.ap t b x).1;exact ⟨o,(k t b x).1 o q⟩,(k t b x).2⟩,f.dj,?_,fun a o q=>(k .tmp a (by show (e.tm a).isSome=true;rw [q];rfl)).1 o (f.tmp a o q)⟩
 ·obtain ⟨c,v,a,⟨o,ho,d⟩,b⟩:=f.cell i x q
  exact ⟨c,v,a,⟨o,(k .cell c ⟨x,a⟩).1 o ho,d⟩,b⟩
 ·obtain ⟨m,a,b⟩:=f.ns
  exact ⟨m,ns_at a (k .loc _ rfl).1,fun i y q=>(b i y q).tr q fm pr (fun _ _ _=>rfl) fun b x=>x.elim (fun z2_=>by obtain ⟨x,_,_,l⟩:=z2_;exact (k .cell b ⟨x,l⟩).1) fun x=>(k _ b x).1⟩
theorem FR.keep (f:FR B e F μ r h) (X:Ext n₁ F μ h F' μ' h') (l:h.objs.size≤n₁):FR B e F' μ' r h' :=
 f.step X.fm X.pre fun t b _ ⟨o,ho⟩ hF hm =>
  have hl:=Nat.lt_of_lt_of_le (Heap.lt_size ho) l
  ⟨fun o=>X.pres b o hl hm,none_of fun o q=>(X.nf b o q).elim (fun q=>nomatch hF.symm.trans q) fun q=>absurd q (Nat.not_le.mpr hl),
   by obtain ⟨δ,e,hδ⟩:=X.mu;exact e ▸ fun q=>(List.mem_append.mp q).elim hm fun q=>absurd (hδ _ q) (Nat.not_le.mpr hl)⟩
theorem SR.keep (s:SR B e F μ st h) {σ':List PV} (X:Ext n₁ F μ h F' μ' h') (l:h.objs.size≤n₁) (ss:SS B F' μ' σ' h'):SR B e F' μ' ⟨st.r,σ'⟩ h':=⟨ss,s.fr.keep X l⟩
theorem SR.n₀ (s:SR B e F μ st h):e.n₀≤h.objs.size:=by obtain ⟨_,q⟩:=(s.fr.ap .loc _ rfl).1;exact Nat.le_trans s.fr.sc.L0 (Nat.le_of_lt (Heap.lt_size q))
theorem SR.sys (s:SR B e F μ st h) {a:Addr} (l:e.n₀≤a):(a == sysModules)=false:=beq_eq_false_iff_ne.mpr (Nat.ne_of_gt (Nat.lt_of_lt_of_le s.fr.sc.bi.2 l))
def Nw (e:Wh) (r:List LV) (F:Heap) (μ:List Addr) (a:Addr):Prop:=F.get? a=none∧a ∉ μ∧e.n₀≤a∧∀ t,¬ Is e r t a
end
structure Grown (s s':Shared):Prop where
 le:Le s.heap s'.heap
 gens:s'.gens=s.gens
 os:s'.os=s.os
theorem push_le (h:Heap) (o:Obj):h.objs.size≤(h.push o).objs.size:=by rw [Heap.size_push];exact Nat.le_succ _
theorem Grown.refl (s:Shared):Grown s s:=⟨Le.refl _,rfl,rfl⟩
theorem Grown.toks (s:Shared) (t:Nat):Grown s { s with toks:=t }:=⟨Le.refl _,rfl,rfl⟩
theorem Grown.push (s:Shared) (o:Obj):Grown s { s with heap:=s.heap.push o }:=⟨Le.push _ _,rfl,rfl⟩
theorem Grown.trans {a b c:Shared} (x:Grown a b) (y:Grown b c):Grown a c:=⟨x.le.trans y.le,y.gens.trans x.gens,y.os.trans x.os⟩
theorem Grown.ext {s s':Shared} (g:Grown s s') {n:Nat} {F:Heap} {μ:List Addr}:Ext n F μ s.heap F μ s'.heap:=Ext.grow g.le
def Pst (n₀:Nat) (F:Heap) (μ:List Addr) (s₀:Shared) {α:Type} (G:Heap→List Addr→α→Heap→Prop) (v:α) (s':Shared):Prop :=
 ∃ F' μ',Ext n₀ F μ s₀.heap F' μ' s'.heap∧(s'.gens=s₀.gens∧s'.os=s₀.os)∧G F' μ' v s'.heap
def GE (B:Bs) (e:Wh) (K:PV→St→Prop) (F:Heap) (μ:List Addr) (v:Value) (h:Heap):Prop:=∃ x st,K x st∧SR B e F μ st h∧Rep B F μ v x
def GN (B:Bs) (e:Wh) (K:PV→St→Prop) (F:Heap) (μ:List Addr) (v:Value) (h:Heap):Prop:=∃ x st,K x st∧SR B e F μ st h∧∃ a,v=.ref a∧Con B F μ h a x∧Nw e st.r F μ a
def GL (B:Bs) (e:Wh) (K:List PV→St→Prop) (F:Heap) (μ:List Addr) (v:List Value) (h:Heap):Prop:=∃ x st,K x st∧SR B e F μ st h∧RepL B F μ v x
def GB (B:Bs) (e:Wh) (K:Bool→St→Prop) (F:Heap) (μ:List Addr) (v:Bool) (h:Heap):Prop:=∃ st,K v st∧SR B e F μ st h
def GS (B:Bs) (e:Wh) (K:St→Prop) (F:Heap) (μ:List Addr) (_:Unit) (h:Heap):Prop:=∃ st oa,K st∧SR B (e.at oa) F μ st h
section
variable {α β:Type} {B:Bs} {e:Wh} {F F' F₁:Heap} {μ μ' μ₁:List Addr} {st:St} {s s' s₁:Shared} {A:Around} {M:Model} {n₀:Nat} {G:Heap→List Addr→α→Heap→Prop} {G':Heap→List Addr→β→Heap→Prop} {K:PV→St→Prop}
theorem SR.grown (r:SR B e F μ st s.heap) (g:Grown s s'):SR B e F μ st s'.heap:=r.keep (n₁:=s.heap.objs.size) g.ext (Nat.le_refl _) (r.ss.grow g.le)
theorem Pst.grown {v:α} (g:Grown s s') (p:G F μ v s'.heap):Pst n₀ F μ s G v s':=⟨F,μ,g.ext,⟨g.gens,g.os⟩,p⟩
theorem Pst.bind {v:β} (x:Ext n₀ F μ s.heap F₁ μ₁ s₁.heap) (g:s₁.gens=s.gens∧s₁.os=s.os) (y:Pst n₀ F₁ μ₁ s₁ G' v s'):Pst n₀ F μ s G' v s' :=
 by obtain ⟨F',μ',a,b,c⟩:=y;exact ⟨F',μ',x.trans a,⟨b.1.trans g.1,b.2.trans g.2⟩,c⟩
theorem p_bind {m:Sem α} {f:α→Sem β} (h:wpX M A m (Pst n₀ F μ s G) s)
  (k:∀ F₁ μ₁ v s₁,Ext n₀ F μ s.heap F₁ μ₁ s₁.heap→G F₁ μ₁ v s₁.heap→wpX M A (f v) (Pst n₀ F₁ μ₁ s₁ G') s₁):wpX M A (m >>= f) (Pst n₀ F μ s G') s :=
 Xb_ (Xm_ h fun v s₁ z3_=>by obtain ⟨F₁,μ₁,X,g,p⟩:=z3_;exact Xm_ (k F₁ μ₁ v s₁ X p) fun w s₂ y=>Pst.bind X g y)
theorem p_then {G':Heap→List Addr→α→Heap→Prop} {m:Sem α} (h:wpX M A m (Pst n₀ F μ s G) s) (k:∀ F₁ μ₁ v s₁,Ext n₀ F μ s.heap F₁ μ₁ s₁.heap→G F₁ μ₁ v s₁.heap→Pst n₀ F₁ μ₁ s₁ G' v s₁):wpX M A m (Pst n₀ F μ s G') s :=
 Xm_ h fun v s₁ z4_=>by obtain ⟨F₁,μ₁,X,g,p⟩:=z4_;exact Pst.bind X g (k F₁ μ₁ v s₁ X p)
theorem p_pure {v:α} (p:G F μ v s.heap):wpX M A (pure v) (Pst n₀ F μ s G) s:=Xp_ (.grown (.refl s) p)
theorem p_grown {m:Sem α} (g:Grown s s') (h:wpX M A m (Pst n₀ F μ s' G) s'):wpX M A m (Pst n₀ F μ s G) s':=Xm_ h fun _ _ y=>Pst.bind g.ext ⟨g.gens,g.os⟩ y
theorem pE {m:Sem Value} {f:Value→Sem β} (h:wpX M A m (Pst n₀ F μ s (GE B e K)) s)
  (k:∀ F₁ μ₁ v s₁ x st₁,Ext n₀ F μ s.heap F₁ μ₁ s₁.heap→K x st₁→SR B e F₁ μ₁ st₁ s₁.heap→Rep B F₁ μ₁ v x→wpX M A (f v) (Pst n₀ F₁ μ₁ s₁ G') s₁):wpX M A (m >>= f) (Pst n₀ F μ s G') s :=
 p_bind h fun F₁ μ₁ v s₁ X z5_=>by obtain ⟨x,st₁,a,b,c⟩:=z5_;exact k F₁ μ₁ v s₁ x st₁ X a b c
theorem pL {K:List PV→St→Prop} {m:Sem (List Value)} {f:List Value→Sem β} (h:wpX M A m (Pst n₀ F μ s (GL B e K)) s)
  (k:∀ F₁ μ₁ v s₁ x st₁,Ext n₀ F μ s.heap F₁ μ₁ s₁.heap→K x st₁→SR B e F₁ μ₁ st₁ s₁.heap→RepL B F₁ μ₁ v x→wpX M A (f v) (Pst n₀ F₁ μ₁ s₁ G') s₁):wpX M A (m >>= f) (Pst n₀ F μ s G') s :=
 p_bind h fun F₁ μ₁ v s₁ X z6_=>by obtain ⟨x,st₁,a,b,c⟩:=z6_;exact k F₁ μ₁ v s₁ x st₁ X a b c
theorem pB {K:Bool→St→Prop} {m:Sem Bool} {f:Bool→Sem β} (h:wpX M A m (Pst n₀ F μ s (GB B e K)) s)
  (k:∀ F₁ μ₁ v s₁ st₁,Ext n₀ F μ s.heap F₁ μ₁ s₁.heap→K v st₁→SR B e F₁ μ₁ st₁ s₁.heap→wpX M A (f v) (Pst n₀ F₁ μ₁ s₁ G') s₁):wpX M A (m >>= f) (Pst n₀ F μ s G') s :=
 p_bind h fun F₁ μ₁ v s₁ X z7_=>by obtain ⟨st₁,a,b⟩:=z7_;exact k F₁ μ₁ v s₁ st₁ X a b
theorem pv_ (r:SR B e F μ st s.heap) (g:Grown s s') {v:Value} {x:PV} (k:K x st) (p:Rep B F μ v x):Pst n₀ F μ s (GE B e K) v s':=.grown g ⟨x,st,k,r.grown g,p⟩
theorem SS.lt {σ:List PV} {h:Heap} (s:SS B F μ σ h) {a:Addr} (m:a ∈ μ):a < h.objs.size:=by
 obtain ⟨i,hi⟩:=List.mem_iff_getElem?.mp m
 have:i < σ.length:=s.len ▸ (List.getElem?_eq_some_iff.mp hi).1
 exact (s.obj i a _ hi (List.getElem?_eq_getElem this)).lt
theorem SR.nw {h:Heap} (r:SR B e F μ st h) {a:Addr} (l:h.objs.size≤a):Nw e st.r F μ a :=
 ⟨none_of fun o q=>absurd (Heap.lt_size (r.ss.sub _ _ q)) (Nat.not_lt.mpr l),fun m=>absurd (r.ss.lt m) (Nat.not_lt.mpr l),Nat.le_trans r.n₀ l,fun t x=>by obtain ⟨_,q⟩:=(r.fr.ap t a x).1;exact absurd (Heap.lt_size q) (Nat.not_lt.mpr l)⟩
theorem pn_ (r:SR B e F μ st s.heap) (g:Grown s s') {a:Addr} {x:PV} (k:K x st) (c:Con B F μ s'.heap a x) (l:s.heap.objs.size≤a):Pst n₀ F μ s (GN B e K) (.ref a) s' :=
 .grown g ⟨x,st,k,r.grown g,a,rfl,c,r.nw l⟩
theorem SR.freezeO {a:Addr} {o:Obj} {h:Heap} (r:SR B e F μ st h) (ho:h.get? a=some o) (n:Nw e st.r F μ a) :
  ∃ F',Le F F'∧SR B e F' μ st h∧Ext e.n₀ F μ h F' μ h∧F'.get? a=some o∧∀ b o,F'.get? b=some o→F.get? b=some o ∨ b=a :=
 by obtain ⟨F',f1,f2,f3,f4,f5⟩:=r.ss.freezeO (n₀:=e.n₀) ho n.2.1 n.2.2.1;exact ⟨F',f1,⟨f2,r.fr.step f1 (Pre.refl _) fun t b hb _ hF hm=>⟨fun _=>id,none_of fun o q=>(f5 b o q).elim (fun q=>nomatch hF.symm.trans q) fun q=>n.2.2.2 t (q ▸ hb),hm⟩⟩,f3,f4,f5⟩
theorem SR.freeze {a:Addr} {x:PV} {h:Heap} (r:SR B e F μ st h) (c:Con B F μ h a x) (n:Nw e st.r F μ a) :
  ∃ F',SR B e F' μ st h∧Ext e.n₀ F μ h F' μ h∧Rep B F' μ (.ref a) (fzP x) :=
 by obtain ⟨o,ho⟩:=c.ex;obtain ⟨F',f1,f2,f3,f4,_⟩:=r.freezeO ho n;exact ⟨F',f2,f3,c.rep f1 fun o' q=>f4.trans (ho.symm.trans q)⟩
theorem p_fz {m:Sem Value} (h:wpX M A m (Pst e.n₀ F μ s (GN B e fun x st=>K (fzP x) st)) s):wpX M A m (Pst e.n₀ F μ s (GE B e K)) s :=
 p_then h fun F₁ μ₁ v s₁ X z8_=>by obtain ⟨x,st,k,r,a,q,c,n⟩:=z8_;obtain ⟨F',f,g,p⟩:=r.freeze c n;exact ⟨F',μ₁,g,⟨rfl,rfl⟩,_,st,k,f,q ▸ p⟩
theorem pf_ (r:SR B e F μ st s.heap) (g:Grown s s') {a:Addr} {x:PV} (k:K (fzP x) st) (c:Con B F μ s'.heap a x) (l:s.heap.objs.size≤a):Pst e.n₀ F μ s (GE B e K) (.ref a) s' :=
 by obtain ⟨F',f,q,p⟩:=(r.grown g).freeze c (r.nw l);exact ⟨F',μ,g.ext.trans q,⟨g.gens,g.os⟩,_,st,k,f,p⟩
theorem p_th {m:Sem Value} (h:wpX M A m (Pst e.n₀ F μ s (GN B e fun x st=>K (.ref st.s.length) ⟨st.r,st.s ++ [x]⟩)) s):wpX M A m (Pst e.n₀ F μ s (GE B e K)) s :=
 p_then h fun F₁ μ₁ v s₁ X z_=>by
  obtain ⟨x,st,k,r,a,q,c,n1,n2,n3,n4⟩:=z_
  obtain ⟨f2,f3,f4⟩:=r.ss.thaw (n₀:=e.n₀) c n2 n1 n3
  exact ⟨F₁,_,f3,⟨rfl,rfl⟩,_,_,k,⟨f2,r.fr.step (Le.refl _) ⟨_,rfl⟩ fun t b hb _ hF hm=>⟨fun _=>id,hF,fun q=>(List.mem_append.mp q).elim hm fun q=>n4 t (List.mem_singleton.mp q ▸ hb)⟩⟩,a,q,f4⟩
theorem SR.put {i:Nat} {a:Addr} {x:PV} {h h':Heap} (r:SR B e F μ st h) (hi:μ[i]?=some a) (hs:Heap.SameBut a h h') (c:Con B F μ h' a x):SR B e F μ ⟨st.r,st.s.set i x⟩ h' :=
 ⟨r.ss.put hi hs c,r.fr.step (Le.refl _) (Pre.refl _) fun t b hb _ hF hm=>⟨fun o x=>(hs.2 b (fun q=>hm (q ▸ List.mem_of_getElem? hi))).trans x,hF,hm⟩⟩
theorem nth_st1:∀ {α:Type} {r:List α} {i j:Nat} {y z:α},nth (st1 r i y) j=some z→(j=i∧z=y∧∃ u,nth r i=some u) ∨ (j ≠ i∧nth r j=some z)
 | _,_ :: _,0,0,_,_,h=>.inl ⟨rfl,(Option.some.inj h).symm,_,rfl⟩
 | _,_ :: _,0,_+1,_,_,h=>.inr ⟨Nat.succ_ne_zero _,h⟩
 | _,_ :: _,_+1,0,_,_,h=>.inr ⟨(Nat.succ_ne_zero _).symm,h⟩
 | _,_ :: r,i+1,j+1,_,_,h=>(nth_st1 (r:=r) h).imp (fun z9_=>by obtain ⟨a,b⟩:=z9_;exact ⟨congrArg _ a,b⟩) fun z10_=>by obtain ⟨a,b⟩:=z10_;exact ⟨fun q=>a (Nat.succ.inj q),b⟩
theorem SS.off {σ:List PV} {h h':Heap} (ss:SS B F μ σ h) {a:Addr} (hs:Heap.SameBut a h h') (hF:F.get? a=none) (hμ:a ∉ μ):SS B F μ σ h' :=
 ⟨ss.base,fun b o q=>(hs.2 b fun (e:b=a)=>by subst e;rw [hF] at q;cases q).trans (ss.sub _ _ q),ss.len,
  fun i b x hb hx=>(ss.obj i b x hb hx).mono (Le.refl _) (Pre.refl _) fun o q=>(hs.2 b fun e=>hμ (e ▸ List.mem_of_getElem? hb)).trans q,ss.free,ss.nd⟩
theorem Ext.off {n₀:Nat} {a:Addr} {h h':Heap} (hs:Heap.SameBut a h h') (l:n₀≤a):Ext n₀ F μ h F μ h' :=
 ⟨Le.refl _,fun _ _ x=>.inl x,fun b o hb _ x=>(hs.2 b fun q=>absurd l (Nat.not_le.mpr (q ▸ hb))).trans x,mu0⟩
theorem SR.upd {h h':Heap} {oa:Nat→Addr} {r:List LV} {a:Addr} {t:Tg} (f:SR B e F μ st h) (ha:Is e st.r t a) (l:e.n₀≤a) (ht:t ≠ .tmp) (hs:Heap.SameBut a h h') (hx:∃ o,h'.get? a=some o)
  (kc:t=.cell→∃ v,h'.IsCell a v) (ap:∀ t b,Is (e.at oa) r t b→Is e st.r t b ∨ (∃ o,h.get? b=some o)∧F.get? b=none∧b ∉ μ) (dj:∀ t t' b,Is (e.at oa) r t b→Is (e.at oa) r t' b→t=t')
  (ns:∃ m,h'.Ns e.env.locals m∧∀ i y,nth r i=some y→NameAt B (e.at oa) F μ h' m i y):SR B (e.at oa) F μ ⟨r,st.s⟩ h'∧Ext e.n₀ F μ h F μ h':=by
 have A:=f.fr.ap t a ha
 have up {b:Addr} (x:∃ o,h.get? b=some o):∃ o,h'.get? b=some o:=by
  by_cases q:b=a
  ·exact q ▸ hx
  ·obtain ⟨o,y⟩:=x;exact ⟨o,(hs.2 b q).trans y⟩
 refine ⟨⟨f.ss.off hs A.2.1 A.2.2,⟨⟨f.fr.sc.kind,f.fr.sc.names,f.fr.sc.dbg,f.fr.sc.inj,f.fr.sc.glb,f.fr.sc.bi,f.fr.sc.L0,f.fr.sc.cinj⟩,fun i x q=>?_,fun t b x=>?_,dj,ns,fun b o q=>(hs.2 b fun q'=>ht ?_).trans (f.fr.tmp b o q)⟩⟩,.off hs l⟩
 ·obtain ⟨c,v,c1,c2,c3⟩:=f.fr.cell i x q
  by_cases hc:c=a
  ·subst hc;obtain ⟨v,y⟩:=kc (f.fr.dj _ _ _ ha ⟨x,c1⟩);exact ⟨_,v,c1,y,c3⟩
  ·exact ⟨c,v,c1,c2.sameBut hs hc,c3⟩
 ·exact (ap t b x).elim (fun x=>let y:=f.fr.ap t b x;⟨up y.1,y.2⟩) fun y=>⟨up y.1,y.2⟩
 ·subst q';exact f.fr.dj _ _ _ ha (show (e.tm b).isSome=true by rw [show e.tm b=some o from q];rfl)
theorem is_v {r:List LV} {i:Nat} {x:PV} {t:Tg} {b:Addr} (h:Is e (st1 r i (.v x)) t b):Is e r t b:=by
 cases t with
 | own j =>
  obtain ⟨h,p,q⟩:=h
  rcases nth_st1 q with ⟨_,q,_⟩ | ⟨_,q⟩
  ·cases q
  ·exact ⟨h,p,q⟩
 | _=>exact h
theorem store_v {v:Value} {i:Nat} {x:Str} {k:NameKind} {p:PV} {Q:St→Prop} (r:SR B e F μ st s.heap) (ha:Rep B F μ v p) (hi:nth e.sc i=some (x,k)) (hk:k=.local ∨ k=.cell) (hQ:Q ⟨st1 st.r i (.v p),st.s⟩) :
  wpX (model prg B.w) A (storeName e.env x v) (Pst e.n₀ F μ s (GS B e Q)) s:=by
 obtain ⟨m,hn,hm⟩:=r.fr.ns
 have other {j:Nat} (hj:j ≠ i) {y:Str} {k':NameKind} (q:nth e.sc j=some (y,k')):y ≠ x:=fun e=>hj (r.fr.sc.inj _ _ _ _ _ (e ▸ q) hi)
 rcases hk with rfl | rfl
 ·refine Xa_ (wpAny_storeName_local (r.fr.sc.kindOf hi) hn (fun h' hn' hs=>?_) (by rw [r.fr.sc.kind];rfl))
  have U:=r.upd (oa:=e.oa) (r:=st1 st.r i (.v p)) (t:=.loc) rfl r.fr.sc.L0 (nofun) hs (by obtain ⟨o,_,_,q,_⟩:=hn';exact ⟨o,q⟩) nofun (fun t b x=>.inl (is_v x)) (fun t t' b x y=>r.fr.dj t t' b (is_v x) (is_v y)) ⟨_,hn',fun j y q=>?_⟩
  ·exact ⟨F,μ,U.2,⟨rfl,rfl⟩,_,e.oa,hQ,U.1⟩
  ·rcases nth_st1 q with ⟨rfl,rfl,_⟩ | ⟨hj,q⟩
   ·exact ⟨x,_,v,hi,ha,.inl ⟨rfl,if_pos rfl⟩⟩
   ·exact (hm j y q).tr q (Le.refl _) (Pre.refl _) (fun y k' q=>if_neg (other hj q)) fun b z o=>(hs.2 b fun e'=>by subst e';exact z.elim (fun z11_=>by obtain ⟨z,_,_,l⟩:=z11_;exact nomatch r.fr.dj .loc .cell _ rfl ⟨z,l⟩) fun z=>nomatch r.fr.dj .loc _ _ rfl z).trans
 ·obtain ⟨c,v₀,h1,h2,h6⟩:=r.fr.cell i x hi
  refine Xa_ (wpAny_storeName_cell r.fr.sc.kind (r.fr.sc.kindOf hi) h1 h2 fun h' hc' hs=>?_)
  have ne:e.env.locals ≠ c:=fun q=>nomatch r.fr.dj .loc .cell c q.symm ⟨x,h1⟩
  have U:=r.upd (oa:=e.oa) (r:=st1 st.r i (.v p)) (t:=.cell) ⟨x,h1⟩ h6 (nofun) hs (by obtain ⟨o,q,_⟩:=hc';exact ⟨o,q⟩) (fun _=>⟨_,hc'⟩) (fun t b x=>.inl (is_v x)) (fun t t' b x y=>r.fr.dj t t' b (is_v x) (is_v y)) ⟨m,hn.sameBut hs ne,fun j y q=>?_⟩
  ·exact ⟨F,μ,U.2,⟨rfl,rfl⟩,_,e.oa,hQ,U.1⟩
  ·rcases nth_st1 q with ⟨rfl,rfl,_⟩ | ⟨hj,q⟩
   ·exact ⟨x,_,v,hi,ha,.inr ⟨.inl rfl,c,h1,hc'⟩⟩
   ·exact (hm j y q).tr q (Le.refl _) (Pre.refl _) (fun _ _ _=>rfl) fun b z o=>(hs.2 b fun e'=>by subst e';exact z.elim (fun z12_=>by obtain ⟨z,_,u,l⟩:=z12_;exact other hj u (r.fr.sc.cinj _ _ _ _ hi h1 l).symm) fun z=>nomatch r.fr.dj .cell _ _ ⟨x,h1⟩ z).trans
theorem store_own {a:Addr} {i:Nat} {x:Str} {p:PV} {Q:St→Prop} (r:SR B e F μ st s.heap) (c:Con B F μ s.heap a p) (n:Nw e st.r F μ a) (hi:nth e.sc i=some (x,.local)) (hQ:Q ⟨st1 st.r i (.own p),st.s⟩) :
  wpX (model prg B.w) A (storeName e.env x (.ref a)) (Pst e.n₀ F μ s (GS B e Q)) s:=by
 obtain ⟨n1,n2,n3,n4⟩:=n
 obtain ⟨m,hn,hm⟩:=r.fr.ns
 let oa:Nat→Addr:=fun j=>if j=i then a else e.oa j
 have o1:oa i=a:=if_pos rfl
 have o2 {j:Nat} (q:j ≠ i):oa j=e.oa j:=if_neg q
 have ne1:a ≠ e.env.locals:=fun q=>n4 .loc q
 have is {t:Tg} {b:Addr} (h:Is (e.at oa) (st1 st.r i (.own p)) t b):(t=.own i∧b=a) ∨ (t ≠ .own i∧Is e st.r t b):=by
  cases t with
  | own j =>
   obtain ⟨h,p,q⟩:=h
   rcases nth_st1 q with ⟨rfl,q,_⟩ | ⟨hj,q⟩
   ·exact .inl ⟨rfl,h.trans o1⟩
   ·exact .inr ⟨fun e=>hj (Tg.own.inj e),h.trans (o2 hj),p,q⟩
  | _=>exact .inr ⟨nofun,h⟩
 refine Xa_ (wpAny_storeName_local (r.fr.sc.kindOf hi) hn (fun h' hn' hs=>?_) (by rw [r.fr.sc.kind];rfl))
 have U:=r.upd (oa:=oa) (r:=st1 st.r i (.own p)) (t:=.loc) rfl r.fr.sc.L0 (nofun) hs (by obtain ⟨o,_,_,q,_⟩:=hn';exact ⟨o,q⟩) nofun (fun t b x=>(is x).elim (fun z13_=>by obtain ⟨_,q⟩:=z13_;exact .inr ⟨q ▸ c.ex,q ▸ n1,q ▸ n2⟩) fun y=>.inl y.2)
  (fun t t' b x y=>(is x).elim (fun z14_=>by obtain ⟨q,q'⟩:=z14_;exact (is y).elim (fun z=>q.trans z.1.symm) fun z=>absurd (q' ▸ z.2) (n4 t')) fun q=>(is y).elim (fun z=>absurd (z.2 ▸ q.2) (n4 t)) fun z=>r.fr.dj t t' b q.2 z.2) ⟨_,hn',fun j y q=>?_⟩
 ·exact ⟨F,μ,U.2,⟨rfl,rfl⟩,_,oa,hQ,U.1⟩
 ·rcases nth_st1 q with ⟨rfl,rfl,_⟩ | ⟨hj,q⟩
  ·exact ⟨x,hi,(if_pos rfl).trans (congrArg (fun z=>some (Value.ref z)) o1.symm),by show Con B F μ h' (oa j) p;rw [o1];exact c.mono (Le.refl _) (Pre.refl _) fun o q=>(hs.2 _ ne1).trans q,by show e.n₀≤oa j;rw [o1];exact n3⟩
  ·have y1:=(hm j y q).tr (h':=h') q (Le.refl _) (Pre.refl _) (m':=fun z=>if z=x then some (.ref a) else m z) (fun y k' q=>if_neg fun (e:y=x)=>hj (r.fr.sc.inj _ _ _ _ _ (e ▸ q) hi)) fun b z o=>(hs.2 b fun e'=>by subst e';exact z.elim (fun z15_=>by obtain ⟨z,_,_,l⟩:=z15_;exact nomatch r.fr.dj .loc .cell _ rfl ⟨z,l⟩) fun z=>nomatch r.fr.dj .loc _ _ rfl z).trans
   cases y with
   | own p'=>obtain ⟨z,b1,b2,b3,b4⟩:=y1;exact ⟨z,b1,by show _=some (Value.ref (oa j));rw [o2 hj];exact b2,by show Con B F μ h' (oa j) p';rw [o2 hj];exact b3,by show e.n₀≤oa j;rw [o2 hj];exact b4⟩
   | _=>exact y1
theorem SR.frz {h:Heap} {i:Nat} {y:PV} (r:SR B e F μ st h) (hx:nth st.r i=some (.own y)):∃ F',Ext e.n₀ F μ h F' μ h∧SR B e F' μ ⟨st1 st.r i (.v (fzP y)),st.s⟩ h∧Rep B F' μ (.ref (e.oa i)) (fzP y):=by
 obtain ⟨m,hn,hm⟩:=r.fr.ns
 obtain ⟨x,k1,k2,k3,k4⟩:=hm i _ hx
 obtain ⟨o,ho⟩:=k3.ex
 have is:Is e st.r (.own i) (e.oa i):=⟨rfl,y,hx⟩
 obtain ⟨F',f1,f2,f3,f4,f5⟩:=r.ss.freezeO (n₀:=e.n₀) ho (r.fr.ap _ _ is).2.2 k4
 have q:=k3.rep f1 fun o' z=>f4.trans (ho.symm.trans z)
 refine ⟨F',f3,⟨f2,⟨r.fr.sc,r.fr.cell,fun t b z=>?_,fun t t' b z z'=>r.fr.dj t t' b (is_v z) (is_v z'),⟨m,hn,fun j w z=>?_⟩,r.fr.tmp⟩⟩,q⟩
 ·have z':=r.fr.ap t b (is_v z)
  refine ⟨z'.1,none_of fun o' u=>(f5 b o' u).elim (fun u=>nomatch z'.2.1.symm.trans u) fun u=>?_,z'.2.2⟩
  subst u
  obtain rfl:=r.fr.dj _ _ _ is (is_v z)
  obtain ⟨_,p,z⟩:=z
  rcases nth_st1 z with ⟨_,z,_⟩ | ⟨z,_⟩
  ·cases z
  ·exact z rfl
 ·rcases nth_st1 z with ⟨rfl,rfl,_⟩ | ⟨hj,z⟩
  ·exact ⟨x,_,_,k1,q,.inl ⟨rfl,k2⟩⟩
  ·exact (hm j w z).tr z f1 (Pre.refl _) (fun _ _ _=>rfl) fun _ _ _=>id
theorem SR.ownPut {h h':Heap} {i:Nat} {y z:PV} (r:SR B e F μ st h) (hx:nth st.r i=some (.own y)) (hs:Heap.SameBut (e.oa i) h h') (c:Con B F μ h' (e.oa i) z):SR B e F μ ⟨st1 st.r i (.own z),st.s⟩ h'∧Ext e.n₀ F μ h F μ h':=by
 obtain ⟨m,hn,hm⟩:=r.fr.ns
 obtain ⟨x,k1,k2,k3,k4⟩:=hm i _ hx
 have is:Is e st.r (.own i) (e.oa i):=⟨rfl,y,hx⟩
 have sub {t:Tg} {b:Addr} (h:Is e (st1 st.r i (.own z)) t b):Is e st.r t b:=by
  cases t with
  | own j =>
   obtain ⟨h,p,q⟩:=h
   rcases nth_st1 q with ⟨rfl,q,_⟩ | ⟨hj,q⟩
   ·exact ⟨h,y,hx⟩
   ·exact ⟨h,p,q⟩
  | _=>exact h
 refine r.upd (oa:=e.oa) (t:=.own i) is k4 (nofun) hs c.ex nofun (fun t b x=>.inl (sub x)) (fun t t' b x y=>r.fr.dj t t' b (sub x) (sub y)) ⟨m,hn.sameBut hs (fun q=>nomatch r.fr.dj .loc _ _ q.symm is),fun j w q=>?_⟩
 rcases nth_st1 q with ⟨rfl,rfl,_⟩ | ⟨hj,q⟩
 ·exact ⟨x,k1,k2,c,k4⟩
 ·exact (hm j w q).tr q (Le.refl _) (Pre.refl _) (fun _ _ _=>rfl) fun b u o=>(hs.2 b fun e'=>by
   subst e'
   exact u.elim (fun z16_=>by obtain ⟨u,_,_,l⟩:=z16_;exact nomatch r.fr.dj _ .cell _ is ⟨u,l⟩) fun u=>hj (Tg.own.inj (r.fr.dj _ _ _ u is))).trans
end
end
section
structure Rm (A:Around):Prop where
 hh:A.handled=none
 hu:A.units+40 < cLine
theorem gd_e {p P:Prop} [Decidable p] (h:gd p P):p∧P:=by
 unfold gd at h
 by_cases q:p
 ·rw [decide_eq_true q] at h;exact ⟨q,h⟩
 ·rw [decide_eq_false q] at h;exact h.elim
theorem gp_e {p P:Prop} (h:gp p P):p∧P:=by unfold gp at h;exact h
theorem br_e {b:Bool} {P Q:Prop} (h:br b P Q):(b=true→P)∧(b=false→Q):=by
 cases b
 ·exact ⟨(fun e=>nomatch e),fun _=>h⟩
 ·exact ⟨fun _=>h,(fun e=>nomatch e)⟩
theorem gs_e {σ:List PV} {i:Nat} {K:PV→Prop} (h:gs σ i K):∃ x,σ[i]?=some x∧K x:=by unfold gs at h;exact h
theorem asI_e {x:PV} {K:Int→Prop} (h:asI x K):∃ i,x=.int i∧K i:=by induction x using PV.casesOn <;> first | exact h.elim | exact ⟨_,rfl,h⟩
theorem asB_e {x:PV} {K:Bool→Prop} (h:asB x K):∃ i,x=.bool i∧K i:=by induction x using PV.casesOn <;> first | exact h.elim | exact ⟨_,rfl,h⟩
theorem asT_e {x:PV} {K:List PV→Prop} (h:asT x K):∃ i,x=.tup i∧K i:=by induction x using PV.casesOn <;> first | exact h.elim | exact ⟨_,rfl,h⟩
theorem asY_e {x:PV} {K:List Int→Prop} (h:asY x K):∃ i,x=.bytes i∧K i:=by induction x using PV.casesOn <;> first | exact h.elim | exact ⟨_,rfl,h⟩
theorem asIs_e:∀ {l:List PV} {K:List Int→Prop},asIs l K→∃ i,l=i.map .int∧K i
 | [],_,h=>⟨[],rfl,h⟩
 | _ :: _,_,h=>by obtain ⟨i,e,h⟩:=asI_e h;obtain ⟨l,e',h⟩:=asIs_e h;exact ⟨i :: l,by rw [e,e'];rfl,h⟩
theorem asIss_e:∀ {l:List PV} {K:List (List Int)→Prop},asIss l K→∃ i:List (List Int),l=i.map (fun l=>.tup (l.map .int))∧K i
 | [],_,h=>⟨[],rfl,h⟩
 | _ :: _,_,h=>by obtain ⟨i,e,h⟩:=asT_e h;obtain ⟨j,e1,h⟩:=asIs_e h;obtain ⟨l,e',h⟩:=asIss_e h;exact ⟨j :: l,by rw [e,e',e1];rfl,h⟩
section
variable {B:Bs} {e:Wh} {F:Heap} {μ:List Addr} {st:St} {s:Shared} {A:Around} {K:PV→St→Prop} {n₀:Nat}
theorem rc_con {h:Heap} {a:Addr} {x:PV} (c:Con B F μ h a x):RC B F μ h (.ref a) x:=by induction x using PV.casesOn <;> first | exact c.elim | exact ⟨a,rfl,c⟩
theorem rc_rep {h:Heap} {v:Value} {x:PV} (up:Le F h) (ha:Rep B F μ v x) (hx:∀ i,x ≠ .ref i):RC B F μ h v x:=by
 induction x using PV.casesOn <;> try exact ha
 case ref=>exact absurd rfl (hx _)
 case ba=>obtain ⟨q,e,a,i,r⟩:=ha;exact ⟨q,e,a,up _ _ i,r⟩
 case tup=>obtain ⟨q,e,a,i,r⟩:=ha;exact ⟨q,e,a,i.at (up _),r⟩
 case il=>obtain ⟨q,e,a,i,r⟩:=ha;exact ⟨q,e,a,i.at (up _),r⟩
 case lst=>obtain ⟨q,e,a,i,r⟩:=ha;exact ⟨q,e,a,i.at (up _),r⟩
 case rng=>obtain ⟨q,e,t,u,w,i,r⟩:=ha;exact ⟨q,e,t,u,w,up _ _ i,r⟩
 case idc=>obtain ⟨q,e,n,kvs,d,r⟩:=ha;exact ⟨q,e,n,kvs,dictOf_at d (up _),r⟩
 all_goals exact ha.elim
theorem drf_e {σ:List PV} {h:Heap} {v:Value} {x:PV} {K:PV→Prop} (ss:SS B F μ σ h) (ha:Rep B F μ v x) (k:drf σ x K):∃ y,K y∧RC B F μ h v y:=by
 by_cases hx:∃ i,x=.ref i
 ·obtain ⟨i,rfl⟩:=hx
  obtain ⟨p,rfl,hp⟩:=ha
  obtain ⟨y,hy,k⟩:=gs_e k
  exact ⟨y,k,rc_con (ss.obj _ _ _ hp hy)⟩
 ·have hx:∀ i,x ≠ .ref i:=fun i q=>hx ⟨i,q⟩
  refine ⟨x,?_,rc_rep ss.sub ha hx⟩
  induction x using PV.casesOn <;> first | exact absurd rfl (hx _) | exact k
theorem asL_e {σ:List PV} {h:Heap} {v:Value} {x:PV} {K:List Int→Prop} (ss:SS B F μ σ h) (ha:Rep B F μ v x) (k:asL σ x K):∃ l,K l∧RC B F μ h v (.il l):=by
 obtain ⟨y,k,r⟩:=drf_e ss ha k
 induction y using PV.casesOn <;> first | exact k.elim | exact ⟨_,k,r⟩
theorem RepL.length:∀ {l:List PV} {vs:List Value},RepL B F μ vs l→vs.length=l.length
 | [],_,h=>by rw [show _=[] from h];rfl
 | x :: l,_,⟨v,r,e,_,b⟩=>by rw [e,List.length_cons,List.length_cons,b.length]
theorem RepL.ints {xs:List Int} {vs:List Value}:IntsAre vs xs ↔ RepL B F μ vs (xs.map .int):=by
 induction xs generalizing vs with
 | nil=>exact ⟨fun h=>by cases h;rfl,fun h=>by rw [show vs=[] from h];exact .nil⟩
 | cons x xs ih=>exact ⟨fun h=>by cases h with | cons _ t r=>exact ⟨_,_,rfl,⟨t,rfl⟩,ih.mp r⟩,fun z1_=>by obtain ⟨v,r,rfl,⟨t,rfl⟩,b⟩:=z1_;exact .cons _ _ (ih.mpr b)⟩
theorem RepL.append:∀ {xs ys:List PV} {vs ws:List Value},RepL B F μ vs xs→RepL B F μ ws ys→RepL B F μ (vs ++ ws) (xs ++ ys)
 | [],_,_,_,h,k=>by rw [show _=[] from h];exact k
 | _ :: _,_,_,_,⟨v,r,e,a,b⟩,k=>⟨v,r ++ _,by rw [e];rfl,a,b.append k⟩
theorem RepL.drop:∀ {xs:List PV} {vs:List Value},RepL B F μ vs xs→∀ k:Nat,RepL B F μ (vs.drop k) (xs.drop k)
 | _,_,h,0=>h
 | [],_,h,_+1=>by rw [show _=[] from h];rfl
 | _ :: _,_,⟨v,r,e,a,b⟩,k+1=>by rw [e];exact b.drop k
theorem RepL.take:∀ {xs:List PV} {vs:List Value},RepL B F μ vs xs→∀ k:Nat,RepL B F μ (vs.take k) (xs.take k)
 | _,_,_,0=>rfl
 | [],_,h,_+1=>by rw [show _=[] from h];rfl
 | _ :: _,_,⟨v,r,e,a,b⟩,k+1=>by rw [e];exact ⟨v,_,rfl,a,b.take k⟩
theorem RepL.get:∀ {xs:List PV} {vs:List Value},RepL B F μ vs xs→∀ {i:Nat} {x:PV},xs[i]?=some x→∃ v,vs[i]?=some v∧Rep B F μ v x
 | [],_,_,_,_,q=>nomatch q
 | _ :: _,_,⟨v,r,e,a,b⟩,0,x,q=>by rw [e];cases q;exact ⟨v,rfl,a⟩
 | _ :: _,_,⟨v,r,e,a,b⟩,i+1,x,q=>by rw [e];exact b.get q
theorem int_ok (r:SR B e F μ st s.heap) {z:Int} (h:K (.int z) st):Pst n₀ F μ s (GE B e K) (.int z s.toks) { s with toks:=s.toks+1 }:=pv_ r (.toks s _) h ⟨_,rfl⟩
theorem bits_le_of {a:Int} {n:Nat} (h:a.natAbs < 2 ^ n):Builtin.Int.intBits a≤n:=by
 unfold Builtin.Int.intBits
 split
 ·exact Nat.zero_le _
 ·rename_i h0
  exact (Nat.log2_lt fun q=>h0 (by simpa using q)).mpr h
theorem binI_ok {op:Operator} {a b:Int} {t u:Tok} (r:SR B e F μ st s.heap) (h:binI op a b fun z=>K (.int z) st):wpX (model prg B.w) A (binaryOp op (.int a t) (.int b u)) (Pst n₀ F μ s (GE B e K)) s:=by
 refine Xa_ ?_
 induction op using Operator.casesOn <;> try exact h.elim
 case Add=>exact PyProof.Rows.add_int (int_ok r h)
 case Sub=>exact PyProof.Rows.sub_int (int_ok r h)
 case Mult =>
  obtain ⟨h1,h⟩:=gd_e h
  exact PyProof.Rows.mul_int (int_ok r h) (h1.elim (fun q=>.of_right (intBits_le q)) fun q=>.of_left (intBits_le q))
 case FloorDiv =>
  obtain ⟨⟨h1,h2⟩,h⟩:=gd_e h
  rw [← Int.fdiv_eq_ediv_of_nonneg _ (Int.le_of_lt h1)] at h
  have hn:b.natAbs ≠ 0:=fun q=>Int.ne_of_gt h1 (Int.natAbs_eq_zero.mp q)
  refine PyProof.Rows.floordiv_int (Int.ne_of_gt h1) (int_ok r h) (.inl (PyProof.noPylong_of_log2 (Nat.lt_of_lt_of_le ((Nat.log2_lt (k:=1000) hn).mpr ?_) (by decide))))
  have:((b.natAbs:Nat):Int)=b:=Int.natAbs_of_nonneg (Int.le_of_lt h1)
  exact Int.ofNat_lt.mp (by rw [this];exact h2)
 case Mod =>
  obtain ⟨h1,h⟩:=gd_e h
  rw [← Int.fmod_eq_emod_of_nonneg _ (Int.le_of_lt h1)] at h
  exact PyProof.Rows.mod_int' (Int.ne_of_gt h1) (int_ok r h)
 case Pow =>
  obtain ⟨⟨h1,h2,h3⟩,h⟩:=gd_e h
  exact PyProof.Rows.pow_int_small h1 (Int.le_trans h2 (by decide)) h3 (int_ok r h)
 case LShift =>
  obtain ⟨⟨h1,h2,h3⟩,h⟩:=gd_e h
  have h4:=bits_le_of h3
  clear h3
  exact PyProof.Rows.lshift_int h1 (L.q6 h2 h4) (int_ok r h)
 case RShift =>
  obtain ⟨h1,h⟩:=gd_e h
  rw [← Int.fdiv_eq_ediv_of_nonneg _ (Int.le_of_lt (Int.pow_pos (by decide)))] at h
  exact PyProof.Rows.rshift_int h1 (int_ok r h)
 case BitAnd=>exact PyProof.Rows.and_int (int_ok r h)
 case BitOr=>exact PyProof.Rows.or_int (int_ok r h)
theorem addW_ok {a b:Value} {x y:PV} (r:SR B e F μ st s.heap) (ha:Rep B F μ a x) (hb:Rep B F μ b y) (h:addW x y fun z=>K z st):wpX (model prg B.w) A (binaryOp .Add a b) (Pst n₀ F μ s (GN B e K)) s:=by
 induction x using PV.casesOn <;> try exact h.elim
 induction y using PV.casesOn <;> try exact h.elim
 obtain ⟨p,rfl,i1,⟨n1,q1⟩,r1,_⟩:=ha
 obtain ⟨q,rfl,i2,⟨n2,q2⟩,r2,_⟩:=hb
 obtain ⟨hz,h⟩:=gd_e h
 have l1:=r1.length
 have l2:=r2.length
 rw [Array.length_toList] at l1 l2
 refine Xa_ (P.add_list (r.ss.sub _ _ q1) (r.ss.sub _ _ q2) (pn_ r (.push s _) h ⟨_,⟨0,Heap.get?_push_size _ rfl⟩,by rw [Array.toList_append];exact r1.append r2,by rw [List.length_append];exact hz⟩ (Nat.le_refl _)) (by rw [sizeLine_eq,l1,l2];exact Nat.le_trans hz (by decide)))
theorem foldl_rep {α:Type} (items:Array α) (k:Nat):(List.foldl (fun x1 x2=>x1 ++ x2) #[] (List.replicate k items)).toList=(List.replicate k items.toList).flatten:=by
 have key:∀ (k:Nat) (acc:Array α),(List.foldl (fun x1 x2=>x1 ++ x2) acc (List.replicate k items)).toList=acc.toList ++ (List.replicate k items.toList).flatten:=by
  intro k
  induction k with
  | zero=>intro acc;exact (List.append_nil _).symm
  | succ k ih=>intro acc;rw [List.replicate_succ,List.foldl_cons,ih,List.replicate_succ,List.flatten_cons,Array.toList_append,List.append_assoc]
 exact key k #[]
theorem IntsAre_rep {vs:List Value} {xs:List Int} (i:IntsAre vs xs):∀ k:Nat,IntsAre (List.replicate k vs).flatten (List.replicate k xs).flatten
 | 0=>.nil
 | k+1=>by rw [List.replicate_succ,List.replicate_succ];exact i.append (IntsAre_rep i k)
theorem tadd_ok {a b:Value} {x y:List PV} (r:SR B e F μ st s.heap) (ha:Rep B F μ a (.tup x)) (hb:Rep B F μ b (.tup y)) (h1:x ≠ []) (h2:y ≠ []) (hz:x.length+y.length≤1000000) (h:K (.tup (x ++ y)) st) :
  wpX (model prg B.w) A (binaryOp .Add a b) (Pst e.n₀ F μ s (GE B e K)) s:=by
 obtain ⟨p,rfl,i1,⟨n1,q1⟩,r1,_⟩:=ha
 obtain ⟨q,rfl,i2,⟨n2,q2⟩,r2,_⟩:=hb
 have l1:=r1.length
 have l2:=r2.length
 rw [Array.length_toList] at l1 l2
 have nz {i:Array Value} {x:List PV} (hx:x ≠ []) (l:i.size=x.length):¬ i.isEmpty=true:=fun q=>hx (List.eq_nil_of_length_eq_zero (by rw [← l,Array.isEmpty_iff.mp q];rfl))
 exact Xa_ (P.add_tuple (r.ss.sub _ _ q1) (r.ss.sub _ _ q2) (nz h1 l1) (nz h2 l2) (pf_ (x:=.tup _) r (.push s _) h ⟨_,⟨0,Heap.get?_push_size _ rfl⟩,by rw [Array.toList_append];exact r1.append r2,by rw [List.length_append];exact hz⟩ (Nat.le_refl _)) (by rw [sizeLine_eq,l1,l2];exact Nat.le_trans hz (by decide)))
theorem mul_ok {a b:Value} {x:List Int} {k:Int} (r:SR B e F μ st s.heap) (ha:Rep B F μ a (.il x)) (hb:Rep B F μ b (.int k)) (h1:x ≠ []) (hg:0≤k∧k≤1000∧x.length≤1000) (h:K (.il (List.replicate k.toNat x).flatten) st) :
  wpX (model prg B.w) A (binaryOp .Mult a b) (Pst n₀ F μ s (GN B e K)) s:=by
 obtain ⟨p1,rfl,i1,⟨n1,e1⟩,r1,_⟩:=ha
 obtain ⟨u,rfl⟩:=hb
 obtain ⟨h2,h3,h4⟩:=hg
 have l1:=IntsAre.length r1
 rw [Array.length_toList] at l1
 have hl:=r.ss.sub _ _ e1
 have hm:i1.size * k.toNat≤1000 * 1000:=Nat.mul_le_mul (by rw [l1];exact h4) (Int.toNat_le.mpr h3)
 refine Xa_ (wpAny_binaryOp_repeat_ref (T := "list") (U := "int") (by decide) ⟨_,hl,rfl⟩ (fun s'=>typeIs_int s' k u) noFill_list_mul PySem.F.fills_int_mul PySem.F.slot_int_rmul repeat_list PySem.F.slot_int_index.lookup
  (call_meets PySem.F.slot_int_rmul (typeIs_int s k u) PySem.F.entry_int_rmul (PySem.F.args_int_rmul_2 _ _) (int___rmul___int_list k u _ i1 n1)
   ⟨hl,rfl,⟨_,hl,rfl⟩,call_meets PySem.F.slot_list_mul ⟨_,hl,rfl⟩ PySem.F.entry_list_mul (PySem.F.args_list_mul_2 _ _)
    (AutoListH.list___mul___list_int_3 _ i1 n1 k u (by simp [Builtin.List.listFitsIndex];exact L.q7 h2 h3) (L.q8 hm) (by simp [Builtin.List.listTooLong,sizeLine];exact L.q9 hm))
    ⟨hl,?_⟩⟩))
 have ni:¬ (i1.isEmpty || decide (k.toNat=0))=true ∨ True:=.inr trivial
 refine pn_ r (.push s _) h ⟨_,⟨0,Heap.get?_push_size _ rfl⟩,?_,?_⟩ (Nat.le_refl _)
 ·rw [foldl_rep,if_neg (fun q=>h1 (List.eq_nil_of_length_eq_zero (by rw [← l1,Array.isEmpty_iff.mp q];rfl)))]
  exact IntsAre_rep r1 _
 ·rw [List.length_flatten,List.map_replicate,List.sum_replicate_nat,Nat.mul_comm,← l1];exact Nat.le_trans hm (by decide)
end
end
section
theorem readsAll_ints {h:Heap}:∀ {vs:List Value} {ns:List Int},IntsAre vs ns→ReadsAll h vs (ns.map PyData.int) []
 | _,_,.nil=>.nil
 | _,_,.cons k t r=>ReadsAll.cons (as:=[]) (bs:=[]) (Reads.int (h:=h) k t) (readsAll_ints r)
theorem eqvAll_ints:∀ ns ms:List Int,PyData.eqvAll (ns.map PyData.int) (ms.map PyData.int)=decide (ns=ms)
 | [],[]=>rfl
 | [],_ :: _=>rfl
 | _ :: _,[]=>rfl
 | n :: r,k :: q=>by
  rw [List.map_cons,List.map_cons,PyData.eqvAll,PyData.eqv,eqvAll_ints r q,Bool.eq_iff_iff,Bool.and_eq_true,beq_iff_eq,decide_eq_true_eq,decide_eq_true_eq,List.cons.injEq]
theorem bts_inj {a b:Array UInt8} (h:bts a=bts b):a=b:=by
 have inj:∀ (x y:List UInt8),x.map (fun c=>(c.toNat:Int))=y.map (fun c=>(c.toNat:Int))→x=y:=by
  intro x
  induction x with
  | nil=>intro y h;cases y with | nil=>rfl | cons _ _=>cases h
  | cons a r ih =>
   intro y h
   cases y with
   | nil=>cases h
   | cons b q =>
    rw [List.map_cons,List.map_cons,List.cons.injEq] at h
    rw [ih q h.2,UInt8.toNat_inj.mp (Int.ofNat.inj h.1)]
 exact Array.ext' (inj _ _ h)
def EqW (B:Bs) (A:Around) (s:Shared) (a b:Value) (t:Bool):Prop :=
 (∀ Q:Value→Shared→Prop,Q (.bool t) s→wpAny (model prg B.w) A (compareOp .Eq a b) Q noE s)∧(∀ Q:Value→Shared→Prop,Q (.bool (!t)) s→wpAny (model prg B.w) A (compareOp .NotEq a b) Q noE s)
section
variable {B:Bs} {e:Wh} {F:Heap} {μ:List Addr} {st:St} {s:Shared} {A:Around}
def Rd (h:Heap) (v:Value) (d:PyData):Prop:=∃ as,Reads h v d as∧d.canLay0=true∧d.depth≤2
theorem rd_int {h:Heap} (i:Int) (t:Tok):Rd h (.int i t) (.int i):=⟨[],.int _ _,rfl,by rw [PyData.depth];exact Nat.zero_le _⟩
theorem rd_tup {h:Heap} {p:Addr} {a:Array Value} {l:List Int} (q:IsT h p a) (i:IntsAre a.toList l):Rd h (.ref p) (.tuple (l.map .int)) :=
 by obtain ⟨n,q⟩:=q;exact ⟨_,.tuple q rfl rfl (readsAll_ints i),by rw [PyData.canLay0];exact canLayAll0_ints l,by have:=PySem.W.depthAll_ints l;rw [PyData.depth];exact L.q10 this⟩
theorem rd_list {h:Heap} {p:Addr} {a:Array Value} {l:List Int} (q:IsLs h p a) (i:IntsAre a.toList l):Rd h (.ref p) (.list (l.map .int)) :=
 by obtain ⟨n,q⟩:=q;exact ⟨_,.list q rfl rfl (readsAll_ints i),by rw [PyData.canLay0];exact canLayAll0_ints l,by have:=PySem.W.depthAll_ints l;rw [PyData.depth];exact L.q10 this⟩
theorem EqW.data {a b:Value} {d d':PyData} (rm:Rm A) (r1:Rd s.heap a d) (r2:Rd s.heap b d'):EqW B A s a b (PyData.eqv d d'):=by
 obtain ⟨as,q1,c1,k1⟩:=r1
 obtain ⟨bs,q2,c2,_⟩:=r2
 have:A.units+min d.depth d'.depth < cLine:=Nat.lt_of_le_of_lt (Nat.add_le_add_left (Nat.le_trans (Nat.min_le_left ..) (Nat.le_trans k1 (by decide))) _) rm.hu
 exact ⟨fun Q hq=>SeqAt.compareEq_reads q1 q2 c1 c2 this hq,fun Q hq=>SeqAt.compareNe_reads q1 q2 c1 c2 this hq⟩
theorem ints_of {vs:List Value} {is:List Int} (r:RepL B F μ vs (is.map .int)):IntsAre vs is:=RepL.ints.mpr r
set_option tactic.hygienic true in
theorem eqW_ok {a b:Value} {x y:PV} {K:Bool→Prop} (rm:Rm A) (ss:SS B F μ st.s s.heap) (ha:Rep B F μ a x) (hb:Rep B F μ b y) (h:eqW st.s x y K):∃ t,K t∧EqW B A s a b t:=by
 have hl:A.units < cLine:=Nat.lt_of_le_of_lt (Nat.le_add_right _ _) rm.hu
 have lists (h:asL st.s x fun a=>asL st.s y fun b=>K (decide (a=b))):∃ t,K t∧EqW B A s a b t:=by
  obtain ⟨u,h,p,rfl,i,q1,q2,_⟩:=asL_e ss ha h
  obtain ⟨w,h,p',rfl,i',q1',q2',_⟩:=asL_e ss hb h
  have:=EqW.data (B:=B) (A:=A) rm (rd_list q1 q2) (rd_list q1' q2')
  rw [PyData.eqv,eqvAll_ints] at this
  exact ⟨_,h,this⟩
 induction x using PV.casesOn <;> try exact lists h
 case int i =>
  replace h:=asI_e h;obtain ⟨j,rfl,h⟩:=h
  obtain ⟨t,rfl⟩:=ha
  obtain ⟨u,rfl⟩:=hb
  exact ⟨_,h,fun Q hq=>P.eq_int hq,fun Q hq=>P.ne_int hq⟩
 case bool i =>
  replace h:=asB_e h;obtain ⟨j,rfl,h⟩:=h
  obtain rfl:=ha
  obtain rfl:=hb
  exact ⟨_,h,fun Q hq=>PyProof.Rows.eq_bool hq,fun Q hq=>PyProof.Rows.ne_bool hq⟩
 case str i =>
  induction y using PV.casesOn <;> try exact h.elim
  obtain ⟨t,rfl⟩:=ha
  obtain ⟨u,rfl⟩:=hb
  exact ⟨_,h,fun Q hq=>PyProof.Rows.eq_str hq,fun Q hq=>PyProof.Rows.ne_str hq⟩
 case none =>
  obtain rfl:=ha
  induction y using PV.casesOn <;> try exact h.elim
  ·obtain rfl:=hb
   exact ⟨_,h,fun Q hq=>SeqAt.RcAt.none_none _ _ _ Q hq,fun Q hq=>SeqAt.RcNeAt.none_none _ _ _ Q hq⟩
  ·obtain ⟨p,rfl,i,⟨n,q⟩,_⟩:=hb
   exact ⟨_,h,fun Q hq=>SeqAt.RcAt.none_tuple ⟨_,ss.sub _ _ q,rfl,_,rfl⟩ hl _ _ _ Q hq,fun Q hq=>SeqAt.RcNeAt.none_tuple ⟨_,ss.sub _ _ q,rfl,_,rfl⟩ hl _ _ _ Q hq⟩
 case tup l =>
  obtain ⟨p,rfl,i,q,q2,_⟩:=ha
  induction y using PV.casesOn <;> try exact h.elim
  ·obtain rfl:=hb
   obtain ⟨n,q⟩:=q
   exact ⟨_,h,fun Q hq=>SeqAt.RcAt.tuple_none ⟨_,ss.sub _ _ q,rfl,_,rfl⟩ hl _ _ _ Q hq,fun Q hq=>SeqAt.RcNeAt.tuple_none ⟨_,ss.sub _ _ q,rfl,_,rfl⟩ hl _ _ _ Q hq⟩
  ·obtain ⟨p',rfl,i',q',q2',_⟩:=hb
   replace h:=asIs_e h;obtain ⟨u,rfl,h⟩:=h
   replace h:=asIs_e h;obtain ⟨w,rfl,h⟩:=h
   have:=EqW.data (B:=B) (A:=A) rm (rd_tup (q.at (ss.sub _)) (ints_of q2)) (rd_tup (q'.at (ss.sub _)) (ints_of q2'))
   rw [PyData.eqv,eqvAll_ints] at this
   exact ⟨_,h,this⟩
 case bytes l =>
  replace h:=asY_e h;obtain ⟨m,rfl,h⟩:=h
  obtain ⟨a,t,rfl,rfl,_⟩:=ha
  obtain ⟨b,u,rfl,rfl,_⟩:=hb
  have:(a.toList == b.toList)=decide (bts a=bts b):=by
   rw [Bool.eq_iff_iff,beq_iff_eq,decide_eq_true_eq]
   exact ⟨fun q=>congrArg (List.map fun c:UInt8=>(c.toNat:Int)) q,fun q=>congrArg _ (bts_inj q)⟩
  exact ⟨_,h,fun Q hq=>PySem.W.eq_bytes (this ▸ hq),fun Q hq=>PySem.W.ne_bytes (by rw [bne,this];exact hq)⟩
theorem reads_tuples {h:Heap} (f:Le F h) {ls:List (List Int)} {vs:List Value} (r:RepL B F μ vs (ls.map fun l=>.tup (l.map .int))):∃ as,ReadsAll h vs (ls.map fun l=>.tuple (l.map .int)) as∧PyData.canLayAll0 (ls.map fun l=>.tuple (l.map .int))=true∧PyData.depthAll (ls.map fun l=>.tuple (l.map .int))≤2:=by
 induction ls generalizing vs with
 | nil=>rw [show vs=[] from r];exact ⟨[],.nil,rfl,by rw [List.map_nil,PyData.depthAll];exact Nat.zero_le _⟩
 | cons l ls ih =>
  obtain ⟨v,w,rfl,⟨p,rfl,i,q1,q2,_⟩,b⟩:=r
  obtain ⟨as,r1,c1,d1⟩:=rd_tup (q1.at (f _)) (ints_of q2)
  obtain ⟨bs,r2,c2,d2⟩:=ih b
  exact ⟨_,.cons r1 r2,by rw [List.map_cons,PyData.canLayAll0,c1,c2];rfl,by rw [List.map_cons,PyData.depthAll];exact Nat.max_le.mpr ⟨d1,d2⟩⟩
set_option tactic.hygienic true in
theorem inW_ok {a b:Value} {x y:PV} {K:Bool→Prop} (rm:Rm A) (ss:SS B F μ st.s s.heap) (ha:Rep B F μ a x) (hb:Rep B F μ b y) (h:inW x y K) :
  ∃ t,K t∧(∀ Q:Value→Shared→Prop,Q (.bool t) s→wpAny (model prg B.w) A (compareOp .In a b) Q noE s)∧(∀ Q:Value→Shared→Prop,Q (.bool (!t)) s→wpAny (model prg B.w) A (compareOp .NotIn a b) Q noE s):=by
 replace h:=asT_e h;obtain ⟨l,rfl,h⟩:=h
 obtain ⟨p,rfl,i,⟨n,q1⟩,q2,_⟩:=hb
 have fin {d:PyData} {ds:List PyData} {as:List Addr} {t:Bool} (k:K t) (r1:ReadsAll s.heap i.toList ds as) (c1:PyData.canLayAll0 ds=true) (d1:PyData.depthAll ds≤2) (r2:Rd s.heap a d) (e:ds.any (fun y=>PyData.eqv y d)=t) :
   ∃ t,K t∧(∀ Q:Value→Shared→Prop,Q (.bool t) s→wpAny (model prg B.w) A (compareOp .In a (.ref p)) Q noE s)∧(∀ Q:Value→Shared→Prop,Q (.bool (!t)) s→wpAny (model prg B.w) A (compareOp .NotIn a (.ref p)) Q noE s):=by
  obtain ⟨bs,q,c2,_⟩:=r2
  subst e
  have room:A.units+1+min (PyData.depthAll ds) d.depth < cLine:=by have:=rm.hu;have:=Nat.min_le_left (PyData.depthAll ds) d.depth;exact L.q535 d1 (by assumption) this
  exact ⟨_,k,fun Q hq=>SeqAt.in_tuple_reads (.tuple (ss.sub _ _ q1) rfl rfl r1) q c1 c2 room hq,fun Q hq=>SeqAt.notIn_tuple_reads (.tuple (ss.sub _ _ q1) rfl rfl r1) q c1 c2 room hq⟩
 induction x using PV.casesOn <;> try exact h.elim
 case int k =>
  replace h:=asIs_e h;obtain ⟨js,rfl,h⟩:=h
  obtain ⟨t,rfl⟩:=ha
  refine fin h (readsAll_ints (ints_of q2)) (canLayAll0_ints js) (Nat.le_trans (PySem.W.depthAll_ints js) (by decide)) (rd_int k t) ?_
  rw [Bool.eq_iff_iff,List.any_map,List.any_eq_true,decide_eq_true_eq]
  exact ⟨fun z1_=>by obtain ⟨j,hj,q⟩:=z1_;rw [Function.comp,PyData.eqv,beq_iff_eq] at q;exact q ▸ hj,fun hk=>⟨k,hk,by rw [Function.comp,PyData.eqv,beq_iff_eq]⟩⟩
 case tup u =>
  obtain ⟨p',rfl,i',q1',q2',_⟩:=ha
  replace h:=asIs_e h;obtain ⟨js,rfl,h⟩:=h
  replace h:=asIss_e h;obtain ⟨ls,rfl,h⟩:=h
  obtain ⟨as,r1,c1,d1⟩:=reads_tuples ss.sub q2
  refine fin h r1 c1 d1 (rd_tup (q1'.at (ss.sub _)) (ints_of q2')) ?_
  rw [Bool.eq_iff_iff,List.any_map,List.any_eq_true,decide_eq_true_eq]
  exact ⟨fun z2_=>by obtain ⟨j,hj,q⟩:=z2_;rw [Function.comp,PyData.eqv,eqvAll_ints,decide_eq_true_eq] at q;exact q ▸ hj,fun hk=>⟨js,hk,by rw [Function.comp,PyData.eqv,eqvAll_ints,decide_eq_true_eq]⟩⟩
theorem isN_ok {a:Value} {x:PV} {K:Bool→Prop} (ha:Rep B F μ a x) (h:isN x K):K (a == .none):=by
 induction x using PV.casesOn <;> try exact h.elim
 case none=>obtain rfl:=ha;exact h
 all_goals first
  | (obtain rfl:=ha;exact h)
  | (obtain ⟨_,rfl,_⟩:=ha;exact h)
  | (obtain ⟨_,rfl⟩:=ha;exact h)
  | (obtain ⟨_,_,rfl,_⟩:=ha;exact h)
  | exact ha.elim
theorem cmpW_ok {op:CmpOp} {a b:Value} {x y:PV} {K:Bool→Prop} (rm:Rm A) (ss:SS B F μ st.s s.heap) (ha:Rep B F μ a x) (hb:Rep B F μ b y) (h:cmpW st.s op x y K) :
  ∃ t,K t∧∀ Q:Value→Shared→Prop,Q (.bool t) s→wpAny (model prg B.w) A (compareOp op a b) Q noE s:=by
 have num {c:Int→Int→Bool} {op:CmpOp} (P:∀ {i j:Int} {t u:Tok} {Q:Value→Shared→Prop},Q (.bool (c i j)) s→wpAny (model prg B.w) A (compareOp op (.int i t) (.int j u)) Q noE s) (h':asI x fun a=>asI y fun b=>K (c a b)) :
   ∃ t,K t∧∀ Q:Value→Shared→Prop,Q (.bool t) s→wpAny (model prg B.w) A (compareOp op a b) Q noE s:=by
  clear h
  replace h:=asI_e h';clear h';obtain ⟨i,rfl,h⟩:=h
  replace h:=asI_e h;obtain ⟨j,rfl,h⟩:=h
  obtain ⟨t,rfl⟩:=ha
  obtain ⟨u,rfl⟩:=hb
  exact ⟨_,h,fun Q hq=>P hq⟩
 cases op with
 | Eq=>obtain ⟨t,k,q⟩:=eqW_ok rm ss ha hb h;exact ⟨t,k,q.1⟩
 | NotEq=>obtain ⟨t,k,q⟩:=eqW_ok (K:=fun b=>K (!b)) rm ss ha hb h;exact ⟨!t,k,q.2⟩
 | In=>obtain ⟨t,k,q⟩:=inW_ok rm ss ha hb h;exact ⟨t,k,q.1⟩
 | NotIn=>obtain ⟨t,k,q⟩:=inW_ok (K:=fun b=>K (!b)) rm ss ha hb h;exact ⟨!t,k,q.2⟩
 | Is =>
  induction y using PV.casesOn <;> try exact h.elim
  obtain rfl:=hb
  exact ⟨_,isN_ok ha h,fun Q hq=>PyProof.Rows.is_none_gen hq⟩
 | IsNot =>
  induction y using PV.casesOn <;> try exact h.elim
  obtain rfl:=hb
  exact ⟨_,isN_ok (K:=fun b=>K (!b)) ha h,fun Q hq=>PyProof.Rows.isnot_none_gen hq⟩
 | Lt=>exact num P.lt_int h
 | LtE=>exact num P.le_int h
 | Gt=>exact num P.gt_int h
 | GtE=>exact num P.ge_int h
set_option tactic.hygienic true in
theorem trW_ok {a:Value} {x:PV} {K:Bool→Prop} (ha:Rep B F μ a x) (h:trW x K):∃ t,K t∧∀ Q:Bool→Shared→Prop,Q t s→wpAny (model prg B.w) A (truthy a) Q noE s:=by
 induction x using PV.casesOn <;> try exact h.elim
 case none=>obtain rfl:=ha;exact ⟨_,h,fun Q hq _ _ _=>hq⟩
 case bool=>obtain rfl:=ha;exact ⟨_,h,fun Q hq=>wpAny_truthy_bool hq⟩
 case int i =>
  obtain ⟨t,rfl⟩:=ha
  refine ⟨_,h,fun Q hq=>P.truthy_int ?_⟩
  rw [show (i != 0)=decide (i ≠ 0) from by rw [Bool.eq_iff_iff,bne_iff_ne,decide_eq_true_eq]]
  exact hq
end
end
section
open PySem.Builtin PySem.Builtin.Bytes
theorem slot_ba_getitem:Slot "bytearray" "__getitem__" "bytearray.__getitem__" :=
 .of (owner := "bytearray") (n := "__getitem__") (by rw [typeLookup_type,builtinLookup_eq_fast];kernel_rfl) (by decide +kernel) (by decide +kernel) (by decide +kernel)
  (by first | exact .inl (by decide +kernel) | exact .inr (by decide +kernel)) (by rw [isSubtype_type];kernel_rfl)
theorem entry_ba_getitem:entryFor table "bytearray.__getitem__" = some Builtin.«bytearray.__getitem__»:=by first | exact entryFor_of_tree (by kernel_rfl) | exact entryFor_of_fast (by kernel_rfl)
theorem args_ba_getitem (a b:Value):argsOk "bytearray.__getitem__" ⟨[a,b],[]⟩:=by unfold argsOk;kernel_rfl
theorem ba_no_len_hint:seqItemTypes.contains "bytearray" = false:=by decide
def OV (B:Bs) (F:Heap) (μ:List Addr) (v:Value):Option PV→Prop
 | none=>v=.none
 | some x=>Rep B F μ v x
theorem OV.mono {B:Bs} {F F':Heap} {μ μ':List Addr} {v:Value} {x:Option PV} (f:Le F F') (p:Pre μ μ') (h:OV B F μ v x):OV B F' μ' v x:=match x with | none=>h | some _=>Rep.mono f p h
section
variable {A:Around} {s:Shared}
theorem ba_payload {M:Model} {E:Value→Shared→Prop} {p:Addr} {arr:Array UInt8} {Q:Array UInt8→Shared→Prop} (hb:IsBA s.heap p arr) (h:Q arr s):wpAny M A (payload (.ref p)) Q E s:=by
 unfold payload payload?
 refine wb_ (wb_ (wpAny_load hb (wq_ ?_)))
 exact wq_ h
theorem ba_subscript {M:Model} {E:Value→Shared→Prop} {i:Int} {u:Tok} {Q:Option Int→Shared→Prop} (h0:0≤i) (h1:i < 2 ^ 63) (h:Q (some i) s):wpAny M A (subscript? (.int i u)) Q E s:=by
 unfold subscript?
 refine wb_ (wpAny_specialOf (T := "int") (typeIs_int s i u) int_index ?_)
 refine PySem.bm_if_false rfl ?_
 refine wb_ (wpAny_of_eq (a:=i) rfl ?_)
 have:fitsIndex i=true:=by simp only [fitsIndex,Bool.and_eq_true,decide_eq_true_eq];exact L.q11 h0 h1
 refine PySem.bm_if_false (by rw [this];rfl) ?_
 exact wq_ h
theorem meets_ba_int (p:Addr) (arr:Array UInt8) (i:Int) (u:Tok) (h0:0≤i) (h1:i < 2 ^ 63) (c:UInt8) (hc:arr[i.toNat]?=some c) :
  Meets («bytearray.__getitem__» ⟨[.ref p,.int i u],[]⟩) (fun _ R s=>IsBA s.heap p arr∧R (.ok (.ret (.int c.toNat s.toks))) { s with toks:=s.toks+1 }) :=
 .of_wp fun prog w A R s h=>by
  obtain ⟨hb,hq⟩:=h
  refine wb_ (wpAny_of_eq (a:=(Value.ref p,[Value.int i u])) rfl ?_)
  refine wb_ (ba_subscript h0 h1 ?_)
  refine wb_ (ba_payload hb ?_)
  have hl:i.toNat < arr.size:=(Array.getElem?_eq_some_iff.mp hc).1
  have:seqIndex? i arr.size=some i.toNat:=by
   have hn:¬ i < 0:=L.q12 h0
   have h2:i < arr.size:=L.q13 hl
   simp [seqIndex?,hn,h0,h2]
  rw [this,Option.bind_some,hc]
  exact wb_ (wb_ (wpAny_fresh (wq_ (wq_ ⟨_,rfl,hq⟩))))
theorem ba_part {M:Model} {E:Value→Shared→Prop} {v:Value} {k:Option Int} {Q:Value→Shared→Prop} (hv:IsPart v k) (h:Q (rawPart k) s):wpAny M A (do
  if v == .none then return .none
  if (← specialOf v "__index__").isNone then
   rule "bytes.slice.part-no-index";raiseError "TypeError" "slice indices must be integers or None or have an __index__ method"
  return rawInt (← asIndex v)) Q E s:=by
 cases hv with
 | none=>exact wq_ h
 | int i t =>
  refine PySem.bm_if_false rfl ?_
  refine wb_ (wpAny_specialOf (T := "int") (typeIs_int s i t) int_index ?_)
  refine PySem.bm_if_false rfl ?_
  exact wb_ (wpAny_of_eq (a:=i) rfl (wq_ h))
theorem ba_sliceParts {M:Model} {E:Value→Shared→Prop} {sl:Addr} {l u:Value} {lo hi:Option Int} {Q:Value × Value × Value→Shared→Prop} (hs:s.heap.IsSliceOf sl l u .none) (hl:IsPart l lo) (hu:IsPart u hi)
  (h:Q (rawPart lo,rawPart hi,.none) s):wpAny M A (sliceParts (.ref sl)) Q E s:=by
 obtain ⟨o,ho,hc,hd⟩:=hs
 unfold sliceParts
 refine wb_ (wpAny_field ho hd (x:=.none) rfl ?_)
 refine wb_ (ba_part .none ?_)
 show wpAny _ _ (if (rawPart none == rawInt 0)=true then _ else _) _ _ _
 refine PySem.bm_if_false rfl ?_
 refine wb_ (wpAny_field ho hd (x:=l) rfl ?_)
 refine wb_ (ba_part hl ?_)
 refine wb_ (wpAny_field ho hd (x:=u) rfl ?_)
 refine wb_ (ba_part hu ?_)
 exact wq_ h
theorem meets_ba_slice (p sl:Addr) (arr:Array UInt8) {l u:Value} {lo hi:Option Int} (hl:IsPart l lo) (hu:IsPart u hi) :
  Meets («bytearray.__getitem__» ⟨[.ref p,.ref sl],[]⟩) (fun _ R s=>IsBA s.heap p arr∧s.heap.IsSliceOf sl l u .none∧arr.size≤sizeLine ∧
   R (.ok (.ret (.ref s.heap.objs.size))) { s with heap:=s.heap.push { cls:=.type "bytearray",data:=.bytearray (KBy.picked arr lo hi) 0 } }) :=
 .of_wp fun prog w A R s h=>by
  obtain ⟨hb,hs,hz,hq⟩:=h
  have hT:s.TypeIs (.ref sl) "slice" := by obtain ⟨o,ho,hc,_⟩:=hs;exact ⟨o,ho,hc⟩
  refine wb_ (wpAny_of_eq (a:=(Value.ref p,[Value.ref sl])) rfl ?_)
  refine wb_ (m:=subscript? _) (wb_ (wpAny_specialOf hT slice_no_index ?_))
  refine PySem.bm_if_true rfl ?_
  refine wq_ ?_
  refine wb_ (wpAny_typeOf hT ?_)
  refine PySem.bm_if_false rfl ?_
  refine wb_ (ba_sliceParts hs hl hu ?_)
  refine wb_ (ba_payload hb ?_)
  refine wb_ (wpAny_of_eq (sliceIndices_raw lo hi none arr.size (by decide)) ?_)
  refine wb_ (wpAny_newObj_type (wq_ ⟨_,rfl,hq⟩) ?_)
  exact Nat.le_trans (KBc.size_picked_le arr lo hi) hz
end
section
variable {B:Bs} {e:Wh} {F:Heap} {μ:List Addr} {st:St} {s:Shared} {A:Around} {K:PV→St→Prop} {n₀:Nat}
theorem seqIndex_at {i:Int} {n:Nat} (h0:0≤i) (h1:i < n):seqIndex? i n=some i.toNat:=by
 have hn:¬ i < 0:=L.q12 h0
 simp [seqIndex?,hn,h0,h1]
set_option tactic.hygienic true in
theorem opsOf (slice:Expr) (o i:Value):∃ ops,subscripted slice false o i=operate ops (getItem o i):=by
 induction slice using Expr.casesOn <;> first | exact ⟨_,rfl⟩ | (rename_i a b c p;cases c <;> exact ⟨_,rfl⟩)
theorem tup_bool {t:Addr} {items:Array Value} {n:Nat} {b:Bool} {y:Value} {Q:Value→Shared→Prop} (ht:s.heap.get? t=some { cls:=.type "tuple",data:=.seq items n }) (hy:items[if b then 1 else 0]?=some y) (h:Q y s) :
  wpAny (model prg B.w) A (getItem (.ref t) (.bool b)) Q noE s:=by
 refine getItem_meets ⟨_,ht,rfl⟩ (by decide) PySem.F.slot_tuple_getitem PySem.F.entry_tuple_getitem (PySem.F.args_tuple_getitem_2 _ _) (S:=fun _ R s=>s.heap.get? t=some { cls:=.type "tuple",data:=.seq items n }∧R (.ok (.ret y)) s)
  (.of_wp fun prog w A R s h=>?_) ⟨ht,h⟩
 obtain ⟨hl,hq⟩:=h
 refine wb_ (wpAny_of_eq (a:=(Value.ref t,[Value.bool b])) rfl ?_)
 refine wb_ (wpAny_tupleItemsOf hl rfl ?_)
 refine wb_ (wpAny_typeOf (T := "bool") rfl ?_)
 refine PySem.bm_if_false rfl ?_
 refine wb_ (wpAny_specialOf (T := "bool") rfl PySem.F.slot_bool_index.lookup ?_)
 refine PySem.bm_if_false rfl ?_
 refine wb_ (wpAny_of_eq (a:=if b then 1 else 0) (by cases b <;> rfl) ?_)
 have hb:(if b then (1:Int) else 0)=((if b then 1 else 0:Nat):Int):=by cases b <;> rfl
 rw [if_neg (by cases b <;> decide)]
 have hi:=(Array.getElem?_eq_some_iff.mp hy).1
 rw [hb,seqIndex_at (Int.natCast_nonneg _) (L.q14 hi),Option.bind_some,Int.toNat_natCast,hy]
 exact wq_ ⟨_,rfl,hq⟩
theorem ix_at {l:List Int} {k:Int} (h:0≤k∧k < l.length):l[k.toNat]?=some (ix l k):=by
 have:k.toNat < l.length:=L.q15 h
 unfold ix;rw [List.getD_eq_getElem?_getD,List.getElem?_eq_getElem this];rfl
theorem atI_e {l:List Int} {k:Int} {K:Int→Prop} (h:atI l k K):(0≤k∧k < l.length)∧l[k.toNat]?=some (ix l k)∧K (ix l k):=by obtain ⟨a,b⟩:=gd_e h;exact ⟨a,ix_at a,b⟩
theorem atT_e {l:List PV} {k:Int} {K:PV→Prop} (h:atT l k K):∃ y,(0≤k∧k < l.length)∧l[k.toNat]?=some y∧K y:=by
 induction l generalizing k with
 | nil=>exact h.elim
 | cons x r ih =>
  by_cases hk:k=0
  ·subst hk
   refine ⟨x,⟨Int.le_refl _,Int.natCast_pos.mpr (Nat.succ_pos _)⟩,rfl,?_⟩
   cases r with
   | nil=>exact (gd_e h).2
   | cons y r=>exact (br_e h).1 rfl
  ·cases r with
   | nil=>exact absurd (gd_e h).1 hk
   | cons y r =>
    obtain ⟨z,a,b,c⟩:=ih ((br_e h).2 (decide_eq_false hk))
    obtain ⟨n,hn⟩:=Int.eq_ofNat_of_zero_le a.1
    obtain rfl:k=n+1:=by rw [← hn,Int.sub_add_cancel]
    rw [hn,Int.toNat_natCast] at b
    exact ⟨z,⟨Int.natCast_nonneg (n+1),Int.add_lt_add_right (hn ▸ a.2) 1⟩,b,c⟩
theorem nth_get:∀ {α:Type} {l:List α} {i:Nat} {y:α},nth l i=some y→l[i]?=some y
 | _,_ :: _,0,_,h=>h
 | _,_ :: r,i+1,_,h=>nth_get (l:=r) h
theorem va_cons {K:Type} [DecidableEq K] {p:K × Value} {l:List (K × Value)} {k:K}:valueAt (p :: l) k=if p.1=k then some p.2 else valueAt l k:=by
 unfold valueAt
 rw [List.find?_cons]
 by_cases q:p.1=k
 ·rw [if_pos q,decide_eq_true q];rfl
 ·rw [if_neg q,decide_eq_false q]
theorem lkI_e {k:Int} {K:PV→Prop} {N:Prop} {ks:List Int} {vs:List PV} {kvs:List (Int × Value)} (hk:kvs.map (·.1)=ks) (hr:RepL B F μ (kvs.map (·.2)) vs) (h:lkI ks vs k K N):(∃ z v,K z∧valueAt kvs k=some v∧Rep B F μ v z) ∨ (N∧valueAt kvs k=none):=by
 subst hk
 induction kvs generalizing vs with
 | nil=>exact .inr ⟨h,rfl⟩
 | cons p l ih =>
  cases vs with
  | nil=>exact nomatch hr
  | cons x vs =>
   obtain ⟨_,_,e,a,b⟩:=hr
   cases e
   rw [va_cons]
   by_cases q:k=p.1
   ·rw [if_pos q.symm];exact .inl ⟨x,p.2,(br_e h).1 (decide_eq_true q),rfl,a⟩
   ·rw [if_neg fun e=>q e.symm];exact ih b ((br_e h).2 (decide_eq_false q))
theorem lk_e {ks:List Nat} {vs:List PV} {j:Nat} {x:PV} {kvs:List (Str × Value)} (inj:∀ i,skey i=skey j→i ∈ ks→i=j) (hk:kvs.map (·.1)=ks.map skey) (hr:RepL B F μ (kvs.map (·.2)) vs) (h:lk ks vs j=some x):∃ v,valueAt kvs (skey j)=some v∧Rep B F μ v x:=by
 induction ks generalizing vs kvs with
 | nil=>exact nomatch h
 | cons k ks ih =>
  cases vs with
  | nil=>exact nomatch h
  | cons y vs =>
   cases kvs with
   | nil=>exact nomatch hk
   | cons p l =>
    obtain ⟨hk0,hk⟩:=List.cons.inj hk
    obtain ⟨_,_,e,a,b⟩:=hr
    cases e
    rw [va_cons,show p.1=skey k from hk0]
    have h:(match Nat.beq k j with | true=>some y | false=>lk ks vs j)=some x:=h
    cases q:Nat.beq k j with
    | true=>rw [q] at h;cases h;rw [Nat.eq_of_beq_eq_true q,if_pos rfl];exact ⟨_,rfl,a⟩
    | false =>
     rw [q] at h
     rw [if_neg fun e=>by rw [inj k e List.mem_cons_self,Nat.beq_refl] at q;exact nomatch q]
     exact ih (fun i e m=>inj i e (List.mem_cons_of_mem _ m)) hk b h
theorem sub_tl {value slice:Expr} {v k:Value} {T id:String} {Q:Value→Shared→Prop} (hT:s.TypeIs v T) (hl:typeLookup (.type T) "__getitem__" = pure (some (.builtin id))) (hg:wpAny (model prg B.w) A (getItem v k) Q noE s):wpX (model prg B.w) A (subscriptTail value slice v k) Q s :=
 by obtain ⟨_,ho⟩:=opsOf slice v k;exact Xa_ (tail_any hT hl hg ho)
section
variable {value slice:Expr} {v:Value} {i:Int} {t:Tok} {l:List Int}
theorem it_il (r:SR B e F μ st s.heap) (ha:RC B F μ s.heap v (.il l)) (h:atI l i fun i=>K (.int i) st):wpX (model prg B.w) A (subscriptTail value slice v (.int i t)) (Pst n₀ F μ s (GE B e K)) s:=by
 obtain ⟨a,rfl,items,⟨n,q⟩,q2,hz⟩:=ha
 obtain ⟨h0,h2,h⟩:=atI_e h
 obtain ⟨u,hu⟩:=q2.get _ _ h2
 exact sub_tl ⟨_,q,rfl⟩ slot_list_getitem.lookup (wpAny_getItem_list ⟨_,q,rfl,_,rfl⟩ h0.1 (L.q16 hz h0) (by rw [Array.getElem?_toList] at hu;exact hu) (pv_ r (.refl _) h ⟨_,rfl⟩))
theorem it_by (r:SR B e F μ st s.heap) (ha:RC B F μ s.heap v (.bytes l)) (h:atI l i fun i=>K (.int i) st):wpX (model prg B.w) A (subscriptTail value slice v (.int i t)) (Pst n₀ F μ s (GE B e K)) s:=by
 obtain ⟨arr,u,rfl,rfl,hz⟩:=ha
 replace h:=atI_e h;obtain ⟨h0,h2,h⟩:=h
 have h2:=(List.getElem?_map (l:=arr.toList) (f:=fun c:UInt8=>(c.toNat:Int))).symm.trans h2
 obtain ⟨c,hc,h2⟩:=Option.map_eq_some_iff.mp h2
 have h2:(c.toNat:Int)=ix (bts arr) i:=h2
 rw [Array.getElem?_toList] at hc
 have hl:=(Array.getElem?_eq_some_iff.mp hc).1
 rw [← h2] at h
 refine sub_tl (T := "bytes") rfl FB.slot_bytes_getitem.lookup (getItem_gives (typeIs_bytes s _ u) (by decide) FB.slot_bytes_getitem FB.entry_bytes_getitem (FB.args_bytes_getitem_2 _ _) (gives_bytes_getitem _ i u _ c ?_ ?_) (pv_ r (.toks _ _) h ⟨_,rfl⟩))
 ·simp only [Bytes.fitsIndex,Bool.and_eq_true,decide_eq_true_eq];exact L.q17 hz h0
 ·rw [seqIndex_at h0.1 (L.q13 hl)];exact hc
theorem it_ba (r:SR B e F μ st s.heap) (ha:RC B F μ s.heap v (.ba l)) (h:atI l i fun i=>K (.int i) st):wpX (model prg B.w) A (subscriptTail value slice v (.int i t)) (Pst n₀ F μ s (GE B e K)) s:=by
 obtain ⟨a,rfl,arr,q,rfl,hz⟩:=ha
 replace h:=atI_e h;obtain ⟨h0,h2,h⟩:=h
 have h2:=(List.getElem?_map (l:=arr.toList) (f:=fun c:UInt8=>(c.toNat:Int))).symm.trans h2
 obtain ⟨c,hc,h2⟩:=Option.map_eq_some_iff.mp h2
 have h2:(c.toNat:Int)=ix (bts arr) i:=h2
 rw [← h2] at h
 exact sub_tl ⟨_,q,rfl⟩ slot_ba_getitem.lookup (getItem_meets ⟨_,q,rfl⟩ ba_no_len_hint slot_ba_getitem entry_ba_getitem (args_ba_getitem _ _) (meets_ba_int _ arr i _ h0.1 (L.q16 hz h0) c (by rw [← Array.getElem?_toList];exact hc)) ⟨q,pv_ r (.toks _ _) h ⟨_,rfl⟩⟩)
theorem it_tup {l:List PV} {y:PV} (r:SR B e F μ st s.heap) (ha:RC B F μ s.heap v (.tup l)) (h0:0≤i∧i < l.length) (h2:l[i.toNat]?=some y) (h:K y st):wpX (model prg B.w) A (subscriptTail value slice v (.int i t)) (Pst n₀ F μ s (GE B e K)) s:=by
 obtain ⟨a,rfl,items,⟨n,q⟩,q2,hz⟩:=ha
 obtain ⟨w,ht,hr⟩:=q2.get h2
 have hl:=q2.length
 rw [Array.length_toList] at hl
 exact sub_tl ⟨_,q,rfl⟩ PySem.F.slot_tuple_getitem.lookup (P.getItem_tuple q (L.q18 h0) (L.q19 h0 hz) (seqIndex_at h0.1 (L.q20 h0 hl)) (by rw [Array.getElem?_toList] at ht;exact ht) (pv_ r (.refl _) h hr))
set_option tactic.hygienic true in
theorem itemW_ok {k:Value} {x y:PV} (r:SR B e F μ st s.heap) (ha:Rep B F μ v x) (hi:Rep B F μ k y) (h:itemW st.s x y fun z=>K z st):wpX (model prg B.w) A (subscriptTail value slice v k) (Pst n₀ F μ s (GE B e K)) s:=by
 refine gG fun G kG=>?_
 replace h:=drf_e r.ss ha h;obtain ⟨z,h,c⟩:=h
 induction z using PV.casesOn <;> try exact h.elim
 case il l=>replace h:=asI_e h;obtain ⟨j,rfl,h⟩:=h;obtain ⟨t,rfl⟩:=hi;exact kG <| it_il r c h
 case bytes l=>replace h:=asI_e h;obtain ⟨j,rfl,h⟩:=h;obtain ⟨t,rfl⟩:=hi;exact kG <| it_by r c h
 case ba l=>replace h:=asI_e h;obtain ⟨j,rfl,h⟩:=h;obtain ⟨t,rfl⟩:=hi;exact kG <| it_ba r c h
 case idc ks vs =>
  replace h:=asI_e h;obtain ⟨j,rfl,h⟩:=h;obtain ⟨t,rfl⟩:=hi
  obtain ⟨a,rfl,n,kvs,q,q2,q3⟩:=c
  rcases lkI_e q2 q3 h with ⟨z,w,h1,h2,h3⟩ | ⟨h,_⟩
  ·exact kG <| sub_tl q.typeIs slot_dict_getitem.lookup (wpAny_getItem_of (knd:=intKind prg B.w) (by simp [intKind,Value.isInt]) q.mapOf h2 (pv_ r (.toks _ _) h1 h3))
  ·exact h.elim
 case tup l =>
  induction y using PV.casesOn <;> try exact h.elim
  case bool b =>
   obtain rfl:=hi
   obtain ⟨a,rfl,items,⟨n,q⟩,q2,hz⟩:=c
   rcases l with _ | ⟨u,_ | ⟨w,_ | _⟩⟩ <;> try exact h.elim
   have:∃ z,[u,w][if b then 1 else 0]?=some z∧K z st:=by
    cases b
    ·exact ⟨u,rfl,(br_e h).2 rfl⟩
    ·exact ⟨w,rfl,(br_e h).1 rfl⟩
   obtain ⟨z,hz,k⟩:=this
   obtain ⟨y,hy,hr⟩:=q2.get hz
   exact kG <| sub_tl ⟨_,q,rfl⟩ PySem.F.slot_tuple_getitem.lookup (tup_bool q (by rw [Array.getElem?_toList] at hy;exact hy) (pv_ r (.refl _) k hr))
  case int j =>
   obtain ⟨t,rfl⟩:=hi
   cases ha:allI l with
   | true =>
    replace h:asIs l fun l=>atI l j fun i=>K (.int i) st:=by revert h;show (match allI l with | true=>_ | false=>_)→_;rw [ha];exact id
    replace h:=asIs_e h
    obtain ⟨xs,rfl,h⟩:=h
    replace h:=atI_e h;obtain ⟨h0,h2,h⟩:=h
    exact kG <| it_tup r c (by rw [List.length_map];exact h0) (by rw [List.getElem?_map,h2];rfl) h
   | false =>
    replace h:atT l j fun z=>K z st:=by revert h;show (match allI l with | true=>_ | false=>_)→_;rw [ha];exact id
    obtain ⟨z,h0,h2,h⟩:=atT_e h
    exact kG <| it_tup r c h0 h2 h
set_option tactic.hygienic true in
theorem tixW_ok {x:PV} {k:Nat} (r:SR B e F μ st s.heap) (ha:Rep B F μ v x) (h:tixW st.s x k fun z=>K z st):wpX (model prg B.w) A (subscriptTail value slice v (.int k t)) (Pst n₀ F μ s (GE B e K)) s:=by
 replace h:=drf_e r.ss ha h;obtain ⟨z,h,c⟩:=h
 induction z using PV.casesOn <;> try exact h.elim
 case il l=>exact it_il r c h
 case bytes l=>exact it_by r c h
 case ba l=>exact it_ba r c h
 case tup l =>
  cases hy:nth l k with
  | none=>exact absurd h (by show ¬ (match nth l k with | some y=>K y st | none=>False);rw [hy];exact id)
  | some y =>
   have h:K y st:=by revert h;show (match nth l k with | some y=>K y st | none=>False)→_;rw [hy];exact id
   have hy:=nth_get hy
   exact it_tup r c ⟨Int.natCast_nonneg _,Int.ofNat_lt.mpr (List.getElem?_eq_some_iff.mp hy).1⟩ hy h
end
theorem clip_take_drop {α:Type} (l:List α) (a b:Nat):(l.drop (min a l.length)).take (min b l.length - min a l.length)=(l.take b).drop a:=by
 rw [List.drop_take]
 by_cases h:a≤l.length
 ·rw [Nat.min_eq_left h]
  by_cases hb:b≤l.length
  ·rw [Nat.min_eq_left hb]
  ·rw [Nat.min_eq_right (L.q21 hb)]
   rw [List.take_of_length_le (by simp),List.take_of_length_le (by simp;exact L.q22 hb)]
 ·rw [Nat.min_eq_right (a:=a) (Nat.le_of_lt (Nat.not_le.mp h)),List.drop_of_length_le (Nat.le_refl _),List.drop_of_length_le (Nat.le_of_lt (Nat.not_le.mp h))];simp
theorem slc_clip {α:Type} (l:List α) {lo hi:Option Int} (h1:∀ a,lo=some a→0≤a) (h2:∀ a,hi=some a→0≤a) :
  (l.drop (lo.elim 0 (clipAt l.length))).take (hi.elim l.length (clipAt l.length) - lo.elim 0 (clipAt l.length))=slc l lo hi:=by
 have c (a:Int) (h:0≤a):clipAt l.length a=min a.toNat l.length:=by
  obtain ⟨n,rfl⟩:=Int.eq_ofNat_of_zero_le h;rw [clipAt_nat,Int.toNat_natCast]
 have tk (b:Nat):l.take (min b l.length)=l.take b:=by
  by_cases hb:b≤l.length
  ·rw [Nat.min_eq_left hb]
  ·rw [Nat.min_eq_right (L.q21 hb),List.take_of_length_le (Nat.le_refl _),List.take_of_length_le (L.q21 hb)]
 cases lo with
 | none =>
  cases hi with
  | none=>exact List.take_of_length_le (Nat.le_refl _)
  | some b=>rw [Option.elim_none,Option.elim_some,c b (h2 b rfl),List.drop_zero,Nat.sub_zero];exact tk _
 | some a =>
  cases hi with
  | none =>
   rw [Option.elim_none,Option.elim_some,c a (h1 a rfl)]
   have:=clip_take_drop l a.toNat l.length
   rw [Nat.min_self,List.take_of_length_le (Nat.le_refl _)] at this
   exact this
  | some b =>
   rw [Option.elim_some,Option.elim_some,c a (h1 a rfl),c b (h2 b rfl)]
   exact clip_take_drop l a.toNat b.toNat
theorem ints_slc {vs:List Value} {xs:List Int} (r:IntsAre vs xs) (lo hi:Option Int):IntsAre (slc vs lo hi) (slc xs lo hi):=by
 cases lo <;> cases hi
 ·exact r
 ·exact r.take _
 ·exact r.drop _
 ·exact (r.take _).drop _
theorem slc_len {α:Type} (l:List α) (lo hi:Option Int):(slc l lo hi).length≤l.length:=by
 cases lo <;> cases hi
 ·exact Nat.le_refl _
 ·exact List.length_take_le' ..
 ·exact (List.length_drop ..) ▸ Nat.sub_le _ _
 ·exact Nat.le_trans ((List.length_drop ..) ▸ Nat.sub_le _ _) (List.length_take_le' ..)
theorem tup_upto {t sl:Addr} {items:Array Value} {n b:Nat} {u:Tok} {Q:Value→Shared→Prop} (ht:s.heap.get? t=some { cls:=.type "tuple",data:=.seq items n }) (hs:s.heap.IsSliceOf sl .none (.int b u) .none) (hb:b < items.size)
  (hsz:items.size≤sizeLine) (h:Q (.ref s.heap.objs.size) { s with heap:=s.heap.push { cls:=.type "tuple",data:=.seq (items.toList.take b).toArray } }):wpAny (model prg B.w) A (getItem (.ref t) (.ref sl)) Q noE s:=by
 obtain ⟨os,hos,hcs,hds⟩:=id hs
 have hTs:s.TypeIs (.ref sl) "slice" := ⟨os,hos,hcs⟩
 refine getItem_meets ⟨_,ht,rfl⟩ (by decide) PySem.F.slot_tuple_getitem PySem.F.entry_tuple_getitem (PySem.F.args_tuple_getitem_2 _ _)
  (S:=fun A R s'=>s'=s∧R (.ok (.ret (.ref s.heap.objs.size))) { s with heap:=s.heap.push { cls:=.type "tuple",data:=.seq (items.toList.take b).toArray } })
  (.of_wp fun prog w A R s' hq=>?_) ⟨rfl,h⟩
 obtain ⟨rfl,hq⟩:=hq
 refine wb_ (wpAny_of_eq (a:=(Value.ref t,[Value.ref sl])) rfl ?_)
 refine wb_ (wpAny_tupleItemsOf ht rfl ?_)
 refine wb_ (wpAny_typeOf hTs ?_)
 refine PySem.bm_if_true rfl ?_
 refine wb_ (m:=Builtin.Slice.sliceApplied (.ref sl) (pure (items.size:Int))) ?_
 unfold Builtin.Slice.sliceApplied Builtin.Slice.sliceFields
 refine wb_ (wb_ (wpAny_field hos hds (x:=.none) rfl (wb_ (wpAny_field hos hds (x:=.int b u) rfl (wb_ (wpAny_field hos hds (x:=.none) rfl (wq_ ?_)))))))
 refine wb_ (slicePart_none ?_)
 show wpAny _ _ (if ((1:Int) == 0)=true then _ else _) _ _ s'
 refine PySem.bm_if_false rfl ?_
 refine wb_ (slicePart_none (wb_ (slicePart_int (wb_ (wq_ ?_)))))
 have e1:Builtin.Slice.sliceAdjust none (some (b:Int)) 1 (items.size:Int)=(0,(b:Int)):=by
  unfold Builtin.Slice.sliceAdjust
  have h1:¬ ((1:Int) < 0):=L.q23
  have h2:¬ ((b:Int) < 0):=L.q24
  simp only [h1,h2,if_false]
  congr 1
  exact L.q25 hb
 have e2:Builtin.Slice.slicePlaces 0 (b:Int) 1=b:=by
  unfold Builtin.Slice.slicePlaces
  have h1:(1:Int) > 0:=L.q26
  simp only [h1,if_true,Int.ediv_one]
  split <;> omega
 show wpAny _ _ (match Builtin.Slice.sliceAdjust none (some (b:Int)) 1 (items.size:Int) with | (lo,hi)=>pure (lo,(1:Int),Builtin.Slice.slicePlaces lo hi 1)) _ _ s'
 rw [e1]
 show wpAny _ _ (pure ((0:Int),(1:Int),Builtin.Slice.slicePlaces 0 (b:Int) 1)) _ _ s'
 rw [e2]
 refine wq_ ?_
 have hno:¬ (((0:Int) == 0 && (1:Int) == 1 && b == items.size)=true):=by
  have:(b == items.size)=false:=by rw [beq_eq_false_iff_ne];exact L.q27 hb
  rw [this];simp
 dsimp only
 rw [if_neg hno]
 have e3:((List.range b).filterMap fun (k:Nat)=>items[((0:Int)+(k:Int) * 1).toNat]?).toArray=(items.toList.take b).toArray:=by
  have:=pick_run items 0 b
  rw [List.filterMap_map] at this
  congr 1
  rw [← List.drop_zero (l:=items.toList),← this]
  congr 1
  funext k
  simp
 rw [e3]
 refine wb_ (wpAny_newObj_type (wq_ ⟨_,rfl,hq⟩) ?_)
 show (items.toList.take b).toArray.size≤sizeLine
 rw [List.size_toArray,List.length_take,Array.length_toList]
 exact L.q28 hsz
theorem sl_part {x:Option PV} {u:Value} {K:Option Int→Prop} (ha:OV B F μ u x) (h:bdW x K):∃ k,K k∧IsPart u k∧∀ a,k=some a→0≤a:=by
 cases x with
 | none=>exact ⟨none,h,(show u=.none from ha) ▸ .none,nofun⟩
 | some x =>
  replace h:=asI_e h
  obtain ⟨i,rfl,h⟩:=h
  obtain ⟨t,rfl⟩:=ha
  obtain ⟨h0,h⟩:=gd_e h
  exact ⟨some i,h,.int i t,fun a e=>Option.some.inj e ▸ h0⟩
set_option tactic.hygienic true in
theorem sliceW_ok {value:Expr} {v kl kh:Value} {x:PV} {lo hi:Option Int} {sl:Option Expr} {sh:Option Expr} {ps:Pos} (r:SR B e F μ st s.heap) (ha:Rep B F μ v x) (pl:IsPart kl lo) (ph:IsPart kh hi) (n1:∀ a,lo=some a→0≤a) (n2:∀ a,hi=some a→0≤a)
  (h:sliceW st.s x lo hi fun z=>K z st) :
  wpX (model prg B.w) A (subscriptTail value (.Slice sl sh none ps) v (.ref s.heap.objs.size)) (Pst e.n₀ F μ s (GE B e K)) { s with heap:=s.heap.push { cls:=.type "slice",data:=.fields #[kl,kh,.none] } }:=by
 have hs:=Heap.IsSliceOf.new s.heap kl kh .none
 have g1:=Grown.push s { cls:=.type "slice",data:=.fields #[kl,kh,.none] }
 have up {a:Addr} {o:Obj} (e:s.heap.get? a=some o):=Heap.get?_push_of_some { cls:=.type "slice",data:=.fields #[kl,kh,.none] } e
 refine gG fun G kG=>?_
 replace h:=drf_e r.ss ha h;obtain ⟨z,h,c⟩:=h
 induction z using PV.casesOn <;> try exact h.elim
 case il l =>
  obtain ⟨a,rfl,items,⟨n,q⟩,q2,hz⟩:=c
  have hl:=IntsAre.length q2
  rw [Array.length_toList] at hl
  refine kG ?_;refine sub_tl ⟨_,up q,rfl⟩ slot_list_getitem.lookup (wpAny_getItem_list_slice ⟨_,up q,rfl,_,rfl⟩ hs pl ph .none (by decide) ?_ (by rw [sizeLine_eq];exact L.q29 hz hl))
  refine pf_ (x:=.il _) r (g1.trans (.push _ _)) h ⟨_,⟨0,Heap.get?_push_size _ rfl⟩,?_,Nat.le_trans (slc_len ..) hz⟩ (push_le _ _)
  rw [slicePick_plain,← Array.length_toList,slc_clip _ n1 n2];exact ints_slc q2 lo hi
 case bytes l =>
  obtain ⟨arr,t,rfl,rfl,hz⟩:=c
  have hz':arr.size≤sizeLine:=by rw [bts,List.length_map,Array.length_toList] at hz;rw [sizeLine_eq];exact L.q30 hz
  refine kG ?_;refine sub_tl (T := "bytes") rfl FB.slot_bytes_getitem.lookup (getItem_meets (typeIs_bytes _ _ _) (by decide) FB.slot_bytes_getitem FB.entry_bytes_getitem (FB.args_bytes_getitem_2 _ _) (KBc.meets_slice2 arr t _ pl ph) ⟨hs,Nat.le_trans (KBc.size_picked_le _ _ _) hz',fun t' k=>pv_ r (g1.trans (.toks _ _)) h ⟨_,_,rfl,?_,Nat.le_trans (slc_len ..) hz⟩⟩)
  exact (KBc.ints_picked (b:=arr) rfl lo hi).trans (slc_clip (bts arr) n1 n2)
 case ba l =>
  obtain ⟨a,rfl,arr,q,rfl,hz⟩:=c
  have hz':arr.size≤sizeLine:=by rw [bts,List.length_map,Array.length_toList] at hz;rw [sizeLine_eq];exact L.q30 hz
  refine kG ?_;refine sub_tl ⟨_,up q,rfl⟩ slot_ba_getitem.lookup (getItem_meets ⟨_,up q,rfl⟩ ba_no_len_hint slot_ba_getitem entry_ba_getitem (args_ba_getitem _ _) (meets_ba_slice _ _ arr pl ph) ⟨up q,hs,hz',?_⟩)
  exact pf_ (x:=.ba _) r (g1.trans (.push _ _)) h ⟨_,Heap.get?_push_size _ rfl,(KBc.ints_picked (b:=arr) rfl lo hi).trans (slc_clip (bts arr) n1 n2),Nat.le_trans (slc_len ..) hz⟩ (push_le _ _)
 case tup l =>
  obtain ⟨a,rfl,items,⟨n,q⟩,q2,hz⟩:=c
  have hl:=q2.length
  rw [Array.length_toList] at hl
  cases lo <;> try exact h.elim
  cases hi <;> try exact h.elim
  rename_i b
  obtain ⟨hb,h⟩:=gd_e h
  obtain ⟨m,rfl⟩:=Int.eq_ofNat_of_zero_le (n2 b rfl)
  cases pl
  cases ph with | int _ u =>
  exact kG <| sub_tl ⟨_,up q,rfl⟩ PySem.F.slot_tuple_getitem.lookup (tup_upto (up q) hs (L.q31 hl hb) (by rw [sizeLine_eq];exact L.q29 hz hl) (pf_ (x:=.tup _) r (g1.trans (.push _ _)) h ⟨_,⟨0,Heap.get?_push_size _ rfl⟩,q2.take _,Nat.le_trans (List.length_take_le' ..) hz⟩ (push_le _ _)))
end
end
section
structure ClsOk (K:Frag) (C:Addr):Prop where
 cd:∃ cd,clsIn K C=some cd∧cd.hasDict=true
 hga:findIn K (.ref C) "__getattribute__" = some (some (.builtin "object.__getattribute__"))
 hsa:findIn K (.ref C) "__setattr__" = some (some (.builtin "object.__setattr__"))
 plain:plainOver K C=true
 attr:∀ n ∈ ans,findIn K (.ref C) n=some none
 makes:makesIn K C=true
theorem ans_nd:ans.Nodup:=by decide +kernel
theorem an_mem {j:Nat} (h:j < 28):an j ∈ ans:=by unfold an;rw [List.getD_eq_getElem?_getD,List.getElem?_eq_getElem (show j < ans.length from h)];exact List.getElem_mem _
theorem an_inj {i j:Nat} (hi:i < 28) (hj:j < 28) (h:an i=an j):i=j:=by
 unfold an at h
 rw [List.getD_eq_getElem?_getD,List.getD_eq_getElem?_getD,List.getElem?_eq_getElem (show i < ans.length from hi),List.getElem?_eq_getElem (show j < ans.length from hj)] at h
 exact (List.getElem_inj ans_nd).mp h
theorem skey_inj {i j:Nat} (hi:i < 2) (hj:j < 2) (h:skey i=skey j):i=j:=by
 have:sks.Nodup:=by decide +kernel
 unfold skey at h
 rw [List.getD_eq_getElem?_getD,List.getD_eq_getElem?_getD,List.getElem?_eq_getElem (show i < sks.length from hi),List.getElem?_eq_getElem (show j < sks.length from hj)] at h
 exact (List.getElem_inj this).mp h
theorem lt_e {i n:Nat} {P:Prop} (h:lt i n P):i < n∧P:=by
 unfold lt at h
 cases q:Nat.blt i n with
 | true=>rw [q] at h;exact ⟨Nat.le_of_ble_eq_true q,h⟩
 | false=>rw [q] at h;exact h.elim
theorem bd_e {n:Nat} {P:Prop} (h:bd n P):n≤1000∧P:=by
 unfold bd at h
 cases q:Nat.ble n 1000 with
 | true=>rw [q] at h;exact ⟨Nat.le_of_ble_eq_true q,h⟩
 | false=>rw [q] at h;exact h.elim
theorem lk_mem:∀ {ks:List Nat} {vs:List PV} {j:Nat} {x:PV},lk ks vs j=some x→j ∈ ks
 | k :: ks,v :: vs,j,x,h=>by
  unfold lk at h
  cases q:Nat.beq k j with
  | true=>rw [Nat.eq_of_beq_eq_true q];exact List.mem_cons_self
  | false=>rw [q] at h;exact List.mem_cons_of_mem _ (lk_mem h)
theorem inK_mem:∀ {ks:List Nat} {j:Nat},j ∈ ks→inK ks j=true
 | k :: ks,j,h=>by
  unfold inK
  cases q:Nat.beq k j with
  | true=>rfl
  | false=>exact inK_mem ((List.mem_cons.mp h).resolve_left fun e=>by rw [e,Nat.beq_refl] at q;cases q)
theorem mem_inK:∀ {ks:List Nat} {j:Nat},inK ks j=true→j ∈ ks
 | k :: ks,j,h=>by
  unfold inK at h
  cases q:Nat.beq k j with
  | true=>rw [Nat.eq_of_beq_eq_true q];exact List.mem_cons_self
  | false=>rw [q] at h;exact List.mem_cons_of_mem _ (mem_inK h)
theorem lk_push {ks:List Nat} {vs:List PV} {j i:Nat} {x y:PV} (hl:ks.length=vs.length) (hn:inK ks j=false) (h:lk (ks ++ [j]) (vs ++ [x]) i=some y):(i=j∧y=x) ∨ lk ks vs i=some y:=by
 induction ks generalizing vs with
 | nil =>
  cases vs with
  | cons _ _=>exact nomatch hl
  | nil =>
   have h:(match Nat.beq j i with | true=>some x | false=>none)=some y:=h
   cases q:Nat.beq j i with
   | true=>rw [q] at h;exact .inl ⟨(Nat.eq_of_beq_eq_true q).symm,(Option.some.inj h).symm⟩
   | false=>rw [q] at h;exact nomatch h
 | cons k ks ih =>
  cases vs with
  | nil=>exact nomatch hl
  | cons v vs =>
   have h:(match Nat.beq k i with | true=>some v | false=>lk (ks ++ [j]) (vs ++ [x]) i)=some y:=h
   have hn':inK ks j=false:=by unfold inK at hn;cases q:Nat.beq k j with | true=>rw [q] at hn;exact nomatch hn | false=>rw [q] at hn;exact hn
   show _ ∨ (match Nat.beq k i with | true=>some v | false=>lk ks vs i)=some y
   cases q:Nat.beq k i with
   | true=>rw [q] at h;exact .inr h
   | false=>rw [q] at h;exact ih (Nat.succ.inj hl) hn' h
theorem lk_pv:∀ {ks:List Nat} {vs:List PV} {j i:Nat} {x y:PV},ks.length=vs.length→lk (pk ks j) (pv ks vs j x) i=some y→(i=j∧y=x) ∨ (i ≠ j∧lk ks vs i=some y):=by
 intro ks vs j i x y hl h
 unfold pk at h
 have key:inK ks j=true→lk ks (pv ks vs j x) i=some y→(i=j∧y=x) ∨ (i ≠ j∧lk ks vs i=some y):=by
  clear h
  induction ks generalizing vs with
  | nil=>intro h;cases h
  | cons k ks ih =>
   cases vs with
   | nil=>cases hl
   | cons v vs =>
    intro hk h
    unfold pv at h
    unfold inK at hk
    unfold lk
    cases q:Nat.beq k j with
    | true =>
     rw [q] at h
     have q:=Nat.eq_of_beq_eq_true q
     subst q
     unfold lk at h
     cases q:Nat.beq k i with
     | true=>rw [q] at h;exact .inl ⟨(Nat.eq_of_beq_eq_true q).symm,(Option.some.inj h).symm⟩
     | false=>rw [q] at h;exact .inr ⟨fun e=>(by rw [e,Nat.beq_refl] at q;cases q),h⟩
    | false =>
     rw [q] at h hk
     unfold lk at h
     cases q':Nat.beq k i with
     | true=>rw [q'] at h;exact .inr ⟨fun e=>(by rw [← e] at q;rw [q] at q';cases q'),h⟩
     | false=>rw [q'] at h;exact ih (Nat.succ.inj hl) hk h
 cases q:inK ks j with
 | true=>rw [q] at h;exact key q h
 | false =>
  rw [q] at h
  have e:pv ks vs j x=vs ++ [x]:=by
   clear h key
   induction ks generalizing vs with
   | nil=>cases vs with | nil=>rfl | cons _ _=>cases hl
   | cons k ks ih =>
    cases vs with
    | nil=>cases hl
    | cons v vs =>
     unfold inK at q
     unfold pv
     cases q':Nat.beq k j with
     | true=>rw [q'] at q;cases q
     | false=>rw [q'] at q;exact congrArg _ (ih (Nat.succ.inj hl) q)
  rw [e] at h
  rcases lk_push hl q h with h | h
  ·exact .inl h
  ·exact .inr ⟨fun e=>(by rw [← e,inK_mem (lk_mem h)] at q;cases q),h⟩
theorem pv_len:∀ {ks:List Nat} {vs:List PV} {j:Nat} {x:PV},ks.length=vs.length→(pk ks j).length=(pv ks vs j x).length:=by
 intro ks vs j x hl
 unfold pk
 have a:inK ks j=true→(pv ks vs j x).length=vs.length:=by
  induction ks generalizing vs with
  | nil=>intro h;cases h
  | cons k ks ih =>
   cases vs with
   | nil=>cases hl
   | cons v vs =>
    unfold inK pv
    cases q:Nat.beq k j with
    | true=>intro _;rfl
    | false=>intro h;exact congrArg (·+1) (ih (Nat.succ.inj hl) h)
 have b:inK ks j=false→(pv ks vs j x).length=vs.length+1:=by
  clear a
  induction ks generalizing vs with
  | nil=>cases vs with | nil=>intro _;rfl | cons _ _=>cases hl
  | cons k ks ih =>
   cases vs with
   | nil=>cases hl
   | cons v vs =>
    unfold inK pv
    cases q:Nat.beq k j with
    | true=>intro h;cases h
    | false=>intro h;exact congrArg (·+1) (ih (Nat.succ.inj hl) h)
 cases q:inK ks j with
 | true=>rw [a q];exact hl
 | false=>rw [b q,List.length_append,hl];rfl
theorem pk_mem {ks:List Nat} {j i:Nat} (h:i ∈ pk ks j):i ∈ ks ∨ i=j:=by
 unfold pk at h
 cases q:inK ks j with
 | true=>rw [q] at h;exact .inl h
 | false=>rw [q] at h;exact (List.mem_append.mp h).imp id List.mem_singleton.mp
theorem pk_sub {ks:List Nat} {j i:Nat} (h:i ∈ ks ∨ i=j):i ∈ pk ks j:=by
 unfold pk
 cases q:inK ks j with
 | false=>exact List.mem_append.mpr (h.imp id List.mem_singleton.mpr)
 | true=>exact h.elim id fun e=>(by subst e;exact mem_inK q)
section
variable {B:Bs} {e:Wh} {F h:Heap} {μ:List Addr} {st:St} {s:Shared} {A:Around} {K:PV→St→Prop} {n₀:Nat}
set_option tactic.hygienic true in
theorem ns_look {a:Addr} {m:Str→Option Value} (n:h.Ns a m) (x:Str):∃ o,h.get? a=some o∧lookIn x o=some (m x):=by
 obtain ⟨o,es,ep,ho,hd,hk,hf⟩:=n
 refine ⟨o,ho,?_⟩
 unfold lookIn
 rw [hd]
 dsimp only
 have:=hf x
 unfold nsFind findBy at this
 rw [← Array.find?_toList] at this
 split
 ·rename_i en he;rw [he] at this;rw [← this];rfl
 ·rename_i he
  rw [he] at this
  have q:es.toList.any (·.refKey)=false:=by
   rw [List.any_eq_false]
   intro en hen
   obtain ⟨n,t,hy⟩:=hk en (Array.mem_toList_iff.mp hen)
   obtain ⟨hh,k,vv⟩:=en
   dsimp only at hy
   subst hy
   exact Bool.false_ne_true
  rw [q,← this];rfl
theorem handed_rep {v:Value} {x:PV} {P:Prop} (r:Rep B F μ v x) (h:nA x P):handedIn v=true∧P:=by
 induction x using PV.casesOn <;> try exact h.elim
 all_goals first
  | (obtain rfl:=r;exact ⟨rfl,h⟩)
  | (obtain ⟨_,rfl,_⟩:=r;exact ⟨rfl,h⟩)
  | (obtain ⟨_,rfl⟩:=r;exact ⟨rfl,h⟩)
  | (obtain ⟨_,_,rfl,_⟩:=r;exact ⟨rfl,h⟩)
  | exact r.elim
theorem getAttr_ok {expr:Bool} {v:Value} {c i j:Nat} {ks:List Nat} {l:List PV} {x:PV} (bk:∀ C,B.ca c=some C→ClsOk B.K C) (kx:B.K.In B.h₀) (r:SR B e F μ st s.heap) (ha:Rep B F μ v (.inst c i)) (hs:st.s[i]?=some (.att ks l))
  (hx:lk ks l j=some x) (h:nA x (K x st)):wpX (model prg B.w) A (getAttr v (an j) expr) (Pst n₀ F μ s (GE B e K)) s:=by
 obtain ⟨p,rfl,dx,C,hp,hm,hi⟩:=ha
 have ck:=bk C hm
 obtain ⟨cd,hcd,hdict⟩:=ck.cd
 have X:B.K.In s.heap:=kx.keeps (r.ss.base.trans r.ss.sub)
 obtain ⟨m,hns,hm',_,_,hj⟩:=r.ss.obj i dx _ hi hs
 obtain ⟨w,hw,hr⟩:=hm' j x hx
 obtain ⟨od,hod,hlk⟩:=ns_look hns.ns (an j)
 obtain ⟨hh,h⟩:=handed_rep hr h
 have I:InstAt s.heap p (instObj C dx) C (some od):=⟨r.ss.sub _ _ hp,rfl,rfl,hod⟩
 refine Xa_ (get_value X I ck.hga ?_ hh (pv_ r (.toks _ _) h hr))
 have ho:W.ownOf cd (some od) (an j)=some (some w):=by
  unfold W.ownOf
  rw [hdict,if_pos rfl]
  exact hlk.trans (congrArg some hw)
 unfold findObj
 rw [hcd,Option.bind_some,ck.attr _ (an_mem (hj j (lk_mem hx))),Option.bind_some]
 show (Option.bind (some none) _)=_
 rw [Option.bind_some]
 show Option.bind (W.ownOf cd (some od) (an j)) _=_
 rw [ho]
 rfl
theorem setAttr_ok {v u:Value} {c i j:Nat} {ks:List Nat} {l:List PV} {x:PV} {Q:St→Prop} (bk:∀ C,B.ca c=some C→ClsOk B.K C) (kx:B.K.In B.h₀) (r:SR B e F μ st s.heap) (ha:Rep B F μ v (.inst c i)) (hs:st.s[i]?=some (.att ks l))
  (hj:j < 28) (hz:ks.length≤1000) (hu:Rep B F μ u x) (hQ:Q ⟨st.r,st.s.set i (.att (pk ks j) (pv ks l j x))⟩) :
  wpX (model prg B.w) A (setAttr v (an j) u) (Pst n₀ F μ s (GS B e Q)) s:=by
 obtain ⟨p,rfl,dx,C,hp,hm,hi⟩:=ha
 have ck:=bk C hm
 obtain ⟨cd,hcd,hdict⟩:=ck.cd
 have X:B.K.In s.heap:=kx.keeps (r.ss.base.trans r.ss.sub)
 obtain ⟨m,hns,hm',hk,hl,hj'⟩:=r.ss.obj i dx _ hi hs
 obtain ⟨od,hod,hlk⟩:=ns_look hns.ns (an j)
 have hp':=r.ss.sub _ _ hp
 have I:InstAt s.heap p (instObj C dx) C (some od):=⟨hp',rfl,rfl,hod⟩
 refine Xa_ (set_plain X I ck.hsa (osa_open (s:={ s with toks:=s.toks+1 }) X I ck.plain (r:=none) ?_ fun b=>?_))
 ·unfold takerIn;rw [ck.attr _ (an_mem hj)];rfl
 ·refine wb_ (wq_ (wb_ (wb_ (wpAny_loadPart hp' (wb_ ((looks_clsIn X hcd).at ?_))))))
  rw [hdict]
  refine wq_ (a:=some dx) (wb_ (wq_ (wb_ ?_)))
  refine wpAny_nsSet1 hns fun h' hn' hsb=>?_
  obtain ⟨oD,esD,epD,hoD,hdD,hcD⟩:=hn'.count (Within.cons (an j) u (ns:=ks.map an) fun y hy=>by
   cases q:m y with
   | none=>exact absurd q hy
   | some v=>exact hk y v q)
  refine wb_ (wpAny_lookBehind hoD (by rw [hdD];exact pastItsLine_dict (Nat.le_trans hcD (by rw [List.length_cons,List.length_map,sizeLine_eq];exact L.q32 hz))) ?_)
  refine wq_ ⟨F,μ,.put hi hsb,⟨rfl,rfl⟩,_,e.oa,hQ,r.put hi hsb ⟨_,hn',fun k y hk=>?_,fun n w hn=>?_,pv_len hl,fun k hk=>(pk_mem hk).elim (hj' k) fun e=>e ▸ hj⟩⟩
  ·rcases lk_pv hl hk with ⟨rfl,rfl⟩ | ⟨h1,h2⟩
   ·exact ⟨u,if_pos rfl,hu⟩
   ·obtain ⟨w,hw,hr⟩:=hm' k y h2
    exact ⟨w,(if_neg fun e=>h1 (an_inj (hj' k (lk_mem h2)) hj e)).trans hw,hr⟩
  ·have hn:(if n=an j then some u else m n)=some w:=hn
   split at hn
   ·rename_i q;subst q;exact List.mem_map_of_mem (pk_sub (.inr rfl))
   ·obtain ⟨i',h1,h2⟩:=List.mem_map.mp (hk n w hn);exact h2 ▸ List.mem_map_of_mem (pk_sub (.inl h1))
end
end
section
theorem good_call (a:Args):good (.builtin "type.__call__" a):=fun v p=>by
 obtain ⟨l,k⟩:=a
 cases l with
 | nil=>kernel_rfl
 | cons u l=>rw [show exL v [(.builtin "type.__call__" ⟨u :: l,k⟩,p)]=((PySem.Builtin.Bytes.sameRef u v && Builtin.Bytes.decodersThatHold.contains "type.__call__") || false) by kernel_rfl,show Builtin.Bytes.decodersThatHold.contains "type.__call__" = false by decide +kernel,Bool.and_false];rfl
theorem good_init (a:Args):good (.builtin "bytearray.__init__" a):=fun v p=>by
 obtain ⟨l,k⟩:=a
 cases l with
 | nil=>kernel_rfl
 | cons u l=>rw [show exL v [(.builtin "bytearray.__init__" ⟨u :: l,k⟩,p)]=((PySem.Builtin.Bytes.sameRef u v && Builtin.Bytes.decodersThatHold.contains "bytearray.__init__") || false) by kernel_rfl,show Builtin.Bytes.decodersThatHold.contains "bytearray.__init__" = false by decide +kernel,Bool.and_false];rfl
theorem slot_ba_len:Slot "bytearray" "__len__" "bytearray.__len__" :=
 .of (owner := "bytearray") (n := "__len__") (by rw [typeLookup_type,builtinLookup_eq_fast];kernel_rfl) (by decide +kernel) (by decide +kernel) (by decide +kernel)
  (by first | exact .inl (by decide +kernel) | exact .inr (by decide +kernel)) (by rw [isSubtype_type];kernel_rfl)
theorem entry_ba_len:entryFor table "bytearray.__len__" = some Builtin.«bytearray.__len__»:=by first | exact entryFor_of_tree (by kernel_rfl) | exact entryFor_of_fast (by kernel_rfl)
theorem args_ba_len (a:Value):argsOk "bytearray.__len__" ⟨[a],[]⟩:=by unfold argsOk;kernel_rfl
namespace Ba
theorem slot_iter:Slot "bytearray" "__iter__" "bytearray.__iter__" :=
 .of (owner := "bytearray") (n := "__iter__") (by rw [typeLookup_type,builtinLookup_eq_fast];kernel_rfl) (by decide +kernel) (by decide +kernel) (by decide +kernel)
  (by first | exact .inl (by decide +kernel) | exact .inr (by decide +kernel)) (by rw [isSubtype_type];kernel_rfl)
theorem entry_iter:entryFor table "bytearray.__iter__" = some Builtin.«bytearray.__iter__»:=by first | exact entryFor_of_tree (by kernel_rfl) | exact entryFor_of_fast (by kernel_rfl)
theorem args_iter (a:Value):argsOk "bytearray.__iter__" ⟨[a],[]⟩:=by unfold argsOk;kernel_rfl
theorem slot_next:Slot "bytearray_iterator" "__next__" "bytearray_iterator.__next__" :=
 .of (owner := "bytearray_iterator") (n := "__next__") (by rw [typeLookup_type,builtinLookup_eq_fast];kernel_rfl) (by decide +kernel) (by decide +kernel) (by decide +kernel)
  (by first | exact .inl (by decide +kernel) | exact .inr (by decide +kernel)) (by rw [isSubtype_type];kernel_rfl)
theorem entry_next:entryFor table "bytearray_iterator.__next__" = some Builtin.«bytearray_iterator.__next__»:=by first | exact entryFor_of_tree (by kernel_rfl) | exact entryFor_of_fast (by kernel_rfl)
theorem args_next (a:Value):argsOk "bytearray_iterator.__next__" ⟨[a],[]⟩:=by unfold argsOk;kernel_rfl
theorem slot_self:Slot "bytearray_iterator" "__iter__" "bytearray_iterator.__iter__" :=
 .of (owner := "bytearray_iterator") (n := "__iter__") (by rw [typeLookup_type,builtinLookup_eq_fast];kernel_rfl) (by decide +kernel) (by decide +kernel) (by decide +kernel)
  (by first | exact .inl (by decide +kernel) | exact .inr (by decide +kernel)) (by rw [isSubtype_type];kernel_rfl)
theorem entry_self:entryFor table "bytearray_iterator.__iter__" = some Builtin.«dict_keyiterator.__iter__»:=entryFor_alias (id' := "dict_keyiterator.__iter__") (by kernel_rfl) rfl (by decide +kernel) (by kernel_rfl)
theorem args_self (a:Value):argsOk "bytearray_iterator.__iter__" ⟨[a],[]⟩:=by unfold argsOk;kernel_rfl
def IsIter (h:Heap) (a p:Addr) (i:Nat):Prop:=∃ o,h.get? a=some o∧o.cls=.type "bytearray_iterator" ∧ o.data=.fields #[.ref p,.int i 0]
theorem iter_typeIs {s:Shared} {a p:Addr} {i:Nat} (y:IsIter s.heap a p i):s.TypeIs (.ref a) "bytearray_iterator" := by obtain ⟨o,ho,hc,_⟩:=y;exact ⟨o,ho,hc⟩
section
variable {prog:Program} {w:World} {A:Around} {E:Value→Shared→Prop} {s:Shared} {b:Array UInt8} {p:Addr}
theorem pyIter_ba {Q:Value→Shared→Prop} (hb:IsBA s.heap p b) (hQ:Q (.ref s.heap.objs.size) { s with heap:=s.heap.push { cls:=.type "bytearray_iterator",data:=.fields #[.ref p,.int 0 0] } }):wpAny (model prog w) A (pyIter (.ref p)) Q E s:=by
 refine wpAny_pyIter_slot ⟨_,hb,rfl⟩ slot_iter (wpAny_call_entry slot_iter ⟨_,hb,rfl⟩ entry_iter ?_ (args_iter _))
 show wpAny _ _ (do ret (← newFields "bytearray_iterator" [.ref p,rawInt 0])) _ _ s
 exact wb_ (wpAny_newObj_type (wq_ ⟨_,rfl, "bytearray_iterator",_,⟨_,Heap.get?_push_size _ rfl,rfl⟩,slot_next.lookup,hQ⟩))
theorem pyIter_self {it:Addr} {i:Nat} {Q:Value→Shared→Prop} (hit:IsIter s.heap it p i) (h:Q (.ref it) s):wpAny (model prog w) A (pyIter (.ref it)) Q E s:=by
 refine wpAny_pyIter_slot (iter_typeIs hit) slot_self (wpAny_call_entry slot_self (iter_typeIs hit) entry_self ?_ (args_self _))
 show wpAny _ _ (ret (.ref it)) _ _ s
 exact wq_ ⟨_,rfl, "bytearray_iterator",_,iter_typeIs hit,slot_next.lookup,h⟩
theorem next_item {it:Addr} {i:Nat} {c:UInt8} {Q:Option Value→Shared→Prop} (hit:IsIter s.heap it p i) (hb:IsBA s.heap p b) (hx:b[i]?=some c)
  (hQ:∀ h',IsIter h' it p (i+1)→Heap.SameBut it s.heap h'→Q (some (.int (c.toNat:Int) s.toks)) { s with heap:=h',toks:=s.toks+1 }):wpAny (model prog w) A (pyNext (.ref it)) Q E s:=by
 obtain ⟨o,ho,hc,hd⟩:=id hit
 unfold pyNext
 refine wb_ (wpAny_attempt (wpAny_callSpecial?_slot (name:=PySem.Str.ofString "__next__") (iter_typeIs hit) slot_next
  (wpAny_call_entry slot_next (iter_typeIs hit) entry_next ?_ (args_next _))))
 show wpAny _ _ (field (.ref it) 0 >>= _) _ _ s
 refine wb_ (wpAny_field ho hd (x:=.ref p) rfl ?_)
 show wpAny _ _ (load p >>= _) _ _ s
 refine wb_ (wpAny_load hb ?_)
 show wpAny _ _ (field (.ref it) 1 >>= _) _ _ s
 refine wb_ (wpAny_field ho hd (x:=.int i 0) rfl ?_)
 simp only [Int.toNat_natCast,hx]
 refine wb_ (wpAny_setField ho hd (by simp) (wb_ (wpAny_mkInt (wq_ ⟨_,rfl,wq_ (hQ _ ?_ (Heap.SameBut.update ..))⟩))))
 exact ⟨_,Heap.get?_update_self _ ho (Obj.isFreed_of_fields (Obj.data_mapFields hd _)),(Obj.cls_mapFields ..).trans hc,by
  rw [Obj.data_mapFields hd];simp [rawInt]⟩
theorem next_end {it:Addr} {i:Nat} {Q:Option Value→Shared→Prop} (hh:A.handled=none) (hit:IsIter s.heap it p i) (hb:IsBA s.heap p b) (hx:b[i]?=none)
  (hQ:∀ h',Heap.ExtBut it s.heap h'→Q none { s with heap:=h' }):wpAny (model prog w) A (pyNext (.ref it)) Q E s:=by
 obtain ⟨o,ho,hc,hd⟩:=id hit
 unfold pyNext
 refine wb_ (wpAny_attempt (wpAny_callSpecial?_slot (name:=PySem.Str.ofString "__next__") (iter_typeIs hit) slot_next
  (wpAny_call_entry slot_next (iter_typeIs hit) entry_next ?_ (args_next _))))
 show wpAny _ _ (field (.ref it) 0 >>= _) _ _ s
 refine wb_ (wpAny_field ho hd (x:=.ref p) rfl ?_)
 show wpAny _ _ (load p >>= _) _ _ s
 refine wb_ (wpAny_load hb ?_)
 show wpAny _ _ (field (.ref it) 1 >>= _) _ _ s
 refine wb_ (wpAny_field ho hd (x:=.int i 0) rfl ?_)
 simp only [Int.toNat_natCast,hx]
 refine wb_ (wpAny_rule (wb_ (wpAny_setField ho hd (by simp) (wb_ (wpAny_letGo ?_)))))
 show wpAny _ _ (newExc (.type "StopIteration") [] >>= _) _ _ _
 refine wb_ ?_
 simp only [newExc,newTuple]
 refine wb_ (wpAny_newObj_type ?_ (by size_fits))
 refine wb_ (m:=firstArgMember _ _) (wpAny_of_eq (a:=Value.none) (by first | rfl | (simp only [firstArgMember];rfl)) ?_)
 refine wpAny_newObj_type ?_ (by size_fits)
 simp only [raiseNew]
 refine wb_ (wpAny_handled ?_)
 rw [show A.in1.handled=none from hh]
 refine wb_ (wq_ (wpAny_throw ?_))
 refine wb_ (wpAny_isInstance (T := "StopIteration") (b:=true) ⟨_,Heap.get?_push_size _ rfl,rfl⟩ isSubtype_stop ?_)
 exact wq_ (hQ _ (((Heap.SameBut.update ..).extBut.push _).push _))
end
theorem walks {prog:Program} {w:World} {A:Around} (hh:A.handled=none) (I p:Addr) (hne:p ≠ I) (b:Array UInt8) :
  Walks prog w A I [I,p] [I] b.size (fun i v=>∃ c u,b[i]?=some c∧v=.int (c.toNat:Int) u) (fun i h=>IsIter h I p i∧IsBA h p b) where
 sub:=fun b hb=>by simp at hb;simp [hb]
 frame:=fun _ _ _ st hk=>by obtain ⟨⟨o,ho,r⟩,q⟩:=st;exact ⟨⟨o,hk I (by simp) o ho,r⟩,hk p (by simp) _ q⟩
 item:=fun i s Q E hi st hQ=>by
  refine next_item st.1 st.2 (c:=b[i]) (by simp [hi]) fun h' hit' hs'=>?_
  exact hQ _ h' (s.toks+1) ⟨_,_,by simp [hi],rfl⟩ ⟨hit',(hs'.2 p hne).trans st.2⟩ fun b o hb e=>hs'.extBut b o (fun h=>hb (by simp [h])) e
 done:=fun s Q E st hQ=>next_end hh st.1 st.2 (by simp) fun h' he'=>hQ h' s.toks fun b o hb e=>he' b o (fun h=>hb (by simp [h])) e
 self:=fun _ _ _ _ st hQ=>pyIter_self st.1 hQ
section
variable {prog:Program} {w:World} {A:Around} {E:Value→Shared→Prop} {s:Shared} {b:Array UInt8} {p:Addr}
theorem call_len {Q:Value→Shared→Prop} (hb:IsBA s.heap p b) (hz:b.size≤2 ^ 24)
  (h:Q (.int b.size (s.toks+1)) { s with toks:=s.toks+1+1 }):wpAny (model prog w) A (call (.builtin "len") [.ref p]) Q E s:=by
 refine call_len_slot (n:=(b.size:Int)) ⟨_,hb,rfl⟩ slot_ba_len (fun Q' hq=>?_) (L.q24) (L.q33 hz) h
 refine wpAny_call_entry slot_ba_len ⟨_,hb,rfl⟩ entry_ba_len ?_ (args_ba_len _)
 refine wb_ (wpAny_of_eq (a:=(Value.ref p,([]:List Value))) rfl ?_)
 refine wb_ (ba_payload hb ?_)
 exact wb_ (wb_ (wpAny_fresh (wq_ (wq_ ⟨_,rfl,hq⟩))))
theorem sub_ba:isSubtype (.type "bytearray") (.type "bytearray")=pure true:=by rw [isSubtype_type];kernel_rfl
theorem hint {Q:Bool→Shared→Prop} (hb:IsBA s.heap p b) (hz:b.size≤2 ^ 24)
  (h:∀ r,Q r s):wpAny (model prog w) A (Builtin.List.listLengthHint (.ref p)) Q E s:=by
 refine wb_ (wpAny_specialOf ⟨_,hb,rfl⟩ slot_ba_len.lookup ?_)
 generalize hid:("bytearray.__len__" : String)=id0
 wp_delta
 rw [show splitId id0=some ("bytearray", "__len__") from by subst hid;decide +kernel]
 subst hid
 refine wb_ (wpAny_isInstance (T := "bytearray") (b:=true) ⟨_,hb,rfl⟩ sub_ba ?_)
 refine wpAny_ite_split (fun hab=>absurd hab (by decide)) (fun _=>?_)
 refine wpAny_ite_split (fun _=>?_) (fun hab=>absurd (by decide +kernel) hab)
 exact wb_ (wpAny_typeOf ⟨_,hb,rfl⟩ (wq_ (h _)))
theorem extend {R:Result→Shared→Prop} (hh:A.handled=none) (hb:IsBA s.heap p b) (hz:b.size≤2 ^ 24) (S:Addr) (res:Value) (c₀:Nat) (hS:s.heap.get? S=some { cls:=.type "list",data:=.seq #[] c₀ })
  (hR:∀ h' tk acc' c',(∀ b o,b ≠ S→s.heap.get? b=some o→h'.get? b=some o)→h'.get? S=some { cls:=.type "list",dict:=none,data:=.seq acc' c',slots:=#[] } →
   ItemsOf (fun i v=>∃ c u,b[i]?=some c∧v=.int (c.toNat:Int) u) acc' b.size→R (.ok (.ret res)) { s with heap:=h',toks:=tk }) :
  wpAny (model prog w) A.in1 (Builtin.List.listExtendWith (.ref S) (.ref p) res)
   (fun fin s'=>match fin with | .done f=>R (.ok f) s' | .again c'=>c'.quiet=true∧codeAny (model prog w) A c' R s') (fun e s'=>R (.error e) s') s:=by
 have hSp:S ≠ p:=fun e=>by rw [e,show s.heap.get? p=_ from hb] at hS;simp at hS
 have hSlt:S < s.heap.objs.size:=Heap.lt_size hS
 have hSI:S ≠ s.heap.objs.size:=Nat.ne_of_lt hSlt
 have hpI:p ≠ s.heap.objs.size:=Nat.ne_of_lt (Heap.lt_size hb)
 have hSf:S ∉ [s.heap.objs.size,p]:=fun hm=>by
  rcases List.mem_cons.mp hm with e | hm
  ·exact hSI e
  ·exact hSp (List.mem_singleton.mp hm)
 have W:=(walks (prog:=prog) (w:=w) (A:=A.in1) hh s.heap.objs.size p hpI b).toS
 have key:∀ (h:Heap) (c₁ tk:Nat),IsIter h s.heap.objs.size p 0→IsBA h p b→(∀ b o,b ≠ S→s.heap.get? b=some o→h.get? b=some o) →
   h.get? S=some { cls:=.type "list",data:=.seq #[] c₁ }→codeAny (model prog w) A (.builtin "list.extend.loop" ⟨[.ref S,.ref s.heap.objs.size,res],[]⟩) R { s with heap:=h,toks:=tk }:=by
  intro h c₁ tk hit hb' hk hS₁
  refine codeAny_extend_loopS W (by rw [sizeLine_eq];exact L.q34 hz) S hSf res b.size 0 _ #[] c₁ rfl (Nat.zero_le _) ⟨hit,hb'⟩ hS₁ (ItemsOf.nil _) fun s' acc' c' hm hS' hacc=>?_
  rw [Moved.eq_with hm]
  refine hR s'.heap s'.toks acc' c' (fun b o hb e=>hm.heap b o (fun hmem=>?_) (hk b o hb e)) hS' hacc
  rcases List.mem_cons.mp hmem with e' | hmem
  ·exact hb e'
  ·exact absurd (Heap.lt_size e) (by rw [List.mem_singleton.mp hmem];exact Nat.lt_irrefl _)
 refine wb_ (wpAny_typeOf (T := "bytearray") ⟨_,hb,rfl⟩ ?_)
 have h1:Builtin.List.listSameRef (.ref S) (.ref p)=false:=by simp [Builtin.List.listSameRef,hSp]
 have h2:(Value.type "bytearray" == Value.type "list")=false:=by decide
 have h3:(Value.type "bytearray" == Value.type "tuple")=false:=by decide
 simp only [h1,h2,h3,Bool.or_false,Bool.false_eq_true,if_false]
 refine wb_ (pyIter_ba hb ?_)
 have hb₁:IsBA (s.heap.push { cls:=.type "bytearray_iterator",data:=.fields #[.ref p,.int 0 0] }) p b:=Heap.get?_push_of_some _ hb
 refine wb_ (wpAny_holding (hint hb₁ hz fun r=>?_))
 have hit₁:IsIter (s.heap.push { cls:=.type "bytearray_iterator",data:=.fields #[.ref p,.int 0 0] }) s.heap.objs.size p 0:=⟨_,Heap.get?_push_size _ rfl,rfl,rfl⟩
 have hS₁:=Heap.get?_push_of_some { cls:=.type "bytearray_iterator",data:=.fields #[.ref p,.int 0 0] } hS
 refine wpAny_ite_split (fun _=>?_) (fun _=>wq_ ⟨plainId_quiet F.plain_extend_loop _,key _ c₀ _ hit₁ hb₁ (fun b o _ e=>Heap.get?_push_of_some _ e) hS₁⟩)
 refine wb_ (wpAny_rule ?_)
 refine wb_ ?_
 show wpAny _ _ (updateSeq S (·.push .none) >>= fun _=>updateSeq S (·.pop)) _ _ _
 refine wb_ (wpAny_updateSeq hS₁ rfl ?_)
 have hS₂:=Heap.get?_update_self (Obj.mapSeq (·.push Value.none)) hS₁ rfl
 refine wpAny_updateSeq (hz:=by seq_fits) hS₂ rfl ?_
 have hS₃:=Heap.get?_update_self (Obj.mapSeq (·.pop)) hS₂ rfl
 have oth:∀ b o,b ≠ S→(s.heap.push { cls:=.type "bytearray_iterator",data:=.fields #[.ref p,.int 0 0] }).get? b=some o →
   (((s.heap.push { cls:=.type "bytearray_iterator",data:=.fields #[.ref p,.int 0 0] }).update S (Obj.mapSeq (·.push Value.none))).update S (Obj.mapSeq (·.pop))).get? b=some o :=
  fun b o hb e=>(Heap.get?_update_other _ _ (Ne.symm hb)).trans ((Heap.get?_update_other _ _ (Ne.symm hb)).trans e)
 obtain ⟨oi,i1,i2⟩:=hit₁
 exact wq_ ⟨plainId_quiet F.plain_extend_loop _,key _ _ _ ⟨oi,oth _ _ (Ne.symm hSI) i1,i2⟩ (oth _ _ (Ne.symm hSp) hb₁) (fun b o hb e=>oth _ _ hb (Heap.get?_push_of_some _ e)) hS₃⟩
theorem list_init {R:Result→Shared→Prop} (hh:A.handled=none) (hb:IsBA s.heap p b) (hz:b.size≤2 ^ 24) (S:Addr) (hS:s.heap.get? S=some { cls:=.type "list",data:=.seq #[] })
  (hR:∀ h' tk acc' c',(∀ b o,b ≠ S→s.heap.get? b=some o→h'.get? b=some o)→h'.get? S=some { cls:=.type "list",dict:=none,data:=.seq acc' c',slots:=#[] } →
   ItemsOf (fun i v=>∃ c u,b[i]?=some c∧v=.int (c.toNat:Int) u) acc' b.size→R (.ok (.ret .none)) { s with heap:=h',toks:=tk }) :
  wpAny (model prog w) A.in1 (Builtin.«list.__init__» ⟨[.ref S,.ref p],[]⟩)
   (fun fin s'=>match fin with | .done f=>R (.ok f) s' | .again c'=>c'.quiet=true∧codeAny (model prog w) A c' R s') (fun e s'=>R (.error e) s') s:=by
 have hSp:S ≠ p:=fun e=>by rw [e,show s.heap.get? p=_ from hb] at hS;simp at hS
 show wpAny _ _ (do let old ← Builtin.List.listItems (.ref S);Builtin.List.listUpdate (.ref S) (fun _=>#[]);letGo old.toList.reverse;Builtin.List.listExtendWith (.ref S) (.ref p) .none) _ _ s
 refine wb_ ?_
 refine wb_ (wpAny_seqItems hS rfl (wq_ ?_))
 show wpAny _ _ (updateSeq S (fun _=>#[]) >>= fun _=>letGo (#[]:Array Value).toList.reverse >>= fun _=>Builtin.List.listExtendWith (.ref S) (.ref p) .none) _ _ s
 refine wb_ (wpAny_updateSeq hS rfl ?_)
 have hS₂:=Heap.get?_update_self (Obj.mapSeq (fun _=>(#[]:Array Value))) hS rfl
 have oth:∀ b o,b ≠ S→s.heap.get? b=some o→(s.heap.update S (Obj.mapSeq (fun _=>(#[]:Array Value)))).get? b=some o :=
  fun b o hb e=>(Heap.get?_update_other _ _ (Ne.symm hb)).trans e
 refine wb_ (wpAny_letGo ?_)
 refine extend hh (by exact oth p _ (Ne.symm hSp) hb) hz S .none _ hS₂ fun h' tk acc' c' hk hS' hacc=>?_
 exact hR h' tk acc' c' (fun b o hb e=>hk b o hb (oth b o hb e)) hS' hacc
theorem call_list {Q:Value→Shared→Prop} (hh:A.handled=none) (hb:IsBA s.heap p b) (hz:b.size≤2 ^ 24)
  (hQ:∀ h' tk acc' c',(∀ b o,s.heap.get? b=some o→h'.get? b=some o) →
   h'.get? s.heap.objs.size=some { cls:=.type "list",dict:=none,data:=.seq acc' c',slots:=#[] }→ItemsOf (fun i v=>∃ c u,b[i]?=some c∧v=.int (c.toNat:Int) u) acc' b.size→Q (.ref s.heap.objs.size) { s with heap:=h',toks:=tk }) :
  wpAny (model prog w) A (call (.type "list") [.ref p]) Q E s:=by
 refine callType_codes (Q₁:=fun obj s₁=>obj=.ref s.heap.objs.size∧s₁={ s with heap:=s.heap.push { cls:=.type "list",data:=.seq #[] } }) F.called_list (F.typeCall_list_1 _) F.entry_list_init
  (code_list_new _ ⟨rfl,rfl⟩) fun obj s₁ h₁=>?_
 obtain ⟨rfl,rfl⟩:=h₁
 have hS:(s.heap.push { cls:=.type "list",data:=.seq #[] }).get? s.heap.objs.size=some { cls:=.type "list",data:=.seq #[] }:=Heap.get?_push_size _ rfl
 refine ⟨⟨_,hS,rfl⟩,F.args_list_init_2 _ _,list_init (A:=A.in1) hh (by exact Heap.get?_push_of_some _ hb) hz _ hS fun h' tk acc' c' hk hS' hacc=>?_⟩
 exact ⟨rfl,hQ h' tk acc' c' (fun b o e=>hk b o (Nat.ne_of_lt (Heap.lt_size e)) (Heap.get?_push_of_some _ e)) hS' hacc⟩
end
end Ba
section
variable {α:Type} {M:Model} {A:Around} {s:Shared}
theorem X_if_false {c:Bool} {a b:Sem α} {Q:α→Shared→Prop} (hc:c=false) (h:wpX M A b Q s):wpX M A (if c=true then a else b) Q s:=by subst hc;exact h
theorem X_if_true {c:Bool} {a b:Sem α} {Q:α→Shared→Prop} (hc:c=true) (h:wpX M A a Q s):wpX M A (if c=true then a else b) Q s:=by subst hc;exact h
end
section
variable {prog:Program} {w:World} {A:Around} {s:Shared} {R:Flow→Shared→Prop}
theorem cX_builtin {id:String} {args:Args} {b:Builtin} (hb:entryFor table id=some b) (h:wpX (model prog w) (A.under (.builtin id args)) (b args) (finX (model prog w) A R) s) :
  codeX (model prog w) A (.builtin id args) R s:=by
 refine cX_tree ?_
 show wpX _ _ (match entryFor table id with | some b=>b args | none=>unsupported ((withoutEnding? id "#data").getD id)) _ s
 rw [hb];exact h
theorem cX_call_builtin {id:String} {args:Args} {b:Builtin} (hq:(Code.builtin id args).quiet=true) (hg:good (.builtin id args)) (hb:entryFor table id=some b)
  (h:wpX (model prog w) A.in1 (checkBuiltinCall id args) (fun _ s₁=>wpX (model prog w) (A.under (.builtin id args)) (b args) (finX (model prog w) A R) s₁) s):codeX (model prog w) A (.call (.builtin id) args) R s:=by
 refine cX_tree ?_
 show wpX _ A.in1 (do checkBuiltinCall id args;again (.builtin id args)) _ s
 exact Xb_ (Xm_ h (fun _ s₁ h₁=>Xp_ ⟨hq,hg,cX_builtin hb h₁⟩))
theorem X_callType {T newId initId:String} {Bi:Builtin} {args:List Value} {Q Q₁:Value→Shared→Prop} (ft:TypeCalled T newId initId)
  (hct:checkTypeCall T ⟨args,[]⟩=pure ()) (entryI:entryFor table initId=some Bi) (hgi:∀ a,good (.builtin initId a))
  (hnew:codeAny (model prog w) A.in1 (.call (.builtin newId) ⟨.type T :: args,[]⟩) (wants Q₁ noE) s)
  (hnext:∀ obj s₁,Q₁ obj s₁→s₁.TypeIs obj T∧argsOk initId ⟨obj :: args,[]⟩ ∧
   wpX (model prog w) A.in1.in1 (Bi ⟨obj :: args,[]⟩) (finX (model prog w) A.in1 fun r s₂=>r=.ret .none∧Q obj s₂) s₁) :
  wpX (model prog w) A (call (.type T) args) Q s:=by
 obtain ⟨c,tl,hmro⟩:=ft.mro
 have hmade:=ft.made
 have hsub:=ft.sub
 refine X_call (cX_tree ?_)
 show wpX _ _ (callAny (.type T) _) _ _
 refine Xp_ ⟨Code.quiet_builtin _ (by decide +kernel),(good_call _),cX_builtin F.entry_type_call ?_⟩
 rw [Around.under_plain (weight_type_call_type T args []) rfl]
 have h1:=ft.notType
 have h2:=ft.canCreate
 refine X_if_false h1 ?_
 refine X_if_false h2 ?_
 refine Xb_ (X_of_eq hct ?_)
 refine Xb_ (X_of_eq hmro ?_)
 refine X_if_false rfl ?_
 refine Xb_ (X_of_eq hmade ?_)
 refine Xb_ (Xp_ ?_)
 refine Xb_ (Xh_ (Xa_ (wpAny_call (codeAny_mono hnew fun r s₁ hr=>?_))))
 cases r with
 | error e=>exact hr
 | ok fl =>
  cases fl with
  | ret obj =>
   obtain ⟨hT,hok,hsi⟩:=hnext _ _ hr
   refine Xb_ (Xa_ (wpAny_isInstance hT hsub ?_))
   refine X_if_false rfl ?_
   refine Xb_ (Xh_ ?_)
   unfold callSpecial?
   refine Xb_ (Xa_ (wpAny_specialOf hT ft.init.lookup ?_))
   refine Xh_ (Xb_ (X_of_eq (ft.init.bind obj) ?_))
   refine Xb_ (X_call (cX_call_builtin (plainId_quiet ft.init.plain _) (hgi _) entryI (Xa_ (ft.init.check _ _ _ _ _ _ _ _ hT hok ?_))))
   rw [Around.under_plainId ft.init.plain _]
   refine Xm_ hsi fun fin s₂ hf=>?_
   have fl_ok:∀ (r:Flow) (s₂:Shared),(r=.ret .none∧Q obj s₂)→(match r with | .ret v=>wpX (model prog w) A.in1 (pure (some v)) (fun a s'=>wpX (model prog w) A.in1 (match a with
     | none=>ret obj
     | some r=>if (r != Value.none)=true then do
       rule "type.call.init-returned-value"
       let __do_lift ← PySem.typeNameOf r
       raiseErrorMade "TypeError" (toString "__init__() should return None, not '" ++ toString __do_lift ++ toString "'")
       ret obj
      else ret obj) (finX (model prog w) A fun f s'=>match f with | .ret v=>Q v s' | _=>False) s') s₂ | _=>False):=by
    rintro r s₂ ⟨rfl,hq⟩
    exact Xp_ (X_if_false rfl (Xp_ hq))
   cases fin with
   | done f=>exact fl_ok f s₂ hf
   | again c'=>exact ⟨hf.1,hf.2.1,cX_mono hf.2.2 fl_ok⟩
  | _=>exact hr.elim
end
namespace Ba
theorem lacks_bytes:typeLookup (.type "bytearray") "__bytes__" = pure none:=by rw [typeLookup_type,builtinLookup_eq_fast];kernel_rfl
theorem lacks_index:typeLookup (.type "bytearray") "__index__" = pure none:=by rw [typeLookup_type,builtinLookup_eq_fast];kernel_rfl
theorem has_buffer:typeLookup (.type "bytearray") "__buffer__" = pure (some (.builtin "bytearray.__buffer__")):=by rw [typeLookup_type,builtinLookup_eq_fast];kernel_rfl
theorem has_release:typeLookup (.type "bytearray") "__release_buffer__" = pure (some (.builtin "bytearray.__release_buffer__")):=by rw [typeLookup_type,builtinLookup_eq_fast];kernel_rfl
theorem by_buffer:typeLookup (.type "bytes") "__buffer__" = pure (some (.builtin "bytes.__buffer__")):=by rw [typeLookup_type,builtinLookup_eq_fast];kernel_rfl
theorem by_release:typeLookup (.type "bytes") "__release_buffer__" = pure none:=by rw [typeLookup_type,builtinLookup_eq_fast];kernel_rfl
theorem by_bytes:typeLookup (.type "bytes") "__bytes__" = pure (some (.builtin "bytes.__bytes__")):=by rw [typeLookup_type,builtinLookup_eq_fast];kernel_rfl
theorem by_index:typeLookup (.type "bytes") "__index__" = pure none:=by rw [typeLookup_type,builtinLookup_eq_fast];kernel_rfl
theorem sub_by:isSubtype (.type "bytes") (.type "bytes")=pure true:=by rw [isSubtype_type];kernel_rfl
section
variable {prog:Program} {w:World} {A:Around} {E:Value→Shared→Prop} {s:Shared} {b:Array UInt8} {p:Addr}
theorem own_buffer {Q:Bool→Shared→Prop} (hb:IsBA s.heap p b) (h:Q true s):wpAny (model prog w) A (Builtin.Bytes.slotIsOwn (.ref p) "__buffer__") Q E s:=by
 refine wb_ (wpAny_specialOf ⟨_,hb,rfl⟩ has_buffer ?_)
 dsimp only
 refine PySem.bm_if_false (by decide +kernel) ?_
 rw [show ("bytearray.__buffer__" : String).dropRight ("__buffer__".length+1) = "bytearray" by decide +kernel]
 exact wpAny_isInstance ⟨_,hb,rfl⟩ sub_ba h
theorem own_release {Q:Bool→Shared→Prop} (hb:IsBA s.heap p b) (h:Q false s):wpAny (model prog w) A (Builtin.Bytes.ownRelease (.ref p)) Q E s:=by
 unfold Builtin.Bytes.ownRelease Builtin.Bytes.slotIsOwn
 refine wb_ ?_
 refine wb_ (wpAny_specialOf ⟨_,hb,rfl⟩ has_release ?_)
 dsimp only
 refine PySem.bm_if_false (by decide +kernel) ?_
 rw [show ("bytearray.__release_buffer__" : String).dropRight ("__release_buffer__".length+1) = "bytearray" by decide +kernel]
 exact wpAny_isInstance ⟨_,hb,rfl⟩ sub_ba (wq_ h)
theorem buffer {id:String} {full:Bool} {Q:Option (Array UInt8)→Shared→Prop} (hb:IsBA s.heap p b) (h:Q (some b) s):wpAny (model prog w) A (Builtin.Bytes.buffer? id (.ref p) full) Q E s:=by
 refine wb_ (wpAny_specialOf ⟨_,hb,rfl⟩ has_buffer ?_)
 refine wb_ (own_buffer hb ?_)
 refine PySem.bm_if_false rfl ?_
 refine wb_ (wpAny_specialOf ⟨_,hb,rfl⟩ has_buffer ?_)
 refine wb_ (own_release hb ?_)
 refine PySem.bm_if_false rfl ?_
 exact wb_ (ba_payload hb (wq_ h))
theorem bytes_new {Q:Value→Shared→Prop} (hb:IsBA s.heap p b) (hz:b.size≤2 ^ 24)
  (hQ:∀ t k,Q (.bytes b t) { s with toks:=k }) :
  codeAny (model prog w) A (.call (.builtin "bytes.__new__") ⟨[.type "bytes",.ref p],[]⟩) (wants Q E) s:=by
 refine codeAny_of_tree ?_
 show wpAny _ A.in1 (do checkBuiltinCall "bytes.__new__" ⟨[.type "bytes",.ref p],[]⟩;again (.builtin "bytes.__new__" ⟨[.type "bytes",.ref p],[]⟩)) _ _ s
 refine wb_ (wpAny_of_eq (F.bm_newCall _) (wq_ ⟨plainId_quiet F.bm_plain _,codeAny_builtin F.bm_entry ?_⟩))
 rw [Around.under_plainId F.bm_plain _]
 have hT:s.TypeIs (.ref p) "bytearray" := ⟨_,hb,rfl⟩
 refine wb_ (wpAny_of_eq (a:=true) rfl ?_)
 refine bm_if_false rfl ?_
 refine wb_ (wpAny_of_eq F.bm_sub ?_)
 refine bm_if_false rfl ?_
 refine wb_ (wpAny_of_eq (F.bm_bind _) ?_)
 refine wb_ (wpAny_of_eq (a:=()) rfl ?_)
 refine wb_ (wpAny_of_eq (a:=()) rfl ?_)
 refine bm_if_false rfl ?_
 refine wb_ (wpAny_specialOf hT lacks_bytes ?_)
 refine wb_ (wb_ ?_)
 show wpAny _ _ (load p >>= _) _ _ _
 refine wb_ (wpAny_load hb ?_)
 refine wq_ (wq_ ?_)
 refine bm_if_false rfl ?_
 refine wb_ (wpAny_specialOf hT lacks_index ?_)
 refine bm_if_true rfl ?_
 first
  | show wpAny _ _ (Builtin.Bytes.buffer? "bytes.__new__" (.ref p) true >>= _) _ _ _
  | (refine wb_ ?_;show wpAny _ _ (Builtin.Bytes.buffer? "bytes.__new__" (.ref p) true >>= _) _ _ _)
 refine wb_ (buffer hb ?_)
 refine wb_ (wpAny_rule (wb_ (wpAny_mkBytes ?_ (by rw [sizeLine_eq];exact L.q34 hz))))
 show wpAny _ _ (if (Value.type "bytes" == Value.type "bytes")=true then _ else _) _ _ _
 refine bm_if_true (by decide) ?_
 first
  | exact wq_ (hQ _ _)
  | exact wb_ (wq_ (wq_ (hQ _ _)))
theorem call_bytes {Q:Value→Shared→Prop} (hb:IsBA s.heap p b) (hz:b.size≤2 ^ 24) (hQ:∀ t k,Q (.bytes b t) { s with toks:=k }):wpAny (model prog w) A (call (.type "bytes") [.ref p]) Q E s:=by
 refine callType_codes (Q₁:=fun obj s₁=>s₁.TypeIs obj "bytes" ∧ Q obj s₁) F.bm_called (F.bm_typeCall _) F.entry_object_init
  (bytes_new hb hz fun t k=>⟨PySem.W.typeIs_bytes _ _ _,hQ t k⟩) fun obj s₁ h₁=>?_
 exact ⟨h₁.1,F.args_object_init_2 obj _,object_init_meets F.bm_called.init.lookup F.bm_called.made (by decide) prog w A.in1 _ s₁ ⟨h₁.1,rfl,h₁.2⟩⟩
theorem bytes_new2 {t:Tok} {Q:Value→Shared→Prop} (hQ:Q (.bytes b t) s) :
  codeAny (model prog w) A (.call (.builtin "bytes.__new__") ⟨[.type "bytes",.bytes b t],[]⟩) (wants Q E) s:=by
 refine codeAny_of_tree ?_
 show wpAny _ A.in1 (do checkBuiltinCall "bytes.__new__" ⟨[.type "bytes",.bytes b t],[]⟩;again (.builtin "bytes.__new__" ⟨[.type "bytes",.bytes b t],[]⟩)) _ _ s
 refine wb_ (wpAny_of_eq (F.bm_newCall _) (wq_ ⟨plainId_quiet F.bm_plain _,codeAny_builtin F.bm_entry ?_⟩))
 rw [Around.under_plainId F.bm_plain _]
 have hT:s.TypeIs (.bytes b t) "bytes" := PySem.W.typeIs_bytes _ _ _
 refine wb_ (wpAny_of_eq (a:=true) rfl ?_)
 refine bm_if_false rfl ?_
 refine wb_ (wpAny_of_eq F.bm_sub ?_)
 refine bm_if_false rfl ?_
 refine wb_ (wpAny_of_eq (F.bm_bind _) ?_)
 refine wb_ (wpAny_of_eq (a:=()) rfl ?_)
 refine wb_ (wpAny_of_eq (a:=()) rfl ?_)
 refine bm_if_false rfl ?_
 refine wb_ (wpAny_specialOf hT by_bytes ?_)
 refine wb_ (wpAny_rule (wb_ (wpAny_typeOf hT ?_)))
 refine bm_if_true (by decide) ?_
 show wpAny _ _ (if (Value.type "bytes" == Value.type "bytes")=true then _ else _) _ _ _
 refine bm_if_true (by decide) ?_
 first
  | exact wq_ hQ
  | exact wb_ (wq_ (wq_ hQ))
theorem call_bytes2 {t:Tok} {Q:Value→Shared→Prop} (hQ:Q (.bytes b t) s):wpAny (model prog w) A (call (.type "bytes") [.bytes b t]) Q E s:=by
 refine callType_codes (Q₁:=fun obj s₁=>s₁.TypeIs obj "bytes" ∧ Q obj s₁) F.bm_called (F.bm_typeCall _) F.entry_object_init
  (bytes_new2 ⟨PySem.W.typeIs_bytes _ _ _,hQ⟩) fun obj s₁ h₁=>?_
 exact ⟨h₁.1,F.args_object_init_2 obj _,object_init_meets F.bm_called.init.lookup F.bm_called.made (by decide) prog w A.in1 _ s₁ ⟨h₁.1,rfl,h₁.2⟩⟩
end
theorem mro:mroOf (.type "bytearray")=pure [.type "bytearray",.type "object"]:=by rw [mroOf_type];kernel_rfl
theorem lookup_new:typeLookup (.type "bytearray") "__new__" = pure (some (.builtin "bytearray.__new__")):=by rw [typeLookup_type,builtinLookup_eq_fast];kernel_rfl
theorem slot_init:Slot "bytearray" "__init__" "bytearray.__init__" :=
 .of (owner := "bytearray") (n := "__init__") (by rw [typeLookup_type,builtinLookup_eq_fast];kernel_rfl) (by decide +kernel) (by decide +kernel) (by decide +kernel)
  (by first | exact .inl (by decide +kernel) | exact .inr (by decide +kernel)) (by rw [isSubtype_type];kernel_rfl)
theorem called:TypeCalled "bytearray" "bytearray.__new__" "bytearray.__init__" :=
 ⟨by decide +kernel,by decide +kernel,⟨_,_,mro⟩,madeBy_type mro lookup_new (by decide +kernel),by decide +kernel,by rw [isSubtype_type];kernel_rfl,slot_init⟩
theorem typeCall (a:Value):checkTypeCall "bytearray" ⟨[a],[]⟩=pure ():=by kernel_rfl
theorem newCall (a:Value):checkBuiltinCall "bytearray.__new__" ⟨[.type "bytearray",a],[]⟩=pure ():=by kernel_rfl
theorem plain_new:plainId "bytearray.__new__" = true:=by decide +kernel
theorem entry_new:entryFor table "bytearray.__new__" = some Builtin.«list.__new__»:=by
 exact entryFor_alias (id' := "list.__new__") (by kernel_rfl) rfl (by decide +kernel) (by kernel_rfl)
theorem entry_init:entryFor table "bytearray.__init__" = some Builtin.«bytearray.__init__»:=by first | exact entryFor_of_fast (by kernel_rfl) | exact entryFor_of_tree (by kernel_rfl)
theorem args_init (a b:Value):argsOk "bytearray.__init__" ⟨[a,b],[]⟩:=by unfold argsOk;kernel_rfl
theorem owner_new:("bytearray.__new__".splitOn ".__new__").headD "" = "bytearray" := by simp +decide [String.splitOn,String.splitOnAux]
theorem bind_init (v:Value):Builtin.Bytes.bindOptional "bytearray.__init__" "bytearray" ["source", "encoding", "errors"] [v] []=pure [some v,none,none]:=by kernel_rfl
section
variable {prog:Program} {w:World} {A:Around} {E:Value→Shared→Prop} {s:Shared}
theorem code_new (a:Value) {Q₁:Value→Shared→Prop}
  (h:Q₁ (.ref s.heap.objs.size) { s with heap:=s.heap.push { cls:=.type "bytearray",data:=.bytearray #[] } }) :
  codeAny (model prog w) A (.call (.builtin "bytearray.__new__") ⟨[.type "bytearray",a],[]⟩) (wants Q₁ E) s:=by
 refine codeAny_of_tree ?_
 show wpAny _ A.in1 (do checkBuiltinCall "bytearray.__new__" ⟨[.type "bytearray",a],[]⟩;again (.builtin "bytearray.__new__" ⟨[.type "bytearray",a],[]⟩)) _ _ s
 refine wb_ (wpAny_of_eq (newCall a) (wq_ ⟨plainId_quiet plain_new _,codeAny_builtin_stack entry_new rfl fun p st=>?_⟩))
 rw [Around.under_plainId plain_new _]
 have hsub:=sub_ba
 have hown:=owner_new
 obtain ⟨hp,g,d,tk,os⟩:=s
 simp only [hown]
 wp_walk
 exact h
theorem X_exported {M:Model} {v:Value} {Q:Bool→Shared→Prop} (h:Q false s):wpX M A (Builtin.Bytes.exported v) Q s:=by
 intro Γ p hΓ hc
 show Q (((Γ.code,p) :: Γ.below).any _) s
 refine (congrArg (Q · s) (List.any_eq_false.mpr fun x hx=>?_)).mpr h
 have k:good x.1:=(List.mem_cons.mp hx).elim (fun e=>e ▸ hc.1) (hc.2 x)
 have:=k v x.2
 rw [show exL v [(x.1,x.2)]=(_ || false) from rfl,Bool.or_false] at this
 exact fun e=>absurd (this.symm.trans e) Bool.false_ne_true
theorem exports {M:Model} {E:Value→Shared→Prop} {b:Array UInt8} {p:Addr} {Q:Nat→Shared→Prop} (hb:IsBA s.heap p b) (h:Q 0 s):wpAny M A (Builtin.Bytes.exportsOf (.ref p)) Q E s:=by
 exact wb_ (wpAny_load hb (wq_ h))
theorem write_ba {M:Model} {E:Value→Shared→Prop} {b:Array UInt8} {p:Addr} {f:Array UInt8→Array UInt8} {Q:Unit→Shared→Prop} (hb:IsBA s.heap p b) (hz:(f b).size≤sizeLine)
  (h:∀ h',IsBA h' p (f b)→Heap.SameBut p s.heap h'→Q () { s with heap:=h' }):wpAny M A (Builtin.Bytes.write (.ref p) f) Q E s:=by
 unfold Builtin.Bytes.write updateBytearray
 refine wb_ (wpAny_load hb ?_)
 refine wb_ (wpAny_update hb ?_)
 have hb':IsBA (s.heap.update p (Obj.mapBytearray f)) p (f b):=Heap.get?_update_self (Obj.mapBytearray f) hb rfl
 refine wpAny_lookBehind hb' ?_ (h _ hb' (Heap.SameBut.update ..))
 show (if (f b).size > sizeLine then some "bytearray:memory" else none)=none
 rw [if_neg (Nat.not_lt.mpr hz)]
theorem buffer_bytes {id:String} {full:Bool} {b:Array UInt8} {t:Tok} {Q:Option (Array UInt8)→Shared→Prop} (h:Q (some b) s):wpAny (model prog w) A (Builtin.Bytes.buffer? id (.bytes b t) full) Q E s:=by
 unfold Builtin.Bytes.buffer?
 have hT:s.TypeIs (.bytes b t) "bytes" := PySem.W.typeIs_bytes _ _ _
 refine wb_ (wpAny_specialOf hT by_buffer ?_)
 refine wb_ ?_
 ·unfold Builtin.Bytes.slotIsOwn
  refine wb_ (wpAny_specialOf hT by_buffer ?_)
  dsimp only
  refine PySem.bm_if_false (by decide +kernel) ?_
  rw [show ("bytes.__buffer__" : String).dropRight ("__buffer__".length+1) = "bytes" by decide +kernel]
  refine wpAny_isInstance hT sub_by ?_
  refine PySem.bm_if_false rfl ?_
  refine wb_ (wpAny_specialOf hT by_buffer ?_)
  refine wb_ ?_
  unfold Builtin.Bytes.ownRelease Builtin.Bytes.slotIsOwn
  refine wb_ ?_
  refine wb_ (wpAny_specialOf hT by_release ?_)
  refine wq_ (wq_ ?_)
  refine PySem.bm_if_false rfl ?_
  exact wb_ (wpAny_of_eq (a:=b) rfl (wq_ h))
theorem init {A':Around} {b:Array UInt8} {p:Addr} {t:Tok} {R:Flow→Shared→Prop} (hb:IsBA s.heap p #[]) (hz:b.size≤2 ^ 24)
  (hR:∀ h',IsBA h' p b→Heap.SameBut p s.heap h'→R (.ret .none) { s with heap:=h' }) :
  wpX (model prog w) A (Builtin.«bytearray.__init__» ⟨[.ref p,.bytes b t],[]⟩) (finX (model prog w) A' R) s:=by
 have hT:s.TypeIs (.bytes b t) "bytes" := PySem.W.typeIs_bytes _ _ _
 refine Xb_ (Xa_ (own_release hb ?_))
 refine X_if_false rfl ?_
 refine Xb_ (X_of_eq (bind_init _) ?_)
 refine Xb_ (X_of_eq (a:=()) rfl ?_)
 refine Xb_ (X_of_eq (a:=()) rfl ?_)
 refine Xb_ (Xm_ (Q:=fun b s'=>b=false∧s'=s) ?_ ?_)
 ·unfold orM
  exact Xb_ (X_exported (Xb_ (Xa_ (exports hb (Xp_ ⟨rfl,rfl⟩)))))
 rintro _ _ ⟨rfl,rfl⟩
 refine X_if_false rfl ?_
 refine Xb_ (Xa_ (write_ba hb (Nat.zero_le _) fun h₁ hb₁ hs₁=>?_))
 refine Xb_ (X_of_eq (a:=none) rfl ?_)
 refine X_if_false rfl ?_
 refine Xb_ (X_of_eq (a:=()) rfl ?_)
 refine Xb_ (Xa_ (wpAny_specialOf (PySem.W.typeIs_bytes _ _ _) by_index ?_))
 refine X_if_false rfl ?_
 refine Xb_ (Xa_ (buffer_bytes ?_))
 refine Xb_ (X_rule (Xb_ (Xa_ (write_ba hb₁ (by rw [sizeLine_eq];exact L.q34 hz) fun h₂ hb₂ hs₂=>?_))))
 exact Xp_ (hR _ hb₂ (hs₁.trans hs₂))
theorem call_ba {b:Array UInt8} {t:Tok} {Q:Value→Shared→Prop} (hz:b.size≤2 ^ 24)
  (hQ:∀ h',IsBA h' s.heap.objs.size b→(∀ a o,s.heap.get? a=some o→h'.get? a=some o)→Q (.ref s.heap.objs.size) { s with heap:=h' }):wpX (model prog w) A (call (.type "bytearray") [.bytes b t]) Q s:=by
 refine X_callType (Q₁:=fun obj s₁=>obj=.ref s.heap.objs.size∧s₁={ s with heap:=s.heap.push { cls:=.type "bytearray",data:=.bytearray #[] } }) called (typeCall _) entry_init good_init
  (code_new _ ⟨rfl,rfl⟩) fun obj s₁ h₁=>?_
 obtain ⟨rfl,rfl⟩:=h₁
 have hb:IsBA (s.heap.push { cls:=.type "bytearray",data:=.bytearray #[] }) s.heap.objs.size #[]:=Heap.get?_push_size _ rfl
 refine ⟨⟨_,hb,rfl⟩,args_init _ _,?_⟩
 refine init (s:={ s with heap:=s.heap.push { cls:=.type "bytearray",data:=.bytearray #[] } }) hb hz fun h' hb' hs'=>⟨rfl,hQ h' hb' fun a o e=>?_⟩
 exact (hs'.2 a (Nat.ne_of_lt (Heap.lt_size e))).trans (Heap.get?_push_of_some _ e)
end
end Ba
end
section
section
variable {B:Bs} {e:Wh} {F:Heap} {μ:List Addr} {st:St} {s:Shared} {A:Around} {K:PV→St→Prop} {n₀:Nat}
theorem pvk (r:SR B e F μ st s.heap) {h':Heap} {t:Nat} (hk:∀ b o,s.heap.get? b=some o→h'.get? b=some o) {v:Value} {x:PV} (k:K x st) (p:Rep B F μ v x):Pst n₀ F μ s (GE B e K) v { s with heap:=h',toks:=t } :=
 pv_ r (s':={ s with heap:=h',toks:=t }) ⟨hk,rfl,rfl⟩ k p
theorem pnk (r:SR B e F μ st s.heap) {h':Heap} {t:Nat} (hk:∀ b o,s.heap.get? b=some o→h'.get? b=some o) {x:PV} (k:K x st) (c:Con B F μ h' s.heap.objs.size x):Pst n₀ F μ s (GN B e K) (.ref s.heap.objs.size) { s with heap:=h',toks:=t } :=
 pn_ r (s':={ s with heap:=h',toks:=t }) ⟨hk,rfl,rfl⟩ k c (Nat.le_refl _)
theorem bts_len (a:Array UInt8):(bts a).length=a.size:=by unfold bts;rw [List.length_map,Array.length_toList]
set_option tactic.hygienic true in
theorem len_ok {v:Value} {x:PV} (r:SR B e F μ st s.heap) (ha:Rep B F μ v x) (h:lenW st.s x fun n=>K (.int n) st):wpX (model prg B.w) A (call (.builtin "len") [v]) (Pst n₀ F μ s (GE B e K)) s:=by
 have fin {k:Int} (h:K (.int k) st):Pst n₀ F μ s (GE B e K) (.int k (s.toks+1)) { s with toks:=s.toks+1+1 }:=pv_ r (.toks _ _) h ⟨_,rfl⟩
 replace h:=drf_e r.ss ha h
 obtain ⟨y,h,c⟩:=h
 induction y using PV.casesOn <;> try exact h.elim
 case il l =>
  obtain ⟨a,rfl,items,⟨n,q⟩,q2,hz⟩:=c
  have hl:=IntsAre.length q2
  rw [Array.length_toList] at hl
  rw [← hl] at hz
  replace h:K (.int l.length) st:=h
  rw [← hl] at h
  exact Xa_ (len_list ⟨_,q,rfl,_,rfl⟩ (L.q35 hz) (fin h))
 case lst l =>
  obtain ⟨a,rfl,items,⟨n,q⟩,q2,hz⟩:=c
  have hl:=q2.length
  rw [Array.length_toList] at hl
  rw [← hl] at hz
  replace h:K (.int l.length) st:=h
  rw [← hl] at h
  exact Xa_ (len_list ⟨_,q,rfl,_,rfl⟩ (L.q35 hz) (fin h))
 case tup l =>
  obtain ⟨a,rfl,items,⟨n,q⟩,q2,hz⟩:=c
  have hl:=q2.length
  rw [Array.length_toList] at hl
  rw [← hl] at hz
  replace h:K (.int l.length) st:=h
  rw [← hl] at h
  exact Xa_ (len_tuple ⟨_,q,rfl,_,rfl⟩ (L.q35 hz) (fin h))
 case bytes l =>
  obtain ⟨arr,t,rfl,rfl,hz⟩:=c
  exact Xa_ (KBw.len_K (ks:=bts arr) rfl (L.q36 hz) (fin h))
 case ba l =>
  obtain ⟨a,rfl,arr,q,rfl,hz⟩:=c
  refine Xa_ (call_len_slot (n:=((bts arr).length:Int)) ⟨_,q,rfl⟩ slot_ba_len (fun Q' hq=>?_) (L.q24) (L.q37 hz) (fin h))
  refine wpAny_call_entry slot_ba_len ⟨_,q,rfl⟩ entry_ba_len ?_ (args_ba_len _)
  refine wb_ (wpAny_of_eq (a:=(Value.ref a,([]:List Value))) rfl ?_)
  refine wb_ (ba_payload q ?_)
  rw [← bts_len]
  exact wb_ (wb_ (wpAny_fresh (wq_ (wq_ ⟨_,rfl,hq⟩))))
theorem sum_ok {v:Value} {l:List Int} (hh:A.handled=none) (r:SR B e F μ st s.heap) (ha:Rep B F μ v (.il l)) (h:K (.int l.sum) st):wpX (model prg B.w) A (call (.builtin "sum") [v]) (Pst n₀ F μ s (GE B e K)) s:=by
 obtain ⟨p,rfl,items,⟨m,e1⟩,e2,_⟩:=ha
 have q:=r.ss.sub _ _ e1
 obtain ⟨xs,hxs⟩:=e2.allInts.items
 have hxs:items=intItems xs:=hxs
 subst hxs
 have h1:=e2.numsOf
 rw [nums_intItems] at h1
 refine Xa_ (sum_intListG hh ⟨_,q,rfl,_,rfl⟩ fun h' tk t' hk=>?_)
 rw [preSum_eq,List.take_of_length_le (by simp),h1]
 exact pvk r hk h ⟨_,rfl⟩
theorem mnx_ok {u v:Value} {a b:Int} {mx:Bool} (hh:A.handled=none) (r:SR B e F μ st s.heap) (ha:Rep B F μ u (.int a)) (hb:Rep B F μ v (.int b)) (h:K (.int (match mx with | true=>max a b | false=>min a b)) st) :
  wpX (model prg B.w) A (call (.builtin (match mx with | true => "max" | false => "min")) [u,v]) (Pst n₀ F μ s (GE B e K)) s:=by
 obtain ⟨t,rfl⟩:=ha
 obtain ⟨t',rfl⟩:=hb
 cases mx
 ·refine Xa_ (min_two_ints hh fun h' tk hk=>pvk r hk h ?_)
  split
  ·exact ⟨_,by rw [show min a b=b by exact L.q536 (by assumption)]⟩
  ·exact ⟨_,by rw [show min a b=a by exact L.q537 (by assumption)]⟩
 ·refine Xa_ (max_two_ints hh fun h' tk hk=>pvk r hk h ?_)
  split
  ·exact ⟨_,by rw [show max a b=b by exact L.q538 (by assumption)]⟩
  ·exact ⟨_,by rw [show max a b=a by exact L.q539 (by assumption)]⟩
theorem rng_size {a b c:Int} (h0:0≤a) (h1:b≤1000000) (h2:0 < c):Builtin.Range.rangeSize a b c≤1000000:=by
 unfold Builtin.Range.rangeSize
 simp only [show c > 0 from h2,if_true]
 by_cases h:a < b
 ·have h4:(b - a - 1) / c≤b - a - 1:=Int.ediv_le_self _ (L.q38 h)
  rw [if_pos h];exact L.q39 h0 h1 h4
 ·rw [if_neg h];exact L.q40
theorem range1_ok {u:Value} {b:Int} (r:SR B e F μ st s.heap) (ha:Rep B F μ u (.int b)) (hb:-1000000≤b∧b≤1000000) (h:K (.rng 0 b 1) st):wpX (model prg B.w) A (call (.type "range") [u]) (Pst e.n₀ F μ s (GE B e K)) s:=by
 obtain ⟨t,rfl⟩:=ha
 exact Xa_ (call_range_1 (pf_ (x:=.rng 0 b 1) r ((Grown.push _ _).trans (.toks _ _)) h ⟨_,_,_,IsRange.new ..,small_one (L.q41) (L.q42) (L.q43 hb) (L.q44 hb),rng_size (Int.le_refl _) hb.2 (by decide)⟩ (Nat.le_refl _)))
theorem range3_ok {u v x:Value} {a b c:Int} (r:SR B e F μ st s.heap) (ha:Rep B F μ u (.int a)) (hb:Rep B F μ v (.int b)) (hc:Rep B F μ x (.int c)) (g:(0≤a∧a≤1000000)∧(-1000000≤b∧b≤1000000)∧0 < c∧c≤1000000) (h:K (.rng a b c) st) :
  wpX (model prg B.w) A (call (.type "range") [u,v,x]) (Pst e.n₀ F μ s (GE B e K)) s:=by
 obtain ⟨t,rfl⟩:=ha
 obtain ⟨t',rfl⟩:=hb
 obtain ⟨t'',rfl⟩:=hc
 obtain ⟨⟨h0,h0'⟩,⟨h1',h1⟩,h2,h3⟩:=g
 refine Xa_ (call_range_3 (Int.ne_of_gt h2) (pf_ (x:=.rng a b c) r (Grown.push s _) h ⟨_,_,_,IsRange.new ..,?_,rng_size h0 h1 h2⟩ (Nat.le_refl _)) (.inl (PyProof.noPylong_small (by omega))))
 unfold Builtin.Range.small Builtin.Range.rangeSize
 simp only [Builtin.Range.rangeFitsLong,Bool.and_eq_true,Bool.or_eq_true,decide_eq_true_eq,beq_iff_eq,show c > 0 from h2,if_true]
 by_cases h:a < b
 ·have h4:(b - a - 1) / c≤b - a - 1:=Int.ediv_le_self _ (L.q38 h)
  have h5:0≤(b - a - 1) / c:=Int.ediv_nonneg (L.q38 h) (L.q45 h2)
  rw [if_pos h]
  generalize (b - a - 1) / c=z at h4 h5
  exact L.q46 h0 h0' h1 h2 h3 h h4 h5
 ·rw [if_neg h]
  exact L.q47 h0 h0' h1' h1 h2 h3
theorem byte_bts {l:List Int} (h:Oct l):bts (byteArr l)=l:=by
 unfold bts byteArr
 rw [List.map_map]
 exact (List.map_congr_left fun x hx=>byte_back (h x hx).1 (h x hx).2).trans (List.map_id l)
set_option tactic.hygienic true in
theorem bytes_ok {v:Value} {x:PV} (hh:A.handled=none) (r:SR B e F μ st s.heap) (ha:Rep B F μ v x) (h:b1W st.s 3 x fun z=>K z st):wpX (model prg B.w) A (call (.type "bytes") [v]) (Pst n₀ F μ s (GE B e K)) s:=by
 replace h:=drf_e r.ss ha h
 obtain ⟨y,h,c⟩:=h
 induction y using PV.casesOn <;> try exact h.elim
 case il l =>
  obtain ⟨a,rfl,items,⟨n,q⟩,q2,hz⟩:=c
  obtain ⟨ho,h⟩:=gp_e h
  exact Xa_ (call_bytes_ints (vs:=items.toList) (ns:=l) ⟨_,q,rfl,n,rfl⟩ q2 ho (by rw [q2.length,sizeLine_eq];exact L.q30 hz) hh fun h' t k hk=>pvk r hk h ⟨_,t,rfl,byte_bts ho,hz⟩)
 case ba l =>
  obtain ⟨a,rfl,arr,q,rfl,hz⟩:=c
  exact Xa_ (Ba.call_bytes q (by rw [← bts_len];exact L.q30 hz) fun t k=>pv_ r (.toks _ _) h ⟨_,t,rfl,rfl,hz⟩)
 case bytes l =>
  obtain ⟨arr,t,rfl,rfl,hz⟩:=c
  exact Xa_ (Ba.call_bytes2 (pv_ r (.refl _) h ⟨_,t,rfl,rfl,hz⟩))
theorem ba_ok {v:Value} {l:List Int} (r:SR B e F μ st s.heap) (ha:Rep B F μ v (.bytes l)) (h:K (.ba l) st):wpX (model prg B.w) A (call (.type "bytearray") [v]) (Pst n₀ F μ s (GN B e K)) s:=by
 obtain ⟨arr,t,rfl,rfl,hz⟩:=ha
 exact Ba.call_ba (by rw [← bts_len];exact L.q30 hz) fun h' hb hk=>pnk r hk h ⟨_,hb,rfl,hz⟩
theorem ints_items {arr:Array UInt8} {vs:List Value} {k:Nat} (h:∀ j v,vs[j]?=some v→∃ c u,arr[k+j]?=some c∧v=.int (c.toNat:Int) u) (hl:vs.length+k=arr.size):IntsAre vs ((bts arr).drop k):=by
 induction vs generalizing k with
 | nil=>rw [List.drop_of_length_le (by rw [bts_len,← hl,List.length_nil,Nat.zero_add];exact Nat.le_refl _)];exact .nil
 | cons v vs ih =>
  obtain ⟨c,u,h1,rfl⟩:=h 0 v rfl
  have hk:k < (bts arr).length:=by rw [bts_len,← hl,List.length_cons];exact L.q48
  have hc:(bts arr)[k]=(c.toNat:Int):=Option.some.inj ((List.getElem?_eq_getElem hk).symm.trans (by unfold bts;rw [List.getElem?_map,Array.getElem?_toList,show arr[k]?=some c from h1];rfl))
  rw [List.drop_eq_getElem_cons hk,hc]
  exact .cons _ _ (ih (fun j v hj=>by have:=h (j+1) v hj;rw [show k+(j+1)=k+1+j by exact L.q49] at this;exact this) (by rw [List.length_cons] at hl;exact L.q50 hl))
theorem list_ok {v:Value} {x:PV} (hh:A.handled=none) (r:SR B e F μ st s.heap) (ha:Rep B F μ v x) (h:n1W st.s 1 x fun z=>K z st):wpX (model prg B.w) A (call (.type "list") [v]) (Pst n₀ F μ s (GN B e K)) s:=by
 replace h:=drf_e r.ss ha h
 obtain ⟨y,h,c⟩:=h
 induction y using PV.casesOn <;> try exact h.elim
 obtain ⟨a,rfl,arr,q,rfl,hz⟩:=c
 refine Xa_ (Ba.call_list hh q (by rw [← bts_len];exact L.q30 hz) fun h' tk acc c' hk hS hacc=>pnk r hk h ⟨acc,⟨c',hS⟩,?_,hz⟩)
 exact ints_items (arr:=arr) (vs:=acc.toList) (k:=0) (fun j v hv=>by rw [Nat.zero_add];exact hacc.2 j v (by rw [Array.getElem?_toList] at hv;exact hv)) (by rw [Array.length_toList];exact hacc.1)
end
end
section
structure Cx where
 ns:List (Str × NameKind)
 P:Nat→Pos
 cs:Nat→Scope
 raw:Nat→Stmt
noncomputable def Cx.nm (c:Cx) (i:Nat):Str:=match nth c.ns i with | some (x,_)=>x | none => ""
noncomputable def cst:PV→Const
 | .bool b=>.bool b
 | .int i=>.int i
 | .str s=>.str s
 | .bytes l=>.bytes (l.map fun i=>UInt8.ofNat i.toNat)
 | _=>.none
mutual
noncomputable def toE (c:Cx):CE→Expr
 | .lit n x=>.Constant (cst x) 0 (c.P n)
 | .loc n i=>.Name (c.nm i) (c.P n)
 | .fnv n i _=>.Name (c.nm i) (c.P n)
 | .bin n op a b=>.BinOp (toE c a) op (toE c b) (c.P n)
 | .tadd n a b=>.BinOp (toE c a) .Add (toE c b) (c.P n)
 | .neg n a=>.UnaryOp .USub (toE c a) (c.P n)
 | .ifx n t a b=>.IfExp (toT c t) (toE c a) (toE c b) (c.P n)
 | .bl n op l=>.BoolOp op (toL c l) (c.P n)
 | .cmp n op a b=>.Compare (toE c a) [op] [toE c b] (c.P n)
 | .tup n l=>.Tuple (toL c l) 0 (c.P n)
 | .tix n a k=>.Subscript (toE c a) (.Constant (.int k) 0 (c.P (n+1))) (c.P n)
 | .item n a i=>.Subscript (toE c a) (toE c i) (c.P n)
 | .slice n a lo hi=>.Subscript (toE c a) (.Slice (toO c lo) (toO c hi) none (c.P (n+1))) (c.P n)
 | .key n a k=>.Subscript (toE c a) (.Constant (.str (skey k)) 0 (c.P (n+1))) (c.P n)
 | .attr n a j=>.Attribute (toE c a) (an j) (c.P n)
 | .call n i _ l=>.Call (.Name (c.nm i) (c.P (n+1))) (toL c l) [] (c.P n)
 | .callv n i l=>.Call (.Name (c.nm i) (c.P (n+1))) (toL c l) [] (c.P n)
 | .new n i _ l=>.Call (.Name (c.nm i) (c.P (n+1))) (toL c l) [] (c.P n)
 | .b1 n i _ a=>.Call (.Name (c.nm i) (c.P (n+1))) [toE c a] [] (c.P n)
 | .mnx n i _ a b=>.Call (.Name (c.nm i) (c.P (n+1))) [toE c a,toE c b] [] (c.P n)
 | .rng3 n i a b d=>.Call (.Name (c.nm i) (c.P (n+1))) [toE c a,toE c b,toE c d] [] (c.P n)
 | .get n o a d=>.Call (.Attribute (toE c o) "get" (c.P (n+1))) (toE c a :: (toO c d).toList) [] (c.P n)
 | .pop n m o=>.Call (.Attribute (toE c o) "pop" (c.P (n+1))) [.Constant (.int 0) 0 (c.P m)] [] (c.P n)
 | .fz a=>toN c a
 | .th a=>toN c a
noncomputable def toN (c:Cx):CN→Expr
 | .lst n l=>.List (toL c l) (c.P n)
 | .add n a b=>.BinOp (toE c a) .Add (toE c b) (c.P n)
 | .mul n a b=>.BinOp (toE c a) .Mult (toE c b) (c.P n)
 | .step n m a i=>.Subscript (toE c a) (.Slice (some (toE c i)) none (some (.Constant (.int 5) 0 (c.P m))) (c.P (n+1))) (c.P n)
 | .comp n e t it d _ _ u=>.ListComp (toE { c with ns:=(c.cs u).names } e) [⟨.Name (Cx.nm { c with ns:=(c.cs u).names } t) (c.P (n+1)),toE c it,(toO { c with ns:=(c.cs u).names } d).toList,0⟩] (c.cs u) (c.P n)
 | .dict0 n=>.Dict [] [] (c.P n)
 | .dictI n k l=>.Dict (k.zipIdx.map fun p=>some (.Constant (.int p.1) 0 (c.P (n+1+p.2)))) (toL c l) (c.P n)
 | .dictS n k l=>.Dict (k.zipIdx.map fun p=>some (.Constant (.str (skey p.1)) 0 (c.P (n+1+p.2)))) (toL c l) (c.P n)
 | .b1 n i _ a=>.Call (.Name (c.nm i) (c.P (n+1))) [toE c a] [] (c.P n)
noncomputable def toO (c:Cx):CO→Option Expr
 | .no=>none
 | .so e=>some (toE c e)
 | .te t=>some (toT c t)
noncomputable def toL (c:Cx):CL→List Expr
 | .nil=>[]
 | .cons a l=>toE c a :: toL c l
noncomputable def toT (c:Cx):CT→Expr
 | .val a=>toE c a
 | .nt n t=>.UnaryOp .Not (toT c t) (c.P n)
 | .bl n op l=>.BoolOp op (toTl c l) (c.P n)
 | .cmp n op a b=>.Compare (toE c a) [op] [toE c b] (c.P n)
 | .cmp2 n o p a b d=>.Compare (toE c a) [o,p] [toE c b,toE c d] (c.P n)
noncomputable def toTl (c:Cx):CTL→List Expr
 | .nil=>[]
 | .cons t l=>toT c t :: toTl c l
end
noncomputable def stN:Stmt→Str
 | .FunctionDef n ..=>n
 | .ClassDef n ..=>n
 | _ => ""
noncomputable def fnm (f:Nat):Str:=match nth prg.main.body f with | some s=>stN s | none => ""
noncomputable def fids:List Nat:=[4,5,6,7,9,11,12,13,14,16,18,19,20,21,22,23,24,25,26,27,28,29,30,31,33,38,39,40,41,42,43,44,45,46,47,48,50,51,52,53,54,56,57,59,60,61,62,63,64,65,66,67,68,69,70,71,72,73,74,75,76,77,78,79,80,81]
noncomputable def cids:List Nat:=[17,36,37]
noncomputable def bnm:Nat→Str
 | 0 => "len" | 1 => "sum" | 2 => "range" | 3 => "bytes" | 4 => "bytearray" | 5 => "list" | 6 => "min" | 7 => "max" | _ => "enumerate"
noncomputable def bvl:Nat→Value
 | 0=>.builtin "len" | 1=>.builtin "sum" | 2=>.type "range" | 3=>.type "bytes" | 4=>.type "bytearray" | 5=>.type "list" | 6=>.builtin "min" | 7=>.builtin "max" | _=>.type "enumerate"
noncomputable def isG (c:Cx) (i:Nat) (x:Str):Bool:=decide (nth c.ns i=some (x,.globalImplicit))
noncomputable def isL (c:Cx) (i:Nat):Bool:=match nth c.ns i with | some (_,k)=>k == .local || k == .cell | none=>false
noncomputable def plainBase:Expr→Bool
 | .Call (.Name id _) _ _ _=>id != "super"
 | _=>true
noncomputable def okM (c:Cx) (o:Expr) (n:Nat):Bool:=plainBase o && (c.P (n+1)).endLine == (c.P n).line
noncomputable def isPl:CE→Bool
 | .ifx .. | .bl .. | .cmp ..=>false
 | _=>true
noncomputable def isLit:PV→Bool
 | .none | .bool _ | .int _ | .str _=>true
 | .bytes l=>l.all fun i=>decide (0≤i) && decide (i < 256) && decide (l.length≤1000)
 | _=>false
noncomputable def okSc (s:Scope):Bool:=s.kind == .function && s.names.all (fun p=>p.2 != .cell && !(p.1 == "__debug__" || p.1 == "__classdict__")) && decide (s.names.map (·.1)).Nodup
noncomputable def okMp (c:Cx):List (Str × NameKind)→List Nat→Bool
 | [],[]=>true
 | (x,.free) :: r,(i+1) :: m=>(match nth c.ns i with | some (y,k)=>decide (y=x) && k == .cell | none=>false) && okMp c r m
 | (_,.free) :: _,0 :: _=>false
 | _ :: r,0 :: m=>okMp c r m
 | _,_=>false
noncomputable def noT:CO→Bool
 | .te _=>false
 | _=>true
noncomputable def clen:CL→Nat
 | .nil=>0
 | .cons _ l=>clen l+1
mutual
noncomputable def okE (c:Cx):CE→Bool
 | .lit _ x=>isLit x
 | .loc _ _=>true
 | .fnv _ i f=>isG c i (fnm f) && fids.contains f
 | .bin _ _ a b=>okE c a && okE c b
 | .tadd _ a b=>okE c a && okE c b
 | .neg _ a=>okE c a
 | .ifx _ t a b=>okT c t && (okE c a && okE c b)
 | .bl _ _ l=>okL c l
 | .cmp _ _ a b=>okE c a && okE c b
 | .tup _ l=>okL c l
 | .tix _ a _=>okE c a
 | .item _ a i=>okE c a && okE c i
 | .slice _ a lo hi=>okE c a && (okO c lo && okO c hi)
 | .key _ a _=>okE c a
 | .attr _ a _=>plainBase (toE c a) && okE c a
 | .call _ i f l=>isG c i (fnm f) && fids.contains f && okL c l
 | .callv _ _ l=>okL c l
 | .new _ i k l=>isG c i (fnm k) && cids.contains k && okL c l
 | .b1 _ i b a=>isG c i (bnm b) && okE c a
 | .mnx _ i mx a b=>isG c i (bnm (match mx with | true=>7 | false=>6)) && (okE c a && okE c b)
 | .rng3 _ i a b d=>isG c i (bnm 2) && (okE c a && (okE c b && okE c d))
 | .get n o a d=>(okM c (toE c o) n && noT d) && (okE c o && (okE c a && okO c d))
 | .pop n _ o=>okM c (toE c o) n && okE c o
 | .fz a=>okN c a
 | .th a=>okN c a
noncomputable def okN (c:Cx):CN→Bool
 | .lst _ l=>okL c l
 | .add _ a b=>okE c a && okE c b
 | .mul _ a b=>okE c a && okE c b
 | .step _ _ a i=>okE c a && okE c i
 | .comp _ e t it d _ m u=>(okSc (c.cs u) && okMp c (c.cs u).names m && (match nth (c.cs u).names t with | some (_,k)=>k == .local | none=>false)) && (okE c it && (okO { c with ns:=(c.cs u).names } d && okE { c with ns:=(c.cs u).names } e))
 | .dict0 _=>true
 | .dictI _ k l=>decide (k.length=clen l∧k.Nodup∧0 < k.length∧k.length≤15) && okL c l
 | .dictS _ k l=>decide (k.length=clen l∧(k.map skey).Nodup∧0 < k.length∧k.length≤15) && okL c l
 | .b1 _ i b a=>isG c i (bnm (4+b)) && okE c a
noncomputable def okO (c:Cx):CO→Bool
 | .no=>true
 | .so e=>okE c e
 | .te t=>okT c t
noncomputable def okL (c:Cx):CL→Bool
 | .nil=>true
 | .cons a l=>okE c a && okL c l
noncomputable def okT (c:Cx):CT→Bool
 | .val a=>isPl a && okE c a
 | .nt _ t=>okT c t
 | .bl _ _ l=>okTl c l
 | .cmp _ _ a b=>okE c a && okE c b
 | .cmp2 _ _ _ a b d=>okE c a && (okE c b && okE c d)
noncomputable def okTl (c:Cx):CTL→Bool
 | .nil=>true
 | .cons t l=>okT c t && okTl c l
end
theorem and_l {a b:Bool} (h:(a && b)=true):a=true:=(Bool.and_eq_true_iff.mp h).1
theorem and_r {a b:Bool} (h:(a && b)=true):b=true:=(Bool.and_eq_true_iff.mp h).2
structure Lv (A:Around) (d:Nat):Prop where
 hh:A.handled=none
 hf:A.frames=none
 hg:A.guards=none
 hd:A.depth≤301+4 * d
 hu:A.units≤8+12 * d
 hk:d≤90
theorem Lv.rm {A:Around} {d:Nat} (l:Lv A d):Rm A:=⟨l.hh,by
 have h1:=l.hu
 have h2:=l.hk
 have h3:cLine=9900:=rfl
 rw [h3];exact L.q51 h1 h2⟩
structure Lw (A:Around) (d:Nat):Prop where
 hh:A.handled=none
 hf:A.frames=none
 hg:A.guards=none
 hd:A.depth≤302+4 * d
 hu:A.units≤12+12 * d
theorem Lv.lw {A:Around} {d:Nat} (l:Lv A d):Lw A d:=⟨l.hh,l.hf,l.hg,Nat.le_trans l.hd (Nat.add_le_add_right (by decide) _),Nat.le_trans l.hu (Nat.add_le_add_right (by decide) _)⟩
def CallOk (B:Bs) (D:Nat) (f:Nat) (vs:List PV) (σ:List PV) (K:PV→List PV→Prop):Prop :=
 ∀ (A:Around) (F:Heap) (μ:List Addr) (s:Shared) (args:List Value) (a:Addr),Lw A D→sysModules < s.heap.objs.size→SS B F μ σ s.heap→RepL B F μ args vs→B.fa f=some a →
  codeX (model prg B.w) A (.call (.ref a) ⟨args,[]⟩) (fun fl s'=>match fl with
   | .ret v=>Pst s.heap.objs.size F μ s (fun F μ v h=>∃ x σ',K x σ'∧SS B F μ σ' h∧Rep B F μ v x) v s'
   | _=>False) s
def OrcOk (B:Bs) (D:Nat) (C:Orc):Prop:=∀ f vs σ K,C f vs σ K→CallOk B D f vs σ K
structure FnAt (B:Bs) (a:Addr) (n:Nat) (ns:List (Str × NameKind)) (body:List Stmt) (dfl:List PV):Prop where
 ex:∃ o fd,B.h₀.get? a=some o∧o.data=.func fd∧fd.scope.isCoroutine=false∧fd.scope.isGenerator=false∧fd.scope.kind=.function∧fd.body=.stmts body∧fd.scope.names=ns ∧
  B.h₀.CodeRec fd.code fd.qualname∧fd.globals=mainGlobals∧fd.builtins=builtinsNs∧fd.closure=[] ∧
  ∀ (s:Shared) (args:List Value),Le B.h₀ s.heap→args.length≤n→n≤args.length+dfl.length →
   ∃ ds,(∀ F μ,RepL B F μ ds dfl)∧BindsTo s fd ⟨args,[]⟩ (((ns.take n).map (·.1)).zip (args ++ ds.drop (args.length+dfl.length - n)))
structure WOk (B:Bs):Prop where
 g:B.h₀.Ns mainGlobals B.mg
 b:B.h₀.Ns builtinsNs B.mb
 lim:B.h₀.NoLimit
 KX:B.K.In B.h₀
 fn:∀ f ∈ fids,∃ a,B.fa f=some a∧B.mg (fnm f)=some (.ref a)
 fd:∀ f a,B.fa f=some a→∃ o fd,B.h₀.get? a=some o∧o.data=.func fd
 cl:∀ c ∈ cids,∃ C a,B.ca c=some C∧B.fa c=some a∧B.mg (fnm c)=some (.ref C)∧findIn B.K (.ref C) "__init__" = some (some (.ref a))∧typeIn B.K (.ref a)=some (.type "function")
 cls:∀ c C,B.ca c=some C→ClsOk B.K C
 bi:∀ i,B.mg (bnm i)=none∧B.mb (bnm i)=some (bvl i)
end
section
section
variable (B:Bs) (C:Orc) (D:Nat)
def SE (e:CE):Prop:=∀ c,okE c e=true→∀ st K,wE C e st K→∀ A w F μ s,Lv A D→w.sc=c.ns→SR B w F μ st s.heap→wpX (model prg B.w) A (eval (toE c e) w.env) (Pst w.n₀ F μ s (GE B w K)) s
def SN (e:CN):Prop:=∀ c,okN c e=true→∀ st K,wN C e st K→∀ A w F μ s,Lv A D→w.sc=c.ns→SR B w F μ st s.heap→wpX (model prg B.w) A (eval (toN c e) w.env) (Pst w.n₀ F μ s (GN B w K)) s
def GO (B:Bs) (e:Wh) (K:Option PV→St→Prop) (F:Heap) (μ:List Addr) (v:Value) (h:Heap):Prop:=∃ x st,K x st∧SR B e F μ st h∧OV B F μ v x
noncomputable def testsOf (env:Env) (cs:List Expr) (b:Bool):Sem Bool:=forIn cs b fun c r=>if r=true then do let ok ← isTrue c env (eval c env);pure (ForInStep.yield ok) else pure (ForInStep.yield r)
structure SO (e:CO):Prop where
 o:∀ c,okO c e=true→∀ st K,wO C e st K→∀ A w F μ s,Lv A D→w.sc=c.ns→SR B w F μ st s.heap→wpX (model prg B.w) A (valueOrNone (evalOpt (toO c e) w.env)) (Pst w.n₀ F μ s (GO B w K)) s
 c:∀ c,okO c e=true→∀ st K,wC C e st K→∀ A w F μ s,Lv A D→w.sc=c.ns→SR B w F μ st s.heap→wpX (model prg B.w) A (testsOf w.env (toO c e).toList true) (Pst w.n₀ F μ s (GB B w K)) s
 l:∀ c,okO c e=true→∀ st K,wO C e st K→∀ pos A w F μ s,Lv A D→w.sc=c.ns→SR B w F μ st s.heap→wpX (model prg B.w) A (spliced (backTo pos (starEach (toO c e).toList w.env))) (Pst w.n₀ F μ s (GL B w fun l st=>match l with | []=>K none st | [x]=>K (some x) st | _=>False)) s
def KeyEv (c:Cx) {T:Type} [DecidableEq T] (knd:KeyKind prg B.w T) (p:T × Expr):Prop:=∀ (env:Env) (A:Around) (s:Shared) (Q:Value→Shared→Prop),(∀ v,knd.is p.1 v=true→Q v { s with toks:=s.toks+1 })→wpX (model prg B.w) A (eval p.2 env) Q s
def GP (B:Bs) (e:Wh) {T:Type} [DecidableEq T] (knd:KeyKind prg B.w T) (ks:List T) (K:List PV→St→Prop) (F:Heap) (μ:List Addr) (v:List (Value × Value)) (h:Heap):Prop :=
 ∃ x st,K x st∧SR B e F μ st h∧∃ kvs,Carries knd v kvs∧kvs.map (·.1)=ks∧RepL B F μ (kvs.map (·.2)) x
structure SL (e:CL):Prop where
 l:∀ c,okL c e=true→∀ st K,wL C e st K→∀ pos A w F μ s,Lv A D→w.sc=c.ns→SR B w F μ st s.heap→wpX (model prg B.w) A (spliced (backTo pos (starEach (toL c e) w.env))) (Pst w.n₀ F μ s (GL B w K)) s
 b:∀ c,okL c e=true→∀ op st K,wBl C op e st K→∀ pos A w F μ s,Lv A D→w.sc=c.ns→SR B w F μ st s.heap→wpX (model prg B.w) A (boolOp pos op (evalEach (toL c e) w.env)) (Pst w.n₀ F μ s (GE B w fun x st=>match x with | .bool b=>K b st | _=>False)) s
 p:∀ c,okL c e=true→∀ st K,wL C e st K→∀ pos A w F μ s,Lv A D→w.sc=c.ns→SR B w F μ st s.heap→∀ (T:Type) [DecidableEq T] (knd:KeyKind prg B.w T) (ks:List (T × Expr)),(∀ k ∈ ks,KeyEv B c knd k)→ks.length=clen e →
  wpX (model prg B.w) A (evalPairs (pairTrees (ks.map fun k=>some k.2) (toL c e) w.env pos)) (Pst w.n₀ F μ s (GP B w knd (ks.map (·.1)) K)) s
def ST (e:CT):Prop:=∀ c,okT c e=true→∀ st K,wT C e st K→∀ A w F μ s,Lv A D→w.sc=c.ns→SR B w F μ st s.heap→wpX (model prg B.w) A (isTrue (toT c e) w.env (eval (toT c e) w.env)) (Pst w.n₀ F μ s (GB B w K)) s
def STl (e:CTL):Prop:=∀ c,okTl c e=true→∀ op st K,wTl C op e st K→∀ A w F μ s,Lv A D→w.sc=c.ns→SR B w F μ st s.heap→wpX (model prg B.w) A (allTrue op (toTl c e) w.env) (Pst w.n₀ F μ s (GB B w K)) s
end
section
variable {B:Bs} {C:Orc} {D:Nat} {A:Around} {w:Wh} {F:Heap} {μ:List Addr} {s:Shared} {st:St} {c:Cx} {n₀:Nat}
theorem nm_at {i:Nat} {x:Str} {k:NameKind} (h:nth c.ns i=some (x,k)):c.nm i=x:=by unfold Cx.nm;rw [h]
set_option tactic.hygienic true in
theorem name_ok {i:Nat} {pos:Pos} {K:PV→St→Prop} (r:SR B w F μ st s.heap) (hw:w.sc=c.ns) (h:rdW st i K):wpX (model prg B.w) A (eval (.Name (c.nm i) pos) w.env) (Pst w.n₀ F μ s (GE B w K)) s:=by
 unfold rdW at h
 obtain ⟨m,hn,hm⟩:=r.fr.ns
 split at h
 ·rename_i y hy
  obtain ⟨x,k,v,a,b,d⟩:=hm i _ hy
  have hd:=Bool.or_eq_false_iff.mp (r.fr.sc.dbg _ _ _ a)
  rw [nm_at (hw ▸ a)]
  refine Xa_ (wpAny_Name ?_ hd.1)
  rcases d with ⟨rfl,d⟩ | ⟨hk,d,h2,h3⟩
  ·exact wpAny_loadName_local r.fr.sc.kind (r.fr.sc.kindOf a) hn d (pv_ r (.refl _) h b)
  ·rcases hk with rfl | rfl
   ·exact wpAny_loadName_cell r.fr.sc.kind (r.fr.sc.kindOf a) h2 h3 (pv_ r (.refl _) h b)
   ·rcases r.fr.sc.names i x _ a with k | ⟨_,k⟩
    ·exact wpAny_loadName_free r.fr.sc.kind k h2 h3 (pv_ r (.refl _) h b) hd.2
    ·exact wpAny_loadName_cell r.fr.sc.kind k h2 h3 (pv_ r (.refl _) h b)
 ·rename_i y hy
  obtain ⟨x,a,b,d⟩:=hm i _ hy
  rw [nm_at (hw ▸ a)]
  obtain ⟨F',f1,f2,f3⟩:=r.frz hy
  exact Xa_ (wpAny_Name (wpAny_loadName_local r.fr.sc.kind (r.fr.sc.kindOf a) hn b ⟨F',μ,f1,⟨rfl,rfl⟩,_,_,h,f2,f3⟩) (Bool.or_eq_false_iff.mp (r.fr.sc.dbg _ _ _ a)).1)
 ·exact h.elim
theorem glob_ok {i:Nat} {pos:Pos} {x:Str} {v:Value} {Q:Value→Shared→Prop} (wo:WOk B) (r:SR B w F μ st s.heap) (hw:w.sc=c.ns) (hi:isG c i x=true) (hv:B.mg x=some v ∨ (B.mg x=none∧B.mb x=some v)) (h:Q v s) :
  wpX (model prg B.w) A (eval (.Name (c.nm i) pos) w.env) Q s:=by
 have a:=of_decide_eq_true hi
 rw [nm_at a]
 rw [← hw] at a
 refine Xa_ (wpAny_Name ?_ (Bool.or_eq_false_iff.mp (r.fr.sc.dbg _ _ _ a)).1)
 rw [PyProof.Rows.loadName_read r.fr.sc.kind (r.fr.sc.kindOf a)]
 have le:Le B.h₀ s.heap:=r.ss.base.trans r.ss.sub
 rcases hv with hv | ⟨hv,hw⟩
 ·exact loadGlobal_global (mg:=B.mg) (by rw [r.fr.sc.glb];exact ns_at wo.g fun o=>le _ o) hv h
 ·exact loadGlobal_builtin (mg:=B.mg) (mb:=B.mb) (by rw [r.fr.sc.glb];exact ns_at wo.g fun o=>le _ o) hv (by rw [r.fr.sc.bi.1];exact ns_at wo.b fun o=>le _ o) hw h
theorem bts_lit {l:List Int} (h:isLit (.bytes l)=true):bts (l.map fun i=>UInt8.ofNat i.toNat).toArray=l∧l.length≤1000000:=by
 have k:∀ i ∈ l,(decide (0≤i) && decide (i < 256) && decide (l.length≤1000))=true:=List.all_eq_true.mp h
 refine ⟨?_,?_⟩
 ·unfold bts
  rw [List.map_map]
  refine (List.map_congr_left fun i hi=>?_).trans (List.map_id l)
  have:=k i hi
  simp only [Bool.and_eq_true,decide_eq_true_eq] at this
  show (((UInt8.ofNat i.toNat).toNat:Nat):Int)=i
  rw [UInt8.toNat_ofNat',Nat.mod_eq_of_lt (L.q52 this)];exact L.q53 this
 ·cases l with
  | nil=>exact Nat.zero_le _
  | cons i l=>have:=of_decide_eq_true (and_r (k i List.mem_cons_self));exact L.q54 this
set_option tactic.hygienic true in
theorem s_lit (n:Nat) (x:PV):SE B C D (.lit n x):=fun c ok st K h A w F μ s lv hw r=>by
 show wpX _ _ (constValue w.env (cst x)) _ s
 induction x using PV.casesOn <;> try exact absurd ok Bool.false_ne_true
 case none=>exact p_pure ⟨_,_,h,r,rfl⟩
 case bool=>exact p_pure ⟨_,_,h,r,rfl⟩
 case int=>exact Xa_ fun _ _ _=>pv_ r (.toks _ _) h ⟨_,rfl⟩
 case str=>exact Xa_ fun _ _ _=>pv_ r (.toks _ _) h ⟨_,rfl⟩
 case bytes l=>exact Xa_ fun _ _ _=>pv_ r (.toks _ _) h ⟨_,_,rfl,bts_lit ok⟩
theorem s_loc (n i:Nat):SE B C D (.loc n i):=fun c ok st K h A w F μ s lv hw r=>name_ok r hw h
theorem s_fnv (wo:WOk B) (n i f:Nat):SE B C D (.fnv n i f):=fun c ok st K h A w F μ s lv hw r =>
 by obtain ⟨a,e1,e2⟩:=wo.fn f (List.contains_iff_mem.mp (and_r ok));exact glob_ok wo r hw (and_l ok) (.inl e2) (pv_ r (.refl _) h ⟨a,rfl,e1⟩)
theorem s_bin {n:Nat} {op:Operator} {a b:CE} (ha:SE B C D a) (hb:SE B C D b):SE B C D (.bin n op a b):=fun c ok st K h A w F μ s lv hw r =>
 pE (ha c (and_l ok) _ _ h A w F μ s lv hw r) fun F₁ μ₁ u s₁ x st₁ X₁ h₁ r₁ p₁ =>
 pE (Xh_ (hb c (and_r ok) _ _ h₁ A w F₁ μ₁ s₁ lv hw r₁)) fun F₂ μ₂ v s₂ y st₂ X₂ h₂ r₂ p₂=>by
  replace h₂:=asI_e h₂;obtain ⟨i,rfl,h₂⟩:=h₂
  replace h₂:=asI_e h₂;obtain ⟨j,rfl,h₂⟩:=h₂
  obtain ⟨t,rfl⟩:=p₁
  obtain ⟨t',rfl⟩:=p₂
  exact Xb_ (Xt_ (X_operate (binI_ok r₂ h₂)))
theorem s_tadd {n:Nat} {a b:CE} (ha:SE B C D a) (hb:SE B C D b):SE B C D (.tadd n a b):=fun c ok st K h A w F μ s lv hw r =>
 pE (ha c (and_l ok) _ _ h A w F μ s lv hw r) fun F₁ μ₁ u s₁ x st₁ X₁ h₁ r₁ p₁ =>
 pE (Xh_ (hb c (and_r ok) _ _ h₁ A w F₁ μ₁ s₁ lv hw r₁)) fun F₂ μ₂ v s₂ y st₂ X₂ h₂ r₂ p₂=>by
  replace h₂:=asT_e h₂;obtain ⟨i,rfl,h₂⟩:=h₂
  replace h₂:=asT_e h₂;obtain ⟨j,rfl,h₂⟩:=h₂
  cases i with
  | nil=>exact h₂.elim
  | cons i₀ i=>cases j with
   | nil=>exact h₂.elim
   | cons j₀ j =>
    obtain ⟨hz,h₂⟩:=bd_e h₂
    rw [List.length_append] at hz
    exact Xb_ (Xt_ (X_operate (tadd_ok r₂ (p₁.mono X₂.fm X₂.pre) p₂ (List.cons_ne_nil _ _) (List.cons_ne_nil _ _) (Nat.le_trans hz (by decide)) h₂)))
theorem s_neg {n:Nat} {a:CE} (ha:SE B C D a):SE B C D (.neg n a):=fun c ok st K h A w F μ s lv hw r =>
 pE (ha c ok _ _ h A w F μ s lv hw r) fun F₁ μ₁ u s₁ x st₁ X₁ h₁ r₁ p₁=>by
  replace h₁:=asI_e h₁;obtain ⟨i,rfl,h₁⟩:=h₁
  obtain ⟨t,rfl⟩:=p₁
  exact Xb_ (Xt_ (Xh_ (Xa_ (neg_int (int_ok r₁ h₁)))))
theorem s_ifx {n:Nat} {t:CT} {a b:CE} (ht:ST B C D t) (ha:SE B C D a) (hb:SE B C D b):SE B C D (.ifx n t a b):=fun c ok st K h A w F μ s lv hw r =>
 pB (ht c (and_l ok) _ _ h A w F μ s lv hw r) fun F₁ μ₁ v s₁ st₁ X₁ h₁ r₁=>by
  cases v
  ·exact hb c (and_r (and_r ok)) _ _ ((br_e h₁).2 rfl) A w F₁ μ₁ s₁ lv hw r₁
  ·exact ha c (and_l (and_r ok)) _ _ ((br_e h₁).1 rfl) A w F₁ μ₁ s₁ lv hw r₁
theorem s_bl {n:Nat} {op:BoolOp} {l:CL} (hl:SL B C D l):SE B C D (.bl n op l):=fun c ok st K h A w F μ s lv hw r =>
 p_then (hl.b c ok op st _ h _ A w F μ s lv hw r) fun F₁ μ₁ v s₁ X z1_=>by obtain ⟨x,st₁,k,r₁,p⟩:=z1_;exact .grown (.refl _) ⟨x,st₁,by induction x using PV.casesOn <;> first | exact k | exact k.elim,r₁,p⟩
set_option tactic.hygienic true in
theorem marked_eq (e:CE) (c:Cx) (op:CmpOp) (t:Sem Value):markedBehindIn op (toE c e) t=t:=by
 induction e using CE.casesOn <;> try rfl
 case fz a=>induction a using CN.casesOn <;> rfl
 case th a=>induction a using CN.casesOn <;> rfl
theorem s_cmp {n:Nat} {op:CmpOp} {a b:CE} (ha:SE B C D a) (hb:SE B C D b):SE B C D (.cmp n op a b):=fun c ok st K h A w F μ s lv hw r =>
 pE (ha c (and_l ok) _ _ h A w F μ s lv hw r) fun F₁ μ₁ u s₁ x st₁ X₁ h₁ r₁ p₁=>by
  show wpX _ _ (compareChain (c.P n) u [op] [markedBehindIn op (toE c b) (eval (toE c b) w.env)]) _ s₁
  rw [marked_eq]
  exact pE (Xh_ (hb c (and_r ok) _ _ h₁ A w F₁ μ₁ s₁ lv hw r₁)) fun F₂ μ₂ v s₂ y st₂ X₂ h₂ r₂ p₂ =>
   by obtain ⟨t,k,q⟩:=cmpW_ok lv.rm r₂.ss (p₁.mono X₂.fm X₂.pre) p₂ h₂;exact Xb_ (Xt_ (X_operate (Xa_ (q _ (pv_ r₂ (.refl _) k rfl)))))
theorem s_tup {n:Nat} {l:CL} (hl:SL B C D l):SE B C D (.tup n l):=fun c ok st K h A w F μ s lv hw r =>
 Xb_ (Xt_ (pL (hl.l c ok _ _ h _ A w F μ s lv hw r) fun F₁ μ₁ vs s₁ x st₁ X₁ h₁ r₁ p₁=>by
  obtain ⟨hz,h₁⟩:=bd_e h₁
  exact Xa_ (wpAny_newTuple (pf_ (x:=.tup x) r₁ (.push _ _) h₁ ⟨_,⟨0,Heap.get?_push_size _ rfl⟩,p₁,Nat.le_trans hz (by decide)⟩ (Nat.le_refl _)) (by rw [p₁.length,sizeLine_eq];exact L.q55 hz))))
theorem Xs_ {α β γ:Type} {M:Model} {m:Sem α} {g:α→Sem β} {f:β→Sem γ} {Q:γ→Shared→Prop} (h:wpX M A (m >>= fun x=>g x >>= f) Q s):wpX M A ((m >>= g) >>= f) Q s:=fun Γ p hΓ hc=>by
 have h:=h Γ p hΓ hc
 simp only [Sem.wp_bind'] at h ⊢
 exact h
theorem Xo_ {α β:Type} {M:Model} {vs:List Value} {m:Sem α} {f:α→Sem β} {Q:β→Shared→Prop} (h:wpX M A (m >>= f) Q s):wpX M A (holding vs m >>= f) Q s:=fun Γ p hΓ hc=>by
 have h:=h Γ p hΓ hc
 rw [Sem.wp_bind'] at h ⊢
 rw [Sem.wp_holding]
 exact h
theorem s_tix {n:Nat} {a:CE} {k:Nat} (ha:SE B C D a):SE B C D (.tix n a k):=fun c ok st K h A w F μ s lv hw r =>
 pE (ha c ok _ _ h A w F μ s lv hw r) fun F₁ μ₁ u s₁ x st₁ X₁ h₁ r₁ p₁ =>
 Xb_ (Xh_ (Xa_ (wpAny_Constant_int (p_grown (.toks s₁ _) (Xb_ (Xt_ (tixW_ok (r₁.grown (.toks _ _)) p₁ h₁)))))))
theorem s_item {n:Nat} {a i:CE} (ha:SE B C D a) (hi:SE B C D i):SE B C D (.item n a i):=fun c ok st K h A w F μ s lv hw r =>
 pE (ha c (and_l ok) _ _ h A w F μ s lv hw r) fun F₁ μ₁ u s₁ x st₁ X₁ h₁ r₁ p₁ =>
 pE (Xh_ (hi c (and_r ok) _ _ h₁ A w F₁ μ₁ s₁ lv hw r₁)) fun F₂ μ₂ v s₂ y st₂ X₂ h₂ r₂ p₂ =>
 Xb_ (Xt_ (itemW_ok r₂ (p₁.mono X₂.fm X₂.pre) p₂ h₂))
theorem s_slice {n:Nat} {a:CE} {lo hi:CO} (ha:SE B C D a) (hl:SO B C D lo) (hh:SO B C D hi):SE B C D (.slice n a lo hi):=fun c ok st K h A w F μ s lv hw r =>
 pE (ha c (and_l ok) _ _ h A w F μ s lv hw r) fun F₁ μ₁ u s₁ x st₁ X₁ h₁ r₁ p₁ =>
 Xo_ (Xs_ (p_bind (hl.o c (and_l (and_r ok)) _ _ h₁ A w F₁ μ₁ s₁ lv hw r₁) fun F₂ μ₂ kl s₂ X₂ z1_=>by
  obtain ⟨y,st₂,h₂,r₂,p₂⟩:=z1_
  refine Xs_ (Xo_ (p_bind (hh.o c (and_r (and_r ok)) _ _ h₂ A w F₂ μ₂ s₂ lv hw r₂) fun F₃ μ₃ kh s₃ X₃ z2_=>?_))
  obtain ⟨z,st₃,h₃,r₃,p₃⟩:=z2_
  obtain ⟨l,h₃,q1,n1⟩:=sl_part (p₂.mono X₃.fm X₃.pre) h₃
  obtain ⟨m,h₃,q2,n2⟩:=sl_part p₃ h₃
  exact Xs_ (Xo_ (Xb_ (Xp_ (Xb_ (Xa_ (wpAny_newObj_type (Xb_ (Xt_ (sliceW_ok r₃ (p₁.mono (X₂.trans X₃).fm (X₂.trans X₃).pre) q1 q2 n1 n2 h₃))) (by size_fits)))))))))
theorem const_str {M:Model} {x:Str} {k pos} {env:Env} {E:Value→Shared→Prop} {Q:Value→Shared→Prop} (h:Q (.str x s.toks) { s with toks:=s.toks+1 }):wpAny M A (eval (.Constant (.str x) k pos) env) Q E s:=fun _ _ _=>h
set_option tactic.hygienic true in
theorem key_ok {v:Value} {x:PV} {k:Nat} {t:Tok} {value slice:Expr} {K:PV→St→Prop} (r:SR B w F μ st s.heap) (ha:Rep B F μ v x)
  (h:drf st.s x fun x=>match x with | .sd ks vs=>lt k 2 (match lk ks vs k with | some y=>K y st | none=>False) | _=>False) :
  wpX (model prg B.w) A (subscriptTail value slice v (.str (skey k) t)) (Pst n₀ F μ s (GE B w K)) s:=by
 obtain ⟨z,h,cn⟩:=drf_e r.ss ha h
 induction z using PV.casesOn <;> try exact h.elim
 rename_i ks vs
 obtain ⟨hk,h⟩:=lt_e h
 obtain ⟨a,rfl,kvs,q,q2,q3,q4⟩:=cn
 cases hx:lk ks vs k with
 | none=>simp only [hx] at h
 | some y =>
  simp only [hx] at h
  obtain ⟨u,h1,h2⟩:=lk_e (fun i e m=>skey_inj (q4 i m) hk e) q2 q3 hx
  exact sub_tl q.typeIs slot_dict_getitem.lookup (wpAny_getItem_of (strKind_is prg B.w (skey k) _) q.mapOf h1 (pv_ r (.toks _ _) h h2))
theorem s_key {n:Nat} {a:CE} {k:Nat} (ha:SE B C D a):SE B C D (.key n a k):=fun c ok st K h A w F μ s lv hw r =>
 pE (ha c ok _ _ h A w F μ s lv hw r) fun F₁ μ₁ u s₁ x st₁ X₁ h₁ r₁ p₁ =>
 Xb_ (Xh_ (Xa_ (const_str (p_grown (.toks s₁ _) (Xb_ (Xt_ (key_ok (r₁.grown (.toks _ _)) p₁ h₁)))))))
set_option tactic.hygienic true in
theorem attributeBase_plain {o:Expr} (h:plainBase o=true) (name:Str) (env:Env) (whole:Sem Value):attributeBase o name env whole=whole:=by
 induction o using Expr.casesOn <;> try rfl
 rename_i f as ks pos
 induction f using Expr.casesOn <;> try rfl
 rename_i id p
 cases as <;> try rfl
 cases ks <;> try rfl
 have:(id != "super")=true:=h
 unfold attributeBase
 dsimp only
 rw [this]
 rfl
set_option tactic.hygienic true in
theorem s_attr (wo:WOk B) {n:Nat} {a:CE} {j:Nat} (ha:SE B C D a):SE B C D (.attr n a j):=fun c ok st K h A w F μ s lv hw r=>by
 show wpX _ _ (do
  let v ← attributeBase (toE c a) (an j) w.env (eval (toE c a) w.env)
  standAt (c.P n).atName
  let r ← holding [v] (getAttr v (an j) true)
  letTemporaryGo (toE c a) v r
  pure r) _ s
 rw [attributeBase_plain (and_l ok)]
 refine pE (ha c (and_r ok) _ _ h A w F μ s lv hw r) fun F₁ μ₁ v s₁ x st₁ X₁ h₁ r₁ p₁=>?_
 induction x using PV.casesOn <;> try exact h₁.elim
 obtain ⟨y,hy,h₁⟩:=gs_e h₁
 induction y using PV.casesOn <;> try exact h₁.elim
 rename_i ks vs
 have key {x:PV} (hx:lk ks vs j=some x) (h:nA x (K x st₁)):wpX (model prg B.w) A (do standAt (c.P n).atName;let r ← holding [v] (getAttr v (an j) true);letTemporaryGo (toE c a) v r;pure r) (Pst w.n₀ F₁ μ₁ s₁ (GE B w K)) s₁ :=
  Xb_ (Xt_ (p_bind (Xh_ (getAttr_ok (wo.cls _) wo.KX r₁ p₁ hy hx h)) fun F₂ μ₂ u s₂ X₂ g=>Xb_ (Xa_ (wpAny_letTemporaryGo (p_pure g)))))
 cases hx:lk ks vs j with
 | none=>simp only [hx] at h₁
 | some x=>simp only [hx] at h₁;exact key hx h₁
theorem s_fz {a:CN} (ha:SN B C D a):SE B C D (.fz a):=fun c ok st K h A w F μ s lv hw r=>p_fz (ha c ok _ _ h A w F μ s lv hw r)
theorem s_th {a:CN} (ha:SN B C D a):SE B C D (.th a):=fun c ok st K h A w F μ s lv hw r=>p_th (ha c ok _ _ h A w F μ s lv hw r)
end
end
section
section
variable {B:Bs} {C:Orc} {D:Nat} {A:Around} {w:Wh} {F:Heap} {μ:List Addr} {s:Shared} {st:St} {c:Cx} {n₀:Nat}
set_option tactic.hygienic true in
theorem starEach_cons (e:CE) (c:Cx) (r:List Expr) (env:Env):starEach (toE c e :: r) env=(false,eval (toE c e) env) :: starEach r env:=by
 induction e using CE.casesOn <;> try rfl
 case fz a=>induction a using CN.casesOn <;> rfl
 case th a=>induction a using CN.casesOn <;> rfl
theorem l_nil:SL B C D .nil where
 l:=fun c ok st K h pos A w F μ s lv hw r=>p_pure ⟨_,_,h,r,rfl⟩
 b:=fun c ok op st K h pos A w F μ s lv hw r=>(show False from h).elim
 p:=fun c ok st K h pos A w F μ s lv hw r T _ knd ks hk hl=>by
  cases ks with
  | nil=>exact p_pure ⟨_,_,h,r,[],trivial,rfl,rfl⟩
  | cons _ _=>exact nomatch hl
theorem bl_e {op:BoolOp} {a a':CE} {l:CL} {K:Bool→St→Prop} (h:wBl C op (.cons a (.cons a' l)) st K):wE C a st fun x st=>asB x fun b=>match (generalizing:=false) op with | .And=>br b (wBl C op (.cons a' l) st K) (K false st) | .Or=>br b (K true st) (wBl C op (.cons a' l) st K):=h
theorem pbl {K:Bool→St→Prop} {b:Bool} (r:SR B w F μ st s.heap) (h:K b st) {M:Model}:wpX M A (pure (.bool b)) (Pst n₀ F μ s (GE B w fun x st=>match x with | .bool b=>K b st | _=>False)) s:=p_pure ⟨.bool b,_,h,r,rfl⟩
theorem l_cons {a:CE} {l:CL} (ha:SE B C D a) (hl:SL B C D l):SL B C D (.cons a l) where
 l:=fun c ok st K h pos A w F μ s lv hw r=>by
  show wpX _ _ (spliced (backTo pos (starEach (toE c a :: toL c l) w.env))) _ s
  rw [starEach_cons]
  exact pE (ha c (and_l ok) _ _ h A w F μ s lv hw r) fun F₁ μ₁ v s₁ x st₁ X₁ h₁ r₁ p₁ =>
   Xb_ (Xp_ (pL (Xh_ (hl.l c (and_r ok) _ _ h₁ pos A w F₁ μ₁ s₁ lv hw r₁)) fun F₂ μ₂ vs s₂ xs st₂ X₂ h₂ r₂ p₂=>p_pure ⟨_,_,h₂,r₂,_,_,rfl,p₁.mono X₂.fm X₂.pre,p₂⟩))
 b:=fun c ok op st K h pos A w F μ s lv hw r=>by
  cases l with
  | nil=>exact p_then (ha c (and_l ok) _ _ h A w F μ s lv hw r) fun F₁ μ₁ v s₁ X z1_=>by obtain ⟨x,st₁,k,r₁,p⟩:=z1_;exact .grown (.refl _) ⟨x,st₁,k,r₁,p⟩
  | cons a' l' =>
   exact pE (ha c (and_l ok) _ _ (bl_e h) A w F μ s lv hw r) fun F₁ μ₁ v s₁ x st₁ X₁ h₁ r₁ p₁=>by
    replace h₁:=asB_e h₁;obtain ⟨b,rfl,h₁⟩:=h₁
    obtain rfl:=p₁
    refine Xb_ (Xt_ (Xb_ (Xh_ (Xa_ (wpAny_truthy_bool ?_)))))
    induction op using BoolOp.casesOn <;> cases b
    ·exact pbl r₁ ((br_e h₁).2 rfl)
    ·exact hl.b c (and_r ok) _ _ _ ((br_e h₁).1 rfl) pos A w F₁ μ₁ s₁ lv hw r₁
    ·exact hl.b c (and_r ok) _ _ _ ((br_e h₁).2 rfl) pos A w F₁ μ₁ s₁ lv hw r₁
    ·exact pbl r₁ ((br_e h₁).1 rfl)
 p:=fun c ok st K h pos A w F μ s lv hw r T _ knd ks hk hz=>by
  cases ks with
  | nil=>exact nomatch hz
  | cons k ks =>
   show wpX _ _ (do
    let kv ← eval k.2 w.env
    let vv ← holding [kv] (do let x ← eval (toE c a) w.env;standAt pos;pure x)
    return (kv,vv) :: (← holding [kv,vv] (evalPairs (pairTrees (ks.map fun k=>some k.2) (toL c l) w.env pos)))) _ s
   refine Xb_ (hk k List.mem_cons_self _ _ _ _ fun v hv=>p_grown (.toks s _) ?_)
   refine Xo_ (Xs_ (pE (ha c (and_l ok) _ _ h A w F μ _ lv hw (r.grown (.toks _ _))) fun F₁ μ₁ u s₁ x st₁ X₁ h₁ r₁ p₁=>Xs_ (Xb_ (Xt_ (Xb_ (Xp_ ?_))))))
   exact p_bind (Xh_ (hl.p c (and_r ok) _ _ h₁ pos A w F₁ μ₁ s₁ lv hw r₁ T knd ks (fun k m=>hk k (List.mem_cons_of_mem _ m)) (Nat.succ.inj hz))) fun F₂ μ₂ ps s₂ X₂ z1_=>by
    obtain ⟨xs,st₂,h₂,r₂,kvs,c1,c2,c3⟩:=z1_
    exact p_pure ⟨_,_,h₂,r₂,(k.1,u) :: kvs,⟨hv,rfl,c1⟩,congrArg (k.1 :: ·) c2,_,_,rfl,p₁.mono X₂.fm X₂.pre,c3⟩
theorem o_no:SO B C D .no where
 o:=fun c ok st K h A w F μ s lv hw r=>p_pure ⟨_,_,h,r,rfl⟩
 c:=fun c ok st K h A w F μ s lv hw r=>p_pure ⟨_,h,r⟩
 l:=fun c ok st K h pos A w F μ s lv hw r=>p_pure ⟨[],_,h,r,rfl⟩
theorem o_so {e:CE} (he:SE B C D e):SO B C D (.so e) where
 o:=fun c ok st K h A w F μ s lv hw r=>p_then (he c ok _ _ h A w F μ s lv hw r) fun F₁ μ₁ v s₁ X z2_=>by obtain ⟨x,st₁,k,r₁,p⟩:=z2_;exact .grown (.refl _) ⟨some x,st₁,k,r₁,p⟩
 c:=fun c ok st K h A w F μ s lv hw r=>(show False from h).elim
 l:=fun c ok st K h pos A w F μ s lv hw r=>by
  show wpX _ _ (spliced (backTo pos (starEach [toE c e] w.env))) _ s
  rw [starEach_cons]
  exact pE (he c ok _ _ h A w F μ s lv hw r) fun F₁ μ₁ v s₁ x st₁ X₁ h₁ r₁ p₁=>Xb_ (Xp_ (Xb_ (Xh_ (Xp_ (p_pure ⟨[x],_,h₁,r₁,_,_,rfl,p₁,rfl⟩)))))
theorem o_te {t:CT} (ht:ST B C D t):SO B C D (.te t) where
 o:=fun c ok st K h A w F μ s lv hw r=>(show False from h).elim
 c:=fun c ok st K h A w F μ s lv hw r=>by
  show wpX _ _ (testsOf w.env [toT c t] true) _ s
  unfold testsOf
  rw [List.forIn_cons,if_pos rfl]
  exact Xs_ (pB (ht c ok _ _ h A w F μ s lv hw r) fun F₁ μ₁ v s₁ st₁ X₁ h₁ r₁=>Xb_ (Xp_ (p_pure ⟨_,h₁,r₁⟩)))
 l:=fun c ok st K h pos A w F μ s lv hw r=>(show False from h).elim
set_option tactic.hygienic true in
theorem isTrue_plain {e:CE} (h:isPl e=true) (c:Cx) (env:Env):isTrue (toE c e) env (eval (toE c e) env)=(do let v ← eval (toE c e) env;standAt (toE c e).pos;holding [v] (truthy v)):=by
 revert h;induction e using CE.casesOn <;> intro h <;> first | rfl | exact absurd h Bool.false_ne_true | skip
 case fz a=>induction a using CN.casesOn <;> rfl
 case th a=>induction a using CN.casesOn <;> rfl
theorem t_val {a:CE} (ha:SE B C D a):ST B C D (.val a):=fun c ok st K h A w F μ s lv hw r=>by
 show wpX _ _ (isTrue (toE c a) w.env (eval (toE c a) w.env)) _ s
 rw [isTrue_plain (and_l ok)]
 exact pE (ha c (and_r ok) _ _ h A w F μ s lv hw r) fun F₁ μ₁ v s₁ x st₁ X₁ h₁ r₁ p₁ =>
  by obtain ⟨t,k,q⟩:=trW_ok p₁ h₁;exact Xb_ (Xt_ (Xh_ (Xa_ (q _ (.grown (.refl _) ⟨_,k,r₁⟩)))))
theorem t_nt {n:Nat} {t:CT} (ht:ST B C D t):ST B C D (.nt n t):=fun c ok st K h A w F μ s lv hw r=>by
 show wpX _ _ (isTrue (.UnaryOp .Not (toT c t) (c.P n)) w.env _) _ s
 rw [arm_isTrue_UnaryOp]
 exact pB (ht c ok _ _ h A w F μ s lv hw r) fun F₁ μ₁ v s₁ st₁ X₁ h₁ r₁=>p_pure ⟨_,h₁,r₁⟩
theorem t_bl {n:Nat} {op:BoolOp} {l:CTL} (hl:STl B C D l):ST B C D (.bl n op l):=fun c ok st K h A w F μ s lv hw r=>by
 show wpX _ _ (isTrue (.BoolOp op (toTl c l) (c.P n)) w.env _) _ s
 rw [arm_isTrue_BoolOp]
 exact hl c ok _ _ _ h A w F μ s lv hw r
theorem t_cmp {n:Nat} {op:CmpOp} {a b:CE} (ha:SE B C D a) (hb:SE B C D b):ST B C D (.cmp n op a b):=fun c ok st K h A w F μ s lv hw r=>by
 show wpX _ _ (isTrue (.Compare (toE c a) [op] [toE c b] (c.P n)) w.env _) _ s
 rw [arm_isTrue_Compare]
 exact pE (ha c (and_l ok) _ _ h A w F μ s lv hw r) fun F₁ μ₁ u s₁ x st₁ X₁ h₁ r₁ p₁=>by
  show wpX _ _ (testChain (c.P n) u [op] [markedBehindIn op (toE c b) (eval (toE c b) w.env)]) _ s₁
  rw [marked_eq]
  exact pE (Xh_ (hb c (and_r ok) _ _ h₁ A w F₁ μ₁ s₁ lv hw r₁)) fun F₂ μ₂ v s₂ y st₂ X₂ h₂ r₂ p₂ =>
   by obtain ⟨t,k,q⟩:=cmpW_ok lv.rm r₂.ss (p₁.mono X₂.fm X₂.pre) p₂ h₂;exact Xb_ (Xt_ (Xb_ (X_operate (Xa_ (q _ (Xh_ (Xa_ (wpAny_truthy_bool (.grown (.refl _) ⟨_,k,r₂⟩)))))))))
theorem t_cmp2 {n:Nat} {o p:CmpOp} {a b d:CE} (ha:SE B C D a) (hb:SE B C D b) (hd:SE B C D d):ST B C D (.cmp2 n o p a b d):=fun c ok st K h A w F μ s lv hw r=>by
 show wpX _ _ (isTrue (.Compare (toE c a) [o,p] [toE c b,toE c d] (c.P n)) w.env _) _ s
 rw [arm_isTrue_Compare]
 exact pE (ha c (and_l ok) _ _ h A w F μ s lv hw r) fun F₁ μ₁ u s₁ x st₁ X₁ h₁ r₁ p₁=>by
  show wpX _ _ (do
      let rv ← holding [u] (eval (toE c b) w.env)
      standAt (c.P n)
      let t ← holding [u,rv] (compareOp o u rv)
      release [u,rv] [t]
      if ← holding [t,rv] (truthy t) then testChain (c.P n) rv [p] [markedBehindIn p (toE c d) (eval (toE c d) w.env)] else pure false) _ s₁
  rw [marked_eq]
  exact pE (Xh_ (hb c (and_l (and_r ok)) _ _ h₁ A w F₁ μ₁ s₁ lv hw r₁)) fun F₂ μ₂ v s₂ y st₂ X₂ h₂ r₂ p₂=>by
   obtain ⟨t,k,q⟩:=cmpW_ok lv.rm r₂.ss (p₁.mono X₂.fm X₂.pre) p₂ h₂
   refine Xb_ (Xt_ (Xb_ (Xh_ (Xa_ (q _ (Xb_ (X_release (Xb_ (Xh_ (Xa_ (wpAny_truthy_bool ?_)))))))))))
   cases t
   ·exact p_pure ⟨_,(br_e k).2 rfl,r₂⟩
   ·exact pE (Xh_ (hd c (and_r (and_r ok)) _ _ ((br_e k).1 rfl) A w F₂ μ₂ s₂ lv hw r₂)) fun F₃ μ₃ z s₃ y' st₃ X₃ h₃ r₃ p₃ =>
     by obtain ⟨t,k,q⟩:=cmpW_ok lv.rm r₃.ss (p₂.mono X₃.fm X₃.pre) p₃ h₃;exact Xb_ (Xt_ (Xb_ (X_operate (Xa_ (q _ (Xh_ (Xa_ (wpAny_truthy_bool (.grown (.refl _) ⟨_,k,r₃⟩)))))))))
theorem tl_nil:STl B C D .nil:=fun c ok op st K h A w F μ s lv hw r=>by induction op using BoolOp.casesOn <;> exact p_pure ⟨_,h,r⟩
theorem tl_cons {t:CT} {l:CTL} (ht:ST B C D t) (hl:STl B C D l):STl B C D (.cons t l):=fun c ok op st K h A w F μ s lv hw r=>by
 show wpX _ _ (do match op,← isTrue (toT c t) w.env (eval (toT c t) w.env) with | .And,false=>pure false | .Or,true=>pure true | _,_=>allTrue op (toTl c l) w.env) _ s
 induction op using BoolOp.casesOn
 ·exact pB (ht c (and_l ok) _ _ h A w F μ s lv hw r) fun F₁ μ₁ v s₁ st₁ X₁ h₁ r₁=>by
   cases v
   ·exact p_pure ⟨_,(br_e h₁).2 rfl,r₁⟩
   ·exact hl c (and_r ok) _ _ _ ((br_e h₁).1 rfl) A w F₁ μ₁ s₁ lv hw r₁
 ·exact pB (ht c (and_l ok) _ _ h A w F μ s lv hw r) fun F₁ μ₁ v s₁ st₁ X₁ h₁ r₁=>by
   cases v
   ·exact hl c (and_r ok) _ _ _ ((br_e h₁).2 rfl) A w F₁ μ₁ s₁ lv hw r₁
   ·exact p_pure ⟨_,(br_e h₁).1 rfl,r₁⟩
end
end
section
noncomputable def Wh.tmps (e:Wh) (l:List Addr) (h:Heap):Wh:={ e with tm:=fun b=>if b ∈ l then h.get? b else e.tm b }
section
variable {B:Bs} {C:Orc} {D:Nat} {A:Around} {w:Wh} {F:Heap} {μ:List Addr} {s:Shared} {st:St} {c:Cx} {n₀:Nat} {K:PV→St→Prop} {h h' h₀:Heap} {l:List Addr} {r:List LV}
theorem is_tmps {t:Tg} {b:Addr} (hb:b ∉ l):Is (w.tmps l h) r t b ↔ Is w r t b:=by
 induction t using Tg.casesOn <;> try exact Iff.rfl
 show (if b ∈ l then h.get? b else w.tm b).isSome=true ↔ _
 rw [if_neg hb];exact Iff.rfl
theorem NameAt.tmps {m:Str→Option Value} {i:Nat} {y:LV}:NameAt B (w.tmps l h₀) F μ h m i y ↔ NameAt B w F μ h m i y:=by induction y using LV.casesOn <;> exact Iff.rfl
theorem ScOk.tmps (s:ScOk w):ScOk (w.tmps l h):=⟨s.kind,s.names,s.dbg,s.inj,s.glb,s.bi,s.L0,s.cinj⟩
theorem ScOk.untmps (s:ScOk (w.tmps l h)):ScOk w:=⟨s.kind,s.names,s.dbg,s.inj,s.glb,s.bi,s.L0,s.cinj⟩
theorem SR.tmps (f:SR B w F μ st h) (nw:∀ b ∈ l,Nw w st.r F μ b):SR B (w.tmps l h) F μ st h:=by
 have tm {t:Tg} {b:Addr} (hb:b ∈ l) (x:Is (w.tmps l h) st.r t b):t=.tmp:=by cases t with
  | tmp=>rfl
  | loc=>exact absurd x ((nw b hb).2.2.2 .loc)
  | cell=>exact absurd x ((nw b hb).2.2.2 .cell)
  | own i=>exact absurd x ((nw b hb).2.2.2 (.own i))
 refine ⟨f.ss,⟨f.fr.sc.tmps,f.fr.cell,fun t b x=>?_,fun t t' b x y=>?_,by obtain ⟨m,a,k⟩:=f.fr.ns;exact ⟨m,a,fun i y q=>NameAt.tmps.mpr (k i y q)⟩,fun b o q=>?_⟩⟩
 ·by_cases hb:b ∈ l
  ·obtain rfl:=tm hb x
   have x:(if b ∈ l then h.get? b else w.tm b).isSome=true:=x
   rw [if_pos hb] at x
   exact ⟨Option.isSome_iff_exists.mp x,(nw b hb).1,(nw b hb).2.1⟩
  ·exact f.fr.ap t b ((is_tmps hb).mp x)
 ·by_cases hb:b ∈ l
  ·exact (tm hb x).trans (tm hb y).symm
  ·exact f.fr.dj t t' b ((is_tmps hb).mp x) ((is_tmps hb).mp y)
 ·have q:(if b ∈ l then h.get? b else w.tm b)=some o:=q
  split at q
  ·exact q
  ·exact f.fr.tmp b o q
theorem SR.untmps (f:SR B (w.tmps l h₀) F μ st h) (hn:∀ b ∈ l,w.tm b=none) (hx:∀ b ∈ l,w.n₀≤b) (he:∀ b ∈ l,∃ o,h₀.get? b=some o) :
  SR B w F μ st h∧(∀ b ∈ l,∀ o,h₀.get? b=some o→h.get? b=some o)∧∀ b ∈ l,Nw w st.r F μ b:=by
 have i0 {t:Tg} {b:Addr} (x:Is w st.r t b):Is (w.tmps l h₀) st.r t b:=by
  induction t using Tg.casesOn <;> try exact x
  show (if b ∈ l then h₀.get? b else w.tm b).isSome=true
  split
  ·rename_i hb;have x:(w.tm b).isSome=true:=x;rw [hn b hb] at x;exact nomatch x
  ·exact x
 have at_ {b:Addr} (hb:b ∈ l) {o:Obj} (ho:h₀.get? b=some o):(w.tmps l h₀).tm b=some o:=(if_pos hb).trans ho
 refine ⟨⟨f.ss,⟨f.fr.sc.untmps,f.fr.cell,fun t b x=>f.fr.ap t b (i0 x),fun t t' b x y=>f.fr.dj t t' b (i0 x) (i0 y),by obtain ⟨m,a,k⟩:=f.fr.ns;exact ⟨m,a,fun i y q=>NameAt.tmps.mp (k i y q)⟩,fun b o q=>?_⟩⟩,
  fun b hb o ho=>f.fr.tmp b o (at_ hb ho),fun b hb=>?_⟩
 ·refine f.fr.tmp b o ?_
  show (if b ∈ l then h₀.get? b else w.tm b)=some o
  rw [if_neg fun hb=>by rw [hn b hb] at q;exact nomatch q];exact q
 ·obtain ⟨o,ho⟩:=he b hb
  have is:Is (w.tmps l h₀) st.r .tmp b:=by show ((w.tmps l h₀).tm b).isSome=true;rw [at_ hb ho];rfl
  have a:=f.fr.ap _ b is
  refine ⟨a.2.1,a.2.2,hx b hb,fun t x=>?_⟩
  obtain rfl:=f.fr.dj _ _ b is (i0 x)
  have x:(w.tm b).isSome=true:=x
  rw [hn b hb] at x;exact nomatch x
theorem nw_tm {b:Addr} (n:Nw w r F μ b):w.tm b=none:=by
 cases q:w.tm b with
 | none=>rfl
 | some o=>exact absurd (show (w.tm b).isSome=true by rw [q];rfl) (n.2.2.2 .tmp)
theorem nw_tmps {b:Addr} (hb:b ∉ l):Nw (w.tmps l h) r F μ b ↔ Nw w r F μ b :=
 ⟨fun n=>⟨n.1,n.2.1,n.2.2.1,fun t x=>n.2.2.2 t ((is_tmps hb).mpr x)⟩,fun n=>⟨n.1,n.2.1,n.2.2.1,fun t x=>n.2.2.2 t ((is_tmps hb).mp x)⟩⟩
theorem SR.offs (r:SR B w F μ st h) (k:∀ b o,b ∉ l→h.get? b=some o→h'.get? b=some o) (nw:∀ b ∈ l,Nw w st.r F μ b):SR B w F μ st h'∧Ext w.n₀ F μ h F μ h':=by
 have nF {b:Addr} {o:Obj} (q:F.get? b=some o):b ∉ l:=fun hb=>by rw [(nw b hb).1] at q;exact nomatch q
 have nμ {b:Addr} (q:b ∈ μ):b ∉ l:=fun hb=>(nw b hb).2.1 q
 exact ⟨⟨⟨r.ss.base,fun b o q=>k b o (nF q) (r.ss.sub b o q),r.ss.len,fun i b x hb hx=>(r.ss.obj i b x hb hx).mono (Le.refl _) (Pre.refl _) fun o q=>k b o (nμ (List.mem_of_getElem? hb)) q,r.ss.free,r.ss.nd⟩,
  r.fr.step (Le.refl _) (Pre.refl _) fun t b hb hl hF hm=>⟨fun o q=>k b o (fun hw=>(nw b hw).2.2.2 t hb) q,hF,hm⟩⟩,
  ⟨Le.refl _,fun _ _ x=>.inl x,fun b o hb hm q=>k b o (fun hw=>absurd (nw b hw).2.2.1 (Nat.not_le.mpr hb)) q,mu0⟩⟩
theorem sb_offs {a:Addr} (hs:Heap.SameBut a h h'):∀ b o,b ∉ [a]→h.get? b=some o→h'.get? b=some o:=fun b o hb q=>(hs.2 b fun e=>hb (e ▸ List.mem_singleton_self _)).trans q
theorem n_lst {n:Nat} {l:CL} (hl:SL B C D l):SN B C D (.lst n l):=fun c ok st K h A w F μ s lv hw r =>
 Xb_ (Xt_ (pL (hl.l c ok _ _ h _ A w F μ s lv hw r) fun F₁ μ₁ vs s₁ x st₁ X₁ h₁ r₁ p₁=>by
  obtain ⟨hz,h₁⟩:=bd_e h₁
  refine Xa_ (wpAny_newList ?_ (by rw [p₁.length,sizeLine_eq];exact L.q55 hz))
  have go {y:PV} (k:K y st₁) (c:Con B F₁ μ₁ (s₁.heap.push { cls:=.type "list",data:=.seq vs.toArray }) s₁.heap.objs.size y):=pn_ (e:=w) (n₀:=w.n₀) r₁ (.push _ _) k c (Nat.le_refl _)
  have L:IsLs (s₁.heap.push { cls:=.type "list",data:=.seq vs.toArray }) s₁.heap.objs.size vs.toArray:=⟨0,Heap.get?_push_size _ rfl⟩
  have hz:=Nat.le_trans hz (show 1000≤1000000 by decide)
  have il {x:List PV} (p₁:RepL B F₁ μ₁ vs x) (hz:x.length≤1000000) (h₁:ilW x fun x=>K x st₁):Pst w.n₀ F₁ μ₁ s₁ (GN B w K) (.ref s₁.heap.objs.size) { s₁ with heap:=s₁.heap.push { cls:=.type "list",data:=.seq vs.toArray } }:=by
   replace h₁:=asIs_e h₁;obtain ⟨i,rfl,h₁⟩:=h₁
   exact go (y:=.il i) h₁ ⟨_,L,ints_of p₁,by rw [List.length_map] at hz;exact hz⟩
  have lst {x:List PV} (p₁:RepL B F₁ μ₁ vs x) (hz:x.length≤1000000) (h₁:K (.lst x) st₁):=go h₁ ⟨_,L,p₁,hz⟩
  cases x with
  | nil=>exact go h₁ ⟨_,L,ints_of (is:=[]) p₁,Nat.zero_le _⟩
  | cons y x=>induction y using PV.casesOn <;> first | exact lst p₁ hz h₁ | exact il p₁ hz h₁))
theorem n_add {n:Nat} {a b:CE} (ha:SE B C D a) (hb:SE B C D b):SN B C D (.add n a b):=fun c ok st K h A w F μ s lv hw r =>
 pE (ha c (and_l ok) _ _ h A w F μ s lv hw r) fun F₁ μ₁ u s₁ x st₁ X₁ h₁ r₁ p₁ =>
 pE (Xh_ (hb c (and_r ok) _ _ h₁ A w F₁ μ₁ s₁ lv hw r₁)) fun F₂ μ₂ v s₂ y st₂ X₂ h₂ r₂ p₂ =>
 Xb_ (Xt_ (X_operate (addW_ok r₂ (p₁.mono X₂.fm X₂.pre) p₂ h₂)))
set_option tactic.hygienic true in
theorem n_mul {n:Nat} {a b:CE} (ha:SE B C D a) (hb:SE B C D b):SN B C D (.mul n a b):=fun c ok st K h A w F μ s lv hw r =>
 pE (ha c (and_l ok) _ _ h A w F μ s lv hw r) fun F₁ μ₁ u s₁ x st₁ X₁ h₁ r₁ p₁ =>
 pE (Xh_ (hb c (and_r ok) _ _ h₁ A w F₁ μ₁ s₁ lv hw r₁)) fun F₂ μ₂ v s₂ y st₂ X₂ h₂ r₂ p₂=>by
  induction x using PV.casesOn <;> try exact h₂.elim
  rename_i l
  cases l with
  | nil=>exact h₂.elim
  | cons i l =>
   replace h₂:=asI_e h₂;obtain ⟨j,rfl,h₂⟩:=h₂
   obtain ⟨hg,h₂⟩:=gd_e h₂
   exact Xb_ (Xt_ (X_operate (mul_ok r₂ (p₁.mono X₂.fm X₂.pre) p₂ (List.cons_ne_nil _ _) hg h₂)))
theorem ints_get:∀ {vs:List Value} {xs:List Int},IntsAre vs xs→∀ k:Nat,(∃ t x,vs[k]?=some (.int x t)∧xs[k]?=some x) ∨ (vs[k]?=none∧xs[k]?=none)
 | _,_,.nil,k=>.inr ⟨rfl,rfl⟩
 | _,_,.cons m t r,0=>.inl ⟨t,m,rfl,rfl⟩
 | _,_,.cons m t r,k+1=>ints_get r k
theorem ints_pick {vs:List Value} {xs:List Int} (r:IntsAre vs xs):∀ l:List Nat,IntsAre (l.filterMap (vs[·]?)) (l.filterMap (xs[·]?))
 | []=>.nil
 | k :: l=>by
  rcases ints_get r k with ⟨t,x,h1,h2⟩ | ⟨h1,h2⟩
  ·rw [List.filterMap_cons,List.filterMap_cons,h1,h2];exact .cons _ _ (ints_pick r l)
  ·rw [List.filterMap_cons,List.filterMap_cons,h1,h2];exact ints_pick r l
theorem step_ok {value slice:Expr} {v kl:Value} {xs:List Int} {a:Int} {t:Tok} (r:SR B w F μ st s.heap) (ha:Rep B F μ v (.il xs)) (rl:Rep B F μ kl (.int a))
  (hg:0≤a∧a < 2 ^ 63∧xs.length≤64) (k:K (.il (stepL xs a)) st) :
  wpX (model prg B.w) A (subscriptTail value slice v (.ref s.heap.objs.size)) (Pst n₀ F μ s (GN B w K)) { s with heap:=s.heap.push { cls:=.type "slice",data:=.fields #[kl,.none,.int 5 t] } }:=by
 obtain ⟨u,rfl⟩:=rl
 obtain ⟨p,rfl,items,⟨m,e1⟩,e2,_⟩:=ha
 have q:=r.ss.sub _ _ e1
 have hs:=Heap.IsSliceOf.new s.heap (.int a u) .none (.int 5 t)
 have g1:=Grown.push s { cls:=.type "slice",data:=.fields #[.int a u,.none,.int 5 t] }
 have hl:=IntsAre.length e2
 rw [Array.length_toList] at hl
 refine sub_tl ⟨_,Heap.get?_push_of_some _ q,rfl⟩ slot_list_getitem.lookup (wpAny_getItem_list_slice ⟨_,Heap.get?_push_of_some _ q,rfl,_,rfl⟩ hs (.int a u) .none (.int 5 t) (by decide) ?_ (by rw [sizeLine_eq];exact L.q29 (by assumption) hl))
 have I:IntsAre (slicePick items (some a) none (some 5)).toList (stepL xs a):=by
  unfold slicePick stepL
  rw [hl]
  simpa using ints_pick e2 (sliceRange (PySem.sliceBounds (some a) none (some 5) xs.length).1 (PySem.sliceBounds (some a) none (some 5) xs.length).2.1 (PySem.sliceBounds (some a) none (some 5) xs.length).2.2)
 have h1:=IntsAre.length I
 have h2:=slicePick_size_le items (some a) none (some 5)
 rw [Array.length_toList] at h1
 exact pn_ r (g1.trans (.push _ _)) k ⟨_,⟨0,Heap.get?_push_size _ rfl⟩,I,by exact L.q532 (by assumption) hl h1 h2⟩ (push_le _ _)
theorem n_step {n m:Nat} {a i:CE} (ha:SE B C D a) (hi:SE B C D i):SN B C D (.step n m a i):=fun c ok st K h A w F μ s lv hw r =>
 pE (ha c (and_l ok) _ _ h A w F μ s lv hw r) fun F₁ μ₁ u s₁ x st₁ X₁ h₁ r₁ p₁ =>
 Xo_ (Xs_ (pE (hi c (and_r ok) _ _ h₁ A w F₁ μ₁ s₁ lv hw r₁) fun F₂ μ₂ v s₂ y st₂ X₂ h₂ r₂ p₂=>by
  induction x using PV.casesOn <;> try exact h₂.elim
  replace h₂:=asI_e h₂;obtain ⟨j,rfl,h₂⟩:=h₂
  obtain ⟨hg,h₂⟩:=gd_e h₂
  refine Xs_ (Xo_ (Xb_ (Xp_ (Xs_ (Xo_ (Xb_ (Xa_ (wpAny_Constant_int (k:=0) (pos:=c.P m) (p_grown (.toks s₂ _) ?_)))))))))
  exact Xb_ (Xa_ (wpAny_newObj_type (Xb_ (Xt_ (step_ok (r₂.grown (.toks _ _)) (p₁.mono X₂.fm X₂.pre) p₂ hg h₂))) (by size_fits)))))
theorem n_dict0 {n:Nat}:SN B C D (.dict0 n):=fun c ok st K h A w F μ s lv hw r=>Xa_ (wpAny_Dict_empty (pn_ r (.push _ _) h ⟨r.sys r.n₀,_,Heap.get?_push_size _ rfl⟩ (Nat.le_refl _)))
theorem evalPairs_len (pairs:List (Sem Value × Sem Value)) {M:Model} {Q:List (Value × Value)→Shared→Prop} (h:wpX M A (evalPairs pairs) Q s):wpX M A (evalPairs pairs) (fun vs s'=>vs.length=pairs.length∧Q vs s') s :=
 fun Γ p hΓ hc=>wp_evalPairs_len M Γ pairs (fun a _ s=>Q a s) _ p s (h Γ p hΓ hc)
theorem X_subDict {T:Type} [DecidableEq T] {knd:KeyKind prg B.w T} {pairs:List (Sem Value × Sem Value)} {Q:Addr→Shared→Prop} (hlen:pairs.length≤15)
  (h:wpX (model prg B.w) A (evalPairs pairs) (fun vs s₁=>∃ kvs,Carries knd vs kvs∧s₁.heap.DictOf knd s.heap.objs.size [] ∧
   ∀ h',h'.DictOf knd s.heap.objs.size (merged [] kvs)→Heap.SameBut s.heap.objs.size s₁.heap h'→Q s.heap.objs.size { s₁ with heap:=h',toks:=s₁.toks+vs.length })
   { s with heap:=s.heap.push { cls:=.type "dict",data:=.dict #[] } }) :
  wpX (model prg B.w) A (subDict pairs) Q s:=by
 refine Xb_ (Xa_ (wpAny_alloc (Xb_ (Xh_ ?_))))
 rw [if_pos hlen]
 refine Xb_ (Xm_ (evalPairs_len _ h) (fun vs s₁ z1_=>?_))
 obtain ⟨hvl,kvs,hc,hm,hQ⟩:=z1_
 refine Xh_ (Xa_ ?_)
 have hsz:([]:List (T × Value)).length+kvs.length≤sizeLine:=by
  have e:=hc.length
  rw [sizeLine_eq,List.length_nil];exact L.q56 hlen hvl e
 exact wb_ (wpAny_storeAll (knd:=knd) vs kvs [] s₁ _ hc hm hsz fun h' hm' hs'=>wq_ (Xp_ (hQ h' hm' hs')))
theorem dict_display {T:Type} [DecidableEq T] (knd:KeyKind prg B.w T) {ks:List (T × Expr)} {l:CL} {pos:Pos} {K:List PV→St→Prop} {K':PV→St→Prop} (hl:SL B C D l) (ok:okL c l=true) (hz:ks.length=clen l) (h0:0 < ks.length) (h15:ks.length≤15)
  (hk:∀ k ∈ ks,KeyEv B c knd k) (hnd:(ks.map (·.1)).Nodup) (lv:Lv A D) (hw:w.sc=c.ns) (r:SR B w F μ st s.heap) (h:wL C l st K)
  (mk:∀ {F:Heap} {μ:List Addr} {h:Heap} {a:Addr} {kvs:List (T × Value)} {x:List PV} {st:St},(a == sysModules)=false→h.DictOf knd a kvs→kvs.map (·.1)=ks.map (·.1)→RepL B F μ (kvs.map (·.2)) x→K x st→∃ y,Con B F μ h a y∧K' y st) :
  wpX (model prg B.w) A (eval (.Dict (ks.map fun k=>some k.2) (toL c l) pos) w.env) (Pst w.n₀ F μ s (GN B w K')) s:=by
 have hln:∀ l:CL,(toL c l).length=clen l:=fun l=>by induction l using CL.rec (motive_1:=fun _=>True) (motive_2:=fun _=>True) (motive_3:=fun _=>True) (motive_5:=fun _=>True) (motive_6:=fun _=>True) <;> first | trivial | rfl | exact congrArg (·+1) ‹_›
 have hall:(ks.map fun k=>some k.2).all (·.isSome)=true:=by rw [List.all_map];exact List.all_eq_true.mpr fun _ _=>rfl
 have hl':(ks.map fun k=>some k.2).length=(toL c l).length:=by rw [List.length_map,hz,hln]
 have hn:=pairTrees_length _ (toL c l) w.env pos hall hl'
 rw [List.length_map] at hn
 rw [arm_eval_Dict,zip_pairTrees _ _ w.env pos hall hl',dictDisplay_pairs _ (fun he=>by rw [he,List.length_nil] at hn;exact L.q57 h0 hn) (L.q58 h15 hn)]
 refine Xb_ (Xt_ (Xb_ ?_))
 have g:=Grown.push s { cls:=.type "dict",data:=.dict #[] }
 have ho:(s.heap.push { cls:=.type "dict",data:=.dict #[] }).get? s.heap.objs.size=some { cls:=.type "dict",data:=.dict #[] }:=Heap.get?_push_size _ rfl
 have nw:∀ b ∈ [s.heap.objs.size],Nw w st.r F μ b:=fun b hb=>List.mem_singleton.mp hb ▸ r.nw (Nat.le_refl _)
 have n1:=nw _ List.mem_cons_self
 refine X_subDict (knd:=knd) (L.q59 h15 hn) (Xm_ (hl.p c ok _ _ h pos A (w.tmps [s.heap.objs.size] (s.heap.push { cls:=.type "dict",data:=.dict #[] })) F μ { s with heap:=s.heap.push { cls:=.type "dict",data:=.dict #[] } } lv hw ((r.grown g).tmps nw) T knd ks hk hz) fun vs' s₁ z1_=>?_)
 obtain ⟨F₁,μ₁,X₁,g₁,x,st₁,h₁,r₂,kvs,c1,c2,c3⟩:=z1_
 obtain ⟨r₃,hd,nw₁⟩:=r₂.untmps (fun b hb=>nw_tm (nw b hb)) (fun b hb=>(nw b hb).2.2.1) (fun b hb=>⟨_,List.mem_singleton.mp hb ▸ ho⟩)
 have hd:=hd _ List.mem_cons_self _ ho
 refine ⟨kvs,c1,⟨_,#[],0,hd,⟨rfl,rfl,rfl⟩,rfl,fun _ he=>by simp at he,Pairs.nil,List.nodup_nil⟩,fun h' hd' hs'=>?_⟩
 rw [merged_nil_of_nodup kvs (by rw [c2];exact hnd)] at hd'
 obtain ⟨r₄,X₄⟩:=r₃.offs (sb_offs hs') nw₁
 obtain ⟨y,m1,m2⟩:=mk (F:=F₁) (μ:=μ₁) (r.sys n1.2.2.1) hd' c2 c3 h₁
 exact Xp_ ⟨F₁,μ₁,(g.ext (n:=w.n₀)).trans (X₁.trans X₄),g₁,y,st₁,m2,r₄,_,rfl,m1,nw₁ _ List.mem_cons_self⟩
theorem n_dictI {n:Nat} {k:List Int} {l:CL} (hl:SL B C D l):SN B C D (.dictI n k l):=fun c ok st K h A w F μ s lv hw r=>by
 have o:=of_decide_eq_true (and_l ok)
 have:=dict_display (intKind prg B.w) (pos:=c.P n) (ks:=k.zipIdx.map fun p=>(p.1,.Constant (.int p.1) 0 (c.P (n+1+p.2)))) hl (and_r ok) (by rw [List.length_map,List.length_zipIdx];exact o.1) (by rw [List.length_map,List.length_zipIdx];exact o.2.2.1) (by rw [List.length_map,List.length_zipIdx];exact o.2.2.2)
  (fun p hp=>by
   obtain ⟨q,_,rfl⟩:=List.mem_map.mp hp
   exact fun env A s Q hQ=>Xa_ (wpAny_Constant_int (hQ _ (intKind_is prg B.w _ _)))) (by rw [List.map_map];exact (show (k.zipIdx.map Prod.fst).Nodup by rw [List.zipIdx_map_fst];exact o.2.1)) lv hw r h (K':=K)
  (@fun _ _ _ _ _ x _ a b e d q=>⟨.idc k x,⟨a,_,b,by rw [e,List.map_map];exact List.zipIdx_map_fst ..,d⟩,(bd_e q).2⟩)
 rw [List.map_map] at this
 exact this
theorem n_dictS {n:Nat} {k:List Nat} {l:CL} (hl:SL B C D l):SN B C D (.dictS n k l):=fun c ok st K h A w F μ s lv hw r=>by
 have o:=of_decide_eq_true (and_l ok)
 have lts_e:∀ {l:List Nat} {P:Prop},lts l 2 P→(∀ i ∈ l,i < 2)∧P:=by
  intro l
  induction l with
  | nil=>exact fun h=>⟨nofun,h⟩
  | cons i l ih=>exact fun h=>by obtain ⟨a,b⟩:=lt_e h;obtain ⟨c,d⟩:=ih b;exact ⟨fun j m=>(List.mem_cons.mp m).elim (fun e=>e ▸ a) (c j),d⟩
 have em:(k.zipIdx.map fun p=>skey p.1)=k.map skey:=by have:=congrArg (List.map skey) (List.zipIdx_map_fst 0 k);rw [List.map_map] at this;exact this
 have:=dict_display (strKind prg B.w) (pos:=c.P n) (ks:=k.zipIdx.map fun p=>(skey p.1,.Constant (.str (skey p.1)) 0 (c.P (n+1+p.2)))) hl (and_r ok) (by rw [List.length_map,List.length_zipIdx];exact o.1) (by rw [List.length_map,List.length_zipIdx];exact o.2.2.1) (by rw [List.length_map,List.length_zipIdx];exact o.2.2.2)
  (fun p hp=>by
   obtain ⟨q,_,rfl⟩:=List.mem_map.mp hp
   exact fun env A s Q hQ=>Xa_ (const_str (hQ _ (strKind_is prg B.w _ _)))) (by rw [List.map_map];exact (show (k.zipIdx.map fun p=>skey p.1).Nodup by rw [em];exact o.2.1)) lv hw r h (K':=K)
  (@fun _ _ _ _ _ x _ a b e d q=>by obtain ⟨k1,k2⟩:=lts_e (bd_e q).2;exact ⟨.sd k x,⟨_,b,by rw [e,List.map_map];exact em,d,k1⟩,k2⟩)
 rw [List.map_map] at this
 exact this
end
end
section
section
variable {B:Bs} {C:Orc} {D:Nat} {A:Around} {w:Wh} {F:Heap} {μ:List Addr} {s:Shared} {st:St} {c:Cx} {n₀:Nat} {M:Model}
theorem starEach_all:∀ (l:CL) (c:Cx) (env:Env),(starEach (toL c l) env).all (fun x=>!x.1)=true
 | .nil,_,_=>rfl
 | .cons a l,c,env=>by
  show (starEach (toE c a :: toL c l) env).all _=true
  rw [starEach_cons,List.all_cons]
  exact starEach_all l c env
theorem starEach_all2 (a:CE) (d:CO) (c:Cx) (env:Env) (ok:noT d=true):(starEach (toE c a :: (toO c d).toList) env).all (fun x=>!x.1)=true:=by
 rw [starEach_cons]
 cases d with
 | no=>rfl
 | so e=>show (_ :: starEach [toE c e] env).all _=true;rw [starEach_cons];rfl
 | te t=>exact absurd ok Bool.false_ne_true
theorem backTo_all {pos:Pos} {l:List (Bool × Sem Value)} (h:l.all (fun x=>!x.1)=true):(backTo pos l).all (fun x=>!x.1)=true:=by
 unfold backTo
 rw [List.all_map]
 exact h
theorem X_evalArgs {f:Value} {args:List (Bool × Sem Value)} {Q:Args→Shared→Prop} (hp:args.all (fun x=>!x.1)=true) (h:wpX M A (spliced args) (fun vs s'=>Q ⟨vs,[]⟩ s') s):wpX M A (evalArgs f true args []) Q s:=by
 unfold evalArgs
 match args,hp with
 | [],_ =>
  show wpX M A (spliced [] >>= _) Q s
  exact Xb_ (Xm_ h fun vs s' q=>Xh_ (Xb_ (Xp_ (Xb_ (Xp_ (Xp_ q))))))
 | [(true,x)],hp=>exact absurd hp Bool.false_ne_true
 | [(false,x)],_ =>
  show wpX M A (spliced [(false,x)] >>= _) Q s
  exact Xb_ (Xm_ h fun vs s' q=>Xh_ (Xb_ (Xp_ (Xb_ (Xp_ (Xp_ q))))))
 | (true,x) :: y :: r,hp=>exact absurd hp Bool.false_ne_true
 | (false,x) :: y :: r,_ =>
  show wpX M A (spliced ((false,x) :: y :: r) >>= _) Q s
  exact Xb_ (Xm_ h fun vs s' q=>Xh_ (Xb_ (Xp_ (Xb_ (Xp_ (Xp_ q))))))
theorem all_any {args:List (Bool × Sem Value)} (hp:args.all (fun x=>!x.1)=true):args.any (·.1)=false:=by
 rw [List.any_eq_false]
 intro x hx
 have:=List.all_eq_true.mp hp x hx
 simpa using this
def Kp (M:Model) (A:Around) (f:Value) (s:Shared):Prop:=∃ k,(k=Keeper.frame ∨ k=Keeper.machine ∨ k=Keeper.boundFrame)∧∀ (Q:Keeper→Shared→Prop),Q k s→wpAny M A (keeperOf f) Q noE s
theorem X_callWith {pos:Pos} {f:Value} {first:List Value} {args:List (Bool × Sem Value)} {Q:Value→Shared→Prop} (hp:args.all (fun x=>!x.1)=true)
  (h:wpX M A (spliced args) (fun vs s'=>Kp M A f s'∧wpX M A (call f (first ++ vs) []) Q s') s) :
  wpX M A (callWith pos f first args []) Q s:=by
 refine Xb_ (Xh_ (X_evalArgs hp (Xm_ h fun vs s' z1_=>?_)))
 obtain ⟨⟨k,hk',L⟩,hc⟩:=z1_
 refine Xb_ (Xt_ ?_)
 simp only [all_any hp,List.any_nil,Bool.or_false]
 refine Xb_ (Xa_ (L _ ?_))
 have tail:∀ {t:Sem Value},wpX M A t Q s'→wpX M A (t >>= fun r=>holding [r] point >>= fun _=>pure r) Q s' :=
  fun ht=>Xb_ (Xm_ ht (fun r s₂ hr=>Xb_ (Xh_ (X_point (Xp_ hr)))))
 have marked (mk:Value):wpX M A (callMarked mk f (first ++ vs) []) Q s':=by unfold callMarked;exact X_keep hc
 rcases hk' with rfl | rfl | rfl <;> dsimp only <;> first | exact tail hc | (split <;> first | exact tail hc | exact tail (marked _))
theorem callw {f:Value} {first:List Value} {pos:Pos} {l:CL} {K:List PV→St→Prop} {G:Heap→List Addr→Value→Heap→Prop} (hl:SL B C D l) (ok:okL c l=true) (lv:Lv A D) (hw:w.sc=c.ns) (r:SR B w F μ st s.heap) (h:wL C l st K)
  (kp:∀ s:Shared,Le B.h₀ s.heap→Kp (model prg B.w) A f s)
  (k:∀ F₁ μ₁ vs s₁ x st₁,Ext w.n₀ F μ s.heap F₁ μ₁ s₁.heap→K x st₁→SR B w F₁ μ₁ st₁ s₁.heap→RepL B F₁ μ₁ vs x→wpX (model prg B.w) A (call f (first ++ vs) []) (Pst w.n₀ F₁ μ₁ s₁ G) s₁) :
  wpX (model prg B.w) A (callWith pos f first (backTo pos (starEach (toL c l) w.env)) []) (Pst w.n₀ F μ s G) s :=
 X_callWith (backTo_all (starEach_all l c w.env)) (Xm_ (hl.l c ok _ _ h pos A w F μ s lv hw r) fun vs s₁ z1_=>by
  obtain ⟨F₁,μ₁,X,g,x,st₁,h₁,r₁,p₁⟩:=z1_
  exact ⟨kp s₁ (r₁.ss.base.trans r₁.ss.sub),Xm_ (k F₁ μ₁ vs s₁ x st₁ X h₁ r₁ p₁) fun _ _ y=>Pst.bind X g y⟩)
theorem kp_fn (wo:WOk B) {f:Nat} {a:Addr} (ha:B.fa f=some a) (s:Shared) (le:Le B.h₀ s.heap):Kp (model prg B.w) A (.ref a) s:=by
 obtain ⟨o,fd,e1,e2⟩:=wo.fd f a ha
 refine ⟨.frame,.inl rfl,fun Q q=>?_⟩
 refine wb_ (wpAny_load (le _ _ e1) ?_)
 rw [e2]
 exact wq_ q
theorem kp_cls (wo:WOk B) {k:Nat} {a:Addr} (ha:B.ca k=some a) (s:Shared) (le:Le B.h₀ s.heap):Kp (model prg B.w) A (.ref a) s:=by
 have X:B.K.In s.heap:=wo.KX.keeps le
 have Y:=makes_of (M:=model prg B.w) X (wo.cls k a ha).makes
 obtain ⟨⟨oc,od,cd,sl,hC,_⟩,_,_,_,_,call,_⟩:=Y
 refine ⟨.machine,.inr (.inl rfl),fun Q q=>?_⟩
 exact wb_ (wpAny_load hC (wb_ (call.here (wq_ q))))
theorem kp_bi (i:Nat) (s:Shared):Kp (model prg B.w) A (bvl i) s:=by
 refine ⟨.machine,.inr (.inl rfl),fun Q q=>?_⟩
 unfold bvl
 split <;> exact wq_ q
theorem kp_b (id:String) (s:Shared):Kp (model prg B.w) A (.builtin id) s:=⟨.machine,.inr (.inl rfl),fun Q q=>wq_ q⟩
theorem call_fn {f:Nat} {a:Addr} {vs:List PV} {args:List Value} {K:PV→St→Prop} (hC:OrcOk B D C) (lv:Lv A D) (r:SR B w F μ st s.heap) (ha:B.fa f=some a) (ra:RepL B F μ args vs) (h:C f vs st.s fun x σ=>K x ⟨st.r,σ⟩) :
  wpX (model prg B.w) A (call (.ref a) args) (Pst w.n₀ F μ s (GE B w K)) s :=
 X_call (cX_mono (hC f _ _ _ h A F μ s args a lv.lw (Nat.lt_of_lt_of_le r.fr.sc.bi.2 r.n₀) r.ss ra ha) fun fl s' hf=>by
  induction fl using Flow.casesOn <;> try exact hf.elim
  obtain ⟨F',μ',X,g,x,σ',k,ss,p⟩:=hf
  exact ⟨F',μ',X.wide r.n₀,g,x,_,k,r.keep X (Nat.le_refl _) ss,p⟩)
theorem s_call (wo:WOk B) (hC:OrcOk B D C) {n i f:Nat} {l:CL} (hl:SL B C D l):SE B C D (.call n i f l):=fun c ok st K h A w F μ s lv hw r =>
 by obtain ⟨a,e1,e2⟩:=wo.fn f (List.contains_iff_mem.mp (and_r (and_l ok)));exact Xb_ (glob_ok wo r hw (and_l (and_l ok)) (.inl e2) (callw hl (and_r ok) lv hw r h (kp_fn wo e1) fun F₁ μ₁ vs s₁ x st₁ X₁ h₁ r₁ p₁=>call_fn hC lv r₁ e1 p₁ h₁))
theorem s_callv (wo:WOk B) (hC:OrcOk B D C) {n i:Nat} {l:CL} (hl:SL B C D l):SE B C D (.callv n i l):=fun c ok st K h A w F μ s lv hw r =>
 pE (name_ok r hw h) fun F₁ μ₁ u s₁ x st₁ X₁ h₁ r₁ p₁=>by
  induction x using PV.casesOn <;> try exact h₁.elim
  obtain ⟨a,rfl,e1⟩:=p₁
  exact callw hl ok lv hw r₁ h₁ (kp_fn wo e1) fun F₁ μ₁ vs s₁ x st₁ X₁ h₁ r₁ p₁=>call_fn hC lv r₁ e1 p₁ h₁
theorem s_b1 (wo:WOk B) {n i b:Nat} {a:CE} (ha:SE B C D a):SE B C D (.b1 n i b a):=fun c ok st K h A w F μ s lv hw r =>
 Xb_ (glob_ok wo r hw (and_l ok) (.inr (wo.bi b)) (callw (l:=.cons a .nil) (K:=fun l st=>match l with | [x]=>b1W st.s b x fun z=>K z st | _=>False) (l_cons ha l_nil) (by show (okE c a && true)=true;rw [and_r ok];rfl) lv hw r h (fun s _=>kp_bi b s) fun F₁ μ₁ vs s₁ x st₁ X₁ h₁ r₁ p₁=>by
  obtain _ | ⟨x,_ | _⟩:=x <;> try exact h₁.elim
  obtain ⟨v,_,rfl,p₁,rfl⟩:=p₁
  obtain _ | _ | _ | _ | b:=b <;> try exact h₁.elim
  ·exact len_ok r₁ p₁ h₁
  ·induction x using PV.casesOn <;> try exact h₁.elim
   exact sum_ok lv.hh r₁ p₁ h₁
  ·replace h₁:=asI_e h₁;obtain ⟨j,rfl,h₁⟩:=h₁
   obtain ⟨hg,h₁⟩:=gd_e h₁
   exact range1_ok r₁ p₁ hg h₁
  ·exact bytes_ok lv.hh r₁ p₁ h₁))
theorem n_b1 (wo:WOk B) {n i b:Nat} {a:CE} (ha:SE B C D a):SN B C D (.b1 n i b a):=fun c ok st K h A w F μ s lv hw r =>
 Xb_ (glob_ok wo r hw (and_l ok) (.inr (wo.bi (4+b))) (callw (l:=.cons a .nil) (K:=fun l st=>match l with | [x]=>n1W st.s b x fun z=>K z st | _=>False) (l_cons ha l_nil) (by show (okE c a && true)=true;rw [and_r ok];rfl) lv hw r h (fun s _=>kp_bi _ s) fun F₁ μ₁ vs s₁ x st₁ X₁ h₁ r₁ p₁=>by
  obtain _ | ⟨x,_ | _⟩:=x <;> try exact h₁.elim
  obtain ⟨v,_,rfl,p₁,rfl⟩:=p₁
  obtain _ | _ | b:=b <;> try exact h₁.elim
  ·replace h₁:=asY_e h₁;obtain ⟨j,rfl,h₁⟩:=h₁
   exact ba_ok r₁ p₁ h₁
  ·exact list_ok lv.hh r₁ p₁ h₁))
theorem s_mnx (wo:WOk B) {n i:Nat} {mx:Bool} {a b:CE} (ha:SE B C D a) (hb:SE B C D b):SE B C D (.mnx n i mx a b):=fun c ok st K h A w F μ s lv hw r =>
 Xb_ (glob_ok wo r hw (and_l ok) (.inr (wo.bi _)) (callw (l:=.cons a (.cons b .nil)) (K:=fun l st=>match l with | [x,y]=>asI x fun x=>asI y fun y=>(match (generalizing:=false) mx with | true=>K (.int (max x y)) st | false=>K (.int (min x y)) st) | _=>False) (l_cons ha (l_cons hb l_nil)) (by show (okE c a && (okE c b && true))=true;rw [and_l (and_r ok),and_r (and_r ok)];rfl) lv hw r h (fun s _=>kp_bi _ s) fun F₁ μ₁ vs s₁ x st₁ X₁ h₁ r₁ p₁=>by
  obtain _ | ⟨x,_ | ⟨y,_ | _⟩⟩:=x <;> try exact h₁.elim
  obtain ⟨v,_,rfl,p₁,v',_,rfl,p₂,rfl⟩:=p₁
  replace h₁:=asI_e h₁;obtain ⟨j,rfl,h₁⟩:=h₁
  replace h₁:=asI_e h₁;obtain ⟨k,rfl,h₁⟩:=h₁
  cases mx with
  | true=>exact mnx_ok (mx:=true) (K:=K) lv.hh r₁ p₁ p₂ h₁
  | false=>exact mnx_ok (mx:=false) (K:=K) lv.hh r₁ p₁ p₂ h₁))
theorem s_rng3 (wo:WOk B) {n i:Nat} {a b d:CE} (ha:SE B C D a) (hb:SE B C D b) (hd:SE B C D d):SE B C D (.rng3 n i a b d):=fun c ok st K h A w F μ s lv hw r =>
 Xb_ (glob_ok wo r hw (and_l ok) (.inr (wo.bi 2)) (callw (l:=.cons a (.cons b (.cons d .nil))) (K:=fun l st=>match l with | [x,y,z]=>asI x fun x=>asI y fun y=>asI z fun z=>gd ((0≤x∧x≤1000000)∧(-1000000≤y∧y≤1000000)∧0 < z∧z≤1000000) (K (.rng x y z) st) | _=>False) (l_cons ha (l_cons hb (l_cons hd l_nil))) (by show (okE c a && (okE c b && (okE c d && true)))=true;rw [and_l (and_r ok),and_l (and_r (and_r ok)),and_r (and_r (and_r ok))];rfl) lv hw r h (fun s _=>kp_bi _ s) fun F₁ μ₁ vs s₁ x st₁ X₁ h₁ r₁ p₁=>by
  obtain _ | ⟨x,_ | ⟨y,_ | ⟨z,_ | _⟩⟩⟩:=x <;> try exact h₁.elim
  obtain ⟨v,_,rfl,p₁,v',_,rfl,p₂,v'',_,rfl,p₃,rfl⟩:=p₁
  replace h₁:=asI_e h₁;obtain ⟨j,rfl,h₁⟩:=h₁
  replace h₁:=asI_e h₁;obtain ⟨k,rfl,h₁⟩:=h₁
  replace h₁:=asI_e h₁;obtain ⟨m,rfl,h₁⟩:=h₁
  obtain ⟨hg,h₁⟩:=gd_e h₁
  exact range3_ok r₁ p₁ p₂ p₃ hg h₁))
end
end
section
section
variable {prog:Program} {w:World} {A:Around} {K:Frag} {C:Addr} {R:Flow→Shared→Prop} {h:Heap} {g:Array GenState} {d:Drawn} {t:Nat} {os:OsState}
theorem X_make {rest:List Value} {init:Value} (Y:Makes (model prog w) h C) (hi:Looks (model prog w) h (typeLookup (.ref C) "__init__") (some init))
  (hb:∀ self,Looks (model prog w) h (bindSpecial init self) (init,[self])) (hne:(some init != some (Value.builtin "object.__init__"))=true)
  (hq:codeX (model prog w) (A.under (.builtin "type.__call__" ⟨.ref C :: rest,[]⟩)) (.call init ⟨.ref (h.objs.size+1) :: rest,[]⟩) (fun fl s'=>match fl with | .ret v=>v=.none∧R (.ret (.ref (h.objs.size+1))) s' | _=>False) ⟨(h.push emptyDict).push (instObj C h.objs.size),g,d,t,os⟩) :
  codeX (model prog w) A (.call (.ref C) ⟨rest,[]⟩) R ⟨h,g,d,t,os⟩:=by
 have Y':=Y
 obtain ⟨⟨oc,od,cd,sl,hC,e1,e2,e4⟩,made,base,self,top,call,typ⟩:=Y
 refine cX_tree ?_
 show wpX _ _ (callAny (.ref C) _) _ _
 refine Xb_ (Xa_ (wpAny_load hC ?_))
 refine Xb_ (Xa_ (call.here ?_))
 dsimp only
 rw [tc_bind]
 refine Xb_ (Xp_ (Xb_ (Xp_ ?_)))
 refine X_if_true (by decide) ?_
 refine Xp_ ⟨rfl,fun _ _=>rfl,?_⟩
 refine cX_call_builtin (Code.quiet_builtin _ (by decide +kernel)) (good_call _) entry_typeCall (Xa_ (check_slot tc_kind tc_split typ (tc_args _ _ _) ?_))
 have hm:Looks (model prog w) h (mroOf (.ref C)) cd.mro:=((Looks.ld (part:=none) hC).andThen .now).andThen .now
 have k:∀ b o,h.get? b=some o→((h.push emptyDict).push (instObj C h.objs.size)).get? b=some o:=fun b o e=>Heap.get?_push_of_some _ (Heap.get?_push_of_some _ e)
 have hx:((h.push emptyDict).push (instObj C h.objs.size)).get? (h.objs.size+1)=some (instObj C h.objs.size):=by heap_get
 have t1:Looks (model prog w) ((h.push emptyDict).push (instObj C h.objs.size)) (typeOf (.ref (h.objs.size+1))) (.ref C):=(Looks.ld hx).andThen .now
 have s1:=self.keeps k
 have i1:=hi.keeps k
 have b1:=(hb (.ref (h.objs.size+1))).keeps k
 have inst:Looks (model prog w) ((h.push emptyDict).push (instObj C h.objs.size)) (isInstance (.ref (h.objs.size+1)) (.ref C)) true:=t1.andThen s1
 unfold Builtin.«type.__call__»
 dsimp only
 refine X_if_false (show (Value.ref C == Value.type "type")=false from rfl) ?_
 refine Xb_ (Xa_ (hm.here ?_))
 refine X_if_false e4 ?_
 refine Xb_ (Xa_ (made.here ?_))
 refine Xb_ (Xp_ ?_)
 refine Xb_ (Xh_ (Xa_ (wpAny_call (new_K (R:=fun r s'=>match r with | .ok (.ret v)=>v=.ref (h.objs.size+1)∧s'=⟨(h.push emptyDict).push (instObj C h.objs.size),g,d,t,os⟩ | _=>False) Y' hi (.inl hne) ⟨rfl,rfl⟩ |> fun z=>codeAny_mono z fun r s' hr=>?_))))
 rcases r with e | (v | _ | _ | _) <;> first | exact hr.elim | skip
 obtain ⟨rfl,rfl⟩:=hr
 refine Xb_ (Xa_ (inst.here ?_))
 refine X_if_false rfl ?_
 refine Xb_ (Xh_ ?_)
 refine Xb_ (Xb_ (Xa_ (t1.here (Xa_ (i1.here ?_)))))
 refine Xh_ (Xb_ (Xa_ (b1.here ?_)))
 refine Xb_ (X_call (cX_mono hq fun fl s' hf=>?_))
 rcases fl with v | _ | _ | _ <;> first | exact hf.elim | skip
 obtain ⟨rfl,hR⟩:=hf
 exact Xp_ (X_if_false rfl (Xp_ hR))
end
section
variable {B:Bs} {C:Orc} {D:Nat} {A:Around} {w:Wh} {F:Heap} {μ:List Addr} {s:Shared} {st:St} {c:Cx} {n₀:Nat} {M:Model}
theorem SR.thaw {a:Addr} {x:PV} {h:Heap} (r:SR B w F μ st h) (c:Con B F μ h a x) (n:Nw w st.r F μ a):SR B w F (μ ++ [a]) ⟨st.r,st.s ++ [x]⟩ h∧Ext w.n₀ F μ h F (μ ++ [a]) h∧(μ ++ [a])[st.s.length]?=some a :=
 by obtain ⟨n1,n2,n3,n4⟩:=n;obtain ⟨f2,f3,f4⟩:=r.ss.thaw (n₀:=w.n₀) c n2 n1 n3;exact ⟨⟨f2,r.fr.step (Le.refl _) ⟨_,rfl⟩ fun t b hb _ hF hm=>⟨fun _=>id,hF,fun q=>(List.mem_append.mp q).elim hm fun q=>n4 t (List.mem_singleton.mp q ▸ hb)⟩⟩,f3,f4⟩
theorem call_new {k:Nat} {Cl fI:Addr} {vs:List PV} {args:List Value} {K:PV→St→Prop} (wo:WOk B) (hC:OrcOk B D C) (lv:Lv A D) (r:SR B w F μ st s.heap) (h1:B.ca k=some Cl) (hfa:B.fa k=some fI)
  (hfi:findIn B.K (.ref Cl) "__init__" = some (some (.ref fI))) (hty:typeIn B.K (.ref fI)=some (.type "function")) (ra:RepL B F μ args vs)
  (h:C k (.inst k st.s.length :: vs) (st.s ++ [.att [] []]) fun x σ=>match x with | .none=>K (.inst k st.s.length) ⟨st.r,σ⟩ | _=>False) :
  wpX (model prg B.w) A (call (.ref Cl) args) (Pst w.n₀ F μ s (GE B w K)) s:=by
 have X:B.K.In s.heap:=wo.KX.keeps (r.ss.base.trans r.ss.sub)
 have Y:=makes_of (M:=model prg B.w) X (wo.cls k Cl h1).makes
 obtain ⟨hh,g,d,t,os⟩:=s
 refine X_call (X_make (R:=fun f s'=>match f with | .ret v=>Pst w.n₀ F μ ⟨hh,g,d,t,os⟩ (GE B w K) v s' | _=>False) Y (looks_findIn X hfi) (fun self=>bind_fn X self hty) rfl ?_)
 have e2:((hh.push emptyDict).push (instObj Cl hh.objs.size)).get? (hh.objs.size+1)=some (instObj Cl hh.objs.size):=by heap_get
 have G:Grown ⟨hh,g,d,t,os⟩ ⟨(hh.push emptyDict).push (instObj Cl hh.objs.size),g,d,t,os⟩:=⟨(Le.push _ _).trans (Le.push _ _),rfl,rfl⟩
 have c1:Con B F μ ((hh.push emptyDict).push (instObj Cl hh.objs.size)) hh.objs.size (.att [] []):=⟨fun _=>none,(Heap.Ns1.of_empty (Heap.Ns.new hh (.type "dict"))).at fun o q=>Heap.get?_push_of_some _ q,nofun,nofun,rfl,nofun⟩
 obtain ⟨r2,X2,p2⟩:=(r.grown G).thaw c1 (r.nw (Nat.le_refl _))
 have n2:Nw w st.r F (μ ++ [hh.objs.size]) (hh.objs.size+1) :=
  by obtain ⟨k1,k2,k3,k4⟩:=r.nw (a:=hh.objs.size+1) (Nat.le_succ _);exact ⟨k1,fun q=>(List.mem_append.mp q).elim k2 fun q=>Nat.succ_ne_self _ (List.mem_singleton.mp q),k3,k4⟩
 obtain ⟨F3,f3,r3,X3,e3,_⟩:=r2.freezeO e2 n2
 have pI:Rep B F3 (μ ++ [hh.objs.size]) (.ref (hh.objs.size+1)) (.inst k st.s.length):=⟨_,rfl,_,_,e3,h1,p2⟩
 have lw:Lw (A.under (.builtin "type.__call__" ⟨.ref Cl :: args,[]⟩)) D:=by
  have w1:(Code.builtin "type.__call__" ⟨.ref Cl :: args,[]⟩).weight=1:=rfl
  have u1:(Code.builtin "type.__call__" ⟨.ref Cl :: args,[]⟩).cUnits=1:=rfl
  refine ⟨lv.hh,?_,?_,?_,?_⟩
  ·unfold Around.under;dsimp only;rw [lv.hf,pushEnvs_eq];rfl
  ·unfold Around.under;dsimp only;rw [lv.hg,pushGuards_eq];rfl
  ·show A.depth+_≤_
   rw [w1];have:=lv.hd;exact L.q60 this
  ·show A.units+_≤_
   rw [u1];have:=lv.hu;exact L.q61 this
 refine cX_mono (hC k _ _ _ h _ F3 (μ ++ [hh.objs.size]) ⟨(hh.push emptyDict).push (instObj Cl hh.objs.size),g,d,t,os⟩ (.ref (hh.objs.size+1) :: args) fI lw (Nat.lt_of_lt_of_le r3.fr.sc.bi.2 r3.n₀) r3.ss ⟨_,_,rfl,pI,ra.mono f3 ⟨_,rfl⟩⟩ hfa) fun fl s' hf=>?_
 induction fl using Flow.casesOn <;> try exact hf.elim
 obtain ⟨F',μ',X4,g4,x,σ',k4,ss,p4⟩:=hf
 induction x using PV.casesOn <;> try exact k4.elim
 exact ⟨p4,F',μ',(((G.ext (n:=w.n₀)).trans X2).trans X3).trans (X4.wide r3.n₀),g4,_,_,k4,r3.keep X4 (Nat.le_refl _) ss,pI.mono X4.fm X4.pre⟩
theorem s_new (wo:WOk B) (hC:OrcOk B D C) {n i k:Nat} {l:CL} (hl:SL B C D l):SE B C D (.new n i k l):=fun c ok st K h A w F μ s lv hw r =>
 by obtain ⟨Cl,a,e1,e2,e3,e4,e5⟩:=wo.cl k (List.contains_iff_mem.mp (and_r (and_l ok)));exact Xb_ (glob_ok wo r hw (and_l (and_l ok)) (.inl e3) (callw hl (and_r ok) lv hw r h (kp_cls wo e1) fun F₁ μ₁ vs s₁ x st₁ X₁ h₁ r₁ p₁=>call_new wo hC lv r₁ e1 e2 e4 e5 p₁ h₁))
theorem X_method {o:Expr} {name:Str} {apos pos:Pos} {env:Env} {v:Value} {args:List (Bool × Sem Value)} {T id:String} {Q:Value→Shared→Prop} {k:Nat} (hp:args.all (fun x=>!x.1)=true) (hk:k < 20) (hline:(apos.endLine == pos.line)=true)
  (pa:PlainAttrs T) (slot:Slot T name id) (hty:typeOf (.builtin id)=pure (.type "method_descriptor")) (hT:s.TypeIs v T) (hd:∀ a,v=.ref a→∃ o,s.heap.get? a=some o∧o.dict=none)
  (h:wpX (model prg B.w) A (callWith pos (.builtin id) [v] args []) Q s):wpX (model prg B.w) A (methodCall o name apos pos env v k args []) Q s:=by
 have hform:methodCallForm k args []=true:=by
  unfold methodCallForm
  rw [hp]
  simp
  exact L.q62 hk
 have hpos:methodCallPos true o env apos pos=pure pos:=by unfold methodCallPos;simp [hline]
 unfold methodCall
 rw [hform]
 refine Xb_ (Xh_ (Xa_ (getMethod_builtin hT pa slot hty hd ?_)))
 exact Xb_ (X_of_eq hpos h)
theorem isD_e {v:Value} {x:PV} {P:Prop} (r:SR B w F μ st s.heap) (ha:Rep B F μ v x) (h:isD st.s x P):P∧∃ a o,v=.ref a∧s.heap.get? a=some o∧o.cls=.type "dict" ∧ o.dict=none:=by
 obtain ⟨y,h,cn⟩:=drf_e r.ss ha h
 induction y using PV.casesOn <;> try exact h.elim
 ·obtain ⟨a,rfl,ne,kvs,⟨o,es,ep,q,he,_⟩,_⟩:=cn;exact ⟨h,a,o,rfl,q,he.1,he.2.1⟩
 ·obtain ⟨a,rfl,ne,o,ep,ka,v,⟨q,he,hd⟩,_⟩:=cn;exact ⟨h,a,o,rfl,q,he.1,he.2.1⟩
theorem ints_items2 {vs:List Value} {u:List Int} (h:IntsAre vs u):ItemsAre (intKind prg B.w) u vs:=by
 induction h with
 | nil=>exact .nil
 | cons n t _ ih=>exact .cons (intKind_is prg B.w n t) ih
set_option tactic.hygienic true in
theorem get_ok {v k:Value} {x y:PV} {d:Option PV} {args:List Value} {K:PV→St→Prop} (lv:Lv A D) (r:SR B w F μ st s.heap) (ha:Rep B F μ v x) (hk:Rep B F μ k y) (hd:match d with | none=>args=[k] | some d=>∃ u,args=[k,u]∧Rep B F μ u d)
  (h:getW st.s x y d fun z=>K z st):wpX (model prg B.w) A (call (.builtin "dict.get") ([v] ++ args) []) (Pst n₀ F μ s (GE B w K)) s:=by
 refine gG fun G kG=>?_
 replace h:=drf_e r.ss ha h;obtain ⟨z,h,cn⟩:=h
 induction z using PV.casesOn <;> try exact h.elim
 case idc ks vs =>
  replace h:=asI_e h;obtain ⟨j,rfl,h⟩:=h
  obtain ⟨t,rfl⟩:=hk
  obtain ⟨a,rfl,ne,kvs,q,q2,q3⟩:=cn
  have h:=lkI_e q2 q3 h
  cases d with
  | none =>
   subst hd
   refine kG ?_
   refine Xa_ (call_meetsIn PySem.F.slot_dict_get q.typeIs PySem.F.entry_dict_get (PySem.F.args_dict_get_2 _ _) (meets_dict_get (intKind prg B.w) a (intKind_is prg B.w j t) ne) ⟨_,q.mapOf,?_⟩)
   rcases h with ⟨z,u,k1,k2,k3⟩ | ⟨k1,k2⟩
   ·rw [k2];exact pv_ r (.toks _ _) k1 k3
   ·rw [k2];exact pv_ r (.toks _ _) k1 rfl
  | some d =>
   obtain ⟨u',rfl,pd⟩:=hd
   refine kG ?_
   refine Xa_ (call_meetsIn PySem.F.slot_dict_get q.typeIs PySem.F.entry_dict_get (PySem.F.args_dict_get_3 _ _ _) (meets_dict_get_default (intKind prg B.w) a (intKind_is prg B.w j t) ne _) ⟨_,q.mapOf,?_⟩)
   rcases h with ⟨z,u,k1,k2,k3⟩ | ⟨k1,k2⟩
   ·rw [k2];exact pv_ r (.toks _ _) k1 k3
   ·rw [k2];exact pv_ r (.toks _ _) k1 pd
 case td i u z =>
  cases d with
  | some d=>exact h.elim
  | none =>
   subst hd
   replace h:=asT_e h;obtain ⟨l,rfl,h⟩:=h
   obtain _ | ⟨l1,_ | ⟨l2,_ | _⟩⟩:=l <;> try exact h.elim
   replace h:=asI_e h;obtain ⟨b,rfl,h⟩:=h
   replace h:=asT_e h;obtain ⟨l,rfl,h⟩:=h
   replace h:=asIs_e h;obtain ⟨l,rfl,h⟩:=h
   replace h:=gd_e h;obtain ⟨⟨rfl,rfl⟩,h⟩:=h
   obtain ⟨a,rfl,ne,o,ep,ka,val,⟨q,he,hd⟩,hk',hv⟩:=cn
   obtain ⟨p,rfl,items,⟨m,e1⟩,e2,_⟩:=hk
   have e1':=r.ss.sub _ _ e1
   obtain ⟨v1,_,hi,⟨t,rfl⟩,v2,_,rfl,⟨p2,rfl,items2,⟨m2,f1⟩,f2,_⟩,rfl⟩:=e2
   have hk2:IsPair prg B.w s.heap (b,l) p:=⟨_,m,t,p2,e1',rfl,by
    rw [show items=#[.int b t,.ref p2] from by rw [← Array.toList_inj];exact hi],_,_,m2,r.ss.sub _ _ f1,rfl,rfl,ints_items2 (ints_of f2)⟩
   have hm:s.heap.DictOfH (pairKind prg B.w) a [((b,l),ka,val)]:=⟨o,_,ep,q,he,hd,rfl,fun x hx=>by rw [List.mem_singleton.mp hx];exact hk'.le r.ss.sub,List.nodup_cons.mpr ⟨List.not_mem_nil,List.nodup_nil⟩⟩
   refine kG ?_
   refine Xa_ (call_meetsIn PySem.F.slot_dict_get hm.typeIs PySem.F.entry_dict_get (PySem.F.args_dict_get_2 _ _) (meetsH_dict_get (pairKind prg B.w) a p ne) ⟨?_,(b,l),_,hk2,hm,?_⟩)
   ·show A.units+1+16 < cLine
    have h1:=lv.hu;have h2:=lv.hk
    have h3:cLine=9900:=rfl
    rw [h3];exact L.q63 h1 h2
   ·refine pv_ r (.toks _ _) h ?_
    have:atKey [((b,l),ka,val)] (b,l)=some (ka,val):=by simp [atKey]
    rw [this];exact hv
theorem s_get {n:Nat} {o a:CE} {d:CO} (ho:SE B C D o) (ha:SE B C D a) (hd:SO B C D d):SE B C D (.get n o a d):=fun c ok st K h A w F μ s lv hw r=>by
 have okm:=and_l (and_l ok)
 show wpX _ _ (eval (.Call (.Attribute (toE c o) "get" (c.P (n+1))) (toE c a :: (toO c d).toList) [] (c.P n)) w.env) _ s
 rw [arm_eval_Call,attributeBase_plain (and_l okm)]
 refine pE (ho c (and_l (and_r ok)) _ _ h A w F μ s lv hw r) fun F₁ μ₁ v s₁ x st₁ X₁ h₁ r₁ p₁=>Xb_ (Xt_ ?_)
 obtain ⟨h₁,p,o',rfl,e1,e2,e3⟩:=isD_e r₁ p₁ h₁
 have al:=backTo_all (pos:=c.P n) (starEach_all2 a d c w.env (and_r (and_l ok)))
 refine X_method al (show (toO c d).toList.length+1 < 20 from Nat.lt_of_le_of_lt (Nat.succ_le_succ (show (toO c d).toList.length≤1 by induction d using CO.casesOn <;> first | exact Nat.le_refl _ | exact Nat.zero_le _)) (by decide)) (and_r okm) PySem.F.plainAttrs_dict PySem.F.slot_dict_get PySem.F.type_dict_get ⟨o',e1,e2⟩ (fun b hb=>by cases hb;exact ⟨o',e1,e3⟩) ?_
 refine X_callWith al ?_
 rw [starEach_cons]
 refine Xb_ (Xm_ (ha c (and_l (and_r (and_r ok))) _ _ h₁ A w F₁ μ₁ s₁ lv hw r₁) fun u s₂ z1_=>?_)
 obtain ⟨F₂,μ₂,X₂,g₂,y,st₂,h₂,r₂,p₂⟩:=z1_
 refine Xb_ (Xp_ (Xb_ (Xh_ (Xm_ (hd.l c (and_r (and_r (and_r ok))) _ _ h₂ (c.P n) A w F₂ μ₂ s₂ lv hw r₂) fun us s₃ z2_=>?_))))
 obtain ⟨F₃,μ₃,X₃,g₃,z,st₃,h₃,r₃,p₃⟩:=z2_
 refine Xp_ ⟨kp_b _ _,?_⟩
 have fin {d:Option PV} {args:List Value} (hd:match d with | none=>args=[u] | some d=>∃ k,args=[u,k]∧Rep B F₃ μ₃ k d) (h:getW st₃.s x y d fun z=>K z st₃):wpX (model prg B.w) A (call (.builtin "dict.get") ([.ref p] ++ args) []) (Pst w.n₀ F₁ μ₁ s₁ (GE B w K)) s₃ :=
  Xm_ (get_ok lv r₃ (p₁.mono (X₂.trans X₃).fm (X₂.trans X₃).pre) (p₂.mono X₃.fm X₃.pre) hd h) fun _ _ y=>Pst.bind X₂ g₂ (Pst.bind X₃ g₃ y)
 obtain _ | ⟨z,_ | _⟩:=z <;> try exact h₃.elim
 ·obtain rfl:=p₃
  exact fin (d:=none) rfl h₃
 ·obtain ⟨v,_,rfl,p₃,rfl⟩:=p₃
  exact fin (d:=some z) ⟨_,rfl,p₃⟩ h₃
end
end
section
noncomputable def toP (c:Cx):CP→Expr
 | .own n i=>.Name (c.nm i) (c.P n)
 | .ref e=>toE c e
noncomputable def okP (c:Cx):CP→Bool
 | .own _ _=>true
 | .ref e=>okE c e
noncomputable def tn (c:Cx) (l:List (Nat × Nat)):List Expr:=l.map fun p=>.Name (c.nm p.2) (c.P p.1)
noncomputable def okTn (c:Cx) (l:List (Nat × Nat)):Bool:=l.all (fun p=>isL c p.2) && decide (l.map (·.2)).Nodup
noncomputable def toG (c:Cx):CG→Expr
 | .nm n i=>.Name (c.nm i) (c.P n)
 | .tup n l=>.Tuple (tn c l) 0 (c.P n)
noncomputable def okG (c:Cx):CG→Bool
 | .nm _ i=>isL c i
 | .tup _ l=>okTn c l
noncomputable def isComp:CN→Bool
 | .comp ..=>true
 | _=>false
noncomputable def plainE:CE→Bool
 | .fz a=>!isComp a
 | .th a=>!isComp a
 | _=>true
mutual
noncomputable def toS (c:Cx):CS→Stmt
 | .ex n e=>.Expr (toE c e) (c.P n)
 | .app n p e=>.Expr (.Call (.Attribute (toP c p) "append" (c.P (n+2))) [toE c e] [] (c.P (n+1))) (c.P n)
 | .asg n i e=>.Assign [.Name (c.nm i) (c.P (n+1))] (toE c e) (c.P n)
 | .asgO n i a=>.Assign [.Name (c.nm i) (c.P (n+1))] (toN c a) (c.P n)
 | .asgT n l e=>.Assign [.Tuple (tn c l) 0 (c.P (n+1))] (toE c e) (c.P n)
 | .asgA n o j e=>.Assign [.Attribute (toE c o) (an j) (c.P (n+1))] (toE c e) (c.P n)
 | .asgI n p i e=>.Assign [.Subscript (toP c p) (toE c i) (c.P (n+1))] (toE c e) (c.P n)
 | .asgK n p j e=>.Assign [.Subscript (toP c p) (.Constant (.str (skey j)) 0 (c.P (n+2))) (c.P (n+1))] (toE c e) (c.P n)
 | .asgS n p lo hi e=>.Assign [.Subscript (toP c p) (.Slice (some (toE c lo)) (some (toE c hi)) none (c.P (n+2))) (c.P (n+1))] (toE c e) (c.P n)
 | .aug n i e=>.AugAssign (.Name (c.nm i) (c.P (n+1))) .Add (toE c e) (c.P n)
 | .ite n t a b=>.If (toT c t) (toB c a) (toB c b) (c.P n)
 | .for_ n g it b=>.For (toG c g) (toE c it) (toB c b) [] (c.P n)
 | .fore n m i g it b=>.For (toG c g) (.Call (.Name (c.nm i) (c.P (m+1))) [toE c it] [] (c.P m)) (toB c b) [] (c.P n)
 | .whl n t b=>.While (toT c t) (toB c b) [] (c.P n)
 | .ret n e=>.Return (some (toE c e)) (c.P n)
 | .ret0 n=>.Return none (c.P n)
 | .brk n=>.Break (c.P n)
 | .stuck k=>c.raw k
noncomputable def toB (c:Cx):CB→List Stmt
 | .nil=>[]
 | .cons s b=>toS c s :: toB c b
end
mutual
noncomputable def okS (c:Cx):CS→Bool
 | .ex _ e=>plainE e && okE c e
 | .app n p e=>(plainBase (toP c p) && (c.P (n+2)).endLine == (c.P (n+1)).line) && (okP c p && okE c e)
 | .asg _ i e=>(isL c i && plainE e) && okE c e
 | .asgO _ i a=>(match nth c.ns i with | some (_,.local)=>true | _=>false) && okN c a
 | .asgT _ l e=>(okTn c l && (plainE e && (match toE c e with | .Tuple vs _ _=>!(vs.all (constantsAlone 8)) || vs.all (foldedForSure 8) | _=>true))) && okE c e
 | .asgA _ o _ e=>plainE e && (okE c o && okE c e)
 | .asgI _ p i e=>plainE e && (okP c p && (okE c i && okE c e))
 | .asgK _ p _ e=>plainE e && (okP c p && okE c e)
 | .asgS _ p lo hi e=>plainE e && (okP c p && (okE c lo && (okE c hi && okE c e)))
 | .aug _ i e=>isL c i && okE c e
 | .ite _ t a b=>okT c t && (okB c a && okB c b)
 | .for_ _ g it b=>okG c g && (okE c it && okB c b)
 | .fore _ _ i g it b=>(isG c i (bnm 8) && (match g with | .tup ..=>true | _=>false)) && (okG c g && (okE c it && okB c b))
 | .whl _ t b=>okT c t && okB c b
 | .ret _ e=>okE c e
 | .ret0 _=>true
 | .brk _=>true
 | .stuck _=>true
noncomputable def okB (c:Cx):CB→Bool
 | .nil=>true
 | .cons s b=>okS c s && okB c b
end
section
variable {B:Bs} {C:Orc} {D:Nat} {A:Around} {w:Wh} {F F':Heap} {μ μ':List Addr} {s:Shared} {st st₁:St} {c:Cx} {n₀:Nat} {M:Model}
def RPl (w:Wh) (μ:List Addr) (v:Value):PL→Prop
 | .own i=>v=.ref (w.oa i)
 | .ref i=>∃ a,v=.ref a∧μ[i]?=some a
theorem RPl.mono {p:PL} {v:Value} (x:RPl w μ v p) (pr:Pre μ μ'):RPl w μ' v p:=by
 cases p with
 | own y=>exact x
 | ref i=>obtain ⟨a,e,q⟩:=x;exact ⟨a,e,pr.at q⟩
def GPl (B:Bs) (e:Wh) (K:PL→St→Prop) (F:Heap) (μ:List Addr) (v:Value) (h:Heap):Prop:=∃ p st,K p st∧SR B e F μ st h∧RPl e μ v p
def SP (B:Bs) (C:Orc) (D:Nat) (p:CP):Prop:=∀ c,okP c p=true→∀ st K,wP C p st K→∀ A w F μ s,Lv A D→w.sc=c.ns→SR B w F μ st s.heap→wpX (model prg B.w) A (eval (toP c p) w.env) (Pst w.n₀ F μ s (GPl B w K)) s
theorem p_own {n i:Nat}:SP B C D (.own n i):=fun c ok st K h A w F μ s lv hw r=>by
 obtain ⟨m,hn,hm⟩:=r.fr.ns
 have h:(match nth st.r i with | some (.own _)=>K (.own i) st | _=>False):=h
 cases hy:nth st.r i with
 | none=>rw [hy] at h;exact h.elim
 | some y =>
  rw [hy] at h
  induction y using LV.casesOn <;> try exact h.elim
  obtain ⟨x,a,b,d⟩:=hm i _ hy
  show wpX _ _ (eval (.Name (c.nm i) (c.P n)) w.env) _ s
  rw [nm_at (hw ▸ a)]
  exact Xa_ (wpAny_Name (wpAny_loadName_local r.fr.sc.kind (r.fr.sc.kindOf a) hn b (.grown (.refl _) ⟨.own i,st,h,r,rfl⟩)) (Bool.or_eq_false_iff.mp (r.fr.sc.dbg _ _ _ a)).1)
theorem p_ref {e:CE} (he:SE B C D e):SP B C D (.ref e):=fun c ok st K h A w F μ s lv hw r =>
 p_then (he c ok _ _ h A w F μ s lv hw r) fun F₁ μ₁ v s₁ X z1_=>by
  obtain ⟨x,st₁,k,r₁,p⟩:=z1_
  induction x using PV.casesOn <;> try exact k.elim
  exact .grown (.refl _) ⟨_,st₁,k,r₁,p⟩
set_option tactic.hygienic true in
theorem pl_con {p:PL} {v:Value} {K:PV→Prop} (r:SR B w F μ st s.heap) (hp:RPl w μ v p) (h:plG p st K) :
  ∃ y,K y∧∃ a,v=.ref a∧Con B F μ s.heap a y∧F.get? a=none∧∀ h' z,Heap.SameBut a s.heap h'→Con B F μ h' a z→Ext w.n₀ F μ s.heap F μ h'∧SR B w F μ (plP p z st) h':=by
 cases p with
 | own i =>
  have h:(match nth st.r i with | some (.own x)=>K x | _=>False):=h
  cases hy:nth st.r i with
  | none=>rw [hy] at h;exact h.elim
  | some y =>
   rw [hy] at h
   induction y using LV.casesOn <;> try exact h.elim
   rename_i y
   obtain ⟨m,hn,hm⟩:=r.fr.ns
   obtain ⟨x,a,b,d,e⟩:=hm i _ hy
   exact ⟨y,h,_,hp,d,(r.fr.ap (.own i) _ ⟨rfl,y,hy⟩).2.1,fun h' z hs c=>(r.ownPut hy hs c).symm⟩
 | ref i =>
  obtain ⟨a,rfl,hi⟩:=hp
  obtain ⟨y,hy,h⟩:=gs_e h
  exact ⟨y,h,a,rfl,r.ss.obj i a y hi hy,r.ss.free _ (List.mem_of_getElem? hi),fun h' z hs c=>⟨.put hi hs,r.put hi hs c⟩⟩
theorem seq_upd {h:Heap} {l:Addr} {items:Array Value} {k:Nat} (hl:IsL h l items k) (f:Array Value→Array Value):∃ k',IsL (h.update l (Obj.mapSeq f)) l (f items) k':=by
 refine ⟨_,Heap.get?_update_self (Obj.mapSeq f) hl rfl⟩
theorem append_exact {l:Addr} {items:Array Value} {k:Nat} {x:Value} {Q:Value→Shared→Prop} (hl:IsL s.heap l items k) (hsz:items.size≤sizeLine)
  (hQ:∀ h' k',IsL h' l (items.push x) k'→Heap.SameBut l s.heap h'→Q .none { s with heap:=h' }):wpAny (model prg B.w) A (call (.builtin "list.append") [.ref l,x]) Q noE s:=by
 refine wpAny_call_entry slot_list_append ⟨_,hl,rfl⟩ entry_list_append ?_ (args_list_append _ _)
 show wpAny _ _ (updateSeq l (·.push x) >>= fun _=>ret .none) _ _ s
 refine wb_ ?_
 obtain ⟨k',hk⟩:=seq_upd hl (·.push x)
 exact wpAny_updateSeq hl rfl (wq_ ⟨.none,rfl,hQ _ _ hk (Heap.SameBut.update ..)⟩) (hz:=hsz) (_hz':=by rw [Array.size_push];exact L.q64 hsz)
theorem setItem_list {l:Addr} {items:Array Value} {m:Nat} {k:Int} {t:Tok} {v:Value} {Q:Unit→Shared→Prop} (hl:IsL s.heap l items m)
  (h0:0≤k) (hfit:k < 2 ^ 63) (hn:k < items.size)
  (hQ:∀ h' m',IsL h' l (items.setIfInBounds k.toNat v) m'→Heap.SameBut l s.heap h'→Q () { s with heap:=h' }) :
  wpAny (model prg B.w) A (setItem (.ref l) (.int k t) v) Q noE s:=by
 have hl':s.heap.IsList l items:=⟨_,hl,rfl,_,rfl⟩
 unfold setItem
 try with_reducible refine wpAny_holding ?_
 first | refine wb_ (wq_ ?_) | skip
 refine wb_ (wpAny_sequenceKey hl'.typeIs (by decide) ?_)
 refine wb_ (wpAny_callSpecial?_slot (name:=Str.ofString "__setitem__") hl'.typeIs slot_list_setitem
  (wpAny_call_entry slot_list_setitem hl'.typeIs entry_list_setitem ?_ (args_list_setitem _ _ _)))
 show wpAny _ _ (Builtin.List.listSubscript? (.int k t) >>= _) _ _ s
 refine wb_ (wpAny_listSubscript_int (fitsIndex_of h0 hfit) ?_)
 clear hfit
 obtain ⟨j,rfl⟩:=Int.eq_ofNat_of_zero_le h0
 have hj:j < items.size:=L.q65 hn
 have hx':items[j]?=some items[j]:=Array.getElem?_eq_getElem hj
 show wpAny _ _ ((seqItemAt l j >>= fun r=>pure (r.map (j,·))) >>= _) _ _ s
 refine wb_ (wb_ (wpAny_seqItemAt hl rfl (wq_ ?_)))
 rw [hx']
 show wpAny _ _ (setSeqItemAt l j v >>= _) _ _ s
 obtain ⟨m',hm'⟩:=seq_upd hl (·.setIfInBounds j v)
 refine wb_ (wpAny_setSeqItemAt hl rfl ?_)
 first
  | exact wb_ (wq_ (wq_ ⟨.none,rfl,wq_ (hQ _ _ hm' (Heap.SameBut.update ..))⟩))
  | exact wq_ ⟨.none,rfl,wq_ (hQ _ _ hm' (Heap.SameBut.update ..))⟩
theorem ints_set:∀ {vs:List Value} {xs:List Int} {i:Nat} {y:Int} {t:Tok},IntsAre vs xs→IntsAre (vs.set i (.int y t)) (xs.set i y)
 | _,_,i,y,t,.nil=>.nil
 | _,_,0,y,t,.cons n u r=>.cons _ _ r
 | _,_,i+1,y,t,.cons n u r=>.cons _ _ (ints_set r)
theorem RepL.push {vs:List Value} {xs:List PV} {v:Value} {x:PV} (r:RepL B F μ vs xs) (a:Rep B F μ v x):RepL B F μ (vs ++ [v]) (xs ++ [x]):=r.append ⟨_,_,rfl,a,rfl⟩
theorem ints_push:∀ {vs:List Value} {xs:List Int} {i:Int} {t:Tok},IntsAre vs xs→IntsAre (vs ++ [.int i t]) (xs ++ [i])
 | _,_,i,t,.nil=>.cons _ _ .nil
 | _,_,i,t,.cons n u r=>.cons _ _ (ints_push r)
set_option tactic.hygienic true in
theorem app_ok {a:Addr} {v:Value} {x y:PV} {K:PV→Prop} {Q:Value→Shared→Prop} (cn:Con B F μ s.heap a x) (hv:Rep B F μ v y) (h:appW x y K)
  (hQ:∀ z h',K z→Heap.SameBut a s.heap h'→Con B F μ h' a z→Q .none { s with heap:=h' }):wpX (model prg B.w) A (call (.builtin "list.append") [.ref a,v]) Q s:=by
 have push {x:PV} (items:Array Value) (m:Nat) (q:IsL s.heap a items m) (hz:items.size < 1000000) (z:PV) (k:K z) (con:∀ h',IsLs h' a (items.push v)→Con B F μ h' a z):wpX (model prg B.w) A (call (.builtin "list.append") [.ref a,v]) Q s :=
  Xa_ (append_exact q (by rw [sizeLine_eq];exact L.q66 hz) fun h' k' q' hs=>hQ z h' k hs (con h' ⟨k',q'⟩))
 induction x using PV.casesOn <;> try exact h.elim
 case il l =>
  replace h:=gd_e h;obtain ⟨hg,h⟩:=h
  obtain ⟨items,⟨m,q⟩,q2,_⟩:=cn
  have hl:=IntsAre.length q2
  rw [Array.length_toList] at hl
  have lst (h:match (generalizing:=false) l with | []=>K (.lst [y]) | _=>False):wpX (model prg B.w) A (call (.builtin "list.append") [.ref a,v]) Q s:=by
   cases l <;> try exact h.elim
   exact push (x:=.none) items m q (L.q67 hg hl) _ h fun h' i=>⟨_,i,by rw [Array.toList_push];exact (RepL.ints.mp q2).push hv,show 1≤1000000 by decide⟩
  induction y using PV.casesOn <;> try exact lst h
  obtain ⟨t,rfl⟩:=hv
  exact push (x:=.none) items m q (L.q67 hg hl) _ h fun h' i=>⟨_,i,by rw [Array.toList_push];exact ints_push q2,by rw [List.length_append,List.length_singleton];exact L.q68 hg⟩
 case lst l =>
  replace h:=gd_e h;obtain ⟨hg,h⟩:=h
  obtain ⟨items,⟨m,q⟩,q2,_⟩:=cn
  have hl:=q2.length
  rw [Array.length_toList] at hl
  exact push (x:=.none) items m q (L.q67 hg hl) _ h fun h' i=>⟨_,i,by rw [Array.toList_push];exact q2.push hv,by rw [List.length_append,List.length_singleton];exact L.q68 hg⟩
set_option tactic.hygienic true in
theorem s_pop {n m:Nat} {o:CE} (ho:SE B C D o):SE B C D (.pop n m o):=fun c ok st K h A w F μ s lv hw r=>by
 have okm:=and_l ok
 show wpX _ _ (eval (.Call (.Attribute (toE c o) "pop" (c.P (n+1))) [.Constant (.int 0) 0 (c.P m)] [] (c.P n)) w.env) _ s
 rw [arm_eval_Call,attributeBase_plain (and_l okm)]
 refine pE (ho c (and_r ok) _ _ h A w F μ s lv hw r) fun F₁ μ₁ v s₁ x st₁ X₁ h₁ r₁ p₁=>Xb_ (Xt_ ?_)
 induction x using PV.casesOn <;> try exact h₁.elim
 rename_i i
 obtain ⟨y,hy,h₁⟩:=gs_e h₁
 induction y using PV.casesOn <;> try exact h₁.elim
 rename_i l
 cases l <;> try exact h₁.elim
 rename_i j l
 obtain ⟨a,rfl,hi⟩:=p₁
 obtain ⟨items,⟨k,q⟩,q2,hz⟩:=r₁.ss.obj i a _ hi hy
 refine X_method (args:=backTo (c.P n) (starEach [.Constant (.int 0) 0 (c.P m)] w.env)) rfl (show 1 < 20 by decide) (and_r okm) PySem.F.plainAttrs_list PySem.F.slot_list_pop PySem.F.type_list_pop ⟨_,q,rfl⟩ (fun b hb=>by cases hb;exact ⟨_,q,rfl⟩) ?_
 refine X_callWith (args:=backTo (c.P n) (starEach [.Constant (.int 0) 0 (c.P m)] w.env)) rfl (Xb_ (Xa_ (wpAny_Constant_int (k:=0) (pos:=c.P m) (Xb_ (Xp_ (Xb_ (Xh_ (Xp_ (Xp_ ⟨kp_b _ _,?_⟩)))))))))
 cases hi':items.toList with
 | nil=>rw [hi'] at q2;cases q2
 | cons v1 rest =>
  rw [hi'] at q2
  cases q2 with | cons _ u q3 =>
  have hl:=IntsAre.length q3
  have hsz:items.size=rest.length+1:=by rw [← Array.length_toList,hi'];rfl
  have h0:items[0]?=some (.int j u):=by rw [← Array.getElem?_toList,hi'];rfl
  rw [List.length_cons] at hz
  refine Xa_ (call_meets (s:={ s₁ with toks:=s₁.toks+1 }) PySem.F.slot_list_pop ⟨_,q,rfl⟩ PySem.F.entry_list_pop (PySem.F.args_list_pop_2 _ _) (PySem.MeetsSeq.list_pop_at a items k 0 s₁.toks 0 (.int j u) (by decide) (by simp [seqIndex?,hsz]) h0 (by rw [sizeLine_eq];exact L.q69 hz hl hsz)) ⟨q,?_⟩)
  have e:items.eraseIdxIfInBounds 0=rest.toArray:=by
   rw [← Array.toList_inj,Array.toList_eraseIdxIfInBounds,hi'];rfl
  obtain ⟨k',hk⟩:=seq_upd q fun xs=>xs.eraseIdxIfInBounds 0
  rw [e] at hk
  exact ⟨F₁,μ₁,.put hi (Heap.SameBut.update ..),⟨rfl,rfl⟩,_,_,h₁,r₁.put hi (Heap.SameBut.update ..) ⟨rest.toArray,⟨_,hk⟩,q3,by exact L.q70 hz⟩,_,rfl⟩
end
end
section
theorem good_bset (a:Args):good (.builtin "bytearray.__setitem__" a):=fun v p=>by
 obtain ⟨l,k⟩:=a
 cases l with
 | nil=>kernel_rfl
 | cons u l=>rw [show exL v [(.builtin "bytearray.__setitem__" ⟨u :: l,k⟩,p)]=((PySem.Builtin.Bytes.sameRef u v && Builtin.Bytes.decodersThatHold.contains "bytearray.__setitem__") || false) by kernel_rfl,show Builtin.Bytes.decodersThatHold.contains "bytearray.__setitem__" = false by decide +kernel,Bool.and_false];rfl
section
variable {B:Bs} {C:Orc} {D:Nat} {A:Around} {w:Wh} {F:Heap} {μ:List Addr} {s:Shared} {st:St} {c:Cx} {n₀:Nat}
theorem stored_in {T:Type} [DecidableEq T] {kvs:List (T × Value)} {k:T} {v:Value} (hn:(kvs.map (·.1)).Nodup):∀ {a:T × Value} {b:List (T × Value)},kvs=a :: b→(a.1=k→stored kvs k v=(a.1,v) :: b)∧(a.1 ≠ k→stored kvs k v=a :: stored b k v):=by
 rintro a b rfl
 rw [List.map_cons,List.nodup_cons] at hn
 refine ⟨fun ha=>?_,fun ha=>?_⟩
 ·unfold stored
  rw [if_pos (by simp [ha]),List.map_cons,if_pos ha]
  congr 1
  refine (List.map_congr_left fun p hp=>?_).trans (List.map_id _)
  rw [if_neg (fun e=>hn.1 (by have:=List.mem_map_of_mem (f:=fun (x:T × Value)=>x.1) hp;rw [e,← ha] at this;exact this))];rfl
 ·unfold stored
  simp only [List.any_cons,decide_eq_false ha,Bool.false_or]
  split
  ·rw [List.map_cons,if_neg ha]
  ·rfl
theorem stored_pv {v:Value} {x:PV} {j:Nat} (hj:j < 2) (hv:Rep B F μ v x) {ks:List Nat} {vs:List PV} {kvs:List (Str × Value)} (h2:∀ i ∈ ks,i < 2) (hk:kvs.map (·.1)=ks.map skey) (hn:(kvs.map (·.1)).Nodup) (hr:RepL B F μ (kvs.map (·.2)) vs) :
  (stored kvs (skey j) v).map (·.1)=(pk ks j).map skey∧RepL B F μ ((stored kvs (skey j) v).map (·.2)) (pv ks vs j x):=by
 induction ks generalizing vs kvs with
 | nil =>
  cases kvs with
  | nil=>cases vs with
   | nil=>exact ⟨rfl,_,_,rfl,hv,rfl⟩
   | cons _ _=>obtain ⟨_,_,e,_⟩:=hr;exact nomatch e
  | cons _ _=>exact nomatch hk
 | cons k ks ih =>
  cases kvs with
  | nil=>exact nomatch hk
  | cons a b =>
   cases vs with
   | nil=>exact nomatch (show (_ :: _:List Value)=[] from hr)
   | cons p vs =>
    obtain ⟨u,us,e,r1,r2⟩:=hr
    obtain ⟨e1,e2⟩:=List.cons.inj e
    subst e1 e2
    obtain ⟨hk0,hk⟩:=List.cons.inj hk
    have hk0:a.1=skey k:=hk0
    have hn':=(List.nodup_cons.mp hn).2
    have S:=stored_in (k:=skey j) (v:=v) hn rfl
    by_cases q:k=j
    ·subst q
     rw [S.1 hk0]
     have b1:Nat.beq k k=true:=Nat.beq_refl k
     have e1:pk (k :: ks) k=k :: ks:=by unfold pk inK;rw [b1]
     have e2:pv (k :: ks) (p :: vs) k x=x :: vs:=by unfold pv;rw [b1]
     rw [e1,e2]
     exact ⟨by rw [List.map_cons,List.map_cons,hk0,hk],_,_,rfl,hv,r2⟩
    ·rw [S.2 fun e=>q (skey_inj (h2 k List.mem_cons_self) hj (hk0.symm.trans e))]
     have b1:Nat.beq k j=false:=by cases h:Nat.beq k j with | false=>rfl | true=>exact absurd (Nat.eq_of_beq_eq_true h) q
     obtain ⟨i1,i2⟩:=ih (fun i m=>h2 i (List.mem_cons_of_mem _ m)) hk hn' r2
     have e1:pk (k :: ks) j=k :: pk ks j:=by
      have:inK (k :: ks) j=inK ks j:=by show (match Nat.beq k j with | true=>true | false=>inK ks j)=_;rw [b1]
      unfold pk;rw [this];cases inK ks j <;> rfl
     have e2:pv (k :: ks) (p :: vs) j x=p :: pv ks vs j x:=by show (match Nat.beq k j with | true=>x :: vs | false=>p :: pv ks vs j x)=_;rw [b1]
     rw [e1,e2]
     exact ⟨by rw [List.map_cons,List.map_cons,hk0,i1],_,_,rfl,r1,i2⟩
theorem ed_dict {K:Type} [DecidableEq K] (knd:KeyKind prg B.w K) {h:Heap} {a:Addr} {ep:Nat} (q:h.get? a=some { cls:=.type "dict",data:=.dict #[] ep }):h.DictOf knd a [] :=
 ⟨_,#[],ep,q,⟨rfl,rfl,rfl⟩,rfl,fun _ he=>by simp at he,Pairs.nil,List.nodup_nil⟩
theorem stored_len {T:Type} [DecidableEq T] (kvs:List (T × Value)) (k:T) (v:Value):(stored kvs k v).length≤kvs.length+1:=by
 unfold stored
 split
 ·rw [List.length_map];exact Nat.le_succ _
 ·rw [List.length_append];exact Nat.le_refl _
set_option tactic.hygienic true in
theorem store_ok {a:Addr} {y k x:PV} {kv v:Value} {K:PV→Prop} {Q:Unit→Shared→Prop} (lv:Lv A D) (le:Le F s.heap) (c:Con B F μ s.heap a y) (hk:Rep B F μ kv k) (hv:Rep B F μ v x)
  (h:storeW y k x K) (hq:∀ z h' tk,K z→Heap.SameBut a s.heap h'→Con B F μ h' a z→Q () { s with heap:=h',toks:=tk }):wpX (model prg B.w) A (setItem (.ref a) kv v) Q s:=by
 induction y using PV.casesOn <;> try exact h.elim
 case il l =>
  replace h:=asI_e h;obtain ⟨k,rfl,h⟩:=h
  replace h:=asI_e h;obtain ⟨y,rfl,h⟩:=h
  replace h:=gd_e h;obtain ⟨hg,h⟩:=h
  obtain ⟨t,rfl⟩:=hk
  obtain ⟨u,rfl⟩:=hv
  obtain ⟨items,⟨m,q⟩,q2,hz⟩:=c
  have hl:=IntsAre.length q2
  rw [Array.length_toList] at hl
  exact Xa_ (setItem_list q hg.1 (L.q19 hg hz) (L.q20 hg hl) fun h' m' hI hs=>hq _ h' _ h hs ⟨_,⟨m',hI⟩,by rw [Array.toList_setIfInBounds];exact ints_set q2,by rw [List.length_set];exact hz⟩)
 case ed =>
  obtain ⟨hsys,ep,q⟩:=c
  induction k using PV.casesOn <;> try exact h.elim
  case str k =>
   obtain ⟨t,rfl⟩:=hk
   exact Xa_ (wpAny_setItem_pairs (hsz:=Nat.zero_le _) (strKind_is prg B.w k _) (ed_dict (strKind prg B.w) q) fun h' hm hs=>hq (.sdx 1) h' _ h hs ⟨_,hm,Nat.le_refl _⟩)
  case int k =>
   obtain ⟨t,rfl⟩:=hk
   exact Xa_ (wpAny_setItem_pairs (hsz:=Nat.zero_le _) (intKind_is prg B.w k _) (ed_dict (intKind prg B.w) q) fun h' hm hs=>hq (.idc [k] [x]) h' _ h hs ⟨hsys,_,hm,rfl,_,_,rfl,hv,rfl⟩)
  case tup l =>
   obtain _ | ⟨l1,_ | ⟨l2,_ | _⟩⟩:=l <;> try exact h.elim
   replace h:=asI_e h;obtain ⟨i,rfl,h⟩:=h
   replace h:=asT_e h;obtain ⟨l,rfl,h⟩:=h
   replace h:=asIs_e h;obtain ⟨u,rfl,h⟩:=h
   obtain ⟨p,rfl,items,⟨m,e1⟩,e2,_⟩:=hk
   obtain ⟨v1,_,hi,⟨t,rfl⟩,v2,_,rfl,⟨p2,rfl,items2,⟨m2,f1⟩,f2,_⟩,rfl⟩:=e2
   have hk2:IsPair prg B.w F (i,u) p:=⟨_,m,t,p2,e1,rfl,by
    rw [show items=#[.int i t,.ref p2] from by rw [← Array.toList_inj];exact hi],_,_,m2,f1,rfl,rfl,ints_items2 (ints_of f2)⟩
   have hm:s.heap.DictOfH (pairKind prg B.w) a []:=⟨_,#[],ep,q,⟨rfl,rfl,rfl⟩,rfl,rfl,(fun x hx=>by simp at hx),List.nodup_nil⟩
   refine Xa_ (wpAny_setItem_heap (hsz:=Nat.zero_le _) ?_ (hk2.le le) hm fun h' hm' hs=>hq (.td i u x) h' _ h hs ?_)
   ·show A.units+1+16 < cLine
    have h1:=lv.hu;have h2:=lv.hk
    have h3:cLine=9900:=rfl
    rw [h3];exact L.q63 h1 h2
   ·obtain ⟨o,es,ep',k1,k2,k3,k4,_⟩:=hm'
    refine ⟨hsys,o,ep',p,v,⟨k1,k2,?_⟩,hk2,hv⟩
    rw [k3]
    congr 1
    rw [← Array.toList_inj,k4]
    rfl
 case sdx n =>
  induction k using PV.casesOn <;> try exact h.elim
  rename_i k
  replace h:=gd_e h;obtain ⟨hg,h⟩:=h
  obtain ⟨kvs,q,q2⟩:=c
  obtain ⟨t,rfl⟩:=hk
  exact Xa_ (wpAny_setItem_pairs (hsz:=by rw [sizeLine_eq];exact L.q71 hg q2) (strKind_is prg B.w k _) q fun h' hm hs=>hq (.sdx (n+1)) h' _ h hs ⟨_,hm,Nat.le_trans (stored_len ..) (Nat.succ_le_succ q2)⟩)
theorem storeK_ok {a:Addr} {ks:List Nat} {vs:List PV} {x:PV} {j:Nat} {t:Tok} {v:Value} {Q:Unit→Shared→Prop} (c:Con B F μ s.heap a (.sd ks vs)) (hv:Rep B F μ v x) (hj:j < 2) (hz:ks.length≤1000)
  (hq:∀ h' tk,Heap.SameBut a s.heap h'→Con B F μ h' a (.sd (pk ks j) (pv ks vs j x))→Q () { s with heap:=h',toks:=tk }):wpX (model prg B.w) A (setItem (.ref a) (.str (skey j) t) v) Q s:=by
 obtain ⟨kvs,q,q2,q3,q4⟩:=c
 have hlen:kvs.length=ks.length:=by have:=congrArg List.length q2;rwa [List.length_map,List.length_map] at this
 obtain ⟨_,_,_,_,_,_,_,_,nd⟩:=id q
 obtain ⟨i1,i2⟩:=stored_pv hj hv q4 q2 nd q3
 exact Xa_ (wpAny_setItem_pairs (hsz:=by rw [sizeLine_eq];exact L.q72 hz hlen) (strKind_is prg B.w (skey j) _) q fun h' hm hs=>hq h' _ hs ⟨_,hm,i1,i2,fun i m=>(pk_mem m).elim (q4 i) fun e=>e ▸ hj⟩)
end
section
variable {B:Bs} {C:Orc} {D:Nat} {n:Nat} {A:Around} {w:Wh} {F:Heap} {μ:List Addr} {s:Shared} {st:St}
theorem put_list (xs new:Array Value) (a b:Nat) (h1:a≤b) (h2:b≤xs.size) :
  (xs.extract 0 ((a:Int)).toNat ++ new ++ xs.extract (max (a:Int) (b:Int)).toNat xs.size).toList=xs.toList.take a ++ new.toList ++ xs.toList.drop (max a b):=by
 have e:(max (a:Int) (b:Int)).toNat=max a b:=L.q73 h1
 rw [e]
 simp [Array.toList_extract]
 rw [Nat.max_eq_right h1]
 simp [List.take_of_length_le]
theorem bnds {a b n:Nat} (h1:a≤b) (h2:b≤n):PySem.sliceBounds (some (a:Int)) (some (b:Int)) none n=((a:Int),(b:Int),1):=by
 rw [sliceBounds_plain]
 simp only [Option.elim_some,clipAt_nat,Nat.min_eq_left h2,Nat.min_eq_left (Nat.le_trans h1 h2)]
theorem setItem_list_slice {l sl nl:Addr} {items new:Array Value} {m m2:Nat} {vl vu:Value} {a b:Nat} {Q:Unit→Shared→Prop} (hl:IsL s.heap l items m) (hn:IsL s.heap nl new m2) (hne:nl ≠ l)
  (hs:s.heap.IsSliceOf sl vl vu .none) (pl:IsPart vl (some (a:Int))) (pu:IsPart vu (some (b:Int))) (h1:a≤b) (h2:b≤items.size) (hz:items.size < 1000000) (hz2:new.size < 1000000)
  (hQ:∀ h' xs m',IsL h' l xs m'→xs.toList=items.toList.take a ++ new.toList ++ items.toList.drop (max a b)→Heap.SameBut l s.heap h'→Q () { s with heap:=h' }) :
  wpAny (model prg B.w) A (setItem (.ref l) (.ref sl) (.ref nl)) Q noE s:=by
 have hl':s.heap.IsList l items:=⟨_,hl,rfl,_,rfl⟩
 obtain ⟨os,hos,hcs,hds⟩:=id hs
 have hTs:s.TypeIs (.ref sl) "slice" := ⟨os,hos,hcs⟩
 unfold setItem
 try with_reducible refine wpAny_holding ?_
 first | refine wb_ (wq_ ?_) | skip
 refine wb_ (wpAny_sequenceKey hl'.typeIs (by decide) ?_)
 refine wb_ (wpAny_callSpecial?_slot (name:=Str.ofString "__setitem__") hl'.typeIs slot_list_setitem
  (wpAny_call_entry slot_list_setitem hl'.typeIs entry_list_setitem ?_ (args_list_setitem _ _ _)))
 show wpAny _ _ (Builtin.List.listSubscript? (.ref sl) >>= _) _ _ s
 refine wb_ ?_
 refine wb_ (wpAny_specialOf hTs slice_no_index ?_)
 refine PySem.bm_if_true rfl ?_
 refine wq_ ?_
 show wpAny _ _ (typeOf (.ref sl) >>= _) _ _ s
 refine wb_ (wpAny_typeOf hTs ?_)
 refine PySem.bm_if_false rfl ?_
 rw [listSliceParts_eq]
 refine wb_ (wb_ (wpAny_field hos hds (x:=.none) rfl (wb_ (wpAny_listPart .none ?_))))
 refine PySem.bm_if_false rfl ?_
 refine wb_ (wpAny_field hos hds (x:=vl) rfl (wb_ (wpAny_listPart pl ?_)))
 refine wb_ (wpAny_field hos hds (x:=vu) rfl (wb_ (wpAny_listPart pu (wq_ ?_))))
 dsimp only
 have hsr:Builtin.List.listSameRef (.ref l) (.ref nl)=false:=by simp [Builtin.List.listSameRef,Ne.symm hne]
 rw [hsr]
 rw [if_neg Bool.false_ne_true]
 have hn':s.heap.IsList nl new:=⟨_,hn,rfl,_,rfl⟩
 refine wb_ (m:=Builtin.List.listAllItems (.ref nl) "must assign iterable to extended slice") ?_
 refine wb_ (wpAny_typeOf hn'.typeIs ?_)
 refine PySem.bm_if_true rfl ?_
 refine wb_ (wpAny_seqItems hn rfl (wq_ ?_))
 refine wb_ ?_
 refine wb_ (wpAny_seqItems hl rfl (wq_ ?_))
 refine wb_ (wpAny_of_eq ((sliceIndices_raw (some (a:Int)) (some (b:Int)) none items.size (by decide)).trans (congrArg pure (bnds h1 h2))) ?_)
 refine PySem.bm_if_true rfl ?_
 have hlong:Builtin.List.listTooLong (items.size+new.size)=false:=by
  unfold Builtin.List.listTooLong
  rw [sizeLine_eq]
  exact decide_eq_false (L.q74 hz hz2)
 refine wb_ (wpAny_rule ?_)
 refine PySem.bm_if_false hlong ?_
 refine wb_ ?_
 show wpAny _ _ (updateSeq l _) _ _ s
 obtain ⟨k',hk⟩:=seq_upd hl fun xs=>xs.extract 0 ((a:Int)).toNat ++ new ++ xs.extract (max (a:Int) (b:Int)).toNat xs.size
 refine wpAny_updateSeq hl rfl ?_ (by rw [sizeLine_eq];exact L.q66 hz) ?_
 ·refine wb_ (wpAny_letGo (wq_ ⟨_,rfl,?_⟩))
  exact wq_ (hQ _ _ _ hk (put_list items new a b h1 h2) (Heap.SameBut.update ..))
 ·have:=congrArg List.length (put_list items new a b h1 h2)
  simp only [List.length_append,List.length_take,List.length_drop,Array.length_toList] at this
  rw [this,sizeLine_eq]
  exact L.q75 h1 h2 hz hz2
theorem X_special {o:Value} {T id:String} {name:Str} {Bi:Builtin} {rest:List Value} {Q:Option Value→Shared→Prop} (hT:s.TypeIs o T) (sl:Slot T name id) (he:entryFor table id=some Bi)
  (hgd:good (.builtin id ⟨o :: rest,[]⟩)) (hok:argsOk id ⟨o :: rest,[]⟩)
  (h:wpX (model prg B.w) A.in1 (Bi ⟨o :: rest,[]⟩) (finX (model prg B.w) A fun f s'=>match f with | .ret v=>Q (some v) s' | _=>False) s):wpX (model prg B.w) A (callSpecial? o name rest) Q s:=by
 refine Xb_ (Xa_ (wpAny_specialOf hT sl.lookup ?_))
 dsimp only
 refine Xh_ (Xb_ (X_of_eq (sl.bind o) ?_))
 refine Xb_ (X_call (cX_call_builtin (plainId_quiet sl.plain _) hgd he (Xa_ (sl.check _ _ _ _ _ _ _ _ hT hok ?_))))
 rw [Around.under_plainId sl.plain _]
 refine Xm_ h fun fin s₂ hf=>?_
 have fl_ok:∀ (r:Flow) (s₂:Shared),(match r with | .ret v=>Q (some v) s₂ | _=>False)→(match r with | .ret v=>wpX (model prg B.w) A (pure (some v)) Q s₂ | _=>False):=by
  intro r s₂ h
  induction r using Flow.casesOn <;> first | exact Xp_ h | exact h.elim
 cases fin with
 | done f=>exact fl_ok f s₂ hf
 | again c'=>exact ⟨hf.1,hf.2.1,cX_mono hf.2.2 fl_ok⟩
namespace Ba
theorem slot_set:Slot "bytearray" "__setitem__" "bytearray.__setitem__" :=
 .of (owner := "bytearray") (n := "__setitem__") (by rw [typeLookup_type,builtinLookup_eq_fast];kernel_rfl) (by decide +kernel) (by decide +kernel) (by decide +kernel)
  (by first | exact .inl (by decide +kernel) | exact .inr (by decide +kernel)) (by rw [isSubtype_type];kernel_rfl)
theorem entry_set:entryFor table "bytearray.__setitem__" = some Builtin.«bytearray.__setitem__»:=by first | exact entryFor_of_tree (by kernel_rfl) | exact entryFor_of_fast (by kernel_rfl)
theorem args_set (a b c:Value):argsOk "bytearray.__setitem__" ⟨[a,b,c],[]⟩:=by unfold argsOk;kernel_rfl
theorem by_int:typeLookup (.type "bytes") "__int__" = pure none:=by rw [typeLookup_type,builtinLookup_eq_fast];kernel_rfl
theorem by_float:typeLookup (.type "bytes") "__float__" = pure none:=by rw [typeLookup_type,builtinLookup_eq_fast];kernel_rfl
theorem sub_by_ba:isSubtype (.type "bytes") (.type "bytearray")=pure false:=by rw [isSubtype_type];kernel_rfl
theorem sub_by_complex:isSubtype (.type "bytes") (.type "complex")=pure false:=by rw [isSubtype_type];kernel_rfl
end Ba
theorem put_arr (xs new:Array UInt8) (a b:Nat) (h1:a≤b) (h2:b≤xs.size) :
  (xs.extract 0 ((a:Int)).toNat ++ new ++ xs.extract (max (a:Int) (b:Int)).toNat xs.size).toList=xs.toList.take a ++ new.toList ++ xs.toList.drop (max a b):=by
 have e:(max (a:Int) (b:Int)).toNat=max a b:=L.q73 h1
 rw [e]
 simp [Array.toList_extract]
 rw [Nat.max_eq_right h1]
 simp [List.take_of_length_le]
theorem setItem_ba {p sl:Addr} {arr new:Array UInt8} {t:Tok} {vl vu:Value} {a b:Nat} {Q:Unit→Shared→Prop} (hb:IsBA s.heap p arr)
  (hs:s.heap.IsSliceOf sl vl vu .none) (pl:IsPart vl (some (a:Int))) (pu:IsPart vu (some (b:Int))) (h1:a≤b) (h2:b≤arr.size) (hz:arr.size≤1000000) (hsz:new.size=b - a)
  (hQ:∀ h₁ h' arr',Le s.heap h₁→IsBA h' p arr'→arr'.toList=arr.toList.take a ++ new.toList ++ arr.toList.drop (max a b)→Heap.SameBut p h₁ h'→Q () { s with heap:=h' }) :
  wpX (model prg B.w) A (setItem (.ref p) (.ref sl) (.bytes new t)) Q s:=by
 obtain ⟨os,hos,hcs,hds⟩:=id hs
 have hTs:s.TypeIs (.ref sl) "slice" := ⟨os,hos,hcs⟩
 have hT:s.TypeIs (.ref p) "bytearray" := ⟨_,hb,rfl⟩
 have hTb:s.TypeIs (.bytes new t) "bytes" := PySem.W.typeIs_bytes _ _ _
 refine Xh_ ?_
 refine Xb_ (Xa_ (wpAny_sequenceKey hT (by decide) ?_))
 refine Xb_ (X_special (name:=Str.ofString "__setitem__") hT Ba.slot_set Ba.entry_set (good_bset _) (Ba.args_set _ _ _) ?_)
 unfold Builtin.«bytearray.__setitem__»
 dsimp only
 refine X_if_false rfl ?_
 refine Xb_ (Xa_ (t:=Builtin.Bytes.subscript? _) (wb_ (wpAny_specialOf hTs slice_no_index ?_)))
 refine PySem.bm_if_true rfl ?_
 refine wq_ ?_
 refine Xb_ (Xa_ (wpAny_typeOf hTs ?_))
 refine X_if_false rfl ?_
 refine Xb_ (Xa_ (ba_sliceParts hs pl pu ?_))
 refine Xb_ (Xm_ (Q:=fun b s'=>b=false∧s=s') ?_ ?_)
 ·exact Xa_ (wpAny_isInstance hTb Ba.sub_by_ba ⟨rfl,rfl⟩)
 rintro _ _ ⟨rfl,rfl⟩
 refine X_if_true rfl ?_
 refine Xb_ (Xm_ (Q:=fun b s'=>b=false∧s=s') ?_ ?_)
 ·unfold orM
  have hx {name:Str} (hl:typeLookup (.type "bytes") name=pure none):wpX (model prg B.w) A.in1 (do let r ← specialOf (Value.bytes new t) name;pure r.isSome) (fun b s'=>b=false∧s=s') s :=
   Xb_ (Xa_ (wpAny_specialOf hTb hl (by exact Xp_ ⟨rfl,rfl⟩)))
  refine Xb_ (Xm_ (hx Ba.by_index) ?_)
  rintro _ _ ⟨rfl,rfl⟩
  refine Xb_ (Xm_ (hx Ba.by_int) ?_)
  rintro _ _ ⟨rfl,rfl⟩
  refine Xb_ (Xm_ (hx Ba.by_float) ?_)
  rintro _ _ ⟨rfl,rfl⟩
  exact Xa_ (wpAny_isInstance hTb Ba.sub_by_complex ⟨rfl,rfl⟩)
 rintro _ _ ⟨rfl,rfl⟩
 refine Xb_ (X_of_eq (a:=none) rfl ?_)
 refine X_if_false rfl ?_
 refine Xb_ (X_rule ?_)
 refine Xb_ (Ba.call_ba (L.q76 h2 hz hsz) fun h₁ hb₁ hle=>?_)
 have hs₁:h₁.IsSliceOf sl vl vu .none:=⟨os,hle _ _ hos,hcs,hds⟩
 have hb₂:IsBA h₁ p arr:=hle _ _ hb
 have hne:p ≠ s.heap.objs.size:=Nat.ne_of_lt (Heap.lt_size hb)
 refine Xb_ (Xh_ (Xa_ (ba_sliceParts (s:={ s with heap:=h₁ }) hs₁ pl pu ?_)))
 refine Xb_ (Xa_ (ba_payload (s:={ s with heap:=h₁ }) hb₁ ?_))
 refine Xb_ (Xa_ (ba_payload (s:={ s with heap:=h₁ }) hb₂ ?_))
 refine Xb_ (X_of_eq ((sliceIndices_raw (some (a:Int)) (some (b:Int)) none arr.size (by decide)).trans (congrArg pure (bnds h1 h2))) ?_)
 refine X_if_true rfl ?_
 refine Xb_ (X_rule ?_)
 refine X_if_false ?_ ?_
 ·simp only [bne_eq_false_iff_eq];exact L.q77 h1 hsz
 have hlen:(arr.extract 0 ((a:Int)).toNat ++ new ++ arr.extract (max (a:Int) (b:Int)).toNat arr.size).size=arr.size:=by
  have:=congrArg List.length (put_arr arr new a b h1 h2)
  simp only [List.length_append,List.length_take,List.length_drop,Array.length_toList] at this
  exact L.q78 h1 h2 hsz this
 refine Xb_ (Xa_ (Ba.write_ba (s:={ s with heap:=h₁ }) hb₂ (by show (arr.extract 0 _ ++ new ++ _).size≤_;rw [hlen,sizeLine_eq];exact L.q30 hz) fun h₂ hb₃ hs₂=>?_))
 refine Xp_ (Xp_ (hQ h₁ _ _ hle hb₃ (put_arr arr new a b h1 h2) hs₂))
end
end
section
section
variable {B:Bs} {C:Orc} {D:Nat} {n:Nat} {A:Around} {w:Wh} {F F':Heap} {μ:List Addr} {s:Shared} {st:St}
structure Itr (B:Bs) (A:Around) (tgt:Expr) (it:Value) (l:List PV) (F₀:Heap) (μ₀:List Addr) (wr:List Addr) (S:Nat→Heap→Prop):Prop where
 next:∀ i x (w:Wh) F μ st s,l[i]?=some x→Le F₀ F→Pre μ₀ μ→SR B w F μ st s.heap→(∀ b ∈ wr,Nw w st.r F μ b)→S i s.heap →
  wpX (model prg B.w) A (pyNext it) (fun r s₁=>∃ v,r=some v∧wpX (model prg B.w) A (letOwnedTupleGo tgt it v) (fun _ s₂=>∃ F',Ext w.n₀ F μ s.heap F' μ s₂.heap∧SR B w F' μ st s₂.heap∧(s₂.gens=s.gens∧s₂.os=s.os) ∧
   Rep B F' μ v x∧(∀ b ∈ wr,Nw w st.r F' μ b)∧S (i+1) s₂.heap) s₁) s
 done:∀ (w:Wh) F μ st s,Le F₀ F→Pre μ₀ μ→SR B w F μ st s.heap→(∀ b ∈ wr,Nw w st.r F μ b)→S l.length s.heap →
  wpX (model prg B.w) A (pyNext it) (fun r s₁=>r=none∧Ext w.n₀ F μ s.heap F μ s₁.heap∧SR B w F μ st s₁.heap∧(s₁.gens=s.gens∧s₁.os=s.os)) s
 frame:∀ i h h' F,Le F₀ F→Le F h'→S i h→(∀ b ∈ wr,∀ o,h.get? b=some o→h'.get? b=some o)→S i h'
 ex:∀ i h,S i h→∀ b ∈ wr,∃ o,h.get? b=some o
 self:∀ i s (Q:Value→Shared→Prop),S i s.heap→Q it s→wpX (model prg B.w) A (pyIter it) Q s
noncomputable def owners:List String:=["enumerate", "zip", "dict_itemiterator", "dict_reverseitemiterator", "odict_iterator", "itertools.zip_longest", "itertools.pairwise"]
theorem go_plain {tgt:Expr} {I:Addr} {v:Value} {T:String} {Q:Unit→Shared→Prop} {E:Value→Shared→Prop} (hT:s.TypeIs (.ref I) T) (hn:owners.contains T=false) (h:Q () s):wpAny (model prg B.w) A (letOwnedTupleGo tgt (.ref I) v) Q E s:=by
 obtain ⟨o,ho,hc⟩:=hT
 have main:wpAny (model prg B.w) A (do
  let (.ref r,.ref a):=(Value.ref I,v) | return
  let o ← load r
  match o.cls,o.data with
  | .type n,.fields vs =>
   if ["enumerate", "zip", "dict_itemiterator", "dict_reverseitemiterator", "odict_iterator", "itertools.zip_longest", "itertools.pairwise"].contains n && vs[0]? == some (rawInt a) then
    rule "for.unpacks-the-owned-tuple"
    updateField r 0 .none
  | _,_=>pure ()) Q E s:=by
  cases v with
  | ref a =>
   refine wb_ (wpAny_load ho ?_)
   rw [hc]
   split
   ·rename_i e1 e2
    cases e1
    have:(["enumerate", "zip", "dict_itemiterator", "dict_reverseitemiterator", "odict_iterator", "itertools.zip_longest", "itertools.pairwise"]:List String).contains T=false:=hn
    rw [this,Bool.false_and]
    exact wq_ h
   ·exact wq_ h
  | _=>exact wq_ h
 unfold letOwnedTupleGo
 induction tgt using Expr.casesOn <;> first | exact wq_ h | exact main
theorem Itr.of_walks {tgt:Expr} {I:Addr} {l:List PV} {fp:List Addr} {P:Nat→Value→Prop} {S:Nat→Heap→Prop} {T:String} (W:Walks prg B.w A I fp [I] l.length P S)
  (hfp:∀ b ∈ fp,b=I ∨ ∃ o,F.get? b=some o) (hP:∀ i v,P i v→∀ x,l[i]?=some x→Rep B F μ v x) (hT:∀ i h,S i h→∃ o,h.get? I=some o∧o.cls=.type T) (hn:owners.contains T=false)
  (hS:∀ i h b,S i h→b ∈ fp→b ≠ I→∀ o,F.get? b=some o→h.get? b=some o):Itr B A tgt (.ref I) l F μ [I] S where
 next:=fun i x w F₁ μ₁ st s hx f p r nw hs=>by
  refine Xa_ (W.item i s _ _ (List.getElem?_eq_some_iff.mp hx).1 hs fun v h' tk pv hs' hk=>?_)
  obtain ⟨o,ho,hc⟩:=hT _ _ hs'
  refine ⟨v,rfl,Xa_ (go_plain ⟨o,ho,hc⟩ hn ?_)⟩
  obtain ⟨r',X⟩:=r.offs hk nw
  exact ⟨F₁,X,r',⟨rfl,rfl⟩,(hP i v pv x hx).mono f p,nw,hs'⟩
 done:=fun w F₁ μ₁ st s f p r nw hs=>by
  refine Xa_ (W.done s _ _ hs fun h' tk hk=>?_)
  obtain ⟨r',X⟩:=r.offs hk nw
  exact ⟨rfl,X,r',⟨rfl,rfl⟩⟩
 frame:=fun i h h' F₁ f g hs hk=>W.frame i h h' hs fun b hb o ho=>by
  rcases hfp b hb with rfl | ⟨o',ho'⟩
  ·exact hk _ (List.mem_singleton.mpr rfl) o ho
  ·by_cases hbI:b=I
   ·subst hbI;exact hk _ (List.mem_singleton.mpr rfl) o ho
   ·have:=hS i h b hs hb hbI o' ho'
    rw [ho] at this
    cases this
    exact g _ _ (f _ _ ho')
 ex:=fun i h hs b hb=>by
  rw [List.mem_singleton.mp hb]
  obtain ⟨o,ho,_⟩:=hT i h hs
  exact ⟨o,ho⟩
 self:=fun i s Q hs hq=>Xa_ (W.self i s _ _ hs hq)
theorem walks_strong {I p:Addr} {fp:List Addr} {k:Nat} {P:Nat→Value→Prop} {S:Nat→Heap→Prop} {o:Obj} (W:Walks prg B.w A I fp [I] k P S) (hne:p ≠ I):Walks prg B.w A I (p :: fp) [I] k P (fun i h=>S i h∧h.get? p=some o) where
 sub:=fun b hb=>List.mem_cons_of_mem _ (W.sub b hb)
 frame:=fun i h h' st hk=>⟨W.frame i h h' st.1 fun b hb=>hk b (List.mem_cons_of_mem _ hb),hk p (List.mem_cons_self ..) _ st.2⟩
 item:=fun i s Q E hi st hQ=>W.item i s Q E hi st.1 fun v h' tk hp hs hk=>hQ v h' tk hp ⟨hs,hk p o (fun hm=>hne (List.mem_singleton.mp hm)) st.2⟩ hk
 done:=fun s Q E st hQ=>W.done s Q E st.1 hQ
 self:=fun i s Q E st hQ=>W.self i s Q E st.1 hQ
theorem Itr.of_box {tgt:Expr} {I p:Addr} {l:List PV} {items:Array Value} {S:Nat→Heap→Prop} {T:String} {o:Obj} (W:Walks prg B.w A I [I,p] [I] items.size (fun i v=>items[i]?=some v) S)
  (hne:p ≠ I) (hp:F.get? p=some o) (hr:RepL B F μ items.toList l) (hT:∀ i h,S i h→∃ o,h.get? I=some o∧o.cls=.type T) (hn:owners.contains T=false) :
  Itr B A tgt (.ref I) l F μ [I] (fun i h=>S i h∧h.get? p=some o):=by
 have hl:l.length=items.size:=by rw [← hr.length,Array.length_toList]
 refine .of_walks (T:=T) (fp:=[p,I,p]) (P:=fun i v=>items[i]?=some v) (by rw [hl];exact walks_strong W hne) (fun b hb=>?_) (fun i v hv x hx=>?_) (fun i h hs=>hT i h hs.1) hn (fun i h b hs hb hb2 o' ho'=>?_)
 ·simp at hb
  rcases hb with rfl | rfl | rfl
  ·exact .inr ⟨_,hp⟩
  ·exact .inl rfl
  ·exact .inr ⟨_,hp⟩
 ·obtain ⟨u,h1,h2⟩:=hr.get hx
  rw [Array.getElem?_toList,hv] at h1
  cases h1;exact h2
 ·simp at hb
  rcases hb with rfl | rfl | rfl
  ·rw [hp] at ho';cases ho';exact hs.2
  ·exact absurd rfl hb2
  ·rw [hp] at ho';cases ho';exact hs.2
theorem upj_get:∀ (n:Nat) (a c:Int) (i:Nat) (x:PV),(upJ a c n)[i]?=some x→x=.int (a+i * c)
 | 0,a,c,i,x,h=>nomatch h
 | n+1,a,c,0,x,h=>by
  rw [show x=.int a from (Option.some.inj h).symm]
  congr 1;push_cast;rw [Int.zero_mul,Int.add_zero]
 | n+1,a,c,i+1,x,h=>by
  rw [upj_get n (a+c) c i x h]
  congr 1
  push_cast
  rw [Int.add_mul,Int.one_mul];exact L.q79
theorem upj_len:∀ (n:Nat) (a c:Int),(upJ a c n).length=n
 | 0,a,c=>rfl
 | n+1,a,c=>congrArg (·+1) (upj_len n (a+c) c)
theorem ups_get (n:Nat) (a c:Int) (i:Nat) (x:PV) (h:(upI a c n)[i]?=some x):x=.int (a+i * c):=upj_get n a c i x (upI_eq ▸ h)
theorem ups_len (n:Nat) (a c:Int):(upI a c n).length=n:=by rw [upI_eq];exact upj_len n a c
theorem enm_get:∀ {l:List PV} {k i:Nat} {x:PV},(enm k l)[i]?=some x→∃ y,l[i]?=some y∧x=.tup [.int ((k+i:Nat):Int),y]
 | [],_,_,_,h=>nomatch h
 | y :: l,k,0,x,h=>⟨y,rfl,(Option.some.inj h).symm⟩
 | y :: l,k,i+1,x,h=>by obtain ⟨z,a,b⟩:=enm_get (l:=l) (k:=k+1) (i:=i) h;exact ⟨z,a,by rw [b,show k+1+i=k+(i+1) by exact L.q80]⟩
theorem enm_len:∀ (l:List PV) (k:Nat),(enm k l).length=l.length
 | [],_=>rfl
 | _ :: l,k=>congrArg (·+1) (enm_len l (k+1))
def ItOk (B:Bs) (A:Around) (l:List PV) (F:Heap) (μ:List Addr) (s:Shared) (Q:Value→Shared→Prop):Prop :=
 ∀ it s' wr S,(∀ tgt,Itr B A tgt it l F μ wr S)→S 0 s'.heap→Grown s s'→s.heap.objs.size≤s'.heap.objs.size→(∀ b ∈ wr,s.heap.objs.size≤b)→wr.Nodup→Q it s'
section
variable {l:List PV} {Q:Value→Shared→Prop}
theorem nd1 (a:Addr):[a].Nodup:=List.nodup_cons.mpr ⟨List.not_mem_nil,List.nodup_nil⟩
theorem le1 (a:Addr):∀ b ∈ [a],a≤b:=fun b hb=>List.mem_singleton.mp hb ▸ Nat.le_refl _
theorem it_list {p:Addr} {items:Array Value} {m:Nat} (lv:Lv A D) (r:SR B w F μ st s.heap) (e1:IsL F p items m) (e2:RepL B F μ items.toList l) (hq:ItOk B A l F μ s Q):wpX (model prg B.w) A (pyIter (.ref p)) Q s:=by
 have q:=r.ss.sub _ _ e1
 have ht:s.heap.IsList p items:=⟨_,q,rfl,_,rfl⟩
 have ne:p ≠ s.heap.objs.size:=Nat.ne_of_lt (Heap.lt_size q)
 refine Xa_ (wpAny_pyIter_list ht (hq _ _ [s.heap.objs.size] (fun i h=>(h.IsListIter s.heap.objs.size p i∧h.IsList p items)∧h.get? p=some _) (fun tgt=>?_) ⟨⟨⟨_,Heap.get?_push_size _ rfl,rfl,rfl⟩,ht.push _⟩,Heap.get?_push_of_some _ q⟩ (.push _ _) (push_le _ _) (le1 _) (nd1 _)))
 exact .of_box (T := "list_iterator") (Walks.list lv.hh _ p ne items) ne e1 e2 (fun i h hs=>by obtain ⟨⟨o,h1,h2,_⟩,_⟩:=hs;exact ⟨o,h1,h2⟩) (by decide)
set_option tactic.hygienic true in
theorem iter_ok {v:Value} {x:PV} {K:List PV→Prop} (lv:Lv A D) (r:SR B w F μ st s.heap) (ha:Rep B F μ v x) (h:itsW st.s x K):∃ l,K l∧l.length≤1000000∧∀ Q,ItOk B A l F μ s Q→wpX (model prg B.w) A (pyIter v) Q s:=by
 induction x using PV.casesOn <;> try exact h.elim
 case bytes l =>
  obtain ⟨a,t,rfl,rfl,hz⟩:=ha
  refine ⟨_,h,by rw [List.length_map];exact hz,fun Q hq=>?_⟩
  refine Xa_ (KBw.pyIter_bytes (hq _ _ [s.heap.objs.size] (fun i h=>KBw.IsBytesIter h s.heap.objs.size a t i) (fun tgt=>?_) ⟨_,Heap.get?_push_size _ rfl,rfl,rfl⟩ (.push _ _) (push_le _ _) (le1 _) (nd1 _)))
  have hl:((bts a).map PV.int).length=a.size:=by rw [List.length_map,bts_len]
  refine .of_walks (T := "bytes_iterator") (by rw [hl];exact KBw.walks lv.hh _ a t) (fun b hb=>.inl (List.mem_singleton.mp hb)) (fun i v hv x hx=>?_) (fun i h hs=>by obtain ⟨o,h1,h2,_⟩:=hs;exact ⟨o,h1,h2⟩) (by decide) (fun i h b hs hb hne=>absurd (List.mem_singleton.mp hb) hne)
  obtain ⟨c,u,hc,rfl⟩:=hv
  rw [List.getElem?_map,show (bts a)[i]?=some (c.toNat:Int) from KBw.ints_get hc] at hx
  cases hx;exact ⟨_,rfl⟩
 case ba l =>
  obtain ⟨p,rfl,arr,e,rfl,hz⟩:=ha
  refine ⟨_,h,by rw [List.length_map];exact hz,fun Q hq=>?_⟩
  have q:=r.ss.sub _ _ e
  have ne:p ≠ s.heap.objs.size:=Nat.ne_of_lt (Heap.lt_size q)
  refine Xa_ (Ba.pyIter_ba q (hq _ _ [s.heap.objs.size] (fun i h=>Ba.IsIter h s.heap.objs.size p i∧IsBA h p arr) (fun tgt=>?_) ⟨⟨_,Heap.get?_push_size _ rfl,rfl,rfl⟩,Heap.get?_push_of_some _ q⟩ (.push _ _) (push_le _ _) (le1 _) (nd1 _)))
  have hl:((bts arr).map PV.int).length=arr.size:=by rw [List.length_map,bts_len]
  refine .of_walks (T := "bytearray_iterator") (by rw [hl];exact Ba.walks lv.hh _ p ne arr) (fun b hb=>?_) (fun i v hv x hx=>?_) (fun i h hs=>by obtain ⟨⟨o,h1,h2,_⟩,_⟩:=hs;exact ⟨o,h1,h2⟩) (by decide) (fun i h b hs hb hne o ho=>?_)
  ·rcases List.mem_cons.mp hb with rfl | hb
   ·exact .inl rfl
   ·rw [List.mem_singleton.mp hb];exact .inr ⟨_,e⟩
  ·obtain ⟨c,u,hc,rfl⟩:=hv
   rw [List.getElem?_map,show (bts arr)[i]?=some (c.toNat:Int) from KBw.ints_get hc] at hx
   cases hx;exact ⟨_,rfl⟩
  ·rcases List.mem_cons.mp hb with rfl | hb
   ·exact absurd rfl hne
   ·rw [List.mem_singleton.mp hb] at ho ⊢;rw [show F.get? p=_ from e] at ho;cases ho;exact hs.2
 case tup l =>
  obtain ⟨p,rfl,items,⟨m,e1⟩,e2,hz⟩:=ha
  refine ⟨_,h,hz,fun Q hq=>?_⟩
  have q:=r.ss.sub _ _ e1
  have ht:s.heap.IsTuple p items:=⟨_,q,rfl,_,rfl⟩
  have ne:p ≠ s.heap.objs.size:=Nat.ne_of_lt (Heap.lt_size q)
  refine Xa_ (wpAny_pyIter_tuple ht (hq _ _ [s.heap.objs.size] (fun i h=>(h.IsTupleIter s.heap.objs.size p i∧h.IsTuple p items)∧h.get? p=some _) (fun tgt=>?_) ⟨⟨⟨_,Heap.get?_push_size _ rfl,rfl,rfl⟩,ht.push _⟩,Heap.get?_push_of_some _ q⟩ (.push _ _) (push_le _ _) (le1 _) (nd1 _)))
  exact .of_box (T := "tuple_iterator") (Walks.tuple lv.hh _ p ne items) ne e1 e2 (fun i h hs=>by obtain ⟨⟨o,h1,h2,_⟩,_⟩:=hs;exact ⟨o,h1,h2⟩) (by decide)
 case il l =>
  obtain ⟨p,rfl,items,⟨m,e1⟩,e2,hz⟩:=ha
  exact ⟨_,h,by rw [List.length_map];exact hz,fun Q hq=>it_list lv r e1 (RepL.ints.mp e2) hq⟩
 case lst l =>
  obtain ⟨p,rfl,items,⟨m,e1⟩,e2,hz⟩:=ha
  exact ⟨_,h,hz,fun Q hq=>it_list lv r e1 e2 hq⟩
 case rng a b c =>
  obtain ⟨p,rfl,t,u,v,e1,e2,e3⟩:=ha
  refine ⟨_,h,by rw [ups_len];exact L.q81 e3,fun Q hq=>?_⟩
  have q:=r.ss.sub _ _ e1
  have hnn:0≤Builtin.Range.rangeSize a b c:=by
   unfold Builtin.Range.rangeSize
   split
   ·split
    ·have:0≤(b - a - 1) / c:=Int.ediv_nonneg (L.q38 (by assumption)) (L.q45 (by assumption));exact L.q82 this
    ·exact L.q83
   ·split
    ·by_cases hc0:c=0
     ·subst hc0;simp
     ·have:0≤(a - b - 1) / (-c):=Int.ediv_nonneg (L.q38 (by assumption)) (L.q533 (by assumption));exact L.q82 this
    ·exact L.q83
  have hsz:Builtin.Range.rangeSize a b c=(((Builtin.Range.rangeSize a b c).toNat:Nat):Int):=L.q84 hnn
  generalize (Builtin.Range.rangeSize a b c).toNat=z at hsz hq
  refine Xa_ (wpAny_pyIter_range q e2 (hq _ _ [s.heap.objs.size] (fun i h=>IsRangeIter h s.heap.objs.size (a+(i:Nat) * c) ((z:Nat) - (i:Nat)) c) (fun tgt=>?_) ?_ (.push _ _) (push_le _ _) (le1 _) (nd1 _)))
  ·refine .of_walks (T := "range_iterator") (by rw [ups_len];exact Walks.range lv.hh _ a c z) (fun b hb=>.inl (List.mem_singleton.mp hb)) (fun i v hv x hx=>?_) (fun i h hs=>⟨_,hs,rfl⟩) (by decide) (fun i h b hs hb hne=>absurd (List.mem_singleton.mp hb) hne)
   obtain ⟨t,rfl⟩:=hv
   rw [ups_get _ _ _ _ _ hx]
   exact ⟨_,rfl⟩
  ·show IsRangeIter _ _ _ _ _
   rw [hsz]
   simpa using Heap.get?_push_size _ rfl
end
theorem enum_iter {v:Value} {l:List PV} {Q:Value→Shared→Prop} {elts:List Expr} {k:Nat} {tp:Pos} (lv:Lv A D) (r:SR B w F μ st s.heap) (ha:∃ e,v=.ref e∧∃ it lst items m old,IsEnum s.heap e it 0 old∧s.heap.IsListIter it lst 0∧IsL F lst items m∧RepL B F μ items.toList l∧e ≠ it∧Nw w st.r F μ e∧Nw w st.r F μ it)
  (hq:∀ it wr S,Itr B A (.Tuple elts k tp) it (enm 0 l) F μ wr S→S 0 s.heap→(∀ b ∈ wr,Nw w st.r F μ b)→wr.Nodup→Q it s):wpX (model prg B.w) A (pyIter v) Q s:=by
 refine gG fun G kG=>?_
 obtain ⟨e,rfl,it,lst,items,m,old,h1,h2,h3,h4,h5,h6,h7⟩:=ha
 have h3':F.get? lst=some _:=h3
 have hle:lst ≠ e:=fun q=>by rw [q,h6.1] at h3';cases h3'
 have hli:lst ≠ it:=fun q=>by rw [q,h7.1] at h3';cases h3'
 have q3:=r.ss.sub _ _ h3
 have W:=WalksT.enumerate (prog:=prg) (w:=B.w) (A:=A) lv.hh e it lst h5 hle hli items
 have hl:(enm 0 l).length=items.size:=by rw [enm_len,← h4.length,Array.length_toList]
 refine kG ?_
 refine Xa_ (wpAny_pyIter_enum h1 (hq (.ref e) [e,it] (fun i h=>((∃ old,IsEnum h e it i old)∧h.IsListIter it lst i∧h.IsList lst items)∧h.get? lst=some _) ?_ ⟨⟨⟨_,h1⟩,h2,⟨_,q3,rfl,_,rfl⟩⟩,q3⟩ ?_ ?_))
 ·refine ⟨fun i x w F₁ μ₁ st s hx f p r nw hs=>?_,fun w F₁ μ₁ st s f p r nw hs=>?_,fun i h h' F₁ f g hs hk=>?_,fun i h hs b hb=>?_,fun i s Q hs hq=>by obtain ⟨⟨⟨_,h1⟩,_⟩,_⟩:=hs;exact Xa_ (wpAny_pyIter_enum h1 hq)⟩
  ·have hi:i < items.size:=hl ▸ (List.getElem?_eq_some_iff.mp hx).1
   obtain ⟨⟨⟨old,he⟩,hit,hL⟩,hlst⟩:=hs
   have hy:items[i]?=some items[i]:=Array.getElem?_eq_getElem hi
   refine Xa_ (wpAny_pyNext_enum_item he hit hL hy h5 fun h' ho hit' hT hsz hk=>?_)
   refine ⟨.ref s.heap.objs.size,rfl,Xa_ (wpAny_letOwnedTupleGo_enum ho fun h'' he' hs''=>?_)⟩
   refine gG fun G kG=>?_
   have heT:e < s.heap.objs.size:=Heap.lt_size he
   have hiT:it < s.heap.objs.size:=by obtain ⟨_,q,_⟩:=hit;exact Heap.lt_size q
   have hk2:∀ b o,b ∉ [e,it]→s.heap.get? b=some o→h''.get? b=some o:=fun b o hb q =>
    (hs''.2 b (fun z=>hb (by simp [z]))).trans (hk b o (fun z=>hb (by simp [z])) (fun z=>hb (by simp [z])) q)
   obtain ⟨r',X⟩:=r.offs hk2 nw
   have hT':h''.get? s.heap.objs.size=some { cls:=.type "tuple",data:=.seq #[.int i s.toks,items[i]] }:=(hs''.2 _ (Nat.ne_of_gt heT)).trans hT
   obtain ⟨y,hy2,rfl⟩:∃ y,l[i]?=some y∧x=.tup [.int i,y]:=by
    obtain ⟨y,a,b⟩:=enm_get hx
    exact ⟨y,a,by rw [b,Nat.zero_add]⟩
   obtain ⟨u,hu1,hu2⟩:=h4.get hy2
   rw [Array.getElem?_toList,hy] at hu1
   cases hu1
   have c:Con B F₁ μ₁ h'' s.heap.objs.size (.tup [.int i,y]):=⟨_,⟨0,hT'⟩,⟨_,_,rfl,⟨_,rfl⟩,_,_,rfl,hu2.mono f p,rfl⟩,show 2≤1000000 by decide⟩
   obtain ⟨F',f1,r2,X2,e4,f5⟩:=r'.freezeO hT' (r.nw (Nat.le_refl _))
   have p2:=c.rep f1 fun o' q=>e4.trans (hT'.symm.trans q)
   refine kG ⟨F',X.trans X2,r2,⟨rfl,rfl⟩,p2,fun b hb=>?_,⟨⟨_,by simpa using he'⟩,hit'.at fun o q=>(hs''.2 _ (Ne.symm h5)).trans q,⟨_,hk2 _ _ (by simp [hle,hli]) hlst,rfl,_,rfl⟩⟩,?_⟩
   ·obtain ⟨n1,n2,n3,n4⟩:=nw b hb
    refine ⟨?_,n2,n3,n4⟩
    cases q:F'.get? b with
    | none=>rfl
    | some o =>
     rcases f5 b o q with q | q
     ·rw [n1] at q;cases q
     ·subst q
      simp at hb
      rcases hb with hb | hb
      ·exact absurd hb (Nat.ne_of_gt heT)
      ·exact absurd hb (Nat.ne_of_gt hiT)
   ·exact hk2 _ _ (by simp [hle,hli]) hlst
  ·refine Xa_ (W.done s _ _ (by rw [← hl];exact hs.1) fun h' tk hk=>?_)
   obtain ⟨r',X⟩:=r.offs hk nw
   exact ⟨rfl,X,r',rfl,rfl⟩
  ·refine ⟨W.frame i h h' hs.1 fun b hb o ho=>?_,g _ _ (f _ _ h3)⟩
   simp at hb
   rcases hb with rfl | rfl | rfl
   ·exact hk _ (by simp) o ho
   ·exact hk _ (by simp) o ho
   ·have:=hs.2;rw [ho] at this;cases this;exact g _ _ (f _ _ h3)
  ·obtain ⟨⟨⟨old,k1⟩,⟨o,k2,_⟩,_⟩,_⟩:=hs
   simp at hb
   rcases hb with rfl | rfl
   ·exact ⟨_,k1⟩
   ·exact ⟨_,k2⟩
 ·intro b hb
  simp at hb
  rcases hb with rfl | rfl
  ·exact h6
  ·exact h7
 ·simp [h5]
end
end
section
section
variable {M:Model} {A:Around} {s:Shared} {env:Env}
theorem X_standIf {α:Type} {c:Prop} [Decidable c] {pos:Pos} {k:PUnit→Sem α} {Q:α→Shared→Prop} (h:wpX M A (k ()) Q s) :
  wpX M A (if c then (standAt pos >>= k) else k ()) Q s:=by
 split
 ·exact Xb_ (Xt_ h)
 ·exact h
def compPostX (M:Model) (A:Around) (use:Option (Value→Sem Unit)) (Q:Value→Shared→Prop) (acc:Value) (C:Addr) (s':Shared):Prop :=
 match use with
 | none=>∃ m,s'.heap.Ns C m∧∀ h',Heap.SameBut C s'.heap h'→Q acc { s' with heap:=h' }
 | some u=>wpX M A (u acc) (fun _ s''=>∃ m,s''.heap.Ns C m∧∀ h',Heap.SameBut C s''.heap h'→Q .none { s'' with heap:=h' }) s'
theorem X_comprehension {e:Expr} {scope:Scope} {pos:Pos} {newAcc first:Sem Value} {g:Comprehension} {gs:List Comprehension} {use:Option (Value→Sem Unit)}
  {Q:Value→Shared→Prop}
  (hcl:clausesOf e=g :: gs) (hs:∀ x,foldedSetIterable g.iter env x=pure x)
  (hkind:scope.kind=.function) (hnames:∀ x ∈ scope.names,x.2=.local→scope.names.lookup x.1=some .local)
  (h:wpX M A first (fun x s₁=>wpX M A (pyIter x) (fun it s₂=>wpX M A newAcc (fun acc s₃=>∃ cl,closureFor scope env=pure cl ∧
   wpX M A (newFunctionEnv scope env.globals cl [] env.qual none .none (some env)) (fun cenv s₄ =>
    codeX M A (.compStart e 0 it acc { cenv with scope:=relabel scope env }) (fun _ s'=>compPostX M A use Q acc cenv.locals s') s₄) s₃) s₂) s₁) s) :
  wpX M A (comprehension e scope env pos newAcc false first use) Q s:=by
 unfold comprehension
 rw [hcl]
 refine Xb_ (Xm_ h (fun x s₁ h₁=>?_))
 refine Xb_ (Xt_ ?_)
 refine Xb_ (X_of_eq (hs x) ?_)
 refine Xb_ (Xh_ (Xm_ h₁ (fun it s₂ h₂=>?_)))
 refine X_standIf ?_
 refine Xb_ (Xm_ h₂ (fun acc s₃ h₃=>?_))
 obtain ⟨cl,hclos,h₃⟩:=h₃
 refine Xb_ (X_of_eq hclos ?_)
 refine Xb_ (Xm_ h₃ (fun cenv s₄ h₄=>?_))
 dsimp only
 have hv:∀ x ∈ (scope.names.filter fun x=>(x.2 == .local || x.2 == .cell) && x.1 != (".0" : Str)).reverse,x.2=.local →
   Env.kindOf { cenv with scope:=relabel scope env } x.1=some .local:=fun x hx hl=>lookup_relabel_local (hnames x (List.mem_filter.mp (List.mem_reverse.mp hx)).1 hl)
 have hv':∀ x ∈ (scope.names.filter fun x=>(x.2 == .local || x.2 == .cell) && x.1 != (".0" : Str)).reverse.drop 1 ++ (scope.names.filter fun x=>(x.2 == .local || x.2 == .cell) && x.1 != (".0" : Str)).reverse.take 1,
   x.2=.local→Env.kindOf { cenv with scope:=relabel scope env } x.1=some .local:=fun x hx hl=>by
  rcases List.mem_append.mp hx with h1 | h1
  ·exact hv x (List.mem_of_mem_drop h1) hl
  ·exact hv x (List.mem_of_mem_take h1) hl
 refine Xh_ (Xb_ (X_attempt (Xh_ (X_run (fun _ _=>rfl) (cX_mono h₄ fun r s' hr=>?_)))))
 cases use with
 | none =>
  obtain ⟨m,hn,hr⟩:=hr
  exact Xb_ (Xh_ (Xa_ (wpAny_comp_letGo (cenv:={ cenv with scope:=relabel scope env }) hkind _ s' m hv hn fun h' m' _ hs'=>Xp_ (hr h' hs'))))
 | some u =>
  refine Xb_ (X_rule (Xb_ (Xh_ (Xm_ hr (fun _ s'' hr'=>?_)))))
  obtain ⟨m,hn,hr'⟩:=hr'
  exact Xb_ (Xa_ (wpAny_comp_letGo (cenv:={ cenv with scope:=relabel scope env }) hkind _ s'' m hv' hn fun h' m' _ hs'=>Xp_ (hr' h' hs')))
end
section
variable {prog:Program} {w:World} {A:Around} {s:Shared} {R:Flow→Shared→Prop}
theorem cX_compStart_list {elt target iter ifs rest scope pos it acc env}
  (h0:codeX (model prog w) A (.compLoop (.ListComp elt (⟨target,iter,ifs,0⟩ :: rest) scope pos) 0 it acc env) R s)
  (h:∀ Q:Value→Shared→Prop,Q it s→wpX (model prog w) A (pyIter it) Q s) :
  codeX (model prog w) A (.compStart (.ListComp elt (⟨target,iter,ifs,0⟩ :: rest) scope pos) 0 it acc env) R s:=by
 refine cX_tree ?_
 rw [Around.under_of_weight rfl]
 show wpX _ _ ((compStart (.ListComp elt (⟨target,iter,ifs,0⟩ :: rest) scope pos) 0 it acc env).onRaise (fun x=>do noteFrame x env;standAt theWindowsPlace)) _ s
 refine X_onRaise ?_
 unfold compStart
 show wpX _ _ (ask >>= _) _ s
 refine Xb_ (Xa_ (wpAny_askSetting ?_))
 split
 ·first
   | exact Xb_ (Xp_ (Xp_ ⟨rfl,(fun _ _=>rfl),h0⟩))
   | exact Xp_ ⟨rfl,(fun _ _=>rfl),h0⟩
 ·first
   | exact Xb_ (X_rule (Xb_ (Xt_ (Xb_ (h _ (Xp_ ⟨rfl,(fun _ _=>rfl),h0⟩))))))
   | (refine Xb_ (X_rule ?_);show wpX _ _ (standAt iter.pos >>= _) _ s;exact Xb_ (Xt_ (Xb_ (h _ (Xp_ ⟨rfl,(fun _ _=>rfl),h0⟩)))))
end
theorem lookup_relabel {env:Env} {names:List (Str × NameKind)} {x:Str} {k:NameKind} (h:names.lookup x=some k) :
  (names.map fun (n,k)=>if (k == NameKind.free && env.scope.kind == .function && env.kindOf n == some .cell) then (n,NameKind.cell) else (n,k)).lookup x=some k ∨
  (k=.free∧(names.map fun (n,k)=>if (k == NameKind.free && env.scope.kind == .function && env.kindOf n == some .cell) then (n,NameKind.cell) else (n,k)).lookup x=some .cell):=by
 induction names with
 | nil=>exact nomatch h
 | cons p r ih =>
  obtain ⟨n,k'⟩:=p
  show List.lookup x ((if (k' == NameKind.free && env.scope.kind == .function && env.kindOf n == some .cell)=true then (n,NameKind.cell) else (n,k')) :: _)=_ ∨ _∧List.lookup x ((if (k' == NameKind.free && env.scope.kind == .function && env.kindOf n == some .cell)=true then (n,NameKind.cell) else (n,k')) :: _)=_
  cases hx:x == n with
  | true =>
   simp only [List.lookup_cons,hx] at h
   cases h
   by_cases hc:(k == NameKind.free && env.scope.kind == .function && env.kindOf n == some .cell)=true
   ·rw [if_pos hc]
    right
    simp only [Bool.and_eq_true,beq_iff_eq] at hc
    exact ⟨hc.1.1,by simp [List.lookup_cons,hx]⟩
   ·rw [if_neg hc];left;simp [List.lookup_cons,hx]
  | false =>
   simp only [List.lookup_cons,hx] at h
   have ih:=ih h
   by_cases hc:(k' == NameKind.free && env.scope.kind == .function && env.kindOf n == some .cell)=true
   ·rw [if_pos hc];simp only [List.lookup_cons,hx];exact ih
   ·rw [if_neg hc];simp only [List.lookup_cons,hx];exact ih
theorem closure_list (env:Env) (names:List (Str × NameKind)) (acc:List (Str × Addr)) (h:∀ x ∈ names,x.2=.free→∃ c,env.cells.lookup x.1=some c) :
  ∃ cl,(forIn names acc fun (x:Str × NameKind) (cs:List (Str × Addr))=>(if (x.2 == NameKind.free)=true then (do let a ← cellOf env x.1;pure (ForInStep.yield ((x.1,a) :: cs))) else pure (ForInStep.yield cs):Sem (ForInStep (List (Str × Addr)))))=pure cl ∧
   (∀ p ∈ cl,p ∈ acc ∨ env.cells.lookup p.1=some p.2)∧(∀ p ∈ acc,p ∈ cl)∧∀ x ∈ names,x.2=.free→∃ c,(x.1,c) ∈ cl:=by
 induction names generalizing acc with
 | nil=>exact ⟨acc,by rw [List.forIn_nil],fun p hp=>.inl hp,fun p hp=>hp,fun x hx=>nomatch hx⟩
 | cons y r ih =>
  obtain ⟨n,k⟩:=y
  by_cases hk:k=.free
  ·subst hk
   obtain ⟨c,hc⟩:=h (n,.free) (List.mem_cons_self ..) rfl
   obtain ⟨cl,h1,h2,h3,h4⟩:=ih ((n,c) :: acc) (fun x hx=>h x (List.mem_cons_of_mem _ hx))
   refine ⟨cl,?_,fun p hp=>?_,fun p hp=>h3 p (List.mem_cons_of_mem _ hp),fun x hx hf=>?_⟩
   ·rw [List.forIn_cons]
    simp only [beq_self_eq_true,if_true,show cellOf env n=pure c by delta cellOf;rw [show env.cells.lookup n=some c from hc],pure_bind]
    exact h1
   ·rcases h2 p hp with q | q
    ·rcases List.mem_cons.mp q with rfl | q
     ·exact .inr hc
     ·exact .inl q
    ·exact .inr q
   ·rcases List.mem_cons.mp hx with rfl | hx
    ·exact ⟨c,h3 _ (List.mem_cons_self ..)⟩
    ·exact h4 x hx hf
  ·obtain ⟨cl,h1,h2,h3,h4⟩:=ih acc (fun x hx=>h x (List.mem_cons_of_mem _ hx))
   refine ⟨cl,?_,h2,h3,fun x hx hf=>?_⟩
   ·rw [List.forIn_cons]
    have:(k == NameKind.free)=false:=by simpa using hk
    simp only [this,Bool.false_eq_true,if_false,pure_bind]
    exact h1
   ·rcases List.mem_cons.mp hx with rfl | hx
    ·exact absurd hf hk
    ·exact h4 x hx hf
theorem lookup_mem {α β:Type} [BEq α] [LawfulBEq α] {l:List (α × β)} {x:α} {y:β} (h:l.lookup x=some y):(x,y) ∈ l:=by
 induction l with
 | nil=>exact nomatch h
 | cons p r ih =>
  rw [List.lookup_cons] at h
  cases hx:x == p.1 with
  | true=>rw [hx] at h;cases h;rw [eq_of_beq hx];exact List.mem_cons_self
  | false=>rw [hx] at h;exact List.mem_cons_of_mem _ (ih h)
theorem mem_lookup {α β:Type} [BEq α] [LawfulBEq α] {l:List (α × β)} {x:α} {y:β} (h:(x,y) ∈ l):∃ z,l.lookup x=some z:=by
 induction l with
 | nil=>exact nomatch h
 | cons p r ih =>
  rw [List.lookup_cons]
  cases hx:x == p.1 with
  | true=>exact ⟨_,rfl⟩
  | false =>
   rcases List.mem_cons.mp h with rfl | h
   ·rw [beq_self_eq_true] at hx;exact nomatch hx
   ·exact ih h
theorem closure_ok {scope:Scope} {env:Env} (h:∀ x ∈ scope.names,x.2=.free→∃ c,env.cells.lookup x.1=some c) :
  ∃ cl,closureFor scope env=pure cl∧(∀ z c,cl.lookup z=some c→env.cells.lookup z=some c)∧∀ x ∈ scope.names,x.2=.free→∀ c,env.cells.lookup x.1=some c→cl.lookup x.1=some c:=by
 obtain ⟨cl,h1,h2,h3,h4⟩:=closure_list env scope.names [] h
 have hh:∀ z c,cl.lookup z=some c→env.cells.lookup z=some c:=fun z c hz=>by
  rcases h2 _ (lookup_mem hz) with q | q
  ·cases q
  ·exact q
 refine ⟨cl,?_,hh,fun x hx hf c hc=>?_⟩
 ·unfold closureFor
  rw [← bind_pure (pure cl:Sem _),← h1]
 ·obtain ⟨c',hc'⟩:=h4 x hx hf
  obtain ⟨z,hz⟩:=mem_lookup hc'
  rw [hz,← hc,hh _ _ hz]
theorem nth_mem:∀ {α:Type} {l:List α} {i:Nat} {x:α},nth l i=some x→x ∈ l
 | _,x :: l,0,y,h=>Option.some.inj h ▸ List.mem_cons_self
 | _,x :: l,i+1,y,h=>List.mem_cons_of_mem _ (nth_mem (l:=l) (i:=i) h)
theorem nth_lookup:∀ {l:List (Str × NameKind)} {i:Nat} {x:Str} {k:NameKind},(l.map (·.1)).Nodup→nth l i=some (x,k)→l.lookup x=some k
 | (y,k') :: l,0,x,k,n,h=>by obtain ⟨rfl,rfl⟩:=Prod.mk.inj (Option.some.inj h);simp [List.lookup_cons]
 | (y,k') :: l,i+1,x,k,n,h=>by
  rw [List.map_cons,List.nodup_cons] at n
  have hm:x ∈ l.map (·.1):=List.mem_map_of_mem (f:=Prod.fst) (nth_mem (l:=l) (i:=i) (x:=(x,k)) h)
  have ne:(x == y)=false:=beq_false_of_ne fun e=>n.1 (e ▸ hm)
  rw [List.lookup_cons,ne]
  exact nth_lookup n.2 h
theorem nth_inj {l:List (Str × NameKind)} {i j:Nat} {x:Str} {k k':NameKind} (n:(l.map (·.1)).Nodup) (h:nth l i=some (x,k)) (h':nth l j=some (x,k')):i=j:=by
 induction l generalizing i j with
 | nil=>exact nomatch h
 | cons y l ih =>
  rw [List.map_cons,List.nodup_cons] at n
  cases i with
  | zero =>
   cases j with
   | zero=>rfl
   | succ j=>exact absurd (List.mem_map_of_mem (f:=Prod.fst) (nth_mem (l:=l) (i:=j) h')) (by rw [Option.some.inj h] at n;exact n.1)
  | succ i =>
   cases j with
   | zero=>exact absurd (List.mem_map_of_mem (f:=Prod.fst) (nth_mem (l:=l) (i:=i) h)) (by rw [Option.some.inj h'] at n;exact n.1)
   | succ j=>exact congrArg _ (ih n.2 h h')
theorem mem_nth {α:Type} {l:List α} {x:α} (h:x ∈ l):∃ i,nth l i=some x:=by
 induction l with
 | nil=>exact nomatch h
 | cons y l ih =>
  rcases List.mem_cons.mp h with rfl | h
  ·exact ⟨0,rfl⟩
  ·obtain ⟨i,q⟩:=ih h;exact ⟨i+1,q⟩
structure CompOk (csc:Scope):Prop where
 kind:csc.kind=.function
 mcell:∀ y ∈ csc.names,y.2 ≠ .cell
 dbg:∀ y ∈ csc.names,(y.1 == "__debug__" || y.1 == "__classdict__")=false
 nd:(csc.names.map (·.1)).Nodup
theorem okSc_e {csc:Scope} (h:okSc csc=true):CompOk csc:=by
 unfold okSc at h
 have h2:=List.all_eq_true.mp (and_r (and_l h))
 refine ⟨eq_of_beq (and_l (and_l h)),fun y hy e=>?_,fun y hy=>?_,of_decide_eq_true (and_r h)⟩
 ·have:=and_l (h2 y hy);rw [e] at this;exact absurd this (by decide)
 ·have:=and_r (h2 y hy);simpa using this
theorem CompOk.look {csc:Scope} (co:CompOk csc) {y:Str × NameKind} (hy:y ∈ csc.names):csc.names.lookup y.1=some y.2:=by obtain ⟨_,q⟩:=mem_nth hy;exact nth_lookup co.nd q
theorem frm_ok {c:Cx} {r:List LV} {names:List (Str × NameKind)} {m:List Nat} (h:okMp c names m=true) :
  (∀ j y,nth (frm r m) j=some y→y=.un ∨ ∃ x i,nth names j=some (x,.free)∧nth r i=some y∧nth c.ns i=some (x,.cell))∧∀ x,(x,NameKind.free) ∈ names→∃ i,nth c.ns i=some (x,.cell):=by
 induction names generalizing m with
 | nil =>
  cases m with
  | nil=>exact ⟨nofun,nofun⟩
  | cons _ _=>exact absurd h Bool.false_ne_true
 | cons p n ih =>
  obtain ⟨x,k⟩:=p
  cases m with
  | nil=>induction k using NameKind.casesOn <;> exact absurd h Bool.false_ne_true
  | cons i m =>
   cases i with
   | zero =>
    have hk:k ≠ .free∧okMp c n m=true:=by induction k using NameKind.casesOn <;> first | exact ⟨nofun,h⟩ | exact absurd h Bool.false_ne_true
    obtain ⟨a,b⟩:=ih hk.2
    refine ⟨fun j y q=>?_,fun x' q=>(List.mem_cons.mp q).elim (fun e=>absurd (Prod.mk.inj e).2.symm hk.1) (b x')⟩
    cases j with
    | zero=>exact .inl (Option.some.inj q).symm
    | succ j=>exact a j y q
   | succ i =>
    have hk:k=.free∧nth c.ns i=some (x,.cell)∧okMp c n m=true:=by
     induction k using NameKind.casesOn <;> try exact absurd h Bool.false_ne_true
     have h1:=and_l (show ((match nth c.ns i with | some (y,k)=>decide (y=x) && k == .cell | none=>false) && okMp c n m)=true from h)
     refine ⟨rfl,?_,and_r h⟩
     cases q:nth c.ns i with
     | none=>rw [q] at h1;exact absurd h1 Bool.false_ne_true
     | some p =>
      rw [q] at h1
      obtain ⟨y,k⟩:=p
      rw [of_decide_eq_true (and_l h1),eq_of_beq (and_r h1)]
    obtain ⟨rfl,hi,hm⟩:=hk
    obtain ⟨a,b⟩:=ih hm
    refine ⟨fun j y q=>?_,fun x' q=>(List.mem_cons.mp q).elim (fun e=>⟨i,(Prod.mk.inj e).1 ▸ hi⟩) (b x')⟩
    cases j with
    | zero =>
     have q:(match nth r i with | some x=>x | none=>.un)=y:=Option.some.inj q
     cases z:nth r i with
     | none=>rw [z] at q;exact .inl q.symm
     | some u=>rw [z] at q;subst q;exact .inr ⟨x,i,rfl,z,hi⟩
    | succ j=>exact a j y q
section
variable {B:Bs} {C:Orc} {D:Nat} {A:Around} {w:Wh} {F:Heap} {μ:List Addr} {s:Shared} {st:St} {c:Cx} {n₀:Nat}
theorem SR.slots {h:Heap} {r:List LV} (f:SR B w F μ st h) (no:∀ i p,nth r i ≠ some (.own p)) (hm:∀ m i y,nth r i=some y→NameAt B w F μ h m i y):SR B w F μ ⟨r,st.s⟩ h:=by
 have is {t:Tg} {b:Addr} (x:Is w r t b):Is w st.r t b:=by
  induction t using Tg.casesOn <;> try exact x
  obtain ⟨_,p,q⟩:=x;exact absurd q (no _ p)
 exact ⟨f.ss,⟨f.fr.sc,f.fr.cell,fun t b x=>f.fr.ap t b (is x),fun t t' b x y=>f.fr.dj t t' b (is x) (is y),by obtain ⟨m,a,_⟩:=f.fr.ns;exact ⟨m,a,hm m⟩,f.fr.tmp⟩⟩
def FV (B:Bs) (w:Wh) (F:Heap) (μ:List Addr) (h:Heap) (r:List LV):Prop:=∀ i y,nth r i=some y→y=.un ∨ ∃ p x c v,y=.v p∧nth w.sc i=some (x,.free)∧Rep B F μ v p∧w.env.cells.lookup x=some c∧h.IsCell c (some v)∧c < w.n₀∧c ∉ μ
theorem FV.step {F':Heap} {μ':List Addr} {h h':Heap} {r:List LV} (f:FV B w F μ h r) (X:Ext w.n₀ F μ h F' μ' h'):FV B w F' μ' h' r:=fun i y q =>
 (f i y q).imp id fun z1_=>by obtain ⟨p,x,c,v,a,b,d,e,⟨o,ho,hd⟩,l,m⟩:=z1_;exact ⟨p,x,c,v,a,b,d.mono X.fm X.pre,e,⟨o,X.pres c o l m ho,hd⟩,l,by obtain ⟨δ,e,hδ⟩:=X.mu;exact e ▸ fun q=>(List.mem_append.mp q).elim m fun q=>absurd (hδ _ q) (Nat.not_le.mpr l)⟩
theorem FV.sr {h:Heap} {r:List LV} (f:FV B w F μ h r) (x:SR B w F μ st h):SR B w F μ ⟨r,st.s⟩ h :=
 x.slots (fun i p q=>(f i _ q).elim (fun e=>nomatch e) fun z2_=>by obtain ⟨_,_,_,_,e,_⟩:=z2_;exact nomatch e) fun m i y q=>by
  rcases f i y q with rfl | ⟨p,x,c,v,rfl,b,d,e,hc,_⟩
  ·trivial
  ·exact ⟨x,.free,v,b,d,.inr ⟨.inr rfl,c,e,hc⟩⟩
def LcQ (B:Bs) (w:Wh) (F:Heap) (μ:List Addr) (s:Shared) (Dd:Addr) (wr:List Addr) (outs:List PV) (n:Nat) (K:List PV→List PV→Prop) (f:Flow) (s':Shared):Prop :=
 f=.next∧∃ F' μ' oa r' out σ' items' k',K out σ'∧Ext w.n₀ F μ s.heap F' μ' s'.heap∧SR B (w.at oa) F' μ' ⟨r',σ'⟩ s'.heap∧(s'.gens=s.gens∧s'.os=s.os)∧IsL s'.heap Dd items' k'∧RepL B F' μ' items'.toList (outs ++ out)∧out.length≤n∧∀ b ∈ Dd :: wr,Nw (w.at oa) r' F' μ' b
theorem X_bindName {M:Model} {env:Env} {x:Str} {v:Value} {Q:Unit→Shared→Prop} (h:wpX M A (storeName env x v) Q s):wpX M A (bindName env x v) Q s:=fun Γ p hΓ hc=>by rw [Sem.wp_bindName];exact h Γ p hΓ hc
theorem X_assign {M:Model} {env:Env} {x:Str} {pos:Pos} {v:Value} {Q:Unit→Shared→Prop} (h:wpX M A (storeName env x v) Q s):wpX M A (assign (.Name x pos) env v) Q s:=by
 rw [PySem.assign_Name];exact Xb_ (Xt_ (X_bindName h))
theorem LcQ.back {F₁:Heap} {μ₁:List Addr} {s₁ s':Shared} {oa:Nat→Addr} {Dd:Addr} {wr:List Addr} {outs outs':List PV} {n:Nat} {K K':List PV→List PV→Prop} {f:Flow} (q:LcQ B (w.at oa) F₁ μ₁ s₁ Dd wr outs' n K' f s') (X:Ext w.n₀ F μ s.heap F₁ μ₁ s₁.heap) (g:s₁.gens=s.gens∧s₁.os=s.os)
  (k:∀ out σ,K' out σ→∃ out2,K out2 σ∧outs' ++ out=outs ++ out2∧out2.length≤out.length+1):LcQ B w F μ s Dd wr outs (n+1) K f s':=by
 obtain ⟨e,F',μ',oa',r',out,σ',items',k',a1,a2,a3,a4,a5,a6,a7,a8⟩:=q
 obtain ⟨out2,b1,b2,b3⟩:=k _ _ a1
 exact ⟨e,F',μ',oa',r',out2,σ',items',k',b1,X.trans a2,a3,⟨a4.1.trans g.1,a4.2.trans g.2⟩,a5,b2 ▸ a6,Nat.le_trans b3 (Nat.succ_le_succ a7),a8⟩
theorem lc_ok {e:CE} {d:CO} {t:Nat} {tx:Str} (he:SE B C D e) (hd:SO B C D d) (oke:okE c e=true) (okd:okO c d=true) (ht:nth c.ns t=some (tx,.local)) {r₀:List LV} {it:Value} {F₀:Heap} {μ₀:List Addr} {wr:List Addr} {S:Nat→Heap→Prop} {L:List PV} {Dd:Addr} {iter:Expr} {tp pos:Pos} {scope:Scope}
  (I:∀ tgt,Itr B A tgt it L F₀ μ₀ wr S) (hD:Dd ∉ wr) (lv:Lv A D):∀ (l σ:List PV) (K:List PV→List PV→Prop),lcW (fun y σ k=>wC C d ⟨st1 r₀ t (.v y),σ⟩ fun b st'=>br b (wE C e st' fun z st'=>k (some z) st'.s) (k none st'.s)) l σ K →
  ∀ (w:Wh) F μ s i r items k outs,w.sc=c.ns→SR B w F μ ⟨r,σ⟩ s.heap→FV B w F μ s.heap r₀→Le F₀ F→Pre μ₀ μ→L.drop i=l→i≤L.length→S i s.heap→(∀ b ∈ Dd :: wr,Nw w r F μ b)→IsL s.heap Dd items k→RepL B F μ items.toList outs→items.size+l.length≤1000000 →
  codeX (model prg B.w) A (.compLoop (.ListComp (toE c e) [⟨.Name tx tp,iter,(toO c d).toList,0⟩] scope pos) 0 it (.ref Dd) w.env) (LcQ B w F μ s Dd wr outs l.length K) s:=by
 intro l
 induction l with
 | nil =>
  intro σ K h w F μ s i r items k outs hw x fv f₀ p₀ hL hi hS nw hI hR hz
  refine cX_tree ?_
  rw [Around.under_of_weight rfl]
  show wpX _ A ((compTurn (.ListComp _ [⟨.Name tx tp,iter,_,0⟩] scope pos) 0 it (.ref Dd) w.env).onRaise (fun x=>do noteFrame x w.env;theTreesLotGoes x)) _ s
  refine X_onRaise ?_
  rw [compTurn_list]
  refine Xb_ (Xt_ ?_)
  have nwD:∀ b ∈ [Dd],Nw w r F μ b:=fun b hb=>nw b (List.mem_singleton.mp hb ▸ List.mem_cons_self)
  have hi:i=L.length:=Nat.le_antisymm hi (List.drop_eq_nil_iff.mp hL)
  subst hi
  refine Xb_ (Xm_ ((I (.Name tx tp)).done (w.tmps [Dd] s.heap) F μ _ s f₀ p₀ (x.tmps nwD) (fun b hb=>(nw_tmps fun (q:b ∈ [Dd])=>hD (List.mem_singleton.mp q ▸ hb)).mpr (nw b (List.mem_cons_of_mem _ hb))) hS) fun v s₁ z3_=>?_)
  refine gG fun G kG=>?_
  obtain ⟨e,X,r₁,g⟩:=z3_
  subst e
  obtain ⟨r₂,hI₂,nD⟩:=r₁.untmps (fun b hb=>nw_tm (nwD b hb)) (fun b hb=>(nwD b hb).2.2.1) (fun b hb=>List.mem_singleton.mp hb ▸ ⟨_,hI⟩)
  refine kG ?_
  exact Xp_ ⟨rfl,F,μ,w.oa,r,[],σ,items,k,h,X,r₂,g,hI₂ _ List.mem_cons_self _ hI,by rw [List.append_nil];exact hR,Nat.le_refl _,nw⟩
 | cons y l ih =>
  intro σ K h w F μ s i r items k outs hw x fv f₀ p₀ hL hi hS nw hI hR hz
  refine cX_tree ?_
  rw [Around.under_of_weight rfl]
  show wpX _ A ((compTurn (.ListComp _ [⟨.Name tx tp,iter,_,0⟩] scope pos) 0 it (.ref Dd) w.env).onRaise (fun x=>do noteFrame x w.env;theTreesLotGoes x)) _ s
  refine X_onRaise ?_
  rw [compTurn_list]
  refine Xb_ (Xt_ ?_)
  have hlt:i < L.length:=Nat.lt_of_not_le fun q=>nomatch (List.drop_eq_nil_of_le q).symm.trans hL
  rw [List.drop_eq_getElem_cons hlt] at hL
  obtain ⟨hx,hL⟩:=List.cons.inj hL
  have hx:L[i]?=some y:=by rw [List.getElem?_eq_getElem hlt,hx]
  have x₀:=fv.sr x
  have nw₀:∀ b ∈ Dd :: wr,Nw w r₀ F μ b:=fun b hb=>let ⟨a,b',c,d⟩:=nw b hb;⟨a,b',c,fun t q=>d t (by
   induction t using Tg.casesOn <;> try exact q
   obtain ⟨_,p,q⟩:=q;exact ((fv _ _ q).elim (fun e=>nomatch e) fun z4_=>by obtain ⟨_,_,_,_,e,_⟩:=z4_;exact nomatch e))⟩
  have nwD:∀ b ∈ [Dd],Nw w r₀ F μ b:=fun b hb=>nw₀ b (List.mem_singleton.mp hb ▸ List.mem_cons_self)
  refine Xb_ (Xm_ ((I (.Name tx tp)).next i y (w.tmps [Dd] s.heap) F μ _ s hx f₀ p₀ (x₀.tmps nwD) (fun b hb=>(nw_tmps fun (q:b ∈ [Dd])=>hD (List.mem_singleton.mp q ▸ hb)).mpr (nw₀ b (List.mem_cons_of_mem _ hb))) hS) fun rv s₁ z5_=>?_)
  obtain ⟨v,e,hgo⟩:=z5_
  subst e
  refine Xb_ (Xm_ hgo fun _ s₂ z6_=>?_)
  refine gG fun G kG=>?_
  obtain ⟨F₁,X₁,r₁,g₁,pv,nw₁,hS₁⟩:=z6_
  refine kG ?_
  refine Xb_ (Xm_ (X_assign (store_v (e:=(w.tmps [Dd] s.heap).tmps wr s₂.heap) (Q:=fun st=>st=⟨st1 r₀ t (.v y),σ⟩) (r₁.tmps nw₁) pv (show nth w.sc t=_ from hw ▸ ht) (.inl rfl) rfl)) fun _ s₃ z7_=>?_)
  refine gG fun G kG=>?_
  obtain ⟨F₂,μ₂,X₂,g₂,st₂,oa,e₂,r₂⟩:=z7_
  subst e₂
  have unW {F' μ'} {st':St} {h':Heap} (fl:Le F₀ F') (r':SR B (((w.tmps [Dd] s.heap).tmps wr s₂.heap).at oa) F' μ' st' h') :
    SR B (w.at oa) F' μ' st' h'∧IsL h' Dd items k∧(∀ b ∈ Dd :: wr,Nw (w.at oa) st'.r F' μ' b)∧S (i+1) h':=by
   obtain ⟨a,b,c⟩:=SR.untmps (w:=(w.at oa).tmps [Dd] s.heap) r' (fun b hb=>nw_tm (w:=w.tmps [Dd] s.heap) (nw₁ b hb)) (fun b hb=>(nw₁ b hb).2.2.1) ((I (.Name tx tp)).ex _ _ hS₁)
   obtain ⟨a2,b2,c2⟩:=SR.untmps (w:=w.at oa) a (fun b hb=>nw_tm (w:=w) (nwD b hb)) (fun b hb=>(nwD b hb).2.2.1) (fun b hb=>List.mem_singleton.mp hb ▸ ⟨_,hI⟩)
   refine ⟨a2,b2 Dd List.mem_cons_self _ hI,fun b hb=>?_,(I (.Name tx tp)).frame (i+1) s₂.heap h' F' fl a2.ss.sub hS₁ b⟩
   rcases List.mem_cons.mp hb with rfl | hb
   ·exact c2 _ List.mem_cons_self
   ·exact (nw_tmps fun (q:b ∈ [Dd])=>hD (List.mem_singleton.mp q ▸ hb)).mp (c b hb)
  have f₁:=f₀.trans X₁.fm
  have lz:items.size+l.length+1≤1000000:=by rw [List.length_cons] at hz;exact Mine.L.q85 hz
  refine kG ?_
  refine Xb_ (Xm_ (hd.c c okd _ _ h A (((w.tmps [Dd] s.heap).tmps wr s₂.heap).at oa) F₂ μ₂ s₃ lv hw r₂) fun ok s₄ z8_=>?_)
  refine gG fun G kG=>?_
  obtain ⟨F₃,μ₃,X₃,g₃,st₃,h₃,r₃⟩:=z8_
  cases ok
  ·have h₃:=(br_e h₃).2 rfl
   have XX:=(X₁.trans X₂).trans X₃
   obtain ⟨q1,q2,q3,q4⟩:=unW (f₀.trans XX.fm) r₃
   refine kG ?_
   refine Xp_ ⟨rfl,(fun _ _=>rfl),?_⟩
   exact cX_mono (ih _ _ h₃ (w.at oa) F₃ μ₃ s₄ (i+1) st₃.r items k outs hw q1 (fv.step XX) (f₀.trans XX.fm) (p₀.trans XX.pre) hL hlt q4 q3 q2 (hR.mono XX.fm XX.pre) (Mine.L.q86 lz)) fun f s₆ q=>q.back XX ⟨g₃.1.trans (g₂.1.trans g₁.1),g₃.2.trans (g₂.2.trans g₁.2)⟩ fun out σ k=>⟨out,k,rfl,Nat.le_succ _⟩
  ·have h₃:=(br_e h₃).1 rfl
   refine kG ?_
   refine Xb_ (Xb_ (Xm_ (he c oke _ _ h₃ A (((w.tmps [Dd] s.heap).tmps wr s₂.heap).at oa) F₃ μ₃ s₄ lv hw r₃) fun yv s₅ z9_=>?_))
   refine gG fun G kG=>?_
   obtain ⟨F₄,μ₄,X₄,g₄,z,st₄,h₄,r₄,py⟩:=z9_
   have XX:=((X₁.trans X₂).trans X₃).trans X₄
   have f₄:=f₀.trans XX.fm
   obtain ⟨q1,q2,q3,q4⟩:=unW f₄ r₄
   refine kG ?_
   refine Xb_ (Xa_ (append_exact q2 (by rw [sizeLine_eq];exact Mine.L.q87 lz) fun h' k' hI' hs'=>?_))
   refine gG fun G kG=>?_
   obtain ⟨q5,X₅⟩:=q1.offs (sb_offs hs') (fun b hb=>List.mem_singleton.mp hb ▸ q3 Dd List.mem_cons_self)
   have XX:=XX.trans X₅
   refine kG ?_
   refine Xp_ (Xp_ ⟨rfl,(fun _ _=>rfl),?_⟩)
   have hS':S (i+1) h':=(I (.Name tx tp)).frame (i+1) s₅.heap h' F₄ f₄ q5.ss.sub q4 fun b hb o q=>(hs'.2 b (fun z=>hD (z ▸ hb))).trans q
   exact cX_mono (ih _ _ h₄ (w.at oa) F₄ μ₄ { s₅ with heap:=h' } (i+1) st₄.r (items.push yv) k' (outs ++ [z]) hw q5 (fv.step XX) f₄ (p₀.trans XX.pre) hL hlt hS' q3 hI' (by rw [Array.toList_push];exact (hR.mono XX.fm XX.pre).push py) (by rw [Array.size_push];exact Mine.L.q88 lz)) fun f s₆ q =>
    q.back XX ⟨g₄.1.trans (g₃.1.trans (g₂.1.trans g₁.1)),g₄.2.trans (g₃.2.trans (g₂.2.trans g₁.2))⟩ fun out σ k=>⟨z :: out,k,List.append_assoc ..,Nat.le_refl _⟩
end
end
section
section
variable {B:Bs} {C:Orc} {D:Nat} {A:Around} {w:Wh} {F:Heap} {μ:List Addr} {s:Shared} {st:St} {c:Cx}
set_option tactic.hygienic true in
theorem folded_plain (e:CE) (c:Cx) (env:Env) (x:Value):foldedSetIterable (toE c e) env x=pure x:=by
 induction e using CE.casesOn <;> try rfl
 case fz a=>induction a using CN.casesOn <;> rfl
 case th a=>induction a using CN.casesOn <;> rfl
def CompK (iv:Bool) (K:PV→St→Prop) (out:List PV) (st:St):Prop:=match iv with
 | true=>ilW out fun x=>K x st
 | false=>K (.lst out) st
theorem CompK.con {iv:Bool} {K:PV→St→Prop} {out:List PV} {h:Heap} {a:Addr} {items:Array Value} (k:CompK iv K out st) (hl:IsLs h a items) (p:RepL B F μ items.toList out) (hz:out.length≤1000000):∃ y,K y st∧Con B F μ h a y:=by
 cases iv with
 | false=>exact ⟨_,k,_,hl,p,hz⟩
 | true =>
  replace k:asIs out fun l=>K (.il l) st:=k
  replace k:=asIs_e k;obtain ⟨i,rfl,k⟩:=k
  exact ⟨_,k,_,hl,ints_of p,by rw [List.length_map] at hz;exact hz⟩
theorem comp_core {n:Nat} {e:CE} {t:Nat} {it:CE} {d:CO} {iv:Bool} {m:List Nat} {u:Nat} {K:PV→St→Prop} (hit:SE B C D it) (he:SE B C D e) (hd:SO B C D d) (ok:okN c (.comp n e t it d iv m u)=true) (h:wN C (.comp n e t it d iv m u) st K)
  {use:Option (Value→Sem Unit)} {Q:Value→Shared→Prop} (lv:Lv A D) (hw:w.sc=c.ns) (r:SR B w F μ st s.heap)
  (k:∀ F' μ' s' Dd items k' L mL out st',CompK iv K out st'→Ext w.n₀ F μ s.heap F' μ' s'.heap→SR B w F' μ' st' s'.heap→(s'.gens=s.gens∧s'.os=s.os)→IsL s'.heap Dd items k'→RepL B F' μ' items.toList out→out.length≤1000000→Nw w st'.r F' μ' Dd →
   s'.heap.Ns L mL→Nw w st'.r F' μ' L→L ≠ Dd→compPostX (model prg B.w) A use Q (.ref Dd) L s') (pos fp:Pos) (it0:Expr) (tp:Pos) (e0:it0=toE c it) :
  wpX (model prg B.w) A (comprehension (.ListComp (toE { c with ns:=(c.cs u).names } e) [⟨.Name (Cx.nm { c with ns:=(c.cs u).names } t) tp,it0,(toO { c with ns:=(c.cs u).names } d).toList,0⟩] (c.cs u) pos) (c.cs u) w.env fp (newList []) false (eval (toE c it) w.env) use) Q s:=by
 subst e0
 have co:=okSc_e (and_l (and_l (and_l ok)))
 have hmp:=and_r (and_l (and_l ok))
 obtain ⟨tx,ht⟩:∃ x,nth (c.cs u).names t=some (x,.local):=by
  have:=and_r (and_l ok)
  cases q:nth (c.cs u).names t with
  | none=>rw [q] at this;exact absurd this Bool.false_ne_true
  | some p=>rw [q] at this;obtain ⟨x,k⟩:=p;exact ⟨x,by rw [eq_of_beq this]⟩
 have okr:=and_r ok
 rw [nm_at (c:={ c with ns:=(c.cs u).names }) ht]
 generalize hcc:(⟨.Name tx tp,toE c it,(toO { c with ns:=(c.cs u).names } d).toList,0⟩:Comprehension)=g
 refine X_comprehension (g:=g) (gs:=[]) rfl (fun v=>by rw [← hcc];exact folded_plain it c w.env v) co.kind (fun x hx hl=>hl ▸ co.look hx) ?_
 subst hcc
 refine Xm_ (hit c (and_l okr) _ _ h A w F μ s lv hw r) fun v s₁ z1_=>?_
 refine gG fun G kG=>?_
 obtain ⟨F₁,μ₁,X₁,g₁,x,st₁,h₁,r₁,pv⟩:=z1_
 obtain ⟨l,h₁,hz,hit⟩:=iter_ok lv r₁ pv h₁
 refine kG (hit _ fun itv s₂ wr S I hS0 G₂ hle12 hwr hnd=>?_)
 have r₂:=r₁.grown G₂
 refine Xa_ (wpAny_newList (items:=[]) ?_ (Nat.zero_le _))
 refine gG fun G kG=>?_
 obtain ⟨fm1,fm2⟩:=frm_ok (r:=st₁.r) hmp
 have hcells:∀ y ∈ (c.cs u).names,y.2=.free→∃ a,w.env.cells.lookup y.1=some a:=fun y hy hf=>by
  obtain ⟨i,hi⟩:=fm2 y.1 (by rw [← hf];exact hy)
  obtain ⟨a,v,h1,_⟩:=r₁.fr.cell i _ (show nth w.sc i=_ from hw ▸ hi)
  exact ⟨a,h1⟩
 obtain ⟨cl,hclos,hc1,hc2⟩:=closure_ok hcells
 refine kG ⟨cl,hclos,?_⟩
 refine Xa_ (wpAny_newFunctionEnv co.mcell (by intro y hy;simp at hy) (fun h₄ hns₄ hsb₄=>?_) co.kind)
 dsimp only at hns₄ hsb₄ ⊢
 generalize hH3:s₂.heap.push { cls:=.type "list",data:=.seq ([]:List Value).toArray }=H3 at hns₄ hsb₄ ⊢
 have old:∀ b o,s₂.heap.get? b=some o→h₄.get? b=some o:=fun b o q=>by
  have q3:H3.get? b=some o:=hH3 ▸ Heap.get?_push_of_some _ q
  exact (hsb₄.2 b (Nat.ne_of_lt (Heap.lt_size q3))).trans (Heap.get?_push_of_some _ q3)
 have sz3:H3.objs.size=s₂.heap.objs.size+1:=by rw [← hH3,Heap.size_push]
 have hD3:IsL h₄ s₂.heap.objs.size #[] 0:=by
  have q3:H3.get? s₂.heap.objs.size=some { cls:=.type "list",data:=.seq #[] }:=hH3 ▸ Heap.get?_push_size _ rfl
  exact (hsb₄.2 _ (by rw [sz3];exact Nat.ne_of_lt (Nat.lt_succ_self _))).trans (Heap.get?_push_of_some _ q3)
 have Le4:Le s₁.heap h₄:=G₂.le.trans old
 have newer {b:Addr} (hb:s₁.heap.objs.size≤b):Nw w st₁.r F₁ μ₁ b:=r₁.nw hb
 have hL:s₁.heap.objs.size≤H3.objs.size:=by rw [sz3];exact L.q89 hle12
 let wi:Wh:={ n₀:=s₁.heap.objs.size,env:={ newEnv (c.cs u) H3.objs.size w.env.globals cl w.env.qual none .none (some w.env) builtinsNs with scope:=relabel (c.cs u) w.env },sc:=(c.cs u).names,oa:=fun _=>0,tm:=fun _=>none }
 have henv:wi.env=compEnvC (c.cs u) cl H3.objs.size w.env:=rfl
 have cellAt {z:Str} {b:Addr} (hz:cl.lookup z=some b):(∃ o,s₁.heap.get? b=some o)∧F₁.get? b=none∧b ∉ μ₁:=r₁.fr.ap .cell b ⟨z,hc1 z b hz⟩
 have isL {t:Tg} {b:Addr} {r':List LV} (no:∀ i p,nth r' i ≠ some (.own p)) (q:Is wi r' t b):(t=.loc∧b=H3.objs.size) ∨ (t=.cell∧∃ z,cl.lookup z=some b):=by
  cases t with
  | loc=>exact .inl ⟨rfl,q⟩
  | cell=>exact .inr ⟨rfl,q⟩
  | own i=>obtain ⟨_,p,q⟩:=q;exact absurd q (no i p)
  | tmp=>exact nomatch (show (none:Option Obj).isSome=true from q)
 have fv:FV B wi F₁ μ₁ h₄ (frm st₁.r m):=fun j y q=>by
  rcases fm1 j y q with e | ⟨z,i,q1,q2,q3⟩
  ·exact .inl e
  ·obtain ⟨m₀,hn₀,hm₀⟩:=r₁.fr.ns
   have na:=hm₀ i y q2
   have q3:nth w.sc i=some (z,.cell):=hw ▸ q3
   cases y with
   | un=>exact .inl rfl
   | own p=>obtain ⟨z',a,_⟩:=na;rw [q3] at a;exact nomatch a
   | v p =>
    obtain ⟨z',k,v',a,b,d⟩:=na
    rw [q3] at a
    obtain ⟨rfl,rfl⟩:=Prod.mk.inj (Option.some.inj a)
    rcases d with ⟨e,_⟩ | ⟨_,a',e1,o,e2,e3⟩
    ·exact nomatch e
    ·exact .inr ⟨p,_,a',v',rfl,q1,b,hc2 _ (nth_mem q1) rfl a' e1,⟨o,Le4 _ _ e2,e3⟩,Heap.lt_size e2,(r₁.fr.ap .cell a' ⟨_,e1⟩).2.2⟩
 have no:∀ i p,nth (frm st₁.r m) i ≠ some (.own p):=fun i p q=>(fv i _ q).elim (fun e=>nomatch e) fun z2_=>by obtain ⟨_,_,_,_,e,_⟩:=z2_;exact nomatch e
 have ri:SR B wi F₁ μ₁ ⟨frm st₁.r m,st₁.s⟩ h₄:=by
  refine ⟨r₁.ss.grow Le4,⟨⟨co.kind,fun i x k q=>lookup_relabel (nth_lookup co.nd q),fun i x k q=>co.dbg _ (nth_mem q),fun i j x k k'=>nth_inj co.nd,r₁.fr.sc.glb,⟨r₁.fr.sc.bi.1,Nat.lt_of_lt_of_le r₁.fr.sc.bi.2 r₁.n₀⟩,hL,fun i x y a q=>absurd rfl (co.mcell _ (nth_mem q))⟩,
   fun i x q=>absurd rfl (co.mcell _ (nth_mem q)),fun t b q=>?_,fun t t' b q q'=>?_,⟨_,hns₄,fun i y q=>?_⟩,fun a o q=>nomatch q⟩⟩
  ·rcases isL no q with ⟨_,rfl⟩ | ⟨_,z,hz⟩
   ·obtain ⟨o,_,_,q,_⟩:=hns₄;exact ⟨⟨o,q⟩,(newer hL).1,(newer hL).2.1⟩
   ·obtain ⟨⟨o,k1⟩,k2⟩:=cellAt hz;exact ⟨⟨o,Le4 _ _ k1⟩,k2⟩
  ·rcases isL no q with ⟨rfl,e⟩ | ⟨rfl,z,hz⟩ <;> rcases isL no q' with ⟨rfl,e'⟩ | ⟨rfl,z',hz'⟩
   ·rfl
   ·exact absurd hL (Nat.not_le.mpr (e ▸ Heap.lt_size (cellAt hz').1.choose_spec))
   ·exact absurd hL (Nat.not_le.mpr (e' ▸ Heap.lt_size (cellAt hz).1.choose_spec))
   ·rfl
  ·rcases fv i y q with rfl | ⟨p,x,a,v,rfl,b,d,e,hc,_⟩
   ·trivial
   ·exact ⟨x,.free,v,b,d,.inr ⟨.inr rfl,a,e,hc⟩⟩
 have hSi:S 0 h₄:=(I (.Name tx tp)).frame 0 s₂.heap h₄ F₁ (Le.refl _) (r₁.ss.sub.trans Le4) hS0 fun b hb o q=>old b o q
 have nwi:∀ b ∈ s₂.heap.objs.size :: wr,Nw wi (frm st₁.r m) F₁ μ₁ b:=fun b hb=>by
  have hb1:s₁.heap.objs.size≤b∧b < H3.objs.size:=by
   rcases List.mem_cons.mp hb with rfl | hb
   ·exact ⟨hle12,by rw [sz3];exact Nat.lt_succ_self _⟩
   ·obtain ⟨o,ho⟩:=(I (.Name tx tp)).ex 0 _ hS0 b hb
    exact ⟨hwr b hb,by rw [sz3];exact Nat.lt_succ_of_lt (Heap.lt_size ho)⟩
  refine ⟨(newer hb1.1).1,(newer hb1.1).2.1,hb1.1,fun t q=>?_⟩
  rcases isL no q with ⟨_,rfl⟩ | ⟨_,z,hz⟩
  ·exact Nat.lt_irrefl _ hb1.2
  ·exact absurd hb1.1 (Nat.not_le.mpr (Heap.lt_size (cellAt hz).1.choose_spec))
 have hDw:s₂.heap.objs.size ∉ wr:=fun hm=>by
  obtain ⟨o,ho⟩:=(I (.Name tx tp)).ex 0 _ hS0 _ hm
  exact Nat.lt_irrefl _ (Heap.lt_size ho)
 refine cX_compStart_list (cX_mono (lc_ok (c:={ c with ns:=(c.cs u).names }) he hd (and_r (and_r okr)) (and_l (and_r okr)) ht I hDw lv l st₁.s _ h₁ wi F₁ μ₁ { s₂ with heap:=h₄,toks:=s₂.toks+0 } 0 (frm st₁.r m) #[] 0 [] rfl ri fv (Le.refl _) (Pre.refl _) rfl (Nat.zero_le _) hSi nwi hD3 rfl (by rw [show (#[]:Array Value).size=0 from rfl];exact L.q90 hz)) fun f s₅ hp=>?_)
  fun Q' q=>(I (.Name tx tp)).self 0 _ Q' hSi q
 refine gG fun G kG=>?_
 obtain ⟨_,F',μ',oa,r',out,σ',items',k',kk,X₅,r₅,g₅,hI₅,hR₅,hz₅,nw₅⟩:=hp
 have Xg:Ext w.n₀ F₁ μ₁ s₁.heap F₁ μ₁ h₄:=Ext.grow Le4
 have Xw:Ext w.n₀ F₁ μ₁ h₄ F' μ' s₅.heap:=X₅.wide r₁.n₀
 have rO:SR B w F' μ' ⟨st₁.r,σ'⟩ s₅.heap:=r₁.keep (n₁:=s₁.heap.objs.size) ((Ext.grow Le4).trans X₅) (Nat.le_refl _) r₅.ss
 have nwO {b:Addr} (hb:s₁.heap.objs.size≤b) (hx:F'.get? b=none) (hm:b ∉ μ'):Nw w st₁.r F' μ' b:=⟨hx,hm,Nat.le_trans r₁.n₀ hb,(newer hb).2.2.2⟩
 obtain ⟨mL,hnL,_⟩:=r₅.fr.ns
 have nD:=nw₅ _ List.mem_cons_self
 have nL:=(r₅.fr.ap .loc _ rfl).2
 refine kG ?_
 exact k F' μ' s₅ s₂.heap.objs.size items' k' H3.objs.size mL out ⟨st₁.r,σ'⟩ (by cases iv <;> exact kk) ((X₁.trans Xg).trans Xw) rO ⟨g₅.1.trans (G₂.gens.trans g₁.1),g₅.2.trans (G₂.os.trans g₁.2)⟩ hI₅ hR₅ (Nat.le_trans hz₅ hz) (nwO hle12 nD.1 nD.2.1) hnL (nwO hL nL.1 nL.2) (by rw [sz3];exact Nat.succ_ne_self _)
theorem n_comp {n:Nat} {e:CE} {t:Nat} {it:CE} {d:CO} {iv:Bool} {m:List Nat} {u:Nat} (hit:SE B C D it) (he:SE B C D e) (hd:SO B C D d):SN B C D (.comp n e t it d iv m u):=fun c ok st K h A w F μ s lv hw r=>by
 show wpX _ _ (eval (.ListComp _ _ _ _) w.env) _ s
 rw [eval_ListComp]
 refine comp_core hit he hd ok h (use:=none) lv hw r (fun F' μ' s' Dd items k' L mL out st' kk X r' g hI hR hz nD hn nL hne=>⟨mL,hn,fun h' hs'=>?_⟩) _ _ _ _ rfl
 obtain ⟨r₂,X₂⟩:=r'.offs (sb_offs hs') fun b hb=>List.mem_singleton.mp hb ▸ nL
 obtain ⟨y,k1,k2⟩:=kk.con (h:=h') ⟨k',(hs'.2 _ (Ne.symm hne)).trans hI⟩ hR hz
 exact ⟨F',μ',X.trans X₂,g,y,st',k1,r₂,_,rfl,k2,nD⟩
def SNu (B:Bs) (C:Orc) (D:Nat) (a:CN):Prop:=∀ c,okN c a=true→isComp a=true→∀ st K,wN C a st K→∀ A w F μ s,Lv A D→w.sc=c.ns→SR B w F μ st s.heap→∀ (use:Value→Sem Unit) (Q:St→Prop),
 (∀ w' F' μ' v s',(∃ l h,w'=w.tmps l h)→GN B w' K F' μ' v s'.heap→wpX (model prg B.w) A (use v) (Pst w'.n₀ F' μ' s' (GS B w' Q)) s')→wpX (model prg B.w) A (evalThenUse (toN c a) w.env use) (Pst w.n₀ F μ s (GS B w Q)) s
theorem nu_comp {n:Nat} {e:CE} {t:Nat} {it:CE} {d:CO} {iv:Bool} {m:List Nat} {u:Nat} (hit:SE B C D it) (he:SE B C D e) (hd:SO B C D d):SNu B C D (.comp n e t it d iv m u):=fun c ok _ st K h A w F μ s lv hw r use Q hu=>by
 show wpX _ _ (do let _ ← comprehension _ _ _ _ _ _ _ (some use)) _ s
 refine Xb_ (Q:=Pst w.n₀ F μ s (GS B w Q)) (Xm_ (Q:=fun _ s'=>Pst w.n₀ F μ s (GS B w Q) () s') ?_ fun _ s' y=>Xp_ y)
 refine comp_core hit he hd ok h (use:=some use) lv hw r (fun F' μ' s' Dd items k' L mL out st' kk X r' g hI hR hz nD hn nL hne=>?_) _ _ _ _ rfl
 obtain ⟨oL,esL,epL,hoL,hrest⟩:=id hn
 have nL1:∀ b ∈ [L],Nw w st'.r F' μ' b:=fun b hb=>List.mem_singleton.mp hb ▸ nL
 obtain ⟨y,k1,k2⟩:=kk.con (h:=s'.heap) ⟨k',hI⟩ hR hz
 refine Xm_ (hu (w.tmps [L] s'.heap) F' μ' (.ref Dd) s' ⟨_,_,rfl⟩ ⟨y,st',k1,r'.tmps nL1,_,rfl,k2,(nw_tmps fun (q:Dd ∈ [L])=>hne (List.mem_singleton.mp q).symm).mpr nD⟩) fun _ s'' z3_=>?_
 obtain ⟨F'',μ'',X'',g'',st₂,oa,q,r''⟩:=z3_
 obtain ⟨a1,a2,a3⟩:=SR.untmps (w:=w.at oa) (l:=[L]) (h₀:=s'.heap) r'' (fun b hb=>nw_tm (w:=w) (nL1 b hb)) (fun b hb=>(nL1 b hb).2.2.1) (fun b hb=>List.mem_singleton.mp hb ▸ ⟨_,hoL⟩)
 refine ⟨mL,ns_at hn fun o q=>a2 L List.mem_cons_self o q,fun h' hs'=>?_⟩
 obtain ⟨r₂,X₂⟩:=a1.offs (sb_offs hs') a3
 exact ⟨F'',μ'',(X.trans X'').trans X₂,⟨g''.1.trans g.1,g''.2.trans g.2⟩,st₂,oa,q,r₂⟩
end
end
section
def FlOk (B:Bs) (F:Heap) (μ:List Addr):Fl→Flow→Prop
 | .next,f=>f=.next
 | .brk,f=>f=.brk
 | .ret x,f=>∃ v,f=.ret v∧Rep B F μ v x
def GF (B:Bs) (e:Wh) (K:Fl→St→Prop) (F:Heap) (μ:List Addr) (f:Flow) (h:Heap):Prop:=∃ fl st oa,K fl st∧SR B (e.at oa) F μ st h∧FlOk B F μ fl f
def SSt (B:Bs) (C:Orc) (D:Nat) (x:CS):Prop:=∀ c,okS c x=true→∀ st K,wS C x st K→∀ A w F μ s,Lv A D→w.sc=c.ns→SR B w F μ st s.heap→wpX (model prg B.w) A (exec (toS c x) w.env) (Pst w.n₀ F μ s (GF B w K)) s
def SBk (B:Bs) (C:Orc) (D:Nat) (x:CB):Prop:=∀ c,okB c x=true→∀ st K,wB C x st K→∀ A w F μ s,Lv A D→w.sc=c.ns→SR B w F μ st s.heap→wpX (model prg B.w) A (execs (toB c x) w.env) (Pst w.n₀ F μ s (GF B w K)) s
section
variable {β:Type} {B:Bs} {C:Orc} {D:Nat} {A:Around} {w:Wh} {F F₁:Heap} {μ μ₁:List Addr} {s s₁:Shared} {st:St} {c:Cx} {n₀:Nat} {M:Model}
theorem pS {Q:St→Prop} {m:Sem Unit} {f:Unit→Sem β} {G':Heap→List Addr→β→Heap→Prop} (h:wpX M A m (Pst n₀ F μ s (GS B w Q)) s)
  (k:∀ F₁ μ₁ s₁ st₁ oa,Ext n₀ F μ s.heap F₁ μ₁ s₁.heap→Q st₁→SR B (w.at oa) F₁ μ₁ st₁ s₁.heap→wpX M A (f ()) (Pst n₀ F₁ μ₁ s₁ G') s₁):wpX M A (m >>= f) (Pst n₀ F μ s G') s :=
 p_bind h fun F₁ μ₁ _ s₁ X z1_=>by obtain ⟨st₁,oa,a,b⟩:=z1_;exact k F₁ μ₁ s₁ st₁ oa X a b
theorem p_next {K:Fl→St→Prop} {m:Sem Unit} (h:wpX M A m (Pst n₀ F μ s (GS B w fun st=>K .next st)) s):wpX M A (m >>= fun _=>pure Flow.next) (Pst n₀ F μ s (GF B w K)) s :=
 pS h fun F₁ μ₁ s₁ st₁ oa _ k r=>p_pure ⟨_,_,_,k,r,rfl⟩
theorem p_flow {K:Fl→St→Prop} {fl:Fl} {f:Flow} (r:SR B w F μ st s.heap) (k:K fl st) (hf:FlOk B F μ fl f):Pst n₀ F μ s (GF B w K) f s:=.grown (.refl _) ⟨fl,st,w.oa,k,r,hf⟩
theorem p_gs {Q:St→Prop} (r:SR B w F μ st s.heap) (k:Q st):Pst n₀ F μ s (GS B w Q) () s:=.grown (.refl _) ⟨st,w.oa,k,r⟩
theorem isL_e {i:Nat} (h:isL c i=true):∃ x k,nth c.ns i=some (x,k)∧(k=.local ∨ k=.cell):=by
 unfold isL at h
 cases q:nth c.ns i with
 | none=>rw [q] at h;exact absurd h Bool.false_ne_true
 | some p=>rw [q] at h;exact ⟨p.1,p.2,rfl,(Bool.or_eq_true_iff.mp h).imp eq_of_beq eq_of_beq⟩
set_option tactic.hygienic true in
theorem plain_swap {e:CE} (h:plainE e=true) (c:Cx) (t:Option Expr) (line:Nat) (env:Env):swapsWith (toE c e) t line env=pure false:=by
 revert h
 induction e using CE.casesOn <;> intro h <;> try rfl
 case fz a=>induction a using CN.casesOn <;> first | rfl | exact absurd h Bool.false_ne_true
 case th a=>induction a using CN.casesOn <;> first | rfl | exact absurd h Bool.false_ne_true
theorem plain_swapN {a:CN} (h:isComp a=false) (c:Cx) (t:Option Expr) (line:Nat) (env:Env):swapsWith (toN c a) t line env=pure false:=by
 revert h
 induction a using CN.casesOn <;> intro h <;> first | rfl | exact absurd h.symm Bool.false_ne_true
theorem X_assign1 {T E:Expr} {pos:Pos} {env:Env} {Q:Flow→Shared→Prop} (h1:swapsWith E (some T) pos.line env=pure false) (h2:swappedStores [T] E env=pure none) (h3:∀ v,assignAll v ((assignEach [T] env).map (·.2))=assign T env v)
  (h:wpX M A (eval E env >>= fun v=>assign T env v >>= fun _=>pure Flow.next) Q s):wpX M A (exec (.Assign [T] E pos) env) Q s:=by
 rw [arm_exec_Assign]
 refine Xb_ (Xt_ (Xb_ (X_of_eq (show swapsWithSole [T] E pos.line env=pure false from h1) (X_if_false rfl ?_))))
 rw [h2]
 have e:∀ v,((pure none:Sem (Option (List Str))) >>= fun x=>assignStores env v x ((assignEach [T] env).map (·.2)))=(assign T env v >>= fun _=>pure Flow.next):=fun v=>by rw [pure_bind,← h3];rfl
 simp only [e]
 exact h
theorem s_store {T:Expr} {pos:Pos} {e:CE} {K:PV→St→Prop} {K':Fl→St→Prop} (he:SE B C D e) (ok:okE c e=true) (hp:plainE e=true) (h:wE C e st K) (lv:Lv A D) (hw:w.sc=c.ns) (r:SR B w F μ st s.heap) (h2:swappedStores [T] (toE c e) w.env=pure none) (h3:∀ v,assignAll v ((assignEach [T] w.env).map (·.2))=assign T w.env v)
  (k:∀ F₁ μ₁ v s₁ x st₁,K x st₁→SR B w F₁ μ₁ st₁ s₁.heap→Rep B F₁ μ₁ v x→wpX (model prg B.w) A (assign T w.env v) (Pst w.n₀ F₁ μ₁ s₁ (GS B w fun st=>K' .next st)) s₁) :
  wpX (model prg B.w) A (exec (.Assign [T] (toE c e) pos) w.env) (Pst w.n₀ F μ s (GF B w K')) s :=
 X_assign1 (plain_swap hp c _ _ _) h2 h3 (pE (he c ok _ _ h A w F μ s lv hw r) fun F₁ μ₁ v s₁ x st₁ X₁ h₁ r₁ p₁=>p_next (k F₁ μ₁ v s₁ x st₁ h₁ r₁ p₁))
theorem st_asg {n i:Nat} {e:CE} (he:SE B C D e):SSt B C D (.asg n i e):=fun c ok st K h A w F μ s lv hw r =>
 by obtain ⟨x,k,hi,hk⟩:=isL_e (and_l (and_l ok));exact s_store he (and_r ok) (and_r (and_l ok)) h lv hw r rfl (fun _=>rfl) fun F₁ μ₁ v s₁ x st₁ h₁ r₁ p₁=>X_assign (by rw [nm_at hi];exact store_v r₁ p₁ (hw ▸ hi) hk h₁)
theorem st_asgO {n i:Nat} {a:CN} (ha:SN B C D a) (hu:SNu B C D a):SSt B C D (.asgO n i a):=fun c ok st K h A w F μ s lv hw r=>by
 obtain ⟨x,hi⟩:∃ x,nth c.ns i=some (x,.local):=by
  have:=and_l ok
  split at this
  ·rename_i q;exact ⟨_,q⟩
  ·exact absurd this Bool.false_ne_true
 have st1_ {w':Wh} {F₁:Heap} {μ₁:List Addr} {s₁:Shared} {v:Value} (hw':w'.sc=c.ns) (g:GN B w' (fun x st=>K .next ⟨st1 st.r i (.own x),st.s⟩) F₁ μ₁ v s₁.heap):wpX (model prg B.w) A (assign (.Name (c.nm i) (c.P (n+1))) w'.env v) (Pst w'.n₀ F₁ μ₁ s₁ (GS B w' fun st=>K .next st)) s₁:=by
  obtain ⟨y,st₁,k,r₁,a,rfl,cn,nw⟩:=g
  exact X_assign (by rw [nm_at hi];exact store_own r₁ cn nw (hw' ▸ hi) k)
 have plain:wpX (model prg B.w) A (eval (toN c a) w.env >>= fun v=>assign (.Name (c.nm i) (c.P (n+1))) w.env v >>= fun _=>pure Flow.next) (Pst w.n₀ F μ s (GF B w K)) s :=
  p_bind (ha c (and_r ok) _ _ h A w F μ s lv hw r) fun F₁ μ₁ v s₁ X g=>p_next (st1_ hw g)
 cases hc:isComp a with
 | false=>exact X_assign1 (plain_swapN hc c _ _ _) rfl (fun _=>rfl) plain
 | true =>
  show wpX _ _ (exec (.Assign [.Name (c.nm i) (c.P (n+1))] (toN c a) (c.P n)) w.env) _ s
  obtain ⟨b,hb⟩:∃ b,swapsWith (toN c a) (some (.Name (c.nm i) (c.P (n+1)))) (c.P n).line w.env=pure b:=by induction a using CN.casesOn <;> first | exact ⟨_,rfl⟩ | exact absurd hc Bool.false_ne_true
  cases b with
  | false=>exact X_assign1 hb rfl (fun _=>rfl) plain
  | true =>
   rw [arm_exec_Assign]
   refine Xb_ (Xt_ (Xb_ (X_of_eq (show swapsWithSole [_] (toN c a) (c.P n).line w.env=pure true from hb) (X_if_true rfl ?_))))
   exact p_next (hu c (and_r ok) hc _ _ h A w F μ s lv hw r _ _ fun w' F' μ' v s' e g=>by
    obtain ⟨l,hh,rfl⟩:=e
    exact st1_ (w':=w.tmps l hh) hw g)
noncomputable def setS (ps:List (Nat × PV)) (r:List LV):List LV:=ps.foldl (fun r p=>st1 r p.1 (.v p.2)) r
theorem st1_comm:∀ {r:List LV} {i j:Nat} {x y:LV},i ≠ j→st1 (st1 r i x) j y=st1 (st1 r j y) i x
 | [],_,_,_,_,_=>rfl
 | _ :: _,0,0,_,_,h=>absurd rfl h
 | _ :: _,0,_+1,_,_,_=>rfl
 | _ :: _,_+1,0,_,_,_=>rfl
 | a :: r,i+1,j+1,_,_,h=>congrArg (a :: ·) (st1_comm fun e=>h (congrArg _ e))
theorem setS_push:∀ {ps:List (Nat × PV)} {r:List LV} {p:Nat × PV},p.1 ∉ ps.map (·.1)→setS ps (st1 r p.1 (.v p.2))=st1 (setS ps r) p.1 (.v p.2)
 | [],_,_,_=>rfl
 | q :: ps,r,p,h=>by
  rw [List.map_cons,List.mem_cons,not_or] at h
  show setS ps (st1 (st1 r p.1 _) q.1 _)=_
  rw [st1_comm h.1]
  exact setS_push (ps:=ps) h.2
theorem setS_rev:∀ {ps:List (Nat × PV)} {r:List LV},(ps.map (·.1)).Nodup→setS ps.reverse r=setS ps r
 | [],_,_=>rfl
 | p :: ps,r,h=>by
  rw [List.map_cons,List.nodup_cons] at h
  rw [List.reverse_cons]
  show List.foldl _ r (ps.reverse ++ [p])=_
  rw [List.foldl_append]
  show st1 (setS ps.reverse r) p.1 (.v p.2)=setS ps (st1 r p.1 (.v p.2))
  rw [setS_rev h.2,setS_push h.1]
theorem tpl_e:∀ {l:List (Nat × Nat)} {xs:List PV} {r:List LV} {K:List LV→Prop},tpl l xs r K→l.length=xs.length∧K (setS ((l.map (·.2)).zip xs) r)
 | [],[],_,_,h=>⟨rfl,h⟩
 | [],_ :: _,_,_,h=>h.elim
 | _ :: _,[],_,_,h=>h.elim
 | p :: l,x :: xs,r,K,h=>by obtain ⟨a,b⟩:=tpl_e (l:=l) (xs:=xs) h;exact ⟨congrArg (·+1) a,b⟩
def St1 (M:Model) (A:Around) (c:Cx) (i:Nat) (f:Env→Value→Sem Unit):Prop:=∀ env v Q s,wpX M A (bindName env (c.nm i) v) Q s→wpX M A (f env v) Q s
theorem bind_all:∀ {l:List (Nat × (Env→Value→Sem Unit))} {xs:List PV} {vs:List Value} {w:Wh} {F:Heap} {μ:List Addr} {s:Shared} {st:St} {Q:St→Prop},(∀ p ∈ l,isL c p.1=true∧St1 (model prg B.w) A c p.1 p.2)→w.sc=c.ns→SR B w F μ st s.heap→RepL B F μ vs xs→l.length=xs.length→Q ⟨setS ((l.map (·.1)).zip xs) st.r,st.s⟩ →
  wpX (model prg B.w) A (assignInOrder (l.map fun p=>p.2 w.env) vs) (Pst w.n₀ F μ s (GS B w Q)) s
 | [],[],_,w,F,μ,s,st,Q,_,_,r,rfl,_,h=>Xp_ (p_gs r h)
 | [],_ :: _,_,_,_,_,_,_,_,_,_,_,_,hl,_=>nomatch hl
 | _ :: _,[],_,_,_,_,_,_,_,_,_,_,_,hl,_=>nomatch hl
 | p :: l,x :: xs,_,w,F,μ,s,st,Q,hk,hw,r,⟨v,vs,rfl,a,b⟩,hl,h=>by
  obtain ⟨y,k,hi,hk'⟩:=isL_e (hk p List.mem_cons_self).1
  show wpX _ _ (do holding _ (p.2 w.env v);assignInOrder (l.map fun p=>p.2 w.env) vs) _ s
  exact pS (Q:=fun st'=>st'=⟨st1 st.r p.1 (.v x),st.s⟩) (Xh_ ((hk p List.mem_cons_self).2 _ _ _ _ (X_bindName (by rw [nm_at hi];exact store_v r a (hw ▸ hi) hk' rfl)))) fun F₁ μ₁ s₁ st₁ oa X e r₁=>by
   subst e
   refine Xm_ (bind_all (w:=w.at oa) (fun q m=>hk q (List.mem_cons_of_mem _ m)) hw r₁ (b.mono X.fm X.pre) (Nat.succ.inj hl) h) fun _ s₂ z2_=>by obtain ⟨F₂,μ₂,X₂,g₂,st₂,oa₂,q,r₂⟩:=z2_;exact ⟨F₂,μ₂,X₂,g₂,st₂,oa₂,q,r₂⟩
theorem RepL.reverse:∀ {xs:List PV} {vs:List Value},RepL B F μ vs xs→RepL B F μ vs.reverse xs.reverse
 | [],_,rfl=>rfl
 | x :: xs,_,⟨v,vs,rfl,a,b⟩=>by
  rw [List.reverse_cons,List.reverse_cons]
  exact (RepL.reverse b).push a
theorem okTn_e {l:List (Nat × Nat)} (h:okTn c l=true):(∀ p ∈ l,isL c p.2=true)∧(l.map (·.2)).Nodup:=⟨List.all_eq_true.mp (and_l h),of_decide_eq_true (and_r h)⟩
theorem grown_ext {h h':Heap} (e:Heap.ExtBut h.objs.size h h'):Le h h':=fun b o q=>e b o (Nat.ne_of_lt (Heap.lt_size q)) q
theorem each_tn (l:List (Nat × Nat)) (env:Env):assignEach (tn c l) env=l.map fun p=>(false,assign (.Name (c.nm p.2) (c.P p.1)) env):=by
 induction l with
 | nil=>rfl
 | cons p l ih=>exact congrArg (_ :: ·) ih
theorem tuple_store {v:Value} {l:List (Nat × Nat)} {pos:Pos} {xs:List PV} {Q:St→Prop} (ok:okTn c l=true) (lv:Lv A D) (hw:w.sc=c.ns) (r:SR B w F μ st s.heap) (ha:Rep B F μ v (.tup xs)) (h:tpl l xs st.r fun r=>Q ⟨r,st.s⟩) :
  wpX (model prg B.w) A (assign (.Tuple (tn c l) 0 pos) w.env v) (Pst w.n₀ F μ s (GS B w Q)) s:=by
 obtain ⟨p,rfl,items,⟨m,e1⟩,e2,_⟩:=ha
 obtain ⟨h1,h2⟩:=tpl_e h
 have ht:s.heap.IsTuple p items:=⟨_,r.ss.sub _ _ e1,rfl,_,rfl⟩
 have hl:=e2.length
 rw [Array.length_toList] at hl
 rw [arm_assign_Tuple]
 refine Xb_ (Xt_ ?_)
 unfold unpack
 have n1:(assignEach (tn c l) w.env).findIdx? (·.1)=none:=by rw [each_tn,List.findIdx?_eq_none_iff];intro x hx;obtain ⟨p,_,rfl⟩:=List.mem_map.mp hx;rfl
 have n2:(assignEach (tn c l) w.env).length=items.size:=by rw [each_tn,List.length_map];exact L.q91 h1 hl
 rw [n2,n1,each_tn,List.map_map]
 refine Xb_ (Xh_ (Xa_ (wpAny_unpackItems_tuple lv.hh ht fun h' he=>?_)))
 have g:Grown s { s with heap:=h' }:=⟨grown_ext he,rfl,rfl⟩
 have:=bind_all (c:=c) (A:=A) (s:={ s with heap:=h' }) (l:=l.map fun p=>(p.2,fun env=>assign (.Name (c.nm p.2) (c.P p.1)) env)) (Q:=Q) (fun q hq=>by
  obtain ⟨p,hp,rfl⟩:=List.mem_map.mp hq
  exact ⟨(okTn_e ok).1 p hp,fun env v Q s h=>by show wpX _ _ (assign (.Name (c.nm p.2) (c.P p.1)) env v) Q s;rw [PySem.assign_Name];exact Xb_ (Xt_ h)⟩) hw (r.grown g) e2 (by rw [List.length_map];exact h1) (by rw [List.map_map];exact h2)
 rw [List.map_map] at this
 exact p_grown g this
end
end
section
section
variable {B:Bs} {C:Orc} {D:Nat} {A:Around} {w:Wh} {F F₁:Heap} {μ μ₁:List Addr} {s s₁:Shared} {st:St} {c:Cx} {n₀:Nat} {M:Model}
theorem fm_le {α γ:Type} (f:α→Option γ):∀ l:List α,(l.filterMap f).length≤l.length:=fun l=>List.length_filterMap_le f l
theorem namesOf {f:Expr→Option Str} (hf:∀ id p,f (.Name id p)=some id ∨ f (.Name id p)=none):∀ (l:List (Nat × Nat)),((tn c l).filterMap f).length=l.length→(tn c l).filterMap f=l.map fun p=>c.nm p.2
 | [],_=>rfl
 | p :: l,hl=>by
  have hl:(List.filterMap f (.Name (c.nm p.2) (c.P p.1) :: tn c l)).length=l.length+1:=hl
  show List.filterMap f (.Name (c.nm p.2) (c.P p.1) :: tn c l)=c.nm p.2 :: _
  have le:=fm_le f (tn c l)
  have lz:(tn c l).length=l.length:=List.length_map _
  rw [List.filterMap_cons] at hl ⊢
  rcases hf (c.nm p.2) (c.P p.1) with e | e
  ·rw [e] at hl ⊢
   exact congrArg (_ :: ·) (namesOf hf l (Nat.succ.inj hl))
  ·rw [e] at hl
   have hl:((tn c l).filterMap f).length=l.length+1:=hl
   exact (L.q534 (by assumption) le lz).elim
set_option tactic.hygienic true in
theorem swapped_tuple {l:List (Nat × Nat)} {E:Expr} {p:Pos} {env:Env} (h:(match E with | .Tuple vs _ _=>!(vs.all (constantsAlone 8)) || vs.all (foldedForSure 8) | _=>true)=true) :
  swappedStores [.Tuple (tn c l) 0 p] E env=pure none ∨ swappedStores [.Tuple (tn c l) 0 p] E env=pure (some (l.map fun p=>c.nm p.2)):=by
 induction E using Expr.casesOn <;> try exact .inl rfl
 rename_i vs k' p'
 unfold swappedStores
 dsimp only
 split
 ·exact .inl rfl
 ·split
  ·exact .inl rfl
  ·split
   ·exact .inl rfl
   ·rename_i hn
    split
    ·exact .inl rfl
    ·rename_i hf
     split
     ·rename_i hc
      exfalso
      replace h:(!(vs.all (constantsAlone 8)) || vs.all (foldedForSure 8))=true:=h
      rw [hc] at h
      exact hf h
     ·refine .inr (congrArg _ (congrArg _ (namesOf (fun id p=>?_) l ?_)))
      ·dsimp only
       split
       ·exact .inl rfl
       ·exact .inr rfl
      ·simp only [Bool.or_eq_true,bne_iff_ne,ne_eq,not_or,Decidable.not_not] at hn
       exact hn.1.trans (List.length_map _)
theorem zip_rev {α γ:Type}:∀ {as:List α} {bs:List γ},as.length=bs.length→as.reverse.zip bs.reverse=(as.zip bs).reverse
 | [],[],_=>rfl
 | [],_ :: _,h=>nomatch h
 | _ :: _,[],h=>nomatch h
 | a :: as,b :: bs,h=>by
  have h:=Nat.succ.inj h
  rw [List.reverse_cons,List.reverse_cons,List.zip_append (by rw [List.length_reverse,List.length_reverse];exact h),zip_rev h]
  exact (List.reverse_cons ..).symm
theorem st_asgT {n:Nat} {l:List (Nat × Nat)} {e:CE} (he:SE B C D e):SSt B C D (.asgT n l e):=fun c ok st K h A w F μ s lv hw r=>by
 have ok1:=and_l ok
 obtain ⟨i1,i2⟩:=okTn_e (and_l ok1)
 show wpX _ _ (exec (.Assign [.Tuple (tn c l) 0 (c.P (n+1))] (toE c e) (c.P n)) w.env) _ s
 rcases swapped_tuple (p:=c.P (n+1)) (env:=w.env) (and_r (and_r ok1)) with hs | hs
 ·refine s_store he (and_r ok) (and_l (and_r ok1)) h lv hw r hs (fun _=>rfl) fun F₁ μ₁ v s₁ x st₁ h₁ r₁ p₁=>?_
  replace h₁:=asT_e h₁;obtain ⟨xs,rfl,h₁⟩:=h₁
  exact tuple_store (and_l ok1) lv hw r₁ p₁ h₁
 ·rw [arm_exec_Assign]
  refine Xb_ (Xt_ (Xb_ (X_of_eq (show swapsWithSole [_] (toE c e) (c.P n).line w.env=pure false from plain_swap (and_l (and_r ok1)) c (some (.Tuple (tn c l) 0 (c.P (n+1)))) (c.P n).line w.env) (X_if_false rfl ?_))))
  refine pE (he c (and_r ok) _ _ h A w F μ s lv hw r) fun F₁ μ₁ v s₁ x st₁ X₁ h₁ r₁ p₁=>Xb_ (X_of_eq hs ?_)
  replace h₁:=asT_e h₁;obtain ⟨xs,rfl,h₁⟩:=h₁
  obtain ⟨h1,h2⟩:=tpl_e h₁
  obtain ⟨p,rfl,items,⟨m,e1⟩,e2,_⟩:=p₁
  have ht:s₁.heap.IsTuple p items:=⟨_,r₁.ss.sub _ _ e1,rfl,_,rfl⟩
  have hl:=e2.length
  rw [Array.length_toList] at hl
  have go:∀ (ns:List Str) (sts:List (Value→Sem Unit)) (Q:Flow→Shared→Prop),wpX (model prg B.w) A (unpackItems (.ref p) ns.length none >>= fun items=>assignInOrder (ns.reverse.map fun n=>bindName w.env n) items.reverse >>= fun _=>pure Flow.next) Q s₁→wpX (model prg B.w) A (assignStores w.env (.ref p) (some ns) sts) Q s₁:=fun ns sts Q h=>Xb_ (X_rule h)
  refine go _ _ _ ?_
  rw [List.length_map,h1,← hl]
  refine Xb_ (Xa_ (wpAny_unpackItems_tuple lv.hh ht fun h' he=>?_))
  have g:Grown s₁ { s₁ with heap:=h' }:=⟨grown_ext he,rfl,rfl⟩
  have nd:(((l.map (·.2)).zip xs).map (·.1)).Nodup:=by rw [List.map_fst_zip (by rw [List.length_map];exact L.q92 h1)];exact i2
  have B1:=bind_all (c:=c) (A:=A) (s:={ s₁ with heap:=h' }) (l:=l.reverse.map fun p=>(p.2,fun env=>bindName env (c.nm p.2))) (Q:=fun st=>K .next st) (fun q hq=>by
   obtain ⟨p,hp,rfl⟩:=List.mem_map.mp hq
   exact ⟨i1 p (List.mem_reverse.mp hp),fun _ _ _ _ h=>h⟩) hw (r₁.grown g) e2.reverse (by rw [List.length_map,List.length_reverse,List.length_reverse];exact h1) (by
    have:(List.map (fun x=>x.1) (l.reverse.map fun p=>(p.2,fun env=>bindName env (c.nm p.2)))).zip xs.reverse=((l.map (·.2)).zip xs).reverse:=by
     rw [List.map_map]
     show (l.reverse.map fun p=>p.2).zip xs.reverse=_
     rw [List.map_reverse]
     exact zip_rev (by rw [List.length_map];exact h1)
    rw [this,setS_rev nd];exact h2)
  rw [List.map_map] at B1
  rw [← List.map_reverse,List.map_map]
  exact p_grown g (p_next B1)
theorem st_ex {n:Nat} {e:CE} (he:SE B C D e):SSt B C D (.ex n e):=fun c ok st K h A w F μ s lv hw r=>by
 have hin:interactive w.env=false:=by unfold interactive;rw [r.fr.sc.kind];rfl
 show wpX _ _ (exec (.Expr (toE c e) (c.P n)) w.env) _ s
 rw [exec_Expr _ _ _ hin (plain_swap (and_l ok) c _ _ _)]
 exact Xb_ (Xt_ (pE (he c (and_r ok) _ _ h A w F μ s lv hw r) fun F₁ μ₁ v s₁ x st₁ X₁ h₁ r₁ p₁=>Xa_ (wpAny_dropValue (p_flow r₁ h₁ rfl))))
theorem isLs_e {x:PV} {P:Prop} {a:Addr} {h:Heap} (k:isLs x P) (cn:Con B F μ h a x):P∧∃ o,h.get? a=some o∧o.cls=.type "list" ∧ o.dict=none:=by
 induction x using PV.casesOn <;> try exact k.elim
 ·obtain ⟨i,⟨m,q⟩,_⟩:=cn;exact ⟨k,_,q,rfl,rfl⟩
 ·obtain ⟨i,⟨m,q⟩,_⟩:=cn;exact ⟨k,_,q,rfl,rfl⟩
theorem st_app {n:Nat} {p:CP} {e:CE} (hp:SP B C D p) (he:SE B C D e):SSt B C D (.app n p e):=fun c ok st K h A w F μ s lv hw r=>by
 have hin:interactive w.env=false:=by unfold interactive;rw [r.fr.sc.kind];rfl
 show wpX _ _ (exec (.Expr (.Call (.Attribute (toP c p) "append" (c.P (n+2))) [toE c e] [] (c.P (n+1))) (c.P n)) w.env) _ s
 replace h:wP C p st fun p st=>plG p st fun x=>isLs x (wE C e st fun y st=>plG p st fun x=>appW x y fun z=>K .next (plP p z st)):=h
 rw [exec_Expr _ _ _ hin rfl,arm_eval_Call,attributeBase_plain (and_l (and_l ok))]
 refine Xb_ (Xt_ (Xs_ (p_bind (hp c (and_l (and_r ok)) _ _ h A w F μ s lv hw r) fun F₁ μ₁ v s₁ X₁ z1_=>?_)))
 obtain ⟨q,st₁,h₁,r₁,p₁⟩:=z1_
 refine Xs_ (Xb_ (Xt_ ?_))
 obtain ⟨y,h₁,a,rfl,cn,_,_⟩:=pl_con r₁ p₁ h₁
 obtain ⟨h₁,o,o1,o2,o3⟩:=isLs_e h₁ cn
 refine Xb_ (X_method (args:=backTo (c.P (n+1)) (starEach [toE c e] w.env)) ?_ (show 1 < 20 by decide) (and_r (and_l ok)) PySem.F.plainAttrs_list slot_list_append type_list_append ⟨o,o1,o2⟩ (fun b hb=>by cases hb;exact ⟨o,o1,o3⟩) (X_callWith (args:=backTo (c.P (n+1)) (starEach [toE c e] w.env)) ?_ ?_))
 ·rw [starEach_cons];rfl
 ·rw [starEach_cons];rfl
 ·rw [starEach_cons]
  refine Xb_ (Xm_ (he c (and_r (and_r ok)) _ _ h₁ A w F₁ μ₁ s₁ lv hw r₁) fun u s₂ z2_=>?_)
  obtain ⟨F₂,μ₂,X₂,g₂,x,st₂,h₂,r₂,p₂⟩:=z2_
  refine Xb_ (Xp_ (Xb_ (Xh_ (Xp_ (Xp_ ⟨kp_b _ _,?_⟩)))))
  obtain ⟨y,h₂,a',e',cn,_,put⟩:=pl_con r₂ (p₁.mono X₂.pre) h₂
  obtain rfl:=Value.ref.inj e'
  refine app_ok cn p₂ h₂ fun z h' k hs c'=>Xa_ (wpAny_dropValue ?_)
  obtain ⟨X₃,r₃⟩:=put h' z hs c'
  exact ⟨F₂,μ₂,X₂.trans X₃,g₂,_,_,w.oa,k,r₃,rfl⟩
theorem st_asgA (wo:WOk B) {n j:Nat} {o e:CE} (ho:SE B C D o) (he:SE B C D e):SSt B C D (.asgA n o j e):=fun c ok st K h A w F μ s lv hw r =>
 s_store he (and_r (and_r ok)) (and_l ok) h lv hw r rfl (fun _=>rfl) fun F₁ μ₁ v s₁ x st₁ h₁ r₁ p₁=>by
  rw [arm_assign_Attribute]
  refine pE (Xh_ (ho c (and_l (and_r ok)) _ _ h₁ A w F₁ μ₁ s₁ lv hw r₁)) fun F₂ μ₂ ov s₂ y st₂ X₂ h₂ r₂ p₂=>Xb_ (Xt_ ?_)
  induction y using PV.casesOn <;> try exact h₂.elim
  obtain ⟨z,hz,h₂⟩:=gs_e h₂
  induction z using PV.casesOn <;> try exact h₂.elim
  obtain ⟨hj,h₂⟩:=lt_e h₂
  obtain ⟨hb,h₂⟩:=bd_e h₂
  exact p_bind (Xh_ (setAttr_ok (wo.cls _) wo.KX r₂ p₂ hz hj hb (p₁.mono X₂.fm X₂.pre) h₂)) fun F₃ μ₃ _ s₃ X₃ g=>X_release (.grown (.refl _) g)
theorem st_asgI {n:Nat} {p:CP} {i e:CE} (hp:SP B C D p) (hi:SE B C D i) (he:SE B C D e):SSt B C D (.asgI n p i e):=fun c ok st K h A w F μ s lv hw r =>
 s_store he (and_r (and_r (and_r ok))) (and_l ok) h lv hw r rfl (fun _=>rfl) fun F₁ μ₁ v s₁ x st₁ h₁ r₁ p₁=>by
  rw [arm_assign_Subscript]
  refine p_bind (Xh_ (hp c (and_l (and_r ok)) _ _ h₁ A w F₁ μ₁ s₁ lv hw r₁)) fun F₂ μ₂ ov s₂ X₂ z1_=>?_
  obtain ⟨q,st₂,h₂,r₂,p₂⟩:=z1_
  refine pE (Xh_ (hi c (and_l (and_r (and_r ok))) _ _ h₂ A w F₂ μ₂ s₂ lv hw r₂)) fun F₃ μ₃ iv s₃ y st₃ X₃ h₃ r₃ p₃=>Xb_ (Xt_ ?_)
  obtain ⟨z,h₃,a,rfl,cn,_,put⟩:=pl_con r₃ (p₂.mono X₃.pre) h₃
  refine Xb_ (Xh_ (store_ok lv r₃.ss.sub cn p₃ (p₁.mono (X₂.trans X₃).fm (X₂.trans X₃).pre) h₃ fun z h' tk k hs c'=>?_))
  obtain ⟨X₄,r₄⟩:=put h' z hs c'
  exact X_release ⟨F₃,μ₃,X₄,⟨rfl,rfl⟩,_,w.oa,k,r₄⟩
theorem st_asgK {n j:Nat} {p:CP} {e:CE} (hp:SP B C D p) (he:SE B C D e):SSt B C D (.asgK n p j e):=fun c ok st K h A w F μ s lv hw r =>
 s_store he (and_r (and_r ok)) (and_l ok) h lv hw r rfl (fun _=>rfl) fun F₁ μ₁ v s₁ x st₁ h₁ r₁ p₁=>by
  rw [arm_assign_Subscript]
  refine p_bind (Xh_ (hp c (and_l (and_r ok)) _ _ h₁ A w F₁ μ₁ s₁ lv hw r₁)) fun F₂ μ₂ ov s₂ X₂ z2_=>?_
  obtain ⟨q,st₂,h₂,r₂,p₂⟩:=z2_
  refine Xb_ (Xh_ (Xa_ (const_str (p_grown (.toks s₂ _) (Xb_ (Xt_ ?_))))))
  obtain ⟨z,h₃,a,rfl,cn,_,put⟩:=pl_con (s:={ s₂ with toks:=s₂.toks+1 }) (r₂.grown (.toks s₂ _)) p₂ h₂
  induction z using PV.casesOn <;> try exact h₃.elim
  obtain ⟨hj,h₃⟩:=lt_e h₃
  obtain ⟨hb,h₃⟩:=bd_e h₃
  refine Xb_ (Xh_ (storeK_ok cn (p₁.mono X₂.fm X₂.pre) hj hb fun h' tk hs c'=>?_))
  obtain ⟨X₄,r₄⟩:=put h' _ hs c'
  exact X_release ⟨F₂,μ₂,X₄,⟨rfl,rfl⟩,_,w.oa,h₃,r₄⟩
theorem ints_put {vs ws:List Value} {xs ys:List Int} (a b:Nat) (h:IntsAre vs xs) (h':IntsAre ws ys):IntsAre (vs.take a ++ ws ++ vs.drop b) (xs.take a ++ ys ++ xs.drop b) :=
 IntsAre.append (IntsAre.append (ints_slc h none (some a)) h') (ints_slc h (some b) none)
theorem putL_len {α:Type} (l m:List α) (a b:Nat) (h:a≤b) (h2:b≤l.length):(putL l a b m).length=l.length - (b - a)+m.length:=by
 unfold putL
 rw [List.length_append,List.length_append,List.length_take,List.length_drop];exact L.q93 h h2
set_option tactic.hygienic true in
theorem st_asgS {n:Nat} {p:CP} {lo hi e:CE} (hp:SP B C D p) (hlo:SE B C D lo) (hhi:SE B C D hi) (he:SE B C D e):SSt B C D (.asgS n p lo hi e):=fun c ok st K h A w F μ s lv hw r =>
 s_store he (and_r (and_r (and_r (and_r ok)))) (and_l ok) h lv hw r rfl (fun _=>rfl) fun F₁ μ₁ v s₁ x st₁ h₁ r₁ p₁=>by
  rw [arm_assign_Subscript]
  refine p_bind (Xh_ (hp c (and_l (and_r ok)) _ _ h₁ A w F₁ μ₁ s₁ lv hw r₁)) fun F₂ μ₂ ov s₂ X₂ z3_=>?_
  obtain ⟨q,st₂,h₂,r₂,p₂⟩:=z3_
  refine Xo_ (Xs_ (pE (hlo c (and_l (and_r (and_r ok))) _ _ h₂ A w F₂ μ₂ s₂ lv hw r₂) fun F₃ μ₃ kl s₃ y st₃ X₃ h₃ r₃ p₃=>Xs_ (Xo_ (pE (hhi c (and_l (and_r (and_r (and_r ok)))) _ _ h₃ A w F₃ μ₃ s₃ lv hw r₃) fun F₄ μ₄ kh s₄ z st₄ X₄ h₄ r₄ p₄=>?_))))
  refine Xs_ (Xo_ (Xb_ (Xp_ (Xb_ (Xa_ (wpAny_newObj_type (Xb_ (Xt_ ?_)) (by size_fits)))))))
  refine gG fun G kG=>?_
  have g1:=Grown.push s₄ { cls:=.type "slice",data:=.fields #[kl,kh,.none] }
  obtain ⟨u,h₅,a,rfl,cn,hfree,put⟩:=pl_con (s:={ s₄ with heap:=s₄.heap.push { cls:=.type "slice",data:=.fields #[kl,kh,.none] } }) (r₄.grown g1) (p₂.mono (X₃.trans X₄).pre) h₄
  have hs:=Heap.IsSliceOf.new s₄.heap kl kh .none
  replace h₅:=asI_e h₅;obtain ⟨i,rfl,h₅⟩:=h₅
  replace h₅:=asI_e h₅;obtain ⟨j,rfl,h₅⟩:=h₅
  obtain ⟨t,rfl⟩:=p₃
  obtain ⟨t',rfl⟩:=p₄
  have pv:=p₁.mono ((X₂.trans X₃).trans X₄).fm ((X₂.trans X₃).trans X₄).pre
  induction u using PV.casesOn <;> try exact h₅.elim
  case il l =>
   rcases x with _ | _ | _ | _ | _ | _ | _ | m | _ | _ | _ | _ | _ | _ | _ | _ | _ | _ | _ | _ <;> try exact h₅.elim
   obtain ⟨⟨⟨k1,k2⟩,k3,k4,k5⟩,h₅⟩:=gd_e h₅
   obtain ⟨i,rfl⟩:=Int.eq_ofNat_of_zero_le k1
   obtain ⟨j,rfl⟩:=Int.eq_ofNat_of_zero_le (Int.le_trans k1 k2)
   obtain ⟨items,⟨m',c1⟩,c2,c3⟩:=cn
   obtain ⟨pn,rfl,items',⟨m₂,e1⟩,e2,_⟩:=pv
   have l1:=IntsAre.length c2
   have l2:=IntsAre.length e2
   rw [Array.length_toList] at l1 l2
   have hne:pn ≠ a:=fun e=>by
    subst e
    exact nomatch hfree.symm.trans e1
   refine kG (Xb_ (Xh_ (Xa_ (setItem_list_slice c1 (Heap.get?_push_of_some _ (r₄.ss.sub _ _ e1)) hne hs (.int i t) (.int j t') (L.q94 k2) (L.q95 k3 l1) (L.q96 k4 l1) (L.q97 k5 l2) fun h' xs m' hx hxs hsb=>?_))))
   obtain ⟨X₅,r₅⟩:=put h' (.il (putL l i j m)) hsb ⟨xs,⟨_,hx⟩,by rw [hxs];exact ints_put i (max i j) c2 e2,by rw [putL_len _ _ _ _ (L.q94 k2) (L.q94 k3)];exact L.q98 k4 k5⟩
   exact X_release ⟨F₄,μ₄,(g1.ext (n:=w.n₀)).trans X₅,⟨rfl,rfl⟩,_,w.oa,h₅,r₅⟩
  case ba l =>
   replace h₅:=asY_e h₅;obtain ⟨m,rfl,h₅⟩:=h₅
   replace h₅:=gd_e h₅;obtain ⟨⟨⟨k1,k2⟩,k3,k4⟩,h₅⟩:=h₅
   obtain ⟨i,rfl⟩:=Int.eq_ofNat_of_zero_le k1
   obtain ⟨j,rfl⟩:=Int.eq_ofNat_of_zero_le (Int.le_trans k1 k2)
   obtain ⟨arr,c1,rfl,c3⟩:=cn
   obtain ⟨arr',t'',rfl,rfl,_⟩:=pv
   rw [bts_len] at k3 c3 k4
   refine kG (Xb_ (Xh_ (setItem_ba (B:=B) c1 hs (.int i t) (.int j t') (L.q94 k2) (L.q94 k3) c3 (L.q99 k2 k4) fun h₁ h' arr₂ hle hx hxs hsb=>?_)))
   have g2:Grown { s₄ with heap:=s₄.heap.push { cls:=.type "slice",data:=.fields #[.int i t,.int j t',.none] } } { s₄ with heap:=h₁ }:=⟨hle,rfl,rfl⟩
   obtain ⟨u,h₆,a₂,e,c',_,put'⟩:=pl_con (s:={ s₄ with heap:=h₁ }) ((r₄.grown g1).grown g2) (p₂.mono (X₃.trans X₄).pre) h₄
   obtain rfl:=Value.ref.inj e
   have e3:bts arr₂=putL (bts arr) i j (bts arr'):=by
    unfold bts putL
    rw [hxs,List.map_append,List.map_append,List.map_take,List.map_drop]
   obtain ⟨X₅,r₅⟩:=put' h' (.ba (putL (bts arr) i j (bts arr'))) hsb ⟨arr₂,hx,e3,by rw [putL_len _ _ _ _ (L.q94 k2) (by rw [bts_len];exact L.q94 k3),bts_len,bts_len];exact L.q100 k3 c3 k4⟩
   exact X_release ⟨F₄,μ₄,((g1.trans g2).ext (n:=w.n₀)).trans X₅,⟨rfl,rfl⟩,_,w.oa,h₅,r₅⟩
end
end
section
section
variable {B:Bs} {C:Orc} {D:Nat} {A:Around} {w:Wh} {F F₁:Heap} {μ μ₁:List Addr} {s s₁:Shared} {st:St} {c:Cx} {n₀:Nat} {M:Model}
theorem noI_bytes_add:typeLookup (.type "bytes") (dunderI "add")=pure none:=by rw [typeLookup_type,builtinLookup_eq_fast];kernel_rfl
theorem iadd_bytes {b c:Array UInt8} {t u:Tok} {Q:Value→Shared→Prop} {E:Value→Shared→Prop} (hsz:b.size+c.size≤16777216) (h:∀ t' k,Q (.bytes (b ++ c) t') { s with toks:=k }) :
  wpAny (model prg B.w) A (inplaceOp .Add (.bytes b t) (.bytes c u)) Q E s:=by
 refine iconcat_gives (typeIs_bytes s b t) (typeIs_bytes s c u) noI_bytes_add KBy.noFill_bytes_add KBy.seq_bytes_add FB.slot_bytes_add FB.entry_bytes_add (FB.args_bytes_add_2 _ _) (KBy.gives_bytes_add (KBy.tooLong_not hsz)) ?_
 by_cases hb:b.isEmpty=true
 ·rw [if_pos hb]
  have e:b=#[]:=Array.isEmpty_iff.1 hb
  have h':=h u s.toks
  rw [e,Array.empty_append] at h'
  exact h'
 ·rw [if_neg hb]
  by_cases hc:c.isEmpty=true
  ·rw [if_pos hc]
   have e:c=#[]:=Array.isEmpty_iff.1 hc
   have h':=h t s.toks
   rw [e,Array.append_empty] at h'
   exact h'
  ·rw [if_neg hc]
   exact ⟨by rw [Array.size_append,sizeLine_eq];exact hsz,h s.toks (s.toks+1)⟩
set_option tactic.hygienic true in
theorem st_aug {n i:Nat} {e:CE} (he:SE B C D e):SSt B C D (.aug n i e):=fun c ok st K h A w F μ s lv hw r=>by
 obtain ⟨x,k,hi,hk⟩:=isL_e (and_l ok)
 show wpX _ _ (exec (.AugAssign (.Name (c.nm i) (c.P (n+1))) .Add (toE c e) (c.P n)) w.env) _ s
 rw [nm_at hi,arm_exec_AugAssign]
 refine Xb_ (Xt_ ?_)
 have h:(match nth st.r i with | some (.v x)=>wE C e st fun y st=>augW x y fun z=>K .next ⟨st1 st.r i (.v z),st.s⟩ | _=>False):=h
 cases hy:nth st.r i with
 | none=>rw [hy] at h;exact h.elim
 | some y =>
  rw [hy] at h
  induction y using LV.casesOn <;> try exact h.elim
  rename_i y
  have hi':nth w.sc i=some (x,k):=hw ▸ hi
  have ld:∀ Q:Value→Shared→Prop,(∀ v,Rep B F μ v y→Q v s)→wpX (model prg B.w) A (loadName w.env x) Q s:=fun Q q=>by
   obtain ⟨m,hn,hm⟩:=r.fr.ns
   obtain ⟨x',k',v,a,b,d⟩:=hm i _ hy
   obtain ⟨rfl,rfl⟩:=Prod.mk.inj (Option.some.inj (hi'.symm.trans a))
   rcases d with ⟨rfl,d⟩ | ⟨h1,c,h2,h3⟩
   ·exact Xa_ (wpAny_loadName_local r.fr.sc.kind (r.fr.sc.kindOf a) hn d (q v b))
   ·rcases hk with rfl | rfl
    ·exact h1.elim (fun e=>nomatch e) fun e=>nomatch e
    ·exact Xa_ (wpAny_loadName_cell r.fr.sc.kind (r.fr.sc.kindOf a) h2 h3 (q v b))
  refine Xb_ (ld _ fun v pv=>pE (Xh_ (he c (and_r ok) _ _ h A w F μ s lv hw r)) fun F₁ μ₁ u s₁ z st₁ X₁ h₁ r₁ pu=>Xb_ (Xt_ ?_))
  have pv:=pv.mono X₁.fm X₁.pre
  have fin {v':Value} {z:PV} {k₁:Nat} (hv:Rep B F₁ μ₁ v' z) (kk:K .next ⟨st1 st₁.r i (.v z),st₁.s⟩):wpX (model prg B.w) A (do standAt (c.P (n+1));bindName w.env x v';pure Flow.next) (Pst w.n₀ F₁ μ₁ s₁ (GF B w K)) { s₁ with toks:=k₁ } :=
   p_grown (.toks s₁ k₁) (Xb_ (Xt_ (p_next (X_bindName (store_v (r₁.grown (.toks s₁ k₁)) hv hi' hk kk)))))
  rcases y with _ | _ | a | _ | a | _ | _ | _ | _ | _ | _ | _ | _ | _ | _ | _ | _ | _ | _ | _ <;> try exact h₁.elim
  ·
   replace h₁:=asI_e h₁;obtain ⟨b,rfl,h₁⟩:=h₁
   obtain ⟨t,rfl⟩:=pv
   obtain ⟨t',rfl⟩:=pu
   exact Xb_ (X_operate (Xa_ (PySem.P.iadd_int (fin (z:=.int (a+b)) ⟨_,rfl⟩ h₁))))
  ·
   replace h₁:=asY_e h₁;obtain ⟨b,rfl,h₁⟩:=h₁
   obtain ⟨hg,h₁⟩:=gd_e h₁
   obtain ⟨arr,t,rfl,rfl,z1⟩:=pv
   obtain ⟨arr',t',rfl,rfl,z2⟩:=pu
   rw [bts_len,bts_len] at hg
   exact Xb_ (X_operate (Xa_ (iadd_bytes (L.q101 hg) fun t'' k=>fin (z:=.bytes (bts arr ++ bts arr')) ⟨_,_,rfl,by unfold bts;rw [Array.toList_append,List.map_append],by rw [List.length_append,bts_len,bts_len];exact hg⟩ h₁)))
theorem st_ite {n:Nat} {t:CT} {a b:CB} (ht:ST B C D t) (ha:SBk B C D a) (hb:SBk B C D b):SSt B C D (.ite n t a b):=fun c ok st K h A w F μ s lv hw r=>by
 show wpX _ _ (exec (.If (toT c t) (toB c a) (toB c b) (c.P n)) w.env) _ s
 rw [arm_exec_If]
 refine Xb_ (Xt_ (pB (ht c (and_l ok) _ _ h A w F μ s lv hw r) fun F₁ μ₁ v s₁ st₁ X₁ h₁ r₁=>?_))
 cases v
 ·exact hb c (and_r (and_r ok)) _ _ ((br_e h₁).2 rfl) A w F₁ μ₁ s₁ lv hw r₁
 ·exact ha c (and_l (and_r ok)) _ _ ((br_e h₁).1 rfl) A w F₁ μ₁ s₁ lv hw r₁
theorem st_ret {n:Nat} {e:CE} (he:SE B C D e):SSt B C D (.ret n e):=fun c ok st K h A w F μ s lv hw r =>
 Xb_ (Xt_ (pE (he c ok _ _ h A w F μ s lv hw r) fun F₁ μ₁ v s₁ x st₁ X₁ h₁ r₁ p₁=>Xp_ (p_flow r₁ h₁ ⟨v,rfl,p₁⟩)))
theorem st_ret0 {n:Nat}:SSt B C D (.ret0 n):=fun c ok st K h A w F μ s lv hw r=>Xb_ (Xt_ (Xp_ (p_flow r h ⟨_,rfl,rfl⟩)))
theorem st_brk {n:Nat}:SSt B C D (.brk n):=fun c ok st K h A w F μ s lv hw r=>Xb_ (Xt_ (Xp_ (p_flow r h rfl)))
theorem st_stuck {n:Nat}:SSt B C D (.stuck n):=fun c ok st K h A w F μ s lv hw r=>(show False from h).elim
theorem b_nil:SBk B C D .nil:=fun c ok st K h A w F μ s lv hw r=>Xp_ (p_flow r h rfl)
theorem GF.at {oa:Nat→Addr} {K:Fl→St→Prop} {f:Flow} {h:Heap} (g:GF B (w.at oa) K F μ f h):GF B w K F μ f h:=by obtain ⟨fl,st,oa',a,b,c⟩:=g;exact ⟨fl,st,oa',a,b,c⟩
theorem Pst.at {oa:Nat→Addr} {K:Fl→St→Prop} {f:Flow} {s':Shared} (g:Pst n₀ F μ s (GF B (w.at oa) K) f s'):Pst n₀ F μ s (GF B w K) f s':=by obtain ⟨F',μ',X,g,k⟩:=g;exact ⟨F',μ',X,g,k.at⟩
theorem b_cons {x:CS} {b:CB} (hx:SSt B C D x) (hb:SBk B C D b):SBk B C D (.cons x b):=fun c ok st K h A w F μ s lv hw r=>by
 show wpX _ _ (execs (toS c x :: toB c b) w.env) _ s
 rw [execs_cons]
 refine p_bind (hx c (and_l ok) _ _ h A w F μ s lv hw r) fun F₁ μ₁ f s₁ X₁ z1_=>?_
 obtain ⟨fl,st₁,oa,k,r₁,hf⟩:=z1_
 cases fl with
 | next =>
  obtain rfl:=hf
  exact Xm_ (hb c (and_r ok) _ _ k A (w.at oa) F₁ μ₁ s₁ lv hw r₁) fun _ _ q=>q.at
 | brk=>obtain rfl:=hf;exact p_pure ⟨.brk,_,_,k,r₁,rfl⟩
 | ret x=>obtain ⟨v,rfl,p⟩:=hf;exact p_pure ⟨.ret x,_,_,k,r₁,v,rfl,p⟩
theorem target_ok {g:CG} {v:Value} {x:PV} {Q:St→Prop} (ok:okG c g=true) (lv:Lv A D) (hw:w.sc=c.ns) (r:SR B w F μ st s.heap) (ha:Rep B F μ v x) (h:wG g x st.r fun r=>Q ⟨r,st.s⟩) :
  wpX (model prg B.w) A (assign (toG c g) w.env v) (Pst w.n₀ F μ s (GS B w Q)) s:=by
 cases g with
 | nm n i =>
  obtain ⟨y,k,hi,hk⟩:=isL_e (show isL c i=true from ok)
  exact X_assign (by rw [nm_at hi];exact store_v r ha (hw ▸ hi) hk h)
 | tup n l =>
  replace h:=asT_e h;obtain ⟨xs,rfl,h⟩:=h
  exact tuple_store ok lv hw r ha h
theorem for_loop {g:CG} {b:CB} (hb:SBk B C D b) (okg:okG c g=true) (okb:okB c b=true) (lv:Lv A D) {it:Value} {F₀:Heap} {μ₀:List Addr} {wr:List Addr} {S:Nat→Heap→Prop} {L:List PV} (I:Itr B A (toG c g) it L F₀ μ₀ wr S) (K:Fl→St→Prop):∀ (l:List PV) (st:St),
  forW (fun y st k=>wG g y st.r fun r=>wB C b ⟨r,st.s⟩ k) l st K→∀ (w:Wh) F μ s i,w.sc=c.ns→SR B w F μ st s.heap→Le F₀ F→Pre μ₀ μ→L.drop i=l→i≤L.length→S i s.heap→(∀ b ∈ wr,Nw w st.r F μ b) →
  codeX (model prg B.w) A (.forLoop (toG c g) it (toB c b) [] w.env) (Pst w.n₀ F μ s (GF B w K)) s:=by
 intro l
 induction l with
 | nil =>
  intro st h w F μ s i hw r f₀ p₀ hL hi hS nw
  refine cX_tree ?_
  rw [Around.under_of_weight rfl]
  show wpX _ A ((forTurn (toG c g) it (toB c b) [] w.env).onRaise (fun x=>do noteFrame x w.env;theTreesLotGoes x)) _ s
  refine X_onRaise ?_
  refine Xb_ (Xt_ ?_)
  have hi:i=L.length:=Nat.le_antisymm hi (List.drop_eq_nil_iff.mp hL)
  subst hi
  refine Xb_ (X_onRaise (Xm_ (I.done w F μ st s f₀ p₀ r nw hS) fun v s₁ z2_=>?_))
  obtain ⟨e,X,r₁,g⟩:=z2_
  subst e
  exact Xp_ ⟨rfl,(fun _ _=>rfl),cX_block (Xp_ ⟨F,μ,X,g,.next,st,w.oa,h,r₁,rfl⟩)⟩
 | cons y l ih =>
  intro st h w F μ s i hw r f₀ p₀ hL hi hS nw
  refine cX_tree ?_
  rw [Around.under_of_weight rfl]
  show wpX _ A ((forTurn (toG c g) it (toB c b) [] w.env).onRaise (fun x=>do noteFrame x w.env;theTreesLotGoes x)) _ s
  refine X_onRaise ?_
  refine Xb_ (Xt_ ?_)
  have hlt:i < L.length:=Nat.lt_of_not_le fun q=>nomatch (List.drop_eq_nil_of_le q).symm.trans hL
  rw [List.drop_eq_getElem_cons hlt] at hL
  obtain ⟨hx,hL⟩:=List.cons.inj hL
  have hx:L[i]?=some y:=by rw [List.getElem?_eq_getElem hlt,hx]
  refine Xb_ (X_onRaise (Xm_ (I.next i y w F μ st s hx f₀ p₀ r nw hS) fun rv s₁ z3_=>?_))
  obtain ⟨v,e,hgo⟩:=z3_
  subst e
  refine Xb_ (Xm_ hgo fun _ s₂ z4_=>?_)
  obtain ⟨F₁,X₁,r₁,g₁,pv,nw₁,hS₁⟩:=z4_
  refine Xb_ (Xm_ (target_ok (w:=w.tmps wr s₂.heap) (Q:=fun st=>wB C b st fun fl st=>match fl with
   | .next=>forW (fun y st k=>wG g y st.r fun r=>wB C b ⟨r,st.s⟩ k) l st K
   | .brk=>K .next st
   | .ret y=>K (.ret y) st) okg lv hw (r₁.tmps nw₁) pv h) fun _ s₃ z5_=>?_)
  obtain ⟨F₂,μ₂,X₂,g₂,st₂,oa,h₂,r₂⟩:=z5_
  refine Xb_ (Xm_ (hb c okb _ _ h₂ A ((w.tmps wr s₂.heap).at oa) F₂ μ₂ s₃ lv hw r₂) fun f s₄ z6_=>?_)
  obtain ⟨F₃,μ₃,X₃,g₃,fl,st₃,oa₃,h₃,r₃,hf⟩:=z6_
  obtain ⟨a1,a2,a3⟩:=SR.untmps (w:=w.at oa₃) (l:=wr) (h₀:=s₂.heap) r₃ (fun b hb=>nw_tm (w:=w) (nw₁ b hb)) (fun b hb=>(nw₁ b hb).2.2.1) (fun b hb=>I.ex _ _ hS₁ b hb)
  have XX:=(X₁.trans X₂).trans X₃
  have gg:s₄.gens=s.gens∧s₄.os=s.os:=⟨g₃.1.trans (g₂.1.trans g₁.1),g₃.2.trans (g₂.2.trans g₁.2)⟩
  have f₃:=f₀.trans XX.fm
  cases fl with
  | next =>
   obtain rfl:=hf
   exact Xp_ ⟨rfl,(fun _ _=>rfl),cX_mono (ih st₃ h₃ (w.at oa₃) F₃ μ₃ s₄ (i+1) hw a1 f₃ (p₀.trans XX.pre) hL hlt (I.frame (i+1) s₂.heap s₄.heap F₃ f₃ a1.ss.sub hS₁ a2) a3) fun f s₅ q=>.bind XX gg q.at⟩
  | brk =>
   obtain rfl:=hf
   exact Xp_ ⟨F₃,μ₃,XX,gg,.next,st₃,oa₃,h₃,a1,rfl⟩
  | ret y =>
   obtain ⟨u,rfl,hu⟩:=hf
   exact Xp_ ⟨F₃,μ₃,XX,gg,.ret y,st₃,oa₃,h₃,a1,u,rfl,hu⟩
theorem st_for {n:Nat} {g:CG} {it:CE} {b:CB} (hit:SE B C D it) (hb:SBk B C D b):SSt B C D (.for_ n g it b):=fun c ok st K h A w F μ s lv hw r=>by
 show wpX _ _ (exec (.For (toG c g) (toE c it) (toB c b) [] (c.P n)) w.env) _ s
 rw [arm_exec_For]
 refine Xb_ (Xt_ (pE (hit c (and_l (and_r ok)) _ _ h A w F μ s lv hw r) fun F₁ μ₁ v s₁ x st₁ X₁ h₁ r₁ p₁=>Xb_ (X_of_eq (folded_plain it c w.env v) (Xb_ (Xt_ ?_)))))
 obtain ⟨l,h₁,hz,hi⟩:=iter_ok lv r₁ p₁ h₁
 refine Xb_ (Xh_ (hi _ fun itv s₂ wr S I hS0 G hle hwr hnd=>?_))
 exact Xm_ (X_runOwn (fun _ _=>rfl) (for_loop hb (and_l ok) (and_r (and_r ok)) lv (I (toG c g)) K l st₁ h₁ w F₁ μ₁ s₂ 0 hw (r₁.grown G) (Le.refl _) (Pre.refl _) rfl (Nat.zero_le _) hS0 fun b hb=>r₁.nw (hwr b hb))) fun f s₃ y=>.bind G.ext ⟨G.gens,G.os⟩ y
set_option tactic.hygienic true in
theorem st_fore (wo:WOk B) {n m i:Nat} {g:CG} {it:CE} {b:CB} (hit:SE B C D it) (hb:SBk B C D b):SSt B C D (.fore n m i g it b):=fun c ok st K h A w F μ s lv hw r=>by
 have ok1:=and_l ok
 have ok2:=and_r ok
 show wpX _ _ (exec (.For (toG c g) (.Call (.Name (c.nm i) (c.P (m+1))) [toE c it] [] (c.P m)) (toB c b) [] (c.P n)) w.env) _ s
 rw [arm_exec_For]
 refine Xb_ (Xt_ (Xb_ (Xb_ (glob_ok wo r hw (and_l ok1) (.inr (wo.bi 8)) ?_))))
 refine X_callWith (args:=backTo (c.P m) (starEach [toE c it] w.env)) (by rw [starEach_cons];rfl) ?_
 rw [starEach_cons]
 refine Xb_ (Xm_ (hit c (and_l (and_r ok2)) _ _ h A w F μ s lv hw r) fun v s₁ z1_=>?_)
 obtain ⟨F₁,μ₁,X₁,g₁,x,st₁,h₁,r₁,p₁⟩:=z1_
 refine Xb_ (Xp_ (Xb_ (Xh_ (Xp_ (Xp_ ⟨kp_bi 8 _,?_⟩)))))
 induction x using PV.casesOn <;> try exact h₁.elim
 rename_i l
 obtain ⟨p,rfl,items,⟨k,e1⟩,e2,_⟩:=p₁
 have q:=r₁.ss.sub _ _ e1
 refine Xa_ (call_enumerate_list ⟨_,q,rfl,_,rfl⟩ fun h' g1 g2 g3 g4=>?_)
 have G:Grown s₁ { s₁ with heap:=h' }:=⟨fun _ _=>g4 _ _,rfl,rfl⟩
 refine Xb_ (X_of_eq rfl (Xb_ (Xt_ ?_)))
 cases g with
 | nm _ _=>exact absurd (and_r ok1) Bool.false_ne_true
 | tup gn gl =>
  refine Xb_ (Xh_ (enum_iter (s:={ s₁ with heap:=h' }) (elts:=tn c gl) (k:=0) (tp:=c.P gn) lv (r₁.grown G) ⟨_,rfl,s₁.heap.objs.size,p,items,k,.none,g1,g2,e1,e2,Nat.ne_of_gt (Nat.lt_succ_self _),r₁.nw (Nat.le_succ _),r₁.nw (Nat.le_refl _)⟩ fun itv wr S I hS0 nw hnd=>?_))
  exact Xm_ (X_runOwn (fun _ _=>rfl) (for_loop (g:=.tup gn gl) hb (and_l ok2) (and_r (and_r ok2)) lv I K _ st₁ h₁ w F₁ μ₁ { s₁ with heap:=h' } 0 hw (r₁.grown G) (Le.refl _) (Pre.refl _) rfl (Nat.zero_le _) hS0 nw)) fun f s₃ y=>.bind X₁ g₁ (.bind G.ext ⟨G.gens,G.os⟩ y)
theorem whl_loop {t:CT} {b:CB} (ht:ST B C D t) (hb:SBk B C D b) (okt:okT c t=true) (okb:okB c b=true) (lv:Lv A D) (K:Fl→St→Prop):∀ (n:Nat) (st:St),
  whlW (fun st k=>wT C t st k) (fun st k=>wB C b st k) n st K→∀ (w:Wh) F μ s,w.sc=c.ns→SR B w F μ st s.heap →
  codeX (model prg B.w) A (.whileLoop (toT c t) (toB c b) [] w.env) (Pst w.n₀ F μ s (GF B w K)) s:=by
 intro n
 induction n with
 | zero=>exact fun st h=>(show False from h).elim
 | succ n ih =>
  intro st h w F μ s hw r
  refine cX_tree ?_
  rw [Around.under_of_weight rfl]
  show wpX _ A ((whileTurn (toT c t) (toB c b) [] w.env).onRaise (fun x=>do noteFrame x w.env;theTreesLotGoes x)) _ s
  refine X_onRaise ?_
  refine Xb_ (Xm_ (ht c okt _ _ h A w F μ s lv hw r) fun v s₁ z7_=>?_)
  obtain ⟨F₁,μ₁,X₁,g₁,st₁,h₁,r₁⟩:=z7_
  cases v
  ·exact X_if_false rfl (Xb_ (Xp_ (Xp_ ⟨F₁,μ₁,X₁,g₁,.next,st₁,w.oa,(br_e h₁).2 rfl,r₁,rfl⟩)))
  ·refine X_if_true rfl (Xb_ (Xm_ (hb c okb _ _ ((br_e h₁).1 rfl) A w F₁ μ₁ s₁ lv hw r₁) fun f s₂ z8_=>?_))
   obtain ⟨F₂,μ₂,X₂,g₂,fl,st₂,oa,h₂,r₂,hf⟩:=z8_
   have XX:=X₁.trans X₂
   have gg:s₂.gens=s.gens∧s₂.os=s.os:=⟨g₂.1.trans g₁.1,g₂.2.trans g₁.2⟩
   cases fl with
   | next =>
    obtain rfl:=hf
    exact Xp_ ⟨rfl,(fun _ _=>rfl),cX_mono (ih st₂ h₂ (w.at oa) F₂ μ₂ s₂ hw r₂) fun f s₅ q=>.bind XX gg q.at⟩
   | brk =>
    obtain rfl:=hf
    exact Xp_ ⟨F₂,μ₂,XX,gg,.next,st₂,oa,h₂,r₂,rfl⟩
   | ret y =>
    obtain ⟨u,rfl,hu⟩:=hf
    exact Xp_ ⟨F₂,μ₂,XX,gg,.ret y,st₂,oa,h₂,r₂,u,rfl,hu⟩
theorem st_whl {n:Nat} {t:CT} {b:CB} (ht:ST B C D t) (hb:SBk B C D b):SSt B C D (.whl n t b):=fun c ok st K h A w F μ s lv hw r=>by
 obtain ⟨k,h⟩:∃ n,whlW (fun st k=>wT C t st k) (fun st k=>wB C b st k) n st K:=h
 show wpX _ _ (exec (.While (toT c t) (toB c b) [] (c.P n)) w.env) _ s
 rw [arm_exec_While]
 exact Xb_ (Xt_ (X_runOwn (fun _ _=>rfl) (whl_loop ht hb (and_l ok) (and_r ok) lv K k st h w F μ s hw r)))
theorem SNu.no {a:CN} (h:isComp a=false):SNu B C D a:=fun c ok hc=>nomatch h.symm.trans hc
theorem allE (wo:WOk B) (hC:OrcOk B D C) (e:CE):SE B C D e :=
 CE.rec (motive_1:=SE B C D) (motive_2:=fun a=>SN B C D a∧SNu B C D a) (motive_3:=SO B C D) (motive_4:=SL B C D) (motive_5:=ST B C D) (motive_6:=STl B C D)
  s_lit s_loc (s_fnv wo) (fun _ _ _ _=>s_bin) (fun _ _ _=>s_tadd) (fun _ _=>s_neg) (fun _ _ _ _=>s_ifx) (fun _ _ _=>s_bl) (fun _ _ _ _=>s_cmp) (fun _ _=>s_tup) (fun _ _ _=>s_tix) (fun _ _ _=>s_item) (fun _ _ _ _=>s_slice) (fun _ _ _=>s_key) (fun _ _ _=>s_attr wo)
  (fun _ _ _ _=>s_call wo hC) (fun _ _ _=>s_callv wo hC) (fun _ _ _ _=>s_new wo hC) (fun _ _ _ _=>s_b1 wo) (fun _ _ _ _ _=>s_mnx wo) (fun _ _ _ _ _=>s_rng3 wo) (fun _ _ _ _=>s_get) (fun _ _ _=>s_pop) (fun _ h=>s_fz h.1) (fun _ h=>s_th h.1)
  (fun _ _ h=>⟨n_lst h,.no rfl⟩) (fun _ _ _ h k=>⟨n_add h k,.no rfl⟩) (fun _ _ _ h k=>⟨n_mul h k,.no rfl⟩) (fun _ _ _ _ h k=>⟨n_step h k,.no rfl⟩) (fun _ _ _ _ _ _ _ _ h k l=>⟨n_comp k h l,nu_comp k h l⟩) (fun _=>⟨n_dict0,.no rfl⟩) (fun _ _ _ h=>⟨n_dictI h,.no rfl⟩) (fun _ _ _ h=>⟨n_dictS h,.no rfl⟩) (fun _ _ _ _ h=>⟨n_b1 wo h,.no rfl⟩)
  o_no (fun _=>o_so) (fun _=>o_te) l_nil (fun _ _=>l_cons) (fun _=>t_val) (fun _ _=>t_nt) (fun _ _ _=>t_bl) (fun _ _ _ _=>t_cmp) (fun _ _ _ _ _ _=>t_cmp2) tl_nil (fun _ _=>tl_cons) e
theorem allN (wo:WOk B) (hC:OrcOk B D C) (e:CN):SN B C D e∧SNu B C D e :=
 CN.rec (motive_1:=SE B C D) (motive_2:=fun a=>SN B C D a∧SNu B C D a) (motive_3:=SO B C D) (motive_4:=SL B C D) (motive_5:=ST B C D) (motive_6:=STl B C D)
  s_lit s_loc (s_fnv wo) (fun _ _ _ _=>s_bin) (fun _ _ _=>s_tadd) (fun _ _=>s_neg) (fun _ _ _ _=>s_ifx) (fun _ _ _=>s_bl) (fun _ _ _ _=>s_cmp) (fun _ _=>s_tup) (fun _ _ _=>s_tix) (fun _ _ _=>s_item) (fun _ _ _ _=>s_slice) (fun _ _ _=>s_key) (fun _ _ _=>s_attr wo)
  (fun _ _ _ _=>s_call wo hC) (fun _ _ _=>s_callv wo hC) (fun _ _ _ _=>s_new wo hC) (fun _ _ _ _=>s_b1 wo) (fun _ _ _ _ _=>s_mnx wo) (fun _ _ _ _ _=>s_rng3 wo) (fun _ _ _ _=>s_get) (fun _ _ _=>s_pop) (fun _ h=>s_fz h.1) (fun _ h=>s_th h.1)
  (fun _ _ h=>⟨n_lst h,.no rfl⟩) (fun _ _ _ h k=>⟨n_add h k,.no rfl⟩) (fun _ _ _ h k=>⟨n_mul h k,.no rfl⟩) (fun _ _ _ _ h k=>⟨n_step h k,.no rfl⟩) (fun _ _ _ _ _ _ _ _ h k l=>⟨n_comp k h l,nu_comp k h l⟩) (fun _=>⟨n_dict0,.no rfl⟩) (fun _ _ _ h=>⟨n_dictI h,.no rfl⟩) (fun _ _ _ h=>⟨n_dictS h,.no rfl⟩) (fun _ _ _ _ h=>⟨n_b1 wo h,.no rfl⟩)
  o_no (fun _=>o_so) (fun _=>o_te) l_nil (fun _ _=>l_cons) (fun _=>t_val) (fun _ _=>t_nt) (fun _ _ _=>t_bl) (fun _ _ _ _=>t_cmp) (fun _ _ _ _ _ _=>t_cmp2) tl_nil (fun _ _=>tl_cons) e
theorem allT (wo:WOk B) (hC:OrcOk B D C) (e:CT):ST B C D e :=
 CT.rec (motive_1:=SE B C D) (motive_2:=fun a=>SN B C D a∧SNu B C D a) (motive_3:=SO B C D) (motive_4:=SL B C D) (motive_5:=ST B C D) (motive_6:=STl B C D)
  s_lit s_loc (s_fnv wo) (fun _ _ _ _=>s_bin) (fun _ _ _=>s_tadd) (fun _ _=>s_neg) (fun _ _ _ _=>s_ifx) (fun _ _ _=>s_bl) (fun _ _ _ _=>s_cmp) (fun _ _=>s_tup) (fun _ _ _=>s_tix) (fun _ _ _=>s_item) (fun _ _ _ _=>s_slice) (fun _ _ _=>s_key) (fun _ _ _=>s_attr wo)
  (fun _ _ _ _=>s_call wo hC) (fun _ _ _=>s_callv wo hC) (fun _ _ _ _=>s_new wo hC) (fun _ _ _ _=>s_b1 wo) (fun _ _ _ _ _=>s_mnx wo) (fun _ _ _ _ _=>s_rng3 wo) (fun _ _ _ _=>s_get) (fun _ _ _=>s_pop) (fun _ h=>s_fz h.1) (fun _ h=>s_th h.1)
  (fun _ _ h=>⟨n_lst h,.no rfl⟩) (fun _ _ _ h k=>⟨n_add h k,.no rfl⟩) (fun _ _ _ h k=>⟨n_mul h k,.no rfl⟩) (fun _ _ _ _ h k=>⟨n_step h k,.no rfl⟩) (fun _ _ _ _ _ _ _ _ h k l=>⟨n_comp k h l,nu_comp k h l⟩) (fun _=>⟨n_dict0,.no rfl⟩) (fun _ _ _ h=>⟨n_dictI h,.no rfl⟩) (fun _ _ _ h=>⟨n_dictS h,.no rfl⟩) (fun _ _ _ _ h=>⟨n_b1 wo h,.no rfl⟩)
  o_no (fun _=>o_so) (fun _=>o_te) l_nil (fun _ _=>l_cons) (fun _=>t_val) (fun _ _=>t_nt) (fun _ _ _=>t_bl) (fun _ _ _ _=>t_cmp) (fun _ _ _ _ _ _=>t_cmp2) tl_nil (fun _ _=>tl_cons) e
theorem allP (wo:WOk B) (hC:OrcOk B D C) (p:CP):SP B C D p:=match p with
 | .own _ _=>p_own
 | .ref e=>p_ref (allE wo hC e)
theorem allB (wo:WOk B) (hC:OrcOk B D C) (b:CB):SBk B C D b :=
 have E:=allE (B:=B) (C:=C) (D:=D) wo hC
 have N:=allN (B:=B) (C:=C) (D:=D) wo hC
 have T:=allT (B:=B) (C:=C) (D:=D) wo hC
 have P:=allP (B:=B) (C:=C) (D:=D) wo hC
 CB.rec (motive_1:=SSt B C D) (motive_2:=SBk B C D)
  (fun _ e=>st_ex (E e)) (fun _ p e=>st_app (P p) (E e)) (fun _ _ e=>st_asg (E e)) (fun _ _ a=>st_asgO (N a).1 (N a).2) (fun _ _ e=>st_asgT (E e)) (fun _ o _ e=>st_asgA wo (E o) (E e)) (fun _ p i e=>st_asgI (P p) (E i) (E e)) (fun _ p _ e=>st_asgK (P p) (E e)) (fun _ p lo hi e=>st_asgS (P p) (E lo) (E hi) (E e))
  (fun _ _ e=>st_aug (E e)) (fun _ t _ _ h k=>st_ite (T t) h k) (fun _ _ it _ h=>st_for (E it) h) (fun _ _ _ _ it _ h=>st_fore wo (E it) h) (fun _ t _ h=>st_whl (T t) h) (fun _ e=>st_ret (E e)) (fun _=>st_ret0) (fun _=>st_brk) (fun _=>st_stuck) b_nil (fun _ _ h k=>b_cons h k) b
end
end
section
noncomputable def iniR:List PV→Nat→List LV
 | _,0=>[]
 | [],k+1=>.un :: iniR [] k
 | x :: l,k+1=>.v x :: iniR l k
def entW (C:Orc) (n m:Nat) (dfl:List PV) (code:CB) (vs σ:List PV) (K:PV→List PV→Prop):Prop:=match Nat.ble vs.length n,Nat.ble n (vs.length+dfl.length) with
 | true,true=>wB C code ⟨iniR (vs ++ dfl.drop (vs.length+dfl.length - n)) m,σ⟩ fun fl st=>match fl with
  | .next=>K .none st.s
  | .ret x=>K x st.s
  | .brk=>False
 | _,_=>False
noncomputable def okPar (ns:List (Str × NameKind)) (n:Nat):Bool:=(ns.take n).all (fun p=>p.2 == .local || p.2 == .cell) && (ns.all (fun p=>!(p.1 == "__debug__" || p.1 == "__classdict__")) && decide ((ns.map (·.1)).Nodup∧n≤ns.length))
theorem lookup_cells (names:List (Str × NameKind)) (n:Nat) (acc:List (Str × Addr)) (x:Str) (h:names.lookup x=some .cell ∨ (acc.lookup x).isSome=true):((cellsFrom n names acc).lookup x).isSome=true:=by
 induction names generalizing n acc with
 | nil=>exact h.elim (fun h=>nomatch h) id
 | cons p r ih =>
  obtain ⟨y,k⟩:=p
  unfold cellsFrom
  split
  ·refine ih _ _ ?_
   by_cases hx:x=y
   ·subst hx;exact .inr (by rw [List.lookup_cons];simp)
   ·refine h.imp (fun h=>?_) (fun h=>?_)
    ·rw [List.lookup_cons,beq_false_of_ne hx] at h;exact h
    ·rw [List.lookup_cons,beq_false_of_ne hx];exact h
  ·rename_i hk
   refine ih _ _ (h.imp (fun h=>?_) id)
   rw [List.lookup_cons] at h
   cases hx:x == y with
   | true=>rw [hx] at h;cases h;exact absurd rfl hk
   | false=>rw [hx] at h;exact h
section
variable {kindOf:Str→Option NameKind}
theorem bindL_not:∀ {binds:List (Str × Value)} {m:Str→Option Value} {x:Str},x ∉ binds.map (·.1)→bindL kindOf binds m x=m x
 | [],_,_,_=>rfl
 | (n,v) :: r,m,x,h=>by
  rw [List.map_cons,List.mem_cons,not_or] at h
  unfold bindL
  rw [bindL_not h.2]
  split
  ·exact if_neg h.1
  ·rfl
theorem bindC_not:∀ {binds:List (Str × Value)} {m:Str→Option Value} {x:Str},x ∉ binds.map (·.1)→bindC kindOf binds m x=m x
 | [],_,_,_=>rfl
 | (n,v) :: r,m,x,h=>by
  rw [List.map_cons,List.mem_cons,not_or] at h
  unfold bindC
  rw [bindC_not h.2]
  split
  ·rfl
  ·exact if_neg h.1
theorem bindL_mem {binds:List (Str × Value)} {m:Str→Option Value} {x:Str} {v:Value} (hn:(binds.map (·.1)).Nodup) (h:(x,v) ∈ binds) (hk:kindOf x=some .local):bindL kindOf binds m x=some v:=by
 induction binds generalizing m with
 | nil=>exact nomatch h
 | cons p r ih =>
  obtain ⟨n,u⟩:=p
  rw [List.map_cons,List.nodup_cons] at hn
  unfold bindL
  rcases List.mem_cons.mp h with e | h
  ·cases e
   rw [bindL_not hn.1,if_pos hk]
   exact if_pos rfl
  ·exact ih hn.2 h
theorem bindC_mem {binds:List (Str × Value)} {m:Str→Option Value} {x:Str} {v:Value} (hn:(binds.map (·.1)).Nodup) (h:(x,v) ∈ binds) (hk:kindOf x=some .cell):bindC kindOf binds m x=some v:=by
 induction binds generalizing m with
 | nil=>exact nomatch h
 | cons p r ih =>
  obtain ⟨n,u⟩:=p
  rw [List.map_cons,List.nodup_cons] at hn
  unfold bindC
  rcases List.mem_cons.mp h with e | h
  ·cases e
   rw [bindC_not hn.1,if_neg (by rw [hk];decide)]
   exact if_pos rfl
  ·exact ih hn.2 h
end
theorem ini_at:∀ {l:List PV} {m i:Nat} {y:LV},nth (iniR l m) i=some y→y=.un ∨ ∃ p,y=.v p∧nth l i=some p
 | _,0,_,_,h=>nomatch h
 | [],k+1,0,y,h=>.inl (Option.some.inj h).symm
 | [],k+1,i+1,y,h=>(ini_at (l:=[]) (m:=k) (i:=i) h).imp id fun z1_=>by obtain ⟨p,a,b⟩:=z1_;exact nomatch b
 | x :: l,k+1,0,y,h=>.inr ⟨x,(Option.some.inj h).symm,rfl⟩
 | x :: l,k+1,i+1,y,h=>ini_at (l:=l) (m:=k) (i:=i) h
theorem zip_at {B:Bs} {F:Heap} {μ:List Addr} {ns:List (Str × NameKind)} {n i:Nat} {vs:List Value} {l:List PV} {p:PV} (r:RepL B F μ vs l) (hl:l.length=n) (hz:n≤ns.length) (h:nth l i=some p):∃ x k v,nth ns i=some (x,k)∧(x,v) ∈ ((ns.take n).map (·.1)).zip vs∧(x,k) ∈ ns.take n∧Rep B F μ v p:=by
 subst hl
 induction l generalizing ns i vs with
 | nil=>exact nomatch h
 | cons q l ih =>
  cases ns with
  | nil=>exact absurd hz (Nat.not_succ_le_zero _)
  | cons y ns =>
   obtain ⟨v,r',rfl,a,b⟩:=r
   cases i with
   | zero=>obtain rfl:=Option.some.inj h;exact ⟨y.1,y.2,v,rfl,List.mem_cons_self,List.mem_cons_self,a⟩
   | succ i =>
    obtain ⟨x,k,u,h1,h2,h3,h4⟩:=ih (ns:=ns) (i:=i) b h (Nat.le_of_succ_le_succ hz)
    exact ⟨x,k,u,h1,List.mem_cons_of_mem _ h2,List.mem_cons_of_mem _ h3,h4⟩
theorem fn_ok {B:Bs} {C:Orc} {D f n:Nat} {a:Addr} {c:Cx} {code:CB} {dfl vs σ:List PV} {K:PV→List PV→Prop} (wo:WOk B) (hC:OrcOk B (D+1) C) (hD:D+1≤90) (fa:B.fa f=some a) (fn:FnAt B a n c.ns (toB c code) dfl) (ok:okB c code=true) (par:okPar c.ns n=true)
  (h:entW C n c.ns.length dfl code vs σ K):CallOk B D f vs σ K:=by
 intro A F μ s args a' lw hlow ss ra hfa
 refine gG fun G kG=>?_
 obtain rfl:=Option.some.inj (fa.symm.trans hfa)
 obtain ⟨o,fd,e1,e2,e3,e4,e5,e6,e7,e8,e9,e10,e11,e12⟩:=fn.ex
 unfold entW at h
 split at h
 ·rename_i hl1 hl2
  have hl1:=Nat.le_of_ble_eq_true hl1
  have hl2:=Nat.le_of_ble_eq_true hl2
  have la:=ra.length
  have pk:=List.all_eq_true.mp (and_l par)
  have dg:=List.all_eq_true.mp (and_l (and_r par))
  obtain ⟨nd,hn⟩:=of_decide_eq_true (and_r (and_r par))
  obtain ⟨ds,hds,hb⟩:=e12 s args (ss.base.trans ss.sub) (L.q102 hl1 la) (L.q103 hl2 la)
  rw [la] at hb
  have up:Le B.h₀ s.heap:=ss.base.trans ss.sub
  have rall:RepL B F μ (args ++ ds.drop (vs.length+dfl.length - n)) (vs ++ dfl.drop (vs.length+dfl.length - n)):=ra.append ((hds F μ).drop _)
  have pl:(vs ++ dfl.drop (vs.length+dfl.length - n)).length=n:=by rw [List.length_append,List.length_drop];exact L.q104 hl1 hl2
  generalize args ++ ds.drop (vs.length+dfl.length - n)=vals at hb rall
  generalize vs ++ dfl.drop (vs.length+dfl.length - n)=pvs at rall h pl
  have hbn:((((c.ns.take n).map (·.1)).zip vals).map (·.1)).Nodup:=by
   rw [List.map_fst_zip (by rw [List.length_map,List.length_take,rall.length,pl];exact L.q105),List.map_take]
   exact nd.sublist (List.take_sublist ..)
  have lk {x:Str} {k:NameKind} {i:Nat} (q:nth c.ns i=some (x,k)):fd.scope.names.lookup x=some k:=by rw [e7];exact nth_lookup nd q
  have hmem:∀ y ∈ ((c.ns.take n).map (·.1)).zip vals,fd.scope.names.lookup y.1=some .local ∨ fd.scope.names.lookup y.1=some .cell:=fun y hy=>by
   obtain ⟨p,hp,q⟩:=List.mem_map.mp (List.of_mem_zip hy).1
   obtain ⟨i,hi⟩:=mem_nth (List.mem_of_mem_take hp)
   have:=lk (x:=p.1) (k:=p.2) hi
   rw [← q]
   rcases Bool.or_eq_true_iff.mp (pk p hp) with e | e <;> rw [eq_of_beq e] at this
   ·exact .inl this
   ·exact .inr this
  have hdep:=lw.hd
  refine kG ?_
  refine cX_call_function (by show A.depth < 1000;exact L.q106 hD hdep) (up _ _ e1) e2 e3 e4 e6 (e8.keeps up) (Xa_ (hb _ _ _ _ ?_))
  rw [e11]
  refine Xa_ (wpAny_newFunctionEnv_cells e5 (fun y hy=>(hmem y hy).imp id fun q=>⟨q,lookup_cells _ _ _ _ (.inl q)⟩) fun env henv s₁ hin=>?_)
  have hcells:env.cells=cellsFrom (s.heap.objs.size+1) fd.scope.names []:=by rw [henv];rfl
  have hscope:env.scope=fd.scope:=by rw [henv];rfl
  have hloc:env.locals=s.heap.objs.size:=by rw [henv];rfl
  have hkof:∀ z,env.kindOf z=fd.scope.names.lookup z:=fun z=>by show env.scope.names.lookup z=_;rw [hscope]
  obtain ⟨h₁,tk,hs₁⟩:=hin.toInCall.same
  have G:Grown s s₁:=⟨hin.toInCall.keep,by rw [hs₁],by rw [hs₁]⟩
  have new {b:Addr} (hb:s.heap.objs.size≤b):F.get? b=none∧b ∉ μ:=⟨none_of fun o q=>absurd (Heap.lt_size (ss.sub _ _ q)) (Nat.not_lt.mpr hb),fun m=>absurd (ss.lt m) (Nat.not_lt.mpr hb)⟩
  let w:Wh:={ n₀:=s.heap.objs.size,env:=env,sc:=c.ns,oa:=fun _=>0,tm:=fun _=>none }
  have cellAt:∀ z b,env.cells.lookup z=some b→s.heap.objs.size < b:=fun z b hz=>hloc ▸ hin.above z b (mem_of_lookup hz)
  have no:∀ i p,nth (iniR pvs c.ns.length) i ≠ some (.own p):=fun i p q=>(ini_at q).elim (fun e=>nomatch e) fun z2_=>by obtain ⟨_,e,_⟩:=z2_;exact nomatch e
  have isL {t:Tg} {b:Addr} (q:Is w (iniR pvs c.ns.length) t b):(t=.loc∧b=s.heap.objs.size) ∨ (t=.cell∧∃ z,env.cells.lookup z=some b):=by
   cases t with
   | loc=>exact .inl ⟨rfl,(show b=env.locals from q).trans hloc⟩
   | cell=>exact .inr ⟨rfl,q⟩
   | own i=>obtain ⟨_,p,q⟩:=q;exact absurd q (no i p)
   | tmp=>exact nomatch (show (none:Option Obj).isSome=true from q)
  have sr:SR B w F μ ⟨iniR pvs c.ns.length,σ⟩ s₁.heap:=by
   refine ⟨ss.grow G.le,⟨⟨?_,fun i x k q=>.inl (by rw [hkof];exact lk q),fun i x k q=>by simpa using dg _ (nth_mem q),fun i j x k k'=>nth_inj nd,?_,⟨?_,hlow⟩,?_,fun i x y b q h1 h2=>name_of_addr hin.apart (mem_of_lookup h1) (mem_of_lookup h2)⟩,
    fun i x q=>?_,fun t b q=>?_,fun t t' b q q'=>?_,⟨_,hin.toInCall.ns,fun i y q=>?_⟩,fun b o hb=>nomatch hb⟩⟩
   ·show env.scope.kind=_;rw [hscope,e5]
   ·show env.globals=_;rw [henv];exact e9
   ·show env.builtins=_;rw [henv];exact e10
   ·show s.heap.objs.size≤env.locals;rw [hloc];exact Nat.le_refl _
   ·obtain ⟨b,hc⟩:=Option.isSome_iff_exists.mp (lookup_cells fd.scope.names (s.heap.objs.size+1) [] x (.inl (lk q)))
    rw [← hcells] at hc
    exact ⟨b,_,hc,hin.cell x b hc,Nat.le_of_lt (cellAt x b hc)⟩
   ·rcases isL q with ⟨_,rfl⟩ | ⟨_,z,hz⟩
    ·obtain ⟨o,_,_,q,_⟩:=hin.toInCall.ns
     exact ⟨⟨o,hloc ▸ q⟩,new (Nat.le_refl _)⟩
    ·obtain ⟨o,q1,_⟩:=hin.cell z b hz
     exact ⟨⟨o,q1⟩,new (Nat.le_of_lt (cellAt z b hz))⟩
   ·rcases isL q with ⟨rfl,e⟩ | ⟨rfl,z,hz⟩ <;> rcases isL q' with ⟨rfl,e'⟩ | ⟨rfl,z',hz'⟩
    ·rfl
    ·exact absurd (cellAt z' b hz') (e ▸ Nat.lt_irrefl _)
    ·exact absurd (cellAt z b hz) (e' ▸ Nat.lt_irrefl _)
    ·rfl
   ·rcases ini_at q with rfl | ⟨p,rfl,q₂⟩
    ·trivial
    ·obtain ⟨x,k,v,h1,h2,h3,h4⟩:=zip_at rall pl hn q₂
     rcases Bool.or_eq_true_iff.mp (pk _ h3) with e | e
     ·have e:k=.local:=eq_of_beq e
      subst e
      exact ⟨x,_,v,h1,h4,.inl ⟨rfl,bindL_mem hbn h2 (by rw [hkof];exact lk h1)⟩⟩
     ·have e:k=.cell:=eq_of_beq e
      subst e
      obtain ⟨b,hc⟩:=Option.isSome_iff_exists.mp (lookup_cells fd.scope.names (s.heap.objs.size+1) [] x (.inl (lk h1)))
      rw [← hcells] at hc
      have:=hin.cell x b hc
      rw [bindC_mem hbn h2 (by rw [hkof];exact lk h1)] at this
      exact ⟨x,_,v,h1,h4,.inr ⟨.inl rfl,b,hc,this⟩⟩
  have lv:Lv (A.deeper env) (D+1):=by
   refine ⟨lw.hh,?_,lw.hg,?_,?_,hD⟩
   ·show A.frames.map _=none;rw [lw.hf];rfl
   ·show A.depth+1≤_;exact L.q107 hdep
   ·show A.units+3≤_;have:=lw.hu;exact L.q108 this
  refine ⟨wo.lim.keeps (up.trans G.le),cX_func (Xm_ (allB wo hC code c ok _ _ h (A.deeper env) w F μ s₁ lv rfl sr) fun fl s₂ z9_=>?_)⟩
  obtain ⟨F₂,μ₂,X₂,g₂,fv,st₂,oa,k,r₂,hf⟩:=z9_
  have X:=(Ext.grow (n₀:=s.heap.objs.size) (F:=F) (μ:=μ) G.le).trans X₂
  have gg:s₂.gens=s.gens∧s₂.os=s.os:=⟨g₂.1.trans G.gens,g₂.2.trans G.os⟩
  cases fv with
  | next=>obtain rfl:=hf;exact ⟨F₂,μ₂,X,gg,_,_,k,r₂.ss,rfl⟩
  | brk=>exact k.elim
  | ret x=>obtain ⟨v,rfl,hv⟩:=hf;exact ⟨F₂,μ₂,X,gg,x,_,k,r₂.ss,hv⟩
 ·exact h.elim
end
section
noncomputable def kidsE:Expr→List Expr
 | .BinOp a _ b _=>[a,b]
 | .UnaryOp _ a _=>[a]
 | .IfExp t a b _=>[t,a,b]
 | .BoolOp _ l _=>l
 | .Compare a _ l _=>a :: l
 | .Tuple l _ _=>l
 | .List l _=>l
 | .Subscript v s _=>[s,v]
 | .Slice a b c _=>a.toList ++ b.toList ++ c.toList
 | .Attribute o _ _=>[o]
 | .Call f l _ _=>f :: l
 | .ListComp e [⟨t,it,ifs,_⟩] _ _=>t :: it :: (ifs ++ [e])
 | .Dict ks vs _=>ks.filterMap id ++ vs
 | _=>[]
noncomputable def trE {α:Type} (f:Expr→List α):Nat→Expr→List α
 | 0,_=>[]
 | k+1,e=>f e ++ (kidsE e).flatMap (trE f k)
noncomputable def partS:Stmt→List Expr × List (List Stmt)
 | .Expr e _=>([e],[])
 | .Assign t e _=>(t ++ [e],[])
 | .AugAssign t _ e _=>([t,e],[])
 | .If t a b _=>([t],[a,b])
 | .For g it b _ _=>([g,it],[b])
 | .While t b _ _=>([t],[b])
 | .Return e _=>(e.toList,[])
 | _=>([],[])
noncomputable def trS {α:Type} (fs:Stmt→List α) (fe:Expr→List α):Nat→Stmt→List α
 | 0,_=>[]
 | k+1,s=>fs s ++ ((partS s).1.flatMap (trE fe k) ++ (partS s).2.flatMap fun b=>b.flatMap (trS fs fe k))
noncomputable def isR:Stmt→Bool
 | .Raise ..=>true
 | _=>false
noncomputable def scE:Expr→List Scope
 | .ListComp _ _ s _=>[s]
 | _=>[]
noncomputable def initOf:List Stmt→List (List Arg × List Stmt × Scope)
 | .FunctionDef n a b _ _ _ s _ _ _ :: r=>if n = "__init__" then [(a.args,b,s)] else initOf r
 | _ :: r=>initOf r
 | []=>[]
noncomputable def defF (f:Nat):List (List Arg × List Stmt × Scope):=match nth prg.main.body f with
 | some (.FunctionDef _ a b _ _ _ s _ _ _)=>[(a.args,b,s)]
 | some (.ClassDef _ _ _ b _ _ _ _ _ _ _)=>initOf b
 | _=>[]
noncomputable def parF (f:Nat):List Str:=(defF f).flatMap fun d=>d.1.map (·.arg)
noncomputable def bodF (f:Nat):List Stmt:=(defF f).flatMap fun d=>d.2.1
noncomputable def nsF (f:Nat):List (Str × NameKind):=(defF f).flatMap fun d=>d.2.2.names
noncomputable def cxF (f:Nat):Cx where
 ns:=nsF f
 P:=fun n=>(nth ((bodF f).flatMap (trS (fun s=>if isR s then [] else [s.pos]) (fun e=>[e.pos]) 60)) n).getD default
 cs:=fun n=>(nth ((bodF f).flatMap (trS (fun _=>[]) scE 60)) n).getD default
 raw:=fun n=>(nth ((bodF f).flatMap (trS (fun s=>if isR s then [s] else []) (fun _=>[]) 60)) n).getD default
structure FI where
 n:Nat
 m:Nat
 c:CB
noncomputable def fiT:List (Option FI):=[none,none,none,none,some ⟨1,3,c4⟩,some ⟨2,5,c5⟩,some ⟨1,1,c6⟩,some ⟨3,9,c7⟩,none,some ⟨1,5,c9⟩,none,some ⟨2,2,c11⟩,some ⟨4,6,c12⟩,some ⟨2,3,c13⟩,some ⟨1,9,c14⟩,none,some ⟨0,2,c16⟩,some ⟨4,6,c17⟩,some ⟨1,5,c18⟩,some ⟨3,6,c19⟩,some ⟨1,1,c20⟩,some ⟨2,4,c21⟩,some ⟨4,9,c22⟩,some ⟨4,9,c23⟩,some ⟨1,1,c24⟩,some ⟨4,8,c25⟩,some ⟨3,9,c26⟩,some ⟨3,6,c27⟩,some ⟨5,12,c28⟩,some ⟨4,14,c29⟩,some ⟨3,6,c30⟩,some ⟨1,2,c31⟩,none,some ⟨1,1,c33⟩,none,none,some ⟨5,5,c36⟩,some ⟨4,4,c37⟩,some ⟨2,2,c38⟩,some ⟨2,3,c39⟩,some ⟨2,5,c40⟩,some ⟨4,10,c41⟩,some ⟨4,11,c42⟩,some ⟨1,4,c43⟩,some ⟨2,6,c44⟩,some ⟨1,10,c45⟩,some ⟨2,2,c46⟩,none,some ⟨4,7,c48⟩,none,some ⟨4,8,c50⟩,some ⟨2,8,c51⟩,some ⟨3,18,c52⟩,some ⟨3,7,c53⟩,some ⟨3,9,c54⟩,none,some ⟨4,14,c56⟩,some ⟨1,6,c57⟩,none,some ⟨2,4,c59⟩,some ⟨2,3,c60⟩,some ⟨1,4,c61⟩,some ⟨0,0,c62⟩,some ⟨2,3,c63⟩,some ⟨2,2,c64⟩,some ⟨2,12,c65⟩,some ⟨2,2,c66⟩,some ⟨5,12,c67⟩,some ⟨5,17,c68⟩,some ⟨1,14,c69⟩,some ⟨2,15,c70⟩,some ⟨2,7,c71⟩,some ⟨3,8,c72⟩,some ⟨4,16,c73⟩,some ⟨4,10,c74⟩,some ⟨4,12,c75⟩,some ⟨3,22,c76⟩,some ⟨4,25,c77⟩,some ⟨1,10,c78⟩,some ⟨6,30,c79⟩,some ⟨1,19,c80⟩,some ⟨1,7,c81⟩]
noncomputable def codF (f:Nat):CB:=match nth fiT f with | some (some i)=>i.c | _=>.nil
noncomputable def okN_ (f:Nat):Bool:=match nth fiT f with | some (some i)=>decide (i.n=(parF f).length∧i.m=(nsF f).length) | _=>false
noncomputable def dflF (f:Nat):List PV:=match Nat.beq f 19 with | true=>[.int 2048,.bytes []] | false=>match Nat.beq f 37 with | true=>[.int 64,.int 0,.int 128] | false=>[]
noncomputable def fcl:List Nat:=fids ++ cids
noncomputable def fcc:List Nat:=fcl.filter fun f=>!Nat.beq f 47
theorem t_text:fcc.map (fun f=>toB (cxF f) (codF f))=fcc.map bodF:=by kernel_rfl
theorem t_ok:(fcc.all fun f=>(okB (cxF f) (codF f) && okPar (nsF f) (parF f).length) && okN_ f)=true:=by kernel_rfl
theorem t_par:fcl.map (fun f=>((nsF f).take (parF f).length).map (·.1))=fcl.map parF:=by kernel_rfl
end
section
noncomputable def gIn (K:Frag) (x:Str):Option (Option Value):=match K.lookup mainGlobals with
 | some o=>lookIn x o
 | none=>none
noncomputable def fdOf (K:Frag) (a:Addr):Option FuncData:=match K.lookup a with
 | some ⟨_,_,.func fd,_⟩=>some fd
 | _=>none
theorem fdOf_at {K:Frag} {h:Heap} (X:K.In h) {a:Addr} {fd:FuncData} (e:fdOf K a=some fd):∃ o,h.get? a=some o∧o.data=.func fd:=by
 unfold fdOf at e
 split at e
 ·rename_i ho;cases e;exact ⟨_,X _ _ ho,rfl⟩
 ·cases e
noncomputable def bodyAt (K:Frag) (a:Addr):Option (List Stmt):=(fdOf K a).bind fun fd=>match fd.body with
 | .stmts b=>some b
 | _=>none
noncomputable def scAt (K:Frag) (a:Addr):Option (List (Str × NameKind)):=(fdOf K a).map fun fd=>fd.scope.names
noncomputable def plainFd (K:Frag) (a:Addr):Bool:=match fdOf K a with
 | some fd=>(!fd.scope.isCoroutine && !fd.scope.isGenerator && (match fd.scope.kind with | .function=>true | _=>false)) && (codeIn K fd.code fd.qualname && (fd.globals == mainGlobals && (fd.builtins == builtinsNs && fd.closure.isEmpty)))
 | none=>false
theorem map_at {α β:Type} {f g:α→β}:∀ {l:List α},l.map f=l.map g→∀ x ∈ l,f x=g x
 | [],_,_,h=>by cases h
 | y :: l,e,x,h=>by
  rw [List.map_cons,List.map_cons,List.cons.injEq] at e
  rcases List.mem_cons.mp h with rfl | h
  ·exact e.1
  ·exact map_at e.2 x h
noncomputable def fragT (T:BT) (l:List Nat):Frag:=l.filterMap fun a=>((T.get a).bind alive).map fun o=>(a,o)
noncomputable def ndF (a:Nat):List Nat:=[a,a - 1,143,268]
noncomputable def ndC:List Nat:=List.range 300
theorem fragT_lk {T:BT} {a:Nat} {o:Obj}:∀ {l:List Nat},(fragT T l).lookup a=some o→a ∈ l∧(T.get a).bind alive=some o
 | [],h=>nomatch h
 | b :: l,h=>by
  have ih:=fun h=>fragT_lk (T:=T) (a:=a) (o:=o) (l:=l) h
  unfold fragT at h ih
  rw [List.filterMap_cons] at h
  cases q:(T.get b).bind alive with
  | none=>rw [q] at h;exact ⟨List.mem_cons_of_mem _ (ih h).1,(ih h).2⟩
  | some x =>
   rw [q] at h
   have h:(match a == b with | true=>some x | false=>List.lookup a (l.filterMap fun a=>((T.get a).bind alive).map fun o=>(a,o)))=some o:=h
   cases e:a == b with
   | true=>rw [e] at h;rw [beq_iff_eq.mp e];exact ⟨List.mem_cons_self,q.trans h⟩
   | false=>rw [e] at h;exact ⟨List.mem_cons_of_mem _ (ih h).1,(ih h).2⟩
theorem fragT_in {T:BT} {n:Nat} {life:Life} {l:List Nat} (hl:∀ a ∈ l,a < n):(fragT T l).In (absHeap T n life):=fun a o h=>by
 obtain ⟨h1,h2⟩:=fragT_lk h
 obtain ⟨x,hx,h2⟩:=Option.bind_eq_some_iff.mp h2
 rw [abs_get (hl a h1) hx,h2]
noncomputable def lkN:List Nat→List Nat→Nat→Option Nat
 | k :: ks,v :: vs,j=>match Nat.beq k j with | true=>some v | false=>lkN ks vs j
 | _,_,_=>none
noncomputable def adrs:List Addr:=[53,58,65,72,79,86,93,100,107,114,142,150,157,164,171,178,185,192,197,204,211,218,225,232,239,289,296,303,310,317,324,331,338,345,350,357,364,371,378,385,392,399,406,
 413,418,423,430,437,444,449,456,463,468,475,482,489,496,503,510,517,524,531,538,545,552,559,128,253,275]
noncomputable def faF (f:Nat):Option Addr:=lkN fcl adrs f
noncomputable def caF (c:Nat):Option Addr:=lkN cids [131,256,278] c
noncomputable def fal:List (Nat × Addr):=fcl.zip adrs
noncomputable def cal:List (Nat × Addr):=cids.zip [131,256,278]
theorem lkN_mem:∀ {ks vs:List Nat} {j a:Nat},lkN ks vs j=some a→(j,a) ∈ ks.zip vs
 | [],_,_,_,h=>nomatch h
 | _ :: _,[],_,_,h=>nomatch h
 | k :: ks,v :: vs,j,a,h=>by
  have h:(match Nat.beq k j with | true=>some v | false=>lkN ks vs j)=some a:=h
  cases q:Nat.beq k j with
  | true=>rw [q] at h;rw [← Nat.eq_of_beq_eq_true q,← Option.some.inj h];exact List.mem_cons_self
  | false=>rw [q] at h;exact List.mem_cons_of_mem _ (lkN_mem h)
noncomputable def dvlF (f:Nat):List Value:=match Nat.beq f 19 with | true=>[.int 2048 377,.bytes #[] 378] | false=>match Nat.beq f 37 with | true=>[.int 64 576,.int 0 577,.int 128 578] | false=>[]
noncomputable def bindN (K:Frag) (a n d:Nat) (v:Nat→Value) (S:Setting):Option (List (Option (List (Str × Value)))):=(fdOf K a).map fun fd=>(List.range (d+1)).map fun i=>peek K S (bindArgs fd ⟨(List.range (n - d+i)).map v,[]⟩)
noncomputable def hasD (K:Frag) (C:Addr):Bool:=match clsIn K C with | some cd=>cd.hasDict | none=>false
noncomputable abbrev Ff:=Option (List Stmt) × Option (List (Str × NameKind)) × Bool × ((Nat→Value)→Setting→Option (List (Option (List (Str × Value)))))
noncomputable abbrev Fk:=Option (Option Value) × (Bool × Bool × Bool) × Option (Option Value) × Option (Option Value) × List (Option (Option Value)) × Option (Option Value)
noncomputable def factF (K:Frag) (p:Nat × Addr):Ff:=(bodyAt K p.2,scAt K p.2,plainFd K p.2,bindN K p.2 (parF p.1).length (dvlF p.1).length)
noncomputable def factFE (p:Nat × Addr):Ff:=(some (bodF p.1),some (nsF p.1),true,fun v _=>some ((List.range ((dvlF p.1).length+1)).map fun i=>some ((parF p.1).zip ((List.range ((parF p.1).length - (dvlF p.1).length+i)).map v ++ (dvlF p.1).drop i))))
noncomputable def factC (K:Frag) (p:Nat × Addr):Fk:=(gIn K (fnm p.1),(hasD K p.2,plainOver K p.2,makesIn K p.2),findIn K (.ref p.2) "__getattribute__",findIn K (.ref p.2) "__setattr__",ans.map (findIn K (.ref p.2)),findIn K (.ref p.2) "__init__")
noncomputable def factCE (p:Nat × Addr):Fk:=(some (some (.ref p.2)),(true,true,true),some (some (.builtin "object.__getattribute__")),some (some (.builtin "object.__setattr__")),ans.map (fun _=>some none),(faF p.1).map fun a=>some (.ref a))
noncomputable abbrev Fz:=List Ff × List (Option (Option Value)) × List Fk × List (Option (Option Value)) × List (Option Value)
noncomputable def facts (T:BT):Fz:=(fal.map fun p=>factF (fragT T (ndF p.2)) p,fal.map (fun p=>match cids.contains p.1 with | true=>none | false=>gIn (fragT T ndC) (fnm p.1)),cal.map (factC (fragT T ndC)),(List.range 9).map (fun i=>gIn (fragT T ndC) (bnm i)),[128,253,275].map fun a=>typeIn (fragT T ndC) (.ref a))
noncomputable def factsE:Fz:=(fal.map factFE,fal.map (fun p=>match cids.contains p.1 with | true=>none | false=>some (some (.ref p.2))),cal.map factCE,(List.range 9).map (fun _=>some none),[128,253,275].map fun _=>some (.type "function"))
def FK (T:BT) (h:Heap):Prop:=facts T=factsE∧∀ l:List Nat,(∀ a ∈ l,a < 560)→(fragT T l).In h
theorem ndC_lt:∀ a ∈ ndC,a < 560:=fun a h=>Nat.lt_trans (List.mem_range.mp h) (by decide)
theorem adrs_lt:(adrs.all fun a=>Nat.ble a 559)=true:=by kernel_rfl
theorem ndF_lt {a:Nat} (ha:a ∈ adrs):∀ b ∈ ndF a,b < 560:=fun b h=>by
 have:=Nat.le_of_ble_eq_true (List.all_eq_true.mp adrs_lt a ha)
 unfold ndF at h
 simp only [List.mem_cons,List.not_mem_nil,or_false] at h
 exact L.q111 this h
set_option tactic.hygienic true in
theorem mg_of {K:Frag} {h:Heap} {mg:Str→Option Value} (g:h.Ns mainGlobals mg) (X:K.In h) {x:Str} {v:Option Value} (e:gIn K x=some v):mg x=v:=by
 obtain ⟨o,ho,hl⟩:=ns_look g x
 unfold gIn at e
 split at e
 ·rename_i o' ho'
  have:=X _ _ ho'
  rw [this] at ho
  cases ho
  rw [hl] at e
  exact Option.some.inj e
 ·cases e
theorem range_getD (args:List Value):(List.range args.length).map (fun i=>args.getD i .none)=args:=by
 refine List.ext_getElem? fun i=>?_
 rw [List.getElem?_map]
 by_cases h:i < args.length
 ·rw [List.getElem?_range h,Option.map_some,List.getD_eq_getElem?_getD,List.getElem?_eq_getElem h];rfl
 ·rw [List.getElem?_eq_none (by rw [List.length_range];exact L.q112 h),List.getElem?_eq_none (Nat.not_lt.mp h)];rfl
theorem dvl_rep {B:Bs} {F:Heap} {μ:List Addr} (f:Nat):RepL B F μ (dvlF f) (dflF f):=by
 unfold dvlF dflF
 cases Nat.beq f 19 with
 | true=>exact ⟨_,_,rfl,⟨_,rfl⟩,_,_,rfl,⟨_,_,rfl,rfl,Nat.zero_le _⟩,rfl⟩
 | false=>cases Nat.beq f 37 with
  | true=>exact ⟨_,_,rfl,⟨_,rfl⟩,_,_,rfl,⟨_,rfl⟩,_,_,rfl,⟨_,rfl⟩,rfl⟩
  | false=>exact rfl
theorem dfl_le:(fcl.all fun f=>Nat.ble (dvlF f).length (parF f).length)=true:=by kernel_rfl
theorem fn_at {B:Bs} {K:Frag} {f:Nat} {a:Addr} (X:K.In B.h₀) (hf:f ∈ fcl) (h:factF K (f,a)=factFE (f,a))
  (hp:((nsF f).take (parF f).length).map (·.1)=parF f):FnAt B a (parF f).length (nsF f) (bodF f) (dflF f):=by
 obtain ⟨h1,h⟩:=Prod.mk.inj h
 obtain ⟨h2,h⟩:=Prod.mk.inj h
 obtain ⟨h4,h5⟩:=Prod.mk.inj h
 have ld:(dvlF f).length=(dflF f).length:=(dvl_rep (B:=B) (F:=B.h₀) (μ:=[]) f).length
 have lp:=Nat.le_of_ble_eq_true (List.all_eq_true.mp dfl_le f hf)
 cases hfd:fdOf K a with
 | none=>unfold bodyAt at h1;rw [hfd] at h1;exact nomatch h1
 | some fd =>
  obtain ⟨o,ho,hdat⟩:=fdOf_at X hfd
  unfold bodyAt at h1;rw [hfd,Option.bind_some] at h1
  unfold scAt at h2;rw [hfd,Option.map_some,Option.some.injEq] at h2
  unfold plainFd at h4;rw [hfd] at h4
  have k1:=and_l h4
  have k2:=and_r h4
  have hbody:fd.body=.stmts (bodF f):=by
   split at h1
   ·rename_i b hb;cases h1;exact hb
   ·exact nomatch h1
  have hkind:fd.scope.kind=.function:=by
   have c3:=and_r k1
   split at c3
   ·assumption
   ·exact nomatch c3
  refine ⟨o,fd,ho,hdat,by simpa using and_l (and_l k1),by simpa using and_r (and_l k1),hkind,hbody,h2,codeRec_of X (and_l k2),beq_iff_eq.mp (and_l (and_r k2)),beq_iff_eq.mp (and_l (and_r (and_r k2))),List.isEmpty_iff.mp (and_r (and_r (and_r k2))),?_⟩
  intro s args hle hl1 hl2
  refine ⟨dvlF f,fun F μ=>dvl_rep f,kp_binds (K:=K) (fun b o q=>hle _ _ (X b o q)) fun S=>?_⟩
  have e:=congrFun (congrFun h5 fun i=>args.getD i .none) S
  unfold bindN at e
  rw [hfd] at e
  have e:=congrArg (fun l=>l[args.length - ((parF f).length - (dvlF f).length)]?) (Option.some.inj e)
  have hi:args.length - ((parF f).length - (dvlF f).length) < (dvlF f).length+1:=L.q113 hl1
  have hs:(parF f).length - (dvlF f).length+(args.length - ((parF f).length - (dvlF f).length))=args.length:=L.q114 ld lp hl2
  simp only [List.getElem?_map,List.getElem?_range hi,Option.map_some,hs,range_getD] at e
  rw [hp,show args.length+(dflF f).length - (parF f).length=args.length - ((parF f).length - (dvlF f).length) by exact L.q115 ld lp hs]
  exact Option.some.inj e
noncomputable def bsK (w:World) (h:Heap) (T:BT) (mg mb:Str→Option Value):Bs:=⟨w,h,fragT T ndC,mg,mb,faF,caF⟩
theorem bs_at (i:Nat):bootBuiltins (bnm i)=some (bvl i)∧bnm i ≠ "__name__" ∧ ∃ j,j < 9∧bnm i=bnm j:=by
 rcases i with _ | _ | _ | _ | _ | _ | _ | _ | i <;> refine ⟨by kernel_rfl,(by first | decide | exact (show ("enumerate" : Str) ≠ "__name__" by decide)),?_⟩
 ·exact ⟨0,by decide,rfl⟩
 ·exact ⟨1,by decide,rfl⟩
 ·exact ⟨2,by decide,rfl⟩
 ·exact ⟨3,by decide,rfl⟩
 ·exact ⟨4,by decide,rfl⟩
 ·exact ⟨5,by decide,rfl⟩
 ·exact ⟨6,by decide,rfl⟩
 ·exact ⟨7,by decide,rfl⟩
 ·exact ⟨8,by decide,rfl⟩
theorem fc_nd:(fids.all fun f=>!cids.contains f && (faF f).isSome)=true:=by kernel_rfl
theorem cc_nd:(cids.all fun c=>(caF c).isSome && match faF c with | some a=>[128,253,275].contains a | none=>false)=true:=by kernel_rfl
section
variable {w:World} {h:Heap} {T:BT} {mg mb:Str→Option Value}
theorem wok (fk:FK T h) (g:h.Ns mainGlobals mg) (b:h.Ns builtinsNs mb) (lim:h.NoLimit) (hb:∀ x:Str,x ≠ "__name__" → mb x=bootBuiltins x):WOk (bsK w h T mg mb):=by
 have X:=fk.2 ndC ndC_lt
 obtain ⟨e0,e⟩:=Prod.mk.inj fk.1
 obtain ⟨e1,e⟩:=Prod.mk.inj e
 obtain ⟨e2,e⟩:=Prod.mk.inj e
 obtain ⟨e3,e4⟩:=Prod.mk.inj e
 have cx {c C:Nat} (q:caF c=some C):=map_at e2 _ (lkN_mem q)
 refine { g:=g,b:=b,lim:=lim,KX:=X,fn:=fun f hf=>?_,fd:=fun f a q=>?_,cl:=fun c hc=>?_,cls:=fun c C q=>?_,bi:=fun i=>?_ }
 ·have z:=List.all_eq_true.mp fc_nd f hf
  obtain ⟨a,q⟩:=Option.isSome_iff_exists.mp (and_r z)
  have:=map_at e1 _ (lkN_mem q)
  have n:cids.contains f=false:=by simpa using and_l z
  dsimp only at this
  rw [n] at this
  exact ⟨a,q,mg_of g X this⟩
 ·have hq:=lkN_mem q
  have X:=fk.2 _ (ndF_lt (List.of_mem_zip hq).2)
  have:=(Prod.mk.inj (map_at e0 _ hq)).1
  unfold bodyAt at this
  obtain ⟨fd,h1,_⟩:=Option.bind_eq_some_iff.mp this
  obtain ⟨o,k1,k2⟩:=fdOf_at X h1;exact ⟨o,fd,k1,k2⟩
 ·have z:=List.all_eq_true.mp cc_nd c hc
  obtain ⟨C,q⟩:=Option.isSome_iff_exists.mp (and_l z)
  have z:=and_r z
  cases qa:faF c with
  | none=>rw [qa] at z;exact nomatch z
  | some a =>
   rw [qa] at z
   obtain ⟨k1,k⟩:=Prod.mk.inj (cx q)
   obtain ⟨_,k⟩:=Prod.mk.inj k
   obtain ⟨_,k⟩:=Prod.mk.inj k
   obtain ⟨_,k⟩:=Prod.mk.inj k
   obtain ⟨_,k⟩:=Prod.mk.inj k
   dsimp only at k
   rw [qa] at k
   exact ⟨C,a,q,qa,mg_of g X k1,k,map_at e4 a (List.contains_iff_mem.mp z)⟩
 ·obtain ⟨_,k⟩:=Prod.mk.inj (cx q)
  obtain ⟨k1,k⟩:=Prod.mk.inj k
  obtain ⟨k2,k⟩:=Prod.mk.inj k
  obtain ⟨k3,k⟩:=Prod.mk.inj k
  obtain ⟨k4,_⟩:=Prod.mk.inj k
  obtain ⟨j1,k1⟩:=Prod.mk.inj k1
  obtain ⟨j2,j3⟩:=Prod.mk.inj k1
  refine ⟨?_,k2,k3,j2,map_at k4,j3⟩
  dsimp only at j1
  unfold hasD at j1
  split at j1
  ·rename_i cd e;exact ⟨cd,e,j1⟩
  ·exact nomatch j1
 ·obtain ⟨h1,h2,j,h3,h4⟩:=bs_at i
  exact ⟨mg_of g X (h4 ▸ map_at e3 j (List.mem_range.mpr h3)),(hb _ h2).trans h1⟩
theorem fnAt (fk:FK T h) {f a:Nat} (hf:f ∈ fcc) (ha:faF f=some a):FnAt (bsK w h T mg mb) a (parF f).length (cxF f).ns (toB (cxF f) (codF f)) (dflF f)∧okB (cxF f) (codF f)=true∧okPar (cxF f).ns (parF f).length=true:=by
 obtain ⟨e1,_⟩:=Prod.mk.inj fk.1
 have ha:=lkN_mem ha
 have X:=fk.2 _ (ndF_lt (List.of_mem_zip ha).2)
 have hf':f ∈ fcl:=(List.mem_filter.mp hf).1
 have ok:=List.all_eq_true.mp t_ok f hf
 have hp:=map_at t_par f hf'
 exact ⟨by rw [map_at t_text f hf];exact fn_at (B:=bsK w h T mg mb) X hf' (map_at e1 _ ha) hp,and_l (and_l ok),and_r (and_l ok)⟩
end
end
section
noncomputable def oN (C:Orc):Orc:=fun f vs σ K=>match inK fcc f,nth fiT f with
 | true,some (some i)=>entW C i.n i.m (dflF f) i.c vs σ K
 | _,_=>False
@[irreducible] noncomputable def oF (k:Nat):Orc:=Nat.rec (fun _ _ _ _=>False) (fun _ C=>oN C) k
theorem oF_0:oF 0=fun _ _ _ _=>False:=by unfold oF;rfl
theorem oF_k (k:Nat):oF (k+1)=oN (oF k):=by unfold oF;rfl
theorem oF_s {k f n m:Nat} {c:CB} {vs σ:List PV} {K:PV→List PV→Prop} (h:entW (oF k) n m (dflF f) c vs σ K) (e:nth fiT f=some (some ⟨n,m,c⟩)) (i:inK fcc f=true):oF (k+1) f vs σ K:=by
 rw [oF_k]
 unfold oN
 rw [i,e]
 exact h
theorem oF_ok {w:World} {h:Heap} {T:BT} {mg mb:Str→Option Value} (fk:FK T h) (wo:WOk (bsK w h T mg mb)):∀ k D,D+k≤90→OrcOk (bsK w h T mg mb) D (oF k)
 | 0,D,_=>fun f vs σ K h=>by rw [oF_0] at h;exact h.elim
 | k+1,D,hD=>fun f vs σ K' h=>by
  rw [oF_k] at h
  unfold oN at h
  split at h
  ·rename_i i hi ht
   have hf:f ∈ fcc:=mem_inK hi
   have ok:=and_r (List.all_eq_true.mp t_ok f hf)
   unfold okN_ at ok
   rw [ht] at ok
   obtain ⟨o1,o2⟩:=of_decide_eq_true ok
   intro A F μ s args a lw hl ss ra ha
   obtain ⟨a1,a2,a3⟩:=fnAt (w:=w) (mg:=mg) (mb:=mb) fk hf ha
   have ec:i.c=codF f:=by unfold codF;rw [ht]
   rw [o1,o2,ec] at h
   exact fn_ok (c:=cxF f) wo (oF_ok fk wo k (D+1) (L.q116 hD)) (L.q117 hD) ha a1 a2 a3 h A F μ s args a lw hl ss ra ha
  ·exact h.elim
end
section
noncomputable def envT:Env:={ scope:=pp.main.scope,locals:=mainNs,globals:=mainNs,cells:=[],code:=.ref 13,frame:=some 14 }
noncomputable abbrev z0:Pos:=⟨0,0,0,0⟩
noncomputable def cT:Code:=.body (behindTheImports pp) envT
noncomputable def mkBT (l:List Obj):BT:=l.zipIdx.foldl (fun t x=>t.ins x.2 x.1) .nil
noncomputable def o11:List Obj:=[.mk (.type "tuple") none (.seq #[] 0) #[],.mk .none none (.fields #[]) #[],
 .mk (.type "code") none (.fields #[.str (Str.ofString "<module>") 182,.str (Str.ofString "<module>") 183,.str (Str.ofString "/claim/cut.py") 184,.int 1 0,.int 0 0,.int 0 0,.int 0 0,.int 0 0,.ref 11,.bool false,.int 181 0,.ref 12,.none,.none,.none,.none,.int 185 0,.int 1 0,.str (Str.ofString "/claim/cut.py") 186]) #[],
 .mk (.type "frame") none .plain #[some (.ref 13),some (.ref 3),some (.ref 3),none,some (.str (Str.ofString "__main__") 164),none,some (.ref 0)]]
noncomputable def o15 (P:Params):List Obj:=[boot_o_0 P,boot_o_1 P,boot_o_2 P,boot_o_3 P,boot_o_4 P,boot_o_5 P,boot_o_6 P,boot_o_7 P,boot_o_8 P,boot_o_9 P,boot_o_10 P] ++ o11
noncomputable def st0 (P:Params) (os:OsState):SharedT:=⟨mkBT (o15 P),15,{},#[],{},187,os⟩
noncomputable def stA (P:Params) (os:OsState):Shared:=⟨⟨Array.mk (o15 P),{}⟩,Array.mk [],{},187,os⟩
noncomputable def qq:Program:={ pp with main:={ pp.main with body:=pp.main.body.drop 81 } }
noncomputable def looseF:List Str:=(pp.main.scope.names.map (·.1)).filter fun k=>!startupNames.contains k && k != ("law" : Str)
noncomputable def looks (P:Params) (s:Shared) :=
 ((staticsOk (importedModules pp.main.body) (boot_heap P) s.heap && namesBound pp s.heap && gensDone s && laidKept (boot_heap P) s.heap),openSeen qq looseF (importedModules pp.main.body) (fun _=>true) true s)
section
variable (w:World) (os:OsState)
theorem h_pre:topGo treeTable pp w 11 (some (.ref 6)) 12 ⟨boot_heap w.params,Array.mk [],boot_drawn,boot_toks,os⟩ (topStub pp)=some (stA w.params os,⟨denote treeTable cT,cT,z0,[topFrame z0]⟩):=by kernel_rfl
theorem h_blk:segRun treeTable pp w 11 (some (.ref 6)) 1 1 (stA w.params os) (blockOf (behindTheImports pp) envT cT z0 [topFrame z0])=some (.next,(st0 w.params os).abs,cT,z0):=by kernel_rfl
theorem h_fin (s:Shared) (p:Pos):topRun treeTable pp w 11 (some (.ref 6)) 2 s ⟨doneF .next,cT,p,[topFrame z0]⟩=some s:=by
 obtain ⟨h,g,d,t,o⟩:=s
 kernel_rfl
theorem h_size:(((boot_heap w.params).isNs mainGlobals && (Array.mk ([]:List GenState)).size == 0),(boot_heap w.params).objs.size,(boot_heap w.params).nsMap mainGlobals "__annotations__")=(true,11,some (Value.ref 6)):=by kernel_rfl
end
theorem h_open:opening pp=plainProg pp.main.scope.names:=by kernel_rfl
theorem h_fence (s:Shared):fenceModules? pp s=some s:=by kernel_rfl
end
section
theorem h_run (w:World) (os:OsState):((segRunT treeTable pp w 11 (some (.ref 6)) 1 4000 (st0 w.params os) (piecesOf (behindTheImports pp) envT cT z0 [topFrame z0])).map fun r=>(r.1,r.2.2.1,looks w.params r.2.1.abs,facts r.2.1.tree,Nat.ble 560 r.2.1.n))=some (.next,cT,(true,openGood qq looseF),factsE,true):=by rw [Fast.te10110043849684766642,Fast.te14364793385576792824];kernel_rfl
end
section
theorem leftEx {p q:Program} {loose:List Str} {Xt:Shared→Bool} {α:Type} {Yf:Shared→α} {Ya:World→α} {N:Nat} {H₀:Params→Heap} {gs₀:Array GenState} {d₀:Drawn} {k₀ m₀:Nat} {ann:Option Value} {M:Nat}
  (open_:∀ w:World,(fencedOpening treeTable p w N).map (fun s=>(s.heap,s.gens,s.drawn,s.toks))=some (H₀ w.params,gs₀,d₀,k₀))
  (size:∀ w:World,((H₀ w.params).isNs mainGlobals && gs₀.size == 0,(H₀ w.params).objs.size,(H₀ w.params).nsMap mainGlobals "__annotations__")=(true,m₀,ann))
  (run:∀ (w:World) (os:OsState),∃ s,topRun treeTable p w m₀ ann M ⟨H₀ w.params,gs₀,d₀,k₀,os⟩ (topStub p)=some s∧((staticsOk (importedModules p.main.body) (H₀ w.params) s.heap && namesBound p s.heap && gensDone s && laidKept (H₀ w.params) s.heap),
    openSeen q loose (importedModules p.main.body) Xt true s,Yf s)=(true,openGood q loose,Ya w)) (le:Nat.ble M N=true):LeftO p q loose Xt Yf Ya N:=fun w=>by
 obtain ⟨⟨h,gs,d,k,os⟩,e,e'⟩:=Option.map_eq_some_iff.mp (open_ w)
 obtain ⟨rfl,rfl,rfl,rfl⟩:h=H₀ w.params∧gs=gs₀∧d=d₀∧k=k₀:=by simpa using e'
 obtain ⟨z1,z⟩:=Prod.mk.inj (size w)
 obtain ⟨z2,z3⟩:=Prod.mk.inj z
 obtain ⟨s,hr,hl⟩:=run w os
 obtain ⟨l1,l2⟩:=Prod.mk.inj hl
 have r:=topRun_mono (N - M) _ _ _ _ hr
 rw [show M+(N - M)=N by have:=Nat.le_of_ble_eq_true le;exact L.q383 this] at r
 have t:topFrom treeTable p w N ⟨H₀ w.params,gs,d,k,os⟩=some s:=by
  unfold topFrom
  dsimp only
  rw [z1,z2,z3,r]
  show (match staticsOk (importedModules p.main.body) (H₀ w.params) s.heap && namesBound p s.heap && gensDone s && laidKept (H₀ w.params) s.heap with | true=>_ | false=>_)=_
  rw [l1]
 unfold openEnds
 rw [e]
 show (topFrom treeTable p w N _).map _=_
 rw [t]
 exact congrArg some l2
theorem run_of {tb:String→Option Builtin} {p:Program} {w:World} {m₀:Nat} {ann:Option Value} {env:Env} {n n₁ n₂ n₃:Nat} {s₀ s₁:Shared} {sT:SharedT} {stub:Thread} {c:Code} {b:List Stmt} {pos:Pos} {α:Type} {f:SharedT→α} {a:α} (hc:c=.body b env) (pre:topGo tb p w m₀ ann n s₀ stub=some (s₁,⟨denote tb c,c,pos,[topFrame pos]⟩))
  (blk:segRun tb p w m₀ ann 1 n₁ s₁ (blockOf b env c pos [topFrame pos])=some (.next,sT.abs,c,pos)) (run:(segRunT tb p w m₀ ann 1 n₂ sT (piecesOf b env c pos [topFrame pos])).map (fun r=>(r.1,r.2.2.1,f r.2.1))=some (.next,c,a))
  (fin:∀ (s:Shared) (q:Pos),topRun tb p w m₀ ann n₃ s ⟨doneF .next,c,q,[topFrame pos]⟩=some s):∃ s:SharedT,topRun tb p w m₀ ann (n+(n₁+(n₂+n₃))) s₀ stub=some s.abs∧f s=a:=by
 obtain ⟨⟨fl,sT',c',p'⟩,hr,hr'⟩:=Option.map_eq_some_iff.mp run
 obtain ⟨rfl,hr'⟩:=Prod.mk.inj hr'
 obtain ⟨rfl,hr₂⟩:=Prod.mk.inj hr'
 have r:=piece_app (rest:=[]) (segRun_of hr) (piece_nil (fin sT'.abs p'))
 rw [List.append_nil] at r
 exact ⟨sT',go_top pre (by rw [hc] at blk r ⊢;exact piece_block blk r),hr₂⟩
theorem assoc3 {α β γ:Type} {a a':α} {b b':β} {c c':γ} (h:((a,b),c)=((a',b'),c')):(a,b,c)=(a',b',c'):=by
 obtain ⟨h1,h2⟩:=Prod.mk.inj h
 obtain ⟨h1,h3⟩:=Prod.mk.inj h1
 rw [h1,h2,h3]
theorem left:LeftO pp qq looseF (fun _=>true) (fun s=>∃ T,FK T s.heap) (fun _=>True) 5000 :=
 leftEx (boot_open h_open rfl h_fence) h_size (fun w os=>by
  obtain ⟨⟨T,n,life,g,d,t,o⟩,a,b⟩:=run_of (c:=cT) (f:=fun sT=>(looks w.params sT.abs,facts sT.tree,Nat.ble 560 sT.n)) rfl (h_pre w os) (h_blk w os) (h_run w os) (h_fin w)
  obtain ⟨b1,b⟩:=Prod.mk.inj b
  obtain ⟨b2,b3⟩:=Prod.mk.inj b
  have fk:FK T (absHeap T n life):=⟨b2,fun l hl=>fragT_in fun a ha=>Nat.lt_of_lt_of_le (hl a ha) (Nat.le_of_ble_eq_true b3)⟩
  exact ⟨_,a,assoc3 (Prod.ext b1 (eq_true ⟨T,fk⟩))⟩) rfl
end
section
noncomputable abbrev Γ₀:Ctx:=⟨.builtin "claim.caller" {},none,none,[],none⟩
theorem clean₀:Clean Γ₀:=⟨fun v p=>by kernel_rfl,fun _ h=>nomatch h⟩
theorem thread_endsX {prog:Program} {w:World} {t:Sem Fin} {s:Shared} {R:Result→Shared→Prop} (hreg:s.asleep)
  (h:wpX (model prog w) callerA t (fun fin s'=>∃ f,fin=.done f∧(R (.ok f) s'∧leftWithCleanup s'.gens=false)) s) :
  ∃ n r s' s'',runN (denote table) prog w n s ⟨t,.builtin "claim.caller" {},default,[]⟩=.halted (outcomeOf r) s' ∧
   schedN (denote table) prog w n (.single s ⟨t,.builtin "claim.caller" {},default,[]⟩)=.halted (outcomeOf r) s'∧s'.forget=s''.forget∧R r s'':=by
 have h':Sem.wp (model prog w) Γ₀ t (Sem.finPost (model prog w) Γ₀ fun r s'=>R r s'∧leftWithCleanup s'.gens=false) (fun e _ s'=>(fun r s'=>R r s'∧leftWithCleanup s'.gens=false) (.error e) s') default s :=
  Sem.wp_mono _ _ _ (fun fin p' s' x=>by obtain ⟨f,rfl,y⟩:=x;exact y) (fun _ _ _ x=>x.elim) _ _ (h Γ₀ default caller_in clean₀)
 obtain ⟨n,r,s₁,s₂,hs,hn,hfo,hR⟩:=wp_halts_full (M:=model prog w) (R:=R) hreg h'
 exact ⟨n,r,s₂,s₁,hn,hs,hfo,hR⟩
theorem callFromX {c:ClaimW} {tree:List Value→Sem Fin} {w:World} {s:Shared} {free:Addr→Prop} {gens:Prop} {kept:Heap→Prop} (hz:s.asleep) (hgens:s.gens=#[])
  (hspec:∀ args,c.pre args=true→WData.layableAll args=true →
   ∀ ord:List DictEntry→List DictEntry,(∀ l,(ord l).Perm l) →
   ∃ vs s₁,layAllW c.records (classAt s.heap) w.params ord args s=some (vs,s₁) ∧
    wpX (model c.prog w) callerA (tree vs) (fun fin s'=>∃ f,fin=.done f∧(c.Ends s args vs s₁ (.ok f) s'∧s'.os=s.os∧AllBare s'.gens∧kept s'.heap)) s₁) :
  c.CallFrom (fun vs=>⟨tree vs,.builtin "claim.caller" {},default,[]⟩) w free gens kept s:=by
 intro args hpre hlay ord hord
 refine gG fun G kG=>?_
 obtain ⟨vs,s₁,hlaid,hcode⟩:=hspec args hpre hlay ord hord
 have hal:=layAllW_rest _ _ _ hlaid
 obtain ⟨k,r,s',s'',hrun,hsched,hfo,hcase,hos,hkp⟩:=thread_endsX (prog:=c.prog) (w:=w) (t:=tree vs) (s:=s₁)
  (R:=fun r s'=>c.Ends s args vs s₁ r s'∧s'.os=s.os∧kept s'.heap)
  (Shared.asleep_of_life hal.2.2.2 hz)
  (Xm_ hcode (by
   rintro fin s' ⟨f,e,h1,h2,h3,h4⟩
   exact ⟨f,e,⟨h1,h2,h4⟩,leftWithCleanup_false_of_bare h3⟩))
 obtain ⟨eh,_,_,eo,_⟩:=Shared.forget_eq hfo
 have hcase:=hcase.congr eh
 have hkp:kept s'.heap:=by first | exact eh ▸ hkp | (rw [eh] at hkp;exact hkp) | (rw [← eh] at hkp;exact hkp)
 rw [← eo] at hos
 have hlife:s'.heap.life=s.heap.life:=(runN_life _ _ _ hrun).trans hal.2.2.2
 refine kG ⟨vs,s₁,hlaid,k,_,s',hsched,?_,(fun _ i x hx=>by rw [hgens] at hx;simp at hx),hkp,by rw [hlife],Shared.rest_eq hos⟩
 rcases hcase with ⟨v,rfl,d1,d2,d3,d4,d5⟩ | ⟨e,ob,cls,rfl,d1,d2,d3,d4,d5⟩
 ·exact .inl ⟨v,rfl,d1,d2,d3,fun b o y _=>d4 b o y,d5⟩
 ·exact .inr ⟨e,ob,cls,rfl,d1,d2,d3,d4,fun b o y _=>d5 b o y⟩
theorem open_anyX {r:RowW} {run:Value→List Value→Sem Value} {tree:List Value→Sem Fin} {q:Program} {loose defs kps:List Str} {writes:Bool} {Xt:Shared→Bool} {XP:(Str→Option Value)→Heap→Prop} {α:Type} {Yf:Shared→α} {Ya:World→α} {YP:World→Heap→Prop} {N:Nat}
  (left:LeftO r.prog q loose Xt Yf Ya N) (hY:∀ w s,Yf s=Ya w→YP w s.heap) (hYk:∀ w h h',YP w h→(∀ b o,h.get? b=some o→h'.get? b=some o)→YP w h') (hX:∀ s,Xt s=true→XP (s.heap.nsMap mainGlobals) s.heap) (hXk:∀ mg h h',XP mg h→(∀ b o,h.get? b=some o→h'.get? b=some o)→XP mg h')
  (hRf:∀ s,Xt s=true→RecFacts r.records s.heap) (hwr:(!writes || r.records.isEmpty)=true) (ok:(chainsOk q && opensWell r.prog && (frees r && r.within.isEmpty))=true) (hb:r.prog.bare) (hw:r.promised)
  (ht:∀ vs (w:World) (s:Shared) mg f (Q:Fin→Shared→Prop),s.heap.Ns mainGlobals mg→mg r.name=some f→wpX (model r.prog w) callerA (run f vs) (fun v s'=>Q (.done (.ret v)) s') s→wpX (model r.prog w) callerA (tree vs) Q s)
  (pin:∀ w s,s.heap.isNs mainGlobals=true→Ground q loose [] XP w s (s.heap.nsMap mainGlobals) (s.heap.nsMap builtinsNs) s.heap→∀ n ∈ defs,isTheDefsW r.prog s.heap n)
  (call:∀ (w:World) (s₀ s₁:Shared) (mg mb:Str→Option Value),Ground q loose r.records XP w s₀ mg mb s₁.heap→YP w s₁.heap→∀ (args:List WData) (vs:List Value) (as:List Addr),
   r.claim.pre args=true→WData.layableAll args=true→Laid r.records w s₀ s₁ args vs as→sysModules < s₀.heap.objs.size→∃ f,mg r.name=some f ∧
    wpX (model r.prog w) callerA (run f vs) (fun v s'=>GoodWG r.claim (classAt s₀.heap) (ExcName.means s₀.heap) args s₁ (.ok (.ret v)) s') s₁) :
  r.claim.HoldsOpenBy (fun vs=>⟨tree vs,.builtin "claim.caller" {},default,[]⟩) defs kps writes:=by
 refine gG fun G kG=>?_
 obtain ⟨ok,k5⟩:=Bool.and_eq_true_iff.mp ok
 obtain ⟨hch,o1⟩:=Bool.and_eq_true_iff.mp ok
 obtain ⟨k5,k6⟩:=Bool.and_eq_true_iff.mp k5
 obtain ⟨hsame,hu,ha,hap,hm⟩:=frees_parts k5
 refine kG ⟨⟨hb,o1,by show r.makers.map _=[];rw [hm];rfl⟩,hw.witness,fun w=>⟨(left.behind hX hch w).1,fun s' hs'=>?_⟩⟩
 refine gG fun Γ kG=>?_
 obtain ⟨s₀,hf,hg0,s,hT,hz,hgens,hg,G00,y⟩:=(left.behind (XP:=fun mg h=>XP mg h∧RecFacts r.records h) (fun s hs=>⟨hX s hs,hRf s hs⟩) hch w).2 s' hs'
 have G0:Ground q loose [] XP w s (s.heap.nsMap mainGlobals) (s.heap.nsMap builtinsNs) s.heap:=⟨G00.T,G00.B,G00.D,G00.TE,G00.TD,G00.W,G00.X.1,G00.cls,G00.has,G00.apart,G00.once,G00.K⟩
 have RF:=G00.X.2
 have hT':=hT
 refine kG ⟨s₀,hf,hg0,s,hT,pin w s hg G0,RF.1,RF.2.1,?_⟩
 have hgens:s.gens=#[]:=Array.eq_empty_of_size_eq_zero (beq_iff_eq.mp hgens)
 have G:Ground q loose r.records XP w s _ _ s.heap:=RF.ground G0
 refine callFromX (c:=r.claim) hz hgens fun args hpre hlay ord hord=>?_
 refine gG fun Γ kG=>?_
 obtain ⟨⟨vs,s₁⟩,hlaid⟩:=Option.isSome_iff_exists.mp (layAllW_isSome (P:=w.params) (ord:=ord) G.has args r.args s (pre_splitW hpre).1)
 have keeps:=layAllW_keeps _ _ _ hlaid
 have hal:=layAllW_rest _ _ _ hlaid
 obtain ⟨as,hrd,hin,hold⟩:=reads_layAllW hord _ _ _ hlaid hlay s₁.heap (fun _ _ e=>e)
 have L:Laid r.records w s s₁ args vs as:=⟨⟨ord,hord,hlaid⟩,hrd,hin,hold,keeps,hal.1.trans hgens,hal.2.2.1⟩
 have G₁:=G.keeps hXk keeps
 obtain ⟨f,hf,h⟩:=call w s s₁ _ _ G₁ (hYk _ _ _ (hY w s y) keeps) args vs as hpre hlay L G.low
 have hi:=ident_freeW hu ha hap
 have hwi:r.claim.within=[]:=List.isEmpty_iff.mp k6
 exact kG ⟨vs,s₁,hlaid,ht vs w s₁ _ f _ G₁.T.g hf (Xm_ h (fun v s' g=>⟨_,rfl,have z:=g.laid (c:=r.claim) hsame hwi hi L;⟨z.1,z.2.1,z.2.2,fun q=>⟨namesKept_of hT' hg kps keeps g.2.1.old,noTable hwr q⟩⟩⟩))⟩
abbrev WalkX (q:Program) (loose:List Str) (XP:(Str→Option Value)→Heap→Prop) (YP:World→Heap→Prop) (r:RowW) (d:DefRec) (kwd:List (Str × Expr)):Prop :=
 ∀ (w:World) (s₀ s₁:Shared) (mg mb:Str→Option Value),Ground q loose r.records XP w s₀ mg mb s₁.heap→YP w s₁.heap→∀ (a:Addr) (o:Obj) (pm cd doc dV kV:Value),s₁.heap.get? a=some o →
  o.data=.func { docDef d.name d.params d.body d.scope pm cd doc with defaults:=dV,kwdefaults:=kV }→s₁.heap.CodeRec cd d.name→Dflts mg s₁.heap d.params kwd dV kV→mg d.name=some (.ref a)→s₁.gens=#[] →
  ∀ (args:List WData) (vals:List Value) (as:List Addr),r.claim.pre args=true→WData.layableAll args=true→ReadsAllW r.records (classAt s₀.heap) s₁.heap vals args as→WellAll w.params s₁.heap vals args→(∀ a ∈ as,(a == sysModules)=false) →
   wpX (model r.prog w) callerA (PySem.call (.ref a) vals) (fun v s'=>GoodWG r.claim (classAt s₀.heap) (ExcName.means s₀.heap) args s₁ (.ok (.ret v)) s') s₁
theorem holdsX {r:OpenRow} {q:Program} {loose:List Str} {Xt:Shared→Bool} {XP:(Str→Option Value)→Heap→Prop} {α:Type} {Yf:Shared→α} {Ya:World→α} {YP:World→Heap→Prop} {d:DefRec} {kwd:List (Str × Expr)} {N:Nat}
  (left:LeftO r.prog q loose Xt Yf Ya N) (hY:∀ w s,Yf s=Ya w→YP w s.heap) (hYk:∀ w h h',YP w h→(∀ b o,h.get? b=some o→h'.get? b=some o)→YP w h')
  (hX:∀ s,Xt s=true→XP (s.heap.nsMap mainGlobals) s.heap) (hXk:∀ mg h h',XP mg h→(∀ b o,h.get? b=some o→h'.get? b=some o)→XP mg h')
  (hdef:defOf q r.name=some (d,kwd)) (hp:r.prog.theDef r.name=some (d.params,d.body,d.scope)) (hk:kwWritten? d.params.kwonlyargs d.params.kw_defaults=some kwd) (hRf:∀ s,Xt s=true→RecFacts r.records s.heap) (hwr:(!r.writes || r.records.isEmpty)=true)
  (k1:r.wellSaid=true) (ok:(chainsOk q && opensWell r.prog && (frees r.toRowW && r.within.isEmpty))=true) (hb:r.prog.bare) (hw:r.toRowW.promised)
  (call:WalkX q loose XP YP r.toRowW d kwd):r.Holds:=by
 refine ⟨k1,hw,open_anyX (r:=r.toRowW) (run:=fun f vs=>PySem.call f vs) (tree:=fun vs=>do match ← nsGet mainNs r.name with
   | some f=>do ret (← PySem.call f vs)
   | none=>unsupported "claim.caller:no-such-global") left hY hYk hX hXk hRf hwr ok hb hw
  (fun vs w s mg f Q hg hf h=>Xb_ (Xa_ (wpAny_nsGet hg ?_)))
  (fun w s hg G n hn=>?_) fun w s₀ s₁ mg mb G Y args vs as hpre hlay L low=>?_⟩
 ·rw [hf];exact Xb_ (Xm_ h fun _ _ x=>Xp_ x)
 ·obtain rfl:n=r.name:=by split at hn <;> simp_all
  exact pinned_of_view hg G hdef hp hk
 ·obtain ⟨a,o,pm,cd,doc,dV,kV,h1,h2,h3,h4,h5⟩:=G.fn hdef
  exact ⟨.ref a,h1,call w s₀ s₁ mg mb G Y a o pm cd doc dV kV h2 h3 h4 h5 (defOf_name hdef ▸ h1) L.gens args vs as hpre hlay L.reads L.well (L.low low)⟩
end
section
noncomputable def num (l:List Int):Int:=l.foldl (fun n o=>n * 256+o) 0
noncomputable def oct (n:Int) (m:Nat):List Int:=(List.range m).map fun k=>n / 256 ^ (m - 1 - k) % 256
noncomputable def fold (t:Int):Int:=if t=0 then 0 else (t - 1) % 65535+1
theorem oct_len {n:Int} {m:Nat}:(oct n m).length=m:=by simp [oct]
theorem oct_Oct {n:Int} {m:Nat}:Oct (oct n m):=by
 intro x hx
 obtain ⟨k,_,rfl⟩:=List.mem_map.mp hx
 exact ⟨Int.emod_nonneg _ (L.q118),Int.emod_lt_of_pos _ (L.q119)⟩
theorem Oct_app {a b:List Int} (ha:Oct a) (hb:Oct b):Oct (a ++ b):=by
 intro x hx
 rcases List.mem_append.mp hx with h | h
 ·exact ha x h
 ·exact hb x h
theorem Oct_take {a:List Int} {n:Nat} (ha:Oct a):Oct (a.take n):=fun x hx=>ha x (List.mem_of_mem_take hx)
theorem Oct_drop {a:List Int} {n:Nat} (ha:Oct a):Oct (a.drop n):=fun x hx=>ha x (List.mem_of_mem_drop hx)
theorem Oct_sl {a:List Int} {i j:Int} (ha:Oct a):Oct (sl a i j):=Oct_drop (Oct_take ha)
theorem Oct_put {a b:List Int} {i j:Nat} (ha:Oct a) (hb:Oct b):Oct (putL a i j b):=by
 unfold putL;exact Oct_app (Oct_app (Oct_take ha) hb) (Oct_drop ha)
theorem put_len {a b:List Int} {i j:Int} (h0:0≤i) (h1:i≤j) (h2:j≤a.length) (h3:(b.length:Int)=j - i):(putL a i.toNat j.toNat b).length=a.length:=by
 unfold putL
 simp only [List.length_append,List.length_take,List.length_drop]
 exact L.q120 h0 h1 h2 h3
theorem sl_len {α:Type} {a:List α} {i j:Int} (h0:0≤i) (h1:i≤j) (h2:j≤a.length):(sl a i j).length=(j - i).toNat:=by
 unfold sl
 simp only [List.length_take,List.length_drop]
 exact L.q121 h0 h1 h2
theorem sl_le {α:Type} {a:List α} {i j:Int} {m:Nat} (h:j - i≤m) (h0:0≤i):(sl a i j).length≤m:=by
 unfold sl
 simp only [List.length_take,List.length_drop]
 exact L.q122 h h0
theorem ix_oct {l:List Int} {k:Int} (h:Oct l) (h0:0≤k) (h1:k < l.length):0≤ix l k∧ix l k < 256:=by
 have:=ix_at (l:=l) ⟨h0,h1⟩
 exact h _ (List.mem_of_getElem? this)
theorem nand8 {a b:Nat} (hb:b < 2 ^ 8):(a * 2 ^ 8) &&& b=0:=by
 apply Nat.eq_of_testBit_eq
 intro i
 rw [Nat.testBit_and,Nat.zero_testBit]
 by_cases h:i < 8
 ·have:(a * 2 ^ 8).testBit i=false:=by
   rw [Nat.mul_comm,Nat.testBit_two_pow_mul];simp;omega
  rw [this,Bool.false_and]
 ·have:b.testBit i=false:=Nat.testBit_lt_two_pow (Nat.lt_of_lt_of_le hb (Nat.pow_le_pow_right (L.q123) (L.q124 h)))
  rw [this,Bool.and_false]
theorem bor {n o:Int} (hn:0≤n) (h0:0≤o) (h1:o < 256):Builtin.bitOr (n * 2 ^ 8) o=n * 256+o:=by
 rw [bitOr_and,bitAnd_pp (by exact (L.q125 hn)) h0]
 have:(n * 2 ^ 8).toNat=n.toNat * 2 ^ 8:=L.q126 hn
 rw [this,nand8 (L.q127 h1)];exact L.q128
theorem fold_step {t:Int} (h:65535 < t):fold (t % 65536+t / 65536)=fold t:=by
 unfold fold
 rw [if_neg (L.q131 h),if_neg (L.q132 h)]
 exact L.q133
theorem fold_small {t:Int} (h0:0≤t) (h:t≤65535):fold t=t:=by
 unfold fold
 split <;> omega
theorem fold_range {t:Int} (h0:0≤t):0≤fold t∧fold t≤65535:=by
 unfold fold
 split <;> omega
theorem num_go (l:List Int):∀ n:Int,l.foldl (fun n o=>n * 256+o) n=n * 256 ^ l.length+num l:=by
 unfold num
 induction l with
 | nil=>intro n;simp
 | cons a l ih =>
  intro n
  rw [List.foldl_cons,List.foldl_cons,ih (n * 256+a),ih (0 * 256+a),List.length_cons,Int.pow_succ]
  rw [Int.add_mul]
  have:n * 256 * 256 ^ l.length=n * (256 ^ l.length * 256):=by rw [Int.mul_assoc,Int.mul_comm 256]
  rw [this]
  have:(0 * 256+a) * 256 ^ l.length=a * 256 ^ l.length:=by simp
  rw [this];exact L.q134
theorem num_cons (a:Int) (l:List Int):num (a :: l)=a * 256 ^ l.length+num l:=by
 rw [num,List.foldl_cons,num_go];simp
theorem num_nil:num []=0:=rfl
theorem num_range:∀ {l:List Int},Oct l→0≤num l∧num l < 256 ^ l.length
 | [],_=>by simp [num_nil]
 | a :: l,h=>by
  have ih:=num_range (fun x hx=>h x (by simp [hx]):Oct l)
  have ha:=h a (by simp)
  rw [num_cons,List.length_cons,Int.pow_succ]
  have hp:(0:Int) < 256 ^ l.length:=Int.pow_pos (L.q119)
  generalize (256:Int) ^ l.length=p at *
  constructor
  ·have:=Int.mul_nonneg ha.1 (Int.le_of_lt hp);exact L.q135 ih this
  ·have h1:a * p≤255 * p:=Int.mul_le_mul_of_nonneg_right (L.q136 ha) (Int.le_of_lt hp)
   exact L.q137 ih h1
theorem pow_le {a b:Nat} (h:a≤b):(256:Int) ^ a≤256 ^ b:=by
 have:((256 ^ a:Nat):Int)≤((256 ^ b:Nat):Int):=Int.ofNat_le.mpr (Nat.pow_le_pow_right (L.q138) h)
 simpa using this
noncomputable def wd (l:List Int) (i:Nat):Int:=ix l (2 * i) * 256+ix l (2 * i+1)
noncomputable def mstep (old new:List Int) (t:Int) (i:Nat):Int:=t+65535 - wd old i+wd new i
noncomputable def mendM (check:Int) (old new:List Int):Int:=65535 - fold ((List.range (old.length / 2)).foldl (mstep old new) (65535 - check))
theorem wd_range {l:List Int} {i:Nat} (h:Oct l) (hi:2 * i+1 < l.length):0≤wd l i∧wd l i≤65535:=by
 have h1:=ix_oct h (k:=2 * i) (L.q139) (L.q140 hi)
 have h2:=ix_oct h (k:=2 * i+1) (L.q141) (L.q142 hi)
 unfold wd;exact L.q143 h1 h2
theorem mtot_range {old new:List Int} (ho:Oct old) (hn:Oct new) (hl:old.length=new.length):∀ (m:Nat) (t:Int),2 * m≤old.length→0≤t→0≤(List.range m).foldl (mstep old new) t∧(List.range m).foldl (mstep old new) t≤t+131070 * m
 | 0,t,_,h=>by simp;exact L.q144 h
 | m+1,t,hm,h=>by
  rw [List.range_succ,List.foldl_append]
  have ih:=mtot_range ho hn hl m t (L.q145 hm) h
  have a:=wd_range ho (i:=m) (L.q146 hm)
  have b:=wd_range hn (i:=m) (L.q147 hl hm)
  simp only [List.foldl_cons,List.foldl_nil,mstep]
  push_cast
  exact L.q148 ih a b
theorem mendM_range {check:Int} {old new:List Int} (ho:Oct old) (hn:Oct new) (hl:old.length=new.length) (h0:0≤check) (h1:check≤65535):0≤mendM check old new∧mendM check old new≤65535:=by
 have:=mtot_range ho hn hl (old.length / 2) (65535 - check) (L.q149) (L.q150 h1)
 have:=fold_range this.1
 unfold mendM;exact L.q151 this
def NK (kind nf:Int):Prop:=(kind=2048∧nf=2) ∨ (kind=34525∧nf=10)
noncomputable def isP (nf pr:Int):Bool:=if nf=2 then pr == 1 else pr == 58
noncomputable def isE (nf x:Int):Bool:=decide (x ∈ (if nf=2 then [3,4,5,11,12] else [1,2,3,4]:List Int))
noncomputable def ansK (nf x:Int):Int:=if nf=2 then (if x=8 then 0 else if x=0 then 8 else if x=13 then 14 else if x=14 then 13 else if x=15 then 16 else if x=16 then 15 else if x=17 then 18 else if x=18 then 17 else -1) else (if x=128 then 129 else if x=129 then 128 else -1)
noncomputable def spl (l4:Int):Int:=if l4=6 then 16 else if l4=17 then 6 else if l4=1 then 2 else if l4=58 then 2 else -1
noncomputable def cmn (b e lo hi:Int):Int × Int:=if max b lo < min e hi then (max b lo / 2 * 2,(min e hi+1) / 2 * 2) else (0,0)
noncomputable def hsz (kind second:Int):Int:=if kind ∈ ([0,43,60]:List Int) then (second+1) * 8 else if kind=51 then (second+2) * 4 else if kind=44 then 8 else 0
noncomputable def prOf (l:List Int) (f b:Int):List Int:=if ((sl l f b).length:Int) < b - f then sl l f b ++ [0] else sl l f b
noncomputable def strm (before data:List Int) (c:Int) (s:Int × Int):Int:=if s.1 < s.2 then mendM c (prOf before s.1 s.2) (prOf data s.1 s.2) else c
noncomputable def chk (before data:List Int) (place:Int) (sts:List (Int × Int)):Int:=sts.foldl (strm before data) (num (sl before place (place+2)))
noncomputable def mAt (before data:List Int) (place:Int) (sts:List (Int × Int)) (udp:Bool):List Int :=
 if udp=true∧num (sl before place (place+2))=0 then data
 else putL data place.toNat (place+2).toNat (oct (if udp=true∧chk before data place sts=0 then 65535 else chk before data place sts) 2)
def Strs (len:Int) (l:List (Int × Int)):Prop:=∀ s ∈ l,s.1 < s.2→0≤s.1∧s.1 % 2=0∧s.2 % 2=0∧s.2≤len+1∧s.2 - s.1≤300
theorem prOf_len {l:List Int} {f b:Int} (h0:0≤f) (h1:f < b) (h2:b≤l.length+1) (hf:f % 2=0) (hb:b % 2=0):(prOf l f b).length=(b - f).toNat:=by
 unfold prOf
 have:(sl l f b).length=min b.toNat l.length - f.toNat:=by
  unfold sl;rw [List.length_drop,List.length_take]
 split
 ·rw [List.length_append,List.length_singleton];exact L.q387 h0 h1 h2 this (by assumption)
 ·exact L.q388 h0 h1 this (by assumption)
theorem prOf_Oct {l:List Int} {f b:Int} (h:Oct l):Oct (prOf l f b):=by
 unfold prOf
 split
 ·exact Oct_app (Oct_sl h) (by intro x hx;simp at hx;exact L.q157 hx)
 ·exact Oct_sl h
theorem strm_range {before data:List Int} {c:Int} {s:Int × Int} (ho:Oct before) (hn:Oct data) (hl:before.length=data.length) (h0:0≤c) (h1:c≤65535) (hs:s.1 < s.2→0≤s.1∧s.1 % 2=0∧s.2 % 2=0∧s.2≤data.length+1∧s.2 - s.1≤300):0≤strm before data c s∧strm before data c s≤65535:=by
 unfold strm
 split
 ·rename_i h
  obtain ⟨a1,a2,a3,a4,a5⟩:=hs h
  exact mendM_range (prOf_Oct ho) (prOf_Oct hn) (by rw [prOf_len a1 h (L.q158 hl a4) a2 a3,prOf_len a1 h (L.q159 a4) a2 a3]) h0 h1
 ·exact ⟨h0,h1⟩
theorem chk_range {before data:List Int} {place:Int} {sts:List (Int × Int)} (ho:Oct before) (hn:Oct data) (hl:before.length=data.length) (h0:0≤place) (hs:Strs data.length sts):0≤chk before data place sts∧chk before data place sts≤65535:=by
 have h:=num_range (Oct_sl ho (i:=place) (j:=place+2))
 have h2:(sl before place (place+2)).length≤2:=sl_le (L.q160) h0
 have h3:(256:Int) ^ (sl before place (place+2)).length≤256 ^ 2:=pow_le h2
 have go:∀ (l:List (Int × Int)) (c:Int),Strs data.length l→0≤c→c≤65535→0≤l.foldl (strm before data) c∧l.foldl (strm before data) c≤65535:=by
  intro l
  induction l with
  | nil=>intro c _ a b;exact ⟨a,b⟩
  | cons s l ih =>
   intro c hl' a b
   have:=strm_range ho hn hl a b (hl' s (by simp))
   exact ih _ (fun y hy=>hl' y (by simp [hy])) this.1 this.2
 exact go sts _ hs h.1 (L.q161 h h3)
noncomputable abbrev strPV (s:Int × Int):PV:=.tup [.int s.1,.int s.2]
noncomputable abbrev Row:=Int × List (Int × Int)
noncomputable abbrev rowPV (r:Row):PV:=.tup [.int r.1,.lst (r.2.map strPV)]
noncomputable def rowsL (kind l4 off hl b e len:Int):List Row :=
 (if kind=2048∧0≤l4 then [(10,[cmn b e 0 hl])] else []) ++
 (if 0≤off∧0≤spl l4∧off+spl l4+2≤len then [(off+spl l4,cmn b e off len :: (if l4=1 then [] else [if kind=2048 then cmn b e 12 20 else cmn b e 8 40]))] else [])
noncomputable def rowsPV (l:List Row):PV:=match l with | []=>.il [] | l=>.lst (l.map rowPV)
noncomputable def rowStep (l4:Int) (before D:List Int) (r:Row):List Int:=mAt before D r.1 r.2 (decide (l4=17) && !decide (r.1=10))
noncomputable def setM (kind l4 off b:Int) (new data:List Int):List Int :=
 (rowsL kind l4 off (Builtin.bitAnd (ix data 0) 15 * 4) b (b+new.length) data.length).foldl (rowStep l4 data) (putL data b.toNat (b+new.length).toNat new)
theorem cmn_ok {b e lo hi len:Int} (h0:0≤b) (h1:e≤len) (h2:e - b≤290):(cmn b e lo hi).1 < (cmn b e lo hi).2→0≤(cmn b e lo hi).1∧(cmn b e lo hi).1 % 2=0∧(cmn b e lo hi).2 % 2=0∧(cmn b e lo hi).2≤len+1∧(cmn b e lo hi).2 - (cmn b e lo hi).1≤300:=by
 unfold cmn
 split
 ·dsimp only;intro hh;exact L.q541 h0 h1 h2
 ·dsimp only;intro hh;omega
def rowOk (len:Int) (r:Row):Prop:=0≤r.1∧r.1+2≤len∧Strs len r.2∧r.2.length≤100
theorem rows_ok {kind l4 off hl b e len:Int} (h0:0≤b) (h1:e≤len) (h2:e - b≤290) (h3:20≤len):∀ r ∈ rowsL kind l4 off hl b e len,rowOk len r:=by
 intro r hr
 unfold rowsL at hr
 rcases List.mem_append.mp hr with hr | hr
 ·split at hr
  ·rcases List.mem_singleton.mp hr with rfl
   refine ⟨by dsimp only;exact L.q162,by dsimp only;exact L.q163 h3,?_,by simp⟩
   intro s hs
   rcases List.mem_singleton.mp hs with rfl
   exact cmn_ok h0 h1 h2
  ·simp at hr
 ·split at hr
  ·rename_i h
   rcases List.mem_singleton.mp hr with rfl
   refine ⟨by dsimp only;exact L.q164 h,by dsimp only;exact L.q165 h,?_,?_⟩
   ·intro s hs
    rcases List.mem_cons.mp hs with rfl | hs
    ·exact cmn_ok h0 h1 h2
    ·split at hs
     ·simp at hs
     ·rcases List.mem_singleton.mp hs with rfl
      split <;> exact cmn_ok h0 h1 h2
   ·dsimp only
    split <;> simp
  ·simp at hr
theorem mAt_len {before D:List Int} {place:Int} {sts:List (Int × Int)} {udp:Bool} (h0:0≤place) (h1:place+2≤D.length):(mAt before D place sts udp).length=D.length:=by
 unfold mAt
 split
 ·rfl
 ·rw [put_len h0 (L.q166) h1 (by rw [oct_len];exact L.q167)]
theorem mAt_Oct {before D:List Int} {place:Int} {sts:List (Int × Int)} {udp:Bool} (h:Oct D):Oct (mAt before D place sts udp):=by
 unfold mAt
 split
 ·exact h
 ·exact Oct_put h oct_Oct
theorem set_self {σ:List PV} {d:Nat} {x:PV} (h:σ[d]?=some x):σ.set d x=σ:=by
 obtain ⟨hi,e⟩:=List.getElem?_eq_some_iff.mp h
 rw [← e];exact List.set_getElem_self hi
theorem rl1 (b:Int):(Builtin.Range.rangeSize 0 b 1).toNat=b.toNat:=by
 unfold Builtin.Range.rangeSize
 rw [if_pos (by decide)]
 split
 ·exact L.q543
 ·omega
theorem rl2 (b:Int):(Builtin.Range.rangeSize 0 b 2).toNat=((b+1) / 2).toNat:=by
 unfold Builtin.Range.rangeSize
 rw [if_pos (by decide)]
 split
 ·exact L.q545 (by assumption)
 ·omega
theorem upj_eq (c:Int):∀ (n:Nat) (a:Int),upJ a c n=(List.range n).map fun i:Nat=>PV.int (a+i * c)
 | 0,a=>rfl
 | n+1,a=>by
  rw [List.range_succ_eq_map,List.map_cons,List.map_map]
  show PV.int a :: upJ (a+c) c n=_
  rw [upj_eq c n (a+c)]
  congr 1
  ·congr 1;push_cast;rw [Int.zero_mul,Int.add_zero]
  ·refine List.map_congr_left fun i _=>?_
   show PV.int _=PV.int _
   congr 1;push_cast;rw [Int.add_mul,Int.one_mul];exact L.q79
theorem up_eq (c:Int) (n:Nat) (a:Int):upI a c n=(List.range n).map fun i:Nat=>PV.int (a+i * c):=upI_eq.trans (upj_eq c n a)
theorem pw8 (j:Nat):(2:Int) ^ (8 * j)=256 ^ j:=by rw [Int.pow_mul];rfl
end
section
structure OS where
 f:Nat→Orc
 ok:∀ {k f_ n m:Nat} {c:CB} {vs σ:List PV} {K:PV→List PV→Prop},nth fiT f_=some (some ⟨n,m,c⟩)→inK fcc f_=true→entW (f k) n m (dflF f_) c vs σ K→f (k+1) f_ vs σ K
noncomputable def oS:OS:=⟨oF,fun e i h=>oF_s h e i⟩
theorem go {C:OS} {k f m:Nat} {c:CB} {vs σ:List PV} {K:PV→List PV→Prop} (e:nth fiT f=some (some ⟨vs.length,m,c⟩)) (i:inK fcc f=true) (d:dflF f=[]) (h:∀ R:Fl→St→Prop,(∀ {x r σ'},K x σ'→R (.ret x) ⟨r,σ'⟩)→(∀ {r σ'},K .none σ'→R .next ⟨r,σ'⟩)→wB (C.f k) c ⟨iniR vs m,σ⟩ R):C.f (k+1) f vs σ K:=by
 refine C.ok e i ?_
 unfold entW
 rw [d,show Nat.ble vs.length vs.length=true from Nat.ble_eq_true_of_le (Nat.le_refl _),show Nat.ble vs.length (vs.length+([]:List PV).length)=true from Nat.ble_eq_true_of_le (Nat.le_refl _),List.drop_nil,List.append_nil]
 exact h _ id id
theorem dt {p:Prop} [Decidable p] (h:p):decide p=true:=decide_eq_true h
theorem df {p:Prop} [Decidable p] (h:¬ p):decide p=false:=decide_eq_false h
theorem nt {p:Prop} [Decidable p] (h:¬ p):(!decide p)=true:=by rw [df h];rfl
theorem nf {p:Prop} [Decidable p] (h:p):(!decide p)=false:=by rw [dt h];rfl
theorem br_d {p:Prop} [Decidable p] {P Q:Prop} (h:p→P) (k:¬ p→Q):br (decide p) P Q:=br_i (fun e=>h (of_decide_eq_true e)) fun e=>k (of_decide_eq_false e)
theorem br_n {p:Prop} [Decidable p] {P Q:Prop} (h:¬ p→P) (k:p→Q):br (!decide p) P Q:=br_i (fun e=>h fun q=>by rw [dt q] at e;exact nomatch e) fun e=>k (Decidable.byContradiction fun q=>by rw [df q] at e;exact nomatch e)
theorem forW_use {α:Type} {step:PV→St→(Fl→St→Prop)→Prop} {pv:α→PV} (I:List α→St→Prop) {K:Fl→St→Prop}
  (h:∀ x l st,I (x :: l) st→(∀ st',I l st'→forW step (l.map pv) st' K)→step (pv x) st fun fl st=>match fl with | .next=>forW step (l.map pv) st K | .brk=>K .next st | .ret y=>K (.ret y) st)
  (k:∀ st,I [] st→K .next st):∀ l st,I l st→forW step (l.map pv) st K
 | [],st,i=>k st i
 | x :: l,st,i=>h x l st i (forW_use I h k l)
theorem whl_use {test:St→(Bool→St→Prop)→Prop} {step:St→(Fl→St→Prop)→Prop} {K:Fl→St→Prop} (I:Nat→St→Prop)
  (h:∀ k st (P:St→Prop),I k st→(∀ j st',j < k→I j st'→P st')→test st fun b st=>br b (step st fun fl st=>match fl with | .next=>P st | .brk=>K .next st | .ret y=>K (.ret y) st) (K .next st)) {k:Nat} {st:St} (i:I k st):∃ n,whlW test step n st K:=by
 have go:∀ n k st,k < n→I k st→whlW test step n st K:=by
  intro n
  induction n with
  | zero=>exact fun k st h=>absurd h (Nat.not_lt_zero _)
  | succ n ih=>exact fun k st hk i=>h k st _ i fun j st' hj i'=>ih j st' (Nat.lt_of_lt_of_le hj (Nat.le_of_lt_succ hk)) i'
 exact ⟨k+1,go _ k st (Nat.lt_succ_self _) i⟩
theorem lc_use {α:Type} {step:PV→List PV→(Option PV→List PV→Prop)→Prop} {pv:α→PV} (f:α→PV) {σ:List PV}:∀ {l:List α} {K:List PV→List PV→Prop},(∀ x ∈ l,∀ k:Option PV→List PV→Prop,k (some (f x)) σ→step (pv x) σ k)→K (l.map f) σ→lcW step (l.map pv) σ K
 | [],_,_,k=>k
 | x :: l,K,h,k=>h x List.mem_cons_self _ (lc_use (l:=l) (K:=fun r σ=>K (f x :: r) σ) f (fun y m=>h y (List.mem_cons_of_mem _ m)) k)
end
section
section
variable {C:OS} {k:Nat} {σ:List PV} {K:PV→List PV→Prop}
theorem w24 (l4:Int) (h:K (.int (spl l4)) σ):C.f (k+1) 24 [.int l4] σ K:=by
 refine go rfl rfl rfl fun R hR hN=>?_
 unfold spl at h
 refine br_d (fun e=>?_) fun e=>br_d (fun e1=>?_) fun e1=>br_d (fun e2=>?_) fun e2=>?_
 ·rw [if_pos e] at h;exact hR h
 ·rw [if_neg e,if_pos e1] at h;exact hR h
 ·rw [if_neg e,if_neg e1] at h
  have e2:l4=1 ∨ l4=58:=by simpa using e2
  split at h
  ·exact hR h
  ·rw [if_pos (e2.resolve_left ‹_›)] at h;exact hR h
 ·have e2:l4 ≠ 1∧l4 ≠ 58:=by simpa using e2
  rw [if_neg e,if_neg e1,if_neg e2.1,if_neg e2.2] at h;exact hR h
theorem w33 (nf:Int) (h:K (.tup ((if nf=2 then [3,4,5,11,12] else [1,2,3,4]).map .int)) σ):C.f (k+1) 33 [.int nf] σ K:=by
 refine go rfl rfl rfl fun R hR hN=>?_
 refine br_d (fun e=>?_) fun e=>?_
 ·rw [if_pos e] at h;exact hR h
 ·rw [if_neg e] at h;exact hR h
theorem lp4 (x:PV) {K:Fl→St→Prop} {D:Orc}:∀ (l:List Int) (n:Int) (y:LV),Oct l→0≤n→(n+1) * 256 ^ l.length≤256 ^ 31→(∀ y,K .next ⟨[x |> .v,.v (.int (l.foldl (fun n o=>n * 256+o) n)),y],σ⟩) →
  forW (fun y st k=>wG (.nm 4 2) y st.r fun r=>wB D (.cons (.asg 6 1 (.bin 8 .BitOr (.bin 9 .LShift (.loc 10 1) (.lit 11 (.int 8))) (.loc 12 2))) .nil) ⟨r,st.s⟩ k) (l.map .int) ⟨[.v x,.v (.int n),y],σ⟩ K
 | [],n,y,_,_,_,h=>h y
 | a :: l,n,y,ho,h0,h1,h=>by
  have ha:=ho a List.mem_cons_self
  have hn:n+1≤256 ^ 31:=by
   have p:(1:Int)≤256 ^ (a :: l).length:=Int.pow_pos (by decide)
   have:=Int.mul_le_mul_of_nonneg_left p (show 0≤n+1 by exact L.q82 h0)
   rw [Int.mul_one] at this
   exact Int.le_trans this h1
  refine gd_i ⟨by decide,by decide,by omega⟩ ?_
  have hs:Builtin.bitOr (n * 2 ^ (8:Int).toNat) a=n * 256+a:=bor h0 ha.1 ha.2
  rw [List.length_cons,Int.pow_succ] at h1
  have:=lp4 x (K:=K) (D:=D) l (n * 256+a) (.v (.int a)) (fun y m=>ho y (List.mem_cons_of_mem _ m)) (L.q168 h0 ha) (Int.le_trans (by
   have:=Int.mul_le_mul_of_nonneg_right (show n * 256+a+1≤(n+1) * 256 by exact L.q169 ha) (show (0:Int)≤256 ^ l.length from Int.le_of_lt (Int.pow_pos (by decide)))
   rwa [Int.mul_assoc,Int.mul_comm 256] at this) h1) h
  rw [← hs] at this
  exact this
theorem w4_ (x:PV) (l:List Int) (ho:Oct l) (hl:l.length≤30) (h:K (.int (num l)) σ) (hx:∀ K,K (l.map .int)→itsW σ x K):C.f (k+1) 4 [x] σ K:=by
 refine go rfl rfl rfl fun R hR hN=>?_
 refine hx (fun l=>forW _ l _ _) (lp4 x l 0 .un ho (Int.le_refl _) (by rw [Int.zero_add,Int.one_mul];exact pow_le (L.q170 hl)) fun y=>hR h)
theorem w4b (l:List Int) (ho:Oct l) (hl:l.length≤30) (h:K (.int (num l)) σ):C.f (k+1) 4 [.bytes l] σ K:=w4_ _ l ho hl h fun _ h=>h
theorem w4a (l:List Int) (ho:Oct l) (hl:l.length≤30) (h:K (.int (num l)) σ):C.f (k+1) 4 [.ba l] σ K:=w4_ _ l ho hl h fun _ h=>h
theorem w6 (t:Int) (h0:0≤t) (h1:t < 4294967296) (h:K (.int (fold t)) σ):C.f (k+1) 6 [.int t] σ K:=by
 refine go rfl rfl rfl fun R hR hN=>?_
 refine whl_use (k:=if t≤65535 then 0 else if t≤131070 then 1 else 2) (fun n st=>∃ a,st=⟨[.v (.int a)],σ⟩∧0≤a∧a < 4294967296∧fold a=fold t∧n=if a≤65535 then 0 else if a≤131070 then 1 else 2) ?_ ⟨t,rfl,h0,h1,rfl,rfl⟩
 rintro n _ P ⟨a,rfl,a0,a1,a2,rfl⟩ hp
 refine br_n (fun e=>?_) fun e=>?_
 ·have e:a / 65536 ≠ 0:=e
  refine hp _ _ ?_ ⟨_,rfl,?_,?_,?_,rfl⟩
  ·rw [show Builtin.bitAnd a 65535=a % 65536 from bitAnd_m16 a]
   show _ < _
   rw [show (2:Int) ^ (16:Int).toNat=65536 from rfl]
   repeat' split
   all_goals omega
  all_goals rw [show Builtin.bitAnd a 65535=a % 65536 from bitAnd_m16 a,show (2:Int) ^ (16:Int).toNat=65536 from rfl]
  ·exact L.q171 a0
  ·exact L.q172 a1
  ·rw [fold_step (L.q173 a0 e),a2]
 ·have e:a / 65536=0:=e
  rw [← a2,fold_small a0 (L.q174 e)] at h
  exact hR h
end
end
section
noncomputable def kd (nf:Int):Int:=if nf=2 then 2048 else 34525
noncomputable abbrev pkt (d l:Nat) (nf l4 off pl:Int):PV:=.att [0,1,2,3,4,5,6] [.ref d,.ref l,.int (kd nf),.int l4,.int off,.int pl,.any]
noncomputable def bs (t:Bool):Str:=match t with | true => "transport" | false => "network"
noncomputable def bo (t:Bool) (off:Int):Int:=match t with | true=>off | false=>0
theorem kb {K:PV→List PV→Prop} {σ:List PV} {a b:Bool} (h:K (.bool a) σ) (e:a=b):K (.bool b) σ:=e ▸ h
theorem lz {α:Type} {l:List α}:0≤(l.length:Int):=Int.natCast_nonneg _
section
variable {C:OS} {k:Nat} {σ:List PV} {K:PV→List PV→Prop} {p d l:Nat} {nf l4 off pl:Int} {data:List Int}
theorem w20 (hn:nf=2 ∨ nf=10) (hp:σ[p]?=some (pkt d l nf l4 off pl)) (h:K (.int nf) σ):C.f (k+1) 20 [.inst 17 p] σ K:=by
 refine go rfl rfl rfl fun R hR hN=>?_
 rcases hn with rfl | rfl <;> (repeat (first | refine gs_i ‹_› ?_ | refine gd_i (by decide) ?_ | refine br_f (df ‹_›) ?_ | refine br_f (df (Int.not_lt.mpr ‹_›)) ?_ | refine br_t (dt ‹_›) ?_ | refine br_t (dt (Int.not_le.mp ‹_›)) ?_)) <;> exact hR h
theorem w38 {pr:Int} (hn:nf=2 ∨ nf=10) (h:K (.bool (isP nf pr)) σ):C.f (k+1) 38 [.int nf,.int pr] σ K:=by
 refine go rfl rfl rfl fun R hR hN=>?_
 rcases hn with rfl | rfl <;> (repeat (first | refine gs_i ‹_› ?_ | refine gd_i (by decide) ?_ | refine br_f (df ‹_›) ?_ | refine br_f (df (Int.not_lt.mpr ‹_›)) ?_ | refine br_t (dt ‹_›) ?_ | refine br_t (dt (Int.not_le.mp ‹_›)) ?_))
 ·exact br_d (fun e=>hR (kb h (beq_iff_eq.mpr e))) fun e=>hR (kb h (beq_false_of_ne e))
 ·exact hR (kb h rfl)
theorem w25 {b e lo hi:Int} (h:K (.tup [.int (cmn b e lo hi).1,.int (cmn b e lo hi).2]) σ):C.f (k+1) 25 [.int b,.int e,.int lo,.int hi] σ K:=by
 refine go rfl rfl rfl fun R hR hN=>?_
 unfold cmn at h
 refine br_d (fun q=>?_) fun q=>?_
 ·rw [if_neg (by exact Int.not_lt.mpr q)] at h;exact hR h
 ·rw [if_pos (by exact Int.not_le.mp q)] at h
  exact hR h
theorem w21 {t:Bool} (ho:0≤bo t off) (hp:σ[p]?=some (pkt d l nf l4 off pl)) (h:K (.tup [.ref d,.int (bo t off)]) σ):C.f (k+1) 21 [.inst 17 p,.str (bs t)] σ K:=by
 refine go rfl rfl rfl fun R hR hN=>?_
 cases t
 ·exact gs_i hp (hR h)
 ·have ho:0≤off:=ho
  repeat (first | refine gs_i ‹_› ?_ | refine gd_i (by decide) ?_ | refine br_f (df ‹_›) ?_ | refine br_f (df (Int.not_lt.mpr ‹_›)) ?_ | refine br_t (dt ‹_›) ?_ | refine br_t (dt (Int.not_le.mp ‹_›)) ?_)
  exact hR h
theorem w21x (ho:¬ 0≤off) (hp:σ[p]?=some (pkt d l nf l4 off pl)) (h:K .none σ):C.f (k+1) 21 [.inst 17 p,.str (bs true)] σ K:=by
 refine go rfl rfl rfl fun R hR hN=>?_
 repeat (first | refine gs_i ‹_› ?_ | refine gd_i (by decide) ?_ | refine br_f (df ‹_›) ?_ | refine br_f (df (Int.not_lt.mpr ‹_›)) ?_ | refine br_t (dt ‹_›) ?_ | refine br_t (dt (Int.not_le.mp ‹_›)) ?_)
 exact hR h
theorem w22 {t:Bool} {a b g:Int} (hp:σ[p]?=some (pkt d l nf l4 off pl)) (hd:σ[d]?=some (.ba data)) (h0:0≤a) (h1:0≤b) (hg:bo t off+a=g)
  (h:0≤bo t off→g+b≤data.length→K (.bytes (sl data g (g+b))) σ) (hx:¬ (0≤bo t off∧g+b≤data.length)→K .none σ):C.f (k+2) 22 [.inst 17 p,.str (bs t),.int a,.int b] σ K:=by
 refine go rfl rfl rfl fun R hR hN=>?_
 subst hg
 by_cases ho:0≤bo t off
 ·refine w21 ho hp ?_
  repeat (first | refine gs_i ‹_› ?_ | refine gd_i (by decide) ?_ | refine br_f (df ‹_›) ?_ | refine br_f (df (Int.not_lt.mpr ‹_›)) ?_ | refine br_t (dt ‹_›) ?_ | refine br_t (dt (Int.not_le.mp ‹_›)) ?_)
  refine br_d (fun e=>hR (hx fun q=>Int.not_le.mpr e q.2)) fun e=>gd_i (Int.add_nonneg ho h0) (gd_i (Int.add_nonneg (Int.add_nonneg ho h0) h1) (gs_i hd (hR (h ho (Int.not_lt.mp e)))))
 ·cases t
  ·exact absurd (Int.le_refl 0) ho
  ·refine w21x ho hp ?_
   repeat (first | refine gs_i ‹_› ?_ | refine gd_i (by decide) ?_ | refine br_f (df ‹_›) ?_ | refine br_f (df (Int.not_lt.mpr ‹_›)) ?_ | refine br_t (dt ‹_›) ?_ | refine br_t (dt (Int.not_le.mp ‹_›)) ?_)
   exact hR (hx fun q=>ho q.1)
theorem w23 {t:Bool} {a g:Int} {new:List Int} (hp:σ[p]?=some (pkt d l nf l4 off pl)) (hd:σ[d]?=some (.ba data)) (ho:0≤bo t off) (h0:0≤a) (hg:bo t off+a=g) (h1:g+new.length≤data.length)
  (h:K .none (σ.set d (.ba (putL data g.toNat (g+new.length).toNat new)))):C.f (k+2) 23 [.inst 17 p,.str (bs t),.int a,.bytes new] σ K:=by
 refine go rfl rfl rfl fun R hR hN=>?_
 subst hg
 refine w21 ho hp ?_
 repeat (first | refine gs_i ‹_› ?_ | refine gd_i (by decide) ?_ | refine br_f (df ‹_›) ?_ | refine br_f (df (Int.not_lt.mpr ‹_›)) ?_ | refine br_t (dt ‹_›) ?_ | refine br_t (dt (Int.not_le.mp ‹_›)) ?_)
 have z:0≤bo t off+a:=Int.add_nonneg ho h0
 exact gd_i ⟨⟨z,Int.le_add_of_nonneg_right lz⟩,h1,by exact L.q175⟩ (hN h)
end
end
section
theorem m8 {a:Int}:a.natAbs < 2 ^ 64 ∨ (8:Int).natAbs < 2 ^ 64:=.inr (by decide)
theorem asIs_map {α:Type} {g:α→Int}:∀ {l:List α} {K:List Int→Prop},K (l.map g)→asIs (l.map fun a=>PV.int (g a)) K
 | [],_,h=>h
 | a :: _,K,h=>asIs_map (K:=fun r=>K (g a :: r)) h
theorem up1 (n:Int):upI 0 1 (Builtin.Range.rangeSize 0 n 1).toNat=(List.range n.toNat).map fun i:Nat=>PV.int i:=by
 rw [rl1,up_eq]
 refine List.map_congr_left fun i _=>?_
 rw [Int.mul_one,Int.zero_add]
theorem up2 (n:Int):upI 0 2 (Builtin.Range.rangeSize 0 n 2).toNat=(List.range ((n+1) / 2).toNat).map fun i:Nat=>PV.int (2 * i):=by
 rw [rl2,up_eq]
 refine List.map_congr_left fun i _=>?_
 rw [Int.mul_comm,Int.zero_add]
theorem lc_up {step:PV→List PV→(Option PV→List PV→Prop)→Prop} {σ:List PV} {K:List PV→List PV→Prop} (f:Nat→Int) {n:Int} (h:∀ i:Nat,(i:Int) < n→∀ k:Option PV→List PV→Prop,k (some (.int (f i))) σ→step (.int i) σ k)
  (q:K ((List.range n.toNat).map fun i=>.int (f i)) σ):lcW step (upI 0 1 (Builtin.Range.rangeSize 0 n 1).toNat) σ K:=by
 rw [up1]
 exact lc_use (fun i:Nat=>.int (f i)) (fun i hi=>h i (Int.lt_toNat.mp (List.mem_range.mp hi))) q
abbrev Dr (σ:List PV) (x:PV) (data:List Int):Prop:=∀ K:PV→Prop,K (.ba data)→drf σ x K
theorem dr_ref {σ:List PV} {d:Nat} {data:List Int} (h:σ[d]?=some (.ba data)):Dr σ (.ref d) data:=fun _ q=>gs_i h q
theorem dr_ba {σ:List PV} {data:List Int}:Dr σ (.ba data) data:=fun _ q=>q
noncomputable def szA (data:List Int) (a kind:Int):Int:=if hsz kind 0=0 then 0 else if (data.length:Int) < a+2 then -1 else if (data.length:Int) < a+hsz kind (ix data (a+1)) then -1 else hsz kind (ix data (a+1))
noncomputable def plA (data:List Int) (a:Int):Int:=Builtin.bitAnd (num (sl data (a+2) (a+4))) 65528
section
variable {C:OS} {k:Nat} {σ:List PV} {K:PV→List PV→Prop} {p d l:Nat} {nf l4 off pl:Int} {data:List Int}
theorem iti {c:Prop} [Decidable c] {a b:Int} (e:c) (h:K (.int (if c then a else b)) σ):K (.int a) σ:=by rw [if_pos e] at h;exact h
theorem iei {c:Prop} [Decidable c] {a b:Int} (e:¬ c) (h:K (.int (if c then a else b)) σ):K (.int b) σ:=by rw [if_neg e] at h;exact h
theorem w11 {a b:Int} (h:K (.int (hsz a b)) σ):C.f (k+1) 11 [.int a,.int b] σ K:=by
 refine go rfl rfl rfl fun R hR hN=>?_
 unfold hsz at h
 refine br_d (fun e=>hR (iti e h)) fun e=>?_
 replace h:=iei e h
 refine br_d (fun e=>hR (iti e h)) fun e=>?_
 replace h:=iei e h
 exact br_d (fun e=>hR (iti e h)) fun e=>hR (iei e h)
theorem w12 {x:PV} {a kind:Int} (hx:Dr σ x data) (h0:0≤a) (h:K (.int (szA data a kind)) σ):C.f (k+2) 12 [x,.int a,.int kind,.int data.length] σ K:=by
 refine go rfl rfl rfl fun R hR hN=>w11 ?_
 unfold szA at h
 refine br_d (fun e=>hR (iti e h)) fun e=>?_
 replace h:=iei e h
 refine br_d (fun e=>hR (iti e h)) fun e=>?_
 replace h:=iei e h
 refine hx _ (gd_i (L.q176 h0 e) (w11 ?_))
 exact br_d (fun e=>hR (iti e h)) fun e=>hR (iei e h)
theorem w4a' {a b:Int} (ho:Oct data) (h0:0≤a) (hb:b - a≤30) (h:K (.int (num (sl data a b))) σ):C.f (k+1) 4 [.ba (sl data a b)] σ K:=w4a _ (Oct_sl ho) (sl_le (m:=30) hb h0) h
theorem w13 {x:PV} {a:Int} (hx:Dr σ x data) (ho:Oct data) (h0:0≤a) (h:K (.int (plA data a)) σ):C.f (k+2) 13 [x,.int a] σ K:=by
 refine go rfl rfl rfl fun R hR hN=>gd_i (Int.add_nonneg h0 (by decide)) (gd_i (Int.add_nonneg h0 (by decide)) (hx _ (w4a' ho (Int.add_nonneg h0 (by decide)) ?_ (hR h))))
 exact L.q177
theorem w5 {n:Int} {m:Nat} (hm:m≤16) (h0:0≤n) (h1:n < 256 ^ m) (h:K (.bytes (oct n m)) σ):C.f (k+1) 5 [.int n,.int m] σ K:=by
 refine go rfl rfl rfl fun R hR hN=>?_
 have e:oct n m=(List.range (m:Int).toNat).map fun i:Nat=>Builtin.bitAnd (n / 2 ^ (8 * ((m:Int) - 1 - (i:Int))).toNat) 255:=List.map_congr_left fun i hi=>by
  have hi:=List.mem_range.mp hi
  rw [bitAnd_m8,show (8 * ((m:Int) - 1 - (i:Int))).toNat=8 * (m - 1 - i) by exact L.q178 hi,pw8]
 have h2:n / 2 ^ (8 * (m:Int)).toNat=0:=by
  rw [show (8 * (m:Int)).toNat=8 * m by exact L.q179,pw8]
  exact Int.ediv_eq_zero_of_lt h0 h1
 refine br_f (df (Int.not_lt.mpr h0)) (gd_i m8 (br_f (nf h2) (gd_i (L.q180 hm) ?_)))
 refine lc_up (fun i:Nat=>Builtin.bitAnd (n / 2 ^ (8 * ((m:Int) - 1 - (i:Int))).toNat) 255) (fun i hi k q=>gd_i m8 ?_) ?_
 ·exact gd_i (L.q181 hi) q
 ·refine asIs_map ?_
  rw [← e]
  exact gp_i oct_Oct (hR h)
theorem w7 {c:Int} {a b:List Int} (ha:Oct a) (hb:Oct b) (hl:a.length=b.length) (he:a.length % 2=0) (hz:a.length≤300) (h0:0≤c) (h1:c≤65535) (h:K (.int (mendM c a b)) σ):C.f (k+2) 7 [.int c,.bytes a,.bytes b] σ K:=by
 have hr:(((a.length:Int)+1) / 2).toNat=a.length / 2:=L.q182 he
 have ht:=mtot_range ha hb hl (a.length / 2) (65535 - c) (L.q149) (L.q150 h1)
 refine go rfl rfl rfl fun R hR hN=>br_f (nf (congrArg _ hl)) (br_f (df (L.q183 he)) (gd_i (L.q184 hz) ?_))
 show forW _ (upI 0 2 _) _ _
 rw [up2,hr]
 refine forW_use (fun (l:List Nat) st=>∃ t y,st=⟨[.v (.int c),.v (.bytes a),.v (.bytes b),.v (.int t),y,.un,.un,.un,.un],σ⟩∧l.foldl (mstep a b) t=(List.range (a.length / 2)).foldl (mstep a b) (65535 - c)∧∀ i ∈ l,2 * i+1 < a.length) ?_ ?_ _ _ ⟨_,_,rfl,rfl,fun i hi=>by have:=List.mem_range.mp hi;exact L.q185 this⟩
 ·rintro i l _ ⟨t,y,rfl,q1,q2⟩ ih
  have hi:=q2 i List.mem_cons_self
  have a1:=ix_oct ha (k:=2 * i) (L.q139) (L.q140 hi)
  have a2:=ix_oct ha (k:=2 * i+1) (L.q141) (L.q142 hi)
  have b1:=ix_oct hb (k:=2 * i) (L.q139) (L.q186 hl hi)
  have b2:=ix_oct hb (k:=2 * i+1) (L.q141) (L.q187 hl hi)
  have g0:(0:Int)≤2 * i∧(2 * i:Int) < a.length:=L.q188 hi
  have g1:(0:Int)≤2 * i+1∧(2 * i+1:Int) < a.length:=L.q189 hi
  refine gd_i g0 (gd_i (by omega) (gd_i g1 (gd_i (hl ▸ g0) (gd_i (by omega) (gd_i (hl ▸ g1) ?_)))))
  refine ih _ ⟨mstep a b t i,.v (.int (2 * i)),?_,q1,fun j hj=>q2 j (List.mem_cons_of_mem _ hj)⟩
  exact congrArg (fun z=>St.mk [.v (.int c),.v (.bytes a),.v (.bytes b),.v (.int z),_,.un,.un,.un,.un] σ) (show _=t+65535 - wd a i+wd b i by unfold wd;rw [← bor a1.1 a2.1 a2.2,← bor b1.1 b2.1 b2.2];rfl)
 ·rintro _ ⟨t,y,rfl,q1,_⟩
  have q1:t=_:=q1
  subst q1
  exact w6 _ ht.1 (L.q190 hz h0 ht) (hR h)
end
end
section
structure T6 where
 nf:Int
 pr:Int
 src:Int
 sp:Int
 dst:Int
 dp:Int
noncomputable def lkD:List Int→List Int→Int→Int→Int
 | k :: ks,v :: vs,j,z=>if j=k then v else lkD ks vs j z
 | _,_,_,z=>z
noncomputable def adr (nf:Int):Int:=if nf=2 then 12 else 8
noncomputable def adz (nf:Int):Int:=if nf=2 then 4 else 16
noncomputable def plc (z pr:Int):Int:=lkD [6,17,1,58] [16,6,2,2] pr z
theorem plc_eq {z pr:Int}:plc z pr=if pr=6 then 16 else if pr=17 then 6 else if pr=1 then 2 else if pr=58 then 2 else z:=rfl
theorem num_sum:∀ l:List Int,((List.range l.length).map fun k:Nat=>ix l k * 256 ^ (l.length - 1 - k)).sum=num l
 | []=>rfl
 | a :: l=>by
  rw [num_cons,List.length_cons,List.range_succ_eq_map,List.map_cons,List.map_map,List.sum_cons]
  congr 1
  rw [← num_sum l]
  congr 1
  apply List.map_congr_left
  intro k hk
  have hk:=List.mem_range.mp hk
  have e1:ix (a :: l) ((Nat.succ k:Nat):Int)=ix l k:=by
   unfold ix
   simp only [Int.toNat_natCast]
   rfl
  have e2:l.length+1 - 1 - Nat.succ k=l.length - 1 - k:=by lia
  simp only [Function.comp_apply,e1,e2]
theorem sl_two {l:List Int} {a:Int} (h0:0≤a) (h1:a+2≤l.length):sl l a (a+2)=[ix l a,ix l (a+1)]:=by
 obtain ⟨n,rfl⟩:=Int.eq_ofNat_of_zero_le h0
 apply List.ext_getElem?
 intro i
 unfold sl ix
 rw [List.getElem?_drop]
 have e1:((n:Int)+2).toNat=n+2:=L.q389
 have e2:((n:Int)+1).toNat=n+1:=L.q390 h0
 rw [e1,e2,Int.toNat_natCast]
 match i with
 | 0 =>
  rw [List.getElem?_take_of_lt (L.q391)]
  have:n < l.length:=L.q392 h1
  simp [this]
 | 1 =>
  rw [List.getElem?_take_of_lt (L.q393)]
  have:n+1 < l.length:=L.q394 h1
  simp [this]
 | i+2 =>
  rw [List.getElem?_eq_none (by rw [List.length_take];exact L.q395)]
  simp
theorem num_two (a b:Int):num [a,b]=a * 256+b:=by simp [num]
noncomputable def pad (l:List Int):List Int:=if l.length % 2=1 then l ++ [0] else l
theorem pad_len {l:List Int}:(pad l).length=(l.length+1) / 2 * 2:=by
 unfold pad;split
 ·rw [List.length_append,List.length_singleton];exact L.q396 (by assumption)
 ·exact L.q397 (by assumption)
theorem ix_app {l:List Int} {k:Int} {m:List Int} (h0:0≤k) (h1:k < l.length):ix (l ++ m) k=ix l k:=by
 unfold ix
 have:k.toNat < l.length:=L.q398 h0 h1
 simp [List.getElem?_append_left this]
theorem wd_pad {l:List Int} {i:Nat} (h:i < (l.length+1) / 2):num (sl (l ++ [0]) (2 * i) (2 * i+2))=wd (pad l) i:=by
 rw [sl_two (L.q139) (by rw [List.length_append,List.length_singleton];exact L.q399 h),num_two]
 unfold wd pad
 split
 ·rfl
 ·rw [ix_app (L.q139) (L.q400 h),ix_app (L.q141) (L.q401 h (by assumption))]
noncomputable def adrL (nf n:Int):Int:=if nf=2 then 167772160+n else 536939960 * 2 ^ 96+2 ^ 64 * n+n
noncomputable def lpp (nf pr off tp:Int) (data:List Int) (src:Bool):Int :=
 if off < 0 ∨ pr ≠ tp then -1 else if pr=6 ∨ pr=17 then (if src=true then off else off+2)
 else if isP nf pr=true∧off < data.length∧0≤ansK nf (ix data off) then off+4 else -1
noncomputable def hdz (nf:Int):Int:=if nf=2 then 20 else 40
noncomputable def made0 (a:Int) (new data:List Int):List Int:=data.take a.toNat ++ new ++ data.drop (a+new.length).toNat
noncomputable def made1 (nf pr a:Int) (new data:List Int):List Int :=
 if nf=2∧a < 20∧0≤pr then putL (made0 a new data) 10 12 (oct (mendM (num (sl data 10 12)) (pad (sl data a (a+new.length))) (pad new)) 2) else made0 a new data
noncomputable def putM (nf pr off a:Int) (new data:List Int):List Int :=
 if sl data a (a+new.length)=new then data
 else if off < 0 ∨ (data.length:Int) < off+plc 9999 pr+2 ∨ (a < hdz nf∧pr=1) then made1 nf pr a new data
 else if pr=17∧num (sl data (off+plc 9999 pr) (off+plc 9999 pr+2))=0 then made1 nf pr a new data
 else putL (made1 nf pr a new data) (off+plc 9999 pr).toNat (off+plc 9999 pr+2).toNat
  (oct (if pr=17∧mendM (num (sl data (off+plc 9999 pr) (off+plc 9999 pr+2))) (pad (sl data a (a+new.length))) (pad new)=0 then 65535 else mendM (num (sl data (off+plc 9999 pr) (off+plc 9999 pr+2))) (pad (sl data a (a+new.length))) (pad new)) 2)
theorem made0_len {a:Int} {new data:List Int} (h0:0≤a) (h1:a+new.length≤data.length):(made0 a new data).length=data.length:=by
 unfold made0;simp only [List.length_append,List.length_take,List.length_drop];exact L.q402 h0 h1
theorem made0_Oct {a:Int} {new data:List Int} (h:Oct data) (hn:Oct new):Oct (made0 a new data):=Oct_app (Oct_app (Oct_take h) hn) (Oct_drop h)
theorem made1_len {nf pr a:Int} {new data:List Int} (h0:0≤a) (h1:a+new.length≤data.length) (h20:20≤data.length):(made1 nf pr a new data).length=data.length:=by
 unfold made1
 split
 ·have e:=put_len (a:=made0 a new data) (b:=oct (mendM (num (sl data 10 12)) (pad (sl data a (a+new.length))) (pad new)) 2) (i:=10) (j:=12) (L.q162) (L.q403) (by rw [made0_len h0 h1];exact L.q196 h20) (by rw [oct_len];rfl)
  rw [made0_len h0 h1] at e
  exact e
 ·exact made0_len h0 h1
theorem made1_Oct {nf pr a:Int} {new data:List Int} (h:Oct data) (hn:Oct new):Oct (made1 nf pr a new data):=by
 unfold made1
 split
 ·exact Oct_put (made0_Oct h hn) oct_Oct
 ·exact made0_Oct h hn
theorem plc_nn {pr:Int}:2≤plc 9999 pr:=by
 rw [plc_eq];repeat' split
 all_goals lia
theorem putM_len {nf pr off a:Int} {new data:List Int} (h0:0≤a) (h1:a+new.length≤data.length) (h20:20≤data.length):(putM nf pr off a new data).length=data.length:=by
 unfold putM
 have hp:=plc_nn (pr:=pr)
 split
 ·rfl
 ·split
  ·exact made1_len h0 h1 h20
  ·split
   ·exact made1_len h0 h1 h20
   ·rename_i h _
    rw [put_len (L.q404 hp h) (L.q223) (by rw [made1_len h0 h1 h20];exact L.q224 h) (by rw [oct_len];exact L.q225),made1_len h0 h1 h20]
theorem putM_Oct {nf pr off a:Int} {new data:List Int} (h:Oct data) (hn:Oct new):Oct (putM nf pr off a new data):=by
 unfold putM
 split
 ·exact h
 ·split
  ·exact made1_Oct h hn
  ·split
   ·exact made1_Oct h hn
   ·exact Oct_put (made1_Oct h hn) oct_Oct
noncomputable def wrM (nf pr off:Int) (t:T6) (src:Bool) (data:List Int):List Int :=
 if t.nf ≠ nf then data else
 let d1:=putM nf pr off (adr nf+if src=true then 0 else adz nf) (oct (if src=true then t.src else t.dst) (adz nf).toNat) data
 let q:=lpp nf pr off t.pr data src
 if 0≤q∧q≤data.length - 2 then putM nf pr off q (oct (if src=true ∨ ¬ (t.pr=6 ∨ t.pr=17) then t.sp else t.dp) 2) d1 else d1
theorem sl_get {α:Type} {l:List α} {a b:Int} (h0:0≤a) (i:Nat):(sl l a b)[i]?=if a+i < b then l[a.toNat+i]? else none:=by
 unfold sl
 rw [List.getElem?_drop]
 split
 ·rw [List.getElem?_take_of_lt (L.q405 h0 (by assumption))]
 ·rw [List.getElem?_eq_none (by rw [List.length_take];exact L.q406 h0 (by assumption))]
theorem put_get {D w:List Int} {i j:Nat} (hij:i≤j) (hj:j≤D.length) (hw:w.length=j - i) (k:Nat):(putL D i j w)[k]?=if k < i then D[k]? else if k < j then w[k - i]? else D[k]?:=by
 unfold putL
 have hm:max i j=j:=L.q407 hij
 rw [hm,List.append_assoc]
 have ht:(D.take i).length=i:=by rw [List.length_take];exact L.q408 hij hj
 by_cases h1:k < i
 ·rw [if_pos h1,List.getElem?_append_left (L.q409 ht h1),List.getElem?_take_of_lt h1]
 ·rw [if_neg h1,List.getElem?_append_right (L.q410 ht h1),ht]
  by_cases h2:k < j
  ·rw [if_pos h2,List.getElem?_append_left (L.q411 hw h1 h2)]
  ·rw [if_neg h2,List.getElem?_append_right (L.q412 hw h2),List.getElem?_drop,hw]
   congr 1;exact L.q413 hij h2
theorem sl_put {D w:List Int} {i j a b:Int} (h0:0≤i) (hij:i≤j) (hj:j≤D.length) (hw:(w.length:Int)=j - i) (ha:0≤a) (hd:j≤a ∨ b≤i):sl (putL D i.toNat j.toNat w) a b=sl D a b:=by
 apply List.ext_getElem?
 intro k
 rw [sl_get ha,sl_get ha]
 split
 ·rw [put_get (L.q414 hij) (L.q218 hj) (L.q415 h0 hw)]
  rcases hd with h | h
  ·rw [if_neg (L.q416 h0 hij ha h),if_neg (L.q417 h0 hij ha h)]
  ·rw [if_pos (L.q418 ha (by assumption) h)]
 ·rfl
theorem sl_put_in {D w:List Int} {i j:Int} (h0:0≤i) (hij:i≤j) (hj:j≤D.length) (hw:(w.length:Int)=j - i):sl (putL D i.toNat j.toNat w) i j=w:=by
 apply List.ext_getElem?
 intro k
 rw [sl_get h0]
 split
 ·rw [put_get (L.q419 (by assumption)) (L.q218 hj) (L.q415 h0 hw),if_neg (L.q420),if_pos (L.q405 h0 (by assumption))]
  congr 1;exact L.q421
 ·rw [List.getElem?_eq_none (L.q422 hw (by assumption))]
theorem put_same {D:List Int} {i j:Int} (h0:0≤i) (hij:i≤j) (hj:j≤D.length):putL D i.toNat j.toNat (sl D i j)=D:=by
 apply List.ext_getElem?
 intro k
 rw [put_get (L.q423 h0 hij) (L.q218 hj) (by rw [sl_len h0 hij hj];exact L.q424 h0)]
 split
 ·rfl
 ·split
  ·rw [sl_get h0,if_pos (L.q425 h0 (by assumption) (by assumption))]
   congr 1;exact L.q426 (by assumption)
  ·rfl
theorem oct_num2 {l:List Int} (h:Oct l) (hl:l.length=2):oct (num l) 2=l:=by
 match l,hl with
 | [a,b],_ =>
  have ha:=h a (by simp)
  have hb:=h b (by simp)
  rw [num_two]
  unfold oct
  simp only [List.range_succ,List.range_zero,List.nil_append,List.cons_append,List.map_cons,List.map_nil]
  congr 1
  ·show (a * 256+b) / 256 ^ 1 % 256=a
   lia
  ·congr 1
   show (a * 256+b) / 256 ^ 0 % 256=b
   exact L.q427 hb
theorem made0_put {a:Int} {new data:List Int} (h0:0≤a):made0 a new data=putL data a.toNat (a+new.length).toNat new:=by
 unfold made0 putL
 have:max a.toNat (a+new.length).toNat=(a+new.length).toNat:=L.q428 h0
 rw [this]
theorem pad_even {l:List Int} (h:l.length % 2=0):pad l=l:=by unfold pad;rw [if_neg (L.q429 h)]
theorem prOf_pad {l:List Int} {a e:Int} (h0:0≤a) (h1:a≤e) (h2:e≤l.length) (ha:a % 2=0) (he:e % 2=0 ∨ e=l.length):prOf l a ((e+1) / 2 * 2)=pad (sl l a e):=by
 have hl:=sl_len h0 h1 h2
 by_cases hev:e % 2=0
 ·have e1:(e+1) / 2 * 2=e:=L.q430 hev
  rw [e1]
  unfold prOf
  rw [if_neg (L.q431 hl),pad_even (L.q432 ha hl e1)]
 ·have e1:(e+1) / 2 * 2=e+1:=L.q433 hev
  have e2:e=l.length:=he.resolve_left hev
  have e3:sl l a (e+1)=sl l a e:=by
   unfold sl
   rw [List.take_of_length_le (L.q434 e2),List.take_of_length_le (L.q435 e2)]
  rw [e1]
  unfold prOf
  rw [e3,if_pos (L.q436 h1 hl)]
  unfold pad
  rw [if_pos (L.q437 h1 ha hl e1)]
theorem strm_no {before D:List Int} {c:Int}:strm before D c (0,0)=c:=by unfold strm;simp
theorem strm_one {before D:List Int} {c a e:Int} {new:List Int} (hD:D.length=before.length) (h0:0≤a) (h1:a < e) (h2:e≤before.length) (ha:a % 2=0) (he:e % 2=0 ∨ e=before.length) (hn:sl D a e=new):strm before D c (a,(e+1) / 2 * 2)=mendM c (pad (sl before a e)) (pad new):=by
 unfold strm
 rw [if_pos (by dsimp only;exact L.q438 h1)]
 dsimp only
 rw [prOf_pad h0 (L.q439 h1) h2 ha he,prOf_pad h0 (L.q439 h1) (L.q440 hD h2) ha (L.q441 hD he),hn]
theorem cmn_in {b e lo hi:Int} (h1:lo≤b) (h2:e≤hi) (h3:b < e) (h4:b % 2=0):cmn b e lo hi=(b,(e+1) / 2 * 2):=by
 unfold cmn
 rw [if_pos (L.q442 h1 h2 h3)]
 have e1:max b lo=b:=L.q443 h1
 have e2:min e hi=e:=L.q444 h2
 rw [e1,e2]
 congr 1;exact L.q445 h4
theorem cmn_out {b e lo hi:Int} (h:hi≤b ∨ e≤lo):cmn b e lo hi=(0,0):=by
 unfold cmn;rw [if_neg (L.q446 h)]
theorem mAt_same {before D:List Int} {p:Int} {sts:List (Int × Int)} (hb:Oct before) (h0:0≤p) (h1:p+2≤D.length) (hl:D.length=before.length) (hs:sl D p (p+2)=sl before p (p+2)) (hc:chk before D p sts=num (sl before p (p+2))):mAt before D p sts false=D:=by
 unfold mAt
 rw [if_neg (by simp),if_neg (by simp),hc,oct_num2 (Oct_sl hb) (by rw [sl_len h0 (L.q166) (L.q447 h1 hl)];exact L.q332),← hs]
 exact put_same h0 (L.q166) h1
theorem plc_spl {l4:Int}:(0≤spl l4∧plc 9999 l4=spl l4) ∨ (spl l4 < 0∧plc 9999 l4=9999):=by
 rw [plc_eq];unfold spl
 repeat' split
 all_goals lia
theorem mAt_udp {before D:List Int} {p c l4:Int} {sts:List (Int × Int)} (hp:p ≠ 10) (hc:chk before D p sts=c):mAt before D p sts (decide (l4=17) && !decide (p=10))=if l4=17∧num (sl before p (p+2))=0 then D else putL D p.toNat (p+2).toNat (oct (if l4=17∧c=0 then 65535 else c) 2):=by
 have e:(decide (l4=17) && !decide (p=10))=decide (l4=17):=by rw [decide_eq_false hp];exact Bool.and_true _
 unfold mAt
 rw [e,hc]
 by_cases h:l4=17
 ·simp only [h,decide_true,true_and]
 ·simp only [h,decide_false,false_and,Bool.false_eq_true,if_false]
theorem row2_eq {nf l4 off a e:Int} {new data D1:List Int} {sts:List (Int × Int)} (hz:data.length≤1000) (he:e=a+new.length) (hne:sl data a e ≠ new) (hD1:D1=made1 nf l4 a new data) (hoff:0≤off→20≤off)
  (hl:D1.length=data.length) (hO:Oct data)
  (hs:0≤off→0≤spl l4→off+spl l4+2≤data.length→sl D1 (off+spl l4) (off+spl l4+2)=sl data (off+spl l4) (off+spl l4+2))
  (h1:a < hdz nf→l4=1→0≤off→chk data D1 (off+spl l4) sts=num (sl data (off+spl l4) (off+spl l4+2)))
  (h2:¬ (a < hdz nf∧l4=1)→0≤off→0≤spl l4→off+spl l4+2≤data.length→chk data D1 (off+spl l4) sts=mendM (num (sl data (off+spl l4) (off+spl l4+2))) (pad (sl data a e)) (pad new)) :
  (if 0≤off∧0≤spl l4∧off+spl l4+2≤data.length then [((off+spl l4,sts):Row)] else []).foldl (rowStep l4 data) D1=putM nf l4 off a new data:=by
 subst he
 unfold putM
 rw [if_neg hne]
 by_cases hc:0≤off∧0≤spl l4∧off+spl l4+2≤data.length
 ·rw [if_pos hc]
  obtain ⟨c1,c2,c3⟩:=hc
  have hp:plc 9999 l4=spl l4:=by
   rcases plc_spl (l4:=l4) with h | h
   ·exact h.2
   ·exact L.q448 c2 h
  have h20:=hoff c1
  rw [hp,List.foldl_cons,List.foldl_nil]
  unfold rowStep
  dsimp only
  by_cases hh:a < hdz nf∧l4=1
  ·rw [if_pos (.inr (.inr hh)),← hD1]
   have e17:(decide (l4=17) && !decide (off+spl l4=10))=false:=by rw [hh.2];rfl
   rw [e17]
   exact mAt_same hO (L.q449 c2 h20) (L.q450 hl c3) hl (hs c1 c2 c3) (h1 hh.1 hh.2 c1)
  ·rw [if_neg (by rintro (h | h | h);exact L.q451 h20 h;exact L.q452 c3 h;exact hh h),← hD1,mAt_udp (L.q453 c2 h20) (h2 hh c1 c2 c3)]
 ·rw [if_neg hc,List.foldl_nil,hD1]
  have:off < 0 ∨ (data.length:Int) < off+plc 9999 l4+2 ∨ (a < hdz nf∧l4=1):=by
   rcases plc_spl (l4:=l4) with h | h
   ·rw [h.2];exact L.q454 hc h
   ·rw [h.2];exact L.q455 hz
  rw [if_pos this]
theorem setM_head {kind nf l4 off a:Int} {new data:List Int} (hk:NK kind nf) (hz:data.length≤1000) (hO:Oct data) (hdl:hdz nf≤data.length) (hne:sl data a (a+new.length) ≠ new) (hoff:0≤off→hdz nf≤off) (hhl:nf=2→0≤l4→20≤Builtin.bitAnd (ix data 0) 15 * 4)
  (ha:(nf=2∧12≤a∧a+new.length≤20) ∨ (nf=10∧8≤a∧a+new.length≤40)) (ha2:a % 2=0) (hn:0 < new.length) (hn2:new.length % 2=0):setM kind l4 off a new data=putM nf l4 off a new data:=by
 have hd20:20≤hdz nf:=by unfold hdz;split <;> lia
 have hahd:a < hdz nf∧a+new.length≤hdz nf∧0≤a:=by
  rcases ha with ⟨rfl,_,_⟩ | ⟨rfl,_,_⟩ <;> unfold hdz <;> simp <;> lia
 obtain ⟨hah,hae,ha0⟩:=hahd
 have e2:(a+new.length+1) / 2 * 2=a+new.length:=L.q456 ha2 hn2
 have hD0:(made0 a new data).length=data.length:=made0_len ha0 (L.q227 hdl hae)
 have hD0n:sl (made0 a new data) a (a+new.length)=new:=by
  rw [made0_put ha0];exact sl_put_in ha0 (L.q221) (L.q227 hdl hae) (L.q197)
 have hm1l:=made1_len (nf:=nf) (pr:=l4) (a:=a) (new:=new) (data:=data) ha0 (L.q227 hdl hae) (L.q203 hdl hd20)
 have hm1n:sl (made1 nf l4 a new data) a (a+new.length)=new:=by
  unfold made1
  split
  ·rename_i h
   have:=sl_put (D:=made0 a new data) (w:=oct (mendM (num (sl data 10 12)) (pad (sl data a (a+new.length))) (pad new)) 2) (i:=10) (j:=12) (a:=a) (b:=a+new.length) (L.q162) (L.q403) (L.q457 hdl hd20 hD0) (by rw [oct_len];rfl) ha0 (L.q458 ha h)
   exact this.trans hD0n
  ·exact hD0n
 have hm1p:∀ p:Int,a+new.length≤p→12≤p→sl (made1 nf l4 a new data) p (p+2)=sl data p (p+2):=by
  intro p h1 h12
  have h0:sl (made0 a new data) p (p+2)=sl data p (p+2):=by
   rw [made0_put ha0];exact sl_put ha0 (L.q221) (L.q227 hdl hae) (L.q197) (L.q459 h12) (.inl h1)
  unfold made1
  split
  ·have:=sl_put (D:=made0 a new data) (w:=oct (mendM (num (sl data 10 12)) (pad (sl data a (a+new.length))) (pad new)) 2) (i:=10) (j:=12) (a:=p) (b:=p+2) (L.q162) (L.q403) (L.q457 hdl hd20 hD0) (by rw [oct_len];rfl) (L.q459 h12) (.inl h12)
   exact this.trans h0
  ·exact h0
 have step1:(if kind=2048∧0≤l4 then [((10,[cmn a (a+new.length) 0 (Builtin.bitAnd (ix data 0) 15 * 4)]):Row)] else []).foldl (rowStep l4 data) (putL data a.toNat (a+new.length).toNat new)=made1 nf l4 a new data:=by
  rw [← made0_put ha0]
  rcases hk with ⟨rfl,rfl⟩ | ⟨rfl,rfl⟩
  ·by_cases hl:0≤l4
   ·have hhl:=hhl rfl hl
    have ha':a+new.length≤20:=hae
    rw [if_pos ⟨rfl,hl⟩,List.foldl_cons,List.foldl_nil,cmn_in (L.q144 ha0) (L.q460 hhl ha') (L.q461 hn) ha2]
    unfold made1
    rw [if_pos ⟨rfl,hah,hl⟩]
    unfold rowStep
    dsimp only
    have e17:(decide (l4=17) && !decide ((10:Int)=10))=false:=Bool.and_false _
    rw [e17]
    unfold mAt
    rw [if_neg (by simp),if_neg (by simp)]
    have ec:chk data (made0 a new data) 10 [(a,(a+new.length+1) / 2 * 2)]=mendM (num (sl data 10 12)) (pad (sl data a (a+new.length))) (pad new):=by
     unfold chk
     rw [List.foldl_cons,List.foldl_nil]
     exact strm_one hD0 ha0 (L.q461 hn) (L.q227 hdl hae) ha2 (.inl (L.q462 e2)) hD0n
    rw [ec];rfl
   ·rw [if_neg (fun h=>hl h.2),List.foldl_nil]
    unfold made1
    rw [if_neg (fun h=>hl h.2.2)]
  ·rw [if_neg (L.q463),List.foldl_nil]
   unfold made1
   rw [if_neg (L.q464)]
 unfold setM rowsL
 rw [List.foldl_append,step1]
 have hout:0≤off→cmn a (a+new.length) off data.length=(0,0):=fun h=>cmn_out (.inr (by have:=hoff h;exact L.q465 hae this))
 have hin:(if kind=2048 then cmn a (a+new.length) 12 20 else cmn a (a+new.length) 8 40)=(a,(a+new.length+1) / 2 * 2):=by
  rcases hk with ⟨rfl,rfl⟩ | ⟨rfl,rfl⟩
  ·rw [if_pos rfl];exact cmn_in (L.q466 ha) (L.q467 ha) (L.q461 hn) ha2
  ·rw [if_neg (by decide)];exact cmn_in (L.q468 ha) (L.q469 ha) (L.q461 hn) ha2
 refine row2_eq hz rfl hne rfl (fun h=>by have:=hoff h;exact L.q470 hd20 this) hm1l hO ?_ ?_ ?_
 ·intro h0 hs h2
  have:=hoff h0
  exact hm1p _ (L.q471 hae hs this) (L.q472 hd20 hs this)
 ·intro _ h1 h0
  subst h1
  unfold chk
  rw [if_pos rfl,hout h0,List.foldl_cons,List.foldl_nil,strm_no]
 ·intro hnh h0 hs h2
  have hl1:l4 ≠ 1:=fun h=>hnh ⟨hah,h⟩
  unfold chk
  rw [if_neg hl1,hout h0,hin,List.foldl_cons,List.foldl_cons,List.foldl_nil,strm_no]
  exact strm_one hm1l ha0 (L.q461 hn) (L.q227 hdl hae) ha2 (.inl (L.q462 e2)) hm1n
theorem setM_tail {kind nf l4 off a:Int} {new data:List Int} (hk:NK kind nf) (hz:data.length≤1000) (hO:Oct data) (hne:sl data a (a+new.length) ≠ new) (hoff:hdz nf≤off) (hao:off≤a) (hhl:nf=2→0≤l4→Builtin.bitAnd (ix data 0) 15 * 4≤a)
  (ha2:a % 2=0) (hn:0 < new.length) (hle:a+new.length≤data.length) (hn2:new.length % 2=0 ∨ a+new.length=data.length) (hsp:0≤spl l4→off+spl l4+2≤a ∨ a+new.length≤off+spl l4):setM kind l4 off a new data=putM nf l4 off a new data:=by
 have hd20:20≤hdz nf:=by unfold hdz;split <;> lia
 have ha0:0≤a:=L.q473 hoff hao hd20
 have hD0:(made0 a new data).length=data.length:=made0_len ha0 (L.q474 hle)
 have hD0n:sl (made0 a new data) a (a+new.length)=new:=by
  rw [made0_put ha0];exact sl_put_in ha0 (L.q221) (L.q474 hle) (L.q197)
 have hm1:made1 nf l4 a new data=made0 a new data:=by
  unfold made1;rw [if_neg (L.q475 hoff hao hd20)]
 have hD0p:∀ p:Int,0≤p→(p+2≤a ∨ a+new.length≤p)→sl (made0 a new data) p (p+2)=sl data p (p+2):=by
  intro p hp h
  rw [made0_put ha0]
  exact sl_put ha0 (L.q221) (L.q474 hle) (L.q197) hp (h.elim .inr .inl)
 have step1:(if kind=2048∧0≤l4 then [((10,[cmn a (a+new.length) 0 (Builtin.bitAnd (ix data 0) 15 * 4)]):Row)] else []).foldl (rowStep l4 data) (putL data a.toNat (a+new.length).toNat new)=made0 a new data:=by
  rw [← made0_put ha0]
  split
  ·rename_i h
   have hnf:nf=2:=by rcases hk with ⟨_,h'⟩ | ⟨h',_⟩;exact h';exact L.q476 h h'
   have hhl:=hhl hnf h.2
   rw [List.foldl_cons,List.foldl_nil,cmn_out (.inl hhl)]
   unfold rowStep
   dsimp only
   have e17:(decide (l4=17) && !decide ((10:Int)=10))=false:=Bool.and_false _
   rw [e17]
   refine mAt_same hO (L.q162) (L.q477 hoff hao hle hd20 hD0) hD0 (hD0p 10 (L.q162) (L.q478 hoff hao hd20)) ?_
   unfold chk
   rw [List.foldl_cons,List.foldl_nil,strm_no]
  ·rfl
 unfold setM rowsL
 rw [List.foldl_append,step1]
 have hin:cmn a (a+new.length) off data.length=(a,(a+new.length+1) / 2 * 2):=cmn_in hao hle (L.q461 hn) ha2
 have hout:(if kind=2048 then cmn a (a+new.length) 12 20 else cmn a (a+new.length) 8 40)=(0,0):=by
  rcases hk with ⟨rfl,rfl⟩ | ⟨rfl,rfl⟩
  ·rw [if_pos rfl];exact cmn_out (.inl (L.q479 hao hoff hd20))
  ·rw [if_neg (by decide)]
   have:(40:Int)≤a:=by have:hdz 10=40:=rfl;exact L.q480 hao hoff this
   exact cmn_out (.inl this)
 have hnl:¬ a < hdz nf:=L.q481 hoff hao
 have ck:∀ p:Int,chk data (made0 a new data) p (cmn a (a+new.length) off data.length :: (if l4=1 then [] else [if kind=2048 then cmn a (a+new.length) 12 20 else cmn a (a+new.length) 8 40]))=mendM (num (sl data p (p+2))) (pad (sl data a (a+new.length))) (pad new):=by
  intro p
  have one:=strm_one (c:=num (sl data p (p+2))) hD0 ha0 (L.q461 hn) hle ha2 (L.q482 ha2 hn2) hD0n
  unfold chk
  rw [hin,hout,List.foldl_cons,one]
  split
  ·rfl
  ·rw [List.foldl_cons,List.foldl_nil,strm_no]
 refine row2_eq hz rfl hne hm1.symm (fun h=>by exact L.q483 hoff hd20) hD0 hO ?_ ?_ ?_
 ·intro h0 hs h2
  exact hD0p _ (L.q484 h0 hs) (hsp hs)
 ·intro h _ _;exact absurd h hnl
 ·intro _ h0 hs h2
  exact ck _
end
section
noncomputable def dropB:Nat→CB→CB
 | 0,b=>b
 | n+1,.cons _ b=>dropB n b
 | _,b=>b
theorem b_seq {s:CS} {b:CB} {D:Orc} {st:St} {R:Fl→St→Prop} (h:wS D s st fun fl st=>match fl with | .next=>wB D b st R | fl=>R fl st):wB D (.cons s b) st R:=h
noncomputable def headB:CB→CS
 | .cons s _=>s
 | .nil=>.brk 0
section
variable {C:OS} {k:Nat} {σ:List PV} {K:PV→List PV→Prop} {p d l:Nat} {nf l4 off pl:Int} {data:List Int}
theorem w27 {x:PV} {f b:Int} (h0:0≤f) (h1:0≤b) (hz:(sl data f b).length≤900000) (h:K (.bytes (prOf data f b)) σ) (hx:(∀ K:PV→Prop,K (.ba data)→drf σ x K) ∨ x=.bytes data):C.f (k+1) 27 [x,.int f,.int b] σ K:=by
 unfold prOf at h
 refine go rfl rfl rfl fun R hR hN=>?_
 have main:∀ x,wB (C.f k) (dropB 1 c27) ⟨[x,.v (.int f),.v (.int b),.v (.bytes (sl data f b)),.un,.un],σ⟩ R:=fun x=>by
  refine br_d (fun e=>?_) fun e=>?_
  ·rw [if_pos e] at h;exact gd_i (Nat.add_le_add hz (show 1≤100000 by decide)) (hR h)
  ·rw [if_neg e] at h;exact hR h
 refine gd_i h0 (gd_i h1 ?_)
 refine hx.elim (fun hx=>hx _ (main _)) fun e=>?_
 subst e;exact main _
theorem w28 {before:List Int} {place:Int} {sts:List (Int × Int)} {udp:Bool} (hp:σ[p]?=some (pkt d l nf l4 off pl)) (hd:σ[d]?=some (.ba data)) (ho:Oct before) (hn:Oct data) (hl:before.length=data.length) (hz:data.length≤1000) (h0:0≤place) (h1:place+2≤data.length) (hs:Strs data.length sts)
  (h:K .none (σ.set d (.ba (mAt before data place sts udp)))):C.f (k+3) 28 [.inst 17 p,.bytes before,.int place,.lst (sts.map strPV),.bool udp] σ K:=by
 refine go rfl rfl rfl fun R hR hN=>?_
 have g2:0≤place+2:=Int.add_nonneg h0 (by decide)
 have fin:∀ (c:Int) (x y:LV),0≤c→c < 65536→K .none (σ.set d (.ba (putL data place.toNat (place+2).toNat (oct c 2)))) →
   wB (C.f (k+2)) (dropB 4 c28) ⟨[.v (.inst 17 p),.v (.bytes before),.v (.int place),.v (.lst (sts.map strPV)),.v (.bool udp),.v (.int c),x,y,.un,.un,.un,.un],σ⟩ R:=fun c x y a b q =>
  w5 (m:=2) (by decide) a b (gs_i hp (gs_i hd (gd_i ⟨⟨h0,Int.le_add_of_nonneg_right (by decide)⟩,h1,by rw [oct_len];exact L.q167⟩ (hN q))))
 have lenOk {f b:Int} {e:List Int} (hf:0≤f) (hb:b - f≤300):(sl e f b).length≤900000:=Nat.le_trans (sl_le (m:=300) hb hf) (by decide)
 have main:¬ (udp=true∧num (sl before place (place+2))=0)→wB (C.f (k+2)) (dropB 2 c28) ⟨[.v (.inst 17 p),.v (.bytes before),.v (.int place),.v (.lst (sts.map strPV)),.v (.bool udp),.v (.int (num (sl before place (place+2)))),.un,.un,.un,.un,.un,.un],σ⟩ R:=fun hu=>by
  have hc:=chk_range (place:=place) (sts:=sts) ho hn hl h0 hs
  unfold mAt at h
  rw [if_neg hu] at h
  refine forW_use (fun (l:List (Int × Int)) st=>∃ c x y,st=⟨[.v (.inst 17 p),.v (.bytes before),.v (.int place),.v (.lst (sts.map strPV)),.v (.bool udp),.v (.int c),x,y,.un,.un,.un,.un],σ⟩∧l.foldl (strm before data) c=chk before data place sts∧Strs data.length l∧0≤c∧c≤65535) ?_ ?_ _ _ ⟨_,_,_,rfl,rfl,hs,?_⟩
  ·rintro ⟨f,b⟩ l _ ⟨c,x,y,rfl,q1,q2,q3⟩ ih
   have a2:=strm_range ho hn hl q3.1 q3.2 (q2 _ List.mem_cons_self)
   have q2':Strs data.length l:=fun y hy=>q2 y (List.mem_cons_of_mem _ hy)
   have q1:l.foldl (strm before data) (strm before data c (f,b))=_:=q1
   refine br_d (fun e=>?_) fun e=>ih _ ⟨c,_,_,rfl,?_,q2',q3⟩
   ·have e7:strm before data c (f,b)=mendM c (prOf before f b) (prOf data f b):=if_pos e
    obtain ⟨c1,c2,c3,c4,c5⟩:=q2 _ List.mem_cons_self e
    have hb:0≤b:=Int.le_trans c1 (Int.le_of_lt e)
    rw [e7] at q1 a2
    have l1:=prOf_len (l:=before) c1 e (by rw [hl];exact c4) c2 c3
    have l2:=prOf_len (l:=data) c1 e c4 c2 c3
    refine w27 c1 hb (lenOk c1 c5) (gs_i hp (w27 c1 hb (lenOk c1 c5) (w7 (prOf_Oct ho) (prOf_Oct hn) (l1.trans l2.symm) (by rw [l1];exact L.q191 c2 c3) (by rw [l1];exact L.q192 c5) q3.1 q3.2 (ih _ ⟨_,_,_,rfl,q1,q2',a2⟩)) (.inl (dr_ref hd)))) (.inr rfl)
   ·have e7:strm before data c (f,b)=c:=if_neg e
    rw [e7] at q1;exact q1
  ·rintro _ ⟨c,x,y,rfl,q1,_⟩
   have q1:c=_:=q1
   subst q1
   refine br_i (fun u=>br_d (fun e=>?_) fun e=>?_) fun u=>?_
   ·rw [if_pos ⟨u,e⟩] at h;exact fin 65535 x y (by decide) (by decide) h
   ·rw [if_neg fun q=>e q.2] at h;exact fin _ x y hc.1 (Int.lt_add_one_of_le hc.2) h
   ·rw [if_neg fun q=>nomatch q.1.symm.trans u] at h;exact fin _ x y hc.1 (Int.lt_add_one_of_le hc.2) h
  ·have e3:=num_range (Oct_sl ho (i:=place) (j:=place+2))
   have e4:(256:Int) ^ (sl before place (place+2)).length≤256 ^ 2:=pow_le (sl_le (L.q160) h0)
   exact L.q193 e3 e4
 refine gd_i h0 (gd_i g2 (w4b _ (Oct_sl ho) (sl_le (m:=30) (L.q194) h0) ?_))
 refine br_i (fun u=>br_d (fun e=>?_) fun e=>main fun q=>e q.2) fun u=>main fun q=>nomatch q.1.symm.trans u
 unfold mAt at h
 rw [if_pos ⟨u,e⟩,set_self hd] at h
 exact hR h
end
end
section
theorem lc_filter {α:Type} {step:PV→List PV→(Option PV→List PV→Prop)→Prop} {pv:α→PV} (keep:α→Bool) {σ:List PV}:∀ {l:List α} {K:List PV→List PV→Prop},(∀ x ∈ l,∀ k:Option PV→List PV→Prop,(keep x=true→k (some (pv x)) σ)→(keep x=false→k none σ)→step (pv x) σ k)→K ((l.filter keep).map pv) σ→lcW step (l.map pv) σ K
 | [],_,_,k=>k
 | x :: l,K,h,k=>by
  refine h x List.mem_cons_self _ (fun e=>?_) fun e=>?_
  ·rw [List.filter_cons_of_pos e] at k
   exact lc_filter (l:=l) (K:=fun r σ=>K (pv x :: r) σ) keep (fun y m=>h y (List.mem_cons_of_mem _ m)) k
  ·rw [List.filter_cons_of_neg (by rw [e];exact Bool.false_ne_true)] at k
   exact lc_filter keep (fun y m=>h y (List.mem_cons_of_mem _ m)) k
noncomputable def fits (n:Nat) (r:Row):Bool:=decide (r.1+2≤(n:Int))
noncomputable def b26:CB:=.cons (.app 96 (.own 99 3) (.tup 100 (.cons (.bin 101 .Add (.attr 102 (.loc 103 0) 4) (.loc 104 4)) (.cons (.loc 105 5) .nil)))) .nil
section
variable {C:OS} {k:Nat} {σ:List PV} {K:PV→List PV→Prop} {p d l:Nat} {nf l4 off pl:Int} {data:List Int}
theorem a26 {x y:LV} {A:List Row} {S:List (Int × Int)} {R:Fl→St→Prop} (hp:σ[p]?=some (pkt d l nf l4 off pl)) (hl:A.length≤1) (h:R .next ⟨[.v (.inst 17 p),x,y,.own (rowsPV (A ++ [(off+spl l4,S)])),.v (.int (spl l4)),.v (.lst (S.map strPV)),.un,.un,.un],σ⟩) :
  wB (C.f k) b26 ⟨[.v (.inst 17 p),x,y,.own (rowsPV A),.v (.int (spl l4)),.own (.lst (S.map strPV)),.un,.un,.un],σ⟩ R:=by
 cases A with
 | nil=>exact gs_i hp h
 | cons r A =>
  cases A with
  | nil=>exact gs_i hp h
  | cons r' A=>exact absurd hl (by simp)
theorem w26 {b e:Int} (hn:nf=2 ∨ nf=10) (hp:σ[p]?=some (pkt d l nf l4 off pl)) (hd:σ[d]?=some (.ba data)) (h20:20≤data.length) (h12:nf=2→12≤b) (hr:0≤off→0≤spl l4→e≤off+spl l4 ∨ off+spl l4+2≤b)
  (h:K (.lst ((rowsL (kd nf) l4 off (Builtin.bitAnd (ix data 0) 15 * 4) b e data.length).map rowPV)) σ):C.f (k+2) 26 [.inst 17 p,.int b,.int e] σ K:=by
 refine go rfl rfl rfl fun R hR hN=>?_
 have fin:∀ (L:List Row) x y,(∀ r ∈ L,e≤r.1 ∨ r.1+2≤b)→L.filter (fits data.length)=rowsL (kd nf) l4 off (Builtin.bitAnd (ix data 0) 15 * 4) b e data.length →
   wB (C.f (k+1)) (dropB 4 c26) ⟨[.v (.inst 17 p),.v (.int b),.v (.int e),.own (rowsPV L),x,y,.un,.un,.un],σ⟩ R:=fun L x y hL hF=>by
  cases L
  ·exact hR (by rw [← hF] at h;exact h)
  refine (lc_filter (fits data.length) (fun r hr k q1 q2=>gs_i hp (gs_i hd (br_i (fun q=>?_) fun q=>q2 q))) ?_)
  ·refine br_d (fun _=>q1 q) fun z=>br_t (dt ((hL r hr).resolve_left z)) (q1 q)
  ·rw [hF];exact hR h
 have mid:∀ A:List Row,A=(if kd nf=2048∧0≤l4 then [(10,[cmn b e 0 (Builtin.bitAnd (ix data 0) 15 * 4)])] else [])→(∀ r ∈ A,e≤r.1 ∨ r.1+2≤b)→A.length≤1→A.filter (fits data.length)=A →
   wB (C.f (k+1)) (dropB 2 c26) ⟨[.v (.inst 17 p),.v (.int b),.v (.int e),.own (rowsPV A),.un,.un,.un,.un,.un],σ⟩ R:=fun A hA hb hl hf=>by
  refine gs_i hp (w24 _ (gs_i hp (br_d (fun o=>br_d (fun s=>?_) fun s=>?_) fun o=>?_)))
  ·have fB:∀ S:List (Int × Int),S=(cmn b e off data.length :: (if l4=1 then [] else [if kd nf=2048 then cmn b e 12 20 else cmn b e 8 40]))→((A ++ [(off+spl l4,S)]).filter (fits data.length))=rowsL (kd nf) l4 off (Builtin.bitAnd (ix data 0) 15 * 4) b e data.length:=fun S hS=>by
    unfold rowsL
    rw [List.filter_append,hf,← hA,← hS]
    congr 1
    by_cases z:off+spl l4+2≤data.length
    ·rw [if_pos ⟨o,s,z⟩,List.filter_cons_of_pos (show fits _ _=true from dt z)];rfl
    ·rw [if_neg fun q=>z q.2.2,List.filter_cons_of_neg (show ¬ fits data.length (off+spl l4,S)=true from fun q=>z (of_decide_eq_true q))];rfl
   have hb':∀ S,∀ r ∈ A ++ [((off+spl l4,S):Row)],e≤r.1 ∨ r.1+2≤b:=fun S r hr'=>by
    rcases List.mem_append.mp hr' with q | q
    ·exact hb r q
    ·rw [List.mem_singleton.mp q];exact hr o s
   refine gs_i hp (gs_i hp (gs_i hd (w25 (gs_i hp (br_n (fun z=>gs_i hp ?_) fun z=>?_)))))
   ·rcases hn with rfl | rfl
    ·exact w25 (a26 (S:=[_,_]) hp hl (fin _ _ _ (hb' _) (fB _ (by rw [if_neg z];rfl))))
    ·exact gs_i hp (br_t (Mine.nt z) (w25 (a26 (S:=[_,_]) hp hl (fin _ _ _ (hb' _) (fB _ (by rw [if_neg z];rfl))))))
   ·exact gs_i hp (br_f (Mine.nf z) (a26 (S:=[_]) hp hl (fin _ _ _ (hb' _) (fB _ (by rw [if_pos z])))))
  ·refine fin A (.v (.int (spl l4))) .un hb ?_
   unfold rowsL
   rw [hf,← hA,if_neg fun q=>s q.2.1,List.append_nil]
  ·refine fin A (.v (.int (spl l4))) .un hb ?_
   unfold rowsL
   rw [hf,← hA,if_neg fun q=>o q.1,List.append_nil]
 refine gs_i hp ?_
 rcases hn with rfl | rfl
 ·refine gs_i hp (br_d (fun z=>?_) fun z=>?_)
  ·refine (gs_i hp (gs_i hd (gd_i (L.q195 h20) (w25 ?_))))
   refine mid [(10,[_])] (if_pos ⟨rfl,z⟩).symm (fun r hr=>?_) (Nat.le_refl _) (List.filter_cons_of_pos (show fits _ _=true from dt ?_))
   ·rw [List.mem_singleton.mp hr];exact .inr (h12 rfl)
   ·show (12:Int)≤_;exact L.q196 h20
  ·exact mid [] (if_neg fun q=>z q.2).symm (fun r hr=>nomatch hr) (Nat.zero_le _) rfl
 ·exact mid [] (if_neg fun q=>absurd q.1 (by decide)).symm (fun r hr=>nomatch hr) (Nat.zero_le _) rfl
end
end
section
theorem bs_link (t:Bool):¬ bs t=("link" : Str):=by cases t <;> decide
theorem gs_same {σ:List PV} {d:Nat} {x y:PV} (h:σ[d]?=some x):(σ.set d y)[d]?=some y:=by
 have:=(List.getElem?_eq_some_iff.mp h).1
 rw [List.getElem?_set,if_pos rfl,if_pos this]
theorem gs_ne {σ:List PV} {d p:Nat} {x y:PV} (h:d ≠ p) (k:σ[p]?=some x):(σ.set d y)[p]?=some x:=by rw [List.getElem?_set_ne h];exact k
theorem NK_of {nf:Int} (h:nf=2 ∨ nf=10):NK (kd nf) nf:=by
 rcases h with rfl | rfl
 ·exact .inl ⟨rfl,rfl⟩
 ·exact .inr ⟨rfl,rfl⟩
section
variable {C:OS} {k:Nat} {σ:List PV} {K:PV→List PV→Prop} {p d l:Nat} {nf l4 off pl:Int} {data:List Int}
theorem w29 {t:Bool} {a g:Int} {new:List Int} (hn:nf=2 ∨ nf=10) (hp:σ[p]?=some (pkt d l nf l4 off pl)) (hd:σ[d]?=some (.ba data)) (hdp:d ≠ p) (hz:data.length≤1000) (h20:20≤data.length) (ho:Oct data) (hno:Oct new)
  (hbo:0≤bo t off) (h0:0≤a) (hg:bo t off+a=g) (h1:g+new.length≤data.length) (h2:new.length≤290) (h12:nf=2→12≤g) (hr:0≤off→0≤spl l4→g+new.length≤off+spl l4 ∨ off+spl l4+2≤g)
  (h:K .none (σ.set d (.ba (setM (kd nf) l4 off g new data)))):C.f (k+4) 29 [.inst 17 p,.str (bs t),.int a,.bytes new] σ K:=by
 refine go rfl rfl rfl fun R hR hN=>br_f (df (bs_link t)) (gs_i hp (gs_i hd ?_))
 have g0:0≤g:=by rw [← hg];exact Int.add_nonneg hbo h0
 have hlen:(putL data g.toNat (g+new.length).toNat new).length=data.length:=put_len g0 (Int.le_add_of_nonneg_right lz) h1 (L.q197)
 have main:wB (C.f (k+3)) (dropB 4 c29) ⟨[.v (.inst 17 p),.v (.str (bs t)),.v (.int a),.v (.bytes new),.v (.bytes data),.v (.int g),.un,.un,.un,.un,.un,.un,.un,.un],σ⟩ R:=by
  refine w26 hn hp hd h20 h12 hr (w23 hp hd hbo h0 hg h1 ?_)
  refine forW_use (fun (l:List Row) st=>∃ D x y,st=⟨[.v (.inst 17 p),.v (.str (bs t)),.v (.int a),.v (.bytes new),.v (.bytes data),.v (.int g),.v (.lst ((rowsL (kd nf) l4 off (Builtin.bitAnd (ix data 0) 15 * 4) g (g+new.length) data.length).map rowPV)),x,y,.un,.un,.un,.un,.un],σ.set d (.ba D)⟩ ∧
   (l.foldl (rowStep l4 data) D=setM (kd nf) l4 off g new data∧Oct D∧D.length=data.length∧∀ r ∈ l,rowOk data.length r)) ?_ ?_ _ _ ⟨_,_,_,rfl,rfl,Oct_put ho hno,hlen,rows_ok g0 h1 (L.q198 h2) (L.q199 h20)⟩
  ·rintro ⟨q,S⟩ L _ ⟨D,x,y,rfl,e1,e2,e3,e4⟩ ih
   obtain ⟨r1,r2,r3,r4⟩:=e4 _ List.mem_cons_self
   have hp':=gs_ne (y:=.ba D) hdp hp
   have e5:(rowStep l4 data D (q,S)).length=data.length:=(mAt_len r1 (by rw [e3];exact r2)).trans e3
   have nx:=fun x y=>ih _ ⟨rowStep l4 data D (q,S),x,y,rfl,e1,mAt_Oct e2,e5,fun r m=>e4 r (List.mem_cons_of_mem _ m)⟩
   refine gs_i hp' (br_d (fun z=>?_) fun z=>?_)
   ·refine w28 (data:=D) hp' (gs_same hd) ho e2 e3.symm (by rw [e3];exact hz) r1 (by rw [e3];exact r2) (by rw [e3];exact r3) ?_
    rw [List.set_set,show mAt data D q S (!decide (q=10))=rowStep l4 data D (q,S) by unfold rowStep;rw [dt z];rfl]
    exact nx _ _
   ·refine w28 (data:=D) hp' (gs_same hd) ho e2 e3.symm (by rw [e3];exact hz) r1 (by rw [e3];exact r2) (by rw [e3];exact r3) ?_
    rw [List.set_set,show mAt data D q S false=rowStep l4 data D (q,S) by unfold rowStep;rw [df z];rfl]
    exact nx _ _
  ·rintro _ ⟨D,x,y,rfl,e1,_⟩
   have e1:D=_:=e1
   subst e1
   exact hN h
 cases t
 ·obtain rfl:a=g:=(Int.zero_add a).symm.trans hg
  exact main
 ·subst hg
  exact gs_i hp main
theorem w50 {t:Bool} {a g:Int} {new:List Int} (hn:nf=2 ∨ nf=10) (hp:σ[p]?=some (pkt d l nf l4 off pl)) (hd:σ[d]?=some (.ba data)) (hdp:d ≠ p) (hz:data.length≤1000) (h20:20≤data.length) (ho:Oct data) (hno:Oct new)
  (h0:0≤a) (hg:bo t off+a=g) (h2:new.length≤290) (h12:nf=2→0≤bo t off→12≤g) (hr:0≤bo t off→0≤off→0≤spl l4→g+new.length≤off+spl l4 ∨ off+spl l4+2≤g)
  (h:0≤bo t off→g+new.length≤data.length→(sl data g (g+new.length)=new→K .none σ)∧(sl data g (g+new.length) ≠ new→K .none (σ.set d (.ba (setM (kd nf) l4 off g new data)))))
  (hx:¬ (0≤bo t off∧g+new.length≤data.length)→K .none σ):C.f (k+5) 50 [.inst 17 p,.str (bs t),.int a,.bytes new] σ K:=by
 refine go rfl rfl rfl fun R hR hN=>w22 hp hd h0 lz hg (fun b0 b1=>?_) fun q=>hN (hx q)
 obtain ⟨q1,q2⟩:=h b0 b1
 exact br_n (fun e=>w29 hn hp hd hdp hz h20 ho hno b0 h0 hg b1 h2 (fun z=>h12 z b0) (hr b0) (hN (q2 e))) fun e=>hN (q1 e)
end
end
section
noncomputable abbrev tPV (t:T6):PV:=.tup [.int t.nf,.int t.pr,.int t.src,.int t.sp,.int t.dst,.int t.dp]
noncomputable def optT:Option T6→PV
 | none=>.none
 | some t=>tPV t
noncomputable def optP:Option (Int × Int)→PV
 | none=>.none
 | some p=>.tup [.int p.1,.int p.2]
noncomputable def portsM (nf pr off:Int) (data:List Int):Option (Int × Int) :=
 if pr=6 ∨ pr=17 then (if (data.length:Int) < off+4 then none else some (num (sl data off (off+2)),num (sl data (off+2) (off+4))))
 else if isP nf pr=false then some (0,0)
 else if (data.length:Int) < off+8 then none
 else some (if 0≤ansK nf (ix data off) then num (sl data (off+4) (off+6)) else 0,ix data off * 256+ix data (off+1))
noncomputable def tupM (nf pr off:Int) (data:List Int):Option T6:=match portsM nf pr off data with
 | none=>none
 | some p=>some ⟨nf,pr,num (sl data (adr nf) (adr nf+adz nf)),p.1,num (sl data (adr nf+adz nf) (adr nf+adz nf+adz nf)),p.2⟩
noncomputable def invM (t:T6):Option T6 :=
 if isP t.nf t.pr=false then some ⟨t.nf,t.pr,t.dst,t.dp,t.src,t.sp⟩
 else if ansK t.nf (t.dp / 256) < 0 then none
 else some ⟨t.nf,t.pr,t.dst,t.sp,t.src,ansK t.nf (t.dp / 256) * 256+t.dp % 256⟩
noncomputable def ppM (nf l4 off:Int) (data:List Int) (src:Bool):Int :=
 if l4=6 ∨ l4=17 then (if src=true then 0 else 2)
 else if 0≤off∧off+1≤data.length∧isP nf l4=true∧0≤ansK nf (ix data off) then 4 else -1
noncomputable abbrev mst (src:Bool):Str:=match src with | true => "src" | false => "dst"
theorem ix_sl0 {l:List Int} {a b:Int} (h0:0≤a) (h1:a < b):ix (sl l a b) 0=ix l a:=by
 unfold ix sl
 simp only [List.getD_eq_getElem?_getD,List.getElem?_drop,Int.toNat_zero,Nat.add_zero]
 rw [List.getElem?_take_of_lt (L.q200 h0 h1)]
theorem br_or {p q:Prop} [Decidable p] [Decidable q] {X Y:Prop} (h:p ∨ q→X) (k:¬ (p ∨ q)→Y):br (decide p) X (br (decide q) X Y) :=
 br_d (fun e=>h (.inl e)) fun e=>br_d (fun e'=>h (.inr e')) fun e'=>k fun z=>z.elim e e'
section
variable {C:OS} {k:Nat} {σ:List PV} {K:PV→List PV→Prop} {p d l:Nat} {nf l4 off pl:Int} {data:List Int}
theorem w40 {x:Int} (hn:nf=2 ∨ nf=10) (h:K (.int (ansK nf x)) σ):C.f (k+1) 40 [.int nf,.int x] σ K:=by
 refine go rfl rfl rfl fun R hR hN=>?_
 unfold ansK at h
 rcases hn with rfl | rfl
 ·rw [if_pos rfl] at h
  iterate 8 (refine br_d (fun e=>hR (iti e h)) fun e=>?_;replace h:=iei e h)
  exact hR h
 ·rw [if_neg (by decide)] at h
  iterate 2 (refine br_d (fun e=>hR (iti e h)) fun e=>?_;replace h:=iei e h)
  exact hR h
theorem w39 {x:Int} (hn:nf=2 ∨ nf=10) (h:K (.bool (isE nf x)) σ):C.f (k+2) 39 [.int nf,.int x] σ K:=by
 refine go rfl rfl rfl fun R hR hN=>w33 nf ?_
 rcases hn with rfl | rfl <;> exact hR h
theorem w51 {src:Bool} (hn:nf=2 ∨ nf=10) (hp:σ[p]?=some (pkt d l nf l4 off pl)) (hd:σ[d]?=some (.ba data)) (h:K (.int (ppM nf l4 off data src)) σ):C.f (k+3) 51 [.inst 17 p,.str (mst src)] σ K:=by
 refine go rfl rfl rfl fun R hR hN=>?_
 unfold ppM at h
 have A:(l4=6 ∨ l4=17)→∀ r,R (.ret (.int (if src=true then 0 else 2))) ⟨r,σ⟩:=fun e r=>by rw [if_pos e] at h;exact hR h
 refine gs_i hp (br_d (fun e=>?_) fun e=>gs_i hp (br_d (fun e'=>?_) fun e'=>?_))
 ·have A:=A (.inl e);cases src <;> exact A _
 ·have A:=A (.inr e');cases src <;> exact A _
 rw [if_neg fun q=>q.elim e e'] at h
 refine w20 hn hp (w22 (t:=true) hp hd (Int.le_refl 0) (by decide) (Int.add_zero off) (fun (b0:0≤off) b1=>gs_i hp ?_) fun q=>?_)
 ·refine w38 hn (br_i (fun z=>?_) fun z=>?_)
  ·have hl:(sl data off (off+1)).length=1:=by rw [sl_len b0 (L.q201) b1];exact L.q202
   refine gd_i ⟨Int.le_refl 0,by rw [hl];decide⟩ (w40 hn ?_)
   have e0:ix (sl data off (off+1)) ((0:Nat):Int)=ix data off:=ix_sl0 b0 (Int.lt_add_one_of_le (Int.le_refl _))
   refine br_d (fun y=>?_) fun y=>?_
   ·rw [if_pos ⟨b0,b1,z,e0 ▸ y⟩] at h;exact hR h
   ·rw [if_neg fun q=>y (e0.symm ▸ q.2.2.2)] at h;exact hR h
  ·rw [if_neg fun q=>nomatch q.2.2.1.symm.trans z] at h;exact hR h
 ·rw [if_neg fun y=>q ⟨y.1,y.2.1⟩] at h;exact hR h
theorem put_head {a:Int} {new:List Int} (hn:nf=2 ∨ nf=10) (hp:σ[p]?=some (pkt d l nf l4 off pl)) (hd:σ[d]?=some (.ba data)) (hne:d ≠ p) (hz:data.length≤1000) (ho:Oct data) (hno:Oct new) (hdl:hdz nf≤data.length) (hoff:0≤off→hdz nf≤off)
  (hhl:nf=2→0≤l4→20≤Builtin.bitAnd (ix data 0) 15 * 4) (ha:(nf=2∧12≤a∧a+new.length≤20) ∨ (nf=10∧8≤a∧a+new.length≤40)) (ha2:a % 2=0) (hl0:0 < new.length) (hl2:new.length % 2=0)
  (h:K .none (σ.set d (.ba (putM nf l4 off a new data)))):C.f (k+5) 50 [.inst 17 p,.str (bs false),.int a,.bytes new] σ K:=by
 have hd20:20≤hdz nf:=by unfold hdz;split <;> decide
 have ha':8≤a∧a+new.length≤hdz nf:=by rcases ha with ⟨rfl,q⟩ | ⟨rfl,q⟩ <;> unfold hdz <;> simp <;> omega
 refine w50 hn hp hd hne hz (L.q203 hdl hd20) ho hno (L.q204 ha') (Int.zero_add a) (L.q205 ha) (fun z _=>?_) (fun _ o s=>.inl ?_) (fun _ q=>⟨fun e=>?_,fun e=>?_⟩) fun q=>absurd ⟨Int.le_refl 0,?_⟩ q
 ·exact L.q206 ha z
 ·have:=hoff o;exact L.q207 ha' s this
 ·rw [show putM nf l4 off a new data=data by unfold putM;rw [if_pos e],set_self hd] at h;exact h
 ·rw [setM_head (NK_of hn) hz ho hdl e hoff hhl ha ha2 hl0 hl2];exact h
 ·exact L.q208 hdl ha'
theorem put_tail {a:Int} {new:List Int} (hn:nf=2 ∨ nf=10) (hp:σ[p]?=some (pkt d l nf l4 off pl)) (hd:σ[d]?=some (.ba data)) (hne:d ≠ p) (hz:data.length≤1000) (h20:hdz nf≤data.length) (ho:Oct data) (hno:Oct new) (hoff:0≤off→hdz nf≤off) (hoe:0≤off→off % 2=0) (ha0:0≤a) (ha2:a % 2=0)
  (hhl:nf=2→0≤l4→0≤off→Builtin.bitAnd (ix data 0) 15 * 4≤off) (hl0:0 < new.length) (hl3:new.length≤290) (hl2:new.length % 2=0 ∨ off+a+new.length=data.length) (hsp:0≤spl l4→spl l4+2≤a ∨ a+new.length≤spl l4)
  (h:0≤off→off+a+new.length≤data.length→K .none (σ.set d (.ba (putM nf l4 off (off+a) new data)))) (hx:¬ (0≤off∧off+a+new.length≤data.length)→K .none σ):C.f (k+5) 50 [.inst 17 p,.str (bs true),.int a,.bytes new] σ K:=by
 have hd20:20≤hdz nf:=by unfold hdz;split <;> decide
 refine w50 (g:=off+a) hn hp hd hne hz (L.q203 h20 hd20) ho hno ha0 rfl hl3 (fun _ (o:0≤off)=>?_) (fun _ o s=>?_) (fun (o:0≤off) q=>⟨fun e=>?_,fun e=>?_⟩) hx
 ·have:=hoff o;exact L.q209 ha0 hd20 this
 ·have:=hsp s;exact L.q210 this
 ·have h:=h o q
  rw [show putM nf l4 off (off+a) new data=data by unfold putM;rw [if_pos e],set_self hd] at h;exact h
 ·have:=hoff o
  have:=hoe o
  rw [setM_tail (NK_of hn) hz ho e (hoff o) (L.q211 ha0) (fun z1 z2=>Int.le_trans (hhl z1 z2 o) (L.q211 ha0)) (L.q212 ha2 this) hl0 q (L.q213 hl2) (fun s=>by have:=hsp s;exact L.q214 this)];exact h o q
end
end
section
theorem pp_cases {nf l4 off:Int} {data:List Int} {src:Bool} (hn:nf=2 ∨ nf=10):ppM nf l4 off data src=-1 ∨ (ppM nf l4 off data src=(if src=true then 0 else 2)∧(l4=6 ∨ l4=17)) ∨ (ppM nf l4 off data src=4∧spl l4=2∧¬ (l4=6 ∨ l4=17)):=by
 unfold ppM
 by_cases e:l4=6 ∨ l4=17
 ·rw [if_pos e];exact .inr (.inl ⟨rfl,e⟩)
 ·rw [if_neg e]
  split
  ·rename_i q
   refine .inr (.inr ⟨rfl,?_,e⟩)
   have z:=q.2.2.1
   rcases hn with rfl | rfl
   ·rw [show l4=1 from eq_of_beq z];rfl
   ·rw [show l4=58 from eq_of_beq z];rfl
  ·exact .inl rfl
theorem lpp_eq {nf l4 off tp:Int} {data:List Int} {src:Bool}:lpp nf l4 off tp data src=if 0≤off∧l4=tp∧0≤ppM nf l4 off data src then off+ppM nf l4 off data src else -1:=by
 unfold lpp ppM
 by_cases o:0≤off∧l4=tp
 ·rw [if_neg (fun q=>q.elim (fun q=>by exact L.q215 o q) fun q=>q o.2)]
  by_cases e:l4=6 ∨ l4=17
  ·rw [if_pos e,if_pos e]
   cases src
   ·exact (if_pos ⟨o.1,o.2,by decide⟩).symm
   ·exact ((if_pos (c:=0≤off∧l4=tp∧(0:Int)≤0) ⟨o.1,o.2,by decide⟩).trans (Int.add_zero _)).symm
  ·rw [if_neg e,if_neg e]
   by_cases z:isP nf l4=true∧off < data.length∧0≤ansK nf (ix data off)
   ·have z':0≤off∧off+1≤data.length∧isP nf l4=true∧0≤ansK nf (ix data off):=⟨o.1,z.2.1,z.1,z.2.2⟩
    rw [if_pos z,if_pos z',if_pos ⟨o.1,o.2,by decide⟩]
   ·have z':¬ (0≤off∧off+1≤data.length∧isP nf l4=true∧0≤ansK nf (ix data off)):=fun q=>z ⟨q.2.2.1,q.2.1,q.2.2.2⟩
    rw [if_neg z,if_neg z',if_neg (fun q=>absurd q.2.2 (by decide))]
 ·rw [if_neg (c:=0≤off∧l4=tp∧_) (fun q=>o ⟨q.1,q.2.1⟩),if_pos]
  by_cases z:off < 0
  ·exact .inl z
  ·exact .inr fun e=>o ⟨by exact L.q216 z,e⟩
theorem ix0_put {D w:List Int} {i j:Int} (h0:0 < i) (hij:i≤j) (hj:j≤D.length) (hw:(w.length:Int)=j - i):ix (putL D i.toNat j.toNat w) 0=ix D 0:=by
 unfold ix
 rw [List.getD_eq_getElem?_getD,List.getD_eq_getElem?_getD,put_get (L.q217 h0 hij) (L.q218 hj) (L.q219 h0 hij hw),if_pos (by show 0 < _;exact L.q220 h0)]
theorem made1_ix0 {nf pr a:Int} {new data:List Int} (h0:0 < a) (h1:a+new.length≤data.length) (h20:20≤data.length):ix (made1 nf pr a new data) 0=ix data 0:=by
 have e0:ix (made0 a new data) 0=ix data 0:=by
  rw [made0_put (L.q45 h0)]
  exact ix0_put h0 (L.q221) h1 (L.q197)
 unfold made1
 split
 ·rw [← e0]
  exact ix0_put (i:=10) (j:=12) (by decide) (by decide) (by rw [made0_len (L.q45 h0) h1];exact L.q196 h20) (by rw [oct_len];rfl)
 ·exact e0
theorem putM_ix0 {nf pr off a:Int} {new data:List Int} (h0:0 < a) (h1:a+new.length≤data.length) (h20:20≤data.length):ix (putM nf pr off a new data) 0=ix data 0:=by
 have hp:=plc_nn (pr:=pr)
 unfold putM
 split
 ·rfl
 ·split
  ·exact made1_ix0 h0 h1 h20
  ·split
   ·exact made1_ix0 h0 h1 h20
   ·rename_i h _
    rw [ix0_put (L.q222 hp h) (L.q223) (by rw [made1_len (L.q45 h0) h1 h20];exact L.q224 h) (by rw [oct_len];exact L.q225),made1_ix0 h0 h1 h20]
section
variable {C:OS} {k:Nat} {σ:List PV} {K:PV→List PV→Prop} {p d l:Nat} {nf l4 off pl:Int} {data:List Int}
theorem w52x {t:T6} {s:Str} (hn:nf=2 ∨ nf=10) (hp:σ[p]?=some (pkt d l nf l4 off pl)) (ht:t.nf ≠ nf) (h:K .none σ):C.f (k+2) 52 [.inst 17 p,tPV t,.str s] σ K :=
 go rfl rfl rfl fun R hR hN=>w20 hn hp (br_t (Mine.nt fun e=>ht e.symm) (hR h))
theorem w52 {t:T6} {src:Bool} (hn:nf=2 ∨ nf=10) (hp:σ[p]?=some (pkt d l nf l4 off pl)) (hd:σ[d]?=some (.ba data)) (hne:d ≠ p) (hz:data.length≤1000) (ho:Oct data) (ht:t.nf=nf)
  (hA:0≤(if src=true then t.src else t.dst)∧(if src=true then t.src else t.dst) < 256 ^ (adz nf).toNat) (hs:0≤t.sp∧t.sp < 65536) (hdp:0≤t.dp∧t.dp < 65536) (hdl:hdz nf≤data.length) (hoff:0≤off→hdz nf≤off) (hev:0≤off→off % 2=0)
  (hhl:nf=2→0≤l4→20≤Builtin.bitAnd (ix data 0) 15 * 4∧(0≤off→Builtin.bitAnd (ix data 0) 15 * 4≤off)) (h:K .none (σ.set d (.ba (wrM nf l4 off t src data)))):C.f (k+6) 52 [.inst 17 p,tPV t,.str (mst src)] σ K:=by
 refine go rfl rfl rfl fun R hR hN=>w20 hn hp (br_f (Mine.nf ht.symm) ?_)
 obtain ⟨P,hP⟩:∃ P,P=(if l4=t.pr then ppM nf l4 off data src else -1):=⟨_,rfl⟩
 obtain ⟨a1,ha1⟩:∃ a1,a1=adr nf+if src=true then 0 else adz nf:=⟨_,rfl⟩
 obtain ⟨A,hA1⟩:∃ A,A=oct (if src=true then t.src else t.dst) (adz nf).toNat:=⟨_,rfl⟩
 obtain ⟨D1,hD1⟩:∃ D1,D1=putM nf l4 off a1 A data:=⟨_,rfl⟩
 have hm:((adz nf).toNat:Int)=adz nf∧(adz nf).toNat≤16:=by rcases hn with rfl | rfl <;> exact ⟨rfl,by decide⟩
 have hAl:A.length=(adz nf).toNat:=by rw [hA1,oct_len]
 have hrange:((nf=2∧12≤a1∧a1+A.length≤20) ∨ (nf=10∧8≤a1∧a1+A.length≤40))∧a1 % 2=0∧(0 < A.length∧A.length % 2=0)∧a1+A.length≤hdz nf:=by
  rw [hAl,ha1]
  rcases hn with rfl | rfl <;> cases src <;> decide
 obtain ⟨hr1,hr2,hr3,hr4⟩:=hrange
 have hd20:20≤hdz nf:=by unfold hdz;split <;> decide
 have ha0:8≤a1:=L.q226 hr1
 have hAO:Oct A:=by rw [hA1];exact oct_Oct
 have h20:20≤data.length:=L.q203 hdl hd20
 have hle:a1+A.length≤data.length:=L.q227 hdl hr4
 have hl1:D1.length=data.length:=by rw [hD1];exact putM_len (L.q228 ha0) hle h20
 have hO1:Oct D1:=by rw [hD1];exact putM_Oct ho hAO
 have hi1:ix D1 0=ix data 0:=by rw [hD1];exact putM_ix0 (L.q229 ha0) hle h20
 have hp1:=gs_ne (y:=.ba D1) hne hp
 have hd1:=gs_same (y:=.ba D1) hd
 have hW:wrM nf l4 off t src data=if 0≤lpp nf l4 off t.pr data src∧lpp nf l4 off t.pr data src≤data.length - 2 then putM nf l4 off (lpp nf l4 off t.pr data src) (oct (if src=true ∨ ¬ (t.pr=6 ∨ t.pr=17) then t.sp else t.dp) 2) D1 else D1:=by
  unfold wrM
  rw [if_neg (fun h=>h ht),hD1,hA1,ha1]
 have hno:¬ (0≤off∧0≤P)→wrM nf l4 off t src data=D1:=fun q=>by
  rw [hW,lpp_eq,if_neg (c:=0≤off∧_∧_) fun z=>q ⟨z.1,by rw [hP,if_pos z.2.1];exact z.2.2⟩]
  exact if_neg fun z=>absurd z.1 (by decide)
 have fin:∀ a port,a=a1→(0≤P→port=(if src=true ∨ P=4 then t.sp else t.dp))→wB (C.f (k+5)) (dropB 6 c52) ⟨[.v (.inst 17 p),.v (tPV t),.v (.str (mst src)),.v (.int t.nf),.v (.int t.pr),.v (.int t.src),.v (.int t.sp),.v (.int t.dst),.v (.int t.dp),.v (.int a),.v (.int ((adz nf).toNat:Int)),.v (.int P),.v (.int (if src=true then t.src else t.dst)),.v (.int port),.un,.un,.un,.un],σ⟩ R:=by
  rintro a port rfl hport
  refine w5 hm.2 hA.1 hA.2 ?_
  rw [← hA1]
  refine put_head hn hp hd hne hz ho hAO hdl hoff (fun z1 z2=>(hhl z1 z2).1) hr1 hr2 hr3.1 hr3.2 ?_
  rw [← hD1]
  refine br_d (fun p0=>?_) fun p0=>hN (by rw [hno fun q=>p0 q.2] at h;exact h)
  have hpt:l4=t.pr:=by
   by_cases e:l4=t.pr
   ·exact e
   ·rw [hP,if_neg e] at p0;exact absurd p0 (by decide)
  rw [if_pos hpt] at hP
  have hport:=hport p0
  have hpr:0≤port∧port < 65536:=by rw [hport];split;exact hs;exact hdp
  refine w5 (m:=2) (by decide) hpr.1 hpr.2 ?_
  have hc:=pp_cases (nf:=nf) (l4:=l4) (off:=off) (data:=data) (src:=src) hn
  rw [← hP] at hc
  have hP2:P % 2=0∧(0≤spl l4→spl l4+2≤P ∨ P+2≤spl l4):=by
   rcases hc with z | ⟨z,q⟩ | ⟨z,q,_⟩
   ·rw [z] at p0;exact absurd p0 (by decide)
   ·rcases q with rfl | rfl <;> rw [z] <;> cases src <;> exact ⟨rfl,fun _=>.inr (by decide)⟩
   ·rw [z,q];exact ⟨rfl,fun _=>.inl (by decide)⟩
  have hval:oct port 2=oct (if src=true ∨ ¬ (t.pr=6 ∨ t.pr=17) then t.sp else t.dp) 2:=by
   rw [hport,← hpt]
   rcases hc with z | ⟨z,q⟩ | ⟨z,_,q⟩
   ·rw [z] at p0;exact absurd p0 (by decide)
   ·cases src
    ·rw [if_neg (by rw [z];decide),if_neg (fun y=>y.elim (fun y=>nomatch y) fun y=>y q)]
    ·rw [if_pos (.inl rfl),if_pos (.inl rfl)]
   ·rw [if_pos (.inr z),if_pos (.inr q)]
  have hol:(oct port 2).length=2:=oct_len
  refine put_tail hn hp1 hd1 hne (by rw [hl1];exact hz) (by rw [hl1];exact hdl) hO1 oct_Oct hoff hev p0 hP2.1 (fun z1 z2 z3=>by rw [hi1];exact (hhl z1 z2).2 z3) (by rw [hol];decide) (by rw [hol];decide) (.inl (by rw [hol])) (fun z=>by rw [hol];exact hP2.2 z) (fun o q=>?_) fun q=>?_
  ·rw [List.set_set]
   rw [hol,hl1] at q
   rw [hW,lpp_eq,if_pos (c:=0≤off∧_∧_) ⟨o,hpt,hP ▸ p0⟩,← hP,if_pos ⟨by exact L.q230 p0 o,by exact L.q231 q⟩,← hval] at h
   exact hN h
  ·rw [hol,hl1] at q
   by_cases o:0≤off
   ·rw [hW,lpp_eq,if_pos (c:=0≤off∧_∧_) ⟨o,hpt,hP ▸ p0⟩,← hP,if_neg fun z=>q ⟨o,by exact L.q232 z⟩] at h
    exact hN h
   ·rw [hno fun z=>o z.1] at h
    exact hN h
 have fin4:wB (C.f (k+5)) (dropB 4 c52) ⟨[.v (.inst 17 p),.v (tPV t),.v (.str (mst src)),.v (.int t.nf),.v (.int t.pr),.v (.int t.src),.v (.int t.sp),.v (.int t.dst),.v (.int t.dp),.v (.int (adr nf)),.v (.int ((adz nf).toNat:Int)),.v (.int P),.un,.un,.un,.un,.un,.un],σ⟩ R:=by
  cases src
  ·refine br_d (fun e=>fin _ _ ?_ fun _=>(if_pos (.inr e)).symm) fun e=>fin _ _ ?_ fun _=>(if_neg fun z=>z.elim (fun z=>nomatch z) e).symm
   ·rw [ha1,hm.1];rfl
   ·rw [ha1,hm.1];rfl
  ·refine br_d (fun e=>fin _ _ ?_ fun _=>(if_pos (.inl rfl)).symm) fun e=>fin _ _ ?_ fun _=>(if_pos (.inl rfl)).symm
   ·rw [ha1];exact (Int.add_zero _).symm
   ·rw [ha1];exact (Int.add_zero _).symm
 have main:wB (C.f (k+5)) (dropB 3 c52) ⟨[.v (.inst 17 p),.v (tPV t),.v (.str (mst src)),.v (.int t.nf),.v (.int t.pr),.v (.int t.src),.v (.int t.sp),.v (.int t.dst),.v (.int t.dp),.v (.int (adr nf)),.v (.int ((adz nf).toNat:Int)),.un,.un,.un,.un,.un,.un,.un],σ⟩ R:=by
  refine gs_i hp (br_d (fun e=>w51 hn hp hd ?_) fun e=>?_)
  ·rw [if_pos e] at hP;subst hP;exact fin4
  ·rw [if_neg e] at hP;subst hP;exact fin4
 obtain ⟨tn,t2,t3,t4,t5,t6⟩:=t
 have ht:tn=nf:=ht
 subst ht
 rcases hn with rfl | rfl
 ·exact main
 ·exact main
end
end
section
noncomputable def fltM (nf l4 off:Int) (data:List Int):Bool:=if isP nf l4=false ∨ off < 0 ∨ (data.length:Int)≤off then false else isE nf (ix data off)
noncomputable abbrev bookA (tb ts a b c:Nat):PV:=.att [18,19,20,21,22,23,24,25,26,27] [.int 8,.int 0,.int 128,.ref tb,.ref ts,.int 0,.ref a,.ref b,.ref c,.bool true]
noncomputable abbrev talkA (o r:PV) (u:Int):PV:=.att [7,8,9,10,11,12,13,14,15,16,17] [.int 7,o,r,.int 0,.int u,.int 0,.int 0,.int 0,.int 0,.none,.int 0]
section
variable {C:OS} {k:Nat} {σ:List PV} {K:PV→List PV→Prop} {p d l:Nat} {nf l4 off pl:Int} {data:List Int}
theorem nng {a b:Int} (h:0≤a) (hb:0≤b:=by decide):0≤a+b:=Int.add_nonneg h hb
theorem w4o (ho:Oct data) {a b c:Int} (h0:0≤a) (hb:0≤b) (hc:c - b≤30) (h:K (.int (num (sl data (a+b) (a+c)))) σ):C.f (k+1) 4 [.ba (sl data (a+b) (a+c))] σ K :=
 w4a' ho (nng h0 hb) (L.q233 hc) h
theorem w4p (ho:Oct data) {a c:Int} (h0:0≤a) (hc:c≤30) (h:K (.int (num (sl data a (a+c)))) σ):C.f (k+1) 4 [.ba (sl data a (a+c))] σ K :=
 w4a' ho h0 (L.q234 hc) h
theorem w41 {x:PV} {pr:Int} (hn:nf=2 ∨ nf=10) (hx:Dr σ x data) (ho:Oct data) (h0:0≤off) (h:K (optP (portsM nf pr off data)) σ):C.f (k+2) 41 [x,.int nf,.int pr,.int off] σ K:=by
 refine go rfl rfl rfl fun R hR hN=>br_or (fun e=>?_) fun e=>?_
 ·unfold portsM at h
  rw [if_pos e] at h
  refine hx _ (br_d (fun q=>?_) fun q=>?_)
  ·rw [if_pos q] at h;exact hR h
  ·rw [if_neg q] at h
   exact gd_i h0 (gd_i (nng h0) (hx _ (w4p ho h0 (by decide) (gd_i (nng h0) (gd_i (nng h0) (hx _ (w4o ho h0 (by decide) (by decide) (hR h))))))))
 ·unfold portsM at h
  rw [if_neg e] at h
  refine w38 hn (br_i (fun z=>?_) fun z=>?_)
  ·rw [if_pos (by simpa using z)] at h;exact hR h
  ·rw [if_neg (by simpa using z)] at h
   refine hx _ (br_d (fun q=>?_) fun q=>?_)
   ·rw [if_pos q] at h;exact hR h
   ·rw [if_neg q] at h
    have i0:0≤off∧off < data.length:=⟨h0,by exact L.q235 q⟩
    have i1:0≤off+1∧off+1 < data.length:=⟨nng h0,by exact L.q236 q⟩
    refine hx _ (gd_i i0 (w40 hn (br_d (fun y=>?_) fun y=>?_)))
    ·rw [if_pos y] at h
     exact gd_i (nng h0) (gd_i (nng h0) (hx _ (w4o ho h0 (by decide) (by decide) (hx _ (gd_i i1 (hR h))))))
    ·rw [if_neg y] at h
     exact hx _ (gd_i i1 (hR h))
theorem w42 {x:PV} {pr:Int} (hn:nf=2 ∨ nf=10) (hx:Dr σ x data) (ho:Oct data) (h0:0≤off) (h:K (optT (tupM nf pr off data)) σ):C.f (k+3) 42 [x,.int nf,.int pr,.int off] σ K:=by
 refine go rfl rfl rfl fun R hR hN=>w41 hn hx ho h0 ?_
 unfold tupM at h
 cases hq:portsM nf pr off data with
 | none=>rw [hq] at h;exact hR h
 | some z =>
  rw [hq] at h
  rcases hn with rfl | rfl
  ·exact hx _ (w4a' ho (by decide) (by decide) (hx _ (w4a' ho (by decide) (by decide) (hR h))))
  ·exact hx _ (w4a' ho (by decide) (by decide) (hx _ (w4a' ho (by decide) (by decide) (hR h))))
theorem w43 (hn:nf=2 ∨ nf=10) (hp:σ[p]?=some (pkt d l nf l4 off pl)) (hd:σ[d]?=some (.ba data)) (ho:Oct data) (h:K (optT (if off < 0 then none else tupM nf l4 off data)) σ):C.f (k+4) 43 [.inst 17 p] σ K:=by
 refine go rfl rfl rfl fun R hR hN=>w20 hn hp ?_
 by_cases z:off < 0
 ·rw [if_pos z] at h
  rcases hn with rfl | rfl <;> exact gs_i hp (br_t (dt z) (hR h))
 ·rw [if_neg z] at h
  rcases hn with rfl | rfl <;> exact gs_i hp (br_f (df z) (gs_i hp (gs_i hp (gs_i hp (w42 (by decide) (dr_ref hd) ho (Int.not_lt.mp z) (hR h))))))
theorem w45 {t:T6} (hn:t.nf=2 ∨ t.nf=10) (h:K (optT (invM t)) σ):C.f (k+2) 45 [tPV t] σ K:=by
 refine go rfl rfl rfl fun R hR hN=>w38 hn (br_i (fun z=>?_) fun z=>?_)
 ·unfold invM at h
  rw [if_pos (by simpa using z)] at h;exact hR h
 ·unfold invM at h
  rw [if_neg (by simpa using z)] at h
  refine w40 hn (br_d (fun y=>?_) fun y=>?_)
  ·rw [if_pos (by exact y)] at h;exact hR h
  ·rw [if_neg (by exact y),← bitAnd_m8] at h;exact hR h
theorem w46 {i:Nat} {o r:PV} {u:Int} (hi:σ[i]?=some (talkA o r u)) (hr:∀ P:Prop,P→nA r P) (h:K r σ):C.f (k+1) 46 [.inst 36 i,.int 1] σ K :=
 go rfl rfl rfl fun R hR hN=>gs_i hi (hr _ (hR h))
theorem w48 {bk tb ts a b c tk:Nat} {o r:PV} {t:T6} (hb:σ[bk]?=some (bookA tb ts a b c)) (ht:σ[tb]?=some (.td 0 [t.nf,t.pr,t.src,t.sp,t.dst,t.dp] (.tup [.int 7,.int 1]))) (hs:σ[ts]?=some (.idc [7] [.inst 36 tk])) (hk:σ[tk]?=some (talkA o r 9))
  (h:K (.tup [.inst 36 tk,.int 1]) σ):C.f (k+1) 48 [.inst 37 bk,.int 0,tPV t,.int 5] σ K :=
 go rfl rfl rfl fun R hR hN=>gs_i hb (gs_i ht (gs_i ht (gd_i ⟨rfl,rfl⟩ (gs_i hb (gs_i hs (gs_i hk (hR h)))))))
theorem w57 (hn:nf=2 ∨ nf=10) (hp:σ[p]?=some (pkt d l nf l4 off pl)) (hd:σ[d]?=some (.ba data)) (h:K (.bool (fltM nf l4 off data)) σ):C.f (k+4) 57 [.inst 17 p] σ K:=by
 refine go rfl rfl rfl fun R hR hN=>w20 hn hp (gs_i hp (w38 hn (br_i (fun z=>?_) fun z=>gs_i hp (br_d (fun y=>?_) fun y=>gs_i hp (gs_i hp (gs_i hd (br_d (fun x=>?_) fun x=>?_)))))))
 all_goals unfold fltM at h
 ·rw [if_pos (.inl (by simpa using z))] at h;exact hR h
 ·rw [if_pos (.inr (.inl y))] at h;exact hR h
 ·rw [if_pos (.inr (.inr x))] at h;exact hR h
 ·rw [if_neg fun q=>q.elim (by simpa using z) fun q=>q.elim y x] at h
  exact gs_i hp (gs_i hp (gs_i hd (gd_i ⟨Int.not_lt.mp y,Int.not_le.mp x⟩ (w39 hn (hR h)))))
theorem w31 (hn:nf=2 ∨ nf=10) (hp:σ[p]?=some (pkt d l nf l4 off pl)) (hd:σ[d]?=some (.ba data)) (ho:Oct data) (hl:hdz nf≤data.length) (h:K (.int (num (sl data (adr nf+adz nf) (adr nf+adz nf+adz nf)))) σ):C.f (k+4) 31 [.inst 17 p] σ K:=by
 refine go rfl rfl rfl fun R hR hN=>go rfl rfl rfl fun S hS hT=>?_
 rcases hn with rfl | rfl
 ·refine gs_i hp (w22 (t:=false) (g:=16) hp hd (by decide) (by decide) rfl (fun _ _=>w4b _ (Oct_sl ho) (sl_le (m:=30) (by decide) (by decide)) (hS (hR h))) fun q=>absurd ⟨Int.le_refl 0,hl⟩ q)
 ·refine gs_i hp (gs_i hp (w22 (t:=false) (g:=24) hp hd (by decide) (by decide) rfl (fun _ _=>w4b _ (Oct_sl ho) (sl_le (m:=30) (by decide) (by decide)) (hS (hR h))) fun q=>absurd ⟨Int.le_refl 0,hl⟩ q))
end
end
section
theorem ga_end {σ:List PV} {x:PV}:(σ ++ [x])[σ.length]?=some x:=List.getElem?_concat_length
theorem ga_lt {σ:List PV} {i:Nat} {x:PV} (h:σ[i]?=some x):i < σ.length:=(List.getElem?_eq_some_iff.mp h).1
theorem ga_l {σ l:List PV} {i:Nat} {x:PV} (h:σ[i]?=some x):(σ ++ l)[i]?=some x:=by rw [List.getElem?_append_left (ga_lt h)];exact h
structure Bld (σ τ:List PV) (i:Nat) (A:PV):Prop where
 a:τ[i]?=some A
 o:∀ (j:Nat) (x:PV),j ≠ i→σ[j]?=some x→τ[j]?=some x
 l:σ.length≤τ.length
theorem Bld.refl {σ:List PV} {i:Nat} {A:PV} (h:σ[i]?=some A):Bld σ σ i A:=⟨h,fun _ _ _ q=>q,Nat.le_refl _⟩
theorem Bld.app {σ τ:List PV} {i:Nat} {A y:PV} (b:Bld σ τ i A):Bld σ (τ ++ [y]) i A:=⟨ga_l b.a,fun j x h q=>ga_l (b.o j x h q),Nat.le_trans b.l (by rw [List.length_append];exact Nat.le_add_right _ _)⟩
theorem Bld.set {σ τ:List PV} {i:Nat} {A B:PV} (b:Bld σ τ i A):Bld σ (τ.set i B) i B:=⟨gs_same b.a,fun j x h q=>gs_ne (fun e=>h e.symm) (b.o j x h q),by rw [List.length_set];exact b.l⟩
theorem Bld.trans {σ τ υ:List PV} {i:Nat} {A B:PV} (b:Bld σ τ i A) (c:Bld τ υ i B):Bld σ υ i B:=⟨c.a,fun j x h q=>c.o j x h (b.o j x h q),Nat.le_trans b.l c.l⟩
structure PkN (σ τ:List PV) (p d l:Nat) (nf l4 off pl:Int) (data:List Int):Prop where
 a:τ[p]?=some (pkt d l nf l4 off pl)
 b:τ[d]?=some (.ba data)
 ne:d ≠ p
 lp:σ.length≤p
 ld:σ.length≤d
 o:∀ (j:Nat) (x:PV),σ[j]?=some x→τ[j]?=some x
noncomputable def fnd:Option (Int × Int × Int)→Bool→PV
 | none,_=>.none
 | some a,m=>.tup [.int a.1,.int a.2.1,.int a.2.2,.bool m]
noncomputable def fL (x:Option (Int × Int × Int)):Int:=match x with | none=>-1 | some a=>a.1
noncomputable def fO (x:Option (Int × Int × Int)):Int:=match x with | none=>-1 | some a=>if a.2.2=0 then a.2.1 else -1
noncomputable def fP (x:Option (Int × Int × Int)):Int:=match x with | none=>0 | some a=>a.2.2
abbrev Fnd (C:OS) (nf:Int) (data:List Int) (x:Option (Int × Int × Int)):Prop:=∀ {k:Nat} {τ:List PV} {y:PV} {K:PV→List PV→Prop},Dr τ y data→(∀ m,K (fnd x m) τ)→C.f (k+3) (if nf=2 then 9 else 14) [y] τ K
section
variable {C:OS} {k:Nat} {σ:List PV} {K:PV→List PV→Prop} {p d l:Nat} {nf l4 off pl:Int} {data:List Int}
theorem lp16 {D:Orc} {K:Fl→St→Prop}:∀ (l:List Str) (x:PV) (n:Nat) (y:LV),(x=.ed ∨ ∃ m,x=.sdx m∧m≤n)→n+l.length≤100→(∀ x y,(x=.ed ∨ ∃ m,x=.sdx m∧m≤100)→K .next ⟨[.own x,y],σ⟩) →
  forW (fun y st k=>wG (.nm 4 1) y st.r fun r=>wB D (.cons (.asgI 13 (.own 16 0) (.loc 15 1) (.lit 17 (.int 0))) .nil) ⟨r,st.s⟩ k) (l.map .str) ⟨[.own x,y],σ⟩ K
 | [],x,n,y,hx,hn,h=>h x y (hx.imp id fun ⟨m,e,q⟩=>⟨m,e,Nat.le_trans q hn⟩)
 | a :: l,x,n,y,hx,hn,h=>by
  have hn:n+1+l.length≤100:=by rw [List.length_cons] at hn;exact L.q237 hn
  rcases hx with rfl | ⟨m,rfl,q⟩
  ·exact lp16 l (.sdx 1) (n+1) (.v (.str a)) (.inr ⟨1,rfl,Nat.le_add_left _ _⟩) hn h
  ·exact gd_i (show m < 1000 by exact L.q238 hn q) (lp16 l (.sdx (m+1)) (n+1) (.v (.str a)) (.inr ⟨m+1,rfl,Nat.succ_le_succ q⟩) hn h)
theorem a16 {Q:Fl→St→Prop} (h:∀ x y,(x=PV.ed ∨ ∃ m,x=.sdx m∧m≤100)→Q .next ⟨[.own x,y],σ⟩):wS (C.f k) (headB (dropB 1 c16)) ⟨[.own .ed,.un],σ⟩ Q:=by
 show forW _ _ _ _
 exact lp16 ["mark", "priority", "iif", "oif", "iifname", "oifname", "pkttype"] .ed 0 .un (.inl rfl) (by decide) h
theorem b16 {Q:Fl→St→Prop} (h:Q .next ⟨[.own .ed,.un],σ⟩):wS (C.f k) (headB c16) ⟨[.un,.un],σ⟩ Q:=h
theorem r16 {R:Fl→St→Prop} {x:PV} {y:LV} (hx:x=PV.ed ∨ ∃ m,x=.sdx m∧m≤100) (h:∀ r,R (.ret .any) ⟨r,σ⟩):wB (C.f k) (dropB 2 c16) ⟨[.own x,y],σ⟩ R:=by
 rcases hx with rfl | ⟨m,rfl,q⟩
 ·exact h _
 ·exact gd_i (show m < 1000 by exact L.q239 q) (gd_i (show m+1 < 1000 by exact L.q240 q) (h _))
theorem p16:∃ s0 s1 r,c16=.cons s0 (.cons s1 r)∧(∀ {Q:Fl→St→Prop},Q .next ⟨[.own .ed,.un],σ⟩→wS (C.f k) s0 ⟨[.un,.un],σ⟩ Q)∧(∀ {Q:Fl→St→Prop},(∀ x y,(x=PV.ed ∨ ∃ m,x=.sdx m∧m≤100)→Q .next ⟨[.own x,y],σ⟩)→wS (C.f k) s1 ⟨[.own .ed,.un],σ⟩ Q) ∧
  ∀ {R:Fl→St→Prop} {x:PV} {y:LV},(x=PV.ed ∨ ∃ m,x=.sdx m∧m≤100)→(∀ r,R (.ret .any) ⟨r,σ⟩)→wB (C.f k) r ⟨[.own x,y],σ⟩ R :=
 ⟨headB c16,headB (dropB 1 c16),dropB 2 c16,rfl,b16,a16,r16⟩
theorem w16 (h:K .any σ):C.f (k+1) 16 [] σ K:=by
 obtain ⟨s0,s1,r,e,h0,h1,h2⟩:=p16 (C:=C) (k:=k) (σ:=σ)
 exact go (m:=2) (c:=.cons s0 (.cons s1 r)) (by rw [← e];rfl) rfl rfl fun R hR hN=>b_seq (h0 (b_seq (h1 fun x y hx=>h2 hx fun r=>hR h)))
theorem w17 {i:Nat} (hi:σ[i]?=some (.att [] [])) (h:∀ τ l,Bld (σ ++ [.ba data]) τ i (pkt σ.length l nf (-1) (-1) 0)→K .none τ):C.f (k+2) 17 [.inst 17 i,.bytes data,.int (kd nf),.bytes []] σ K:=by
 refine go rfl rfl rfl fun R hR hN=>?_
 have q:=Bld.refl (ga_l (l:=[PV.ba data]) hi)
 refine gs_i q.a (gs_i q.set.app.a (gs_i q.set.app.set.a (gs_i q.set.app.set.set.a (gs_i q.set.app.set.set.set.a (gs_i q.set.app.set.set.set.set.a (w16 (gs_i q.set.app.set.set.set.set.set.a (hN (h _ _ q.set.app.set.set.set.set.set.set)))))))))
theorem w18 {x:Option (Int × Int × Int)} {l0 o0 p0:Int} (hn:nf=2 ∨ nf=10) (hp:σ[p]?=some (pkt d l nf l0 o0 p0)) (hd:σ[d]?=some (.ba data)) (hne:d ≠ p) (hf:Fnd C nf data x) (hx:∀ a,x=some a→a.2.1≤data.length)
  (h:∀ τ,Bld σ τ p (pkt d l nf (fL x) (fO x) (fP x))→K .none τ):C.f (k+4) 18 [.inst 17 p] σ K:=by
 refine go rfl rfl rfl fun R hR hN=>?_
 have q:=Bld.refl hp
 refine gs_i q.a (gs_i q.set.a (gs_i q.set.set.a ?_))
 have q3:=fun {A B D:PV}=>((q.set (B:=A)).set (B:=B)).set (B:=D)
 have main:∀ (τ:List PV) m,Bld σ τ p (pkt d l nf (-1) (-1) 0)→wB (C.f (k+3)) (dropB 5 c18) ⟨[.v (.inst 17 p),.v (fnd x m),.un,.un,.un],τ⟩ R:=fun τ m b=>by
  cases x with
  | none=>exact hR (h τ b)
  | some a =>
   refine gs_i b.a (gs_i b.set.a (br_d (fun z=>?_) fun z=>?_))
   ·have h:=fun τ (b:Bld σ τ p _)=>h τ (by unfold fO fL fP;dsimp only;rw [if_pos z];exact b)
    exact gs_i b.set.set.a (gs_i (b.set.set.o d _ hne hd) (br_t (dt (hx a rfl)) (gs_i b.set.set.a (hN (h _ b.set.set.set)))))
   ·have h:=fun τ (b:Bld σ τ p _)=>h τ (by unfold fO fL fP;dsimp only;rw [if_neg z];exact b)
    exact hN (h _ b.set.set)
 rcases hn with rfl | rfl
 ·exact gs_i q3.a (gs_i q3.a (hf (dr_ref (q3.o d _ hne hd)) fun m=>main _ m q3))
 ·exact gs_i q3.a (gs_i q3.a (gs_i q3.a (hf (dr_ref (q3.o d _ hne hd)) fun m=>main _ m q3)))
theorem w19 {x:Option (Int × Int × Int)} (hn:nf=2 ∨ nf=10) (hf:Fnd C nf data x) (hx:∀ a,x=some a→a.2.1≤data.length) (h:∀ τ p d l,PkN σ τ p d l nf (fL x) (fO x) (fP x) data→K (.inst 17 p) τ):C.f (k+5) 19 [.bytes data,.int (kd nf)] σ K:=by
 refine C.ok rfl rfl ?_
 refine w17 (σ:=σ ++ [.att [] []]) (nf:=nf) ga_end fun τ l b=>?_
 have b:Bld (σ ++ [PV.att [] []] ++ [.ba data]) τ σ.length (pkt (σ ++ [PV.att [] []]).length l nf (-1) (-1) 0):=b
 have e1:(σ ++ [PV.att [] []]).length=σ.length+1:=List.length_append
 have hd:τ[(σ ++ [PV.att [] []]).length]?=some (.ba data):=b.o _ _ (L.q241 e1) ga_end
 refine w18 (p:=σ.length) (d:=(σ ++ [PV.att [] []]).length) (σ:=τ) hn b.a hd (L.q241 e1) hf hx fun υ c=>h υ σ.length _ l ⟨c.a,c.o _ _ (L.q241 e1) hd,by exact L.q241 e1,Nat.le_refl _,by exact L.q242 e1,fun j y q=>?_⟩
 have:=ga_lt q
 exact c.o _ _ (L.q27 this) (b.o _ _ (L.q27 this) (ga_l (ga_l q)))
end
end
section
theorem ix_mem {l:List Int} {v:Int} (h0:0≤v) (h1:v < l.length):ix l v ∈ l:=List.mem_of_getElem? (ix_at ⟨h0,h1⟩)
theorem Oct_set {l:List Int} {n:Nat} {x:Int} (h:Oct l) (hx:0≤x∧x < 256):Oct (l.set n x):=by
 intro y hy
 rcases List.mem_or_eq_of_mem_set hy with h1 | h1
 ·exact h y h1
 ·rw [h1];exact hx
noncomputable def body0 (v:Int):List Int:=(List.range (24:Int).toNat).map fun i:Nat=>(11 * (i:Int)+v) % 256
theorem body0_len {v:Int}:(body0 v).length=24:=by unfold body0;rw [List.length_map,List.length_range];rfl
theorem body0_Oct {v:Int}:Oct (body0 v):=by
 intro x hx
 obtain ⟨k,_,rfl⟩:=List.mem_map.mp hx
 exact ⟨Int.emod_nonneg _ (L.q118),Int.emod_lt_of_pos _ (L.q119)⟩
def PRo (pr:Int):Prop:=pr=6 ∨ pr=17 ∨ pr=1 ∨ pr=58 ∨ pr=47 ∨ pr=132 ∨ pr=33 ∨ pr=50
theorem plc_cases {pr:Int}:(plc (-1) pr=16∧pr=6) ∨ (plc (-1) pr=6∧pr=17) ∨ (plc (-1) pr=2∧(pr=1 ∨ pr=58)) ∨ (plc (-1) pr=-1∧pr ≠ 6∧pr ≠ 17∧pr ≠ 1∧pr ≠ 58):=by
 rw [plc_eq];repeat' split
 all_goals lia
noncomputable def hd4 (w x fr pr y e0 e1:Int):List Int:=[69+w,0] ++ oct x 2 ++ [1,2] ++ oct fr 2 ++ [64,pr] ++ oct y 2 ++ oct e0 4 ++ oct e1 4 ++ (List.replicate (4 * w).toNat [1]).flatten
theorem ix_all {l:List Int} {P:Int→Prop} {v:Int} (h:∀ x ∈ l,P x) (h0:0≤v) (h1:v < l.length):P (ix l v):=h _ (ix_mem h0 h1)
def KD (k:Int):Prop:=k=60 ∨ k=43 ∨ k=51
theorem ix_kd {v:Int} (h0:0≤v) (h1:v < 3):KD (ix [60,43,51] v):=by
 have:=ix_mem (l:=[60,43,51]) h0 (by simpa using h1)
 simp at this;unfold KD;exact L.q485 this
noncomputable def sec (k:Int):Int:=if k=60 then 0 else if k=43 then 1 else 4
noncomputable def siz (k:Int):Int:=if k=60 then 8 else if k=43 then 16 else 24
noncomputable def blk (piece k b:Int):List Int:=if k=44 then [b,0] ++ oct (8 * (piece - 2)+1) 2 ++ [0,0,0,5] else [b,sec k] ++ (List.replicate (siz k - 2).toNat [9]).flatten
noncomputable def KK (ks:List Int) (piece:Int):List Int:=if 1 < piece then ks ++ [44] else ks
noncomputable def hd6 (x k0 e0 e1:Int) (more:List Int):List Int:=[96,0,0,0] ++ oct x 2 ++ [k0,64] ++ oct e0 16 ++ oct e1 16 ++ more
theorem blk_len {piece k b:Int} (h:k=44 ∨ KD k):(blk piece k b).length≤24:=by
 unfold blk
 rcases h with rfl | h
 ·rw [if_pos rfl];simp [oct_len]
 ·rw [if_neg (by unfold KD at h;exact L.q486 h)]
  have e:∀ n,((List.replicate n [(9:Int)]).flatten).length=n:=by
   intro n;induction n with
   | zero=>rfl
   | succ n ih=>rw [List.replicate_succ,List.flatten_cons,List.length_append,ih];simp;exact L.q487
  rw [List.length_append,e]
  rcases h with rfl | rfl | rfl <;> simp [siz]
theorem rep_len {n:Nat} {x:Int}:((List.replicate n [x]).flatten).length=n:=by
 induction n with
 | zero=>rfl
 | succ n ih=>rw [List.replicate_succ,List.flatten_cons,List.length_append,ih];simp;exact L.q487
theorem hd4_len {w x fr pr y e0 e1:Int} (h0:0≤w):(hd4 w x fr pr y e0 e1).length=(20+4 * w).toNat:=by
 unfold hd4
 simp only [List.length_append,oct_len,rep_len,List.length_cons,List.length_nil]
 exact L.q488 h0
theorem hd6_len {x k0 e0 e1:Int} {m:List Int}:(hd6 x k0 e0 e1 m).length=40+m.length:=by
 unfold hd6
 simp only [List.length_append,oct_len,List.length_cons,List.length_nil]
theorem KK_in {ks:List Int} {piece:Int} (h:∀ k ∈ ks,KD k):∀ k ∈ KK ks piece,k=44 ∨ KD k:=by
 intro k hk
 unfold KK at hk
 split at hk
 ·rcases List.mem_append.mp hk with h1 | h1
  ·exact .inr (h k h1)
  ·exact .inl (by simpa using h1)
 ·exact .inr (h k hk)
theorem KK_len {ks:List Int} {piece:Int} (h:ks.length < 6):(KK ks piece).length≤6:=by
 unfold KK;split
 ·rw [List.length_append,List.length_singleton];exact L.q489 h
 ·exact L.q490 h
theorem oct_succ {n:Int} {m:Nat}:oct n (m+1)=(n / 256 ^ m % 256) :: oct n m:=by
 unfold oct
 rw [List.range_succ_eq_map,List.map_cons,List.map_map]
 congr 1
 apply List.map_congr_left
 intro k hk
 have hk:=List.mem_range.mp hk
 show n / 256 ^ (m+1 - 1 - (k+1)) % 256=n / 256 ^ (m - 1 - k) % 256
 have e:m+1 - 1 - (k+1)=m - 1 - k:=L.q491 hk
 rw [e]
theorem num_oct:∀ {n:Int} {m:Nat},num (oct n m)=n % 256 ^ m
 | n,0=>by simp [oct,num]
 | n,m+1=>by
  rw [oct_succ,num_cons,oct_len,num_oct]
  have h:(256:Int) ^ (m+1)=256 ^ m * 256:=Int.pow_succ 256 m
  rw [h]
  have hp:(0:Int) < 256 ^ m:=Int.pow_pos (L.q119)
  have e1:=Int.emod_add_mul_ediv n (256 ^ m)
  have e2:=Int.emod_add_mul_ediv (n / 256 ^ m) 256
  have r1:=Int.emod_nonneg n (Int.ne_of_gt hp)
  have r2:=Int.emod_lt_of_pos n hp
  generalize (256:Int) ^ m=M at *
  have r3:=Int.emod_nonneg (n / M) (b:=256) (L.q118)
  have r4:=Int.emod_lt_of_pos (n / M) (b:=256) (L.q119)
  generalize n / M % 256=r2' at *
  generalize n / M / 256=q2 at *
  generalize n % M=r at *
  have e3:n=(r2' * M+r)+(M * 256) * q2:=by
   rw [← e1,← e2,Int.mul_add,← Int.mul_assoc,Int.mul_comm M r2'];exact L.q492
  have r5:r2' * M≤255 * M:=Int.mul_le_mul_of_nonneg_right (L.q493 r4) (L.q45 hp)
  have r6:0≤r2' * M:=Int.mul_nonneg r3 (L.q45 hp)
  rw [e3,Int.add_mul_emod_self_left,Int.emod_eq_of_lt (L.q230 r1 r6) (L.q494 r2 r5)]
theorem num_oct_id {n:Int} {m:Nat} (h0:0≤n) (h1:n < 256 ^ m):num (oct n m)=n:=by rw [num_oct,Int.emod_eq_of_lt h0 h1]
theorem ix_take {l:List Int} {c:Nat} {j:Int} (h0:0≤j) (h1:j < c):ix (l.take c) j=ix l j:=by
 unfold ix
 simp only [List.getD_eq_getElem?_getD]
 rw [List.getElem?_take_of_lt (L.q398 h0 h1)]
theorem sl_take {l:List Int} {c:Nat} {a b:Int} (h:b≤c):sl (l.take c) a b=sl l a b:=by
 unfold sl
 rw [List.take_take,Nat.min_eq_left (L.q218 h)]
theorem sl_mid {A B C:List Int} {a b:Int} (ha:a=A.length) (hb:b=A.length+B.length):sl (A ++ (B ++ C)) a b=B:=by
 subst ha hb
 unfold sl
 have e:((A.length:Int)+B.length).toNat=A.length+B.length:=L.q495
 rw [e,← List.append_assoc,← List.length_append,List.take_left']
 ·rw [List.drop_left'];rfl
 ·rfl
theorem ix_mid {A B:List Int} {j:Nat}:ix (A ++ B) (A.length+j)=ix B j:=by
 unfold ix
 simp only [List.getD_eq_getElem?_getD]
 rw [List.getElem?_append_right (L.q496)]
 congr 2
 exact L.q497
theorem blk_ix {piece k b:Int} {R:List Int}:ix (blk piece k b ++ R) 0=b∧ix (blk piece k b ++ R) 1=if k=44 then 0 else sec k:=by
 unfold blk
 by_cases h:k=44
 ·rw [if_pos h,if_pos h];exact ⟨rfl,rfl⟩
 ·rw [if_neg h,if_neg h];exact ⟨rfl,rfl⟩
theorem blk_sz {piece k b:Int} (h:k=44 ∨ KD k):hsz k (if k=44 then 0 else sec k)=(blk piece k b).length∧hsz k 0 ≠ 0∧8≤(blk piece k b).length:=by
 unfold blk
 rcases h with rfl | rfl | rfl | rfl
 ·rw [if_pos rfl,if_pos rfl]
  simp only [List.length_append,oct_len,List.length_cons,List.length_nil]
  exact ⟨rfl,by decide,by exact L.q498⟩
 all_goals
  rw [if_neg (by decide),if_neg (by decide)]
  simp only [List.length_append,rep_len,List.length_cons,List.length_nil]
  exact ⟨rfl,by decide,by decide⟩
theorem sz_cut {pre R:List Int} {piece k b:Int} {c:Nat} (h:k=44 ∨ KD k) (hc:pre.length≤c) {D:List Int} (hD:D=(pre ++ (blk piece k b ++ R)).take c) :
  (pre.length+(blk piece k b).length≤D.length→szA D pre.length k=(blk piece k b).length∧ix D pre.length=b)∧(D.length < pre.length+(blk piece k b).length→szA D pre.length k < 0):=by
 obtain ⟨z1,z2,z3⟩:=blk_sz (piece:=piece) (b:=b) h
 obtain ⟨i0,i1⟩:=blk_ix (piece:=piece) (k:=k) (b:=b) (R:=R)
 have hl:D.length≤c:=by rw [hD,List.length_take];exact L.q105
 have g:∀ j:Nat,pre.length+j < c→ix D (pre.length+j)=ix (blk piece k b ++ R) j:=by
  intro j hj
  rw [hD,ix_take (L.q499) (L.q500 hj),ix_mid]
 unfold szA
 rw [if_neg z2]
 constructor
 ·intro hle
  have e1:=g 1 (L.q501 z3 hl hle)
  have e0:=g 0 (L.q502 z3 hl hle)
  have e1':ix D ((pre.length:Int)+1)=if k=44 then 0 else sec k:=e1.trans i1
  have e0':ix D (pre.length:Int)=b:=by
   have:ix D (pre.length:Int)=ix D ((pre.length:Int)+((0:Nat):Int)):=by rw [show ((pre.length:Int)+((0:Nat):Int))=pre.length by exact L.q503]
   rw [this]
   exact e0.trans i0
  rw [if_neg (L.q504 z3 hle),e1',z1,if_neg (L.q505 hle)]
  exact ⟨rfl,e0'⟩
 ·intro hlt
  by_cases h2:(D.length:Int) < pre.length+2
  ·rw [if_pos h2];exact L.q156
  ·have e1':ix D ((pre.length:Int)+1)=if k=44 then 0 else sec k:=(g 1 (L.q506 hl h2)).trans i1
   rw [if_neg h2,e1',z1,if_pos (L.q507 hlt)]
   exact L.q156
noncomputable def moreR (pr piece:Int):List Int→List Int
 | []=>[]
 | k :: K=>blk piece k (ix (K ++ [pr]) 0) ++ moreR pr piece K
theorem KK_cons {k:Int} {ks:List Int} {piece:Int}:KK (k :: ks) piece=k :: KK ks piece:=by
 unfold KK;split <;> rfl
theorem pl_cut {pre R:List Int} {piece b:Int} {c:Nat} (hp:piece=2 ∨ piece=3) {D:List Int} (hD:D=(pre ++ (blk piece 44 b ++ R)).take c) (hl:pre.length+8≤D.length) :
  plA D pre.length=if piece=3 then 8 else 0:=by
 have hlc:D.length≤c:=by rw [hD,List.length_take];exact L.q105
 unfold plA
 have e:sl D ((pre.length:Int)+2) (pre.length+4)=oct (8 * (piece - 2)+1) 2:=by
  rw [hD,sl_take (L.q508 hl hlc)]
  have:pre ++ (blk piece 44 b ++ R)=(pre ++ [b,0]) ++ (oct (8 * (piece - 2)+1) 2 ++ ([0,0,0,5] ++ R)):=by
   unfold blk;rw [if_pos rfl];simp only [List.append_assoc]
  rw [this]
  apply sl_mid
  ·simp
  ·simp [oct_len];exact L.q509
 rw [e,num_oct]
 rcases hp with rfl | rfl
 ·rw [if_neg (by decide)];rfl
 ·rw [if_pos rfl];rfl
def Head (nf pr piece e0 e1:Int) (head:List Int):Prop :=
 (nf=2∧∃ w x y,0≤w∧w < 3∧head=hd4 w x (ix [0,16384,8192,1] piece) pr y e0 e1) ∨
 (nf=10∧∃ ks x,ks.length < 6∧(∀ k ∈ ks,KD k)∧head=hd6 x (ix (KK ks piece ++ [pr]) 0) e0 e1 (moreR pr piece (KK ks piece)))
theorem Oct_rep {n:Nat} {x:Int} (h:0≤x∧x < 256):Oct (List.replicate n [x]).flatten:=by
 intro y hy
 obtain ⟨l,hl,hy⟩:=List.mem_flatten.mp hy
 rw [List.mem_replicate] at hl
 rw [hl.2,List.mem_singleton] at hy
 rw [hy];exact h
theorem Oct_nil:Oct []:=by intro x hx;simp at hx
theorem Oct_cons {x:Int} {l:List Int} (h:0≤x∧x < 256) (k:Oct l):Oct (x :: l):=by
 intro y hy
 rcases List.mem_cons.mp hy with rfl | h1
 ·exact h
 ·exact k y h1
theorem blk_Oct {piece k b:Int} (h:k=44 ∨ KD k) (hb:0≤b∧b < 256):Oct (blk piece k b):=by
 unfold blk
 split
 ·exact Oct_app (Oct_app (Oct_cons hb (Oct_cons (L.q510) Oct_nil)) oct_Oct) (Oct_cons (L.q510) (Oct_cons (L.q510) (Oct_cons (L.q510) (Oct_cons (L.q511) Oct_nil))))
 ·refine Oct_app (Oct_cons hb (Oct_cons ?_ Oct_nil)) (Oct_rep (L.q512))
  unfold sec;repeat' split
  all_goals lia
theorem k0_Oct {K:List Int} {pr:Int} (h:∀ k ∈ K,k=44 ∨ KD k) (hp:0≤pr∧pr < 256):0≤ix (K ++ [pr]) 0∧ix (K ++ [pr]) 0 < 256:=by
 cases K with
 | nil=>exact hp
 | cons k K =>
  show 0≤k∧k < 256
  have:=h k List.mem_cons_self
  unfold KD at this;exact L.q513 this
theorem moreR_Oct {pr piece:Int} (hp:0≤pr∧pr < 256):∀ {K:List Int},(∀ k ∈ K,k=44 ∨ KD k)→Oct (moreR pr piece K)
 | [],_=>Oct_nil
 | k :: K,h=>Oct_app (blk_Oct (h k List.mem_cons_self) (k0_Oct (fun x hx=>h x (List.mem_cons_of_mem _ hx)) hp)) (moreR_Oct hp (fun x hx=>h x (List.mem_cons_of_mem _ hx)))
theorem moreR_even {pr piece:Int}:∀ {K:List Int},(∀ k ∈ K,k=44 ∨ KD k)→(moreR pr piece K).length % 4=0
 | [],_=>rfl
 | k :: K,h=>by
  have ih:=moreR_even (pr:=pr) (piece:=piece) (fun x hx=>h x (List.mem_cons_of_mem _ hx))
  have hk:=h k List.mem_cons_self
  have hb:(blk piece k (ix (K ++ [pr]) 0)).length % 4=0:=by
   unfold blk
   rcases hk with rfl | rfl | rfl | rfl
   ·rw [if_pos rfl];simp only [List.length_append,oct_len,List.length_cons,List.length_nil]
   all_goals rw [if_neg (by decide)];simp only [List.length_append,rep_len,List.length_cons,List.length_nil];rfl
  show (blk piece k (ix (K ++ [pr]) 0) ++ moreR pr piece K).length % 4=0
  rw [List.length_append];exact L.q514 ih hb
theorem Head_Oct {nf pr piece e0 e1:Int} {head:List Int} (h:Head nf pr piece e0 e1 head) (hp:0≤pr∧pr < 256):Oct head:=by
 rcases h with ⟨rfl,w,x,y,h0,h1,rfl⟩ | ⟨rfl,ks,x,h0,h1,rfl⟩
 ·unfold hd4
  exact Oct_app (Oct_app (Oct_app (Oct_app (Oct_app (Oct_app (Oct_app (Oct_app (Oct_cons (L.q515 h0 h1) (Oct_cons (L.q510) Oct_nil)) oct_Oct) (Oct_cons (L.q516) (Oct_cons (L.q517) Oct_nil))) oct_Oct) (Oct_cons (L.q518) (Oct_cons hp Oct_nil))) oct_Oct) oct_Oct) oct_Oct) (Oct_rep (L.q516))
 ·unfold hd6
  exact Oct_app (Oct_app (Oct_app (Oct_app (Oct_app (Oct_cons (L.q519) (Oct_cons (L.q510) (Oct_cons (L.q510) (Oct_cons (L.q510) Oct_nil)))) oct_Oct) (Oct_cons (k0_Oct (KK_in h1) hp) (Oct_cons (L.q518) Oct_nil))) oct_Oct) oct_Oct) (moreR_Oct hp (KK_in h1))
theorem Head_even {nf pr piece e0 e1:Int} {head:List Int} (h:Head nf pr piece e0 e1 head):head.length % 4=0:=by
 rcases h with ⟨rfl,w,x,y,h0,h1,rfl⟩ | ⟨rfl,ks,x,h0,h1,rfl⟩
 ·rw [hd4_len h0];exact L.q520 h0
 ·rw [hd6_len]
  have:=moreR_even (pr:=pr) (piece:=piece) (KK_in (piece:=piece) h1)
  exact L.q521 this
theorem Head_ends {nf pr piece e0 e1:Int} {head body D:List Int} {c:Nat} (h:Head nf pr piece e0 e1 head) (hc:hdz nf≤c) (hD:D=(head ++ body).take c) :
  sl D (adr nf) (adr nf+adz nf)=oct e0 (adz nf).toNat∧sl D (adr nf+adz nf) (adr nf+adz nf+adz nf)=oct e1 (adz nf).toNat:=by
 rcases h with ⟨rfl,w,x,y,h0,h1,rfl⟩ | ⟨rfl,ks,x,h0,h1,rfl⟩
 ·have hc:(20:Int)≤c:=hc
  show sl D 12 16=oct e0 4∧sl D 16 20=oct e1 4
  rw [hD,sl_take (L.q522 hc),sl_take (L.q523 hc)]
  unfold hd4
  constructor
  ·have e:∀ A B C R E F:List Int,A ++ B ++ C ++ R ++ E ++ F ++ oct e0 4 ++ oct e1 4 ++ (List.replicate (4 * w).toNat [1]).flatten ++ body=(A ++ B ++ C ++ R ++ E ++ F) ++ (oct e0 4 ++ (oct e1 4 ++ ((List.replicate (4 * w).toNat [1]).flatten ++ body))):=by
    intros;simp only [List.append_assoc]
   rw [e]
   apply sl_mid <;> simp [oct_len]
  ·have e:∀ A B C R E F:List Int,A ++ B ++ C ++ R ++ E ++ F ++ oct e0 4 ++ oct e1 4 ++ (List.replicate (4 * w).toNat [1]).flatten ++ body=(A ++ B ++ C ++ R ++ E ++ F ++ oct e0 4) ++ (oct e1 4 ++ ((List.replicate (4 * w).toNat [1]).flatten ++ body)):=by
    intros;simp only [List.append_assoc]
   rw [e]
   apply sl_mid <;> simp [oct_len]
 ·have hc:(40:Int)≤c:=hc
  show sl D 8 24=oct e0 16∧sl D 24 40=oct e1 16
  rw [hD,sl_take (L.q524 hc),sl_take (L.q525 hc)]
  unfold hd6
  constructor
  ·have e:∀ A B C M:List Int,A ++ B ++ C ++ oct e0 16 ++ oct e1 16 ++ M ++ body=(A ++ B ++ C) ++ (oct e0 16 ++ (oct e1 16 ++ (M ++ body))):=by
    intros;simp only [List.append_assoc]
   rw [e]
   apply sl_mid <;> simp [oct_len]
  ·have e:∀ A B C M:List Int,A ++ B ++ C ++ oct e0 16 ++ oct e1 16 ++ M ++ body=(A ++ B ++ C ++ oct e0 16) ++ (oct e1 16 ++ (M ++ body)):=by
    intros;simp only [List.append_assoc]
   rw [e]
   apply sl_mid <;> simp [oct_len]
theorem oct2 {n:Int}:oct n 2=[n / 256 % 256,n % 256]:=by
 rw [oct_succ,oct_succ]
 simp [oct]
theorem Head_look4 {pr piece e0 e1:Int} {head body D:List Int} {c:Nat} (h:Head 2 pr piece e0 e1 head) (h0:0≤piece) (h3:piece < 4) (hc:20≤c) (hD:D=(head ++ body).take c) :
  ix D 0 / 2 ^ 4=4∧Builtin.bitAnd (ix D 0) 15 * 4=head.length∧ix D 9=pr∧Builtin.bitAnd (num (sl D 6 8)) 8191 * 8=(if piece=3 then 8 else 0):=by
 rcases h with ⟨_,w,x,y,hw0,hw1,rfl⟩ | ⟨h,_⟩
 ·rw [hd4_len hw0]
  have e0:ix D 0=69+w:=by
   rw [hD,ix_take (L.q83) (L.q526 hc)];unfold hd4;rfl
  have e9:ix D 9=pr:=by
   rw [hD,ix_take (L.q527) (L.q528 hc)];unfold hd4;rw [oct2,oct2];rfl
  have e6:sl D 6 8=oct (ix [0,16384,8192,1] piece) 2:=by
   rw [hD,sl_take (L.q529 hc)]
   unfold hd4
   have e:∀ A B C R E F G H:List Int,A ++ B ++ C ++ R ++ E ++ F ++ G ++ H ++ (List.replicate (4 * w).toNat [1]).flatten ++ body=(A ++ B ++ C) ++ (R ++ (E ++ F ++ G ++ H ++ (List.replicate (4 * w).toNat [1]).flatten ++ body)):=by
    intros;simp only [List.append_assoc]
   rw [e]
   apply sl_mid <;> simp [oct_len]
  rw [e0,e9,e6]
  have hw:w=0 ∨ w=1 ∨ w=2:=L.q530 hw0 hw1
  have hp:piece=0 ∨ piece=1 ∨ piece=2 ∨ piece=3:=L.q531 h0 h3
  refine ⟨?_,?_,rfl,?_⟩
  ·rcases hw with rfl | rfl | rfl <;> rfl
  ·rcases hw with rfl | rfl | rfl <;> rfl
  ·rcases hp with rfl | rfl | rfl | rfl <;> decide
 ·exact absurd h (by decide)
end
section
noncomputable def b14:CB:=(.cons (.asg 34 5 (.call 36 7 12 (.cons (.loc 38 0) (.cons (.loc 39 2) (.cons (.loc 40 1) (.cons (.b1 41 6 0 (.loc 43 0)) .nil)))))) (.cons (.ite 44 (.bl 45 .Or (.cons (.cmp 46 .Lt (.loc 47 5) (.lit 48 (.int 0))) (.cons (.bl 49 .And (.cons (.cmp 50 .Eq (.loc 51 1) (.lit 52 (.int 0))) (.cons (.cmp 53 .Gt (.loc 54 2) (.lit 55 (.int 40))) .nil))) .nil))) (.cons (.ret 56 (.lit 57 .none)) .nil) .nil) (.cons (.ite 58 (.cmp 59 .Eq (.loc 60 5) (.lit 61 (.int 0))) (.cons (.brk 62) .nil) .nil) (.cons (.ite 63 (.cmp 64 .Eq (.loc 65 1) (.lit 66 (.int 44))) (.cons (.asg 67 3 (.call 69 8 13 (.cons (.loc 71 0) (.cons (.loc 72 2) .nil)))) (.cons (.asg 73 4 (.cmp 75 .Eq (.bin 76 .BitAnd (.item 77 (.loc 81 0) (.bin 78 .Add (.loc 79 2) (.lit 80 (.int 3)))) (.lit 82 (.int 1))) (.lit 83 (.int 1)))) .nil)) .nil) (.cons (.asg 84 1 (.item 86 (.loc 88 0) (.loc 87 2))) (.cons (.aug 89 2 (.loc 91 5)) .nil))))))
noncomputable abbrev s14 (x:PV) (kind a pl:Int) (im:Bool) (z:LV) (σ:List PV):St:=⟨[.v x,.v (.int kind),.v (.int a),.v (.int pl),.v (.bool im),z,.un,.un,.un],σ⟩
section
variable {C:OS} {k:Nat} {σ:List PV} {D:List Int} {x:PV} {c:Nat} {pr piece:Int} {rest:List Int}
theorem tn14 {kind a:Int} {im:Bool} {z:LV} {Q:Fl→St→Prop} (hx:Dr σ x D) (ho:Oct D) (h0:0≤a) (hk:kind ≠ 0) (hz:0 < szA D a kind→a+4≤D.length) (hb:szA D a kind < 0→∀ r,Q (.ret .none) ⟨r,σ⟩) (hs:szA D a kind=0→∀ z,Q .brk (s14 x kind a 0 im z σ))
  (hf:kind=44→0 < szA D a kind→∀ v im z,v=plA D a→Q .next (s14 x (ix D a) (a+szA D a kind) v im z σ)) (hn:kind ≠ 44→0 < szA D a kind→∀ z,Q .next (s14 x (ix D a) (a+szA D a kind) 0 im z σ)):wB (C.f (k+2)) b14 (s14 x kind a 0 im z σ) Q:=by
 refine hx _ (w12 hx h0 (br_d (fun e=>hb e _) fun e=>br_f (df hk) (br_d (fun y=>hs y _) fun y=>?_)))
 have hp:0 < szA D a kind:=L.q243 e y
 have h4:=hz hp
 refine br_d (fun w=>w13 hx ho h0 (hx _ (gd_i ⟨nng h0,by exact L.q244 h4⟩ (hx _ (gd_i ⟨h0,by exact L.q245 h4⟩ (hf w hp _ _ _ rfl)))))) fun w=>hx _ (gd_i ⟨h0,by exact L.q245 h4⟩ (hn w hp _))
theorem PR_ne {pr:Int} (h:PRo pr):pr ≠ 0∧pr ≠ 44∧hsz pr 0=0:=by
 rcases h with rfl | rfl | rfl | rfl | rfl | rfl | rfl | rfl <;> exact ⟨by decide,by decide,rfl⟩
theorem lp14 (hx:Dr σ x D) (ho:Oct D) (hPR:PRo pr) (h0:0≤piece) (h3:piece < 4):∀ (ks pre:List Int) (im:Bool) (z:LV) (K:Fl→St→Prop),(∀ k ∈ ks,KD k)→pre.length≤c→D=(pre ++ (moreR pr piece (KK ks piece) ++ rest)).take c →
  (pre.length+(moreR pr piece (KK ks piece)).length≤D.length→∀ im z,K .next (s14 x pr ((pre.length+(moreR pr piece (KK ks piece)).length:Nat):Int) (if piece=3 then 8 else 0) im z σ)) →
  (D.length < pre.length+(moreR pr piece (KK ks piece)).length→∀ r,K (.ret .none) ⟨r,σ⟩) →
  whlW (fun st k_=>wT (C.f (k+2)) (.cmp 31 .Eq (.loc 32 3) (.lit 33 (.int 0))) st k_) (fun st k_=>wB (C.f (k+2)) b14 st k_) (ks.length+3) (s14 x (ix (KK ks piece ++ [pr]) 0) pre.length 0 im z σ) K
 | [],pre,im,z,K,hk,hc,hD,hs,hn=>by
  by_cases hp:1 < piece
  ·have eK:KK [] piece=[44]:=by unfold KK;rw [if_pos hp];rfl
   rw [eK] at hD hs hn ⊢
   rw [show moreR pr piece [44]=blk piece 44 pr from List.append_nil _] at hD hs hn
   obtain ⟨z1,z2⟩:=sz_cut (.inl rfl) hc hD
   have hl8:(blk piece 44 pr).length=8:=by unfold blk;rw [if_pos rfl];simp [oct_len]
   rw [hl8] at z1 z2 hs hn
   by_cases hle:pre.length+8≤D.length
   ·obtain ⟨e1,e2⟩:=z1 hle
    have hpl:=pl_cut (L.q246 h3 hp) hD hle
    refine tn14 (kind:=44) hx ho lz (by decide) (fun _=>by exact L.q247 hle) (fun q=>absurd q (by rw [e1];decide)) (fun q=>absurd q (by rw [e1];decide)) (fun _ _ v im' z' hv=>?_) fun q=>absurd rfl q
    have hs:=hs hle
    rw [hpl] at hv
    rw [e1,e2]
    by_cases h:piece=3
    ·rw [if_pos h] at hv hs
     subst hv
     exact hs im' z'
    ·rw [if_neg h] at hv hs
     subst hv
     have n0:=PR_ne hPR
     have sz:szA D ((pre.length:Int)+((8:Nat):Int)) pr=0:=by unfold szA;rw [if_pos n0.2.2]
     exact tn14 (kind:=pr) hx ho (nng lz) n0.1 (fun q=>absurd q (by rw [sz];decide)) (fun q=>absurd q (by rw [sz];decide)) (fun _ z=>hs im' z) (fun q=>absurd q n0.2.1) fun _ q=>absurd q (by rw [sz];decide)
   ·have e:=z2 (L.q248 hle)
    exact tn14 (kind:=44) hx ho lz (by decide) (fun q=>absurd q (L.q249 e)) (fun _=>hn (L.q248 hle)) (fun q=>absurd e (by rw [q];decide)) (fun _ q=>absurd q (L.q249 e)) fun q=>absurd rfl q
  ·have eK:KK [] piece=[]:=by unfold KK;rw [if_neg hp]
   rw [eK] at hD hs hn ⊢
   have hle:pre.length≤D.length:=by rw [hD,List.length_take,List.length_append];exact L.q250 hc
   have n0:=PR_ne hPR
   have sz:szA D (pre.length:Int) pr=0:=by unfold szA;rw [if_pos n0.2.2]
   have hs:=hs hle
   rw [if_neg (L.q251 hp)] at hs
   exact tn14 (kind:=pr) hx ho lz n0.1 (fun q=>absurd q (by rw [sz];decide)) (fun q=>absurd q (by rw [sz];decide)) (fun _ z=>hs im z) (fun q=>absurd q n0.2.1) fun _ q=>absurd q (by rw [sz];decide)
 | q :: ks,pre,im,z,K,hk,hc,hD,hs,hn=>by
  have hkk:KD q:=hk q List.mem_cons_self
  rw [KK_cons] at hD hs hn ⊢
  rw [show moreR pr piece (q :: KK ks piece)=blk piece q (ix (KK ks piece ++ [pr]) 0) ++ moreR pr piece (KK ks piece) from rfl] at hD hs hn
  obtain ⟨z1,z2⟩:=sz_cut (R:=moreR pr piece (KK ks piece) ++ rest) (piece:=piece) (b:=ix (KK ks piece ++ [pr]) 0) (D:=D) (.inr hkk) hc (by rw [hD,List.append_assoc])
  have q0:q ≠ 0∧q ≠ 44:=by rcases hkk with rfl | rfl | rfl <;> decide
  have z3:=(blk_sz (piece:=piece) (b:=ix (KK ks piece ++ [pr]) 0) (.inr hkk)).2.2
  rw [List.length_append] at hs hn
  by_cases hle:pre.length+(blk piece q (ix (KK ks piece ++ [pr]) 0)).length≤D.length
  ·obtain ⟨e1,e2⟩:=z1 hle
   have hlc:D.length≤c:=by rw [hD,List.length_take];exact L.q105
   refine tn14 (kind:=q) hx ho lz q0.1 (fun _=>by exact L.q252 z3 hle) (fun q=>absurd q (by rw [e1];exact L.q24)) (fun q=>absurd q (by rw [e1];exact L.q253 z3)) (fun y=>absurd y q0.2) fun _ _ z=>?_
   rw [e1,e2]
   have:=lp14 hx ho hPR h0 h3 ks (pre ++ blk piece q (ix (KK ks piece ++ [pr]) 0)) im z K (fun y hy=>hk y (List.mem_cons_of_mem _ hy)) (by rw [List.length_append];exact L.q254 hle hlc) (by rw [hD,List.append_assoc,List.append_assoc])
    (by rw [List.length_append,Nat.add_assoc];exact hs) (by rw [List.length_append,Nat.add_assoc];exact hn)
   rw [List.length_append,Int.natCast_add] at this
   exact this
  ·have e:=z2 (L.q255 hle)
   exact tn14 (kind:=q) hx ho lz q0.1 (fun q=>absurd q (L.q249 e)) (fun _=>hn (L.q256 hle)) (fun q=>absurd q (L.q257 e)) (fun _ q=>absurd q (L.q249 e)) fun _ q=>absurd q (L.q249 e)
end
end
section
noncomputable def fx (n m:Nat) (pr piece:Int):Option (Int × Int × Int):=if n≤m then some (pr,(n:Int),if piece=3 then 8 else 0) else none
section
variable {C:OS} {k:Nat} {σ:List PV} {K:PV→List PV→Prop} {p d l:Nat} {nf l4 off pl:Int} {data D head body:List Int} {c:Nat} {pr piece e0 e1:Int}
theorem fnd4 (h:Head 2 pr piece e0 e1 head) (h0:0≤piece) (h3:piece < 4) (hc:20≤c) (hD:D=(head ++ body).take c) (ho:Oct D) (hl:20≤head.length):Fnd C 2 D (fx head.length D.length pr piece):=fun {k τ y K} hy q=>by
 obtain ⟨a1,a2,a3,a4⟩:=Head_look4 h h0 h3 hc hD
 have h20:20≤D.length:=by rw [hD,List.length_take,List.length_append];exact L.q258 hc hl
 have g (i:Nat) (hi:i < 20:=by decide):(0:Int)≤(i:Int)∧(i:Int) < D.length:=⟨Int.natCast_nonneg _,by exact L.q259 h20 hi⟩
 show C.f (k+3) 9 [y] τ K
 refine go rfl rfl rfl fun R hR hN=>hy _ (br_f (df (L.q260 h20)) (hy _ (gd_i (g 0) (br_f (Mine.nf a1) (hy _ (gd_i (g 0) ?_))))))
 unfold fx at q
 refine br_f (df (by show ¬ (Builtin.bitAnd (ix D 0) 15 * 4 < 20);exact L.q261 hl a2)) (hy _ (br_d (fun e=>?_) fun e=>hy _ (w4a' ho (by decide) (by decide) (hy _ (gd_i (g 9) ?_)))))
 ·have e:(D.length:Int) < Builtin.bitAnd (ix D 0) 15 * 4:=e
  rw [if_neg (L.q262 a2 e)] at q
  exact hR (q false)
 ·have e:¬ (D.length:Int) < Builtin.bitAnd (ix D 0) 15 * 4:=e
  rw [if_pos (L.q263 a2 e),← a4,← a2,← a3] at q
  exact hR (q _)
theorem fnd6 (h:Head 10 pr piece e0 e1 head) (hPR:PRo pr) (h0:0≤piece) (h3:piece < 4) (hc:40≤c) (hD:D=(head ++ body).take c) (ho:Oct D):Fnd C 10 D (fx head.length D.length pr piece):=fun {k τ y K} hy q=>by
 rcases h with ⟨h,_⟩ | ⟨_,ks,x,hk0,hk1,rfl⟩
 ·exact absurd h (by decide)
 have i0:ix D 0=96:=by rw [hD,ix_take (L.q83) (L.q264 hc)];rfl
 have i6:ix D 6=ix (KK ks piece ++ [pr]) 0:=by rw [hD,ix_take (L.q265) (L.q266 hc)];unfold hd6;rw [oct2];rfl
 have hl:40≤D.length:=by rw [hD,List.length_take,List.length_append,hd6_len];exact L.q267 hc
 obtain ⟨pre,hpre⟩:∃ pre,pre=[96,0,0,0] ++ oct x 2 ++ [ix (KK ks piece ++ [pr]) 0,64] ++ oct e0 16 ++ oct e1 16:=⟨_,rfl⟩
 have hpl:pre.length=40:=by rw [hpre];simp [oct_len]
 have hD':D=(pre ++ (moreR pr piece (KK ks piece) ++ body)).take c:=by rw [hD,hpre,← List.append_assoc];rfl
 have g (i:Nat) (hi:i < 40:=by decide):(0:Int)≤(i:Int)∧(i:Int) < D.length:=⟨Int.natCast_nonneg _,by exact L.q268 hl hi⟩
 show C.f (k+3) 14 [y] τ K
 refine go rfl rfl rfl fun R hR hN=>hy _ (br_f (df (L.q269 hl)) (hy _ (gd_i (g 0) (br_f (Mine.nf (by show ix D 0 / 16=6;rw [i0];rfl)) (hy _ (gd_i (g 6) ⟨ks.length+3,?_⟩))))))
 unfold fx at q
 have main:=lp14 (C:=C) (k:=k) (σ:=τ) (x:=y) hy ho hPR h0 h3 ks pre false .un (fun fl st=>match fl with
  | .next=>wB (C.f (k+2)) (dropB 6 c14) st R
  | fl=>R fl st) hk1 (L.q270 hc hpl) hD' (fun e im z=>?_) fun e r=>?_
 ·rw [hpl,← i6] at main
  exact main
 ·rw [hd6_len,hpl.symm,if_pos e] at q
  exact hR (q im)
 ·rw [hd6_len,hpl.symm,if_neg (L.q271 e)] at q
  exact hR (q false)
end
end
section
noncomputable def inM (nf:Int) (z:Option (Int × Int × Int)) (D:List Int):Option T6:=match z with
 | none=>none
 | some a=>if a.2.2=0 then tupM nf a.1 a.2.1 D else none
theorem tupM_nf {nf pr off:Int} {D:List Int} {t:T6} (h:tupM nf pr off D=some t):t.nf=nf:=by
 unfold tupM at h
 split at h
 ·exact nomatch h
 ·rw [← Option.some.inj h]
theorem inM_nf {nf:Int} {z:Option (Int × Int × Int)} {D:List Int} {t:T6} (h:inM nf z D=some t):t.nf=nf:=by
 unfold inM at h
 split at h
 ·exact nomatch h
 ·split at h
  ·exact tupM_nf h
  ·exact nomatch h
structure WC (nf l4 off:Int) (data:List Int) (t:T6) (src:Bool):Prop where
 hn:nf=2 ∨ nf=10
 hz:data.length≤1000
 ho:Oct data
 ht:t.nf=nf
 hA:0≤(if src=true then t.src else t.dst)∧(if src=true then t.src else t.dst) < 256 ^ (adz nf).toNat
 hs:0≤t.sp∧t.sp < 65536
 hd:0≤t.dp∧t.dp < 65536
 hdl:hdz nf≤data.length
 hoff:0≤off→hdz nf≤off
 hev:0≤off→off % 2=0
 hhl:nf=2→0≤l4→20≤Builtin.bitAnd (ix data 0) 15 * 4∧(0≤off→Builtin.bitAnd (ix data 0) 15 * 4≤off)
theorem Bld.lt {τ υ:List PV} {y A:PV} {i:Nat} (b:Bld (τ ++ [y]) υ i A):τ.length < υ.length:=by
 have:=b.l
 rw [List.length_append] at this
 exact this
section
variable {C:OS} {k:Nat} {σ:List PV} {K:PV→List PV→Prop} {p d l:Nat} {nf l4 off pl:Int} {data D:List Int} {z:Option (Int × Int × Int)}
theorem w44 {y:PV} (hn:nf=2 ∨ nf=10) (hy:Dr σ y D) (hf:Fnd C nf D z) (ho:Oct D) {I:Option T6} (hz:∀ a,z=some a→0≤a.2.1) (hI:inM nf z D=I) (h:K (optT I) σ):C.f (k+4) 44 [y,.int nf] σ K:=by
 subst hI
 refine go rfl rfl rfl fun R hR hN=>?_
 have main:∀ m,wB (C.f (k+3)) (dropB 1 c44) ⟨[.v y,.v (.int nf),.v (fnd z m),.un,.un,.un],σ⟩ R:=fun m=>by
  rcases z with _ | a
  ·exact hR h
  ·unfold inM at h
   dsimp only at h
   refine br_n (fun e=>?_) fun e=>?_
   ·rw [if_neg e] at h;exact hR h
   ·rw [if_pos e] at h;exact w42 hn hy ho (hz a rfl) (hR h)
 rcases hn with rfl | rfl
 ·exact hf hy fun m=>main m
 ·exact hf hy fun m=>main m
theorem w36 {i:Nat} {o r:PV} (hi:σ[i]?=some (.att [] [])) (h:∀ τ,Bld σ τ i (talkA o r 0)→K .none τ):C.f (k+1) 36 [.inst 36 i,.int 7,o,r,.int 0] σ K:=by
 refine go rfl rfl rfl fun R hR hN=>?_
 have q:=Bld.refl hi
 exact gs_i q.a (gs_i q.set.a (gs_i q.set.set.a (gs_i q.set.set.set.a (gs_i q.set.set.set.set.a (gs_i q.set.set.set.set.set.a (gs_i q.set.set.set.set.set.set.a (gs_i q.set.set.set.set.set.set.set.a (gs_i q.set.set.set.set.set.set.set.set.a (gs_i q.set.set.set.set.set.set.set.set.set.a (gs_i q.set.set.set.set.set.set.set.set.set.set.a (hN (h _ q.set.set.set.set.set.set.set.set.set.set.set))))))))))))
theorem w37 {i:Nat} (hi:σ[i]?=some (.att [] [])) (h:∀ τ tb ts a b c,Bld σ τ i (bookA tb ts a b c)→τ[tb]?=some .ed→τ[ts]?=some .ed→σ.length≤tb→σ.length≤ts→tb ≠ ts→K .none τ):C.f (k+1) 37 [.inst 37 i,.int 8,.int 0] σ K:=by
 refine C.ok rfl rfl ?_
 have li:=ga_lt hi
 have q:=Bld.refl hi
 refine gs_i q.a (gs_i q.set.a (gs_i q.set.set.a ?_))
 have q3:=fun {A B E:PV}=>(((q.set (B:=A)).set (B:=B)).set (B:=E)).app (y:=.ed)
 refine gs_i q3.a ?_
 have q4:=fun {A B E F:PV}=>(Bld.refl (q3 (A:=A) (B:=B) (E:=E)).a).set (B:=F) |>.app (y:=.ed)
 refine gs_i q4.a (gs_i q4.set.a (gs_i q4.set.set.app.a (gs_i q4.set.set.app.set.app.a (gs_i q4.set.set.app.set.app.set.app.a (gs_i q4.set.set.app.set.app.set.app.set.a ?_)))))
 have q5:=fun {A B E F:PV}=>Bld.refl (q4 (A:=A) (B:=B) (E:=E) (F:=F)).a
 refine h _ _ _ _ _ _ (q3.trans q4.set.set.app.set.app.set.app.set.set) (q4.set.set.app.set.app.set.app.set.set.o _ _ ?_ ga_end) (q5.set.set.app.set.app.set.app.set.set.o _ _ ?_ ga_end) (q.set.set.set.l) (q3.trans (Bld.refl q3.a).set).l (Nat.ne_of_lt (Bld.refl q3.a).set.lt)
 ·exact Nat.ne_of_gt (Nat.lt_of_lt_of_le li q.set.set.set.l)
 ·exact Nat.ne_of_gt (Nat.lt_of_lt_of_le li (q3.trans (Bld.refl q3.a).set).l)
end
end
section
theorem lpp_cases {nf l4 off tp:Int} {data:List Int} {src:Bool} (hn:nf=2 ∨ nf=10):lpp nf l4 off tp data src < 0 ∨ (0≤off∧off≤lpp nf l4 off tp data src):=by
 rw [lpp_eq]
 split
 ·rename_i h
  exact .inr ⟨h.1,by exact L.q272 h⟩
 ·exact .inl (by decide)
theorem wrM_len {nf pr off:Int} {t:T6} {src:Bool} {data:List Int} (hn:nf=2 ∨ nf=10) (hdl:hdz nf≤data.length) (hoff:0≤off→hdz nf≤off):(wrM nf pr off t src data).length=data.length∧(Oct data→Oct (wrM nf pr off t src data)):=by
 have h20:20≤data.length∧0≤adr nf+(if src=true then 0 else adz nf)∧(adr nf+(if src=true then 0 else adz nf))+(adz nf).toNat≤data.length:=by
  rcases hn with rfl | rfl <;> cases src <;> simp [hdz,adr,adz] at hdl ⊢ <;> omega
 have l1:(putM nf pr off (adr nf+if src=true then 0 else adz nf) (oct (if src=true then t.src else t.dst) (adz nf).toNat) data).length=data.length:=putM_len h20.2.1 (by rw [oct_len];exact h20.2.2) h20.1
 unfold wrM
 split
 ·exact ⟨rfl,id⟩
 ·dsimp only
  split
  ·rename_i q
   have:=lpp_cases (nf:=nf) (l4:=pr) (off:=off) (tp:=t.pr) (data:=data) (src:=src) hn
   exact ⟨(putM_len q.1 (by rw [oct_len,l1];exact L.q273 q) (by rw [l1];exact h20.1)).trans l1,fun ho=>putM_Oct (putM_Oct ho oct_Oct) oct_Oct⟩
  ·exact ⟨l1,fun ho=>putM_Oct ho oct_Oct⟩
section
variable {C:OS} {k:Nat} {σ:List PV} {K:PV→List PV→Prop} {p d l:Nat} {nf l4 off pl:Int} {data D:List Int} {z:Option (Int × Int × Int)} {t:T6} {src:Bool}
theorem w53 (w:WC nf (fL z) (fO z) D t src) (hf:Fnd C nf D z) (hz:∀ a,z=some a→a.2.1≤D.length) (h:∀ τ,(∀ (j:Nat) (x:PV),σ[j]?=some x→τ[j]?=some x)→K (.bytes (wrM nf (fL z) (fO z) t src D)) τ):C.f (k+7) 53 [.bytes D,tPV t,.str (mst src)] σ K:=by
 refine go rfl rfl rfl fun R hR hN=>?_
 have main:C.f (k+6) 19 [.bytes D,.int (kd nf)] σ fun x τ=>wB (C.f (k+6)) (dropB 1 c53) ⟨[.v (.bytes D),.v (tPV t),.v (.str (mst src)),.v x,.un,.un,.un],τ⟩ R :=
  w19 w.hn hf hz fun τ p d l q=>w52 w.hn q.a q.b q.ne w.hz w.ho w.ht w.hA w.hs w.hd w.hdl w.hoff w.hev w.hhl
   (gs_i (gs_ne q.ne q.a) (gs_i (gs_same q.b) (hR (h _ fun j x e=>gs_ne (fun e'=>Nat.lt_irrefl _ (Nat.lt_of_lt_of_le (ga_lt e) (e' ▸ q.ld))) (q.o j x e)))))
 have e:=w.ht
 obtain ⟨tn,t2,t3,t4,t5,t6⟩:=t
 have e:tn=nf:=e
 subst e
 rcases w.hn with rfl | rfl
 ·exact main
 ·exact main
theorem w54 (hn:nf=2 ∨ nf=10) (hp:σ[p]?=some (pkt d l nf l4 off pl)) (hd:σ[d]?=some (.ba data)) (hne:d ≠ p) (hz:data.length≤1000) (h20:hdz nf≤data.length) (ho:Oct data) (hoff:hdz nf≤off) (hoe:off % 2=0) (hhl:nf=2→0≤l4→Builtin.bitAnd (ix data 0) 15 * 4≤off)
  (h8:off+8≤data.length) (hs:0≤spl l4→spl l4≤6) (hD:data.drop (off+8).toNat=D) (w:WC nf (fL z) (fO z) D t src) (hf:Fnd C nf D z) (hzz:∀ a,z=some a→a.2.1≤D.length) (hl:D.length≤290) (hl0:0 < D.length)
  (h:∀ τ,(∀ (j:Nat) (x:PV),j ≠ d→σ[j]?=some x→τ[j]?=some x)→τ[d]?=some (.ba (putM nf l4 off (off+8) (wrM nf (fL z) (fO z) t src D) data))→K .none τ):C.f (k+8) 54 [.inst 17 p,tPV t,.str (mst src)] σ K:=by
 have hd20:20≤hdz nf:=by unfold hdz;split <;> decide
 have hDl:(D.length:Int)=data.length - (off+8):=by rw [← hD,List.length_drop];exact L.q274 hoff h8 hd20
 have wl:=wrM_len (t:=t) (src:=src) (pr:=fL z) (off:=fO z) w.hn w.hdl w.hoff
 have hsl:sl data (off+8) (off+8+max 0 ((data.length:Int) - off - 8))=D:=by
  rw [← hD]
  unfold sl
  rw [show (off+8+max 0 ((data.length:Int) - off - 8)).toNat=data.length by exact L.q275 hDl,List.take_length]
 refine go rfl rfl rfl fun R hR hN=>gs_i hp (gs_i hd (gs_i hp (w22 (t:=true) hp hd (by decide) (L.q276) rfl (fun _ _=>?_) fun q=>absurd ⟨by show 0≤off;exact L.q277 hoff hd20,by show off+8+_≤_;exact L.q278 hDl⟩ q)))
 rw [show bo true off=off from rfl,hsl]
 refine w53 w hf hzz fun τ o=>put_tail (a:=8) hn (o _ _ hp) (o _ _ hd) hne hz h20 ho (wl.2 w.ho) (fun _=>hoff) (fun _=>hoe) (by decide) (by decide) (fun a b _=>hhl a b) (by rw [wl.1];exact hl0) (by rw [wl.1];exact hl) (.inr (by rw [wl.1];exact L.q279 hDl)) (fun s=>.inl (by have:=hs s;exact L.q280 this))
  (fun _ _=>hN (h _ (fun j x e q=>gs_ne (fun e'=>e e'.symm) (o j x q)) (gs_same (o _ _ hd)))) fun q=>absurd ⟨by exact L.q277 hoff hd20,by rw [wl.1];exact L.q281 hDl⟩ q
theorem w56 {bk:Nat} {I:Option T6} (hn:nf=2 ∨ nf=10) (hp:σ[p]?=some (pkt d l nf l4 off pl)) (hd:σ[d]?=some (.ba data)) (ho:Oct data) (hl:hdz nf≤data.length) (h0:0≤off) (hD:data.drop (off+8).toNat=D) (hf:Fnd C nf D z) (hzz:∀ a,z=some a→0≤a.2.1) (hI:inM nf z D=I)
  (hnone:I.bind invM=none→K .none σ)
  (hbk:∀ u,I.bind invM=some u→∃ tb ts a b c tk o,σ[bk]?=some (bookA tb ts a b c)∧σ[tb]?=some (.td 0 [u.nf,u.pr,u.src,u.sp,u.dst,u.dp] (.tup [.int 7,.int 1]))∧σ[ts]?=some (.idc [7] [.inst 36 tk])∧σ[tk]?=some (talkA o (tPV u) 9) ∧
   (u.dst=num (sl data (adr nf+adz nf) (adr nf+adz nf+adz nf))→K (.tup [.inst 36 tk,.int 1]) σ)∧(u.dst ≠ num (sl data (adr nf+adz nf) (adr nf+adz nf+adz nf))→K .none σ)):C.f (k+5) 56 [.inst 37 bk,.inst 17 p,.int 0,.int 5] σ K:=by
 have hDo:Oct D:=by rw [← hD];exact Oct_drop ho
 subst hD
 refine go rfl rfl rfl fun R hR hN=>w20 hn hp (gs_i hp (gs_i hp (gd_i (nng h0) (gs_i hd (w44 hn dr_ba hf hDo hzz hI ?_)))))
 cases I with
 | none=>exact hR (hnone rfl)
 | some t =>
  refine w45 (by rw [inM_nf hI];exact hn) ?_
  cases hu:invM t with
  | none=>exact hR (hnone hu)
  | some u =>
   obtain ⟨tb,ts,a,b,c,tk,o,g1,g2,g3,g4,g5,g6⟩:=hbk u hu
   exact w48 g1 g2 g3 g4 (w46 g4 (fun _ h=>h) (w31 hn hp hd ho hl (br_n (fun e=>hR (g6 e)) fun e=>hR (g5 e))))
end
end
section
theorem pow16 {b:Int} (h:b.toNat≤16):(0:Int) < 256 ^ b.toNat∧(256:Int) ^ b.toNat < 2 ^ 1000:=⟨Int.pow_pos (by decide),Int.lt_of_le_of_lt (pow_le h) (by decide)⟩
theorem gPow {b:Int} (h0:0≤b) (h:b≤16):0≤b∧b≤1000∧(256:Int).natAbs < 2 ^ 64:=⟨h0,by exact L.q282 h,by decide⟩
section
variable {C:OS} {k:Nat} {σ:List PV} {K:PV→List PV→Prop} {nf off:Int} {data:List Int}
theorem w60 {n:Int} {m:Nat} (hm:m≤16) (h:K (.il (oct n m)) σ):C.f (k+1) 60 [.int n,.int m] σ K:=by
 refine go rfl rfl rfl fun R hR hN=>gd_i (L.q180 hm) ?_
 refine lc_up (fun i:Nat=>n / 256 ^ ((m:Int) - 1 - (i:Int)).toNat % 256) (fun i hi k q=>gd_i (gPow (L.q283 hi) (L.q284 hm)) ?_) ?_
 ·exact gd_i (pow16 (L.q285 hm)) q
 ·refine asIs_map ?_
  rw [show (List.range (m:Int).toNat).map (fun i:Nat=>n / 256 ^ ((m:Int) - 1 - (i:Int)).toNat % 256)=oct n m from List.map_congr_left fun i hi=>by
   have hi:=List.mem_range.mp hi
   rw [show ((m:Int) - 1 - (i:Int)).toNat=m - 1 - i by exact L.q286]]
  exact hR h
theorem w61 {l:List Int} (ho:Oct l) (hl:l.length≤16) (h:K (.int (num l)) σ):C.f (k+1) 61 [.il l] σ K:=by
 refine go rfl rfl rfl fun R hR hN=>gd_i (L.q180 hl) ?_
 refine lc_up (fun i:Nat=>ix l i * 256 ^ ((l.length:Int) - 1 - (i:Int)).toNat) (fun i hi k q=>gd_i ⟨Int.natCast_nonneg _,hi⟩ (gd_i (gPow (L.q283 hi) (L.q284 hl)) ?_)) ?_
 ·have:=ix_oct ho (k:=i) (Int.natCast_nonneg _) hi
  exact gd_i (.inr (by omega)) q
 ·refine asIs_map ?_
  rw [← num_sum l,show (List.range l.length).map (fun k:Nat=>ix l k * 256 ^ (l.length - 1 - k))=(List.range (l.length:Int).toNat).map (fun i:Nat=>ix l i * 256 ^ ((l.length:Int) - 1 - (i:Int)).toNat) from List.map_congr_left fun i hi=>by
   have hi:=List.mem_range.mp hi
   rw [show ((l.length:Int) - 1 - (i:Int)).toNat=l.length - 1 - i by exact L.q287 hi]] at h
  exact hR h
theorem w61s {a b:Int} (ho:Oct data) (h0:0≤a) (hb:b - a≤16) (h:K (.int (num (sl data a b))) σ):C.f (k+1) 61 [.il (sl data a b)] σ K:=w61 (Oct_sl ho) (sl_le (m:=16) hb h0) h
theorem w63 {x:Int} (hn:nf=2 ∨ nf=10) (h:K (.int (ansK nf x)) σ):C.f (k+1) 63 [.int nf,.int x] σ K:=by
 refine go rfl rfl rfl fun R hR hN=>?_
 unfold ansK at h
 rcases hn with rfl | rfl
 ·rw [if_pos rfl] at h
  iterate 8 (refine br_d (fun e=>hR (iti e h)) fun e=>?_;replace h:=iei e h)
  exact hR h
 ·rw [if_neg (by decide)] at h
  iterate 2 (refine br_d (fun e=>hR (iti e h)) fun e=>?_;replace h:=iei e h)
  exact hR h
theorem w64 {pr:Int} (hn:nf=2 ∨ nf=10) (h:K (.bool (isP nf pr)) σ):C.f (k+1) 64 [.int nf,.int pr] σ K:=by
 refine go rfl rfl rfl fun R hR hN=>hR (kb h ?_)
 show isP nf pr=decide ([nf,pr] ∈ [[(2:Int),1],[10,58]])
 refine Bool.eq_iff_iff.mpr ?_
 rcases hn with rfl | rfl <;> simp [isP]
theorem w66 {n:Int} (hn:nf=2 ∨ nf=10) (h0:0≤n) (h1:n≤2 ^ 20) (h:K (.int (adrL nf n)) σ):C.f (k+1) 66 [.int nf,.int n] σ K:=by
 refine go rfl rfl rfl fun R hR hN=>?_
 rcases hn with rfl | rfl
 ·exact hR h
 ·exact gd_i (.inl (by omega)) (hR h)
theorem w70 {pr:Int} (hn:nf=2 ∨ nf=10) (ho:Oct data) (h:K (optT (if pr < 0 ∨ off < 0 then none else tupM nf pr off data)) σ):C.f (k+2) 70 [.il data,.tup [.int nf,.int pr,.int off]] σ K:=by
 refine go rfl rfl rfl fun R hR hN=>br_or (fun e=>?_) fun e=>?_
 ·rw [if_pos e] at h;exact hR h
 rw [if_neg e] at h
 have h0:0≤off:=L.q288 e
 have fin:∀ (a b:Int) z,portsM nf pr off data=some (a,b)→wB (C.f (k+1)) (dropB 4 c70) ⟨[.v (.il data),.v (.tup [.int nf,.int pr,.int off]),.v (.int nf),.v (.int pr),.v (.int off),.v (.tup [.int a,.int b]),z,.un,.un,.un,.un,.un,.un,.un,.un],σ⟩ R:=fun a b z hq=>by
  unfold tupM at h
  rw [hq] at h
  rcases hn with rfl | rfl
  ·exact w61s ho (by decide) (by decide) (w61s ho (by decide) (by decide) (hR h))
  ·exact w61s ho (by decide) (by decide) (w61s ho (by decide) (by decide) (hR h))
 have nil:portsM nf pr off data=none→K .none σ:=fun hq=>by unfold tupM at h;rw [hq] at h;exact h
 refine br_d (fun q=>?_) fun q=>?_
 ·have q:pr=6 ∨ pr=17:=by simpa using q
  refine br_d (fun y=>?_) fun y=>?_
  ·exact hR (nil (by unfold portsM;rw [if_pos q,if_pos y]))
  ·exact gd_i h0 (gd_i (nng h0) (w61s ho h0 (L.q289) (gd_i (nng h0) (gd_i (nng h0) (w61s ho (nng h0) (L.q290) (fin _ _ _ (by unfold portsM;rw [if_pos q,if_neg y])))))))
 ·have q:¬ (pr=6 ∨ pr=17):=by simpa using q
  refine w64 hn (br_i (fun y=>?_) fun y=>?_)
  ·have y:¬ isP nf pr=false:=by rw [y];decide
   refine br_d (fun x=>?_) fun x=>?_
   ·exact hR (nil (by unfold portsM;rw [if_neg q,if_neg y,if_pos x]))
   ·have i0:0≤off∧off < data.length:=⟨h0,by exact L.q235 x⟩
    refine gd_i i0 (w63 hn ?_)
    have e2:num (sl data off (off+2))=ix data off * 256+ix data (off+1):=by rw [sl_two h0 (L.q291 x),num_two]
    refine br_d (fun v=>?_) fun v=>?_
    ·exact gd_i (nng h0) (gd_i (nng h0) (w61s ho (nng h0) (L.q292) (gd_i h0 (gd_i (nng h0) (w61s ho h0 (L.q289) (fin _ _ _ (by unfold portsM;rw [if_neg q,if_neg y,if_neg x,if_pos v,e2])))))))
    ·exact gd_i h0 (gd_i (nng h0) (w61s ho h0 (L.q289) (fin _ _ _ (by unfold portsM;rw [if_neg q,if_neg y,if_neg x,if_neg v,e2]))))
  ·exact fin 0 0 .un (by unfold portsM;rw [if_neg q,if_pos y])
theorem w71 {pr:Int} (hn:nf=2 ∨ nf=10) (h:K (.bool (fltM nf pr off data)) σ):C.f (k+2) 71 [.il data,.tup [.int nf,.int pr,.int off]] σ K:=by
 refine go rfl rfl rfl fun R hR hN=>w64 hn (br_i (fun z=>?_) fun z=>br_d (fun y=>br_i (fun x=>?_) fun x=>?_) fun y=>?_)
 all_goals unfold fltM at h
 ·rw [if_pos (.inl (by simpa using z))] at h;exact hR h
 ·rw [if_pos (.inr (.inr (by simpa using x)))] at h;exact hR h
 ·have x:off < data.length:=by simpa using x
  rw [if_neg fun q=>q.elim (by simpa using z) fun q=>q.elim (Int.not_lt.mpr y) (Int.not_le.mpr x)] at h
  refine gd_i ⟨y,x⟩ ?_
  rcases hn with rfl | rfl <;> exact hR h
 ·rw [if_pos (.inr (.inl (Int.not_le.mp y)))] at h;exact hR h
theorem w78 {t:T6} (hn:t.nf=2 ∨ t.nf=10) (h:K (optT (invM t)) σ):C.f (k+2) 78 [tPV t] σ K:=by
 refine go rfl rfl rfl fun R hR hN=>w64 hn (br_i (fun z=>?_) fun z=>?_)
 all_goals unfold invM at h
 ·rw [if_pos (by simpa using z)] at h;exact hR h
 ·rw [if_neg (by simpa using z)] at h
  refine w63 hn (br_d (fun y=>?_) fun y=>?_)
  ·rw [if_pos y] at h;exact hR h
  ·rw [if_neg y,Int.mul_comm] at h;exact gd_i (.inr (by decide)) (hR h)
end
end
section
theorem lkI_if {K:PV→Prop} {z:Int}:∀ {ks vs:List Int} {j:Int},K (.int (lkD ks vs j z))→lkI ks (vs.map .int) j K (K (.int z))
 | [],_,_,h=>h
 | _ :: _,[],_,h=>h
 | a :: ks,v :: vs,j,h=>br_d (fun e=>by unfold lkD at h;rw [if_pos e] at h;exact h) fun e=>lkI_if (by unfold lkD at h;rw [if_neg e] at h;exact h)
theorem lz' {n:Nat}:(0:Int)≤(n:Int):=Int.natCast_nonneg _
section
variable {C:OS} {k:Nat} {σ:List PV} {K:PV→List PV→Prop} {nf pr off:Int} {data:List Int} {t:T6} {src:Bool}
theorem w72 {c:Int} {a b:List Int} (ha:Oct a) (hb:Oct b) (hl:a.length=b.length) (hz:a.length≤290) (h:K (.int (mendM c (pad a) (pad b))) σ):C.f (k+2) 72 [.int c,.il a,.il b] σ K:=by
 have hr:(((a.length:Int)+1) / 2).toNat=(pad a).length / 2:=by rw [pad_len];exact L.q293
 have o0:Oct [(0:Int)]:=Oct_cons (by decide) Oct_nil
 refine go rfl rfl rfl fun R hR hN=>gd_i (L.q294 hz) ?_
 show forW _ (upI 0 2 _) _ _
 rw [up2,hr]
 refine forW_use (fun (l:List Nat) st=>∃ t y,st=⟨[.v (.int c),.v (.il a),.v (.il b),.v (.int t),y,.un,.un,.un],σ⟩∧l.foldl (mstep (pad a) (pad b)) t=(List.range ((pad a).length / 2)).foldl (mstep (pad a) (pad b)) (65535 - c)∧∀ i ∈ l,i < (a.length+1) / 2) ?_ ?_ _ _ ⟨_,_,rfl,rfl,fun i hi=>by have:=List.mem_range.mp hi;rw [pad_len] at this;exact L.q295 this⟩
 ·rintro i l _ ⟨t,y,rfl,q1,q2⟩ ih
  have hi:=q2 i List.mem_cons_self
  refine gd_i (Nat.le_trans (Nat.add_le_add hz (show 1≤1000 by decide)) (by decide)) (w61s (Oct_app ha o0) (Int.mul_nonneg (by decide) lz') (L.q296) (gd_i (Nat.le_trans (Nat.add_le_add (hl ▸ hz:b.length≤290) (show 1≤1000 by decide)) (by decide)) (w61s (Oct_app hb o0) (Int.mul_nonneg (by decide) lz') (L.q296) ?_)))
  refine ih _ ⟨mstep (pad a) (pad b) t i,.v (.int (2 * i)),?_,q1,fun j hj=>q2 j (List.mem_cons_of_mem _ hj)⟩
  exact congrArg (fun z=>St.mk [.v (.int c),.v (.il a),.v (.il b),.v (.int z),_,.un,.un,.un] σ) (by rw [wd_pad hi,wd_pad (hl ▸ hi)];unfold mstep;exact L.q297)
 ·rintro _ ⟨t,y,rfl,q1,_⟩
  have q1:t=_:=q1
  unfold mendM fold at h
  rw [← q1] at h
  refine br_d (fun e=>?_) fun e=>?_
  ·rw [if_pos e] at h;exact hR h
  ·rw [if_neg e] at h;exact hR h
theorem w74 {tn tp:Int} {q:List PV} (hn:nf=2 ∨ nf=10) (h:K (.int (lpp nf pr off tp data src)) σ):C.f (k+2) 74 [.il data,.tup [.int nf,.int pr,.int off],.tup (.int tn :: .int tp :: q),.str (mst src)] σ K:=by
 refine go rfl rfl rfl fun R hR hN=>br_d (fun e=>?_) fun e=>br_n (fun e1=>?_) fun e1=>br_d (fun e2=>?_) fun e2=>?_
 all_goals unfold lpp at h
 ·rw [if_pos (.inl e)] at h;exact hR h
 ·rw [if_pos (.inr e1)] at h;exact hR h
 ·rw [if_neg (fun q=>q.elim e fun q=>q e1),if_pos (by simpa using e2)] at h
  cases src
  ·exact hR h
  ·exact hR h
 ·rw [if_neg (fun q=>q.elim e fun q=>q e1),if_neg (by simpa using e2)] at h
  refine w64 hn (br_i (fun z=>br_d (fun y=>?_) fun y=>?_) fun z=>?_)
  ·refine gd_i ⟨Int.not_lt.mp e,y⟩ (w63 hn (br_d (fun x=>?_) fun x=>?_))
   ·rw [if_pos ⟨z,y,x⟩] at h;exact hR h
   ·rw [if_neg fun q=>x q.2.2] at h;exact hR h
  ·rw [if_neg fun q=>y q.2.1] at h;exact hR h
  ·rw [if_neg fun q=>nomatch q.1.symm.trans z] at h;exact hR h
theorem a73 {a:Int} {x y z u v w:LV} {Q:Fl→St→Prop} (hn:nf=2 ∨ nf=10) (h:Q .next ⟨[x,y,.v (.int a),z,.v (.int nf),.v (.int pr),.v (.int off),u,v,.v (.bool (decide (a < hdz nf))),.un,.un,.un,.un,.un,.un],σ⟩) :
  wS (C.f k) (headB (dropB 4 c73)) ⟨[x,y,.v (.int a),z,.v (.int nf),.v (.int pr),.v (.int off),u,v,w,.un,.un,.un,.un,.un,.un],σ⟩ Q:=by
 rcases hn with rfl | rfl
 ·exact h
 ·exact h
theorem b73 {a:Int} {x:LV} {new:List Int} {Q:Fl→St→Prop} (ho:Oct data) (hno:Oct new) (hol:(sl data a (a+new.length)).length=new.length) (h2:new.length≤290) (hm0:(made0 a new data).length=data.length) (h20:20≤data.length) (hz:data.length≤1000)
  (h:Q .next ⟨[.v (.il data),x,.v (.int a),.v (.il new),.v (.int nf),.v (.int pr),.v (.int off),.v (.il (sl data a (a+new.length))),.own (.il (made1 nf pr a new data)),.v (.bool (decide (a < hdz nf))),.un,.un,.un,.un,.un,.un],σ⟩) :
  wS (C.f (k+2)) (headB (dropB 5 c73)) ⟨[.v (.il data),x,.v (.int a),.v (.il new),.v (.int nf),.v (.int pr),.v (.int off),.v (.il (sl data a (a+new.length))),.own (.il (made0 a new data)),.v (.bool (decide (a < hdz nf))),.un,.un,.un,.un,.un,.un],σ⟩ Q:=by
 have no:¬ (nf=2∧a < 20∧0≤pr)→made1 nf pr a new data=made0 a new data:=fun q=>if_neg q
 refine br_d (fun z=>?_) fun z=>by rw [no fun q=>z q.1] at h;exact h
 subst z
 refine br_d (fun y=>br_d (fun x=>?_) fun x=>by rw [no fun q=>x q.2.2] at h;exact h) fun y=>by rw [no fun q=>y q.2.1] at h;exact h
 rw [show made1 2 pr a new data=putL (made0 a new data) 10 12 (oct (mendM (num (sl data 10 12)) (pad (sl data a (a+new.length))) (pad new)) 2) from if_pos ⟨rfl,y,x⟩] at h
 exact w61s ho (by decide) (by decide) (w72 (Oct_sl ho) hno hol (by rw [hol];exact h2) (w60 (m:=2) (by decide) (gd_i ⟨⟨by decide,by decide⟩,by exact L.q298 hm0 h20,by exact L.q299 hm0 hz,by rw [oct_len];decide⟩ h)))
theorem w73 {a:Int} {new:List Int} (hn:nf=2 ∨ nf=10) (hz:data.length≤1000) (ho:Oct data) (hno:Oct new) (h20:hdz nf≤data.length) (h0:0≤a) (h1:a+new.length≤data.length) (h2:new.length≤290) (hpo:pr < 0→off < 0)
  (h:K (.il (putM nf pr off a new data)) σ):C.f (k+3) 73 [.il data,.tup [.int nf,.int pr,.int off],.int a,.il new] σ K:=by
 have hal:0≤a+new.length:=nng h0 lz
 have hol:(sl data a (a+new.length)).length=new.length:=by rw [sl_len h0 (L.q221) h1];exact L.q300
 have hd20:20≤hdz nf:=by unfold hdz;split <;> decide
 have h20':20≤data.length:=L.q203 h20 hd20
 have hm0:=made0_len (a:=a) (new:=new) (data:=data) h0 h1
 have hm1:=made1_len (nf:=nf) (pr:=pr) (a:=a) (new:=new) (data:=data) h0 h1 h20'
 have hp:=plc_nn (pr:=pr)
 refine go rfl rfl rfl fun R hR hN=>gd_i h0 (gd_i hal (br_d (fun e=>?_) fun e=>?_))
 ·have e:sl data a (a+new.length)=new:=e
  unfold putM at h;rw [if_pos e] at h;exact hR h
 have e:¬ sl data a (a+new.length)=new:=e
 unfold putM at h
 rw [if_neg e] at h
 have main2:wB (C.f (k+2)) (dropB 6 c73) ⟨[.v (.il data),.v (.tup [.int nf,.int pr,.int off]),.v (.int a),.v (.il new),.v (.int nf),.v (.int pr),.v (.int off),.v (.il (sl data a (a+new.length))),.own (.il (made1 nf pr a new data)),.v (.bool (decide (a < hdz nf))),.un,.un,.un,.un,.un,.un],σ⟩ R:=by
  refine lkI_if (ks:=[6,17,1,58]) (vs:=[16,6,2,2]) ?_
  refine br_d (fun o=>?_) fun o=>br_d (fun l=>?_) fun l=>?_
  ·rw [if_pos (.inl o)] at h;exact hR h
  ·rw [if_pos (.inr (.inl l))] at h;exact hR h
  have l:off+plc 9999 pr+2≤data.length:=Int.not_lt.mp l
  have q0:0≤off+plc 9999 pr:=L.q301 hp o
  have main3:¬ (a < hdz nf∧pr=1)→wB (C.f (k+2)) (dropB 8 c73) ⟨[.v (.il data),.v (.tup [.int nf,.int pr,.int off]),.v (.int a),.v (.il new),.v (.int nf),.v (.int pr),.v (.int off),.v (.il (sl data a (a+new.length))),.own (.il (made1 nf pr a new data)),.v (.bool (decide (a < hdz nf))),.v (.int (off+plc 9999 pr)),.un,.un,.un,.un,.un],σ⟩ R:=fun nh=>by
   rw [if_neg (L.q302 o l nh)] at h
   refine gd_i q0 (gd_i (nng q0) (w61s ho q0 (L.q303) ?_))
   have g:∀ c:Int,(0≤off+plc 9999 pr∧off+plc 9999 pr≤off+plc 9999 pr+2)∧off+plc 9999 pr+2≤((made1 nf pr a new data).length:Int)∧(made1 nf pr a new data).length≤100000∧(oct c 2).length≤1000:=fun c=>⟨⟨q0,Int.le_add_of_nonneg_right (by decide)⟩,by rw [hm1];exact l,by rw [hm1];exact L.q304 hz,by rw [oct_len];decide⟩
   refine br_n (fun p17=>?_) fun p17=>br_n (fun c0=>?_) fun c0=>?_
   ·rw [if_neg (fun q=>p17 q.1),if_neg (fun q=>p17 q.1)] at h
    refine w72 (Oct_sl ho) hno hol (by rw [hol];exact h2) (br_f (df p17) (w60 (m:=2) (by decide) (gd_i (g _) (hR h))))
   ·rw [if_neg (fun q=>c0 q.2)] at h
    refine w72 (Oct_sl ho) hno hol (by rw [hol];exact h2) (br_t (dt p17) (br_d (fun z=>?_) fun z=>?_))
    ·rw [if_pos ⟨p17,z⟩] at h;exact w60 (m:=2) (by decide) (gd_i (g _) (hR h))
    ·rw [if_neg fun q=>z q.2] at h;exact w60 (m:=2) (by decide) (gd_i (g _) (hR h))
   ·rw [if_pos ⟨p17,c0⟩] at h;exact hR h
  refine br_d (fun y=>br_d (fun x=>?_) fun x=>main3 fun q=>x q.2) fun y=>main3 fun q=>y q.1
  rw [if_pos (.inr (.inr ⟨y,x⟩))] at h;exact hR h
 have main:wB (C.f (k+2)) (dropB 4 c73) ⟨[.v (.il data),.v (.tup [.int nf,.int pr,.int off]),.v (.int a),.v (.il new),.v (.int nf),.v (.int pr),.v (.int off),.v (.il (sl data a (a+new.length))),.own (.il (made0 a new data)),.un,.un,.un,.un,.un,.un,.un],σ⟩ R :=
  b_seq (s:=headB (dropB 4 c73)) (b:=dropB 5 c73) (a73 hn (b_seq (s:=headB (dropB 5 c73)) (b:=dropB 6 c73) (b73 ho hno hol h2 hm0 h20' hz main2)))
 have l1:(data.take a.toNat).length+new.length≤1000000:=by rw [List.length_take];exact L.q305 hz h2
 have l2:(data.take a.toNat ++ new).length+(data.drop (a+new.length).toNat).length≤1000000:=by rw [List.length_append,List.length_drop,List.length_take];exact L.q306 hz h0 h1
 refine gd_i h0 (gd_i (by exact l1) (gd_i hal (gd_i (by exact l2) ?_)))
 exact main
end
end
section
section
variable {C:OS} {k:Nat} {σ:List PV} {K:PV→List PV→Prop} {nf pr off:Int} {data:List Int} {t:T6} {src:Bool}
theorem bn {D:Orc} {st:St} {K:Fl→St→Prop} (h:K .next st):wB D .nil st K:=h
theorem w75x {s:Str} (ht:t.nf ≠ nf) (h:K (.il data) σ):C.f (k+1) 75 [.il data,.tup [.int nf,.int pr,.int off],tPV t,.str s] σ K :=
 go rfl rfl rfl fun R hR hN=>br_t (Mine.nt ht) (hR h)
theorem a75 {x y z u v:LV} {Q:Fl→St→Prop} (hn:t.nf=2 ∨ t.nf=10) (h:Q .next ⟨[x,y,.v (tPV t),z,.v (.int (adr t.nf)),.v (.int ((adz t.nf).toNat:Int)),.un,.un,.un,.un,.un,.un],σ⟩) :
  wS (C.f k) (headB (dropB 1 c75)) ⟨[x,y,.v (tPV t),z,u,v,.un,.un,.un,.un,.un,.un],σ⟩ Q:=by
 obtain ⟨n,t2,t3,t4,t5,t6⟩:=t
 have hn:n=2 ∨ n=10:=hn
 rcases hn with rfl | rfl
 ·exact h
 ·exact h
theorem b75 {x y z:LV} {a b:Int} {Q:Fl→St→Prop} (h:Q .next ⟨[x,y,z,.v (.str (mst src)),.v (.int (if src=true then a else a+b)),.v (.int b),.un,.un,.un,.un,.un,.un],σ⟩) :
  wS (C.f k) (headB (dropB 2 c75)) ⟨[x,y,z,.v (.str (mst src)),.v (.int a),.v (.int b),.un,.un,.un,.un,.un,.un],σ⟩ Q:=by
 cases src
 ·exact h
 ·exact h
theorem w75 (w:WC nf pr off data t src) (hpo:pr < 0→off < 0) (h:K (.il (wrM nf pr off t src data)) σ):C.f (k+4) 75 [.il data,.tup [.int nf,.int pr,.int off],tPV t,.str (mst src)] σ K:=by
 have hn:=w.hn
 have ht:=w.ht
 have ho:=w.ho
 have hz:=w.hz
 have hdl:=w.hdl
 obtain ⟨a1,ha1⟩:∃ a1,a1=adr nf+if src=true then 0 else adz nf:=⟨_,rfl⟩
 obtain ⟨A,hA1⟩:∃ A,A=oct (if src=true then t.src else t.dst) (adz nf).toNat:=⟨_,rfl⟩
 obtain ⟨D1,hD1⟩:∃ D1,D1=putM nf pr off a1 A data:=⟨_,rfl⟩
 have hm:((adz nf).toNat:Int)=adz nf∧(adz nf).toNat≤16:=by rcases hn with rfl | rfl <;> exact ⟨rfl,by decide⟩
 have hAl:A.length=(adz nf).toNat:=by rw [hA1,oct_len]
 have hr:0≤a1∧a1+((adz nf).toNat:Int)≤hdz nf:=by
  rw [ha1]
  rcases hn with rfl | rfl <;> cases src <;> decide
 have hd20:20≤hdz nf:=by unfold hdz;split <;> decide
 have hle:a1+A.length≤data.length:=by rw [hAl];exact L.q307 hdl hr
 have hAO:Oct A:=by rw [hA1];exact oct_Oct
 have hl1:D1.length=data.length:=by rw [hD1];exact putM_len hr.1 hle (L.q203 hdl hd20)
 have hO1:Oct D1:=by rw [hD1];exact putM_Oct ho hAO
 have hW:wrM nf pr off t src data=if 0≤lpp nf pr off t.pr data src∧lpp nf pr off t.pr data src≤data.length - 2 then putM nf pr off (lpp nf pr off t.pr data src) (oct (if src=true ∨ ¬ (t.pr=6 ∨ t.pr=17) then t.sp else t.dp) 2) D1 else D1:=by
  unfold wrM
  rw [if_neg (fun h=>h ht),hD1,hA1,ha1]
 rw [hW] at h
 have hlp:=lpp_cases (nf:=nf) (l4:=pr) (off:=off) (tp:=t.pr) (data:=data) (src:=src) hn
 refine go rfl rfl rfl fun R hR hN=>br_f (Mine.nf ht) ?_
 have main:wB (C.f (k+3)) (dropB 3 c75) ⟨[.v (.il data),.v (.tup [.int nf,.int pr,.int off]),.v (tPV t),.v (.str (mst src)),.v (.int a1),.v (.int ((adz nf).toNat:Int)),.un,.un,.un,.un,.un,.un],σ⟩ R:=by
  refine w74 hn (br_t (dt (by rw [hAl] at hle;exact hle)) ?_)
  have put2:∀ {k':Nat} {v:Int} {K':PV→List PV→Prop},0≤lpp nf pr off t.pr data src→lpp nf pr off t.pr data src≤data.length - 2→K' (.il (putM nf pr off (lpp nf pr off t.pr data src) (oct v 2) D1)) σ→C.f (k'+3) 73 [.il D1,.tup [.int nf,.int pr,.int off],.int (lpp nf pr off t.pr data src),.il (oct v 2)] σ K':=fun {k' v K'} q0 q1 q =>
   w73 hn (L.q308 hz hl1) hO1 oct_Oct (L.q309 hdl hl1) q0 (by rw [oct_len];exact L.q310 hl1 q1) (by rw [oct_len];decide) hpo q
  cases src
  ·refine w60 (m:=(adz nf).toNat) hm.2 ?_
   rw [← show A=oct t.dst (adz nf).toNat from hA1]
   refine w73 hn hz ho hAO hdl hr.1 hle (L.q311 hm hAl) hpo ?_
   rw [← hD1]
   refine br_d (fun q0=>br_d (fun q1=>?_) fun q1=>?_) fun q0=>?_
   ·have q1:lpp nf pr off t.pr data false≤data.length - 2:=hl1 ▸ q1
    rw [if_pos ⟨q0,q1⟩] at h
    refine br_n (fun i=>?_) fun i=>?_
    ·rw [if_pos (.inr (by simpa using i))] at h;exact w60 (m:=2) (by decide) (put2 q0 q1 (hR h))
    ·rw [if_neg fun q=>q.elim (fun q=>nomatch q) fun q=>q (by simpa using i)] at h;exact w60 (m:=2) (by decide) (put2 q0 q1 (hR h))
   ·rw [if_neg fun q=>q1 (hl1.symm ▸ q.2)] at h;exact hR h
   ·rw [if_neg fun q=>q0 q.1] at h;exact hR h
  ·refine w60 (m:=(adz nf).toNat) hm.2 ?_
   rw [← show A=oct t.src (adz nf).toNat from hA1]
   refine w73 hn hz ho hAO hdl hr.1 hle (L.q311 hm hAl) hpo ?_
   rw [← hD1]
   refine br_d (fun q0=>br_d (fun q1=>?_) fun q1=>?_) fun q0=>?_
   ·have q1:lpp nf pr off t.pr data true≤data.length - 2:=hl1 ▸ q1
    rw [if_pos ⟨q0,q1⟩,if_pos (.inl rfl)] at h
    exact w60 (m:=2) (by decide) (put2 q0 q1 (hR h))
   ·rw [if_neg fun q=>q1 (hl1.symm ▸ q.2)] at h;exact hR h
   ·rw [if_neg fun q=>q0 q.1] at h;exact hR h
 rw [show a1=if src=true then adr nf else adr nf+((adz nf).toNat:Int) by rw [ha1,hm.1];cases src <;> simp] at main
 refine bn ?_
 exact b_seq (s:=headB (dropB 1 c75)) (b:=dropB 2 c75) (a75 (t:=t) (by rw [ht];exact hn) (b_seq (s:=headB (dropB 2 c75)) (b:=dropB 3 c75) (b75 (by rw [ht];exact main))))
end
end
section
def Pen (i j:Nat) (σ:List PV):Prop:=∃ row rest,σ[i]?=some (.sd [0,1] [.ref j,.int rest])∧σ[j]?=some (.il row)∧i ≠ j
def FrP (i j:Nat) (σ τ:List PV):Prop:=τ.length=σ.length∧∀ m,m ≠ i→m ≠ j→τ[m]?=σ[m]?
theorem FrP.refl {i j:Nat} {σ:List PV}:FrP i j σ σ:=⟨rfl,fun _ _ _=>rfl⟩
theorem FrP.trans {i j:Nat} {σ τ υ:List PV} (a:FrP i j σ τ) (b:FrP i j τ υ):FrP i j σ υ:=⟨b.1.trans a.1,fun m h1 h2=>(b.2 m h1 h2).trans (a.2 m h1 h2)⟩
abbrev Pn (i j:Nat) (σ τ:List PV):Prop:=Pen i j τ∧FrP i j σ τ
theorem Pn.trans {i j:Nat} {σ τ υ:List PV} (a:Pn i j σ τ) (b:Pn i j τ υ):Pn i j σ υ:=⟨b.1,a.2.trans b.2⟩
section
variable {C:OS} {k:Nat} {σ:List PV} {K:PV→List PV→Prop} {i j:Nat} {pr piece:Int}
theorem w59 {n:Int} (hn:0 < n) (hn2:n < 2 ^ 1000) (hp:Pen i j σ) (h:∀ v τ,0≤v∧v < n→Pn i j σ τ→K (.int v) τ):C.f (k+1) 59 [.ref i,.int n] σ K:=by
 obtain ⟨row,rest,h1,h2,hij⟩:=hp
 refine go rfl rfl rfl fun R hR hN=>?_
 have main:∀ τ row (told:Int),τ[i]?=some (.sd [0,1] [.ref j,.int rest])→τ[j]?=some (.il row)→FrP i j σ τ→wB (C.f k) (dropB 1 c59) ⟨[.v (.ref i),.v (.int n),.v (.int told),.un],τ⟩ R:=fun τ row told g1 g2 f=>by
  refine gs_i g1 (gd_i hn (gs_i g1 (gd_i ⟨hn,hn2⟩ (gs_i g1 (hR (h _ _ ⟨Int.emod_nonneg _ (Int.ne_of_gt hn),Int.emod_lt_of_pos _ hn⟩ ⟨⟨row,_,gs_same g1,gs_ne hij g2,hij⟩,?_⟩))))))
  exact f.trans ⟨List.length_set,fun m q1 q2=>List.getElem?_set_ne (Ne.symm q1)⟩
 refine gs_i h1 (gs_i h2 ?_)
 cases row with
 | nil=>exact main σ [] 0 h1 h2 .refl
 | cons y row=>exact gs_i h1 (gs_i h2 (main _ row y (gs_ne (Ne.symm hij) h1) (gs_same h2) ⟨List.length_set,fun m q1 q2=>List.getElem?_set_ne (Ne.symm q2)⟩))
theorem w65 (hp:Pen i j σ) (h:∀ (B:List Int) v τ,Oct B→B.length≤24→0≤v∧v < 4→Pn i j σ τ→K (.tup [.il B,.int v]) τ):C.f (k+2) 65 [.ref i,.int pr] σ K:=by
 refine go rfl rfl rfl fun R hR hN=>?_
 have fin:∀ (B:List Int) kx v2 v3 v4 v5 z σ5,(0≤v2∧v2 < 4)→Pn i j σ σ5→Oct B→B.length=24→wB (C.f (k+1)) (dropB 7 c65) ⟨[.v (.ref i),.v (.int pr),.v (.int kx),.v (.int v2),.v (.int v3),.own (.il B),.v (.int v4),.v (.int v5),z,.un,.un,.un],σ5⟩ R:=fun B kx v2 v3 v4 v5 z σ5 r2 p ho hl =>
  w59 (by decide) (by decide) p.1 fun v6 σ6 r6 p6=>gd_i (p:=0≤v6∧v6 < (([24,23,19,8,7,4,3,0]:List Int).length:Int)) r6 (gd_i (ix_all (P:=fun x=>0≤x) (by decide) r6.1 r6.2) (hR (h (B.take (ix [24,23,19,8,7,4,3,0] v6).toNat) _ _ (Oct_take ho) (by rw [List.length_take,hl];exact Nat.min_le_right _ _) r2 (p.trans p6))))
 have mid:∀ (B:List Int) kx v2 v3 v4 v5 z σ5,(0≤kx∧kx < 256)→(0≤v2∧v2 < 4)→Pn i j σ σ5→Oct B→B.length=24→wB (C.f (k+1)) (dropB 6 c65) ⟨[.v (.ref i),.v (.int pr),.v (.int kx),.v (.int v2),.v (.int v3),.own (.il B),.v (.int v4),.v (.int v5),z,.un,.un,.un],σ5⟩ R:=fun B kx v2 v3 v4 v5 z σ5 hk r2 p ho hl =>
  br_d (fun _=>gd_i (by rw [hl];decide) (bn (fin _ _ _ _ _ _ z _ r2 p (Oct_set ho hk) (by rw [List.length_set];exact hl)))) fun _=>bn (fin B _ _ _ _ _ z _ r2 p ho hl)
 have mid3:∀ (B:List Int) kx v2 v3 σ3,(0≤kx∧kx < 256)→(0≤v2∧v2 < 4)→Pn i j σ σ3→Oct B→B.length=24→wB (C.f (k+1)) (dropB 3 c65) ⟨[.v (.ref i),.v (.int pr),.v (.int kx),.v (.int v2),.v (.int v3),.own (.il B),.un,.un,.un,.un,.un,.un],σ3⟩ R:=fun B kx v2 v3 σ3 hk r2 p hb hl=>by
  refine w59 (by decide) (by decide) p.1 fun v4 σ4 r4 p4=>w59 (by decide) (by decide) p4.1 fun v5 σ5 r5 p5=>?_
  have p:=p.trans (p4.trans p5)
  refine lkI_if (ks:=[6,17,1,58]) (vs:=[16,6,2,2]) (br_d (fun z=>gd_i (p:=0≤v4∧v4 < (([0,65535,v5]:List Int).length:Int)) r4 (w60 (m:=2) (by decide) ?_)) fun _=>bn (mid B _ _ _ _ _ _ _ hk r2 p hb hl))
  have pc:0≤lkD [6,17,1,58] [16,6,2,2] pr (-1)∧lkD [6,17,1,58] [16,6,2,2] pr (-1)+2≤24:=⟨z,by have:=plc_cases (pr:=pr);unfold plc at this;exact L.q312 this⟩
  have pl:=put_len (a:=B) (b:=oct (ix [0,65535,v5] v4) 2) (i:=lkD [6,17,1,58] [16,6,2,2] pr (-1)) (j:=lkD [6,17,1,58] [16,6,2,2] pr (-1)+2) pc.1 (Int.le_add_of_nonneg_right (by decide)) (by rw [hl];exact pc.2) (by rw [oct_len];exact L.q167)
  exact gd_i ⟨⟨pc.1,Int.le_add_of_nonneg_right (by decide)⟩,by rw [hl];exact pc.2,by rw [hl];decide,by rw [oct_len];decide⟩ (bn (mid _ _ _ _ _ _ _ _ hk r2 p (Oct_put hb oct_Oct) (pl.trans hl)))
 exact w59 (by decide) (by decide) hp fun v1 σ1 r1 p1=>gd_i (p:=0≤v1∧v1 < (([8,0,13,14,15,16,17,18,3,11,30,128,129,1,133,2]:List Int).length:Int)) r1 (w59 (by decide) (by decide) p1.1 fun v2 σ2 r2 p2=>w59 (by decide) (by decide) p2.1 fun v3 σ3 r3 p3 =>
  lc_up (n:=24) (fun x:Nat=>(11 * (x:Int)+v3) % 256) (fun x hx k q=>gd_i (.inr (by decide)) q) (asIs_map (mid3 (body0 v3) _ v2 v3 σ3 (ix_all (P:=fun x=>0≤x∧x < 256) (by decide) r1.1 r1.2) r2 (p1.trans (p2.trans p3)) body0_Oct body0_len)))
end
end
section
theorem al {a b:List Int} {n m:Nat} (ha:a.length≤n) (hb:b.length≤m):(a ++ b).length≤n+m:=by rw [List.length_append];exact Nat.add_le_add ha hb
theorem ol {x:Int} {m:Nat}:(oct x m).length≤m:=Nat.le_of_eq oct_len
theorem ol2 {x:Int}:(oct x 2).length≤2:=ol
theorem ol4 {x:Int}:(oct x 4).length≤4:=ol
theorem ol16 {x:Int}:(oct x 16).length≤16:=ol
theorem ag {a b:List Int} {n m:Nat} (ha:a.length≤n) (hb:b.length≤m) (h:n+m≤1000000):a.length+b.length≤1000000:=Nat.le_trans (Nat.add_le_add ha hb) h
section
variable {C:OS} {k:Nat} {σ:List PV} {K:PV→List PV→Prop} {i j:Nat} {pr piece many e0 e1:Int}
theorem w67 (hp:Pen i j σ) (hpi:0≤piece∧piece < 4) (h:∀ w x y τ,0≤w∧w < 3→Pn i j σ τ→K (.il (hd4 w x (ix [0,16384,8192,1] piece) pr y e0 e1)) τ):C.f (k+2) 67 [.ref i,.int pr,.int piece,.int many,.il [e0,e1]] σ K:=by
 refine go rfl rfl rfl fun R hR hN=>w59 (by decide) (by decide) hp fun v1 σ1 r1 p1=>w59 (by decide) (by decide) p1.1 fun v2 σ2 r2 p2=>w59 (by decide) (by decide) p2.1 fun v3 σ3 r3 p3=>w59 (by decide) (by decide) p3.1 fun v4 σ4 r4 p4=>?_
 have p:=p1.trans (p2.trans (p3.trans p4))
 have l0:([69+v1,0]:List Int).length≤2:=Nat.le_refl _
 have l1:([1,2]:List Int).length≤2:=Nat.le_refl _
 have l2:([64,pr]:List Int).length≤2:=Nat.le_refl _
 have l3:((List.replicate (4 * v1).toNat [(1:Int)]).flatten).length≤8:=by rw [rep_len];exact L.q313 r1
 refine gd_i (.inr (by decide)) ?_
 refine gd_i (by show 0≤v2∧v2 < (([20+4 * v1+many,20,65535]:List Int).length:Int);exact r2) ?_
 refine w60 (m:=2) (by decide) ?_
 refine gd_i (by show 0≤piece∧piece < (([0,16384,8192,1]:List Int).length:Int);exact hpi) ?_
 refine w60 (m:=2) (by decide) ?_
 refine gd_i (by show 0≤v3∧v3 < (([65535,0,v4]:List Int).length:Int);exact r3) ?_
 refine w60 (m:=2) (by decide) ?_
 refine w60 (m:=4) (by decide) ?_
 refine w60 (m:=4) (by decide) ?_
 refine gd_i (.inr (by decide)) ?_
 refine gd_i (by refine ⟨?_,?_,Nat.le_of_ble_eq_true rfl⟩ <;> omega) ?_
 refine gd_i (by exact ag (al (al (al (al (al (al (al l0 ol2) l1) ol2) l2) ol2) ol4) ol4) l3 (by decide)) ?_
 exact hR (h v1 _ _ _ r1 p)
end
end
section
theorem lc_draw {i j:Nat} {step:PV→List PV→(Option PV→List PV→Prop)→Prop} {P:Int→Prop} (hs:∀ y σ k,Pen i j σ→(∀ v τ,P v→Pn i j σ τ→k (some (.int v)) τ)→step y σ k):∀ {l:List PV} {σ:List PV} {K:List PV→List PV→Prop},Pen i j σ→(∀ (ks:List Int) τ,ks.length=l.length→(∀ k ∈ ks,P k)→Pn i j σ τ→K (ks.map .int) τ)→lcW step l σ K
 | [],_,_,p,h=>h [] _ rfl (fun _ h=>nomatch h) ⟨p,.refl⟩
 | y :: l,σ,K,p,h=>hs y σ _ p fun v τ hv q=>lc_draw (l:=l) (K:=fun r σ=>K (.int v :: r) σ) hs q.1 fun ks υ e hk q'=>h (v :: ks) υ (congrArg (·+1) e) (fun k m=>by
  rcases List.mem_cons.mp m with rfl | m
  ·exact hv
  ·exact hk k m) (q.trans q')
theorem moreR_len {pr piece:Int}:∀ {Q:List Int},(∀ k ∈ Q,k=44 ∨ KD k)→(moreR pr piece Q).length≤24 * Q.length
 | [],_=>Nat.le_refl _
 | q :: Q,hq=>by
  have:=blk_len (piece:=piece) (b:=ix (Q ++ [pr]) 0) (hq q List.mem_cons_self)
  have:=moreR_len (pr:=pr) (piece:=piece) (Q:=Q) fun x m=>hq x (List.mem_cons_of_mem _ m)
  show (blk piece q _ ++ moreR pr piece Q).length≤_
  rw [List.length_append,List.length_cons];exact L.q540 (by assumption) this
theorem Head_len {nf pr piece e0 e1:Int} {head:List Int} (h:Head nf pr piece e0 e1 head):hdz nf≤head.length∧head.length≤184:=by
 rcases h with ⟨rfl,w,x,y,h0,h1,rfl⟩ | ⟨rfl,ks,x,h0,h1,rfl⟩
 ·rw [hd4_len h0];unfold hdz;simp;exact L.q314 h0 h1
 ·rw [hd6_len]
  have a:=moreR_len (pr:=pr) (piece:=piece) (KK_in (piece:=piece) h1)
  have b:=KK_len (piece:=piece) h0
  unfold hdz;simp;exact L.q315 a b
theorem la1 {x:Int}:([x]:List Int).length≤1:=Nat.le_refl _
theorem la2 {x y:Int}:([x,y]:List Int).length≤2:=Nat.le_refl _
theorem la4 {x y z w:Int}:([x,y,z,w]:List Int).length≤4:=Nat.le_refl _
theorem ixa {A B:List Int} {q:Int}:ix (A ++ q :: B) A.length=q:=by
 unfold ix
 rw [List.getD_eq_getElem?_getD,Int.toNat_natCast,List.getElem?_append_right (Nat.le_refl _),Nat.sub_self];rfl
theorem ixb {A B:List Int} {q b:Int}:ix (A ++ q :: b :: B) (A.length+1)=b:=by
 have:=ixa (A:=A ++ [q]) (B:=B) (q:=b)
 rw [List.append_assoc,List.length_append] at this
 exact this
section
variable {C:OS} {k:Nat} {σ:List PV} {K:PV→List PV→Prop} {i j:Nat} {pr piece many e0 e1:Int}
theorem b68 {ks:List Int} {w x y z:LV} {Q:Fl→St→Prop} (hl:ks.length≤6) (h:Q .next ⟨[w,x,.v (.int piece),y,z,.own (.il (KK ks piece)),.un,.un,.un,.un,.un,.un,.un,.un,.un,.un,.un],σ⟩) :
  wS (C.f k) (headB (dropB 1 c68)) ⟨[w,x,.v (.int piece),y,z,.own (.il ks),.un,.un,.un,.un,.un,.un,.un,.un,.un,.un,.un],σ⟩ Q:=by
 unfold KK at h
 refine br_d (fun e=>?_) fun e=>?_
 ·rw [if_pos e] at h;exact gd_i (Nat.lt_of_le_of_lt hl (by decide)) h
 ·rw [if_neg e] at h;exact h
noncomputable def f68:CB:=match headB (dropB 3 c68) with
 | .for_ _ _ _ b=>b
 | _=>.nil
noncomputable abbrev s68 (i:Nat) (pr piece many e0 e1:Int) (K M:List Int) (a b c d:LV) (σ:List PV):St:=⟨[.v (.ref i),.v (.int pr),.v (.int piece),.v (.int many),.v (.il [e0,e1]),.v (.il K),.v (.il M),a,b,c,d,.un,.un,.un,.un,.un,.un],σ⟩
theorem t68 {Kd Kr M:List Int} {q:Int} {b c d:LV} {Q:Fl→St→Prop} (hq:q=44 ∨ KD q) (hM:M.length≤500) (hK:(Kd ++ q :: Kr).length≤6) (h:∀ a b c d,Q .next (s68 i pr piece many e0 e1 (Kd ++ q :: Kr) (M ++ blk piece q (ix (Kr ++ [pr]) 0)) a b c d σ)) :
  wB (C.f (k+1)) f68 (s68 i pr piece many e0 e1 (Kd ++ q :: Kr) M (.v (.int Kd.length)) b c d σ) Q:=by
 have hq0:=ixa (A:=Kd) (B:=Kr) (q:=q)
 have hin:(0:Int)≤(Kd.length:Int)∧(Kd.length:Int) < (Kd ++ q :: Kr).length:=by rw [List.length_append,List.length_cons];exact L.q316
 have main:∀ be,be=ix (Kr ++ [pr]) 0→wB (C.f (k+1)) (dropB 1 f68) (s68 i pr piece many e0 e1 (Kd ++ q :: Kr) M (.v (.int Kd.length)) (.v (.int be)) c d σ) Q:=by
  rintro be rfl
  refine gd_i hin ?_
  unfold blk at h
  rcases hq with rfl | hq
  ·rw [if_pos rfl,← List.append_assoc,← List.append_assoc] at h
   exact br_t (dt hq0) (gd_i (by exact ag hM la2 (by decide)) (gd_i (.inr (by decide)) (w60 (m:=2) (by decide) (gd_i (by exact ag (al hM la2) ol2 (by decide)) (gd_i (by exact ag (al (al hM la2) ol2) la4 (by decide)) (h _ _ _ _))))))
  ·have n44:q ≠ 44:=by rcases hq with rfl | rfl | rfl <;> decide
   rw [if_neg n44,← List.append_assoc] at h
   refine br_f (df (by rw [hq0];exact n44)) (gd_i hin ?_)
   have rl:∀ n:Int,0≤n∧n≤22→((List.replicate n.toNat [(9:Int)]).flatten).length≤22:=fun n hn=>by rw [rep_len];exact L.q317 hn
   rcases hq with rfl | rfl | rfl
   ·exact br_t (dt hq0) (gd_i (by exact ag hM la2 (by decide)) (gd_i (by exact ag (al hM la2) (rl 6 (by decide)) (by decide)) (h _ _ _ _)))
   ·exact br_f (df (by rw [hq0];decide)) (br_t (dt hq0) (gd_i (by exact ag hM la2 (by decide)) (gd_i (by exact ag (al hM la2) (rl 14 (by decide)) (by decide)) (h _ _ _ _))))
   ·exact br_f (df (by rw [hq0];decide)) (br_f (df (by rw [hq0];decide)) (br_t (dt hq0) (gd_i (by exact ag hM la2 (by decide)) (gd_i (by exact ag (al hM la2) (rl 22 (by decide)) (by decide)) (h _ _ _ _)))))
 cases Kr with
 | nil=>exact br_f (df (by rw [List.length_append];simp)) (main _ rfl)
 | cons x Kr=>exact br_t (dt (by rw [List.length_append];simp;exact L.q318)) (gd_i (by rw [List.length_append];simp;exact L.q319) (main _ ixb))
theorem lp68 {R:Fl→St→Prop}:∀ (Kr Kd M:List Int) (a b c d:LV),(∀ q ∈ Kr,q=44 ∨ KD q)→(Kd ++ Kr).length≤6→M.length≤24 * Kd.length→(∀ a b c d,R .next (s68 i pr piece many e0 e1 (Kd ++ Kr) (M ++ moreR pr piece Kr) a b c d σ)) →
  forW (fun y st k_=>wG (.nm 32 7) y st.r fun r=>wB (C.f (k+1)) f68 ⟨r,st.s⟩ k_) (upJ Kd.length 1 Kr.length) (s68 i pr piece many e0 e1 (Kd ++ Kr) M a b c d σ) R
 | [],Kd,M,a,b,c,d,_,_,_,h=>by
  have h:=h a b c d
  rw [show M ++ moreR pr piece []=M from List.append_nil _] at h
  exact h
 | q :: Kr,Kd,M,a,b,c,d,hq,hl,hM,h=>by
  have hb:=blk_len (piece:=piece) (b:=ix (Kr ++ [pr]) 0) (hq q List.mem_cons_self)
  have hl':=hl
  rw [List.length_append,List.length_cons] at hl'
  refine t68 (hq q List.mem_cons_self) (L.q320 hM hl') hl fun a b c d=>?_
  have ih:=lp68 (R:=R) Kr (Kd ++ [q]) (M ++ blk piece q (ix (Kr ++ [pr]) 0)) a b c d (fun x m=>hq x (List.mem_cons_of_mem _ m)) (by rw [List.append_assoc];exact hl) (by rw [List.length_append,List.length_append];show _≤24 * (Kd.length+1);exact L.q321 hM hb) (by rw [List.append_assoc,List.append_assoc];exact h)
  rw [List.append_assoc,show (((Kd ++ [q]).length:Nat):Int)=(Kd.length:Int)+1 by rw [List.length_append];rfl] at ih
  exact ih
theorem w68 (hp:Pen i j σ) (hpi:0≤piece∧piece < 4) (hm:0≤many∧many≤1000) (h:∀ (ks:List Int) x τ,ks.length < 6→(∀ k ∈ ks,KD k)→Pn i j σ τ→K (.il (hd6 x (ix (KK ks piece ++ [pr]) 0) e0 e1 (moreR pr piece (KK ks piece)))) τ):C.f (k+2) 68 [.ref i,.int pr,.int piece,.int many,.il [e0,e1]] σ K:=by
 refine go rfl rfl rfl fun R hR hN=>?_
 have main:∀ (ks:List Int) τ,ks.length < 6→(∀ k ∈ ks,KD k)→Pn i j σ τ→wB (C.f (k+1)) (dropB 1 c68) ⟨[.v (.ref i),.v (.int pr),.v (.int piece),.v (.int many),.v (.il [e0,e1]),.own (.il ks),.un,.un,.un,.un,.un,.un,.un,.un,.un,.un,.un],τ⟩ R:=fun ks τ hl hk p=>by
  have hK:=KK_in (piece:=piece) hk
  have hKl:=KK_len (piece:=piece) hl
  have hML:(moreR pr piece (KK ks piece)).length≤200:=by have:=moreR_len (pr:=pr) (piece:=piece) hK;exact L.q322 hKl this
  refine b_seq (s:=headB (dropB 1 c68)) (b:=dropB 2 c68) (b68 (Nat.le_of_lt hl) ?_)
  refine gd_i (L.q323 hKl) ?_
  show forW _ (upI 0 1 _) _ _
  rw [upI_eq,rl1,Int.toNat_natCast]
  refine lp68 (KK ks piece) [] [] _ _ _ _ hK hKl (Nat.zero_le _) fun a b c d=>?_
  refine w59 (by decide) (by decide) p.1 fun v3 σ3 r3 p3=>gd_i (by show 0≤v3∧v3 < (([((moreR pr piece (KK ks piece)).length:Int)+many,0,9]:List Int).length:Int);exact r3) ?_
  have l0:([96,0,0,0]:List Int).length≤4:=Nat.le_refl _
  have l1:([ix (KK ks piece ++ [pr]) 0,64]:List Int).length≤2:=Nat.le_refl _
  refine w60 (m:=2) (by decide) ?_
  refine gd_i (by exact ag hKl la1 (by decide)) ?_
  refine gd_i (by rw [List.length_append];show (0:Int)≤0∧(0:Int) < (((KK ks piece).length+1:Nat):Int);exact L.q324) ?_
  refine w60 (m:=16) (by decide) ?_
  refine w60 (m:=16) (by decide) ?_
  exact gd_i (by exact ag (al (al (al (al l0 ol2) l1) ol16) ol16) hML (by decide)) (hR (h ks _ _ hl hk (p.trans p3)))
 refine w59 (by decide) (by decide) hp fun v1 σ1 r1 p1=>gd_i (L.q325 r1) ?_
 refine lc_draw (i:=i) (j:=j) (P:=KD) (fun y τ k_ q hk=>?_) p1.1 fun ks τ e hk q=>asIs_map (g:=id) ?_
 ·exact w59 (by decide) (by decide) q fun v υ r p=>gd_i (by show 0≤v∧v < (([60,43,51]:List Int).length:Int);exact r) (hk _ _ (ix_kd r.1 r.2) p)
 ·rw [ups_len,rl1] at e
  rw [List.map_id]
  exact main ks τ (L.q326 r1 e) hk (p1.trans q)
end
end
section
structure TOk (nf:Int) (t:T6):Prop where
 n:t.nf=nf ∨ t.nf=12 - nf
 s:0≤t.sp∧t.sp < 65536
 d:0≤t.dp∧t.dp < 65536
 a:0≤t.src∧t.src < 256 ^ (adz nf).toNat
 b:0≤t.dst∧t.dst < 256 ^ (adz nf).toNat
theorem r88:(0:Int)≤88∧(88:Int) < 65536:=⟨by decide,by decide⟩
theorem adr_ok {nf n:Int} (hn:nf=2 ∨ nf=10) (h0:0≤n) (h1:n≤2 ^ 20):0≤adrL nf n∧adrL nf n < 256 ^ (adz nf).toNat:=by
 rcases hn with rfl | rfl
 ·show 0≤167772160+n∧167772160+n < 256 ^ 4
  exact L.q327 h0 h1
 ·show 0≤536939960 * 2 ^ 96+2 ^ 64 * n+n∧536939960 * 2 ^ 96+2 ^ 64 * n+n < 256 ^ 16
  omega
section
variable {C:OS} {k:Nat} {σ:List PV} {K:PV→List PV→Prop} {i j:Nat} {nf pr off:Int} {data:List Int}
theorem w69 (hp:Pen i j σ) (h:∀ nf pr piece head body τ,(nf=2 ∨ nf=10)→PRo pr→0≤piece∧piece < 4→Oct body→body.length≤24→Head nf pr piece (adrL nf 1) (adrL nf 2) head→Pn i j σ τ →
  K (.tup [.il (head ++ body),.tup [.int nf,.int pr,.int (if piece=3 then -1 else (head.length:Int))],.int head.length]) τ):C.f (k+3) 69 [.ref i] σ K:=by
 refine go rfl rfl rfl fun R hR hN=>?_
 have fin:∀ nf pr piece head body τ x y z,(nf=2 ∨ nf=10)→PRo pr→0≤piece∧piece < 4→Oct body→body.length≤24→Head nf pr piece (adrL nf 1) (adrL nf 2) head→Pn i j σ τ →
   wB (C.f (k+2)) (dropB 5 c69) ⟨[x,.v (.int nf),.v (.int pr),.v (.il body),.v (.int piece),y,z,.v (.il head),.un,.un,.un,.un,.un,.un],τ⟩ R:=fun nf pr piece head body τ x y z hn hP hpi ho hl hH p=>by
  have h:=h nf pr piece head body τ hn hP hpi ho hl hH p
  have hL:=Head_len hH
  refine gd_i (L.q328 hl hL) (br_d (fun e=>?_) fun e=>?_)
  ·rw [if_pos e] at h;exact hR h
  ·rw [if_neg e] at h;exact hR h
 have main:∀ nf pr τ,(nf=2 ∨ nf=10)→PRo pr→Pn i j σ τ→wB (C.f (k+2)) (dropB 1 c69) ⟨[.v (.ref i),.v (.int nf),.v (.int pr),.un,.un,.un,.un,.un,.un,.un,.un,.un,.un,.un],τ⟩ R:=fun nf pr τ hn hP p =>
  w65 p.1 fun B v υ ho hl hv q=>w66 hn (by decide) (by decide) (w66 hn (by decide) (by decide) (by
   rcases hn with rfl | rfl
   ·exact w67 q.1 hv fun w x y ω hw r=>fin _ _ _ _ _ _ _ _ _ (.inl rfl) hP hv ho hl (.inl ⟨rfl,w,x,y,hw.1,hw.2,rfl⟩) (p.trans (q.trans r))
   ·exact w68 q.1 hv ⟨lz,by exact L.q329 hl⟩ fun ks x ω hl' hk r=>fin _ _ _ _ _ _ _ _ _ (.inr rfl) hP hv ho hl (.inr ⟨rfl,ks,x,hl',hk,rfl⟩) (p.trans (q.trans r))))
 exact w59 (by decide) (by decide) hp fun v1 σ1 r1 p1=>gd_i (by show 0≤v1∧v1 < (([2,10]:List Int).length:Int);exact r1) (w59 (by decide) (by decide) p1.1 fun v2 σ2 r2 p2=>gd_i (by show 0≤v2∧v2 < (([6,17,1,58,47,132,33,50]:List Int).length:Int);exact r2)
  (main (ix [2,10] v1) (ix [6,17,1,58,47,132,33,50] v2) σ2 (ix_all (P:=fun x=>x=2 ∨ x=10) (by decide) r1.1 r1.2) (ix_all (P:=fun x=>x=6 ∨ x=17 ∨ x=1 ∨ x=58 ∨ x=47 ∨ x=132 ∨ x=33 ∨ x=50) (by decide) r2.1 r2.2) (p1.trans p2)))
theorem w76 (hn:nf=2 ∨ nf=10) (ho:Oct data) (hp:Pen i j σ) (h:∀ t src τ,TOk nf t→Pn i j σ τ→K (.tup [tPV t,.str (mst src)]) τ):C.f (k+3) 76 [.ref i,.il data,.tup [.int nf,.int pr,.int off]] σ K:=by
 refine go rfl rfl rfl fun R hR hN=>?_
 have fin:∀ (src:Bool) tn tp A port τ (a b c d e f g x y z:LV),(tn=nf ∨ tn=12 - nf)→(0≤A∧A < 256 ^ (adz nf).toNat)→(0≤port∧port < 65536)→Pn i j σ τ→wB (C.f (k+2)) (dropB 9 c76) ⟨[a,b,c,.v (.int nf),.v (.int pr),d,.v (.str (mst src)),e,f,.v (.int A),g,x,y,z,.v (.int port),.v (.tup [.int tn,.int tp]),.un,.un,.un,.un,.un,.un],τ⟩ R:=fun src tn tp A port τ a b c d e f g x y z ht hA hpo p=>by
  have c77:=adr_ok hn (n:=77) (by decide) (by decide)
  refine w66 hn (by decide) (by decide) ?_
  cases src
  ·refine br_d (fun z=>?_) fun z=>?_
   ·exact hR (h ⟨tn,tp,adrL nf 77,port,A,port⟩ false τ ⟨ht,hpo,hpo,c77,hA⟩ p)
   ·exact hR (h ⟨tn,tp,adrL nf 77,88,A,port⟩ false τ ⟨ht,r88,hpo,c77,hA⟩ p)
  ·exact hR (h ⟨tn,tp,A,port,adrL nf 77,88⟩ true τ ⟨ht,hpo,r88,hA,c77⟩ p)
 have mid8:∀ (src b1 b2:Bool) A port τ (a b c d g e f o:LV),(0≤A∧A < 256 ^ (adz nf).toNat)→(0≤port∧port < 65536)→Pn i j σ τ→wB (C.f (k+2)) (dropB 8 c76) ⟨[a,b,c,.v (.int nf),.v (.int pr),d,.v (.str (mst src)),.v (.bool b1),.v (.bool b2),.v (.int A),g,e,f,o,.v (.int port),.un,.un,.un,.un,.un,.un,.un],τ⟩ R:=fun src b1 b2 A port τ a b c d g e f o hA hpo p =>
  br_i (fun _=>br_i (fun _=>br_d (fun _=>fin src _ _ A port τ _ _ _ _ _ _ _ e f o (.inr rfl) hA hpo p) fun _=>fin src _ _ A port τ _ _ _ _ _ _ _ e f o (.inr rfl) hA hpo p) fun _=>fin src _ _ A port τ _ _ _ _ _ _ _ e f o (.inr rfl) hA hpo p)
   fun _=>br_i (fun _=>br_d (fun _=>fin src _ _ A port τ _ _ _ _ _ _ _ e f o (.inl rfl) hA hpo p) fun _=>fin src _ _ A port τ _ _ _ _ _ _ _ e f o (.inl rfl) hA hpo p) fun _=>fin src _ _ A port τ _ _ _ _ _ _ _ e f o (.inl rfl) hA hpo p
 have main6:∀ (src b1 b2:Bool) A same τ (b c d g:LV),(0≤A∧A < 256 ^ (adz nf).toNat)→(0≤same∧same < 65536)→Pn i j σ τ→wB (C.f (k+2)) (dropB 6 c76) ⟨[.v (.ref i),b,c,.v (.int nf),.v (.int pr),d,.v (.str (mst src)),.v (.bool b1),.v (.bool b2),.v (.int A),g,.v (.int same),.un,.un,.un,.un,.un,.un,.un,.un,.un,.un],τ⟩ R:=fun src b1 b2 A same τ b c d g hA hs p =>
  w59 (by decide) (by decide) p.1 fun v5 σ5 r5 p5=>w59 (by decide) (by decide) p5.1 fun v6 σ6 r6 p6=>gd_i (by show 0≤v5∧v5 < (([same,0,65535,v6,v6]:List Int).length:Int);exact r5)
   (mid8 src b1 b2 A _ σ6 _ _ _ _ _ _ _ _ hA (ix_all (P:=fun x=>0≤x∧x < 65536) (fun x m=>by simp only [List.mem_cons,List.not_mem_nil,or_false] at m;exact L.q330 hs r6 m) r5.1 r5.2) (p.trans (p5.trans p6)))
 have main4:∀ (src b1 b2:Bool) A τ,(0≤A∧A < 256 ^ (adz nf).toNat)→Pn i j σ τ→wB (C.f (k+2)) (dropB 4 c76) ⟨[.v (.ref i),.v (.il data),.v (.tup [.int nf,.int pr,.int off]),.v (.int nf),.v (.int pr),.v (.int off),.v (.str (mst src)),.v (.bool b1),.v (.bool b2),.v (.int A),.un,.un,.un,.un,.un,.un,.un,.un,.un,.un,.un,.un],τ⟩ R:=fun src b1 b2 A τ hA p=>by
  refine w74 (q:=[]) hn (br_d (fun q0=>br_d (fun q1=>gd_i q0 (gd_i (nng q0) (w61s ho q0 (L.q289) (main6 src b1 b2 A _ τ _ _ _ _ hA ?_ p)))) fun q1=>main6 src b1 b2 A 0 τ _ _ _ _ hA (by decide) p) fun q0=>main6 src b1 b2 A 0 τ _ _ _ _ hA (by decide) p)
  have q1:lpp nf pr off pr data src≤data.length - 2:=q1
  have:=num_range (Oct_sl ho (i:=lpp nf pr off pr data src) (j:=lpp nf pr off pr data src+2))
  rw [sl_len q0 (L.q166) (L.q331 q1),show (lpp nf pr off pr data src+2 - lpp nf pr off pr data src).toNat=2 by exact L.q332] at this
  exact this
 have main2:∀ (src:Bool) τ,Pn i j σ τ→wB (C.f (k+2)) (dropB 2 c76) ⟨[.v (.ref i),.v (.il data),.v (.tup [.int nf,.int pr,.int off]),.v (.int nf),.v (.int pr),.v (.int off),.v (.str (mst src)),.un,.un,.un,.un,.un,.un,.un,.un,.un,.un,.un,.un,.un,.un,.un],τ⟩ R:=fun src τ p=>by
  refine w59 (by decide) (by decide) p.1 fun v2 σ2 r2 p2=>w59 (by decide) (by decide) p2.1 fun v3 σ3 r3 p3=>?_
  have p:=p.trans (p2.trans p3)
  cases src
  ·refine w59 (by decide) (by decide) p.1 fun v4 σ4 r4 p4=>gd_i (by show 0≤v4∧v4 < (([2,9,2 ^ 20]:List Int).length:Int);exact r4) ?_
   have ha:0≤ix [2,9,2 ^ 20] v4∧ix [2,9,2 ^ 20] v4≤2 ^ 20:=ix_all (P:=fun x=>0≤x∧x≤2 ^ 20) (by decide) r4.1 r4.2
   exact w66 hn ha.1 ha.2 (main4 false _ _ _ _ (adr_ok hn ha.1 ha.2) (p.trans p4))
  ·refine w59 (by decide) (by decide) p.1 fun v4 σ4 r4 p4=>gd_i (by show 0≤v4∧v4 < (([1,9,2 ^ 20]:List Int).length:Int);exact r4) ?_
   have ha:0≤ix [1,9,2 ^ 20] v4∧ix [1,9,2 ^ 20] v4≤2 ^ 20:=ix_all (P:=fun x=>0≤x∧x≤2 ^ 20) (by decide) r4.1 r4.2
   exact w66 hn ha.1 ha.2 (main4 true _ _ _ _ (adr_ok hn ha.1 ha.2) (p.trans p4))
 exact w59 (by decide) (by decide) hp fun v1 σ1 r1 p1=>br_d (fun z=>main2 true σ1 p1) fun z=>gd_i (L.q333 r1 z) (main2 false σ1 p1)
end
end
section
noncomputable def ePr (nf:Int):Int:=if nf=2 then 1 else 58
noncomputable def eBd (kx nb:Int) (D:List Int):List Int:=[kx,0] ++ oct nb 2 ++ [0,0,0,0] ++ D
noncomputable def eIn (nf pr off many:Int) (D:List Int):PV:=if many≤(D.length:Int) then .tup [.int nf,.int pr,.int off] else .tup [.int nf,.int (-1),.int (-1)]
theorem eBd_len {kx nb:Int} {D:List Int}:(eBd kx nb D).length=8+D.length:=by unfold eBd;simp [oct_len];exact L.q334
section
variable {C:OS} {k:Nat} {σ:List PV} {K:PV→List PV→Prop} {i j:Nat} {nf pr off many:Int} {data:List Int}
theorem w77 (hn:nf=2 ∨ nf=10) (hz:data.length≤300) (hm:hdz nf≤many) (hm2:many≤data.length) (hp:Pen i j σ)
  (h:∀ head kx nb c th τ,hdz nf≤(c:Nat)→isE nf kx=true→0≤kx∧kx < 256→Head nf (ePr nf) 0 (adrL nf 500) (adrL nf (if th=true then 1 else 3)) head→Pn i j σ τ →
   K (.tup [.il (head ++ eBd kx nb (data.take c)),.tup [.int nf,.int (ePr nf),.int head.length],.il (data.take c),eIn nf pr off many (data.take c),.bool th]) τ):C.f (k+3) 77 [.ref i,.il data,.tup [.int nf,.int pr,.int off],.int many] σ K:=by
 refine go rfl rfl rfl fun R hR hN=>?_
 have hd:0≤hdz nf∧hdz nf≤40:=by unfold hdz;split <;> decide
 have main10:∀ head kx nb (c:Nat) th τ (a b d e f g:LV),hdz nf≤c→isE nf kx=true→0≤kx∧kx < 256→Head nf (ePr nf) 0 (adrL nf 500) (adrL nf (if th=true then 1 else 3)) head→Pn i j σ τ →
   wB (C.f (k+2)) (dropB 10 c77) ⟨[a,.v (.il data),.v (.tup [.int nf,.int pr,.int off]),.v (.int many),.v (.int nf),.v (.int pr),.v (.int off),b,.v (.int kx),d,e,f,.v (.il (data.take c)),.v (.il (eBd kx nb (data.take c))),.v (.bool th),g,.v (.il head),.un,.un,.un,.un,.un,.un,.un,.un],τ⟩ R:=fun head kx nb c th τ a b d e f g hc hE hk hH p=>by
  have h:=h head kx nb c th τ hc hE hk hH p
  have hL:=Head_len hH
  have lb:head.length+(eBd kx nb (data.take c)).length≤1000000:=by rw [eBd_len,List.length_take];exact L.q335 hz hL
  unfold eIn at h
  refine br_d (fun z=>gd_i lb ?_) fun z=>gd_i lb ?_
  ·rw [if_pos z] at h
   rcases hn with rfl | rfl
   ·exact hR h
   ·exact hR h
  ·rw [if_neg z] at h
   rcases hn with rfl | rfl
   ·exact hR h
   ·exact hR h
 have main9:∀ kx nb (c:Nat) th τ (b d e f:LV),hdz nf≤c→isE nf kx=true→0≤kx∧kx < 256→Pn i j σ τ →
   wB (C.f (k+2)) (dropB 9 c77) ⟨[.v (.ref i),.v (.il data),.v (.tup [.int nf,.int pr,.int off]),.v (.int many),.v (.int nf),.v (.int pr),.v (.int off),b,.v (.int kx),d,e,f,.v (.il (data.take c)),.own (.il (eBd kx nb (data.take c))),.v (.bool th),.v (.il [adrL nf 500,adrL nf (if th=true then 1 else 3)]),.un,.un,.un,.un,.un,.un,.un,.un,.un],τ⟩ R:=fun kx nb c th τ b d e f hc hE hk p=>by
  have lb:((eBd kx nb (data.take c)).length:Int)≤1000:=by rw [eBd_len,List.length_take];exact L.q336 hz
  rcases hn with rfl | rfl
  ·exact w67 p.1 (by decide) fun w x y ω hw r=>bn (main10 _ kx nb c th ω _ _ _ _ _ _ hc hE hk (.inl ⟨rfl,w,x,y,hw.1,hw.2,rfl⟩) (p.trans r))
  ·exact w68 p.1 (by decide) ⟨lz,lb⟩ fun ks x ω hl hk' r=>bn (main10 _ kx nb c th ω _ _ _ _ _ _ hc hE hk (.inr ⟨rfl,ks,x,hl,hk',rfl⟩) (p.trans r))
 have main5:∀ kx nb cut τ (b:LV),isE nf kx=true→0≤kx∧kx < 256→Pn i j σ τ →
   wB (C.f (k+2)) (dropB 5 c77) ⟨[.v (.ref i),.v (.il data),.v (.tup [.int nf,.int pr,.int off]),.v (.int many),.v (.int nf),.v (.int pr),.v (.int off),b,.v (.int kx),.v (.int nb),.v (.int (hdz nf)),.v (.int cut),.un,.un,.un,.un,.un,.un,.un,.un,.un,.un,.un,.un,.un],τ⟩ R:=fun kx nb cut τ b hE hk p=>by
  have hc:hdz nf≤((max (hdz nf) cut).toNat:Int):=L.q337
  have l0:([kx,0]:List Int).length≤2:=Nat.le_refl _
  have l1:([0,0,0,0]:List Int).length≤4:=Nat.le_refl _
  have l2:(data.take (max (hdz nf) cut).toNat).length≤300:=by rw [List.length_take];exact L.q338 hz
  refine gd_i (L.q339 hd) (w60 (m:=2) (by decide) (gd_i (by exact ag (al (al l0 ol2) l1) l2 (by decide)) ?_))
  refine w59 (by decide) (by decide) p.1 fun v4 σ4 r4 p4=>w66 hn (by decide) (by decide) ?_
  have q:=p.trans p4
  have main9:=main9 kx nb (max (hdz nf) cut).toNat (decide (v4 < 3)) σ4
  refine br_i (fun z=>w66 hn (by decide) (by decide) ?_) fun z=>w66 hn (by decide) (by decide) ?_
  ·rw [if_pos z] at main9;exact main9 _ _ _ _ hc hE hk q
  ·rw [if_neg (by rw [z];decide)] at main9;exact main9 _ _ _ _ hc hE hk q
 rcases hn with rfl | rfl
 ·refine w59 (by decide) (by decide) hp fun v1 σ1 r1 p1=>gd_i (by show 0≤v1∧v1 < (([3,11,12,4,5]:List Int).length:Int);exact r1) ?_
  refine w59 (by decide) (by decide) p1.1 fun v2 σ2 r2 p2=>?_
  refine w59 (by decide) (by decide) p2.1 fun v3 σ3 r3 p3=>?_
  refine gd_i (by show 0≤v3∧v3 < (([(data.length:Int),many+8,many+3,many,20,many+7]:List Int).length:Int);exact r3) ?_
  exact main5 (ix [3,11,12,4,5] v1) v2 _ σ3 _ (ix_all (P:=fun x=>isE 2 x=true) (by decide) r1.1 r1.2) (ix_all (P:=fun x=>0≤x∧x < 256) (by decide) r1.1 r1.2) (p1.trans (p2.trans p3))
 ·refine w59 (by decide) (by decide) hp fun v1 σ1 r1 p1=>gd_i (by show 0≤v1∧v1 < (([1,2,3,4,1]:List Int).length:Int);exact r1) ?_
  refine w59 (by decide) (by decide) p1.1 fun v2 σ2 r2 p2=>?_
  refine w59 (by decide) (by decide) p2.1 fun v3 σ3 r3 p3=>?_
  refine gd_i (by show 0≤v3∧v3 < (([(data.length:Int),many+8,many+3,many,40,many+7]:List Int).length:Int);exact r3) ?_
  exact main5 (ix [1,2,3,4,1] v1) v2 _ σ3 _ (ix_all (P:=fun x=>isE 10 x=true) (by decide) r1.1 r1.2) (ix_all (P:=fun x=>0≤x∧x < 256) (by decide) r1.1 r1.2) (p1.trans (p2.trans p3))
end
end
section
theorem fx_L {n m:Nat} {pr piece:Int}:fL (fx n m pr piece)=if n≤m then pr else -1:=by
 unfold fx
 by_cases h:n≤m
 ·rw [if_pos h,if_pos h];rfl
 ·rw [if_neg h,if_neg h];rfl
theorem fx_O {n m:Nat} {pr piece:Int}:fO (fx n m pr piece)=if n≤m then (if piece=3 then -1 else (n:Int)) else -1:=by
 unfold fx
 by_cases h:n≤m
 ·rw [if_pos h,if_pos h]
  unfold fO
  dsimp only
  by_cases h3:piece=3
  ·rw [if_pos h3,if_pos h3];rfl
  ·rw [if_neg h3,if_neg h3];rfl
 ·rw [if_neg h,if_neg h];rfl
theorem fO_cases {n m:Nat} {pr piece:Int}:fO (fx n m pr piece)=-1 ∨ fO (fx n m pr piece)=n:=by
 rw [fx_O]
 by_cases h:n≤m
 ·rw [if_pos h]
  by_cases h3:piece=3
  ·rw [if_pos h3];exact .inl rfl
  ·rw [if_neg h3];exact .inr rfl
 ·rw [if_neg h];exact .inl rfl
theorem PR_range {pr:Int} (h:PRo pr):0≤pr∧pr < 256:=by unfold PRo at h;exact L.q340 h
structure PkL (nf pr piece:Int) (n:Nat) (D:List Int):Prop where
 hn:nf=2 ∨ nf=10
 hPR:PRo pr
 hz:D.length≤600
 ho:Oct D
 hdl:hdz nf≤D.length
 hn0:hdz nf≤n
 h4:n % 4=0
 hhl:nf=2→Builtin.bitAnd (ix D 0) 15 * 4=n
 hf:∀ C,Fnd C nf D (fx n D.length pr piece)
theorem pkl_of {nf pr piece e0 e1:Int} {head body D:List Int} {c:Nat} (hn:nf=2 ∨ nf=10) (h:Head nf pr piece e0 e1 head) (hPR:PRo pr) (hpi:0≤piece∧piece < 4) (hbO:Oct body) (hc:hdz nf≤c) (hD:D=(head ++ body).take c) (hz:D.length≤600):PkL nf pr piece head.length D:=by
 have hL:=Head_len h
 have hp:=PR_range hPR
 have ho:Oct D:=by rw [hD];exact Oct_take (Oct_app (Head_Oct h hp) hbO)
 have hdl:hdz nf≤D.length:=by rw [hD,List.length_take,List.length_append];exact L.q341 hc hL
 refine ⟨hn,hPR,hz,ho,hdl,hL.1,Head_even h,fun e=>?_,fun C=>?_⟩
 ·subst e
  exact (Head_look4 h hpi.1 hpi.2 (by have:hdz 2=20:=rfl;exact L.q342 hc this) hD).2.1
 ·rcases hn with rfl | rfl
  ·exact fnd4 h hpi.1 hpi.2 (by have:hdz 2=20:=rfl;exact L.q342 hc this) hD ho (by have:hdz 2=20:=rfl;exact L.q343 hL this)
  ·exact fnd6 h hPR hpi.1 hpi.2 (by have:hdz 10=40:=rfl;exact L.q344 hc this) hD ho
theorem hdz20 {nf:Int}:20≤hdz nf:=by unfold hdz;split <;> decide
theorem fx_le {n m:Nat} {pr piece:Int}:∀ a,fx n m pr piece=some a→a.2.1≤m∧0≤a.2.1:=fun a e=>by
 unfold fx at e
 split at e
 ·rw [← Option.some.inj e];exact ⟨by dsimp only;exact L.q351 (by assumption),Int.natCast_nonneg _⟩
 ·exact nomatch e
theorem PkL.wc {nf pr piece:Int} {n:Nat} {D:List Int} (p:PkL nf pr piece n D) {t:T6} (ht:TOk nf t) (e:t.nf=nf) (src:Bool):WC nf (fL (fx n D.length pr piece)) (fO (fx n D.length pr piece)) D t src:=by
 have h20:=hdz20 (nf:=nf)
 have hn0:=p.hn0
 have h4:=p.h4
 have hc:=fO_cases (n:=n) (m:=D.length) (pr:=pr) (piece:=piece)
 refine ⟨p.hn,by have:=p.hz;exact L.q345 this,p.ho,e,by split;exact ht.a;exact ht.b,ht.s,ht.d,p.hdl,fun h=>by exact L.q346 hn0 hc h,fun h=>by exact L.q347 h4 hc h,fun h2 _=>?_⟩
 rw [p.hhl h2]
 exact ⟨by exact L.q348 h20 hn0,fun h=>by exact L.q349 hc h⟩
theorem in_eq {nf pr piece:Int} {n:Nat} {D:List Int} (hp:0≤pr):inM nf (fx n D.length pr piece) D=if (fL (fx n D.length pr piece)) < 0 ∨ (fO (fx n D.length pr piece)) < 0 then none else tupM nf (fL (fx n D.length pr piece)) (fO (fx n D.length pr piece)) D:=by
 rw [fx_L,fx_O]
 unfold fx inM
 by_cases h:n≤D.length
 ·rw [if_pos h,if_pos h,if_pos h]
  by_cases h3:piece=3
  ·simp [h3]
  ·rw [if_neg h3,if_neg h3]
   dsimp only
   rw [if_pos rfl,if_neg (L.q350 hp)]
 ·rw [if_neg h,if_neg h,if_neg h]
  exact (if_pos (.inl (by decide))).symm
end
section
def Kps (i j:Nat) (σ τ:List PV):Prop:=∀ (m:Nat) (x:PV),m ≠ i→m ≠ j→σ[m]?=some x→τ[m]?=some x
theorem Pn.kp {i j:Nat} {σ τ:List PV} (p:Pn i j σ τ):Kps i j σ τ:=fun m x h1 h2 q=>(p.2.2 m h1 h2).trans q
theorem Kps.trans {i j:Nat} {σ τ υ:List PV} (a:Kps i j σ τ) (b:Kps i j τ υ):Kps i j σ υ:=fun m x h1 h2 q=>b m x h1 h2 (a m x h1 h2 q)
theorem Kps.of {i j:Nat} {σ τ:List PV} (o:∀ (m:Nat) (x:PV),σ[m]?=some x→τ[m]?=some x):Kps i j σ τ:=fun m x _ _ q=>o m x q
theorem eIn_eq {nf pr piece:Int} {n:Nat} {D:List Int}:eIn nf pr (if piece=3 then -1 else (n:Int)) n D=.tup [.int nf,.int (fL (fx n D.length pr piece)),.int (fO (fx n D.length pr piece))]:=by
 unfold eIn
 rw [fx_L,fx_O]
 by_cases h:n≤D.length
 ·rw [if_pos (L.q351 h),if_pos h,if_pos h]
 ·rw [if_neg (L.q352 h),if_neg h,if_neg h]
theorem ends_num {nf pr piece x y:Int} {head body D:List Int} {c:Nat} (hn:nf=2 ∨ nf=10) (hx:0≤x∧x≤2 ^ 20) (hy:0≤y∧y≤2 ^ 20) (h:Head nf pr piece (adrL nf x) (adrL nf y) head) (hc:hdz nf≤c) (hD:D=(head ++ body).take c) :
  num (sl D (adr nf) (adr nf+adz nf))=adrL nf x∧num (sl D (adr nf+adz nf) (adr nf+adz nf+adz nf))=adrL nf y:=by
 obtain ⟨a,b⟩:=Head_ends h hc hD
 have ax:=adr_ok hn hx.1 hx.2
 have ay:=adr_ok hn hy.1 hy.2
 rw [a,b,num_oct_id ax.1 ax.2,num_oct_id ay.1 ay.2]
 exact ⟨rfl,rfl⟩
theorem inv_dst {t u:T6} (h:invM t=some u):u.dst=t.src:=by
 unfold invM at h
 split at h
 ·rw [← Option.some.inj h]
 ·split at h
  ·exact nomatch h
  ·rw [← Option.some.inj h]
theorem tup_src {nf pr off:Int} {D:List Int} {t:T6} (h:tupM nf pr off D=some t):t.src=num (sl D (adr nf) (adr nf+adz nf)):=by
 unfold tupM at h
 split at h
 ·exact nomatch h
 ·rw [← Option.some.inj h]
theorem inM_src {nf:Int} {z:Option (Int × Int × Int)} {D:List Int} {t:T6} (h:inM nf z D=some t):t.src=num (sl D (adr nf) (adr nf+adz nf)):=by
 unfold inM at h
 split at h
 ·exact nomatch h
 ·split at h
  ·exact tup_src h
  ·exact nomatch h
theorem adr_13 {nf:Int} (hn:nf=2 ∨ nf=10):adrL nf 1 ≠ adrL nf 3:=by rcases hn with rfl | rfl <;> decide
end
section
section
variable {C:OS} {k:Nat} {σ:List PV} {K:PV→List PV→Prop} {i j:Nat}
theorem a79 {a b c d e f g h_ i_ j_ m n o p q:LV} {Q:Fl→St→Prop} (h:Q .next ⟨[a,b,c,d,e,f,g,h_,i_,j_,m,n,o,.v (optT none),p,q,.un,.un,.un,.un,.un,.un,.un,.un,.un,.un,.un,.un,.un,.un],σ⟩) :
  wS (C.f k) (headB (dropB 5 c79)) ⟨[a,b,c,d,e,f,g,h_,i_,j_,m,n,o,.v (optT none),p,q,.un,.un,.un,.un,.un,.un,.un,.un,.un,.un,.un,.un,.un,.un],σ⟩ Q:=h
theorem w79 {nf pr piece:Int} {head body:List Int} {t:T6} {src:Bool} (hn:nf=2 ∨ nf=10) (hH:Head nf pr piece (adrL nf 1) (adrL nf 2) head) (hPR:PRo pr) (hpi:0≤piece∧piece < 4) (hbO:Oct body) (hbl:body.length≤24) (hT:TOk nf t) (hp:Pen i j σ)
  (h:∀ τ,Kps i j σ τ→K (.bool true) τ):C.f (k+9) 79 [.ref i,.il (head ++ body),.tup [.int nf,.int pr,.int (if piece=3 then -1 else (head.length:Int))],.int head.length,tPV t,.str (mst src)] σ K:=by
 refine go rfl rfl rfl fun R hR hN=>?_
 have hL:=Head_len hH
 have h20:=hdz20 (nf:=nf)
 have hbl2:(head ++ body).length≤208:=by rw [List.length_append];exact L.q353 hbl hL
 refine w77 hn (L.q354 hbl2) hL.1 (by rw [List.length_append];exact L.q355) hp fun h2 kx nb c th τ1 hc hE hk hH2 p1=>?_
 rw [eIn_eq]
 obtain ⟨D,hDd⟩:∃ D,D=(head ++ body).take c:=⟨_,rfl⟩
 rw [← hDd]
 have hDl:D.length≤208:=by rw [hDd,List.length_take];exact L.q356 hbl2
 have pD:=pkl_of hn hH hPR hpi hbO hc hDd (L.q357 hDl)
 have hL2:=Head_len hH2
 have hPe:PRo (ePr nf):=by unfold ePr PRo;rcases hn with rfl | rfl <;> decide
 have hbO2:Oct (eBd kx nb D):=Oct_app (Oct_app (Oct_app (Oct_cons hk (Oct_cons (by decide) Oct_nil)) oct_Oct) (Oct_cons (by decide) (Oct_cons (by decide) (Oct_cons (by decide) (Oct_cons (by decide) Oct_nil))))) pD.ho
 obtain ⟨O,hO⟩:∃ O,O=h2 ++ eBd kx nb D:=⟨_,rfl⟩
 rw [← hO]
 have hOl:O.length=h2.length+(8+D.length):=by rw [hO,List.length_append,eBd_len]
 have hOt:O=(h2 ++ eBd kx nb D).take O.length:=by rw [← hO,List.take_length]
 have hcO:hdz nf≤(O.length:Int):=L.q358 hL2 hOl
 have pO:PkL nf (ePr nf) 0 h2.length O:=pkl_of hn hH2 hPe (by decide) hbO2 hcO hOt (L.q359 hDl hL2 hOl)
 have le2:h2.length≤O.length:=L.q360 hOl
 have eL:fL (fx h2.length O.length (ePr nf) 0)=ePr nf:=by rw [fx_L,if_pos le2]
 have eO:fO (fx h2.length O.length (ePr nf) 0)=h2.length:=by rw [fx_O,if_pos le2,if_neg (by decide)]
 have hDrop:O.drop ((h2.length:Int)+8).toNat=D:=by
  rw [hO,show ((h2.length:Int)+8).toNat=h2.length+8 by exact L.q361,← List.drop_drop,List.drop_left]
  rfl
 have hix:ix O h2.length=kx:=by rw [hO];exact ixa
 have hflt:fltM nf (ePr nf) h2.length O=true:=by
  unfold fltM
  rw [if_neg,hix]
  ·exact hE
  ·rintro (q | q | q)
   ·unfold isP ePr at q;rcases hn with rfl | rfl <;> exact absurd q (by decide)
   ·exact L.q362 q
   ·exact L.q363 hOl q
 have hin:=in_eq (n:=head.length) (D:=D) (piece:=piece) (PR_range hPR).1 (nf:=nf)
 have hfz:=pD.hf
 have hzle:=fx_le (n:=head.length) (m:=D.length) (pr:=pr) (piece:=piece)
 have hwc:=fun e=>pD.wc (t:=t) hT e src
 generalize hz:fx head.length D.length pr piece=z at *
 have target:num (sl O (adr nf+adz nf) (adr nf+adz nf+adz nf))=adrL nf (if th=true then 1 else 3):=(ends_num hn (by decide) (by split <;> decide) hH2 hcO hOt).2
 have srcN:num (sl D (adr nf) (adr nf+adz nf))=adrL nf 1:=(ends_num hn (by decide) (by decide) hH hc hDd).1
 generalize hI:inM nf z D=I at *
 have main9:∀ τ p d l pl (a b c_ d_ e f:LV),PkN τ1 τ p d l nf (ePr nf) h2.length pl O→Kps i j σ τ→wB (C.f (k+8)) (dropB 9 c79) ⟨[.v (.ref i),.v (.il (head ++ body)),.v (.tup [.int nf,.int pr,.int (if piece=3 then -1 else (head.length:Int))]),.v (.int head.length),.v (tPV t),.v (.str (mst src)),.v (.il O),.v (.tup [.int nf,.int (ePr nf),.int h2.length]),.v (.il D),.v (.tup [.int nf,.int (fL z),.int (fO z)]),.v (.bool th),.v (.inst 17 p),a,b,c_,d_,e,.un,.un,.un,.un,.un,.un,.un,.un,.un,.un,.un,.un,.un],τ⟩ R:=fun τ p d l pl a b c_ d_ e f P kp=>by
  refine br_n (fun _=>hR (h _ kp)) fun e'=>?_
  have w:=hwc e'
  have sp6:0≤spl (ePr nf)→spl (ePr nf)≤6:=by unfold ePr;rcases hn with rfl | rfl <;> decide
  have wl:=wrM_len (t:=t) (src:=src) (pr:=fL z) (off:=fO z) hn w.hdl w.hoff
  refine w54 hn P.a P.b P.ne (by have:=pO.hz;exact L.q345 this) pO.hdl pO.ho hL2.1 (by have:=pO.h4;exact L.q364 this) (fun e2 _=>Int.le_of_eq (pO.hhl e2)) (L.q365 hOl) sp6 hDrop w (hfz C) (fun a q=>(hzle a q).1) (L.q366 hDl) (by have:=pD.hdl;exact L.q367 h20 this) fun υ o g=>?_
  refine gs_i (o _ _ (fun q=>P.ne q.symm) P.a) (gs_i g ?_)
  refine w75 w (fun q=>by rw [← hz,fx_L] at q;rw [← hz,fx_O];have:=(PR_range hPR).1;split at q <;> rename_i y;exact L.q368 this q;rw [if_neg y];decide) ?_
  refine w73 hn (by have:=pO.hz;exact L.q345 this) pO.ho (wl.2 w.ho) pO.hdl (L.q369) (by rw [wl.1];exact L.q370 hOl) (by rw [wl.1];exact L.q366 hDl) (fun q=>by have:=(PR_range hPe).1;exact L.q371 q this) ?_
  exact hR (kb (h υ fun m x h1 h2 q=>o m x (fun e=>Nat.lt_irrefl _ (Nat.lt_of_lt_of_le (ga_lt (p1.kp m x h1 h2 q)) (e ▸ P.ld))) (kp m x h1 h2 q)) (decide_eq_true rfl).symm)
 have main6:∀ (A:Option T6) τ p d l pl bk (x:LV),I.bind invM=A→PkN τ1 τ p d l nf (ePr nf) h2.length pl O→Kps i j σ τ →
   (∀ u,A=some u→∃ tb ts a b c tk o,τ[bk]?=some (bookA tb ts a b c)∧τ[tb]?=some (.td 0 [u.nf,u.pr,u.src,u.sp,u.dst,u.dp] (.tup [.int 7,.int 1]))∧τ[ts]?=some (.idc [7] [.inst 36 tk])∧τ[tk]?=some (talkA o (tPV u) 9)) →
   wB (C.f (k+8)) (dropB 6 c79) ⟨[.v (.ref i),.v (.il (head ++ body)),.v (.tup [.int nf,.int pr,.int (if piece=3 then -1 else (head.length:Int))]),.v (.int head.length),.v (tPV t),.v (.str (mst src)),.v (.il O),.v (.tup [.int nf,.int (ePr nf),.int h2.length]),.v (.il D),.v (.tup [.int nf,.int (fL z),.int (fO z)]),.v (.bool th),.v (.inst 17 p),.v (optT I),.v (optT A),.v (.inst 37 bk),x,.un,.un,.un,.un,.un,.un,.un,.un,.un,.un,.un,.un,.un,.un],τ⟩ R:=fun A τ p d l pl bk x hA P kp hb=>by
  refine w56 (z:=z) hn P.a P.b pO.ho pO.hdl lz hDrop (hfz C) (fun a q=>(hzle a q).2) hI (fun e=>?_) fun u e=>?_
  ·obtain rfl:A=none:=hA.symm.trans e
   exact w57 hn P.a P.b (by rw [hflt];exact main9 τ p d l pl _ _ _ _ _ .un P kp)
  ·obtain rfl:A=some u:=hA.symm.trans e
   obtain ⟨tb,ts,a,b,c,tk,o,g1,g2,g3,g4⟩:=hb u rfl
   obtain ⟨t',hI',hu⟩:=Option.bind_eq_some_iff.mp e
   have ud:u.dst=adrL nf 1:=(inv_dst hu).trans ((inM_src (hI.trans hI')).trans srcN)
   refine ⟨tb,ts,a,b,c,tk,o,g1,g2,g3,g4,fun q=>?_,fun q=>?_⟩
   ·rw [target,ud] at q
    cases th
    ·exact absurd q (adr_13 hn)
    ·exact w57 hn P.a P.b (by rw [hflt];exact gs_i g4 (main9 τ p d l pl _ _ _ _ _ .un P kp))
   ·rw [target,ud] at q
    cases th
    ·exact w57 hn P.a P.b (by rw [hflt];exact main9 τ p d l pl _ _ _ _ _ .un P kp)
    ·exact absurd rfl q
 have main4:∀ (A:Option T6) τ p d l pl,I.bind invM=A→PkN τ1 τ p d l nf (ePr nf) h2.length pl O →
   wB (C.f (k+8)) (dropB 4 c79) ⟨[.v (.ref i),.v (.il (head ++ body)),.v (.tup [.int nf,.int pr,.int (if piece=3 then -1 else (head.length:Int))]),.v (.int head.length),.v (tPV t),.v (.str (mst src)),.v (.il O),.v (.tup [.int nf,.int (ePr nf),.int h2.length]),.v (.il D),.v (.tup [.int nf,.int (fL z),.int (fO z)]),.v (.bool th),.v (.inst 17 p),.v (optT I),.v (optT A),.un,.un,.un,.un,.un,.un,.un,.un,.un,.un,.un,.un,.un,.un,.un,.un],τ⟩ R:=fun A τ p d l pl hA P=>by
  refine w37 (σ:=τ ++ [.att [] []]) ga_end fun υ tb ts a b c B e1 e2 l1 l2 ne=>?_
  have e0:(τ ++ [PV.att [] []]).length=τ.length+1:=List.length_append
  have B:Bld (τ ++ [.att [] []]) υ τ.length (bookA tb ts a b c):=B
  have P2:∀ ω:List PV,(∀ (m:Nat) (x:PV),m < τ.length→τ[m]?=some x→ω[m]?=some x)→PkN τ1 ω p d l nf (ePr nf) h2.length pl O:=fun ω o=>⟨o _ _ (ga_lt P.a) P.a,o _ _ (ga_lt P.b) P.b,P.ne,P.lp,P.ld,fun m x q=>o m x (ga_lt (P.o m x q)) (P.o m x q)⟩
  have o1:∀ (m:Nat) (x:PV),m < τ.length→τ[m]?=some x→υ[m]?=some x:=fun m x q e=>B.o m x (Nat.ne_of_lt q) (ga_l e)
  have kpw:∀ ω:List PV,(∀ (m:Nat) (x:PV),m < τ.length→τ[m]?=some x→ω[m]?=some x)→Kps i j σ ω:=fun ω o=>p1.kp.trans (.of fun m x q=>o m x (ga_lt (P.o m x q)) (P.o m x q))
  cases A with
  | none =>
   exact b_seq (s:=headB (dropB 5 c79)) (b:=dropB 6 c79) (a79 (main6 none υ p d l pl τ.length .un hA (P2 υ o1) (kpw υ o1) fun u e=>nomatch e))
  | some u =>
   refine w36 (σ:=υ ++ [.att [] []]) ga_end fun ω b'=>?_
   have b':Bld (υ ++ [.att [] []]) ω υ.length (talkA (.tup [.int 2,.int 17,.int 5,.int 5,.int 5,.int 5]) (tPV u) 0):=b'
   have lbk:=ga_lt B.a
   have ltb:=ga_lt e1
   have lts:=ga_lt e2
   have f0:=b'.o _ _ (Nat.ne_of_lt lbk) (ga_l B.a)
   have f1:=b'.o _ _ (Nat.ne_of_lt ltb) (ga_l e1)
   have f2:=b'.o _ _ (Nat.ne_of_lt lts) (ga_l e2)
   have g0:=fun {x:PV}=>gs_ne (y:=x) (Nat.ne_of_gt lbk) f0
   have g1:=fun {x:PV}=>gs_ne (y:=x) (Nat.ne_of_gt ltb) f1
   have g2:=fun {x:PV}=>gs_ne (y:=x) (Nat.ne_of_gt lts) f2
   have nb:tb ≠ τ.length∧ts ≠ τ.length:=L.q372 l1 l2 e0
   refine gs_i b'.a (gs_i g0 (gs_i g2 (gs_i (gs_ne nb.2 g0) (gs_i (gs_ne ne.symm g1) ?_))))
   have o3:∀ {x y z:PV} (m:Nat) (v:PV),m < τ.length→τ[m]?=some v→(((ω.set υ.length x).set ts y).set tb z)[m]?=some v:=fun m v q e =>
    gs_ne (L.q373 l1 e0 q) (gs_ne (L.q373 l2 e0 q) (gs_ne (L.q374 lbk q) (b'.o m v (L.q375 lbk q) (ga_l (o1 m v q e)))))
   exact main6 (some u) _ p d l pl τ.length _ hA (P2 _ o3) (kpw _ o3) fun u' e=>by
    obtain rfl:=Option.some.inj e
    exact ⟨tb,ts,a,b,c,υ.length,_,gs_ne nb.1 (gs_ne nb.2 g0),gs_same (gs_ne ne.symm g1),gs_ne ne (gs_same g2),gs_ne (Nat.ne_of_lt ltb) (gs_ne (Nat.ne_of_lt lts) (gs_same b'.a))⟩
 have main2:∀ τ p d l,PkN τ1 τ p d l nf (ePr nf) h2.length (fP (fx h2.length O.length (ePr nf) 0)) O→wB (C.f (k+8)) (dropB 2 c79) ⟨[.v (.ref i),.v (.il (head ++ body)),.v (.tup [.int nf,.int pr,.int (if piece=3 then -1 else (head.length:Int))]),.v (.int head.length),.v (tPV t),.v (.str (mst src)),.v (.il O),.v (.tup [.int nf,.int (ePr nf),.int h2.length]),.v (.il D),.v (.tup [.int nf,.int (fL z),.int (fO z)]),.v (.bool th),.v (.inst 17 p),.un,.un,.un,.un,.un,.un,.un,.un,.un,.un,.un,.un,.un,.un,.un,.un,.un,.un],τ⟩ R:=fun τ p d l P=>by
  refine w70 hn pD.ho ?_
  rw [← hin]
  cases I with
  | none=>exact main4 none τ p d l _ rfl P
  | some u=>exact w78 (by rw [inM_nf hI];exact hn) (main4 (invM u) τ p d l _ rfl P)
 have step1:C.f (k+8) 19 [.bytes O,.int (kd nf)] τ1 (fun x τ=>wB (C.f (k+8)) (dropB 2 c79) ⟨[.v (.ref i),.v (.il (head ++ body)),.v (.tup [.int nf,.int pr,.int (if piece=3 then -1 else (head.length:Int))]),.v (.int head.length),.v (tPV t),.v (.str (mst src)),.v (.il O),.v (.tup [.int nf,.int (ePr nf),.int h2.length]),.v (.il D),.v (.tup [.int nf,.int (fL z),.int (fO z)]),.v (.bool th),.v x,.un,.un,.un,.un,.un,.un,.un,.un,.un,.un,.un,.un,.un,.un,.un,.un,.un,.un],τ⟩ R):=by
  refine w19 hn (pO.hf C) (fun a q=>(fx_le a q).1) fun τ p d l P=>main2 τ p d l ?_
  rw [eL,eO] at P
  exact P
 rcases hn with rfl | rfl
 ·exact gp_i pO.ho step1
 ·exact gp_i pO.ho step1
end
end
section
section
variable {C:OS} {k:Nat} {σ:List PV} {K:PV→List PV→Prop} {i j:Nat}
theorem w80 (hp:Pen i j σ) (h:∀ τ,Kps i j σ τ→K (.bool true) τ):C.f (k+10) 80 [.ref i] σ K:=by
 refine go rfl rfl rfl fun R hR hN=>w69 hp fun nf pr piece head body τ1 hn hPR hpi hbO hbl hH p1=>?_
 have hL:=Head_len hH
 have h20:=hdz20 (nf:=nf)
 obtain ⟨D,hD⟩:∃ D,D=head ++ body:=⟨_,rfl⟩
 obtain ⟨off,hoff⟩:∃ off,off=(if piece=3 then -1 else (head.length:Int)):=⟨_,rfl⟩
 have hDl:D.length=head.length+body.length:=by rw [hD,List.length_append]
 have hDt:D=(head ++ body).take D.length:=by rw [← hD,List.take_length]
 have pD:=pkl_of hn hH hPR hpi hbO (c:=D.length) (L.q376 hL hDl) hDt (L.q377 hbl hL hDl)
 have hpr:=PR_range hPR
 have eL:fL (fx head.length D.length pr piece)=pr:=by rw [fx_L,if_pos (L.q378 hDl)]
 have eO:fO (fx head.length D.length pr piece)=off:=by rw [fx_O,if_pos (L.q378 hDl),hoff]
 have w79':=fun {k:Nat} {t:T6} {src:Bool} {τ:List PV} {K:PV→List PV→Prop} (hT:TOk nf t) (hp:Pen i j τ) h=>w79 (C:=C) (k:=k) (K:=K) (src:=src) hn hH hPR hpi hbO hbl hT hp h
 rw [← hD,← hoff] at w79'
 rw [← hD,← hoff]
 have main2:∀ τ p d l,PkN τ1 τ p d l nf pr off (fP (fx head.length D.length pr piece)) D→wB (C.f (k+9)) (dropB 2 c80) ⟨[.v (.ref i),.v (.il D),.v (.tup [.int nf,.int pr,.int off]),.v (.int head.length),.v (.inst 17 p),.un,.un,.un,.un,.un,.un,.un,.un,.un,.un,.un,.un,.un,.un],τ⟩ R:=fun τ p d l P=>by
  have main3:wB (C.f (k+9)) (dropB 3 c80) ⟨[.v (.ref i),.v (.il D),.v (.tup [.int nf,.int pr,.int off]),.v (.int head.length),.v (.inst 17 p),.un,.un,.un,.un,.un,.un,.un,.un,.un,.un,.un,.un,.un,.un],τ⟩ R:=by
   obtain ⟨row,rest,q1,q2,hij⟩:=p1.1
   have li:=ga_lt q1
   have lj:=ga_lt q2
   have P1:=P.lp
   have P2:=P.ld
   have pen:Pen i j τ:=⟨row,rest,P.o _ _ q1,P.o _ _ q2,hij⟩
   refine w76 hn pD.ho pen fun t src υ hT p3=>?_
   have r1:υ[p]?=some (pkt d l nf pr off (fP (fx head.length D.length pr piece))):=(p3.2.2 p (L.q379 li P1) (L.q379 lj P1)).trans P.a
   have r2:υ[d]?=some (.ba D):=(p3.2.2 d (L.q379 li P2) (L.q379 lj P2)).trans P.b
   have k1:Kps i j σ υ:=p1.kp.trans ((Kps.of P.o).trans p3.kp)
   by_cases e:t.nf=nf
   ·have w:=pD.wc hT e src
    rw [eL,eO] at w
    refine w52 hn r1 r2 P.ne w.hz w.ho w.ht w.hA w.hs w.hd w.hdl w.hoff w.hev w.hhl ?_
    refine gs_i (gs_ne P.ne r1) (gs_i (gs_same r2) (w75 w (fun q=>by exact L.q380 hpr q) (br_f (Mine.nf rfl) ?_)))
    obtain ⟨row',rest',q1',q2',_⟩:=p3.1
    refine w79' hT ⟨row',rest',gs_ne (L.q379 li P2) q1',gs_ne (L.q379 lj P2) q2',hij⟩ fun ω kp=>hR (h ω ?_)
    exact fun m x a1 a2 q=>kp m x a1 a2 (gs_ne (fun e'=>Nat.lt_irrefl _ (Nat.lt_of_lt_of_le (ga_lt (p1.kp m x a1 a2 q)) (e' ▸ P2))) (k1 m x a1 a2 q))
   ·refine w52x hn r1 e ?_
    refine gs_i r1 (gs_i r2 (w75x e (br_f (Mine.nf rfl) ?_)))
    exact w79' hT p3.1 fun ω kp=>hR (h ω (k1.trans kp))
  refine w43 hn P.a P.b pD.ho (w70 hn pD.ho ?_)
  rw [show (if pr < 0 ∨ off < 0 then none else tupM nf pr off D)=(if off < 0 then none else tupM nf pr off D) by
   by_cases z:off < 0
   ·rw [if_pos z,if_pos (.inr z)]
   ·rw [if_neg z,if_neg (L.q381 hpr z)]]
  generalize (if off < 0 then none else tupM nf pr off D)=X
  cases X with
  | none=>exact w57 hn P.a P.b (w71 hn (br_f (Mine.nf rfl) main3))
  | some u=>exact br_f (Mine.nf rfl) (w57 hn P.a P.b (w71 hn (br_f (Mine.nf rfl) main3)))
 have step1:C.f (k+9) 19 [.bytes D,.int (kd nf)] τ1 (fun x τ=>wB (C.f (k+9)) (dropB 2 c80) ⟨[.v (.ref i),.v (.il D),.v (.tup [.int nf,.int pr,.int off]),.v (.int head.length),.v x,.un,.un,.un,.un,.un,.un,.un,.un,.un,.un,.un,.un,.un,.un],τ⟩ R):=by
  refine w19 hn (pD.hf C) (fun a q=>(fx_le a q).1) fun τ p d l P=>main2 τ p d l ?_
  rw [eL,eO] at P
  exact P
 rcases hn with rfl | rfl
 ·exact gp_i pD.ho step1
 ·exact gp_i pD.ho step1
end
end
section
noncomputable def rw0:List (List Int):=[[0,0,0,0,17,1,0,0,1,0,0,0,0,0,0,3,777,0,0,0,1,8,1,0,0,0],[1,1,0,0,5,0,0,0,4,2,0,1,2,1,0,0,1,2,0,1,0,2,9,3,1],[0,2,6,1,40,2,4660,0,0,1,2,513,0,0,2,1,0,1,3,2],[1,3,15,3,9,1,0,1,1,0,1,1,0,0,1,2,0,2,0,1,1],[0,5,0,2,200,0,0,3,2,1,0,9,1,0,0,1,4,500,0,2,3,1,1]]
section
variable {C:OS} {k:Nat} {K:PV→List PV→Prop}
theorem w62 (h:∀ τ,(∀ q,q < 5→∃ row,τ[q]?=some (PV.il row))→K (.lst [.ref 0,.ref 1,.ref 2,.ref 3,.ref 4]) τ):C.f (k+1) 62 [] [] K:=go rfl rfl rfl fun R hR hN=>hR (h (rw0.map .il) fun q hq=>by
 rw [List.getElem?_map,List.getElem?_eq_getElem (show q < rw0.length from hq)]
 exact ⟨_,rfl⟩)
theorem pen81 {τ:List PV} {q:Nat} {r:Int} (h:∃ row,τ[q]?=some (PV.il row)):Pen τ.length q (τ ++ [.sd [0,1] [.ref q,.int r]]):=by
 obtain ⟨row,hr⟩:=h
 exact ⟨row,_,ga_end,ga_l hr,Nat.ne_of_gt (ga_lt hr)⟩
theorem w81 {xs:List Int} (hx:xs.length≤63) (h:∀ τ,K (.bool true) τ):C.f (k+11) 81 [.il xs] [] K:=by
 refine go rfl rfl rfl fun R hR hN=>w62 fun τ0 h0=>?_
 have hx':(xs.take 63).length≤64:=by rw [List.length_take];exact L.q382
 refine forW_use (pv:=fun q:Int × Nat=>PV.tup [.int q.1,.ref q.2]) (fun (l:List (Int × Nat)) st=>∃ a b e τ,st=⟨[.v (.il (xs.take 63)),a,b,e,.un,.un,.un],τ⟩∧((∀ q ∈ l,(0≤q.1∧q.1 < 100)∧∃ row,τ[q.2]?=some (.il row))∧(l.map (·.2)).Nodup)) ?_ ?_ [(0,0),(1,1),(2,2),(3,3),(4,4)] _ ⟨_,_,_,_,rfl,?_,by decide⟩
 ·rintro ⟨z,q⟩ l _ ⟨a,b,e,τ,rfl,h1,h2⟩ ih
  have n1:=(List.nodup_cons.mp h2).1
  have n2:=(List.nodup_cons.mp h2).2
  have hz:=(h1 _ List.mem_cons_self).1
  refine gd_i ⟨hz.1,Int.lt_trans hz.2 (by decide),hx'⟩ ?_
  refine w80 (i:=τ.length) (j:=q) (pen81 (h1 _ List.mem_cons_self).2) fun ω kp=>?_
  refine ih _ ⟨_,_,_,ω,rfl,fun m hm=>?_,n2⟩
  obtain ⟨a1,row',a2⟩:=h1 m (List.mem_cons_of_mem _ hm)
  exact ⟨a1,row',kp m.2 _ (Nat.ne_of_lt (ga_lt a2)) (fun e=>n1 (List.mem_map.mpr ⟨m,hm,e⟩)) (ga_l a2)⟩
 ·rintro _ ⟨a,b,e,τ,rfl,_⟩
  exact hR (h τ)
 ·intro q hq
  have hq5:q.2 < 5∧0≤q.1∧q.1 < 100:=by revert q;decide
  exact ⟨hq5.2,h0 q.2 hq5.1⟩
end
end
section
theorem well_list {P:PySem.Params} {h:Heap} {a:Addr} {vs:List Value} {xs:List PyData} (x:Well P h (.ref a) (ofPy (.list xs))) (y:h.IsList a vs.toArray):IsL h a vs.toArray 0:=by
 obtain ⟨o,ho,hc,n,hd⟩:=y
 generalize e:ofPy (.list xs)=d at x
 cases x with
 | list g q =>
  rw [g] at ho
  cases ho
  cases hd
  exact g
 | bytearray=>unfold ofPy at e;cases e
 | tuple=>unfold ofPy at e;cases e
 | dict=>unfold ofPy at e;cases e
 | set=>unfold ofPy at e;cases e
 | frozenset=>unfold ofPy at e;cases e
 | obj=>unfold ofPy at e;cases e
theorem dd_some:(defOf qq "law").isSome=true:=by kernel_rfl
noncomputable def dd:DefRec × List (Str × Expr):=(defOf qq "law").get dd_some
theorem h_def:defOf qq "law" = some (dd.1,dd.2):=(Option.some_get dd_some).symm
theorem h_the:pp.theDef "law" = some (dd.1.params,dd.1.body,dd.1.scope):=by kernel_rfl
theorem h_kw:kwWritten? dd.1.params.kwonlyargs dd.1.params.kw_defaults=some dd.2:=by kernel_rfl
theorem h_ok:(chainsOk qq && opensWell pp && (frees PySem.Challenge.rw_pq1094_01.row.toRowW && PySem.Challenge.rw_pq1094_01.row.within.isEmpty))=true:=by kernel_rfl
theorem h_tab:pp.tablesWhole=true:=by kernel_rfl
theorem h_bare:rwl.row.prog.bare:=⟨rfl,rfl,rfl,rfl,rfl,h_tab⟩
theorem h_prom:rwl.row.toRowW.promised:=⟨[ofPy (.list [])],by kernel_rfl,by kernel_rfl⟩
theorem law_mem':81 ∈ fids:=by
 have h:fids.contains 81=true:=by kernel_rfl
 exact List.contains_iff_mem.mp h
set_option tactic.hygienic true in
theorem holds:rwl.Holds:=by
 refine ⟨h_ws,holdsX (YP:=fun _ h=>∃ T,FK T h) (XP:=fun _ _=>True) left (fun w s e=>of_eq_true e) (fun w h h' ⟨T,fk⟩ k=>⟨T,fk.1,fun l hl=>(fk.2 l hl).keeps k⟩) (fun _ _=>trivial) (fun _ _ _ _ _=>trivial) h_def h_the h_kw (fun s _=>recFacts_nil rfl) rfl kW h_ok h_bare h_prom ?_⟩
 intro w s₀ s₁ mg mb G Y a o pm cd doc dV kV ha hdata hcode hdf hmg hgens args vals as hpre hlay hreads hwell hlow
 obtain ⟨T',fk⟩:=Y
 have T:=G.T
 have wo:=wok (w:=w) fk T.g T.b T.nolimit T.builtins
 have low:=G.low
 clear hdata hcode hdf ha
 wrow_args hpre hlay hreads hwell hlow
 rename_i xs hs hlay0 hL1 hr1 hl2 as1 as2 la vs as3 hL ra w1 r0 hI hr hc hc2
 have hl:xs.length≤63:=L.q384 hc
 have hil:IsL s₁.heap la vs.toArray 0:=well_list w1 hL
 have hrep:RepL (bsK w s₁.heap T' mg mb) s₁.heap [] [Value.ref la] [.il xs]:=⟨_,_,rfl,⟨la,rfl,vs.toArray,⟨0,hil⟩,by simpa using hI,by exact L.q385 hl⟩,rfl⟩
 have hss:SS (bsK w s₁.heap T' mg mb) s₁.heap [] [] s₁.heap:=⟨Le.refl _,Le.refl _,rfl,fun i a x h=>by simp at h,fun a h=>by simp at h,List.nodup_nil⟩
 have hfa:(bsK w s₁.heap T' mg mb).fa 81=some a:=by
  obtain ⟨a',q1,q2⟩:=wo.fn 81 law_mem'
  have:some (Value.ref a')=some (.ref a):=q2.symm.trans hmg
  cases this
  exact q1
 have hev:oF 40 81 [.il xs] [] (fun x _=>x=.bool true):=w81 (C:=oS) (k:=29) hl fun _=>rfl
 have hcall:=oF_ok fk wo 40 0 (L.q386) 81 [.il xs] [] (fun x _=>x=.bool true) hev { callerA with frames:=none,guards:=none } s₁.heap [] s₁ [Value.ref la] a
  ⟨rfl,rfl,rfl,by show 1+claimMargin≤302+4 * 0;decide,by show (4:Nat)≤12+12 * 0;decide⟩ low hss hrep hfa
 show wpX (model prg w) callerA (call (Value.ref a) [Value.ref la]) _ s₁
 refine X_le (A':={ callerA with frames:=none,guards:=none }) ?_ rfl (Nat.le_refl _) rfl rfl (Nat.le_refl _)
 refine X_call ?_
 refine cX_mono hcall fun fl s' hp=>?_
 cases fl with
 | ret v =>
  obtain ⟨F',μ',hx,⟨hg',ho'⟩,x,σ',rfl,hss',hv⟩:=hp
  cases hv
  refine GoodW.toG ⟨.inl ⟨_,.bool true,[],rfl,fun cls=>by rfl,.bool true,by wrow_post,fun _=>⟨List.nodup_nil,fun a h=>by cases h⟩⟩,fun b o hb=>hx.pres b o (Heap.lt_size hb) (by simp) hb,ho',hg'.trans hgens⟩
 | _=>exact hp.elim
end
end Mine
theorem PySem.Challenge.cw_pq1094_01_holds : PySem.Challenge.rw_pq1094_01.Holds :=
  Mine.holds
