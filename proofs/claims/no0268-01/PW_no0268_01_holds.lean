import PyProof.Rows.All
import Wide.All
import OpenK.AllK
import Wide.FinOn
import KE.LcTurns
import PySem.Challenge.RW_no0268_01
set_option maxRecDepth 100000
set_option Elab.async false
set_option linter.all false
set_option maxHeartbeats 8000000
set_option bootstrap.genMatcherCode false
set_option tactic.hygienic false
namespace Mine.Lin0
noncomputable def qE:List Int→List Nat→Int:=List.rec (fun _=>0) fun p _ ih c=>p * c.headD 0+ih c.tail
noncomputable def qM (k:Int) (l:List Int):List Int:=l.map (k * ·)
noncomputable def qA:List Int→List Int→List Int:=List.rec id fun p r ih q=>(p+q.headD 0)::ih q.tail
noncomputable def qV:Nat→List Int:=Nat.rec [1] fun _ ih=>0::ih
noncomputable def qP (l:List Int):Bool:=l.all (Int.ble' 0 ·)
noncomputable def qZ (l:List Int):Bool:=l.all (Int.beq' 0 ·)
noncomputable def lR (d x y:Nat):Prop :=
 cond (d.beq 1) (x≤y) <| cond (d.beq 2) (x < y) <| cond (d.beq 3) (x=y) <| cond (d.beq 4) (¬ x≤y) <| cond (d.beq 5) (¬ x < y) False
noncomputable def qR (d:Nat) (x y:List Int):List Int :=
 cond (d.beq 1) (qA y (qM (-1) x)) <| cond (d.beq 2) (qA [-1] (qA y (qM (-1) x))) <| cond (d.beq 3) (qA y (qM (-1) x)) <| cond (d.beq 4) (qA [-1] (qA x (qM (-1) y))) <| cond (d.beq 5) (qA x (qM (-1) y)) [-1]
noncomputable def lD (c:List Nat):Nat→Nat→List Nat→Prop:=Nat.rec (fun _ _=>True) fun _ ih t s =>
 cond ((t % 32).beq 0) (ih (t / 32) ((s.tail.headD 0+s.headD 0)::s.tail.tail)) <|
 cond ((t % 32).beq 8) (ih (t / 32) ((s.tail.headD 0 * s.headD 0)::s.tail.tail)) <|
 cond ((t % 32).beq 6) (ih (t / 1024) (t / 32 % 32::s)) <|
 cond ((t % 32).beq 7) (ih (t / 1073741824) (t / 32 % 33554432::s)) <|
 cond (Nat.ble 10 (t % 32)) (ih (t / 32) (c.getD (t % 32 - 10) 0::s)) <|
 cond ((t / 32).beq 0) (lR (t % 32) (s.tail.headD 0) (s.headD 0)) (lR (t % 32) (s.tail.headD 0) (s.headD 0)→ih (t / 1024) s.tail.tail)
noncomputable def qC:Nat→Nat→List (List Int)→List Int→Bool→Bool:=Nat.rec (fun _ _ _ _=>false) fun _ ih t s a e =>
 cond ((t % 32).beq 0) (ih (t / 32) (qA (s.tail.headD []) (s.headD [])::s.tail.tail) a e) <|
 cond ((t % 32).beq 8) (cond (s.tail.headD []).tail.isEmpty (ih (t / 32) (qM ((s.tail.headD []).headD 0) (s.headD [])::s.tail.tail) a e)
  (cond (s.headD []).tail.isEmpty (ih (t / 32) (qM ((s.headD []).headD 0) (s.tail.headD [])::s.tail.tail) a e) false)) <|
 cond ((t % 32).beq 6) (ih (t / 1024) ([((t / 32 % 32:Nat):Int)]::s) a e) <|
 cond ((t % 32).beq 7) (ih (t / 1073741824) ([((t / 32 % 33554432:Nat):Int)]::s) a e) <|
 cond (Nat.ble 10 (t % 32)) (ih (t / 32) (qV (t % 32 - 10+1)::s) a e) <|
 cond ((t / 32).beq 0) (cond ((t % 32).beq 3) (e && qZ (qA (qR (t % 32) (s.tail.headD []) (s.headD [])) (qM (-1) a))) (qP (qA (qR (t % 32) (s.tail.headD []) (s.headD [])) (qM (-1) a))))
  ((cond ((t % 32).beq 3) true (Nat.ble 16 (t / 32 % 32))) && ih (t / 1024) s.tail.tail (qA a (qM ((t / 32 % 32:Nat) - 16) (qR (t % 32) (s.tail.headD []) (s.headD [])))) (e && (t % 32).beq 3))
theorem iAx (a b x p q:Int):(a+b) * x+(p+q)=a * x+p+(b * x+q):=by
 rw [Int.add_mul,Int.add_assoc,Int.add_assoc,Int.add_left_comm (b * x)]
theorem qE_A (p:List Int):∀ q c,qE (qA p q) c=qE p c+qE q c:=by
 induction p with
 | nil=>exact fun q c=>(Int.zero_add _).symm
 | cons a p ih =>
  intro q c
  show (a+q.headD 0) * ((c.headD 0:Nat):Int)+qE (qA p q.tail) c.tail=_
  rw [ih]
  cases q with
  | nil=>exact (iAx a 0 _ _ 0).trans (by rw [Int.zero_mul]; rfl)
  | cons b q=>exact iAx a b _ _ _
theorem qE_M (k:Int) (p:List Int):∀ c,qE (qM k p) c=k * qE p c:=by
 induction p with
 | nil=>intro c; exact (Int.mul_zero k).symm
 | cons a p ih =>
  intro c
  show k * a * ((c.headD 0:Nat):Int)+qE (qM k p) c.tail=k * (a * ((c.headD 0:Nat):Int)+qE p c.tail)
  rw [ih,Int.mul_add,Int.mul_assoc]
theorem qE_V (n:Nat):∀ c:List Nat,qE (qV n) c=((c.getD n 0:Nat):Int):=by
 induction n with
 | zero=>intro c; show 1 * ((c.headD 0:Nat):Int)+0=_; rw [Int.one_mul,Int.add_zero]; cases c <;> rfl
 | succ n ih =>
  intro c
  show 0 * _+qE (qV n) c.tail=_
  rw [ih,Int.zero_mul,Int.zero_add]; cases c <;> rfl
theorem qE_P {p:List Int}:∀ {c},qP p=true→0≤qE p c:=by
 induction p with
 | nil=>intros; exact Int.le_refl 0
 | cons a p ih =>
  intro c h
  have h1:Int.ble' 0 a=true∧qP p=true:=Bool.and_eq_true_iff.mp h
  have h2:=ih (c:=c.tail) h1.2
  have h3:(0:Int)≤a:=by have:=h1.1; rwa [Int.ble'_eq_true] at this
  exact Int.add_nonneg (Int.mul_nonneg h3 (Int.natCast_nonneg _)) h2
theorem qE_Z {p:List Int}:∀ {c},qZ p=true→qE p c=0:=by
 induction p with
 | nil=>intros; rfl
 | cons a p ih =>
  intro c h
  have h1:Int.beq' 0 a=true∧qZ p=true:=Bool.and_eq_true_iff.mp h
  have h2:=ih (c:=c.tail) h1.2
  have h3:(0:Int)=a:=by have:=h1.1; rwa [Int.beq'_eq] at this
  show a * _+qE p c.tail=0
  rw [h2,← h3,Int.zero_mul]; rfl
noncomputable def lS (c:List Nat) (s:List Nat) (q:List (List Int)):Prop:=∀ i,((s.getD i 0:Nat):Int)=qE (q.getD i []) (1::c)
theorem g_t {α:Type} (s:List α) (i:Nat) (d:α):s.tail.getD i d=s.getD (i+1) d:=by cases s <;> rfl
theorem g_h {α:Type} (s:List α) (d:α):s.headD d=s.getD 0 d:=by cases s <;> rfl
theorem lS.tl {c s q} (h:lS c s q):lS c s.tail q.tail:=fun i=>by rw [g_t,g_t]; exact h (i+1)
theorem lS.hd {c s q} (h:lS c s q):((s.headD 0:Nat):Int)=qE (q.headD []) (1::c):=by rw [g_h,g_h]; exact h 0
theorem lS.cs {c s q} (h:lS c s q) {n p} (e:((n:Nat):Int)=qE p (1::c)):lS c (n::s) (p::q):=fun i=>by
 cases i with
 | zero=>exact e
 | succ i=>exact h i
theorem qE_k {k:Int} {c:List Nat}:qE [k] (1::c)=k:=(Int.add_zero _).trans (Int.mul_one k)
theorem qE_t {p:List Int} {c:List Nat} (h:p.tail.isEmpty=true):qE p (1::c)=p.headD 0:=by
 cases p with
 | nil=>rfl
 | cons a p=>cases p with
  | nil=>exact qE_k
  | cons b p=>exact nomatch h
noncomputable def lQ (b:Bool) (P:Prop) (v:Int):Prop:=cond b (P↔v=0) (P↔0≤v)
theorem cQ {b e:Bool} {P Q:Prop} {p q c} (f:b=true→lQ e P (qE p c)) (g:b=false→lQ e Q (qE q c)):lQ e (cond b P Q) (qE (cond b p q) c):=by
 cases b
 ·exact g rfl
 ·exact f rfl
theorem lQn {d k:Nat} {P:Prop} {v w:Int} (h:d.beq k=true) (hk:k.beq 3=false) (e:v=w) (f:P↔0≤w):lQ (d.beq 3) P v:=by
 rw [Nat.eq_of_beq_eq_true h,hk,e]; exact f
theorem lQe {d:Nat} {P:Prop} {v w:Int} (h:d.beq 3=true) (e:v=w) (f:P↔w=0):lQ (d.beq 3) P v:=by
 rw [h,e]; exact f
theorem a_s (x y:Int):y+-1 * x=y - x:=by rw [Int.neg_mul,Int.one_mul]; rfl
theorem a_le {x y:Nat}:x≤y↔(0:Int)≤y+-1 * x:=by rw [a_s,Int.sub_nonneg]; exact Int.ofNat_le.symm
theorem a_lt {x y:Nat}:x < y↔(0:Int)≤-1+(y+-1 * x):=by
 rw [a_s,Int.add_comm]
 exact Int.ofNat_lt.symm.trans (Int.sub_nonneg.symm.trans (by rw [← Int.sub_sub]; rfl))
theorem a_eq {x y:Nat}:x=y↔(y:Int)+-1 * x=0:=by rw [a_s,Int.sub_eq_zero]; exact ⟨fun h=>h ▸ rfl,fun h=>(Int.ofNat_inj.mp h).symm⟩
theorem lR_q {c:List Nat} {d x y:Nat} {p q:List Int} (hx:(x:Int)=qE p (1::c)) (hy:(y:Int)=qE q (1::c)):lQ (d.beq 3) (lR d x y) (qE (qR d p q) (1::c)):=by
 have A:∀ {p q:List Int} {x y:Nat},(x:Int)=qE p (1::c)→(y:Int)=qE q (1::c)→qE (qA q (qM (-1) p)) (1::c)=y+-1 * x:=fun hx hy=>by rw [qE_A,qE_M,← hx,← hy]
 have B:∀ {p q:List Int} {x y:Nat},(x:Int)=qE p (1::c)→(y:Int)=qE q (1::c)→qE (qA [-1] (qA q (qM (-1) p))) (1::c)=-1+(y+-1 * x):=fun hx hy=>by rw [qE_A,A hx hy,qE_k]
 exact cQ (fun h=>lQn h rfl (A hx hy) a_le) fun _=>cQ (fun h=>lQn h rfl (B hx hy) a_lt) fun _=>cQ (fun h=>lQe h (A hx hy) a_eq) fun h3 =>
  cQ (fun h=>lQn h rfl (B hy hx) (Nat.not_le.trans a_lt)) fun _=>cQ (fun h=>lQn h rfl (A hy hx) (Nat.not_lt.trans a_le)) fun _=>by
   rw [h3]; exact ⟨fun h=>h.elim,fun h=>absurd (qE_k ▸ h) (by decide)⟩
theorem cL {b X Y:Bool} {x y:Prop} (h:cond b X Y=true) (f:b=true→X=true→x) (g:b=false→Y=true→y):cond b x y:=by
 cases b
 ·exact g rfl h
 ·exact f rfl h
theorem cB {b X Y:Bool} {x:Prop} (h:cond b X Y=true) (f:b=true→X=true→x) (g:b=false→Y=true→x):x:=by
 cases b
 ·exact g rfl h
 ·exact f rfl h
theorem lin_a {d k:Nat} {P:Prop} {r a:List Int} {c:List Nat} (R:lQ (d.beq 3) P (qE r c)) (hr:P) (ha:0≤qE a c) (hk:cond (d.beq 3) true (Nat.ble 16 k)=true) :
  0≤qE (qA a (qM ((k:Nat) - 16) r)) c:=by
 rw [qE_A,qE_M]
 refine cB hk (fun h3 _=>?_) (fun h3 h1=>?_) <;> rw [h3] at R
 ·rw [R.mp hr,Int.mul_zero,Int.add_zero]; exact ha
 ·exact Int.add_nonneg ha (Int.mul_nonneg (Int.sub_nonneg.mpr (Int.ofNat_le.mpr (Nat.le_of_ble_eq_true h1))) (R.mp hr))
theorem lin_e {d:Nat} {k:Int} {P:Prop} {r a:List Int} {c:List Nat} {e:Bool} (R:lQ (d.beq 3) P (qE r c)) (hr:P) (he:e=true→qE a c=0) (h:(e && d.beq 3)=true):qE (qA a (qM k r)) c=0:=by
 have h2:=Bool.and_eq_true_iff.mp h
 rw [h2.2] at R
 rw [qE_A,qE_M,R.mp hr,he h2.1,Int.mul_zero,Int.zero_add]
theorem lin_g {d:Nat} {P:Prop} {r a:List Int} {c:List Nat} {e:Bool} (R:lQ (d.beq 3) P (qE r c)) (ha:0≤qE a c) (he:e=true→qE a c=0)
  (h:cond (d.beq 3) (e && qZ (qA r (qM (-1) a))) (qP (qA r (qM (-1) a)))=true):P:=by
 refine cB h (fun h3 h=>?_) (fun h3 h=>?_) <;> rw [h3] at R
 ·have h2:=Bool.and_eq_true_iff.mp h
  have h4:=qE_Z (c:=c) h2.2
  rw [qE_A,qE_M,he h2.1,Int.mul_zero,Int.add_zero] at h4
  exact R.mpr h4
 ·have h4:=qE_P (c:=c) h
  rw [qE_A,qE_M] at h4
  exact R.mpr (by lia)
theorem lin_s (c:List Nat) (f:Nat):∀ t s q a e,lS c s q→0≤qE a (1::c)→(e=true→qE a (1::c)=0)→qC f t q a e=true→lD c f t s:=by
 induction f with
 | zero=>intros; trivial
 | succ f ih =>
  intro t s q a e hs ha he h
  refine cL h (fun _ h=>ih _ _ _ _ _ (hs.tl.tl.cs ?_) ha he h) fun _ h=>cL h (fun _ h=>cB h (fun hx h=>ih _ _ _ _ _ (hs.tl.tl.cs ?_) ha he h) fun _ h=>cB h (fun hy h=>ih _ _ _ _ _ (hs.tl.tl.cs ?_) ha he h) fun _ h=>nomatch h)
   fun _ h=>cL h (fun _ h=>ih _ _ _ _ _ (hs.cs qE_k.symm) ha he h) fun _ h=>cL h (fun _ h=>ih _ _ _ _ _ (hs.cs qE_k.symm) ha he h)
   fun _ h=>cL h (fun _ h=>ih _ _ _ _ _ (hs.cs (qE_V (t % 32 - 10+1) (1::c)).symm) ha he h)
   fun _ h=>cL h (fun _ h=>lin_g (lR_q hs.tl.hd hs.hd) ha he h)
   fun _ h hr=>ih _ _ _ _ _ hs.tl.tl (lin_a (lR_q hs.tl.hd hs.hd) hr ha (Bool.and_eq_true_iff.mp h).1) (lin_e (lR_q hs.tl.hd hs.hd) hr he) (Bool.and_eq_true_iff.mp h).2
  ·rw [qE_A,← hs.hd,← hs.tl.hd]; rfl
  ·rw [qE_M,← qE_t hx (c:=c),← hs.hd,← hs.tl.hd]; rfl
  ·rw [qE_M,← qE_t hy (c:=c),← hs.hd,← hs.tl.hd,Int.mul_comm]; rfl
theorem lin (N:Nat) (c:List Nat) (h:qC 99 N [] [] true=true):lD c 99 N [] :=
 lin_s c 99 N [] [] [] true (fun _=>rfl) (Int.le_refl 0) (fun _=>rfl) h
end Mine.Lin0
set_option tactic.hygienic false
namespace Mine
theorem t12 {b:Int} {c d:Nat} (h:¬(c=d∨0 < b∨b < -12)):(-b).toNat≤12:=Int.toNat_le.mpr (Int.neg_le_of_neg_le (Int.not_lt.mp fun q=>h (.inr (.inr q))))
theorem tAbs {b:Int} (h:b.natAbs≤16777216):-1000000000 < b∧b < 1000000000 :=
 ⟨Int.lt_of_lt_of_le (by decide) (Int.neg_le_of_neg_le (Int.le_trans (Int.natAbs_neg b ▸ Int.le_natAbs) (Int.ofNat_le.mpr h))),Int.lt_of_le_of_lt (Int.le_trans Int.le_natAbs (Int.ofNat_le.mpr h)) (by decide)⟩
theorem tNp {a b:Int} (h:a≤0):a+b≤b:=by have:=Int.add_le_add_right h b; rwa [Int.zero_add] at this
theorem tCh {a b c n:Nat} (h:48≤a∧a≤b∨65≤a∧a≤c∨a=46∨a=45) (h1:n < 48) (h2:46≠n) (h3:45≠n):a≠n:=fun q=>by
 subst q; exact h.elim (fun h=>absurd h.1 (Nat.not_le.mpr h1)) fun h=>h.elim (fun h=>absurd (Nat.le_trans (by decide) h.1) (Nat.not_le.mpr h1)) fun h=>h.elim (fun h=>h2 h.symm) fun h=>h3 h.symm
theorem j0 {a b c d e:Nat}:a+(b+1)+c < d→e=a+1→e+b+c < d:=Lin0.lin 0x2681805ba23004ca7444d030000996a [a,b,c,d,e] rfl
theorem j1 {a b c:Nat}:a+(b+1)+11 < c→a+12 < c:=Lin0.lin 0x4c030ca88980598000996a [a,b,c] rfl
theorem j2 {a b c:Nat}:a+3 * (b+1)+101 < c→a+104 < c:=Lin0.lin 0x26000000d075444c00000194e04002658cca [a,b,c] rfl
theorem j3 {a:Nat}:0+1≤a+1:=Lin0.lin 0x200994009806 [a] rfl
theorem j4 {a:Nat}:a≤1000→a+1≤16777216+1:=Lin0.lin 0x40134000000e00995108000fa0ea [a] rfl
theorem j5 {a b:Nat}:a+1 < b→a < b:=Lin0.lin 0x4b5444b004ca [a,b] rfl
theorem j6 {a b:Nat}:¬a+b < b:=Lin0.lin 0x55816a [a,b] rfl
theorem j7 {a b:Nat}:a+10 < b→a+1+1 < b:=Lin0.lin 0x12c01300265444b028ca [a,b] rfl
theorem j8 {a b c:Nat}:a < b→b=c→a < c:=Lin0.lin 0x98a88d8b8896a [a,b,c] rfl
theorem j9 {a b c:Nat}:a+b+104 < c→a+100 < c:=Lin0.lin 0x9800000321d5113000000683816a [a,b,c] rfl
theorem j10 {a b c:Nat}:a+b+11 < c→a+10 < c:=Lin0.lin 0x980519511300b3016a [a,b,c] rfl
theorem j11 {a b c:Nat}:a+340+b < c→a+12 < c:=Lin0.lin 0x980619511300b00000550ea [a,b,c] rfl
theorem j12 {a b c d:Nat}:a+b+c < d→a+c < d:=Lin0.lin 0x26818a889a06016a [a,b,c,d] rfl
theorem j13 {a b c:Nat}:a+340+b < c→a+1+320+b < c:=Lin0.lin 0x1300b00000500e0099511300b00000550ea [a,b,c] rfl
theorem j14 {a b c:Nat}:a+b * 340+104 < c→a+b+b * 320+101 < c:=Lin0.lin 0x26000000ca702000028075816a889800000341c080000aa1d6a [a,b,c] rfl
theorem j15 {a b c:Nat}:a+340+b < c→a+320+b < c:=Lin0.lin 0x2601600000a01d511300b00000550ea [a,b,c] rfl
theorem j16 {a b c:Nat}:a+b * 340+104 < c→a+b * 320+101 < c:=Lin0.lin 0x9800000329c080000a01d6a889800000341c080000aa1d6a [a,b,c] rfl
theorem j17 {a:Nat}:a < 128→a < 1114112:=Lin0.lin 0x20880001d5110000200ea [a] rfl
theorem j18 {a b c d:Nat}:a < b→b≤c→c < d→a < d:=Lin0.lin 0x9aa889ac8858b8896a [a,b,c,d] rfl
theorem j19 {a b:Nat}:a≤b+1→a+4≤b+5:=Lin0.lin 0x80a658086544200996a [a,b] rfl
theorem j20 {a b:Nat}:a≤b→a≤b:=Lin0.lin 0x56a8856a [a,b] rfl
theorem j21:1≤9:=Lin0.lin 0x149826 [] rfl
theorem j22 {a:Nat}:1≤a+1:=Lin0.lin 0x40132826 [a] rfl
theorem j23 {a b:Nat}:a+1≤b+1→a≤b:=Lin0.lin 0x15aa21004cb004ca [a,b] rfl
theorem j24 {a b:Nat}:a+6+1≤b+7→a+1≤b+1:=Lin0.lin 0x200996009951080e658026018ca [a,b] rfl
theorem j25 {a b:Nat}:a+6+1≤b+7→a+5+1≤b+4+2:=Lin0.lin 0x8046010cb004c029951080e658026018ca [a,b] rfl
theorem j26 {a b c:Nat}:a < b→c≤a→c+1≤b:=Lin0.lin 0x2b004cc8854c8896a [a,b,c] rfl
theorem j27 {a b:Nat}:a+2≤b→1≤b:=Lin0.lin 0x5613442b008ca [a,b] rfl
theorem j28 {a b:Nat}:a+2≤b+1→a+1≤b:=Lin0.lin 0xac0132a21004cb008ca [a,b] rfl
theorem j29 {a b c:Nat}:a+(b+c)=a+b+c:=Lin0.lin 0xc0c02d400316a [a,b,c] rfl
theorem j30 {a b:Nat}:a≤b+a:=Lin0.lin 0x10296a [a,b] rfl
theorem j31 {a b:Nat}:a+b=b+a:=Lin0.lin 0xc0a5816a [a,b] rfl
theorem j32 {a b c:Nat}:a≤b→c+a≤b+c:=Lin0.lin 0x40c5814c8856a [a,b,c] rfl
theorem j33 {a b c:Nat}:a=b→b≤c→a≤c:=Lin0.lin 0x58a8858b88d6a [a,b,c] rfl
theorem j34 {a b c d e f:Nat}:a+b=c→c≤d→e≤a→f≤e→f+b≤d:=Lin0.lin 0x5a05be2173e2153a216b2236016a [a,b,c,d,e,f] rfl
theorem j35 {a b c:Nat}:a+1≤b→b < c+1→a < c:=Lin0.lin 0x262a22004cc5c42b004ca [a,b,c] rfl
theorem j36 {a b c d e:Nat}:a+b≤c→d≤a→e≤d→e+b≤c:=Lin0.lin 0x5805ba216ba21536216016a [a,b,c,d,e] rfl
theorem j37 {a b c:Nat}:a≤b→b≤c→a≤c:=Lin0.lin 0x58a8858b8856a [a,b,c] rfl
theorem j38 {a b c:Nat}:a+2=b→b≤c→a+6≤c+4:=Lin0.lin 0x8086600c65442c5c46b008ca [a,b,c] rfl
theorem j39 {a b c d:Nat}:a+2≤b→b+c≤d+1→a+c≤d:=Lin0.lin 0x16818a884013340c5c42b008ca [a,b,c,d] rfl
theorem j40 {a b c:Nat}:a+1 < b+1→c≤a→c < b:=Lin0.lin 0x25b22153222004cb004ca [a,b,c] rfl
theorem j41 {a b c d e f:Nat}:a+b≤c→c+d≤e→f≤a→f+d≤e:=Lin0.lin 0x1701af8854f885c06b2216016a [a,b,c,d,e,f] rfl
theorem j42 {a b c:Nat}:a+b≤c+b→a≤c:=Lin0.lin 0x58a8840b6016a [a,b,c] rfl
theorem j43 {a b:Nat}:a≤b→a < b+1:=Lin0.lin 0x400996a8856a [a,b] rfl
theorem j44 {a b c:Nat}:a+6≤b+6→c≤a→c+6≤b+5+1:=Lin0.lin 0x200980532c063322153221018cb018ca [a,b,c] rfl
theorem j45 {a:Nat}:a+6≤0→False:=Lin0.lin 0x988406018ca [a] rfl
theorem j46 {a:Nat}:a+6≤1→False:=Lin0.lin 0x988426018ca [a] rfl
theorem j47 {a:Nat}:a+6≤2→False:=Lin0.lin 0x988446018ca [a] rfl
theorem j48 {a:Nat}:a+6≤3→False:=Lin0.lin 0x988466018ca [a] rfl
theorem j49 {a:Nat}:a+6≤4→False:=Lin0.lin 0x988486018ca [a] rfl
theorem j50 {a:Nat}:a+6≤5→False:=Lin0.lin 0x9884a6018ca [a] rfl
theorem j51 {a:Nat}:a+1=1+a:=Lin0.lin 0x302826004ca [a] rfl
theorem j52 {a b c:Nat}:a+b≤c→a+0+b≤c:=Lin0.lin 0x2c02c0032a216016a [a,b,c] rfl
theorem j53 {a b c d e f g h i:Nat}:a+1=b→c+d≤a→e+f≤g→g≤d→h≤f→i+1+c+e+h≤i+b:=Lin0.lin 0x102e40881c0600269442f8c42d8443003dd10a80d6446b004ca [a,b,c,d,e,f,g,h,i] rfl
theorem j54 {a b c d e f:Nat}:a+b≤c→c≤d→e+d≤f→e+a+b≤f:=Lin0.lin 0x5e05814e885e06ba216b2216016a [a,b,c,d,e,f] rfl
theorem j55 {a b c d:Nat}:a+b≤c→d≤b→a+0+d≤c:=Lin0.lin 0x2c0340032a215b6216016a [a,b,c,d] rfl
theorem j56 {a b c:Nat}:a+1=b→c≤a→1+0+c≤b:=Lin0.lin 0xac0c000c13442a6446b004ca [a,b,c] rfl
theorem j57 {a b c d:Nat}:a+1=b→c+d≤a→1+c+d≤b:=Lin0.lin 0x1581a0604d10a80d6446b004ca [a,b,c,d] rfl
theorem j58 {a b c d e f:Nat}:a+1=b→c≤a→d≤c→e≤d→f≤e→1+f≤b:=Lin0.lin 0x1581e13442e7c42d7442c6c42a6446b004ca [a,b,c,d,e,f] rfl
theorem j59 {a b c d e:Nat}:a+1=b→c+d≤a→e≤d→c+e≤b:=Lin0.lin 0x2b039910b5d10a80d6446b004ca [a,b,c,d,e] rfl
theorem j60 {a b c d e:Nat}:a+1=b→c+d≤a→e≤d→c+1+e≤b:=Lin0.lin 0x1581c0099910b5d10a80d6446b004ca [a,b,c,d,e] rfl
theorem j61 {a b:Nat}:¬a < b→b≤a:=Lin0.lin 0x54b8956a [a,b] rfl
theorem j62 {a:Nat}:a < 5→a≤4:=Lin0.lin 0x121951114ca [a] rfl
theorem j63:6≤7:=Lin0.lin 0x1398c6 [] rfl
theorem j64 {a:Nat}:a < 8→a≤7:=Lin0.lin 0x139951120ca [a] rfl
theorem j65 {a b c:Nat}:a=b→c≤b→c≤a:=Lin0.lin 0x54c8856c78d6a [a,b,c] rfl
theorem j66 {a:Nat}:a≤a:=Lin0.lin 0x54a [a] rfl
theorem j67:6≤10:=Lin0.lin 0x1518c6 [] rfl
theorem j68 {a:Nat}:a≤9→a≤10:=Lin0.lin 0x1519510a4ca [a] rfl
theorem j69:9≤10:=Lin0.lin 0x151926 [] rfl
theorem j70 {a:Nat}:a≤9→a+1≤10:=Lin0.lin 0xa8c0099510a4ca [a] rfl
theorem j71 {a b c d e:Nat}:a+b≤c→d+c≤e→d+a+b≤e:=Lin0.lin 0x5c05814d885c0636216016a [a,b,c,d,e] rfl
theorem j72 {a b:Nat}:a < b+1→a≤b:=Lin0.lin 0x2b544400996a [a,b] rfl
theorem j73 {a b:Nat}:¬a≤b→b < a:=Lin0.lin 0x94b8916a [a,b] rfl
theorem j74 {a:Nat}:1+(a+0)=a+1:=Lin0.lin 0x180265000032826 [a] rfl
theorem j75 {a b:Nat}:a+(0+b)=a+b:=Lin0.lin 0x605a800580ca [a,b] rfl
theorem j76 {a:Nat}:0+a=a:=Lin0.lin 0x6a02806 [a] rfl
theorem j77 {a:Nat}:0+(1+(a+0))=1+a:=Lin0.lin 0xc0a09800000ca09806 [a] rfl
theorem j78 {a b c:Nat}:a+(1+(b+(0+(c+0))))=a+1+b+c:=Lin0.lin 0xc0c02c01328000000033006584ca [a,b,c] rfl
theorem j79 {a b c:Nat}:a+b+c=a+(c+b):=Lin0.lin 0xc005b1406016a [a,b,c] rfl
theorem j80 {a b:Nat}:a+(1+b+1)=a+(b+(0+1)+1):=Lin0.lin 0x60004c0004c032d40004c0584ca [a,b] rfl
theorem j81 {a b:Nat}:a+(0+1)+1+b=a+(b+1)+1:=Lin0.lin 0x60098000996a02c0130001300ca [a,b] rfl
theorem j82 {a:Nat}:0+a+1=a+1:=Lin0.lin 0x180265002602806 [a] rfl
theorem j83 {a b:Nat}:a+(b+0)=a+b:=Lin0.lin 0x605a8000196a [a,b] rfl
theorem j84 {a b:Nat}:a < b→1≤b:=Lin0.lin 0xac268896a [a,b] rfl
theorem j85 {a b:Nat}:a < b→¬b≤a:=Lin0.lin 0x114b8896a [a,b] rfl
theorem j86 {a:Nat}:a≤a+1:=Lin0.lin 0x200994a [a] rfl
theorem j87:4≤5:=Lin0.lin 0x129886 [] rfl
theorem j88:7≤8:=Lin0.lin 0x1418e6 [] rfl
theorem j89:1≤4:=Lin0.lin 0x121826 [] rfl
theorem j90:1≤7:=Lin0.lin 0x139826 [] rfl
theorem j91 {a b c:Nat}:1≤a→a≤b→c=0→c < b:=Lin0.lin 0x25b223019910ad510a826 [a,b,c] rfl
theorem j92 {a:Nat}:a=0→a < 1:=Lin0.lin 0x209951180ca [a] rfl
theorem j93 {a b c:Nat}:a+b≤c→a≤c:=Lin0.lin 0x162a216016a [a,b,c] rfl
theorem j94 {a b c:Nat}:a+b≤c+a→b≤c:=Lin0.lin 0x58b8840a6016a [a,b,c] rfl
theorem j95 {a b:Nat}:a < b+(a+1)+1+1:=Lin0.lin 0x4009801300013296a [a,b] rfl
theorem j96 {a b c:Nat}:a≤b→¬c < b→a≤c:=Lin0.lin 0x58a8956c8856a [a,b,c] rfl
theorem j97 {a b c d:Nat}:a < b→b≤c→c≤d→a < d:=Lin0.lin 0x9aa885ac8858b8896a [a,b,c,d] rfl
theorem j98 {a b c:Nat}:a≤b→a+1≤c+b+1:=Lin0.lin 0x4013016c004ca8856a [a,b,c] rfl
theorem j99 {a b:Nat}:a < b→b=b - 1+1:=fun h=>(Nat.sub_add_cancel (Nat.lt_of_le_of_lt (Nat.zero_le _) h)).symm
theorem j100 {a b c d:Nat}:a+(b+c)≤d→c≤d:=Lin0.lin 0x5ac885a00316a [a,b,c,d] rfl
theorem j101 {a b:Nat}:a+1 < b+1→a < b:=Lin0.lin 0x25aa22004cb004ca [a,b] rfl
theorem j102 {a b c d:Nat}:a≤b→a < c+b+d+1:=Lin0.lin 0x400980d02d8a8856a [a,b,c,d] rfl
theorem j103 {a:Int}:a < 0→-1 * (↑a.natAbs:Int)=a:=fun h=>by rw [Int.neg_mul,Int.one_mul,Int.ofNat_natAbs_of_nonpos (Int.le_of_lt h),Int.neg_neg]
theorem j104 {a:Int}:¬a < 0→1 * (↑a.natAbs:Int)=a:=fun h=>(Int.one_mul _).trans (Int.natAbs_of_nonneg (Int.not_lt.mp h))
theorem j105 {a b:Nat}:a≤4→b≤a→b < 5:=Lin0.lin 0x2299710a971090ca [a,b] rfl
theorem j106 {a b:Nat}:a≤7→b≤a→b < 8:=Lin0.lin 0x2419710a97109cca [a,b] rfl
theorem j107 {a:Nat}:a≤9→a < 100:=Lin0.lin 0x20000321d510a4ca [a] rfl
theorem j108 {a b:Nat}:a < b+a+1:=Lin0.lin 0x100260296a [a,b] rfl
theorem j109 {a b c d:Nat}:a+(b+c)≤d→b=2→1≤d:=Lin0.lin 0x1684cf188cb885a00316a [a,b,c,d] rfl
theorem j110 {a b c d:Nat}:a+(b+c)≤d+1→b=2→c≤d:=Lin0.lin 0x5ac78c465c420099a00316a [a,b,c,d] rfl
theorem j111 {a b c:Nat}:a+b+1 < c+1→b < c:=Lin0.lin 0x98b88801330013016a [a,b,c] rfl
theorem j112 {a:Nat}:6≤a→a=5→False:=Lin0.lin 0x2623299510a8c6 [a] rfl
theorem j113 {a b c d:Nat}:a+b≤c→a=d→d≤c:=Lin0.lin 0x1635e36aa216016a [a,b,c,d] rfl
theorem j114 {a b c d:Nat}:a+b≤c+d→a=d→b≤c:=Lin0.lin 0x58b78daa8840d6016a [a,b,c,d] rfl
theorem j115 {a b:Nat}:a≤b→¬b < a:=Lin0.lin 0x154b8856a [a,b] rfl
theorem j116 {a b:Nat}:a < b+a+1+1:=Lin0.lin 0x801300260296a [a,b] rfl
theorem j117 {a b c d:Nat}:a+(b+c)≤d→b≤d:=Lin0.lin 0x5ab885a00316a [a,b,c,d] rfl
theorem j118 {a b c d e:Nat}:a+(b+(c+d))≤e+b→c≤e:=Lin0.lin 0x5cc8840b700006b16a [a,b,c,d,e] rfl
theorem j119 {a b c d e f:Nat}:a+(b+(c+(0+(d+e))))≤f+b→d≤f:=Lin0.lin 0xbdb10816f00000039a03316a [a,b,c,d,e,f] rfl
theorem j120 {a b c d e f:Nat}:a+(b+(c+d))+e≤f+b→c≤f:=Lin0.lin 0x17b22102de0700006b16a [a,b,c,d,e,f] rfl
theorem j121 {a b c:Nat}:a+b≤c→c < a→False:=Lin0.lin 0x2622532216016a [a,b,c] rfl
theorem j122 {a:Nat}:¬a < 10→a / 10 < a:=fun h=>Nat.div_lt_self (Nat.lt_of_lt_of_le (by decide) (Nat.not_lt.mp h)) (by decide)
theorem j123 {a b:Nat}:a < b * 10→a / 10 < b:=fun h=>Nat.div_lt_of_lt_mul (Nat.mul_comm b 10 ▸ h)
theorem j124 {a b:Nat}:a≤b→a+1≤b+1:=Lin0.lin 0x1004cb004ca8856a [a,b] rfl
theorem j125 {a b c:Nat}:a+b=c→a≤c:=Lin0.lin 0x162a236016a [a,b,c] rfl
theorem j126 {a b:Nat}:¬a≤b→b≤a:=Lin0.lin 0x54b8916a [a,b] rfl
theorem j127 {a b c d:Nat}:a+b=c→b≤d→c≤a+d:=Lin0.lin 0x40d532216ade36016a [a,b,c,d] rfl
theorem j128 {a b:Nat}:a < b→a < b:=Lin0.lin 0x96a8896a [a,b] rfl
theorem j129 {a b c:Nat}:a < b→c≤a→c < b:=Lin0.lin 0x96c8854c8896a [a,b,c] rfl
theorem j130 {a b:Nat}:a+1+b+1=a+(b+2):=Lin0.lin 0x1800232d400980b004ca [a,b] rfl
theorem j131 {a b:Nat}:a+1+b+1=a+(b+1+1):=Lin0.lin 0xc000980132d400980b004ca [a,b] rfl
theorem j132 {a:Nat}:1≤a→1≤a:=Lin0.lin 0x1504d10a826 [a] rfl
theorem j133 {a b:Nat}:a≤640→¬1000 < (↑(b+a):Int) - (↑b:Int):=fun h=>by rw [Int.natCast_add,Int.add_comm,Int.add_sub_cancel]; exact Int.not_lt.mpr (Int.ofNat_le.mpr (Nat.le_trans h (by decide)))
theorem j134 {a b c d:Nat}:a+b≤c→c≤d→b≤d:=Lin0.lin 0x16ae216b2216016a [a,b,c,d] rfl
theorem j135 {a b:Nat}:a≤b→a≤b+1:=Lin0.lin 0x200996a8856a [a,b] rfl
theorem j136 {a b c d:Nat}:a < b→b≤c→d≤a→d+1≤c:=Lin0.lin 0x2c004cd8854d8858b8896a [a,b,c,d] rfl
theorem j137 {a b:Nat}:a+2+b+1=a+(b+1+1)+1:=Lin0.lin 0x60098000980132d400980b008ca [a,b] rfl
theorem j138 {a b:Nat}:a+1+b+1=a+(b+1)+1:=Lin0.lin 0xc013000132d400980b004ca [a,b] rfl
theorem j139 {a:Nat}:4≤a→a≤3→False:=Lin0.lin 0x2621199510a886 [a] rfl
theorem j140 {a:Nat}:a≤11+1→a≤640:=Lin0.lin 0x8000a00ea8840132cca [a] rfl
theorem j141 {a:Int}:¬a < 0→a=(↑a.natAbs:Int):=fun h=>(Int.natAbs_of_nonneg (Int.not_lt.mp h)).symm
theorem j142 {a:Nat}:a≤2→a≤640:=Lin0.lin 0x10001401d51088ca [a] rfl
theorem j143 {a:Nat}:a≤4→a≤640:=Lin0.lin 0x10001401d51090ca [a] rfl
theorem j144 {a b c d:Nat}:a≤1→b≤2→c≤4→d+c+1+1+a+b≤d+1000:=Lin0.lin 0x100000fa0ed02c0a004c00980c6c4243322111971084ca [a,b,c,d] rfl
theorem j145 {a:Nat}:min 1 a≤2:=Nat.le_trans (Nat.min_le_left ..) (by decide)
theorem j146 {a b:Nat}:a≤4→b+a+1≤b+1000:=Lin0.lin 0x800007d075802602971090ca [a,b] rfl
theorem j147 {a:Int} {b c:Nat} {d:Int}:a≠0→(¬(b=c∨0 < a∨a < d))→a < 0:=fun h1 h2=>Int.lt_iff_le_and_ne.mpr ⟨Int.not_lt.mp fun q=>h2 (.inr (.inl q)),h1⟩
theorem j148 {a:Int} {b:Nat}:a < 0→b=(-a).toNat→1≤b:=fun h e=>e ▸ Int.lt_toNat.mpr (Int.neg_pos_of_neg h)
theorem j149 {a:Int} {b:Nat}:a < 0→b=(-a).toNat→0 - (↑b:Int)=a:=fun h e=>by rw [e,Int.toNat_of_nonneg (Int.neg_nonneg_of_nonpos (Int.le_of_lt h)),Int.zero_sub,Int.neg_neg]
theorem j150 {a b:Nat}:¬a≤b→1≤a:=Lin0.lin 0xa8268916a [a,b] rfl
theorem j151 {a b:Nat}:1≤a+(b+1):=Lin0.lin 0x1000265a826 [a,b] rfl
theorem j152 {a b:Nat}:a+(b+1+1)=a+1+b+1:=Lin0.lin 0xc013016009940004c00996a [a,b] rfl
theorem j153 {a b c:Nat}:1≤a→b≤c→b+1≤a+c:=Lin0.lin 0x103140099710b1710a826 [a,b,c] rfl
theorem j154 {a b c:Nat}:a+(b+1)≤c→a < c:=Lin0.lin 0x131510b0000996a [a,b,c] rfl
theorem j155 {a b c:Nat}:a+(b+1)≤c→a+(0+1)+b≤c:=Lin0.lin 0xb00b00026019510b0000996a [a,b,c] rfl
theorem j156 {a b:Nat}:a < b→a≤b:=Lin0.lin 0x56a8896a [a,b] rfl
theorem j157 {a b c:Nat}:a < b→c≤a→c≤b:=Lin0.lin 0x56c8854c8896a [a,b,c] rfl
theorem j158 {a b c d e f g:Nat}:(a=b∨c≤a∧a≤d)→(e≤a∧a≤f∨c≤a∧a≤d∨a=b∨a=g):=fun h=>h.elim (fun h=>.inr (.inr (.inl h))) (fun h=>.inr (.inl h))
theorem j159 {a b:Nat}:a+1+b=a+b+1:=Lin0.lin 0x3004c05a80b004ca [a,b] rfl
theorem j160 {a:Int} {b:Nat}:a+1+(↑b:Int)=a+(↑(b+1):Int):=by rw [Int.add_assoc,Int.add_comm 1]; rfl
theorem j161 {a b c:Nat}:a≤b→a≤b+c:=Lin0.lin 0x10316a8856a [a,b,c] rfl
theorem j162:39 < 128:=Lin0.lin 0x20000401c00004e7 [] rfl
theorem j163 {a b c d:Nat}:a+b≤c→c < d→b < d:=Lin0.lin 0x26ae226b2216016a [a,b,c,d] rfl
theorem j164 {a b c:Nat}:a+b≤c→a+(b+1)≤c+1:=Lin0.lin 0x1004cc000265aa216016a [a,b,c] rfl
theorem j165 {a b c d:Nat}:a+b≤c→c < d→a < d:=Lin0.lin 0x26aa226b2216016a [a,b,c,d] rfl
theorem j166 {a b:Nat}:a+1=b+1→a=b:=Lin0.lin 0x35aa23004cb004ca [a,b] rfl
theorem j167 {a b c:Nat}:a+(b+1)≤c→a+1+b≤c+1:=Lin0.lin 0x802660160099510b0000996a [a,b,c] rfl
theorem j168 {a b c:Nat}:a+(b+1)≤c→a+b≤c+1:=Lin0.lin 0x1004cc02d510b0000996a [a,b,c] rfl
theorem j169 {a b c:Nat}:(48≤a∧a≤b∨65≤a∧a≤c∨a=46∨a=45)→(a≠39∧a≠40∧a≠41∧a≠44):=fun h=>⟨tCh h (by decide) (by decide) (by decide),tCh h (by decide) (by decide) (by decide),tCh h (by decide) (by decide) (by decide),tCh h (by decide) (by decide) (by decide)⟩
theorem j170 {a b c:Nat}:a+b < c→a < c:=Lin0.lin 0x262a226016a [a,b,c] rfl
theorem j171 {a b c:Nat}:a+(b+1) < c→a+1+b < c:=Lin0.lin 0x26016009951130000996a [a,b,c] rfl
theorem j172 {a:Int} {b:Nat}:a < 0→(a+(↑b:Int)).toNat=b - (-a).toNat:=fun h=>by rw [← Int.neg_neg a,← Int.toNat_of_nonneg (Int.neg_nonneg_of_nonpos (Int.le_of_lt h)),Int.add_comm,← Int.sub_eq_add_neg,Int.neg_neg,Int.toNat_natCast]; exact Int.toNat_sub ..
theorem j173 {a b:Nat}:a≤1→b≤2→a+b≤3:=Lin0.lin 0x8cc05aa2111971084ca [a,b] rfl
theorem j174 {a:Nat}:a≤4→a≤999999:=Lin0.lin 0x107a11f9d51090ca [a] rfl
theorem j175 {a:Nat}:a≤4→a≤999998:=Lin0.lin 0x107a11f1d51090ca [a] rfl
theorem j176 {a b:Nat}:a≤3→b≤4→b+2+a≤1000000:=Lin0.lin 0x41e848070280232e212197108cca [a,b] rfl
theorem j177 {a:Nat}:a≤4→a≤1000000:=Lin0.lin 0x107a1201d51090ca [a] rfl
theorem j178 {a:Nat}:a≤20→1+a≤1000000:=Lin0.lin 0x83d0900e0504d10d0ca [a] rfl
theorem j179 {a b:Nat}:a≤4→b≤4→a+1+b≤1000000:=Lin0.lin 0x41e8480702c0132a2121971090ca [a,b] rfl
theorem j180 {a b:Nat}:a≤3→b≤4→b+(a+1+1)≤40:=Lin0.lin 0x2000028380013002652e212197108cca [a,b] rfl
theorem j181 {a:Nat}:a≤4→a≤39:=Lin0.lin 0x10000139d51090ca [a] rfl
theorem j182 {a:Nat}:a≤1000→1+a≤1000000:=Lin0.lin 0x83d0900e0504d108000fa0ea [a] rfl
theorem j183 {a:Nat}:a≤1000→a≤1000000:=Lin0.lin 0x107a1201d5108000fa0ea [a] rfl
theorem j184 {a:Nat}:a≤40→1+a≤1000000:=Lin0.lin 0x83d0900e0504d1080000a0ea [a] rfl
theorem j185 {a:Nat}:a≤40→a≤1000000:=Lin0.lin 0x107a1201d51080000a0ea [a] rfl
theorem j186 {a:Nat}:a≤2→a≤1000:=Lin0.lin 0x10001f41d51088ca [a] rfl
theorem j187 {a:Nat}:a≤2→a≤99:=Lin0.lin 0x10000319d51088ca [a] rfl
theorem j188 {a:Nat}:a≤2→a≤100:=Lin0.lin 0x10000321d51088ca [a] rfl
theorem j189 {a:Nat}:a≤40→a≤99:=Lin0.lin 0x10000319d51080000a0ea [a] rfl
theorem j190 {a:Nat}:a≤40→a≤100:=Lin0.lin 0x10000321d51080000a0ea [a] rfl
theorem j191 {a:Nat}:a≤12→a≤1000:=Lin0.lin 0x10001f41d510b0ca [a] rfl
theorem j192 {a:Int}:a.natAbs=a.toNat→¬a < 0:=fun h q=>by rw [Int.toNat_of_nonpos (Int.le_of_lt q)] at h; exact absurd (Int.natAbs_eq_zero.mp h) (Int.ne_of_lt q)
theorem j193 {a:Nat}:a≤100→1+a≤1000000:=Lin0.lin 0x83d0900e0504d108000190ea [a] rfl
theorem j194 {a:Nat}:a≤100→a≤999998:=Lin0.lin 0x107a11f1d5108000190ea [a] rfl
theorem j195 {a b:Nat}:a≤100→b≤100→a+1+1+b≤1000000:=Lin0.lin 0x20f4240381600980132a210000321d7108000190ea [a,b] rfl
theorem j196 {a b:Nat}:a≤100→b≤100→a+(b+1)≤999998:=Lin0.lin 0x41e847c7000265aa210000321d7108000190ea [a,b] rfl
theorem j197 {a:Nat}:a≤900000→1+a≤1000000:=Lin0.lin 0x83d0900e0504d10836ee80ea [a] rfl
theorem j198 {a:Nat}:a≤900000→a≤999998:=Lin0.lin 0x107a11f1d510836ee80ea [a] rfl
theorem j199 {a b c d:Nat}:a+b=c→d+a+(b+1)=0+1+(d+c):=Lin0.lin 0x1800c680260180009960536236016a [a,b,c,d] rfl
theorem j200 {a b c d:Nat}:a+b=c→d+a+(b+1)≤d+c+1:=Lin0.lin 0x1004c06340009960536236016a [a,b,c,d] rfl
theorem j201 {a b:Nat}:a≤900000→b≤a+1→b≤1000000:=Lin0.lin 0x83d0900eb88401329710836ee80ea [a,b] rfl
theorem j202 {a b c d:Nat}:a≤b→a≤max b c+d:=fun h=>Nat.le_trans h (Nat.le_trans (Nat.le_max_left ..) (Nat.le_add_right ..))
theorem j203 {a:Nat}:a≤a+1+1:=Lin0.lin 0x1004c00994a [a] rfl
theorem j204 {a:Nat}:a≤800000→a≤900000:=Lin0.lin 0x106ddd01d510830d400ea [a] rfl
theorem j205 {a b c d:Nat}:a+b≤c→d≤a→d≤c:=Lin0.lin 0x163621536216016a [a,b,c,d] rfl
theorem j206 {a b c d e:Nat}:a+(b+c)≤d→e≤c→e≤d:=Lin0.lin 0x5ae8858e885a00316a [a,b,c,d,e] rfl
theorem j207 {a b c:Nat}:a+(b+c)≤800000→a+b≤1000000:=Lin0.lin 0x41e8480702d510830d400e00316a [a,b,c] rfl
theorem j208 {a b c:Nat}:a+(b+c)≤800000→a+b+c≤1000000:=Lin0.lin 0x107a1201c0c02d510830d400e00316a [a,b,c] rfl
theorem j209 {a b c:Nat}:5≤a→a+b≤c→3≤c:=Lin0.lin 0x5833442c02d510a8a6 [a,b,c] rfl
theorem j210 {a b:Nat}:a+2≤b+3→a≤b+1:=Lin0.lin 0x80265aa2100ccb008ca [a,b] rfl
theorem j211 {a b c d:Nat}:a+b≤c→d≤b→d≤c:=Lin0.lin 0x1636215b6216016a [a,b,c,d] rfl
theorem j212 {a:Nat}:a≤800000→a≤1000000:=Lin0.lin 0x107a1201d510830d400ea [a] rfl
theorem j213 {a b c:Nat}:a+b≤c→b≤c:=Lin0.lin 0x162e216016a [a,b,c] rfl
theorem j214 {a b c d e:Nat}:a+b+(0+1)≤c→d+e≤b+1→d≤c:=Lin0.lin 0xb1b108026581cd88580004c03016a [a,b,c,d,e] rfl
theorem j215 {a b c:Nat}:a+b+c≤800000→b≤900000:=Lin0.lin 0x106ddd01d710830d400e06016a [a,b,c] rfl
theorem j216 {a b c:Nat}:a+b+c+b≤800000→a≤999999:=Lin0.lin 0x41e847e754420c3500381606016a [a,b,c] rfl
theorem j217 {a b c:Nat}:a+b+c+b≤800000→a+1+c≤1000000:=Lin0.lin 0x83d0900e06002654420c3500381606016a [a,b,c] rfl
theorem j218 {a b c:Nat}:a+b+c+b≤800000→a+(c+1)≤999999:=Lin0.lin 0x83d08fce0004cc54420c3500381606016a [a,b,c] rfl
theorem j219 {a b c d e:Nat}:a+b+c+b+d+b≤e→a≤e:=Lin0.lin 0x172a2170160681606016a [a,b,c,d,e] rfl
theorem j220 {a b c d e:Nat}:a+b+c+d+c≤e→b≤e:=Lin0.lin 0x5cb885c0601a06016a [a,b,c,d,e] rfl
theorem j221 {a b c d:Nat}:a+b+c≤d→b≤d:=Lin0.lin 0x5ab885a06016a [a,b,c,d] rfl
theorem j222 {a b c d:Nat}:a+b+c+b+d+b≤800000→a≤999999:=Lin0.lin 0x41e847e754420c350038160681606016a [a,b,c,d] rfl
theorem j223 {a b c d:Nat}:a+b+c+b+d+b≤800000→a+1+c≤1000000:=Lin0.lin 0x83d0900e06002654420c350038160681606016a [a,b,c,d] rfl
theorem j224 {a b c d:Nat}:a+b+c+b+d+b≤800000→a+(c+1)≤999999:=Lin0.lin 0x83d08fce0004cc54420c350038160681606016a [a,b,c,d] rfl
theorem j225 {a b c d:Nat}:a+b+c+b+d+b≤800000→a+(c+1+1)+d≤1000000:=Lin0.lin 0x107a1201c0d00026004cc54420c350038160681606016a [a,b,c,d] rfl
theorem j226 {a b c d:Nat}:a+b+c+b+d+b≤800000→a+(c+(d+1)+1)≤999999:=Lin0.lin 0x107a11f9c0009800099ac54420c350038160681606016a [a,b,c,d] rfl
theorem j227 {a b c:Nat}:40≤a→b≤10→c≤30→c+b≤a:=Lin0.lin 0xa80b6443e33221519710a80000507 [a,b,c] rfl
theorem j228 {a:Nat}:0 < a→a=0→False:=Lin0.lin 0x26230195112806 [a] rfl
theorem j229 {a:Nat}:0≤a:=Lin0.lin 0xa806 [a] rfl
theorem j230 {a b:Nat}:a+1≤b→a≤b:=Lin0.lin 0x2b5442b004ca [a,b] rfl
theorem j231 {a:Nat}:10 < a→4 < a:=Lin0.lin 0x2510d112946 [a] rfl
theorem j232 {a b:Nat}:a+4≤b→a+1≤b:=Lin0.lin 0x1580265442b010ca [a,b] rfl
theorem j233 {a b:Nat}:a+4≤b→a+2≤b:=Lin0.lin 0x1580465442b010ca [a,b] rfl
theorem j234 {a:Nat}:a=1→a≤2:=Lin0.lin 0x111951184ca [a] rfl
theorem j235 {a b:Nat}:a≤a+b:=Lin0.lin 0x102d4a [a,b] rfl
theorem j236 {a:Nat}:a+3≤a+4:=Lin0.lin 0x1010ca00cca [a] rfl
theorem j237 {a b:Nat}:a+4≤b→a+2+1≤b:=Lin0.lin 0xac01300465442b010ca [a,b] rfl
theorem j238 {a:Nat}:a+1≤a+8:=Lin0.lin 0x1020ca004ca [a] rfl
theorem j239 {a b:Nat}:a+8≤b→a+1≤b:=Lin0.lin 0x1580265442b020ca [a,b] rfl
theorem j240 {a:Nat}:a+2≤a+8:=Lin0.lin 0x1020ca008ca [a] rfl
theorem j241 {a b:Nat}:a+8≤b→a+4≤b:=Lin0.lin 0x1580865442b020ca [a,b] rfl
theorem j242 {a b c:Nat}:a+8≤b→c≤a+4→c+4≤b:=Lin0.lin 0xac0433221010ca6442b020ca [a,b,c] rfl
theorem j243 {a b c:Nat}:a≤b+4→b≤c+4→a≤c+8:=Lin0.lin 0x810662a21010cc5c4202196a [a,b,c] rfl
theorem j244 {a:Nat}:10≤a+32:=Lin0.lin 0x400000203a946 [a] rfl
theorem j245 {a:Nat}:300≤a+1000:=Lin0.lin 0x400003e83a80002587 [a] rfl
theorem j246 {a:Nat}:10≤a+30:=Lin0.lin 0x41e32946 [a] rfl
theorem j247 {a:Nat}:0+0≤a:=Lin0.lin 0x54001806 [a] rfl
theorem j248 {a b:Nat}:300≤a→b≤6→b≤a:=Lin0.lin 0x152e21319710a80002587 [a,b] rfl
theorem j249 {a:Nat}:1≤2+a:=Lin0.lin 0x40a11826 [a] rfl
theorem j250 {a b:Nat}:300≤a→b≤12→b≤a:=Lin0.lin 0x152e21619710a80002587 [a,b] rfl
theorem j251 {a b:Nat}:300≤a→b≤40→b≤a:=Lin0.lin 0x152e210000141d710a80002587 [a,b] rfl
theorem j252 {a b:Nat}:300≤a→b≤7→b≤a:=Lin0.lin 0x152e21399710a80002587 [a,b] rfl
theorem j253 {a b c:Nat}:300≤a→b≤2 * c→c≤6→b+1+1≤a:=Lin0.lin 0x2a004c009972098cc8850c119710a80002587 [a,b,c] rfl
theorem j254 {a b c:Nat}:10≤a→b≤2→c≤2→6+(b+(0+(c+0)))+0≤a:=Lin0.lin 0xa80030000000cc019663442233221119710a946 [a,b,c] rfl
theorem j255 {a b c:Nat}:300≤a→b≤100→c≤100→b+(c+1+1)+1≤a:=Lin0.lin 0x15002600026004cc5c420000643b2210000321d710a80002587 [a,b,c] rfl
theorem j256 {a b c:Nat}:a < b→b≤c→a < c:=Lin0.lin 0x98a8858b8896a [a,b,c] rfl
theorem j257 {a b:Nat}:a+b≤b+a:=Lin0.lin 0x40a5816a [a,b] rfl
theorem j258:5≤10:=Lin0.lin 0x1518a6 [] rfl
theorem j259:8≤10:=Lin0.lin 0x151906 [] rfl
theorem j260 {a b c d e f g:Nat}:a≤b→c≤d→b≤e→d≤e→f≤6→g=2→a+(g+c)+f≤2 * e+32:=Lin0.lin 0x100000080e8708c07800c82a2311a11098cf885cd885cb885ac8856a [a,b,c,d,e,f,g] rfl
theorem j261 {a b c d e f:Nat}:a≤6→b≤c→d≤b+2→e≤c→f≤e+2→d+(a+f)≤2 * c+1000:=Lin0.lin 0x800007d0743046001ea6c420119cf8858e8840232db10b171098ca [a,b,c,d,e,f] rfl
theorem j262 {a b:Nat}:a+4 * b+2≤a+4 * (b+1):=Lin0.lin 0x408004cb2194011808590ca [a,b] rfl
theorem j263 {a b:Nat}:a+3 * b+1≤a+3 * (b+1):=Lin0.lin 0x408004cb199400980858cca [a,b] rfl
theorem j264 {a b c d e:Nat}:a=2→b≤6→c≤d→d≤e→a+c+b≤2 * e+32:=Lin0.lin 0x400000203a1c23016062a21736216b22131971188ca [a,b,c,d,e] rfl
theorem j265 {a b c d:Nat}:a≤6→b≤c→d≤b+2→a+d≤2 * c+1000:=Lin0.lin 0x400003e83a182301aa8840232db10b171098ca [a,b,c,d] rfl
theorem j266 {a b c:Nat}:a+b≤c→a≤2 * c:=Lin0.lin 0xa18232a216016a [a,b,c] rfl
theorem j267 {a b:Nat}:a≤b→a≤2 * b+1:=Lin0.lin 0x1004c8588ca8856a [a,b] rfl
theorem j268 {a b c d e:Nat}:a+b≤c→d+e≤c→a+(0+d)≤2 * c:=Lin0.lin 0x50c11800680ca88580736216016a [a,b,c,d,e] rfl
theorem j269 {a b c:Nat}:a≤b→c≤b→a+(0+1+c)≤2 * b+1:=Lin0.lin 0x1004c8588c003001300ca8856c8856a [a,b,c] rfl
theorem j270 {a:Nat}:¬a+1+1+1≤2:=Lin0.lin 0x41180130026004ca [a] rfl
theorem j271 {a b c:Nat}:a≤b→0+(c+(a+0))≤c+b:=Lin0.lin 0x102d8000006530068856a [a,b,c] rfl
theorem j272 {a b c:Nat}:a≤6→b≤c+1→a+(0+1+(b+(0+1+0)))≤c+9:=Lin0.lin 0x4093300000006004c032c01300ca8840133171098ca [a,b,c] rfl
theorem j273 {a b:Nat}:a≤5+b→a+2≤7+b:=Lin0.lin 0x81673004654420594ca [a,b] rfl
theorem j274 {a b:Nat}:a≤6+b→a+0≤b+32:=Lin0.lin 0x8000004075800654420598ca [a,b] rfl
theorem j275 {a b:Nat}:a≤b+9→a≤b+1000:=Lin0.lin 0x100000fa0eb544204996a [a,b] rfl
theorem j276 {a b:Nat}:a≤7+4 * b→a≤5+4 * (b+1):=Lin0.lin 0x2040026590c532a210216431cca [a,b] rfl
theorem j277 {a b:Nat}:a≤4+3 * b→a≤2+3 * (b+1):=Lin0.lin 0x204002658cc232a2102163310ca [a,b] rfl
theorem j278 {a:Nat}:a≤6→a≤700:=Lin0.lin 0x100015e1d51098ca [a] rfl
theorem j279:5≤7:=Lin0.lin 0x1398a6 [] rfl
theorem j280 {a:Nat}:a≤2 * 300+9→a≤700:=Lin0.lin 0x4000578754420499000012c388ca [a] rfl
theorem j281 {a b c:Nat}:a≤b+c * 0→a≤b:=Lin0.lin 0xad51081003316a [a,b,c] rfl
theorem j282 {a b c d:Nat}:a≤700→b≤c→d≤c→a+(0+1+(b+(0+1+(d+(0+1+0)))))≤2 * c+1000:=Lin0.lin 0x400003e83a182300000000030026019a00980658026019510b1b10b17108000af0ea [a,b,c,d] rfl
theorem j283 {a:Nat}:5+a≤7+a:=Lin0.lin 0x1028e6028a6 [a] rfl
theorem j284 {a:Nat}:7+4 * a+2≤5+4 * (a+1):=Lin0.lin 0x10200132886298023010a218e6 [a] rfl
theorem j285 {a:Nat}:2+a≤4+a:=Lin0.lin 0x10288602846 [a] rfl
theorem j286 {a:Nat}:4+3 * a+1≤2+3 * (a+1):=Lin0.lin 0x10200132866118013010a19886 [a] rfl
theorem j287 {a b:Nat}:10+a≤b→1≤b:=Lin0.lin 0x5613442b02946 [a,b] rfl
theorem j288 {a b c:Nat}:a+1+b≤c→a≤c:=Lin0.lin 0xb1510b00b004ca [a,b,c] rfl
theorem j289 {a b c d:Nat}:a+(b+c)≤d→a+c≤d:=Lin0.lin 0x16818a885a00316a [a,b,c,d] rfl
theorem j290 {a b c d e:Nat}:a+(b+c)≤d→e≤a+c→e+b≤d:=Lin0.lin 0x5a05ba210314e885a00316a [a,b,c,d,e] rfl
theorem j291 {a b c d e:Nat}:a≤b+c→b≤d+e→a≤d+(c+e):=Lin0.lin 0x400731aa8840e6ae210316a [a,b,c,d,e] rfl
theorem j292 {a b c d:Nat}:a+b+c≤d→a≤d:=Lin0.lin 0x5aa885a06016a [a,b,c,d] rfl
theorem j293 {a b c:Nat}:a+2+b≤c→a+1≤c:=Lin0.lin 0x580099510b00b008ca [a,b,c] rfl
theorem j294 {a:Nat}:a < 3→a≤2:=Lin0.lin 0x11195110cca [a] rfl
theorem j295 {a b c d:Nat}:a+b≤c→d≤b→a+d≤c:=Lin0.lin 0x5806aa215b6216016a [a,b,c,d] rfl
theorem j296 {a b:Nat}:a < 3→b=a→b≤2:=Lin0.lin 0x1119711a97110cca [a,b] rfl
theorem j297 {a b c d:Nat}:a≤b→c≤d+a→c≤d+b:=Lin0.lin 0x40b6b221029ac8856a [a,b,c,d] rfl
theorem j298 {a b:Nat}:10+a≤b→5≤b:=Lin0.lin 0x5653442b02946 [a,b] rfl
theorem j299 {a b:Nat}:a+10≤b→a+1+8≤b:=Lin0.lin 0xac08300265442b028ca [a,b] rfl
theorem j300 {a b:Nat}:a≤b+1+8→a≤b+10:=Lin0.lin 0x81465aa21020c00996a [a,b] rfl
theorem j301 {a b c:Nat}:a+(b+30)≤c→a+1+8≤c:=Lin0.lin 0x2c020c0099510b000f196a [a,b,c] rfl
theorem j302 {a b c:Nat}:a≤b+1+8→a≤b+(c+30):=Lin0.lin 0x20078cc5aa21020c00996a [a,b,c] rfl
theorem j303 {a b c:Nat}:a+(b+30)≤c→a+1≤c:=Lin0.lin 0x580099510b000f196a [a,b,c] rfl
theorem j304 {a b c:Nat}:a+4 * (b+1)≤c+5→a+4 * b≤c+4:=Lin0.lin 0x202198042c86544202998040026590ca [a,b,c] rfl
theorem j305 {a b c:Nat}:a+(2 * b+30)≤c→a+2+b≤c:=Lin0.lin 0xb00b008ca88580078c8588ca [a,b,c] rfl
theorem j306 {a b c:Nat}:a≤b+2+c→a≤b+(2 * c+30):=Lin0.lin 0x801e3218232d51081801196a [a,b,c] rfl
theorem j307 {a b c:Nat}:a+4 * (b+1)≤c+5→a+4 * b≤c+3:=Lin0.lin 0x201998042c86544202998040026590ca [a,b,c] rfl
theorem j308 {a b c:Nat}:a+(b+30)≤c→a+1+2+b≤c:=Lin0.lin 0xb00b008c0099510b000f196a [a,b,c] rfl
theorem j309 {a b c:Nat}:a≤b+1+2+c→a≤b+(c+30):=Lin0.lin 0x801e3316a8840c008c00996a [a,b,c] rfl
theorem j310 {a b c:Nat}:a+(b+30)≤c→a+2≤c:=Lin0.lin 0x580119510b000f196a [a,b,c] rfl
theorem j311 {a b c:Nat}:a+4 * (b+1)≤c+5→a+4 * 0≤c+3:=Lin0.lin 0x4033300801886544202998040026590ca [a,b,c] rfl
theorem j312 {a b c:Nat}:a+(b+30)≤c→a+3+2+2 * 10≤c:=Lin0.lin 0xb00851846008c0199510b000f196a [a,b,c] rfl
theorem j313 {a b:Nat}:a≤b+3+2+2 * 10→a≤b+25:=Lin0.lin 0x20c996a8840851846008c01996a [a,b] rfl
theorem j314 {a:Nat}:a+3≤a+25:=Lin0.lin 0x1064ca00cca [a] rfl
theorem j315 {a b c d:Nat}:a+(2 * b+30)≤c→d≤a+25→d+1+b≤c:=Lin0.lin 0x580580266c420c994d88580078c8588ca [a,b,c,d] rfl
theorem j316 {a b c d e:Nat}:a+(2 * b+30)≤c→d≤a+25→e≤d+1+b→e+1+b≤c:=Lin0.lin 0xb00b004ce8840b004cd74420c994d88580078c8588ca [a,b,c,d,e] rfl
theorem j317 {a b c d e:Nat}:a+b≤c→c≤d→d≤e→a≤e:=Lin0.lin 0x172a21736216b2216016a [a,b,c,d,e] rfl
theorem j318 {a b c d e:Nat}:a≤b+1+c→b≤d+1+c→d≤e+25→a≤e+(2 * c+30):=Lin0.lin 0x801e321823395108326736210300133571081800996a [a,b,c,d,e] rfl
theorem j319 {a b c d:Nat}:a+(2 * b+30)≤c→d≤a+2+b→d+b≤c:=Lin0.lin 0x2c02db1081601194d88580078c8588ca [a,b,c,d] rfl
theorem j320 {a b c d:Nat}:a+b≤c→c≤d→a≤d:=Lin0.lin 0x16aa216b2216016a [a,b,c,d] rfl
theorem j321 {a b c d:Nat}:a≤b+2+c→d≤a+c→d≤b+(2 * c+30):=Lin0.lin 0x20078c8608cb6c420629b1081801196a [a,b,c,d] rfl
theorem j322 {a b:Nat}:1000000 < a→b≤9500→b < a:=Lin0.lin 0x252e2100128e1d711281e84807 [a,b] rfl
theorem j323 {a:Nat}:a≤9500→a < 100000:=Lin0.lin 0x200c3501d5108009470ea [a] rfl
theorem j324 {a b c d:Nat}:1000000 < a→b=c→c≤d→d≤9500→b < a:=Lin0.lin 0x252e2100128e1db10b5911b1711281e84807 [a,b,c,d] rfl
theorem j325 {a b c:Nat}:a=b→b≤c→c≤9500→a < 100000:=Lin0.lin 0x200c3501d5108009470ec8858b88d6a [a,b,c] rfl
theorem j326:317+2≤319:=Lin0.lin 0x80004fce011800027a7 [] rfl
theorem j327 {a b:Nat}:1000000 < a→b≤9400→b < a:=Lin0.lin 0x252e2100125c1d711281e84807 [a,b] rfl
theorem j328 {a:Nat}:a≤304→a≤311:=Lin0.lin 0x100009b9d51080004c0ea [a] rfl
theorem j329 {a:Nat}:a≤9400→a≤9500:=Lin0.lin 0x100128e1d51080092e0ea [a] rfl
theorem j330 {a:Nat}:a≤2+3 * 3→a≤64:=Lin0.lin 0x400008075442040cc3308ca [a] rfl
theorem j331 {a:Nat}:a≤5+4 * 3→a≤320:=Lin0.lin 0x400028075442040cc4314ca [a] rfl
theorem j332 {a:Nat}:a≤9400→a≤800000:=Lin0.lin 0x1061a801d51080092e0ea [a] rfl
theorem j333 {a b c:Nat}:a≤9400→b≤a→c≤b→c≤1000000:=Lin0.lin 0x107a1201d910ad910a971080092e0ea [a,b,c] rfl
theorem j334 {a:Nat}:a≤9400→a≤1000000:=Lin0.lin 0x107a1201d51080092e0ea [a] rfl
theorem j335 {a b c:Nat}:a+(b+c)+1=a+(1+(b+(0+c))):=Lin0.lin 0x1800003006584ca004c00316a [a,b,c] rfl
theorem j336 {a b c d e:Nat}:a+(b+c)≤a+(d+(b+(e+c))):=Lin0.lin 0x4000018e5b5400316a [a,b,c,d,e] rfl
theorem j337 {a b:Nat}:a+b≤a+(b+1)+1:=Lin0.lin 0x1004c0004cb5016a [a,b] rfl
theorem j338 {a b:Nat}:a≤304→b≤a→b+6≤317:=Lin0.lin 0x80004f4e0319710a971080004c0ea [a,b] rfl
theorem j339 {a b:Nat}:a≤9400→b≤a→b≤9500:=Lin0.lin 0x100128e1d710a971080092e0ea [a,b] rfl
theorem j340 {a b:Nat}:a+1=b→a < b:=Lin0.lin 0x4b5446b004ca [a,b] rfl
theorem j341 {a b c:Nat}:a+1=b→b+c=a+(c+1):=Lin0.lin 0x3000266280c5bc6b004ca [a,b,c] rfl
theorem j342 {a b c:Nat}:a+1=b→a < c→b < c+1:=Lin0.lin 0x2004cc5c44c53c6b004ca [a,b,c] rfl
theorem j343 {a b:Nat}:0=a→a < b+1:=Lin0.lin 0x80132d4f1a806 [a,b] rfl
theorem j344 {a b c d e:Nat}:a+1=b→b+c=d→e < c+1→a+e≤d:=Lin0.lin 0x1681ca88801331d11b40c5c46b004ca [a,b,c,d,e] rfl
theorem j345 {a b c d:Nat}:a+1≤b→c+b≤d→c+(0+1)+a≤d:=Lin0.lin 0xb40a00026019910b40b6442b004ca [a,b,c,d] rfl
theorem j346 {a b:Nat}:a≤b+1→a≤b+2:=Lin0.lin 0x1008cb544200996a [a,b] rfl
theorem j347 {a b:Nat}:a+100 < b→a+65 < b:=Lin0.lin 0x258000008275444b00000190ea [a,b] rfl
theorem j348 {a b:Nat}:a=16777216→b≤1000→b≤a:=Lin0.lin 0x152e210001f41d6f1c000000ea [a,b] rfl
theorem j349:44 < 128:=Lin0.lin 0x20000401c0000587 [] rfl
theorem j350 {a b:Nat}:a=b→b≤1000000→a≤16777216:=Lin0.lin 0x18000001d51083d0900eb88d6a [a,b] rfl
theorem j351 {a b:Nat}:a+b≤1000000→a+b * 1≤16777216:=Lin0.lin 0xc000000e0404cb54420f42403816a [a,b] rfl
theorem j352 {a b:Nat}:a+104 < b→a+3+100 < b:=Lin0.lin 0x12c0000064380665444b000001a0ea [a,b] rfl
theorem j353 {a b:Nat}:a+12 < b→a+1+10 < b:=Lin0.lin 0x12c0a300265444b030ca [a,b] rfl
theorem j354 {a b:Nat}:a=b→b≤1000→a≤16777216:=Lin0.lin 0x18000001d5108000fa0eb88d6a [a,b] rfl
theorem j355 {a:Nat}:a≤1000000→a≤16777216:=Lin0.lin 0x18000001d51083d0900ea [a] rfl
theorem j356 {a b c d:Nat}:a < b→c=b→d=c→a < d:=Lin0.lin 0x9aa78d8d78d6c8896a [a,b,c,d] rfl
theorem j357 {a b c d:Nat}:a=b→b=c→¬d < c→a≤d:=Lin0.lin 0x5aa8958d88d8b88d6a [a,b,c,d] rfl
theorem j358 {a b:Nat}:a≤b→max 0 (min (↑a:Int) (↑b:Int))=(↑a:Int):=fun h=>by rw [Int.min_eq_left (Int.ofNat_le.mpr h),Int.max_eq_right (Int.natCast_nonneg _)]
theorem j359 {a:Nat}:a≤640→a≤4300:=Lin0.lin 0x10008661d5108000a00ea [a] rfl
theorem j360 {a:Nat}:¬a < 128→57 < a:=Lin0.lin 0x2500000e4f128000200ea [a] rfl
theorem j361 {a b c d e:Nat}:a < b→b=c→d=a→e=c→d≤e:=Lin0.lin 0x5cd78d8e88d4d88d8b8896a [a,b,c,d,e] rfl
theorem j362 {a b:Nat}:a < b→a+1≤b:=Lin0.lin 0x2b004ca8896a [a,b] rfl
theorem j363 {a b c d e:Nat}:a=b→b≤c→c=d→e=d→a≤e:=Lin0.lin 0x5ca78dae88dac8858b88d6a [a,b,c,d,e] rfl
theorem j364 {a:Nat}:a < 20→a < 30:=Lin0.lin 0x2f1951150ca [a] rfl
theorem j365 {a b c:Nat}:a+(b+1)≤c→a+1+b≤c:=Lin0.lin 0x160160099510b0000996a [a,b,c] rfl
theorem j366 {a b:Nat}:a+(b+1)=a+1+b:=Lin0.lin 0x302c01328000996a [a,b] rfl
theorem j367 {a:Nat}:0+a≤a:=Lin0.lin 0x2a02806 [a] rfl
theorem j368 {a b c d:Nat}:a=b→b=c→d=c→a=d:=Lin0.lin 0xdaa78d8d88d8b88d6a [a,b,c,d] rfl
theorem j369:0 < 2:=Lin0.lin 0x211806 [] rfl
theorem j370:1 < 2:=Lin0.lin 0x211826 [] rfl
theorem j371 {a b c d:Nat}:a+b=c→a=d→d≤c:=Lin0.lin 0x1635e36aa236016a [a,b,c,d] rfl
theorem j372 {a b c:Nat}:a < b→c=b→a < c:=Lin0.lin 0x98a78d6c8896a [a,b,c] rfl
theorem j373 {a b:Nat}:a≤2 * b→a+1+1≤2 * (b+1):=Lin0.lin 0x28004cb118013002654428588ca [a,b] rfl
theorem j374 {a b:Nat}:a≤2 * b→a+1≤2 * (b+1):=Lin0.lin 0x500099623002654428588ca [a,b] rfl
theorem j375 {a:Nat}:a≤100000→a+(a+1) * 2≤16777216:=Lin0.lin 0x18000001c08118013295308061a80ea [a] rfl
theorem j376 {a b:Nat}:a≤100000→b≤2 * a→1+b+1≤16777216:=Lin0.lin 0x30000003802602c268850a1197208061a80ea [a,b] rfl
theorem j377 {a b:Nat}:a≤100000→b≤2 * a→1+b≤16777216:=Lin0.lin 0x6000000702c268850a1197208061a80ea [a,b] rfl
theorem j400 {a b c d e f:Nat}:a+b * (c+1)+d < e→f=a+b→f+b * c+d < e:=fun h1 h2=>by rw [Nat.mul_add_one,Nat.add_comm (b * c),← Nat.add_assoc] at h1; rw [h2]; exact h1
theorem j401 {a b c:Nat}:a=16777216→b=2 - c→b≤a:=fun h1 h2=>by rw [h1,h2]; exact Nat.le_trans (Nat.sub_le 2 c) (by decide)
theorem j402 {a b:Nat}:a+65 < b→a+1+0 < b:=Lin0.lin 0x12c00300265444b00000104ea [a,b] rfl
theorem j403 {a b:Nat}:a+65 < b→a+1+min 0 0 < b:=fun h=>j402 h
theorem j404 {a:Nat}:(4 < (↑a:Int)↔4 < a):=Int.ofNat_lt (n:=4)
theorem j405 {a:Nat}:(7 < (↑a:Int)↔7 < a):=Int.ofNat_lt (n:=7)
theorem j406 {a:Nat}:((↑a:Int)=5↔a=5):=Int.ofNat_inj (n:=5)
theorem j407 {a:Nat}:((↑a:Int)=9↔a=9):=Int.ofNat_inj (n:=9)
theorem j408 {a b:Nat}:a+6+1≤b→b=b - 7+7:=fun h=>(Nat.sub_add_cancel (Nat.le_trans (Nat.le_add_left 7 a) h)).symm
theorem j409 {a b c d:Nat}:a < b→a=b→c≤d:=by lia
theorem j410 {a:Nat}:a=9→6≤a:=Lin0.lin 0x1518cf1a4ca [a] rfl
theorem j411 {a b c:Nat}:a < b→c=b→a≤c:=Lin0.lin 0x58a78d6c8896a [a,b,c] rfl
theorem j412 {a b:Nat}:a < b+1→a=5→(¬(a=5∧b=5))→6≤b:=fun h1 h2 h3=>Nat.lt_of_le_of_ne (h2 ▸ Nat.le_of_lt_succ h1) fun q=>h3 ⟨h2,q.symm⟩
theorem j413 {a b:Nat}:a=b→a≤b:=Lin0.lin 0x56a88d6a [a,b] rfl
theorem j414 {a:Nat}:a=9→a≤10:=Lin0.lin 0x1519511a4ca [a] rfl
theorem j415 {a:Nat}:a=5→a≤6:=Lin0.lin 0x131951194ca [a] rfl
theorem j416 {a:Nat}:a=5→a < 9:=Lin0.lin 0x249951194ca [a] rfl
theorem j417 {a b:Nat}:6≤a→b=5→b < a+1:=Lin0.lin 0x1002652e23299710a8c6 [a,b] rfl
theorem j418 {a:Nat}:(48≤48+a % 10∧48+a % 10≤57):=⟨Nat.le_add_right ..,Nat.add_le_add_left (Nat.le_of_lt_succ (Nat.mod_lt a (by decide))) 48⟩
theorem j419 {a b c:Nat}:0 * a+(b+c - b)=c:=by rw [Nat.zero_mul,Nat.zero_add,Nat.add_sub_cancel_left]
theorem j420 {a b:Nat}:a / 10 * 10+(b+a % 10 - b)=a:=by rw [Nat.add_sub_cancel_left,Nat.mul_comm]; exact Nat.div_add_mod a 10
theorem j421 {a b c d:Nat}:a - b=c+d→b≤a→b+c+d=a:=fun h1 h2=>by rw [Nat.add_assoc,← h1,Nat.add_sub_cancel' h2]
theorem j422 {a b c:Nat}:a - b=c→b≤a→b+c=a:=fun h1 h2=>by rw [← h1,Nat.add_sub_cancel' h2]
theorem j423 {a b c:Nat}:a+b=c→b≤c - a:=fun h=>by rw [← h,Nat.add_sub_cancel_left]; exact Nat.le_refl b
theorem j424 {a b c d:Nat}:a - b=c+d→c≤a:=fun h=>Nat.le_trans (Nat.le_add_right c d) (h ▸ Nat.sub_le ..)
theorem j425 {a b:Nat}:(48≤a∧a≤b)→(a≠43∧a≠45):=fun h=>⟨fun q=>absurd h.1 (q ▸ by decide),fun q=>absurd h.1 (q ▸ by decide)⟩
theorem j426 {a c d e f:Nat}:c+d+1≤a→a < e→f≤c→f < e:=Lin0.lin 0x135d10add1135510a8013018b [a,c,d,e,f] rfl
theorem j427 {a b c d e f:Nat}:a - b=c+d+1→a < e→f≤c→f < e:=fun h1 h2 h3=>j426 (h1 ▸ Nat.sub_le ..) h2 h3
theorem j428 {a c d e:Nat}:c+d≤a→a≤e→c≤e:=Lin0.lin 0x16ae216aa215018b [a,c,d,e] rfl
theorem j429 {a b c d e:Nat}:a - b=c+d→a≤e→c≤e:=fun h1 h2=>j428 (h1 ▸ Nat.sub_le ..) h2
theorem j430 {a b c d e f g h i j:Nat}:(a=b∨a=c∨a=d∨a=e∨a=f∨a=g∨a=h∨a=i)→(a=b∨a=c∨a=d∨a=e∨a=f∨a=g∨a=h∨a=i∨a=j):=Or.imp_right <| Or.imp_right <| Or.imp_right <| Or.imp_right <| Or.imp_right <| Or.imp_right <| Or.imp_right Or.inl
theorem j431 {a:Int}:a < 0→a=-(↑(a.natAbs - 1+1):Int):=fun h=>by rw [Nat.sub_add_cancel (Int.natAbs_pos.mpr (Int.ne_of_lt h)),Int.ofNat_natAbs_of_nonpos (Int.le_of_lt h),Int.neg_neg]
theorem j432 {a:Nat}:-(↑(-(↑a:Int)).natAbs:Int)=-(↑a:Int):=by rw [Int.natAbs_neg]; rfl
theorem j433 {a b c d:Nat}:a+b+1+1+c+d=a+(b+(0+1)+(0+1)+(c+d)):=Lin0.lin 0x30000d60001300c0004c032d4068180098013016a [a,b,c,d] rfl
theorem j434 {a b c d:Nat}:(↑(a+b+1+1+c+d):Int)=(↑(a+(b+(0+1)+(0+1)+(c+d))):Int):=congrArg Int.ofNat j433
theorem j435 {a:Nat} {b:Int} {c d:Nat}:a=(-b).toNat→(¬(c=d∨0 < b∨b < -12))→a≤640:=fun h1 h2=>h1 ▸ Nat.le_trans (t12 h2) (by decide)
theorem j436 {a e:Nat}:a≤12→e+1+a≤e+1000:=Lin0.lin 0x800007d0758140099710b0ca [a,e] rfl
theorem j437 {a:Nat} {b:Int} {c d e:Nat}:a=(-b).toNat→(¬(c=d∨0 < b∨b < -12))→e+1+a≤e+1000:=fun h1 h2=>j436 (h1 ▸ t12 h2)
theorem j438 {a b c:Nat}:a - b=c→min c a=c:=fun h=>Nat.min_eq_left (h ▸ Nat.sub_le ..)
theorem j439 {a b c:Nat}:a - b=c→¬a≤b→a - c=b:=fun h1 h2=>by rw [← h1]; exact Nat.sub_sub_self (Nat.le_of_lt (Nat.not_le.mp h2))
theorem j440 {a c d e h:Nat}:c≤a→a≤4→d≤12→e=c→h+e+1+d≤h+1000:=Lin0.lin 0x400003e83b80c004c06ba235b62161991090ca8854b [a,c,d,e,h] rfl
theorem j441 {a:Nat} {b:Int} {c d e f g h:Nat}:a - (-b).toNat=c→a≤4→d=(-b).toNat→e=c→(¬(f=g∨0 < b∨b < -12))→h+e+1+d≤h+1000:=fun h1 h2 h3 h4 h5=>j440 (h1 ▸ Nat.sub_le ..) h2 (h3 ▸ t12 h5) h4
theorem j442 {a b c d:Nat}:a - b=c→d=c→¬a≤b→1≤d:=fun h1 h2 h3=>by rw [h2,← h1]; exact Nat.sub_pos_of_lt (Nat.not_le.mp h3)
theorem j443 {a b c d:Nat}:1≤a→b - c=a+d→c < b:=fun h1 h2=>Nat.sub_pos_iff_lt.mp (h2 ▸ Nat.le_trans h1 (Nat.le_add_right ..))
theorem j444 {a b c d e:Nat}:(a≤b∧b≤c∨b=d∨b=e∨b=68∨b=69)→(a≤b∧b≤c∨65≤b∧b≤90∨b=d∨b=e):=Or.imp_right fun h=>h.elim (fun h=>.inr (.inl h)) fun h=>h.elim (fun h=>.inr (.inr h)) fun h=>.inl (h.elim (fun h=>by subst h; decide) fun h=>by subst h; decide)
theorem j445 {a b c d e f g:Nat}:(a≤b∧b≤c∨d≤b∧b≤e)→(d≤b∧b≤e∨a≤b∧b≤c∨b=f∨b=g):=fun h=>h.elim (fun h=>.inr (.inl h)) .inl
theorem j446 {a b c:Nat}:(48≤a∧a≤b∨65≤a∧a≤c∨a=46∨a=45)→(a≠42∧a≠47):=fun h=>⟨tCh h (by decide) (by decide) (by decide),tCh h (by decide) (by decide) (by decide)⟩
theorem j447 {a:Nat}:(-1+(↑a:Int)).toNat=a - 1:=by rw [Int.add_comm]; exact Int.toNat_sub a 1
theorem j448 {a b c:Nat}:(a≤b∧b≤57∨c≤b∧b≤90∨b=46∨b=45)→b < 128:=fun h=>h.elim (fun h=>Nat.lt_of_le_of_lt h.2 (by decide)) fun h=>h.elim (fun h=>Nat.lt_of_le_of_lt h.2 (by decide)) fun h=>h.elim (fun h=>by subst h; decide) (fun h=>by subst h; decide)
theorem j449 {a b c d e f g:Nat}:(((a≤b→c < b)∧(d≤b→e < b))∧(f≤b→g < b))→(d≤b∧b≤e∨a≤b∧b≤c)→False:=fun h q=>q.elim (fun q=>absurd (h.1.2 q.1) (Nat.not_lt.mpr q.2)) (fun q=>absurd (h.1.1 q.1) (Nat.not_lt.mpr q.2))
theorem j450 {a:Int}:a≤1000→(0≤max a 0∧max a 0≤1000):=fun h=>⟨Int.le_max_right ..,Int.max_le.mpr ⟨h,by decide⟩⟩
theorem j451 {a:Int}:(max a 0).toNat=a.toNat:=by rw [← Int.toNat_eq_max]; exact Int.toNat_natCast _
theorem j452 {a:Int}:-20≤a→a≤24→a.natAbs≤24:=fun h1 h2=>Int.ofNat_le.mp ((Int.le_total 0 a).elim (fun q=>by rw [Int.natAbs_of_nonneg q]; exact h2) (fun q=>by rw [Int.ofNat_natAbs_of_nonpos q]; exact Int.le_trans (Int.neg_le_of_neg_le h1) (by decide)))
theorem j453 {a:Int} {b:Nat}:a < 0→((↑b:Int)≤-a↔b≤(-a).toNat):=fun h=>(Int.le_toNat (Int.neg_nonneg_of_nonpos (Int.le_of_lt h))).symm
theorem j454 {a b c:Nat}:a≤b→b≤12→c≤20→c+1+a≤1000000:=Lin0.lin 0x41e848070280133221a19910b0cb8856a [a,b,c] rfl
theorem j455 {a:Nat} {b:Int} {c d e:Nat}:a≤(-b).toNat→c≤20→(¬(d=e∨0 < b∨b < -12))→c+1+a≤1000000:=fun h1 h2 h3=>j454 h1 (t12 h3) h2
theorem j456 {a b c:Nat}:a≤b→min c a≤b:=fun h=>Nat.le_trans (Nat.min_le_right ..) h
theorem j457 {a b c:Nat}:a≤b→a - c≤b:=fun h=>Nat.le_trans (Nat.sub_le ..) h
theorem j458 {a:Nat} {b:Int} {c d:Nat}:a≤(-b).toNat→(¬(c=d∨0 < b∨b < -12))→(-b).toNat - a+a≤39:=fun h1 h2=>by rw [Nat.sub_add_cancel h1]; exact Nat.le_trans (t12 h2) (by decide)
theorem j459 {a b c:Nat}:b≤a→c≤a→a≤4→b+(c+1)≤40:=Lin0.lin 0x20000283800133172090ca8854c8854b [a,b,c] rfl
theorem j460 {a b:Nat}:a≤4→a - b+(a - (a - b)+1)≤40:=fun h=>j459 (Nat.sub_le ..) (Nat.sub_le ..) h
theorem j461 {a b:Int}:(0≤a∧a < b)→a.natAbs=a.toNat:=fun h=>by obtain ⟨n,rfl⟩:=Int.eq_ofNat_of_zero_le h.1; rfl
theorem j462 {a b c d:Nat}:5≤a→a≤b→b+c≤d→3≤d:=Lin0.lin 0x5a33442d031710ad510a8a6 [a,b,c,d] rfl
theorem j463 {a b c d:Nat}:5≤a→max a b+c≤d→3≤d:=fun h1 h2=>j462 h1 (Nat.le_max_left ..) h2
theorem j464 {a b c d:Nat}:max a b+c≤d+c→a≤d+1:=fun h=>Nat.le_succ_of_le (Nat.le_trans (Nat.le_max_left ..) (Nat.le_of_add_le_add_right h))
theorem j465 {a b c d e:Nat}:max a (max b c)+d≤e+d→b≤e:=fun h=>Nat.le_trans (Nat.le_trans (Nat.le_max_left ..) (Nat.le_max_right ..)) (Nat.le_of_add_le_add_right h)
theorem j466 {a b c d e:Nat}:max a (max b c)+d≤e+d→c≤e:=fun h=>Nat.le_trans (Nat.le_trans (Nat.le_max_right ..) (Nat.le_max_right ..)) (Nat.le_of_add_le_add_right h)
theorem j467 {a b:Nat}:a+1≤b→b - (a+1)+1=b - a:=fun h=>Nat.sub_add_cancel (Nat.sub_pos_of_lt h)
theorem j468 {a:Nat}:0 < a→a % 10=0→0 < a / 10:=fun h1 h2=>Nat.div_pos (Nat.le_of_dvd h1 (Nat.dvd_of_mod_eq_zero h2)) (by decide)
theorem j469 {a:Nat} {b:Int}:a % 10≠0→a=0→b=0:=fun h1 h2=>absurd (by rw [h2]) h1
theorem j470 {a:Nat}:a < 2→(1 - 2 * (↑a:Int)).natAbs=1:=fun h=>(Nat.le_one_iff_eq_zero_or_eq_one.mp (Nat.le_of_lt_succ h)).elim (fun e=>by subst e; rfl) (fun e=>by subst e; rfl)
theorem j471 {a b:Nat}:a≤2+b→a+1+1≤4+b:=Lin0.lin 0x40b218013002654420588ca [a,b] rfl
theorem j472 {a b:Nat}:a≤2+b→max 0 (max 0 (max (a+1) 0))+1≤4+b:=fun h=>by rw [Nat.zero_max,Nat.zero_max,Nat.max_zero]; exact j471 h
theorem j473 {a:Nat}:((↑a:Int) < 8↔a < 8):=Int.ofNat_lt (m:=8)
theorem j474 {a:Nat}:((↑a:Int)=12↔a=12):=Int.ofNat_inj (n:=12)
theorem j475 {a:Nat}:((↑a:Int)=13↔a=13):=Int.ofNat_inj (n:=13)
theorem j476 {a:Nat}:((↑a:Int)=14↔a=14):=Int.ofNat_inj (n:=14)
theorem j477 {a:Nat}:min 40 a≤1000:=Nat.le_trans (Nat.min_le_left ..) (by decide)
theorem j478 {a:Nat} {b c:Int}:a=16777216→b.natAbs≤a→c.natAbs≤a→(-1000000000 < b∧b < 1000000000∧-1000000000 < c∧c < 1000000000):=fun h1 h2 h3=>⟨(tAbs (h1 ▸ h2)).1,(tAbs (h1 ▸ h2)).2,tAbs (h1 ▸ h3)⟩
theorem j479 {a b c:Nat}:a+b=c→((↑c:Int) - (↑a:Int)).toNat=b:=fun h=>by subst h; exact (Int.toNat_sub ..).trans (Nat.add_sub_cancel_left ..)
theorem j480 {a b c:Nat}:a+1=b→((↑(a+c):Int) - (↑b:Int)).toNat=c - 1:=fun h=>by subst h; exact (Int.toNat_sub ..).trans (Nat.add_sub_add_left ..)
theorem j481 {a:Int} {b:Nat}:a.toNat < b→¬a < 0→(0≤a∧a < (↑b:Int)):=fun h1 h2=>⟨Int.not_lt.mp h2,(Int.toNat_lt (Int.not_lt.mp h2)).mp h1⟩
theorem j482 {a:Int} {b:Nat}:¬a.toNat < b→(0≤a→(↑b:Int)≤a):=fun h1 h2=>(Int.le_toNat h2).mp (Nat.not_lt.mp h1)
theorem j483 {a b:Int}:0≤a+b→a < 0→(0≤a+b∧a+b < b):=fun h1 h2=>⟨h1,by have:=Int.add_lt_add_right h2 b; rwa [Int.zero_add] at this⟩
theorem j484 {a b c d e:Nat}:a+b≤c→b=d→d=e→e≤c:=Lin0.lin 0x1639e3735e36ae216016a [a,b,c,d,e] rfl
theorem j485 {a:Int}:(0≤a∧a≤1000)→a.toNat≤16777216:=fun h=>Int.toNat_le.mpr (Int.le_trans h.2 (by decide))
theorem j486 {a b c d:Nat}:a+100 < b→c≤64→d≤c→a+d < b:=Lin0.lin 0x2581aa8858d88400008076444b00000190ea [a,b,c,d] rfl
theorem j487 {a b c d:Nat}:a+100 < b→c≤64→a+min d c < b:=fun h1 h2=>j486 h1 h2 (Nat.min_le_right ..)
theorem j488 {a b:Nat}:a < b→b+1 - (a+1) < b+1 - a:=fun h=>by rw [Nat.add_sub_add_right,Nat.succ_sub (Nat.le_of_lt h)]; exact Nat.lt_succ_self _
theorem j489 {a:Int} {b:Nat}:max 0 (min a (↑b:Int))=(↑(min a.toNat b):Int):=(Int.le_total 0 a).elim (fun q=>by obtain ⟨n,rfl⟩:=Int.eq_ofNat_of_zero_le q; rw [Int.toNat_natCast,Int.max_eq_right (Int.le_min.mpr ⟨q,Int.natCast_nonneg _⟩)]; exact (Nat.le_total n b).elim (fun r=>by rw [Int.min_eq_left (Int.ofNat_le.mpr r),Nat.min_eq_left r]) (fun r=>by rw [Int.min_eq_right (Int.ofNat_le.mpr r),Nat.min_eq_right r])) (fun q=>by rw [Int.min_eq_left (Int.le_trans q (Int.natCast_nonneg _)),Int.max_eq_left q,Int.toNat_of_nonpos q,Nat.zero_min]; rfl)
theorem j490 {a b:Int}:¬0≤a→max 0 (min (a+b) b)=(↑(a+b).toNat:Int):=fun h=>by rw [Int.min_eq_left (tNp (Int.le_of_lt (Int.not_le.mp h))),Int.max_comm]; exact (Int.toNat_eq_max _).symm
theorem j491 {a:Int} {b:Nat}:¬0≤a→(a+(↑b:Int)).toNat≤b:=fun h=>Int.toNat_le.mpr (tNp (Int.le_of_lt (Int.not_le.mp h)))
theorem j492 {a b:Int} {c d:Nat}:max 0 (min a b)=(↑c:Int)→¬d≤c→¬max 0 (min (↑d:Int) b) < (↑c:Int):=fun h1 h2=>Int.not_lt.mpr ((Int.le_total (d:Int) b).elim (fun q=>by rw [Int.min_eq_left q]; exact Int.le_trans (Int.ofNat_le.mpr (Nat.le_of_lt (Nat.not_le.mp h2))) (Int.le_max_right 0 _)) (fun q=>by rw [Int.min_eq_right q,← h1]; exact Int.max_le.mpr ⟨Int.le_max_left ..,Int.le_trans (Int.min_le_right ..) (Int.le_max_right ..)⟩))
theorem j493 {a b c:Nat}:¬a≤b→min b c≤a:=fun h=>Nat.le_trans (Nat.min_le_left ..) (Nat.le_of_lt (Nat.not_le.mp h))
theorem j494 {a:Nat}:0 < a→a - 1≠a:=fun h=>Nat.ne_of_lt (Nat.sub_one_lt_of_lt h)
theorem j495 {a:Int} {b c:Nat}:(0≤a∧a < (↑b:Int))→c=b→a < (↑c:Int):=fun h e=>e ▸ h.2
theorem j496 {a b:Int}:a < b→b - a=(↑(b - a).toNat:Int):=fun h=>(Int.toNat_of_nonneg (Int.sub_nonneg_of_le (Int.le_of_lt h))).symm
theorem j497 {a b:Int}:¬a < b→0=(↑(b - a).toNat:Int):=fun h=>by rw [Int.toNat_of_nonpos (Int.sub_nonpos_of_le (Int.not_lt.mp h))]; rfl
theorem j498 {a b:Nat}:a < b→b - a=b - (a+1)+1:=fun h=>(Nat.sub_add_cancel (Nat.sub_pos_of_lt h)).symm
end Mine
namespace Mine
set_option tactic.hygienic false
open PySem PySem.W PySem.Calls PyProof.Rows
theorem big {p:Prop} (h:∀ G:Prop,(p→G)→G):p:=h p id
set_option genSizeOfSpec false
set_option genSizeOf false
set_option genInjectivity false
inductive PV where
 | none
 | bool (b:Bool)
 | int (i:Int)
 | str (s:List Nat)
 | tup (l:List PV)
 | list (l:List PV)
 | loc (k:Nat)
 | tab (k:Nat)
inductive Out (α:Type) where
 | ok (a:α)
 | exc
 | stuck
noncomputable def Out.bind {α β:Type}:Out α→(α→Out β)→Out β
 | .ok a,f=>f a
 | .exc,_=>.exc
 | .stuck,_=>.stuck
noncomputable abbrev za7:=List (List PV)
noncomputable abbrev Env':=List (Option PV)
inductive BO where
 | add | sub | mul | div | mod | pow
 deriving DecidableEq
inductive CO where
 | eq | ne | lt | le | gt | ge | isin | notin | is | isnot
 deriving DecidableEq
inductive BI where
 | len | int | str | abs | max
 deriving DecidableEq
inductive ME where
 | append | pop | get | isalnum
 deriving DecidableEq
set_option genCtorIdx false
mutual
inductive PE where
 | bad
 | var (k:Nat)
 | cst (v:PV)
 | bin (o:BO) (a b:PE)
 | neg (a:PE)
 | not (a:PE)
 | bool (isAnd:Bool) (es:PEs)
 | cmp (o:CO) (a b:PE)
 | ite (t a b:PE)
 | call (f:Nat) (es:PEs)
 | bi (f:BI) (es:PEs)
 | me (m:ME) (o:PE) (es:PEs)
 | idx (a i:PE)
 | cut (a lo hi:PE)
 | tup (es:PEs)
 | lst (es:PEs)
inductive PEs where
 | nil
 | cons (e:PE) (r:PEs)
end
mutual
inductive PS where
 | bad
 | asg (k:Nat) (e:PE)
 | asgT (ks:List Nat) (e:PE)
 | put (o i e:PE)
 | aug (k:Nat) (o:BO) (e:PE)
 | iff (t:PE) (a b:PSs)
 | whl (t:PE) (b:PSs)
 | forr (k:Nat) (lo hi:PE) (b:PSs)
 | ret (e:PE)
 | raise (c:Nat) (es:PEs)
 | exp (e:PE)
 | cont
inductive PSs where
 | nil
 | cons (s:PS) (r:PSs)
end
set_option genCtorIdx true
inductive Fl where
 | next | cont | ret (v:PV)
noncomputable abbrev szL:Nat:=2 ^ 24
noncomputable def zi0 {α:Type} (σ:za7):Option α→Out (α × za7)
 | some v=>.ok (v,σ)
 | .none=>.stuck
noncomputable def zz1 (s:List Nat):Bool:=!s.isEmpty && s.all (fun c=>48≤c && c≤57) && s.length≤640
noncomputable def zd2 (s:List Nat):Nat:=s.foldl (fun a c=>a * 10+(c - 48)) 0
noncomputable def intText (i:Int):List Nat:=(toString i).toList.map Char.toNat
noncomputable def PV.i?:PV→Option Int
 | .none=>Option.none
 | .bool _=>Option.none
 | .int i=>Option.some i
 | .str _=>Option.none
 | .tup _=>Option.none
 | .list _=>Option.none
 | .loc _=>Option.none
 | .tab _=>Option.none
noncomputable def PV.s?:PV→Option (List Nat)
 | .none=>Option.none
 | .bool _=>Option.none
 | .int _=>Option.none
 | .str s=>some s
 | .tup _=>Option.none
 | .list _=>Option.none
 | .loc _=>Option.none
 | .tab _=>Option.none
noncomputable def addP (a b:PV):Option PV:=match a with
 | .none=>none
 | .bool _=>none
 | .int x=>b.i?.map fun y=>.int (x+y)
 | .str s=>b.s?.bind fun t=>if s.length+t.length≤szL then some (.str (s++t)) else none
 | .tup _=>none
 | .list _=>none
 | .loc _=>none
 | .tab _=>none
noncomputable def mulS (s:List Nat) (b:PV):Option PV:=match s with
 | []=>none
 | c::r=>match r with
  | []=>b.i?.bind fun y=>if 0≤y∧y≤1000 then some (.str (List.replicate y.toNat c)) else none
  | _::_=>none
noncomputable def mulP (a b:PV):Option PV:=match a with
 | .none=>none
 | .bool _=>none
 | .int x=>b.i?.bind fun y=>if x.natAbs < 2 ^ 63 then some (.int (x * y)) else none
 | .str s=>mulS s b
 | .tup _=>none
 | .list _=>none
 | .loc _=>none
 | .tab _=>none
noncomputable def binP (o:BO) (a b:PV):Option PV:=match o with
 | .add=>addP a b
 | .sub=>a.i?.bind fun x=>b.i?.map fun y=>.int (x - y)
 | .mul=>mulP a b
 | .div=>a.i?.bind fun x=>b.i?.bind fun y=>if y=10 then some (.int (Int.fdiv x y)) else none
 | .mod=>a.i?.bind fun x=>b.i?.bind fun y=>if 0 < y then some (.int (Int.fmod x y)) else none
 | .pow=>a.i?.bind fun x=>b.i?.bind fun y=>if x=10∧y=12 then some (.int 1000000000000) else none
noncomputable def yi1 (s:List Nat):List PV→Option Bool
 | []=>some false
 | .str t::r=>if s=t then some true else yi1 s r
 | _::_=>none
noncomputable def zn4:List PV→Bool
 | []=>true
 | .str _::r=>zn4 r
 | _::_=>false
noncomputable def eqP (a b:PV):Option Bool:=match a with
 | .none=>none
 | .bool _=>none
 | .int x=>b.i?.map fun y=>decide (x=y)
 | .str x=>b.s?.map fun y=>decide (x=y)
 | .tup _=>none
 | .list _=>none
 | .loc _=>none
 | .tab _=>none
noncomputable def ordP (f:Int→Int→Bool) (a b:PV):Option Bool:=a.i?.bind fun x=>b.i?.map fun y=>f x y
noncomputable def one? (s:List Nat):Option Nat:=match s with
 | []=>none
 | c::r=>match r with
  | []=>some c
  | _::_=>none
noncomputable def inStr (a:PV) (t:List Nat):Option Bool:=a.s?.bind fun s=>(one? s).map fun c=>t.contains c
noncomputable def inP (a b:PV):Option Bool:=match b with
 | .none=>none
 | .bool _=>none
 | .int _=>none
 | .str t=>inStr a t
 | .tup l=>a.s?.bind fun s=>if zn4 l then yi1 s l else none
 | .list _=>none
 | .loc _=>none
 | .tab _=>none
noncomputable def isNone:PV→Option Bool
 | .none=>some true
 | .bool _=>none
 | .int _=>none
 | .str _=>none
 | .tup _=>some false
 | .list _=>none
 | .loc _=>none
 | .tab _=>none
noncomputable def isP (a b:PV):Option Bool:=match b with
 | .none=>isNone a
 | .bool _=>none
 | .int _=>none
 | .str _=>none
 | .tup _=>none
 | .list _=>none
 | .loc _=>none
 | .tab _=>none
noncomputable def cmpP (o:CO) (a b:PV):Option Bool:=match o with
 | .eq=>eqP a b
 | .ne=>(eqP a b).map (!·)
 | .lt=>ordP (fun x y=>decide (x < y)) a b
 | .le=>ordP (fun x y=>decide (x≤y)) a b
 | .gt=>ordP (fun x y=>decide (y < x)) a b
 | .ge=>ordP (fun x y=>decide (y≤x)) a b
 | .isin=>inP a b
 | .notin=>b.s?.bind fun t=>(inStr a t).map (!·)
 | .is=>isP a b
 | .isnot=>(isP a b).map (!·)
noncomputable def zm5 (σ:za7):PV→Option Bool
 | .none=>none
 | .bool b=>some b
 | .int _=>none
 | .str _=>none
 | .tup _=>none
 | .list _=>none
 | .loc k=>(σ[k]?).map fun l=>!l.isEmpty
 | .tab _=>none
noncomputable def arg1 (l:List PV):Option PV:=match l with
 | []=>none
 | a::r=>match r with
  | []=>some a
  | _::_=>none
noncomputable def arg2 (l:List PV):Option (PV × PV):=match l with
 | []=>none
 | a::r=>(arg1 r).map fun b=>(a,b)
noncomputable def lenP (σ:za7):PV→Option PV
 | .none=>none
 | .bool _=>none
 | .int _=>none
 | .str s=>if s.length≤szL then some (.int s.length) else none
 | .tup _=>none
 | .list l=>if l.length≤szL then some (.int l.length) else none
 | .loc k=>(σ[k]?).map fun l=>.int l.length
 | .tab _=>none
noncomputable def biP (σ:za7) (f:BI) (l:List PV):Option PV:=match f with
 | .len=>(arg1 l).bind (lenP σ)
 | .int=>(arg1 l).bind fun a=>a.s?.bind fun s=>if zz1 s then some (.int (zd2 s)) else none
 | .str=>(arg1 l).bind fun a=>a.i?.bind fun i=>if i.natAbs < 10 ^ 100 then some (.str (intText i)) else none
 | .abs=>(arg1 l).bind fun a=>a.i?.map fun i=>.int i.natAbs
 | .max=>(arg2 l).bind fun p=>p.1.i?.bind fun x=>p.2.i?.map fun y=>.int (max x y)
noncomputable def zv6 (k:Int) (n:Nat):Option Nat :=
 if 0≤k then (if k.toNat < n then some k.toNat else none)
 else (if 0≤k+n then some (k+n).toNat else none)
noncomputable def chs (x:String):List Nat:=x.toList.map Char.toNat
noncomputable def zv7 (a b c:Int):PV:=.tup [.int a,.int b,.int c]
noncomputable def wh8:List (List Nat × PV):=[([42,42],zv7 9 10 9),([42],zv7 8 8 9),([47],zv7 8 8 9),([43],zv7 7 7 8),([45],zv7 7 7 8),([47,47],zv7 6 6 7),
 ([46,69,81,46],zv7 5 6 6),([46,78,69,46],zv7 5 6 6),([46,76,84,46],zv7 5 6 6),([46,76,69,46],zv7 5 6 6),([46,71,84,46],zv7 5 6 6),([46,71,69,46],zv7 5 6 6),
 ([46,65,78,68,46],zv7 3 3 4),([46,79,82,46],zv7 2 2 3),([46,69,81,86,46],zv7 1 1 2),([46,78,69,81,86,46],zv7 1 1 2)]
noncomputable def wk5:List (List Nat × PV):=[([43],.tup [.int 7,.int 8]),([45],.tup [.int 7,.int 8]),([46,78,79,84,46],.tup [.int 4,.int 5])]
noncomputable def priosT:List (List Nat × PV):=[([46,69,81,86,46],.int 1),([46,78,69,81,86,46],.int 1),([46,79,82,46],.int 2),([46,65,78,68,46],.int 3),
 ([46,69,81,46],.int 5),([46,78,69,46],.int 5),([46,76,84,46],.int 5),([46,76,69,46],.int 5),([46,71,84,46],.int 5),([46,71,69,46],.int 5),
 ([47,47],.int 6),([43],.int 7),([45],.int 7),([42],.int 8),([47],.int 8),([42,42],.int 9)]
noncomputable def tabs:List (List (List Nat × PV)):=[wh8,wk5,priosT]
noncomputable def tabP (k:Nat) (s:List Nat):Option PV:=(tabs[k]?).bind fun l=>l.lookup s
noncomputable def idxL (l:List PV) (k:Int):Option PV:=if k.natAbs < 2 ^ 62 then (zv6 k l.length).bind (l[·]?) else none
noncomputable def idxP (σ:za7) (a i:PV):Option PV:=match a with
 | .none=>none
 | .bool _=>none
 | .int _=>none
 | .str s=>i.i?.bind fun k=>if k.natAbs < 2 ^ 62 then (zv6 k s.length).bind fun i=>(s[i]?).map fun c=>.str [c] else none
 | .tup l=>i.i?.bind (idxL l)
 | .list l=>i.i?.bind (idxL l)
 | .loc j=>i.i?.bind fun k=>if k.natAbs < 2 ^ 62 then (σ[j]?).bind fun l=>(zv6 k l.length).bind (l[·]?) else none
 | .tab j=>i.s?.bind (tabP j)
noncomputable def bnd (k:Int) (n:Nat):Nat:=if 0≤k then min k.toNat n else (k+n).toNat
noncomputable def cutL {α:Type} (l:List α) (lo hi:Nat):List α:=(l.take hi).drop lo
noncomputable def wf4:PV→Option (Option Int)
 | .none=>some none
 | .bool _=>none
 | .int k=>some (some k)
 | .str _=>none
 | .tup _=>none
 | .list _=>none
 | .loc _=>none
 | .tab _=>none
noncomputable def lowOf (n:Nat):Option Int→Nat
 | none=>0
 | some i=>bnd i n
noncomputable def ys1 (n:Nat):Option Int→Nat
 | none=>n
 | some i=>bnd i n
noncomputable def cutP (a lo hi:PV):Option PV:=a.s?.bind fun s=>if s.length≤szL then (wf4 lo).bind fun a=>(wf4 hi).map fun b=>.str (cutL s (lowOf s.length a) (ys1 s.length b)) else none
noncomputable abbrev EV:=Env'→za7→Out (PV × za7)
noncomputable abbrev ET:=Env'→za7→Out (Bool × za7)
noncomputable def trOf (v:EV):ET:=fun env σ=>(v env σ).bind fun r=>zi0 r.2 (zm5 r.2 r.1)
noncomputable def wV (v:EV):EV × ET:=(v,trOf v)
noncomputable def appP (k:Nat) (v:PV) (σ:za7):Out (PV × za7):=match σ[k]? with
 | some l=>if l.length < szL then .ok (.none,σ.set k (l++[v])) else .stuck
 | none=>.stuck
noncomputable def popP (k:Nat) (σ:za7):Out (PV × za7):=match σ[k]? with
 | some l=>(match l.getLast? with
  | some v=>.ok (v,σ.set k l.dropLast)
  | none=>.stuck)
 | none=>.stuck
noncomputable def onO {α β:Type} (o:Option α) (f:α→Out β):Out β:=match o with
 | some a=>f a
 | none=>.stuck
noncomputable def PV.l?:PV→Option Nat
 | .none=>Option.none
 | .bool _=>Option.none
 | .int _=>Option.none
 | .str _=>Option.none
 | .tup _=>Option.none
 | .list _=>Option.none
 | .loc k=>some k
 | .tab _=>Option.none
noncomputable def PV.t?:PV→Option Nat
 | .none=>Option.none
 | .bool _=>Option.none
 | .int _=>Option.none
 | .str _=>Option.none
 | .tup _=>Option.none
 | .list _=>Option.none
 | .loc _=>Option.none
 | .tab k=>some k
noncomputable def nil? (l:List PV):Option Unit:=match l with
 | []=>some ()
 | _::_=>none
noncomputable def meP (m:ME) (r:PV) (l:List PV) (σ:za7):Out (PV × za7):=match m with
 | .append=>onO r.l? fun k=>onO (arg1 l) fun v=>appP k v σ
 | .pop=>onO r.l? fun k=>onO (nil? l) fun _=>popP k σ
 | .get=>onO r.t? fun k=>onO (arg2 l) fun p=>onO p.1.s? fun s=>onO p.2.i? fun d=>.ok ((tabP k s).getD (.int d),σ)
 | .isalnum=>onO r.s? fun s=>onO (nil? l) fun _=>onO (one? s) fun c=>if c < 128 then .ok (.bool ((48≤c && c≤57) || (65≤c && c≤90) || (97≤c && c≤122)),σ) else .stuck
noncomputable def yc2 (m:ME) (r:PV):Bool:=match m with
 | .append=>r.l?.isSome
 | .pop=>r.l?.isSome
 | .isalnum=>r.s?.isSome
 | .get=>r.t?.isSome
section
variable (C:Nat→List PV→za7→Out (PV × za7))
structure EVs where
 vals:Env'→za7→Out (List PV × za7)
 b:Bool→EV
 a:Bool→ET
 isNil:Bool
mutual
noncomputable def ev:PE→EV × ET
 | .bad=>wV fun _ _=>.stuck
 | .var k=>wV fun env σ=>zi0 σ (env.getD k none)
 | .cst v=>wV fun _ σ=>.ok (v,σ)
 | .bin o a b=>wV fun env σ=>((ev a).1 env σ).bind fun r=>((ev b).1 env r.2).bind fun q=>zi0 q.2 (binP o r.1 q.1)
 | .neg a=>wV fun env σ=>((ev a).1 env σ).bind fun r=>match r.1 with | .int i=>.ok (.int (-i),r.2) | _=>.stuck
 | .not a=>(fun env σ=>((ev a).1 env σ).bind fun r=>(zi0 r.2 (zm5 r.2 r.1)).bind fun q=>.ok (.bool (!q.1),q.2),
        fun env σ=>((ev a).2 env σ).bind fun r=>.ok (!r.1,r.2))
 | .bool c es=>((evs es).b c,(evs es).a c)
 | .cmp o a b=>wV fun env σ=>((ev a).1 env σ).bind fun r=>((ev b).1 env r.2).bind fun q=>zi0 q.2 ((cmpP o r.1 q.1).map PV.bool)
 | .ite t a b=>(fun env σ=>((ev t).2 env σ).bind fun r=>match r.1 with | true=>(ev a).1 env r.2 | false=>(ev b).1 env r.2,
          fun env σ=>((ev t).2 env σ).bind fun r=>match r.1 with | true=>(ev a).2 env r.2 | false=>(ev b).2 env r.2)
 | .call f es=>wV fun env σ=>((evs es).vals env σ).bind fun r=>C f r.1 r.2
 | .bi f es=>wV fun env σ=>((evs es).vals env σ).bind fun r=>zi0 r.2 (biP r.2 f r.1)
 | .me m o es=>wV fun env σ=>((ev o).1 env σ).bind fun r=>match yc2 m r.1 with | true=>((evs es).vals env r.2).bind fun q=>meP m r.1 q.1 q.2 | false=>.stuck
 | .idx a i=>wV fun env σ=>((ev a).1 env σ).bind fun r=>((ev i).1 env r.2).bind fun q=>zi0 q.2 (idxP q.2 r.1 q.1)
 | .cut a lo hi=>wV fun env σ=>((ev a).1 env σ).bind fun r=>((ev lo).1 env r.2).bind fun q=>((ev hi).1 env q.2).bind fun t=>zi0 t.2 (cutP r.1 q.1 t.1)
 | .tup es=>wV fun env σ=>((evs es).vals env σ).bind fun r=>.ok (.tup r.1,r.2)
 | .lst es=>wV fun env σ=>((evs es).vals env σ).bind fun r=>.ok (.loc r.2.length,r.2++[r.1])
noncomputable def evs:PEs→EVs
 | .nil=>{ vals:=fun _ σ=>.ok ([],σ),b:=fun _ _ _=>.stuck,a:=fun c _ σ=>.ok (c,σ),isNil:=true }
 | .cons e r =>
  {
   vals:=fun env σ=>((ev e).1 env σ).bind fun v=>((evs r).vals env v.2).bind fun vs=>.ok (v.1::vs.1,vs.2),
   b:=fun c env σ=>match (evs r).isNil with
    | true=>(ev e).1 env σ
    | false=>((ev e).1 env σ).bind fun v=>(zi0 v.2 (zm5 v.2 v.1)).bind fun t =>
      match (t.1 == c) with | true=>(evs r).b c env v.2 | false=>.ok v,
   a:=fun c env σ=>((ev e).2 env σ).bind fun t=>match (t.1 == c) with | true=>(evs r).a c env t.2 | false=>.ok (!c,t.2),
   isNil:=false }
end
noncomputable abbrev EX:=Env'→za7→Out (Fl × Env' × za7)
noncomputable def zj9 (T:ET) (B:EX):Nat→EX
 | 0,_,_=>.stuck
 | n+1,env,σ=>(T env σ).bind fun t=>match t.1 with
   | true=>(B env t.2).bind fun q=>(match q.1 with
     | .ret v=>.ok (.ret v,q.2.1,q.2.2)
     | _=>zj9 T B n q.2.1 q.2.2)
   | false=>.ok (.next,env,t.2)
noncomputable def forN (k:Nat) (B:EX):Nat→Int→EX
 | 0,_,env,σ=>.ok (.next,env,σ)
 | n+1,i,env,σ=>(B (env.set k (some (.int i))) σ).bind fun q=>match q.1 with
   | .ret v=>.ok (.ret v,q.2.1,q.2.2)
   | _=>forN k B n (i+1) q.2.1 q.2.2
theorem yc8 {T:ET} {B:EX} {n:Nat} {env:Env'} {σ:za7}:zj9 T B (n+1) env σ=(T env σ).bind fun t=>match t.1 with
   | true=>(B env t.2).bind fun q=>(match q.1 with
     | .ret v=>.ok (.ret v,q.2.1,q.2.2)
     | _=>zj9 T B n q.2.1 q.2.2)
   | false=>.ok (.next,env,t.2):=rfl
theorem yj4 {k:Nat} {B:EX} {n:Nat} {i:Int} {env:Env'} {σ:za7}:forN k B (n+1) i env σ=(B (env.set k (some (.int i))) σ).bind fun q=>match q.1 with
   | .ret v=>.ok (.ret v,q.2.1,q.2.2)
   | _=>forN k B n (i+1) q.2.1 q.2.2:=rfl
noncomputable def zq9:List Nat→List PV→Env'→Option Env'
 | [],[],env=>some env
 | k::ks,v::vs,env=>zq9 ks vs (env.set k (some v))
 | _,_,_=>none
noncomputable def ye7 (σ:za7):PV→Option (List PV)
 | .none=>none
 | .bool _=>none
 | .int _=>none
 | .str _=>none
 | .tup l=>some l
 | .list _=>none
 | .loc k=>(σ[k]?)
 | .tab _=>none
mutual
noncomputable def ex (N:Nat):PS→EX
 | .bad=>fun _ _=>.stuck
 | .asg k e=>fun env σ=>((ev C e).1 env σ).bind fun r=>.ok (.next,env.set k (some r.1),r.2)
 | .asgT ks e=>fun env σ=>((ev C e).1 env σ).bind fun r=>match (ye7 r.2 r.1).bind fun l=>zq9 ks l env with
   | some env'=>.ok (.next,env',r.2)
   | none=>.stuck
 | .put o i e=>fun env σ=>((ev C e).1 env σ).bind fun r=>((ev C o).1 env r.2).bind fun q=>((ev C i).1 env q.2).bind fun t=>match q.1,t.1 with
   | .loc j,.int k=>(match t.2[j]? with
    | some l=>if 0≤k∧k < l.length then .ok (.next,env,t.2.set j (l.set k.toNat r.1)) else .stuck
    | none=>.stuck)
   | _,_=>.stuck
 | .aug k o e=>fun env σ=>match env.getD k none with
   | some v=>((ev C e).1 env σ).bind fun r=>(match binP o v r.1 with
    | some q=>.ok (.next,env.set k (some q),r.2)
    | none=>.stuck)
   | none=>.stuck
 | .iff t a b=>fun env σ=>((ev C t).2 env σ).bind fun r=>match r.1 with | true=>exs N a env r.2 | false=>exs N b env r.2
 | .whl t b=>fun env σ=>zj9 (ev C t).2 (exs N b) N env σ
 | .forr k lo hi b=>fun env σ=>((ev C lo).1 env σ).bind fun r=>((ev C hi).1 env r.2).bind fun q=>match r.1,q.1 with
   | .int x,.int y=>if -1000000000 < x∧x < 1000000000∧-1000000000 < y∧y < 1000000000 then forN k (exs N b) (y - x).toNat x env q.2 else .stuck
   | _,_=>.stuck
 | .ret e=>fun env σ=>((ev C e).1 env σ).bind fun r=>.ok (.ret r.1,env,r.2)
 | .raise _ es=>fun env σ=>((evs C es).vals env σ).bind fun _=>.exc
 | .exp e=>fun env σ=>((ev C e).1 env σ).bind fun r=>match r.1 with | .none=>.ok (.next,env,r.2) | _=>.stuck
 | .cont=>fun env σ=>.ok (.cont,env,σ)
noncomputable def exs (N:Nat):PSs→EX
 | .nil=>fun env σ=>.ok (.next,env,σ)
 | .cons s r=>fun env σ=>(ex N s env σ).bind fun q=>match q.1 with
   | .next=>exs N r q.2.1 q.2.2
   | f=>.ok (f,q.2.1,q.2.2)
end
end
mutual
noncomputable def zh8:PV→Bool
 | .none=>true
 | .bool _=>true
 | .int _=>true
 | .str _=>true
 | .tup l=>zd0 l
 | .list l=>zd0 l
 | .loc _=>false
 | .tab _=>true
noncomputable def zd0:List PV→Bool
 | []=>true
 | v::r=>zh8 v && zd0 r
end
mutual
noncomputable def zp0 (n:Nat) (σ:za7):PV→Option PV
 | .none=>some .none
 | .bool b=>some (.bool b)
 | .int i=>some (.int i)
 | .str s=>some (.str s)
 | .tup l=>(zx2 n σ l).map .tup
 | .list l=>if zd0 l then some (.list l) else none
 | .loc k=>if n≤k then (match σ[k]? with | some l=>if zd0 l then some (.list l) else none | none=>none) else none
 | .tab k=>some (.tab k)
noncomputable def zx2 (n:Nat) (σ:za7):List PV→Option (List PV)
 | []=>some []
 | v::r=>(zp0 n σ v).bind fun w=>(zx2 n σ r).map (w::·)
end
structure FD where
 npar:Nat
 nloc:Nat
 code:PSs
noncomputable def flP:Fl→PV
 | .ret v=>v
 | _=>.none
noncomputable def zh3 (n:Nat) (f:Fl) (σ:za7):Out (PV × za7) :=
 match zp0 n σ (flP f) with
 | some v=>if (σ.take n).all zd0 then .ok (v,σ.take n) else .stuck
 | none=>.stuck
noncomputable def yr6 (C:Nat→List PV→za7→Out (PV × za7)) (N:Nat) (d:FD) (args:List PV) (σ:za7):Out (PV × za7) :=
 if args.length=d.npar then (exs C N d.code (args.map some++List.replicate (d.nloc - d.npar) none) σ).bind fun q=>zh3 σ.length q.1 q.2.2 else .stuck
structure CX where
 sc:Scope
 nm:List Str
 dn:List Str
 gc:List (Str × PV)
noncomputable def zw1 (X:CX) (x:Str):Bool:=X.sc.names.lookup x == some .globalImplicit && !(x == ("__debug__":Str))
noncomputable def slot (X:CX) (x:Str):Option Nat:=match X.nm.findIdx? (· == x) with
 | some k=>if X.sc.names.lookup x == some .local && !(x == ("__debug__":Str)) && X.nm[k]? == some x then some k else none
 | none=>none
noncomputable def cN (X:CX) (x:Str):Option PE:=match slot X x with
 | some k=>some (.var k)
 | none=>if zw1 X x then (X.gc.lookup x).map .cst else none
noncomputable def cO:Operator→Option BO
 | .Add=>some .add | .Sub=>some .sub | .Mult=>some .mul | .FloorDiv=>some .div | .Mod=>some .mod | .Pow=>some .pow
 | _=>none
noncomputable def cC:CmpOp→CO
 | .Eq=>.eq | .NotEq=>.ne | .Lt=>.lt | .LtE=>.le | .Gt=>.gt | .GtE=>.ge | .Is=>.is | .IsNot=>.isnot | .In=>.isin | .NotIn=>.notin
noncomputable def cBi (x:Str):Option BI :=
 if x == ("len":Str) then some .len else if x == ("int":Str) then some .int else if x == ("str":Str) then some .str
 else if x == ("abs":Str) then some .abs else if x == ("max":Str) then some .max else none
noncomputable def cMe (x:Str):Option ME :=
 if x == ("append":Str) then some .append else if x == ("pop":Str) then some .pop
 else if x == ("get":Str) then some .get else if x == ("isalnum":Str) then some .isalnum else none
noncomputable def cL (f:Expr→Option PE):List Expr→Option PEs
 | []=>some .nil
 | e::r=>(f e).bind fun a=>(cL f r).map fun b=>.cons a b
noncomputable def cOpt (f:Expr→Option PE):Option Expr→Option PE
 | none=>some (.cst .none)
 | some e=>f e
noncomputable def yj6 (e:Expr):Bool:=Nat.beq e.ctorIdx 16
noncomputable def ya2 (e:Expr):Bool:=Nat.beq e.ctorIdx 26
noncomputable def one1 {α:Type} (l:List α):Option α:=match l with
 | []=>none
 | a::r=>match r with
  | []=>some a
  | _::_=>none
noncomputable def nil1 {α:Type} (l:List α):Option Unit:=match l with
 | []=>some ()
 | _::_=>none
noncomputable def cK (k:Const):Option PE:=match k with
 | .int i=>some (.cst (.int i))
 | .str s=>if s.cps.toList.all (· < 128) then some (.cst (.str s.cps.toList)) else none
 | .none=>some (.cst .none)
 | .bool b=>some (.cst (.bool b))
 | _=>none
noncomputable def cUn (f:Expr→Option PE) (op:UnaryOp) (a:Expr):Option PE:=match op with
 | .USub=>(f a).map .neg
 | .Not=>(f a).map .not
 | _=>none
noncomputable def cCmp (f:Expr→Option PE) (l:Expr) (ops:List CmpOp) (rs:List Expr):Option PE :=
 (one1 ops).bind fun op=>(one1 rs).bind fun r=>(f l).bind fun a=>(f r).map fun b=>.cmp (cC op) a b
noncomputable def cCallN (X:CX) (f:Expr→Option PE) (x:Str) (args:List Expr):Option PE :=
 if zw1 X x then (cL f args).bind fun es=>(match X.dn.findIdx? (· == x) with
  | some k=>some (.call k es)
  | none=>if args.isEmpty then none else (cBi x).map fun b=>.bi b es) else none
noncomputable def cCallA (f:Expr→Option PE) (o:Expr) (m:Str) (ok:Bool) (args:List Expr):Option PE :=
 if ok then (cMe m).bind fun m=>(f o).bind fun o=>(cL f args).map fun es=>.me m o es else none
noncomputable def cCall (X:CX) (f:Expr→Option PE) (fn:Expr) (args:List Expr) (pos:Pos):Option PE:=match fn with
 | .Constant ..=>none
 | .Name x _=>cCallN X f x args
 | .BinOp ..=>none
 | .UnaryOp ..=>none
 | .BoolOp ..=>none
 | .Compare ..=>none
 | .IfExp ..=>none
 | .Call ..=>none
 | .Subscript ..=>none
 | .Tuple ..=>none
 | .List ..=>none
 | .Attribute o m apos=>cCallA f o m (!yj6 o && (apos.endLine == pos.line) && decide (args.length < 20)) args
 | .Slice ..=>none
 | _=>none
noncomputable def cCut (f:Expr→Option PE) (a i:Expr):Option PE:=match i with
 | .Constant ..=>none
 | .Name ..=>none
 | .BinOp ..=>none
 | .UnaryOp ..=>none
 | .BoolOp ..=>none
 | .Compare ..=>none
 | .IfExp ..=>none
 | .Call ..=>none
 | .Subscript ..=>none
 | .Tuple ..=>none
 | .List ..=>none
 | .Attribute ..=>none
 | .Slice lo hi st _=>(match st with
  | none=>(f a).bind fun a=>(cOpt f lo).bind fun lo=>(cOpt f hi).map fun hi=>.cut a lo hi
  | some _=>none)
 | _=>none
noncomputable def cSub (f:Expr→Option PE) (a i:Expr):Option PE :=
 if ya2 i then cCut f a i else (f a).bind fun a=>(f i).map fun i=>.idx a i
noncomputable def cE (X:CX):Nat→Expr→Option PE
 | 0,_=>none
 | n+1,e=>match e with
  | .Constant k _ _=>cK k
  | .Name x _=>cN X x
  | .BinOp l op r _=>(cO op).bind fun o=>(cE X n l).bind fun a=>(cE X n r).map fun b=>.bin o a b
  | .UnaryOp op a _=>cUn (cE X n) op a
  | .BoolOp op vs _=>if vs.isEmpty then none else (cL (cE X n) vs).map fun es=>.bool (op == .And) es
  | .Compare l ops rs _=>cCmp (cE X n) l ops rs
  | .IfExp t a b _=>(cE X n t).bind fun t=>(cE X n a).bind fun a=>(cE X n b).map fun b=>.ite t a b
  | .Call fn args kws pos=>(nil1 kws).bind fun _=>cCall X (cE X n) fn args pos
  | .Subscript a i _=>cSub (cE X n) a i
  | .Tuple es _ _=>if es.length≤1000 then (cL (cE X n) es).map .tup else none
  | .List es _=>if es.length≤1000 then (cL (cE X n) es).map .lst else none
  | .Attribute ..=>none
  | .Slice ..=>none
  | _=>none
noncomputable def zv9 (e:Expr):Option Str:=match e with
 | .Constant ..=>none
 | .Name x _=>some x
 | .BinOp ..=>none
 | .UnaryOp ..=>none
 | .BoolOp ..=>none
 | .Compare ..=>none
 | .IfExp ..=>none
 | .Call ..=>none
 | .Subscript ..=>none
 | .Tuple ..=>none
 | .List ..=>none
 | .Attribute ..=>none
 | .Slice ..=>none
 | _=>none
noncomputable def zw2 (X:CX):List Expr→Option (List Nat)
 | []=>some []
 | e::r=>(zv9 e).bind fun x=>(slot X x).bind fun k=>(zw2 X r).map (k::·)
noncomputable def zu6 (e:Expr):Bool:=Nat.beq e.ctorIdx 24 || Nat.beq e.ctorIdx 25
noncomputable def cSL (f:Stmt→Option PS):List Stmt→Option PSs
 | []=>some .nil
 | s::r=>(f s).bind fun a=>(cSL f r).map fun b=>.cons a b
noncomputable def cAsg (X:CX) (f:Expr→Option PE) (t e:Expr):Option PS:=match t with
 | .Constant ..=>none
 | .Name x _=>(slot X x).bind fun k=>(f e).map fun e=>.asg k e
 | .BinOp ..=>none
 | .UnaryOp ..=>none
 | .BoolOp ..=>none
 | .Compare ..=>none
 | .IfExp ..=>none
 | .Call ..=>none
 | .Subscript o i _=>if ya2 i then none else (f o).bind fun o=>(f i).bind fun i=>(f e).map fun e=>.put o i e
 | .Tuple ts _ _=>if zu6 e then none else (zw2 X ts).bind fun ks=>(f e).map fun e=>.asgT ks e
 | .List ..=>none
 | .Attribute ..=>none
 | .Slice ..=>none
 | _=>none
noncomputable def okAug (o:BO):Bool:=match o with
 | .add=>true
 | .sub=>true
 | .div=>true
 | _=>false
noncomputable def cAug (X:CX) (f:Expr→Option PE) (x:Str) (op:Operator) (e:Expr):Option PS :=
 (slot X x).bind fun k=>(cO op).bind fun o=>if okAug o then (f e).map fun e=>.aug k o e else none
noncomputable def cRng (f:Expr→Option PE) (l:List Expr):Option (PE × PE):=match l with
 | []=>none
 | a::r=>match r with
  | []=>(f a).map fun hi=>(.cst (.int 0),hi)
  | b::q=>match q with
   | []=>(f a).bind fun lo=>(f b).map fun hi=>(lo,hi)
   | _::_=>none
noncomputable def cFor (X:CX) (f:Expr→Option PE) (x:Str) (it:Expr) (b:Option PSs):Option PS:=match it with
 | .Constant ..=>none
 | .Name ..=>none
 | .BinOp ..=>none
 | .UnaryOp ..=>none
 | .BoolOp ..=>none
 | .Compare ..=>none
 | .IfExp ..=>none
 | .Call fn args kws _=>(nil1 kws).bind fun _=>(zv9 fn).bind fun g =>
  if zw1 X g && (g == ("range":Str)) && (X.dn.findIdx? (· == g)).isNone then (slot X x).bind fun k=>(cRng f args).bind fun p=>b.map fun b=>.forr k p.1 p.2 b else none
 | .Subscript ..=>none
 | .Tuple ..=>none
 | .List ..=>none
 | .Attribute ..=>none
 | .Slice ..=>none
 | _=>none
noncomputable def wa5 (X:CX) (f:Expr→Option PE) (e:Expr):Option PS:=match e with
 | .Constant ..=>none
 | .Name ..=>none
 | .BinOp ..=>none
 | .UnaryOp ..=>none
 | .BoolOp ..=>none
 | .Compare ..=>none
 | .IfExp ..=>none
 | .Call fn args kws _=>(nil1 kws).bind fun _=>(zv9 fn).bind fun c=>if zw1 X c then (cL f args).bind fun es =>
    (if c == ("LexFault":Str) && decide (args.length=2) then some (.raise 0 es) else if c == ("SyntaxFault":Str) && decide (args.length=1) then some (.raise 1 es) else none) else none
 | .Subscript ..=>none
 | .Tuple ..=>none
 | .List ..=>none
 | .Attribute ..=>none
 | .Slice ..=>none
 | _=>none
noncomputable def none1 {α:Type} (o:Option α):Option Unit:=match o with
 | none=>some ()
 | some _=>none
noncomputable def cS (X:CX):Nat→Stmt→Option PS
 | 0,_=>none
 | n+1,s=>match s with
  | .Assign ts e _=>(one1 ts).bind fun t=>cAsg X (cE X n) t e
  | .AugAssign t op e _=>(zv9 t).bind fun x=>cAug X (cE X n) x op e
  | .If t a b _=>(cE X n t).bind fun t=>(cSL (cS X n) a).bind fun a=>(cSL (cS X n) b).map fun b=>.iff t a b
  | .While t b o _=>(nil1 o).bind fun _=>(cE X n t).bind fun t=>(cSL (cS X n) b).map fun b=>.whl t b
  | .For t it b o _=>(nil1 o).bind fun _=>(zv9 t).bind fun x=>cFor X (cE X n) x it (cSL (cS X n) b)
  | .Return e _=>e.bind fun e=>(cE X n e).map .ret
  | .Raise e f _=>(none1 f).bind fun _=>e.bind fun e=>wa5 X (cE X n) e
  | .Expr e _=>(cE X n e).map .exp
  | .Continue _=>some .cont
  | .FunctionDef ..=>none
  | _=>none
noncomputable def nmOf (sc:Scope):List Str:=(sc.names.filter fun x=>x.2 == .local).map (·.1)
noncomputable def defsOf (p:Program):List (Str × Arguments × List Stmt × Scope):=p.main.body.filterMap fun s=>match s with
 | .Assign ..=>none
 | .AugAssign ..=>none
 | .If ..=>none
 | .While ..=>none
 | .For ..=>none
 | .Return ..=>none
 | .Raise ..=>none
 | .Expr ..=>none
 | .Continue ..=>none
 | .FunctionDef n a b _ _ _ sc _ _ _=>some (n,a,b,sc)
 | _=>none
noncomputable def ps:List (Str × Arguments × List Stmt × Scope):=defsOf PySem.Challenge.pw_no0268_01
noncomputable def dnames:List Str:=ps.map (·.1)
noncomputable def consts:List (Str × PV):=[
 ("LETTERS",.str (chs "ABCDEFGHIJKLMNOPQRSTUVWXYZ")),("DIGITS",.str (chs "0123456789")),
 ("DOTTED",.tup (([".EQ.",".NE.",".LT.",".LE.",".GT.",".GE.",".NOT.",".AND.",".OR.",".EQV.",".NEQV."]:List String).map fun x=>.str (chs x))),
 ("TRUTHS",.tup [.str (chs ".TRUE."),.str (chs ".FALSE.")]),("SIGNS",.str (chs "+-*/(),=:")),("MOST_NAME",.int 6),("MOST_DIGITS",.int 1000),
 ("PRIMARY",.int 10),("BINDS",.tab 0),("UNARY",.tab 1),("PRIORITIES",.tab 2),("EQUIVALENCE",.int 1),("NEGATION",.int 4),("RELATION",.int 5),("SUM",.int 7),("POWER",.int 9)]
noncomputable def cxOf (sc:Scope):CX:=⟨sc,nmOf sc,dnames,consts⟩
noncomputable def compD (d:Str × Arguments × List Stmt × Scope):Option FD:=(cSL (cS (cxOf d.2.2.2) 40) d.2.2.1).map fun c=>⟨d.2.1.args.length,(nmOf d.2.2.2).length,c⟩
end Mine
namespace Mine
set_option tactic.hygienic false
set_option genSizeOfSpec false
set_option genSizeOf false
set_option genInjectivity false
open PySem PySem.W PySem.Calls PyProof.Rows
noncomputable def At (base:Heap) (news:List (Addr × Obj)) (ls:List Addr) (a:Addr) (o:Obj):Prop:=((a,o)∈news∧a ∉ ls)∨base.get? a=some o
noncomputable abbrev tupO (vs:List Value) (n:Nat):Obj:={ cls:=.type "tuple",data:=.seq vs.toArray n }
noncomputable abbrev lstO (vs:List Value) (n:Nat):Obj:={ cls:=.type "list",data:=.seq vs.toArray n }
theorem nn {α:Type} {a:α} {p:Prop} (h:none=some a):p:=by cases h
theorem nb {p:Prop} (h:false=true):p:=by cases h
mutual
inductive RepV (base:Heap) (ta:Nat→Option Addr) (news:List (Addr × Obj)) (ls:List Addr):Value→PV→Prop
 | none:RepV base ta news ls .none .none
 | bool (b:Bool):RepV base ta news ls (.bool b) (.bool b)
 | int (i:Int) (t:Tok):RepV base ta news ls (.int i t) (.int i)
 | str (x:Str) (t:Tok) {s:List Nat}:x.cps.toList=s→(∀ c∈s,c < 128)→RepV base ta news ls (.str x t) (.str s)
 | tup {a:Addr} {vs:List Value} {n:Nat} {ds:List PV}:At base news ls a (tupO vs n)→RepA base ta news ls vs ds→RepV base ta news ls (.ref a) (.tup ds)
 | list {a:Addr} {vs:List Value} {n:Nat} {ds:List PV}:At base news ls a (lstO vs n)→RepA base ta news ls vs ds→RepV base ta news ls (.ref a) (.list ds)
 | loc {a:Addr} {k:Nat}:ls[k]?=some a→RepV base ta news ls (.ref a) (.loc k)
 | tab {a:Addr} {k:Nat}:ta k=some a→RepV base ta news ls (.ref a) (.tab k)
inductive RepA (base:Heap) (ta:Nat→Option Addr) (news:List (Addr × Obj)) (ls:List Addr):List Value→List PV→Prop
 | nil:RepA base ta news ls [] []
 | cons {v:Value} {vs:List Value} {d:PV} {ds:List PV}:RepV base ta news ls v d→RepA base ta news ls vs ds→RepA base ta news ls (v::vs) (d::ds)
end
inductive TupR (base:Heap) (ta:Nat→Option Addr) (news:List (Addr × Obj)) (ls:List Addr) (ds:List PV):Value→Prop
 | mk (a:Addr) (vs:List Value) (n:Nat) (hat:At base news ls a (tupO vs n)) (ra:RepA base ta news ls vs ds):TupR base ta news ls ds (.ref a)
inductive ListR (base:Heap) (ta:Nat→Option Addr) (news:List (Addr × Obj)) (ls:List Addr) (ds:List PV):Value→Prop
 | mk (a:Addr) (vs:List Value) (n:Nat) (hat:At base news ls a (lstO vs n)) (ra:RepA base ta news ls vs ds):ListR base ta news ls ds (.ref a)
theorem RepV.tupI {base:Heap} {ta:Nat→Option Addr} {news:List (Addr × Obj)} {ls:List Addr} {ds:List PV} {v:Value} (r:RepV base ta news ls v (.tup ds)):TupR base ta news ls ds v:=by
 cases r with | tup h k=>exact .mk _ _ _ h k
theorem RepV.listI {base:Heap} {ta:Nat→Option Addr} {news:List (Addr × Obj)} {ls:List Addr} {ds:List PV} {v:Value} (r:RepV base ta news ls v (.list ds)):ListR base ta news ls ds v:=by
 cases r with | list h k=>exact .mk _ _ _ h k
structure Grow (news:List (Addr × Obj)) (ls:List Addr) (news':List (Addr × Obj)) (ls':List Addr):Prop where
 keep:∀ p∈news,p.1 ∉ ls→p∈news'∧p.1 ∉ ls'
 live:∃ t,ls'=ls++t
theorem Grow.refl {news:List (Addr × Obj)} {ls:List Addr}:Grow news ls news ls:=⟨fun _ h n=>⟨h,n⟩,[],(List.append_nil _).symm⟩
theorem Grow.trans {n1 n2 n3:List (Addr × Obj)} {l1 l2 l3:List Addr} (x:Grow n1 l1 n2 l2) (y:Grow n2 l2 n3 l3):Grow n1 l1 n3 l3:=by
 refine ⟨fun p h n=>?_,?_⟩
 ·obtain ⟨h2,n2⟩:=x.keep p h n
  exact y.keep p h2 n2
 ·obtain ⟨t,rfl⟩:=x.live
  obtain ⟨u,rfl⟩:=y.live
  exact ⟨t++u,List.append_assoc ..⟩
section
variable {base:Heap} {ta:Nat→Option Addr} {news news':List (Addr × Obj)} {ls ls':List Addr}
theorem At.mono (g:Grow news ls news' ls') {a:Addr} {o:Obj} (h:At base news ls a o):At base news' ls' a o:=h.imp (fun h=>g.keep _ h.1 h.2) id
noncomputable def zs5 (o:Obj):Prop:=∃ vs n,o=tupO vs n∨o=lstO vs n
theorem RepV.gen {L:Bool} (hA:∀ a o,zs5 o→At base news ls a o→At base news' ls' a o) (hL:L=true→∀ (k:Nat) a,ls[k]?=some a→ls'[k]?=some a) {v:Value} {d:PV} (r:RepV base ta news ls v d):(L=false→zh8 d=true)→RepV base ta news' ls' v d:=by
 refine @RepV.rec base ta news ls (fun v d _=>(L=false→zh8 d=true)→RepV base ta news' ls' v d) (fun vs ds _=>(L=false→zd0 ds=true)→RepA base ta news' ls' vs ds)
  (fun _=>.none) (fun b _=>.bool b) (fun i t _=>.int i t) (fun x t {_} h k _=>.str x t h k) (fun h _ ih n=>.tup (hA _ _ ⟨_,_,.inl rfl⟩ h) (ih n)) (fun h _ ih n=>.list (hA _ _ ⟨_,_,.inr rfl⟩ h) (ih n)) (fun h n=>?_) (fun h _=>.tab h)
  (fun _=>.nil) (fun _ _ i1 i2 n=>.cons (i1 fun q=>(Bool.and_eq_true_iff.mp (n q)).1) (i2 fun q=>(Bool.and_eq_true_iff.mp (n q)).2)) v d r
 cases L with
 | true=>exact .loc (hL rfl _ _ h)
 | false=>exact nb (n rfl)
theorem RepA.gen {L:Bool} (hA:∀ a o,zs5 o→At base news ls a o→At base news' ls' a o) (hL:L=true→∀ (k:Nat) a,ls[k]?=some a→ls'[k]?=some a) {vs:List Value} {ds:List PV} (r:RepA base ta news ls vs ds):(L=false→zd0 ds=true)→RepA base ta news' ls' vs ds:=by
 induction vs generalizing ds with
 | nil=>cases r; exact fun _=>.nil
 | cons v vs ih=>cases r with | cons h r=>exact fun n=>.cons (h.gen hA hL fun q=>(Bool.and_eq_true_iff.mp (n q)).1) (ih r fun q=>(Bool.and_eq_true_iff.mp (n q)).2)
theorem ys7 (g:Grow news ls news' ls') (k:Nat) (a:Addr) (h:ls[k]?=some a):ls'[k]?=some a:=by
 obtain ⟨t,e⟩:=g.live
 rw [e,List.getElem?_append_left (List.getElem?_eq_some_iff.mp h).1]; exact h
theorem RepV.mono (g:Grow news ls news' ls') {v:Value} {d:PV} (r:RepV base ta news ls v d):RepV base ta news' ls' v d:=r.gen (L:=true) (fun _ _ _ h=>h.mono g) (fun _=>ys7 g) nofun
theorem RepA.mono (g:Grow news ls news' ls') {vs:List Value} {ds:List PV} (r:RepA base ta news ls vs ds):RepA base ta news' ls' vs ds:=r.gen (L:=true) (fun _ _ _ h=>h.mono g) (fun _=>ys7 g) nofun
theorem RepA.length {vs:List Value} {ds:List PV} (h:RepA base ta news ls vs ds):vs.length=ds.length:=by
 induction vs generalizing ds with
 | nil=>cases h; rfl
 | cons v vs ih=>cases h with | cons _ r=>rw [List.length_cons,List.length_cons,ih r]
theorem RepA.get {vs:List Value} {ds:List PV} (h:RepA base ta news ls vs ds) {k:Nat} {d:PV} (hk:ds[k]?=some d):∃ v,vs[k]?=some v∧RepV base ta news ls v d:=by
 induction vs generalizing ds k with
 | nil=>cases h; simp at hk
 | cons v vs ih =>
  cases h with
  | cons h r =>
   cases k with
   | zero=>simp at hk; subst hk; exact ⟨v,rfl,h⟩
   | succ k=>exact ih r (by simpa using hk)
theorem RepA.append {vs ws:List Value} {ds es:List PV} (h:RepA base ta news ls vs ds) (k:RepA base ta news ls ws es):RepA base ta news ls (vs++ws) (ds++es):=by
 induction vs generalizing ds with
 | nil=>cases h; exact k
 | cons v vs ih=>cases h with | cons h r=>exact .cons h (ih r)
theorem RepA.set {vs:List Value} {ds:List PV} (h:RepA base ta news ls vs ds) {v:Value} {d:PV} (hv:RepV base ta news ls v d) (k:Nat):RepA base ta news ls (vs.set k v) (ds.set k d):=by
 induction vs generalizing ds k with
 | nil=>cases h; exact .nil
 | cons w vs ih =>
  cases h with
  | cons h r =>
   cases k with
   | zero=>exact .cons hv r
   | succ k=>exact .cons h (ih r k)
theorem RepA.dropLast {vs:List Value} {ds:List PV} (h:RepA base ta news ls vs ds):RepA base ta news ls vs.dropLast ds.dropLast:=by
 induction vs generalizing ds with
 | nil=>cases h; exact .nil
 | cons w vs ih =>
  cases h with
  | cons h r =>
   cases r with
   | nil=>exact .nil
   | cons h2 r2=>exact .cons h (ih (.cons h2 r2))
theorem RepA.last {vs:List Value} {ds:List PV} (h:RepA base ta news ls vs ds) {d:PV} (hd:ds.getLast?=some d):∃ v,vs.getLast?=some v∧RepV base ta news ls v d:=by
 rw [List.getLast?_eq_getElem?] at hd
 obtain ⟨v,hv,r⟩:=h.get hd
 exact ⟨v,by rw [List.getLast?_eq_getElem?,h.length]; exact hv,r⟩
end
structure StoreOk (base:Heap) (ta:Nat→Option Addr) (news:List (Addr × Obj)) (ls:List Addr) (σ:za7):Prop where
 len:ls.length=σ.length
 nodup:ls.Nodup
 off:∀ a∈ls,base.get? a=none
 small:∀ l∈σ,l.length≤szL
 at':∀ (k:Nat) (a:Addr) (l:List PV),ls[k]?=some a→σ[k]?=some l→∃ vs n,(a,lstO vs n)∈news∧RepA base ta news ls vs l
theorem StoreOk.none {base:Heap} {ta:Nat→Option Addr} {news:List (Addr × Obj)}:StoreOk base ta news [] []:=⟨rfl,List.Pairwise.nil,fun a h=>(nomatch h),fun a h=>(nomatch h),fun k a l h=>nn h⟩
theorem env5 {k:Nat} {d:PV} {p:Prop} (h:([Option.none,Option.none,Option.none,Option.none,Option.none]:Env').getD k Option.none=some d):p:=by
 rcases k with _ | _ | _ | _ | _ | k <;> exact nn h
end Mine
namespace Mine
set_option tactic.hygienic false
open PySem PySem.W PySem.Calls PyProof.Rows
section
variable {prog:Program} {w:World} {A:Around} {E:Value→Shared→Prop} {s:Shared} {base:Heap} {ta:Nat→Option Addr} {n1 n2 news:List (Addr × Obj)} {l1 l2 ls:List Addr}
theorem str_eq_of {x y:Str} {a b:List Nat} (hx:x.cps.toList=a) (hy:y.cps.toList=b):(x == y)=decide (a=b):=by
 subst hx hy
 rw [← toList_beq]
 by_cases h:x.cps.toList=y.cps.toList
 ·rw [h]; simp
 ·rw [decide_eq_false h]; simpa using h
theorem zn0 {x y:Str}:(x++y).cps.toList=x.cps.toList++y.cps.toList:=by
 show (x.cps++y.cps).toList=_
 simp
theorem RepV.asInt {p:PV} {v:Value} {i:Int} (h:RepV base ta n1 l1 v p) (hp:p.i?=some i):∃ t,v=.int i t∧p=.int i:=by
 cases h with
 | int j t=>exact Option.some.inj hp ▸ ⟨t,rfl,rfl⟩
 | _=>exact nn hp
theorem RepV.asStr {p:PV} {v:Value} {a:List Nat} (h:RepV base ta n1 l1 v p) (hp:p.s?=some a):∃ x t,v=.str x t∧p=.str a∧x.cps.toList=a∧∀ c∈a,c < 128:=by
 cases h with
 | str x t hx hc=>exact Option.some.inj hp ▸ ⟨x,t,rfl,rfl,hx,hc⟩
 | _=>exact nn hp
theorem i?_of {p:PV} {i:Int} (hp:p.i?=some i):p=.int i:=by
 cases p with
 | int j=>exact congrArg PV.int (Option.some.inj hp)
 | _=>exact nn hp
theorem s?_of {p:PV} {a:List Nat} (hp:p.s?=some a):p=.str a:=by
 cases p with
 | str j=>exact congrArg PV.str (Option.some.inj hp)
 | _=>exact nn hp
theorem ob {α β:Type} {o:Option α} {f:α→Option β} {b:β} (h:o.bind f=some b):∃ a,o=some a∧f a=some b:=Option.bind_eq_some_iff.mp h
theorem om {α β:Type} {o:Option α} {f:α→β} {b:β} (h:o.map f=some b):∃ a,o=some a∧f a=b:=Option.map_eq_some_iff.mp h
theorem ifn {α:Type} {c:Prop} [Decidable c] {x:Option α} {b:α} (h:(if c then x else none)=some b):c∧x=some b:=by
 by_cases q:c
 ·rw [if_pos q] at h; exact ⟨q,h⟩
 ·rw [if_neg q] at h; cases h
theorem obC {α β:Type} {o:Option α} {f:α→Option β} {b:β} {G:Prop} (h:o.bind f=some b) (k:∀ a,o=some a→f a=some b→G):G:=(ob h).elim fun a e=>k a e.1 e.2
theorem omE {α β:Type} {o:Option α} {f:α→β} {b:β} {G:Prop} (h:o.map f=some b) (k:∀ a,o=some a→f a=b→G):G:=(om h).elim fun a e=>k a e.1 e.2
@[elab_as_elim] theorem omC {α β:Type} {o:Option α} {f:α→β} {b:β} {G:β→Prop} (h:o.map f=some b) (k:∀ a,o=some a→G (f a)):G b:=omE h fun a e q=>q ▸ k a e
theorem ifC {α:Type} {c:Prop} [Decidable c] {x:Option α} {b:α} {G:Prop} (h:(if c then x else none)=some b) (k:c→x=some b→G):G:=k (ifn h).1 (ifn h).2
theorem andC {a b:Bool} {G:Prop} (h:(a && b)=true) (k:a=true→b=true→G):G:=k (Bool.and_eq_true_iff.mp h).1 (Bool.and_eq_true_iff.mp h).2
theorem yx1 {α β:Type} {o:Out α} {f:α→Out β} {b:β} (h:o.bind f=.ok b):∃ a,o=.ok a∧f a=.ok b:=by
 cases o with
 | ok a=>exact ⟨a,rfl,h⟩
 | exc=>cases h
 | stuck=>cases h
theorem bokC {α β:Type} {o:Out α} {f:α→Out β} {b:β} {G:Prop} (h:o.bind f=.ok b) (k:∀ a,o=.ok a→f a=.ok b→G):G:=(yx1 h).elim fun a e=>k a e.1 e.2
theorem add_ok {p1 p2 p:PV} {v1 v2:Value} {Q:Value→Shared→Prop} (h1:RepV base ta n1 l1 v1 p1) (h2:RepV base ta n2 l2 v2 p2) (hp:addP p1 p2=some p)
  (h:∀ v tk,RepV base ta news ls v p→Q v { s with toks:=tk }):wpAny (model prog w) A (binaryOp .Add v1 v2) Q E s:=by
 cases h1 with
 | int i t =>
  obtain ⟨j,hj,e⟩:=om hp
  subst e
  obtain ⟨u,rfl,rfl⟩:=h2.asInt hj
  exact add_int (h _ _ (.int _ _))
 | str x t hx hxc =>
  refine obC hp fun b hb e=>?_
  refine ifC e fun hl e=>?_
  cases e
  refine big fun Gz hGz=>?_
  obtain ⟨y,u,rfl,rfl,hy,hyc⟩:=h2.asStr hb <;> refine hGz ?_
  refine PyProof.Rows.add_str (fun t' tk=>h _ _ (.str _ _ ?_ (fun c hc=>(List.mem_append.mp hc).elim (hxc c) (hyc c)))) ?_
  ·rw [zn0,hx,hy]
  ·have:=sizeLine_eq
   show x.cps.size+y.cps.size≤sizeLine
   rw [← Array.length_toList,← Array.length_toList,hx,hy]
   exact hl
 | _=>exact nn hp
theorem rep_key (x:Array Nat) (c:Nat) (hxe:x=#[c]):∀ (k:Nat) (acc:Array Nat),(List.foldl (fun x1 x2=>x1++x2) acc (List.replicate k x)).toList=acc.toList++List.replicate k c:=by
 intro k
 induction k with
 | zero=>intro acc; exact (List.append_nil _).symm
 | succ k ih =>
  intro acc
  rw [List.replicate_succ,List.foldl_cons,ih,hxe,List.replicate_succ]
  show (acc++#[c]).toList++_=_
  rw [Array.toList_append,List.append_assoc]; rfl
theorem mulS_ok {x:Str} {t:Tok} {c:Nat} {b:Int} {u:Tok} {Q:Value→Shared→Prop} (hx:x.cps.toList=[c]) (hc:c < 128) (hb:0≤b∧b≤1000)
  (h:∀ v tk,RepV base ta news ls v (.str (List.replicate b.toNat c))→Q v { s with toks:=tk }):wpAny (model prog w) A (binaryOp .Mult (.str x t) (.int b u)) Q E s:=by
 haveI hxl:x.length=1:=by
  show x.cps.size=1
  rw [← Array.length_toList,hx]; rfl
 have hxe:x.cps=#[c]:=by
  apply Array.toList_inj.mp
  rw [hx]
 have hc1:∀ d∈List.replicate b.toNat c,d < 128:=fun d hd=>by
  rw [List.eq_of_mem_replicate hd]; exact hc
 haveI hs:=sizeLine_eq
 haveI key:=rep_key x.cps c hxe b.toNat #[]
 refine P.mul_str ?_ ?_ ?_ ?_
 ·rw [decide_eq_false (by lia),decide_eq_false (by lia)]; rfl
 ·intro h1 _
  rw [hxl]
  haveI:b ≥ 1:=by exact Int.not_lt.mp h1
  haveI h3:(2 ^ 63 - 1:Int) / b ≥ 1:=by
   apply (Int.le_ediv_iff_mul_le (by exact Int.lt_of_add_one_le this)).mpr
   lia
  exact Int.not_lt_of_ge h3
 ·intro h1 _
  rw [hxl]
  unfold Builtin.Str.tooLong
  apply decide_eq_false
  lia
 ·by_cases h1:b < 1
  ·rw [if_pos h1]
   refine ⟨by decide,h _ _ (.str _ _ ?_ hc1)⟩
   haveI:b.toNat=0:=by lia
   rw [this]; rfl
  ·rw [if_neg h1]
   by_cases h2:b=1
   ·subst h2
    exact h _ _ (.str _ _ (by rw [hx]; rfl) hc1)
   ·rw [if_neg (by simp [h2,hxl])]
    refine ⟨?_,h _ _ (.str _ _ ?_ hc1)⟩
    ·show (List.foldl (fun x1 x2=>x1++x2) #[] (List.replicate b.toNat x.cps)).size≤sizeLine
     rw [← Array.length_toList,key]
     show (List.replicate b.toNat c).length≤_
     rw [List.length_replicate]
     lia
    ·exact key
theorem mul_ok {p1 p2 p:PV} {v1 v2:Value} {Q:Value→Shared→Prop} (h1:RepV base ta n1 l1 v1 p1) (h2:RepV base ta n2 l2 v2 p2) (hp:mulP p1 p2=some p)
  (h:∀ v tk,RepV base ta news ls v p→Q v { s with toks:=tk }):wpAny (model prog w) A (binaryOp .Mult v1 v2) Q E s:=by
 cases h1 with
 | int i t =>
  refine obC hp fun j hj e=>?_
  refine ifC e fun hl e=>?_
  cases e
  obtain ⟨u,rfl,rfl⟩:=h2.asInt hj
  exact PyProof.Rows.mul_int (h _ _ (.int _ _)) (IntMulOk.of_left (intBits_le_64 (by omega) (by omega)))
 | @str x t a hx hxc =>
  match a,hx,hxc,hp with
  | [c],hx,hxc,hp =>
   refine obC hp fun j hj e=>?_
   refine ifC e fun hl e=>?_
   cases e
   obtain ⟨u,rfl,rfl⟩:=h2.asInt hj
   exact mulS_ok hx (hxc c (.head _)) hl h
  | [],_,_,hp=>exact nn hp
  | _::_::_,_,_,hp=>exact nn hp
 | _=>exact nn hp
theorem bin_ok {o:BO} {op:Operator} {p1 p2 p:PV} {v1 v2:Value} {Q:Value→Shared→Prop} (ho:cO op=some o) (h1:RepV base ta n1 l1 v1 p1) (h2:RepV base ta n2 l2 v2 p2) (hp:binP o p1 p2=some p)
  (h:∀ v tk,RepV base ta news ls v p→Q v { s with toks:=tk }):wpAny (model prog w) A (binaryOp op v1 v2) Q E s:=by
 cases op with
 | Add=>cases ho; exact add_ok h1 h2 hp h
 | Mult=>cases ho; exact mul_ok h1 h2 hp h
 | Sub =>
  cases ho
  refine obC hp fun i hi hp=>?_
  obtain ⟨j,hj,e⟩:=om hp
  subst e
  obtain ⟨t,rfl,rfl⟩:=h1.asInt hi
  obtain ⟨u,rfl,rfl⟩:=h2.asInt hj
  exact sub_int (h _ _ (.int _ _))
 | Mod =>
  cases ho
  refine obC hp fun i hi hp=>?_
  refine obC hp fun j hj e=>?_
  refine ifC e fun hl e=>?_
  cases e
  obtain ⟨t,rfl,rfl⟩:=h1.asInt hi
  obtain ⟨u,rfl,rfl⟩:=h2.asInt hj
  exact PyProof.Rows.mod_int (by exact Ne.symm (Int.ne_of_lt hl)) (h _ _ (.int _ _))
 | Pow =>
  cases ho
  refine obC hp fun i hi hp=>?_
  refine obC hp fun j hj e=>?_
  refine ifC e fun hl e=>?_
  cases e
  obtain ⟨t,rfl,rfl⟩:=h1.asInt hi
  obtain ⟨u,rfl,rfl⟩:=h2.asInt hj
  obtain ⟨rfl,rfl⟩:=hl
  refine PyProof.Rows.pow_int (by decide) (by decide +kernel) ?_
  have e:(10:Int) ^ (12:Int).toNat=1000000000000:=by decide
  rw [e]
  exact h _ _ (.int _ _)
 | FloorDiv =>
  cases ho
  refine obC hp fun i hi hp=>?_
  refine obC hp fun j hj e=>?_
  refine ifC e fun hl e=>?_
  cases e
  obtain ⟨t,rfl,rfl⟩:=h1.asInt hi
  obtain ⟨u,rfl,rfl⟩:=h2.asInt hj
  subst hl
  exact PyProof.Rows.floordiv_int (by decide) (h _ _ (.int _ _))
 | _=>exact nn ho
theorem yt5 {x:Str} {a:List Nat} (hx:x.cps.toList=a):x=⟨a.toArray⟩:=by
 cases x; subst hx; simp
mutual
noncomputable def toD:PV→PyData
 | .none=>.none
 | .bool b=>.bool b
 | .int i=>.int i
 | .str s=>.str ⟨s.toArray⟩
 | .tup l=>.tuple (toDs l)
 | .list l=>.list (toDs l)
 | .loc _=>.none
 | .tab _=>.none
noncomputable def toDs:List PV→List PyData
 | []=>[]
 | d::ds=>toD d::toDs ds
end
mutual
noncomputable def zi9:PV→Bool
 | .none=>true
 | .bool _=>true
 | .int _=>true
 | .str _=>true
 | .tup l=>zq8 l
 | .list l=>zq8 l
 | .loc _=>false
 | .tab _=>false
noncomputable def zq8:List PV→Bool
 | []=>true
 | d::ds=>zi9 d && zq8 ds
end
theorem toD_s {s:List Nat}:toD (.str s)=.str ⟨s.toArray⟩:=rfl
theorem yd1 {h:Heap} (hg:∀ a o,At base news ls a o→h.get? a=some o) {v:Value} {d:PV} (r:RepV base ta news ls v d):zi9 d=true→∃ as,Reads h v (toD d) as :=
 @RepV.rec base ta news ls (fun v d _=>zi9 d=true→∃ as,Reads h v (toD d) as) (fun vs ds _=>zq8 ds=true→∃ as,ReadsAll h vs (toDs ds) as)
  (fun _=>⟨_,Reads.none⟩) (fun b _=>⟨_,Reads.bool b⟩) (fun i t _=>⟨_,Reads.int i t⟩) (fun x t {_} e _ _=>by show ∃ as,Reads h _ (.str _) as; rw [← yt5 e]; exact ⟨_,Reads.str x t⟩)
  (fun ha _ ih hp=>(ih hp).elim fun as q=>⟨as,reads_tuple_at (hg _ _ ha) rfl rfl q⟩) (fun ha _ ih hp=>(ih hp).elim fun as q=>⟨_,reads_list_at (hg _ _ ha) rfl rfl q⟩) (fun _ hp=>nb hp) (fun _ hp=>nb hp)
  (fun _=>⟨_,ReadsAll.nil⟩) (fun _ _ i1 i2 hp=>andC hp fun p1 p2=>(i1 p1).elim fun as q=>(i2 p2).elim fun bs p=>⟨_,ReadsAll.cons q p⟩) v d r
theorem yk5 {v:Value} {d:PV} (r:RepV base ta news ls v d):zi9 d=true→(toD d).canLay0=true:=by
 refine @RepV.rec base ta news ls (fun v d _=>zi9 d=true→(toD d).canLay0=true) (fun vs ds _=>zq8 ds=true→PyData.canLayAll0 (toDs ds)=true)
  (fun _=>rfl) (fun b _=>rfl) (fun i t _=>rfl) (fun x t {a} e hc _=>?_) (fun _ _ ih hp=>?_) (fun _ _ ih hp=>?_) (fun _ hp=>nb hp) (fun _ hp=>nb hp)
  (fun _=>rfl) (fun _ _ i1 i2 hp=>andC hp fun p1 p2=>?_) v d r
 ·show PyData.strOk ⟨a.toArray⟩=true
  unfold PyData.strOk
  rw [Array.all_eq_true_iff_forall_mem]
  intro c hcm
  haveI:=hc c (by simpa using hcm)
  exact decide_eq_true (by exact j17 this)
 ·show PyData.canLay0 (.tuple _)=true
  rw [PyData.canLay0]
  exact ih hp
 ·show PyData.canLay0 (.list _)=true
  rw [PyData.canLay0]
  exact ih hp
 ·show PyData.canLayAll0 (_::_)=true
  rw [PyData.canLayAll0,i1 p1,i2 p2]
  rfl
theorem lays_of {vs:List Value}:∀ {ds:List PV},RepA base ta news ls vs ds→zq8 ds=true→PyData.canLayAll0 (toDs ds)=true:=by
 induction vs with
 | nil=>intro ds r _; cases r; rfl
 | cons v vs ih =>
  intro ds r hp
  cases r with
  | cons h r =>
   refine andC hp fun p1 p2=>?_
   show PyData.canLayAll0 (_::_)=true
   rw [PyData.canLayAll0,yk5 h p1,ih r p2]
   rfl
theorem yv0 {l:List PV}:zn4 l=true→zq8 l=true∧PyData.depthAll (toDs l)=0:=by
 induction l with
 | nil=>exact fun _=>⟨rfl,rfl⟩
 | cons d r ih =>
  cases d with
  | str s =>
   intro h
   obtain ⟨p,q⟩:=ih h
   refine ⟨p,?_⟩
   show PyData.depthAll (.str _::toDs r)=0
   rw [PyData.depthAll,q]
   rfl
  | _=>exact fun h=>nb h
theorem wm5 {a:List Nat} {l:List PV} {b:Bool}:zn4 l=true→yi1 a l=some b→((toDs l).any fun y=>PyData.eqv y (.str ⟨a.toArray⟩))=b:=by
 induction l with
 | nil=>intro _ h; cases h; rfl
 | cons d r ih =>
  cases d with
  | str t =>
   intro ht h
   haveI ih:=ih ht
   replace h:(if a=t then some true else yi1 a r)=some b:=h
   show (PyData.eqv (.str ⟨t.toArray⟩) (.str ⟨a.toArray⟩) || (toDs r).any fun y=>PyData.eqv y (.str ⟨a.toArray⟩))=b
   rw [PyData.eqv]
   by_cases e:a=t
   ·rw [if_pos e] at h
    cases h
    rw [e,beq_self_eq_true]
    rfl
   ·rw [if_neg e] at h
    rw [ih h,beq_eq_false_iff_ne.mpr fun q=>e (congrArg (fun z:Str=>z.cps.toList) q).symm]
    rfl
  | _=>exact fun h=>nb h
theorem ibeq (a b:Int):(a == b)=decide (a=b):=by by_cases h:a=b <;> simp [h]
theorem one_of {a:List Nat} {c:Nat} (h:one? a=some c):a=[c]:=by
 match a,h with
 | [d],h=>exact congrArg (fun x=>[x]) (Option.some.inj h)
 | [],h=>exact nn h
 | _::_::_,h=>exact nn h
theorem eq_ok {p1 p2:PV} {b:Bool} {v1 v2:Value} (h1:RepV base ta news ls v1 p1) (h2:RepV base ta news ls v2 p2) (hp:eqP p1 p2=some b) :
  (∀ {Q:Value→Shared→Prop},Q (.bool b) s→wpAny (model prog w) A (compareOp .Eq v1 v2) Q E s)∧(∀ {Q:Value→Shared→Prop},Q (.bool (!b)) s→wpAny (model prog w) A (compareOp .NotEq v1 v2) Q E s):=by
 cases h1 with
 | int i t =>
  refine omC hp fun j hj=>?_
  obtain ⟨u,rfl,rfl⟩:=h2.asInt hj
  rw [← ibeq]
  exact ⟨fun h=>eq_int h,fun h=>ne_int h⟩
 | str x t hx hxc =>
  refine omC hp fun y hy=>?_
  obtain ⟨y,u,rfl,rfl,hy,_⟩:=h2.asStr hy
  rw [← str_eq_of hx hy]
  exact ⟨fun h=>PyProof.Rows.eq_str h,fun h=>PyProof.Rows.ne_str h⟩
 | _=>exact nn hp
theorem yz8 {f:Int→Int→Bool} {p1 p2:PV} {b:Bool} {v1 v2:Value} (h1:RepV base ta news ls v1 p1) (h2:RepV base ta news ls v2 p2) (hp:ordP f p1 p2=some b):∃ i t j u,v1=.int i t∧v2=.int j u∧b=f i j:=by
 refine obC hp fun i hi hp=>?_
 refine omE hp fun j hj e=>?_
 obtain ⟨t,rfl,rfl⟩:=h1.asInt hi
 obtain ⟨u,rfl,rfl⟩:=h2.asInt hj
 exact ⟨i,t,j,u,rfl,rfl,e.symm⟩
theorem wb7 {p1:PV} {b:Bool} {v1:Value} {y:Str} {u:Tok} {ys:List Nat} (h1:RepV base ta news ls v1 p1) (hy:y.cps.toList=ys) (hp:inStr p1 ys=some b) :
  (∀ {Q:Value→Shared→Prop},Q (.bool b) s→wpAny (model prog w) A (compareOp .In v1 (.str y u)) Q E s)∧(∀ {Q:Value→Shared→Prop},Q (.bool (!b)) s→wpAny (model prog w) A (compareOp .NotIn v1 (.str y u)) Q E s):=by
 refine obC hp fun a ha hp=>?_
 refine omE hp fun c hc e=>?_
 obtain ⟨x,t,rfl,rfl,hx,hxc⟩:=h1.asStr ha
 haveI e1:=yt5 hx
 subst e1
 rw [one_of hc]
 haveI:=StrLaws.found_one y c
 rw [hy,← List.contains_eq_mem,e] at this
 subst this
 exact ⟨fun h=>PyProof.Rows.in_str h,fun h=>PyProof.Rows.notIn_str h⟩
theorem is_ok {p1 p2:PV} {b:Bool} {v1 v2:Value} (h1:RepV base ta news ls v1 p1) (h2:RepV base ta news ls v2 p2) (hp:isP p1 p2=some b) :
  (∀ {Q:Value→Shared→Prop},Q (.bool b) s→wpAny (model prog w) A (compareOp .Is v1 v2) Q E s)∧(∀ {Q:Value→Shared→Prop},Q (.bool (!b)) s→wpAny (model prog w) A (compareOp .IsNot v1 v2) Q E s):=by
 cases h2 with
 | none =>
  cases h1 with
  | none=>cases hp; exact ⟨fun h=>is_none_none h,fun h=>isnot_none_none h⟩
  | tup _ _=>cases hp; exact ⟨fun h=>PyProof.Rows.is_none_ne (by intro e; cases e) h,fun h=>PyProof.Rows.isnot_none_ne (by intro e; cases e) h⟩
  | _=>exact nn hp
 | _=>exact nn hp
theorem cmp_ok {op:CmpOp} {p1 p2:PV} {b:Bool} {v1 v2:Value} {Q:Value→Shared→Prop} (hg:∀ a o,At base news ls a o→s.heap.get? a=some o) (hu:A.units+65 < cLine)
  (h1:RepV base ta news ls v1 p1) (h2:RepV base ta news ls v2 p2) (hp:cmpP (cC op) p1 p2=some b)
  (h:Q (.bool b) s):wpAny (model prog w) A (compareOp op v1 v2) Q E s:=by
 cases op with
 | Eq=>exact (eq_ok h1 h2 hp).1 h
 | NotEq =>
  obtain ⟨x,hx,e⟩:=om hp
  subst e
  exact (eq_ok h1 h2 hx).2 h
 | Lt =>
  obtain ⟨i,t,j,u,rfl,rfl,rfl⟩:=yz8 h1 h2 hp
  exact lt_int h
 | LtE =>
  obtain ⟨i,t,j,u,rfl,rfl,rfl⟩:=yz8 h1 h2 hp
  exact le_int h
 | Gt =>
  obtain ⟨i,t,j,u,rfl,rfl,rfl⟩:=yz8 h1 h2 hp
  exact gt_int h
 | GtE =>
  obtain ⟨i,t,j,u,rfl,rfl,rfl⟩:=yz8 h1 h2 hp
  exact ge_int h
 | Is=>exact (is_ok h1 h2 hp).1 h
 | IsNot =>
  obtain ⟨x,hx,e⟩:=om hp
  subst e
  exact (is_ok h1 h2 hx).2 h
 | In =>
  cases h2 with
  | str y u hy hyc=>exact (wb7 h1 hy hp).1 h
  | @tup a' vs n l ha r =>
   refine obC hp fun x hx hp2=>?_
   refine ifC hp2 fun ht hp3=>?_
   obtain ⟨x,t,rfl,rfl,hx,hxc⟩:=h1.asStr hx
   obtain ⟨pl,dp⟩:=yv0 ht
   obtain ⟨as,rc⟩:=yd1 hg (.tup ha r) pl
   obtain ⟨bs,rx⟩:=yd1 (base:=base) (ta:=ta) hg (.str x t hx hxc) rfl
   refine SeqAt.in_tuple_reads rc rx (lays_of r pl) (yk5 (base:=base) (ta:=ta) (news:=news) (ls:=ls) (.str x t hx hxc) rfl) ?_ ?_
   ·simp only [dp,toD_s,PyData.depth]; exact j403 hu
   ·rw [toD_s,wm5 ht hp3]; exact h
  | _=>exact nn hp
 | NotIn =>
  refine obC hp fun y hy hp=>?_
  obtain ⟨x,hx,e⟩:=om hp
  subst e
  obtain ⟨y,u,rfl,rfl,hy,_⟩:=h2.asStr hy
  exact (wb7 h1 hy hx).2 h
end
end Mine
namespace Mine
set_option tactic.hygienic false
set_option genSizeOfSpec false
set_option genSizeOf false
set_option genInjectivity false
open PySem PySem.W PySem.Calls PyProof.Rows
structure GC where
 prog:Program
 w:World
 KF:Frag
 p:Program
 loose:List Str
 mean:ExcName→Option Value
 mg:Str→Option Value
 mb:Str→Option Value
 base:Heap
 ta:Nat→Option Addr
 s₀:Shared
 fa:Nat→Addr
 ca:Nat→Addr
noncomputable def GC.st (Γ:GC) (h:Heap) (tk:Nat):Shared:={ Γ.s₀ with heap:=h,toks:=tk }
noncomputable def yk3:BI→Str
 | .len=>"len" | .int=>"int" | .str=>"str" | .abs=>"abs" | .max=>"max"
structure GC.Ok (Γ:GC):Prop where
 X:Γ.KF.In Γ.base
 T:Top Γ.p Γ.loose Γ.mean Γ.mg Γ.mb Γ.base
 gconst:∀ x pv,consts.lookup x=some pv→∃ v,nsIn Γ.KF mainGlobals x=some (some v)∧RepV Γ.base Γ.ta [] [] v pv
 defs:∀ x k,dnames.findIdx? (· == x)=some k→nsIn Γ.KF mainGlobals x=some (some (.ref (Γ.fa k)))
 defk:∀ x k,dnames.findIdx? (· == x)=some k→keepIn Γ.KF (.ref (Γ.fa k))=true
 nobi:∀ b,nsIn Γ.KF mainGlobals (yk3 b)=some none
 norange:nsIn Γ.KF mainGlobals "range"=some none
 tabs:∀ (k:Nat) a s,Γ.ta k=some a→(a == sysModules)=false∧∃ es n,Γ.KF.lookup a=some ⟨.type "dict",none,.dict es n,#[]⟩∧KeysLit Γ.w.params es.toList ∧
  (match tabP k s with
   | some pv=>∃ v,nsIn Γ.KF a ⟨s.toArray⟩=some (some v)∧RepV Γ.base Γ.ta [] [] v pv
   | none=>nsIn Γ.KF a ⟨s.toArray⟩=some none)
 excs:∀ i,i < 2→nsIn Γ.KF mainGlobals (if i=0 then "LexFault" else "SyntaxFault")=some (some (.ref (Γ.ca i)))
inductive FreshAt (h':Heap) (e:Addr) (cls:Value):Prop
 | mk (oe:Obj) (vs:Array Value) (a0:Value) (he:h'.get? e=some oe) (hc:oe.cls=cls) (hd:oe.data=.fields vs) (h0:vs[0]?=some a0) (h1:vs[1]?=some .none):FreshAt h' e cls
structure Fresh (h h':Heap) (e:Addr) (cls:Value):Prop where
 keeps:∀ b o,h.get? b=some o→h'.get? b=some o
 new:h.get? e=none
 there:FreshAt h' e cls
structure FC where
 cn:Str
 cs:Scope
 L:Addr
 a:Addr
 cd:Value
 outer:List Env
 g:Heap
 dp:Nat
 un:Nat
 gd:Option (List Code)
 A₀:Around
 nm:List Str
 news₀:List (Addr × Obj)
 ls₀:List Addr
 E:Value→Shared→Prop
 may:Prop
 own:Prop
 cells:List (Str × Addr)
noncomputable def FC.env (c:FC):Env:={ envOf c.cn c.cs c.L c.a c.cd with cells:=c.cells }
noncomputable def FC.A (c:FC):Around:={ handled:=none,depth:=c.dp,frames:=some (c.env::c.outer),guards:=c.gd,units:=c.un }
noncomputable def GC.isFault (Γ:GC) (cls:Value):Prop:=∃ i,i < 2∧cls=.ref (Γ.ca i)
inductive ExcNew (c:FC) (e:Addr) (h:Heap) (cls:Value) (news':List (Addr × Obj)):Prop
 | mk (own:c.own) (h₁:Heap) (m:Str→Option Value) (F:Fr c.g c.L h₁ m) (N:News c.g c.L h₁ news') (x:Fresh h₁ h e cls):ExcNew c e h cls news'
inductive ExcOld (Γ:GC) (c:FC) (e:Addr) (h:Heap) (cls:Value) (news':List (Addr × Obj)):Prop
 | mk (g₂:Heap) (m:Str→Option Value) (F:Fr c.g c.L g₂ m) (R:RaisedSN Γ.base g₂ (c.env::c.outer) e cls news' h) (U:g₂.UpToSlots h):ExcOld Γ c e h cls news'
inductive ExcF (Γ:GC) (c:FC) (e:Addr) (h:Heap):Prop
 | mk (cls:Value) (news':List (Addr × Obj)) (ls':List Addr) (gr:Grow c.news₀ c.ls₀ news' ls') (hf:Γ.isFault cls) (hc:ExcNew c e h cls news'∨ExcOld Γ c e h cls news'):ExcF Γ c e h
structure FC.Ok (Γ:GC) (c:FC):Prop where
 B:Below c.A₀ Γ.base c.outer c.g
 kind:c.cs.kind=.function
 nmnd:c.nm.Nodup
 hE:PassesOwn (model Γ.prog Γ.w) c.A c.env c.E
 hX:c.may→∀ e h tk,ExcF Γ c e h→c.E (.ref e) (Γ.st h tk)
 room:c.un+100 < cLine
 roomD:c.dp+10 < recursionLimit
inductive InvF (Γ:GC) (c:FC) (h:Heap) (env:Env') (news:List (Addr × Obj)) (ls:List Addr):Prop
 | mk (m:Str→Option Value) (F:Fr c.g c.L h m) (hm:∀ (k:Nat) x pv,c.nm[k]?=some x→env.getD k none=some pv→∃ v,m x=some v∧RepV Γ.base Γ.ta news ls v pv):InvF Γ c h env news ls
structure Inv (Γ:GC) (c:FC) (h:Heap) (env:Env') (σ:za7) (news:List (Addr × Obj)) (ls:List Addr):Prop where
 fr:InvF Γ c h env news ls
 N:News c.g c.L h news
 S:StoreOk Γ.base Γ.ta news ls σ
 G:Grow c.news₀ c.ls₀ news ls
noncomputable def Post {ρ α:Type} (R:List (Addr × Obj)→List Addr→ρ→α→Prop) (Γ:GC) (c:FC) (env:Env') (news:List (Addr × Obj)) (ls:List Addr) (Q:ρ→Shared→Prop):Out (α × za7)→Prop
 | .ok r=>∀ v h' tk' news' ls',Inv Γ c h' env r.2 news' ls'→R news' ls' v r.1→Grow news ls news' ls'→Q v (Γ.st h' tk')
 | .exc=>c.may
 | .stuck=>False
noncomputable abbrev RV (Γ:GC):List (Addr × Obj)→List Addr→Value→PV→Prop:=fun n l v d=>RepV Γ.base Γ.ta n l v d
noncomputable abbrev RL (Γ:GC):List (Addr × Obj)→List Addr→List Value→List PV→Prop:=fun n l v d=>RepA Γ.base Γ.ta n l v d
noncomputable abbrev RB:List (Addr × Obj)→List Addr→Bool→Bool→Prop:=fun _ _ v d=>v=d
noncomputable def SG {ρ α:Type} (R:List (Addr × Obj)→List Addr→ρ→α→Prop) (Γ:GC) (c:FC) (t:Sem ρ) (f:Env'→za7→Out (α × za7)):Prop :=
 ∀ env σ h tk news ls Q,Inv Γ c h env σ news ls→Post R Γ c env news ls Q (f env σ)→wpAny (model Γ.prog Γ.w) c.A t Q c.E (Γ.st h tk)
noncomputable abbrev SE (Γ:GC) (c:FC) (t:Sem Value) (f:EV):Prop:=SG (RV Γ) Γ c t f
noncomputable abbrev SB' (Γ:GC) (c:FC) (t:Sem Bool) (f:ET):Prop:=SG RB Γ c t f
noncomputable abbrev SL (Γ:GC) (c:FC) (t:Sem (List Value)) (f:Env'→za7→Out (List PV × za7)):Prop:=SG (RL Γ) Γ c t f
structure Apart (h:Heap) (news:List (Addr × Obj)) (h':Heap) (news':List (Addr × Obj)):Prop where
 keep:∀ b o,h.get? b=some o→b ∉ news.map (·.1)→h'.get? b=some o
 new:∀ p∈news',p.1∈news.map (·.1)∨h.get? p.1=none
noncomputable def ys2 (Γ:GC) (c:FC) (env:Env') (news:List (Addr × Obj)) (ls:List Addr) (h:Heap) (Q:Value→Shared→Prop):Out (PV × za7)→Prop
 | .ok r=>∀ v h' tk' news' ls',Inv Γ c h' env r.2 news' ls'→RepV Γ.base Γ.ta news' ls' v r.1→Grow news ls news' ls'→Apart h news h' news'→Q v (Γ.st h' tk')
 | .exc=>c.may
 | .stuck=>False
theorem Post.toS {Γ:GC} {c:FC} {env:Env'} {news:List (Addr × Obj)} {ls:List Addr} {h:Heap} {Q:Value→Shared→Prop} {o:Out (PV × za7)} (hp:Post (RV Γ) Γ c env news ls Q o):ys2 Γ c env news ls h Q o:=by
 cases o with
 | ok r=>exact fun v h' tk' n l I r g _=>hp v h' tk' n l I r g
 | exc=>exact hp
 | stuck=>exact hp
noncomputable def zn3 (Γ:GC) (c:FC) (C:Nat→List PV→za7→Out (PV × za7)):Prop :=
 ∀ f args env σ h tk news ls vs Q,Inv Γ c h env σ news ls→RepA Γ.base Γ.ta news ls vs args→ys2 Γ c env news ls h Q (C f args σ) →
  wpAny (model Γ.prog Γ.w) c.A (call (.ref (Γ.fa f)) vs) Q c.E (Γ.st h tk)
section
variable {Γ:GC} {c:FC} {C:Nat→List PV→za7→Out (PV × za7)}
theorem ldx {M:Model} {A:Around} {E:Value→Shared→Prop} {s:Shared} {g:Heap} {m:Str→Option Value} {x:Str} {pos:Pos} {v:Value} {Q:Value→Shared→Prop} (F:Fr g c.L s.heap m) (hv:m x=some v) (h:Q v s) (hk:c.cs.kind=.function)
  (hl:c.cs.names.lookup x=some .local) (hd:(x == ("__debug__":Str))=false):wpAny M A (eval (.Name x pos) c.env) Q E s:=wpAny_Name (wpAny_loadName_local (env:=c.env) hk hl F.ns hv h) hd
theorem ldnx {M:Model} {A:Around} {E:Value→Shared→Prop} {s:Shared} {g:Heap} {m:Str→Option Value} {x:Str} {v:Value} {Q:Value→Shared→Prop} (F:Fr g c.L s.heap m) (hv:m x=some v) (h:Q v s) (hk:c.cs.kind=.function)
  (hl:c.cs.names.lookup x=some .local):wpAny M A (loadName c.env x) Q E s:=wpAny_loadName_local (env:=c.env) hk hl F.ns hv h
theorem zz6 {M:Model} {A:Around} {E:Value→Shared→Prop} {s:Shared} {K:Frag} {mg mb:Str→Option Value} {p:Program} {loose:List Str} {g:Heap} {L:Addr} {m:Str→Option Value} {x:Str} {pos:Pos} {v:Value} {Q:Value→Shared→Prop} (F:Fr g L s.heap m) (X:K.In g) (T:TopRead p loose mg mb g)
  (e:nsIn K mainGlobals x=some (some v)) (h:Q v s) (hk:c.cs.kind=.function) (hx:c.cs.names.lookup x=some .globalImplicit) (hd:(x == ("__debug__":Str))=false):wpAny M A (eval (.Name x pos) c.env) Q E s :=
 nameG_K F X T e h rfl hk hx hd
theorem wm9 {M:Model} {A:Around} {E:Value→Shared→Prop} {s:Shared} {K:Frag} {mg mb:Str→Option Value} {p:Program} {loose:List Str} {g:Heap} {L:Addr} {m:Str→Option Value} {x:Str} {pos:Pos} {v:Value} {Q:Value→Shared→Prop} (F:Fr g L s.heap m) (X:K.In g) (T:TopRead p loose mg mb g)
  (e:nsIn K mainGlobals x=some none) (hv:bootBuiltins x=some v) (hn:x≠"__name__") (h:Q v s) (hk:c.cs.kind=.function) (hx:c.cs.names.lookup x=some .globalImplicit) (hd:(x == ("__debug__":Str))=false):wpAny M A (eval (.Name x pos) c.env) Q E s :=
 Calls.Name_function_global hk hx (Calls.loadGlobal_builtin (env:=c.env) (T.g.keeps F.keep) (mg_none_of X T.g e) (T.b.keeps F.keep) ((T.builtins x hn).trans hv) h) hd
theorem Inv.get (gok:Γ.Ok) (cok:c.Ok Γ) {h:Heap} {env:Env'} {σ:za7} {news:List (Addr × Obj)} {ls:List Addr} (I:Inv Γ c h env σ news ls) :
  ∀ a o,At Γ.base news ls a o→h.get? a=some o:=by
 intro a o ha
 rcases ha with ⟨hm,_⟩ | hb
 ·exact (I.N _ hm).1
 ·obtain ⟨m,F,_⟩:=I.fr
  exact F.keep _ _ (cok.B.stays _ _ hb)
theorem Inv.keeps {h h':Heap} {env:Env'} {σ:za7} {news:List (Addr × Obj)} {ls:List Addr} (I:Inv Γ c h env σ news ls) (k:∀ b o,h.get? b=some o→h'.get? b=some o) :
  Inv Γ c h' env σ news ls:=by
 obtain ⟨⟨m,F,hm⟩,N,S,G⟩:=I
 exact ⟨⟨m,F.grownK k,hm⟩,N.grown k,S,G⟩
theorem yk8 {news:List (Addr × Obj)} {ls:List Addr}:Grow [] [] news ls:=⟨fun _ h=>(nomatch h),ls,rfl⟩
section
variable {ρ α ρ' β:Type} {R:List (Addr × Obj)→List Addr→ρ→α→Prop} {R':List (Addr × Obj)→List Addr→ρ'→β→Prop} {env:Env'} {news n':List (Addr × Obj)} {ls l':List Addr}
theorem Post.grow {Q:ρ→Shared→Prop} {o:Out (α × za7)} (g:Grow news ls n' l') (hp:Post R Γ c env news ls Q o):Post R Γ c env n' l' Q o:=by
 cases o with
 | ok r=>exact fun v h' tk' n2 l2 I r g2=>hp v h' tk' n2 l2 I r (g.trans g2)
 | exc=>exact hp
 | stuck=>exact hp
theorem Post.bind {Q:ρ→Shared→Prop} {Q':ρ'→Shared→Prop} {o:Out (β × za7)} {f:β × za7→Out (α × za7)} (hp:Post R Γ c env news ls Q (o.bind f))
  (k:∀ r v h' tk' n' l',Inv Γ c h' env r.2 n' l'→R' n' l' v r.1→Grow news ls n' l'→Post R Γ c env n' l' Q (f r)→Q' v (Γ.st h' tk')):Post R' Γ c env news ls Q' o:=by
 cases o with
 | ok r=>exact fun v h' tk' n2 l2 I rr g=>k r v h' tk' n2 l2 I rr g (Post.grow g hp)
 | exc=>exact hp
 | stuck=>exact hp
theorem Post.lift {Q:ρ→Shared→Prop} {σ:za7} {o:Option α} (hp:Post R Γ c env news ls Q (zi0 σ o)):∃ a,o=some a∧Post R Γ c env news ls Q (.ok (a,σ)):=by
 cases o with
 | some a=>exact ⟨a,rfl,hp⟩
 | none=>exact hp.elim
theorem Post.liftC {Q:ρ→Shared→Prop} {σ:za7} {o:Option α} {Gz:Prop} (hp:Post R Γ c env news ls Q (zi0 σ o)) (k:∀ a,o=some a→Post R Γ c env news ls Q (.ok (a,σ))→Gz):Gz:=(Post.lift hp).elim fun a e=>k a e.1 e.2
end
theorem yx5 {env':Env}:SE Γ c (eval (.Constant .none k pos) env') (ev C (.cst .none)).1:=by
 intro env σ h tk news ls Q I hp
 exact wpAny_Constant_none (hp _ _ _ _ _ I .none Grow.refl)
theorem yw9 {env':Env} {b:Bool}:SE Γ c (eval (.Constant (.bool b) k pos) env') (ev C (.cst (.bool b))).1:=by
 intro env σ h tk news ls Q I hp
 exact wpAny_Constant_bool (hp _ _ _ _ _ I (.bool b) Grow.refl)
theorem ya8 {env':Env} {i:Int}:SE Γ c (eval (.Constant (.int i) k pos) env') (ev C (.cst (.int i))).1:=by
 intro env σ h tk news ls Q I hp
 exact wpAny_Constant_int (hp _ _ _ _ _ I (.int i _) Grow.refl)
theorem yi6 {env':Env} {x:Str} (hx:x.cps.toList.all (· < 128)=true):SE Γ c (eval (.Constant (.str x) k pos) env') (ev C (.cst (.str x.cps.toList))).1:=by
 intro env σ h tk news ls Q I hp
 exact wpAny_Constant_str (hp _ _ _ _ _ I (.str x _ rfl (fun d hd=>by simpa using List.all_eq_true.mp hx d hd)) Grow.refl)
theorem zz9 {X:CX} {x:Str} {k:Nat} (hk:slot X x=some k):X.sc.names.lookup x=some .local∧X.nm[k]?=some x∧(x == ("__debug__":Str))=false:=by
 unfold slot at hk
 split at hk
 ·split at hk
  ·rename_i hc
   cases hk
   simp only [Bool.and_eq_true,beq_iff_eq,Bool.not_eq_true'] at hc
   exact ⟨hc.1.1,hc.2,hc.1.2⟩
  ·cases hk
 ·cases hk
theorem zv8 (gok:Γ.Ok) (cok:c.Ok Γ) {X:CX} (hX:X.sc=c.cs∧X.nm=c.nm) {x:Str} {k:Nat} (hk:slot X x=some k):SE Γ c (eval (.Name x pos) c.env) (ev C (.var k)).1:=by
 intro env σ h tk news ls Q I hp
 obtain ⟨hl,hn,hd⟩:=zz9 hk
 rw [hX.1] at hl
 rw [hX.2] at hn
 replace hp:Post (RV Γ) Γ c env news ls Q (zi0 σ (env.getD k none)):=hp
 cases he:env.getD k none with
 | none=>rw [he] at hp; exact hp.elim
 | some pv =>
  rw [he] at hp
  obtain ⟨m,F,hm⟩:=I.fr
  obtain ⟨v,hv,r⟩:=hm k x pv hn he
  exact ldx (s:=Γ.st h tk) F hv (hp _ _ _ _ _ I r Grow.refl) cok.kind hl hd
theorem se_glob (gok:Γ.Ok) (cok:c.Ok Γ) {x:Str} {pv:PV} (hl:c.cs.names.lookup x=some .globalImplicit) (hd:(x == ("__debug__":Str))=false) (hc:consts.lookup x=some pv) :
  SE Γ c (eval (.Name x pos) c.env) (ev C (.cst pv)).1:=by
 intro env σ h tk news ls Q I hp
 obtain ⟨⟨m,F,hm⟩,N,S,G⟩:=id I
 obtain ⟨v,hv,r⟩:=gok.gconst x pv hc
 exact zz6 (s:=Γ.st h tk) F (gok.X.keeps cok.B.stays) (topRead_of (gok.T.keeps cok.B.stays)) hv (hp _ _ _ _ _ I (r.mono yk8) Grow.refl) cok.kind hl hd
theorem yt7 (gok:Γ.Ok) (cok:c.Ok Γ) {l r:Expr} {op:Operator} {o:BO} {pos:Pos} {fl fr:EV} (ho:cO op=some o) (hl:SE Γ c (eval l c.env) fl) (hr:SE Γ c (eval r c.env) fr) :
  SE Γ c (eval (.BinOp l op r pos) c.env) (fun env σ=>(fl env σ).bind fun r=>(fr env r.2).bind fun q=>zi0 q.2 (binP o r.1 q.1)):=by
 intro env σ h tk news ls Q I hp
 refine wpAny_BinOp (hl env σ h tk news ls _ I (Post.bind hp fun r v h1 tk1 n1 l1 I1 R1 g1 hp1=>?_))
 refine hr env r.2 h1 tk1 n1 l1 _ I1 (Post.bind hp1 fun q v2 h2 tk2 n2 l2 I2 R2 g2 hp2=>?_)
 refine Post.liftC hp2 fun pv hb hp3=>?_
 exact bin_ok (s:=Γ.st h2 tk2) ho (R1.mono g2) R2 hb fun v tk' rv=>hp3 v h2 tk' n2 l2 I2 rv Grow.refl
theorem se_cmp (gok:Γ.Ok) (cok:c.Ok Γ) {l r:Expr} {op:CmpOp} {pos:Pos} {fl fr:EV} (hm:behindInMarks op r=false) (hl:SE Γ c (eval l c.env) fl) (hr:SE Γ c (eval r c.env) fr) :
  SE Γ c (eval (.Compare l [op] [r] pos) c.env) (fun env σ=>(fl env σ).bind fun r=>(fr env r.2).bind fun q=>zi0 q.2 ((cmpP (cC op) r.1 q.1).map PV.bool)):=by
 intro env σ h tk news ls Q I hp
 refine wpAny_Compare1 (hm:=hm) (hl env σ h tk news ls _ I (Post.bind hp fun r v h1 tk1 n1 l1 I1 R1 g1 hp1=>?_))
 refine hr env r.2 h1 tk1 n1 l1 _ I1 (Post.bind hp1 fun q v2 h2 tk2 n2 l2 I2 R2 g2 hp2=>?_)
 refine Post.liftC hp2 fun pv hb hp3=>?_
 obtain ⟨b,hb',rfl⟩:=Option.map_eq_some_iff.mp hb
 refine cmp_ok (s:=Γ.st h2 tk2) (I2.get gok cok) ?_ (R1.mono g2) R2 hb' (hp3 _ h2 tk2 n2 l2 I2 (.bool b) Grow.refl)
 haveI:=cok.room
 show c.un+65 < cLine
 exact j347 this
theorem sb_cmp (gok:Γ.Ok) (cok:c.Ok Γ) {l r:Expr} {op:CmpOp} {pos:Pos} {fl fr:EV} {whole:Sem Value} (hm:behindInMarks op r=false) (hl:SE Γ c (eval l c.env) fl) (hr:SE Γ c (eval r c.env) fr) :
  SB' Γ c (isTrue (.Compare l [op] [r] pos) c.env whole) (trOf (fun env σ=>(fl env σ).bind fun r=>(fr env r.2).bind fun q=>zi0 q.2 ((cmpP (cC op) r.1 q.1).map PV.bool))):=by
 intro env σ h tk news ls Q I hp
 unfold trOf at hp
 haveI e:∀ (o:Out (PV × za7)) (f:PV × za7→Out (PV × za7)) (k:PV × za7→Out (Bool × za7)),(o.bind f).bind k=o.bind fun x=>(f x).bind k:=fun o f k=>by cases o <;> rfl
 rw [e] at hp
 refine wpAny_isTrue_Compare1 (hm:=hm) (hl env σ h tk news ls _ I (Post.bind hp fun r v h1 tk1 n1 l1 I1 R1 g1 hp1=>?_))
 rw [e] at hp1
 refine hr env r.2 h1 tk1 n1 l1 _ I1 (Post.bind hp1 fun q v2 h2 tk2 n2 l2 I2 R2 g2 hp2=>?_)
 cases hb:cmpP (cC op) r.1 q.1 with
 | none=>rw [hb] at hp2; exact hp2.elim
 | some b =>
  rw [hb] at hp2
  refine cmp_ok (s:=Γ.st h2 tk2) (I2.get gok cok) ?_ (R1.mono g2) R2 hb ?_
  ·haveI:=cok.room
   show c.un+65 < cLine
   exact j347 this
  ·exact wpAny_truthy_bool (hp2 b h2 tk2 n2 l2 I2 rfl Grow.refl)
theorem se_neg (gok:Γ.Ok) (cok:c.Ok Γ) {x:Expr} {pos:Pos} {f:EV} (hx:SE Γ c (eval x c.env) f) :
  SE Γ c (eval (.UnaryOp .USub x pos) c.env) (fun env σ=>(f env σ).bind fun r=>match r.1 with | .int i=>.ok (.int (-i),r.2) | _=>.stuck):=by
 intro env σ h tk news ls Q I hp
 refine wpAny_UnaryOp (hx env σ h tk news ls _ I (Post.bind hp fun r v h1 tk1 n1 l1 I1 R1 g1 hp1=>?_))
 obtain ⟨pv,σ1⟩:=r
 cases R1 with
 | int i t=>exact PyProof.Rows.neg_int (hp1 _ h1 _ n1 l1 I1 (.int _ _) Grow.refl)
 | _=>exact hp1.elim
theorem zx7 (gok:Γ.Ok) (cok:c.Ok Γ) {env:Env'} {σ:za7} {h:Heap} {tk:Nat} {news:List (Addr × Obj)} {ls:List Addr} {v:Value} {pv:PV} {b:Bool} {Q:Bool→Shared→Prop}
  (I:Inv Γ c h env σ news ls) (r:RepV Γ.base Γ.ta news ls v pv) (hb:zm5 σ pv=some b) (hq:∀ tk',Q b (Γ.st h tk')):wpAny (model Γ.prog Γ.w) c.A (truthy v) Q c.E (Γ.st h tk):=by
 cases r with
 | bool _=>cases hb; exact wpAny_truthy_bool (hq tk)
 | @loc a k hk =>
  obtain ⟨l,hl,rfl⟩:=om (o:=σ[k]?) (f:=fun l=>!l.isEmpty) hb
  obtain ⟨vs,n,hm,ra⟩:=I.S.at' k a l hk hl
  have ho:=(I.N _ hm).1
  have hls:(Γ.st h tk).heap.IsList a vs.toArray:=⟨_,ho,rfl,n,rfl⟩
  have hsm:=I.S.small l (List.mem_of_getElem? hl)
  have hln:=ra.length
  refine wpAny_truthy_list hls ?_ ?_
  ·simp only [List.size_toArray]
   have:szL=16777216:=rfl
   lia
  ·haveI e:(!vs.toArray.isEmpty)=!l.isEmpty:=by
    cases vs <;> cases l <;> simp_all
   rw [e]
   exact hq _
 | _=>exact nn hb
theorem se_not (gok:Γ.Ok) (cok:c.Ok Γ) {x:Expr} {pos:Pos} {f:EV} (hx:SE Γ c (eval x c.env) f) :
  SE Γ c (eval (.UnaryOp .Not x pos) c.env) (fun env σ=>(f env σ).bind fun r=>(zi0 r.2 (zm5 r.2 r.1)).bind fun q=>.ok (.bool (!q.1),q.2)):=by
 intro env σ h tk news ls Q I hp
 refine wpAny_UnaryOp (hx env σ h tk news ls _ I (Post.bind hp fun r v h1 tk1 n1 l1 I1 R1 g1 hp1=>?_))
 cases hb:zm5 r.2 r.1 with
 | none=>rw [hb] at hp1; exact hp1.elim
 | some b =>
  rw [hb] at hp1
  exact not_of (zx7 gok cok I1 R1 hb fun tk'=>hp1 _ h1 tk' n1 l1 I1 (.bool _) Grow.refl)
theorem sb_not (gok:Γ.Ok) (cok:c.Ok Γ) {x:Expr} {pos:Pos} {whole:Sem Value} {f:ET} (hx:SB' Γ c (isTrue x c.env (eval x c.env)) f) :
  SB' Γ c (isTrue (.UnaryOp .Not x pos) c.env whole) (fun env σ=>(f env σ).bind fun r=>.ok (!r.1,r.2)):=by
 intro env σ h tk news ls Q I hp
 refine isTrue_not (hx env σ h tk news ls _ I (Post.bind hp fun r v h1 tk1 n1 l1 I1 R1 g1 hp1=>?_))
 cases R1
 exact hp1 _ h1 tk1 n1 l1 I1 rfl Grow.refl
theorem sb_plain (gok:Γ.Ok) (cok:c.Ok Γ) {x:Expr} {f:EV} (hx:SE Γ c (eval x c.env) f)
  (he:isTrue x c.env (eval x c.env)=(do let v ← eval x c.env; standAt x.pos; holding [v] (truthy v))):SB' Γ c (isTrue x c.env (eval x c.env)) (trOf f):=by
 intro env σ h tk news ls Q I hp
 refine isTrue_plain (hx env σ h tk news ls _ I (Post.bind hp fun r v h1 tk1 n1 l1 I1 R1 g1 hp1=>?_)) he
 refine Post.liftC hp1 fun b hb hp2=>?_
 exact zx7 gok cok I1 R1 hb fun tk'=>hp2 _ h1 tk' n1 l1 I1 rfl Grow.refl
theorem se_ite (gok:Γ.Ok) (cok:c.Ok Γ) {t a b:Expr} {pos:Pos} {ft:ET} {fa fb:EV} (ht:SB' Γ c (isTrue t c.env (eval t c.env)) ft) (ha:SE Γ c (eval a c.env) fa) (hb:SE Γ c (eval b c.env) fb) :
  SE Γ c (eval (.IfExp t a b pos) c.env) (fun env σ=>(ft env σ).bind fun r=>match r.1 with | true=>fa env r.2 | false=>fb env r.2):=by
 intro env σ h tk news ls Q I hp
 refine IfExp_ (ht env σ h tk news ls _ I (Post.bind hp fun r v h1 tk1 n1 l1 I1 R1 g1 hp1=>?_))
 obtain ⟨b',σ1⟩:=r
 cases R1
 cases b' with
 | true=>exact ha env σ1 h1 tk1 n1 l1 Q I1 hp1
 | false=>exact hb env σ1 h1 tk1 n1 l1 Q I1 hp1
theorem sb_ite (gok:Γ.Ok) (cok:c.Ok Γ) {t a b:Expr} {pos:Pos} {whole:Sem Value} {ft fa fb:ET} (ht:SB' Γ c (isTrue t c.env (eval t c.env)) ft) (ha:SB' Γ c (isTrue a c.env (eval a c.env)) fa) (hb:SB' Γ c (isTrue b c.env (eval b c.env)) fb) :
  SB' Γ c (isTrue (.IfExp t a b pos) c.env whole) (fun env σ=>(ft env σ).bind fun r=>match r.1 with | true=>fa env r.2 | false=>fb env r.2):=by
 intro env σ h tk news ls Q I hp
 refine isTrue_IfExp (ht env σ h tk news ls _ I (Post.bind hp fun r v h1 tk1 n1 l1 I1 R1 g1 hp1=>?_))
 obtain ⟨b',σ1⟩:=r
 cases R1
 cases b' with
 | true=>exact ha env σ1 h1 tk1 n1 l1 Q I1 hp1
 | false=>exact hb env σ1 h1 tk1 n1 l1 Q I1 hp1
theorem yq7 (k:Int) (n:Nat):seqIndex? k n=zv6 k n:=by
 unfold seqIndex? zv6
 by_cases h:0≤k
 ·rw [if_pos h]
  have h':¬ k < 0:=by exact Int.not_lt_of_ge h
  simp only [if_neg h']
  by_cases h2:k.toNat < n
  ·rw [if_pos h2,if_pos (by simp; exact j481 h2 h')]
  ·rw [if_neg h2,if_neg (by simp; exact j482 h2)]
 ·rw [if_neg h]
  have h':k < 0:=by exact Int.lt_of_not_ge h
  simp only [if_pos h']
  by_cases h2:0≤k+n
  ·rw [if_pos h2,if_pos (by simp; exact j483 h2 h')]
  ·rw [if_neg h2,if_neg (by simp; lia)]
theorem yr5 {A:Around} {E:Value→Shared→Prop} {prog:Program} {w:World} {s:Shared} {a:Addr} {vs:List Value} {k:Int} {t:Tok} {i:Nat} {v:Value} {Q:Value→Shared→Prop} (hl:s.heap.IsList a vs.toArray) (hk:k.natAbs < 2 ^ 62) (hi:zv6 k vs.length=some i) (hv:vs[i]?=some v)
  (h:Q v s):wpAny (model prog w) A (getItem (.ref a) (.int k t)) Q E s:=by
 unfold zv6 at hi
 split at hi
 ·rename_i h0
  split at hi
  ·cases hi
   exact wpAny_getItem_list hl h0 (by lia) (by simpa using hv) h
  ·cases hi
 ·rename_i h0
  split at hi
  ·cases hi
   exact wpAny_getItem_list_neg hl (by exact Int.lt_of_not_ge h0) (by simp only [List.size_toArray]; exact Int.add_nonneg_iff_neg_le.mp ‹_›) (by lia) (by simpa using hv) h
  ·cases hi
theorem se_idx (gok:Γ.Ok) (cok:c.Ok Γ) {a i:Expr} {pos:Pos} {f1 f2:EV} (hi:ya2 i=false) (ha:SE Γ c (eval a c.env) f1) (hx:SE Γ c (eval i c.env) f2) :
  SE Γ c (eval (.Subscript a i pos) c.env) (fun env σ=>(f1 env σ).bind fun r=>(f2 env r.2).bind fun q=>zi0 q.2 (idxP q.2 r.1 q.1)):=by
 intro env σ h tk news ls Q I hp
 refine Subscript_ (ha env σ h tk news ls _ I (Post.bind hp fun r v h1 tk1 n1 l1 I1 R1 g1 hp1=>?_))
 refine hx env r.2 h1 tk1 n1 l1 _ I1 (Post.bind hp1 fun q v2 h2 tk2 n2 l2 I2 R2 g2 hp2=>?_)
 refine Post.liftC hp2 fun pv hb hp3=>?_
 haveI R1':=R1.mono g2
 have hsub:∀ o i',subscripted i false o i'=operate [o,i'] (getItem o i'):=by
  intro o i'
  cases i <;> first | rfl | exact nb hi.symm
 obtain ⟨p1,σ1⟩:=r
 obtain ⟨p2,σ2⟩:=q
 dsimp only at *
 cases R1' with
 | @tup a' vs n ds hat ra =>
  refine obC hb fun k hkq hb1=>?_
  refine ifC hb1 fun hk hb2=>?_
  refine obC hb2 fun j hj hd=>?_
  obtain ⟨t,rfl,rfl⟩:=R2.asInt hkq
  obtain ⟨v',hv',rv⟩:=ra.get hd
  have ho:=I2.get gok cok _ _ hat
  have ht:IsTup (Γ.st h2 tk2).heap a' vs.toArray:=⟨_,ho,rfl,n,rfl⟩
  refine tail_any ht.typeIs slot_tuple_getitem.lookup (getItem_tuple ht (by lia) (by lia) (j:=j) ?_ (by rw [List.getElem?_toArray]; exact hv') (hp3 _ h2 tk2 n2 l2 I2 rv Grow.refl)) (hsub _ _)
  rw [yq7,List.size_toArray,ra.length]; exact hj
 | @list a' vs n ds hat ra =>
  refine obC hb fun k hkq hb1=>?_
  refine ifC hb1 fun hk hb2=>?_
  refine obC hb2 fun j hj hd=>?_
  obtain ⟨t,rfl,rfl⟩:=R2.asInt hkq
  obtain ⟨v',hv',rv⟩:=ra.get hd
  have ho:=I2.get gok cok _ _ hat
  have ht:(Γ.st h2 tk2).heap.IsList a' vs.toArray:=⟨_,ho,rfl,n,rfl⟩
  exact tail_any ht.typeIs slot_list_getitem.lookup (yr5 ht hk (by rw [ra.length]; exact hj) hv' (hp3 _ h2 tk2 n2 l2 I2 rv Grow.refl)) (hsub _ _)
 | @loc a' k' hk' =>
  refine obC hb fun k hkq hb1=>?_
  refine ifC hb1 fun hk hb2=>?_
  refine obC hb2 fun l hl hb3=>?_
  refine obC hb3 fun j hj hd=>?_
  obtain ⟨t,rfl,rfl⟩:=R2.asInt hkq
  refine big fun Gz hGz=>?_
  obtain ⟨vs,n,hm,ra⟩:=I2.S.at' _ _ _ hk' hl <;> refine hGz ?_
  obtain ⟨v',hv',rv⟩:=ra.get hd
  haveI ho:=(I2.N _ hm).1
  haveI ht:(Γ.st h2 tk2).heap.IsList a' vs.toArray:=⟨_,ho,rfl,n,rfl⟩
  exact tail_any ht.typeIs slot_list_getitem.lookup (yr5 ht hk (by rw [ra.length]; exact hj) hv' (hp3 _ h2 tk2 n2 l2 I2 rv Grow.refl)) (hsub _ _)
 | @str x tx sx hsx hcx =>
  refine obC hb fun k hkq hb1=>?_
  refine ifC hb1 fun hk hb2=>?_
  refine obC hb2 fun j hj hd=>?_
  obtain ⟨cc,hcc,e⟩:=om hd
  subst e
  obtain ⟨t,rfl,rfl⟩:=R2.asInt hkq
  haveI hlen:x.length=sx.length:=by rw [← hsx]; exact Array.length_toList.symm
  haveI hch:Txt.charAt x k=some cc:=by
   unfold Txt.charAt
   rw [yq7,hlen,hj]
   show x.cps[j]?=some cc
   rw [← Array.getElem?_toList,hsx]; exact hcc
  refine tail_any (typeIs_str _ _ _) F.slot_str_getitem.lookup (SB.getItem (i:=k) ?_ (by rw [hch]; rfl) (hp3 _ h2 _ n2 l2 I2 (.str _ _ ?_ ?_) Grow.refl)) (hsub _ _)
  ·unfold fitsSsize
   rw [decide_eq_false (by lia),decide_eq_false (by lia)]; rfl
  ·unfold Txt.item
   rw [hch]; rfl
  ·intro d hd'
   rw [List.mem_singleton.mp hd']
   exact hcx _ (List.mem_of_getElem? hcc)
 | @tab a' k' hk' =>
  refine obC hb fun sx hkq hb1=>?_
  obtain ⟨x,tx,rfl,rfl,hsx,hcx⟩:=R2.asStr hkq
  obtain ⟨_,es,n,hl,hkl,hm⟩:=gok.tabs _ _ sx hk'
  rw [hb1] at hm
  obtain ⟨v',hv',rv⟩:=hm
  haveI hX:Γ.KF.In h2:=by
   obtain ⟨m,F,_⟩:=I2.fr
   exact (gok.X.keeps cok.B.stays).keeps F.keep
  haveI hmo:=mapOf_K (prog:=Γ.prog) (w:=Γ.w) hX hl hkl
  rw [← yt5 hsx] at hv'
  exact tail_any hmo.typeIs slot_dict_getitem.lookup (wpAny_getItem_of (s:=Γ.st h2 tk2) (strKind_is Γ.prog Γ.w x tx) hmo (find_K hl hv') (hp3 _ h2 _ n2 l2 I2 (rv.mono yk8) Grow.refl)) (hsub _ _)
 | _=>exact nn hb
theorem Inv.push {h:Heap} {env:Env'} {σ:za7} {news:List (Addr × Obj)} {ls:List Addr} (I:Inv Γ c h env σ news ls) (o:Obj) (hf:o.isFreed=false:=by rfl) :
  Inv Γ c (h.push o) env σ ((h.objs.size,o)::news) ls∧Grow news ls ((h.objs.size,o)::news) ls∧(∀ a∈ls,a≠h.objs.size):=by
 obtain ⟨⟨m,F,hm⟩,N,S,G⟩:=I
 have g:Grow news ls ((h.objs.size,o)::news) ls:=⟨fun p hp hn=>⟨.tail _ hp,hn⟩,[],(List.append_nil _).symm⟩
 refine ⟨⟨⟨m,F.push o,fun k x pv hx he=>?_⟩,N.push F o hf,⟨S.len,S.nodup,S.off,S.small,fun k a l h1 h2=>?_⟩,G.trans g⟩,g,fun a ha e=>?_⟩
 ·obtain ⟨v,hv,r⟩:=hm k x pv hx he
  exact ⟨v,hv,r.mono g⟩
 ·obtain ⟨vs,n,h3,h4⟩:=S.at' k a l h1 h2
  exact ⟨vs,n,.tail _ h3,h4.mono g⟩
 ·obtain ⟨k,hk⟩:=List.getElem?_of_mem ha
  have hlt:k < σ.length:=by rw [← S.len]; exact (List.getElem?_eq_some_iff.mp hk).1
  obtain ⟨vs,n,h3,_⟩:=S.at' k a (σ[k]) hk (List.getElem?_eq_getElem hlt)
  haveI:=Heap.lt_size (N _ h3).1
  rw [e] at this
  exact absurd this (Nat.lt_irrefl _)
theorem Inv.pushL (gok:Γ.Ok) (cok:c.Ok Γ) {h:Heap} {env:Env'} {σ:za7} {news:List (Addr × Obj)} {ls:List Addr} (I:Inv Γ c h env σ news ls) {vs:List Value} {l:List PV} (r:RepA Γ.base Γ.ta news ls vs l) (hs:l.length≤szL) :
  Inv Γ c (h.push (lstO vs 0)) env (σ++[l]) ((h.objs.size,lstO vs 0)::news) (ls++[h.objs.size])∧Grow news ls ((h.objs.size,lstO vs 0)::news) (ls++[h.objs.size]):=by
 haveI hnew:∀ p∈news,p.1≠h.objs.size:=fun p hp e=>by
  haveI:=Heap.lt_size (I.N _ hp).1
  rw [e] at this
  exact absurd this (Nat.lt_irrefl _)
 obtain ⟨_,_,hoff⟩:=I.push (lstO vs 0)
 obtain ⟨⟨m,F,hm⟩,N,S,G⟩:=I
 have g:Grow news ls ((h.objs.size,lstO vs 0)::news) (ls++[h.objs.size]):=⟨fun p hp hn=>⟨.tail _ hp,fun hq=>by
  rcases List.mem_append.mp hq with q | q
  ·exact hn q
  ·exact hnew p hp (List.mem_singleton.mp q)⟩,_,rfl⟩
 refine ⟨⟨⟨m,F.push _,fun k x pv hx he=>?_⟩,N.push F _,⟨?_,?_,?_,?_,?_⟩,G.trans g⟩,g⟩
 ·obtain ⟨v,hv,r⟩:=hm k x pv hx he
  exact ⟨v,hv,r.mono g⟩
 ·simp [S.len]
 ·rw [List.nodup_append]
  refine ⟨S.nodup,by simp,fun a ha b hb=>?_⟩
  rw [List.mem_singleton.mp hb]
  exact hoff a ha
 ·intro a ha
  rcases List.mem_append.mp ha with q | q
  ·exact S.off a q
  ·rw [List.mem_singleton.mp q]
   cases hb:Γ.base.get? h.objs.size with
   | none=>rfl
   | some o=>exact absurd (Heap.lt_size (F.keep _ _ (cok.B.stays _ _ hb))) (Nat.lt_irrefl _)
 ·intro l' hl
  rcases List.mem_append.mp hl with q | q
  ·exact S.small _ q
  ·rw [List.mem_singleton.mp q]; exact hs
 ·intro k a l' h1 h2
  by_cases hk:k < ls.length
  ·rw [List.getElem?_append_left hk] at h1
   rw [List.getElem?_append_left (by rw [← S.len]; exact hk)] at h2
   obtain ⟨ws,n,h3,h4⟩:=S.at' k a l' h1 h2
   exact ⟨ws,n,.tail _ h3,h4.mono g⟩
  ·have hk':k=ls.length:=by
    haveI:=(List.getElem?_eq_some_iff.mp h1).1
    simp at this; exact Nat.eq_of_lt_succ_of_not_lt this hk
   subst hk'
   rw [List.getElem?_append_right (Nat.le_refl _)] at h1
   rw [S.len,List.getElem?_append_right (Nat.le_refl _)] at h2
   simp at h1 h2
   subst h1 h2
   exact ⟨vs,0,.head _,r.mono g⟩
theorem se_tup (gok:Γ.Ok) (cok:c.Ok Γ) {es:List Expr} {k:Nat} {pos:Pos} {f:Env'→za7→Out (List PV × za7)} (hl:es.length≤1000) (hf:∀ env σ r,f env σ=.ok r→r.1.length=es.length) (h:SL Γ c (spliced (backTo pos (starEach es c.env))) f) :
  SE Γ c (eval (.Tuple es k pos) c.env) (fun env σ=>(f env σ).bind fun r=>.ok (.tup r.1,r.2)):=by
 intro env σ h0 tk news ls Q I hp
 haveI hf':=hf env σ
 dsimp only at hp
 refine Tuple_ (h env σ h0 tk news ls _ I ?_)
 cases hr:f env σ with
 | exc=>rw [hr] at hp; exact hp
 | stuck=>rw [hr] at hp; exact hp.elim
 | ok r =>
  rw [hr] at hp
  intro vs h1 tk1 n1 l1 I1 R1 g1
  haveI hlen:vs.length≤1000:=by rw [R1.length,hf' r hr]; exact hl
  obtain ⟨I2,g2,hoff⟩:=I1.push (tupO vs 0)
  refine wpAny_newObj_type ?_ (by show vs.toArray.size≤sizeLine; have:=sizeLine_eq; simp; exact j348 this hlen)
  exact hp _ _ tk1 _ l1 I2 (.tup (.inl ⟨.head _,fun hm=>hoff _ hm rfl⟩) (R1.mono g2)) (g1.trans g2)
theorem se_lst (gok:Γ.Ok) (cok:c.Ok Γ) {es:List Expr} {pos:Pos} {f:Env'→za7→Out (List PV × za7)} (hl:es.length≤1000) (hf:∀ env σ r,f env σ=.ok r→r.1.length=es.length) (h:SL Γ c (spliced (backTo pos (starEach es c.env))) f) :
  SE Γ c (eval (.List es pos) c.env) (fun env σ=>(f env σ).bind fun r=>.ok (.loc r.2.length,r.2++[r.1])):=by
 intro env σ h0 tk news ls Q I hp
 have hf':=hf env σ
 dsimp only at hp
 refine List_ (h env σ h0 tk news ls _ I ?_)
 cases hr:f env σ with
 | exc=>rw [hr] at hp; exact hp
 | stuck=>rw [hr] at hp; exact hp.elim
 | ok r =>
  rw [hr] at hp
  intro vs h1 tk1 n1 l1 I1 R1 g1
  have hl2:r.1.length≤1000:=by rw [hf' r hr]; exact hl
  have hlen:vs.length≤1000:=by rw [R1.length]; exact hl2
  obtain ⟨I2,g2⟩:=I1.pushL gok cok R1 (by have:szL=16777216:=rfl; exact j348 this hl2)
  refine wpAny_newObj_type ?_ (by show vs.toArray.size≤sizeLine; have:=sizeLine_eq; simp; exact j348 this hlen)
  refine hp _ _ tk1 _ _ I2 (.loc ?_) (g1.trans g2)
  rw [← I1.S.len]
  simp
  rfl
noncomputable def zm0:Expr→Bool
 | .Starred ..=>true
 | _=>false
theorem zg2 {e:Expr} {rest:List Expr} {env:Env} (h:zm0 e=false):starEach (e::rest) env=(false,eval e env)::starEach rest env:=by
 cases e <;> first | rfl | exact nb h.symm
structure EOk (Γ:GC) (c:FC) (C:Nat→List PV→za7→Out (PV × za7)) (e:Expr) (pe:PE):Prop where
 se:SE Γ c (eval e c.env) (ev C pe).1
 sb:SB' Γ c (isTrue e c.env (eval e c.env)) (ev C pe).2
 st:zm0 e=false
structure LOk (Γ:GC) (c:FC) (C:Nat→List PV→za7→Out (PV × za7)) (es:List Expr) (pes:PEs):Prop where
 v:∀ pos,SL Γ c (spliced (backTo pos (starEach es c.env))) (evs C pes).vals
 b:es≠[]→∀ op p,SE Γ c (eval (.BoolOp op es p) c.env) ((evs C pes).b (op == .And))
 a:∀ op p whole,SB' Γ c (isTrue (.BoolOp op es p) c.env whole) ((evs C pes).a (op == .And))
 n:(evs C pes).isNil=es.isEmpty
 l:∀ env σ r,(evs C pes).vals env σ=.ok r→r.1.length=es.length
theorem yy1 (gok:Γ.Ok) (cok:c.Ok Γ) {f:Expr→Option PE} (IH:∀ e pe,f e=some pe→EOk Γ c C e pe) :
  ∀ es pes,cL f es=some pes→LOk Γ c C es pes:=by
 intro es
 induction es with
 | nil =>
  intro pes h
  cases h
  refine ⟨fun pos env σ h0 tk news ls Q I hp=>?_,fun e=>absurd rfl e,fun op p whole env σ h0 tk news ls Q I hp=>?_,rfl,?_⟩
  ·exact args_nil (hp [] h0 tk news ls I .nil Grow.refl)
  ·have hq:=hp (op == .And) h0 tk news ls I rfl Grow.refl
   cases op
   ·exact isTrue_and_nil hq
   ·exact isTrue_or_nil hq
  ·intro env σ r hr
   cases hr; rfl
 | cons e rest ih =>
  intro pes h
  refine obC (o:=f e) (f:=fun a=>(cL f rest).map fun b=>PEs.cons a b) h fun a ha h=>omC h fun b hb=>?_
  obtain ⟨ihv,ihb,iha,ihn,ihl⟩:=ih b hb
  obtain ⟨he,ht,hst⟩:=IH e a ha
  refine ⟨fun pos env σ h0 tk news ls Q I hp=>?_,fun _ op p env σ h0 tk news ls Q I hp=>?_,fun op p whole env σ h0 tk news ls Q I hp=>?_,rfl,?_⟩
  ·refine args_cons (he:=zg2 hst) (he env σ h0 tk news ls _ I (Post.bind hp fun r v h1 tk1 n1 l1 I1 R1 g1 hp1=>?_))
   refine ihv pos env r.2 h1 tk1 n1 l1 _ I1 (Post.bind hp1 fun q vs h2 tk2 n2 l2 I2 R2 g2 hp2=>?_)
   exact hp2 _ h2 tk2 n2 l2 I2 (.cons (R1.mono g2) R2) Grow.refl
  ·replace hp:Post (RV Γ) Γ c env news ls Q (match (evs C b).isNil with
    | true=>(ev C a).1 env σ
    | false=>((ev C a).1 env σ).bind fun v=>(zi0 v.2 (zm5 v.2 v.1)).bind fun t=>match (t.1 == (op == .And)) with | true=>(evs C b).b (op == .And) env v.2 | false=>.ok v):=hp
   rw [ihn] at hp
   cases rest with
   | nil=>exact BoolOp_one (he env σ h0 tk news ls Q I hp)
   | cons e2 rest =>
    haveI key:=he env σ h0 tk news ls
    cases op with
    | And =>
     refine BoolOp_and (key _ I (Post.bind hp fun r v h1 tk1 n1 l1 I1 R1 g1 hp1=>?_))
     cases hb':zm5 r.2 r.1 with
     | none=>rw [hb'] at hp1; exact hp1.elim
     | some bb =>
      rw [hb'] at hp1
      refine zx7 gok cok I1 R1 hb' fun tk'=>?_
      cases bb with
      | true=>exact ihb (by simp) .And p env r.2 h1 tk' n1 l1 Q I1 hp1
      | false=>exact hp1 _ h1 tk' n1 l1 I1 R1 Grow.refl
    | Or =>
     refine BoolOp_or (key _ I (Post.bind hp fun r v h1 tk1 n1 l1 I1 R1 g1 hp1=>?_))
     cases hb':zm5 r.2 r.1 with
     | none=>rw [hb'] at hp1; exact hp1.elim
     | some bb =>
      rw [hb'] at hp1
      refine zx7 gok cok I1 R1 hb' fun tk'=>?_
      cases bb with
      | true=>exact hp1 _ h1 tk' n1 l1 I1 R1 Grow.refl
      | false=>exact ihb (by simp) .Or p env r.2 h1 tk' n1 l1 Q I1 hp1
  ·haveI key:=ht env σ h0 tk news ls
   cases op with
   | And =>
    refine isTrue_and (key _ I (Post.bind hp fun r v h1 tk1 n1 l1 I1 R1 g1 hp1=>?_))
    obtain ⟨bb,σ1⟩:=r
    cases R1
    cases bb with
    | true=>exact iha .And p whole env σ1 h1 tk1 n1 l1 Q I1 hp1
    | false=>exact hp1 _ h1 tk1 n1 l1 I1 rfl Grow.refl
   | Or =>
    refine isTrue_or (key _ I (Post.bind hp fun r v h1 tk1 n1 l1 I1 R1 g1 hp1=>?_))
    obtain ⟨bb,σ1⟩:=r
    cases R1
    cases bb with
    | true=>exact hp1 _ h1 tk1 n1 l1 I1 rfl Grow.refl
    | false=>exact iha .Or p whole env σ1 h1 tk1 n1 l1 Q I1 hp1
  ·intro env σ r hr
   refine bokC (o:=(ev C a).1 env σ) (f:=fun v=>((evs C b).vals env v.2).bind fun vs=>.ok (v.1::vs.1,vs.2)) hr fun v h1 hr=>bokC hr fun vs h2 hr=>?_
   cases hr
   exact congrArg (·+1) (ihl env v.2 vs h2)
end
end Mine
namespace Mine
set_option tactic.hygienic false
open PySem PySem.W PySem.Calls PyProof.Rows
section
variable {Γ:GC} {c:FC} {C:Nat→List PV→za7→Out (PV × za7)}
theorem idx_cut (n:Nat) (lo hi:Option Int):Builtin.Str.strSliceIndices lo hi 1 n=Builtin.Str.strSliceIndices (some ((lowOf n lo:Nat):Int)) (some ((ys1 n hi:Nat):Int)) 1 n:=by
 have e:∀ i:Int,max 0 (min (if i < 0 then i+n else i) (n:Int))=((bnd i n:Nat):Int):=by
  intro i
  unfold bnd
  by_cases h:0≤i
  ·rw [if_neg (by exact Int.not_lt_of_ge h),if_pos h]; exact j489
  ·rw [if_pos (by exact Int.lt_of_not_ge h),if_neg h]; exact j490 h
 have e2:∀ k:Nat,k≤n→max 0 (min (if (k:Int) < 0 then (k:Int)+n else (k:Int)) (n:Int))=(k:Int):=by
  intro k hk
  rw [if_neg (by exact Int.not_ofNat_neg _)]; exact j358 hk
 have hb:∀ i:Int,bnd i n≤n:=by
  intro i; unfold bnd; split <;> (first | exact Nat.min_le_right _ _ | exact j491 ‹_›)
 unfold Builtin.Str.strSliceIndices
 simp only [show ((1:Int) > 0)=True from by simp,if_true]
 cases lo <;> cases hi <;> simp only [lowOf,ys1,e]
 all_goals (congr 1 <;> first | rfl | exact (e2 _ (hb _)).symm | exact (e2 0 (Nat.zero_le _)).symm | exact (e2 n (Nat.le_refl _)).symm)
theorem bnd_le (i:Int) (n:Nat):bnd i n≤n:=by unfold bnd; split <;> (first | exact Nat.min_le_right _ _ | exact j491 ‹_›)
theorem cut_text (x:Str) (lo hi:Option Int):(Txt.slice x lo hi).cps.toList=cutL x.cps.toList (lowOf x.length lo) (ys1 x.length hi):=by
 haveI key:∀ a b:Nat,b≤x.length→(if ((1:Int) == 1 && (Builtin.Str.strSliceIndices (some (a:Int)) (some (b:Int)) 1 x.length).length == x.length)=true then x else ⟨((Builtin.Str.strSliceIndices (some (a:Int)) (some (b:Int)) 1 x.length).filterMap (x.cps[·]?)).toArray⟩:Str).cps.toList=cutL x.cps.toList a b:=by
  intro a b hb
  haveI hlen:x.cps.toList.length=x.length:=by simp [Str.length]
  by_cases hab:a≤b
  ·have:=StrLaws.sliceText_nat x hab hb
   unfold StrLaws.sliceText at this
   rw [this]
   show ((x.cps.toList.drop a).take (b - a))=(x.cps.toList.take b).drop a
   rw [List.drop_take]
  ·have e:Builtin.Str.strSliceIndices (some (a:Int)) (some (b:Int)) 1 x.length=[]:=by
    unfold Builtin.Str.strSliceIndices sliceRange
    simp only [show ((1:Int) > 0)=True from by simp,if_true]
    haveI h1:max 0 (min (if (b:Int) < 0 then (b:Int)+x.length else (b:Int)) (x.length:Int))=(b:Int):=by rw [if_neg (by exact Int.not_ofNat_neg _)]; exact j358 hb
    haveI h2:¬ (max 0 (min (if (a:Int) < 0 then (a:Int)+x.length else (a:Int)) (x.length:Int)) < (b:Int)):=by rw [if_neg (by exact Int.not_ofNat_neg _)]; exact j492 h1 hab
    rw [h1,if_neg h2]; rfl
   rw [e]
   haveI e3:cutL x.cps.toList a b=[]:=by
    unfold cutL
    apply List.drop_eq_nil_of_le
    rw [List.length_take]; exact j493 hab
   rw [e3]
   split
   ·rename_i h0
    simp only [List.length_nil,Bool.and_eq_true,beq_iff_eq] at h0
    haveI:=hlen
    rw [← h0.2] at this
    exact List.eq_nil_of_length_eq_zero this
   ·rfl
 unfold Txt.slice
 rw [idx_cut]
 apply key
 cases hi
 ·exact Nat.le_refl _
 ·exact bnd_le _ _
theorem cutL_mem {l:List Nat} {a b d:Nat} (h:d∈cutL l a b):d∈l:=List.mem_of_mem_take (List.mem_of_mem_drop h)
theorem we7 {x:Str} {s:List Nat} (hx:x.cps.toList=s) (hc:∀ d∈s,d < 128) (lo hi:Option Int) (t:Tok) {base:Heap} {ta:Nat→Option Addr} {news:List (Addr × Obj)} {ls:List Addr} :
  RepV base ta news ls (.str (Txt.slice x lo hi) t) (.str (cutL s (lowOf s.length lo) (ys1 s.length hi))):=by
 subst hx
 refine .str _ _ ?_ fun d hd=>hc d (cutL_mem hd)
 rw [cut_text]
 haveI:x.length=x.cps.toList.length:=by simp [Str.length]
 rw [this]
theorem part_ok (gok:Γ.Ok) (cok:c.Ok Γ) {f:Expr→Option PE} (IH:∀ e pe,f e=some pe→SE Γ c (eval e c.env) (ev C pe).1) {o:Option Expr} {pe:PE} (h:cOpt f o=some pe):SE Γ c (evalPart o c.env) (ev C pe).1:=by
 cases o with
 | none =>
  simp only [cOpt,Option.some.injEq] at h
  subst h
  intro env σ h0 tk news ls Q I hp
  exact evalPart_none_step (hp _ _ _ _ _ I .none Grow.refl)
 | some e=>exact IH e pe h
theorem ym8 {base:Heap} {ta:Nat→Option Addr} {n1:List (Addr × Obj)} {l1:List Addr} {v:Value} {p:PV} {o:Option Int} (h:RepV base ta n1 l1 v p) (hb:wf4 p=some o):(v=.none∧o=none)∨∃ i t,v=.int i t∧o=some i:=by
 cases h with
 | none=>exact .inl ⟨rfl,(Option.some.inj hb).symm⟩
 | int i t=>exact .inr ⟨i,t,rfl,(Option.some.inj hb).symm⟩
 | _=>exact nn hb
theorem yz1 (gok:Γ.Ok) (cok:c.Ok Γ) {a:Expr} {lo hi:Option Expr} {p pos:Pos} {f1 f2 f3:EV} (h1:SE Γ c (eval a c.env) f1) (h2:SE Γ c (evalPart lo c.env) f2) (h3:SE Γ c (evalPart hi c.env) f3) :
  SE Γ c (eval (.Subscript a (.Slice lo hi none p) pos) c.env) (fun env σ=>(f1 env σ).bind fun r=>(f2 env r.2).bind fun q=>(f3 env q.2).bind fun t=>zi0 t.2 (cutP r.1 q.1 t.1)):=by
 intro env σ h tk news ls Q I hp
 refine Subscript_ (h1 env σ h tk news ls _ I (Post.bind hp fun r v h1' tk1 n1 l1 I1 R1 g1 hp1=>?_))
 refine wpAny_Slice (h2 env r.2 h1' tk1 n1 l1 _ I1 (Post.bind hp1 fun q v2 h2' tk2 n2 l2 I2 R2 g2 hp2=>?_))
 refine h3 env q.2 h2' tk2 n2 l2 _ I2 (Post.bind hp2 fun t v3 h3' tk3 n3 l3 I3 R3 g3 hp3=>?_)
 refine Post.liftC hp3 fun pv hb hp4=>?_
 obtain ⟨p1,σ1⟩:=r
 obtain ⟨p2,σ2⟩:=q
 obtain ⟨p3,σ3⟩:=t
 dsimp only at *
 refine evalPart_none_step ?_
 have R1':=(R1.mono g2).mono g3
 have R2':=R2.mono g3
 refine obC hb fun s hs hb1=>?_
 refine ifC hb1 fun hsl hb2=>?_
 refine obC hb2 fun a' ha' hb3=>?_
 obtain ⟨b',hb',e⟩:=om hb3
 subst e
 obtain ⟨x,tx,rfl,rfl,hx,hc⟩:=R1'.asStr hs
 have hsz:x.length≤sizeLine:=by
  show x.cps.size≤sizeLine
  rw [← Array.length_toList,hx,sizeLine_eq]
  exact hsl
 have fin:∀ h' t' k,Inv Γ c h' env σ3 n3 l3→Q (.str (Txt.slice x a' b') t') (Γ.st h' k) :=
  fun h' t' k I'=>hp4 _ h' k n3 l3 I' (we7 hx hc a' b' t') Grow.refl
 obtain ⟨⟨m,F,hm⟩,N,S,G⟩:=id I3
 have up:∀ h',Fr c.g c.L h' m→News c.g c.L h' n3→Inv Γ c h' env σ3 n3 l3:=fun h' F' N'=>⟨⟨m,F',hm⟩,N',S,G⟩
 have ht:∀ r,letTemporaryGo a (.str x tx) r=pure ():=by intro r; cases a <;> rfl
 rcases ym8 R2' ha' with ⟨e1,e2⟩ | ⟨i,t,e1,e2⟩
 ·rcases ym8 R3 hb' with ⟨f1,f2⟩ | ⟨j,u,f1,f2⟩
  ·subst e1 e2 f1 f2
   exact slice_strN_nn (s:=Γ.st h3' tk3) F N (fun h' t' k F' N'=>fin h' t' k (up h' F' N')) (by rfl) ht hsz
  ·subst e1 e2 f1 f2
   exact slice_strN_ns (s:=Γ.st h3' tk3) F N (fun h' t' k F' N'=>fin h' t' k (up h' F' N')) (by rfl) ht hsz
 ·rcases ym8 R3 hb' with ⟨f1,f2⟩ | ⟨j,u,f1,f2⟩
  ·subst e1 e2 f1 f2
   exact slice_strN_sn (s:=Γ.st h3' tk3) F N (fun h' t' k F' N'=>fin h' t' k (up h' F' N')) (by rfl) ht hsz
  ·subst e1 e2 f1 f2
   exact slice_strN_ss (s:=Γ.st h3' tk3) F N (fun h' t' k F' N'=>fin h' t' k (up h' F' N')) (by rfl) ht hsz
end
end Mine
namespace Mine
set_option tactic.hygienic false
open PySem PySem.W PySem.Calls PyProof.Rows
section
variable {Γ:GC} {c:FC} {C:Nat→List PV→za7→Out (PV × za7)}
theorem zt7 {α:Type} {l:List α} (h:l.Nodup) {i j:Nat} {a:α} (hi:l[i]?=some a) (hj:l[j]?=some a):i=j:=by
 obtain ⟨p1,q1⟩:=List.getElem?_eq_some_iff.mp hi
 obtain ⟨p2,q2⟩:=List.getElem?_eq_some_iff.mp hj
 have hp:=List.pairwise_iff_getElem.mp h
 rcases Nat.lt_trichotomy i j with h1 | h1 | h1
 ·exact absurd (q1.trans q2.symm) (hp i j p1 p2 h1)
 ·exact h1
 ·exact absurd (q2.trans q1.symm) (hp j i p2 p1 h1)
theorem zt8 {pos:Pos} {env:Env}:∀ (es:List Expr),(∀ e∈es,zm0 e=false)→(backTo pos (starEach es env)).any (·.1)=false
 | [],_=>rfl
 | e::rest,h=>by
  rw [zg2 (h e (.head _))]
  show (false || (backTo pos (starEach rest env)).any (·.1))=false
  rw [zt8 rest fun e he=>h e (.tail _ he)]; rfl
theorem Inv.turn (gok:Γ.Ok) (cok:c.Ok Γ) {h h':Heap} {env:Env'} {σ:za7} {news:List (Addr × Obj)} {ls:List Addr} (I:Inv Γ c h env σ news ls) {k:Nat} {a:Addr} {l l':List PV} {vs:List Value} {n n':Nat} {vs':List Value}
  (hk:ls[k]?=some a) (hl:σ[k]?=some l) (hm:(a,lstO vs n)∈news) (hs:Heap.SameBut a h h') (ho:h'.get? a=some (lstO vs' n')) (hr:RepA Γ.base Γ.ta news ls vs' l') (hsm:l'.length≤szL) :
  ∃ news',Inv Γ c h' env (σ.set k l') news' ls∧Grow news ls news' ls:=by
 obtain ⟨⟨m,F,hmm⟩,N,S,G⟩:=I
 have hal:a∈ls:=List.mem_of_getElem? hk
 have g:Grow news ls (news.map fun p=>if p.1=a then (a,lstO vs' n') else p) ls:=by
  refine ⟨fun p hp hn=>⟨?_,hn⟩,[],(List.append_nil _).symm⟩
  refine List.mem_map.mpr ⟨p,hp,?_⟩
  rw [if_neg (fun e:p.1=a=>hn (by rw [e]; exact hal))]
 refine ⟨_,⟨⟨m,F.update N hm hs,fun j x pv hx he=>?_⟩,N.update hm hs ho,⟨?_,S.nodup,S.off,?_,?_⟩,G.trans g⟩,g⟩
 ·obtain ⟨v,hv,r⟩:=hmm j x pv hx he
  exact ⟨v,hv,r.mono g⟩
 ·simp [S.len]
 ·intro q hq
  rcases List.mem_or_eq_of_mem_set hq with h1 | h1
  ·exact S.small q h1
  ·rw [h1]; exact hsm
 ·intro j b q h1 h2
  by_cases hj:j=k
  ·subst hj
   rw [hk] at h1
   cases h1
   rw [List.getElem?_set_self (List.getElem?_eq_some_iff.mp hl).1] at h2
   cases h2
   exact ⟨vs',n',List.mem_map.mpr ⟨_,hm,by rw [if_pos rfl]⟩,hr.mono g⟩
  ·rw [List.getElem?_set_ne (Ne.symm hj)] at h2
   obtain ⟨ws,i,h3,h4⟩:=S.at' j b q h1 h2
   have hne:b≠a:=fun e=>by
    subst e
    exact hj (zt7 S.nodup h1 hk)
   exact ⟨ws,i,List.mem_map.mpr ⟨_,h3,by rw [if_neg hne]⟩,h4.mono g⟩
theorem zw6 (gok:Γ.Ok) (cok:c.Ok Γ) (hC:zn3 Γ c C) {x:Str} {k:Nat} {np pos:Pos} {es:List Expr} {f:Env'→za7→Out (List PV × za7)} (hl:c.cs.names.lookup x=some .globalImplicit) (hd:(x == ("__debug__":Str))=false) (hk:dnames.findIdx? (· == x)=some k)
  (hst:∀ e∈es,zm0 e=false) (hnil:es=[]→∀ env σ,f env σ=.ok ([],σ)) (hf:∀ pos,SL Γ c (spliced (backTo pos (starEach es c.env))) f) :
  SE Γ c (eval (.Call (.Name x np) es [] pos) c.env) (fun env σ=>(f env σ).bind fun r=>C k r.1 r.2):=by
 intro env σ h tk news ls Q I hp
 have hX:=gok.X.keeps cok.B.stays
 refine Call_ ?_
 obtain ⟨⟨m,F,hm⟩,N,S,G⟩:=id I
 refine zz6 (s:=Γ.st h tk) F hX (topRead_of (gok.T.keeps cok.B.stays)) (gok.defs x k hk) ?_ cok.kind hl hd
 have body:=hf pos env σ h tk news ls (fun vs s₁=>Γ.KF.In s₁.heap∧wpAny (model Γ.prog Γ.w) c.A (call (.ref (Γ.fa k)) ([]++vs)) Q c.E s₁) I (Post.bind hp fun r vs h1 tk1 n1 l1 I1 R1 g1 hp1=>by
  obtain ⟨⟨m1,F1,_⟩,_,_,_⟩:=id I1
  exact ⟨hX.keeps F1.keep,hC k r.1 env r.2 h1 tk1 n1 l1 vs Q I1 R1 hp1.toS⟩)
 cases es with
 | nil =>
  dsimp only at hp
  rw [hnil rfl] at hp
  exact callWith_K0 (hX.keeps F.keep) (gok.defk x k hk) (hC k [] env σ h tk news ls [] Q I .nil (Post.toS hp))
 | cons e rest =>
  have he:=hst e (.head _)
  refine callWith_K hX (gok.defk x k hk) body (zg2 he) ?_
  exact zt8 rest fun e he=>hst e (.tail _ he)
noncomputable def biVal:BI→Value
 | .len=>.builtin "len" | .int=>.type "int" | .str=>.type "str" | .abs=>.builtin "abs" | .max=>.builtin "max"
theorem boot_bi:∀ b,bootBuiltins (yk3 b)=some (biVal b):=by
 intro b; cases b <;> decide +kernel
theorem bi_dbg:∀ b,(yk3 b == ("__debug__":Str))=false:=by
 intro b; cases b <;> decide +kernel
theorem bi_nm:∀ b,yk3 b≠"__name__":=by
 intro b; cases b <;> decide +kernel
theorem yw3 {x:Str} {s:List Nat} (hx:x.cps.toList=s) (h:zz1 s=true):PySem.intText? x=some ((zd2 s:Nat):Int)∧x.length≤640:=by
 subst hx
 unfold zz1 at h
 simp only [Bool.and_eq_true,Bool.not_eq_true',decide_eq_true_eq] at h
 obtain ⟨⟨h1,h2⟩,h3⟩:=h
 haveI hl:x.length≤640:=by
  show x.cps.size≤640
  rw [← Array.length_toList]; exact h3
 refine ⟨PySem.intText_digits (fun c hc=>?_) (fun e=>?_) (by exact j359 hl),hl⟩
 ·haveI:=List.all_eq_true.mp h2 c hc
  simpa using this
 ·rw [e] at h1; simp at h1
theorem ya7 {l:List PV} {a:PV} (h:arg1 l=some a):l=[a]:=by
 match l,h with
 | [b],h=>exact congrArg (fun x=>[x]) (Option.some.inj h)
 | [],h=>exact nn h
 | _::_::_,h=>exact nn h
theorem wh6 {l:List PV} {p:PV × PV} (h:arg2 l=some p):l=[p.1,p.2]:=by
 match l,h with
 | [],h=>exact nn h
 | a::r,h =>
  obtain ⟨b,hb,e⟩:=om h
  subst e
  rw [ya7 hb]
theorem RepA.one {base:Heap} {ta:Nat→Option Addr} {news:List (Addr × Obj)} {ls:List Addr} {vs:List Value} {d:PV} (hr:RepA base ta news ls vs [d]):∃ v,vs=[v]∧RepV base ta news ls v d:=by
 cases hr with | cons h1 h2=>cases h2; exact ⟨_,rfl,h1⟩
theorem len_ok (gok:Γ.Ok) (cok:c.Ok Γ) {env:Env'} {σ:za7} {h:Heap} {tk:Nat} {news:List (Addr × Obj)} {ls:List Addr} {d pv:PV} {v:Value} {Q:Value→Shared→Prop}
  (I:Inv Γ c h env σ news ls) (r:RepV Γ.base Γ.ta news ls v d) (hb:lenP σ d=some pv) (hq:∀ v h' tk',Inv Γ c h' env σ news ls→RepV Γ.base Γ.ta news ls v pv→Q v (Γ.st h' tk')) :
  wpAny (model Γ.prog Γ.w) c.A (call (.builtin "len") [v]) Q c.E (Γ.st h tk):=by
 have hszl:szL=16777216:=rfl
 cases r with
 | @str x t s hx hc =>
  refine ifC hb fun hs e=>?_
  cases e
  haveI hxl:x.length=s.length:=by rw [← hx]; exact Array.length_toList.symm
  refine PyProof.Rows.len_str (by rw [hxl]; lia) ?_
  rw [hxl]
  exact hq _ h _ I (.int _ _)
 | @list a ws n ds hat ra =>
  refine ifC hb fun hs e=>?_
  cases e
  haveI hl:(Γ.st h tk).heap.IsList a ws.toArray:=⟨_,I.get gok cok _ _ hat,rfl,n,rfl⟩
  haveI hw:=ra.length
  refine len_list hl (by rw [List.size_toArray,hw]; lia) ?_
  rw [List.size_toArray,hw]
  exact hq _ h _ I (.int _ _)
 | @loc a k hk =>
  obtain ⟨l,hl',e⟩:=om hb
  subst e
  obtain ⟨ws,n,hm,ra⟩:=I.S.at' k a l hk hl'
  haveI hsm:=I.S.small l (List.mem_of_getElem? hl')
  haveI hl:(Γ.st h tk).heap.IsList a ws.toArray:=⟨_,(I.N _ hm).1,rfl,n,rfl⟩
  haveI hw:=ra.length
  refine len_list hl (by rw [List.size_toArray,hw]; lia) ?_
  rw [List.size_toArray,hw]
  exact hq _ h _ I (.int _ _)
 | _=>exact nn hb
theorem call_bi (gok:Γ.Ok) (cok:c.Ok Γ) {env:Env'} {σ:za7} {h:Heap} {tk:Nat} {news:List (Addr × Obj)} {ls:List Addr} {b:BI} {args:List PV} {vs:List Value} {pv:PV} {Q:Value→Shared→Prop}
  (I:Inv Γ c h env σ news ls) (r:RepA Γ.base Γ.ta news ls vs args) (hb:biP σ b args=some pv) (hq:∀ v h' tk',Inv Γ c h' env σ news ls→RepV Γ.base Γ.ta news ls v pv→Q v (Γ.st h' tk')) :
  wpAny (model Γ.prog Γ.w) c.A (call (biVal b) vs) Q c.E (Γ.st h tk):=by
 cases b with
 | len =>
  refine obC hb fun a ha hb1=>?_
  obtain rfl:=ya7 ha
  obtain ⟨v,rfl,rv⟩:=r.one
  exact len_ok gok cok I rv hb1 hq
 | int =>
  refine obC hb fun a ha hb1=>?_
  refine obC hb1 fun s hs hb2=>?_
  refine ifC hb2 fun hd e=>?_
  cases e
  obtain rfl:=ya7 ha
  obtain ⟨v,rfl,rv⟩:=r.one
  refine big fun Gz hGz=>?_
  obtain ⟨x,t,rfl,rfl,hx,hc⟩:=rv.asStr hs <;> refine hGz ?_
  obtain ⟨h1,h2⟩:=yw3 hx hd
  exact KIN.call_text h1 h2 (hq _ h _ I (.int _ _))
 | str =>
  refine obC hb fun a ha hb1=>?_
  refine obC hb1 fun i hi hb2=>?_
  refine ifC hb2 fun hs e=>?_
  cases e
  obtain rfl:=ya7 ha
  obtain ⟨v,rfl,rv⟩:=r.one
  obtain ⟨t,rfl,rfl⟩:=rv.asInt hi
  refine P.str_of_int ?_ (hq _ h _ I (.str _ _ ?_ ?_))
  ·rcases Nat.eq_zero_or_pos i.natAbs with h0 | hp
   ·rw [h0]; decide
   ·refine (Nat.log2_lt (Nat.ne_of_gt hp)).mpr (Nat.lt_of_lt_of_le hs ?_)
    decide +kernel
  ·show (Str.ofString (toString i)).cps.toList=_
   rw [Str.ofString_eq_toList]; rfl
  ·intro d hd
   apply Decidable.byContradiction
   intro hnd
   haveI:=int_text_free' d ⟨by lia,.inr (by exact j360 hnd)⟩ i
   apply this
   rw [Str.ofString_eq_toList]
   exact hd
 | abs =>
  refine obC hb fun a ha hb1=>?_
  obtain ⟨i,hi,e⟩:=om hb1
  subst e
  obtain rfl:=ya7 ha
  obtain ⟨v,rfl,rv⟩:=r.one
  obtain ⟨t,rfl,rfl⟩:=rv.asInt hi
  refine call_abs_int fun u tk'=>?_
  haveI e:(if i < 0 then -i else i)=(i.natAbs:Int):=by split <;> lia
  rw [e]
  exact hq _ h tk' I (.int _ _)
 | max =>
  refine obC hb fun a ha hb1=>?_
  refine obC hb1 fun i hi hb2=>?_
  obtain ⟨j,hj,e⟩:=om hb2
  subst e
  obtain rfl:=wh6 ha
  cases r with
  | cons r1 r2 =>
   obtain ⟨v,rfl,r3⟩:=r2.one
   obtain ⟨t,rfl,e1⟩:=r1.asInt hi
   obtain ⟨u,rfl,e2⟩:=r3.asInt hj
   refine max_two_ints rfl fun h' tk' hk=>?_
   split
   ·exact hq _ h' tk' (I.keeps hk) (by rw [Int.max_eq_right (by exact Int.le_of_lt ‹_›)]; exact .int _ _)
   ·exact hq _ h' tk' (I.keeps hk) (by rw [Int.max_eq_left (by exact Int.not_lt.mp ‹_›)]; exact .int _ _)
theorem se_bi (gok:Γ.Ok) (cok:c.Ok Γ) {b:BI} {x:Str} (hx:x=yk3 b) {np pos:Pos} {es:List Expr} {f:Env'→za7→Out (List PV × za7)} (hl:c.cs.names.lookup x=some .globalImplicit)
  (hne:es≠[]) (hst:∀ e∈es,zm0 e=false) (hf:∀ pos,SL Γ c (spliced (backTo pos (starEach es c.env))) f) :
  SE Γ c (eval (.Call (.Name x np) es [] pos) c.env) (fun env σ=>(f env σ).bind fun r=>zi0 r.2 (biP r.2 b r.1)):=by
 subst hx
 intro env σ h tk news ls Q I hp
 have hX:=gok.X.keeps cok.B.stays
 refine Call_ ?_
 obtain ⟨⟨m,F,hm⟩,N,S,G⟩:=id I
 refine wm9 (s:=Γ.st h tk) F hX (topRead_of (gok.T.keeps cok.B.stays)) (gok.nobi b) (boot_bi b) (bi_nm b) ?_ cok.kind hl (bi_dbg b)
 have body:=hf pos env σ h tk news ls (fun vs s₁=>wpAny (model Γ.prog Γ.w) c.A (call (biVal b) vs) Q c.E s₁) I (Post.bind hp fun r vs h1 tk1 n1 l1 I1 R1 g1 hp1=>by
  refine Post.liftC hp1 fun pv hb hp2=>?_
  exact call_bi gok cok I1 R1 hb fun v h' tk' I' rv=>hp2 v h' tk' n1 l1 I' rv Grow.refl)
 cases es with
 | nil=>exact absurd rfl hne
 | cons e rest =>
  have he:=hst e (.head _)
  haveI hr:=zt8 (pos:=pos) (env:=c.env) rest fun e he=>hst e (.tail _ he)
  cases b
  ·exact callWith_builtin1 body (zg2 he) hr
  ·exact PyProof.Rows.callWith_type1 body (zg2 he) hr
  ·exact PyProof.Rows.callWith_type1 body (zg2 he) hr
  ·exact callWith_builtin1 body (zg2 he) hr
  ·exact callWith_builtin1 body (zg2 he) hr
end
end Mine
namespace Mine
set_option tactic.hygienic false
open PySem PySem.W PySem.Calls PyProof.Rows
section
variable {Γ:GC} {c:FC} {C:Nat→List PV→za7→Out (PV × za7)}
noncomputable def isAN (d:Nat):Bool:=(48≤d && d≤57) || (65≤d && d≤90) || (97≤d && d≤122)
theorem yk9:∀ d:Nat,d < 128→Txt.isalnum ⟨#[d]⟩=isAN d:=by
 decide +kernel
noncomputable def meId:ME→String
 | .append=>"list.append" | .pop=>"list.pop" | .get=>"dict.get" | .isalnum=>"str.isalnum"
noncomputable def meName:ME→Str
 | .append=>"append" | .pop=>"pop" | .get=>"get" | .isalnum=>"isalnum"
noncomputable def meT:ME→String
 | .append=>"list" | .pop=>"list" | .get=>"dict" | .isalnum=>"str"
theorem me_attrs:∀ m,PlainAttrs (meT m):=by
 intro m; cases m
 ·exact F.plainAttrs_list
 ·exact F.plainAttrs_list
 ·exact F.plainAttrs_dict
 ·exact F.plainAttrs_str
theorem me_slot:∀ m,Slot (meT m) (meName m) (meId m):=by
 intro m; cases m
 ·exact F.slot_list_append
 ·exact F.slot_list_pop
 ·exact F.slot_dict_get
 ·exact F.slot_str_isalnum
theorem me_ty:∀ m,typeOf (.builtin (meId m))=pure (.type "method_descriptor"):=by
 intro m; cases m
 ·exact F.type_list_append
 ·exact F.type_list_pop
 ·exact F.type_dict_get
 ·exact F.type_str_isalnum
theorem recv_ok (gok:Γ.Ok) (cok:c.Ok Γ) {env:Env'} {σ:za7} {h:Heap} {tk:Nat} {news:List (Addr × Obj)} {ls:List Addr} {m:ME} {p:PV} {v:Value}
  (I:Inv Γ c h env σ news ls) (r:RepV Γ.base Γ.ta news ls v p) (hm:yc2 m p=true):(Γ.st h tk).TypeIs v (meT m)∧(∀ a,v=.ref a→∃ ob,(Γ.st h tk).heap.get? a=some ob∧ob.dict=none):=by
 haveI hloc:∀ {a:Addr} {k:Nat},ls[k]?=some a→∃ vs n,h.get? a=some (lstO vs n):=by
  intro a k hk
  have hlt:k < σ.length:=by rw [← I.S.len]; exact (List.getElem?_eq_some_iff.mp hk).1
  obtain ⟨vs,n,h3,_⟩:=I.S.at' k a (σ[k]) hk (List.getElem?_eq_getElem hlt)
  exact ⟨vs,n,(I.N _ h3).1⟩
 have hl:∀ {k:Nat},p.l?=some k→∃ a,v=.ref a∧ls[k]?=some a:=by
  intro k hk
  cases r with
  | loc h=>exact Option.some.inj hk ▸ ⟨_,rfl,h⟩
  | _=>exact nn hk
 have tl:yc2 .append p=true→(Γ.st h tk).TypeIs v "list"∧(∀ a,v=.ref a→∃ ob,(Γ.st h tk).heap.get? a=some ob∧ob.dict=none):=by
  intro hm
  obtain ⟨k,hk⟩:=Option.isSome_iff_exists.mp hm
  obtain ⟨a,rfl,hk⟩:=hl hk
  obtain ⟨vs,n,ho⟩:=hloc hk
  exact ⟨⟨_,ho,rfl⟩,fun b e=>by cases e; exact ⟨_,ho,rfl⟩⟩
 cases m with
 | append=>exact tl hm
 | pop=>exact tl hm
 | get =>
  cases r with
  | @tab a k hk =>
   refine big fun Gz hGz=>?_
   obtain ⟨_,es,n,hl,hkl,_⟩:=gok.tabs k a [] hk <;> refine hGz ?_
   have hX:Γ.KF.In h:=by
    obtain ⟨mm,F,_⟩:=I.fr
    exact (gok.X.keeps cok.B.stays).keeps F.keep
   exact ⟨⟨_,hX _ _ hl,rfl⟩,fun b e=>by cases e; exact ⟨_,hX _ _ hl,rfl⟩⟩
  | _=>exact nb hm
 | isalnum =>
  cases r with
  | str x t hx hc=>exact ⟨typeIs_str _ _ _,fun b e=>nomatch e⟩
  | _=>exact nb hm
theorem Post.on {α:Type} {env:Env'} {news:List (Addr × Obj)} {ls:List Addr} {Q:Value→Shared→Prop} {o:Option α} {f:α→Out (PV × za7)} (h:Post (RV Γ) Γ c env news ls Q (onO o f)):∃ a,o=some a∧Post (RV Γ) Γ c env news ls Q (f a):=by
 cases o with
 | some a=>exact ⟨a,rfl,h⟩
 | none=>exact h.elim
theorem l?_of {base:Heap} {ta:Nat→Option Addr} {n1:List (Addr × Obj)} {l1:List Addr} {v:Value} {p:PV} {k:Nat} (r:RepV base ta n1 l1 v p) (hk:p.l?=some k):∃ a,v=.ref a∧l1[k]?=some a:=by
 cases r with
 | loc h=>exact Option.some.inj hk ▸ ⟨_,rfl,h⟩
 | _=>exact nn hk
theorem t?_of {base:Heap} {ta:Nat→Option Addr} {n1:List (Addr × Obj)} {l1:List Addr} {v:Value} {p:PV} {k:Nat} (r:RepV base ta n1 l1 v p) (hk:p.t?=some k):∃ a,v=.ref a∧ta k=some a:=by
 cases r with
 | tab h=>exact Option.some.inj hk ▸ ⟨_,rfl,h⟩
 | _=>exact nn hk
theorem nil?_of {l:List PV} {u:Unit} (h:nil? l=some u):l=[]:=by
 cases l with
 | nil=>rfl
 | cons a r=>exact nn h
theorem wk6 (gok:Γ.Ok) (cok:c.Ok Γ) {env:Env'} {σ:za7} {h:Heap} {tk:Nat} {news:List (Addr × Obj)} {ls:List Addr} {m:ME} {p:PV} {args:List PV} {v:Value} {vs:List Value} {Q:Value→Shared→Prop}
  (I:Inv Γ c h env σ news ls) (r:RepV Γ.base Γ.ta news ls v p) (ra:RepA Γ.base Γ.ta news ls vs args) (hp:Post (RV Γ) Γ c env news ls Q (meP m p args σ)) :
  wpAny (model Γ.prog Γ.w) c.A (call (.builtin (meId m)) (v::vs)) Q c.E (Γ.st h tk):=by
 haveI hszl:szL=16777216:=rfl
 haveI hsl:=sizeLine_eq
 cases m with
 | append =>
  obtain ⟨k,hk,hp1⟩:=hp.on
  obtain ⟨d,hd,hp2⟩:=hp1.on
  obtain rfl:=ya7 hd
  obtain ⟨a,rfl,hk⟩:=l?_of r hk
  obtain ⟨v1,rfl,r1⟩:=ra.one
  unfold appP at hp2
  cases hl:σ[k]? with
  | none=>rw [hl] at hp2; exact hp2.elim
  | some l =>
   rw [hl] at hp2
   dsimp only at hp2
   by_cases hlt:l.length < szL
   ·rw [if_pos hlt] at hp2
    refine big fun Gz hGz=>?_
    obtain ⟨ws,n,hm,rw'⟩:=I.S.at' k a l hk hl <;> refine hGz ?_
    haveI hw:=rw'.length
    refine append_at (s:=Γ.st h tk) (n:=n) (its:=ws.toArray) (I.N _ hm).1 (fun h' hs ho=>?_) (by rw [List.size_toArray]; exact j361 hlt hszl hw hsl)
    obtain ⟨news',I',g⟩:=I.turn gok cok (vs':=ws++[_]) hk hl hm hs (by simpa only [List.push_toArray] using ho) (rw'.append (.cons r1 .nil)) (by rw [List.length_append]; show _+1≤_; exact j362 hlt)
    exact hp2 _ h' tk news' ls I' .none g
   ·rw [if_neg hlt] at hp2; exact hp2.elim
 | pop =>
  obtain ⟨k,hk,hp1⟩:=hp.on
  obtain ⟨d,hd,hp2⟩:=hp1.on
  obtain rfl:=nil?_of hd
  obtain ⟨a,rfl,hk⟩:=l?_of r hk
  cases ra
  unfold popP at hp2
  cases hl:σ[k]? with
  | none=>rw [hl] at hp2; exact hp2.elim
  | some l =>
   rw [hl] at hp2
   dsimp only at hp2
   cases hla:l.getLast? with
   | none=>rw [hla] at hp2; exact hp2.elim
   | some d =>
    rw [hla] at hp2
    obtain ⟨ws,n,hm,rw'⟩:=I.S.at' k a l hk hl
    have hw:=rw'.length
    have hsm:=I.S.small l (List.mem_of_getElem? hl)
    obtain ⟨v',hv',rv⟩:=rw'.last hla
    have ho:(Γ.st h tk).heap.get? a=some (lstO ws n):=(I.N _ hm).1
    have hwne:ws≠[]:=by intro e; rw [e] at hv'; exact nn hv'
    have hpos:0 < ws.length:=List.length_pos_iff.mpr hwne
    have e1:ws.toArray.eraseIdxIfInBounds (ws.toArray.size - 1)=ws.dropLast.toArray:=by
     apply Array.toList_inj.mp
     rw [Array.eraseIdxIfInBounds]
     haveI hlt:ws.length - 1 < ws.length:=by exact Nat.sub_one_lt_of_lt hpos
     simp [hlt]
    haveI e2:Obj.mapSeq (fun xs=>xs.eraseIdxIfInBounds (ws.toArray.size - 1)) (lstO ws n)=lstO ws.dropLast (n+1):=by
     simp only [Obj.mapSeq,e1]
     congr 1
     simp only [List.size_toArray,List.length_dropLast]
     rw [if_neg]
     simp
     exact j494 hpos
    refine call_meets (s:=Γ.st h tk) F.slot_list_pop ⟨_,ho,rfl⟩ F.entry_list_pop (F.args_list_pop_1 _) (MeetsSeq.list_pop_last a ws.toArray n v' ?_ (by rw [List.size_toArray]; exact j363 hw hsm hszl hsl)) ⟨ho,?_⟩
    ·rw [List.getLast?_eq_getElem?] at hv'
     rw [List.size_toArray,List.getElem?_toArray]; exact hv'
    ·obtain ⟨news',I',g⟩:=I.turn gok cok (h':=h.update a (Obj.mapSeq fun xs=>xs.eraseIdxIfInBounds (ws.toArray.size - 1))) (vs':=ws.dropLast) (n':=n+1) hk hl hm (Heap.SameBut.update ..)
      ((Heap.get?_update_self (h:=h) _ ho (by rw [e2]; rfl)).trans (congrArg some e2)) rw'.dropLast (by rw [List.length_dropLast]; lia)
     exact hp2 _ _ tk news' ls I' (rv.mono g) g
 | get =>
  obtain ⟨k,hk,hp1⟩:=hp.on
  obtain ⟨q,hq,hp2⟩:=hp1.on
  obtain ⟨s,hs,hp3⟩:=hp2.on
  obtain ⟨dd,hdd,hp4⟩:=hp3.on
  obtain rfl:=wh6 hq
  obtain ⟨a,rfl,hk⟩:=t?_of r hk
  cases ra with
  | cons r1 r2 =>
   obtain ⟨v2,rfl,r3⟩:=r2.one
   obtain ⟨x,t,rfl,_,hx,hc⟩:=r1.asStr hs
   rw [i?_of hdd] at r3
   refine big fun Gz hGz=>?_
   obtain ⟨lo,es,n,hl,hkl,hm⟩:=gok.tabs _ _ s hk <;> refine hGz ?_
   have hX:Γ.KF.In h:=by
    obtain ⟨m,F,_⟩:=I.fr
    exact (gok.X.keeps cok.B.stays).keeps F.keep
   haveI hmo:=mapOf_K (prog:=Γ.prog) (w:=Γ.w) hX hl hkl
   rw [← yt5 hx] at hm
   refine call_meetsIn (s:=Γ.st h tk) F.slot_dict_get hmo.typeIs F.entry_dict_get (F.args_dict_get_3 _ _ _) (meets_dict_get_default (strKind Γ.prog Γ.w) a (strKind_is Γ.prog Γ.w x t) lo _) ⟨_,hmo,?_⟩
   cases htp:tabP k s with
   | none =>
    rw [htp] at hm hp4
    rw [find_K hl hm]
    exact hp4 _ h _ news ls I r3 Grow.refl
   | some pv =>
    rw [htp] at hm hp4
    obtain ⟨v',hv',rv⟩:=hm
    rw [find_K hl hv']
    exact hp4 _ h _ news ls I (rv.mono yk8) Grow.refl
 | isalnum =>
  obtain ⟨s,hs,hp1⟩:=hp.on
  obtain ⟨u,hu,hp2⟩:=hp1.on
  obtain ⟨d,hd1,hp3⟩:=hp2.on
  obtain rfl:=nil?_of hu
  cases ra
  obtain ⟨x,t,rfl,_,hx,hc⟩:=r.asStr hs
  by_cases hd:d < 128
  ·rw [if_pos hd] at hp3
   refine SC.isalnum (hp3 _ h _ news ls I ?_ Grow.refl)
   rw [one_of hd1] at hx
   haveI:=yt5 hx
   subst this
   rw [show (⟨[d].toArray⟩:Str)=⟨#[d]⟩ from rfl,yk9 d hd]
   exact .bool _
  ·rw [if_neg hd] at hp3; exact hp3.elim
theorem zz4 {o:Expr} {name:Str} {env:Env} (h:yj6 o=false):attributeBase o name env (eval o env)=eval o env:=by
 cases o <;> first | rfl | exact nb h.symm
theorem kw_none {pos:Pos} {env:Env}:backToKw pos (keywordEach [] env)=[]:=rfl
theorem star_all {pos:Pos} {env:Env} (es:List Expr) (h:∀ e∈es,zm0 e=false):(backTo pos (starEach es env)).all (fun x=>!x.1)=true:=by
 haveI:=zt8 (pos:=pos) (env:=env) es h
 rw [List.any_eq_false] at this
 rw [List.all_eq_true]
 intro x hx
 haveI:=this x hx
 simpa using this
theorem se_me (gok:Γ.Ok) (cok:c.Ok Γ) {m:ME} {x:Str} (hx:x=meName m) {o:Expr} {apos pos:Pos} {es:List Expr} {fo:EV} {f:Env'→za7→Out (List PV × za7)}
  (hcall:yj6 o=false) (hline:(apos.endLine == pos.line)=true) (hlen:es.length < 20) (hst:∀ e∈es,zm0 e=false) (hnil:es=[]→∀ env σ,f env σ=.ok ([],σ))
  (ho:SE Γ c (eval o c.env) fo) (hf:∀ pos,SL Γ c (spliced (backTo pos (starEach es c.env))) f) :
  SE Γ c (eval (.Call (.Attribute o x apos) es [] pos) c.env) (fun env σ=>(fo env σ).bind fun r=>match yc2 m r.1 with | true=>(f env r.2).bind fun q=>meP m r.1 q.1 q.2 | false=>.stuck):=by
 subst hx
 intro env σ h tk news ls Q I hp
 haveI hall:=star_all (pos:=pos) (env:=c.env) es hst
 refine wpAny_Call_method_lateS (zz4 hcall) ?_ hline (ho env σ h tk news ls _ I (Post.bind hp fun r v h1 tk1 n1 l1 I1 R1 g1 hp1=>?_))
 ·rw [hall,kw_none]
  simp
  exact j364 hlen
 cases hr:yc2 m r.1 with
 | false=>rw [hr] at hp1; exact hp1.elim
 | true =>
  rw [hr] at hp1
  dsimp only at hp1
  obtain ⟨hT,hd⟩:=recv_ok (tk:=tk1) gok cok I1 R1 hr
  refine ⟨meT m,meId m,me_attrs m,me_slot m,me_ty m,hT,hd,?_⟩
  cases es with
  | nil =>
   rw [hnil rfl] at hp1
   exact callWith_method0 (wk6 gok cok I1 R1 .nil hp1)
  | cons e rest =>
   haveI body:=hf pos env r.2 h1 tk1 n1 l1 (fun vs s₁=>wpAny (model Γ.prog Γ.w) c.A (call (.builtin (meId m)) ([v]++vs)) Q c.E s₁) I1 (Post.bind hp1 fun q vs h2 tk2 n2 l2 I2 R2 g2 hp2 =>
    wk6 gok cok I2 (R1.mono g2) R2 hp2)
   exact callWith_method1 body (zg2 (hst e (.head _))) (zt8 rest fun e he=>hst e (.tail _ he))
theorem yy5 {f:Expr→Option PE}:∀ {es:List Expr} {ps:PEs},cL f es=some ps→∀ e∈es,∃ pe,f e=some pe
 | [],_,_,_,h=>nomatch h
 | e::r,ps,h,x,hx=>by
  simp only [cL,Option.bind_eq_some_iff,Option.map_eq_some_iff] at h
  obtain ⟨a,ha,b,hb,_⟩:=h
  rcases List.mem_cons.mp hx with rfl | hx
  ·exact ⟨a,ha⟩
  ·exact yy5 hb x hx
theorem cL_nil {f:Expr→Option PE} {ps:PEs} (h:cL f []=some ps):ps=.nil:=by simp only [cL,Option.some.injEq] at h; exact h.symm
theorem yx0 {α:Type} {l:List α} {a:α} (h:one1 l=some a):l=[a]:=by
 match l,h with
 | [b],h=>exact congrArg (fun x=>[x]) (Option.some.inj h)
 | [],h=>exact nn h
 | _::_::_,h=>exact nn h
theorem yg4 {α:Type} {l:List α} {u:Unit} (h:nil1 l=some u):l=[]:=by
 cases l with
 | nil=>rfl
 | cons a r=>exact nn h
theorem cBi_of {x:Str} {b:BI} (hb:cBi x=some b):x=yk3 b:=by
 unfold cBi at hb
 repeat' (split at hb)
 all_goals (first | (cases hb; exact beq_iff_eq.mp (by assumption)) | cases hb)
theorem cMe_of {x:Str} {b:ME} (hb:cMe x=some b):x=meName b:=by
 unfold cMe at hb
 repeat' (split at hb)
 all_goals (first | (cases hb; exact beq_iff_eq.mp (by assumption)) | cases hb)
theorem sound_E (gok:Γ.Ok) (cok:c.Ok Γ) (hC:zn3 Γ c C) {X:CX} (hsc:X.sc=c.cs) (hnm:X.nm=c.nm) (hdn:X.dn=dnames) (hgc:X.gc=consts) :
  ∀ n e pe,cE X n e=some pe→EOk Γ c C e pe:=by
 intro n
 induction n with
 | zero=>exact fun e pe h=>nn h
 | succ n IH =>
  have IH1:∀ e pe,cE X n e=some pe→SE Γ c (eval e c.env) (ev C pe).1:=fun e pe h=>(IH e pe h).se
  have hL:=yy1 gok cok IH
  have hglob:∀ {x:Str},zw1 X x=true→c.cs.names.lookup x=some .globalImplicit∧(x == ("__debug__":Str))=false:=by
   intro x h
   unfold zw1 at h
   simp only [Bool.and_eq_true,beq_iff_eq,Bool.not_eq_true'] at h
   rw [← hsc]; exact h
  have plain:∀ {e:Expr} {pe:PE} {f:EV},SE Γ c (eval e c.env) f→ev C pe=wV f→isTrue e c.env (eval e c.env)=(do let v ← eval e c.env; standAt e.pos; holding [v] (truthy v))→zm0 e=false→EOk Γ c C e pe :=
   fun h hp he hs=>⟨by rw [hp]; exact h,by rw [hp]; exact sb_plain gok cok h he,hs⟩
  intro e pe h
  cases e with
  | Constant k kk pos =>
   replace h:cK k=some pe:=h
   cases k with
   | none=>cases h; exact plain (yx5 (C:=C)) rfl rfl rfl
   | bool _=>cases h; exact plain (yw9 (C:=C)) rfl rfl rfl
   | int _=>cases h; exact plain (ya8 (C:=C)) rfl rfl rfl
   | str _ =>
    refine ifC h fun hx h=>?_
    cases h
    exact plain (yi6 (C:=C) hx) rfl rfl rfl
   | _=>exact nn h
  | Name x pos =>
   replace h:cN X x=some pe:=h
   unfold cN at h
   cases hk:slot X x with
   | some k =>
    rw [hk] at h
    cases h
    exact plain (zv8 (C:=C) gok cok ⟨hsc,hnm⟩ hk) rfl rfl rfl
   | none =>
    rw [hk] at h
    refine ifC h fun hg h=>?_
    refine omC h fun pv hpv=>?_
    obtain ⟨h1,h2⟩:=hglob hg
    rw [hgc] at hpv
    exact plain (se_glob (C:=C) gok cok h1 h2 hpv) rfl rfl rfl
  | BinOp l op r pos =>
   refine obC (show ((cO op).bind fun o=>(cE X n l).bind fun a=>(cE X n r).map fun b=>PE.bin o a b)=some pe from h) fun o ho h=>?_
   refine obC h fun a ha h=>?_
   refine omC h fun b hb=>?_
   exact plain (yt7 gok cok ho (IH1 _ _ ha) (IH1 _ _ hb)) rfl rfl rfl
  | UnaryOp op x pos =>
   replace h:cUn (cE X n) op x=some pe:=h
   cases op with
   | Not =>
    refine omC (show (cE X n x).map PE.not=some pe from h) fun a ha=>?_
    exact ⟨se_not gok cok (IH1 _ _ ha),sb_not gok cok (IH _ _ ha).sb,rfl⟩
   | USub =>
    refine omC (show (cE X n x).map PE.neg=some pe from h) fun a ha=>?_
    exact plain (se_neg gok cok (IH1 _ _ ha)) rfl rfl rfl
   | _=>exact nn h
  | BoolOp op vs pos =>
   replace h:(if vs.isEmpty then none else (cL (cE X n) vs).map fun es=>PE.bool (op == .And) es)=some pe:=h
   cases vs with
   | nil=>exact nn h
   | cons v vs =>
    refine omC (show ((cL (cE X n) (v::vs)).map fun es=>PE.bool (op == .And) es)=some pe from h) fun es hes=>?_
    obtain ⟨_,hb,ha,_⟩:=hL (v::vs) es hes
    exact ⟨hb nofun op pos,ha op pos _,rfl⟩
  | Compare l ops cs pos =>
   refine obC (show ((one1 ops).bind fun op=>(one1 cs).bind fun r=>(cE X n l).bind fun a=>(cE X n r).map fun b=>PE.cmp (cC op) a b)=some pe from h) fun op ho h=>?_
   refine obC h fun r hr h=>?_
   refine obC h fun a ha h=>?_
   refine omC h fun b hb=>?_
   obtain rfl:=yx0 ho
   obtain rfl:=yx0 hr
   haveI hm:behindInMarks op r=false:=by
    cases n with
    | zero=>exact nn hb
    | succ n=>cases r <;> first | rfl | exact nn hb
   exact ⟨se_cmp gok cok hm (IH1 _ _ ha) (IH1 _ _ hb),sb_cmp gok cok hm (IH1 _ _ ha) (IH1 _ _ hb),rfl⟩
  | IfExp t a b pos =>
   refine obC (show ((cE X n t).bind fun t=>(cE X n a).bind fun a=>(cE X n b).map fun b=>PE.ite t a b)=some pe from h) fun t' ht h=>?_
   refine obC h fun a' ha h=>?_
   refine omC h fun b' hb=>?_
   exact ⟨se_ite gok cok (IH _ _ ht).sb (IH1 _ _ ha) (IH1 _ _ hb),sb_ite gok cok (IH _ _ ht).sb (IH _ _ ha).sb (IH _ _ hb).sb,rfl⟩
  | Call fn args kws pos =>
   refine obC (show ((nil1 kws).bind fun _=>cCall X (cE X n) fn args pos)=some pe from h) fun u hu h=>?_
   obtain rfl:=yg4 hu
   cases fn with
   | Name x np =>
    refine ifC (show cCallN X (cE X n) x args=some pe from h) fun hg h=>?_
    obtain ⟨h1,h2⟩:=hglob hg
    refine obC h fun es hes h=>?_
    obtain ⟨hv,_,_,_,_⟩:=hL args es hes
    have hst:∀ e∈args,zm0 e=false:=fun e he=>by
     obtain ⟨pe,hpe⟩:=yy5 hes e he
     exact (IH e pe hpe).st
    have hnil:args=[]→∀ env σ,(evs C es).vals env σ=.ok ([],σ):=by
     intro e; subst e
     rw [cL_nil hes]; intro env σ; rfl
    cases hk:X.dn.findIdx? (· == x) with
    | some k =>
     rw [hk] at h
     cases h
     rw [hdn] at hk
     exact plain (zw6 gok cok hC h1 h2 hk hst hnil hv) rfl rfl rfl
    | none =>
     rw [hk] at h
     cases args with
     | nil=>exact nn h
     | cons a0 ar =>
      refine omC (show ((cBi x).map fun b=>PE.bi b es)=some pe from h) fun b hb=>?_
      exact plain (se_bi gok cok (cBi_of hb) h1 nofun hst hv) rfl rfl rfl
   | Attribute o m apos =>
    refine ifC (show cCallA (cE X n) o m (!yj6 o && (apos.endLine == pos.line) && decide (args.length < 20)) args=some pe from h) fun hcond h=>?_
    refine andC hcond fun hc hc3=>?_
    refine andC hc fun hc1 hc2=>?_
    refine obC h fun mm hmm h=>?_
    refine obC h fun o' ho h=>?_
    refine omC h fun es hes=>?_
    obtain ⟨hv,_,_,_,_⟩:=hL args es hes
    haveI hst:∀ e∈args,zm0 e=false:=fun e he=>by
     obtain ⟨pe,hpe⟩:=yy5 hes e he
     exact (IH e pe hpe).st
    haveI hnil:args=[]→∀ env σ,(evs C es).vals env σ=.ok ([],σ):=by
     intro e; subst e
     rw [cL_nil hes]; intro env σ; rfl
    exact plain (se_me gok cok (cMe_of hmm) (by cases q:yj6 o with | false=>rfl | true=>rw [q] at hc1; exact nb hc1) hc2 (of_decide_eq_true hc3) hst hnil (IH1 _ _ ho) hv) rfl rfl rfl
   | _=>exact nn h
  | Subscript a i pos =>
   replace h:cSub (cE X n) a i=some pe:=h
   unfold cSub at h
   cases hs:ya2 i with
   | true =>
    rw [hs,if_pos rfl] at h
    cases i with
    | Slice lo hi st p =>
     cases st with
     | some _=>exact nn h
     | none =>
      refine obC (show ((cE X n a).bind fun a=>(cOpt (cE X n) lo).bind fun lo=>(cOpt (cE X n) hi).map fun hi=>PE.cut a lo hi)=some pe from h) fun a' ha h=>?_
      refine obC h fun lo' hlo h=>?_
      refine omC h fun hi' hhi=>?_
      exact plain (yz1 gok cok (IH1 _ _ ha) (part_ok gok cok IH1 hlo) (part_ok gok cok IH1 hhi)) rfl rfl rfl
    | _=>exact nb hs
   | false =>
    rw [hs,if_neg Bool.false_ne_true] at h
    refine obC h fun a' ha h=>?_
    refine omC h fun i' hi=>?_
    exact plain (se_idx gok cok hs (IH1 _ _ ha) (IH1 _ _ hi)) rfl rfl rfl
  | Tuple es k pos =>
   refine ifC (show (if es.length≤1000 then (cL (cE X n) es).map .tup else none)=some pe from h) fun hlen h=>?_
   refine omC h fun ps hps=>?_
   obtain ⟨hv,_,_,_,hll⟩:=hL es ps hps
   exact plain (se_tup gok cok hlen hll (hv pos)) rfl rfl rfl
  | List es pos =>
   refine ifC (show (if es.length≤1000 then (cL (cE X n) es).map .lst else none)=some pe from h) fun hlen h=>?_
   refine omC h fun ps hps=>?_
   obtain ⟨hv,_,_,_,hll⟩:=hL es ps hps
   exact plain (se_lst gok cok hlen hll (hv pos)) rfl rfl rfl
  | _=>exact nn h
end
end Mine
namespace Mine
set_option tactic.hygienic false
set_option genSizeOfSpec false
set_option genSizeOf false
set_option genInjectivity false
open PySem PySem.W PySem.Calls PyProof.Rows
inductive RF (Γ:GC) (news:List (Addr × Obj)) (ls:List Addr):Flow→Fl→Prop
 | next:RF Γ news ls .next .next
 | cont:RF Γ news ls .cont .cont
 | ret {v:Value} {p:PV}:RepV Γ.base Γ.ta news ls v p→RF Γ news ls (.ret v) (.ret p)
theorem RF.mono {Γ:GC} {news news':List (Addr × Obj)} {ls ls':List Addr} {f:Flow} {g:Fl} (gr:Grow news ls news' ls') (h:RF Γ news ls f g):RF Γ news' ls' f g:=by
 cases h with
 | next=>exact .next
 | cont=>exact .cont
 | ret r=>exact .ret (r.mono gr)
noncomputable def PostF (Γ:GC) (c:FC) (news:List (Addr × Obj)) (ls:List Addr) (Q:Flow→Shared→Prop):Out (Fl × Env' × za7)→Prop
 | .ok r=>∀ f h' tk' news' ls',Inv Γ c h' r.2.1 r.2.2 news' ls'→RF Γ news' ls' f r.1→Grow news ls news' ls'→Q f (Γ.st h' tk')
 | .exc=>c.may
 | .stuck=>False
noncomputable def SX (Γ:GC) (c:FC) (t:Sem Flow) (f:EX):Prop :=
 ∀ env σ h tk news ls Q,Inv Γ c h env σ news ls→PostF Γ c news ls Q (f env σ)→wpAny (model Γ.prog Γ.w) c.A t Q c.E (Γ.st h tk)
section
variable {Γ:GC} {c:FC} {C:Nat→List PV→za7→Out (PV × za7)}
theorem PostF.ifC {news:List (Addr × Obj)} {ls:List Addr} {Q:Flow→Shared→Prop} {p:Prop} [Decidable p] {o:Out (Fl × Env' × za7)} {Gz:Prop} (hp:PostF Γ c news ls Q (if p then o else .stuck)) (k:p→PostF Γ c news ls Q o→Gz):Gz:=by
 by_cases q:p
 ·rw [if_pos q] at hp; exact k q hp
 ·rw [if_neg q] at hp; exact hp.elim
theorem PostF.grow {news n':List (Addr × Obj)} {ls l':List Addr} {Q:Flow→Shared→Prop} {o:Out (Fl × Env' × za7)} (g:Grow news ls n' l') (hp:PostF Γ c news ls Q o):PostF Γ c n' l' Q o:=by
 cases o with
 | ok r=>exact fun f h' tk' n2 l2 I r g2=>hp f h' tk' n2 l2 I r (g.trans g2)
 | exc=>exact hp
 | stuck=>exact hp
section
variable {ρ' β:Type} {R':List (Addr × Obj)→List Addr→ρ'→β→Prop} {env:Env'} {news:List (Addr × Obj)} {ls:List Addr}
theorem PostF.ofBind {Q:Flow→Shared→Prop} {Q':ρ'→Shared→Prop} {o:Out (β × za7)} {f:β × za7→Out (Fl × Env' × za7)} (hp:PostF Γ c news ls Q (o.bind f))
  (k:∀ r v h' tk' n' l',Inv Γ c h' env r.2 n' l'→R' n' l' v r.1→Grow news ls n' l'→PostF Γ c n' l' Q (f r)→Q' v (Γ.st h' tk')):Post R' Γ c env news ls Q' o:=by
 cases o with
 | ok r=>exact fun v h' tk' n2 l2 I rr g=>k r v h' tk' n2 l2 I rr g (PostF.grow g hp)
 | exc=>exact hp
 | stuck=>exact hp
end
theorem PostF.bind {news:List (Addr × Obj)} {ls:List Addr} {Q Q':Flow→Shared→Prop} {o:Out (Fl × Env' × za7)} {f:Fl × Env' × za7→Out (Fl × Env' × za7)} (hp:PostF Γ c news ls Q (o.bind f))
  (k:∀ r v h' tk' n' l',Inv Γ c h' r.2.1 r.2.2 n' l'→RF Γ n' l' v r.1→Grow news ls n' l'→PostF Γ c n' l' Q (f r)→Q' v (Γ.st h' tk')):PostF Γ c news ls Q' o:=by
 cases o with
 | ok r=>exact fun v h' tk' n2 l2 I rr g=>k r v h' tk' n2 l2 I rr g (PostF.grow g hp)
 | exc=>exact hp
 | stuck=>exact hp
theorem Inv.store (cok:c.Ok Γ) {h h':Heap} {env:Env'} {σ:za7} {news:List (Addr × Obj)} {ls:List Addr} {m:Str→Option Value} {k:Nat} {x:Str} {v:Value} {pv:PV}
  (F:Fr c.g c.L h m) (hm:∀ (k:Nat) x pv,c.nm[k]?=some x→env.getD k none=some pv→∃ v,m x=some v∧RepV Γ.base Γ.ta news ls v pv) (N:News c.g c.L h news) (S:StoreOk Γ.base Γ.ta news ls σ) (G:Grow c.news₀ c.ls₀ news ls)
  (hn:c.nm[k]?=some x) (r:RepV Γ.base Γ.ta news ls v pv) (hns:h'.Ns c.L (fun y=>if y=x then some v else m y)) (hs:Heap.SameBut c.L h h'):Inv Γ c h' (env.set k (some pv)) σ news ls:=by
 refine ⟨⟨_,F.set hns hs,fun j y q hy hq=>?_⟩,N.set hs,S,G⟩
 by_cases hj:j=k
 ·subst hj
  rw [hn] at hy
  cases hy
  rw [if_pos rfl]
  by_cases hl:j < env.length
  ·rw [List.getD_eq_getElem?_getD,List.getElem?_set_self hl] at hq
   cases hq
   exact ⟨v,rfl,r⟩
  ·rw [List.getD_eq_getElem?_getD,List.getElem?_eq_none (by simp; exact j61 hl)] at hq
   cases hq
 ·haveI hne:y≠x:=fun e=>by
   subst e
   exact hj (zt7 cok.nmnd hy hn)
  rw [if_neg hne]
  rw [List.getD_eq_getElem?_getD,List.getElem?_set_ne (Ne.symm hj),← List.getD_eq_getElem?_getD] at hq
  exact hm j y q hy hq
theorem yd6 (cok:c.Ok Γ) {X:CX} (hsc:X.sc=c.cs) (hnm:X.nm=c.nm) {x:Str} {k:Nat} (hk:slot X x=some k) {h:Heap} {tk:Nat} {env:Env'} {σ:za7} {news:List (Addr × Obj)} {ls:List Addr} {v:Value} {pv:PV} {Q:Unit→Shared→Prop}
  (I:Inv Γ c h env σ news ls) (r:RepV Γ.base Γ.ta news ls v pv) (hq:∀ h' tk',Inv Γ c h' (env.set k (some pv)) σ news ls→Q () (Γ.st h' tk')) :
  wpAny (model Γ.prog Γ.w) c.A (storeName c.env x v) Q c.E (Γ.st h tk):=by
 obtain ⟨hl,hn,_⟩:=zz9 hk
 rw [hsc] at hl
 rw [hnm] at hn
 obtain ⟨⟨m,F,hm⟩,N,S,G⟩:=I
 refine wpAny_storeName_local (m:=m) hl F.ns (fun h' hn' hs'=>hq h' _ (Inv.store cok F hm N S G hn r hn' hs')) ?_
 show (c.cs.kind == .class || (c.cs.kind == .module && c.L != mainGlobals))=false
 rw [cok.kind]; rfl
noncomputable def yj0:Expr→Bool
 | .ListComp ..=>true
 | .SetComp ..=>true
 | .DictComp ..=>true
 | _=>false
theorem yd2 {e:Expr} (h:yj0 e=false) (t:Option Expr) (l:Nat) (env:Env):swapsWith e t l env=pure false:=by
 cases e <;> first | rfl | exact nb h.symm
theorem ym2 {X:CX} {n:Nat} {e:Expr} {pe:PE} (h:cE X n e=some pe):yj0 e=false:=by
 cases n with
 | zero=>exact nn h
 | succ n=>cases e <;> first | rfl | exact nn h
theorem wm1 (cok:c.Ok Γ) {X:CX} (hsc:X.sc=c.cs) (hnm:X.nm=c.nm) {x:Str} {k:Nat} {xp pos:Pos} {e:Expr} {f:EV} (hk:slot X x=some k) (hc:yj0 e=false) (he:SE Γ c (eval e c.env) f) :
  SX Γ c (exec (.Assign [.Name x xp] e pos) c.env) (fun env σ=>(f env σ).bind fun r=>.ok (.next,env.set k (some r.1),r.2)):=by
 intro env σ h tk news ls Q I hp
 refine wpAny_Assign_Name (he env σ h tk news ls _ I (PostF.ofBind hp fun r v h1 tk1 n1 l1 I1 R1 g1 hp1=>?_)) (yd2 hc _ _ _)
 exact yd6 cok hsc hnm hk I1 R1 fun h' tk' I'=>hp1 _ h' tk' n1 l1 I' .next Grow.refl
theorem sx_exp {pos:Pos} {e:Expr} {f:EV} (cok:c.Ok Γ) (hc:yj0 e=false) (he:SE Γ c (eval e c.env) f) :
  SX Γ c (exec (.Expr e pos) c.env) (fun env σ=>(f env σ).bind fun r=>match r.1 with | .none=>.ok (.next,env,r.2) | _=>.stuck):=by
 intro env σ h tk news ls Q I hp
 refine wpAny_Expr (he env σ h tk news ls _ I (PostF.ofBind hp fun r v h1 tk1 n1 l1 I1 R1 g1 hp1=>?_)) ?_ (yd2 hc _ _ _)
 ·obtain ⟨pv,σ1⟩:=r
  dsimp only at *
  cases R1 with
  | none=>exact hp1 _ h1 tk1 n1 l1 I1 .next Grow.refl
  | _=>exact hp1.elim
 ·show (c.cs.kind == .module && _)=false
  rw [cok.kind]; rfl
theorem sx_ret {pos:Pos} {e:Expr} {f:EV} (he:SE Γ c (eval e c.env) f) :
  SX Γ c (exec (.Return (some e) pos) c.env) (fun env σ=>(f env σ).bind fun r=>.ok (.ret r.1,env,r.2)):=by
 intro env σ h tk news ls Q I hp
 exact wpAny_Return_some (he env σ h tk news ls _ I (PostF.ofBind hp fun r v h1 tk1 n1 l1 I1 R1 g1 hp1=>hp1 _ h1 tk1 n1 l1 I1 (.ret R1) Grow.refl))
theorem sx_if {pos:Pos} {t:Expr} {a b:List Stmt} {ft:ET} {fa fb:EX} (ht:SB' Γ c (isTrue t c.env (eval t c.env)) ft) (ha:SX Γ c (execs a c.env) fa) (hb:SX Γ c (execs b c.env) fb) :
  SX Γ c (exec (.If t a b pos) c.env) (fun env σ=>(ft env σ).bind fun r=>match r.1 with | true=>fa env r.2 | false=>fb env r.2):=by
 intro env σ h tk news ls Q I hp
 refine wpAny_If (ht env σ h tk news ls _ I (PostF.ofBind hp fun r v h1 tk1 n1 l1 I1 R1 g1 hp1=>?_))
 obtain ⟨bb,σ1⟩:=r
 cases R1
 cases bb with
 | true=>exact ha env σ1 h1 tk1 n1 l1 Q I1 hp1
 | false=>exact hb env σ1 h1 tk1 n1 l1 Q I1 hp1
theorem aug_ok {s:Shared} {A:Around} {E:Value→Shared→Prop} {prog:Program} {w:World} {base:Heap} {ta:Nat→Option Addr} {n1 n2 news:List (Addr × Obj)} {l1 l2 ls:List Addr} {o:BO} {op:Operator} {p1 p2 p:PV} {v1 v2:Value} {Q:Value→Shared→Prop} (ho:cO op=some o) (ho':okAug o=true) (h1:RepV base ta n1 l1 v1 p1) (h2:RepV base ta n2 l2 v2 p2) (hp:binP o p1 p2=some p)
  (h:∀ v tk,RepV base ta news ls v p→Q v { s with toks:=tk }):wpAny (model prog w) A (inplaceOp op v1 v2) Q E s:=by
 cases op with
 | Add =>
  cases ho
  cases h1 with
  | int i t =>
   obtain ⟨j,hj,e⟩:=om (show (p2.i?.map fun y=>PV.int (i+y))=some p from hp)
   subst e
   obtain ⟨u,rfl,_⟩:=h2.asInt hj
   exact PyProof.Rows.iadd_int (h _ _ (.int _ _))
  | @str x t a hx hxc =>
   refine obC (show (p2.s?.bind fun t=>if a.length+t.length≤szL then some (PV.str (a++t)) else none)=some p from hp) fun b hb e=>?_
   refine ifC e fun hl e=>?_
   cases e
   obtain ⟨y,u,rfl,_,hy,hyc⟩:=h2.asStr hb
   refine PyProof.Rows.iadd_str (fun t' tk=>h _ _ (.str _ _ ?_ (fun c hc=>(List.mem_append.mp hc).elim (hxc c) (hyc c)))) ?_
   ·rw [zn0,hx,hy]
   ·haveI:=sizeLine_eq
    show x.cps.size+y.cps.size≤sizeLine
    rw [← Array.length_toList,← Array.length_toList,hx,hy]
    exact hl
  | _=>exact nn hp
 | Sub =>
  cases ho
  refine obC hp fun i hi hp=>?_
  obtain ⟨j,hj,e⟩:=om hp
  subst e
  obtain ⟨t,rfl,_⟩:=h1.asInt hi
  obtain ⟨u,rfl,_⟩:=h2.asInt hj
  exact PyProof.Rows.isub_int (h _ _ (.int _ _))
 | FloorDiv =>
  cases ho
  refine obC hp fun i hi hp=>?_
  refine obC hp fun j hj e=>?_
  refine ifC e fun hb e=>?_
  cases e
  obtain ⟨t,rfl,_⟩:=h1.asInt hi
  obtain ⟨u,rfl,_⟩:=h2.asInt hj
  subst hb
  exact PyProof.Rows.ifloordiv_int (by lia) (h _ _ (.int _ _))
 | Mult=>cases ho; exact nb ho'
 | Mod=>cases ho; exact nb ho'
 | Pow=>cases ho; exact nb ho'
 | _=>exact nn ho
theorem sx_aug (gok:Γ.Ok) (cok:c.Ok Γ) {X:CX} (hsc:X.sc=c.cs) (hnm:X.nm=c.nm) {x:Str} {k:Nat} {xp pos:Pos} {e:Expr} {f:EV} {op:Operator} {o:BO} (hk:slot X x=some k) (ho:cO op=some o) (ho':okAug o=true) (he:SE Γ c (eval e c.env) f) :
  SX Γ c (exec (.AugAssign (.Name x xp) op e pos) c.env) (fun env σ=>match env.getD k none with
   | some v=>(f env σ).bind fun r=>(match binP o v r.1 with
    | some q=>.ok (.next,env.set k (some q),r.2)
    | none=>.stuck)
   | none=>.stuck):=by
 intro env σ h tk news ls Q I hp
 cases hv:env.getD k none with
 | none=>dsimp only at hp; rw [hv] at hp; exact hp.elim
 | some pv =>
  dsimp only at hp
  rw [hv] at hp
  refine big fun Gz hGz=>?_
  obtain ⟨⟨m,F,hm⟩,N,S,G⟩:=id I <;> refine hGz ?_
  obtain ⟨hl,hn,hd⟩:=zz9 hk
  rw [hsc] at hl
  rw [hnm] at hn
  obtain ⟨v,hmv,rv⟩:=hm k x pv hn hv
  refine wpAny_AugAssign_Name ?_
  refine ldnx (s:=Γ.st h tk) F hmv ?_ cok.kind hl
  refine he env σ h tk news ls _ I (PostF.ofBind hp fun r v2 h1 tk1 n1 l1 I1 R1 g1 hp1=>?_)
  cases hb:binP o pv r.1 with
  | none=>rw [hb] at hp1; exact hp1.elim
  | some q =>
   rw [hb] at hp1
   refine aug_ok (s:=Γ.st h1 tk1) (news:=n1) (ls:=l1) ho ho' (rv.mono g1) R1 hb fun v3 tk3 r3=>?_
   exact yd6 cok hsc hnm hk I1 r3 fun h' tk' I'=>hp1 _ h' tk' n1 l1 I' .next Grow.refl
section
variable {prog:Program} {w:World} {A:Around} {E:Value→Shared→Prop} {s:Shared}
theorem yw1 {l:Addr} {vs:List Value} {n:Nat} {k:Int} {t:Tok} {v:Value} {Q:Unit→Shared→Prop} (ho:s.heap.get? l=some (lstO vs n))
  (h0:0≤k) (hfit:k < 2 ^ 63) (hn:k < vs.length)
  (hQ:∀ h' n',h'.get? l=some (lstO (vs.set k.toNat v) n')→Heap.SameBut l s.heap h'→Q () { s with heap:=h' }) :
  wpAny (model prog w) A (setItem (.ref l) (.int k t) v) Q E s:=by
 haveI hl:s.heap.IsList l vs.toArray:=⟨_,ho,rfl,n,rfl⟩
 unfold setItem
 try with_reducible refine wpAny_holding ?_
 first | refine wpAny_bind (wpAny_pure ?_) | skip
 refine wpAny_bind (wpAny_sequenceKey hl.typeIs (by decide) ?_)
 refine wpAny_bind (wpAny_callSpecial?_slot (name:=Str.ofString "__setitem__") hl.typeIs F.slot_list_setitem
  (wpAny_call_entry F.slot_list_setitem hl.typeIs F.entry_list_setitem ?_ (F.args_list_setitem_3 _ _ _)))
 show wpAny _ _ (Builtin.List.listSubscript? (.int k t) >>= _) _ _ s
 refine wpAny_bind (wpAny_listSubscript_int (fitsIndex_of h0 hfit) ?_)
 clear hfit
 obtain ⟨j,rfl⟩:=Int.eq_ofNat_of_zero_le h0
 haveI hj:j < vs.toArray.size:=by rw [List.size_toArray]; exact Int.ofNat_lt.mp hn
 haveI hx':vs.toArray[j]?=some vs.toArray[j]:=Array.getElem?_eq_getElem hj
 show wpAny _ _ ((seqItemAt l j >>= fun r=>pure (r.map (j,·))) >>= _) _ _ s
 refine wpAny_bind (wpAny_bind (wpAny_seqItemAt ho rfl (wpAny_pure ?_)))
 rw [hx']
 show wpAny _ _ (setSeqItemAt l j v >>= _) _ _ s
 have e2:∃ n',Obj.mapSeq (·.setIfInBounds j v) (lstO vs n)=lstO (vs.set j v) n':=by
  haveI e:vs.toArray.setIfInBounds j v=(vs.set j v).toArray:=List.setIfInBounds_toArray ..
  unfold Obj.mapSeq
  dsimp only
  rw [e]
  exact ⟨_,rfl⟩
 obtain ⟨n',e2⟩:=e2
 have fin:Q () { s with heap:=s.heap.update l (Obj.mapSeq (·.setIfInBounds j v)) } :=
  hQ _ n' ((Heap.get?_update_self (h:=s.heap) _ ho (by rw [e2]; rfl)).trans (congrArg some e2)) (Heap.SameBut.update ..)
 refine wpAny_bind (wpAny_setSeqItemAt ho rfl ?_)
 first
  | exact wpAny_bind (wpAny_pure (wpAny_pure ⟨.none,rfl,wpAny_pure fin⟩))
  | exact wpAny_pure ⟨.none,rfl,wpAny_pure fin⟩
end
end
end Mine
namespace Mine
set_option tactic.hygienic false
open PySem PySem.W PySem.Calls PyProof.Rows
section
variable {Γ:GC} {c:FC} {C:Nat→List PV→za7→Out (PV × za7)}
theorem sx_put (gok:Γ.Ok) (cok:c.Ok Γ) {o i e:Expr} {pos' pos:Pos} {fo fi f:EV} (hc:yj0 e=false) (he:SE Γ c (eval e c.env) f) (ho:SE Γ c (eval o c.env) fo) (hi:SE Γ c (eval i c.env) fi) :
  SX Γ c (exec (.Assign [.Subscript o i pos'] e pos) c.env) (fun env σ=>(f env σ).bind fun r=>(fo env r.2).bind fun q=>(fi env q.2).bind fun t=>match q.1,t.1 with
   | .loc j,.int k=>(match t.2[j]? with
    | some l=>if 0≤k∧k < l.length then .ok (.next,env,t.2.set j (l.set k.toNat r.1)) else .stuck
    | none=>.stuck)
   | _,_=>.stuck):=by
 intro env σ h tk news ls Q I hp
 refine wpAny_Assign_Subscript (he env σ h tk news ls _ I (PostF.ofBind hp fun r v h1 tk1 n1 l1 I1 R1 g1 hp1=>?_)) (yd2 hc _ _ _)
 refine ho env r.2 h1 tk1 n1 l1 _ I1 (PostF.ofBind hp1 fun q v2 h2 tk2 n2 l2 I2 R2 g2 hp2=>?_)
 refine hi env q.2 h2 tk2 n2 l2 _ I2 (PostF.ofBind hp2 fun t v3 h3 tk3 n3 l3 I3 R3 g3 hp3=>?_)
 haveI R1':=(R1.mono g2).mono g3
 haveI R2':=R2.mono g3
 obtain ⟨p2,σ2⟩:=q
 obtain ⟨p3,σ3⟩:=t
 dsimp only at *
 cases R2' with
 | @loc a j hj =>
  cases R3 with
  | int k t =>
   dsimp only at hp3
   cases hl:σ3[j]? with
   | none=>rw [hl] at hp3; exact hp3.elim
   | some l =>
    rw [hl] at hp3
    refine PostF.ifC hp3 fun hk hp3=>?_
    ·refine big fun Gz hGz=>?_
     obtain ⟨vs,n,hm,ra⟩:=I3.S.at' j a l hj hl <;> refine hGz ?_
     have hln:=ra.length
     have hsm:=I3.S.small l (List.mem_of_getElem? hl)
     haveI hszl:szL=16777216:=rfl
     refine yw1 (s:=Γ.st h3 tk3) (vs:=vs) (n:=n) (I3.N _ hm).1 hk.1 (by lia) (by exact j495 hk hln) fun h' n' ho' hs'=>?_
     obtain ⟨news',I',g⟩:=I3.turn gok cok hj hl hm hs' ho' (ra.set R1' k.toNat) (by simp; exact j20 hsm)
     exact hp3 _ h' tk3 news' l3 I' .next g
  | _=>exact hp3.elim
 | _=>exact hp3.elim
theorem Inv.ext (cok:c.Ok Γ) {h h':Heap} {env:Env'} {σ:za7} {news:List (Addr × Obj)} {ls:List Addr} (I:Inv Γ c h env σ news ls) (he:Heap.ExtBut h.objs.size h h'):Inv Γ c h' env σ news ls:=by
 obtain ⟨⟨m,F,hm⟩,N,S,G⟩:=I
 exact ⟨⟨m,F.extBut he (Nat.le_refl _),hm⟩,N.extBut he (Nat.le_refl _),S,G⟩
theorem wm8 {X:CX} {t:Expr} {ts:List Expr} {ks:List Nat} {G:Expr→List Nat→Prop} (h:zw2 X (t::ts)=some ks) (k:∀ x p i r,slot X x=some i→zw2 X ts=some r→G (.Name x p) (i::r)):G t ks:=by
 cases t with
 | Name x p=>exact obC (o:=slot X x) (f:=fun k=>(zw2 X ts).map (k::·)) h fun i hi h=>omC h fun r hr=>k x p i r hi hr
 | _=>exact nn h
theorem wc9 {ks:List Nat}:∀ {vs:List PV} {env env':Env'},zq9 ks vs env=some env'→ks.length=vs.length:=by
 induction ks with
 | nil =>
  intro vs _ _ h
  cases vs with
  | nil=>rfl
  | cons _ _=>exact nn h
 | cons _ ks ih =>
  intro vs _ _ h
  cases vs with
  | nil=>exact nn h
  | cons _ vs=>exact congrArg (·+1) (ih h)
theorem yj5 {X:CX} {env:Env} {ts:List Expr}:∀ {ks:List Nat},zw2 X ts=some ks→(assignEach ts env).length=ks.length∧(assignEach ts env).findIdx? (·.1)=none:=by
 induction ts with
 | nil=>intro ks h; cases h; exact ⟨rfl,rfl⟩
 | cons t ts ih =>
  intro ks h
  refine wm8 (G:=fun t ks=>(assignEach (t::ts) env).length=ks.length∧(assignEach (t::ts) env).findIdx? (·.1)=none) h fun x p i r _ hr=>?_
  refine ⟨congrArg (·+1) (ih hr).1,?_⟩
  show List.findIdx? (·.1) ((false,_)::assignEach ts env)=none
  rw [List.findIdx?_cons,(ih hr).2]
  rfl
theorem zz7 (cok:c.Ok Γ) {X:CX} (hsc:X.sc=c.cs) (hnm:X.nm=c.nm) {env':Env'} {σ:za7} {news:List (Addr × Obj)} {ls:List Addr} {Q:Unit→Shared→Prop} (hq:∀ h' tk',Inv Γ c h' env' σ news ls→Q () (Γ.st h' tk')) {ts:List Expr}:∀ {ks:List Nat} {vs:List Value} {ds:List PV} {env:Env'} {h:Heap} {tk:Nat},
  zw2 X ts=some ks→Inv Γ c h env σ news ls→RepA Γ.base Γ.ta news ls vs ds→zq9 ks ds env=some env' →
  wpAny (model Γ.prog Γ.w) c.A (assignInOrder ((assignEach ts c.env).map (·.2)) vs) Q c.E (Γ.st h tk):=by
 induction ts with
 | nil =>
  intro ks vs ds env h tk hs I ra he
  cases hs
  refine big fun Gz hGz=>?_
  cases ds with
  | cons _ _=>refine hGz ?_; exact nn he
  | nil=>refine hGz ?_; cases he; exact wpAny_pure (hq h tk I)
 | cons t ts ih =>
  intro ks vs ds env h tk hs I ra
  refine wm8 (G:=fun t ks=>zq9 ks ds env=some env'→wpAny (model Γ.prog Γ.w) c.A (assignInOrder ((assignEach (t::ts) c.env).map (·.2)) vs) Q c.E (Γ.st h tk)) hs fun x p i r hi hr he=>?_
  cases ra with
  | nil=>exact nn he
  | cons rv ra =>
   show wpAny _ _ (do holding _ (assign (.Name x p) c.env _); assignInOrder ((assignEach ts c.env).map (·.2)) _) _ _ _
   exact wpAny_bind (wpAny_holding (wpAny_assign_Name (yd6 cok hsc hnm hi I rv fun h' tk' I'=>ih hr I' ra he)))
section
variable {prog:Program} {w:World} {A:Around} {E:Value→Shared→Prop}
theorem yt9 {it t:Addr} {items:Array Value} (hne:t≠it):∀ (n i:Nat) (s:Shared) (Q:List Value→Shared→Prop),s.heap.IsListIter it t i→s.heap.IsList t items→i+n≤items.size →
  (∀ h',h'.IsListIter it t (i+n)→Heap.SameBut it s.heap h'→Q ((items.toList.drop i).take n) { s with heap:=h' })→wpAny (model prog w) A (draw (.ref it) n) Q E s
 | 0,i,s,Q,hit,_,_,hQ=>by
  show wpAny _ _ (pure []) Q E s
  exact wpAny_pure (by simpa using hQ s.heap hit (Heap.SameBut.refl ..))
 | n+1,i,s,Q,hit,ht,hle,hQ=>by
  have hlt:i < items.size:=by exact j154 hle
  show wpAny _ _ (pyNext (.ref it) >>= _) Q E s
  refine wpAny_bind (wpAny_pyNext_list_item hit ht (x:=items[i]) (by simp [hlt]) fun h₁ hit₁ hs₁=>?_)
  refine wpAny_bind (wpAny_holding (yt9 hne n (i+1) _ _ hit₁ (ht.extBut hs₁.extBut hne) (by exact j365 hle) fun h₂ hit₂ hs₂=>wpAny_pure ?_))
  haveI hd:items.toList.drop i=items[i]::items.toList.drop (i+1):=by simp [List.drop_eq_getElem_cons,hlt]
  haveI:=hQ h₂ (by rw [show i+(n+1)=i+1+n by exact j366]; exact hit₂) (hs₁.trans hs₂)
  rw [hd,List.take_succ_cons] at this
  exact this
theorem yc4 {s:Shared} {t:Addr} {items:Array Value} {Q:List Value→Shared→Prop} (hh:A.handled=none) (ht:s.heap.IsList t items)
  (hQ:∀ h',Heap.ExtBut s.heap.objs.size s.heap h'→Q items.toList { s with heap:=h' }):wpAny (model prog w) A (unpackItems (.ref t) items.size none) Q E s:=by
 have hlt:t≠s.heap.objs.size:=by obtain ⟨o,ho,_⟩:=ht; exact Nat.ne_of_lt (Heap.lt_size ho)
 unfold unpackItems
 refine wpAny_bind ?_
 ·unfold notIterableAtAll
  refine wpAny_bind (wpAny_specialOf ht.typeIs F.slot_list_iter.lookup ?_)
  refine wpAny_pure ?_
  simp only [Bool.false_eq_true,if_false]
  refine wpAny_bind (wpAny_holding (wpAny_pyIter_list ht ?_))
  refine wpAny_bind (wpAny_holding (yt9 hlt items.size 0 _ _ ⟨_,Heap.get?_push_size _ rfl,rfl,rfl⟩ (ht.push _) (by exact j367) fun h₁ hit₁ hs₁=>?_))
  have hall:List.take items.size (List.drop 0 items.toList)=items.toList:=by
   rw [List.drop_zero]; exact List.take_of_length_le (by simp)
  rw [hall]
  rw [if_neg (by simp)]
  haveI ht₁:h₁.IsList t items:=(ht.push _).extBut hs₁.extBut hlt
  refine wpAny_bind (wpAny_holding (wpAny_pyNext_list_end hh hit₁ ht₁ (by simp) fun h₂ he₂=>?_))
  simp only [Option.isSome_none,Bool.false_eq_true,if_false]
  refine wpAny_pure (hQ h₂ fun b o hb e=>he₂ b o hb (hs₁.extBut b o hb (Heap.get?_push_of_some _ e)))
theorem yw6 {s:Shared} {env:Env} {elts:List Expr} {x1} {pos:Pos} {t:Addr} {items:Array Value} {Q:Unit→Shared→Prop} (hh:A.handled=none) (ht:s.heap.IsList t items)
  (hn:(assignEach elts env).length=items.size) (hstar:(assignEach elts env).findIdx? (·.1)=none)
  (h:∀ h',Heap.ExtBut s.heap.objs.size s.heap h'→wpAny (model prog w) A (assignInOrder ((assignEach elts env).map (·.2)) items.toList) Q E { s with heap:=h' }) :
  wpAny (model prog w) A (assign (.Tuple elts x1 pos) env (.ref t)) Q E s:=by
 rw [PyProof.Rows.assign_Tuple]
 refine wpAny_bind (wpAny_standAt ?_)
 unfold unpack
 rw [hn,hstar]
 exact wpAny_bind (wpAny_holding (yc4 hh ht h))
end
theorem we6 {ts:List Expr} {k:Nat} {tp:Pos} {e:Expr} {env:Env} (hd:zu6 e=false):swappedStores [.Tuple ts k tp] e env=pure none:=by
 cases e <;> first | rfl | exact nb hd.symm
theorem sx_asgT (gok:Γ.Ok) (cok:c.Ok Γ) {X:CX} (hsc:X.sc=c.cs) (hnm:X.nm=c.nm) {ts:List Expr} {ks:List Nat} {k:Nat} {tp pos:Pos} {e:Expr} {f:EV} (hk:zw2 X ts=some ks) (hd:zu6 e=false) (hc:yj0 e=false) (he:SE Γ c (eval e c.env) f) :
  SX Γ c (exec (.Assign [.Tuple ts k tp] e pos) c.env) (fun env σ=>(f env σ).bind fun r=>match (ye7 r.2 r.1).bind fun l=>zq9 ks l env with
   | some env'=>.ok (.next,env',r.2)
   | none=>.stuck):=by
 intro env σ h tk news ls Q I hp
 refine PyProof.Rows.Assign_Tuple (he env σ h tk news ls _ I (PostF.ofBind hp fun r v h1 tk1 n1 l1 I1 R1 g1 hp1=>?_)) (yd2 hc (some (.Tuple ts k tp)) pos.line c.env) (we6 hd)
 obtain ⟨pv,σ1⟩:=r
 dsimp only at *
 cases hq:(ye7 σ1 pv).bind fun l=>zq9 ks l env with
 | none=>rw [hq] at hp1; exact hp1.elim
 | some env' =>
  rw [hq] at hp1
  obtain ⟨l,hl,hset⟩:=Option.bind_eq_some_iff.mp hq
  obtain ⟨hn,hst⟩:=yj5 (env:=c.env) hk
  haveI hn2:=wc9 hset
  cases R1 with
  | @tup a vs n ds hat ra =>
   cases hl
   haveI hln:=ra.length
   haveI ht:IsTup (Γ.st h1 tk1).heap a vs.toArray:=⟨_,I1.get gok cok _ _ hat,rfl,n,rfl⟩
   refine assign_Tuple_tuple rfl ht (by simp; exact j368 hn hn2 hln) hst fun h' he'=>?_
   exact zz7 cok hsc hnm (fun h2 tk2 I2=>hp1 _ h2 tk2 n1 l1 I2 .next Grow.refl) hk (I1.ext cok he') ra hset
  | @loc a j hj =>
   obtain ⟨vs,n,hm,ra⟩:=I1.S.at' j a l hj hl
   have hln:=ra.length
   haveI ht:(Γ.st h1 tk1).heap.IsList a vs.toArray:=⟨_,(I1.N _ hm).1,rfl,n,rfl⟩
   refine yw6 rfl ht (by simp; exact j368 hn hn2 hln) hst fun h' he'=>?_
   exact zz7 cok hsc hnm (fun h2 tk2 I2=>hp1 _ h2 tk2 n1 l1 I2 .next Grow.refl) hk (I1.ext cok he') ra hset
  | _=>exact nn hl
inductive WhileAt (Γ:GC) (c:FC) (Q:Flow→Shared→Prop) (ft:ET) (fb:EX) (n:Nat):Shared→Prop
 | mk (env:Env') (σ:za7) (h:Heap) (tk:Nat) (nw:List (Addr × Obj)) (ls:List Addr) (I:Inv Γ c h env σ nw ls) (hp:PostF Γ c nw ls Q (zj9 ft fb n env σ)):WhileAt Γ c Q ft fb n (Γ.st h tk)
theorem sx_while (cok:c.Ok Γ) {t:Expr} {b:List Stmt} {pos:Pos} {ft:ET} {fb:EX} (N:Nat) (ht:SB' Γ c (isTrue t c.env (eval t c.env)) ft) (hb:SX Γ c (execs b c.env) fb) :
  SX Γ c (exec (.While t b [] pos) c.env) (fun env σ=>zj9 ft fb N env σ):=by
 intro env σ h tk news ls Q I hp
 refine wpAny_While (codeAny_whileLoop (WhileAt Γ c Q ft fb) ?_ N (.mk env σ h tk news ls I hp))
 rintro n s' ⟨env1,σ1,h1,tk1,n1,l1,I1,hp1⟩
 cases n with
 | zero=>exact hp1.elim
 | succ n =>
  refine wpAny_mono (ht env1 σ1 h1 tk1 n1 l1 (fun bb s₂=>if bb=true then wpAny (model Γ.prog Γ.w) c.A (execs b c.env) (fun f s₃=>match f with
    | .next | .cont=>∃ m,m < n+1∧WhileAt Γ c Q ft fb m s₃
    | .brk=>Q .next s₃
    | .ret v=>Q (.ret v) s₃) c.E s₂ else Q .next s₂) I1 (PostF.ofBind hp1 fun r v h2 tk2 n2 l2 I2 R2 g2 hp2=>?_)) (fun bb s₂ h₂=>?_) cok.hE
  ·obtain ⟨bb,σ2⟩:=r
   cases R2
   cases bb with
   | false =>
    simp only [Bool.false_eq_true,if_false]
    exact hp2 _ h2 tk2 n2 l2 I2 .next Grow.refl
   | true =>
    simp only [if_true]
    dsimp only at hp2
    refine hb env1 σ2 h2 tk2 n2 l2 _ I2 (PostF.bind hp2 fun q f h3 tk3 n3 l3 I3 R3 g3 hp3=>?_)
    obtain ⟨fl,env3,σ3⟩:=q
    dsimp only at *
    cases R3 with
    | next=>exact ⟨n,Nat.lt_succ_self _,.mk env3 σ3 h3 tk3 n3 l3 I3 hp3⟩
    | cont=>exact ⟨n,Nat.lt_succ_self _,.mk env3 σ3 h3 tk3 n3 l3 I3 hp3⟩
    | ret r=>exact hp3 _ h3 tk3 n3 l3 I3 (.ret r) Grow.refl
  ·cases bb with
   | false =>
    simp only [Bool.false_eq_true,if_false] at h₂ ⊢
    exact wpAny_execs_nil h₂
   | true =>
    simp only [if_true] at h₂ ⊢
    exact wpAny_mono h₂ (fun f s₃ h₃=>h₃) cok.hE
section
variable {base:Heap} {ta:Nat→Option Addr} {news news':List (Addr × Obj)} {ls:List Addr}
theorem RepV.sub (g:∀ a o,zs5 o→(a,o)∈news→(a,o)∈news') {v:Value} {d:PV} (r:RepV base ta news ls v d):RepV base ta news' ls v d:=r.gen (L:=true) (fun _ _ s h=>h.imp (fun h=>⟨g _ _ s h.1,h.2⟩) id) (fun _ _ _ h=>h) nofun
theorem RepA.sub (g:∀ a o,zs5 o→(a,o)∈news→(a,o)∈news') {vs:List Value} {ds:List PV} (r:RepA base ta news ls vs ds):RepA base ta news' ls vs ds:=r.gen (L:=true) (fun _ _ s h=>h.imp (fun h=>⟨g _ _ s h.1,h.2⟩) id) (fun _ _ _ h=>h) nofun
theorem StoreOk.sub (g:∀ a o,zs5 o→(a,o)∈news→(a,o)∈news') {σ:za7} (S:StoreOk base ta news ls σ):StoreOk base ta news' ls σ :=
 ⟨S.len,S.nodup,S.off,S.small,fun k a l h1 h2=>by
  obtain ⟨vs,n,h3,h4⟩:=S.at' k a l h1 h2
  exact ⟨vs,n,g _ _ ⟨_,_,.inr rfl⟩ h3,h4.sub g⟩⟩
end
noncomputable def MRel (Γ:GC) (c:FC) (m:Str→Option Value) (env:Env') (news:List (Addr × Obj)) (ls:List Addr):Prop :=
 ∀ (k:Nat) x pv,c.nm[k]?=some x→env.getD k none=some pv→∃ v,m x=some v∧RepV Γ.base Γ.ta news ls v pv
theorem MRel.set (cok:c.Ok Γ) {m:Str→Option Value} {env:Env'} {news:List (Addr × Obj)} {ls:List Addr} {k:Nat} {x:Str} {v:Value} {pv:PV} (hm:MRel Γ c m env news ls) (hn:c.nm[k]?=some x) (r:RepV Γ.base Γ.ta news ls v pv) :
  MRel Γ c (fun y=>if y=x then some v else m y) (env.set k (some pv)) news ls:=by
 intro j y q hy hq
 by_cases hj:j=k
 ·subst hj
  rw [hn] at hy
  cases hy
  show ∃ v_1,(if x=x then some v else m x)=some v_1∧_
  rw [if_pos rfl]
  by_cases hl:j < env.length
  ·rw [List.getD_eq_getElem?_getD,List.getElem?_set_self hl] at hq
   cases hq
   exact ⟨v,rfl,r⟩
  ·rw [List.getD_eq_getElem?_getD,List.getElem?_eq_none (by simp; exact j61 hl)] at hq
   cases hq
 ·haveI hne:y≠x:=fun e=>by
   subst e
   exact hj (zt7 cok.nmnd hy hn)
  show ∃ v_1,(if y=x then some v else m y)=some v_1∧_
  rw [if_neg hne]
  rw [List.getD_eq_getElem?_getD,List.getElem?_set_ne (Ne.symm hj),← List.getD_eq_getElem?_getD] at hq
  exact hm j y q hy hq
theorem PostF.bind' {news n0:List (Addr × Obj)} {ls l0:List Addr} {Q Q':Flow→Shared→Prop} {o:Out (Fl × Env' × za7)} {f:Fl × Env' × za7→Out (Fl × Env' × za7)} (hp:PostF Γ c news ls Q (o.bind f))
  (k:∀ r v h' tk' n' l',Inv Γ c h' r.2.1 r.2.2 n' l'→RF Γ n' l' v r.1→Grow n0 l0 n' l'→PostF Γ c news ls Q (f r)→Q' v (Γ.st h' tk')):PostF Γ c n0 l0 Q' o:=by
 cases o with
 | ok r=>exact fun v h' tk' n2 l2 I rr g=>k r v h' tk' n2 l2 I rr g hp
 | exc=>exact hp
 | stuck=>exact hp
theorem yi8 (gok:Γ.Ok) (cok:c.Ok Γ) {X:CX} (hsc:X.sc=c.cs) (hnm:X.nm=c.nm) {x:Str} {k:Nat} (hk:slot X x=some k) {body:List Stmt} {fb:EX} (hb:SX Γ c (execs body c.env) fb)
  {env:Env'} {σ:za7} {h:Heap} {tk:Nat} {news:List (Addr × Obj)} {ls:List Addr} {Q:Flow→Shared→Prop} {r:Addr} {a b:Int} {t u v:Tok}
  (I:Inv Γ c h env σ news ls) (hr:IsRange h r a b 1 t u v) (hab:-1000000000 < a∧a < 1000000000∧-1000000000 < b∧b < 1000000000)
  (hp:PostF Γ c news ls Q (forN k fb (b - a).toNat a env σ)) :
  wpAny (model Γ.prog Γ.w) c.A (pyIter (.ref r)) (fun it s₂=>LoopAtV Γ.prog Γ.w c.A c.g c.env x body Q c.E it s₂) c.E (Γ.st h tk):=by
 obtain ⟨hl,hn,_⟩:=zz9 hk
 rw [hnm] at hn
 refine wpAny_pyIter_range (s:=Γ.st h tk) hr (small_one (by lia) (by lia) (by lia) (by lia)) ?_
 haveI hsz:Builtin.Range.rangeSize a b 1=(((b - a).toNat:Nat):Int):=by
  rw [rangeSize_one]
  split <;> (first | exact j496 ‹_› | exact j497 ‹_›)
 rw [hsz]
 refine big fun Gz hGz=>?_
 obtain ⟨⟨m,F,hm⟩,N,S,G⟩:=id I <;> refine hGz ?_
 obtain ⟨_,_,hoff⟩:=I.push { cls:=.type "range_iterator",data:=.fields #[rawInt a,rawInt ((b - a).toNat:Nat),rawInt 1] }
 haveI hLf:c.L≠h.objs.size:=by
  obtain ⟨oL,a1,a2,hL,a3⟩:=F.ns
  exact Nat.ne_of_lt (Heap.lt_size hL)
 refine ⟨h.objs.size,[h.objs.size],[h.objs.size],(b - a).toNat,_,_,m,news,
  fun i m nx=>i≤(b - a).toNat∧∃ env1 σ1 l1,MRel Γ c m env1 nx l1∧StoreOk Γ.base Γ.ta nx l1 σ1∧Grow news ls nx l1∧h.objs.size ∉ l1∧PostF Γ c nx l1 Q (forN k fb ((b - a).toNat - i) (a+i) env1 σ1),rfl,
  Walks.range rfl h.objs.size a 1 (b - a).toNat,?_,?_,?_,?_,F.push _,?_,⟨Nat.zero_le _,env,σ,ls,hm,S,Grow.refl,fun hq=>hoff _ hq rfl,?_⟩,?_,?_⟩
 ·exact fun hq=>hLf (List.mem_singleton.mp hq)
 ·intro b' hb'
  rw [List.mem_singleton.mp hb']
  cases hq:c.g.get? h.objs.size with
  | none=>rfl
  | some o=>exact absurd (Heap.lt_size (F.keep _ _ hq)) (Nat.lt_irrefl _)
 ·intro p hp' hq
  haveI:=Heap.lt_size (N p hp').1
  rw [List.mem_singleton.mp hq] at this
  exact absurd this (Nat.lt_irrefl _)
 ·show IsRangeIter _ _ _ _ _
  have e1:a+((0:Nat):Int) * 1=a:=by simp
  have e2:(((b - a).toNat:Nat):Int) - ((0:Nat):Int)=((b - a).toNat:Nat):=by simp
  rw [e1,e2]
  exact Heap.get?_push_size _ rfl
 ·exact fun p hp'=>⟨Heap.get?_push_of_some _ (N p hp').1,(N p hp').2⟩
 ·simpa using hp
 ·rintro i v₁ m₁ nx s₁ own ⟨h₁,tk₁,rfl⟩ hin ⟨tt,rfl⟩ ⟨_,env1,σ1,l1,M1,S1,G1,hIl,hp1⟩ hnx hown hownv hmem hst F₁ N₁
  haveI hfresh:c.g.get? h.objs.size=none:=by
   cases hq:c.g.get? h.objs.size with
   | none=>rfl
   | some o=>exact absurd (Heap.lt_size (F.keep _ _ hq)) (Nat.lt_irrefl _)
  haveI hIown:=hmem h.objs.size (by simp) hfresh _ hst
  have gown:Grow nx l1 (own++nx) l1:=⟨fun p hp' hn'=>⟨List.mem_append_right _ hp',hn'⟩,[],(List.append_nil _).symm⟩
  haveI r1:RepV Γ.base Γ.ta (own++nx) l1 (.int (a+(i:Int) * 1) tt) (.int (a+i)):=by
   rw [Int.mul_one]; exact .int _ _
  haveI I1:Inv Γ c h₁ (env1.set k (some (.int (a+i)))) σ1 (own++nx) l1:=by
   refine ⟨⟨_,F₁,MRel.set cok (fun j y q hy hq=>?_) hn r1⟩,N₁,?_,(G.trans G1).trans gown⟩
   ·obtain ⟨w',hw',rw'⟩:=M1 j y q hy hq
    exact ⟨w',hw',rw'.mono gown⟩
   ·exact S1.sub fun a o _ hm'=>List.mem_append_right _ hm'
  haveI en:(b - a).toNat - i=((b - a).toNat - (i+1))+1:=by exact j498 hin
  rw [en] at hp1
  rw [yj4] at hp1
  refine hb _ σ1 h₁ tk₁ _ l1 _ I1 (PostF.bind' hp1 fun q f h2 tk2 n2 l2 I2 R2 g2 hp2=>?_)
  have fin:∀ env2 σ2,Inv Γ c h2 env2 σ2 n2 l2→PostF Γ c nx l1 Q (forN k fb ((b - a).toNat - (i+1)) (a+i+1) env2 σ2) →
    LoopStepU c.g c.env.locals [h.objs.size] own (fun m nx=>i+1≤(b - a).toNat∧∃ env1 σ1 l1,MRel Γ c m env1 nx l1∧StoreOk Γ.base Γ.ta nx l1 σ1∧Grow news ls nx l1∧h.objs.size ∉ l1∧PostF Γ c nx l1 Q (forN k fb ((b - a).toNat - (i+1)) (a+(i+1:Nat)) env1 σ1)) (Γ.st h₁ tk₁) .next (Γ.st h2 tk2):=by
   intro env2 σ2 I2 hp2
   refine big fun Gz hGz=>?_
   obtain ⟨⟨m2,F2,M2⟩,N2,S2,G2⟩:=I2 <;> refine hGz ?_
   obtain ⟨hI2,hIl2⟩:=g2.keep _ (List.mem_append_left _ hIown) hIl
   have hsub:∀ a o,zs5 o→(a,o)∈n2→(a,o)∈n2.filter fun p=>p.1 != h.objs.size:=by
    intro a' o' hs hm'
    refine List.mem_filter.mpr ⟨hm',?_⟩
    simp only [bne_iff_ne,ne_eq]
    intro e
    subst e
    haveI e1:=(N2 _ hm').1
    haveI e2:=(N2 _ hI2).1
    rw [e1] at e2
    haveI e3:o'=_:=Option.some.inj e2
    obtain ⟨vs,n,hs | hs⟩:=hs
    ·rw [e3] at hs
     have:=congrArg (fun o:Obj=>o.data) hs; cases this
    ·rw [e3] at hs
     have:=congrArg (fun o:Obj=>o.data) hs; cases this
   have gfil:Grow nx l1 (n2.filter fun p=>p.1 != h.objs.size) l2:=by
    refine ⟨fun p hp' hn'=>?_,g2.live⟩
    obtain ⟨h3,h4⟩:=g2.keep p (List.mem_append_right _ hp') hn'
    refine ⟨List.mem_filter.mpr ⟨h3,?_⟩,h4⟩
    simp only [bne_iff_ne,ne_eq]
    intro e
    exact hnx p hp' (by rw [e]; simp)
   refine ⟨rfl,h2,tk2,m2,n2.filter fun p=>p.1 != h.objs.size,rfl,F2,?_,?_,by lia,env2,σ2,l2,?_,S2.sub hsub,G1.trans gfil,hIl2,?_⟩
   ·intro p hp'
    rcases List.mem_append.mp hp' with q | q
    ·haveI hpl:p.1 ∉ l1:=by
      rw [List.mem_singleton.mp (hown p q)]
      exact hIl
     exact N2 p (g2.keep p (List.mem_append_left _ q) hpl).1
    ·exact N2 p (List.mem_filter.mp q).1
   ·intro p hp' hq
    haveI:=(List.mem_filter.mp hp').2
    rw [List.mem_singleton.mp hq] at this
    simp at this
   ·intro j y q hy hq
    obtain ⟨w',hw',rw'⟩:=M2 j y q hy hq
    exact ⟨w',hw',rw'.sub hsub⟩
   ·haveI e:a+((i+1:Nat):Int)=a+i+1:=by lia
    rw [e]
    exact PostF.grow gfil hp2
  obtain ⟨fl,env2,σ2⟩:=q
  dsimp only at *
  cases R2 with
  | next=>exact .next (fin _ _ I2 hp2)
  | cont=>exact .cont (fin _ _ I2 hp2)
  | ret r=>exact .ret (hp2 _ h2 tk2 n2 l2 I2 (.ret r) (gown.trans g2))
 ·rintro h' tk' m' nx F' N' hnx ⟨_,env1,σ1,l1,M1,S1,G1,hIl,hp1⟩
  rw [Nat.sub_self] at hp1
  exact hp1 _ h' tk' nx l1 ⟨⟨m',F',M1⟩,N',S1,G.trans G1⟩ .next Grow.refl
end
end Mine
namespace Mine
set_option tactic.hygienic false
open PySem PySem.W PySem.Calls PyProof.Rows
section
variable {Γ:GC} {c:FC} {C:Nat→List PV→za7→Out (PV × za7)}
noncomputable abbrev forE (N:Nat) (k:Nat) (flo fhi:EV) (fb:EX):EX:=fun env σ=>(flo env σ).bind fun r=>(fhi env r.2).bind fun q=>match r.1,q.1 with
   | .int x,.int y=>if -1000000000 < x∧x < 1000000000∧-1000000000 < y∧y < 1000000000 then forN k fb (y - x).toNat x env q.2 else .stuck
   | _,_=>.stuck
theorem hp_for (cok:c.Ok Γ):(c.env.scope.kind == .class || (c.env.scope.kind == .module && c.env.locals != c.env.globals))=false:=by
 show (c.cs.kind == .class || (c.cs.kind == .module && c.L != mainGlobals))=false
 rw [cok.kind]; rfl
theorem ya6 (gok:Γ.Ok) (cok:c.Ok Γ) {np:Pos} {env:Env'} {σ:za7} {h:Heap} {tk:Nat} {news:List (Addr × Obj)} {ls:List Addr} {Q:Value→Shared→Prop} (I:Inv Γ c h env σ news ls) (hl:c.cs.names.lookup ("range":Str)=some .globalImplicit)
  (hq:Q (.type "range") (Γ.st h tk)):wpAny (model Γ.prog Γ.w) c.A (eval (.Name "range" np) c.env) Q c.E (Γ.st h tk):=by
 haveI hX:=gok.X.keeps cok.B.stays
 obtain ⟨⟨m,F,hm⟩,N,S,G⟩:=id I
 exact wm9 (s:=Γ.st h tk) F hX (topRead_of (gok.T.keeps cok.B.stays)) gok.norange (by decide +kernel) (by decide +kernel) hq cok.kind hl (by decide +kernel)
theorem sx_for2 (gok:Γ.Ok) (cok:c.Ok Γ) {X:CX} (hsc:X.sc=c.cs) (hnm:X.nm=c.nm) {x:Str} {k:Nat} (hk:slot X x=some k) {lo hi:Expr} {flo fhi:EV} {body:List Stmt} {fb:EX} {px np cp pos:Pos} (N:Nat)
  (hl:c.cs.names.lookup ("range":Str)=some .globalImplicit) (hlo:SE Γ c (eval lo c.env) flo) (hhi:SE Γ c (eval hi c.env) fhi) (s1:zm0 lo=false) (s2:zm0 hi=false) (hb:SX Γ c (execs body c.env) fb) :
  SX Γ c (exec (.For (.Name x px) (.Call (.Name "range" np) [lo,hi] [] cp) body [] pos) c.env) (forE N k flo fhi fb):=by
 intro env σ h tk news ls Q I hp
 obtain ⟨hxl,hn,_⟩:=zz9 hk
 rw [hsc] at hxl
 refine For_invV c.g hxl (hp_for cok) ?_ (fun _=>rfl) cok.hE
 refine Call_ (ya6 gok cok I hl ?_)
 refine PyProof.Rows.callWith_type1 ?_ (zg2 s1) (zt8 [hi] fun e he=>by rw [List.mem_singleton.mp he]; exact s2)
 refine args_cons (he:=zg2 s1) (hlo env σ h tk news ls _ I (PostF.ofBind hp fun r v h1 tk1 n1 l1 I1 R1 g1 hp1=>?_))
 refine args_cons (he:=zg2 s2) (hhi env r.2 h1 tk1 n1 l1 _ I1 (PostF.ofBind hp1 fun q v2 h2 tk2 n2 l2 I2 R2 g2 hp2=>?_))
 refine args_nil ?_
 obtain ⟨p1,σ1⟩:=r
 obtain ⟨p2,σ2⟩:=q
 dsimp only at *
 cases R1 with
 | int a t =>
  cases R2 with
  | int b u =>
   dsimp only at hp2
   refine PostF.ifC hp2 fun hab hp2=>?_
   ·refine call_range_2 (s:=Γ.st h2 tk2) ?_
    obtain ⟨I3,g3,_⟩:=I2.push { cls:=.type "range",data:=.fields #[.int a t,.int b u,.int 1 (Γ.st h2 tk2).toks] }
    exact yi8 gok cok hsc hnm hk hb I3 (IsRange.new h2 a b 1 t u _) hab (PostF.grow g3 hp2)
  | _=>exact hp2.elim
 | _=>exact hp2.elim
theorem sx_for1 (gok:Γ.Ok) (cok:c.Ok Γ) {X:CX} (hsc:X.sc=c.cs) (hnm:X.nm=c.nm) {x:Str} {k:Nat} (hk:slot X x=some k) {hi:Expr} {fhi:EV} {body:List Stmt} {fb:EX} {px np cp pos:Pos} (N:Nat)
  (hl:c.cs.names.lookup ("range":Str)=some .globalImplicit) (hhi:SE Γ c (eval hi c.env) fhi) (s2:zm0 hi=false) (hb:SX Γ c (execs body c.env) fb) :
  SX Γ c (exec (.For (.Name x px) (.Call (.Name "range" np) [hi] [] cp) body [] pos) c.env) (forE N k (fun _ σ=>.ok (.int 0,σ)) fhi fb):=by
 intro env σ h tk news ls Q I hp
 refine big fun Gz hGz=>?_
 obtain ⟨hxl,hn,_⟩:=zz9 hk <;> refine hGz ?_
 rw [hsc] at hxl
 refine For_invV c.g hxl (hp_for cok) ?_ (fun _=>rfl) cok.hE
 refine Call_ (ya6 gok cok I hl ?_)
 refine PyProof.Rows.callWith_type1 ?_ (zg2 s2) (zt8 [] fun e he=>nomatch he)
 replace hp:PostF Γ c news ls Q ((fhi env σ).bind fun q=>match q.1 with
   | .int y=>if -1000000000 < (0:Int)∧(0:Int) < 1000000000∧-1000000000 < y∧y < 1000000000 then forN k fb (y - 0).toNat 0 env q.2 else .stuck
   | _=>.stuck):=by
  haveI e:forE N k (fun _ σ=>.ok (.int 0,σ)) fhi fb env σ=((fhi env σ).bind fun q=>match q.1 with
   | .int y=>if -1000000000 < (0:Int)∧(0:Int) < 1000000000∧-1000000000 < y∧y < 1000000000 then forN k fb (y - 0).toNat 0 env q.2 else .stuck
   | _=>.stuck):=by
   show ((Out.ok (PV.int 0,σ)).bind fun r=>(fhi env r.2).bind fun q=>_)=_
   show ((fhi env σ).bind fun q=>_)=_
   cases fhi env σ with
   | ok q=>obtain ⟨p,σ'⟩:=q; cases p <;> rfl
   | exc=>rfl
   | stuck=>rfl
  rw [e] at hp; exact hp
 refine args_cons (he:=zg2 s2) (hhi env σ h tk news ls _ I (PostF.ofBind hp fun q v2 h2 tk2 n2 l2 I2 R2 g2 hp2=>?_))
 refine args_nil ?_
 obtain ⟨p2,σ2⟩:=q
 dsimp only at *
 cases R2 with
 | int b u =>
  dsimp only at hp2
  refine PostF.ifC hp2 fun hab hp2=>?_
  ·refine call_range_1 (s:=Γ.st h2 tk2) ?_
   obtain ⟨I3,g3,_⟩:=I2.push { cls:=.type "range",data:=.fields #[.int 0 (Γ.st h2 tk2).toks,.int b u,.int 1 ((Γ.st h2 tk2).toks+1)] }
   exact yi8 gok cok hsc hnm hk hb I3 (IsRange.new h2 0 b 1 _ u _) hab (PostF.grow g3 hp2)
 | _=>exact hp2.elim
noncomputable def RaiseOk (Γ:GC) (c:FC):Prop:=∀ (i:Nat) (x:Str),i < 2→(if i=0 then ("LexFault":Str) else "SyntaxFault")=x→∀ {np cp pos:Pos} {args:List Expr} {f:Env'→za7→Out (List PV × za7)},
 c.cs.names.lookup x=some .globalImplicit→args.length=2 - i→(∀ e∈args,zm0 e=false)→(∀ env σ r,f env σ=.ok r→r.1.length=args.length)→(∀ p,SL Γ c (spliced (backTo p (starEach args c.env))) f) →
  SX Γ c (exec (.Raise (some (.Call (.Name x np) args [] cp)) none pos) c.env) (fun env σ=>(f env σ).bind fun _=>.exc)
theorem rows_ok {f:Stmt→Option PS} {N:Nat} (IH:∀ s p,f s=some p→SX Γ c (exec s c.env) (ex C N p)) {ss:List Stmt}:∀ p,cSL f ss=some p→SX Γ c (execs ss c.env) (exs C N p):=by
 induction ss with
 | nil =>
  intro p h
  cases h
  intro env σ h0 tk news ls Q I hp
  exact wpAny_execs_nil (hp _ h0 tk news ls I .next Grow.refl)
 | cons s r ih =>
  intro p h
  refine obC (o:=f s) (f:=fun a=>(cSL f r).map fun b=>PSs.cons a b) h fun a ha h=>?_
  refine omC h fun b hb=>?_
  intro env σ h0 tk news ls Q I hp
  refine wpAny_execs_cons (IH s a ha env σ h0 tk news ls _ I (PostF.bind hp fun q f h1 tk1 n1 l1 I1 R1 g1 hp1=>?_))
  obtain ⟨fl,env1,σ1⟩:=q
  cases R1 with
  | next=>exact ih b hb env1 σ1 h1 tk1 n1 l1 Q I1 hp1
  | cont=>exact hp1 _ h1 tk1 n1 l1 I1 .cont Grow.refl
  | ret r=>exact hp1 _ h1 tk1 n1 l1 I1 (.ret r) Grow.refl
theorem zx6 {e:Expr} {x:Str} (h:zv9 e=some x):∃ p,e=.Name x p:=by
 cases e with
 | Name y p=>exact Option.some.inj h ▸ ⟨p,rfl⟩
 | _=>exact nn h
theorem cForC {X:CX} {f:Expr→Option PE} {x:Str} {it:Expr} {b:Option PSs} {p:PS} {G:Expr→Prop} (h:cFor X f x it b=some p) (k:∀ fn args kws cp,cFor X f x (.Call fn args kws cp) b=some p→G (.Call fn args kws cp)):G it:=by
 cases it with
 | Call fn args kws cp=>exact k _ _ _ _ h
 | _=>exact nn h
theorem cRaiseC {X:CX} {f:Expr→Option PE} {e:Expr} {p:PS} {G:Expr→Prop} (h:wa5 X f e=some p) (k:∀ fn args kws cp,wa5 X f (.Call fn args kws cp)=some p→G (.Call fn args kws cp)):G e:=by
 cases e with
 | Call fn args kws cp=>exact k _ _ _ _ h
 | _=>exact nn h
theorem cAsgC {X:CX} {f:Expr→Option PE} {t e:Expr} {p:PS} {G:Expr→Prop} (h:cAsg X f t e=some p) (k1:∀ x xp,cAsg X f (.Name x xp) e=some p→G (.Name x xp)) (k2:∀ ts kk tp,cAsg X f (.Tuple ts kk tp) e=some p→G (.Tuple ts kk tp)) (k3:∀ o i sp,cAsg X f (.Subscript o i sp) e=some p→G (.Subscript o i sp)):G t:=by
 cases t with
 | Name _ _=>exact k1 _ _ h
 | Tuple _ _ _=>exact k2 _ _ _ h
 | Subscript _ _ _=>exact k3 _ _ _ h
 | _=>exact nn h
theorem sound_S (gok:Γ.Ok) (cok:c.Ok Γ) (hC:zn3 Γ c C) (hR:RaiseOk Γ c) {X:CX} (hsc:X.sc=c.cs) (hnm:X.nm=c.nm) (hdn:X.dn=dnames) (hgc:X.gc=consts) (N:Nat) :
  ∀ n s p,cS X n s=some p→SX Γ c (exec s c.env) (ex C N p):=by
 intro n
 induction n with
 | zero=>exact fun s p h=>nn h
 | succ n IH =>
  have HE:=sound_E gok cok hC hsc hnm hdn hgc n
  have he1:∀ e pe,cE X n e=some pe→SE Γ c (eval e c.env) (ev C pe).1:=fun e pe h=>(HE e pe h).se
  haveI het:∀ e pe,cE X n e=some pe→SB' Γ c (isTrue e c.env (eval e c.env)) (ev C pe).2:=fun e pe h=>(HE e pe h).sb
  have hes:∀ e pe,cE X n e=some pe→zm0 e=false:=fun e pe h=>(HE e pe h).st
  have HL:∀ ss p,cSL (cS X n) ss=some p→SX Γ c (execs ss c.env) (exs C N p):=fun ss=>rows_ok (N:=N) IH (ss:=ss)
  have hglob:∀ {x:Str},zw1 X x=true→c.cs.names.lookup x=some .globalImplicit:=by
   intro x h
   unfold zw1 at h
   simp only [Bool.and_eq_true,beq_iff_eq,Bool.not_eq_true'] at h
   rw [← hsc]; exact h.1
  intro s p h
  cases s with
  | Assign ts e pos =>
   refine obC (show ((one1 ts).bind fun t=>cAsg X (cE X n) t e)=some p from h) fun t ht h=>?_
   obtain rfl:=yx0 ht
   refine cAsgC (G:=fun t=>SX Γ c (exec (.Assign [t] e pos) c.env) (ex C N p)) h (fun x xp h=>?_) (fun ts kk tp h=>?_) (fun o i sp h=>?_)
   ·
    refine obC (show ((slot X x).bind fun k=>(cE X n e).map fun e=>PS.asg k e)=some p from h) fun k hk h=>?_
    refine omC h fun pe hpe=>?_
    exact wm1 cok hsc hnm hk (ym2 hpe) (he1 _ _ hpe)
   ·
    replace h:(if zu6 e then none else (zw2 X ts).bind fun ks=>(cE X n e).map fun e=>PS.asgT ks e)=some p:=h
    cases hd:zu6 e with
    | true=>rw [hd] at h; exact nn h
    | false =>
     rw [hd,if_neg Bool.false_ne_true] at h
     refine obC h fun ks hk h=>?_
     refine omC h fun pe hpe=>?_
     exact sx_asgT gok cok hsc hnm hk hd (ym2 hpe) (he1 _ _ hpe)
   ·
    replace h:(if ya2 i then none else (cE X n o).bind fun o=>(cE X n i).bind fun i=>(cE X n e).map fun e=>PS.put o i e)=some p:=h
    cases hd:ya2 i with
    | true=>rw [hd] at h; exact nn h
    | false =>
     rw [hd,if_neg Bool.false_ne_true] at h
     refine obC h fun o' ho h=>?_
     refine obC h fun i' hi h=>?_
     refine omC h fun pe hpe=>?_
     exact sx_put gok cok (ym2 hpe) (he1 _ _ hpe) (he1 _ _ ho) (he1 _ _ hi)
  | AugAssign t op e pos =>
   refine obC (show ((zv9 t).bind fun x=>cAug X (cE X n) x op e)=some p from h) fun x hx h=>?_
   obtain ⟨xp,rfl⟩:=zx6 hx
   refine obC (show ((slot X x).bind fun k=>(cO op).bind fun o=>if okAug o then (cE X n e).map fun e=>PS.aug k o e else none)=some p from h) fun k hk h=>?_
   refine obC h fun o ho h=>?_
   refine ifC h fun ho' h=>?_
   refine omC h fun pe hpe=>?_
   exact sx_aug gok cok hsc hnm hk ho ho' (he1 _ _ hpe)
  | If t a b pos =>
   refine obC (show ((cE X n t).bind fun t=>(cSL (cS X n) a).bind fun a=>(cSL (cS X n) b).map fun b=>PS.iff t a b)=some p from h) fun t' ht h=>?_
   refine obC h fun a' ha h=>?_
   refine omC h fun b' hb=>?_
   exact sx_if (het _ _ ht) (HL _ _ ha) (HL _ _ hb)
  | While t b o pos =>
   refine obC (show ((nil1 o).bind fun _=>(cE X n t).bind fun t=>(cSL (cS X n) b).map fun b=>PS.whl t b)=some p from h) fun u hu h=>?_
   obtain rfl:=yg4 hu
   refine obC h fun t' ht h=>?_
   refine omC h fun b' hb=>?_
   exact sx_while cok N (het _ _ ht) (HL _ _ hb)
  | For t it b o pos =>
   refine obC (show ((nil1 o).bind fun _=>(zv9 t).bind fun x=>cFor X (cE X n) x it (cSL (cS X n) b))=some p from h) fun u hu h=>?_
   obtain rfl:=yg4 hu
   refine obC h fun x hx h=>?_
   obtain ⟨xp,rfl⟩:=zx6 hx
   refine cForC (G:=fun it=>SX Γ c (exec (.For (.Name x xp) it b [] pos) c.env) (ex C N p)) h fun fn args kws cp h=>?_
   refine obC (show ((nil1 kws).bind fun _=>(zv9 fn).bind fun g=>if zw1 X g && (g == ("range":Str)) && (X.dn.findIdx? (· == g)).isNone then (slot X x).bind fun k=>(cRng (cE X n) args).bind fun p=>(cSL (cS X n) b).map fun b=>PS.forr k p.1 p.2 b else none)=some p from h) fun u hu h=>?_
   obtain rfl:=yg4 hu
   refine obC h fun f hf h=>?_
   obtain ⟨np,rfl⟩:=zx6 hf
   refine ifC h fun hc h9=>?_
   refine andC hc fun hc _=>?_
   refine andC hc fun hg hf=>?_
   obtain rfl:=beq_iff_eq.mp hf
   haveI hl:=hglob hg
   refine obC h9 fun k hk h9=>?_
   refine obC h9 fun q hq h9=>?_
   refine omC h9 fun b' hb=>?_
   rcases args with _ | ⟨lo,_ | ⟨hi,_ | _⟩⟩
   ·exact nn hq
   ·
    refine omC (show ((cE X n lo).map fun hi=>(PE.cst (.int 0),hi))=some q from hq) fun hi' hhi=>?_
    exact sx_for1 gok cok hsc hnm hk N hl (he1 _ _ hhi) (hes _ _ hhi) (HL _ _ hb)
   ·
    refine obC (show ((cE X n lo).bind fun lo=>(cE X n hi).map fun hi=>(lo,hi))=some q from hq) fun lo' hlo hq=>?_
    refine omC hq fun hi' hhi=>?_
    exact sx_for2 gok cok hsc hnm hk N hl (he1 _ _ hlo) (he1 _ _ hhi) (hes _ _ hlo) (hes _ _ hhi) (HL _ _ hb)
   ·exact nn hq
  | Return e pos =>
   refine obC (show (e.bind fun e=>(cE X n e).map PS.ret)=some p from h) fun e' he' h=>?_
   subst he'
   refine omC h fun pe hpe=>?_
   exact sx_ret (he1 _ _ hpe)
  | Raise e f pos =>
   refine obC (show ((none1 f).bind fun _=>e.bind fun e=>wa5 X (cE X n) e)=some p from h) fun u hu h=>?_
   refine obC h fun e' he' h=>?_
   subst he'
   cases f with
   | some _=>exact nn hu
   | none =>
    refine cRaiseC (G:=fun e=>SX Γ c (exec (.Raise (some e) none pos) c.env) (ex C N p)) h fun fn args kws cp h=>?_
    obtain ⟨u,hu,h⟩:=ob (show ((nil1 kws).bind fun _=>(zv9 fn).bind fun c=>if zw1 X c then (cL (cE X n) args).bind fun es =>
     (if c == ("LexFault":Str) && decide (args.length=2) then some (PS.raise 0 es) else if c == ("SyntaxFault":Str) && decide (args.length=1) then some (PS.raise 1 es) else none) else none)=some p from h)
    obtain rfl:=yg4 hu
    refine obC h fun x hx h=>?_
    obtain ⟨np,rfl⟩:=zx6 hx
    refine ifC h fun hg h=>?_
    refine obC h fun es hes' h=>?_
    obtain ⟨hv,_,_,_,hvl⟩:=yy1 gok cok HE args es hes'
    have hst:∀ e∈args,zm0 e=false:=fun e he=>by
     obtain ⟨pe,hpe⟩:=yy5 hes' e he
     exact hes e pe hpe
    cases h2:(x == ("LexFault":Str) && decide (args.length=2)) with
    | true =>
     rw [h2,if_pos rfl] at h
     cases h
     refine andC h2 fun q1 q2=>?_
     exact hR 0 x (by exact j369) (beq_iff_eq.mp q1).symm (hglob hg) (of_decide_eq_true q2) hst hvl hv
    | false =>
     rw [h2,if_neg Bool.false_ne_true] at h
     refine ifC h fun h3 h=>?_
     cases h
     refine andC h3 fun q1 q2=>?_
     exact hR 1 x (by exact j370) (beq_iff_eq.mp q1).symm (hglob hg) (of_decide_eq_true q2) hst hvl hv
  | Expr e pos =>
   refine omC (show ((cE X n e).map PS.exp)=some p from h) fun pe hpe=>?_
   exact sx_exp cok (ym2 hpe) (he1 _ _ hpe)
  | Continue pos =>
   cases h
   intro env σ h0 tk news ls Q I hp
   exact wpAny_Continue (hp _ h0 tk news ls I .cont Grow.refl)
  | _=>exact nn h
end
end Mine
namespace Mine
set_option tactic.hygienic false
open PySem PySem.W PySem.Calls PyProof.Rows
noncomputable abbrev bmE:List Value:=[.type "Exception",.type "BaseException",.type "object"]
noncomputable def HasE (bm:List Value):Prop:=∀ X b,bmE.contains (.type X)=b→bm.contains (.type X)=b
theorem HasE.base:HasE bmE:=fun _ _ h=>h
theorem HasE.own {a:Addr} {bm:List Value} (h:HasE bm):HasE (.ref a::bm):=fun X b hb=>by
 rw [List.contains_cons,h X b hb]; rfl
noncomputable abbrev FE:=PySem.F.excBase_Exception
section
variable {h:Heap} {g:Array GenState} {d:Drawn} {t:Nat} {os:OsState}
variable {nm q:Str} {C N:Addr} {bs bm:List Value} {hdct:Bool} {sn:List Str} {sub:List Value} {ab:Bool} {col:Option Bool} {dd:Option Addr} {k0 k1 k2 k3 k5:Option Value}
noncomputable abbrev clsO (nm q:Str) (C N:Addr) (bs bm:List Value) (hdct:Bool) (sn:List Str) (sub:List Value) (ab:Bool) (col:Option Bool) (dd:Option Addr) (k0 k1 k2 k3 k5:Option Value):Obj:=excClassObj nm q C N bs bm hdct sn sub ab col dd k0 k1 k2 k3 k5 "Exception.__new__"
theorem yp2 {M:Model} {A:Around} {E:Value→Shared→Prop} (T:HasE bm) {rest:List Value} {Q:Unit→Shared→Prop} (hC:h.get? C=some (clsO nm q C N bs bm hdct sn sub ab col dd k0 k1 k2 k3 k5))
  (hq:Q () ⟨h,g,d,t,os⟩):wpAny M A (checkBuiltinCall "Exception.__new__" ⟨.ref C::rest,[]⟩) Q E ⟨h,g,d,t,os⟩:=by
 have hcont:(Value.ref C::bm).contains (.type "Exception")=true:=by rw [List.contains_cons,T _ _ FE.hasB,Bool.or_true]
 have hstar:=FE.noStar
 simp only [checkBuiltinCall,FE.newKind,FE.newSplit,FE.newRow]
 repeat (first | refine wpAny_loadPart_at hC ?_ | (refine wpAny_isSubtype_exc hC ?_; rw [hcont]) | refine wpAny_staticBase_exc hC ?_ | refine wpAny_madeBy_exc hC ?_ | simp only [bne_self_eq_false,Bool.false_eq_true,if_false] | wp_step)
 exact hq
theorem yv2 {prog:Program} {w:World} {A:Around} {R:Result→Shared→Prop} (T:HasE bm) {rest:List Value} (hC:h.get? C=some (clsO nm q C N bs bm hdct sn sub ab col dd k0 k1 k2 k3 k5))
  (hq:R (.ok (.ret (.ref (h.objs.size+1)))) ⟨(h.push { cls:=.type "tuple",data:=.seq rest.toArray }).push
   { cls:=.ref C,data:=.fields #[.ref h.objs.size,.none,.none,.none,.bool false,.none] },g,d,t,os⟩) (hrest:rest.length≤sizeLine) :
  codeAny (model prog w) A (.builtin "Exception.__new__" ⟨.ref C::rest,[]⟩) R ⟨h,g,d,t,os⟩:=by
 have hends:=FE.ends
 have hcB:(Value.ref C::bm).contains (.type "Exception")=true:=by rw [List.contains_cons,T _ _ FE.hasB,Bool.or_true]
 have hcA:(Value.ref C::bm).contains (.type "AttributeError")=false:=by rw [List.contains_cons,T _ _ FE.noAttr]; rfl
 have hcN:(Value.ref C::bm).contains (.type "NameError")=false:=by rw [List.contains_cons,T _ _ FE.noName]; rfl
 refine codeAny_builtinAt FE.entry ?_
 unfold Builtin.«BaseException.__new__»
 refine PySem.wpAt_bind ?_
 show PySem.wpAt _ _ _ (stack >>= _) _ _ _
 refine PySem.wpAt_bind (PySem.wpAt_stack fun p below=>PySem.wpAt_of_wpAny ?_)
 wp_walk
 refine PySem.wpAt_of_wpAny ?_
 rw [FE.owner]
 repeat (first | with_reducible refine wpAny_madeHere_exc FE.canon hC ?_ | with_reducible refine wpAny_loadPart_at hC ?_ | (with_reducible refine wpAny_isSubtype_exc hC ?_; first | rw [hcB] | rw [hcA] | rw [hcN]) | wp_step)
 show R _ _
 rw [Heap.size_push]
 exact hq
noncomputable abbrev excO (C:Addr) (t:Addr) (dd:Option Addr):Obj:={ cls:=.ref C,dict:=dd,data:=.fields #[.ref t,.none,.none,.none,.bool false,.none] }
theorem ym0 {prog:Program} {w:World} {A:Around} {E:Value→Shared→Prop} {K:Frag} {fI:Addr} (X:K.In h) (hi:findIn K (.ref C) "__init__"=some (some (.ref fI))) (hf:typeIn K (.ref fI)=some (.type "function")) (T:HasE bm) {rest:List Value} {Q:Fin→Shared→Prop}
  (hC:h.get? C=some (clsO nm q C N bs bm hdct sn sub ab col dd k0 k1 k2 k3 k5))
  (hq:wpAny (model prog w) A (call (.ref fI) (.ref (h.objs.size+1)::rest)) (fun v s'=>v=.none∧Q (.done (.ret (.ref (h.objs.size+1)))) s') E ⟨(h.push { cls:=.type "tuple",data:=.seq rest.toArray }).push (excO C h.objs.size none),g,d,t,os⟩) (hrest:rest.length≤sizeLine) :
  wpAny (model prog w) A (Builtin.«type.__call__» ⟨.ref C::rest,[]⟩) Q E ⟨h,g,d,t,os⟩:=by
 repeat (first | with_reducible refine wpAny_loadPart_at hC ?_ | with_reducible refine wpAny_madeBy_exc hC ?_ | wp_step)
 refine codeAny_call_builtin_code (Code.quiet_builtin _ FE.quiet) (yp2 T hC ?_)
 refine yv2 T hC ?_ hrest
 show wpAny _ _ _ _ _ _
 have hC₁:=Heap.get?_push_of_some (excO C h.objs.size none)
  (Heap.get?_push_of_some { cls:=.type "tuple",data:=.seq rest.toArray } hC)
 have hget:((h.push { cls:=.type "tuple",data:=.seq rest.toArray }).push (excO C h.objs.size none)).get? (h.objs.size+1)=some (excO C h.objs.size none):=by heap_get
 have hcC:(Value.ref C::bm).contains (.ref C)=true:=by simp
 have X₁:K.In ((h.push { cls:=.type "tuple",data:=.seq rest.toArray }).push (excO C h.objs.size none)):=X.keeps fun b o e=>Heap.get?_push_of_some _ (Heap.get?_push_of_some _ e)
 unfold isInstance
 repeat (first | with_reducible refine wpAny_loadPart_at hget ?_ | (with_reducible refine wpAny_isSubtype_exc hC₁ ?_; rw [hcC]) | wp_step)
 show wpAny _ _ (typeLookup (.ref C) _) _ _ _
 refine (looks_findIn X₁ hi).at ?_
 refine wpAny_holding (wpAny_bind ((bind_fn X₁ _ hf).at ?_))
 refine wpAny_bind (wpAny_mono hq (fun v s' hv=>?_) fun _ _ x=>x)
 obtain ⟨rfl,hv⟩:=hv
 first | exact wpAny_pure (wpAny_pure hv) | (wp_walk; exact hv) | trace_state
theorem call_own {prog:Program} {w:World} {A:Around} {E:Value→Shared→Prop} {K:Frag} {fI:Addr} (X:K.In h) (hi:findIn K (.ref C) "__init__"=some (some (.ref fI))) (hf:typeIn K (.ref fI)=some (.type "function")) (T:HasE bm) {rest:List Value} {Q:Value→Shared→Prop}
  (hC:h.get? C=some (clsO nm q C N bs bm hdct sn sub ab col dd k0 k1 k2 k3 k5))
  (hq:wpAny (model prog w) (A.under (.builtin "type.__call__" ⟨.ref C::rest,[]⟩)) (call (.ref fI) (.ref (h.objs.size+1)::rest)) (fun v s'=>v=.none∧Q (.ref (h.objs.size+1)) s') E ⟨(h.push { cls:=.type "tuple",data:=.seq rest.toArray }).push (excO C h.objs.size none),g,d,t,os⟩) (hrest:rest.length≤sizeLine) :
  wpAny (model prog w) A (call (.ref C) rest) Q E ⟨h,g,d,t,os⟩:=by
 have f1:=tc_lookup
 have f2:=tc_bind (.ref C)
 have hT:(⟨h,g,d,t,os⟩:Shared).TypeIs (.ref C) "type":=⟨_,hC,rfl⟩
 refine wpAny_call (codeAny_of_tree ?_)
 show wpAny _ _ (callAny (.ref C) _) _ _ _
 repeat (any_goals (first | assumption | with_reducible refine wpAny_loadPart_at hC ?_ | wp_step))
 refine ⟨rfl,?_⟩
 refine codeAny_call_builtin_at (Code.quiet_builtin _ (by decide +kernel)) entry_typeCall (wpAny_check_type_call_sub hC (ym0 X hi hf T hC ?_ hrest))
 exact hq
end
end Mine
namespace Mine
set_option tactic.hygienic false
open PySem PySem.W PySem.Calls PyProof.Rows Builtin Builtin.ObjectAttr
theorem pass_E (self:Value):refuseLoop self "__setattr__" bmE=pure ():=by kernel_rfl
noncomputable def PassE (bm:List Value):Prop:=∀ self,refuseLoop self "__setattr__" bm=pure ()
theorem PassE.base:PassE bmE:=pass_E
theorem PassE.own {a:Addr} {bm:List Value} (h:PassE bm):PassE (.ref a::bm):=fun self=>by rw [refuseLoop_ref]; exact h self
section
variable {prog:Program} {w:World} {A:Around} {E:Value→Shared→Prop} {h:Heap} {g:Array GenState} {d:Drawn} {t:Nat} {os:OsState}
variable {nm q:Str} {C N x:Addr} {bs bm:List Value} {sn:List Str} {sub:List Value} {ab:Bool} {col:Option Bool} {dd:Option Addr} {k0 k1 k2 k3 k5:Option Value}
 {name:Str} {v:Value} {K:Frag}
theorem wb1 {M:Model} {o:Obj} {nameV:Value} {Q:Unit→Shared→Prop} (T:HasE bm)
  (hC:h.get? C=some (clsO nm q C N bs bm true sn sub ab col dd k0 k1 k2 k3 k5)) (hx:h.get? x=some o) (hc:o.cls=.ref C) (hq:Q () ⟨h,g,d,t,os⟩) :
  wpAny M A (checkBuiltinCall "object.__setattr__" ⟨[.ref x,nameV,v],[]⟩) Q E ⟨h,g,d,t,os⟩:=by
 have SF:=PySem.F.store_object
 have hcB:(Value.ref C::bm).contains (.type "object")=true:=by rw [List.contains_cons,T "object" true (by decide +kernel),Bool.or_true]
 have ha:=SF.args (.ref x) nameV v
 simp only [checkBuiltinCall,SF.kind,SF.split]
 refine wpAny_bind ?_
 ·unfold isInstance
  repeat (first | (with_reducible refine wpAny_loadPart_at hx ?_; rw [hc]) | (with_reducible refine wpAny_isSubtype_exc hC ?_; rw [hcB]) | wp_step)
  all_goals exact hq
theorem wf3 {Q:Unit→Shared→Prop} {o:Obj} (T:HasE bm) (P:PassE bm) (X:K.In h)
  (hC:h.get? C=some (clsO nm q C N bs bm true sn sub ab col dd k0 k1 k2 k3 k5)) (hs:findIn K (.ref C) "__setattr__"=some (some (.builtin "object.__setattr__"))) (hna:findIn K (.ref C) name=some none)
  (hx:h.get? x=some o) (hc:o.cls=.ref C) (hnc:∀ c,o.data≠.cls c) (hdn:o.dict=none) (hfr:o.isFreed=false)
  (hq:∀ h' tk',h'.Ns1 h.objs.size (fun y=>if y=name then some v else none)→(∀ b ob,b≠x→h.get? b=some ob→h'.get? b=some ob)→h'.get? x=some { o with dict:=some h.objs.size }→Q () ⟨h',g,d,tk',os⟩) :
  wpAny (model prog w) A (setAttr (.ref x) name v) Q E ⟨h,g,d,t,os⟩:=by
 have SF:=PySem.F.store_object
 have f3:=SF.slot.bind (.ref x)
 have hpass:=P (.ref x)
 unfold setAttr callSpecial? specialOf
 repeat (any_goals (first | assumption | (with_reducible refine wpAny_loadPart_at hx ?_; rw [hc]) | (with_reducible refine (looks_findIn X hs).at ?_) | wp_step))
 refine codeAny_call_builtin SF.slot.plain SF.entry (wb1 T hC hx hc ?_)
 unfold Builtin.«object.__setattr__»
 repeat (first | rw [refuse_eq] | (rw [refuseLoop_ref,hpass]) | (with_reducible refine wpAny_loadPart_at hx ?_; rw [hc]) | with_reducible refine wpAny_mroOf_exc hC ?_ | (with_reducible refine (looks_findIn X hna).at ?_) | wp_step)
 rw [hdn,if_neg (by simp [typeHasDict])]
 split
 ·rename_i hcd
  cases hcd
 split
 ·rename_i c hcd
  exact absurd hcd (hnc c)
 ·have hx₁:(h.push { cls:=.type "dict",data:=.dict #[] }).get? x=some o:=Heap.get?_push_of_some _ hx
  have hxs:x≠h.objs.size:=Nat.ne_of_lt (Heap.lt_size hx)
  refine wpAny_bind (wpAny_alloc' ?_)
  refine wpAny_bind (wpAny_update' hx₁ ?_)
  refine wpAny_pure ?_
  have hgd:((h.push { cls:=.type "dict",data:=.dict #[] }).update x fun o=>{ cls:=o.cls,dict:=some h.objs.size,data:=o.data,slots:=o.slots }).get? h.objs.size
   =some { cls:=.type "dict",data:=.dict #[] } :=
   (Heap.get?_update_ne _ _ _ _ hxs.symm).trans (Heap.get?_push_at rfl rfl)
  have hnd:((h.push { cls:=.type "dict",data:=.dict #[] }).update x fun o=>{ cls:=o.cls,dict:=some h.objs.size,data:=o.data,slots:=o.slots }).Ns h.objs.size (fun _=>none) :=
   ⟨_,#[],_,hgd,rfl,fun e he=>absurd he (by simp),fun _=>rfl⟩
  show wpAny _ _ (storeInDict h.objs.size (.str name _) name v) _ _ _
  unfold storeInDict newKeyGuard
  refine wpAny_bind (wpAny_pure (wpAny_bind (wpAny_nsSet1 (Heap.Ns1.of_empty hnd) fun h' hn' hs=>?_)))
  obtain ⟨oD,esD,epD,hoD,hdD,hcD⟩:=hn'.count (Within.cons name v Within.nil)
  refine wpAny_bind (wpAny_lookBehind hoD (by rw [hdD]; exact pastItsLine_dict (Nat.le_trans hcD (by rw [List.length_cons,List.length_nil,sizeLine_eq]; exact j3))) ?_)
  wp_walk
  have hx':h'.get? x=some { o with dict:=some h.objs.size }:=by
   refine (hs.2 x hxs).trans (Heap.get?_update_self _ hx₁ ?_)
   obtain ⟨oc,od,odt,osl⟩:=o
   cases odt <;> first | rfl | exact hfr
  refine hq h' _ hn' (fun b ob hbx hb=>?_) hx'
  exact (hs.2 b (Nat.ne_of_lt (Heap.lt_size hb))).trans ((Heap.get?_update_ne _ _ _ _ hbx).trans (Heap.get?_push_of_some _ hb))
theorem set_more {Q:Unit→Shared→Prop} {o:Obj} {dx:Addr} {mA:Str→Option Value} {ns:List Str} (T:HasE bm) (P:PassE bm) (X:K.In h)
  (hC:h.get? C=some (clsO nm q C N bs bm true sn sub ab col dd k0 k1 k2 k3 k5)) (hs:findIn K (.ref C) "__setattr__"=some (some (.builtin "object.__setattr__"))) (hna:findIn K (.ref C) name=some none)
  (hx:h.get? x=some o) (hc:o.cls=.ref C) (hdx:o.dict=some dx) (hns:h.Ns1 dx mA) (hw:Within mA ns) (hsz:ns.length≤1000)
  (hq:∀ h' tk',Heap.SameBut dx h h'→h'.Ns1 dx (fun y=>if y=name then some v else mA y)→Q () ⟨h',g,d,tk',os⟩) :
  wpAny (model prog w) A (setAttr (.ref x) name v) Q E ⟨h,g,d,t,os⟩:=by
 have SF:=PySem.F.store_object
 have f3:=SF.slot.bind (.ref x)
 have hpass:=P (.ref x)
 unfold setAttr callSpecial? specialOf
 repeat (any_goals (first | assumption | (with_reducible refine wpAny_loadPart_at hx ?_; rw [hc]) | (with_reducible refine (looks_findIn X hs).at ?_) | wp_step))
 refine codeAny_call_builtin SF.slot.plain SF.entry (wb1 T hC hx hc ?_)
 unfold Builtin.«object.__setattr__»
 repeat (first | rw [refuse_eq] | (rw [refuseLoop_ref,hpass]) | (with_reducible refine wpAny_loadPart_at hx ?_; rw [hc]) | with_reducible refine wpAny_mroOf_exc hC ?_ | (with_reducible refine (looks_findIn X hna).at ?_) | wp_step)
 rw [hdx]
 refine wpAny_pure ?_
 show wpAny _ _ (storeInDict dx (.str name _) name v) _ _ _
 unfold storeInDict newKeyGuard
 refine wpAny_bind (wpAny_pure (wpAny_bind (wpAny_nsSet1 hns fun h' hn' hs=>?_)))
 obtain ⟨oD,esD,epD,hoD,hdD,hcD⟩:=hn'.count (Within.cons name v hw)
 refine wpAny_bind (wpAny_lookBehind hoD (by rw [hdD]; exact pastItsLine_dict (Nat.le_trans hcD (by rw [List.length_cons,sizeLine_eq]; exact j4 hsz))) ?_)
 wp_walk
 exact hq h' _ hs hn'
end
end Mine
namespace Mine
set_option tactic.hygienic false
open PySem PySem.W PySem.Calls PyProof.Rows
section
variable {prog:Program} {w:World} {A:Around} {E:Value→Shared→Prop} {h:Heap} {g:Array GenState} {d:Drawn} {t:Nat} {os:OsState}
variable {nm q:Str} {C N e:Addr} {bs bm:List Value} {sn:List Str} {sub:List Value} {ab:Bool} {col:Option Bool} {dd:Option Addr} {k0 k1 k2 k3 k5:Option Value} {K:Frag} {hdct:Bool}
theorem yi3 {M:Model} {oe:Obj} {rest:List Value} {Q:Unit→Shared→Prop} (T:HasE bm)
  (hC:h.get? C=some (clsO nm q C N bs bm hdct sn sub ab col dd k0 k1 k2 k3 k5)) (he:h.get? e=some oe) (hcls:oe.cls=.ref C) (hq:Q () ⟨h,g,d,t,os⟩) :
  wpAny M A (checkBuiltinCall "Exception.__init__" ⟨.ref e::rest,[]⟩) Q E ⟨h,g,d,t,os⟩:=by
 haveI hcB:(Value.ref C::bm).contains (.type "Exception")=true:=by rw [List.contains_cons,T _ _ FE.hasB,Bool.or_true]
 haveI hshort:=FE.noStar
 simp only [checkBuiltinCall,FE.initKind,FE.initSplit,FE.initRow]
 repeat (first | (with_reducible refine wpAny_loadPart_at he ?_; rw [hcls]) | with_reducible refine wpAny_loadPart_at hC ?_ | (with_reducible refine wpAny_isSubtype_exc hC ?_; rw [hcB]) | wp_step)
 refine wpAny_onRaise ?_
 rw [show ∀ (a b:String) (n:Nat),Bind.check ⟨.positional,"*","Exception",.self,[⟨"args",.varPos,false⟩]⟩ a b n (List.map (fun x=>x.fst) ({ pos:=Value.ref e::rest }:Args).kw)=pure () from
  fun a b n=>check_star_args _ _ _ _ _ _]
 exact wpAny_pure hq
theorem init_own {rest:List Value} {ta:Addr} {de:Option Addr} {Q:Value→Shared→Prop} (T:HasE bm)
  (hC:h.get? C=some (clsO nm q C N bs bm hdct sn sub ab col dd k0 k1 k2 k3 k5)) (he:h.get? e=some (excO C ta de)) (hrest:rest.length≤sizeLine)
  (hq:∀ h' t',h'.get? e=some (excO C h.objs.size de)→(∀ b ob,b≠e→h.get? b=some ob→h'.get? b=some ob)→Q .none ⟨h',g,d,t',os⟩) :
  wpAny (model prog w) A (call (.builtin "Exception.__init__") (.ref e::rest)) Q E ⟨h,g,d,t,os⟩:=by
 refine wpAny_call (codeAny_call_builtin FE.init.plain FE.initEntry (yi3 T hC he rfl ?_))
 wp_walk
 refine hq _ _ ?_ fun b ob hb hbo=>?_
 ·rw [Heap.get?_update_self _ (Heap.get?_push_of_some _ he) rfl]
  rfl
 ·rw [Heap.get?_update_other _ _ (Ne.symm hb)]
  exact Heap.get?_push_of_some _ hbo
theorem find_exc:findCls K (.type "Exception") (.type "type") "__init__"=some (.val (.builtin "Exception.__init__")):=by kernel_rfl
theorem ym5 {s:Shared} {pl:Sem Bool} {Q:Value × List Value→Shared→Prop} (X:K.In s.heap) (hq:∀ tk,Q (.builtin "Exception.__init__",[]) { s with toks:=tk }) :
  wpAny (model prog w) A (getMethod (.type "Exception") "__init__" pl) Q E s:=by
 unfold getMethod
 refine wpAny_bind ((Looks.of_pure (r:=some (Value.builtin "type.__getattribute__")) (by kernel_rfl)).here ?_)
 dsimp only
 rw [if_pos canon_tga]
 refine wpAny_bind (cls_open (mc:=.type "type") (hook:=none) X (Looks.of_pure (by kernel_rfl)) (Looks.of_pure (by kernel_rfl)) (by kernel_rfl) (looks_hook X (by kernel_rfl)) (by kernel_rfl) find_exc ?_)
 refine wpAny_pure ?_
 show wpAny _ _ (handedOut _) _ _ _
 rw [handedOut_of (by kernel_rfl)]
 exact wpAny_pure (wpAny_pure (hq _))
end
noncomputable def But (e:Addr) (h h':Heap):Prop:=∀ b ob,b≠e→h.get? b=some ob→h'.get? b=some ob
theorem But.fr {e L:Addr} {h h' g:Heap} {m:Str→Option Value} (b:But e h h') (F:Fr g L h m) (he:g.get? e=none) (hL:L≠e):Fr g L h' m:=by
 obtain ⟨oL,es,ep,hL',r⟩:=F.ns
 refine ⟨⟨oL,es,ep,b _ _ hL hL',r⟩,fun x o q=>b _ _ (fun z=>?_) (F.keep x o q),F.above⟩
 rw [z,he] at q; cases q
theorem But.news {e L:Addr} {h h' g:Heap} {news:List (Addr × Obj)} (b:But e h h') (N:News g L h news) (hn:∀ p∈news,p.1≠e):News g L h' news :=
 fun p hp=>⟨b _ _ (hn p hp) (N p hp).1,(N p hp).2⟩
section
variable {prog:Program} {w:World} {A:Around} {E:Value→Shared→Prop} {s:Shared} {K:Frag} {p:Program} {loose:List Str} {mean:ExcName→Option Value} {mg mb:Str→Option Value} {g:Heap} {L:Addr} {m:Str→Option Value} {news:List (Addr × Obj)}
variable {cn:Str} {cs:Scope} {a:Addr} {cd:Value}
variable {nm q:Str} {C N e ta:Addr} {bs bm:List Value} {sn:List Str} {sub:List Value} {ab:Bool} {col:Option Bool} {dd:Option Addr} {k0 k1 k2 k3 k5:Option Value}
theorem call_by {env:Env} {o:Expr} {name x1 x2:Str} {f:Value} {apos pos pA pB:Pos} {Q:Value→Shared→Prop} (hline:(apos.endLine == pos.line)=true) (hb:yj6 o=false)
  (h:wpAny (model prog w) A (eval o env) (fun ov s₁=>∀ pl,wpAny (model prog w) A (getMethod ov name pl) (fun r s₂=>r=(f,[]) ∧
   wpAny (model prog w) A (callWith pos f [] (backTo pos (starEach [.Name x1 pA,.Name x2 pB] env)) []) Q E s₂) E s₁) E s) :
  wpAny (model prog w) A (eval (.Call (.Attribute o name apos) [.Name x1 pA,.Name x2 pB] [] pos) env) Q E s:=by
 rw [arm_eval_Call,zz4 hb]
 refine wpAny_bind (wpAny_mono h (fun ov s₁ h₁=>?_) fun _ _ e=>e)
 refine wpAny_bind (wpAny_standAt ?_)
 unfold methodCall
 haveI hform:methodCallForm ([Expr.Name x1 pA,Expr.Name x2 pB].length+([]:List Keyword).length) (backTo pos (starEach [Expr.Name x1 pA,Expr.Name x2 pB] env)) (backToKw pos (keywordEach [] env))=true:=rfl
 haveI hpos:methodCallPos true o env apos pos=pure pos:=by unfold methodCallPos; simp [hline]
 rw [hform]
 refine wpAny_bind (wpAny_holding ?_)
 show wpAny _ _ (getMethod ov name _) _ _ _
 refine wpAny_mono (h₁ _) (fun r s₂ h₂=>?_) fun _ _ e=>e
 obtain ⟨rfl,h₂⟩:=h₂
 exact wpAny_bind (wpAny_of_eq hpos h₂)
theorem wa7 {x1 x2:Str} {v1 v2:Value} {pos pA pB:Pos} {Q:List Value→Shared→Prop} (F:Fr g L s.heap m) (h1:m x1=some v1) (h2:m x2=some v2) (hk:cs.kind=.function) (hl1:cs.names.lookup x1=some .local) (hl2:cs.names.lookup x2=some .local)
  (hd1:(x1 == ("__debug__":Str))=false) (hd2:(x2 == ("__debug__":Str))=false) (h:Q [v1,v2] s) :
  wpAny (model prog w) A (spliced (backTo pos (starEach [.Name x1 pA,.Name x2 pB] (envOf cn cs L a cd)))) Q E s :=
 args_cons (he:=rfl) (ld F h1 (args_cons (he:=rfl) (ld F h2 (args_nil h) hk hl2 hd2)) hk hl1 hd1)
inductive ClsO (K:Frag) (C:Addr) (bm:List Value):Prop
 | mk (nm q:Str) (N:Addr) (bs:List Value) (sn:List Str) (sub:List Value) (ab:Bool) (col:Option Bool) (dd:Option Addr) (k0 k1 k2 k3 k5:Option Value) (h:K.lookup C=some (clsO nm q C N bs bm true sn sub ab col dd k0 k1 k2 k3 k5)):ClsO K C bm
structure ClsK (K:Frag) (C:Addr) (bm:List Value):Prop where
 obj:ClsO K C bm
 has:HasE bm
 pass:PassE bm
 seta:findIn K (.ref C) "__setattr__"=some (some (.builtin "object.__setattr__"))
 text:findIn K (.ref C) "text"=some none
 at_:findIn K (.ref C) "at"=some none
structure Sc2 (cs:Scope):Prop where
 kind:cs.kind=.function
 self:cs.names.lookup ("self":Str)=some .local
 text:cs.names.lookup ("text":Str)=some .local
theorem base_init {p1 p2 p3 p4 p5 p6:Pos} {tx:Value} {Q:Flow→Shared→Prop} (hs:Sc2 cs) (hx:cs.names.lookup ("Exception":Str)=some .globalImplicit) (hline:(p2.endLine == p5.line)=true) (F:Fr g L s.heap m) (X:K.In g) (T:TopRead p loose mg mb g) (hex:nsIn K mainGlobals "Exception"=some none) (CK:ClsK K C bm)
  (h1:m "self"=some (.ref e)) (h2:m "text"=some tx) {de:Option Addr} (he:s.heap.get? e=some (excO C ta de)) (heg:g.get? e=none) (heL:L≠e)
  (hq:∀ h' tk' t1,h'.get? e=some (excO C t1 de)→But e s.heap h'→Fr g L h' m→Q .next { s with heap:=h',toks:=tk' }) :
  wpAny (model prog w) A (exec (.Expr (.Call (.Attribute (.Name "Exception" p1) "__init__" p2) [.Name "self" p3,.Name "text" p4] [] p5) p6) (envOf cn cs L a cd)) Q E s:=by
 refine wpAny_Expr (call_by (f:=.builtin "Exception.__init__") hline rfl ?_) ?_ rfl
 ·refine name_B (v:=.type "Exception") F X T hex (by decide +kernel) (by decide +kernel) (fun pl=>?_) hs.kind hx (by decide +kernel)
  refine ym5 (X.keeps F.keep) fun tk1=>⟨rfl,?_⟩
  refine PyProof.Rows.callWith_builtin1 ?_ rfl rfl
  refine wa7 (s:={ s with toks:=tk1 }) F h1 h2 hs.kind hs.self hs.text (by decide +kernel) (by decide +kernel) ?_
  obtain ⟨nm,q,N,bs,sn,sub,ab,col,dd,k0,k1,k2,k3,k5,hC⟩:=CK.obj
  refine init_own CK.has (F.keep _ _ (X _ _ hC)) he (by show 1≤sizeLine; rw [sizeLine_eq]; decide) fun h' t' he' hb=>?_
  exact hq h' t' _ he' hb (But.fr (h:=s.heap) hb F heg heL)
 ·show (cs.kind == .module && _)=false
  rw [hs.kind]; rfl
theorem wi1 {p1 p2 p3 p4:Pos} {tx:Value} {Q:Flow→Shared→Prop} (hs:Sc2 cs) (F:Fr g L s.heap m) (X:K.In g) (CK:ClsK K C bm)
  (h1:m "self"=some (.ref e)) (h2:m "text"=some tx) (he:s.heap.get? e=some (excO C ta none)) (heg:g.get? e=none) (heL:L≠e)
  (hq:∀ h' tk' dx,h'.get? e=some (excO C ta (some dx))→But e s.heap h'→s.heap.get? dx=none→h'.Ns1 dx (fun y=>if y=("text":Str) then some tx else none)→Fr g L h' m→Q .next { s with heap:=h',toks:=tk' }) :
  wpAny (model prog w) A (exec (.Assign [.Attribute (.Name "self" p1) "text" p2] (.Name "text" p3) p4) (envOf cn cs L a cd)) Q E s:=by
 refine plainObj_wpAny_Assign_Attribute ?_ rfl
 refine ld F h2 ?_ hs.kind hs.text (by decide +kernel)
 refine ld F h1 ?_ hs.kind hs.self (by decide +kernel)
 obtain ⟨nm,q,N,bs,sn,sub,ab,col,dd,k0,k1,k2,k3,k5,hC⟩:=CK.obj
 refine wf3 CK.has CK.pass (X.keeps F.keep) (F.keep _ _ (X _ _ hC)) CK.seta CK.text he rfl (fun c hc=>nomatch hc) rfl rfl fun h' tk' hn hb he'=>?_
 exact hq h' tk' _ he' hb (Heap.get?_none_of_le (Nat.le_refl _)) hn (But.fr (h:=s.heap) hb F heg heL)
end
end Mine
namespace Mine
set_option tactic.hygienic false
open PySem PySem.W PySem.Calls PyProof.Rows
inductive DefL (K:Frag) (f:Addr) (qual:Str) (names:List Str) (body:List Stmt) (scope:Scope) (cdv:Value):Prop
 | mk (name:Str) (params:Arguments) (dV kV doc pm:Value) (an:Option Addr) (ct oc:Value) (od:Option Addr) (osl:Array (Option Value)) (look:K.lookup f=some ⟨oc,od,.func (fnOf name qual params body scope dV kV doc pm an cdv ct),osl⟩)
  (bind:∀ vs:List Value,vs.length=names.length→bindArgs (fnOf name qual params body scope dV kV doc pm an cdv ct) ⟨vs,[]⟩=pure (names.zip vs)):DefL K f qual names body scope cdv
structure DefK (K:Frag) (f:Addr) (qual:Str) (names:List Str) (body:List Stmt) (scope:Scope) (cdv:Value):Prop where
 look:DefL K f qual names body scope cdv
 code:codeIn K cdv qual=true
 co:scope.isCoroutine=false
 gen:scope.isGenerator=false
 kind:scope.kind=.function
 cell:∀ x∈scope.names,x.2≠.cell
 loc:∀ x∈names,scope.names.lookup x=some .local
section
variable {prog:Program} {w:World} {A A₀:Around} {s:Shared} {K:Frag} {p:Program} {loose:List Str} {mean:ExcName→Option Value} {mg mb:Str→Option Value} {base h₀:Heap} {L:Addr} {m:Str→Option Value} {news:List (Addr × Obj)} {env:Env} {outer:List Env} {R:Result→Shared→Prop}
theorem enterG {f:Addr} {qual:Str} {names:List Str} {body:List Stmt} {scope:Scope} {cdv:Value} (D:DefK K f qual names body scope cdv) {vs:List Value} (hvs:vs.length=names.length)
  (B:Below A₀ base outer h₀) (F:Fr h₀ L s.heap m) (X₀:K.In h₀) (N:News h₀ L s.heap news) (T:Top p loose mean mg mb h₀) (hA:A.frames=some (env::outer)) (hf:env.frame=some L) (hke:env.scope.kind=.function) (hroom:A.depth < recursionLimit)
  (h:∀ g L' h₁,Fr h₀ L g m→Fr g L' h₁ (fun y=>(names.zip vs).reverse.lookup y)→News g L' h₁ news→Below A base (env::outer) g→K.In g→Top p loose mean mg mb g→GSub s.heap g (news.map (·.1)) →
   wpAny (model prog w) (A.deeper (envOf qual scope L' f cdv)) (execs body (envOf qual scope L' f cdv))
    (fun fl s'=>LeaveK h₀ L m g R (match fl with | .ret v=>v | _=>.none) s')
    (fun e s'=>wpAny (model prog w) (A.deeper (envOf qual scope L' f cdv)) (leaving (envOf qual scope L' f cdv) e) (fun _ s''=>R (.error e) s'') (fun e' s''=>R (.error e') s'') s')
    { s with heap:=h₁,toks:=s.toks+(names.zip vs).length }) :
  codeAny (model prog w) A (.call (.ref f) ⟨vs,[]⟩) R s:=by
 obtain ⟨name,params,dV,kV,doc,pm,an,ct,oc,od,osl,hl,hb⟩:=D.look
 exact code_defG B F X₀ N T hA hf hke hl D.code hroom (BindsTo.of_eq (hb vs hvs)) (fun y hy=>D.loc _ (List.of_mem_zip hy).1) h D.co D.gen D.kind D.cell
theorem enter {f:Addr} {qual:Str} {names:List Str} {body:List Stmt} {scope:Scope} {cdv:Value} (D:DefK K f qual names body scope cdv) {vs:List Value} (hvs:vs.length=names.length)
  (B:Below A₀ base outer h₀) (F:Fr h₀ L s.heap m) (X₀:K.In h₀) (N:News h₀ L s.heap news) (T:Top p loose mean mg mb h₀) (hA:A.frames=some (env::outer)) (hf:env.frame=some L) (hke:env.scope.kind=.function) (hroom:A.depth < recursionLimit)
  (h:∀ g L' h₁,Fr h₀ L g m→Fr g L' h₁ (fun y=>(names.zip vs).reverse.lookup y)→News g L' h₁ news→Below A base (env::outer) g→K.In g→Top p loose mean mg mb g →
   wpAny (model prog w) (A.deeper (envOf qual scope L' f cdv)) (execs body (envOf qual scope L' f cdv))
    (fun fl s'=>LeaveK h₀ L m g R (match fl with | .ret v=>v | _=>.none) s')
    (fun e s'=>wpAny (model prog w) (A.deeper (envOf qual scope L' f cdv)) (leaving (envOf qual scope L' f cdv) e) (fun _ s''=>R (.error e) s'') (fun e' s''=>R (.error e') s'') s')
    { s with heap:=h₁,toks:=s.toks+(names.zip vs).length }) :
  codeAny (model prog w) A (.call (.ref f) ⟨vs,[]⟩) R s:=by
 exact enterG D hvs B F X₀ N T hA hf hke hroom fun g L' h₁ a b c d e f _=>h g L' h₁ a b c d e f
end
section
variable {prog:Program} {w:World} {A A₀:Around} {s:Shared} {K:Frag} {p:Program} {loose:List Str} {mean:ExcName→Option Value} {mg mb:Str→Option Value} {base h₀:Heap} {L:Addr} {m:Str→Option Value} {news:List (Addr × Obj)} {env:Env} {outer:List Env} {R:Result→Shared→Prop}
inductive Init1 (K:Frag) (f:Addr):Prop
 | mk (qual:Str) (scope:Scope) (cdv:Value) (p1 p2 p3 p4 p5 p6 q1 q2 q3 q4:Pos) (D:DefK K f qual ["self","text"]
 [.Expr (.Call (.Attribute (.Name "Exception" p1) "__init__" p2) [.Name "self" p3,.Name "text" p4] [] p5) p6,.Assign [.Attribute (.Name "self" q1) "text" q2] (.Name "text" q3) q4] scope cdv)
 (hs:Sc2 scope) (hx:scope.names.lookup ("Exception":Str)=some .globalImplicit) (hl:(p2.endLine == p5.line)=true):Init1 K f
theorem yq8 {f C e ta:Addr} {bm:List Value} {tx:Value} (I1:Init1 K f) (CK:ClsK K C bm) (hex:nsIn K mainGlobals "Exception"=some none) (hne:∀ p∈news,p.1≠e)
  (B:Below A₀ base outer h₀) (F:Fr h₀ L s.heap m) (X₀:K.In h₀) (N:News h₀ L s.heap ((e,excO C ta none)::news)) (T:Top p loose mean mg mb h₀) (hA:A.frames=some (env::outer)) (hf:env.frame=some L) (hke:env.scope.kind=.function) (hroom:A.depth < recursionLimit)
  (hq:∀ h' tk' t1 dx od,Fr h₀ L h' m→News h₀ L h' ((e,excO C t1 (some dx))::(dx,od)::news)→h'.Ns1 dx (fun y=>if y=("text":Str) then some tx else none)→dx≠e→(∀ p∈news,p.1≠dx)→R (.ok (.ret .none)) { s with heap:=h',toks:=tk' }) :
  codeAny (model prog w) A (.call (.ref f) ⟨[.ref e,tx],[]⟩) R s:=by
 refine big fun Gz hGz=>?_
 obtain ⟨qual,scope,cdv,p1,p2,p3,p4,p5,p6,q1,q2,q3,q4,D,S2,hx,hline⟩:=I1 <;> refine hGz ?_
 refine enter D rfl B F X₀ N T hA hf hke hroom fun g L' h₁ FG F' N' B' X' T'=>?_
 have m1:(List.zip ([("self":Str),"text"]) [Value.ref e,tx]).reverse.lookup ("self":Str)=some (Value.ref e):=by
  show List.lookup ("self":Str) [(("text":Str),tx),(("self":Str),Value.ref e)]=_
  rw [List.lookup_cons,show (("self":Str) == ("text":Str))=false from by decide +kernel]
  exact List.lookup_cons_self
 haveI m2:(List.zip ([("self":Str),"text"]) [Value.ref e,tx]).reverse.lookup ("text":Str)=some tx:=List.lookup_cons_self
 haveI E0:=N' _ (.head _)
 refine wpAny_execs_cons (base_init (s:={ s with heap:=h₁,toks:=_ }) S2 hx hline F' X' (topRead_of T') hex CK m1 m2 E0.1 E0.2.2 (Ne.symm E0.2.1) fun h2 tk2 t1 he2 hb2 F2=>?_)
 have N2:News g L' h2 news:=hb2.news (fun p hp=>N' p (.tail _ hp)) hne
 refine wpAny_execs_cons (wi1 (s:={ s with heap:=h2,toks:=tk2 }) S2 F2 X' CK m1 m2 he2 E0.2.2 (Ne.symm E0.2.1) fun h3 tk3 dx he3 hb3 hdx hns F3=>?_)
 refine wpAny_execs_nil ?_
 refine big fun Gz hGz=>?_
 obtain ⟨od,es,ep,hod,hrest⟩:=id hns <;> refine hGz ?_
 have hdx':h2.get? dx=none:=hdx
 have hgdx:g.get? dx=none:=by
  cases q:g.get? dx with
  | none=>rfl
  | some o=>rw [F2.keep _ _ q] at hdx'; cases hdx'
 have hLdx:dx≠L':=by
  obtain ⟨oL,_,_,hL,_⟩:=F2.ns
  intro z
  rw [z,hL] at hdx'; cases hdx'
 haveI hne':∀ p∈news,p.1≠dx:=fun p hp z=>by
  have:=(N2 p hp).1
  rw [z,hdx'] at this; cases this
 have hde:dx≠e:=fun z=>by rw [z] at hdx'; rw [hdx'] at he2; cases he2
 haveI N3:News g L' h3 ((e,excO C t1 (some dx))::(dx,od)::news):=by
  intro p hp
  rcases List.mem_cons.mp hp with rfl | hp
  ·exact ⟨he3,E0.2⟩
  ·rcases List.mem_cons.mp hp with rfl | hp
   ·exact ⟨hod,hLdx,hgdx⟩
   ·exact hb3.news N2 hne p hp
 exact leaveK_ (s':={ s with heap:=h3,toks:=tk3 }) F3 N3 fun Fh Nh=>hq h3 tk3 t1 dx od Fh Nh hns hde hne'
structure InitBy (K:Frag) (Cb f1:Addr) (x:Str):Prop where
 ns:nsIn K mainGlobals x=some (some (.ref Cb))
 ga:specialIn K (.ref Cb) "__getattribute__"=some (some (.builtin "type.__getattribute__"))
 reads:readsIn K Cb (.type "type")=true
 find:findCls K (.ref Cb) (.type "type") "__init__"=some (.val (.ref f1))
 hand:handedIn (.ref f1)=true
 keep:keepIn K (.ref f1)=true
 one:Init1 K f1
inductive Init2 (K:Frag) (f:Addr):Prop
 | mk (qual:Str) (scope:Scope) (cdv:Value) (p1 p2 p3 p4 p5 p6 q1 q2 q3 q4:Pos) (D:DefK K f qual ["self","at","text"]
 [.Expr (.Call (.Attribute (.Name "F77Error" p1) "__init__" p2) [.Name "self" p3,.Name "text" p4] [] p5) p6,.Assign [.Attribute (.Name "self" q1) "at" q2] (.Name "at" q3) q4] scope cdv)
 (hs:Sc2 scope) (ha:scope.names.lookup ("at":Str)=some .local) (hx:scope.names.lookup ("F77Error":Str)=some .globalImplicit) (hl:(p2.endLine == p5.line)=true):Init2 K f
theorem wk9 {f f1 C Cb e ta:Addr} {bm:List Value} {tx va:Value} (I2:Init2 K f) (IB:InitBy K Cb f1 "F77Error") (CK:ClsK K C bm) (hex:nsIn K mainGlobals "Exception"=some none) (hne:∀ p∈news,p.1≠e)
  (B:Below A₀ base outer h₀) (F:Fr h₀ L s.heap m) (X₀:K.In h₀) (N:News h₀ L s.heap ((e,excO C ta none)::news)) (T:Top p loose mean mg mb h₀) (hA:A.frames=some (env::outer)) (hf:env.frame=some L) (hke:env.scope.kind=.function) (hroom:A.depth+1 < recursionLimit)
  (hq:∀ h' tk' t1 dx od,Fr h₀ L h' m→News h₀ L h' ((e,excO C t1 (some dx))::(dx,od)::news)→R (.ok (.ret .none)) { s with heap:=h',toks:=tk' }) :
  codeAny (model prog w) A (.call (.ref f) ⟨[.ref e,va,tx],[]⟩) R s:=by
 obtain ⟨qual,scope,cdv,p1,p2,p3,p4,p5,p6,q1,q2,q3,q4,D,S2,hat,hx,hline⟩:=I2
 refine enter D rfl B F X₀ N T hA hf hke (by exact j5 hroom) fun g L' h₁ FG F' N' B' X' T'=>?_
 have m1:(List.zip ([("self":Str),"at","text"]) [Value.ref e,va,tx]).reverse.lookup ("self":Str)=some (Value.ref e):=by
  show List.lookup ("self":Str) [(("text":Str),tx),(("at":Str),va),(("self":Str),Value.ref e)]=_
  rw [List.lookup_cons,show (("self":Str) == ("text":Str))=false from by decide +kernel]
  dsimp only
  rw [List.lookup_cons,show (("self":Str) == ("at":Str))=false from by decide +kernel]
  exact List.lookup_cons_self
 haveI m2:(List.zip ([("self":Str),"at","text"]) [Value.ref e,va,tx]).reverse.lookup ("text":Str)=some tx:=List.lookup_cons_self
 haveI m3:(List.zip ([("self":Str),"at","text"]) [Value.ref e,va,tx]).reverse.lookup ("at":Str)=some va:=by
  show List.lookup ("at":Str) [(("text":Str),tx),(("at":Str),va),(("self":Str),Value.ref e)]=_
  rw [List.lookup_cons,show (("at":Str) == ("text":Str))=false from by decide +kernel]
  exact List.lookup_cons_self
 refine wpAny_execs_cons (wpAny_Expr (call_by (f:=.ref f1) hline rfl ?_) ?_ rfl)
 ·refine name_K (s:={ s with heap:=h₁,toks:=_ }) F' X' (topRead_of T') IB.ns (fun pl=>?_) S2.kind hx (by decide +kernel)
  refine method_cls (X'.keeps F'.keep) IB.ga (cls_value (X'.keeps F'.keep) IB.reads IB.find IB.hand ⟨rfl,?_⟩)
  refine callWith_K X' IB.keep (wa7 (s:={ s with heap:=h₁,toks:=_ }) F' m1 m2 S2.kind S2.self S2.text (by decide +kernel) (by decide +kernel) ⟨X'.keeps F'.keep,?_⟩) rfl rfl
  refine wpAny_call (yq8 (s:={ s with heap:=h₁,toks:=_ }) IB.one CK hex hne B' F' X' N' T' (Around.frames_deeper hA) rfl S2.kind ?_ fun h2 tk2 t1 dx od F2 N2 hns hde hdn=>?_)
  ·show A.depth+1 < recursionLimit
   exact hroom
  ·haveI E2:=N2 _ (.head _)
   haveI D2:=N2 _ (.tail _ (.head _))
   refine wpAny_execs_cons (plainObj_wpAny_Assign_Attribute ?_ rfl)
   refine ld (s:={ s with heap:=h2,toks:=tk2 }) F2 m3 ?_ S2.kind hat (by decide +kernel)
   refine ld (s:={ s with heap:=h2,toks:=tk2 }) F2 m1 ?_ S2.kind S2.self (by decide +kernel)
   obtain ⟨nm,q,N,bs,sn,sub,ab,col,dd,k0,k1,k2,k3,k5,hC⟩:=CK.obj
   refine set_more CK.has CK.pass (X'.keeps F2.keep) (F2.keep _ _ (X' _ _ hC)) CK.seta CK.at_ E2.1 rfl rfl hns (Within.cons "text" tx Within.nil) (by decide) fun h3 tk3 hs hns3=>?_
   refine wpAny_execs_nil ?_
   refine big fun Gz hGz=>?_
   obtain ⟨od3,es,ep,hod,hrest⟩:=id hns3 <;> refine hGz ?_
   have hb:But dx h2 h3:=fun b ob hb q=>(hs.2 b hb).trans q
   haveI F3:Fr g L' h3 _:=hb.fr F2 D2.2.2 (Ne.symm D2.2.1)
   haveI N3:News g L' h3 ((e,excO C t1 (some dx))::(dx,od3)::news):=by
    intro p hp
    rcases List.mem_cons.mp hp with rfl | hp
    ·exact ⟨hb _ _ (Ne.symm hde) E2.1,E2.2⟩
    ·rcases List.mem_cons.mp hp with rfl | hp
     ·exact ⟨hod,D2.2⟩
     ·exact hb.news (fun q hq=>N2 q (.tail _ (.tail _ hq))) hdn p hp
   exact leaveK_ (s':={ s with heap:=h3,toks:=tk3 }) F3 N3 fun Fh Nh=>hq h3 tk3 t1 dx od3 Fh Nh
 ·show (scope.kind == .module && _)=false
  rw [S2.kind]; rfl
end
end Mine
namespace Mine
set_option tactic.hygienic false
open PySem PySem.W PySem.Calls PyProof.Rows
section
variable {M:Model} {A:Around} {E:Value→Shared→Prop} {env:Env}
variable {nm q:Str} {C N:Addr} {bs bm:List Value} {hdct:Bool} {sn:List Str} {sub:List Value} {ab:Bool} {col:Option Bool} {dd:Option Addr} {k0 k1 k2 k3 k5:Option Value}
theorem wc5 {s:Shared} {x:Sem Value} {Q:Flow→Shared→Prop} (T:HasE bm) (hh:A.handled=none)
  (h:wpAny M A x (fun v s₁=>∃ e t de,v=.ref e∧s₁.heap.get? C=some (clsO nm q C N bs bm hdct sn sub ab col dd k0 k1 k2 k3 k5) ∧
   s₁.heap.get? e=some (excO C t de)∧E (.ref e) s₁) E s) :
  wpAny M A (raiseStmt env (some x) none) Q E s:=by
 haveI hcB:(Value.ref C::bm).contains (.type "BaseException")=true:=by rw [List.contains_cons,T _ _ FE.hasBase,Bool.or_true]
 unfold raiseStmt
 refine wpAny_bind (wpAny_mono h (fun v s₁ h₁=>?_) fun _ _ x=>x)
 refine big fun Gz hGz=>?_
 obtain ⟨e,t,de,rfl,hC,he,hE⟩:=h₁ <;> refine hGz ?_
 obtain ⟨hp,g,d,tk,os⟩:=s₁
 repeat (first | with_reducible refine wpAny_loadPart_at he ?_ | with_reducible refine wpAny_loadPart_at hC ?_ | (with_reducible refine wpAny_isSubtype_exc hC ?_; rw [hcB]) | wp_step)
 exact wpAny_raiseNew_none hh hE
end
inductive OwnC (I:Addr→Prop) (K:Frag) (C:Addr):Prop
 | mk (bm:List Value) (f:Addr) (hc:ClsK K C bm) (hi:I f) (h1:findIn K (.ref C) "__init__"=some (some (.ref f))) (h2:typeIn K (.ref f)=some (.type "function")) (h3:keepIn K (.ref C)=true):OwnC I K C
structure ExcK (Γ:GC):Prop where
 hex:nsIn Γ.KF mainGlobals "Exception"=some none
 one:∃ Cb f1,InitBy Γ.KF Cb f1 "F77Error"
 lex:OwnC (Init2 Γ.KF) Γ.KF (Γ.ca 0)
 syn:OwnC (Init1 Γ.KF) Γ.KF (Γ.ca 1)
section
variable {Γ:GC} {c:FC}
theorem exc_flies (cok:c.Ok Γ) (may:c.may) (own:c.own) {i:Nat} (hi:i < 2) {h:Heap} {tk:Nat} {m:Str→Option Value} {e dx t1:Addr} {od:Obj} {news:List (Addr × Obj)} {ls:List Addr} (G:Grow c.news₀ c.ls₀ news ls)
  (F:Fr c.g c.L h m) (N:News c.g c.L h ((e,excO (Γ.ca i) t1 (some dx))::(dx,od)::news)) (hne:∀ p∈news,p.1≠e):c.E (.ref e) (Γ.st h tk):=by
 have E1:=N _ (.head _)
 refine cok.hX may e h tk ⟨.ref (Γ.ca i),news,ls,G,⟨i,hi,rfl⟩,.inl ⟨own,hideAll h [e],m,?_,fun p hp=>?_,fun b o q=>of_hideAll _ q,hideAll_none _ (.head _),?_⟩⟩
 ·obtain ⟨oL,es,ep,hL,r⟩:=F.ns
  refine ⟨⟨oL,es,ep,hideAll_get _ hL fun q=>E1.2.1 (List.mem_singleton.mp q).symm,r⟩,fun b o q=>hideAll_get _ (F.keep b o q) fun z=>?_,F.above⟩
  rw [List.mem_singleton.mp z,E1.2.2] at q
  cases q
 ·haveI:=N p (.tail _ (.tail _ hp))
  exact ⟨hideAll_get _ this.1 fun z=>hne p hp (List.mem_singleton.mp z),this.2⟩
 ·exact ⟨_,_,_,E1.1,rfl,rfl,rfl,rfl⟩
inductive CoreI (Γ:GC) (c:FC) (i:Nat):Prop
 | mk (bm:List Value) (fI:Addr) (CK:ClsK Γ.KF (Γ.ca i) bm) (h1:findIn Γ.KF (.ref (Γ.ca i)) "__init__"=some (some (.ref fI))) (h2:typeIn Γ.KF (.ref fI)=some (.type "function")) (h3:keepIn Γ.KF (.ref (Γ.ca i))=true) (run:∀ (A:Around) (s:Shared) (m:Str→Option Value) (nw:List (Addr × Obj)) (e ta:Addr) (vs:List Value) (R:Result→Shared→Prop),A.frames=some (c.env::c.outer)→A.depth+1 < recursionLimit→vs.length=2 - i→Fr c.g c.L s.heap m→News c.g c.L s.heap ((e,excO (Γ.ca i) ta none)::nw)→(∀ p∈nw,p.1≠e) →
    (∀ h' tk' t1 dx od,Fr c.g c.L h' m→News c.g c.L h' ((e,excO (Γ.ca i) t1 (some dx))::(dx,od)::nw)→R (.ok (.ret .none)) { s with heap:=h',toks:=tk' }) →
    codeAny (model Γ.prog Γ.w) A (.call (.ref fI) ⟨.ref e::vs,[]⟩) R s):CoreI Γ c i
theorem wd0 (gok:Γ.Ok) (cok:c.Ok Γ) (ek:ExcK Γ) {i:Nat} (hi:i < 2):CoreI Γ c i:=by
 haveI hX:=gok.X.keeps cok.B.stays
 haveI hT:=gok.T.keeps cok.B.stays
 rcases i with _ | _ | i
 ·obtain ⟨bm,f2,CK,I2,h1,h2,h3⟩:=ek.lex
  obtain ⟨Cb,f1,IB⟩:=ek.one
  refine ⟨bm,f2,CK,h1,h2,h3,fun A s m nw e ta vs R hA hr hv F N hne hq=>?_⟩
  rcases vs with _ | ⟨va,_ | ⟨tx,_ | _⟩⟩
  ·cases hv
  ·cases hv
  ·exact wk9 I2 IB CK ek.hex hne cok.B F hX N hT hA rfl cok.kind hr hq
  ·cases hv
 ·refine big fun Gz hGz=>?_
  obtain ⟨bm,f1,CK,I1,h1,h2,h3⟩:=ek.syn <;> refine hGz ?_
  refine ⟨bm,f1,CK,h1,h2,h3,fun A s m nw e ta vs R hA hr hv F N hne hq=>?_⟩
  rcases vs with _ | ⟨tx,_ | _⟩
  ·cases hv
  ·exact yq8 I1 CK ek.hex hne cok.B F hX N hT hA rfl cok.kind (Nat.lt_of_succ_lt hr) fun h' tk' t1 dx od F' N' _ _ _=>hq h' tk' t1 dx od F' N'
  ·cases hv
 ·exact absurd hi (Nat.not_lt_of_le (Nat.le_add_left _ _))
theorem raise_ok (gok:Γ.Ok) (cok:c.Ok Γ) (ek:ExcK Γ) (own:c.own):RaiseOk Γ c:=by
 intro i x hi hx np cp pos args f hl hlen hst hfl hf env σ h tk news ls Q I hp
 have hX:=gok.X.keeps cok.B.stays
 haveI hT:=gok.T.keeps cok.B.stays
 haveI hd:(x == ("__debug__":Str))=false:=by
  rw [← hx]
  rcases i with _ | _ | i
  ·decide +kernel
  ·decide +kernel
  ·exact absurd hi (by show ¬ i+2 < 2; exact j6)
 haveI hns:=gok.excs i hi
 rw [hx] at hns
 obtain ⟨bm,fI,CK,hfind,hfn,hkeep,run⟩:=wd0 gok cok ek hi
 obtain ⟨nm,q,N,bs,sn,sub,ab,col,dd,k0,k1,k2,k3,k5,hC⟩:=CK.obj
 rw [arm_exec_Raise]
 refine wpAny_bind (wpAny_standAt ?_)
 show wpAny _ _ (raiseStmt c.env (some (do let v ← eval (.Call (.Name x np) args [] cp) c.env; standAt pos; pure v)) none) _ _ _
 refine wc5 (C:=Γ.ca i) (nm:=nm) (q:=q) (N:=N) (bs:=bs) (hdct:=true) (sn:=sn) (sub:=sub) (ab:=ab) (col:=col) (dd:=dd) (k0:=k0) (k1:=k1) (k2:=k2) (k3:=k3) (k5:=k5) CK.has rfl ?_
 refine wpAny_bind (Call_ ?_)
 obtain ⟨⟨m,F,hm⟩,NN,S,G⟩:=id I
 refine zz6 (s:=Γ.st h tk) F hX (topRead_of hT) hns ?_ cok.kind hl hd
 have body:=hf cp env σ h tk news ls (fun vs s₁=>Γ.KF.In s₁.heap∧wpAny (model Γ.prog Γ.w) c.A (call (.ref (Γ.ca i)) ([]++vs)) (fun v s₃=>wpAny (model Γ.prog Γ.w) c.A (do standAt pos; pure v) (fun v s₁=>∃ e t de,v=.ref e∧s₁.heap.get? (Γ.ca i)=some (clsO nm q (Γ.ca i) N bs bm true sn sub ab col dd k0 k1 k2 k3 k5) ∧
   s₁.heap.get? e=some (excO (Γ.ca i) t de)∧c.E (.ref e) s₁) c.E s₃) c.E s₁) I (by
  cases hr:f env σ with
  | exc=>dsimp only at hp; rw [hr] at hp; exact hp
  | stuck=>dsimp only at hp; rw [hr] at hp; exact hp.elim
  | ok r =>
  have may:c.may:=by dsimp only at hp; rw [hr] at hp; exact hp
  intro vs h1 tk1 n1 l1 I1 R1 g1
  obtain ⟨⟨m1,F1,_⟩,N1,S1,G1⟩:=id I1
  refine ⟨hX.keeps F1.keep,?_⟩
  haveI hund:(Code.builtin "type.__call__" ⟨.ref (Γ.ca i)::([]++vs),[]⟩).envs=[]:=by kernel_rfl
  haveI hw:(Code.builtin "type.__call__" ⟨.ref (Γ.ca i)::([]++vs),[]⟩).weight=1:=by kernel_rfl
  have hvl:vs.length=2 - i:=by rw [R1.length,hfl env σ r hr]; exact hlen
  refine call_own (h:=h1) (hX.keeps F1.keep) hfind hfn CK.has (F1.keep _ _ (hX _ _ hC)) ?_ ?_
  ·refine wpAny_call (run _ _ m1 ((h1.objs.size,{ cls:=.type "tuple",data:=.seq vs.toArray })::n1) (h1.objs.size+1) h1.objs.size vs _ ?_ ?_ hvl ((F1.push _).push _) ?_ ?_ ?_)
   ·show pushEnvs (Code.builtin "type.__call__" ⟨.ref (Γ.ca i)::([]++vs),[]⟩).envs c.A.frames=_
    rw [hund]; rfl
   ·show c.dp+(Code.builtin "type.__call__" ⟨.ref (Γ.ca i)::([]++vs),[]⟩).weight+1 < recursionLimit
    rw [hw]
    haveI:=cok.roomD
    exact j7 this
   ·haveI:=(N1.push F1 { cls:=.type "tuple",data:=.seq vs.toArray }).push (F1.push _) (excO (Γ.ca i) h1.objs.size none)
    rwa [Heap.size_push] at this
   ·intro p hp'
    rcases List.mem_cons.mp hp' with rfl | hp'
    ·exact Nat.ne_of_lt (Nat.lt_succ_self _)
    ·exact Nat.ne_of_lt (Nat.lt_succ_of_lt (Heap.lt_size (N1 p hp').1))
   ·intro h' tk' t1 dx od F' N'
    refine ⟨rfl,wpAny_bind (wpAny_standAt (wpAny_pure ⟨h1.objs.size+1,t1,some dx,rfl,F'.keep _ _ (hX _ _ hC),(N' _ (.head _)).1,?_⟩))⟩
    refine exc_flies cok may own hi G1 F' (news:=n1) (dx:=dx) (od:=od) (t1:=t1) (fun p hp'=>?_) fun p hp'=>?_
    ·rcases List.mem_cons.mp hp' with rfl | hp'
     ·exact N' _ (.head _)
     ·rcases List.mem_cons.mp hp' with rfl | hp'
      ·exact N' _ (.tail _ (.head _))
      ·exact N' _ (.tail _ (.tail _ (.tail _ hp')))
    ·exact Nat.ne_of_lt (Nat.lt_succ_of_lt (Heap.lt_size (N1 p hp').1))
  ·have:sizeLine=16777216:=sizeLine_eq
   show vs.length≤_
   exact j401 this hvl)
 cases args with
 | nil =>
  simp at hlen
  omega
 | cons e0 rest =>
  exact callWith_K hX hkeep body (zg2 (hst e0 (.head _))) (zt8 rest fun e he=>hst e (.tail _ he))
end
end Mine
namespace Mine
set_option tactic.hygienic false
open PySem PySem.W PySem.Calls PyProof.Rows
section
variable {M:Model} {A:Around} {E:Value→Shared→Prop} {s':Shared} {base g g₂ h:Heap} {outer:List Env} {L a e:Addr} {m:Str→Option Value} {name:Str} {scope:Scope} {cd:Value} {Q:Unit→Shared→Prop} {news:List (Addr × Obj)}
theorem yw4 {cls:Value} (K:Below A base outer g) (hx:Fresh h s'.heap e cls) (F:Fr g L h m) (N:News g L h news)
  (hQ:∀ h',RaisedSN base g outer e cls news h'→g.UpToSlots h'→Q () { s' with heap:=h' }) (hk:scope.kind=.function) :
  wpAny M (A.deeper (envOf name scope L a cd)) (leaving (envOf name scope L a cd) (.ref e)) Q E s':=by
 have K':=K.push (name:=name) (a:=a) (cd:=cd) F hk
 haveI hin:∀ env∈(envOf name scope L a cd::outer),∀ b,env.frame=some b→b∈(envOf name scope L a cd::outer).filterMap (·.frame):=fun env he b hb=>List.mem_filterMap.mpr ⟨env,he,hb⟩
 have st:base.StaysIn (hideAll h ((envOf name scope L a cd::outer).filterMap (·.frame))):=fun b o q=>hideAll_get _ (K'.stays b o q) fun hm=>by
  rw [(K'.frames.mem hm).1] at q; cases q
 haveI sg:∀ b o,g.get? b=some o→b ∉ outer.filterMap (·.frame)→(hideAll h ((envOf name scope L a cd::outer).filterMap (·.frame))).get? b=some o:=fun b o q nm=>hideAll_get _ (F.keep b o q) fun hm=>by
  rcases kts_mem hm with z | z
  ·rw [z,kts_self F] at q
   cases q
  ·exact nm z
 haveI hl:∀ q∈news,(hideAll h ((envOf name scope L a cd::outer).filterMap (·.frame))).get? q.1=some q.2∧g.get? q.1=none∧base.get? q.1=none:=fun q hq=>by
  refine ⟨hideAll_get _ (N q hq).1 fun hm=>?_,(N q hq).2.2,fresh_of_stays K.stays (N q hq).2.2⟩
  obtain ⟨env,he,hf⟩:=List.mem_filterMap.mp hm
  rcases List.mem_cons.mp he with rfl | he
  ·exact (N q hq).2.1 (Option.some.inj hf).symm
  ·obtain ⟨o,ho,_⟩:=(K.frames.mem (List.mem_filterMap.mpr ⟨env,he,hf⟩)).2
   rw [(N q hq).2.2] at ho; cases ho
 obtain ⟨ob,vs,tp,he,hcls,hd,h0,h1⟩:=hx.there
 have hen:(hideAll h ((envOf name scope L a cd::outer).filterMap (·.frame))).get? e=none:=by
  cases q:(hideAll h ((envOf name scope L a cd::outer).filterMap (·.frame))).get? e with
  | none=>rfl
  | some o=>have:=of_hideAll _ q; rw [hx.new] at this; cases this
 refine wpAny_leaving_firstW (a0:=tp) K'.stack ((funFrames_hide K'.frames hin).of_keeps fun b o hb _=>⟨o,hx.keeps b o hb,rfl⟩) rfl he (fun b o hb=>hx.keeps b o (of_hideAll _ hb)) hen hd h1 h0 fun h' hL=>?_
 obtain ⟨k1,⟨_,_,k2⟩,k3,k4⟩:=hL
 haveI R:RaisedSN base g outer e cls news h':=⟨_,tp,st,sg,hl,k1,hen,k2,by rw [← hcls]; exact k3⟩
 exact hQ h' R (((Heap.UpToSlots.of_keeps F.keep).trans (Heap.UpToSlots.of_keeps hx.keeps)).trans k4)
end
section
variable {base:Heap} {ta:Nat→Option Addr} {news:List (Addr × Obj)} {ls ls':List Addr}
theorem At.less (hs:∀ a∈ls,a∈ls') {a:Addr} {o:Obj} (h:At base news ls' a o):At base news ls a o:=h.imp (fun h=>⟨h.1,fun q=>h.2 (hs _ q)⟩) id
theorem RepV.less (hs:∀ a∈ls,a∈ls') {v:Value} {d:PV} (r:RepV base ta news ls' v d) (n:zh8 d=true):RepV base ta news ls v d:=r.gen (L:=false) (fun _ _ _ h=>h.less hs) nofun fun _=>n
theorem RepA.less (hs:∀ a∈ls,a∈ls') {vs:List Value} {ds:List PV} (r:RepA base ta news ls' vs ds) (n:zd0 ds=true):RepA base ta news ls vs ds:=r.gen (L:=false) (fun _ _ _ h=>h.less hs) nofun fun _=>n
variable {σ:za7}
theorem RepV.frozen (S:StoreOk base ta news ls' σ) (n:Nat) (hls:ls=ls'.take n) {v:Value} {d e:PV} (r:RepV base ta news ls' v d) (h:zp0 n σ d=some e):RepV base ta news ls v e:=by
 have hs:∀ a∈ls,a∈ls':=fun a q=>by rw [hls] at q; exact List.mem_of_mem_take q
 refine @RepV.rec base ta news ls' (fun v d _=>∀ e,zp0 n σ d=some e→RepV base ta news ls v e) (fun vs ds _=>∀ es,zx2 n σ ds=some es→RepA base ta news ls vs es)
  (fun e h=>Option.some.inj h ▸ .none) (fun b e h=>Option.some.inj h ▸ .bool b) (fun i t e h=>Option.some.inj h ▸ .int i t) (fun x t {_} hx k e h=>Option.some.inj h ▸ .str x t hx k)
  (fun {a} {vs} {m} {ds} ha _ ih e h=>?_) (fun {_} {_} {_} {ds} ha r _ e h=>ifC (c:=zd0 ds=true) h fun hn q=>Option.some.inj q ▸ .list (ha.less hs) (r.less hs hn))
  (fun {a} {k} hk e h=>?_) (fun hk e h=>Option.some.inj h ▸ .tab hk) (fun e h=>Option.some.inj h ▸ .nil)
  (fun {_} {_} {d} {ds} _ _ i1 i2 e h=>obC (o:=zp0 n σ d) (f:=fun w=>(zx2 n σ ds).map (w::·)) h fun w hw h=>?_) v d r e h
 ·exact omE (o:=zx2 n σ ds) (f:=PV.tup) h fun l hl q=>q ▸ .tup (ha.less hs) (ih l hl)
 ·refine ifC (c:=n≤k) h fun hnk h=>?_
  cases hl:σ[k]? with
  | none=>rw [hl] at h; exact nn h
  | some l =>
   rw [hl] at h
   refine ifC (c:=zd0 l=true) h fun hn h=>Option.some.inj h ▸ ?_
   obtain ⟨vs,i,hm,r⟩:=S.at' k a l hk hl
   refine .list (.inl ⟨hm,fun q=>?_⟩) (r.less hs hn)
   rw [hls] at q
   obtain ⟨j,hj⟩:=List.getElem?_of_mem q
   have hjn:j < n:=by
    haveI:=(List.getElem?_eq_some_iff.mp hj).1
    rw [List.length_take] at this
    exact Nat.lt_of_lt_of_le this (Nat.min_le_left _ _)
   rw [List.getElem?_take_of_lt hjn] at hj
   haveI:=zt7 S.nodup hj hk
   exact absurd hnk (Nat.not_le_of_lt (this ▸ hjn))
 ·exact omE h fun l hl q=>q ▸ .cons (i1 w hw) (i2 l hl)
end
section
variable {Γ:GC} {c:FC} {C:Nat→List PV→za7→Out (PV × za7)}
theorem back (cok:c.Ok Γ) {c':FC} {env:Env'} {σ σ':za7} {news news':List (Addr × Obj)} {ls ls':List Addr} {h' g:Heap} {tk':Nat} {m m₀:Str→Option Value} {Q:Value→Shared→Prop} {v:Value} {fl:Fl} {o:PV × za7} {L':Addr}
  (hm:MRel Γ c m env news ls) (S₀:StoreOk Γ.base Γ.ta news ls σ) (G₀:Grow c.news₀ c.ls₀ news ls)
  (F':Fr g L' h' m₀) (N':News g L' h' news') (S:StoreOk Γ.base Γ.ta news' ls' σ') (gr:Grow news ls news' ls')
  (rv:RepV Γ.base Γ.ta news' ls' v (flP fl)) (hl:zh3 σ.length fl σ'=.ok o) {h:Heap} (gs:GSub h g (news.map (·.1)))
  (hq:∀ v h' tk' news' ls',Inv Γ c h' env o.2 news' ls'→RepV Γ.base Γ.ta news' ls' v o.1→Grow news ls news' ls'→Apart h news h' news'→Q v (Γ.st h' tk')) :
  Fr c.g c.L h' m→News c.g c.L h' news'→Q v (Γ.st h' tk'):=by
 intro Fc Nc
 unfold zh3 at hl
 cases hf:zp0 σ.length σ' (flP fl) with
 | none=>rw [hf] at hl; cases hl
 | some w =>
  rw [hf] at hl
  dsimp only at hl
  split at hl
  ·rename_i hall
   cases hl
   obtain ⟨t,rfl⟩:=gr.live
   have hlen:ls.length=σ.length:=S₀.len
   haveI hls:ls=(ls++t).take σ.length:=by rw [← hlen,List.take_left]
   have g1:Grow news ls news' ls:=⟨fun p hp hn=>⟨(gr.keep p hp hn).1,hn⟩,[],(List.append_nil _).symm⟩
   have hsub:∀ a∈ls,a∈ls++t:=fun a q=>List.mem_append_left _ q
   haveI hlen':σ.length≤σ'.length:=by
    haveI h2:=S.len
    rw [List.length_append] at h2
    exact j371 h2 hlen
   refine hq v h' tk' news' ls ⟨⟨m,Fc,fun k x pv hx he=>?_⟩,Nc,⟨?_,?_,?_,?_,?_⟩,G₀.trans g1⟩ (rv.frozen S _ hls hf) g1 ⟨fun b o q n=>F'.keep b o (gs b o q n),fun p hp=>?_⟩
   ·obtain ⟨v',hv',r⟩:=hm k x pv hx he
    exact ⟨v',hv',r.mono g1⟩
   ·rw [List.length_take,hlen]; exact Eq.symm (Nat.min_eq_left hlen')
   ·exact (List.nodup_append.mp S.nodup).1
   ·exact fun a q=>S.off a (hsub a q)
   ·exact fun l q=>S.small l (List.mem_of_mem_take q)
   ·intro k a l h1 h2
    have hk:k < σ.length:=by rw [← hlen]; exact (List.getElem?_eq_some_iff.mp h1).1
    rw [List.getElem?_take_of_lt hk] at h2
    obtain ⟨vs,n,h3,h4⟩:=S.at' k a l (by rw [List.getElem?_append_left (by exact j372 hk hlen)]; exact h1) h2
    refine ⟨vs,n,h3,h4.less hsub ?_⟩
    haveI:l∈σ'.take σ.length:=List.mem_of_getElem? (by rw [List.getElem?_take_of_lt hk]; exact h2)
    exact List.all_eq_true.mp hall l this
   ·by_cases hpn:p.1∈news.map (·.1)
    ·exact .inl hpn
    ·right
     cases q:h.get? p.1 with
     | none=>rfl
     | some o =>
      have:=gs _ _ q hpn
      rw [(N' p hp).2.2] at this
      cases this
  ·cases hl
theorem MRel.of (I:Inv Γ c h env σ news ls):∃ m,Fr c.g c.L h m∧MRel Γ c m env news ls:=I.fr.casesOn fun m F h=>⟨m,F,h⟩
inductive DefCK (K:Frag) (f:Addr) (d:FD):Prop
 | mk (qual:Str) (names:List Str) (body:List Stmt) (scope:Scope) (cdv:Value) (n:Nat) (D:DefK K f qual names body scope cdv) (hc:cSL (cS (cxOf scope) n) body=some d.code) (hn:d.npar=names.length) (ht:(nmOf scope).take names.length=names) (hd:(nmOf scope).Nodup):DefCK K f d
structure DefC (Γ:GC) (k:Nat) (d:FD):Prop where
 ex:DefCK Γ.KF (Γ.fa k) d
theorem we5:∀ {names:List Str} {vs:List Value} {k:Nat} {x:Str} {v:Value},names.Nodup→names[k]?=some x→vs[k]?=some v→(names.zip vs).reverse.lookup x=some v:=by
 intro names vs k x v hn hk hv
 haveI hmem:(x,v)∈names.zip vs:=by
  refine List.mem_of_getElem? (i:=k) ?_
  rw [List.getElem?_zip_eq_some]
  exact ⟨hk,hv⟩
 have huniq:∀ w,(x,w)∈names.zip vs→w=v:=by
  intro w hw
  obtain ⟨j,hj⟩:=List.getElem?_of_mem hw
  rw [List.getElem?_zip_eq_some] at hj
  haveI:=zt7 hn hj.1 hk
  subst this
  rw [hv] at hj
  exact (Option.some.inj hj.2).symm
 haveI hmem':(x,v)∈(names.zip vs).reverse:=List.mem_reverse.mpr hmem
 haveI huniq':∀ w,(x,w)∈(names.zip vs).reverse→w=v:=fun w hw=>huniq w (List.mem_reverse.mp hw)
 generalize (names.zip vs).reverse=l at hmem' huniq'
 induction l with
 | nil=>cases hmem'
 | cons p r ih =>
  obtain ⟨y,u⟩:=p
  by_cases hy:x=y
  ·subst hy
   rw [List.lookup_cons_self,huniq' u (.head _)]
  ·rw [List.lookup_cons,show (x == y)=false from beq_eq_false_iff_ne.mpr hy]
   rcases List.mem_cons.mp hmem' with h | h
   ·cases h; exact absurd rfl hy
   ·exact ih h fun w hw=>huniq' w (.tail _ hw)
theorem yh4 (gok:Γ.Ok) (cok:c.Ok Γ) {k:Nat} {qual:Str} {names:List Str} {body:List Stmt} {scope:Scope} {cdv:Value} {X:EX} {nl:Nat} (DK:DefK Γ.KF (Γ.fa k) qual names body scope cdv) (hpar:(nmOf scope).take names.length=names) (hnd:(nmOf scope).Nodup)
  (hd:c.dp+12 < recursionLimit) (hu:c.un+104 < cLine)
  (hb:∀ c':FC,c'.Ok Γ→c'.dp=c.dp+1→c'.un=c.un+3→c'.cs=scope→c'.nm=nmOf scope→c'.may=c.may→c'.own→SX Γ c' (execs body c'.env) X)
  {args:List PV} {env:Env'} {σ:za7} {h:Heap} {tk:Nat} {news:List (Addr × Obj)} {ls:List Addr} {vs:List Value} {Q:Value→Shared→Prop} (hal:args.length=names.length)
  (I:Inv Γ c h env σ news ls) (ra:RepA Γ.base Γ.ta news ls vs args) (hp:ys2 Γ c env news ls h Q ((X (args.map some++List.replicate nl none) σ).bind fun q=>zh3 σ.length q.1 q.2.2)) :
  wpAny (model Γ.prog Γ.w) c.A (call (.ref (Γ.fa k)) vs) Q c.E (Γ.st h tk):=by
 have hvl:vs.length=names.length:=by rw [ra.length,hal]
 haveI hX:=gok.X.keeps cok.B.stays
 haveI hT:=gok.T.keeps cok.B.stays
 obtain ⟨⟨m,F,hm⟩,NN,S,G⟩:=id I
 refine wpAny_call (enterG (s:=Γ.st h tk) DK hvl cok.B F hX NN hT rfl rfl cok.kind (by show c.dp < recursionLimit; exact j170 hd) fun g L' h₁ FG F' N' B' X' T' GS=>?_)
 let c':FC:={ cn:=qual,cs:=scope,L:=L',a:=Γ.fa k,cd:=cdv,outer:=c.env::c.outer,g:=g,dp:=c.dp+1,un:=c.un+3,gd:=c.gd,A₀:=c.A,nm:=nmOf scope,news₀:=news,ls₀:=ls,may:=c.may,own:=True,cells:=[],E:=fun e s'=>wpAny (model Γ.prog Γ.w) (c.A.deeper (envOf qual scope L' (Γ.fa k) cdv)) (leaving (envOf qual scope L' (Γ.fa k) cdv) e) (fun _ s''=>c.E e s'') (fun e' s''=>c.E e' s'') s' }
 haveI cok':c'.Ok Γ:={
  B:=B'
  kind:=DK.kind
  nmnd:=hnd
  hE:=PassesOwn.leaving
  hX:=by
   rintro may e h' tk' ⟨cls,nw,lw,gr,hf,hcase⟩
   have key:∀ h'',RaisedSN Γ.base g (c.env::c.outer) e cls nw h''→g.UpToSlots h''→c.E (.ref e) (Γ.st h'' tk'):=fun h'' R U =>
    cok.hX may e h'' tk' ⟨cls,nw,lw,G.trans gr,hf,.inr ⟨g,m,FG,R,U⟩⟩
   rcases hcase with ⟨_,h₀,m₀,F₀,N₀,fr⟩ | ⟨g₂,m₀,F₀,R,U⟩
   ·exact yw4 (s':=Γ.st h' tk') B' fr F₀ N₀ key DK.kind
   ·exact leave_onSN (s':=Γ.st h' tk') B' F₀ R U fun h'' R' _ U'=>key h'' R' U'
  room:=by show c.un+3+100 < cLine; exact j352 hu
  roomD:=by show c.dp+1+10 < recursionLimit; exact j353 hd }
 haveI I':Inv Γ c' h₁ (args.map some++List.replicate nl none) σ news ls:=by
  refine ⟨⟨_,F',fun j x pv hx he=>?_⟩,N',S,Grow.refl⟩
  have hj:j < args.length:=by
   by_cases hj:j < args.length
   ·exact hj
   ·exfalso
    rw [List.getD_eq_getElem?_getD,List.getElem?_append_right (by simp; exact j61 hj)] at he
    by_cases hj2:j - (args.map some).length < nl
    ·rw [List.getElem?_replicate_of_lt hj2] at he; cases he
    ·rw [List.getElem?_eq_none (by simp at hj2 ⊢; exact j20 hj2)] at he; cases he
  rw [List.getD_eq_getElem?_getD,List.getElem?_append_left (by simpa using hj),List.getElem?_map] at he
  have he':args[j]?=some pv:=by
   rw [List.getElem?_eq_getElem hj] at he ⊢
   simpa using he
  obtain ⟨v,hv,rv⟩:=ra.get he'
  haveI hnx:names[j]?=some x:=by
   rw [← hpar,List.getElem?_take_of_lt (by exact j8 hj hal)]
   exact hx
  have hnn:names.Nodup:=by rw [← hpar]; exact hnd.sublist (List.take_sublist ..)
  exact ⟨v,we5 hnn hnx hv,rv⟩
 refine hb c' cok' rfl rfl rfl rfl rfl trivial _ σ h₁ _ news ls (fun fl s'=>LeaveK c.g c.L m g (fun r s'=>match r with | .ok (.ret v)=>Q v s' | .ok _=>False | .error e=>c.E e s') (match fl with | .ret v=>v | _=>.none) s') I' ?_
 cases hr:X (args.map some++List.replicate nl none) σ with
 | exc=>rw [hr] at hp; exact hp
 | stuck=>rw [hr] at hp; exact hp.elim
 | ok q =>
  rw [hr] at hp
  intro fl h' tk' news' ls' I2 rf gr
  obtain ⟨⟨m2,F2,_⟩,N2,S2,G2⟩:=I2
  change ys2 _ _ _ _ _ _ _ (zh3 σ.length q.1 q.2.2) at hp
  cases hlv:zh3 σ.length q.1 q.2.2 with
  | exc =>
   exfalso
   unfold zh3 at hlv
   split at hlv
   ·split at hlv <;> cases hlv
   ·cases hlv
  | stuck=>rw [hlv] at hp; exact hp.elim
  | ok o =>
   rw [hlv] at hp
   refine leaveK_ (s':=Γ.st h' tk') F2 N2 (back cok (c':=c') (fl:=q.1) hm S G F2 N2 S2 gr ?_ hlv GS hp)
   obtain ⟨q1,q2,q3⟩:=q
   dsimp only at rf ⊢
   cases rf with
   | next=>exact .none
   | cont=>exact .none
   | ret r=>exact r
theorem call_def (gok:Γ.Ok) (ek:ExcK Γ) (cok:c.Ok Γ) {k N:Nat} {d:FD} (D:DefC Γ k d) (hd:c.dp+12 < recursionLimit) (hu:c.un+104 < cLine)
  (hC:∀ c':FC,c'.Ok Γ→c'.dp=c.dp+1→c'.un=c.un+3→zn3 Γ c' C)
  {args:List PV} {env:Env'} {σ:za7} {h:Heap} {tk:Nat} {news:List (Addr × Obj)} {ls:List Addr} {vs:List Value} {Q:Value→Shared→Prop}
  (I:Inv Γ c h env σ news ls) (ra:RepA Γ.base Γ.ta news ls vs args) (hp:ys2 Γ c env news ls h Q (yr6 C N d args σ)) :
  wpAny (model Γ.prog Γ.w) c.A (call (.ref (Γ.fa k)) vs) Q c.E (Γ.st h tk):=by
 obtain ⟨qual,names,body,scope,cdv,n,DK,hbody,hnp,hpar,hnd⟩:=D.ex
 unfold yr6 at hp
 split at hp
 ·rename_i hal
  refine yh4 gok cok DK hpar hnd hd hu (fun c' cok' hd' hu' hcs hnm _ own=>?_) (by rw [hal,hnp]) I ra hp
  exact rows_ok (c:=c') (C:=C) (N:=N) (sound_S gok cok' (hC c' cok' hd' hu') (raise_ok gok cok' ek own) hcs.symm hnm.symm rfl rfl N n) d.code hbody
 ·exact hp.elim
end
end Mine
namespace Mine
set_option tactic.hygienic false
open PySem PySem.W PySem.Calls PyProof.Rows
noncomputable def zh0:List Nat→List Nat
 | []=>[]
 | c::r=>if c=39 then 39::39::zh0 r else c::zh0 r
theorem dbl39_eq (l:List Nat):StrLaws.dbl 39 l=zh0 l:=by
 induction l with
 | nil=>rfl
 | cons c r ih =>
  unfold zh0 StrLaws.dbl
  by_cases h:c=39 <;> simp_all [StrLaws.dbl]
theorem yq6 (l:List Nat):(zh0 l).length≤2 * l.length:=by
 induction l with
 | nil=>simp [zh0]
 | cons c r ih =>
  unfold zh0
  split <;> simp <;> (first | exact j373 ih | exact j374 ih)
theorem yr3 {l:List Nat} (h:∀ c∈l,c < 128):∀ c∈zh0 l,c < 128:=by
 induction l with
 | nil=>simp [zh0]
 | cons c r ih =>
  unfold zh0
  have:=ih fun x hx=>h x (.tail _ hx)
  haveI hc:=h c (.head _)
  split
  ·intro x hx
   rcases List.mem_cons.mp hx with rfl | hx
   ·exact j162
   ·rcases List.mem_cons.mp hx with rfl | hx
    ·exact j162
    ·exact this x hx
  ·intro x hx
   rcases List.mem_cons.mp hx with rfl | hx
   ·exact hc
   ·exact this x hx
noncomputable def wj0:EX:=fun env σ=>match env.getD 0 none with
 | some (.str s)=>if s.length≤100000 then .ok (.ret (.str (39::(zh0 s++[39]))),env,σ) else .stuck
 | _=>.stuck
section
variable {Γ:GC} {c:FC}
theorem zu9 {env:Env} {x:Str} {k:Nat} {pos:Pos} {h:Heap} {tk:Nat} {Q:Value→Shared→Prop} {A:Around} {E:Value→Shared→Prop} {prog:Program} {w:World} (hq:Q (.str x tk) (Γ.st h (tk+1))) :
  wpAny (model prog w) A (eval (.Constant (.str x) k pos) env) Q E (Γ.st h tk):=wpAny_Constant_str (s:=Γ.st h tk) hq
theorem sx_show (cok:c.Ok Γ) {k1 k2 k3 k4:Nat} {p1 p2 p3 p4 p5 p6 p7 p8 p9 p10:Pos} (hline:(p3.endLine == p6.line)=true) (hnm:c.nm[0]?=some ("signs":Str)) (hl:c.cs.names.lookup ("signs":Str)=some .local) :
  SX Γ c (execs [.Return (some (.BinOp (.BinOp (.Constant (.str "'") k1 p1) .Add (.Call (.Attribute (.Name "signs" p2) "replace" p3) [.Constant (.str "'") k2 p4,.Constant (.str "''") k3 p5] [] p6) p7) .Add (.Constant (.str "'") k4 p8) p9)) p10] c.env) wj0:=by
 intro env σ h tk news ls Q I hp
 unfold wj0 at hp
 cases he:env.getD 0 none with
 | none=>rw [he] at hp; exact hp.elim
 | some pv =>
  rw [he] at hp
  refine big fun Gz hGz=>?_
  obtain ⟨⟨m,F,hm⟩,N,S,G⟩:=id I <;> refine hGz ?_
  obtain ⟨v,hv,rv⟩:=hm 0 _ pv hnm he
  refine big fun Gz hGz=>?_
  cases rv with
  | str x t hx hc =>
   refine hGz ?_
   rename_i s
   dsimp only at hp
   split at hp
   ·rename_i hs
    have hxl:x.length=s.length:=by rw [← hx]; simp [Str.length]
    have hdl:=yq6 s
    have hrep:(Txt.replace x ("'":Str) ("''":Str)).cps.toList=zh0 s:=by
     have:=StrLaws.replace_double x 39
     rw [dbl39_eq,hx] at this
     exact this
    have hrl:(Txt.replace x ("'":Str) ("''":Str)).cps.size=(zh0 s).length:=by rw [← Array.length_toList,hrep]
    have hsz:sizeLine=16777216:=sizeLine_eq
    refine wpAny_execs_cons (wpAny_Return_some (wpAny_BinOp (wpAny_BinOp (zu9 ?_))))
    refine wpAny_Call_method_lateS (zz4 rfl) rfl hline ?_
    refine ldx (s:=Γ.st h (tk+1)) F hv ?_ cok.kind hl (by decide +kernel)
    refine ⟨"str","str.replace",PySem.F.plainAttrs_str,PySem.F.slot_str_replace,PySem.F.type_str_replace,typeIs_str _ _ _,(fun a e=>nomatch e),?_⟩
    refine callWith_method1 ?_ rfl rfl
    refine args_cons (he:=rfl) (zu9 (args_cons (he:=rfl) (zu9 (args_nil ?_))))
    refine SC.replace (s:=Γ.st h (tk+1+1+1)) (by simp) (by simp) (by simp) (by decide +kernel) ?_ fun t' k=>?_
    ·rw [hxl]
     show s.length+(s.length+1) * 2≤_
     exact j375 hs
    refine PyProof.Rows.add_str (s:=Γ.st h k) (fun t2 k2=>?_) ?_
    ·refine zu9 ?_
     refine PyProof.Rows.add_str (s:=Γ.st h (k2+1)) (fun t3 k3=>?_) ?_
     ·refine hp _ h k3 news ls I (.ret (.str _ _ ?_ ?_)) Grow.refl
      ·rw [zn0,zn0,hrep]
       rfl
      ·intro d hd
       rcases List.mem_cons.mp hd with rfl | hd
       ·exact j162
       ·rcases List.mem_append.mp hd with hd | hd
        ·exact yr3 hc d hd
        ·rw [List.mem_singleton.mp hd]; exact j162
     ·rw [hsz]
      show (("'":Str)++Txt.replace x ("'":Str) ("''":Str)).cps.size+1≤_
      rw [← Array.length_toList,zn0,List.length_append,hrep]
      show 1+_+1≤_
      exact j376 hs hdl
    ·rw [hsz]
     show 1+(Txt.replace x ("'":Str) ("''":Str)).cps.size≤_
     rw [hrl]
     exact j377 hs hdl
   ·exact hp.elim
  | _=>refine hGz ?_; exact hp.elim
end
end Mine
namespace Mine
set_option tactic.hygienic false
open PySem PySem.W PySem.Calls PyProof.Rows PyProof.Rows.LCg
noncomputable def mapC (F:PV→za7→Out (PV × za7)):List PV→za7→Out (List PV × za7)
 | [],σ=>.ok ([],σ)
 | d::r,σ=>(F d σ).bind fun v=>(mapC F r v.2).bind fun vs=>.ok (v.1::vs.1,vs.2)
theorem mapC_c {F:PV→za7→Out (PV × za7)} {d:PV} {r:List PV} {σ:za7}:mapC F (d::r) σ=(F d σ).bind fun v=>(mapC F r v.2).bind fun vs=>.ok (v.1::vs.1,vs.2):=rfl
section
variable {Γ:GC} {c:FC}
noncomputable def EltOk (Γ:GC) (c:FC) (elt:Expr) (x:Str) (scope:Scope) (cl:List (Str × Addr)) (env:Env') (F:PV→za7→Out (PV × za7)) (cells:List (Addr × Obj)):Prop :=
 ∀ C m₂ h tk σ news ls v d w σ1 (Q:Value→Shared→Prop) (E':Value→Shared→Prop),h.Ns C m₂→m₂ x=some v→(∀ p∈cells,p∈news∧p.1 ∉ ls)→Inv Γ c h env σ news ls→RepV Γ.base Γ.ta news ls v d→F d σ=.ok (w,σ1) →
  (∀ y h' tk' news' ls',Inv Γ c h' env σ1 news' ls'→RepV Γ.base Γ.ta news' ls' y w→Grow news ls news' ls'→Apart h news h' news'→Q y (Γ.st h' tk')) →
  wpAny (model Γ.prog Γ.w) c.A (eval elt (compEnvC scope cl C c.env)) Q E' (Γ.st h tk)
theorem yq0 {elt:Expr} {x:Str} {scope:Scope} {cl:List (Str × Addr)} {env:Env'} {F:PV→za7→Out (PV × za7)} {cells:List (Addr × Obj)} {S:List (Addr × Obj)→Prop} {P:Nat→Value→Prop} {Fin:List Value→List (Addr × Obj)→Prop} {m:Str→Option Value} {s:Shared}
  (he:EltOk Γ c elt x scope cl env F cells) (hs:∃ h0 tk0,s=Γ.st h0 tk0) {n0:List (Addr × Obj)} {l0:List Addr}
  (hS:∀ news ls,Grow n0 l0 news ls→S news) (l:List PV) (hPd:∀ i v,P i v→∀ d,l[i]?=some d→∀ news ls,Grow n0 l0 news ls→RepV Γ.base Γ.ta news ls v d)
  (hcell:∀ p∈cells,p∈n0∧p.1 ∉ l0) :
  ∀ (rest:List PV) (i:Nat) (σ σ':za7) (rs:List PV) (ys:List Value) (ds:List PV) (news:List (Addr × Obj)) (ls:List Addr),rest=l.drop i →
   mapC F rest σ=.ok (rs,σ')→RepA Γ.base Γ.ta news ls ys ds→MRel Γ c m env news ls→StoreOk Γ.base Γ.ta news ls σ→Grow c.news₀ c.ls₀ news ls→Grow n0 l0 news ls →
   (∀ ys' news' ls',RepA Γ.base Γ.ta news' ls' ys' (ds++rs)→MRel Γ c m env news' ls'→StoreOk Γ.base Γ.ta news' ls' σ'→Grow c.news₀ c.ls₀ news' ls'→Grow n0 l0 news' ls'→Fin ys' news') →
   CompRest Γ.prog Γ.w c.A c.g c.L m c.env elt x scope cl s S P Fin rest.length i ys news:=by
 intro rest
 induction rest with
 | nil =>
  intro i σ σ' rs ys ds news ls hr hm ra M S0 G G0 fin
  cases hm
  exact CompRest.zero (fin ys news ls (by simpa using ra) M S0 G G0)
 | cons d rest ih =>
  intro i σ σ' rs ys ds news ls hr hm ra M S0 G G0 fin
  refine bokC (o:=F d σ) hm fun v1 hF hm=>bokC hm fun vs hm2 hm=>?_
  cases hm
  haveI hdi:l[i]?=some d:=by
   haveI:=congrArg (fun q=>q[0]?) hr
   simpa using this.symm
  haveI hrest:rest=l.drop (i+1):=by
   haveI:=congrArg List.tail hr
   simpa using this
  refine CompRest.succ fun v I oI C oC D m₂ h tk E' hPv hoC hxv Fh N off hne=>?_
  obtain ⟨h0,tk0,rfl⟩:=hs
  haveI offm:=off.mem
  haveI NI:=N (I,oI) (.head _)
  have NC:=N (C,oC) (.tail _ (.head _))
  have ND:=N (D,lst ys) (.tail _ (.tail _ (.head _)))
  have N':News c.g c.L h news:=fun p hp=>N p (.tail _ (.tail _ (.tail _ hp)))
  haveI I0:Inv Γ c h env σ news ls:=⟨⟨m,Fh,M⟩,N',S0,G⟩
  haveI rv:=hPd i v hPv d hdi news ls G0
  have hout:∀ a,(a=I∨a=C∨a=D)→a ∉ news.map (·.1):=by
   intro a ha hq
   obtain ⟨p,hp,rfl⟩:=List.mem_map.mp hq
   haveI:=offm p hp
   rcases ha with h | h | h <;> simp_all
  refine he C m₂ h tk σ news ls v d v1.1 v1.2 _ E' (hoC.ns NC.1) hxv (fun p hp=>G0.keep p (hcell p hp).1 (hcell p hp).2) I0 rv hF fun y h' tk' news' ls' I' ry g' ap=>?_
  obtain ⟨⟨m',F',M'⟩,N2,S2,G2⟩:=id I'
  haveI kI:=ap.keep _ _ NI.1 (hout I (.inl rfl))
  haveI kC:=ap.keep _ _ NC.1 (hout C (.inr (.inl rfl)))
  haveI kD:=ap.keep _ _ ND.1 (hout D (.inr (.inr rfl)))
  have Fm:Fr c.g c.L h' m:=by
   obtain ⟨oL,es,ep,hL,r⟩:=Fh.ns
   refine ⟨⟨oL,es,ep,ap.keep _ _ hL fun q=>?_,r⟩,F'.keep,Fh.above⟩
   obtain ⟨p,hp,hpe⟩:=List.mem_map.mp q
   exact (N' p hp).2.1 hpe
  haveI M2:MRel Γ c m env news' ls':=fun k z pv hz hq=>by
   obtain ⟨w,hw,rw'⟩:=M k z pv hz hq
   exact ⟨w,hw,rw'.mono g'⟩
  refine CompEnd.intro (s₁:=Γ.st h tk) Fm (all:=(I,oI)::(C,oC)::(D,lst ys)::news') (fun p hp=>?_) news' (fun p hp=>hp) (Off3.of fun p hp=>?_) (hS news' ls' (G0.trans g')) ?_
  ·rcases List.mem_cons.mp hp with rfl | hp
   ·exact ⟨kI,NI.2⟩
   ·rcases List.mem_cons.mp hp with rfl | hp
    ·exact ⟨kC,NC.2⟩
    ·rcases List.mem_cons.mp hp with rfl | hp
     ·exact ⟨kD,ND.2⟩
     ·exact N2 p hp
  ·haveI hnot:∀ a o,(a=I∨a=C∨a=D)→h.get? a=some o→p.1≠a:=by
    intro a o ha hq e
    subst e
    rcases ap.new p hp with q | q
    ·exact hout _ ha q
    ·rw [q] at hq; cases hq
   exact ⟨hnot I _ (.inl rfl) NI.1,hnot C _ (.inr (.inl rfl)) NC.1,hnot D _ (.inr (.inr rfl)) ND.1⟩
  ·refine ih (i+1) v1.2 vs.2 vs.1 (ys++[y]) (ds++[v1.1]) news' ls' hrest hm2 ((RepA.mono g' ra).append (.cons ry .nil)) M2 S2 G2 (G0.trans g') fun ys' n2 l2 ra2=>?_
   refine fin ys' n2 l2 ?_
   simpa using ra2
noncomputable def yh9:List PV→Option (List (List Nat))
 | []=>some []
 | .str s::r=>(yh9 r).map (s::·)
 | _::_=>none
noncomputable def ym4:List (List Nat)→List Nat
 | []=>[]
 | [x]=>x
 | x::r=>x++44::ym4 r
noncomputable def joinP (l:List PV):Option (List Nat):=(yh9 l).bind fun ts=>if (ts.map List.length).sum+ts.length≤1000000 then some (ym4 ts) else none
theorem textsC {d:PV} {ds:List PV} {ts:List (List Nat)} {G:PV→List (List Nat)→Prop} (h:yh9 (d::ds)=some ts) (k:∀ s ts',yh9 ds=some ts'→G (.str s) (s::ts')):G d ts:=by
 cases d with
 | str s=>exact omE (o:=yh9 ds) (f:=(s::·)) h fun ts' h' e=>e ▸ k s ts' h'
 | _=>exact nn h
inductive TextsAre (vs:List Value) (ts:List (List Nat)):Prop
 | mk (ys:List Str) (h:StrsAre vs ys) (e:ys.map (fun y=>y.cps.toList)=ts) (a:∀ t∈ts,∀ c∈t,c < 128):TextsAre vs ts
theorem wh9 {base:Heap} {ta:Nat→Option Addr} {news:List (Addr × Obj)} {ls:List Addr} {vs:List Value}:∀ {ds:List PV} {ts:List (List Nat)},RepA base ta news ls vs ds→yh9 ds=some ts→TextsAre vs ts:=by
 induction vs with
 | nil =>
  intro ds ts r h
  cases r
  cases h
  exact ⟨[],.nil,rfl,fun _ h=>nomatch h⟩
 | cons v vs ih =>
  intro ds ts r h
  cases r with
  | cons rv ra =>
   revert rv
   refine textsC (G:=fun d ts=>RepV base ta news ls v d→TextsAre (v::vs) ts) h fun s ts' h' rv=>?_
   obtain ⟨ys,h1,h2,h3⟩:=ih ra h'
   cases rv with
   | str x t hx hc =>
    refine ⟨x::ys,.cons x t h1,by rw [List.map_cons,h2,hx],fun q hq=>?_⟩
    rcases List.mem_cons.mp hq with rfl | hq
    ·exact hc
    ·exact h3 q hq
theorem wb2:∀ (ys:List Str),(Str.join (",":Str) ys).cps.toList=ym4 (ys.map fun y=>y.cps.toList)
 | []=>rfl
 | [x]=>rfl
 | x::y::r=>by
  show (x++(",":Str)++Str.join (",":Str) (y::r)).cps.toList=_
  rw [zn0,zn0,wb2 (y::r)]
  show x.cps.toList++[44]++_=x.cps.toList++44::_
  simp
theorem yq3:∀ {ts:List (List Nat)},(∀ t∈ts,∀ c∈t,c < 128)→∀ c∈ym4 ts,c < 128
 | [],_,_,h=>nomatch h
 | [x],h,c,hc=>h x (.head _) c hc
 | x::y::r,h,c,hc=>by
  rcases List.mem_append.mp (show c∈x++44::ym4 (y::r) from hc) with q | q
  ·exact h x (.head _) c q
  ·rcases List.mem_cons.mp q with rfl | q
   ·exact j349
   ·exact yq3 (fun t ht=>h t (.tail _ ht)) c q
theorem mapC_len {F:PV→za7→Out (PV × za7)} {l:List PV}:∀ {σ:za7} {r:List PV × za7},mapC F l σ=.ok r→r.1.length=l.length:=by
 induction l with
 | nil=>intro σ r h; cases h; rfl
 | cons d l ih=>intro σ r h; exact bokC (o:=F d σ) h fun v h1 h=>bokC h fun vs h2 h=>by cases h; exact congrArg (·+1) (ih h2)
theorem texts_len {l:List PV}:∀ {ts:List (List Nat)},yh9 l=some ts→ts.length=l.length:=by
 induction l with
 | nil=>intro ts h; cases h; rfl
 | cons d l ih=>intro ts h; exact textsC (G:=fun d ts=>ts.length=(d::l).length) h fun s ts' h'=>congrArg (·+1) (ih h')
noncomputable def rowX (C:Nat→List PV→za7→Out (PV × za7)) (k:Nat):EX:=fun env σ=>match env.getD 0 none with
 | some (.list l)=>(match mapC (fun d σ=>C k [d] σ) l σ with
  | .ok r=>(match joinP r.1 with
   | some s=>.ok (.ret (.str s),env,r.2)
   | none=>.stuck)
  | _=>.stuck)
 | _=>.stuck
noncomputable def FC.still (c:FC):FC:={ c with E:=fun _ _=>False,may:=False }
theorem FC.still_ok (cok:c.Ok Γ):c.still.Ok Γ:={ B:=cok.B,kind:=cok.kind,nmnd:=cok.nmnd,hE:=PassesOwn.never,hX:=fun h=>h.elim,room:=cok.room,roomD:=cok.roomD }
theorem Inv.still {h:Heap} {env:Env'} {σ:za7} {news:List (Addr × Obj)} {ls:List Addr} (I:Inv Γ c h env σ news ls):Inv Γ c.still h env σ news ls:=⟨I.fr.casesOn fun m F h=>⟨m,F,h⟩,I.N,I.S,I.G⟩
theorem Inv.unstill {h:Heap} {env:Env'} {σ:za7} {news:List (Addr × Obj)} {ls:List Addr} (I:Inv Γ c.still h env σ news ls):Inv Γ c h env σ news ls:=⟨I.fr.casesOn fun m F h=>⟨m,F,h⟩,I.N,I.S,I.G⟩
theorem sx_row (gok:Γ.Ok) (cok:c.Ok Γ) {C:Nat→List PV→za7→Out (PV × za7)} (hC:zn3 Γ c.still C) {kL:Nat} (hkL:dnames.findIdx? (· == ("list_expr":Str))=some kL) {k1:Nat} {p1 p2 p3 p4 q1 q2 q3 q4 q5 q6:Pos} {cscope:Scope} (hline:(p2.endLine == p3.line)=true) (hnm:c.nm[0]?=some ("trees":Str)) (hl:c.cs.names.lookup ("trees":Str)=some .local)
  (hcn:cscope.names=[((".0":Str),.local),("tree",.local),("list_expr",.globalImplicit)]) (hck:cscope.kind=.function) :
  SX Γ c (execs [.Return (some (.Call (.Attribute (.Constant (.str ",") k1 p1) "join" p2) [.ListComp (.Call (.Name "list_expr" q1) [.Name "tree" q2] [] q3) [⟨.Name "tree" q4,.Name "trees" q5,[],0⟩] cscope q6] [] p3)) p4] c.env) (rowX C kL):=by
 intro env σ h tk news ls Q I hp
 unfold rowX at hp
 cases he:env.getD 0 none with
 | none=>rw [he] at hp; exact hp.elim
 | some pv =>
  rw [he] at hp
  refine big fun Gz hGz=>?_
  obtain ⟨⟨m,Fm,hm⟩,N,S,G⟩:=id I <;> refine hGz ?_
  refine big fun Gz hGz=>?_
  obtain ⟨v,hv,rv⟩:=hm 0 _ pv hnm he <;> refine hGz ?_
  cases rv with
  | @list a vs n l hat ra =>
   dsimp only at hp
   refine big fun Gz hGz=>?_
   cases hmc:mapC (fun d σ=>C kL [d] σ) l σ with
   | exc=>refine hGz ?_; rw [hmc] at hp; exact hp.elim
   | stuck=>refine hGz ?_; rw [hmc] at hp; exact hp.elim
   | ok r =>
    refine hGz ?_
    rw [hmc] at hp
    dsimp only at hp
    cases hj:joinP r.1 with
    | none=>rw [hj] at hp; exact hp.elim
    | some s =>
     rw [hj] at hp
     dsimp only at hp
     have hsz:sizeLine=16777216:=sizeLine_eq
     refine wpAny_execs_cons (wpAny_Return_some ?_)
     refine wpAny_Call_method_lateS (zz4 rfl) rfl hline ?_
     refine zu9 ?_
     refine ⟨"str","str.join",PySem.F.plainAttrs_str,PySem.F.slot_str_join,PySem.F.type_str_join,typeIs_str _ _ _,(fun a e=>nomatch e),?_⟩
     refine callWith_method1 ?_ rfl rfl
     refine args_cons (he:=rfl) ?_
     refine obC hj fun ts hts hj2=>?_
     have hbound:(ts.map List.length).sum+ts.length≤1000000:=by
      by_cases hb:(ts.map List.length).sum+ts.length≤1000000
      ·exact hb
      ·rw [if_neg hb] at hj2; cases hj2
     rw [if_pos hbound] at hj2
     cases hj2
     have hll:l.length≤1000000:=by
      have:=mapC_len hmc
      have:=texts_len hts
      exact j484 hbound this ‹_›
     have hln:=ra.length
     have hclos:closureFor cscope c.env=pure []:=by
      unfold closureFor
      rw [hcn]
      rfl
     refine ListComp_U (s:=Γ.st h (tk+1)) (cl:=[]) Fm hclos (by rw [hcn]; decide) hck (by rw [hcn]; decide +kernel) (by rw [hcn]; decide +kernel) ?_ (fun _=>rfl)
     refine ldx (s:=Γ.st h (tk+1)) Fm hv ?_ cok.kind hl (by decide +kernel)
     have hX:=gok.X.keeps cok.B.stays
     have hT:=gok.T.keeps cok.B.stays
     have elt:EltOk Γ c (.Call (.Name "list_expr" q1) [.Name "tree" q2] [] q3) "tree" cscope [] env (fun d σ=>C kL [d] σ) []:=by
      intro D m₂ h tk σ news ls v d w σ1 Q' E' hns hmv _ I rv hF hq
      change C kL [d] σ=_ at hF
      obtain ⟨⟨m1,F1,_⟩,N1,_,_⟩:=id I
      refine Call_ (nameG_K (s:=Γ.st h tk) F1 hX (topRead_of hT) (gok.defs _ kL hkL) ?_ rfl hck (by show List.lookup _ (List.map _ cscope.names)=_; rw [hcn]; rfl) (by decide +kernel))
      refine callWith_K hX (gok.defk _ kL hkL) (args_cons (he:=rfl) ?_) rfl rfl
      refine ldVarK (s:=Γ.st h tk) (m:=m₂) hns hmv ?_ ?_ ?_ ?_
      ·refine args_nil ⟨hX.keeps F1.keep,?_⟩
       refine wpAny_mono (hC kL [d] env σ h tk news ls [v] Q' I.still (.cons rv .nil) ?_) (fun _ _ x=>x) fun _ _ x=>x.elim
       rw [hF]
       exact fun v' h' tk' n' l' I' r' g' a'=>hq v' h' tk' n' l' I'.unstill r' g' a'
      ·exact hck
      ·show List.lookup _ (List.map _ cscope.names)=_
       rw [hcn]; rfl
      ·decide +kernel
     have src:∀ news' ls',Grow news ls news' ls'→SrcAt c.g a vs.toArray news':=fun news' ls' g=>by
      rcases hat with ⟨h1,h2⟩ | h1
      ·exact .inr ⟨_,(g.keep _ h1 h2).1,rfl,n,rfl⟩
      ·exact .inl ⟨_,cok.B.stays _ _ h1,rfl,n,rfl⟩
     refine .inl ⟨a,vs.toArray,news,rfl,rfl,Fm,N,src news ls Grow.refl,by rw [hsz,List.size_toArray]; exact j350 hln hll,?_⟩
     rintro s2 ⟨h2,rfl⟩
     have hcr:=yq0 (n0:=news) (l0:=ls) (S:=SrcAt c.g a vs.toArray) (P:=fun i v=>vs.toArray[i]?=some v) (m:=m) (s:={ Γ.st h (tk+1) with heap:=h2 })
      (Fin:=FinE c.g c.L m { Γ.st h (tk+1) with heap:=h2 } (fun v s₁=>wpAny (model Γ.prog Γ.w) c.A (spliced (backTo p3 (starEach [] c.env))) (fun vs s₁=>wpAny (model Γ.prog Γ.w) c.A (call (.builtin "str.join") ([.str (",":Str) tk]++(v::vs))) (fun v s=>match Flow.ret v with | .next=>wpAny (model Γ.prog Γ.w) c.A (execs [] c.env) Q c.E s | f=>Q f s) c.E s₁) c.E s₁))
      elt ⟨h2,tk+1,rfl⟩ src l (fun i v hv d hd news' ls' g=>by
       obtain ⟨v',hv',rv⟩:=ra.get hd
       have:v'=v:=by
        have hv2:vs[i]?=some v:=by simpa using hv
        rw [hv'] at hv2
        exact Option.some.inj hv2
       subst this
       exact rv.mono g) (fun p hp=>nomatch hp) l 0 σ r.2 r.1 [] [] news ls rfl hmc .nil hm S G Grow.refl (fun ys' news' ls' ra' M' S' G' g'=>by
        intro D h' tk' F' N' off
        refine args_nil ?_
        obtain ⟨ys,h1,h2',h3⟩:=wh9 (by simpa using ra') hts
        have ND:=N' _ (.head _)
        have hsum:(ys.map (·.length)).sum+ys.length * (",":Str).length≤16777216:=by
         have e1:(ys.map (·.length))=ts.map List.length:=by
          rw [← h2',List.map_map]
          apply List.map_congr_left
          intro y _
          show y.cps.size=y.cps.toList.length
          simp
         have e2:ys.length=ts.length:=by rw [← h2',List.length_map]
         have e3:(",":Str).length=1:=rfl
         rw [e1,e2,e3]
         exact j351 hbound
        refine PyProof.Rows.join_list (s:=Γ.st h' tk') (items:=ys'.toArray) ⟨_,ND.1,rfl,_,rfl⟩ (by simpa using h1) hsum fun t' k=>?_
        refine hp _ h' k news' ls' ⟨⟨m,F',M'⟩,fun p hp=>N' p (.tail _ hp),S',G'⟩ (.ret (.str _ _ ?_ (yq3 h3))) g'
        have:=wb2 ys
        rw [h2',← StrLaws.glued_eq_join] at this
        exact this)
     rw [← hln] at hcr
     simpa using hcr
  | _=>exact hp.elim
end
end Mine
namespace Mine
set_option tactic.hygienic false
open PySem PySem.W PySem.Calls PyProof.Rows PyProof.Rows.LCg
section
variable {Γ:GC} {c:FC}
theorem wb5 {D:Addr}:∀ {l:List (Addr × Obj)},Off1 D l→∀ p∈l,p.1≠D
 | [],_,_,h=>nomatch h
 | _::_,x,p,h=>by
  rcases List.mem_cons.mp h with rfl | h
  ·exact x.1
  ·exact wb5 x.2 p h
structure CellV (Γ:GC) (c:FC) (x:Str) (a:Addr) (v:Value) (d:PV):Prop where
 mem:∃ o,(a,o)∈c.news₀∧o.data=.cell (some v)
 off:a ∉ c.ls₀
 look:c.cells.lookup x=some a
 kind:c.cs.names.lookup x=some .cell
 rep:RepV Γ.base Γ.ta c.news₀ c.ls₀ v d
theorem CellV.at {x:Str} {a:Addr} {v:Value} {d:PV} (V:CellV Γ c x a v d) {h:Heap} {env:Env'} {σ:za7} {news:List (Addr × Obj)} {ls:List Addr} (I:Inv Γ c h env σ news ls):h.IsCell a (some v)∧RepV Γ.base Γ.ta news ls v d:=by
 obtain ⟨o,hm,hd⟩:=V.mem
 exact ⟨⟨o,(I.N _ (I.G.keep _ hm V.off).1).1,hd⟩,V.rep.mono I.G⟩
theorem se_cell (cok:c.Ok Γ) {x:Str} {a:Addr} {v:Value} {d:PV} {pos:Pos} (V:CellV Γ c x a v d) (hd:(x == ("__debug__":Str))=false):SE Γ c (eval (.Name x pos) c.env) (fun _ σ=>.ok (d,σ)):=by
 intro env σ h tk news ls Q I hp
 obtain ⟨hc,hr⟩:=V.at I
 exact wpAny_Name (wpAny_loadName_cell (env:=c.env) (s:=Γ.st h tk) cok.kind V.kind V.look hc (hp _ h tk news ls I hr Grow.refl)) hd
theorem ye3 {pos:Pos}:SL Γ c (spliced (backTo pos (starEach [] c.env))) (fun _ σ=>.ok ([],σ)):=by
 intro env σ h tk news ls Q I hp
 exact args_nil (hp [] h tk news ls I .nil Grow.refl)
theorem zs4 {e:Expr} {rest:List Expr} {pos:Pos} {f:EV} {g:Env'→za7→Out (List PV × za7)} (hs:zm0 e=false) (he:SE Γ c (eval e c.env) f) (hr:SL Γ c (spliced (backTo pos (starEach rest c.env))) g) :
  SL Γ c (spliced (backTo pos (starEach (e::rest) c.env))) (fun env σ=>(f env σ).bind fun v=>(g env v.2).bind fun vs=>.ok (v.1::vs.1,vs.2)):=by
 intro env σ h tk news ls Q I hp
 refine args_cons (he:=zg2 hs) (he env σ h tk news ls _ I (Post.bind hp fun r v h1 tk1 n1 l1 I1 R1 g1 hp1=>?_))
 refine hr env r.2 h1 tk1 n1 l1 _ I1 (Post.bind hp1 fun q vs h2 tk2 n2 l2 I2 R2 g2 hp2=>?_)
 exact hp2 _ h2 tk2 n2 l2 I2 (.cons (R1.mono g2) R2) Grow.refl
theorem Apart.fr {h h':Heap} {news news':List (Addr × Obj)} {m m':Str→Option Value} {g:Heap} {L:Addr} (ap:Apart h news h' news') (F:Fr g L h m) (N:News g L h news) (F':Fr g L h' m'):Fr g L h' m:=by
 obtain ⟨oL,es,ep,hL,r⟩:=F.ns
 refine ⟨⟨oL,es,ep,ap.keep _ _ hL fun q=>?_,r⟩,F'.keep,F.above⟩
 obtain ⟨p,hp,hpe⟩:=List.mem_map.mp q
 exact (N p hp).2.1 hpe
noncomputable def yi2 (n:Nat):List PV:=(List.range n).map fun (i:Nat)=>PV.int i
noncomputable def compF (C:Nat→List PV→za7→Out (PV × za7)) (kK kT:Nat) (tp dp:PV):EV:=fun _ σ=>match C kK [tp,.int 3] σ with
 | .ok r=>(match r.1 with
  | .int n=>if 0≤n∧n≤1000 then (match mapC (fun _ σ=>C kT [tp,dp] σ) (yi2 n.toNat) r.2 with
   | .ok rs=>.ok (.list rs.1,rs.2)
   | _=>.stuck) else .stuck
  | _=>.stuck)
 | _=>.stuck
theorem se_comp (gok:Γ.Ok) (cok:c.Ok Γ) {C:Nat→List PV→za7→Out (PV × za7)} (hC:zn3 Γ c.still C) {kK kT:Nat} (hkK:dnames.findIdx? (· == ("_law_take":Str))=some kK) (hkT:dnames.findIdx? (· == ("_law_tree":Str))=some kT)
  {a1 a2:Addr} {v1 v2:Value} {tp dp:PV} (V1:CellV Γ c "tape" a1 v1 tp) (V2:CellV Γ c "deep" a2 v2 dp) (hcc:c.cells=[(("deep":Str),a2),("tape",a1)])
  {k1:Nat} {q1 q2 q3 q4 q5 q6 q7 q8 q9 q10 q11 q12:Pos} {cscope:Scope} (hl:c.cs.names.lookup ("range":Str)=some .globalImplicit) (hl2:c.cs.names.lookup ("_law_take":Str)=some .globalImplicit)
  (hcn:cscope.names=[((".0":Str),.local),("turn",.local),("_law_tree",.globalImplicit),("deep",.free),("tape",.free)]) (hck:cscope.kind=.function) :
  SE Γ c (eval (.ListComp (.Call (.Name "_law_tree" q1) [.Name "tape" q2,.Name "deep" q3] [] q4) [⟨.Name "turn" q5,.Call (.Name "range" q6) [.Call (.Name "_law_take" q7) [.Name "tape" q8,.Constant (.int 3) k1 q9] [] q10] [] q11,[],0⟩] cscope q12) c.env) (compF C kK kT tp dp):=by
 intro env σ h tk news ls Q I hp
 unfold compF at hp
 cases hK:C kK [tp,.int 3] σ with
 | exc=>rw [hK] at hp; exact hp.elim
 | stuck=>rw [hK] at hp; exact hp.elim
 | ok r =>
  rw [hK] at hp
  dsimp only at hp
  refine big fun Gz hGz=>?_
  obtain ⟨p1,σ1⟩:=r <;> refine hGz ?_
  cases p1 with
  | int n =>
   dsimp only at hp
   split at hp
   ·rename_i hn
    cases hmc:mapC (fun _ σ=>C kT [tp,dp] σ) (yi2 n.toNat) σ1 with
    | exc=>rw [hmc] at hp; exact hp.elim
    | stuck=>rw [hmc] at hp; exact hp.elim
    | ok rs =>
     rw [hmc] at hp
     dsimp only at hp
     haveI hsz:sizeLine=16777216:=sizeLine_eq
     haveI hX:=gok.X.keeps cok.B.stays
     haveI hT:=gok.T.keeps cok.B.stays
     haveI hclos:closureFor cscope c.env=pure [(("tape":Str),a1),("deep",a2)]:=by
      unfold closureFor cellOf
      rw [hcn,show c.env.cells=_ from hcc]
      rfl
     haveI hrl:∀ x,cscope.names.lookup x=some .free→c.cs.names.lookup x=some .cell→(compEnvC cscope [(("tape":Str),a1),("deep",a2)] 0 c.env).scope.names.lookup x=(relabel cscope c.env).names.lookup x:=fun _ _ _=>rfl
     obtain ⟨⟨m,Fm,hm⟩,N,S,G⟩:=id I
     haveI kt:(relabel cscope c.env).names=[((".0":Str),.local),("turn",.local),("_law_tree",.globalImplicit),("deep",.cell),("tape",.cell)]:=by
      haveI e1:(c.env.kindOf ("deep":Str) == some NameKind.cell)=true:=by rw [show c.env.kindOf ("deep":Str)=some .cell from V2.kind]; rfl
      haveI e2:(c.env.kindOf ("tape":Str) == some NameKind.cell)=true:=by rw [show c.env.kindOf ("tape":Str)=some .cell from V1.kind]; rfl
      haveI e3:(c.env.scope.kind == ScopeKind.function)=true:=by rw [show c.env.scope.kind=.function from cok.kind]; rfl
      show List.map _ cscope.names=_
      rw [hcn]
      simp only [List.map_cons,List.map_nil,e1,e2,e3]
      rfl
     have elt:EltOk Γ c (.Call (.Name "_law_tree" q1) [.Name "tape" q2,.Name "deep" q3] [] q4) "turn" cscope [(("tape":Str),a1),("deep",a2)] env (fun _ σ=>C kT [tp,dp] σ) []:=by
      intro D m₂ h tk σ news ls v d w σ1 Q' E' hns hmv _ I rv hF hq
      change C kT [tp,dp] σ=_ at hF
      obtain ⟨⟨m1,F1,_⟩,N1,_,_⟩:=id I
      obtain ⟨c1,r1⟩:=V1.at I
      obtain ⟨c2,r2⟩:=V2.at I
      refine Call_ (nameG_K (s:=Γ.st h tk) F1 hX (topRead_of hT) (gok.defs _ kT hkT) ?_ rfl hck (by show List.lookup _ (relabel cscope c.env).names=_; rw [kt]; rfl) (by decide +kernel))
      refine callWith_K hX (gok.defk _ kT hkT) (args_cons (he:=rfl) ?_) rfl rfl
      refine ldCellK (s:=Γ.st h tk) rfl c1 ?_ hck (by show List.lookup _ (relabel cscope c.env).names=_; rw [kt]; rfl) (by decide +kernel)
      refine args_cons (he:=rfl) ?_
      refine ldCellK (s:=Γ.st h tk) rfl c2 ?_ hck (by show List.lookup _ (relabel cscope c.env).names=_; rw [kt]; rfl) (by decide +kernel)
      refine args_nil ⟨hX.keeps F1.keep,?_⟩
      refine wpAny_mono (hC kT [tp,dp] env σ h tk news ls [v1,v2] Q' I.still (.cons r1 (.cons r2 .nil)) ?_) (fun _ _ x=>x) fun _ _ x=>x.elim
      rw [hF]
      exact fun v' h' tk' n' l' I' r' g' a'=>hq v' h' tk' n' l' I'.unstill r' g' a'
     refine ListComp_U (s:=Γ.st h tk) (cl:=[(("tape":Str),a1),("deep",a2)]) Fm hclos (by rw [hcn]; decide) hck (by rw [hcn]; decide +kernel) (by rw [hcn]; decide +kernel) ?_ (fun _=>rfl)
     refine Call_ (ya6 gok cok I hl ?_)
     refine PyProof.Rows.callWith_type1 ?_ rfl rfl
     refine args_cons (he:=rfl) ?_
     obtain ⟨c1,r1⟩:=V1.at I
     refine Call_ (zz6 (s:=Γ.st h tk) Fm hX (topRead_of hT) (gok.defs _ kK hkK) ?_ cok.kind hl2 (by decide +kernel))
     refine callWith_K hX (gok.defk _ kK hkK) (args_cons (he:=rfl) ?_) rfl rfl
     refine wpAny_Name (wpAny_loadName_cell (env:=c.env) (s:=Γ.st h tk) cok.kind V1.kind V1.look c1 ?_) (by decide +kernel)
     refine args_cons (he:=rfl) (wpAny_Constant_int (args_nil ⟨hX.keeps Fm.keep,?_⟩))
     refine wpAny_mono (hC kK [tp,.int 3] env σ h (tk+1) news ls [v1,.int 3 tk] _ I.still (.cons r1 (.cons (.int _ _) .nil)) ?_) (fun _ _ x=>x) fun _ _ x=>x.elim
     rw [hK]
     intro y h1 tk1 n1 l1 I1 ry g1 ap1
     haveI I1':=I1.unstill
     obtain ⟨⟨m',F1,M1⟩,N1,S1,G1⟩:=id I1'
     have F1':=ap1.fr Fm N F1
     cases ry with
     | int _ t =>
      refine args_nil ?_
      refine call_range_1 (s:=Γ.st h1 tk1) ?_
      obtain ⟨I2,g2,_⟩:=I1'.push { cls:=.type "range",data:=.fields #[.int 0 (Γ.st h1 tk1).toks,.int n t,.int 1 ((Γ.st h1 tk1).toks+1)] }
      obtain ⟨⟨m2,F2,_⟩,N2,S2,G2⟩:=id I2
      have hM2:MRel Γ c m env _ l1:=fun k z pv hz hq=>by
       obtain ⟨w,hw,rw'⟩:=hm k z pv hz hq
       exact ⟨w,hw,(rw'.mono g1).mono g2⟩
      refine .inr ⟨h1.objs.size,0,n,_,t,_,n.toNat,_,rfl,rfl,F1'.push _,N2,IsRange.new h1 0 n 1 _ t _,small_one (by lia) (by lia) (by lia) (by lia),?_,by rw [hsz]; exact j485 hn,?_⟩
      ·rw [rangeSize_one]
       split <;> lia
      ·rintro s2 ⟨h2,rfl⟩
       haveI hcr:=yq0 (n0:=(h1.objs.size,{ cls:=.type "range",data:=.fields #[.int 0 (Γ.st h1 tk1).toks,.int n t,.int 1 ((Γ.st h1 tk1).toks+1)] })::n1) (l0:=l1) (S:=fun _=>True) (P:=fun i v=>∃ t,v=.int (0+(i:Int)) t) (m:=m) (s:={ Γ.st h1 (tk1+1+1) with heap:=h2 })
        (Fin:=FinE c.g c.L m { Γ.st h1 (tk1+1+1) with heap:=h2 } Q)
        elt ⟨h2,_,rfl⟩ (fun _ _ _=>trivial) (yi2 n.toNat) (fun i v hv d hd news' ls' g=>by
         obtain ⟨t,rfl⟩:=hv
         haveI hd':d=.int (0+(i:Int)):=by
          unfold yi2 at hd
          rw [List.getElem?_map] at hd
          obtain ⟨j,hj,rfl⟩:=Option.map_eq_some_iff.mp hd
          haveI:=(List.getElem?_eq_some_iff.mp hj).2
          simp at this
          rw [this]; simp
         rw [hd']; exact .int _ _) (fun p hp=>nomatch hp) (yi2 n.toNat) 0 σ1 rs.2 rs.1 [] [] _ l1 rfl hmc .nil hM2 S2 G2 Grow.refl (fun ys' news' ls' ra' M' S' G' g'=>by
         intro D h' tk' F' N' off
         haveI ND:=N' _ (.head _)
         haveI off':=wb5 off
         have gD:Grow news' ls' ((D,lst ys')::news') ls':=⟨fun p hp hn=>⟨.tail _ hp,hn⟩,[],(List.append_nil _).symm⟩
         haveI hDl:D ∉ ls':=fun hq=>by
          obtain ⟨k,hk⟩:=List.getElem?_of_mem hq
          have hlt:k < rs.2.length:=by rw [← S'.len]; exact (List.getElem?_eq_some_iff.mp hk).1
          obtain ⟨vs,nn,h3,_⟩:=S'.at' k D (rs.2[k]) hk (List.getElem?_eq_getElem hlt)
          exact off' _ h3 rfl
         refine hp _ h' tk' _ ls' ⟨⟨m,F',fun k z pv hz hq=>?_⟩,N',?_,G'.trans gD⟩ (.list (vs:=ys') (n:=ys'.length) (.inl ⟨.head _,hDl⟩) (RepA.mono gD (by simpa using ra'))) (((g1.trans g2).trans g').trans gD)
         ·obtain ⟨w,hw,rw'⟩:=M' k z pv hz hq
          exact ⟨w,hw,rw'.mono gD⟩
         ·exact S'.sub fun a o _ hm'=>.tail _ hm')
       haveI el:(yi2 n.toNat).length=n.toNat:=by simp [yi2]
       rw [el] at hcr
       exact hcr
   ·exact hp.elim
  | _=>exact hp.elim
noncomputable def wm0 (C:Nat→List PV→za7→Out (PV × za7)) (kN kK:Nat) (tp:PV):EV:=fun env σ=>(((fun _ σ=>.ok ([],σ):Env'→za7→Out (List PV × za7)) env σ).bind fun r=>C kN r.1 r.2).bind fun r =>
 ((((.ok (tp,r.2):Out (PV × za7)).bind fun v=>((.ok (.int 6,v.2):Out (PV × za7)).bind fun v2=>(.ok ([],v2.2):Out (List PV × za7)).bind fun vs=>.ok (v2.1::vs.1,vs.2)).bind fun vs=>.ok (v.1::vs.1,vs.2)).bind fun r=>C kK r.1 r.2).bind fun q=>zi0 q.2 (idxP q.2 r.1 q.1))
theorem sx_nil:SX Γ c (execs [] c.env) (fun env σ=>.ok (.next,env,σ)):=fun env σ h tk news ls Q I hp=>wpAny_execs_nil (hp _ h tk news ls I .next Grow.refl)
theorem wi8 {s:Stmt} {rest:List Stmt} {f g:EX} (hf:SX Γ c (exec s c.env) f) (hg:SX Γ c (execs rest c.env) g) :
  SX Γ c (execs (s::rest) c.env) (fun env σ=>(f env σ).bind fun q=>match q.1 with | .next=>g q.2.1 q.2.2 | fl=>.ok (fl,q.2.1,q.2.2)):=by
 intro env σ h tk news ls Q I hp
 refine wpAny_execs_cons (hf env σ h tk news ls _ I (PostF.bind hp fun q f h1 tk1 n1 l1 I1 R1 g1 hp1=>?_))
 obtain ⟨fl,env1,σ1⟩:=q
 dsimp only at *
 cases R1 with
 | next=>exact hg env1 σ1 h1 tk1 n1 l1 Q I1 hp1
 | cont=>exact hp1 _ h1 tk1 n1 l1 I1 .cont Grow.refl
 | ret r=>exact hp1 _ h1 tk1 n1 l1 I1 (.ret r) Grow.refl
noncomputable def tupF (C:Nat→List PV→za7→Out (PV × za7)) (kK kT:Nat) (tp dp:PV):Env'→za7→Out (List PV × za7):=fun env σ =>
 ((ev C (.cst (.str [114,101,102]))).1 env σ).bind fun v=>(((ev C (.var 0)).1 env v.2).bind fun v=>((compF C kK kT tp dp env v.2).bind fun v=>(.ok ([],v.2):Out (List PV × za7)).bind fun vs=>.ok (v.1::vs.1,vs.2)).bind fun vs=>.ok (v.1::vs.1,vs.2)).bind fun vs=>.ok (v.1::vs.1,vs.2)
noncomputable def refX (C:Nat→List PV→za7→Out (PV × za7)) (kN kK kT:Nat) (tp dp:PV):EX:=fun env σ =>
 ((wm0 C kN kK tp env σ).bind fun r=>(.ok (Fl.next,env.set 0 (some r.1),r.2):Out (Fl × Env' × za7))).bind fun q=>match q.1 with
  | .next=>(((tupF C kK kT tp dp q.2.1 q.2.2).bind fun r=>(.ok (.tup r.1,r.2):Out (PV × za7))).bind fun r=>(.ok (Fl.ret r.1,q.2.1,r.2):Out (Fl × Env' × za7))).bind fun q=>match q.1 with | .next=>.ok (.next,q.2.1,q.2.2) | fl=>.ok (fl,q.2.1,q.2.2)
  | fl=>.ok (fl,q.2.1,q.2.2)
theorem sx_ref (gok:Γ.Ok) (cok:c.Ok Γ) {C:Nat→List PV→za7→Out (PV × za7)} (hC0:zn3 Γ c C) (hC:zn3 Γ c.still C) {kN kK kT:Nat} (hkN:dnames.findIdx? (· == ("_law_names":Str))=some kN) (hkK:dnames.findIdx? (· == ("_law_take":Str))=some kK) (hkT:dnames.findIdx? (· == ("_law_tree":Str))=some kT)
  {a1 a2:Addr} {v1 v2:Value} {tp dp:PV} (V1:CellV Γ c "tape" a1 v1 tp) (V2:CellV Γ c "deep" a2 v2 dp) (hcc:c.cells=[(("deep":Str),a2),("tape",a1)]) (hnm:c.nm=[("name":Str)]) (hln:c.cs.names.lookup ("name":Str)=some .local)
  {k1 k2 k3 k4:Nat} {q1 q2 q3 q4 q5 q6 q7 q8 q9 q10 q11 q12 x1 x2 x3 x4 x5 x6 x7 x8 x9 y1 y2 y3 y4:Pos} {cscope:Scope} (hl:c.cs.names.lookup ("range":Str)=some .globalImplicit) (hl2:c.cs.names.lookup ("_law_take":Str)=some .globalImplicit) (hl3:c.cs.names.lookup ("_law_names":Str)=some .globalImplicit)
  (hcn:cscope.names=[((".0":Str),.local),("turn",.local),("_law_tree",.globalImplicit),("deep",.free),("tape",.free)]) (hck:cscope.kind=.function) :
  SX Γ c (execs [.Assign [.Name "name" x1] (.Subscript (.Call (.Name "_law_names" x2) [] [] x3) (.Call (.Name "_law_take" x4) [.Name "tape" x5,.Constant (.int 6) k2 x6] [] x7) x8) x9,
   .Return (some (.Tuple [.Constant (.str "ref") k3 y1,.Name "name" y2,.ListComp (.Call (.Name "_law_tree" q1) [.Name "tape" q2,.Name "deep" q3] [] q4) [⟨.Name "turn" q5,.Call (.Name "range" q6) [.Call (.Name "_law_take" q7) [.Name "tape" q8,.Constant (.int 3) k1 q9] [] q10] [] q11,[],0⟩] cscope q12] k4 y3)) y4] c.env) (refX C kN kK kT tp dp):=by
 haveI sN:SE Γ c (eval (.Call (.Name "_law_names" x2) [] [] x3) c.env) _:=zw6 gok cok hC0 hl3 (by decide +kernel) hkN (fun e he=>nomatch he) (fun _ _ _=>rfl) (fun pos=>ye3)
 haveI sK:SE Γ c (eval (.Call (.Name "_law_take" x4) [.Name "tape" x5,.Constant (.int 6) k2 x6] [] x7) c.env) _:=zw6 gok cok hC0 hl2 (by decide +kernel) hkK (fun e he=>by
  rcases List.mem_cons.mp he with rfl | he
  ·rfl
  ·rw [List.mem_singleton.mp he]; rfl) (fun h=>nomatch h) (fun pos=>zs4 rfl (se_cell cok V1 (by decide +kernel)) (zs4 rfl (ya8 (C:=C)) ye3))
 haveI sI:=se_idx gok cok (i:=.Call (.Name "_law_take" x4) [.Name "tape" x5,.Constant (.int 6) k2 x6] [] x7) (pos:=x8) rfl sN sK
 have hslot:slot ⟨c.cs,c.nm,dnames,consts⟩ "name"=some 0:=by
  unfold slot
  rw [hnm]
  show (if _ then some 0 else none)=some 0
  rw [show (CX.mk c.cs [("name":Str)] dnames consts).sc.names.lookup ("name":Str)=some .local from hln]
  rfl
 haveI sA:=wm1 cok (X:=⟨c.cs,c.nm,dnames,consts⟩) (xp:=x1) (pos:=x9) rfl rfl hslot rfl sI
 haveI sV:SE Γ c (eval (.Name "name" y2) c.env) (ev C (.var 0)).1:=zv8 (C:=C) gok cok (X:=⟨c.cs,c.nm,dnames,consts⟩) ⟨rfl,rfl⟩ hslot
 haveI sC:=se_comp gok cok hC hkK hkT V1 V2 hcc (k1:=k1) (q1:=q1) (q2:=q2) (q3:=q3) (q4:=q4) (q5:=q5) (q6:=q6) (q7:=q7) (q8:=q8) (q9:=q9) (q10:=q10) (q11:=q11) (q12:=q12) hl hl2 hcn hck
 haveI sT:=se_tup gok cok (k:=k4) (pos:=y3) (es:=[.Constant (.str "ref") k3 y1,.Name "name" y2,.ListComp (.Call (.Name "_law_tree" q1) [.Name "tape" q2,.Name "deep" q3] [] q4) [⟨.Name "turn" q5,.Call (.Name "range" q6) [.Call (.Name "_law_take" q7) [.Name "tape" q8,.Constant (.int 3) k1 q9] [] q10] [] q11,[],0⟩] cscope q12]) (f:=tupF C kK kT tp dp) (by show 3≤1000; decide) (fun env σ r hr=>?_)
  (zs4 rfl (yi6 (C:=C) (x:="ref") (by decide +kernel)) (zs4 rfl sV (zs4 rfl sC ye3)))
 ·exact wi8 sA (wi8 (sx_ret sT) sx_nil)
 ·haveI b1:∀ {α β:Type} {o:Out α} {f:α→Out β} {r:β},o.bind f=.ok r→∃ a,o=.ok a∧f a=.ok r:=by
   intro α β o f r h
   cases o with
   | ok a=>exact ⟨a,rfl,h⟩
   | exc=>cases h
   | stuck=>cases h
  unfold tupF at hr
  obtain ⟨a,_,hr⟩:=b1 hr
  obtain ⟨b,hb,hr⟩:=b1 hr
  obtain ⟨d,_,hb⟩:=b1 hb
  obtain ⟨e,he,hb⟩:=b1 hb
  obtain ⟨g,_,he⟩:=b1 he
  obtain ⟨k,hk,he⟩:=b1 he
  cases hk
  cases he
  cases hb
  cases hr
  rfl
end
end Mine
namespace Mine
set_option tactic.hygienic false
open PySem PySem.W PySem.Calls PyProof.Rows
section
variable {prog:Program} {w:World} {A₀ A:Around} {s:Shared} {base h₀:Heap} {outer:List Env} {L:Addr} {m:Str→Option Value} {env:Env} {news:List (Addr × Obj)} {K:Frag}
 {R:Result→Shared→Prop} {name qual:Str} {params:Arguments} {body:List Stmt} {scope:Scope} {dV kV doc pm cdv ct oc:Value} {an od:Option Addr} {osl:Array (Option Value)} {f:Addr} {args:Args} {binds:List (Str × Value)}
 {p:Program} {loose:List Str} {mean:ExcName→Option Value} {mg mb:Str→Option Value}
theorem enterC (B:Below A₀ base outer h₀) (F:Fr h₀ L s.heap m) (X₀:K.In h₀) (N:News h₀ L s.heap news) (T:Top p loose mean mg mb h₀) (hA:A.frames=some (env::outer)) (hf:env.frame=some L) (hke:env.scope.kind=.function)
  (ho:K.lookup f=some ⟨oc,od,.func (fnOf name qual params body scope dV kV doc pm an cdv ct),osl⟩) (hcd:codeIn K cdv qual=true) (hroom:A.depth < recursionLimit)
  (hbind:BindsTo s (fnOf name qual params body scope dV kV doc pm an cdv ct) args binds) (hkind:(binds.all fun y=>scope.names.lookup y.1 == some .local || scope.names.lookup y.1 == some .cell)=true)
  (hnd:((cellsFrom 0 scope.names []).map (·.1)).Nodup)
  (h:∀ g L' h₁ tk cells,Fr h₀ L g m→Fr g L' h₁ (bindL (envOfC qual scope L' f cdv).kindOf binds fun _=>none)→News g L' h₁ (cells++news) →
   CellsAre (bindC (envOfC qual scope L' f cdv).kindOf binds fun _=>none) (cellsFrom (L'+1) scope.names []) cells→Below A base (env::outer) g→K.In g→Top p loose mean mg mb g→(∀ p∈news,p.1 < L')→GSub s.heap g (news.map (·.1)) →
   wpAny (model prog w) (A.deeper (envOfC qual scope L' f cdv)) (execs body (envOfC qual scope L' f cdv))
    (fun fl s'=>LeaveK h₀ L m g R (match fl with | .ret v=>v | _=>.none) s')
    (fun e s'=>wpAny (model prog w) (A.deeper (envOfC qual scope L' f cdv)) (leaving (envOfC qual scope L' f cdv) e) (fun _ s''=>R (.error e) s'') (fun e' s''=>R (.error e') s'') s')
    { s with heap:=h₁,toks:=tk })
  (hco:scope.isCoroutine=false) (hgen:scope.isGenerator=false) (hk:scope.kind=.function):codeAny (model prog w) A (.call (.ref f) args) R s:=by
 refine big fun Gz hGz=>?_
 obtain ⟨FG,BG,st,lv⟩:=groundX (R:=R) B F N hA hf hke <;> refine hGz ?_
 refine codeAny_call_function hroom ((X₀.keeps F.keep) _ _ ho) rfl hco hgen rfl (codeRec_of (X₀.keeps F.keep) hcd) (hbind _ _ _ _ ?_)
 refine wpAny_newFunctionEnv_cells hk (kindsX hkind _) fun env' he s' x=>?_
 subst he
 refine ⟨(T.nolimit.keeps F.keep).keeps x.toInCall.keep,codeAny_func ?_⟩
 obtain ⟨h₁,tk,rfl,_⟩:=x.done
 haveI hk₁:=x.toInCall.keep
 obtain ⟨cells,NC,Y⟩:=Cl.news (h₀:=s.heap) (Nat.le_refl _) fun n c hm=>⟨x.cell n c (lookup_of_mem_nodup (cellsFrom_names scope.names 0 (s.heap.objs.size+1) [] [] rfl ▸ hnd) hm),x.above n c hm⟩
 refine wpAny_mono (h _ s.heap.objs.size h₁ tk cells FG ⟨x.toInCall.ns,fun b o e=>hk₁ b o (of_hideAll _ e),Nat.le_of_eq (hideAll_size _ _)⟩ (fun p hp=>?_) Y BG (X₀.keeps st) (T.keeps st) (fun p hp=>Heap.lt_size (N p hp).1) (fun b o e n=>hideAll_get _ e n)) (fun fl s' hl=>lv _ _ hl) fun _ _ y=>y
 rcases List.mem_append.mp hp with hp | hp
 ·refine ⟨(NC p hp).1,(NC p hp).2.1,?_⟩
  cases q:(hideAll s.heap (news.map (·.1))).get? p.1 with
  | none=>rfl
  | some o=>have:=of_hideAll _ q; rw [(NC p hp).2.2] at this; cases this
 ·exact ⟨hk₁ _ _ (N p hp).1,Nat.ne_of_lt (Heap.lt_size (N p hp).1),hideAll_none _ (List.mem_map_of_mem hp)⟩
end
noncomputable def noExc {α:Type}:Out α→Out α
 | .exc=>.stuck
 | o=>o
noncomputable def refP (C:Nat→List PV→za7→Out (PV × za7)) (kN kK kT:Nat) (args:List PV) (σ:za7):Out (PV × za7):=match args with
 | [tp,dp]=>noExc ((refX C kN kK kT tp dp [none] σ).bind fun q=>zh3 σ.length q.1 q.2.2)
 | _=>.stuck
inductive RefK (K:Frag) (f:Addr):Prop
 | mk {qual:Str} {scope:Scope} {cdv:Value} {body:List Stmt} {name:Str} {params:Arguments} {dV kV doc pm:Value} {an:Option Addr} {ct oc:Value} {od:Option Addr} {osl:Array (Option Value)}
  (cscope:Scope) (k1 k2 k3 k4:Nat) (q1 q2 q3 q4 q5 q6 q7 q8 q9 q10 q11 q12 x1 x2 x3 x4 x5 x6 x7 x8 x9 y1 y2 y3 y4:Pos)
  (look:K.lookup f=some ⟨oc,od,.func (fnOf name qual params body scope dV kV doc pm an cdv ct),osl⟩)
  (bind:∀ v1 v2:Value,bindArgs (fnOf name qual params body scope dV kV doc pm an cdv ct) ⟨[v1,v2],[]⟩=pure [(("tape":Str),v1),("deep",v2)])
  (code:codeIn K cdv qual=true) (co:scope.isCoroutine=false) (gen:scope.isGenerator=false) (kind:scope.kind=.function)
  (names:scope.names=[(("tape":Str),.cell),("deep",.cell),("name",.local),("_law_names",.globalImplicit),("_law_take",.globalImplicit),("range",.globalImplicit)])
  (cnames:cscope.names=[((".0":Str),.local),("turn",.local),("_law_tree",.globalImplicit),("deep",.free),("tape",.free)]) (ckind:cscope.kind=.function)
  (hb:body=[.Assign [.Name "name" x1] (.Subscript (.Call (.Name "_law_names" x2) [] [] x3) (.Call (.Name "_law_take" x4) [.Name "tape" x5,.Constant (.int 6) k2 x6] [] x7) x8) x9,
   .Return (some (.Tuple [.Constant (.str "ref") k3 y1,.Name "name" y2,.ListComp (.Call (.Name "_law_tree" q1) [.Name "tape" q2,.Name "deep" q3] [] q4) [⟨.Name "turn" q5,.Call (.Name "range" q6) [.Call (.Name "_law_take" q7) [.Name "tape" q8,.Constant (.int 3) k1 q9] [] q10] [] q11,[],0⟩] cscope q12] k4 y3)) y4]):RefK K f
section
variable {Γ:GC} {c:FC} {C:Nat→List PV→za7→Out (PV × za7)}
set_option tactic.hygienic true in
theorem call_ref (gok:Γ.Ok) (cok:c.Ok Γ) {k kN kK kT:Nat} (hkN:dnames.findIdx? (· == ("_law_names":Str))=some kN) (hkK:dnames.findIdx? (· == ("_law_take":Str))=some kK) (hkT:dnames.findIdx? (· == ("_law_tree":Str))=some kT) (D:RefK Γ.KF (Γ.fa k)) (hd:c.dp+12 < recursionLimit) (hu:c.un+104 < cLine)
  (hC:∀ c':FC,c'.Ok Γ→c'.dp=c.dp+1→c'.un=c.un+3→zn3 Γ c' C)
  {args:List PV} {env:Env'} {σ:za7} {h:Heap} {tk:Nat} {news:List (Addr × Obj)} {ls:List Addr} {vs:List Value} {Q:Value→Shared→Prop}
  (I:Inv Γ c h env σ news ls) (ra:RepA Γ.base Γ.ta news ls vs args) (hp:ys2 Γ c env news ls h Q (refP C kN kK kT args σ)) :
  wpAny (model Γ.prog Γ.w) c.A (call (.ref (Γ.fa k)) vs) Q c.E (Γ.st h tk):=by
 rcases args with _ | ⟨tp,_ | ⟨dp,_ | ⟨_,_⟩⟩⟩
 ·exact hp.elim
 ·exact hp.elim
 ·obtain _ | ⟨r1,ra⟩:=ra
  obtain _ | ⟨r2,ra⟩:=ra
  obtain _ | _:=ra
  rename_i v1 v2
  obtain ⟨cscope,k1,k2,k3,k4,q1,q2,q3,q4,q5,q6,q7,q8,q9,q10,q11,q12,x1,x2,x3,x4,x5,x6,x7,x8,x9,y1,y2,y3,y4,hlook,hbind,hcd,hco,hgen,hk,hn,hcn,hck,hb⟩:=D
  rename_i qual scope cdv body name params dV kV doc pm an ct oc od osl
  change ys2 Γ c env news ls h Q (noExc ((refX C kN kK kT tp dp [none] σ).bind fun q=>zh3 σ.length q.1 q.2.2)) at hp
  haveI hX:=gok.X.keeps cok.B.stays
  haveI hT:=gok.T.keeps cok.B.stays
  obtain ⟨⟨m,F,hm⟩,NN,S,G⟩:=id I
  refine wpAny_call (enterC (s:=Γ.st h tk) (binds:=[(("tape":Str),v1),("deep",v2)]) cok.B F hX NN hT rfl rfl cok.kind hlook hcd (by show c.dp < recursionLimit; exact j170 hd) (BindsTo.of_eq (hbind v1 v2)) (by rw [hn]; rfl) (by rw [hn]; decide +kernel) (fun g L' h₁ tk1 cells FG F' N' CA B' X' T' hlt GS=>?_) hco hgen hk)
  have hcf:cellsFrom (L'+1) scope.names []=[(("deep":Str),L'+1+1),("tape",L'+1)]:=by rw [hn]; rfl
  rw [hcf] at CA
  obtain ⟨o2,o1,rfl,hd2,hd1⟩:=CA.two
  let c':FC:={ cn:=qual,cs:=scope,L:=L',a:=Γ.fa k,cd:=cdv,outer:=c.env::c.outer,g:=g,dp:=c.dp+1,un:=c.un+3,gd:=c.gd,A₀:=c.A,nm:=[("name":Str)],news₀:=[(L'+1+1,o2),(L'+1,o1)]++news,ls₀:=ls,may:=False,own:=False,cells:=[(("deep":Str),L'+1+1),("tape",L'+1)],E:=fun _ _=>False }
  haveI henv:envOfC qual scope L' (Γ.fa k) cdv=c'.env:=by
   unfold envOfC
   rw [hcf]; rfl
  haveI cok':c'.Ok Γ:={ B:=B',kind:=hk,nmnd:=List.pairwise_singleton _ _,hE:=PassesOwn.never,hX:=fun h=>h.elim,room:=by show c.un+3+100 < cLine; exact j352 hu,roomD:=by show c.dp+1+10 < recursionLimit; exact j353 hd }
  have hoff:∀ a∈ls,a < L':=fun a ha=>by
   obtain ⟨j,hj⟩:=List.getElem?_of_mem ha
   have hjl:j < σ.length:=by rw [← S.len]; exact (List.getElem?_eq_some_iff.mp hj).1
   obtain ⟨ws,n,h3,_⟩:=S.at' j a (σ[j]) hj (List.getElem?_eq_getElem hjl)
   exact hlt _ h3
  have gcl:Grow news ls ([(L'+1+1,o2),(L'+1,o1)]++news) ls:=⟨fun p hp hn=>⟨List.mem_append_right _ hp,hn⟩,[],(List.append_nil _).symm⟩
  haveI I':Inv Γ c' h₁ [none] σ ([(L'+1+1,o2),(L'+1,o1)]++news) ls:=by
   refine ⟨⟨_,F',fun j x pv hx he=>?_⟩,N',S.sub fun a o _ q=>List.mem_append_right _ q,Grow.refl⟩
   exfalso
   cases j with
   | zero=>cases he
   | succ j=>cases hx
  haveI kof:∀ x,(envOfC qual scope L' (Γ.fa k) cdv).kindOf x=scope.names.lookup x:=fun _=>rfl
  have cm:∀ x,bindC (envOfC qual scope L' (Γ.fa k) cdv).kindOf [(("tape":Str),v1),("deep",v2)] (fun _=>none) x=if x="deep" then some v2 else if x="tape" then some v1 else none:=by
   intro x
   unfold bindC bindC bindC
   rw [kof,kof,hn]
   rfl
  haveI V1:CellV Γ c' "tape" (L'+1) v1 tp:=by
   refine ⟨⟨o1,.tail _ (.head _),?_⟩,fun q=>?_,rfl,by show scope.names.lookup _=_; rw [hn]; rfl,r1.mono gcl⟩
   ·rw [hd1,cm]
    rw [if_neg (by decide +kernel),if_pos rfl]
   ·exact absurd (hoff _ q) (Nat.not_lt_of_le (Nat.le_succ _))
  haveI V2:CellV Γ c' "deep" (L'+1+1) v2 dp:=by
   refine ⟨⟨o2,.head _,?_⟩,fun q=>?_,rfl,by show scope.names.lookup _=_; rw [hn]; rfl,r2.mono gcl⟩
   ·rw [hd2,cm,if_pos rfl]
   ·exact absurd (hoff _ q) (Nat.not_lt_of_le (Nat.le_succ_of_le (Nat.le_succ _)))
  rw [henv]
  refine wpAny_mono (E:=c'.E) ?_ (fun _ _ x=>x) (fun _ _ x=>x.elim)
  rw [hb]
  refine sx_ref gok cok' (hC c' cok' rfl rfl) (hC c' cok' rfl rfl) hkN hkK hkT V1 V2 rfl rfl (by show scope.names.lookup _=_; rw [hn]; rfl) (by show scope.names.lookup _=_; rw [hn]; rfl) (by show scope.names.lookup _=_; rw [hn]; rfl) (by show scope.names.lookup _=_; rw [hn]; rfl) hcn hck [none] σ h₁ tk1 _ ls _ I' ?_
  cases hr:refX C kN kK kT tp dp [none] σ with
  | exc=>rw [hr] at hp; exact hp.elim
  | stuck=>rw [hr] at hp; exact hp.elim
  | ok q =>
   rw [hr] at hp
   intro fl h' tk' news' ls' I2 rf gr
   obtain ⟨⟨m2,F2,_⟩,N2,S2,G2⟩:=I2
   change ys2 _ _ _ _ _ _ _ (noExc (zh3 σ.length q.1 q.2.2)) at hp
   cases hlv:zh3 σ.length q.1 q.2.2 with
   | exc=>rw [hlv] at hp; exact hp.elim
   | stuck=>rw [hlv] at hp; exact hp.elim
   | ok o =>
    rw [hlv] at hp
    refine leaveK_ (s':=Γ.st h' tk') F2 N2 (back cok (c':=c') (fl:=q.1) hm S G F2 N2 S2 (gcl.trans gr) ?_ hlv GS hp)
    obtain ⟨q1,q2,q3⟩:=q
    dsimp only at rf ⊢
    cases rf with
    | next=>exact .none
    | cont=>exact .none
    | ret r=>exact r
 ·exact hp.elim
end
end Mine
namespace Mine
set_option tactic.hygienic false
open PySem PySem.W PySem.Calls PyProof.Rows
noncomputable def c0:FD:=⟨3,4,.cons (.asg 3 (.var 1)) (.cons (.whl (.bool true (.cons (.cmp .lt (.var 3) (.bi .len (.cons (.var 0) .nil))) (.cons (.cmp .isin (.idx (.var 0) (.var 3)) (.var 2)) .nil))) (.cons (.aug 3 .add (.cst (.int 1))) .nil)) (.cons (.ret (.var 3)) .nil))⟩
noncomputable def c1:FD:=⟨2,4,.cons (.asg 2 (.call 0 (.cons (.var 0) (.cons (.bin .add (.var 1) (.cst (.int 1))) (.cons (.cst (.str [65,66,67,68,69,70,71,72,73,74,75,76,77,78,79,80,81,82,83,84,85,86,87,88,89,90])) .nil))))) (.cons (.asg 3 (.cut (.var 0) (.var 1) (.bin .add (.var 2) (.cst (.int 1))))) (.cons (.iff (.bool false (.cons (.cmp .isin (.var 3) (.cst (.tup [.str [46,69,81,46],.str [46,78,69,46],.str [46,76,84,46],.str [46,76,69,46],.str [46,71,84,46],.str [46,71,69,46],.str [46,78,79,84,46],.str [46,65,78,68,46],.str [46,79,82,46],.str [46,69,81,86,46],.str [46,78,69,81,86,46]]))) (.cons (.cmp .isin (.var 3) (.cst (.tup [.str [46,84,82,85,69,46],.str [46,70,65,76,83,69,46]]))) .nil))) (.cons (.ret (.var 3)) .nil) .nil) (.cons (.ret (.cst (.str []))) .nil)))⟩
noncomputable def c2:FD:=⟨2,3,.cons (.asg 2 (.bi .int (.cons (.var 0) .nil))) (.cons (.iff (.cmp .eq (.var 2) (.cst (.int 0))) (.cons (.ret (.tup (.cons (.cst (.int 0)) (.cons (.cst (.int 0)) .nil)))) .nil) .nil) (.cons (.whl (.cmp .eq (.bin .mod (.var 2) (.cst (.int 10))) (.cst (.int 0))) (.cons (.aug 2 .div (.cst (.int 10))) (.cons (.aug 1 .add (.cst (.int 1))) .nil))) (.cons (.ret (.tup (.cons (.var 2) (.cons (.var 1) .nil)))) .nil)))⟩
noncomputable def c3:FD:=⟨2,5,.cons (.iff (.bool false (.cons (.cmp .ge (.var 1) (.bi .len (.cons (.var 0) .nil))) (.cons (.cmp .notin (.idx (.var 0) (.var 1)) (.cst (.str [69,68]))) .nil))) (.cons (.ret (.tup (.cons (.cst (.str [])) (.cons (.cst (.int 0)) (.cons (.var 1) .nil))))) .nil) .nil) (.cons (.asg 2 (.bin .add (.var 1) (.cst (.int 1)))) (.cons (.iff (.bool true (.cons (.cmp .lt (.var 2) (.bi .len (.cons (.var 0) .nil))) (.cons (.cmp .isin (.idx (.var 0) (.var 2)) (.cst (.str [43,45]))) .nil))) (.cons (.aug 2 .add (.cst (.int 1))) .nil) .nil) (.cons (.asg 3 (.call 0 (.cons (.var 0) (.cons (.var 2) (.cons (.cst (.str [48,49,50,51,52,53,54,55,56,57])) .nil))))) (.cons (.iff (.cmp .eq (.var 3) (.var 2)) (.cons (.ret (.tup (.cons (.cst (.str [])) (.cons (.cst (.int 0)) (.cons (.var 1) .nil))))) .nil) .nil) (.cons (.iff (.cmp .gt (.bin .sub (.var 3) (.var 2)) (.cst (.int 1000))) (.cons (.raise 0 (.cons (.var 1) (.cons (.cst (.str [97,110,32,101,120,112,111,110,101,110,116,32,104,97,115,32,116,111,111,32,109,97,110,121,32,100,105,103,105,116,115])) .nil))) .nil) .nil) (.cons (.asg 4 (.bi .int (.cons (.cut (.var 0) (.var 2) (.var 3)) .nil))) (.cons (.iff (.cmp .eq (.idx (.var 0) (.bin .add (.var 1) (.cst (.int 1)))) (.cst (.str [45]))) (.cons (.asg 4 (.neg (.var 4))) .nil) .nil) (.cons (.ret (.tup (.cons (.idx (.var 0) (.var 1)) (.cons (.var 4) (.cons (.var 3) .nil))))) .nil))))))))⟩
noncomputable def c4:FD:=⟨2,10,.cons (.asg 2 (.call 0 (.cons (.var 0) (.cons (.var 1) (.cons (.cst (.str [48,49,50,51,52,53,54,55,56,57])) .nil))))) (.cons (.asg 3 (.cut (.var 0) (.var 1) (.var 2))) (.cons (.asg 4 (.cst (.str []))) (.cons (.asg 5 (.bool true (.cons (.cmp .lt (.var 2) (.bi .len (.cons (.var 0) .nil))) (.cons (.cmp .eq (.idx (.var 0) (.var 2)) (.cst (.str [46]))) (.cons (.cmp .eq (.call 1 (.cons (.var 0) (.cons (.var 2) .nil))) (.cst (.str []))) .nil))))) (.cons (.iff (.var 5) (.cons (.asg 6 (.call 0 (.cons (.var 0) (.cons (.bin .add (.var 2) (.cst (.int 1))) (.cons (.cst (.str [48,49,50,51,52,53,54,55,56,57])) .nil))))) (.cons (.asg 4 (.cut (.var 0) (.bin .add (.var 2) (.cst (.int 1))) (.var 6))) (.cons (.asg 2 (.var 6)) .nil))) .nil) (.cons (.asgT [7,8,2] (.call 3 (.cons (.var 0) (.cons (.var 2) .nil)))) (.cons (.iff (.cmp .gt (.bin .sub (.var 2) (.var 1)) (.cst (.int 1000))) (.cons (.raise 0 (.cons (.var 1) (.cons (.cst (.str [97,32,110,117,109,98,101,114,32,104,97,115,32,116,111,111,32,109,97,110,121,32,100,105,103,105,116,115])) .nil))) .nil) .nil) (.cons (.iff (.bool true (.cons (.not (.var 5)) (.cons (.cmp .eq (.var 7) (.cst (.str []))) .nil))) (.cons (.ret (.tup (.cons (.tup (.cons (.cst (.str [73,78,84])) (.cons (.bi .int (.cons (.var 3) .nil)) (.cons (.var 1) .nil)))) (.cons (.var 2) .nil)))) .nil) .nil) (.cons (.asg 9 (.call 2 (.cons (.bin .add (.var 3) (.var 4)) (.cons (.bin .sub (.var 8) (.bi .len (.cons (.var 4) .nil))) .nil)))) (.cons (.iff (.cmp .eq (.var 7) (.cst (.str [68]))) (.cons (.ret (.tup (.cons (.tup (.cons (.cst (.str [68,66,76,69])) (.cons (.var 9) (.cons (.var 1) .nil)))) (.cons (.var 2) .nil)))) .nil) .nil) (.cons (.ret (.tup (.cons (.tup (.cons (.cst (.str [82,69,65,76])) (.cons (.var 9) (.cons (.var 1) .nil)))) (.cons (.var 2) .nil)))) .nil))))))))))⟩
noncomputable def c5:FD:=⟨2,4,.cons (.asg 2 (.cst (.str []))) (.cons (.asg 3 (.bin .add (.var 1) (.cst (.int 1)))) (.cons (.whl (.cmp .lt (.var 3) (.bi .len (.cons (.var 0) .nil))) (.cons (.iff (.cmp .ne (.idx (.var 0) (.var 3)) (.cst (.str [39]))) (.cons (.aug 2 .add (.idx (.var 0) (.var 3))) (.cons (.aug 3 .add (.cst (.int 1))) .nil)) (.cons (.iff (.cmp .eq (.cut (.var 0) (.bin .add (.var 3) (.cst (.int 1))) (.bin .add (.var 3) (.cst (.int 2)))) (.cst (.str [39]))) (.cons (.aug 2 .add (.cst (.str [39]))) (.cons (.aug 3 .add (.cst (.int 2))) .nil)) (.cons (.ret (.tup (.cons (.tup (.cons (.cst (.str [67,72,65,82])) (.cons (.var 2) (.cons (.var 1) .nil)))) (.cons (.bin .add (.var 3) (.cst (.int 1))) .nil)))) .nil)) .nil)) .nil)) (.cons (.raise 0 (.cons (.var 1) (.cons (.cst (.str [97,32,99,104,97,114,97,99,116,101,114,32,99,111,110,115,116,97,110,116,32,104,97,115,32,110,111,32,101,110,100])) .nil))) .nil)))⟩
noncomputable def c6:FD:=⟨2,3,.cons (.asg 2 (.call 0 (.cons (.var 0) (.cons (.var 1) (.cons (.bin .add (.cst (.str [65,66,67,68,69,70,71,72,73,74,75,76,77,78,79,80,81,82,83,84,85,86,87,88,89,90])) (.cst (.str [48,49,50,51,52,53,54,55,56,57]))) .nil))))) (.cons (.iff (.cmp .gt (.bin .sub (.var 2) (.var 1)) (.cst (.int 6))) (.cons (.raise 0 (.cons (.var 1) (.cons (.cst (.str [97,32,110,97,109,101,32,104,97,115,32,109,111,114,101,32,116,104,97,110,32,115,105,120,32,115,105,103,110,115])) .nil))) .nil) .nil) (.cons (.ret (.tup (.cons (.tup (.cons (.cst (.str [78,65,77,69])) (.cons (.cut (.var 0) (.var 1) (.var 2)) (.cons (.var 1) .nil)))) (.cons (.var 2) .nil)))) .nil))⟩
noncomputable def c7:FD:=⟨2,3,.cons (.iff (.bool true (.cons (.cmp .lt (.bin .add (.var 1) (.cst (.int 1))) (.bi .len (.cons (.var 0) .nil))) (.cons (.cmp .isin (.idx (.var 0) (.bin .add (.var 1) (.cst (.int 1)))) (.cst (.str [48,49,50,51,52,53,54,55,56,57]))) .nil))) (.cons (.ret (.call 4 (.cons (.var 0) (.cons (.var 1) .nil)))) .nil) .nil) (.cons (.asg 2 (.call 1 (.cons (.var 0) (.cons (.var 1) .nil)))) (.cons (.iff (.cmp .eq (.var 2) (.cst (.str []))) (.cons (.raise 0 (.cons (.var 1) (.cons (.cst (.str [97,32,112,111,105,110,116,32,116,104,97,116,32,98,101,103,105,110,115,32,110,111,116,104,105,110,103])) .nil))) .nil) .nil) (.cons (.iff (.cmp .isin (.var 2) (.cst (.tup [.str [46,84,82,85,69,46],.str [46,70,65,76,83,69,46]]))) (.cons (.ret (.tup (.cons (.tup (.cons (.cst (.str [76,79,71])) (.cons (.cmp .eq (.var 2) (.cst (.str [46,84,82,85,69,46]))) (.cons (.var 1) .nil)))) (.cons (.bin .add (.var 1) (.bi .len (.cons (.var 2) .nil))) .nil)))) .nil) .nil) (.cons (.ret (.tup (.cons (.tup (.cons (.cst (.str [79,80])) (.cons (.var 2) (.cons (.var 1) .nil)))) (.cons (.bin .add (.var 1) (.bi .len (.cons (.var 2) .nil))) .nil)))) .nil))))⟩
noncomputable def c8:FD:=⟨2,4,.cons (.asg 2 (.idx (.var 0) (.var 1))) (.cons (.iff (.cmp .isin (.var 2) (.cst (.str [65,66,67,68,69,70,71,72,73,74,75,76,77,78,79,80,81,82,83,84,85,86,87,88,89,90]))) (.cons (.ret (.call 6 (.cons (.var 0) (.cons (.var 1) .nil)))) .nil) .nil) (.cons (.iff (.cmp .isin (.var 2) (.cst (.str [48,49,50,51,52,53,54,55,56,57]))) (.cons (.ret (.call 4 (.cons (.var 0) (.cons (.var 1) .nil)))) .nil) .nil) (.cons (.iff (.cmp .eq (.var 2) (.cst (.str [46]))) (.cons (.ret (.call 7 (.cons (.var 0) (.cons (.var 1) .nil)))) .nil) .nil) (.cons (.iff (.cmp .eq (.var 2) (.cst (.str [39]))) (.cons (.ret (.call 5 (.cons (.var 0) (.cons (.var 1) .nil)))) .nil) .nil) (.cons (.iff (.cmp .notin (.var 2) (.cst (.str [43,45,42,47,40,41,44,61,58]))) (.cons (.raise 0 (.cons (.var 1) (.cons (.cst (.str [97,32,115,105,103,110,32,116,104,97,116,32,98,101,103,105,110,115,32,110,111,116,104,105,110,103])) .nil))) .nil) .nil) (.cons (.asg 3 (.bin .add (.var 1) (.cst (.int 1)))) (.cons (.iff (.bool true (.cons (.cmp .isin (.var 2) (.cst (.str [42,47]))) (.cons (.cmp .eq (.cut (.var 0) (.var 3) (.bin .add (.var 3) (.cst (.int 1)))) (.var 2)) .nil))) (.cons (.aug 3 .add (.cst (.int 1))) .nil) .nil) (.cons (.ret (.tup (.cons (.tup (.cons (.cst (.str [79,80])) (.cons (.cut (.var 0) (.var 1) (.var 3)) (.cons (.var 1) .nil)))) (.cons (.var 3) .nil)))) .nil))))))))⟩
noncomputable def c9:FD:=⟨1,4,.cons (.asg 1 (.lst .nil)) (.cons (.asg 2 (.cst (.int 0))) (.cons (.whl (.cmp .lt (.var 2) (.bi .len (.cons (.var 0) .nil))) (.cons (.asgT [3,2] (.call 8 (.cons (.var 0) (.cons (.var 2) .nil)))) (.cons (.exp (.me .append (.var 1) (.cons (.var 3) .nil))) .nil))) (.cons (.ret (.var 1)) .nil)))⟩
noncomputable def c10:FD:=⟨1,1,.cons (.ret (.bin .mul (.cst (.str [48])) (.bi .max (.cons (.var 0) (.cons (.cst (.int 0)) .nil))))) .nil⟩
noncomputable def c11:FD:=⟨2,5,.cons (.asgT [2,3] (.var 0)) (.cons (.asg 4 (.bi .str (.cons (.var 2) .nil))) (.cons (.iff (.bool false (.cons (.cmp .eq (.var 1) (.cst (.str [68]))) (.cons (.cmp .gt (.var 3) (.cst (.int 0))) (.cons (.cmp .lt (.var 3) (.neg (.cst (.int 12)))) .nil)))) (.cons (.ret (.bin .add (.bin .add (.bin .add (.var 4) (.cst (.str [46]))) (.var 1)) (.bi .str (.cons (.var 3) .nil)))) .nil) .nil) (.cons (.iff (.cmp .eq (.var 3) (.cst (.int 0))) (.cons (.ret (.bin .add (.var 4) (.cst (.str [46])))) .nil) .nil) (.cons (.iff (.cmp .le (.bi .len (.cons (.var 4) .nil)) (.neg (.var 3))) (.cons (.ret (.bin .add (.bin .add (.cst (.str [46])) (.call 10 (.cons (.bin .sub (.neg (.var 3)) (.bi .len (.cons (.var 4) .nil))) .nil))) (.var 4))) .nil) .nil) (.cons (.ret (.bin .add (.bin .add (.cut (.var 4) (.cst .none) (.var 3)) (.cst (.str [46]))) (.cut (.var 4) (.var 3) (.cst .none)))) .nil)))))⟩
noncomputable def c13:FD:=⟨1,1,.cons (.iff (.cmp .eq (.idx (.var 0) (.cst (.int 0))) (.cst (.str [98,105,110]))) (.cons (.ret (.idx (.idx (.cst (.tab 0)) (.idx (.var 0) (.cst (.int 1)))) (.cst (.int 0)))) .nil) .nil) (.cons (.iff (.cmp .eq (.idx (.var 0) (.cst (.int 0))) (.cst (.str [117,110]))) (.cons (.ret (.idx (.idx (.cst (.tab 1)) (.idx (.var 0) (.cst (.int 1)))) (.cst (.int 0)))) .nil) .nil) (.cons (.ret (.cst (.int 10))) .nil))⟩
noncomputable def c14:FD:=⟨2,2,.cons (.iff (.cmp .lt (.call 13 (.cons (.var 0) .nil)) (.var 1)) (.cons (.ret (.bin .add (.bin .add (.cst (.str [40])) (.call 20 (.cons (.var 0) .nil))) (.cst (.str [41])))) .nil) .nil) (.cons (.ret (.call 20 (.cons (.var 0) .nil))) .nil)⟩
noncomputable def c16:FD:=⟨1,2,.cons (.asg 1 (.cst (.str []))) (.cons (.iff (.cmp .lt (.idx (.var 0) (.cst (.int 1))) (.cst (.int 0))) (.cons (.asg 1 (.cst (.str [45]))) .nil) .nil) (.cons (.iff (.cmp .eq (.idx (.var 0) (.cst (.int 0))) (.cst (.str [105,110,116]))) (.cons (.ret (.bin .add (.var 1) (.bi .str (.cons (.bi .abs (.cons (.idx (.var 0) (.cst (.int 1))) .nil)) .nil)))) .nil) .nil) (.cons (.ret (.bin .add (.var 1) (.call 11 (.cons (.tup (.cons (.bi .abs (.cons (.idx (.var 0) (.cst (.int 1))) .nil)) (.cons (.idx (.var 0) (.cst (.int 2))) .nil))) (.cons (.ite (.cmp .eq (.idx (.var 0) (.cst (.int 0))) (.cst (.str [100,98,108,101]))) (.cst (.str [68])) (.cst (.str [69]))) .nil))))) .nil)))⟩
noncomputable def c17:FD:=⟨1,1,.cons (.iff (.cmp .eq (.idx (.var 0) (.cst (.int 0))) (.cst (.str [99,104,97,114]))) (.cons (.ret (.call 12 (.cons (.idx (.var 0) (.cst (.int 1))) .nil))) .nil) .nil) (.cons (.iff (.cmp .eq (.idx (.var 0) (.cst (.int 0))) (.cst (.str [108,111,103]))) (.cons (.ret (.ite (.idx (.var 0) (.cst (.int 1))) (.cst (.str [46,84,82,85,69,46])) (.cst (.str [46,70,65,76,83,69,46])))) .nil) .nil) (.cons (.iff (.cmp .eq (.idx (.var 0) (.cst (.int 0))) (.cst (.str [99,112,108,120]))) (.cons (.ret (.bin .add (.bin .add (.bin .add (.bin .add (.cst (.str [40])) (.call 16 (.cons (.idx (.var 0) (.cst (.int 1))) .nil))) (.cst (.str [44]))) (.call 16 (.cons (.idx (.var 0) (.cst (.int 2))) .nil))) (.cst (.str [41])))) .nil) .nil) (.cons (.ret (.call 16 (.cons (.var 0) .nil))) .nil)))⟩
noncomputable def c18:FD:=⟨1,1,.cons (.iff (.cmp .is (.var 0) (.cst .none)) (.cons (.ret (.cst (.str []))) .nil) .nil) (.cons (.ret (.call 20 (.cons (.var 0) .nil))) .nil)⟩
noncomputable def c19:FD:=⟨1,2,.cons (.asg 1 (.bin .add (.bin .add (.bin .add (.bin .add (.bin .add (.bin .add (.bin .add (.cst (.str [40])) (.call 15 (.cons (.idx (.var 0) (.cst (.int 1))) .nil))) (.cst (.str [44]))) (.idx (.var 0) (.cst (.int 2)))) (.cst (.str [61]))) (.call 20 (.cons (.idx (.var 0) (.cst (.int 3))) .nil))) (.cst (.str [44]))) (.call 20 (.cons (.idx (.var 0) (.cst (.int 4))) .nil)))) (.cons (.iff (.cmp .isnot (.idx (.var 0) (.cst (.int 5))) (.cst .none)) (.cons (.aug 1 .add (.bin .add (.cst (.str [44])) (.call 20 (.cons (.idx (.var 0) (.cst (.int 5))) .nil)))) .nil) .nil) (.cons (.ret (.bin .add (.var 1) (.cst (.str [41])))) .nil))⟩
noncomputable def c20:FD:=⟨1,5,.cons (.asg 1 (.idx (.var 0) (.cst (.int 0)))) (.cons (.iff (.cmp .eq (.var 1) (.cst (.str [98,105,110]))) (.cons (.asgT [2,3,4] (.idx (.cst (.tab 0)) (.idx (.var 0) (.cst (.int 1))))) (.cons (.ret (.bin .add (.bin .add (.call 14 (.cons (.idx (.var 0) (.cst (.int 2))) (.cons (.var 3) .nil))) (.idx (.var 0) (.cst (.int 1)))) (.call 14 (.cons (.idx (.var 0) (.cst (.int 3))) (.cons (.var 4) .nil))))) .nil)) .nil) (.cons (.iff (.cmp .eq (.var 1) (.cst (.str [117,110]))) (.cons (.ret (.bin .add (.idx (.var 0) (.cst (.int 1))) (.call 14 (.cons (.idx (.var 0) (.cst (.int 2))) (.cons (.idx (.idx (.cst (.tab 1)) (.idx (.var 0) (.cst (.int 1)))) (.cst (.int 1))) .nil))))) .nil) .nil) (.cons (.iff (.cmp .eq (.var 1) (.cst (.str [110,97,109,101]))) (.cons (.ret (.idx (.var 0) (.cst (.int 1)))) .nil) .nil) (.cons (.iff (.cmp .eq (.var 1) (.cst (.str [114,101,102]))) (.cons (.ret (.bin .add (.bin .add (.bin .add (.idx (.var 0) (.cst (.int 1))) (.cst (.str [40]))) (.call 15 (.cons (.idx (.var 0) (.cst (.int 2))) .nil))) (.cst (.str [41])))) .nil) .nil) (.cons (.iff (.cmp .eq (.var 1) (.cst (.str [115,117,98]))) (.cons (.ret (.bin .add (.bin .add (.bin .add (.bin .add (.bin .add (.call 20 (.cons (.idx (.var 0) (.cst (.int 1))) .nil)) (.cst (.str [40]))) (.call 18 (.cons (.idx (.var 0) (.cst (.int 2))) .nil))) (.cst (.str [58]))) (.call 18 (.cons (.idx (.var 0) (.cst (.int 3))) .nil))) (.cst (.str [41])))) .nil) .nil) (.cons (.iff (.cmp .eq (.var 1) (.cst (.str [97,108,116]))) (.cons (.ret (.bin .add (.cst (.str [42])) (.bi .str (.cons (.idx (.var 0) (.cst (.int 1))) .nil)))) .nil) .nil) (.cons (.iff (.cmp .eq (.var 1) (.cst (.str [105,100,111]))) (.cons (.ret (.call 19 (.cons (.var 0) .nil))) .nil) .nil) (.cons (.ret (.call 17 (.cons (.var 0) .nil))) .nil))))))))⟩
noncomputable def c21:FD:=⟨2,2,.cons (.iff (.cmp .lt (.var 1) (.bi .len (.cons (.var 0) .nil))) (.cons (.ret (.idx (.idx (.var 0) (.var 1)) (.cst (.int 0)))) .nil) .nil) (.cons (.ret (.cst (.str []))) .nil)⟩
noncomputable def c22:FD:=⟨3,3,.cons (.ret (.bool true (.cons (.cmp .lt (.var 1) (.bi .len (.cons (.var 0) .nil))) (.cons (.cmp .eq (.idx (.idx (.var 0) (.var 1)) (.cst (.int 0))) (.cst (.str [79,80]))) (.cons (.cmp .eq (.idx (.idx (.var 0) (.var 1)) (.cst (.int 1))) (.var 2)) .nil))))) .nil⟩
noncomputable def c23:FD:=⟨3,3,.cons (.iff (.not (.call 22 (.cons (.var 0) (.cons (.var 1) (.cons (.var 2) .nil))))) (.cons (.raise 1 (.cons (.bin .add (.cst (.str [97,32,109,97,114,107,32,105,115,32,109,105,115,115,105,110,103,58,32])) (.var 2)) .nil)) .nil) .nil) (.cons (.ret (.bin .add (.var 1) (.cst (.int 1)))) .nil)⟩
noncomputable def c24:FD:=⟨2,2,.cons (.iff (.cmp .ne (.call 21 (.cons (.var 0) (.cons (.var 1) .nil))) (.cst (.str [78,65,77,69]))) (.cons (.raise 1 (.cons (.cst (.str [97,32,110,97,109,101,32,105,115,32,109,105,115,115,105,110,103])) .nil)) .nil) .nil) (.cons (.ret (.tup (.cons (.idx (.idx (.var 0) (.var 1)) (.cst (.int 1))) (.cons (.bin .add (.var 1) (.cst (.int 1))) .nil)))) .nil)⟩
noncomputable def c25:FD:=⟨2,2,.cons (.iff (.cmp .ne (.call 21 (.cons (.var 0) (.cons (.var 1) .nil))) (.cst (.str [73,78,84]))) (.cons (.raise 1 (.cons (.cst (.str [97,32,119,104,111,108,101,32,110,117,109,98,101,114,32,105,115,32,109,105,115,115,105,110,103])) .nil)) .nil) .nil) (.cons (.ret (.tup (.cons (.idx (.idx (.var 0) (.var 1)) (.cst (.int 1))) (.cons (.bin .add (.var 1) (.cst (.int 1))) .nil)))) .nil)⟩
noncomputable def c26:FD:=⟨2,4,.cons (.asg 2 (.cst (.int 0))) (.cons (.forr 3 (.var 1) (.bi .len (.cons (.var 0) .nil)) (.cons (.iff (.call 22 (.cons (.var 0) (.cons (.var 3) (.cons (.cst (.str [40])) .nil)))) (.cons (.aug 2 .add (.cst (.int 1))) .nil) (.cons (.iff (.call 22 (.cons (.var 0) (.cons (.var 3) (.cons (.cst (.str [41])) .nil)))) (.cons (.aug 2 .sub (.cst (.int 1))) (.cons (.iff (.cmp .eq (.var 2) (.cst (.int 0))) (.cons (.ret (.var 3)) .nil) .nil) .nil)) .nil) .nil)) .nil)) (.cons (.raise 1 (.cons (.cst (.str [97,32,98,114,97,99,107,101,116,32,105,115,32,110,111,116,32,99,108,111,115,101,100])) .nil)) .nil))⟩
noncomputable def c27:FD:=⟨2,2,.cons (.iff (.cmp .ne (.call 21 (.cons (.var 0) (.cons (.var 1) .nil))) (.cst (.str [79,80]))) (.cons (.ret (.cst (.int 0))) .nil) .nil) (.cons (.ret (.me .get (.cst (.tab 2)) (.cons (.idx (.idx (.var 0) (.var 1)) (.cst (.int 1))) (.cons (.cst (.int 0)) .nil)))) .nil)⟩
noncomputable def c28:FD:=⟨2,2,.cons (.ret (.call 29 (.cons (.var 0) (.cons (.var 1) (.cons (.cst (.int 1)) .nil))))) .nil⟩
noncomputable def c29:FD:=⟨3,8,.cons (.asgT [3,1] (.call 30 (.cons (.var 0) (.cons (.var 1) (.cons (.var 2) .nil))))) (.cons (.asg 4 (.cst (.bool false))) (.cons (.whl (.cmp .ge (.call 27 (.cons (.var 0) (.cons (.var 1) .nil))) (.var 2)) (.cons (.asg 5 (.call 27 (.cons (.var 0) (.cons (.var 1) .nil)))) (.cons (.asg 6 (.idx (.idx (.var 0) (.var 1)) (.cst (.int 1)))) (.cons (.iff (.bool true (.cons (.cmp .eq (.var 5) (.cst (.int 5))) (.cons (.var 4) .nil))) (.cons (.raise 1 (.cons (.cst (.str [97,32,114,101,108,97,116,105,111,110,32,98,101,104,105,110,100,32,97,32,114,101,108,97,116,105,111,110])) .nil)) .nil) .nil) (.cons (.iff (.cmp .eq (.var 5) (.cst (.int 9))) (.cons (.asgT [7,1] (.call 29 (.cons (.var 0) (.cons (.bin .add (.var 1) (.cst (.int 1))) (.cons (.cst (.int 9)) .nil))))) .nil) (.cons (.asgT [7,1] (.call 29 (.cons (.var 0) (.cons (.bin .add (.var 1) (.cst (.int 1))) (.cons (.bin .add (.var 5) (.cst (.int 1))) .nil))))) .nil)) (.cons (.asg 3 (.tup (.cons (.cst (.str [98,105,110])) (.cons (.var 6) (.cons (.var 3) (.cons (.var 7) .nil)))))) (.cons (.asg 4 (.cmp .eq (.var 5) (.cst (.int 5)))) .nil))))))) (.cons (.ret (.tup (.cons (.var 3) (.cons (.var 1) .nil)))) .nil)))⟩
noncomputable def c30:FD:=⟨3,5,.cons (.iff (.call 22 (.cons (.var 0) (.cons (.var 1) (.cons (.cst (.str [46,78,79,84,46])) .nil)))) (.cons (.iff (.cmp .gt (.var 2) (.cst (.int 4))) (.cons (.raise 1 (.cons (.cst (.str [46,78,79,84,46,32,99,97,110,110,111,116,32,115,116,97,110,100,32,104,101,114,101])) .nil)) .nil) .nil) (.cons (.asgT [3,1] (.call 29 (.cons (.var 0) (.cons (.bin .add (.var 1) (.cst (.int 1))) (.cons (.bin .add (.cst (.int 4)) (.cst (.int 1))) .nil))))) (.cons (.ret (.tup (.cons (.tup (.cons (.cst (.str [117,110])) (.cons (.cst (.str [46,78,79,84,46])) (.cons (.var 3) .nil)))) (.cons (.var 1) .nil)))) .nil))) .nil) (.cons (.iff (.bool false (.cons (.call 22 (.cons (.var 0) (.cons (.var 1) (.cons (.cst (.str [43])) .nil)))) (.cons (.call 22 (.cons (.var 0) (.cons (.var 1) (.cons (.cst (.str [45])) .nil)))) .nil))) (.cons (.iff (.cmp .gt (.var 2) (.cst (.int 7))) (.cons (.raise 1 (.cons (.cst (.str [97,32,115,105,103,110,32,99,97,110,110,111,116,32,115,116,97,110,100,32,104,101,114,101])) .nil)) .nil) .nil) (.cons (.asg 4 (.idx (.idx (.var 0) (.var 1)) (.cst (.int 1)))) (.cons (.asgT [3,1] (.call 29 (.cons (.var 0) (.cons (.bin .add (.var 1) (.cst (.int 1))) (.cons (.bin .add (.cst (.int 7)) (.cst (.int 1))) .nil))))) (.cons (.ret (.tup (.cons (.tup (.cons (.cst (.str [117,110])) (.cons (.var 4) (.cons (.var 3) .nil)))) (.cons (.var 1) .nil)))) .nil)))) .nil) (.cons (.ret (.call 31 (.cons (.var 0) (.cons (.var 1) .nil)))) .nil))⟩
noncomputable def c31:FD:=⟨2,3,.cons (.asg 2 (.call 21 (.cons (.var 0) (.cons (.var 1) .nil)))) (.cons (.iff (.cmp .eq (.var 2) (.cst (.str [78,65,77,69]))) (.cons (.ret (.call 37 (.cons (.var 0) (.cons (.var 1) .nil)))) .nil) .nil) (.cons (.iff (.bool true (.cons (.cmp .eq (.var 2) (.cst (.str [79,80]))) (.cons (.cmp .eq (.idx (.idx (.var 0) (.var 1)) (.cst (.int 1))) (.cst (.str [40]))) .nil))) (.cons (.ret (.call 33 (.cons (.var 0) (.cons (.var 1) .nil)))) .nil) .nil) (.cons (.iff (.bool false (.cons (.cmp .eq (.var 2) (.cst (.str []))) (.cons (.cmp .eq (.var 2) (.cst (.str [79,80]))) .nil))) (.cons (.raise 1 (.cons (.cst (.str [97,110,32,111,112,101,114,97,110,100,32,105,115,32,109,105,115,115,105,110,103])) .nil)) .nil) .nil) (.cons (.ret (.tup (.cons (.call 32 (.cons (.var 2) (.cons (.idx (.idx (.var 0) (.var 1)) (.cst (.int 1))) (.cons (.cst (.int 1)) .nil)))) (.cons (.bin .add (.var 1) (.cst (.int 1))) .nil)))) .nil))))⟩
noncomputable def c32:FD:=⟨3,3,.cons (.iff (.cmp .eq (.var 0) (.cst (.str [73,78,84]))) (.cons (.ret (.tup (.cons (.cst (.str [105,110,116])) (.cons (.bin .mul (.var 2) (.var 1)) .nil)))) .nil) .nil) (.cons (.iff (.cmp .eq (.var 0) (.cst (.str [82,69,65,76]))) (.cons (.ret (.tup (.cons (.cst (.str [114,101,97,108])) (.cons (.bin .mul (.var 2) (.idx (.var 1) (.cst (.int 0)))) (.cons (.idx (.var 1) (.cst (.int 1))) .nil))))) .nil) .nil) (.cons (.iff (.cmp .eq (.var 0) (.cst (.str [68,66,76,69]))) (.cons (.ret (.tup (.cons (.cst (.str [100,98,108,101])) (.cons (.bin .mul (.var 2) (.idx (.var 1) (.cst (.int 0)))) (.cons (.idx (.var 1) (.cst (.int 1))) .nil))))) .nil) .nil) (.cons (.iff (.cmp .eq (.var 0) (.cst (.str [76,79,71]))) (.cons (.ret (.tup (.cons (.cst (.str [108,111,103])) (.cons (.var 1) .nil)))) .nil) .nil) (.cons (.ret (.tup (.cons (.cst (.str [99,104,97,114])) (.cons (.var 1) .nil)))) .nil))))⟩
noncomputable def c33:FD:=⟨2,7,.cons (.iff (.call 35 (.cons (.var 0) (.cons (.var 1) .nil))) (.cons (.asgT [2,3] (.call 36 (.cons (.var 0) (.cons (.bin .add (.var 1) (.cst (.int 1))) .nil)))) (.cons (.asgT [4,5] (.call 36 (.cons (.var 0) (.cons (.bin .add (.var 3) (.cst (.int 1))) .nil)))) (.cons (.ret (.tup (.cons (.tup (.cons (.cst (.str [99,112,108,120])) (.cons (.var 2) (.cons (.var 4) .nil)))) (.cons (.call 23 (.cons (.var 0) (.cons (.var 5) (.cons (.cst (.str [41])) .nil)))) .nil)))) .nil))) .nil) (.cons (.asgT [6,1] (.call 28 (.cons (.var 0) (.cons (.bin .add (.var 1) (.cst (.int 1))) .nil)))) (.cons (.ret (.tup (.cons (.var 6) (.cons (.call 23 (.cons (.var 0) (.cons (.var 1) (.cons (.cst (.str [41])) .nil)))) .nil)))) .nil))⟩
noncomputable def c34:FD:=⟨2,2,.cons (.iff (.bool false (.cons (.call 22 (.cons (.var 0) (.cons (.var 1) (.cons (.cst (.str [43])) .nil)))) (.cons (.call 22 (.cons (.var 0) (.cons (.var 1) (.cons (.cst (.str [45])) .nil)))) .nil))) (.cons (.aug 1 .add (.cst (.int 1))) .nil) .nil) (.cons (.iff (.bool false (.cons (.cmp .eq (.call 21 (.cons (.var 0) (.cons (.var 1) .nil))) (.cst (.str [73,78,84]))) (.cons (.cmp .eq (.call 21 (.cons (.var 0) (.cons (.var 1) .nil))) (.cst (.str [82,69,65,76]))) .nil))) (.cons (.ret (.bin .add (.var 1) (.cst (.int 1)))) .nil) .nil) (.cons (.ret (.neg (.cst (.int 1)))) .nil))⟩
noncomputable def c35:FD:=⟨2,4,.cons (.asg 2 (.call 34 (.cons (.var 0) (.cons (.bin .add (.var 1) (.cst (.int 1))) .nil)))) (.cons (.iff (.bool false (.cons (.cmp .lt (.var 2) (.cst (.int 0))) (.cons (.not (.call 22 (.cons (.var 0) (.cons (.var 2) (.cons (.cst (.str [44])) .nil))))) .nil))) (.cons (.ret (.cst (.bool false))) .nil) .nil) (.cons (.asg 3 (.call 34 (.cons (.var 0) (.cons (.bin .add (.var 2) (.cst (.int 1))) .nil)))) (.cons (.ret (.bool true (.cons (.cmp .ge (.var 3) (.cst (.int 0))) (.cons (.call 22 (.cons (.var 0) (.cons (.var 3) (.cons (.cst (.str [41])) .nil)))) .nil)))) .nil)))⟩
noncomputable def c36:FD:=⟨2,3,.cons (.asg 2 (.cst (.int 1))) (.cons (.iff (.call 22 (.cons (.var 0) (.cons (.var 1) (.cons (.cst (.str [45])) .nil)))) (.cons (.asg 2 (.neg (.cst (.int 1)))) .nil) .nil) (.cons (.iff (.cmp .eq (.call 21 (.cons (.var 0) (.cons (.var 1) .nil))) (.cst (.str [79,80]))) (.cons (.aug 1 .add (.cst (.int 1))) .nil) .nil) (.cons (.ret (.tup (.cons (.call 32 (.cons (.idx (.idx (.var 0) (.var 1)) (.cst (.int 0))) (.cons (.idx (.idx (.var 0) (.var 1)) (.cst (.int 1))) (.cons (.var 2) .nil)))) (.cons (.bin .add (.var 1) (.cst (.int 1))) .nil)))) .nil)))⟩
noncomputable def c37:FD:=⟨2,5,.cons (.asgT [2,1] (.call 24 (.cons (.var 0) (.cons (.var 1) .nil)))) (.cons (.asg 3 (.tup (.cons (.cst (.str [110,97,109,101])) (.cons (.var 2) .nil)))) (.cons (.iff (.not (.call 22 (.cons (.var 0) (.cons (.var 1) (.cons (.cst (.str [40])) .nil))))) (.cons (.ret (.tup (.cons (.var 3) (.cons (.var 1) .nil)))) .nil) .nil) (.cons (.iff (.not (.call 38 (.cons (.var 0) (.cons (.var 1) .nil)))) (.cons (.asgT [4,1] (.call 40 (.cons (.var 0) (.cons (.var 1) (.cons (.cst (.bool false)) .nil))))) (.cons (.asg 3 (.tup (.cons (.cst (.str [114,101,102])) (.cons (.var 2) (.cons (.var 4) .nil))))) .nil)) .nil) (.cons (.iff (.call 22 (.cons (.var 0) (.cons (.var 1) (.cons (.cst (.str [40])) .nil)))) (.cons (.ret (.call 39 (.cons (.var 0) (.cons (.var 1) (.cons (.var 3) .nil))))) .nil) .nil) (.cons (.ret (.tup (.cons (.var 3) (.cons (.var 1) .nil)))) .nil)))))⟩
noncomputable def c38:FD:=⟨2,5,.cons (.asg 2 (.call 26 (.cons (.var 0) (.cons (.var 1) .nil)))) (.cons (.asg 3 (.cst (.int 0))) (.cons (.forr 4 (.bin .add (.var 1) (.cst (.int 1))) (.var 2) (.cons (.iff (.call 22 (.cons (.var 0) (.cons (.var 4) (.cons (.cst (.str [40])) .nil)))) (.cons (.aug 3 .add (.cst (.int 1))) .nil) (.cons (.iff (.call 22 (.cons (.var 0) (.cons (.var 4) (.cons (.cst (.str [41])) .nil)))) (.cons (.aug 3 .sub (.cst (.int 1))) .nil) (.cons (.iff (.bool true (.cons (.cmp .eq (.var 3) (.cst (.int 0))) (.cons (.call 22 (.cons (.var 0) (.cons (.var 4) (.cons (.cst (.str [58])) .nil)))) .nil))) (.cons (.ret (.cst (.bool true))) .nil) .nil) .nil)) .nil)) .nil)) (.cons (.ret (.cst (.bool false))) .nil)))⟩
noncomputable def c39:FD:=⟨3,5,.cons (.asg 1 (.call 23 (.cons (.var 0) (.cons (.var 1) (.cons (.cst (.str [40])) .nil))))) (.cons (.asg 3 (.cst .none)) (.cons (.asg 4 (.cst .none)) (.cons (.iff (.not (.call 22 (.cons (.var 0) (.cons (.var 1) (.cons (.cst (.str [58])) .nil))))) (.cons (.asgT [3,1] (.call 28 (.cons (.var 0) (.cons (.var 1) .nil)))) .nil) .nil) (.cons (.asg 1 (.call 23 (.cons (.var 0) (.cons (.var 1) (.cons (.cst (.str [58])) .nil))))) (.cons (.iff (.not (.call 22 (.cons (.var 0) (.cons (.var 1) (.cons (.cst (.str [41])) .nil))))) (.cons (.asgT [4,1] (.call 28 (.cons (.var 0) (.cons (.var 1) .nil)))) .nil) .nil) (.cons (.ret (.tup (.cons (.tup (.cons (.cst (.str [115,117,98])) (.cons (.var 2) (.cons (.var 3) (.cons (.var 4) .nil))))) (.cons (.call 23 (.cons (.var 0) (.cons (.var 1) (.cons (.cst (.str [41])) .nil)))) .nil)))) .nil))))))⟩
noncomputable def c40:FD:=⟨3,6,.cons (.asg 1 (.call 23 (.cons (.var 0) (.cons (.var 1) (.cons (.cst (.str [40])) .nil))))) (.cons (.asg 3 (.lst .nil)) (.cons (.iff (.call 22 (.cons (.var 0) (.cons (.var 1) (.cons (.cst (.str [41])) .nil)))) (.cons (.ret (.tup (.cons (.var 3) (.cons (.bin .add (.var 1) (.cst (.int 1))) .nil)))) .nil) .nil) (.cons (.whl (.cst (.bool true)) (.cons (.iff (.bool true (.cons (.var 2) (.cons (.call 22 (.cons (.var 0) (.cons (.var 1) (.cons (.cst (.str [42])) .nil)))) .nil))) (.cons (.asgT [4,1] (.call 25 (.cons (.var 0) (.cons (.bin .add (.var 1) (.cst (.int 1))) .nil)))) (.cons (.exp (.me .append (.var 3) (.cons (.tup (.cons (.cst (.str [97,108,116])) (.cons (.var 4) .nil))) .nil))) .nil)) (.cons (.asgT [5,1] (.call 28 (.cons (.var 0) (.cons (.var 1) .nil)))) (.cons (.exp (.me .append (.var 3) (.cons (.var 5) .nil))) .nil))) (.cons (.iff (.not (.call 22 (.cons (.var 0) (.cons (.var 1) (.cons (.cst (.str [44])) .nil))))) (.cons (.ret (.tup (.cons (.var 3) (.cons (.call 23 (.cons (.var 0) (.cons (.var 1) (.cons (.cst (.str [41])) .nil)))) .nil)))) .nil) .nil) (.cons (.aug 1 .add (.cst (.int 1))) .nil)))) .nil)))⟩
noncomputable def c41:FD:=⟨1,3,.cons (.asgT [1,2] (.call 28 (.cons (.var 0) (.cons (.cst (.int 0)) .nil)))) (.cons (.iff (.cmp .lt (.var 2) (.bi .len (.cons (.var 0) .nil))) (.cons (.raise 1 (.cons (.cst (.str [115,111,109,101,116,104,105,110,103,32,98,101,104,105,110,100,32,97,110,32,101,120,112,114,101,115,115,105,111,110])) .nil)) .nil) .nil) (.cons (.ret (.var 1)) .nil))⟩
noncomputable def c42:FD:=⟨0,0,.cons (.ret (.lst (.cons (.cst (.str [43])) (.cons (.cst (.str [45])) (.cons (.cst (.str [42])) (.cons (.cst (.str [47])) (.cons (.cst (.str [42,42])) (.cons (.cst (.str [47,47])) (.cons (.cst (.str [46,69,81,46])) (.cons (.cst (.str [46,76,84,46])) (.cons (.cst (.str [46,65,78,68,46])) (.cons (.cst (.str [46,79,82,46])) (.cons (.cst (.str [46,69,81,86,46])) (.cons (.cst (.str [46,78,69,81,86,46])) (.cons (.cst (.str [46,71,69,46])) (.cons (.cst (.str [42,42])) (.cons (.cst (.str [45])) (.cons (.cst (.str [42])) .nil)))))))))))))))))) .nil⟩
noncomputable def c43:FD:=⟨0,0,.cons (.ret (.lst (.cons (.cst (.str [65])) (.cons (.cst (.str [88,49])) (.cons (.cst (.str [90,69,66,82,65,57])) (.cons (.cst (.str [69,53])) (.cons (.cst (.str [68,50])) (.cons (.cst (.str [69,81])) .nil)))))))) .nil⟩
noncomputable def c44:FD:=⟨0,0,.cons (.ret (.lst (.cons (.cst (.str [])) (.cons (.cst (.str [65])) (.cons (.cst (.str [73,84,39,83])) (.cons (.cst (.str [39,39])) (.cons (.cst (.str [32,88,32])) (.cons (.cst (.str [40])) (.cons (.cst (.str [46,69,81,46])) (.cons (.cst (.str [61,44])) .nil)))))))))) .nil⟩
noncomputable def c45:FD:=⟨2,3,.cons (.asg 2 (.idx (.var 0) (.cst (.int 1)))) (.cons (.put (.var 0) (.cst (.int 1)) (.bin .add (.var 2) (.cst (.int 1)))) (.cons (.iff (.cmp .lt (.var 2) (.bi .len (.cons (.idx (.var 0) (.cst (.int 0))) .nil))) (.cons (.ret (.bin .mod (.idx (.idx (.var 0) (.cst (.int 0))) (.var 2)) (.var 1))) .nil) .nil) (.cons (.ret (.bin .mod (.bin .add (.bin .add (.bin .mul (.var 2) (.var 2)) (.bin .mul (.cst (.int 5)) (.var 2))) (.cst (.int 9))) (.var 1))) .nil)))⟩
noncomputable def c46:FD:=⟨1,3,.cons (.asg 1 (.call 45 (.cons (.var 0) (.cons (.cst (.int 5000)) .nil)))) (.cons (.asg 2 (.bin .sub (.call 45 (.cons (.var 0) (.cons (.cst (.int 41)) .nil))) (.cst (.int 20)))) (.cons (.iff (.cmp .eq (.var 1) (.cst (.int 0))) (.cons (.ret (.tup (.cons (.cst (.int 0)) (.cons (.cst (.int 0)) .nil)))) .nil) .nil) (.cons (.whl (.cmp .eq (.bin .mod (.var 1) (.cst (.int 10))) (.cst (.int 0))) (.cons (.asg 1 (.bin .div (.var 1) (.cst (.int 10)))) (.cons (.asg 2 (.bin .add (.var 2) (.cst (.int 1)))) .nil))) (.cons (.ret (.tup (.cons (.var 1) (.cons (.var 2) .nil)))) .nil))))⟩
noncomputable def c47:FD:=⟨1,4,.cons (.asg 1 (.bin .sub (.cst (.int 1)) (.bin .mul (.cst (.int 2)) (.call 45 (.cons (.var 0) (.cons (.cst (.int 2)) .nil)))))) (.cons (.iff (.cmp .eq (.call 45 (.cons (.var 0) (.cons (.cst (.int 2)) .nil))) (.cst (.int 0))) (.cons (.ret (.tup (.cons (.cst (.str [105,110,116])) (.cons (.bin .mul (.var 1) (.call 45 (.cons (.var 0) (.cons (.cst (.int 30)) .nil)))) .nil)))) .nil) .nil) (.cons (.asgT [2,3] (.call 46 (.cons (.var 0) .nil))) (.cons (.ret (.tup (.cons (.cst (.str [114,101,97,108])) (.cons (.bin .mul (.var 1) (.var 2)) (.cons (.var 3) .nil))))) .nil)))⟩
noncomputable def c48:FD:=⟨2,5,.cons (.iff (.cmp .eq (.var 1) (.cst (.int 1))) (.cons (.ret (.tup (.cons (.cst (.str [105,110,116])) (.cons (.call 45 (.cons (.var 0) (.cons (.bin .pow (.cst (.int 10)) (.cst (.int 12))) .nil))) .nil)))) .nil) .nil) (.cons (.iff (.bool false (.cons (.cmp .eq (.var 1) (.cst (.int 2))) (.cons (.cmp .eq (.var 1) (.cst (.int 3))) .nil))) (.cons (.asgT [2,3] (.call 46 (.cons (.var 0) .nil))) (.cons (.ret (.tup (.cons (.idx (.lst (.cons (.cst (.str [114,101,97,108])) (.cons (.cst (.str [100,98,108,101])) .nil))) (.bin .sub (.var 1) (.cst (.int 2)))) (.cons (.var 2) (.cons (.var 3) .nil))))) .nil)) .nil) (.cons (.iff (.cmp .eq (.var 1) (.cst (.int 4))) (.cons (.ret (.tup (.cons (.cst (.str [108,111,103])) (.cons (.cmp .eq (.call 45 (.cons (.var 0) (.cons (.cst (.int 2)) .nil))) (.cst (.int 1))) .nil)))) .nil) .nil) (.cons (.iff (.cmp .eq (.var 1) (.cst (.int 5))) (.cons (.ret (.tup (.cons (.cst (.str [99,104,97,114])) (.cons (.idx (.call 44 .nil) (.call 45 (.cons (.var 0) (.cons (.cst (.int 8)) .nil)))) .nil)))) .nil) .nil) (.cons (.iff (.cmp .eq (.var 1) (.cst (.int 6))) (.cons (.asg 4 (.call 47 (.cons (.var 0) .nil))) (.cons (.ret (.tup (.cons (.cst (.str [99,112,108,120])) (.cons (.var 4) (.cons (.call 47 (.cons (.var 0) .nil)) .nil))))) .nil)) .nil) (.cons (.ret (.tup (.cons (.cst (.str [110,97,109,101])) (.cons (.idx (.call 43 .nil) (.call 45 (.cons (.var 0) (.cons (.cst (.int 6)) .nil)))) .nil)))) .nil)))))⟩
noncomputable def c49:FD:=⟨2,2,.cons (.iff (.cmp .eq (.call 45 (.cons (.var 0) (.cons (.cst (.int 2)) .nil))) (.cst (.int 0))) (.cons (.ret (.cst .none)) .nil) .nil) (.cons (.ret (.call 51 (.cons (.var 0) (.cons (.var 1) .nil)))) .nil)⟩
noncomputable def c51:FD:=⟨2,8,.cons (.asg 2 (.call 45 (.cons (.var 0) (.cons (.ite (.cmp .gt (.var 1) (.cst (.int 0))) (.cst (.int 16)) (.cst (.int 8))) .nil)))) (.cons (.iff (.cmp .lt (.var 2) (.cst (.int 8))) (.cons (.ret (.call 48 (.cons (.var 0) (.cons (.var 2) .nil)))) .nil) .nil) (.cons (.iff (.cmp .eq (.var 2) (.cst (.int 12))) (.cons (.asg 3 (.idx (.lst (.cons (.cst (.str [45])) (.cons (.cst (.str [43])) (.cons (.cst (.str [46,78,79,84,46])) .nil)))) (.call 45 (.cons (.var 0) (.cons (.cst (.int 3)) .nil))))) (.cons (.ret (.tup (.cons (.cst (.str [117,110])) (.cons (.var 3) (.cons (.call 51 (.cons (.var 0) (.cons (.bin .sub (.var 1) (.cst (.int 1))) .nil))) .nil))))) .nil)) .nil) (.cons (.iff (.cmp .eq (.var 2) (.cst (.int 13))) (.cons (.ret (.call 50 (.cons (.var 0) (.cons (.bin .sub (.var 1) (.cst (.int 1))) .nil)))) .nil) .nil) (.cons (.iff (.cmp .eq (.var 2) (.cst (.int 14))) (.cons (.asg 4 (.tup (.cons (.cst (.str [110,97,109,101])) (.cons (.idx (.call 43 .nil) (.call 45 (.cons (.var 0) (.cons (.cst (.int 6)) .nil)))) .nil)))) (.cons (.iff (.cmp .eq (.call 45 (.cons (.var 0) (.cons (.cst (.int 2)) .nil))) (.cst (.int 1))) (.cons (.asg 4 (.call 50 (.cons (.var 0) (.cons (.cst (.int 0)) .nil)))) .nil) .nil) (.cons (.asg 5 (.call 49 (.cons (.var 0) (.cons (.bin .sub (.var 1) (.cst (.int 1))) .nil)))) (.cons (.ret (.tup (.cons (.cst (.str [115,117,98])) (.cons (.var 4) (.cons (.var 5) (.cons (.call 49 (.cons (.var 0) (.cons (.bin .sub (.var 1) (.cst (.int 1))) .nil))) .nil)))))) .nil)))) .nil) (.cons (.asg 6 (.idx (.call 42 .nil) (.call 45 (.cons (.var 0) (.cons (.cst (.int 16)) .nil))))) (.cons (.asg 7 (.call 51 (.cons (.var 0) (.cons (.bin .sub (.var 1) (.cst (.int 1))) .nil)))) (.cons (.ret (.tup (.cons (.cst (.str [98,105,110])) (.cons (.var 6) (.cons (.var 7) (.cons (.call 51 (.cons (.var 0) (.cons (.bin .sub (.var 1) (.cst (.int 1))) .nil))) .nil)))))) .nil)))))))⟩
noncomputable def c52:FD:=⟨1,7,.cons (.asg 1 (.lst .nil)) (.cons (.asg 2 (.lst .nil)) (.cons (.asg 3 (.cst (.bool false))) (.cons (.forr 4 (.cst (.int 0)) (.bi .len (.cons (.var 0) .nil)) (.cons (.iff (.cmp .eq (.idx (.var 0) (.var 4)) (.cst (.str [39]))) (.cons (.asg 3 (.not (.var 3))) .nil) (.cons (.iff (.var 3) (.cons .cont .nil) (.cons (.iff (.cmp .eq (.idx (.var 0) (.var 4)) (.cst (.str [40]))) (.cons (.exp (.me .append (.var 2) (.cons (.lst (.cons (.var 4) (.cons (.bool false (.cons (.cmp .eq (.var 4) (.cst (.int 0))) (.cons (.not (.bool false (.cons (.me .isalnum (.idx (.var 0) (.bin .sub (.var 4) (.cst (.int 1)))) .nil) (.cons (.cmp .eq (.idx (.var 0) (.bin .sub (.var 4) (.cst (.int 1)))) (.cst (.str [41]))) .nil)))) .nil))) .nil))) .nil))) .nil) (.cons (.iff (.bool true (.cons (.cmp .eq (.idx (.var 0) (.var 4)) (.cst (.str [44]))) (.cons (.var 2) .nil))) (.cons (.put (.idx (.var 2) (.neg (.cst (.int 1)))) (.cst (.int 1)) (.cst (.bool false))) .nil) (.cons (.iff (.cmp .eq (.idx (.var 0) (.var 4)) (.cst (.str [41]))) (.cons (.asgT [5,6] (.me .pop (.var 2) .nil)) (.cons (.iff (.var 6) (.cons (.exp (.me .append (.var 1) (.cons (.tup (.cons (.var 5) (.cons (.var 4) .nil))) .nil))) .nil) .nil) .nil)) .nil) .nil)) .nil)) .nil)) .nil)) .nil)) (.cons (.ret (.var 1)) .nil))))⟩
noncomputable def fds:List (Option FD):=[some c0,some c1,some c2,some c3,some c4,some c5,some c6,some c7,some c8,some c9,some c10,some c11,none,some c13,some c14,none,some c16,some c17,some c18,some c19,some c20,some c21,some c22,some c23,some c24,some c25,some c26,some c27,some c28,some c29,some c30,some c31,some c32,some c33,some c34,some c35,some c36,some c37,some c38,some c39,some c40,some c41,some c42,some c43,some c44,some c45,some c46,some c47,some c48,some c49,none,some c51,some c52,none,none]
noncomputable def fdOf (k:Nat):Option FD:=(fds[k]?).join
theorem zj7:dnames=(["run_of","dotted_at","told_pair","power_at","number_at","quoted_at","name_at","point_at","token_at","tokens_of","zeros","show_pair","show_text","binding","within","list_row","list_number","list_constant","list_part","list_loop","list_expr","kind_at","is_op","need_op","need_name","need_int","close_at","priority_at","parse_expr","parse_binary","parse_first","parse_primary","constant_of","parse_bracket","part_end","is_complex","complex_part","parse_named","is_cut","parse_cut","parse_arguments","whole_expr","_law_ops","_law_names","_law_texts","_law_take","_law_pair","_law_part","_law_leaf","_law_end","_law_ref","_law_tree","_law_pairs","_law_read","law"]:List String).map Str.ofString:=by kernel_rfl
noncomputable def showP (args:List PV) (σ:za7):Out (PV × za7):=match args with
 | [a]=>(wj0 [some a] σ).bind fun q=>zh3 σ.length q.1 q.2.2
 | _=>.stuck
noncomputable def rowP (C:Nat→List PV→za7→Out (PV × za7)) (args:List PV) (σ:za7):Out (PV × za7):=match args with
 | [a]=>(rowX C 20 [some a] σ).bind fun q=>zh3 σ.length q.1 q.2.2
 | _=>.stuck
noncomputable def zc5 (N:Nat):Nat→Nat→List PV→za7→Out (PV × za7)
 | 0,_,_,_=>.stuck
 | d+1,k,args,σ=>if k=12 then showP args σ else if k=15 then rowP (zc5 N d) args σ else if k=50 then refP (zc5 N d) 43 45 51 args σ else match fdOf k with
  | some f=>yr6 (zc5 N d) N f args σ
  | none=>.stuck
theorem ye6 {N d k:Nat} {args:List PV} {σ:za7}:zc5 N (d+1) k args σ=if k=12 then showP args σ else if k=15 then rowP (zc5 N d) args σ else if k=50 then refP (zc5 N d) 43 45 51 args σ else match fdOf k with
  | some f=>yr6 (zc5 N d) N f args σ
  | none=>.stuck:=rfl
inductive ShowK (K:Frag) (f:Addr):Prop
 | mk (qual:Str) (scope:Scope) (cdv:Value) (k1 k2 k3 k4:Nat) (p1 p2 p3 p4 p5 p6 p7 p8 p9 p10:Pos) (D:DefK K f qual ["signs"] [.Return (some (.BinOp (.BinOp (.Constant (.str "'") k1 p1) .Add (.Call (.Attribute (.Name "signs" p2) "replace" p3) [.Constant (.str "'") k2 p4,.Constant (.str "''") k3 p5] [] p6) p7) .Add (.Constant (.str "'") k4 p8) p9)) p10] scope cdv)
 (hl:(p3.endLine == p6.line)=true) (hn:(nmOf scope).take 1=[("signs":Str)]) (hd:(nmOf scope).Nodup):ShowK K f
inductive RowK (K:Frag) (f:Addr):Prop
 | mk (qual:Str) (scope:Scope) (cdv:Value) (k1:Nat) (p1 p2 p3 p4 q1 q2 q3 q4 q5 q6:Pos) (cscope:Scope) (D:DefK K f qual ["trees"] [.Return (some (.Call (.Attribute (.Constant (.str ",") k1 p1) "join" p2) [.ListComp (.Call (.Name "list_expr" q1) [.Name "tree" q2] [] q3) [⟨.Name "tree" q4,.Name "trees" q5,[],0⟩] cscope q6] [] p3)) p4] scope cdv)
 (hl:(p2.endLine == p3.line)=true) (hn:(nmOf scope).take 1=[("trees":Str)]) (hd:(nmOf scope).Nodup) (hc:cscope.names=[((".0":Str),.local),("tree",.local),("list_expr",.globalImplicit)]) (hk:cscope.kind=.function):RowK K f
structure DefsK (Γ:GC):Prop where
 plain:∀ k f,fdOf k=some f→DefC Γ k f
 shw:ShowK Γ.KF (Γ.fa 12)
 row:RowK Γ.KF (Γ.fa 15)
 ref:RefK Γ.KF (Γ.fa 50)
theorem wc7 {Γ:GC} (gok:Γ.Ok) (ek:ExcK Γ) (D:DefsK Γ) (N:Nat):∀ (d:Nat) (c:FC),c.Ok Γ→c.dp+d+11 < recursionLimit→c.un+3 * d+101 < cLine→zn3 Γ c (zc5 N d):=by
 intro d
 induction d with
 | zero=>intro c cok h1 h2 f args env σ h tk news ls vs Q I ra hp; exact hp.elim
 | succ d ih =>
  intro c cok h1 h2 k args env σ h tk news ls vs Q I ra hp
  have ih':∀ c':FC,c'.Ok Γ→c'.dp=c.dp+1→c'.un=c.un+3→zn3 Γ c' (zc5 N d):=fun c' ok' e1 e2=>ih c' ok' (by exact j0 h1 e1) (by exact j400 h2 e2)
  rw [ye6] at hp
  split at hp
  ·rename_i hk
   subst hk
   obtain ⟨qual,scope,cdv,k1,k2,k3,k4,p1,p2,p3,p4,p5,p6,p7,p8,p9,p10,DK,hline,hnm,hnd⟩:=D.shw
   match args,ra with
   | [a],ra =>
    refine yh4 gok cok (X:=wj0) (nl:=0) DK hnm hnd (by exact j1 h1) (by exact j2 h2) (fun c' cok' _ _ hcs hcn _ _=>?_) rfl I ra hp
    refine sx_show cok' hline ?_ (by rw [hcs]; exact DK.loc _ (.head _))
    rw [hcn]
    have:=congrArg (fun (l:List Str)=>l[0]?) hnm
    simpa using this
   | [],_=>exact hp.elim
   | _::_::_,_=>exact hp.elim
  ·split at hp
   ·rename_i hk
    subst hk
    obtain ⟨qual,scope,cdv,k1,p1,p2,p3,p4,q1,q2,q3,q4,q5,q6,cscope,DK,hline,hnm,hnd,hcn,hck⟩:=D.row
    match args,ra with
    | [a],ra =>
     refine yh4 gok cok (X:=rowX (zc5 N d) 20) (nl:=0) DK hnm hnd (by exact j1 h1) (by exact j2 h2) (fun c' cok' e1 e2 hcs hcn' _ _=>?_) rfl I ra hp
     refine sx_row gok cok' (ih' c'.still (FC.still_ok cok') e1 e2) (by rw [zj7]; decide +kernel) hline ?_ (by rw [hcs]; exact DK.loc _ (.head _)) hcn hck
     rw [hcn']
     have:=congrArg (fun (l:List Str)=>l[0]?) hnm
     simpa using this
    | [],_=>exact hp.elim
    | _::_::_,_=>exact hp.elim
   ·split at hp
    ·rename_i hk
     subst hk
     exact call_ref gok cok (by rw [zj7]; decide +kernel) (by rw [zj7]; decide +kernel) (by rw [zj7]; decide +kernel) D.ref (by exact j1 h1) (by exact j2 h2) ih' I ra hp
    ·split at hp
     ·rename_i f hf
      exact call_def gok ek cok (D.plain k f hf) (by exact j1 h1) (by exact j2 h2) ih' I ra hp
     ·exact hp.elim
end Mine
namespace Mine
set_option tactic.hygienic false
open PySem PySem.W PySem.Calls PyProof.Rows
noncomputable def taF:Nat→Option Addr
 | 0=>some 159
 | 1=>some 176
 | 2=>some 276
 | _=>none
noncomputable def isNo:Value→Bool
 | .none=>true
 | _=>false
noncomputable def asB:Value→Option Bool
 | .bool b=>some b
 | _=>none
noncomputable def asI:Value→Option Int
 | .int i _=>some i
 | _=>none
noncomputable def asS:Value→Option Str
 | .str x _=>some x
 | _=>none
noncomputable def asR:Value→Option Addr
 | .ref a=>some a
 | _=>none
noncomputable def asQ:Data→Option (Array Value × Nat)
 | .seq l n=>some (l,n)
 | _=>none
theorem isNo_ok {v:Value} (h:isNo v=true):v=.none:=by cases v <;> first | rfl | exact nb h
theorem asB_ok {v:Value} {b:Bool} (h:asB v=some b):v=.bool b:=by cases v with | bool _=>cases h; rfl | _=>exact nn h
theorem asI_ok {v:Value} {i:Int} (h:asI v=some i):∃ t,v=.int i t:=by cases v with | int _ t=>cases h; exact ⟨t,rfl⟩ | _=>exact nn h
theorem asS_ok {v:Value} {x:Str} (h:asS v=some x):∃ t,v=.str x t:=by cases v with | str _ t=>cases h; exact ⟨t,rfl⟩ | _=>exact nn h
theorem asR_ok {v:Value} {a:Addr} (h:asR v=some a):v=.ref a:=by cases v with | ref _=>cases h; rfl | _=>exact nn h
theorem asQ_ok {d:Data} {q:Array Value × Nat} (h:asQ d=some q):d=.seq q.1 q.2:=by cases d with | seq _ _=>cases h; rfl | _=>exact nn h
noncomputable def tupAt (K:Frag) (a:Addr):Option (List Value):=(K.lookup a).bind fun o=>(asQ o.data).bind fun q=>if o.cls=.type "tuple"∧o.dict=none∧o.slots=#[] then some q.1.toList else none
theorem tupAt_ok {K:Frag} {a:Addr} {l:List Value} (h:tupAt K a=some l):∃ n,K.lookup a=some (tupO l n):=by
 refine obC h fun o ho h=>obC h fun q hq h=>ifC h fun hc h=>?_
 cases h
 obtain ⟨c,dd,dat,sl⟩:=o
 obtain ⟨h1,h2,h3⟩:=hc
 cases h1; cases h2; cases h3
 have:=asQ_ok hq
 cases this
 exact ⟨q.2,ho⟩
mutual
noncomputable def repK (K:Frag) (ta:Nat→Option Addr):Nat→Value→PV→Option Unit
 | 0,_,_=>none
 | f+1,v,d=>match d with
  | .none=>if isNo v=true then some () else none
  | .bool b=>(asB v).bind fun a=>if a=b then some () else none
  | .int j=>(asI v).bind fun i=>if i=j then some () else none
  | .str s=>(asS v).bind fun x=>if x.cps.toList=s∧s.all (fun c=>decide (c < 128))=true then some () else none
  | .tup ds=>(asR v).bind fun a=>(tupAt K a).bind fun l=>repsK K ta f l ds
  | .tab k=>(asR v).bind fun a=>if ta k=some a then some () else none
  | _=>none
noncomputable def repsK (K:Frag) (ta:Nat→Option Addr):Nat→List Value→List PV→Option Unit
 | 0,_,_=>none
 | f+1,vs,ds=>match vs with
  | []=>if ds.isEmpty=true then some () else none
  | v::vs=>match ds with
   | []=>none
   | d::ds=>(repK K ta f v d).bind fun _=>repsK K ta f vs ds
end
theorem rep_ok {K:Frag} {ta:Nat→Option Addr} {base:Heap} (X:K.In base):∀ n,(∀ v d,repK K ta n v d=some ()→RepV base ta [] [] v d)∧(∀ vs ds,repsK K ta n vs ds=some ()→RepA base ta [] [] vs ds):=by
 intro n
 induction n with
 | zero=>exact ⟨fun v d h=>nn h,fun vs ds h=>nn h⟩
 | succ n ih =>
  refine ⟨fun v d h=>?_,fun vs ds h=>?_⟩
  ·cases d with
   | none=>exact ifC h fun q _=>isNo_ok q ▸ .none
   | bool b=>exact obC h fun a ha h=>ifC h fun q _=>q ▸ asB_ok ha ▸ .bool _
   | int j=>exact obC h fun a ha h=>ifC h fun q _=>(asI_ok ha).elim fun t e=>q ▸ e ▸ .int _ _
   | str s=>exact obC h fun a ha h=>ifC h fun q _=>(asS_ok ha).elim fun t e=>e ▸ .str _ _ q.1 fun d hd=>of_decide_eq_true (List.all_eq_true.mp q.2 d hd)
   | tup ds=>exact obC h fun a ha h=>obC h fun l hl h=>(tupAt_ok hl).elim fun m e=>asR_ok ha ▸ .tup (.inr (X _ _ e)) (ih.2 _ _ h)
   | tab k=>exact obC h fun a ha h=>ifC h fun q _=>asR_ok ha ▸ .tab q
   | _=>exact nn h
  ·cases vs with
   | nil =>
    cases ds with
    | nil=>exact .nil
    | cons _ _=>exact nn h
   | cons v vs =>
    cases ds with
    | nil=>exact nn h
    | cons d ds=>exact obC h fun _ h1 h=>.cons (ih.1 _ _ h1) (ih.2 _ _ h)
noncomputable def nsV (K:Frag) (x:Str):Option Value:=(nsIn K mainGlobals x).bind id
theorem nsV_ok {K:Frag} {x:Str} {v:Value} (h:nsV K x=some v):nsIn K mainGlobals x=some (some v):=obC h fun _ ha e=>ha.trans (congrArg some e)
noncomputable def constsB (K:Frag):Bool:=consts.all fun x=>((nsV K x.1).bind fun v=>repK K taF 40 v x.2).isSome
theorem yk4 {β:Type} {x:Str} {v:β}:∀ {l:List (Str × β)},l.lookup x=some v→(x,v)∈l
 | [],h=>by simp at h
 | (y,w)::r,h=>by
  rw [List.lookup_cons] at h
  split at h
  ·rename_i q
   rw [beq_iff_eq.mp q]
   cases h; exact .head _
  ·exact .tail _ (yk4 h)
noncomputable def tabB (K:Frag) (f:Nat):List DictEntry→List (List Nat × PV)→Option Unit
 | [],l=>if l.isEmpty=true then some () else none
 | e::es,l=>match l with
  | []=>none
  | p::l=>(asS e.key).bind fun x=>if x.cps.toList=p.1 then (repK K taF f e.val p.2).bind fun _=>tabB K f es l else none
inductive TabHas (base:Heap) (es:List DictEntry) (s:List Nat):Option PV→Prop
 | some {pv:PV} (e:DictEntry) (h:es.find? (·.key.isStr ⟨s.toArray⟩)=Option.some e) (r:RepV base taF [] [] e.val pv):TabHas base es s (Option.some pv)
 | none (h:es.find? (·.key.isStr ⟨s.toArray⟩)=Option.none) (r:es.any (·.refKey)=false):TabHas base es s Option.none
theorem tab_find {K:Frag} {base:Heap} (X:K.In base) {f:Nat} (s:List Nat) {es:List DictEntry}:∀ {l:List (List Nat × PV)},tabB K f es l=some ()→TabHas base es s (l.lookup s):=by
 induction es with
 | nil =>
  intro l h
  cases l with
  | nil=>exact .none rfl rfl
  | cons _ _=>exact nn h
 | cons e es ih =>
  intro l h
  cases l with
  | nil=>exact nn h
  | cons p l =>
   refine obC h fun x hx h6=>ifC h6 fun hk h7=>obC h7 fun _ hv h8=>?_
   obtain ⟨k,d⟩:=p
   obtain ⟨t,ht⟩:=asS_ok hx
   have ih:=ih h8
   have hk':x.cps.toList=k:=hk
   haveI hxx:x=⟨k.toArray⟩:=by rw [← hk']
   rw [List.lookup_cons]
   by_cases hs:s=k
   ·rw [beq_iff_eq.mpr hs]
    refine .some e ?_ ((rep_ok X f).1 _ _ hv)
    rw [List.find?_cons,ht,hxx,hs]
    rw [show (Value.str (⟨k.toArray⟩:Str) t).isStr ⟨k.toArray⟩=true from beq_iff_eq.mpr rfl]
   ·have hne:e.key.isStr (⟨s.toArray⟩:Str)=false:=by
     rw [ht,hxx]
     refine beq_eq_false_iff_ne.mpr fun q=>hs ?_
     haveI:=congrArg (fun x:Str=>x.cps.toList) q
     exact this.symm
    rw [beq_eq_false_iff_ne.mpr hs]
    refine (?_:TabHas base (e::es) s (l.lookup s))
    generalize l.lookup s=o at ih
    cases ih with
    | some e' h r=>exact .some e' (by rw [List.find?_cons,hne]; exact h) r
    | none h r=>exact .none (by rw [List.find?_cons,hne]; exact h) (by rw [List.any_cons,r,DictEntry.refKey,ht]; rfl)
noncomputable def addrs:List Addr:=[74,81,88,95,102,109,116,123,130,137,144,151,158,186,193,198,205,212,219,226,233,240,247,254,261,268,275,283,290,297,304,311,318,325,332,339,346,353,360,367,374,381,388,395,402,409,416,423,430,437,442,449,456,463,470]
noncomputable def faF (k:Nat):Addr:=addrs.getD k 74
noncomputable def caF:Nat→Addr
 | 0=>51
 | _=>63
theorem wa2:∀ {ns:List Str} {vs:List Value},vs.length=ns.length→∀ n∈ns,((ns.zip vs).lookup n).isNone=false
 | [],_,_,n,h=>by cases h
 | a::ns,[],h,n,_=>by cases h
 | a::ns,v::vs,h,n,hn=>by
  rw [List.zip_cons_cons,List.lookup_cons]
  by_cases e:n=a
  ·rw [e,beq_self_eq_true]; rfl
  ·rw [beq_eq_false_iff_ne.mpr e]
   exact wa2 (Nat.succ.inj h) n ((List.mem_cons.mp hn).resolve_left e)
theorem yx9 {α β:Type} {f g:α→Option β}:∀ {l:List α},(∀ x∈l,f x=g x)→l.filterMap f=l.filterMap g
 | [],_=>rfl
 | a::l,h=>by rw [List.filterMap_cons,List.filterMap_cons,h a (.head _),yx9 fun x hx=>h x (.tail _ hx)]
theorem zip_pick {ns:List Str} {vs:List Value} (h:vs.length=ns.length) (hd:ns.Nodup):ns.filterMap (fun n=>((ns.zip vs).lookup n).map (n,·))=ns.zip vs:=by
 induction ns generalizing vs with
 | nil=>rfl
 | cons a ns ih =>
  cases vs with
  | nil=>cases h
  | cons v vs =>
   have hd':=List.nodup_cons.mp hd
   rw [List.zip_cons_cons,List.filterMap_cons,List.lookup_cons,beq_self_eq_true]
   simp only [Option.map_some]
   have:∀ n∈ns,(((a,v)::ns.zip vs).lookup n).map (n,·)=((ns.zip vs).lookup n).map (n,·):=fun n hn=>by
    rw [List.lookup_cons,beq_eq_false_iff_ne.mpr (fun e=>hd'.1 (by rw [← e]; exact hn))]
   rw [yx9 this,ih (Nat.succ.inj h) hd'.2]
theorem iteF {α:Type} {c:Prop} [Decidable c] {a b r:α} (hc:¬ c) (h:b=r):(if c then a else b)=r:=(if_neg hc).trans h
theorem wd7 {name qual:Str} {as:List Arg} {kd:List (Option Expr)} {ds:List Expr} {body:List Stmt} {scope:Scope} {kV doc pm:Value} {an:Option Addr} {cdv ct:Value} {vs:List Value} (h:vs.length=(as.map (·.arg)).length) (hd:(as.map (·.arg)).Nodup) :
  bindArgs (fnOf name qual ⟨[],as,none,[],kd,none,ds⟩ body scope .none kV doc pm an cdv ct) ⟨vs,[]⟩=pure ((as.map (·.arg)).zip vs):=by
 have h1:((as.map (·.arg)).filter fun n=>(((as.map (·.arg)).zip vs).lookup n).isNone)=[]:=by
  rw [List.filter_eq_nil_iff]; intro n hn; rw [wa2 h n hn]; decide
 haveI h2:=zip_pick h hd
 have h3:¬ (vs.length > (as.map (·.arg)).length):=by rw [h]; exact Nat.lt_irrefl _
 refine iteF (fun q=>h3 (of_decide_eq_true (Bool.and_eq_true_iff.mp q).1)) ?_
 generalize hD:List.drop _ _=D
 obtain rfl:D=[]:=hD.symm.trans List.drop_nil
 have h5:(as.map (·.arg)).take (as.map (·.arg)).length=as.map (·.arg):=List.take_length
 refine iteF (fun q=>?_) ?_
 ·haveI q':(!(List.filter (fun n=>(((as.map (·.arg)).zip vs).lookup n).isNone) ((as.map (·.arg)).take (as.map (·.arg)).length)).isEmpty)=true:=q
  rw [h5,h1] at q'
  cases q'
 generalize hZ:List.zip _ _=Z
 obtain rfl:Z=[]:=hZ.symm.trans List.zip_nil_right
 refine Eq.trans (b:=pure (List.filterMap (fun n=>(((as.map (·.arg)).zip vs).lookup n).map (n,·)) (as.map (·.arg)++[]))) (by kernel_rfl) (by rw [List.append_nil,h2])
noncomputable def compK (K:Frag) (a:Addr):Option (Nat × PSs):=match K.lookup a with
 | some o=>(match o.data with
  | .func fd=>(match fd.body with
   | .stmts body=>if (fd.params.posonlyargs.isEmpty && (fd.params.vararg.isNone && (fd.params.kwonlyargs.isEmpty && (fd.params.kwarg.isNone && (fd.closure.isEmpty && (isNo fd.defaults && (fd.globals == mainGlobals && (fd.builtins == builtinsNs && (codeIn K fd.code fd.qualname && (!fd.scope.isCoroutine && (!fd.scope.isGenerator && (fd.scope.kind == .function && (fd.scope.names.all (fun x=>x.2 != .cell) && ((fd.params.args.map (·.arg)).all (fun x=>fd.scope.names.lookup x == some .local) && ((nmOf fd.scope).take (fd.params.args.map (·.arg)).length == fd.params.args.map (·.arg) && decide (nmOf fd.scope).Nodup)))))))))))))))=true then (cSL (cS (cxOf fd.scope) 40) body).map fun q=>((fd.params.args.map (·.arg)).length,q) else none
   | _=>none)
  | _=>none)
 | none=>none
theorem compK_ok {K:Frag} {a:Addr} {d:FD} (h:compK K a=some (d.npar,d.code)):DefCK K a d:=by
 unfold compK at h
 cases hk:K.lookup a with
 | none=>rw [hk] at h; cases h
 | some o =>
  obtain ⟨oc,od,dat,osl⟩:=o
  rw [hk] at h
  dsimp only at h
  cases dat with
  | func fd =>
   obtain ⟨name,qual,⟨po,as,va,ko,kd,ka,ds⟩,fb,scope,g,cl,df,kV,doc,pm,an,cdv,ct,bi⟩:=fd
   cases fb with
   | stmts body =>
    dsimp only at h
    split at h
    ·rename_i hc
     simp only [Bool.and_eq_true,List.isEmpty_iff,Option.isNone_iff_eq_none,beq_iff_eq,Bool.not_eq_true',List.all_eq_true,bne_iff_ne,decide_eq_true_eq] at hc
     obtain ⟨rfl,rfl,rfl,rfl,rfl,h6,rfl,rfl,h9,h10,h11,h12,h13,h14,h15,h16⟩:=hc
     have:df=.none:=isNo_ok h6
     subst this
     refine omE h fun q hq e=>?_
     rw [Prod.mk.injEq] at e
     rw [e.2] at hq
     have hnd:(as.map (·.arg)).Nodup:=by rw [← h15]; exact h16.sublist (List.take_sublist ..)
     exact ⟨qual,as.map (·.arg),body,scope,cdv,40,⟨⟨name,_,_,_,_,_,_,_,_,_,_,hk,fun vs hvs=>wd7 hvs hnd⟩,h9,h10,h11,h12,h13,h14⟩,hq,e.1.symm,h15,h16⟩
    ·cases h
   | _=>cases h
  | _=>cases h
noncomputable def yv3 (K:Frag):List (Option (Nat × PSs)):=(List.range 55).map fun k=>(fdOf k).bind fun _=>compK K (faF k)
theorem plain_of {K:Frag} (h:yv3 K=fds.map fun x=>x.map fun d=>(d.npar,d.code)):∀ k f,fdOf k=some f→DefCK K (faF k) f:=by
 intro k f hk
 have hk':=hk
 unfold fdOf at hk'
 rw [Option.join_eq_some_iff] at hk'
 haveI hlt:k < 55:=by
  obtain ⟨hl,_⟩:=List.getElem?_eq_some_iff.mp hk'
  exact hl
 refine compK_ok ?_
 haveI h2:=congrArg (fun l=>l[k]?) h
 unfold yv3 at h2
 simp only [List.getElem?_map,List.getElem?_range hlt,Option.map_some,hk,hk',Option.bind_some] at h2
 exact Option.some.inj h2
end Mine
namespace Mine
set_option tactic.hygienic false
open PySem PySem.W PySem.Calls PyProof.Rows
inductive TabK (p:Params) (K:Frag) (a:Addr) (tb:List (List Nat × PV)):Prop
 | mk (es:Array DictEntry) (n:Nat) (h1:K.lookup a=some ⟨.type "dict",none,.dict es n,#[]⟩) (h2:KeysLit p es.toList) (h3:tabB K 40 es.toList tb=some ()):TabK p K a tb
noncomputable def defsB (K:Frag):Bool:=(List.range 55).all fun k=>decide (((dnames[k]?).bind fun x=>(nsV K x).bind asR)=some (faF k)) && keepIn K (.ref (faF k))
noncomputable def nobiB (K:Frag):Bool:=([("len":Str),"int","str","abs","max","range","Exception"].all fun x=>decide ((nsIn K mainGlobals x).map Option.isNone=some true))
theorem wj5 {K:Frag} {x:Str} (h:decide ((nsIn K mainGlobals x).map Option.isNone=some true)=true):nsIn K mainGlobals x=some none :=
 omE (of_decide_eq_true h) fun a ha e=>by cases a with | none=>exact ha | some _=>exact nb e
structure FactsK (p:Params) (K:Frag):Prop where
 consts:constsB K=true
 defs:defsB K=true
 nobi:nobiB K=true
 lex_ns:nsIn K mainGlobals "LexFault"=some (some (.ref 51))
 syn_ns:nsIn K mainGlobals "SyntaxFault"=some (some (.ref 63))
 f77_ns:nsIn K mainGlobals "F77Error"=some (some (.ref 31))
 one:InitBy K 31 28 "F77Error"
 two:Init2 K 48
 cls_lex:ClsK K 51 (.ref 31::bmE)
 cls_f77:ClsK K 31 bmE
 cls_syn:ClsK K 63 (.ref 31::bmE)
 comp:yv3 K=fds.map fun x=>x.map fun d=>(d.npar,d.code)
 shw:ShowK K (faF 12)
 row:RowK K (faF 15)
 ref:RefK K (faF 50)
 tab0:TabK p K 159 wh8
 tab1:TabK p K 176 wk5
 tab2:TabK p K 276 priosT
 lexf:findIn K (.ref (caF 0)) "__init__"=some (some (.ref 48))
 lext:typeIn K (.ref 48)=some (.type "function")
 lexk:keepIn K (.ref (caF 0))=true
 synf:findIn K (.ref (caF 1)) "__init__"=some (some (.ref 28))
 synt:typeIn K (.ref 28)=some (.type "function")
 synk:keepIn K (.ref (caF 1))=true
noncomputable def GCof (prog:Program) (w:World) (K:Frag) (pv:Program) (s:Shared) (loose:List Str) (mean:ExcName→Option Value) (mg mb:Str→Option Value):GC :=
 { prog:=prog,w:=w,KF:=K,p:=pv,loose:=loose,mean:=mean,mg:=mg,mb:=mb,base:=s.heap,ta:=taF,s₀:=s,fa:=faF,ca:=caF }
section
variable {K:Frag} {prog:Program} {w:World} {pv:Program} {s:Shared} {loose:List Str} {mean:ExcName→Option Value} {mg mb:Str→Option Value}
theorem gc_ok (FK:FactsK w.params K) (X:K.In s.heap) (T:Top pv loose mean mg mb s.heap):(GCof prog w K pv s loose mean mg mb).Ok:=by
 have hall:=FK.defs
 have hk:∀ x k,dnames.findIdx? (· == x)=some k→nsIn (K) mainGlobals x=some (some (.ref (faF k)))∧keepIn (K) (.ref (faF k))=true:=by
  intro x k h
  obtain ⟨hlt,hx,_⟩:=List.findIdx?_eq_some_iff_getElem.mp h
  have hlen:dnames.length=55:=by rw [zj7]; rfl
  have:=List.all_eq_true.mp hall k (List.mem_range.mpr (by exact j8 hlt hlen))
  refine andC this fun h1 h2=>⟨?_,h2⟩
  have h1:=of_decide_eq_true h1
  rw [List.getElem?_eq_getElem hlt,beq_iff_eq.mp hx] at h1
  exact obC (o:=nsV K x) (f:=asR) h1 fun v hv e=>(nsV_ok hv).trans (by rw [asR_ok e])
 have hb:=List.all_eq_true.mp (FK.nobi)
 have hb':∀ x:Str,x∈([("len":Str),"int","str","abs","max","range","Exception"])→nsIn (K) mainGlobals x=some none:=by
  exact fun x hx=>wj5 (hb x hx)
 exact {
  X:=X
  T:=T
  gconst:=fun x d h=>by
   have:=List.all_eq_true.mp (FK.consts) _ (yk4 h)
   cases q:(nsV K x).bind fun v=>repK K taF 40 v d with
   | none=>exact nb ((congrArg Option.isSome q).symm.trans this)
   | some _=>exact obC q fun v hv h=>⟨v,nsV_ok hv,(rep_ok X 40).1 _ _ h⟩
  defs:=fun x k h=>(hk x k h).1
  defk:=fun x k h=>(hk x k h).2
  nobi:=fun b=>hb' _ (by cases b <;> decide +kernel)
  norange:=hb' _ (by decide +kernel)
  tabs:=fun k a str h=>by
   have key:∀ (tb:List (List Nat × PV)) a,TabK w.params K a tb→(∃ es n,(K).lookup a=some ⟨.type "dict",none,.dict es n,#[]⟩∧KeysLit w.params es.toList ∧
     (match tb.lookup str with
     | some d=>∃ v,nsIn (K) a ⟨str.toArray⟩=some (some v)∧RepV s.heap taF [] [] v d
     | none=>nsIn (K) a ⟨str.toArray⟩=some none)):=by
    rintro tb a ⟨es,n,h1,h2,h3⟩
    refine ⟨es,n,h1,h2,?_⟩
    have:=tab_find X str h3
    unfold nsIn
    rw [h1]
    dsimp only
    generalize tb.lookup str=o at this
    cases this with
    | some e he hr=>exact ⟨e.val,by rw [he],hr⟩
    | none he hr =>
     rw [he]
     dsimp only
     rw [hr]
     rfl
   rcases k with _ | _ | _ | k
   ·cases h; exact ⟨by decide +kernel,key wh8 159 (FK.tab0)⟩
   ·cases h; exact ⟨by decide +kernel,key wk5 176 (FK.tab1)⟩
   ·cases h; exact ⟨by decide +kernel,key priosT 276 (FK.tab2)⟩
   ·exact nn h
  excs:=fun i hi=>by
   rcases i with _ | _ | i
   ·exact FK.lex_ns
   ·exact FK.syn_ns
   ·exact absurd hi (Nat.not_lt_of_le (Nat.le_add_left _ _)) }
theorem ek_ok (FK:FactsK w.params K):ExcK (GCof prog w K pv s loose mean mg mb):={
 hex:=by
  exact wj5 (List.all_eq_true.mp FK.nobi "Exception" (by decide +kernel))
 one:=⟨31,28,FK.one⟩
 lex:=⟨_,48,FK.cls_lex,FK.two,FK.lexf,FK.lext,FK.lexk⟩
 syn:=⟨_,28,FK.cls_syn,FK.one.one,FK.synf,FK.synt,FK.synk⟩ }
theorem defsK_ok (FK:FactsK w.params K):DefsK (GCof prog w K pv s loose mean mg mb):={
 plain:=fun k f h=>⟨plain_of FK.comp k f h⟩
 shw:=FK.shw
 row:=FK.row
 ref:=FK.ref }
end
end Mine
namespace Mine
set_option tactic.hygienic false
open PySem PySem.W PySem.Calls PyProof.Rows
section
variable {M:Model} {A:Around} {E:Value→Shared→Prop}
variable {nm q nm' q':Str} {C N Cb N':Addr} {bs bm bs' bm':List Value} {hdct hdct':Bool} {sn sn':List Str} {sub sub':List Value} {ab ab':Bool} {col col':Option Bool} {dd dd':Option Addr} {k0 k1 k2 k3 k5 l0 l1 l2 l3 l5:Option Value}
theorem yi4 {h:Heap} {g:Array GenState} {d:Drawn} {t:Nat} {os:OsState} {e:Addr} {oe:Obj} {Q:Bool→Shared→Prop}
  (hC:h.get? C=some (clsO nm q C N bs bm hdct sn sub ab col dd k0 k1 k2 k3 k5)) (hB:h.get? Cb=some (clsO nm' q' Cb N' bs' bm' hdct' sn' sub' ab' col' dd' l0 l1 l2 l3 l5)) (he:h.get? e=some oe) (hcls:oe.cls=.ref C) (hsub:bm.contains (.ref Cb)=true) (T:HasE bm')
  (hq:Q true ⟨h,g,d,t,os⟩):wpAny M A (excMatches (.ref e) (.ref Cb)) Q E ⟨h,g,d,t,os⟩:=by
 have hcB:(Value.ref Cb::bm').contains (.type "BaseException")=true:=by simp only [List.contains_cons,T _ _ FE.hasBase,Bool.or_true]
 have hcC:(Value.ref C::bm).contains (.ref Cb)=true:=by simp only [List.contains_cons,hsub,Bool.or_true]
 have f:=tc_notTuple
 unfold excMatches
 repeat (first | (with_reducible refine wpAny_loadPart_at he ?_; rw [hcls]) | with_reducible refine wpAny_loadPart_at hB ?_ | (with_reducible refine wpAny_isSubtype_exc hB ?_; rw [hcB]) | (with_reducible refine wpAny_isSubtype_exc hC ?_; rw [hcC]) | wp_step)
 exact hq
end
section
variable {prog:Program} {w:World} {A₀:Around} {E:Value→Shared→Prop} {s':Shared} {base g g₀ G:Heap} {outer:List Env} {L a e:Addr} {m:Str→Option Value} {name:Str} {scope:Scope} {cd:Value}
 {b₀:Stmt} {suite:List Stmt} {pos np:Pos} {rest:List ExceptHandler} {Q:Flow→Shared→Prop} {news:List (Addr × Obj)} {KF:Frag}
 {p:Program} {loose:List Str} {mean:ExcName→Option Value} {mg mb:Str→Option Value} {x:Str} {C Cb:Addr} {bm bm':List Value}
theorem wi7 (R:RaisedSN base G (envOf name scope L a cd::outer) e (.ref C) news s'.heap) (F:Fr g L G m) (K:Below A₀ base outer g) (hsm:G.UpToSlots s'.heap) (XB:KF.In base) (TB:Top p loose mean mg mb base)
  (D:KtsDicts (outer.filterMap (·.frame)) g) (ex:nsIn KF mainGlobals x=some (some (.ref Cb))) (CK:ClsK KF C bm) (CB:ClsK KF Cb bm') (hsub:bm.contains (.ref Cb)=true)
  (k:∀ h' g',KtsTurn (outer.filterMap (·.frame)) g g'→Fr g' L h' m→News g' L h' news →
   wpAny (model prog w) ((A₀.deeper (envOf name scope L a cd)).mark (some (.ref e))) (execs (b₀::suite) (envOf name scope L a cd)) Q E { s' with heap:=h' })
  (hk:scope.kind=.function) (hx:(envOf name scope L a cd).kindOf x=some .globalImplicit) (hd:(x == ("__debug__":Str))=false)
  (hE:PassesOwnAt (model prog w) ((A₀.deeper (envOf name scope L a cd)).mark (some (.ref e))) (A₀.deeper (envOf name scope L a cd)) (envOf name scope L a cd) E) :
  wpAny (model prog w) (A₀.deeper (envOf name scope L a cd)) (noteFrame (.ref e) (envOf name scope L a cd))
   (fun _ s₂=>wpAny (model prog w) (A₀.deeper (envOf name scope L a cd)) (setFlight (.ref e) none) (fun _ s₃ =>
    wpAny (model prog w) (A₀.deeper (envOf name scope L a cd)) (handleBy (.ref e) (envOf name scope L a cd) (.ExceptHandler (some (.Name x np)) none (b₀::suite) pos::rest)) Q E s₃) E s₂) E s':=by
 obtain ⟨B,a0,hB,hBG,hl,hfl⟩:=R
 have hL:B.get? L=none:=by
  obtain ⟨_,⟨L',_,hf,hn',_⟩,_⟩:=hfl.2.2.1
  obtain rfl:L=L':=Option.some.inj hf
  exact hn'
 refine wpAny_looks_onW (Around.frames_deeper K.stack) rfl hfl fun h₄ hheld₄ hsm₄=>?_
 refine wpAny_landsW hheld₄ fun h₅ hheld hsm₅'=>?_
 have hsm₅:=hsm₄.trans hsm₅'
 obtain ⟨g₅,T₅,F₅,K₅⟩:=kts_ground K F hBG hheld.1 (hsm.trans hsm₅)
 have X₅:KF.In g₅:=XB.keeps K₅.stays
 have P₅:TopRead p loose mg mb g₅:=topRead_of (TB.keeps K₅.stays)
 obtain ⟨ob,hob,hobc⟩:=hheld.there
 obtain ⟨nm,q,N,bs,sn,sub,ab,col,dd,k0,k1,k2,k3,k5,hC⟩:=CK.obj
 obtain ⟨nm',q',N',bs',sn',sub',ab',col',dd',l0,l1,l2,l3,l5,hCb⟩:=CB.obj
 refine wpAny_handleBy_cons (codeAny_handlers_test (name_K F₅ X₅ P₅ ex ?_ hk hx hd)) (by intro q; cases q)
 refine yi4 (F₅.keep _ _ (X₅ _ _ hC)) (F₅.keep _ _ (X₅ _ _ hCb)) hob hobc hsub CB.has (codeAny_handlers_suite ?_)
 refine lands_againW hheld fun h₆ hfl₆ hsm₆=>?_
 obtain ⟨g₆,T₆,F₆,K₆⟩:=kts_ground K F hBG hfl₆.1 ((hsm.trans hsm₅).trans hsm₆)
 have Nl:News g₆ L h₆ news:=fun q hq=>⟨hfl₆.1 _ _ (hl q hq).1,(fun z=>by have:=(hl q hq).1; simp only [z,hL] at this; cases this),T₆.none_ _ (kts_none F.keep (hl q hq).2.1)⟩
 exact wpAny_passesOwnAt hE (k h₆ g₆ T₆ F₆ Nl)
end
inductive ReadK (K:Frag) (f:Addr):Prop
 | mk (qual:Str) (scope:Scope) (cdv:Value) (k:Nat) (p1 p2 p3 p4 p5 p6 p7 p8 p9 p10 p11:Pos) (D:DefK K f qual ["text"]
 [.Try [.Return (some (.Call (.Name "whole_expr" p1) [.Call (.Name "tokens_of" p2) [.Name "text" p3] [] p4] [] p5)) p6] [.ExceptHandler (some (.Name "F77Error" p7)) none [.Return (some (.Constant .none k p8)) p9] p10] [] [] p11] scope cdv)
 (hn:scope.names=[(("text":Str),.local),("whole_expr",.globalImplicit),("tokens_of",.globalImplicit),("F77Error",.globalImplicit)]):ReadK K f
noncomputable def yp4 (C:Nat→List PV→za7→Out (PV × za7)) (s:List Nat):Option PV:=match (C 9 [.str s] []).bind fun r=>C 41 [r.1] r.2 with
 | .ok (v,[])=>if zh8 v then some v else none
 | .exc=>some .none
 | _=>none
section
variable {Γ:GC} {c:FC} {C:Nat→List PV→za7→Out (PV × za7)}
set_option maxHeartbeats 1000000 in
theorem call_read (gok:Γ.Ok) (cok:c.Ok Γ) {f Cb:Addr} {bm0 bm1 bmb:List Value} (RK:ReadK Γ.KF f) (hcells:c.cells=[]) (hout:c.outer=[]) (hf77:nsIn Γ.KF mainGlobals "F77Error"=some (some (.ref Cb))) (C0:ClsK Γ.KF (Γ.ca 0) bm0) (C1:ClsK Γ.KF (Γ.ca 1) bm1) (CB:ClsK Γ.KF Cb bmb) (h0:bm0.contains (.ref Cb)=true) (h1:bm1.contains (.ref Cb)=true)
  (hd:c.dp+12 < recursionLimit) (hu:c.un+104 < cLine) (hC:∀ c':FC,c'.Ok Γ→c'.dp=c.dp+1→c'.un=c.un+3→zn3 Γ c' C)
  {env:Env'} {h:Heap} {tk:Nat} {news:List (Addr × Obj)} {v:Value} {s:List Nat} {pv:PV} {Q:Value→Shared→Prop} (I:Inv Γ c h env [] news []) (rv:RepV Γ.base Γ.ta news [] v (.str s)) (hr:yp4 C s=some pv)
  (hq:∀ v h' tk' news',Inv Γ c h' env [] news' []→RepV Γ.base Γ.ta news' [] v pv→Grow news [] news' []→(∀ m,Fr c.g c.L h m→Fr c.g c.L h' m)→Q v (Γ.st h' tk')) :
  wpAny (model Γ.prog Γ.w) c.A (call (.ref f) [v]) Q c.E (Γ.st h tk):=by
 obtain ⟨qual,scope,cdv,k,p1,p2,p3,p4,p5,p6,p7,p8,p9,p10,p11,DK,hn⟩:=RK
 have hX:=gok.X.keeps cok.B.stays
 have hT:=gok.T.keeps cok.B.stays
 obtain ⟨⟨m,F,hm⟩,NN,S,G⟩:=id I
 have henv:c.env=envOf c.cn c.cs c.L c.a c.cd:=by
  unfold FC.env
  rw [hcells]; rfl
 have hB:Below c.A₀ Γ.base [] c.g:=by rw [← hout]; exact cok.B
 have hA:c.A.frames=some [envOf c.cn c.cs c.L c.a c.cd]:=by
  show some (c.env::c.outer)=_
  simp only [henv,hout]
 obtain ⟨name,params,dV,kV,doc,pm,an,ct,oc,od,osl,hlook,hbind⟩:=DK.look
 refine wpAny_call (code_defS0 (s:=Γ.st h tk) hB F hX NN hT hA hlook DK.code (by show c.dp < recursionLimit; exact j170 hd) (BindsTo.of_eq (hbind [v] rfl)) (fun y hy=>DK.loc _ (List.of_mem_zip hy).1) (fun g L' h₁ FG F' N' B' X' T' D'=>?_) cok.kind DK.co DK.gen DK.kind DK.cell)
 have hlk:∀ x kd,scope.names.lookup x=some kd→(envOf qual scope L' f cdv).kindOf x=some kd:=fun _ _ h=>h
 let mkC:(Value→Shared→Prop)→FC:=fun Eb=>{ cn:=qual,cs:=scope,L:=L',a:=f,cd:=cdv,outer:=[envOf c.cn c.cs c.L c.a c.cd],g:=g,dp:=c.dp+1,un:=c.un+3,gd:=c.gd,A₀:=c.A,nm:=[("text":Str)],news₀:=news,ls₀:=[],may:=((C 9 [.str s] []).bind fun r=>C 41 [r.1] r.2)=.exc,own:=False,cells:=[],E:=Eb }
 have hAd:c.A.deeper (envOf qual scope L' f cdv)=(mkC (fun _ _=>True)).A:=by
  show _=Around.mk _ _ _ _ _
  unfold FC.A
  rw [henv,hout]
  rfl
 have key:∀ (Qb:Flow→Shared→Prop) (Eb:Value→Shared→Prop) (tk1:Nat),PassesOwn (model Γ.prog Γ.w) (c.A.deeper (envOf qual scope L' f cdv)) (envOf qual scope L' f cdv) Eb →
   (∀ e h' tk' cls nw lw g₂ m₀,pv=.none→Grow news [] nw lw→Γ.isFault cls→Fr g L' g₂ m₀→RaisedSN Γ.base g₂ (envOf qual scope L' f cdv::[envOf c.cn c.cs c.L c.a c.cd]) e cls nw h'→g₂.UpToSlots h'→Eb (.ref e) (Γ.st h' tk')) →
   (∀ v h' tk' nw m',RepV Γ.base Γ.ta nw [] v pv→Fr g L' h' m'→News g L' h' nw→Grow news [] nw []→Qb (.ret v) (Γ.st h' tk')) →
   wpAny (model Γ.prog Γ.w) (c.A.deeper (envOf qual scope L' f cdv)) (execs [.Return (some (.Call (.Name "whole_expr" p1) [.Call (.Name "tokens_of" p2) [.Name "text" p3] [] p4] [] p5)) p6] (envOf qual scope L' f cdv)) Qb Eb (Γ.st h₁ tk1):=by
  intro Qb Eb tk1 hEb hexc hok
  have cok':(mkC Eb).Ok Γ:={
   B:=B'
   kind:=DK.kind
   nmnd:=List.pairwise_singleton _ _
   hE:=by rw [hAd] at hEb; exact hEb
   hX:=by
    rintro may e h' tk' ⟨cls,nw,lw,gr,hf,⟨own,_⟩ | ⟨g₂,m₀,F₀,R,U⟩⟩
    ·exact own.elim
    ·refine hexc e h' tk' cls nw lw g₂ m₀ ?_ gr hf F₀ R U
     unfold yp4 at hr
     rw [show ((C 9 [.str s] []).bind fun r=>C 41 [r.1] r.2)=.exc from may] at hr
     exact (Option.some.inj hr).symm
   room:=by show c.un+3+100 < cLine; exact j352 hu
   roomD:=by show c.dp+1+10 < recursionLimit; exact j353 hd }
  have hC':=hC (mkC Eb) cok' rfl rfl
  have hslot:slot ⟨scope,[("text":Str)],dnames,consts⟩ "text"=some 0:=by
   unfold slot
   show (if _ then some 0 else none)=some 0
   rw [show (CX.mk scope [("text":Str)] dnames consts).sc.names.lookup ("text":Str)=some .local from by show List.lookup _ scope.names=_; rw [hn]; rfl]
   rfl
  have sV:SE Γ (mkC Eb) (eval (.Name "text" p3) (mkC Eb).env) (ev C (.var 0)).1:=zv8 (C:=C) gok cok' (X:=⟨scope,[("text":Str)],dnames,consts⟩) ⟨rfl,rfl⟩ hslot
  have s1:=zw6 gok cok' hC' (x:="tokens_of") (es:=[.Name "text" p3]) (k:=9) (np:=p2) (pos:=p4) (by show List.lookup _ scope.names=_; rw [hn]; rfl) (by decide +kernel) (by rw [zj7]; decide +kernel) (fun e he=>by rw [List.mem_singleton.mp he]; rfl) (fun h=>nomatch h) (fun pos=>zs4 rfl sV ye3)
  have s2:=zw6 gok cok' hC' (x:="whole_expr") (es:=[.Call (.Name "tokens_of" p2) [.Name "text" p3] [] p4]) (k:=41) (np:=p1) (pos:=p5) (by show List.lookup _ scope.names=_; rw [hn]; rfl) (by decide +kernel) (by rw [zj7]; decide +kernel) (fun e he=>by rw [List.mem_singleton.mp he]; rfl) (fun h=>nomatch h) (fun pos=>zs4 rfl s1 ye3)
  have sx:=wi8 (sx_ret (pos:=p6) s2) sx_nil
  have I':Inv Γ (mkC Eb) h₁ [some (.str s)] [] news []:=by
   refine ⟨⟨_,F',fun j x d hx he=>?_⟩,N',S,Grow.refl⟩
   cases j with
   | zero =>
    cases hx
    cases he
    exact ⟨v,List.lookup_cons_self,rv⟩
   | succ j=>cases hx
  simp only [hAd]
  refine sx [some (.str s)] [] h₁ tk1 news [] Qb I' ?_
  unfold yp4 at hr
  have e:∀ o,((C 9 [.str s] []).bind fun r=>C 41 [r.1] r.2)=o→PostF Γ (mkC Eb) news [] Qb (o.bind fun r=>.ok (.ret r.1,[some (.str s)],r.2)):=by
   rintro o ho
   rw [ho] at hr
   cases o with
   | exc=>exact ho
   | stuck=>cases hr
   | ok r =>
    obtain ⟨w,σ'⟩:=r
    cases σ' with
    | cons _ _=>cases hr
    | nil =>
     dsimp only at hr
     split at hr
     ·rename_i hnl
      cases hr
      intro fl h' tk' nw lw I2 rf gr
      cases rf with
      | ret rw' =>
       obtain ⟨⟨m2,F2,_⟩,N2,S2,G2⟩:=I2
       have hlw:lw=[]:=List.eq_nil_of_length_eq_zero (by rw [S2.len]; rfl)
       subst hlw
       exact hok _ h' tk' nw m2 rw' F2 N2 gr
     ·cases hr
  have e2:=e _ rfl
  cases h9:C 9 [.str s] [] with
  | exc=>rw [h9] at e2; change PostF _ _ _ _ _ (Out.bind (Out.bind (Out.bind (Out.bind (C 9 [.str s] []) _) _) _) _); rw [h9]; exact e2
  | stuck=>rw [h9] at e2; exact e2.elim
  | ok r =>
   rw [h9] at e2
   change PostF _ _ _ _ _ (Out.bind (Out.bind (Out.bind (Out.bind (C 9 [.str s] []) _) _) _) _)
   rw [h9]
   change PostF _ _ _ _ _ (Out.bind (Out.bind (C 41 [r.1] r.2) _) _)
   change PostF _ _ _ _ _ (Out.bind (C 41 [r.1] r.2) _) at e2
   cases h41:C 41 [r.1] r.2 with
   | exc=>rw [h41] at e2; exact e2
   | stuck=>rw [h41] at e2; exact e2.elim
   | ok q=>rw [h41] at e2; exact e2
 have fin:∀ v h' tk' nw lw,RepV Γ.base Γ.ta nw [] v pv→Grow news [] nw lw→Fr c.g c.L h' m→News c.g c.L h' nw→Q v (Γ.st h' tk'):=by
  intro v h' tk' nw lw rw' gr Fc Nc
  have gr':Grow news [] nw []:=⟨fun p hp hn=>⟨(gr.keep p hp hn).1,fun h=>nomatch h⟩,[],rfl⟩
  refine hq v h' tk' nw ⟨⟨m,Fc,fun j x d hx he=>?_⟩,Nc,StoreOk.none,G.trans gr'⟩ rw' gr' fun m' Fm'=>?_
  ·obtain ⟨w,hw,r⟩:=hm j x d hx he
   exact ⟨w,hw,r.mono gr'⟩
  ·have:m'=m:=by
    obtain ⟨o1,e1,p1,g1,d1,k1,f1⟩:=Fm'.ns
    obtain ⟨o2,e2,p2,g2,d2,k2,f2⟩:=F.ns
    rw [g1] at g2
    cases g2
    rw [d1] at d2
    cases d2
    funext x
    simp only [← f1 x,← f2 x]
   simp only [this]; exact Fc
 refine wpAny_execs_cons (wpAny_Try_except (key _ _ _ PassesOwn.looking (fun e h' tk' cls nw lw g₂ m₀ hpv gr hf F₀ R U=>?_) (fun v h' tk' nw m' rw' F2 N2 gr=>?_)))
 ·obtain ⟨i,hi,rfl⟩:=hf
  subst hpv
  have hi':i=0∨i=1:=by lia
  rcases hi' with rfl | rfl
  ·
   refine wi7 (prog:=Γ.prog) (w:=Γ.w) (s':=Γ.st h' tk') (np:=p7) (pos:=p10) (rest:=[]) R F₀ B' U gok.X gok.T D' hf77 C0 CB h0 (fun h'' g' T'' F'' N''=>?_) DK.kind (by show List.lookup _ scope.names=_; rw [hn]; rfl) (by decide +kernel) PassesOwnAt.leaving
   refine wpAny_execs_cons (wpAny_Return_some (wpAny_Constant_none ?_))
   exact leaveS0_ (s':=Γ.st h'' tk') F'' N'' T'' fun Fc Nc=>fin .none h'' tk' nw lw .none gr Fc Nc
  ·
   refine wi7 (prog:=Γ.prog) (w:=Γ.w) (s':=Γ.st h' tk') (np:=p7) (pos:=p10) (rest:=[]) R F₀ B' U gok.X gok.T D' hf77 C1 CB h1 (fun h'' g' T'' F'' N''=>?_) DK.kind (by show List.lookup _ scope.names=_; rw [hn]; rfl) (by decide +kernel) PassesOwnAt.leaving
   refine wpAny_execs_cons (wpAny_Return_some (wpAny_Constant_none ?_))
   exact leaveS0_ (s':=Γ.st h'' tk') F'' N'' T'' fun Fc Nc=>fin .none h'' tk' nw lw .none gr Fc Nc
 ·exact leaveS0_ (s':=Γ.st h' tk') F2 N2 KtsTurn.refl fun Fc Nc=>fin v h' tk' nw [] rw' gr Fc Nc
end
end Mine
namespace Mine
set_option tactic.hygienic false
open PySem PySem.W PySem.Calls PyProof.Rows
section
variable {Γ:GC} {c:FC}
theorem ints_rep {base:Heap} {ta:Nat→Option Addr} {news:List (Addr × Obj)} {ls:List Addr} {vs:List Value} {ns:List Int} (h:IntsAre vs ns):RepA base ta news ls vs (ns.map PV.int):=by
 induction h with
 | nil=>exact .nil
 | cons n t r ih=>exact .cons (.int n t) ih
theorem Inv.forget {h:Heap} {env:Env'} {σ:za7} {news:List (Addr × Obj)} {ls:List Addr} (I:Inv Γ c h env σ news ls) (h0:c.ls₀=[]) (he:∀ k d,env.getD k none=some d→zh8 d=true):Inv Γ c h env [] news []:=by
 obtain ⟨⟨m,F,hm⟩,N,S,G⟩:=I
 refine ⟨⟨m,F,fun k x d hx hd=>?_⟩,N,StoreOk.none,?_⟩
 ·obtain ⟨v,hv,r⟩:=hm k x d hx hd
  exact ⟨v,hv,RepV.less (ls:=[]) (fun a h=>nomatch h) r (he k d hd)⟩
 ·rw [h0] at G ⊢
  exact ⟨fun p hp hn=>⟨(G.keep p hp hn).1,fun h=>nomatch h⟩,[],rfl⟩
theorem zp8 {x:Str} {k:Nat} (hx:c.nm.findIdx? (· == x)=some k) (hl:c.cs.names.lookup x=some .local) (hd:(x == ("__debug__":Str))=false):slot ⟨c.cs,c.nm,dnames,consts⟩ x=some k:=by
 unfold slot
 rw [show (CX.mk c.cs c.nm dnames consts).nm.findIdx? (· == x)=some k from hx]
 dsimp only
 obtain ⟨hlt,he,_⟩:=List.findIdx?_eq_some_iff_getElem.mp hx
 rw [hl,hd,List.getElem?_eq_getElem hlt,beq_iff_eq.mp he]
 simp
noncomputable def envT (t:PV):Env':=[none,some t,none,none,none]
theorem envT_get {t d:PV} {k:Nat} (hn:zh8 t=true) (hd:(envT t).getD k none=some d):zh8 d=true:=by
 rcases k with _ | _ | _ | _ | _ | k
 ·exact nn hd
 ·exact Option.some.inj hd ▸ hn
 all_goals exact nn hd
theorem sx_tree (gok:Γ.Ok) (cok:c.Ok Γ) {C:Nat→List PV→za7→Out (PV × za7)} (hC:zn3 Γ c C) (hls:c.ls₀=[]) (hnm:c.nm=[("script":Str),"tree","text","begun","end"]) (hl1:c.cs.names.lookup ("script":Str)=some .local) (hl2:c.cs.names.lookup ("tree":Str)=some .local) (hl3:c.cs.names.lookup ("_law_tree":Str)=some .globalImplicit)
  {l:Addr} {vs:List Value} {zs:List Int} (hI:IntsAre vs zs) (hlen:zs.length≤1000) {a1 a2 a3 a4 a5 a6 a7 a8 a9 a10 a11:Pos} {k1 k2 k3:Nat} {m:Str→Option Value} {h:Heap} {tk:Nat} {t:PV} {σ1:za7}
  (I:Inv Γ c h [none,none,none,none,none] [] [] []) (F:Fr c.g c.L h m) (hm:m "script"=some (.ref l)) (hl:h.IsList l vs.toArray) (hr:C 51 [.loc 0,.int 3] [[.list ((zs.take 40).map PV.int),.int 0]]=.ok (t,σ1)) (hn:zh8 t=true) {Q:Flow→Shared→Prop}
  (hq:∀ h' tk' news',Inv Γ c h' (envT t) [] news' []→Q .next (Γ.st h' tk')) :
  wpAny (model Γ.prog Γ.w) c.A (exec (.Assign [.Name "tree" a1] (.Call (.Name "_law_tree" a2) [.List [.Subscript (.Name "script" a3) (.Slice none (some (.Constant (.int 40) k1 a4)) none a5) a6,.Constant (.int 0) k2 a7] a8,.Constant (.int 3) k3 a9] [] a10) a11) c.env) Q c.E (Γ.st h tk):=by
 have hX:=gok.X.keeps cok.B.stays
 have hT:=gok.T.keeps cok.B.stays
 have hsz:sizeLine=16777216:=sizeLine_eq
 have hvl:vs.length=zs.length:=hI.length
 refine wpAny_Assign_Name (Call_ (zz6 (s:=Γ.st h tk) F hX (topRead_of hT) (gok.defs _ 51 (by rw [zj7]; decide +kernel)) ?_ cok.kind hl3 (by decide +kernel))) rfl
 refine callWith_K hX (gok.defk "_law_tree" 51 (by rw [zj7]; decide +kernel)) (args_cons (he:=rfl) (List_ (args_cons (he:=rfl) ?_))) rfl rfl
 refine wpAny_Subscript_list_slice (ldx (s:=Γ.st h tk) F hm (evalPart_none_step ?_) cok.kind hl1 (by decide +kernel))
 show wpAny _ _ (eval (.Constant (.int 40) k1 a4) c.env) _ _ _
 refine wpAny_Constant_int ⟨l,vs.toArray,none,some 40,rfl,hl,by rw [hsz,List.size_toArray]; exact j354 hvl hlen,.none,.int _ _,?_⟩
 rw [show slicePick vs.toArray none (some 40) none=(vs.take 40).toArray from by simpa using PySem.slicePick_upto' vs.toArray 40]
 obtain ⟨I1,g1,_⟩:=I.push { cls:=.type "slice",data:=.fields #[.none,.int 40 (Γ.st h tk).toks,.none] }
 obtain ⟨I2,g2,o2⟩:=I1.push (lstO (vs.take 40) 0)
 rw [Heap.size_push] at I2 g2
 have r2:RepV Γ.base Γ.ta ((h.objs.size+1,lstO (vs.take 40) 0)::[(h.objs.size,{ cls:=.type "slice",data:=.fields #[.none,.int 40 (Γ.st h tk).toks,.none] })]) [] (.ref (h.objs.size+1)) (.list ((zs.take 40).map PV.int)) :=
  .list (vs:=vs.take 40) (n:=0) (.inl ⟨.head _,fun q=>nomatch q⟩) (ints_rep (hI.take 40))
 refine args_cons (he:=rfl) (wpAny_Constant_int (args_nil ?_))
 have hlen2:(2:Nat)≤szL:=by decide
 obtain ⟨I3,g3⟩:=I2.pushL gok cok (vs:=[.ref (h.objs.size+1),.int 0 ((Γ.st h tk).toks+1)]) (l:=[.list ((zs.take 40).map PV.int),.int 0]) (.cons r2 (.cons (.int _ _) .nil)) (by show 2≤szL; exact hlen2)
 refine wpAny_newObj_type ?_ (by show (2:Nat)≤sizeLine; rw [hsz]; decide)
 refine args_cons (he:=rfl) (wpAny_Constant_int (args_nil ?_))
 obtain ⟨⟨m3,F3,_⟩,N3,S3,G3⟩:=id I3
 refine ⟨hX.keeps F3.keep,?_⟩
 refine hC 51 [.loc 0,.int 3] _ [[.list ((zs.take 40).map PV.int),.int 0]] _ _ _ _ _ _ I3 (.cons (.loc rfl) (.cons (.int _ _) .nil)) ?_
 rw [hr]
 intro v h' tk' news' ls' I4 r4 g4 _
 refine yd6 cok (X:=⟨c.cs,c.nm,dnames,consts⟩) rfl rfl (zp8 (k:=1) (by rw [hnm]; decide +kernel) hl2 (by decide +kernel)) I4 r4 fun h'' tk'' I5=>?_
 refine hq h'' tk'' news' (I5.forget hls fun k d hd=>?_)
 exact envT_get hn hd
inductive RdOwn (Γ:GC):Prop
 | mk (Cb:Addr) (bm0 bm1 bmb:List Value) (h:nsIn Γ.KF mainGlobals "F77Error"=some (some (.ref Cb))) (C0:ClsK Γ.KF (Γ.ca 0) bm0) (C1:ClsK Γ.KF (Γ.ca 1) bm1) (CB:ClsK Γ.KF Cb bmb) (h0:bm0.contains (.ref Cb)=true) (h1:bm1.contains (.ref Cb)=true):RdOwn Γ
structure RdOk (Γ:GC) (c:FC) (C:Nat→List PV→za7→Out (PV × za7)):Prop where
 rk:ReadK Γ.KF (Γ.fa 53)
 cells:c.cells=[]
 out:c.outer=[]
 own:RdOwn Γ
 dp:c.dp+12 < recursionLimit
 un:c.un+104 < cLine
 hC:∀ c':FC,c'.Ok Γ→c'.dp=c.dp+1→c'.un=c.un+3→zn3 Γ c' C
noncomputable def tells (op:CmpOp) (r t:PV):Bool:=match op with
 | .Eq=>PyData.eqv (toD r) (toD t)
 | _=>!PyData.eqv (toD r) (toD t)
theorem yq1 (gok:Γ.Ok) (cok:c.Ok Γ) {C:Nat→List PV→za7→Out (PV × za7)} (rd:RdOk Γ c C) (hnm:c.nm=[("script":Str),"tree","text","begun","end"]) (hl2:c.cs.names.lookup ("tree":Str)=some .local) (hl3:c.cs.names.lookup ("_law_read":Str)=some .globalImplicit)
  {op:CmpOp} (hop:op=.Eq∨op=.NotEq) {e:Expr} {f:EV} {p1 p2 p3 p4:Pos} {whole:Sem Value} {env:Env'} {s:List Nat} {r t:PV} {h:Heap} {tk:Nat} {news:List (Addr × Obj)} {Q:Bool→Shared→Prop}
  (he:SE Γ c (eval e c.env) f) (hs:zm0 e=false) (hf:f env []=.ok (.str s,[])) (hr:yp4 C s=some r) (ht:env.getD 1 none=some t) (pr:zi9 r=true) (pt:zi9 t=true) (hdep:(toD t).depth≤64)
  (I:Inv Γ c h env [] news []) (hq:∀ h' tk' news',Inv Γ c h' env [] news' []→Grow news [] news' []→Q (tells op r t) (Γ.st h' tk')) :
  wpAny (model Γ.prog Γ.w) c.A (isTrue (.Compare (.Call (.Name "_law_read" p1) [e] [] p2) [op] [.Name "tree" p3] p4) c.env whole) Q c.E (Γ.st h tk):=by
 obtain ⟨Cb,bm0,bm1,bmb,hf77,C0,C1,CB,h0,h1⟩:=rd.own
 have hX:=gok.X.keeps cok.B.stays
 have hT:=gok.T.keeps cok.B.stays
 obtain ⟨⟨m,F,hm⟩,N,S,G⟩:=id I
 refine wpAny_isTrue_Compare1 (hm:=rfl) (Call_ (zz6 (s:=Γ.st h tk) F hX (topRead_of hT) (gok.defs _ 53 (by rw [zj7]; decide +kernel)) ?_ cok.kind hl3 (by decide +kernel)))
 refine callWith_K hX (gok.defk "_law_read" 53 (by rw [zj7]; decide +kernel)) (args_cons (he:=zg2 hs) ?_) (zg2 hs) rfl
 refine he env [] h tk news [] _ I ?_
 rw [hf]
 intro v h1' tk1 n1 l1 I1 r1 g1
 have hl1:l1=[]:=List.eq_nil_of_length_eq_zero (by rw [I1.S.len]; rfl)
 subst hl1
 obtain ⟨⟨m1,F1,_⟩,_,_,_⟩:=id I1
 refine args_nil ⟨hX.keeps F1.keep,?_⟩
 refine call_read gok cok rd.rk rd.cells rd.out hf77 C0 C1 CB h0 h1 rd.dp rd.un rd.hC I1 r1 hr fun v2 h2 tk2 n2 I2 r2 g2 _=>?_
 have hsl:=zp8 (c:=c) (x:="tree") (k:=1) (by rw [hnm]; decide +kernel) hl2 (by decide +kernel)
 refine zv8 (C:=C) gok cok (X:=⟨c.cs,c.nm,dnames,consts⟩) ⟨rfl,rfl⟩ hsl env [] h2 tk2 n2 [] _ I2 ?_
 rw [show (ev C (.var 1)).1 env []=zi0 [] (env.getD 1 none) from rfl,ht]
 intro v3 h3 tk3 n3 l3 I3 r3 g3
 have hl3':l3=[]:=List.eq_nil_of_length_eq_zero (by rw [I3.S.len]; rfl)
 subst hl3'
 have hg:=I3.get gok cok
 obtain ⟨as,ra⟩:=yd1 hg (r2.mono g3) pr
 obtain ⟨bs,rb⟩:=yd1 hg r3 pt
 have hroom:=cok.room
 have hu:c.A.units+min (toD r).depth (toD t).depth < cLine:=by
  have:=Nat.min_le_right (toD r).depth (toD t).depth
  show c.un+_ < _
  exact j487 hroom hdep
 rcases hop with rfl | rfl
 ·exact SeqAt.compareEq_reads (s:=Γ.st h3 tk3) ra rb (yk5 (r2.mono g3) pr) (yk5 r3 pt) hu (wpAny_truthy_bool (hq h3 tk3 n3 I3 ((g1.trans g2).trans g3)))
 ·exact SeqAt.compareNe_reads (s:=Γ.st h3 tk3) ra rb (yk5 (r2.mono g3) pr) (yk5 r3 pt) hu (wpAny_truthy_bool (hq h3 tk3 n3 I3 ((g1.trans g2).trans g3)))
noncomputable def yw8 (s:List Nat) (b e:Nat):List Nat:=s.take b++(s.take e).drop (b+1)++s.drop (e+1)
theorem yy2 {b n:Nat} (h:b≤n):bnd (b:Int) n=b:=(if_pos (Int.natCast_nonneg b)).trans (Nat.min_eq_left h)
theorem sv_var {C:Nat→List PV→za7→Out (PV × za7)} {k:Nat} {env:Env'} {σ:za7}:(ev C (.var k)).1 env σ=zi0 σ (env.getD k none):=rfl
theorem sv_cst {C:Nat→List PV→za7→Out (PV × za7)} {v:PV} {env:Env'} {σ:za7}:(ev C (.cst v)).1 env σ=.ok (v,σ):=rfl
theorem sv_some {α:Type} {σ:za7} {v:α}:zi0 σ (some v)=.ok (v,σ):=rfl
theorem sv_bind {α β:Type} {a:α} {f:α→Out β}:Out.bind (.ok a) f=f a:=rfl
theorem wf7:SE Γ c (evalPart none c.env) (fun _ σ=>.ok (.none,σ)):=fun env σ h tk news ls Q I hp=>evalPart_none_step (hp _ _ _ _ _ I .none Grow.refl)
theorem se_minus (gok:Γ.Ok) (cok:c.Ok Γ) (hnm:c.nm=[("script":Str),"tree","text","begun","end"]) (hl3:c.cs.names.lookup ("text":Str)=some .local) (hl4:c.cs.names.lookup ("begun":Str)=some .local) (hl5:c.cs.names.lookup ("end":Str)=some .local)
  {p1 p2 p3 p4 p5 p6 p7 p8 p9 p10 p11 p12 p13 p14 p15 p16 p17 p18 p19:Pos} {k1 k2:Nat}:∃ f:EV,SE Γ c (eval (.BinOp (.BinOp (.Subscript (.Name "text" p1) (.Slice none (some (.Name "begun" p2)) none p3) p4) .Add (.Subscript (.Name "text" p5) (.Slice (some (.BinOp (.Name "begun" p6) .Add (.Constant (.int 1) k1 p7) p8)) (some (.Name "end" p9)) none p10) p11) p12) .Add
   (.Subscript (.Name "text" p13) (.Slice (some (.BinOp (.Name "end" p14) .Add (.Constant (.int 1) k2 p15) p16)) none none p17) p18) p19) c.env) f ∧
   ∀ (env:Env') (s:List Nat) (b e:Nat),env.getD 2 none=some (.str s)→env.getD 3 none=some (.int b)→env.getD 4 none=some (.int e)→b < e→e < s.length→s.length≤1000000→f env []=.ok (.str (yw8 s b e),[]):=by
 have sT:∀ p,SE Γ c (eval (.Name "text" p) c.env) (ev (fun _ _ _=>.stuck) (.var 2)).1:=fun p=>zv8 gok cok (X:=⟨c.cs,c.nm,dnames,consts⟩) ⟨rfl,rfl⟩ (zp8 (c:=c) (x:="text") (k:=2) (by rw [hnm]; decide +kernel) hl3 (by decide +kernel))
 have sB:∀ p,SE Γ c (eval (.Name "begun" p) c.env) (ev (fun _ _ _=>.stuck) (.var 3)).1:=fun p=>zv8 gok cok (X:=⟨c.cs,c.nm,dnames,consts⟩) ⟨rfl,rfl⟩ (zp8 (c:=c) (x:="begun") (k:=3) (by rw [hnm]; decide +kernel) hl4 (by decide +kernel))
 have sE:∀ p,SE Γ c (eval (.Name "end" p) c.env) (ev (fun _ _ _=>.stuck) (.var 4)).1:=fun p=>zv8 gok cok (X:=⟨c.cs,c.nm,dnames,consts⟩) ⟨rfl,rfl⟩ (zp8 (c:=c) (x:="end") (k:=4) (by rw [hnm]; decide +kernel) hl5 (by decide +kernel))
 have s1:∀ k p,SE Γ c (eval (.Constant (.int 1) k p) c.env) (ev (fun _ _ _=>.stuck) (.cst (.int 1))).1:=fun k p=>ya8
 have c1:=yz1 gok cok (p:=p3) (pos:=p4) (lo:=none) (hi:=some (.Name "begun" p2)) (sT p1) wf7 (sB p2)
 have c2:=yz1 gok cok (p:=p10) (pos:=p11) (lo:=some (.BinOp (.Name "begun" p6) .Add (.Constant (.int 1) k1 p7) p8)) (hi:=some (.Name "end" p9)) (sT p5) (yt7 gok cok (pos:=p8) (o:=.add) rfl (sB p6) (s1 k1 p7)) (sE p9)
 have c3:=yz1 gok cok (p:=p17) (pos:=p18) (lo:=some (.BinOp (.Name "end" p14) .Add (.Constant (.int 1) k2 p15) p16)) (hi:=none) (sT p13) (yt7 gok cok (pos:=p16) (o:=.add) rfl (sE p14) (s1 k2 p15)) wf7
 refine ⟨_,yt7 gok cok (o:=.add) rfl (yt7 gok cok (o:=.add) rfl c1 c2) c3,fun env s b e h2 h3 h4 hbe hel hlen=>?_⟩
 have hsl:s.length≤szL:=by show s.length≤16777216; exact j355 hlen
 have b1:bnd (b:Int) s.length=b:=yy2 (Nat.le_of_lt (Nat.lt_trans hbe hel))
 have b2:bnd ((b:Int)+1) s.length=b+1:=yy2 (b:=b+1) (Nat.lt_trans hbe hel)
 have e1:bnd (e:Int) s.length=e:=yy2 (Nat.le_of_lt hel)
 have e2:bnd ((e:Int)+1) s.length=e+1:=yy2 (b:=e+1) hel
 have c1:cutP (.str s) .none (.int b)=some (.str (s.take b)):=by
  refine (if_pos hsl).trans ?_
  show some (PV.str (cutL s 0 (bnd b s.length)))=_
  rw [b1]; rfl
 have c2:cutP (.str s) (.int ((b:Int)+1)) (.int e)=some (.str ((s.take e).drop (b+1))):=by
  refine (if_pos hsl).trans ?_
  show some (PV.str (cutL s (bnd ((b:Int)+1) s.length) (bnd e s.length)))=_
  rw [b2,e1]; rfl
 have c3:cutP (.str s) (.int ((e:Int)+1)) .none=some (.str (s.drop (e+1))):=by
  refine (if_pos hsl).trans ?_
  show some (PV.str (cutL s (bnd ((e:Int)+1) s.length) s.length))=_
  rw [e2]
  unfold cutL
  rw [List.take_length]
 have t1:(s.take b).length≤1000000:=Nat.le_trans (List.take_sublist ..).length_le hlen
 have t2:((s.take e).drop (b+1)).length≤1000000:=Nat.le_trans ((List.drop_sublist ..).trans (List.take_sublist ..)).length_le hlen
 have t3:(s.drop (e+1)).length≤1000000:=Nat.le_trans (List.drop_sublist ..).length_le hlen
 have a0:∀ i:Int,binP .add (.int i) (.int 1)=some (.int (i+1)):=fun _=>rfl
 have a1:binP .add (.str (s.take b)) (.str ((s.take e).drop (b+1)))=some (.str (s.take b++(s.take e).drop (b+1))):=if_pos (Nat.le_trans (Nat.add_le_add t1 t2) (by decide +kernel))
 have a2:binP .add (.str (s.take b++(s.take e).drop (b+1))) (.str (s.drop (e+1)))=some (.str (yw8 s b e)):=if_pos (by
  rw [List.length_append]
  exact Nat.le_trans (Nat.add_le_add (Nat.add_le_add t1 t2) t3) (by decide +kernel))
 simp only [sv_var,sv_cst,h2,h3,h4,sv_some,sv_bind,c1,c2,c3,a0,a1,a2]
end
end Mine
namespace Mine
set_option tactic.hygienic false
open PySem PySem.W PySem.Calls PyProof.Rows
section
variable {Γ:GC} {c:FC}
theorem Inv.drop {h:Heap} {env:Env'} {news:List (Addr × Obj)} {it:Addr} {o:Obj} (I:Inv Γ c h env [] news []) (hm:(it,o)∈news) (hs:¬ zs5 o) (h0:c.news₀=[]) (hl0:c.ls₀=[]) :
  Inv Γ c h env [] (news.filter fun p=>p.1 != it) []∧∀ v d,RepV Γ.base Γ.ta news [] v d→RepV Γ.base Γ.ta (news.filter fun p=>p.1 != it) [] v d:=by
 obtain ⟨⟨m,F,hmm⟩,N,S,G⟩:=I
 have hsub:∀ a ob,zs5 ob→(a,ob)∈news→(a,ob)∈news.filter fun p=>p.1 != it:=by
  intro a ob hq hp
  refine List.mem_filter.mpr ⟨hp,?_⟩
  simp only [bne_iff_ne,ne_eq]
  intro e
  subst e
  haveI e1:=(N _ hp).1
  haveI e2:=(N _ hm).1
  rw [e1] at e2
  haveI e3:ob=o:=Option.some.inj e2
  exact hs (e3 ▸ hq)
 refine ⟨⟨⟨m,F,fun k x d hx hd=>?_⟩,fun p hp=>N p (List.mem_filter.mp hp).1,StoreOk.none,?_⟩,fun v d r=>r.sub hsub⟩
 ·obtain ⟨v,hv,r⟩:=hmm k x d hx hd
  exact ⟨v,hv,r.sub hsub⟩
 ·rw [h0,hl0]
  exact ⟨fun p hp=>(nomatch hp),[],rfl⟩
theorem wd6 {o:Obj} {v:Array Value} (h:o.data=.fields v):¬ zs5 o:=by
 rintro ⟨vs,n,q | q⟩
 ·rw [q] at h; cases h
 ·rw [q] at h; cases h
theorem Inv.but {h h':Heap} {env:Env'} {news:List (Addr × Obj)} {it:Addr} (I:Inv Γ c h env [] news []) (hb:But it h h') (hg:c.g.get? it=none) (hL:c.L≠it) (hn:∀ p∈news,p.1≠it):Inv Γ c h' env [] news []:=by
 obtain ⟨⟨m,F,hmm⟩,N,S,G⟩:=I
 exact ⟨⟨m,hb.fr F hg hL,hmm⟩,hb.news N hn,S,G⟩
theorem Inv.with {h:Heap} {env:Env'} {news:List (Addr × Obj)} {it:Addr} {o:Obj} (I:Inv Γ c h env [] news []) (ho:h.get? it=some o) (hg:c.g.get? it=none) (hL:c.L≠it):Inv Γ c h env [] ((it,o)::news) []∧Grow news [] ((it,o)::news) []:=by
 have g:Grow news [] ((it,o)::news) []:=⟨fun p hp hn=>⟨.tail _ hp,hn⟩,[],rfl⟩
 obtain ⟨⟨m,F,hmm⟩,N,S,G⟩:=I
 refine ⟨⟨⟨m,F,fun k x d hx hd=>?_⟩,fun p hp=>?_,S.sub fun a o _ h=>.tail _ h,G.trans g⟩,g⟩
 ·obtain ⟨v,hv,r⟩:=hmm k x d hx hd
  exact ⟨v,hv,r.mono g⟩
 ·rcases List.mem_cons.mp hp with rfl | hp
  ·exact ⟨ho,Ne.symm hL,hg⟩
  ·exact N p hp
noncomputable def zm2 (prs:List (Nat × Nat)):List PV:=prs.map fun p=>.tup [.int p.1,.int p.2]
noncomputable def env3 (t:PV) (s:List Nat) (a b:Option PV):Env':=[none,some t,some (.str s),a,b]
inductive PairsAt (Γ:GC) (c:FC) (t:PV) (s:List Nat) (prs:List (Nat × Nat)) (it D:Addr) (vs:List Value) (nD:Nat):Nat→Shared→Prop
 | mk (i:Nat) (h':Heap) (tk':Nat) (a b:Option PV) (nw:List (Addr × Obj)) (hi:i≤prs.length) (I:Inv Γ c h' (env3 t s a b) [] nw []) (hn:∀ p∈nw,p.1≠it) (hit:h'.IsListIter it D i) (hat:At Γ.base nw [] D (lstO vs nD)) (ra:RepA Γ.base Γ.ta nw [] vs (zm2 prs)):PairsAt Γ c t s prs it D vs nD (prs.length+1 - i) (Γ.st h' tk')
theorem RepA.keep {base:Heap} {ta:Nat→Option Addr} {n n':List (Addr × Obj)} {l l':List Addr} (k:∀ v d,RepV base ta n l v d→RepV base ta n' l' v d) {vs:List Value}:∀ {ds:List PV},RepA base ta n l vs ds→RepA base ta n' l' vs ds:=by
 induction vs with
 | nil=>exact fun h=>by cases h; exact .nil
 | cons w ws ih=>exact fun h=>by cases h with | cons hd tl=>exact .cons (k _ _ hd) (ih tl)
theorem sx_pairs (gok:Γ.Ok) (cok:c.Ok Γ) {C:Nat→List PV→za7→Out (PV × za7)} (rd:RdOk Γ c C) (hC:zn3 Γ c C) (hn0:c.news₀=[]) (hls:c.ls₀=[]) (hnm:c.nm=[("script":Str),"tree","text","begun","end"])
  (hl2:c.cs.names.lookup ("tree":Str)=some .local) (hl3:c.cs.names.lookup ("text":Str)=some .local) (hl4:c.cs.names.lookup ("begun":Str)=some .local) (hl5:c.cs.names.lookup ("end":Str)=some .local) (hl6:c.cs.names.lookup ("_law_read":Str)=some .globalImplicit) (hl7:c.cs.names.lookup ("_law_pairs":Str)=some .globalImplicit)
  {b1 b2 b3 b4 b5 b6 b7 d1 d2 d3 d4 d5 d6 d7:Pos} {kk kc:Nat} {e:Expr} {f:EV} (he:SE Γ c (eval e c.env) f) (hes:zm0 e=false)
  {t:PV} {s:List Nat} {prs:List (Nat × Nat)} {h:Heap} {tk:Nat} {news:List (Addr × Obj)} {Q:Flow→Shared→Prop}
  (hpr:C 52 [.str s] []=.ok (.list (zm2 prs),[])) (hsmall:prs.length≤1000000) (pt:zi9 t=true) (hdep:(toD t).depth≤64)
  (hall:∀ p∈prs,∃ r s',f (env3 t s (some (.int p.1)) (some (.int p.2))) []=.ok (.str s',[])∧yp4 C s'=some r∧zi9 r=true∧PyData.eqv (toD r) (toD t)=false)
  (I:Inv Γ c h (env3 t s none none) [] news []) (hq:∀ h' tk' env' news',Inv Γ c h' env' [] news' []→Q .next (Γ.st h' tk')) :
  wpAny (model Γ.prog Γ.w) c.A (exec (.For (.Tuple [.Name "begun" b1,.Name "end" b2] kk b3) (.Call (.Name "_law_pairs" b4) [.Name "text" b5] [] b6)
   [.If (.Compare (.Call (.Name "_law_read" d1) [e] [] d2) [.Eq] [.Name "tree" d3] d4) [.Return (some (.Constant (.bool false) kc d5)) d6] [] d7] [] b7) c.env) Q c.E (Γ.st h tk):=by
 haveI hX:=gok.X.keeps cok.B.stays
 haveI hT:=gok.T.keeps cok.B.stays
 obtain ⟨⟨m,F,hm⟩,N,S,G⟩:=id I
 have sT:SE Γ c (eval (.Name "text" b5) c.env) (ev C (.var 2)).1:=zv8 gok cok (X:=⟨c.cs,c.nm,dnames,consts⟩) ⟨rfl,rfl⟩ (zp8 (c:=c) (x:="text") (k:=2) (by rw [hnm]; decide +kernel) hl3 (by decide +kernel))
 have sP:=zw6 gok cok hC (x:="_law_pairs") (es:=[.Name "text" b5]) (k:=52) (np:=b4) (pos:=b6) hl7 (by decide +kernel) (by rw [zj7]; decide +kernel) (fun e he=>by rw [List.mem_singleton.mp he]; rfl) (fun h=>nomatch h) (fun pos=>zs4 rfl sT ye3)
 refine wpAny_For (sP _ [] h tk news [] _ I ?_) (fun _=>rfl)
 change Post _ _ _ _ _ _ _ (C 52 [.str s] [])
 rw [hpr]
 intro v h1 tk1 n1 l1 I1 r1 g1
 have hl1:l1=[]:=List.eq_nil_of_length_eq_zero (by rw [I1.S.len]; rfl)
 subst hl1
 obtain ⟨D,vs,nD,hat,ra⟩:=r1.listI
 have hD:(Γ.st h1 tk1).heap.IsList D vs.toArray:=⟨_,I1.get gok cok _ _ hat,rfl,nD,rfl⟩
 have hvl:=ra.length
 have hlp:(zm2 prs).length=prs.length:=by simp [zm2]
 refine wpAny_pyIter_list hD ?_
 have hitn:h1.get? h1.objs.size=none:=Heap.get?_none_of_le (Nat.le_refl _)
 obtain ⟨⟨m1,F1,_⟩,N1,S1,G1⟩:=id I1
 have hg0:c.g.get? h1.objs.size=none:=by
  cases q:c.g.get? h1.objs.size with
  | none=>rfl
  | some o=>rw [F1.keep _ _ q] at hitn; cases hitn
 have hL0:c.L≠h1.objs.size:=by
  obtain ⟨oL,_,_,hL,_⟩:=F1.ns
  exact Nat.ne_of_lt (Heap.lt_size hL)
 have hDne:D≠h1.objs.size:=by
  obtain ⟨o,ho,_⟩:=hD
  exact Nat.ne_of_lt (Heap.lt_size ho)
 refine codeAny_forLoop_any (PairsAt Γ c t s prs h1.objs.size D vs nD) ?_ (prs.length+1)
  (.mk 0 _ tk1 none none n1 (Nat.zero_le _) (I1.keeps (fun b o q=>Heap.get?_push_of_some _ q)) (fun p hp e=>?_) ⟨_,Heap.get?_push_size _ rfl,rfl,rfl⟩ hat ra)
 ·rintro n s' ⟨i,h2,tk2,a,b,nw,hi,I2,hnw,hit,hat2,ra2⟩
  haveI hD2:(Γ.st h2 tk2).heap.IsList D vs.toArray:=⟨_,I2.get gok cok _ _ hat2,rfl,nD,rfl⟩
  haveI hIt:(Γ.st h2 tk2).heap.IsListIter h1.objs.size D i:=hit
  by_cases hlt:i < prs.length
  ·haveI hvi:i < vs.length:=by exact j356 hlt hlp hvl
   haveI hpi:(zm2 prs)[i]?=some (.tup [.int (prs[i]).1,.int (prs[i]).2]):=by
    unfold zm2
    rw [List.getElem?_map,List.getElem?_eq_getElem hlt]; rfl
   obtain ⟨vt,hvt,rt⟩:=ra2.get hpi
   have hvt':vs.toArray[i]?=some vt:=by simpa using hvt
   refine wpAny_pyNext_list_item hIt hD2 hvt' fun h3 hit3 hs3=>?_
   haveI hb3:But h1.objs.size h2 h3:=fun b' o hb' q=>(hs3.2 b' hb').trans q
   haveI I3:=I2.but hb3 hg0 hL0 hnw
   obtain ⟨o3,ho3,hc3,hd3⟩:=hit3
   obtain ⟨T,ts,nT,hatT,raT⟩:=rt.tupI
   refine wpAny_letOwnedTupleGo_listiter ⟨o3,ho3,hc3,hd3⟩ ?_
   obtain ⟨I4,g4⟩:=I3.with ho3 hg0 hL0
   haveI hTt:IsTup (Γ.st h3 tk2).heap T ts.toArray:=⟨_,I4.get gok cok _ _ (hatT.mono g4),rfl,nT,rfl⟩
   have hks:zw2 ⟨c.cs,c.nm,dnames,consts⟩ [.Name "begun" b1,.Name "end" b2]=some [3,4]:=by
    haveI q1:=zp8 (c:=c) (x:="begun") (k:=3) (by rw [hnm]; decide +kernel) hl4 (by decide +kernel)
    haveI q2:=zp8 (c:=c) (x:="end") (k:=4) (by rw [hnm]; decide +kernel) hl5 (by decide +kernel)
    show ((slot _ ("begun":Str)).bind fun k=>((slot _ ("end":Str)).bind fun k=>(some []).map (k::·)).map (k::·))=_
    rw [q1,q2]; rfl
   haveI hset:zq9 [3,4] [.int (prs[i]).1,.int (prs[i]).2] (env3 t s a b)=some (env3 t s (some (.int (prs[i]).1)) (some (.int (prs[i]).2))):=rfl
   obtain ⟨hln,hst⟩:=yj5 (env:=c.env) hks
   haveI htl:=raT.length
   refine assign_Tuple_tuple rfl hTt (by rw [hln,List.size_toArray,htl]; rfl) hst fun h5 he5=>?_
   refine wpAny_passesOwn cok.hE (zz7 (tk:=tk2) cok (X:=⟨c.cs,c.nm,dnames,consts⟩) rfl rfl (fun h6 tk6 I6=>?_) hks (I4.ext cok he5) (RepA.mono g4 raT) hset)
   refine big fun Gz hGz=>?_
   obtain ⟨r,s',hf,hr,pr,hne⟩:=hall _ (List.getElem_mem hlt) <;> refine hGz ?_
   refine wpAny_passesOwn cok.hE (wpAny_execs_cons (wpAny_If (yq1 gok cok rd hnm hl2 hl6 (.inl rfl) he hes hf hr rfl pr pt hdep I6 fun h7 tk7 n7 I7 g7=>?_)))
   rw [show tells .Eq r t=false from hne]
   simp only [Bool.false_eq_true,if_false]
   refine wpAny_execs_nil (wpAny_execs_nil ?_)
   have hm7:=(g7.keep _ (.head _) (fun h=>nomatch h)).1
   obtain ⟨I8,keep8⟩:=I7.drop hm7 (wd6 hd3) hn0 hls
   haveI rD:RepV Γ.base Γ.ta n7 [] (.ref D) (.list (zm2 prs)):=RepV.mono g7 (RepV.mono g4 (.list hat2 ra2))
   haveI hat8:At Γ.base (n7.filter fun p=>p.1 != h1.objs.size) [] D (lstO vs nD):=by
    rcases hat2 with ⟨q1,q2⟩ | q
    ·refine .inl ⟨List.mem_filter.mpr ⟨(g7.keep _ (.tail _ q1) (fun h=>nomatch h)).1,?_⟩,fun h=>nomatch h⟩
     simp only [bne_iff_ne,ne_eq]
     exact hDne
    ·exact .inr q
   refine ⟨prs.length+1 - (i+1),by exact j488 hlt,.mk (i+1) h7 tk7 _ _ _ hlt I8 (fun p hp q=>?_) ⟨o3,(I7.N _ hm7).1,hc3,hd3⟩ hat8 ((RepA.mono g7 (RepA.mono g4 ra2)).keep keep8)⟩
   haveI h9:=(List.mem_filter.mp hp).2
   rw [q] at h9
   exact bne_iff_ne.mp h9 rfl
  ·haveI hie:i=prs.length:=Nat.le_antisymm hi (Nat.not_lt.mp hlt)
   refine wpAny_pyNext_list_end rfl hIt hD2 (by rw [List.getElem?_toArray,List.getElem?_eq_none]; exact j357 hvl hlp hlt) fun h3 hx=>?_
   refine wpAny_execs_nil ?_
   haveI hb:But h1.objs.size h2 h3:=fun b' o hb' q=>hx b' o hb' q
   exact hq h3 tk2 _ nw (I2.but hb hg0 hL0 hnw)
 ·have:=(I1.N p hp).1
  rw [e,hitn] at this
  cases this
structure LawFacts (C:Nat→List PV→za7→Out (PV × za7)) (zs:List Int):Prop where
 facts:∃ (t r:PV) (s:List Nat) (prs:List (Nat × Nat)) (σ1:za7),C 51 [.loc 0,.int 3] [[.list ((zs.take 40).map PV.int),.int 0]]=.ok (t,σ1)∧zh8 t=true∧zi9 t=true∧(toD t).depth≤64 ∧
  C 20 [t] []=.ok (.str s,[])∧yp4 C s=some r∧zi9 r=true∧PyData.eqv (toD r) (toD t)=true ∧
  C 52 [.str s] []=.ok (.list (zm2 prs),[])∧prs.length≤1000000∧s.length≤1000000 ∧
  ∀ p∈prs,p.1 < p.2∧p.2 < s.length∧∃ r,yp4 C (yw8 s p.1 p.2)=some r∧zi9 r=true∧PyData.eqv (toD r) (toD t)=false
theorem law_run (gok:Γ.Ok) (cok:c.Ok Γ) {C:Nat→List PV→za7→Out (PV × za7)} (rd:RdOk Γ c C) (hC:zn3 Γ c C) (hn0:c.news₀=[]) (hls:c.ls₀=[]) (hnm:c.nm=[("script":Str),"tree","text","begun","end"])
  (hcs:c.cs.names=[(("script":Str),.local),("tree",.local),("text",.local),("begun",.local),("end",.local),("_law_tree",.globalImplicit),("list_expr",.globalImplicit),("_law_read",.globalImplicit),("_law_pairs",.globalImplicit)])
  {l:Addr} {vs:List Value} {zs:List Int} (hI:IntsAre vs zs) (hlen:zs.length≤1000) (LF:LawFacts C zs) {m:Str→Option Value} {h:Heap} {tk:Nat} (I:Inv Γ c h [none,none,none,none,none] [] [] []) (F:Fr c.g c.L h m) (hm:m "script"=some (.ref l)) (hl:h.IsList l vs.toArray)
  {a1 a2 a3 a4 a5 a6 a7 a8 a9 a10 a11 b1 b2 b3 b4 b5 d1 d2 d3 d4 d5 d6 d7 e1 e2 e3 e4 e5 e6 e7 f1 f2 f3 f4 f5 f6 f7 p1 p2 p3 p4 p5 p6 p7 p8 p9 p10 p11 p12 p13 p14 p15 p16 p17 p18 p19 g1 g2 g3:Pos} {k1 k2 k3 k4 k5 k6 k7 k8 k9:Nat} {Q:Flow→Shared→Prop}
  (hq:∀ h' tk' env' news',Inv Γ c h' env' [] news' []→Q (.ret (.bool true)) (Γ.st h' tk')) :
  wpAny (model Γ.prog Γ.w) c.A (execs [.Assign [.Name "tree" a1] (.Call (.Name "_law_tree" a2) [.List [.Subscript (.Name "script" a3) (.Slice none (some (.Constant (.int 40) k1 a4)) none a5) a6,.Constant (.int 0) k2 a7] a8,.Constant (.int 3) k3 a9] [] a10) a11,
   .Assign [.Name "text" b1] (.Call (.Name "list_expr" b2) [.Name "tree" b3] [] b4) b5,
   .If (.Compare (.Call (.Name "_law_read" d1) [.Name "text" d2] [] d3) [.NotEq] [.Name "tree" d4] d5) [.Return (some (.Constant (.bool false) k4 d6)) d7] [] e1,
   .For (.Tuple [.Name "begun" e2,.Name "end" e3] k5 e4) (.Call (.Name "_law_pairs" e5) [.Name "text" e6] [] e7)
    [.If (.Compare (.Call (.Name "_law_read" f1) [.BinOp (.BinOp (.Subscript (.Name "text" p1) (.Slice none (some (.Name "begun" p2)) none p3) p4) .Add (.Subscript (.Name "text" p5) (.Slice (some (.BinOp (.Name "begun" p6) .Add (.Constant (.int 1) k6 p7) p8)) (some (.Name "end" p9)) none p10) p11) p12) .Add
   (.Subscript (.Name "text" p13) (.Slice (some (.BinOp (.Name "end" p14) .Add (.Constant (.int 1) k7 p15) p16)) none none p17) p18) p19] [] f2) [.Eq] [.Name "tree" f3] f4) [.Return (some (.Constant (.bool false) k8 f5)) f6] [] f7] [] g1,
   .Return (some (.Constant (.bool true) k9 g2)) g3] c.env) Q c.E (Γ.st h tk):=by
 refine big fun Gz hGz=>?_
 obtain ⟨t,r,s,prs,σ1,H1,H2,H3,H4,H5,H6,H7,H8,H9,H10,H11,H12⟩:=LF.facts <;> refine hGz ?_
 have lk:∀ x kd,c.cs.names.lookup x=some kd↔[(("script":Str),NameKind.local),("tree",.local),("text",.local),("begun",.local),("end",.local),("_law_tree",.globalImplicit),("list_expr",.globalImplicit),("_law_read",.globalImplicit),("_law_pairs",.globalImplicit)].lookup x=some kd:=fun x kd=>by rw [hcs]
 have l1:c.cs.names.lookup ("script":Str)=some .local:=(lk _ _).mpr (by decide +kernel)
 have l2:c.cs.names.lookup ("tree":Str)=some .local:=(lk _ _).mpr (by decide +kernel)
 have l3:c.cs.names.lookup ("text":Str)=some .local:=(lk _ _).mpr (by decide +kernel)
 have l4:c.cs.names.lookup ("begun":Str)=some .local:=(lk _ _).mpr (by decide +kernel)
 have l5:c.cs.names.lookup ("end":Str)=some .local:=(lk _ _).mpr (by decide +kernel)
 have l6:c.cs.names.lookup ("_law_tree":Str)=some .globalImplicit:=(lk _ _).mpr (by decide +kernel)
 have l7:c.cs.names.lookup ("list_expr":Str)=some .globalImplicit:=(lk _ _).mpr (by decide +kernel)
 have l8:c.cs.names.lookup ("_law_read":Str)=some .globalImplicit:=(lk _ _).mpr (by decide +kernel)
 have l9:c.cs.names.lookup ("_law_pairs":Str)=some .globalImplicit:=(lk _ _).mpr (by decide +kernel)
 refine wpAny_execs_cons (sx_tree gok cok hC hls hnm l1 l2 l6 hI hlen I F hm hl H1 H2 fun h1 tk1 n1 I1=>?_)
 haveI sTree:SE Γ c (eval (.Name "tree" b3) c.env) (ev C (.var 1)).1:=zv8 gok cok (X:=⟨c.cs,c.nm,dnames,consts⟩) ⟨rfl,rfl⟩ (zp8 (c:=c) (x:="tree") (k:=1) (by rw [hnm]; decide +kernel) l2 (by decide +kernel))
 have sText:∀ p,SE Γ c (eval (.Name "text" p) c.env) (ev C (.var 2)).1:=fun p=>zv8 gok cok (X:=⟨c.cs,c.nm,dnames,consts⟩) ⟨rfl,rfl⟩ (zp8 (c:=c) (x:="text") (k:=2) (by rw [hnm]; decide +kernel) l3 (by decide +kernel))
 haveI sL:=zw6 gok cok hC (x:="list_expr") (es:=[.Name "tree" b3]) (k:=20) (np:=b2) (pos:=b4) l7 (by decide +kernel) (by rw [zj7]; decide +kernel) (fun e he=>by rw [List.mem_singleton.mp he]; rfl) (fun h=>nomatch h) (fun pos=>zs4 rfl sTree ye3)
 haveI sA:=wm1 cok (X:=⟨c.cs,c.nm,dnames,consts⟩) (xp:=b1) (pos:=b5) rfl rfl (zp8 (c:=c) (x:="text") (k:=2) (by rw [hnm]; decide +kernel) l3 (by decide +kernel)) rfl sL
 refine wpAny_execs_cons (sA (envT t) [] h1 tk1 n1 [] _ I1 ?_)
 change PostF _ _ _ _ _ (Out.bind (C 20 [t] []) _)
 rw [H5]
 intro fl h2 tk2 n2 l2' I2 rf _
 cases rf
 have hl2':l2'=[]:=List.eq_nil_of_length_eq_zero (by rw [I2.S.len]; rfl)
 subst hl2'
 change Inv Γ c h2 (env3 t s none none) [] n2 [] at I2
 refine wpAny_execs_cons (wpAny_If (yq1 gok cok rd hnm l2 l8 (.inr rfl) (sText d2) rfl (rfl:(ev C (.var 2)).1 (env3 t s none none) []=.ok (.str s,[])) H6 rfl H7 H3 H4 I2 fun h3 tk3 n3 I3 _=>?_))
 rw [show tells .NotEq r t=false from by show (!PyData.eqv (toD r) (toD t))=false; rw [H8]; rfl]
 simp only [Bool.false_eq_true,if_false]
 refine wpAny_execs_nil ?_
 obtain ⟨fm,hfm,hval⟩:=se_minus gok cok hnm l3 l4 l5 (p1:=p1) (p2:=p2) (p3:=p3) (p4:=p4) (p5:=p5) (p6:=p6) (p7:=p7) (p8:=p8) (p9:=p9) (p10:=p10) (p11:=p11) (p12:=p12) (p13:=p13) (p14:=p14) (p15:=p15) (p16:=p16) (p17:=p17) (p18:=p18) (p19:=p19) (k1:=k6) (k2:=k7)
 refine wpAny_execs_cons (sx_pairs gok cok rd hC hn0 hls hnm l2 l3 l4 l5 l8 l9 hfm rfl H9 H10 H3 H4 (fun p hp=>?_) I3 fun h4 tk4 env4 n4 I4=>?_)
 ·refine big fun Gz hGz=>?_
  obtain ⟨q1,q2,r',q3,q4,q5⟩:=H12 p hp <;> refine hGz ?_
  exact ⟨r',yw8 s p.1 p.2,hval _ s p.1 p.2 rfl rfl rfl q1 q2 H11,q3,q4,q5⟩
 ·exact wpAny_execs_cons (wpAny_Return_some (wpAny_Constant_bool (hq h4 tk4 env4 n4 I4)))
end
end Mine
namespace Mine
set_option tactic.hygienic false
open PySem PySem.W PySem.Calls PyProof.Rows
noncomputable def lawFC (s₁:Shared) (qual:Str) (scope:Scope) (fa:Addr) (cd:Value):FC :=
 { cn:=qual,cs:=scope,L:=s₁.heap.objs.size,a:=fa,cd:=cd,outer:=[],g:=s₁.heap,dp:=callerA.depth+1,un:=callerA.units+3,gd:=callerA.guards,A₀:=callerA,nm:=[("script":Str),"tree","text","begun","end"],news₀:=[],ls₀:=[],E:=fun _ _=>False,may:=False,own:=False,cells:=[] }
theorem law_dp:callerA.depth+1+340+11 < recursionLimit:=by decide +kernel
theorem law_un:callerA.units+3+3 * 340+104 < cLine:=by decide +kernel
section
variable {prog:Program} {w:World} {pv:Program} {s₁:Shared} {loose:List Str} {mean:ExcName→Option Value} {mg mb:Str→Option Value}
theorem law_glue {K:Frag} (KX:K.In s₁.heap) (FK:FactsK w.params K) (RK:ReadK K 463) (T:Top pv loose mean mg mb s₁.heap) {qual:Str} {scope:Scope} {fa:Addr} {cd:Value} {h₁:Heap} {tk:Nat} {l:Addr} {vs:List Value} {zs:List Int} {m:Str→Option Value} (F:Fr s₁.heap s₁.heap.objs.size h₁ m) (hm:m "script"=some (.ref l)) (hl:s₁.heap.IsList l vs.toArray) (hI:IntsAre vs zs) (hlen:zs.length≤1000)
  (LF:LawFacts (zc5 100000 320) zs) (hk:scope.kind=.function)
  (hcs:scope.names=[(("script":Str),.local),("tree",.local),("text",.local),("begun",.local),("end",.local),("_law_tree",.globalImplicit),("list_expr",.globalImplicit),("_law_read",.globalImplicit),("_law_pairs",.globalImplicit)])
  {a1 a2 a3 a4 a5 a6 a7 a8 a9 a10 a11 b1 b2 b3 b4 b5 d1 d2 d3 d4 d5 d6 d7 e1 e2 e3 e4 e5 e6 e7 f1 f2 f3 f4 f5 f6 f7 p1 p2 p3 p4 p5 p6 p7 p8 p9 p10 p11 p12 p13 p14 p15 p16 p17 p18 p19 g1 g2 g3:Pos} {k1 k2 k3 k4 k5 k6 k7 k8 k9:Nat} {Q:Flow→Shared→Prop} {E:Value→Shared→Prop}
  (hq:∀ h' tk' m',Fr s₁.heap s₁.heap.objs.size h' m'→Q (.ret (.bool true)) { s₁ with heap:=h',toks:=tk' }) :
  wpAny (model prog w) (callerA.deeper (envOf qual scope s₁.heap.objs.size fa cd)) (execs [.Assign [.Name "tree" a1] (.Call (.Name "_law_tree" a2) [.List [.Subscript (.Name "script" a3) (.Slice none (some (.Constant (.int 40) k1 a4)) none a5) a6,.Constant (.int 0) k2 a7] a8,.Constant (.int 3) k3 a9] [] a10) a11,
   .Assign [.Name "text" b1] (.Call (.Name "list_expr" b2) [.Name "tree" b3] [] b4) b5,
   .If (.Compare (.Call (.Name "_law_read" d1) [.Name "text" d2] [] d3) [.NotEq] [.Name "tree" d4] d5) [.Return (some (.Constant (.bool false) k4 d6)) d7] [] e1,
   .For (.Tuple [.Name "begun" e2,.Name "end" e3] k5 e4) (.Call (.Name "_law_pairs" e5) [.Name "text" e6] [] e7)
    [.If (.Compare (.Call (.Name "_law_read" f1) [.BinOp (.BinOp (.Subscript (.Name "text" p1) (.Slice none (some (.Name "begun" p2)) none p3) p4) .Add (.Subscript (.Name "text" p5) (.Slice (some (.BinOp (.Name "begun" p6) .Add (.Constant (.int 1) k6 p7) p8)) (some (.Name "end" p9)) none p10) p11) p12) .Add
   (.Subscript (.Name "text" p13) (.Slice (some (.BinOp (.Name "end" p14) .Add (.Constant (.int 1) k7 p15) p16)) none none p17) p18) p19] [] f2) [.Eq] [.Name "tree" f3] f4) [.Return (some (.Constant (.bool false) k8 f5)) f6] [] f7] [] g1,
   .Return (some (.Constant (.bool true) k9 g2)) g3] (envOf qual scope s₁.heap.objs.size fa cd)) Q E { s₁ with heap:=h₁,toks:=tk }:=by
 have gok:=gc_ok (prog:=prog) (w:=w) FK KX T
 have ek:=ek_ok (prog:=prog) (pv:=pv) (s:=s₁) (loose:=loose) (mean:=mean) (mg:=mg) (mb:=mb) FK
 have dk:=defsK_ok (prog:=prog) (pv:=pv) (s:=s₁) (loose:=loose) (mean:=mean) (mg:=mg) (mb:=mb) FK
 have h1:=law_dp
 have h2:=law_un
 have cok:(lawFC s₁ qual scope fa cd).Ok (GCof prog w K pv s₁ loose mean mg mb):={
  B:=below_caller s₁.heap
  kind:=hk
  nmnd:=by show [("script":Str),"tree","text","begun","end"].Nodup; decide +kernel
  hE:=PassesOwn.never
  hX:=fun h=>h.elim
  room:=by show callerA.units+3+100 < cLine; lia
  roomD:=by show callerA.depth+1+10 < recursionLimit; lia }
 have hC:∀ c':FC,c'.Ok (GCof prog w K pv s₁ loose mean mg mb)→c'.dp+320+11 < recursionLimit→c'.un+3 * 320+101 < cLine→zn3 (GCof prog w K pv s₁ loose mean mg mb) c' (zc5 100000 320):=fun c' ok' q1 q2=>wc7 gok ek dk 100000 320 c' ok' q1 q2
 have rd:RdOk (GCof prog w K pv s₁ loose mean mg mb) (lawFC s₁ qual scope fa cd) (zc5 100000 320):={
  rk:=RK
  cells:=rfl
  out:=rfl
  own:=⟨31,_,_,_,FK.f77_ns,FK.cls_lex,FK.cls_syn,FK.cls_f77,by decide +kernel,by decide +kernel⟩
  dp:=by show callerA.depth+1+12 < recursionLimit; exact j11 h1
  un:=by show callerA.units+3+104 < cLine; lia
  hC:=fun c' ok' q1 q2=>hC c' ok' (by rw [q1]; show callerA.depth+1+1+320+11 < recursionLimit; lia) (by rw [q2]; show callerA.units+3+3+3 * 320+101 < cLine; lia) }
 have I:Inv (GCof prog w K pv s₁ loose mean mg mb) (lawFC s₁ qual scope fa cd) h₁ [none,none,none,none,none] [] [] []:=by
  refine ⟨⟨m,F,fun k x d hx hd=>?_⟩,News.nil,StoreOk.none,Grow.refl⟩
  exact env5 hd
 refine wpAny_mono (E:=fun _ _=>False) ?_ (fun _ _ x=>x) (fun _ _ x=>x.elim)
 exact law_run (Γ:=GCof prog w K pv s₁ loose mean mg mb) (c:=lawFC s₁ qual scope fa cd) (h:=h₁) (tk:=tk) gok cok rd (hC _ cok (by show callerA.depth+1+320+11 < recursionLimit; lia) (by show callerA.units+3+3 * 320+101 < cLine; lia)) rfl rfl rfl hcs hI hlen LF I F hm (by obtain ⟨o,ho,r⟩:=hl; exact ⟨o,F.keep _ _ ho,r⟩) (fun h' tk' env' news' I'=>by
  obtain ⟨⟨m',F',_⟩,_⟩:=I'
  exact hq h' tk' m' F')
end
end Mine
namespace Mine
set_option tactic.hygienic false
section
variable {C:Nat→List PV→za7→Out (PV × za7)} {env:Env'} {σ:za7}
theorem za1 {α β:Type} {a:α} {f:α→Out β}:(Out.ok a).bind f=f a:=rfl
theorem ze7 {α β:Type} {f:α→Out β}:(Out.exc).bind f=.exc:=rfl
theorem zv0 {α β:Type} {f:α→Out β}:(Out.stuck).bind f=.stuck:=rfl
theorem za0 {α:Type} {a:α}:zi0 σ (some a)=.ok (a,σ):=rfl
theorem liftO_none {α:Type}:zi0 σ (none:Option α)=.stuck:=rfl
theorem za3 {k:Nat}:(ev C (.var k)).1 env σ=zi0 σ (env.getD k none):=rfl
theorem za4 {v:PV}:(ev C (.cst v)).1 env σ=.ok (v,σ):=rfl
end
section
variable (C:Nat→List PV→za7→Out (PV × za7)) (env:Env')
noncomputable def kB2 (o:BO) (x:PV) (q:PV × za7):Out (PV × za7):=zi0 q.2 (binP o x q.1)
noncomputable def kB1 (o:BO) (b:PE) (r:PV × za7):Out (PV × za7):=((ev C b).1 env r.2).bind (kB2 o r.1)
noncomputable def kNeg (r:PV × za7):Out (PV × za7):=match r.1 with | .int i=>.ok (.int (-i),r.2) | _=>.stuck
noncomputable def kNot2 (q:Bool × za7):Out (PV × za7):=.ok (.bool (!q.1),q.2)
noncomputable def kNot (r:PV × za7):Out (PV × za7):=(zi0 r.2 (zm5 r.2 r.1)).bind kNot2
noncomputable def kC2 (o:CO) (x:PV) (q:PV × za7):Out (PV × za7):=zi0 q.2 ((cmpP o x q.1).map PV.bool)
noncomputable def kC1 (o:CO) (b:PE) (r:PV × za7):Out (PV × za7):=((ev C b).1 env r.2).bind (kC2 o r.1)
noncomputable def kI (a b:PE) (r:Bool × za7):Out (PV × za7):=match r.1 with | true=>(ev C a).1 env r.2 | false=>(ev C b).1 env r.2
noncomputable def kCall (f:Nat) (r:List PV × za7):Out (PV × za7):=C f r.1 r.2
noncomputable def kBi (f:BI) (r:List PV × za7):Out (PV × za7):=zi0 r.2 (biP r.2 f r.1)
noncomputable def kM2 (m:ME) (v:PV) (q:List PV × za7):Out (PV × za7):=meP m v q.1 q.2
noncomputable def kM1 (m:ME) (es:PEs) (r:PV × za7):Out (PV × za7):=match yc2 m r.1 with | true=>((evs C es).vals env r.2).bind (kM2 m r.1) | false=>.stuck
noncomputable def kX2 (x:PV) (q:PV × za7):Out (PV × za7):=zi0 q.2 (idxP q.2 x q.1)
noncomputable def kX1 (i:PE) (r:PV × za7):Out (PV × za7):=((ev C i).1 env r.2).bind (kX2 r.1)
noncomputable def kT3 (x y:PV) (t:PV × za7):Out (PV × za7):=zi0 t.2 (cutP x y t.1)
noncomputable def kT2 (hi:PE) (x:PV) (q:PV × za7):Out (PV × za7):=((ev C hi).1 env q.2).bind (kT3 x q.1)
noncomputable def kT1 (lo hi:PE) (r:PV × za7):Out (PV × za7):=((ev C lo).1 env r.2).bind (kT2 C env hi r.1)
noncomputable def kTup (r:List PV × za7):Out (PV × za7):=.ok (.tup r.1,r.2)
noncomputable def kLst (r:List PV × za7):Out (PV × za7):=.ok (.loc r.2.length,r.2++[r.1])
noncomputable def kTr (r:PV × za7):Out (Bool × za7):=zi0 r.2 (zm5 r.2 r.1)
noncomputable def kTN (r:Bool × za7):Out (Bool × za7):=.ok (!r.1,r.2)
noncomputable def kTI (a b:PE) (r:Bool × za7):Out (Bool × za7):=match r.1 with | true=>(ev C a).2 env r.2 | false=>(ev C b).2 env r.2
noncomputable def kV2 (v:PV) (vs:List PV × za7):Out (List PV × za7):=.ok (v::vs.1,vs.2)
noncomputable def kV1 (r:PEs) (v:PV × za7):Out (List PV × za7):=((evs C r).vals env v.2).bind (kV2 v.1)
noncomputable def kE2 (c:Bool) (f:PE) (r:PEs) (v:PV × za7) (t:Bool × za7):Out (PV × za7):=match (t.1 == c) with | true=>(evs C (.cons f r)).b c env v.2 | false=>.ok v
noncomputable def kE1 (c:Bool) (f:PE) (r:PEs) (v:PV × za7):Out (PV × za7):=(zi0 v.2 (zm5 v.2 v.1)).bind (kE2 C env c f r v)
noncomputable def kA (c:Bool) (r:PEs) (t:Bool × za7):Out (Bool × za7):=match (t.1 == c) with | true=>(evs C r).a c env t.2 | false=>.ok (!c,t.2)
noncomputable def kAsg (k:Nat) (r:PV × za7):Out (Fl × Env' × za7):=.ok (.next,env.set k (some r.1),r.2)
noncomputable def wg5 (σ:za7) (o:Option Env'):Out (Fl × Env' × za7):=match o with | some env'=>.ok (.next,env',σ) | none=>.stuck
noncomputable def kUnp (ks:List Nat) (l:List PV):Option Env':=zq9 ks l env
noncomputable def kAsgT (ks:List Nat) (r:PV × za7):Out (Fl × Env' × za7):=wg5 r.2 ((ye7 r.2 r.1).bind (kUnp env ks))
noncomputable def kAug2 (k:Nat) (σ:za7) (o:Option PV):Out (Fl × Env' × za7):=match o with | some q=>.ok (.next,env.set k (some q),σ) | none=>.stuck
noncomputable def kAug (k:Nat) (o:BO) (v:PV) (r:PV × za7):Out (Fl × Env' × za7):=kAug2 env k r.2 (binP o v r.1)
noncomputable def kAug0 (k:Nat) (o:BO) (e:PE) (σ:za7) (w:Option PV):Out (Fl × Env' × za7):=match w with | some v=>((ev C e).1 env σ).bind (kAug env k o v) | none=>.stuck
noncomputable def kIf (N:Nat) (a b:PSs) (r:Bool × za7):Out (Fl × Env' × za7):=match r.1 with | true=>exs C N a env r.2 | false=>exs C N b env r.2
noncomputable def kRet (r:PV × za7):Out (Fl × Env' × za7):=.ok (.ret r.1,env,r.2)
noncomputable def kRaise (_:List PV × za7):Out (Fl × Env' × za7):=.exc
noncomputable def kExp (r:PV × za7):Out (Fl × Env' × za7):=match r.1 with | .none=>.ok (.next,env,r.2) | _=>.stuck
noncomputable def kSeq (N:Nat) (r:PSs) (q:Fl × Env' × za7):Out (Fl × Env' × za7):=match q.1 with | .next=>exs C N r q.2.1 q.2.2 | f=>.ok (f,q.2.1,q.2.2)
end
section
variable {C:Nat→List PV→za7→Out (PV × za7)} {env:Env'} {σ:za7}
theorem zf1 {o:BO} {x y:PV}:kB2 o x (y,σ)=zi0 σ (binP o x y):=rfl
theorem zf2 {o:BO} {b:PE} {x:PV}:kB1 C env o b (x,σ)=((ev C b).1 env σ).bind (kB2 o x):=rfl
theorem zy0 {i:Int}:kNeg (.int i,σ)=.ok (.int (-i),σ):=rfl
theorem yu5 {b:Bool}:kNot2 (b,σ)=.ok (.bool (!b),σ):=rfl
theorem kNot_e {v:PV}:kNot (v,σ)=(zi0 σ (zm5 σ v)).bind kNot2:=rfl
theorem zc3 {o:CO} {x y:PV}:kC2 o x (y,σ)=zi0 σ ((cmpP o x y).map PV.bool):=rfl
theorem zc4 {o:CO} {b:PE} {x:PV}:kC1 C env o b (x,σ)=((ev C b).1 env σ).bind (kC2 o x):=rfl
theorem kI_t {a b:PE}:kI C env a b (true,σ)=(ev C a).1 env σ:=rfl
theorem kI_f {a b:PE}:kI C env a b (false,σ)=(ev C b).1 env σ:=rfl
theorem zb4 {f:Nat} {l:List PV}:kCall C f (l,σ)=C f l σ:=rfl
theorem zh6 {f:BI} {l:List PV}:kBi f (l,σ)=zi0 σ (biP σ f l):=rfl
theorem yq4 {m:ME} {v:PV} {l:List PV}:kM2 m v (l,σ)=meP m v l σ:=rfl
theorem ys8 {m:ME} {es:PEs} {v:PV}:kM1 C env m es (v,σ)=match yc2 m v with | true=>((evs C es).vals env σ).bind (kM2 m v) | false=>.stuck:=rfl
theorem ze5 {x y:PV}:kX2 x (y,σ)=zi0 σ (idxP σ x y):=rfl
theorem ze4 {i:PE} {x:PV}:kX1 C env i (x,σ)=((ev C i).1 env σ).bind (kX2 x):=rfl
theorem yc3 {x y z:PV}:kT3 x y (z,σ)=zi0 σ (cutP x y z):=rfl
theorem yc0 {hi:PE} {x y:PV}:kT2 C env hi x (y,σ)=((ev C hi).1 env σ).bind (kT3 x y):=rfl
theorem yc5 {lo hi:PE} {x:PV}:kT1 C env lo hi (x,σ)=((ev C lo).1 env σ).bind (kT2 C env hi x):=rfl
theorem ze9 {l:List PV}:kTup (l,σ)=.ok (.tup l,σ):=rfl
theorem zt6 {l:List PV}:kLst (l,σ)=.ok (.loc σ.length,σ++[l]):=rfl
theorem zc0 {v:PV}:kTr (v,σ)=zi0 σ (zm5 σ v):=rfl
theorem zv5 {b:Bool}:kTN (b,σ)=.ok (!b,σ):=rfl
theorem kTI_t {a b:PE}:kTI C env a b (true,σ)=(ev C a).2 env σ:=rfl
theorem kTI_f {a b:PE}:kTI C env a b (false,σ)=(ev C b).2 env σ:=rfl
theorem zc2 {v:PV} {l:List PV}:kV2 v (l,σ)=.ok (v::l,σ):=rfl
theorem zc1 {r:PEs} {v:PV}:kV1 C env r (v,σ)=((evs C r).vals env σ).bind (kV2 v):=rfl
theorem ye2 {c t:Bool} {f:PE} {r:PEs} {v:PV} {σ':za7}:kE2 C env c f r (v,σ) (t,σ')=match (t == c) with | true=>(evs C (.cons f r)).b c env σ | false=>.ok (v,σ):=rfl
theorem yg2 {c:Bool} {f:PE} {r:PEs} {v:PV}:kE1 C env c f r (v,σ)=(zi0 σ (zm5 σ v)).bind (kE2 C env c f r (v,σ)):=rfl
theorem kA_e {c t:Bool} {r:PEs}:kA C env c r (t,σ)=match (t == c) with | true=>(evs C r).a c env σ | false=>.ok (!c,σ):=rfl
theorem zd6 {k:Nat} {v:PV}:kAsg env k (v,σ)=.ok (.next,env.set k (some v),σ):=rfl
theorem zf6 {e':Env'}:wg5 σ (some e')=.ok (.next,e',σ):=rfl
theorem zj0 {ks:List Nat} {l:List PV}:kUnp env ks l=zq9 ks l env:=rfl
theorem zg9 {ks:List Nat} {v:PV}:kAsgT env ks (v,σ)=wg5 σ ((ye7 σ v).bind (kUnp env ks)):=rfl
theorem zk8 {k:Nat} {q:PV}:kAug2 env k σ (some q)=.ok (.next,env.set k (some q),σ):=rfl
theorem zq3 {k:Nat} {o:BO} {v w:PV}:kAug env k o v (w,σ)=kAug2 env k σ (binP o v w):=rfl
theorem zm1 {k:Nat} {o:BO} {e:PE} {v:PV}:kAug0 C env k o e σ (some v)=((ev C e).1 env σ).bind (kAug env k o v):=rfl
variable {N:Nat}
theorem ze2 {a b:PSs}:kIf C env N a b (true,σ)=exs C N a env σ:=rfl
theorem zd8 {a b:PSs}:kIf C env N a b (false,σ)=exs C N b env σ:=rfl
theorem zc9 {v:PV}:kRet env (v,σ)=.ok (.ret v,env,σ):=rfl
theorem zq2 {l:List PV}:kRaise (l,σ)=.exc:=rfl
theorem wa9:kExp env (.none,σ)=.ok (.next,env,σ):=rfl
theorem ze3 {r:PSs}:kSeq C N r (.next,env,σ)=exs C N r env σ:=rfl
theorem kSeq_c {r:PSs}:kSeq C N r (.cont,env,σ)=.ok (.cont,env,σ):=rfl
theorem zd9 {r:PSs} {v:PV}:kSeq C N r (.ret v,env,σ)=.ok (.ret v,env,σ):=rfl
theorem zd7 {o:BO} {a b:PE}:(ev C (.bin o a b)).1 env σ=((ev C a).1 env σ).bind (kB1 C env o b):=rfl
theorem zx5 {a:PE}:(ev C (.neg a)).1 env σ=((ev C a).1 env σ).bind kNeg:=rfl
theorem wg7 {a:PE}:(ev C (.not a)).1 env σ=((ev C a).1 env σ).bind kNot:=rfl
theorem zk2 {c:Bool} {es:PEs}:(ev C (.bool c es)).1 env σ=(evs C es).b c env σ:=rfl
theorem zb1 {o:CO} {a b:PE}:(ev C (.cmp o a b)).1 env σ=((ev C a).1 env σ).bind (kC1 C env o b):=rfl
theorem yk0 {t a b:PE}:(ev C (.ite t a b)).1 env σ=((ev C t).2 env σ).bind (kI C env a b):=rfl
theorem zb3 {f:Nat} {es:PEs}:(ev C (.call f es)).1 env σ=((evs C es).vals env σ).bind (kCall C f):=rfl
theorem zh9 {f:BI} {es:PEs}:(ev C (.bi f es)).1 env σ=((evs C es).vals env σ).bind (kBi f):=rfl
theorem yr4 {m:ME} {o:PE} {es:PEs}:(ev C (.me m o es)).1 env σ=((ev C o).1 env σ).bind (kM1 C env m es):=rfl
theorem zd1 {a i:PE}:(ev C (.idx a i)).1 env σ=((ev C a).1 env σ).bind (kX1 C env i):=rfl
theorem zt4 {a lo hi:PE}:(ev C (.cut a lo hi)).1 env σ=((ev C a).1 env σ).bind (kT1 C env lo hi):=rfl
theorem ze8 {es:PEs}:(ev C (.tup es)).1 env σ=((evs C es).vals env σ).bind kTup:=rfl
theorem zu5 {es:PEs}:(ev C (.lst es)).1 env σ=((evs C es).vals env σ).bind kLst:=rfl
theorem zp2 {k:Nat}:(ev C (.var k)).2 env σ=((ev C (.var k)).1 env σ).bind kTr:=rfl
theorem zb7 {o:CO} {a b:PE}:(ev C (.cmp o a b)).2 env σ=((ev C (.cmp o a b)).1 env σ).bind kTr:=rfl
theorem tr_idx {a b:PE}:(ev C (.idx a b)).2 env σ=((ev C (.idx a b)).1 env σ).bind kTr:=rfl
theorem tr_cst {v:PV}:(ev C (.cst v)).2 env σ=((ev C (.cst v)).1 env σ).bind kTr:=rfl
theorem zf0 {f:Nat} {es:PEs}:(ev C (.call f es)).2 env σ=((ev C (.call f es)).1 env σ).bind kTr:=rfl
theorem tr_me {m:ME} {o:PE} {es:PEs}:(ev C (.me m o es)).2 env σ=((ev C (.me m o es)).1 env σ).bind kTr:=rfl
theorem zn1 {a:PE}:(ev C (.not a)).2 env σ=((ev C a).2 env σ).bind kTN:=rfl
theorem ze0 {c:Bool} {es:PEs}:(ev C (.bool c es)).2 env σ=(evs C es).a c env σ:=rfl
theorem tr_ite {t a b:PE}:(ev C (.ite t a b)).2 env σ=((ev C t).2 env σ).bind (kTI C env a b):=rfl
theorem za5:(evs C .nil).vals env σ=.ok ([],σ):=rfl
theorem za2 {e:PE} {r:PEs}:(evs C (.cons e r)).vals env σ=((ev C e).1 env σ).bind (kV1 C env r):=rfl
theorem ya4 {c:Bool} {e:PE}:(evs C (.cons e .nil)).b c env σ=(ev C e).1 env σ:=rfl
theorem zk0 {c:Bool} {e f:PE} {r:PEs}:(evs C (.cons e (.cons f r))).b c env σ=((ev C e).1 env σ).bind (kE1 C env c f r):=rfl
theorem zh2 {c:Bool}:(evs C .nil).a c env σ=.ok (c,σ):=rfl
theorem zd3 {c:Bool} {e:PE} {r:PEs}:(evs C (.cons e r)).a c env σ=((ev C e).2 env σ).bind (kA C env c r):=rfl
theorem zd4 {k:Nat} {e:PE}:ex C N (.asg k e) env σ=((ev C e).1 env σ).bind (kAsg env k):=rfl
theorem zf5 {ks:List Nat} {e:PE}:ex C N (.asgT ks e) env σ=((ev C e).1 env σ).bind (kAsgT env ks):=rfl
theorem ex_put {o i e:PE}:ex C N (.put o i e) env σ=((ev C e).1 env σ).bind fun r=>((ev C o).1 env r.2).bind fun q=>((ev C i).1 env q.2).bind fun t=>match q.1,t.1 with
   | .loc j,.int k=>(match t.2[j]? with
    | some l=>if 0≤k∧k < l.length then .ok (.next,env,t.2.set j (l.set k.toNat r.1)) else .stuck
    | none=>.stuck)
   | _,_=>.stuck:=rfl
theorem zq1 {k:Nat} {o:BO} {e:PE}:ex C N (.aug k o e) env σ=kAug0 C env k o e σ (env.getD k none):=rfl
theorem zb0 {t:PE} {a b:PSs}:ex C N (.iff t a b) env σ=((ev C t).2 env σ).bind (kIf C env N a b):=rfl
theorem yb3 {t:PE} {b:PSs}:ex C N (.whl t b) env σ=zj9 (ev C t).2 (exs C N b) N env σ:=rfl
theorem ex_forr {k:Nat} {lo hi:PE} {b:PSs}:ex C N (.forr k lo hi b) env σ=((ev C lo).1 env σ).bind fun r=>((ev C hi).1 env r.2).bind fun q=>match r.1,q.1 with
   | .int x,.int y=>if -1000000000 < x∧x < 1000000000∧-1000000000 < y∧y < 1000000000 then forN k (exs C N b) (y - x).toNat x env q.2 else .stuck
   | _,_=>.stuck:=rfl
theorem zc6 {e:PE}:ex C N (.ret e) env σ=((ev C e).1 env σ).bind (kRet env):=rfl
theorem zq5 {c:Nat} {es:PEs}:ex C N (.raise c es) env σ=((evs C es).vals env σ).bind kRaise:=rfl
theorem wb8 {e:PE}:ex C N (.exp e) env σ=((ev C e).1 env σ).bind (kExp env):=rfl
theorem ex_cont:ex C N .cont env σ=.ok (.cont,env,σ):=rfl
theorem zb5:exs C N .nil env σ=.ok (.next,env,σ):=rfl
theorem za8 {s:PS} {r:PSs}:exs C N (.cons s r) env σ=(ex C N s env σ).bind (kSeq C N r):=rfl
theorem zm8 {T:ET} {B:EX} {n:Nat} {env':Env'} {σ' σ'':za7} (hT:T env σ=.ok (true,σ')) (hB:B env σ'=.ok (.next,env',σ'')):zj9 T B (n+1) env σ=zj9 T B n env' σ'':=by
 rw [yc8]
 rw [hT,za1]; dsimp only; rw [hB]; rfl
theorem ys4 {T:ET} {B:EX} {n:Nat} {env':Env'} {σ' σ'':za7} {v:PV} (hT:T env σ=.ok (true,σ')) (hB:B env σ'=.ok (.ret v,env',σ'')):zj9 T B (n+1) env σ=.ok (.ret v,env',σ''):=by
 rw [yc8]
 rw [hT,za1]; dsimp only; rw [hB]; rfl
theorem zy8 {T:ET} {B:EX} {n:Nat} {σ':za7} (hT:T env σ=.ok (true,σ')) (hB:B env σ'=.exc):zj9 T B (n+1) env σ=.exc:=by
 rw [yc8]
 rw [hT,za1]; dsimp only; rw [hB]; rfl
theorem zr7 {T:ET} {B:EX} {n:Nat} {σ':za7} (hT:T env σ=.ok (false,σ')):zj9 T B (n+1) env σ=.ok (.next,env,σ'):=by
 rw [yc8]
 rw [hT]; rfl
end
theorem zb6 {N d k:Nat} {f:FD} {args:List PV} {σ:za7} (hf:fdOf k=some f) (h12:k≠12:=by decide) (h15:k≠15:=by decide) (h50:k≠50:=by decide):zc5 N (d+1) k args σ=yr6 (zc5 N d) N f args σ:=by
 rw [ye6]
 rw [if_neg h12,if_neg h15,if_neg h50,hf]
theorem runFD_eq {C:Nat→List PV→za7→Out (PV × za7)} {N:Nat} {d:FD} {args:List PV} {σ:za7} (h:args.length=d.npar):yr6 C N d args σ=(exs C N d.code (args.map some++List.replicate (d.nloc - d.npar) none) σ).bind fun q=>zh3 σ.length q.1 q.2.2:=by
 unfold yr6; rw [if_pos h]
theorem ya1 {l:List PV}:zd0 l=l.all zh8:=by
 induction l with
 | nil=>rfl
 | cons a r ih=>show (zh8 a && zd0 r)=_; rw [ih,List.all_cons]
theorem andT {a b:Bool} (h:a=true) (k:b=true):(a && b)=true:=by rw [h,k]; rfl
end Mine
namespace Mine
set_option tactic.hygienic false
set_option genSizeOfSpec false
set_option genSizeOf false
theorem zb9 {C:Nat→List PV→za7→Out (PV × za7)} {N:Nat} {d:FD} {args:List PV} {σ:za7} {env:Env'} (h:args.length=d.npar) (he:args.map some++List.replicate (d.nloc - d.npar) none=env):yr6 C N d args σ=(exs C N d.code env σ).bind fun q=>zh3 σ.length q.1 q.2.2:=by
 subst he; exact runFD_eq h
theorem za9 {α:Type} {a d:α} {l:List α}:(a::l).getD 0 d=a:=rfl
theorem zb2 {α:Type} {a d:α} {l:List α} {n:Nat}:(a::l).getD (n+1) d=l.getD n d:=rfl
theorem set0 {α:Type} {a b:α} {l:List α}:(a::l).set 0 b=b::l:=rfl
theorem sets {α:Type} {a b:α} {l:List α} {n:Nat}:(a::l).set (n+1) b=a::l.set n b:=rfl
theorem nl_s {s:List Nat}:zh8 (.str s)=true:=rfl
theorem nl_i {i:Int}:zh8 (.int i)=true:=rfl
theorem nl_t {l:List PV}:zh8 (.tup l)=zd0 l:=rfl
theorem nl_l {l:List PV}:zh8 (.list l)=zd0 l:=rfl
theorem ya9:zd0 []=true:=rfl
theorem zz3 {v:PV} {r:List PV}:zd0 (v::r)=(zh8 v && zd0 r):=rfl
mutual
theorem zx8 {n:Nat} {σ:za7}:∀ {v:PV},zh8 v=true→zp0 n σ v=some v
 | .none,_=>rfl
 | .bool _,_=>rfl
 | .int _,_=>rfl
 | .str _,_=>rfl
 | .tab _,_=>rfl
 | .list l,h=>if_pos h
 | .tup l,h=>congrArg (Option.map PV.tup) (yj2 h)
 | .loc k,h=>absurd (show false=true from h) (by decide)
theorem yj2 {n:Nat} {σ:za7}:∀ {l:List PV},zd0 l=true→zx2 n σ l=some l
 | [],_=>rfl
 | v::r,h=>by
  obtain ⟨h1,h2⟩:=Bool.and_eq_true_iff.mp h
  show ((zp0 n σ v).bind fun w=>(zx2 n σ r).map (w::·))=_
  rw [zx8 h1,yj2 h2]; rfl
end
theorem yz3 {n k:Nat} {σ:za7} {l:List PV} (h:n≤k) (hl:σ[k]?=some l) (hn:zd0 l=true):zp0 n σ (.loc k)=some (.list l):=by
 show (if n≤k then (match σ[k]? with | some l=>if zd0 l=true then some (PV.list l) else none | none=>none) else (none:Option PV))=_
 rw [if_pos h,hl]
 exact if_pos hn
theorem zb8 {σ:za7} {v:PV} (hv:zh8 v=true) (h:σ.all zd0=true):zh3 σ.length (.ret v) σ=.ok (v,σ):=by
 simp only [zh3,flP,zx8 hv,List.take_length,h,if_true]
inductive Tok where
 | op (s:List Nat)
 | int (v:Nat)
 | real (m:Nat) (e:Int)
 | dble (m:Nat) (e:Int)
 | log (b:Bool)
 | chr (s:List Nat)
 | nam (s:List Nat)
noncomputable def Tok.kd:Tok→List Nat
 | .op _=>[79,80]
 | .int _=>[73,78,84]
 | .real _ _=>[82,69,65,76]
 | .dble _ _=>[68,66,76,69]
 | .log _=>[76,79,71]
 | .chr _=>[67,72,65,82]
 | .nam _=>[78,65,77,69]
noncomputable def Tok.vl:Tok→PV
 | .op s=>.str s
 | .int v=>.int v
 | .real m e=>.tup [.int m,.int e]
 | .dble m e=>.tup [.int m,.int e]
 | .log b=>.bool b
 | .chr s=>.str s
 | .nam s=>.str s
noncomputable def tkPV (p:Tok × Nat):PV:=.tup [.str p.1.kd,p.1.vl,.int p.2]
noncomputable abbrev Toks:=List (Tok × Nat)
noncomputable def tkL (ts:Toks):PV:=.list (ts.map tkPV)
noncomputable def isOp (s:List Nat):Toks→Bool
 | (.op t,_)::_=>decide (t=s)
 | _=>false
noncomputable def kindOf:Toks→List Nat
 | (t,_)::_=>t.kd
 | []=>[]
section
variable {ts:Toks} {at_:Nat} {σ:za7}
theorem tk_nl (p:Tok × Nat):zh8 (tkPV p)=true:=by
 obtain ⟨t,n⟩:=p; cases t <;> rfl
theorem tks_nl:∀ (ts:Toks),zd0 (ts.map tkPV)=true
 | []=>rfl
 | p::r=>by rw [List.map_cons,zz3,tk_nl,tks_nl r]; rfl
theorem yb8 (h:ts.length≤szL):biP σ .len [tkL ts]=some (.int ts.length):=by
 exact (if_pos (by rw [List.length_map]; exact h)).trans (congrArg (fun n:Nat=>some (PV.int n)) (List.length_map _))
theorem ye0 {k n:Nat} (h:k < n):zv6 (k:Int) n=some k:=by
 unfold zv6
 rw [if_pos (Int.natCast_nonneg k),Int.toNat_natCast,if_pos h]
theorem yu7 {l:List PV} {k:Nat} {v:PV} (hk:l[k]?=some v) (hl:l.length≤szL):idxP σ (.list l) (.int k)=some v:=by
 have h1:k < l.length:=(List.getElem?_eq_some_iff.mp hk).1
 have h2:(Int.natAbs (k:Int)) < 2 ^ 62:=by
  have:szL < 2 ^ 62:=by decide
  simp only [Int.natAbs_natCast]; exact j18 h1 hl this
 show (if Int.natAbs (k:Int) < 2 ^ 62 then (zv6 k l.length).bind (l[·]?) else none)=some v
 rw [if_pos h2,ye0 h1]; exact hk
theorem wg8 {p:Tok × Nat} {r:Toks} (hd:ts.drop at_=p::r) (h:ts.length≤szL):idxP σ (tkL ts) (.int at_)=some (tkPV p):=by
 refine yu7 ?_ (by simpa using h)
 have:ts[at_]?=some p:=by
  have:=congrArg (fun l=>l[0]?) hd
  simpa using this
 simp [this]
theorem lt_tk {p:Tok × Nat} {r:Toks} (hd:ts.drop at_=p::r):at_ < ts.length:=by
 have:=congrArg List.length hd
 simp only [List.length_drop,List.length_cons] at this; exact Nat.lt_of_sub_eq_succ this
theorem ge_tk (hd:ts.drop at_=[]):ts.length≤at_:=by
 have:=congrArg List.length hd
 simp only [List.length_drop,List.length_nil] at this; exact Nat.le_of_sub_eq_zero this
theorem zc7 (a b:List Nat):cmpP .eq (.str a) (.str b)=some (decide (a=b)):=rfl
theorem yd9 (a b:List Nat):cmpP .ne (.str a) (.str b)=some (!decide (a=b)):=rfl
theorem ze6 (a b:Int):cmpP .eq (.int a) (.int b)=some (decide (a=b)):=rfl
theorem zf4 (a b:Int):cmpP .lt (.int a) (.int b)=some (decide (a < b)):=rfl
theorem wh3 (a b:Int):cmpP .le (.int a) (.int b)=some (decide (a≤b)):=rfl
theorem zk4 (a b:Int):cmpP .gt (.int a) (.int b)=some (decide (b < a)):=rfl
theorem ye4 (a b:Int):cmpP .ge (.int a) (.int b)=some (decide (b≤a)):=rfl
theorem tr_b (b:Bool):zm5 σ (.bool b)=some b:=rfl
theorem bt1:(true == true)=true:=rfl
theorem bt2:(false == true)=false:=rfl
theorem bt3:(true == false)=false:=rfl
theorem bt4:(false == false)=true:=rfl
theorem yg1 (p:Tok × Nat):idxP σ (tkPV p) (.int 0)=some (.str p.1.kd):=rfl
theorem zj4 (p:Tok × Nat):idxP σ (tkPV p) (.int 1)=some p.1.vl:=rfl
theorem zd5 (a b:Int):binP .add (.int a) (.int b)=some (.int (a+b)):=rfl
theorem zg6 (a b:Int):binP .sub (.int a) (.int b)=some (.int (a - b)):=rfl
theorem ci1 (a:Nat):(a:Int)+1=((a+1:Nat):Int):=rfl
end
theorem rc_app {k:Nat}:yc2 .append (.loc k)=true:=rfl
theorem rc_pop {k:Nat}:yc2 .pop (.loc k)=true:=rfl
theorem rc_get {k:Nat}:yc2 .get (.tab k)=true:=rfl
theorem rc_aln {s:List Nat}:yc2 .isalnum (.str s)=true:=rfl
theorem yz6 {σ:za7} {k:Nat} {v:PV} {l:List PV} (h1:σ[k]?=some l) (h2:l.length < szL):meP .append (.loc k) [v] σ=.ok (.none,σ.set k (l++[v])):=by
 show appP k v σ=_
 unfold appP
 rw [h1]; exact if_pos h2
theorem me_pop {σ:za7} {k:Nat} {v:PV} {l:List PV} (h1:σ[k]?=some l) (h2:l.getLast?=some v):meP .pop (.loc k) [] σ=.ok (v,σ.set k l.dropLast):=by
 show popP k σ=_
 unfold popP
 rw [h1]
 dsimp only
 rw [h2]
theorem me_get {σ:za7} {k:Nat} {s:List Nat} {d:Int}:meP .get (.tab k) [.str s,.int d] σ=.ok ((tabP k s).getD (.int d),σ):=rfl
theorem l_ms {α β:Type} {f:α→β} {a:α}:Option.map f (some a)=some (f a):=rfl
theorem l_mn {α β:Type} {f:α→β}:Option.map f none=none:=rfl
theorem l_bs {α β:Type} {f:α→Option β} {a:α}:(some a).bind f=f a:=rfl
theorem l_bn {α β:Type} {f:α→Option β}:(none:Option α).bind f=none:=rfl
theorem l_it {σ:za7} {l:List PV}:ye7 σ (.tup l)=some l:=rfl
theorem l_il {σ:za7} {k:Nat}:ye7 σ (.loc k)=σ[k]?:=rfl
theorem l_sn {env:Env'}:zq9 [] [] env=some env:=rfl
theorem l_sc {k:Nat} {ks:List Nat} {v:PV} {vs:List PV} {env:Env'}:zq9 (k::ks) (v::vs) env=zq9 ks vs (env.set k (some v)):=rfl
theorem l_dt {h:Decidable True}:@decide True h=true:=decide_true h
theorem l_df {h:Decidable False}:@decide False h=false:=decide_false h
theorem l_nt:(!true)=false:=rfl
theorem l_nf:(!false)=true:=rfl
theorem l_tt {α:Type} {h:Decidable True} {a b:α}:@ite α True h a b=a:=if_pos trivial
theorem l_ff {α:Type} {h:Decidable False} {a b:α}:@ite α False h a b=b:=if_neg not_false
theorem l_lt {m n:Nat}:((m:Int) < (n:Int))=(m < n):=propext Int.ofNat_lt
theorem l_le {m n:Nat}:((m:Int)≤(n:Int))=(m≤n):=propext Int.ofNat_le
theorem l_eq {m n:Nat}:((m:Int)=(n:Int))=(m=n):=propext Int.ofNat_inj
theorem l_pt:(¬ True)=False:=not_true_eq_false
theorem l_pf:(¬ False)=True:=not_false_eq_true
theorem wf0 {N d:Nat} {ts:Toks} {a:Nat} {s:List Nat} {σ:za7} (hl:ts.length≤szL) (hσ:σ.all zd0=true) :
  zc5 N (d+1) 22 [tkL ts,.int a,.str s] σ=.ok (.bool (isOp s (ts.drop a)),σ):=by
 rw [zb6 (f:=c22) rfl,zb9 (env:=[some (tkL ts),some (.int a),some (.str s)]) rfl rfl]
 unfold c22
 cases hd:ts.drop a with
 | nil =>
  have:=ge_tk hd
  simp only [za8,zc6,za3,zk2,zb1,zh9,za5,za2,zk0,za1,za0,za9,zb2,l_ms,tr_b,bt2,l_df,zf4,l_lt,zc4,zc3,zh6,zc1,zc2,yg2,ye2,zc9,zd9,yb8 hl,Nat.not_lt.mpr this]
  exact zb8 (v:=.bool false) rfl hσ
 | cons p r =>
  have:=lt_tk hd
  obtain ⟨t,n⟩:=p
  cases t with
  | op t =>
   simp only [za8,zc6,za3,za4,zk2,zb1,zh9,zd1,za5,za2,ya4,zk0,za1,za0,za9,zb2,l_ms,tr_b,bt1,l_dt,zc7,zf4,yg1,zj4,l_lt,zc4,zc3,zh6,ze4,ze5,zc1,zc2,yg2,ye2,zc9,zd9,yb8 hl,this,wg8 hd hl,Tok.kd,Tok.vl]
   exact zb8 (v:=.bool (decide (t=s))) rfl hσ
  | _ =>
   have:∀ l:List Nat,l=[79,80]→True:=fun _ _=>trivial
   simp only [za8,zc6,za3,za4,zk2,zb1,zh9,zd1,za5,za2,zk0,za1,za0,za9,zb2,l_ms,tr_b,bt1,bt2,l_dt,l_df,zc7,zf4,yg1,l_lt,zc4,zc3,zh6,ze4,ze5,zc1,zc2,yg2,ye2,zc9,zd9,yb8 hl,lt_tk hd,wg8 hd hl,Tok.kd,show (([73,78,84]:List Nat)=[79,80])=False by decide,show (([82,69,65,76]:List Nat)=[79,80])=False by decide,show (([68,66,76,69]:List Nat)=[79,80])=False by decide,show (([76,79,71]:List Nat)=[79,80])=False by decide,show (([67,72,65,82]:List Nat)=[79,80])=False by decide,show (([78,65,77,69]:List Nat)=[79,80])=False by decide]
   exact zb8 (v:=.bool false) rfl hσ
end Mine
namespace Mine
set_option tactic.hygienic false
set_option genSizeOfSpec false
set_option genSizeOf false
set_option genInjectivity false
set_option genInjectivity true in
inductive Num where
 | int (i:Int)
 | real (m e:Int)
 deriving DecidableEq
mutual
inductive Tr where
 | bin (op:List Nat) (l r:Tr)
 | un (op:List Nat) (a:Tr)
 | nam (s:List Nat)
 | ref (s:List Nat) (args:Trs)
 | sub (base:Tr) (lo hi:TrO)
 | int (i:Int)
 | real (m e:Int)
 | dble (m e:Int)
 | log (b:Bool)
 | chr (s:List Nat)
 | cplx (a b:Num)
inductive TrO where
 | none
 | some (t:Tr)
inductive Trs where
 | nil
 | cons (t:Tr) (r:Trs)
end
noncomputable def Num.pv:Num→PV
 | .int i=>.tup [.str [105,110,116],.int i]
 | .real m e=>.tup [.str [114,101,97,108],.int m,.int e]
mutual
noncomputable def Tr.pv:Tr→PV
 | .bin op l r=>.tup [.str [98,105,110],.str op,l.pv,r.pv]
 | .un op a=>.tup [.str [117,110],.str op,a.pv]
 | .nam s=>.tup [.str [110,97,109,101],.str s]
 | .ref s as=>.tup [.str [114,101,102],.str s,.list as.pvs]
 | .sub b lo hi=>.tup [.str [115,117,98],b.pv,lo.pv,hi.pv]
 | .int i=>.tup [.str [105,110,116],.int i]
 | .real m e=>.tup [.str [114,101,97,108],.int m,.int e]
 | .dble m e=>.tup [.str [100,98,108,101],.int m,.int e]
 | .log b=>.tup [.str [108,111,103],.bool b]
 | .chr s=>.tup [.str [99,104,97,114],.str s]
 | .cplx a b=>.tup [.str [99,112,108,120],a.pv,b.pv]
noncomputable def TrO.pv:TrO→PV
 | .none=>.none
 | .some t=>t.pv
noncomputable def Trs.pvs:Trs→List PV
 | .nil=>[]
 | .cons t r=>t.pv::r.pvs
end
theorem pv_bin {op:List Nat} {l r:Tr}:Tr.pv (.bin op l r)=.tup [.str [98,105,110],.str op,l.pv,r.pv]:=rfl
theorem pv_un {op:List Nat} {a:Tr}:Tr.pv (.un op a)=.tup [.str [117,110],.str op,a.pv]:=rfl
theorem pv_nam {s:List Nat}:Tr.pv (.nam s)=.tup [.str [110,97,109,101],.str s]:=rfl
theorem pv_ref {s:List Nat} {as:Trs}:Tr.pv (.ref s as)=.tup [.str [114,101,102],.str s,.list as.pvs]:=rfl
theorem pv_sub {b:Tr} {lo hi:TrO}:Tr.pv (.sub b lo hi)=.tup [.str [115,117,98],b.pv,lo.pv,hi.pv]:=rfl
theorem pv_int {i:Int}:Tr.pv (.int i)=.tup [.str [105,110,116],.int i]:=rfl
theorem pv_real {m e:Int}:Tr.pv (.real m e)=.tup [.str [114,101,97,108],.int m,.int e]:=rfl
theorem pv_dble {m e:Int}:Tr.pv (.dble m e)=.tup [.str [100,98,108,101],.int m,.int e]:=rfl
theorem pv_log {b:Bool}:Tr.pv (.log b)=.tup [.str [108,111,103],.bool b]:=rfl
theorem pv_chr {s:List Nat}:Tr.pv (.chr s)=.tup [.str [99,104,97,114],.str s]:=rfl
theorem pv_cplx {a b:Num}:Tr.pv (.cplx a b)=.tup [.str [99,112,108,120],a.pv,b.pv]:=rfl
theorem we0:TrO.pv .none=.none:=rfl
theorem wd8 {t:Tr}:TrO.pv (.some t)=t.pv:=rfl
theorem pvS_n:Trs.pvs .nil=[]:=rfl
theorem pvS_c {t:Tr} {r:Trs}:Trs.pvs (.cons t r)=t.pv::r.pvs:=rfl
theorem Num.pv_nl (a:Num):zh8 a.pv=true:=by cases a <;> rfl
mutual
theorem Tr.pv_nl:∀ t:Tr,zh8 t.pv=true
 | .bin _ l r=>(andT rfl (andT rfl (andT l.pv_nl (andT r.pv_nl rfl))):(true && (true && (zh8 l.pv && (zh8 r.pv && true))))=true)
 | .un _ a=>(andT rfl (andT rfl (andT a.pv_nl rfl)):(true && (true && (zh8 a.pv && true)))=true)
 | .nam _=>rfl
 | .ref _ as=>(andT rfl (andT rfl (andT (Trs.pvs_nl as) rfl)):(true && (true && (zd0 as.pvs && true)))=true)
 | .sub b lo hi=>(andT rfl (andT b.pv_nl (andT lo.pv_nl (andT hi.pv_nl rfl))):(true && (zh8 b.pv && (zh8 lo.pv && (zh8 hi.pv && true))))=true)
 | .int _=>rfl
 | .real _ _=>rfl
 | .dble _ _=>rfl
 | .log _=>rfl
 | .chr _=>rfl
 | .cplx a b=>(andT rfl (andT a.pv_nl (andT b.pv_nl rfl)):(true && (zh8 a.pv && (zh8 b.pv && true)))=true)
theorem TrO.pv_nl:∀ t:TrO,zh8 t.pv=true
 | .none=>rfl
 | .some t=>t.pv_nl
theorem Trs.pvs_nl:∀ t:Trs,zd0 t.pvs=true
 | .nil=>rfl
 | .cons t r=>(andT t.pv_nl r.pvs_nl:(zh8 t.pv && zd0 r.pvs)=true)
end
noncomputable def prioT:List (List Nat × Nat):=[([46,69,81,86,46],1),([46,78,69,81,86,46],1),([46,79,82,46],2),([46,65,78,68,46],3),
 ([46,69,81,46],5),([46,78,69,46],5),([46,76,84,46],5),([46,76,69,46],5),([46,71,84,46],5),([46,71,69,46],5),
 ([47,47],6),([43],7),([45],7),([42],8),([47],8),([42,42],9)]
noncomputable def zg0 (s:List Nat):Nat:=(prioT.lookup s).getD 0
theorem yi9 {α β γ:Type} [BEq α] (f:β→γ) (a:α):∀ l:List (α × β),(l.map fun p=>(p.1,f p.2)).lookup a=(l.lookup a).map f
 | []=>rfl
 | (x,y)::r=>by
  simp only [List.map_cons,List.lookup_cons]
  cases h:a == x <;> simp [yi9 f a r]
theorem prio_tab (s:List Nat):(tabP 2 s).getD (.int 0)=.int (zg0 s):=by
 have e:priosT=prioT.map fun p=>(p.1,PV.int (p.2:Nat)):=rfl
 show (priosT.lookup s).getD (.int 0)=_
 rw [e,yi9 (fun n:Nat=>PV.int n) s prioT,zg0]
 cases prioT.lookup s <;> rfl
noncomputable def prio:Toks→Nat
 | (.op s,_)::_=>zg0 s
 | _=>0
noncomputable def opTx:Toks→List Nat
 | (.op s,_)::_=>s
 | _=>[]
noncomputable abbrev tLP:List Nat:=[40]
noncomputable abbrev tRP:List Nat:=[41]
noncomputable abbrev tCM:List Nat:=[44]
noncomputable abbrev tCL:List Nat:=[58]
noncomputable abbrev tPL:List Nat:=[43]
noncomputable abbrev tMI:List Nat:=[45]
noncomputable abbrev tNOT:List Nat:=[46,78,79,84,46]
noncomputable def zi6 (s:List Nat) (l:Toks):Out Toks:=match isOp s l with | true=>.ok l.tail | false=>.exc
noncomputable def zt0 (l:Toks):Option Toks:=match (match isOp tPL l || isOp tMI l with | true=>l.tail | false=>l) with
 | (.int _,_)::r=>some r
 | (.real _ _,_)::r=>some r
 | _=>none
noncomputable def zw4 (l:Toks):Bool:=match zt0 l.tail with
 | none=>false
 | some c=>match isOp tCM c with
  | false=>false
  | true=>match zt0 c.tail with
   | none=>false
   | some e=>isOp tRP e
noncomputable def zk1 (l:Toks):Out (Num × Toks) :=
 match (match l with | (.op _,_)::r=>r | _=>l) with
 | (.int v,_)::r=>.ok (.int ((if isOp tMI l then (-1:Int) else 1) * v),r)
 | (.real m e,_)::r=>.ok (.real ((if isOp tMI l then (-1:Int) else 1) * m) e,r)
 | _=>.stuck
noncomputable def zg1:Toks→Int→Option Nat
 | [],_=>none
 | l@(_::r),dp=>match isOp tLP l with
  | true=>(zg1 r (dp+1)).map (·+1)
  | false=>match isOp tRP l with
   | true=>if dp - 1=0 then some 0 else (zg1 r (dp - 1)).map (·+1)
   | false=>(zg1 r dp).map (·+1)
noncomputable def zi3:Nat→Toks→Int→Bool
 | 0,_,_=>false
 | _,[],_=>false
 | k+1,l@(_::r),dp=>match isOp tLP l with
  | true=>zi3 k r (dp+1)
  | false=>match isOp tRP l with
   | true=>zi3 k r (dp - 1)
   | false=>if dp=0∧isOp tCL l=true then true else zi3 k r dp
theorem zr4 {p:Tok × Nat} {r:Toks} {dp:Int}:zg1 (p::r) dp=match isOp tLP (p::r) with
  | true=>(zg1 r (dp+1)).map (·+1)
  | false=>match isOp tRP (p::r) with
   | true=>if dp - 1=0 then some 0 else (zg1 r (dp - 1)).map (·+1)
   | false=>(zg1 r dp).map (·+1):=rfl
theorem zr5 {k:Nat} {p:Tok × Nat} {r:Toks} {dp:Int}:zi3 (k+1) (p::r) dp=match isOp tLP (p::r) with
  | true=>zi3 k r (dp+1)
  | false=>match isOp tRP (p::r) with
   | true=>zi3 k r (dp - 1)
   | false=>if dp=0∧isOp tCL (p::r)=true then true else zi3 k r dp:=rfl
noncomputable def yg0 (l:Toks):Out Bool:=match zg1 l 0 with
 | none=>.exc
 | some k=>.ok (zi3 (k - 1) l.tail 0)
section
variable (rec:Nat→Toks→Out (Tr × Toks))
noncomputable def zn7:Nat→Toks→Out (Trs × Toks)
 | 0,_=>.stuck
 | k+1,l=>(rec 1 l).bind fun q=>match isOp tCM q.2 with
  | true=>(zn7 k q.2.tail).bind fun rs=>.ok (.cons q.1 rs.1,rs.2)
  | false=>(zi6 tRP q.2).bind fun r=>.ok (.cons q.1 .nil,r)
noncomputable def zz2 (l:Toks):Out (Trs × Toks):=(zi6 tLP l).bind fun l=>match isOp tRP l with
 | true=>.ok (.nil,l.tail)
 | false=>zn7 rec (l.length+1) l
noncomputable def zv4 (s:List Nat) (l:Toks):Out (TrO × Toks):=match isOp s l with
 | true=>.ok (.none,l)
 | false=>(rec 1 l).bind fun q=>.ok (.some q.1,q.2)
noncomputable def pCut (base:Tr) (l:Toks):Out (Tr × Toks):=(zi6 tLP l).bind fun l=>(zv4 rec tCL l).bind fun a=>(zi6 tCL a.2).bind fun l=>(zv4 rec tRP l).bind fun b=>(zi6 tRP b.2).bind fun l=>.ok (.sub base a.1 b.1,l)
noncomputable def zp4 (s:List Nat) (l:Toks):Out (Tr × Toks):=match isOp tLP l with
 | false=>.ok (.nam s,l)
 | true=>(yg0 l).bind fun c=>((match c with | true=>.ok (.nam s,l) | false=>(zz2 rec l).bind fun q=>.ok (.ref s q.1,q.2)):Out (Tr × Toks)).bind fun b=>match isOp tLP b.2 with
  | true=>pCut rec b.1 b.2
  | false=>.ok b
noncomputable def zi8 (l:Toks):Out (Tr × Toks):=match zw4 l with
 | true=>(zk1 l.tail).bind fun a=>(zk1 a.2.tail).bind fun b=>(zi6 tRP b.2).bind fun r=>.ok (.cplx a.1 b.1,r)
 | false=>(rec 1 l.tail).bind fun q=>(zi6 tRP q.2).bind fun r=>.ok (q.1,r)
noncomputable def yq2 (l:Toks):Out (Tr × Toks):=match l with
 | []=>.exc
 | (.nam s,_)::r=>zp4 rec s r
 | (.op s,_)::_=>if s=tLP then zi8 rec l else .exc
 | (.int v,_)::r=>.ok (.int v,r)
 | (.real m e,_)::r=>.ok (.real m e,r)
 | (.dble m e,_)::r=>.ok (.dble m e,r)
 | (.log b,_)::r=>.ok (.log b,r)
 | (.chr s,_)::r=>.ok (.chr s,r)
noncomputable def zk9 (recU:Nat→Toks→Out (Tr × Toks)) (least:Nat) (l:Toks):Out (Tr × Toks):=match isOp tNOT l with
 | true=>if 4 < least then .exc else (recU 5 l.tail).bind fun q=>.ok (.un tNOT q.1,q.2)
 | false=>match isOp tPL l || isOp tMI l with
  | true=>if 7 < least then .exc else (recU 8 l.tail).bind fun q=>.ok (.un (opTx l) q.1,q.2)
  | false=>yq2 rec l
noncomputable def zy2 (least:Nat):Nat→Tr→Bool→Toks→Out (Tr × Toks)
 | 0,_,_,_=>.stuck
 | k+1,t,was,l=>if least≤prio l then
   (if prio l=5∧was=true then .exc else (rec (if prio l=9 then 9 else prio l+1) l.tail).bind fun q=>zy2 least k (.bin (opTx l) t q.1) (decide (prio l=5)) q.2)
  else .ok (t,l)
end
noncomputable def pB:Nat→Nat→Toks→Out (Tr × Toks)
 | n+6,least,l=>(zk9 (pB n) (pB (n+4)) least l).bind fun q=>zy2 (pB (n+5)) least (l.length+1) q.1 false q.2
 | _,_,_=>.stuck
theorem zz8 {rec:Nat→Toks→Out (Tr × Toks)} {least k:Nat} {t:Tr} {was:Bool} {l:Toks}:zy2 rec least (k+1) t was l=if least≤prio l then
   (if prio l=5∧was=true then .exc else (rec (if prio l=9 then 9 else prio l+1) l.tail).bind fun q=>zy2 rec least k (.bin (opTx l) t q.1) (decide (prio l=5)) q.2)
  else .ok (t,l):=rfl
theorem zr1 {rec:Nat→Toks→Out (Tr × Toks)} {k:Nat} {l:Toks}:zn7 rec (k+1) l=(rec 1 l).bind fun q=>match isOp tCM q.2 with
  | true=>(zn7 rec k q.2.tail).bind fun rs=>.ok (.cons q.1 rs.1,rs.2)
  | false=>(zi6 tRP q.2).bind fun r=>.ok (.cons q.1 .nil,r):=rfl
theorem yx7 {n least:Nat} {l:Toks}:pB (n+6) least l=(zk9 (pB n) (pB (n+4)) least l).bind fun q=>zy2 (pB (n+5)) least (l.length+1) q.1 false q.2:=rfl
noncomputable def fuelP:Nat:=450
noncomputable def parse (l:Toks):Out Tr:=(pB fuelP 1 l).bind fun q=>match q.2 with | []=>.ok q.1 | _::_=>.exc
end Mine
namespace Mine
set_option tactic.hygienic false
noncomputable def pos (ts l:Toks):Nat:=ts.length - l.length
theorem ym1 {ts l:Toks} (h:l <:+ ts):ts.drop (pos ts l)=l:=by
 obtain ⟨p,rfl⟩:=h
 simp [pos]
theorem ze1 {ts r:Toks} {x:Tok × Nat} (h:x::r <:+ ts):pos ts (x::r)+1=pos ts r:=by
 haveI:=h.length_le
 simp only [List.length_cons] at this
 simp only [pos,List.length_cons]; exact j467 this
theorem zi2 {ts r:Toks} {x:Tok × Nat} (h:x::r <:+ ts):r <:+ ts:=(List.suffix_cons x r).trans h
theorem pos_lt {ts r:Toks} {x:Tok × Nat} (h:x::r <:+ ts):pos ts (x::r) < ts.length:=lt_tk (ym1 h)
theorem wg3 {ts:Toks}:pos ts []=ts.length:=by simp [pos]
theorem zg7 {s:List Nat} {l:Toks} (h:isOp s l=true):∃ n r,l=(.op s,n)::r:=by
 rcases l with _ | ⟨⟨t,n⟩,r⟩
 ·exact nb h
 ·cases t with
  | op t=>exact ⟨n,r,by rw [show t=s from of_decide_eq_true h]⟩
  | _=>exact nb h
section
variable {N d:Nat} {ts l:Toks} {σ:za7}
theorem zg5 (hl:ts.length≤szL) (hσ:σ.all zd0=true) (h:l <:+ ts) (s:List Nat):zc5 N (d+1) 22 [tkL ts,.int (pos ts l),.str s] σ=.ok (.bool (isOp s l),σ):=by
 rw [wf0 hl hσ,ym1 h]
theorem zu1 {p:Tok × Nat} {r:Toks} (hl:ts.length≤szL) (h:p::r <:+ ts):idxP σ (tkL ts) (.int (pos ts (p::r)))=some (tkPV p):=wg8 (ym1 h) hl
theorem yq9 (hl:ts.length≤szL) (hσ:σ.all zd0=true) (h:l <:+ ts):zc5 N (d+1) 21 [tkL ts,.int (pos ts l)] σ=.ok (.str (kindOf l),σ):=by
 rw [zb6 (f:=c21) rfl,zb9 (env:=[some (tkL ts),some (.int (pos ts l))]) rfl rfl]
 unfold c21
 cases l with
 | nil =>
  simp only [za8,zb5,zb0,zc6,za3,za4,zb1,zh9,zb7,za5,za2,za1,za0,za9,zb2,l_ms,tr_b,l_df,zf4,l_lt,zc4,zc3,zh6,zc0,zc1,zc2,zd8,zc9,ze3,zd9,yb8 hl,wg3,Nat.lt_irrefl]
  exact zb8 (v:=.str []) rfl hσ
 | cons p r =>
  simp only [za8,zb0,zc6,za3,za4,zb1,zh9,zd1,zb7,za5,za2,za1,za0,za9,zb2,l_ms,tr_b,l_dt,zf4,yg1,l_lt,zc4,zc3,zh6,ze4,ze5,zc0,zc1,zc2,ze2,zc9,zd9,yb8 hl,pos_lt h,zu1 hl h]
  exact zb8 (v:=.str p.1.kd) rfl hσ
theorem yf8 (hl:ts.length≤szL) (hσ:σ.all zd0=true) (h:l <:+ ts) (s:List Nat) (hs:s.length≤10):zc5 N (d+2) 23 [tkL ts,.int (pos ts l),.str s] σ=(zi6 s l).bind fun r=>.ok (.int (pos ts r),σ):=by
 rw [zb6 (f:=c23) rfl,zb9 (env:=[some (tkL ts),some (.int (pos ts l)),some (.str s)]) rfl rfl]
 unfold c23
 simp only [za8,zb0,za3,zb3,zf0,zn1,za5,za2,za1,za0,za9,zb2,tr_b,zb4,zc0,zv5,zc1,zc2,zg5 hl hσ h]
 unfold zi6
 cases hi:isOp s l with
 | false =>
  haveI ha:∀ t:List Nat,t.length≤30→binP .add (.str t) (.str s)=some (.str (t++s)):=fun t ht=>by
   have:t.length+s.length≤szL:=by
    have:(40:Nat)≤szL:=by decide
    exact j227 this hs ht
   exact if_pos this
  simp (disch:=decide) only [za8,zq5,za3,za4,zd7,za5,za2,za1,ze7,za0,za9,zb2,l_nf,zf2,zf1,zc1,zc2,ze2,zq2,ha]
 | true =>
  obtain ⟨n,r,rfl⟩:=zg7 hi
  simp only [za8,zb5,zc6,za3,za4,zd7,za1,za0,za9,zb2,l_nt,zd5,ci1,zf2,zf1,zd8,zc9,ze3,zd9,List.tail_cons,ze1 h]
  exact zb8 (v:=.int _) rfl hσ
theorem wj3 (hl:ts.length≤szL) (hσ:σ.all zd0=true) (h:l <:+ ts):zc5 N (d+2) 27 [tkL ts,.int (pos ts l)] σ=.ok (.int (prio l),σ):=by
 rw [zb6 (f:=c27) rfl,zb9 (env:=[some (tkL ts),some (.int (pos ts l))]) rfl rfl]
 unfold c27
 simp only [za8,zb0,za3,za4,zb1,zb3,zb7,za5,za2,za1,za0,za9,zb2,l_ms,tr_b,yd9,zc4,zc3,zb4,zc0,zc1,zc2,yq9 hl hσ h]
 match l,h with
 | [],h =>
  simp only [kindOf,show (([]:List Nat)=[79,80])=False by decide,za8,zc6,za4,za1,l_df,l_nf,ze2,zc9,zd9]
  exact zb8 (v:=.int 0) rfl hσ
 | (.op s,n)::r,h =>
  simp only [kindOf,Tok.kd,za8,zb5,zc6,za3,za4,yr4,zd1,za5,za2,za1,za0,za9,zb2,l_dt,l_nt,zj4,ys8,yq4,ze4,ze5,zc1,zc2,zd8,zc9,ze3,zd9,zu1 hl h,rc_get,me_get,Tok.vl,prio_tab]
  exact zb8 (v:=.int _) rfl hσ
 | (.int _,n)::r,h
 | (.real _ _,n)::r,h
 | (.dble _ _,n)::r,h
 | (.log _,n)::r,h
 | (.chr _,n)::r,h
 | (.nam _,n)::r,h =>
  simp (decide:=true) only [kindOf,Tok.kd,za8,zc6,za4,za1,l_df,l_nf,ze2,zc9,zd9]
  exact zb8 (v:=.int 0) rfl hσ
theorem k_int {sg:Int} {v:Nat} (hσ:σ.all zd0=true) (hs:sg.natAbs≤1):zc5 N (d+1) 32 [.str [73,78,84],.int v,.int sg] σ=.ok (.tup [.str [105,110,116],.int (sg * v)],σ):=by
 rw [zb6 (f:=c32) rfl,zb9 (env:=[some (.str [73,78,84]),some (.int v),some (.int sg)]) rfl rfl]
 unfold c32
 haveI hm:binP .mul (.int sg) (.int v)=some (.int (sg * v)):=by
  have:sg.natAbs < 2 ^ 63:=by lia
  exact if_pos this
 simp (decide:=true) only [za8,zb0,zc6,za3,za4,zd7,zb1,ze8,zb7,za5,za2,za1,za0,za9,zb2,l_ms,tr_b,l_dt,zc7,zf2,zf1,zc4,zc3,ze9,zc0,zc1,zc2,ze2,zc9,zd9,hm]
 exact zb8 (v:=.tup [.str [105,110,116],.int (sg * v)]) rfl hσ
theorem k_real {sg e:Int} {m:Nat} (hσ:σ.all zd0=true) (hs:sg.natAbs≤1):zc5 N (d+1) 32 [.str [82,69,65,76],.tup [.int m,.int e],.int sg] σ=.ok (.tup [.str [114,101,97,108],.int (sg * m),.int e],σ):=by
 rw [zb6 (f:=c32) rfl,zb9 (env:=[some (.str [82,69,65,76]),some (.tup [.int m,.int e]),some (.int sg)]) rfl rfl]
 unfold c32
 have hm:binP .mul (.int sg) (.int m)=some (.int (sg * m)):=by
  have:sg.natAbs < 2 ^ 63:=by lia
  exact if_pos this
 have h0:∀ σ,idxP σ (.tup [.int m,.int e]) (.int 0)=some (.int m):=fun _=>rfl
 have h1:∀ σ,idxP σ (.tup [.int m,.int e]) (.int 1)=some (.int e):=fun _=>rfl
 simp (decide:=true) only [za8,zb5,zb0,zc6,za3,za4,zd7,zb1,zd1,ze8,zb7,za5,za2,za1,za0,za9,zb2,l_ms,tr_b,l_dt,l_df,zc7,zf2,zf1,zc4,zc3,ze4,ze5,ze9,zc0,zc1,zc2,ze2,zd8,zc9,ze3,zd9,hm,h0,h1]
 exact zb8 (v:=.tup [.str [114,101,97,108],.int (sg * m),.int e]) rfl hσ
theorem k_dble {sg e:Int} {m:Nat} (hσ:σ.all zd0=true) (hs:sg.natAbs≤1):zc5 N (d+1) 32 [.str [68,66,76,69],.tup [.int m,.int e],.int sg] σ=.ok (.tup [.str [100,98,108,101],.int (sg * m),.int e],σ):=by
 rw [zb6 (f:=c32) rfl,zb9 (env:=[some (.str [68,66,76,69]),some (.tup [.int m,.int e]),some (.int sg)]) rfl rfl]
 unfold c32
 have hm:binP .mul (.int sg) (.int m)=some (.int (sg * m)):=by
  have:sg.natAbs < 2 ^ 63:=by lia
  exact if_pos this
 have h0:∀ σ,idxP σ (.tup [.int m,.int e]) (.int 0)=some (.int m):=fun _=>rfl
 have h1:∀ σ,idxP σ (.tup [.int m,.int e]) (.int 1)=some (.int e):=fun _=>rfl
 simp (decide:=true) only [za8,zb5,zb0,zc6,za3,za4,zd7,zb1,zd1,ze8,zb7,za5,za2,za1,za0,za9,zb2,l_ms,tr_b,l_dt,l_df,zc7,zf2,zf1,zc4,zc3,ze4,ze5,ze9,zc0,zc1,zc2,ze2,zd8,zc9,ze3,zd9,hm,h0,h1]
 exact zb8 (v:=.tup [.str [100,98,108,101],.int (sg * m),.int e]) rfl hσ
theorem k_log {b:Bool} {sg:Int} (hσ:σ.all zd0=true):zc5 N (d+1) 32 [.str [76,79,71],.bool b,.int sg] σ=.ok (.tup [.str [108,111,103],.bool b],σ):=by
 rw [zb6 (f:=c32) rfl,zb9 (env:=[some (.str [76,79,71]),some (.bool b),some (.int sg)]) rfl rfl]
 unfold c32
 simp (decide:=true) only [za8,zb5,zb0,zc6,za3,za4,zb1,ze8,zb7,za5,za2,za1,za0,za9,zb2,l_ms,tr_b,l_dt,l_df,zc7,zc4,zc3,ze9,zc0,zc1,zc2,ze2,zd8,zc9,ze3,zd9]
 exact zb8 (v:=.tup [.str [108,111,103],.bool b]) rfl hσ
theorem k_chr {s:List Nat} {sg:Int} (hσ:σ.all zd0=true):zc5 N (d+1) 32 [.str [67,72,65,82],.str s,.int sg] σ=.ok (.tup [.str [99,104,97,114],.str s],σ):=by
 rw [zb6 (f:=c32) rfl,zb9 (env:=[some (.str [67,72,65,82]),some (.str s),some (.int sg)]) rfl rfl]
 unfold c32
 simp (decide:=true) only [za8,zb5,zb0,zc6,za3,za4,zb1,ze8,zb7,za5,za2,za1,za0,za9,zb2,l_ms,tr_b,l_df,zc7,zc4,zc3,ze9,zc0,zc1,zc2,zd8,zc9,ze3,zd9]
 exact zb8 (v:=.tup [.str [99,104,97,114],.str s]) rfl hσ
end
end Mine
namespace Mine
set_option tactic.hygienic false
section
variable {N d:Nat} {ts l:Toks} {σ:za7}
noncomputable def oPos (ts:Toks):Option Toks→Int
 | some r=>pos ts r
 | none=>-1
noncomputable def zq0 (l:Toks):Toks:=match isOp tPL l || isOp tMI l with | true=>l.tail | false=>l
noncomputable def zu8 (l:Toks):Option Toks:=match l with
 | (.int _,_)::r=>some r
 | (.real _ _,_)::r=>some r
 | _=>none
theorem zv1:zt0 l=zu8 (zq0 l):=rfl
theorem yb6 (h:l <:+ ts):zq0 l <:+ ts:=by
 unfold zq0
 split
 ·exact (List.tail_suffix l).trans h
 ·exact h
theorem yu8 {r:Toks} (h:l <:+ ts) (hr:zu8 l=some r):r <:+ ts:=by
 rcases l with _ | ⟨⟨t,n⟩,l⟩
 ·exact nn hr
 ·cases t with
  | int _=>cases hr; exact zi2 h
  | real _ _=>cases hr; exact zi2 h
  | _=>exact nn hr
theorem yh1 {r:Toks} (h:l <:+ ts) (hr:zt0 l=some r):r <:+ ts:=yu8 (yb6 h) (by rw [← zv1]; exact hr)
theorem ys0 (hl:ts.length≤szL) (hσ:σ.all zd0=true) (h:l <:+ ts):zc5 N (d+2) 34 [tkL ts,.int (pos ts l)] σ=.ok (.int (oPos ts (zt0 l)),σ):=by
 rw [zb6 (f:=c34) rfl,zb9 (env:=[some (tkL ts),some (.int (pos ts l))]) rfl rfl]
 unfold c34
 haveI key:∀ l:Toks,l <:+ ts→(exs (zc5 N (d+1)) N (.cons (.iff (.bool false (.cons (.cmp .eq (.call 21 (.cons (.var 0) (.cons (.var 1) .nil))) (.cst (.str [73,78,84]))) (.cons (.cmp .eq (.call 21 (.cons (.var 0) (.cons (.var 1) .nil))) (.cst (.str [82,69,65,76]))) .nil))) (.cons (.ret (.bin .add (.var 1) (.cst (.int 1)))) .nil) .nil) (.cons (.ret (.neg (.cst (.int 1)))) .nil)) [some (tkL ts),some (.int (pos ts l))] σ).bind (fun q=>zh3 σ.length q.1 q.2.2)=.ok (.int (oPos ts (zu8 l)),σ):=by
  intro l h
  simp only [za8,zb0,za3,za4,zb1,zb3,zb7,ze0,za5,za2,zh2,zd3,za1,za0,za9,zb2,l_ms,tr_b,l_nf,zc7,zc4,zc3,zb4,zc0,zc1,zc2,kA_e,yq9 hl hσ h]
  match l,h with
  | [],h =>
   simp (decide:=true) only [za8,zb5,zc6,za4,zx5,za1,bt4,l_df,zy0,zd8,zc9,ze3,zd9]
   exact zb8 (v:=.int (-1)) rfl hσ
  | (.int _,n)::r,h
  | (.real _ _,n)::r,h =>
   simp (decide:=true) only [kindOf,Tok.kd,za8,zc6,za3,za4,zd7,za1,za0,za9,zb2,bt3,bt4,l_dt,l_df,zd5,ci1,zf2,zf1,ze2,zc9,zd9,ze1 h]
   exact zb8 (v:=.int (pos ts r)) rfl hσ
  | (.op _,n)::r,h
  | (.dble _ _,n)::r,h
  | (.log _,n)::r,h
  | (.chr _,n)::r,h
  | (.nam _,n)::r,h =>
   simp (decide:=true) only [kindOf,Tok.kd,za8,zb5,zc6,za4,zx5,za1,bt4,l_df,zy0,zd8,zc9,ze3,zd9]
   exact zb8 (v:=.int (-1)) rfl hσ
 rw [za8,zv1]
 haveI st:ex (zc5 N (d+1)) N (.iff (.bool false (.cons (.call 22 (.cons (.var 0) (.cons (.var 1) (.cons (.cst (.str [43])) .nil)))) (.cons (.call 22 (.cons (.var 0) (.cons (.var 1) (.cons (.cst (.str [45])) .nil)))) .nil))) (.cons (.aug 1 .add (.cst (.int 1))) .nil) .nil) [some (tkL ts),some (.int (pos ts l))] σ=.ok (.next,[some (tkL ts),some (.int (pos ts (zq0 l)))],σ):=by
  simp only [zb0,za3,za4,zb3,zf0,ze0,za5,za2,zh2,zd3,za1,za0,za9,zb2,tr_b,l_nf,zb4,zc0,zc1,zc2,kA_e,zg5 hl hσ h]
  unfold zq0
  cases h1:isOp tPL l with
  | true =>
   obtain ⟨n,r,rfl⟩:=zg7 h1
   simp only [za8,zb5,zq1,za4,za1,za9,zb2,set0,sets,bt3,zd5,ci1,zq3,zk8,zm1,ze2,ze3,Bool.true_or,List.tail_cons,ze1 h]
  | false =>
   cases h2:isOp tMI l with
   | true =>
    obtain ⟨n,r,rfl⟩:=zg7 h2
    simp only [za8,zb5,zq1,za4,za1,za9,zb2,set0,sets,bt3,bt4,zd5,ci1,zq3,zk8,zm1,ze2,ze3,Bool.or_true,List.tail_cons,ze1 h]
   | false=>simp only [zb5,za1,bt4,zd8,Bool.or_false]
 rw [st,za1]
 exact key _ (yb6 h)
theorem oPos_lt (r:Toks):((pos ts r:Int) < 0)=False:=by
 simp only [eq_iff_iff,iff_false]; exact Int.not_ofNat_neg _
theorem oPos_ge (r:Toks):((0:Int)≤(pos ts r:Int))=True:=by
 simp only [eq_iff_iff,iff_true]; exact Int.natCast_nonneg _
theorem k_isCplx {p:Tok × Nat} {r:Toks} (hl:ts.length≤szL) (hσ:σ.all zd0=true) (h:p::r <:+ ts):zc5 N (d+3) 35 [tkL ts,.int (pos ts (p::r))] σ=.ok (.bool (zw4 (p::r)),σ):=by
 rw [zb6 (f:=c35) rfl,zb9 (env:=[some (tkL ts),some (.int (pos ts (p::r))),none,none]) rfl rfl]
 unfold c35 zw4
 haveI h':=zi2 h
 simp only [za8,zd4,zb0,za3,za4,zd7,zb1,zb3,zb7,zf0,zn1,ze0,za5,za2,zd3,za1,za0,za9,zb2,set0,sets,l_ms,tr_b,l_nf,zf4,zd5,ci1,zf2,zf1,zc4,zc3,zb4,zc0,zc1,zc2,kA_e,zd6,ze3,ze1 h,ys0 hl hσ h',List.tail_cons]
 cases hc:zt0 r with
 | none =>
  simp (decide:=true) only [za8,zc6,za4,za1,bt3,l_dt,ze2,zc9,zd9,oPos]
  exact zb8 (v:=.bool false) rfl hσ
 | some c =>
  haveI hcs:=yh1 h' hc
  simp only [zh2,za1,za0,tr_b,bt4,l_df,l_nf,zc0,zv5,kA_e,oPos,oPos_lt,zg5 hl hσ hcs]
  cases h1:isOp tCM c with
  | false =>
   simp only [za8,zc6,za4,za1,bt3,l_nf,ze2,zc9,zd9]
   exact zb8 (v:=.bool false) rfl hσ
  | true =>
   obtain ⟨n,c',rfl⟩:=zg7 h1
   have hcs':=zi2 hcs
   simp only [za8,zb5,zd4,zc6,za3,za4,zd7,zk2,zb1,zb3,za5,za2,ya4,zk0,za1,za0,za9,zb2,set0,sets,l_ms,tr_b,bt4,l_nt,ye4,zd5,ci1,zf2,zf1,zc4,zc3,zb4,zc1,zc2,yg2,ye2,zd6,zd8,ze3,ze1 hcs,ys0 hl hσ hcs',List.tail_cons]
   cases he:zt0 c' with
   | none =>
    simp (decide:=true) only [za1,bt2,l_df,zc9,zd9,oPos]
    exact zb8 (v:=.bool false) rfl hσ
   | some e =>
    haveI hes:=yh1 hcs' he
    simp only [za1,bt1,l_dt,zc9,zd9,oPos,oPos_ge,zg5 hl hσ hes]
    exact zb8 (v:=.bool _) rfl hσ
noncomputable def zy4 (l:Toks):Toks:=match l with | (.op _,_)::r=>r | _=>l
noncomputable def numOf (sg:Int):Toks→Out (Num × Toks)
 | (.int v,_)::r=>.ok (.int (sg * v),r)
 | (.real m e,_)::r=>.ok (.real (sg * m) e,r)
 | _=>.stuck
theorem zx0:zk1 l=numOf (if isOp tMI l then -1 else 1) (zy4 l):=rfl
theorem yb0 (h:l <:+ ts):zy4 l <:+ ts:=by
 rcases l with _ | ⟨⟨t,n⟩,l⟩
 ·exact h
 ·cases t with
  | op _=>exact zi2 h
  | _=>exact h
noncomputable def cv {α:Type} (ts:Toks) (σ:za7) (f:α→PV):Out (α × Toks)→Out (PV × za7)
 | .ok q=>.ok (.tup [f q.1,.int (pos ts q.2)],σ)
 | .exc=>.exc
 | .stuck=>.stuck
theorem yi5 (hl:ts.length≤szL) (hσ:σ.all zd0=true) (h:l <:+ ts) (hn:zk1 l≠.stuck):zc5 N (d+2) 36 [tkL ts,.int (pos ts l)] σ=cv ts σ Num.pv (zk1 l):=by
 rw [zb6 (f:=c36) rfl,zb9 (env:=[some (tkL ts),some (.int (pos ts l)),none]) rfl rfl]
 unfold c36
 rw [zx0] at hn ⊢
 haveI key:∀ (l:Toks) (sg:Int),sg.natAbs≤1→l <:+ ts→numOf sg l≠.stuck→(exs (zc5 N (d+1)) N (.cons (.ret (.tup (.cons (.call 32 (.cons (.idx (.idx (.var 0) (.var 1)) (.cst (.int 0))) (.cons (.idx (.idx (.var 0) (.var 1)) (.cst (.int 1))) (.cons (.var 2) .nil)))) (.cons (.bin .add (.var 1) (.cst (.int 1))) .nil)))) .nil) [some (tkL ts),some (.int (pos ts l)),some (.int sg)] σ).bind (fun q=>zh3 σ.length q.1 q.2.2)=cv ts σ Num.pv (numOf sg l):=by
  intro l sg hs h hn
  match l,h,hn with
  | (.int v,n)::r,h,hn =>
   simp only [za8,zc6,za3,za4,zd7,zb3,zd1,ze8,za5,za2,za1,za0,za9,zb2,yg1,zj4,zd5,ci1,zf2,zf1,zb4,ze4,ze5,ze9,zc1,zc2,zc9,zd9,zu1 hl h,Tok.kd,Tok.vl,k_int hσ hs,ze1 h]
   exact zb8 (v:=.tup [_,.int (pos ts r)]) rfl hσ
  | (.real m e,n)::r,h,hn =>
   simp only [za8,zc6,za3,za4,zd7,zb3,zd1,ze8,za5,za2,za1,za0,za9,zb2,yg1,zj4,zd5,ci1,zf2,zf1,zb4,ze4,ze5,ze9,zc1,zc2,zc9,zd9,zu1 hl h,Tok.kd,Tok.vl,k_real hσ hs,ze1 h]
   exact zb8 (v:=.tup [_,.int (pos ts r)]) rfl hσ
  | [],h,hn
  | (.op _,n)::r,h,hn
  | (.dble _ _,n)::r,h,hn
  | (.log _,n)::r,h,hn
  | (.chr _,n)::r,h,hn
  | (.nam _,n)::r,h,hn=>exact absurd rfl hn
 have s2:∀ sg:Int,(exs (zc5 N (d+1)) N (.cons (.iff (.cmp .eq (.call 21 (.cons (.var 0) (.cons (.var 1) .nil))) (.cst (.str [79,80]))) (.cons (.aug 1 .add (.cst (.int 1))) .nil) .nil) (.cons (.ret (.tup (.cons (.call 32 (.cons (.idx (.idx (.var 0) (.var 1)) (.cst (.int 0))) (.cons (.idx (.idx (.var 0) (.var 1)) (.cst (.int 1))) (.cons (.var 2) .nil)))) (.cons (.bin .add (.var 1) (.cst (.int 1))) .nil)))) .nil)) [some (tkL ts),some (.int (pos ts l)),some (.int sg)] σ)=exs (zc5 N (d+1)) N (.cons (.ret (.tup (.cons (.call 32 (.cons (.idx (.idx (.var 0) (.var 1)) (.cst (.int 0))) (.cons (.idx (.idx (.var 0) (.var 1)) (.cst (.int 1))) (.cons (.var 2) .nil)))) (.cons (.bin .add (.var 1) (.cst (.int 1))) .nil)))) .nil) [some (tkL ts),some (.int (pos ts (zy4 l))),some (.int sg)] σ:=by
  intro sg
  rw [za8]
  haveI:ex (zc5 N (d+1)) N (.iff (.cmp .eq (.call 21 (.cons (.var 0) (.cons (.var 1) .nil))) (.cst (.str [79,80]))) (.cons (.aug 1 .add (.cst (.int 1))) .nil) .nil) [some (tkL ts),some (.int (pos ts l)),some (.int sg)] σ=.ok (.next,[some (tkL ts),some (.int (pos ts (zy4 l))),some (.int sg)],σ):=by
   simp only [zb0,za3,za4,zb1,zb3,zb7,za5,za2,za1,za0,za9,zb2,l_ms,tr_b,zc7,zc4,zc3,zb4,zc0,zc1,zc2,yq9 hl hσ h]
   match l,h with
   | [],h=>simp (decide:=true) only [zb5,l_df,zd8,zy4]
   | (.op _,n)::r,h=>simp (decide:=true) only [kindOf,Tok.kd,za8,zb5,zq1,za4,za1,za9,zb2,set0,sets,l_dt,zd5,ci1,zq3,zk8,zm1,ze2,ze3,ze1 h,zy4]
   | (.int _,n)::r,h
   | (.real _ _,n)::r,h
   | (.dble _ _,n)::r,h
   | (.log _,n)::r,h
   | (.chr _,n)::r,h
   | (.nam _,n)::r,h=>simp (decide:=true) only [kindOf,Tok.kd,zb5,l_df,zd8,zy4]
  rw [this,za1,ze3]
 rw [za8,zd4,za4,za1,zd6,za1,ze3]
 simp only [set0,sets]
 rw [za8]
 cases hm:isOp tMI l with
 | true =>
  have:ex (zc5 N (d+1)) N (.iff (.call 22 (.cons (.var 0) (.cons (.var 1) (.cons (.cst (.str [45])) .nil)))) (.cons (.asg 2 (.neg (.cst (.int 1)))) .nil) .nil) [some (tkL ts),some (.int (pos ts l)),some (.int 1)] σ=.ok (.next,[some (tkL ts),some (.int (pos ts l)),some (.int (-1))],σ):=by
   simp only [za8,zb5,zd4,zb0,za3,za4,zx5,zb3,zf0,za5,za2,za1,za0,za9,zb2,set0,sets,tr_b,zy0,zb4,zc0,zc1,zc2,zd6,ze2,ze3,zg5 hl hσ h,hm]
  rw [this,za1,ze3]
  simp only [s2]
  rw [hm] at hn
  exact key _ _ (by decide) (yb0 h) hn
 | false =>
  have:ex (zc5 N (d+1)) N (.iff (.call 22 (.cons (.var 0) (.cons (.var 1) (.cons (.cst (.str [45])) .nil)))) (.cons (.asg 2 (.neg (.cst (.int 1)))) .nil) .nil) [some (tkL ts),some (.int (pos ts l)),some (.int 1)] σ=.ok (.next,[some (tkL ts),some (.int (pos ts l)),some (.int 1)],σ):=by
   simp only [zb5,zb0,za3,za4,zb3,zf0,za5,za2,za1,za0,za9,zb2,tr_b,zb4,zc0,zc1,zc2,zd8,zg5 hl hσ h,hm]
  rw [this,za1,ze3]
  simp only [s2]
  rw [hm] at hn
  exact key _ _ (by decide) (yb0 h) hn
end
end Mine
namespace Mine
set_option tactic.hygienic false
section
variable {N d:Nat} {ts l:Toks} {σ:za7}
theorem zj1 {k:Nat} {B:EX} {n:Nat} {i:Int} {env env':Env'} {σ σ':za7} (h:B (env.set k (some (.int i))) σ=.ok (.next,env',σ')):forN k B (n+1) i env σ=forN k B n (i+1) env' σ':=by
 rw [yj4]
 rw [h]; rfl
theorem wc1 {k:Nat} {B:EX} {n:Nat} {i:Int} {env env':Env'} {σ σ':za7} {v:PV} (h:B (env.set k (some (.int i))) σ=.ok (.ret v,env',σ')):forN k B (n+1) i env σ=.ok (.ret v,env',σ'):=by
 rw [yj4]
 rw [h]; rfl
theorem forN_cont {k:Nat} {B:EX} {n:Nat} {i:Int} {env env':Env'} {σ σ':za7} (h:B (env.set k (some (.int i))) σ=.ok (.cont,env',σ')):forN k B (n+1) i env σ=forN k B n (i+1) env' σ':=by
 rw [yj4]
 rw [h]; rfl
theorem szL_eq:szL=16777216:=by simp only [szL,Nat.reducePow]
theorem rng_ok {x y:Int} {b:Nat} (hb:b=16777216) (hx:x.natAbs≤b) (hy:y.natAbs≤b):-1000000000 < x∧x < 1000000000∧-1000000000 < y∧y < 1000000000:=by exact j478 hb hx hy
theorem yn9 {C:Nat→List PV→za7→Out (PV × za7)} {k:Nat} {lo hi:PE} {b:PSs} {env:Env'} {σ σ1 σ2:za7} {x y:Int} (h1:(ev C lo).1 env σ=.ok (.int x,σ1)) (h2:(ev C hi).1 env σ1=.ok (.int y,σ2)) (hx:x.natAbs≤szL) (hy:y.natAbs≤szL):ex C N (.forr k lo hi b) env σ=forN k (exs C N b) (y - x).toNat x env σ2:=by
 rw [ex_forr,h1,za1,h2,za1]
 exact if_pos (rng_ok szL_eq hx hy)
theorem nab {n b:Nat} (h:n≤b):((n:Int)).natAbs≤b:=h
noncomputable def zr8:PSs:=.cons (.iff (.call 22 (.cons (.var 0) (.cons (.var 3) (.cons (.cst (.str [40])) .nil)))) (.cons (.aug 2 .add (.cst (.int 1))) .nil) (.cons (.iff (.call 22 (.cons (.var 0) (.cons (.var 3) (.cons (.cst (.str [41])) .nil)))) (.cons (.aug 2 .sub (.cst (.int 1))) (.cons (.iff (.cmp .eq (.var 2) (.cst (.int 0))) (.cons (.ret (.var 3)) .nil) .nil) .nil)) .nil) .nil)) .nil
theorem wj6 {a0:Int} (hl:ts.length≤szL) (hσ:σ.all zd0=true) (l:Toks):∀ (dp:Int) (v3:Option PV),l <:+ ts →
  ∃ env,forN 3 (exs (zc5 N (d+1)) N zr8) l.length (pos ts l) [some (tkL ts),some (.int a0),some (.int dp),v3] σ=.ok (match zg1 l dp with | some k=>.ret (.int ((pos ts l+k:Nat):Int)) | none=>.next,env,σ):=by
 induction l with
 | nil=>intro dp v3 h; exact ⟨_,rfl⟩
 | cons p r ih =>
  intro dp v3 h
  haveI ih:=fun dp v3=>ih dp v3 (zi2 h)
  rw [List.length_cons]
  cases h1:isOp tLP (p::r) with
  | true =>
   refine big fun Gz hGz=>?_
   obtain ⟨env,ih⟩:=ih (dp+1) (some (.int (pos ts (p::r)))) <;> refine hGz ?_
   refine ⟨env,?_⟩
   rw [zj1 (env':=[some (tkL ts),some (.int a0),some (.int (dp+1)),some (.int (pos ts (p::r)))]) (σ':=σ) (by
    unfold zr8
    simp only [za8,zb5,zq1,zb0,za3,za4,zb3,zf0,za5,za2,za1,za0,za9,zb2,set0,sets,tr_b,zd5,zb4,zc0,zc1,zc2,zq3,zk8,zm1,ze2,ze3,zg5 hl hσ h,h1]),ci1,ze1 h,ih]
   simp only [zr4,h1]
   cases zg1 r (dp+1) with
   | none=>rfl
   | some k=>exact congrArg (fun n:Nat=>Out.ok (Fl.ret (PV.int n),env,σ)) (j341 (ze1 h))
  | false =>
   cases h2:isOp tRP (p::r) with
   | true =>
    by_cases hz:dp - 1=0
    ·refine ⟨[some (tkL ts),some (.int a0),some (.int (dp - 1)),some (.int (pos ts (p::r)))],?_⟩
     rw [wc1 (env':=[some (tkL ts),some (.int a0),some (.int (dp - 1)),some (.int (pos ts (p::r)))]) (σ':=σ) (v:=.int (pos ts (p::r))) (by
      unfold zr8
      simp only [za8,zq1,zb0,zc6,za3,za4,zb1,zb3,zb7,zf0,za5,za2,za1,za0,za9,zb2,set0,sets,l_ms,tr_b,l_dt,ze6,zg6,zc4,zc3,zb4,zc0,zc1,zc2,zq3,zk8,zm1,ze2,zd8,zc9,ze3,zd9,zg5 hl hσ h,h1,h2,hz])]
     simp only [zr4,h1,h2,hz,if_true,Nat.add_zero]
    ·obtain ⟨env,ih⟩:=ih (dp - 1) (some (.int (pos ts (p::r))))
     refine ⟨env,?_⟩
     rw [zj1 (env':=[some (tkL ts),some (.int a0),some (.int (dp - 1)),some (.int (pos ts (p::r)))]) (σ':=σ) (by
      unfold zr8
      simp only [za8,zb5,zq1,zb0,za3,za4,zb1,zb3,zb7,zf0,za5,za2,za1,za0,za9,zb2,set0,sets,l_ms,tr_b,l_df,ze6,zg6,zc4,zc3,zb4,zc0,zc1,zc2,zq3,zk8,zm1,ze2,zd8,ze3,zg5 hl hσ h,h1,h2,hz]),ci1,ze1 h,ih]
     simp only [zr4,h1,h2,hz,if_false]
     cases zg1 r (dp - 1) with
     | none=>rfl
     | some k=>exact congrArg (fun n:Nat=>Out.ok (Fl.ret (PV.int n),env,σ)) (j341 (ze1 h))
   | false =>
    obtain ⟨env,ih⟩:=ih dp (some (.int (pos ts (p::r))))
    refine ⟨env,?_⟩
    rw [zj1 (env':=[some (tkL ts),some (.int a0),some (.int dp),some (.int (pos ts (p::r)))]) (σ':=σ) (by
     unfold zr8
     simp only [za8,zb5,zb0,za3,za4,zb3,zf0,za5,za2,za1,za0,za9,zb2,set0,sets,tr_b,zb4,zc0,zc1,zc2,zd8,ze3,zg5 hl hσ h,h1,h2]),ci1,ze1 h,ih]
    simp only [zr4,h1,h2]
    cases zg1 r dp with
    | none=>rfl
    | some k=>exact congrArg (fun n:Nat=>Out.ok (Fl.ret (PV.int n),env,σ)) (j341 (ze1 h))
theorem k_close (hl:ts.length≤szL) (hσ:σ.all zd0=true) (h:l <:+ ts):zc5 N (d+2) 26 [tkL ts,.int (pos ts l)] σ=match zg1 l 0 with | some k=>.ok (.int ((pos ts l+k:Nat):Int),σ) | none=>.exc:=by
 rw [zb6 (f:=c26) rfl,zb9 (env:=[some (tkL ts),some (.int (pos ts l)),none,none]) rfl rfl]
 unfold c26
 have hp:pos ts l≤ts.length:=Nat.sub_le _ _
 have hq:pos ts l+l.length=ts.length:=by have:=h.length_le; unfold pos; exact Nat.sub_add_cancel this
 obtain ⟨env,hf⟩:=wj6 (N:=N) (d:=d) (a0:=pos ts l) hl hσ l 0 none h
 haveI hc:((ts.length:Int) - (pos ts l:Int)).toNat=l.length:=by clear hl; exact j479 hq
 rw [za8,zd4,za4,za1,zd6,za1,ze3]
 rw [za8,yn9 (x:=pos ts l) (y:=ts.length) (σ1:=σ) (σ2:=σ) rfl (by simp only [za3,zh9,za5,za2,za1,za0,za9,set0,sets,zh6,zc1,zc2,yb8 hl]) (nab (Nat.le_trans hp hl)) (nab hl),hc]
 unfold zr8 at hf
 simp only [set0,sets]
 rw [hf]
 cases zg1 l 0 with
 | none =>
  simp only [za8,zq5,za4,za5,za2,za1,ze7,zc1,zc2,zq2,ze3]
 | some k =>
  simp only [za1,zd9]
  exact zb8 (v:=.int _) rfl hσ
theorem wd5:∀ (l:Toks) (dp:Int) (k:Nat),zg1 l dp=some k→k < l.length:=by
 intro l
 induction l with
 | nil=>intro dp k h; cases h
 | cons p r ih =>
  intro dp k h
  have key:∀ dp',(zg1 r dp').map (·+1)=some k→k < (p::r).length:=fun dp' h=>by
   cases hc:zg1 r dp' with
   | none=>rw [hc] at h; cases h
   | some j =>
    rw [hc] at h
    haveI:=ih _ _ hc
    simp only [Option.map_some,Option.some.injEq] at h
    simp only [List.length_cons]; exact j342 h this
  rw [zr4] at h
  cases h1:isOp tLP (p::r) with
  | true=>rw [h1] at h; exact key _ h
  | false =>
   rw [h1] at h
   cases h2:isOp tRP (p::r) with
   | true =>
    rw [h2] at h
    simp only at h
    by_cases hz:dp - 1=0
    ·rw [if_pos hz] at h
     simp only [Option.some.injEq] at h
     simp only [List.length_cons]; exact j343 h
    ·rw [if_neg hz] at h
     exact key _ h
   | false=>rw [h2] at h; exact key _ h
noncomputable def zw8:PSs:=.cons (.iff (.call 22 (.cons (.var 0) (.cons (.var 4) (.cons (.cst (.str [40])) .nil)))) (.cons (.aug 3 .add (.cst (.int 1))) .nil) (.cons (.iff (.call 22 (.cons (.var 0) (.cons (.var 4) (.cons (.cst (.str [41])) .nil)))) (.cons (.aug 3 .sub (.cst (.int 1))) .nil) (.cons (.iff (.bool true (.cons (.cmp .eq (.var 3) (.cst (.int 0))) (.cons (.call 22 (.cons (.var 0) (.cons (.var 4) (.cons (.cst (.str [58])) .nil)))) .nil))) (.cons (.ret (.cst (.bool true))) .nil) .nil) .nil)) .nil)) .nil
theorem for_cut {a0 v2:Option PV} (hl:ts.length≤szL) (hσ:σ.all zd0=true):∀ (k:Nat) (l:Toks) (dp:Int) (v4:Option PV),l <:+ ts→k≤l.length →
  ∃ env,forN 4 (exs (zc5 N (d+1)) N zw8) k (pos ts l) [some (tkL ts),a0,v2,some (.int dp),v4] σ=.ok (match zi3 k l dp with | true=>.ret (.bool true) | false=>.next,env,σ):=by
 intro k
 induction k with
 | zero=>intro l dp v4 h _; exact ⟨_,rfl⟩
 | succ k ih =>
  intro l dp v4 h hk
  match l,h,hk with
  | [],h,hk=>simp at hk
  | p::r,h,hk =>
   haveI hk':k≤r.length:=by simpa using hk
   have ih:=fun dp v4=>ih r dp v4 (zi2 h) hk'
   cases h1:isOp tLP (p::r) with
   | true =>
    refine big fun Gz hGz=>?_
    obtain ⟨env,ih⟩:=ih (dp+1) (some (.int (pos ts (p::r)))) <;> refine hGz ?_
    refine ⟨env,?_⟩
    rw [zj1 (env':=[some (tkL ts),a0,v2,some (.int (dp+1)),some (.int (pos ts (p::r)))]) (σ':=σ) (by
     unfold zw8
     simp only [za8,zb5,zq1,zb0,za3,za4,zb3,zf0,za5,za2,za1,za0,za9,zb2,set0,sets,tr_b,zd5,zb4,zc0,zc1,zc2,zq3,zk8,zm1,ze2,ze3,zg5 hl hσ h,h1]),ci1,ze1 h,ih]
    simp only [zr5,h1]
   | false =>
    cases h2:isOp tRP (p::r) with
    | true =>
     obtain ⟨env,ih⟩:=ih (dp - 1) (some (.int (pos ts (p::r))))
     refine ⟨env,?_⟩
     rw [zj1 (env':=[some (tkL ts),a0,v2,some (.int (dp - 1)),some (.int (pos ts (p::r)))]) (σ':=σ) (by
      unfold zw8
      simp only [za8,zb5,zq1,zb0,za3,za4,zb3,zf0,za5,za2,za1,za0,za9,zb2,set0,sets,tr_b,zg6,zb4,zc0,zc1,zc2,zq3,zk8,zm1,ze2,zd8,ze3,zg5 hl hσ h,h1,h2]),ci1,ze1 h,ih]
     simp only [zr5,h1,h2]
    | false =>
     by_cases hz:dp=0
     ·cases h3:isOp tCL (p::r) with
      | true =>
       refine ⟨[some (tkL ts),a0,v2,some (.int dp),some (.int (pos ts (p::r)))],?_⟩
       rw [wc1 (env':=[some (tkL ts),a0,v2,some (.int dp),some (.int (pos ts (p::r)))]) (σ':=σ) (v:=.bool true) (by
        unfold zw8
        simp only [za8,zb0,zc6,za3,za4,zb1,zb3,zb7,zf0,ze0,za5,za2,zh2,zd3,za1,za0,za9,zb2,set0,sets,l_ms,tr_b,bt1,l_dt,ze6,zc4,zc3,zb4,zc0,zc1,zc2,kA_e,ze2,zd8,zc9,zd9,zg5 hl hσ h,h1,h2,h3,hz])]
       simp only [zr5,h1,h2,h3,hz,and_self,if_true]
      | false =>
       obtain ⟨env,ih⟩:=ih dp (some (.int (pos ts (p::r))))
       refine ⟨env,?_⟩
       rw [zj1 (env':=[some (tkL ts),a0,v2,some (.int dp),some (.int (pos ts (p::r)))]) (σ':=σ) (by
        unfold zw8
        simp only [za8,zb5,zb0,za3,za4,zb1,zb3,zb7,zf0,ze0,za5,za2,zd3,za1,za0,za9,zb2,set0,sets,l_ms,tr_b,bt1,bt2,l_dt,l_nt,ze6,zc4,zc3,zb4,zc0,zc1,zc2,kA_e,zd8,ze3,zg5 hl hσ h,h1,h2,h3,hz]),ci1,ze1 h,ih]
       simp only [zr5,h1,h2,h3,Bool.false_eq_true,and_false,if_false]
     ·refine big fun Gz hGz=>?_
      obtain ⟨env,ih⟩:=ih dp (some (.int (pos ts (p::r)))) <;> refine hGz ?_
      refine ⟨env,?_⟩
      rw [zj1 (env':=[some (tkL ts),a0,v2,some (.int dp),some (.int (pos ts (p::r)))]) (σ':=σ) (by
       unfold zw8
       simp only [za8,zb5,zb0,za3,za4,zb1,zb3,zb7,zf0,ze0,za5,za2,zd3,za1,za0,za9,zb2,set0,sets,l_ms,tr_b,bt2,l_df,l_nt,ze6,zc4,zc3,zb4,zc0,zc1,zc2,kA_e,zd8,ze3,zg5 hl hσ h,h1,h2,hz]),ci1,ze1 h,ih]
      simp only [zr5,h1,h2,hz,false_and,if_false]
theorem k_isCut (hl:ts.length≤szL) (hσ:σ.all zd0=true) (h:l <:+ ts):zc5 N (d+3) 38 [tkL ts,.int (pos ts l)] σ=(yg0 l).bind fun b=>.ok (.bool b,σ):=by
 rw [zb6 (f:=c38) rfl,zb9 (env:=[some (tkL ts),some (.int (pos ts l)),none,none,none]) rfl rfl]
 unfold c38 yg0
 have hk:=k_close (N:=N) (d:=d) hl hσ h
 cases hc:zg1 l 0 with
 | none =>
  rw [hc] at hk
  simp only [za8,zd4,za3,zb3,za5,za2,za1,ze7,za0,za9,zb2,zb4,zc1,zc2,hk]
 | some k =>
  rw [hc] at hk
  dsimp only at hk
  haveI hlt:=wd5 _ _ _ hc
  cases l with
  | nil=>exact absurd hlt (Nat.not_lt_zero _)
  | cons p r =>
   have hp:pos ts r≤ts.length:=Nat.sub_le _ _
   have hpc:=ze1 h
   have hq:pos ts r+r.length=ts.length:=by have:=(zi2 h).length_le; unfold pos; exact Nat.sub_add_cancel this
   simp only [List.length_cons] at hlt
   obtain ⟨env,hf⟩:=for_cut (N:=N) (d:=d+1) (a0:=some (.int (pos ts (p::r)))) (v2:=some (.int ((pos ts (p::r)+k:Nat):Int))) hl hσ (k - 1) r 0 none (zi2 h) (by omega)
   haveI e26:(ev (zc5 N (d+2)) (.call 26 (.cons (.var 0) (.cons (.var 1) .nil)))).1 [some (tkL ts),some (.int (pos ts (p::r))),none,none,none] σ=.ok (.int ((pos ts (p::r)+k:Nat):Int),σ):=by
    simp only [zb3,za2,za5,za3,za1,za0,za9,zb2,zc1,zc2,zb4]
    exact hk
   rw [za8,zd4,e26,za1,zd6,za1,ze3]
   simp only [set0,sets]
   rw [za8,zd4,za4,za1,zd6,za1,ze3]
   simp only [set0,sets]
   haveI hpk:pos ts (p::r)+k≤ts.length:=by clear hl; exact j344 hpc hq hlt
   haveI hcn:(((pos ts (p::r)+k:Nat):Int) - (pos ts r:Int)).toNat=k - 1:=by clear hl hk; exact j480 hpc
   rw [za8,yn9 (x:=pos ts r) (y:=((pos ts (p::r)+k:Nat):Int)) (σ1:=σ) (σ2:=σ) (by simp only [za3,za4,zd7,za1,za0,za9,zb2,zd5,ci1,zf2,zf1,hpc]) (by simp only [za3,za0,za9,zb2]) (nab (Nat.le_trans hp hl)) (nab (Nat.le_trans hpk hl)),hcn]
   unfold zw8 at hf
   rw [hf,List.tail_cons]
   cases zi3 (k - 1) r 0 with
   | true =>
    simp only [za1,zd9]
    exact zb8 (v:=.bool true) rfl hσ
   | false =>
    simp only [za8,zc6,za4,za1,zc9,ze3,zd9]
    exact zb8 (v:=.bool false) rfl hσ
end
end Mine
namespace Mine
set_option tactic.hygienic false
noncomputable def Rok (N:Nat) (ts:Toks) (rec:Nat→Toks→Out (Tr × Toks)) (d:Nat):Prop :=
 ∀ (d' least:Nat) (l:Toks) (σ:za7),d≤d'→1≤least→l <:+ ts→σ.all zd0=true→rec least l≠.stuck→zc5 N d' 29 [tkL ts,.int (pos ts l),.int least] σ=cv ts σ Tr.pv (rec least l)
noncomputable def Suf {α:Type} (f:Toks→Out (α × Toks)):Prop:=∀ l a l',f l=.ok (a,l')→l' <:+ l
theorem suf_tl {l:Toks}:l.tail <:+ l:=by cases l with | nil=>exact List.suffix_refl _ | cons p r=>exact List.suffix_cons p r
theorem zf8 {s:List Nat} {l r:Toks} (h:zi6 s l=.ok r):r <:+ l:=by
 unfold zi6 at h
 split at h
 ·cases h; exact suf_tl
 ·cases h
theorem zh7 {s:List Nat} {l:Toks}:zi6 s l≠.stuck:=by
 unfold zi6; split <;> nofun
theorem zk3 {α β:Type} {o:Out α} {f:α→Out β} (h:o.bind f≠.stuck):o≠.stuck:=by
 intro e; rw [e] at h; exact h rfl
section
variable {N d d':Nat} {ts l:Toks} {σ:za7} {rec recU:Nat→Toks→Out (Tr × Toks)}
theorem zt5 (hs:∀ n,Suf (rec n)) {s:List Nat} {t:TrO} {l':Toks} (h:zv4 rec s l=.ok (t,l')):l' <:+ l:=by
 unfold zv4 at h
 split at h
 ·cases h; exact List.suffix_refl _
 ·refine bokC h fun q h1 h2=>?_
  cases h2; exact hs _ _ _ _ h1
theorem pCut_suf (hs:∀ n,Suf (rec n)) {b t:Tr} {l':Toks} (h:pCut rec b l=.ok (t,l')):l' <:+ l:=by
 unfold pCut at h
 refine bokC h fun l1 h1 h=>?_
 refine bokC h fun q2 h2 h=>?_
 refine bokC h fun l3 h3 h=>?_
 refine bokC h fun q4 h4 h=>?_
 refine bokC h fun l5 h5 h=>?_
 cases h
 exact (zf8 h5).trans ((zt5 hs h4).trans ((zf8 h3).trans ((zt5 hs h2).trans (zf8 h1))))
theorem yf9 (hs:∀ n,Suf (rec n)):∀ (k:Nat) (l:Toks) (t:Trs) (l':Toks),zn7 rec k l=.ok (t,l')→l' <:+ l
 | 0,_,_,_,h=>by cases h
 | k+1,l,t,l',h=>by
  rw [zr1] at h
  refine bokC h fun q h1 h=>?_
  split at h
  ·refine bokC h fun rs h2 h=>?_
   cases h
   exact (yf9 hs k _ _ _ h2).trans (suf_tl.trans (hs _ _ _ _ h1))
  ·refine bokC h fun r h2 h=>?_
   cases h
   exact (zf8 h2).trans (hs _ _ _ _ h1)
theorem yh3 (hs:∀ n,Suf (rec n)) {t:Trs} {l':Toks} (h:zz2 rec l=.ok (t,l')):l' <:+ l:=by
 unfold zz2 at h
 refine bokC h fun l1 h1 h=>?_
 split at h
 ·cases h; exact suf_tl.trans (zf8 h1)
 ·exact (yf9 hs _ _ _ _ h).trans (zf8 h1)
theorem we3 (hs:∀ n,Suf (rec n)) {s:List Nat} {t:Tr} {l':Toks} (h:zp4 rec s l=.ok (t,l')):l' <:+ l:=by
 unfold zp4 at h
 split at h
 ·cases h; exact List.suffix_refl _
 ·refine bokC h fun c _ h=>?_
  refine bokC h fun b hb h=>?_
  have hbs:b.2 <:+ l:=by
   cases c with
   | true=>cases hb; exact List.suffix_refl _
   | false =>
    refine bokC hb fun q hq hb=>?_
    cases hb
    exact yh3 hs hq
  split at h
  ·exact (pCut_suf hs h).trans hbs
  ·cases h; exact hbs
theorem wg1 {sg:Int} {l l':Toks} {a:Num} (h:numOf sg l=.ok (a,l')):l' <:+ l:=by
 rcases l with _ | ⟨⟨t,n⟩,l⟩
 ·cases h
 ·cases t with
  | int _=>cases h; exact List.suffix_cons _ _
  | real _ _=>cases h; exact List.suffix_cons _ _
  | _=>cases h
theorem zk7 {a:Num} {l l':Toks} (h:zk1 l=.ok (a,l')):l' <:+ l:=by
 rw [zx0] at h
 exact (wg1 h).trans (yb0 (List.suffix_refl _))
theorem yt4 (hs:∀ n,Suf (rec n)) {t:Tr} {l':Toks} (h:zi8 rec l=.ok (t,l')):l' <:+ l:=by
 unfold zi8 at h
 split at h
 ·refine bokC h fun a h1 h=>?_
  refine bokC h fun b h2 h=>?_
  refine bokC h fun r h3 h=>?_
  cases h
  exact (zf8 h3).trans ((zk7 h2).trans (suf_tl.trans ((zk7 h1).trans suf_tl)))
 ·refine bokC h fun a h1 h=>?_
  refine bokC h fun r h3 h=>?_
  cases h
  exact (zf8 h3).trans ((hs _ _ _ _ h1).trans suf_tl)
theorem wm6 (hs:∀ n,Suf (rec n)) {t:Tr} {l':Toks} (h:yq2 rec l=.ok (t,l')):l' <:+ l:=by
 rcases l with _ | ⟨⟨t,n⟩,l⟩
 ·cases h
 ·cases t with
  | nam _=>exact (we3 hs h).trans (List.suffix_cons _ _)
  | op s =>
   by_cases q:s=tLP
   ·exact yt4 hs ((if_pos q).symm.trans h)
   ·cases (if_neg q).symm.trans h
  | _=>cases h; exact List.suffix_cons _ _
theorem zz5 (hs:∀ n,Suf (rec n)) (hu:∀ n,Suf (recU n)) {least:Nat} {t:Tr} {l':Toks} (h:zk9 rec recU least l=.ok (t,l')):l' <:+ l:=by
 unfold zk9 at h
 split at h
 ·split at h
  ·cases h
  ·refine bokC h fun q h1 h=>?_
   cases h
   exact (hu _ _ _ _ h1).trans suf_tl
 ·split at h
  ·split at h
   ·cases h
   ·refine bokC h fun q h1 h=>?_
    cases h
    exact (hu _ _ _ _ h1).trans suf_tl
  ·exact wm6 hs h
theorem yt8 (hs:∀ n,Suf (rec n)) {least:Nat}:∀ (k:Nat) (t:Tr) (w:Bool) (l:Toks) (t':Tr) (l':Toks),zy2 rec least k t w l=.ok (t',l')→l' <:+ l
 | 0,_,_,_,_,_,h=>by cases h
 | k+1,t,w,l,t',l',h=>by
  rw [zz8] at h
  split at h
  ·split at h
   ·cases h
   ·refine bokC h fun q h1 h=>?_
    exact (yt8 hs k _ _ _ _ _ h).trans ((hs _ _ _ _ h1).trans suf_tl)
  ·cases h; exact List.suffix_refl _
theorem zr3:∀ (n least:Nat),Suf (pB n least)
 | n+6,least=>by
  intro l a l' h
  rw [yx7] at h
  refine bokC h fun q h1 h=>?_
  exact (yt8 (zr3 (n+5)) _ _ _ _ _ _ h).trans (zz5 (zr3 n) (zr3 (n+4)) h1)
 | 0,_ | 1,_ | 2,_ | 3,_ | 4,_ | 5,_=>by intro l a l' h; cases h
theorem yu3 (R:Rok N ts rec d) (hd:d≤d') (hσ:σ.all zd0=true) (h:l <:+ ts) (hn:rec 1 l≠.stuck):zc5 N (d'+1) 28 [tkL ts,.int (pos ts l)] σ=cv ts σ Tr.pv (rec 1 l):=by
 rw [zb6 (f:=c28) rfl,zb9 (env:=[some (tkL ts),some (.int (pos ts l))]) rfl rfl]
 unfold c28
 haveI hr:zc5 N d' 29 [tkL ts,.int (pos ts l),.int 1] σ=_:=R d' 1 l σ hd (Nat.le_refl 1) h hσ hn
 simp only [za8,zc6,za3,za4,zb3,za5,za2,za1,za0,za9,zb2,zb4,zc1,zc2,hr]
 cases rec 1 l with
 | exc=>rfl
 | stuck=>rfl
 | ok q =>
  simp only [cv,za1,zc9,zd9]
  exact zb8 (v:=.tup [_,.int (pos ts q.2)]) (andT (Tr.pv_nl _) rfl) hσ
end
end Mine
namespace Mine
set_option tactic.hygienic false
section
variable {C:Nat→List PV→za7→Out (PV × za7)} {N:Nat} {env env':Env'} {σ σ':za7} {s:PS} {r:PSs}
theorem za6 (h:ex C N s env σ=.ok (.next,env',σ')):exs C N (.cons s r) env σ=exs C N r env' σ':=by
 rw [za8,h]; rfl
theorem zf7 (h:ex C N s env σ=.exc):exs C N (.cons s r) env σ=.exc:=by
 rw [za8,h]; rfl
theorem zc8 {v:PV} (h:ex C N s env σ=.ok (.ret v,env',σ')):exs C N (.cons s r) env σ=.ok (.ret v,env',σ'):=by
 rw [za8,h]; rfl
end
theorem yk6 {α β:Type} {o:Out α} {f:α→Out β} {a:α} (h:o.bind f≠.stuck) (e:o=.ok a):f a≠.stuck:=by
 intro q; apply h; rw [e]; exact q
section
variable {N d d':Nat} {ts l:Toks} {σ:za7} {rec recU:Nat→Toks→Out (Tr × Toks)}
theorem k_cut (hs:∀ n,Suf (rec n)) (R:Rok N ts rec d) (hd:d≤d'+1) (hl:ts.length≤szL) (hσ:σ.all zd0=true) (h:l <:+ ts) {b:Tr} (hn:pCut rec b l≠.stuck):zc5 N (d'+3) 39 [tkL ts,.int (pos ts l),b.pv] σ=cv ts σ Tr.pv (pCut rec b l):=by
 rw [zb6 (f:=c39) rfl,zb9 (env:=[some (tkL ts),some (.int (pos ts l)),some b.pv,none,none]) rfl rfl]
 unfold c39
 unfold pCut at hn ⊢
 haveI hA:=yf8 (N:=N) (d:=d') (σ:=σ) hl hσ h tLP (by decide)
 cases hA1:zi6 tLP l with
 | stuck=>exact absurd hA1 zh7
 | exc =>
  rw [hA1] at hA
  rw [zf7 (by simp only [zd4,za3,za4,zb3,za5,za2,za1,ze7,za0,za9,zb2,zb4,zc1,zc2,hA])]; rfl
 | ok l1 =>
  rw [hA1] at hA
  haveI h1:=(zf8 hA1).trans h
  replace hn:=yk6 hn hA1
  try dsimp only at hn
  rw [za6 (env':=[some (tkL ts),some (.int (pos ts l1)),some b.pv,none,none]) (σ':=σ) (by simp only [zd4,za3,za4,zb3,za5,za2,za1,za0,za9,zb2,set0,sets,zb4,zc1,zc2,zd6,hA])]
  rw [za6 (env':=[some (tkL ts),some (.int (pos ts l1)),some b.pv,some .none,none]) (σ':=σ) (by simp only [zd4,za4,za1,set0,sets,zd6])]
  rw [za6 (env':=[some (tkL ts),some (.int (pos ts l1)),some b.pv,some .none,some .none]) (σ':=σ) (by simp only [zd4,za4,za1,set0,sets,zd6])]
  rw [za1]
  have step1:ex (zc5 N (d'+2)) N (.iff (.not (.call 22 (.cons (.var 0) (.cons (.var 1) (.cons (.cst (.str [58])) .nil))))) (.cons (.asgT [3,1] (.call 28 (.cons (.var 0) (.cons (.var 1) .nil)))) .nil) .nil) [some (tkL ts),some (.int (pos ts l1)),some b.pv,some .none,some .none] σ=match zv4 rec tCL l1 with
    | .ok q=>.ok (.next,[some (tkL ts),some (.int (pos ts q.2)),some b.pv,some q.1.pv,some .none],σ)
    | .exc=>.exc
    | .stuck=>.stuck:=by
   have hp:=zk3 hn
   unfold zv4 at hp ⊢
   rw [zb0]
   cases hB:isOp tCL l1 with
   | true=>simp only [zb5,za3,za4,zb3,zf0,zn1,za5,za2,za1,za0,za9,zb2,tr_b,l_nt,zb4,zc0,zv5,zc1,zc2,zd8,zg5 hl hσ h1,hB,we0,wd8]
   | false =>
    rw [hB] at hp
    haveI hr:=yu3 (d':=d'+1) R (by exact j20 hd) hσ h1 (zk3 hp)
    simp only [za8,zf5,za3,za4,zb3,zf0,zn1,za5,za2,za1,za0,za9,zb2,tr_b,l_nf,zb4,zc0,zv5,zc1,zc2,ze2,zg5 hl hσ h1,hB]
    rw [hr]
    cases rec 1 l1 with
    | exc=>simp only [ze7,cv]
    | stuck=>simp only [zv0,cv]
    | ok q=>simp only [zb5,za1,set0,sets,l_bs,l_it,l_sn,l_sc,zg9,zf6,zj0,ze3,cv,we0,wd8]
  cases hq:zv4 rec tCL l1 with
  | stuck=>rw [hq] at hn; exact absurd rfl hn
  | exc =>
   rw [hq] at step1
   rw [zf7 step1]; rfl
  | ok q =>
   rw [hq] at step1
   haveI h2:=(zt5 hs hq).trans h1
   replace hn:=yk6 hn hq
   try dsimp only at hn
   rw [za6 step1,za1]
   haveI hA:=yf8 (N:=N) (d:=d') (σ:=σ) hl hσ h2 tCL (by decide)
   cases hA2:zi6 tCL q.2 with
   | stuck=>exact absurd hA2 zh7
   | exc =>
    rw [hA2] at hA
    rw [zf7 (by simp only [zd4,za3,za4,zb3,za5,za2,za1,ze7,za0,za9,zb2,zb4,zc1,zc2,hA])]; rfl
   | ok l3 =>
    rw [hA2] at hA
    haveI h3:=(zf8 hA2).trans h2
    replace hn:=yk6 hn hA2
    try dsimp only at hn
    rw [za6 (env':=[some (tkL ts),some (.int (pos ts l3)),some b.pv,some q.1.pv,some .none]) (σ':=σ) (by simp only [zd4,za3,za4,zb3,za5,za2,za1,za0,za9,zb2,set0,sets,zb4,zc1,zc2,zd6,hA])]
    rw [za1]
    have step2:ex (zc5 N (d'+2)) N (.iff (.not (.call 22 (.cons (.var 0) (.cons (.var 1) (.cons (.cst (.str [41])) .nil))))) (.cons (.asgT [4,1] (.call 28 (.cons (.var 0) (.cons (.var 1) .nil)))) .nil) .nil) [some (tkL ts),some (.int (pos ts l3)),some b.pv,some q.1.pv,some .none] σ=match zv4 rec tRP l3 with
      | .ok p=>.ok (.next,[some (tkL ts),some (.int (pos ts p.2)),some b.pv,some q.1.pv,some p.1.pv],σ)
      | .exc=>.exc
      | .stuck=>.stuck:=by
     haveI hp:=zk3 hn
     unfold zv4 at hp ⊢
     rw [zb0]
     cases hB:isOp tRP l3 with
     | true=>simp only [zb5,za3,za4,zb3,zf0,zn1,za5,za2,za1,za0,za9,zb2,tr_b,l_nt,zb4,zc0,zv5,zc1,zc2,zd8,zg5 hl hσ h3,hB,we0,wd8]
     | false =>
      rw [hB] at hp
      haveI hr:=yu3 (d':=d'+1) R (by exact j20 hd) hσ h3 (zk3 hp)
      simp only [za8,zf5,za3,za4,zb3,zf0,zn1,za5,za2,za1,za0,za9,zb2,tr_b,l_nf,zb4,zc0,zv5,zc1,zc2,ze2,zg5 hl hσ h3,hB]
      rw [hr]
      cases rec 1 l3 with
      | exc=>simp only [ze7,cv]
      | stuck=>simp only [zv0,cv]
      | ok q=>simp only [zb5,za1,set0,sets,l_bs,l_it,l_sn,l_sc,zg9,zf6,zj0,ze3,cv,we0,wd8]
    cases hp:zv4 rec tRP l3 with
    | stuck=>rw [hp] at hn; exact absurd rfl hn
    | exc =>
     rw [hp] at step2
     rw [zf7 step2]; rfl
    | ok p =>
     rw [hp] at step2
     haveI h4:=(zt5 hs hp).trans h3
     rw [za6 step2,za1]
     haveI hA:=yf8 (N:=N) (d:=d') (σ:=σ) hl hσ h4 tRP (by decide)
     cases hA3:zi6 tRP p.2 with
     | stuck=>exact absurd hA3 zh7
     | exc =>
      rw [hA3] at hA
      rw [zf7 (by simp only [zc6,za3,za4,zb3,ze8,za5,za2,za1,ze7,za0,za9,zb2,zb4,ze9,zc1,zc2,hA])]; rfl
     | ok l5 =>
      rw [hA3] at hA
      rw [zc8 (v:=.tup [.tup [.str [115,117,98],b.pv,q.1.pv,p.1.pv],.int (pos ts l5)]) (env':=[some (tkL ts),some (.int (pos ts p.2)),some b.pv,some q.1.pv,some p.1.pv]) (σ':=σ) (by simp only [zc6,za3,za4,zb3,ze8,za5,za2,za1,za0,za9,zb2,zb4,ze9,zc1,zc2,zc9,hA])]
      exact zb8 (v:=.tup [.tup [.str [115,117,98],b.pv,q.1.pv,p.1.pv],.int (pos ts l5)]) (show ((true && (zh8 b.pv && (zh8 q.1.pv && (zh8 p.1.pv && true)))) && true)=true from andT (andT rfl (andT (Tr.pv_nl _) (andT (TrO.pv_nl _) (andT (TrO.pv_nl _) rfl)))) rfl) hσ
end
end Mine
namespace Mine
set_option tactic.hygienic false
section
variable {N d d':Nat} {ts l:Toks} {σ:za7} {rec recU:Nat→Toks→Out (Tr × Toks)}
theorem yk1 {a b:List PV}:zd0 (a++b)=(zd0 a && zd0 b):=by
 rw [ya1,ya1,ya1,List.all_append]
theorem yn0 {σ:za7} {l:List PV} (h:σ.all zd0=true) (hl:zd0 l=true):(σ++[l]).all zd0=true:=by
 rw [List.all_append,h]; simp [hl]
theorem yd3 {σ:za7} {l:List PV}:(σ++[l])[σ.length]?=some l:=by simp
theorem set_snoc {σ:za7} {l l':List PV}:(σ++[l]).set σ.length l'=σ++[l']:=by simp
theorem yj3 {σ:za7} {l:List PV} {q:PV} (hl:zd0 l=true) (hq:zh8 q=true) (h:σ.all zd0=true):zh3 σ.length (.ret (.tup [.loc σ.length,q])) (σ++[l])=.ok (.tup [.list l,q],σ):=by
 haveI e1:zp0 σ.length (σ++[l]) (.loc σ.length)=some (.list l):=yz3 (Nat.le_refl _) yd3 hl
 haveI e2:zp0 σ.length (σ++[l]) (.tup [.loc σ.length,q])=some (.tup [.list l,q]):=by
  show ((zp0 _ _ (.loc _)).bind fun w=>((zp0 _ _ q).bind fun w=>(some []).map (w::·)).map (w::·)).map PV.tup=_
  rw [e1,zx8 hq]
  rfl
 simp only [zh3,flP,e2]
 rw [if_pos (by simpa using h)]
 simp
noncomputable def zq7:PSs:=(.cons (.iff (.bool true (.cons (.var 2) (.cons (.call 22 (.cons (.var 0) (.cons (.var 1) (.cons (.cst (.str [42])) .nil)))) .nil))) (.cons (.asgT [4,1] (.call 25 (.cons (.var 0) (.cons (.bin .add (.var 1) (.cst (.int 1))) .nil)))) (.cons (.exp (.me .append (.var 3) (.cons (.tup (.cons (.cst (.str [97,108,116])) (.cons (.var 4) .nil))) .nil))) .nil)) (.cons (.asgT [5,1] (.call 28 (.cons (.var 0) (.cons (.var 1) .nil)))) (.cons (.exp (.me .append (.var 3) (.cons (.var 5) .nil))) .nil))) (.cons (.iff (.not (.call 22 (.cons (.var 0) (.cons (.var 1) (.cons (.cst (.str [44])) .nil))))) (.cons (.ret (.tup (.cons (.var 3) (.cons (.call 23 (.cons (.var 0) (.cons (.var 1) (.cons (.cst (.str [41])) .nil)))) .nil)))) .nil) .nil) (.cons (.aug 1 .add (.cst (.int 1))) .nil)))
theorem wd4 (hs:∀ n,Suf (rec n)) (R:Rok N ts rec d) (hd:d≤d'+1) (hl:ts.length < szL) (hσ:σ.all zd0=true):∀ (k n:Nat) (l:Toks) (acc:List PV) (v4 v5:Option PV),l <:+ ts→k≤n→zd0 acc=true→acc.length+l.length≤ts.length→zn7 rec k l≠.stuck →
  match zn7 rec k l with
  | .ok q=>∃ env,zj9 (ev (zc5 N (d'+2)) (.cst (.bool true))).2 (exs (zc5 N (d'+2)) N zq7) n [some (tkL ts),some (.int (pos ts l)),some (.bool false),some (.loc σ.length),v4,v5] (σ++[acc])=.ok (.ret (.tup [.loc σ.length,.int (pos ts q.2)]),env,σ++[acc++q.1.pvs])
  | .exc=>zj9 (ev (zc5 N (d'+2)) (.cst (.bool true))).2 (exs (zc5 N (d'+2)) N zq7) n [some (tkL ts),some (.int (pos ts l)),some (.bool false),some (.loc σ.length),v4,v5] (σ++[acc])=.exc
  | .stuck=>False:=by
 haveI hl':ts.length≤szL:=Nat.le_of_lt hl
 intro k
 induction k with
 | zero=>intro n l acc v4 v5 h hk ha hlen hn; exact absurd rfl hn
 | succ k ih =>
  intro n l acc v4 v5 h hk ha hlen hn
  match n,hk with
  | n+1,hk =>
  haveI hσ':(σ++[acc]).all zd0=true:=yn0 hσ ha
  haveI hT:(ev (zc5 N (d'+2)) (.cst (.bool true))).2 [some (tkL ts),some (.int (pos ts l)),some (.bool false),some (.loc σ.length),v4,v5] (σ++[acc])=.ok (true,σ++[acc]):=rfl
  rw [zr1] at hn ⊢
  have hr:=yu3 (d':=d'+1) R (by exact j20 hd) hσ' h (zk3 hn)
  cases hq:rec 1 l with
  | stuck=>rw [hq] at hn; exact absurd rfl hn
  | exc =>
   rw [hq] at hr
   dsimp only [ze7]
   refine zy8 hT ?_
   unfold zq7
   rw [zf7]
   rw [zb0,ze0,zd3,zp2]
   simp only [za8,zf5,za3,zb3,za5,za2,za1,ze7,za0,za9,zb2,tr_b,bt2,l_nt,zb4,zc0,zc1,zc2,kA_e,zd8,hr,cv]
  | ok q =>
   rw [hq] at hr
   replace hn:=yk6 hn hq
   try dsimp only at hn
   have h1:q.2 <:+ ts:=(hs _ _ _ _ hq).trans h
   haveI hle:q.2.length≤l.length:=(hs _ _ _ _ hq).length_le
   haveI hal:acc.length < szL:=by clear ih; exact j165 hlen hl
   have ha2:zd0 (acc++[q.1.pv])=true:=by rw [yk1,ha]; exact (andT rfl (andT (Tr.pv_nl _) rfl):(true && (zh8 q.1.pv && true))=true)
   haveI hσ2:(σ++[acc++[q.1.pv]]).all zd0=true:=yn0 hσ ha2
   have e1:ex (zc5 N (d'+2)) N (.iff (.bool true (.cons (.var 2) (.cons (.call 22 (.cons (.var 0) (.cons (.var 1) (.cons (.cst (.str [42])) .nil)))) .nil))) (.cons (.asgT [4,1] (.call 25 (.cons (.var 0) (.cons (.bin .add (.var 1) (.cst (.int 1))) .nil)))) (.cons (.exp (.me .append (.var 3) (.cons (.tup (.cons (.cst (.str [97,108,116])) (.cons (.var 4) .nil))) .nil))) .nil)) (.cons (.asgT [5,1] (.call 28 (.cons (.var 0) (.cons (.var 1) .nil)))) (.cons (.exp (.me .append (.var 3) (.cons (.var 5) .nil))) .nil))) [some (tkL ts),some (.int (pos ts l)),some (.bool false),some (.loc σ.length),v4,v5] (σ++[acc])=.ok (.next,[some (tkL ts),some (.int (pos ts q.2)),some (.bool false),some (.loc σ.length),v4,some q.1.pv],σ++[acc++[q.1.pv]]):=by
    simp only [za8,zb5,zf5,zb0,wb8,za3,zb3,yr4,zp2,ze0,za5,za2,zd3,za1,za0,za9,zb2,set0,sets,l_bs,tr_b,bt2,l_nt,l_it,l_sn,l_sc,zb4,ys8,yq4,zc0,zc1,zc2,kA_e,zg9,zf6,zj0,zd8,wa9,ze3,hr,cv,rc_app,yz6 yd3 hal,set_snoc]
   rw [za1]
   cases hB:isOp tCM q.2 with
   | true =>
    rw [hB] at hn
    obtain ⟨m,r,hqr⟩:=zg7 hB
    haveI h2:r <:+ ts:=by rw [hqr] at h1; exact zi2 h1
    haveI e2:exs (zc5 N (d'+2)) N zq7 [some (tkL ts),some (.int (pos ts l)),some (.bool false),some (.loc σ.length),v4,v5] (σ++[acc])=.ok (.next,[some (tkL ts),some (.int (pos ts r)),some (.bool false),some (.loc σ.length),v4,some q.1.pv],σ++[acc++[q.1.pv]]):=by
     unfold zq7
     rw [za6 e1]
     rw [za6 (env':=[some (tkL ts),some (.int (pos ts q.2)),some (.bool false),some (.loc σ.length),v4,some q.1.pv]) (σ':=σ++[acc++[q.1.pv]]) (by simp only [zb5,zb0,za3,za4,zb3,zf0,zn1,za5,za2,za1,za0,za9,zb2,tr_b,l_nt,zb4,zc0,zv5,zc1,zc2,zd8,zg5 hl' hσ2 h1,hB])]
     rw [hqr] at h1 ⊢
     simp only [za8,zb5,zq1,za4,za1,za9,zb2,set0,sets,zd5,ci1,zq3,zk8,zm1,ze3,ze1 h1]
    haveI ht:q.2.tail=r:=by rw [hqr]; rfl
    rw [ht] at hn ⊢
    have ihr:=ih n r (acc++[q.1.pv]) v4 (some q.1.pv) h2 (by exact j23 hk) ha2 (by rw [hqr] at hle; simp only [List.length_append,List.length_cons,List.length_nil] at hle ⊢; clear ih; exact j345 hle hlen) (zk3 hn)
    rw [zm8 hT e2]
    dsimp only
    cases hrs:zn7 rec k r with
    | stuck=>rw [hrs] at hn; exact absurd rfl hn
    | exc=>rw [hrs] at ihr; exact ihr
    | ok rs =>
     rw [hrs] at ihr
     obtain ⟨env,ihr⟩:=ihr
     refine ⟨env,?_⟩
     rw [ihr]
     simp only [pvS_n,pvS_c,List.append_assoc,List.cons_append,List.nil_append]
   | false =>
    rw [hB] at hn
    haveI hA:=yf8 (N:=N) (d:=d') (σ:=σ++[acc++[q.1.pv]]) hl' hσ2 h1 tRP (by decide)
    dsimp only
    cases hA1:zi6 tRP q.2 with
    | stuck=>exact absurd hA1 zh7
    | exc =>
     rw [hA1] at hA
     dsimp only [ze7]
     refine zy8 hT ?_
     unfold zq7
     rw [za6 e1]
     rw [zf7]
     simp only [za8,zb0,zc6,za3,za4,zb3,ze8,zf0,zn1,za5,za2,za1,ze7,za0,za9,zb2,tr_b,l_nf,zb4,zc0,zv5,zc1,zc2,ze2,zg5 hl' hσ2 h1,hB,hA]
    | ok r =>
     rw [hA1] at hA
     dsimp only [za1]
     refine ⟨[some (tkL ts),some (.int (pos ts q.2)),some (.bool false),some (.loc σ.length),v4,some q.1.pv],?_⟩
     refine ys4 hT ?_
     unfold zq7
     rw [za6 e1]
     rw [zc8]
     simp only [za8,zb0,zc6,za3,za4,zb3,ze8,zf0,zn1,za5,za2,za1,za0,za9,zb2,tr_b,l_nf,zb4,ze9,zc0,zv5,zc1,zc2,ze2,zc9,zd9,zg5 hl' hσ2 h1,hB,hA,pvS_n,pvS_c]
theorem k_args (hs:∀ n,Suf (rec n)) (R:Rok N ts rec d) (hd:d≤d'+1) (hl:ts.length < szL) (hN:ts.length < N) (hσ:σ.all zd0=true) (h:l <:+ ts) (hn:zz2 rec l≠.stuck):zc5 N (d'+3) 40 [tkL ts,.int (pos ts l),.bool false] σ=cv ts σ (fun as=>.list as.pvs) (zz2 rec l):=by
 haveI hl':ts.length≤szL:=Nat.le_of_lt hl
 rw [zb6 (f:=c40) rfl,zb9 (env:=[some (tkL ts),some (.int (pos ts l)),some (.bool false),none,none,none]) rfl rfl]
 unfold c40
 unfold zz2 at hn ⊢
 haveI hA:=yf8 (N:=N) (d:=d') (σ:=σ) hl' hσ h tLP (by decide)
 cases hA1:zi6 tLP l with
 | stuck=>exact absurd hA1 zh7
 | exc =>
  rw [hA1] at hA
  rw [zf7 (by simp only [zd4,za3,za4,zb3,za5,za2,za1,ze7,za0,za9,zb2,zb4,zc1,zc2,hA])]; rfl
 | ok l1 =>
  rw [hA1] at hA
  have h1:=(zf8 hA1).trans h
  replace hn:=yk6 hn hA1
  try dsimp only at hn
  have hσ1:(σ++[[]]).all zd0=true:=yn0 hσ rfl
  rw [za6 (env':=[some (tkL ts),some (.int (pos ts l1)),some (.bool false),none,none,none]) (σ':=σ) (by simp only [zd4,za3,za4,zb3,za5,za2,za1,za0,za9,zb2,set0,sets,zb4,zc1,zc2,zd6,hA])]
  rw [za6 (env':=[some (tkL ts),some (.int (pos ts l1)),some (.bool false),some (.loc σ.length),none,none]) (σ':=σ++[[]]) (by simp only [zd4,zu5,za5,za1,set0,sets,zt6,zd6])]
  rw [za1]
  cases hB:isOp tRP l1 with
  | true =>
   obtain ⟨m,r,rfl⟩:=zg7 hB
   rw [zc8 (v:=.tup [.loc σ.length,.int (pos ts r)]) (env':=[some (tkL ts),some (.int (pos ts ((.op tRP,m)::r))),some (.bool false),some (.loc σ.length),none,none]) (σ':=σ++[[]]) (by simp only [za8,zb0,zc6,za3,za4,zd7,zb3,ze8,zf0,za5,za2,za1,za0,za9,zb2,tr_b,zd5,ci1,zf2,zf1,zb4,ze9,zc0,zc1,zc2,ze2,zc9,zd9,zg5 hl' hσ1 h1,hB,ze1 h1])]
   exact yj3 (l:=[]) (q:=.int (pos ts r)) rfl rfl hσ
  | false =>
   rw [hB] at hn
   rw [za6 (env':=[some (tkL ts),some (.int (pos ts l1)),some (.bool false),some (.loc σ.length),none,none]) (σ':=σ++[[]]) (by simp only [zb5,zb0,za3,za4,zb3,zf0,za5,za2,za1,za0,za9,zb2,tr_b,zb4,zc0,zc1,zc2,zd8,zg5 hl' hσ1 h1,hB])]
   have hw:=wd4 (N:=N) (d':=d') hs R hd hl hσ (l1.length+1) N l1 [] none none h1 (by have:=h1.length_le; exact j26 hN this) rfl (by have:=h1.length_le; simpa using this) hn
   dsimp only
   rw [za8,yb3]
   unfold zq7 at hw
   cases hq:zn7 rec (l1.length+1) l1 with
   | stuck=>exact absurd hq hn
   | exc =>
    rw [hq] at hw
    rw [hw]; rfl
   | ok q =>
    rw [hq] at hw
    obtain ⟨env,hw⟩:=hw
    rw [hw]
    simp only [za1,List.nil_append]
    exact yj3 (q:=.int (pos ts q.2)) (Trs.pvs_nl _) rfl hσ
end
end Mine
namespace Mine
set_option tactic.hygienic false
section
variable {N d d':Nat} {ts l:Toks} {σ:za7} {rec recU:Nat→Toks→Out (Tr × Toks)}
theorem k_name {s:List Nat} {n:Nat} {r:Toks} (hl:ts.length≤szL) (hσ:σ.all zd0=true) (h:(.nam s,n)::r <:+ ts):zc5 N (d+2) 24 [tkL ts,.int (pos ts ((.nam s,n)::r))] σ=.ok (.tup [.str s,.int (pos ts r)],σ):=by
 rw [zb6 (f:=c24) rfl,zb9 (env:=[some (tkL ts),some (.int (pos ts ((.nam s,n)::r)))]) rfl rfl]
 unfold c24
 rw [za6 (env':=[some (tkL ts),some (.int (pos ts ((.nam s,n)::r)))]) (σ':=σ) (by simp (decide:=true) only [zb5,zb0,za3,za4,zb1,zb3,zb7,za5,za2,za1,za0,za9,zb2,l_ms,tr_b,l_dt,l_nt,yd9,zc4,zc3,zb4,zc0,zc1,zc2,zd8,yq9 hl hσ h,kindOf,Tok.kd])]
 rw [zc8 (v:=.tup [.str s,.int (pos ts r)]) (env':=[some (tkL ts),some (.int (pos ts ((.nam s,n)::r)))]) (σ':=σ) (by simp only [zc6,za3,za4,zd7,zd1,ze8,za5,za2,za1,za0,za9,zb2,zj4,zd5,ci1,zf2,zf1,ze4,ze5,ze9,zc1,zc2,zc9,zu1 hl h,Tok.vl,ze1 h])]
 exact zb8 (v:=.tup [.str s,.int (pos ts r)]) rfl hσ
noncomputable def zq6 (rec:Nat→Toks→Out (Tr × Toks)) (s:List Nat) (l:Toks):Bool→Out (Tr × Toks)
 | true=>.ok (.nam s,l)
 | false=>(zz2 rec l).bind fun q=>.ok (.ref s q.1,q.2)
theorem zr6 {s:List Nat}:zp4 rec s l=match isOp tLP l with
 | false=>.ok (.nam s,l)
 | true=>(yg0 l).bind fun c=>(zq6 rec s l c).bind fun b=>match isOp tLP b.2 with
  | true=>pCut rec b.1 b.2
  | false=>.ok b:=by
 unfold zp4
 cases isOp tLP l with
 | false=>rfl
 | true =>
  dsimp only
  congr 1
theorem k_named {s:List Nat} {n:Nat} {r:Toks} (hs:∀ n,Suf (rec n)) (R:Rok N ts rec d) (hd:d≤d'+1) (hl:ts.length < szL) (hN:ts.length < N) (hσ:σ.all zd0=true) (h:(.nam s,n)::r <:+ ts) (hn:zp4 rec s r≠.stuck) :
  zc5 N (d'+4) 37 [tkL ts,.int (pos ts ((.nam s,n)::r))] σ=cv ts σ Tr.pv (zp4 rec s r):=by
 have hl':ts.length≤szL:=Nat.le_of_lt hl
 have hr:=zi2 h
 rw [zb6 (f:=c37) rfl,zb9 (env:=[some (tkL ts),some (.int (pos ts ((.nam s,n)::r))),none,none,none]) rfl rfl]
 unfold c37
 rw [za6 (env':=[some (tkL ts),some (.int (pos ts r)),some (.str s),none,none]) (σ':=σ) (by simp only [zf5,za3,zb3,za5,za2,za1,za0,za9,zb2,set0,sets,l_bs,l_it,l_sn,l_sc,zb4,zc1,zc2,zg9,zf6,zj0,k_name (d:=d'+1) hl' hσ h])]
 rw [za6 (env':=[some (tkL ts),some (.int (pos ts r)),some (.str s),some (Tr.pv (.nam s)),none]) (σ':=σ) (by simp only [zd4,za3,za4,ze8,za5,za2,za1,za0,za9,zb2,set0,sets,ze9,zc1,zc2,zd6,pv_nam])]
 rw [zr6] at hn ⊢
 cases hB:isOp tLP r with
 | false =>
  rw [zc8 (v:=.tup [Tr.pv (.nam s),.int (pos ts r)]) (env':=[some (tkL ts),some (.int (pos ts r)),some (.str s),some (Tr.pv (.nam s)),none]) (σ':=σ) (by simp only [za8,zb0,zc6,za3,za4,zb3,ze8,zf0,zn1,za5,za2,za1,za0,za9,zb2,tr_b,l_nf,zb4,ze9,zc0,zv5,zc1,zc2,ze2,zc9,zd9,zg5 hl' hσ hr,hB])]
  exact zb8 (v:=.tup [Tr.pv (.nam s),.int (pos ts r)]) rfl hσ
 | true =>
  rw [hB] at hn
  dsimp only at hn ⊢
  rw [za6 (env':=[some (tkL ts),some (.int (pos ts r)),some (.str s),some (Tr.pv (.nam s)),none]) (σ':=σ) (by simp only [zb5,zb0,za3,za4,zb3,zf0,zn1,za5,za2,za1,za0,za9,zb2,tr_b,l_nt,zb4,zc0,zv5,zc1,zc2,zd8,zg5 hl' hσ hr,hB])]
  have hc:=k_isCut (N:=N) (d:=d') hl' hσ hr
  cases hcc:yg0 r with
  | stuck=>rw [hcc] at hn; exact absurd rfl hn
  | exc =>
   rw [hcc] at hc
   rw [zf7 (by simp only [zb0,za3,zb3,zf0,zn1,za5,za2,za1,ze7,za0,za9,zb2,zb4,zc1,zc2,hc])]; rfl
  | ok c =>
   rw [hcc] at hc hn
   simp only [za1] at hc hn ⊢
   haveI step:∃ x,ex (zc5 N (d'+3)) N (.iff (.not (.call 38 (.cons (.var 0) (.cons (.var 1) .nil)))) (.cons (.asgT [4,1] (.call 40 (.cons (.var 0) (.cons (.var 1) (.cons (.cst (.bool false)) .nil))))) (.cons (.asg 3 (.tup (.cons (.cst (.str [114,101,102])) (.cons (.var 2) (.cons (.var 4) .nil))))) .nil)) .nil) [some (tkL ts),some (.int (pos ts r)),some (.str s),some (Tr.pv (.nam s)),none] σ=match zq6 rec s r c with
     | .ok b=>.ok (.next,[some (tkL ts),some (.int (pos ts b.2)),some (.str s),some b.1.pv,x],σ)
     | .exc=>.exc
     | .stuck=>.stuck:=by
    cases c with
    | true=>exact ⟨none,by simp only [zb5,zb0,za3,zb3,zf0,zn1,za5,za2,za1,za0,za9,zb2,tr_b,l_nt,zb4,zc0,zv5,zc1,zc2,zd8,hc,zq6]⟩
    | false =>
     haveI hp:=zk3 (zk3 hn)
     haveI ha:=k_args (N:=N) (d':=d') hs R hd hl hN hσ hr hp
     cases hq:zz2 rec r with
     | stuck=>exact absurd hq hp
     | exc =>
      rw [hq] at ha
      exact ⟨none,by simp only [za8,zf5,zb0,za3,za4,zb3,zf0,zn1,za5,za2,za1,ze7,za0,za9,zb2,tr_b,l_nf,zb4,zc0,zv5,zc1,zc2,ze2,hc,zq6,hq,ha,cv]⟩
     | ok q =>
      rw [hq] at ha
      exact ⟨some (.list q.1.pvs),by simp only [za8,zb5,zd4,zf5,zb0,za3,za4,zb3,ze8,zf0,zn1,za5,za2,za1,za0,za9,zb2,set0,sets,l_bs,tr_b,l_nf,l_it,l_sn,l_sc,zb4,ze9,zc0,zv5,zc1,zc2,zd6,zg9,zf6,zj0,ze2,ze3,hc,zq6,hq,ha,cv,pv_ref]⟩
   obtain ⟨x,step⟩:=step
   cases hb:zq6 rec s r c with
   | stuck=>rw [hb] at hn; exact absurd rfl hn
   | exc=>rw [hb] at step; rw [zf7 step]; rfl
   | ok b =>
    rw [hb] at step hn
    have hbs:b.2 <:+ ts:=by
     refine List.IsSuffix.trans ?_ hr
     cases c with
     | true=>cases hb; exact List.suffix_refl _
     | false =>
      obtain ⟨q,hq,hb⟩:=yx1 hb
      cases hb
      exact yh3 hs hq
    rw [za6 step]
    simp only [za1] at hn ⊢
    cases hC:isOp tLP b.2 with
    | false =>
     rw [za6 (env':=[some (tkL ts),some (.int (pos ts b.2)),some (.str s),some b.1.pv,x]) (σ':=σ) (by simp only [zb5,zb0,za3,za4,zb3,zf0,za5,za2,za1,za0,za9,zb2,tr_b,zb4,zc0,zc1,zc2,zd8,zg5 hl' hσ hbs,hC])]
     rw [zc8 (v:=.tup [b.1.pv,.int (pos ts b.2)]) (env':=[some (tkL ts),some (.int (pos ts b.2)),some (.str s),some b.1.pv,x]) (σ':=σ) (by simp only [zc6,za3,ze8,za5,za2,za1,za0,za9,zb2,ze9,zc1,zc2,zc9])]
     exact zb8 (v:=.tup [b.1.pv,.int (pos ts b.2)]) (andT (Tr.pv_nl _) rfl) hσ
    | true =>
     rw [hC] at hn
     haveI hk:=k_cut (N:=N) (d':=d') hs R hd hl' hσ hbs hn
     dsimp only
     cases hq:pCut rec b.1 b.2 with
     | stuck=>exact absurd hq hn
     | exc =>
      rw [hq] at hk
      rw [zf7 (by simp only [za8,zb0,zc6,za3,za4,zb3,zf0,za5,za2,za1,ze7,za0,za9,zb2,tr_b,zb4,zc0,zc1,zc2,ze2,zg5 hl' hσ hbs,hC,hk,cv])]; rfl
     | ok q =>
      rw [hq] at hk
      rw [zc8 (v:=.tup [q.1.pv,.int (pos ts q.2)]) (env':=[some (tkL ts),some (.int (pos ts b.2)),some (.str s),some b.1.pv,x]) (σ':=σ) (by simp only [za8,zb0,zc6,za3,za4,zb3,zf0,za5,za2,za1,za0,za9,zb2,tr_b,zb4,zc0,zc1,zc2,ze2,zc9,zd9,zg5 hl' hσ hbs,hC,hk,cv])]
      exact zb8 (v:=.tup [q.1.pv,.int (pos ts q.2)]) (andT (Tr.pv_nl _) rfl) hσ
theorem k_bracket {p:Tok × Nat} {r:Toks} (hs:∀ n,Suf (rec n)) (R:Rok N ts rec d) (hd:d≤d'+1) (hl:ts.length < szL) (hσ:σ.all zd0=true) (h:p::r <:+ ts) (hn:zi8 rec (p::r)≠.stuck) :
  zc5 N (d'+4) 33 [tkL ts,.int (pos ts (p::r))] σ=cv ts σ Tr.pv (zi8 rec (p::r)):=by
 have hl':ts.length≤szL:=Nat.le_of_lt hl
 have hr:=zi2 h
 rw [zb6 (f:=c33) rfl,zb9 (env:=[some (tkL ts),some (.int (pos ts (p::r))),none,none,none,none,none]) rfl rfl]
 unfold c33
 unfold zi8 at hn ⊢
 have hc:=k_isCplx (N:=N) (d:=d') hl' hσ h
 rw [List.tail_cons] at hn ⊢
 cases hB:zw4 (p::r) with
 | true =>
  rw [hB] at hc hn
  dsimp only at hn ⊢
  have h1n:=zk3 hn
  have k1:=yi5 (N:=N) (d:=d'+1) hl' hσ hr h1n
  cases hq:zk1 r with
  | stuck=>exact absurd hq h1n
  | exc =>
   rw [hq] at k1
   rw [zf7 (by simp only [za8,zf5,zb0,za3,za4,zd7,zb3,zf0,za5,za2,za1,ze7,za0,za9,zb2,tr_b,zd5,ci1,zf2,zf1,zb4,zc0,zc1,zc2,ze2,hc,ze1 h,k1,cv])]; rfl
  | ok a =>
   obtain ⟨a1,a2⟩:=a
   rw [hq] at k1 hn
   simp only [za1] at hn ⊢
   haveI ha:a2 <:+ ts:=(zk7 hq).trans hr
   haveI h2n:=zk3 hn
   cases a2 with
   | nil=>exact absurd rfl h2n
   | cons p2 r2 =>
    haveI har:=zi2 ha
    rw [List.tail_cons] at hn h2n ⊢
    haveI k2:=yi5 (N:=N) (d:=d'+1) hl' hσ har h2n
    cases hq2:zk1 r2 with
    | stuck=>exact absurd hq2 h2n
    | exc =>
     rw [hq2] at k2
     rw [zf7 (by simp only [za8,zf5,zb0,za3,za4,zd7,zb3,zf0,za5,za2,za1,ze7,za0,za9,zb2,set0,sets,l_bs,tr_b,l_it,l_sn,l_sc,zd5,ci1,zf2,zf1,zb4,zc0,zc1,zc2,zg9,zf6,zj0,ze2,ze3,hc,ze1 h,k1,k2,cv,ze1 ha])]; rfl
    | ok b =>
     rw [hq2] at k2
     simp only [za1]
     haveI hb:b.2 <:+ ts:=(zk7 hq2).trans har
     haveI hA:=yf8 (N:=N) (d:=d'+1) (σ:=σ) hl' hσ hb tRP (by decide)
     cases hA1:zi6 tRP b.2 with
     | stuck=>exact absurd hA1 zh7
     | exc =>
      rw [hA1] at hA
      rw [zf7 (by simp only [za8,zf5,zb0,zc6,za3,za4,zd7,zb3,ze8,zf0,za5,za2,za1,ze7,za0,za9,zb2,set0,sets,l_bs,tr_b,l_it,l_sn,l_sc,zd5,ci1,zf2,zf1,zb4,ze9,zc0,zc1,zc2,zg9,zf6,zj0,ze2,ze3,hc,ze1 h,k1,k2,cv,ze1 ha,hA])]; rfl
     | ok l3 =>
      rw [hA1] at hA
      rw [zc8 (v:=.tup [Tr.pv (.cplx a1 b.1),.int (pos ts l3)]) (env':=[some (tkL ts),some (.int (pos ts (p::r))),some a1.pv,some (.int (pos ts (p2::r2))),some b.1.pv,some (.int (pos ts b.2)),none]) (σ':=σ) (by simp only [za8,zf5,zb0,zc6,za3,za4,zd7,zb3,ze8,zf0,za5,za2,za1,za0,za9,zb2,set0,sets,l_bs,tr_b,l_it,l_sn,l_sc,zd5,ci1,zf2,zf1,zb4,ze9,zc0,zc1,zc2,zg9,zf6,zj0,ze2,zc9,ze3,zd9,hc,ze1 h,k1,k2,cv,ze1 ha,hA,pv_cplx])]
      exact zb8 (v:=.tup [Tr.pv (.cplx a1 b.1),.int (pos ts l3)]) (andT (Tr.pv_nl _) rfl) hσ
 | false =>
  rw [hB] at hc hn
  dsimp only at hn ⊢
  have h1n:=zk3 hn
  rw [za6 (env':=[some (tkL ts),some (.int (pos ts (p::r))),none,none,none,none,none]) (σ':=σ) (by simp only [zb5,zb0,za3,zb3,zf0,za5,za2,za1,za0,za9,zb2,tr_b,zb4,zc0,zc1,zc2,zd8,hc])]
  have k1:=yu3 (d':=d'+2) R (by exact j346 hd) hσ hr h1n
  cases hq:rec 1 r with
  | stuck=>exact absurd hq h1n
  | exc =>
   rw [hq] at k1
   rw [zf7 (by simp only [zf5,za3,za4,zd7,zb3,za5,za2,za1,ze7,za0,za9,zb2,zd5,ci1,zf2,zf1,zb4,zc1,zc2,ze1 h,k1,cv])]; rfl
  | ok a =>
   rw [hq] at k1
   haveI ha:a.2 <:+ ts:=(hs _ _ _ _ hq).trans hr
   simp only [za1]
   rw [za6 (env':=[some (tkL ts),some (.int (pos ts a.2)),none,none,none,none,some a.1.pv]) (σ':=σ) (by simp only [zf5,za3,za4,zd7,zb3,za5,za2,za1,za0,za9,zb2,set0,sets,l_bs,l_it,l_sn,l_sc,zd5,ci1,zf2,zf1,zb4,zc1,zc2,zg9,zf6,zj0,ze1 h,k1,cv])]
   haveI hA:=yf8 (N:=N) (d:=d'+1) (σ:=σ) hl' hσ ha tRP (by decide)
   cases hA1:zi6 tRP a.2 with
   | stuck=>exact absurd hA1 zh7
   | exc =>
    rw [hA1] at hA
    rw [zf7 (by simp only [zc6,za3,za4,zb3,ze8,za5,za2,za1,ze7,za0,za9,zb2,zb4,zc1,zc2,hA])]; rfl
   | ok l3 =>
    rw [hA1] at hA
    rw [zc8 (v:=.tup [a.1.pv,.int (pos ts l3)]) (env':=[some (tkL ts),some (.int (pos ts a.2)),none,none,none,none,some a.1.pv]) (σ':=σ) (by simp only [zc6,za3,za4,zb3,ze8,za5,za2,za1,za0,za9,zb2,zb4,ze9,zc1,zc2,zc9,hA])]
    exact zb8 (v:=.tup [a.1.pv,.int (pos ts l3)]) (andT (Tr.pv_nl _) rfl) hσ
end
end Mine
namespace Mine
set_option tactic.hygienic false
section
variable {N d d':Nat} {ts l:Toks} {σ:za7} {rec recU:Nat→Toks→Out (Tr × Toks)}
theorem k_prim (hs:∀ n,Suf (rec n)) (R:Rok N ts rec d) (hd:d≤d'+1) (hl:ts.length < szL) (hN:ts.length < N) (hσ:σ.all zd0=true) (h:l <:+ ts) (hn:yq2 rec l≠.stuck) :
  zc5 N (d'+5) 31 [tkL ts,.int (pos ts l)] σ=cv ts σ Tr.pv (yq2 rec l):=by
 have hl':ts.length≤szL:=Nat.le_of_lt hl
 rw [zb6 (f:=c31) rfl,zb9 (env:=[some (tkL ts),some (.int (pos ts l)),none]) rfl rfl]
 unfold c31
 rw [za6 (env':=[some (tkL ts),some (.int (pos ts l)),some (.str (kindOf l))]) (σ':=σ) (by simp only [zd4,za3,zb3,za5,za2,za1,za0,za9,zb2,set0,sets,zb4,zc1,zc2,zd6,yq9 (d:=d'+3) hl' hσ h])]
 have done:∀ (v:Tr) (r:Toks),zh3 σ.length (.ret (.tup [v.pv,.int (pos ts r)])) σ=cv ts σ Tr.pv (.ok (v,r)):=fun v r =>
  zb8 (v:=.tup [v.pv,.int (pos ts r)]) (andT (Tr.pv_nl _) rfl) hσ
 match l,h,hn with
 | [],h,hn =>
  rw [za6 (env':=[some (tkL ts),some (.int (pos ts [])),some (.str [])]) (σ':=σ) (by simp (decide:=true) only [zb5,zb0,za3,za4,zb1,zb7,za1,za0,za9,zb2,l_ms,tr_b,l_df,zc7,zc4,zc3,zc0,zd8,kindOf])]
  rw [za6 (env':=[some (tkL ts),some (.int (pos ts [])),some (.str [])]) (σ':=σ) (by simp (decide:=true) only [zb5,zb0,za3,za4,zb1,zb7,ze0,zd3,za1,za0,za9,zb2,l_ms,tr_b,bt2,l_df,l_nt,zc7,zc4,zc3,zc0,kA_e,zd8])]
  rw [zf7 (by simp (decide:=true) only [za8,zb0,zq5,za3,za4,zb1,zb7,ze0,za5,za2,zd3,za1,ze7,za0,za9,zb2,l_ms,tr_b,bt3,l_dt,l_nf,zc7,zc4,zc3,zc0,zc1,zc2,kA_e,ze2,zq2])]
  rfl
 | (.nam s,n)::r,h,hn =>
  have hk:=k_named (N:=N) (d':=d') hs R hd hl hN hσ h hn
  change _=cv ts σ Tr.pv (zp4 rec s r)
  haveI hn':zp4 rec s r≠.stuck:=hn
  cases hq:zp4 rec s r with
  | stuck=>exact absurd hq hn'
  | exc =>
   rw [hq] at hk
   rw [zf7 (by simp (decide:=true) only [za8,zb0,zc6,za3,za4,zb1,zb3,zb7,za5,za2,za1,ze7,za0,za9,zb2,l_ms,tr_b,l_dt,zc7,zc4,zc3,zb4,zc0,zc1,zc2,ze2,kindOf,Tok.kd,hk,cv])]; rfl
  | ok q =>
   rw [hq] at hk
   rw [zc8 (v:=.tup [q.1.pv,.int (pos ts q.2)]) (env':=[some (tkL ts),some (.int (pos ts ((.nam s,n)::r))),some (.str [78,65,77,69])]) (σ':=σ) (by simp (decide:=true) only [za8,zb0,zc6,za3,za4,zb1,zb3,zb7,za5,za2,za1,za0,za9,zb2,l_ms,tr_b,l_dt,zc7,zc4,zc3,zb4,zc0,zc1,zc2,ze2,zc9,zd9,kindOf,Tok.kd,hk,cv])]
   exact done _ _
 | (.op s,n)::r,h,hn =>
  rw [za6 (env':=[some (tkL ts),some (.int (pos ts ((.op s,n)::r))),some (.str [79,80])]) (σ':=σ) (by simp (decide:=true) only [zb5,zb0,za3,za4,zb1,zb7,za1,za0,za9,zb2,l_ms,tr_b,l_df,zc7,zc4,zc3,zc0,zd8,kindOf,Tok.kd])]
  unfold yq2 at hn ⊢
  dsimp only at hn ⊢
  by_cases hs':s=tLP
  ·subst hs'
   rw [if_pos rfl] at hn ⊢
   haveI hk:=k_bracket (N:=N) (d':=d') hs R hd hl hσ h hn
   cases hq:zi8 rec ((.op tLP,n)::r) with
   | stuck=>exact absurd hq hn
   | exc =>
    rw [hq] at hk
    rw [zf7 (by simp (decide:=true) only [za8,zb0,zc6,za3,za4,zb1,zb3,zd1,zb7,ze0,za5,za2,zh2,zd3,za1,ze7,za0,za9,zb2,l_ms,tr_b,bt1,l_dt,zc7,zj4,zc4,zc3,zb4,ze4,ze5,zc0,zc1,zc2,kA_e,ze2,zu1 hl' h,Tok.vl,hk,cv])]; rfl
   | ok q =>
    rw [hq] at hk
    rw [zc8 (v:=.tup [q.1.pv,.int (pos ts q.2)]) (env':=[some (tkL ts),some (.int (pos ts ((.op tLP,n)::r))),some (.str [79,80])]) (σ':=σ) (by simp (decide:=true) only [za8,zb0,zc6,za3,za4,zb1,zb3,zd1,zb7,ze0,za5,za2,zh2,zd3,za1,za0,za9,zb2,l_ms,tr_b,bt1,l_dt,zc7,zj4,zc4,zc3,zb4,ze4,ze5,zc0,zc1,zc2,kA_e,ze2,zc9,zd9,zu1 hl' h,Tok.vl,hk,cv])]
    exact done _ _
  ·rw [if_neg hs']
   rw [za6 (env':=[some (tkL ts),some (.int (pos ts ((.op s,n)::r))),some (.str [79,80])]) (σ':=σ) (by simp (decide:=true) only [zb5,zb0,za3,za4,zb1,zd1,zb7,ze0,zd3,za1,za0,za9,zb2,l_ms,tr_b,bt1,bt2,l_dt,l_df,l_nt,zc7,zj4,zc4,zc3,ze4,ze5,zc0,kA_e,zd8,zu1 hl' h,Tok.vl,hs'])]
   rw [zf7 (by simp (decide:=true) only [za8,zb0,zq5,za3,za4,zb1,zb7,ze0,za5,za2,zd3,za1,ze7,za0,za9,zb2,l_ms,tr_b,bt3,bt4,l_dt,l_df,l_nf,zc7,zc4,zc3,zc0,zc1,zc2,kA_e,ze2,zq2])]; rfl
 | (.int v,n)::r,h,hn =>
  rw [za6 (env':=[some (tkL ts),some (.int (pos ts ((.int v,n)::r))),some (.str [73,78,84])]) (σ':=σ) (by simp (decide:=true) only [zb5,zb0,za3,za4,zb1,zb7,za1,za0,za9,zb2,l_ms,tr_b,l_df,zc7,zc4,zc3,zc0,zd8,kindOf,Tok.kd])]
  rw [za6 (env':=[some (tkL ts),some (.int (pos ts ((.int v,n)::r))),some (.str [73,78,84])]) (σ':=σ) (by simp (decide:=true) only [zb5,zb0,za3,za4,zb1,zb7,ze0,zd3,za1,za0,za9,zb2,l_ms,tr_b,bt2,l_df,l_nt,zc7,zc4,zc3,zc0,kA_e,zd8])]
  rw [za6 (env':=[some (tkL ts),some (.int (pos ts ((.int v,n)::r))),some (.str [73,78,84])]) (σ':=σ) (by simp (decide:=true) only [zb5,zb0,za3,za4,zb1,zb7,ze0,zh2,zd3,za1,za0,za9,zb2,l_ms,tr_b,bt4,l_df,zc7,zc4,zc3,zc0,kA_e,zd8])]
  rw [zc8 (v:=.tup [Tr.pv (.int v),.int (pos ts r)]) (env':=[some (tkL ts),some (.int (pos ts ((.int v,n)::r))),some (.str [73,78,84])]) (σ':=σ) (by simp (decide:=true) only [zc6,za3,za4,zd7,zb3,zd1,ze8,za5,za2,za1,za0,za9,zb2,zj4,zd5,ci1,zf2,zf1,zb4,ze4,ze5,ze9,zc1,zc2,zc9,zu1 hl' h,Tok.vl,k_int (d:=d'+3) (sg:=1) hσ (by decide),ze1 h,pv_int,Int.one_mul])]
  exact done (.int v) r
 | (.real m e,n)::r,h,hn =>
  rw [za6 (env':=[some (tkL ts),some (.int (pos ts ((.real m e,n)::r))),some (.str [82,69,65,76])]) (σ':=σ) (by simp (decide:=true) only [zb5,zb0,za3,za4,zb1,zb7,za1,za0,za9,zb2,l_ms,tr_b,l_df,zc7,zc4,zc3,zc0,zd8,kindOf,Tok.kd])]
  rw [za6 (env':=[some (tkL ts),some (.int (pos ts ((.real m e,n)::r))),some (.str [82,69,65,76])]) (σ':=σ) (by simp (decide:=true) only [zb5,zb0,za3,za4,zb1,zb7,ze0,zd3,za1,za0,za9,zb2,l_ms,tr_b,bt2,l_df,l_nt,zc7,zc4,zc3,zc0,kA_e,zd8])]
  rw [za6 (env':=[some (tkL ts),some (.int (pos ts ((.real m e,n)::r))),some (.str [82,69,65,76])]) (σ':=σ) (by simp (decide:=true) only [zb5,zb0,za3,za4,zb1,zb7,ze0,zh2,zd3,za1,za0,za9,zb2,l_ms,tr_b,bt4,l_df,zc7,zc4,zc3,zc0,kA_e,zd8])]
  rw [zc8 (v:=.tup [Tr.pv (.real m e),.int (pos ts r)]) (env':=[some (tkL ts),some (.int (pos ts ((.real m e,n)::r))),some (.str [82,69,65,76])]) (σ':=σ) (by simp (decide:=true) only [zc6,za3,za4,zd7,zb3,zd1,ze8,za5,za2,za1,za0,za9,zb2,zj4,zd5,ci1,zf2,zf1,zb4,ze4,ze5,ze9,zc1,zc2,zc9,zu1 hl' h,Tok.vl,k_real (d:=d'+3) (sg:=1) hσ (by decide),ze1 h,pv_real,Int.one_mul])]
  exact done (.real m e) r
 | (.dble m e,n)::r,h,hn =>
  rw [za6 (env':=[some (tkL ts),some (.int (pos ts ((.dble m e,n)::r))),some (.str [68,66,76,69])]) (σ':=σ) (by simp (decide:=true) only [zb5,zb0,za3,za4,zb1,zb7,za1,za0,za9,zb2,l_ms,tr_b,l_df,zc7,zc4,zc3,zc0,zd8,kindOf,Tok.kd])]
  rw [za6 (env':=[some (tkL ts),some (.int (pos ts ((.dble m e,n)::r))),some (.str [68,66,76,69])]) (σ':=σ) (by simp (decide:=true) only [zb5,zb0,za3,za4,zb1,zb7,ze0,zd3,za1,za0,za9,zb2,l_ms,tr_b,bt2,l_df,l_nt,zc7,zc4,zc3,zc0,kA_e,zd8])]
  rw [za6 (env':=[some (tkL ts),some (.int (pos ts ((.dble m e,n)::r))),some (.str [68,66,76,69])]) (σ':=σ) (by simp (decide:=true) only [zb5,zb0,za3,za4,zb1,zb7,ze0,zh2,zd3,za1,za0,za9,zb2,l_ms,tr_b,bt4,l_df,zc7,zc4,zc3,zc0,kA_e,zd8])]
  rw [zc8 (v:=.tup [Tr.pv (.dble m e),.int (pos ts r)]) (env':=[some (tkL ts),some (.int (pos ts ((.dble m e,n)::r))),some (.str [68,66,76,69])]) (σ':=σ) (by simp (decide:=true) only [zc6,za3,za4,zd7,zb3,zd1,ze8,za5,za2,za1,za0,za9,zb2,zj4,zd5,ci1,zf2,zf1,zb4,ze4,ze5,ze9,zc1,zc2,zc9,zu1 hl' h,Tok.vl,k_dble (d:=d'+3) (sg:=1) hσ (by decide),ze1 h,pv_dble,Int.one_mul])]
  exact done (.dble m e) r
 | (.log b,n)::r,h,hn =>
  rw [za6 (env':=[some (tkL ts),some (.int (pos ts ((.log b,n)::r))),some (.str [76,79,71])]) (σ':=σ) (by simp (decide:=true) only [zb5,zb0,za3,za4,zb1,zb7,za1,za0,za9,zb2,l_ms,tr_b,l_df,zc7,zc4,zc3,zc0,zd8,kindOf,Tok.kd])]
  rw [za6 (env':=[some (tkL ts),some (.int (pos ts ((.log b,n)::r))),some (.str [76,79,71])]) (σ':=σ) (by simp (decide:=true) only [zb5,zb0,za3,za4,zb1,zb7,ze0,zd3,za1,za0,za9,zb2,l_ms,tr_b,bt2,l_df,l_nt,zc7,zc4,zc3,zc0,kA_e,zd8])]
  rw [za6 (env':=[some (tkL ts),some (.int (pos ts ((.log b,n)::r))),some (.str [76,79,71])]) (σ':=σ) (by simp (decide:=true) only [zb5,zb0,za3,za4,zb1,zb7,ze0,zh2,zd3,za1,za0,za9,zb2,l_ms,tr_b,bt4,l_df,zc7,zc4,zc3,zc0,kA_e,zd8])]
  rw [zc8 (v:=.tup [Tr.pv (.log b),.int (pos ts r)]) (env':=[some (tkL ts),some (.int (pos ts ((.log b,n)::r))),some (.str [76,79,71])]) (σ':=σ) (by simp (decide:=true) only [zc6,za3,za4,zd7,zb3,zd1,ze8,za5,za2,za1,za0,za9,zb2,zj4,zd5,ci1,zf2,zf1,zb4,ze4,ze5,ze9,zc1,zc2,zc9,zu1 hl' h,Tok.vl,k_log (d:=d'+3) (sg:=1) hσ,ze1 h,pv_log])]
  exact done (.log b) r
 | (.chr s,n)::r,h,hn =>
  rw [za6 (env':=[some (tkL ts),some (.int (pos ts ((.chr s,n)::r))),some (.str [67,72,65,82])]) (σ':=σ) (by simp (decide:=true) only [zb5,zb0,za3,za4,zb1,zb7,za1,za0,za9,zb2,l_ms,tr_b,l_df,zc7,zc4,zc3,zc0,zd8,kindOf,Tok.kd])]
  rw [za6 (env':=[some (tkL ts),some (.int (pos ts ((.chr s,n)::r))),some (.str [67,72,65,82])]) (σ':=σ) (by simp (decide:=true) only [zb5,zb0,za3,za4,zb1,zb7,ze0,zd3,za1,za0,za9,zb2,l_ms,tr_b,bt2,l_df,l_nt,zc7,zc4,zc3,zc0,kA_e,zd8])]
  rw [za6 (env':=[some (tkL ts),some (.int (pos ts ((.chr s,n)::r))),some (.str [67,72,65,82])]) (σ':=σ) (by simp (decide:=true) only [zb5,zb0,za3,za4,zb1,zb7,ze0,zh2,zd3,za1,za0,za9,zb2,l_ms,tr_b,bt4,l_df,zc7,zc4,zc3,zc0,kA_e,zd8])]
  rw [zc8 (v:=.tup [Tr.pv (.chr s),.int (pos ts r)]) (env':=[some (tkL ts),some (.int (pos ts ((.chr s,n)::r))),some (.str [67,72,65,82])]) (σ':=σ) (by simp (decide:=true) only [zc6,za3,za4,zd7,zb3,zd1,ze8,za5,za2,za1,za0,za9,zb2,zj4,zd5,ci1,zf2,zf1,zb4,ze4,ze5,ze9,zc1,zc2,zc9,zu1 hl' h,Tok.vl,k_chr (d:=d'+3) (sg:=1) hσ,ze1 h,pv_chr])]
  exact done (.chr s) r
theorem le4 (n:Nat):((4:Int) < (n:Int))=(4 < n):=by simp only [eq_iff_iff]; exact j404
theorem le7 (n:Nat):((7:Int) < (n:Int))=(7 < n):=by simp only [eq_iff_iff]; exact j405
theorem k_first {least:Nat} (hs:∀ n,Suf (rec n)) (R:Rok N ts rec d) (hd:d≤d'+1) (hu:∀ n,Suf (recU n)) (RU:Rok N ts recU (d+4)) (hl:ts.length < szL) (hN:ts.length < N) (hσ:σ.all zd0=true) (h:l <:+ ts) (hn:zk9 rec recU least l≠.stuck) :
  zc5 N (d'+6) 30 [tkL ts,.int (pos ts l),.int least] σ=cv ts σ Tr.pv (zk9 rec recU least l):=by
 haveI hl':ts.length≤szL:=Nat.le_of_lt hl
 rw [zb6 (f:=c30) rfl,zb9 (env:=[some (tkL ts),some (.int (pos ts l)),some (.int least),none,none]) rfl rfl]
 unfold c30
 unfold zk9 at hn ⊢
 have done:∀ (v:Tr) (r:Toks),zh3 σ.length (.ret (.tup [v.pv,.int (pos ts r)])) σ=cv ts σ Tr.pv (.ok (v,r)):=fun v r =>
  zb8 (v:=.tup [v.pv,.int (pos ts r)]) (andT (Tr.pv_nl _) rfl) hσ
 cases h1:isOp tNOT l with
 | true =>
  rw [h1] at hn
  obtain ⟨n,r,rfl⟩:=zg7 h1
  rw [List.tail_cons] at hn ⊢
  dsimp only at hn ⊢
  by_cases hL:4 < least
  ·rw [if_pos hL]
   rw [zf7 (by simp only [za8,zb0,zq5,za3,za4,zb1,zb3,zb7,zf0,za5,za2,za1,ze7,za0,za9,zb2,l_ms,tr_b,l_dt,zk4,zc4,zc3,zb4,zc0,zc1,zc2,ze2,zq2,zg5 hl' hσ h,h1,le4,hL])]; rfl
  ·rw [if_neg hL] at hn ⊢
   haveI hr:=zi2 h
   haveI hk:zc5 N (d'+5) 29 [tkL ts,.int (pos ts r),.int (4+1)] σ=_:=RU (d'+5) 5 r σ (by exact j19 hd) (by decide) hr hσ (zk3 hn)
   cases hq:recU 5 r with
   | stuck=>rw [hq] at hn; exact absurd rfl hn
   | exc =>
    rw [hq] at hk
    rw [zf7 (by simp only [za8,zb5,zf5,zb0,za3,za4,zd7,zb1,zb3,zb7,zf0,za5,za2,za1,ze7,za0,za9,zb2,l_ms,tr_b,l_df,zk4,zd5,ci1,zf2,zf1,zc4,zc3,zb4,zc0,zc1,zc2,ze2,zd8,ze3,zg5 hl' hσ h,h1,le4,hL,ze1 h,hk,cv])]; rfl
   | ok q =>
    rw [hq] at hk
    rw [zc8 (v:=.tup [Tr.pv (.un tNOT q.1),.int (pos ts q.2)]) (env':=[some (tkL ts),some (.int (pos ts q.2)),some (.int least),some q.1.pv,none]) (σ':=σ) (by simp only [za8,zb5,zf5,zb0,zc6,za3,za4,zd7,zb1,zb3,ze8,zb7,zf0,za5,za2,za1,za0,za9,zb2,set0,sets,l_ms,l_bs,tr_b,l_df,l_it,l_sn,l_sc,zk4,zd5,ci1,zf2,zf1,zc4,zc3,zb4,ze9,zc0,zc1,zc2,zg9,zf6,zj0,ze2,zd8,zc9,ze3,zd9,zg5 hl' hσ h,h1,le4,hL,ze1 h,hk,cv,pv_un])]
    exact done (.un tNOT q.1) q.2
 | false =>
  rw [h1] at hn
  dsimp only at hn ⊢
  rw [za6 (env':=[some (tkL ts),some (.int (pos ts l)),some (.int least),none,none]) (σ':=σ) (by simp only [zb5,zb0,za3,za4,zb3,zf0,za5,za2,za1,za0,za9,zb2,tr_b,zb4,zc0,zc1,zc2,zd8,zg5 hl' hσ h,h1])]
  cases h2:isOp tPL l || isOp tMI l with
  | true =>
   rw [h2] at hn
   dsimp only at hn ⊢
   haveI hc:∃ s n r,l=(.op s,n)::r:=by
    rcases Bool.or_eq_true_iff.mp h2 with q | q
    ·obtain ⟨n,r,e⟩:=zg7 q; exact ⟨_,n,r,e⟩
    ·obtain ⟨n,r,e⟩:=zg7 q; exact ⟨_,n,r,e⟩
   haveI ht:(ev (zc5 N (d'+5)) (.bool false (.cons (.call 22 (.cons (.var 0) (.cons (.var 1) (.cons (.cst (.str [43])) .nil)))) (.cons (.call 22 (.cons (.var 0) (.cons (.var 1) (.cons (.cst (.str [45])) .nil)))) .nil)))).2 [some (tkL ts),some (.int (pos ts l)),some (.int least),none,none] σ=.ok (true,σ):=by
    cases h3:isOp tPL l with
    | true=>simp only [za3,za4,zb3,zf0,ze0,za5,za2,zd3,za1,za0,za9,zb2,tr_b,bt3,l_nf,zb4,zc0,zc1,zc2,kA_e,zg5 hl' hσ h,h3]
    | false =>
     rw [h3,Bool.false_or] at h2
     simp only [za3,za4,zb3,zf0,ze0,za5,za2,zd3,za1,za0,za9,zb2,tr_b,bt3,bt4,l_nf,zb4,zc0,zc1,zc2,kA_e,zg5 hl' hσ h,h3,h2]
   obtain ⟨s,n,r,rfl⟩:=hc
   rw [List.tail_cons] at hn ⊢
   change _=cv ts σ Tr.pv (if 7 < least then .exc else (recU 8 r).bind fun q=>.ok (.un s q.1,q.2))
   by_cases hL:7 < least
   ·rw [if_pos hL]
    rw [zf7 (by rw [zb0,ht,za1]; simp only [za8,zb0,zq5,za3,za4,zb1,zb7,za5,za2,za1,ze7,za0,za9,zb2,l_ms,tr_b,l_dt,zk4,zc4,zc3,zc0,zc1,zc2,ze2,zq2,le7,hL])]; rfl
   ·rw [if_neg hL] at hn ⊢
    haveI hr:=zi2 h
    haveI hk:zc5 N (d'+5) 29 [tkL ts,.int (pos ts r),.int (7+1)] σ=_:=RU (d'+5) 8 r σ (by exact j19 hd) (by decide) hr hσ (zk3 hn)
    cases hq:recU 8 r with
    | stuck=>rw [hq] at hn; exact absurd rfl hn
    | exc =>
     rw [hq] at hk
     rw [zf7 (by rw [zb0,ht,za1]; simp only [za8,zb5,zd4,zf5,zb0,za3,za4,zd7,zb1,zb3,zd1,zb7,za5,za2,za1,ze7,za0,za9,zb2,set0,sets,l_ms,tr_b,l_df,zk4,zj4,zd5,ci1,zf2,zf1,zc4,zc3,zb4,ze4,ze5,zc0,zc1,zc2,zd6,ze2,zd8,ze3,le7,hL,ze1 h,hk,cv,zu1 hl' h,Tok.vl])]; rfl
    | ok q =>
     rw [hq] at hk
     rw [zc8 (v:=.tup [Tr.pv (.un s q.1),.int (pos ts q.2)]) (env':=[some (tkL ts),some (.int (pos ts q.2)),some (.int least),some q.1.pv,some (.str s)]) (σ':=σ) (by rw [zb0,ht,za1]; simp only [za8,zb5,zd4,zf5,zb0,zc6,za3,za4,zd7,zb1,zb3,zd1,ze8,zb7,za5,za2,za1,za0,za9,zb2,set0,sets,l_ms,l_bs,tr_b,l_df,l_it,l_sn,l_sc,zk4,zj4,zd5,ci1,zf2,zf1,zc4,zc3,zb4,ze4,ze5,ze9,zc0,zc1,zc2,zd6,zg9,zf6,zj0,ze2,zd8,zc9,ze3,zd9,le7,hL,ze1 h,hk,cv,pv_un,zu1 hl' h,Tok.vl])]
     exact done (.un s q.1) q.2
  | false =>
   rw [h2] at hn
   dsimp only at hn ⊢
   obtain ⟨h3,h4⟩:=Bool.or_eq_false_iff.mp h2
   rw [za6 (env':=[some (tkL ts),some (.int (pos ts l)),some (.int least),none,none]) (σ':=σ) (by simp only [zb5,zb0,za3,za4,zb3,zf0,ze0,za5,za2,zh2,zd3,za1,za0,za9,zb2,tr_b,bt4,zb4,zc0,zc1,zc2,kA_e,zd8,zg5 hl' hσ h,h3,h4])]
   have hk:=k_prim (N:=N) (d':=d') hs R hd hl hN hσ h hn
   cases hq:yq2 rec l with
   | stuck=>exact absurd hq hn
   | exc =>
    rw [hq] at hk
    rw [zf7 (by simp only [zc6,za3,zb3,za5,za2,za1,ze7,za0,za9,zb2,zb4,zc1,zc2,hk,cv])]; rfl
   | ok q =>
    rw [hq] at hk
    rw [zc8 (v:=.tup [q.1.pv,.int (pos ts q.2)]) (env':=[some (tkL ts),some (.int (pos ts l)),some (.int least),none,none]) (σ':=σ) (by simp only [zc6,za3,zb3,za5,za2,za1,za0,za9,zb2,zb4,zc1,zc2,zc9,hk,cv])]
    exact done _ _
end
end Mine
namespace Mine
set_option tactic.hygienic false
section
variable {N d d':Nat} {ts l:Toks} {σ:za7} {rec recU:Nat→Toks→Out (Tr × Toks)}
noncomputable def yb2:PSs:=(.cons (.asg 5 (.call 27 (.cons (.var 0) (.cons (.var 1) .nil)))) (.cons (.asg 6 (.idx (.idx (.var 0) (.var 1)) (.cst (.int 1)))) (.cons (.iff (.bool true (.cons (.cmp .eq (.var 5) (.cst (.int 5))) (.cons (.var 4) .nil))) (.cons (.raise 1 (.cons (.cst (.str [97,32,114,101,108,97,116,105,111,110,32,98,101,104,105,110,100,32,97,32,114,101,108,97,116,105,111,110])) .nil)) .nil) .nil) (.cons (.iff (.cmp .eq (.var 5) (.cst (.int 9))) (.cons (.asgT [7,1] (.call 29 (.cons (.var 0) (.cons (.bin .add (.var 1) (.cst (.int 1))) (.cons (.cst (.int 9)) .nil))))) .nil) (.cons (.asgT [7,1] (.call 29 (.cons (.var 0) (.cons (.bin .add (.var 1) (.cst (.int 1))) (.cons (.bin .add (.var 5) (.cst (.int 1))) .nil))))) .nil)) (.cons (.asg 3 (.tup (.cons (.cst (.str [98,105,110])) (.cons (.var 6) (.cons (.var 3) (.cons (.var 7) .nil)))))) (.cons (.asg 4 (.cmp .eq (.var 5) (.cst (.int 5)))) .nil))))))
noncomputable def yp9:PE:=.cmp .ge (.call 27 (.cons (.var 0) (.cons (.var 1) .nil))) (.var 2)
theorem eq5 (n:Nat):((n:Int)=5)=(n=5):=by simp only [eq_iff_iff]; exact j406
theorem eq9 (n:Nat):((n:Int)=9)=(n=9):=by simp only [eq_iff_iff]; exact j407
theorem zy5 (h:1≤prio l):∃ s n r,l=(.op s,n)::r:=by
 rcases l with _ | ⟨⟨t,n⟩,r⟩
 ·exact absurd h (Nat.not_succ_le_zero _)
 ·cases t with
  | op s=>exact ⟨s,n,r,rfl⟩
  | _=>exact absurd h (Nat.not_succ_le_zero _)
theorem while_bin {least:Nat} (h0:1≤least) (hs:∀ n,Suf (rec n)) (R:Rok N ts rec d) (hd:d≤d'+2) (hl:ts.length < szL) (hσ:σ.all zd0=true):∀ (k n:Nat) (t:Tr) (was:Bool) (l:Toks) (v5 v6 v7:Option PV),l <:+ ts→k≤n→zy2 rec least k t was l≠.stuck →
  match zy2 rec least k t was l with
  | .ok q=>∃ w4 w5 w6 w7,zj9 (ev (zc5 N (d'+2)) yp9).2 (exs (zc5 N (d'+2)) N yb2) n [some (tkL ts),some (.int (pos ts l)),some (.int least),some t.pv,some (.bool was),v5,v6,v7] σ=.ok (.next,[some (tkL ts),some (.int (pos ts q.2)),some (.int least),some q.1.pv,w4,w5,w6,w7],σ)
  | .exc=>zj9 (ev (zc5 N (d'+2)) yp9).2 (exs (zc5 N (d'+2)) N yb2) n [some (tkL ts),some (.int (pos ts l)),some (.int least),some t.pv,some (.bool was),v5,v6,v7] σ=.exc
  | .stuck=>False:=by
 haveI hl':ts.length≤szL:=Nat.le_of_lt hl
 intro k
 induction k with
 | zero=>intro n t was l v5 v6 v7 h hk hn; exact absurd rfl hn
 | succ k ih =>
  intro n t was l v5 v6 v7 h hk hn
  match n,hk with
  | n+1,hk =>
  have hT:(ev (zc5 N (d'+2)) yp9).2 [some (tkL ts),some (.int (pos ts l)),some (.int least),some t.pv,some (.bool was),v5,v6,v7] σ=.ok (decide (least≤prio l),σ):=by
   unfold yp9
   simp only [za3,zb1,zb3,zb7,za5,za2,za1,za0,za9,zb2,l_ms,tr_b,ye4,l_le,zc4,zc3,zb4,zc0,zc1,zc2,wj3 hl' hσ h]
  rw [zz8] at hn ⊢
  by_cases hp:least≤prio l
  ·rw [if_pos hp] at hn ⊢
   rw [decide_eq_true hp] at hT
   obtain ⟨s,m,r,rfl⟩:=zy5 (Nat.le_trans h0 hp)
   haveI hr:=zi2 h
   rw [List.tail_cons] at hn ⊢
   by_cases hw:prio ((.op s,m)::r)=5∧was=true
   ·rw [if_pos hw]
    dsimp only
    refine zy8 hT ?_
    unfold yb2
    rw [za6 (env':=[some (tkL ts),some (.int (pos ts ((.op s,m)::r))),some (.int least),some t.pv,some (.bool was),some (.int (prio ((.op s,m)::r))),v6,v7]) (σ':=σ) (by simp only [zd4,za3,zb3,za5,za2,za1,za0,za9,zb2,set0,sets,zb4,zc1,zc2,zd6,wj3 hl' hσ h])]
    rw [za6 (env':=[some (tkL ts),some (.int (pos ts ((.op s,m)::r))),some (.int least),some t.pv,some (.bool was),some (.int (prio ((.op s,m)::r))),some (.str s),v7]) (σ':=σ) (by simp only [zd4,za3,za4,zd1,za1,za0,za9,zb2,set0,sets,zj4,ze4,ze5,zd6,zu1 hl' h,Tok.vl])]
    rw [zf7 (by simp only [za8,zb0,zq5,za3,za4,zb1,zp2,zb7,ze0,za5,za2,zh2,zd3,za1,ze7,za0,za9,zb2,l_ms,tr_b,bt1,l_dt,ze6,zc4,zc3,zc0,zc1,zc2,kA_e,ze2,zq2,hw,eq5])]
   ·rw [if_neg hw] at hn ⊢
    haveI hp1:1≤prio ((.op s,m)::r):=Nat.le_trans h0 hp
    generalize hpr:prio ((.op s,m)::r)=lv at *
    haveI hk29:=R (d'+2) (if lv=9 then 9 else lv+1) r σ (by exact j20 hd) (by split <;> (first | exact j21 | exact j22)) hr hσ (zk3 hn)
    have e1:∀ (X:PSs),exs (zc5 N (d'+2)) N (.cons (.asg 5 (.call 27 (.cons (.var 0) (.cons (.var 1) .nil)))) (.cons (.asg 6 (.idx (.idx (.var 0) (.var 1)) (.cst (.int 1)))) (.cons (.iff (.bool true (.cons (.cmp .eq (.var 5) (.cst (.int 5))) (.cons (.var 4) .nil))) (.cons (.raise 1 (.cons (.cst (.str [97,32,114,101,108,97,116,105,111,110,32,98,101,104,105,110,100,32,97,32,114,101,108,97,116,105,111,110])) .nil)) .nil) .nil) X))) [some (tkL ts),some (.int (pos ts ((.op s,m)::r))),some (.int least),some t.pv,some (.bool was),v5,v6,v7] σ=exs (zc5 N (d'+2)) N X [some (tkL ts),some (.int (pos ts ((.op s,m)::r))),some (.int least),some t.pv,some (.bool was),some (.int lv),some (.str s),v7] σ:=by
     intro X
     haveI hkp:=wj3 (N:=N) (d:=d') hl' hσ h
     rw [hpr] at hkp
     rw [za6 (env':=[some (tkL ts),some (.int (pos ts ((.op s,m)::r))),some (.int least),some t.pv,some (.bool was),some (.int lv),v6,v7]) (σ':=σ) (by simp only [zd4,za3,zb3,za5,za2,za1,za0,za9,zb2,set0,sets,zb4,zc1,zc2,zd6,hkp])]
     rw [za6 (env':=[some (tkL ts),some (.int (pos ts ((.op s,m)::r))),some (.int least),some t.pv,some (.bool was),some (.int lv),some (.str s),v7]) (σ':=σ) (by simp only [zd4,za3,za4,zd1,za1,za0,za9,zb2,set0,sets,zj4,ze4,ze5,zd6,zu1 hl' h,Tok.vl])]
     rw [za6 (env':=[some (tkL ts),some (.int (pos ts ((.op s,m)::r))),some (.int least),some t.pv,some (.bool was),some (.int lv),some (.str s),v7]) (σ':=σ) ?_]
     by_cases h5:lv=5
     ·haveI hwf:was=false:=by cases was with | false=>rfl | true=>exact absurd ⟨h5,rfl⟩ hw
      simp only [zb5,zb0,za3,za4,zb1,zp2,zb7,ze0,zd3,za1,za0,za9,zb2,l_ms,tr_b,bt1,bt2,l_dt,l_nt,ze6,zc4,zc3,zc0,kA_e,zd8,eq5,h5,hwf]
     ·simp only [zb5,zb0,za3,za4,zb1,zb7,ze0,zd3,za1,za0,za9,zb2,l_ms,tr_b,bt2,l_df,l_nt,ze6,zc4,zc3,zc0,kA_e,zd8,eq5,h5]
    have e2:ex (zc5 N (d'+2)) N (.iff (.cmp .eq (.var 5) (.cst (.int 9))) (.cons (.asgT [7,1] (.call 29 (.cons (.var 0) (.cons (.bin .add (.var 1) (.cst (.int 1))) (.cons (.cst (.int 9)) .nil))))) .nil) (.cons (.asgT [7,1] (.call 29 (.cons (.var 0) (.cons (.bin .add (.var 1) (.cst (.int 1))) (.cons (.bin .add (.var 5) (.cst (.int 1))) .nil))))) .nil)) [some (tkL ts),some (.int (pos ts ((.op s,m)::r))),some (.int least),some t.pv,some (.bool was),some (.int lv),some (.str s),v7] σ=match rec (if lv=9 then 9 else lv+1) r with
      | .ok q=>.ok (.next,[some (tkL ts),some (.int (pos ts q.2)),some (.int least),some t.pv,some (.bool was),some (.int lv),some (.str s),some q.1.pv],σ)
      | .exc=>.exc
      | .stuck=>.stuck:=by
     by_cases h9:lv=9
     ·subst h9
      rw [if_pos rfl] at hk29 ⊢
      haveI hk:zc5 N (d'+2) 29 [tkL ts,.int (pos ts r),.int 9] σ=_:=hk29
      haveI h99:((9:Nat):Int)=9:=rfl
      simp only [za8,zf5,zb0,za3,za4,zd7,zb1,zb3,zb7,za5,za2,za1,za0,za9,zb2,l_ms,tr_b,l_dt,ze6,zd5,ci1,zf2,zf1,zc4,zc3,zb4,zc0,zc1,zc2,ze2,ze1 h,hk,h99]
      cases rec 9 r with
      | ok q=>simp only [zb5,za1,set0,sets,l_bs,l_it,l_sn,l_sc,zg9,zf6,zj0,ze3,cv]
      | exc=>simp only [ze7,cv]
      | stuck=>simp only [zv0,cv]
     ·rw [if_neg h9] at hk29 ⊢
      simp only [za8,zf5,zb0,za3,za4,zd7,zb1,zb3,zb7,za5,za2,za1,za0,za9,zb2,l_ms,tr_b,l_df,ze6,zd5,ci1,zf2,zf1,zc4,zc3,zb4,zc0,zc1,zc2,zd8,eq9,h9,ze1 h,hk29]
      cases rec (lv+1) r with
      | ok q=>simp only [zb5,za1,set0,sets,l_bs,l_it,l_sn,l_sc,zg9,zf6,zj0,ze3,cv]
      | exc=>simp only [ze7,cv]
      | stuck=>simp only [zv0,cv]
    cases hq:rec (if lv=9 then 9 else lv+1) r with
    | stuck=>rw [hq] at hn; exact absurd rfl hn
    | exc =>
     rw [hq] at e2
     dsimp only [ze7]
     refine zy8 hT ?_
     unfold yb2
     rw [e1,zf7 e2]
    | ok q =>
     rw [hq] at e2 hn
     simp only [za1] at hn ⊢
     haveI hqs:q.2 <:+ ts:=(hs _ _ _ _ hq).trans hr
     haveI e3:exs (zc5 N (d'+2)) N yb2 [some (tkL ts),some (.int (pos ts ((.op s,m)::r))),some (.int least),some t.pv,some (.bool was),v5,v6,v7] σ=.ok (.next,[some (tkL ts),some (.int (pos ts q.2)),some (.int least),some (Tr.pv (.bin s t q.1)),some (.bool (decide (lv=5))),some (.int lv),some (.str s),some q.1.pv],σ):=by
      unfold yb2
      rw [e1,za6 e2]
      simp only [za8,zb5,zd4,za3,za4,zb1,ze8,za5,za2,za1,za0,za9,zb2,set0,sets,l_ms,ze6,zc4,zc3,ze9,zc1,zc2,zd6,ze3,eq5,pv_bin]
     rw [zm8 hT e3]
     exact ih n _ _ q.2 _ _ _ hqs (by exact j23 hk) hn
  ·rw [if_neg hp]
   rw [decide_eq_false hp] at hT
   dsimp only
   exact ⟨_,_,_,_,zr7 hT⟩
theorem wb3 {N:Nat} {ts:Toks} (hl:ts.length < szL) (hN:ts.length < N):∀ n,Rok N ts (pB n) (n+1)
 | n+6=>by
  haveI hl':ts.length≤szL:=Nat.le_of_lt hl
  haveI R0:=wb3 hl hN n
  haveI R4:=wb3 hl hN (n+4)
  haveI R5:=wb3 hl hN (n+5)
  intro D least l σ hd h0 h hσ hn
  obtain ⟨e,he,rfl⟩:∃ e,n≤e∧D=e+7:=⟨D - 7,by exact Nat.le_sub_of_add_le hd,by exact j408 hd⟩
  rw [zb6 (f:=c29) rfl,zb9 (env:=[some (tkL ts),some (.int (pos ts l)),some (.int least),none,none,none,none,none]) rfl rfl]
  unfold c29
  rw [yx7] at hn ⊢
  have hf:=zk3 hn
  have hk:=k_first (N:=N) (d':=e) (d:=n+1) (zr3 n) R0 (by exact j24 hd) (zr3 (n+4)) R4 hl hN hσ h hf
  cases hq:zk9 (pB n) (pB (n+4)) least l with
  | stuck=>exact absurd hq hf
  | exc =>
   rw [hq] at hk
   rw [zf7 (by simp only [zf5,za3,zb3,za5,za2,za1,ze7,za0,za9,zb2,zb4,zc1,zc2,hk,cv])]; rfl
  | ok q =>
   rw [hq] at hk
   replace hn:=yk6 hn hq
   try dsimp only at hn
   haveI hqs:q.2 <:+ ts:=(zz5 (zr3 n) (zr3 (n+4)) hq).trans h
   rw [za6 (env':=[some (tkL ts),some (.int (pos ts q.2)),some (.int least),some q.1.pv,none,none,none,none]) (σ':=σ) (by simp only [zf5,za3,zb3,za5,za2,za1,za0,za9,zb2,set0,sets,l_bs,l_it,l_sn,l_sc,zb4,zc1,zc2,zg9,zf6,zj0,hk,cv])]
   rw [za6 (env':=[some (tkL ts),some (.int (pos ts q.2)),some (.int least),some q.1.pv,some (.bool false),none,none,none]) (σ':=σ) (by simp only [zd4,za4,za1,set0,sets,zd6])]
   haveI hw:=while_bin (N:=N) (d':=e+4) (least:=least) h0 (zr3 (n+5)) R5 (by exact j25 hd) hl hσ (l.length+1) N q.1 false q.2 none none none hqs (by have:=h.length_le; exact j26 hN this) hn
   rw [za1]
   cases hp:zy2 (pB (n+5)) least (l.length+1) q.1 false q.2 with
   | stuck=>exact absurd hp hn
   | exc =>
    rw [hp] at hw
    rw [zf7 (by rw [yb3]; exact hw)]; rfl
   | ok p =>
    rw [hp] at hw
    obtain ⟨w4,w5,w6,w7,hw⟩:=hw
    rw [za6 (by rw [yb3]; exact hw)]
    rw [zc8 (v:=.tup [p.1.pv,.int (pos ts p.2)]) (σ':=σ) (by simp only [zc6,za3,ze8,za5,za2,za1,za0,za9,zb2,ze9,zc1,zc2,zc9]; rfl)]
    exact zb8 (v:=.tup [p.1.pv,.int (pos ts p.2)]) (by simp [nl_s,nl_i,nl_t,nl_l,ya9,zz3,Tr.pv_nl]) hσ
 | 0 | 1 | 2 | 3 | 4 | 5=>by intro d' least l σ hd h0 h hσ hn; exact absurd rfl hn
theorem k_whole {N n d:Nat} {ts:Toks} (hl:ts.length < szL) (hN:ts.length < N) (hd:n+2≤d) (hn:pB n 1 ts≠.stuck):zc5 N (d+1) 41 [tkL ts] []=match pB n 1 ts with
  | .ok q=>(match q.2 with | []=>.ok (q.1.pv,[]) | _::_=>.exc)
  | .exc=>.exc
  | .stuck=>.stuck:=by
 have hl':ts.length≤szL:=Nat.le_of_lt hl
 have hσ:([]:za7).all zd0=true:=rfl
 rw [zb6 (f:=c41) rfl,zb9 (env:=[some (tkL ts),none,none]) rfl rfl]
 unfold c41
 obtain ⟨e,rfl⟩:=Nat.exists_eq_add_of_le' (show 1≤d by exact j27 hd)
 haveI hk:=yu3 (N:=N) (d':=e) (wb3 hl hN n) (by exact j28 hd) hσ (List.suffix_refl ts) hn
 haveI hp0:pos ts ts=0:=by simp [pos]
 rw [hp0] at hk
 have hk:zc5 N (e+1) 28 [tkL ts,.int 0] []=_:=hk
 cases hq:pB n 1 ts with
 | stuck=>exact absurd hq hn
 | exc =>
  rw [hq] at hk
  rw [zf7 (by simp only [zf5,za3,za4,zb3,za5,za2,za1,ze7,za0,za9,zb4,zc1,zc2,hk,cv])]; rfl
 | ok q =>
  obtain ⟨t,r⟩:=q
  rw [hq] at hk
  have hr:=zr3 _ _ _ _ _ hq
  rw [za6 (env':=[some (tkL ts),some t.pv,some (.int (pos ts r))]) (σ':=[]) (by simp only [zf5,za3,za4,zb3,za5,za2,za1,za0,za9,set0,sets,l_bs,l_it,l_sn,l_sc,zb4,zc1,zc2,zg9,zf6,zj0,hk,cv])]
  cases r with
  | nil =>
   rw [za6 (env':=[some (tkL ts),some t.pv,some (.int (pos ts []))]) (σ':=[]) (by simp only [zb5,zb0,za3,zb1,zh9,zb7,za5,za2,za1,za0,za9,zb2,l_ms,tr_b,l_df,zf4,l_lt,zc4,zc3,zh6,zc0,zc1,zc2,zd8,yb8 hl',wg3,Nat.lt_irrefl])]
   rw [zc8 (v:=t.pv) (env':=[some (tkL ts),some t.pv,some (.int (pos ts []))]) (σ':=[]) (by simp only [zc6,za3,za1,za0,za9,zb2,zc9])]
   exact zb8 (σ:=[]) (v:=t.pv) (Tr.pv_nl _) hσ
  | cons p r =>
   rw [zf7 (by simp only [za8,zb0,zq5,za3,za4,zb1,zh9,zb7,za5,za2,za1,ze7,za0,za9,zb2,l_ms,tr_b,l_dt,zf4,l_lt,zc4,zc3,zh6,zc0,zc1,zc2,ze2,zq2,yb8 hl',pos_lt hr])]; rfl
end
end Mine
namespace Mine
set_option tactic.hygienic false
noncomputable def wT:Tok→Nat
 | .op s=>if s=tLP then 6 else if 1≤zg0 s∨s=tNOT then 2 else 0
 | _=>0
noncomputable def wt:Toks→Nat
 | []=>0
 | p::r=>wT p.1+wt r
theorem wt_app (a b:Toks):wt (a++b)=wt a+wt b:=by
 induction a with
 | nil=>simp [wt]
 | cons p r ih=>simp only [List.cons_append,wt,ih]; exact j29
theorem yb5 {l r:Toks} (h:l <:+ r):wt l≤wt r:=by
 obtain ⟨p,rfl⟩:=h
 rw [wt_app]; exact j30
theorem wt_lp {l:Toks} (h:isOp tLP l=true):wt l.tail+6=wt l:=by
 obtain ⟨n,r,rfl⟩:=zg7 h
 show wt r+6=6+wt r
 exact j31
theorem wt_op {l:Toks} {s:List Nat} (h:isOp s l=true) (hs:s=tNOT∨s=tPL∨s=tMI):wt l.tail+2=wt l:=by
 obtain ⟨n,r,rfl⟩:=zg7 h
 rcases hs with rfl | rfl | rfl
 ·show wt r+2=2+wt r; exact j31
 ·show wt r+2=2+wt r; exact j31
 ·show wt r+2=2+wt r; exact j31
theorem wt_pr {l:Toks} (h:1≤prio l):wt l.tail+2≤wt l:=by
 obtain ⟨s,n,r,rfl⟩:=zy5 h
 haveI hp:1≤zg0 s:=h
 show wt r+2≤wT (.op s)+wt r
 have:2≤wT (.op s):=by
  show 2≤if s=tLP then 6 else if 1≤zg0 s∨s=tNOT then 2 else 0
  by_cases hs:s=tLP
  ·rw [if_pos hs]; decide
  ·rw [if_neg hs,if_pos (Or.inl hp)]
   exact Nat.le_refl 2
 exact j32 this
theorem zi4 {α β:Type} {o:Out α} {f:α→Out β} (h:o≠.stuck) (hf:∀ a,o=.ok a→f a≠.stuck):o.bind f≠.stuck:=by
 cases o with
 | ok a=>exact hf a rfl
 | exc=>nofun
 | stuck=>exact absurd rfl h
noncomputable def NS (rec:Nat→Toks→Out (Tr × Toks)) (w:Nat):Prop:=∀ least l,1≤least→wt l+6≤w→rec least l≠.stuck
theorem zy7 {s:List Nat} {l r:Toks} (h:zi6 s l=.ok r):isOp s l=true∧r=l.tail:=by
 unfold zi6 at h
 split at h
 ·rename_i q; cases h; exact ⟨q,rfl⟩
 ·cases h
section
variable {rec recU:Nat→Toks→Out (Tr × Toks)} {w:Nat} {l:Toks}
theorem yz5 (ns:NS rec w) (hw:wt l+6≤w) {s:List Nat}:zv4 rec s l≠.stuck:=by
 unfold zv4
 split
 ·nofun
 ·exact zi4 (ns _ _ (Nat.le_refl _) hw) fun a _=>nofun
theorem pCut_ne (hs:∀ n,Suf (rec n)) (ns:NS rec w) (hw:wt l≤w) {b:Tr}:pCut rec b l≠.stuck:=by
 unfold pCut
 refine zi4 zh7 fun l1 h1=>?_
 obtain ⟨h1',rfl⟩:=zy7 h1
 have e1:=wt_lp h1'
 refine zi4 (yz5 ns (by exact j33 e1 hw)) fun q2 h2=>zi4 zh7 fun l3 h3=>?_
 haveI e2:=yb5 (zt5 hs h2)
 haveI e3:=yb5 (zf8 h3)
 exact zi4 (yz5 ns (by exact j34 e1 hw e2 e3)) fun q4 h4=>zi4 zh7 fun l5 h5=>nofun
theorem yk2 (hs:∀ n,Suf (rec n)) (ns:NS rec w):∀ (k:Nat) (l:Toks),l.length < k→wt l+6≤w→zn7 rec k l≠.stuck
 | 0,_,h,_=>absurd h (Nat.not_lt_zero _)
 | k+1,l,h,hw=>by
  rw [zr1]
  refine zi4 (ns _ _ (Nat.le_refl _) hw) fun q hq=>?_
  haveI e:=yb5 (hs _ _ _ _ hq)
  haveI e2:=(hs _ _ _ _ hq).length_le
  split
  ·rename_i hB
   haveI e3:=yb5 (suf_tl (l:=q.2))
   haveI e4:q.2.tail.length < k:=by
    obtain ⟨n,r,hr⟩:=zg7 hB
    rw [hr] at e2 ⊢
    simp only [List.length_cons,List.tail_cons] at e2 ⊢
    exact j35 e2 h
   exact zi4 (yk2 hs ns k _ e4 (by exact j36 hw e e3)) fun rs _=>nofun
  ·exact zi4 zh7 fun r _=>nofun
theorem pArgs_ne (hs:∀ n,Suf (rec n)) (ns:NS rec w) (hw:wt l≤w):zz2 rec l≠.stuck:=by
 unfold zz2
 refine zi4 zh7 fun l1 h1=>?_
 obtain ⟨h1',rfl⟩:=zy7 h1
 haveI e1:=wt_lp h1'
 split
 ·nofun
 ·exact yk2 hs ns _ _ (Nat.lt_succ_self _) (by exact j33 e1 hw)
theorem isCut_ne:yg0 l≠.stuck:=by
 unfold yg0
 split <;> nofun
theorem wg0 (hs:∀ n,Suf (rec n)) (ns:NS rec w) (hw:wt l≤w) {s:List Nat}:zp4 rec s l≠.stuck:=by
 rw [zr6]
 split
 ·nofun
 ·refine zi4 isCut_ne fun c _=>zi4 ?_ fun b hb=>?_
  ·refine big fun Gz hGz=>?_
   cases c with
   | true=>refine hGz ?_; nofun
   | false=>refine hGz ?_; exact zi4 (pArgs_ne hs ns hw) fun q _=>nofun
  ·haveI:b.2 <:+ l:=by
    cases c with
    | true=>cases hb; exact List.suffix_refl _
    | false =>
     obtain ⟨q,hq,hb⟩:=yx1 hb
     cases hb
     exact yh3 hs hq
   haveI:=yb5 this
   split
   ·exact pCut_ne hs ns (by exact j37 this hw)
   ·nofun
theorem wa1 {c:Toks} (h:zt0 l=some c):∃ a,zk1 l=.ok (a,c):=by
 rw [zv1] at h
 rw [zx0]
 unfold zq0 at h
 have key:∀ (sg:Int) (l:Toks),zu8 l=some c→∃ a,numOf sg l=.ok (a,c):=by
  intro sg l h
  rcases l with _ | ⟨⟨t,n⟩,l⟩
  ·exact nn h
  ·cases t with
   | int _=>cases h; exact ⟨_,rfl⟩
   | real _ _=>cases h; exact ⟨_,rfl⟩
   | _=>exact nn h
 have key2:∀ l:Toks,zu8 l=some c→zy4 l=l:=by
  intro l h
  rcases l with _ | ⟨⟨t,n⟩,l⟩
  ·rfl
  ·cases t with
   | op _=>exact nn h
   | _=>rfl
 cases hB:isOp tPL l || isOp tMI l with
 | true =>
  rw [hB] at h
  haveI hc:zy4 l=l.tail:=by
   rcases Bool.or_eq_true_iff.mp hB with q | q
   ·obtain ⟨n,r,rfl⟩:=zg7 q; rfl
   ·obtain ⟨n,r,rfl⟩:=zg7 q; rfl
  rw [hc]
  exact key _ _ h
 | false =>
  rw [hB] at h
  rw [key2 _ h]
  exact key _ _ h
set_option tactic.hygienic true in
theorem wh4 (h:zw4 l=true):∃ a b c d e,zk1 l.tail=.ok (a,c)∧isOp tCM c=true∧zk1 c.tail=.ok (b,d)∧isOp tRP d=true∧e=d.tail:=by
 unfold zw4 at h
 split at h
 ·cases h
 ·rename_i c hc
  obtain ⟨a,ha⟩:=wa1 hc
  split at h
  ·cases h
  ·rename_i hcm
   split at h
   ·cases h
   ·rename_i d hd
    obtain ⟨b,hb⟩:=wa1 hd
    exact ⟨a,b,c,d,_,ha,hcm,hb,h,rfl⟩
theorem yw5 (ns:NS rec w) (h:isOp tLP l=true) (hw:wt l≤w):zi8 rec l≠.stuck:=by
 haveI e1:=wt_lp h
 unfold zi8
 split
 ·rename_i hc
  refine big fun Gz hGz=>?_
  obtain ⟨a,b,c,d,e,h1,h2,h3,h4,_⟩:=wh4 hc <;> refine hGz ?_
  rw [h1,za1,h3,za1]
  exact zi4 zh7 fun _ _=>nofun
 ·exact zi4 (ns _ _ (Nat.le_refl _) (by exact j33 e1 hw)) fun a _=>zi4 zh7 fun r _=>nofun
theorem pPrim_ne (hs:∀ n,Suf (rec n)) (ns:NS rec w) (hw:wt l≤w):yq2 rec l≠.stuck:=by
 rcases l with _ | ⟨⟨t,n⟩,r⟩
 ·nofun
 ·cases t with
  | nam s=>exact wg0 hs ns (by have:=yb5 (List.suffix_cons (Tok.nam s,n) r); exact j37 this hw)
  | op s =>
   show (if s=tLP then zi8 rec ((.op s,n)::r) else .exc)≠_
   by_cases hs':s=tLP
   ·rw [if_pos hs']
    exact yw5 ns (decide_eq_true hs') hw
   ·rw [if_neg hs']
    nofun
  | _=>nofun
theorem wj2 (hs:∀ n,Suf (rec n)) (ns:NS rec w) (nu:NS recU (w+4)) (hw:wt l≤w) {least:Nat}:zk9 rec recU least l≠.stuck:=by
 unfold zk9
 split
 ·rename_i h
  haveI e:=wt_op h (.inl rfl)
  split
  ·nofun
  ·exact zi4 (nu _ _ (by decide) (by exact j38 e hw)) fun q _=>nofun
 ·split
  ·rename_i h
   haveI e:wt l.tail+2=wt l:=by
    rcases Bool.or_eq_true_iff.mp h with q | q
    ·exact wt_op q (.inr (.inl rfl))
    ·exact wt_op q (.inr (.inr rfl))
   split
   ·nofun
   ·exact zi4 (nu _ _ (by decide) (by exact j38 e hw)) fun q _=>nofun
  ·exact pPrim_ne hs ns hw
theorem yy4 (hs:∀ n,Suf (rec n)) (ns:NS rec w) {least:Nat} (h0:1≤least):∀ (k:Nat) (t:Tr) (was:Bool) (l:Toks),l.length < k→wt l+6≤w+1→zy2 rec least k t was l≠.stuck
 | 0,_,_,_,h,_=>absurd h (Nat.not_lt_zero _)
 | k+1,t,was,l,h,hw=>by
  rw [zz8]
  split
  ·rename_i hp
   haveI e1:=wt_pr (Nat.le_trans h0 hp)
   refine big fun Gz hGz=>?_
   obtain ⟨s,n,r,rfl⟩:=zy5 (Nat.le_trans h0 hp) <;> refine hGz ?_
   split
   ·nofun
   ·refine zi4 (ns _ _ (by split <;> (first | exact j21 | exact j22)) (by exact j39 e1 hw)) fun q hq=>?_
    haveI e2:=yb5 (hs _ _ _ _ hq)
    haveI e3:=(hs _ _ _ _ hq).length_le
    rw [List.tail_cons] at e1 e2 e3
    rw [List.length_cons] at h
    exact yy4 hs ns h0 k _ _ _ (by exact j40 h e3) (by exact j41 e1 hw e2)
  ·nofun
end
theorem pB_ne:∀ (n:Nat) (least:Nat) (l:Toks),1≤least→wt l+6≤n→pB n least l≠.stuck
 | n+6,least,l,h0,hw=>by
  rw [yx7]
  haveI n0:NS (pB n) n:=fun least l h hw=>pB_ne n least l h hw
  haveI n4:NS (pB (n+4)) (n+4):=fun least l h hw=>pB_ne (n+4) least l h hw
  haveI n5:NS (pB (n+5)) (n+5):=fun least l h hw=>pB_ne (n+5) least l h hw
  refine zi4 (wj2 (zr3 n) n0 n4 (by exact j42 hw)) fun q hq=>?_
  have e:=zz5 (zr3 n) (zr3 (n+4)) hq
  haveI e1:=yb5 e
  haveI e2:=e.length_le
  exact yy4 (zr3 (n+5)) n5 h0 _ _ _ _ (by exact j43 e2) (by exact j44 hw e1)
 | 0,_,_,_,h | 1,_,_,_,h | 2,_,_,_,h | 3,_,_,_,h | 4,_,_,_,h | 5,_,_,_,h=>by lia
end Mine
namespace Mine
set_option tactic.hygienic false
noncomputable def op1:Tok→Nat
 | .op s=>if s=tLP then 1 else 0
 | _=>0
noncomputable def zg3:Toks→Nat
 | []=>0
 | p::r=>op1 p.1+zg3 r
theorem zv2 (p:Tok × Nat) (r:Toks):zg3 (p::r)=op1 p.1+zg3 r:=rfl
theorem opens_app (a b:Toks):zg3 (a++b)=zg3 a+zg3 b:=by
 induction a with
 | nil=>exact (Nat.zero_add _).symm
 | cons p r ih=>rw [List.cons_append,zv2,zv2,ih]; exact j29
theorem zj2 {l r:Toks} (h:l <:+ r):zg3 l≤zg3 r:=by
 obtain ⟨p,rfl⟩:=h
 rw [opens_app]; exact j30
theorem yn1 {l:Toks} (h:isOp tLP l=true):zg3 l.tail+1=zg3 l:=by
 obtain ⟨n,r,rfl⟩:=zg7 h
 show zg3 r+1=1+zg3 r
 exact j51
noncomputable def zk5 (lv:Nat):Nat:=if lv=9 then 10 else if lv=5 then 6 else lv
noncomputable def zi5 (lv:Nat):Nat:=if lv=9 then 9 else lv+1
noncomputable def unB (op:List Nat):Nat:=if op=tNOT then 5 else 8
noncomputable def zg4:Tr→Nat
 | .bin op _ _=>zg0 op
 | .un op _=>if op=tNOT then 4 else 7
 | _=>10
noncomputable def br (t:Tr) (k:Nat):Nat:=if zg4 t < k then 1 else 0
mutual
noncomputable def cost:Tr→Nat
 | .bin op l r=>cost l+br l (zk5 (zg0 op))+(cost r+br r (zi5 (zg0 op)))
 | .un op a=>cost a+br a (unB op)
 | .ref _ as=>1+yf7 as
 | .sub b lo hi=>cost b+1+yv4 lo+yv4 hi
 | .cplx _ _=>1
 | _=>0
noncomputable def yv4:TrO→Nat
 | .none=>0
 | .some t=>cost t
noncomputable def yf7:Trs→Nat
 | .nil=>0
 | .cons t r=>cost t+yf7 r
end
theorem zs2 {op:List Nat} {l r:Tr}:cost (.bin op l r)=cost l+br l (zk5 (zg0 op))+(cost r+br r (zi5 (zg0 op))):=rfl
theorem zw5 {op:List Nat} {a:Tr}:cost (.un op a)=cost a+br a (unB op):=rfl
theorem zs3 {s:List Nat} {as:Trs}:cost (.ref s as)=1+yf7 as:=rfl
theorem zs6 {b:Tr} {lo hi:TrO}:cost (.sub b lo hi)=cost b+1+yv4 lo+yv4 hi:=rfl
theorem zr0 {a b:Num}:cost (.cplx a b)=1:=rfl
theorem costO_s {t:Tr}:yv4 (.some t)=cost t:=rfl
theorem yv8:yf7 .nil=0:=rfl
theorem yf0 {t:Tr} {r:Trs}:yf7 (.cons t r)=cost t+yf7 r:=rfl
theorem zs8 (s:List Nat):zg0 s≤9:=by
 haveI:∀ (l:List (List Nat × Nat)),(∀ p∈l,p.2≤9)→(l.lookup s).getD 0≤9:=by
  intro l
  induction l with
  | nil=>intro _; exact Nat.zero_le _
  | cons p r ih =>
   intro h
   rw [List.lookup_cons]
   split
   ·exact h _ (.head _)
   ·exact ih fun q hq=>h q (.tail _ hq)
 exact this prioT (by decide)
theorem prio_le (l:Toks):prio l≤9:=by
 rcases l with _ | ⟨⟨t,n⟩,l⟩
 ·exact Nat.zero_le _
 ·cases t with
  | op s=>exact zs8 s
  | _=>exact Nat.zero_le _
noncomputable def Min (rec:Nat→Toks→Out (Tr × Toks)):Prop:=∀ least l t r,1≤least→least≤10→rec least l=.ok (t,r) →
 cost t+zg3 r≤zg3 l∧(cost t+1+zg3 r≤zg3 l∨least≤zg4 t)∧prio r < least
section
variable {rec recU:Nat→Toks→Out (Tr × Toks)} {l:Toks}
theorem Min.one (m:Min rec) {t:Tr} {r:Toks} {k:Nat} (hk:1≤k) (hk2:k≤10) (h:rec k l=.ok (t,r)):cost t+br t k+zg3 r≤zg3 l:=by
 obtain ⟨h1,h2,_⟩:=m _ _ _ _ hk hk2 h
 unfold br
 split
 ·lia
 ·exact j52 h1
theorem yu1 (m:Min rec) {s:List Nat} {t:TrO} {r:Toks} (h:zv4 rec s l=.ok (t,r)):yv4 t+zg3 r≤zg3 l:=by
 unfold zv4 at h
 split at h
 ·cases h; exact Nat.le_of_eq (Nat.zero_add _)
 ·refine bokC h fun q h1 h=>?_
  cases h
  exact (m _ _ _ _ (Nat.le_refl _) (by decide) h1).1
theorem pCut_min (m:Min rec) {b t:Tr} {r:Toks} (h:pCut rec b l=.ok (t,r)):cost t+zg3 r≤cost b+zg3 l∧zg4 t=10:=by
 unfold pCut at h
 refine bokC h fun l1 h1 h=>?_
 refine bokC h fun q2 h2 h=>?_
 refine bokC h fun l3 h3 h=>?_
 refine bokC h fun q4 h4 h=>?_
 refine bokC h fun l5 h5 h=>?_
 cases h
 obtain ⟨k1,rfl⟩:=zy7 h1
 haveI e1:=yn1 k1
 haveI e2:=yu1 m h2
 haveI e3:=zj2 (zf8 h3)
 haveI e4:=yu1 m h4
 haveI e5:=zj2 (zf8 h5)
 refine ⟨?_,rfl⟩
 simp only [zs2,zw5,zs3,zs6,zr0]
 exact j53 e1 e2 e4 e3 e5
theorem yh0 (m:Min rec):∀ (k:Nat) (l:Toks) (t:Trs) (r:Toks),zn7 rec k l=.ok (t,r)→yf7 t+zg3 r≤zg3 l
 | 0,_,_,_,h=>by cases h
 | k+1,l,t,r,h=>by
  rw [zr1] at h
  refine bokC h fun q h1 h=>?_
  have e1:=(m _ _ _ _ (Nat.le_refl _) (by decide) h1).1
  split at h
  ·refine bokC h fun rs h2 h=>?_
   cases h
   haveI e2:=yh0 m k _ _ _ h2
   haveI e3:=zj2 (suf_tl (l:=q.2))
   simp only [yv8,yf0]
   exact j54 e2 e3 e1
  ·refine bokC h fun r' h2 h=>?_
   cases h
   have e3:=zj2 (zf8 h2)
   simp only [yv8,yf0]
   exact j55 e1 e3
theorem wf8 (m:Min rec) {t:Trs} {r:Toks} (h:zz2 rec l=.ok (t,r)):1+yf7 t+zg3 r≤zg3 l:=by
 unfold zz2 at h
 refine bokC h fun l1 h1 h=>?_
 obtain ⟨k1,rfl⟩:=zy7 h1
 have e1:=yn1 k1
 split at h
 ·cases h
  haveI e3:=zj2 (suf_tl (l:=l.tail))
  simp only [yv8,yf0]
  exact j56 e1 e3
 ·haveI:=yh0 m _ _ _ _ h
  exact j57 e1 this
theorem wd9 (m:Min rec) {s:List Nat} {t:Tr} {r:Toks} (h:zp4 rec s l=.ok (t,r)):cost t+zg3 r≤zg3 l∧zg4 t=10:=by
 rw [zr6] at h
 split at h
 ·cases h; exact ⟨Nat.le_of_eq (Nat.zero_add _),rfl⟩
 ·refine bokC h fun c _ h=>?_
  refine bokC h fun b hb h=>?_
  have hbs:cost b.1+zg3 b.2≤zg3 l∧zg4 b.1=10:=by
   cases c with
   | true=>cases hb; exact ⟨Nat.le_of_eq (Nat.zero_add _),rfl⟩
   | false =>
    refine bokC hb fun q hq hb=>?_
    cases hb
    haveI:=wf8 m hq
    exact ⟨by simp only [zs2,zw5,zs3,zs6,zr0]; exact j20 this,rfl⟩
  split at h
  ·haveI:=pCut_min m h
   exact ⟨by lia,this.2⟩
  ·cases h; exact hbs
theorem yr0 (m:Min rec) (hb:isOp tLP l=true) {t:Tr} {r:Toks} (h:zi8 rec l=.ok (t,r)):cost t+zg3 r≤zg3 l∧(cost t+1+zg3 r≤zg3 l∨zg4 t=10):=by
 haveI e0:=yn1 hb
 unfold zi8 at h
 split at h
 ·refine bokC h fun a h1 h=>?_
  refine bokC h fun b h2 h=>?_
  refine bokC h fun r' h3 h=>?_
  cases h
  haveI e1:=zj2 (zk7 h1)
  haveI e2:=zj2 (suf_tl (l:=a.2))
  haveI e3:=zj2 (zk7 h2)
  haveI e4:=zj2 (zf8 h3)
  exact ⟨by simp only [zs2,zw5,zs3,zs6,zr0]; exact j58 e0 e1 e2 e3 e4,.inr rfl⟩
 ·refine bokC h fun a h1 h=>?_
  refine bokC h fun r' h3 h=>?_
  cases h
  haveI e1:=(m _ _ _ _ (Nat.le_refl _) (by decide) h1).1
  haveI e4:=zj2 (zf8 h3)
  exact ⟨by exact j59 e0 e1 e4,.inl (by exact j60 e0 e1 e4)⟩
theorem pPrim_min (m:Min rec) {t:Tr} {r:Toks} (h:yq2 rec l=.ok (t,r)):cost t+zg3 r≤zg3 l∧(cost t+1+zg3 r≤zg3 l∨zg4 t=10):=by
 rcases l with _ | ⟨⟨t0,n⟩,r'⟩
 ·cases h
 ·cases t0 with
  | nam s =>
   haveI:=wd9 m (l:=r') h
   exact ⟨Nat.le_trans this.1 (Nat.le_of_eq (Nat.zero_add _).symm),.inr this.2⟩
  | op s =>
   by_cases hs:s=tLP
   ·exact yr0 (l:=(.op s,n)::r') m (decide_eq_true hs) ((if_pos hs).symm.trans h)
   ·cases (if_neg hs).symm.trans h
  | _ =>
   cases h
   exact ⟨Nat.le_refl _,.inr rfl⟩
noncomputable def Edge (least:Nat) (t:Tr) (w:Bool) (r l:Toks):Prop :=
 cost t+zg3 r≤zg3 l∧(cost t+1+zg3 r≤zg3 l∨(least≤zg4 t∧(1≤prio r→¬(prio r=5∧w=true)→zk5 (prio r)≤zg4 t)))
theorem we8 (m:Min rec) (mu:Min recU) {least:Nat} (h0:least≤10) {t:Tr} {r:Toks} (h:zk9 rec recU least l=.ok (t,r)):Edge least t false r l:=by
 unfold zk9 at h
 split at h
 ·rename_i hN
  split at h
  ·cases h
  ·rename_i hL
   refine bokC h fun q h1 h=>?_
   cases h
   haveI e1:=mu.one (by decide) (by decide) h1
   have e2:=zj2 (suf_tl (l:=l))
   have e3:=(mu _ _ _ _ (by decide) (by decide) h1).2.2
   refine ⟨by simp only [zs2,zw5,zs3,zs6,zr0]; rw [show unB tNOT=5 from rfl]; exact j37 e1 e2,.inr ⟨?_,fun h5 h6=>?_⟩⟩
   ·show least≤4; exact j61 hL
   ·show zk5 (prio q.2)≤4
    unfold zk5
    split
    ·lia
    ·split <;> (first | exact j409 e3 ‹_› | exact j62 e3)
 ·split at h
  ·rename_i hN hS
   split at h
   ·cases h
   ·rename_i hL
    refine bokC h fun q h1 h=>?_
    have ho:opTx l≠tNOT:=by
     rcases Bool.or_eq_true_iff.mp hS with k | k
     ·obtain ⟨n,r',rfl⟩:=zg7 k; show (_:List Nat)≠_; simp only [opTx]; decide
     ·obtain ⟨n,r',rfl⟩:=zg7 k; show (_:List Nat)≠_; simp only [opTx]; decide
    cases h
    haveI e1:=mu.one (by decide) (by decide) h1
    haveI e2:=zj2 (suf_tl (l:=l))
    haveI e3:=(mu _ _ _ _ (by decide) (by decide) h1).2.2
    refine ⟨by simp only [zs2,zw5,zs3,zs6,zr0]; rw [show unB (opTx l)=8 from if_neg ho]; exact j37 e1 e2,.inr ⟨?_,fun h5 h6=>?_⟩⟩
    ·show least≤if opTx l=tNOT then 4 else 7
     rw [if_neg ho]; exact j61 hL
    ·show zk5 (prio q.2)≤if opTx l=tNOT then 4 else 7
     rw [if_neg ho]
     unfold zk5
     split
     ·lia
     ·split <;> (first | exact j63 | exact j64 e3)
  ·obtain ⟨e1,e2⟩:=pPrim_min m h
   refine ⟨e1,e2.imp id fun e=>⟨by exact j65 e h0,fun _ _=>?_⟩⟩
   haveI:=prio_le r
   rw [e]
   unfold zk5
   split
   ·exact j66
   ·split <;> (first | exact j67 | exact j68 this)
theorem yu4 (m:Min rec) {least:Nat} (h0:1≤least) {l0:Toks}:∀ (k:Nat) (t:Tr) (w:Bool) (l:Toks) (t':Tr) (r:Toks),Edge least t w l l0→zy2 rec least k t w l=.ok (t',r) →
  cost t'+zg3 r≤zg3 l0∧(cost t'+1+zg3 r≤zg3 l0∨least≤zg4 t')∧prio r < least
 | 0,_,_,_,_,_,_,h=>by cases h
 | k+1,t,w,l,t',r,E,h=>by
  rw [zz8] at h
  split at h
  ·rename_i hp
   split at h
   ·cases h
   ·rename_i hw
    refine bokC h fun q h1 h=>?_
    refine yu4 m h0 k _ _ _ _ _ ?_ h
    haveI hp1:1≤prio l:=Nat.le_trans h0 hp
    obtain ⟨s,n,r',rfl⟩:=zy5 hp1
    haveI hpr:prio ((.op s,n)::r')=zg0 s:=rfl
    rw [hpr] at hp hp1 hw h1
    haveI e9:=zs8 s
    have e1:cost q.1+br q.1 (zi5 (zg0 s))+zg3 q.2≤zg3 r':=m.one (by unfold zi5; split <;> (first | exact j21 | exact j22)) (by unfold zi5; split <;> (first | exact j69 | exact j70 e9)) h1
    have e2:=(m _ _ _ _ (by split <;> (first | exact j21 | exact j22)) (by split <;> (first | exact j69 | exact j70 e9)) h1).2.2
    have e3:zg3 ((.op s,n)::r')=zg3 r':=by
     rw [zv2]
     haveI:s≠tLP:=by
      rintro rfl
      exact absurd hp1 (by decide)
     show (if s=tLP then 1 else 0)+_=_
     rw [if_neg this,Nat.zero_add]
    obtain ⟨E1,E2⟩:=E
    rw [e3] at E1 E2
    rw [hpr] at E2
    have e4:cost t+br t (zk5 (zg0 s))+zg3 r'≤zg3 l0:=by
     unfold br
     split
     ·rename_i hlt
      rcases E2 with E2 | ⟨_,E2⟩
      ·exact j20 E2
      ·haveI:=E2 hp1 hw; lia
     ·exact j52 E1
    haveI hb:zg4 (.bin s t q.1)=zg0 s:=rfl
    refine ⟨?_,.inr ⟨by rw [show opTx ((Tok.op s,n)::r')=s from rfl,hb]; exact hp,fun h5 h6=>?_⟩⟩
    ·show cost (.bin s t q.1)+_≤_
     simp only [zs2,zw5,zs3,zs6,zr0]
     exact j71 e1 e4
    ·rw [show opTx ((Tok.op s,n)::r')=s from rfl,hb]
     rw [hpr] at h6
     haveI h7:¬(prio q.2=5∧zg0 s=5):=fun hh=>h6 ⟨hh.1,by simp [hh.2]⟩
     unfold zk5
     split at e2 <;> split <;> (try split) <;> lia
  ·rename_i hp
   cases h
   exact ⟨E.1,E.2.imp id fun e=>e.1,by exact j73 hp⟩
end
theorem yy6:∀ n,Min (pB n)
 | n+6=>by
  intro least l t r h0 h10 h
  rw [yx7] at h
  refine bokC h fun q h1 h=>?_
  exact yu4 (yy6 (n+5)) h0 _ _ _ _ _ _ (we8 (yy6 n) (yy6 (n+4)) h10 h1) h
 | 0 | 1 | 2 | 3 | 4 | 5=>by intro least l t r h0 h10 h; cases h
end Mine
namespace Mine
set_option tactic.hygienic false
set_option genSizeOfSpec false
set_option genSizeOf false
inductive Lx where
 | t (t:Tok)
 | lpA
noncomputable abbrev Lx.o (s:List Nat):Lx:=.t (.op s)
noncomputable def Lx.tok:Lx→Tok
 | .t x=>x
 | .lpA=>.op tLP
noncomputable def zp1 (n:Nat):List Nat:=List.replicate n 48
noncomputable def zf9 (m:Nat) (e:Int) (c:Nat):List Nat :=
 if c=68∨0 < e∨e < -12 then intText m++[46]++[c]++intText e
 else if e=0 then intText m++[46]
 else if (intText m).length≤(-e).toNat then [46]++zp1 ((-e).toNat - (intText m).length)++intText m
 else (intText m).take ((intText m).length - (-e).toNat)++[46]++(intText m).drop ((intText m).length - (-e).toNat)
noncomputable def Tok.tx:Tok→List Nat
 | .op s=>s
 | .int v=>intText v
 | .real m e=>zf9 m e 69
 | .dble m e=>zf9 m e 68
 | .log b=>if b then [46,84,82,85,69,46] else [46,70,65,76,83,69,46]
 | .chr s=>39::(zh0 s++[39])
 | .nam s=>s
noncomputable def Lx.tx (x:Lx):List Nat:=x.tok.tx
noncomputable def txs:List Lx→List Nat
 | []=>[]
 | x::r=>x.tx++txs r
theorem zp9:txs []=[]:=rfl
theorem zn5 {x:Lx} {r:List Lx}:txs (x::r)=x.tx++txs r:=rfl
theorem zh4 (a b:List Lx):txs (a++b)=txs a++txs b:=by
 induction a with
 | nil=>rfl
 | cons x r ih=>rw [List.cons_append,zn5,zn5,ih,List.append_assoc]
noncomputable def posd:Nat→List Lx→Toks
 | _,[]=>[]
 | n,x::r=>(x.tok,n)::posd (n+x.tx.length) r
theorem yg3 {n:Nat}:posd n []=[]:=rfl
theorem zi7 {n:Nat} {x:Lx} {r:List Lx}:posd n (x::r)=(x.tok,n)::posd (n+x.tx.length) r:=rfl
theorem zh1 (a b:List Lx):∀ n,posd n (a++b)=posd n a++posd (n+(txs a).length) b:=by
 induction a with
 | nil=>intro n; rfl
 | cons x r ih=>intro n; rw [List.cons_append,zi7,zi7,ih,zn5,List.length_append,Nat.add_assoc]; rfl
theorem yz2 (a:List Lx):∀ n,(posd n a).length=a.length:=by
 induction a with
 | nil=>intro n; rfl
 | cons x r ih=>intro n; exact congrArg (·+1) (ih _)
noncomputable def wrap (b:Bool) (l:List Lx):List Lx:=match b with
 | true=>.o tLP::(l++[.o tRP])
 | false=>l
noncomputable def Num.lx:Num→List Lx
 | .int i=>(if i < 0 then [.o tMI] else [])++[.t (.int i.natAbs)]
 | .real m e=>(if m < 0 then [.o tMI] else [])++[.t (.real m.natAbs e)]
mutual
noncomputable def lx:Tr→List Lx
 | .bin op l r=>wrap (decide (zg4 l < zk5 (zg0 op))) (lx l)++.o op::wrap (decide (zg4 r < zi5 (zg0 op))) (lx r)
 | .un op a=>.o op::wrap (decide (zg4 a < unB op)) (lx a)
 | .nam s=>[.t (.nam s)]
 | .ref s as=>.t (.nam s)::.lpA::(row as++[.o tRP])
 | .sub b lo hi=>lx b++.lpA::(lxO lo++.o tCL::(lxO hi++[.o tRP]))
 | .int i=>[.t (.int i.toNat)]
 | .real m e=>[.t (.real m.toNat e)]
 | .dble m e=>[.t (.dble m.toNat e)]
 | .log b=>[.t (.log b)]
 | .chr s=>[.t (.chr s)]
 | .cplx a b=>.o tLP::(a.lx++.o tCM::(b.lx++[.o tRP]))
noncomputable def lxO:TrO→List Lx
 | .none=>[]
 | .some t=>lx t
noncomputable def row:Trs→List Lx
 | .nil=>[]
 | .cons t r=>lx t++rowT r
noncomputable def rowT:Trs→List Lx
 | .nil=>[]
 | .cons t r=>.o tCM::(lx t++rowT r)
end
noncomputable def nameL:List (List Nat):=[[65],[88,49],[90,69,66,82,65,57],[69,53],[68,50],[69,81]]
noncomputable def textL:List (List Nat):=[[],[65],[73,84,39,83],[39,39],[32,88,32],[40],[46,69,81,46],[61,44]]
noncomputable def opsL:List (List Nat):=[[43],[45],[42],[47],[42,42],[47,47],[46,69,81,46],[46,76,84,46],[46,65,78,68,46],[46,79,82,46],[46,69,81,86,46],[46,78,69,81,86,46],[46,71,69,46]]
noncomputable def zp6 (m:Nat) (e:Int):Prop:=m < 5000∧-20≤e∧e≤24∧(m=0→e=0)∧(m≠0→m % 10≠0)
noncomputable def yp3:Num→Prop
 | .int i=>i.natAbs < 30
 | .real m e=>zp6 m.natAbs e
noncomputable def wk1:Tr→Prop
 | .nam _=>True
 | .ref _ _=>True
 | _=>False
mutual
noncomputable def Ok:Tr→Prop
 | .bin op l r=>op∈opsL∧Ok l∧Ok r
 | .un op a=>(op=tNOT∨op=tPL∨op=tMI)∧Ok a
 | .nam s=>s∈nameL
 | .ref s as=>s∈nameL∧Oks as
 | .sub b lo hi=>wk1 b∧Ok b∧OkO lo∧OkO hi
 | .int i=>0≤i∧i < 1000000000000
 | .real m e=>0≤m∧zp6 m.toNat e
 | .dble m e=>0≤m∧zp6 m.toNat e
 | .log _=>True
 | .chr s=>s∈textL
 | .cplx a b=>yp3 a∧yp3 b
noncomputable def OkO:TrO→Prop
 | .none=>True
 | .some t=>Ok t
noncomputable def Oks:Trs→Prop
 | .nil=>True
 | .cons t r=>Ok t∧Oks r
end
theorem yb4 {s:List Nat}:lx (.nam s)=[.t (.nam s)]:=rfl
theorem yg7 {i:Int}:lx (.int i)=[.t (.int i.toNat)]:=rfl
theorem zx3 {m e:Int}:lx (.real m e)=[.t (.real m.toNat e)]:=rfl
theorem zw9 {m e:Int}:lx (.dble m e)=[.t (.dble m.toNat e)]:=rfl
theorem yf5 {b:Bool}:lx (.log b)=[.t (.log b)]:=rfl
theorem yh5 {s:List Nat}:lx (.chr s)=[.t (.chr s)]:=rfl
theorem zt1 {op:List Nat} {l r:Tr}:lx (.bin op l r)=wrap (decide (zg4 l < zk5 (zg0 op))) (lx l)++.o op::wrap (decide (zg4 r < zi5 (zg0 op))) (lx r):=rfl
theorem yc1 {op:List Nat} {a:Tr}:lx (.un op a)=.o op::wrap (decide (zg4 a < unB op)) (lx a):=rfl
theorem zp7 {s:List Nat} {as:Trs}:lx (.ref s as)=.t (.nam s)::.lpA::(row as++[.o tRP]):=rfl
theorem zt3 {b:Tr} {lo hi:TrO}:lx (.sub b lo hi)=lx b++.lpA::(lxO lo++.o tCL::(lxO hi++[.o tRP])):=rfl
theorem zp3 {a b:Num}:lx (.cplx a b)=.o tLP::(a.lx++.o tCM::(b.lx++[.o tRP])):=rfl
theorem yx6 {t:Tr}:lxO (.some t)=lx t:=rfl
theorem yc7 {t:Tr} {r:Trs}:row (.cons t r)=lx t++rowT r:=rfl
theorem wa0:rowT .nil=[]:=rfl
theorem zu2 {t:Tr} {r:Trs}:rowT (.cons t r)=.o tCM::(lx t++rowT r):=rfl
theorem zv3 {op:List Nat} (h:op∈opsL):1≤zg0 op:=by
 revert op; decide
noncomputable def opl:List Lx→Nat
 | []=>0
 | x::r=>op1 x.tok+opl r
theorem yc6 {x:Lx} {r:List Lx}:opl (x::r)=op1 x.tok+opl r:=rfl
theorem zm3 (a b:List Lx):opl (a++b)=opl a+opl b:=by
 induction a with
 | nil=>exact (Nat.zero_add _).symm
 | cons x r ih=>rw [List.cons_append,yc6,yc6,ih,Nat.add_assoc]
theorem wd3 (a:List Lx):∀ n,zg3 (posd n a)=opl a:=by
 induction a with
 | nil=>intro n; rfl
 | cons x r ih=>intro n; rw [zi7,zv2,ih]; rfl
theorem ym3 (b:Bool) (l:List Lx):opl (wrap b l)=opl l+(if b then 1 else 0):=by
 cases b with
 | false=>rfl
 | true =>
  show opl (.o tLP::(l++[.o tRP]))=_
  rw [yc6,zm3]
  show 1+(opl l+0)=_
  simp only [if_true]; exact j74
theorem opl_num (a:Num):opl a.lx=0:=by
 cases a <;> simp only [Num.lx] <;> split <;> rfl
theorem op1_op {op:List Nat} (h:1≤zg0 op):op1 (.op op)=0:=by
 unfold op1
 have:op≠tLP:=by rintro rfl; exact absurd h (by decide)
 simp only [this,if_false]
theorem op1_un {op:List Nat} (h:op=tNOT∨op=tPL∨op=tMI):op1 (.op op)=0:=by
 rcases h with rfl | rfl | rfl <;> rfl
theorem opl_lx:∀ t:Tr,Ok t→opl (lx t)=cost t:=by
 refine @Tr.rec (fun z=>Ok z→opl (lx z)=cost z) (fun z=>OkO z→opl (lxO z)=yv4 z) (fun z=>(Oks z→opl (row z)=yf7 z)∧(Oks z→opl (rowT z)=yf7 z)) ?_ ?_ ?_ ?_ ?_ ?_ ?_ ?_ ?_ ?_ ?_ ?_ ?_ ?_ ?_
 ·intro op l r i1 i2
  intro h
  haveI e1:=i1 h.2.1
  haveI e2:=i2 h.2.2
  haveI e3:=op1_op (zv3 h.1)
  rw [zt1,zm3,yc6,ym3,ym3,e1,e2,zs2]
  show _+(op1 (.op op)+_)=_
  rw [e3]
  simp only [br,decide_eq_true_eq]
  exact j75
 ·intro op a i1
  intro h
  haveI e1:=i1 h.2
  haveI e3:=op1_un h.1
  rw [yc1,yc6,ym3,e1,zw5]
  show op1 (.op op)+_=_
  rw [e3]
  simp only [br,decide_eq_true_eq]
  exact j76
 ·intro x0
  intro _
  exact rfl
 ·intro s as i1
  intro h
  have e1:=i1.1 h.2
  rw [zp7,yc6,yc6,zm3,e1,zs3]
  show 0+(1+(yf7 as+0))=_
  exact j77
 ·intro b lo hi i1 i2 i3
  intro h
  haveI e1:=i1 h.2.1
  haveI e2:=i2 h.2.2.1
  haveI e3:=i3 h.2.2.2
  rw [zt3,zm3,yc6,zm3,yc6,zm3,e1,e2,e3,zs6]
  show _+(1+(_+(0+(_+0))))=_
  exact j78
 ·intro x0
  intro _
  exact rfl
 ·intro x0 x1
  intro _
  exact rfl
 ·intro x0 x1
  intro _
  exact rfl
 ·intro x0
  intro _
  exact rfl
 ·intro x0
  intro _
  exact rfl
 ·intro a b
  intro _
  rw [zp3,yc6,zm3,yc6,zm3,opl_num,opl_num]
  rfl
 ·intro _
  exact rfl
 ·intro t i1
  intro h
  rw [yx6,costO_s]; exact i1 h
 ·refine ⟨?_,?_⟩
  ·intro _
   exact rfl
  ·intro _
   exact rfl
 ·intro t r i1 i2
  refine ⟨?_,?_⟩
  ·intro h
   rw [yc7,zm3,i1 h.1,i2.2 h.2,yf0]
  ·intro h
   rw [zu2,yc6,zm3,i1 h.1,i2.2 h.2,yf0]
   show 0+_=_
   exact j76
noncomputable def Bal (x:Toks):Prop:=(∀ rest dp,1≤dp→zg1 (x++rest) dp=(zg1 rest dp).map (·+x.length))∧(∀ rest dp k,0≤dp→zi3 (x.length+k) (x++rest) dp=zi3 k rest dp)
noncomputable def BalC (x:Toks):Prop:=(∀ rest dp,1≤dp→zg1 (x++rest) dp=(zg1 rest dp).map (·+x.length))∧(∀ rest dp k,1≤dp→zi3 (x.length+k) (x++rest) dp=zi3 k rest dp)
theorem Bal.c {x:Toks} (h:Bal x):BalC x:=⟨h.1,fun rest dp k hd=>h.2 rest dp k (by exact Int.le_of_lt hd)⟩
theorem yk7 (o:Option Nat) (a b:Nat):(o.map (·+a)).map (·+b)=o.map (·+(b+a)):=by
 cases o with
 | none=>rfl
 | some n=>simp only [Option.map_some]; congr 1; exact j79
theorem Bal.nil:Bal []:=⟨fun rest dp h=>by simp,fun rest dp k h=>by simp⟩
theorem Bal.app {a b:Toks} (h:Bal a) (g:Bal b):Bal (a++b) :=
 ⟨fun rest dp hd=>by rw [List.append_assoc,h.1 _ _ hd,g.1 _ _ hd,yk7,List.length_append],
  fun rest dp k hd=>by rw [List.append_assoc,List.length_append,Nat.add_assoc,h.2 _ _ _ hd,g.2 _ _ _ hd]⟩
theorem BalC.app {a b:Toks} (h:BalC a) (g:BalC b):BalC (a++b) :=
 ⟨fun rest dp hd=>by rw [List.append_assoc,h.1 _ _ hd,g.1 _ _ hd,yk7,List.length_append],
  fun rest dp k hd=>by rw [List.append_assoc,List.length_append,Nat.add_assoc,h.2 _ _ _ hd,g.2 _ _ _ hd]⟩
theorem yy3 {s t:List Nat} {n:Nat} {r:Toks}:isOp s ((.op t,n)::r)=decide (t=s):=rfl
theorem wf6 {p:Tok × Nat} {r:Toks} {dp:Int} (h1:isOp tLP (p::r)=false) (h2:isOp tRP (p::r)=false):zg1 (p::r) dp=(zg1 r dp).map (·+1):=by
 simp only [zr4,h1,h2]
theorem wf9 {p:Tok × Nat} {r:Toks} {dp:Int} {k:Nat} (h1:isOp tLP (p::r)=false) (h2:isOp tRP (p::r)=false) (h3:dp=0→isOp tCL (p::r)=false):zi3 (k+1) (p::r) dp=zi3 k r dp:=by
 simp only [zr5,h1,h2]
 rw [if_neg]
 rintro ⟨e,f⟩
 rw [h3 e] at f; cases f
theorem zy6 {s:List Nat} {p:Tok × Nat} {r r':Toks}:isOp s (p::r)=isOp s (p::r'):=by
 obtain ⟨t,n⟩:=p
 cases t <;> rfl
theorem Bal.one {p:Tok × Nat} (h1:isOp tLP [p]=false) (h2:isOp tRP [p]=false) (h3:isOp tCL [p]=false):Bal [p] :=
 ⟨fun rest dp hd=>by rw [List.singleton_append,wf6 (by rw [zy6 (r':=[])]; exact h1) (by rw [zy6 (r':=[])]; exact h2)]; rfl,
  fun rest dp k hd=>by
  rw [List.singleton_append,List.length_singleton,Nat.add_comm]
  exact wf9 (by rw [zy6 (r':=[])]; exact h1) (by rw [zy6 (r':=[])]; exact h2) fun _=>by rw [zy6 (r':=[])]; exact h3⟩
theorem BalC.colon {n:Nat}:BalC [(.op tCL,n)] :=
 ⟨fun rest dp hd=>by rw [List.singleton_append,wf6 rfl rfl]; rfl,
  fun rest dp k hd=>by
  rw [List.singleton_append,List.length_singleton,Nat.add_comm]
  exact wf9 rfl rfl fun e=>by lia⟩
theorem cl_lp {n:Nat} {r:Toks} {dp:Int}:zg1 ((.op tLP,n)::r) dp=(zg1 r (dp+1)).map (·+1):=rfl
theorem cl_rp {n:Nat} {r:Toks} {dp:Int}:zg1 ((.op tRP,n)::r) dp=if dp - 1=0 then some 0 else (zg1 r (dp - 1)).map (·+1):=rfl
theorem Bal.br {x:Toks} {n m:Nat} (h:BalC x):Bal ((.op tLP,n)::(x++[(.op tRP,m)])) :=
 ⟨fun rest dp hd=>by
  rw [List.cons_append,List.append_assoc,cl_lp,h.1 _ _ (by exact Int.le_add_one hd),List.singleton_append,cl_rp,if_neg (by lia)]
  haveI:dp+1 - 1=dp:=by exact Int.add_sub_cancel _ 1
  rw [this,yk7,yk7]
  congr 1
  funext k
  simp only [List.length_cons,List.length_append,List.length_nil]; exact j80,
  fun rest dp k hd=>by
  haveI e:((Tok.op tLP,n)::(x++[(Tok.op tRP,m)])).length+k=(x.length+(k+1))+1:=by simp only [List.length_cons,List.length_append,List.length_nil]; exact j81
  rw [e,List.cons_append,List.append_assoc]
  show zi3 (x.length+(k+1)) (x++((Tok.op tRP,m)::rest)) (dp+1)=_
  rw [h.2 _ _ _ (by exact Int.le_add_of_nonneg_left hd)]
  show zi3 k rest (dp+1 - 1)=_
  congr 1; exact Int.add_sub_cancel _ 1⟩
theorem yp5 {l:List Lx} (h:∀ n,Bal (posd n l)) (b:Bool) (n:Nat):Bal (posd n (wrap b l)):=by
 cases b with
 | false=>exact h n
 | true =>
  show Bal (posd n (.o tLP::(l++[.o tRP])))
  rw [zi7,zh1]
  exact Bal.br (h _).c
theorem wg9 (a:Num) (n:Nat):Bal (posd n a.lx):=by
 cases a with
 | int i =>
  simp only [Num.lx]
  split
  ·exact Bal.app (a:=[_]) (b:=[_]) (Bal.one rfl rfl rfl) (Bal.one rfl rfl rfl)
  ·exact Bal.one rfl rfl rfl
 | real m e =>
  simp only [Num.lx]
  split
  ·exact Bal.app (a:=[_]) (b:=[_]) (Bal.one rfl rfl rfl) (Bal.one rfl rfl rfl)
  ·exact Bal.one rfl rfl rfl
theorem wc0 {op:List Nat} {n:Nat} (h1:op≠tLP) (h2:op≠tRP) (h3:op≠tCL):Bal [(.op op,n)] :=
 Bal.one (by rw [yy3]; simp [h1]) (by rw [yy3]; simp [h2]) (by rw [yy3]; simp [h3])
theorem bal_bin {op:List Nat} {n:Nat} (h:1≤zg0 op):Bal [(.op op,n)] :=
 wc0 (by rintro rfl; exact absurd h (by decide)) (by rintro rfl; exact absurd h (by decide)) (by rintro rfl; exact absurd h (by decide))
theorem bal_un {op:List Nat} {n:Nat} (h:op=tNOT∨op=tPL∨op=tMI):Bal [(.op op,n)]:=by
 rcases h with rfl | rfl | rfl <;> exact wc0 (by decide) (by decide) (by decide)
mutual
theorem ye5:∀ t:Tr,Ok t→∀ n,Bal (posd n (lx t))
 | .bin op l r,h,n=>by
  rw [zt1,zh1]
  refine Bal.app (yp5 (ye5 l h.2.1) _ _) ?_
  rw [zi7]
  exact Bal.app (a:=[_]) (bal_bin (zv3 h.1)) (yp5 (ye5 r h.2.2) _ _)
 | .un op a,h,n=>by
  rw [yc1,zi7]
  exact Bal.app (a:=[_]) (bal_un h.1) (yp5 (ye5 a h.2) _ _)
 | .nam s,h,n=>Bal.one rfl rfl rfl
 | .ref s as,h,n=>by
  rw [zp7,zi7,zi7,zh1]
  exact Bal.app (a:=[_]) (Bal.one rfl rfl rfl) (Bal.br (wj8 as h.2 _).c)
 | .sub b lo hi,h,n=>by
  rw [zt3,zh1]
  refine Bal.app (ye5 b h.2.1 _) ?_
  rw [zi7,zh1,zi7,zh1]
  haveI e:∀ (p q r:Nat) (x y:Toks),((Lx.lpA.tok,p)::(x++(Lx.tok (.o tCL),q)::(y++posd r [.o tRP])))=(Tok.op tLP,p)::((x++([(Tok.op tCL,q)]++y))++[(Tok.op tRP,r)]):=by
   intros; simp [zi7,yg3,Lx.tok]
  rw [e]
  exact Bal.br (BalC.app (yp0 lo h.2.2.1 _).c (BalC.app BalC.colon (yp0 hi h.2.2.2 _).c))
 | .int _,_,n=>Bal.one rfl rfl rfl
 | .real _ _,_,n=>Bal.one rfl rfl rfl
 | .dble _ _,_,n=>Bal.one rfl rfl rfl
 | .log _,_,n=>Bal.one rfl rfl rfl
 | .chr _,_,n=>Bal.one rfl rfl rfl
 | .cplx a b,_,n=>by
  rw [zp3,zi7,zh1,zi7,zh1]
  haveI e:∀ (p q r:Nat) (x y:Toks),((Lx.tok (.o tLP),p)::(x++(Lx.tok (.o tCM),q)::(y++posd r [.o tRP])))=(Tok.op tLP,p)::((x++([(Tok.op tCM,q)]++y))++[(Tok.op tRP,r)]):=by
   intros; simp [zi7,yg3,Lx.tok]
  rw [e]
  exact Bal.br (Bal.app (wg9 a _) (Bal.app (wc0 (by decide) (by decide) (by decide)) (wg9 b _))).c
theorem yp0:∀ t:TrO,OkO t→∀ n,Bal (posd n (lxO t))
 | .none,_,_=>Bal.nil
 | .some t,h,n=>by rw [yx6]; exact ye5 t h n
theorem wj8:∀ t:Trs,Oks t→∀ n,Bal (posd n (row t))
 | .nil,_,_=>Bal.nil
 | .cons t r,h,n=>by
  rw [yc7,zh1]
  exact Bal.app (ye5 t h.1 _) (wc2 r h.2 _)
theorem wc2:∀ t:Trs,Oks t→∀ n,Bal (posd n (rowT t))
 | .nil,_,_=>Bal.nil
 | .cons t r,h,n=>by
  rw [zu2,zi7,zh1]
  exact Bal.app (a:=[_]) (wc0 (by decide) (by decide) (by decide)) (Bal.app (ye5 t h.1 _) (wc2 r h.2 _))
end
theorem isCut_no {x:Toks} {n m:Nat} {rest:Toks} (h:Bal x):yg0 ((.op tLP,n)::(x++(.op tRP,m)::rest))=.ok false:=by
 unfold yg0
 rw [cl_lp,h.1 _ _ (by decide),cl_rp,if_pos (by decide)]
 show Out.ok (zi3 (0+x.length+1 - 1) (x++_) 0)=_
 haveI:0+x.length+1 - 1=x.length+0:=by lia
 rw [this,h.2 _ _ _ (by decide)]
 rfl
theorem wm3 {x y:Toks} {n m p:Nat} {rest:Toks} (h:Bal x) (g:Bal y):yg0 ((.op tLP,n)::(x++(.op tCL,m)::(y++(.op tRP,p)::rest)))=.ok true:=by
 haveI hc:BalC (x++([(.op tCL,m)]++y)):=BalC.app h.c (BalC.app BalC.colon g.c)
 haveI e:((.op tLP,n)::(x++(.op tCL,m)::(y++(.op tRP,p)::rest)):Toks)=(.op tLP,n)::((x++([(.op tCL,m)]++y))++(.op tRP,p)::rest):=by simp
 unfold yg0
 haveI hcl:zg1 ((.op tLP,n)::(x++(.op tCL,m)::(y++(.op tRP,p)::rest))) 0=some (x.length+(1+y.length)+1):=by
  rw [e,cl_lp,hc.1 _ _ (by decide),cl_rp,if_pos (by decide)]
  simp only [Option.map_some,List.length_append,List.length_singleton]
  congr 1; exact j82
 rw [hcl]
 show Out.ok (zi3 (x.length+(1+y.length)+1 - 1) (x++_) 0)=_
 haveI:x.length+(1+y.length)+1 - 1=x.length+(y.length+1):=by lia
 rw [this,h.2 _ _ _ (by decide)]
 rfl
end Mine
namespace Mine
set_option tactic.hygienic false
noncomputable def upB:Tr→Nat
 | .bin op _ _=>zi5 (zg0 op)
 | .un op _=>unB op
 | _=>100
noncomputable def wf5:Tr→Bool
 | .bin op _ _=>decide (zg0 op=5)
 | _=>false
noncomputable def wl:List Lx→Nat
 | []=>0
 | x::r=>wT x.tok+wl r
theorem wl_c {x:Lx} {r:List Lx}:wl (x::r)=wT x.tok+wl r:=rfl
theorem zk6 (a b:List Lx):wl (a++b)=wl a+wl b:=by
 induction a with
 | nil=>exact (Nat.zero_add _).symm
 | cons x r ih=>rw [List.cons_append,wl_c,wl_c,ih,Nat.add_assoc]
theorem wt_posd (a:List Lx):∀ n,wt (posd n a)=wl a:=by
 induction a with
 | nil=>intro n; rfl
 | cons x r ih=>intro n; rw [zi7,wt,ih]; rfl
theorem ys3:wT Lx.lpA.tok=6:=rfl
theorem wl_lp:wT (Lx.o tLP).tok=6:=rfl
theorem wl_rp:wl [Lx.o tRP]=0:=rfl
theorem wl_cl:wT (Lx.o tCL).tok=0:=rfl
theorem wl_cm:wT (Lx.o tCM).tok=0:=rfl
theorem wl_t:wl (wrap true l)=6+wl l:=by
 show wl (.o tLP::(l++[.o tRP]))=_
 rw [wl_c,zk6,wl_lp,wl_rp]; exact j83
theorem wT_bin {op:List Nat} (h:1≤zg0 op):wT (.op op)=2:=by
 show (if op=tLP then 6 else if 1≤zg0 op∨op=tNOT then 2 else 0)=2
 rw [if_neg (by rintro rfl; exact absurd h (by decide)),if_pos (Or.inl h)]
theorem wT_un {op:List Nat} (h:op=tNOT∨op=tPL∨op=tMI):wT (.op op)=2:=by
 rcases h with rfl | rfl | rfl <;> rfl
noncomputable def HD (l:List Lx):Prop:=∀ n rest,isOp tRP (posd n l++rest)=false∧isOp tCL (posd n l++rest)=false
theorem hd_wrap {l m:List Lx} (h:HD l) (b:Bool):HD (wrap b l++m):=by
 intro n rest
 cases b with
 | true=>exact ⟨rfl,rfl⟩
 | false =>
  rw [show wrap false l=l from rfl,zh1,List.append_assoc]
  exact h n _
theorem hd_app {l m:List Lx} (h:HD l):HD (l++m):=hd_wrap (b:=false) h
theorem hd_lx:∀ t:Tr,Ok t→HD (lx t)
 | .bin op l r,h=>by
  rw [zt1]
  exact hd_wrap (hd_lx l h.2.1) _
 | .un op a,h=>by
  rw [yc1]
  rcases h.1 with rfl | rfl | rfl <;> exact fun n rest=>⟨rfl,rfl⟩
 | .nam _,_=>fun n rest=>⟨rfl,rfl⟩
 | .ref _ _,_=>fun n rest=>by rw [zp7]; exact ⟨rfl,rfl⟩
 | .sub b lo hi,h=>by
  rw [zt3]
  exact hd_app (hd_lx b h.2.1)
 | .int _,_=>fun n rest=>⟨rfl,rfl⟩
 | .real _ _,_=>fun n rest=>⟨rfl,rfl⟩
 | .dble _ _,_=>fun n rest=>⟨rfl,rfl⟩
 | .log _,_=>fun n rest=>⟨rfl,rfl⟩
 | .chr _,_=>fun n rest=>⟨rfl,rfl⟩
 | .cplx _ _,_=>fun n rest=>by rw [zp3]; exact ⟨rfl,rfl⟩
noncomputable def NC (l:List Lx):Prop:=∀ n rest,isOp tCM rest=false→(∀ c,zu8 (posd n l++rest)=some c→isOp tCM c=false)∧(∀ c,zu8 (zq0 (posd n l++rest))=some c→isOp tCM c=false)
theorem wm7 {l:List Lx} (h:NC l) (b:Bool):NC (wrap b l):=by
 cases b with
 | false=>exact h
 | true=>exact fun n rest _=>⟨fun c hc=>(by cases hc),fun c hc=>(by cases hc)⟩
theorem nc_app {l:List Lx} {x:Lx} {m:List Lx} (h:NC l) (hx:∀ n r,isOp tCM ((x.tok,n)::r)=false):NC (l++x::m):=by
 intro n rest hr
 rw [zh1,List.append_assoc,zi7,List.cons_append]
 exact h n _ (hx _ _)
theorem cm_bin {op:List Nat} (h:1≤zg0 op) (n:Nat) (r:Toks):isOp tCM (((Lx.o op).tok,n)::r)=false:=by
 show decide (op=tCM)=false
 rw [decide_eq_false_iff_not]
 rintro rfl
 exact absurd h (by decide)
theorem nc_lx:∀ t:Tr,Ok t→NC (lx t)
 | .bin op l r,h=>by
  rw [zt1]
  exact nc_app (wm7 (nc_lx l h.2.1) _) (cm_bin (zv3 h.1))
 | .un op a,h=>by
  have ih:=wm7 (nc_lx a h.2) (decide (zg4 a < unB op))
  rw [yc1]
  intro n rest hr
  rw [zi7,List.cons_append]
  refine ⟨fun c hc=>(by cases hc),fun c hc=>?_⟩
  rcases h.1 with rfl | rfl | rfl
  ·cases hc
  ·exact (ih _ rest hr).1 c hc
  ·exact (ih _ rest hr).1 c hc
 | .nam _,_=>fun n rest _=>⟨fun c hc=>(by cases hc),fun c hc=>(by cases hc)⟩
 | .ref _ _,_=>fun n rest _=>by rw [zp7]; exact ⟨fun c hc=>(by cases hc),fun c hc=>(by cases hc)⟩
 | .sub b lo hi,h=>by
  rw [zt3]
  exact nc_app (nc_lx b h.2.1) fun _ _=>rfl
 | .int _,_=>fun n rest hr=>⟨fun c hc=>(by cases hc; exact hr),fun c hc=>(by cases hc; exact hr)⟩
 | .real _ _,_=>fun n rest hr=>⟨fun c hc=>(by cases hc; exact hr),fun c hc=>(by cases hc; exact hr)⟩
 | .dble _ _,_=>fun n rest _=>⟨fun c hc=>(by cases hc),fun c hc=>(by cases hc)⟩
 | .log _,_=>fun n rest _=>⟨fun c hc=>(by cases hc),fun c hc=>(by cases hc)⟩
 | .chr _,_=>fun n rest _=>⟨fun c hc=>(by cases hc),fun c hc=>(by cases hc)⟩
 | .cplx _ _,_=>fun n rest _=>by rw [zp3]; exact ⟨fun c hc=>(by cases hc),fun c hc=>(by cases hc)⟩
theorem not_cplx {l:List Lx} (h:NC l) {n m p:Nat} {rest:Toks}:zw4 ((.op tLP,n)::(posd m l++(.op tRP,p)::rest))=false:=by
 unfold zw4
 rw [List.tail_cons,zv1]
 cases hc:zu8 (zq0 (posd m l++(.op tRP,p)::rest)) with
 | none=>rfl
 | some c =>
  have:=(h m ((.op tRP,p)::rest) rfl).2 c hc
  dsimp only
  rw [this]
noncomputable def RT (t:Tr):Prop:=∀ m least n rest,wl (lx t)≤m→1≤least→least≤zg4 t→prio rest < upB t→isOp tLP rest=false →
 ∃ K,rest.length < K∧pB (m+6) least (posd n (lx t)++rest)=zy2 (pB (m+5)) least K t (wf5 t) rest
theorem yr7 {rec:Nat→Toks→Out (Tr × Toks)} {least K:Nat} {t:Tr} {w:Bool} {rest:Toks} (hK:rest.length < K) (hp:prio rest < least):zy2 rec least K t w rest=.ok (t,rest):=by
 obtain ⟨K,rfl⟩:=Nat.exists_eq_add_of_le' (show 1≤K by exact j84 hK)
 rw [zz8]
 rw [if_neg (by exact j85 hp)]
theorem yz4 (t:Tr) (h:Ok t):zg4 t≤upB t:=by
 match t,h with
 | .bin op _ _,h=>
  show zg0 op≤zi5 (zg0 op)
  unfold zi5
  haveI:=zs8 op
  split <;> (first | exact j413 ‹_› | exact j86)
 | .un op _,h =>
  show (if op=tNOT then 4 else 7)≤if op=tNOT then 5 else 8
  split <;> (first | exact j87 | exact j88)
 | .nam _,_ | .ref _ _,_ | .sub _ _ _,_ | .int _,_ | .real _ _,_ | .dble _ _,_ | .log _,_ | .chr _,_ | .cplx _ _,_=>exact (by decide:10≤100)
theorem bind_pos (t:Tr) (h:Ok t):1≤zg4 t:=by
 match t,h with
 | .bin op _ _,h=>exact zv3 h.1
 | .un op _,h =>
  show 1≤(if op=tNOT then 4 else 7)
  split <;> (first | exact j89 | exact j90)
 | .nam _,_ | .ref _ _,_ | .sub _ _ _,_ | .int _,_ | .real _ _,_ | .dble _ _,_ | .log _,_ | .chr _,_ | .cplx _ _,_=>exact (by decide:1≤10)
theorem rel_bind {t:Tr} (h:wf5 t=true):zg4 t=5:=by
 cases t with
 | bin op _ _=>exact of_decide_eq_true h
 | _=>exact nb h
theorem RT.arg {t:Tr} (h:RT t) (ok:Ok t) {m n:Nat} {rest:Toks} (hw:wl (lx t)≤m) (hp:prio rest=0) (hL:isOp tLP rest=false):pB (m+6) 1 (posd n (lx t)++rest)=.ok (t,rest):=by
 have h1:=bind_pos t ok
 have h2:=yz4 t ok
 obtain ⟨K,hK,e⟩:=h m 1 n rest hw (Nat.le_refl _) h1 (by exact j91 h1 h2 hp) hL
 rw [e]
 exact yr7 hK (by exact j92 hp)
theorem wa4 {rec recU:Nat→Toks→Out (Tr × Toks)} {least n:Nat} {r:Toks}:zk9 rec recU least ((.op tLP,n)::r)=zi8 rec ((.op tLP,n)::r):=rfl
theorem RT.opd {t:Tr} (h:RT t) (ok:Ok t) {k m least n:Nat} {rest:Toks} (hw:wl (wrap (decide (zg4 t < k)) (lx t))≤m) (h0:1≤least) (hk:least≤k) (hu:k≤zg4 t→prio rest < upB t) (hL:isOp tLP rest=false) :
  ∃ K w,rest.length < K∧(w=true→zg4 t=5∧k≤zg4 t)∧pB (m+6) least (posd n (wrap (decide (zg4 t < k)) (lx t))++rest)=zy2 (pB (m+5)) least K t w rest:=by
 by_cases hb:zg4 t < k
 ·rw [decide_eq_true hb] at hw ⊢
  rw [wl_t] at hw
  obtain ⟨m,rfl⟩:=Nat.exists_eq_add_of_le' (show 6≤m by exact j93 hw)
  haveI e:posd n (wrap true (lx t))++rest=(.op tLP,n)::(posd (n+(Lx.o tLP).tx.length) (lx t)++(.op tRP,n+(Lx.o tLP).tx.length+(txs (lx t)).length)::rest):=by
   show posd n (.o tLP::(lx t++[.o tRP]))++rest=_
   simp only [zi7,yg3,zh1,List.cons_append,List.append_assoc,List.nil_append,Lx.tok]
  rw [e,yx7,wa4]
  haveI e2:=h.arg ok (m:=m) (n:=n+(Lx.o tLP).tx.length) (rest:=(.op tRP,n+(Lx.o tLP).tx.length+(txs (lx t)).length)::rest) (by exact j94 hw) rfl rfl
  unfold zi8
  rw [not_cplx (nc_lx t ok),List.tail_cons]
  dsimp only
  rw [e2,za1]
  refine ⟨_,false,?_,fun q=>(by cases q),rfl⟩
  simp only [List.length_cons,List.length_append]; exact j95
 ·rw [decide_eq_false hb] at hw ⊢
  obtain ⟨K,hK,e⟩:=h m least n rest hw h0 (by exact j96 hk hb) (hu (by exact j61 hb)) hL
  exact ⟨K,_,hK,fun q=>⟨rel_bind q,by exact j61 hb⟩,e⟩
theorem RT.right {t:Tr} (h:RT t) (ok:Ok t) {k m n:Nat} {rest:Toks} (hw:wl (wrap (decide (zg4 t < k)) (lx t))≤m) (h0:1≤k) (hp:prio rest < k) (hL:isOp tLP rest=false) :
  pB (m+6) k (posd n (wrap (decide (zg4 t < k)) (lx t))++rest)=.ok (t,rest):=by
 obtain ⟨K,w,hK,_,e⟩:=h.opd ok (n:=n) (rest:=rest) hw h0 (Nat.le_refl _) (fun q=>by have:=yz4 t ok; exact j97 hp q this) hL
 rw [e]
 exact yr7 hK hp
noncomputable def RTs:Trs→Prop
 | .nil=>True
 | .cons t r=>RT t∧RTs r
noncomputable def RTO:TrO→Prop
 | .none=>True
 | .some t=>RT t
noncomputable def lenT:Trs→Nat
 | .nil=>0
 | .cons _ r=>lenT r+1
theorem ye1 {t:Tr} {r:Trs}:lenT (.cons t r)=lenT r+1:=rfl
theorem wh7:∀ r:Trs,lenT r≤(rowT r).length
 | .nil=>Nat.le_refl _
 | .cons t r=>by
  rw [zu2,ye1,List.length_cons,List.length_append]
  have:=wh7 r
  exact j98 this
theorem args_rt {m:Nat}:∀ (r:Trs) (t:Tr),RT t→RTs r→Ok t→Oks r→wl (lx t++rowT r)≤m→∀ (k n p:Nat) (rest:Toks),lenT r < k →
  zn7 (pB (m+6)) k (posd n (lx t++rowT r)++(.op tRP,p)::rest)=.ok (.cons t r,rest)
 | .nil,t,h,hs,ok,oks,hw,k,n,p,rest,hk=>by
  obtain ⟨k,rfl⟩:=Nat.exists_eq_add_of_le' (show 1≤k by exact j84 hk)
  rw [show rowT .nil=[] from rfl,List.append_nil] at hw ⊢
  rw [zr1]
  rw [h.arg ok hw rfl rfl,za1]
  rfl
 | .cons t2 r,t,h,hs,ok,oks,hw,k,n,p,rest,hk=>by
  replace oks:Ok _∧Oks _:=oks
  replace hs:RT _∧RTs _:=hs
  obtain ⟨k,rfl⟩:∃ j,k=j+1:=⟨k - 1,by rw [ye1] at hk; exact j99 hk⟩
  rw [zu2] at hw ⊢
  rw [zk6,wl_c] at hw
  rw [zh1,zi7,List.append_assoc,List.cons_append]
  rw [zr1]
  rw [h.arg ok (by exact j93 hw) rfl rfl,za1]
  haveI ih:=args_rt (m:=m) r t2 hs.1 hs.2 oks.1 oks.2 (by exact j100 hw) k (n+(txs (lx t)).length+(Lx.o tCM).tx.length) p rest (by rw [ye1] at hk; exact j101 hk)
  rw [show ∀ (q:Nat) (l:Toks),isOp tCM ((Lx.tok (.o tCM),q)::l)=true from fun _ _=>rfl]
  dsimp only
  rw [List.tail_cons,ih]
  rfl
theorem pArgs_rt {m:Nat} {as:Trs} (h:RTs as) (ok:Oks as) (hw:wl (row as)≤m) (q n p:Nat) (rest:Toks):zz2 (pB (m+6)) ((.op tLP,q)::(posd n (row as)++(.op tRP,p)::rest))=.ok (as,rest):=by
 unfold zz2
 rw [show zi6 tLP ((.op tLP,q)::(posd n (row as)++(.op tRP,p)::rest))=.ok (posd n (row as)++(.op tRP,p)::rest) from rfl,za1]
 cases as with
 | nil=>rfl
 | cons t r =>
  replace ok:Ok _∧Oks _:=ok
  replace h:RT _∧RTs _:=h
  rw [yc7] at hw ⊢
  rw [(hd_app (hd_lx t ok.1) n _).1]
  dsimp only
  refine args_rt r t h.1 h.2 ok.1 ok.2 hw _ _ _ _ ?_
  haveI:=wh7 r
  simp only [List.length_append,yz2,List.length_cons]
  exact j102 this
theorem wb9 {m:Nat} {o:TrO} (h:RTO o) (ok:OkO o) (hw:wl (lxO o)≤m) (s:List Nat) (hs:s=tCL∨s=tRP) (n p:Nat) (rest:Toks):zv4 (pB (m+6)) s (posd n (lxO o)++(.op s,p)::rest)=.ok (o,(.op s,p)::rest):=by
 unfold zv4
 cases o with
 | none =>
  rw [show posd n (lxO .none)++(Tok.op s,p)::rest=(Tok.op s,p)::rest from rfl]
  rw [yy3,decide_eq_true rfl]
 | some t =>
  replace ok:Ok _:=ok
  replace h:RT _:=h
  rw [yx6] at hw ⊢
  haveI hd:=hd_lx t ok n ((.op s,p)::rest)
  have:isOp s (posd n (lx t)++(.op s,p)::rest)=false:=by
   rcases hs with rfl | rfl
   ·exact hd.2
   ·exact hd.1
  rw [this]
  dsimp only
  rw [h.arg ok hw (by rcases hs with rfl | rfl <;> rfl) (by rcases hs with rfl | rfl <;> rfl)]
  rfl
theorem wi9 {m:Nat} {lo hi:TrO} (h1:RTO lo) (h2:RTO hi) (o1:OkO lo) (o2:OkO hi) (hw1:wl (lxO lo)≤m) (hw2:wl (lxO hi)≤m) (b:Tr) (q n1 p n2 p2:Nat) (rest:Toks) :
  pCut (pB (m+6)) b ((.op tLP,q)::(posd n1 (lxO lo)++(.op tCL,p)::(posd n2 (lxO hi)++(.op tRP,p2)::rest)))=.ok (.sub b lo hi,rest):=by
 unfold pCut
 rw [show ∀ l,zi6 tLP ((.op tLP,q)::l)=.ok l from fun _=>rfl,za1,wb9 h1 o1 hw1 tCL (.inl rfl),za1]
 rw [show ∀ l,zi6 tCL ((.op tCL,p)::l)=.ok l from fun _=>rfl,za1,wb9 h2 o2 hw2 tRP (.inr rfl),za1]
 rfl
theorem cplx_num {a:Num} {n p:Nat} {s:List Nat} {rest:Toks}:zt0 (posd n a.lx++(.op s,p)::rest)=some ((.op s,p)::rest)∧zk1 (posd n a.lx++(.op s,p)::rest)=.ok (a,(.op s,p)::rest):=by
 cases a with
 | int i =>
  simp only [Num.lx]
  by_cases hi:i < 0
  ·rw [if_pos hi]
   refine ⟨rfl,?_⟩
   show Out.ok (Num.int ((-1) * ((i.natAbs:Nat):Int)),_)=_
   have:(-1) * ((i.natAbs:Nat):Int)=i:=by exact j103 hi
   rw [this]
   rfl
  ·rw [if_neg hi]
   refine ⟨rfl,?_⟩
   show Out.ok (Num.int (1 * ((i.natAbs:Nat):Int)),_)=_
   have:1 * ((i.natAbs:Nat):Int)=i:=by exact j104 hi
   rw [this]
   rfl
 | real i e =>
  simp only [Num.lx]
  by_cases hi:i < 0
  ·rw [if_pos hi]
   refine ⟨rfl,?_⟩
   show Out.ok (Num.real ((-1) * ((i.natAbs:Nat):Int)) e,_)=_
   haveI:(-1) * ((i.natAbs:Nat):Int)=i:=by exact j103 hi
   rw [this]
   rfl
  ·rw [if_neg hi]
   refine ⟨rfl,?_⟩
   show Out.ok (Num.real (1 * ((i.natAbs:Nat):Int)) e,_)=_
   have:1 * ((i.natAbs:Nat):Int)=i:=by exact j104 hi
   rw [this]
   rfl
theorem left_up {lv:Nat} {t:Tr} (h9:lv≤9) (h1:1≤lv) (h:zk5 lv≤zg4 t):lv < upB t:=by
 haveI hl:lv≤zk5 lv:=by unfold zk5; split <;> (try split) <;> (first | exact j414 ‹_› | exact j415 ‹_› | exact j66)
 match t,h with
 | .bin op _ _,h =>
  haveI h:zk5 lv≤zg0 op:=h
  show lv < zi5 (zg0 op)
  haveI:=zs8 op
  unfold zi5
  unfold zk5 at h
  split at h
  ·lia
  ·split <;> split at h <;> lia
 | .un op _,h =>
  haveI h:zk5 lv≤if op=tNOT then 4 else 7:=h
  show lv < if op=tNOT then 5 else 8
  split <;> rename_i q
  ·rw [if_pos q] at h; exact j105 h hl
  ·rw [if_neg q] at h; exact j106 h hl
 | .nam _,h | .ref _ _,h | .sub _ _ _,h | .int _,h | .real _ _,h | .dble _ _,h | .log _,h | .chr _,h | .cplx _ _,h=>exact (show lv < 100 by exact j107 h9)
end Mine
namespace Mine
set_option tactic.hygienic false
theorem zs0 {t:Tr} (hr:wf5 t=false) (h:∀ m least n rest,wl (lx t)≤m→isOp tLP rest=false→zk9 (pB m) (pB (m+4)) least (posd n (lx t)++rest)=.ok (t,rest)):RT t:=by
 intro m least n rest hw h0 hb hu hL
 rw [yx7,h m least n rest hw hL,za1,hr]
 exact ⟨_,by rw [List.length_append]; exact j108,rfl⟩
theorem yt3 {m:Nat} {s:List Nat} {as:Trs} (h:RTs as) (ok:Oks as) (hw:wl (row as)≤m) (q n p:Nat) (rest:Toks) :
  zp4 (pB (m+6)) s ((.op tLP,q)::(posd n (row as)++(.op tRP,p)::rest))=match isOp tLP rest with
   | true=>pCut (pB (m+6)) (.ref s as) rest
   | false=>.ok (.ref s as,rest):=by
 rw [zr6]
 rw [show ∀ l,isOp tLP ((.op tLP,q)::l)=true from fun _=>rfl]
 dsimp only
 rw [isCut_no (wj8 as ok n),za1]
 unfold zq6
 rw [pArgs_rt h ok hw,za1,za1]
 all_goals rfl
theorem yh7 {rec recU:Nat→Toks→Out (Tr × Toks)} {least n:Nat} {s:List Nat} {r:Toks}:zk9 rec recU least ((.nam s,n)::r)=zp4 rec s r:=rfl
theorem prioC {op:List Nat} {n:Nat} {r:Toks}:prio (((Lx.o op).tok,n)::r)=zg0 op:=rfl
theorem rt_all:∀ t:Tr,Ok t→RT t∧∀ s as,t=.ref s as→RTs as:=by
 refine @Tr.rec (fun z=>Ok z→RT z∧∀ s as,z=.ref s as→RTs as) (fun z=>OkO z→RTO z) (fun z=>Oks z→RTs z) ?_ ?_ ?_ ?_ ?_ ?_ ?_ ?_ ?_ ?_ ?_ ?_ ?_ ?_ ?_
 ·intro op l r i1 i2
  intro h
  refine ⟨?_,fun _ _ e=>nomatch e⟩
  haveI L:=(i1 h.2.1).1
  haveI R:=(i2 h.2.2).1
  haveI hp:=zv3 h.1
  haveI h9:=zs8 op
  haveI hT:wT (Lx.o op).tok=2:=wT_bin hp
  intro m least n rest hw h0 hb hu hL
  haveI hb:least≤zg0 op:=hb
  haveI hu:prio rest < zi5 (zg0 op):=hu
  rw [zt1,zk6,wl_c] at hw
  rw [zt1,zh1,zi7,List.append_assoc,List.cons_append]
  have hl:zg0 op≤zk5 (zg0 op):=by unfold zk5; split <;> (try split) <;> (first | exact j414 ‹_› | exact j415 ‹_› | exact j66)
  generalize hq:n+(txs (wrap (decide (zg4 l < zk5 (zg0 op))) (lx l))).length=q
  generalize hq':q+(Lx.o op).tx.length=q'
  obtain ⟨K,w,hK,hwr,e⟩:=L.opd h.2.1 (k:=zk5 (zg0 op)) (m:=m) (least:=least) (n:=n) (rest:=((Lx.o op).tok,q)::(posd q' (wrap (decide (zg4 r < zi5 (zg0 op))) (lx r))++rest)) (by exact j93 hw) h0 (by exact j37 hb hl) (fun k=>left_up h9 hp k) (by show decide (op=tLP)=false; rw [decide_eq_false_iff_not]; rintro rfl; exact absurd hp (by decide))
  rw [e]
  obtain ⟨K,rfl⟩:=Nat.exists_eq_add_of_le' (show 1≤K by exact j84 hK)
  obtain ⟨j,rfl⟩:=Nat.exists_eq_add_of_le' (show 1≤m by exact j109 hw hT)
  haveI e2:=R.right h.2.2 (k:=zi5 (zg0 op)) (m:=j) (n:=q') (rest:=rest) (by exact j110 hw hT) (by unfold zi5; split <;> (first | exact j21 | exact j22)) hu hL
  refine ⟨K,by simp only [List.length_cons,List.length_append] at hK; exact j111 hK,?_⟩
  rw [zz8]
  rw [prioC,if_pos hb,if_neg (by
   rintro ⟨k1,k2⟩
   obtain ⟨k3,k4⟩:=hwr k2
   rw [k1] at k4
   unfold zk5 at k4
   simp at k4
   exact j112 k4 k3),List.tail_cons]
  change (pB (j+6) (zi5 (zg0 op)) (posd q' (wrap (decide (zg4 r < zi5 (zg0 op))) (lx r))++rest)).bind _=_
  rw [e2]
  rfl
 ·intro op a i1
  intro h
  refine ⟨?_,fun _ _ e=>nomatch e⟩
  have R:=(i1 h.2).1
  intro m least n rest hw h0 hb hu hL
  haveI hb:least≤if op=tNOT then 4 else 7:=hb
  haveI hu:prio rest < unB op:=hu
  have hT:wT (Lx.o op).tok=2:=wT_un h.1
  rw [yc1,wl_c] at hw
  rw [yc1,zi7,List.cons_append]
  obtain ⟨j,rfl⟩:=Nat.exists_eq_add_of_le' (show 2≤m by exact j113 hw hT)
  generalize hq':n+(Lx.o op).tx.length=q'
  have e2:=R.right h.2 (k:=unB op) (m:=j) (n:=q') (rest:=rest) (by exact j114 hw hT) (by unfold unB; split <;> decide) hu hL
  refine ⟨(((Lx.o op).tok,n)::(posd q' (wrap (decide (zg4 a < unB op)) (lx a))++rest)).length+1,?_,?_⟩
  rotate_left
  ·rw [yx7]
   haveI e3:zk9 (pB (j+2)) (pB (j+2+4)) least (((Lx.o op).tok,n)::(posd q' (wrap (decide (zg4 a < unB op)) (lx a))++rest))=.ok (.un op a,rest):=by
    rcases h.1 with rfl | rfl | rfl
    ·unfold zk9
     rw [show ∀ l,isOp tNOT (((Lx.o tNOT).tok,n)::l)=true from fun _=>rfl]
     dsimp only
     rw [if_neg (by rw [if_pos rfl] at hb; exact j115 hb),List.tail_cons]
     change (pB (j+6) (unB tNOT) _).bind _=_
     rw [e2]
     rfl
    ·unfold zk9
     rw [show ∀ l,isOp tNOT (((Lx.o tPL).tok,n)::l)=false from fun _=>rfl]
     dsimp only
     rw [show ∀ l,(isOp tPL (((Lx.o tPL).tok,n)::l) || isOp tMI (((Lx.o tPL).tok,n)::l))=true from fun _=>rfl]
     dsimp only
     rw [if_neg (by rw [if_neg (by decide)] at hb; exact j115 hb),List.tail_cons]
     change (pB (j+6) (unB tPL) _).bind _=_
     rw [e2]
     rfl
    ·unfold zk9
     rw [show ∀ l,isOp tNOT (((Lx.o tMI).tok,n)::l)=false from fun _=>rfl]
     dsimp only
     rw [show ∀ l,(isOp tPL (((Lx.o tMI).tok,n)::l) || isOp tMI (((Lx.o tMI).tok,n)::l))=true from fun _=>rfl]
     dsimp only
     rw [if_neg (by rw [if_neg (by decide)] at hb; exact j115 hb),List.tail_cons]
     change (pB (j+6) (unB tMI) _).bind _=_
     rw [e2]
     rfl
   rw [e3,za1]
   rfl
  ·simp only [List.length_cons,List.length_append]; exact j116
 ·intro s
  intro h
  refine ⟨?_,fun _ _ e=>nomatch e⟩
  refine zs0 rfl fun m least n rest hw hL=>?_
  show zp4 (pB m) s rest=_
  rw [zr6,hL]
 ·intro s as i1
  intro h
  haveI A:=i1 h.2
  refine ⟨?_,fun _ _ e=>by cases e; exact A⟩
  refine zs0 rfl fun m least n rest hw hL=>?_
  rw [zp7,wl_c,wl_c,ys3,zk6] at hw
  obtain ⟨j,rfl⟩:=Nat.exists_eq_add_of_le' (show 6≤m by exact j117 hw)
  rw [zp7]
  simp only [zi7,yg3,zh1,List.cons_append,List.append_assoc,List.nil_append,Lx.tok]
  rw [yh7]
  rw [yt3 A h.2 (by exact j118 hw),hL]
 ·intro b lo hi i1 i2 i3
  intro h
  refine ⟨?_,fun _ _ e=>nomatch e⟩
  have A:=i2 h.2.2.1
  haveI B:=i3 h.2.2.2
  refine zs0 rfl fun m least n rest hw hL=>?_
  rw [zt3,zk6,wl_c,ys3,zk6,wl_c,wl_cl,zk6] at hw
  obtain ⟨j,rfl⟩:=Nat.exists_eq_add_of_le' (show 6≤m by exact j117 hw)
  rw [zt3]
  cases b with
  | nam s =>
   simp only [yb4,zi7,yg3,zh1,List.cons_append,List.append_assoc,List.nil_append,Lx.tok]
   rw [yh7]
   rw [zr6]
   rw [show ∀ q l,isOp tLP ((.op tLP,q)::l)=true from fun _ _=>rfl]
   dsimp only
   rw [wm3 (yp0 lo h.2.2.1 _) (yp0 hi h.2.2.2 _),za1]
   unfold zq6
   rw [za1]
   rw [show ∀ q l,isOp tLP ((.op tLP,q)::l)=true from fun _ _=>rfl]
   dsimp only
   rw [wi9 A B h.2.2.1 h.2.2.2 (by exact j118 hw) (by exact j119 hw)]
  | ref s as =>
   haveI oa:Oks as:=h.2.1.2
   haveI RR:=(i1 h.2.1).2 s as rfl
   rw [zp7,wl_c,wl_c,ys3,zk6] at hw
   simp only [zp7,zi7,yg3,zh1,List.cons_append,List.append_assoc,List.nil_append,Lx.tok]
   rw [yh7]
   rw [yt3 RR oa (by exact j120 hw)]
   rw [show ∀ q l,isOp tLP ((.op tLP,q)::l)=true from fun _ _=>rfl]
   dsimp only
   rw [wi9 A B h.2.2.1 h.2.2.2 (by exact j118 hw) (by exact j119 hw)]
  | _=>exact h.1.elim
 ·intro i
  intro h
  refine ⟨?_,fun _ _ e=>nomatch e⟩
  refine zs0 rfl fun m least n rest hw hL=>?_
  show Out.ok (Tr.int i.toNat,rest)=_
  rw [Int.toNat_of_nonneg h.1]
 ·intro i e
  intro h
  refine ⟨?_,fun _ _ e=>nomatch e⟩
  refine zs0 rfl fun m least n rest hw hL=>?_
  show Out.ok (Tr.real i.toNat e,rest)=_
  rw [Int.toNat_of_nonneg h.1]
 ·intro i e
  intro h
  refine ⟨?_,fun _ _ e=>nomatch e⟩
  refine zs0 rfl fun m least n rest hw hL=>?_
  show Out.ok (Tr.dble i.toNat e,rest)=_
  rw [Int.toNat_of_nonneg h.1]
 ·intro b
  intro h
  refine ⟨?_,fun _ _ e=>nomatch e⟩
  exact zs0 rfl fun m least n rest hw hL=>rfl
 ·intro s
  intro h
  refine ⟨?_,fun _ _ e=>nomatch e⟩
  exact zs0 rfl fun m least n rest hw hL=>rfl
 ·intro a b
  intro h
  refine ⟨?_,fun _ _ e=>nomatch e⟩
  refine zs0 rfl fun m least n rest hw hL=>?_
  rw [zp3]
  simp only [zi7,yg3,zh1,List.cons_append,List.append_assoc,List.nil_append,Lx.tok]
  rw [wa4]
  unfold zi8
  haveI hc:∀ (q1 q2 q3 q4 q5:Nat),zw4 ((.op tLP,q1)::(posd q2 a.lx++(.op tCM,q3)::(posd q4 b.lx++(.op tRP,q5)::rest)))=true:=by
   intro q1 q2 q3 q4 q5
   unfold zw4
   rw [List.tail_cons,cplx_num.1]
   dsimp only
   rw [show ∀ l,isOp tCM ((.op tCM,q3)::l)=true from fun _=>rfl]
   dsimp only
   rw [List.tail_cons,cplx_num.1]
   rfl
  rw [hc]
  dsimp only
  rw [List.tail_cons,cplx_num.2,za1]
  dsimp only
  rw [List.tail_cons,cplx_num.2,za1]
  rfl
 ·intro _
  exact trivial
 ·intro t i1
  intro h
  exact (i1 h).1
 ·intro _
  exact trivial
 ·intro t r i1 i2
  intro h
  exact ⟨(i1 h.1).1,i2 h.2⟩
theorem rt (t:Tr) (h:Ok t):RT t:=(rt_all t h).1
theorem wj1 {t:Tr} (h:Ok t) {m:Nat} (hw:wl (lx t)≤m):pB (m+6) 1 (posd 0 (lx t))=.ok (t,[]):=by
 haveI:=(rt t h).arg h (m:=m) (n:=0) (rest:=[]) hw rfl rfl
 rw [List.append_nil] at this
 exact this
theorem wc4 {t:Tr} (h:Ok t) {n:Nat} {l:Toks} {r:Tr} (hr:pB n 1 l=.ok (r,[])) (hl:zg3 l < opl (lx t)):r≠t:=by
 rintro rfl
 have:=(yy6 n 1 l r [] (Nat.le_refl _) (by decide) hr).1
 rw [opl_lx r h] at hl
 have e:zg3 []=0:=rfl
 exact j121 this hl
end Mine
namespace Mine
set_option tactic.hygienic false
noncomputable def dg (n:Nat):List Nat:=(Nat.toDigits 10 n).map Char.toNat
theorem zi1 (n:Nat):intText (n:Int)=dg n:=by
 unfold intText dg
 show ((Nat.repr n).toList).map Char.toNat=_
 rw [Nat.repr_eq_ofList_toDigits,String.toList_ofList]
theorem yx3 (n:Nat):intText (-((n+1:Nat):Int))=45::dg (n+1):=by
 unfold intText dg
 show ((("-":String)++Nat.repr (n+1)).toList).map Char.toNat=_
 rw [String.toList_append,Nat.repr_eq_ofList_toDigits,List.map_append,String.toList_ofList,String.toList_ofList]
 rfl
theorem dgs:∀ k,k < 10→([Nat.digitChar k]).map Char.toNat=[48+k]:=by decide +kernel
theorem yn8 (n:Nat) (h:10≤n):dg n=dg (n / 10)++[48+n % 10]:=by
 unfold dg
 rw [Nat.toDigits_of_base_le (by decide) h,List.map_append]
 congr 1
 haveI:n % 10 < 10:=Nat.mod_lt _ (by decide)
 exact dgs _ this
theorem dg_sm:∀ n,n < 10→dg n=[48+n]:=by decide +kernel
theorem zx9 (n:Nat) (h:n < 10):dg n=[48+n]:=dg_sm n h
theorem yj1 (n:Nat):∀ c∈dg n,48≤c∧c≤57:=by
 induction n using Nat.strongRecOn with
 | ind n ih =>
  intro c hc
  by_cases h:n < 10
  ·rw [zx9 n h] at hc
   rw [List.mem_singleton.mp hc]; lia
  ·rw [yn8 n (by exact j61 h)] at hc
   rcases List.mem_append.mp hc with q | q
   ·exact ih (n / 10) (by exact j122 h) c q
   ·rw [List.mem_singleton.mp q]; exact j418
theorem yi0 (l:List Nat) (c:Nat):zd2 (l++[c])=zd2 l * 10+(c - 48):=by
 unfold zd2
 rw [List.foldl_append]; rfl
theorem zy1 (n:Nat):zd2 (dg n)=n:=by
 induction n using Nat.strongRecOn with
 | ind n ih =>
  by_cases h:n < 10
  ·rw [zx9 n h]
   show 0 * 10+(48+n - 48)=n
   exact j419
  ·rw [yn8 n (by exact j61 h),yi0,ih (n / 10) (by exact j122 h)]
   exact j420
theorem yf1 (n:Nat):1≤(dg n).length:=by
 by_cases h:n < 10
 ·rw [zx9 n h]; exact Nat.le_refl _
 ·rw [yn8 n (by exact j61 h)]; simp
theorem zw0 (n k:Nat) (h:n < 10 ^ (k+1)):(dg n).length≤k+1:=by
 induction k generalizing n with
 | zero=>rw [zx9 n (by simpa using h)]; exact Nat.le_refl _
 | succ k ih =>
  by_cases h2:n < 10
  ·rw [zx9 n h2]; simp
  ·rw [yn8 n (by exact j61 h2),List.length_append,List.length_singleton]
   haveI:=ih (n / 10) (by rw [Nat.pow_succ] at h; exact j123 h)
   exact j124 this
theorem yg8 (k:Nat) (l:List Nat):zd2 (zp1 k++l)=zd2 l:=by
 induction k with
 | zero=>rfl
 | succ k ih =>
  rw [show zp1 (k+1)++l=48::(zp1 k++l) from rfl]
  show (zp1 k++l).foldl _ (0 * 10+(48 - 48))=_
  exact ih
noncomputable def DG (l:List Nat):Prop:=∀ c∈l,48≤c∧c≤57
theorem DG.app {a b:List Nat} (h:DG a) (g:DG b):DG (a++b):=fun c hc=>(List.mem_append.mp hc).elim (h c) (g c)
theorem DG.zeros (k:Nat):DG (zp1 k):=fun c hc=>by rw [(List.mem_replicate.mp hc).2]; lia
theorem DG.take {a:List Nat} (h:DG a) (k:Nat):DG (a.take k):=fun c hc=>h c (List.mem_of_mem_take hc)
theorem DG.drop {a:List Nat} (h:DG a) (k:Nat):DG (a.drop k):=fun c hc=>h c (List.mem_of_mem_drop hc)
theorem zw7 {l:List Nat} (h:DG l) (h1:1≤l.length) (h2:l.length≤640):zz1 l=true:=by
 unfold zz1
 haveI:l.isEmpty=false:=by cases l with | nil=>simp at h1 | cons=>rfl
 rw [this]
 simp only [Bool.not_false,Bool.true_and,Bool.and_eq_true,List.all_eq_true,decide_eq_true_eq]
 exact ⟨fun c hc=>by simpa using h c hc,by simpa using h2⟩
section
variable {T A B R:List Nat} {n k c:Nat} {σ:za7}
theorem wb4 (h:T.drop n=[]):T.length≤n:=by
 haveI:=congrArg List.length h
 simp only [List.length_drop,List.length_nil] at this; exact Nat.le_of_sub_eq_zero this
theorem zt9 (h:T.drop n=c::R):n < T.length:=by
 haveI:=congrArg List.length h
 simp only [List.length_drop,List.length_cons] at this; exact Nat.lt_of_sub_eq_succ this
theorem zh5 (h:T.drop n=c::R):T.drop (n+1)=R:=by
 rw [← List.drop_drop,h]; rfl
theorem zp5 (h:T.drop n=A++B):T.drop (n+A.length)=B:=by
 rw [← List.drop_drop,h,List.drop_left]
theorem zg8 (h:T.drop n=c::R) (hT:T.length≤szL):idxP σ (.str T) (.int n)=some (.str [c]):=by
 have h1:=zt9 h
 haveI h2:(Int.natAbs (n:Int)) < 2 ^ 62:=by
  haveI:szL < 2 ^ 62:=by decide
  simp only [Int.natAbs_natCast]; exact j18 h1 hT this
 haveI h3:T[n]?=some c:=by
  haveI:=congrArg (fun l=>l[0]?) h
  simpa using this
 show (if Int.natAbs (n:Int) < 2 ^ 62 then (zv6 n T.length).bind fun i=>(T[i]?).map fun c=>PV.str [c] else none)=_
 rw [if_pos h2,ye0 h1]
 show (T[n]?).map _=_
 rw [h3]; rfl
theorem zj5 (hT:T.length≤szL):biP σ .len [.str T]=some (.int T.length):=by
 exact if_pos hT
theorem wi6 {a b:Nat}:bnd (a:Int) b=min a b:=by
 unfold bnd; rw [if_pos (by exact Int.natCast_nonneg _),Int.toNat_natCast]
theorem wh5 {a b:Nat} (hT:T.length≤szL):cutP (.str T) (.int a) (.int b)=some (.str (cutL T (min a T.length) (min b T.length))):=by
 refine (if_pos hT).trans ?_
 show some (PV.str (cutL T (bnd a T.length) (bnd b T.length)))=_
 rw [wi6,wi6]
theorem zu0 (h:T.drop n=A++B) (hT:T.length≤szL):cutP (.str T) (.int n) (.int ((n+A.length:Nat):Int))=some (.str A):=by
 rw [wh5 hT]
 congr 2
 unfold cutL
 rw [List.drop_take]
 by_cases hn:n≤T.length
 ·haveI hl:n+A.length+B.length=T.length:=by
   haveI:=congrArg List.length h
   simp only [List.length_drop,List.length_append] at this; exact j421 this hn
  rw [Nat.min_eq_left hn,Nat.min_eq_left (by exact j125 hl),h,Nat.add_sub_cancel_left,List.take_left]
 ·have:T.drop n=[]:=List.drop_eq_nil_of_le (by exact j126 hn)
  rw [this] at h
  have hA:A=[]:=by cases A with | nil=>rfl | cons=>simp at h
  subst hA
  rw [Nat.min_eq_right (show T.length≤n by exact j126 hn),List.drop_length]; simp
theorem wk8 (h:T.drop n=A) (hk:A.length≤k) (hn:n≤T.length) (hT:T.length≤szL):cutP (.str T) (.int n) (.int ((n+k:Nat):Int))=some (.str A):=by
 rw [wh5 hT]
 congr 2
 unfold cutL
 haveI hl:n+A.length=T.length:=by
  haveI:=congrArg List.length h
  simp only [List.length_drop] at this; exact j422 this hn
 rw [List.drop_take,Nat.min_eq_left hn,Nat.min_eq_right (by exact j127 hl hk),h]
 exact List.take_of_length_le (by exact j423 hl)
theorem in_str (b:List Nat):cmpP .isin (.str [c]) (.str b)=some (b.contains c):=rfl
theorem yf6 (b:List Nat):cmpP .notin (.str [c]) (.str b)=some (!b.contains c):=rfl
end
noncomputable def zj8 (S:List Nat) (R:List Nat):Prop:=∀ c r,R=c::r→S.contains c=false
section
variable {N d:Nat} {T P R S:List Nat} {n:Nat} {σ:za7}
theorem ys6 (hT:T.length≤szL) (hR:zj8 S R) {a1:Int}:∀ (P:List Nat) (n k:Nat),T.drop n=P++R→(∀ c∈P,S.contains c=true)→P.length < k →
  zj9 (ev (zc5 N d) (.bool true (.cons (.cmp .lt (.var 3) (.bi .len (.cons (.var 0) .nil))) (.cons (.cmp .isin (.idx (.var 0) (.var 3)) (.var 2)) .nil)))).2 (exs (zc5 N d) N (.cons (.aug 3 .add (.cst (.int 1))) .nil)) k [some (.str T),some (.int a1),some (.str S),some (.int n)] σ=.ok (.next,[some (.str T),some (.int a1),some (.str S),some (.int ((n+P.length:Nat):Int))],σ)
 | [],n,k,h,_,hk=>by
  obtain ⟨k,rfl⟩:=Nat.exists_eq_add_of_le' (show 1≤k by exact j84 hk)
  refine zr7 ?_
  rw [List.nil_append] at h
  cases R with
  | nil =>
   have:=wb4 h
   simp only [za3,zb1,zh9,zb7,ze0,za5,za2,zd3,za1,za0,za9,zb2,l_ms,tr_b,bt2,l_df,l_nt,zf4,l_lt,zc4,zc3,zh6,zc0,zc1,zc2,kA_e,zj5 hT,Nat.not_lt.mpr this]
  | cons c r =>
   simp only [za3,zb1,zh9,zd1,zb7,ze0,za5,za2,zd3,za1,za0,za9,zb2,l_ms,tr_b,bt1,bt2,l_dt,l_nt,zf4,l_lt,zc4,zc3,zh6,ze4,ze5,zc0,zc1,zc2,kA_e,zj5 hT,zt9 h,zg8 h hT,in_str,hR c r rfl]
 | c::P,n,k,h,hP,hk=>by
  obtain ⟨k,rfl⟩:∃ j,k=j+1:=⟨k - 1,by simp at hk; exact j99 hk⟩
  rw [List.cons_append] at h
  rw [zm8 (env':=[some (.str T),some (.int a1),some (.str S),some (.int ((n+1:Nat):Int))]) (σ':=σ) (σ'':=σ) (by simp only [za3,zb1,zh9,zd1,zb7,ze0,za5,za2,zh2,zd3,za1,za0,za9,zb2,l_ms,tr_b,bt1,l_dt,zf4,l_lt,zc4,zc3,zh6,ze4,ze5,zc0,zc1,zc2,kA_e,zj5 hT,zt9 h,zg8 h hT,in_str,hP c (.head _)]) (by simp only [za8,zb5,zq1,za4,za1,za9,zb2,set0,sets,zd5,ci1,zq3,zk8,zm1,ze3])]
  rw [ys6 hT hR P (n+1) k (zh5 h) (fun x hx=>hP x (.tail _ hx)) (by simp at hk; exact j128 hk)]
  simp only [List.length_cons,Nat.add_assoc,Nat.add_comm 1]
theorem wc8 (hT:T.length≤szL) (hN:T.length < N) (hσ:σ.all zd0=true) (h:T.drop n=P++R) (hP:∀ c∈P,S.contains c=true) (hR:zj8 S R) :
  zc5 N (d+1) 0 [.str T,.int n,.str S] σ=.ok (.int ((n+P.length:Nat):Int),σ):=by
 rw [zb6 (f:=c0) rfl,zb9 (env:=[some (.str T),some (.int n),some (.str S),none]) rfl rfl]
 unfold c0
 rw [za6 (env':=[some (.str T),some (.int n),some (.str S),some (.int n)]) (σ':=σ) (by simp only [zd4,za3,za1,za0,za9,zb2,set0,sets,zd6])]
 haveI hl:P.length≤T.length:=by
  haveI:=congrArg List.length h
  simp only [List.length_drop,List.length_append] at this; exact j424 this
 rw [za6 (by rw [yb3]; exact ys6 hT hR P n N h hP (by exact j129 hN hl))]
 rw [zc8 (v:=.int ((n+P.length:Nat):Int)) (σ':=σ) (by simp only [zc6,za3,za1,za0,za9,zb2,zc9]; rfl)]
 exact zb8 (v:=.int _) rfl hσ
end
end Mine
namespace Mine
set_option tactic.hygienic false
noncomputable def LETS:List Nat:=[65,66,67,68,69,70,71,72,73,74,75,76,77,78,79,80,81,82,83,84,85,86,87,88,89,90]
noncomputable def DIGS:List Nat:=[48,49,50,51,52,53,54,55,56,57]
noncomputable def dotL:List (List Nat):=[[46,69,81,46],[46,78,69,46],[46,76,84,46],[46,76,69,46],[46,71,84,46],[46,71,69,46],[46,78,79,84,46],[46,65,78,68,46],[46,79,82,46],[46,69,81,86,46],[46,78,69,81,86,46]]
noncomputable def truL:List (List Nat):=[[46,84,82,85,69,46],[46,70,65,76,83,69,46]]
theorem yh2 (w:List Nat):∀ L:List (List Nat),yi1 w (L.map PV.str)=some (decide (w∈L))∧zn4 (L.map PV.str)=true
 | []=>⟨by simp [yi1],rfl⟩
 | x::L=>by
  obtain ⟨h1,h2⟩:=yh2 w L
  refine ⟨?_,h2⟩
  rw [List.map_cons,yi1,h1]
  by_cases h:w=x <;> simp [h]
theorem yy8 (w:List Nat) (l:List PV):cmpP .isin (.str w) (.tup l)=if zn4 l then yi1 w l else none:=by
 match w with
 | []=>rfl
 | [_]=>rfl
 | _::_::_=>rfl
theorem yn4 (w:List Nat):cmpP .isin (.str w) (.tup [.str [46,69,81,46],.str [46,78,69,46],.str [46,76,84,46],.str [46,76,69,46],.str [46,71,84,46],.str [46,71,69,46],.str [46,78,79,84,46],.str [46,65,78,68,46],.str [46,79,82,46],.str [46,69,81,86,46],.str [46,78,69,81,86,46]])=some (decide (w∈dotL)):=by
 haveI h:=yh2 w dotL
 rw [yy8]
 show (if zn4 (dotL.map PV.str) then yi1 w (dotL.map PV.str) else none)=_
 rw [h.2,if_pos rfl,h.1]
theorem yd7 (w:List Nat):cmpP .isin (.str w) (.tup [.str [46,84,82,85,69,46],.str [46,70,65,76,83,69,46]])=some (decide (w∈truL)):=by
 haveI h:=yh2 w truL
 rw [yy8]
 show (if zn4 (truL.map PV.str) then yi1 w (truL.map PV.str) else none)=_
 rw [h.2,if_pos rfl,h.1]
noncomputable def wk3 (w:List Nat):List Nat:=if w∈dotL∨w∈truL then w else []
theorem dg_all:∀ c,c < 58→48≤c→DIGS.contains c=true:=by decide +kernel
theorem we4 {c:Nat} (h:48≤c∧c≤57):DIGS.contains c=true:=dg_all c (Nat.lt_succ_of_le h.2) h.1
theorem let_no:∀ c,c < 58→LETS.contains c=false:=by decide +kernel
section
variable {N d:Nat} {T P R D F X:List Nat} {n c:Nat} {σ:za7}
theorem k_dot (hT:T.length≤szL) (hN:T.length < N) (hσ:σ.all zd0=true) (h:T.drop n=c::(P++R)) (hP:∀ x∈P,LETS.contains x=true) (hR:zj8 LETS R) :
  zc5 N (d+2) 1 [.str T,.int n] σ=.ok (.str (wk3 (c::(P++R.take 1))),σ):=by
 rw [zb6 (f:=c1) rfl,zb9 (env:=[some (.str T),some (.int n),none,none]) rfl rfl]
 unfold c1
 haveI hr:=wc8 (N:=N) (d:=d) (σ:=σ) hT hN hσ (zh5 h) hP hR
 unfold LETS at hr
 rw [za6 (env':=[some (.str T),some (.int n),some (.int ((n+1+P.length:Nat):Int)),none]) (σ':=σ) (by simp only [zd4,za3,za4,zd7,zb3,za5,za2,za1,za0,za9,zb2,set0,sets,zd5,ci1,zf2,zf1,zb4,zc1,zc2,zd6,hr])]
 haveI hcut:cutP (.str T) (.int n) (.int ((n+1+P.length+1:Nat):Int))=some (.str (c::(P++R.take 1))):=by
  cases R with
  | nil =>
   haveI:=wk8 (k:=P.length+2) h (by simp) (Nat.le_of_lt (zt9 h)) hT
   rw [show n+1+P.length+1=n+(P.length+2) by exact j130,this]
   rfl
  | cons x r =>
   haveI:=zu0 (A:=c::(P++[x])) (B:=r) (by rw [h]; simp) hT
   rw [show n+1+P.length+1=n+(c::(P++[x])).length by simp; exact j131,this]
   rfl
 rw [za6 (env':=[some (.str T),some (.int n),some (.int ((n+1+P.length:Nat):Int)),some (.str (c::(P++R.take 1)))]) (σ':=σ) (by simp only [zd4,za3,za4,zd7,zt4,za1,za0,za9,zb2,set0,sets,zd5,ci1,zf2,zf1,yc5,yc0,yc3,zd6,hcut])]
 generalize c::(P++R.take 1)=w
 unfold wk3
 by_cases h1:w∈dotL
 ·rw [zc8 (v:=.str w) (env':=[some (.str T),some (.int n),some (.int ((n+1+P.length:Nat):Int)),some (.str w)]) (σ':=σ) (by simp only [za8,zb0,zc6,za3,za4,zb1,zb7,ze0,zd3,za1,za0,za9,zb2,l_ms,tr_b,bt3,l_dt,l_nf,zc4,zc3,zc0,kA_e,ze2,zc9,zd9,yn4,h1]),if_pos (Or.inl h1)]
  exact zb8 (v:=.str w) rfl hσ
 ·by_cases h2:w∈truL
  ·rw [zc8 (v:=.str w) (env':=[some (.str T),some (.int n),some (.int ((n+1+P.length:Nat):Int)),some (.str w)]) (σ':=σ) (by simp only [za8,zb0,zc6,za3,za4,zb1,zb7,ze0,zd3,za1,za0,za9,zb2,l_ms,tr_b,bt3,bt4,l_dt,l_df,l_nf,zc4,zc3,zc0,kA_e,ze2,zc9,zd9,yn4,yd7,h1,h2]),if_pos (Or.inr h2)]
   exact zb8 (v:=.str w) rfl hσ
  ·rw [za6 (env':=[some (.str T),some (.int n),some (.int ((n+1+P.length:Nat):Int)),some (.str w)]) (σ':=σ) (by simp only [zb5,zb0,za3,za4,zb1,zb7,ze0,zh2,zd3,za1,za0,za9,zb2,l_ms,tr_b,bt4,l_df,zc4,zc3,zc0,kA_e,zd8,yn4,yd7,h1,h2]),if_neg (fun q=>q.elim h1 h2)]
   rw [zc8 (v:=.str []) (env':=[some (.str T),some (.int n),some (.int ((n+1+P.length:Nat):Int)),some (.str w)]) (σ':=σ) (by simp only [zc6,za4,za1,zc9])]
   exact zb8 (v:=.str []) rfl hσ
theorem k_told {s:List Nat} {p:Int} (hσ:σ.all zd0=true) (hN:1≤N) (hs:DG s) (h1:1≤s.length) (h2:s.length≤640) (hm:zd2 s≠0→zd2 s % 10≠0) :
  zc5 N (d+1) 2 [.str s,.int p] σ=.ok (.tup [.int (zd2 s),.int (if zd2 s=0 then 0 else p)],σ):=by
 rw [zb6 (f:=c2) rfl,zb9 (env:=[some (.str s),some (.int p),none]) rfl rfl]
 unfold c2
 haveI hi:biP σ .int [.str s]=some (.int (zd2 s)):=by
  exact if_pos (zw7 hs h1 h2)
 rw [za6 (env':=[some (.str s),some (.int p),some (.int (zd2 s))]) (σ':=σ) (by simp only [zd4,za3,zh9,za5,za2,za1,za0,za9,set0,sets,zh6,zc1,zc2,zd6,hi])]
 haveI e0:((zd2 s:Int)=0)=(zd2 s=0):=by simp only [eq_iff_iff]; exact Int.ofNat_eq_zero
 by_cases h0:zd2 s=0
 ·haveI e0t:((zd2 s:Int)=0)=True:=by rw [e0]; simp only [h0]
  rw [zc8 (v:=.tup [.int 0,.int 0]) (env':=[some (.str s),some (.int p),some (.int (zd2 s))]) (σ':=σ) (by simp only [za8,zb0,zc6,za3,za4,zb1,ze8,zb7,za5,za2,za1,za0,za9,zb2,l_ms,tr_b,l_dt,ze6,zc4,zc3,ze9,zc0,zc1,zc2,ze2,zc9,zd9,e0t]),if_pos h0,h0]
  exact zb8 (v:=.tup [.int 0,.int 0]) rfl hσ
 ·rw [za6 (env':=[some (.str s),some (.int p),some (.int (zd2 s))]) (σ':=σ) (by simp only [zb5,zb0,za3,za4,zb1,zb7,za1,za0,za9,zb2,l_ms,tr_b,l_df,ze6,zc4,zc3,zc0,zd8,e0,h0]),if_neg h0]
  haveI hmod:binP .mod (.int (zd2 s)) (.int 10)=some (.int (Int.fmod (zd2 s) 10)):=rfl
  haveI hf:(Int.fmod (zd2 s:Int) 10=0)=False:=by
   rw [Int.fmod_eq_emod_of_nonneg _ (by decide)]
   haveI:=hm h0
   simp only [eq_iff_iff,iff_false]; exact Int.natAbs_ne_zero.mp this
  obtain ⟨N',rfl⟩:=Nat.exists_eq_add_of_le' (show 1≤N by exact j132 hN)
  rw [za6 (env':=[some (.str s),some (.int p),some (.int (zd2 s))]) (σ':=σ) (by rw [yb3]; exact zr7 (by simp only [za3,za4,zd7,zb1,zb7,za1,za0,za9,zb2,l_ms,tr_b,l_df,ze6,zf2,zf1,zc4,zc3,zc0,hmod,hf]))]
  rw [zc8 (v:=.tup [.int (zd2 s),.int p]) (env':=[some (.str s),some (.int p),some (.int (zd2 s))]) (σ':=σ) (by simp only [zc6,za3,ze8,za5,za2,za1,za0,za9,zb2,ze9,zc1,zc2,zc9])]
  exact zb8 (v:=.tup [.int (zd2 s),.int p]) rfl hσ
theorem yc9 (hT:T.length≤szL) (hσ:σ.all zd0=true) (h:T.drop n=R) (hR:zj8 [69,68] R):zc5 N (d+1) 3 [.str T,.int n] σ=.ok (.tup [.str [],.int 0,.int n],σ):=by
 rw [zb6 (f:=c3) rfl,zb9 (env:=[some (.str T),some (.int n),none,none,none]) rfl rfl]
 unfold c3
 rw [zc8 (v:=.tup [.str [],.int 0,.int n]) (env':=[some (.str T),some (.int n),none,none,none]) (σ':=σ) ?_]
 ·exact zb8 (v:=.tup [.str [],.int 0,.int n]) rfl hσ
 ·refine big fun Gz hGz=>?_
  cases R with
  | nil=>refine hGz ?_; simp only [za8,zb0,zc6,za3,za4,zb1,zh9,ze8,zb7,ze0,za5,za2,zd3,za1,za0,za9,zb2,l_ms,tr_b,bt3,l_dt,l_nf,ye4,l_le,zc4,zc3,zh6,ze9,zc0,zc1,zc2,kA_e,ze2,zc9,zd9,zj5 hT,wb4 h]
  | cons c r=>refine hGz ?_; simp only [za8,zb0,zc6,za3,za4,zb1,zh9,zd1,ze8,zb7,ze0,za5,za2,zd3,za1,za0,za9,zb2,l_ms,tr_b,bt3,bt4,l_df,l_nf,ye4,l_le,zc4,zc3,zh6,ze4,ze5,ze9,zc0,zc1,zc2,kA_e,ze2,zc9,zd9,zj5 hT,Nat.not_le.mpr (zt9 h),zg8 h hT,yf6,hR c r rfl]
noncomputable def sgn (b:Bool):List Nat:=if b then [45] else []
theorem k_pow {L:Nat} {b:Bool} (hT:T.length≤szL) (hN:T.length < N) (hσ:σ.all zd0=true) (h:T.drop n=L::(sgn b++(X++R))) (hL:L=69∨L=68) (hX:DG X) (h1:1≤X.length) (h2:X.length≤640) (hR:zj8 DIGS R) :
  zc5 N (d+2) 3 [.str T,.int n] σ=.ok (.tup [.str [L],.int (if b then -(zd2 X:Int) else zd2 X),.int ((n+1+(sgn b).length+X.length:Nat):Int)],σ):=by
 rw [zb6 (f:=c3) rfl,zb9 (env:=[some (.str T),some (.int n),none,none,none]) rfl rfl]
 unfold c3
 haveI hin:([69,68]:List Nat).contains L=true:=by rcases hL with rfl | rfl <;> rfl
 haveI hn1:=zh5 h
 rw [za6 (env':=[some (.str T),some (.int n),none,none,none]) (σ':=σ) (by simp only [zb5,zb0,za3,za4,zb1,zh9,zd1,zb7,ze0,za5,za2,zh2,zd3,za1,za0,za9,zb2,l_ms,tr_b,bt4,l_df,l_nt,ye4,l_le,zc4,zc3,zh6,ze4,ze5,zc0,zc1,zc2,kA_e,zd8,zj5 hT,Nat.not_le.mpr (zt9 h),zg8 h hT,yf6,hin])]
 rw [za6 (env':=[some (.str T),some (.int n),some (.int ((n+1:Nat):Int)),none,none]) (σ':=σ) (by simp only [zd4,za3,za4,zd7,za1,za0,za9,zb2,set0,sets,zd5,ci1,zf2,zf1,zd6])]
 obtain ⟨x,X',rfl⟩:∃ x X',X=x::X':=by cases X with | nil=>simp at h1 | cons x r=>exact ⟨_,_,rfl⟩
 haveI hx:=hX x (.head _)
 haveI hx2:([43,45]:List Nat).contains x=false:=by simp; exact j425 hx
 have e1:ex (zc5 N (d+1)) N (.iff (.bool true (.cons (.cmp .lt (.var 2) (.bi .len (.cons (.var 0) .nil))) (.cons (.cmp .isin (.idx (.var 0) (.var 2)) (.cst (.str [43,45]))) .nil))) (.cons (.aug 2 .add (.cst (.int 1))) .nil) .nil) [some (.str T),some (.int n),some (.int ((n+1:Nat):Int)),none,none] σ=.ok (.next,[some (.str T),some (.int n),some (.int ((n+1+(sgn b).length:Nat):Int)),none,none],σ):=by
  cases b with
  | true =>
   haveI h':T.drop (n+1)=45::((x::X')++R):=hn1
   haveI hm:([43,45]:List Nat).contains 45=true:=rfl
   simp only [za8,zb5,zq1,zb0,za3,za4,zb1,zh9,zd1,zb7,ze0,za5,za2,zh2,zd3,za1,za0,za9,zb2,set0,sets,l_ms,tr_b,bt1,l_dt,zf4,zd5,ci1,l_lt,zc4,zc3,zh6,ze4,ze5,zc0,zc1,zc2,kA_e,zq3,zk8,zm1,ze2,ze3,zj5 hT,zt9 h',zg8 h' hT,in_str,hm]
   rfl
  | false =>
   have h':T.drop (n+1)=x::(X'++R):=hn1
   simp only [zb5,zb0,za3,za4,zb1,zh9,zd1,zb7,ze0,za5,za2,zd3,za1,za0,za9,zb2,l_ms,tr_b,bt1,bt2,l_dt,l_nt,zf4,l_lt,zc4,zc3,zh6,ze4,ze5,zc0,zc1,zc2,kA_e,zd8,zj5 hT,zt9 h',zg8 h' hT,in_str,hx2]
   rfl
 rw [za6 e1]
 haveI hb:T.drop (n+1+(sgn b).length)=(x::X')++R:=zp5 hn1
 haveI hr:=wc8 (N:=N) (d:=d) (S:=DIGS) (σ:=σ) hT hN hσ hb (fun c hc=>we4 (hX c hc)) hR
 unfold DIGS at hr
 rw [za6 (env':=[some (.str T),some (.int n),some (.int ((n+1+(sgn b).length:Nat):Int)),some (.int ((n+1+(sgn b).length+(x::X').length:Nat):Int)),none]) (σ':=σ) (by simp only [zd4,za3,za4,zb3,za5,za2,za1,za0,za9,zb2,set0,sets,zb4,zc1,zc2,zd6,hr])]
 haveI hne:(((n+1+(sgn b).length+(x::X').length:Nat):Int)=((n+1+(sgn b).length:Nat):Int))=False:=by
  simp only [eq_iff_iff,iff_false,List.length_cons]; lia
 rw [za6 (env':=[some (.str T),some (.int n),some (.int ((n+1+(sgn b).length:Nat):Int)),some (.int ((n+1+(sgn b).length+(x::X').length:Nat):Int)),none]) (σ':=σ) (by simp only [zb5,zb0,za3,zb1,zb7,za1,za0,za9,zb2,l_ms,tr_b,l_df,ze6,l_eq,zc4,zc3,zc0,zd8,show ((n+1+(sgn b).length+(x::X').length:Nat)=(n+1+(sgn b).length:Nat))=False by simp only [eq_iff_iff,iff_false,List.length_cons]; lia])]
 haveI hgt:((1000:Int) < ((n+1+(sgn b).length+(x::X').length:Nat):Int) - ((n+1+(sgn b).length:Nat):Int))=False:=by
  simp only [eq_iff_iff,iff_false]; exact j133 h2
 rw [za6 (env':=[some (.str T),some (.int n),some (.int ((n+1+(sgn b).length:Nat):Int)),some (.int ((n+1+(sgn b).length+(x::X').length:Nat):Int)),none]) (σ':=σ) (by simp only [zb5,zb0,za3,za4,zd7,zb1,zb7,za1,za0,za9,zb2,l_ms,tr_b,l_df,zk4,zg6,zf2,zf1,zc4,zc3,zc0,zd8,hgt])]
 haveI hi:biP σ .int [.str (x::X')]=some (.int (zd2 (x::X'))):=by
  exact if_pos (zw7 hX h1 h2)
 rw [za6 (env':=[some (.str T),some (.int n),some (.int ((n+1+(sgn b).length:Nat):Int)),some (.int ((n+1+(sgn b).length+(x::X').length:Nat):Int)),some (.int (zd2 (x::X')))]) (σ':=σ) (by simp only [zd4,za3,zh9,zt4,za5,za2,za1,za0,za9,zb2,set0,sets,zh6,yc5,yc0,yc3,zc1,zc2,zd6,zu0 hb hT,hi])]
 haveI e2:ex (zc5 N (d+1)) N (.iff (.cmp .eq (.idx (.var 0) (.bin .add (.var 1) (.cst (.int 1)))) (.cst (.str [45]))) (.cons (.asg 4 (.neg (.var 4))) .nil) .nil) [some (.str T),some (.int n),some (.int ((n+1+(sgn b).length:Nat):Int)),some (.int ((n+1+(sgn b).length+(x::X').length:Nat):Int)),some (.int (zd2 (x::X')))] σ=.ok (.next,[some (.str T),some (.int n),some (.int ((n+1+(sgn b).length:Nat):Int)),some (.int ((n+1+(sgn b).length+(x::X').length:Nat):Int)),some (.int (if b then -(zd2 (x::X'):Int) else zd2 (x::X')))],σ):=by
  cases b with
  | true =>
   have h':T.drop (n+1)=45::((x::X')++R):=hn1
   simp only [za8,zb5,zd4,zb0,za3,za4,zd7,zx5,zb1,zd1,zb7,za1,za0,za9,zb2,set0,sets,l_ms,tr_b,l_dt,zc7,zd5,l_tt,ci1,zf2,zf1,zy0,zc4,zc3,ze4,ze5,zc0,zd6,ze2,ze3,zg8 h' hT]
  | false =>
   haveI h':T.drop (n+1)=x::(X'++R):=hn1
   haveI hx3:(([x]:List Nat)=[45])=False:=by simp only [eq_iff_iff,iff_false,List.cons.injEq,and_true]; lia
   simp only [zb5,zb0,za3,za4,zd7,zb1,zd1,zb7,za1,za0,za9,zb2,l_ms,tr_b,l_df,zc7,zd5,ci1,zf2,zf1,zc4,zc3,ze4,ze5,zc0,zd8,zg8 h' hT,hx3]
   rfl
 rw [za6 e2]
 rw [zc8 (v:=.tup [.str [L],.int (if b then -(zd2 (x::X'):Int) else zd2 (x::X')),.int ((n+1+(sgn b).length+(x::X').length:Nat):Int)]) (env':=[some (.str T),some (.int n),some (.int ((n+1+(sgn b).length:Nat):Int)),some (.int ((n+1+(sgn b).length+(x::X').length:Nat):Int)),some (.int (if b then -(zd2 (x::X'):Int) else zd2 (x::X')))]) (σ':=σ) (by simp only [zc6,za3,zd1,ze8,za5,za2,za1,za0,za9,zb2,ze4,ze5,ze9,zc1,zc2,zc9,zg8 h hT])]
 exact zb8 (v:=.tup [.str [L],.int _,.int _]) rfl hσ
end
end Mine
namespace Mine
set_option tactic.hygienic false
section
variable {N d:Nat} {T P R D F X:List Nat} {n c:Nat} {σ:za7}
theorem wk4 (hT:T.length≤szL) (hN:T.length < N) (hσ:σ.all zd0=true) (h:T.drop n=D++R) (hD:DG D) (h1:1≤D.length) (h2:D.length≤640) (hR:zj8 DIGS R) (hE:zj8 [69,68] R)
  (hdot:R=[]∨∃ c r,R=c::r∧(c≠46∨∃ w,w≠[]∧zc5 N (d+2) 1 [.str T,.int ((n+D.length:Nat):Int)] σ=.ok (.str w,σ))) :
  zc5 N (d+3) 4 [.str T,.int n] σ=.ok (.tup [.tup [.str [73,78,84],.int (zd2 D),.int n],.int ((n+D.length:Nat):Int)],σ):=by
 rw [zb6 (f:=c4) rfl,zb9 (env:=[some (.str T),some (.int n),none,none,none,none,none,none,none,none]) rfl rfl]
 unfold c4
 have hr:=wc8 (N:=N) (d:=d+1) (S:=DIGS) (σ:=σ) hT hN hσ h (fun c hc=>we4 (hD c hc)) hR
 unfold DIGS at hr
 rw [za6 (env':=[some (.str T),some (.int n),some (.int ((n+D.length:Nat):Int)),none,none,none,none,none,none,none]) (σ':=σ) (by simp only [zd4,za3,za4,zb3,za5,za2,za1,za0,za9,zb2,set0,sets,zb4,zc1,zc2,zd6,hr])]
 rw [za6 (env':=[some (.str T),some (.int n),some (.int ((n+D.length:Nat):Int)),some (.str D),none,none,none,none,none,none]) (σ':=σ) (by simp only [zd4,za3,zt4,za1,za0,za9,zb2,set0,sets,yc5,yc0,yc3,zd6,zu0 h hT])]
 rw [za6 (env':=[some (.str T),some (.int n),some (.int ((n+D.length:Nat):Int)),some (.str D),some (.str []),none,none,none,none,none]) (σ':=σ) (by simp only [zd4,za4,za1,set0,sets,zd6])]
 have hs:=zp5 h
 rw [za6 (env':=[some (.str T),some (.int n),some (.int ((n+D.length:Nat):Int)),some (.str D),some (.str []),some (.bool false),none,none,none,none]) (σ':=σ) (by
  rcases hdot with q | ⟨c,r,q,q2⟩
  ·rw [q] at hs
   simp only [zd4,za3,zk2,zb1,zh9,za5,za2,zk0,za1,za0,za9,zb2,set0,sets,l_ms,tr_b,bt2,l_df,zf4,l_lt,zc4,zc3,zh6,zc1,zc2,yg2,ye2,zd6,zj5 hT,Nat.not_lt.mpr (wb4 hs)]
  ·rw [q] at hs
   by_cases hc:c=46
   ·subst hc
    rcases q2 with q2 | ⟨w,hw,q2⟩
    ·exact absurd rfl q2
    ·simp only [zd4,za3,za4,zk2,zb1,zb3,zh9,zd1,za5,za2,ya4,zk0,za1,za0,za9,zb2,set0,sets,l_ms,tr_b,bt1,l_dt,l_df,zc7,zf4,l_lt,zc4,zc3,zb4,zh6,ze4,ze5,zc1,zc2,yg2,ye2,zd6,zj5 hT,zt9 hs,zg8 hs hT,q2,hw]
   ·have hc':(([c]:List Nat)=[46])=False:=by simp [hc]
    simp only [zd4,za3,za4,zk2,zb1,zh9,zd1,za5,za2,zk0,za1,za0,za9,zb2,set0,sets,l_ms,tr_b,bt1,bt2,l_dt,l_df,zc7,zf4,l_lt,zc4,zc3,zh6,ze4,ze5,zc1,zc2,yg2,ye2,zd6,zj5 hT,zt9 hs,zg8 hs hT,hc'])]
 rw [za6 (env':=[some (.str T),some (.int n),some (.int ((n+D.length:Nat):Int)),some (.str D),some (.str []),some (.bool false),none,none,none,none]) (σ':=σ) (by simp only [zb5,zb0,za3,zp2,za1,za0,za9,zb2,tr_b,zc0,zd8])]
 have hp:=yc9 (N:=N) (d:=d+1) (σ:=σ) hT hσ hs hE
 rw [za6 (env':=[some (.str T),some (.int n),some (.int ((n+D.length:Nat):Int)),some (.str D),some (.str []),some (.bool false),none,some (.str []),some (.int 0),none]) (σ':=σ) (by simp only [zf5,za3,zb3,za5,za2,za1,za0,za9,zb2,set0,sets,l_bs,l_it,l_sn,l_sc,zb4,zc1,zc2,zg9,zf6,zj0,hp])]
 have hgt:((1000:Int) < ((n+D.length:Nat):Int) - (n:Int))=False:=by simp only [eq_iff_iff,iff_false]; exact j133 h2
 rw [za6 (env':=[some (.str T),some (.int n),some (.int ((n+D.length:Nat):Int)),some (.str D),some (.str []),some (.bool false),none,some (.str []),some (.int 0),none]) (σ':=σ) (by simp only [zb5,zb0,za3,za4,zd7,zb1,zb7,za1,za0,za9,zb2,l_ms,tr_b,l_df,zk4,zg6,zf2,zf1,zc4,zc3,zc0,zd8,hgt])]
 have hi:biP σ .int [.str D]=some (.int (zd2 D)):=by
  exact if_pos (zw7 hD h1 h2)
 rw [zc8 (v:=.tup [.tup [.str [73,78,84],.int (zd2 D),.int n],.int ((n+D.length:Nat):Int)]) (env':=[some (.str T),some (.int n),some (.int ((n+D.length:Nat):Int)),some (.str D),some (.str []),some (.bool false),none,some (.str []),some (.int 0),none]) (σ':=σ) (by simp (decide:=true) only [za8,zb0,zc6,za3,za4,zb1,zh9,ze8,zp2,zb7,zn1,ze0,za5,za2,zh2,zd3,za1,za0,za9,zb2,l_ms,tr_b,bt1,l_dt,l_nf,zc7,zc4,zc3,zh6,ze9,zc0,zv5,zc1,zc2,kA_e,ze2,zc9,zd9,hi])]
 exact zb8 (v:=.tup [.tup [.str [73,78,84],.int (zd2 D),.int n],.int ((n+D.length:Nat):Int)]) rfl hσ
noncomputable def yr8 (L:List Nat):List Nat:=if L=[68] then [68,66,76,69] else [82,69,65,76]
theorem yd5 {L:List Nat} {p:Int} {e:Nat} (hT:T.length≤szL) (hN:T.length < N) (hσ:σ.all zd0=true) (h:T.drop n=D++46::(F++R)) (hD:DG D) (hF:DG F) (h1:1≤(D++F).length) (h2:(D++F).length≤640) (hR:zj8 DIGS R)
  (hdot:zc5 N (d+2) 1 [.str T,.int ((n+D.length:Nat):Int)] σ=.ok (.str [],σ))
  (hpow:zc5 N (d+2) 3 [.str T,.int ((n+D.length+1+F.length:Nat):Int)] σ=.ok (.tup [.str L,.int p,.int e],σ)) (he:e≤n+1000)
  (hm:zd2 (D++F)≠0→zd2 (D++F) % 10≠0) :
  zc5 N (d+3) 4 [.str T,.int n] σ=.ok (.tup [.tup [.str (yr8 L),.tup [.int (zd2 (D++F)),.int (if zd2 (D++F)=0 then 0 else p - F.length)],.int n],.int e],σ):=by
 rw [zb6 (f:=c4) rfl,zb9 (env:=[some (.str T),some (.int n),none,none,none,none,none,none,none,none]) rfl rfl]
 unfold c4
 have hpt:zj8 DIGS (46::(F++R)):=fun c r q=>by cases q; rfl
 have hr:=wc8 (N:=N) (d:=d+1) (S:=DIGS) (σ:=σ) hT hN hσ h (fun c hc=>we4 (hD c hc)) hpt
 unfold DIGS at hr
 rw [za6 (env':=[some (.str T),some (.int n),some (.int ((n+D.length:Nat):Int)),none,none,none,none,none,none,none]) (σ':=σ) (by simp only [zd4,za3,za4,zb3,za5,za2,za1,za0,za9,zb2,set0,sets,zb4,zc1,zc2,zd6,hr])]
 rw [za6 (env':=[some (.str T),some (.int n),some (.int ((n+D.length:Nat):Int)),some (.str D),none,none,none,none,none,none]) (σ':=σ) (by simp only [zd4,za3,zt4,za1,za0,za9,zb2,set0,sets,yc5,yc0,yc3,zd6,zu0 h hT])]
 rw [za6 (env':=[some (.str T),some (.int n),some (.int ((n+D.length:Nat):Int)),some (.str D),some (.str []),none,none,none,none,none]) (σ':=σ) (by simp only [zd4,za4,za1,set0,sets,zd6])]
 have hs:=zp5 h
 have hs1:=zh5 hs
 rw [za6 (env':=[some (.str T),some (.int n),some (.int ((n+D.length:Nat):Int)),some (.str D),some (.str []),some (.bool true),none,none,none,none]) (σ':=σ) (by simp only [zd4,za3,za4,zk2,zb1,zb3,zh9,zd1,za5,za2,ya4,zk0,za1,za0,za9,zb2,set0,sets,l_ms,tr_b,bt1,l_dt,zc7,zf4,l_lt,zc4,zc3,zb4,zh6,ze4,ze5,zc1,zc2,yg2,ye2,zd6,zj5 hT,zt9 hs,zg8 hs hT,hdot])]
 have hr2:=wc8 (N:=N) (d:=d+1) (S:=DIGS) (σ:=σ) hT hN hσ hs1 (fun c hc=>we4 (hF c hc)) hR
 unfold DIGS at hr2
 have hc2:=zu0 hs1 hT
 rw [za6 (env':=[some (.str T),some (.int n),some (.int ((n+D.length+1+F.length:Nat):Int)),some (.str D),some (.str F),some (.bool true),some (.int ((n+D.length+1+F.length:Nat):Int)),none,none,none]) (σ':=σ) (by simp only [za8,zb5,zd4,zb0,za3,za4,zd7,zb3,zt4,zp2,za5,za2,za1,za0,za9,zb2,set0,sets,tr_b,zd5,ci1,zf2,zf1,zb4,yc5,yc0,yc3,zc0,zc1,zc2,zd6,ze2,ze3,hr2,hc2])]
 rw [za6 (env':=[some (.str T),some (.int n),some (.int e),some (.str D),some (.str F),some (.bool true),some (.int ((n+D.length+1+F.length:Nat):Int)),some (.str L),some (.int p),none]) (σ':=σ) (by simp only [zf5,za3,zb3,za5,za2,za1,za0,za9,zb2,set0,sets,l_bs,l_it,l_sn,l_sc,zb4,zc1,zc2,zg9,zf6,zj0,hpow])]
 have hgt:((1000:Int) < (e:Int) - (n:Int))=False:=by simp only [eq_iff_iff,iff_false]; lia
 rw [za6 (env':=[some (.str T),some (.int n),some (.int e),some (.str D),some (.str F),some (.bool true),some (.int ((n+D.length+1+F.length:Nat):Int)),some (.str L),some (.int p),none]) (σ':=σ) (by simp only [zb5,zb0,za3,za4,zd7,zb1,zb7,za1,za0,za9,zb2,l_ms,tr_b,l_df,zk4,zg6,zf2,zf1,zc4,zc3,zc0,zd8,hgt])]
 rw [za6 (env':=[some (.str T),some (.int n),some (.int e),some (.str D),some (.str F),some (.bool true),some (.int ((n+D.length+1+F.length:Nat):Int)),some (.str L),some (.int p),none]) (σ':=σ) (by simp only [zb5,zb0,za3,zp2,zn1,ze0,zd3,za1,za0,za9,zb2,tr_b,bt2,l_nt,zc0,zv5,kA_e,zd8])]
 have hadd:binP .add (.str D) (.str F)=some (.str (D++F)):=by
  have:D.length+F.length≤szL:=by
   rw [List.length_append] at h2
   have:(640:Nat)≤szL:=by decide
   exact j37 h2 this
  exact if_pos this
 have hlF:biP σ .len [.str F]=some (.int F.length):=zj5 (by
   rw [List.length_append] at h2
   have:(640:Nat)≤szL:=by decide
   exact j134 h2 this)
 have ht:=k_told (N:=N) (d:=d+1) (p:=p - F.length) hσ (by exact j84 hN) (hD.app hF) h1 h2 hm
 generalize hpv:PV.tup [.int (zd2 (D++F)),.int (if zd2 (D++F)=0 then 0 else p - F.length)]=pr at *
 have hnl:zh8 pr=true:=by rw [← hpv]; rfl
 rw [za6 (env':=[some (.str T),some (.int n),some (.int e),some (.str D),some (.str F),some (.bool true),some (.int ((n+D.length+1+F.length:Nat):Int)),some (.str L),some (.int p),some pr]) (σ':=σ) (by simp only [zd4,za3,zd7,zb3,zh9,za5,za2,za1,za0,za9,zb2,set0,sets,zg6,zf2,zf1,zb4,zh6,zc1,zc2,zd6,hadd,hlF,ht])]
 unfold yr8
 by_cases hL:L=[68]
 ·rw [if_pos hL]
  rw [zc8 (v:=.tup [.tup [.str [68,66,76,69],pr,.int n],.int e]) (env':=[some (.str T),some (.int n),some (.int e),some (.str D),some (.str F),some (.bool true),some (.int ((n+D.length+1+F.length:Nat):Int)),some (.str L),some (.int p),some pr]) (σ':=σ) (by simp only [za8,zb0,zc6,za3,za4,zb1,ze8,zb7,za5,za2,za1,za0,za9,zb2,l_ms,tr_b,l_dt,zc7,zc4,zc3,ze9,zc0,zc1,zc2,ze2,zc9,zd9,hL])]
  exact zb8 (v:=.tup [.tup [.str [68,66,76,69],pr,.int n],.int e]) (by simp [nl_s,nl_i,nl_t,nl_l,ya9,zz3,hnl]) hσ
 ·rw [if_neg hL]
  rw [za6 (env':=[some (.str T),some (.int n),some (.int e),some (.str D),some (.str F),some (.bool true),some (.int ((n+D.length+1+F.length:Nat):Int)),some (.str L),some (.int p),some pr]) (σ':=σ) (by simp only [zb5,zb0,za3,za4,zb1,zb7,za1,za0,za9,zb2,l_ms,tr_b,l_df,zc7,zc4,zc3,zc0,zd8,hL])]
  rw [zc8 (v:=.tup [.tup [.str [82,69,65,76],pr,.int n],.int e]) (env':=[some (.str T),some (.int n),some (.int e),some (.str D),some (.str F),some (.bool true),some (.int ((n+D.length+1+F.length:Nat):Int)),some (.str L),some (.int p),some pr]) (σ':=σ) (by simp only [zc6,za3,za4,ze8,za5,za2,za1,za0,za9,zb2,ze9,zc1,zc2,zc9])]
  exact zb8 (v:=.tup [.tup [.str [82,69,65,76],pr,.int n],.int e]) (by simp [nl_s,nl_i,nl_t,nl_l,ya9,zz3,hnl]) hσ
end
end Mine
namespace Mine
set_option tactic.hygienic false
section
variable {N d:Nat} {T P R D F X:List Nat} {n c:Nat} {σ:za7}
theorem ci2 (a:Nat):(a:Int)+2=((a+2:Nat):Int):=rfl
theorem yx4 (h:T.drop n=R) (hn:n≤T.length) (hT:T.length≤szL):cutP (.str T) (.int n) (.int ((n+1:Nat):Int))=some (.str (R.take 1)):=by
 cases R with
 | nil=>exact wk8 h (Nat.zero_le _) hn hT
 | cons c r=>exact zu0 (A:=[c]) h hT
theorem add_str {a b:List Nat} (h:a.length+b.length≤szL):binP .add (.str a) (.str b)=some (.str (a++b)):=by
 exact if_pos h
noncomputable def bodyQ:PSs:=(.cons (.iff (.cmp .ne (.idx (.var 0) (.var 3)) (.cst (.str [39]))) (.cons (.aug 2 .add (.idx (.var 0) (.var 3))) (.cons (.aug 3 .add (.cst (.int 1))) .nil)) (.cons (.iff (.cmp .eq (.cut (.var 0) (.bin .add (.var 3) (.cst (.int 1))) (.bin .add (.var 3) (.cst (.int 2)))) (.cst (.str [39]))) (.cons (.aug 2 .add (.cst (.str [39]))) (.cons (.aug 3 .add (.cst (.int 2))) .nil)) (.cons (.ret (.tup (.cons (.tup (.cons (.cst (.str [67,72,65,82])) (.cons (.var 2) (.cons (.var 1) .nil)))) (.cons (.bin .add (.var 3) (.cst (.int 1))) .nil)))) .nil)) .nil)) .nil)
theorem yu6 {n:Nat} (hT:T.length≤szL) (hR:zj8 [39] R):∀ (s acc:List Nat) (h k:Nat),T.drop h=zh0 s++39::R→acc.length≤h→s.length < k →
  ∃ env,zj9 (ev (zc5 N d) (.cmp .lt (.var 3) (.bi .len (.cons (.var 0) .nil)))).2 (exs (zc5 N d) N bodyQ) k [some (.str T),some (.int n),some (.str acc),some (.int h)] σ=.ok (.ret (.tup [.tup [.str [67,72,65,82],.str (acc++s),.int n],.int ((h+(zh0 s).length+1:Nat):Int)]),env,σ)
 | [],acc,h,k,hd,ha,hk=>by
  obtain ⟨k,rfl⟩:=Nat.exists_eq_add_of_le' (show 1≤k by exact j84 hk)
  haveI hd:T.drop h=39::R:=hd
  have hlt:=zt9 hd
  haveI h1:=yx4 (zh5 hd) hlt hT
  haveI h2:(R.take 1=[39])=False:=by
   cases R with
   | nil=>simp
   | cons c r =>
    haveI:=hR c r rfl
    simp only [eq_iff_iff,iff_false,List.take_succ_cons,List.take_zero,List.cons.injEq,and_true]
    rintro rfl
    cases this
  refine ⟨[some (.str T),some (.int n),some (.str acc),some (.int h)],ys4 (σ':=σ) (by simp only [za3,zb1,zh9,zb7,za5,za2,za1,za0,za9,zb2,l_ms,tr_b,l_dt,zf4,l_lt,zc4,zc3,zh6,zc0,zc1,zc2,zj5 hT,hlt]) ?_⟩
  unfold bodyQ
  simp only [za8,zb0,zc6,za3,za4,zd7,zb1,zd1,zt4,ze8,zb7,za5,za2,za1,za0,za9,zb2,l_ms,tr_b,l_dt,l_df,l_nt,zc7,yd9,zd5,ci1,zf2,zf1,zc4,zc3,ze4,ze5,yc5,yc0,yc3,ze9,zc0,zc1,zc2,zd8,zc9,zd9,zg8 hd hT,ci2,h1,h2,show (h+2:Nat)=h+1+1 from rfl,List.append_nil]
  rfl
 | c::s,acc,h,k,hd,ha,hk=>by
  obtain ⟨k,rfl⟩:=Nat.exists_eq_add_of_le' (show 1≤k by exact j84 hk)
  by_cases hc:c=39
  ·subst hc
   haveI e:zh0 (39::s)=39::39::zh0 s:=by rw [zh0,if_pos rfl]
   rw [e] at hd ⊢
   have hd:T.drop h=39::39::(zh0 s++39::R):=hd
   haveI hlt:=zt9 hd
   haveI h1:=yx4 (zh5 hd) hlt hT
   obtain ⟨env,ih⟩:=yu6 hT hR s (acc++[39]) (h+2) k (zh5 (zh5 hd)) (by simp; exact j135 ha) (by simp at hk; exact j128 hk)
   refine ⟨env,?_⟩
   haveI ha2:acc.length+([39]:List Nat).length≤szL:=by simp; exact j136 hlt hT ha
   rw [zm8 (env':=[some (.str T),some (.int n),some (.str (acc++[39])),some (.int ((h+2:Nat):Int))]) (σ':=σ) (σ'':=σ) (by simp only [za3,zb1,zh9,zb7,za5,za2,za1,za0,za9,zb2,l_ms,tr_b,l_dt,zf4,l_lt,zc4,zc3,zh6,zc0,zc1,zc2,zj5 hT,hlt]) (by
    unfold bodyQ
    simp only [za8,zb5,zq1,zb0,za3,za4,zd7,zb1,zd1,zt4,zb7,za1,za0,za9,zb2,set0,sets,l_ms,tr_b,l_dt,l_nt,zc7,yd9,zd5,ci1,zf2,zf1,zc4,zc3,ze4,ze5,yc5,yc0,yc3,zc0,zq3,zk8,zm1,ze2,zd8,ze3,zg8 hd hT,ci2,h1,show (h+2:Nat)=h+1+1 from rfl,List.take_succ_cons,List.take_zero,add_str ha2]),ih]
   simp only [List.length_cons,List.append_assoc,List.cons_append,List.nil_append,show h+2+(zh0 s).length+1=h+((zh0 s).length+1+1)+1 by exact j137]
  ·haveI e:zh0 (c::s)=c::zh0 s:=by rw [zh0,if_neg hc]
   rw [e] at hd ⊢
   have hd:T.drop h=c::(zh0 s++39::R):=hd
   haveI hlt:=zt9 hd
   refine big fun Gz hGz=>?_
   obtain ⟨env,ih⟩:=yu6 hT hR s (acc++[c]) (h+1) k (zh5 hd) (by simp; exact j20 ha) (by simp at hk; exact j128 hk) <;> refine hGz ?_
   refine ⟨env,?_⟩
   haveI ha2:acc.length+([c]:List Nat).length≤szL:=by simp; exact j136 hlt hT ha
   haveI hc2:(([c]:List Nat)=[39])=False:=by simp [hc]
   rw [zm8 (env':=[some (.str T),some (.int n),some (.str (acc++[c])),some (.int ((h+1:Nat):Int))]) (σ':=σ) (σ'':=σ) (by simp only [za3,zb1,zh9,zb7,za5,za2,za1,za0,za9,zb2,l_ms,tr_b,l_dt,zf4,l_lt,zc4,zc3,zh6,zc0,zc1,zc2,zj5 hT,hlt]) (by
    unfold bodyQ
    simp only [za8,zb5,zq1,zb0,za3,za4,zb1,zd1,zb7,za1,za0,za9,zb2,set0,sets,l_ms,tr_b,l_df,l_nf,yd9,zd5,ci1,zc4,zc3,ze4,ze5,zc0,zq3,zk8,zm1,ze2,ze3,zg8 hd hT,hc2,add_str ha2]),ih]
   simp only [List.length_cons,List.append_assoc,List.cons_append,List.nil_append,show h+1+(zh0 s).length+1=h+((zh0 s).length+1)+1 by exact j138]
theorem dbl39_ge (s:List Nat):s.length≤(zh0 s).length:=by
 induction s with
 | nil=>exact Nat.le_refl _
 | cons c r ih=>rw [zh0]; split <;> simp <;> (first | exact j135 ih | exact j20 ih)
theorem k_quoted {s:List Nat} (hT:T.length≤szL) (hN:T.length < N) (hσ:σ.all zd0=true) (h:T.drop n=39::(zh0 s++39::R)) (hR:zj8 [39] R) :
  zc5 N (d+1) 5 [.str T,.int n] σ=.ok (.tup [.tup [.str [67,72,65,82],.str s,.int n],.int ((n+1+(zh0 s).length+1:Nat):Int)],σ):=by
 rw [zb6 (f:=c5) rfl,zb9 (env:=[some (.str T),some (.int n),none,none]) rfl rfl]
 unfold c5
 rw [za6 (env':=[some (.str T),some (.int n),some (.str []),none]) (σ':=σ) (by simp only [zd4,za4,za1,set0,sets,zd6])]
 rw [za6 (env':=[some (.str T),some (.int n),some (.str []),some (.int ((n+1:Nat):Int))]) (σ':=σ) (by simp only [zd4,za3,za4,zd7,za1,za0,za9,zb2,set0,sets,zd5,ci1,zf2,zf1,zd6])]
 have hl:=congrArg List.length h
 simp only [List.length_drop,List.length_cons,List.length_append] at hl
 have:=dbl39_ge s
 obtain ⟨env,hw⟩:=yu6 (N:=N) (d:=d) (σ:=σ) (n:=n) hT hR s [] (n+1) N (zh5 h) (Nat.zero_le _) (by exact j427 hl hN this)
 rw [zc8 (by rw [yb3]; exact hw)]
 exact zb8 (v:=.tup [.tup [.str [67,72,65,82],.str s,.int n],.int ((n+1+(zh0 s).length+1:Nat):Int)]) rfl hσ
theorem k_nameL (hT:T.length≤szL) (hN:T.length < N) (hσ:σ.all zd0=true) (h:T.drop n=P++R) (hP:∀ c∈P,(LETS++DIGS).contains c=true) (hR:zj8 (LETS++DIGS) R) (h6:P.length≤6) :
  zc5 N (d+2) 6 [.str T,.int n] σ=.ok (.tup [.tup [.str [78,65,77,69],.str P,.int n],.int ((n+P.length:Nat):Int)],σ):=by
 rw [zb6 (f:=c6) rfl,zb9 (env:=[some (.str T),some (.int n),none]) rfl rfl]
 unfold c6
 haveI hr:=wc8 (N:=N) (d:=d) (S:=LETS++DIGS) (σ:=σ) hT hN hσ h hP hR
 haveI ha:binP .add (.str [65,66,67,68,69,70,71,72,73,74,75,76,77,78,79,80,81,82,83,84,85,86,87,88,89,90]) (.str [48,49,50,51,52,53,54,55,56,57])=some (.str (LETS++DIGS)):=add_str (by decide)
 rw [za6 (env':=[some (.str T),some (.int n),some (.int ((n+P.length:Nat):Int))]) (σ':=σ) (by simp only [zd4,za3,za4,zd7,zb3,za5,za2,za1,za0,za9,zb2,set0,sets,zf2,zf1,zb4,zc1,zc2,zd6,ha,hr])]
 haveI hgt:((6:Int) < ((n+P.length:Nat):Int) - (n:Int))=False:=by simp only [eq_iff_iff,iff_false]; lia
 rw [za6 (env':=[some (.str T),some (.int n),some (.int ((n+P.length:Nat):Int))]) (σ':=σ) (by simp only [zb5,zb0,za3,za4,zd7,zb1,zb7,za1,za0,za9,zb2,l_ms,tr_b,l_df,zk4,zg6,zf2,zf1,zc4,zc3,zc0,zd8,hgt])]
 rw [zc8 (v:=.tup [.tup [.str [78,65,77,69],.str P,.int n],.int ((n+P.length:Nat):Int)]) (env':=[some (.str T),some (.int n),some (.int ((n+P.length:Nat):Int))]) (σ':=σ) (by simp only [zc6,za3,za4,zt4,ze8,za5,za2,za1,za0,za9,zb2,yc5,yc0,yc3,ze9,zc1,zc2,zc9,zu0 h hT])]
 exact zb8 (v:=.tup [.tup [.str [78,65,77,69],.str P,.int n],.int ((n+P.length:Nat):Int)]) rfl hσ
theorem yf3 {v:PV} (hT:T.length≤szL) (hσ:σ.all zd0=true) (h:T.drop n=46::c::R) (hc:48≤c∧c≤57) (hv:zh8 v=true) (hk:zc5 N d 4 [.str T,.int n] σ=.ok (v,σ)) :
  zc5 N (d+1) 7 [.str T,.int n] σ=.ok (v,σ):=by
 rw [zb6 (f:=c7) rfl,zb9 (env:=[some (.str T),some (.int n),none]) rfl rfl]
 unfold c7
 have h1:=zh5 h
 have hin:=we4 hc
 unfold DIGS at hin
 rw [zc8 (v:=v) (env':=[some (.str T),some (.int n),none]) (σ':=σ) (by simp only [za8,zb0,zc6,za3,za4,zd7,zb1,zb3,zh9,zd1,zb7,ze0,za5,za2,zh2,zd3,za1,za0,za9,zb2,l_ms,tr_b,bt1,l_dt,zf4,zd5,ci1,l_lt,zf2,zf1,zc4,zc3,zb4,zh6,ze4,ze5,zc0,zc1,zc2,kA_e,ze2,zc9,zd9,zj5 hT,zt9 h1,zg8 h1 hT,in_str,hin,hk])]
 exact zb8 hv hσ
theorem yd8:∀ w∈dotL++truL,w=46::(w.tail.dropLast++[46])∧(w.tail.dropLast.all fun c=>LETS.contains c)=true∧4≤w.length∧((w.tail.take 1).all fun c=>!DIGS.contains c)=true:=by decide
theorem zs9 {w:List Nat} (h:w.length≤3):wk3 w=[]:=by
 unfold wk3
 rw [if_neg]
 intro q
 have:=(yd8 w (List.mem_append.mpr q)).2.2.1
 exact j139 this h
theorem k_word {w:List Nat} (hT:T.length≤szL) (hN:T.length < N) (hσ:σ.all zd0=true) (h:T.drop n=w++R) (hw:w∈dotL++truL):zc5 N (d+2) 1 [.str T,.int n] σ=.ok (.str w,σ):=by
 refine big fun Gz hGz=>?_
 obtain ⟨h1,h2,_,_⟩:=yd8 w hw <;> refine hGz ?_
 generalize w.tail.dropLast=P at h1 h2
 haveI hd:T.drop n=46::(P++(46::R)):=by rw [h,h1]; simp
 rw [k_dot hT hN hσ hd (fun x hx=>by simpa using List.all_eq_true.mp h2 x hx) (fun c r q=>by cases q; rfl)]
 rw [show (46::(P++(46::R).take 1))=w from h1.symm]
 unfold wk3
 rw [if_pos (List.mem_append.mp hw)]
theorem zu3 {w:List Nat} (hT:T.length≤szL) (hN:T.length < N) (hσ:σ.all zd0=true) (h:T.drop n=w++R) (hw:w∈dotL++truL) :
  zc5 N (d+3) 7 [.str T,.int n] σ=.ok (.tup [.tup [.str (if w∈truL then [76,79,71] else [79,80]),if w∈truL then .bool (decide (w=[46,84,82,85,69,46])) else .str w,.int n],.int ((n+w.length:Nat):Int)],σ):=by
 rw [zb6 (f:=c7) rfl,zb9 (env:=[some (.str T),some (.int n),none]) rfl rfl]
 unfold c7
 haveI hk:=k_word (N:=N) (d:=d) (σ:=σ) hT hN hσ h hw
 obtain ⟨h1,_,h3,h4⟩:=yd8 w hw
 obtain ⟨a,b,r,rfl⟩:∃ a b r,w=a::b::r:=by
  rcases w with _ | ⟨a,_ | ⟨b,r⟩⟩
  ·exact absurd h3 (show ¬ 4≤0 by decide)
  ·exact absurd h3 (show ¬ 4≤1 by decide)
  ·exact ⟨a,b,r,rfl⟩
 haveI hb:DIGS.contains b=false:=by simpa using h4
 unfold DIGS at hb
 haveI hn:T.drop (n+1)=b::(r++R):=zh5 h
 rw [za6 (env':=[some (.str T),some (.int n),none]) (σ':=σ) (by simp only [zb5,zb0,za3,za4,zd7,zb1,zh9,zd1,zb7,ze0,za5,za2,zd3,za1,za0,za9,zb2,l_ms,tr_b,bt1,bt2,l_dt,l_nt,zf4,zd5,ci1,l_lt,zf2,zf1,zc4,zc3,zh6,ze4,ze5,zc0,zc1,zc2,kA_e,zd8,zj5 hT,zt9 hn,zg8 hn hT,in_str,hb])]
 rw [za6 (env':=[some (.str T),some (.int n),some (.str (a::b::r))]) (σ':=σ) (by simp only [zd4,za3,zb3,za5,za2,za1,za0,za9,zb2,set0,sets,zb4,zc1,zc2,zd6,hk])]
 rw [za6 (env':=[some (.str T),some (.int n),some (.str (a::b::r))]) (σ':=σ) (by simp only [zb5,zb0,za3,za4,zb1,zb7,za1,za0,za9,zb2,l_ms,tr_b,l_df,zc7,zc4,zc3,zc0,zd8,reduceCtorEq])]
 haveI hl:biP σ .len [.str (a::b::r)]=some (.int (a::b::r).length):=zj5 (by
  haveI:=congrArg List.length h
  simp only [List.length_drop,List.length_append] at this; exact j429 this hT)
 generalize a::b::r=w at *
 by_cases hq:w∈truL
 ·rw [if_pos hq,if_pos hq]
  rw [zc8 (v:=.tup [.tup [.str [76,79,71],.bool (decide (w=[46,84,82,85,69,46])),.int n],.int ((n+w.length:Nat):Int)]) (env':=[some (.str T),some (.int n),some (.str w)]) (σ':=σ) (by simp only [za8,zb0,zc6,za3,za4,zd7,zb1,zh9,ze8,zb7,za5,za2,za1,za0,za9,zb2,l_ms,tr_b,l_dt,zc7,zd5,zf2,zf1,zc4,zc3,zh6,ze9,zc0,zc1,zc2,ze2,zc9,zd9,yd7,hq,hl,Int.natCast_add])]
  exact zb8 (v:=.tup [.tup [.str [76,79,71],.bool (decide (w=[46,84,82,85,69,46])),.int n],.int ((n+w.length:Nat):Int)]) rfl hσ
 ·rw [if_neg hq,if_neg hq]
  rw [za6 (env':=[some (.str T),some (.int n),some (.str w)]) (σ':=σ) (by simp only [zb5,zb0,za3,za4,zb1,zb7,za1,za0,za9,zb2,l_ms,tr_b,l_df,zc4,zc3,zc0,zd8,yd7,hq])]
  rw [zc8 (v:=.tup [.tup [.str [79,80],.str w,.int n],.int ((n+w.length:Nat):Int)]) (env':=[some (.str T),some (.int n),some (.str w)]) (σ':=σ) (by simp only [zc6,za3,za4,zd7,zh9,ze8,za5,za2,za1,za0,za9,zb2,zd5,zf2,zf1,zh6,ze9,zc1,zc2,zc9,hl,Int.natCast_add])]
  exact zb8 (v:=.tup [.tup [.str [79,80],.str w,.int n],.int ((n+w.length:Nat):Int)]) rfl hσ
end
end Mine
namespace Mine
set_option tactic.hygienic false
noncomputable def SIGS:List Nat:=[43,45,42,47,40,41,44,61,58]
section
variable {N d:Nat} {T P R D F X:List Nat} {n c:Nat} {σ:za7} {v:PV}
theorem k8_let (hT:T.length≤szL) (hσ:σ.all zd0=true) (h:T.drop n=c::R) (hc:LETS.contains c=true) (hv:zh8 v=true) (hk:zc5 N d 6 [.str T,.int n] σ=.ok (v,σ)) :
  zc5 N (d+1) 8 [.str T,.int n] σ=.ok (v,σ):=by
 rw [zb6 (f:=c8) rfl,zb9 (env:=[some (.str T),some (.int n),none,none]) rfl rfl]
 unfold c8
 unfold LETS at hc
 rw [za6 (env':=[some (.str T),some (.int n),some (.str [c]),none]) (σ':=σ) (by simp only [zd4,za3,zd1,za1,za0,za9,zb2,set0,sets,ze4,ze5,zd6,zg8 h hT])]
 rw [zc8 (v:=v) (env':=[some (.str T),some (.int n),some (.str [c]),none]) (σ':=σ) (by simp only [za8,zb0,zc6,za3,za4,zb1,zb3,zb7,za5,za2,za1,za0,za9,zb2,l_ms,tr_b,zc4,zc3,zb4,zc0,zc1,zc2,ze2,zc9,zd9,in_str,hc,hk])]
 exact zb8 hv hσ
theorem wm4 (hT:T.length≤szL) (hσ:σ.all zd0=true) (h:T.drop n=c::R) (hc:48≤c∧c≤57) (hv:zh8 v=true) (hk:zc5 N d 4 [.str T,.int n] σ=.ok (v,σ)) :
  zc5 N (d+1) 8 [.str T,.int n] σ=.ok (v,σ):=by
 rw [zb6 (f:=c8) rfl,zb9 (env:=[some (.str T),some (.int n),none,none]) rfl rfl]
 unfold c8
 haveI h1:LETS.contains c=false:=let_no c (Nat.lt_succ_of_le hc.2)
 haveI h2:=we4 hc
 unfold LETS at h1
 unfold DIGS at h2
 rw [za6 (env':=[some (.str T),some (.int n),some (.str [c]),none]) (σ':=σ) (by simp only [zd4,za3,zd1,za1,za0,za9,zb2,set0,sets,ze4,ze5,zd6,zg8 h hT])]
 rw [za6 (env':=[some (.str T),some (.int n),some (.str [c]),none]) (σ':=σ) (by simp only [zb5,zb0,za3,za4,zb1,zb7,za1,za0,za9,zb2,l_ms,tr_b,zc4,zc3,zc0,zd8,in_str,h1])]
 rw [zc8 (v:=v) (env':=[some (.str T),some (.int n),some (.str [c]),none]) (σ':=σ) (by simp only [za8,zb0,zc6,za3,za4,zb1,zb3,zb7,za5,za2,za1,za0,za9,zb2,l_ms,tr_b,zc4,zc3,zb4,zc0,zc1,zc2,ze2,zc9,zd9,in_str,h2,hk])]
 exact zb8 hv hσ
theorem yr9 (hT:T.length≤szL) (hσ:σ.all zd0=true) (h:T.drop n=46::R) (hv:zh8 v=true) (hk:zc5 N d 7 [.str T,.int n] σ=.ok (v,σ)) :
  zc5 N (d+1) 8 [.str T,.int n] σ=.ok (v,σ):=by
 rw [zb6 (f:=c8) rfl,zb9 (env:=[some (.str T),some (.int n),none,none]) rfl rfl]
 unfold c8
 have h1:LETS.contains 46=false:=rfl
 have h2:DIGS.contains 46=false:=rfl
 unfold LETS at h1
 unfold DIGS at h2
 rw [za6 (env':=[some (.str T),some (.int n),some (.str [46]),none]) (σ':=σ) (by simp only [zd4,za3,zd1,za1,za0,za9,zb2,set0,sets,ze4,ze5,zd6,zg8 h hT])]
 rw [za6 (env':=[some (.str T),some (.int n),some (.str [46]),none]) (σ':=σ) (by simp only [zb5,zb0,za3,za4,zb1,zb7,za1,za0,za9,zb2,l_ms,tr_b,zc4,zc3,zc0,zd8,in_str,h1])]
 rw [za6 (env':=[some (.str T),some (.int n),some (.str [46]),none]) (σ':=σ) (by simp only [zb5,zb0,za3,za4,zb1,zb7,za1,za0,za9,zb2,l_ms,tr_b,zc4,zc3,zc0,zd8,in_str,h2])]
 rw [zc8 (v:=v) (env':=[some (.str T),some (.int n),some (.str [46]),none]) (σ':=σ) (by simp only [za8,zb0,zc6,za3,za4,zb1,zb3,zb7,za5,za2,za1,za0,za9,zb2,l_ms,tr_b,l_dt,zc7,zc4,zc3,zb4,zc0,zc1,zc2,ze2,zc9,zd9,hk])]
 exact zb8 hv hσ
theorem k8_q (hT:T.length≤szL) (hσ:σ.all zd0=true) (h:T.drop n=39::R) (hv:zh8 v=true) (hk:zc5 N d 5 [.str T,.int n] σ=.ok (v,σ)) :
  zc5 N (d+1) 8 [.str T,.int n] σ=.ok (v,σ):=by
 rw [zb6 (f:=c8) rfl,zb9 (env:=[some (.str T),some (.int n),none,none]) rfl rfl]
 unfold c8
 have h1:LETS.contains 39=false:=rfl
 have h2:DIGS.contains 39=false:=rfl
 unfold LETS at h1
 unfold DIGS at h2
 rw [za6 (env':=[some (.str T),some (.int n),some (.str [39]),none]) (σ':=σ) (by simp only [zd4,za3,zd1,za1,za0,za9,zb2,set0,sets,ze4,ze5,zd6,zg8 h hT])]
 rw [za6 (env':=[some (.str T),some (.int n),some (.str [39]),none]) (σ':=σ) (by simp only [zb5,zb0,za3,za4,zb1,zb7,za1,za0,za9,zb2,l_ms,tr_b,zc4,zc3,zc0,zd8,in_str,h1])]
 rw [za6 (env':=[some (.str T),some (.int n),some (.str [39]),none]) (σ':=σ) (by simp only [zb5,zb0,za3,za4,zb1,zb7,za1,za0,za9,zb2,l_ms,tr_b,zc4,zc3,zc0,zd8,in_str,h2])]
 rw [za6 (env':=[some (.str T),some (.int n),some (.str [39]),none]) (σ':=σ) (by simp (decide:=true) only [zb5,zb0,za3,za4,zb1,zb7,za1,za0,za9,zb2,l_ms,tr_b,l_df,zc7,zc4,zc3,zc0,zd8])]
 rw [zc8 (v:=v) (env':=[some (.str T),some (.int n),some (.str [39]),none]) (σ':=σ) (by simp only [za8,zb0,zc6,za3,za4,zb1,zb3,zb7,za5,za2,za1,za0,za9,zb2,l_ms,tr_b,l_dt,zc7,zc4,zc3,zb4,zc0,zc1,zc2,ze2,zc9,zd9,hk])]
 exact zb8 hv hσ
theorem k8_sig (hT:T.length≤szL) (h:T.drop n=c::R) (hc:c∈([43,45,42,47,40,41,44,58]:List Nat)) (hσ:σ.all zd0=true) (k:Nat) (two:Bool) (hk:k=if two then n+1+1 else n+1)
  (h2:([42,47]:List Nat).contains c=true∨two=false) (h3:([42,47]:List Nat).contains c=true→(decide (R.take 1=[c]))=two) {A B:List Nat} (hA:T.drop n=A++B) (hAk:n+A.length=k) :
  zc5 N (d+1) 8 [.str T,.int n] σ=.ok (.tup [.tup [.str [79,80],.str A,.int n],.int k],σ):=by
 rw [zb6 (f:=c8) rfl,zb9 (env:=[some (.str T),some (.int n),none,none]) rfl rfl]
 unfold c8
 haveI q:LETS.contains c=false∧DIGS.contains c=false∧(([c]:List Nat)=[46])=False∧(([c]:List Nat)=[39])=False∧SIGS.contains c=true:=by
  simp only [List.mem_cons,List.not_mem_nil,or_false] at hc
  rcases hc with rfl | rfl | rfl | rfl | rfl | rfl | rfl | rfl <;> decide
 obtain ⟨q1,q2,q3,q4,q5⟩:=q
 unfold LETS at q1
 unfold DIGS at q2
 unfold SIGS at q5
 rw [za6 (env':=[some (.str T),some (.int n),some (.str [c]),none]) (σ':=σ) (by simp only [zd4,za3,zd1,za1,za0,za9,zb2,set0,sets,ze4,ze5,zd6,zg8 h hT])]
 rw [za6 (env':=[some (.str T),some (.int n),some (.str [c]),none]) (σ':=σ) (by simp only [zb5,zb0,za3,za4,zb1,zb7,za1,za0,za9,zb2,l_ms,tr_b,zc4,zc3,zc0,zd8,in_str,q1])]
 rw [za6 (env':=[some (.str T),some (.int n),some (.str [c]),none]) (σ':=σ) (by simp only [zb5,zb0,za3,za4,zb1,zb7,za1,za0,za9,zb2,l_ms,tr_b,zc4,zc3,zc0,zd8,in_str,q2])]
 rw [za6 (env':=[some (.str T),some (.int n),some (.str [c]),none]) (σ':=σ) (by simp only [zb5,zb0,za3,za4,zb1,zb7,za1,za0,za9,zb2,l_ms,tr_b,l_df,zc7,zc4,zc3,zc0,zd8,q3])]
 rw [za6 (env':=[some (.str T),some (.int n),some (.str [c]),none]) (σ':=σ) (by simp only [zb5,zb0,za3,za4,zb1,zb7,za1,za0,za9,zb2,l_ms,tr_b,l_df,zc7,zc4,zc3,zc0,zd8,q4])]
 rw [za6 (env':=[some (.str T),some (.int n),some (.str [c]),none]) (σ':=σ) (by simp only [zb5,zb0,za3,za4,zb1,zb7,za1,za0,za9,zb2,l_ms,tr_b,l_nt,zc4,zc3,zc0,zd8,yf6,q5])]
 rw [za6 (env':=[some (.str T),some (.int n),some (.str [c]),some (.int ((n+1:Nat):Int))]) (σ':=σ) (by simp only [zd4,za3,za4,zd7,za1,za0,za9,zb2,set0,sets,zd5,ci1,zf2,zf1,zd6])]
 haveI hcut:=yx4 (zh5 h) (zt9 h) hT
 rw [za6 (env':=[some (.str T),some (.int n),some (.str [c]),some (.int k)]) (σ':=σ) (by
  cases q6:([42,47]:List Nat).contains c with
  | false =>
   have:two=false:=by rcases h2 with h2 | h2; (rw [q6] at h2; cases h2); exact h2
   subst this
   subst hk
   simp only [zb5,zb0,za3,za4,zb1,zb7,ze0,zd3,za1,za0,za9,zb2,l_ms,tr_b,bt2,l_nt,zc4,zc3,zc0,kA_e,zd8,in_str,q6]
   rfl
  | true =>
   haveI h3:=h3 q6
   cases two with
   | false =>
    subst hk
    simp only [zb5,zb0,za3,za4,zd7,zb1,zt4,zb7,ze0,zd3,za1,za0,za9,zb2,l_ms,tr_b,bt1,bt2,l_nt,zc7,zd5,ci1,zf2,zf1,zc4,zc3,yc5,yc0,yc3,zc0,kA_e,zd8,in_str,q6,hcut,h3]
    rfl
   | true =>
    subst hk
    simp only [za8,zb5,zq1,zb0,za3,za4,zd7,zb1,zt4,zb7,ze0,zh2,zd3,za1,za0,za9,zb2,set0,sets,l_ms,tr_b,bt1,zc7,zd5,l_tt,ci1,zf2,zf1,zc4,zc3,yc5,yc0,yc3,zc0,kA_e,zq3,zk8,zm1,ze2,ze3,in_str,q6,hcut,h3])]
 haveI hc2:=zu0 hA hT
 rw [hAk] at hc2
 rw [zc8 (v:=.tup [.tup [.str [79,80],.str A,.int n],.int k]) (env':=[some (.str T),some (.int n),some (.str [c]),some (.int k)]) (σ':=σ) (by simp only [zc6,za3,za4,zt4,ze8,za5,za2,za1,za0,za9,zb2,yc5,yc0,yc3,ze9,zc1,zc2,zc9,hc2])]
 exact zb8 (v:=.tup [.tup [.str [79,80],.str A,.int n],.int k]) rfl hσ
end
noncomputable def zz0:List (List Nat):=[[43],[45],[42],[47],[42,42],[47,47],[40],[41],[44],[58]]
noncomputable def zx1:Tok→Prop
 | .op s=>s∈zz0∨s∈dotL
 | .int v=>v < 10 ^ 12
 | .real m e=>zp6 m e
 | .dble m e=>zp6 m e
 | .log _=>True
 | .chr s=>s∈textL
 | .nam s=>s∈nameL
noncomputable def FolV (R:List Nat):Prop:=R=[]∨(∃ c r,R=c::r∧c∈([43,45,42,47,41,44,58,40]:List Nat))∨(∃ w r,R=w++r∧w∈dotL)
noncomputable def Fol:Tok→List Nat→Prop
 | .op s,R=>(s=[42]→zj8 [42] R)∧(s=[47]→zj8 [47] R)
 | _,R=>FolV R
theorem yd0:∀ w∈dotL,w=46::w.tail:=by decide
theorem FolV.no {R S:List Nat} (h:FolV R) (hS:(([43,45,42,47,41,44,58,40,46]:List Nat).all fun c=>!S.contains c)=true):zj8 S R:=by
 intro c r e
 have hS:∀ x∈([43,45,42,47,41,44,58,40,46]:List Nat),S.contains x=false:=fun x hx=>by simpa using List.all_eq_true.mp hS x hx
 rcases h with h | ⟨c',r',h,hc⟩ | ⟨w,r',h,hw⟩
 ·rw [h] at e; cases e
 ·rw [h] at e; cases e
  exact hS _ (by simp only [List.mem_cons,List.not_mem_nil,or_false] at hc ⊢; exact j430 hc)
 ·rw [h,yd0 w hw] at e; cases e
  exact hS 46 (by decide)
section
variable {N d:Nat} {T R:List Nat} {n:Nat} {σ:za7}
theorem k_num_nat (hT:T.length≤szL) (hN:T.length < N) (hσ:σ.all zd0=true) {v:Nat} (hv:v < 10 ^ 12) (h:T.drop n=dg v++R) (hR:FolV R) :
  zc5 N (d+3) 4 [.str T,.int n] σ=.ok (.tup [.tup [.str [73,78,84],.int v,.int n],.int ((n+(dg v).length:Nat):Int)],σ):=by
 haveI hl:=zw0 v 11 (by simpa using hv)
 haveI hdot:R=[]∨∃ c r,R=c::r∧(c≠46∨∃ w,w≠[]∧zc5 N (d+2) 1 [.str T,.int ((n+(dg v).length:Nat):Int)] σ=.ok (.str w,σ)):=by
  refine big fun Gz hGz=>?_
  rcases hR with q | ⟨c,r,q,hc⟩ | ⟨w,r,q,hw⟩ <;> refine hGz ?_
  ·exact .inl q
  ·refine .inr ⟨c,r,q,.inl ?_⟩
   rintro rfl
   revert hc; decide
  ·refine .inr ⟨46,w.tail++r,?_,.inr ⟨w,?_,k_word (R:=r) hT hN hσ ?_ (List.mem_append_left _ hw)⟩⟩
   ·rw [q]; conv=>lhs; rw [yd0 w hw]
    rfl
   ·rw [yd0 w hw]; nofun
   ·rw [zp5 h,q]
 haveI:=wk4 (N:=N) (d:=d) hT hN hσ h (yj1 v) (yf1 v) (by exact j140 hl) (hR.no (by decide)) (hR.no (by decide)) hdot
 rw [zy1] at this
 exact this
theorem zr9 (e:Int):intText e=sgn (decide (e < 0))++dg e.natAbs∧(if decide (e < 0) then -(zd2 (dg e.natAbs):Int) else zd2 (dg e.natAbs))=e:=by
 rw [zy1]
 by_cases h:e < 0
 ·rw [decide_eq_true h]
  obtain ⟨k,rfl⟩:∃ k:Nat,e=-((k+1:Nat):Int):=⟨e.natAbs - 1,by exact j431 h⟩
  rw [yx3]
  refine ⟨?_,?_⟩
  ·rw [Int.natAbs_neg,Int.natAbs_natCast]; rfl
  ·simp only [if_true]; exact j432
 ·rw [decide_eq_false h]
  refine big fun Gz hGz=>?_
  obtain ⟨k,rfl⟩:∃ k:Nat,e=(k:Int):=⟨e.natAbs,by exact j141 h⟩ <;> refine hGz ?_
  rw [zi1]
  refine ⟨?_,?_⟩
  ·rw [Int.natAbs_natCast]; rfl
  ·simp only [Bool.false_eq_true,if_false]; exact Int.ofNat_inj.mpr rfl
theorem yg5 {X R:List Nat} (hX:DG X) (h1:1≤X.length):zj8 LETS (X++R):=by
 intro c r e
 cases X with
 | nil=>simp at h1
 | cons x X =>
  cases e
  exact let_no _ (Nat.lt_succ_of_le (hX c (.head _)).2)
theorem zs1 {m:Nat} {e:Int} {c:Nat} (hT:T.length≤szL) (hN:T.length < N) (hσ:σ.all zd0=true) (hc:c=69∨c=68) (hp:zp6 m e) (h:T.drop n=zf9 m e c++R) (hR:FolV R) :
  zc5 N (d+3) 4 [.str T,.int n] σ=.ok (.tup [.tup [.str (yr8 [c]),.tup [.int m,.int e],.int n],.int ((n+(zf9 m e c).length:Nat):Int)],σ) ∧
  ((∃ x r,T.drop n=x::r∧48≤x∧x≤57)∨(∃ x r,T.drop n=46::x::r∧48≤x∧x≤57)):=by
 obtain ⟨p1,p2,p3,p4,p5⟩:=hp
 haveI hdl:(dg m).length≤4:=zw0 m 3 (by lia)
 haveI hd1:=yf1 m
 haveI hdd:DG (dg m):=yj1 m
 haveI hh:∀ (A B:List Nat),DG A→1≤A.length→∃ x r,A++B=x::r∧48≤x∧x≤57:=by
  intro A B hA hl
  cases A with
  | nil=>simp at hl
  | cons a A=>exact ⟨a,A++B,rfl,hA a (.head _)⟩
 unfold zf9 at h ⊢
 rw [zi1] at h ⊢
 by_cases hA:c=68∨0 < e∨e < -12
 ·rw [if_pos hA] at h ⊢
  obtain ⟨t1,t2⟩:=zr9 e
  have hXl:(dg e.natAbs).length≤2:=zw0 _ 1 (by lia)
  have h':T.drop n=dg m++46::(([]:List Nat)++(c::(sgn (decide (e < 0))++(dg e.natAbs++R)))):=by
   rw [h,t1]; simp
  have hs1:T.drop (n+(dg m).length)=46::([c]++(sgn (decide (e < 0))++(dg e.natAbs++R))):=by rw [zp5 h']; rfl
  have hnl:zj8 LETS (sgn (decide (e < 0))++(dg e.natAbs++R)):=by
   cases decide (e < 0) with
   | true=>intro x r q; cases q; rfl
   | false=>exact yg5 (X:=dg e.natAbs) (R:=R) (yj1 _) (yf1 _)
  have hdot:=k_dot (N:=N) (d:=d) (σ:=σ) hT hN hσ hs1 (by intro x hx; rw [List.mem_singleton.mp hx]; rcases hc with rfl | rfl <;> rfl) hnl
  rw [zs9 (by simp; exact Nat.min_le_left 1 _)] at hdot
  haveI hs2:=zh5 hs1
  haveI hpow:=k_pow (N:=N) (d:=d) (σ:=σ) (b:=decide (e < 0)) (L:=c) hT hN hσ (n:=n+(dg m).length+1) hs2 hc (yj1 _) (yf1 _) (by exact j142 hXl) (hR.no (by decide))
  rw [t2] at hpow
  haveI hsl:(sgn (decide (e < 0))).length≤1:=by cases decide (e < 0) <;> decide
  haveI:=yd5 (N:=N) (d:=d) (σ:=σ) (F:=[]) hT hN hσ h' hdd (fun x hx=>nomatch hx) (by simpa using hd1) (by simp; exact j143 hdl) (by intro x r q; cases q; rcases hc with rfl | rfl <;> rfl) hdot hpow (by exact j144 hsl hXl hdl) (by rw [List.append_nil,zy1]; exact p5)
  rw [List.append_nil,zy1] at this
  haveI e1:(if m=0 then (0:Int) else e - (([]:List Nat).length:Nat))=e:=by
   split
   ·rename_i q; exact (p4 q).symm
   ·simp
  rw [e1] at this
  refine ⟨?_,.inl (by rw [h']; exact hh _ _ hdd hd1)⟩
  rw [this,t1]
  congr 6
  simp only [List.length_append,List.length_cons,List.length_nil]
  exact j434
 ·rw [if_neg hA] at h ⊢
  have hc69:c=69:=by rcases hc with q | q; exact q; exact absurd (Or.inl q) hA
  have hk:yr8 [c]=yr8 []:=by rw [hc69]; rfl
  rw [hk]
  by_cases hB:e=0
  ·rw [if_pos hB] at h ⊢
   have h':T.drop n=dg m++46::(([]:List Nat)++R):=by rw [h]; simp
   have hs1:T.drop (n+(dg m).length)=46::(([]:List Nat)++R):=zp5 h'
   have hdot:=k_dot (N:=N) (d:=d) (σ:=σ) hT hN hσ hs1 (fun x hx=>nomatch hx) (hR.no (by decide))
   rw [zs9 (by simp; exact j145)] at hdot
   have hs2:=zh5 hs1
   have hpow:=yc9 (N:=N) (d:=d+1) (σ:=σ) hT (n:=n+(dg m).length+1) hσ hs2 (hR.no (by decide))
   haveI:=yd5 (N:=N) (d:=d) (σ:=σ) (F:=[]) hT hN hσ h' hdd (fun x hx=>nomatch hx) (by simpa using hd1) (by simp; exact j143 hdl) (hR.no (by decide)) hdot hpow (by exact j146 hdl) (by rw [List.append_nil,zy1]; exact p5)
   rw [List.append_nil,zy1] at this
   refine ⟨?_,.inl (by rw [h']; exact hh _ _ hdd hd1)⟩
   haveI e1:(if m=0 then (0:Int) else 0 - (([]:List Nat).length:Nat))=0:=by split <;> simp
   rw [e1] at this
   rw [this,hB]
   congr 6
   simp only [List.length_append,List.length_cons,List.length_nil]
   exact Int.ofNat_inj.mpr rfl
  ·rw [if_neg hB] at h ⊢
   have hm0:m≠0:=fun q=>hB (p4 q)
   have hneg:e < 0:=by exact j147 hB hA
   by_cases hC:(dg m).length≤(-e).toNat
   ·rw [if_pos hC] at h ⊢
    generalize hF:zp1 ((-e).toNat - (dg m).length)++dg m=F at *
    have hFd:DG F:=by rw [← hF]; exact (DG.zeros _).app hdd
    have hFl:F.length=(-e).toNat:=by rw [← hF]; simp [zp1]; exact Nat.sub_add_cancel hC
    have hFv:zd2 F=m:=by rw [← hF,yg8,zy1]
    have h':T.drop n=[]++46::(F++R):=by rw [h,← hF]; simp
    haveI hs1:T.drop (n+([]:List Nat).length)=46::(([]:List Nat)++(F++R)):=h'
    haveI hdot:=k_dot (N:=N) (d:=d) (σ:=σ) hT hN hσ hs1 (fun x hx=>nomatch hx) (yg5 hFd (by exact j148 hneg hFl))
    rw [zs9 (by simp; exact j145)] at hdot
    haveI hs2:=zh5 hs1
    haveI hs3:T.drop (n+([]:List Nat).length+1+F.length)=R:=zp5 hs2
    haveI hpow:=yc9 (N:=N) (d:=d+1) (σ:=σ) hT hσ hs3 (hR.no (by decide))
    haveI:=yd5 (N:=N) (d:=d) (σ:=σ) (D:=[]) hT hN hσ h' (fun x hx=>nomatch hx) hFd (by simp; exact j148 hneg hFl) (by simp; exact j435 hFl hA) (hR.no (by decide)) hdot hpow (by simp; exact j437 hFl hA) (by rw [List.nil_append,hFv]; exact p5)
    rw [List.nil_append,hFv,if_neg hm0] at this
    refine ⟨?_,.inr ?_⟩
    ·rw [this]
     haveI e1:(0:Int) - (F.length:Nat)=e:=by exact j149 hneg hFl
     rw [e1,List.append_assoc,hF]
     congr 6
     simp only [List.length_append,List.length_cons,List.length_nil]
     lia
    ·obtain ⟨x,r,q1,q2⟩:=hh F R hFd (by exact j148 hneg hFl)
     exact ⟨x,r,by rw [h',q1]; rfl,q2⟩
   ·rw [if_neg hC] at h ⊢
    generalize hk2:(dg m).length - (-e).toNat=k at *
    haveI hDF:(dg m).take k++(dg m).drop k=dg m:=List.take_append_drop _ _
    haveI hDl:((dg m).take k).length=k:=by rw [List.length_take]; exact j438 hk2
    haveI hFl:((dg m).drop k).length=(-e).toNat:=by rw [List.length_drop]; exact j439 hk2 hC
    haveI hDd:=hdd.take k
    haveI hFd:=hdd.drop k
    generalize (dg m).take k=D at *
    generalize (dg m).drop k=F at *
    have h':T.drop n=D++46::(F++R):=by rw [h]; simp
    haveI hs1:T.drop (n+D.length)=46::(([]:List Nat)++(F++R)):=zp5 h'
    haveI hdot:=k_dot (N:=N) (d:=d) (σ:=σ) hT hN hσ hs1 (fun x hx=>nomatch hx) (yg5 hFd (by exact j148 hneg hFl))
    rw [zs9 (by simp; exact j145)] at hdot
    haveI hs2:=zh5 hs1
    haveI hs3:T.drop (n+D.length+1+F.length)=R:=zp5 hs2
    haveI hpow:=yc9 (N:=N) (d:=d+1) (σ:=σ) hT hσ hs3 (hR.no (by decide))
    haveI:=yd5 (N:=N) (d:=d) (σ:=σ) hT hN hσ h' hDd hFd (by rw [hDF]; exact j150 hC) (by rw [hDF]; exact j143 hdl) (hR.no (by decide)) hdot hpow (by exact j441 hk2 hdl hFl hDl hA) (by rw [hDF,zy1]; exact p5)
    rw [hDF,zy1,if_neg hm0] at this
    refine ⟨?_,.inl (by rw [h']; exact hh _ _ hDd (by exact j442 hk2 hDl hC))⟩
    rw [this]
    haveI e1:(0:Int) - (F.length:Nat)=e:=by exact j149 hneg hFl
    rw [e1]
    congr 6
    simp only [List.length_append,List.length_cons,List.length_nil]
    lia
end
end Mine
namespace Mine
set_option tactic.hygienic false
theorem we2:∀ s∈nameL,(s.all fun c=>(LETS++DIGS).contains c)=true∧s.length≤6∧(s.take 1).length=1∧((s.take 1).all fun c=>LETS.contains c)=true:=by decide
theorem yv9:∀ w∈dotL,¬ w∈truL:=by decide
theorem yb7 {m:Nat} {e:Int} {c:Nat}:1≤(zf9 m e c).length:=by
 unfold zf9
 split
 ·simp; exact j151
 ·split
  ·simp
  ·split <;> simp <;> exact j151
theorem yr2 {x:Tok} (h:zx1 x):1≤x.tx.length:=by
 match x,h with
 | .op s,h =>
  have:∀ s∈zz0++dotL,1≤s.length:=by decide
  exact this s (List.mem_append.mpr h)
 | .int v,h=>show 1≤(intText v).length; rw [zi1]; exact yf1 v
 | .real _ _,_=>exact yb7
 | .dble _ _,_=>exact yb7
 | .log b,_=>cases b <;> decide
 | .chr s,_=>simp [Tok.tx]
 | .nam s,h =>
  have:∀ s∈nameL,1≤s.length:=by decide
  exact this s h
theorem noTake {R:List Nat} {c:Nat} (h:zj8 [c] R):decide (R.take 1=[c])=false:=by
 cases R with
 | nil=>rfl
 | cons x r =>
  haveI:=h x r rfl
  rw [decide_eq_false_iff_not]
  intro e
  cases e
  simp at this
section
variable {N d:Nat} {T R:List Nat} {n:Nat} {σ:za7}
theorem yb9 {c:Nat} (hT:T.length≤szL) (hσ:σ.all zd0=true) (hc:c∈([43,45,42,47,40,41,44,58]:List Nat)) (h:T.drop n=[c]++R) (hR:([42,47]:List Nat).contains c=true→zj8 [c] R) :
  zc5 N (d+1) 8 [.str T,.int n] σ=.ok (.tup [.tup [.str [79,80],.str [c],.int n],.int ((n+1:Nat):Int)],σ) :=
 k8_sig hT h hc hσ (n+1) false rfl (.inr rfl) (fun q=>noTake (hR q)) h rfl
theorem k_sig2 {c:Nat} (hT:T.length≤szL) (hσ:σ.all zd0=true) (hc:c=42∨c=47) (h:T.drop n=[c,c]++R) :
  zc5 N (d+1) 8 [.str T,.int n] σ=.ok (.tup [.tup [.str [79,80],.str [c,c],.int n],.int ((n+1+1:Nat):Int)],σ) :=
 k8_sig (R:=c::R) hT h (by rcases hc with rfl | rfl <;> decide) hσ (n+1+1) true rfl (.inl (by rcases hc with rfl | rfl <;> rfl)) (fun q=>by simp) h rfl
theorem k_tok {x:Tok} (hT:T.length≤szL) (hN:T.length < N) (hσ:σ.all zd0=true) (ok:zx1 x) (hF:Fol x R) (h:T.drop n=x.tx++R) :
  zc5 N (d+5) 8 [.str T,.int n] σ=.ok (.tup [tkPV (x,n),.int ((n+x.tx.length:Nat):Int)],σ):=by
 match x,ok,hF,h with
 | .op s,ok,hF,h =>
  haveI hF:(s=[42]→zj8 [42] R)∧(s=[47]→zj8 [47] R):=hF
  rcases ok with hs | hs
  ·simp only [zz0,List.mem_cons,List.not_mem_nil,or_false] at hs
   rcases hs with rfl | rfl | rfl | rfl | rfl | rfl | rfl | rfl | rfl | rfl
   ·exact yb9 hT hσ (by decide) h (fun q=>absurd q (by decide))
   ·exact yb9 hT hσ (by decide) h (fun q=>absurd q (by decide))
   ·exact yb9 hT hσ (by decide) h (fun _=>hF.1 rfl)
   ·exact yb9 hT hσ (by decide) h (fun _=>hF.2 rfl)
   ·exact k_sig2 hT hσ (.inl rfl) h
   ·exact k_sig2 hT hσ (.inr rfl) h
   ·exact yb9 hT hσ (by decide) h (fun q=>absurd q (by decide))
   ·exact yb9 hT hσ (by decide) h (fun q=>absurd q (by decide))
   ·exact yb9 hT hσ (by decide) h (fun q=>absurd q (by decide))
   ·exact yb9 hT hσ (by decide) h (fun q=>absurd q (by decide))
  ·haveI hk:=zu3 (N:=N) (d:=d+1) (σ:=σ) (w:=s) hT hN hσ h (List.mem_append_left _ hs)
   haveI hn:=yv9 s hs
   rw [if_neg hn,if_neg hn] at hk
   refine yr9 (R:=s.tail++R) hT hσ ?_ rfl hk
   rw [h]
   show s++R=_
   conv=>lhs; rw [yd0 s hs]
   rfl
 | .int v,ok,hF,h =>
  have h':T.drop n=dg v++R:=by rw [h]; show intText v++R=_; rw [zi1]
  haveI hk:=k_num_nat (N:=N) (d:=d+1) (σ:=σ) hT hN hσ ok h' hF
  haveI e:(Tok.int v).tx=dg v:=zi1 v
  rw [e]
  obtain ⟨x,r,q⟩:∃ x r,dg v=x::r:=by
   haveI:=yf1 v
   cases q:dg v with
   | nil=>rw [q] at this; simp at this
   | cons x r=>exact ⟨x,r,rfl⟩
  exact wm4 (R:=r++R) hT hσ (by rw [h',q]; rfl) (yj1 v x (by rw [q]; exact .head _)) rfl hk
 | .real m e,ok,hF,h =>
  obtain ⟨hk,hh⟩:=zs1 (N:=N) (d:=d) (σ:=σ) hT hN hσ (.inl rfl) ok h hF
  obtain ⟨hk1,_⟩:=zs1 (N:=N) (d:=d+1) (σ:=σ) hT hN hσ (.inl rfl) ok h hF
  rcases hh with ⟨x,r,q1,q2⟩ | ⟨x,r,q1,q2⟩
  ·exact wm4 hT hσ q1 q2 rfl hk1
  ·exact yr9 hT hσ q1 rfl (yf3 hT hσ q1 q2 rfl hk)
 | .dble m e,ok,hF,h =>
  obtain ⟨hk,hh⟩:=zs1 (N:=N) (d:=d) (σ:=σ) hT hN hσ (.inr rfl) ok h hF
  obtain ⟨hk1,_⟩:=zs1 (N:=N) (d:=d+1) (σ:=σ) hT hN hσ (.inr rfl) ok h hF
  rcases hh with ⟨x,r,q1,q2⟩ | ⟨x,r,q1,q2⟩
  ·exact wm4 hT hσ q1 q2 rfl hk1
  ·exact yr9 hT hσ q1 rfl (yf3 hT hσ q1 q2 rfl hk)
 | .log b,ok,hF,h =>
  cases b with
  | true =>
   haveI hk:=zu3 (N:=N) (d:=d+1) (σ:=σ) (w:=[46,84,82,85,69,46]) hT hN hσ h (by decide)
   have h':T.drop n=46::([84,82,85,69,46]++R):=by rw [h]; rfl
   exact yr9 hT hσ h' rfl hk
  | false =>
   haveI hk:=zu3 (N:=N) (d:=d+1) (σ:=σ) (w:=[46,70,65,76,83,69,46]) hT hN hσ h (by decide)
   have h':T.drop n=46::([70,65,76,83,69,46]++R):=by rw [h]; rfl
   exact yr9 hT hσ h' rfl hk
 | .chr s,ok,hF,h =>
  have hF:FolV R:=hF
  have h':T.drop n=39::(zh0 s++39::R):=by rw [h]; simp [Tok.tx]
  haveI hk:=k_quoted (N:=N) (d:=d+3) (σ:=σ) hT hN hσ h' (hF.no (by decide))
  haveI e:n+(Tok.chr s).tx.length=n+1+(zh0 s).length+1:=by simp [Tok.tx]; exact j152
  rw [e]
  exact k8_q hT hσ h' rfl hk
 | .nam s,ok,hF,h =>
  haveI hF:FolV R:=hF
  obtain ⟨q1,q2,q3,q4⟩:=we2 s ok
  have hk:=k_nameL (N:=N) (d:=d+2) (σ:=σ) hT hN hσ h (fun c hc=>by simpa using List.all_eq_true.mp q1 c hc) (hF.no (by decide)) q2
  obtain ⟨x,r,rfl⟩:∃ x r,s=x::r:=by
   cases s with
   | nil=>simp at q3
   | cons x r=>exact ⟨x,r,rfl⟩
  exact k8_let (R:=r++R) hT hσ h (by simpa using q4) rfl hk
end
noncomputable def Lexb:List Lx→Prop
 | []=>True
 | x::r=>zx1 x.tok∧Fol x.tok (txs r)∧Lexb r
theorem zy3:∀ {xs:List Lx},Lexb xs→xs.length≤(txs xs).length
 | [],_=>Nat.le_refl _
 | x::r,h=>by
  haveI:=zy3 h.2.2
  haveI h1:1≤x.tx.length:=yr2 h.1
  simp only [txs,List.length_cons,List.length_append]; exact j153 h1 this
theorem wi4 {l:List PV} (hl:zd0 l=true):zh3 ([]:za7).length (.ret (.loc 0)) [l]=.ok (.list l,[]):=by
 haveI e:zp0 0 [l] (.loc 0)=some (.list l):=yz3 (Nat.le_refl _) rfl hl
 simp only [zh3,flP,List.length_nil,e]
 rfl
noncomputable def wa6:PSs:=(.cons (.asgT [3,2] (.call 8 (.cons (.var 0) (.cons (.var 2) .nil)))) (.cons (.exp (.me .append (.var 1) (.cons (.var 3) .nil))) .nil))
theorem wa3 {N d:Nat} {T:List Nat} (hT:T.length≤szL) (hN:T.length < N):∀ (xs:List Lx) (acc:List PV) (n k:Nat) (v3:Option PV),Lexb xs→T.drop n=txs xs→xs.length < k→zd0 acc=true→acc.length+xs.length≤szL →
  ∃ n' v3',zj9 (ev (zc5 N (d+5)) (.cmp .lt (.var 2) (.bi .len (.cons (.var 0) .nil)))).2 (exs (zc5 N (d+5)) N wa6) k [some (.str T),some (.loc 0),some (.int n),v3] [acc]=.ok (.next,[some (.str T),some (.loc 0),some n',v3'],[acc++(posd n xs).map tkPV])
 | [],acc,n,k,v3,_,hd,hk,ha,hl=>by
  obtain ⟨k,rfl⟩:=Nat.exists_eq_add_of_le' (show 1≤k by exact j84 hk)
  have:=wb4 (T:=T) (n:=n) hd
  refine ⟨.int n,v3,?_⟩
  rw [zr7 (σ':=[acc]) (by simp only [za3,zb1,zh9,zb7,za5,za2,za1,za0,za9,zb2,l_ms,tr_b,l_df,zf4,l_lt,zc4,zc3,zh6,zc0,zc1,zc2,zj5 hT,Nat.not_lt.mpr this])]
  simp [posd]
 | x::r,acc,n,k,v3,hx,hd,hk,ha,hl=>by
  obtain ⟨k,rfl⟩:=Nat.exists_eq_add_of_le' (show 1≤k by exact j84 hk)
  obtain ⟨h1,h2,h3⟩:=hx
  haveI hd':T.drop n=x.tok.tx++txs r:=hd
  haveI hpos:=yr2 h1
  haveI hlt:n < T.length:=by
   haveI:=congrArg List.length hd'
   simp only [List.length_drop,List.length_append] at this; exact j443 hpos this
  haveI hσ:([acc]:za7).all zd0=true:=by simp [ha]
  haveI hk8:=k_tok (N:=N) (d:=d) (σ:=[acc]) hT hN hσ h1 h2 hd'
  haveI hac:acc.length < szL:=by simp only [List.length_cons] at hl; exact j154 hl
  haveI hg:([acc]:za7)[0]?=some acc:=rfl
  haveI hs:([acc]:za7).set 0 (acc++[tkPV (x.tok,n)])=[acc++[tkPV (x.tok,n)]]:=rfl
  obtain ⟨n',v3',ih⟩:=wa3 hT hN r (acc++[tkPV (x.tok,n)]) (n+x.tok.tx.length) k (some (tkPV (x.tok,n))) h3 (zp5 hd') (by simp at hk; exact j128 hk) (by rw [yk1,ha]; simp [zz3,ya9,tk_nl]) (by simp only [List.length_cons,List.length_append,List.length_nil] at hl ⊢; exact j155 hl)
  refine ⟨n',v3',?_⟩
  rw [zm8 (env':=[some (.str T),some (.loc 0),some (.int ((n+x.tok.tx.length:Nat):Int)),some (tkPV (x.tok,n))]) (σ':=[acc]) (σ'':=[acc++[tkPV (x.tok,n)]]) (by simp only [za3,zb1,zh9,zb7,za5,za2,za1,za0,za9,zb2,l_ms,tr_b,l_dt,zf4,l_lt,zc4,zc3,zh6,zc0,zc1,zc2,zj5 hT,hlt]) (by
   unfold wa6
   simp only [za8,zb5,zf5,wb8,za3,zb3,yr4,za5,za2,za1,za0,za9,zb2,set0,sets,l_bs,l_it,l_sn,l_sc,zb4,ys8,yq4,zc1,zc2,zg9,zf6,zj0,wa9,ze3,hk8,rc_app,yz6 hg hac,hs]),ih]
  simp only [posd,List.map_cons,List.append_assoc,List.cons_append,List.nil_append,Lx.tx]
theorem k_lex {N d:Nat} {xs:List Lx} (hx:Lexb xs) (hT:(txs xs).length < szL) (hN:(txs xs).length < N):zc5 N (d+6) 9 [.str (txs xs)] []=.ok (tkL (posd 0 xs),[]):=by
 rw [zb6 (f:=c9) rfl,zb9 (env:=[some (.str (txs xs)),none,none,none]) rfl rfl]
 unfold c9
 haveI hl:=zy3 hx
 rw [za6 (env':=[some (.str (txs xs)),some (.loc 0),none,none]) (σ':=[[]]) (by simp only [zd4,zu5,za5,za1,set0,sets,zt6,zd6]; rfl)]
 rw [za6 (env':=[some (.str (txs xs)),some (.loc 0),some (.int 0),none]) (σ':=[[]]) (by simp only [zd4,za4,za1,set0,sets,zd6])]
 obtain ⟨n',v3',hw⟩:=wa3 (N:=N) (d:=d) (T:=txs xs) (by exact j156 hT) hN xs [] 0 N none hx rfl (by exact j129 hN hl) rfl (by simp; exact j157 hT hl)
 haveI hw:zj9 (ev (zc5 N (d+5)) (.cmp .lt (.var 2) (.bi .len (.cons (.var 0) .nil)))).2 (exs (zc5 N (d+5)) N wa6) N [some (.str (txs xs)),some (.loc 0),some (.int 0),none] [[]]=_:=hw
 unfold wa6 at hw
 rw [za6 (by rw [yb3]; exact hw)]
 rw [zc8 (v:=.loc 0) (env':=[some (.str (txs xs)),some (.loc 0),some n',v3']) (σ':=[[]++(posd 0 xs).map tkPV]) (by simp only [zc6,za3,za1,za0,za9,zb2,zc9])]
 rw [List.nil_append]
 exact wi4 (tks_nl _)
end Mine
namespace Mine
set_option tactic.hygienic false
set_option genSizeOfSpec false
set_option genSizeOf false
set_option genInjectivity false
noncomputable def isV:Lx→Bool
 | .lpA=>false
 | .t (.op _)=>false
 | .t _=>true
noncomputable def noStar (b:Lx):Prop:=∀ s,b.tok=.op s→s.head?≠some 42∧s.head?≠some 47
structure Adj (a b:Lx):Prop where
 v:isV a=true→isV b=false
 rp:a=.o tRP→isV b=false
 st:a=.o [42]∨a=.o [47]∨a=.o tLP→noStar b
 nr:a=.o [42]∨a=.o [47]∨a=.o tLP→b≠.o tRP
 la:b=.lpA→(∃ s,a=.t (.nam s))∨a=.o tRP
 lo:b=.o tLP→isV a=false
structure Adj' (a b:Lx):Prop where
 v:isV a=true→isV b=false
 st:a=.o [42]∨a=.o [47]→noStar b
noncomputable def ChF (R:Lx→Lx→Prop):Lx→List Lx→Prop
 | _,[]=>True
 | p,x::r=>R p x∧ChF R x r
noncomputable def zn8:Lx→List Lx→Lx
 | p,[]=>p
 | _,x::r=>zn8 x r
theorem yh8 {R:Lx→Lx→Prop} {p x:Lx} {r:List Lx}:ChF R p (x::r)=(R p x∧ChF R x r):=rfl
theorem zm7 {p x:Lx} {r:List Lx}:zn8 p (x::r)=zn8 x r:=rfl
theorem zm9 {R:Lx→Lx→Prop}:∀ (a b:List Lx) (p:Lx),ChF R p (a++b)↔ChF R p a∧ChF R (zn8 p a) b
 | [],b,p=>⟨fun h=>⟨trivial,h⟩,fun h=>h.2⟩
 | x::a,b,p=>by
  rw [List.cons_append,yh8,yh8,zm7,zm9 a b x,and_assoc]
theorem zj3:∀ (a b:List Lx) (p:Lx),zn8 p (a++b)=zn8 (zn8 p a) b
 | [],b,p=>rfl
 | x::a,b,p=>by rw [List.cons_append,zm7,zm7,zj3 a b x]
theorem yf4 {R S:Lx→Lx→Prop} (h:∀ a b,R a b→S a b):∀ (l:List Lx) (p:Lx),ChF R p l→ChF S p l
 | [],_,_=>trivial
 | x::r,p,q=>⟨h _ _ q.1,yf4 h r x q.2⟩
noncomputable def opn (p:Lx):Prop:=isV p=false∧p≠.o tRP
noncomputable def fin' (x:Lx):Prop:=isV x=true∨x=.o tRP
noncomputable def beg (b:Lx):Prop:=noStar b∧b≠.o tRP∧b≠.lpA
theorem yn5 {p b:Lx} (h:opn p) (hb:beg b):Adj p b where
 v q:=by rw [h.1] at q; cases q
 rp q:=absurd q h.2
 st _:=hb.1
 nr _:=hb.2.1
 la q:=absurd q hb.2.2
 lo _:=h.1
theorem zx4 {p b:Lx} (h:fin' p) (hv:isV b=false) (hl:b≠.o tLP) (hla:b=.lpA→(∃ s,p=.t (.nam s))∨p=.o tRP):Adj p b where
 v _:=hv
 rp _:=hv
 st q:=by
  exfalso
  rcases h with h | h
  ·rcases q with q | q | q <;> rw [q] at h <;> cases h
  ·subst h; rcases q with q | q | q <;> cases q
 nr q:=by
  exfalso
  rcases h with h | h
  ·rcases q with q | q | q <;> rw [q] at h <;> cases h
  ·subst h; rcases q with q | q | q <;> cases q
 la:=hla
 lo q:=absurd q hl
theorem beg_v {x:Lx} (h:isV x=true):beg x:=by
 refine ⟨fun s q=>?_,?_,?_⟩
 ·cases x with
  | lpA=>cases h
  | t k =>
   cases k with
   | op _=>cases h
   | _=>cases q
 ·rintro rfl; cases h
 ·rintro rfl; cases h
theorem beg_op {s:List Nat} (h1:s.head?≠some 42∧s.head?≠some 47) (h2:s≠tRP):beg (.o s) :=
 ⟨fun s' q=>by cases q; exact h1,fun q=>by cases q; exact h2 rfl,nofun⟩
theorem ye8 {s:List Nat} (h:s≠tRP):opn (.o s):=⟨rfl,fun q=>by cases q; exact h rfl⟩
theorem opn_la:opn .lpA:=⟨rfl,nofun⟩
noncomputable def PX (l:List Lx):Prop:=∀ p,opn p→ChF Adj p l∧fin' (zn8 p l)
theorem zw3 {x:Lx} (h:isV x=true):PX [x]:=fun p hp=>⟨⟨yn5 hp (beg_v h),trivial⟩,.inl h⟩
theorem yn3 {l:List Lx} (h:PX l) (b:Bool):PX (wrap b l):=by
 cases b with
 | false=>exact h
 | true =>
  intro p hp
  obtain ⟨h1,h2⟩:=h (.o tLP) (ye8 (by decide))
  show ChF Adj p (.o tLP::(l++[.o tRP]))∧fin' (zn8 p (.o tLP::(l++[.o tRP])))
  rw [ChF,zm7,zm9,zj3]
  exact ⟨⟨yn5 hp (beg_op (by decide) (by decide)),h1,zx4 h2 rfl (by simp) nofun,trivial⟩,.inr rfl⟩
theorem px_bin {l m:List Lx} {s:List Nat} (h:PX l) (g:PX m) (h1:s≠tRP) (h2:s≠tLP):PX (l++.o s::m):=by
 intro p hp
 obtain ⟨a1,a2⟩:=h p hp
 obtain ⟨b1,b2⟩:=g (.o s) (ye8 h1)
 rw [zm9,zj3,yh8,zm7]
 exact ⟨⟨a1,zx4 a2 rfl (fun q=>by cases q; exact h2 rfl) nofun,b1⟩,b2⟩
theorem px_un {m:List Lx} {s:List Nat} (g:PX m) (h1:s≠tRP) (hs:s.head?≠some 42∧s.head?≠some 47):PX (.o s::m):=by
 intro p hp
 obtain ⟨b1,b2⟩:=g (.o s) (ye8 h1)
 rw [ChF,zm7]
 exact ⟨⟨yn5 hp (beg_op hs h1),b1⟩,b2⟩
theorem px_num (a:Num):PX a.lx:=by
 cases a with
 | int i =>
  simp only [Num.lx]
  split
  ·exact px_un (zw3 rfl) (by decide) (by decide)
  ·exact zw3 rfl
 | real m e =>
  simp only [Num.lx]
  split
  ·exact px_un (zw3 rfl) (by decide) (by decide)
  ·exact zw3 rfl
theorem yz0:∀ s∈opsL,s≠tRP∧s≠tLP:=by decide
theorem adj_cl {p:Lx} (h:fin' p∨p=.lpA):Adj p (.o tCL):=by
 rcases h with h | rfl
 ·exact zx4 h rfl (by simp) nofun
 ·exact { v:=nofun,rp:=nofun,st:=fun _ s q=>(by cases q; decide),nr:=fun _=>by simp,la:=nofun,lo:=fun _=>rfl }
theorem adj_rp {p:Lx} (h:fin' p∨p=.lpA∨p=.o tCL):Adj p (.o tRP):=by
 rcases h with h | rfl | rfl
 ·exact zx4 h rfl (by simp) nofun
 ·exact { v:=nofun,rp:=nofun,st:=fun _ s q=>(by cases q; decide),nr:=fun q=>by (rcases q with q | q | q <;> cases q),la:=nofun,lo:=fun _=>rfl }
 ·exact { v:=nofun,rp:=fun _=>rfl,st:=fun q=>by (rcases q with q | q | q <;> cases q),nr:=fun q=>by (rcases q with q | q | q <;> cases q),la:=nofun,lo:=fun _=>rfl }
theorem wi2 {p:Lx} {b:Tr} (h:wk1 b):(∃ s,zn8 p (lx b)=.t (.nam s))∨zn8 p (lx b)=.o tRP:=by
 cases b with
 | nam s=>exact .inl ⟨s,rfl⟩
 | ref s as =>
  rw [zp7,zm7,zm7,zj3]
  exact .inr rfl
 | _=>exact h.elim
theorem px:∀ t:Tr,Ok t→PX (lx t):=by
 refine @Tr.rec (fun z=>Ok z→PX (lx z)) (fun z=>OkO z→∀ p,opn p→ChF Adj p (lxO z)∧(fin' (zn8 p (lxO z))∨zn8 p (lxO z)=p)) (fun z=>(Oks z→ChF Adj .lpA (row z)∧(fin' (zn8 .lpA (row z))∨zn8 .lpA (row z)=.lpA))∧(Oks z→∀ p,fin' p→ChF Adj p (rowT z)∧fin' (zn8 p (rowT z)))) ?_ ?_ ?_ ?_ ?_ ?_ ?_ ?_ ?_ ?_ ?_ ?_ ?_ ?_ ?_
 ·intro op l r i1 i2
  intro h
  rw [zt1]
  exact px_bin (yn3 (i1 h.2.1) _) (yn3 (i2 h.2.2) _) (yz0 op h.1).1 (yz0 op h.1).2
 ·intro op a i1
  intro h
  rw [yc1]
  exact px_un (yn3 (i1 h.2) _) (by rcases h.1 with rfl | rfl | rfl <;> decide) (by rcases h.1 with rfl | rfl | rfl <;> decide)
 ·intro s
  intro _
  exact zw3 rfl
 ·intro s as i1
  intro h
  intro p hp
  rw [zp7,yh8,yh8,zm7,zm7,zm9,zj3]
  have hl:Adj (.t (.nam s)) .lpA:=zx4 (.inl rfl) rfl nofun fun _=>.inl ⟨s,rfl⟩
  obtain ⟨h1,h2⟩:=i1.1 h.2
  exact ⟨⟨yn5 hp (beg_v rfl),hl,h1,adj_rp (h2.imp id .inl),trivial⟩,.inr rfl⟩
 ·intro b lo hi i1 i2 i3
  intro h
  intro p hp
  obtain ⟨b1,b2⟩:=i1 h.2.1 p hp
  haveI b3:=wi2 (p:=p) h.1
  obtain ⟨c1,c2⟩:=i2 h.2.2.1 .lpA opn_la
  obtain ⟨d1,d2⟩:=i3 h.2.2.2 (.o tCL) (ye8 (by decide))
  rw [zt3,zm9,zj3,yh8,zm7,zm9,zj3,yh8,zm7,zm9,zj3]
  exact ⟨⟨b1,zx4 b2 rfl nofun fun _=>b3,c1,adj_cl c2,d1,adj_rp (d2.imp id .inr),trivial⟩,.inr rfl⟩
 ·intro x0
  intro _
  exact zw3 rfl
 ·intro x0 x1
  intro _
  exact zw3 rfl
 ·intro x0 x1
  intro _
  exact zw3 rfl
 ·intro x0
  intro _
  exact zw3 rfl
 ·intro x0
  intro _
  exact zw3 rfl
 ·intro a b
  intro _
  haveI:=yn3 (px_bin (s:=tCM) (px_num a) (px_num b) (by decide) (by decide)) true
  have e:lx (.cplx a b)=wrap true (a.lx++.o tCM::b.lx):=by
   rw [zp3]; show _=.o tLP::((a.lx++.o tCM::b.lx)++[.o tRP]); simp
  rw [e]
  exact this
 ·intro _ p _
  exact ⟨trivial,.inr rfl⟩
 ·intro t i1
  intro h p hp
  rw [yx6]
  obtain ⟨h1,h2⟩:=i1 h p hp
  exact ⟨h1,.inl h2⟩
 ·refine ⟨?_,?_⟩
  ·intro _
   exact ⟨trivial,.inr rfl⟩
  ·intro _ p hp
   exact ⟨trivial,hp⟩
 ·intro t r i1 i2
  refine ⟨?_,?_⟩
  ·intro h
   obtain ⟨h1,h2⟩:=i1 h.1 .lpA opn_la
   obtain ⟨h3,h4⟩:=i2.2 h.2 (zn8 .lpA (lx t)) h2
   rw [yc7,zm9,zj3]
   exact ⟨⟨h1,h3⟩,.inl h4⟩
  ·intro h p hp
   obtain ⟨h1,h2⟩:=i1 h.1 (.o tCM) (ye8 (by decide))
   obtain ⟨h3,h4⟩:=i2.2 h.2 (zn8 (.o tCM) (lx t)) h2
   rw [zu2,yh8,zm7,zm9,zj3]
   exact ⟨⟨zx4 hp rfl (by simp) nofun,h1,h3⟩,h4⟩
noncomputable def AllOk (l:List Lx):Prop:=∀ x∈l,zx1 x.tok
theorem AllOk.app {a b:List Lx} (h:AllOk a) (g:AllOk b):AllOk (a++b):=fun x hx=>(List.mem_append.mp hx).elim (h x) (g x)
theorem AllOk.cons {x:Lx} {b:List Lx} (h:zx1 x.tok) (g:AllOk b):AllOk (x::b):=fun y hy=>(List.mem_cons.mp hy).elim (fun q=>q ▸ h) (g y)
theorem AllOk.nil:AllOk []:=fun x hx=>nomatch hx
theorem AllOk.one {x:Lx} (h:zx1 x.tok):AllOk [x]:=AllOk.cons h AllOk.nil
theorem zu4 {s:List Nat} (h:s∈zz0):zx1 (Lx.o s).tok:=.inl h
theorem ok_ops:∀ s∈opsL,s∈zz0∨s∈dotL:=by decide
theorem yv5 {l:List Lx} (h:AllOk l) (b:Bool):AllOk (wrap b l):=by
 cases b with
 | false=>exact h
 | true=>exact AllOk.cons (x:=.o tLP) (zu4 (by decide)) (h.app (AllOk.one (zu4 (by decide))))
theorem ok_num {a:Num} (h:yp3 a):AllOk a.lx:=by
 cases a with
 | int i =>
  have h:i.natAbs < 30:=h
  have h':zx1 (Lx.t (.int i.natAbs)).tok:=(by show i.natAbs < 10 ^ 12; lia)
  simp only [Num.lx]
  split
  ·exact AllOk.cons (zu4 (by decide)) (AllOk.one h')
  ·exact AllOk.one h'
 | real m e =>
  have h':zx1 (Lx.t (.real m.natAbs e)).tok:=h
  simp only [Num.lx]
  split
  ·exact AllOk.cons (zu4 (by decide)) (AllOk.one h')
  ·exact AllOk.one h'
theorem ok_lx:∀ t:Tr,Ok t→AllOk (lx t):=by
 refine @Tr.rec (fun z=>Ok z→AllOk (lx z)) (fun z=>OkO z→AllOk (lxO z)) (fun z=>(Oks z→AllOk (row z))∧(Oks z→AllOk (rowT z))) ?_ ?_ ?_ ?_ ?_ ?_ ?_ ?_ ?_ ?_ ?_ ?_ ?_ ?_ ?_
 ·intro op l r i1 i2
  intro h
  rw [zt1]
  exact (yv5 (i1 h.2.1) _).app (AllOk.cons (ok_ops op h.1) (yv5 (i2 h.2.2) _))
 ·intro op a i1
  intro h
  rw [yc1]
  exact AllOk.cons (by rcases h.1 with rfl | rfl | rfl; exact .inr (by decide); exact .inl (by decide); exact .inl (by decide)) (yv5 (i1 h.2) _)
 ·intro s
  intro h
  exact AllOk.one h
 ·intro s as i1
  intro h
  rw [zp7]
  exact AllOk.cons h.1 (AllOk.cons (x:=.lpA) (.inl (by decide)) ((i1.1 h.2).app (AllOk.one (zu4 (by decide)))))
 ·intro b lo hi i1 i2 i3
  intro h
  rw [zt3]
  exact (i1 h.2.1).app (AllOk.cons (x:=.lpA) (.inl (by decide)) ((i2 h.2.2.1).app (AllOk.cons (zu4 (by decide)) ((i3 h.2.2.2).app (AllOk.one (zu4 (by decide)))))))
 ·intro i
  intro h
  replace h:0≤i∧i < 1000000000000:=h
  exact AllOk.one (by show i.toNat < 10 ^ 12; lia)
 ·intro m e
  intro h
  exact AllOk.one h.2
 ·intro m e
  intro h
  exact AllOk.one h.2
 ·intro x0
  intro _
  exact AllOk.one trivial
 ·intro s
  intro h
  exact AllOk.one h
 ·intro a b
  intro h
  rw [zp3]
  exact AllOk.cons (x:=.o tLP) (zu4 (by decide)) ((ok_num h.1).app (AllOk.cons (x:=.o tCM) (zu4 (by decide)) ((ok_num h.2).app (AllOk.one (zu4 (by decide))))))
 ·intro _
  exact AllOk.nil
 ·intro t i1
  intro h
  rw [yx6]; exact i1 h
 ·refine ⟨?_,?_⟩
  ·intro _
   exact AllOk.nil
  ·intro _
   exact AllOk.nil
 ·intro t r i1 i2
  refine ⟨?_,?_⟩
  ·intro h
   rw [yc7]
   exact (i1 h.1).app (i2.2 h.2)
  ·intro h
   rw [zu2]
   exact AllOk.cons (x:=.o tCM) (zu4 (by decide)) ((i1 h.1).app (i2.2 h.2))
noncomputable def yv1 (c:Nat):Prop:=(48≤c∧c≤57)∨c=46∨c=45∨c=68∨c=69
theorem ya0 (e:Int):∀ c∈intText e,yv1 c:=by
 intro c hc
 rw [(zr9 e).1] at hc
 rcases List.mem_append.mp hc with q | q
 ·unfold sgn at q
  split at q
  ·rw [List.mem_singleton.mp q]; exact .inr (.inr (.inl rfl))
  ·cases q
 ·exact .inl (yj1 _ c q)
theorem yf2 {m:Nat} {e:Int} {k:Nat} (hk:k=69∨k=68):∀ c∈zf9 m e k,yv1 c:=by
 intro c hc
 have hp:yv1 46:=.inr (.inl rfl)
 have hk':yv1 k:=by rcases hk with rfl | rfl; exact .inr (.inr (.inr (.inr rfl))); exact .inr (.inr (.inr (.inl rfl)))
 have hi:∀ c∈intText (m:Int),yv1 c:=ya0 m
 unfold zf9 at hc
 split at hc
 ·simp only [List.mem_append,List.mem_singleton] at hc
  refine big fun Gz hGz=>?_
  rcases hc with ((q | q) | q) | q <;> refine hGz ?_
  ·exact hi c q
  ·rw [q]; exact hp
  ·rw [q]; exact hk'
  ·exact ya0 e c q
 ·split at hc
  ·simp only [List.mem_append,List.mem_singleton] at hc
   rcases hc with q | q
   ·exact hi c q
   ·rw [q]; exact hp
  ·split at hc
   ·simp only [List.mem_append,List.mem_singleton] at hc
    rcases hc with (q | q) | q
    ·rw [q]; exact hp
    ·exact .inl (DG.zeros _ c q)
    ·exact hi c q
   ·simp only [List.mem_append,List.mem_singleton] at hc
    rcases hc with (q | q) | q
    ·exact hi c (List.mem_of_mem_take q)
    ·rw [q]; exact hp
    ·exact hi c (List.mem_of_mem_drop q)
theorem dot_ch:∀ w∈dotL++truL,(w.all fun c=>decide (c=46∨(65≤c∧c≤90)))=true:=by decide
theorem nam_ch:∀ s∈nameL,(s.all fun c=>decide ((65≤c∧c≤90)∨(48≤c∧c≤57)))=true:=by decide
theorem val_ch {x:Tok} (ok:zx1 x) (hv:isV (.t x)=true) (hq:∀ s,x≠.chr s):∀ c∈x.tx,(48≤c∧c≤57)∨(65≤c∧c≤90)∨c=46∨c=45:=by
 haveI hn:∀ c,yv1 c→(48≤c∧c≤57)∨(65≤c∧c≤90)∨c=46∨c=45:=fun c h=>by unfold yv1 at h; exact j444 h
 cases x with
 | op _=>exact nb hv
 | int v=>exact fun c hc=>hn c (ya0 _ c hc)
 | real m e=>exact fun c hc=>hn c (yf2 (.inl rfl) c hc)
 | dble m e=>exact fun c hc=>hn c (yf2 (.inr rfl) c hc)
 | log b =>
  intro c hc
  cases b with
  | true =>
   have:=List.all_eq_true.mp (dot_ch [46,84,82,85,69,46] (by decide)) c hc
   have:=of_decide_eq_true this
   exact j158 this
  | false =>
   have:=List.all_eq_true.mp (dot_ch [46,70,65,76,83,69,46] (by decide)) c hc
   have:=of_decide_eq_true this
   exact j158 this
 | chr s=>exact absurd rfl (hq s)
 | nam s =>
  intro c hc
  haveI:=List.all_eq_true.mp (nam_ch s ok) c hc
  haveI:=of_decide_eq_true this
  exact j445 this
theorem val_head {x:Tok} (ok:zx1 x) (hv:isV (.t x)=true) {R r:List Nat} {c:Nat} (h:x.tx++R=c::r):c≠42∧c≠47:=by
 have hm:c∈x.tx:=by
  have:=yr2 ok
  cases q:x.tx with
  | nil=>rw [q] at this; simp at this
  | cons a b=>rw [q] at h; cases h; exact .head _
 by_cases hq:∃ s,x=.chr s
 ·obtain ⟨s,rfl⟩:=hq
  haveI h:39::(zh0 s++[39]++R)=c::r:=h
  cases h
  decide
 ·have:=val_ch ok hv (fun s q=>hq ⟨s,q⟩) c hm
  exact j446 this
theorem fol_nil (x:Tok):Fol x []:=by
 haveI hn:∀ S,zj8 S []:=fun S c r q=>by cases q
 cases x with
 | op _=>exact ⟨fun _=>hn _,fun _=>hn _⟩
 | _=>exact .inl rfl
theorem wc3 {s R:List Nat} (hs:s∈zz0∨s∈dotL):FolV (s++R):=by
 rcases hs with hs | hs
 ·right; left
  simp only [zz0,List.mem_cons,List.not_mem_nil,or_false] at hs
  rcases hs with rfl | rfl | rfl | rfl | rfl | rfl | rfl | rfl | rfl | rfl <;> exact ⟨_,_,rfl,by decide⟩
 ·exact .inr (.inr ⟨s,_,rfl,hs⟩)
theorem folV_of {y:Lx} {R:List Nat} (hy:isV y=false) (oky:zx1 y.tok):FolV (y.tx++R):=by
 cases y with
 | lpA=>exact wc3 (s:=tLP) (.inl (by decide))
 | t k =>
  cases k with
  | op s=>exact wc3 (s:=s) oky
  | _=>exact nb hy.symm
theorem head_no {y:Lx} {R q:List Nat} {c:Nat} (hn:noStar y) (oky:zx1 y.tok) (e:y.tx++R=c::q):c≠42∧c≠47:=by
 cases y with
 | lpA=>cases e; decide
 | t k =>
  cases k with
  | op s =>
   have hs:=hn s rfl
   haveI e:s++R=c::q:=e
   have h1:1≤s.length:=yr2 (x:=.op s) oky
   cases s with
   | nil=>cases h1
   | cons a b =>
    cases e
    simpa using hs
  | _=>exact val_head oky rfl e
theorem fol_of {x:Lx} {R:List Nat} (hval:isV x=true→FolV R) (hst:x=.o [42]∨x=.o [47]→∀ c q,R=c::q→c≠42∧c≠47):Fol x.tok R:=by
 cases x with
 | lpA=>exact ⟨fun q=>(by cases q),fun q=>(by cases q)⟩
 | t k =>
  cases k with
  | op s =>
   refine ⟨fun q=>?_,fun q=>?_⟩
   ·subst q
    intro c r' e
    have:=(hst (.inl rfl) c r' e).1
    simp [this]
   ·subst q
    intro c r' e
    have:=(hst (.inr rfl) c r' e).2
    simp [this]
  | _=>exact hval rfl
theorem wg6 (l:List Lx):∀ (p:Lx),ChF Adj' p l→AllOk l→Lexb l:=by
 induction l with
 | nil=>exact fun _ _ _=>trivial
 | cons x l ih =>
  intro p h ok
  refine ⟨ok x (.head _),?_,ih x h.2 fun z hz=>ok z (.tail _ hz)⟩
  cases l with
  | nil=>exact fol_nil _
  | cons y r =>
   have hA:=h.2.1
   have oky:=ok y (.tail _ (.head _))
   exact fol_of (fun hv=>folV_of (hA.v hv) oky) fun hx c q e=>head_no (hA.st hx) oky e
theorem Adj.w {a b:Lx} (h:Adj a b):Adj' a b:=⟨h.v,fun q=>h.st (q.elim .inl fun q=>.inr (.inl q))⟩
theorem lexb_lx {t:Tr} (h:Ok t):Lexb (lx t) :=
 wg6 _ (.o tLP) (yf4 (fun _ _ q=>q.w) _ _ (px t h (.o tLP) (ye8 (by decide))).1) (ok_lx t h)
theorem wf1 {A B C:List Lx} (h:ChF Adj (.o tLP) (A++.o tLP::(B++.o tRP::C))) (ok:AllOk (A++.o tLP::(B++.o tRP::C))):Lexb (A++(B++C)):=by
 rw [zm9,yh8,zm9,yh8] at h
 obtain ⟨h1,h2,h3,h4,h5⟩:=h
 haveI w:∀ a b,Adj a b→Adj' a b:=fun _ _ q=>q.w
 refine wg6 _ (.o tLP) ?_ ?_
 ·rw [zm9,zm9]
  refine ⟨yf4 w _ _ h1,?_⟩
  cases B with
  | nil=>exact absurd rfl (h4.nr (.inr (.inr rfl)))
  | cons b B =>
   refine ⟨⟨⟨fun q=>?_,fun q=>h3.1.st (.inr (.inr rfl))⟩,yf4 w _ _ h3.2⟩,?_⟩
   ·rw [h2.lo rfl] at q; cases q
   ·rw [zn8]
    rw [zn8] at h4
    cases C with
    | nil=>trivial
    | cons c C =>
     exact ⟨⟨fun q=>h5.1.rp rfl,fun q=>absurd rfl (h4.nr (q.elim .inl fun q=>.inr (.inl q)))⟩,yf4 w _ _ h5.2⟩
 ·intro x hx
  refine ok x ?_
  simp only [List.mem_append,List.mem_cons] at hx ⊢
  rcases hx with q | q | q
  ·exact .inl q
  ·exact .inr (.inr (.inl q))
  ·exact .inr (.inr (.inr (.inr q)))
end Mine
namespace Mine
set_option tactic.hygienic false
noncomputable def zs7:PSs:=(.cons (.iff (.cmp .eq (.idx (.var 0) (.var 4)) (.cst (.str [39]))) (.cons (.asg 3 (.not (.var 3))) .nil) (.cons (.iff (.var 3) (.cons .cont .nil) (.cons (.iff (.cmp .eq (.idx (.var 0) (.var 4)) (.cst (.str [40]))) (.cons (.exp (.me .append (.var 2) (.cons (.lst (.cons (.var 4) (.cons (.bool false (.cons (.cmp .eq (.var 4) (.cst (.int 0))) (.cons (.not (.bool false (.cons (.me .isalnum (.idx (.var 0) (.bin .sub (.var 4) (.cst (.int 1)))) .nil) (.cons (.cmp .eq (.idx (.var 0) (.bin .sub (.var 4) (.cst (.int 1)))) (.cst (.str [41]))) .nil)))) .nil))) .nil))) .nil))) .nil) (.cons (.iff (.bool true (.cons (.cmp .eq (.idx (.var 0) (.var 4)) (.cst (.str [44]))) (.cons (.var 2) .nil))) (.cons (.put (.idx (.var 2) (.neg (.cst (.int 1)))) (.cst (.int 1)) (.cst (.bool false))) .nil) (.cons (.iff (.cmp .eq (.idx (.var 0) (.var 4)) (.cst (.str [41]))) (.cons (.asgT [5,6] (.me .pop (.var 2) .nil)) (.cons (.iff (.var 6) (.cons (.exp (.me .append (.var 1) (.cons (.tup (.cons (.var 5) (.cons (.var 4) .nil))) .nil))) .nil) .nil) .nil)) .nil) .nil)) .nil)) .nil)) .nil)) .nil)
noncomputable def yw2:PE:=(.bool false (.cons (.cmp .eq (.var 4) (.cst (.int 0))) (.cons (.not (.bool false (.cons (.me .isalnum (.idx (.var 0) (.bin .sub (.var 4) (.cst (.int 1)))) .nil) (.cons (.cmp .eq (.idx (.var 0) (.bin .sub (.var 4) (.cst (.int 1)))) (.cst (.str [41]))) .nil)))) .nil)))
theorem yd4 {k:Nat} {B:EX} {b:Nat}:∀ {a:Nat} {i:Int} {env env':Env'} {σ σ':za7},forN k B a i env σ=.ok (.next,env',σ')→forN k B (a+b) i env σ=forN k B b (i+a) env' σ'
 | 0,i,env,env',σ,σ',h=>by
  cases h
  simp
 | a+1,i,env,env',σ,σ',h=>by
  rw [show a+1+b=(a+b)+1 by exact j159]
  rw [yj4] at h
  rw [yj4]
  cases hB:B (env.set k (some (.int i))) σ with
  | exc=>rw [hB] at h; cases h
  | stuck=>rw [hB] at h; cases h
  | ok q =>
   rw [hB] at h
   rw [za1] at h ⊢
   obtain ⟨f,e1,s1⟩:=q
   cases f with
   | ret v=>cases h
   | next =>
    dsimp only at h ⊢
    rw [yd4 h,show i+1+(a:Int)=i+((a+1:Nat):Int) by exact j160]
   | cont =>
    dsimp only at h ⊢
    rw [yd4 h,show i+1+(a:Int)=i+((a+1:Nat):Int) by exact j160]
noncomputable def envP (T:List Nat) (b:Bool) (v4 v5 v6:Option PV):Env':=[some (.str T),some (.loc 0),some (.loc 1),some (.bool b),v4,v5,v6]
section
variable {C:Nat→List PV→za7→Out (PV × za7)} {N:Nat} {T R:List Nat} {n c:Nat} {σ:za7} {v4 v5 v6:Option PV}
theorem p_plain (hT:T.length≤szL) (h:T.drop n=c::R) (h1:c≠39) (h2:c≠40) (h3:c≠41) (h4:c≠44):exs C N zs7 ((envP T false v4 v5 v6).set 4 (some (.int n))) σ=.ok (.next,envP T false (some (.int n)) v5 v6,σ):=by
 unfold zs7 envP
 haveI e1:(([c]:List Nat)=[39])=False:=by simp [h1]
 haveI e2:(([c]:List Nat)=[40])=False:=by simp [h2]
 haveI e3:(([c]:List Nat)=[41])=False:=by simp [h3]
 haveI e4:(([c]:List Nat)=[44])=False:=by simp [h4]
 simp only [za8,zb5,zb0,za3,za4,zb1,zd1,zp2,zb7,ze0,zd3,za1,za0,za9,zb2,set0,sets,l_ms,tr_b,bt2,l_df,l_nt,zc7,zc4,zc3,ze4,ze5,zc0,kA_e,zd8,ze3,zg8 h hT,e1,e2,e3,e4]
theorem yn2 (hT:T.length≤szL) (h:T.drop n=39::R) (b:Bool):exs C N zs7 ((envP T b v4 v5 v6).set 4 (some (.int n))) σ=.ok (.next,envP T (!b) (some (.int n)) v5 v6,σ):=by
 unfold zs7 envP
 simp only [za8,zb5,zd4,zb0,za3,za4,wg7,zb1,zd1,zb7,za1,za0,za9,zb2,set0,sets,l_ms,tr_b,l_dt,zc7,kNot_e,yu5,zc4,zc3,ze4,ze5,zc0,zd6,ze2,ze3,zg8 h hT]
theorem p_in (hT:T.length≤szL) (h:T.drop n=c::R) (h1:c≠39):exs C N zs7 ((envP T true v4 v5 v6).set 4 (some (.int n))) σ=.ok (.cont,envP T true (some (.int n)) v5 v6,σ):=by
 unfold zs7 envP
 haveI e1:(([c]:List Nat)=[39])=False:=by simp [h1]
 simp only [za8,zb0,ex_cont,za3,za4,zb1,zd1,zp2,zb7,za1,za0,za9,zb2,set0,sets,l_ms,tr_b,l_df,zc7,zc4,zc3,ze4,ze5,zc0,ze2,zd8,kSeq_c,zg8 h hT,e1]
theorem zy9 {k:Nat} {B:EX} {i:Int} {env env':Env'} {σ σ':za7} (h:B (env.set k (some (.int i))) σ=.ok (.next,env',σ')):forN k B 1 i env σ=.ok (.next,env',σ'):=by
 rw [zj1 h]; rfl
theorem wh1 (hT:T.length≤szL):∀ (l:List Nat) (n:Nat) (v4:Option PV),T.drop n=l++R→(∀ c∈l,c≠39∧c≠40∧c≠41∧c≠44)→∃ w4,forN 4 (exs C N zs7) l.length n (envP T false v4 v5 v6) σ=.ok (.next,envP T false w4 v5 v6,σ)
 | [],n,v4,_,_=>⟨v4,rfl⟩
 | c::l,n,v4,h,hc=>by
  obtain ⟨h1,h2,h3,h4⟩:=hc c (.head _)
  obtain ⟨w4,ih⟩:=wh1 hT l (n+1) (some (.int n)) (zh5 h) fun x hx=>hc x (.tail _ hx)
  refine ⟨w4,?_⟩
  rw [List.length_cons,zj1 (p_plain hT h h1 h2 h3 h4),ci1,ih]
theorem yp8 (hT:T.length≤szL):∀ (s:List Nat) (n:Nat) (v4:Option PV),T.drop n=zh0 s++R→∃ w4,forN 4 (exs C N zs7) (zh0 s).length n (envP T true v4 v5 v6) σ=.ok (.next,envP T true w4 v5 v6,σ)
 | [],n,v4,_=>⟨v4,rfl⟩
 | c::s,n,v4,h=>by
  by_cases hc:c=39
  ·subst hc
   rw [show zh0 (39::s)=39::39::zh0 s by rw [zh0,if_pos rfl]] at h ⊢
   haveI h1:=zh5 h
   obtain ⟨w4,ih⟩:=yp8 hT s (n+1+1) (some (.int ((n+1:Nat):Int))) (zh5 h1)
   refine ⟨w4,?_⟩
   rw [List.length_cons,List.length_cons,zj1 (yn2 hT h true),ci1,zj1 (yn2 hT h1 (!true)),ci1]
   exact ih
  ·rw [show zh0 (c::s)=c::zh0 s by rw [zh0,if_neg hc]] at h ⊢
   obtain ⟨w4,ih⟩:=yp8 hT s (n+1) (some (.int n)) (zh5 h)
   refine ⟨w4,?_⟩
   rw [List.length_cons,forN_cont (p_in hT h hc),ci1,ih]
theorem r_chr (hT:T.length≤szL) {s:List Nat} (h:T.drop n=(Tok.chr s).tx++R):∃ w4,forN 4 (exs C N zs7) (Tok.chr s).tx.length n (envP T false v4 v5 v6) σ=.ok (.next,envP T false w4 v5 v6,σ):=by
 have h0:T.drop n=39::(zh0 s++(39::R)):=by rw [h]; simp [Tok.tx]
 have h1:=zh5 h0
 haveI h2:T.drop (n+1+(zh0 s).length)=39::R:=zp5 h1
 obtain ⟨w4,e1⟩:=yp8 (C:=C) (N:=N) (σ:=σ) (v5:=v5) (v6:=v6) hT s (n+1) (some (.int n)) h1
 refine ⟨some (.int ((n+1+(zh0 s).length:Nat):Int)),?_⟩
 ·rw [show (Tok.chr s).tx.length=((zh0 s).length+1)+1 by simp [Tok.tx],zj1 (yn2 hT h0 false),ci1]
  rw [show (!false)=true from rfl,yd4 e1]
  exact zy9 (by
   haveI:=yn2 (C:=C) (N:=N) (σ:=σ) (v4:=w4) (v5:=v5) (v6:=v6) hT h2 true
   exact this)
theorem cs1 (m:Nat):((m+1:Nat):Int) - 1=(m:Int):=by exact Int.sub_eq_iff_eq_add.mpr rfl
theorem fl_zero {env:Env'} (h:env.getD 4 none=some (.int 0)):(ev C yw2).1 env σ=.ok (.bool true,σ):=by
 unfold yw2
 simp only [zk2,zk0,zb1,za3,za4,h,za3,za4,zk2,zb1,zk0,za1,za0,l_ms,tr_b,bt3,l_dt,ze6,zc4,zc3,yg2,ye2]
noncomputable def yx8 (c:Nat):Bool:=(48≤c && c≤57) || (65≤c && c≤90) || (97≤c && c≤122)
theorem fl_succ {b:Bool} (hT:T.length≤szL) (h:T.drop n=c::R) (hc:c < 128):(ev C yw2).1 (envP T b (some (.int ((n+1:Nat):Int))) v5 v6) σ=.ok (.bool (!(yx8 c || decide (c=41))),σ):=by
 unfold yw2 envP
 haveI e0:(((n+1:Nat):Int)=0)=False:=by simp only [eq_iff_iff,iff_false]; lia
 haveI e1:meP .isalnum (.str [c]) [] σ=.ok (.bool (yx8 c),σ):=if_pos hc
 haveI e2:(([c]:List Nat)=[41])=(c=41):=by simp
 cases ha:yx8 c with
 | true=>simp only [za3,za4,zd7,wg7,zk2,zb1,yr4,zd1,za5,ya4,zk0,za1,za0,za9,zb2,l_ms,tr_b,bt3,bt4,l_df,l_nt,ze6,zg6,zf2,zf1,kNot_e,yu5,zc4,zc3,ys8,yq4,ze4,ze5,yg2,ye2,e0,cs1,zg8 h hT,rc_aln,e1,ha,Bool.true_or]
 | false=>simp only [za3,za4,zd7,wg7,zk2,zb1,yr4,zd1,za5,ya4,zk0,za1,za0,za9,zb2,l_ms,tr_b,bt4,l_df,zc7,ze6,zg6,zf2,zf1,kNot_e,yu5,zc4,zc3,ys8,yq4,ze4,ze5,yg2,ye2,e0,cs1,zg8 h hT,rc_aln,e1,ha,e2,Bool.false_or]
end
end Mine
namespace Mine
set_option tactic.hygienic false
set_option genSizeOfSpec false
set_option genSizeOf false
set_option genInjectivity false
noncomputable def PrOk (P:List Lx) (p:Nat × Nat):Prop:=∃ A B C,P=A++.o tLP::(B++.o tRP::C)∧p.1=(txs A).length∧p.2=(txs (A++.o tLP::B)).length
noncomputable def OpOk (P:List Lx) (pos:Nat) (fl:Bool):Prop:=∃ A x B,P=A++x::B∧x.tok=.op tLP∧pos=(txs A).length∧(fl=true→x=.o tLP)
theorem PrOk.app {P:List Lx} {p:Nat × Nat} (h:PrOk P p) (Q:List Lx):PrOk (P++Q) p:=by
 obtain ⟨A,B,C,rfl,h2,h3⟩:=h
 exact ⟨A,B,C++Q,by simp,h2,h3⟩
theorem OpOk.app {P:List Lx} {pos:Nat} {fl:Bool} (h:OpOk P pos fl) (Q:List Lx):OpOk (P++Q) pos fl:=by
 obtain ⟨A,x,B,rfl,h2,h3,h4⟩:=h
 exact ⟨A,x,B++Q,by simp,h2,h3,h4⟩
structure Sto (P:List Lx) (dp:Nat) (prs:List (Nat × Nat)) (ks:List Nat) (ents:za7):Prop where
 hprs:∀ p∈prs,PrOk P p
 hks:∀ k∈ks,∃ pos fl,ents[k]?=some [.int (pos:Nat),.bool fl]∧OpOk P pos fl
 hdp:ks.length=dp
 hsz:prs.length+ks.length≤P.length
noncomputable def stoP (prs:List (Nat × Nat)) (ks:List Nat) (ents:za7):za7:=zm2 prs::ks.map (fun k=>PV.loc (k+2))::ents
theorem Sto.app {P:List Lx} {dp:Nat} {prs:List (Nat × Nat)} {ks:List Nat} {ents:za7} (h:Sto P dp prs ks ents) (Q:List Lx):Sto (P++Q) dp prs ks ents where
 hprs p hp:=(h.hprs p hp).app Q
 hks k hk:=by
  obtain ⟨pos,fl,h1,h2⟩:=h.hks k hk
  exact ⟨pos,fl,h1,h2.app Q⟩
 hdp:=h.hdp
 hsz:=by have:=h.hsz; rw [List.length_append]; exact j161 this
section
variable {C:Nat→List PV→za7→Out (PV × za7)} {N:Nat} {T R:List Nat} {n c:Nat} {σ:za7} {v4 v5 v6:Option PV} {prs:List (Nat × Nat)} {ks:List Nat} {ents:za7}
theorem sto1:(stoP prs ks ents)[1]?=some (ks.map fun k=>PV.loc (k+2)):=rfl
theorem sto0:(stoP prs ks ents)[0]?=some (zm2 prs):=rfl
theorem yy7 {l:List Nat}:(stoP prs ks ents).set 1 (l.map fun k=>PV.loc (k+2))=stoP prs l ents:=rfl
theorem sto_set0 {l:List (Nat × Nat)}:(stoP prs ks ents).set 0 (zm2 l)=stoP l ks ents:=rfl
theorem sto_len:(stoP prs ks ents).length=ents.length+2:=rfl
theorem sto_app {l:List PV}:stoP prs ks ents++[l]=stoP prs ks (ents++[l]):=rfl
theorem iff_t {t:PE} {a b:PSs} {env:Env'} {σ':za7} (h:(ev C t).2 env σ=.ok (true,σ')):ex C N (.iff t a b) env σ=exs C N a env σ':=by
 rw [zb0,h]; rfl
theorem iff_f {t:PE} {a b:PSs} {env:Env'} {σ':za7} (h:(ev C t).2 env σ=.ok (false,σ')):ex C N (.iff t a b) env σ=exs C N b env σ':=by
 rw [zb0,h]; rfl
theorem zj6 {s:PS} {env env':Env'} {σ':za7} (h:ex C N s env σ=.ok (.next,env',σ')):exs C N (.cons s .nil) env σ=.ok (.next,env',σ'):=by
 rw [za6 h,zb5]
theorem p_lp {fl:Bool} (hT:T.length≤szL) (h:T.drop n=40::R) (hf:(ev C yw2).1 (envP T false (some (.int n)) v5 v6) (stoP prs ks ents)=.ok (.bool fl,stoP prs ks ents)) (hk:ks.length < szL) :
  exs C N zs7 ((envP T false v4 v5 v6).set 4 (some (.int n))) (stoP prs ks ents)=.ok (.next,envP T false (some (.int n)) v5 v6,stoP prs (ks++[ents.length]) (ents++[[.int n,.bool fl]])):=by
 have e1:(([40]:List Nat)=[39])=False:=by simp
 have hk':(ks.map fun k=>PV.loc (k+2)).length < szL:=by rw [List.length_map]; exact hk
 have hm:meP .append (.loc 1) [.loc (stoP prs ks ents).length] (stoP prs ks ents++[[.int n,.bool fl]])=.ok (.none,stoP prs (ks++[ents.length]) (ents++[[.int n,.bool fl]])):=by
  rw [sto_app,sto_len]
  rw [yz6 sto1 hk']
  have:(ks.map fun k=>PV.loc (k+2))++[.loc (ents.length+2)]=(ks++[ents.length]).map fun k=>PV.loc (k+2):=by simp
  rw [this,yy7]
 have hst:ex C N (.exp (.me .append (.var 2) (.cons (.lst (.cons (.var 4) (.cons yw2 .nil))) .nil))) (envP T false (some (.int n)) v5 v6) (stoP prs ks ents)=.ok (.next,envP T false (some (.int n)) v5 v6,stoP prs (ks++[ents.length]) (ents++[[.int n,.bool fl]])):=by
  rw [wb8,yr4,za3]
  rw [show (envP T false (some (.int n)) v5 v6).getD 2 none=some (.loc 1) from rfl,za0,za1]
  rw [ys8,show yc2 .append (.loc 1)=true from rfl]
  dsimp only
  simp only [za2,zu5,za3,show (envP T false (some (.int n)) v5 v6).getD 4 none=some (.int n) from rfl,za0,za1,zc1,hf,zc2,za5,zt6,yq4,hm,wa9]
 unfold zs7
 refine zj6 ?_
 rw [iff_f (σ':=stoP prs ks ents) (by unfold envP; simp only [za3,za4,zb1,zd1,zb7,za1,za0,za9,zb2,set0,sets,l_ms,tr_b,l_df,zc7,zc4,zc3,ze4,ze5,zc0,zg8 h hT,e1])]
 refine zj6 ?_
 rw [iff_f (σ':=stoP prs ks ents) (by unfold envP; simp only [za3,zp2,za1,za0,za9,zb2,set0,sets,tr_b,zc0])]
 refine zj6 ?_
 rw [iff_t (σ':=stoP prs ks ents) (by unfold envP; simp only [za3,za4,zb1,zd1,zb7,za1,za0,za9,zb2,set0,sets,l_ms,tr_b,l_dt,zc7,zc4,zc3,ze4,ze5,zc0,zg8 h hT])]
 refine zj6 ?_
 exact hst
theorem eq_loc {k:Nat}:idxP (stoP prs ks ents) (.loc 1) (.int (-1))=((ks.getLast?).map fun k=>PV.loc (k+2)):=by
 have hr:Int.natAbs (-1) < 2 ^ 62:=by decide
 show (if Int.natAbs (-1) < 2 ^ 62 then ((stoP prs ks ents)[1]?).bind fun l=>(zv6 (-1) l.length).bind (l[·]?) else none)=_
 rw [if_pos hr,sto1]
 show (zv6 (-1) (ks.map fun k=>PV.loc (k+2)).length).bind _=_
 rw [List.getLast?_eq_getElem?]
 unfold zv6
 rw [if_neg (by decide),List.length_map]
 cases hk:ks.length with
 | zero =>
  rw [if_neg (by exact Std.LawfulOrderOrd.isLE_compare_eq_false.mp rfl)]
  rw [List.length_eq_zero_iff.mp hk]; rfl
 | succ m =>
  rw [if_pos (by lia),Option.bind_some,List.getElem?_map]
  congr 2
  exact j447
theorem p_cm0 (hT:T.length≤szL) (h:T.drop n=44::R):exs C N zs7 ((envP T false v4 v5 v6).set 4 (some (.int n))) (stoP prs [] ents)=.ok (.next,envP T false (some (.int n)) v5 v6,stoP prs [] ents):=by
 have e1:(([44]:List Nat)=[39])=False:=by simp
 have e2:(([44]:List Nat)=[40])=False:=by simp
 have e3:(([44]:List Nat)=[41])=False:=by simp
 have ht:zm5 (stoP prs [] ents) (.loc 1)=some false:=rfl
 unfold zs7 envP
 simp only [za8,zb5,zb0,za3,za4,zb1,zd1,zp2,zb7,ze0,zd3,za1,za0,za9,zb2,set0,sets,l_ms,tr_b,bt1,bt2,l_dt,l_df,l_nt,zc7,zc4,zc3,ze4,ze5,zc0,kA_e,zd8,ze3,zg8 h hT,e1,e2,e3,ht]
theorem p_cm {k pos:Nat} {fl:Bool} (hT:T.length≤szL) (h:T.drop n=44::R) (hk:ents[k]?=some [.int pos,.bool fl]):exs C N zs7 ((envP T false v4 v5 v6).set 4 (some (.int n))) (stoP prs (ks++[k]) ents)=.ok (.next,envP T false (some (.int n)) v5 v6,stoP prs (ks++[k]) (ents.set k [.int pos,.bool false])):=by
 have e1:(([44]:List Nat)=[39])=False:=by simp
 have e2:(([44]:List Nat)=[40])=False:=by simp
 have ht:zm5 (stoP prs (ks++[k]) ents) (.loc 1)=some true:=by
  show ((stoP prs (ks++[k]) ents)[1]?).map (fun l=>!l.isEmpty)=_
  simp [sto1]
 have hi:idxP (stoP prs (ks++[k]) ents) (.loc 1) (.int (-1))=some (.loc (k+2)):=by
  rw [eq_loc (k:=k)]; simp
 have hg:(stoP prs (ks++[k]) ents)[k+2]?=some [.int pos,.bool fl]:=hk
 have hp:ex C N (.put (.idx (.var 2) (.neg (.cst (.int 1)))) (.cst (.int 1)) (.cst (.bool false))) (envP T false (some (.int n)) v5 v6) (stoP prs (ks++[k]) ents)=.ok (.next,envP T false (some (.int n)) v5 v6,stoP prs (ks++[k]) (ents.set k [.int pos,.bool false])):=by
  rw [ex_put,za4,za1,zd1,za3]
  rw [show (envP T false (some (.int n)) v5 v6).getD 2 none=some (.loc 1) from rfl,za0,za1]
  rw [ze4,zx5,za4,za1,zy0,za1,ze5,show (-(1:Int))=-1 from rfl]
  rw [hi,za0,za1]
  dsimp only
  rw [za4,za1]
  dsimp only
  rw [hg]
  dsimp only
  rw [if_pos ⟨by decide,by simp⟩]
  rfl
 unfold zs7
 refine zj6 ?_
 rw [iff_f (σ':=stoP prs (ks++[k]) ents) (by unfold envP; simp only [za3,za4,zb1,zd1,zb7,za1,za0,za9,zb2,set0,sets,l_ms,tr_b,l_df,zc7,zc4,zc3,ze4,ze5,zc0,zg8 h hT,e1])]
 refine zj6 ?_
 rw [iff_f (σ':=stoP prs (ks++[k]) ents) (by unfold envP; simp only [za3,zp2,za1,za0,za9,zb2,set0,sets,tr_b,zc0])]
 refine zj6 ?_
 rw [iff_f (σ':=stoP prs (ks++[k]) ents) (by unfold envP; simp only [za3,za4,zb1,zd1,zb7,za1,za0,za9,zb2,set0,sets,l_ms,tr_b,l_df,zc7,zc4,zc3,ze4,ze5,zc0,zg8 h hT,e2])]
 refine zj6 ?_
 rw [iff_t (σ':=stoP prs (ks++[k]) ents) (by unfold envP; simp only [za3,za4,zb1,zd1,zp2,zb7,ze0,zh2,zd3,za1,za0,za9,zb2,set0,sets,l_ms,tr_b,bt1,l_dt,zc7,zc4,zc3,ze4,ze5,zc0,kA_e,zg8 h hT,ht])]
 refine zj6 ?_
 exact hp
theorem p_rp {k pos:Nat} {fl:Bool} (hT:T.length≤szL) (h:T.drop n=41::R) (hk:ents[k]?=some [.int pos,.bool fl]) (hl:prs.length < szL):∃ w5 w6,exs C N zs7 ((envP T false v4 v5 v6).set 4 (some (.int n))) (stoP prs (ks++[k]) ents)=.ok (.next,envP T false (some (.int n)) w5 w6,stoP (if fl then prs++[(pos,n)] else prs) ks ents):=by
 have e1:(([41]:List Nat)=[39])=False:=by simp
 have e2:(([41]:List Nat)=[40])=False:=by simp
 have e3:(([41]:List Nat)=[44])=False:=by simp
 have hp:meP .pop (.loc 1) [] (stoP prs (ks++[k]) ents)=.ok (.loc (k+2),stoP prs ks ents):=by
  rw [me_pop sto1 (show ((ks++[k]).map fun k=>PV.loc (k+2)).getLast?=some (.loc (k+2)) by simp)]
  rw [show ((ks++[k]).map fun k=>PV.loc (k+2)).dropLast=ks.map fun k=>PV.loc (k+2) by simp,yy7]
 have hg:(stoP prs ks ents)[k+2]?=some [.int pos,.bool fl]:=hk
 refine ⟨some (.int pos),some (.bool fl),?_⟩
 unfold zs7 envP
 cases fl with
 | false =>
  simp only [za8,zb5,zf5,zb0,za3,za4,zb1,yr4,zd1,zp2,zb7,ze0,za5,zd3,za1,za0,za9,zb2,set0,sets,l_ms,l_bs,tr_b,bt2,l_dt,l_df,l_nt,l_il,l_sn,l_sc,zc7,zc4,zc3,ys8,yq4,ze4,ze5,zc0,kA_e,zg9,zf6,zj0,ze2,zd8,ze3,zg8 h hT,e1,e2,e3,rc_pop,hp,hg]
  rfl
 | true =>
  have hm:meP .append (.loc 0) [.tup [.int pos,.int n]] (stoP prs ks ents)=.ok (.none,stoP (prs++[(pos,n)]) ks ents):=by
   rw [yz6 sto0 (by unfold zm2; rw [List.length_map]; exact hl)]
   have:zm2 prs++[.tup [.int pos,.int n]]=zm2 (prs++[(pos,n)]):=by simp [zm2]
   rw [this,sto_set0]
  simp only [za8,zb5,zf5,zb0,wb8,za3,za4,zb1,yr4,zd1,ze8,zp2,zb7,ze0,za5,za2,zd3,za1,za0,za9,zb2,set0,sets,l_ms,l_bs,tr_b,bt2,l_dt,l_df,l_nt,l_il,l_sn,l_sc,zc7,l_tt,zc4,zc3,ys8,yq4,ze4,ze5,ze9,zc0,zc1,zc2,kA_e,zg9,zf6,zj0,ze2,zd8,wa9,ze3,zg8 h hT,e1,e2,e3,rc_pop,rc_app,hp,hg,hm]
end
end Mine
namespace Mine
set_option tactic.hygienic false
noncomputable def BalL:Nat→List Lx→Prop
 | _,[]=>True
 | k,x::r=>match x.tok with
  | .op s=>if s=tLP then BalL (k+1) r else if s=tRP then ∃ j,k=j+1∧BalL j r else BalL k r
  | _=>BalL k r
theorem wg2 {k:Nat} {x:Lx} {r:List Lx} (h:x.tok=.op tLP):BalL k (x::r)↔BalL (k+1) r:=by
 haveI e:BalL k (x::r)=BalL k (.o tLP::r):=by
  cases x with
  | lpA=>rfl
  | t q=>cases h; rfl
 rw [e]
 show (if tLP=tLP then BalL (k+1) r else if tLP=tRP then ∃ j,k=j+1∧BalL j r else BalL k r)↔_
 rw [if_pos rfl]
theorem balL_rp {k:Nat} {r:List Lx}:BalL k (.o tRP::r)↔∃ j,k=j+1∧BalL j r:=by
 show (if tRP=tLP then BalL (k+1) r else if tRP=tRP then ∃ j,k=j+1∧BalL j r else BalL k r)↔_
 rw [if_neg (by decide),if_pos rfl]
theorem yw0 {k:Nat} {s:List Nat} {r:List Lx} (h1:s≠tLP) (h2:s≠tRP):BalL k (.o s::r)↔BalL k r:=by
 show (if s=tLP then BalL (k+1) r else if s=tRP then ∃ j,k=j+1∧BalL j r else BalL k r)↔_
 rw [if_neg h1,if_neg h2]
theorem balL_v {k:Nat} {x:Lx} {r:List Lx} (h:isV x=true):BalL k (x::r)↔BalL k r:=by
 cases x with
 | lpA=>exact nb h
 | t k =>
  cases k with
  | op _=>exact nb h
  | _=>exact Iff.rfl
noncomputable def BX (l:List Lx):Prop:=∀ k r,BalL k r→BalL k (l++r)
theorem wj4:BX []:=fun _ _ h=>h
theorem zq4 {a b:List Lx} (h:BX a) (g:BX b):BX (a++b):=fun k r q=>by rw [List.append_assoc]; exact h _ _ (g _ _ q)
theorem bx_v {x:Lx} (h:isV x=true):BX [x]:=fun k r q=>(balL_v h).mpr q
theorem yw7 {s:List Nat} (h1:s≠tLP) (h2:s≠tRP):BX [.o s]:=fun k r q=>(yw0 h1 h2).mpr q
theorem bx_br {x:Lx} {l:List Lx} (hx:x.tok=.op tLP) (h:BX l):BX (x::(l++[.o tRP])):=fun k r q=>by
 rw [List.cons_append,List.append_assoc]
 exact (wg2 hx).mpr (h _ _ (balL_rp.mpr ⟨k,rfl,q⟩))
theorem yv6 {l:List Lx} (h:BX l) (b:Bool):BX (wrap b l):=by
 cases b with
 | false=>exact h
 | true=>exact bx_br rfl h
theorem bx_num (a:Num):BX a.lx:=by
 cases a with
 | int i =>
  show BX ((if _ then [Lx.o tMI] else [])++[_])
  split
  ·exact zq4 (yw7 (by decide) (by decide)) (bx_v rfl)
  ·exact bx_v rfl
 | real m e =>
  show BX ((if _ then [Lx.o tMI] else [])++[_])
  split
  ·exact zq4 (yw7 (by decide) (by decide)) (bx_v rfl)
  ·exact bx_v rfl
theorem un_ne {s:List Nat} (h:s=tNOT∨s=tPL∨s=tMI):s≠tLP∧s≠tRP:=by
 rcases h with rfl | rfl | rfl <;> decide
theorem bx_lx:∀ t:Tr,Ok t→BX (lx t):=by
 refine @Tr.rec (fun z=>Ok z→BX (lx z)) (fun z=>OkO z→BX (lxO z)) (fun z=>(Oks z→BX (row z))∧(Oks z→BX (rowT z))) ?_ ?_ ?_ ?_ ?_ ?_ ?_ ?_ ?_ ?_ ?_ ?_ ?_ ?_ ?_
 ·intro op l r i1 i2
  intro h
  rw [zt1]
  exact zq4 (yv6 (i1 h.2.1) _) (zq4 (a:=[_]) (yw7 (yz0 op h.1).2 (yz0 op h.1).1) (yv6 (i2 h.2.2) _))
 ·intro op a i1
  intro h
  rw [yc1]
  exact zq4 (a:=[_]) (yw7 (un_ne h.1).1 (un_ne h.1).2) (yv6 (i1 h.2) _)
 ·intro x0
  intro _
  exact bx_v rfl
 ·intro s as i1
  intro h
  rw [zp7]
  exact zq4 (a:=[_]) (bx_v rfl) (bx_br rfl (i1.1 h.2))
 ·intro b lo hi i1 i2 i3
  intro h
  rw [zt3]
  haveI:=bx_br (x:=.lpA) rfl (zq4 (i2 h.2.2.1) (zq4 (a:=[_]) (yw7 (s:=tCL) (by decide) (by decide)) (i3 h.2.2.2)))
  refine zq4 (i1 h.2.1) ?_
  simpa using this
 ·intro x0
  intro _
  exact bx_v rfl
 ·intro x0 x1
  intro _
  exact bx_v rfl
 ·intro x0 x1
  intro _
  exact bx_v rfl
 ·intro x0
  intro _
  exact bx_v rfl
 ·intro x0
  intro _
  exact bx_v rfl
 ·intro a b
  intro h
  rw [zp3]
  haveI:=bx_br (x:=.o tLP) rfl (zq4 (bx_num a) (zq4 (a:=[_]) (yw7 (s:=tCM) (by decide) (by decide)) (bx_num b)))
  simpa using this
 ·intro _
  exact wj4
 ·intro t i1
  intro h
  rw [yx6]; exact i1 h
 ·refine ⟨?_,?_⟩
  ·intro _
   exact wj4
  ·intro _
   exact wj4
 ·intro t r i1 i2
  refine ⟨?_,?_⟩
  ·intro h
   rw [yc7]; exact zq4 (i1 h.1) (i2.2 h.2)
  ·intro h
   rw [zu2]; exact zq4 (a:=[_]) (yw7 (by decide) (by decide)) (zq4 (i1 h.1) (i2.2 h.2))
theorem op_ch:∀ s∈zz0++dotL,s≠tLP→s≠tRP→s≠tCM→(s.all fun c=>decide (c≠39∧c≠40∧c≠41∧c≠44))=true:=by decide
theorem op_asc:∀ s∈zz0++dotL,(s.all fun c=>decide (c < 128))=true:=by decide
theorem text_asc:∀ s∈textL,(s.all fun c=>decide (c < 128))=true:=by decide
theorem tok_asc {x:Tok} (ok:zx1 x):∀ c∈x.tx,c < 128:=by
 by_cases hv:isV (.t x)=true
 ·by_cases hq:∃ s,x=.chr s
  ·obtain ⟨s,rfl⟩:=hq
   intro c hc
   haveI hs:∀ c∈s,c < 128:=fun c hc=>of_decide_eq_true (List.all_eq_true.mp (text_asc s ok) c hc)
   rcases List.mem_cons.mp (show c∈39::(zh0 s++[39]) from hc) with rfl | q
   ·exact j162
   ·rcases List.mem_append.mp q with q | q
    ·exact yr3 hs c q
    ·rw [List.mem_singleton.mp q]; exact j162
  ·intro c hc
   have:=val_ch ok hv (fun s q=>hq ⟨s,q⟩) c hc
   exact j448 this
 ·cases x with
  | op s=>exact fun c hc=>of_decide_eq_true (List.all_eq_true.mp (op_asc s (List.mem_append.mpr ok)) c hc)
  | _=>exact absurd rfl hv
theorem wj9:∀ {l:List Lx},AllOk l→∀ c∈txs l,c < 128
 | [],_,_,h=>nomatch h
 | x::r,ok,c,h=>by
  rcases List.mem_append.mp (show c∈x.tx++txs r from h) with q | q
  ·exact tok_asc (ok x (.head _)) c q
  ·exact wj9 (fun y hy=>ok y (.tail _ hy)) c q
theorem yh6 {α:Type} {l:List α} (h:l≠[]):∃ W c,l=W++[c]:=⟨l.dropLast,l.getLast h,(List.dropLast_concat_getLast h).symm⟩
theorem yi7 {P':List Lx} {y p:Lx}:zn8 p (P'++[y])=y:=by rw [zj3]; rfl
section
variable {C:Nat→List PV→za7→Out (PV × za7)} {N:Nat} {T:List Nat} {v4 v5 v6:Option PV} {prs:List (Nat × Nat)} {ks:List Nat} {ents:za7}
theorem flag_ex {P:List Lx} {R:List Nat} {σ:za7} (hT:T.length≤szL) (hasc:∀ c∈T,c < 128) (hP:T=txs P++R):∃ fl,(ev C yw2).1 (envP T false (some (.int (txs P).length)) v5 v6) σ=.ok (.bool fl,σ)∧(fl=true→txs P=[]∨∃ W c,txs P=W++[c]∧yx8 c=false∧c≠41):=by
 by_cases h:txs P=[]
 ·refine ⟨true,?_,fun _=>.inl h⟩
  rw [h]
  exact fl_zero rfl
 ·refine big fun Gz hGz=>?_
  obtain ⟨W,c,hW⟩:=yh6 h <;> refine hGz ?_
  haveI hd:T.drop W.length=c::R:=by rw [hP,hW]; simp
  haveI hc:c < 128:=hasc c (by rw [hP,hW]; simp)
  refine ⟨!(yx8 c || decide (c=41)),?_,fun q=>.inr ⟨W,c,hW,?_⟩⟩
  ·haveI:=fl_succ (C:=C) (σ:=σ) (v5:=v5) (v6:=v6) (b:=false) hT hd hc
   rw [show (txs P).length=W.length+1 by rw [hW]; simp]
   exact this
  ·simp only [Bool.not_eq_true',Bool.or_eq_false_iff,decide_eq_false_iff_not] at q
   exact q
theorem no_lpA {P:List Lx} (okP:AllOk P) (hA:Adj (zn8 (.o tLP) P) .lpA):¬ (txs P=[]∨∃ W c,txs P=W++[c]∧yx8 c=false∧c≠41):=by
 by_cases hP:P=[]
 ·subst hP
  rcases hA.la rfl with ⟨s,q⟩ | q <;> cases q
 ·obtain ⟨P',y,rfl⟩:=yh6 hP
  rw [yi7] at hA
  have hy:=okP y (by simp)
  have hpos:=yr2 hy
  rw [zh4]
  have e:txs [y]=y.tok.tx:=by simp [zn5,zp9,Lx.tx]
  rw [e]
  rintro (q | ⟨W,c,q,h1,h2⟩)
  ·rw [List.append_eq_nil_iff] at q
   rw [q.2] at hpos; simp at hpos
  ·obtain ⟨V,d,hV⟩:=yh6 (l:=y.tok.tx) (by intro q; rw [q] at hpos; simp at hpos)
   rw [hV,← List.append_assoc] at q
   haveI hcd:d=c:=by
    haveI:=congrArg List.getLast? q
    simpa using this
   subst hcd
   have hm:d∈y.tok.tx:=by rw [hV]; simp
   rcases hA.la rfl with ⟨s,rfl⟩ | rfl
   ·haveI:=of_decide_eq_true (List.all_eq_true.mp (nam_ch s hy) d hm)
    simp [yx8] at h1
    exact j449 h1 this
   ·have:d∈[41]:=hm
    exact h2 (List.mem_singleton.mp this)
inductive Stepd (C:Nat→List PV→za7→Out (PV × za7)) (N:Nat) (T:List Nat) (n i:Nat) (v4 v5 v6:Option PV) (σ:za7) (P' r:List Lx):Prop
 | mk (w4 w5 w6:Option PV) (prs:List (Nat × Nat)) (ks:List Nat) (ents:za7) (dp:Nat) (e:forN 4 (exs C N zs7) n i (envP T false v4 v5 v6) σ=.ok (.next,envP T false w4 w5 w6,stoP prs ks ents)) (S:Sto P' dp prs ks ents) (hb:BalL dp r):Stepd C N T n i v4 v5 v6 σ P' r
theorem yj7 {P r:List Lx} {x:Lx} {dp:Nat} (hT:T.length≤szL) (hd:T.drop (txs P).length=x.tx++txs r) (S:Sto P dp prs ks ents) (hc:∀ c∈x.tx,c≠39∧c≠40∧c≠41∧c≠44) (hb:BalL dp r):Stepd C N T x.tx.length (txs P).length v4 v5 v6 (stoP prs ks ents) (P++[x]) r:=by
 obtain ⟨w4,e⟩:=wh1 (C:=C) (N:=N) (σ:=stoP prs ks ents) (v5:=v5) (v6:=v6) hT x.tx (txs P).length v4 hd hc
 exact ⟨w4,v5,v6,prs,ks,ents,dp,e,S.app [x],hb⟩
theorem wi5 {P r:List Lx} {x:Lx} {dp:Nat} (hT:T.length≤szL) (hasc:∀ c∈T,c < 128) (hP:T=txs P++txs (x::r)) (hd:T.drop (txs P).length=x.tx++txs r) (okP:AllOk P) (hA:Adj (zn8 (.o tLP) P) x) (hB:BalL dp (x::r)) (S:Sto P dp prs ks ents) (hsz:P.length < szL) (hx:x.tok=.op tLP):Stepd C N T x.tx.length (txs P).length v4 v5 v6 (stoP prs ks ents) (P++[x]) r:=by
 have hsz2:=S.hsz
 obtain ⟨fl,e1,e2⟩:=flag_ex (C:=C) (σ:=stoP prs ks ents) (v5:=v5) (v6:=v6) hT hasc hP
 have hx':x.tx=[40]:=by unfold Lx.tx; rw [hx]; rfl
 rw [hx'] at hd ⊢
 have:=p_lp (C:=C) (N:=N) (v4:=v4) hT hd e1 (by exact j163 hsz2 hsz)
 refine ⟨_,_,_,_,_,_,dp+1,zy9 this,⟨fun p hp=>(S.hprs p hp).app [x],fun k hk=>?_,?_,?_⟩,(wg2 hx).mp hB⟩
 ·rcases List.mem_append.mp hk with hk | hk
  ·obtain ⟨pos,f,h1,h2⟩:=S.hks k hk
   refine ⟨pos,f,?_,h2.app [x]⟩
   rw [List.getElem?_append_left (List.getElem?_eq_some_iff.mp h1).1]
   exact h1
  ·rw [List.mem_singleton.mp hk]
   refine ⟨(txs P).length,fl,by simp,P,x,[],rfl,hx,rfl,fun q=>?_⟩
   cases x with
   | t k=>cases hx; rfl
   | lpA=>exact absurd (e2 q) (no_lpA okP hA)
 ·rw [List.length_append,S.hdp]; rfl
 ·simp only [List.length_append,List.length_singleton]; exact j164 hsz2
theorem step_rp {P r:List Lx} {dp:Nat} (hT:T.length≤szL) (hd:T.drop (txs P).length=(Lx.o tRP).tx++txs r) (hB:BalL dp (.o tRP::r)) (S:Sto P dp prs ks ents) (hsz:P.length < szL):Stepd C N T (Lx.o tRP).tx.length (txs P).length v4 v5 v6 (stoP prs ks ents) (P++[.o tRP]) r:=by
 haveI hsz2:=S.hsz
 obtain ⟨j,hj,hB2⟩:=balL_rp.mp hB
 subst hj
 have hne:ks≠[]:=by
  intro q
  haveI:=S.hdp
  rw [q] at this; simp at this
 obtain ⟨ks,k,rfl⟩:=yh6 hne
 obtain ⟨pos,fl,g1,g2⟩:=S.hks k (by simp)
 rw [List.length_append,List.length_singleton] at hsz2
 obtain ⟨w5,w6,e⟩:=p_rp (C:=C) (N:=N) (v4:=v4) (v5:=v5) (v6:=v6) (prs:=prs) (ks:=ks) hT hd g1 (by exact j165 hsz2 hsz)
 refine ⟨_,w5,w6,_,ks,ents,j,zy9 e,⟨fun p hp=>?_,fun k' hk=>?_,?_,?_⟩,hB2⟩
 ·cases fl with
  | false=>exact (S.hprs p hp).app _
  | true =>
   rcases List.mem_append.mp (show p∈prs++[(pos,(txs P).length)] from hp) with q | q
   ·exact (S.hprs p q).app _
   ·rw [List.mem_singleton.mp q]
    obtain ⟨A,x,B,rfl,hx,hpos,hfl⟩:=g2
    haveI:=hfl rfl
    subst this
    exact ⟨A,B,[],by simp,hpos,rfl⟩
 ·obtain ⟨pos',f,h1,h2⟩:=S.hks k' (List.mem_append_left _ hk)
  exact ⟨pos',f,h1,h2.app _⟩
 ·have:=S.hdp
  rw [List.length_append,List.length_singleton] at this; exact j166 this
 ·rw [List.length_append,List.length_singleton]
  split
  ·rw [List.length_append,List.length_singleton]; exact j167 hsz2
  ·exact j168 hsz2
theorem step_cm {P r:List Lx} {dp:Nat} (hT:T.length≤szL) (hd:T.drop (txs P).length=(Lx.o tCM).tx++txs r) (hB:BalL dp (.o tCM::r)) (S:Sto P dp prs ks ents):Stepd C N T (Lx.o tCM).tx.length (txs P).length v4 v5 v6 (stoP prs ks ents) (P++[.o tCM]) r:=by
 have hB:=(yw0 (by decide) (by decide)).mp hB
 by_cases hk:ks=[]
 ·subst hk
  exact ⟨_,_,_,prs,[],ents,dp,zy9 (p_cm0 (C:=C) (N:=N) (v4:=v4) (v5:=v5) (v6:=v6) hT hd),S.app _,hB⟩
 ·obtain ⟨ks,k,rfl⟩:=yh6 hk
  obtain ⟨pos,fl,g1,g2⟩:=S.hks k (by simp)
  refine ⟨_,_,_,prs,ks++[k],_,dp,zy9 (p_cm (C:=C) (N:=N) (v4:=v4) (v5:=v5) (v6:=v6) (prs:=prs) (ks:=ks) hT hd g1),⟨fun p hp=>(S.hprs p hp).app _,fun k' hk'=>?_,S.hdp,by have:=S.hsz; rw [List.length_append (as:=P)]; exact j161 this⟩,hB⟩
  by_cases hkk:k'=k
  ·subst hkk
   refine ⟨pos,false,?_,?_⟩
   ·rw [List.getElem?_set_self (List.getElem?_eq_some_iff.mp g1).1]
   ·obtain ⟨A,x,B,q1,q2,q3,_⟩:=g2
    exact (show OpOk P pos false from ⟨A,x,B,q1,q2,q3,nofun⟩).app _
  ·obtain ⟨pos',f,q1,q2⟩:=S.hks k' hk'
   refine ⟨pos',f,?_,q2.app _⟩
   rw [List.getElem?_set_ne (fun e=>hkk e.symm)]
   exact q1
theorem wd1 {P r:List Lx} {x:Lx} {dp:Nat} (hT:T.length≤szL) (hasc:∀ c∈T,c < 128) (hP:T=txs P++txs (x::r)) (okP:AllOk P) (okx:zx1 x.tok) (hA:Adj (zn8 (.o tLP) P) x) (hB:BalL dp (x::r)) (S:Sto P dp prs ks ents) (hsz:P.length < szL):Stepd C N T x.tx.length (txs P).length v4 v5 v6 (stoP prs ks ents) (P++[x]) r:=by
 have hd:T.drop (txs P).length=x.tx++txs r:=by rw [hP,List.drop_left]; rfl
 cases x with
 | lpA=>exact wi5 hT hasc hP hd okP hA hB S hsz rfl
 | t k =>
  cases k with
  | op s =>
   by_cases h1:s=tLP
   ·subst h1; exact wi5 hT hasc hP hd okP hA hB S hsz rfl
   ·by_cases h2:s=tRP
    ·subst h2; exact step_rp hT hd hB S hsz
    ·by_cases h3:s=tCM
     ·subst h3; exact step_cm hT hd hB S
     ·exact yj7 hT hd S (fun c hc=>of_decide_eq_true (List.all_eq_true.mp (op_ch s (List.mem_append.mpr okx) h1 h2 h3) c hc)) ((yw0 h1 h2).mp hB)
  | chr s =>
   obtain ⟨w4,e⟩:=r_chr (C:=C) (N:=N) (σ:=stoP prs ks ents) (v4:=v4) (v5:=v5) (v6:=v6) hT hd
   exact ⟨w4,v5,v6,prs,ks,ents,dp,e,S.app _,hB⟩
  | _=>exact yj7 hT hd S (fun c hc=>by have:=val_ch okx rfl nofun c hc; clear okx hasc hP okP hA hB S hd hT hsz; exact j169 this) hB
end
section
variable {C:Nat→List PV→za7→Out (PV × za7)} {N:Nat} {T:List Nat}
theorem wd2 (hT:T.length≤szL) (hasc:∀ c∈T,c < 128) (xs:List Lx):∀ (P:List Lx) (dp:Nat) (prs:List (Nat × Nat)) (ks:List Nat) (ents:za7) (v4 v5 v6:Option PV),T=txs P++txs xs→AllOk P→AllOk xs→ChF Adj (zn8 (.o tLP) P) xs→BalL dp xs→Sto P dp prs ks ents→P.length+xs.length < szL →
  Stepd C N T (txs xs).length (txs P).length v4 v5 v6 (stoP prs ks ents) (P++xs) []:=by
 induction xs with
 | nil=>exact fun P dp prs ks ents v4 v5 v6 _ _ _ _ _ S _=>⟨v4,v5,v6,prs,ks,ents,dp,rfl,S.app [],trivial⟩
 | cons x r ih =>
  intro P dp prs ks ents v4 v5 v6 hP okP ok hC hB S hsz
  rw [List.length_cons] at hsz
  obtain ⟨w4,w5,w6,prs1,ks1,ents1,dp1,e1,S1,hB1⟩:=wd1 (C:=C) (N:=N) (v4:=v4) (v5:=v5) (v6:=v6) hT hasc hP okP (ok x (.head _)) hC.1 hB S (by exact j170 hsz)
  have et:txs (P++[x])=txs P++x.tx:=by rw [zh4,zn5,zp9,List.append_nil]
  obtain ⟨u4,u5,u6,prs2,ks2,ents2,dp2,e2,S2,_⟩:=ih (P++[x]) dp1 prs1 ks1 ents1 w4 w5 w6 (by rw [hP,et,List.append_assoc]; rfl) (okP.app (AllOk.one (ok x (.head _)))) (fun y hy=>ok y (.tail _ hy)) (by rw [yi7]; exact hC.2) hB1 S1 (by rw [List.length_append,List.length_singleton]; exact j171 hsz)
  refine ⟨u4,u5,u6,prs2,ks2,ents2,dp2,?_,by rw [List.append_assoc] at S2; exact S2,trivial⟩
  rw [show (txs (x::r)).length=x.tx.length+(txs r).length from List.length_append,yd4 e1]
  rw [show (((txs P).length:Nat):Int)+((x.tx.length:Nat):Int)=(((txs (P++[x])).length:Nat):Int) by rw [et,List.length_append]; rfl]
  exact e2
end
theorem pairs_nl (prs:List (Nat × Nat)):zd0 (zm2 prs)=true:=by
 induction prs with
 | nil=>rfl
 | cons p r ih=>show zd0 (_::zm2 r)=true; simp [nl_s,nl_i,nl_t,nl_l,ya9,zz3,ih]
theorem k_pairs {N d:Nat} {xs:List Lx} (ok:AllOk xs) (hC:ChF Adj (.o tLP) xs) (hB:BalL 0 xs) (hx:Lexb xs) (hT:(txs xs).length < szL):∃ prs,zc5 N (d+1) 52 [.str (txs xs)] []=.ok (.list (zm2 prs),[])∧prs.length≤xs.length∧∀ p∈prs,PrOk xs p:=by
 have hl:=zy3 hx
 obtain ⟨w4,w5,w6,prs,ks,ents,dp,e,S,_⟩:=wd2 (C:=zc5 N d) (N:=N) (T:=txs xs) (by exact j156 hT) (wj9 ok) xs [] 0 [] [] [] none none none rfl AllOk.nil ok hC hB ⟨(fun _ h=>nomatch h),(fun _ h=>nomatch h),rfl,Nat.zero_le _⟩ (by simp; exact j129 hT hl)
 refine ⟨prs,?_,by have:=S.hsz; simp at this; exact j93 this,S.hprs⟩
 rw [zb6 (f:=c52) rfl,zb9 (env:=[some (.str (txs xs)),none,none,none,none,none,none]) rfl rfl]
 unfold c52
 rw [za6 (env':=[some (.str (txs xs)),some (.loc 0),none,none,none,none,none]) (σ':=[[]]) (by simp only [zd4,zu5,za5,za1,set0,sets,zt6,zd6]; rfl)]
 rw [za6 (env':=[some (.str (txs xs)),some (.loc 0),some (.loc 1),none,none,none,none]) (σ':=[[],[]]) (by simp only [zd4,zu5,za5,za1,set0,sets,zt6,zd6]; rfl)]
 rw [za6 (env':=envP (txs xs) false none none none) (σ':=stoP [] [] []) (by simp only [zd4,za4,za1,set0,sets,zd6]; rfl)]
 haveI hn0:(((txs ([]:List Lx)).length:Nat):Int)=0:=rfl
 rw [hn0] at e
 haveI hc:(((txs xs).length:Int) - 0).toNat=(txs xs).length:=by exact Nat.add_zero _
 unfold zs7 at e
 rw [za6 (by
  rw [yn9 (x:=0) (y:=(txs xs).length) (σ1:=stoP [] [] []) (σ2:=stoP [] [] []) rfl (by unfold envP; simp only [za3,zh9,za5,za2,za1,za0,za9,zh6,zc1,zc2,zj5 (Nat.le_of_lt hT)]) (by decide) (nab (Nat.le_of_lt hT)),hc]
  exact e)]
 rw [zc8 (v:=.loc 0) (env':=envP (txs xs) false w4 w5 w6) (σ':=stoP prs ks ents) (by unfold envP; simp only [zc6,za3,za1,za0,za9,zb2,zc9])]
 show zh3 0 (.ret (.loc 0)) (stoP prs ks ents)=_
 haveI ef:zp0 0 (stoP prs ks ents) (.loc 0)=some (.list (zm2 prs)):=yz3 (Nat.le_refl _) sto0 (pairs_nl _)
 simp only [zh3,flP,ef]
 rfl
end Mine
namespace Mine
set_option tactic.hygienic false
section
variable {N d:Nat} {σ:za7}
theorem ix0 {a:PV} {l:List PV}:idxP σ (.tup (a::l)) (.int 0)=some a:=rfl
theorem ix1 {a b:PV} {l:List PV}:idxP σ (.tup (a::b::l)) (.int 1)=some b:=rfl
theorem ix2 {a b c:PV} {l:List PV}:idxP σ (.tup (a::b::c::l)) (.int 2)=some c:=rfl
theorem ix3 {a b c e:PV} {l:List PV}:idxP σ (.tup (a::b::c::e::l)) (.int 3)=some e:=rfl
theorem wj7:1000000≤szL:=by decide
theorem zm4 {a b:List Nat} (h:a.length+b.length≤1000000):binP .add (.str a) (.str b)=some (.str (a++b)):=add_str (Nat.le_trans h wj7)
theorem str_i {i:Int} (h:i.natAbs < 10 ^ 100):biP σ .str [.int i]=some (.str (intText i)):=by
 exact if_pos h
theorem k_zeros {i:Int} (hi:i≤1000):zc5 N (d+1) 10 [.int i] []=.ok (.str (zp1 i.toNat),[]):=by
 rw [zb6 (f:=c10) rfl,zb9 (env:=[some (.int i)]) rfl rfl]
 unfold c10
 haveI h1:biP [] .max [.int i,.int 0]=some (.int (max i 0)):=rfl
 haveI h2:binP .mul (.str [48]) (.int (max i 0))=some (.str (zp1 i.toNat)):=by
  haveI:0≤max i 0∧max i 0≤1000:=by exact j450 hi
  refine (if_pos this).trans ?_
  unfold zp1
  congr 3; exact j451
 rw [zc8 (v:=.str (zp1 i.toNat)) (env':=[some (.int i)]) (σ':=[]) (by simp only [zc6,za3,za4,zd7,zh9,za5,za2,za1,za0,za9,zf2,zf1,zh6,zc1,zc2,zc9,h1,h2])]
 exact zb8 (σ:=[]) (v:=.str _) rfl rfl
theorem cut_to {s:List Nat} {e:Int} (hs:s.length≤szL) (he:e < 0):cutP (.str s) .none (.int e)=some (.str (s.take (s.length - (-e).toNat))):=by
 have hb:bnd e s.length=s.length - (-e).toNat:=by unfold bnd; rw [if_neg (by exact Int.not_le.mpr he)]; exact j172 he
 refine (if_pos hs).trans ?_
 show some (PV.str (cutL s 0 (bnd e s.length)))=_
 rw [hb]; rfl
theorem cut_from {s:List Nat} {e:Int} (hs:s.length≤szL) (he:e < 0):cutP (.str s) (.int e) .none=some (.str (s.drop (s.length - (-e).toNat))):=by
 have hb:bnd e s.length=s.length - (-e).toNat:=by unfold bnd; rw [if_neg (by exact Int.not_le.mpr he)]; exact j172 he
 refine (if_pos hs).trans ?_
 show some (PV.str (cutL s (bnd e s.length) s.length))=_
 rw [hb]
 unfold cutL
 rw [List.take_length]
theorem yj8 {m:Nat} {e:Int} {c:Nat} (hp:zp6 m e):zc5 N (d+2) 11 [.tup [.int m,.int e],.str [c]] []=.ok (.str (zf9 m e c),[]):=by
 rw [zb6 (f:=c11) rfl,zb9 (env:=[some (.tup [.int m,.int e]),some (.str [c]),none,none,none]) rfl rfl]
 unfold c11 zf9
 refine big fun Gz hGz=>?_
 obtain ⟨p1,p2,p3,p4,p5⟩:=hp <;> refine hGz ?_
 haveI hdl:(dg m).length≤4:=zw0 m 3 (by lia)
 haveI hd1:=yf1 m
 haveI hs:biP [] .str [.int m]=some (.str (intText m)):=str_i (by simp only [Int.natAbs_natCast]; exact Nat.lt_trans p1 (by decide))
 haveI hs2:biP [] .str [.int e]=some (.str (intText e)):=str_i (Nat.lt_of_le_of_lt (show e.natAbs≤24 by exact j452 p2 p3) (by decide))
 haveI hel:(intText e).length≤3:=by
  rw [(zr9 e).1,List.length_append]
  haveI h1:(dg e.natAbs).length≤2:=zw0 _ 1 (by lia)
  have h2:(sgn (decide (e < 0))).length≤1:=by cases decide (e < 0) <;> decide
  exact j173 h2 h1
 rw [zi1] at hs ⊢
 rw [za6 (env':=[some (.tup [.int m,.int e]),some (.str [c]),some (.int m),some (.int e),none]) (σ':=[]) (by simp only [zf5,za3,za1,za0,za9,set0,sets,l_bs,l_it,l_sn,l_sc,zg9,zf6,zj0])]
 rw [za6 (env':=[some (.tup [.int m,.int e]),some (.str [c]),some (.int m),some (.int e),some (.str (dg m))]) (σ':=[]) (by simp only [zd4,za3,zh9,za5,za2,za1,za0,za9,zb2,set0,sets,zh6,zc1,zc2,zd6,hs])]
 have ec:(([c]:List Nat)=[68])=(c=68):=by simp
 haveI e12:(-12:Int)=-12:=rfl
 haveI hneg:∀ σ,(ev (zc5 N (d+1)) (.neg (.cst (.int 12)))).1 [some (.tup [.int m,.int e]),some (.str [c]),some (.int m),some (.int e),some (.str (dg m))] σ=.ok (.int (-12),σ):=fun _=>rfl
 have ht:(ev (zc5 N (d+1)) (.bool false (.cons (.cmp .eq (.var 1) (.cst (.str [68]))) (.cons (.cmp .gt (.var 3) (.cst (.int 0))) (.cons (.cmp .lt (.var 3) (.neg (.cst (.int 12)))) .nil))))).2 [some (.tup [.int m,.int e]),some (.str [c]),some (.int m),some (.int e),some (.str (dg m))] []=.ok (decide (c=68∨0 < e∨e < -12),[]):=by
  by_cases h1:c=68
  ·simp only [za3,za4,zb1,zb7,ze0,zd3,za1,za0,za9,zb2,l_ms,tr_b,bt3,l_dt,l_nf,zc7,zc4,zc3,zc0,kA_e,h1,true_or]
  ·by_cases h2:0 < e
   ·simp only [za3,za4,zb1,zb7,ze0,zd3,za1,za0,za9,zb2,l_ms,tr_b,bt3,bt4,l_dt,l_df,l_nf,zc7,zk4,zc4,zc3,zc0,kA_e,ec,h1,h2,true_or,or_true]
   ·by_cases h3:e < -12
    ·simp only [za3,za4,zx5,zb1,zb7,ze0,zd3,za1,za0,za9,zb2,l_ms,tr_b,bt3,bt4,l_dt,l_df,l_nf,zc7,zf4,zk4,zy0,zc4,zc3,zc0,kA_e,ec,h1,h2,h3,or_true]
    ·simp only [za3,za4,zx5,zb1,zb7,ze0,zh2,zd3,za1,za0,za9,zb2,l_ms,tr_b,bt4,l_df,zc7,zf4,zk4,zy0,zc4,zc3,zc0,kA_e,ec,h1,h2,h3,or_self]
 by_cases hA:c=68∨0 < e∨e < -12
 ·rw [if_pos hA]
  rw [decide_eq_true hA] at ht
  haveI a1:=zm4 (a:=dg m) (b:=[46]) (by simp; exact j174 hdl)
  haveI a2:=zm4 (a:=dg m++[46]) (b:=[c]) (by simp; exact j175 hdl)
  haveI a3:=zm4 (a:=dg m++[46]++[c]) (b:=intText e) (by simp; exact j176 hel hdl)
  rw [zc8 (v:=.str (dg m++[46]++[c]++intText e)) (env':=[some (.tup [.int m,.int e]),some (.str [c]),some (.int m),some (.int e),some (.str (dg m))]) (σ':=[]) (by rw [zb0,ht,za1]; simp only [za8,zc6,za3,za4,zd7,zh9,za5,za2,za1,za0,za9,zb2,zf2,zf1,zh6,zc1,zc2,ze2,zc9,zd9,a1,a2,a3,hs2])]
  exact zb8 (σ:=[]) (v:=.str _) rfl rfl
 ·rw [if_neg hA]
  rw [decide_eq_false hA] at ht
  rw [za6 (env':=[some (.tup [.int m,.int e]),some (.str [c]),some (.int m),some (.int e),some (.str (dg m))]) (σ':=[]) (by rw [zb0,ht,za1]; simp only [zb5,zd8])]
  by_cases hB:e=0
  ·rw [if_pos hB]
   haveI a1:=zm4 (a:=dg m) (b:=[46]) (by simp; exact j174 hdl)
   rw [zc8 (v:=.str (dg m++[46])) (env':=[some (.tup [.int m,.int e]),some (.str [c]),some (.int m),some (.int e),some (.str (dg m))]) (σ':=[]) (by simp only [za8,zb0,zc6,za3,za4,zd7,zb1,zb7,za1,za0,za9,zb2,l_ms,tr_b,l_dt,ze6,zf2,zf1,zc4,zc3,zc0,ze2,zc9,zd9,a1,hB])]
   exact zb8 (σ:=[]) (v:=.str _) rfl rfl
  ·rw [if_neg hB]
   rw [za6 (env':=[some (.tup [.int m,.int e]),some (.str [c]),some (.int m),some (.int e),some (.str (dg m))]) (σ':=[]) (by simp only [zb5,zb0,za3,za4,zb1,zb7,za1,za0,za9,zb2,l_ms,tr_b,l_df,ze6,zc4,zc3,zc0,zd8,hB])]
   haveI hneg:e < 0:=by exact j147 hB hA
   haveI hlen:biP [] .len [.str (dg m)]=some (.int (dg m).length):=zj5 (Nat.le_trans (by exact j177 hdl:(dg m).length≤1000000) wj7)
   have hle:(((dg m).length:Int)≤-e)=((dg m).length≤(-e).toNat):=by simp only [eq_iff_iff]; exact j453 hneg
   by_cases hC:(dg m).length≤(-e).toNat
   ·rw [if_pos hC]
    haveI hz:=k_zeros (N:=N) (d:=d) (i:=-e - (dg m).length) (by lia)
    haveI hzn:(-e - ((dg m).length:Int)).toNat=(-e).toNat - (dg m).length:=by exact Int.toNat_sub' _ _
    rw [hzn] at hz
    have hzl:(zp1 ((-e).toNat - (dg m).length)).length≤20:=by simp [zp1]; lia
    generalize zp1 ((-e).toNat - (dg m).length)=z at *
    haveI a1:=zm4 (a:=[46]) (b:=z) (by simp; exact j178 hzl)
    haveI a2:=zm4 (a:=[46]++z) (b:=dg m) (by simp; exact j455 hC hzl hA)
    rw [zc8 (v:=.str ([46]++z++dg m)) (env':=[some (.tup [.int m,.int e]),some (.str [c]),some (.int m),some (.int e),some (.str (dg m))]) (σ':=[]) (by simp only [za8,zb0,zc6,za3,za4,zd7,zx5,zb1,zb3,zh9,zb7,za5,za2,za1,za0,za9,zb2,l_ms,tr_b,l_dt,wh3,zg6,zf2,zf1,zy0,zc4,zc3,zb4,zh6,zc0,zc1,zc2,ze2,zc9,zd9,hlen,hle,hC,hz,a1,a2])]
    exact zb8 (σ:=[]) (v:=.str _) rfl rfl
   ·rw [if_neg hC]
    rw [za6 (env':=[some (.tup [.int m,.int e]),some (.str [c]),some (.int m),some (.int e),some (.str (dg m))]) (σ':=[]) (by simp only [zb5,zb0,za3,zx5,zb1,zh9,zb7,za5,za2,za1,za0,za9,zb2,l_ms,tr_b,l_df,wh3,zy0,zc4,zc3,zh6,zc0,zc1,zc2,zd8,hlen,hle,hC])]
    haveI hsz:(dg m).length≤szL:=Nat.le_trans (by exact j177 hdl:(dg m).length≤1000000) wj7
    haveI c1:=cut_to hsz hneg
    haveI c2:=cut_from hsz hneg
    have l1:((dg m).take ((dg m).length - (-e).toNat)).length≤4:=by rw [List.length_take]; exact j456 hdl
    haveI l2:((dg m).drop ((dg m).length - (-e).toNat)).length≤4:=by rw [List.length_drop]; exact j457 hdl
    generalize (dg m).take ((dg m).length - (-e).toNat)=x at *
    generalize (dg m).drop ((dg m).length - (-e).toNat)=y at *
    haveI a1:=zm4 (a:=x) (b:=[46]) (by simp; exact j174 l1)
    haveI a2:=zm4 (a:=x++[46]) (b:=y) (by simp; exact j179 l1 l2)
    rw [zc8 (v:=.str (x++[46]++y)) (env':=[some (.tup [.int m,.int e]),some (.str [c]),some (.int m),some (.int e),some (.str (dg m))]) (σ':=[]) (by simp only [zc6,za3,za4,zd7,zt4,za1,za0,za9,zb2,zf2,zf1,yc5,yc0,yc3,zc9,c1,c2,a1,a2])]
    exact zb8 (σ:=[]) (v:=.str _) rfl rfl
theorem zn2 {m:Nat} {e:Int} {c:Nat} (hp:zp6 m e):(zf9 m e c).length≤40:=by
 refine big fun Gz hGz=>?_
 obtain ⟨p1,p2,p3,p4,p5⟩:=hp <;> refine hGz ?_
 have hdl:(dg m).length≤4:=zw0 m 3 (by lia)
 have hel:(intText e).length≤3:=by
  rw [(zr9 e).1,List.length_append]
  haveI h1:(dg e.natAbs).length≤2:=zw0 _ 1 (by lia)
  haveI h2:(sgn (decide (e < 0))).length≤1:=by cases decide (e < 0) <;> decide
  exact j173 h2 h1
 unfold zf9
 rw [zi1]
 split
 ·simp; exact j180 hel hdl
 ·split
  ·simp; exact j181 hdl
  ·split
   ·simp [zp1]; exact j458 ‹_› ‹_›
   ·simp; exact j460 hdl
noncomputable def sg (i:Int):List Nat:=if i < 0 then [45] else []
theorem wa8 {i:Int} (hi:i.natAbs < 10 ^ 100) (hl:(intText (i.natAbs:Int)).length≤1000):zc5 N (d+1) 16 [.tup [.str [105,110,116],.int i]] []=.ok (.str (sg i++intText (i.natAbs:Int)),[]):=by
 rw [zb6 (f:=c16) rfl,zb9 (env:=[some (.tup [.str [105,110,116],.int i]),none]) rfl rfl]
 unfold c16
 have hs:biP [] .str [.int (i.natAbs:Int)]=some (.str (intText (i.natAbs:Int))):=str_i (by simpa using hi)
 have ha:biP [] .abs [.int i]=some (.int i.natAbs):=rfl
 have a1:=zm4 (a:=sg i) (b:=intText (i.natAbs:Int)) (by unfold sg; split <;> simp <;> (first | exact j182 hl | exact j183 hl))
 rw [za6 (env':=[some (.tup [.str [105,110,116],.int i]),some (.str [])]) (σ':=[]) (by simp only [zd4,za4,za1,set0,sets,zd6])]
 rw [za6 (env':=[some (.tup [.str [105,110,116],.int i]),some (.str (sg i))]) (σ':=[]) (by
  unfold sg
  by_cases h:i < 0
  ·simp only [za8,zb5,zd4,zb0,za3,za4,zb1,zd1,zb7,za1,za0,za9,set0,sets,l_ms,tr_b,l_dt,zf4,l_tt,zc4,zc3,ze4,ze5,zc0,zd6,ze2,ze3,ix1,h]
  ·simp only [zb5,zb0,za3,za4,zb1,zd1,zb7,za1,za0,za9,l_ms,tr_b,l_df,zf4,l_ff,zc4,zc3,ze4,ze5,zc0,zd8,ix1,h])]
 rw [zc8 (v:=.str (sg i++intText (i.natAbs:Int))) (env':=[some (.tup [.str [105,110,116],.int i]),some (.str (sg i))]) (σ':=[]) (by simp only [za8,zb0,zc6,za3,za4,zd7,zb1,zh9,zd1,zb7,za5,za2,za1,za0,za9,zb2,l_ms,tr_b,l_dt,zc7,zf2,zf1,zc4,zc3,zh6,ze4,ze5,zc0,zc1,zc2,ze2,zc9,zd9,ix0,ix1,ha,hs,a1])]
 exact zb8 (σ:=[]) (v:=.str _) rfl rfl
theorem yr1 {m e:Int} (hp:zp6 m.natAbs e):zc5 N (d+3) 16 [.tup [.str [114,101,97,108],.int m,.int e]] []=.ok (.str (sg m++zf9 m.natAbs e 69),[]):=by
 rw [zb6 (f:=c16) rfl,zb9 (env:=[some (.tup [.str [114,101,97,108],.int m,.int e]),none]) rfl rfl]
 unfold c16
 have ha:biP [] .abs [.int m]=some (.int m.natAbs):=rfl
 have hk:=yj8 (N:=N) (d:=d) (c:=69) hp
 have hl:=zn2 (c:=69) hp
 have a1:=zm4 (a:=sg m) (b:=zf9 m.natAbs e 69) (by unfold sg; split <;> simp <;> (first | exact j184 hl | exact j185 hl))
 rw [za6 (env':=[some (.tup [.str [114,101,97,108],.int m,.int e]),some (.str [])]) (σ':=[]) (by simp only [zd4,za4,za1,set0,sets,zd6])]
 rw [za6 (env':=[some (.tup [.str [114,101,97,108],.int m,.int e]),some (.str (sg m))]) (σ':=[]) (by
  unfold sg
  by_cases h:m < 0
  ·simp only [za8,zb5,zd4,zb0,za3,za4,zb1,zd1,zb7,za1,za0,za9,set0,sets,l_ms,tr_b,l_dt,zf4,l_tt,zc4,zc3,ze4,ze5,zc0,zd6,ze2,ze3,ix1,h]
  ·simp only [zb5,zb0,za3,za4,zb1,zd1,zb7,za1,za0,za9,l_ms,tr_b,l_df,zf4,l_ff,zc4,zc3,ze4,ze5,zc0,zd8,ix1,h])]
 rw [za6 (env':=[some (.tup [.str [114,101,97,108],.int m,.int e]),some (.str (sg m))]) (σ':=[]) (by simp (decide:=true) only [zb5,zb0,za3,za4,zb1,zd1,zb7,za1,za0,za9,l_ms,tr_b,l_df,zc7,zc4,zc3,ze4,ze5,zc0,zd8,ix0])]
 rw [zc8 (v:=.str (sg m++zf9 m.natAbs e 69)) (env':=[some (.tup [.str [114,101,97,108],.int m,.int e]),some (.str (sg m))]) (σ':=[]) (by simp (decide:=true) only [zc6,za3,za4,zd7,zb1,yk0,zb3,zh9,zd1,ze8,zb7,za5,za2,za1,za0,za9,zb2,l_ms,tr_b,l_df,zc7,zf2,zf1,zc4,zc3,kI_f,zb4,zh6,ze4,ze5,ze9,zc0,zc1,zc2,zc9,ix0,ix1,ix2,ha,hk,a1])]
 exact zb8 (σ:=[]) (v:=.str _) rfl rfl
theorem wh0 {m e:Int} (hp:zp6 m.natAbs e):zc5 N (d+3) 16 [.tup [.str [100,98,108,101],.int m,.int e]] []=.ok (.str (sg m++zf9 m.natAbs e 68),[]):=by
 rw [zb6 (f:=c16) rfl,zb9 (env:=[some (.tup [.str [100,98,108,101],.int m,.int e]),none]) rfl rfl]
 unfold c16
 have ha:biP [] .abs [.int m]=some (.int m.natAbs):=rfl
 have hk:=yj8 (N:=N) (d:=d) (c:=68) hp
 have hl:=zn2 (c:=68) hp
 have a1:=zm4 (a:=sg m) (b:=zf9 m.natAbs e 68) (by unfold sg; split <;> simp <;> (first | exact j184 hl | exact j185 hl))
 rw [za6 (env':=[some (.tup [.str [100,98,108,101],.int m,.int e]),some (.str [])]) (σ':=[]) (by simp only [zd4,za4,za1,set0,sets,zd6])]
 rw [za6 (env':=[some (.tup [.str [100,98,108,101],.int m,.int e]),some (.str (sg m))]) (σ':=[]) (by
  unfold sg
  by_cases h:m < 0
  ·simp only [za8,zb5,zd4,zb0,za3,za4,zb1,zd1,zb7,za1,za0,za9,set0,sets,l_ms,tr_b,l_dt,zf4,l_tt,zc4,zc3,ze4,ze5,zc0,zd6,ze2,ze3,ix1,h]
  ·simp only [zb5,zb0,za3,za4,zb1,zd1,zb7,za1,za0,za9,l_ms,tr_b,l_df,zf4,l_ff,zc4,zc3,ze4,ze5,zc0,zd8,ix1,h])]
 rw [za6 (env':=[some (.tup [.str [100,98,108,101],.int m,.int e]),some (.str (sg m))]) (σ':=[]) (by simp (decide:=true) only [zb5,zb0,za3,za4,zb1,zd1,zb7,za1,za0,za9,l_ms,tr_b,l_df,zc7,zc4,zc3,ze4,ze5,zc0,zd8,ix0])]
 rw [zc8 (v:=.str (sg m++zf9 m.natAbs e 68)) (env':=[some (.tup [.str [100,98,108,101],.int m,.int e]),some (.str (sg m))]) (σ':=[]) (by simp (decide:=true) only [zc6,za3,za4,zd7,zb1,yk0,zb3,zh9,zd1,ze8,zb7,za5,za2,za1,za0,za9,zb2,l_ms,tr_b,l_dt,zc7,zf2,zf1,zc4,zc3,kI_t,zb4,zh6,ze4,ze5,ze9,zc0,zc1,zc2,zc9,ix0,ix1,ix2,ha,hk,a1])]
 exact zb8 (σ:=[]) (v:=.str _) rfl rfl
theorem k_num {a:Num} (h:yp3 a):zc5 N (d+3) 16 [a.pv] []=.ok (.str (txs a.lx),[])∧(txs a.lx).length≤100:=by
 cases a with
 | int i =>
  have h:i.natAbs < 30:=h
  have hl:(intText (i.natAbs:Int)).length≤2:=by rw [zi1]; exact zw0 _ 1 (by lia)
  haveI e:txs (Num.int i).lx=sg i++intText (i.natAbs:Int):=by
   simp only [Num.lx,sg]
   split <;> simp [zn5,zp9,Lx.tx,Lx.tok,Tok.tx]
  rw [e]
  refine ⟨wa8 (d:=d+2) (Nat.lt_trans h (by decide)) (by exact j186 hl),?_⟩
  unfold sg; split <;> simp <;> (first | exact j187 hl | exact j188 hl)
 | real m e' =>
  have hl:=zn2 (c:=69) (show zp6 m.natAbs e' from h)
  haveI e:txs (Num.real m e').lx=sg m++zf9 m.natAbs e' 69:=by
   simp only [Num.lx,sg]
   split <;> simp [zn5,zp9,Lx.tx,Lx.tok,Tok.tx]
  rw [e]
  refine ⟨yr1 h,?_⟩
  unfold sg; split <;> simp <;> (first | exact j189 hl | exact j190 hl)
theorem k_text {s:List Nat} (hs:s.length≤100000):zc5 N (d+1) 12 [.str s] []=.ok (.str (Tok.chr s).tx,[]):=by
 rw [ye6]
 rw [if_pos rfl]
 unfold showP
 dsimp only
 unfold wj0
 rw [show ([some (PV.str s)]:Env').getD 0 none=some (.str s) from rfl]
 dsimp only
 rw [if_pos hs,za1]
 exact zb8 (σ:=[]) (v:=.str _) rfl rfl
end
end Mine
namespace Mine
set_option tactic.hygienic false
section
variable {N d:Nat}
theorem ret17 {t:PV} {tag:List Nat} {l:List PV} {s:List Nat} (ht:t=.tup (.str tag::l)) (h1:tag≠[99,104,97,114]) (h2:tag≠[108,111,103]) (h3:tag≠[99,112,108,120]) (hk:zc5 N d 16 [t] []=.ok (.str s,[])):zc5 N (d+1) 17 [t] []=.ok (.str s,[]):=by
 rw [zb6 (f:=c17) rfl,zb9 (env:=[some t]) rfl rfl]
 unfold c17
 subst ht
 rw [za6 (env':=[some (.tup (.str tag::l))]) (σ':=[]) (by simp only [zb5,zb0,za3,za4,zb1,zd1,zb7,za1,za0,za9,l_ms,tr_b,l_df,zc7,zc4,zc3,ze4,ze5,zc0,zd8,ix0,h1])]
 rw [za6 (env':=[some (.tup (.str tag::l))]) (σ':=[]) (by simp only [zb5,zb0,za3,za4,zb1,zd1,zb7,za1,za0,za9,l_ms,tr_b,l_df,zc7,zc4,zc3,ze4,ze5,zc0,zd8,ix0,h2])]
 rw [za6 (env':=[some (.tup (.str tag::l))]) (σ':=[]) (by simp only [zb5,zb0,za3,za4,zb1,zd1,zb7,za1,za0,za9,l_ms,tr_b,l_df,zc7,zc4,zc3,ze4,ze5,zc0,zd8,ix0,h3])]
 rw [zc8 (v:=.str s) (env':=[some (.tup (.str tag::l))]) (σ':=[]) (by simp only [zc6,za3,zb3,za5,za2,za1,za0,za9,zb4,zc1,zc2,zc9,hk])]
 exact zb8 (σ:=[]) (v:=.str _) rfl rfl
noncomputable def wi3:Tr→Prop
 | .int _ | .real _ _ | .dble _ _ | .log _ | .chr _ | .cplx _ _=>True
 | _=>False
theorem text_len:∀ s∈textL,s.length≤100000:=by decide
theorem ya3 {t:Tr} (h:Ok t) (hc:wi3 t):zc5 N (d+4) 17 [t.pv] []=.ok (.str (txs (lx t)),[]):=by
 cases t with
 | int i =>
  replace h:0≤i∧i < 1000000000000:=h
  have hl:(intText (i.natAbs:Int)).length≤12:=by rw [zi1]; exact zw0 _ 11 (by lia)
  haveI hk:=wa8 (N:=N) (d:=d+2) (i:=i) (Nat.lt_trans (show i.natAbs < 10 ^ 13 by lia) (by decide)) (by exact j191 hl)
  have e:txs (lx (.int i))=sg i++intText (i.natAbs:Int):=by
   unfold sg
   rw [if_neg (by lia),show i.natAbs=i.toNat by exact j461 h]
   exact List.append_nil _
  rw [e]
  exact ret17 rfl (by decide) (by decide) (by decide) hk
 | real m e =>
  replace h:0≤m∧zp6 m.toNat e:=h
  have hm:m.natAbs=m.toNat:=by lia
  have hk:=yr1 (N:=N) (d:=d) (m:=m) (e:=e) (by rw [hm]; exact h.2)
  have e1:txs (lx (.real m e))=sg m++zf9 m.natAbs e 69:=by
   unfold sg
   rw [if_neg (by exact j192 hm),hm]
   exact List.append_nil _
  rw [e1]
  exact ret17 rfl (by decide) (by decide) (by decide) hk
 | dble m e =>
  replace h:0≤m∧zp6 m.toNat e:=h
  have hm:m.natAbs=m.toNat:=by lia
  have hk:=wh0 (N:=N) (d:=d) (m:=m) (e:=e) (by rw [hm]; exact h.2)
  have e1:txs (lx (.dble m e))=sg m++zf9 m.natAbs e 68:=by
   unfold sg
   rw [if_neg (by exact j192 hm),hm]
   exact List.append_nil _
  rw [e1]
  exact ret17 rfl (by decide) (by decide) (by decide) hk
 | log b =>
  rw [zb6 (f:=c17) rfl,zb9 (env:=[some (.tup [.str [108,111,103],.bool b])]) rfl rfl]
  unfold c17
  rw [za6 (env':=[some (.tup [.str [108,111,103],.bool b])]) (σ':=[]) (by simp (decide:=true) only [zb5,zb0,za3,za4,zb1,zd1,zb7,za1,za0,za9,l_ms,tr_b,l_df,zc7,zc4,zc3,ze4,ze5,zc0,zd8,ix0])]
  cases b with
  | true =>
   rw [zc8 (v:=.str (txs (lx (.log true)))) (env':=[some (.tup [.str [108,111,103],.bool true])]) (σ':=[]) (by simp (decide:=true) only [za8,zb0,zc6,za3,za4,zb1,yk0,zd1,zb7,tr_idx,za1,za0,za9,l_ms,tr_b,l_dt,zc7,zc4,zc3,kI_t,ze4,ze5,zc0,ze2,zc9,zd9,ix0,ix1]; rfl)]
   exact zb8 (σ:=[]) (v:=.str _) rfl rfl
  | false =>
   rw [zc8 (v:=.str (txs (lx (.log false)))) (env':=[some (.tup [.str [108,111,103],.bool false])]) (σ':=[]) (by simp (decide:=true) only [za8,zb0,zc6,za3,za4,zb1,yk0,zd1,zb7,tr_idx,za1,za0,za9,l_ms,tr_b,l_dt,zc7,zc4,zc3,kI_f,ze4,ze5,zc0,ze2,zc9,zd9,ix0,ix1]; rfl)]
   exact zb8 (σ:=[]) (v:=.str _) rfl rfl
 | chr s =>
  rw [zb6 (f:=c17) rfl,zb9 (env:=[some (.tup [.str [99,104,97,114],.str s])]) rfl rfl]
  unfold c17
  haveI hk:=k_text (N:=N) (d:=d+2) (text_len s h)
  haveI e1:txs (lx (.chr s))=(Tok.chr s).tx:=List.append_nil _
  rw [e1]
  rw [zc8 (v:=.str (Tok.chr s).tx) (env':=[some (.tup [.str [99,104,97,114],.str s])]) (σ':=[]) (by simp (decide:=true) only [za8,zb0,zc6,za3,za4,zb1,zb3,zd1,zb7,za5,za2,za1,za0,za9,l_ms,tr_b,l_dt,zc7,zc4,zc3,zb4,ze4,ze5,zc0,zc1,zc2,ze2,zc9,zd9,ix0,ix1,hk])]
  exact zb8 (σ:=[]) (v:=.str _) rfl rfl
 | cplx a b =>
  replace h:yp3 a∧yp3 b:=h
  rw [zb6 (f:=c17) rfl,zb9 (env:=[some (.tup [.str [99,112,108,120],a.pv,b.pv])]) rfl rfl]
  unfold c17
  obtain ⟨k1,l1⟩:=k_num (N:=N) (d:=d) h.1
  obtain ⟨k2,l2⟩:=k_num (N:=N) (d:=d) h.2
  haveI e1:txs (lx (.cplx a b))=[40]++txs a.lx++[44]++txs b.lx++[41]:=by
   rw [zp3]
   simp [zn5,zp9,zh4,Lx.tx,Lx.tok,Tok.tx]
  rw [e1]
  generalize txs a.lx=x at *
  generalize txs b.lx=y at *
  haveI a1:=zm4 (a:=[40]) (b:=x) (by simp; exact j193 l1)
  haveI a2:=zm4 (a:=[40]++x) (b:=[44]) (by simp; exact j194 l1)
  haveI a3:=zm4 (a:=[40]++x++[44]) (b:=y) (by simp; exact j195 l1 l2)
  haveI a4:=zm4 (a:=[40]++x++[44]++y) (b:=[41]) (by simp; exact j196 l1 l2)
  rw [za6 (env':=[some (.tup [.str [99,112,108,120],a.pv,b.pv])]) (σ':=[]) (by simp (decide:=true) only [zb5,zb0,za3,za4,zb1,zd1,zb7,za1,za0,za9,l_ms,tr_b,l_df,zc7,zc4,zc3,ze4,ze5,zc0,zd8,ix0])]
  rw [za6 (env':=[some (.tup [.str [99,112,108,120],a.pv,b.pv])]) (σ':=[]) (by simp (decide:=true) only [zb5,zb0,za3,za4,zb1,zd1,zb7,za1,za0,za9,l_ms,tr_b,l_df,zc7,zc4,zc3,ze4,ze5,zc0,zd8,ix0])]
  rw [zc8 (v:=.str ([40]++x++[44]++y++[41])) (env':=[some (.tup [.str [99,112,108,120],a.pv,b.pv])]) (σ':=[]) (by simp (decide:=true) only [za8,zb0,zc6,za3,za4,zd7,zb1,zb3,zd1,zb7,za5,za2,za1,za0,za9,l_ms,tr_b,l_dt,zc7,zf2,zf1,zc4,zc3,zb4,ze4,ze5,zc0,zc1,zc2,ze2,zc9,zd9,ix0,ix1,ix2,k1,k2,a1,a2,a3,a4])]
  exact zb8 (σ:=[]) (v:=.str _) rfl rfl
 | _=>exact hc.elim
theorem yt2 {σ:za7} {op:List Nat} (h:op∈opsL):idxP σ (.tab 0) (.str op)=some (.tup [.int (zg0 op),.int (zk5 (zg0 op)),.int (zi5 (zg0 op))]):=by
 simp only [opsL,List.mem_cons,List.not_mem_nil,or_false] at h
 rcases h with rfl | rfl | rfl | rfl | rfl | rfl | rfl | rfl | rfl | rfl | rfl | rfl | rfl <;> rfl
theorem yt0 {σ:za7} {op:List Nat} (h:op=tNOT∨op=tPL∨op=tMI):idxP σ (.tab 1) (.str op)=some (.tup [.int ((if op=tNOT then 4 else 7:Nat):Int),.int (unB op)]):=by
 rcases h with rfl | rfl | rfl <;> rfl
noncomputable def tagT:Tr→List Nat
 | .bin _ _ _=>[98,105,110]
 | .un _ _=>[117,110]
 | .nam _=>[110,97,109,101]
 | .ref _ _=>[114,101,102]
 | .sub _ _ _=>[115,117,98]
 | .int _=>[105,110,116]
 | .real _ _=>[114,101,97,108]
 | .dble _ _=>[100,98,108,101]
 | .log _=>[108,111,103]
 | .chr _=>[99,104,97,114]
 | .cplx _ _=>[99,112,108,120]
theorem tag_pv (t:Tr):∃ l,t.pv=.tup (.str (tagT t)::l):=by
 cases t <;> exact ⟨_,rfl⟩
theorem wk7 {t:Tr} (h1:tagT t≠[98,105,110]) (h2:tagT t≠[117,110]):zc5 N (d+1) 13 [t.pv] []=.ok (.int 10,[]):=by
 refine big fun Gz hGz=>?_
 obtain ⟨l,e⟩:=tag_pv t <;> refine hGz ?_
 rw [zb6 (f:=c13) rfl,zb9 (env:=[some t.pv]) rfl rfl]
 unfold c13
 rw [e]
 rw [za6 (env':=[some (.tup (.str (tagT t)::l))]) (σ':=[]) (by simp only [zb5,zb0,za3,za4,zb1,zd1,zb7,za1,za0,za9,l_ms,tr_b,l_df,zc7,zc4,zc3,ze4,ze5,zc0,zd8,ix0,h1])]
 rw [za6 (env':=[some (.tup (.str (tagT t)::l))]) (σ':=[]) (by simp only [zb5,zb0,za3,za4,zb1,zd1,zb7,za1,za0,za9,l_ms,tr_b,l_df,zc7,zc4,zc3,ze4,ze5,zc0,zd8,ix0,h2])]
 rw [zc8 (v:=.int 10) (env':=[some (.tup (.str (tagT t)::l))]) (σ':=[]) (by simp only [zc6,za4,za1,zc9])]
 exact zb8 (σ:=[]) (v:=.int 10) rfl rfl
theorem wg4 {t:Tr} (h:Ok t):zc5 N (d+1) 13 [t.pv] []=.ok (.int (zg4 t),[]):=by
 cases t with
 | bin op l r =>
  rw [zb6 (f:=c13) rfl,zb9 (env:=[some (.tup [.str [98,105,110],.str op,l.pv,r.pv])]) rfl rfl]
  unfold c13
  rw [zc8 (v:=.int (zg0 op)) (env':=[some (.tup [.str [98,105,110],.str op,l.pv,r.pv])]) (σ':=[]) (by simp only [za8,zb0,zc6,za3,za4,zb1,zd1,zb7,za1,za0,za9,l_ms,tr_b,l_dt,zc7,zc4,zc3,ze4,ze5,zc0,ze2,zc9,zd9,ix0,ix1,yt2 h.1])]
  exact zb8 (σ:=[]) (v:=.int _) rfl rfl
 | un op a =>
  rw [zb6 (f:=c13) rfl,zb9 (env:=[some (.tup [.str [117,110],.str op,a.pv])]) rfl rfl]
  unfold c13
  rw [za6 (env':=[some (.tup [.str [117,110],.str op,a.pv])]) (σ':=[]) (by simp (decide:=true) only [zb5,zb0,za3,za4,zb1,zd1,zb7,za1,za0,za9,l_ms,tr_b,l_df,zc7,zc4,zc3,ze4,ze5,zc0,zd8,ix0])]
  haveI e:zg4 (.un op a)=(if op=tNOT then 4 else 7):=rfl
  rw [e]
  rw [zc8 (v:=.int ((if op=tNOT then 4 else 7:Nat):Int)) (env':=[some (.tup [.str [117,110],.str op,a.pv])]) (σ':=[]) (by simp only [ix0,ix1,yt0 h.1,zb0,zb7,zb1,zd1,za3,za4,za9,za0,za1,zc7,decide_true,Option.map_some,tr_b,za8,zc6,ze4,ze5,zc4,zc3,zc9,ze2,zd9,zc0])]
  exact zb8 (σ:=[]) (v:=.int _) rfl rfl
 | _=>exact wk7 (ne_of_beq_false rfl) (ne_of_beq_false rfl)
theorem yp1 (b:Bool) (l:List Lx):txs (wrap b l)=if b then [40]++txs l++[41] else txs l:=by
 cases b with
 | false=>rfl
 | true =>
  show txs (.o tLP::(l++[.o tRP]))=_
  simp [zn5,zp9,zh4,Lx.tx,Lx.tok,Tok.tx]
theorem k_within {t:Tr} (h:Ok t) {k:Nat} {s:List Nat} (hk:zc5 N (d+1) 20 [t.pv] []=.ok (.str s,[])) (hl:s.length≤900000):zc5 N (d+2) 14 [t.pv,.int k] []=.ok (.str (if zg4 t < k then [40]++s++[41] else s),[]):=by
 rw [zb6 (f:=c14) rfl,zb9 (env:=[some t.pv,some (.int k)]) rfl rfl]
 unfold c14
 haveI hb:=wg4 (N:=N) (d:=d) h
 haveI a1:=zm4 (a:=[40]) (b:=s) (by simp; exact j197 hl)
 haveI a2:=zm4 (a:=[40]++s) (b:=[41]) (by simp; exact j198 hl)
 by_cases h1:zg4 t < k
 ·rw [if_pos h1]
  rw [zc8 (v:=.str ([40]++s++[41])) (env':=[some t.pv,some (.int k)]) (σ':=[]) (by simp only [za8,zb0,zc6,za3,za4,zd7,zb1,zb3,zb7,za5,za2,za1,za0,za9,zb2,l_ms,tr_b,l_dt,zf4,l_lt,zf2,zf1,zc4,zc3,zb4,zc0,zc1,zc2,ze2,zc9,zd9,hb,h1,hk,a1,a2])]
  exact zb8 (σ:=[]) (v:=.str _) rfl rfl
 ·rw [if_neg h1]
  rw [za6 (env':=[some t.pv,some (.int k)]) (σ':=[]) (by simp only [zb5,zb0,za3,zb1,zb3,zb7,za5,za2,za1,za0,za9,zb2,l_ms,tr_b,l_df,zf4,l_lt,zc4,zc3,zb4,zc0,zc1,zc2,zd8,hb,h1])]
  rw [zc8 (v:=.str s) (env':=[some t.pv,some (.int k)]) (σ':=[]) (by simp only [zc6,za3,zb3,za5,za2,za1,za0,za9,zb4,zc1,zc2,zc9,hk])]
  exact zb8 (σ:=[]) (v:=.str _) rfl rfl
mutual
noncomputable def tall:Tr→Nat
 | .bin _ l r=>max (tall l) (tall r)+2
 | .un _ a=>tall a+2
 | .ref _ as=>yx2 as+2
 | .sub b lo hi=>max (tall b) (max (we9 lo) (we9 hi))+2
 | _=>5
noncomputable def we9:TrO→Nat
 | .none=>5
 | .some t=>tall t
noncomputable def yx2:Trs→Nat
 | .nil=>5
 | .cons t r=>max (tall t) (yx2 r)
end
noncomputable def rowS:Trs→List (List Nat)
 | .nil=>[]
 | .cons t r=>txs (lx t)::rowS r
theorem yy0 {op:List Nat} {l r:Tr}:tall (.bin op l r)=max (tall l) (tall r)+2:=rfl
theorem tall_un {op:List Nat} {a:Tr}:tall (.un op a)=tall a+2:=rfl
theorem yn6 {s:List Nat} {as:Trs}:tall (.ref s as)=yx2 as+2:=rfl
theorem yz7 {b:Tr} {lo hi:TrO}:tall (.sub b lo hi)=max (tall b) (max (we9 lo) (we9 hi))+2:=rfl
theorem wh2 {t:Tr} {r:Trs}:yx2 (.cons t r)=max (tall t) (yx2 r):=rfl
theorem yq5 {t:Tr} {r:Trs}:rowS (.cons t r)=txs (lx t)::rowS r:=rfl
theorem joinL_c {x y:List Nat} {r:List (List Nat)}:ym4 (x::y::r)=x++44::ym4 (y::r):=rfl
theorem texts_c {x:List Nat} {r:List PV}:yh9 (.str x::r)=(yh9 r).map (x::·):=rfl
theorem yt6:∀ l:List (List Nat),yh9 (l.map PV.str)=some l
 | []=>rfl
 | x::l=>by rw [List.map_cons,texts_c,yt6 l]; rfl
theorem ys9:∀ (r:Trs) (x:List Nat),ym4 (x::rowS r)=x++txs (rowT r)
 | .nil,x=>(List.append_nil x).symm
 | .cons t r,x=>by
  rw [yq5,joinL_c,ys9 r (txs (lx t)),zu2,zn5,zh4]
  rfl
theorem join_row (as:Trs):ym4 (rowS as)=txs (row as):=by
 cases as with
 | nil=>rfl
 | cons t r=>rw [yq5,ys9,yc7,zh4]
theorem yy9:∀ (r:Trs),((rowS r).map List.length).sum+(rowS r).length=(txs (rowT r)).length
 | .nil=>rfl
 | .cons t r=>by
  have:=yy9 r
  rw [yq5,zu2,List.map_cons,List.sum_cons,List.length_cons]
  simp only [zn5,zp9,zh4,List.length_append,Lx.tx,Lx.tok,Tok.tx,List.length_cons,List.length_nil]
  exact j199 this
theorem sum_row (as:Trs):((rowS as).map List.length).sum+(rowS as).length≤(txs (row as)).length+1:=by
 cases as with
 | nil=>exact Nat.zero_le _
 | cons t r =>
  have:=yy9 r
  rw [yq5,yc7,List.map_cons,List.sum_cons,List.length_cons,zh4,List.length_append]
  exact j200 this
theorem k_row {as:Trs} (hk:mapC (fun a σ=>zc5 N d 20 [a] σ) as.pvs []=.ok ((rowS as).map PV.str,[])) (hl:(txs (row as)).length≤900000):zc5 N (d+1) 15 [.list as.pvs] []=.ok (.str (txs (row as)),[]):=by
 rw [ye6]
 rw [if_neg (by decide),if_pos rfl]
 unfold rowP
 dsimp only
 unfold rowX
 rw [show ([some (PV.list as.pvs)]:Env').getD 0 none=some (.list as.pvs) from rfl]
 dsimp only
 rw [hk]
 dsimp only
 unfold joinP
 rw [yt6,Option.bind_some,if_pos (by have:=sum_row as; exact j201 hl this),join_row]
 dsimp only
 rw [za1]
 exact zb8 (σ:=[]) (v:=.str _) rfl rfl
theorem k_part {o:TrO} {s:List Nat} (hk:∀ t,o=.some t→zc5 N d 20 [t.pv] []=.ok (.str s,[])) (hs:o=.none→s=[]):zc5 N (d+1) 18 [o.pv] []=.ok (.str s,[]):=by
 rw [zb6 (f:=c18) rfl,zb9 (env:=[some o.pv]) rfl rfl]
 unfold c18
 cases o with
 | none =>
  haveI hc:cmpP .is .none .none=some true:=rfl
  rw [hs rfl]
  rw [zc8 (v:=.str []) (env':=[some TrO.none.pv]) (σ':=[]) (by simp only [we0,wd8,za8,zb0,zc6,za3,za4,zb1,zb7,za1,za0,za9,l_ms,tr_b,zc4,zc3,zc0,ze2,zc9,zd9,hc])]
  exact zb8 (σ:=[]) (v:=.str _) rfl rfl
 | some t =>
  obtain ⟨l,e⟩:=tag_pv t
  haveI hk:=hk t rfl
  haveI hc:cmpP .is t.pv .none=some false:=by rw [e]; rfl
  rw [za6 (env':=[some t.pv]) (σ':=[]) (by simp only [we0,wd8,zb5,zb0,za3,za4,zb1,zb7,za1,za0,za9,l_ms,tr_b,zc4,zc3,zc0,zd8,hc])]
  rw [zc8 (v:=.str s) (env':=[some t.pv]) (σ':=[]) (by simp only [zc6,za3,zb3,za5,za2,za1,za0,za9,zb4,zc1,zc2,zc9,hk])]
  exact zb8 (σ:=[]) (v:=.str _) rfl rfl
end
end Mine
namespace Mine
set_option tactic.hygienic false
theorem yb1:∀ t:Tr,5≤tall t
 | .bin _ l _=>by have:=yb1 l; rw [yy0]; exact j202 this
 | .un _ a=>Nat.le_trans (yb1 a) (Nat.le_add_right _ 2)
 | .ref _ as=>by
  rw [yn6]
  cases as with
  | nil=>exact Nat.le_add_right 5 2
  | cons t r=>have:=yb1 t; rw [wh2]; exact j202 this
 | .sub b _ _=>by have:=yb1 b; rw [yz7]; exact j202 this
 | .nam _ | .int _ | .real _ _ | .dble _ _ | .log _ | .chr _ | .cplx _ _=>Nat.le_refl _
theorem ym7 (b:Bool) (l:List Lx):(txs l).length≤(txs (wrap b l)).length:=by
 rw [yp1]
 cases b with
 | false=>exact Nat.le_refl _
 | true=>simp; exact j203
section
variable {N d:Nat}
theorem yg9 {t:Tr} (h:Ok t) {k:Nat} (hk:zc5 N (d+1) 20 [t.pv] []=.ok (.str (txs (lx t)),[])) (hl:(txs (lx t)).length≤800000):zc5 N (d+2) 14 [t.pv,.int k] []=.ok (.str (txs (wrap (decide (zg4 t < k)) (lx t))),[]):=by
 rw [k_within h hk (by exact j204 hl),yp1]
 simp only [decide_eq_true_eq]
theorem zn6 {t:PV} {tag x:List Nat} {v2 v3 v4:Option PV} {A R:PSs} (h:tag≠x):exs (zc5 N d) N (.cons (.iff (.cmp .eq (.var 1) (.cst (.str x))) A .nil) R) [some t,some (.str tag),v2,v3,v4] []=exs (zc5 N d) N R [some t,some (.str tag),v2,v3,v4] [] :=
 za6 (by simp only [zb5,zb0,za3,za4,zb1,zb7,za1,za0,za9,zb2,l_ms,tr_b,l_df,zc7,zc4,zc3,zc0,zd8,h])
theorem zr2 {t:Tr} {s:List Nat} (h:wi3 t) (hk:zc5 N d 17 [t.pv] []=.ok (.str s,[])):zc5 N (d+1) 20 [t.pv] []=.ok (.str s,[]):=by
 obtain ⟨l,e⟩:=tag_pv t
 rw [zb6 (f:=c20) rfl,zb9 (env:=[some t.pv,none,none,none,none]) rfl rfl]
 unfold c20
 rw [za6 (env':=[some t.pv,some (.str (tagT t)),none,none,none]) (σ':=[]) (by rw [e]; simp only [zd4,za3,za4,zd1,za1,za0,za9,set0,sets,ze4,ze5,zd6,ix0])]
 haveI ht:tagT t≠[98,105,110]∧tagT t≠[117,110]∧tagT t≠[110,97,109,101]∧tagT t≠[114,101,102]∧tagT t≠[115,117,98]∧tagT t≠[97,108,116]∧tagT t≠[105,100,111]:=by
  cases t with
  | bin _ _ _=>exact h.elim
  | un _ _=>exact h.elim
  | nam _=>exact h.elim
  | ref _ _=>exact h.elim
  | sub _ _ _=>exact h.elim
  | _=>exact ⟨ne_of_beq_false rfl,ne_of_beq_false rfl,ne_of_beq_false rfl,ne_of_beq_false rfl,ne_of_beq_false rfl,ne_of_beq_false rfl,ne_of_beq_false rfl⟩
 refine big fun Gz hGz=>?_
 obtain ⟨h1,h2,h3,h4,h5,h6,h7⟩:=ht <;> refine hGz ?_
 rw [zn6 h1,zn6 h2,zn6 h3,zn6 h4,zn6 h5,zn6 h6,zn6 h7]
 rw [zc8 (v:=.str s) (env':=[some t.pv,some (.str (tagT t)),none,none,none]) (σ':=[]) (by simp only [zc6,za3,zb3,za5,za2,za1,za0,za9,zb4,zc1,zc2,zc9,hk])]
 exact zb8 (σ:=[]) (v:=.str _) rfl rfl
theorem k_list:∀ t:Tr,Ok t→∀ d,tall t≤d→(txs (lx t)).length≤800000→zc5 N d 20 [t.pv] []=.ok (.str (txs (lx t)),[]):=by
 refine @Tr.rec (fun z=>Ok z→∀ d,tall z≤d→(txs (lx z)).length≤800000→zc5 N d 20 [z.pv] []=.ok (.str (txs (lx z)),[])) (fun z=>OkO z→∀ d,we9 z≤d→(txs (lxO z)).length≤800000→∀ t,z=.some t→zc5 N d 20 [t.pv] []=.ok (.str (txs (lxO z)),[])) (fun z=>Oks z→∀ d,yx2 z≤d→((rowS z).map List.length).sum≤800000→mapC (fun a σ=>zc5 N d 20 [a] σ) z.pvs []=.ok ((rowS z).map PV.str,[])) ?_ ?_ ?_ ?_ ?_ ?_ ?_ ?_ ?_ ?_ ?_ ?_ ?_ ?_ ?_
 ·intro op l r i1 i2
  intro h d hd hl
  rw [yy0] at hd
  have t1:=yb1 l
  obtain ⟨d,rfl⟩:=Nat.exists_eq_add_of_le' (show 3≤d by exact j463 t1 hd)
  rw [zt1,zh4] at hl ⊢
  haveI w1:=ym7 (decide (zg4 l < zk5 (zg0 op))) (lx l)
  haveI w2:=ym7 (decide (zg4 r < zi5 (zg0 op))) (lx r)
  simp only [zn5,zp9,Lx.tx,Lx.tok,Tok.tx,List.length_append] at hl ⊢
  haveI k1:=yg9 (N:=N) (d:=d) (k:=zk5 (zg0 op)) h.2.1 (i1 h.2.1 (d+1) (by lia) (by exact j205 hl w1)) (by exact j205 hl w1)
  haveI k2:=yg9 (N:=N) (d:=d) (k:=zi5 (zg0 op)) h.2.2 (i2 h.2.2 (d+1) (by lia) (by exact j206 hl w2)) (by exact j206 hl w2)
  generalize txs (wrap (decide (zg4 l < zk5 (zg0 op))) (lx l))=x at *
  generalize txs (wrap (decide (zg4 r < zi5 (zg0 op))) (lx r))=y at *
  haveI a1:=zm4 (a:=x) (b:=op) (by exact j207 hl)
  haveI a2:=zm4 (a:=x++op) (b:=y) (by simp; exact j208 hl)
  rw [zb6 (f:=c20) rfl,zb9 (env:=[some (.tup [.str [98,105,110],.str op,l.pv,r.pv]),none,none,none,none]) rfl rfl]
  unfold c20
  rw [za6 (env':=[some (.tup [.str [98,105,110],.str op,l.pv,r.pv]),some (.str [98,105,110]),none,none,none]) (σ':=[]) (by simp only [zd4,za3,za4,zd1,za1,za0,za9,set0,sets,ze4,ze5,zd6,ix0])]
  rw [zc8 (v:=.str (x++op++y)) (env':=[some (.tup [.str [98,105,110],.str op,l.pv,r.pv]),some (.str [98,105,110]),some (.int (zg0 op)),some (.int (zk5 (zg0 op))),some (.int (zi5 (zg0 op)))]) (σ':=[]) (by simp only [za8,zf5,zb0,zc6,za3,za4,zd7,zb1,zb3,zd1,zb7,za5,za2,za1,za0,za9,zb2,set0,sets,l_ms,l_bs,tr_b,l_dt,l_it,l_sn,l_sc,zc7,zf2,zf1,zc4,zc3,zb4,ze4,ze5,zc0,zc1,zc2,zg9,zf6,zj0,ze2,zc9,ze3,zd9,ix1,ix2,ix3,yt2 h.1,k1,k2,a1,a2])]
  rw [List.append_assoc]
  exact zb8 (σ:=[]) (v:=.str _) rfl rfl
 ·intro op a i1
  intro h d hd hl
  rw [tall_un] at hd
  have t1:=yb1 a
  obtain ⟨d,rfl⟩:=Nat.exists_eq_add_of_le' (show 3≤d by exact j209 t1 hd)
  rw [yc1] at hl ⊢
  haveI w1:=ym7 (decide (zg4 a < unB op)) (lx a)
  simp only [zn5,zp9,Lx.tx,Lx.tok,Tok.tx,List.length_append] at hl ⊢
  haveI k1:=yg9 (N:=N) (d:=d) (k:=unB op) h.2 (i1 h.2 (d+1) (by exact j210 hd) (by exact j211 hl w1)) (by exact j211 hl w1)
  generalize txs (wrap (decide (zg4 a < unB op)) (lx a))=x at *
  haveI a1:=zm4 (a:=op) (b:=x) (by exact j212 hl)
  haveI hu:=yt0 (σ:=[]) h.1
  rw [zb6 (f:=c20) rfl,zb9 (env:=[some (.tup [.str [117,110],.str op,a.pv]),none,none,none,none]) rfl rfl]
  unfold c20
  rw [za6 (env':=[some (.tup [.str [117,110],.str op,a.pv]),some (.str [117,110]),none,none,none]) (σ':=[]) (by simp only [zd4,za3,za4,zd1,za1,za0,za9,set0,sets,ze4,ze5,zd6,ix0])]
  rw [zn6 (by decide)]
  generalize ((if op=tNOT then 4 else 7:Nat):Int)=q at hu
  rw [zc8 (v:=.str (op++x)) (env':=[some (.tup [.str [117,110],.str op,a.pv]),some (.str [117,110]),none,none,none]) (σ':=[]) (by simp only [za8,zb0,zc6,za3,za4,zd7,zb1,zb3,zd1,zb7,za5,za2,za1,za0,za9,zb2,l_ms,tr_b,l_dt,zc7,zf2,zf1,zc4,zc3,zb4,ze4,ze5,zc0,zc1,zc2,ze2,zc9,zd9,ix1,ix2,hu,k1,a1])]
  exact zb8 (σ:=[]) (v:=.str _) rfl rfl
 ·intro s
  intro h d hd hl
  obtain ⟨d,rfl⟩:=Nat.exists_eq_add_of_le' (Nat.le_trans (show 1≤5 by decide) hd)
  rw [zb6 (f:=c20) rfl,zb9 (env:=[some (.tup [.str [110,97,109,101],.str s]),none,none,none,none]) rfl rfl]
  unfold c20
  rw [za6 (env':=[some (.tup [.str [110,97,109,101],.str s]),some (.str [110,97,109,101]),none,none,none]) (σ':=[]) (by simp only [zd4,za3,za4,zd1,za1,za0,za9,set0,sets,ze4,ze5,zd6,ix0])]
  rw [zn6 (by decide),zn6 (by decide)]
  rw [zc8 (v:=.str s) (env':=[some (.tup [.str [110,97,109,101],.str s]),some (.str [110,97,109,101]),none,none,none]) (σ':=[]) (by simp only [za8,zb0,zc6,za3,za4,zb1,zd1,zb7,za1,za0,za9,zb2,l_ms,tr_b,l_dt,zc7,zc4,zc3,ze4,ze5,zc0,ze2,zc9,zd9,ix1])]
  haveI e:txs (lx (.nam s))=s:=List.append_nil s
  rw [e]
  exact zb8 (σ:=[]) (v:=.str _) rfl rfl
 ·intro s as i1
  intro h d hd hl
  rw [yn6] at hd
  obtain ⟨d,rfl⟩:=Nat.exists_eq_add_of_le' (show 2≤d by exact j213 hd)
  have e:txs (lx (.ref s as))=s++[40]++txs (row as)++[41]:=by
   rw [zp7]; simp [zn5,zp9,zh4,Lx.tx,Lx.tok,Tok.tx]
  rw [e] at hl ⊢
  simp only [List.length_append,List.length_cons,List.length_nil] at hl
  haveI hs:=sum_row as
  haveI k1:=k_row (N:=N) (d:=d) (i1 h.2 d (by exact j42 hd) (by exact j214 hl hs)) (by exact j215 hl)
  generalize txs (row as)=x at *
  haveI a1:=zm4 (a:=s) (b:=[40]) (by simp; exact j216 hl)
  haveI a2:=zm4 (a:=s++[40]) (b:=x) (by simp; exact j217 hl)
  haveI a3:=zm4 (a:=s++[40]++x) (b:=[41]) (by simp; exact j218 hl)
  rw [zb6 (f:=c20) rfl,zb9 (env:=[some (.tup [.str [114,101,102],.str s,.list as.pvs]),none,none,none,none]) rfl rfl]
  unfold c20
  rw [za6 (env':=[some (.tup [.str [114,101,102],.str s,.list as.pvs]),some (.str [114,101,102]),none,none,none]) (σ':=[]) (by simp only [zd4,za3,za4,zd1,za1,za0,za9,set0,sets,ze4,ze5,zd6,ix0])]
  rw [zn6 (by decide),zn6 (by decide),zn6 (by decide)]
  rw [zc8 (v:=.str (s++[40]++x++[41])) (env':=[some (.tup [.str [114,101,102],.str s,.list as.pvs]),some (.str [114,101,102]),none,none,none]) (σ':=[]) (by simp only [za8,zb0,zc6,za3,za4,zd7,zb1,zb3,zd1,zb7,za5,za2,za1,za0,za9,zb2,l_ms,tr_b,l_dt,zc7,zf2,zf1,zc4,zc3,zb4,ze4,ze5,zc0,zc1,zc2,ze2,zc9,zd9,ix1,ix2,k1,a1,a2,a3])]
  exact zb8 (σ:=[]) (v:=.str _) rfl rfl
 ·intro b lo hi i1 i2 i3
  intro h d hd hl
  rw [yz7] at hd
  obtain ⟨d,rfl⟩:=Nat.exists_eq_add_of_le' (show 2≤d by exact j213 hd)
  have e:txs (lx (.sub b lo hi))=txs (lx b)++[40]++txs (lxO lo)++[58]++txs (lxO hi)++[41]:=by
   rw [zt3]; simp [zn5,zp9,zh4,Lx.tx,Lx.tok,Tok.tx]
  rw [e] at hl ⊢
  simp only [List.length_append,List.length_cons,List.length_nil] at hl
  haveI k1:=i1 h.2.1 (d+1) (by exact j464 hd) (by exact j219 hl)
  haveI k2:=k_part (N:=N) (d:=d) (i2 h.2.2.1 d (by exact j465 hd) (by exact j220 hl)) (fun q=>by rw [q]; rfl)
  haveI k3:=k_part (N:=N) (d:=d) (i3 h.2.2.2 d (by exact j466 hd) (by exact j221 hl)) (fun q=>by rw [q]; rfl)
  generalize txs (lx b)=x at *
  generalize txs (lxO lo)=y at *
  generalize txs (lxO hi)=z at *
  haveI a1:=zm4 (a:=x) (b:=[40]) (by simp; exact j222 hl)
  haveI a2:=zm4 (a:=x++[40]) (b:=y) (by simp; exact j223 hl)
  haveI a3:=zm4 (a:=x++[40]++y) (b:=[58]) (by simp; exact j224 hl)
  haveI a4:=zm4 (a:=x++[40]++y++[58]) (b:=z) (by simp; exact j225 hl)
  haveI a5:=zm4 (a:=x++[40]++y++[58]++z) (b:=[41]) (by simp; exact j226 hl)
  rw [zb6 (f:=c20) rfl,zb9 (env:=[some (.tup [.str [115,117,98],b.pv,lo.pv,hi.pv]),none,none,none,none]) rfl rfl]
  unfold c20
  rw [za6 (env':=[some (.tup [.str [115,117,98],b.pv,lo.pv,hi.pv]),some (.str [115,117,98]),none,none,none]) (σ':=[]) (by simp only [zd4,za3,za4,zd1,za1,za0,za9,set0,sets,ze4,ze5,zd6,ix0])]
  rw [zn6 (by decide),zn6 (by decide),zn6 (by decide),zn6 (by decide)]
  rw [zc8 (v:=.str (x++[40]++y++[58]++z++[41])) (env':=[some (.tup [.str [115,117,98],b.pv,lo.pv,hi.pv]),some (.str [115,117,98]),none,none,none]) (σ':=[]) (by simp only [za8,zb0,zc6,za3,za4,zd7,zb1,zb3,zd1,zb7,za5,za2,za1,za0,za9,zb2,l_ms,tr_b,l_dt,zc7,zf2,zf1,zc4,zc3,zb4,ze4,ze5,zc0,zc1,zc2,ze2,zc9,zd9,ix1,ix2,ix3,k1,k2,k3,a1,a2,a3,a4,a5])]
  exact zb8 (σ:=[]) (v:=.str _) rfl rfl
 ·intro i
  intro h d hd hl
  obtain ⟨d,rfl⟩:=Nat.exists_eq_add_of_le' (show 5≤d from hd)
  exact zr2 trivial (ya3 h trivial)
 ·intro m e
  intro h d hd hl
  obtain ⟨d,rfl⟩:=Nat.exists_eq_add_of_le' (show 5≤d from hd)
  exact zr2 trivial (ya3 h trivial)
 ·intro m e
  intro h d hd hl
  obtain ⟨d,rfl⟩:=Nat.exists_eq_add_of_le' (show 5≤d from hd)
  exact zr2 trivial (ya3 h trivial)
 ·intro b
  intro h d hd hl
  obtain ⟨d,rfl⟩:=Nat.exists_eq_add_of_le' (show 5≤d from hd)
  exact zr2 trivial (ya3 h trivial)
 ·intro s
  intro h d hd hl
  obtain ⟨d,rfl⟩:=Nat.exists_eq_add_of_le' (show 5≤d from hd)
  exact zr2 trivial (ya3 h trivial)
 ·intro a b
  intro h d hd hl
  obtain ⟨d,rfl⟩:=Nat.exists_eq_add_of_le' (show 5≤d from hd)
  exact zr2 trivial (ya3 h trivial)
 ·intro _ d hd hl t q
  cases q
 ·intro t i1
  intro h d hd hl t' q
  cases q
  replace hd:tall _≤d:=hd
  rw [yx6] at hl ⊢
  exact i1 h d hd hl
 ·intro _ d hd hl
  exact rfl
 ·intro t r i1 i2
  intro h d hd hl
  rw [wh2] at hd
  rw [yq5,List.map_cons,List.sum_cons] at hl
  show mapC _ (t.pv::r.pvs) []=_
  rw [mapC_c,i1 h.1 d (by lia) (by exact j93 hl),za1]
  rw [i2 h.2 d (by lia) (by exact j213 hl)]
  rfl
end
end Mine
namespace Mine
set_option tactic.hygienic false
open PySem
theorem Num.pl (a:Num):zi9 a.pv=true:=by cases a <;> rfl
theorem Tr.pl:∀ t:Tr,zi9 t.pv=true :=
 @Tr.rec (fun t=>zi9 t.pv=true) (fun t=>zi9 t.pv=true) (fun t=>zq8 t.pvs=true)
  (fun _ l r i1 i2=>(andT rfl (andT rfl (andT i1 (andT i2 rfl))):(true && (true && (zi9 l.pv && (zi9 r.pv && true))))=true)) (fun _ a i1=>(andT rfl (andT rfl (andT i1 rfl)):(true && (true && (zi9 a.pv && true)))=true)) (fun _=>rfl)
  (fun _ as i1=>(andT rfl (andT rfl (andT i1 rfl)):(true && (true && (zq8 as.pvs && true)))=true)) (fun b lo hi i1 i2 i3=>(andT rfl (andT i1 (andT i2 (andT i3 rfl))):(true && (zi9 b.pv && (zi9 lo.pv && (zi9 hi.pv && true))))=true))
  (fun _=>rfl) (fun _ _=>rfl) (fun _ _=>rfl) (fun _=>rfl) (fun _=>rfl) (fun a b=>(andT rfl (andT a.pl (andT b.pl rfl)):(true && (zi9 a.pv && (zi9 b.pv && true)))=true)) rfl (fun _ i1=>i1) rfl
  (fun t r i1 i2=>(andT i1 i2:(zi9 t.pv && zq8 r.pvs)=true))
theorem eqv_str {a b:List Nat}:PyData.eqv (.str ⟨a.toArray⟩) (.str ⟨b.toArray⟩)=true↔a=b:=by
 rw [PyData.eqv,beq_iff_eq]
 constructor
 ·intro h
  have:=congrArg (fun s:Str=>s.cps.toList) h
  simpa using this
 ·rintro rfl; rfl
theorem eqv_int {a b:Int}:PyData.eqv (.int a) (.int b)=true↔a=b:=by
 rw [PyData.eqv,beq_iff_eq]
theorem eqv_bool {a b:Bool}:PyData.eqv (.bool a) (.bool b)=true↔a=b:=by
 rw [PyData.eqv,beq_iff_eq]
theorem eqv_tup {a b:List PyData}:PyData.eqv (.tuple a) (.tuple b)=PyData.eqvAll a b:=by rw [PyData.eqv]
theorem eqv_list {a b:List PyData}:PyData.eqv (.list a) (.list b)=PyData.eqvAll a b:=by rw [PyData.eqv]
theorem all_cons {x y:PyData} {xs ys:List PyData}:PyData.eqvAll (x::xs) (y::ys)=(PyData.eqv x y && PyData.eqvAll xs ys):=by rw [PyData.eqvAll]
theorem zn9:PyData.eqvAll [] []=true:=by rw [PyData.eqvAll]
theorem Num.D_int {i:Int}:toD (Num.pv (.int i))=.tuple [.str ⟨([105,110,116]:List Nat).toArray⟩,.int i]:=rfl
theorem Num.D_real {m e:Int}:toD (Num.pv (.real m e))=.tuple [.str ⟨([114,101,97,108]:List Nat).toArray⟩,.int m,.int e]:=rfl
theorem wc6 {a b:Num}:PyData.eqv (toD a.pv) (toD b.pv)=true↔a=b:=by
 cases a <;> cases b <;> simp [Num.D_int,Num.D_real,eqv_tup,eqv_str,eqv_int,all_cons,zn9]
theorem zu7 (t:Tr):∃ l,toD t.pv=.tuple (.str ⟨(tagT t).toArray⟩::l):=by
 cases t <;> exact ⟨_,rfl⟩
theorem tag_eq {a b:Tr} (h:PyData.eqv (toD a.pv) (toD b.pv)=true):tagT a=tagT b:=by
 obtain ⟨x,hx⟩:=zu7 a
 obtain ⟨y,hy⟩:=zu7 b
 rw [hx,hy,eqv_tup,all_cons,Bool.and_eq_true] at h
 exact eqv_str.mp h.1
noncomputable def tn:Tr→Nat
 | .bin _ _ _=>0
 | .un _ _=>1
 | .nam _=>2
 | .ref _ _=>3
 | .sub _ _ _=>4
 | .int _=>5
 | .real _ _=>6
 | .dble _ _=>7
 | .log _=>8
 | .chr _=>9
 | .cplx _ _=>10
noncomputable def tgs:List (List Nat):=[tagT (.bin [] (.nam []) (.nam [])),tagT (.un [] (.nam [])),tagT (.nam []),tagT (.ref [] .nil),tagT (.sub (.nam []) .none .none),tagT (.int 0),tagT (.real 0 0),tagT (.dble 0 0),tagT (.log true),tagT (.chr []),tagT (.cplx (.int 0) (.int 0))]
theorem tn_tag (a:Tr):tn a=tgs.findIdx (· == tagT a):=by cases a <;> rfl
theorem cst {p:Prop} {i j:Nat} (h:i=j) (e:Nat.beq i j=false):p:=by subst h; rw [Nat.beq_refl] at e; exact nb e.symm
theorem yg6 {a b:Tr} (h:PyData.eqv (toD a.pv) (toD b.pv)=true):tn a=tn b:=by rw [tn_tag,tn_tag,tag_eq h]
section
variable {G:Tr→Prop} {b:Tr}
theorem inv0 (h:0=tn b) (k:∀ a' b' c',G (.bin a' b' c')):G b:=by cases b with | bin a' b' c'=>exact k a' b' c' | _=>exact cst h rfl
theorem inv1 (h:1=tn b) (k:∀ a' b',G (.un a' b')):G b:=by cases b with | un a' b'=>exact k a' b' | _=>exact cst h rfl
theorem inv2 (h:2=tn b) (k:∀ a',G (.nam a')):G b:=by cases b with | nam a'=>exact k a' | _=>exact cst h rfl
theorem inv3 (h:3=tn b) (k:∀ a' b',G (.ref a' b')):G b:=by cases b with | ref a' b'=>exact k a' b' | _=>exact cst h rfl
theorem inv4 (h:4=tn b) (k:∀ a' b' c',G (.sub a' b' c')):G b:=by cases b with | sub a' b' c'=>exact k a' b' c' | _=>exact cst h rfl
theorem inv5 (h:5=tn b) (k:∀ a',G (.int a')):G b:=by cases b with | int a'=>exact k a' | _=>exact cst h rfl
theorem inv6 (h:6=tn b) (k:∀ a' b',G (.real a' b')):G b:=by cases b with | real a' b'=>exact k a' b' | _=>exact cst h rfl
theorem inv7 (h:7=tn b) (k:∀ a' b',G (.dble a' b')):G b:=by cases b with | dble a' b'=>exact k a' b' | _=>exact cst h rfl
theorem inv8 (h:8=tn b) (k:∀ a',G (.log a')):G b:=by cases b with | log a'=>exact k a' | _=>exact cst h rfl
theorem inv9 (h:9=tn b) (k:∀ a',G (.chr a')):G b:=by cases b with | chr a'=>exact k a' | _=>exact cst h rfl
theorem inv10 (h:10=tn b) (k:∀ a' b',G (.cplx a' b')):G b:=by cases b with | cplx a' b'=>exact k a' b' | _=>exact cst h rfl
end
theorem D_bin {op:List Nat} {l r:Tr}:toD (Tr.pv (.bin op l r))=.tuple [.str ⟨([98,105,110]:List Nat).toArray⟩,.str ⟨op.toArray⟩,toD l.pv,toD r.pv]:=rfl
theorem D_un {op:List Nat} {a:Tr}:toD (Tr.pv (.un op a))=.tuple [.str ⟨([117,110]:List Nat).toArray⟩,.str ⟨op.toArray⟩,toD a.pv]:=rfl
theorem D_nam {s:List Nat}:toD (Tr.pv (.nam s))=.tuple [.str ⟨([110,97,109,101]:List Nat).toArray⟩,.str ⟨s.toArray⟩]:=rfl
theorem D_ref {s:List Nat} {as:Trs}:toD (Tr.pv (.ref s as))=.tuple [.str ⟨([114,101,102]:List Nat).toArray⟩,.str ⟨s.toArray⟩,.list (toDs as.pvs)]:=rfl
theorem D_sub {b:Tr} {lo hi:TrO}:toD (Tr.pv (.sub b lo hi))=.tuple [.str ⟨([115,117,98]:List Nat).toArray⟩,toD b.pv,toD lo.pv,toD hi.pv]:=rfl
theorem D_int {i:Int}:toD (Tr.pv (.int i))=.tuple [.str ⟨([105,110,116]:List Nat).toArray⟩,.int i]:=rfl
theorem D_real {m e:Int}:toD (Tr.pv (.real m e))=.tuple [.str ⟨([114,101,97,108]:List Nat).toArray⟩,.int m,.int e]:=rfl
theorem D_dble {m e:Int}:toD (Tr.pv (.dble m e))=.tuple [.str ⟨([100,98,108,101]:List Nat).toArray⟩,.int m,.int e]:=rfl
theorem D_log {b:Bool}:toD (Tr.pv (.log b))=.tuple [.str ⟨([108,111,103]:List Nat).toArray⟩,.bool b]:=rfl
theorem D_chr {s:List Nat}:toD (Tr.pv (.chr s))=.tuple [.str ⟨([99,104,97,114]:List Nat).toArray⟩,.str ⟨s.toArray⟩]:=rfl
theorem D_cplx {a b:Num}:toD (Tr.pv (.cplx a b))=.tuple [.str ⟨([99,112,108,120]:List Nat).toArray⟩,toD a.pv,toD b.pv]:=rfl
theorem tr_eq:∀ a b:Tr,PyData.eqv (toD a.pv) (toD b.pv)=true→a=b:=by
 refine @Tr.rec (fun a=>∀ b:Tr,PyData.eqv (toD a.pv) (toD b.pv)=true→a=b) (fun a=>∀ b:TrO,PyData.eqv (toD a.pv) (toD b.pv)=true→a=b) (fun a=>∀ b:Trs,PyData.eqvAll (toDs a.pvs) (toDs b.pvs)=true→a=b) ?_ ?_ ?_ ?_ ?_ ?_ ?_ ?_ ?_ ?_ ?_ ?_ ?_ ?_ ?_
 ·intro a b c i1 i2 d h
  refine @inv0 (fun d=>PyData.eqv (toD (Tr.bin a b c).pv) (toD d.pv)=true→Tr.bin a b c=d) d (yg6 (a:=.bin a b c) h) (fun a' b' c' h=>?_) h
  simp only [D_bin,eqv_tup,all_cons,zn9,Bool.and_eq_true,eqv_str] at h
  rw [h.2.1,i1 _ h.2.2.1,i2 _ h.2.2.2.1]
 ·intro a b i1 d h
  refine @inv1 (fun d=>PyData.eqv (toD (Tr.un a b).pv) (toD d.pv)=true→Tr.un a b=d) d (yg6 (a:=.un a b) h) (fun a' b' h=>?_) h
  simp only [D_un,eqv_tup,all_cons,zn9,Bool.and_eq_true,eqv_str] at h
  rw [h.2.1,i1 _ h.2.2.1]
 ·intro a d h
  refine @inv2 (fun d=>PyData.eqv (toD (Tr.nam a).pv) (toD d.pv)=true→Tr.nam a=d) d (yg6 (a:=.nam a) h) (fun a' h=>?_) h
  simp only [D_nam,eqv_tup,all_cons,zn9,Bool.and_eq_true,eqv_str] at h
  rw [h.2.1]
 ·intro a b i1 d h
  refine @inv3 (fun d=>PyData.eqv (toD (Tr.ref a b).pv) (toD d.pv)=true→Tr.ref a b=d) d (yg6 (a:=.ref a b) h) (fun a' b' h=>?_) h
  simp only [D_ref,eqv_tup,all_cons,zn9,Bool.and_eq_true,eqv_list,eqv_str] at h
  rw [h.2.1,i1 _ h.2.2.1]
 ·intro a b c i1 i2 i3 d h
  refine @inv4 (fun d=>PyData.eqv (toD (Tr.sub a b c).pv) (toD d.pv)=true→Tr.sub a b c=d) d (yg6 (a:=.sub a b c) h) (fun a' b' c' h=>?_) h
  simp only [D_sub,eqv_tup,all_cons,zn9,Bool.and_eq_true,eqv_str] at h
  rw [i1 _ h.2.1,i2 _ h.2.2.1,i3 _ h.2.2.2.1]
 ·intro a d h
  refine @inv5 (fun d=>PyData.eqv (toD (Tr.int a).pv) (toD d.pv)=true→Tr.int a=d) d (yg6 (a:=.int a) h) (fun a' h=>?_) h
  simp only [D_int,eqv_tup,all_cons,zn9,Bool.and_eq_true,eqv_str,eqv_int] at h
  rw [h.2.1]
 ·intro a b  d h
  refine @inv6 (fun d=>PyData.eqv (toD (Tr.real a b).pv) (toD d.pv)=true→Tr.real a b=d) d (yg6 (a:=.real a b) h) (fun a' b' h=>?_) h
  simp only [D_real,eqv_tup,all_cons,zn9,Bool.and_eq_true,eqv_str,eqv_int] at h
  rw [h.2.1,h.2.2.1]
 ·intro a b  d h
  refine @inv7 (fun d=>PyData.eqv (toD (Tr.dble a b).pv) (toD d.pv)=true→Tr.dble a b=d) d (yg6 (a:=.dble a b) h) (fun a' b' h=>?_) h
  simp only [D_dble,eqv_tup,all_cons,zn9,Bool.and_eq_true,eqv_str,eqv_int] at h
  rw [h.2.1,h.2.2.1]
 ·intro a d h
  refine @inv8 (fun d=>PyData.eqv (toD (Tr.log a).pv) (toD d.pv)=true→Tr.log a=d) d (yg6 (a:=.log a) h) (fun a' h=>?_) h
  simp only [D_log,eqv_tup,all_cons,zn9,Bool.and_eq_true,eqv_str,eqv_bool] at h
  rw [h.2.1]
 ·intro a d h
  refine @inv9 (fun d=>PyData.eqv (toD (Tr.chr a).pv) (toD d.pv)=true→Tr.chr a=d) d (yg6 (a:=.chr a) h) (fun a' h=>?_) h
  simp only [D_chr,eqv_tup,all_cons,zn9,Bool.and_eq_true,eqv_str] at h
  rw [h.2.1]
 ·intro a b  d h
  refine @inv10 (fun d=>PyData.eqv (toD (Tr.cplx a b).pv) (toD d.pv)=true→Tr.cplx a b=d) d (yg6 (a:=.cplx a b) h) (fun a' b' h=>?_) h
  simp only [D_cplx,eqv_tup,all_cons,zn9,Bool.and_eq_true,eqv_str,wc6] at h
  rw [h.2.1,h.2.2.1]
 ·intro d h
  cases d with
  | none=>rfl
  | some t =>
   obtain ⟨l,e⟩:=zu7 t
   replace h:PyData.eqv (toD TrO.none.pv) (toD t.pv)=true:=h
   rw [e] at h
   cases h
 ·intro t i1 d h
  cases d with
  | some t'=>rw [i1 t' h]
  | none =>
   obtain ⟨l,e⟩:=zu7 t
   replace h:PyData.eqv (toD t.pv) (toD TrO.none.pv)=true:=h
   rw [e] at h
   cases h
 ·intro d h
  cases d with
  | nil=>rfl
  | cons t r=>exact nb h
 ·intro t r i1 i2 d h
  cases d with
  | nil=>exact nb h
  | cons t' r' =>
   replace h:=(all_cons (x:=toD t.pv) (y:=toD t'.pv) (xs:=toDs r.pvs) (ys:=toDs r'.pvs)).symm.trans h
   rw [Bool.and_eq_true] at h
   rw [i1 t' h.1,i2 r' h.2]
theorem self_eq:∀ v:PV,PyData.eqv (toD v) (toD v)=true :=
 @PV.rec (fun v=>PyData.eqv (toD v) (toD v)=true) (fun l=>PyData.eqvAll (toDs l) (toDs l)=true)
  rfl (fun _=>eqv_bool.mpr rfl) (fun _=>eqv_int.mpr rfl) (fun _=>eqv_str.mpr rfl) (fun _ h=>eqv_tup.trans h) (fun _ h=>eqv_list.trans h) (fun _=>rfl) (fun _=>rfl) rfl (fun _ _ h k=>all_cons.trans (andT h k))
theorem eqv_ne {a b:Tr} (h:a≠b):PyData.eqv (toD a.pv) (toD b.pv)=false:=by
 cases q:PyData.eqv (toD a.pv) (toD b.pv) with
 | false=>rfl
 | true=>exact absurd (tr_eq a b q) h
end Mine
namespace Mine
set_option tactic.hygienic false
noncomputable def tau (zs:List Int) (X:za7) (a:Nat):za7:=[.list (zs.map PV.int),.int a]::X
theorem ints_nl (zs:List Int):zd0 (zs.map PV.int)=true:=by
 induction zs with
 | nil=>rfl
 | cons z r ih=>simp [nl_s,nl_i,nl_t,nl_l,ya9,zz3,ih]
section
variable {N d:Nat} {zs:List Int} {X:za7} {a:Nat}
theorem zt2 (hX:X.all zd0=true):(tau zs X a).all zd0=true:=by
 rw [tau,List.all_cons,hX]
 simp [nl_s,nl_i,nl_t,nl_l,ya9,zz3,ints_nl]
theorem tau_i1:idxP (tau zs X a) (.loc 0) (.int 1)=some (.int a):=rfl
theorem tau_i0:idxP (tau zs X a) (.loc 0) (.int 0)=some (.list (zs.map PV.int)):=rfl
theorem zm6 {n:Nat} (hn:0 < n) (hX:X.all zd0=true) (hz:zs.length≤1000) (ha:a≤1000):∃ r:Nat,r < n∧zc5 N (d+1) 45 [.loc 0,.int n] (tau zs X a)=.ok (.int r,tau zs X (a+1)):=by
 haveI key:∀ i:Int,∃ r:Nat,r < n∧binP .mod (.int i) (.int n)=some (.int r):=by
  intro i
  haveI h1:=Int.fmod_nonneg_of_pos i (show (0:Int) < n by exact Int.natCast_pos.mpr hn)
  haveI h2:=Int.fmod_lt_of_pos i (show (0:Int) < n by exact Int.natCast_pos.mpr hn)
  refine ⟨(Int.fmod i n).toNat,by exact (Int.toNat_lt h1).mpr h2,?_⟩
  haveI h3:(0:Int) < n:=by exact Int.lt_of_le_of_lt h1 h2
  refine (if_pos h3).trans ?_
  congr 2; exact Int.eq_natCast_toNat.mpr h1
 have hput:ex (zc5 N d) N (.put (.var 0) (.cst (.int 1)) (.bin .add (.var 2) (.cst (.int 1)))) [some (.loc 0),some (.int n),some (.int a)] (tau zs X a)=.ok (.next,[some (.loc 0),some (.int n),some (.int a)],tau zs X (a+1)):=by
  rw [ex_put]
  simp only [za3,za4,zd7,za1,za0,za9,zb2,zd5,ci1,zf2,zf1]
  rfl
 have hlen:biP (tau zs X (a+1)) .len [.list (zs.map PV.int)]=some (.int zs.length):=by
  haveI:zs.length≤szL:=Nat.le_trans hz (by decide)
  refine (if_pos (by rw [List.length_map]; exact this)).trans ?_
  rw [List.length_map]
 by_cases hlt:a < zs.length
 ·obtain ⟨r,hr,e⟩:=key (zs[a])
  refine ⟨r,hr,?_⟩
  haveI hi:idxP (tau zs X (a+1)) (.list (zs.map PV.int)) (.int a)=some (.int zs[a]):=by
   refine yu7 ?_ (by rw [List.length_map]; exact Nat.le_trans hz (by decide))
   rw [List.getElem?_map,List.getElem?_eq_getElem hlt]; rfl
  rw [zb6 (f:=c45) rfl,zb9 (env:=[some (.loc 0),some (.int n),none]) rfl rfl]
  unfold c45
  rw [za6 (env':=[some (.loc 0),some (.int n),some (.int a)]) (σ':=tau zs X a) (by simp only [zd4,za3,za4,zd1,za1,za0,za9,set0,sets,ze4,ze5,zd6,tau_i1])]
  rw [za6 hput]
  rw [zc8 (v:=.int r) (env':=[some (.loc 0),some (.int n),some (.int a)]) (σ':=tau zs X (a+1)) (by simp only [za8,zb0,zc6,za3,za4,zd7,zb1,zh9,zd1,zb7,za5,za2,za1,za0,za9,zb2,l_ms,tr_b,l_dt,zf4,l_lt,zf2,zf1,zc4,zc3,zh6,ze4,ze5,zc0,zc1,zc2,ze2,zc9,zd9,tau_i0,hlen,hlt,hi,e])]
  exact zb8 (σ:=tau zs X (a+1)) (v:=.int r) rfl (zt2 hX)
 ·obtain ⟨r,hr,e⟩:=key ((a:Int) * a+5 * a+9)
  refine ⟨r,hr,?_⟩
  haveI m1:binP .mul (.int a) (.int a)=some (.int ((a:Int) * a)):=by
   haveI:(a:Int).natAbs < 2 ^ 63:=by simp only [Int.natAbs_natCast]; exact Nat.lt_of_le_of_lt ha (by decide)
   exact if_pos this
  haveI m2:binP .mul (.int 5) (.int a)=some (.int (5 * (a:Int))):=rfl
  rw [zb6 (f:=c45) rfl,zb9 (env:=[some (.loc 0),some (.int n),none]) rfl rfl]
  unfold c45
  rw [za6 (env':=[some (.loc 0),some (.int n),some (.int a)]) (σ':=tau zs X a) (by simp only [zd4,za3,za4,zd1,za1,za0,za9,set0,sets,ze4,ze5,zd6,tau_i1])]
  rw [za6 hput]
  rw [za6 (env':=[some (.loc 0),some (.int n),some (.int a)]) (σ':=tau zs X (a+1)) (by simp only [zb5,zb0,za3,za4,zb1,zh9,zd1,zb7,za5,za2,za1,za0,za9,zb2,l_ms,tr_b,l_df,zf4,l_lt,zc4,zc3,zh6,ze4,ze5,zc0,zc1,zc2,zd8,tau_i0,hlen,hlt])]
  rw [zc8 (v:=.int r) (env':=[some (.loc 0),some (.int n),some (.int a)]) (σ':=tau zs X (a+1)) (by simp only [zc6,za3,za4,zd7,za1,za0,za9,zb2,zd5,zf2,zf1,zc9,m1,m2,e])]
  exact zb8 (σ:=tau zs X (a+1)) (v:=.int r) rfl (zt2 hX)
theorem mod10 (m:Nat):binP .mod (.int m) (.int 10)=some (.int ((m % 10:Nat):Int)):=by
 haveI:(0:Int) < 10:=by decide
 show (if (0:Int) < 10 then some (PV.int (Int.fmod m 10)) else none)=_
 rw [if_pos this,Int.fmod_eq_emod_of_nonneg _ (by decide)]
 rfl
theorem div10 (m:Nat):binP .div (.int m) (.int 10)=some (.int ((m / 10:Nat):Int)):=by
 show (if (10:Int)=10 then some (PV.int (Int.fdiv m 10)) else none)=_
 rw [if_pos rfl,Int.fdiv_eq_ediv_of_nonneg _ (by decide)]
 rfl
theorem yj9 {σ:za7}:∀ (k m fu:Nat) (e:Int),0 < m→m < 10 ^ k→k < fu→∃ m' j:Nat,j≤k∧0 < m'∧m'≤m∧m' % 10≠0 ∧
  zj9 (ev (zc5 N d) (.cmp .eq (.bin .mod (.var 1) (.cst (.int 10))) (.cst (.int 0)))).2 (exs (zc5 N d) N (.cons (.asg 1 (.bin .div (.var 1) (.cst (.int 10)))) (.cons (.asg 2 (.bin .add (.var 2) (.cst (.int 1)))) .nil))) fu [some (.loc 0),some (.int m),some (.int e)] σ=.ok (.next,[some (.loc 0),some (.int m'),some (.int (e+j))],σ)
 | 0,m,fu,e,h0,hm,hf=>by simp at hm; exact (j228 h0 hm).elim
 | k+1,m,fu,e,h0,hm,hf=>by
  obtain ⟨fu,rfl⟩:=Nat.exists_eq_add_of_le' (show 1≤fu by exact j84 hf)
  haveI ez:(((m % 10:Nat):Int)=0)=(m % 10=0):=by simp only [eq_iff_iff]; exact Int.ofNat_eq_zero
  by_cases hz:m % 10=0
  ·haveI e1:e+1+0=e+1:=by exact Int.add_zero _
   refine big fun Gz hGz=>?_
   obtain ⟨m',j,h1,h2,h3,h4,h5⟩:=yj9 k (m / 10) fu (e+1) (by exact j468 h0 hz) (by rw [Nat.pow_succ] at hm; exact j123 hm) (by exact j101 hf) <;> refine hGz ?_
   refine ⟨m',j+1,by exact j124 h1,h2,by lia,h4,?_⟩
   haveI hzt:(((m % 10:Nat):Int)=0)=True:=by rw [ez]; simp only [hz]
   rw [zm8 (env':=[some (.loc 0),some (.int ((m / 10:Nat):Int)),some (.int (e+1))]) (σ':=σ) (σ'':=σ) (by simp only [za3,za4,zd7,zb1,zb7,za1,za0,za9,zb2,l_ms,tr_b,l_dt,ze6,zf2,zf1,zc4,zc3,zc0,mod10,hzt]) (by simp only [za8,zb5,zd4,za3,za4,zd7,za1,za0,za9,zb2,set0,sets,zd5,zf2,zf1,zd6,ze3,div10]),h5]
   rw [show e+1+(j:Int)=e+((j+1:Nat):Int) by exact j160]
  ·haveI hzf:(((m % 10:Nat):Int)=0)=False:=by rw [ez]; simp only [hz]
   refine ⟨m,0,by exact j229,h0,Nat.le_refl _,hz,?_⟩
   rw [zr7 (σ':=σ) (by simp only [za3,za4,zd7,zb1,zb7,za1,za0,za9,zb2,l_ms,tr_b,l_df,ze6,zf2,zf1,zc4,zc3,zc0,mod10,hzf])]
   simp
theorem k_pair (hN:10 < N) (hX:X.all zd0=true) (hz:zs.length≤1000) (ha:a+1≤1000):∃ (m:Nat) (e:Int),zp6 m e∧zc5 N (d+2) 46 [.loc 0] (tau zs X a)=.ok (.tup [.int m,.int e],tau zs X (a+2)):=by
 obtain ⟨m,hm,k1⟩:=zm6 (N:=N) (d:=d) (zs:=zs) (X:=X) (a:=a) (n:=5000) (by decide) hX hz (by exact j230 ha)
 obtain ⟨e,he,k2⟩:=zm6 (N:=N) (d:=d) (zs:=zs) (X:=X) (a:=a+1) (n:=41) (by decide) hX hz ha
 haveI k1:zc5 N (d+1) 45 [.loc 0,.int 5000] (tau zs X a)=_:=k1
 haveI k2:zc5 N (d+1) 45 [.loc 0,.int 41] (tau zs X (a+1))=.ok (.int e,tau zs X (a+2)):=k2
 have s1:ex (zc5 N (d+1)) N (.asg 1 (.call 45 (.cons (.var 0) (.cons (.cst (.int 5000)) .nil)))) [some (.loc 0),none,none] (tau zs X a)=.ok (.next,[some (.loc 0),some (.int m),none],tau zs X (a+1)):=by simp only [zd4,za3,za4,zb3,za5,za2,za1,za0,za9,set0,sets,zb4,zc1,zc2,zd6,k1]
 have s2:ex (zc5 N (d+1)) N (.asg 2 (.bin .sub (.call 45 (.cons (.var 0) (.cons (.cst (.int 41)) .nil))) (.cst (.int 20)))) [some (.loc 0),some (.int m),none] (tau zs X (a+1))=.ok (.next,[some (.loc 0),some (.int m),some (.int (e - 20))],tau zs X (a+2)):=by simp only [zd4,za3,za4,zd7,zb3,za5,za2,za1,za0,za9,set0,sets,zg6,zf2,zf1,zb4,zc1,zc2,zd6,k2]
 by_cases h0:m=0
 ·subst h0
  refine ⟨0,0,⟨by decide,by decide,by decide,fun _=>rfl,fun q=>absurd rfl q⟩,?_⟩
  rw [zb6 (f:=c46) rfl,zb9 (env:=[some (.loc 0),none,none]) rfl rfl]
  unfold c46
  rw [za6 s1,za6 s2]
  rw [zc8 (v:=.tup [.int 0,.int 0]) (env':=[some (.loc 0),some (.int 0),some (.int (e - 20))]) (σ':=tau zs X (a+2)) (by
   haveI:((((0:Nat):Int))=0)=True:=by simp
   simp only [za8,zb0,zc6,za3,za4,zb1,ze8,zb7,za5,za2,za1,za0,za9,zb2,l_ms,tr_b,l_dt,ze6,zc4,zc3,ze9,zc0,zc1,zc2,ze2,zc9,zd9,this]
   rfl)]
  exact zb8 (σ:=tau zs X (a+2)) (v:=.tup [.int 0,.int 0]) rfl (zt2 hX)
 ·obtain ⟨m',j,h1,h2,h3,h4,h5⟩:=yj9 (N:=N) (d:=d+1) (σ:=tau zs X (a+2)) 4 m N ((e:Int) - 20) (by exact Nat.zero_lt_of_ne_zero h0) (by lia) (by exact j231 hN)
  refine ⟨m',(e:Int) - 20+j,⟨by exact j129 hm h3,by lia,by lia,fun q=>by exact j469 h4 q,fun _=>h4⟩,?_⟩
  rw [zb6 (f:=c46) rfl,zb9 (env:=[some (.loc 0),none,none]) rfl rfl]
  unfold c46
  haveI hne:((m:Int)=0)=False:=by simp only [eq_iff_iff,iff_false]; lia
  rw [za6 s1,za6 s2]
  rw [za6 (env':=[some (.loc 0),some (.int m),some (.int (e - 20))]) (σ':=tau zs X (a+2)) (by simp only [zb5,zb0,za3,za4,zb1,zb7,za1,za0,za9,zb2,l_ms,tr_b,l_df,ze6,zc4,zc3,zc0,zd8,hne])]
  rw [za6 (by rw [yb3]; exact h5)]
  rw [zc8 (v:=.tup [.int m',.int ((e:Int) - 20+j)]) (env':=[some (.loc 0),some (.int m'),some (.int ((e:Int) - 20+j))]) (σ':=tau zs X (a+2)) (by simp only [zc6,za3,ze8,za5,za2,za1,za0,za9,zb2,ze9,zc1,zc2,zc9])]
  exact zb8 (σ:=tau zs X (a+2)) (v:=.tup [.int m',.int _]) rfl (zt2 hX)
theorem mul_s {s v:Int} (hs:s.natAbs≤2):binP .mul (.int s) (.int v)=some (.int (s * v)):=by
 haveI:s.natAbs < 2 ^ 63:=by lia
 exact if_pos this
theorem wf2 (hN:10 < N) (hX:X.all zd0=true) (hz:zs.length≤1000) (ha:a+4≤1000):∃ (x:Num) (b:Nat),yp3 x∧a≤b∧b≤a+4∧zc5 N (d+3) 47 [.loc 0] (tau zs X a)=.ok (x.pv,tau zs X b):=by
 refine big fun Gz hGz=>?_
 obtain ⟨r1,h1,k1⟩:=zm6 (N:=N) (d:=d+1) (zs:=zs) (X:=X) (a:=a) (n:=2) (by decide) hX hz (by exact j93 ha) <;> refine hGz ?_
 obtain ⟨r2,h2,k2⟩:=zm6 (N:=N) (d:=d+1) (zs:=zs) (X:=X) (a:=a+1) (n:=2) (by decide) hX hz (by exact j232 ha)
 have k1:zc5 N (d+2) 45 [.loc 0,.int 2] (tau zs X a)=_:=k1
 have k2:zc5 N (d+2) 45 [.loc 0,.int 2] (tau zs X (a+1))=.ok (.int r2,tau zs X (a+2)):=k2
 have hs:((1:Int) - 2 * r1).natAbs=1:=by exact j470 h1
 have m1:=mul_s (s:=2) (v:=r1) (by decide)
 have s1:ex (zc5 N (d+2)) N (.asg 1 (.bin .sub (.cst (.int 1)) (.bin .mul (.cst (.int 2)) (.call 45 (.cons (.var 0) (.cons (.cst (.int 2)) .nil)))))) [some (.loc 0),none,none,none] (tau zs X a)=.ok (.next,[some (.loc 0),some (.int ((1:Int) - 2 * r1)),none,none],tau zs X (a+1)):=by simp only [zd4,za3,za4,zd7,zb3,za5,za2,za1,za0,za9,set0,sets,zg6,zf2,zf1,zb4,zc1,zc2,zd6,k1,m1]
 generalize hsg:(1:Int) - 2 * r1=sg' at *
 by_cases h0:r2=0
 ·subst h0
  obtain ⟨r3,h3,k3⟩:=zm6 (N:=N) (d:=d+1) (zs:=zs) (X:=X) (a:=a+2) (n:=30) (by decide) hX hz (by exact j233 ha)
  haveI k3:zc5 N (d+2) 45 [.loc 0,.int 30] (tau zs X (a+2))=.ok (.int r3,tau zs X (a+3)):=k3
  haveI m2:=mul_s (s:=sg') (v:=r3) (by exact j234 hs)
  refine ⟨.int (sg' * r3),a+3,?_,by exact j235,by exact j236,?_⟩
  ·show (sg' * r3).natAbs < 30
   rw [Int.natAbs_mul,hs]; simpa using h3
  ·rw [zb6 (f:=c47) rfl,zb9 (env:=[some (.loc 0),none,none,none]) rfl rfl]
   unfold c47
   rw [za6 s1]
   haveI hz0:((((0:Nat):Int))=0)=True:=by simp
   rw [zc8 (v:=.tup [.str [105,110,116],.int (sg' * r3)]) (env':=[some (.loc 0),some (.int sg'),none,none]) (σ':=tau zs X (a+3)) (by simp only [za8,zb0,zc6,za3,za4,zd7,zb1,zb3,ze8,zb7,za5,za2,za1,za0,za9,zb2,l_ms,tr_b,l_dt,ze6,zf2,zf1,zc4,zc3,zb4,ze9,zc0,zc1,zc2,ze2,zc9,zd9,k2,hz0,k3,m2])]
   exact zb8 (σ:=tau zs X (a+3)) (v:=.tup [.str [105,110,116],.int (sg' * r3)]) rfl (zt2 hX)
 ·refine big fun Gz hGz=>?_
  obtain ⟨m,e,hp,k3⟩:=k_pair (N:=N) (d:=d) (zs:=zs) (X:=X) (a:=a+2) hN hX hz (by exact j237 ha) <;> refine hGz ?_
  haveI m2:=mul_s (s:=sg') (v:=m) (by exact j234 hs)
  refine ⟨.real (sg' * m) e,a+4,?_,by exact j235,by exact j66,?_⟩
  ·show zp6 (sg' * m).natAbs e
   rw [Int.natAbs_mul,hs]; simpa using hp
  ·rw [zb6 (f:=c47) rfl,zb9 (env:=[some (.loc 0),none,none,none]) rfl rfl]
   unfold c47
   rw [za6 s1]
   haveI hne:((r2:Int)=0)=False:=by simp only [eq_iff_iff,iff_false]; exact Int.ofNat_ne_zero.mpr h0
   rw [za6 (env':=[some (.loc 0),some (.int sg'),none,none]) (σ':=tau zs X (a+2)) (by simp only [zb5,zb0,za3,za4,zb1,zb3,zb7,za5,za2,za1,za0,za9,l_ms,tr_b,l_df,ze6,zc4,zc3,zb4,zc0,zc1,zc2,zd8,k2,hne])]
   rw [za6 (env':=[some (.loc 0),some (.int sg'),some (.int m),some (.int e)]) (σ':=tau zs X (a+4)) (by simp only [zf5,za3,zb3,za5,za2,za1,za0,za9,set0,sets,l_bs,l_it,l_sn,l_sc,zb4,zc1,zc2,zg9,zf6,zj0,k3])]
   rw [zc8 (v:=.tup [.str [114,101,97,108],.int (sg' * m),.int e]) (env':=[some (.loc 0),some (.int sg'),some (.int m),some (.int e)]) (σ':=tau zs X (a+4)) (by simp only [zc6,za3,za4,zd7,ze8,za5,za2,za1,za0,za9,zb2,zf2,zf1,ze9,zc1,zc2,zc9,m2])]
   exact zb8 (σ:=tau zs X (a+4)) (v:=.tup [.str [114,101,97,108],.int (sg' * m),.int e]) rfl (zt2 hX)
end
end Mine
namespace Mine
set_option tactic.hygienic false
open PySem
section
variable {N d:Nat} {zs:List Int} {X:za7} {a:Nat} {σ:za7}
theorem ya5 {Y:za7} {n:Nat} {v:PV} (hn:n=σ.length) (hv:zh8 v=true) (h:σ.all zd0=true):zh3 n (.ret v) (σ++Y)=.ok (v,σ):=by
 subst hn
 simp only [zh3,flP,zx8 hv,List.take_left,h,if_true]
theorem ye9 {l:List PV} (hl:zd0 l=true) (h:σ.all zd0=true):zh3 σ.length (.ret (.loc σ.length)) (σ++[l])=.ok (.list l,σ):=by
 haveI e:zp0 σ.length (σ++[l]) (.loc σ.length)=some (.list l):=yz3 (Nat.le_refl _) yd3 hl
 simp only [zh3,flP,e,List.take_left,h,if_true]
theorem yu9 (L:List (List Nat)):zd0 (L.map PV.str)=true:=by
 induction L with
 | nil=>rfl
 | cons x r ih=>simp [nl_s,nl_i,nl_t,nl_l,ya9,zz3,ih]
theorem idx_L {L:List (List Nat)} {r:Nat} (hr:r < L.length) (hL:L.length≤1000):idxP σ (.list (L.map PV.str)) (.int r)=some (.str L[r]):=by
 refine yu7 ?_ (by rw [List.length_map]; exact Nat.le_trans hL (by decide))
 rw [List.getElem?_map,List.getElem?_eq_getElem hr]; rfl
theorem ym6 {l:List PV} {r:Nat} {v:PV} (hr:l[r]?=some v) (hl:l.length≤1000):idxP (σ++[l]) (.loc σ.length) (.int r)=some v:=by
 haveI h1:r < l.length:=(List.getElem?_eq_some_iff.mp hr).1
 haveI h2:(Int.natAbs (r:Int)) < 2 ^ 62:=by
  haveI:(1000:Nat) < 2 ^ 62:=by decide
  simp only [Int.natAbs_natCast]; exact j18 h1 hl this
 show (if Int.natAbs (r:Int) < 2 ^ 62 then ((σ++[l])[σ.length]?).bind fun l=>(zv6 r l.length).bind (l[·]?) else none)=_
 rw [if_pos h2,yd3]
 show (zv6 r l.length).bind _=_
 rw [ye0 h1]; exact hr
noncomputable def opsT:List (List Nat):=[[43],[45],[42],[47],[42,42],[47,47],[46,69,81,46],[46,76,84,46],[46,65,78,68,46],[46,79,82,46],[46,69,81,86,46],[46,78,69,81,86,46],[46,71,69,46],[42,42],[45],[42]]
theorem k_opsL (hσ:σ.all zd0=true):zc5 N (d+1) 42 [] σ=.ok (.list (opsT.map PV.str),σ):=by
 rw [zb6 (f:=c42) rfl,zb9 (env:=[]) rfl rfl]
 unfold c42
 rw [zc8 (v:=.loc σ.length) (env':=[]) (σ':=σ++[opsT.map PV.str]) (by simp only [zc6,za4,zu5,za5,za2,za1,zt6,zc1,zc2,zc9]; rfl)]
 exact ye9 (yu9 _) hσ
theorem yn7 (hσ:σ.all zd0=true):zc5 N (d+1) 43 [] σ=.ok (.list (nameL.map PV.str),σ):=by
 rw [zb6 (f:=c43) rfl,zb9 (env:=[]) rfl rfl]
 unfold c43
 rw [zc8 (v:=.loc σ.length) (env':=[]) (σ':=σ++[nameL.map PV.str]) (by simp only [zc6,za4,zu5,za5,za2,za1,zt6,zc1,zc2,zc9]; rfl)]
 exact ye9 (yu9 _) hσ
theorem k_textsL (hσ:σ.all zd0=true):zc5 N (d+1) 44 [] σ=.ok (.list (textL.map PV.str),σ):=by
 rw [zb6 (f:=c44) rfl,zb9 (env:=[]) rfl rfl]
 unfold c44
 rw [zc8 (v:=.loc σ.length) (env':=[]) (σ':=σ++[textL.map PV.str]) (by simp only [zc6,za4,zu5,za5,za2,za1,zt6,zc1,zc2,zc9]; rfl)]
 exact ye9 (yu9 _) hσ
noncomputable def IsLeaf:Tr→Prop
 | .bin _ _ _ | .un _ _ | .ref _ _ | .sub _ _ _=>False
 | _=>True
theorem eqi (a b:Nat):((a:Int)=(b:Int))=(a=b):=by simp only [eq_iff_iff]; exact Int.ofNat_inj
theorem k_leaf {way:Nat} (hN:10 < N) (hX:X.all zd0=true) (hz:zs.length≤1000) (ha:a+8≤1000):∃ (t:Tr) (b:Nat),Ok t∧IsLeaf t∧a≤b∧b≤a+8∧zc5 N (d+4) 48 [.loc 0,.int way] (tau zs X a)=.ok (t.pv,tau zs X b):=by
 rw [zb6 (f:=c48) rfl,zb9 (env:=[some (.loc 0),some (.int way),none,none,none]) rfl rfl]
 unfold c48
 have hτ:∀ b,(tau zs X b).all zd0=true:=fun b=>zt2 hX
 haveI w1:((way:Int)=1)=(way=1):=eqi way 1
 haveI w2:((way:Int)=2)=(way=2):=eqi way 2
 haveI w3:((way:Int)=3)=(way=3):=eqi way 3
 haveI w4:((way:Int)=4)=(way=4):=eqi way 4
 haveI w5:((way:Int)=5)=(way=5):=eqi way 5
 haveI w6:((way:Int)=6)=(way=6):=eqi way 6
 by_cases h1:way=1
 ·refine big fun Gz hGz=>?_
  obtain ⟨r,hr,k⟩:=zm6 (N:=N) (d:=d+2) (zs:=zs) (X:=X) (a:=a) (n:=1000000000000) (by decide) hX hz (by exact j93 ha) <;> refine hGz ?_
  haveI k:zc5 N (d+3) 45 [.loc 0,.int 1000000000000] (tau zs X a)=_:=k
  haveI hpow:binP .pow (.int 10) (.int 12)=some (.int 1000000000000):=rfl
  refine ⟨.int r,a+1,⟨by exact Int.natCast_nonneg _,by exact Int.lt_toNat.mp hr⟩,trivial,by exact j86,by exact j238,?_⟩
  haveI w1t:((way:Int)=1)=True:=by rw [w1]; simp only [h1]
  rw [zc8 (v:=.tup [.str [105,110,116],.int r]) (env':=[some (.loc 0),some (.int way),none,none,none]) (σ':=tau zs X (a+1)) (by simp only [za8,zb0,zc6,za3,za4,zd7,zb1,zb3,ze8,zb7,za5,za2,za1,za0,za9,zb2,l_ms,tr_b,l_dt,ze6,zf2,zf1,zc4,zc3,zb4,ze9,zc0,zc1,zc2,ze2,zc9,zd9,w1t,hpow,k])]
  exact zb8 (σ:=tau zs X (a+1)) (v:=.tup [.str [105,110,116],.int r]) rfl (hτ _)
 rw [za6 (env':=[some (.loc 0),some (.int way),none,none,none]) (σ':=tau zs X a) (by simp only [zb5,zb0,za3,za4,zb1,zb7,za1,za0,za9,zb2,l_ms,tr_b,l_df,ze6,zc4,zc3,zc0,zd8,w1,h1])]
 by_cases h2:way=2∨way=3
 ·obtain ⟨m,e,hp,k⟩:=k_pair (N:=N) (d:=d+1) (zs:=zs) (X:=X) (a:=a) hN hX hz (by exact j239 ha)
  haveI ht:∀ σ,(ev (zc5 N (d+3)) (.bool false (.cons (.cmp .eq (.var 1) (.cst (.int 2))) (.cons (.cmp .eq (.var 1) (.cst (.int 3))) .nil)))).2 [some (.loc 0),some (.int way),none,none,none] σ=.ok (true,σ):=by
   intro σ
   haveI w2:((way:Int)=2)=(way=2):=eqi way 2
   by_cases q:way=2
   ·have w2t:((way:Int)=2)=True:=by rw [w2]; simp only [q]
    simp only [za3,za4,zb1,zb7,ze0,zd3,za1,za0,za9,zb2,l_ms,tr_b,bt3,l_dt,l_nf,ze6,zc4,zc3,zc0,kA_e,w2t]
   ·have w3t:((way:Int)=3)=True:=by rw [w3]; simp only [show way=3 by lia]
    simp only [za3,za4,zb1,zb7,ze0,zd3,za1,za0,za9,zb2,l_ms,tr_b,bt3,bt4,l_dt,l_df,l_nf,ze6,zc4,zc3,zc0,kA_e,w2,q,w3t]
  have hl:(tau zs X (a+2)).length=(tau zs X a).length:=rfl
  rcases h2 with h2 | h2
  ·subst h2
   refine ⟨.real m e,a+2,⟨by exact Int.natCast_nonneg _,by simpa using hp⟩,trivial,by exact j235,by exact j240,?_⟩
   have hi:=ym6 (σ:=tau zs X (a+2)) (l:=[PV.str [114,101,97,108],.str [100,98,108,101]]) (r:=0) rfl (by decide)
   have hi:idxP (tau zs X (a+2)++[[PV.str [114,101,97,108],.str [100,98,108,101]]]) (.loc (tau zs X (a+2)).length) (.int (((2:Nat):Int) - 2))=some (.str [114,101,97,108]):=hi
   rw [zc8 (v:=.tup [.str [114,101,97,108],.int m,.int e]) (env':=[some (.loc 0),some (.int ((2:Nat):Int)),some (.int m),some (.int e),none]) (σ':=tau zs X (a+2)++[[PV.str [114,101,97,108],.str [100,98,108,101]]]) (by rw [zb0,ht,za1]; simp only [za8,zf5,zc6,za3,za4,zd7,zb3,zd1,ze8,zu5,za5,za2,za1,za0,za9,zb2,set0,sets,l_bs,l_it,l_sn,l_sc,zg6,zf2,zf1,zb4,ze4,ze5,ze9,zt6,zc1,zc2,zg9,zf6,zj0,ze2,zc9,ze3,zd9,k,hi])]
   exact ya5 (v:=.tup [.str [114,101,97,108],.int m,.int e]) hl.symm rfl (hτ _)
  ·subst h2
   refine ⟨.dble m e,a+2,⟨by exact Int.natCast_nonneg _,by simpa using hp⟩,trivial,by exact j235,by exact j240,?_⟩
   have hi:=ym6 (σ:=tau zs X (a+2)) (l:=[PV.str [114,101,97,108],.str [100,98,108,101]]) (r:=1) rfl (by decide)
   have hi:idxP (tau zs X (a+2)++[[PV.str [114,101,97,108],.str [100,98,108,101]]]) (.loc (tau zs X (a+2)).length) (.int (((3:Nat):Int) - 2))=some (.str [100,98,108,101]):=hi
   rw [zc8 (v:=.tup [.str [100,98,108,101],.int m,.int e]) (env':=[some (.loc 0),some (.int ((3:Nat):Int)),some (.int m),some (.int e),none]) (σ':=tau zs X (a+2)++[[PV.str [114,101,97,108],.str [100,98,108,101]]]) (by rw [zb0,ht,za1]; simp only [za8,zf5,zc6,za3,za4,zd7,zb3,zd1,ze8,zu5,za5,za2,za1,za0,za9,zb2,set0,sets,l_bs,l_it,l_sn,l_sc,zg6,zf2,zf1,zb4,ze4,ze5,ze9,zt6,zc1,zc2,zg9,zf6,zj0,ze2,zc9,ze3,zd9,k,hi])]
   exact ya5 (v:=.tup [.str [100,98,108,101],.int m,.int e]) hl.symm rfl (hτ _)
 obtain ⟨h2,h3⟩:=not_or.mp h2
 rw [za6 (env':=[some (.loc 0),some (.int way),none,none,none]) (σ':=tau zs X a) (by simp only [zb5,zb0,za3,za4,zb1,zb7,ze0,zh2,zd3,za1,za0,za9,zb2,l_ms,tr_b,bt4,l_df,ze6,zc4,zc3,zc0,kA_e,zd8,w2,w3,h2,h3])]
 by_cases h4:way=4
 ·refine big fun Gz hGz=>?_
  obtain ⟨r,hr,k⟩:=zm6 (N:=N) (d:=d+2) (zs:=zs) (X:=X) (a:=a) (n:=2) (by decide) hX hz (by exact j93 ha) <;> refine hGz ?_
  haveI k:zc5 N (d+3) 45 [.loc 0,.int 2] (tau zs X a)=_:=k
  haveI w4t:((way:Int)=4)=True:=by rw [w4]; simp only [h4]
  refine ⟨.log (decide ((r:Int)=1)),a+1,trivial,trivial,by exact j86,by exact j238,?_⟩
  rw [zc8 (v:=.tup [.str [108,111,103],.bool (decide ((r:Int)=1))]) (env':=[some (.loc 0),some (.int way),none,none,none]) (σ':=tau zs X (a+1)) (by simp only [za8,zb0,zc6,za3,za4,zb1,zb3,ze8,zb7,za5,za2,za1,za0,za9,zb2,l_ms,tr_b,l_dt,ze6,zc4,zc3,zb4,ze9,zc0,zc1,zc2,ze2,zc9,zd9,w4t,k])]
  exact zb8 (σ:=tau zs X (a+1)) (v:=.tup [.str [108,111,103],.bool _]) rfl (hτ _)
 rw [za6 (env':=[some (.loc 0),some (.int way),none,none,none]) (σ':=tau zs X a) (by simp only [zb5,zb0,za3,za4,zb1,zb7,za1,za0,za9,zb2,l_ms,tr_b,l_df,ze6,zc4,zc3,zc0,zd8,w4,h4])]
 by_cases h5:way=5
 ·obtain ⟨r,hr,k⟩:=zm6 (N:=N) (d:=d+2) (zs:=zs) (X:=X) (a:=a) (n:=8) (by decide) hX hz (by exact j93 ha)
  have k:zc5 N (d+3) 45 [.loc 0,.int 8] (tau zs X a)=_:=k
  have kl:=k_textsL (N:=N) (d:=d+2) (hτ a)
  have hi:=idx_L (σ:=tau zs X (a+1)) (L:=textL) (r:=r) hr (by decide)
  have w5t:((way:Int)=5)=True:=by rw [w5]; simp only [h5]
  refine ⟨.chr textL[r],a+1,List.getElem_mem _,trivial,by exact j86,by exact j238,?_⟩
  rw [zc8 (v:=.tup [.str [99,104,97,114],.str textL[r]]) (env':=[some (.loc 0),some (.int way),none,none,none]) (σ':=tau zs X (a+1)) (by simp only [za8,zb0,zc6,za3,za4,zb1,zb3,zd1,ze8,zb7,za5,za2,za1,za0,za9,zb2,l_ms,tr_b,l_dt,ze6,zc4,zc3,zb4,ze4,ze5,ze9,zc0,zc1,zc2,ze2,zc9,zd9,w5t,k,kl,hi])]
  exact zb8 (σ:=tau zs X (a+1)) (v:=.tup [.str [99,104,97,114],.str _]) rfl (hτ _)
 rw [za6 (env':=[some (.loc 0),some (.int way),none,none,none]) (σ':=tau zs X a) (by simp only [zb5,zb0,za3,za4,zb1,zb7,za1,za0,za9,zb2,l_ms,tr_b,l_df,ze6,zc4,zc3,zc0,zd8,w5,h5])]
 by_cases h6:way=6
 ·refine big fun Gz hGz=>?_
  obtain ⟨x,b,hx,b1,b2,k1⟩:=wf2 (N:=N) (d:=d) (zs:=zs) (X:=X) (a:=a) hN hX hz (by exact j241 ha) <;> refine hGz ?_
  refine big fun Gz hGz=>?_
  obtain ⟨y,c,hy,c1,c2,k2⟩:=wf2 (N:=N) (d:=d) (zs:=zs) (X:=X) (a:=b) hN hX hz (by exact j242 ha b2) <;> refine hGz ?_
  haveI w6t:((way:Int)=6)=True:=by rw [w6]; simp only [h6]
  refine ⟨.cplx x y,c,⟨hx,hy⟩,trivial,by exact j37 b1 c1,by exact j243 c2 b2,?_⟩
  rw [zc8 (v:=.tup [.str [99,112,108,120],x.pv,y.pv]) (env':=[some (.loc 0),some (.int way),none,none,some x.pv]) (σ':=tau zs X c) (by simp only [za8,zd4,zb0,zc6,za3,za4,zb1,zb3,ze8,zb7,za5,za2,za1,za0,za9,zb2,set0,sets,l_ms,tr_b,l_dt,ze6,zc4,zc3,zb4,ze9,zc0,zc1,zc2,zd6,ze2,zc9,ze3,zd9,w6t,k1,k2])]
  exact zb8 (σ:=tau zs X c) (v:=.tup [.str [99,112,108,120],x.pv,y.pv]) (by simp [nl_s,nl_i,nl_t,nl_l,ya9,zz3,Num.pv_nl]) (hτ _)
 rw [za6 (env':=[some (.loc 0),some (.int way),none,none,none]) (σ':=tau zs X a) (by simp only [zb5,zb0,za3,za4,zb1,zb7,za1,za0,za9,zb2,l_ms,tr_b,l_df,ze6,zc4,zc3,zc0,zd8,w6,h6])]
 obtain ⟨r,hr,k⟩:=zm6 (N:=N) (d:=d+2) (zs:=zs) (X:=X) (a:=a) (n:=6) (by decide) hX hz (by exact j93 ha)
 have k:zc5 N (d+3) 45 [.loc 0,.int 6] (tau zs X a)=_:=k
 have kl:=yn7 (N:=N) (d:=d+2) (hτ a)
 have hi:=idx_L (σ:=tau zs X (a+1)) (L:=nameL) (r:=r) hr (by decide)
 refine ⟨.nam nameL[r],a+1,List.getElem_mem _,trivial,by exact j86,by exact j238,?_⟩
 rw [zc8 (v:=.tup [.str [110,97,109,101],.str nameL[r]]) (env':=[some (.loc 0),some (.int way),none,none,none]) (σ':=tau zs X (a+1)) (by simp only [zc6,za3,za4,zb3,zd1,ze8,za5,za2,za1,za0,za9,zb4,ze4,ze5,ze9,zc1,zc2,zc9,k,kl,hi])]
 exact zb8 (σ:=tau zs X (a+1)) (v:=.tup [.str [110,97,109,101],.str _]) rfl (hτ _)
end
end Mine
namespace Mine
set_option tactic.hygienic false
set_option genSizeOfSpec false
set_option genSizeOf false
set_option genInjectivity false
open PySem
noncomputable def Wk:Nat→Nat
 | 0=>10
 | k+1=>2 * Wk k+32
noncomputable def Lk:Nat→Nat
 | 0=>300
 | k+1=>2 * Lk k+1000
noncomputable def Ak:Nat→Nat
 | 0=>10
 | k+1=>2 * Ak k+30
theorem Wk_s {k:Nat}:Wk (k+1)=2 * Wk k+32:=rfl
theorem Lk_s {k:Nat}:Lk (k+1)=2 * Lk k+1000:=rfl
theorem Ak_s {k:Nat}:Ak (k+1)=2 * Ak k+30:=rfl
theorem Wk_ge:∀ k,10≤Wk k
 | 0=>Nat.le_refl _
 | k+1=>by have:=Wk_ge k; rw [Wk_s]; exact j244
theorem Lk_ge:∀ k,300≤Lk k
 | 0=>Nat.le_refl _
 | k+1=>by have:=Lk_ge k; rw [Lk_s]; exact j245
theorem Ak_ge:∀ k,10≤Ak k
 | 0=>Nat.le_refl _
 | k+1=>by have:=Ak_ge k; rw [Ak_s]; exact j246
structure Good (k:Nat) (t:Tr):Prop where
 ok:Ok t
 w:wl (lx t)+(if zg4 t < 10 then 6 else 0)≤Wk k
 len:(txs (lx t)).length≤Lk k
 tl:tall t≤5+4 * k
 dp:(toD t.pv).depth≤2+3 * k
theorem zf3 (x:Lx):txs [x]=x.tok.tx:=List.append_nil _
theorem mx {a b c:Nat} (h1:a≤c) (h2:b≤c):max a b≤c:=Nat.max_le.mpr ⟨h1,h2⟩
theorem dp_bin {op:List Nat} {l r:Tr}:(toD (Tr.bin op l r).pv).depth=max 0 (max 0 (max (toD l.pv).depth (max (toD r.pv).depth 0)))+1:=rfl
theorem dp_un {op:List Nat} {a:Tr}:(toD (Tr.un op a).pv).depth=max 0 (max 0 (max (toD a.pv).depth 0))+1:=rfl
theorem dp_ref {s:List Nat} {as:Trs}:(toD (Tr.ref s as).pv).depth=max 0 (max 0 (max (PyData.depthAll (toDs as.pvs)+1) 0))+1:=rfl
theorem dp_sub {b:Tr} {lo hi:TrO}:(toD (Tr.sub b lo hi).pv).depth=max 0 (max (toD b.pv).depth (max (toD lo.pv).depth (max (toD hi.pv).depth 0)))+1:=rfl
theorem dp_cplx {a b:Num}:(toD (Tr.cplx a b).pv).depth=max 0 (max (toD a.pv).depth (max (toD b.pv).depth 0))+1:=rfl
theorem dpS_c {t:Tr} {r:Trs}:PyData.depthAll (toDs (Trs.cons t r).pvs)=max (toD t.pv).depth (PyData.depthAll (toDs r.pvs)):=rfl
theorem yp6:∀ s∈nameL,s.length≤6:=by decide
theorem ops_len:∀ s∈opsL,s.length≤6:=by decide
theorem we1:∀ s∈textL,s.length≤6:=by decide
theorem wl_num (a:Num):wl a.lx≤2:=by
 cases a <;> simp only [Num.lx] <;> split <;> first | exact Nat.le_refl 2 | exact Nat.zero_le _
theorem yu0 (a:Num):(toD a.pv).depth=1:=by
 cases a <;> rfl
theorem ys5 {t:Tr} (ok:Ok t) (h:IsLeaf t) (k:Nat):Good k t:=by
 have w0:=Wk_ge k
 have l0:=Lk_ge k
 cases t with
 | bin _ _ _=>exact h.elim
 | un _ _=>exact h.elim
 | ref _ _=>exact h.elim
 | sub _ _ _=>exact h.elim
 | nam s =>
  refine ⟨ok,?_,?_,?_,?_⟩
  ·show 0+0≤_; exact j247
  ·(first | rw [yb4,zf3] | rw [yg7,zf3] | rw [zx3,zf3] | rw [zw9,zf3] | rw [yf5,zf3] | rw [yh5,zf3]); have:=yp6 s ok; show s.length≤_; exact j248 l0 this
  ·show 5≤_; exact j235
  ·show 1≤_; exact j249
 | int i =>
  refine ⟨ok,?_,?_,?_,?_⟩
  ·show 0+0≤_; exact j247
  ·(first | rw [yb4,zf3] | rw [yg7,zf3] | rw [zx3,zf3] | rw [zw9,zf3] | rw [yf5,zf3] | rw [yh5,zf3])
   replace ok:0≤i∧i < 1000000000000:=ok
   haveI:(dg i.toNat).length≤12:=zw0 _ 11 (by lia)
   show (intText (i.toNat:Int)).length≤_
   rw [zi1]; exact j250 l0 this
  ·show 5≤_; exact j235
  ·show 1≤_; exact j249
 | real m e =>
  refine ⟨ok,?_,?_,?_,?_⟩
  ·show 0+0≤_; exact j247
  ·(first | rw [yb4,zf3] | rw [yg7,zf3] | rw [zx3,zf3] | rw [zw9,zf3] | rw [yf5,zf3] | rw [yh5,zf3])
   haveI:=zn2 (c:=69) ok.2
   show (zf9 m.toNat e 69).length≤_; exact j251 l0 this
  ·show 5≤_; exact j235
  ·show 1≤_; exact j249
 | dble m e =>
  refine ⟨ok,?_,?_,?_,?_⟩
  ·show 0+0≤_; exact j247
  ·(first | rw [yb4,zf3] | rw [yg7,zf3] | rw [zx3,zf3] | rw [zw9,zf3] | rw [yf5,zf3] | rw [yh5,zf3])
   haveI:=zn2 (c:=68) ok.2
   show (zf9 m.toNat e 68).length≤_; exact j251 l0 this
  ·show 5≤_; exact j235
  ·show 1≤_; exact j249
 | log b =>
  refine ⟨ok,?_,?_,?_,?_⟩
  ·show 0+0≤_; exact j247
  ·(first | rw [yb4,zf3] | rw [yg7,zf3] | rw [zx3,zf3] | rw [zw9,zf3] | rw [yf5,zf3] | rw [yh5,zf3])
   haveI:(Tok.log b).tx.length≤7:=by cases b <;> decide
   show (Tok.log b).tx.length≤_; exact j252 l0 this
  ·show 5≤_; exact j235
  ·show 1≤_; exact j249
 | chr s =>
  refine ⟨ok,?_,?_,?_,?_⟩
  ·show 0+0≤_; exact j247
  ·(first | rw [yb4,zf3] | rw [yg7,zf3] | rw [zx3,zf3] | rw [zw9,zf3] | rw [yf5,zf3] | rw [yh5,zf3])
   haveI:=we1 s ok
   haveI h2:=yq6 s
   show (39::(zh0 s++[39])).length≤_
   simp; exact j253 l0 h2 this
  ·show 5≤_; exact j235
  ·show 1≤_; exact j249
 | cplx a b =>
  have h1:=wl_num a
  have h2:=wl_num b
  haveI ok':yp3 a∧yp3 b:=ok
  have l1:=(k_num (N:=0) (d:=0) ok'.1).2
  haveI l2:=(k_num (N:=0) (d:=0) ok'.2).2
  refine ⟨ok,?_,?_,?_,?_⟩
  ·rw [zp3,wl_c,zk6,wl_c,zk6,wl_rp,wl_lp,wl_cm]
   show _+0≤_; exact j254 w0 h1 h2
  ·rw [zp3]
   simp [zn5,zp9,zh4,Lx.tx,Lx.tok,Tok.tx]; exact j255 l0 l1 l2
  ·show 5≤_; exact j235
  ·rw [dp_cplx,yu0,yu0]; show 2≤_; exact j235
theorem yv7 {t:Tr} {j:Nat} (hj:j≤10):wl (wrap (decide (zg4 t < j)) (lx t))≤wl (lx t)+(if zg4 t < 10 then 6 else 0):=by
 by_cases h:zg4 t < j
 ·rw [decide_eq_true h,wl_t,if_pos (by exact j256 h hj)]; exact j257
 ·rw [decide_eq_false h]; exact Nat.le_add_right _ _
theorem ym9 {b:Bool} {l:List Lx}:(txs (wrap b l)).length≤(txs l).length+2:=by
 rw [yp1]
 cases b with
 | false=>simp
 | true=>simp
theorem leftB_le (s:List Nat):zk5 (zg0 s)≤10:=by
 have:=zs8 s
 unfold zk5; split <;> (try split) <;> (first | exact j66 | exact j67 | exact j68 this)
theorem wk2 (s:List Nat):zi5 (zg0 s)≤10:=by
 have:=zs8 s
 unfold zi5; split <;> (first | exact j69 | exact j70 this)
theorem unB_le (s:List Nat):unB s≤10:=by unfold unB; split <;> (first | exact j258 | exact j259)
theorem six_le (t:Tr):(if zg4 t < 10 then 6 else 0)≤6:=by split <;> (first | exact j66 | exact j229)
theorem good_bin {k:Nat} {op:List Nat} {l r:Tr} (ho:op∈opsL) (hl:Good k l) (hr:Good k r):Good (k+1) (.bin op l r):=by
 refine ⟨⟨ho,hl.ok,hr.ok⟩,?_,?_,?_,?_⟩
 ·haveI a1:=yv7 (t:=l) (leftB_le op)
  haveI a2:=yv7 (t:=r) (wk2 op)
  haveI a3:=hl.w
  haveI a4:=hr.w
  haveI a5:=six_le (.bin op l r)
  haveI a6:wT (Lx.o op).tok=2:=wT_bin (zv3 ho)
  rw [zt1,zk6,wl_c,Wk_s]; exact j260 a1 a2 a3 a4 a5 a6
 ·have a1:=ym9 (b:=decide (zg4 l < zk5 (zg0 op))) (l:=lx l)
  have a2:=ym9 (b:=decide (zg4 r < zi5 (zg0 op))) (l:=lx r)
  have a3:=hl.len
  have a4:=hr.len
  have a5:=ops_len op ho
  rw [zt1,zh4,Lk_s]
  simp only [zn5,zp9,Lx.tx,Lx.tok,Tok.tx,List.length_append]; exact j261 a5 a3 a1 a4 a2
 ·have a3:=hl.tl
  have a4:=hr.tl
  exact Nat.le_trans (Nat.add_le_add_right (mx a3 a4) 2) (by exact j262)
 ·have a3:=hl.dp
  have a4:=hr.dp
  exact Nat.le_trans (Nat.succ_le_succ (mx (Nat.zero_le _) (mx (Nat.zero_le _) (mx a3 (mx a4 (Nat.zero_le _)))))) (by exact j263)
theorem good_un {k:Nat} {op:List Nat} {l:Tr} (ho:op=tNOT∨op=tPL∨op=tMI) (hl:Good k l):Good (k+1) (.un op l):=by
 refine ⟨⟨ho,hl.ok⟩,?_,?_,?_,?_⟩
 ·haveI a1:=yv7 (t:=l) (unB_le op)
  haveI a3:=hl.w
  haveI a5:=six_le (.un op l)
  haveI a6:wT (Lx.o op).tok=2:=wT_un ho
  rw [yc1,wl_c,Wk_s]; exact j264 a6 a5 a1 a3
 ·have a1:=ym9 (b:=decide (zg4 l < unB op)) (l:=lx l)
  have a3:=hl.len
  have a5:op.length≤6:=by rcases ho with rfl | rfl | rfl <;> decide
  rw [yc1,Lk_s]
  simp only [zn5,zp9,Lx.tx,Lx.tok,Tok.tx,List.length_append]; exact j265 a5 a3 a1
 ·haveI a3:=hl.tl
  exact Nat.le_trans (Nat.add_le_add_right a3 2) (by exact j262)
 ·haveI a3:=hl.dp
  exact Nat.le_trans (Nat.succ_le_succ (mx (Nat.zero_le _) (mx (Nat.zero_le _) (mx a3 (Nat.zero_le _))))) (by exact j263)
noncomputable def GS (k:Nat):Trs→Prop
 | .nil=>True
 | .cons t r=>Good k t∧GS k r
structure GA (k:Nat) (as:Trs):Prop where
 ok:Oks as
 w:wl (row as)≤2 * Wk k
 len:(txs (row as)).length≤2 * Lk k+1
 tl:yx2 as≤5+4 * k
 dp:PyData.depthAll (toDs as.pvs)≤2+3 * k
theorem wi0 {k:Nat} {as:Trs} (h:GS k as) (h2:lenT as≤2):GA k as:=by
 rcases as with _ | ⟨t,_ | ⟨t2,_ | ⟨_,_⟩⟩⟩
 ·refine ⟨trivial,?_,?_,?_,?_⟩
  ·exact Nat.zero_le _
  ·exact Nat.zero_le _
  ·show 5≤_; exact j235
  ·show 0≤_; exact j229
 ·haveI a1:=h.1.w
  haveI a2:=h.1.len
  haveI a3:=h.1.tl
  haveI a4:=h.1.dp
  refine ⟨⟨h.1.ok,trivial⟩,?_,?_,?_,?_⟩
  ·rw [yc7,wa0,List.append_nil]; exact j266 a1
  ·rw [yc7,wa0,List.append_nil]; exact j267 a2
  ·exact mx a3 (Nat.le_add_right _ _)
  ·exact mx a4 (Nat.zero_le _)
 ·haveI a1:=h.1.w
  haveI a2:=h.1.len
  have a3:=h.1.tl
  have a4:=h.1.dp
  haveI b1:=h.2.1.w
  haveI b2:=h.2.1.len
  haveI b3:=h.2.1.tl
  haveI b4:=h.2.1.dp
  refine ⟨⟨h.1.ok,h.2.1.ok,trivial⟩,?_,?_,?_,?_⟩
  ·rw [yc7,zu2,wa0,List.append_nil,zk6,wl_c,wl_cm]; exact j268 a1 b1
  ·rw [yc7,zu2,wa0,List.append_nil,zh4]
   simp only [zn5,zp9,Lx.tx,Lx.tok,Tok.tx,List.length_append,List.length_cons,List.length_nil]; exact j269 a2 b2
  ·exact mx a3 (mx b3 (Nat.le_add_right _ _))
  ·exact mx a4 (mx b4 (Nat.zero_le _))
 ·exact absurd h2 (by rw [ye1,ye1,ye1]; exact j270)
theorem yu2 {k:Nat} {s:List Nat} {as:Trs} (hs:s∈nameL) (h:GA k as):Ok (.ref s as)∧wl (lx (.ref s as))≤6+2 * Wk k∧(txs (lx (.ref s as))).length≤2 * Lk k+9∧tall (.ref s as)≤7+4 * k∧(toD (Tr.ref s as).pv).depth≤4+3 * k:=by
 haveI a1:=h.w
 haveI a2:=h.len
 haveI a3:=h.tl
 haveI a4:=h.dp
 haveI a5:=yp6 s hs
 refine ⟨⟨hs,h.ok⟩,?_,?_,?_,?_⟩
 ·rw [zp7,wl_c,wl_c,ys3,zk6,wl_rp]
  show 0+_≤_; exact j271 a1
 ·rw [zp7]
  simp only [zn5,zp9,zh4,Lx.tx,Lx.tok,Tok.tx,List.length_append,List.length_cons,List.length_nil]; exact j272 a5 a2
 ·rw [yn6]; exact j273 a3
 ·rw [dp_ref]; clear a1 a2 a3 a5; exact j472 a4
theorem good_ref {k:Nat} {s:List Nat} {as:Trs} (hs:s∈nameL) (h:GA k as):Good (k+1) (.ref s as):=by
 obtain ⟨h1,h2,h3,h4,h5⟩:=yu2 hs h
 refine ⟨h1,?_,?_,?_,?_⟩
 ·show _+0≤_; rw [Wk_s]; exact j274 h2
 ·rw [Lk_s]; exact j275 h3
 ·exact j276 h4
 ·exact j277 h5
noncomputable def GO (k:Nat):TrO→Prop
 | .none=>True
 | .some t=>Good k t
theorem wb6 {k:Nat} {o:TrO} (h:GO k o):OkO o∧wl (lxO o)≤Wk k∧(txs (lxO o)).length≤Lk k∧we9 o≤5+4 * k∧(toD o.pv).depth≤2+3 * k:=by
 cases o with
 | none=>exact ⟨trivial,Nat.zero_le _,Nat.zero_le _,(by show 5≤_; exact j235),(by show 0≤_; exact j229)⟩
 | some t=>exact ⟨h.ok,Nat.le_trans (Nat.le_add_right _ _) h.w,h.len,h.tl,h.dp⟩
structure GB (b:Tr):Prop where
 ok:Ok b
 base:wk1 b
 w:wl (lx b)≤26
 len:(txs (lx b)).length≤700
 tl:tall b≤7
 dp:(toD b.pv).depth≤4
theorem gb_nam {s:List Nat} (hs:s∈nameL):GB (.nam s):=by
 refine ⟨hs,trivial,?_,?_,?_,?_⟩
 ·show 0≤_; exact j229
 ·(first | rw [yb4,zf3] | rw [yg7,zf3] | rw [zx3,zf3] | rw [zw9,zf3] | rw [yf5,zf3] | rw [yh5,zf3]); have:=yp6 s hs; show s.length≤_; exact j278 this
 ·show 5≤_; exact j279
 ·show 1≤4; decide
theorem gb_ref {s:List Nat} {as:Trs} (hs:s∈nameL) (h:GA 0 as):GB (.ref s as):=by
 obtain ⟨h1,h2,h3,h4,h5⟩:=yu2 hs h
 refine ⟨h1,trivial,?_,?_,?_,?_⟩
 ·replace h2:_≤6+2 * 10:=h2; exact h2
 ·rw [show Lk 0=300 from rfl] at h3; exact j280 h3
 ·exact j281 h4
 ·exact j281 h5
theorem good_sub {k:Nat} {b:Tr} {lo hi:TrO} (hb:GB b) (h1:GO k lo) (h2:GO k hi):Good (k+1) (.sub b lo hi):=by
 obtain ⟨a1,a2,a3,a4,a5⟩:=wb6 h1
 obtain ⟨b1,b2,b3,b4,b5⟩:=wb6 h2
 haveI c1:=hb.w
 haveI c2:=hb.len
 haveI c3:=hb.tl
 haveI c4:=hb.dp
 refine ⟨⟨hb.base,hb.ok,a1,b1⟩,?_,?_,?_,?_⟩
 ·show _+0≤_
  rw [zt3,zk6,wl_c,ys3,zk6,wl_c,wl_cl,zk6,wl_rp,Wk_s]; lia
 ·rw [zt3,Lk_s]
  simp only [zn5,zp9,zh4,Lx.tx,Lx.tok,Tok.tx,List.length_append,List.length_cons,List.length_nil]; exact j282 c2 a3 b3
 ·exact Nat.le_trans (Nat.add_le_add_right (mx (Nat.le_trans c3 (show 7≤7+4 * k from Nat.le_add_right _ _)) (mx (Nat.le_trans a4 (by exact j283)) (Nat.le_trans b4 (by exact j283)))) 2) (by exact j284)
 ·exact Nat.le_trans (Nat.succ_le_succ (mx (Nat.zero_le _) (mx (Nat.le_trans c4 (show 4≤4+3 * k from Nat.le_add_right _ _)) (mx (Nat.le_trans a5 (by exact j285)) (mx (Nat.le_trans b5 (by exact j285)) (Nat.zero_le _)))))) (by exact j286)
end Mine
namespace Mine
set_option tactic.hygienic false
open PySem
section
variable {N:Nat} {zs:List Int}
theorem idx_Lx {L:List (List Nat)} {r n:Nat} (hr:r < n) (hn:L.length=n) (hL:n≤1000):∃ s,s∈L∧∀ σ,idxP σ (.list (L.map PV.str)) (.int r)=some (.str s):=by
 subst hn
 exact ⟨L[r],List.getElem_mem _,fun σ=>idx_L hr hL⟩
noncomputable def TB (N:Nat) (zs:List Int) (k:Nat):Prop:=∀ (d a:Nat) (X:za7),10+4 * k≤d→X.all zd0=true→a+Ak k≤1000→∃ (t:Tr) (b:Nat),Good k t∧a≤b∧b≤a+Ak k∧zc5 N d 51 [.loc 0,.int k] (tau zs X a)=.ok (t.pv,tau zs X b)
theorem ex_one {v:PV} {C:Nat→List PV→za7→Out (PV × za7)} {env:Env'} {σ σ':za7} {e:PE} {r:PSs} (h:(ev C e).1 env σ=.ok (v,σ')):exs C N (.cons (.ret e) r) env σ=.ok (.ret v,env,σ') :=
 zc8 (by rw [zc6,h]; rfl)
theorem k_endT {k d a:Nat} {X:za7} (T:TB N zs k) (hz:zs.length≤1000) (hd:10+4 * k≤d) (hX:X.all zd0=true) (ha:a+1+Ak k≤1000):∃ (o:TrO) (b:Nat),GO k o∧a≤b∧b≤a+1+Ak k∧zc5 N (d+1) 49 [.loc 0,.int k] (tau zs X a)=.ok (o.pv,tau zs X b):=by
 rw [zb6 (f:=c49) rfl,zb9 (env:=[some (.loc 0),some (.int k)]) rfl rfl]
 unfold c49
 obtain ⟨d,rfl⟩:=Nat.exists_eq_add_of_le' (show 1≤d by exact j287 hd)
 obtain ⟨r,hr,k1⟩:=zm6 (N:=N) (d:=d) (zs:=zs) (X:=X) (a:=a) (n:=2) (by decide) hX hz (by exact j288 ha)
 haveI k1:zc5 N (d+1) 45 [.loc 0,.int 2] (tau zs X a)=_:=k1
 by_cases h0:r=0
 ·subst h0
  have hz0:((((0:Nat):Int))=0)=True:=by simp
  refine ⟨.none,a+1,trivial,by exact j86,by exact j235,?_⟩
  rw [zc8 (v:=.none) (env':=[some (.loc 0),some (.int k)]) (σ':=tau zs X (a+1)) (by simp only [za8,zb0,zc6,za3,za4,zb1,zb3,zb7,za5,za2,za1,za0,za9,l_ms,tr_b,l_dt,ze6,zc4,zc3,zb4,zc0,zc1,zc2,ze2,zc9,zd9,k1,hz0])]
  exact zb8 (σ:=tau zs X (a+1)) (v:=.none) rfl (zt2 hX)
 ·have hne:((r:Int)=0)=False:=by simp only [eq_iff_iff,iff_false]; exact Int.ofNat_ne_zero.mpr h0
  obtain ⟨t,b,g,b1,b2,k2⟩:=T (d+1) (a+1) X hd hX (by exact j20 ha)
  refine ⟨.some t,b,g,by exact j230 b1,by exact j20 b2,?_⟩
  rw [za6 (env':=[some (.loc 0),some (.int k)]) (σ':=tau zs X (a+1)) (by simp only [zb5,zb0,za3,za4,zb1,zb3,zb7,za5,za2,za1,za0,za9,l_ms,tr_b,l_df,ze6,zc4,zc3,zb4,zc0,zc1,zc2,zd8,k1,hne])]
  rw [zc8 (v:=t.pv) (env':=[some (.loc 0),some (.int k)]) (σ':=tau zs X b) (by simp only [zc6,za3,zb3,za5,za2,za1,za0,za9,zb2,zb4,zc1,zc2,zc9,k2])]
  exact zb8 (σ:=tau zs X b) (v:=t.pv) (Tr.pv_nl _) (zt2 hX)
theorem yt1 {k d:Nat} {X:za7} (T:TB N zs k) (hd:10+4 * k≤d) (hX:X.all zd0=true):∀ (l:List PV) (a:Nat),a+l.length * Ak k≤1000→∃ (as:Trs) (b:Nat),GS k as∧lenT as=l.length∧a≤b∧b≤a+l.length * Ak k∧mapC (fun _ σ=>zc5 N d 51 [.loc 0,.int k] σ) l (tau zs X a)=.ok (as.pvs,tau zs X b)
 | [],a,_=>⟨.nil,a,trivial,rfl,Nat.le_refl _,by simp,rfl⟩
 | v::l,a,ha=>by
  rw [List.length_cons,Nat.succ_mul] at ha
  refine big fun Gz hGz=>?_
  obtain ⟨t,b,g,b1,b2,k1⟩:=T d a X hd hX (by exact j289 ha) <;> refine hGz ?_
  refine big fun Gz hGz=>?_
  obtain ⟨as,c,gs,hl,c1,c2,k2⟩:=yt1 T hd hX l b (by exact j290 ha b2) <;> refine hGz ?_
  refine ⟨.cons t as,c,⟨g,gs⟩,by rw [ye1,hl,List.length_cons],by exact j37 b1 c1,by rw [List.length_cons,Nat.succ_mul]; exact j291 c2 b2,?_⟩
  rw [mapC_c,k1,za1,k2]
  rfl
theorem k_refT {k d a:Nat} {X:za7} (T:TB N zs k) (hz:zs.length≤1000) (hd:10+4 * k≤d) (hX:X.all zd0=true) (ha:a+2+2 * Ak k≤1000):∃ (s:List Nat) (as:Trs) (b:Nat),s∈nameL∧GA k as∧a≤b∧b≤a+2+2 * Ak k∧zc5 N (d+1) 50 [.loc 0,.int k] (tau zs X a)=.ok ((Tr.ref s as).pv,tau zs X b):=by
 haveI hτ:∀ b,(tau zs X b).all zd0=true:=fun b=>zt2 hX
 obtain ⟨e,rfl⟩:=Nat.exists_eq_add_of_le' (show 1≤d by exact j287 hd)
 obtain ⟨r,hr,k1⟩:=zm6 (N:=N) (d:=e) (zs:=zs) (X:=X) (a:=a) (n:=6) (by decide) hX hz (by exact j292 ha)
 obtain ⟨q,hq,k2⟩:=zm6 (N:=N) (d:=e) (zs:=zs) (X:=X) (a:=a+1) (n:=3) (by decide) hX hz (by exact j293 ha)
 have k1:zc5 N (e+1) 45 [.loc 0,.int 6] (tau zs X a)=_:=k1
 have k2:zc5 N (e+1) 45 [.loc 0,.int 3] (tau zs X (a+1))=.ok (.int q,tau zs X (a+2)):=k2
 have kl:=yn7 (N:=N) (d:=e) (hτ a)
 obtain ⟨s,hs,hi⟩:=idx_Lx (L:=nameL) hr rfl (by decide)
 haveI hm:q * Ak k≤2 * Ak k:=Nat.mul_le_mul_right _ (by exact j294 hq)
 have hlt:(yi2 q).length=q:=by simp [yi2]
 refine big fun Gz hGz=>?_
 obtain ⟨as,b,gs,hl,b1,b2,k3⟩:=yt1 (k:=k) (d:=e+1) T hd hX (yi2 q) (a+2) (by rw [hlt]; exact j295 ha hm) <;> refine hGz ?_
 rw [hlt] at b2 hl
 refine ⟨s,as,b,hs,wi0 gs (by exact j296 hq hl),by exact j93 b1,by exact j297 hm b2,?_⟩
 rw [ye6]
 rw [if_neg (by decide),if_neg (by decide),if_pos rfl]
 unfold refP refX
 dsimp only
 haveI hn:wm0 (zc5 N (e+1)) 43 45 (.loc 0) [none] (tau zs X a)=.ok (.str s,tau zs X (a+1)):=by
  unfold wm0
  simp only [za1,kl,k1,hi,za0]
 rw [hn]
 simp only [za1]
 haveI hc:compF (zc5 N (e+1)) 45 51 (.loc 0) (.int k) [some (.str s)] (tau zs X (a+1))=.ok (.list as.pvs,tau zs X b):=by
  unfold compF
  rw [k2]
  dsimp only
  rw [if_pos (by lia),Int.toNat_natCast,k3]
 haveI ht:tupF (zc5 N (e+1)) 45 51 (.loc 0) (.int k) [some (.str s)] (tau zs X (a+1))=.ok ([.str [114,101,102],.str s,.list as.pvs],tau zs X b):=by
  unfold tupF
  simp only [za4,za3,za9,za0,za1,hc]
 rw [show ([none]:Env').set 0 (some (.str s))=[some (.str s)] from rfl,ht]
 simp only [za1]
 haveI hle:=zb8 (σ:=tau zs X b) (v:=.tup [.str [114,101,102],.str s,.list as.pvs]) (by simp [nl_s,nl_i,nl_t,nl_l,ya9,zz3,Trs.pvs_nl]) (hτ b)
 rw [show (tau zs X a).length=(tau zs X b).length from rfl,hle]
 rfl
theorem signs_mem (r:Nat) (h:r < 3):∃ op,([[45],[43],[46,78,79,84,46]]:List (List Nat))[r]?=some op∧(op=tNOT∨op=tPL∨op=tMI):=by
 rcases r with _ | _ | _ | r
 ·exact ⟨_,rfl,.inr (.inr rfl)⟩
 ·exact ⟨_,rfl,.inr (.inl rfl)⟩
 ·exact ⟨_,rfl,.inl rfl⟩
 ·exact absurd h (Nat.not_lt.mpr (Nat.le_add_left 3 r))
theorem opsT_mem:∀ op∈opsT,op∈opsL:=by decide
theorem tree0 (hN:10 < N) (hz:zs.length≤1000):TB N zs 0:=by
 intro d a X hd hX ha
 rw [show Ak 0=10 from rfl] at ha ⊢
 obtain ⟨d,rfl⟩:=Nat.exists_eq_add_of_le' (show 5≤d by exact j298 hd)
 obtain ⟨r,hr,k1⟩:=zm6 (N:=N) (d:=d+3) (zs:=zs) (X:=X) (a:=a) (n:=8) (by decide) hX hz (by exact j93 ha)
 haveI k1:zc5 N (d+4) 45 [.loc 0,.int 8] (tau zs X a)=_:=k1
 refine big fun Gz hGz=>?_
 obtain ⟨t,b,ok,hl,b1,b2,k2⟩:=k_leaf (N:=N) (d:=d) (way:=r) (zs:=zs) (X:=X) (a:=a+1) hN hX hz (by exact j299 ha) <;> refine hGz ?_
 refine ⟨t,b,ys5 ok hl 0,by exact j230 b1,by exact j300 b2,?_⟩
 rw [zb6 (f:=c51) rfl,zb9 (env:=[some (.loc 0),some (.int ((0:Nat):Int)),none,none,none,none,none,none]) rfl rfl]
 unfold c51
 haveI hg:((0:Int) < ((0:Nat):Int))=False:=by simp
 haveI hw:((r:Int) < 8)=True:=by simp only [eq_iff_iff,iff_true]; exact Int.lt_toNat.mp hr
 rw [za6 (env':=[some (.loc 0),some (.int ((0:Nat):Int)),some (.int r),none,none,none,none,none]) (σ':=tau zs X (a+1)) (by simp only [zd4,za3,za4,zb1,yk0,zb3,zb7,za5,za2,za1,za0,za9,zb2,set0,sets,l_ms,tr_b,l_df,zk4,zc4,zc3,kI_f,zb4,zc0,zc1,zc2,zd6,hg,k1])]
 rw [zc8 (v:=t.pv) (env':=[some (.loc 0),some (.int ((0:Nat):Int)),some (.int r),none,none,none,none,none]) (σ':=tau zs X b) (by simp only [za8,zb0,zc6,za3,za4,zb1,zb3,zb7,za5,za2,za1,za0,za9,zb2,l_ms,tr_b,l_dt,zf4,zc4,zc3,zb4,zc0,zc1,zc2,ze2,zc9,zd9,hw,k2])]
 exact zb8 (σ:=tau zs X b) (v:=t.pv) (Tr.pv_nl _) (zt2 hX)
theorem treeS {k:Nat} (hN:10 < N) (hz:zs.length≤1000) (T0:TB N zs 0) (T:TB N zs k):TB N zs (k+1):=by
 intro d a X hd hX ha
 rw [Ak_s] at ha ⊢
 haveI hAk:=Ak_ge k
 have hτ:∀ b,(tau zs X b).all zd0=true:=fun b=>zt2 hX
 obtain ⟨d,rfl⟩:=Nat.exists_eq_add_of_le' (show 5≤d by exact j298 hd)
 obtain ⟨r,hr,k1⟩:=zm6 (N:=N) (d:=d+3) (zs:=zs) (X:=X) (a:=a) (n:=16) (by decide) hX hz (by exact j93 ha)
 haveI k1:zc5 N (d+4) 45 [.loc 0,.int 16] (tau zs X a)=_:=k1
 rw [zb6 (f:=c51) rfl,zb9 (env:=[some (.loc 0),some (.int ((k+1:Nat):Int)),none,none,none,none,none,none]) rfl rfl]
 unfold c51
 haveI hg:((0:Int) < ((k+1:Nat):Int))=True:=by simp only [eq_iff_iff,iff_true]; exact Int.ofNat_succ_pos _
 rw [za6 (env':=[some (.loc 0),some (.int ((k+1:Nat):Int)),some (.int r),none,none,none,none,none]) (σ':=tau zs X (a+1)) (by simp only [zd4,za3,za4,zb1,yk0,zb3,zb7,za5,za2,za1,za0,za9,zb2,set0,sets,l_ms,tr_b,l_dt,zk4,zc4,zc3,kI_t,zb4,zc0,zc1,zc2,zd6,hg,k1])]
 haveI e8:((r:Int) < 8)=(r < 8):=by simp only [eq_iff_iff]; exact j473
 haveI e12:((r:Int)=12)=(r=12):=by simp only [eq_iff_iff]; exact j474
 haveI e13:((r:Int)=13)=(r=13):=by simp only [eq_iff_iff]; exact j475
 haveI e14:((r:Int)=14)=(r=14):=by simp only [eq_iff_iff]; exact j476
 by_cases h8:r < 8
 ·refine big fun Gz hGz=>?_
  obtain ⟨t,b,ok,hl,b1,b2,k2⟩:=k_leaf (N:=N) (d:=d) (way:=r) (zs:=zs) (X:=X) (a:=a+1) hN hX hz (by exact j301 ha) <;> refine hGz ?_
  refine ⟨t,b,ys5 ok hl _,by exact j230 b1,by exact j302 b2,?_⟩
  rw [zc8 (v:=t.pv) (env':=[some (.loc 0),some (.int ((k+1:Nat):Int)),some (.int r),none,none,none,none,none]) (σ':=tau zs X b) (by simp only [za8,zb0,zc6,za3,za4,zb1,zb3,zb7,za5,za2,za1,za0,za9,zb2,l_ms,tr_b,l_dt,zf4,zc4,zc3,zb4,zc0,zc1,zc2,ze2,zc9,zd9,e8,h8,k2])]
  exact zb8 (σ:=tau zs X b) (v:=t.pv) (Tr.pv_nl _) (hτ b)
 rw [za6 (env':=[some (.loc 0),some (.int ((k+1:Nat):Int)),some (.int r),none,none,none,none,none]) (σ':=tau zs X (a+1)) (by simp only [zb5,zb0,za3,za4,zb1,zb7,za1,za0,za9,zb2,l_ms,tr_b,l_df,zf4,zc4,zc3,zc0,zd8,e8,h8])]
 by_cases h12:r=12
 ·have e12t:((r:Int)=12)=True:=by rw [e12]; simp only [h12]
  have hX':(X++[[PV.str [45],.str [43],.str [46,78,79,84,46]]]).all zd0=true:=by rw [List.all_append,hX]; rfl
  obtain ⟨q,hq,k2⟩:=zm6 (N:=N) (d:=d+3) (zs:=zs) (X:=X++[[PV.str [45],.str [43],.str [46,78,79,84,46]]]) (a:=a+1) (n:=3) (by decide) hX' hz (by exact j303 ha)
  obtain ⟨op,ho,hop⟩:=signs_mem q hq
  have k2:zc5 N (d+4) 45 [.loc 0,.int 3] (tau zs X (a+1)++[[PV.str [45],.str [43],.str [46,78,79,84,46]]])=.ok (.int q,tau zs X (a+2)++[[PV.str [45],.str [43],.str [46,78,79,84,46]]]):=k2
  have hi:idxP (tau zs X (a+2)++[[PV.str [45],.str [43],.str [46,78,79,84,46]]]) (.loc (tau zs X (a+1)).length) (.int q)=some (.str op):=by
   refine ym6 (σ:=tau zs X (a+2)) (l:=[PV.str [45],.str [43],.str [46,78,79,84,46]]) (r:=q) ?_ (by decide)
   haveI:=congrArg (Option.map PV.str) ho
   rw [← List.getElem?_map] at this
   exact this
  obtain ⟨t,b,g,b1,b2,k3⟩:=T (d+4) (a+2) (X++[[PV.str [45],.str [43],.str [46,78,79,84,46]]]) (by exact j304 hd) hX' (by exact j305 ha)
  haveI k3:zc5 N (d+4) 51 [.loc 0,.int k] (tau zs X (a+2)++[[PV.str [45],.str [43],.str [46,78,79,84,46]]])=.ok (t.pv,tau zs X b++[[PV.str [45],.str [43],.str [46,78,79,84,46]]]):=k3
  refine ⟨.un op t,b,good_un hop g,by exact j93 b1,by exact j306 b2,?_⟩
  rw [zc8 (v:=.tup [.str [117,110],.str op,t.pv]) (env':=[some (.loc 0),some (.int ((k+1:Nat):Int)),some (.int r),some (.str op),none,none,none,none]) (σ':=tau zs X b++[[PV.str [45],.str [43],.str [46,78,79,84,46]]]) (by
   rw [zb0,zb7]
   simp only [za8,zd4,zc6,za3,za4,zd7,zb1,zb3,zd1,ze8,zu5,za5,za2,za1,za0,za9,zb2,set0,sets,l_ms,tr_b,l_dt,ze6,zg6,zf2,zf1,zc4,zc3,zb4,ze4,ze5,ze9,zt6,zc0,zc1,zc2,zd6,ze2,zc9,ze3,zd9,e12t,k2,hi,cs1,k3])]
  exact ya5 (σ:=tau zs X b) (v:=.tup [.str [117,110],.str op,t.pv]) rfl (by simp [nl_s,nl_i,nl_t,nl_l,ya9,zz3,Tr.pv_nl]) (hτ b)
 rw [za6 (env':=[some (.loc 0),some (.int ((k+1:Nat):Int)),some (.int r),none,none,none,none,none]) (σ':=tau zs X (a+1)) (by simp only [zb5,zb0,za3,za4,zb1,zb7,za1,za0,za9,zb2,l_ms,tr_b,l_df,ze6,zc4,zc3,zc0,zd8,e12,h12])]
 by_cases h13:r=13
 ·have e13t:((r:Int)=13)=True:=by rw [e13]; simp only [h13]
  refine big fun Gz hGz=>?_
  obtain ⟨s,as,b,hs,g,b1,b2,k2⟩:=k_refT (k:=k) (d:=d+3) (a:=a+1) (X:=X) T hz (by exact j307 hd) hX (by exact j308 ha) <;> refine hGz ?_
  refine ⟨.ref s as,b,good_ref hs g,by exact j230 b1,by exact j309 b2,?_⟩
  rw [zc8 (v:=(Tr.ref s as).pv) (env':=[some (.loc 0),some (.int ((k+1:Nat):Int)),some (.int r),none,none,none,none,none]) (σ':=tau zs X b) (by simp only [za8,zb0,zc6,za3,za4,zd7,zb1,zb3,zb7,za5,za2,za1,za0,za9,zb2,l_ms,tr_b,l_dt,ze6,zg6,zf2,zf1,zc4,zc3,zb4,zc0,zc1,zc2,ze2,zc9,zd9,e13t,cs1,k2])]
  exact zb8 (σ:=tau zs X b) (v:=(Tr.ref s as).pv) (Tr.pv_nl _) (hτ b)
 rw [za6 (env':=[some (.loc 0),some (.int ((k+1:Nat):Int)),some (.int r),none,none,none,none,none]) (σ':=tau zs X (a+1)) (by simp only [zb5,zb0,za3,za4,zb1,zb7,za1,za0,za9,zb2,l_ms,tr_b,l_df,ze6,zc4,zc3,zc0,zd8,e13,h13])]
 by_cases h14:r=14
 ·haveI e14t:((r:Int)=14)=True:=by rw [e14]; simp only [h14]
  obtain ⟨q,hq,k2⟩:=zm6 (N:=N) (d:=d+3) (zs:=zs) (X:=X) (a:=a+1) (n:=6) (by decide) hX hz (by exact j303 ha)
  haveI k2:zc5 N (d+4) 45 [.loc 0,.int 6] (tau zs X (a+1))=.ok (.int q,tau zs X (a+2)):=k2
  obtain ⟨q2,hq2,k3⟩:=zm6 (N:=N) (d:=d+3) (zs:=zs) (X:=X) (a:=a+2) (n:=2) (by decide) hX hz (by exact j310 ha)
  haveI k3:zc5 N (d+4) 45 [.loc 0,.int 2] (tau zs X (a+2))=.ok (.int q2,tau zs X (a+3)):=k3
  haveI kl:=yn7 (N:=N) (d:=d+3) (hτ (a+1))
  obtain ⟨nm,hnm,hi⟩:=idx_Lx (L:=nameL) hq rfl (by decide)
  -- the base
  haveI hbase:∃ (bs:Tr) (b:Nat),GB bs∧a+3≤b∧b≤a+25∧ex (zc5 N (d+4)) N (.iff (.cmp .eq (.call 45 (.cons (.var 0) (.cons (.cst (.int 2)) .nil))) (.cst (.int 1))) (.cons (.asg 4 (.call 50 (.cons (.var 0) (.cons (.cst (.int 0)) .nil)))) .nil) .nil) [some (.loc 0),some (.int ((k+1:Nat):Int)),some (.int r),none,some (Tr.nam nm).pv,none,none,none] (tau zs X (a+2))=.ok (.next,[some (.loc 0),some (.int ((k+1:Nat):Int)),some (.int r),none,some bs.pv,none,none,none],tau zs X b):=by
   by_cases h1:q2=1
   ·haveI e1t:((q2:Int)=1)=True:=by simp only [eq_iff_iff,iff_true]; exact Int.neg_inj.mp (congrArg Neg.neg (congrArg Nat.cast h1))
    refine big fun Gz hGz=>?_
    obtain ⟨s,as,b,hs,g,b1,b2,k4⟩:=k_refT (k:=0) (d:=d+3) (a:=a+3) (X:=X) T0 hz (by exact j311 hd) hX (by rw [show Ak 0=10 from rfl]; exact j312 ha) <;> refine hGz ?_
    haveI k4:zc5 N (d+4) 50 [.loc 0,.int 0] (tau zs X (a+3))=_:=k4
    rw [show Ak 0=10 from rfl] at b2
    exact ⟨.ref s as,b,gb_ref hs g,b1,by exact j313 b2,by simp only [za8,zb5,zd4,zb0,za3,za4,zb1,zb3,zb7,za5,za2,za1,za0,za9,set0,sets,l_ms,tr_b,l_dt,ze6,zc4,zc3,zb4,zc0,zc1,zc2,zd6,ze2,ze3,k3,e1t,k4]⟩
   ·have e1f:((q2:Int)=1)=False:=by simp only [eq_iff_iff,iff_false]; exact Nat.ToInt.of_diseq rfl rfl h1
    exact ⟨.nam nm,a+3,gb_nam hnm,Nat.le_refl _,by exact j314,by simp only [zb5,zb0,za3,za4,zb1,zb3,zb7,za5,za2,za1,za0,za9,l_ms,tr_b,l_df,ze6,zc4,zc3,zb4,zc0,zc1,zc2,zd8,k3,e1f]⟩
  refine big fun Gz hGz=>?_
  obtain ⟨bs,b,gb,b1,b2,k4⟩:=hbase <;> refine hGz ?_
  refine big fun Gz hGz=>?_
  obtain ⟨lo,c,gl,c1,c2,k5⟩:=k_endT (k:=k) (d:=d+3) (a:=b) (X:=X) T hz (by exact j307 hd) hX (by exact j315 ha b2) <;> refine hGz ?_
  refine big fun Gz hGz=>?_
  obtain ⟨hi',c',gh,d1,d2,k6⟩:=k_endT (k:=k) (d:=d+3) (a:=c) (X:=X) T hz (by exact j307 hd) hX (by exact j316 ha b2 c2) <;> refine hGz ?_
  refine ⟨.sub bs lo hi',c',good_sub gb gl gh,by exact j317 b1 c1 d1,by exact j318 d2 c2 b2,?_⟩
  rw [zc8 (v:=.tup [.str [115,117,98],bs.pv,lo.pv,hi'.pv]) (env':=[some (.loc 0),some (.int ((k+1:Nat):Int)),some (.int r),none,some bs.pv,some lo.pv,none,none]) (σ':=tau zs X c') (by
   rw [iff_t (σ':=tau zs X (a+1)) (by simp only [za3,za4,zb1,zb7,za1,za0,za9,zb2,l_ms,tr_b,l_dt,ze6,zc4,zc3,zc0,e14t])]
   rw [za6 (env':=[some (.loc 0),some (.int ((k+1:Nat):Int)),some (.int r),none,some (Tr.nam nm).pv,none,none,none]) (σ':=tau zs X (a+2)) (by simp only [zd4,za3,za4,zb3,zd1,ze8,za5,za2,za1,za0,za9,set0,sets,zb4,ze4,ze5,ze9,zc1,zc2,zd6,kl,k2,hi,pv_nam])]
   rw [za6 k4]
   rw [za6 (env':=[some (.loc 0),some (.int ((k+1:Nat):Int)),some (.int r),none,some bs.pv,some lo.pv,none,none]) (σ':=tau zs X c) (by simp only [zd4,za3,za4,zd7,zb3,za5,za2,za1,za0,za9,zb2,set0,sets,zg6,zf2,zf1,zb4,zc1,zc2,zd6,cs1,k5])]
   rw [ex_one (v:=.tup [.str [115,117,98],bs.pv,lo.pv,hi'.pv]) (σ':=tau zs X c') (by simp only [za3,za4,zd7,zb3,ze8,za5,za2,za1,za0,za9,zb2,zg6,zf2,zf1,zb4,ze9,zc1,zc2,cs1,k6])])]
  exact zb8 (σ:=tau zs X c') (v:=.tup [.str [115,117,98],bs.pv,lo.pv,hi'.pv]) (by simp [nl_s,nl_i,nl_t,nl_l,ya9,zz3,Tr.pv_nl,TrO.pv_nl]) (hτ c')
 rw [za6 (env':=[some (.loc 0),some (.int ((k+1:Nat):Int)),some (.int r),none,none,none,none,none]) (σ':=tau zs X (a+1)) (by simp only [zb5,zb0,za3,za4,zb1,zb7,za1,za0,za9,zb2,l_ms,tr_b,l_df,ze6,zc4,zc3,zc0,zd8,e14,h14])]
 obtain ⟨q,hq,k2⟩:=zm6 (N:=N) (d:=d+3) (zs:=zs) (X:=X) (a:=a+1) (n:=16) (by decide) hX hz (by exact j303 ha)
 have k2:zc5 N (d+4) 45 [.loc 0,.int 16] (tau zs X (a+1))=.ok (.int q,tau zs X (a+2)):=k2
 have kl:=k_opsL (N:=N) (d:=d+3) (hτ (a+1))
 obtain ⟨op,hop,hi⟩:=idx_Lx (L:=opsT) hq rfl (by decide)
 obtain ⟨l,b,gl,b1,b2,k3⟩:=T (d+4) (a+2) X (by exact j304 hd) hX (by exact j305 ha)
 refine big fun Gz hGz=>?_
 obtain ⟨rr,c,gr,c1,c2,k4⟩:=T (d+4) b X (by exact j304 hd) hX (by exact j319 ha b2) <;> refine hGz ?_
 refine ⟨.bin op l rr,c,good_bin (opsT_mem _ hop) gl gr,by exact j320 b1 c1,by exact j321 b2 c2,?_⟩
 rw [za6 (env':=[some (.loc 0),some (.int ((k+1:Nat):Int)),some (.int r),none,none,none,some (.str op),none]) (σ':=tau zs X (a+2)) (by simp only [zd4,za3,za4,zb3,zd1,za5,za2,za1,za0,za9,set0,sets,zb4,ze4,ze5,zc1,zc2,zd6,kl,k2,hi])]
 rw [za6 (env':=[some (.loc 0),some (.int ((k+1:Nat):Int)),some (.int r),none,none,none,some (.str op),some l.pv]) (σ':=tau zs X b) (by simp only [zd4,za3,za4,zd7,zb3,za5,za2,za1,za0,za9,zb2,set0,sets,zg6,zf2,zf1,zb4,zc1,zc2,zd6,cs1,k3])]
 rw [zc8 (v:=.tup [.str [98,105,110],.str op,l.pv,rr.pv]) (env':=[some (.loc 0),some (.int ((k+1:Nat):Int)),some (.int r),none,none,none,some (.str op),some l.pv]) (σ':=tau zs X c) (by simp only [zc6,za3,za4,zd7,zb3,ze8,za5,za2,za1,za0,za9,zb2,zg6,zf2,zf1,zb4,ze9,zc1,zc2,zc9,cs1,k4])]
 exact zb8 (σ:=tau zs X c) (v:=.tup [.str [98,105,110],.str op,l.pv,rr.pv]) (by simp [nl_s,nl_i,nl_t,nl_l,ya9,zz3,Tr.pv_nl]) (hτ c)
theorem yz9 (hN:10 < N) (hz:zs.length≤1000):∀ k,TB N zs k
 | 0=>tree0 hN hz
 | k+1=>treeS hN hz (tree0 hN hz) (yz9 hN hz k)
end
end Mine
namespace Mine
set_option tactic.hygienic false
open PySem
theorem minus_eq {A B C:List Lx}:yw8 (txs (A++.o tLP::(B++.o tRP::C))) (txs A).length (txs (A++.o tLP::B)).length=txs (A++(B++C)):=by
 haveI e1:txs (A++.o tLP::(B++.o tRP::C))=(txs A++([40]++txs B))++([41]++txs C):=by simp [zn5,zp9,zh4,Lx.tx,Lx.tok,Tok.tx]
 haveI e2:txs (A++.o tLP::B)=txs A++([40]++txs B):=by simp [zn5,zp9,zh4,Lx.tx,Lx.tok,Tok.tx]
 rw [e1,e2]
 unfold yw8
 haveI h1:((txs A++([40]++txs B))++([41]++txs C)).take (txs A).length=txs A:=by rw [List.append_assoc]; exact List.take_left
 haveI h2:(((txs A++([40]++txs B))++([41]++txs C)).take (txs A++([40]++txs B)).length).drop ((txs A).length+1)=txs B:=by
  rw [List.take_left,← List.drop_drop,List.drop_left]; rfl
 haveI h3:((txs A++([40]++txs B))++([41]++txs C)).drop ((txs A++([40]++txs B)).length+1)=txs C:=by
  rw [← List.drop_drop,List.drop_left]; rfl
 rw [h1,h2,h3]
 simp [zh4]
theorem Wk3:Wk 3=304:=rfl
theorem Lk3:Lk 3=9400:=rfl
theorem Ak3:Ak 3=290:=rfl
theorem wk0:1000000 < szL:=by decide
theorem yp7 {xs:List Lx} {o:Out (Tr × Toks)} (hx:Lexb xs) (hl:(txs xs).length≤9500) (ho:pB 317 1 (posd 0 xs)=o) (hn:o≠.stuck):yp4 (zc5 100000 320) (txs xs)=match o with
  | .ok q=>(match q.2 with | []=>some q.1.pv | _::_=>some .none)
  | .exc=>some .none
  | .stuck=>none:=by
 haveI hs:=wk0
 haveI hlen:=zy3 hx
 haveI k1:zc5 100000 320 9 [.str (txs xs)] []=.ok (tkL (posd 0 xs),[]):=k_lex (d:=314) hx (by exact j322 hs hl) (by exact j323 hl)
 haveI hpl:(posd 0 xs).length=xs.length:=yz2 xs 0
 have k2:zc5 100000 320 41 [tkL (posd 0 xs)] []=_:=k_whole (N:=100000) (n:=317) (d:=319) (ts:=posd 0 xs) (by exact j324 hs hpl hlen hl) (by exact j325 hpl hlen hl) (by exact j326) (by rw [ho]; exact hn)
 rw [ho] at k2
 unfold yp4
 rw [k1,za1]
 dsimp only
 rw [k2]
 cases o with
 | stuck=>exact absurd rfl hn
 | exc=>rfl
 | ok q =>
  obtain ⟨t,r⟩:=q
  cases r with
  | nil =>
   dsimp only
   rw [if_pos (Tr.pv_nl t)]
  | cons p r=>rfl
theorem wb0 (t:Tr):PyData.eqv (toD .none) (toD t.pv)=false:=by
 obtain ⟨l,e⟩:=zu7 t
 rw [e]
 simp [toD,PyData.eqv]
theorem wm2 (zs:List Int) (hz:zs.length≤1000):LawFacts (zc5 100000 320) zs:=by
 haveI hz':(zs.take 40).length≤1000:=by rw [List.length_take]; exact j477
 obtain ⟨t,b,g,_,_,k51⟩:=yz9 (N:=100000) (zs:=zs.take 40) (by decide) hz' 3 320 0 [] (by decide) rfl (by rw [Ak3]; decide)
 haveI hs:=wk0
 haveI gw:=g.w
 have gl:=g.len
 haveI gt:=g.tl
 haveI gd:=g.dp
 rw [Wk3] at gw
 rw [Lk3] at gl
 have hw:wl (lx t)≤304:=by exact j93 gw
 have ok:=g.ok
 have hx:=lexb_lx ok
 haveI hxl:=zy3 hx
 haveI hall:=ok_lx t ok
 have hch:=(px t ok (.o tLP) (ye8 (by decide))).1
 haveI hbal:BalL 0 (lx t):=by
  haveI:=bx_lx t ok 0 [] trivial
  rw [List.append_nil] at this
  exact this
 obtain ⟨prs,k52,hpl,hpr⟩:=k_pairs (N:=100000) (d:=319) hall hch hbal hx (by exact j327 hs gl)
 haveI rb:pB 317 1 (posd 0 (lx t))=.ok (t,[]):=wj1 ok (m:=311) (by exact j328 hw)
 haveI r0:=yp7 hx (by exact j329 gl) rb nofun
 refine ⟨t.pv,t.pv,txs (lx t),prs,_,k51,Tr.pv_nl t,Tr.pl t,by exact j330 gd,k_list t ok 320 (by exact j331 gt) (by exact j332 gl),r0,Tr.pl t,self_eq _,k52,by exact j333 gl hxl hpl,by exact j334 gl,fun p hp=>?_⟩
 refine big fun Gz hGz=>?_
 obtain ⟨A,B,C,e,e1,e2⟩:=hpr p hp <;> refine hGz ?_
 haveI hlt:(txs A).length < (txs (A++.o tLP::B)).length:=by
  simp [zn5,zp9,zh4,Lx.tx,Lx.tok,Tok.tx]
 haveI hlt2:(txs (A++.o tLP::B)).length < (txs (lx t)).length:=by
  rw [e]
  simp [zn5,zp9,zh4,Lx.tx,Lx.tok,Tok.tx]
 refine ⟨by rw [e1,e2]; exact hlt,by rw [e2]; exact hlt2,?_⟩
 rw [e1,e2]
 haveI hm:yw8 (txs (lx t)) (txs A).length (txs (A++.o tLP::B)).length=txs (A++(B++C)):=by rw [e]; exact minus_eq
 rw [hm]
 have hlx:Lexb (A++(B++C)):=wf1 (by rw [← e]; exact hch) (by rw [← e]; exact hall)
 haveI hopl:opl (A++(B++C))+1=opl (lx t):=by
  rw [e,zm3,zm3,zm3,opl,zm3,opl]
  show _=_+(1+(_+(0+_)))
  exact j335
 haveI hwl:wl (A++(B++C))≤wl (lx t):=by
  rw [e,zk6,zk6,zk6,wl_c,zk6,wl_c]; exact j336
 have hlen:(txs (A++(B++C))).length≤(txs (lx t)).length:=by
  rw [e]
  simp [zn5,zp9,zh4,Lx.tx,Lx.tok,Tok.tx]
  exact j337
 haveI hns:pB 317 1 (posd 0 (A++(B++C)))≠.stuck:=pB_ne 317 1 _ (by decide) (by rw [wt_posd]; exact j338 hw hwl)
 cases hq:pB 317 1 (posd 0 (A++(B++C))) with
 | stuck=>exact absurd hq hns
 | exc=>exact ⟨.none,yp7 hlx (by exact j339 gl hlen) hq nofun,rfl,wb0 t⟩
 | ok q =>
  obtain ⟨r,rest⟩:=q
  cases rest with
  | nil =>
   refine ⟨r.pv,yp7 hlx (by exact j339 gl hlen) hq nofun,Tr.pl r,eqv_ne ?_⟩
   exact wc4 ok hq (by rw [wd3]; exact j340 hopl)
  | cons x rest=>exact ⟨.none,yp7 hlx (by exact j339 gl hlen) hq nofun,rfl,wb0 t⟩
end Mine
namespace Mine
open PySem PySem.W PySem.Calls PyProof.Rows
noncomputable def fin.tw10070804522480449196:Nat:=0
noncomputable def fin.tw1012361349325877821:Nat:=0
noncomputable def fin.tw1014637456484912126:Nat:=0
noncomputable def fin.tw10147658903529517814:Nat:=0
noncomputable def fin.tw10234915967203826555:Nat:=0
noncomputable def fin.tw10242451874928486539:Nat:=0
noncomputable def fin.tw10329872625359487480:Nat:=0
noncomputable def fin.tw1035503724928835527:Nat:=0
noncomputable def fin.tw10383673109516279431:Nat:=0
noncomputable def fin.tw10391319463526535247:Nat:=0
noncomputable def fin.tw10567028658651823492:Nat:=0
noncomputable def fin.tw10580198807604790814:Nat:=0
noncomputable def fin.tw10599938827571368224:Nat:=0
noncomputable def fin.tw10671828304227620169:Nat:=0
noncomputable def fin.tw10696652717036330658:Nat:=0
noncomputable def fin.tw10699407837109476802:Nat:=0
noncomputable def fin.tw10751089155417173751:Nat:=0
noncomputable def fin.tw10782327089294195420:Nat:=0
noncomputable def fin.tw1080700006314346644:Nat:=0
noncomputable def fin.tw10807920368746810246:Nat:=0
noncomputable def fin.tw10829458402184033698:Nat:=0
noncomputable def fin.tw10852849658779182186:Nat:=0
noncomputable def fin.tw10874316729293906858:Nat:=0
noncomputable def fin.tw10875463905939285979:Nat:=0
noncomputable def fin.tw1088692219920020602:Nat:=0
noncomputable def fin.tw10895054467252067526:Nat:=0
noncomputable def fin.tw10907391636593693970:Nat:=0
noncomputable def fin.tw10925335251469727208:Nat:=0
noncomputable def fin.tw10936777179133785780:Nat:=0
noncomputable def fin.tw10939691994893167182:Nat:=0
noncomputable def fin.tw11040825799340251285:Nat:=0
noncomputable def fin.tw11061592194353771069:Nat:=0
noncomputable def fin.tw11079828417688620724:Nat:=0
noncomputable def fin.tw11145116741125064720:Nat:=0
noncomputable def fin.tw11151619158091525091:Nat:=0
noncomputable def fin.tw11192643925408225281:Nat:=0
noncomputable def fin.tw11227884535216515135:Nat:=0
noncomputable def fin.tw11273041486466551846:Nat:=0
noncomputable def fin.tw11277574374343807151:Nat:=0
noncomputable def fin.tw11293339424137598113:Nat:=0
noncomputable def fin.tw11298980531735778240:Nat:=0
noncomputable def fin.tw11336253725339858928:Nat:=0
noncomputable def fin.tw11414674201277728305:Nat:=0
noncomputable def fin.tw11454252539852477091:Nat:=0
noncomputable def fin.tw11511206133448055489:Nat:=0
noncomputable def fin.tw11587955951900863698:Nat:=0
noncomputable def fin.tw11607805686811502034:Nat:=0
noncomputable def fin.tw11897717083992391400:Nat:=0
noncomputable def fin.tw11936995450923721628:Nat:=0
noncomputable def fin.tw11953781441336167498:Nat:=0
noncomputable def fin.tw12105171945263650130:Nat:=0
noncomputable def fin.tw12118000046449163591:Nat:=0
noncomputable def fin.tw12135189313929291683:Nat:=0
noncomputable def fin.tw12149302876761508202:Nat:=0
noncomputable def fin.tw12180539936304867106:Nat:=0
noncomputable def fin.tw12212933522069011988:Nat:=0
noncomputable def fin.tw12221555665107904926:Nat:=0
noncomputable def fin.tw12237877928780879103:Nat:=0
noncomputable def fin.tw12284014389350100970:Nat:=0
noncomputable def fin.tw12291753297600562012:Nat:=0
noncomputable def fin.tw12347537446847802165:Nat:=0
noncomputable def fin.tw12355744275394475900:Nat:=0
noncomputable def fin.tw12356021495744459628:Nat:=0
noncomputable def fin.tw12448240930570709186:Nat:=0
noncomputable def fin.tw12464766053444552404:Nat:=0
noncomputable def fin.tw12494888245299231016:Nat:=0
noncomputable def fin.tw1252854909445205041:Nat:=0
noncomputable def fin.tw12550770813317053977:Nat:=0
noncomputable def fin.tw12557769604369416430:Nat:=0
noncomputable def fin.tw12567809125941998234:Nat:=0
noncomputable def fin.tw12649782002744950493:Nat:=0
noncomputable def fin.tw12696600883282566439:Nat:=0
noncomputable def fin.tw12705809211386939416:Nat:=0
noncomputable def fin.tw12718612220689870738:Nat:=0
noncomputable def fin.tw12740692763255036000:Nat:=0
noncomputable def fin.tw12751662967071866640:Nat:=0
noncomputable def fin.tw12809788781938459499:Nat:=0
noncomputable def fin.tw12833947400113492166:Nat:=0
noncomputable def fin.tw12847644182280273618:Nat:=0
noncomputable def fin.tw12876064707754696378:Nat:=0
noncomputable def fin.tw12932903420030652473:Nat:=0
noncomputable def fin.tw12946824338688289833:Nat:=0
noncomputable def fin.tw12977279227502587607:Nat:=0
noncomputable def fin.tw12996517811204074000:Nat:=0
noncomputable def fin.tw13021059552284102479:Nat:=0
noncomputable def fin.tw13066358836101814915:Nat:=0
noncomputable def fin.tw13093503161671486093:Nat:=0
noncomputable def fin.tw13158425560686309300:Nat:=0
noncomputable def fin.tw13177410634674063896:Nat:=0
noncomputable def fin.tw13199158710529813207:Nat:=0
noncomputable def fin.tw13294311002278339166:Nat:=0
noncomputable def fin.tw13337293482115323266:Nat:=0
noncomputable def fin.tw13360279666012451719:Nat:=0
noncomputable def fin.tw13383306551100868464:Nat:=0
noncomputable def fin.tw13467322939085005891:Nat:=0
noncomputable def fin.tw13494578807388504716:Nat:=0
noncomputable def fin.tw13516622038369049944:Nat:=0
noncomputable def fin.tw13700621096757390547:Nat:=0
noncomputable def fin.tw13724452099449386491:Nat:=0
noncomputable def fin.tw13814004702073501669:Nat:=0
noncomputable def fin.tw13815853411582834384:Nat:=0
noncomputable def fin.tw13870153662132920491:Nat:=0
noncomputable def fin.tw1387329636951720631:Nat:=0
noncomputable def fin.tw13925877587632400325:Nat:=0
noncomputable def fin.tw13929302177132474383:Nat:=0
noncomputable def fin.tw1397303283331804279:Nat:=0
noncomputable def fin.tw14075178694198228753:Nat:=0
noncomputable def fin.tw14109310954907245088:Nat:=0
noncomputable def fin.tw14134379338385194387:Nat:=0
noncomputable def fin.tw14210890002308233579:Nat:=0
noncomputable def fin.tw14245171486683049214:Nat:=0
noncomputable def fin.tw14279960228734115912:Nat:=0
noncomputable def fin.tw14333544728242365436:Nat:=0
noncomputable def fin.tw14345562132136545540:Nat:=0
noncomputable def fin.tw14347400895652799225:Nat:=0
noncomputable def fin.tw14497727239971306367:Nat:=0
noncomputable def fin.tw1450881378762983150:Nat:=0
noncomputable def fin.tw14541005305830221311:Nat:=0
noncomputable def fin.tw14568449535678555946:Nat:=0
noncomputable def fin.tw14574801432027512755:Nat:=0
noncomputable def fin.tw14578271805448956485:Nat:=0
noncomputable def fin.tw14665711169546490834:Nat:=0
noncomputable def fin.tw14679806638718605512:Nat:=0
noncomputable def fin.tw14728723275428758510:Nat:=0
noncomputable def fin.tw14786503066443513839:Nat:=0
noncomputable def fin.tw14793013804824869981:Nat:=0
noncomputable def fin.tw14838103818555229697:Nat:=0
noncomputable def fin.tw15144710454662140524:Nat:=0
noncomputable def fin.tw15201286185872193147:Nat:=0
noncomputable def fin.tw15205425988870721313:Nat:=0
noncomputable def fin.tw15234240111613058569:Nat:=0
noncomputable def fin.tw15344004072050561172:Nat:=0
noncomputable def fin.tw1535588207084551279:Nat:=0
noncomputable def fin.tw15399907426655090358:Nat:=0
noncomputable def fin.tw1544503264643628384:Nat:=0
noncomputable def fin.tw15459455144867644326:Nat:=0
noncomputable def fin.tw15523922138108190246:Nat:=0
noncomputable def fin.tw15533503492667675913:Nat:=0
noncomputable def fin.tw15564276425815640635:Nat:=0
noncomputable def fin.tw15566928917628492161:Nat:=0
noncomputable def fin.tw15583698165555649274:Nat:=0
noncomputable def fin.tw1560641971993327685:Nat:=0
noncomputable def fin.tw15675102808854859970:Nat:=0
noncomputable def fin.tw15688172546075569117:Nat:=0
noncomputable def fin.tw15741700470354863883:Nat:=0
noncomputable def fin.tw15815952407149668801:Nat:=0
noncomputable def fin.tw15832999045522443761:Nat:=0
noncomputable def fin.tw15989303212955285315:Nat:=0
noncomputable def fin.tw16103849850496634939:Nat:=0
noncomputable def fin.tw16109372258727991565:Nat:=0
noncomputable def fin.tw16115155874713506467:Nat:=0
noncomputable def fin.tw1613116972386908190:Nat:=0
noncomputable def fin.tw16175276709679454751:Nat:=0
noncomputable def fin.tw16196181902256332553:Nat:=0
noncomputable def fin.tw16205109500356779066:Nat:=0
noncomputable def fin.tw16229209127682248589:Nat:=0
noncomputable def fin.tw16237762584071213788:Nat:=0
noncomputable def fin.tw16252508478716706905:Nat:=0
noncomputable def fin.tw16256441300576474876:Nat:=0
noncomputable def fin.tw16275787546110486726:Nat:=0
noncomputable def fin.tw16285329926789087883:Nat:=0
noncomputable def fin.tw16307707646766795581:Nat:=0
noncomputable def fin.tw1635022588487117616:Nat:=0
noncomputable def fin.tw16401934584784274106:Nat:=0
noncomputable def fin.tw16488607150827929282:Nat:=0
noncomputable def fin.tw16496857829328116044:Nat:=0
noncomputable def fin.tw16502652511500755:Nat:=0
noncomputable def fin.tw16510490156224867327:Nat:=0
noncomputable def fin.tw16540275574145912595:Nat:=0
noncomputable def fin.tw16570786720924097770:Nat:=0
noncomputable def fin.tw16656299143469825513:Nat:=0
noncomputable def fin.tw1666694428299288667:Nat:=0
noncomputable def fin.tw16906536467411238026:Nat:=0
noncomputable def fin.tw16934629359412608497:Nat:=0
noncomputable def fin.tw16972231081977784176:Nat:=0
noncomputable def fin.tw17041991840579044601:Nat:=0
noncomputable def fin.tw17067295170570645592:Nat:=0
noncomputable def fin.tw17108682257543074861:Nat:=0
noncomputable def fin.tw17123178472405020103:Nat:=0
noncomputable def fin.tw17130245016438642246:Nat:=0
noncomputable def fin.tw17132207802985990308:Nat:=0
noncomputable def fin.tw17164383140453370395:Nat:=0
noncomputable def fin.tw17186005699333237546:Nat:=0
noncomputable def fin.tw17204297501091165112:Nat:=0
noncomputable def fin.tw17260493314774615805:Nat:=0
noncomputable def fin.tw17347454772498655404:Nat:=0
noncomputable def fin.tw17362494058136835672:Nat:=0
noncomputable def fin.tw17430205856086898164:Nat:=0
noncomputable def fin.tw17449020081951674710:Nat:=0
noncomputable def fin.tw17495881415371897999:Nat:=0
noncomputable def fin.tw17512474026176034454:Nat:=0
noncomputable def fin.tw17570709534508481193:Nat:=0
noncomputable def fin.tw17628183408451194143:Nat:=0
noncomputable def fin.tw17637551073024348614:Nat:=0
noncomputable def fin.tw17662344363894024548:Nat:=0
noncomputable def fin.tw17698704350827878285:Nat:=0
noncomputable def fin.tw17701328389417463424:Nat:=0
noncomputable def fin.tw17717364068325071970:Nat:=0
noncomputable def fin.tw17719728818120068181:Nat:=0
noncomputable def fin.tw17743408960866722510:Nat:=0
noncomputable def fin.tw17821466097196317003:Nat:=0
noncomputable def fin.tw17861066769153400444:Nat:=0
noncomputable def fin.tw17896612028031085017:Nat:=0
noncomputable def fin.tw17933470926392208243:Nat:=0
noncomputable def fin.tw17963964198891936676:Nat:=0
noncomputable def fin.tw17971676594858020690:Nat:=0
noncomputable def fin.tw18082680734076937219:Nat:=0
noncomputable def fin.tw18105942590061964161:Nat:=0
noncomputable def fin.tw1819255440876223710:Nat:=0
noncomputable def fin.tw18230178534529381785:Nat:=0
noncomputable def fin.tw18255404467826089762:Nat:=0
noncomputable def fin.tw18293562643322913751:Nat:=0
noncomputable def fin.tw18295790063311454060:Nat:=0
noncomputable def fin.tw18373065035072037172:Nat:=0
noncomputable def fin.tw18387650150990424433:Nat:=0
noncomputable def fin.tw1887099378405440850:Nat:=0
noncomputable def fin.tw1921391257341544841:Nat:=0
noncomputable def fin.tw1963134401048803436:Nat:=0
noncomputable def fin.tw1982079694162106894:Nat:=0
noncomputable def fin.tw2008552940280697342:Nat:=0
noncomputable def fin.tw2051409578822353534:Nat:=0
noncomputable def fin.tw2067723777617599883:Nat:=0
noncomputable def fin.tw2086631506510373192:Nat:=0
noncomputable def fin.tw216489041496292469:Nat:=0
noncomputable def fin.tw2236755162388048479:Nat:=0
noncomputable def fin.tw2304379251839397102:Nat:=0
noncomputable def fin.tw2305881189932309285:Nat:=0
noncomputable def fin.tw2321816554428607280:Nat:=0
noncomputable def fin.tw2367325634123391141:Nat:=0
noncomputable def fin.tw2375283059286425376:Nat:=0
noncomputable def fin.tw2415902012162501839:Nat:=0
noncomputable def fin.tw2462912638960843985:Nat:=0
noncomputable def fin.tw2512408688544751470:Nat:=0
noncomputable def fin.tw251868834278440796:Nat:=0
noncomputable def fin.tw2537931557510868981:Nat:=0
noncomputable def fin.tw2608567993692976607:Nat:=0
noncomputable def fin.tw2617349483901765261:Nat:=0
noncomputable def fin.tw2656788454239962097:Nat:=0
noncomputable def fin.tw2671655128345628175:Nat:=0
noncomputable def fin.tw2775396313129547428:Nat:=0
noncomputable def fin.tw2824846461999071874:Nat:=0
noncomputable def fin.tw2866121171748074186:Nat:=0
noncomputable def fin.tw2877282753285418142:Nat:=0
noncomputable def fin.tw2910385600587045654:Nat:=0
noncomputable def fin.tw2976117146107443816:Nat:=0
noncomputable def fin.tw3004984022683251337:Nat:=0
noncomputable def fin.tw3028926083550364057:Nat:=0
noncomputable def fin.tw3029852977388229646:Nat:=0
noncomputable def fin.tw3112429581023547943:Nat:=0
noncomputable def fin.tw3125960719983571848:Nat:=0
noncomputable def fin.tw3173534031939492945:Nat:=0
noncomputable def fin.tw3199103547748192838:Nat:=0
noncomputable def fin.tw3222278782482380304:Nat:=0
noncomputable def fin.tw3263211703599914710:Nat:=0
noncomputable def fin.tw3268265519342814607:Nat:=0
noncomputable def fin.tw3343445320678177929:Nat:=0
noncomputable def fin.tw3404873503106905745:Nat:=0
noncomputable def fin.tw3456623496861543869:Nat:=0
noncomputable def fin.tw3459265974087741279:Nat:=0
noncomputable def fin.tw3506512066687448480:Nat:=0
noncomputable def fin.tw3598329298470268980:Nat:=0
noncomputable def fin.tw3599858809825778643:Nat:=0
noncomputable def fin.tw3683778510129048087:Nat:=0
noncomputable def fin.tw3753180429921760817:Nat:=0
noncomputable def fin.tw3762306804915933987:Nat:=0
noncomputable def fin.tw3788772014149755174:Nat:=0
noncomputable def fin.tw380778119907437045:Nat:=0
noncomputable def fin.tw3810338749695602999:Nat:=0
noncomputable def fin.tw3810570522144960214:Nat:=0
noncomputable def fin.tw3812028171767442716:Nat:=0
noncomputable def fin.tw3856959637817057344:Nat:=0
noncomputable def fin.tw3857263333814641470:Nat:=0
noncomputable def fin.tw3955986520655104412:Nat:=0
noncomputable def fin.tw3974152918291533672:Nat:=0
noncomputable def fin.tw3975253019698251321:Nat:=0
noncomputable def fin.tw4013537778516871869:Nat:=0
noncomputable def fin.tw4040260094072895976:Nat:=0
noncomputable def fin.tw4170516301191304579:Nat:=0
noncomputable def fin.tw4180101509539245183:Nat:=0
noncomputable def fin.tw4218790737952374519:Nat:=0
noncomputable def fin.tw4261782474736383828:Nat:=0
noncomputable def fin.tw428092273266315144:Nat:=0
noncomputable def fin.tw4312942655851389009:Nat:=0
noncomputable def fin.tw4329306826757983850:Nat:=0
noncomputable def fin.tw4424551920762525699:Nat:=0
noncomputable def fin.tw4485317993302519759:Nat:=0
noncomputable def fin.tw452842511749404161:Nat:=0
noncomputable def fin.tw4570111826955561243:Nat:=0
noncomputable def fin.tw4588413851689716618:Nat:=0
noncomputable def fin.tw4598667867955821814:Nat:=0
noncomputable def fin.tw4613182775407389354:Nat:=0
noncomputable def fin.tw4754365596532378047:Nat:=0
noncomputable def fin.tw4759752924163587094:Nat:=0
noncomputable def fin.tw4769821431679368130:Nat:=0
noncomputable def fin.tw4788878847521262168:Nat:=0
noncomputable def fin.tw480829909506669009:Nat:=0
noncomputable def fin.tw4868334931027891882:Nat:=0
noncomputable def fin.tw4878226113927451544:Nat:=0
noncomputable def fin.tw4879674094562380441:Nat:=0
noncomputable def fin.tw4898026214463823928:Nat:=0
noncomputable def fin.tw4924110625330727750:Nat:=0
noncomputable def fin.tw4928979718650693569:Nat:=0
noncomputable def fin.tw4950403968356008110:Nat:=0
noncomputable def fin.tw500868675978126160:Nat:=0
noncomputable def fin.tw5011227242324532581:Nat:=0
noncomputable def fin.tw5071919506433949198:Nat:=0
noncomputable def fin.tw5073790198343104882:Nat:=0
noncomputable def fin.tw5102460946473063141:Nat:=0
noncomputable def fin.tw5196160543931855155:Nat:=0
noncomputable def fin.tw5227809002895711924:Nat:=0
noncomputable def fin.tw5266742908149448401:Nat:=0
noncomputable def fin.tw5293390819737331289:Nat:=0
noncomputable def fin.tw5320702786494000081:Nat:=0
noncomputable def fin.tw5402249366112354979:Nat:=0
noncomputable def fin.tw544173102793226557:Nat:=0
noncomputable def fin.tw5486226609284752418:Nat:=0
noncomputable def fin.tw5647864574477489665:Nat:=0
noncomputable def fin.tw5678346346211369953:Nat:=0
noncomputable def fin.tw5730831775697187677:Nat:=0
noncomputable def fin.tw5734618986648460908:Nat:=0
noncomputable def fin.tw5796354222422608987:Nat:=0
noncomputable def fin.tw5805905742469029177:Nat:=0
noncomputable def fin.tw5901363791540438844:Nat:=0
noncomputable def fin.tw5962627729488381771:Nat:=0
noncomputable def fin.tw6081921254191324426:Nat:=0
noncomputable def fin.tw6127190174262240918:Nat:=0
noncomputable def fin.tw612862322836996645:Nat:=0
noncomputable def fin.tw6144012678527597917:Nat:=0
noncomputable def fin.tw6207176494656529804:Nat:=0
noncomputable def fin.tw6232080684201472732:Nat:=0
noncomputable def fin.tw6289197191216398940:Nat:=0
noncomputable def fin.tw6341822008880759003:Nat:=0
noncomputable def fin.tw6388184931127306564:Nat:=0
noncomputable def fin.tw6435670951450185984:Nat:=0
noncomputable def fin.tw6449190631224713292:Nat:=0
noncomputable def fin.tw6454446336052903152:Nat:=0
noncomputable def fin.tw6455845175183424153:Nat:=0
noncomputable def fin.tw6474043946942992101:Nat:=0
noncomputable def fin.tw6498334528663615478:Nat:=0
noncomputable def fin.tw6515953530934532768:Nat:=0
noncomputable def fin.tw6531376189190222733:Nat:=0
noncomputable def fin.tw6566618420281934:Nat:=0
noncomputable def fin.tw6567050819087999508:Nat:=0
noncomputable def fin.tw6577878126316647860:Nat:=0
noncomputable def fin.tw662289804386252013:Nat:=0
noncomputable def fin.tw6634307039904815820:Nat:=0
noncomputable def fin.tw6667815254911646788:Nat:=0
noncomputable def fin.tw670465573061467203:Nat:=0
noncomputable def fin.tw6707113841082798463:Nat:=0
noncomputable def fin.tw6712194924023145494:Nat:=0
noncomputable def fin.tw6718411051458867188:Nat:=0
noncomputable def fin.tw6766378078585498003:Nat:=0
noncomputable def fin.tw6766580051018981234:Nat:=0
noncomputable def fin.tw6878024787957991413:Nat:=0
noncomputable def fin.tw7000300075881102575:Nat:=0
noncomputable def fin.tw7039413970001822932:Nat:=0
noncomputable def fin.tw7055459427971326715:Nat:=0
noncomputable def fin.tw7070210977369740762:Nat:=0
noncomputable def fin.tw7249652514872940865:Nat:=0
noncomputable def fin.tw7278507554335971580:Nat:=0
noncomputable def fin.tw7321584467024264148:Nat:=0
noncomputable def fin.tw7380833856163905736:Nat:=0
noncomputable def fin.tw7439575562449295702:Nat:=0
noncomputable def fin.tw744865244796547220:Nat:=0
noncomputable def fin.tw7451905468542833597:Nat:=0
noncomputable def fin.tw7468727024169554154:Nat:=0
noncomputable def fin.tw7470013935711676318:Nat:=0
noncomputable def fin.tw7522001649326652513:Nat:=0
noncomputable def fin.tw7547296005191728479:Nat:=0
noncomputable def fin.tw757079261281740938:Nat:=0
noncomputable def fin.tw7613857476909055813:Nat:=0
noncomputable def fin.tw7613945582906998725:Nat:=0
noncomputable def fin.tw7661832156752021035:Nat:=0
noncomputable def fin.tw7675655780812522254:Nat:=0
noncomputable def fin.tw7716820226725407877:Nat:=0
noncomputable def fin.tw7779959011674639804:Nat:=0
noncomputable def fin.tw7803649310394182010:Nat:=0
noncomputable def fin.tw7822013112032934038:Nat:=0
noncomputable def fin.tw7830629276484211593:Nat:=0
noncomputable def fin.tw7844069586390513008:Nat:=0
noncomputable def fin.tw7845872953664198349:Nat:=0
noncomputable def fin.tw7890596953891613788:Nat:=0
noncomputable def fin.tw7929640520542984453:Nat:=0
noncomputable def fin.tw7930893340574950883:Nat:=0
noncomputable def fin.tw7976502392129159676:Nat:=0
noncomputable def fin.tw799341379326975648:Nat:=0
noncomputable def fin.tw7995362448368537469:Nat:=0
noncomputable def fin.tw8025084765662995669:Nat:=0
noncomputable def fin.tw803859442106103436:Nat:=0
noncomputable def fin.tw807531904560671035:Nat:=0
noncomputable def fin.tw8119881530291889089:Nat:=0
noncomputable def fin.tw8269367382603917829:Nat:=0
noncomputable def fin.tw8272817396058243321:Nat:=0
noncomputable def fin.tw828056024939588000:Nat:=0
noncomputable def fin.tw8281523328739849912:Nat:=0
noncomputable def fin.tw8285055669794521928:Nat:=0
noncomputable def fin.tw8289400949097046189:Nat:=0
noncomputable def fin.tw8330952907988395303:Nat:=0
noncomputable def fin.tw8331973007464152698:Nat:=0
noncomputable def fin.tw8352470293576582857:Nat:=0
noncomputable def fin.tw8359581550099672728:Nat:=0
noncomputable def fin.tw8383268338085895543:Nat:=0
noncomputable def fin.tw8399098705505230059:Nat:=0
noncomputable def fin.tw8416529770105884409:Nat:=0
noncomputable def fin.tw846297522682114974:Nat:=0
noncomputable def fin.tw8559517257967667466:Nat:=0
noncomputable def fin.tw8577089030196625639:Nat:=0
noncomputable def fin.tw857934483824242906:Nat:=0
noncomputable def fin.tw8590288500278120515:Nat:=0
noncomputable def fin.tw8668149382578428375:Nat:=0
noncomputable def fin.tw876206183137641144:Nat:=0
noncomputable def fin.tw888132650186811988:Nat:=0
noncomputable def fin.tw891787732878383699:Nat:=0
noncomputable def fin.tw8919302590299486024:Nat:=0
noncomputable def fin.tw8947099994592609211:Nat:=0
noncomputable def fin.tw895571856199123645:Nat:=0
noncomputable def fin.tw8999559765510592377:Nat:=0
noncomputable def fin.tw9001875181463519149:Nat:=0
noncomputable def fin.tw9113340658982188547:Nat:=0
noncomputable def fin.tw9218923581257491847:Nat:=0
noncomputable def fin.tw9221430085559818832:Nat:=0
noncomputable def fin.tw9247658263007524724:Nat:=0
noncomputable def fin.tw9260378047223084069:Nat:=0
noncomputable def fin.tw9357874355931990178:Nat:=0
noncomputable def fin.tw9363291351745731410:Nat:=0
noncomputable def fin.tw9387745189664136937:Nat:=0
noncomputable def fin.tw9445451236469955387:Nat:=0
noncomputable def fin.tw9544026089342320630:Nat:=0
noncomputable def fin.tw9610726530385051774:Nat:=0
noncomputable def fin.tw9722632081671974098:Nat:=0
noncomputable def fin.tw9725021084223525626:Nat:=0
noncomputable def fin.tw9735714214384596553:Nat:=0
noncomputable def fin.tw9746214513668125432:Nat:=0
noncomputable def fin.tw9746901515087519452:Nat:=0
noncomputable def fin.tw9757074474933493440:Nat:=0
noncomputable def fin.tw9806666330580929782:Nat:=0
noncomputable def fin.tw9839346839192117915:Nat:=0
noncomputable def fin.tw9917203430921899224:Nat:=0
noncomputable def fin.tw9962418760945406050:Nat:=0
noncomputable def fin.tw999798209818781672:Nat:=0
set_option Elab.async true in
theorem fin:PySem.Challenge.rw_no0268_01.Holds:=by
 w_on; o_law; k_head; (case hw=>w_witness2)
 k_go0
 all_goals try k_fold
 refine law_glue (by assumption) ?FK ?RK (by assumption) (by assumption) rfl (by assumption) (by assumption) ?_ (wm2 _ ?_) rfl rfl fun h' tk' m' F'=>goodW_bool F' (by assumption) (raisesW_false (by wrow_none_raised)) (by wrow_post)
 case RK =>
  refine ⟨_,_,_,_,_,_,_,_,_,_,_,_,_,_,_,⟨⟨_,_,_,_,_,_,_,_,_,_,_,rfl,fun vs h=>?_⟩,by kernel_rfl,rfl,rfl,rfl,by decide,by decide +kernel⟩,rfl⟩
  rcases vs with _ | ⟨a,_ | ⟨b,r⟩⟩
  ·cases h
  ·rfl
  ·cases h
 case FK =>
  exact {
   consts:=by kernel_rfl
   defs:=by kernel_rfl
   nobi:=by kernel_rfl
   lex_ns:=by kernel_rfl
   syn_ns:=by kernel_rfl
   f77_ns:=by kernel_rfl
   one:={
    ns:=by kernel_rfl
    ga:=by kernel_rfl
    reads:=by kernel_rfl
    find:=by kernel_rfl
    hand:=by kernel_rfl
    keep:=by kernel_rfl
    one:=by
     refine ⟨_,_,_,_,_,_,_,_,_,_,_,_,_,⟨⟨_,_,_,_,_,_,_,_,_,_,_,rfl,fun vs h=>?_⟩,by kernel_rfl,rfl,rfl,rfl,by decide,by decide +kernel⟩,⟨rfl,by kernel_rfl,by kernel_rfl⟩,by kernel_rfl,by kernel_rfl⟩
     rcases vs with _ | ⟨a,_ | ⟨b,_ | ⟨c,r⟩⟩⟩
     ·cases h
     ·cases h
     ·rfl
     ·cases h }
   two:=by
    refine ⟨_,_,_,_,_,_,_,_,_,_,_,_,_,⟨⟨_,_,_,_,_,_,_,_,_,_,_,rfl,fun vs h=>?_⟩,by kernel_rfl,rfl,rfl,rfl,by decide,by decide +kernel⟩,⟨rfl,by kernel_rfl,by kernel_rfl⟩,by kernel_rfl,by kernel_rfl,by kernel_rfl⟩
    rcases vs with _ | ⟨a,_ | ⟨b,_ | ⟨c,_ | ⟨d,r⟩⟩⟩⟩
    ·cases h
    ·cases h
    ·cases h
    ·rfl
    ·cases h
   cls_lex:=⟨⟨_,_,_,_,_,_,_,_,_,_,_,_,_,_,rfl⟩,HasE.base.own,PassE.base.own,by kernel_rfl,by kernel_rfl,by kernel_rfl⟩
   cls_f77:=⟨⟨_,_,_,_,_,_,_,_,_,_,_,_,_,_,rfl⟩,HasE.base,PassE.base,by kernel_rfl,by kernel_rfl,by kernel_rfl⟩
   cls_syn:=⟨⟨_,_,_,_,_,_,_,_,_,_,_,_,_,_,rfl⟩,HasE.base.own,PassE.base.own,by kernel_rfl,by kernel_rfl,by kernel_rfl⟩
   comp:=by kernel_rfl
   shw:=by
    refine ⟨_,_,_,_,_,_,_,_,_,_,_,_,_,_,_,_,_,⟨⟨_,_,_,_,_,_,_,_,_,_,_,rfl,fun vs h=>?_⟩,by kernel_rfl,rfl,rfl,rfl,by decide,by decide +kernel⟩,by kernel_rfl,by kernel_rfl,by decide +kernel⟩
    rcases vs with _ | ⟨a,_ | ⟨b,r⟩⟩
    ·cases h
    ·rfl
    ·cases h
   row:=by
    refine ⟨_,_,_,_,_,_,_,_,_,_,_,_,_,_,_,⟨⟨_,_,_,_,_,_,_,_,_,_,_,rfl,fun vs h=>?_⟩,by kernel_rfl,rfl,rfl,rfl,by decide,by decide +kernel⟩,by kernel_rfl,by kernel_rfl,by decide +kernel,rfl,rfl⟩
    rcases vs with _ | ⟨a,_ | ⟨b,r⟩⟩
    ·cases h
    ·rfl
    ·cases h
   ref:=⟨_,_,_,_,_,_,_,_,_,_,_,_,_,_,_,_,_,_,_,_,_,_,_,_,_,_,_,_,_,_,rfl,fun v1 v2=>rfl,by kernel_rfl,rfl,rfl,rfl,rfl,rfl,rfl,rfl⟩
   tab0:=by
    refine ⟨_,_,rfl,?_,by kernel_rfl⟩
    repeat (first | exact trivial | refine ⟨⟨_,_,rfl,rfl⟩,?_⟩)
   tab1:=by
    refine ⟨_,_,rfl,?_,by kernel_rfl⟩
    repeat (first | exact trivial | refine ⟨⟨_,_,rfl,rfl⟩,?_⟩)
   tab2:=by
    refine ⟨_,_,rfl,?_,by kernel_rfl⟩
    repeat (first | exact trivial | refine ⟨⟨_,_,rfl,rfl⟩,?_⟩)
   lexf:=by kernel_rfl
   lext:=by kernel_rfl
   lexk:=by kernel_rfl
   synf:=by kernel_rfl
   synt:=by kernel_rfl
   synk:=by kernel_rfl }
 all_goals lia
end Mine
theorem PySem.Challenge.cw_no0268_01_holds : PySem.Challenge.rw_no0268_01.Holds :=
 Mine.fin
