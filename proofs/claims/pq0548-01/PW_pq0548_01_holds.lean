import PyProof.Rows.All
import Wide.All
import OpenK.AllK
import Wide.FinOn
import KE.KNest
import KE.KEqSeq
import Lean
import PySem.Challenge.RW_pq0548_01
set_option Elab.async false
set_option maxRecDepth 100000
set_option linter.unusedVariables false
set_option linter.unusedSimpArgs false
set_option genInjectivity false
set_option genSizeOf false

namespace Qm
noncomputable abbrev Po:=List Int
noncomputable def ev (p e:Po):Int:=List.rec (fun _=>0) (fun a _ ih e=>a*e.headD 0+ih e.tail) p e
noncomputable def padd (p q:Po):Po:=List.rec (fun q=>q) (fun a p ih q=>(a+q.headD 0)::cond q.isEmpty p (ih q.tail)) p q
noncomputable def psc (k:Int)(p:Po):Po:=p.map (k*·)
noncomputable def psb (p q:Po):Po:=padd p (psc (-1) q)
noncomputable def pvar (i:Nat):Po:=List.replicate i 0++[1]
noncomputable abbrev NS:=List (Nat×Po)
noncomputable abbrev IS:=List (Int×Po)
noncomputable abbrev PS:=List (Prop×Po×Po)
noncomputable abbrev Kx:=Nat→NS→IS→PS→PS
noncomputable abbrev Op:=Nat→NS→IS→PS→Kx→PS
noncomputable def hN (l:NS):Nat×Po:=l.headD (0,[])
noncomputable def hI (l:IS):Int×Po:=l.headD (0,[])
noncomputable def hP (l:PS):Prop×Po×Po:=l.headD (True,[],[])
noncomputable def oNop:Op:=fun c n i p k=>k c n i p
noncomputable def oNum:Op:=fun c n i p k=>k (Nat.div (Nat.div c 64) (Nat.pow 64 (Nat.mod c 64))) ((Nat.mod (Nat.div c 64) (Nat.pow 64 (Nat.mod c 64)),[Int.ofNat (Nat.mod (Nat.div c 64) (Nat.pow 64 (Nat.mod c 64)))])::n) i p
noncomputable def oLit (x:Nat):Op:=fun c n i p k=>k c ((x,[Int.ofNat x])::n) i p
noncomputable def oIlit (x:Nat):Op:=fun c n i p k=>k c n ((Int.ofNat x,[Int.ofNat x])::i) p
noncomputable def oAdd:Op:=fun c n i p k=>k c (((hN n.tail).1+(hN n).1,padd (hN n.tail).2 (hN n).2)::n.tail.tail) i p
noncomputable def oMul:Op:=fun c n i p k=>cond (Nat.ble (hN n.tail).2.length 1) (k c (((hN n.tail).1*(hN n).1,psc ((hN n.tail).2.headD 0) (hN n).2)::n.tail.tail) i p)
 (cond (Nat.ble (hN n).2.length 1) (k c (((hN n.tail).1*(hN n).1,psc ((hN n).2.headD 0) (hN n.tail).2)::n.tail.tail) i p) p)
noncomputable def oNa:Op:=fun c n i p k=>k c ((Int.natAbs (Nat.cast (hN n).1),(hN n).2)::n.tail) i p
noncomputable def oTn:Op:=fun c n i p k=>k c ((Int.toNat (Nat.cast (hN n).1),(hN n).2)::n.tail) i p
noncomputable def oCast:Op:=fun c n i p k=>k c n.tail ((Nat.cast (hN n).1,(hN n).2)::i) p
noncomputable def oIadd:Op:=fun c n i p k=>k c n (((hI i.tail).1+(hI i).1,padd (hI i.tail).2 (hI i).2)::i.tail.tail) p
noncomputable def oIsub:Op:=fun c n i p k=>k c n (((hI i.tail).1-(hI i).1,psb (hI i.tail).2 (hI i).2)::i.tail.tail) p
noncomputable def oIneg:Op:=fun c n i p k=>k c n ((-(hI i).1,psc (-1) (hI i).2)::i.tail) p
noncomputable def oImul:Op:=fun c n i p k=>cond (Nat.ble (hI i.tail).2.length 1) (k c n (((hI i.tail).1*(hI i).1,psc ((hI i.tail).2.headD 0) (hI i).2)::i.tail.tail) p)
 (cond (Nat.ble (hI i).2.length 1) (k c n (((hI i.tail).1*(hI i).1,psc ((hI i).2.headD 0) (hI i.tail).2)::i.tail.tail) p) p)
noncomputable def oLe:Op:=fun c n i p k=>k c n.tail.tail i (((hN n.tail).1≤(hN n).1,psb (hN n).2 (hN n.tail).2,psb (psb (hN n.tail).2 (hN n).2) [1])::p)
noncomputable def oLt:Op:=fun c n i p k=>k c n.tail.tail i (((hN n.tail).1<(hN n).1,psb (psb (hN n).2 (hN n.tail).2) [1],psb (hN n.tail).2 (hN n).2)::p)
noncomputable def oEq:Op:=fun c n i p k=>k c n.tail.tail i (((hN n.tail).1=(hN n).1,psb (hN n).2 (hN n.tail).2,[])::p)
noncomputable def oEqr:Op:=fun c n i p k=>k c n.tail.tail i (((hN n.tail).1=(hN n).1,psb (hN n.tail).2 (hN n).2,[])::p)
noncomputable def oIle:Op:=fun c n i p k=>k c n i.tail.tail (((hI i.tail).1≤(hI i).1,psb (hI i).2 (hI i.tail).2,psb (psb (hI i.tail).2 (hI i).2) [1])::p)
noncomputable def oIlt:Op:=fun c n i p k=>k c n i.tail.tail (((hI i.tail).1<(hI i).1,psb (psb (hI i).2 (hI i.tail).2) [1],psb (hI i.tail).2 (hI i).2)::p)
noncomputable def oIeq:Op:=fun c n i p k=>k c n i.tail.tail (((hI i.tail).1=(hI i).1,psb (hI i).2 (hI i.tail).2,[])::p)
noncomputable def oIeqr:Op:=fun c n i p k=>k c n i.tail.tail (((hI i.tail).1=(hI i).1,psb (hI i.tail).2 (hI i).2,[])::p)
noncomputable def oNot:Op:=fun c n i p k=>k c n i ((¬(hP p).1,(hP p).2.2,(hP p).2.1)::p.tail)
noncomputable def oSc:Op:=fun c n i p k=>k (Nat.div c 64) n i (((hP p).1,psc (Int.ofNat (Nat.mod c 64)) (hP p).2.1,psc (Int.ofNat (Nat.mod c 64)) (hP p).2.2)::p.tail)
noncomputable def oFls:Op:=fun c n i p k=>k c n i ((False,[],[])::p)
noncomputable def ops:List Op:=[oNop,oNum,oLit 0,oLit 1,oLit 2,oIlit 0,oIlit 1,oIlit 2,oAdd,oMul,oNa,oTn,oCast,oIadd,oIsub,oIneg,oImul,oLe,oLt,oEq,oEqr,oIle,oIlt,oIeq,oIeqr,oNot,oSc,oFls]
noncomputable def oVar (N:List Nat)(j:Nat):Op:=fun c n i p k=>cond (Nat.ble N.length j) (k c n i p) (k c ((N.getD j 0,pvar (j+1))::n) i p)
noncomputable def oIvar (N:List Nat)(I:List Int)(j:Nat):Op:=fun c n i p k=>k c n ((I.getD j 0,pvar (N.length+j+1))::i) p
noncomputable def oAny (N:List Nat)(I:List Int)(d:Nat):Op :=
 cond (Nat.ble d 31) (ops.getD d oNop) (cond (Nat.ble d 47) (oVar N (Nat.sub d 32)) (oIvar N I (Nat.sub d 48)))
noncomputable def run (N:List Nat)(I:List Int)(f:Nat):Kx :=
 Nat.rec (fun _ _ _ p=>p) (fun _ ih c n i p=>cond (Nat.beq c 0) p (oAny N I (Nat.mod c 64) (Nat.div c 64) n i p ih)) f
noncomputable def ps (N:List Nat)(I:List Int)(c:Nat):PS:=run N I 99 c [] [] []
noncomputable def envp (N:List Nat)(I:List Int):Po:=1::(N.map (fun (n:Nat)=>(n:Int))++I)
noncomputable def nonp (k:Nat)(p:Po):Bool:=List.rec (fun _=>true) (fun a _ ih k=>Nat.rec (decide (a=0) && ih 0) (fun k _=>decide (a≤0) && ih k) k) p k
noncomputable def tot (l:PS):Po:=List.rec [] (fun a _ ih=>padd a.2.1 ih) l
noncomputable def chk (k:Nat)(p:Po):Bool:=decide (p.headD 0<0) && nonp k p.tail
def pr (N:List Nat)(I:List Int)(c k:Nat):Prop:=((ps N I c).getD k (True,[],[])).1
noncomputable def ck (N:List Nat)(I:List Int)(c:Nat):Bool:=chk N.length (padd (hP (ps N I c)).2.2 (tot (ps N I c).tail))
theorem ev_nil (e:Po):ev [] e=0:=rfl
theorem ev_cons (a:Int)(p e:Po):ev (a::p) e=a*e.headD 0+ev p e.tail:=rfl
theorem ev_add (p q e:Po):ev (padd p q) e=ev p e+ev q e:=by
 induction p generalizing q e with
 | nil=>exact (Int.zero_add _).symm
 | cons a p ih =>
  show ev ((a+q.headD 0)::cond q.isEmpty p (padd p q.tail)) e=_
  cases q with
  | nil=>rw [ev_cons,ev_cons,ev_nil];show (a+0)*_+ev p e.tail=_;rw [Int.add_zero,Int.add_zero]
  | cons b q=>rw [ev_cons,ev_cons,ev_cons];show (a+b)*_+ev (padd p q) e.tail=_;rw [ih,Int.add_mul,Int.add_assoc,Int.add_assoc,Int.add_left_comm (b*_)]
theorem ev_sc (k:Int)(p e:Po):ev (psc k p) e=k*ev p e:=by
 induction p generalizing e with
 | nil=>exact (Int.mul_zero _).symm
 | cons a p ih=>show (k*a)*_+ev (psc k p) e.tail=_;rw [ih,ev_cons,Int.mul_add,Int.mul_assoc]
theorem ev_sb (p q e:Po):ev (psb p q) e=ev p e-ev q e:=by unfold psb;rw [ev_add,ev_sc,Int.neg_mul,Int.one_mul,← Int.sub_eq_add_neg]
theorem ev_one (e:Po):ev [1] (1::e)=1:=rfl
theorem ev_lit (k:Int)(e:Po):ev [k] (1::e)=k:=by show k*1+0=k;rw [Int.mul_one,Int.add_zero]
theorem ev_var (i:Nat)(e:Po):ev (pvar i) e=e.getD i 0:=by
 induction i generalizing e with
 | zero=>show 1*_+0=_;rw [Int.one_mul,Int.add_zero];cases e <;> rfl
 | succ i ih=>show 0*_+ev (pvar i) e.tail=_;rw [ih,Int.zero_mul,Int.zero_add];cases e <;> rfl
theorem ev_short (p e:Po)(h:Nat.ble p.length 1=true):ev p (1::e)=p.headD 0:=by
 have h:=Nat.le_of_ble_eq_true h
 cases p with
 | nil=>rfl
 | cons a p=>cases p with
  | nil=>exact ev_lit a e
  | cons=>exact absurd h (by rw [List.length_cons,List.length_cons];exact fun h=>absurd (Nat.le_of_succ_le_succ h) (Nat.not_succ_le_zero _))
theorem ev_nonp (N:List Nat)(I:List Int)(p:Po)(h:nonp N.length p=true):ev p (N.map (fun (n:Nat)=>(n:Int))++I)≤0:=by
 induction p generalizing N I with
 | nil=>exact Int.le_refl _
 | cons a p ih =>
  rw [ev_cons]
  cases N with
  | nil =>
   have h:(decide (a=0) && nonp 0 p)=true:=h
   rw [Bool.and_eq_true,decide_eq_true_eq] at h
   have:=ih [] I.tail h.2
   rw [h.1,Int.zero_mul,Int.zero_add];exact this
  | cons n N =>
   have h:(decide (a≤0) && nonp N.length p)=true:=h
   rw [Bool.and_eq_true,decide_eq_true_eq] at h
   have h1:=ih N I h.2
   have h2:a*(n:Int)≤0:=Int.mul_nonpos_of_nonpos_of_nonneg h.1 (Int.natCast_nonneg n)
   exact Int.add_le_add h2 h1
section
variable {N:List Nat}{I:List Int}
def gN (N:List Nat)(I:List Int)(x:Nat×Po):Prop:=ev x.2 (envp N I)=x.1
def gI (N:List Nat)(I:List Int)(x:Int×Po):Prop:=ev x.2 (envp N I)=x.1
def gP (N:List Nat)(I:List Int)(x:Prop×Po×Po):Prop:=(x.1→0≤ev x.2.1 (envp N I))∧(¬x.1→0≤ev x.2.2 (envp N I))
def gd (N:List Nat)(I:List Int)(n:NS)(i:IS)(p:PS):Prop:=(∀ x∈n,gN N I x)∧(∀ x∈i,gI N I x)∧∀ x∈p,gP N I x
def gK (N:List Nat)(I:List Int)(k:Kx):Prop:=∀ c n i p,gd N I n i p→∀ x∈k c n i p,gP N I x
def gO (N:List Nat)(I:List Int)(o:Op):Prop:=∀ c n i p k,gd N I n i p→gK N I k→∀ x∈o c n i p k,gP N I x
theorem tl {α:Type}{P:α→Prop}{l:List α}(h:∀ x∈l,P x):∀ x∈l.tail,P x:=fun x hx=>h x (List.mem_of_mem_tail hx)
theorem hd {α:Type}{P:α→Prop}{l:List α}{d:α}(h:∀ x∈l,P x)(h0:P d):P (l.headD d):=by cases l with
 | nil=>exact h0
 | cons a l=>exact h a List.mem_cons_self
theorem cns {α:Type}{P:α→Prop}{l:List α}{a:α}(h:∀ x∈l,P x)(h0:P a):∀ x∈a::l,P x:=fun x hx=>by
 cases hx with
 | head=>exact h0
 | tail _ hx=>exact h x hx
theorem hNg {l:NS}(h:∀ x∈l,gN N I x):gN N I (hN l):=hd h rfl
theorem hIg {l:IS}(h:∀ x∈l,gI N I x):gI N I (hI l):=hd h rfl
theorem hPg {l:PS}(h:∀ x∈l,gP N I x):gP N I (hP l):=hd h ⟨fun _=>Int.le_refl _,fun _=>Int.le_refl _⟩
theorem pN {o:Nat×Po}{m:NS→NS}(hm:∀ {n},(∀ x∈n,gN N I x)→∀ x∈m n,gN N I x){c:Nat}{n:NS}{i:IS}{p:PS}{k:Kx}(g:gd N I n i p)(hk:gK N I k)(h:gN N I o):∀ x∈k c (o::m n) i p,gP N I x :=
 hk _ _ _ _ ⟨cns (hm g.1) h,g.2⟩
theorem pI {o:Int×Po}{m:IS→IS}(hm:∀ {n},(∀ x∈n,gI N I x)→∀ x∈m n,gI N I x){c:Nat}{n:NS}{i:IS}{p:PS}{k:Kx}(g:gd N I n i p)(hk:gK N I k)(h:gI N I o):∀ x∈k c n (o::m i) p,gP N I x :=
 hk _ _ _ _ ⟨g.1,cns (hm g.2.1) h,g.2.2⟩
theorem env1 (e:Po)(N:List Nat)(I:List Int):ev [1] (envp N I)=1:=rfl
theorem q_add {x y:Int}{p q e:Po}(a:ev p e=x)(b:ev q e=y):ev (padd p q) e=x+y:=by rw [ev_add,a,b]
theorem q_sub {x y:Int}{p q e:Po}(a:ev p e=x)(b:ev q e=y):ev (psb p q) e=x-y:=by rw [ev_sb,a,b]
theorem q_neg {x:Int}{p e:Po}(a:ev p e=x):ev (psc (-1) p) e=-x:=by rw [ev_sc,a,Int.neg_mul,Int.one_mul]
theorem q_mulN {x y:Nat}{p q e:Po}(h:Nat.ble p.length 1=true)(a:ev p (1::e)=x)(b:ev q (1::e)=y):ev (psc (p.headD 0) q) (1::e)=(x*y:Nat):=by rw [ev_sc,b,← ev_short p e h,a,Int.natCast_mul]
theorem q_mulI {x y:Int}{p q e:Po}(h:Nat.ble p.length 1=true)(a:ev p (1::e)=x)(b:ev q (1::e)=y):ev (psc (p.headD 0) q) (1::e)=x*y:=by rw [ev_sc,b,← ev_short p e h,a]
theorem q_le {x y:Int}{p q e:Po}(a:ev p (1::e)=x)(b:ev q (1::e)=y):(x≤y→0≤ev (psb q p) (1::e))∧(¬x≤y→0≤ev (psb (psb p q) [1]) (1::e)):=by
 rw [ev_sb,ev_sb,ev_sb,a,b,ev_one];exact ⟨Int.sub_nonneg_of_le,fun h=>Int.le_sub_one_of_lt (Int.sub_pos_of_lt (Int.not_le.mp h))⟩
theorem q_lt {x y:Int}{p q e:Po}(a:ev p (1::e)=x)(b:ev q (1::e)=y):(x<y→0≤ev (psb (psb q p) [1]) (1::e))∧(¬x<y→0≤ev (psb p q) (1::e)):=by
 rw [ev_sb,ev_sb,ev_sb,a,b,ev_one];exact ⟨fun h=>Int.le_sub_one_of_lt (Int.sub_pos_of_lt h),fun h=>Int.sub_nonneg_of_le (Int.not_lt.mp h)⟩
theorem q_eq {x y:Int}{p q e:Po}(a:ev p e=x)(b:ev q e=y):(x=y→0≤ev (psb q p) e)∧(¬x=y→0≤ev [] e):=by
 rw [ev_sb,a,b];exact ⟨fun h=>Int.sub_nonneg_of_le (Int.le_of_eq h),fun _=>Int.le_refl _⟩
theorem q_er {x y:Int}{p q e:Po}(a:ev p e=x)(b:ev q e=y):(x=y→0≤ev (psb p q) e)∧(¬x=y→0≤ev [] e):=by
 rw [ev_sb,a,b];exact ⟨fun h=>Int.sub_nonneg_of_le (Int.le_of_eq h.symm),fun _=>Int.le_refl _⟩
theorem q_sc {p e:Po}(k:Nat)(h:0≤ev p e):0≤ev (psc (Int.ofNat k) p) e:=by rw [ev_sc];exact Int.mul_nonneg (Int.natCast_nonneg _) h
theorem q_to {A B:Prop}{x y:Prop}(h:(A→x)∧(¬A→y))(e:B↔A):(B→x)∧(¬B→y):=⟨fun b=>h.1 (e.mp b),fun b=>h.2 fun a=>b (e.mpr a)⟩
theorem getv (N:List Nat)(I:List Int)(j:Nat):(N.map (fun (n:Nat)=>(n:Int))++I).getD j 0=((N.getD j 0:Nat):Int)∨N.length≤j:=by
 induction N generalizing j with
 | nil=>exact .inr (Nat.zero_le _)
 | cons a N ih=>cases j with
  | zero=>exact .inl rfl
  | succ j=>exact (ih j).imp (fun h=>h) Nat.succ_le_succ
theorem geti (N:List Nat)(I:List Int)(j:Nat):(N.map (fun (n:Nat)=>(n:Int))++I).getD (N.length+j) 0=I.getD j 0:=by
 induction N with
 | nil=>show I.getD (0+j) 0=_;rw [Nat.zero_add]
 | cons a N ih=>rw [List.length_cons,Nat.add_right_comm];exact ih
theorem rlN {n:NS}{i:IS}{p:PS}{c:Nat}{k:Kx}{q:Prop×Po×Po}(g:gd N I n i p)(hk:gK N I k)(h:∀ x y:Nat×Po,gN N I x→gN N I y→x=hN n.tail→y=hN n→gP N I q):∀ x∈k c n.tail.tail i (q::p),gP N I x :=
 hk _ _ _ _ ⟨tl (tl g.1),g.2.1,cns g.2.2 (h _ _ (hNg (tl g.1)) (hNg g.1) rfl rfl)⟩
theorem rlI {n:NS}{i:IS}{p:PS}{c:Nat}{k:Kx}{q:Prop×Po×Po}(g:gd N I n i p)(hk:gK N I k)(h:∀ x y:Int×Po,gI N I x→gI N I y→x=hI i.tail→y=hI i→gP N I q):∀ x∈k c n i.tail.tail (q::p),gP N I x :=
 hk _ _ _ _ ⟨g.1,tl (tl g.2.1),cns g.2.2 (h _ _ (hIg (tl g.2.1)) (hIg g.2.1) rfl rfl)⟩
theorem good_ops:∀ o∈ops,gO N I o:=by
 have nop:gO N I oNop:=fun c n i p k g hk=>hk _ _ _ _ g
 have lit:∀ x,gO N I (oLit x):=fun x c n i p k g hk=>hk _ _ _ _ ⟨cns g.1 (ev_lit _ _),g.2⟩
 have ilit:∀ x,gO N I (oIlit x):=fun x c n i p k g hk=>hk _ _ _ _ ⟨g.1,cns g.2.1 (ev_lit _ _),g.2.2⟩
 have num:gO N I oNum:=fun c n i p k g hk=>hk _ _ _ _ ⟨cns g.1 (ev_lit _ _),g.2⟩
 have add:gO N I oAdd:=fun c n i p k g hk=>pN (fun h=>tl (tl h)) g hk ((q_add (hNg (tl g.1)) (hNg g.1)).trans (Int.natCast_add _ _).symm)
 have iadd:gO N I oIadd:=fun c n i p k g hk=>pI (fun h=>tl (tl h)) g hk (q_add (hIg (tl g.2.1)) (hIg g.2.1))
 have isub:gO N I oIsub:=fun c n i p k g hk=>pI (fun h=>tl (tl h)) g hk (q_sub (hIg (tl g.2.1)) (hIg g.2.1))
 have ineg:gO N I oIneg:=fun c n i p k g hk=>pI (fun h=>tl h) g hk (q_neg (hIg g.2.1))
 have cast:gO N I oCast:=fun c n i p k g hk=>hk _ _ _ _ ⟨tl g.1,cns g.2.1 (hNg g.1),g.2.2⟩
 have na:gO N I oNa:=fun c n i p k g hk=>pN (fun h=>tl h) g hk (hNg g.1)
 have tn:gO N I oTn:=fun c n i p k g hk=>pN (fun h=>tl h) g hk (hNg g.1)
 have mul:gO N I oMul:=fun c n i p k g hk=>by
  show ∀ x∈cond _ _ (cond _ _ _),_
  cases h:Nat.ble (hN n.tail).2.length 1 with
  | true=>exact pN (fun h=>tl (tl h)) g hk (q_mulN h (hNg (tl g.1)) (hNg g.1))
  | false=>cases h2:Nat.ble (hN n).2.length 1 with
   | true=>exact pN (fun h=>tl (tl h)) g hk ((q_mulN h2 (hNg g.1) (hNg (tl g.1))).trans (by rw [Nat.mul_comm]))
   | false=>exact g.2.2
 have imul:gO N I oImul:=fun c n i p k g hk=>by
  show ∀ x∈cond _ _ (cond _ _ _),_
  cases h:Nat.ble (hI i.tail).2.length 1 with
  | true=>exact pI (fun h=>tl (tl h)) g hk (q_mulI h (hIg (tl g.2.1)) (hIg g.2.1))
  | false=>cases h2:Nat.ble (hI i).2.length 1 with
   | true=>exact pI (fun h=>tl (tl h)) g hk ((q_mulI h2 (hIg g.2.1) (hIg (tl g.2.1))).trans (Int.mul_comm _ _))
   | false=>exact g.2.2
 have le:gO N I oLe:=fun c n i p k g hk=>rlN g hk fun x y a b e1 e2=>by subst e1;subst e2;exact q_to (q_le a b) Int.ofNat_le.symm
 have lt:gO N I oLt:=fun c n i p k g hk=>rlN g hk fun x y a b e1 e2=>by subst e1;subst e2;exact q_to (q_lt a b) Int.ofNat_lt.symm
 have ile:gO N I oIle:=fun c n i p k g hk=>rlI g hk fun x y a b e1 e2=>by subst e1;subst e2;exact q_le a b
 have ilt:gO N I oIlt:=fun c n i p k g hk=>rlI g hk fun x y a b e1 e2=>by subst e1;subst e2;exact q_lt a b
 have eq:gO N I oEq:=fun c n i p k g hk=>rlN g hk fun x y a b e1 e2=>by subst e1;subst e2;exact q_to (q_eq a b) Int.ofNat_inj.symm
 have eqr:gO N I oEqr:=fun c n i p k g hk=>rlN g hk fun x y a b e1 e2=>by subst e1;subst e2;exact q_to (q_er a b) Int.ofNat_inj.symm
 have ieq:gO N I oIeq:=fun c n i p k g hk=>rlI g hk fun x y a b e1 e2=>by subst e1;subst e2;exact q_eq a b
 have ieqr:gO N I oIeqr:=fun c n i p k g hk=>rlI g hk fun x y a b e1 e2=>by subst e1;subst e2;exact q_er a b
 have not:gO N I oNot:=fun c n i p k g hk=>hk _ _ _ _ ⟨g.1,g.2.1,cns (tl g.2.2) ⟨(hPg g.2.2).2,fun h=>(hPg g.2.2).1 (Classical.byContradiction h)⟩⟩
 have sc:gO N I oSc:=fun c n i p k g hk=>hk _ _ _ _ ⟨g.1,g.2.1,cns (tl g.2.2) ⟨fun h=>q_sc _ ((hPg g.2.2).1 h),fun h=>q_sc _ ((hPg g.2.2).2 h)⟩⟩
 have fls:gO N I oFls:=fun c n i p k g hk=>hk _ _ _ _ ⟨g.1,g.2.1,cns g.2.2 ⟨fun h=>h.elim,fun _=>Int.le_refl _⟩⟩
 have nl:∀ x∈([]:List Op),gO N I x:=fun x hx=>by cases hx
 exact cns (cns (cns (cns (cns (cns (cns (cns (cns (cns (cns (cns (cns (cns (cns (cns (cns (cns (cns (cns (cns (cns (cns (cns (cns (cns (cns (cns nl fls) sc) not) ieqr) ieq) ilt) ile) eqr) eq) lt) le) imul) ineg) isub) iadd) cast) tn) na) mul) add) (ilit 2)) (ilit 1)) (ilit 0)) (lit 2)) (lit 1)) (lit 0)) num) nop
theorem getd {α:Type}{P:α→Prop}{l:List α}{a:α}(h:∀ x∈l,P x)(h0:P a)(d:Nat):P (l.getD d a):=by
 induction l generalizing d with
 | nil=>exact h0
 | cons b l ih=>cases d with
  | zero=>exact h b List.mem_cons_self
  | succ d=>exact ih (fun x hx=>h x (List.mem_cons_of_mem _ hx)) d
theorem good (d:Nat):gO N I (oAny N I d):=by
 have nop:gO N I oNop:=fun c n i p k g hk=>hk _ _ _ _ g
 unfold oAny
 cases Nat.ble d 31 with
 | true=>exact getd good_ops nop d
 | false =>
  cases Nat.ble d 47 with
  | true =>
   show gO N I (oVar N (Nat.sub d 32))
   generalize Nat.sub d 32=j
   show gO N I fun c n i p k=>cond (Nat.ble N.length j) (k c n i p) (k c ((N.getD j 0,pvar (j+1))::n) i p)
   cases h:Nat.ble N.length j with
   | true=>exact nop
   | false=>exact fun c n i p k g hk=>hk _ _ _ _ ⟨cns g.1 ((ev_var (j+1) _).trans ((getv N I j).resolve_right fun h2=>by rw [Nat.ble_eq_true_of_le h2] at h;cases h)),g.2⟩
  | false =>
   show gO N I (oIvar N I (Nat.sub d 48))
   generalize Nat.sub d 48=j
   exact fun c n i p k g hk=>hk _ _ _ _ ⟨g.1,cns g.2.1 ((ev_var (N.length+j+1) _).trans (geti N I j)),g.2.2⟩
theorem good_run (f c:Nat)(n:NS)(i:IS)(p:PS)(g:gd N I n i p):∀ x∈run N I f c n i p,gP N I x:=by
 induction f generalizing c n i p with
 | zero=>exact g.2.2
 | succ f ih =>
  show ∀ x∈cond _ _ _,_
  cases Nat.beq c 0 with
  | true=>exact g.2.2
  | false=>exact good _ _ _ _ _ _ g fun c n i p g=>ih c n i p g
theorem tot_pos (e:Po)(l:PS)(h:∀ x∈l,0≤ev x.2.1 e):0≤ev (tot l) e:=by
 induction l with
 | nil=>exact Int.le_refl _
 | cons a l ih =>
  show 0≤ev (padd a.2.1 (tot l)) e
  rw [ev_add]
  exact Int.add_nonneg (h a List.mem_cons_self) (ih fun x hx=>h x (List.mem_cons_of_mem _ hx))
end
theorem hP0 (l:PS)(h:¬(l.getD 0 (True,[],[])).1):¬(hP l).1:=by cases l <;> exact h
theorem fin2 (N:List Nat)(I:List Int)(T:Po)(hc:chk N.length T=true)(s:0≤ev T (envp N I)):False:=by
 have hc:(decide (T.headD 0<0) && nonp N.length T.tail)=true:=hc
 rw [Bool.and_eq_true,decide_eq_true_eq] at hc
 cases T with
 | nil=>exact absurd hc.1 (by decide)
 | cons a T =>
  have z:=ev_nonp N I T hc.2
  have e:ev (a::T) (envp N I)=a*1+ev T (N.map (fun (n:Nat)=>(n:Int))++I):=rfl
  have h1:a<0:=hc.1
  rw [e,Int.mul_one] at s
  exact absurd s (Int.not_le.mpr (Int.add_lt_add_of_lt_of_le h1 z))
theorem fin (N:List Nat)(I:List Int)(c:Nat)(hc:ck N I c=true)(h:∀ x∈(ps N I c).tail,x.1):pr N I c 0:=by
 have g:∀ x∈ps N I c,gP N I x:=good_run (N:=N) (I:=I) 99 c [] [] [] ⟨nofun,nofun,nofun⟩
 refine Classical.byContradiction fun hn=>?_
 have t:=tot_pos (envp N I) (ps N I c).tail fun x hx=>((tl g) x hx).1 (h x hx)
 have q:0≤ev (hP (ps N I c)).2.2 (envp N I):=(hPg g).2 (hP0 _ hn)
 exact fin2 N I _ hc (by rw [ev_add];exact Int.add_nonneg q t)
theorem getc {l:PS}(k:Nat)(hk:l.length=k+1)(h:∀ j,j<k→(l.getD (j+1) (True,[],[])).1):∀ x∈l.tail,x.1:=fun x hx=>by
 cases l with
 | nil=>cases hx
 | cons a l =>
  obtain ⟨j,hj,rfl⟩:=List.mem_iff_getElem.mp hx
  have:=h j (Nat.lt_of_lt_of_eq hj (Nat.succ.inj hk))
  rw [List.getD_eq_getElem?_getD,List.getElem?_cons_succ] at this
  have e:l[j]?=some ((a::l).tail[j]):=List.getElem?_eq_getElem hj
  rw [e] at this;exact this
noncomputable def ok (N:List Nat)(I:List Int)(c k:Nat):Bool:=ck N I c && Nat.beq (ps N I c).length (k+1)
theorem fink (N:List Nat)(I:List Int)(c k:Nat)(o:ok N I c k=true)(h:∀ j,j<k→pr N I c (j+1)):pr N I c 0:=by
 unfold ok at o
 rw [Bool.and_eq_true] at o
 exact fin N I c o.1 (getc k (Nat.eq_of_beq_eq_true o.2) h)
section
variable (N:List Nat)(I:List Int)(c:Nat)
theorem Fs {k:Nat}(h:∀ j,j<k→pr N I c (j+1))(a:pr N I c (k+1)):∀ j,j<k+1→pr N I c (j+1):=fun j hj=>by
 by_cases e:j=k
 ·subst e;exact a
 ·exact h j (Nat.lt_of_le_of_ne (Nat.le_of_lt_succ hj) e)
theorem Fz:∀ j,j<0→pr N I c (j+1):=fun j h=>absurd h (Nat.not_lt_zero j)
end
end Qm
namespace Mine
open Qm
theorem an2 {p0 p1 R:Prop}(h:p0∧p1)(k:p0→p1→R):R:=k h.1 h.2
theorem an3 {p0 p1 p2 R:Prop}(h:p0∧p1∧p2)(k:p0→p1→p2→R):R:=k h.1 h.2.1 h.2.2
theorem an4 {p0 p1 p2 p3 R:Prop}(h:p0∧p1∧p2∧p3)(k:p0→p1→p2→p3→R):R:=k h.1 h.2.1 h.2.2.1 h.2.2.2
theorem an5 {p0 p1 p2 p3 p4 R:Prop}(h:p0∧p1∧p2∧p3∧p4)(k:p0→p1→p2→p3→p4→R):R:=k h.1 h.2.1 h.2.2.1 h.2.2.2.1 h.2.2.2.2
theorem an6 {p0 p1 p2 p3 p4 p5 R:Prop}(h:p0∧p1∧p2∧p3∧p4∧p5)(k:p0→p1→p2→p3→p4→p5→R):R:=k h.1 h.2.1 h.2.2.1 h.2.2.2.1 h.2.2.2.2.1 h.2.2.2.2.2
theorem an7 {p0 p1 p2 p3 p4 p5 p6 R:Prop}(h:p0∧p1∧p2∧p3∧p4∧p5∧p6)(k:p0→p1→p2→p3→p4→p5→p6→R):R:=k h.1 h.2.1 h.2.2.1 h.2.2.2.1 h.2.2.2.2.1 h.2.2.2.2.2.1 h.2.2.2.2.2.2
theorem an8 {p0 p1 p2 p3 p4 p5 p6 p7 R:Prop}(h:p0∧p1∧p2∧p3∧p4∧p5∧p6∧p7)(k:p0→p1→p2→p3→p4→p5→p6→p7→R):R:=k h.1 h.2.1 h.2.2.1 h.2.2.2.1 h.2.2.2.2.1 h.2.2.2.2.2.1 h.2.2.2.2.2.2.1 h.2.2.2.2.2.2.2
theorem pr2 {t0 t1:Type}{M:t0×t1→Prop}(h:∀ a0 a1,M (a0,a1)):∀ t,M t:=fun t=>h (t.1) (t.2)
theorem pr3 {t0 t1 t2:Type}{M:t0×t1×t2→Prop}(h:∀ a0 a1 a2,M (a0,a1,a2)):∀ t,M t:=fun t=>h (t.1) (t.2.1) (t.2.2)
theorem pr4 {t0 t1 t2 t3:Type}{M:t0×t1×t2×t3→Prop}(h:∀ a0 a1 a2 a3,M (a0,a1,a2,a3)):∀ t,M t:=fun t=>h (t.1) (t.2.1) (t.2.2.1) (t.2.2.2)
theorem pr5 {t0 t1 t2 t3 t4:Type}{M:t0×t1×t2×t3×t4→Prop}(h:∀ a0 a1 a2 a3 a4,M (a0,a1,a2,a3,a4)):∀ t,M t:=fun t=>h (t.1) (t.2.1) (t.2.2.1) (t.2.2.2.1) (t.2.2.2.2)
theorem pr6 {t0 t1 t2 t3 t4 t5:Type}{M:t0×t1×t2×t3×t4×t5→Prop}(h:∀ a0 a1 a2 a3 a4 a5,M (a0,a1,a2,a3,a4,a5)):∀ t,M t:=fun t=>h (t.1) (t.2.1) (t.2.2.1) (t.2.2.2.1) (t.2.2.2.2.1) (t.2.2.2.2.2)
theorem x1a2 {t0:Sort _}{p0 p1:t0→Prop}{R:Prop}(h:∃ a0,p0 a0∧p1 a0)(k:∀ a0,p0 a0→p1 a0→R):R:=h.elim fun a0 h=>k a0 h.1 h.2
theorem x1a3 {t0:Sort _}{p0 p1 p2:t0→Prop}{R:Prop}(h:∃ a0,p0 a0∧p1 a0∧p2 a0)(k:∀ a0,p0 a0→p1 a0→p2 a0→R):R:=h.elim fun a0 h=>k a0 h.1 h.2.1 h.2.2
theorem x1a4 {t0:Sort _}{p0 p1 p2 p3:t0→Prop}{R:Prop}(h:∃ a0,p0 a0∧p1 a0∧p2 a0∧p3 a0)(k:∀ a0,p0 a0→p1 a0→p2 a0→p3 a0→R):R:=h.elim fun a0 h=>k a0 h.1 h.2.1 h.2.2.1 h.2.2.2
theorem x1a5 {t0:Sort _}{p0 p1 p2 p3 p4:t0→Prop}{R:Prop}(h:∃ a0,p0 a0∧p1 a0∧p2 a0∧p3 a0∧p4 a0)(k:∀ a0,p0 a0→p1 a0→p2 a0→p3 a0→p4 a0→R):R:=h.elim fun a0 h=>k a0 h.1 h.2.1 h.2.2.1 h.2.2.2.1 h.2.2.2.2
theorem x2a1 {t0 t1:Type}{p0:t0→t1→Prop}{R:Prop}(h:∃ a0 a1,p0 a0 a1)(k:∀ a0 a1,p0 a0 a1→R):R:=h.elim fun a0 h=>h.elim fun a1 h=>k a0 a1 h
theorem x2a2 {t0 t1:Type}{p0 p1:t0→t1→Prop}{R:Prop}(h:∃ a0 a1,p0 a0 a1∧p1 a0 a1)(k:∀ a0 a1,p0 a0 a1→p1 a0 a1→R):R:=h.elim fun a0 h=>h.elim fun a1 h=>k a0 a1 h.1 h.2
theorem x2a3 {t0 t1:Type}{p0 p1 p2:t0→t1→Prop}{R:Prop}(h:∃ a0 a1,p0 a0 a1∧p1 a0 a1∧p2 a0 a1)(k:∀ a0 a1,p0 a0 a1→p1 a0 a1→p2 a0 a1→R):R:=h.elim fun a0 h=>h.elim fun a1 h=>k a0 a1 h.1 h.2.1 h.2.2
theorem x2a4 {t0 t1:Type}{p0 p1 p2 p3:t0→t1→Prop}{R:Prop}(h:∃ a0 a1,p0 a0 a1∧p1 a0 a1∧p2 a0 a1∧p3 a0 a1)(k:∀ a0 a1,p0 a0 a1→p1 a0 a1→p2 a0 a1→p3 a0 a1→R):R:=h.elim fun a0 h=>h.elim fun a1 h=>k a0 a1 h.1 h.2.1 h.2.2.1 h.2.2.2
theorem x2a5 {t0 t1:Type}{p0 p1 p2 p3 p4:t0→t1→Prop}{R:Prop}(h:∃ a0 a1,p0 a0 a1∧p1 a0 a1∧p2 a0 a1∧p3 a0 a1∧p4 a0 a1)(k:∀ a0 a1,p0 a0 a1→p1 a0 a1→p2 a0 a1→p3 a0 a1→p4 a0 a1→R):R:=h.elim fun a0 h=>h.elim fun a1 h=>k a0 a1 h.1 h.2.1 h.2.2.1 h.2.2.2.1 h.2.2.2.2
theorem x2a6 {t0 t1:Type}{p0 p1 p2 p3 p4 p5:t0→t1→Prop}{R:Prop}(h:∃ a0 a1,p0 a0 a1∧p1 a0 a1∧p2 a0 a1∧p3 a0 a1∧p4 a0 a1∧p5 a0 a1)(k:∀ a0 a1,p0 a0 a1→p1 a0 a1→p2 a0 a1→p3 a0 a1→p4 a0 a1→p5 a0 a1→R):R:=h.elim fun a0 h=>h.elim fun a1 h=>k a0 a1 h.1 h.2.1 h.2.2.1 h.2.2.2.1 h.2.2.2.2.1 h.2.2.2.2.2
theorem x2a7 {t0 t1:Type}{p0 p1 p2 p3 p4 p5 p6:t0→t1→Prop}{R:Prop}(h:∃ a0 a1,p0 a0 a1∧p1 a0 a1∧p2 a0 a1∧p3 a0 a1∧p4 a0 a1∧p5 a0 a1∧p6 a0 a1)(k:∀ a0 a1,p0 a0 a1→p1 a0 a1→p2 a0 a1→p3 a0 a1→p4 a0 a1→p5 a0 a1→p6 a0 a1→R):R:=h.elim fun a0 h=>h.elim fun a1 h=>k a0 a1 h.1 h.2.1 h.2.2.1 h.2.2.2.1 h.2.2.2.2.1 h.2.2.2.2.2.1 h.2.2.2.2.2.2
theorem x3a1 {t0 t1 t2:Type}{p0:t0→t1→t2→Prop}{R:Prop}(h:∃ a0 a1 a2,p0 a0 a1 a2)(k:∀ a0 a1 a2,p0 a0 a1 a2→R):R:=h.elim fun a0 h=>h.elim fun a1 h=>h.elim fun a2 h=>k a0 a1 a2 h
theorem x3a2 {t0 t1 t2:Type}{p0 p1:t0→t1→t2→Prop}{R:Prop}(h:∃ a0 a1 a2,p0 a0 a1 a2∧p1 a0 a1 a2)(k:∀ a0 a1 a2,p0 a0 a1 a2→p1 a0 a1 a2→R):R:=h.elim fun a0 h=>h.elim fun a1 h=>h.elim fun a2 h=>k a0 a1 a2 h.1 h.2
theorem x3a3 {t0 t1 t2:Type}{p0 p1 p2:t0→t1→t2→Prop}{R:Prop}(h:∃ a0 a1 a2,p0 a0 a1 a2∧p1 a0 a1 a2∧p2 a0 a1 a2)(k:∀ a0 a1 a2,p0 a0 a1 a2→p1 a0 a1 a2→p2 a0 a1 a2→R):R:=h.elim fun a0 h=>h.elim fun a1 h=>h.elim fun a2 h=>k a0 a1 a2 h.1 h.2.1 h.2.2
theorem x3a4 {t0 t1 t2:Type}{p0 p1 p2 p3:t0→t1→t2→Prop}{R:Prop}(h:∃ a0 a1 a2,p0 a0 a1 a2∧p1 a0 a1 a2∧p2 a0 a1 a2∧p3 a0 a1 a2)(k:∀ a0 a1 a2,p0 a0 a1 a2→p1 a0 a1 a2→p2 a0 a1 a2→p3 a0 a1 a2→R):R:=h.elim fun a0 h=>h.elim fun a1 h=>h.elim fun a2 h=>k a0 a1 a2 h.1 h.2.1 h.2.2.1 h.2.2.2
theorem x3a5 {t0 t1 t2:Type}{p0 p1 p2 p3 p4:t0→t1→t2→Prop}{R:Prop}(h:∃ a0 a1 a2,p0 a0 a1 a2∧p1 a0 a1 a2∧p2 a0 a1 a2∧p3 a0 a1 a2∧p4 a0 a1 a2)(k:∀ a0 a1 a2,p0 a0 a1 a2→p1 a0 a1 a2→p2 a0 a1 a2→p3 a0 a1 a2→p4 a0 a1 a2→R):R:=h.elim fun a0 h=>h.elim fun a1 h=>h.elim fun a2 h=>k a0 a1 a2 h.1 h.2.1 h.2.2.1 h.2.2.2.1 h.2.2.2.2
theorem x3a6 {t0 t1 t2:Type}{p0 p1 p2 p3 p4 p5:t0→t1→t2→Prop}{R:Prop}(h:∃ a0 a1 a2,p0 a0 a1 a2∧p1 a0 a1 a2∧p2 a0 a1 a2∧p3 a0 a1 a2∧p4 a0 a1 a2∧p5 a0 a1 a2)(k:∀ a0 a1 a2,p0 a0 a1 a2→p1 a0 a1 a2→p2 a0 a1 a2→p3 a0 a1 a2→p4 a0 a1 a2→p5 a0 a1 a2→R):R:=h.elim fun a0 h=>h.elim fun a1 h=>h.elim fun a2 h=>k a0 a1 a2 h.1 h.2.1 h.2.2.1 h.2.2.2.1 h.2.2.2.2.1 h.2.2.2.2.2
theorem x3a7 {t0 t1 t2:Type}{p0 p1 p2 p3 p4 p5 p6:t0→t1→t2→Prop}{R:Prop}(h:∃ a0 a1 a2,p0 a0 a1 a2∧p1 a0 a1 a2∧p2 a0 a1 a2∧p3 a0 a1 a2∧p4 a0 a1 a2∧p5 a0 a1 a2∧p6 a0 a1 a2)(k:∀ a0 a1 a2,p0 a0 a1 a2→p1 a0 a1 a2→p2 a0 a1 a2→p3 a0 a1 a2→p4 a0 a1 a2→p5 a0 a1 a2→p6 a0 a1 a2→R):R:=h.elim fun a0 h=>h.elim fun a1 h=>h.elim fun a2 h=>k a0 a1 a2 h.1 h.2.1 h.2.2.1 h.2.2.2.1 h.2.2.2.2.1 h.2.2.2.2.2.1 h.2.2.2.2.2.2
theorem x4a2 {t0 t1 t2 t3:Type}{p0 p1:t0→t1→t2→t3→Prop}{R:Prop}(h:∃ a0 a1 a2 a3,p0 a0 a1 a2 a3∧p1 a0 a1 a2 a3)(k:∀ a0 a1 a2 a3,p0 a0 a1 a2 a3→p1 a0 a1 a2 a3→R):R:=h.elim fun a0 h=>h.elim fun a1 h=>h.elim fun a2 h=>h.elim fun a3 h=>k a0 a1 a2 a3 h.1 h.2
theorem x4a3 {t0 t1 t2 t3:Type}{p0 p1 p2:t0→t1→t2→t3→Prop}{R:Prop}(h:∃ a0 a1 a2 a3,p0 a0 a1 a2 a3∧p1 a0 a1 a2 a3∧p2 a0 a1 a2 a3)(k:∀ a0 a1 a2 a3,p0 a0 a1 a2 a3→p1 a0 a1 a2 a3→p2 a0 a1 a2 a3→R):R:=h.elim fun a0 h=>h.elim fun a1 h=>h.elim fun a2 h=>h.elim fun a3 h=>k a0 a1 a2 a3 h.1 h.2.1 h.2.2
theorem x4a4 {t0 t1 t2 t3:Type}{p0 p1 p2 p3:t0→t1→t2→t3→Prop}{R:Prop}(h:∃ a0 a1 a2 a3,p0 a0 a1 a2 a3∧p1 a0 a1 a2 a3∧p2 a0 a1 a2 a3∧p3 a0 a1 a2 a3)(k:∀ a0 a1 a2 a3,p0 a0 a1 a2 a3→p1 a0 a1 a2 a3→p2 a0 a1 a2 a3→p3 a0 a1 a2 a3→R):R:=h.elim fun a0 h=>h.elim fun a1 h=>h.elim fun a2 h=>h.elim fun a3 h=>k a0 a1 a2 a3 h.1 h.2.1 h.2.2.1 h.2.2.2
theorem x4a5 {t0 t1 t2 t3:Type}{p0 p1 p2 p3 p4:t0→t1→t2→t3→Prop}{R:Prop}(h:∃ a0 a1 a2 a3,p0 a0 a1 a2 a3∧p1 a0 a1 a2 a3∧p2 a0 a1 a2 a3∧p3 a0 a1 a2 a3∧p4 a0 a1 a2 a3)(k:∀ a0 a1 a2 a3,p0 a0 a1 a2 a3→p1 a0 a1 a2 a3→p2 a0 a1 a2 a3→p3 a0 a1 a2 a3→p4 a0 a1 a2 a3→R):R:=h.elim fun a0 h=>h.elim fun a1 h=>h.elim fun a2 h=>h.elim fun a3 h=>k a0 a1 a2 a3 h.1 h.2.1 h.2.2.1 h.2.2.2.1 h.2.2.2.2
theorem x5a1 {t0 t1 t2 t3 t4:Type}{p0:t0→t1→t2→t3→t4→Prop}{R:Prop}(h:∃ a0 a1 a2 a3 a4,p0 a0 a1 a2 a3 a4)(k:∀ a0 a1 a2 a3 a4,p0 a0 a1 a2 a3 a4→R):R:=h.elim fun a0 h=>h.elim fun a1 h=>h.elim fun a2 h=>h.elim fun a3 h=>h.elim fun a4 h=>k a0 a1 a2 a3 a4 h
theorem x5a2 {t0 t1 t2 t3 t4:Type}{p0 p1:t0→t1→t2→t3→t4→Prop}{R:Prop}(h:∃ a0 a1 a2 a3 a4,p0 a0 a1 a2 a3 a4∧p1 a0 a1 a2 a3 a4)(k:∀ a0 a1 a2 a3 a4,p0 a0 a1 a2 a3 a4→p1 a0 a1 a2 a3 a4→R):R:=h.elim fun a0 h=>h.elim fun a1 h=>h.elim fun a2 h=>h.elim fun a3 h=>h.elim fun a4 h=>k a0 a1 a2 a3 a4 h.1 h.2
theorem x5a6 {t0 t1 t2 t3 t4:Type}{p0 p1 p2 p3 p4 p5:t0→t1→t2→t3→t4→Prop}{R:Prop}(h:∃ a0 a1 a2 a3 a4,p0 a0 a1 a2 a3 a4∧p1 a0 a1 a2 a3 a4∧p2 a0 a1 a2 a3 a4∧p3 a0 a1 a2 a3 a4∧p4 a0 a1 a2 a3 a4∧p5 a0 a1 a2 a3 a4)(k:∀ a0 a1 a2 a3 a4,p0 a0 a1 a2 a3 a4→p1 a0 a1 a2 a3 a4→p2 a0 a1 a2 a3 a4→p3 a0 a1 a2 a3 a4→p4 a0 a1 a2 a3 a4→p5 a0 a1 a2 a3 a4→R):R:=h.elim fun a0 h=>h.elim fun a1 h=>h.elim fun a2 h=>h.elim fun a3 h=>h.elim fun a4 h=>k a0 a1 a2 a3 a4 h.1 h.2.1 h.2.2.1 h.2.2.2.1 h.2.2.2.2.1 h.2.2.2.2.2
section
variable (N:List Nat)(I:List Int)(c:Nat)
theorem sb0 {x y:Nat}:x-y≤x:=Nat.sub_le x y
theorem sb1 {x y:Nat}:x≤x-y+y:=(Nat.le_total y x).elim (fun h=>Nat.le_of_eq (Nat.sub_add_cancel h).symm) fun h=>Nat.le_trans h (Nat.le_add_left _ _)
theorem ml {x k:Nat}:x%(k+1)<k+1:=Nat.mod_lt _ (Nat.zero_lt_succ k)
theorem sbc {x y:Nat}{P:Prop}(A:y≤x→x-y+y=x→P)(B:x≤y→x-y=0→P):P:=(Nat.le_total y x).elim (fun h=>A h (Nat.sub_add_cancel h)) fun h=>B h (Nat.sub_eq_zero_of_le h)
theorem nac {x:Int}{P:Prop}(A:0≤x→(x.natAbs:Int)=x→P)(B:x≤0→(x.natAbs:Int)=-x→P):P:=(Int.le_total 0 x).elim (fun h=>A h (Int.natAbs_of_nonneg h)) fun h=>B h (Int.ofNat_natAbs_of_nonpos h)
theorem F0 (o:ok N I c 0=true:=by kernel_rfl):pr N I c 0:=fink N I c 0 o fun j h=>absurd h (Nat.not_lt_zero j)
theorem F1 (a:pr N I c 1)(o:ok N I c 1=true:=by kernel_rfl):pr N I c 0:=fink N I c _ o (Fs N I c (Fz N I c) a)
theorem F2 (a:pr N I c 1)(b:pr N I c 2)(o:ok N I c 2=true:=by kernel_rfl):pr N I c 0:=fink N I c _ o (Fs N I c (Fs N I c (Fz N I c) a) b)
theorem F3 (a:pr N I c 1)(b:pr N I c 2)(d:pr N I c 3)(o:ok N I c 3=true:=by kernel_rfl):pr N I c 0:=fink N I c _ o (Fs N I c (Fs N I c (Fs N I c (Fz N I c) a) b) d)
theorem F4 (a:pr N I c 1)(b:pr N I c 2)(d:pr N I c 3)(e:pr N I c 4)(o:ok N I c 4=true:=by kernel_rfl):pr N I c 0:=fink N I c _ o (Fs N I c (Fs N I c (Fs N I c (Fs N I c (Fz N I c) a) b) d) e)
theorem F5 (a:pr N I c 1)(b:pr N I c 2)(d:pr N I c 3)(e:pr N I c 4)(f:pr N I c 5)(o:ok N I c 5=true:=by kernel_rfl):pr N I c 0:=fink N I c _ o (Fs N I c (Fs N I c (Fs N I c (Fs N I c (Fs N I c (Fz N I c) a) b) d) e) f)
theorem F6 (a:pr N I c 1)(b:pr N I c 2)(d:pr N I c 3)(e:pr N I c 4)(f:pr N I c 5)(g:pr N I c 6)(o:ok N I c 6=true:=by kernel_rfl):pr N I c 0:=fink N I c _ o (Fs N I c (Fs N I c (Fs N I c (Fs N I c (Fs N I c (Fs N I c (Fz N I c) a) b) d) e) f) g)
theorem F7 (a:pr N I c 1)(b:pr N I c 2)(d:pr N I c 3)(e:pr N I c 4)(f:pr N I c 5)(g:pr N I c 6)(h:pr N I c 7)(o:ok N I c 7=true:=by kernel_rfl):pr N I c 0:=fink N I c _ o (Fs N I c (Fs N I c (Fs N I c (Fs N I c (Fs N I c (Fs N I c (Fs N I c (Fz N I c) a) b) d) e) f) g) h)
end
theorem nAs {n m:Nat}(h:n≤m)(k:m≤n):n=m:=Nat.le_antisymm h k
theorem nSc {n m:Nat}(h:m≤n):n-m+m=n:=Nat.sub_add_cancel h
theorem iTn {a:Int}(h:0≤a):(a.toNat:Int)=a:=Int.toNat_of_nonneg h
theorem iSt (a:Int):a≤a.toNat:=Int.self_le_toNat a
theorem iAs {a b:Int}(h:a≤b)(k:b≤a):a=b:=Int.le_antisymm h k
theorem nPo {n:Nat}(h:n≠0):0<n:=Nat.pos_of_ne_zero h
end Mine
open PySem PySem.W PyProof.Rows PySem.Calls
namespace Mine
section
inductive V where
 | none
 | bool (b:Bool)
 | int (i:Int)
 | ref (a:Addr)
 | lst (l:List V)
 | tup (l:List V)
 | mont (m minus one square:V)
 | clo (told w mul:V)
noncomputable def zl (l:List Int):V:=.lst (l.map V.int)
noncomputable def nl (l:List Nat):V:=.lst (l.map fun (n:Nat)=>V.int (n:Int))
inductive Slot where
 | un
 | val (v:V)
 | own (l:List V)
 | bor (l:List V)
noncomputable abbrev Sg:=List Slot
inductive FL where
 | next | brk | cont
 | ret (v:V)
set_option genCtorIdx false
mutual
inductive E where
 | loc (i:Nat)
 | cst (v:V)
 | glo (x:String) (v:V)
 | bin (op:Operator) (l r:E)
 | neg (e:E)
 | not (e:E)
 | cmp (op:CmpOp) (l r:E)
 | and (l r:E)
 | or (l r:E)
 | ite (c t e:E)
 | call (f:E) (args:Es)
 | callB (f:E) (i:Nat) (args:Es)
 | lenL (i:Nat)
 | max2 (a b:E)
 | min2 (a b:E)
 | bitlen (e:E)
 | attr (i:Nat) (k:String)
 | sub (e i:E)
 | subL (i:Nat) (idx:E)
 | tup (es:Es)
 | fresh (f:F)
inductive F where
 | disp (es:Es)
 | rep (e n:E)
 | cat (l r:E)
 | sliceL (i:Nat) (lo hi:E)
inductive Es where
 | nil
 | cons (e:E) (es:Es)
end
inductive It where
 | rng1 (b:E)
 | rng2 (a b:E)
 | rng3 (a b c:E)
 | lst (e:E)
 | enm (e:E)
inductive Is where
 | nil
 | val (i:Nat) (e:E) (r:Is)
 | own (i:Nat) (f:F) (r:Is)
inductive C where
 | skip
 | seq (c d:C)
 | asg (i:Nat) (e:E)
 | asgO (i:Nat) (f:F)
 | multi (is:Is)
 | unpk (ts:List Nat) (e:E)
 | aug (i:Nat) (op:Operator) (e:E)
 | setL (i:Nat) (idx e:E)
 | app (i:Nat) (e:E)
 | exprB (f:E) (i:Nat) (args:Es)
 | expr (e:E)
 | ifs (c:E) (t e:C)
 | whl (c:E) (b:C)
 | for1 (i:Nat) (it:It) (b:C)
 | for2 (i j:Nat) (it:It) (b:C)
 | ret (e:E)
 | cont
 | raise
set_option genCtorIdx true
structure Spec where
 X:Type
 enc:X→List V
 pre:X→Prop
 post:X→V→Prop
def Spec.use (S:Spec)(vs:List V)(k:V→Prop):Prop:=∃ x:S.X,vs=S.enc x∧S.pre x∧∀ r,S.post x r→k r
structure SpecB where
 X:Type
 enc:X→List V×List V
 pre:X→Prop
 post:X→V→List V→Prop
def SpecB.use (S:SpecB)(l:List V)(vs:List V)(k:V→List V→Prop):Prop:=∃ x:S.X,(l,vs)=S.enc x∧S.pre x∧∀ r l',S.post x r l'→k r l'
structure Gam where
 fn:List (Addr×Spec)
 fb:List (Addr×SpecB)
 cl:Option Spec:=none
def onI (v:V)(k:Int→Prop):Prop:=V.casesOn v False (fun _=>False) k (fun _=>False) (fun _=>False) (fun _=>False) (fun _ _ _ _=>False) (fun _ _ _=>False)
def onB (v:V)(k:Bool→Prop):Prop:=V.casesOn v False k (fun _=>False) (fun _=>False) (fun _=>False) (fun _=>False) (fun _ _ _ _=>False) (fun _ _ _=>False)
def onL (v:V)(k:List V→Prop):Prop:=V.casesOn v False (fun _=>False) (fun _=>False) (fun _=>False) k (fun _=>False) (fun _ _ _ _=>False) (fun _ _ _=>False)
def onT (v:V)(k:List V→Prop):Prop:=V.casesOn v False (fun _=>False) (fun _=>False) (fun _=>False) (fun _=>False) k (fun _ _ _ _=>False) (fun _ _ _=>False)
def onN (v:V)(k:Prop):Prop:=V.casesOn v k (fun _=>False) (fun _=>False) (fun _=>False) (fun _=>False) (fun _=>False) (fun _ _ _ _=>False) (fun _ _ _=>False)
def onO {α:Type}(o:Option α)(k:α→Prop):Prop:=Option.casesOn o False k
def onS (o:Option Slot)(kv:V→Prop)(ko kb:List V→Prop):Prop:=Option.casesOn o False fun s=>Slot.casesOn s False kv ko kb
theorem onI_inv {v:V}{k:Int→Prop}(h:onI v k):∃ x,v=.int x∧k x:=by cases v with | int x=>exact ⟨x,rfl,h⟩ | _=>exact h.elim
theorem onB_inv {v:V}{k:Bool→Prop}(h:onB v k):∃ x,v=.bool x∧k x:=by cases v with | bool x=>exact ⟨x,rfl,h⟩ | _=>exact h.elim
theorem onL_inv {v:V}{k:List V→Prop}(h:onL v k):∃ x,v=.lst x∧k x:=by cases v with | lst x=>exact ⟨x,rfl,h⟩ | _=>exact h.elim
theorem onT_inv {v:V}{k:List V→Prop}(h:onT v k):∃ x,v=.tup x∧k x:=by cases v with | tup x=>exact ⟨x,rfl,h⟩ | _=>exact h.elim
theorem onN_inv {v:V}{k:Prop}(h:onN v k):v=.none∧k:=by cases v with | none=>exact ⟨rfl,h⟩ | _=>exact h.elim
theorem onO_inv {α:Type}{o:Option α}{k:α→Prop}(h:onO o k):∃ x,o=some x∧k x:=by cases o with | none=>exact h.elim | some x=>exact ⟨x,rfl,h⟩
theorem onS_inv {o:Option Slot}{kv:V→Prop}{ko kb:List V→Prop}{R:Prop}(h:onS o kv ko kb)(a:∀ v,o=some (.val v)→kv v→R)(b:∀ l,o=some (.own l)→ko l→R)(c:∀ l,o=some (.bor l)→kb l→R):R:=by
 cases o with
 | none=>exact h.elim
 | some s=>cases s with
  | un=>exact h.elim
  | val v=>exact a v rfl h
  | own l=>exact b l rfl h
  | bor l=>exact c l rfl h
theorem onI_int {x:Int}{k:Int→Prop}:onI (.int x) k=k x:=rfl
theorem onB_bool {x:Bool}{k:Bool→Prop}:onB (.bool x) k=k x:=rfl
theorem onL_lst {x:List V}{k:List V→Prop}:onL (.lst x) k=k x:=rfl
theorem onT_tup {x:List V}{k:List V→Prop}:onT (.tup x) k=k x:=rfl
theorem onN_none {k:Prop}:onN .none k=k:=rfl
theorem onO_some {α:Type}{x:α}{k:α→Prop}:onO (some x) k=k x:=rfl
theorem onS_val {v:V}{kv:V→Prop}{ko kb:List V→Prop}:onS (some (.val v)) kv ko kb=kv v:=rfl
theorem onS_own {l:List V}{kv:V→Prop}{ko kb:List V→Prop}:onS (some (.own l)) kv ko kb=ko l:=rfl
theorem onS_bor {l:List V}{kv:V→Prop}{ko kb:List V→Prop}:onS (some (.bor l)) kv ko kb=kb l:=rfl
def Gam.use (Γ:Gam)(vf:V)(vs:List V)(k:V→Prop):Prop :=
 V.casesOn vf False (fun _=>False) (fun _=>False) (fun a=>∃ S,Γ.fn.lookup a=some S∧S.use vs k) (fun _=>False) (fun _=>False) (fun _ _ _ _=>False) (fun t w m=>∃ S,Γ.cl=some S∧vs.length=2∧S.use (vs++[t,w,m]) k)
def Gam.useB (Γ:Gam)(vf:V)(l vs:List V)(k:V→List V→Prop):Prop :=
 V.casesOn vf False (fun _=>False) (fun _=>False) (fun a=>∃ S,Γ.fb.lookup a=some S∧S.use l vs k) (fun _=>False) (fun _=>False) (fun _ _ _ _=>False) (fun _ _ _=>False)
noncomputable def sMx:Nat:=1048576
def binI (op:Operator)(x y:Int)(k:V→Prop):Prop:=match op with
 | .Add=>k (.int (x+y))
 | .Sub=>k (.int (x-y))
 | .Mult=>(x.natAbs<2^64∧y.natAbs<2^64)∧k (.int (x*y))
 | .FloorDiv=>(y≠0∧y.natAbs<2^64)∧k (.int (x.fdiv y))
 | .Mod=>y≠0∧k (.int (x.fmod y))
 | .LShift=>(0≤y∧y≤1000∧x.natAbs<2^64)∧k (.int (x*2^y.toNat))
 | .RShift=>0≤y∧k (.int (x.fdiv (2^y.toNat)))
 | .BitAnd=>k (.int (Builtin.bitAnd x y))
 | .BitOr=>k (.int (Builtin.bitOr x y))
 | _=>False
section
variable {x y:Int}{k:V→Prop}
theorem b_add:binI .Add x y k=k (.int (x+y)):=rfl
theorem b_sub:binI .Sub x y k=k (.int (x-y)):=rfl
theorem b_mul:binI .Mult x y k=((x.natAbs<2^64∧y.natAbs<2^64)∧k (.int (x*y))):=rfl
theorem b_div:binI .FloorDiv x y k=((y≠0∧y.natAbs<2^64)∧k (.int (x.fdiv y))):=rfl
theorem b_mod:binI .Mod x y k=(y≠0∧k (.int (x.fmod y))):=rfl
theorem b_shl:binI .LShift x y k=((0≤y∧y≤1000∧x.natAbs<2^64)∧k (.int (x*2^y.toNat))):=rfl
theorem b_shr:binI .RShift x y k=(0≤y∧k (.int (x.fdiv (2^y.toNat)))):=rfl
theorem b_and:binI .BitAnd x y k=k (.int (Builtin.bitAnd x y)):=rfl
theorem b_or:binI .BitOr x y k=k (.int (Builtin.bitOr x y)):=rfl
end
def binP (op:Operator)(a b:V)(k:V→Prop):Prop:=onI a fun x=>onI b fun y=>binI op x y k
theorem binP_int {op:Operator}{x y:Int}{k:V→Prop}:binP op (.int x) (.int y) k=binI op x y k:=rfl
def cmpI (op:CmpOp)(x y:Int)(k:Bool→Prop):Prop:=match op with
 | .Lt=>k (decide (x<y))
 | .LtE=>k (decide (x≤y))
 | .Gt=>k (decide (y<x))
 | .GtE=>k (decide (y≤x))
 | .Eq=>k (decide (x=y))
 | .NotEq=>k (!decide (x=y))
 | _=>False
def cmpL (op:CmpOp)(xs ys:List V)(k:Bool→Prop):Prop:=match op with
 | .Eq=>∃ ns ms:List Int,xs=ns.map V.int∧ys=ms.map V.int∧k (decide (ns=ms))
 | .NotEq=>∃ ns ms:List Int,xs=ns.map V.int∧ys=ms.map V.int∧k (!decide (ns=ms))
 | .In=>∃ (ns:List Int) (mss:List (List Int)),xs=ns.map V.int∧ys=mss.map zl∧k (decide (ns∈mss))
 | _=>False
def cmpT (op:CmpOp)(xs ys:List V)(k:Bool→Prop):Prop:=op=.In∧∃ (ns:List Int) (mss:List (List Int)),xs=ns.map V.int∧ys=mss.map zl∧k (decide (ns∈mss))
noncomputable def isN (v:V):Bool:=V.casesOn v true (fun _=>false) (fun _=>false) (fun _=>false) (fun _=>false) (fun _=>false) (fun _ _ _ _=>false) (fun _ _ _=>false)
def cmpN (op:CmpOp)(a:V)(k:Bool→Prop):Prop:=match op with
 | .Is=>k (isN a)
 | .IsNot=>k (!isN a)
 | _=>False
def cmpP (op:CmpOp)(a b:V)(k:Bool→Prop):Prop :=
 V.casesOn b (cmpN op a k) (fun _=>False) (fun y=>onI a fun x=>cmpI op x y k) (fun _=>False) (fun ys=>onL a fun xs=>cmpL op xs ys k) (fun ys=>onL a fun xs=>cmpT op xs ys k) (fun _ _ _ _=>False) (fun _ _ _=>False)
section
variable {x y:Int}{xs ys:List V}{a:V}{op:CmpOp}{k:Bool→Prop}
theorem c_int:cmpP op (.int x) (.int y) k=cmpI op x y k:=rfl
theorem c_lst:cmpP op (.lst xs) (.lst ys) k=cmpL op xs ys k:=rfl
theorem c_tup:cmpP op (.lst xs) (.tup ys) k=(op=.In∧∃ (ns:List Int) (mss:List (List Int)),xs=ns.map V.int∧ys=mss.map zl∧k (decide (ns∈mss))):=rfl
theorem c_non:cmpP op a .none k=cmpN op a k:=rfl
theorem c_lt:cmpI .Lt x y k=k (decide (x<y)):=rfl
theorem c_le:cmpI .LtE x y k=k (decide (x≤y)):=rfl
theorem c_gt:cmpI .Gt x y k=k (decide (y<x)):=rfl
theorem c_ge:cmpI .GtE x y k=k (decide (y≤x)):=rfl
theorem c_eq:cmpI .Eq x y k=k (decide (x=y)):=rfl
theorem c_ne:cmpI .NotEq x y k=k (!decide (x=y)):=rfl
theorem c_Leq:cmpL .Eq xs ys k=∃ ns ms:List Int,xs=ns.map V.int∧ys=ms.map V.int∧k (decide (ns=ms)):=rfl
theorem c_Lne:cmpL .NotEq xs ys k=∃ ns ms:List Int,xs=ns.map V.int∧ys=ms.map V.int∧k (!decide (ns=ms)):=rfl
theorem c_Lin:cmpL .In xs ys k=∃ (ns:List Int) (mss:List (List Int)),xs=ns.map V.int∧ys=mss.map zl∧k (decide (ns∈mss)):=rfl
theorem c_is:cmpN .Is a k=k (isN a):=rfl
theorem c_isnt:cmpN .IsNot a k=k (!isN a):=rfl
theorem n_none:isN .none=true:=rfl
theorem n_int:isN (.int x)=false:=rfl
theorem n_lst:isN (.lst xs)=false:=rfl
end
noncomputable def pyIdx (l:List V)(i:Int):Option V:=if 0≤i then l[i.toNat]? else if -(l.length:Int)≤i then l[(i+l.length).toNat]? else .none
def idxI (o:V)(i:Int)(k:V→Prop):Prop :=
 V.casesOn o False (fun _=>False) (fun _=>False) (fun _=>False) (fun l=>∃ v,pyIdx l i=some v∧k v) (fun l=>0≤i∧∃ v,l[i.toNat]?=some v∧k v) (fun _ _ _ _=>False) (fun _ _ _=>False)
def idxP (o:V)(i:V)(k:V→Prop):Prop:=onI i fun i=>idxI o i k
theorem i_lst {l:List V}{i:Int}{k:V→Prop}:idxP (.lst l) (.int i) k=∃ v,pyIdx l i=some v∧k v:=rfl
theorem i_tup {l:List V}{i:Int}{k:V→Prop}:idxP (.tup l) (.int i) k=(0≤i∧∃ v,l[i.toNat]?=some v∧k v):=rfl
def slotL (σ:Sg)(i:Nat)(k:List V→Prop):Prop:=onS σ[i]? (fun v=>onL v k) k k
theorem sl_eq {σ:Sg}{i:Nat}{k:List V→Prop}:slotL σ i k=onS σ[i]? (fun v=>onL v k) k k:=rfl
theorem slotL_inv {σ:Sg}{i:Nat}{k:List V→Prop}{R:Prop}(h:slotL σ i k)(a:∀ l,σ[i]?=some (.val (.lst l))→k l→R)(b:∀ l,σ[i]?=some (.own l)→k l→R)(c:∀ l,σ[i]?=some (.bor l)→k l→R):R :=
 onS_inv h (fun v e q=>by obtain ⟨l,rfl,q⟩:=onL_inv q;exact a l e q) b c
noncomputable def bnd (v:V):Option (Option Int):=V.casesOn v (some none) (fun _=>none) (fun i=>some (some i)) (fun _=>none) (fun _=>none) (fun _=>none) (fun _ _ _ _=>none) (fun _ _ _=>none)
theorem bnd_none:bnd .none=some none:=rfl
theorem bnd_int {i:Int}:bnd (.int i)=some (some i):=rfl
noncomputable def cutL (l:List V)(lo hi:Option Int):List V :=
 (l.drop (lo.elim 0 (clipAt l.length))).take (hi.elim l.length (clipAt l.length)-lo.elim 0 (clipAt l.length))
def attrP (v:V)(k:String)(q:V→Prop):Prop :=
 V.casesOn v False (fun _=>False) (fun _=>False) (fun _=>False) (fun _=>False) (fun _=>False) (fun m mi o s=>if k = "modulus" then q m else if k = "minus" then q mi else if k = "one" then q o else if k = "square" then q s else False) (fun _ _ _=>False)
section
variable {m mi o s:V}{q:V→Prop}
theorem a_mod:attrP (.mont m mi o s) "modulus" q=q m:=rfl
theorem a_min:attrP (.mont m mi o s) "minus" q=q mi:=rfl
theorem a_one:attrP (.mont m mi o s) "one" q=q o:=rfl
theorem a_sq:attrP (.mont m mi o s) "square" q=q s:=rfl
end
section
variable (Γ:Gam)
noncomputable abbrev TE:=Sg→(V→Sg→Prop)→Prop
noncomputable abbrev TF:=Sg→(List V→Sg→Prop)→Prop
noncomputable def wLoc (i:Nat):TE:=fun σ Q=>onS σ[i]? (fun v=>Q v σ) (fun l=>Q (.lst l) (σ.set i (.val (.lst l)))) fun _=>False
noncomputable def wBin (op:Operator)(l r:TE):TE:=fun σ Q=>l σ fun a σ=>r σ fun b σ=>binP op a b fun v=>Q v σ
noncomputable def wNeg (e:TE):TE:=fun σ Q=>e σ fun a σ=>onI a fun x=>Q (.int (-x)) σ
noncomputable def wNot (e:TE):TE:=fun σ Q=>e σ fun a σ=>onB a fun x=>Q (.bool (!x)) σ
noncomputable def wCmp (op:CmpOp)(l r:TE):TE:=fun σ Q=>l σ fun a σ=>r σ fun b σ=>cmpP op a b fun v=>Q (.bool v) σ
noncomputable def wAnd (l r:TE):TE:=fun σ Q=>l σ fun a σ=>onB a fun x=>if x=true then r σ Q else Q (.bool false) σ
noncomputable def wOr (l r:TE):TE:=fun σ Q=>l σ fun a σ=>onB a fun x=>if x=true then Q (.bool true) σ else r σ Q
noncomputable def wIte (c t e:TE):TE:=fun σ Q=>c σ fun a σ=>onB a fun x=>if x=true then t σ Q else e σ Q
noncomputable def wCall (f:TE)(args:TF):TE:=fun σ Q=>f σ fun vf σ=>args σ fun vs σ=>Γ.use vf vs fun r=>Q r σ
noncomputable def wCallB (f:TE)(i:Nat)(args:TF):TE:=fun σ Q=>f σ fun vf σ=>onS σ[i]? (fun _=>False)
 (fun l=>args σ fun vs τ=>τ=σ∧Γ.useB vf l vs fun r l'=>Q r (σ.set i (.own l'))) (fun l=>args σ fun vs τ=>τ=σ∧Γ.useB vf l vs fun r l'=>Q r (σ.set i (.bor l')))
noncomputable def wLen (i:Nat):TE:=fun σ Q=>slotL σ i fun l=>Q (.int l.length) σ
noncomputable def wMax (a b:TE):TE:=fun σ Q=>a σ fun a σ=>b σ fun b σ=>onI a fun x=>onI b fun y=>Q (.int (max x y)) σ
noncomputable def wMin (a b:TE):TE:=fun σ Q=>a σ fun a σ=>b σ fun b σ=>onI a fun x=>onI b fun y=>Q (.int (min x y)) σ
noncomputable def wBits (e:TE):TE:=fun σ Q=>e σ fun a σ=>onI a fun x=>0≤x∧x.natAbs<2^64∧Q (.int (if x=0 then 0 else x.natAbs.log2+1)) σ
noncomputable def wAttr (i:Nat)(k:String):TE:=fun σ Q=>onS σ[i]? (fun v=>attrP v k fun r=>Q r σ) (fun _=>False) fun _=>False
noncomputable def wSub (e i:TE):TE:=fun σ Q=>e σ fun o σ=>i σ fun i σ=>idxP o i fun v=>Q v σ
noncomputable def wSubL (i:Nat)(idx:TE):TE:=fun σ Q=>slotL σ i fun l=>idx σ fun iv τ=>τ=σ∧idxP (.lst l) iv fun v=>Q v σ
noncomputable def wTup (es:TF):TE:=fun σ Q=>es σ fun vs σ=>Q (.tup vs) σ
noncomputable def wFresh (f:TF):TE:=fun σ Q=>f σ fun l σ=>Q (.lst l) σ
noncomputable def wRep (e n:TE):TF:=fun σ Q=>e σ fun v σ=>n σ fun k σ=>onI k fun x=>(-1000≤x∧x≤1000)∧Q (List.replicate x.toNat v) σ
noncomputable def wCat (l r:TE):TF:=fun σ Q=>l σ fun a σ=>r σ fun b σ=>onL a fun x=>onL b fun y=>(x++y).length≤sMx∧Q (x++y) σ
noncomputable def wCut (i:Nat)(lo hi:TE):TF:=fun σ Q=>slotL σ i fun l=>lo σ fun a τ=>hi τ fun b τ=>τ=σ∧onO (bnd a) fun x=>onO (bnd b) fun y=>Q (cutL l x y) σ
noncomputable def wCons (e:TE)(es:TF):TF:=fun σ Q=>e σ fun v σ=>es σ fun vs σ=>Q (v::vs) σ
noncomputable def WE (e:E):TE:=E.rec (motive_1:=fun _=>TE) (motive_2:=fun _=>TF) (motive_3:=fun _=>TF) wLoc (fun v σ Q=>Q v σ) (fun _ v σ Q=>Q v σ) (fun op _ _=>wBin op) (fun _=>wNeg) (fun _=>wNot) (fun op _ _=>wCmp op) (fun _ _=>wAnd) (fun _ _=>wOr) (fun _ _ _=>wIte)
 (fun _ _=>wCall Γ) (fun _ i _ f=>wCallB Γ f i) wLen (fun _ _=>wMax) (fun _ _=>wMin) (fun _=>wBits) wAttr (fun _ _=>wSub) (fun i _=>wSubL i) (fun _=>wTup) (fun _=>wFresh) (fun _ x=>x) (fun _ _=>wRep) (fun _ _=>wCat) (fun i _ _=>wCut i) (fun σ Q=>Q [] σ) (fun _ _=>wCons) e
noncomputable def WF (e:F):TF:=F.rec (motive_1:=fun _=>TE) (motive_2:=fun _=>TF) (motive_3:=fun _=>TF) wLoc (fun v σ Q=>Q v σ) (fun _ v σ Q=>Q v σ) (fun op _ _=>wBin op) (fun _=>wNeg) (fun _=>wNot) (fun op _ _=>wCmp op) (fun _ _=>wAnd) (fun _ _=>wOr) (fun _ _ _=>wIte)
 (fun _ _=>wCall Γ) (fun _ i _ f=>wCallB Γ f i) wLen (fun _ _=>wMax) (fun _ _=>wMin) (fun _=>wBits) wAttr (fun _ _=>wSub) (fun i _=>wSubL i) (fun _=>wTup) (fun _=>wFresh) (fun _ x=>x) (fun _ _=>wRep) (fun _ _=>wCat) (fun i _ _=>wCut i) (fun σ Q=>Q [] σ) (fun _ _=>wCons) e
noncomputable def WEs (e:Es):TF:=Es.rec (motive_1:=fun _=>TE) (motive_2:=fun _=>TF) (motive_3:=fun _=>TF) wLoc (fun v σ Q=>Q v σ) (fun _ v σ Q=>Q v σ) (fun op _ _=>wBin op) (fun _=>wNeg) (fun _=>wNot) (fun op _ _=>wCmp op) (fun _ _=>wAnd) (fun _ _=>wOr) (fun _ _ _=>wIte)
 (fun _ _=>wCall Γ) (fun _ i _ f=>wCallB Γ f i) wLen (fun _ _=>wMax) (fun _ _=>wMin) (fun _=>wBits) wAttr (fun _ _=>wSub) (fun i _=>wSubL i) (fun _=>wTup) (fun _=>wFresh) (fun _ x=>x) (fun _ _=>wRep) (fun _ _=>wCat) (fun i _ _=>wCut i) (fun σ Q=>Q [] σ) (fun _ _=>wCons) e
end
section
variable {Γ:Gam}{σ:Sg}{Q:V→Sg→Prop}{R:List V→Sg→Prop}{l r c e:E}{es:Es}{f:F}{i:Nat}{op:Operator}{cp:CmpOp}{v:V}{x:String}
theorem e_loc:WE Γ (.loc i) σ Q=onS σ[i]? (fun v=>Q v σ) (fun l=>Q (.lst l) (σ.set i (.val (.lst l)))) fun _=>False:=rfl
theorem e_cst:WE Γ (.cst v) σ Q=Q v σ:=rfl
theorem e_glo:WE Γ (.glo x v) σ Q=Q v σ:=rfl
theorem e_bin:WE Γ (.bin op l r) σ Q=WE Γ l σ fun a σ=>WE Γ r σ fun b σ=>binP op a b fun v=>Q v σ:=rfl
theorem e_neg:WE Γ (.neg e) σ Q=WE Γ e σ fun a σ=>onI a fun x=>Q (.int (-x)) σ:=rfl
theorem e_not:WE Γ (.not e) σ Q=WE Γ e σ fun a σ=>onB a fun x=>Q (.bool (!x)) σ:=rfl
theorem e_cmp:WE Γ (.cmp cp l r) σ Q=WE Γ l σ fun a σ=>WE Γ r σ fun b σ=>cmpP cp a b fun v=>Q (.bool v) σ:=rfl
theorem e_and:WE Γ (.and l r) σ Q=WE Γ l σ fun a σ=>onB a fun x=>if x=true then WE Γ r σ Q else Q (.bool false) σ:=rfl
theorem e_or:WE Γ (.or l r) σ Q=WE Γ l σ fun a σ=>onB a fun x=>if x=true then Q (.bool true) σ else WE Γ r σ Q:=rfl
theorem e_ite:WE Γ (.ite c l r) σ Q=WE Γ c σ fun a σ=>onB a fun x=>if x=true then WE Γ l σ Q else WE Γ r σ Q:=rfl
theorem e_call:WE Γ (.call e es) σ Q=WE Γ e σ fun vf σ=>WEs Γ es σ fun vs σ=>Γ.use vf vs fun r=>Q r σ:=rfl
theorem e_callB:WE Γ (.callB e i es) σ Q=WE Γ e σ fun vf σ=>onS σ[i]? (fun _=>False)
 (fun l=>WEs Γ es σ fun vs τ=>τ=σ∧Γ.useB vf l vs fun r l'=>Q r (σ.set i (.own l'))) (fun l=>WEs Γ es σ fun vs τ=>τ=σ∧Γ.useB vf l vs fun r l'=>Q r (σ.set i (.bor l'))):=rfl
theorem e_len:WE Γ (.lenL i) σ Q=slotL σ i fun l=>Q (.int l.length) σ:=rfl
theorem e_max:WE Γ (.max2 l r) σ Q=WE Γ l σ fun a σ=>WE Γ r σ fun b σ=>onI a fun x=>onI b fun y=>Q (.int (max x y)) σ:=rfl
theorem e_min:WE Γ (.min2 l r) σ Q=WE Γ l σ fun a σ=>WE Γ r σ fun b σ=>onI a fun x=>onI b fun y=>Q (.int (min x y)) σ:=rfl
theorem e_bits:WE Γ (.bitlen e) σ Q=WE Γ e σ fun a σ=>onI a fun x=>0≤x∧x.natAbs<2^64∧Q (.int (if x=0 then 0 else x.natAbs.log2+1)) σ:=rfl
theorem e_attr:WE Γ (.attr i x) σ Q=onS σ[i]? (fun v=>attrP v x fun r=>Q r σ) (fun _=>False) fun _=>False:=rfl
theorem e_sub:WE Γ (.sub e r) σ Q=WE Γ e σ fun o σ=>WE Γ r σ fun i σ=>idxP o i fun v=>Q v σ:=rfl
theorem e_subL:WE Γ (.subL i e) σ Q=slotL σ i fun l=>WE Γ e σ fun iv τ=>τ=σ∧idxP (.lst l) iv fun v=>Q v σ:=rfl
theorem e_tup:WE Γ (.tup es) σ Q=WEs Γ es σ fun vs σ=>Q (.tup vs) σ:=rfl
theorem e_fresh:WE Γ (.fresh f) σ Q=WF Γ f σ fun l σ=>Q (.lst l) σ:=rfl
theorem f_disp:WF Γ (.disp es) σ R=WEs Γ es σ fun vs σ=>R vs σ:=rfl
theorem f_rep:WF Γ (.rep e r) σ R=WE Γ e σ fun v σ=>WE Γ r σ fun k σ=>onI k fun x=>(-1000≤x∧x≤1000)∧R (List.replicate x.toNat v) σ:=rfl
theorem f_cat:WF Γ (.cat l r) σ R=WE Γ l σ fun a σ=>WE Γ r σ fun b σ=>onL a fun x=>onL b fun y=>(x++y).length≤sMx∧R (x++y) σ:=rfl
theorem f_cut:WF Γ (.sliceL i l r) σ R=slotL σ i fun y=>WE Γ l σ fun a τ=>WE Γ r τ fun b τ=>τ=σ∧onO (bnd a) fun x=>onO (bnd b) fun z=>R (cutL y x z) σ:=rfl
theorem s_nil:WEs Γ .nil σ R=R [] σ:=rfl
theorem s_cons:WEs Γ (.cons e es) σ R=WE Γ e σ fun v σ=>WEs Γ es σ fun vs σ=>R (v::vs) σ:=rfl
end
section
variable (Γ:Gam)
noncomputable def WIs (is:Is):Sg→(List Slot→Sg→Prop)→Prop:=Is.rec (motive:=fun _=>Sg→(List Slot→Sg→Prop)→Prop) (fun σ Q=>Q [] σ)
 (fun _ e _ r σ Q=>WE Γ e σ fun v σ=>r σ fun sl σ=>Q (.val v::sl) σ) (fun _ f _ r σ Q=>WF Γ f σ fun l σ=>r σ fun sl σ=>Q (.own l::sl) σ) is
noncomputable def Is.ts (is:Is):List Nat:=Is.rec (motive:=fun _=>List Nat) [] (fun i _ _ r=>i::r) (fun i _ _ r=>i::r) is
noncomputable def rangeL (a b c:Int):List V:=(List.range (Builtin.Range.rangeSize a b c).toNat).map fun (k:Nat)=>V.int (a+(k:Int)*c)
noncomputable def enumL (l:List V):List V:=(l.zipIdx).map fun p=>V.tup [V.int (p.2:Nat),p.1]
noncomputable def WIt (it:It):TF:=It.casesOn (motive:=fun _=>TF) it
 (fun b σ Q=>WE Γ b σ fun b σ=>onI b fun y=>y.natAbs<2^40∧Q (rangeL 0 y 1) σ)
 (fun a b σ Q=>WE Γ a σ fun a σ=>WE Γ b σ fun b σ=>onI a fun x=>onI b fun y=>(x.natAbs<2^40∧y.natAbs<2^40)∧Q (rangeL x y 1) σ)
 (fun a b c σ Q=>WE Γ a σ fun a σ=>WE Γ b σ fun b σ=>WE Γ c σ fun c σ=>onI a fun x=>onI b fun y=>onI c fun z=>(x.natAbs<2^40∧y.natAbs<2^40∧z.natAbs<2^40∧z≠0)∧Q (rangeL x y z) σ)
 (fun e σ Q=>WE Γ e σ fun v σ=>onL v fun l=>Q l σ)
 (fun e σ Q=>WE Γ e σ fun v σ=>onL v fun l=>Q (enumL l) σ)
noncomputable def setAll (σ:Sg):List Nat→List Slot→Sg
 | i::is,s::ss=>setAll (σ.set i s) is ss
 | _,_=>σ
noncomputable abbrev TC:=Sg→(FL→Sg→Prop)→Prop
def sqP (f:FL)(a b:Prop):Prop:=FL.casesOn f a b b fun _=>b
def lpP (N:Sg→Prop)(Q:FL→Sg→Prop)(f:FL)(σ:Sg):Prop:=FL.casesOn f (N σ) (Q .next σ) (N σ) fun v=>Q (.ret v) σ
noncomputable def LQ {α:Type}(st:α→Sg)(P:α→Prop)(Q:FL→Sg→Prop):FL→Sg→Prop:=lpP (fun σ=>∃ y,σ=st y∧P y) Q
noncomputable def wSeq (c d:TC):TC:=fun σ Q=>c σ fun f σ=>sqP f (d σ Q) (Q f σ)
noncomputable def wAug (i:Nat)(op:Operator)(e:TE):TC:=fun σ Q=>onS σ[i]? (fun u=>onI u fun x=>e σ fun v σ=>binP op (.int x) v fun r=>Q .next (σ.set i (.val r))) (fun _=>False) fun _=>False
def setP (ob:List V→Slot)(l:List V)(v k:V)(i:Nat)(σ τ:Sg)(Q:FL→Sg→Prop):Prop:=τ=σ∧onI k fun k=>(0≤k∧k<l.length)∧Q .next (σ.set i (ob (l.set k.toNat v)))
noncomputable def wSet (i:Nat)(idx e:TE):TC:=fun σ Q=>e σ fun v σ=>onS σ[i]? (fun _=>False) (fun l=>idx σ fun k τ=>setP .own l v k i σ τ Q) (fun l=>idx σ fun k τ=>setP .bor l v k i σ τ Q)
noncomputable def wApp (i:Nat)(e:TE):TC:=fun σ Q=>onS σ[i]? (fun _=>False) (fun l=>e σ fun v τ=>τ=σ∧l.length<sMx∧Q .next (σ.set i (.own (l++[v])))) fun _=>False
noncomputable def wIf (c:TE)(t e:TC):TC:=fun σ Q=>c σ fun a σ=>onB a fun x=>if x=true then t σ Q else e σ Q
noncomputable def wWhl (c:TE)(b:TC):TC:=fun σ Q=>∃ (α:Type) (st:α→Sg) (P:α→Prop) (μ:α→Nat),(∃ x,σ=st x∧P x)∧∀ x,P x→c (st x) fun a σ=>onB a fun z=>if z=true then b σ (LQ st (fun y=>μ y<μ x∧P y) Q) else Q .next σ
noncomputable def wFor1 (i:Nat)(it:TF)(b:TC):TC:=fun σ Q=>it σ fun vs σ=>∃ (α:Type) (st:α→Sg) (P:Nat→α→Prop),(∃ x,σ=st x∧P 0 x)∧(∀ k v x,vs[k]?=some v→P k x→b ((st x).set i (.val v)) (LQ st (P (k+1)) Q))∧∀ x,P vs.length x→Q .next (st x)
noncomputable def wFor2 (i j:Nat)(it:TF)(b:TC):TC:=fun σ Q=>it σ fun vs σ=>∃ (α:Type) (st:α→Sg) (P:Nat→α→Prop),(∃ x,σ=st x∧P 0 x)∧(∀ k u v x,vs[k]?=some (.tup [u,v])→P k x→b (((st x).set i (.val u)).set j (.val v)) (LQ st (P (k+1)) Q))∧∀ x,P vs.length x→Q .next (st x)
noncomputable def W (m:C):TC:=C.rec (motive:=fun _=>TC) (fun σ Q=>Q .next σ) (fun _ _=>wSeq) (fun i e σ Q=>WE Γ e σ fun v σ=>Q .next (σ.set i (.val v))) (fun i f σ Q=>WF Γ f σ fun l σ=>Q .next (σ.set i (.own l)))
 (fun is σ Q=>WIs Γ is σ fun sl σ=>Q .next (setAll σ is.ts sl)) (fun ts e σ Q=>WE Γ e σ fun v σ=>onT v fun l=>l.length=ts.length∧Q .next (setAll σ ts (l.map .val))) (fun i op e=>wAug i op (WE Γ e)) (fun i idx e=>wSet i (WE Γ idx) (WE Γ e)) (fun i e=>wApp i (WE Γ e))
 (fun f i args σ Q=>WE Γ (.callB f i args) σ fun v σ=>onN v (Q .next σ)) (fun e σ Q=>WE Γ e σ fun v σ=>onN v (Q .next σ)) (fun c _ _=>wIf (WE Γ c)) (fun c _=>wWhl (WE Γ c)) (fun i it _=>wFor1 i (WIt Γ it)) (fun i j it _=>wFor2 i j (WIt Γ it)) (fun e σ Q=>WE Γ e σ fun v σ=>Q (.ret v) σ)
 (fun σ Q=>Q .cont σ) (fun _ _=>False) m
end
end
section
noncomputable abbrev PG:Program:=PySem.Challenge.pw_pq0548_01
noncomputable abbrev Vis:=Addr→Obj→Prop
noncomputable abbrev tupOf (its:Array Value):Obj:={ cls:=.type "tuple",data:=.seq its }
noncomputable abbrev clsMont:Addr:=192
noncomputable abbrev tabA:Addr:=275
noncomputable def mulQual:Str:=Str.ofString "mont_times.<locals>.multiplied"
noncomputable def defIn (p:List Stmt)(x:Str):Option (Arguments×List Stmt×Scope×Pos):=p.findSome? fun st =>
 if h:st.ctorIdx=0 then Stmt.FunctionDef.elim (motive_2:=fun _=>Option (Arguments×List Stmt×Scope×Pos)) st h fun n a b _ _ _ sc _ _ po=>if n == x then some (a,b,sc,po) else .none else .none
noncomputable def mulDef:Arguments×List Stmt×Scope×Pos:=((defIn PG.main.body "mont_times").bind fun q=>defIn q.2.1 "multiplied").getD default
structure MontAt (g:Vis) (x:Addr) (vm vmi vo vsq:Value):Prop where
 ex:∃ d es n,g x (instObj clsMont d)∧g d (dictOf es n)∧getL "modulus" es=some (some vm)∧getL "minus" es=some (some vmi)∧getL "one" es=some (some vo)∧getL "square" es=some (some vsq)
def CellAt (g:Vis)(c:Addr)(v:Value):Prop:=∃ o,g c o∧o.data=.cell (some v)
structure CloAt (g:Vis) (f:Addr) (vt vw vm:Value):Prop where
 ex:∃ cl doc pm c' ct,g f (fnMade "multiplied" mulQual mulDef.1 mulDef.2.1 mulDef.2.2.1 cl doc pm c' ct)∧(∃ oc vs t,g c' oc∧oc.data=.fields vs∧vs[1]?=some (.str mulQual t)) ∧
  (∃ c,cl.lookup (Str.ofString "told")=some c∧CellAt g c vt)∧(∃ c,cl.lookup (Str.ofString "w")=some c∧CellAt g c vw)∧(∃ c,cl.lookup (Str.ofString "mul")=some c∧CellAt g c vm)
def Le (g g':Vis):Prop:=∀ b o,g b o→g' b o
theorem MontAt.mono {g g':Vis}(k:Le g g'){x:Addr}{a b c d:Value}(h:MontAt g x a b c d):MontAt g' x a b c d:=by
 refine x3a3 h.ex fun _ _ _ h1 h2 r=>?_
 exact ⟨⟨_,_,_,k _ _ h1,k _ _ h2,r⟩⟩
theorem CellAt.mono {g g':Vis}(k:Le g g'){c:Addr}{v:Value}(h:CellAt g c v):CellAt g' c v:=by
 refine x1a2 h fun o a b=>?_;clear h
 exact ⟨o,k _ _ a,b⟩
theorem CloAt.mono {g g':Vis}(k:Le g g'){f:Addr}{a b c:Value}(h:CloAt g f a b c):CloAt g' f a b c:=by
 obtain ⟨_,_,_,_,_,h1,⟨_,_,_,h2,r⟩,⟨_,a1,a2⟩,⟨_,b1,b2⟩,⟨_,c1,c2⟩⟩:=h.ex
 exact ⟨⟨_,_,_,_,_,k _ _ h1,⟨_,_,_,k _ _ h2,r⟩,⟨_,a1,a2.mono k⟩,⟨_,b1,b2.mono k⟩,⟨_,c1,c2.mono k⟩⟩⟩
def lstR (g:Vis)(r:List Value→Prop)(x:Value):Prop:=∃ a items n,x=.ref a∧g a (listOf items.toArray n)∧items.length≤sMx∧r items
def tupR (g:Vis)(r:List Value→Prop)(x:Value):Prop:=∃ a items,x=.ref a∧g a (tupOf items.toArray)∧items.length≤sMx∧r items
def montR (g:Vis)(r1 r2 r3 r4:Value→Prop)(x:Value):Prop:=∃ a vm vmi vo vsq,x=.ref a∧MontAt g a vm vmi vo vsq∧r1 vm∧r2 vmi∧r3 vo∧r4 vsq
def cloR (g:Vis)(r1 r2 r3:Value→Prop)(x:Value):Prop:=∃ a vt vw vm,x=.ref a∧CloAt g a vt vw vm∧r1 vt∧r2 vw∧r3 vm
def consR (r:Value→Prop)(rs:List Value→Prop)(xs:List Value):Prop:=∃ x ys,xs=x::ys∧r x∧rs ys
noncomputable def VR (g:Vis)(v:V):Value→Prop:=V.rec (motive_1:=fun _=>Value→Prop) (motive_2:=fun _=>List Value→Prop) (fun x=>x=.none) (fun b x=>x=.bool b) (fun i x=>∃ t,x=.int i t) (fun a x=>x=.ref a) (fun _=>lstR g) (fun _=>tupR g)
 (fun _ _ _ _=>montR g) (fun _ _ _=>cloR g) (fun xs=>xs=[]) (fun _ _=>consR) v
noncomputable def VRs (g:Vis)(l:List V):List Value→Prop:=V.rec_1 (motive_1:=fun _=>Value→Prop) (motive_2:=fun _=>List Value→Prop) (fun x=>x=.none) (fun b x=>x=.bool b) (fun i x=>∃ t,x=.int i t) (fun a x=>x=.ref a) (fun _=>lstR g) (fun _=>tupR g)
 (fun _ _ _ _=>montR g) (fun _ _ _=>cloR g) (fun xs=>xs=[]) (fun _ _=>consR) l
section
variable {g g':Vis}
theorem VR.none:VR g .none .none:=rfl
theorem VR.bool (b:Bool):VR g (.bool b) (.bool b):=rfl
theorem VR.int (i:Int)(t:Tok):VR g (.int i) (.int i t):=⟨t,rfl⟩
theorem VR.ref (a:Addr):VR g (.ref a) (.ref a):=rfl
theorem VR.lst {a:Addr}{l:List V}{items:List Value}{n:Nat}(h:g a (listOf items.toArray n))(hs:items.length≤sMx)(hr:VRs g l items):VR g (.lst l) (.ref a):=⟨a,items,n,rfl,h,hs,hr⟩
theorem VR.tup {a:Addr}{l:List V}{items:List Value}(h:g a (tupOf items.toArray))(hs:items.length≤sMx)(hr:VRs g l items):VR g (.tup l) (.ref a):=⟨a,items,rfl,h,hs,hr⟩
theorem VRs.nil:VRs g [] []:=rfl
theorem VRs.cons {v:V}{x:Value}{vs:List V}{xs:List Value}(h:VR g v x)(r:VRs g vs xs):VRs g (v::vs) (x::xs):=⟨x,xs,rfl,h,r⟩
theorem VR.int_inv {i:Int}{x:Value}(h:VR g (.int i) x):∃ t,x=.int i t:=h
theorem VR.bool_inv {b:Bool}{x:Value}(h:VR g (.bool b) x):x=.bool b:=h
theorem VR.ref_inv {a:Addr}{x:Value}(h:VR g (.ref a) x):x=.ref a:=h
theorem VR.none_inv {x:Value}(h:VR g .none x):x=.none:=h
theorem VR.lst_inv {l:List V}{x:Value}(h:VR g (.lst l) x):∃ a items n,x=.ref a∧g a (listOf items.toArray n)∧items.length≤sMx∧VRs g l items:=h
theorem VR.tup_inv {l:List V}{x:Value}(h:VR g (.tup l) x):∃ a items,x=.ref a∧g a (tupOf items.toArray)∧items.length≤sMx∧VRs g l items:=h
theorem VRs.nil_inv {xs:List Value}(h:VRs g [] xs):xs=[]:=h
theorem VRs.cons_inv {v:V}{vs:List V}{xs:List Value}(h:VRs g (v::vs) xs):∃ x ys,xs=x::ys∧VR g v x∧VRs g vs ys:=h
theorem lstR.mono {r r':List Value→Prop}(k:Le g g')(q:∀ {x},r x→r' x){x:Value}(h:lstR g r x):lstR g' r' x:=by
 refine x3a4 h fun a i n e h s t=>?_;exact ⟨a,i,n,e,k _ _ h,s,q t⟩
theorem tupR.mono {r r':List Value→Prop}(k:Le g g')(q:∀ {x},r x→r' x){x:Value}(h:tupR g r x):tupR g' r' x:=by
 refine x2a4 h fun a i e h s t=>?_;exact ⟨a,i,e,k _ _ h,s,q t⟩
theorem montR.mono {r1 r2 r3 r4 q1 q2 q3 q4:Value→Prop}(k:Le g g')(h1:∀ {x},r1 x→q1 x)(h2:∀ {x},r2 x→q2 x)(h3:∀ {x},r3 x→q3 x)(h4:∀ {x},r4 x→q4 x){x:Value}(h:montR g r1 r2 r3 r4 x):montR g' q1 q2 q3 q4 x:=by
 refine x5a6 h fun a b c d f e h s1 s2 s3 s4=>?_;exact ⟨a,b,c,d,f,e,h.mono k,h1 s1,h2 s2,h3 s3,h4 s4⟩
theorem cloR.mono {r1 r2 r3 q1 q2 q3:Value→Prop}(k:Le g g')(h1:∀ {x},r1 x→q1 x)(h2:∀ {x},r2 x→q2 x)(h3:∀ {x},r3 x→q3 x){x:Value}(h:cloR g r1 r2 r3 x):cloR g' q1 q2 q3 x:=by
 refine x4a5 h fun a b c d e h s1 s2 s3=>?_;exact ⟨a,b,c,d,e,h.mono k,h1 s1,h2 s2,h3 s3⟩
theorem consR.mono {r r':Value→Prop}{q q':List Value→Prop}(h1:∀ {x},r x→r' x)(h2:∀ {x},q x→q' x){x:List Value}(h:consR r q x):consR r' q' x:=by
 refine x2a3 h fun a b e s t=>?_;clear h;exact ⟨a,b,e,h1 s,h2 t⟩
theorem VR.mono (k:Le g g'){v:V}:∀ {x:Value},VR g v x→VR g' v x :=
 V.rec (motive_1:=fun v=>∀ {x},VR g v x→VR g' v x) (motive_2:=fun l=>∀ {x},VRs g l x→VRs g' l x) id (fun _ _ h=>h) (fun _ _ h=>h) (fun _ _ h=>h) (fun _ r {_}=>lstR.mono k r) (fun _ r {_}=>tupR.mono k r)
  (fun _ _ _ _ r1 r2 r3 r4 {_}=>montR.mono k r1 r2 r3 r4) (fun _ _ _ r1 r2 r3 {_}=>cloR.mono k r1 r2 r3) id (fun _ _ r rs {_}=>consR.mono r rs) v
theorem VRs.mono (k:Le g g'):∀ {v:List V} {x:List Value},VRs g v x→VRs g' v x:=fun {v}=>by
 induction v with
 | nil=>exact id
 | cons u v ih=>intro _ r;refine x2a3 (VRs.cons_inv r) fun x xs zq2 h t=>?_;subst zq2;exact .cons (h.mono k) (ih t)
theorem VRs.length:∀ {v:List V} {x:List Value},VRs g v x→v.length=x.length:=fun {v}=>by
 induction v with
 | nil=>exact fun h=>h▸rfl
 | cons u v ih=>intro _ r;refine x2a3 (VRs.cons_inv r) fun x xs zq2 h t=>?_;subst zq2;clear r;exact congrArg Nat.succ (ih t)
theorem VRs.get:∀ {v:List V} {x:List Value},VRs g v x→∀ {i:Nat} {u:V},v[i]?=some u→∃ y,x[i]?=some y∧VR g u y:=fun {v}=>by
 induction v with
 | nil=>exact fun h i u e=>nomatch e
 | cons w v ih =>
  intro _ r i u e;refine x2a3 (VRs.cons_inv r) fun x xs zq2 h t=>?_;subst zq2;clear r
  cases i with
  | zero=>cases e;exact ⟨x,rfl,h⟩
  | succ i=>exact ih t (i:=i) e
theorem VRs.get':∀ {v:List V} {x:List Value},VRs g v x→∀ {i:Nat} {y:Value},x[i]?=some y→∃ u,v[i]?=some u∧VR g u y:=fun {v}=>by
 induction v with
 | nil=>intro _ r i u e;cases VRs.nil_inv r;exact nomatch e
 | cons w v ih =>
  intro _ r i u e;refine x2a3 (VRs.cons_inv r) fun x xs zq2 h t=>?_;subst zq2;clear r
  cases i with
  | zero=>cases e;exact ⟨w,rfl,h⟩
  | succ i=>exact ih t (i:=i) e
theorem VRs.append {v':List V}{x':List Value}(q:VRs g v' x'):∀ {v:List V} {x:List Value},VRs g v x→VRs g (v++v') (x++x'):=fun {v}=>by
 induction v with
 | nil=>intro _ r;cases VRs.nil_inv r;exact q
 | cons w v ih=>intro _ r;refine x2a3 (VRs.cons_inv r) fun x xs zq2 h t=>?_;subst zq2;clear r;exact .cons h (ih t)
theorem VRs.set {u:V}{y:Value}(q:VR g u y):∀ {v:List V} {x:List Value},VRs g v x→∀ (i:Nat),VRs g (v.set i u) (x.set i y):=fun {v}=>by
 induction v with
 | nil=>intro _ r i;cases VRs.nil_inv r;exact rfl
 | cons w v ih =>
  intro _ r i;refine x2a3 (VRs.cons_inv r) fun x xs zq2 h t=>?_;subst zq2;clear r
  cases i with
  | zero=>exact .cons q t
  | succ i=>exact .cons h (ih t i)
theorem VRs.replicate {u:V}{y:Value}(q:VR g u y):∀ n,VRs g (List.replicate n u) (List.replicate n y)
 | 0=>.nil
 | n+1=>.cons q (VRs.replicate q n)
theorem VRs.take:∀ {v:List V} {x:List Value},VRs g v x→∀ (i:Nat),VRs g (v.take i) (x.take i):=fun {v}=>by
 induction v with
 | nil=>intro _ r i;cases VRs.nil_inv r;rw [List.take_nil,List.take_nil];exact rfl
 | cons w v ih =>
  intro _ r i;refine x2a3 (VRs.cons_inv r) fun x xs zq2 h t=>?_;subst zq2;clear r
  cases i with
  | zero=>exact .nil
  | succ i=>exact .cons h (ih t i)
theorem VRs.drop:∀ {v:List V} {x:List Value},VRs g v x→∀ (i:Nat),VRs g (v.drop i) (x.drop i):=fun {v}=>by
 induction v with
 | nil=>intro _ r i;cases VRs.nil_inv r;rw [List.drop_nil,List.drop_nil];exact rfl
 | cons w v ih =>
  intro _ r i;refine x2a3 (VRs.cons_inv r) fun x xs zq2 h t=>?_;subst zq2;clear r
  cases i with
  | zero=>exact .cons h t
  | succ i=>exact ih t i
end
def OwnA (σ:Sg)(oa:Nat→Addr)(b:Addr):Prop:=∃ i l,(σ[i]?=some (.own l)∨σ[i]?=some (.bor l))∧oa i=b
def Hid (L:Addr)(fl:Addr→Prop)(σ:Sg)(oa:Nat→Addr)(b:Addr):Prop:=b=L∨b=tabA∨OwnA σ oa b∨fl b
noncomputable def vis (h:Heap)(H:Addr→Prop):Vis:=fun b o=>¬H b∧h.get? b=some o
def TabOK (h:Heap)(ps:Array Value):Prop:=ps=#[]∨∃ c',c'≠tabA∧ps=#[rawInt mulDef.2.2.2.line,rawInt mulDef.2.2.2.col,.ref c']∧h.CodeRec (.ref c') mulQual
def GI (g0 h:Heap):Prop:=(∀ b o,g0.get? b=some o→h.get? b=some o)∧∃ ps,h.get? tabA=some (tabObj ps)∧TabOK h ps
structure Gr (w:World) (K:Frag) (g0:Heap):Prop where
 X:K.In g0
 tab:g0.get? tabA=none
 T:∃ p loose mean mg mb,Top p loose mean mg mb g0
 C:CodeHd g0 279 tabA
structure Cx where
 env:Env
 vars:List Str
 g0:Heap
noncomputable abbrev Cx.L (c:Cx):Addr:=c.env.locals
def NameAt (c:Cx)(h:Heap)(m:Str→Option Value)(x:Str)(v:Value):Prop :=
 (c.env.kindOf x=some .local∧m x=some v)∨((c.env.kindOf x=some .cell∨(c.env.kindOf x=some .free∧(x == ("__classdict__" : Str))=false))∧∃ a o,c.env.cells.lookup x=some a∧h.get? a=some o∧o.data=.cell (some v))
noncomputable def Bd (c:Cx)(h:Heap)(g:Vis)(m:Str→Option Value)(oa:Nat→Addr)(i:Nat)(x:Str):Slot→Prop
 | .un=>True
 | .val v=>∃ y,NameAt c h m x y∧VR g v y
 | .own _=>c.env.kindOf x=some .local∧m x=some (.ref (oa i))
 | .bor _=>c.env.kindOf x=some .local∧m x=some (.ref (oa i))
structure ListHas (h:Heap) (g:Vis) (a:Addr) (l:List V):Prop where
 has:∃ items n,h.get? a=some (listOf items.toArray n)∧items.length≤sMx∧VRs g l items
def Live (h:Heap)(b:Addr):Prop:=∃ o,h.get? b=some o
def NR (o:Obj):Prop:=∀ vs t,o.data=.fields vs→vs[1]?≠some (.str mulQual t)
def LiveN (h:Heap)(b:Addr):Prop:=∃ o,h.get? b=some o∧(b=tabA∨NR o)
theorem LiveN.live {h:Heap}{b:Addr}(x:LiveN h b):Live h b:=let ⟨o,e,_⟩:=x;⟨o,e⟩
structure St (c:Cx) (fl:Addr→Prop) (σ:Sg) (oa:Nat→Addr) (h:Heap):Prop where
 gi:GI c.g0 h
 lg:c.g0.get? c.L=none
 lt:c.L≠tabA
 flt:∀ b,fl b→LiveN h b
 len:σ.length=c.vars.length
 ns:∃ m,h.Ns c.L m∧∀ i x sl,c.vars[i]?=some x→σ[i]?=some sl→Bd c h (vis h (Hid c.L fl σ oa)) m oa i x sl
 own:∀ i l,σ[i]?=some (.own l)→¬fl (oa i)∧oa i≠c.L∧oa i≠tabA∧c.g0.get? (oa i)=none∧ListHas h (vis h (Hid c.L fl σ oa)) (oa i) l
 bor:∀ i l,σ[i]?=some (.bor l)→fl (oa i)∧oa i≠c.L∧oa i≠tabA∧c.g0.get? (oa i)=none∧ListHas h (vis h (Hid c.L fl σ oa)) (oa i) l
 dis:∀ i j li lj,(σ[i]?=some (.own li)∨σ[i]?=some (.bor li))→(σ[j]?=some (.own lj)∨σ[j]?=some (.bor lj))→oa i=oa j→i=j
def Grow (h h':Heap):Prop:=∀ ps,h.get? tabA=some (tabObj ps)→∃ ps',h'.get? tabA=some (tabObj ps')∧(ps'=ps∨ps=#[]∧∃ c',ps'=#[rawInt mulDef.2.2.2.line,rawInt mulDef.2.2.2.col,.ref c']∧∀ b,Live h b→@LT.lt Nat _ b c')
theorem Grow.of {h h':Heap}(k:∀ o,h.get? tabA=some o→h'.get? tabA=some o):Grow h h':=fun ps e=>⟨ps,k _ e,.inl rfl⟩
theorem Grow.refl (h:Heap):Grow h h:=.of fun _ e=>e
theorem Grow.keep {h h' h'':Heap}(a:Grow h h')(k:∀ o,h'.get? tabA=some o→h''.get? tabA=some o):Grow h h'':=fun ps e=>let ⟨ps',e',d⟩:=a ps e;⟨ps',k _ e',d⟩
theorem Grow.trans {h h' h'':Heap}(l:∀ b,Live h b→Live h' b)(a:Grow h h')(b:Grow h' h''):Grow h h'':=fun ps e=>by
 refine x1a2 (a ps e) fun p1 e1 c1=>?_
 refine x1a2 (b p1 e1) fun p2 e2 c2=>?_
 refine ⟨p2,e2,?_⟩
 rcases c2 with rfl | ⟨rfl,c',rfl,d⟩
 ·exact c1
 ·rcases c1 with rfl | ⟨_,c1,z,_⟩
  ·exact .inr ⟨rfl,c',rfl,fun b q=>d b (l b q)⟩
  ·cases z
structure Ev (L:Addr) (σ:Sg) (oa:Nat→Addr) (h:Heap) (σ':Sg) (oa':Nat→Addr) (h':Heap):Prop where
 keep:∀ b o,h.get? b=some o→b≠tabA→b≠L→¬OwnA σ oa b→h'.get? b=some o
 own:∀ b,OwnA σ' oa' b→Live h b→OwnA σ oa b
 live:∀ b,Live h b→Live h' b
 grow:Grow h h'
theorem Ev.refl (L:Addr)(σ:Sg)(oa:Nat→Addr)(h:Heap):Ev L σ oa h σ oa h:=⟨fun _ _ e _ _ _=>e,fun _ k _=>k,fun _ k=>k,.refl h⟩
theorem Ev.trans {L:Addr}{σ σ' σ'':Sg}{oa oa' oa'':Nat→Addr}{h h' h'':Heap}(a:Ev L σ oa h σ' oa' h')(b:Ev L σ' oa' h' σ'' oa'' h''):Ev L σ oa h σ'' oa'' h'' where
 keep:=fun x o e k1 k2 k3=>b.keep x o (a.keep x o e k1 k2 k3) k1 k2 fun q=>k3 (a.own x q ⟨o,e⟩)
 own:=fun x q k=>a.own x (b.own x q (a.live x k)) k
 live:=fun x k=>b.live x (a.live x k)
 grow:=.trans a.live a.grow b.grow
theorem Ev.le {L:Addr}{fl:Addr→Prop}{σ σ':Sg}{oa oa':Nat→Addr}{h h':Heap}(a:Ev L σ oa h σ' oa' h'):Le (vis h (Hid L fl σ oa)) (vis h' (Hid L fl σ' oa')):=fun b o ⟨k,e⟩=>by
 refine ⟨fun q=>k ?_,a.keep b o e (fun q=>k (.inr (.inl q))) (fun q=>k (.inl q)) (fun q=>k (.inr (.inr (.inl q))))⟩
 rcases q with q | q | q | q
 ·exact .inl q
 ·exact .inr (.inl q)
 ·exact .inr (.inr (.inl (a.own b q ⟨o,e⟩)))
 ·exact .inr (.inr (.inr q))
structure Ext (h h':Heap):Prop where
 keep:∀ b o,h.get? b=some o→b≠tabA→h'.get? b=some o
 tab:Live h tabA→Live h' tabA
 grow:Grow h h'
theorem Ext.refl (h:Heap):Ext h h:=⟨fun _ _ e _=>e,id,.refl h⟩
theorem Ext.of {h h':Heap}(k:∀ b o,h.get? b=some o→h'.get? b=some o):Ext h h':=⟨fun b o e _=>k b o e,fun ⟨o,e⟩=>⟨o,k _ _ e⟩,.of fun _ e=>k _ _ e⟩
theorem Ext.live {h h':Heap}(a:Ext h h'){b:Addr}(q:Live h b):Live h' b:=by
 by_cases e:b=tabA
 ·rw [e] at q ⊢;exact a.tab q
 ·obtain ⟨o,q⟩:=q;exact ⟨o,a.keep b o q e⟩
theorem Ext.trans {h h' h'':Heap}(a:Ext h h')(b:Ext h' h''):Ext h h'':=⟨fun x o e k=>b.keep x o (a.keep x o e k) k,fun q=>b.tab (a.tab q),.trans (fun _ q=>a.live q) a.grow b.grow⟩
theorem Ext.push (h:Heap)(o:Obj):Ext h (h.push o):=.of fun _ _ e=>Heap.get?_push_of_some _ e
theorem Ext.liveN {h h':Heap}(a:Ext h h'){b:Addr}(q:LiveN h b):LiveN h' b:=by
 by_cases e:b=tabA
 ·obtain ⟨o,z⟩:=a.tab (e▸q.live);exact ⟨o,e▸z,.inl e⟩
 ·refine x1a2 q fun o q n=>?_;exact ⟨o,a.keep b o q e,n⟩
theorem Ext.ev {L:Addr}{σ:Sg}{oa:Nat→Addr}{h h':Heap}(a:Ext h h'):Ev L σ oa h σ oa h':=⟨fun b o e k _ _=>a.keep b o e k,fun _ k _=>k,fun _ q=>a.live q,a.grow⟩
theorem dead_size (h:Heap):h.get? h.objs.size=none:=Heap.get?_none_of_le (Nat.le_refl _)
theorem dead_ne {h:Heap}{a b:Addr}(d:h.get? a=none)(l:Live h b):b≠a:=fun e=>by obtain ⟨o,q⟩:=l;rw [e,d] at q;cases q
theorem TabOK.keep {h h':Heap}{ps:Array Value}(t:TabOK h ps)(k:∀ b o vs,b≠tabA→h.get? b=some o→o.data=.fields vs→h'.get? b=some o):TabOK h' ps:=by
 rcases t with t | ⟨c',ne,e,c,oc,vs,tk,e1,e2,e3,e4⟩
 ·exact .inl t
 ·cases e1
  exact .inr ⟨_,ne,e,_,oc,vs,tk,rfl,k _ _ _ ne e2 e3,e3,e4⟩
theorem GI.keep {g0 h h':Heap}(t:GI g0 h)(k:∀ b o,h.get? b=some o→g0.get? b=some o∨b=tabA∨(b≠tabA∧∃ vs,o.data=.fields vs)→h'.get? b=some o):GI g0 h':=by
 refine an2 t fun a zr0=>x1a2 zr0 fun ps e t=>?_;clear zr0
 exact ⟨fun b o q=>k b o (a b o q) (.inl q),ps,k _ _ e (.inr (.inl rfl)),t.keep fun b o vs n e d=>k b o e (.inr (.inr ⟨n,vs,d⟩))⟩
theorem GI.push {g0 h:Heap}(t:GI g0 h)(o:Obj):GI g0 (h.push o):=t.keep fun _ _ e _=>Heap.get?_push_of_some _ e
theorem GI.tab {g0 h:Heap}(t:GI g0 h):∃ ps,h.get? tabA=some (tabObj ps):=let ⟨_,ps,e,_⟩:=t;⟨ps,e⟩
theorem ListHas.mono {h h':Heap}{g g':Vis}{a:Addr}{l:List V}(x:ListHas h g a l)(k:∀ o,h.get? a=some o→h'.get? a=some o)(le:Le g g'):ListHas h' g' a l:=by
 obtain ⟨items,n,e,hs,r⟩:=x
 exact ⟨items,n,k _ e,hs,r.mono le⟩
theorem NameAt.keep {c:Cx}{h h':Heap}{m:Str→Option Value}{x:Str}{v:Value}(n:NameAt c h m x v)(k:∀ a o,h.get? a=some o→o.data=.cell (some v)→h'.get? a=some o):NameAt c h' m x v:=by
 rcases n with n | ⟨e,a,o,l,q,d⟩
 ·exact .inl n
 ·exact .inr ⟨e,a,o,l,k a o q d,d⟩
theorem Bd.move {c:Cx}{h h':Heap}{g g':Vis}{m m':Str→Option Value}{oa oa':Nat→Addr}{j:Nat}{x:Str}{sl:Slot}(B:Bd c h g m oa j x sl)(em:m' x=m x)(eo:oa' j=oa j)(ck:∀ a o v,h.get? a=some o→o.data=.cell v→h'.get? a=some o)(le:Le g g'):Bd c h' g' m' oa' j x sl:=by
 cases sl with
 | un=>trivial
 | val v =>
  refine x1a2 B fun y n r=>?_;clear B
  refine ⟨y,?_,r.mono le⟩
  rcases n with n | ⟨n,a,o,l,q,d⟩
  ·exact .inl ⟨n.1,em.trans n.2⟩
  ·exact .inr ⟨n,a,o,l,ck a o _ q d,d⟩
 | own l=>exact ⟨B.1,by rw [em,eo];exact B.2⟩
 | bor l=>exact ⟨B.1,by rw [em,eo];exact B.2⟩
theorem St.ext {c:Cx}{fl fl':Addr→Prop}{σ:Sg}{oa:Nat→Addr}{h h':Heap}(S:St c fl σ oa h)(x:Ext h h')(gi:GI c.g0 h')(flt:∀ b,fl' b→LiveN h' b)
  (up:∀ b,fl b→fl' b) (down:∀ b,Live h b→fl' b→fl b):St c fl' σ oa h':=by
 have lo:∀ {b o},h.get? b=some o→Live h b:=fun e=>⟨_,e⟩
 have le:Le (vis h (Hid c.L fl σ oa)) (vis h' (Hid c.L fl' σ oa)):=fun b o ⟨k,e⟩=>by
  refine ⟨fun q=>k ?_,x.keep b o e fun q=>k (.inr (.inl q))⟩
  rcases q with q | q | q | q
  ·exact .inl q
  ·exact .inr (.inl q)
  ·exact .inr (.inr (.inl q))
  ·exact .inr (.inr (.inr (down b (lo e) q)))
 have ltn:c.L≠tabA:=S.lt
 refine ⟨gi,S.lg,S.lt,flt,S.len,?_,fun i l e=>?_,fun i l e=>?_,S.dis⟩
 ·refine x1a2 S.ns fun m N k=>?_
  refine ⟨m,N.at' fun o e=>x.keep _ o e ltn,fun i y sl a b=>?_⟩
  exact (k i y sl a b).move rfl rfl (fun a o v e d=>x.keep a o e fun q=>by
   obtain ⟨ps,e2⟩:=S.gi.tab
   rw [q,e2] at e;cases e;cases d) le
 ·refine an5 (S.own i l e) fun k1 k2 k3 k4 k5=>?_
  have k6:=k5
  obtain ⟨items,n,e1,_⟩:=k6
  exact ⟨fun q=>k1 (down _ (lo e1) q),k2,k3,k4,k5.mono (fun o e=>x.keep _ o e k3) le⟩
 ·refine an5 (S.bor i l e) fun k1 k2 k3 k4 k5=>?_
  exact ⟨up _ k1,k2,k3,k4,k5.mono (fun o e=>x.keep _ o e k3) le⟩
theorem St.ext0 {c:Cx}{fl:Addr→Prop}{σ:Sg}{oa:Nat→Addr}{h h':Heap}(S:St c fl σ oa h)(x:Ext h h')(gi:GI c.g0 h'):St c fl σ oa h' :=
 S.ext x gi (fun b q=>x.liveN (S.flt b q)) (fun _ q=>q) fun _ _ q=>q
theorem St.push {c:Cx}{fl:Addr→Prop}{σ:Sg}{oa:Nat→Addr}{h:Heap}(S:St c fl σ oa h)(o:Obj):St c fl σ oa (h.push o):=S.ext0 (.push h o) (S.gi.push o)
theorem St.pushH {c:Cx}{fl:Addr→Prop}{σ:Sg}{oa:Nat→Addr}{h:Heap}(S:St c fl σ oa h)(o:Obj)(hn:NR o)(ho:o.isFreed=false:=by rfl):St c (fun b=>b=h.objs.size∨fl b) σ oa (h.push o) :=
 S.ext (.push h o) (S.gi.push o) (fun b q=>q.elim (fun e=>⟨o,by rw [e];exact Heap.get?_push_size _ ho,.inr hn⟩) fun q=>(Ext.push h o).liveN (S.flt b q)) (fun _ q=>.inr q)
  fun b k q=>q.elim (fun e=>absurd e (dead_ne (dead_size h) k)) id
theorem ns_uniq {h:Heap}{a:Addr}{m m':Str→Option Value}(N:h.Ns a m)(N':h.Ns a m'):m=m':=by
 refine x3a4 N fun o es ep e d _ f=>?_;clear N
 refine x3a4 N' fun o' es' ep' e' d' _ f'=>?_;clear N'
 rw [e] at e';cases e'
 rw [d] at d';cases d'
 funext x;rw [← f x,← f' x]
theorem ns_live {h:Heap}{a:Addr}{m:Str→Option Value}(N:h.Ns a m):Live h a:=by
 refine x3a2 N fun o _ _ e _=>?_;clear N;exact ⟨o,e⟩
theorem ns_liveN {h:Heap}{a:Addr}{m:Str→Option Value}(N:h.Ns a m):LiveN h a:=by
 refine x3a3 N fun o _ _ e d _=>?_;clear N;exact ⟨o,e,.inr fun vs t z=>by rw [d] at z;cases z⟩
theorem ns_ne {h:Heap}{a b:Addr}{m:Str→Option Value}{o:Obj}(N:h.Ns a m)(e:h.get? b=some o)(d:(∃ vs,o.data=.fields vs)∨∃ v,o.data=.cell v):b≠a:=by
 rintro rfl
 refine x3a3 N fun o' es ep e' d' _=>?_;clear N
 rw [e] at e';cases e'
 rcases d with ⟨_,d⟩ | ⟨_,d⟩ <;> rw [d] at d' <;> cases d'
theorem apart_of {vars:List Str}(h:vars.Nodup){i j:Nat}{x:Str}(a:vars[i]?=some x)(b:vars[j]?=some x):i=j:=by
 obtain ⟨hi,ei⟩:=List.getElem?_eq_some_iff.mp a
 exact (List.getElem?_inj hi h).mp (a.trans b.symm)
theorem St.put {c:Cx}{fl fl':Addr→Prop}{σ:Sg}{oa oa':Nat→Addr}{h h':Heap}{i:Nat}{x:Str}{sl:Slot}{m m':Str→Option Value}(S:St c fl σ oa h)(nd:c.vars.Nodup)(hx:c.vars[i]?=some x)(N:h.Ns c.L m)(N':h'.Ns c.L m')(em:∀ z,z≠x→m' z=m z)
  (up:∀ b o,h.get? b=some o→b≠c.L→h'.get? b=some o) (hoa:∀ j,j≠i→oa' j=oa j) (hfl:∀ b,fl' b→fl b) (hbo:∀ b,fl b→¬fl' b→¬OwnA σ oa b) (nb:∀ l,sl≠.bor l)
  (ho:∀ l,sl=.own l→fl (oa' i)∧¬fl' (oa' i)∧oa' i≠c.L∧oa' i≠tabA∧c.g0.get? (oa' i)=none∧(∀ j l',j≠i→(σ[j]?=some (.own l')∨σ[j]?=some (.bor l'))→oa j≠oa' i)∧ListHas h (vis h (Hid c.L fl σ oa)) (oa' i) l)
  (hB:Le (vis h (Hid c.L fl σ oa)) (vis h' (Hid c.L fl' (σ.set i sl) oa'))→Bd c h' (vis h' (Hid c.L fl' (σ.set i sl) oa')) m' oa' i x sl) :
  St c fl' (σ.set i sl) oa' h'∧(∀ b,OwnA (σ.set i sl) oa' b→(b=oa' i∧∃ l,sl=.own l)∨OwnA σ oa b)∧Le (vis h (Hid c.L fl σ oa)) (vis h' (Hid c.L fl' (σ.set i sl) oa')):=by
 have hi:i<σ.length:=by rw [S.len];exact (List.getElem?_eq_some_iff.mp hx).1
 have other:∀ {j:Nat},j≠i→(σ.set i sl)[j]?=σ[j]?:=fun hj=>List.getElem?_set_ne (Ne.symm hj)
 have self:(σ.set i sl)[i]?=some sl:=List.getElem?_set_self hi
 have back:∀ {j:Nat} {l':List V},((σ.set i sl)[j]?=some (.own l')∨(σ.set i sl)[j]?=some (.bor l'))→(j=i∧sl=.own l')∨(j≠i∧(σ[j]?=some (.own l')∨σ[j]?=some (.bor l'))):=fun {j l'} q=>by
  by_cases hj:j=i
  ·subst hj;rw [self] at q;exact q.elim (fun q=>.inl ⟨rfl,Option.some.inj q⟩) fun q=>absurd (Option.some.inj q) (nb l')
  ·rw [other hj] at q;exact .inr ⟨hj,q⟩
 have ow:∀ b,OwnA (σ.set i sl) oa' b→(b=oa' i∧∃ l,sl=.own l)∨OwnA σ oa b:=fun b q=>by
  refine x2a2 q fun j l' q z=>?_
  rcases back q with ⟨rfl,e⟩ | ⟨hj,q⟩
  ·exact .inl ⟨z.symm,_,e⟩
  ·exact .inr ⟨j,l',q,hoa j hj▸z⟩
 have le:Le (vis h (Hid c.L fl σ oa)) (vis h' (Hid c.L fl' (σ.set i sl) oa')):=fun b o k=>⟨fun q=>k.1 (by
  rcases q with q | q | q | q
  ·exact .inl q
  ·exact .inr (.inl q)
  ·rcases ow b q with ⟨rfl,l,e⟩ | q
   ·exact .inr (.inr (.inr (ho l e).1))
   ·exact .inr (.inr (.inl q))
  ·exact .inr (.inr (.inr (hfl b q)))),up b o k.2 fun q=>k.1 (.inl q)⟩
 refine ⟨⟨S.gi.keep fun b o e q=>up b o e ?_,S.lg,S.lt,fun b q=>?_,by rw [List.length_set];exact S.len,⟨_,N',fun j z sl' a b=>?_⟩,fun j l' q=>?_,fun j l' q=>?_,fun j j' lj lj' q q' e=>?_⟩,ow,le⟩
 ·rcases q with q | q | ⟨_,vs,q⟩
  ·rintro rfl;rw [S.lg] at q;cases q
  ·exact fun z=>S.lt (z▸q)
  ·exact ns_ne N e (.inl ⟨vs,q⟩)
 ·by_cases hb:b=c.L
  ·rw [hb];exact ns_liveN N'
  ·refine x1a2 (S.flt b (hfl b q)) fun o e n=>?_;exact ⟨o,up b o e hb,n⟩
 ·by_cases hj:j=i
  ·subst hj
   rw [self] at b
   cases b
   rw [hx] at a;cases a
   exact hB le
  ·rw [other hj] at b
   refine x1a2 S.ns fun m₁ N₁ B=>?_
   cases ns_uniq N₁ N
   exact (B j z sl' a b).move (em z fun e=>hj (apart_of nd (e▸a) hx)) (hoa j hj) (fun a o v e d=>up a o e (ns_ne N e (.inr ⟨_,d⟩))) le
 ·rcases back (.inl q) with ⟨rfl,e⟩ | ⟨hj,_⟩
  ·refine an7 (ho l' e) fun _ a1 a2 a3 a4 _ a5=>?_
   exact ⟨a1,a2,a3,a4,a5.mono (fun o e=>up _ o e a2) le⟩
  ·rw [other hj] at q
   refine an5 (S.own j l' q) fun a1 a2 a3 a4 a5=>?_
   rw [hoa j hj]
   exact ⟨fun z=>a1 (hfl _ z),a2,a3,a4,a5.mono (fun o e=>up _ o e a2) le⟩
 ·rcases back (.inr q) with ⟨rfl,e⟩ | ⟨hj,_⟩
  ·rw [self,e] at q;cases q
  ·rw [other hj] at q
   refine an5 (S.bor j l' q) fun a1 a2 a3 a4 a5=>?_
   rw [hoa j hj]
   exact ⟨Classical.byContradiction fun z=>hbo _ a1 z ⟨j,l',.inr q,rfl⟩,a2,a3,a4,a5.mono (fun o e=>up _ o e a2) le⟩
 ·rcases back q with ⟨e1,k1⟩ | ⟨hj,q⟩ <;> rcases back q' with ⟨e2,k2⟩ | ⟨hj',q'⟩
  ·rw [e1,e2]
  ·rw [e1,hoa j' hj'] at e;exact absurd e.symm ((ho _ k1).2.2.2.2.2.1 j' lj' hj' q')
  ·rw [e2,hoa j hj] at e;exact absurd e ((ho _ k2).2.2.2.2.2.1 j lj hj q)
  ·rw [hoa j hj,hoa j' hj'] at e;exact S.dis j j' lj lj' q q' e
theorem St.freeze {c:Cx}{fl:Addr→Prop}{σ:Sg}{oa:Nat→Addr}{h:Heap}{i:Nat}{x:Str}{l:List V}(nd:c.vars.Nodup)(hx:c.vars[i]?=some x)(S:St c fl σ oa h)(e:σ[i]?=some (.own l)) :
  St c fl (σ.set i (.val (.lst l))) oa h∧Ev c.L σ oa h (σ.set i (.val (.lst l))) oa h∧VR (vis h (Hid c.L fl (σ.set i (.val (.lst l))) oa)) (.lst l) (.ref (oa i)):=by
 refine x1a2 S.ns fun m N B=>?_
 obtain ⟨k1,k2,k3,k4,items,n,e1,e2,e3⟩:=S.own i l e
 have hv:Le (vis h (Hid c.L fl σ oa)) (vis h (Hid c.L fl (σ.set i (.val (.lst l))) oa))→VR (vis h (Hid c.L fl (σ.set i (.val (.lst l))) oa)) (.lst l) (.ref (oa i)):=fun le=>.lst ⟨fun q=>by
  rcases q with q | q | ⟨j,l',q,r⟩ | q
  ·exact k2 q
  ·exact k3 q
  ·by_cases hj:j=i
   ·subst hj;rw [List.getElem?_set_self (List.getElem?_eq_some_iff.mp e).1] at q;rcases q with q | q <;> cases q
   ·rw [List.getElem?_set_ne (Ne.symm hj)] at q;exact hj (S.dis j i l' l q (.inl e) r)
  ·exact k1 q,e1⟩ e2 (e3.mono le)
 refine an3 (S.put (fl':=fl) (oa':=oa) (m':=m) (sl:=.val (.lst l)) nd hx N N (fun _ _=>rfl) (fun _ _ e _=>e) (fun _ _=>rfl) (fun _ q=>q) (fun _ q z=>absurd q z) (fun _ z=>nomatch z) (fun _ z=>nomatch z) fun le=>⟨_,.inl (B i x _ hx e),hv le⟩) fun S' ow le=>?_
 exact ⟨S',⟨fun _ _ e _ _ _=>e,fun b q _=>(ow b q).elim (fun z=>nomatch z.2) id,fun _ q=>q,.refl h⟩,hv le⟩
theorem St.store {c:Cx}{fl:Addr→Prop}{σ:Sg}{oa:Nat→Addr}{i:Nat}{x:Str}{v:V}{y:Value}{h h':Heap}{m:Str→Option Value}(nd:c.vars.Nodup)(S:St c fl σ oa h)(hx:c.vars[i]?=some x)(hk:c.env.kindOf x=some .local)
  (N:h.Ns c.L m) (r:VR (vis h (Hid c.L fl σ oa)) v y) (N':h'.Ns c.L (fun z=>if z=x then some y else m z)) (sb:Heap.SameBut c.L h h') :
  St c fl (σ.set i (.val v)) oa h'∧Ev c.L σ oa h (σ.set i (.val v)) oa h':=by
 have up:∀ b o,h.get? b=some o→b≠c.L→h'.get? b=some o:=fun b o e k=>(sb.2 b k).trans e
 refine an3 (S.put (fl':=fl) (oa':=oa) (sl:=.val v) nd hx N N' (fun z q=>if_neg q) up (fun _ _=>rfl) (fun _ q=>q) (fun _ q z=>absurd q z) (fun _ z=>nomatch z) (fun _ z=>nomatch z) fun le=>⟨y,.inl ⟨hk,if_pos rfl⟩,r.mono le⟩) fun S' ow _=>?_
 refine ⟨S',fun b o e _ k _=>up b o e k,fun b q _=>(ow b q).elim (fun z=>nomatch z.2) id,fun b q=>?_,.of fun o e=>up _ o e fun z=>S.lt z.symm⟩
 by_cases hb:b=c.L
 ·rw [hb];exact ns_live N'
 ·obtain ⟨o,e⟩:=q;exact ⟨o,up b o e hb⟩
theorem St.storeO {c:Cx}{fl:Addr→Prop}{σ:Sg}{oa:Nat→Addr}{i:Nat}{x:Str}{l:List V}{a:Addr}{h h':Heap}{m:Str→Option Value}(nd:c.vars.Nodup)(S:St c fl σ oa h)(hx:c.vars[i]?=some x)(hk:c.env.kindOf x=some .local)
  (N:h.Ns c.L m) (ha:fl a) (hd:c.g0.get? a=none) (haL:a≠c.L) (haT:a≠tabA) (hno:¬OwnA σ oa a) (r:ListHas h (vis h (Hid c.L fl σ oa)) a l)
  (N':h'.Ns c.L (fun z=>if z=x then some (.ref a) else m z)) (sb:Heap.SameBut c.L h h') :
  St c (fun b=>fl b∧b≠a) (σ.set i (.own l)) (fun j=>if j=i then a else oa j) h'∧(∀ b,OwnA (σ.set i (.own l)) (fun j=>if j=i then a else oa j) b→b=a∨OwnA σ oa b) ∧
   Le (vis h (Hid c.L fl σ oa)) (vis h' (Hid c.L (fun b=>fl b∧b≠a) (σ.set i (.own l)) (fun j=>if j=i then a else oa j))):=by
 refine an3 (S.put (fl':=fun b=>fl b∧b≠a) (oa':=fun j=>if j=i then a else oa j) (sl:=.own l) nd hx N N' (fun z q=>if_neg q) (fun b o e k=>(sb.2 b k).trans e) (fun _ q=>if_neg q) (fun _ q=>q.1) (fun b q z y=>z ⟨q,fun e=>hno (e▸y)⟩) (fun _ z=>nomatch z)
  (fun l' z=>by
   cases z;rw [show (if i=i then a else oa i)=a from if_pos rfl]
   exact ⟨ha,fun z=>z.2 rfl,haL,haT,hd,fun j l' _ q e=>hno ⟨j,l',q,e⟩,r⟩) fun _=>⟨hk,(if_pos rfl).trans (congrArg (fun z=>some (Value.ref z)) (if_pos rfl).symm)⟩) fun S' ow le=>?_
 exact ⟨S',fun b q=>(ow b q).imp (fun z=>z.1.trans (if_pos rfl)) id,le⟩
end
section
structure Ck where
 sc:Scope
 vars:List Str
 G:List (String×V)
noncomputable def Ck.kind (k:Ck)(x:Str):Option NameKind:=k.sc.names.lookup x
noncomputable def Ck.isLoc (k:Ck)(i:Nat)(x:Str):Bool:=k.vars[i]? == some x && (k.kind x == some .local || k.kind x == some .cell || k.kind x == some .free) && !(x == ("__debug__" : Str))
noncomputable def Ck.isL (k:Ck)(i:Nat)(x:Str):Bool:=k.vars[i]? == some x && k.kind x == some .local && !(x == ("__debug__" : Str))
noncomputable def Ck.isGlob (k:Ck)(x:String)(y:Str):Bool:=y == Str.ofString x && k.kind y == some .globalImplicit && !(y == ("__debug__" : Str))
noncomputable def plX (a:Expr):Bool:=!((Nat.ble 7 a.ctorIdx && Nat.ble a.ctorIdx 10) || Nat.beq a.ctorIdx 22 || Nat.beq a.ctorIdx 26)
structure Plain (a:Expr):Prop where
 star:∀ rest env,starEach (a::rest) env=(false,eval a env)::starEach rest env
 marks:∀ op,behindInMarks op a=false
 sub:∀ o i,subscripted a false o i=operate [o,i] (getItem o i)
 swap:∀ t n env,swapsWith a t n env=pure false
 fold:∀ env x,foldedSetIterable a env x=pure x
theorem plain_of {a:Expr}:plX a=true→Plain a:=by
 cases a <;> first | exact fun _=>⟨fun _ _=>rfl,fun _=>rfl,fun _ _=>rfl,fun _ _ _=>rfl,fun _ _=>rfl⟩ | exact fun h=>nomatch h
theorem stC {a:Expr}{rest:List Expr}{env:Env}(h:plX a=true):starEach (a::rest) env=(false,eval a env)::starEach rest env:=(plain_of h).star _ _
def Frm (s s':Shared):Prop:=∃ h tk,s'={ s with heap:=h,toks:=tk }
theorem Frm.refl (s:Shared):Frm s s:=⟨s.heap,s.toks,rfl⟩
theorem Frm.trans {a b c:Shared}(x:Frm a b)(y:Frm b c):Frm a c:=by
 refine x2a1 x fun h t zq2=>?_;clear x;subst zq2;refine x2a1 y fun h' t' zq2=>?_;clear y;subst zq2;exact ⟨h',t',rfl⟩
theorem Frm.mk (s:Shared)(h:Heap)(tk:Nat):Frm s { s with heap:=h,toks:=tk }:=⟨h,tk,rfl⟩
noncomputable abbrev Ed:Value→Shared→Prop:=fun _ _=>False
def MtV (w:World)(K:Frag)(dep:Nat)(vf:V)(U:List V→(V→Prop)→Prop):Prop :=
 ∀ (g0:Heap),Gr w K g0→∀ (A:Around) (s:Shared) (fl:Addr→Prop) (f:Value) (args:List V) (vals:List Value) (k:V→Prop),A.handled=none→A.units+200+100*dep<cLine→A.depth+dep<recursionLimit →
  GI g0 s.heap→(∀ b,fl b→LiveN s.heap b)→fl tabA→VR (vis s.heap fl) vf f→VRs (vis s.heap fl) args vals→U args k →
  wpAny (model PG w) A (call f vals) (fun r s'=>∃ v,k v∧Frm s s'∧Ext s.heap s'.heap∧GI g0 s'.heap∧VR (vis s'.heap fl) v r) Ed s
def MeetsB (w:World)(K:Frag)(dep:Nat)(a:Addr)(S:SpecB):Prop :=
 ∀ (g0:Heap),Gr w K g0→∀ (A:Around) (s:Shared) (fl:Addr→Prop) (b:Addr) (l:List V) (args:List V) (vals:List Value) (k:V→List V→Prop),A.handled=none→A.units+200+100*dep<cLine→A.depth+dep<recursionLimit →
  GI g0 s.heap→(∀ b,fl b→LiveN s.heap b)→fl tabA→fl b→b≠tabA→g0.get? b=none→ListHas s.heap (vis s.heap fl) b l→VRs (vis s.heap fl) args vals→S.use l args k →
  wpAny (model PG w) A (call (.ref a) (.ref b::vals)) (fun r s'=>∃ v l',k v l'∧Frm s s'∧(∀ x o,s.heap.get? x=some o→x≠tabA→x≠b→s'.heap.get? x=some o)∧Grow s.heap s'.heap ∧
   GI g0 s'.heap∧VR (vis s'.heap fl) v r∧ListHas s'.heap (vis s'.heap fl) b l') Ed s
structure Rn (w:World) (K:Frag) (Γ:Gam) (G:List (String×V)) (dep:Nat) (A:Around) (c:Cx):Prop where
 gr:Gr w K c.g0
 kind:c.env.scope.kind=.function
 gl:c.env.globals=mainGlobals
 bu:c.env.builtins=builtinsNs
 hd:A.handled=none
 un:A.units+200+100*dep<cLine
 dp:A.depth+dep<recursionLimit
 glob:∀ x v,G.lookup x=some v→(∃ y t,v=.int y∧nsIn K mainGlobals (Str.ofString x)=some (some (.int y t)))∨(∃ a,v=.ref a∧nsIn K mainGlobals (Str.ofString x)=some (some (.ref a)))
 bl:∀ x v,(x,v)∈[("len",Value.builtin "len"),("max",.builtin "max"),("min",.builtin "min"),("range",.type "range"),("enumerate",.type "enumerate")]→nsIn K mainGlobals (Str.ofString x)=some none∧bootBuiltins (Str.ofString x)=some v
 fn:∀ a S,Γ.fn.lookup a=some S→keepIn K (.ref a)=true∧MtV w K dep (.ref a) S.use
 fb:∀ a S,Γ.fb.lookup a=some S→keepIn K (.ref a)=true∧MeetsB w K dep a S
 clo:∀ S t v m,Γ.cl=some S→MtV w K dep (.clo t v m) fun vs k=>vs.length=2∧S.use (vs++[t,v,m]) k
 att:∀ n∈["modulus","minus","one","square"],plainGet K clsMont (Str.ofString n)=true∧hasDictIn K clsMont=true∧findIn K (.ref clsMont) (Str.ofString n)=some none
structure Look (k:Ck) (c:Cx):Prop where
 sc:c.env.scope=k.sc
 vars:c.vars=k.vars
 kind:c.env.scope.kind=.function
theorem Look.kindOf {k:Ck}{c:Cx}(L:Look k c)(x:Str):c.env.kindOf x=k.kind x:=by
 show c.env.scope.names.lookup x=k.sc.names.lookup x
 rw [L.sc]
structure Cs (k:Ck) (w:World) (A:Around) (Γ:Gam) (K:Frag) (dep:Nat) (c:Cx):Prop where
 L:Look k c
 R:Rn w K Γ k.G dep A c
 nd:c.vars.Nodup
theorem isLoc_of {k:Ck}{c:Cx}(L:Look k c){i:Nat}{x:Str}(h:k.isLoc i x=true):c.vars[i]?=some x∧(c.env.kindOf x=some .local∨c.env.kindOf x=some .cell∨c.env.kindOf x=some .free)∧(x == ("__debug__" : Str))=false:=by
 rw [L.vars,L.kindOf]
 simp only [Ck.isLoc,Bool.and_eq_true,Bool.or_eq_true,beq_iff_eq,Bool.not_eq_true',or_assoc] at h
 exact ⟨h.1.1,h.1.2,h.2⟩
theorem isL_of {k:Ck}{c:Cx}(L:Look k c){i:Nat}{x:Str}(h:k.isL i x=true):c.vars[i]?=some x∧c.env.kindOf x=some .local∧(x == ("__debug__" : Str))=false:=by
 rw [L.vars,L.kindOf]
 simp only [Ck.isL,Bool.and_eq_true,beq_iff_eq,Bool.not_eq_true'] at h
 exact ⟨h.1.1,h.1.2,h.2⟩
theorem isGlob_of {k:Ck}{c:Cx}(L:Look k c){x:String}{y:Str}(h:k.isGlob x y=true):y=Str.ofString x∧c.env.kindOf y=some .globalImplicit∧(y == ("__debug__" : Str))=false:=by
 rw [L.kindOf]
 simp only [Ck.isGlob,Bool.and_eq_true,beq_iff_eq,Bool.not_eq_true'] at h
 exact ⟨h.1.1,h.1.2,h.2⟩
section
variable {c:Cx}{w:World}{A:Around}{Γ:Gam}{fl:Addr→Prop}{σ:Sg}{oa:Nat→Addr}{s:Shared}
noncomputable def vz (c:Cx)(fl:Addr→Prop)(σ:Sg)(oa:Nat→Addr)(h:Heap):Vis:=vis h (Hid c.L fl σ oa)
structure Go (c:Cx) (fl:Addr→Prop) (σ:Sg) (oa:Nat→Addr) (s:Shared) (σ':Sg) (oa':Nat→Addr) (s':Shared):Prop where
 fr:Frm s s'
 st:St c fl σ' oa' s'.heap
 ev:Ev c.L σ oa s.heap σ' oa' s'.heap
theorem Go.le {σ':Sg}{oa':Nat→Addr}{s':Shared}(g:Go c fl σ oa s σ' oa' s'):Le (vz c fl σ oa s.heap) (vz c fl σ' oa' s'.heap):=g.ev.le
theorem Go.refl (S:St c fl σ oa s.heap):Go c fl σ oa s σ oa s:=⟨.refl s,S,.refl ..⟩
theorem Go.trans {σ₁ σ₂:Sg}{oa₁ oa₂:Nat→Addr}{s₁ s₂:Shared}(a:Go c fl σ oa s σ₁ oa₁ s₁)(b:Go c fl σ₁ oa₁ s₁ σ₂ oa₂ s₂):Go c fl σ oa s σ₂ oa₂ s₂:=⟨a.fr.trans b.fr,b.st,a.ev.trans b.ev⟩
theorem Go.tk {σ':Sg}{oa':Nat→Addr}{s':Shared}(g:Go c fl σ oa s σ' oa' s')(tk:Nat):Go c fl σ oa s σ' oa' { s' with toks:=tk }:=⟨g.fr.trans (.mk _ _ _),g.st,g.ev⟩
theorem Go.ext {σ':Sg}{oa':Nat→Addr}{s':Shared}(g:Go c fl σ oa s σ' oa' s'){h':Heap}(x:Ext s'.heap h')(gi:GI c.g0 h')(tk:Nat):Go c fl σ oa s σ' oa' { s' with heap:=h',toks:=tk }:=⟨g.fr.trans (.mk _ _ _),g.st.ext0 x gi,g.ev.trans x.ev⟩
theorem Go.push {σ':Sg}{oa':Nat→Addr}{s':Shared}(g:Go c fl σ oa s σ' oa' s')(o:Obj)(tk:Nat):Go c fl σ oa s σ' oa' { s' with heap:=s'.heap.push o,toks:=tk }:=g.ext (.push _ o) (g.st.gi.push o) tk
def PE (c:Cx)(fl:Addr→Prop)(σ:Sg)(oa:Nat→Addr)(s:Shared)(Q:V→Sg→Prop)(x:Value)(s':Shared):Prop :=
 ∃ v σ',Q v σ'∧Go c fl σ oa s σ' oa s'∧VR (vz c fl σ' oa s'.heap) v x
def PEs (c:Cx)(fl:Addr→Prop)(σ:Sg)(oa:Nat→Addr)(s:Shared)(n:Nat)(Q:List V→Sg→Prop)(xs:List Value)(s':Shared):Prop :=
 ∃ vs σ',Q vs σ'∧Go c fl σ oa s σ' oa s'∧VRs (vz c fl σ' oa s'.heap) vs xs∧xs.length=n
structure New (c:Cx) (fl:Addr→Prop) (h:Heap) (σ':Sg) (oa:Nat→Addr) (h':Heap) (a:Addr) (l:List V):Prop where
 d:h.get? a=none
 d0:c.g0.get? a=none
 st:St c (fun b=>b=a∨fl b) σ' oa h'
 lh:ListHas h' (vz c (fun b=>b=a∨fl b) σ' oa h') a l
def PF (c:Cx)(fl:Addr→Prop)(σ:Sg)(oa:Nat→Addr)(s:Shared)(Q:List V→Sg→Prop)(x:Value)(s':Shared):Prop :=
 ∃ l σ' a,Q l σ'∧x=.ref a∧Go c fl σ oa s σ' oa s'∧New c fl s.heap σ' oa s'.heap a l
def PT (c:Cx)(fl:Addr→Prop)(σ:Sg)(oa:Nat→Addr)(s:Shared)(Q:Bool→Sg→Prop)(b:Bool)(s':Shared):Prop :=
 ∃ σ',Q b σ'∧Go c fl σ oa s σ' oa s'
def isB (Q:Bool→Sg→Prop)(v:V)(σ:Sg):Prop:=onB v fun b=>Q b σ
def SE (w:World)(A:Around)(Γ:Gam)(c:Cx)(e:E)(a:Expr):Prop:=∀ (fl:Addr→Prop) (σ:Sg) (oa:Nat→Addr) (s:Shared) (Q:V→Sg→Prop),
 St c fl σ oa s.heap→WE Γ e σ Q→wpAny (model PG w) A (eval a c.env) (PE c fl σ oa s Q) Ed s
def ST (w:World)(A:Around)(Γ:Gam)(c:Cx)(e:E)(a:Expr):Prop:=∀ (fl:Addr→Prop) (σ:Sg) (oa:Nat→Addr) (s:Shared) (Q:Bool→Sg→Prop),
 St c fl σ oa s.heap→WE Γ e σ (isB Q)→wpAny (model PG w) A (isTrue a c.env (eval a c.env)) (PT c fl σ oa s Q) Ed s
def SF (w:World)(A:Around)(Γ:Gam)(c:Cx)(f:F)(a:Expr):Prop:=∀ (fl:Addr→Prop) (σ:Sg) (oa:Nat→Addr) (s:Shared) (Q:List V→Sg→Prop),
 St c fl σ oa s.heap→WF Γ f σ Q→wpAny (model PG w) A (eval a c.env) (PF c fl σ oa s Q) Ed s
def SEs (w:World)(A:Around)(Γ:Gam)(c:Cx)(es:Es)(as:List Expr):Prop:=∀ (pos:Pos) (fl:Addr→Prop) (σ:Sg) (oa:Nat→Addr) (s:Shared) (Q:List V→Sg→Prop),
 St c fl σ oa s.heap→WEs Γ es σ Q→wpAny (model PG w) A (spliced (backTo pos (starEach as c.env))) (PEs c fl σ oa s as.length Q) Ed s
theorem SE.to {e:E}{a:Expr}(h:SE w A Γ c e a){Q:V→Sg→Prop}(S:St c fl σ oa s.heap)(q:WE Γ e σ Q){R:Value→Shared→Prop}
  (k:∀ v x s₁ σ₁,Q v σ₁→Go c fl σ oa s σ₁ oa s₁→VR (vz c fl σ₁ oa s₁.heap) v x→R x s₁):wpAny (model PG w) A (eval a c.env) R Ed s :=
 wpAny_mono (h fl σ oa s Q S q) (fun x s₁ p=>by refine x2a3 p fun v σ₁ q₁ g₁ r₁=>?_;clear p;exact k v x s₁ σ₁ q₁ g₁ r₁) fun _ _ z=>z
theorem ST.to {e:E}{a:Expr}(h:ST w A Γ c e a){Q:Bool→Sg→Prop}(S:St c fl σ oa s.heap)(q:WE Γ e σ (isB Q)){R:Bool→Shared→Prop}
  (k:∀ b s₁ σ₁,Q b σ₁→Go c fl σ oa s σ₁ oa s₁→R b s₁):wpAny (model PG w) A (isTrue a c.env (eval a c.env)) R Ed s :=
 wpAny_mono (h fl σ oa s Q S q) (fun x s₁ p=>by refine x1a2 p fun σ₁ q₁ g₁=>?_;clear p;exact k x s₁ σ₁ q₁ g₁) fun _ _ z=>z
theorem SEs.to {es:Es}{as:List Expr}(h:SEs w A Γ c es as){pos:Pos}{Q:List V→Sg→Prop}(S:St c fl σ oa s.heap)(q:WEs Γ es σ Q){R:List Value→Shared→Prop}
  (k:∀ vs xs s₁ σ₁,Q vs σ₁→Go c fl σ oa s σ₁ oa s₁→VRs (vz c fl σ₁ oa s₁.heap) vs xs→xs.length=as.length→R xs s₁):wpAny (model PG w) A (spliced (backTo pos (starEach as c.env))) R Ed s :=
 wpAny_mono (h pos fl σ oa s Q S q) (fun x s₁ p=>by refine x2a4 p fun v σ₁ q₁ g₁ r₁ l₁=>?_;clear p;exact k v x s₁ σ₁ q₁ g₁ r₁ l₁) fun _ _ z=>z
theorem SF.to {f:F}{a:Expr}(h:SF w A Γ c f a){Q:List V→Sg→Prop}(S:St c fl σ oa s.heap)(q:WF Γ f σ Q){R:Value→Shared→Prop}
  (k:∀ l b s₁ σ₁,Q l σ₁→Go c fl σ oa s σ₁ oa s₁→New c fl s.heap σ₁ oa s₁.heap b l→R (.ref b) s₁):wpAny (model PG w) A (eval a c.env) R Ed s :=
 wpAny_mono (h fl σ oa s Q S q) (fun x s₁ p=>by refine x3a4 p fun l σ₁ b q₁ e g₁ n₁=>?_;clear p;exact e▸k l b s₁ σ₁ q₁ g₁ n₁) fun _ _ z=>z
theorem PE.now {Q:V→Sg→Prop}{σ':Sg}{s':Shared}{v:V}{x:Value}{tk:Nat}(g:Go c fl σ oa s σ' oa s')(q:Q v σ')(r:VR (vz c fl σ' oa s'.heap) v x):PE c fl σ oa s Q x { s' with toks:=tk }:=⟨v,σ',q,g.tk tk,r⟩
theorem PE.now' {Q:V→Sg→Prop}{σ':Sg}{s':Shared}{v:V}{x:Value}(g:Go c fl σ oa s σ' oa s')(q:Q v σ')(r:VR (vz c fl σ' oa s'.heap) v x):PE c fl σ oa s Q x s':=⟨v,σ',q,g,r⟩
theorem PE.step {σ':Sg}{s' s'':Shared}{Q:V→Sg→Prop}{x:Value}(g:Go c fl σ oa s σ' oa s')(h:PE c fl σ' oa s' Q x s''):PE c fl σ oa s Q x s'':=by
 refine x2a3 h fun v τ q g' r=>?_;clear h;exact ⟨v,τ,q,g.trans g',r⟩
theorem PT.step {σ':Sg}{s' s'':Shared}{Q:Bool→Sg→Prop}{x:Bool}(g:Go c fl σ oa s σ' oa s')(h:PT c fl σ' oa s' Q x s''):PT c fl σ oa s Q x s'':=by
 refine x1a2 h fun τ q g'=>?_;clear h;exact ⟨τ,q,g.trans g'⟩
noncomputable def flatT (a:Expr):Bool:=!(Nat.beq a.ctorIdx 0 || Nat.beq a.ctorIdx 3 || Nat.beq a.ctorIdx 5 || Nat.beq a.ctorIdx 15)
noncomputable def tOk (e:E):Bool:=E.rec (motive_1:=fun _=>Bool) (motive_2:=fun _=>Unit) (motive_3:=fun _=>Unit) (fun _=>true) (fun _=>true) (fun _ _=>true) (fun _ _ _ _ _=>true) (fun _ _=>false) (fun _ x=>x) (fun _ _ _ _ _=>true) (fun _ _ x y=>x && y) (fun _ _ x y=>x && y) (fun _ _ _ _ _ _=>false)
 (fun _ _ _ _=>true) (fun _ _ _ _ _=>true) (fun _=>true) (fun _ _ _ _=>true) (fun _ _ _ _=>true) (fun _ _=>true) (fun _ _=>true) (fun _ _ _ _=>true) (fun _ _ _=>true) (fun _ _=>true) (fun _ _=>false) (fun _ _=>()) (fun _ _ _ _=>()) (fun _ _ _ _=>()) (fun _ _ _ _ _=>()) () (fun _ _ _ _=>()) e
structure GoodE (k:Ck) (e:E) (a:Expr):Prop where
 pl:plX a=true
 se:∀ {w A Γ K dep c},Cs k w A Γ K dep c→SE w A Γ c e a
 st:tOk e=true→∀ {w A Γ K dep c},Cs k w A Γ K dep c→ST w A Γ c e a
structure GoodF (k:Ck) (f:F) (a:Expr):Prop where
 pl:plX a=true
 sf:∀ {w A Γ K dep c},Cs k w A Γ K dep c→SF w A Γ c f a
structure GoodEs (k:Ck) (es:Es) (as:List Expr):Prop where
 pl:as.all plX=true
 ses:∀ {w A Γ K dep c},Cs k w A Γ K dep c→SEs w A Γ c es as
theorem truthy_b {b:Bool}{Q:Bool→Shared→Prop}(q:Q b s):wpAny (model PG w) A (truthy (.bool b)) Q Ed s:=wpAny_truthy_bool q
theorem isTrue_flat {a:Expr}{env:Env}{whole:Sem Value}:flatT a=true→isTrue a env whole=(do let v ← whole;standAt a.pos;holding [v] (truthy v)):=by
 cases a <;> first | exact fun _=>rfl | exact fun h=>nomatch h
theorem st_flat {e:E}{a:Expr}(he:SE w A Γ c e a)(hf:flatT a=true):ST w A Γ c e a:=fun fl σ oa s Q S q =>
 isTrue_plain (he.to S q fun v x s₁ σ₁ q₁ g₁ r₁=>by
  refine x1a2 (onB_inv q₁) fun b zq1 q₁=>?_;subst zq1
  rw [r₁.bool_inv]
  exact truthy_b ⟨σ₁,q₁,g₁⟩) (isTrue_flat hf)
theorem GoodE.flat {k:Ck}{e:E}{a:Expr}(h:plX a=true)(hf:flatT a=true)(se:∀ {w A Γ K dep c},Cs k w A Γ K dep c→SE w A Γ c e a):GoodE k e a:=⟨h,se,fun _ {_ _ _ _ _ _} C=>st_flat (se C) hf⟩
end
end
section
section
variable {w:World}{A:Around}{s:Shared}{K:Frag}{Γ:Gam}{G:List (String×V)}{k:Ck}{dep:Nat}{c:Cx}{fl:Addr→Prop}{σ:Sg}{oa:Nat→Addr}
theorem name_at {x:Str}{pos:Pos}{m:Str→Option Value}{v:Value}{Q:Value→Shared→Prop}(hk:c.env.scope.kind=.function)(N:s.heap.Ns c.L m)(n:NameAt c s.heap m x v)(hd:(x == ("__debug__" : Str))=false)(q:Q v s) :
  wpAny (model PG w) A (eval (.Name x pos) c.env) Q Ed s:=by
 refine wpAny_Name ?_ hd
 rcases n with ⟨e,n⟩ | ⟨e,a,o,l,g,d⟩
 ·exact wpAny_loadName_local hk e N n q
 ·rcases e with e | ⟨e,ec⟩
  ·exact wpAny_loadName_cell hk e l ⟨o,g,d⟩ q
  ·exact wpAny_loadName_free hk e l ⟨o,g,d⟩ q ec
theorem list_after {i:Nat}{x:Str}{k:List V→Prop}(S:St c fl σ oa s.heap)(hx:c.vars[i]?=some x)(e:slotL σ i k){R:Prop}
  (h:∀ l m a,k l→s.heap.Ns c.L m→NameAt c s.heap m x (.ref a)→(∀ h',St c fl σ oa h'→Ev c.L σ oa s.heap σ oa h'→∃ items n,h'.get? a=some (listOf items.toArray n)∧items.length≤sMx∧VRs (vz c fl σ oa h') l items)→R):R:=by
 refine x1a2 S.ns fun m N B=>?_
 exact slotL_inv e (fun l e q=>by
  refine x1a2 (B i x _ hx e) fun _ n r=>?_
  refine x3a4 (VR.lst_inv r) fun a items z zq3 g hs hr=>?_;subst zq3
  exact h l m _ q N n fun h' S' ev=>⟨_,_,(ev.le _ _ g).2,hs,hr.mono ev.le⟩)
  (fun l e q=>h l m _ q N (.inl (B i x _ hx e)) fun h' S' ev=>(S'.own i _ e).2.2.2.2.has)
  (fun l e q=>h l m _ q N (.inl (B i x _ hx e)) fun h' S' ev=>(S'.bor i _ e).2.2.2.2.has)
theorem isList_of {h:Heap}{a:Addr}{items:List Value}{n:Nat}(e:h.get? a=some (listOf items.toArray n)):h.IsList a items.toArray:=⟨_,e,rfl,n,rfl⟩
theorem se_loc (C:Cs k w A Γ K dep c){i:Nat}{x:Str}{p:Pos}(h:k.isLoc i x=true):SE w A Γ c (.loc i) (.Name x p):=fun fl σ oa s Q S q=>by
 refine an3 (isLoc_of C.L h) fun h1 _ h3=>?_
 refine x1a2 S.ns fun m N B=>?_
 exact onS_inv (e_loc.mp q) (fun v e q=>by
   refine x1a2 (B i _ _ h1 e) fun y n r=>?_;exact name_at C.L.kind N n h3 (PE.now' (.refl S) q r))
  (fun l e q=>by
   refine an3 (S.freeze C.nd h1 e) fun S' ev r=>?_;exact name_at C.L.kind N (.inl (B i _ _ h1 e)) h3 ⟨_,_,q,⟨.refl s,S',ev⟩,r⟩) fun _ _ q=>q.elim
theorem se_none {n:Nat}{p:Pos}:SE w A Γ c (.cst .none) (.Constant .none n p):=fun fl σ oa s Q S q=>wpAny_Constant_none (PE.now' (.refl S) q .none)
theorem se_bool {b:Bool}{n:Nat}{p:Pos}:SE w A Γ c (.cst (.bool b)) (.Constant (.bool b) n p):=fun fl σ oa s Q S q=>wpAny_Constant_bool (PE.now' (.refl S) q (.bool _))
theorem se_int {i:Int}{n:Nat}{p:Pos}:SE w A Γ c (.cst (.int i)) (.Constant (.int i) n p):=fun fl σ oa s Q S q=>wpAny_Constant_int (PE.now (.refl S) q (.int _ _))
theorem glob_at {x:String}{y:Str}{pos:Pos}{v:Value}{Q:Value→Shared→Prop}(C:Cs k w A Γ K dep c)(S:St c fl σ oa s.heap)(h:k.isGlob x y=true)(e:nsIn K mainGlobals (Str.ofString x)=some (some v))(q:Q v s) :
  wpAny (model PG w) A (eval (.Name y pos) c.env) Q Ed s:=by
 refine an3 (isGlob_of C.L h) fun h1 h2 h3=>?_
 subst h1
 refine x5a1 C.R.gr.T fun p loose mean mg mb T=>?_
 refine Name_function_global C.R.kind h2 (loadGlobal_global (mg:=mg) ?_ (mg_of C.R.gr.X T.g e) q) h3
 rw [C.R.gl];exact T.g.keeps S.gi.1
theorem blt_name:∀ q∈[("len",Value.builtin "len"),("max",.builtin "max"),("min",.builtin "min"),("range",.type "range"),("enumerate",.type "enumerate")],Str.ofString q.1≠Str.ofString "__name__" := by decide
theorem blt_at {x:String}{y:Str}{pos:Pos}{v:Value}{Q:Value→Shared→Prop}(C:Cs k w A Γ K dep c)(S:St c fl σ oa s.heap)(h:k.isGlob x y=true)
  (hm:(x,v)∈[("len",Value.builtin "len"),("max",.builtin "max"),("min",.builtin "min"),("range",.type "range"),("enumerate",.type "enumerate")]) (q:Q v s) :
  wpAny (model PG w) A (eval (.Name y pos) c.env) Q Ed s:=by
 refine an3 (isGlob_of C.L h) fun h1 h2 h3=>?_
 subst h1
 refine x5a1 C.R.gr.T fun p loose mean mg mb T=>?_
 obtain ⟨e1,e2⟩:=C.R.bl x v hm
 refine Name_function_global C.R.kind h2 (loadGlobal_builtin (mg:=mg) (mb:=mb) ?_ (mg_none_of C.R.gr.X T.g e1) ?_ ((T.builtins _ (blt_name _ hm)).trans e2) q) h3
 ·rw [C.R.gl];exact T.g.keeps S.gi.1
 ·rw [C.R.bu];exact T.b.keeps S.gi.1
theorem se_gloI (C:Cs k w A Γ K dep c){x:String}{i:Int}{y:Str}{p:Pos}(h:k.isGlob x y=true)(e:k.G.lookup x=some (.int i)):SE w A Γ c (.glo x (.int i)) (.Name y p):=fun fl σ oa s Q S q=>by
 rcases C.R.glob x _ e with ⟨y,t,e,e'⟩ | ⟨y,e,_⟩
 ·cases e;exact glob_at C S h e' (PE.now' (.refl S) q (.int _ _))
 ·cases e
theorem se_gloR (C:Cs k w A Γ K dep c){x:String}{a:Addr}{y:Str}{p:Pos}(h:k.isGlob x y=true)(e:k.G.lookup x=some (.ref a)):SE w A Γ c (.glo x (.ref a)) (.Name y p):=fun fl σ oa s Q S q=>by
 rcases C.R.glob x _ e with ⟨y,t,e,_⟩ | ⟨y,e,e'⟩
 ·cases e
 ·cases e;exact glob_at C S h e' (PE.now' (.refl S) q (.ref _))
theorem noPylong {x y:Int}(h:y.natAbs<2^64):Builtin.divisionGoesByPylong x y=false:=by
 unfold Builtin.divisionGoesByPylong
 simp only [Bool.and_eq_false_imp,decide_eq_true_eq]
 intro hy
 exfalso
 have:y.natAbs.log2≤64:=by
  by_cases hz:y.natAbs=0
  ·rw [hz];decide
  ·have:=(Nat.log2_lt hz).mpr h;exact F1 [_] [] 1255532088083223683168 this
 split at hy <;> first | exact F1 [] [] 116223997296769 hy | exact F3 [_,_,_] [] 2413855309655483339161319496300423598633604210753 this hy (Nat.div_add_mod _ 30)
theorem mulOk {x y:Int}(h:x.natAbs<2^64):IntMulOk x y:=by
 refine .of_left ?_
 unfold Builtin.Int.intBits
 by_cases hz:x=0
 ·subst hz;decide
 ·have:=(Nat.log2_lt (n:=x.natAbs) (k:=64) (by exact (Int.lt_or_gt_of_ne hz).elim (fun k1=>nac (fun k2 k3=>F2 [_] [_] 30431678125907729413 k1 k2) fun k2 k3=>F2 [_] [_] 1866625049107325977376 k1 k3) fun k1=>F2 [_] [_] 29166016437751579424 k1 (Int.natAbs_of_nonneg (F1 [] [_] 23355288581 k1)))).mpr h
  split <;> first | exact F0 [] [] 18270396482 | exact F1 [_] [] 5142659425969663681503328 this
theorem bin_rule {op:Operator}{a b:V}{x y:Value}{g:Vis}{q:V→Prop}{Q:Value→Shared→Prop}(ra:VR g a x)(rb:VR g b y)(h:binP op a b q)
  (e:∀ i t,q (.int i)→Q (.int i t) { s with toks:=s.toks+1 }):wpAny (model PG w) A (binaryOp op x y) Q Ed s:=by
 refine x1a2 (onI_inv h) fun p zq1 h1=>?_;subst zq1
 refine x1a2 (onI_inv h1) fun r zq1 h=>?_;subst zq1
 obtain ⟨t,rfl⟩:=ra.int_inv
 obtain ⟨u,rfl⟩:=rb.int_inv
 clear h1
 cases op with
 | Add=>exact add_int (e _ _ h)
 | Sub=>exact sub_int (e _ _ h)
 | Mult=>exact mul_int (e _ _ h.2) (mulOk h.1.1)
 | Mod=>exact mod_int h.1 (e _ _ h.2)
 | LShift=>exact lshift_int_small h.1.1 (Int.le_trans h.1.2.1 (by decide)) h.1.2.2 (e _ _ h.2)
 | RShift=>exact rshift_int h.1 (e _ _ h.2)
 | BitOr=>exact or_int (e _ _ h)
 | BitAnd=>exact and_int (e _ _ h)
 | FloorDiv=>exact floordiv_int h.1.1 (e _ _ h.2) (.inl (noPylong h.1.2))
 | _=>exact h.elim
theorem ibin_rule {op:Operator}{a b:V}{x y:Value}{g:Vis}{q:V→Prop}{Q:Value→Shared→Prop}(ra:VR g a x)(rb:VR g b y)(h:binP op a b q)
  (e:∀ i t,q (.int i)→Q (.int i t) { s with toks:=s.toks+1 }):wpAny (model PG w) A (inplaceOp op x y) Q Ed s:=by
 refine x1a2 (onI_inv h) fun p zq1 h1=>?_;subst zq1
 refine x1a2 (onI_inv h1) fun r zq1 h=>?_;subst zq1
 obtain ⟨t,rfl⟩:=ra.int_inv
 obtain ⟨u,rfl⟩:=rb.int_inv
 clear h1
 cases op with
 | Add=>exact iadd_int (e _ _ h)
 | Sub=>exact isub_int (e _ _ h)
 | Mult=>exact imul_int (e _ _ h.2) (mulOk h.1.1)
 | Mod=>exact imod_int h.1 (e _ _ h.2)
 | LShift=>exact ilshift_int_small h.1.1 (Int.le_trans h.1.2.1 (by decide)) h.1.2.2 (e _ _ h.2)
 | RShift=>exact irshift_int h.1 (e _ _ h.2)
 | BitOr=>exact ior_int (e _ _ h)
 | BitAnd=>exact iand_int (e _ _ h)
 | FloorDiv=>exact ifloordiv_int h.1.1 (e _ _ h.2) (.inl (noPylong h.1.2))
 | _=>exact h.elim
theorem se_bin {op:Operator}{l r:E}{l' r':Expr}{p:Pos}(hl:SE w A Γ c l l')(hr:SE w A Γ c r r'):SE w A Γ c (.bin op l r) (.BinOp l' op r' p):=fun fl σ oa s Q S q =>
 wpAny_BinOp (hl.to S (e_bin.mp q) fun va x s₁ σ₁ q₁ g₁ r₁=>hr.to g₁.st q₁ fun vb y s₂ σ₂ q₂ g₂ r₂=>bin_rule (r₁.mono g₂.le) r₂ q₂ fun i t qi=>PE.now (g₁.trans g₂) qi (.int i t))
theorem se_neg {e:E}{a:Expr}{p:Pos}(he:SE w A Γ c e a):SE w A Γ c (.neg e) (.UnaryOp .USub a p):=fun fl σ oa s Q S q =>
 wpAny_UnaryOp (he.to S (e_neg.mp q) fun v x s₁ σ₁ q₁ g₁ r₁=>by
  refine x1a2 (onI_inv q₁) fun i zq1 q₁=>?_;subst zq1
  obtain ⟨t,rfl⟩:=r₁.int_inv
  exact neg_int (PE.now g₁ q₁ (.int _ _)))
theorem se_not {e:E}{a:Expr}{p:Pos}(he:SE w A Γ c e a):SE w A Γ c (.not e) (.UnaryOp .Not a p):=fun fl σ oa s Q S q =>
 wpAny_UnaryOp (he.to S (e_not.mp q) fun v x s₁ σ₁ q₁ g₁ r₁=>by
  refine x1a2 (onB_inv q₁) fun i zq1 q₁=>?_;subst zq1
  rw [r₁.bool_inv]
  exact not_of (truthy_b (PE.now' g₁ q₁ (.bool _))))
theorem ints_of {g:Vis}:∀ {ns:List Int} {items:List Value},VRs g (ns.map V.int) items→IntsAre items ns:=fun {ns}=>by
 induction ns with
 | nil=>intro _ q;cases VRs.nil_inv q;exact .nil
 | cons n ns ih=>intro _ q;refine x2a3 (VRs.cons_inv q) fun _ xs zq2 h r=>?_;subst zq2;obtain ⟨t,rfl⟩:=VR.int_inv h;exact .cons _ _ (ih r)
theorem reads_ints {h:Heap}{ns:List Int}{items:List Value}(I:IntsAre items ns):ReadsAll h items (ns.map PyData.int) []:=by
 induction I with
 | nil=>exact .nil
 | cons n t r ih=>exact ReadsAll.cons (Reads.int (h:=h) n t) ih
theorem reads_zl {h:Heap}{H:Addr→Prop}{ns:List Int}{x:Value}(r:VR (vis h H) (zl ns) x):∃ a,Reads h x (.list (ns.map PyData.int)) [a]:=by
 refine x3a4 (VR.lst_inv r) fun a items n zq3 e hs hr=>?_;subst zq3
 exact ⟨_,.list e.2 rfl rfl (reads_ints (ints_of hr))⟩
theorem reads_zls {h:Heap}{H:Addr→Prop}:∀ {mss:List (List Int)} {items:List Value},VRs (vis h H) (mss.map zl) items→∃ as,ReadsAll h items (mss.map fun ms=>PyData.list (ms.map PyData.int)) as:=fun {mss}=>by
 induction mss with
 | nil=>intro _ q;cases VRs.nil_inv q;exact ⟨_,.nil⟩
 | cons ms mss ih =>
  intro _ q
  refine x2a3 (VRs.cons_inv q) fun _ xs zq2 r rs=>?_;subst zq2
  obtain ⟨a,e⟩:=reads_zl r
  obtain ⟨as,es⟩:=ih rs
  exact ⟨_,.cons e es⟩
theorem layInts:∀ (ns:List Int),PyData.canLayAll0 (ns.map PyData.int)=true
 | []=>rfl
 | n::ns=>by
  have:=layInts ns
  simp only [List.map_cons,PyData.canLayAll0,this,Bool.and_true];rfl
theorem layIntss:∀ (mss:List (List Int)),PyData.canLayAll0 (mss.map fun ms=>PyData.list (ms.map PyData.int))=true
 | []=>rfl
 | n::ns=>by
  have:=layIntss ns
  simp only [List.map_cons,PyData.canLayAll0,PyData.canLay0,this,layInts,Bool.and_true]
theorem depthInts:∀ (ns:List Int),PyData.depthAll (ns.map PyData.int)≤1
 | []=>by decide
 | n::ns=>by
  have:=depthInts ns
  simp only [List.map_cons,PyData.depthAll,PyData.depth];lia
theorem eqvAll_ints:∀ (ns ms:List Int),PyData.eqvAll (ns.map PyData.int) (ms.map PyData.int)=decide (ns=ms)
 | [],[]=>rfl
 | [],_::_=>rfl
 | _::_,[]=>rfl
 | n::ns,m::ms=>by
  rw [List.map_cons,List.map_cons,PyData.eqvAll,eqvAll_ints ns ms,PyData.eqv]
  rw [Bool.eq_iff_iff,Bool.and_eq_true,beq_iff_eq,decide_eq_true_iff,decide_eq_true_iff,List.cons.injEq]
theorem any_eqv (ns:List Int):∀ (mss:List (List Int)),((mss.map fun ms=>PyData.list (ms.map PyData.int)).any fun y=>y.eqv (PyData.list (ns.map PyData.int)))=decide (ns∈mss)
 | []=>rfl
 | ms::mss=>by
  rw [List.map_cons,List.any_cons,any_eqv ns mss,PyData.eqv,eqvAll_ints,← Bool.decide_or]
  exact decide_eq_decide.mpr (by rw [List.mem_cons,eq_comm])
theorem unitsIn {A:Around}{ns:List Int}{n:Nat}(hu:A.units+200<cLine):A.units+1+min n (PyData.list (ns.map PyData.int)).depth<cLine:=by
 have h1:=depthInts ns
 have h2:(PyData.list (ns.map PyData.int)).depth=1+PyData.depthAll (ns.map PyData.int):=by rw [PyData.depth];exact nAs (F0 [_] [] 1177358729440) (F0 [_] [] 1176879794179)
 have h3:=Nat.min_le_right n (PyData.list (ns.map PyData.int)).depth
 exact F4 [_,_,_,_,_] [] 26496247798861424043303728004425495126957430880 hu h1 h2 h3
theorem VR.kind {g:Vis}{a:V}{x:Value}(r:VR g a x):(isN a=true∧x=.none)∨(isN a=false∧((∃ b,x=.bool b)∨(∃ i t,x=.int i t)∨∃ l,x=.ref l)):=by
 cases a with
 | none=>exact .inl ⟨rfl,r⟩
 | bool b=>exact .inr ⟨rfl,.inl ⟨b,r⟩⟩
 | int i=>exact .inr ⟨rfl,.inr (.inl ⟨i,r⟩)⟩
 | ref a=>exact .inr ⟨rfl,.inr (.inr ⟨a,r⟩)⟩
 | lst l=>refine x3a2 (VR.lst_inv r) fun a _ _ e _=>?_;exact .inr ⟨rfl,.inr (.inr ⟨a,e⟩)⟩
 | tup l=>refine x2a2 (VR.tup_inv r) fun a _ e _=>?_;exact .inr ⟨rfl,.inr (.inr ⟨a,e⟩)⟩
 | mont=>refine x5a2 r fun a _ _ _ _ e _=>?_;clear r;exact .inr ⟨rfl,.inr (.inr ⟨a,e⟩)⟩
 | clo=>refine x4a2 r fun a _ _ _ e _=>?_;clear r;exact .inr ⟨rfl,.inr (.inr ⟨a,e⟩)⟩
theorem is_rule {a:V}{x:Value}{g:Vis}{Q:Value→Shared→Prop}(r:VR g a x)(q:Q (.bool (isN a)) s):wpAny (model PG w) A (compareOp .Is x .none) Q Ed s:=by
 rcases r.kind with ⟨e,rfl⟩ | ⟨e,⟨_,rfl⟩ | ⟨_,_,rfl⟩ | ⟨_,rfl⟩⟩ <;> rw [e] at q
 ·exact is_none_none q
 ·exact is_bool_none q
 ·exact is_int_none q
 ·exact is_ref_none q
theorem isnt_rule {a:V}{x:Value}{g:Vis}{Q:Value→Shared→Prop}(r:VR g a x)(q:Q (.bool (!isN a)) s):wpAny (model PG w) A (compareOp .IsNot x .none) Q Ed s:=by
 rcases r.kind with ⟨e,rfl⟩ | ⟨e,⟨_,rfl⟩ | ⟨_,_,rfl⟩ | ⟨_,rfl⟩⟩ <;> rw [e] at q
 ·exact isnot_none_none q
 ·exact isnot_bool_none q
 ·exact isnot_int_none q
 ·exact isnot_ref_none q
theorem cmp_rule {op:CmpOp}{a b:V}{x y:Value}{H:Addr→Prop}{q:Bool→Prop}{Q:Value→Shared→Prop}(hu:A.units+200<cLine)(ra:VR (vis s.heap H) a x)(rb:VR (vis s.heap H) b y)(h:cmpP op a b q)
  (e:∀ i,q i→Q (.bool i) s):wpAny (model PG w) A (compareOp op x y) Q Ed s:=by
 cases b with
 | int j =>
  refine x1a2 (onI_inv h) fun i zq1 h1=>?_;subst zq1
  obtain ⟨_,rfl⟩:=ra.int_inv
  obtain ⟨_,rfl⟩:=rb.int_inv
  cases op with
  | Eq=>exact eq_int (e (_ == _) h1)
  | NotEq=>exact ne_int (e (!(_ == _)) h1)
  | Lt=>exact lt_int (e _ h1)
  | LtE=>exact le_int (e _ h1)
  | Gt=>exact gt_int (e _ h1)
  | GtE=>exact ge_int (e _ h1)
  | _=>exact h.elim
 | lst ys =>
  refine x1a2 (onL_inv h) fun xs zq1 h1=>?_;subst zq1
  cases op with
  | Eq =>
   refine x2a3 h1 fun ns ms zq2 zq3 h2=>?_;clear h1;subst zq2;subst zq3
   refine x3a4 ra.lst_inv fun _ _ _ zq3 e1 _ r1=>?_;subst zq3
   refine x3a4 rb.lst_inv fun _ _ _ zq3 e2 _ r2=>?_;subst zq3
   exact ke_eq_ints (isList_of e1.2) (isList_of e2.2) (ints_of r1) (ints_of r2) (by exact F1 [_,_] [] 22923656116232027328623943776 hu) (e _ h2)
  | NotEq =>
   refine x2a3 h1 fun ns ms zq2 zq3 h2=>?_;clear h1;subst zq2;subst zq3
   refine x3a4 ra.lst_inv fun _ _ _ zq3 e1 _ r1=>?_;subst zq3
   refine x3a4 rb.lst_inv fun _ _ _ zq3 e2 _ r2=>?_;subst zq3
   exact ke_ne_ints (isList_of e1.2) (isList_of e2.2) (ints_of r1) (ints_of r2) (by exact F1 [_,_] [] 22923656116232027328623943776 hu) (e _ h2)
  | In =>
   refine x2a3 h1 fun ns mss zq2 zq3 h2=>?_;clear h1;subst zq2;subst zq3
   obtain ⟨_,e1⟩:=reads_zl (ns:=ns) ra
   refine x3a4 rb.lst_inv fun _ _ _ zq3 e2 _ r2=>?_;subst zq3
   obtain ⟨_,e3⟩:=reads_zls r2
   exact SeqAt.in_list_reads (.list e2.2 rfl rfl e3) e1 (layIntss _) (layInts _) (unitsIn hu) (e _ (by rw [any_eqv];exact h2))
  | _=>exact h.elim
 | tup ys =>
  refine x1a3 (onL_inv h) fun xs zq1 zq2 zr0=>x2a3 zr0 fun ns mss zq5 zq6 h2=>?_;subst zq1;subst zq2;subst zq5;subst zq6
  obtain ⟨_,e1⟩:=reads_zl (ns:=ns) ra
  refine x2a4 rb.tup_inv fun _ _ zq2 e2 _ r2=>?_;subst zq2
  obtain ⟨_,e3⟩:=reads_zls r2
  exact SeqAt.in_tuple_reads (.tuple e2.2 rfl rfl e3) e1 (layIntss _) (layInts _) (unitsIn hu) (e _ (by rw [any_eqv];exact h2))
 | none =>
  obtain rfl:=rb.none_inv
  cases op with
  | Is =>
   exact is_rule ra (e _ h)
  | IsNot =>
   exact isnt_rule ra (e _ h)
  | _=>exact h.elim
 | _=>exact h.elim
theorem Cs.un (C:Cs k w A Γ K dep c):A.units+200<cLine:=by have:=C.R.un;exact F1 [_,_,_] [] 100904420529995670959802994862753732108384 this
theorem se_cmp (C:Cs k w A Γ K dep c){op:CmpOp}{l r:E}{l' r':Expr}{p:Pos}(hm:plX r'=true)(hl:SE w A Γ c l l')(hr:SE w A Γ c r r'):SE w A Γ c (.cmp op l r) (.Compare l' [op] [r'] p):=fun fl σ oa s Q S q =>
 wpAny_Compare1 (hl.to S (e_cmp.mp q) fun va x s₁ σ₁ q₁ g₁ r₁=>hr.to g₁.st q₁ fun vb y s₂ σ₂ q₂ g₂ r₂=>cmp_rule C.un (r₁.mono g₂.le) r₂ q₂ fun i qi=>PE.now' (g₁.trans g₂) qi (.bool i)) ((plain_of hm).marks _)
theorem st_cmp (C:Cs k w A Γ K dep c){op:CmpOp}{l r:E}{l' r':Expr}{p:Pos}(hm:plX r'=true)(hl:SE w A Γ c l l')(hr:SE w A Γ c r r'):ST w A Γ c (.cmp op l r) (.Compare l' [op] [r'] p):=fun fl σ oa s Q S q =>
 wpAny_isTrue_Compare1 (hl.to S (e_cmp.mp q) fun va x s₁ σ₁ q₁ g₁ r₁=>hr.to g₁.st q₁ fun vb y s₂ σ₂ q₂ g₂ r₂=>cmp_rule C.un (r₁.mono g₂.le) r₂ q₂ fun i qi=>truthy_b ⟨σ₂,qi,g₁.trans g₂⟩) ((plain_of hm).marks _)
theorem se_and {l r:E}{l' r':Expr}{p:Pos}(hl:SE w A Γ c l l')(hr:SE w A Γ c r r'):SE w A Γ c (.and l r) (.BoolOp .And [l',r'] p):=fun fl σ oa s Q S q =>
 BoolOp_and (hl.to S (e_and.mp q) fun v x s₁ σ₁ q₁ g₁ r₁=>by
  refine x1a2 (onB_inv q₁) fun b zq1 q₁=>?_;subst zq1
  rw [r₁.bool_inv]
  refine truthy_b ?_
  cases b with
  | false=>exact PE.now' g₁ q₁ (.bool _)
  | true=>exact BoolOp_one (hr.to g₁.st q₁ fun v x s₂ σ₂ q₂ g₂ r₂=>PE.now' (g₁.trans g₂) q₂ r₂))
theorem se_or {l r:E}{l' r':Expr}{p:Pos}(hl:SE w A Γ c l l')(hr:SE w A Γ c r r'):SE w A Γ c (.or l r) (.BoolOp .Or [l',r'] p):=fun fl σ oa s Q S q =>
 BoolOp_or (hl.to S (e_or.mp q) fun v x s₁ σ₁ q₁ g₁ r₁=>by
  refine x1a2 (onB_inv q₁) fun b zq1 q₁=>?_;subst zq1
  rw [r₁.bool_inv]
  refine truthy_b ?_
  cases b with
  | true=>exact PE.now' g₁ q₁ (.bool _)
  | false=>exact BoolOp_one (hr.to g₁.st q₁ fun v x s₂ σ₂ q₂ g₂ r₂=>PE.now' (g₁.trans g₂) q₂ r₂))
theorem st_not {e:E}{a:Expr}{p:Pos}(he:ST w A Γ c e a):ST w A Γ c (.not e) (.UnaryOp .Not a p):=fun fl σ oa s Q S q =>
 isTrue_not (he.to (Q:=fun b=>Q (!b)) S q fun b s₁ σ₁ q₁ g₁=>⟨σ₁,q₁,g₁⟩)
theorem st_and {l r:E}{l' r':Expr}{p:Pos}(hl:ST w A Γ c l l')(hr:ST w A Γ c r r'):ST w A Γ c (.and l r) (.BoolOp .And [l',r'] p):=fun fl σ oa s Q S q =>
 isTrue_and (hl.to (Q:=fun b τ=>if b=true then WE Γ r τ (isB Q) else isB Q (.bool false) τ) S q fun b s₁ σ₁ q₁ g₁=>by
  cases b with
  | false=>exact ⟨σ₁,q₁,g₁⟩
  | true =>
   refine isTrue_and (hr.to g₁.st q₁ fun b s₂ σ₂ q₂ g₂=>?_)
   cases b with
   | false=>exact ⟨σ₂,q₂,g₁.trans g₂⟩
   | true=>exact isTrue_and_nil ⟨σ₂,q₂,g₁.trans g₂⟩)
theorem st_or {l r:E}{l' r':Expr}{p:Pos}(hl:ST w A Γ c l l')(hr:ST w A Γ c r r'):ST w A Γ c (.or l r) (.BoolOp .Or [l',r'] p):=fun fl σ oa s Q S q =>
 isTrue_or (hl.to (Q:=fun b τ=>if b=true then isB Q (.bool true) τ else WE Γ r τ (isB Q)) S q fun b s₁ σ₁ q₁ g₁=>by
  cases b with
  | true=>exact ⟨σ₁,q₁,g₁⟩
  | false =>
   refine isTrue_or (hr.to g₁.st q₁ fun b s₂ σ₂ q₂ g₂=>?_)
   cases b with
   | true=>exact ⟨σ₂,q₂,g₁.trans g₂⟩
   | false=>exact isTrue_or_nil ⟨σ₂,q₂,g₁.trans g₂⟩)
theorem se_ite {e t f:E}{a b d:Expr}{p:Pos}(he:ST w A Γ c e a)(ht:SE w A Γ c t b)(hf:SE w A Γ c f d):SE w A Γ c (.ite e t f) (.IfExp a b d p):=fun fl σ oa s Q S q =>
 wpAny_IfExp (he.to (Q:=fun b τ=>if b=true then WE Γ t τ Q else WE Γ f τ Q) S q fun b s₁ σ₁ q₁ g₁=>by
  cases b with
  | false=>exact hf.to g₁.st q₁ fun v x s₂ σ₂ q₂ g₂ r₂=>PE.now' (g₁.trans g₂) q₂ r₂
  | true=>exact ht.to g₁.st q₁ fun v x s₂ σ₂ q₂ g₂ r₂=>PE.now' (g₁.trans g₂) q₂ r₂)
end
end
section
section
variable {w:World}{A:Around}{s:Shared}{K:Frag}{Γ:Gam}{G:List (String×V)}{k:Ck}{dep:Nat}{c:Cx}{fl:Addr→Prop}{σ:Sg}{oa:Nat→Addr}
theorem ses_nil:SEs w A Γ c .nil []:=fun pos fl σ oa s Q S q=>spliced_nil ⟨[],σ,q,.refl S,.nil,rfl⟩
theorem ses_cons {e:E}{es:Es}{a:Expr}{as:List Expr}(hp:plX a=true)(he:SE w A Γ c e a)(hes:SEs w A Γ c es as):SEs w A Γ c (.cons e es) (a::as):=fun pos fl σ oa s Q S q=>by
 rw [stC hp]
 exact spliced_cons (he.to S (s_cons.mp q) fun v x s₁ σ₁ q₁ g₁ r₁=>hes.to g₁.st q₁ fun vs xs s₂ σ₂ q₂ g₂ r₂ l₂=>⟨v::vs,σ₂,q₂,g₁.trans g₂,.cons (r₁.mono g₂.le) r₂,congrArg Nat.succ l₂⟩)
theorem star_any {pos:Pos}{env:Env}:∀ {as:List Expr},as.all plX=true→(backTo pos (starEach as env)).any (·.1)=false:=fun {as}=>by
 induction as with
 | nil=>exact fun _=>rfl
 | cons a as ih =>
  intro h
  rw [List.all_cons,Bool.and_eq_true] at h
  rw [stC h.1]
  show (false || (backTo pos (starEach _ env)).any (·.1))=false
  rw [ih h.2];rfl
theorem evalArgs_of {as:List Expr}{pos:Pos}{f:Value}{M:Model}{E:Value→Shared→Prop}{Q:Args→Shared→Prop}(h:as.all plX=true)
  (q:wpAny M A (spliced (backTo pos (starEach as c.env))) (fun vs s'=>Q { pos:=vs } s') E s):wpAny M A (evalArgs f true (backTo pos (starEach as c.env)) []) Q E s:=by
 cases as with
 | nil =>
  unfold evalArgs
  show wpAny M A (spliced [] >>= _) Q E s
  refine wpAny_bind (wpAny_mono (show wpAny M A (spliced []) _ E s from q) (fun vs s' h'=>?_) fun _ _ x=>x)
  refine wpAny_holding ?_
  exact wpAny_bind (wpAny_pure (wpAny_bind (wpAny_pure (wpAny_pure h'))))
 | cons a as =>
  rw [List.all_cons,Bool.and_eq_true] at h
  rw [stC h.1] at q ⊢
  exact evalArgs_plain q
theorem ListHas.live {h:Heap}{g:Vis}{a:Addr}{l:List V}(x:ListHas h g a l):Live h a:=by
 refine x2a2 x.has fun _ _ e _=>?_;exact ⟨_,e⟩
theorem nr_list {items:Array Value}{n:Nat}:NR (listOf items n):=fun vs t z=>by cases z
theorem ListHas.liveN {h:Heap}{g:Vis}{a:Addr}{l:List V}(x:ListHas h g a l):LiveN h a:=by
 refine x2a2 x.has fun _ _ e _=>?_;exact ⟨_,e,.inr nr_list⟩
theorem St.hliveN {h:Heap}(S:St c fl σ oa h):∀ b,Hid c.L fl σ oa b→LiveN h b:=fun b q=>by
 rcases q with rfl | rfl | ⟨i,l,q,rfl⟩ | q
 ·refine x1a2 S.ns fun m N _=>?_;exact ns_liveN N
 ·obtain ⟨ps,e⟩:=S.gi.tab;exact ⟨_,e,.inl rfl⟩
 ·exact q.elim (fun q=>(S.own i l q).2.2.2.2.liveN) fun q=>(S.bor i l q).2.2.2.2.liveN
 ·exact S.flt b q
theorem St.hlive {h:Heap}(S:St c fl σ oa h)(b:Addr)(q:Hid c.L fl σ oa b):Live h b:=(S.hliveN b q).live
def KeepOK (w:World)(f:Value)(h:Heap):Prop:=∃ kk,(kk=Keeper.frame∨kk=Keeper.machine∨kk=Keeper.boundFrame)∧Looks (model PG w) h (keeperOf f) kk
theorem CloAt.fn {g:Vis}{f:Addr}{a b c:Value}(h:CloAt g f a b c):∃ cl doc pm c' ct,g f (fnMade "multiplied" mulQual mulDef.1 mulDef.2.1 mulDef.2.2.1 cl doc pm c' ct):=by
 refine x5a2 h.ex fun cl doc pm c' ct h _=>?_;exact ⟨cl,doc,pm,c',ct,h⟩
theorem keep_ref {h:Heap}{f:Value}{g0:Heap}{g:Vis}{a:Addr}(X:K.In g0)(gi:GI g0 h)(r:VR g (.ref a) f)(hk:keepIn K (.ref a)=true):KeepOK w f h:=by
 cases r.ref_inv;exact keeps_K hk h (X.keeps gi.1)
theorem keep_clo {h:Heap}{f:Value}{H:Addr→Prop}{t v m:V}(r:VR (vis h H) (.clo t v m) f):KeepOK w f h:=by
 refine x4a3 r fun a _ _ _ e k _=>?_;clear r
 refine x5a1 k.fn fun _ _ _ _ _ h1=>?_
 cases e;exact keeps_F h ⟨_,_,_,_,h1.2⟩
theorem call_uses {vf:V}{vs:List V}{q:V→Prop}(R:Rn w K Γ G dep A c)(u:Γ.use vf vs q){h:Heap}{H:Addr→Prop}{f:Value}(gi:GI c.g0 h)(r:VR (vis h H) vf f) :
  KeepOK w f h∧∃ U,MtV w K dep vf U∧U vs q:=by
 cases vf with
 | ref a =>
  refine x1a2 u fun S e u=>?_
  exact ⟨keep_ref R.gr.X gi r (R.fn _ S e).1,_,(R.fn _ S e).2,u⟩
 | clo t v m =>
  refine x1a3 u fun S e hl u=>?_
  exact ⟨keep_clo r,_,R.clo S _ _ _ e,hl,u⟩
 | _=>exact u.elim
theorem se_call (C:Cs k w A Γ K dep c){f:E}{ar:Es}{x:Str}{p pos:Pos}{as:List Expr}(ha:as.all plX=true)(hf:SE w A Γ c f (.Name x p))(hs:SEs w A Γ c ar as):SE w A Γ c (.call f ar) (.Call (.Name x p) as [] pos):=fun fl σ oa s Q S q =>
 wpAny_Call_NameR (hf.to S (e_call.mp q) fun vf fv s₁ σ₁ q₁ g₁ r₁=>callWith_of (P:=KeepOK w fv) (by rw [star_any ha];rfl) (fun _ z=>z) (evalArgs_of ha (hs.to g₁.st q₁ fun vs xs s₂ σ₂ q₂ g₂ r₂ _=>by
  refine an2 (call_uses C.R q₂ g₂.st.gi (r₁.mono g₂.le)) fun kp zr0=>x1a2 zr0 fun U M u=>?_;clear zr0
  refine ⟨kp,wpAny_mono (M c.g0 C.R.gr A s₂ _ fv vs xs _ C.R.hd C.R.un C.R.dp g₂.st.gi g₂.st.hliveN (.inr (.inl rfl)) (r₁.mono g₂.le) r₂ u) (fun r s₃ p=>?_) fun _ _ z=>z⟩
  refine x1a5 p fun v q₃ f₃ x₃ g₃ r₃=>?_;clear p
  exact ⟨v,σ₂,q₃,(g₁.trans g₂).trans ⟨f₃,g₂.st.ext0 x₃ g₃,x₃.ev⟩,r₃⟩)))
noncomputable def obS:Bool→List V→Slot
 | true,l=>.own l
 | false,l=>.bor l
def Ob (σ:Sg)(i:Nat):Prop:=∃ l,σ[i]?=some (.own l)∨σ[i]?=some (.bor l)
theorem ob_of {i:Nat}{b:Bool}{l:List V}(e:σ[i]?=some (obS b l)):σ[i]?=some (.own l)∨σ[i]?=some (.bor l):=by cases b;exact .inr e;exact .inl e
theorem OwnA.iff {b:Addr}:OwnA σ oa b↔∃ i,Ob σ i∧oa i=b:=⟨fun ⟨i,l,h,e⟩=>⟨i,⟨l,h⟩,e⟩,fun ⟨i,⟨l,h⟩,e⟩=>⟨i,l,h,e⟩⟩
structure ObAt (c:Cx) (fl:Addr→Prop) (σ:Sg) (oa:Nat→Addr) (h:Heap) (a:Addr) (l:List V):Prop where
 nL:a≠c.L
 nT:a≠tabA
 g0:c.g0.get? a=none
 has:ListHas h (vz c fl σ oa h) a l
theorem St.ob {h:Heap}(S:St c fl σ oa h){i:Nat}{b:Bool}{l:List V}(e:σ[i]?=some (obS b l)):ObAt c fl σ oa h (oa i) l:=by
 cases b with
 | true=>have:=(S.own i l e).2;exact ⟨this.1,this.2.1,this.2.2.1,this.2.2.2⟩
 | false=>have:=(S.bor i l e).2;exact ⟨this.1,this.2.1,this.2.2.1,this.2.2.2⟩
theorem ob_set {i:Nat}{b:Bool}{l l':List V}(e:σ[i]?=some (obS b l)){j:Nat}:Ob (σ.set i (obS b l')) j↔Ob σ j:=by
 have hi:i<σ.length:=(List.getElem?_eq_some_iff.mp e).1
 unfold Ob
 by_cases hj:i=j
 ·subst hj
  rw [List.getElem?_set_self hi]
  exact ⟨fun _=>⟨l,ob_of e⟩,fun _=>⟨l',by cases b;exact .inr rfl;exact .inl rfl⟩⟩
 ·rw [List.getElem?_set_ne hj]
theorem own_set {i:Nat}{b:Bool}{l l':List V}(e:σ[i]?=some (obS b l)){x:Addr}:OwnA (σ.set i (obS b l')) oa x↔OwnA σ oa x:=by
 rw [OwnA.iff,OwnA.iff]
 exact ⟨fun ⟨j,h,z⟩=>⟨j,(ob_set e).mp h,z⟩,fun ⟨j,h,z⟩=>⟨j,(ob_set e).mpr h,z⟩⟩
theorem vz_set {i:Nat}{b:Bool}{l l':List V}(e:σ[i]?=some (obS b l)){h:Heap}:vz c fl (σ.set i (obS b l')) oa h=vz c fl σ oa h:=by
 have:Hid c.L fl (σ.set i (obS b l')) oa=Hid c.L fl σ oa:=by
  funext x
  unfold Hid
  rw [own_set e]
 unfold vz;rw [this]
theorem St.turn {h h':Heap}{i:Nat}{l l':List V}{b:Bool}(S:St c fl σ oa h)(e:σ[i]?=some (obS b l))
  (keep:∀ x o,h.get? x=some o→x≠tabA→x≠oa i→h'.get? x=some o) (gr:Grow h h') (gi:GI c.g0 h') (lh:ListHas h' (vz c fl σ oa h') (oa i) l') :
  St c fl (σ.set i (obS b l')) oa h'∧Ev c.L σ oa h (σ.set i (obS b l')) oa h':=by
 have hi:i<σ.length:=(List.getElem?_eq_some_iff.mp e).1
 have self:(σ.set i (obS b l'))[i]?=some (obS b l'):=List.getElem?_set_self hi
 have other:∀ {j:Nat},j≠i→(σ.set i (obS b l'))[j]?=σ[j]?:=fun hj=>List.getElem?_set_ne (Ne.symm hj)
 have ow:OwnA σ oa (oa i):=⟨i,l,ob_of e,rfl⟩
 have O:=S.ob e
 have le:Le (vz c fl σ oa h) (vz c fl σ oa h'):=fun x o k=>⟨k.1,keep x o k.2 (fun q=>k.1 (.inr (.inl q))) fun q=>k.1 (.inr (.inr (.inl (q▸ow))))⟩
 have liveN:∀ x,LiveN h x→LiveN h' x:=fun x q=>by
  by_cases h1:x=tabA
  ·obtain ⟨ps,z⟩:=gi.tab;exact ⟨_,by rw [h1];exact z,.inl h1⟩
  ·by_cases h2:x=oa i
   ·rw [h2];exact lh.liveN
   ·refine x1a2 q fun o q n=>?_;exact ⟨o,keep x o q h1 h2,n⟩
 have live:∀ x,Live h x→Live h' x:=fun x q=>by
  by_cases h1:x=tabA
  ·obtain ⟨ps,z⟩:=gi.tab;exact ⟨_,by rw [h1];exact z⟩
  ·by_cases h2:x=oa i
   ·rw [h2];exact lh.live
   ·obtain ⟨o,q⟩:=q;exact ⟨o,keep x o q h1 h2⟩
 have mv:∀ {j:Nat} {l₀:List V},j≠i→(σ[j]?=some (.own l₀)∨σ[j]?=some (.bor l₀))→oa j≠tabA→ListHas h (vz c fl σ oa h) (oa j) l₀→ListHas h' (vz c fl (σ.set i (obS b l')) oa h') (oa j) l₀:=fun hj q t a=>by
  rw [vz_set e];exact a.mono (fun o z=>keep _ o z t fun y=>hj (S.dis _ i _ l q (ob_of e) y)) le
 refine ⟨⟨gi,S.lg,S.lt,fun x q=>liveN x (S.flt x q),by rw [List.length_set];exact S.len,?_,fun j l₀ q=>?_,fun j l₀ q=>?_,fun j j' lj lj' q q' z=>?_⟩,⟨fun x o q k1 k2 k3=>keep x o q k1 fun z=>k3 (z▸ow),fun x q _=>(own_set e).mp q,live,gr⟩⟩
 ·refine x1a2 S.ns fun m N B=>?_
  refine ⟨m,N.at' fun o q=>keep _ o q S.lt (Ne.symm O.nL),fun j x sl a z=>?_⟩
  show Bd c h' (vz c fl (σ.set i (obS b l')) oa h') m oa j x sl
  rw [vz_set e]
  by_cases hj:j=i
  ·subst hj
   rw [self] at z
   cases z
   have:=B j x _ a e
   cases b <;> exact this
  ·rw [other hj] at z
   exact (B j x sl a z).move rfl rfl (fun b o v e d=>keep b o e (fun z=>by obtain ⟨ps,e2⟩:=S.gi.tab;rw [z,e2] at e;cases e;cases d) fun z=>by
    refine x2a2 O.has.has fun items n e2 _=>?_
    rw [z,e2] at e;cases e;cases d) le
 ·by_cases hj:j=i
  ·subst hj
   rw [self] at q
   cases b with
   | false=>cases q
   | true=>cases q;exact ⟨(S.own j l e).1,O.nL,O.nT,O.g0,by rw [← vz_set (l':=l') e] at lh;exact lh⟩
  ·rw [other hj] at q
   have:=S.own j l₀ q
   exact ⟨this.1,this.2.1,this.2.2.1,this.2.2.2.1,mv hj (.inl q) this.2.2.1 this.2.2.2.2⟩
 ·by_cases hj:j=i
  ·subst hj
   rw [self] at q
   cases b with
   | true=>cases q
   | false=>cases q;exact ⟨(S.bor j l e).1,O.nL,O.nT,O.g0,by rw [← vz_set (l':=l') e] at lh;exact lh⟩
  ·rw [other hj] at q
   have:=S.bor j l₀ q
   exact ⟨this.1,this.2.1,this.2.2.1,this.2.2.2.1,mv hj (.inr q) this.2.2.1 this.2.2.2.2⟩
 ·obtain ⟨l₁,q⟩:=(ob_set e).mp ⟨_,q⟩
  obtain ⟨l₂,q'⟩:=(ob_set e).mp ⟨_,q'⟩
  exact S.dis j j' l₁ l₂ q q' z
theorem callB_core (C:Cs k w A Γ K dep c){i:Nat}{ar:Es}{y:Str}{yp pos:Pos}{as:List Expr}(ha:as.all plX=true)(hs:SEs w A Γ c ar as)(hy:k.isL i y=true){b:Bool}{l:List V}{vf:V}{fv:Value}{Q:V→Sg→Prop}{s₀:Shared}{σ₀:Sg}
  (g₀:Go c fl σ₀ oa s₀ σ oa s) (r₀:VR (vz c fl σ oa s.heap) vf fv) (e:σ[i]?=some (obS b l)) (q:WEs Γ ar σ fun vs τ=>τ=σ∧Γ.useB vf l vs fun r l'=>Q r (σ.set i (obS b l'))) :
  wpAny (model PG w) A (eval (.Name y yp) c.env) (fun v s₂=>wpAny (model PG w) A (spliced (backTo pos (starEach as c.env))) (fun vs s₃=>KeepOK w fv s₃.heap∧wpAny (model PG w) A (call fv ([]++(v::vs))) (PE c fl σ₀ oa s₀ Q) Ed s₃) Ed s₂) Ed s:=by
 refine an3 (isL_of C.L hy) fun y1 y2 y3=>?_
 refine x1a2 g₀.st.ns fun m N B=>?_
 have hb:m y=some (.ref (oa i)):=by
  have:=B i y _ y1 e
  cases b <;> exact this.2
 refine name_at C.L.kind N (.inl ⟨y2,hb⟩) y3 (hs.to g₀.st q fun vs xs s₂ σ₂ q₂ g₂ r₂ _=>?_)
 obtain ⟨rfl,u⟩:=q₂
 cases vf with
 | ref a =>
  refine x1a2 u fun SB es u=>?_
  obtain ⟨kp,M⟩:=C.R.fb _ SB es
  refine ⟨keep_ref C.R.gr.X g₂.st.gi r₀ kp,?_⟩
  cases r₀.ref_inv
  have O:=g₂.st.ob e
  refine wpAny_mono (M c.g0 C.R.gr A s₂ _ (oa i) l vs xs _ C.R.hd C.R.un C.R.dp g₂.st.gi g₂.st.hliveN (.inr (.inl rfl)) (.inr (.inr (.inl ⟨i,l,ob_of e,rfl⟩))) O.nT O.g0 O.has r₂ u) (fun r s₃ p=>?_) fun _ _ z=>z
  refine x2a7 p fun v l' q₃ f₃ k₃ gr₃ g₃ r₃ lh=>?_;clear p
  obtain ⟨S₃,e₃⟩:=g₂.st.turn e k₃ gr₃ g₃ lh
  exact ⟨v,_,q₃,(g₀.trans g₂).trans ⟨f₃,S₃,e₃⟩,by rw [vz_set e];exact r₃⟩
 | _=>exact u.elim
theorem se_callB (C:Cs k w A Γ K dep c){f:E}{i:Nat}{ar:Es}{x y:Str}{p yp pos:Pos}{as:List Expr}(hy:k.isL i y=true)(ha:as.all plX=true)(hf:SE w A Γ c f (.Name x p))(hs:SEs w A Γ c ar as):SE w A Γ c (.callB f i ar) (.Call (.Name x p) (.Name y yp::as) [] pos):=fun fl σ oa s Q S q =>
 wpAny_Call_NameR (hf.to S (e_callB.mp q) fun vf fv s₁ σ₁ q₁ g₁ r₁=>callWith_of (P:=KeepOK w fv) (by
   rw [star_any (show (Expr.Name y yp::as).all plX=true from ha)];rfl) (fun _ z=>z) (by
  rw [stC (a:=.Name y yp) rfl]
  refine evalArgs_plain (spliced_cons ?_)
  exact onS_inv q₁ (fun _ _ z=>z.elim) (fun l e q=>callB_core (b:=true) C ha hs hy g₁ r₁ e q) fun l e q=>callB_core (b:=false) C ha hs hy g₁ r₁ e q))
end
end
section
section
variable {w:World}{A:Around}{s:Shared}{K:Frag}{Γ:Gam}{G:List (String×V)}{k:Ck}{dep:Nat}{c:Cx}{fl:Addr→Prop}{σ:Sg}{oa:Nat→Addr}
theorem callWith_b {pos:Pos}{id:String}{args:List (Bool×Sem Value)}{Q:Value→Shared→Prop}(hp:args.any (·.1)=false)(h:wpAny (model PG w) A (evalArgs (.builtin id) true args []) (fun a s₁=>wpAny (model PG w) A (call (.builtin id) ([]++a.pos) a.kw) Q Ed s₁) Ed s) :
  wpAny (model PG w) A (callWith pos (.builtin id) [] args []) Q Ed s:=callWith_builtin hp h
theorem sizeMax_eq:sMx=1048576:=rfl
theorem size_ok {xs:List Value}(h:xs.length≤sMx):xs.toArray.size≤sizeLine:=by rw [List.size_toArray,sizeLine_eq];exact Nat.le_trans h (by decide)
theorem se_lenL (C:Cs k w A Γ K dep c){i:Nat}{x y:Str}{p yp pos:Pos}(h1:k.isGlob "len" x=true)(h2:k.isLoc i y=true):SE w A Γ c (.lenL i) (.Call (.Name x p) [.Name y yp] [] pos):=fun fl σ oa s Q S q=>by
 refine an3 (isLoc_of C.L h2) fun y1 y2 y3=>?_
 refine list_after S y1 (e_len.mp q) fun l m a q N nm aft=>?_
 refine x2a3 (aft _ S (.refl ..)) fun items n g hs r=>?_
 refine wpAny_Call_NameR (blt_at (v:=.builtin "len") C S h1 (by decide) ?_)
 refine callWith_b rfl (evalArgs_plain (spliced_cons (name_at C.L.kind N nm y3 (spliced_nil ?_))))
 refine call_len_list (isList_of g) (by rw [List.size_toArray];have:=sizeMax_eq;exact F2 [_,_] [] 129719688294659281669625708323624974544955133411424 hs this) (PE.now (.refl S) q ?_)
 rw [List.size_toArray,r.length]
 exact .int _ _
theorem se_max2 (C:Cs k w A Γ K dep c){l r:E}{l' r':Expr}{x:Str}{p pos:Pos}(h1:k.isGlob "max" x=true)(pl:plX l'=true)(pr:plX r'=true)(hl:SE w A Γ c l l')(hr:SE w A Γ c r r'):SE w A Γ c (.max2 l r) (.Call (.Name x p) [l',r'] [] pos):=fun fl σ oa s Q S q =>
 wpAny_Call_NameR (blt_at (v:=.builtin "max") C S h1 (by decide) (by
  rw [stC pl,stC pr]
  exact callWith_b rfl (evalArgs_plain (spliced_cons (hl.to S (e_max.mp q) fun va x s₁ σ₁ q₁ g₁ r₁=>spliced_cons (hr.to g₁.st q₁ fun vb y s₂ σ₂ q₂ g₂ r₂=>spliced_nil (by
   refine x1a2 (onI_inv q₂) fun i zq1 q₃=>?_;subst zq1
   refine x1a2 (onI_inv q₃) fun j zq1 q₄=>?_;subst zq1
   obtain ⟨_,rfl⟩:=r₁.int_inv
   obtain ⟨_,rfl⟩:=r₂.int_inv
   refine max_two_ints C.R.hd fun h' tk kp=>?_
   have fin:∀ (t:Tok),PE c fl σ oa s Q (.int (max i j) t) { s₂ with heap:=h',toks:=tk }:=fun t=>⟨_,σ₂,q₄,(g₁.trans g₂).ext (.of kp) (g₂.st.gi.keep fun b o e _=>kp b o e) _,.int _ _⟩
   split
   ·rename_i hc;rw [show max i j=j from Int.max_eq_right (by exact F1 [] [_,_] 23383338096 hc)] at fin;exact fin _
   ·rename_i hc;rw [show max i j=i from Int.max_eq_left (by exact F1 [] [_,_] 1495477349488 hc)] at fin;exact fin _)))))))
theorem se_min2 (C:Cs k w A Γ K dep c){l r:E}{l' r':Expr}{x:Str}{p pos:Pos}(h1:k.isGlob "min" x=true)(pl:plX l'=true)(pr:plX r'=true)(hl:SE w A Γ c l l')(hr:SE w A Γ c r r'):SE w A Γ c (.min2 l r) (.Call (.Name x p) [l',r'] [] pos):=fun fl σ oa s Q S q =>
 wpAny_Call_NameR (blt_at (v:=.builtin "min") C S h1 (by decide) (by
  rw [stC pl,stC pr]
  exact callWith_b rfl (evalArgs_plain (spliced_cons (hl.to S (e_min.mp q) fun va x s₁ σ₁ q₁ g₁ r₁=>spliced_cons (hr.to g₁.st q₁ fun vb y s₂ σ₂ q₂ g₂ r₂=>spliced_nil (by
   refine x1a2 (onI_inv q₂) fun i zq1 q₃=>?_;subst zq1
   refine x1a2 (onI_inv q₃) fun j zq1 q₄=>?_;subst zq1
   obtain ⟨_,rfl⟩:=r₁.int_inv
   obtain ⟨_,rfl⟩:=r₂.int_inv
   refine min_two_ints C.R.hd fun h' tk kp=>?_
   have fin:∀ (t:Tok),PE c fl σ oa s Q (.int (min i j) t) { s₂ with heap:=h',toks:=tk }:=fun t=>⟨_,σ₂,q₄,(g₁.trans g₂).ext (.of kp) (g₂.st.gi.keep fun b o e _=>kp b o e) _,.int _ _⟩
   split
   ·rename_i hc;rw [show min i j=j from Int.min_eq_right (by exact F1 [] [_,_] 23383338096 hc)] at fin;exact fin _
   ·rename_i hc;rw [show min i j=i from Int.min_eq_left (by exact F1 [] [_,_] 1495477349488 hc)] at fin;exact fin _)))))))
theorem bits_eq (i:Int):(Builtin.Int.intBits i:Int)=if i=0 then 0 else (i.natAbs.log2:Int)+1:=by
 unfold Builtin.Int.intBits
 by_cases hz:i=0
 ·subst hz;rfl
 ·simp [hz]
noncomputable def bitB (a:Expr):Bool:=Nat.beq a.ctorIdx 21 || Nat.beq a.ctorIdx 2
theorem attrBase {o:Expr}{n:Str}{env:Env}:bitB o=true→attributeBase o n env (eval o env)=eval o env:=by
 cases o <;> first | exact fun _=>rfl | exact fun h=>nomatch h
theorem se_bitlen {e:E}{o:Expr}{ap p:Pos}(h2:ap.endLine=p.line)(h3:bitB o=true)(he:SE w A Γ c e o):SE w A Γ c (.bitlen e) (.Call (.Attribute o ("bit_length" : Str) ap) [] [] p):=fun fl σ oa s Q S q =>
 Call_method0 (attrBase h3) (by rw [h2];exact beq_self_eq_true _) (he.to S (e_bits.mp q) fun v x s₁ σ₁ q₁ g₁ r₁=>by
  refine x1a2 (onI_inv q₁) fun i zq1 q₂=>?_;subst zq1
  obtain ⟨t,rfl⟩:=r₁.int_inv
  refine ⟨"int","int.bit_length",PySem.F.plainAttrs_int,slot_int_bit_length,type_int_bit_length,typeIs_int _ _ _,(fun a z=>by cases z),?_⟩
  refine callWith_builtin rfl (evalArgs_nil3 (call_int_bit_length (PE.now g₁ q₂.2.2 ?_)))
  rw [bits_eq]
  exact .int _ _)
theorem instOf {h:Heap}{x d:Addr}{es:List DictEntry}{n:Nat}(g:h.get? x=some (instObj clsMont d))(gd:h.get? d=some (dictOf es n)):InstAt h x (instObj clsMont d) clsMont (some (dictOf es n)):=⟨g,rfl,rfl,gd⟩
theorem attr_inv {m mi o sq:V}{n:String}{q:V→Prop}{R:Prop}(h:attrP (.mont m mi o sq) n q)(a:n = "modulus" → q m→R)(b:n = "minus" → q mi→R)(c:n = "one" → q o→R)(d:n = "square" → q sq→R):R:=by
 have h:if n = "modulus" then q m else if n = "minus" then q mi else if n = "one" then q o else if n = "square" then q sq else False:=h
 by_cases h1:n = "modulus"
 ·rw [if_pos h1] at h;exact a h1 h
 rw [if_neg h1] at h
 by_cases h2:n = "minus"
 ·rw [if_pos h2] at h;exact b h2 h
 rw [if_neg h2] at h
 by_cases h3:n = "one"
 ·rw [if_pos h3] at h;exact c h3 h
 rw [if_neg h3] at h
 by_cases h4:n = "square"
 ·rw [if_pos h4] at h;exact d h4 h
 rw [if_neg h4] at h
 exact h.elim
theorem se_attr (C:Cs k w A Γ K dep c){i:Nat}{n:String}{x:Str}{xp p:Pos}(h1:k.isLoc i x=true)(h2:n∈["modulus","minus","one","square"]):SE w A Γ c (.attr i n) (.Attribute (.Name x xp) (Str.ofString n) p):=fun fl σ oa s Q S q=>by
 refine an3 (isLoc_of C.L h1) fun y1 y2 y3=>?_
 refine x1a2 S.ns fun m N B=>?_
 refine onS_inv (e_attr.mp q) (fun v e q=>?_) (fun _ _ z=>z.elim) fun _ _ z=>z.elim
 refine x1a2 (B i _ _ y1 e) fun y nm r=>?_
 refine Attribute_name (name_at C.L.kind N nm y3 ?_)
 cases v with
 | mont m mi o sq =>
  refine x5a6 r fun xa vm vmi vo vsq zq5 M r1 r2 r3 r4=>?_;clear r;subst zq5
  refine x3a6 M.ex fun d es nn g gd g1 g2 g3 g4=>?_
  refine an3 (C.R.att n h2) fun a1 a2 a3=>?_
  have go:∀ {u:V} {vu:Value},getL (Str.ofString n) es=some (some vu)→Q u σ→VR (vz c fl σ oa s.heap) u vu→wpAny (model PG w) A (getAttr (.ref xa) (Str.ofString n) true) (PE c fl σ oa s Q) Ed s:=fun {u vu} hl hq hr =>
   get_value (C.R.gr.X.keeps S.gi.1) (instOf g.2 gd.2) (plainGet_of a1).1 (findObj_own a2 a3 rfl hl) (by
    rcases hr.kind with ⟨_,rfl⟩ | ⟨_,⟨_,rfl⟩ | ⟨_,_,rfl⟩ | ⟨_,rfl⟩⟩ <;> rfl) (PE.now (.refl S) hq hr)
  exact attr_inv q (fun e q=>go (e▸g1) q r1) (fun e q=>go (e▸g2) q r2) (fun e q=>go (e▸g3) q r3) fun e q=>go (e▸g4) q r4
 | _=>exact q.elim
theorem tail_rule {value slice:Expr}{o i:Value}{T id:String}{Q:Value→Shared→Prop}(hp:plX slice=true)(hT:s.TypeIs o T)
  (hl:typeLookup (.type T) "__getitem__" = pure (some (.builtin id))) (h:wpAny (model PG w) A (getItem o i) Q Ed s):wpAny (model PG w) A (subscriptTail value slice o i) Q Ed s:=by
 unfold subscriptTail
 refine wpAny_bind ?_
 rw [getitemInPython_of_ne hT.not_modules]
 refine wpAny_bind (wpAny_specialOf hT hl ?_)
 have fin:wpAny (model PG w) A (subscripted slice false o i) (fun r s₃=>wpAny (model PG w) A (letTemporaryGo value o r >>= fun _=>pure r) Q Ed s₃) Ed s:=by
  rw [(plain_of hp).sub]
  exact wpAny_operating (wpAny_mono h (fun r s₃ h₃=>wpAny_bind (wpAny_letTemporaryGo (wpAny_pure h₃))) fun _ _ x=>x)
 first
  | exact wpAny_pure (wpAny_bind fin)
  | exact wpAny_bind (wpAny_pure (wpAny_bind fin))
  | exact wpAny_bind fin
theorem list_item {a:Addr}{items:List Value}{n:Nat}{l:List V}{g:Vis}{i:Int}{t:Tok}{v:V}{Q:Value→Shared→Prop}(e:s.heap.get? a=some (listOf items.toArray n))(hs:items.length≤sMx)(r:VRs g l items)
  (hv:pyIdx l i=some v) (q:∀ y,VR g v y→Q y s):wpAny (model PG w) A (getItem (.ref a) (.int i t)) Q Ed s:=by
 have hl:l.length=items.length:=r.length
 have hm:=sizeMax_eq
 unfold pyIdx at hv
 by_cases h0:0≤i
 ·rw [if_pos h0] at hv
  refine x1a2 (r.get hv) fun y e2 ry=>?_
  have hi:i.toNat<items.length:=(List.getElem?_eq_some_iff.mp e2).1
  exact wpAny_getItem_list (isList_of e) h0 (by exact F4 [_,_,_] [_] 8914269101966010019742315112575754132070428926441426192222256 hs hm hi (iSt _)) (by simpa using e2) (q y ry)
 ·rw [if_neg h0] at hv
  by_cases h1:-(l.length:Int)≤i
  ·rw [if_pos h1] at hv
   refine x1a2 (r.get hv) fun y e2 ry=>?_
   rw [hl] at e2 h1
   exact wpAny_getItem_list_neg (isList_of e) (by exact F1 [] [_] 1518009146373 h0) (by rw [List.size_toArray];exact h1) (by exact F3 [_,_] [_] 136550240513842560554153913887265674901383698779619490591520 hs hm h1) (by rw [List.size_toArray];simpa using e2) (q y ry)
  ·rw [if_neg h1] at hv;cases hv
theorem se_sub {e i:E}{e' i':Expr}{p:Pos}(hp:plX i'=true)(he:SE w A Γ c e e')(hi:SE w A Γ c i i'):SE w A Γ c (.sub e i) (.Subscript e' i' p):=fun fl σ oa s Q S q =>
 Subscript_ (he.to S (e_sub.mp q) fun vo x s₁ σ₁ q₁ g₁ r₁=>hi.to g₁.st q₁ fun vi y s₂ σ₂ q₂ g₂ r₂=>by
  refine x1a2 (onI_inv q₂) fun z zq1 q₃=>?_;subst zq1
  obtain ⟨t,rfl⟩:=r₂.int_inv
  have r₁':=r₁.mono g₂.le
  cases vo with
  | lst l =>
   refine x1a2 q₃ fun v hv qv=>?_;clear q₃
   refine x3a4 (VR.lst_inv r₁') fun a items n zq3 g hs r=>?_;subst zq3
   exact tail_rule hp (isList_of g.2).typeIs slot_list_getitem.lookup (list_item g.2 hs r hv fun y ry=>PE.now' (g₁.trans g₂) qv ry)
  | tup l =>
   refine an2 q₃ fun h0 zr0=>x1a2 zr0 fun v hv qv=>?_;clear q₃ zr0
   refine x2a4 (VR.tup_inv r₁') fun a items zq2 g hs r=>?_;subst zq2
   refine x1a2 (r.get hv) fun y e2 ry=>?_
   have hi:_<_:=(List.getElem?_eq_some_iff.mp e2).1
   have hm:=sizeMax_eq
   exact tail_rule (T := "tuple") hp ⟨_,g.2,rfl⟩ slot_tuple_getitem.lookup (getItem_tuple (show IsTup s₂.heap a items.toArray from ⟨_,g.2,rfl,0,rfl⟩) (by exact F1 [] [_] 451806846370014182901336304739769349 h0) (by exact F4 [_,_,_] [_] 8914269101966010019742315112575676131724606699957609550891056 hs hi hm (iSt _)) (seqIndex_of h0 (by rw [List.size_toArray];exact F2 [_,_] [_] 25589946936854890544 hi (iSt _))) (by simpa using e2) (PE.now' (g₁.trans g₂) qv ry))
  | _=>exact q₃.elim)
theorem se_subL (C:Cs k w A Γ K dep c){i:Nat}{e:E}{x:Str}{e':Expr}{xp p:Pos}(h1:k.isLoc i x=true)(hp:plX e'=true)(he:SE w A Γ c e e'):SE w A Γ c (.subL i e) (.Subscript (.Name x xp) e' p):=fun fl σ oa s Q S q =>
 list_after S (isLoc_of C.L h1).1 (e_subL.mp q) fun l m a q N nm aft=>Subscript_ (name_at C.L.kind N nm (isLoc_of C.L h1).2.2 (he.to S q fun vi y s₂ σ₂ q₂ g₂ r₂=>by
  obtain ⟨rfl,q₃⟩:=q₂
  refine x1a2 (onI_inv q₃) fun z zq1 zr0=>x1a2 zr0 fun v hv qv=>?_;subst zq1
  obtain ⟨t,rfl⟩:=r₂.int_inv
  refine x2a3 (aft _ g₂.st g₂.ev) fun items n g hs r=>?_
  exact tail_rule hp (isList_of g).typeIs slot_list_getitem.lookup (list_item g hs r hv fun y ry=>PE.now' g₂ qv ry)))
theorem GI.dead {g0 h:Heap}{a:Addr}(gi:GI g0 h)(d:h.get? a=none):g0.get? a=none:=by
 cases e:g0.get? a with
 | none=>rfl
 | some o=>rw [gi.1 a o e] at d;cases d
theorem vis_push {h:Heap}{H:Addr→Prop}(o:Obj):Le (vis h H) (vis (h.push o) H):=fun b o' k=>⟨k.1,Heap.get?_push_of_some _ k.2⟩
theorem vis_pushH {h:Heap}{o:Obj}:Le (vz c fl σ oa h) (vz c (fun b=>b=h.objs.size∨fl b) σ oa (h.push o)):=fun b o' k=>by
 refine ⟨fun q=>k.1 ?_,Heap.get?_push_of_some _ k.2⟩
 rcases q with q | q | q | q | q
 ·exact .inl q
 ·exact .inr (.inl q)
 ·exact .inr (.inr (.inl q))
 ·have:=k.2;rw [q,dead_size] at this;cases this
 ·exact .inr (.inr (.inr q))
theorem Ev.dead {L:Addr}{σ':Sg}{oa':Nat→Addr}{h h':Heap}{a:Addr}(e:Ev L σ oa h σ' oa' h')(d:h'.get? a=none):h.get? a=none:=by
 cases q:h.get? a with
 | none=>rfl
 | some o=>obtain ⟨o',z⟩:=e.live a ⟨o,q⟩;rw [z] at d;cases d
theorem PF.make {σ':Sg}{s':Shared}{Q:List V→Sg→Prop}{l:List V}{items:List Value}{tk:Nat}(g:Go c fl σ oa s σ' oa s')(q:Q l σ')(hs:items.length≤sMx)
  (r:VRs (vz c fl σ' oa s'.heap) l items):PF c fl σ oa s Q (.ref s'.heap.objs.size) { s' with heap:=s'.heap.push (listOf items.toArray 0),toks:=tk } :=
 ⟨l,σ',_,q,rfl,g.push _ _,g.ev.dead (dead_size _),g.st.gi.dead (dead_size _),g.st.pushH _ nr_list,⟨items,0,Heap.get?_push_size _ rfl,hs,r.mono vis_pushH⟩⟩
theorem nid {h:Heap}(S:St c fl σ oa h):¬Hid c.L fl σ oa h.objs.size:=fun z=>dead_ne (dead_size h) (S.hlive _ z) rfl
theorem se_tup {es:Es}{as:List Expr}{n:Nat}{p:Pos}(hn:as.length≤1000)(he:SEs w A Γ c es as):SE w A Γ c (.tup es) (.Tuple as n p):=fun fl σ oa s Q S q =>
 Tuple_ (he.to S (e_tup.mp q) fun vs xs s₁ σ₁ q₁ g₁ r₁ l₁=>by
  have hs:xs.length≤sMx:=by rw [l₁,sizeMax_eq];exact F1 [_] [] 5156824200426168065728608 hn
  refine wpAny_newObj_type ?_ (size_ok hs)
  exact ⟨_,σ₁,q₁,g₁.push _ _,.tup ⟨nid g₁.st,Heap.get?_push_size _ rfl⟩ hs (r₁.mono (vis_push _))⟩)
theorem sf_disp {es:Es}{as:List Expr}{p:Pos}(hn:as.length≤1000)(he:SEs w A Γ c es as):SF w A Γ c (.disp es) (.List as p):=fun fl σ oa s Q S q =>
 List_ (he.to S (f_disp.mp q) fun vs xs s₁ σ₁ q₁ g₁ r₁ l₁=>by
  have hs:xs.length≤sMx:=by rw [l₁,sizeMax_eq];exact F1 [_] [] 5156824200426168065728608 hn
  exact wpAny_newObj_type (PF.make g₁ q₁ hs r₁) (size_ok hs))
theorem New.ne {h h':Heap}{σ':Sg}{a:Addr}{l:List V}(S:St c fl σ oa h)(n:New c fl h σ' oa h' a l):a≠c.L∧a≠tabA∧¬fl a:=by
 refine ⟨fun z=>?_,fun z=>?_,fun z=>?_⟩
 ·refine x1a2 S.ns fun m N _=>?_;obtain ⟨o,z'⟩:=ns_live N;rw [← z,n.d] at z';cases z'
 ·obtain ⟨ps,z'⟩:=S.gi.tab;rw [← z,n.d] at z';cases z'
 ·refine x1a2 (S.flt _ z) fun o z' _=>?_;rw [n.d] at z';cases z'
theorem New.no {h h':Heap}{σ':Sg}{a:Addr}{l:List V}(S:St c fl σ oa h)(S':St c fl σ' oa h')(n:New c fl h σ' oa h' a l):¬OwnA σ' oa a:=fun ⟨i,l',z,y⟩=>by
 rcases z with z | z
 ·exact (n.st.own i l' z).1 (.inl y)
 ·exact (n.ne S).2.2 (y▸(S'.bor i l' z).1)
theorem se_fresh {f:F}{a:Expr}(hf:SF w A Γ c f a):SE w A Γ c (.fresh f) a:=fun fl σ oa s Q S q=>hf.to S (e_fresh.mp q) fun l b s₁ σ₁ q₁ g₁ n=>by
 obtain ⟨items,m,g,hs,r⟩:=n.lh
 have ne:=n.ne S
 refine ⟨_,σ₁,q₁,g₁,.lst ⟨fun z=>?_,g⟩ hs (r.mono fun b o k=>⟨fun z=>k.1 ?_,k.2⟩)⟩
 ·rcases z with z | z | z | z
  ·exact ne.1 z
  ·exact ne.2.1 z
  ·exact n.no S g₁.st z
  ·exact ne.2.2 z
 ·rcases z with z | z | z | z
  ·exact .inl z
  ·exact .inr (.inl z)
  ·exact .inr (.inr (.inl z))
  ·exact .inr (.inr (.inr (.inr z)))
theorem flat_rep (v:Value):∀ n,(List.foldl (fun x1 x2=>x1++x2) #[] (List.replicate n #[v]))=(List.replicate n v).toArray:=by
 have gen:∀ n (acc:Array Value),List.foldl (fun x1 x2=>x1++x2) acc (List.replicate n #[v])=acc++(List.replicate n v).toArray:=by
  intro n
  induction n with
  | zero=>intro acc;simp
  | succ n ih =>
   intro acc
   rw [List.replicate_succ,List.foldl_cons,ih,List.replicate_succ]
   apply Array.ext'
   simp
 intro n
 rw [gen];simp
theorem rep_rule {l:Addr}{v:Value}{x:Int}{u:Tok}{n:Nat}{Q:Value→Shared→Prop}(hl:s.heap.get? l=some (listOf [v].toArray n))(hx:x≤1000)(hlo:-(2^63:Int)≤x)
  (h:Q (.ref s.heap.objs.size) { s with heap:=s.heap.push (listOf (List.replicate x.toNat v).toArray 0) }):wpAny (model PG w) A (binaryOp .Mult (.ref l) (.int x u)) Q Ed s:=by
 refine wpAny_binaryOp_repeat_ref (T := "list") (U := "int") (by decide) ⟨_,hl,rfl⟩ (fun s'=>typeIs_int s' x u) noFill_list_mul F.fills_int_mul F.slot_int_rmul repeat_list F.slot_int_index.lookup
  (call_meets F.slot_int_rmul (typeIs_int s x u) F.entry_int_rmul (F.args_int_rmul_2 _ _) (int___rmul___int_list x u l [v].toArray n)
   ⟨hl,rfl,⟨_,hl,rfl⟩,call_meets F.slot_list_mul ⟨_,hl,rfl⟩ F.entry_list_mul (F.args_list_mul_2 _ _)
    (AutoListH.list___mul___list_int_3 l [v].toArray n x u (by simp [Builtin.List.listFitsIndex];exact ⟨hlo,F1 [] [_] 120810874080899433856481414747181027434608 hx⟩) (by simp;exact F1 [] [_] 1803762390280130839529493897318380871792 hx) (by simp [Builtin.List.listTooLong,sizeLine];exact F1 [] [_] 1678666036084180052860020465776 hx))
    ⟨hl,?_⟩⟩)
 have e:(List.foldl (fun x1 x2=>x1++x2) #[] (List.replicate (if [v].toArray.isEmpty=true then 0 else x.toNat) [v].toArray))=(List.replicate x.toNat v).toArray:=flat_rep v _
 rw [e];exact h
theorem sf_rep {e n:E}{e' n':Expr}{p p':Pos}(hp:plX e'=true)(he:SE w A Γ c e e')(hn:SE w A Γ c n n'):SF w A Γ c (.rep e n) (.BinOp (.List [e'] p) .Mult n' p'):=fun fl σ oa s Q S q=>wpAny_BinOp (List_ (by
 rw [stC hp]
 refine spliced_cons (he.to S (f_rep.mp q) fun v x s₁ σ₁ q₁ g₁ r₁=>spliced_nil (wpAny_newObj_type ?_ (by show (1:Nat)≤sizeLine;rw [sizeLine_eq];decide)))
 have gp:=(Go.refl g₁.st).push (listOf [x].toArray 0) s₁.toks
 refine hn.to gp.st q₁ fun vn y s₃ σ₃ q₃ g₃ r₃=>?_
 have dl:∀ b,Live s₁.heap b→s₁.heap.objs.size≠b:=fun b z y=>dead_ne (dead_size _) z y.symm
 have e₃:s₃.heap.get? s₁.heap.objs.size=some (listOf [x].toArray 0):=g₃.ev.keep _ _ (Heap.get?_push_size _ rfl) (dl _ (g₁.st.hlive _ (.inr (.inl rfl)))) (dl _ (g₁.st.hlive _ (.inl rfl))) fun z=>dl _ (g₁.st.hlive _ (.inr (.inr (.inl z)))) rfl
 refine x1a3 (onI_inv q₃) fun i zq1 zn2 q₄=>an2 zn2 fun b1 b2=>?_;clear zn2;subst zq1
 obtain ⟨t,rfl⟩:=r₃.int_inv
 exact rep_rule e₃ b2 (Int.le_trans (by decide) b1) (PF.make ((g₁.trans gp).trans g₃) q₄ (by rw [List.length_replicate,sizeMax_eq];lia) (.replicate (r₁.mono fun b o z=>g₃.le _ _ (gp.le _ _ z)) _))))
theorem sf_cat {l r:E}{l' r':Expr}{p:Pos}(hl:SE w A Γ c l l')(hr:SE w A Γ c r r'):SF w A Γ c (.cat l r) (.BinOp l' .Add r' p):=fun fl σ oa s Q S q =>
 wpAny_BinOp (hl.to S (f_cat.mp q) fun va x s₁ σ₁ q₁ g₁ r₁=>hr.to g₁.st q₁ fun vb y s₂ σ₂ q₂ g₂ r₂=>by
  refine x1a2 (onL_inv q₂) fun xs zq1 q₃=>?_;subst zq1
  refine x1a3 (onL_inv q₃) fun ys zq1 hn q₄=>?_;subst zq1
  refine x3a4 (VR.lst_inv (r₁.mono g₂.le)) fun a items n zq3 g hs r=>?_;subst zq3
  refine x3a4 (VR.lst_inv r₂) fun a' items' n' zq3 g' hs' r'=>?_;subst zq3
  rw [List.length_append,r.length,r'.length,← List.length_append] at hn
  refine P.add_list g.2 g'.2 ?_ (by rw [List.size_toArray,List.size_toArray,← List.length_append,sizeLine_eq];exact Nat.le_trans hn (by decide))
  rw [List.append_toArray]
  exact PF.make (g₁.trans g₂) q₄ hn (r'.append r))
theorem VRs.cut {g:Vis}{l:List V}{items:List Value}(r:VRs g l items)(lo hi:Option Int):VRs g (cutL l lo hi) ((items.drop (lo.elim 0 (clipAt items.length))).take (hi.elim items.length (clipAt items.length)-lo.elim 0 (clipAt items.length))):=by
 unfold cutL
 rw [r.length]
 exact (r.drop _).take _
theorem part_of {g:Vis}{v:V}{x:Value}{o:Option Int}(r:VR g v x)(h:bnd v=some o):IsPart x o:=by
 cases v with
 | none=>cases h;cases r.none_inv;exact .none
 | int i=>cases h;obtain ⟨t,rfl⟩:=r.int_inv;exact .int _ _
 | _=>cases h
def SP (w:World)(A:Around)(Γ:Gam)(c:Cx)(e:E)(a:Option Expr):Prop:=∀ (fl:Addr→Prop) (σ:Sg) (oa:Nat→Addr) (s:Shared) (Q:V→Sg→Prop),
 St c fl σ oa s.heap→WE Γ e σ Q→wpAny (model PG w) A (evalPart a c.env) (PE c fl σ oa s Q) Ed s
theorem SP.to {e:E}{a:Option Expr}(h:SP w A Γ c e a){Q:V→Sg→Prop}(S:St c fl σ oa s.heap)(q:WE Γ e σ Q){R:Value→Shared→Prop}
  (k:∀ v x s₁ σ₁,Q v σ₁→Go c fl σ oa s σ₁ oa s₁→VR (vz c fl σ₁ oa s₁.heap) v x→R x s₁):wpAny (model PG w) A (evalPart a c.env) R Ed s :=
 wpAny_mono (h fl σ oa s Q S q) (fun x s₁ p=>by refine x2a3 p fun v σ₁ q₁ g₁ r₁=>?_;clear p;exact k v x s₁ σ₁ q₁ g₁ r₁) fun _ _ z=>z
theorem sp_none:SP w A Γ c (.cst .none) none:=fun fl σ oa s Q S q=>by
 rw [evalPart_none]
 exact wpAny_pure (PE.now' (.refl S) q .none)
theorem sf_slice (C:Cs k w A Γ K dep c){i:Nat}{x:Str}{xp sp pos:Pos}{lo hi:E}{lo' hi':Option Expr}(h1:k.isLoc i x=true)(pl:SP w A Γ c lo lo')(ph:SP w A Γ c hi hi'):SF w A Γ c (.sliceL i lo hi) (.Subscript (.Name x xp) (.Slice lo' hi' none sp) pos):=fun fl σ oa s Q S q =>
 list_after S (isLoc_of C.L h1).1 (f_cut.mp q) fun l m a q N nm aft=>wpAny_Subscript_list_slice (name_at C.L.kind N nm (isLoc_of C.L h1).2.2 (pl.to S q fun vl y s₁ σ₁ q₁ g₁ r₁=>ph.to g₁.st q₁ fun vh z s₂ σ₂ q₂ g₂ r₂=>by
  obtain ⟨rfl,q₃⟩:=q₂
  refine x1a2 (onO_inv q₃) fun o1 ho1 q₄=>?_
  refine x1a2 (onO_inv q₄) fun o2 ho2 q₅=>?_
  have g:=g₁.trans g₂
  refine x2a3 (aft _ g.st g.ev) fun items n gg hs r=>?_
  have gp:=(Go.refl g.st).push { cls:=Value.type "slice",data:=Data.fields #[y,z,Value.none] } s₂.toks
  refine ⟨a,items.toArray,o1,o2,rfl,isList_of gg,size_ok hs,part_of (r₁.mono g₂.le) ho1,part_of r₂ ho2,?_⟩
  rw [slicePick_plain]
  have:=PF.make (tk:=s₂.toks) (g.trans gp) q₅ (items:=(items.drop (o1.elim 0 (clipAt items.length))).take (o2.elim items.length (clipAt items.length)-o1.elim 0 (clipAt items.length)))
   (by rw [List.length_take,List.length_drop];exact F3 [_,_,_,_] [] 1295348280515585710176 hs (Nat.min_le_right _ _) sb0) ((r.mono gp.le).cut o1 o2)
  rw [show (s₂.heap.push { cls:=Value.type "slice",data:=Data.fields #[y,z,Value.none] }).objs.size=s₂.heap.objs.size+1 from Heap.size_push _ _] at this
  exact this))
end
end
section
noncomputable abbrev Ok (P:Prop):Type:=Option (PLift P)
noncomputable def ok {P:Prop}(h:P):Ok P:=some ⟨h⟩
noncomputable def Ok.to {P Q:Prop}(x:Ok P)(f:P→Ok Q):Ok Q:=Option.casesOn x none fun p=>f p.down
noncomputable def oif {P:Prop}(b:Bool)(f:b=true→Ok P):Ok P:=if h:b=true then f h else none
section
variable {α:Type}
noncomputable def on0 {M:List α→Type}(l:List α)(d:∀ l,M l)(k:M []):M l:=List.casesOn (motive:=M) l k fun a r=>d (a::r)
noncomputable def onC {M:List α→Type}(l:List α)(d:∀ l,M l)(k:∀ a r,M (a::r)):M l:=List.casesOn (motive:=M) l (d []) k
noncomputable def on1 {M:List α→Type}(l:List α)(d:∀ l,M l)(k:∀ a,M [a]):M l:=onC l d fun a r=>on0 (M:=fun r=>M (a::r)) r (fun r=>d (a::r)) (k a)
noncomputable def on2 {M:List α→Type}(l:List α)(d:∀ l,M l)(k:∀ a b,M [a,b]):M l:=onC l d fun a r=>on1 (M:=fun r=>M (a::r)) r (fun r=>d (a::r)) (k a)
noncomputable def on3 {M:List α→Type}(l:List α)(d:∀ l,M l)(k:∀ a b c,M [a,b,c]):M l:=onC l d fun a r=>on2 (M:=fun r=>M (a::r)) r (fun r=>d (a::r)) (k a)
end
section
variable {M:Expr→Type}(a:Expr)(d:∀ a,M a)
noncomputable def onBool (k:∀ o l p,M (.BoolOp o l p)):M a:=if h:a.ctorIdx=0 then Expr.BoolOp.elim a h k else d a
noncomputable def onBin (k:∀ l o r p,M (.BinOp l o r p)):M a:=if h:a.ctorIdx=2 then Expr.BinOp.elim a h k else d a
noncomputable def onUn (k:∀ o x p,M (.UnaryOp o x p)):M a:=if h:a.ctorIdx=3 then Expr.UnaryOp.elim a h k else d a
noncomputable def onIf (k:∀ x y z p,M (.IfExp x y z p)):M a:=if h:a.ctorIdx=5 then Expr.IfExp.elim a h k else d a
noncomputable def onCmp (k:∀ l o r p,M (.Compare l o r p)):M a:=if h:a.ctorIdx=15 then Expr.Compare.elim a h k else d a
noncomputable def onCall (k:∀ f l w p,M (.Call f l w p)):M a:=if h:a.ctorIdx=16 then Expr.Call.elim a h k else d a
noncomputable def onCst (k:∀ x n p,M (.Constant x n p)):M a:=if h:a.ctorIdx=19 then Expr.Constant.elim a h k else d a
noncomputable def onAttr (k:∀ x n p,M (.Attribute x n p)):M a:=if h:a.ctorIdx=20 then Expr.Attribute.elim a h k else d a
noncomputable def onItem (k:∀ x y p,M (.Subscript x y p)):M a:=if h:a.ctorIdx=21 then Expr.Subscript.elim a h k else d a
noncomputable def onName (k:∀ x p,M (.Name x p)):M a:=if h:a.ctorIdx=23 then Expr.Name.elim a h k else d a
noncomputable def onList (k:∀ l p,M (.List l p)):M a:=if h:a.ctorIdx=24 then Expr.List.elim a h k else d a
noncomputable def onTup (k:∀ l n p,M (.Tuple l n p)):M a:=if h:a.ctorIdx=25 then Expr.Tuple.elim a h k else d a
noncomputable def onCut (k:∀ x y z p,M (.Slice x y z p)):M a:=if h:a.ctorIdx=26 then Expr.Slice.elim a h k else d a
end
section
variable (k:Ck)
noncomputable abbrev RE (e:E):=∀ a,Ok (GoodE k e a)
noncomputable abbrev RF (f:F):=∀ a,Ok (GoodF k f a)
noncomputable abbrev REs (es:Es):=∀ as,Ok (GoodEs k es as)
noncomputable def kLoc (i:Nat):RE k (.loc i):=fun a=>onName (M:=fun a=>Ok (GoodE k (.loc i) a)) a (fun _=>none) fun x p=>oif (k.isLoc i x) fun h=>ok (.flat rfl rfl fun C=>se_loc C h)
noncomputable def kCst (v:V):RE k (.cst v):=fun a=>onCst (M:=fun a=>Ok (GoodE k (.cst v) a)) a (fun _=>none) fun x n p=>V.casesOn (motive_1:=fun v=>Ok (GoodE k (.cst v) (.Constant x n p))) v
 (if h:x.ctorIdx=0 then Const.none.elim (motive:=fun x=>Ok (GoodE k (.cst .none) (.Constant x n p))) x h (ok (.flat rfl rfl fun _=>se_none)) else none)
 (fun b=>if h:x.ctorIdx=1 then Const.bool.elim (motive:=fun x=>Ok (GoodE k (.cst (.bool b)) (.Constant x n p))) x h fun y=>if h:b=y then ok (.flat rfl rfl fun _=>h▸se_bool) else none else none)
 (fun i=>if h:x.ctorIdx=2 then Const.int.elim (motive:=fun x=>Ok (GoodE k (.cst (.int i)) (.Constant x n p))) x h fun y=>if h:i=y then ok (.flat rfl rfl fun _=>h▸se_int) else none else none)
 (fun _=>none) (fun _=>none) (fun _=>none) (fun _ _ _ _=>none) (fun _ _ _=>none)
noncomputable def kGlo (x:String)(v:V):RE k (.glo x v):=fun a=>onName (M:=fun a=>Ok (GoodE k (.glo x v) a)) a (fun _=>none) fun y p=>oif (k.isGlob x y) fun h=>match e:k.G.lookup x with
 | none=>none
 | some u=>V.casesOn (motive_1:=fun v=>Ok (GoodE k (.glo x v) (.Name y p))) v none (fun _=>none)
  (fun i=>V.casesOn (motive_1:=fun u=>k.G.lookup x=some u→Ok (GoodE k (.glo x (.int i)) (.Name y p))) u (fun _=>none) (fun _ _=>none) (fun j e=>if z:i=j then ok (.flat rfl rfl fun C=>z▸se_gloI C h e) else none) (fun _ _=>none) (fun _ _=>none) (fun _ _=>none) (fun _ _ _ _ _=>none) (fun _ _ _ _=>none) e)
  (fun i=>V.casesOn (motive_1:=fun u=>k.G.lookup x=some u→Ok (GoodE k (.glo x (.ref i)) (.Name y p))) u (fun _=>none) (fun _ _=>none) (fun _ _=>none) (fun j e=>if z:i=j then ok (.flat rfl rfl fun C=>z▸se_gloR C h e) else none) (fun _ _=>none) (fun _ _=>none) (fun _ _ _ _ _=>none) (fun _ _ _ _=>none) e)
  (fun _=>none) (fun _=>none) (fun _ _ _ _=>none) (fun _ _ _=>none)
variable {k}
noncomputable def kBin (op:Operator)(l r:E)(hl:RE k l)(hr:RE k r):RE k (.bin op l r):=fun a=>onBin (M:=fun a=>Ok (GoodE k (.bin op l r) a)) a (fun _=>none) fun x o y p=>(hl x).to fun gx=>(hr y).to fun gy=>if h:op=o then ok (.flat rfl rfl fun C=>h▸se_bin (gx.se C) (gy.se C)) else none
noncomputable def kNeg (e:E)(he:RE k e):RE k (.neg e):=fun a=>onUn (M:=fun a=>Ok (GoodE k (.neg e) a)) a (fun _=>none) fun o x p=>(he x).to fun g=>if h:o=.USub then ok ⟨rfl,fun C=>h▸se_neg (g.se C),fun z=>nomatch z⟩ else none
noncomputable def kNot (e:E)(he:RE k e):RE k (.not e):=fun a=>onUn (M:=fun a=>Ok (GoodE k (.not e) a)) a (fun _=>none) fun o x p=>(he x).to fun g=>if h:o=.Not then ok ⟨rfl,fun C=>h▸se_not (g.se C),fun z {_ _ _ _ _ _} C=>h▸st_not (g.st z C)⟩ else none
noncomputable def kCmp (op:CmpOp)(l r:E)(hl:RE k l)(hr:RE k r):RE k (.cmp op l r):=fun a=>onCmp (M:=fun a=>Ok (GoodE k (.cmp op l r) a)) a (fun _=>none) fun x os ys p=>on1 (M:=fun os=>Ok (GoodE k (.cmp op l r) (.Compare x os ys p))) os (fun _=>none) fun o=>on1 (M:=fun ys=>Ok (GoodE k (.cmp op l r) (.Compare x [o] ys p))) ys (fun _=>none) fun y =>
 (hl x).to fun gx=>(hr y).to fun gy=>if h:op=o then ok ⟨rfl,fun C=>h▸se_cmp C gy.pl (gx.se C) (gy.se C),fun _ {_ _ _ _ _ _} C=>h▸st_cmp C gy.pl (gx.se C) (gy.se C)⟩ else none
noncomputable def kAnd (l r:E)(hl:RE k l)(hr:RE k r):RE k (.and l r):=fun a=>onBool (M:=fun a=>Ok (GoodE k (.and l r) a)) a (fun _=>none) fun o ls p=>on2 (M:=fun ls=>Ok (GoodE k (.and l r) (.BoolOp o ls p))) ls (fun _=>none) fun x y=>(hl x).to fun gx=>(hr y).to fun gy =>
 if h:o=.And then ok ⟨rfl,fun C=>h▸se_and (gx.se C) (gy.se C),fun z {_ _ _ _ _ _} C=>h▸st_and (gx.st (Bool.and_eq_true_iff.mp z).1 C) (gy.st (Bool.and_eq_true_iff.mp z).2 C)⟩ else none
noncomputable def kOr (l r:E)(hl:RE k l)(hr:RE k r):RE k (.or l r):=fun a=>onBool (M:=fun a=>Ok (GoodE k (.or l r) a)) a (fun _=>none) fun o ls p=>on2 (M:=fun ls=>Ok (GoodE k (.or l r) (.BoolOp o ls p))) ls (fun _=>none) fun x y=>(hl x).to fun gx=>(hr y).to fun gy =>
 if h:o=.Or then ok ⟨rfl,fun C=>h▸se_or (gx.se C) (gy.se C),fun z {_ _ _ _ _ _} C=>h▸st_or (gx.st (Bool.and_eq_true_iff.mp z).1 C) (gy.st (Bool.and_eq_true_iff.mp z).2 C)⟩ else none
noncomputable def kIte (c t e:E)(hc:RE k c)(ht:RE k t)(he:RE k e):RE k (.ite c t e):=fun a=>onIf (M:=fun a=>Ok (GoodE k (.ite c t e) a)) a (fun _=>none) fun x y z p=>(hc x).to fun gx=>(ht y).to fun gy=>(he z).to fun gz=>oif (tOk c) fun h=>ok ⟨rfl,fun C=>se_ite (gx.st h C) (gy.se C) (gz.se C),fun z=>nomatch z⟩
noncomputable def kCall (f:E)(es:Es)(hf:RE k f)(hs:REs k es):RE k (.call f es):=fun a=>onCall (M:=fun a=>Ok (GoodE k (.call f es) a)) a (fun _=>none) fun g as w p=>onName (M:=fun g=>Ok (GoodE k (.call f es) (.Call g as w p))) g (fun _=>none) fun x q=>on0 (M:=fun w=>Ok (GoodE k (.call f es) (.Call (.Name x q) as w p))) w (fun _=>none) <|
 (hf (.Name x q)).to fun gf=>(hs as).to fun gs=>ok (.flat rfl rfl fun C=>se_call C gs.pl (gf.se C) (gs.ses C))
noncomputable def kCallB (f:E)(i:Nat)(es:Es)(hf:RE k f)(hs:REs k es):RE k (.callB f i es):=fun a=>onCall (M:=fun a=>Ok (GoodE k (.callB f i es) a)) a (fun _=>none) fun g as w p=>onName (M:=fun g=>Ok (GoodE k (.callB f i es) (.Call g as w p))) g (fun _=>none) fun x q=>on0 (M:=fun w=>Ok (GoodE k (.callB f i es) (.Call (.Name x q) as w p))) w (fun _=>none) <|
 onC (M:=fun as=>Ok (GoodE k (.callB f i es) (.Call (.Name x q) as [] p))) as (fun _=>none) fun b as=>onName (M:=fun b=>Ok (GoodE k (.callB f i es) (.Call (.Name x q) (b::as) [] p))) b (fun _=>none) fun y r =>
 (hf (.Name x q)).to fun gf=>(hs as).to fun gs=>oif (k.isL i y) fun h=>ok (.flat rfl rfl fun C=>se_callB C h gs.pl (gf.se C) (gs.ses C))
noncomputable def kLen (i:Nat):RE k (.lenL i):=fun a=>onCall (M:=fun a=>Ok (GoodE k (.lenL i) a)) a (fun _=>none) fun g as w p=>onName (M:=fun g=>Ok (GoodE k (.lenL i) (.Call g as w p))) g (fun _=>none) fun x q=>on0 (M:=fun w=>Ok (GoodE k (.lenL i) (.Call (.Name x q) as w p))) w (fun _=>none) <|
 on1 (M:=fun as=>Ok (GoodE k (.lenL i) (.Call (.Name x q) as [] p))) as (fun _=>none) fun b=>onName (M:=fun b=>Ok (GoodE k (.lenL i) (.Call (.Name x q) [b] [] p))) b (fun _=>none) fun y r=>oif (k.isGlob "len" x) fun h1=>oif (k.isLoc i y) fun h2=>ok (.flat rfl rfl fun C=>se_lenL C h1 h2)
noncomputable def kMax (l r:E)(hl:RE k l)(hr:RE k r):RE k (.max2 l r):=fun a=>onCall (M:=fun a=>Ok (GoodE k (.max2 l r) a)) a (fun _=>none) fun g as w p=>onName (M:=fun g=>Ok (GoodE k (.max2 l r) (.Call g as w p))) g (fun _=>none) fun x q=>on0 (M:=fun w=>Ok (GoodE k (.max2 l r) (.Call (.Name x q) as w p))) w (fun _=>none) <|
 on2 (M:=fun as=>Ok (GoodE k (.max2 l r) (.Call (.Name x q) as [] p))) as (fun _=>none) fun b d=>(hl b).to fun gb=>(hr d).to fun gd=>oif (k.isGlob "max" x) fun h1=>ok (.flat rfl rfl fun C=>se_max2 C h1 gb.pl gd.pl (gb.se C) (gd.se C))
noncomputable def kMin (l r:E)(hl:RE k l)(hr:RE k r):RE k (.min2 l r):=fun a=>onCall (M:=fun a=>Ok (GoodE k (.min2 l r) a)) a (fun _=>none) fun g as w p=>onName (M:=fun g=>Ok (GoodE k (.min2 l r) (.Call g as w p))) g (fun _=>none) fun x q=>on0 (M:=fun w=>Ok (GoodE k (.min2 l r) (.Call (.Name x q) as w p))) w (fun _=>none) <|
 on2 (M:=fun as=>Ok (GoodE k (.min2 l r) (.Call (.Name x q) as [] p))) as (fun _=>none) fun b d=>(hl b).to fun gb=>(hr d).to fun gd=>oif (k.isGlob "min" x) fun h1=>ok (.flat rfl rfl fun C=>se_min2 C h1 gb.pl gd.pl (gb.se C) (gd.se C))
noncomputable def kBits (e:E)(he:RE k e):RE k (.bitlen e):=fun a=>onCall (M:=fun a=>Ok (GoodE k (.bitlen e) a)) a (fun _=>none) fun g as w p=>onAttr (M:=fun g=>Ok (GoodE k (.bitlen e) (.Call g as w p))) g (fun _=>none) fun o n q=>on0 (M:=fun w=>Ok (GoodE k (.bitlen e) (.Call (.Attribute o n q) as w p))) w (fun _=>none) <|
 on0 (M:=fun as=>Ok (GoodE k (.bitlen e) (.Call (.Attribute o n q) as [] p))) as (fun _=>none) <| (he o).to fun g=>if h:n=("bit_length" : Str)∧q.endLine=p.line then oif (bitB o) fun h3=>ok (.flat rfl rfl fun C=>h.1▸se_bitlen h.2 h3 (g.se C)) else none
noncomputable def kAttr (i:Nat)(n:String):RE k (.attr i n):=fun a=>onAttr (M:=fun a=>Ok (GoodE k (.attr i n) a)) a (fun _=>none) fun o m p=>onName (M:=fun o=>Ok (GoodE k (.attr i n) (.Attribute o m p))) o (fun _=>none) fun x q=>oif (k.isLoc i x) fun h1=>if h:m=Str.ofString n∧n∈["modulus","minus","one","square"] then ok (.flat rfl rfl fun C=>h.1▸se_attr C h1 h.2) else none
noncomputable def kSub (e i:E)(he:RE k e)(hi:RE k i):RE k (.sub e i):=fun a=>onItem (M:=fun a=>Ok (GoodE k (.sub e i) a)) a (fun _=>none) fun x y p=>(he x).to fun gx=>(hi y).to fun gy=>ok (.flat rfl rfl fun C=>se_sub gy.pl (gx.se C) (gy.se C))
noncomputable def kSubL (i:Nat)(e:E)(he:RE k e):RE k (.subL i e):=fun a=>onItem (M:=fun a=>Ok (GoodE k (.subL i e) a)) a (fun _=>none) fun o y p=>onName (M:=fun o=>Ok (GoodE k (.subL i e) (.Subscript o y p))) o (fun _=>none) fun x q=>(he y).to fun gy=>oif (k.isLoc i x) fun h=>ok (.flat rfl rfl fun C=>se_subL C h gy.pl (gy.se C))
noncomputable def kTup (es:Es)(hs:REs k es):RE k (.tup es):=fun a=>onTup (M:=fun a=>Ok (GoodE k (.tup es) a)) a (fun _=>none) fun as n p=>(hs as).to fun gs=>if h:as.length≤1000 then ok (.flat rfl rfl fun C=>se_tup h (gs.ses C)) else none
noncomputable def kFresh (f:F)(hf:RF k f):RE k (.fresh f):=fun a=>(hf a).to fun g=>ok ⟨g.pl,fun C=>se_fresh (g.sf C),fun z=>nomatch z⟩
noncomputable def kDisp (es:Es)(hs:REs k es):RF k (.disp es):=fun a=>onList (M:=fun a=>Ok (GoodF k (.disp es) a)) a (fun _=>none) fun as p=>(hs as).to fun gs=>if h:as.length≤1000 then ok ⟨rfl,fun C=>sf_disp h (gs.ses C)⟩ else none
noncomputable def kRep (e n:E)(he:RE k e)(hn:RE k n):RF k (.rep e n):=fun a=>onBin (M:=fun a=>Ok (GoodF k (.rep e n) a)) a (fun _=>none) fun l o y p=>onList (M:=fun l=>Ok (GoodF k (.rep e n) (.BinOp l o y p))) l (fun _=>none) fun xs q=>on1 (M:=fun xs=>Ok (GoodF k (.rep e n) (.BinOp (.List xs q) o y p))) xs (fun _=>none) fun x =>
 (he x).to fun gx=>(hn y).to fun gy=>if h:o=.Mult then ok ⟨rfl,fun C=>h▸sf_rep gx.pl (gx.se C) (gy.se C)⟩ else none
noncomputable def kCat (l r:E)(hl:RE k l)(hr:RE k r):RF k (.cat l r):=fun a=>onBin (M:=fun a=>Ok (GoodF k (.cat l r) a)) a (fun _=>none) fun x o y p=>(hl x).to fun gx=>(hr y).to fun gy=>if h:o=.Add then ok ⟨rfl,fun C=>h▸sf_cat (gx.se C) (gy.se C)⟩ else none
structure GoodP (k:Ck) (e:E) (a:Option Expr):Prop where
 sp:∀ {w A Γ K dep c},Cs k w A Γ K dep c→SP w A Γ c e a
noncomputable def isCstNone (e:E):Ok (e=.cst .none):=E.casesOn (motive_1:=fun e=>Ok (e=.cst .none)) e (fun _=>none) (fun v=>V.casesOn (motive_1:=fun v=>Ok (E.cst v=.cst .none)) v (ok rfl) (fun _=>none) (fun _=>none) (fun _=>none) (fun _=>none) (fun _=>none) (fun _ _ _ _=>none) (fun _ _ _=>none)) (fun _ _=>none) (fun _ _ _=>none) (fun _=>none) (fun _=>none) (fun _ _ _=>none) (fun _ _=>none) (fun _ _=>none) (fun _ _ _=>none)
 (fun _ _=>none) (fun _ _ _=>none) (fun _=>none) (fun _ _=>none) (fun _ _=>none) (fun _=>none) (fun _ _=>none) (fun _ _=>none) (fun _ _=>none) (fun _=>none) (fun _=>none)
noncomputable def kPart (e:E)(he:RE k e)(o:Option Expr):Ok (GoodP k e o):=Option.casesOn (motive:=fun o=>Ok (GoodP k e o)) o ((isCstNone e).to fun h=>ok ⟨fun _=>h▸sp_none⟩) fun a=>(he a).to fun g=>ok ⟨fun C=>g.se C⟩
noncomputable def kCut (i:Nat)(lo hi:E)(hl:RE k lo)(hh:RE k hi):RF k (.sliceL i lo hi):=fun a=>onItem (M:=fun a=>Ok (GoodF k (.sliceL i lo hi) a)) a (fun _=>none) fun o y p=>onName (M:=fun o=>Ok (GoodF k (.sliceL i lo hi) (.Subscript o y p))) o (fun _=>none) fun x q=>onCut (M:=fun y=>Ok (GoodF k (.sliceL i lo hi) (.Subscript (.Name x q) y p))) y (fun _=>none) fun u v z r =>
 Option.casesOn (motive:=fun z=>Ok (GoodF k (.sliceL i lo hi) (.Subscript (.Name x q) (.Slice u v z r) p))) z ((kPart lo hl u).to fun gu=>(kPart hi hh v).to fun gv=>oif (k.isLoc i x) fun h=>ok ⟨rfl,fun C=>sf_slice C h (gu.sp C) (gv.sp C)⟩) fun _=>none
noncomputable def kNil:REs k .nil:=fun as=>on0 (M:=fun as=>Ok (GoodEs k .nil as)) as (fun _=>none) (ok ⟨rfl,fun _=>ses_nil⟩)
noncomputable def kCons (e:E)(es:Es)(he:RE k e)(hs:REs k es):REs k (.cons e es):=fun as=>onC (M:=fun as=>Ok (GoodEs k (.cons e es) as)) as (fun _=>none) fun a as=>(he a).to fun g=>(hs as).to fun gs=>ok ⟨by rw [List.all_cons,g.pl,gs.pl];rfl,fun C=>ses_cons g.pl (g.se C) (gs.ses C)⟩
variable (k)
noncomputable def chkE (e:E):RE k e:=E.rec (motive_1:=RE k) (motive_2:=RF k) (motive_3:=REs k) (kLoc k) (kCst k) (kGlo k) kBin kNeg kNot kCmp kAnd kOr kIte kCall kCallB kLen kMax kMin kBits kAttr kSub kSubL kTup kFresh kDisp kRep kCat kCut kNil kCons e
noncomputable def chkF (f:F):RF k f:=F.rec (motive_1:=RE k) (motive_2:=RF k) (motive_3:=REs k) (kLoc k) (kCst k) (kGlo k) kBin kNeg kNot kCmp kAnd kOr kIte kCall kCallB kLen kMax kMin kBits kAttr kSub kSubL kTup kFresh kDisp kRep kCat kCut kNil kCons f
end
end
section
section
variable {w:World}{A:Around}{s:Shared}{K:Frag}{Γ:Gam}{G:List (String×V)}{k:Ck}{dep:Nat}{c:Cx}{fl:Addr→Prop}{σ:Sg}{oa:Nat→Addr}
def FR (g:Vis)(F:FL)(f:Flow):Prop:=FL.casesOn F (f=.next) (f=.brk) (f=.cont) fun v=>∃ x,f=.ret x∧VR g v x
theorem FR.mono {g g':Vis}{F:FL}{f:Flow}(le:Le g g')(h:FR g F f):FR g' F f:=by
 cases F with
 | ret v=>refine x1a2 h fun x e r=>?_;clear h;exact ⟨x,e,VR.mono le r⟩
 | _=>exact h
def PC (c:Cx)(fl:Addr→Prop)(σ:Sg)(oa:Nat→Addr)(s:Shared)(Q:FL→Sg→Prop)(f:Flow)(s':Shared):Prop :=
 ∃ F σ' oa',Q F σ'∧FR (vz c fl σ' oa' s'.heap) F f∧Go c fl σ oa s σ' oa' s'
theorem PC.step {σ':Sg}{oa':Nat→Addr}{s' s'':Shared}{Q:FL→Sg→Prop}{f:Flow}(g:Go c fl σ oa s σ' oa' s')(h:PC c fl σ' oa' s' Q f s''):PC c fl σ oa s Q f s'':=by
 refine x3a3 h fun F τ ob q r g'=>?_;clear h;exact ⟨F,τ,ob,q,r,g.trans g'⟩
theorem PC.next {Q:FL→Sg→Prop}{σ':Sg}{oa':Nat→Addr}{s':Shared}(q:Q .next σ')(g:Go c fl σ oa s σ' oa' s'):PC c fl σ oa s Q .next s':=⟨.next,σ',oa',q,rfl,g⟩
def SC (w:World)(A:Around)(Γ:Gam)(c:Cx)(m:C)(st:Stmt):Prop:=∀ (fl:Addr→Prop) (σ:Sg) (oa:Nat→Addr) (s:Shared) (Q:FL→Sg→Prop),
 St c fl σ oa s.heap→W Γ m σ Q→wpAny (model PG w) A (exec st c.env) (PC c fl σ oa s Q) Ed s
def SB (w:World)(A:Around)(Γ:Gam)(c:Cx)(m:C)(sts:List Stmt):Prop:=∀ (fl:Addr→Prop) (σ:Sg) (oa:Nat→Addr) (s:Shared) (Q:FL→Sg→Prop),
 St c fl σ oa s.heap→W Γ m σ Q→wpAny (model PG w) A (execs sts c.env) (PC c fl σ oa s Q) Ed s
theorem SB.to {m:C}{b:List Stmt}(h:SB w A Γ c m b){Q:FL→Sg→Prop}(S:St c fl σ oa s.heap)(q:W Γ m σ Q){R:Flow→Shared→Prop}
  (k:∀ F f s₁ σ₁ oa₁,Q F σ₁→FR (vz c fl σ₁ oa₁ s₁.heap) F f→Go c fl σ oa s σ₁ oa₁ s₁→R f s₁):wpAny (model PG w) A (execs b c.env) R Ed s :=
 wpAny_mono (h fl σ oa s Q S q) (fun x s₁ p=>by refine x3a3 p fun F σ₁ oa₁ q₁ r₁ g₁=>?_;clear p;exact k F x s₁ σ₁ oa₁ q₁ r₁ g₁) fun _ _ z=>z
theorem store_rule {x:Str}{v:Value}{m:Str→Option Value}{Q:Unit→Shared→Prop}(hk:c.env.kindOf x=some .local)(hf:c.env.scope.kind=.function)(N:s.heap.Ns c.L m)
  (q:∀ h',h'.Ns c.L (fun z=>if z=x then some v else m z)→Heap.SameBut c.L s.heap h'→Q () { s with heap:=h',toks:=s.toks+1 }):wpAny (model PG w) A (storeName c.env x v) Q Ed s :=
 wpAny_storeName_local hk N q (by rw [hf];rfl)
theorem store_at (C:Cs k w A Γ K dep c){i:Nat}{x:Str}(h:k.isL i x=true){σ₀:Sg}{oa₀:Nat→Addr}{s₀:Shared}(g:Go c fl σ₀ oa₀ s₀ σ oa s){v:V}{y:Value}(r:VR (vz c fl σ oa s.heap) v y){Q:FL→Sg→Prop}(q:Q .next (σ.set i (.val v))) :
  wpAny (model PG w) A (storeName c.env x y) (fun _ s'=>PC c fl σ₀ oa₀ s₀ Q .next s') Ed s:=by
 refine an3 (isL_of C.L h) fun y1 y2 y3=>?_
 refine x1a2 g.st.ns fun m N _=>?_
 refine store_rule y2 C.L.kind N fun h' N' sb=>?_
 obtain ⟨S₂,e₂⟩:=g.st.store C.nd y1 y2 N r N' sb
 exact PC.next q (g.trans ⟨.mk _ _ _,S₂,e₂⟩)
theorem sc_asg (C:Cs k w A Γ K dep c){i:Nat}{e:E}{x:Str}{a:Expr}{xp p:Pos}(h:k.isL i x=true)(pl:plX a=true)(he:SE w A Γ c e a):SC w A Γ c (.asg i e) (.Assign [.Name x xp] a p):=fun fl σ oa s Q S q =>
 wpAny_Assign_Name (he.to S q fun v x s₁ σ₁ q₁ g₁ r₁=>store_at C h g₁ r₁ q₁) ((plain_of pl).swap _ _ _)
theorem fl_eq {fl':Addr→Prop}{h:Heap}(S:St c fl σ oa h)(e:∀ b,fl b↔fl' b):St c fl' σ oa h:=by
 have:fl=fl':=funext fun b=>propext (e b)
 rw [← this];exact S
theorem sc_asgO (C:Cs k w A Γ K dep c){i:Nat}{f:F}{x:Str}{a:Expr}{xp p:Pos}(h:k.isL i x=true)(pl:plX a=true)(hf:SF w A Γ c f a):SC w A Γ c (.asgO i f) (.Assign [.Name x xp] a p):=fun fl σ oa s Q S q =>
 wpAny_Assign_Name (hf.to S q fun l a s₁ σ₁ q₁ g₁ n=>by
  refine an3 (isL_of C.L h) fun y1 y2 y3=>?_
  refine an3 (n.ne S) fun nL nT nf=>?_
  have nO:=n.no S g₁.st
  refine x1a2 n.st.ns fun m N _=>?_
  refine store_rule y2 C.L.kind N fun h' N' sb=>?_
  refine an3 (n.st.storeO C.nd y1 y2 N (.inl rfl) n.d0 nL nT nO n.lh N' sb) fun S₂ ow le=>?_
  have up:∀ b o,s₁.heap.get? b=some o→b≠c.L→h'.get? b=some o:=fun b o e k=>(sb.2 b k).trans e
  refine PC.next q₁ ⟨g₁.fr.trans (.mk _ _ _),fl_eq S₂ fun b=>⟨fun z=>z.1.elim (fun y=>absurd y z.2) id,fun z=>⟨.inr z,fun y=>nf (y▸z)⟩⟩,
   fun b o z k1 k2 k3=>up b o (g₁.ev.keep b o z k1 k2 k3) k2,fun b z y=>?_,fun b z=>?_,g₁.ev.grow.keep fun o e=>up _ o e fun z=>S.lt z.symm⟩
  ·rcases ow b z with z | z
   ·obtain ⟨o,y⟩:=y;rw [z,n.d] at y;cases y
   ·exact g₁.ev.own b z y
  ·by_cases hb:b=c.L
   ·rw [hb];exact ns_live N'
   ·obtain ⟨o,y⟩:=g₁.ev.live b z;exact ⟨o,up b o y hb⟩) ((plain_of pl).swap _ _ _)
structure Loose (c:Cx) (h0:Heap) (fl:Addr→Prop) (σ:Sg) (oa:Nat→Addr) (a:Addr):Prop where
 d:h0.get? a=none
 f:¬fl a
 g:c.g0.get? a=none
 l:a≠c.L
 t:a≠tabA
 o:¬OwnA σ oa a
noncomputable def ItR (h:Heap)(g:Vis)(sl:List Slot):List Addr→List Value→Prop:=List.rec (motive:=fun _=>List Addr→List Value→Prop) (fun as xs=>as=[]∧xs=[])
 (fun s _ r as xs=>Slot.casesOn s False (fun v=>∃ x ys,xs=x::ys∧VR g v x∧r as ys) (fun l=>∃ a bs ys,as=a::bs∧xs=.ref a::ys∧a∉bs∧ListHas h g a l∧r bs ys) fun _=>False) sl
section
variable {h h':Heap}{g g':Vis}
theorem ItR.nil:ItR h g [] [] []:=⟨rfl,rfl⟩
theorem ItR.val {as:List Addr}{sl:List Slot}{xs:List Value}{v:V}{x:Value}(r:VR g v x)(z:ItR h g sl as xs):ItR h g (.val v::sl) as (x::xs):=⟨x,xs,rfl,r,z⟩
theorem ItR.own {as:List Addr}{sl:List Slot}{xs:List Value}{a:Addr}{l:List V}(n:a∉as)(r:ListHas h g a l)(z:ItR h g sl as xs):ItR h g (.own l::sl) (a::as) (.ref a::xs):=⟨a,as,xs,rfl,rfl,n,r,z⟩
theorem ItR.cases {s:Slot}{sl:List Slot}{as:List Addr}{xs:List Value}{R:Prop}(z:ItR h g (s::sl) as xs)(a:∀ v x ys,s=.val v→xs=x::ys→VR g v x→ItR h g sl as ys→R)(b:∀ l a bs ys,s=.own l→as=a::bs→xs=.ref a::ys→a∉bs→ListHas h g a l→ItR h g sl bs ys→R):R:=by
 cases s with
 | val v=>refine x2a3 z fun x ys e r z=>?_;exact a v x ys rfl e r z
 | own l=>refine x3a5 z fun q bs ys e1 e2 n r z=>?_;exact b l q bs ys rfl e1 e2 n r z
 | _=>exact z.elim
theorem ItR.mono {sl:List Slot}(le:Le g g'):∀ {as:List Addr} {xs:List Value},ItR h g sl as xs→(∀ a∈as,∀ o,h.get? a=some o→h'.get? a=some o)→ItR h' g' sl as xs:=by
 induction sl with
 | nil=>exact fun z _=>z
 | cons s sl ih =>
  intro as xs z0 k
  refine z0.cases (fun v x ys e1 e2 r z=>?_) fun l a bs ys e1 e2 e3 n r z=>?_
  ·subst e1 e2;exact .val (r.mono le) (ih z k)
  ·subst e1 e2 e3;exact .own n (r.mono (k _ (List.mem_cons_self ..)) le) (ih z fun a q=>k a (List.mem_cons_of_mem _ q))
theorem ItR.len {sl:List Slot}:∀ {as:List Addr} {xs:List Value},ItR h g sl as xs→sl.length=xs.length:=by
 induction sl with
 | nil=>exact fun z=>by rw [z.2];rfl
 | cons s sl ih =>
  intro as xs z0
  exact z0.cases (fun v x ys e1 e2 r z=>by rw [e2];exact congrArg Nat.succ (ih z)) fun l a bs ys e1 e2 e3 n r z=>by rw [e3];exact congrArg Nat.succ (ih z)
theorem ItR.append {sl':List Slot}{as':List Addr}{xs':List Value}(y:ItR h g sl' as' xs'){sl:List Slot}:∀ {as:List Addr} {xs:List Value},ItR h g sl as xs→(∀ a∈as,a∉as')→ItR h g (sl++sl') (as++as') (xs++xs'):=by
 induction sl with
 | nil=>intro as xs z _;cases z.1;cases z.2;exact y
 | cons s sl ih =>
  intro as xs z0 k
  refine z0.cases (fun v x ys e1 e2 r z=>?_) fun l a bs ys e1 e2 e3 n r z=>?_
  ·subst e1 e2;exact .val r (ih z k)
  ·subst e1 e2 e3;exact .own (fun q=>by rcases List.mem_append.mp q with q | q;exact n q;exact k _ (List.mem_cons_self ..) q) r (ih z fun a q=>k a (List.mem_cons_of_mem _ q))
theorem ItR.rev {sl:List Slot}:∀ {as:List Addr} {xs:List Value},ItR h g sl as xs→ItR h g sl.reverse as.reverse xs.reverse:=by
 induction sl with
 | nil=>intro as xs z;cases z.1;cases z.2;exact .nil
 | cons s sl ih =>
  intro as xs z0
  refine z0.cases (fun v x ys e1 e2 r z=>?_) fun l a bs ys e1 e2 e3 n r z=>?_
  ·subst e1 e2
   rw [List.reverse_cons,List.reverse_cons,← List.append_nil as.reverse]
   exact (ItR.val r .nil).append (ih z) fun a _=>List.not_mem_nil
  ·subst e1 e2 e3
   rw [List.reverse_cons,List.reverse_cons,List.reverse_cons]
   exact (ItR.own List.not_mem_nil r .nil).append (ih z) fun b q e=>by cases List.mem_singleton.mp e;exact n (List.mem_reverse.mp q)
end
structure Its (c:Cx) (fl:Addr→Prop) (σ:Sg) (oa:Nat→Addr) (s:Shared) (as:List Addr) (sl:List Slot) (σ':Sg) (xs:List Value) (s':Shared):Prop where
 fr:Frm s s'
 st:St c (fun b=>b∈as∨fl b) σ' oa s'.heap
 ev:Ev c.L σ oa s.heap σ' oa s'.heap
 lo:∀ a∈as,Loose c s.heap fl σ' oa a
 it:ItR s'.heap (vz c (fun b=>b∈as∨fl b) σ' oa s'.heap) sl as xs
def PI (c:Cx)(fl:Addr→Prop)(σ:Sg)(oa:Nat→Addr)(s:Shared)(n:Nat)(Q:List Slot→Sg→Prop)(xs:List Value)(s':Shared):Prop :=
 ∃ as sl σ',Q sl σ'∧Its c fl σ oa s as sl σ' xs s'∧sl.length=n
def SIs (w:World)(A:Around)(Γ:Gam)(c:Cx)(is:Is)(as:List Expr):Prop:=∀ (pos:Pos) (fl:Addr→Prop) (σ:Sg) (oa:Nat→Addr) (s:Shared) (Q:List Slot→Sg→Prop),
 St c fl σ oa s.heap→WIs Γ is σ Q→wpAny (model PG w) A (spliced (backTo pos (starEach as c.env))) (PI c fl σ oa s as.length Q) Ed s
theorem sis_nil:SIs w A Γ c .nil []:=fun pos fl σ oa s Q S q=>spliced_nil ⟨[],[],σ,q,⟨.refl s,fl_eq S fun b=>⟨.inr,fun z=>z.elim (fun z=>absurd z List.not_mem_nil) id⟩,.refl ..,fun a z=>absurd z List.not_mem_nil,.nil⟩,rfl⟩
theorem lo_le {s₁:Shared}{σ₁ σ₂:Sg}{fl₁:Addr→Prop}{bs:List Addr}{h₂:Heap}(e:Ev c.L σ₁ oa s₁.heap σ₂ oa h₂)(lo:∀ a∈bs,Loose c s₁.heap fl₁ σ₂ oa a):Le (vz c fl₁ σ₁ oa s₁.heap) (vz c (fun b=>b∈bs∨fl₁ b) σ₂ oa h₂):=fun x o k =>
 ⟨fun y=>by
  rcases y with y | y | y | y
  ·exact k.1 (.inl y)
  ·exact k.1 (.inr (.inl y))
  ·exact k.1 (.inr (.inr (.inl (e.own x y ⟨o,k.2⟩))))
  ·rcases y with y | y
   ·have:=k.2;rw [(lo x y).d] at this;cases this
   ·exact k.1 (.inr (.inr (.inr y))),e.keep x o k.2 (fun y=>k.1 (.inr (.inl y))) (fun y=>k.1 (.inl y)) fun y=>k.1 (.inr (.inr (.inl y)))⟩
theorem sis_val {i:Nat}{e:E}{is:Is}{a:Expr}{as:List Expr}(hp:plX a=true)(he:SE w A Γ c e a)(hs:SIs w A Γ c is as):SIs w A Γ c (.val i e is) (a::as):=fun pos fl σ oa s Q S q=>by
 rw [stC hp]
 refine spliced_cons (he.to (Q:=fun v σ=>WIs Γ is σ fun sl σ=>Q (.val v::sl) σ) S q fun v x s₁ σ₁ q₁ g₁ r₁=>wpAny_mono (hs _ fl σ₁ oa s₁ _ g₁.st q₁) (fun xs s₂ p=>?_) fun _ _ z=>z)
 refine x3a3 p fun bs sl σ₂ q₂ I l₂=>?_;clear p
 exact ⟨bs,.val v::sl,σ₂,q₂,⟨g₁.fr.trans I.fr,I.st,g₁.ev.trans I.ev,fun x z=>have:=I.lo x z;⟨g₁.ev.dead this.d,this.f,this.g,this.l,this.t,this.o⟩,.val (r₁.mono (lo_le I.ev I.lo)) I.it⟩,congrArg Nat.succ l₂⟩
theorem sis_own {i:Nat}{f:F}{is:Is}{a:Expr}{as:List Expr}(hp:plX a=true)(hf:SF w A Γ c f a)(hs:SIs w A Γ c is as):SIs w A Γ c (.own i f is) (a::as):=fun pos fl σ oa s Q S q=>by
 rw [stC hp]
 refine spliced_cons (hf.to (Q:=fun l σ=>WIs Γ is σ fun sl σ=>Q (.own l::sl) σ) S q fun l b s₁ σ₁ q₁ g₁ n=>wpAny_mono (hs _ _ σ₁ oa s₁ _ n.st q₁) (fun xs s₂ p=>?_) fun _ _ z=>z)
 refine x3a3 p fun bs sl σ₂ q₂ I l₂=>?_;clear p
 refine an3 (n.ne S) fun nL nT nf=>?_
 have nO:=n.no S g₁.st
 have fe:(fun x=>x∈bs∨x=b∨fl x)=fun x=>x∈b::bs∨fl x:=funext fun x=>propext (by rw [List.mem_cons,or_left_comm,or_assoc])
 have nb:b∉bs:=fun z=>by obtain ⟨o,z'⟩:=n.lh.live;rw [(I.lo b z).d] at z';cases z'
 have S₂:=I.st
 have it:=I.it
 rw [fe] at S₂ it
 refine ⟨b::bs,.own l::sl,σ₂,q₂,⟨g₁.fr.trans I.fr,S₂,g₁.ev.trans I.ev,fun x z=>?_,.own nb ?_ it⟩,congrArg Nat.succ l₂⟩
 ·rcases List.mem_cons.mp z with z | z
  ·subst z;exact ⟨n.d,nf,n.d0,nL,nT,fun z=>nO (I.ev.own _ z n.lh.live)⟩
  ·have:=I.lo x z;exact ⟨g₁.ev.dead this.d,fun y=>this.f (.inr y),this.g,this.l,this.t,this.o⟩
 ·have:=n.lh.mono (fun o z=>I.ev.keep _ o z nT nL nO) (lo_le I.ev I.lo)
  rw [fe] at this;exact this
def Stores (c:Cx)(t:Value→Sem Unit)(x:Str):Prop:=∀ (w:World) (A:Around) (v:Value) (Q:Unit→Shared→Prop) (s:Shared),wpAny (model PG w) A (storeName c.env x v) Q Ed s→wpAny (model PG w) A (t v) Q Ed s
noncomputable def Sts (c:Cx)(is:List Nat):List (Value→Sem Unit)→Prop:=List.rec (motive:=fun _=>List (Value→Sem Unit)→Prop) (fun ts=>ts=[]) (fun i _ r ts=>∃ x t us,ts=t::us∧Stores c t x∧c.vars[i]?=some x∧c.env.kindOf x=some .local∧r us) is
theorem Sts.nil:Sts c [] []:=rfl
theorem Sts.cons {i:Nat}{is:List Nat}{x:Str}{t:Value→Sem Unit}{ts:List (Value→Sem Unit)}(h:Stores c t x)(hx:c.vars[i]?=some x)(hk:c.env.kindOf x=some .local)(r:Sts c is ts):Sts c (i::is) (t::ts):=⟨x,t,ts,rfl,h,hx,hk,r⟩
theorem Sts.cons_inv {i:Nat}{is:List Nat}{ts:List (Value→Sem Unit)}(h:Sts c (i::is) ts):∃ x t us,ts=t::us∧Stores c t x∧c.vars[i]?=some x∧c.env.kindOf x=some .local∧Sts c is us:=h
theorem Sts.append {is':List Nat}{ts':List (Value→Sem Unit)}(b:Sts c is' ts'){is:List Nat}:∀ {ts:List (Value→Sem Unit)},Sts c is ts→Sts c (is++is') (ts++ts'):=by
 induction is with
 | nil=>rintro _ rfl;exact b
 | cons i is ih=>intro _ q;refine x3a5 q.cons_inv fun x t us zq3 h hx hk r=>?_;subst zq3;exact .cons h hx hk (ih r)
theorem Sts.rev {is:List Nat}:∀ {ts:List (Value→Sem Unit)},Sts c is ts→Sts c is.reverse ts.reverse:=by
 induction is with
 | nil=>rintro _ rfl;exact .nil
 | cons i is ih=>intro _ q;refine x3a5 q.cons_inv fun x t us zq3 h hx hk r=>?_;subst zq3;rw [List.reverse_cons,List.reverse_cons];exact (Sts.cons h hx hk .nil).append (ih r)
theorem Sts.len {is:List Nat}:∀ {ts:List (Value→Sem Unit)},Sts c is ts→is.length=ts.length:=by
 induction is with
 | nil=>rintro _ rfl;rfl
 | cons i is ih=>intro _ q;refine x3a5 q.cons_inv fun x t us zq3 h hx hk r=>?_;subst zq3;exact congrArg Nat.succ (ih r)
theorem setAll_comm (i:Nat)(sl:Slot):∀ (is:List Nat) (ss:List Slot) (σ:Sg),i∉is→setAll (σ.set i sl) is ss=(setAll σ is ss).set i sl
 | [],[],_,_=>rfl
 | [],_::_,_,_=>rfl
 | _::_,[],_,_=>rfl
 | j::is,t::ss,σ,h=>by
  rw [List.mem_cons,not_or] at h
  show setAll ((σ.set i sl).set j t) is ss=(setAll (σ.set j t) is ss).set i sl
  rw [List.set_comm _ _ h.1,setAll_comm i sl is ss _ h.2]
theorem setAll_snoc (i:Nat)(sl:Slot):∀ (is:List Nat) (ss:List Slot) (σ:Sg),is.length=ss.length→setAll σ (is++[i]) (ss++[sl])=(setAll σ is ss).set i sl
 | [],[],_,_=>rfl
 | [],_::_,_,h=>by cases h
 | _::_,[],_,h=>by cases h
 | j::is,t::ss,σ,h=>by
  show setAll (σ.set j t) (is++[i]) (ss++[sl])=(setAll (σ.set j t) is ss).set i sl
  exact setAll_snoc i sl is ss _ (Nat.succ.inj h)
theorem setAll_rev:∀ (is:List Nat) (ss:List Slot) (σ:Sg),is.Nodup→is.length=ss.length→setAll σ is.reverse ss.reverse=setAll σ is ss
 | [],[],_,_,_=>rfl
 | [],_::_,_,_,h=>by cases h
 | _::_,[],_,_,h=>by cases h
 | j::is,t::ss,σ,n,h=>by
  rw [List.reverse_cons,List.reverse_cons,setAll_snoc _ _ _ _ _ (by rw [List.length_reverse,List.length_reverse];exact Nat.succ.inj h),setAll_rev is ss σ (List.nodup_cons.mp n).2 (Nat.succ.inj h)]
  show _=setAll (σ.set j t) is ss
  rw [setAll_comm _ _ _ _ _ (List.nodup_cons.mp n).1]
theorem items_store (nd:c.vars.Nodup)(hf:c.env.scope.kind=.function){σ0:Sg}{oa0:Nat→Addr}{s0:Shared}{is:List Nat}:∀ {as:List Addr} {sl:List Slot} {xs:List Value} {ts:List (Value→Sem Unit)},Sts c is ts →
  ∀ {σ:Sg} {oa:Nat→Addr} {s:Shared},ItR s.heap (vz c (fun b=>b∈as∨fl b) σ oa s.heap) sl as xs→is.length=sl.length→Go c (fun b=>b∈as∨fl b) σ0 oa0 s0 σ oa s→(∀ a∈as,Loose c s0.heap fl σ oa a) →
  ∀ {Q:Unit→Shared→Prop},(∀ s' oa',Go c fl σ0 oa0 s0 (setAll σ is sl) oa' s'→Q () s')→wpAny (model PG w) A (assignInOrder ts xs) Q Ed s:=by
 induction is with
 | nil =>
  intro as sl xs ts st σ oa s it hl g lo Q q
  cases st
  cases sl with
  | cons=>cases hl
  | nil =>
   cases it.1;cases it.2
   exact assignInOrder_nil (q s oa ⟨g.fr,fl_eq g.st fun b=>⟨fun z=>z.elim (fun z=>absurd z List.not_mem_nil) id,.inr⟩,g.ev⟩)
 | cons i is ih =>
  intro as sl xs ts st σ oa s it hl g lo Q q
  refine x3a5 st.cons_inv fun x t us zq3 h hx hk r=>?_;subst zq3
  refine x1a2 g.st.ns fun m N _=>?_
  cases sl with
  | nil=>cases hl
  | cons sl₀ sl =>
  refine it.cases (fun v y ys e1 e2 r₀ z=>?_) fun l a bs ys e1 e2 e3 n r₀ z=>?_
  ·subst e1 e2
   refine assignInOrder_cons (h w A y _ s (store_rule hk hf N fun h' N' sb=>?_))
   obtain ⟨S',e'⟩:=g.st.store nd hx hk N r₀ N' sb
   refine ih r (s:={ s with heap:=h',toks:=s.toks+1 }) (z.mono e'.le fun a q o e=>(sb.2 a (lo a q).l).trans e) (Nat.succ.inj hl) (g.trans ⟨.mk _ _ _,S',e'⟩) (fun a q=>?_) q
   have:=lo a q
   refine ⟨this.d,this.f,this.g,this.l,this.t,fun z=>?_⟩
   refine x2a2 z fun j l' z y=>?_
   by_cases hj:j=i
   ·subst hj
    rw [List.getElem?_set_self (by rw [g.st.len];exact (List.getElem?_eq_some_iff.mp hx).1)] at z;rcases z with z | z <;> cases z
   ·rw [List.getElem?_set_ne (Ne.symm hj)] at z;exact this.o ⟨j,l',z,y⟩
  ·subst e1 e2 e3
   have la:=lo a (List.mem_cons_self ..)
   refine assignInOrder_cons (h w A (.ref a) _ s (store_rule hk hf N fun h' N' sb=>?_))
   refine an3 (g.st.storeO nd hx hk N (.inl (List.mem_cons_self ..)) la.g la.l la.t la.o r₀ N' sb) fun S' ow le=>?_
   have fe:(fun b=>(b∈a::bs∨fl b)∧b≠a)=fun b=>b∈bs∨fl b:=funext fun b=>propext ⟨fun z=>by
    rcases z.1 with z1 | z1
    ·exact (List.mem_cons.mp z1).elim (fun z1=>absurd z1 z.2) .inl
    ·exact .inr z1,fun z=>z.elim (fun z1=>⟨.inl (List.mem_cons_of_mem _ z1),fun e=>n (e▸z1)⟩) fun z1=>⟨.inr z1,fun e=>la.f (e▸z1)⟩⟩
   rw [fe] at S' le
   have up:∀ b o,s.heap.get? b=some o→b≠c.L→h'.get? b=some o:=fun b o e k=>(sb.2 b k).trans e
   refine ih r (oa:=fun j=>if j=i then a else oa j) (s:={ s with heap:=h',toks:=s.toks+1 }) (z.mono le fun a' q o e=>up a' o e (lo a' (List.mem_cons_of_mem _ q)).l) (Nat.succ.inj hl)
    ⟨g.fr.trans (.mk _ _ _),S',fun b o e k1 k2 k3=>up b o (g.ev.keep b o e k1 k2 k3) k2,fun b z y=>?_,fun b z=>?_,g.ev.grow.keep fun o e=>up _ o e fun z=>g.st.lt z.symm⟩ (fun a' q=>?_) q
   ·rcases ow b z with z | z
    ·obtain ⟨o,y⟩:=y;rw [z,la.d] at y;cases y
    ·exact g.ev.own b z y
   ·by_cases hb:b=c.L
    ·rw [hb];exact ns_live N'
    ·obtain ⟨o,e⟩:=g.ev.live b z;exact ⟨o,up b o e hb⟩
   ·have:=lo a' (List.mem_cons_of_mem _ q)
    exact ⟨this.d,this.f,this.g,this.l,this.t,fun z=>(ow a' z).elim (fun z=>n (z▸q)) this.o⟩
noncomputable def chkNames (k:Ck)(is:List Nat)(xs:List Expr):Bool:=(is.zip xs).all (fun p=>onName (M:=fun _=>Bool) p.2 (fun _=>false) fun x _=>k.isL p.1 x) && is.length == xs.length
theorem name_inv {a:Expr}{f:Str→Bool}:onName (M:=fun _=>Bool) a (fun _=>false) (fun x _=>f x)=true→∃ x p,a=.Name x p∧f x=true:=by
 by_cases h:a.ctorIdx=23
 ·exact Expr.Name.elim (motive_1:=fun a=>onName (M:=fun _=>Bool) a (fun _=>false) (fun x _=>f x)=true→∃ x p,a=.Name x p∧f x=true) a h fun x p e=>⟨x,p,rfl,e⟩
 ·unfold onName;rw [dif_neg h];exact fun z=>nomatch z
theorem names_cons {i:Nat}{is:List Nat}{xs:List Expr}(h:chkNames k (i::is) xs=true):∃ x p ys,xs=.Name x p::ys∧k.isL i x=true∧chkNames k is ys=true:=by
 cases xs with
 | nil=>cases h
 | cons a ys =>
  obtain ⟨h1,h2⟩:=Bool.and_eq_true_iff.mp h
  rw [List.zip_cons_cons,List.all_cons,Bool.and_eq_true] at h1
  refine x2a2 (name_inv h1.1) fun x p zq2 hx=>?_;subst zq2
  exact ⟨x,p,ys,rfl,hx,Bool.and_eq_true_iff.mpr ⟨h1.2,beq_iff_eq.mpr (Nat.succ.inj (beq_iff_eq.mp h2))⟩⟩
theorem names_nil {xs:List Expr}(h:chkNames k [] xs=true):xs=[]:=by
 cases xs with
 | nil=>rfl
 | cons=>cases h
theorem names_assign (L:Look k c):∀ {is:List Nat} {xs:List Expr},chkNames k is xs=true→Sts c is (List.map (fun x=>x.snd) (assignEach xs c.env))∧List.findIdx? (fun x=>x.fst) (assignEach xs c.env)=none∧(assignEach xs c.env).length=is.length:=by
 intro is
 induction is with
 | nil=>intro xs h;cases names_nil h;exact ⟨.nil,rfl,rfl⟩
 | cons i is ih =>
  intro xs h
  refine x3a3 (names_cons h) fun x p ys zq3 h1 h2=>?_;subst zq3
  refine an3 (isL_of L h1) fun y1 y2 y3=>?_
  refine an3 (ih h2) fun r1 r2 r3=>?_
  rw [show assignEach (.Name x p::ys) c.env=(false,assign (.Name x p) c.env)::assignEach ys c.env from rfl]
  exact ⟨.cons (fun w A v Q s z=>wpAny_assign_Name z) y1 y2 r1,by rw [List.findIdx?_cons,r2];rfl,congrArg Nat.succ r3⟩
noncomputable def multiOk (vs:List Expr):Bool:=vs.all (foldedForSure 8) || !vs.all (constantsAlone 8)
theorem any_no {vs:List Expr}(h:vs.all plX=true){f:Expr→Bool}(k:∀ x,plX x=true→f x=false):vs.any f=false:=by
 rw [List.any_eq_false]
 exact fun x hx=>Bool.eq_false_iff.mp (k x (List.all_eq_true.mp h x hx))
theorem fm2 {α β:Type}{f:α→Option β}{a b:α}{x y:β}(h1:f a=some x)(h2:f b=some y):List.filterMap f [a,b]=[x,y]:=by
 rw [List.filterMap_cons_some h1,List.filterMap_cons_some h2];rfl
theorem fm3 {α β:Type}{f:α→Option β}{a b c:α}{x y z:β}(h1:f a=some x)(h2:f b=some y)(h3:f c=some z):List.filterMap f [a,b,c]=[x,y,z]:=by
 rw [List.filterMap_cons_some h1,fm2 h2 h3]
theorem dup2 {x1 x2:Str}(hn:x1≠x2):∀ names:List Str,names=[x1,x2]→¬((names.length != 2 || names.eraseDups.length != names.length)=true):=by
 rintro _ rfl
 have n1:(x2 == x1)=false:=by rw [beq_eq_false_iff_ne];exact fun e=>hn e.symm
 show ¬((2 != 2 || (match (x2 == x1 || false) with | true=>[x1] | false=>[x1,x2]).length != 2)=true)
 rw [n1]
 exact Bool.false_ne_true
theorem dup3 {x1 x2 x3:Str}(hn:x1≠x2)(hn2:x1≠x3)(hn3:x2≠x3):∀ names:List Str,names=[x1,x2,x3]→¬((names.length != 3 || names.eraseDups.length != names.length)=true):=by
 rintro _ rfl
 have n1:(x2 == x1)=false:=by rw [beq_eq_false_iff_ne];exact fun e=>hn e.symm
 have n2:(x3 == x1)=false:=by rw [beq_eq_false_iff_ne];exact fun e=>hn2 e.symm
 have n3:(x3 == x2)=false:=by rw [beq_eq_false_iff_ne];exact fun e=>hn3 e.symm
 show ¬((3 != 3 || (List.eraseDupsBy.loop (fun x y=>x == y) [x1,x2,x3] []).length != 3)=true)
 have:List.eraseDupsBy.loop (fun x y=>x == y) [x1,x2,x3] []=[x1,x2,x3]:=by
  show (match (x2 == x1 || false) with | true=>List.eraseDupsBy.loop (fun x y=>x == y) [x3] [x1] | false=>List.eraseDupsBy.loop (fun x y=>x == y) [x3] [x2,x1])=_
  rw [n1]
  show (match (x3 == x2 || (x3 == x1 || false)) with | true=>[x1,x2] | false=>[x1,x2,x3])=_
  rw [n2,n3];rfl
 rw [this]
 exact Bool.false_ne_true
noncomputable def swF (env:Env)(n:Nat)(a:Expr):Option Str:=onName (M:=fun _=>Option Str) a (fun _=>none) fun x p=>if (env.kindOf x == some .local && p.line == n)=true then some x else none
theorem line_ok {env:Env}{x:Str}{n m:Nat}(k:env.kindOf x=some .local)(h:n=m):(env.kindOf x == some .local && n == m)=true:=by rw [k,h];exact beq_self_eq_true m
theorem sw2 {x1 x2:Str}{p1 p2 p q:Pos}{a b:Nat}{vs:List Expr}{env:Env}(hb:env.scope.kind=.function)(hl:vs.length=2)(hs:vs.all plX=true)(k1:env.kindOf x1=some .local)(k2:env.kindOf x2=some .local)(hp:p2.line=p1.line)(hn:x1≠x2)(h1:vs.all (foldedForSure 8)=false)(h2:vs.all (constantsAlone 8)=false) :
  swappedStores [.Tuple [.Name x1 p1,.Name x2 p2] a p] (.Tuple vs b q) env=pure (some [x1,x2]):=by
 have hb:env.blockKind=.function:=by unfold Env.blockKind;rw [hb];rfl
 refine (if_neg (by rw [hl,hb];exact Bool.false_ne_true)).trans ((if_neg (Bool.eq_false_iff.mp (any_no hs fun x=>by cases x <;> first | exact fun _=>rfl | exact fun z=>nomatch z))).trans ?_)
 have F:List.filterMap (swF env p1.line) [.Name x1 p1,.Name x2 p2]=[x1,x2]:=fm2 (if_pos (line_ok k1 rfl)) (if_pos (line_ok k2 hp))
 exact (if_neg (dup2 hn _ F)).trans ((if_neg (Bool.eq_false_iff.mp h1)).trans ((if_neg (Bool.eq_false_iff.mp h2)).trans (congrArg (fun n=>pure (some n)) F)))
theorem sw3 {x1 x2 x3:Str}{p1 p2 p3 p q:Pos}{a b:Nat}{vs:List Expr}{env:Env}(hb:env.scope.kind=.function)(hl:vs.length=3)(hs:vs.all plX=true)(k1:env.kindOf x1=some .local)(k2:env.kindOf x2=some .local)(k3:env.kindOf x3=some .local)(hp:p2.line=p1.line)(hp3:p3.line=p1.line)
  (hn:x1≠x2) (hn2:x1≠x3) (hn3:x2≠x3) (h1:vs.all (foldedForSure 8)=false) (h2:vs.all (constantsAlone 8)=false) :
  swappedStores [.Tuple [.Name x1 p1,.Name x2 p2,.Name x3 p3] a p] (.Tuple vs b q) env=pure (some [x1,x2,x3]):=by
 have hb:env.blockKind=.function:=by unfold Env.blockKind;rw [hb];rfl
 refine (if_neg (by rw [hl,hb];exact Bool.false_ne_true)).trans ((if_neg (Bool.eq_false_iff.mp (any_no hs fun x=>by cases x <;> first | exact fun _=>rfl | exact fun z=>nomatch z))).trans ?_)
 have F:List.filterMap (swF env p1.line) [.Name x1 p1,.Name x2 p2,.Name x3 p3]=[x1,x2,x3]:=fm3 (if_pos (line_ok k1 rfl)) (if_pos (line_ok k2 hp)) (if_pos (line_ok k3 hp3))
 exact (if_neg (dup3 hn hn2 hn3 _ F)).trans ((if_neg (Bool.eq_false_iff.mp h1)).trans ((if_neg (Bool.eq_false_iff.mp h2)).trans (congrArg (fun n=>pure (some n)) F)))
end
end
section
section
variable {w:World}{A:Around}{s:Shared}{K:Frag}{Γ:Gam}{G:List (String×V)}{k:Ck}{dep:Nat}{c:Cx}{fl:Addr→Prop}{σ:Sg}{oa:Nat→Addr}
theorem ext_but {h h':Heap}(x:Heap.ExtBut h.objs.size h h'):∀ b o,h.get? b=some o→h'.get? b=some o:=fun b o e=>x b o (fun z=>by rw [z,dead_size] at e;cases e) e
theorem Its.ext {as:List Addr}{sl:List Slot}{σ':Sg}{xs:List Value}{s':Shared}(I:Its c fl σ oa s as sl σ' xs s'){h':Heap}(kp:∀ b o,s'.heap.get? b=some o→h'.get? b=some o):Its c fl σ oa s as sl σ' xs { s' with heap:=h' } :=
 ⟨I.fr.trans (.mk _ _ _),I.st.ext0 (.of kp) (I.st.gi.keep fun b o e _=>kp b o e),I.ev.trans (Ext.of kp).ev,I.lo,I.it.mono (fun b o z=>⟨z.1,kp b o z.2⟩) fun a _ o e=>kp a o e⟩
theorem Its.rev {as:List Addr}{sl:List Slot}{σ':Sg}{xs:List Value}{s':Shared}(I:Its c fl σ oa s as sl σ' xs s'):Its c fl σ oa s as.reverse sl.reverse σ' xs.reverse s':=by
 have fe:(fun b=>b∈as∨fl b)=fun b=>b∈as.reverse∨fl b:=funext fun b=>propext (by rw [List.mem_reverse])
 have st:=I.st
 have it:=I.it.rev
 rw [fe] at st it
 exact ⟨I.fr,st,I.ev,fun a z=>I.lo a (List.mem_reverse.mp z),it⟩
theorem Its.fl' {as:List Addr}{sl:List Slot}{σ':Sg}{xs:List Value}{s':Shared}(I:Its c fl σ oa s as sl σ' xs s')(S:St c (fun b=>b∈as∨fl b) σ oa s.heap):Go c (fun b=>b∈as∨fl b) σ oa s σ' oa s':=⟨I.fr,I.st,I.ev⟩
theorem multi_core (C:Cs k w A Γ K dep c){is:Is}{as xs:List Expr}{m n:Nat}{p p' pos:Pos}{names:List Str}(hn:as.length≤1000)(h1:SIs w A Γ c is as)(st:Sts c is.ts (names.map fun n=>bindName c.env n))(hnd:is.ts.Nodup)(hl:is.ts.length=as.length)
  (hw:swappedStores [.Tuple xs m p] (.Tuple as n p') c.env=pure (some names)):SC w A Γ c (.multi is) (.Assign [.Tuple xs m p] (.Tuple as n p') pos):=fun fl σ oa s Q S q=>by
 refine Assign_Tuple_swapped (names:=names) (Tuple_ (wpAny_mono (h1 _ fl σ oa s _ S q) (fun items s₁ p=>?_) fun _ _ z=>z)) rfl hw
 refine x3a3 p fun bs sl σ₁ q₁ I hsl=>?_;clear p
 have hx:=I.it.len
 refine wpAny_newObj_type ?_ (size_ok (by rw [← hx,hsl,sizeMax_eq];exact F1 [_] [] 5156824200426168065728608 hn))
 have I₂:=I.ext (h':=s₁.heap.push (tupOf items.toArray)) fun b o e=>Heap.get?_push_of_some _ e
 have hnl:names.length=items.toArray.size:=by
  have:=st.len
  rw [hl,← hsl,hx,List.length_map] at this
  rw [List.size_toArray,this]
 rw [hnl]
 refine unpackItems_tuple C.R.hd (⟨_,Heap.get?_push_size _ rfl,rfl,_,rfl⟩:IsTup (s₁.heap.push (tupOf items.toArray)) s₁.heap.objs.size items.toArray) fun h' x=>?_
 have I₃:=(I₂.ext (ext_but x)).rev
 refine items_store (s0:=s) (σ0:=σ) (oa0:=oa) (s:={ s₁ with heap:=h' }) (is:=is.ts.reverse) (ts:=(names.reverse.map fun n=>bindName c.env n)) C.nd C.L.kind (by rw [List.map_reverse];exact st.rev) (by simpa using I₃.it)
  (by rw [List.length_reverse,List.length_reverse,hl,hsl]) ⟨I₃.fr,I₃.st,I₃.ev⟩ I₃.lo fun s' oa' g=>?_
 rw [setAll_rev _ _ _ hnd (hl.trans hsl.symm)] at g
 exact PC.next q₁ g
theorem itr_vals {h:Heap}{g:Vis}{l:List V}:∀ {xs:List Value},VRs g l xs→ItR h g (l.map .val) [] xs:=by
 induction l with
 | nil=>intro xs q;cases VRs.nil_inv q;exact .nil
 | cons v l ih=>intro xs q;refine x2a3 (VRs.cons_inv q) fun x ys zq2 r rs=>?_;subst zq2;exact .val r (ih rs)
theorem sc_unpk (C:Cs k w A Γ K dep c){ts:List Nat}{e:E}{xs:List Expr}{a:Expr}{m:Nat}{p pos:Pos}(hn:chkNames k ts xs=true)(pl:plX a=true)(hw:swappedStores [.Tuple xs m p] a c.env=pure none)(he:SE w A Γ c e a):SC w A Γ c (.unpk ts e) (.Assign [.Tuple xs m p] a pos):=fun fl σ oa s Q S q=>by
 refine an3 (names_assign C.L hn) fun st1 st2 st3=>?_
 refine Assign_Tuple (he.to S q fun v x s₁ σ₁ q₁ g₁ r₁=>?_) (by unfold swapsWithSole;exact (plain_of pl).swap _ _ _) hw
 refine x1a3 (onT_inv q₁) fun l zq1 hl q₂=>?_;subst zq1
 refine x2a4 (VR.tup_inv r₁) fun t items zq2 g hs r=>?_;subst zq2
 refine wpAny_assign_Tuple C.R.hd ⟨_,g.2,rfl,0,rfl⟩ (by rw [st3,← hl,r.length,List.size_toArray]) st2 fun h' x=>?_
 have gx:=g₁.ext (.of (ext_but x)) (g₁.st.gi.keep fun b o e _=>ext_but x b o e) s₁.toks
 have fe:fl=fun b=>b∈[]∨fl b:=funext fun b=>propext ⟨.inr,fun z=>z.elim (fun z=>absurd z List.not_mem_nil) id⟩
 have it:=itr_vals (h:=h') (g:=vz c fl σ₁ oa h') (r.mono fun b o z=>(⟨z.1,ext_but x b o z.2⟩:vis h' (Hid c.L fl σ₁ oa) b o))
 have gy:Go c (fun b=>b∈[]∨fl b) σ oa s σ₁ oa { s₁ with heap:=h' }:=by rw [← fe];exact gx
 rw [fe] at it
 exact items_store (s0:=s) (σ0:=σ) (oa0:=oa) (s:={ s₁ with heap:=h' }) (as:=[]) C.nd C.L.kind st1 (by simpa using it) (by rw [List.length_map,hl]) gy (fun a z=>absurd z List.not_mem_nil) fun s' oa' g=>PC.next q₂ g
theorem sc_aug (C:Cs k w A Γ K dep c){i:Nat}{op:Operator}{e:E}{x:Str}{a:Expr}{xp p:Pos}(h:k.isL i x=true)(he:SE w A Γ c e a):SC w A Γ c (.aug i op e) (.AugAssign (.Name x xp) op a p):=fun fl σ oa s Q S q =>
 onS_inv (kv:=fun u=>onI u fun x=>WE Γ e σ fun v σ=>binP op (.int x) v fun r=>Q .next (σ.set i (.val r))) q (fun v el q=>by
  refine an3 (isL_of C.L h) fun y1 y2 y3=>?_
  refine x1a2 (onI_inv q) fun z zq1 q=>?_;subst zq1
  refine x1a2 S.ns fun m N B=>?_
  refine x1a2 (B i x _ y1 el) fun y n r=>?_
  obtain ⟨t,rfl⟩:=VR.int_inv r
  have hy:m x=some (.int z t):=by
   rcases n with n | ⟨n,_⟩
   ·exact n.2
   ·rcases n with n | n
    ·rw [y2] at n;cases n
    ·rw [y2] at n;cases n.1
  refine wpAny_AugAssign_Name (wpAny_loadName_local C.L.kind y2 N hy (he.to S q fun v y s₁ σ₁ q₁ g₁ r₁=>ibin_rule (VR.int z t:VR (vz c fl σ₁ oa s₁.heap) _ _) r₁ q₁ fun j u qj=>?_))
  exact store_at C h (g₁.tk _) (.int j u) qj) (fun _ _ z=>z.elim) fun _ _ z=>z.elim
end
end
section
section
variable {w:World}{A:Around}{s:Shared}{K:Frag}{Γ:Gam}{G:List (String×V)}{k:Ck}{dep:Nat}{c:Cx}{fl:Addr→Prop}{σ:Sg}{oa:Nat→Addr}
theorem ob_at {i:Nat}{x:Str}{b:Bool}{l:List V}{h:Heap}(S:St c fl σ oa h)(hx:c.vars[i]?=some x)(e:σ[i]?=some (obS b l)):∃ m,h.Ns c.L m∧NameAt c h m x (.ref (oa i)):=by
 refine x1a2 S.ns fun m N B=>?_
 have:=B i x _ hx e
 cases b <;> exact ⟨m,N,.inl this⟩
theorem Go.turn1 {σ₀:Sg}{oa₀:Nat→Addr}{s₀:Shared}(g:Go c fl σ₀ oa₀ s₀ σ oa s){h':Heap}{i:Nat}{l l':List V}{b:Bool}{items:List Value}{n:Nat}(e:σ[i]?=some (obS b l))(sb:Heap.SameBut (oa i) s.heap h')
  (gg:h'.get? (oa i)=some (listOf items.toArray n)) (hs:items.length≤sMx) (r:VRs (vz c fl σ oa s.heap) l' items):Go c fl σ₀ oa₀ s₀ (σ.set i (obS b l')) oa { s with heap:=h' }:=by
 have O:=g.st.ob e
 have kp:∀ b o,s.heap.get? b=some o→b≠oa i→h'.get? b=some o:=fun b o z y=>(sb.2 b y).trans z
 obtain ⟨S',e'⟩:=g.st.turn e (fun b o z _ y=>kp b o z y) (.of fun o z=>kp _ o z (Ne.symm O.nT)) (g.st.gi.keep fun b o z y=>kp b o z fun u=>by
  subst u
  refine x2a2 O.has.has fun its n' f3 _=>?_
  rcases y with y | y | ⟨_,vs,y⟩
  ·rw [O.g0] at y;cases y
  ·exact O.nT y
  ·rw [f3] at z;cases z;cases y) ⟨items,n,gg,hs,r.mono fun b o z=>⟨z.1,kp b o z.2 fun u=>z.1 (.inr (.inr (.inl ⟨i,l,ob_of e,u.symm⟩)))⟩⟩
 exact g.trans ⟨.mk s h' s.toks,S',e'⟩
theorem setL_core (C:Cs k w A Γ K dep c){i:Nat}{x:Str}{xp:Pos}{idx:E}{j:Expr}{b:Bool}{l:List V}{v:V}{y:Value}{Q:FL→Sg→Prop}(h1:k.isL i x=true)(hj:SE w A Γ c idx j){σ₀:Sg}{oa₀:Nat→Addr}{s₀:Shared}(g:Go c fl σ₀ oa₀ s₀ σ oa s)
  (e:σ[i]?=some (obS b l)) (r:VR (vz c fl σ oa s.heap) v y) (q:WE Γ idx σ fun k τ=>setP (obS b) l v k i σ τ Q) :
  wpAny (model PG w) A (eval (.Name x xp) c.env) (fun ov s₂=>wpAny (model PG w) A (eval j c.env) (fun iv s₃=>wpAny (model PG w) A (setItem ov iv y) (fun _ s'=>PC c fl σ₀ oa₀ s₀ Q .next s') Ed s₃) Ed s₂) Ed s:=by
 refine an3 (isL_of C.L h1) fun y1 y2 y3=>?_
 refine x1a2 (ob_at g.st y1 e) fun m N nm=>?_
 refine name_at C.L.kind N nm y3 (hj.to g.st q fun vi z s₂ σ₂ q₂ g₂ r₂=>?_)
 obtain ⟨rfl,q₂⟩:=q₂
 obtain ⟨kk,rfl,⟨k0,kl⟩,q₂⟩:=onI_inv q₂
 obtain ⟨_,rfl⟩:=r₂.int_inv
 obtain ⟨items,n,gg,hs,rs⟩:=(g₂.st.ob e).has
 have hl:=rs.length
 have hm:=sizeMax_eq
 refine ki_setAt gg k0 (by exact F4 [_,_,_] [_] 8914269101966010019742315112599364689523915853506410639802464 kl hs hl hm) (by rw [List.size_toArray];exact F2 [_,_] [_] 25589947189191325792 kl hl) ?_
 have hmap:Obj.mapSeq (fun x=>x.setIfInBounds kk.toNat y) (listOf items.toArray n)=listOf (items.set kk.toNat y).toArray n:=by
  simp [Obj.mapSeq]
 exact PC.next q₂ ((g.trans g₂).turn1 (h':=s₂.heap.update (oa i) (Obj.mapSeq fun x=>x.setIfInBounds kk.toNat y)) e (Heap.SameBut.update ..) (items:=items.set kk.toNat y) (n:=n)
  (by rw [Heap.get?_update_self _ gg (by rw [hmap];rfl),hmap]) (by rw [List.length_set];exact hs) (VRs.set (r.mono g₂.le) rs kk.toNat))
theorem sc_setL (C:Cs k w A Γ K dep c){i:Nat}{idx e:E}{x:Str}{j a:Expr}{xp p p':Pos}(h:k.isL i x=true)(pl:plX a=true)(hj:SE w A Γ c idx j)(he:SE w A Γ c e a):SC w A Γ c (.setL i idx e) (.Assign [.Subscript (.Name x xp) j p] a p'):=fun fl σ oa s Q S q =>
 wpAny_Assign_Subscript (he.to (Q:=fun v σ=>onS σ[i]? (fun _=>False) (fun l=>WE Γ idx σ fun k τ=>setP .own l v k i σ τ Q) (fun l=>WE Γ idx σ fun k τ=>setP .bor l v k i σ τ Q)) S q fun v y s₁ σ₁ q₁ g₁ r₁ =>
  onS_inv q₁ (fun _ _ z=>z.elim) (fun l el q=>setL_core (b:=true) C h hj g₁ el r₁ q) (fun l el q=>setL_core (b:=false) C h hj g₁ el r₁ q)) ((plain_of pl).swap _ _ _)
theorem inter {env:Env}(h:env.scope.kind=.function):interactive env=false:=by unfold interactive;rw [h];rfl
theorem sc_app (C:Cs k w A Γ K dep c){i:Nat}{e:E}{x:Str}{a:Expr}{xp ap p pos:Pos}(h1:k.isL i x=true)(h3:ap.endLine=p.line)(pl:plX a=true)(he:SE w A Γ c e a):SC w A Γ c (.app i e) (.Expr (.Call (.Attribute (.Name x xp) ("append" : Str) ap) [a] [] p) pos):=fun fl σ oa s Q S q =>
 onS_inv (ko:=fun l=>WE Γ e σ fun v τ=>τ=σ∧l.length<sMx∧Q .next (σ.set i (.own (l++[v])))) q (fun _ _ z=>z.elim) (fun l el q=>by
  refine an3 (isL_of C.L h1) fun y1 y2 y3=>?_
  refine x1a2 (ob_at (b:=true) S y1 el) fun m N nm=>?_
  obtain ⟨its,n,g,_,_⟩:=(S.ob (b:=true) el).has
  have hst:=stC (rest:=[]) (env:=c.env) pl
  refine wpAny_Expr (wpAny_Call_append rfl (by rw [hst];rfl) (by rw [h3];exact beq_self_eq_true _) (by rw [hst];rfl) (name_at C.L.kind N nm y3 ?_)) (inter C.L.kind) rfl
  refine ⟨oa i,its.toArray,rfl,⟨_,n,g,rfl,rfl,rfl⟩,he.to S q fun v y s₁ σ₁ q₁ g₁ r₁=>?_⟩
  refine an3 q₁ fun zq0 hsz q₁=>?_;subst zq0
  obtain ⟨items,n',g',hs,rs⟩:=(g₁.st.ob (b:=true) el).has
  have hl:=rs.length
  have hm:=sizeMax_eq
  refine wpAny_list_append_plain (items:=items.toArray) ⟨n',g'⟩ (fun h' pl sb=>?_) (by rw [List.size_toArray,sizeLine_eq];exact F2 [_,_] [] 353400704935545040263574634794860640 hs hm)
  obtain ⟨n₂,g₂⟩:=pl
  rw [List.push_toArray] at g₂
  exact PC.next q₁ (g₁.turn1 (b:=true) (l':=l++[v]) el sb g₂ (by rw [List.length_append,List.length_singleton];exact F2 [_,_,_] [] 20214422409240987744 hsz hl) (VRs.append (.cons r₁ .nil) rs))) fun _ _ z=>z.elim
theorem sc_expr (C:Cs k w A Γ K dep c){e:E}{a:Expr}{p:Pos}(pl:plX a=true)(he:SE w A Γ c e a):SC w A Γ c (.expr e) (.Expr a p):=fun fl σ oa s Q S q =>
 wpAny_Expr (he.to S q fun v y s₁ σ₁ q₁ g₁ r₁=>by obtain ⟨rfl,q⟩:=onN_inv q₁;cases r₁.none_inv;exact PC.next q g₁) (inter C.L.kind) ((plain_of pl).swap _ _ _)
theorem sc_exprB (C:Cs k w A Γ K dep c){f:E}{i:Nat}{args:Es}{a:Expr}{p:Pos}(pl:plX a=true)(he:SE w A Γ c (.callB f i args) a):SC w A Γ c (.exprB f i args) (.Expr a p):=fun fl σ oa s Q S q =>
 wpAny_Expr (he.to (Q:=fun v σ=>onN v (Q .next σ)) S q fun v y s₁ σ₁ q₁ g₁ r₁=>by obtain ⟨rfl,q⟩:=onN_inv q₁;cases r₁.none_inv;exact PC.next q g₁) (inter C.L.kind) ((plain_of pl).swap _ _ _)
theorem sc_ret {e:E}{a:Expr}{p:Pos}(he:SE w A Γ c e a):SC w A Γ c (.ret e) (.Return (some a) p):=fun fl σ oa s Q S q =>
 wpAny_Return_some (he.to S q fun v y s₁ σ₁ q₁ g₁ r₁=>⟨.ret v,σ₁,oa,q₁,⟨y,rfl,r₁⟩,g₁⟩)
theorem sc_ifs {e:E}{t f:C}{a:Expr}{b o:List Stmt}{p:Pos}(he:ST w A Γ c e a)(ht:SB w A Γ c t b)(hf:SB w A Γ c f o):SC w A Γ c (.ifs e t f) (.If a b o p):=fun fl σ oa s Q S q =>
 wpAny_If (he.to (Q:=fun b τ=>if b=true then W Γ t τ Q else W Γ f τ Q) S q fun b s₁ σ₁ q₁ g₁=>by
  cases b with
  | false=>exact hf.to g₁.st q₁ fun F f s₂ σ₂ oa₂ q₂ r₂ g₂=>⟨F,σ₂,oa₂,q₂,r₂,g₁.trans g₂⟩
  | true=>exact ht.to g₁.st q₁ fun F f s₂ σ₂ oa₂ q₂ r₂ g₂=>⟨F,σ₂,oa₂,q₂,r₂,g₁.trans g₂⟩)
theorem lp_inv {g:Vis}{F:FL}{f:Flow}{N:Sg→Prop}{Q:FL→Sg→Prop}{τ:Sg}(q:lpP N Q F τ)(r:FR g F f){R:Prop}(a:(f=.next∨f=.cont)→N τ→R)(b:f=.brk→Q .next τ→R)(d:∀ v x,f=.ret x→Q (.ret v) τ→VR g v x→R):R:=by
 cases F with
 | next=>exact a (.inl r) q
 | cont=>exact a (.inr r) q
 | brk=>exact b r q
 | ret v=>refine x1a2 r fun x e r=>?_;exact d v x e q r
theorem sc_whl {e:E}{b:C}{a:Expr}{body:List Stmt}{p:Pos}(he:ST w A Γ c e a)(hb:SB w A Γ c b body):SC w A Γ c (.whl e b) (.While a body [] p):=fun fl σ oa s Q S q=>by
 obtain ⟨α,st,P,μ,⟨x,e0,p0⟩,stp⟩:=q
 refine wpAny_While (codeAny_whileLoop (fun n s'=>∃ x oa',n=μ x∧P x∧Go c fl σ oa s (st x) oa' s') ?_ (μ x) ⟨x,oa,rfl,p0,e0▸.refl S⟩)
 refine fun _ s₁ zh=>x2a3 zh fun x oa₁ zq p₁ g₁=>?_;clear zh;subst zq
 refine wpAny_mono (he _ _ _ _ (fun z τ=>if z=true then W Γ b τ (LQ st (fun y=>μ y<μ x∧P y) Q) else Q .next τ) g₁.st (stp x p₁)) (fun z s₂ p=>?_) fun _ _ z=>z.elim
 refine x1a2 p fun σ₂ q₂ g₂=>?_;clear p
 cases z with
 | false=>exact wpAny_execs_nil (PC.next q₂ (g₁.trans g₂))
 | true =>
  refine wpAny_mono (hb _ _ _ _ _ g₂.st q₂) (fun f s₃ p=>?_) fun _ _ z=>z.elim
  refine x3a3 p fun F σ₃ oa₃ q₃ r₃ g₃=>?_;clear p
  refine lp_inv q₃ r₃ (fun e q=>?_) (fun e q=>?_) fun v x e q r=>?_
  ·refine x1a3 q fun y zq1 lt py=>?_;clear q;subst zq1
   rcases e with rfl | rfl <;> exact ⟨_,lt,y,oa₃,rfl,py,(g₁.trans g₂).trans g₃⟩
  ·subst e;exact PC.next q ((g₁.trans g₂).trans g₃)
  ·subst e;exact ⟨.ret v,σ₃,oa₃,q,⟨x,rfl,r⟩,(g₁.trans g₂).trans g₃⟩
def IterO (o:Obj):Prop:=(∀ vs t,o.data=.fields vs→vs[1]?≠some (.str mulQual t))∧∀ v,o.data≠.cell v
theorem St.touch {wr fl':Addr→Prop}{h h':Heap}(S:St c fl' σ oa h)(k:∀ b o,¬wr b→h.get? b=some o→h'.get? b=some o)
  (ww:∀ b,wr b→fl' b∧¬OwnA σ oa b∧b≠c.L∧b≠tabA∧c.g0.get? b=none∧∀ o,h.get? b=some o→IterO o)
  (sub:∀ b,fl b→fl' b) (bo:∀ b,fl' b→¬fl b→¬OwnA σ oa b) (lv:∀ b,fl b→LiveN h' b) :
  St c fl σ oa h'∧Le (vz c fl' σ oa h) (vz c fl σ oa h'):=by
 have le:Le (vz c fl' σ oa h) (vz c fl σ oa h'):=fun b o z=>⟨fun y=>z.1 (by
  rcases y with y | y | y | y
  ·exact .inl y
  ·exact .inr (.inl y)
  ·exact .inr (.inr (.inl y))
  ·exact .inr (.inr (.inr (sub b y)))),k b o (fun y=>z.1 (.inr (.inr (.inr (ww b y).1)))) z.2⟩
 have nL:¬wr c.L:=fun y=>(ww _ y).2.2.1 rfl
 have nT:¬wr tabA:=fun y=>(ww _ y).2.2.2.1 rfl
 refine ⟨⟨?_,S.lg,S.lt,lv,S.len,?_,fun i l q=>?_,fun i l q=>?_,S.dis⟩,le⟩
 ·refine an2 S.gi fun g1 zr0=>x1a2 zr0 fun ps e t=>?_;clear zr0
  refine ⟨fun b o q=>k b o (fun y=>by rw [(ww b y).2.2.2.2.1] at q;cases q) (g1 b o q),ps,k _ _ nT e,?_⟩
  rcases t with t | ⟨c',ne,e,c₁,oc,vs,tk,e1,e2,e3,e4⟩
  ·exact .inl t
  ·cases e1
   exact .inr ⟨_,ne,e,_,oc,vs,tk,rfl,k _ _ (fun y=>((ww _ y).2.2.2.2.2 _ e2).1 _ _ e3 e4) e2,e3,e4⟩
 ·refine x1a2 S.ns fun m N B=>?_
  exact ⟨m,N.at' fun o e=>k _ o nL e,fun i x sl a b=>(B i x sl a b).move rfl rfl (fun a' o v q d=>k a' o (fun y=>((ww _ y).2.2.2.2.2 _ q).2 _ d) q) le⟩
 ·refine an5 (S.own i l q) fun a1 a2 a3 a4 a5=>?_
  exact ⟨fun z=>a1 (sub _ z),a2,a3,a4,a5.mono (fun o e=>k _ o (fun y=>(ww _ y).2.1 ⟨i,l,.inl q,rfl⟩) e) le⟩
 ·refine an5 (S.bor i l q) fun a1 a2 a3 a4 a5=>?_
  exact ⟨Classical.byContradiction fun z=>bo _ a1 z ⟨i,l,.inr q,rfl⟩,a2,a3,a4,a5.mono (fun o e=>k _ o (fun y=>(ww _ y).2.1 ⟨i,l,.inr q,rfl⟩) e) le⟩
end
end
section
section
variable {w:World}{A:Around}{s:Shared}{K:Frag}{Γ:Gam}{G:List (String×V)}{k:Ck}{dep:Nat}{c:Cx}{fl:Addr→Prop}{σ:Sg}{oa:Nat→Addr}
abbrev fw (wr:List Addr)(fl:Addr→Prop)(b:Addr):Prop:=b∈wr∨fl b
structure Lp (c:Cx) (fl:Addr→Prop) (wr fp:List Addr) (σ0:Sg) (oa0:Nat→Addr) (s0:Shared):Prop where
 S0:St c fl σ0 oa0 s0.heap
 sub:∀ b∈wr,b∈fp
 f:∀ b∈fp,b≠c.L∧b≠tabA
 d:∀ b∈wr,s0.heap.get? b=none
structure Hd (c:Cx) (fl:Addr→Prop) (wr fp:List Addr) (σ0:Sg) (oa0:Nat→Addr) (s0:Shared) (σ:Sg) (oa:Nat→Addr) (s:Shared):Prop where
 go:Go c (fw wr fl) σ0 oa0 s0 σ oa s
 no:∀ b∈fp,¬OwnA σ oa b
 lv:∀ b∈fp,Live s.heap b
 io:∀ b∈wr,∀ o,s.heap.get? b=some o→IterO o
section
variable {wr fp:List Addr}{σ0 σ':Sg}{oa0 oa':Nat→Addr}{s0 s':Shared}
theorem Lp.ww (L:Lp c fl wr fp σ0 oa0 s0)(H:Hd c fl wr fp σ0 oa0 s0 σ oa s):∀ b,b∈wr→fw wr fl b∧¬OwnA σ oa b∧b≠c.L∧b≠tabA∧c.g0.get? b=none∧∀ o,s.heap.get? b=some o→IterO o:=fun b z =>
 ⟨.inl z,H.no b (L.sub b z),(L.f b (L.sub b z)).1,(L.f b (L.sub b z)).2,L.S0.gi.dead (L.d b z),H.io b z⟩
theorem Lp.fr {h':Heap}(L:Lp c fl wr fp σ0 oa0 s0)(H:Hd c fl wr fp σ0 oa0 s0 σ oa s)(kp:∀ b o,b∉wr→s.heap.get? b=some o→h'.get? b=some o):Ev c.L σ0 oa0 s0.heap σ oa h' :=
 ⟨fun b o e k1 k2 k3=>kp b o (fun z=>by rw [L.d b z] at e;cases e) (H.go.ev.keep b o e k1 k2 k3),H.go.ev.own,fun b z=>by
  obtain ⟨o,e⟩:=H.go.ev.live b z
  exact ⟨o,kp b o (fun y=>by obtain ⟨o',z⟩:=z;rw [L.d b y] at z;cases z) e⟩,H.go.ev.grow.keep fun o e=>kp _ o (fun z=>(L.ww H _ z).2.2.2.1 rfl) e⟩
theorem Lp.touch {h':Heap}{tk:Nat}(L:Lp c fl wr fp σ0 oa0 s0)(H:Hd c fl wr fp σ0 oa0 s0 σ oa s)(kp:∀ b o,b∉wr→s.heap.get? b=some o→h'.get? b=some o)(lv:∀ b∈fp,Live h' b)(io:∀ b∈wr,∀ o,h'.get? b=some o→IterO o) :
  Hd c fl wr fp σ0 oa0 s0 σ oa { s with heap:=h',toks:=tk } :=
 ⟨⟨H.go.fr.trans (.mk _ _ _),(H.go.st.touch (fl:=fw wr fl) (wr:=(·∈wr)) (h':=h') kp (L.ww H) (fun _ z=>z) (fun b z y=>absurd z y) (fun b z=>by
  by_cases hb:b∈wr
  ·obtain ⟨o,e⟩:=lv b (L.sub b hb);exact ⟨o,e,.inr (io b hb o e).1⟩
  ·refine x1a2 (H.go.st.flt b z) fun o e n=>?_;exact ⟨o,kp b o hb e,n⟩)).1,L.fr H kp⟩,H.no,lv,io⟩
theorem Lp.run (L:Lp c fl wr fp σ0 oa0 s0)(H:Hd c fl wr fp σ0 oa0 s0 σ oa s)(g:Go c (fw wr fl) σ oa s σ' oa' s'):Hd c fl wr fp σ0 oa0 s0 σ' oa' s'∧∀ b∈fp,∀ o,s.heap.get? b=some o→s'.heap.get? b=some o:=by
 have kp:∀ b∈fp,∀ o,s.heap.get? b=some o→s'.heap.get? b=some o:=fun b z o e=>g.ev.keep b o e (L.f b z).2 (L.f b z).1 (H.no b z)
 refine ⟨⟨H.go.trans g,fun b z y=>H.no b z (g.ev.own b y (H.lv b z)),fun b z=>?_,fun b z o e=>?_⟩,kp⟩
 ·obtain ⟨o,e⟩:=H.lv b z;exact ⟨o,kp b z o e⟩
 ·obtain ⟨o',e'⟩:=H.lv b (L.sub b z)
  rw [kp b (L.sub b z) o' e'] at e
  exact Option.some.inj e▸H.io b z o' e'
theorem Lp.out {h':Heap}{tk:Nat}{Q:FL→Sg→Prop}{F:FL}{f:Flow}(L:Lp c fl wr fp σ0 oa0 s0)(H:Hd c fl wr fp σ0 oa0 s0 σ oa s)(kp:∀ b o,b∉wr→s.heap.get? b=some o→h'.get? b=some o)(q:Q F σ)(r:FR (vz c (fw wr fl) σ oa s.heap) F f) :
  PC c fl σ0 oa0 s0 Q f { s with heap:=h',toks:=tk }:=by
 obtain ⟨S,le⟩:=H.go.st.touch (fl:=fl) (wr:=(·∈wr)) (h':=h') kp (L.ww H) (fun b z=>.inr z) (fun b z y=>z.elim (fun z=>H.no b (L.sub b z)) fun z=>absurd z y) (fun b z=>by
  refine x1a2 (H.go.st.flt b (.inr z)) fun o e n=>?_
  exact ⟨o,kp b o (fun y=>by refine x1a2 (L.S0.flt b z) fun o' e' _=>?_;rw [L.d b y] at e';cases e') e,n⟩)
 exact ⟨F,σ,oa,q,r.mono le,H.go.fr.trans (.mk _ _ _),S,L.fr H kp⟩
theorem Lp.le (L:Lp c fl wr fp σ0 oa0 s0)(H:Hd c fl wr fp σ0 oa0 s0 σ oa s):Le (vz c fl σ0 oa0 s0.heap) (vz c (fw wr fl) σ oa s.heap):=fun b o z=>by
 have nL:b≠c.L:=fun y=>z.1 (.inl y)
 have nT:b≠tabA:=fun y=>z.1 (.inr (.inl y))
 have nO:¬OwnA σ0 oa0 b:=fun y=>z.1 (.inr (.inr (.inl y)))
 refine ⟨fun y=>?_,H.go.ev.keep b o z.2 nT nL nO⟩
 rcases y with y | y | y | y | y
 ·exact nL y
 ·exact nT y
 ·exact nO (H.go.ev.own b y ⟨o,z.2⟩)
 ·have:=z.2;rw [L.d b y] at this;cases this
 ·exact z.1 (.inr (.inr (.inr y)))
theorem Lp.store (C:Cs k w A Γ K dep c){i:Nat}{x:Str}{v:V}{y:Value}(hi:k.isL i x=true)(L:Lp c fl wr fp σ0 oa0 s0)(H:Hd c fl wr fp σ0 oa0 s0 σ oa s)(r:VR (vz c (fw wr fl) σ oa s.heap) v y){Z:Unit→Shared→Prop}
  (k:∀ s₂,Hd c fl wr fp σ0 oa0 s0 (σ.set i (.val v)) oa s₂→(∀ b∈fp,∀ o,s.heap.get? b=some o→s₂.heap.get? b=some o)→Le (vz c (fw wr fl) σ oa s.heap) (vz c (fw wr fl) (σ.set i (.val v)) oa s₂.heap)→Z () s₂):wpAny (model PG w) A (storeName c.env x y) Z Ed s:=by
 refine an3 (isL_of C.L hi) fun y1 y2 y3=>?_
 refine x1a2 H.go.st.ns fun m N _=>?_
 refine store_rule y2 C.L.kind N fun h' N' sb=>?_
 obtain ⟨S₂,e₂⟩:=H.go.st.store C.nd y1 y2 N r N' sb
 have g:Go c (fw wr fl) σ oa s (σ.set i (.val v)) oa { s with heap:=h',toks:=s.toks+1 }:=⟨.mk _ _ _,S₂,e₂⟩
 obtain ⟨H',kp⟩:=L.run H g
 exact k _ H' kp g.le
end
theorem for_core {b:C}{I:Addr}{t:Expr}{body:List Stmt}{wr fp:List Addr}{n:Nat}{Stt:Nat→Heap→Prop}{T:Nat→Sg→Sg→Prop}{σ0:Sg}{oa0:Nat→Addr}{s0 s1:Shared}(hb:SB w A Γ c b body)(L:Lp c fl wr fp σ0 oa0 s0)
  (fr:∀ j h h',Stt j h→(∀ b∈fp,∀ o,h.get? b=some o→h'.get? b=some o)→Stt j h')
  (item:∀ j σ oa s (Z:Option Value→Shared→Prop) (E:Value→Shared→Prop),j<n→Stt j s.heap→Hd c fl wr fp σ0 oa0 s0 σ oa s→(∀ v s₁,wpAny (model PG w) A (letOwnedTupleGo t (.ref I) v) (fun _ s₁'=>wpAny (model PG w) A (assign t c.env v)
   (fun _ s₂=>Stt (j+1) s₂.heap∧∃ σ',T j σ σ'∧Hd c fl wr fp σ0 oa0 s0 σ' oa s₂) Ed s₁') Ed s₁→Z (some v) s₁)→wpAny (model PG w) A (pyNext (.ref I)) Z E s)
  (done:∀ (s:Shared) (Q:Option Value→Shared→Prop) (E:Value→Shared→Prop),Stt n s.heap→(∀ h' tk,(∀ b o,b∉wr→s.heap.get? b=some o→h'.get? b=some o)→Q none { s with heap:=h',toks:=tk })→wpAny (model PG w) A (pyNext (.ref I)) Q E s)
  (H1:Hd c fl wr fp σ0 oa0 s0 σ0 oa0 s1) (st0:Stt 0 s1.heap) {Q:FL→Sg→Prop} {α:Type} {st:α→Sg} {P:Nat→α→Prop} {x:α} (e0:σ0=st x) (p0:P 0 x)
  (bd:∀ j x σ',P j x→T j (st x) σ'→W Γ b σ' (LQ st (P (j+1)) Q)) (fin:∀ x,P n x→Q .next (st x)) {R:Result→Shared→Prop} (hR:∀ f s',PC c fl σ0 oa0 s0 Q f s'→R (.ok f) s') :
  codeAny (model PG w) A (.forLoop t (.ref I) body [] c.env) R s1:=by
 refine codeAny_forLoop_any (fun m s'=>∃ j x oa,m=n+1-j∧j≤n∧P j x∧Stt j s'.heap∧Hd c fl wr fp σ0 oa0 s0 (st x) oa s') ?_ (n+1) ⟨0,x,oa0,rfl,Nat.zero_le _,p0,st0,e0▸H1⟩
 clear H1 st0 p0 e0
 refine fun m s zh=>x3a5 zh fun j x oa zq hj hp hst H=>?_;clear zh;subst zq
 by_cases hlt:j<n
 ·refine item j _ oa s _ _ hlt hst H fun v s₁ w₁=>wpAny_mono w₁ (fun _ s₁' w₂=>wpAny_mono w₂ (fun _ s₂ p=>?_) fun _ _ z=>z.elim) fun _ _ z=>z.elim
  clear w₁ w₂ hst H
  refine an2 p fun hst zr0=>x1a2 zr0 fun σ' ht H=>?_;clear p zr0
  refine wpAny_mono (hb _ _ _ _ _ H.go.st (bd j x σ' hp ht)) (fun f s₃ p=>?_) fun _ _ z=>z.elim
  refine x3a3 p fun F σ₃ oa₃ q₃ r₃ g₃=>?_;clear p
  obtain ⟨H₃,kp⟩:=L.run H g₃
  refine lp_inv q₃ r₃ (fun e q=>?_) (fun e q=>?_) fun v x e q r=>?_
  ·refine x1a2 q fun y zq1 py=>?_;clear q;subst zq1
   rcases e with rfl | rfl <;> exact ⟨_,by exact F2 [_,_,_,_] [] 6021361560946777630415549726996576 sb1 (nSc (F1 [_,_] [] 308512045005875296 hlt)),j+1,y,oa₃,rfl,hlt,py,fr _ _ _ hst kp,H₃⟩
  ·subst e;exact hR _ _ (L.out H₃ (fun _ _ _ e=>e) q rfl)
  ·subst e;exact hR _ _ (L.out H₃ (fun _ _ _ e=>e) q ⟨_,rfl,r⟩)
 ·cases nAs hj (Nat.not_lt.mp hlt)
  exact done s _ _ hst fun h' tk kp=>wpAny_execs_nil (hR _ _ (L.out H kp (fin x hp) rfl))
theorem for_walk {b:C}(C:Cs k w A Γ K dep c){I i:Nat}{x:Str}{px:Pos}{body:List Stmt}{fp wr:List Addr}{n:Nat}{Pv:Nat→Value→Prop}{Stt:Nat→Heap→Prop}(hi:k.isL i x=true)(hb:SB w A Γ c b body)(Wk:Walks PG w A I fp wr n Pv Stt)
  (lv:∀ j h,Stt j h→(∀ b∈fp,Live h b)∧∀ b∈wr,∀ o,h.get? b=some o→IterO o) {s0 s1:Shared} (L:Lp c fl wr fp σ oa s0) (g1:Go c (fw wr fl) σ oa s0 σ oa s1) (no:∀ b∈fp,¬OwnA σ oa b) (st0:Stt 0 s1.heap)
  {vs:List V} (hn:vs.length=n) (hv:∀ j y,j<n→Pv j y→∃ v,vs[j]?=some v∧VR (vz c fl σ oa s0.heap) v y) {Q:FL→Sg→Prop} {α:Type} {st:α→Sg} {P:Nat→α→Prop} {x0:α} (e0:σ=st x0) (p0:P 0 x0)
  (bd:∀ j v x,vs[j]?=some v→P j x→W Γ b ((st x).set i (.val v)) (LQ st (P (j+1)) Q)) (fin:∀ x,P vs.length x→Q .next (st x)) {R:Result→Shared→Prop} (hR:∀ f s',PC c fl σ oa s0 Q f s'→R (.ok f) s') :
  codeAny (model PG w) A (.forLoop (.Name x px) (.ref I) body [] c.env) R s1:=by
 refine for_core (T:=fun j σ σ'=>∃ v,vs[j]?=some v∧σ'=σ.set i (.val v)) hb L Wk.frame (fun j σ₁ oa₁ s Z E hj hst H z=>?_) Wk.done ⟨g1,no,(lv _ _ st0).1,(lv _ _ st0).2⟩ st0 e0 p0 (fun j x σ' p t=>?_) (hn▸fin) hR
 ·refine Wk.item j s _ _ hj hst fun y h₁ tk₁ hP hst₁ hk₁=>z y _ (wpAny_of_eq (a:=()) rfl (wpAny_assign_Name ?_))
  refine x1a2 (hv j y hj hP) fun v ev rv=>?_
  have H₁:=L.touch (tk:=tk₁) H hk₁ (lv _ _ hst₁).1 (lv _ _ hst₁).2
  exact L.store C hi H₁ (rv.mono (L.le H₁)) fun s₂ H₂ kp _=>⟨Wk.frame _ _ _ hst₁ kp,_,⟨v,ev,rfl⟩,H₂⟩
 ·refine x1a2 t fun v e zq2=>?_;clear t;subst zq2
  exact bd j v x e p
end
end
section
section
variable {w:World}{A:Around}{s:Shared}{K:Frag}{Γ:Gam}{G:List (String×V)}{k:Ck}{dep:Nat}{c:Cx}{fl:Addr→Prop}{σ:Sg}{oa:Nat→Addr}
theorem small_of {a b c:Int}(ha:a.natAbs<2^40)(hb:b.natAbs<2^40)(hc:c.natAbs<2^40):Builtin.Range.small a b c=true:=by
 have h1:=rangeSize_toNat a b c
 have h2:=rangeSize_toNat_le a b c
 have nb:∀ {x:Int},x.natAbs<2^40→-1099511627776<x∧x<1099511627776:=fun h=>⟨nac (fun k7 k8=>F1 [] [_] 28167727214555371266631883781 k7) fun k7 k8=>F2 [_] [_] 8513173177384411965148215421648051223922907209990944 h k8,nac (fun k15 k16=>F2 [_] [_] 2027048535565639556706249745240358772345655198496 h k16) fun k15 k16=>F1 [] [_] 429244223826919278889750896 k15⟩
 have nt:∀ {x:Int},x<2199023255552→x.toNat<2199023255552:=fun h=>(Int.toNat_lt' (by decide)).mpr h
 obtain ⟨a1,a2⟩:=nb ha
 obtain ⟨b1,b2⟩:=nb hb
 obtain ⟨c1,c2⟩:=nb hc
 have h3:(b-a).toNat+(a-b).toNat<2199023255552+2199023255552:=Nat.add_lt_add (nt (by clear h1 h2;exact F2 [] [_,_] 9574151060171871125158356890258370005768874321875628034153032343122032 a1 b2)) (nt (by clear h1 h2;exact F2 [] [_,_] 9574151060171871125158266960765513615517899485248173764752299912069569 a2 b1))
 generalize (b-a).toNat+(a-b).toNat=t at h2 h3
 generalize hr:(Builtin.Range.rangeSize a b c).toNat=r at h1 h2
 unfold Builtin.Range.small Builtin.Range.rangeFitsLong
 rw [Bool.and_eq_true,Bool.and_eq_true,Bool.and_eq_true,Bool.and_eq_true,Bool.and_eq_true,Bool.and_eq_true,Bool.and_eq_true,Bool.and_eq_true,Bool.or_eq_true]
 simp only [decide_eq_true_eq]
 clear ha hb hc
 refine ⟨⟨⟨⟨⟨by exact F1 [] [_] 520897829108591310707679420041168783468898689832976833 a1,by exact F1 [] [_] 129719688294659281669625708492812448978607961829488 a2⟩,⟨by exact F1 [] [_] 520897829108591310707679420041168783468898689832976833 b1,by exact F1 [] [_] 129719688294659281669625708492812448978607961829488 b2⟩⟩,⟨by exact F1 [] [_] 520897829108591310707679420041168783468898689832976833 c1,by exact F1 [] [_] 129719688294659281669625708492812448978607961829488 c2⟩⟩,⟨by exact F1 [_] [_] 28915638167680907705685523503345879088 h1,by exact F3 [_,_] [_] 10277452545508978876618688467302561207219562277949347347184014881972079749568608 h3 h1 h2⟩⟩,.inr ?_⟩
 split
 ·rename_i hc
  rw [Bool.and_eq_true,decide_eq_true_eq,decide_eq_true_eq]
  exact ⟨by exact F2 [] [_,_] 2233312354943924085409785957837310091045223265439154180339779595269 b1 hc,by exact F2 [] [_,_] 10277452545508978876618688454183963759264885848279097696410600148883957933437040 b2 c2⟩
 ·rename_i hc
  rw [Bool.and_eq_true,decide_eq_true_eq,decide_eq_true_eq]
  exact ⟨by exact F2 [] [_,_] 2574804197744164888327605429460204242698660430814904871977427847213244530138118357441 b1 c1,by exact F2 [] [_,_] 36512846241652777040864522654495224261650187133221418481383468037 b2 hc⟩
theorem loop_start {wr fp:List Addr}{h':Heap}(S:St c fl σ oa s.heap)(kp:∀ b o,s.heap.get? b=some o→h'.get? b=some o)(sub:∀ b∈wr,b∈fp)(d:∀ b∈wr,s.heap.get? b=none)
  (lv:∀ b∈fp,Live h' b) (io:∀ b∈wr,∀ o,h'.get? b=some o→IterO o) (nh:∀ b∈fp,b∉wr→¬Hid c.L fl σ oa b) :
  Lp c fl wr fp σ oa s∧Go c (fw wr fl) σ oa s σ oa { s with heap:=h' }∧∀ b∈fp,¬OwnA σ oa b:=by
 have X:=Ext.of kp
 have nh:∀ b∈fp,¬Hid c.L fl σ oa b:=fun b z y=>by
  by_cases hb:b∈wr
  ·exact dead_ne (d b hb) (S.hlive b y) rfl
  ·exact nh b z hb y
 refine ⟨⟨S,sub,fun b z=>⟨fun y=>nh b z (.inl y),fun y=>nh b z (.inr (.inl y))⟩,d⟩,⟨.mk _ _ _,S.ext X (S.gi.keep fun b o e _=>kp b o e) (fun b z=>?_) (fun _ z=>.inr z) fun b l z=>z.elim (fun z=>absurd rfl (dead_ne (d b z) l)) id,X.ev⟩,
  fun b z y=>nh b z (.inr (.inr (.inl y)))⟩
 rcases z with z | z
 ·obtain ⟨o,e⟩:=lv b (sub b z);exact ⟨o,e,.inr (io b z o e).1⟩
 ·exact X.liveN (S.flt b z)
def L1 (Γ:Gam)(i:Nat)(b:C)(vs:List V)(σ:Sg)(Q:FL→Sg→Prop):Prop :=
 ∃ (α:Type) (st:α→Sg) (P:Nat→α→Prop),(∃ x,σ=st x∧P 0 x)∧(∀ k v x,vs[k]?=some v→P k x→W Γ b ((st x).set i (.val v)) (LQ st (P (k+1)) Q))∧∀ x,P vs.length x→Q .next (st x)
theorem io_fields {h:Heap}{b:Addr}{cls:Value}{vs:Array Value}{o:Obj}(e:h.get? b=some o)(d:o.data=.fields vs)(n:∀ t,vs[1]?≠some (.str mulQual t)):∀ o',h.get? b=some o'→IterO o':=fun o' e'=>by
 rw [e] at e';cases e'
 exact ⟨fun vs t z=>by rw [d] at z;cases z;exact n t,fun v z=>by rw [d] at z;cases z⟩
theorem mem1 {a b:Addr}{P:Addr→Prop}(z:b∈[a])(h:P a):P b:=(List.mem_singleton.mp z).symm▸h
theorem mem2 {a a' b:Addr}{P:Addr→Prop}(z:b∈[a,a'])(h:P a)(h':P a'):P b:=by
 rcases List.mem_cons.mp z with rfl | z
 ·exact h
 ·exact mem1 z h'
theorem mem3 {a a' a₂ b:Addr}{P:Addr→Prop}(z:b∈[a,a',a₂])(h:P a)(h':P a')(h₂:P a₂):P b:=by
 rcases List.mem_cons.mp z with rfl | z
 ·exact h
 ·exact mem2 z h' h₂
theorem liter_io {h:Heap}{I a:Addr}{j:Nat}(e:h.IsListIter I a j):Live h I∧∀ o,h.get? I=some o→IterO o:=by
 refine x1a3 e fun o e1 e2 e3=>?_;clear e
 exact ⟨⟨o,e1⟩,io_fields (cls:=.none) e1 e3 fun t z=>by cases z⟩
theorem list_live {h:Heap}{a:Addr}{items:Array Value}(e:h.IsList a items):Live h a:=by
 refine x1a2 e fun o e _=>?_;exact ⟨o,e⟩
theorem for_list {b:C}(C:Cs k w A Γ K dep c){i:Nat}{x:Str}{px:Pos}{body:List Stmt}(hi:k.isL i x=true)(hb:SB w A Γ c b body){l:List V}{y:Value}(S:St c fl σ oa s.heap)(r:VR (vz c fl σ oa s.heap) (.lst l) y)
  {Q:FL→Sg→Prop} (q:L1 Γ i b l σ Q) {R:Result→Shared→Prop} (hR:∀ f s',PC c fl σ oa s Q f s'→R (.ok f) s') :
  wpAny (model PG w) A (pyIter y) (fun it s₂=>codeAny (model PG w) A (.forLoop (.Name x px) it body [] c.env) R s₂) Ed s:=by
 obtain ⟨α,st,P,⟨x0,e0,p0⟩,bd,fin⟩:=q
 refine x3a4 r.lst_inv fun a items m zq3 g hs rs=>?_;subst zq3
 refine wpAny_pyIter_list (isList_of g.2) ?_
 have d:s.heap.get? s.heap.objs.size=none:=dead_size _
 have hne:a≠s.heap.objs.size:=dead_ne d ⟨_,g.2⟩
 have Wk:=Walks.list (prog:=PG) (w:=w) C.R.hd s.heap.objs.size a hne items.toArray
 have lv:∀ j h,h.IsListIter s.heap.objs.size a j∧h.IsList a items.toArray→(∀ b∈[s.heap.objs.size,a],Live h b)∧∀ b∈[s.heap.objs.size],∀ o,h.get? b=some o→IterO o:=fun j h p =>
  ⟨fun b z=>mem2 (P:=Live h) z (liter_io p.1).1 (list_live p.2),fun b z=>mem1 (P:=fun b=>∀ o,h.get? b=some o→IterO o) z (liter_io p.1).2⟩
 have st0:(s.heap.push { cls:=.type "list_iterator",data:=.fields #[.ref a,.int 0 0] }).IsListIter s.heap.objs.size a 0∧(s.heap.push { cls:=.type "list_iterator",data:=.fields #[.ref a,.int 0 0] }).IsList a items.toArray :=
  ⟨⟨_,Heap.get?_push_size _ rfl,rfl,rfl⟩,_,Heap.get?_push_of_some _ g.2,rfl,m,rfl⟩
 refine an3 (loop_start (wr:=[s.heap.objs.size]) (fp:=[s.heap.objs.size,a]) S (fun b o e=>Heap.get?_push_of_some _ e) (fun b z=>mem1 (P:=(·∈[s.heap.objs.size,a])) z (List.mem_cons_self ..)) (fun b z=>mem1 (P:=fun b=>s.heap.get? b=none) z d) (lv _ _ st0).1 (lv _ _ st0).2
  fun b z n=>mem2 (P:=fun b=>b∉[s.heap.objs.size]→¬Hid c.L fl σ oa b) z (fun n=>absurd (List.mem_singleton.mpr rfl) n) (fun _=>g.1) n) fun L g1 no=>?_
 exact for_walk C hi hb Wk lv L g1 no st0 (vs:=l) (by rw [rs.length,List.size_toArray]) (fun j y hj e=>rs.get' (by rw [List.getElem?_toArray] at e;exact e)) e0 p0 bd fin hR
theorem for_range {b:C}(C:Cs k w A Γ K dep c){r:Addr}{x0 y0 z0:Int}{t u v:Tok}{i:Nat}{x:Str}{px:Pos}{body:List Stmt}(hi:k.isL i x=true)(hb:SB w A Γ c b body)(S:St c fl σ oa s.heap)(hr:IsRange s.heap r x0 y0 z0 t u v)(hsm:Builtin.Range.small x0 y0 z0=true)
  {Q:FL→Sg→Prop} (q:L1 Γ i b (rangeL x0 y0 z0) σ Q) {R:Result→Shared→Prop} (hR:∀ f s',PC c fl σ oa s Q f s'→R (.ok f) s') :
  wpAny (model PG w) A (pyIter (.ref r)) (fun it s₂=>codeAny (model PG w) A (.forLoop (.Name x px) it body [] c.env) R s₂) Ed s:=by
 obtain ⟨α,st,P,⟨a,e0,p0⟩,bd,fin⟩:=q
 refine wpAny_pyIter_range hr hsm ?_
 have d:s.heap.get? s.heap.objs.size=none:=dead_size _
 have hl:(rangeL x0 y0 z0).length=(Builtin.Range.rangeSize x0 y0 z0).toNat:=by unfold rangeL;rw [List.length_map,List.length_range]
 have Wk:=Walks.range (prog:=PG) (w:=w) C.R.hd s.heap.objs.size x0 z0 (Builtin.Range.rangeSize x0 y0 z0).toNat
 have lv:∀ (j:Nat) h,IsRangeIter h s.heap.objs.size (x0+(j:Int)*z0) (((Builtin.Range.rangeSize x0 y0 z0).toNat:Int)-(j:Int)) z0→(∀ b∈[s.heap.objs.size],Live h b)∧∀ b∈[s.heap.objs.size],∀ o,h.get? b=some o→IterO o:=fun j h p=>by
  have p:h.get? s.heap.objs.size=_:=p
  exact ⟨fun b z=>mem1 (P:=Live h) z ⟨_,p⟩,fun b z=>mem1 (P:=fun b=>∀ o,h.get? b=some o→IterO o) z (io_fields (cls:=.none) p rfl fun t z=>by cases z)⟩
 have st0:IsRangeIter (s.heap.push { cls:=.type "range_iterator",data:=.fields #[rawInt x0,rawInt (Builtin.Range.rangeSize x0 y0 z0),rawInt z0] }) s.heap.objs.size (x0+((0:Nat):Int)*z0) (((Builtin.Range.rangeSize x0 y0 z0).toNat:Int)-((0:Nat):Int)) z0:=by
  have e1:x0+((0:Nat):Int)*z0=x0:=by lia
  have e2:((Builtin.Range.rangeSize x0 y0 z0).toNat:Int)-((0:Nat):Int)=Builtin.Range.rangeSize x0 y0 z0:=by rw [← rangeSize_toNat];exact iAs (F0 [] [_] 23357604016) (F0 [] [_] 22786616368)
  rw [e1,e2]
  exact Heap.get?_push_size _ rfl
 refine an3 (loop_start (wr:=[s.heap.objs.size]) (fp:=[s.heap.objs.size]) S (fun b o e=>Heap.get?_push_of_some _ e) (fun b z=>z) (fun b z=>mem1 (P:=fun b=>s.heap.get? b=none) z d) (lv _ _ st0).1 (lv _ _ st0).2 fun b z n=>absurd z n) fun L g1 no=>?_
 refine for_walk C hi hb Wk lv L g1 no st0 (vs:=rangeL x0 y0 z0) hl (fun j y hj e=>?_) e0 p0 bd fin hR
 obtain ⟨t',rfl⟩:=e
 refine ⟨.int (x0+(j:Nat)*z0),?_,.int _ _⟩
 unfold rangeL
 rw [List.getElem?_map,List.getElem?_range hj];rfl
def Src (c:Cx)(fl:Addr→Prop)(σ:Sg)(oa:Nat→Addr)(s:Shared)(vs:List V)(y:Value):Prop :=
 VR (vz c fl σ oa s.heap) (.lst vs) y∨∃ r a b d t u v,y=.ref r∧IsRange s.heap r a b d t u v∧Builtin.Range.small a b d=true∧vs=rangeL a b d
def SIt (w:World)(A:Around)(Γ:Gam)(c:Cx)(it:It)(a:Expr):Prop:=∀ (fl:Addr→Prop) (σ:Sg) (oa:Nat→Addr) (s:Shared) (Q:List V→Sg→Prop),
 St c fl σ oa s.heap→WIt Γ it σ Q→wpAny (model PG w) A (eval a c.env) (fun y s₁=>∃ vs σ₁,Q vs σ₁∧Go c fl σ oa s σ₁ oa s₁∧Src c fl σ₁ oa s₁ vs y) Ed s
theorem si_lst {e:E}{a:Expr}(he:SE w A Γ c e a):SIt w A Γ c (.lst e) a:=fun fl σ oa s Q S q=>he.to S q fun v y s₁ σ₁ q₁ g₁ r₁=>by
 refine x1a2 (onL_inv q₁) fun l zq1 q₁=>?_;subst zq1
 exact ⟨l,σ₁,q₁,g₁,.inl r₁⟩
theorem src_range {σ₁:Sg}{s₁:Shared}{x0 y0 z0:Int}{t u v:Tok}{Q:List V→Sg→Prop}(b1:x0.natAbs<2^40)(b2:y0.natAbs<2^40)(b3:z0.natAbs<2^40)(q:Q (rangeL x0 y0 z0) σ₁)(g:Go c fl σ oa s σ₁ oa s₁){o:Obj}{tk:Nat}
  (hr:IsRange (s₁.heap.push o) s₁.heap.objs.size x0 y0 z0 t u v):∃ vs σ₂,Q vs σ₂∧Go c fl σ oa s σ₂ oa { s₁ with heap:=s₁.heap.push o,toks:=tk }∧Src c fl σ₂ oa { s₁ with heap:=s₁.heap.push o,toks:=tk } vs (.ref s₁.heap.objs.size) :=
 ⟨_,σ₁,q,g.push o tk,.inr ⟨_,_,_,_,t,u,v,rfl,hr,small_of b1 b2 b3,rfl⟩⟩
theorem si_rng1 (C:Cs k w A Γ K dep c){e:E}{a:Expr}{x:Str}{p pos:Pos}(h:k.isGlob "range" x=true)(pl:plX a=true)(he:SE w A Γ c e a):SIt w A Γ c (.rng1 e) (.Call (.Name x p) [a] [] pos):=fun fl σ oa s Q S q =>
 wpAny_Call_NameR (blt_at (v:=.type "range") C S h (by decide) (by
  rw [stC pl]
  exact PySem.callWith_type rfl (evalArgs_plain (spliced_cons (he.to S q fun v y s₁ σ₁ q₁ g₁ r₁=>spliced_nil (by
   obtain ⟨j,rfl,b1,q₁⟩:=onI_inv q₁
   obtain ⟨_,rfl⟩:=r₁.int_inv
   exact call_range_1 (src_range (by decide) b1 (by decide) q₁ g₁ (Heap.get?_push_size _ rfl))))))))
theorem si_rng2 (C:Cs k w A Γ K dep c){e d:E}{a b:Expr}{x:Str}{p pos:Pos}(h:k.isGlob "range" x=true)(pl:plX a=true)(pr:plX b=true)(he:SE w A Γ c e a)(hd:SE w A Γ c d b):SIt w A Γ c (.rng2 e d) (.Call (.Name x p) [a,b] [] pos):=fun fl σ oa s Q S q =>
 wpAny_Call_NameR (blt_at (v:=.type "range") C S h (by decide) (by
  rw [stC pl,stC pr]
  exact PySem.callWith_type rfl (evalArgs_plain (spliced_cons (he.to S q fun v y s₁ σ₁ q₁ g₁ r₁=>spliced_cons (hd.to g₁.st q₁ fun v₂ y₂ s₂ σ₂ q₂ g₂ r₂=>spliced_nil (by
   refine x1a2 (onI_inv q₂) fun j zq1 q₄=>?_;subst zq1
   refine x1a3 (onI_inv q₄) fun j₂ zq1 zn2 q₅=>an2 zn2 fun b1 b2=>?_;clear zn2;subst zq1
   obtain ⟨_,rfl⟩:=r₁.int_inv
   obtain ⟨_,rfl⟩:=r₂.int_inv
   exact call_range_2 (src_range b1 b2 (by decide) q₅ (g₁.trans g₂) (Heap.get?_push_size _ rfl)))))))))
theorem si_rng3 (C:Cs k w A Γ K dep c){e d n:E}{a b m:Expr}{x:Str}{p pos:Pos}(h:k.isGlob "range" x=true)(pl:plX a=true)(pr:plX b=true)(pm:plX m=true)(he:SE w A Γ c e a)(hd:SE w A Γ c d b)(hn:SE w A Γ c n m):SIt w A Γ c (.rng3 e d n) (.Call (.Name x p) [a,b,m] [] pos):=fun fl σ oa s Q S q =>
 wpAny_Call_NameR (blt_at (v:=.type "range") C S h (by decide) (by
  rw [stC pl,stC pr,stC pm]
  exact PySem.callWith_type rfl (evalArgs_plain (spliced_cons (he.to S q fun v y s₁ σ₁ q₁ g₁ r₁=>spliced_cons (hd.to g₁.st q₁ fun v₂ y₂ s₂ σ₂ q₂ g₂ r₂=>spliced_cons (hn.to g₂.st q₂ fun v₃ y₃ s₃ σ₃ q₃ g₃ r₃=>spliced_nil (by
   refine x1a2 (onI_inv q₃) fun j zq1 q₄=>?_;subst zq1
   refine x1a2 (onI_inv q₄) fun j₂ zq1 q₅=>?_;subst zq1
   refine x1a3 (onI_inv q₅) fun j₃ zq1 zn2 q₆=>an4 zn2 fun b1 b2 b3 b4=>?_;clear zn2;subst zq1
   obtain ⟨_,rfl⟩:=r₁.int_inv
   obtain ⟨_,rfl⟩:=r₂.int_inv
   obtain ⟨_,rfl⟩:=r₃.int_inv
   exact call_range_3 b4 (src_range b1 b2 b3 q₆ ((g₁.trans g₂).trans g₃) (Heap.get?_push_size _ rfl)) (.inl (noPylong (by exact F1 [_] [] 26047270391883767829317050593047768232758374496 b3)))))))))))
theorem sc_for1 {b:C}(C:Cs k w A Γ K dep c){i:Nat}{it:It}{x:Str}{a:Expr}{px p:Pos}{body:List Stmt}(hi:k.isL i x=true)(pl:plX a=true)(ht:SIt w A Γ c it a)(hb:SB w A Γ c b body):SC w A Γ c (.for1 i it b) (.For (.Name x px) a body [] p):=fun fl σ oa s Q S q =>
 wpAny_For (wpAny_mono (ht _ _ _ _ (fun vs σ=>L1 Γ i b vs σ Q) S q) (fun y s₁ p=>by
  obtain ⟨vs,σ₁,q₁,g₁,r | ⟨r,x0,y0,z0,t,u,v,rfl,hr,sm,rfl⟩⟩:=p
  ·exact for_list C hi hb g₁.st r q₁ fun f s' p=>PC.step g₁ p
  ·exact for_range C hi hb g₁.st hr sm q₁ fun f s' p=>PC.step g₁ p) fun _ _ z=>z) fun x=>(plain_of pl).fold _ x
end
end
section
section
variable {w:World}{A:Around}{s:Shared}{K:Frag}{Γ:Gam}{G:List (String×V)}{k:Ck}{dep:Nat}{c:Cx}{fl:Addr→Prop}{σ:Sg}{oa:Nat→Addr}
theorem enumL_get {l:List V}{n:Nat}{v:V}(h:l[n]?=some v):(enumL l)[n]?=some (.tup [.int (n:Nat),v]):=by
 unfold enumL
 rw [List.getElem?_map,List.getElem?_zipIdx,h]
 show some (V.tup [V.int ((0+n:Nat):Int),v])=_
 rw [Nat.zero_add]
theorem enumL_len {l:List V}:(enumL l).length=l.length:=by
 unfold enumL
 rw [List.length_map,List.length_zipIdx]
def EnSt (e it l:Addr)(items:Array Value)(n:Nat)(h:Heap):Prop:=∃ old,IsEnum h e it ((n:Nat):Int) old∧h.IsListIter it l n∧h.IsList l items
theorem EnSt.frame {e it l:Addr}{items:Array Value}(n:Nat)(h h':Heap)(x:EnSt e it l items n h)(kp:∀ b∈[e,it,l],∀ o,h.get? b=some o→h'.get? b=some o):EnSt e it l items n h':=by
 refine x1a3 x fun old a b d=>?_;clear x
 exact ⟨old,kp e (List.mem_cons_self ..) _ a,b.at (kp it (List.mem_cons_of_mem _ (List.mem_cons_self ..))),d.at (kp l (List.mem_cons_of_mem _ (List.mem_cons_of_mem _ (List.mem_cons_self ..))))⟩
theorem EnSt.lv {e it l:Addr}{items:Array Value}{n:Nat}{h:Heap}(x:EnSt e it l items n h):(∀ b∈[e,it,l],Live h b)∧∀ b∈[e,it],∀ o,h.get? b=some o→IterO o:=by
 refine x1a3 x fun old a b d=>?_;clear x
 have a:h.get? e=_:=a
 exact ⟨fun _ z=>mem3 (P:=Live h) z ⟨_,a⟩ (liter_io b).1 (list_live d),fun _ z=>mem2 (P:=fun b=>∀ o,h.get? b=some o→IterO o) z (io_fields (cls:=.none) a rfl fun t z=>by cases z) (liter_io b).2⟩
theorem en_no {e it l b:Addr}(z:b∉[e,it]):b≠e∧b≠it:=⟨fun y=>z (y▸List.mem_cons_self ..),fun y=>z (y▸List.mem_cons_of_mem _ (List.mem_cons_self ..))⟩
theorem en_item (C:Cs k w A Γ K dep c){e it l:Addr}{i j:Nat}{xi xv:Str}{pi pv pt:Pos}{x1:Nat}{items:Array Value}{vs:List V}{s0:Shared}(hi:k.isL i xi=true)(hj:k.isL j xv=true)(hei:e≠it)(hle:l≠e)(hli:l≠it)
  {σ0:Sg} {oa0:Nat→Addr} (L:Lp c fl [e,it] [e,it,l] σ0 oa0 s0) (hv:∀ (n:Nat) y,items[n]?=some y→∃ v,vs[n]?=some v∧VR (vz c fl σ0 oa0 s0.heap) v y) {n:Nat} {Z:Option Value→Shared→Prop} {E:Value→Shared→Prop} (hn:n<items.size) (hst:EnSt e it l items n s.heap)
  (H:Hd c fl [e,it] [e,it,l] σ0 oa0 s0 σ oa s) (z:∀ v s₁,wpAny (model PG w) A (letOwnedTupleGo (.Tuple [.Name xi pi,.Name xv pv] x1 pt) (.ref e) v) (fun _ s₁'=>wpAny (model PG w) A (assign (.Tuple [.Name xi pi,.Name xv pv] x1 pt) c.env v)
   (fun _ s₂=>EnSt e it l items (n+1) s₂.heap∧∃ σ',(∃ v,vs[n]?=some v∧σ'=(σ.set i (.val (.int (n:Nat)))).set j (.val v))∧Hd c fl [e,it] [e,it,l] σ0 oa0 s0 σ' oa s₂) Ed s₁') Ed s₁→Z (some v) s₁):wpAny (model PG w) A (pyNext (.ref e)) Z E s:=by
 refine x1a3 hst fun old he hit hl=>?_;clear hst
 obtain ⟨y,hy⟩:∃ y,items[n]?=some y:=⟨_,Array.getElem?_eq_getElem hn⟩
 refine x1a2 (hv n y hy) fun v ev rv=>?_
 have eH:e<s.heap.objs.size:=Heap.lt_size he
 refine x1a2 (id hit) fun oi hoi _=>?_
 refine x1a2 (id hl) fun ol hol _=>?_
 have iH:it<s.heap.objs.size:=Heap.lt_size hoi
 have lH:l<s.heap.objs.size:=Heap.lt_size hol
 refine wpAny_pyNext_enum_item he hit hl hy hei fun h₁ heo hit₁ ht₁ hz₁ hk₁=>z _ _ (wpAny_letOwnedTupleGo_enum heo fun h₂ he₂ hs₂=>?_)
 clear z hv hy hn
 replace hs₂:Heap.SameBut e h₁ h₂:=hs₂
 refine wpAny_assign_Tuple C.R.hd (⟨_,(hs₂.2 _ (Nat.ne_of_gt eH)).trans ht₁,rfl,_,rfl⟩:h₂.IsTuple s.heap.objs.size #[.int n s.toks,y]) rfl rfl fun h₃ hx₃=>?_
 replace hx₃:Heap.ExtBut h₂.objs.size h₂ h₃:=hx₃
 have up:∀ b o,b<s.heap.objs.size→h₂.get? b=some o→h₃.get? b=some o:=fun b o z q=>hx₃ b o (by rw [hs₂.1,hz₁];exact Nat.ne_of_lt (Nat.lt_succ_of_lt z)) q
 have hk₃:∀ b o,b∉[e,it]→s.heap.get? b=some o→h₃.get? b=some o:=fun b o z q=>by
  have:=en_no (l:=l) z
  exact up b o (Heap.lt_size q) (hs₂.extBut b o this.1 (hk₁ b o this.1 this.2 q))
 have st₃:EnSt e it l items (n+1) h₃:=⟨y,up e _ eH he₂,(hit₁.extBut hs₂.extBut (Ne.symm hei)).at fun o q=>up it o iH q,((hl.at fun o q=>hk₁ l o hle hli q).extBut hs₂.extBut hle).at fun o q=>up l o lH q⟩
 have H₃:=L.touch (tk:=s.toks+1) H hk₃ st₃.lv.1 st₃.lv.2
 clear hs₂ hx₃ up hk₃ he₂ heo hit₁ ht₁ hz₁ hk₁ he hit hl H
 have rv₃:=rv.mono (L.le H₃)
 show wpAny _ A (do holding [y] (assign (.Name xi pi) c.env (.int n s.toks));do holding [] (assign (.Name xv pv) c.env y);pure ()) _ _ _
 refine wpAny_bind (wpAny_holding (wpAny_assign_Name (L.store C hi H₃ (.int (n:Nat) s.toks) fun s₄ H₄ k₄ le₄=>?_)))
 refine wpAny_bind (wpAny_holding (wpAny_assign_Name (L.store C hj H₄ (rv₃.mono le₄) fun s₅ H₅ k₅ _=>wpAny_pure ?_)))
 exact ⟨EnSt.frame _ _ _ st₃ fun b z o e=>k₅ b z o (k₄ b z o e),_,⟨v,ev,rfl⟩,H₅⟩
theorem sc_for2 {b:C}(C:Cs k w A Γ K dep c){i j:Nat}{e:E}{xi xv z:Str}{a:Expr}{pi pv pt zp cp p:Pos}{x1:Nat}{body:List Stmt}(hi:k.isL i xi=true)(hj:k.isL j xv=true)(hz:k.isGlob "enumerate" z=true)(pl:plX a=true)(he:SE w A Γ c e a)(hb:SB w A Γ c b body) :
  SC w A Γ c (.for2 i j (.enm e) b) (.For (.Tuple [.Name xi pi,.Name xv pv] x1 pt) (.Call (.Name z zp) [a] [] cp) body [] p):=fun fl σ oa s Q S q=>by
 refine wpAny_For (wpAny_Call_NameR (blt_at (v:=.type "enumerate") C S hz (by decide) ?_)) fun _=>rfl
 rw [stC pl]
 refine PySem.callWith_type rfl (evalArgs_plain (spliced_cons (he.to (Q:=fun v σ=>onL v fun l=>∃ (α:Type) (st:α→Sg) (P:Nat→α→Prop),(∃ x,σ=st x∧P 0 x)∧(∀ k u v x,(enumL l)[k]?=some (.tup [u,v])→P k x→W Γ b (((st x).set i (.val u)).set j (.val v)) (LQ st (P (k+1)) Q))∧∀ x,P (enumL l).length x→Q .next (st x)) S q
  fun v y s₁ σ₁ q₁ g₁ r₁=>spliced_nil ?_)))
 obtain ⟨l,rfl,α,st,P,⟨x0,e0,p0⟩,bd,fin⟩:=onL_inv q₁
 clear q₁ q
 refine x3a4 r₁.lst_inv fun a' items m zq3 g hs rs=>?_;subst zq3
 refine call_enumerate_list (isList_of g.2) fun h' he hit hz kp=>wpAny_pyIter_enum he ?_
 have d0:s₁.heap.get? s₁.heap.objs.size=none:=dead_size _
 have d1:s₁.heap.get? (s₁.heap.objs.size+1)=none:=Heap.get?_none_of_le (Nat.le_succ _)
 have st0:EnSt (s₁.heap.objs.size+1) s₁.heap.objs.size a' items.toArray 0 h':=⟨_,he,hit,(isList_of g.2).at fun o z=>kp _ o z⟩
 refine an3 (loop_start (fp:=[s₁.heap.objs.size+1,s₁.heap.objs.size,a']) g₁.st kp (fun b z=>mem2 (P:=(·∈[s₁.heap.objs.size+1,s₁.heap.objs.size,a'])) z (List.mem_cons_self ..) (List.mem_cons_of_mem _ (List.mem_cons_self ..)))
  (fun b z=>mem2 (P:=fun b=>s₁.heap.get? b=none) z d1 d0) st0.lv.1 st0.lv.2 fun b z n=>mem3 (P:=fun b=>b∉[s₁.heap.objs.size+1,s₁.heap.objs.size]→¬Hid c.L fl σ₁ oa b) z (fun n=>absurd (List.mem_cons_self ..) n) (fun n=>absurd (List.mem_cons_of_mem _ (List.mem_cons_self ..)) n) (fun _=>g.1) n) fun L g₂ no=>?_
 have hn:l.length=items.toArray.size:=by rw [rs.length,List.size_toArray]
 refine for_core (T:=fun n σ σ'=>∃ v,l[n]?=some v∧σ'=(σ.set i (.val (.int (n:Nat)))).set j (.val v)) hb L EnSt.frame (fun n τ ob s Z E hn hst H z=>?_) (fun s Z E hst z=>?_) ⟨g₂,no,st0.lv.1,st0.lv.2⟩ st0 e0 p0 (fun n x τ hp t=>?_) (fun x hp=>fin x (by rw [enumL_len,hn];exact hp)) fun f s' p=>PC.step g₁ p
 ·exact en_item C hi hj (Nat.succ_ne_self _) (dead_ne d1 ⟨_,g.2⟩) (dead_ne d0 ⟨_,g.2⟩) L (fun n y e=>rs.get' (by rw [List.getElem?_toArray] at e;exact e)) hn hst H z
 ·refine x1a3 hst fun old a b d=>?_;clear hst
  exact wpAny_pyNext_enum_end C.R.hd a b d (Array.getElem?_eq_none (Nat.le_refl _)) fun h₁ k₁=>z h₁ s.toks fun b o n e=>k₁ b o (en_no (l:=a') n).2 e
 ·refine x1a2 t fun v e zq2=>?_;clear t;subst zq2
  exact bd n _ v x (enumL_get e) hp
end
end
section
section
variable {w:World}{A:Around}{s:Shared}{K:Frag}{Γ:Gam}{G:List (String×V)}{k:Ck}{dep:Nat}{c:Cx}{fl:Addr→Prop}{σ:Sg}{oa:Nat→Addr}
theorem sb_skip:SB w A Γ c .skip []:=fun fl σ oa s Q S q=>wpAny_execs_nil (PC.next q (.refl S))
theorem sb_seq {a b:C}{st:Stmt}{rest:List Stmt}(ha:SC w A Γ c a st)(hb:SB w A Γ c b rest):SB w A Γ c (.seq a b) (st::rest):=fun fl σ oa s Q S q =>
 wpAny_execs_cons (wpAny_mono (ha fl σ oa s (fun f σ=>sqP f (W Γ b σ Q) (Q f σ)) S q) (fun f s₁ p=>by
  refine x3a3 p fun F σ₁ oa₁ q₁ r₁ g₁=>?_;clear p
  cases F with
  | next=>cases (show f=.next from r₁);exact wpAny_mono (hb fl σ₁ oa₁ s₁ Q g₁.st q₁) (fun y s₂ p=>PC.step g₁ p) fun _ _ z=>z
  | brk=>cases (show f=.brk from r₁);exact ⟨.brk,σ₁,oa₁,q₁,rfl,g₁⟩
  | cont=>cases (show f=.cont from r₁);exact ⟨.cont,σ₁,oa₁,q₁,rfl,g₁⟩
  | ret v=>refine x1a2 r₁ fun x zq1 r=>?_;clear r₁;subst zq1;exact ⟨.ret v,σ₁,oa₁,q₁,⟨x,rfl,r⟩,g₁⟩) fun _ _ z=>z)
theorem sc_cont {p:Pos}:SC w A Γ c .cont (.Continue p):=fun fl σ oa s Q S q=>wpAny_Continue ⟨.cont,σ,oa,q,rfl,.refl S⟩
theorem sc_raise {st:Stmt}:SC w A Γ c .raise st:=fun fl σ oa s Q S q=>q.elim
theorem sw_no {a:Expr}{xs:List Expr}{m:Nat}{p:Pos}{env:Env}:a.ctorIdx≠25→swappedStores [.Tuple xs m p] a env=pure none:=by
 cases a <;> first | exact fun _=>rfl | exact fun h=>absurd rfl h
structure GoodIs (k:Ck) (is:Is) (as:List Expr):Prop where
 pl:as.all plX=true
 si:∀ {w A Γ K dep c},Cs k w A Γ K dep c→SIs w A Γ c is as
 ln:is.ts.length=as.length
theorem sts_cons (L:Look k c){i:Nat}{x:Str}(h:k.isL i x=true){is:List Nat}{ns:List Str}(r:Sts c is (ns.map fun n=>bindName c.env n)):Sts c (i::is) ((x::ns).map fun n=>bindName c.env n) :=
 .cons (fun w A v Q s z=>wpAny_bindName z) (isL_of L h).1 (isL_of L h).2.1 r
theorem sc_multi2 (C:Cs k w A Γ K dep c){is:Is}{as:List Expr}{x1 x2:Str}{p1 p2 p p' pos:Pos}{m n i j:Nat}(g:GoodIs k is as)(h:is.ts=[i,j]∧k.isL i x1=true∧k.isL j x2=true∧i≠j∧p2.line=p1.line∧x1≠x2∧as.all (foldedForSure 8)=false∧as.all (constantsAlone 8)=false) :
  SC w A Γ c (.multi is) (.Assign [.Tuple [.Name x1 p1,.Name x2 p2] m p] (.Tuple as n p') pos):=by
 refine an8 h fun e h1 h2 hij hp hx hf hc=>?_;clear h
 have hl:as.length=2:=by rw [← g.ln,e];rfl
 refine multi_core C (names:=[x1,x2]) (by rw [hl];decide) (g.si C) (by rw [e];exact sts_cons C.L h1 (sts_cons C.L h2 .nil)) (by rw [e];exact List.nodup_cons.mpr ⟨fun z=>hij (List.mem_singleton.mp z),List.nodup_cons.mpr ⟨List.not_mem_nil,List.nodup_nil⟩⟩) g.ln
  (sw2 C.L.kind hl g.pl (isL_of C.L h1).2.1 (isL_of C.L h2).2.1 hp hx hf hc)
theorem sc_multi3 (C:Cs k w A Γ K dep c){is:Is}{as:List Expr}{x1 x2 x3:Str}{p1 p2 p3 p p' pos:Pos}{m n i j l:Nat}(g:GoodIs k is as)
  (h:is.ts=[i,j,l]∧k.isL i x1=true∧k.isL j x2=true∧k.isL l x3=true∧(i≠j∧i≠l∧j≠l)∧(p2.line=p1.line∧p3.line=p1.line)∧(x1≠x2∧x1≠x3∧x2≠x3)∧as.all (foldedForSure 8)=false∧as.all (constantsAlone 8)=false) :
  SC w A Γ c (.multi is) (.Assign [.Tuple [.Name x1 p1,.Name x2 p2,.Name x3 p3] m p] (.Tuple as n p') pos):=by
 refine an8 h fun e h1 h2 h3 zn4 zn5 zn6 zr0=>an2 zr0 fun hf hc=>an3 zn4 fun a1 a2 a3=>an2 zn5 fun l1 l2=>an3 zn6 fun n1 n2 n3=>?_;clear h zn6 zn5 zn4 zr0
 have hl:as.length=3:=by rw [← g.ln,e];rfl
 refine multi_core C (names:=[x1,x2,x3]) (by rw [hl];decide) (g.si C) (by rw [e];exact sts_cons C.L h1 (sts_cons C.L h2 (sts_cons C.L h3 .nil))) ?_ g.ln
  (sw3 C.L.kind hl g.pl (isL_of C.L h1).2.1 (isL_of C.L h2).2.1 (isL_of C.L h3).2.1 l1 l2 n1 n2 n3 hf hc)
 rw [e]
 exact List.nodup_cons.mpr ⟨fun z=>(List.mem_cons.mp z).elim a1 fun z=>a2 (List.mem_singleton.mp z),List.nodup_cons.mpr ⟨fun z=>a3 (List.mem_singleton.mp z),List.nodup_cons.mpr ⟨List.not_mem_nil,List.nodup_nil⟩⟩⟩
end
structure GoodC (k:Ck) (m:C) (st:Stmt):Prop where
 sc:∀ {w A Γ K dep c},Cs k w A Γ K dep c→SC w A Γ c m st
structure GoodB (k:Ck) (m:C) (sts:List Stmt):Prop where
 sb:∀ {w A Γ K dep c},Cs k w A Γ K dep c→SB w A Γ c m sts
structure GoodI (k:Ck) (it:It) (a:Expr):Prop where
 pl:plX a=true
 si:∀ {w A Γ K dep c},Cs k w A Γ K dep c→SIt w A Γ c it a
section
variable {M:Stmt→Type}(a:Stmt)(d:∀ a,M a)
noncomputable def oRet (k:∀ x p,M (.Return x p)):M a:=if h:a.ctorIdx=3 then Stmt.Return.elim a h k else d a
noncomputable def oAsg (k:∀ x y p,M (.Assign x y p)):M a:=if h:a.ctorIdx=5 then Stmt.Assign.elim a h k else d a
noncomputable def oAug (k:∀ x o y p,M (.AugAssign x o y p)):M a:=if h:a.ctorIdx=7 then Stmt.AugAssign.elim a h k else d a
noncomputable def oFor (k:∀ x y b o p,M (.For x y b o p)):M a:=if h:a.ctorIdx=9 then Stmt.For.elim a h k else d a
noncomputable def oWhl (k:∀ x b o p,M (.While x b o p)):M a:=if h:a.ctorIdx=11 then Stmt.While.elim a h k else d a
noncomputable def oIf (k:∀ x b o p,M (.If x b o p)):M a:=if h:a.ctorIdx=12 then Stmt.If.elim a h k else d a
noncomputable def oExp (k:∀ x p,M (.Expr x p)):M a:=if h:a.ctorIdx=24 then Stmt.Expr.elim a h k else d a
noncomputable def oCon (k:∀ p,M (.Continue p)):M a:=if h:a.ctorIdx=27 then Stmt.Continue.elim a h k else d a
end
section
variable (k:Ck)
noncomputable def kIs (is:Is):∀ as,Ok (GoodIs k is as):=Is.rec (motive:=fun is=>∀ as,Ok (GoodIs k is as)) (fun as=>on0 (M:=fun as=>Ok (GoodIs k .nil as)) as (fun _=>none) (ok ⟨rfl,fun _=>sis_nil,rfl⟩))
 (fun i e r ih as=>onC (M:=fun as=>Ok (GoodIs k (.val i e r) as)) as (fun _=>none) fun a as=>(chkE k e a).to fun g=>(ih as).to fun gs=>ok ⟨by rw [List.all_cons,g.pl,gs.pl];rfl,fun C=>sis_val g.pl (g.se C) (gs.si C),congrArg Nat.succ gs.ln⟩)
 (fun i f r ih as=>onC (M:=fun as=>Ok (GoodIs k (.own i f r) as)) as (fun _=>none) fun a as=>(chkF k f a).to fun g=>(ih as).to fun gs=>ok ⟨by rw [List.all_cons,g.pl,gs.pl];rfl,fun C=>sis_own g.pl (g.sf C) (gs.si C),congrArg Nat.succ gs.ln⟩) is
noncomputable def onRange {it:It}(a:Expr)(f:∀ x q as p,k.isGlob "range" x=true→Ok (GoodI k it (.Call (.Name x q) as [] p))):Ok (GoodI k it a):=onCall (M:=fun a=>Ok (GoodI k it a)) a (fun _=>none) fun g as w p=>onName (M:=fun g=>Ok (GoodI k it (.Call g as w p))) g (fun _=>none) fun x q =>
 on0 (M:=fun w=>Ok (GoodI k it (.Call (.Name x q) as w p))) w (fun _=>none) (oif (k.isGlob "range" x) fun h=>f x q as p h)
noncomputable def kIt (it:It)(a:Expr):Ok (GoodI k it a):=It.casesOn (motive:=fun it=>Ok (GoodI k it a)) it
 (fun e=>onRange k a fun x q as p h=>on1 (M:=fun as=>Ok (GoodI k (.rng1 e) (.Call (.Name x q) as [] p))) as (fun _=>none) fun b=>(chkE k e b).to fun g=>ok ⟨rfl,fun C=>si_rng1 C h g.pl (g.se C)⟩)
 (fun e d=>onRange k a fun x q as p h=>on2 (M:=fun as=>Ok (GoodI k (.rng2 e d) (.Call (.Name x q) as [] p))) as (fun _=>none) fun b b₂=>(chkE k e b).to fun g=>(chkE k d b₂).to fun g₂=>ok ⟨rfl,fun C=>si_rng2 C h g.pl g₂.pl (g.se C) (g₂.se C)⟩)
 (fun e d n=>onRange k a fun x q as p h=>on3 (M:=fun as=>Ok (GoodI k (.rng3 e d n) (.Call (.Name x q) as [] p))) as (fun _=>none) fun b b₂ b₃=>(chkE k e b).to fun g=>(chkE k d b₂).to fun g₂=>(chkE k n b₃).to fun g₃=>ok ⟨rfl,fun C=>si_rng3 C h g.pl g₂.pl g₃.pl (g.se C) (g₂.se C) (g₃.se C)⟩)
 (fun e=>(chkE k e a).to fun g=>ok ⟨g.pl,fun C=>si_lst (g.se C)⟩) (fun _=>none)
noncomputable abbrev RS (m:C):=∀ st,Ok (GoodC k m st)
noncomputable abbrev RB (m:C):=∀ sts,Ok (GoodB k m sts)
noncomputable def oName1 {m:C}(st:Stmt)(f:∀ x q a p,Ok (GoodC k m (.Assign [.Name x q] a p))):Ok (GoodC k m st):=oAsg (M:=fun st=>Ok (GoodC k m st)) st (fun _=>none) fun ts a p=>on1 (M:=fun ts=>Ok (GoodC k m (.Assign ts a p))) ts (fun _=>none) fun t=>onName (M:=fun t=>Ok (GoodC k m (.Assign [t] a p))) t (fun _=>none) fun x q=>f x q a p
noncomputable def oTup1 {m:C}(st:Stmt)(f:∀ xs n q a p,Ok (GoodC k m (.Assign [.Tuple xs n q] a p))):Ok (GoodC k m st):=oAsg (M:=fun st=>Ok (GoodC k m st)) st (fun _=>none) fun ts a p=>on1 (M:=fun ts=>Ok (GoodC k m (.Assign ts a p))) ts (fun _=>none) fun t=>onTup (M:=fun t=>Ok (GoodC k m (.Assign [t] a p))) t (fun _=>none) fun xs n q=>f xs n q a p
noncomputable def cAsg (i:Nat)(e:E):RS k (.asg i e):=fun st=>oName1 k st fun x q a p=>(chkE k e a).to fun g=>oif (k.isL i x) fun h=>ok ⟨fun C=>sc_asg C h g.pl (g.se C)⟩
noncomputable def cAsgO (i:Nat)(f:F):RS k (.asgO i f):=fun st=>oName1 k st fun x q a p=>(chkF k f a).to fun g=>oif (k.isL i x) fun h=>ok ⟨fun C=>sc_asgO C h g.pl (g.sf C)⟩
noncomputable def cMulti (is:Is):RS k (.multi is):=fun st=>oTup1 k st fun xs m p a pos=>onTup (M:=fun a=>Ok (GoodC k (.multi is) (.Assign [.Tuple xs m p] a pos))) a (fun _=>none) fun as n p'=>(kIs k is as).to fun g =>
 onC (M:=fun xs=>Ok (GoodC k (.multi is) (.Assign [.Tuple xs m p] (.Tuple as n p') pos))) xs (fun _=>none) fun t1 xs=>onName (M:=fun t1=>Ok (GoodC k (.multi is) (.Assign [.Tuple (t1::xs) m p] (.Tuple as n p') pos))) t1 (fun _=>none) fun x1 p1 =>
 onC (M:=fun xs=>Ok (GoodC k (.multi is) (.Assign [.Tuple (.Name x1 p1::xs) m p] (.Tuple as n p') pos))) xs (fun _=>none) fun t2 xs=>onName (M:=fun t2=>Ok (GoodC k (.multi is) (.Assign [.Tuple (.Name x1 p1::t2::xs) m p] (.Tuple as n p') pos))) t2 (fun _=>none) fun x2 p2 =>
 List.casesOn (motive:=fun xs=>Ok (GoodC k (.multi is) (.Assign [.Tuple (.Name x1 p1::.Name x2 p2::xs) m p] (.Tuple as n p') pos))) xs (if h:_ then ok ⟨fun C=>sc_multi2 C (i:=is.ts.getD 0 0) (j:=is.ts.getD 1 0) g h⟩ else none)
  fun t3 xs=>onName (M:=fun t3=>Ok (GoodC k (.multi is) (.Assign [.Tuple (.Name x1 p1::.Name x2 p2::t3::xs) m p] (.Tuple as n p') pos))) t3 (fun _=>none) fun x3 p3 =>
  on0 (M:=fun xs=>Ok (GoodC k (.multi is) (.Assign [.Tuple (.Name x1 p1::.Name x2 p2::.Name x3 p3::xs) m p] (.Tuple as n p') pos))) xs (fun _=>none) (if h:_ then ok ⟨fun C=>sc_multi3 C (i:=is.ts.getD 0 0) (j:=is.ts.getD 1 0) (l:=is.ts.getD 2 0) g h⟩ else none)
noncomputable def cUnpk (ts:List Nat)(e:E):RS k (.unpk ts e):=fun st=>oTup1 k st fun xs m p a pos=>(chkE k e a).to fun g=>oif (chkNames k ts xs) fun h=>if h2:a.ctorIdx≠25 then ok ⟨fun C=>sc_unpk C h g.pl (sw_no h2) (g.se C)⟩ else none
noncomputable def cAug (i:Nat)(op:Operator)(e:E):RS k (.aug i op e):=fun st=>oAug (M:=fun st=>Ok (GoodC k (.aug i op e) st)) st (fun _=>none) fun t o a p=>onName (M:=fun t=>Ok (GoodC k (.aug i op e) (.AugAssign t o a p))) t (fun _=>none) fun x q=>(chkE k e a).to fun g=>oif (k.isL i x) fun h=>if z:op=o then ok ⟨fun C=>z▸sc_aug C h (g.se C)⟩ else none
noncomputable def cSetL (i:Nat)(idx e:E):RS k (.setL i idx e):=fun st=>oAsg (M:=fun st=>Ok (GoodC k (.setL i idx e) st)) st (fun _=>none) fun ts a p=>on1 (M:=fun ts=>Ok (GoodC k (.setL i idx e) (.Assign ts a p))) ts (fun _=>none) fun t=>onItem (M:=fun t=>Ok (GoodC k (.setL i idx e) (.Assign [t] a p))) t (fun _=>none) fun o j p' =>
 onName (M:=fun o=>Ok (GoodC k (.setL i idx e) (.Assign [.Subscript o j p'] a p))) o (fun _=>none) fun x q=>(chkE k idx j).to fun gj=>(chkE k e a).to fun g=>oif (k.isL i x) fun h=>ok ⟨fun C=>sc_setL C h g.pl (gj.se C) (g.se C)⟩
noncomputable def cApp (i:Nat)(e:E):RS k (.app i e):=fun st=>oExp (M:=fun st=>Ok (GoodC k (.app i e) st)) st (fun _=>none) fun a pos=>onCall (M:=fun a=>Ok (GoodC k (.app i e) (.Expr a pos))) a (fun _=>none) fun f l w p=>onAttr (M:=fun f=>Ok (GoodC k (.app i e) (.Expr (.Call f l w p) pos))) f (fun _=>none) fun o n ap =>
 onName (M:=fun o=>Ok (GoodC k (.app i e) (.Expr (.Call (.Attribute o n ap) l w p) pos))) o (fun _=>none) fun x q=>on0 (M:=fun w=>Ok (GoodC k (.app i e) (.Expr (.Call (.Attribute (.Name x q) n ap) l w p) pos))) w (fun _=>none) <| on1 (M:=fun l=>Ok (GoodC k (.app i e) (.Expr (.Call (.Attribute (.Name x q) n ap) l [] p) pos))) l (fun _=>none) fun a =>
 (chkE k e a).to fun g=>oif (k.isL i x) fun h=>if z:n=("append" : Str)∧ap.endLine=p.line then ok ⟨fun C=>z.1▸sc_app C h z.2 g.pl (g.se C)⟩ else none
noncomputable def cExprB (f:E)(i:Nat)(args:Es):RS k (.exprB f i args):=fun st=>oExp (M:=fun st=>Ok (GoodC k (.exprB f i args) st)) st (fun _=>none) fun a p=>(chkE k (.callB f i args) a).to fun g=>ok ⟨fun C=>sc_exprB C g.pl (g.se C)⟩
noncomputable def cExpr (e:E):RS k (.expr e):=fun st=>oExp (M:=fun st=>Ok (GoodC k (.expr e) st)) st (fun _=>none) fun a p=>(chkE k e a).to fun g=>ok ⟨fun C=>sc_expr C g.pl (g.se C)⟩
noncomputable def cRet (e:E):RS k (.ret e):=fun st=>oRet (M:=fun st=>Ok (GoodC k (.ret e) st)) st (fun _=>none) fun o p=>Option.casesOn (motive:=fun o=>Ok (GoodC k (.ret e) (.Return o p))) o none fun a=>(chkE k e a).to fun g=>ok ⟨fun C=>sc_ret (g.se C)⟩
variable {k}
noncomputable def cIf (e:E)(t f:C)(ht:RB k t)(hf:RB k f):RS k (.ifs e t f):=fun st=>oIf (M:=fun st=>Ok (GoodC k (.ifs e t f) st)) st (fun _=>none) fun a b o p=>(chkE k e a).to fun g=>oif (tOk e) fun h=>(ht b).to fun gt=>(hf o).to fun gf=>ok ⟨fun C=>sc_ifs (g.st h C) (gt.sb C) (gf.sb C)⟩
noncomputable def cWhl (e:E)(m:C)(hm:RB k m):RS k (.whl e m):=fun st=>oWhl (M:=fun st=>Ok (GoodC k (.whl e m) st)) st (fun _=>none) fun a b o p=>on0 (M:=fun o=>Ok (GoodC k (.whl e m) (.While a b o p))) o (fun _=>none) ((chkE k e a).to fun g=>oif (tOk e) fun h=>(hm b).to fun gm=>ok ⟨fun C=>sc_whl (g.st h C) (gm.sb C)⟩)
noncomputable def cFor1 (i:Nat)(it:It)(m:C)(hm:RB k m):RS k (.for1 i it m):=fun st=>oFor (M:=fun st=>Ok (GoodC k (.for1 i it m) st)) st (fun _=>none) fun t a b o p=>on0 (M:=fun o=>Ok (GoodC k (.for1 i it m) (.For t a b o p))) o (fun _=>none) <| onName (M:=fun t=>Ok (GoodC k (.for1 i it m) (.For t a b [] p))) t (fun _=>none) fun x q =>
 (kIt k it a).to fun g=>oif (k.isL i x) fun h=>(hm b).to fun gm=>ok ⟨fun C=>sc_for1 C h g.pl (g.si C) (gm.sb C)⟩
noncomputable def cFor2 (i j:Nat)(it:It)(m:C)(hm:RB k m):RS k (.for2 i j it m):=It.casesOn (motive:=fun it=>RS k (.for2 i j it m)) it (fun _ _=>none) (fun _ _ _=>none) (fun _ _ _ _=>none) (fun _ _=>none) fun e st=>oFor (M:=fun st=>Ok (GoodC k (.for2 i j (.enm e) m) st)) st (fun _=>none) fun t a b o p =>
 on0 (M:=fun o=>Ok (GoodC k (.for2 i j (.enm e) m) (.For t a b o p))) o (fun _=>none) <| onTup (M:=fun t=>Ok (GoodC k (.for2 i j (.enm e) m) (.For t a b [] p))) t (fun _=>none) fun ts x1 pt=>on2 (M:=fun ts=>Ok (GoodC k (.for2 i j (.enm e) m) (.For (.Tuple ts x1 pt) a b [] p))) ts (fun _=>none) fun t1 t2 =>
 onName (M:=fun t1=>Ok (GoodC k (.for2 i j (.enm e) m) (.For (.Tuple [t1,t2] x1 pt) a b [] p))) t1 (fun _=>none) fun xi pi=>onName (M:=fun t2=>Ok (GoodC k (.for2 i j (.enm e) m) (.For (.Tuple [.Name xi pi,t2] x1 pt) a b [] p))) t2 (fun _=>none) fun xv pv =>
 onCall (M:=fun a=>Ok (GoodC k (.for2 i j (.enm e) m) (.For (.Tuple [.Name xi pi,.Name xv pv] x1 pt) a b [] p))) a (fun _=>none) fun f l w cp=>onName (M:=fun f=>Ok (GoodC k (.for2 i j (.enm e) m) (.For (.Tuple [.Name xi pi,.Name xv pv] x1 pt) (.Call f l w cp) b [] p))) f (fun _=>none) fun z zp =>
 on0 (M:=fun w=>Ok (GoodC k (.for2 i j (.enm e) m) (.For (.Tuple [.Name xi pi,.Name xv pv] x1 pt) (.Call (.Name z zp) l w cp) b [] p))) w (fun _=>none) <| on1 (M:=fun l=>Ok (GoodC k (.for2 i j (.enm e) m) (.For (.Tuple [.Name xi pi,.Name xv pv] x1 pt) (.Call (.Name z zp) l [] cp) b [] p))) l (fun _=>none) fun a =>
 (chkE k e a).to fun g=>(hm b).to fun gm=>oif (k.isL i xi) fun h1=>oif (k.isL j xv) fun h2=>oif (k.isGlob "enumerate" z) fun h3=>ok ⟨fun C=>sc_for2 C h1 h2 h3 g.pl (g.se C) (gm.sb C)⟩
variable (k)
noncomputable abbrev RC (m:C):=RS k m×RB k m
noncomputable def only {m:C}(f:RS k m):RC k m:=(f,fun _=>none)
noncomputable def chkC (m:C):RC k m:=C.rec (motive:=RC k) (fun _=>none,fun sts=>on0 (M:=fun sts=>Ok (GoodB k .skip sts)) sts (fun _=>none) (ok ⟨fun _=>sb_skip⟩))
 (fun a b ha hb=>(fun _=>none,fun sts=>onC (M:=fun sts=>Ok (GoodB k (.seq a b) sts)) sts (fun _=>none) fun st r=>(ha.1 st).to fun g=>(hb.2 r).to fun gb=>ok ⟨fun C=>sb_seq (g.sc C) (gb.sb C)⟩))
 (fun i e=>only k (cAsg k i e)) (fun i f=>only k (cAsgO k i f)) (fun is=>only k (cMulti k is)) (fun ts e=>only k (cUnpk k ts e)) (fun i op e=>only k (cAug k i op e)) (fun i idx e=>only k (cSetL k i idx e)) (fun i e=>only k (cApp k i e))
 (fun f i args=>only k (cExprB k f i args)) (fun e=>only k (cExpr k e)) (fun e t f ht hf=>only k (cIf e t f ht.2 hf.2)) (fun e m hm=>only k (cWhl e m hm.2)) (fun i it m hm=>only k (cFor1 i it m hm.2)) (fun i j it m hm=>only k (cFor2 i j it m hm.2)) (fun e=>only k (cRet k e))
 (only k fun st=>oCon (M:=fun st=>Ok (GoodC k .cont st)) st (fun _=>none) fun p=>ok ⟨fun _=>sc_cont⟩) (only k fun st=>ok ⟨fun _=>sc_raise⟩) m
noncomputable def chkB (m:C)(sts:List Stmt):Bool:=((chkC k m).2 sts).isSome
theorem chkB_good {m:C}{sts:List Stmt}(h:chkB k m sts=true):GoodB k m sts:=by
 unfold chkB at h
 cases e:(chkC k m).2 sts with
 | none=>rw [e] at h;exact nomatch h
 | some g=>exact g.down
end
end
section
theorem MtV.up {w:World}{K:Frag}{d e:Nat}{vf:V}{U:List V→(V→Prop)→Prop}(h:MtV w K d vf U)(le:d≤e):MtV w K e vf U :=
 fun g0 gr A s fl f args vals k hd hu hp=>h g0 gr A s fl f args vals k hd (by exact F2 [_,_,_,_] [] 1951777928515073703783216684401926516410544843946723934633438748768 le hu) (by exact F2 [_,_,_,_] [] 87521216845934479575136 le hp)
theorem MeetsB.up {w:World}{K:Frag}{d e:Nat}{a:Addr}{S:SpecB}(h:MeetsB w K d a S)(le:d≤e):MeetsB w K e a S :=
 fun g0 gr A s fl b l args vals k hd hu hp=>h g0 gr A s fl b l args vals k hd (by exact F2 [_,_,_,_] [] 1951777928515073703783216684401926516410544843946723934633438748768 le hu) (by exact F2 [_,_,_,_] [] 87521216845934479575136 le hp)
structure Ground (K:Frag) (G:List (String×V)):Prop where
 glob:∀ x v,G.lookup x=some v→(∃ y t,v=.int y∧nsIn K mainGlobals (Str.ofString x)=some (some (.int y t)))∨(∃ a,v=.ref a∧nsIn K mainGlobals (Str.ofString x)=some (some (.ref a)))
 bl:∀ x v,(x,v)∈[("len",Value.builtin "len"),("max",.builtin "max"),("min",.builtin "min"),("range",.type "range"),("enumerate",.type "enumerate")]→nsIn K mainGlobals (Str.ofString x)=some none∧bootBuiltins (Str.ofString x)=some v
 att:∀ n∈["modulus","minus","one","square"],plainGet K clsMont (Str.ofString n)=true∧hasDictIn K clsMont=true∧findIn K (.ref clsMont) (Str.ofString n)=some none
structure Wd (w:World) (K:Frag) (Γ:Gam) (dep:Nat):Prop where
 fn:∀ a S,Γ.fn.lookup a=some S→keepIn K (.ref a)=true∧MtV w K dep (.ref a) S.use
 fb:∀ a S,Γ.fb.lookup a=some S→keepIn K (.ref a)=true∧MeetsB w K dep a S
 clo:∀ S t v m,Γ.cl=some S→MtV w K dep (.clo t v m) fun vs k=>vs.length=2∧S.use (vs++[t,v,m]) k
theorem Wd.nil (w:World)(K:Frag)(dep:Nat):Wd w K ⟨[],[],none⟩ dep:=⟨fun _ _ e=>(nomatch e),fun _ _ e=>(nomatch e),fun _ _ _ _ e=>(nomatch e)⟩
theorem look_cons {α:Type}{β:Type _}[BEq α][LawfulBEq α]{a b:α}{S T:β}{l:List (α×β)}(e:List.lookup b ((a,S)::l)=some T):(b=a∧S=T)∨l.lookup b=some T:=by
 rw [List.lookup_cons] at e
 cases z:b == a with
 | true=>rw [z] at e;exact .inl ⟨beq_iff_eq.mp z,Option.some.inj e⟩
 | false=>rw [z] at e;exact .inr e
theorem Wd.cons {w:World}{K:Frag}{fn:List (Addr×Spec)}{fb:List (Addr×SpecB)}{cl:Option Spec}{dep d:Nat}{a:Addr}{S:Spec}(W:Wd w K ⟨fn,fb,cl⟩ dep)(hk:keepIn K (.ref a)=true)(m:MtV w K d (.ref a) S.use)(hd:d≤dep) :
  Wd w K ⟨(a,S)::fn,fb,cl⟩ dep:=⟨fun b T e=>by
 rcases look_cons e with ⟨rfl,rfl⟩ | e
 ·exact ⟨hk,m.up hd⟩
 ·exact W.fn b T e,W.fb,W.clo⟩
theorem Wd.consB {w:World}{K:Frag}{fn:List (Addr×Spec)}{fb:List (Addr×SpecB)}{cl:Option Spec}{dep d:Nat}{a:Addr}{S:SpecB}(W:Wd w K ⟨fn,fb,cl⟩ dep)(hk:keepIn K (.ref a)=true)(m:MeetsB w K d a S)(hd:d≤dep) :
  Wd w K ⟨fn,(a,S)::fb,cl⟩ dep:=⟨W.fn,fun b T e=>by
 rcases look_cons e with ⟨rfl,rfl⟩ | e
 ·exact ⟨hk,m.up hd⟩
 ·exact W.fb b T e,W.clo⟩
theorem Wd.consC {w:World}{K:Frag}{fn:List (Addr×Spec)}{fb:List (Addr×SpecB)}{dep d:Nat}{S:Spec}(W:Wd w K ⟨fn,fb,none⟩ dep)
  (mc:∀ t v q,MtV w K d (.clo t v q) fun vs k=>vs.length=2∧S.use (vs++[t,v,q]) k) (hd:d≤dep):Wd w K ⟨fn,fb,some S⟩ dep :=
 ⟨W.fn,W.fb,fun T t v q e=>by cases e;exact (mc t v q).up hd⟩
theorem Ground.rn {w:World}{A:Around}{K:Frag}{Γ:Gam}{G:List (String×V)}{dep:Nat}{c:Cx}(H:Ground K G)(T:Wd w K Γ dep)(gr:Gr w K c.g0)(hk:c.env.scope.kind=.function)(hg:c.env.globals=mainGlobals)(hb:c.env.builtins=builtinsNs)(hd:A.handled=none)(hu:A.units+200+100*dep<cLine)(hp:A.depth+dep<recursionLimit) :
  Rn w K Γ G dep A c:=⟨gr,hk,hg,hb,hd,hu,hp,H.glob,H.bl,T.fn,T.fb,T.clo,H.att⟩
theorem zip_at {ps:List Str}{vals:List Value}{i:Nat}{x:Str}{y:Value}(nd:ps.Nodup)(h1:ps[i]?=some x)(h2:vals[i]?=some y):(ps.zip vals).lookup x=some y:=by
 induction ps generalizing vals i with
 | nil=>exact nomatch h1
 | cons p ps ih =>
  cases vals with
  | nil=>exact nomatch h2
  | cons v vals =>
   rw [List.zip_cons_cons,List.lookup_cons]
   cases i with
   | zero=>cases h1;cases h2;rw [beq_self_eq_true]
   | succ i =>
    have ne:(x == p)=false:=beq_eq_false_iff_ne.mpr fun e=>(List.nodup_cons.mp nd).1 (e▸List.mem_of_getElem? h1)
    rw [ne];exact ih (List.nodup_cons.mp nd).2 h1 h2
theorem zip_out {ps:List Str}{vals:List Value}{x:Str}(h:x∉ps):(ps.zip vals).lookup x=none:=by
 rw [List.lookup_eq_none_iff]
 exact fun q hq=>bne_iff_ne.mpr fun e=>h (e▸(List.of_mem_zip hq).1)
theorem lookup_zip_rev {ps:List Str}{vals:List Value}{i:Nat}{x:Str}{y:Value}(nd:ps.Nodup)(h1:ps[i]?=some x)(h2:vals[i]?=some y):(ps.zip vals).reverse.lookup x=some y:=by
 induction ps generalizing vals i with
 | nil=>exact nomatch h1
 | cons p ps ih =>
  cases vals with
  | nil=>exact nomatch h2
  | cons v vals =>
   rw [List.zip_cons_cons,List.reverse_cons,List.lookup_append]
   cases i with
   | zero =>
    cases h1;cases h2
    have:(ps.zip vals).reverse.lookup x=none:=List.lookup_eq_none_iff.mpr fun q hq=>bne_iff_ne.mpr fun e=>(List.nodup_cons.mp nd).1 (e▸(List.of_mem_zip (List.mem_reverse.mp hq)).1)
    rw [this,List.lookup_cons,beq_self_eq_true];rfl
   | succ i=>rw [ih (List.nodup_cons.mp nd).2 h1 h2];rfl
theorem cellsFrom_keep {names:List (Str×NameKind)}{n:Nat}{acc:List (Str×Addr)}{x:Str}(h:(acc.lookup x).isSome=true):((cellsFrom n names acc).lookup x).isSome=true:=by
 induction names generalizing n acc with
 | nil=>exact h
 | cons q r ih =>
  unfold cellsFrom
  split
  ·refine ih ?_
   rw [List.lookup_cons]
   cases x == q.1 with
   | true=>rfl
   | false=>exact h
  ·exact ih h
theorem cellsFrom_some {names:List (Str×NameKind)}{n:Nat}{acc:List (Str×Addr)}{x:Str}(h:names.lookup x=some .cell):((cellsFrom n names acc).lookup x).isSome=true:=by
 induction names generalizing n acc with
 | nil=>exact nomatch h
 | cons q r ih =>
  revert q;refine pr2 fun y k h=>?_
  unfold cellsFrom
  rcases look_cons h with ⟨rfl,rfl⟩ | h
  ·rw [if_pos (by rfl)]
   refine cellsFrom_keep ?_
   rw [List.lookup_cons,beq_self_eq_true];rfl
  ·split <;> exact ih h
theorem bindL_out {kd:Str→Option NameKind}{x:Str}{ps:List Str}:∀ {vals:List Value} {m:Str→Option Value},x∉ps→bindL kd (ps.zip vals) m x=m x:=by
 induction ps with
 | nil=>intros;rfl
 | cons p ps ih =>
  intro vals m h
  cases vals with
  | nil=>rfl
  | cons v vals =>
   rw [List.mem_cons,not_or] at h
   rw [List.zip_cons_cons]
   unfold bindL
   rw [ih h.2]
   split
   ·exact if_neg h.1
   ·rfl
theorem bindC_out {kd:Str→Option NameKind}{x:Str}{ps:List Str}:∀ {vals:List Value} {m:Str→Option Value},x∉ps→bindC kd (ps.zip vals) m x=m x:=by
 induction ps with
 | nil=>intros;rfl
 | cons p ps ih =>
  intro vals m h
  cases vals with
  | nil=>rfl
  | cons v vals =>
   rw [List.mem_cons,not_or] at h
   rw [List.zip_cons_cons]
   unfold bindC
   rw [ih h.2]
   split
   ·rfl
   ·exact if_neg h.1
theorem bindL_at {kd:Str→Option NameKind}{ps:List Str}{x:Str}{y:Value}(hk:kd x=some .local):∀ {vals:List Value} {m:Str→Option Value} {i:Nat},ps.Nodup→ps[i]?=some x→vals[i]?=some y→bindL kd (ps.zip vals) m x=some y:=by
 induction ps with
 | nil=>intro _ _ _ _ h;exact nomatch h
 | cons p ps ih =>
  intro vals m i nd h1 h2
  cases vals with
  | nil=>exact nomatch h2
  | cons v vals =>
   rw [List.zip_cons_cons]
   unfold bindL
   cases i with
   | zero=>cases h1;cases h2;rw [bindL_out (List.nodup_cons.mp nd).1,if_pos hk];exact if_pos rfl
   | succ i=>exact ih (List.nodup_cons.mp nd).2 h1 h2
theorem bindC_at {kd:Str→Option NameKind}{ps:List Str}{x:Str}{y:Value}(hk:kd x=some .cell):∀ {vals:List Value} {m:Str→Option Value} {i:Nat},ps.Nodup→ps[i]?=some x→vals[i]?=some y→bindC kd (ps.zip vals) m x=some y:=by
 induction ps with
 | nil=>intro _ _ _ _ h;exact nomatch h
 | cons p ps ih =>
  intro vals m i nd h1 h2
  cases vals with
  | nil=>exact nomatch h2
  | cons v vals =>
   rw [List.zip_cons_cons]
   unfold bindC
   cases i with
   | zero=>cases h1;cases h2;rw [bindC_out (List.nodup_cons.mp nd).1,if_neg (by rw [hk];decide)];exact if_pos rfl
   | succ i=>exact ih (List.nodup_cons.mp nd).2 h1 h2
theorem zip_fm {ps qs:List Str}{vals us:List Value}(nd:(qs++ps).Nodup)(hq:us.length=qs.length)(hl:vals.length=ps.length):ps.filterMap (fun n=>(((qs++ps).zip (us++vals)).lookup n).map (n,·))=ps.zip vals:=by
 induction ps generalizing vals qs us with
 | nil=>rfl
 | cons p ps ih =>
  cases vals with
  | nil=>exact nomatch hl
  | cons v vals =>
   have e:((qs++p::ps).zip (us++v::vals)).lookup p=some v:=zip_at (i:=qs.length) nd (by rw [List.getElem?_append_right (Nat.le_refl _),Nat.sub_self];rfl) (by rw [← hq,List.getElem?_append_right (Nat.le_refl _),Nat.sub_self];rfl)
   rw [List.filterMap_cons_some (b:=(p,v)) (by rw [e];rfl),List.zip_cons_cons]
   have:=ih (qs:=qs++[p]) (us:=us++[v]) (vals:=vals) (by rw [List.append_assoc];exact nd) (by rw [List.length_append,List.length_append,hq];rfl) (Nat.succ.inj hl)
   rw [List.append_assoc,List.append_assoc] at this
   rw [show qs++p::ps=qs++([p]++ps) from rfl,show us++v::vals=us++([v]++vals) from rfl,this]
theorem zip_look {ps:List Str}{vals:List Value}(nd:ps.Nodup)(hl:vals.length=ps.length):ps.filterMap (fun n=>((ps.zip vals).lookup n).map (n,·))=ps.zip vals:=zip_fm (qs:=[]) (us:=[]) nd rfl hl
theorem zip_some {ps:List Str}{vals:List Value}(nd:ps.Nodup)(hl:vals.length=ps.length):ps.filter (fun n=>((ps.zip vals).lookup n).isNone)=[]:=by
 rw [List.filter_eq_nil_iff]
 intro n hn
 obtain ⟨i,hi,rfl⟩:=List.getElem_of_mem hn
 rw [zip_at (i:=i) nd (List.getElem?_eq_getElem hi) (List.getElem?_eq_getElem (hl.symm▸hi))]
 exact Bool.false_ne_true
theorem bind_simple {fd:FuncData}{ps:List Str}{vals:List Value}(h1:fd.params.posonlyargs=[])(h2:fd.params.kwonlyargs=[])(h3:fd.params.vararg=none)(h4:fd.params.kwarg=none)(h5:fd.params.args.map (·.arg)=ps)
  (h6:fd.defaults=.none) (nd:ps.Nodup) (hl:vals.length=ps.length):bindArgs fd ⟨vals,[]⟩=pure (ps.zip vals):=by
 obtain ⟨nm,qn,⟨a1,a2,a3,a4,a5,a6,a7⟩,bd,sc,gl,cl,df,kd,dc,pm,an,cd,ct,bu⟩:=fd
 dsimp only at h1 h2 h3 h4 h5 h6
 cases h1;cases h2;cases h3;cases h4;cases h6
 unfold bindArgs
 dsimp only [List.map_nil,List.nil_append,seqItems?]
 simp only [h5,List.forIn_nil,pure_bind]
 simp [zip_some nd hl,zip_look nd hl,hl]
 rfl
end
section
structure DefAt (K:Frag) (a:Addr) (fd:FuncData) (ps:List Str) (body:List Stmt):Prop where
 at':∃ oc od osl,K.lookup a=some ⟨oc,od,.func fd,osl⟩
 cd:codeIn K fd.code fd.qualname=true
 bo:fd.body=.stmts body
 gl:fd.globals=mainGlobals
 bu:fd.builtins=builtinsNs
 cl:fd.closure=[]
 bd:∀ vals:List Value,vals.length=ps.length→bindArgs fd ⟨vals,[]⟩=pure (ps.zip vals)
 kf:fd.scope.kind=.function
 co:fd.scope.isCoroutine=false
 ge:fd.scope.isGenerator=false
section
variable {w:World}{A:Around}{s:Shared}{K:Frag}{Γ:Gam}{G:List (String×V)}{dep:Nat}{c:Cx}{fl:Addr→Prop}{σ:Sg}{oa:Nat→Addr}
def retV (f:FL)(k:V→Prop):Prop:=FL.casesOn f (k .none) False False k
noncomputable def outV (f:Flow):Value:=match f with
 | .ret v=>v
 | _=>.none
theorem ends {g:Vis}{F:FL}{f:Flow}{k:V→Prop}(h:FR g F f)(q:retV F k):∃ v,k v∧VR g v (outV f):=by
 cases F with
 | next=>cases (show f=.next from h);exact ⟨_,q,.none⟩
 | brk=>exact q.elim
 | cont=>exact q.elim
 | ret v=>refine x1a2 h fun x zq1 r=>?_;clear h;subst zq1;exact ⟨_,q,r⟩
theorem St.enter {h h₀:Heap}{m:Str→Option Value}(gi:GI c.g0 h)(flt:∀ b,fl b→LiveN h b)(ht:fl tabA)(dL:h.get? c.L=none)(kp:∀ b o,h.get? b=some o→h₀.get? b=some o)(len:σ.length=c.vars.length)(N:h₀.Ns c.L m)
  (bd:Le (vis h fl) (vis h₀ (Hid c.L fl σ oa))→∀ (i:Nat) x sl,c.vars[i]?=some x→σ[i]?=some sl→Bd c h₀ (vis h₀ (Hid c.L fl σ oa)) m oa i x sl) (no:∀ (i:Nat) l,σ[i]?≠some (Slot.own l))
  (bo:∀ (i:Nat) l,σ[i]?=some (Slot.bor l)→i=0∧fl (oa 0)∧oa 0≠tabA∧c.g0.get? (oa 0)=none∧ListHas h (vis h fl) (oa 0) l) :
  St c fl σ oa h₀∧Le (vis h fl) (vis h₀ (Hid c.L fl σ oa)):=by
 have X0:=Ext.of kp
 have nL:∀ b,Live h b→b≠c.L:=fun b z=>dead_ne dL z
 obtain ⟨pst,htab⟩:=gi.tab
 have ow:∀ b,OwnA σ oa b→fl b:=fun b z=>by
  refine x2a2 z fun i l z e=>?_
  rcases z with z | z
  ·exact absurd z (no i l)
  ·refine an3 (bo i l z) fun zq0 y _=>?_;subst zq0;exact e▸y
 have le:Le (vis h fl) (vis h₀ (Hid c.L fl σ oa)):=fun b o z=>⟨fun y=>by
  rcases y with y | y | y | y
  ·exact nL b ⟨o,z.2⟩ y
  ·exact z.1 (y▸ht)
  ·exact z.1 (ow b y)
  ·exact z.1 y,kp b o z.2⟩
 refine ⟨⟨gi.keep fun b o e _=>kp b o e,gi.dead dL,fun z=>nL _ ⟨_,htab⟩ z.symm,fun b z=>X0.liveN (flt b z),len,⟨m,N,bd le⟩,fun i l e=>absurd e (no i l),fun i l e=>?_,fun i j li lj e e' _=>?_⟩,le⟩
 ·refine an5 (bo i l e) fun zq0 a1 a2 a3 a4=>?_;subst zq0
  exact ⟨a1,nL _ a4.live,a2,a3,a4.mono (fun o z=>kp _ o z) le⟩
 ·have z:∀ {i:Nat} {l:List V},σ[i]?=some (.own l)∨σ[i]?=some (.bor l)→i=0:=fun {i l} e=>e.elim (fun e=>absurd e (no i l)) fun e=>(bo i l e).1
  rw [z e,z e']
theorem rest_at {l:List Slot}{n i:Nat}{sl:Slot}(e:(l++List.replicate n .un)[i]?=some sl):sl=.un∨l[i]?=some sl:=by
 rw [List.getElem?_append] at e
 split at e
 ·exact .inr e
 ·rw [List.getElem?_replicate] at e
  split at e <;> cases e
  exact .inl rfl
theorem enter {a:Addr}{fd:FuncData}{ps rest:List Str}{body:List Stmt}{sl:List Slot}{vals:List Value}{Q:Value→Shared→Prop}{g0:Heap}(D:DefAt K a fd ps body)(gr:Gr w K g0)
  (hl:∀ x∈ps,fd.scope.names.lookup x=some .local∨fd.scope.names.lookup x=some .cell) (nd:(ps++rest).Nodup) (hn:sl.length=ps.length) (hv:vals.length=ps.length) (hp:A.depth<recursionLimit) (gi:GI g0 s.heap) (flt:∀ b,fl b→LiveN s.heap b) (ht:fl tabA)
  (no:∀ (i:Nat) l,sl[i]?≠some (Slot.own l)) (bo:∀ (i:Nat) l,sl[i]?=some (Slot.bor l)→i=0∧fl (oa 0)∧oa 0≠tabA∧g0.get? (oa 0)=none∧ListHas s.heap (vis s.heap fl) (oa 0) l)
  (bv:∀ (i:Nat) v,sl[i]?=some (Slot.val v)→∃ y,vals[i]?=some y∧VR (vis s.heap fl) v y) (bb:∀ (i:Nat) l,sl[i]?=some (Slot.bor l)→vals[i]?=some (Value.ref (oa 0))∧∀ x,ps[i]?=some x→fd.scope.names.lookup x=some .local)
  (h:∀ (c:Cx) (s₁:Shared),c.g0=g0→c.vars=ps++rest→c.env=callEnvC fd s.heap.objs.size a→Frm s s₁→(∀ b o,s.heap.get? b=some o→s₁.heap.get? b=some o)→s.heap.get? c.L=none →
   St c fl (sl++List.replicate rest.length .un) oa s₁.heap→wpAny (model PG w) (A.deeper c.env) (execs body c.env) (fun f s'=>Q (outV f) s') Ed s₁) :
  wpAny (model PG w) A (call (.ref a) vals) Q Ed s:=by
 refine x3a1 D.at' fun oc od osl ho=>?_
 have X:K.In s.heap:=gr.X.keeps gi.1
 have hlim:s.heap.NoLimit:=by refine x5a1 gr.T fun p loose mean mg mb T=>?_;exact T.nolimit.keeps gi.1
 refine wpAny_call (codeAny_call_cells hp (X _ _ ho) rfl hlim (codeRec_of X D.cd) D.bo (D.bd vals hv) D.cl (fun x hx=>(hl _ (List.of_mem_zip hx).1).imp id fun z=>⟨z,cellsFrom_some z⟩) (fun s₁ I=>?_) D.co D.ge D.kf)
 refine x2a1 I.toInCall.same fun h₁ tk₁ es₁=>?_
 have dL:s.heap.get? s.heap.objs.size=none:=dead_size _
 refine wpAny_mono (h ⟨callEnvC fd s.heap.objs.size a,ps++rest,g0⟩ s₁ rfl rfl rfl (by rw [es₁];exact .mk _ _ _) I.toInCall.keep dL (St.enter gi flt ht dL I.toInCall.keep ?_ I.toInCall.ns (fun le i x t e1 e2=>?_) (fun i l e=>?_) fun i l e=>?_).1) (fun f s' z=>z) fun _ _ z=>z.elim
 ·show (sl++List.replicate rest.length Slot.un).length=(ps++rest).length
  rw [List.length_append,List.length_append,List.length_replicate,hn]
 ·have e1:(ps++rest)[i]?=some x:=e1
  rcases rest_at e2 with rfl | e2
  ·trivial
  ·rw [List.getElem?_append_left (by rw [← hn];exact (List.getElem?_eq_some_iff.mp e2).1)] at e1
   cases t with
   | un=>trivial
   | own l=>exact absurd e2 (no i l)
   | val v =>
    refine x1a2 (bv i v e2) fun y e4 r=>?_
    refine ⟨y,?_,r.mono le⟩
    rcases hl x (List.mem_of_getElem? e1) with hk | hk
    ·exact .inl ⟨hk,bindL_at hk (List.nodup_append.mp nd).1 e1 e4⟩
    ·obtain ⟨ca,hca⟩:=Option.isSome_iff_exists.mp (cellsFrom_some (n:=s.heap.objs.size+1) (acc:=[]) hk)
     refine x1a2 (I.cell x ca hca) fun o g1 g2=>?_
     exact .inr ⟨.inl hk,ca,o,hca,g1,by rw [g2,bindC_at hk (List.nodup_append.mp nd).1 e1 e4]⟩
   | bor l =>
    obtain ⟨rfl,_⟩:=bo i l e2
    obtain ⟨z1,z2⟩:=bb 0 l e2
    exact ⟨z2 x e1,bindL_at (z2 x e1) (List.nodup_append.mp nd).1 e1 z1⟩
 ·exact (rest_at e).elim (fun z=>nomatch z) (no i l)
 ·exact (rest_at e).elim (fun z=>nomatch z) (bo i l)
theorem map_val {vs:List V}{i:Nat}{sl:Slot}(e:(vs.map Slot.val)[i]?=some sl):∃ v,vs[i]?=some v∧sl=.val v:=by
 rw [List.getElem?_map] at e
 cases h:vs[i]? with
 | none=>rw [h] at e;exact nomatch e
 | some v=>rw [h] at e;cases e;exact ⟨v,rfl,rfl⟩
theorem Rn.at_ {fd:FuncData}{a L:Addr}{ps:List Str}{body:List Stmt}{g0:Heap}(H:Ground K G)(T:Wd w K Γ dep)(D:DefAt K a fd ps body)(gr:Gr w K g0)(e0:c.g0=g0)(e:c.env=callEnvC fd L a)(hd:A.handled=none)(hu:A.units+200+100*(dep+1)<cLine)(hp:A.depth+(dep+1)<recursionLimit) :
  Rn w K Γ G dep (A.deeper c.env) c:=by
 rw [e]
 have:=D.gl;have:=D.bu;have:=D.kf
 refine H.rn T (e0▸gr) ?_ ?_ ?_ hd (by show A.units+3+200+100*dep<cLine;exact F1 [_,_,_] [] 30496529936888597390778984783011608222401985974187314403703005280 hu) (by show A.depth+1+dep<recursionLimit;exact F1 [_,_,_] [] 5601355136005034043521120 hp) <;> rw [e] <;> assumption
theorem go_ext {σ':Sg}{oa':Nat→Addr}{s₁ s':Shared}(fr:Frm s s₁)(kp:∀ b o,s.heap.get? b=some o→s₁.heap.get? b=some o)(dL:s.heap.get? c.L=none)(no:∀ b,¬OwnA σ oa b)(g:Go c fl σ oa s₁ σ' oa' s'):Frm s s'∧Ext s.heap s'.heap∧GI c.g0 s'.heap∧Le (vz c fl σ' oa' s'.heap) (vis s'.heap fl) :=
 ⟨fr.trans g.fr,⟨fun b o z1 z2=>g.ev.keep b o (kp b o z1) z2 (dead_ne dL ⟨o,z1⟩) (no b),fun z=>g.ev.live _ ((Ext.of kp).live z),.trans (fun _ q=>(Ext.of kp).live q) (Ext.of kp).grow g.ev.grow⟩,g.st.gi,fun b o z=>⟨fun y=>z.1 (.inr (.inr (.inr y))),z.2⟩⟩
theorem meets_def {S:Spec}{a:Addr}{fd:FuncData}{ps rest:List Str}{body:List Stmt}{m:C}(H:Ground K G)(T:Wd w K Γ dep)(D:DefAt K a fd ps body)(hl:∀ x∈ps,fd.scope.names.lookup x=some .local∨fd.scope.names.lookup x=some .cell)(nd:(ps++rest).Nodup)
  (hc:GoodB ⟨fd.scope,ps++rest,G⟩ m body) (hn:∀ x,(S.enc x).length=ps.length) (hW:∀ x,S.pre x→W Γ m ((S.enc x).map .val++List.replicate rest.length .un) fun f _=>retV f (S.post x)):MtV w K (dep+1) (.ref a) S.use:=by
 intro g0 gr A s fl f args vals k hd hu hp gi flt ht rf ra hU
 cases rf.ref_inv
 refine x1a3 hU fun x zq1 hpre hk=>?_;clear hU;subst zq1
 refine enter (oa:=fun _=>0) (sl:=(S.enc x).map .val) D gr hl nd (by rw [List.length_map,hn]) (by rw [← ra.length,hn]) (by exact F1 [_,_,_] [] 333971333461325920 hp) gi flt ht (fun i l e=>?_) (fun i l e=>?_) (fun i v e=>?_) (fun i l e=>?_) fun c s₁ e1 e2 e3 fr kp dL S1=>?_
 ·refine x1a2 (map_val e) fun v _ z=>?_;cases z
 ·refine x1a2 (map_val e) fun v _ z=>?_;cases z
 ·refine x1a2 (map_val e) fun u z y=>?_;cases y;exact ra.get z
 ·refine x1a2 (map_val e) fun v _ z=>?_;cases z
 ·have no:∀ b,¬OwnA ((S.enc x).map .val++List.replicate rest.length .un) (fun _=>0) b:=fun b z=>by
   refine x2a2 z fun i l z _=>?_
   rcases z with z | z <;> rcases rest_at z with y | y
   ·cases y
   ·refine x1a2 (map_val y) fun v _ z=>?_;cases z
   ·cases y
   ·refine x1a2 (map_val y) fun v _ z=>?_;cases z
  have C:Cs ⟨fd.scope,ps++rest,G⟩ w (A.deeper c.env) Γ K dep c:=⟨⟨by rw [e3];rfl,e2,by rw [e3];exact D.kf⟩,Rn.at_ H T D gr e1 e3 hd hu hp,by rw [e2];exact nd⟩
  refine wpAny_mono (hc.sb C fl _ _ _ _ S1 (hW x hpre)) (fun f s' p=>?_) fun _ _ z=>z
  refine x3a3 p fun F σ' oa' q r g=>?_;clear p
  refine x1a2 (ends r q) fun v qv rv=>?_
  refine an4 (go_ext fr kp dL no g) fun z1 z2 z3 z4=>?_
  exact ⟨v,hk v qv,z1,z2,e1▸z3,rv.mono z4⟩
theorem meets_defB {S:SpecB}{a:Addr}{fd:FuncData}{p0:Str}{ps rest:List Str}{body:List Stmt}{m:C}(H:Ground K G)(T:Wd w K Γ dep)(D:DefAt K a fd (p0::ps) body)(hl:∀ x∈p0::ps,fd.scope.names.lookup x=some .local)(nd:((p0::ps)++rest).Nodup)
  (hc:GoodB ⟨fd.scope,(p0::ps)++rest,G⟩ m body) (hn:∀ x,(S.enc x).2.length=ps.length)
  (hW:∀ x,S.pre x→W Γ m (.bor (S.enc x).1::((S.enc x).2.map .val++List.replicate rest.length .un)) fun f σ=>∃ l',σ[0]?=some (.bor l')∧retV f fun v=>S.post x v l'):MeetsB w K (dep+1) a S:=by
 intro g0 gr A s fl b0 l0 args vals k hd hu hp gi flt ht hb hbT hbg lh ra hU
 refine x1a3 hU fun x ex hpre hk=>?_;clear hU
 obtain ⟨rfl,rfl⟩:l0=(S.enc x).1∧args=(S.enc x).2:=⟨congrArg Prod.fst ex,congrArg Prod.snd ex⟩
 refine enter (oa:=fun _=>b0) (sl:=.bor (S.enc x).1::(S.enc x).2.map .val) (vals:=.ref b0::vals) D gr (fun x h=>.inl (hl x h)) nd (by rw [List.length_cons,List.length_map,hn];rfl) (by rw [List.length_cons,← ra.length,hn];rfl) (by exact F1 [_,_,_] [] 333971333461325920 hp) gi flt ht (fun i l e=>?_) (fun i l e=>?_) (fun i v e=>?_) (fun i l e=>?_) fun c s₁ e1 e2 e3 fr kp dL S1=>?_
 ·cases i with
  | zero=>cases e
  | succ i=>refine x1a2 (map_val (i:=i) e) fun v _ z=>?_;cases z
 ·cases i with
  | zero=>cases e;exact ⟨rfl,hb,hbT,hbg,lh⟩
  | succ i=>refine x1a2 (map_val (i:=i) e) fun v _ z=>?_;cases z
 ·cases i with
  | zero=>cases e
  | succ i=>refine x1a2 (map_val (i:=i) e) fun u z y=>?_;cases y;exact ra.get z
 ·cases i with
  | zero=>exact ⟨rfl,fun x z=>hl x (List.mem_of_getElem? z)⟩
  | succ i=>refine x1a2 (map_val (i:=i) e) fun v _ z=>?_;cases z
 ·have C:Cs ⟨fd.scope,(p0::ps)++rest,G⟩ w (A.deeper c.env) Γ K dep c:=⟨⟨by rw [e3];rfl,e2,by rw [e3];exact D.kf⟩,Rn.at_ H T D gr e1 e3 hd hu hp,by rw [e2];exact nd⟩
  refine wpAny_mono (hc.sb C fl _ _ _ _ S1 (hW x hpre)) (fun f s' p=>?_) fun _ _ z=>z
  obtain ⟨F,σ',oa',⟨l',el,q⟩,r,g⟩:=p
  refine x1a2 (ends r q) fun v qv rv=>?_
  have hl0:=g.st.bor 0 l' el
  have isO:∀ y,OwnA (.bor (S.enc x).1::(S.enc x).2.map .val++List.replicate rest.length .un) (fun _=>b0) y→y=b0:=fun y z=>by refine x2a2 z fun _ _ _ z=>?_;exact z.symm
  have same:oa' 0=b0:=isO _ (g.ev.own _ ⟨0,l',.inr el,rfl⟩ ((Ext.of kp).liveN (flt _ hl0.1)).live)
  have le':Le (vz c fl σ' oa' s'.heap) (vis s'.heap fl):=fun b o z=>⟨fun y=>z.1 (.inr (.inr (.inr y))),z.2⟩
  exact ⟨v,l',hk v l' qv,fr.trans g.fr,fun y o z1 z2 z3=>g.ev.keep y o (kp y o z1) z2 (dead_ne dL ⟨o,z1⟩) fun z=>z3 (isO y z),.trans (fun _ q=>(Ext.of kp).live q) (Ext.of kp).grow g.ev.grow,e1▸g.st.gi,rv.mono le',same▸hl0.2.2.2.2.mono (fun _ z=>z) le'⟩
end
noncomputable def onFd (K:Frag)(a:Addr)(f:FuncData→Bool):Bool:=Option.casesOn (K.lookup a) false fun o=>if h:o.data.ctorIdx=7 then Data.func.elim (motive:=fun _=>Bool) o.data h f else false
theorem onFd_inv {K:Frag}{a:Addr}{f:FuncData→Bool}(h:onFd K a f=true):∃ fd,f fd=true∧∃ oc od osl,K.lookup a=some ⟨oc,od,.func fd,osl⟩:=by
 unfold onFd at h
 cases e:K.lookup a with
 | none=>rw [e] at h;exact nomatch h
 | some o =>
  rw [e] at h
  obtain ⟨oc,od,d,osl⟩:=o
  by_cases z:d.ctorIdx=7
  ·refine Data.func.elim (motive:=fun d=>(if h:d.ctorIdx=7 then Data.func.elim (motive:=fun _=>Bool) d h f else false)=true→∃ fd,f fd=true∧∃ oc' od' osl',some (Obj.mk oc od d osl)=some ⟨oc',od',.func fd,osl'⟩) d z (fun fd h=>⟨fd,h,oc,od,osl,rfl⟩) h
  ·exact absurd h (by show ¬(if h:d.ctorIdx=7 then Data.func.elim (motive:=fun _=>Bool) d h f else false)=true;rw [dif_neg z];exact Bool.false_ne_true)
noncomputable def onSts (b:FuncBody)(f:List Stmt→Bool):Bool:=FuncBody.casesOn b f fun _=>false
theorem onSts_inv {b:FuncBody}{f:List Stmt→Bool}(h:onSts b f=true):∃ body,b=.stmts body∧f body=true:=by
 cases b with
 | stmts b=>exact ⟨b,rfl,h⟩
 | expr e=>exact nomatch h
structure Head (K:Frag) (fd:FuncData) (ps rest:List Str):Prop where
 cd:codeIn K fd.code fd.qualname=true
 gl:fd.globals=mainGlobals
 bu:fd.builtins=builtinsNs
 cl:fd.closure=[]
 pa:fd.params.posonlyargs.isEmpty=true∧fd.params.kwonlyargs.isEmpty=true∧fd.params.vararg.isNone=true∧fd.params.kwarg.isNone=true
 ar:fd.params.args.map (·.arg)=ps
 df:fd.defaults.ctorIdx=0
 sc:fd.scope.kind=.function∧fd.scope.isCoroutine=false∧fd.scope.isGenerator=false
 nd:(ps++rest).Nodup
noncomputable def chkHead (K:Frag)(fd:FuncData)(ps rest:List Str):Bool:=decide (codeIn K fd.code fd.qualname=true∧fd.globals=mainGlobals∧fd.builtins=builtinsNs∧fd.closure=[] ∧
 (fd.params.posonlyargs.isEmpty=true∧fd.params.kwonlyargs.isEmpty=true∧fd.params.vararg.isNone=true∧fd.params.kwarg.isNone=true)∧fd.params.args.map (·.arg)=ps∧fd.defaults.ctorIdx=0∧(fd.scope.kind=.function∧fd.scope.isCoroutine=false∧fd.scope.isGenerator=false)∧(ps++rest).Nodup)
theorem head_of {K:Frag}{a:Addr}{fd:FuncData}{ps rest:List Str}{body:List Stmt}(ho:∃ oc od osl,K.lookup a=some ⟨oc,od,.func fd,osl⟩)(h:chkHead K fd ps rest=true)(hb:fd.body=.stmts body):DefAt K a fd ps body∧(ps++rest).Nodup:=by
 refine an8 (of_decide_eq_true h) fun h1 h2 h3 h4 zn4 h5 h6 zr0=>an2 zr0 fun zn7 nd=>an4 zn4 fun a1 a2 a3 a4=>an3 zn7 fun b1 b2 b3=>?_;clear zn7 zn4 zr0
 exact ⟨⟨ho,h1,hb,h2,h3,h4,fun vals hl=>bind_simple (List.isEmpty_iff.mp a1) (List.isEmpty_iff.mp a2) (Option.isNone_iff_eq_none.mp a3) (Option.isNone_iff_eq_none.mp a4) h5 (Value.none.elim (motive:=fun v=>v=.none) fd.defaults h6 rfl) (List.nodup_append.mp nd).1 hl,b1,b2,b3⟩,nd⟩
noncomputable def parOk (fd:FuncData)(ps:List Str):Bool:=ps.all fun x=>fd.scope.names.lookup x == some .local || fd.scope.names.lookup x == some .cell
noncomputable def parOkB (fd:FuncData)(ps:List Str):Bool:=ps.all fun x=>fd.scope.names.lookup x == some .local
noncomputable def chkFn (K:Frag)(G:List (String×V))(a:Addr)(ps rest:List Str)(m:C):Bool:=onFd K a fun fd=>chkHead K fd ps rest && (parOk fd ps && onSts fd.body fun b=>chkB ⟨fd.scope,ps++rest,G⟩ m b)
noncomputable def chkFnB (K:Frag)(G:List (String×V))(a:Addr)(ps rest:List Str)(m:C):Bool:=onFd K a fun fd=>chkHead K fd ps rest && (parOkB fd ps && onSts fd.body fun b=>chkB ⟨fd.scope,ps++rest,G⟩ m b)
section
variable {w:World}{K:Frag}{Γ:Gam}{G:List (String×V)}{dep:Nat}
theorem mcK {S:Spec}{a:Addr}{ps rest:List Str}{m:C}(H:Ground K G)(T:Wd w K Γ dep)(h:chkFn K G a ps rest m=true)(hn:∀ x,(S.enc x).length=ps.length)
  (hW:∀ x,S.pre x→W Γ m ((S.enc x).map .val++List.replicate rest.length .un) fun f _=>retV f (S.post x)):MtV w K (dep+1) (.ref a) S.use:=by
 refine x1a2 (onFd_inv h) fun fd h ho=>?_
 obtain ⟨h1,h⟩:=Bool.and_eq_true_iff.mp h
 obtain ⟨h2,h⟩:=Bool.and_eq_true_iff.mp h
 refine x1a2 (onSts_inv h) fun b hb h=>?_
 obtain ⟨D,nd⟩:=head_of ho h1 hb
 exact meets_def H T D (fun x hx=>(Bool.or_eq_true_iff.mp (List.all_eq_true.mp h2 x hx)).imp (fun z=>eq_of_beq z) fun z=>eq_of_beq z) nd (chkB_good _ h) hn hW
theorem meets_chkB {S:SpecB}{a:Addr}{p0:Str}{ps rest:List Str}{m:C}(H:Ground K G)(T:Wd w K Γ dep)(h:chkFnB K G a (p0::ps) rest m=true)(hn:∀ x,(S.enc x).2.length=ps.length)
  (hW:∀ x,S.pre x→W Γ m (.bor (S.enc x).1::((S.enc x).2.map .val++List.replicate rest.length .un)) fun f σ=>∃ l',σ[0]?=some (.bor l')∧retV f fun v=>S.post x v l'):MeetsB w K (dep+1) a S:=by
 refine x1a2 (onFd_inv h) fun fd h ho=>?_
 obtain ⟨h1,h⟩:=Bool.and_eq_true_iff.mp h
 obtain ⟨h2,h⟩:=Bool.and_eq_true_iff.mp h
 refine x1a2 (onSts_inv h) fun b hb h=>?_
 obtain ⟨D,nd⟩:=head_of ho h1 hb
 exact meets_defB H T D (fun x hx=>eq_of_beq (List.all_eq_true.mp h2 x hx)) nd (chkB_good _ h) hn hW
end
end
section
noncomputable def vN (l:List String):List Str:=l.map Str.ofString
noncomputable def GL:List (String×V):=[("GmpError",.ref 24),("OutOfRange",.ref 61),("normal",.ref 70),("nat_of",.ref 77),("is_even",.ref 84),("compare",.ref 91),("add",.ref 98),("sub",.ref 105),("sub_limb",.ref 119),("lifted",.ref 126),("divrem_limb",.ref 133),("shift_left",.ref 140),("shift_right",.ref 147),("bits",.ref 154),("bit",.ref 161),("trailing",.ref 168),("inverse_limb",.ref 175),("Montgomery",.ref 192),("doubled_rest",.ref 203),("mont_make",.ref 210),("add_row",.ref 217),("taken_once",.ref 224),("redc",.ref 231),("to_mont",.ref 238),("from_mont",.ref 245),("mont_mul",.ref 252),("odd_powers",.ref 259),("window_at",.ref 266),("by_windows",.ref 273),("mont_times",.ref 280),("power_mont",.ref 287),("small_primes",.ref 294),("rest_small",.ref 301),("trial",.ref 308),("odd_part",.ref 315),("check_odd",.ref 322),("square_rest",.ref 329),("strong_rows",.ref 336),("strong_probable",.ref 343),("is_probable",.ref 453),("is_pair",.ref 460),("least_witness",.ref 467),("divided_out",.ref 474),("mul_school",.ref 481),("divrem_small",.ref 488),("guessed_limb",.ref 495),("take_away",.ref 502),("put_back",.ref 509),("divide_rows",.ref 516),("divrem_school",.ref 523),("_law_worth",.ref 528),("_law_is_prime",.ref 533),("_law_power",.ref 540),("_law_lets",.ref 547),("_law_witness",.ref 552),("_law_is_refused",.ref 559),("MOST_SMALL",.int 60)]
noncomputable def c_normal:C:=.seq (.asg 1 (.lenL 0)) (.seq (.whl (.and (.cmp .Gt (.loc 1) (.cst (.int 0))) (.cmp .Eq (.subL 0 (.bin .Sub (.loc 1) (.cst (.int 1)))) (.cst (.int 0)))) (.seq (.aug 1 .Sub (.cst (.int 1))) .skip)) (.seq (.ret (.fresh (.sliceL 0 (.cst .none) (.loc 1)))) .skip))
noncomputable abbrev p_normal:List Str:=vN ["a"]
noncomputable abbrev r_normal:List Str:=vN ["end"]
noncomputable def c_nat_of:C:=.seq (.ifs (.cmp .Lt (.loc 0) (.cst (.int 0))) (.seq .raise .skip) .skip) (.seq (.multi (.own 2 (.disp .nil) (.val 3 (.bin .Sub (.bin .LShift (.cst (.int 1)) (.loc 1)) (.cst (.int 1))) .nil))) (.seq (.whl (.cmp .Gt (.loc 0) (.cst (.int 0))) (.seq (.app 2 (.bin .BitAnd (.loc 0) (.loc 3))) (.seq (.aug 0 .RShift (.loc 1)) .skip))) (.seq (.ret (.loc 2)) .skip)))
noncomputable abbrev p_nat_of:List Str:=vN ["number","w"]
noncomputable abbrev r_nat_of:List Str:=vN ["found","mask"]
noncomputable def c_is_even:C:=.seq (.ret (.or (.cmp .Eq (.lenL 0) (.cst (.int 0))) (.cmp .Eq (.bin .BitAnd (.subL 0 (.cst (.int 0))) (.cst (.int 1))) (.cst (.int 0))))) .skip
noncomputable abbrev p_is_even:List Str:=vN ["a"]
noncomputable abbrev r_is_even:List Str:=vN []
noncomputable def c_compare:C:=.seq (.ifs (.cmp .NotEq (.lenL 0) (.lenL 1)) (.seq (.ret (.ite (.cmp .Lt (.lenL 0) (.lenL 1)) (.neg (.cst (.int 1))) (.cst (.int 1)))) .skip) .skip) (.seq (.for1 2 (.rng3 (.bin .Sub (.lenL 0) (.cst (.int 1))) (.neg (.cst (.int 1))) (.neg (.cst (.int 1)))) (.seq (.ifs (.cmp .NotEq (.subL 0 (.loc 2)) (.subL 1 (.loc 2))) (.seq (.ret (.ite (.cmp .Lt (.subL 0 (.loc 2)) (.subL 1 (.loc 2))) (.neg (.cst (.int 1))) (.cst (.int 1)))) .skip) .skip) .skip)) (.seq (.ret (.cst (.int 0))) .skip))
noncomputable abbrev p_compare:List Str:=vN ["a","b"]
noncomputable abbrev r_compare:List Str:=vN ["at"]
noncomputable def c_add:C:=.seq (.ifs (.cmp .Lt (.lenL 0) (.lenL 1)) (.seq (.multi (.val 0 (.loc 1) (.val 1 (.loc 0) .nil))) .skip) .skip) (.seq (.multi (.own 3 (.disp .nil) (.val 4 (.cst (.int 0)) (.val 5 (.bin .Sub (.bin .LShift (.cst (.int 1)) (.loc 2)) (.cst (.int 1))) .nil)))) (.seq (.for1 6 (.rng1 (.lenL 1)) (.seq (.aug 4 .Add (.bin .Add (.subL 0 (.loc 6)) (.subL 1 (.loc 6)))) (.seq (.app 3 (.bin .BitAnd (.loc 4) (.loc 5))) (.seq (.aug 4 .RShift (.loc 2)) .skip)))) (.seq (.for1 6 (.rng2 (.lenL 1) (.lenL 0)) (.seq (.aug 4 .Add (.subL 0 (.loc 6))) (.seq (.app 3 (.bin .BitAnd (.loc 4) (.loc 5))) (.seq (.aug 4 .RShift (.loc 2)) .skip)))) (.seq (.ifs (.cmp .Gt (.loc 4) (.cst (.int 0))) (.seq (.app 3 (.loc 4)) .skip) .skip) (.seq (.ret (.loc 3)) .skip)))))
noncomputable abbrev p_add:List Str:=vN ["a","b","w"]
noncomputable abbrev r_add:List Str:=vN ["found","carry","mask","at"]
noncomputable def c_sub:C:=.seq (.ifs (.cmp .Lt (.call (.glo "compare" (.ref 91)) (.cons (.loc 0) (.cons (.loc 1) .nil))) (.cst (.int 0))) (.seq .raise .skip) .skip) (.seq (.multi (.own 3 (.disp .nil) (.val 4 (.cst (.int 0)) (.val 5 (.bin .LShift (.cst (.int 1)) (.loc 2)) .nil)))) (.seq (.for1 6 (.rng1 (.lenL 0)) (.seq (.asg 7 (.bin .Sub (.bin .Sub (.subL 0 (.loc 6)) (.loc 4)) (.ite (.cmp .Lt (.loc 6) (.lenL 1)) (.subL 1 (.loc 6)) (.cst (.int 0))))) (.seq (.asg 4 (.ite (.cmp .Lt (.loc 7) (.cst (.int 0))) (.cst (.int 1)) (.cst (.int 0)))) (.seq (.app 3 (.ite (.cmp .Lt (.loc 7) (.cst (.int 0))) (.bin .Add (.loc 7) (.loc 5)) (.loc 7))) .skip)))) (.seq (.ret (.call (.glo "normal" (.ref 70)) (.cons (.loc 3) .nil))) .skip)))
noncomputable abbrev p_sub:List Str:=vN ["a","b","w"]
noncomputable abbrev r_sub:List Str:=vN ["found","borrow","base","at","limb"]
noncomputable def c_sub_limb:C:=.seq (.ret (.call (.glo "sub" (.ref 105)) (.cons (.loc 0) (.cons (.ite (.cmp .Gt (.loc 1) (.cst (.int 0))) (.fresh (.disp (.cons (.loc 1) .nil))) (.fresh (.disp .nil))) (.cons (.loc 2) .nil))))) .skip
noncomputable abbrev p_sub_limb:List Str:=vN ["a","limb","w"]
noncomputable abbrev r_sub_limb:List Str:=vN []
noncomputable def c_lifted:C:=.seq (.ret (.ite (.cmp .Gt (.lenL 0) (.cst (.int 0))) (.fresh (.cat (.fresh (.rep (.cst (.int 0)) (.loc 1))) (.loc 0))) (.fresh (.disp .nil)))) .skip
noncomputable abbrev p_lifted:List Str:=vN ["a","spot"]
noncomputable abbrev r_lifted:List Str:=vN []
noncomputable def c_divrem_limb:C:=.seq (.ifs (.cmp .Eq (.loc 1) (.cst (.int 0))) (.seq .raise .skip) .skip) (.seq (.multi (.own 3 (.rep (.cst (.int 0)) (.lenL 0)) (.val 4 (.cst (.int 0)) .nil))) (.seq (.for1 5 (.rng3 (.bin .Sub (.lenL 0) (.cst (.int 1))) (.neg (.cst (.int 1))) (.neg (.cst (.int 1)))) (.seq (.asg 4 (.bin .BitOr (.bin .LShift (.loc 4) (.loc 2)) (.subL 0 (.loc 5)))) (.seq (.setL 3 (.loc 5) (.bin .FloorDiv (.loc 4) (.loc 1))) (.seq (.aug 4 .Mod (.loc 1)) .skip)))) (.seq (.ret (.tup (.cons (.call (.glo "normal" (.ref 70)) (.cons (.loc 3) .nil)) (.cons (.loc 4) .nil)))) .skip)))
noncomputable abbrev p_divrem_limb:List Str:=vN ["a","limb","w"]
noncomputable abbrev r_divrem_limb:List Str:=vN ["found","rest","at"]
noncomputable def c_shift_left:C:=.seq (.ifs (.cmp .Eq (.lenL 0) (.cst (.int 0))) (.seq (.ret (.fresh (.disp .nil))) .skip) .skip) (.seq (.multi (.val 3 (.bin .FloorDiv (.loc 1) (.loc 2)) (.val 4 (.bin .Mod (.loc 1) (.loc 2)) .nil))) (.seq (.multi (.own 5 (.rep (.cst (.int 0)) (.loc 3)) (.val 6 (.cst (.int 0)) (.val 7 (.bin .Sub (.bin .LShift (.cst (.int 1)) (.loc 2)) (.cst (.int 1))) .nil)))) (.seq (.for1 8 (.lst (.loc 0)) (.seq (.aug 6 .BitOr (.bin .LShift (.loc 8) (.loc 4))) (.seq (.app 5 (.bin .BitAnd (.loc 6) (.loc 7))) (.seq (.aug 6 .RShift (.loc 2)) .skip)))) (.seq (.ifs (.cmp .Gt (.loc 6) (.cst (.int 0))) (.seq (.app 5 (.loc 6)) .skip) .skip) (.seq (.ret (.loc 5)) .skip)))))
noncomputable abbrev p_shift_left:List Str:=vN ["a","n","w"]
noncomputable abbrev r_shift_left:List Str:=vN ["spots","few","found","carry","mask","one"]
noncomputable def c_shift_right:C:=.seq (.multi (.val 3 (.bin .FloorDiv (.loc 1) (.loc 2)) (.val 4 (.bin .Mod (.loc 1) (.loc 2)) .nil))) (.seq (.multi (.own 5 (.disp .nil) (.val 6 (.bin .Sub (.bin .LShift (.cst (.int 1)) (.loc 2)) (.cst (.int 1))) .nil))) (.seq (.for1 7 (.rng2 (.loc 3) (.lenL 0)) (.seq (.asg 8 (.ite (.cmp .Lt (.bin .Add (.loc 7) (.cst (.int 1))) (.lenL 0)) (.subL 0 (.bin .Add (.loc 7) (.cst (.int 1)))) (.cst (.int 0)))) (.seq (.app 5 (.bin .BitAnd (.bin .BitOr (.bin .RShift (.subL 0 (.loc 7)) (.loc 4)) (.bin .LShift (.loc 8) (.bin .Sub (.loc 2) (.loc 4)))) (.loc 6))) .skip))) (.seq (.ret (.call (.glo "normal" (.ref 70)) (.cons (.loc 5) .nil))) .skip)))
noncomputable abbrev p_shift_right:List Str:=vN ["a","n","w"]
noncomputable abbrev r_shift_right:List Str:=vN ["spots","few","found","mask","at","above"]
noncomputable def c_bits:C:=.seq (.ret (.ite (.cmp .Gt (.lenL 0) (.cst (.int 0))) (.bin .Add (.bin .Mult (.bin .Sub (.lenL 0) (.cst (.int 1))) (.loc 1)) (.bitlen (.subL 0 (.neg (.cst (.int 1)))))) (.cst (.int 0)))) .skip
noncomputable abbrev p_bits:List Str:=vN ["a","w"]
noncomputable abbrev r_bits:List Str:=vN []
noncomputable def c_bit:C:=.seq (.ret (.ite (.cmp .Lt (.bin .FloorDiv (.loc 1) (.loc 2)) (.lenL 0)) (.bin .BitAnd (.bin .RShift (.subL 0 (.bin .FloorDiv (.loc 1) (.loc 2))) (.bin .Mod (.loc 1) (.loc 2))) (.cst (.int 1))) (.cst (.int 0)))) .skip
noncomputable abbrev p_bit:List Str:=vN ["a","n","w"]
noncomputable abbrev r_bit:List Str:=vN []
noncomputable def c_trailing:C:=.seq (.for2 2 3 (.enm (.loc 0)) (.seq (.ifs (.cmp .Gt (.loc 3) (.cst (.int 0))) (.seq (.ret (.bin .Sub (.bin .Add (.bin .Mult (.loc 2) (.loc 1)) (.bitlen (.bin .BitAnd (.loc 3) (.neg (.loc 3))))) (.cst (.int 1)))) .skip) .skip) .skip)) (.seq .raise .skip)
noncomputable abbrev p_trailing:List Str:=vN ["a","w"]
noncomputable abbrev r_trailing:List Str:=vN ["at","limb"]
noncomputable def c_inverse_limb:C:=.seq (.ifs (.cmp .Eq (.bin .Mod (.loc 0) (.cst (.int 2))) (.cst (.int 0))) (.seq .raise .skip) .skip) (.seq (.asg 2 (.bin .LShift (.cst (.int 1)) (.loc 1))) (.seq (.multi (.val 3 (.bin .Mod (.loc 0) (.loc 2)) (.val 4 (.cst (.int 3)) .nil))) (.seq (.whl (.cmp .Lt (.loc 4) (.loc 1)) (.seq (.asg 3 (.bin .Mod (.bin .Mult (.loc 3) (.bin .Mod (.bin .Sub (.cst (.int 2)) (.bin .Mult (.loc 0) (.loc 3))) (.loc 2))) (.loc 2))) (.seq (.asg 4 (.bin .Mult (.cst (.int 2)) (.loc 4))) .skip))) (.seq (.ret (.loc 3)) .skip))))
noncomputable abbrev p_inverse_limb:List Str:=vN ["d","w"]
noncomputable abbrev r_inverse_limb:List Str:=vN ["whole","found","sure"]
noncomputable def c_doubled_rest:C:=.seq (.asg 3 (.call (.glo "shift_left" (.ref 140)) (.cons (.loc 0) (.cons (.cst (.int 1)) (.cons (.loc 2) .nil))))) (.seq (.ret (.ite (.cmp .GtE (.call (.glo "compare" (.ref 91)) (.cons (.loc 3) (.cons (.loc 1) .nil))) (.cst (.int 0))) (.call (.glo "sub" (.ref 105)) (.cons (.loc 3) (.cons (.loc 1) (.cons (.loc 2) .nil)))) (.loc 3))) .skip)
noncomputable abbrev p_doubled_rest:List Str:=vN ["a","m","w"]
noncomputable abbrev r_doubled_rest:List Str:=vN ["found"]
noncomputable def c_mont_make:C:=.seq (.ifs (.call (.glo "is_even" (.ref 84)) (.cons (.loc 0) .nil)) (.seq .raise .skip) .skip) (.seq (.asg 2 (.ite (.cmp .Eq (.loc 0) (.fresh (.disp (.cons (.cst (.int 1)) .nil)))) (.fresh (.disp .nil)) (.fresh (.disp (.cons (.cst (.int 1)) .nil))))) (.seq (.for1 3 (.rng1 (.bin .Mult (.lenL 0) (.loc 1))) (.seq (.asg 2 (.call (.glo "doubled_rest" (.ref 203)) (.cons (.loc 2) (.cons (.loc 0) (.cons (.loc 1) .nil))))) .skip)) (.seq (.asg 4 (.loc 2)) (.seq (.for1 3 (.rng1 (.bin .Mult (.lenL 0) (.loc 1))) (.seq (.asg 4 (.call (.glo "doubled_rest" (.ref 203)) (.cons (.loc 4) (.cons (.loc 0) (.cons (.loc 1) .nil))))) .skip)) (.seq (.ret (.call (.glo "Montgomery" (.ref 192)) (.cons (.loc 0) (.cons (.bin .BitAnd (.neg (.call (.glo "inverse_limb" (.ref 175)) (.cons (.subL 0 (.cst (.int 0))) (.cons (.loc 1) .nil)))) (.bin .Sub (.bin .LShift (.cst (.int 1)) (.loc 1)) (.cst (.int 1)))) (.cons (.loc 2) (.cons (.loc 4) .nil)))))) .skip)))))
noncomputable abbrev p_mont_make:List Str:=vN ["m","w"]
noncomputable abbrev r_mont_make:List Str:=vN ["one","turn","square"]
noncomputable def c_add_row:C:=.seq (.multi (.val 5 (.cst (.int 0)) (.val 6 (.bin .Sub (.bin .LShift (.cst (.int 1)) (.loc 4)) (.cst (.int 1))) .nil))) (.seq (.for1 7 (.lst (.loc 1)) (.seq (.aug 5 .Add (.bin .Add (.subL 0 (.loc 3)) (.bin .Mult (.loc 7) (.loc 2)))) (.seq (.setL 0 (.loc 3) (.bin .BitAnd (.loc 5) (.loc 6))) (.seq (.aug 5 .RShift (.loc 4)) (.seq (.aug 3 .Add (.cst (.int 1))) .skip))))) (.seq (.whl (.cmp .Gt (.loc 5) (.cst (.int 0))) (.seq (.aug 5 .Add (.subL 0 (.loc 3))) (.seq (.setL 0 (.loc 3) (.bin .BitAnd (.loc 5) (.loc 6))) (.seq (.aug 5 .RShift (.loc 4)) (.seq (.aug 3 .Add (.cst (.int 1))) .skip))))) .skip))
noncomputable abbrev p_add_row:List Str:=vN ["rest","m","limb","at","w"]
noncomputable abbrev r_add_row:List Str:=vN ["carry","mask","one"]
noncomputable def c_taken_once:C:=.seq (.ret (.ite (.cmp .GtE (.call (.glo "compare" (.ref 91)) (.cons (.loc 0) (.cons (.loc 1) .nil))) (.cst (.int 0))) (.call (.glo "sub" (.ref 105)) (.cons (.loc 0) (.cons (.loc 1) (.cons (.loc 2) .nil)))) (.loc 0))) .skip
noncomputable abbrev p_taken_once:List Str:=vN ["a","m","w"]
noncomputable abbrev r_taken_once:List Str:=vN []
noncomputable def c_redc:C:=.seq (.asg 3 (.attr 1 "modulus")) (.seq (.asg 4 (.lenL 3)) (.seq (.ifs (.cmp .GtE (.call (.glo "compare" (.ref 91)) (.cons (.loc 0) (.cons (.call (.glo "lifted" (.ref 126)) (.cons (.loc 3) (.cons (.loc 4) .nil))) .nil))) (.cst (.int 0))) (.seq .raise .skip) .skip) (.seq (.multi (.own 5 (.cat (.loc 0) (.fresh (.rep (.cst (.int 0)) (.bin .Sub (.bin .Add (.bin .Mult (.cst (.int 2)) (.loc 4)) (.cst (.int 1))) (.lenL 0))))) (.val 6 (.bin .Sub (.bin .LShift (.cst (.int 1)) (.loc 2)) (.cst (.int 1))) .nil))) (.seq (.for1 7 (.rng1 (.loc 4)) (.seq (.exprB (.glo "add_row" (.ref 217)) 5 (.cons (.loc 3) (.cons (.bin .BitAnd (.bin .Mult (.subL 5 (.loc 7)) (.attr 1 "minus")) (.loc 6)) (.cons (.loc 7) (.cons (.loc 2) .nil))))) .skip)) (.seq (.ret (.call (.glo "taken_once" (.ref 224)) (.cons (.call (.glo "normal" (.ref 70)) (.cons (.fresh (.sliceL 5 (.loc 4) (.cst .none))) .nil)) (.cons (.loc 3) (.cons (.loc 2) .nil))))) .skip)))))
noncomputable abbrev p_redc:List Str:=vN ["a","told","w"]
noncomputable abbrev r_redc:List Str:=vN ["m","size","rest","mask","at"]
noncomputable def c_to_mont:C:=.seq (.ifs (.cmp .GtE (.call (.glo "compare" (.ref 91)) (.cons (.loc 0) (.cons (.attr 1 "modulus") .nil))) (.cst (.int 0))) (.seq .raise .skip) .skip) (.seq (.ret (.call (.glo "redc" (.ref 231)) (.cons (.call (.loc 3) (.cons (.loc 0) (.cons (.attr 1 "square") (.cons (.loc 2) .nil)))) (.cons (.loc 1) (.cons (.loc 2) .nil))))) .skip)
noncomputable abbrev p_to_mont:List Str:=vN ["a","told","w","mul"]
noncomputable abbrev r_to_mont:List Str:=vN []
noncomputable def c_from_mont:C:=.seq (.ret (.call (.glo "redc" (.ref 231)) (.cons (.loc 0) (.cons (.loc 1) (.cons (.loc 2) .nil))))) .skip
noncomputable abbrev p_from_mont:List Str:=vN ["a","told","w"]
noncomputable abbrev r_from_mont:List Str:=vN []
noncomputable def c_mont_mul:C:=.seq (.ret (.call (.glo "redc" (.ref 231)) (.cons (.call (.loc 4) (.cons (.loc 0) (.cons (.loc 1) (.cons (.loc 3) .nil)))) (.cons (.loc 2) (.cons (.loc 3) .nil))))) .skip
noncomputable abbrev p_mont_mul:List Str:=vN ["a","b","told","w","mul"]
noncomputable abbrev r_mont_mul:List Str:=vN []
noncomputable def c_odd_powers:C:=.seq (.multi (.own 3 (.disp (.cons (.loc 0) .nil)) (.val 4 (.call (.loc 2) (.cons (.loc 0) (.cons (.loc 0) .nil))) .nil))) (.seq (.for1 5 (.rng1 (.bin .Sub (.bin .LShift (.cst (.int 1)) (.bin .Sub (.loc 1) (.cst (.int 1)))) (.cst (.int 1)))) (.seq (.app 3 (.call (.loc 2) (.cons (.subL 3 (.neg (.cst (.int 1)))) (.cons (.loc 4) .nil)))) .skip)) (.seq (.ret (.loc 3)) .skip))
noncomputable abbrev p_odd_powers:List Str:=vN ["base","size","times"]
noncomputable abbrev r_odd_powers:List Str:=vN ["found","square","turn"]
noncomputable def c_window_at:C:=.seq (.asg 4 (.max2 (.bin .Add (.bin .Sub (.loc 1) (.loc 2)) (.cst (.int 1))) (.cst (.int 0)))) (.seq (.whl (.cmp .Eq (.call (.glo "bit" (.ref 161)) (.cons (.loc 0) (.cons (.loc 4) (.cons (.loc 3) .nil)))) (.cst (.int 0))) (.seq (.aug 4 .Add (.cst (.int 1))) .skip)) (.seq (.asg 5 (.cst (.int 0))) (.seq (.for1 6 (.rng3 (.loc 1) (.bin .Sub (.loc 4) (.cst (.int 1))) (.neg (.cst (.int 1)))) (.seq (.asg 5 (.bin .Add (.bin .Mult (.cst (.int 2)) (.loc 5)) (.call (.glo "bit" (.ref 161)) (.cons (.loc 0) (.cons (.loc 6) (.cons (.loc 3) .nil)))))) .skip)) (.seq (.ret (.tup (.cons (.loc 5) (.cons (.bin .Add (.bin .Sub (.loc 1) (.loc 4)) (.cst (.int 1))) .nil)))) .skip))))
noncomputable abbrev p_window_at:List Str:=vN ["e","top","size","w"]
noncomputable abbrev r_window_at:List Str:=vN ["last","value","spot"]
noncomputable def c_by_windows:C:=.seq (.ifs (.cmp .Eq (.loc 1) (.fresh (.disp .nil))) (.seq (.ret (.loc 4)) .skip) .skip) (.seq (.multi (.val 6 (.call (.glo "odd_powers" (.ref 259)) (.cons (.loc 0) (.cons (.loc 2) (.cons (.loc 5) .nil)))) (.val 7 (.cst .none) .nil))) (.seq (.asg 8 (.bin .Sub (.call (.glo "bits" (.ref 154)) (.cons (.loc 1) (.cons (.loc 3) .nil))) (.cst (.int 1)))) (.seq (.whl (.cmp .GtE (.loc 8) (.cst (.int 0))) (.seq (.ifs (.cmp .Eq (.call (.glo "bit" (.ref 161)) (.cons (.loc 1) (.cons (.loc 8) (.cons (.loc 3) .nil)))) (.cst (.int 0))) (.seq (.asg 7 (.call (.loc 5) (.cons (.loc 7) (.cons (.loc 7) .nil)))) (.seq (.aug 8 .Sub (.cst (.int 1))) (.seq .cont .skip))) .skip) (.seq (.unpk [9,10] (.call (.glo "window_at" (.ref 266)) (.cons (.loc 1) (.cons (.loc 8) (.cons (.loc 2) (.cons (.loc 3) .nil)))))) (.seq (.ifs (.cmp .Is (.loc 7) (.cst .none)) (.seq (.asg 7 (.subL 6 (.bin .FloorDiv (.loc 9) (.cst (.int 2))))) .skip) (.seq (.for1 11 (.rng1 (.loc 10)) (.seq (.asg 7 (.call (.loc 5) (.cons (.loc 7) (.cons (.loc 7) .nil)))) .skip)) (.seq (.asg 7 (.call (.loc 5) (.cons (.loc 7) (.cons (.subL 6 (.bin .FloorDiv (.loc 9) (.cst (.int 2)))) .nil)))) .skip))) (.seq (.aug 8 .Sub (.loc 10)) .skip))))) (.seq (.ret (.loc 7)) .skip))))
noncomputable abbrev p_by_windows:List Str:=vN ["base","e","size","w","one","times"]
noncomputable abbrev r_by_windows:List Str:=vN ["table","found","spot","value","many","turn"]
noncomputable def c_power_mont:C:=.seq (.asg 7 (.call (.glo "mont_make" (.ref 210)) (.cons (.loc 2) (.cons (.loc 3) .nil)))) (.seq (.asg 8 (.call (.glo "to_mont" (.ref 238)) (.cons (.sub (.call (.loc 6) (.cons (.loc 0) (.cons (.loc 2) (.cons (.loc 3) .nil)))) (.cst (.int 1))) (.cons (.loc 7) (.cons (.loc 3) (.cons (.loc 5) .nil)))))) (.seq (.asg 9 (.call (.glo "by_windows" (.ref 273)) (.cons (.loc 8) (.cons (.loc 1) (.cons (.loc 4) (.cons (.loc 3) (.cons (.attr 7 "one") (.cons (.call (.glo "mont_times" (.ref 280)) (.cons (.loc 7) (.cons (.loc 3) (.cons (.loc 5) .nil)))) .nil)))))))) (.seq (.ret (.call (.glo "from_mont" (.ref 245)) (.cons (.loc 9) (.cons (.loc 7) (.cons (.loc 3) .nil))))) .skip)))
noncomputable abbrev p_power_mont:List Str:=vN ["a","e","m","w","size","mul","divrem"]
noncomputable abbrev r_power_mont:List Str:=vN ["told","base","found"]
noncomputable def c_small_primes:C:=.seq (.multi (.own 1 (.rep (.cst (.bool false)) (.bin .Add (.loc 0) (.cst (.int 1)))) (.own 2 (.disp .nil) .nil))) (.seq (.for1 3 (.rng2 (.cst (.int 2)) (.bin .Add (.loc 0) (.cst (.int 1)))) (.seq (.ifs (.not (.subL 1 (.loc 3))) (.seq (.app 2 (.loc 3)) (.seq (.for1 4 (.rng3 (.bin .Mult (.loc 3) (.loc 3)) (.bin .Add (.loc 0) (.cst (.int 1))) (.loc 3)) (.seq (.setL 1 (.loc 4) (.cst (.bool true))) .skip)) .skip)) .skip) .skip)) (.seq (.ret (.loc 2)) .skip))
noncomputable abbrev p_small_primes:List Str:=vN ["most"]
noncomputable abbrev r_small_primes:List Str:=vN ["is_crossed","found","n","multiple"]
noncomputable def c_rest_small:C:=.seq (.asg 3 (.cst (.int 0))) (.seq (.for1 4 (.rng3 (.bin .Sub (.lenL 0) (.cst (.int 1))) (.neg (.cst (.int 1))) (.neg (.cst (.int 1)))) (.seq (.asg 3 (.bin .Mod (.bin .BitOr (.bin .LShift (.loc 3) (.loc 2)) (.subL 0 (.loc 4))) (.loc 1))) .skip)) (.seq (.ret (.loc 3)) .skip))
noncomputable abbrev p_rest_small:List Str:=vN ["a","d","w"]
noncomputable abbrev r_rest_small:List Str:=vN ["rest","at"]
noncomputable def c_trial:C:=.seq (.for1 3 (.lst (.call (.glo "small_primes" (.ref 294)) (.cons (.loc 2) .nil))) (.seq (.ifs (.and (.cmp .Eq (.call (.glo "rest_small" (.ref 301)) (.cons (.loc 0) (.cons (.loc 3) (.cons (.loc 1) .nil)))) (.cst (.int 0))) (.cmp .NotEq (.loc 0) (.call (.glo "nat_of" (.ref 77)) (.cons (.loc 3) (.cons (.loc 1) .nil))))) (.seq (.ret (.loc 3)) .skip) .skip) .skip)) (.seq (.ret (.cst .none)) .skip)
noncomputable abbrev p_trial:List Str:=vN ["n","w","most"]
noncomputable abbrev r_trial:List Str:=vN ["p"]
noncomputable def c_odd_part:C:=.seq (.asg 2 (.call (.glo "trailing" (.ref 168)) (.cons (.loc 0) (.cons (.loc 1) .nil)))) (.seq (.ret (.tup (.cons (.loc 2) (.cons (.call (.glo "shift_right" (.ref 147)) (.cons (.loc 0) (.cons (.loc 2) (.cons (.loc 1) .nil)))) .nil)))) .skip)
noncomputable abbrev p_odd_part:List Str:=vN ["n","w"]
noncomputable abbrev r_odd_part:List Str:=vN ["s"]
noncomputable def c_check_odd:C:=.seq (.ifs (.or (.call (.glo "is_even" (.ref 84)) (.cons (.loc 0) .nil)) (.cmp .Eq (.loc 0) (.fresh (.disp (.cons (.cst (.int 1)) .nil))))) (.seq .raise .skip) .skip) .skip
noncomputable abbrev p_check_odd:List Str:=vN ["n"]
noncomputable abbrev r_check_odd:List Str:=vN []
noncomputable def c_square_rest:C:=.seq (.ret (.sub (.call (.loc 4) (.cons (.call (.loc 3) (.cons (.loc 0) (.cons (.loc 0) (.cons (.loc 2) .nil)))) (.cons (.loc 1) (.cons (.loc 2) .nil)))) (.cst (.int 1)))) .skip
noncomputable abbrev p_square_rest:List Str:=vN ["x","n","w","mul","divrem"]
noncomputable abbrev r_square_rest:List Str:=vN []
noncomputable def c_strong_rows:C:=.seq (.unpk [5,6] (.call (.glo "odd_part" (.ref 315)) (.cons (.call (.glo "sub_limb" (.ref 119)) (.cons (.loc 0) (.cons (.cst (.int 1)) (.cons (.loc 2) .nil)))) (.cons (.loc 2) .nil)))) (.seq (.asgO 7 (.disp (.cons (.call (.glo "power_mont" (.ref 287)) (.cons (.loc 1) (.cons (.loc 6) (.cons (.loc 0) (.cons (.loc 2) (.cons (.cst (.int 3)) (.cons (.loc 3) (.cons (.loc 4) .nil)))))))) .nil))) (.seq (.for1 8 (.rng1 (.bin .Sub (.loc 5) (.cst (.int 1)))) (.seq (.app 7 (.call (.glo "square_rest" (.ref 329)) (.cons (.subL 7 (.neg (.cst (.int 1)))) (.cons (.loc 0) (.cons (.loc 2) (.cons (.loc 3) (.cons (.loc 4) .nil))))))) .skip)) (.seq (.ret (.loc 7)) .skip)))
noncomputable abbrev p_strong_rows:List Str:=vN ["n","base","w","mul","divrem"]
noncomputable abbrev r_strong_rows:List Str:=vN ["s","d","found","turn"]
noncomputable def c_strong_probable:C:=.seq (.expr (.call (.glo "check_odd" (.ref 322)) (.cons (.loc 0) .nil))) (.seq (.ifs (.cmp .Eq (.sub (.call (.loc 4) (.cons (.loc 1) (.cons (.loc 0) (.cons (.loc 2) .nil)))) (.cst (.int 1))) (.fresh (.disp .nil))) (.seq (.ret (.cst (.bool true))) .skip) .skip) (.seq (.multi (.val 5 (.call (.glo "strong_rows" (.ref 336)) (.cons (.loc 0) (.cons (.loc 1) (.cons (.loc 2) (.cons (.loc 3) (.cons (.loc 4) .nil)))))) (.val 6 (.call (.glo "sub_limb" (.ref 119)) (.cons (.loc 0) (.cons (.cst (.int 1)) (.cons (.loc 2) .nil)))) .nil))) (.seq (.ret (.or (.cmp .Eq (.subL 5 (.cst (.int 0))) (.fresh (.disp (.cons (.cst (.int 1)) .nil)))) (.cmp .In (.loc 6) (.loc 5)))) .skip)))
noncomputable abbrev p_strong_probable:List Str:=vN ["n","base","w","mul","divrem"]
noncomputable abbrev r_strong_probable:List Str:=vN ["rows","last"]
noncomputable def c_is_probable:C:=.seq (.ifs (.cmp .In (.loc 0) (.tup (.cons (.fresh (.disp .nil)) (.cons (.fresh (.disp (.cons (.cst (.int 1)) .nil))) .nil)))) (.seq (.ret (.cst (.bool false))) .skip) .skip) (.seq (.ifs (.cmp .Lt (.call (.glo "compare" (.ref 91)) (.cons (.loc 0) (.cons (.call (.glo "nat_of" (.ref 77)) (.cons (.bin .Mult (.glo "MOST_SMALL" (.int 60)) (.glo "MOST_SMALL" (.int 60))) (.cons (.loc 1) .nil))) .nil))) (.cst (.int 0))) (.seq (.ret (.cmp .Is (.call (.glo "trial" (.ref 308)) (.cons (.loc 0) (.cons (.loc 1) (.cons (.glo "MOST_SMALL" (.int 60)) .nil)))) (.cst .none))) .skip) .skip) (.seq .raise (.seq .raise (.seq .raise .skip))))
noncomputable abbrev p_is_probable:List Str:=vN ["n","w","bases","mul","divrem"]
noncomputable abbrev r_is_probable:List Str:=vN []
noncomputable def c_is_pair:C:=.seq (.ret (.and (.call (.glo "is_probable" (.ref 453)) (.cons (.loc 0) (.cons (.loc 1) (.cons (.fresh (.disp .nil)) (.cons (.loc 2) (.cons (.loc 3) .nil)))))) (.call (.glo "is_probable" (.ref 453)) (.cons (.call (.glo "add" (.ref 98)) (.cons (.loc 0) (.cons (.call (.glo "nat_of" (.ref 77)) (.cons (.cst (.int 2)) (.cons (.loc 1) .nil))) (.cons (.loc 1) .nil)))) (.cons (.loc 1) (.cons (.fresh (.disp .nil)) (.cons (.loc 2) (.cons (.loc 3) .nil)))))))) .skip
noncomputable abbrev p_is_pair:List Str:=vN ["n","w","mul","divrem"]
noncomputable abbrev r_is_pair:List Str:=vN []
noncomputable def c_least_witness:C:=.seq (.expr (.call (.glo "check_odd" (.ref 322)) (.cons (.loc 0) .nil))) (.seq (.for1 5 (.rng2 (.cst (.int 2)) (.bin .Add (.loc 2) (.cst (.int 1)))) (.seq (.ifs (.not (.call (.glo "strong_probable" (.ref 343)) (.cons (.loc 0) (.cons (.call (.glo "nat_of" (.ref 77)) (.cons (.loc 5) (.cons (.loc 1) .nil))) (.cons (.loc 1) (.cons (.loc 3) (.cons (.loc 4) .nil))))))) (.seq (.ret (.loc 5)) .skip) .skip) .skip)) (.seq (.ret (.cst .none)) .skip))
noncomputable abbrev p_least_witness:List Str:=vN ["n","w","most","mul","divrem"]
noncomputable abbrev r_least_witness:List Str:=vN ["base"]
noncomputable def c_divided_out:C:=.seq (.ifs (.cmp .Lt (.loc 1) (.cst (.int 2))) (.seq .raise .skip) .skip) (.seq (.asg 3 (.cst (.int 0))) (.seq (.whl (.cst (.bool true)) (.seq (.unpk [4,5] (.call (.glo "divrem_limb" (.ref 133)) (.cons (.loc 0) (.cons (.loc 1) (.cons (.loc 2) .nil))))) (.seq (.ifs (.or (.cmp .NotEq (.loc 5) (.cst (.int 0))) (.cmp .Eq (.loc 0) (.fresh (.disp .nil)))) (.seq (.ret (.tup (.cons (.loc 3) (.cons (.loc 0) .nil)))) .skip) .skip) (.seq (.asg 0 (.loc 4)) (.seq (.aug 3 .Add (.cst (.int 1))) .skip))))) .skip))
noncomputable abbrev p_divided_out:List Str:=vN ["n","p","w"]
noncomputable abbrev r_divided_out:List Str:=vN ["many","quotient","rest"]
noncomputable def c_mul_school:C:=.seq (.multi (.own 3 (.rep (.cst (.int 0)) (.bin .Add (.lenL 0) (.lenL 1))) (.val 4 (.bin .Sub (.bin .LShift (.cst (.int 1)) (.loc 2)) (.cst (.int 1))) .nil))) (.seq (.for2 5 6 (.enm (.loc 0)) (.seq (.asg 7 (.cst (.int 0))) (.seq (.for2 8 9 (.enm (.loc 1)) (.seq (.aug 7 .Add (.bin .Add (.subL 3 (.bin .Add (.loc 5) (.loc 8))) (.bin .Mult (.loc 6) (.loc 9)))) (.seq (.setL 3 (.bin .Add (.loc 5) (.loc 8)) (.bin .BitAnd (.loc 7) (.loc 4))) (.seq (.aug 7 .RShift (.loc 2)) .skip)))) (.seq (.setL 3 (.bin .Add (.loc 5) (.lenL 1)) (.loc 7)) .skip)))) (.seq (.ret (.call (.glo "normal" (.ref 70)) (.cons (.loc 3) .nil))) .skip))
noncomputable abbrev p_mul_school:List Str:=vN ["a","b","w"]
noncomputable abbrev r_mul_school:List Str:=vN ["found","mask","at","limb","carry","spot","other"]
noncomputable def c_divrem_small:C:=.seq (.unpk [3,4] (.call (.glo "divrem_limb" (.ref 133)) (.cons (.loc 0) (.cons (.subL 1 (.cst (.int 0))) (.cons (.loc 2) .nil))))) (.seq (.ret (.tup (.cons (.loc 3) (.cons (.ite (.cmp .Gt (.loc 4) (.cst (.int 0))) (.fresh (.disp (.cons (.loc 4) .nil))) (.fresh (.disp .nil))) .nil)))) .skip)
noncomputable abbrev p_divrem_small:List Str:=vN ["a","b","w"]
noncomputable abbrev r_divrem_small:List Str:=vN ["quotient","rest"]
noncomputable def c_guessed_limb:C:=.seq (.multi (.val 4 (.bin .BitOr (.bin .LShift (.subL 0 (.cst (.int 2))) (.loc 3)) (.subL 0 (.cst (.int 1)))) (.val 5 (.bin .LShift (.cst (.int 1)) (.loc 3)) .nil))) (.seq (.asg 6 (.min2 (.bin .FloorDiv (.loc 4) (.loc 1)) (.bin .Sub (.loc 5) (.cst (.int 1))))) (.seq (.asg 7 (.bin .Sub (.loc 4) (.bin .Mult (.loc 6) (.loc 1)))) (.seq (.whl (.and (.cmp .Lt (.loc 7) (.loc 5)) (.cmp .Gt (.bin .Mult (.loc 6) (.loc 2)) (.bin .BitOr (.bin .LShift (.loc 7) (.loc 3)) (.subL 0 (.cst (.int 0)))))) (.seq (.aug 6 .Sub (.cst (.int 1))) (.seq (.aug 7 .Add (.loc 1)) .skip))) (.seq (.ret (.loc 6)) .skip))))
noncomputable abbrev p_guessed_limb:List Str:=vN ["top","first","second","w"]
noncomputable abbrev r_guessed_limb:List Str:=vN ["high","base","limb","rest"]
noncomputable def c_take_away:C:=.seq (.multi (.val 5 (.cst (.int 0)) (.val 6 (.bin .LShift (.cst (.int 1)) (.loc 4)) .nil))) (.seq (.for2 7 8 (.enm (.loc 1)) (.seq (.asg 9 (.bin .Sub (.subL 0 (.bin .Add (.loc 3) (.loc 7))) (.bin .Mod (.bin .Add (.bin .Mult (.loc 2) (.loc 8)) (.loc 5)) (.loc 6)))) (.seq (.asg 5 (.bin .Add (.bin .FloorDiv (.bin .Add (.bin .Mult (.loc 2) (.loc 8)) (.loc 5)) (.loc 6)) (.ite (.cmp .Lt (.loc 9) (.cst (.int 0))) (.cst (.int 1)) (.cst (.int 0))))) (.seq (.setL 0 (.bin .Add (.loc 3) (.loc 7)) (.ite (.cmp .Lt (.loc 9) (.cst (.int 0))) (.bin .Add (.loc 9) (.loc 6)) (.loc 9))) .skip)))) (.seq (.asg 9 (.bin .Sub (.subL 0 (.bin .Add (.loc 3) (.lenL 1))) (.loc 5))) (.seq (.setL 0 (.bin .Add (.loc 3) (.lenL 1)) (.ite (.cmp .Lt (.loc 9) (.cst (.int 0))) (.bin .Add (.loc 9) (.loc 6)) (.loc 9))) (.seq (.ret (.ite (.cmp .Lt (.loc 9) (.cst (.int 0))) (.cst (.int 1)) (.cst (.int 0)))) .skip))))
noncomputable abbrev p_take_away:List Str:=vN ["rest","b","limb","at","w"]
noncomputable abbrev r_take_away:List Str:=vN ["carry","base","spot","other","here"]
noncomputable def c_put_back:C:=.seq (.multi (.val 4 (.cst (.int 0)) (.val 5 (.bin .Sub (.bin .LShift (.cst (.int 1)) (.loc 3)) (.cst (.int 1))) .nil))) (.seq (.for2 6 7 (.enm (.loc 1)) (.seq (.aug 4 .Add (.bin .Add (.subL 0 (.bin .Add (.loc 2) (.loc 6))) (.loc 7))) (.seq (.setL 0 (.bin .Add (.loc 2) (.loc 6)) (.bin .BitAnd (.loc 4) (.loc 5))) (.seq (.aug 4 .RShift (.loc 3)) .skip)))) (.seq (.setL 0 (.bin .Add (.loc 2) (.lenL 1)) (.bin .BitAnd (.bin .Add (.subL 0 (.bin .Add (.loc 2) (.lenL 1))) (.loc 4)) (.loc 5))) .skip))
noncomputable abbrev p_put_back:List Str:=vN ["rest","b","at","w"]
noncomputable abbrev r_put_back:List Str:=vN ["carry","mask","spot","other"]
noncomputable def c_divide_rows:C:=.seq (.asg 3 (.lenL 1)) (.seq (.asgO 4 (.rep (.cst (.int 0)) (.bin .Sub (.lenL 0) (.loc 3)))) (.seq (.for1 5 (.rng3 (.bin .Sub (.bin .Sub (.lenL 0) (.loc 3)) (.cst (.int 1))) (.neg (.cst (.int 1))) (.neg (.cst (.int 1)))) (.seq (.asg 6 (.call (.glo "guessed_limb" (.ref 495)) (.cons (.fresh (.sliceL 0 (.bin .Sub (.bin .Add (.loc 5) (.loc 3)) (.cst (.int 2))) (.bin .Add (.bin .Add (.loc 5) (.loc 3)) (.cst (.int 1))))) (.cons (.subL 1 (.bin .Sub (.loc 3) (.cst (.int 1)))) (.cons (.subL 1 (.bin .Sub (.loc 3) (.cst (.int 2)))) (.cons (.loc 2) .nil)))))) (.seq (.ifs (.cmp .Eq (.callB (.glo "take_away" (.ref 502)) 0 (.cons (.loc 1) (.cons (.loc 6) (.cons (.loc 5) (.cons (.loc 2) .nil))))) (.cst (.int 1))) (.seq (.aug 6 .Sub (.cst (.int 1))) (.seq (.exprB (.glo "put_back" (.ref 509)) 0 (.cons (.loc 1) (.cons (.loc 5) (.cons (.loc 2) .nil)))) .skip)) .skip) (.seq (.setL 4 (.loc 5) (.loc 6)) .skip)))) (.seq (.ret (.loc 4)) .skip)))
noncomputable abbrev p_divide_rows:List Str:=vN ["rest","b","w"]
noncomputable abbrev r_divide_rows:List Str:=vN ["size","quotient","at","limb"]
noncomputable def c_divrem_school:C:=.seq (.ifs (.cmp .Eq (.lenL 1) (.cst (.int 0))) (.seq .raise .skip) .skip) (.seq (.ifs (.cmp .Lt (.call (.glo "compare" (.ref 91)) (.cons (.loc 0) (.cons (.loc 1) .nil))) (.cst (.int 0))) (.seq (.ret (.tup (.cons (.fresh (.disp .nil)) (.cons (.fresh (.sliceL 0 (.cst .none) (.cst .none))) .nil)))) .skip) .skip) (.seq (.ifs (.cmp .Eq (.lenL 1) (.cst (.int 1))) (.seq (.ret (.call (.glo "divrem_small" (.ref 488)) (.cons (.loc 0) (.cons (.loc 1) (.cons (.loc 2) .nil))))) .skip) .skip) (.seq (.asg 3 (.bin .Sub (.loc 2) (.call (.glo "bits" (.ref 154)) (.cons (.fresh (.disp (.cons (.subL 1 (.neg (.cst (.int 1)))) .nil))) (.cons (.loc 2) .nil))))) (.seq (.asg 4 (.call (.glo "shift_left" (.ref 140)) (.cons (.loc 1) (.cons (.loc 3) (.cons (.loc 2) .nil))))) (.seq (.asg 5 (.call (.glo "shift_left" (.ref 140)) (.cons (.loc 0) (.cons (.loc 3) (.cons (.loc 2) .nil))))) (.seq (.asgO 5 (.cat (.loc 5) (.fresh (.rep (.cst (.int 0)) (.bin .Sub (.bin .Add (.lenL 0) (.cst (.int 1))) (.lenL 5)))))) (.seq (.asg 6 (.callB (.glo "divide_rows" (.ref 516)) 5 (.cons (.loc 4) (.cons (.loc 2) .nil)))) (.seq (.ret (.tup (.cons (.call (.glo "normal" (.ref 70)) (.cons (.loc 6) .nil)) (.cons (.call (.glo "shift_right" (.ref 147)) (.cons (.call (.glo "normal" (.ref 70)) (.cons (.loc 5) .nil)) (.cons (.loc 3) (.cons (.loc 2) .nil)))) .nil)))) .skip))))))))
noncomputable abbrev p_divrem_school:List Str:=vN ["a","b","w"]
noncomputable abbrev r_divrem_school:List Str:=vN ["shift","divisor","rest","quotient"]
noncomputable def c_law_power:C:=.seq (.asg 3 (.cst (.int 1))) (.seq (.whl (.cmp .Gt (.loc 2) (.cst (.int 0))) (.seq (.ifs (.cmp .Eq (.bin .Mod (.loc 2) (.cst (.int 2))) (.cst (.int 1))) (.seq (.asg 3 (.bin .Mod (.bin .Mult (.loc 3) (.loc 0)) (.loc 1))) .skip) .skip) (.seq (.multi (.val 0 (.bin .Mod (.bin .Mult (.loc 0) (.loc 0)) (.loc 1)) (.val 2 (.bin .FloorDiv (.loc 2) (.cst (.int 2))) .nil))) .skip))) (.seq (.ret (.bin .Mod (.loc 3) (.loc 1))) .skip))
noncomputable abbrev p_law_power:List Str:=vN ["base","n","times"]
noncomputable abbrev r_law_power:List Str:=vN ["found"]
noncomputable def c_law_lets:C:=.seq (.ifs (.cmp .Eq (.bin .Mod (.loc 1) (.loc 0)) (.cst (.int 0))) (.seq (.ret (.cst (.bool true))) .skip) .skip) (.seq (.multi (.val 2 (.bin .Sub (.loc 0) (.cst (.int 1))) (.val 3 (.cst (.int 0)) .nil))) (.seq (.whl (.cmp .Eq (.bin .Mod (.loc 2) (.cst (.int 2))) (.cst (.int 0))) (.seq (.multi (.val 2 (.bin .FloorDiv (.loc 2) (.cst (.int 2))) (.val 3 (.bin .Add (.loc 3) (.cst (.int 1))) .nil))) .skip)) (.seq (.asg 4 (.call (.glo "_law_power" (.ref 540)) (.cons (.loc 1) (.cons (.loc 0) (.cons (.loc 2) .nil))))) (.seq (.ifs (.cmp .Eq (.loc 4) (.cst (.int 1))) (.seq (.ret (.cst (.bool true))) .skip) .skip) (.seq (.for1 5 (.rng1 (.loc 3)) (.seq (.ifs (.cmp .Eq (.loc 4) (.bin .Sub (.loc 0) (.cst (.int 1)))) (.seq (.ret (.cst (.bool true))) .skip) .skip) (.seq (.asg 4 (.bin .Mod (.bin .Mult (.loc 4) (.loc 4)) (.loc 0))) .skip))) (.seq (.ret (.cst (.bool false))) .skip))))))
noncomputable abbrev p_law_lets:List Str:=vN ["n","base"]
noncomputable abbrev r_law_lets:List Str:=vN ["odd","rows","here","turn"]
end
section
set_option maxHeartbeats 8000000
noncomputable abbrev hz (s:String)(t:Nat):Value:=.str (.ofString s) t
noncomputable abbrev hen (P:Params)(s:String)(t:Nat)(v:Value):DictEntry:=⟨PySem.PyData.keyHash P (.ofString s),.str (.ofString s) t,v⟩
noncomputable abbrev htu (l:List Value):Obj:={ cls:=.type "tuple",data:=.seq l.toArray }
noncomputable def hstrs:Nat→List String→List Value
 | _,[]=>[]
 | t,s::l=>hz s t::hstrs (t+1) l
noncomputable abbrev htv (t:Nat)(l:List String):Obj:=htu (hstrs t l)
noncomputable abbrev hfl (l:List Value):Obj:={ cls:=.none,data:=.fields l.toArray }
noncomputable abbrev hdc (l:List DictEntry)(n:Nat):Obj:={ cls:=.type "dict",data:=.dict l.toArray n }
noncomputable abbrev hco (n q:String)(t L A B C F r:Nat)(b:Bool)(r':Nat)(x y v:Value)(T:Nat):Obj :=
 { cls:=.type "code",data:=.fields #[hz n t,hz q (t+1),hz "/claim/cut.py" (t+2),.int L 0,.int A 0,.int B 0,.int C 0,.int F 0,.ref r,.bool b,.int 181 0,.ref r',.none,x,y,v,.int T 0,.int L 0,hz "/claim/cut.py" (T+1)] }
noncomputable def hnth:List Stmt→Nat→Stmt
 | s::_,0=>s
 | _::l,n+1=>hnth l n
 | [],_=>.Pass default
noncomputable abbrev HPB:List Stmt:=PySem.Challenge.pw_pq0548_01.main.body
noncomputable abbrev hsd (i:Nat):Stmt:=hnth HPB i
noncomputable def hbody (s:Stmt):List Stmt:=if h:s.ctorIdx=2 then Stmt.ClassDef.elim s h fun _ _ _ b _ _ _ _ _ _ _=>b else []
noncomputable abbrev hmd (i j:Nat):Stmt:=hnth (hbody (hsd i)) j
noncomputable def hfd (g:Addr)(m c:Value)(s:Stmt):FuncData:=if h:s.ctorIdx=0 then Stmt.FunctionDef.elim s h fun n a b _ _ _ sc _ q _=>{ name:=n,qualname:=q,params:=a,body:=.stmts b,scope:=sc,globals:=g,closure:=[],defaults:=.none,kwdefaults:=.none,pyModule:=m,code:=c } else default
noncomputable abbrev hfn (t:Value)(g:Addr)(m c:Value)(s:Stmt):Obj:={ cls:=t,data:=.func (hfd g m c s) }
noncomputable abbrev hfm (t:Value)(g:Addr)(m c:Value)(q:String)(s:Stmt):Obj:={ cls:=t,data:=.func { hfd g m c s with qualname:=.ofString q } }
noncomputable abbrev oU:Obj:=htu []
noncomputable abbrev oF:Obj:=hfl []
noncomputable abbrev o13:Obj:=hco "<module>" "<module>" 182 1 0 0 0 0 11 false 12 .none .none .none 185
noncomputable abbrev o14:Obj:={ cls:=.type "frame",slots:=#[some (.ref 13),some (.ref 3),some (.ref 3),none,some (.str (.ofString "__main__") 164),none,some (.ref 0)] }
noncomputable abbrev o15:Obj:=htu [.type "Exception"]
noncomputable abbrev o16:Obj:={ cls:=.type "builtin_function_or_method",data:=.fields #[.builtin "type.__prepare__",.type "type"] }
noncomputable abbrev o17 (P:Params):Obj:=hdc [hen P "__module__" 196 (hz "gmp.limbs" 187),hen P "__qualname__" 198 (hz "GmpError" 197),hen P "__firstlineno__" 200 (.int 2 199),hen P "__static_attributes__" 201 (.ref 22)] 4
noncomputable abbrev o20:Obj:=hco "GmpError" "GmpError" 191 2 0 0 0 0 18 false 19 .none .none .none 194
noncomputable abbrev o21:Obj:={ cls:=.type "frame",slots:=#[some (.ref 20),some (.ref 3),some (.ref 17),none,some (.str (.ofString "gmp.limbs") 187),none,some (.ref 0)] }
noncomputable abbrev o23 (P:Params):Obj:=hdc [hen P "__module__" 196 (hz "gmp.limbs" 187),hen P "__firstlineno__" 200 (.int 2 199),hen P "__static_attributes__" 201 (.ref 22),hen P "__weakref__" 203 (.ref 25),hen P "__doc__" 204 .none] 3
noncomputable abbrev o25:Obj:={ cls:=.type "getset_descriptor",data:=.fields #[.str (.ofString "__weakref__") 202,.ref 24,.builtin "ExceptionGroup.__weakref__",.none] }
noncomputable abbrev o28:Obj:=htu [.ref 24]
noncomputable abbrev o36 (P:Params):Obj:=hdc [hen P "__module__" 216 (hz "gmp.limbs" 187),hen P "__firstlineno__" 220 (.int 4 219),hen P "__static_attributes__" 221 (.ref 35),hen P "__doc__" 222 .none] 2
noncomputable abbrev o37:Obj:={ cls:=.type "type",data:=.cls { name:=.ofString "DivisionByZero",bases:=[.ref 24],mro:=[.ref 37,.ref 24,.type "Exception",.type "BaseException",.type "object"],ns:=36,qualname:=.ofString "DivisionByZero" },slots:=#[some (.ref 28),none,some (.str (.ofString "DivisionByZero") 209),some (.str (.ofString "DivisionByZero") 217),some (.builtin "Exception.__new__"),some (.bool true)] }
noncomputable abbrev o40:Obj:=htu [.ref 24]
noncomputable abbrev o48 (P:Params):Obj:=hdc [hen P "__module__" 232 (hz "gmp.limbs" 187),hen P "__firstlineno__" 236 (.int 6 235),hen P "__static_attributes__" 237 (.ref 47),hen P "__doc__" 238 .none] 2
noncomputable abbrev o49:Obj:={ cls:=.type "type",data:=.cls { name:=.ofString "NoInverse",bases:=[.ref 24],mro:=[.ref 49,.ref 24,.type "Exception",.type "BaseException",.type "object"],ns:=48,qualname:=.ofString "NoInverse" },slots:=#[some (.ref 40),none,some (.str (.ofString "NoInverse") 225),some (.str (.ofString "NoInverse") 233),some (.builtin "Exception.__new__"),some (.bool true)] }
noncomputable abbrev o52:Obj:=htu [.ref 24]
noncomputable abbrev o60 (P:Params):Obj:=hdc [hen P "__module__" 248 (hz "gmp.limbs" 187),hen P "__firstlineno__" 252 (.int 8 251),hen P "__static_attributes__" 253 (.ref 59),hen P "__doc__" 254 .none] 2
noncomputable abbrev o61:Obj:={ cls:=.type "type",data:=.cls { name:=.ofString "OutOfRange",bases:=[.ref 24],mro:=[.ref 61,.ref 24,.type "Exception",.type "BaseException",.type "object"],ns:=60,qualname:=.ofString "OutOfRange" },slots:=#[some (.ref 52),none,some (.str (.ofString "OutOfRange") 241),some (.str (.ofString "OutOfRange") 249),some (.builtin "Exception.__new__"),some (.bool true)] }
noncomputable abbrev o66:Obj:=htv 260 ["a","end"]
noncomputable abbrev o69:Obj:=hco "normal" "normal" 257 10 1 0 0 3 64 true 65 (.ref 66) (.ref 67) (.ref 68) 262
noncomputable abbrev o70:Obj:=hfn (.type "function") 3 (hz "gmp.limbs" 187) (.ref 69) (hsd 5)
noncomputable abbrev o73:Obj:=htv 268 ["number","w","found","mask"]
noncomputable abbrev o76:Obj:=hco "nat_of" "nat_of" 265 15 2 0 0 3 71 true 72 (.ref 73) (.ref 74) (.ref 75) 272
noncomputable abbrev o77:Obj:=hfn (.type "function") 3 (hz "gmp.limbs" 187) (.ref 76) (hsd 6)
noncomputable abbrev o80:Obj:=htv 278 ["a"]
noncomputable abbrev o83:Obj:=hco "is_even" "is_even" 275 23 1 0 0 3 78 true 79 (.ref 80) (.ref 81) (.ref 82) 279
noncomputable abbrev o84:Obj:=hfn (.type "function") 3 (hz "gmp.limbs" 187) (.ref 83) (hsd 7)
noncomputable abbrev o87:Obj:=htv 285 ["a","b","at"]
noncomputable abbrev o90:Obj:=hco "compare" "compare" 282 25 2 0 0 3 85 true 86 (.ref 87) (.ref 88) (.ref 89) 288
noncomputable abbrev o91:Obj:=hfn (.type "function") 3 (hz "gmp.limbs" 187) (.ref 90) (hsd 8)
noncomputable abbrev o94:Obj:=htv 294 ["a","b","w","found","carry","mask","at"]
noncomputable abbrev o97:Obj:=hco "add" "add" 291 32 3 0 0 3 92 true 93 (.ref 94) (.ref 95) (.ref 96) 301
noncomputable abbrev o98:Obj:=hfn (.type "function") 3 (hz "gmp.limbs" 187) (.ref 97) (hsd 9)
noncomputable abbrev o101:Obj:=htv 307 ["a","b","w","found","borrow","base","at","limb"]
noncomputable abbrev o104:Obj:=hco "sub" "sub" 304 47 3 0 0 3 99 true 100 (.ref 101) (.ref 102) (.ref 103) 315
noncomputable abbrev o105:Obj:=hfn (.type "function") 3 (hz "gmp.limbs" 187) (.ref 104) (hsd 10)
noncomputable abbrev o108:Obj:=htv 321 ["a","limb","w","found","mask","one"]
noncomputable abbrev o111:Obj:=hco "add_limb" "add_limb" 318 56 3 0 0 3 106 true 107 (.ref 108) (.ref 109) (.ref 110) 327
noncomputable abbrev o112:Obj:=hfn (.type "function") 3 (hz "gmp.limbs" 187) (.ref 111) (hsd 11)
noncomputable abbrev o115:Obj:=htv 333 ["a","limb","w"]
noncomputable abbrev o118:Obj:=hco "sub_limb" "sub_limb" 330 65 3 0 0 3 113 true 114 (.ref 115) (.ref 116) (.ref 117) 336
noncomputable abbrev o119:Obj:=hfn (.type "function") 3 (hz "gmp.limbs" 187) (.ref 118) (hsd 12)
noncomputable abbrev o122:Obj:=htv 342 ["a","spot"]
noncomputable abbrev o125:Obj:=hco "lifted" "lifted" 339 67 2 0 0 3 120 true 121 (.ref 122) (.ref 123) (.ref 124) 344
noncomputable abbrev o126:Obj:=hfn (.type "function") 3 (hz "gmp.limbs" 187) (.ref 125) (hsd 13)
noncomputable abbrev o129:Obj:=htv 350 ["a","limb","w","found","rest","at"]
noncomputable abbrev o132:Obj:=hco "divrem_limb" "divrem_limb" 347 69 3 0 0 3 127 true 128 (.ref 129) (.ref 130) (.ref 131) 356
noncomputable abbrev o133:Obj:=hfn (.type "function") 3 (hz "gmp.limbs" 187) (.ref 132) (hsd 14)
noncomputable abbrev o136:Obj:=htv 362 ["a","n","w","spots","few","found","carry","mask","one"]
noncomputable abbrev o139:Obj:=hco "shift_left" "shift_left" 359 78 3 0 0 3 134 true 135 (.ref 136) (.ref 137) (.ref 138) 371
noncomputable abbrev o140:Obj:=hfn (.type "function") 3 (hz "gmp.limbs" 187) (.ref 139) (hsd 15)
noncomputable abbrev o143:Obj:=htv 377 ["a","n","w","spots","few","found","mask","at","above"]
noncomputable abbrev o146:Obj:=hco "shift_right" "shift_right" 374 90 3 0 0 3 141 true 142 (.ref 143) (.ref 144) (.ref 145) 386
noncomputable abbrev o147:Obj:=hfn (.type "function") 3 (hz "gmp.limbs" 187) (.ref 146) (hsd 16)
noncomputable abbrev o150:Obj:=htv 392 ["a","w"]
noncomputable abbrev o153:Obj:=hco "bits" "bits" 389 97 2 0 0 3 148 true 149 (.ref 150) (.ref 151) (.ref 152) 394
noncomputable abbrev o154:Obj:=hfn (.type "function") 3 (hz "gmp.limbs" 187) (.ref 153) (hsd 17)
noncomputable abbrev o157:Obj:=htv 400 ["a","n","w"]
noncomputable abbrev o160:Obj:=hco "bit" "bit" 397 99 3 0 0 3 155 true 156 (.ref 157) (.ref 158) (.ref 159) 403
noncomputable abbrev o161:Obj:=hfn (.type "function") 3 (hz "gmp.limbs" 187) (.ref 160) (hsd 18)
noncomputable abbrev o164:Obj:=htv 409 ["a","w","at","limb"]
noncomputable abbrev o167:Obj:=hco "trailing" "trailing" 406 101 2 0 0 3 162 true 163 (.ref 164) (.ref 165) (.ref 166) 413
noncomputable abbrev o168:Obj:=hfn (.type "function") 3 (hz "gmp.limbs" 187) (.ref 167) (hsd 19)
noncomputable abbrev o171:Obj:=htv 421 ["d","w","whole","found","sure"]
noncomputable abbrev o174:Obj:=hco "inverse_limb" "inverse_limb" 418 107 2 0 0 3 169 true 170 (.ref 171) (.ref 172) (.ref 173) 426
noncomputable abbrev o175:Obj:=hfn (.type "function") 3 (hz "gmp.hensel" 416) (.ref 174) (hsd 21)
noncomputable abbrev o185:Obj:=htv 446 ["self","modulus","minus","one","square"]
noncomputable abbrev o188:Obj:=hco "__init__" "Montgomery.__init__" 443 119 5 0 0 3 183 true 184 (.ref 185) (.ref 186) (.ref 187) 451
noncomputable abbrev o189:Obj:=hfm (.type "function") 3 (hz "gmp.reduce" 429) (.ref 188) "Montgomery.__init__" (hmd 23 0)
noncomputable abbrev o190:Obj:=htv 454 ["minus","modulus","one","square"]
noncomputable abbrev o191 (P:Params):Obj:=hdc [hen P "__module__" 438 (hz "gmp.reduce" 429),hen P "__firstlineno__" 442 (.int 117 441),hen P "__init__" 453 (.ref 189),hen P "__static_attributes__" 458 (.ref 190),hen P "__dict__" 460 (.ref 193),hen P "__weakref__" 462 (.ref 194),hen P "__doc__" 463 .none] 4
noncomputable abbrev o192:Obj:={ cls:=.type "type",data:=.cls { name:=.ofString "Montgomery",bases:=[.type "object"],mro:=[.ref 192,.type "object"],ns:=191,qualname:=.ofString "Montgomery" },slots:=#[none,none,some (.str (.ofString "Montgomery") 431),some (.str (.ofString "Montgomery") 439),some (.builtin "object.__new__"),some (.bool true)] }
noncomputable abbrev o193:Obj:={ cls:=.type "getset_descriptor",data:=.fields #[.str (.ofString "__dict__") 459,.ref 192,.builtin "function.__dict__",.builtin "function.__dict__#set"] }
noncomputable abbrev o194:Obj:={ cls:=.type "getset_descriptor",data:=.fields #[.str (.ofString "__weakref__") 461,.ref 192,.builtin "ExceptionGroup.__weakref__",.none] }
noncomputable abbrev o199:Obj:=htv 469 ["a","m","w","found"]
noncomputable abbrev o202:Obj:=hco "doubled_rest" "doubled_rest" 466 124 3 0 0 3 197 true 198 (.ref 199) (.ref 200) (.ref 201) 473
noncomputable abbrev o203:Obj:=hfn (.type "function") 3 (hz "gmp.reduce" 429) (.ref 202) (hsd 24)
noncomputable abbrev o206:Obj:=htv 479 ["m","w","one","turn","square"]
noncomputable abbrev o209:Obj:=hco "mont_make" "mont_make" 476 127 2 0 0 3 204 true 205 (.ref 206) (.ref 207) (.ref 208) 484
noncomputable abbrev o210:Obj:=hfn (.type "function") 3 (hz "gmp.reduce" 429) (.ref 209) (hsd 25)
noncomputable abbrev o213:Obj:=htv 490 ["rest","m","limb","at","w","carry","mask","one"]
noncomputable abbrev o216:Obj:=hco "add_row" "add_row" 487 137 5 0 0 3 211 true 212 (.ref 213) (.ref 214) (.ref 215) 498
noncomputable abbrev o217:Obj:=hfn (.type "function") 3 (hz "gmp.reduce" 429) (.ref 216) (hsd 26)
noncomputable abbrev o220:Obj:=htv 504 ["a","m","w"]
noncomputable abbrev o223:Obj:=hco "taken_once" "taken_once" 501 149 3 0 0 3 218 true 219 (.ref 220) (.ref 221) (.ref 222) 507
noncomputable abbrev o224:Obj:=hfn (.type "function") 3 (hz "gmp.reduce" 429) (.ref 223) (hsd 27)
noncomputable abbrev o227:Obj:=htv 513 ["a","told","w","m","size","rest","mask","at"]
noncomputable abbrev o230:Obj:=hco "redc" "redc" 510 151 3 0 0 3 225 true 226 (.ref 227) (.ref 228) (.ref 229) 521
noncomputable abbrev o231:Obj:=hfn (.type "function") 3 (hz "gmp.reduce" 429) (.ref 230) (hsd 28)
noncomputable abbrev o234:Obj:=htv 527 ["a","told","w","mul"]
noncomputable abbrev o237:Obj:=hco "to_mont" "to_mont" 524 160 4 0 0 3 232 true 233 (.ref 234) (.ref 235) (.ref 236) 531
noncomputable abbrev o238:Obj:=hfn (.type "function") 3 (hz "gmp.reduce" 429) (.ref 237) (hsd 29)
noncomputable abbrev o241:Obj:=htv 537 ["a","told","w"]
noncomputable abbrev o244:Obj:=hco "from_mont" "from_mont" 534 164 3 0 0 3 239 true 240 (.ref 241) (.ref 242) (.ref 243) 540
noncomputable abbrev o245:Obj:=hfn (.type "function") 3 (hz "gmp.reduce" 429) (.ref 244) (hsd 30)
noncomputable abbrev o248:Obj:=htv 546 ["a","b","told","w","mul"]
noncomputable abbrev o251:Obj:=hco "mont_mul" "mont_mul" 543 166 5 0 0 3 246 true 247 (.ref 248) (.ref 249) (.ref 250) 551
noncomputable abbrev o252:Obj:=hfn (.type "function") 3 (hz "gmp.reduce" 429) (.ref 251) (hsd 31)
noncomputable abbrev o255:Obj:=htv 559 ["base","size","times","found","square","turn"]
noncomputable abbrev o258:Obj:=hco "odd_powers" "odd_powers" 556 169 3 0 0 3 253 true 254 (.ref 255) (.ref 256) (.ref 257) 565
noncomputable abbrev o259:Obj:=hfn (.type "function") 3 (hz "gmp.powers" 554) (.ref 258) (hsd 33)
noncomputable abbrev o262:Obj:=htv 571 ["e","top","size","w","last","value","spot"]
noncomputable abbrev o265:Obj:=hco "window_at" "window_at" 568 174 4 0 0 3 260 true 261 (.ref 262) (.ref 263) (.ref 264) 578
noncomputable abbrev o266:Obj:=hfn (.type "function") 3 (hz "gmp.powers" 554) (.ref 265) (hsd 34)
noncomputable abbrev o269:Obj:=htv 584 ["base","e","size","w","one","times","table","found","spot","value","many","turn"]
noncomputable abbrev o272:Obj:=hco "by_windows" "by_windows" 581 182 6 0 0 3 267 true 268 (.ref 269) (.ref 270) (.ref 271) 596
noncomputable abbrev o273:Obj:=hfn (.type "function") 3 (hz "gmp.powers" 554) (.ref 272) (hsd 35)
noncomputable abbrev o276:Obj:=htv 602 ["told","w","mul","multiplied"]
noncomputable abbrev o277:Obj:=htv 606 ["told","w","mul"]
noncomputable abbrev o279:Obj:=hco "mont_times" "mont_times" 599 201 3 0 0 3 274 true 275 (.ref 276) (.ref 277) (.ref 278) 609
noncomputable abbrev o280:Obj:=hfn (.type "function") 3 (hz "gmp.powers" 554) (.ref 279) (hsd 36)
noncomputable abbrev o283:Obj:=htv 615 ["a","e","m","w","size","mul","divrem","told","base","found"]
noncomputable abbrev o286:Obj:=hco "power_mont" "power_mont" 612 206 7 0 0 3 281 true 282 (.ref 283) (.ref 284) (.ref 285) 625
noncomputable abbrev o287:Obj:=hfn (.type "function") 3 (hz "gmp.powers" 554) (.ref 286) (hsd 37)
noncomputable abbrev o290:Obj:=htv 635 ["most","is_crossed","found","n","multiple"]
noncomputable abbrev o293:Obj:=hco "small_primes" "small_primes" 632 213 1 0 0 3 288 true 289 (.ref 290) (.ref 291) (.ref 292) 640
noncomputable abbrev o294:Obj:=hfn (.type "function") 3 (hz "gmp.primes" 628) (.ref 293) (hsd 40)
noncomputable abbrev o297:Obj:=htv 646 ["a","d","w","rest","at"]
noncomputable abbrev o300:Obj:=hco "rest_small" "rest_small" 643 221 3 0 0 3 295 true 296 (.ref 297) (.ref 298) (.ref 299) 651
noncomputable abbrev o301:Obj:=hfn (.type "function") 3 (hz "gmp.primes" 628) (.ref 300) (hsd 41)
noncomputable abbrev o304:Obj:=htv 657 ["n","w","most","p"]
noncomputable abbrev o307:Obj:=hco "trial" "trial" 654 226 3 0 0 3 302 true 303 (.ref 304) (.ref 305) (.ref 306) 661
noncomputable abbrev o308:Obj:=hfn (.type "function") 3 (hz "gmp.primes" 628) (.ref 307) (hsd 42)
noncomputable abbrev o311:Obj:=htv 667 ["n","w","s"]
noncomputable abbrev o314:Obj:=hco "odd_part" "odd_part" 664 231 2 0 0 3 309 true 310 (.ref 311) (.ref 312) (.ref 313) 670
noncomputable abbrev o315:Obj:=hfn (.type "function") 3 (hz "gmp.primes" 628) (.ref 314) (hsd 43)
noncomputable abbrev o318:Obj:=htv 676 ["n"]
noncomputable abbrev o321:Obj:=hco "check_odd" "check_odd" 673 234 1 0 0 3 316 true 317 (.ref 318) (.ref 319) (.ref 320) 677
noncomputable abbrev o322:Obj:=hfn (.type "function") 3 (hz "gmp.primes" 628) (.ref 321) (hsd 44)
noncomputable abbrev o325:Obj:=htv 683 ["x","n","w","mul","divrem"]
noncomputable abbrev o328:Obj:=hco "square_rest" "square_rest" 680 237 5 0 0 3 323 true 324 (.ref 325) (.ref 326) (.ref 327) 688
noncomputable abbrev o329:Obj:=hfn (.type "function") 3 (hz "gmp.primes" 628) (.ref 328) (hsd 45)
noncomputable abbrev o332:Obj:=htv 694 ["n","base","w","mul","divrem","s","d","found","turn"]
noncomputable abbrev o335:Obj:=hco "strong_rows" "strong_rows" 691 239 5 0 0 3 330 true 331 (.ref 332) (.ref 333) (.ref 334) 703
noncomputable abbrev o336:Obj:=hfn (.type "function") 3 (hz "gmp.primes" 628) (.ref 335) (hsd 46)
noncomputable abbrev o339:Obj:=htv 709 ["n","base","w","mul","divrem","rows","last"]
noncomputable abbrev o342:Obj:=hco "strong_probable" "strong_probable" 706 245 5 0 0 3 337 true 338 (.ref 339) (.ref 340) (.ref 341) 716
noncomputable abbrev o343:Obj:=hfn (.type "function") 3 (hz "gmp.primes" 628) (.ref 342) (hsd 47)
noncomputable abbrev o346:Obj:=htv 722 ["d","n","w","sign","rest"]
noncomputable abbrev o349:Obj:=hco "jacobi_small" "jacobi_small" 719 251 3 0 0 3 344 true 345 (.ref 346) (.ref 347) (.ref 348) 727
noncomputable abbrev o350:Obj:=hfn (.type "function") 3 (hz "gmp.primes" 628) (.ref 349) (hsd 48)
noncomputable abbrev o353:Obj:=htv 733 ["a","n","sign"]
noncomputable abbrev o356:Obj:=hco "jacobi_plain" "jacobi_plain" 730 266 2 0 0 3 351 true 352 (.ref 353) (.ref 354) (.ref 355) 736
noncomputable abbrev o357:Obj:=hfn (.type "function") 3 (hz "gmp.primes" 628) (.ref 356) (hsd 49)
noncomputable abbrev o360:Obj:=htv 742 ["a","w","divrem","found","better"]
noncomputable abbrev o363:Obj:=hco "root_whole" "root_whole" 739 276 3 0 0 3 358 true 359 (.ref 360) (.ref 361) (.ref 362) 747
noncomputable abbrev o364:Obj:=hfn (.type "function") 3 (hz "gmp.primes" 628) (.ref 363) (hsd 50)
noncomputable abbrev o367:Obj:=htv 753 ["a","w","mul","divrem","root"]
noncomputable abbrev o370:Obj:=hco "is_square_row" "is_square_row" 750 285 4 0 0 3 365 true 366 (.ref 367) (.ref 368) (.ref 369) 758
noncomputable abbrev o371:Obj:=hfn (.type "function") 3 (hz "gmp.primes" 628) (.ref 370) (hsd 51)
noncomputable abbrev o374:Obj:=htv 764 ["n","w","d","sign"]
noncomputable abbrev o377:Obj:=hco "selfridge" "selfridge" 761 288 2 0 0 3 372 true 373 (.ref 374) (.ref 375) (.ref 376) 768
noncomputable abbrev o378:Obj:=hfn (.type "function") 3 (hz "gmp.primes" 628) (.ref 377) (hsd 52)
noncomputable abbrev o381:Obj:=htv 774 ["number","n","w","divrem","rest"]
noncomputable abbrev o384:Obj:=hco "signed_rest" "signed_rest" 771 297 4 0 0 3 379 true 380 (.ref 381) (.ref 382) (.ref 383) 779
noncomputable abbrev o385:Obj:=hfn (.type "function") 3 (hz "gmp.primes" 628) (.ref 384) (hsd 53)
noncomputable abbrev o395:Obj:=htv 797 ["self","n","w","mul","divrem"]
noncomputable abbrev o398:Obj:=hco "__init__" "Ring.__init__" 794 302 5 0 0 3 393 true 394 (.ref 395) (.ref 396) (.ref 397) 802
noncomputable abbrev o399:Obj:=hfm (.type "function") 3 (hz "gmp.primes" 628) (.ref 398) "Ring.__init__" (hmd 54 0)
noncomputable abbrev o402:Obj:=htv 808 ["self","x","y","found"]
noncomputable abbrev o405:Obj:=hco "plus" "Ring.plus" 805 308 3 0 0 3 400 true 401 (.ref 402) (.ref 403) (.ref 404) 812
noncomputable abbrev o406:Obj:=hfm (.type "function") 3 (hz "gmp.primes" 628) (.ref 405) "Ring.plus" (hmd 54 1)
noncomputable abbrev o409:Obj:=htv 818 ["self","x","y"]
noncomputable abbrev o412:Obj:=hco "minus" "Ring.minus" 815 312 3 0 0 3 407 true 408 (.ref 409) (.ref 410) (.ref 411) 821
noncomputable abbrev o413:Obj:=hfm (.type "function") 3 (hz "gmp.primes" 628) (.ref 412) "Ring.minus" (hmd 54 2)
noncomputable abbrev o416:Obj:=htv 827 ["self","x","y"]
noncomputable abbrev o419:Obj:=hco "product" "Ring.product" 824 315 3 0 0 3 414 true 415 (.ref 416) (.ref 417) (.ref 418) 830
noncomputable abbrev o420:Obj:=hfm (.type "function") 3 (hz "gmp.primes" 628) (.ref 419) "Ring.product" (hmd 54 3)
noncomputable abbrev o423:Obj:=htv 836 ["self","x"]
noncomputable abbrev o426:Obj:=hco "half" "Ring.half" 833 318 2 0 0 3 421 true 422 (.ref 423) (.ref 424) (.ref 425) 838
noncomputable abbrev o427:Obj:=hfm (.type "function") 3 (hz "gmp.primes" 628) (.ref 426) "Ring.half" (hmd 54 4)
noncomputable abbrev o428:Obj:=htv 841 ["divrem","mul","n","w"]
noncomputable abbrev o429 (P:Params):Obj:=hdc [hen P "__module__" 789 (hz "gmp.primes" 628),hen P "__firstlineno__" 793 (.int 300 792),hen P "__init__" 804 (.ref 399),hen P "plus" 814 (.ref 406),hen P "minus" 823 (.ref 413),hen P "product" 832 (.ref 420),hen P "half" 840 (.ref 427),hen P "__static_attributes__" 845 (.ref 428),hen P "__dict__" 847 (.ref 431),hen P "__weakref__" 849 (.ref 432),hen P "__doc__" 850 .none] 4
noncomputable abbrev o430:Obj:={ cls:=.type "type",data:=.cls { name:=.ofString "Ring",bases:=[.type "object"],mro:=[.ref 430,.type "object"],ns:=429,qualname:=.ofString "Ring" },slots:=#[none,none,some (.str (.ofString "Ring") 782),some (.str (.ofString "Ring") 790),some (.builtin "object.__new__"),some (.bool true)] }
noncomputable abbrev o431:Obj:={ cls:=.type "getset_descriptor",data:=.fields #[.str (.ofString "__dict__") 846,.ref 430,.builtin "function.__dict__",.builtin "function.__dict__#set"] }
noncomputable abbrev o432:Obj:={ cls:=.type "getset_descriptor",data:=.fields #[.str (.ofString "__weakref__") 848,.ref 430,.builtin "ExceptionGroup.__weakref__",.none] }
noncomputable abbrev o437:Obj:=htv 856 ["ring","p","d","q","m","u","v","power","spot","first"]
noncomputable abbrev o440:Obj:=hco "lucas_rows" "lucas_rows" 853 320 5 0 0 3 435 true 436 (.ref 437) (.ref 438) (.ref 439) 866
noncomputable abbrev o441:Obj:=hfn (.type "function") 3 (hz "gmp.primes" 628) (.ref 440) (hsd 55)
noncomputable abbrev o444:Obj:=htv 872 ["n","w","mul","divrem","d","ring","p","q","s","odd","u","v","power","turn"]
noncomputable abbrev o447:Obj:=hco "strong_lucas" "strong_lucas" 869 330 4 0 0 3 442 true 443 (.ref 444) (.ref 445) (.ref 446) 886
noncomputable abbrev o448:Obj:=hfn (.type "function") 3 (hz "gmp.primes" 628) (.ref 447) (hsd 56)
noncomputable abbrev o452:Obj:=hco "is_probable" "is_probable" 889 348 5 0 0 3 449 true 450 .none .none (.ref 451) 892
noncomputable abbrev o453:Obj:=hfn (.type "function") 3 (hz "gmp.primes" 628) (.ref 452) (hsd 57)
noncomputable abbrev o456:Obj:=htv 898 ["n","w","mul","divrem"]
noncomputable abbrev o459:Obj:=hco "is_pair" "is_pair" 895 358 4 0 0 3 454 true 455 (.ref 456) (.ref 457) (.ref 458) 902
noncomputable abbrev o460:Obj:=hfn (.type "function") 3 (hz "gmp.primes" 628) (.ref 459) (hsd 58)
noncomputable abbrev o463:Obj:=htv 908 ["n","w","most","mul","divrem","base"]
noncomputable abbrev o466:Obj:=hco "least_witness" "least_witness" 905 360 5 0 0 3 461 true 462 (.ref 463) (.ref 464) (.ref 465) 914
noncomputable abbrev o467:Obj:=hfn (.type "function") 3 (hz "gmp.primes" 628) (.ref 466) (hsd 59)
noncomputable abbrev o470:Obj:=htv 920 ["n","p","w","many","quotient","rest"]
noncomputable abbrev o473:Obj:=hco "divided_out" "divided_out" 917 366 3 0 0 3 468 true 469 (.ref 470) (.ref 471) (.ref 472) 926
noncomputable abbrev o474:Obj:=hfn (.type "function") 3 (hz "gmp.primes" 628) (.ref 473) (hsd 60)
noncomputable abbrev o477:Obj:=htv 934 ["a","b","w","found","mask","at","limb","carry","spot","other"]
noncomputable abbrev o480:Obj:=hco "mul_school" "mul_school" 931 377 3 0 0 3 475 true 476 (.ref 477) (.ref 478) (.ref 479) 944
noncomputable abbrev o481:Obj:=hfn (.type "function") 3 (hz "gmp.school" 929) (.ref 480) (hsd 62)
noncomputable abbrev o484:Obj:=htv 950 ["a","b","w","quotient","rest"]
noncomputable abbrev o487:Obj:=hco "divrem_small" "divrem_small" 947 387 3 0 0 3 482 true 483 (.ref 484) (.ref 485) (.ref 486) 955
noncomputable abbrev o488:Obj:=hfn (.type "function") 3 (hz "gmp.school" 929) (.ref 487) (hsd 63)
noncomputable abbrev o491:Obj:=htv 961 ["top","first","second","w","high","base","limb","rest"]
noncomputable abbrev o494:Obj:=hco "guessed_limb" "guessed_limb" 958 390 4 0 0 3 489 true 490 (.ref 491) (.ref 492) (.ref 493) 969
noncomputable abbrev o495:Obj:=hfn (.type "function") 3 (hz "gmp.school" 929) (.ref 494) (hsd 64)
noncomputable abbrev o498:Obj:=htv 975 ["rest","b","limb","at","w","carry","base","spot","other","here"]
noncomputable abbrev o501:Obj:=hco "take_away" "take_away" 972 398 5 0 0 3 496 true 497 (.ref 498) (.ref 499) (.ref 500) 985
noncomputable abbrev o502:Obj:=hfn (.type "function") 3 (hz "gmp.school" 929) (.ref 501) (hsd 65)
noncomputable abbrev o505:Obj:=htv 991 ["rest","b","at","w","carry","mask","spot","other"]
noncomputable abbrev o508:Obj:=hco "put_back" "put_back" 988 407 4 0 0 3 503 true 504 (.ref 505) (.ref 506) (.ref 507) 999
noncomputable abbrev o509:Obj:=hfn (.type "function") 3 (hz "gmp.school" 929) (.ref 508) (hsd 66)
noncomputable abbrev o512:Obj:=htv 1005 ["rest","b","w","size","quotient","at","limb"]
noncomputable abbrev o515:Obj:=hco "divide_rows" "divide_rows" 1002 414 3 0 0 3 510 true 511 (.ref 512) (.ref 513) (.ref 514) 1012
noncomputable abbrev o516:Obj:=hfn (.type "function") 3 (hz "gmp.school" 929) (.ref 515) (hsd 67)
noncomputable abbrev o519:Obj:=htv 1018 ["a","b","w","shift","divisor","rest","quotient"]
noncomputable abbrev o522:Obj:=hco "divrem_school" "divrem_school" 1015 424 3 0 0 3 517 true 518 (.ref 519) (.ref 520) (.ref 521) 1025
noncomputable abbrev o523:Obj:=hfn (.type "function") 3 (hz "gmp.school" 929) (.ref 522) (hsd 68)
noncomputable abbrev o527:Obj:=hco "_law_worth" "_law_worth" 1030 438 2 0 0 3 524 true 525 .none .none (.ref 526) 1033
noncomputable abbrev o528:Obj:=hfn (.type "function") 3 (hz "law_pq0548_01" 1028) (.ref 527) (hsd 70)
noncomputable abbrev o532:Obj:=hco "_law_is_prime" "_law_is_prime" 1036 440 1 0 0 3 529 true 530 .none .none (.ref 531) 1039
noncomputable abbrev o533:Obj:=hfn (.type "function") 3 (hz "law_pq0548_01" 1028) (.ref 532) (hsd 71)
noncomputable abbrev o536:Obj:=htv 1045 ["base","n","times","found"]
noncomputable abbrev o539:Obj:=hco "_law_power" "_law_power" 1042 442 3 0 0 3 534 true 535 (.ref 536) (.ref 537) (.ref 538) 1049
noncomputable abbrev o540:Obj:=hfn (.type "function") 3 (hz "law_pq0548_01" 1028) (.ref 539) (hsd 72)
noncomputable abbrev o543:Obj:=htv 1055 ["n","base","odd","rows","here","turn"]
noncomputable abbrev o546:Obj:=hco "_law_lets" "_law_lets" 1052 449 2 0 0 3 541 true 542 (.ref 543) (.ref 544) (.ref 545) 1061
noncomputable abbrev o547:Obj:=hfn (.type "function") 3 (hz "law_pq0548_01" 1028) (.ref 546) (hsd 73)
noncomputable abbrev o551:Obj:=hco "_law_witness" "_law_witness" 1064 463 2 0 0 3 548 true 549 .none .none (.ref 550) 1067
noncomputable abbrev o552:Obj:=hfn (.type "function") 3 (hz "law_pq0548_01" 1028) (.ref 551) (hsd 74)
noncomputable abbrev o555:Obj:=htv 1073 ["work"]
noncomputable abbrev o558:Obj:=hco "_law_is_refused" "_law_is_refused" 1070 466 1 0 0 3 553 true 554 (.ref 555) (.ref 556) (.ref 557) 1074
noncomputable abbrev o559:Obj:=hfn (.type "function") 3 (hz "law_pq0548_01" 1028) (.ref 558) (hsd 75)
noncomputable abbrev o563:Obj:=hco "law" "law" 1077 472 1 0 0 3 560 true 561 .none .none (.ref 562) 1080
noncomputable abbrev o564:Obj:=hfn (.type "function") 3 (hz "law_pq0548_01" 1028) (.ref 563) (hsd 76)
noncomputable abbrev o2 (P:Params):Obj:={ cls:=.none,data:=.dict #[hen P "type.__subclasses__.Exception.0" 205 (.int 24 0),hen P "type.__subclasses__.Exception.n" 206 (.int 1 0)] 2 }
noncomputable abbrev hmain (P:Params)(nm:Value):List DictEntry:=[hen P "__name__" 165 nm,hen P "__doc__" 166 .none,hen P "__package__" 167 .none,hen P "__loader__" 168 (.builtin "__main__.__loader__#opaque"),hen P "__spec__" 169 .none,hen P "__annotations__" 170 (.ref 6),hen P "__builtins__" 171 (.ref 4),hen P "__file__" 173 (hz "/claim/cut.py" 172),hen P "__cached__" 174 .none,hen P "GmpError" 208 (.ref 24),hen P "DivisionByZero" 224 (.ref 37),hen P "NoInverse" 240 (.ref 49),hen P "OutOfRange" 256 (.ref 61),hen P "normal" 264 (.ref 70),hen P "nat_of" 274 (.ref 77),hen P "is_even" 281 (.ref 84),hen P "compare" 290 (.ref 91),hen P "add" 303 (.ref 98),hen P "sub" 317 (.ref 105),hen P "add_limb" 329 (.ref 112),hen P "sub_limb" 338 (.ref 119),hen P "lifted" 346 (.ref 126),hen P "divrem_limb" 358 (.ref 133),hen P "shift_left" 373 (.ref 140),hen P "shift_right" 388 (.ref 147),hen P "bits" 396 (.ref 154),hen P "bit" 405 (.ref 161),hen P "trailing" 415 (.ref 168),hen P "inverse_limb" 428 (.ref 175),hen P "Montgomery" 465 (.ref 192),hen P "doubled_rest" 475 (.ref 203),hen P "mont_make" 486 (.ref 210),hen P "add_row" 500 (.ref 217),hen P "taken_once" 509 (.ref 224),hen P "redc" 523 (.ref 231),hen P "to_mont" 533 (.ref 238),hen P "from_mont" 542 (.ref 245),hen P "mont_mul" 553 (.ref 252),hen P "odd_powers" 567 (.ref 259),hen P "window_at" 580 (.ref 266),hen P "by_windows" 598 (.ref 273),hen P "mont_times" 611 (.ref 280),hen P "power_mont" 627 (.ref 287),hen P "MOST_SMALL" 631 (.int 60 630),hen P "small_primes" 642 (.ref 294),hen P "rest_small" 653 (.ref 301),hen P "trial" 663 (.ref 308),hen P "odd_part" 672 (.ref 315),hen P "check_odd" 679 (.ref 322),hen P "square_rest" 690 (.ref 329),hen P "strong_rows" 705 (.ref 336),hen P "strong_probable" 718 (.ref 343),hen P "jacobi_small" 729 (.ref 350),hen P "jacobi_plain" 738 (.ref 357),hen P "root_whole" 749 (.ref 364),hen P "is_square_row" 760 (.ref 371),hen P "selfridge" 770 (.ref 378),hen P "signed_rest" 781 (.ref 385),hen P "Ring" 852 (.ref 430),hen P "lucas_rows" 868 (.ref 441),hen P "strong_lucas" 888 (.ref 448),hen P "is_probable" 894 (.ref 453),hen P "is_pair" 904 (.ref 460),hen P "least_witness" 916 (.ref 467),hen P "divided_out" 928 (.ref 474),hen P "mul_school" 946 (.ref 481),hen P "divrem_small" 957 (.ref 488),hen P "guessed_limb" 971 (.ref 495),hen P "take_away" 987 (.ref 502),hen P "put_back" 1001 (.ref 509),hen P "divide_rows" 1014 (.ref 516),hen P "divrem_school" 1027 (.ref 523),hen P "_law_worth" 1035 (.ref 528),hen P "_law_is_prime" 1041 (.ref 533),hen P "_law_power" 1051 (.ref 540),hen P "_law_lets" 1063 (.ref 547),hen P "_law_witness" 1069 (.ref 552),hen P "_law_is_refused" 1076 (.ref 559),hen P "law" 1082 (.ref 564)]
noncomputable abbrev o3 (P:Params):Obj:=hdc (hmain P (hz "law_pq0548_01" 1028)) 79
noncomputable def hnow (P:Params)(nm:Value)(n:Nat):Obj:=hdc ((hmain P nm).take n) n
noncomputable def hcodes:List Nat→List Value
 | a::b::l=>.int a 0::.int 0 0::.ref b::hcodes l
 | _=>[]
noncomputable def hcode (n:Nat):Obj:=hfl (hcodes ([2,20,4,33,6,45,8,57,10,69,15,76,23,83,25,90,32,97,47,104,56,111,65,118,67,125,69,132,78,139,90,146,97,153,99,160,101,167,107,174,117,181,124,202,127,209,137,216,149,223,151,230,160,237,164,244,166,251,169,258,174,265,182,272,201,279,206,286,213,293,221,300,226,307,231,314,234,321,237,328,239,335,245,342,251,349,266,356,276,363,285,370,288,377,297,384,300,391,320,440,330,447,348,452,358,459,360,466,366,473,377,480,387,487,390,494,398,501,407,508,414,515,424,522,438,527,440,532,442,539,449,546,463,551,466,558,472,563].take (2*n)))
noncomputable abbrev o24s (l:List Value):Obj:={ cls:=.type "type",data:=.cls { name:=.ofString "GmpError",bases:=[.type "Exception"],mro:=[.ref 24,.type "Exception",.type "BaseException",.type "object"],ns:=23,qualname:=.ofString "GmpError",subclasses:=l },slots:=#[some (.ref 15),none,some (hz "GmpError" 189),some (hz "GmpError" 197),some (.builtin "Exception.__new__"),some (.bool true)] }
noncomputable abbrev o24:Obj:=o24s [.ref 37,.ref 49,.ref 61]
noncomputable def hrest (P:Params):List Obj:=[o25,{ cls:=.type "super",data:=.fields #[.ref 24,.ref 24,.ref 24] },{ cls:=.type "builtin_function_or_method",data:=.fields #[.builtin "object.__init_subclass__",.ref 24] },o28,{ cls:=.type "builtin_function_or_method",data:=.fields #[.builtin "type.__prepare__",.type "type"] },hdc [hen P "__module__" 216 (hz "gmp.limbs" 187),hen P "__qualname__" 218 (hz "DivisionByZero" 217),hen P "__firstlineno__" 220 (.int 4 219),hen P "__static_attributes__" 221 (.ref 35)] 4,oU,oF,hco "DivisionByZero" "DivisionByZero" 211 4 0 0 0 0 31 false 32 .none .none .none 214,{ cls:=.type "frame",slots:=#[some (.ref 33),some (.ref 3),some (.ref 30),none,some (.str (.ofString "gmp.limbs") 187),none,some (.ref 0)] },oU,o36 P,o37,{ cls:=.type "super",data:=.fields #[.ref 37,.ref 37,.ref 37] },{ cls:=.type "builtin_function_or_method",data:=.fields #[.builtin "object.__init_subclass__",.ref 37] },o40,{ cls:=.type "builtin_function_or_method",data:=.fields #[.builtin "type.__prepare__",.type "type"] },hdc [hen P "__module__" 232 (hz "gmp.limbs" 187),hen P "__qualname__" 234 (hz "NoInverse" 233),hen P "__firstlineno__" 236 (.int 6 235),hen P "__static_attributes__" 237 (.ref 47)] 4,oU,oF,hco "NoInverse" "NoInverse" 227 6 0 0 0 0 43 false 44 .none .none .none 230,{ cls:=.type "frame",slots:=#[some (.ref 45),some (.ref 3),some (.ref 42),none,some (.str (.ofString "gmp.limbs") 187),none,some (.ref 0)] },oU,o48 P,o49,{ cls:=.type "super",data:=.fields #[.ref 49,.ref 49,.ref 49] },{ cls:=.type "builtin_function_or_method",data:=.fields #[.builtin "object.__init_subclass__",.ref 49] },o52,{ cls:=.type "builtin_function_or_method",data:=.fields #[.builtin "type.__prepare__",.type "type"] },hdc [hen P "__module__" 248 (hz "gmp.limbs" 187),hen P "__qualname__" 250 (hz "OutOfRange" 249),hen P "__firstlineno__" 252 (.int 8 251),hen P "__static_attributes__" 253 (.ref 59)] 4,oU,oF,hco "OutOfRange" "OutOfRange" 243 8 0 0 0 0 55 false 56 .none .none .none 246,{ cls:=.type "frame",slots:=#[some (.ref 57),some (.ref 3),some (.ref 54),none,some (.str (.ofString "gmp.limbs") 187),none,some (.ref 0)] },oU,o60 P,o61,{ cls:=.type "super",data:=.fields #[.ref 61,.ref 61,.ref 61] },{ cls:=.type "builtin_function_or_method",data:=.fields #[.builtin "object.__init_subclass__",.ref 61] },oU,oF,o66,oU,hfn .none 0 .none .none (hsd 5),o69,o70,oU,oF,o73,oU,hfn .none 0 .none .none (hsd 6),o76,o77,oU,oF,o80,oU,hfn .none 0 .none .none (hsd 7),o83,o84,oU,oF,o87,oU,hfn .none 0 .none .none (hsd 8),o90,o91,oU,oF,o94,oU,hfn .none 0 .none .none (hsd 9),o97,o98,oU,oF,o101,oU,hfn .none 0 .none .none (hsd 10),o104,o105,oU,oF,o108,oU,hfn .none 0 .none .none (hsd 11),o111,o112,oU,oF,o115,oU,hfn .none 0 .none .none (hsd 12),o118,o119,oU,oF,o122,oU,hfn .none 0 .none .none (hsd 13),o125,o126,oU,oF,o129,oU,hfn .none 0 .none .none (hsd 14),o132,o133,oU,oF,o136,oU,hfn .none 0 .none .none (hsd 15),o139,o140,oU,oF,o143,oU,hfn .none 0 .none .none (hsd 16),o146,o147,oU,oF,o150,oU,hfn .none 0 .none .none (hsd 17),o153,o154,oU,oF,o157,oU,hfn .none 0 .none .none (hsd 18),o160,o161,oU,oF,o164,oU,hfn .none 0 .none .none (hsd 19),o167,o168,oU,oF,o171,oU,hfn .none 0 .none .none (hsd 21),o174,o175,oU,{ cls:=.type "builtin_function_or_method",data:=.fields #[.builtin "type.__prepare__",.type "type"] },hdc [hen P "__module__" 438 (hz "gmp.reduce" 429),hen P "__qualname__" 440 (hz "Montgomery" 439),hen P "__firstlineno__" 442 (.int 117 441),hen P "__init__" 453 (.ref 189),hen P "__static_attributes__" 458 (.ref 190)] 5,oU,hfl [.int 119 0,.int 4 0,.ref 188],hco "Montgomery" "Montgomery" 433 117 0 0 0 0 179 false 180 .none .none .none 436,{ cls:=.type "frame",slots:=#[some (.ref 181),some (.ref 3),some (.ref 178),none,some (.str (.ofString "gmp.reduce") 429),none,some (.ref 0)] },oU,oF,o185,oU,hfm .none 0 .none .none "Montgomery.__init__" (hmd 23 0),o188,o189,o190,o191 P,o192,o193,o194,{ cls:=.type "super",data:=.fields #[.ref 192,.ref 192,.ref 192] },{ cls:=.type "builtin_function_or_method",data:=.fields #[.builtin "object.__init_subclass__",.ref 192] },oU,oF,o199,oU,hfn .none 0 .none .none (hsd 24),o202,o203,oU,oF,o206,oU,hfn .none 0 .none .none (hsd 25),o209,o210,oU,oF,o213,oU,hfn .none 0 .none .none (hsd 26),o216,o217,oU,oF,o220,oU,hfn .none 0 .none .none (hsd 27),o223,o224,oU,oF,o227,oU,hfn .none 0 .none .none (hsd 28),o230,o231,oU,oF,o234,oU,hfn .none 0 .none .none (hsd 29),o237,o238,oU,oF,o241,oU,hfn .none 0 .none .none (hsd 30),o244,o245,oU,oF,o248,oU,hfn .none 0 .none .none (hsd 31),o251,o252,oU,oF,o255,oU,hfn .none 0 .none .none (hsd 33),o258,o259,oU,oF,o262,oU,hfn .none 0 .none .none (hsd 34),o265,o266,oU,oF,o269,oU,hfn .none 0 .none .none (hsd 35),o272,o273,oU,oF,o276,o277,hfn .none 0 .none .none (hsd 36),o279,o280,oU,oF,o283,oU,hfn .none 0 .none .none (hsd 37),o286,o287,oU,oF,o290,oU,hfn .none 0 .none .none (hsd 40),o293,o294,oU,oF,o297,oU,hfn .none 0 .none .none (hsd 41),o300,o301,oU,oF,o304,oU,hfn .none 0 .none .none (hsd 42),o307,o308,oU,oF,o311,oU,hfn .none 0 .none .none (hsd 43),o314,o315,oU,oF,o318,oU,hfn .none 0 .none .none (hsd 44),o321,o322,oU,oF,o325,oU,hfn .none 0 .none .none (hsd 45),o328,o329,oU,oF,o332,oU,hfn .none 0 .none .none (hsd 46),o335,o336,oU,oF,o339,oU,hfn .none 0 .none .none (hsd 47),o342,o343,oU,oF,o346,oU,hfn .none 0 .none .none (hsd 48),o349,o350,oU,oF,o353,oU,hfn .none 0 .none .none (hsd 49),o356,o357,oU,oF,o360,oU,hfn .none 0 .none .none (hsd 50),o363,o364,oU,oF,o367,oU,hfn .none 0 .none .none (hsd 51),o370,o371,oU,oF,o374,oU,hfn .none 0 .none .none (hsd 52),o377,o378,oU,oF,o381,oU,hfn .none 0 .none .none (hsd 53),o384,o385,oU,{ cls:=.type "builtin_function_or_method",data:=.fields #[.builtin "type.__prepare__",.type "type"] },hdc [hen P "__module__" 789 (hz "gmp.primes" 628),hen P "__qualname__" 791 (hz "Ring" 790),hen P "__firstlineno__" 793 (.int 300 792),hen P "__init__" 804 (.ref 399),hen P "plus" 814 (.ref 406),hen P "minus" 823 (.ref 413),hen P "product" 832 (.ref 420),hen P "half" 840 (.ref 427),hen P "__static_attributes__" 845 (.ref 428)] 9,oU,hfl [.int 302 0,.int 4 0,.ref 398,.int 308 0,.int 4 0,.ref 405,.int 312 0,.int 4 0,.ref 412,.int 315 0,.int 4 0,.ref 419,.int 318 0,.int 4 0,.ref 426],hco "Ring" "Ring" 784 300 0 0 0 0 389 false 390 .none .none .none 787,{ cls:=.type "frame",slots:=#[some (.ref 391),some (.ref 3),some (.ref 388),none,some (.str (.ofString "gmp.primes") 628),none,some (.ref 0)] },oU,oF,o395,oU,hfm .none 0 .none .none "Ring.__init__" (hmd 54 0),o398,o399,oU,oF,o402,oU,hfm .none 0 .none .none "Ring.plus" (hmd 54 1),o405,o406,oU,oF,o409,oU,hfm .none 0 .none .none "Ring.minus" (hmd 54 2),o412,o413,oU,oF,o416,oU,hfm .none 0 .none .none "Ring.product" (hmd 54 3),o419,o420,oU,oF,o423,oU,hfm .none 0 .none .none "Ring.half" (hmd 54 4),o426,o427,o428,o429 P,o430,o431,o432,{ cls:=.type "super",data:=.fields #[.ref 430,.ref 430,.ref 430] },{ cls:=.type "builtin_function_or_method",data:=.fields #[.builtin "object.__init_subclass__",.ref 430] },oU,oF,o437,oU,hfn .none 0 .none .none (hsd 55),o440,o441,oU,oF,o444,oU,hfn .none 0 .none .none (hsd 56),o447,o448,oU,oF,hfn .none 0 .none .none (hsd 57),o452,o453,oU,oF,o456,oU,hfn .none 0 .none .none (hsd 58),o459,o460,oU,oF,o463,oU,hfn .none 0 .none .none (hsd 59),o466,o467,oU,oF,o470,oU,hfn .none 0 .none .none (hsd 60),o473,o474,oU,oF,o477,oU,hfn .none 0 .none .none (hsd 62),o480,o481,oU,oF,o484,oU,hfn .none 0 .none .none (hsd 63),o487,o488,oU,oF,o491,oU,hfn .none 0 .none .none (hsd 64),o494,o495,oU,oF,o498,oU,hfn .none 0 .none .none (hsd 65),o501,o502,oU,oF,o505,oU,hfn .none 0 .none .none (hsd 66),o508,o509,oU,oF,o512,oU,hfn .none 0 .none .none (hsd 67),o515,o516,oU,oF,o519,oU,hfn .none 0 .none .none (hsd 68),o522,o523,oU,oF,hfn .none 0 .none .none (hsd 70),o527,o528,oU,oF,hfn .none 0 .none .none (hsd 71),o532,o533,oU,oF,o536,oU,hfn .none 0 .none .none (hsd 72),o539,o540,oU,oF,o543,oU,hfn .none 0 .none .none (hsd 73),o546,o547,oU,oF,hfn .none 0 .none .none (hsd 74),o551,o552,oU,oF,o555,oU,hfn .none 0 .none .none (hsd 75),o558,o559,oU,oF,hfn .none 0 .none .none (hsd 76),o563,o564]
noncomputable def hheap (P:Params)(n:Nat)(d2 d3 d12 d24:Obj):List Obj :=
 [boot_o_0 P,boot_o_1 P,d2,d3,boot_o_4 P,boot_o_5 P,boot_o_6 P,boot_o_7 P,boot_o_8 P,boot_o_9 P,boot_o_10 P,oU,d12,o13,o14]++(match n with | 0=>[] | n+1=>[o15,o16,o17 P,oU,oF,o20,o21,oU,o23 P,d24]++(hrest P).take n)
noncomputable def hev:List Obj→List Obj
 | a::_::l=>a::hev l
 | l=>l
noncomputable def hod:List Obj→List Obj
 | _::b::l=>b::hod l
 | _=>[]
noncomputable def htree:Nat→List Obj→BT
 | n+1,x::l=>.node x (htree n (hev l)) (htree n (hod l))
 | _,_=>.nil
noncomputable def KF:Params→Frag:=fun P=>(nat_lit 2,o2 P)::(nat_lit 3,o3 P)::(nat_lit 15,o15)::(nat_lit 22,oU)::(nat_lit 23,o23 P)::(nat_lit 24,o24)::(nat_lit 25,o25)::(nat_lit 28,o28)::(nat_lit 35,oU)::(nat_lit 36,o36 P)::(nat_lit 37,o37)::(nat_lit 40,o40)::(nat_lit 47,oU)::(nat_lit 48,o48 P)::(nat_lit 49,o49)::(nat_lit 52,o52)::(nat_lit 59,oU)::(nat_lit 60,o60 P)::(nat_lit 61,o61)::(nat_lit 64,oU)::(nat_lit 66,o66)::(nat_lit 67,oU)::(nat_lit 69,o69)::(nat_lit 70,o70)::(nat_lit 71,oU)::(nat_lit 73,o73)::(nat_lit 74,oU)::(nat_lit 76,o76)::(nat_lit 77,o77)::(nat_lit 78,oU)::(nat_lit 80,o80)::(nat_lit 81,oU)::(nat_lit 83,o83)::(nat_lit 84,o84)::(nat_lit 85,oU)::(nat_lit 87,o87)::(nat_lit 88,oU)::(nat_lit 90,o90)::(nat_lit 91,o91)::(nat_lit 92,oU)::(nat_lit 94,o94)::(nat_lit 95,oU)::(nat_lit 97,o97)::(nat_lit 98,o98)::(nat_lit 99,oU)::(nat_lit 101,o101)::(nat_lit 102,oU)::(nat_lit 104,o104)::(nat_lit 105,o105)::(nat_lit 106,oU)::(nat_lit 108,o108)::(nat_lit 109,oU)::(nat_lit 111,o111)::(nat_lit 112,o112)::(nat_lit 113,oU)::(nat_lit 115,o115)::(nat_lit 116,oU)::(nat_lit 118,o118)::(nat_lit 119,o119)::(nat_lit 120,oU)::(nat_lit 122,o122)::(nat_lit 123,oU)::(nat_lit 125,o125)::(nat_lit 126,o126)::(nat_lit 127,oU)::(nat_lit 129,o129)::(nat_lit 130,oU)::(nat_lit 132,o132)::(nat_lit 133,o133)::(nat_lit 134,oU)::(nat_lit 136,o136)::(nat_lit 137,oU)::(nat_lit 139,o139)::(nat_lit 140,o140)::(nat_lit 141,oU)::(nat_lit 143,o143)::(nat_lit 144,oU)::(nat_lit 146,o146)::(nat_lit 147,o147)::(nat_lit 148,oU)::(nat_lit 150,o150)::(nat_lit 151,oU)::(nat_lit 153,o153)::(nat_lit 154,o154)::(nat_lit 155,oU)::(nat_lit 157,o157)::(nat_lit 158,oU)::(nat_lit 160,o160)::(nat_lit 161,o161)::(nat_lit 162,oU)::(nat_lit 164,o164)::(nat_lit 165,oU)::(nat_lit 167,o167)::(nat_lit 168,o168)::(nat_lit 169,oU)::(nat_lit 171,o171)::(nat_lit 172,oU)::(nat_lit 174,o174)::(nat_lit 175,o175)::(nat_lit 183,oU)::(nat_lit 185,o185)::(nat_lit 186,oU)::(nat_lit 188,o188)::(nat_lit 189,o189)::(nat_lit 190,o190)::(nat_lit 191,o191 P)::(nat_lit 192,o192)::(nat_lit 193,o193)::(nat_lit 194,o194)::(nat_lit 197,oU)::(nat_lit 199,o199)::(nat_lit 200,oU)::(nat_lit 202,o202)::(nat_lit 203,o203)::(nat_lit 204,oU)::(nat_lit 206,o206)::(nat_lit 207,oU)::(nat_lit 209,o209)::(nat_lit 210,o210)::(nat_lit 211,oU)::(nat_lit 213,o213)::(nat_lit 214,oU)::(nat_lit 216,o216)::(nat_lit 217,o217)::(nat_lit 218,oU)::(nat_lit 220,o220)::(nat_lit 221,oU)::(nat_lit 223,o223)::(nat_lit 224,o224)::(nat_lit 225,oU)::(nat_lit 227,o227)::(nat_lit 228,oU)::(nat_lit 230,o230)::(nat_lit 231,o231)::(nat_lit 232,oU)::(nat_lit 234,o234)::(nat_lit 235,oU)::(nat_lit 237,o237)::(nat_lit 238,o238)::(nat_lit 239,oU)::(nat_lit 241,o241)::(nat_lit 242,oU)::(nat_lit 244,o244)::(nat_lit 245,o245)::(nat_lit 246,oU)::(nat_lit 248,o248)::(nat_lit 249,oU)::(nat_lit 251,o251)::(nat_lit 252,o252)::(nat_lit 253,oU)::(nat_lit 255,o255)::(nat_lit 256,oU)::(nat_lit 258,o258)::(nat_lit 259,o259)::(nat_lit 260,oU)::(nat_lit 262,o262)::(nat_lit 263,oU)::(nat_lit 265,o265)::(nat_lit 266,o266)::(nat_lit 267,oU)::(nat_lit 269,o269)::(nat_lit 270,oU)::(nat_lit 272,o272)::(nat_lit 273,o273)::(nat_lit 274,oU)::(nat_lit 276,o276)::(nat_lit 277,o277)::(nat_lit 279,o279)::(nat_lit 280,o280)::(nat_lit 281,oU)::(nat_lit 283,o283)::(nat_lit 284,oU)::(nat_lit 286,o286)::(nat_lit 287,o287)::(nat_lit 288,oU)::(nat_lit 290,o290)::(nat_lit 291,oU)::(nat_lit 293,o293)::(nat_lit 294,o294)::(nat_lit 295,oU)::(nat_lit 297,o297)::(nat_lit 298,oU)::(nat_lit 300,o300)::(nat_lit 301,o301)::(nat_lit 302,oU)::(nat_lit 304,o304)::(nat_lit 305,oU)::(nat_lit 307,o307)::(nat_lit 308,o308)::(nat_lit 309,oU)::(nat_lit 311,o311)::(nat_lit 312,oU)::(nat_lit 314,o314)::(nat_lit 315,o315)::(nat_lit 316,oU)::(nat_lit 318,o318)::(nat_lit 319,oU)::(nat_lit 321,o321)::(nat_lit 322,o322)::(nat_lit 323,oU)::(nat_lit 325,o325)::(nat_lit 326,oU)::(nat_lit 328,o328)::(nat_lit 329,o329)::(nat_lit 330,oU)::(nat_lit 332,o332)::(nat_lit 333,oU)::(nat_lit 335,o335)::(nat_lit 336,o336)::(nat_lit 337,oU)::(nat_lit 339,o339)::(nat_lit 340,oU)::(nat_lit 342,o342)::(nat_lit 343,o343)::(nat_lit 344,oU)::(nat_lit 346,o346)::(nat_lit 347,oU)::(nat_lit 349,o349)::(nat_lit 350,o350)::(nat_lit 351,oU)::(nat_lit 353,o353)::(nat_lit 354,oU)::(nat_lit 356,o356)::(nat_lit 357,o357)::(nat_lit 358,oU)::(nat_lit 360,o360)::(nat_lit 361,oU)::(nat_lit 363,o363)::(nat_lit 364,o364)::(nat_lit 365,oU)::(nat_lit 367,o367)::(nat_lit 368,oU)::(nat_lit 370,o370)::(nat_lit 371,o371)::(nat_lit 372,oU)::(nat_lit 374,o374)::(nat_lit 375,oU)::(nat_lit 377,o377)::(nat_lit 378,o378)::(nat_lit 379,oU)::(nat_lit 381,o381)::(nat_lit 382,oU)::(nat_lit 384,o384)::(nat_lit 385,o385)::(nat_lit 393,oU)::(nat_lit 395,o395)::(nat_lit 396,oU)::(nat_lit 398,o398)::(nat_lit 399,o399)::(nat_lit 400,oU)::(nat_lit 402,o402)::(nat_lit 403,oU)::(nat_lit 405,o405)::(nat_lit 406,o406)::(nat_lit 407,oU)::(nat_lit 409,o409)::(nat_lit 410,oU)::(nat_lit 412,o412)::(nat_lit 413,o413)::(nat_lit 414,oU)::(nat_lit 416,o416)::(nat_lit 417,oU)::(nat_lit 419,o419)::(nat_lit 420,o420)::(nat_lit 421,oU)::(nat_lit 423,o423)::(nat_lit 424,oU)::(nat_lit 426,o426)::(nat_lit 427,o427)::(nat_lit 428,o428)::(nat_lit 429,o429 P)::(nat_lit 430,o430)::(nat_lit 431,o431)::(nat_lit 432,o432)::(nat_lit 435,oU)::(nat_lit 437,o437)::(nat_lit 438,oU)::(nat_lit 440,o440)::(nat_lit 441,o441)::(nat_lit 442,oU)::(nat_lit 444,o444)::(nat_lit 445,oU)::(nat_lit 447,o447)::(nat_lit 448,o448)::(nat_lit 449,oU)::(nat_lit 452,o452)::(nat_lit 453,o453)::(nat_lit 454,oU)::(nat_lit 456,o456)::(nat_lit 457,oU)::(nat_lit 459,o459)::(nat_lit 460,o460)::(nat_lit 461,oU)::(nat_lit 463,o463)::(nat_lit 464,oU)::(nat_lit 466,o466)::(nat_lit 467,o467)::(nat_lit 468,oU)::(nat_lit 470,o470)::(nat_lit 471,oU)::(nat_lit 473,o473)::(nat_lit 474,o474)::(nat_lit 475,oU)::(nat_lit 477,o477)::(nat_lit 478,oU)::(nat_lit 480,o480)::(nat_lit 481,o481)::(nat_lit 482,oU)::(nat_lit 484,o484)::(nat_lit 485,oU)::(nat_lit 487,o487)::(nat_lit 488,o488)::(nat_lit 489,oU)::(nat_lit 491,o491)::(nat_lit 492,oU)::(nat_lit 494,o494)::(nat_lit 495,o495)::(nat_lit 496,oU)::(nat_lit 498,o498)::(nat_lit 499,oU)::(nat_lit 501,o501)::(nat_lit 502,o502)::(nat_lit 503,oU)::(nat_lit 505,o505)::(nat_lit 506,oU)::(nat_lit 508,o508)::(nat_lit 509,o509)::(nat_lit 510,oU)::(nat_lit 512,o512)::(nat_lit 513,oU)::(nat_lit 515,o515)::(nat_lit 516,o516)::(nat_lit 517,oU)::(nat_lit 519,o519)::(nat_lit 520,oU)::(nat_lit 522,o522)::(nat_lit 523,o523)::(nat_lit 524,oU)::(nat_lit 527,o527)::(nat_lit 528,o528)::(nat_lit 529,oU)::(nat_lit 532,o532)::(nat_lit 533,o533)::(nat_lit 534,oU)::(nat_lit 536,o536)::(nat_lit 537,oU)::(nat_lit 539,o539)::(nat_lit 540,o540)::(nat_lit 541,oU)::(nat_lit 543,o543)::(nat_lit 544,oU)::(nat_lit 546,o546)::(nat_lit 547,o547)::(nat_lit 548,oU)::(nat_lit 551,o551)::(nat_lit 552,o552)::(nat_lit 553,oU)::(nat_lit 555,o555)::(nat_lit 556,oU)::(nat_lit 558,o558)::(nat_lit 559,o559)::(nat_lit 560,oU)::(nat_lit 563,o563)::(nat_lit 564,o564)::[]
noncomputable abbrev KA:List Nat:=[nat_lit 2,nat_lit 3,nat_lit 15,nat_lit 22,nat_lit 23,nat_lit 24,nat_lit 25,nat_lit 28,nat_lit 35,nat_lit 36,nat_lit 37,nat_lit 40,nat_lit 47,nat_lit 48,nat_lit 49,nat_lit 52,nat_lit 59,nat_lit 60,nat_lit 61,nat_lit 64,nat_lit 66,nat_lit 67,nat_lit 69,nat_lit 70,nat_lit 71,nat_lit 73,nat_lit 74,nat_lit 76,nat_lit 77,nat_lit 78,nat_lit 80,nat_lit 81,nat_lit 83,nat_lit 84,nat_lit 85,nat_lit 87,nat_lit 88,nat_lit 90,nat_lit 91,nat_lit 92,nat_lit 94,nat_lit 95,nat_lit 97,nat_lit 98,nat_lit 99,nat_lit 101,nat_lit 102,nat_lit 104,nat_lit 105,nat_lit 106,nat_lit 108,nat_lit 109,nat_lit 111,nat_lit 112,nat_lit 113,nat_lit 115,nat_lit 116,nat_lit 118,nat_lit 119,nat_lit 120,nat_lit 122,nat_lit 123,nat_lit 125,nat_lit 126,nat_lit 127,nat_lit 129,nat_lit 130,nat_lit 132,nat_lit 133,nat_lit 134,nat_lit 136,nat_lit 137,nat_lit 139,nat_lit 140,nat_lit 141,nat_lit 143,nat_lit 144,nat_lit 146,nat_lit 147,nat_lit 148,nat_lit 150,nat_lit 151,nat_lit 153,nat_lit 154,nat_lit 155,nat_lit 157,nat_lit 158,nat_lit 160,nat_lit 161,nat_lit 162,nat_lit 164,nat_lit 165,nat_lit 167,nat_lit 168,nat_lit 169,nat_lit 171,nat_lit 172,nat_lit 174,nat_lit 175,nat_lit 183,nat_lit 185,nat_lit 186,nat_lit 188,nat_lit 189,nat_lit 190,nat_lit 191,nat_lit 192,nat_lit 193,nat_lit 194,nat_lit 197,nat_lit 199,nat_lit 200,nat_lit 202,nat_lit 203,nat_lit 204,nat_lit 206,nat_lit 207,nat_lit 209,nat_lit 210,nat_lit 211,nat_lit 213,nat_lit 214,nat_lit 216,nat_lit 217,nat_lit 218,nat_lit 220,nat_lit 221,nat_lit 223,nat_lit 224,nat_lit 225,nat_lit 227,nat_lit 228,nat_lit 230,nat_lit 231,nat_lit 232,nat_lit 234,nat_lit 235,nat_lit 237,nat_lit 238,nat_lit 239,nat_lit 241,nat_lit 242,nat_lit 244,nat_lit 245,nat_lit 246,nat_lit 248,nat_lit 249,nat_lit 251,nat_lit 252,nat_lit 253,nat_lit 255,nat_lit 256,nat_lit 258,nat_lit 259,nat_lit 260,nat_lit 262,nat_lit 263,nat_lit 265,nat_lit 266,nat_lit 267,nat_lit 269,nat_lit 270,nat_lit 272,nat_lit 273,nat_lit 274,nat_lit 276,nat_lit 277,nat_lit 279,nat_lit 280,nat_lit 281,nat_lit 283,nat_lit 284,nat_lit 286,nat_lit 287,nat_lit 288,nat_lit 290,nat_lit 291,nat_lit 293,nat_lit 294,nat_lit 295,nat_lit 297,nat_lit 298,nat_lit 300,nat_lit 301,nat_lit 302,nat_lit 304,nat_lit 305,nat_lit 307,nat_lit 308,nat_lit 309,nat_lit 311,nat_lit 312,nat_lit 314,nat_lit 315,nat_lit 316,nat_lit 318,nat_lit 319,nat_lit 321,nat_lit 322,nat_lit 323,nat_lit 325,nat_lit 326,nat_lit 328,nat_lit 329,nat_lit 330,nat_lit 332,nat_lit 333,nat_lit 335,nat_lit 336,nat_lit 337,nat_lit 339,nat_lit 340,nat_lit 342,nat_lit 343,nat_lit 344,nat_lit 346,nat_lit 347,nat_lit 349,nat_lit 350,nat_lit 351,nat_lit 353,nat_lit 354,nat_lit 356,nat_lit 357,nat_lit 358,nat_lit 360,nat_lit 361,nat_lit 363,nat_lit 364,nat_lit 365,nat_lit 367,nat_lit 368,nat_lit 370,nat_lit 371,nat_lit 372,nat_lit 374,nat_lit 375,nat_lit 377,nat_lit 378,nat_lit 379,nat_lit 381,nat_lit 382,nat_lit 384,nat_lit 385,nat_lit 393,nat_lit 395,nat_lit 396,nat_lit 398,nat_lit 399,nat_lit 400,nat_lit 402,nat_lit 403,nat_lit 405,nat_lit 406,nat_lit 407,nat_lit 409,nat_lit 410,nat_lit 412,nat_lit 413,nat_lit 414,nat_lit 416,nat_lit 417,nat_lit 419,nat_lit 420,nat_lit 421,nat_lit 423,nat_lit 424,nat_lit 426,nat_lit 427,nat_lit 428,nat_lit 429,nat_lit 430,nat_lit 431,nat_lit 432,nat_lit 435,nat_lit 437,nat_lit 438,nat_lit 440,nat_lit 441,nat_lit 442,nat_lit 444,nat_lit 445,nat_lit 447,nat_lit 448,nat_lit 449,nat_lit 452,nat_lit 453,nat_lit 454,nat_lit 456,nat_lit 457,nat_lit 459,nat_lit 460,nat_lit 461,nat_lit 463,nat_lit 464,nat_lit 466,nat_lit 467,nat_lit 468,nat_lit 470,nat_lit 471,nat_lit 473,nat_lit 474,nat_lit 475,nat_lit 477,nat_lit 478,nat_lit 480,nat_lit 481,nat_lit 482,nat_lit 484,nat_lit 485,nat_lit 487,nat_lit 488,nat_lit 489,nat_lit 491,nat_lit 492,nat_lit 494,nat_lit 495,nat_lit 496,nat_lit 498,nat_lit 499,nat_lit 501,nat_lit 502,nat_lit 503,nat_lit 505,nat_lit 506,nat_lit 508,nat_lit 509,nat_lit 510,nat_lit 512,nat_lit 513,nat_lit 515,nat_lit 516,nat_lit 517,nat_lit 519,nat_lit 520,nat_lit 522,nat_lit 523,nat_lit 524,nat_lit 527,nat_lit 528,nat_lit 529,nat_lit 532,nat_lit 533,nat_lit 534,nat_lit 536,nat_lit 537,nat_lit 539,nat_lit 540,nat_lit 541,nat_lit 543,nat_lit 544,nat_lit 546,nat_lit 547,nat_lit 548,nat_lit 551,nat_lit 552,nat_lit 553,nat_lit 555,nat_lit 556,nat_lit 558,nat_lit 559,nat_lit 560,nat_lit 563,nat_lit 564]
noncomputable abbrev PR:Program:=PySem.Challenge.rw_pq0548_01.row.toRowW.prog
noncomputable def VW:Program:={ PR with main:={ PR.main with body:=[hsd 1,hsd 2,hsd 3,hsd 4,hsd 5,hsd 6,hsd 7,hsd 8,hsd 9,hsd 10,hsd 11,hsd 12,hsd 13,hsd 14,hsd 15,hsd 16,hsd 17,hsd 18,hsd 19,hsd 21,hsd 23,hsd 24,hsd 25,hsd 26,hsd 27,hsd 28,hsd 29,hsd 30,hsd 31,hsd 33,hsd 34,hsd 35,hsd 36,hsd 37,hsd 39,hsd 40,hsd 41,hsd 42,hsd 43,hsd 44,hsd 45,hsd 46,hsd 47,hsd 48,hsd 49,hsd 50,hsd 51,hsd 52,hsd 53,hsd 54,hsd 55,hsd 56,hsd 57,hsd 58,hsd 59,hsd 60,hsd 62,hsd 63,hsd 64,hsd 65,hsd 66,hsd 67,hsd 68,hsd 70,hsd 71,hsd 72,hsd 73,hsd 74,hsd 75,hsd 76] } }
noncomputable def EV:Env:={ scope:=PR.main.scope,locals:=mainNs,globals:=mainNs,cells:=[],code:=.ref 13,frame:=some 14 }
noncomputable abbrev BE:List Stmt:=behindTheImports PR
noncomputable abbrev CE:Code:=.body BE EV
noncomputable abbrev hp (a b c d:Nat):Pos:=⟨a,b,c,d⟩
noncomputable abbrev QS:List Frame:=[topFrame (hp 0 0 0 0)]
noncomputable abbrev AN:Option Value:=some (.ref 6)
noncomputable def hsts (i n:Nat):List Stmt:=(HPB.drop i).take n
noncomputable def T0 (P:Params):List Obj:=hheap P 0 (boot_o_2 P) (boot_o_3 P) (hcode 0) o24
noncomputable def T1 (P:Params):List Obj:=hheap P 4 (o2 P) (hnow P (hz "gmp.limbs" 187) 10) (hcode 1) (o24s [])
noncomputable def T2 (P:Params):List Obj:=hheap P 16 (o2 P) (hnow P (hz "gmp.limbs" 187) 11) (hcode 2) (o24s [.ref 37])
noncomputable def T3 (P:Params):List Obj:=hheap P 28 (o2 P) (hnow P (hz "gmp.limbs" 187) 12) (hcode 3) (o24s [.ref 37,.ref 49])
noncomputable def T4 (P:Params):List Obj:=hheap P 75 (o2 P) (hnow P (hz "gmp.limbs" 187) 18) (hcode 9) o24
noncomputable def T5 (P:Params):List Obj:=hheap P 152 (o2 P) (hnow P (hz "gmp.reduce" 429) 29) (hcode 20) o24
noncomputable def T6 (P:Params):List Obj:=hheap P 208 (o2 P) (hnow P (hz "gmp.reduce" 429) 35) (hcode 26) o24
noncomputable def T7 (P:Params):List Obj:=hheap P 278 (o2 P) (hnow P (hz "gmp.primes" 628) 46) (hcode 36) o24
noncomputable def T8 (P:Params):List Obj:=hheap P 362 (o2 P) (hnow P (hz "gmp.primes" 628) 58) (hcode 48) o24
noncomputable def T9 (P:Params):List Obj:=hheap P 418 (o2 P) (hnow P (hz "gmp.primes" 628) 60) (hcode 50) o24
noncomputable def T10 (P:Params):List Obj:=hheap P 493 (o2 P) (hnow P (hz "gmp.school" 929) 71) (hcode 61) o24
noncomputable def T11 (P:Params):List Obj:=hheap P 541 (o2 P) (o3 P) (hcode 69) o24
noncomputable def hst (T:Params→List Obj)(n t:Nat)(w:World)(os:OsState):SharedT:=⟨htree 12 (T w.params),n,{},#[],{},t,os⟩
noncomputable def H1 (P:Params):Heap:=⟨(T0 P).toArray,{}⟩
noncomputable def H2 (P:Params):Heap:=⟨(T11 P).toArray,{}⟩
theorem h_pre (w:World)(os:OsState):topGo treeTable PR w 11 AN 12 ⟨boot_heap w.params,#[],boot_drawn,boot_toks,os⟩ (topStub PR)=some (⟨H1 w.params,#[],{},187,os⟩,⟨denote treeTable CE,CE,hp 0 0 0 0,QS⟩):=by kernel_rfl
theorem h_blk (w:World)(os:OsState):segRun treeTable PR w 11 AN 1 1 ⟨H1 w.params,#[],{},187,os⟩ (blockOf BE EV CE (hp 0 0 0 0) QS)=some (.next,(hst T0 15 187 w os).abs,CE,hp 0 0 0 0):=by kernel_rfl
theorem h_p1 (w:World)(os:OsState):segRunT treeTable PR w 11 AN 1 206 (hst T0 15 187 w os) (piecesOf (hsts 0 2) EV CE (hp 0 0 0 0) QS)=some (.next,hst T1 28 209 w os,CE,hp 2 0 3 8):=by kernel_rfl
theorem h_p2 (w:World)(os:OsState):segRunT treeTable PR w 11 AN 1 214 (hst T1 28 209 w os) (piecesOf (hsts 2 1) EV CE (hp 2 0 3 8) QS)=some (.next,hst T2 40 225 w os,CE,hp 4 0 5 8):=by kernel_rfl
theorem h_p3 (w:World)(os:OsState):segRunT treeTable PR w 11 AN 1 214 (hst T2 40 225 w os) (piecesOf (hsts 3 1) EV CE (hp 4 0 5 8) QS)=some (.next,hst T3 52 241 w os,CE,hp 6 0 7 8):=by kernel_rfl
theorem h_p4 (w:World)(os:OsState):segRunT treeTable PR w 11 AN 1 371 (hst T3 52 241 w os) (piecesOf (hsts 4 6) EV CE (hp 6 0 7 8) QS)=some (.next,hst T4 99 304 w os,CE,hp 32 0 46 16):=by kernel_rfl
theorem h_p5 (w:World)(os:OsState):segRunT treeTable PR w 11 AN 1 384 (hst T4 99 304 w os) (piecesOf (hsts 10 13) EV CE (hp 32 0 46 16) QS)=some (.next,hst T5 176 431 w os,CE,hp 116 0 116 8):=by kernel_rfl
theorem h_p6 (w:World)(os:OsState):segRunT treeTable PR w 11 AN 1 397 (hst T5 176 431 w os) (piecesOf (hsts 23 6) EV CE (hp 116 0 116 8) QS)=some (.next,hst T6 232 524 w os,CE,hp 151 0 159 48):=by kernel_rfl
theorem h_p7 (w:World)(os:OsState):segRunT treeTable PR w 11 AN 1 372 (hst T6 232 524 w os) (piecesOf (hsts 29 13) EV CE (hp 151 0 159 48) QS)=some (.next,hst T7 302 654 w os,CE,hp 221 0 225 15):=by kernel_rfl
theorem h_p8 (w:World)(os:OsState):segRunT treeTable PR w 11 AN 1 393 (hst T7 302 654 w os) (piecesOf (hsts 42 12) EV CE (hp 221 0 225 15) QS)=some (.next,hst T8 386 782 w os,CE,hp 297 0 299 65):=by kernel_rfl
theorem h_p9 (w:World)(os:OsState):segRunT treeTable PR w 11 AN 1 399 (hst T8 386 782 w os) (piecesOf (hsts 54 2) EV CE (hp 297 0 299 65) QS)=some (.next,hst T9 442 869 w os,CE,hp 320 0 329 24):=by kernel_rfl
theorem h_p10 (w:World)(os:OsState):segRunT treeTable PR w 11 AN 1 394 (hst T9 442 869 w os) (piecesOf (hsts 56 12) EV CE (hp 320 0 329 24) QS)=some (.next,hst T10 517 1015 w os,CE,hp 414 0 423 19):=by kernel_rfl
theorem h_p11 (w:World)(os:OsState):segRunT treeTable PR w 11 AN 1 244 (hst T10 517 1015 w os) (piecesOf (hsts 68 9) EV CE (hp 414 0 423 19) QS)=some (.next,hst T11 565 1083 w os,CE,hp 472 0 496 32):=by kernel_rfl
theorem h_fin (w:World)(os:OsState):topRun treeTable PR w 11 AN 2 (hst T11 565 1083 w os).abs ⟨doneF .next,CE,hp 472 0 496 32,QS⟩=some ⟨H2 w.params,#[],{},1083,os⟩:=by kernel_rfl
theorem h_body:BE=(hsts 0 2++(hsts 2 1++(hsts 3 1++(hsts 4 6++(hsts 10 13++(hsts 23 6++(hsts 29 13++(hsts 42 12++(hsts 54 2++(hsts 56 12++(hsts 68 9++[]))))))))))):=by kernel_rfl
theorem h_run (w:World)(os:OsState):topRun treeTable PR w 11 AN (12+(1+(206+(214+(214+(371+(384+(397+(372+(393+(399+(394+(244+2))))))))))))) ⟨boot_heap w.params,#[],boot_drawn,boot_toks,os⟩ (topStub PR)=some ⟨H2 w.params,#[],{},1083,os⟩ :=
 go_top (h_pre w os) (piece_block (h_blk w os) ((congrArg (fun b=>topRun treeTable PR w 11 AN (206+(214+(214+(371+(384+(397+(372+(393+(399+(394+(244+2))))))))))) (hst T0 15 187 w os).abs (restOf b EV CE (hp 0 0 0 0) QS)) h_body).trans
  (piece_app (segRun_of (h_p1 w os)) (piece_app (segRun_of (h_p2 w os)) (piece_app (segRun_of (h_p3 w os)) (piece_app (segRun_of (h_p4 w os)) (piece_app (segRun_of (h_p5 w os)) (piece_app (segRun_of (h_p6 w os)) (piece_app (segRun_of (h_p7 w os)) (piece_app (segRun_of (h_p8 w os)) (piece_app (segRun_of (h_p9 w os)) (piece_app (segRun_of (h_p10 w os)) (piece_app (segRun_of (h_p11 w os)) (piece_nil (h_fin w os)))))))))))))))
end
section
set_option maxHeartbeats 8000000
noncomputable abbrev RR:RowW:=PySem.Challenge.rw_pq0548_01.row.toRowW
noncomputable abbrev HK:Hook:=kmHook KF KA (fun _=>by kernel_rfl) [275,561]
noncomputable abbrev XT (s:Shared):Bool:=xlAt VW [] s && recOk (RowW.records RR) s
theorem h_open:∀ w:World,(fencedOpening treeTable PR w 7280).map (fun s=>(s.heap,s.gens,s.drawn,s.toks))=some (boot_heap w.params,#[],boot_drawn,boot_toks) :=
 boot_open (by kernel_rfl) (by decide) (fun s=>by kernel_rfl)
theorem h_size (w:World):((boot_heap w.params).isNs mainGlobals && (#[]:Array GenState).size == 0,(boot_heap w.params).objs.size,(boot_heap w.params).nsMap mainGlobals "__annotations__")=(true,11,AN):=by kernel_rfl
noncomputable abbrev SE1 (w:World)(os:OsState):Shared:=⟨H2 w.params,#[],{},1083,os⟩
theorem h_l1 (w:World)(os:OsState):(staticsOk (importedModules PR.main.body) (boot_heap w.params) (H2 w.params) && namesBound PR (H2 w.params) && gensDone (SE1 w os) && laidKept (boot_heap w.params) (H2 w.params))=true:=by kernel_rfl
theorem h_l2 (w:World)(os:OsState):openSeen VW [] (importedModules PR.main.body) XT true (SE1 w os)=openGood VW []:=by
 unfold openSeen openGood
 exact looks_pair (by kernel_rfl) (looks_pair (by kernel_rfl) (looks_pair (by kernel_rfl) (looks_pair (by kernel_rfl) (looks_pair (by kernel_rfl) (looks_pair (by kernel_rfl) (looks_pair (by kernel_rfl) (looks_pair (by kernel_rfl) (by kernel_rfl))))))))
theorem h_l3 (w:World)(os:OsState):Hook.obs HK (SE1 w os)=Hook.val HK w:=by kernel_rfl
theorem h_left:LeftO PR VW [] XT (Hook.obs HK) (Hook.val HK) 7280 :=
 LeftO.of_pieces h_open h_size h_run (by decide) (fun w=>funext fun os=>looks_pair (h_l1 w os) (looks_pair (h_l2 w os) (h_l3 w os)))
end
section
set_option maxHeartbeats 8000000
theorem said_:OpenLaw.wellSaid PySem.Challenge.rw_pq0548_01=true:=by kernel_rfl
theorem ok_:(chainsOk VW && opensWell PR && (frees RR && RR.within.isEmpty))=true:=by kernel_rfl
theorem bare_:PR.bare:=⟨rfl,rfl,rfl,rfl,rfl,by kernel_rfl⟩
end
section
set_option maxHeartbeats 4000000
theorem k_normal (P:Params):chkFn (KF P) GL 70 p_normal r_normal c_normal=true:=by kernel_rfl
theorem kk_normal (P:Params):keepIn (KF P) (.ref 70)=true:=by kernel_rfl
theorem k_nat_of (P:Params):chkFn (KF P) GL 77 p_nat_of r_nat_of c_nat_of=true:=by kernel_rfl
theorem kk_nat_of (P:Params):keepIn (KF P) (.ref 77)=true:=by kernel_rfl
theorem k_is_probable (P:Params):chkFn (KF P) GL 453 p_is_probable r_is_probable c_is_probable=true:=by kernel_rfl
theorem k_is_even (P:Params):chkFn (KF P) GL 84 p_is_even r_is_even c_is_even=true:=by kernel_rfl
theorem kk_is_even (P:Params):keepIn (KF P) (.ref 84)=true:=by kernel_rfl
theorem k_compare (P:Params):chkFn (KF P) GL 91 p_compare r_compare c_compare=true:=by kernel_rfl
theorem kk_compare (P:Params):keepIn (KF P) (.ref 91)=true:=by kernel_rfl
theorem k_add (P:Params):chkFn (KF P) GL 98 p_add r_add c_add=true:=by kernel_rfl
theorem kk_add (P:Params):keepIn (KF P) (.ref 98)=true:=by kernel_rfl
theorem k_sub (P:Params):chkFn (KF P) GL 105 p_sub r_sub c_sub=true:=by kernel_rfl
theorem kk_sub (P:Params):keepIn (KF P) (.ref 105)=true:=by kernel_rfl
theorem k_sub_limb (P:Params):chkFn (KF P) GL 119 p_sub_limb r_sub_limb c_sub_limb=true:=by kernel_rfl
theorem kk_sub_limb (P:Params):keepIn (KF P) (.ref 119)=true:=by kernel_rfl
theorem k_lifted (P:Params):chkFn (KF P) GL 126 p_lifted r_lifted c_lifted=true:=by kernel_rfl
theorem kk_lifted (P:Params):keepIn (KF P) (.ref 126)=true:=by kernel_rfl
theorem k_divrem_limb (P:Params):chkFn (KF P) GL 133 p_divrem_limb r_divrem_limb c_divrem_limb=true:=by kernel_rfl
theorem kk_divrem_limb (P:Params):keepIn (KF P) (.ref 133)=true:=by kernel_rfl
theorem k_shift_left (P:Params):chkFn (KF P) GL 140 p_shift_left r_shift_left c_shift_left=true:=by kernel_rfl
theorem kk_shift_left (P:Params):keepIn (KF P) (.ref 140)=true:=by kernel_rfl
theorem k_shift_right (P:Params):chkFn (KF P) GL 147 p_shift_right r_shift_right c_shift_right=true:=by kernel_rfl
theorem kk_shift_right (P:Params):keepIn (KF P) (.ref 147)=true:=by kernel_rfl
theorem k_bits (P:Params):chkFn (KF P) GL 154 p_bits r_bits c_bits=true:=by kernel_rfl
theorem kk_bits (P:Params):keepIn (KF P) (.ref 154)=true:=by kernel_rfl
theorem k_bit (P:Params):chkFn (KF P) GL 161 p_bit r_bit c_bit=true:=by kernel_rfl
theorem kk_bit (P:Params):keepIn (KF P) (.ref 161)=true:=by kernel_rfl
theorem k_trailing (P:Params):chkFn (KF P) GL 168 p_trailing r_trailing c_trailing=true:=by kernel_rfl
theorem kk_trailing (P:Params):keepIn (KF P) (.ref 168)=true:=by kernel_rfl
theorem k_inverse_limb (P:Params):chkFn (KF P) GL 175 p_inverse_limb r_inverse_limb c_inverse_limb=true:=by kernel_rfl
theorem kk_inverse_limb (P:Params):keepIn (KF P) (.ref 175)=true:=by kernel_rfl
theorem k_doubled_rest (P:Params):chkFn (KF P) GL 203 p_doubled_rest r_doubled_rest c_doubled_rest=true:=by kernel_rfl
theorem kk_doubled_rest (P:Params):keepIn (KF P) (.ref 203)=true:=by kernel_rfl
theorem k_mont_make (P:Params):chkFn (KF P) GL 210 p_mont_make r_mont_make c_mont_make=true:=by kernel_rfl
theorem kk_mont_make (P:Params):keepIn (KF P) (.ref 210)=true:=by kernel_rfl
theorem k_add_row (P:Params):chkFnB (KF P) GL 217 p_add_row r_add_row c_add_row=true:=by kernel_rfl
theorem kk_add_row (P:Params):keepIn (KF P) (.ref 217)=true:=by kernel_rfl
theorem k_taken_once (P:Params):chkFn (KF P) GL 224 p_taken_once r_taken_once c_taken_once=true:=by kernel_rfl
theorem kk_taken_once (P:Params):keepIn (KF P) (.ref 224)=true:=by kernel_rfl
theorem k_redc (P:Params):chkFn (KF P) GL 231 p_redc r_redc c_redc=true:=by kernel_rfl
theorem kk_redc (P:Params):keepIn (KF P) (.ref 231)=true:=by kernel_rfl
theorem k_to_mont (P:Params):chkFn (KF P) GL 238 p_to_mont r_to_mont c_to_mont=true:=by kernel_rfl
theorem kk_to_mont (P:Params):keepIn (KF P) (.ref 238)=true:=by kernel_rfl
theorem k_from_mont (P:Params):chkFn (KF P) GL 245 p_from_mont r_from_mont c_from_mont=true:=by kernel_rfl
theorem kk_from_mont (P:Params):keepIn (KF P) (.ref 245)=true:=by kernel_rfl
theorem k_mont_mul (P:Params):chkFn (KF P) GL 252 p_mont_mul r_mont_mul c_mont_mul=true:=by kernel_rfl
theorem kk_mont_mul (P:Params):keepIn (KF P) (.ref 252)=true:=by kernel_rfl
theorem k_odd_powers (P:Params):chkFn (KF P) GL 259 p_odd_powers r_odd_powers c_odd_powers=true:=by kernel_rfl
theorem kk_odd_powers (P:Params):keepIn (KF P) (.ref 259)=true:=by kernel_rfl
theorem k_window_at (P:Params):chkFn (KF P) GL 266 p_window_at r_window_at c_window_at=true:=by kernel_rfl
theorem kk_window_at (P:Params):keepIn (KF P) (.ref 266)=true:=by kernel_rfl
theorem k_by_windows (P:Params):chkFn (KF P) GL 273 p_by_windows r_by_windows c_by_windows=true:=by kernel_rfl
theorem kk_by_windows (P:Params):keepIn (KF P) (.ref 273)=true:=by kernel_rfl
theorem k_power_mont (P:Params):chkFn (KF P) GL 287 p_power_mont r_power_mont c_power_mont=true:=by kernel_rfl
theorem kk_power_mont (P:Params):keepIn (KF P) (.ref 287)=true:=by kernel_rfl
theorem k_small_primes (P:Params):chkFn (KF P) GL 294 p_small_primes r_small_primes c_small_primes=true:=by kernel_rfl
theorem kk_small_primes (P:Params):keepIn (KF P) (.ref 294)=true:=by kernel_rfl
theorem k_rest_small (P:Params):chkFn (KF P) GL 301 p_rest_small r_rest_small c_rest_small=true:=by kernel_rfl
theorem kk_rest_small (P:Params):keepIn (KF P) (.ref 301)=true:=by kernel_rfl
theorem k_trial (P:Params):chkFn (KF P) GL 308 p_trial r_trial c_trial=true:=by kernel_rfl
theorem kk_trial (P:Params):keepIn (KF P) (.ref 308)=true:=by kernel_rfl
theorem k_odd_part (P:Params):chkFn (KF P) GL 315 p_odd_part r_odd_part c_odd_part=true:=by kernel_rfl
theorem kk_odd_part (P:Params):keepIn (KF P) (.ref 315)=true:=by kernel_rfl
theorem k_check_odd (P:Params):chkFn (KF P) GL 322 p_check_odd r_check_odd c_check_odd=true:=by kernel_rfl
theorem kk_check_odd (P:Params):keepIn (KF P) (.ref 322)=true:=by kernel_rfl
theorem k_square_rest (P:Params):chkFn (KF P) GL 329 p_square_rest r_square_rest c_square_rest=true:=by kernel_rfl
theorem kk_square_rest (P:Params):keepIn (KF P) (.ref 329)=true:=by kernel_rfl
theorem k_strong_rows (P:Params):chkFn (KF P) GL 336 p_strong_rows r_strong_rows c_strong_rows=true:=by kernel_rfl
theorem kk_strong_rows (P:Params):keepIn (KF P) (.ref 336)=true:=by kernel_rfl
theorem k_strong_probable (P:Params):chkFn (KF P) GL 343 p_strong_probable r_strong_probable c_strong_probable=true:=by kernel_rfl
theorem kk_strong_probable (P:Params):keepIn (KF P) (.ref 343)=true:=by kernel_rfl
theorem kk_is_probable (P:Params):keepIn (KF P) (.ref 453)=true:=by kernel_rfl
theorem k_is_pair (P:Params):chkFn (KF P) GL 460 p_is_pair r_is_pair c_is_pair=true:=by kernel_rfl
theorem kk_is_pair (P:Params):keepIn (KF P) (.ref 460)=true:=by kernel_rfl
theorem k_least_witness (P:Params):chkFn (KF P) GL 467 p_least_witness r_least_witness c_least_witness=true:=by kernel_rfl
theorem kk_least_witness (P:Params):keepIn (KF P) (.ref 467)=true:=by kernel_rfl
theorem k_divided_out (P:Params):chkFn (KF P) GL 474 p_divided_out r_divided_out c_divided_out=true:=by kernel_rfl
theorem kk_divided_out (P:Params):keepIn (KF P) (.ref 474)=true:=by kernel_rfl
theorem k_mul_school (P:Params):chkFn (KF P) GL 481 p_mul_school r_mul_school c_mul_school=true:=by kernel_rfl
theorem kk_mul_school (P:Params):keepIn (KF P) (.ref 481)=true:=by kernel_rfl
theorem k_divrem_small (P:Params):chkFn (KF P) GL 488 p_divrem_small r_divrem_small c_divrem_small=true:=by kernel_rfl
theorem kk_divrem_small (P:Params):keepIn (KF P) (.ref 488)=true:=by kernel_rfl
theorem k_guessed_limb (P:Params):chkFn (KF P) GL 495 p_guessed_limb r_guessed_limb c_guessed_limb=true:=by kernel_rfl
theorem kk_guessed_limb (P:Params):keepIn (KF P) (.ref 495)=true:=by kernel_rfl
theorem k_take_away (P:Params):chkFnB (KF P) GL 502 p_take_away r_take_away c_take_away=true:=by kernel_rfl
theorem kk_take_away (P:Params):keepIn (KF P) (.ref 502)=true:=by kernel_rfl
theorem k_put_back (P:Params):chkFnB (KF P) GL 509 p_put_back r_put_back c_put_back=true:=by kernel_rfl
theorem kk_put_back (P:Params):keepIn (KF P) (.ref 509)=true:=by kernel_rfl
theorem k_divide_rows (P:Params):chkFnB (KF P) GL 516 p_divide_rows r_divide_rows c_divide_rows=true:=by kernel_rfl
theorem kk_divide_rows (P:Params):keepIn (KF P) (.ref 516)=true:=by kernel_rfl
theorem k_divrem_school (P:Params):chkFn (KF P) GL 523 p_divrem_school r_divrem_school c_divrem_school=true:=by kernel_rfl
theorem kk_divrem_school (P:Params):keepIn (KF P) (.ref 523)=true:=by kernel_rfl
theorem k_law_power (P:Params):chkFn (KF P) GL 540 p_law_power r_law_power c_law_power=true:=by kernel_rfl
theorem kk_law_power (P:Params):keepIn (KF P) (.ref 540)=true:=by kernel_rfl
theorem k_law_lets (P:Params):chkFn (KF P) GL 547 p_law_lets r_law_lets c_law_lets=true:=by kernel_rfl
theorem kk_law_lets (P:Params):keepIn (KF P) (.ref 547)=true:=by kernel_rfl
theorem kk_Montgomery (P:Params):keepIn (KF P) (.ref 192)=true:=by kernel_rfl
theorem kk_mont_times (P:Params):keepIn (KF P) (.ref 280)=true:=by kernel_rfl
def GlobAt (K:Frag)(x:String)(v:V):Prop:=(∃ y t,v=.int y∧nsIn K mainGlobals (Str.ofString x)=some (some (.int y t)))∨(∃ a,v=.ref a∧nsIn K mainGlobals (Str.ofString x)=some (some (.ref a)))
noncomputable def gInt (r:Option (Option Value))(y:Int):Ok (∃ t,r=some (some (.int y t))):=Option.casesOn r none fun o=>Option.casesOn o none fun u=>if h:u.ctorIdx=4 then Value.int.elim (motive:=fun u=>Ok (∃ t,some (some u)=some (some (Value.int y t)))) u h fun z t=>if e:z=y then ok ⟨t,by rw [e]⟩ else none else none
noncomputable def gRef (r:Option (Option Value))(y:Addr):Ok (r=some (some (.ref y))):=Option.casesOn r none fun o=>Option.casesOn o none fun u=>if h:u.ctorIdx=10 then Value.ref.elim (motive:=fun u=>Ok (some (some u)=some (some (Value.ref y)))) u h fun z=>if e:z=y then ok (by rw [e]) else none else none
noncomputable def gAt (K:Frag)(x:String)(v:V):Ok (GlobAt K x v):=V.casesOn (motive_1:=fun v=>Ok (GlobAt K x v)) v none (fun _=>none) (fun y=>(gInt (nsIn K mainGlobals (Str.ofString x)) y).to fun h=>ok (by obtain ⟨t,h⟩:=h;exact .inl ⟨y,t,rfl,h⟩)) (fun a=>(gRef (nsIn K mainGlobals (Str.ofString x)) a).to fun h=>ok (.inr ⟨a,rfl,h⟩)) (fun _=>none) (fun _=>none) (fun _ _ _ _=>none) fun _ _ _=>none
noncomputable def gAll (K:Frag)(G:List (String×V)):Ok (∀ x v,G.lookup x=some v→GlobAt K x v):=List.rec (motive:=fun G=>Ok (∀ x v,G.lookup x=some v→GlobAt K x v)) (ok fun _ _ e=>nomatch e) (fun p r ih=>(gAt K p.1 p.2).to fun h=>ih.to fun h'=>ok fun x v e=>(look_cons (a:=p.1) (S:=p.2) e).elim (fun z=>by rw [z.1,← z.2];exact h) (h' x v)) G
theorem ok_get {P:Prop}{o:Ok P}(h:o.isSome=true):P:=by
 cases o with
 | none=>exact nomatch h
 | some p=>exact p.down
theorem k_g (P:Params):(gAll (KF P) GL).isSome=true:=by kernel_rfl
theorem mem_here {α:Type}{a b:α}{l:List α}{R:α→Prop}(h:b∈a::l)(k:R a)(r:b∈l→R b):R b:=by
 rcases List.mem_cons.mp h with rfl | h
 ·exact k
 ·exact r h
theorem gnd (P:Params):Ground (KF P) GL:=⟨ok_get (k_g P),
 fun x v h=>mem_here (b:=(x,v)) (R:=fun p=>nsIn (KF P) mainGlobals (Str.ofString p.1)=some none∧bootBuiltins (Str.ofString p.1)=some p.2) h ⟨by kernel_rfl,by kernel_rfl⟩ fun h=>mem_here (b:=(x,v)) (R:=fun p=>nsIn (KF P) mainGlobals (Str.ofString p.1)=some none∧bootBuiltins (Str.ofString p.1)=some p.2) h ⟨by kernel_rfl,by kernel_rfl⟩ fun h =>
  mem_here (b:=(x,v)) (R:=fun p=>nsIn (KF P) mainGlobals (Str.ofString p.1)=some none∧bootBuiltins (Str.ofString p.1)=some p.2) h ⟨by kernel_rfl,by kernel_rfl⟩ fun h=>mem_here (b:=(x,v)) (R:=fun p=>nsIn (KF P) mainGlobals (Str.ofString p.1)=some none∧bootBuiltins (Str.ofString p.1)=some p.2) h ⟨by kernel_rfl,by kernel_rfl⟩ fun h =>
  mem_here (b:=(x,v)) (R:=fun p=>nsIn (KF P) mainGlobals (Str.ofString p.1)=some none∧bootBuiltins (Str.ofString p.1)=some p.2) h ⟨by kernel_rfl,by kernel_rfl⟩ fun h=>absurd h List.not_mem_nil,
 fun n h=>mem_here (R:=fun n=>plainGet (KF P) clsMont (Str.ofString n)=true∧hasDictIn (KF P) clsMont=true∧findIn (KF P) (.ref clsMont) (Str.ofString n)=some none) h ⟨by kernel_rfl,by kernel_rfl,by kernel_rfl⟩ fun h=>mem_here (R:=fun n=>plainGet (KF P) clsMont (Str.ofString n)=true∧hasDictIn (KF P) clsMont=true∧findIn (KF P) (.ref clsMont) (Str.ofString n)=some none) h ⟨by kernel_rfl,by kernel_rfl,by kernel_rfl⟩ fun h =>
  mem_here (R:=fun n=>plainGet (KF P) clsMont (Str.ofString n)=true∧hasDictIn (KF P) clsMont=true∧findIn (KF P) (.ref clsMont) (Str.ofString n)=some none) h ⟨by kernel_rfl,by kernel_rfl,by kernel_rfl⟩ fun h=>mem_here (R:=fun n=>plainGet (KF P) clsMont (Str.ofString n)=true∧hasDictIn (KF P) clsMont=true∧findIn (KF P) (.ref clsMont) (Str.ofString n)=some none) h ⟨by kernel_rfl,by kernel_rfl,by kernel_rfl⟩ fun h=>absurd h List.not_mem_nil⟩
end
section
noncomputable abbrev KP (w:World):Frag:=KF w.params
noncomputable def initNames:List String:=["modulus","minus","one","square"]
noncomputable abbrev selfS:Str:=Str.ofString "self"
noncomputable def chkSets (ns:List Str):List Stmt→Prop:=List.rec (motive:=fun _=>List Stmt→Prop) (fun b=>b=[]) (fun n _ r b=>∃ p1 p2 p3 pos b',b=.Assign [.Attribute (.Name selfS p1) n p2] (.Name n p3) pos::b'∧r b') ns
theorem sets_mk {n:Str}{ns:List Str}{p1 p2 p3 pos:Pos}{r:List Stmt}(h:chkSets ns r):chkSets (n::ns) (.Assign [.Attribute (.Name selfS p1) n p2] (.Name n p3) pos::r):=⟨_,_,_,_,_,rfl,h⟩
theorem k_init (P:Params):∃ (fd:FuncData) (body:List Stmt),(KF P).lookup 189=some ⟨.type "function",none,.func fd,#[]⟩∧fd.body=.stmts body∧chkHead (KF P) fd (selfS::vN initNames) []=true∧parOkB fd (selfS::vN initNames)=true∧chkSets (vN initNames) body :=
 ⟨{ hfd 3 (hz "gmp.reduce" 429) (.ref 188) (hmd 23 0) with qualname:=.ofString "Montgomery.__init__" },_,by kernel_rfl,rfl,by kernel_rfl,by kernel_rfl,sets_mk (sets_mk (sets_mk (sets_mk rfl)))⟩
theorem k_makes (P:Params):makesIn (KF P) 192=true:=by kernel_rfl
theorem k_find (P:Params):findIn (KF P) (.ref 192) "__init__" = some (some (.ref 189)):=by kernel_rfl
theorem k_fn (P:Params):typeIn (KF P) (.ref 189)=some (.type "function"):=by kernel_rfl
theorem k_sa (P:Params):findIn (KF P) (.ref 192) "__setattr__" = some (some (.builtin "object.__setattr__")):=by kernel_rfl
theorem k_po (P:Params):plainOver (KF P) 192=true:=by kernel_rfl
theorem k_hd (P:Params):hasDictIn (KF P) 192=true:=by kernel_rfl
theorem k_tk (P:Params):takerIn (KF P) 192 (Str.ofString "modulus")=some none∧takerIn (KF P) 192 (Str.ofString "minus")=some none∧takerIn (KF P) 192 (Str.ofString "one")=some none∧takerIn (KF P) 192 (Str.ofString "square")=some none:=⟨by kernel_rfl,by kernel_rfl,by kernel_rfl,by kernel_rfl⟩
section
variable {w:World}{A:Around}
noncomputable abbrev ent (w:World)(n:String)(t:Tok)(v:Value):DictEntry:=⟨PyData.keyHash w.params (Str.ofString n),.str (Str.ofString n) t,v⟩
theorem set_step {c:Cx}{hh:Heap}{s:Shared}{m:Str→Option Value}{x dx:Addr}{es:List DictEntry}{n:Nat}{v:Value}{nme:String}{p1 p2 p3 pos:Pos}{Q:Flow→Shared→Prop}
  (nd:(Str.ofString nme == ("__debug__" : Str))=false) (tk:takerIn (KP w) 192 (Str.ofString nme)=some none) (hk:c.env.scope.kind=.function) (F:Fr hh c.L s.heap m) (N:News hh c.L s.heap [(x,instObj 192 dx),(dx,dictOf es n)]) (X:(KP w).In hh)
  (l1:c.env.kindOf selfS=some .local) (m1:m selfS=some (.ref x)) (l2:c.env.kindOf (Str.ofString nme)=some .local) (m2:m (Str.ofString nme)=some v) (ne:dx≠x)
  (hl:(getL (Str.ofString nme) es).isSome=true) (hz:(putL (Str.ofString nme) (PyData.keyHash w.params (Str.ofString nme)) (.str (Str.ofString nme) (s.toks+1)) v es).length≤1000)
  (q:∀ h' ,Fr hh c.L h' m→News hh c.L h' [(x,instObj 192 dx),(dx,dictOf (putL (Str.ofString nme) (PyData.keyHash w.params (Str.ofString nme)) (.str (Str.ofString nme) (s.toks+1)) v es) (putN (Str.ofString nme) es n))]→Q .next { s with heap:=h',toks:=s.toks+2 }) :
  wpAny (model PG w) A (exec (.Assign [.Attribute (.Name selfS p1) (Str.ofString nme) p2] (.Name (Str.ofString nme) p3) pos) c.env) Q Ed s:=by
 refine plainObj_wpAny_Assign_Attribute ?_ rfl
 refine name_at hk F.ns (.inl ⟨l2,m2⟩) nd ?_
 refine name_at hk F.ns (.inl ⟨l1,m1⟩) rfl ?_
 have I:InstAt s.heap x (instObj 192 dx) 192 (some (dictOf es n)):=⟨(N _ (.head _)).1,rfl,rfl,(N _ (.tail _ (.head _))).1⟩
 exact set_dict (K:=KP w) F X N I rfl (k_sa _) (k_po _) tk (k_hd _) hl rfl (.tail (Ne.symm ne) (.head fun _ z=>(nomatch z))) hz q
noncomputable def montS:Spec:={ X:=V×V×V×V,enc:=fun x=>[x.1,x.2.1,x.2.2.1,x.2.2.2],pre:=fun _=>True,post:=fun x r=>r=.mont x.1 x.2.1 x.2.2.1 x.2.2.2 }
theorem init_run {c:Cx}{hh:Heap}{s:Shared}{m:Str→Option Value}{x dx:Addr}{va vb vc vd:Value}{body:List Stmt}(hb:chkSets (vN initNames) body)(hk:c.env.scope.kind=.function)(F:Fr hh c.L s.heap m)(N:News hh c.L s.heap [(x,instObj 192 dx),(dx,dictOf [] 0)])(X:(KP w).In hh)(ne:dx≠x)
  (kd:∀ (i:Nat) (x:Str),(selfS::vN initNames)[i]?=some x→c.env.kindOf x=some .local) (lk:∀ (i:Nat) (n:Str) (y:Value),(selfS::vN initNames)[i]?=some n→[Value.ref x,va,vb,vc,vd][i]?=some y→m n=some y) {Q:Flow→Shared→Prop}
  (q:∀ h' tk t1 t2 t3 t4,Fr hh c.L h' m→News hh c.L h' [(x,instObj 192 dx),(dx,dictOf [ent w "modulus" t1 va,ent w "minus" t2 vb,ent w "one" t3 vc,ent w "square" t4 vd] 4)]→Q .next { s with heap:=h',toks:=tk }):wpAny (model PG w) A (execs body c.env) Q Ed s:=by
 refine x5a2 hb fun p1 p2 p3 p4 b1 zq5 zr0=>x5a2 zr0 fun q1 q2 q3 q4 b2 zq11 zr1=>x5a2 zr1 fun r1 r2 r3 r4 b3 zq17 zr2=>x5a2 zr2 fun s1 s2 s3 s4 b4 zq23 zq24=>?_;clear hb;subst zq5;subst zq11;subst zq17;subst zq23;subst zq24
 refine an4 (k_tk w.params) fun K1 K2 K3 K4=>?_
 refine wpAny_execs_cons (set_step (c:=c) (nme := "modulus") rfl K1 hk F N X (kd 0 _ rfl) (lk 0 _ _ rfl rfl) (kd 1 _ rfl) (lk 1 _ _ rfl rfl) ne rfl (Nat.le_of_ble_eq_true rfl) fun h2 F2 N2=>?_)
 refine wpAny_execs_cons (set_step (c:=c) (nme := "minus") rfl K2 hk F2 N2 X (kd 0 _ rfl) (lk 0 _ _ rfl rfl) (kd 2 _ rfl) (lk 2 _ _ rfl rfl) ne rfl (Nat.le_of_ble_eq_true rfl) fun h3 F3 N3=>?_)
 refine wpAny_execs_cons (set_step (c:=c) (nme := "one") rfl K3 hk F3 N3 X (kd 0 _ rfl) (lk 0 _ _ rfl rfl) (kd 3 _ rfl) (lk 3 _ _ rfl rfl) ne rfl (Nat.le_of_ble_eq_true rfl) fun h4 F4 N4=>?_)
 refine wpAny_execs_cons (set_step (c:=c) (nme := "square") rfl K4 hk F4 N4 X (kd 0 _ rfl) (lk 0 _ _ rfl rfl) (kd 4 _ rfl) (lk 4 _ _ rfl rfl) ne rfl (Nat.le_of_ble_eq_true rfl) fun h5 F5 N5=>?_)
 exact wpAny_execs_nil (q _ _ _ _ _ _ F5 N5)
theorem meets_mont (w:World):MtV w (KP w) 3 (.ref 192) montS.use:=by
 intro g0 gr A s fl f args vals k hd hu hp gi flt ht rf ra hU
 cases rf.ref_inv
 obtain ⟨⟨a,b,c,d⟩,rfl,-,hk⟩:=hU
 obtain ⟨va,x1,rfl,ra1,ra⟩:=VRs.cons_inv ra
 obtain ⟨vb,x2,rfl,ra2,ra⟩:=VRs.cons_inv ra
 obtain ⟨vc,x3,rfl,ra3,ra⟩:=VRs.cons_inv ra
 obtain ⟨vd,x4,rfl,ra4,ra⟩:=VRs.cons_inv ra
 cases ra.nil_inv
 have X:(KP w).In s.heap:=gr.X.keeps gi.1
 have hlim:s.heap.NoLimit:=by refine x5a1 gr.T fun p loose mean mg mb T=>?_;exact T.nolimit.keeps gi.1
 refine x2a5 (k_init w.params) fun fd body ho hb K1 hs K5=>?_
 obtain ⟨D,nd⟩:=head_of ⟨_,_,_,ho⟩ K1 hb
 have hl:∀ x∈selfS::vN initNames,fd.scope.names.lookup x=some .local:=fun x hx=>eq_of_beq (List.all_eq_true.mp hs x hx)
 obtain ⟨hh,gg,dd,tt,os⟩:=s
 have un:(A.under (.builtin "type.__call__" ⟨.ref 192::[va,vb,vc,vd],[]⟩)).depth≤A.depth+1:=by
  show A.depth+Code.weight _≤_
  have:Code.weight (.builtin "type.__call__" ⟨.ref 192::[va,vb,vc,vd],[]⟩)≤1:=by
   first | decide | (show (0:Nat)≤1;decide) | (show (1:Nat)≤1;decide)
  exact F1 [_,_] [] 308512045492670688 this
 refine wpAny_call (make_core (makes_of X (k_makes _)) (looks_findIn X (k_find _)) (fun self=>bind_fn X self (k_fn _)) (.inl rfl) ?_)
 have kx:∀ b o,hh.get? b=some o→((hh.push emptyDict).push (instObj 192 hh.objs.size)).get? b=some o:=fun b o e=>Heap.get?_push_of_some _ (Heap.get?_push_of_some _ e)
 have hx:((hh.push emptyDict).push (instObj 192 hh.objs.size)).get? (hh.objs.size+1)=some (instObj 192 hh.objs.size):=by
  have:=Heap.get?_push_size (hh.push emptyDict) (o:=instObj 192 hh.objs.size) rfl
  rwa [Heap.size_push] at this
 have hdx:((hh.push emptyDict).push (instObj 192 hh.objs.size)).get? hh.objs.size=some (dictOf [] 0):=Heap.get?_push_of_some _ (Heap.get?_push_size _ rfl)
 have z1:((hh.push emptyDict).push (instObj 192 hh.objs.size)).objs.size=hh.objs.size+2:=by rw [Heap.size_push,Heap.size_push]
 generalize ((hh.push emptyDict).push (instObj 192 hh.objs.size))=h1 at kx hx hdx z1 ⊢
 refine codeAny_call_cells (by exact F2 [_,_,_] [] 358598988753057958160513120 hp un) (kx _ _ (X _ _ ho)) rfl (hlim.keeps kx) (codeRec_of (X.keeps kx) D.cd) hb (D.bd _ rfl) D.cl (fun y hy=>.inl (hl _ (List.of_mem_zip hy).1)) (fun s₁ I=>?_) D.co D.ge D.kf
 refine x2a1 I.toInCall.same fun h₀ tk₀ zq2=>?_;subst zq2
 have kp:=I.toInCall.keep
 have N:=I.toInCall.ns
 refine wpAny_mono (init_run (w:=w) (c:=⟨callEnvC fd h1.objs.size 189,[],g0⟩) (hh:=hh) (x:=hh.objs.size+1) (dx:=hh.objs.size) (va:=va) (vb:=vb) (vc:=vc) (vd:=vd) (Q:=fun f s'=>f=.next∧∃ h5 tk t1 t2 t3 t4,s'={ heap:=h5,gens:=gg,drawn:=dd,toks:=tk,os:=os }∧(∀ b o,hh.get? b=some o→h5.get? b=some o) ∧
   h5.get? (hh.objs.size+1)=some (instObj 192 hh.objs.size)∧h5.get? hh.objs.size=some (dictOf [ent w "modulus" t1 va,ent w "minus" t2 vb,ent w "one" t3 vc,ent w "square" t4 vd] 4)) K5 D.kf ⟨N,fun b o e=>kp b o (kx b o e),by show hh.objs.size≤h1.objs.size;exact F1 [_,_] [] 77001585084512 z1⟩ (fun p hp=>?_) X (by exact F0 [_] [] 27181201440)
  (fun i x e=>hl x (List.mem_of_getElem? e)) (fun i x y e1 e2=>bindL_at (hl x (List.mem_of_getElem? e1)) (List.nodup_append.mp nd).1 e1 e2) fun h5 tk t1 t2 t3 t4 F5 N5=>⟨rfl,h5,tk,t1,t2,t3,t4,rfl,F5.keep,(N5 _ (.head _)).1,(N5 _ (.tail _ (.head _))).1⟩) (fun f s' p=>?_) fun _ _ z=>z.elim
 ·rcases List.mem_cons.mp hp with rfl | hp
  ·exact ⟨kp _ _ hx,by show hh.objs.size+1≠h1.objs.size;exact F1 [_,_] [] 29192368210917214304 z1,Heap.get?_none_of_le (Nat.le_succ _)⟩
  ·cases List.mem_singleton.mp hp
   exact ⟨kp _ _ hdx,by show hh.objs.size≠h1.objs.size;exact F1 [_,_] [] 7127070142384224 z1,dead_size _⟩
 ·refine an2 p fun zq0 zr0=>x5a1 zr0 fun h5 tk t1 t2 t3 zr1=>x1a4 zr1 fun t4 zq7 k5 e1 e2=>?_;clear p zr1 zr0;subst zq0;subst zq7
  refine ⟨rfl,.mont a b c d,hk _ rfl,⟨h5,tk,rfl⟩,.of k5,gi.keep fun b o e _=>k5 b o e,?_⟩
  have nf:∀ b,hh.get? b=none→¬fl b:=fun b e z=>by refine x1a2 (flt b z) fun o z _=>?_;rw [e] at z;cases z
  have le:Le (vis hh fl) (vis h5 fl):=fun b o z=>⟨z.1,k5 b o z.2⟩
  exact ⟨_,va,vb,vc,vd,rfl,⟨_,_,_,⟨nf _ (Heap.get?_none_of_le (Nat.le_succ _)),e1⟩,⟨nf _ (dead_size _),e2⟩,rfl,rfl,rfl,rfl⟩,ra1.mono le,ra2.mono le,ra3.mono le,ra4.mono le⟩
end
end
section
noncomputable abbrev toldS:Str:=Str.ofString "told"
noncomputable abbrev wS:Str:=Str.ofString "w"
noncomputable abbrev mulS:Str:=Str.ofString "mul"
noncomputable def timesStmts:List Stmt:=((defIn PG.main.body "mont_times").map fun q=>q.2.1).getD []
noncomputable def timesRet:Stmt:=timesStmts[1]?.getD (.Pass ⟨0,0,0,0⟩)
noncomputable def c_times:C:=.seq (.ret (.loc 3)) .skip
noncomputable def c_mul:C:=.seq (.ret (.call (.glo "mont_mul" (.ref 252)) (.cons (.loc 0) (.cons (.loc 1) (.cons (.loc 2) (.cons (.loc 3) (.cons (.loc 4) .nil))))))) .skip
noncomputable def fdAt (K:Frag)(a:Addr):FuncData:=Option.casesOn (K.lookup a) default fun o=>if h:o.data.ctorIdx=7 then Data.func.elim (motive:=fun _=>FuncData) o.data h id else default
structure TimesHd (K:Frag) (fd:FuncData):Prop where
 lk:K.lookup 280=some ⟨.type "function",none,.func fd,#[]⟩
 bo:fd.body=.stmts [.FunctionDef (Str.ofString "multiplied") mulDef.1 mulDef.2.1 [] none [] mulDef.2.2.1 none (Str.ofString "multiplied") mulDef.2.2.2,timesRet]
 hd:chkHead K fd (vN ["told","w","mul"]) (vN ["multiplied"])=true
 ck:chkB ⟨fd.scope,vN ["told","w","mul","multiplied"],GL⟩ c_times [timesRet]=true
 cd:fd.code=.ref 279
 qn:fd.qualname=Str.ofString "mont_times"
 nm:fd.scope.names.lookup (Str.ofString "multiplied")=some .local
 c1:fd.scope.names.lookup toldS=some .cell
 c2:fd.scope.names.lookup wS=some .cell
 c3:fd.scope.names.lookup mulS=some .cell
theorem k_times (P:Params):TimesHd (KF P) (fdAt (KF P) 280):=⟨by kernel_rfl,by kernel_rfl,by kernel_rfl,by kernel_rfl,by kernel_rfl,by kernel_rfl,by kernel_rfl,by kernel_rfl,by kernel_rfl,by kernel_rfl⟩
theorem k_mul_names:mulDef.2.2.1.names=[(Str.ofString "x",.local),(Str.ofString "y",.local),(mulS,.free),(toldS,.free),(wS,.free),(Str.ofString "mont_mul",.globalImplicit)]:=by kernel_rfl
theorem k_mul_chk:chkB ⟨mulDef.2.2.1,vN ["x","y","told","w","mul"],GL⟩ c_mul mulDef.2.1=true:=by kernel_rfl
theorem k_mul_sc:mulDef.2.2.1.kind=.function∧mulDef.2.2.1.isCoroutine=false∧mulDef.2.2.1.isGenerator=false:=⟨by kernel_rfl,by kernel_rfl,by kernel_rfl⟩
theorem k_mul_ps:mulDef.1.posonlyargs=[]∧mulDef.1.kwonlyargs=[]∧mulDef.1.vararg=none∧mulDef.1.kwarg=none∧mulDef.1.args.map (·.arg)=vN ["x","y"]∧mulDef.1.defaults=[]∧mulDef.1.kw_defaults=[] :=
 ⟨by kernel_rfl,by kernel_rfl,by kernel_rfl,by kernel_rfl,by kernel_rfl,by kernel_rfl,by kernel_rfl⟩
theorem k_mul_ann (env:Env):annTrees mulDef.1 none env=[]:=by kernel_rfl
theorem k_mul_qual:Str.ofString "mont_times" ++ (".<locals>." : Str)++Str.ofString "multiplied" = mulQual:=by kernel_rfl
theorem clos_mul {env:Env}{c1 c2 c3:Addr}(h1:env.cells.lookup toldS=some c1)(h2:env.cells.lookup wS=some c2)(h3:env.cells.lookup mulS=some c3):closureFor mulDef.2.2.1 env=pure [(wS,c2),(toldS,c1),(mulS,c3)]:=by
 unfold closureFor
 rw [k_mul_names]
 have e1:cellOf env toldS=pure c1:=by unfold cellOf;rw [h1]
 have e2:cellOf env wS=pure c2:=by unfold cellOf;rw [h2]
 have e3:cellOf env mulS=pure c3:=by unfold cellOf;rw [h3]
 simp [e1,e2,e3]
noncomputable def timesS:Spec:={ X:=V×V×V,enc:=fun x=>[x.1,x.2.1,x.2.2],pre:=fun _=>True,post:=fun x r=>r=.clo x.1 x.2.1 x.2.2 }
theorem cellsFrom_ge {lo:Nat}{x:Str}{c:Addr}{names:List (Str×NameKind)}:∀ {n:Nat} {acc:List (Str×Addr)},lo≤n→(∀ y d,acc.lookup y=some d→lo≤d)→(cellsFrom n names acc).lookup x=some c→lo≤c:=by
 induction names with
 | nil=>exact fun _ h e=>h _ _ e
 | cons q r ih =>
  intro n acc hn h e
  unfold cellsFrom at e
  split at e
  ·exact ih (Nat.le_succ_of_le hn) (fun z d q=>(look_cons q).elim (fun y=>y.2▸hn) (h z d)) e
  ·exact ih hn h e
section
variable {w:World}{A:Around}{s:Shared}{c:Cx}{fl:Addr→Prop}{σ:Sg}{oa:Nat→Addr}{t v m:V}
theorem cell_of (S:St c fl σ oa s.heap){i:Nat}{x:Str}{u:V}(hx:c.vars[i]?=some x)(e:σ[i]?=some (.val u))(hc:c.env.kindOf x=some .cell)(nh:∀ ca,c.env.cells.lookup x=some ca→ca≠tabA→¬Hid c.L fl σ oa ca) :
  ∃ ca y,c.env.cells.lookup x=some ca∧CellAt (vz c fl σ oa s.heap) ca y∧VR (vz c fl σ oa s.heap) u y:=by
 refine x1a2 S.ns fun mm N B=>?_
 refine x1a2 (B i x _ hx e) fun y n r=>?_
 rcases n with ⟨n,_⟩ | ⟨_,ca,o,n1,n2,n3⟩
 ·rw [hc] at n;cases n
 ·exact ⟨ca,y,n1,⟨o,⟨nh ca n1 (fun z=>by obtain ⟨ps,q⟩:=S.gi.tab;rw [z,q] at n2;cases n2;cases n3),n2⟩,n3⟩,r⟩
noncomputable abbrev cls3 (c1 c2 c3:Addr):List (Str×Addr):=[(wS,c2),(toldS,c1),(mulS,c3)]
theorem times_end (C:Cs ⟨(fdAt (KP w) 280).scope,vN ["told","w","mul","multiplied"],GL⟩ w A ⟨[],[],none⟩ (KP w) 0 c)(hk:c.env.kindOf (Str.ofString "multiplied")=some .local){c1 c2 c3:Addr}{y1 y2 y3:Value}{o':Nat→Addr}
  (S:St c fl [.val t,.val v,.val m,.un] oa s.heap) (a1:CellAt (vz c fl [.val t,.val v,.val m,.un] oa s.heap) c1 y1) (a2:CellAt (vz c fl [.val t,.val v,.val m,.un] oa s.heap) c2 y2) (a3:CellAt (vz c fl [.val t,.val v,.val m,.un] oa s.heap) c3 y3)
  (b1:VR (vz c fl [.val t,.val v,.val m,.un] oa s.heap) t y1) (b2:VR (vz c fl [.val t,.val v,.val m,.un] oa s.heap) v y2) (b3:VR (vz c fl [.val t,.val v,.val m,.un] oa s.heap) m y3)
  {h':Heap} {tk:Tok} {c':Addr} {doc pm ctv:Value} (X:Ext s.heap h') (G2:GI c.g0 h') (CR:h'.CodeRec (.ref c') mulQual) (nh:¬Hid c.L fl [.val t,.val v,.val m,.un] oa c') {Q:Value→Shared→Prop}
  (q:∀ r s' σ' oa',Go c fl [.val t,.val v,.val m,.un] oa s σ' oa' s'→VR (vz c fl σ' oa' s'.heap) (.clo t v m) r→Q r s') :
  wpAny (model PG w) A (storeName c.env (Str.ofString "multiplied") (.ref h'.objs.size)) (fun _ s''=>wpAny (model PG w) A (execs [timesRet] c.env) (fun f s'=>Q (outV f) s') Ed s'') Ed
   { s with heap:=h'.push (fnMade (Str.ofString "multiplied") mulQual mulDef.1 mulDef.2.1 mulDef.2.2.1 (cls3 c1 c2 c3) doc pm c' ctv),toks:=tk }:=by
 have S2:=S.ext0 X G2
 have kH:∀ b o,h'.get? b=some o→(h'.push (fnMade (Str.ofString "multiplied") mulQual mulDef.1 mulDef.2.1 mulDef.2.2.1 (cls3 c1 c2 c3) doc pm c' ctv)).get? b=some o:=fun b o e=>Heap.get?_push_of_some _ e
 have fH:(h'.push (fnMade (Str.ofString "multiplied") mulQual mulDef.1 mulDef.2.1 mulDef.2.2.1 (cls3 c1 c2 c3) doc pm c' ctv)).get? h'.objs.size=some (fnMade (Str.ofString "multiplied") mulQual mulDef.1 mulDef.2.1 mulDef.2.2.1 (cls3 c1 c2 c3) doc pm c' ctv):=Heap.get?_push_size _ rfl
 have S3:=S2.push (fnMade (Str.ofString "multiplied") mulQual mulDef.1 mulDef.2.1 mulDef.2.2.1 (cls3 c1 c2 c3) doc pm c' ctv)
 generalize h'.push (fnMade (Str.ofString "multiplied") mulQual mulDef.1 mulDef.2.1 mulDef.2.2.1 (cls3 c1 c2 c3) doc pm c' ctv)=H at S3 kH fH ⊢
 have XH:Ext s.heap H:=X.trans (.of kH)
 have g:Go c fl [.val t,.val v,.val m,.un] oa s [.val t,.val v,.val m,.un] oa { s with heap:=H,toks:=tk }:=⟨.mk _ _ _,S3,XH.ev⟩
 have lv:=g.le
 refine x4a4 CR fun c0 oc0 vs0 t0 q1 q2 q3 q4=>?_;clear CR
 cases q1
 have hv:VR (vz c fl [.val t,.val v,.val m,.un] oa H) (.clo t v m) (.ref h'.objs.size) :=
  ⟨_,y1,y2,y3,rfl,⟨cls3 c1 c2 c3,doc,pm,_,ctv,⟨fun z=>dead_ne (dead_size h') (S2.hlive _ z) rfl,fH⟩,⟨oc0,vs0,t0,⟨nh,kH _ _ q2⟩,q3,q4⟩,⟨c1,rfl,a1.mono lv⟩,⟨c2,rfl,a2.mono lv⟩,⟨c3,rfl,a3.mono lv⟩⟩,b1.mono lv,b2.mono lv,b3.mono lv⟩
 refine x1a2 S3.ns fun m3 N3 _=>?_
 refine store_rule (c:=c) hk C.L.kind N3 fun h5 N5 sb=>?_
 obtain ⟨S5,E5⟩:=S3.store (i:=3) C.nd (by rw [C.L.vars];rfl) hk N3 hv N5 sb
 have g5:=g.trans (⟨.mk _ h5 (tk+1),S5,E5⟩:Go c fl _ oa { s with heap:=H,toks:=tk } _ oa { s with heap:=h5,toks:=tk+1 })
 refine wpAny_mono ((chkB_good _ (k_times w.params).ck).sb C fl _ _ { s with heap:=h5,toks:=tk+1 } (fun F _=>retV F fun r=>r=.clo t v m) S5 (rfl:V.clo t v m=.clo t v m)) (fun f s' p=>?_) fun _ _ z=>z
 refine x3a3 p fun F σ' oa' qq r g'=>?_;clear p
 refine x1a2 (ends r qq) fun rr zq1 rv=>?_;subst zq1
 exact q _ _ _ _ (g5.trans g') rv
theorem meets_times (w:World):MtV w (KP w) 1 (.ref 280) timesS.use:=by
 intro g0 gr A s fl f args vals k hd hu hp gi flt ht rf ra hU
 cases rf.ref_inv
 obtain ⟨⟨t,v,m⟩,rfl,-,hk⟩:=hU
 have T:=k_times w.params
 generalize hfd:fdAt (KF w.params) 280=fd at T
 obtain ⟨D,nd⟩:=head_of ⟨_,_,_,T.lk⟩ T.hd T.bo
 have k2:∀ x∈vN ["told","w","mul"],fd.scope.names.lookup x=some .local∨fd.scope.names.lookup x=some .cell:=fun x h=>.inr (mem_here (R:=fun x=>fd.scope.names.lookup x=some .cell) h T.c1 fun h=>mem_here (R:=fun x=>fd.scope.names.lookup x=some .cell) h T.c2 fun h=>mem_here (R:=fun x=>fd.scope.names.lookup x=some .cell) h T.c3 fun h=>absurd h List.not_mem_nil)
 have ra:VRs (vis s.heap fl) [t,v,m] vals:=ra
 have no:∀ {i:Nat} {sl:Slot},([t,v,m].map Slot.val)[i]?=some sl→∃ u,[t,v,m][i]?=some u∧sl=.val u:=map_val
 refine enter (oa:=fun _=>0) (sl:=[t,v,m].map .val) D gr k2 nd rfl (by rw [← ra.length];rfl) (by exact F1 [_,_] [] 81467250344160 hp) gi flt ht (fun i l e=>?_) (fun i l e=>?_) (fun i v e=>?_) (fun i l e=>?_) fun c s₁ e1 e2 e3 fr kp dL S1=>?_
 ·refine x1a2 (no e) fun v _ z=>?_;cases z
 ·refine x1a2 (no e) fun v _ z=>?_;cases z
 ·refine x1a2 (no e) fun u z y=>?_;cases y;exact ra.get z
 ·refine x1a2 (no e) fun v _ z=>?_;cases z
 have S1:St c fl [.val t,.val v,.val m,.un] (fun _=>0) s₁.heap:=S1
 have noO:∀ b,¬OwnA [.val t,.val v,.val m,.un] (fun _=>0) b:=fun b z=>by
  refine x2a2 z fun i l z _=>?_
  rcases z with z | z <;> (rcases rest_at (l:=[t,v,m].map .val) (n:=1) z with y | y;cases y;refine x1a2 (no y) fun v _ z=>?_;cases z)
 have hkd:∀ x,c.env.kindOf x=fd.scope.names.lookup x:=fun x=>by rw [e3];rfl
 have hL:c.L=s.heap.objs.size:=by show c.env.locals=_;rw [e3];rfl
 have C:Cs ⟨(fdAt (KP w) 280).scope,vN ["told","w","mul","multiplied"],GL⟩ w (A.deeper c.env) ⟨[],[],none⟩ (KP w) 0 c:=⟨⟨by rw [e3];exact congrArg FuncData.scope hfd.symm,e2,by rw [e3];exact D.kf⟩,Rn.at_ (gnd w.params) (Wd.nil _ _ _) D gr e1 e3 hd hu hp,by rw [e2];exact nd⟩
 have nh:∀ x ca,c.env.cells.lookup x=some ca→ca≠tabA→¬Hid c.L fl [.val t,.val v,.val m,.un] (fun _=>0) ca:=fun x ca h1 hT z=>by
  have hge:s.heap.objs.size+1≤ca:=cellsFrom_ge (Nat.le_refl _) (fun _ _ q=>by cases q) (show (cellsFrom (s.heap.objs.size+1) fd.scope.names []).lookup x=some ca by rw [e3] at h1;exact h1)
  rcases z with z | z | z | z
  ·rw [hL] at z;rw [z] at hge;exact absurd hge (Nat.not_succ_le_self _)
  ·exact hT z
  ·exact noO _ z
  ·refine x1a2 (flt _ z) fun o q _=>?_;rw [Heap.get?_none_of_le (Nat.le_of_succ_le hge)] at q;cases q
 refine x2a3 (cell_of S1 (i:=0) (x:=toldS) (by rw [e2];rfl) rfl (by rw [hkd];exact T.c1) (nh _)) fun c1 y1 l1 a1 b1=>?_
 refine x2a3 (cell_of S1 (i:=1) (x:=wS) (by rw [e2];rfl) rfl (by rw [hkd];exact T.c2) (nh _)) fun c2 y2 l2 a2 b2=>?_
 refine x2a3 (cell_of S1 (i:=2) (x:=mulS) (by rw [e2];rfl) rfl (by rw [hkd];exact T.c3) (nh _)) fun c3 y3 l3 a3 b3=>?_
 have hcl:=clos_mul (env:=c.env) l1 l2 l3
 have kml:c.env.kindOf (Str.ofString "multiplied")=some .local:=by rw [hkd];exact T.nm
 have hq:qualnameIn c.env (Str.ofString "multiplied") (Str.ofString "multiplied")=mulQual:=by
  unfold qualnameIn
  rw [kml]
  show c.env.qual++_=_
  rw [e3]
  show fd.qualname++(".<locals>." : Str)++_=_
  rw [T.qn]
  exact k_mul_qual
 have hcode:c.env.code=.ref 279:=by rw [e3];exact T.cd
 have e4:c.env.globals=mainGlobals:=by rw [e3];exact D.gl
 refine x5a1 gr.T fun p loose mean mg mb TT=>?_
 have hg:s₁.heap.Ns mainGlobals mg:=TT.g.keeps (fun b o e=>S1.gi.1 b o (e1▸e))
 refine x2a6 TT.bmain fun bm ob z1 z2 z3 z4 z5 z6=>?_
 have hbP:bm≠tabA:=fun q=>by rw [q,gr.tab] at z3;cases z3
 have hbG:bm≠mainGlobals:=fun q=>by
  refine x3a3 TT.g fun o es ep e hd _=>?_
  rw [q,e] at z3;cases z3;rw [hd] at z6;cases z6
 have BA:s₁.heap.BuiltinsAt mg tabA:=⟨bm,ob,z1,z2,hbG,hbP,S1.gi.1 _ _ (e1▸z3),z4,z5,z6⟩
 have CH:CodeHd s₁.heap 279 tabA:=gr.C.keeps fun b o e=>S1.gi.1 _ _ (e1▸e)
 have Qe:∀ r s' σ' oa',Go c fl [.val t,.val v,.val m,.un] (fun _=>0) s₁ σ' oa' s'→VR (vz c fl σ' oa' s'.heap) (.clo t v m) r→∃ v,k v∧Frm s s'∧Ext s.heap s'.heap∧GI g0 s'.heap∧VR (vis s'.heap fl) v r:=fun r s' σ' oa' g rv=>by
  refine an4 (go_ext fr kp dL noO g) fun y1 y2 y3 y4=>?_
  exact ⟨_,hk _ rfl,y1,y2,e1▸y3,rv.mono y4⟩
 generalize (fun r s'=>∃ v,k v∧Frm s s'∧Ext s.heap s'.heap∧GI g0 s'.heap∧VR (vis s'.heap fl) v r)=Q at Qe ⊢
 refine an2 S1.gi fun gk zr0=>x1a2 zr0 fun ps hP TO=>?_;clear zr0
 refine wpAny_execs_cons (nestDef_K k_mul_ps.2.2.2.2.2.1 k_mul_ps.2.2.2.2.2.2 (k_mul_ann _) ?_)
 rw [hq]
 rcases TO with rfl | ⟨c',ne,rfl,CR⟩
 ·refine makeFunction_K hcl e4 hg hcode CH hP trivial rfl (by decide) BA fun c' ctv doc h' tk hx hge hlt hrec htb=>?_
  have X:Ext s₁.heap h':=⟨fun b o e z=>hx b o z e,fun _=>⟨_,htb⟩,fun ps e=>⟨_,htb,.inr ⟨by rw [hP] at e;cases e;rfl,c',rfl,fun b z=>by obtain ⟨o,e⟩:=z;exact Nat.lt_of_lt_of_le (Heap.lt_size e) hge⟩⟩⟩
  have cne:c'≠tabA:=fun z=>absurd (Heap.lt_size hP) (Nat.not_lt.mpr (z▸hge))
  exact times_end (o':=fun _=>0) C kml S1 a1 a2 a3 b1 b2 b3 X ⟨fun b o e=>hx b o (fun z=>by rw [z,e1,gr.tab] at e;cases e) (gk b o e),_,htb,.inr ⟨c',cne,rfl,hrec⟩⟩ hrec (fun z=>dead_ne (Heap.get?_none_of_le hge) (S1.hlive _ z) rfl) Qe
 ·refine makeFunction_hit (cv:=.ref c') hcl e4 hg hcode CH hP trivial (by simp [codeAmong,rawInt]) BA fun ctv doc h' tk kk hsz=>?_
  have CR':=CR
  refine x4a4 CR fun c0 oc0 vs0 t0 q1 q2 q3 q4=>?_;clear CR
  cases q1
  exact times_end (o':=fun _=>0) C kml S1 a1 a2 a3 b1 b2 b3 (.of kk) (S1.gi.keep fun b o e _=>kk b o e) ⟨c',oc0,vs0,t0,rfl,kk _ _ q2,q3,q4⟩ (fun z=>by
   refine x1a2 (S1.hliveN _ z) fun o g1 g2=>?_
   rw [q2] at g1;cases g1
   exact g2.elim ne fun g2=>g2 _ _ q3 q4) Qe
noncomputable abbrev cloFn (cl:List (Str×Addr))(doc pm:Value)(c':Addr)(ct:Value):FuncData:=fnX (Str.ofString "multiplied") mulQual mulDef.1 mulDef.2.1 mulDef.2.2.1 cl .none .none doc pm none (.ref c') ct
noncomputable abbrev cloCx (cl:List (Str×Addr))(doc pm:Value)(c':Addr)(ct:Value)(L fa:Addr)(g0:Heap):Cx:=⟨callEnv (cloFn cl doc pm c' ct) L fa,vN ["x","y","told","w","mul"],g0⟩
theorem clo_inv {g:Vis}{x:Value}(h:VR g (.clo t v m) x):∃ a vt vw vm,x=.ref a∧CloAt g a vt vw vm∧VR g t vt∧VR g v vw∧VR g m vm:=h
theorem meets_clo {S:Spec}{d:Nat}(M:MtV w (KP w) d (.ref 252) S.use)(t v q:V):MtV w (KP w) (d+1) (.clo t v q) fun vs k=>vs.length=2∧S.use (vs++[t,v,q]) k:=by
 intro g0 gr A s fl f args vals k hd hu hp gi flt ht rf ra hU
 obtain ⟨hlen,hU⟩:=hU
 refine x2a1 (List.exists_cons_of_length_eq_add_one hlen) fun a as zq2=>?_;subst zq2
 refine x2a1 (List.exists_cons_of_length_eq_add_one (Nat.succ.inj hlen)) fun b as zq2=>?_;subst zq2
 cases List.eq_nil_of_length_eq_zero (Nat.succ.inj (Nat.succ.inj hlen))
 clear hlen
 refine x4a5 (clo_inv rf) fun fa vt vw vm zq4 h r1 r2 r3=>?_;subst zq4
 obtain ⟨cl,doc,pm,c',ct,hf,⟨oc,vs,t0,hc,hcd,hcv⟩,⟨c1,l1,o1,k1,d1⟩,⟨c2,l2,o2,k2,d2⟩,c3,l3,o3,k3,d3⟩:=h.ex
 obtain ⟨va,x1,rfl,ra1,ra⟩:=VRs.cons_inv ra
 obtain ⟨vb,x2,rfl,ra2,ra⟩:=VRs.cons_inv ra
 cases ra.nil_inv
 have hlim:s.heap.NoLimit:=by refine x5a1 gr.T fun p loose mean mg mb T=>?_;exact T.nolimit.keeps gi.1
 have nm:=k_mul_names
 refine an3 k_mul_sc fun hkf hco hge=>?_
 refine an7 k_mul_ps fun q1 q2 q3 q4 q5 q6 q7=>?_
 have nd:(vN ["x","y","told","w","mul"]).Nodup:=of_decide_eq_true (by kernel_rfl)
 have ndp:(vN ["x","y"]).Nodup:=of_decide_eq_true (by kernel_rfl)
 have hb:=bind_simple (fd:=cloFn cl doc pm c' ct) (vals:=[va,vb]) q1 q2 q3 q4 q5 rfl ndp rfl
 have lk:∀ x,x∈vN ["x","y"]→mulDef.2.2.1.names.lookup x=some .local:=fun x hx=>by
  exact mem_here (R:=fun x=>mulDef.2.2.1.names.lookup x=some .local) hx (by rw [nm];rfl) fun hx=>mem_here (R:=fun x=>mulDef.2.2.1.names.lookup x=some .local) hx (by rw [nm];rfl) fun h=>absurd h List.not_mem_nil
 refine wpAny_call (codeAny_call_def (fd:=cloFn cl doc pm c' ct) (by exact F1 [_,_,_] [] 333971333461325920 hp) hf.2 rfl hlim ⟨c',oc,vs,t0,rfl,hc.2,hcd,hcv⟩ rfl (BindsTo.of_eq hb)
  (fun x hx=>?_) (fun y hy=>lk _ (List.of_mem_zip hy).1) (fun h₀ N kp=>?_) hco hge hkf)
 ·have hx:x∈mulDef.2.2.1.names:=hx
  rw [nm] at hx
  exact of_decide_eq_true ((List.all_eq_true (p:=fun x=>decide (x.2≠.cell))).mp (by rfl) x hx)
 have dL:s.heap.get? s.heap.objs.size=none:=dead_size _
 have fr:∀ {x:Str} {ca:Addr} {oca:Obj} {y:Value},cl.lookup x=some ca→mulDef.2.2.1.names.lookup x=some .free→(x == ("__classdict__" : Str))=false→s.heap.get? ca=some oca→oca.data=.cell (some y) →
   NameAt (cloCx cl doc pm c' ct s.heap.objs.size fa g0) h₀ (fun z=>((vN ["x","y"]).zip [va,vb]).reverse.lookup z) x y:=fun h1 h2 h3 h4 h5=>.inr ⟨.inr ⟨h2,h3⟩,_,_,h1,kp _ _ h4,h5⟩
 have vl0:∀ {i:Nat} {sl:Slot},([.val a,.val b,.val t,.val v,.val q]:Sg)[i]?=some sl→∃ u,[a,b,t,v,q][i]?=some u∧sl=.val u:=fun {i sl} e=>map_val (vs:=[a,b,t,v,q]) e
 have St0:St (cloCx cl doc pm c' ct s.heap.objs.size fa g0) fl [.val a,.val b,.val t,.val v,.val q] (fun _=>0) h₀:=by
  refine (St.enter gi flt ht dL kp rfl N (fun le i x sl e1 e2=>?_) (fun i l e=>?_) fun i l e=>?_).1
  ·have nameL:∀ (i:Nat) (x:Str) (y:Value),(vN ["x","y"])[i]?=some x→[va,vb][i]?=some y→NameAt (cloCx cl doc pm c' ct s.heap.objs.size fa g0) h₀ (fun z=>((vN ["x","y"]).zip [va,vb]).reverse.lookup z) x y :=
    fun i x y e1 e2=>.inl ⟨lk _ (List.mem_of_getElem? e1),lookup_zip_rev (i:=i) ndp e1 e2⟩
   refine x1a2 (vl0 e2) fun u e zq2=>?_;subst zq2
   clear e2
   rcases i with _ | _ | _ | _ | _ | i
   ·cases e;cases e1;exact ⟨va,nameL 0 _ _ rfl rfl,ra1.mono le⟩
   ·cases e;cases e1;exact ⟨vb,nameL 1 _ _ rfl rfl,ra2.mono le⟩
   ·cases e;cases e1;exact ⟨vt,fr l1 (by rw [nm];rfl) rfl k1.2 d1,r1.mono le⟩
   ·cases e;cases e1;exact ⟨vw,fr l2 (by rw [nm];rfl) rfl k2.2 d2,r2.mono le⟩
   ·cases e;cases e1;exact ⟨vm,fr l3 (by rw [nm];rfl) rfl k3.2 d3,r3.mono le⟩
   ·cases e
  ·refine x1a2 (vl0 e) fun u _ z=>?_;cases z
  ·refine x1a2 (vl0 e) fun u _ z=>?_;cases z
 have T:Wd w (KP w) ⟨[(252,S)],[],none⟩ d:=(Wd.nil _ _ _).cons (kk_mont_mul _) M (Nat.le_refl _)
 have noO:∀ x,¬OwnA ([.val a,.val b,.val t,.val v,.val q]:Sg) (fun _=>0) x:=fun x z=>by
  refine x2a2 z fun i l z _=>?_
  rcases z with z | z <;> (refine x1a2 (vl0 z) fun u _ z=>?_;cases z)
 have C:Cs ⟨mulDef.2.2.1,vN ["x","y","told","w","mul"],GL⟩ w (A.deeper (cloCx cl doc pm c' ct s.heap.objs.size fa g0).env) ⟨[(252,S)],[],none⟩ (KP w) d (cloCx cl doc pm c' ct s.heap.objs.size fa g0) :=
  ⟨⟨rfl,rfl,hkf⟩,(gnd w.params).rn T gr hkf rfl rfl hd (by show A.units+3+200+100*d<cLine;exact F1 [_,_,_] [] 30496529936888597390778984783011608222401985974187314403703005280 hu) (by show A.depth+1+d<recursionLimit;exact F1 [_,_,_] [] 5601355136005034043521120 hp),nd⟩
 refine wpAny_mono ((chkB_good _ k_mul_chk).sb C fl _ _ { s with heap:=h₀,toks:=_ } (fun F _=>retV F k) St0 ⟨S,rfl,hU⟩) (fun f s' p=>?_) fun _ _ z=>False.elim z
 refine x3a3 p fun F σ' oa' qq r g=>?_;clear p
 refine x1a2 (ends r qq) fun rr qv rv=>?_
 refine an4 (go_ext (s:=s) (.mk s h₀ _) kp dL noO g) fun z1 z2 z3 z4=>?_
 exact ⟨rr,qv,z1,z2,z3,rv.mono z4⟩
end
end
section
section
variable {Γ:Gam}{Q:FL→Sg→Prop}
theorem W_while {α:Type}(st:α→Sg)(P:α→Prop)(μ:α→Nat){σ:Sg}{t:E}{b:C}(x0:α)(h0:σ=st x0)(p0:P x0)
  (step:∀ R:FL→Sg→Prop,(∀ f τ,Q f τ→R f τ)→∀ x,P x→∀ N:Sg→Prop,(∀ τ,(∃ y,τ=st y∧μ y<μ x∧P y)→N τ)→WE Γ t (st x) fun a τ=>onB a fun z=>if z=true then W Γ b τ (lpP N R) else R .next τ):W Γ (.whl t b) σ Q :=
 ⟨α,st,P,μ,⟨x0,h0,p0⟩,fun x px=>step Q (fun _ _ z=>z) x px _ fun _ z=>z⟩
theorem W_for1 {α:Type}(st:α→Sg)(P:Nat→α→Prop){σ:Sg}{i:Nat}{it:It}{b:C}{vs:List V}(x0:α)(hit:∀ R:List V→Sg→Prop,R vs (st x0)→WIt Γ it σ R)(p0:P 0 x0)
  (step:∀ R:FL→Sg→Prop,(∀ f τ,Q f τ→R f τ)→∀ k v x,vs[k]?=some v→P k x→∀ N:Sg→Prop,(∀ τ,(∃ y,τ=st y∧P (k+1) y)→N τ)→W Γ b ((st x).set i (.val v)) (lpP N R)) (fin:∀ x,P vs.length x→Q .next (st x)):W Γ (.for1 i it b) σ Q :=
 hit _ ⟨α,st,P,⟨x0,rfl,p0⟩,fun k v x e px=>step Q (fun _ _ z=>z) k v x e px _ fun _ z=>z,fin⟩
theorem W_for2 {α:Type}(st:α→Sg)(P:Nat→α→Prop){σ:Sg}{i j:Nat}{e:E}{b:C}{l:List V}(x0:α)(hit:∀ R:V→Sg→Prop,R (.lst l) (st x0)→WE Γ e σ R)(p0:P 0 x0)
  (step:∀ R:FL→Sg→Prop,(∀ f τ,Q f τ→R f τ)→∀ (k:Nat) v x,l[k]?=some v→P k x→∀ N:Sg→Prop,(∀ τ,(∃ y,τ=st y∧P (k+1) y)→N τ)→W Γ b (((st x).set i (.val (.int (k:Nat)))).set j (.val v)) (lpP N R)) (fin:∀ x,P l.length x→Q .next (st x)):W Γ (.for2 i j (.enm e) b) σ Q :=
 hit _ ⟨α,st,P,⟨x0,rfl,p0⟩,fun k x' y' x e px=>by
  have hk:k<l.length:=by rw [← enumL_len (l:=l)];exact (List.getElem?_eq_some_iff.mp e).1
  have e2:l[k]?=some l[k]:=List.getElem?_eq_getElem hk
  have e3:=enumL_get e2
  rw [e] at e3
  cases e3
  exact step Q (fun _ _ z=>z) k _ x e2 px _ fun _ z=>z,fun x px=>fin x (by rw [enumL_len] at px;exact px)⟩
end
def locP (o:Option Slot)(i:Nat)(σ:Sg)(Q:V→Sg→Prop):Prop:=onS o (fun v=>Q v σ) (fun l=>Q (.lst l) (σ.set i (.val (.lst l)))) fun _=>False
def slP (o:Option Slot)(σ:Sg)(K:List V→Sg→Prop):Prop:=onS o (fun v=>onL v fun l=>K l σ) (fun l=>K l σ) fun l=>K l σ
def atP (o:Option Slot)(x:String)(σ:Sg)(Q:V→Sg→Prop):Prop:=onS o (fun v=>attrP v x fun r=>Q r σ) (fun _=>False) fun _=>False
abbrev useP (Γ:Gam)(vf:V)(vs:List V)(σ:Sg)(Q:V→Sg→Prop):Prop:=Γ.use vf vs fun r=>Q r σ
abbrev useBP (Γ:Gam)(vf:V)(l vs:List V)(i:Nat)(ob:List V→Slot)(σ:Sg)(Q:V→Sg→Prop):Prop:=Γ.useB vf l vs fun r l'=>Q r (σ.set i (ob l'))
def cbP (Γ:Gam)(o:Option Slot)(vf:V)(i:Nat)(es:Es)(σ:Sg)(Q:V→Sg→Prop):Prop:=onS o (fun _=>False) (fun l=>WEs Γ es σ fun vs τ=>τ=σ∧useBP Γ vf l vs i .own σ Q) fun l=>WEs Γ es σ fun vs τ=>τ=σ∧useBP Γ vf l vs i .bor σ Q
def agP (Γ:Gam)(o:Option Slot)(i:Nat)(op:Operator)(e:E)(σ:Sg)(Q:FL→Sg→Prop):Prop:=onS o (fun u=>onI u fun x=>WE Γ e σ fun v σ=>binP op (.int x) v fun r=>Q .next (σ.set i (.val r))) (fun _=>False) fun _=>False
def stP (Γ:Gam)(o:Option Slot)(i:Nat)(idx:E)(v:V)(σ:Sg)(Q:FL→Sg→Prop):Prop:=onS o (fun _=>False) (fun l=>WE Γ idx σ fun k τ=>τ=σ∧onI k fun k=>(0≤k∧k<l.length)∧Q .next (σ.set i (.own (l.set k.toNat v))))
 fun l=>WE Γ idx σ fun k τ=>τ=σ∧onI k fun k=>(0≤k∧k<l.length)∧Q .next (σ.set i (.bor (l.set k.toNat v)))
def apP (Γ:Gam)(o:Option Slot)(i:Nat)(e:E)(σ:Sg)(Q:FL→Sg→Prop):Prop:=onS o (fun _=>False) (fun l=>WE Γ e σ fun v τ=>τ=σ∧l.length<sMx∧Q .next (σ.set i (.own (l++[v])))) fun _=>False
section
variable {Γ:Gam}{Q:FL→Sg→Prop}{a₀:Slot}{σ τ:Sg}{N:Sg→Prop}{v:V}{A B:Prop}
theorem sq_next:sqP .next A B=A:=rfl
theorem sq_brk:sqP .brk A B=B:=rfl
theorem sq_cont:sqP .cont A B=B:=rfl
theorem sq_ret:sqP (.ret v) A B=B:=rfl
theorem lp_next:lpP N Q .next τ=N τ:=rfl
theorem lp_cont:lpP N Q .cont τ=N τ:=rfl
theorem lp_brk:lpP N Q .brk τ=Q .next τ:=rfl
theorem lp_ret:lpP N Q (.ret v) τ=Q (.ret v) τ:=rfl
theorem r_ret {k:V→Prop}:retV (.ret v) k=k v:=rfl
theorem r_next {k:V→Prop}:retV .next k=k .none:=rfl
theorem W_skip:W Γ .skip (a₀::σ) Q=Q .next (a₀::σ):=rfl
theorem W_seq {c d:C}:W Γ (.seq c d) (a₀::σ) Q=W Γ c (a₀::σ) fun f τ=>sqP f (W Γ d τ Q) (Q f τ):=rfl
theorem W_seqI {Γ:Gam}{c d:C}{σ:Sg}{Q:FL→Sg→Prop}(h:W Γ c σ fun f τ=>sqP f (W Γ d τ Q) (Q f τ)):W Γ (.seq c d) σ Q:=h
theorem W_asg {i:Nat}{e:E}:W Γ (.asg i e) (a₀::σ) Q=WE Γ e (a₀::σ) fun v τ=>Q .next (τ.set i (.val v)):=rfl
theorem W_asgO {i:Nat}{f:F}:W Γ (.asgO i f) (a₀::σ) Q=WF Γ f (a₀::σ) fun l τ=>Q .next (τ.set i (.own l)):=rfl
theorem W_multi {is:Is}:W Γ (.multi is) (a₀::σ) Q=WIs Γ is (a₀::σ) fun sl τ=>Q .next (setAll τ is.ts sl):=rfl
theorem W_unpk {ts:List Nat}{e:E}:W Γ (.unpk ts e) (a₀::σ) Q=WE Γ e (a₀::σ) fun v τ=>onT v fun l=>l.length=ts.length∧Q .next (setAll τ ts (l.map .val)):=rfl
theorem W_aug {i:Nat}{op:Operator}{e:E}:W Γ (.aug i op e) (a₀::σ) Q=agP Γ (a₀::σ)[i]? i op e (a₀::σ) Q:=rfl
theorem ag_val {i:Nat}{op:Operator}{e:E}{x:Int}:agP Γ (some (.val (.int x))) i op e σ Q=WE Γ e σ fun v σ=>binP op (.int x) v fun r=>Q .next (σ.set i (.val r)):=rfl
theorem W_setL {i:Nat}{idx e:E}:W Γ (.setL i idx e) (a₀::σ) Q=WE Γ e (a₀::σ) fun v σ=>stP Γ σ[i]? i idx v σ Q:=rfl
theorem st_own {i:Nat}{idx:E}{l:List V}:stP Γ (some (.own l)) i idx v σ Q=WE Γ idx σ fun k τ=>τ=σ∧onI k fun k=>(0≤k∧k<l.length)∧Q .next (σ.set i (.own (l.set k.toNat v))):=rfl
theorem st_bor {i:Nat}{idx:E}{l:List V}:stP Γ (some (.bor l)) i idx v σ Q=WE Γ idx σ fun k τ=>τ=σ∧onI k fun k=>(0≤k∧k<l.length)∧Q .next (σ.set i (.bor (l.set k.toNat v))):=rfl
theorem W_app {i:Nat}{e:E}:W Γ (.app i e) (a₀::σ) Q=apP Γ (a₀::σ)[i]? i e (a₀::σ) Q:=rfl
theorem ap_own {i:Nat}{e:E}{l:List V}:apP Γ (some (.own l)) i e σ Q=WE Γ e σ fun v τ=>τ=σ∧l.length<sMx∧Q .next (σ.set i (.own (l++[v]))):=rfl
theorem W_exprB {f:E}{i:Nat}{args:Es}:W Γ (.exprB f i args) (a₀::σ) Q=WE Γ (.callB f i args) (a₀::σ) fun v τ=>onN v (Q .next τ):=rfl
theorem W_expr {e:E}:W Γ (.expr e) (a₀::σ) Q=WE Γ e (a₀::σ) fun v τ=>onN v (Q .next τ):=rfl
theorem W_ifs {e:E}{t f:C}:W Γ (.ifs e t f) (a₀::σ) Q=WE Γ e (a₀::σ) fun a τ=>onB a fun x=>if x=true then W Γ t τ Q else W Γ f τ Q:=rfl
theorem W_ret {e:E}:W Γ (.ret e) (a₀::σ) Q=WE Γ e (a₀::σ) fun v τ=>Q (.ret v) τ:=rfl
theorem W_cont:W Γ .cont (a₀::σ) Q=Q .cont (a₀::σ):=rfl
theorem W_raise:W Γ .raise (a₀::σ) Q=False:=rfl
theorem is_nil {Q:List Slot→Sg→Prop}:WIs Γ .nil (a₀::σ) Q=Q [] (a₀::σ):=rfl
theorem is_val {Q:List Slot→Sg→Prop}{i:Nat}{e:E}{r:Is}:WIs Γ (.val i e r) (a₀::σ) Q=WE Γ e (a₀::σ) fun v σ=>WIs Γ r σ fun sl σ=>Q (.val v::sl) σ:=rfl
theorem is_own {Q:List Slot→Sg→Prop}{i:Nat}{f:F}{r:Is}:WIs Γ (.own i f r) (a₀::σ) Q=WF Γ f (a₀::σ) fun l σ=>WIs Γ r σ fun sl σ=>Q (.own l::sl) σ:=rfl
theorem ts_nil:Is.nil.ts=[]:=rfl
theorem ts_val {i:Nat}{e:E}{r:Is}:(Is.val i e r).ts=i::r.ts:=rfl
theorem ts_own {i:Nat}{f:F}{r:Is}:(Is.own i f r).ts=i::r.ts:=rfl
theorem mp_nil {α β:Type}{f:α→β}:List.map f []=[]:=rfl
theorem mp_cons {α β:Type}{f:α→β}{a:α}{l:List α}:List.map f (a::l)=f a::List.map f l:=rfl
theorem set_nil:setAll σ [] []=σ:=rfl
theorem set_cons {i:Nat}{is:List Nat}{s:Slot}{sl:List Slot}:setAll σ (i::is) (s::sl)=setAll (σ.set i s) is sl:=rfl
theorem it_rng1 {Q:List V→Sg→Prop}{b:E}:WIt Γ (.rng1 b) (a₀::σ) Q=WE Γ b (a₀::σ) fun b σ=>onI b fun y=>y.natAbs<2^40∧Q (rangeL 0 y 1) σ:=rfl
theorem it_rng2 {Q:List V→Sg→Prop}{a b:E}:WIt Γ (.rng2 a b) (a₀::σ) Q=WE Γ a (a₀::σ) fun a σ=>WE Γ b σ fun b σ=>onI a fun x=>onI b fun y=>(x.natAbs<2^40∧y.natAbs<2^40)∧Q (rangeL x y 1) σ:=rfl
theorem it_rng3 {Q:List V→Sg→Prop}{a b c:E}:WIt Γ (.rng3 a b c) (a₀::σ) Q=WE Γ a (a₀::σ) fun a σ=>WE Γ b σ fun b σ=>WE Γ c σ fun c σ=>onI a fun x=>onI b fun y=>onI c fun z=>(x.natAbs<2^40∧y.natAbs<2^40∧z.natAbs<2^40∧z≠0)∧Q (rangeL x y z) σ:=rfl
theorem it_lst {Q:List V→Sg→Prop}{e:E}:WIt Γ (.lst e) (a₀::σ) Q=WE Γ e (a₀::σ) fun v σ=>onL v fun l=>Q l σ:=rfl
theorem it_enm {Q:List V→Sg→Prop}{e:E}:WIt Γ (.enm e) (a₀::σ) Q=WE Γ e (a₀::σ) fun v σ=>onL v fun l=>Q (enumL l) σ:=rfl
theorem use_ref {a:Addr}{vs:List V}{k:V→Prop}:Γ.use (.ref a) vs k=∃ S,Γ.fn.lookup a=some S∧S.use vs k:=rfl
end
section
variable {Γ:Gam}{a₀:Slot}{σ:Sg}{Q:V→Sg→Prop}{R:List V→Sg→Prop}{l r c e:E}{es:Es}{f:F}{i:Nat}{op:Operator}{cp:CmpOp}{v:V}{x:String}
theorem x_loc:WE Γ (.loc i) (a₀::σ) Q=locP (a₀::σ)[i]? i (a₀::σ) Q:=rfl
theorem lo_val {σ:Sg}:locP (some (.val v)) i σ Q=Q v σ:=rfl
theorem lo_own {σ:Sg}{l:List V}:locP (some (.own l)) i σ Q=Q (.lst l) (σ.set i (.val (.lst l))):=rfl
theorem sl_val {σ:Sg}{l:List V}{K:List V→Sg→Prop}:slP (some (.val (.lst l))) σ K=K l σ:=rfl
theorem sl_own {σ:Sg}{l:List V}{K:List V→Sg→Prop}:slP (some (.own l)) σ K=K l σ:=rfl
theorem sl_bor {σ:Sg}{l:List V}{K:List V→Sg→Prop}:slP (some (.bor l)) σ K=K l σ:=rfl
theorem at_val {σ:Sg}:atP (some (.val v)) x σ Q=attrP v x fun r=>Q r σ:=rfl
theorem cb_own {σ:Sg}{l:List V}:cbP Γ (some (.own l)) v i es σ Q=WEs Γ es σ fun vs τ=>τ=σ∧useBP Γ v l vs i .own σ Q:=rfl
theorem cb_bor {σ:Sg}{l:List V}:cbP Γ (some (.bor l)) v i es σ Q=WEs Γ es σ fun vs τ=>τ=σ∧useBP Γ v l vs i .bor σ Q:=rfl
theorem x_cst:WE Γ (.cst v) (a₀::σ) Q=Q v (a₀::σ):=rfl
theorem x_glo:WE Γ (.glo x v) (a₀::σ) Q=Q v (a₀::σ):=rfl
theorem x_bin:WE Γ (.bin op l r) (a₀::σ) Q=WE Γ l (a₀::σ) fun a σ=>WE Γ r σ fun b σ=>binP op a b fun v=>Q v σ:=rfl
theorem x_neg:WE Γ (.neg e) (a₀::σ) Q=WE Γ e (a₀::σ) fun a σ=>onI a fun x=>Q (.int (-x)) σ:=rfl
theorem x_not:WE Γ (.not e) (a₀::σ) Q=WE Γ e (a₀::σ) fun a σ=>onB a fun x=>Q (.bool (!x)) σ:=rfl
theorem x_cmp:WE Γ (.cmp cp l r) (a₀::σ) Q=WE Γ l (a₀::σ) fun a σ=>WE Γ r σ fun b σ=>cmpP cp a b fun v=>Q (.bool v) σ:=rfl
theorem x_and:WE Γ (.and l r) (a₀::σ) Q=WE Γ l (a₀::σ) fun a σ=>onB a fun x=>if x=true then WE Γ r σ Q else Q (.bool false) σ:=rfl
theorem x_or:WE Γ (.or l r) (a₀::σ) Q=WE Γ l (a₀::σ) fun a σ=>onB a fun x=>if x=true then Q (.bool true) σ else WE Γ r σ Q:=rfl
theorem x_ite:WE Γ (.ite c l r) (a₀::σ) Q=WE Γ c (a₀::σ) fun a σ=>onB a fun x=>if x=true then WE Γ l σ Q else WE Γ r σ Q:=rfl
theorem x_call:WE Γ (.call e es) (a₀::σ) Q=WE Γ e (a₀::σ) fun vf σ=>WEs Γ es σ fun vs σ=>useP Γ vf vs σ Q:=rfl
theorem x_callB:WE Γ (.callB e i es) (a₀::σ) Q=WE Γ e (a₀::σ) fun vf σ=>cbP Γ σ[i]? vf i es σ Q:=rfl
theorem x_len:WE Γ (.lenL i) (a₀::σ) Q=onS (a₀::σ)[i]? (fun v=>onL v fun l=>Q (.int l.length) (a₀::σ)) (fun l=>Q (.int l.length) (a₀::σ)) (fun l=>Q (.int l.length) (a₀::σ)):=rfl
theorem x_max:WE Γ (.max2 l r) (a₀::σ) Q=WE Γ l (a₀::σ) fun a σ=>WE Γ r σ fun b σ=>onI a fun x=>onI b fun y=>Q (.int (max x y)) σ:=rfl
theorem x_min:WE Γ (.min2 l r) (a₀::σ) Q=WE Γ l (a₀::σ) fun a σ=>WE Γ r σ fun b σ=>onI a fun x=>onI b fun y=>Q (.int (min x y)) σ:=rfl
theorem x_bits:WE Γ (.bitlen e) (a₀::σ) Q=WE Γ e (a₀::σ) fun a σ=>onI a fun x=>0≤x∧x.natAbs<2^64∧Q (.int (if x=0 then 0 else x.natAbs.log2+1)) σ:=rfl
theorem x_attr:WE Γ (.attr i x) (a₀::σ) Q=atP (a₀::σ)[i]? x (a₀::σ) Q:=rfl
theorem x_sub:WE Γ (.sub e r) (a₀::σ) Q=WE Γ e (a₀::σ) fun o σ=>WE Γ r σ fun i σ=>idxP o i fun v=>Q v σ:=rfl
theorem x_subL:WE Γ (.subL i e) (a₀::σ) Q=slP (a₀::σ)[i]? (a₀::σ) fun l σ=>WE Γ e σ fun iv τ=>τ=σ∧idxP (.lst l) iv fun v=>Q v σ:=rfl
theorem x_tup:WE Γ (.tup es) (a₀::σ) Q=WEs Γ es (a₀::σ) fun vs σ=>Q (.tup vs) σ:=rfl
theorem x_fresh:WE Γ (.fresh f) (a₀::σ) Q=WF Γ f (a₀::σ) fun l σ=>Q (.lst l) σ:=rfl
theorem x_fdisp:WF Γ (.disp es) (a₀::σ) R=WEs Γ es (a₀::σ) fun vs σ=>R vs σ:=rfl
theorem x_frep:WF Γ (.rep e r) (a₀::σ) R=WE Γ e (a₀::σ) fun v σ=>WE Γ r σ fun k σ=>onI k fun x=>(-1000≤x∧x≤1000)∧R (List.replicate x.toNat v) σ:=rfl
theorem x_fcat:WF Γ (.cat l r) (a₀::σ) R=WE Γ l (a₀::σ) fun a σ=>WE Γ r σ fun b σ=>onL a fun x=>onL b fun y=>(x++y).length≤sMx∧R (x++y) σ:=rfl
theorem x_fcut:WF Γ (.sliceL i l r) (a₀::σ) R=slP (a₀::σ)[i]? (a₀::σ) fun y σ=>WE Γ l σ fun a τ=>WE Γ r τ fun b τ=>τ=σ∧onO (bnd a) fun x=>onO (bnd b) fun z=>R (cutL y x z) σ:=rfl
theorem x_snil:WEs Γ .nil (a₀::σ) R=R [] (a₀::σ):=rfl
theorem x_scons:WEs Γ (.cons e es) (a₀::σ) R=WE Γ e (a₀::σ) fun v σ=>WEs Γ es σ fun vs σ=>R (v::vs) σ:=rfl
end
noncomputable def iv (l:List Nat):List V:=l.map fun (n:Nat)=>V.int (n:Int)
theorem nl_eq (l:List Nat):nl l=.lst (iv l):=rfl
theorem iv_len (l:List Nat):(iv l).length=l.length:=List.length_map ..
theorem iv_get (l:List Nat){i:Int}{k:Nat}(h:i=k)(hk:k<l.length):pyIdx (iv l) i=some (.int ((l[k]:Nat):Int)):=by
 subst h
 unfold pyIdx
 rw [if_pos (Int.natCast_nonneg k)]
 unfold iv
 rw [Int.toNat_natCast,List.getElem?_map,List.getElem?_eq_getElem hk]
 rfl
theorem iv_last (l:List Nat)(h:l≠[]):pyIdx (iv l) (-1)=some (.int ((l.getLast h:Nat):Int)):=by
 have hl:0<l.length:=List.length_pos_iff.mpr h
 unfold pyIdx
 rw [if_neg (by exact F0 [] [] 424997253),if_pos (by rw [iv_len];exact F1 [_] [] 5977373841369090 hl),iv_len]
 unfold iv
 have e:((-1:Int)+(l.length:Int)).toNat=l.length-1:=by exact nAs (F2 [_,_,_] [] 21712388594885403919637046048 sb1 (iTn (F1 [_] [] 382016535185926146 hl))) (F2 [_,_,_] [] 21712407814855637988404396256 (iSt _) (nSc (F1 [_] [] 18791344130 hl)))
 rw [e,List.getElem?_map,List.getElem?_eq_getElem (by exact F1 [_,_] [] 81467267121376 (nSc (F1 [_] [] 18791344130 hl))),List.getLast_eq_getElem]
 rfl
theorem iv_app (l:List Nat)(n:Nat):iv l++[V.int (n:Int)]=iv (l++[n]):=by unfold iv;rw [List.map_append];rfl
theorem iv_set (l:List Nat)(k n:Nat):(iv l).set k (V.int (n:Int))=iv (l.set k n):=by unfold iv;rw [List.map_set]
theorem iv_nil:iv []=[]:=rfl
theorem iv_cons (n:Nat)(l:List Nat):iv (n::l)=.int (n:Nat)::iv l:=rfl
theorem iv_rep (k n:Nat):List.replicate k (V.int (n:Int))=iv (List.replicate k n):=by unfold iv;rw [List.map_replicate]
theorem iv_append (l r:List Nat):iv l++iv r=iv (l++r):=by unfold iv;rw [List.map_append]
theorem iv_cut (l:List Nat){lo hi:Option Int}{a b:Nat}(h1:lo.elim 0 (clipAt l.length)=a)(h2:hi.elim l.length (clipAt l.length)=b):cutL (iv l) lo hi=iv ((l.drop a).take (b-a)):=by
 unfold cutL
 rw [iv_len,h1,h2]
 unfold iv
 rw [List.map_take,List.map_drop]
theorem clip_nat (n k:Nat)(h:k≤n):clipAt n (k:Int)=k:=by
 unfold clipAt
 rw [if_neg (Int.not_lt.mpr (Int.natCast_nonneg k)),Int.min_eq_left (Int.ofNat_le.mpr h),Int.max_eq_right (Int.natCast_nonneg k)];rfl
theorem mnc {a b:Nat}(h:1≤b):min (a:Int) ((b:Int)-1)=((min a (b-1):Nat):Int):=by
 rw [← show ((b-1:Nat):Int)=(b:Int)-1 from Int.natCast_sub h]
 exact (Nat.le_total a (b-1)).elim (fun k=>by rw [Nat.min_eq_left k,Int.min_eq_left (Int.ofNat_le.mpr k)]) fun k=>by rw [Nat.min_eq_right k,Int.min_eq_right (Int.ofNat_le.mpr k)]
theorem iv_inj {l r:List Nat}(h:iv l=iv r):l=r:=by
 induction l generalizing r with
 | nil=>cases r with
  | nil=>rfl
  | cons=>cases h
 | cons a l ih=>cases r with
  | nil=>cases h
  | cons b r =>
   rw [iv_cons,iv_cons] at h
   injection h with h1 h2
   injection h1 with h1
   rw [ih h2,Int.ofNat.inj h1]
theorem pyIdx_nl {l:List Nat}{i:Int}(h0:0≤i)(h:i<l.length):pyIdx (l.map fun (n:Nat)=>V.int (n:Int)) i=some (.int ((l[i.toNat]'(by exact F2 [_,_] [_] 21356167050892870432 h (iTn h0)):Nat):Int)):=by
 unfold pyIdx
 rw [if_pos h0,List.getElem?_map,List.getElem?_eq_getElem (by exact F2 [_,_] [_] 21356167050892870432 h (iTn h0))]
 rfl
theorem nl_len (l:List Nat):(l.map fun (n:Nat)=>V.int (n:Int)).length=l.length:=List.length_map ..
theorem rangeL_get {a b:Int}{k:Nat}{v:V}(h:(rangeL a b 1)[k]?=some v):v=.int (a+k)∧a+k<b:=by
 unfold rangeL at h
 rw [rangeSize_one] at h
 rw [List.getElem?_map] at h
 by_cases hk:k<(if a<b then b-a else 0).toNat
 ·rw [List.getElem?_range hk] at h
  simp at h
  refine ⟨by rw [← h],?_⟩
  split at hk <;> lia
 ·rw [List.getElem?_eq_none (by simpa using hk)] at h;cases h
theorem rangeL_len (a b:Int):(rangeL a b 1).length=(b-a).toNat:=by
 unfold rangeL
 rw [rangeSize_one,List.length_map,List.length_range]
 split <;> lia
theorem rangeD_get {a b:Int}{k:Nat}{v:V}(h:(rangeL a b (-1))[k]?=some v):v=.int (a-k)∧b<a-k:=by
 unfold rangeL at h
 rw [rangeSize_downNat,Int.toNat_natCast] at h
 rw [List.getElem?_map] at h
 by_cases hk:k<(a-b).toNat
 ·rw [List.getElem?_range (by simpa using hk)] at h
  simp at h
  exact ⟨by rw [← h];rfl,by lia⟩
 ·rw [List.getElem?_eq_none (by simpa using hk)] at h;cases h
theorem rangeD_len (a b:Int):(rangeL a b (-1)).length=(a-b).toNat:=by
 unfold rangeL
 rw [rangeSize_downNat,Int.toNat_natCast,List.length_map,List.length_range]
end
section
noncomputable def vl (B:Nat):List Nat→Nat
 | []=>0
 | d::ds=>d+B*vl B ds
noncomputable def nrm:List Nat→List Nat
 | []=>[]
 | d::ds=>match nrm ds with
  | []=>if d=0 then [] else [d]
  | e::es=>d::e::es
noncomputable def dgF (B:Nat):Nat→Nat→List Nat
 | 0,_=>[]
 | f+1,n=>if n=0 then [] else n%B::dgF B f (n/B)
noncomputable def dg (B n:Nat):List Nat:=dgF B n n
def Lim (B:Nat)(l:List Nat):Prop:=∀ d∈l,d<B
theorem dgF_eq {B:Nat}(hB:2≤B):∀ (f g n:Nat),n≤f→n≤g→dgF B f n=dgF B g n
 | 0,0,_,_,_=>rfl
 | 0,g+1,n,h,_=>by
  have:n=0:=by exact nAs (h) (F0 [_] [] 71682)
  subst this;rfl
 | f+1,0,n,_,h=>by
  have:n=0:=by exact nAs (h) (F0 [_] [] 71682)
  subst this;rfl
 | f+1,g+1,n,h1,h2=>by
  unfold dgF
  by_cases hn:n=0
  ·simp [hn]
  ·rw [if_neg hn,if_neg hn]
   have:n/B<n:=Nat.div_lt_self (by exact nPo hn) (by exact F1 [_] [] 19865081860 hB)
   rw [dgF_eq hB f g (n/B) (by exact F2 [_,_,_] [] 20221237647240407136 h1 this) (by exact F2 [_,_,_] [] 20221237647240407136 h2 this)]
theorem dg_zero (B:Nat):dg B 0=[]:=rfl
theorem dg_pos {B n:Nat}(hB:2≤B)(hn:0<n):dg B n=n%B::dg B (n/B):=by
 have h1:n/B<n:=Nat.div_lt_self hn (by exact F1 [_] [] 19865081860 hB)
 obtain ⟨f,rfl⟩:∃ f,n=f+1:=⟨n-1,by exact nAs (sb1) (F1 [_,_] [] 315568874110353632 (nSc (F1 [_] [] 18791344130 hn)))⟩
 show (if f+1=0 then [] else (f+1)%B::dgF B f ((f+1)/B))=_
 rw [if_neg (by exact F0 [_] [] 27162869984)]
 unfold dg
 rw [dgF_eq hB f ((f+1)/B) ((f+1)/B) (by exact F1 [_,_] [] 77069197260896 h1) (Nat.le_refl _)]
theorem dg_ind {B:Nat}(hB:2≤B){P:Nat→Prop}(h0:P 0)(hs:∀ n,0<n→P (n/B)→P n)(n:Nat):P n:=by
 induction n using Nat.strongRecOn with
 | _ n ih =>
  by_cases hn:n=0
  ·rw [hn];exact h0
  ·exact hs n (by exact nPo hn) (ih _ (Nat.div_lt_self (by exact nPo hn) (by exact F1 [_] [] 19865081860 hB)))
theorem dg_lim {B:Nat}(hB:2≤B)(n:Nat):Lim B (dg B n):=by
 refine dg_ind hB (P:=fun n=>Lim B (dg B n)) ?_ ?_ n
 ·intro d h;cases h
 ·intro n hn ih d h
  rw [dg_pos hB hn] at h
  rcases List.mem_cons.mp h with h | h
  ·rw [h];exact Nat.mod_lt _ (by exact F1 [_] [] 19864819716 hB)
  ·exact ih d h
theorem vl_dg {B:Nat}(hB:2≤B)(n:Nat):vl B (dg B n)=n:=by
 refine dg_ind hB (P:=fun n=>vl B (dg B n)=n) rfl ?_ n
 intro n hn ih
 rw [dg_pos hB hn]
 show n%B+B*vl B (dg B (n/B))=n
 rw [ih];exact Nat.mod_add_div n B
theorem dg_inj {B a b:Nat}(hB:2≤B)(h:dg B a=dg B b):a=b:=by rw [← vl_dg hB a,h,vl_dg hB b]
theorem dg_nil {B n:Nat}(hB:2≤B):dg B n=[]↔n=0:=by
 constructor
 ·intro h;exact dg_inj hB (h.trans (dg_zero B).symm)
 ·rintro rfl;rfl
theorem dg_cons {B d n:Nat}(hB:2≤B)(hd:d<B)(h:0<d+B*n):dg B (d+B*n)=d::dg B n:=by
 rw [dg_pos hB h]
 have e1:(d+B*n)%B=d:=by rw [Nat.add_mul_mod_self_left];exact Nat.mod_eq_of_lt hd
 have e2:(d+B*n)/B=n:=by rw [Nat.add_mul_div_left _ _ (by exact F1 [_] [] 19864819716 hB),Nat.div_eq_of_lt hd];exact nAs (F0 [_] [] 293636098) (F0 [_] [] 287441056)
 rw [e1,e2]
theorem nrm_dg {B:Nat}(hB:2≤B):∀ {l:List Nat},Lim B l→nrm l=dg B (vl B l)
 | [],_=>rfl
 | d::ds,h=>by
  have hd:d<B:=h d (List.mem_cons_self ..)
  have ih:=nrm_dg hB (l:=ds) fun x hx=>h x (List.mem_cons_of_mem _ hx)
  unfold nrm vl
  rw [ih]
  by_cases hv:vl B ds=0
  ·rw [hv]
   show (if d=0 then [] else [d])=dg B (d+B*0)
   rw [Nat.mul_zero,Nat.add_zero]
   by_cases h0:d=0
   ·rw [if_pos h0,h0];rfl
   ·rw [if_neg h0]
    have:=dg_cons (n:=0) hB hd (by exact F1 [_,_] [] 326550728812865538 (nPo h0))
    rw [Nat.mul_zero,Nat.add_zero] at this
    rw [this];rfl
  ·have e:=dg_pos (n:=vl B ds) hB (by exact nPo hv)
   have hp:0<B*vl B ds:=Nat.mul_pos (by exact F1 [_] [] 19864819716 hB) (by exact nPo hv)
   rw [e,dg_cons hB hd (by exact F1 [_,_] [] 79749507000322 hp),e]
theorem vl_append (B:Nat):∀ (l r:List Nat),vl B (l++r)=vl B l+B^l.length*vl B r
 | [],r=>by simp [vl]
 | d::ds,r=>by
  show d+B*vl B (ds++r)=d+B*vl B ds+B^(ds.length+1)*vl B r
  rw [vl_append B ds r,Nat.mul_add,Nat.pow_succ,← Nat.mul_assoc,Nat.mul_comm (B^ds.length) B,Nat.add_assoc]
theorem vl_lt {B:Nat}(hB:2≤B):∀ {l:List Nat},Lim B l→vl B l<B^l.length
 | [],_=>by simp [vl]
 | d::ds,h=>by
  have hd:d<B:=h d (List.mem_cons_self ..)
  have ih:=vl_lt hB (l:=ds) fun x hx=>h x (List.mem_cons_of_mem _ hx)
  show d+B*vl B ds<B^(ds.length+1)
  rw [Nat.pow_succ,Nat.mul_comm (B^ds.length) B]
  have:B*(vl B ds+1)≤B*B^ds.length:=Nat.mul_le_mul_left _ ih
  rw [Nat.mul_add] at this
  exact F2 [_,_,_,_] [] 358486686316797587429275744 hd this
theorem vl_zeros (B:Nat):∀ k,vl B (List.replicate k 0)=0
 | 0=>rfl
 | k+1=>by
  rw [List.replicate_succ]
  show 0+B*vl B (List.replicate k 0)=0
  rw [vl_zeros B k];simp
theorem dg_len_le {B:Nat}(hB:2≤B):∀ {k n:Nat},n<B^k→(dg B n).length≤k
 | 0,n,h=>by
  have:n=0:=by simpa using h
  subst this;simp [dg_zero]
 | k+1,n,h=>by
  by_cases hn:n=0
  ·subst hn;simp [dg_zero]
  ·rw [dg_pos hB (by exact nPo hn),List.length_cons]
   have:n/B<B^k:=by
    rw [Nat.div_lt_iff_lt_mul (by exact F1 [_] [] 19864819716 hB),← Nat.pow_succ];exact h
   have:=dg_len_le hB this
   exact F1 [_,_] [] 308512045005871200 this
theorem dg_lt {B:Nat}(hB:2≤B)(n:Nat):n<B^(dg B n).length:=by
 have:=vl_lt hB (dg_lim hB n)
 rwa [vl_dg hB] at this
theorem dg_len_ge {B:Nat}(hB:2≤B){k n:Nat}(h:B^k≤n):k<(dg B n).length:=by
 have:=dg_lt hB n
 have h2:=Nat.lt_of_le_of_lt h this
 exact (Nat.pow_lt_pow_iff_right (by exact F1 [_] [] 19865081860 hB)).mp h2
theorem dg_len_mono {B:Nat}(hB:2≤B){a b:Nat}(h:a≤b):(dg B a).length≤(dg B b).length :=
 dg_len_le hB (Nat.lt_of_le_of_lt h (dg_lt hB b))
theorem dg_get {B:Nat}(hB:2≤B)(n:Nat):∀ i (h:i<(dg B n).length),(dg B n)[i]=n/B^i%B:=by
 refine dg_ind hB (P:=fun n=>∀ i (h:i<(dg B n).length),(dg B n)[i]=n/B^i%B) ?_ ?_ n
 ·intro i h;simp [dg_zero] at h
 ·intro n hn ih i h
  have e:=dg_pos hB hn
  rw [e] at h
  cases i with
  | zero=>simp [e]
  | succ i =>
   simp only [e,List.getElem_cons_succ]
   rw [ih i (by simpa using h),Nat.div_div_eq_div_mul,Nat.pow_succ,Nat.mul_comm]
theorem vl_take_dg {B:Nat}(hB:2≤B)(n:Nat):∀ k,vl B ((dg B n).take k)=n%B^k:=by
 refine dg_ind hB (P:=fun n=>∀ k,vl B ((dg B n).take k)=n%B^k) ?_ ?_ n
 ·intro k;simp [dg_zero,vl]
 ·intro n hn ih k
  rw [dg_pos hB hn]
  cases k with
  | zero=>simp [vl,Nat.mod_one]
  | succ k =>
   rw [List.take_succ_cons]
   show n%B+B*vl B ((dg B (n/B)).take k)=_
   rw [ih k,Nat.pow_succ,Nat.mul_comm (B^k),Nat.mod_mul]
theorem dg_drop {B:Nat}(hB:2≤B)(n:Nat):∀ k,(dg B n).drop k=dg B (n/B^k):=by
 refine dg_ind hB (P:=fun n=>∀ k,(dg B n).drop k=dg B (n/B^k)) ?_ ?_ n
 ·intro k;simp [dg_zero]
 ·intro n hn ih k
  cases k with
  | zero=>simp
  | succ k =>
   rw [dg_pos hB hn,List.drop_succ_cons,ih k,Nat.div_div_eq_div_mul,Nat.pow_succ,Nat.mul_comm]
theorem tLP {w:Nat}(h:1≤w):2≤2^w:=by
 calc 2=2^1:=rfl
  _≤2^w:=Nat.pow_le_pow_right (by exact F0 [] [] 73986) h
theorem nrm_take:∀ (l:List Nat) (k:Nat),nrm l=l.take k∨True:=fun _ _=>.inr trivial
theorem nrm_snoc0:∀ (l:List Nat),nrm (l++[0])=nrm l
 | []=>rfl
 | d::ds=>by
  show nrm (d::(ds++[0]))=nrm (d::ds)
  unfold nrm
  rw [nrm_snoc0 ds]
theorem nrm_snoc:∀ (l:List Nat) (d:Nat),d≠0→nrm (l++[d])=l++[d]
 | [],d,h=>by simp [nrm,h]
 | e::es,d,h=>by
  show nrm (e::(es++[d]))=e::(es++[d])
  unfold nrm
  rw [nrm_snoc es d h]
  cases es <;> rfl
theorem nrm_cut (l:List Nat):∀ k,k≤l.length→(∀ i (h:i<l.length),k≤i→l[i]=0)→nrm l=nrm (l.take k):=by
 intro k
 generalize hm:l.length-k=m
 induction m generalizing k with
 | zero=>intro h _;rw [List.take_of_length_le (by exact F2 [_,_,_] [] 20221246062937122912 hm sb1)]
 | succ m ih =>
  intro h hz
  rw [ih (k+1) (by exact nAs (F3 [_,_,_,_,_] [] 364922628896584258324496422203832416 hm sb1 (nSc (F2 [_,_,_,_] [] 339141731103660381219358816 hm (nSc h)))) (F3 [_,_,_,_,_] [] 364618471980677829973655737707563104 hm sb1 (nSc h))) (by lia) fun i h1 h2=>hz i h1 (by lia)]
  have e:l.take (k+1)=l.take k++[l[k]'(by lia)]:=by rw [List.take_succ_eq_append_getElem (by lia)]
  rw [e,hz k (by lia) (Nat.le_refl _),nrm_snoc0]
theorem nrm_cut' (l:List Nat)(k:Nat)(hk:k≤l.length)(hz:∀ i (h:i<l.length),k≤i→l[i]=0)(h:k=0∨∃ h:k-1<l.length,l[k-1]≠0):nrm l=l.take k:=by
 rw [nrm_cut l k hk hz]
 rcases Nat.eq_zero_or_pos k with h0 | h0
 ·subst h0;rfl
 ·rcases h with h | ⟨h1,h2⟩
  ·lia
  ·obtain ⟨j,rfl⟩:∃ j,k=j+1:=⟨k-1,by exact nAs (sb1) (F1 [_,_] [] 315568874110353632 (nSc (F1 [_] [] 18791344130 h0)))⟩
   have e:l.take (j+1)=l.take j++[l[j]'(by exact F1 [_,_] [] 81467233566944 hk)]:=by rw [List.take_succ_eq_append_getElem (by exact F1 [_,_] [] 81467233566944 hk)]
   rw [e,nrm_snoc]
   exact h2
end
section
theorem and_mask (n w:Nat):Builtin.bitAnd (n:Int) (((2^w:Nat):Int)-1)=((n%2^w:Nat):Int):=by
 have h:((2^w:Nat):Int)-1=((2^w-1:Nat):Int):=by have:=Nat.one_le_two_pow (n:=w);exact iAs (F1 [_,_] [] 1563960003294931204192 sb1) (F1 [_,_] [] 1565779013341731389664 (nSc this))
 rw [h]
 unfold Builtin.bitAnd
 simp only [Int.natCast_nonneg,decide_true,Int.toNat_natCast,Nat.and_two_pow_sub_one_eq_mod]
theorem and_one (n:Nat):Builtin.bitAnd (n:Int) 1=((n%2:Nat):Int):=by
 have:=and_mask n 1
 simpa using this
theorem or_nat (x y:Nat):Builtin.bitOr (x:Int) (y:Int)=((x ||| y:Nat):Int):=by
 unfold Builtin.bitOr Builtin.bitAnd Builtin.bitNot
 have h1:¬(0:Int)≤-(x:Int)-1:=F0 [_] [] 111409408821253
 have h2:¬(0:Int)≤-(y:Int)-1:=F0 [_] [] 111409408821253
 simp only [h1,h2,decide_false]
 have e1:(-(-(x:Int)-1)-1).toNat=x:=by exact nAs (F1 [_,_] [] 5296160781690281525383968 (iTn (F0 [_] [] 382270452581320709))) (F1 [_,_] [] 5296158447413361506841376 (iSt _))
 have e2:(-(-(y:Int)-1)-1).toNat=y:=by exact nAs (F1 [_,_] [] 5296160781690281525383968 (iTn (F0 [_] [] 382270452581320709))) (F1 [_,_] [] 5296158447413361506841376 (iSt _))
 rw [e1,e2]
 exact iAs (F0 [_] [] 24436593579422970656) (F0 [_] [] 24465308965204525856)
theorem or_low (a b w:Nat)(h:b<2^w):Builtin.bitOr ((a*2^w:Nat):Int) (b:Int)=((a*2^w+b:Nat):Int):=by
 rw [or_nat,Nat.mul_comm,Nat.two_pow_add_eq_or_of_lt h]
theorem or_high (a b w:Nat)(h:b<2^w):Builtin.bitOr (b:Int) ((a*2^w:Nat):Int)=((a*2^w+b:Nat):Int):=by
 rw [or_nat,Nat.or_comm,Nat.mul_comm,Nat.two_pow_add_eq_or_of_lt h]
theorem fdiv_nat (a b:Nat):(a:Int).fdiv (b:Int)=((a/b:Nat):Int):=by
 rw [Int.fdiv_eq_ediv_of_nonneg _ (Int.natCast_nonneg b)];rfl
theorem fmod_nat (a b:Nat):(a:Int).fmod (b:Int)=((a%b:Nat):Int):=by
 rw [Int.fmod_eq_emod_of_nonneg _ (Int.natCast_nonneg b)];rfl
theorem pw1 (w:Nat):(1:Int)*2^((w:Int)).toNat=((2^w:Nat):Int):=by
 rw [Int.toNat_natCast,Int.one_mul];simp
theorem pwm (n w:Nat):(n:Int)*2^((w:Int)).toNat=((n*2^w:Nat):Int):=by
 rw [Int.toNat_natCast];simp
theorem shr_nat (n w:Nat):(n:Int).fdiv (2^((w:Int)).toNat)=((n/2^w:Nat):Int):=by
 have:(2:Int)^((w:Int)).toNat=((2^w:Nat):Int):=by rw [Int.toNat_natCast];simp
 rw [this,fdiv_nat]
theorem one_abs:(1:Int).natAbs<2^64:=by decide
theorem div_limb {B:Nat}(hB:0<B)(a k:Nat):a/B^k=B*(a/B^(k+1))+a/B^k%B:=by
 rw [Nat.pow_succ,← Nat.div_div_eq_div_mul]
 exact (Nat.div_add_mod _ _).symm
theorem lt_of_div {B a b k:Nat}(h:a/B^k<b/B^k):a<b:=by
 rcases Nat.lt_or_ge a b with z | z
 ·exact z
 ·have:=Nat.div_le_div_right (c:=B^k) z;lia
theorem dg_getD {B:Nat}(hB:2≤B)(n k:Nat):(dg B n).getD k 0=n/B^k%B:=by
 rw [List.getD_eq_getElem?_getD]
 by_cases h:k<(dg B n).length
 ·rw [List.getElem?_eq_getElem h,dg_get hB n k h];rfl
 ·rw [List.getElem?_eq_none (by exact F1 [_,_] [] 1203151120480 h)]
  have h1:=dg_lt hB n
  have h2:B^(dg B n).length≤B^k:=Nat.pow_le_pow_right (by exact F1 [_] [] 19864819716 hB) (by exact F1 [_,_] [] 1203151120480 h)
  rw [Nat.div_eq_of_lt (by exact F2 [_,_,_] [] 5214041451075680 h1 h2)]
  simp
theorem vl_snoc (B:Nat)(l:List Nat)(d:Nat):vl B (l++[d])=vl B l+B^l.length*d:=by
 rw [vl_append];simp [vl]
theorem lim_snoc {B:Nat}{l:List Nat}{d:Nat}(h:Lim B l)(hd:d<B):Lim B (l++[d]):=fun x hx=>by
 rcases List.mem_append.mp hx with hx | hx
 ·exact h x hx
 ·rw [List.mem_singleton] at hx;rw [hx];exact hd
theorem mod_pow_succ' {B:Nat}(n k:Nat):n%B^(k+1)=n%B^k+B^k*(n/B^k%B):=by
 rw [Nat.pow_succ,Nat.mod_mul]
theorem dg_of {B:Nat}(hB:2≤B){l:List Nat}(h:Lim B l)(ht:l=[]∨∃ x,l.getLast?=some x∧x≠0):l=dg B (vl B l):=by
 rw [← nrm_dg hB h]
 rcases ht with rfl | ⟨x,hx,h0⟩
 ·rfl
 ·have hne:l≠[]:=by rintro rfl;cases hx
  have e:=List.dropLast_concat_getLast hne
  have:l.getLast hne=x:=by rw [List.getLast?_eq_some_getLast hne] at hx;exact Option.some.inj hx
  rw [this] at e
  rw [← e,nrm_snoc _ _ h0]
theorem bit_len8:∀ x:Nat,x<256→0<x→∃ k,k<8∧Builtin.bitAnd (x:Int) (-(x:Int))=((2^k:Nat):Int)∧x%2^k=0∧x/2^k%2=1:=by
 intro x hx h0
 have:∀ x:Fin 256,0<x.val→((List.range 8).any fun k=>decide (Builtin.bitAnd (x.val:Int) (-(x.val:Int))=((2^k:Nat):Int)) && decide (x.val%2^k=0) && decide (x.val/2^k%2=1))=true:=by decide +kernel
 have:=this ⟨x,hx⟩ h0
 rw [List.any_eq_true] at this
 refine x1a2 this fun k hk e=>?_;clear this
 simp only [Bool.and_eq_true,decide_eq_true_eq] at e
 exact ⟨k,List.mem_range.mp hk,e.1.1,e.1.2,e.2⟩
theorem neg_mask:∀ w:Nat,w≤8→∀ x:Nat,x<2^w→Builtin.bitAnd (-(x:Int)) (((2^w:Nat):Int)-1)=(((2^w-x)%2^w:Nat):Int):=by
 intro w hw x hx
 have key:∀ w:Fin 9,∀ x:Fin 256,x.val<2^w.val→Builtin.bitAnd (-(x.val:Int)) (((2^w.val:Nat):Int)-1)=(((2^w.val-x.val)%2^w.val:Nat):Int):=by decide +kernel
 have:2^w≤2^8:=Nat.pow_le_pow_right (by exact F0 [] [] 73986) hw
 exact key ⟨w,by exact F1 [_] [] 326796949374111840 hw⟩ ⟨x,by exact F2 [_,_] [] 349379711195186649718857824 hx this⟩ hx
end
section
theorem use1 {Γ:Gam}{a:Addr}{S:Spec}{vs:List V}{q:V→Prop}(h:Γ.fn.lookup a=some S)(x:S.X)(e:vs=S.enc x)(p:S.pre x)(k:∀ r,S.post x r→q r):Γ.use (.ref a) vs q:=⟨S,h,x,e,p,k⟩
noncomputable def restC (c:C):C:=C.casesOn (motive:=fun _=>C) c .skip (fun _ d=>d) (fun _ _=>.skip) (fun _ _=>.skip) (fun _=>.skip) (fun _ _=>.skip) (fun _ _ _=>.skip) (fun _ _ _=>.skip) (fun _ _=>.skip) (fun _ _ _=>.skip) (fun _=>.skip) (fun _ _ _=>.skip) (fun _ _=>.skip) (fun _ _ _=>.skip) (fun _ _ _ _=>.skip) (fun _=>.skip) .skip .skip
theorem rest_seq {c d:C}:restC (.seq c d)=d:=rfl
theorem nrm_pre:∀ l:List Nat,∃ k,k≤l.length∧nrm l=l.take k
 | []=>⟨0,Nat.le_refl _,rfl⟩
 | d::ds=>by
  refine x1a2 (nrm_pre ds) fun k hk e=>?_
  unfold nrm
  cases h:nrm ds with
  | nil =>
   by_cases h0:d=0
   ·exact ⟨0,Nat.zero_le _,by simp [h0]⟩
   ·exact ⟨1,by simp,by simp [h0]⟩
  | cons x xs=>exact ⟨k+1,by simp;exact hk,by rw [List.take_succ_cons,← e,h]⟩
theorem dg_full {B:Nat}(hB:2≤B){l:List Nat}(h:Lim B l)(ht:l=[]∨B^(l.length-1)≤vl B l):l=dg B (vl B l):=by
 rcases ht with rfl | ht
 ·rfl
 ·refine x1a2 (nrm_pre l) fun k hk e=>?_
  have e2:=nrm_dg hB h
  have h1:=dg_len_ge hB ht
  rw [← e2,e,List.length_take] at h1
  have:k=l.length:=by exact nAs (hk) (F3 [_,_,_,_] [] 5296302923465676559030368 h1 sb1 (Nat.min_le_left _ _))
  rw [← e2,e,this,List.take_length]
theorem top_le {B n:Nat}(hB:2≤B)(hn:0<n):B^((dg B n).length-1)≤n:=by
 rcases Nat.lt_or_ge n (B^((dg B n).length-1)) with h | h
 ·have:=dg_len_le hB h
  have:(dg B n).length≠0:=fun z=>by rw [List.length_eq_zero_iff,dg_nil hB] at z;exact F2 [_] [] 116224499986592 hn z
  lia
 ·exact h
theorem vl_set (B:Nat):∀ (l:List Nat) (i v:Nat) (h:i<l.length),vl B (l.set i v)+B^i*l[i]=vl B l+B^i*v
 | d::ds,0,v,_=>by simp [vl];exact nAs (F0 [_,_,_] [] 19752825454412204128) (F0 [_,_,_] [] 19752825454412204128)
 | d::ds,i+1,v,h=>by
  have ih:=vl_set B ds i v (by simpa using h)
  simp only [List.set_cons_succ,vl,List.getElem_cons_succ,Nat.pow_succ]
  have e1:B^i*B*ds[i]'(by simpa using h)=B*(B^i*ds[i]'(by simpa using h)):=by rw [Nat.mul_comm (B^i) B,Nat.mul_assoc]
  have e2:B^i*B*v=B*(B^i*v):=by rw [Nat.mul_comm (B^i) B,Nat.mul_assoc]
  rw [e1,e2,Nat.add_assoc,← Nat.mul_add,ih,Nat.mul_add,Nat.add_assoc]
theorem lim_set {B:Nat}{l:List Nat}{i v:Nat}(h:Lim B l)(hv:v<B):Lim B (l.set i v):=fun x hx=>by
 rcases List.mem_or_eq_of_mem_set hx with hx | hx
 ·exact h x hx
 ·rw [hx];exact hv
theorem lim_zeros {B:Nat}(hB:2≤B)(k:Nat):Lim B (List.replicate k 0):=fun x hx=>by
 rw [List.eq_of_mem_replicate hx];exact F1 [_] [] 19864819716 hB
theorem mod_len {B:Nat}(hB:2≤B)(n:Nat){k:Nat}(h:(dg B n).length≤k):n%B^k=n:=by
 have h1:=dg_lt hB n
 have h2:B^(dg B n).length≤B^k:=Nat.pow_le_pow_right (by exact F1 [_] [] 19864819716 hB) h
 exact Nat.mod_eq_of_lt (by exact F2 [_,_,_] [] 5214041451075680 h1 h2)
theorem limb_past {B:Nat}(hB:2≤B)(n:Nat){k:Nat}(h:(dg B n).length≤k):n/B^k%B=0:=by
 have h1:=dg_lt hB n
 have h2:B^(dg B n).length≤B^k:=Nat.pow_le_pow_right (by exact F1 [_] [] 19864819716 hB) h
 rw [Nat.div_eq_of_lt (by exact F2 [_,_,_] [] 5214041451075680 h1 h2)];simp
theorem col {B k c0 v t c x y xk yk:Nat}(h:v+B^k*c0=x+y)(hc:c=c0+xk+yk):(v+B^k*(c%B))+B^(k+1)*(c/B)=(x+B^k*xk)+(y+B^k*yk):=by
 have e:B^(k+1)*(c/B)=B^k*(B*(c/B)):=by rw [Nat.pow_succ,Nat.mul_assoc]
 have e2:B^k*(c%B)+B^k*(B*(c/B))=B^k*c:=by rw [← Nat.mul_add,Nat.mod_add_div]
 rw [e,Nat.add_assoc,e2,hc,Nat.mul_add,Nat.mul_add]
 exact nAs (F1 [_,_,_,_,_,_] [] 1457012222216361560472521985411059845216 h) (F1 [_,_,_,_,_,_] [] 1457012087524732780509689598183918307424 h)
theorem iv_get' (l:List Nat){i:Int}{k:Nat}(h:i=k)(hk:k<l.length){d:Nat}(e:l[k]=d):pyIdx (iv l) i=some (.int (d:Int)):=by
 rw [iv_get l h hk,e]
end
section
theorem mod_mul_congr {m x y:Nat}(k:Nat)(h:x%m=y%m):x*k%m=y*k%m:=by rw [Nat.mul_mod,h,← Nat.mul_mod]
theorem cancel2 {m x y:Nat}(ho:m%2=1)(h:x*2%m=y*2%m):x%m=y%m:=by
 obtain ⟨c,hc⟩:∃ c,m=2*c+1:=⟨m/2,by exact nAs (F2 [_,_,_] [] 1356843183029630369113286416388 ho (Nat.div_add_mod _ _)) (F2 [_,_,_] [] 1389124418144926604096092542980 ho (Nat.div_add_mod _ _))⟩
 have h2:=mod_mul_congr (c+1) h
 have e:∀ z,z*2*(c+1)%m=z%m:=fun z=>by
  rw [Nat.mul_assoc,show 2*(c+1)=m+1 by exact nAs (F1 [_,_] [] 21200781656223809543552241952 hc) (F1 [_,_] [] 21221500444341654554623217952 hc),Nat.mul_add,Nat.mul_one,Nat.add_comm,Nat.add_mul_mod_self_right]
 rw [e,e] at h2;exact h2
theorem cancel_pow {m:Nat}(ho:m%2=1):∀ (k:Nat) {x y:Nat},x*2^k%m=y*2^k%m→x%m=y%m
 | 0,x,y,h=>by simpa using h
 | k+1,x,y,h=>by
  rw [Nat.pow_succ,← Nat.mul_assoc,← Nat.mul_assoc] at h
  exact cancel_pow ho k (cancel2 ho h)
theorem iv_ints (l:List Nat):iv l=(l.map fun (n:Nat)=>(n:Int)).map V.int:=by
 unfold iv;rw [List.map_map];rfl
theorem ints_eq {l r:List Nat}:(l.map fun (n:Nat)=>(n:Int))=(r.map fun (n:Nat)=>(n:Int))↔l=r:=by
 constructor
 ·intro h
  refine iv_inj ?_
  rw [iv_ints,iv_ints,h]
 ·rintro rfl;rfl
theorem eqL {l r:List Nat}{k:Bool→Prop}(h:k (decide (l=r))):∃ ns ms:List Int,iv l=ns.map V.int∧iv r=ms.map V.int∧k (decide (ns=ms)):=by
 refine ⟨_,_,iv_ints l,iv_ints r,?_⟩
 have:decide ((l.map fun (n:Nat)=>(n:Int))=(r.map fun (n:Nat)=>(n:Int)))=decide (l=r):=by
  by_cases e:l=r
  ·rw [decide_eq_true e,decide_eq_true (ints_eq.mpr e)]
  ·rw [decide_eq_false e,decide_eq_false fun z=>e (ints_eq.mp z)]
 rw [this];exact h
theorem neL {l r:List Nat}{k:Bool→Prop}(h:k (!decide (l=r))):∃ ns ms:List Int,iv l=ns.map V.int∧iv r=ms.map V.int∧k (!decide (ns=ms)):=eqL (k:=fun b=>k (!b)) h
theorem eqL_if {l r:List Nat}{A B:Prop}(h:if decide (l=r)=true then A else B):∃ ns ms:List Int,iv l=ns.map V.int∧iv r=ms.map V.int∧if decide (ns=ms)=true then A else B:=eqL (k:=fun b=>if b=true then A else B) h
theorem eqNil_if {l:List Nat}{A B:Prop}(h:if decide (l=[])=true then A else B):∃ ns ms:List Int,iv l=ns.map V.int∧[]=ms.map V.int∧if decide (ns=ms)=true then A else B:=eqL_if (r:=[]) h
theorem neL_if {l r:List Nat}{A B:Prop}(h:if (!decide (l=r))=true then A else B):∃ ns ms:List Int,iv l=ns.map V.int∧iv r=ms.map V.int∧if (!decide (ns=ms))=true then A else B:=eqL (k:=fun b=>if (!b)=true then A else B) h
theorem col_set {B:Nat}{l:List Nat}{i c carry p T:Nat}(h:i<l.length)(hT:vl B l+B^i*carry=T)(hc:c=carry+l[i]+p):vl B (l.set i (c%B))+B^(i+1)*(c/B)=T+B^i*p:=by
 have h1:=vl_set B l i (c%B) h
 have e:B^(i+1)*(c/B)=B^i*(B*(c/B)):=by rw [Nat.pow_succ,Nat.mul_assoc]
 have e2:B^i*(c%B)+B^i*(B*(c/B))=B^i*c:=by rw [← Nat.mul_add,Nat.mod_add_div]
 have e3:B^i*c=B^i*carry+B^i*l[i]+B^i*p:=by rw [hc,Nat.mul_add,Nat.mul_add]
 exact nAs (F5 [_,_,_,_,_,_,_,_,_,_] [] 6883199330321736241738615509141997847024568128430961380698208 hT h1 e e2 e3) (F5 [_,_,_,_,_,_,_,_,_,_] [] 6883490503363850860102635629266473917165878106076684323268704 hT h1 e e2 e3)
theorem vl_div {B:Nat}(hB:2≤B):∀ {l:List Nat},Lim B l→∀ k,vl B l/B^k=vl B (l.drop k)
 | l,h,0=>by simp
 | [],h,k+1=>by simp [vl]
 | d::ds,h,k+1=>by
  have hd:d<B:=h d (List.mem_cons_self ..)
  rw [List.drop_succ_cons,← vl_div hB (fun x hx=>h x (List.mem_cons_of_mem _ hx)) k,Nat.pow_succ,Nat.mul_comm,← Nat.div_div_eq_div_mul]
  congr 1
  show (d+B*vl B ds)/B=_
  rw [Nat.add_mul_div_left _ _ (by exact F1 [_] [] 19864819716 hB),Nat.div_eq_of_lt hd,Nat.zero_add]
theorem vl_limb {B:Nat}(hB:2≤B){l:List Nat}(h:Lim B l){k:Nat}(hk:k<l.length):vl B l/B^k%B=l[k]:=by
 rw [vl_div hB h,List.drop_eq_getElem_cons hk]
 show (l[k]+B*_)%B=_
 rw [Nat.add_mul_mod_self_left]
 exact Nat.mod_eq_of_lt (h _ (List.getElem_mem hk))
theorem lim_drop {B:Nat}{l:List Nat}(h:Lim B l)(k:Nat):Lim B (l.drop k):=fun x hx=>h x (List.mem_of_mem_drop hx)
theorem lim_append {B:Nat}{l r:List Nat}(h:Lim B l)(h':Lim B r):Lim B (l++r):=fun x hx=>(List.mem_append.mp hx).elim (h x) (h' x)
theorem useB1 {Γ:Gam}{a:Addr}{S:SpecB}{l vs:List V}{q:V→List V→Prop}(h:Γ.fb.lookup a=some S)(x:S.X)(e:(l,vs)=S.enc x)(p:S.pre x)(k:∀ r l',S.post x r l'→q r l'):Γ.useB (.ref a) l vs q:=⟨S,h,x,e,p,k⟩
end
section
noncomputable def SS:=And.intro @List.append_nil.{0} (And.intro @List.replicate_succ.{0} (And.intro @List.replicate_zero.{0} (And.intro @List.length_cons.{0} (And.intro @List.length_nil.{0} (And.intro @nl_eq (And.intro @iv_len (And.intro @List.length_set.{0} (And.intro @List.length_append.{0} (And.intro @List.length_replicate.{0} (And.intro @pw1 (And.intro @pwm (And.intro @shr_nat (And.intro @fdiv_nat (And.intro @fmod_nat (And.intro @and_mask (And.intro @and_one (And.intro @decide_true (And.intro @decide_false (And.intro @if_true.{1} (And.intro @if_false.{1} (And.intro @true_and (And.intro @and_true (And.intro @Bool.false_eq_true (And.intro @Int.natCast_nonneg (@one_abs)))))))))))))))))))))))))
local macro_rules | `(tactic| simpa! only [$ls,*])=>`(tactic| (k_extra "mD";try simp only [SS,reduceCtorEq,$ls,*]))
local macro_rules | `(tactic| simp! only [$ls,*])=>`(tactic| ((iterate 3 simpa! only [$ls,*]);try (k_extra "mQ";(simpa! only [$ls,*]);k_extra "mD")))
theorem rowsP:True:=by
 k_with "mD" => (try dsimp only [W_skip,W_seq,W_asg,W_asgO,W_multi,W_unpk,W_aug,ag_val,W_setL,st_own,st_bor,W_app,ap_own,W_exprB,W_expr,W_ifs,W_ret,W_cont,W_raise,sq_next,sq_brk,sq_cont,sq_ret,lp_next,lp_cont,lp_brk,lp_ret,r_ret,r_next,is_nil,is_val,is_own,ts_nil,ts_val,ts_own,set_nil,set_cons,it_rng1,it_rng2,it_rng3,it_lst,it_enm,x_loc,x_cst,x_glo,x_bin,x_neg,x_not,x_cmp,x_and,x_or,x_ite,x_call,x_callB,x_len,x_max,x_min,x_bits,x_attr,x_sub,x_subL,x_tup,x_fresh,x_fdisp,x_frep,x_fcat,x_fcut,x_snil,x_scons,lo_val,lo_own,sl_val,sl_own,sl_bor,at_val,cb_own,cb_bor,onI_int,onB_bool,onL_lst,onT_tup,onN_none,onO_some,onS_val,onS_own,onS_bor,binP_int,b_add,b_sub,b_mul,b_div,b_mod,b_shl,b_shr,b_and,b_or,c_int,c_lst,c_tup,c_non,c_lt,c_le,c_gt,c_ge,c_eq,c_ne,c_Leq,c_Lne,c_Lin,c_is,c_isnt,n_none,n_int,n_lst,i_lst,i_tup,bnd_none,bnd_int,a_mod,a_min,a_one,a_sq,obS,List.getElem?_cons_zero,List.getElem?_cons_succ,List.set_cons_zero,List.set_cons_succ,mp_cons,mp_nil,List.cons_append,List.nil_append])
 k_with "mQ" => (first | with_reducible refine hN2 _ ?_ | with_reducible refine hN _ ?_ | (with_reducible refine hq2 _ _ ?_;try dsimp only [W_skip,W_seq,W_asg,W_asgO,W_multi,W_unpk,W_aug,ag_val,W_setL,st_own,st_bor,W_app,ap_own,W_exprB,W_expr,W_ifs,W_ret,W_cont,W_raise,sq_next,sq_brk,sq_cont,sq_ret,lp_next,lp_cont,lp_brk,lp_ret,r_ret,r_next,is_nil,is_val,is_own,ts_nil,ts_val,ts_own,set_nil,set_cons,it_rng1,it_rng2,it_rng3,it_lst,it_enm];first | with_reducible refine hN _ ?_ | (with_reducible refine hq _ _ ?_;try dsimp only [W_skip,W_seq,W_asg,W_asgO,W_multi,W_unpk,W_aug,ag_val,W_setL,st_own,st_bor,W_app,ap_own,W_exprB,W_expr,W_ifs,W_ret,W_cont,W_raise,sq_next,sq_brk,sq_cont,sq_ret,lp_next,lp_cont,lp_brk,lp_ret,r_ret,r_next,is_nil,is_val,is_own,ts_nil,ts_val,ts_own,set_nil,set_cons,it_rng1,it_rng2,it_rng3,it_lst,it_enm]) | skip) | (with_reducible refine hq _ _ ?_;try dsimp only [W_skip,W_seq,W_asg,W_asgO,W_multi,W_unpk,W_aug,ag_val,W_setL,st_own,st_bor,W_app,ap_own,W_exprB,W_expr,W_ifs,W_ret,W_cont,W_raise,sq_next,sq_brk,sq_cont,sq_ret,lp_next,lp_cont,lp_brk,lp_ret,r_ret,r_next,is_nil,is_val,is_own,ts_nil,ts_val,ts_own,set_nil,set_cons,it_rng1,it_rng2,it_rng3,it_lst,it_enm]))
 exact True.intro
section
noncomputable def normalS:Spec:={ X:=List Nat,enc:=fun l=>[nl l],pre:=fun _=>True,post:=fun l r=>r=nl (nrm l) }
theorem w_normal (Γ:Gam)(l:List Nat):W Γ c_normal [.val (nl l),.un] fun f _=>retV f (·=nl (nrm l)):=by
 (try dsimp only [c_normal];simp! only [SS])
 k_extra "mD";refine W_while (fun k:Nat=>[.val (.lst (iv l)),.val (.int (k:Nat))]) (fun k=>k≤l.length∧∀ i (h:i<l.length),k≤i→l[i]=0) id l.length rfl ⟨Nat.le_refl _,fun i h1 h2=>by lia⟩ ?_
 rintro R hq k ⟨h1,h2⟩ N hN
 have cut:k=0∨(∃ h:k-1<l.length,l[k-1]≠0)→V.lst (cutL (iv l) none (some (k:Int)))=.lst (iv (nrm l)):=fun h=>by
  rw [iv_cut l (lo:=none) (hi:=some (k:Int)) (a:=0) (b:=k) rfl (clip_nat _ _ h1),nrm_cut' l k h1 h2 h];rfl
 (simp! only [SS])
 by_cases hk:0<k
 ·(simp! only [Int.natCast_pos.mpr hk])
  refine ⟨_,iv_get l (i:=(k:Int)-1) (k:=k-1) (by lia) (by lia),?_⟩
  by_cases hz:l[k-1]=0
  ·(simp! only [hz,Int.natCast_zero])
   refine ⟨k-1,by rw [show ((k:Int)-1)=((k-1:Nat):Int) by lia],by show k-1<k;lia,by lia,fun i h3 h4=>?_⟩
   by_cases hi:i=k-1
   ·subst hi;exact hz
   ·exact h2 i h3 (by lia)
  ·have:¬((l[k-1]:Nat):Int)=0:=by lia
   (simp! only [this])
   exact cut (.inr ⟨by lia,hz⟩)
 ·have h0:k=0:=by exact nAs (F1 [_] [] 1170922088450 hk) (F0 [_] [] 71682)
  (simp! only [h0,Int.natCast_zero,Int.lt_irrefl])
  have:=cut (.inl h0)
  rwa [h0] at this
end
section
noncomputable def natOfS:Spec:={ X:=Nat×Nat,enc:=fun x=>[.int (x.1:Nat),.int (x.2:Nat)],pre:=fun x=>x.1<2^64∧1≤x.2∧x.2≤64,post:=fun x r=>r=nl (dg (2^x.2) x.1) }
theorem w_nat_of (Γ:Gam)(n w:Nat)(hn:n<2^64)(hw:1≤w)(hw2:w≤64):W Γ c_nat_of [.val (.int (n:Nat)),.val (.int (w:Nat)),.un,.un] fun f _=>retV f (·=nl (dg (2^w) n)):=by
 have hB:=tLP hw
 have neg:¬((n:Int)<0):=F0 [_] [] 425218848
 have bw:(w:Int)≤1000:=F1 [_] [] 6404681908641111604207712 hw2
 (try dsimp only [c_nat_of];simp! only [neg,bw])
 k_extra "mD";refine W_while (fun x:Nat×List Nat=>[.val (.int (x.1:Nat)),.val (.int (w:Nat)),.own (iv x.2),.val (.int (((2^w:Nat):Int)-1))]) (fun x=>x.2++dg (2^w) x.1=dg (2^w) n) (fun x=>x.1) (n,[]) rfl rfl ?_
 refine fun Rq hq=>pr2 fun m done h N hN=>?_
 dsimp only at h
 (simp! only [SS])
 have hlen:done.length<sMx:=by
  have h1:(dg (2^w) n).length≤64:=dg_len_le hB (Nat.lt_of_lt_of_le hn (Nat.pow_le_pow_left hB 64))
  have h2:done.length≤(dg (2^w) n).length:=by rw [← h,List.length_append];exact F0 [_,_] [] 287447072
  have:sMx=1048576:=rfl
  exact F3 [_,_,_] [] 384398645528121866826389904741646432 h1 h2 this
 by_cases hm:0<m
 ·(simp! only [Int.natCast_pos.mpr hm,hlen])
  refine ⟨(m/2^w,done++[m%2^w]),by rw [iv_app],Nat.div_lt_self hm (by exact F1 [_] [] 19865081860 hB),?_⟩
  rw [← h,dg_pos hB hm,List.append_assoc];rfl
 ·have h0:m=0:=by exact nAs (F1 [_] [] 1170922088450 hm) (F0 [_] [] 71682)
  subst h0
  (simp! only [Int.natCast_zero,Int.lt_irrefl])
  rw [← h,dg_zero,List.append_nil]
noncomputable def isEvenS:Spec:={ X:=Nat×Nat,enc:=fun x=>[nl (dg (2^x.2) x.1)],pre:=fun x=>1≤x.2,post:=fun x r=>r=.bool (decide (x.1%2=0)) }
theorem w_is_even (Γ:Gam)(n w:Nat)(hw:1≤w):W Γ c_is_even [.val (nl (dg (2^w) n))] fun f _=>retV f (·=.bool (decide (n%2=0))):=by
 have hB:=tLP hw
 (try dsimp only [c_is_even];simp! only [SS])
 by_cases h0:n=0
 ·subst h0
  (simp! only [dg_zero,Int.natCast_zero])
 ·have e:=dg_pos hB (n:=n) (by exact nPo h0)
  have hl:¬(((dg (2^w) n).length:Nat):Int)=0:=by rw [e,List.length_cons];exact F0 [_] [] 1742770045152
  (simp! only [hl])
  refine ⟨_,iv_get (dg (2^w) n) (i:=0) (k:=0) rfl (by rw [e,List.length_cons];exact F0 [_] [] 304101378),?_⟩
  have e0:(dg (2^w) n)[0]'(by rw [e,List.length_cons];exact F0 [_] [] 304101378)=n%2^w:=by
   rw [dg_get hB];simp
  (simp! only [e0])
  have e1:n%2^w%2=n%2:=by
   obtain ⟨v,rfl⟩:∃ v,w=v+1:=⟨w-1,by exact nAs (sb1) (F1 [_,_] [] 315568874110353632 (nSc hw))⟩
   exact Nat.mod_mod_of_dvd _ ⟨2^v,by rw [Nat.pow_succ];exact nAs (F0 [_] [] 1178432737568) (F0 [_] [] 1177970317316)⟩
  rw [e1]
  by_cases hz:n%2=0
  ·simp [hz]
  ·have:n%2=1:=by exact nAs (F1 [_] [] 18312405280 ml) (F1 [_] [] 18791344130 (nPo hz))
   simp [this]
noncomputable def cmpR (a b:Nat):Int:=if a<b then -1 else if a=b then 0 else 1
noncomputable def compareS:Spec:={ X:=Nat×Nat×Nat,enc:=fun x=>[nl (dg (2^x.2.2) x.1),nl (dg (2^x.2.2) x.2.1)],pre:=fun x=>1≤x.2.2∧x.1<2^64∧x.2.1<2^64,post:=fun x r=>r=.int (cmpR x.1 x.2.1) }
theorem len64 {B n:Nat}(hB:2≤B)(h:n<2^64):(dg B n).length≤64:=dg_len_le hB (Nat.lt_of_lt_of_le h (Nat.pow_le_pow_left hB 64))
theorem w_compare (Γ:Gam)(a b w:Nat)(hw:1≤w)(ha:a<2^64)(hb:b<2^64):W Γ c_compare [.val (nl (dg (2^w) a)),.val (nl (dg (2^w) b)),.un] fun f _=>retV f (·=.int (cmpR a b)):=by
 have hB:=tLP hw
 have la:=len64 hB ha
 have lb:=len64 hB hb
 (try dsimp only [c_compare];simp! only [SS])
 by_cases hl:(dg (2^w) a).length=(dg (2^w) b).length
 ·have hl':¬((!decide (((dg (2^w) a).length:Int)=((dg (2^w) b).length:Int)))=true):=by simp [hl]
  rw [if_neg hl']
  generalize hL:(dg (2^w) a).length=L at *
  have hbL:(dg (2^w) b).length=L:=hl.symm
  k_extra "mD";refine W_for1 (fun s:Slot=>[.val (.lst (iv (dg (2^w) a))),.val (.lst (iv (dg (2^w) b))),s]) (fun k _=>a/(2^w)^(L-k)=b/(2^w)^(L-k)) (vs:=rangeL ((L:Int)-1) (-1) (-1)) .un (fun R h=>?_) ?_ (fun Rq hq k v s hv hk N hN=>?_) (fun s hk=>?_)
  ·(simp! only [hL])
   refine ⟨⟨by exact nac (fun k1 k2=>F2 [_,_] [] 6359196873018506699878393385739990844183328 la k2) fun k1 k2=>F1 [_,_] [] 5922463604266295861366928385905440 k2,by exact F0 [] [] 21040817459074986051,by exact F0 [] [] 21040817459074986051,by exact F0 [] [] 425743302⟩,h⟩
  ·have h1:=dg_lt hB a
   have h2:=dg_lt hB b
   rw [hL] at h1;rw [hbL] at h2
   show a/(2^w)^(L-0)=b/(2^w)^(L-0)
   rw [Nat.sub_zero,Nat.div_eq_of_lt h1,Nat.div_eq_of_lt h2]
  ·obtain ⟨rfl,hlt⟩:=rangeD_get hv
   have hkL:k<L:=F1 [_,_] [] 87402226655216782148550 hlt
   have ia:L-1-k<(dg (2^w) a).length:=F3 [_,_,_,_] [] 5607981435194163151012064 hL sb0 (nSc (F1 [_,_] [] 82645272527208931525574 hlt))
   have ib:L-1-k<(dg (2^w) b).length:=F3 [_,_,_,_] [] 1369099786567509682272 hL hl ia
   have hi:(L:Int)-1-(k:Int)=((L-1-k:Nat):Int):=by exact iAs (F2 [_,_,_,_] [] 440220683973272308039450045523703904 sb1 sb1) (F2 [_,_,_,_] [] 440759833533643418460085418924998880 (nSc (F2 [_,_,_] [] 88857289972148305867771471738976 hlt sb1)) (nSc (F1 [_,_] [] 82645272527208931525574 hlt)))
   have ea:=dg_get hB a (L-1-k) ia
   have eb:=dg_get hB b (L-1-k) ib
   have hB1:0<2^w:=F1 [_] [] 19864819716 hB
   have da:=div_limb (B:=2^w) hB1 a (L-1-k)
   have db:=div_limb (B:=2^w) hB1 b (L-1-k)
   have es:L-1-k+1=L-k:=by exact nAs (F2 [_,_,_,_] [] 363826144950713204333033753436891232 hi sb1) (F2 [_,_,_,_] [] 355690359665285497046238624450381920 hi (nSc (F1 [_,_] [] 82679860172347136934854 hlt)))
   rw [es] at da db
   (simp! only [SS])
   refine ⟨_,iv_get _ hi ia,_,iv_get _ hi ib,?_⟩
   rw [ea,eb]
   by_cases he:a/(2^w)^(L-1-k)%2^w=b/(2^w)^(L-1-k)%2^w
   ·rw [he]
    (simp! only [Bool.not_true])
    refine ⟨_,rfl,?_⟩
    have:L-(k+1)=L-1-k:=by exact nAs (F3 [_,_,_,_,_] [] 364922741635872983217933950954518624 es sb1 (nSc (F1 [_,_] [] 338537268231610138939753414 hlt))) (F3 [_,_,_,_,_] [] 364618422549835575581725863608617056 es sb1 (nSc (F1 [_,_] [] 82679860172347136934854 hlt)))
    rw [this,da,db,he,hk]
   ·have hne:¬(((a/(2^w)^(L-1-k)%2^w:Nat):Int)=((b/(2^w)^(L-1-k)%2^w:Nat):Int)):=by exact (Nat.lt_or_gt_of_ne he).elim (fun k1=>F1 [_,_] [] 7143287811024992 k1) fun k1=>F1 [_,_] [] 7138888691034208 k1
    (simp! only [hne,Bool.not_false])
    refine ⟨_,iv_get _ hi ia,_,iv_get _ hi ib,?_⟩
    rw [ea,eb]
    by_cases hx:a/(2^w)^(L-1-k)%2^w<b/(2^w)^(L-1-k)%2^w
    ·have hx':((a/(2^w)^(L-1-k)%2^w:Nat):Int)<((b/(2^w)^(L-1-k)%2^w:Nat):Int):=F1 [_,_] [] 97617300236384 hx
     have:a<b:=lt_of_div (B:=2^w) (k:=L-1-k) (by rw [da,db,hk];exact F1 [_,_,_] [] 326658454117230688 hx)
     (simp! only [hx'])
     unfold cmpR
     rw [if_pos this]
    ·have hx':¬((a/(2^w)^(L-1-k)%2^w:Nat):Int)<((b/(2^w)^(L-1-k)%2^w:Nat):Int):=F1 [_,_] [] 456607469953951840 hx
     have:b<a:=lt_of_div (B:=2^w) (k:=L-1-k) (by rw [da,db,hk];exact (Nat.lt_or_gt_of_ne he).elim (fun k1=>F2 [_,_,_] [] 508393486615942250346129504 hx k1) fun k1=>F1 [_,_,_] [] 326658454117230688 k1)
     (simp! only [hx'])
     unfold cmpR
     rw [if_neg (by exact F1 [_,_] [] 1737859868768 this),if_neg (by exact F1 [_,_] [] 1738933610592 this)]
  ·have hz:L-(rangeL ((L:Int)-1) (-1) (-1)).length=0:=by rw [rangeD_len];exact nAs (sbc (fun k1 k2=>F2 [_,_,_] [] 86401164326993033908637677413152 k2 (iSt _)) fun k1 k2=>F1 [_] [] 18295632032 k2) (F0 [_] [] 71682)
   rw [hz] at hk
   simp only [Nat.pow_zero,Nat.div_one] at hk
   (simp! only [SS])
   unfold cmpR
   rw [hk];simp
 ·have hl':(!decide (((dg (2^w) a).length:Int)=((dg (2^w) b).length:Int)))=true:=by simp;exact (Nat.lt_or_gt_of_ne hl).elim (fun k1=>F1 [_,_] [] 7143287811024992 k1) fun k1=>F1 [_,_] [] 7138888691034208 k1
  rw [if_pos hl']
  by_cases hx:(dg (2^w) a).length<(dg (2^w) b).length
  ·have hx':((dg (2^w) a).length:Int)<((dg (2^w) b).length:Int):=F1 [_,_] [] 97617300236384 hx
   have:a<b:=by
    rcases Nat.lt_or_ge a b with z | z
    ·exact z
    ·have:=dg_len_mono hB z;lia
   (simp! only [hx'])
   unfold cmpR
   rw [if_pos this]
  ·have hx':¬((dg (2^w) a).length:Int)<((dg (2^w) b).length:Int):=F1 [_,_] [] 456607469953951840 hx
   have:b<a:=by
    rcases Nat.lt_or_ge b a with z | z
    ·exact z
    ·have:=dg_len_mono hB z;lia
   (simp! only [hx'])
   unfold cmpR
   rw [if_neg (by exact F1 [_,_] [] 1737859868768 this),if_neg (by exact F1 [_,_] [] 1738933610592 this)]
end
section
noncomputable def addS:Spec:={ X:=Nat×Nat×Nat,enc:=fun x=>[nl (dg (2^x.2.2) x.1),nl (dg (2^x.2.2) x.2.1),.int (x.2.2:Nat)],pre:=fun x=>1≤x.2.2∧x.2.2≤64∧x.1<2^64∧x.2.1<2^64,post:=fun x r=>r=nl (dg (2^x.2.2) (x.1+x.2.1)) }
theorem w_add (Γ:Gam)(a b w:Nat)(hw:1≤w)(hw2:w≤64)(ha:a<2^64)(hb:b<2^64) :
  W Γ c_add [.val (nl (dg (2^w) a)),.val (nl (dg (2^w) b)),.val (.int (w:Nat)),.un,.un,.un,.un] fun f _=>retV f (·=nl (dg (2^w) (a+b))):=by
 have hB:=tLP hw
 have key:∀ x y,x<2^64→y<2^64→(dg (2^w) y).length≤(dg (2^w) x).length →
   W Γ (restC c_add) [.val (nl (dg (2^w) x)),.val (nl (dg (2^w) y)),.val (.int (w:Nat)),.un,.un,.un,.un] fun f _=>retV f (·=nl (dg (2^w) (x+y))):=by
  intro x y hx hy hl
  have lx:=len64 hB hx
  have ly:=len64 hB hy
  have bw:(w:Int)≤1000:=F1 [_] [] 6404681908641111604207712 hw2
  (try dsimp only [c_add];simp! only [rest_seq,bw])
  k_extra "mD";refine W_for1 (fun t:List Nat×Nat×Slot=>[.val (.lst (iv (dg (2^w) x))),.val (.lst (iv (dg (2^w) y))),.val (.int (w:Nat)),.own (iv t.1),.val (.int (t.2.1:Nat)),.val (.int (((2^w:Nat):Int)-1)),t.2.2])
   (fun k t=>t.1.length=k∧Lim (2^w) t.1∧t.2.1≤1∧vl (2^w) t.1+(2^w)^k*t.2.1=x%(2^w)^k+y%(2^w)^k) (vs:=rangeL 0 ((dg (2^w) y).length:Int) 1) ([],0,.un) (fun R h=>?_) ?_ (fun Rq hq k v t hv hk N hN=>?_) (fun t hk=>?_)
  ·(simp! only [SS])
   exact ⟨by exact F1 [_] [] 92538493816660872737721635840096 ly,h⟩
  ·exact ⟨rfl,fun d hd=>(nomatch hd),Nat.zero_le _,by simp [vl,Nat.mod_one]⟩
  ·obtain ⟨rfl,hlt⟩:=rangeL_get hv
   revert t;refine pr3 fun found carry sl hk=>?_
   dsimp only at hk
   refine an4 hk fun h1 h2 h3 h4=>?_;clear hk
   have hky:k<(dg (2^w) y).length:=F1 [_,_] [] 333690110160979973 hlt
   have ex:=dg_get hB x k (by exact F2 [_,_,_] [] 87548563335410206689285 hl hlt)
   have ey:=dg_get hB y k hky
   have hx0:x/(2^w)^k%2^w<2^w:=Nat.mod_lt _ (by exact F1 [_] [] 19864819716 hB)
   have hy0:y/(2^w)^k%2^w<2^w:=Nat.mod_lt _ (by exact F1 [_] [] 19864819716 hB)
   (simp! only [SS])
   refine ⟨_,iv_get' _ (k:=k) (by exact iAs (F0 [_] [] 1456534243333) (F0 [_] [] 1457277391648)) (by exact F2 [_,_,_] [] 87548563335410206689285 hl hlt) ex,_,iv_get' _ (k:=k) (by exact iAs (F0 [_] [] 1456534243333) (F0 [_] [] 1457277391648)) (by exact hky) ey,?_⟩
   generalize hxk:x/(2^w)^k%2^w=xk at *
   generalize hyk:y/(2^w)^k%2^w=yk at *
   have hc:(carry:Int)+((xk:Int)+(yk:Int))=((carry+xk+yk:Nat):Int):=by exact iAs (F0 [_,_,_] [] 409866150365328740224996128) (F0 [_,_,_] [] 410190399937103392552814688)
   (simp! only [SS])
   rw [hc]
   have hsz:found.length<sMx:=by have:sMx=1048576:=rfl;exact F4 [_,_,_,_] [] 1690603121838059936044424584292327728401545707616 ly hlt h1 this
   (simp! only [hsz])
   refine ⟨(found++[(carry+xk+yk)%2^w],(carry+xk+yk)/2^w,_),by rw [iv_app],by simp [h1],lim_snoc h2 (Nat.mod_lt _ (by exact F1 [_] [] 19864819716 hB)),?_,?_⟩
   ·have:(carry+xk+yk)/2^w<2:=by rw [Nat.div_lt_iff_lt_mul (by exact F1 [_] [] 19864819716 hB)];exact F3 [_,_,_,_] [] 92024828641207265958687360493664 h3 hx0 hy0
    show (carry+xk+yk)/2^w≤1;exact F1 [_] [] 18312405280 this
   ·show vl (2^w) (found++[(carry+xk+yk)%2^w])+(2^w)^(k+1)*((carry+xk+yk)/2^w)=_
    rw [vl_snoc,h1,col h4 rfl (t:=0),mod_pow_succ',mod_pow_succ',hxk,hyk]
  ·rw [rangeL_len] at hk
   have e0:((((dg (2^w) y).length:Nat):Int)-0).toNat=(dg (2^w) y).length:=by exact nAs (F1 [_,_] [] 315675782048518944 (iTn (F0 [_] [] 22784821253))) (F1 [_,_] [] 315675642932253472 (iSt _))
   rw [e0] at hk
   (simp! only [SS])
   k_extra "mD";refine W_for1 (fun t:List Nat×Nat×Slot=>[.val (.lst (iv (dg (2^w) x))),.val (.lst (iv (dg (2^w) y))),.val (.int (w:Nat)),.own (iv t.1),.val (.int (t.2.1:Nat)),.val (.int (((2^w:Nat):Int)-1)),t.2.2])
    (fun k t=>t.1.length=(dg (2^w) y).length+k∧Lim (2^w) t.1∧t.2.1≤1∧vl (2^w) t.1+(2^w)^((dg (2^w) y).length+k)*t.2.1=x%(2^w)^((dg (2^w) y).length+k)+y%(2^w)^((dg (2^w) y).length+k)) (vs:=rangeL ((dg (2^w) y).length:Int) ((dg (2^w) x).length:Int) 1) t (fun R h=>?_) hk (fun Rq hq k v t hv hk N hN=>?_) (fun t hk=>?_)
   ·(simp! only [SS])
    exact ⟨⟨by exact F1 [_] [] 92538493816660872737721635840096 ly,by exact F1 [_] [] 92538493816660872737721635840096 lx⟩,h⟩
   ·obtain ⟨rfl,hlt⟩:=rangeL_get hv
    revert t;refine pr3 fun found carry sl hk=>?_
    dsimp only at hk
    generalize hkk:(dg (2^w) y).length+k=j at *
    refine an4 hk fun h1 h2 h3 h4=>?_;clear hk
    have ex:=dg_get hB x j (by exact F2 [_,_,_,_] [] 22970299853684063840714131552 hlt hkk)
    have hx0:x/(2^w)^j%2^w<2^w:=Nat.mod_lt _ (by exact F1 [_] [] 19864819716 hB)
    have hyk:=limb_past hB y (k:=j) (by exact F1 [_,_,_] [] 77137940351072 hkk)
    (simp! only [SS])
    refine ⟨_,iv_get' _ (k:=j) (by exact iAs (F1 [_,_,_] [] 100094576897832440596576 hkk) (F1 [_,_,_] [] 100143359884600235559008 hkk)) (by exact F2 [_,_,_,_] [] 22970299853684063840714131552 hlt hkk) ex,?_⟩
    generalize hxk:x/(2^w)^j%2^w=xk at *
    have hc:(carry:Int)+(xk:Int)=((carry+xk+0:Nat):Int):=by exact iAs (F0 [_,_] [] 1563506275871609721632) (F0 [_,_] [] 1564739998196437649504)
    (simp! only [SS])
    rw [hc]
    have hsz:found.length<sMx:=by have:sMx=1048576:=rfl;exact F5 [_,_,_,_,_,_] [] 116177361900959577936039022013271498091024543062142283169888 lx hlt hkk h1 this
    (simp! only [hsz])
    refine ⟨(found++[(carry+xk+0)%2^w],(carry+xk+0)/2^w,_),by rw [iv_app],by simp [h1];exact nAs (F1 [_,_,_] [] 5176308023317781130283104 hkk) (F1 [_,_,_] [] 5175974371867656760887392 hkk),lim_snoc h2 (Nat.mod_lt _ (by exact F1 [_] [] 19864819716 hB)),?_,?_⟩
    ·have:(carry+xk+0)/2^w<2:=by rw [Nat.div_lt_iff_lt_mul (by exact F1 [_] [] 19864819716 hB)];exact F3 [_,_,_] [] 92024828499533947744999795402848 hB h3 hx0
     show (carry+xk+0)/2^w≤1;exact F1 [_] [] 18312405280 this
    ·show vl (2^w) (found++[(carry+xk+0)%2^w])+(2^w)^((dg (2^w) y).length+(k+1))*((carry+xk+0)/2^w)=_
     rw [← Nat.add_assoc,hkk,vl_snoc,h1,col h4 rfl (t:=0),mod_pow_succ',mod_pow_succ',hxk,hyk]
   ·rw [rangeL_len] at hk
    have e1:(dg (2^w) y).length+((((dg (2^w) x).length:Nat):Int)-(((dg (2^w) y).length:Nat):Int)).toNat=(dg (2^w) x).length:=by exact nAs (F1 [_,_,_] [] 82725009931582596846368 (iTn (F1 [_,_] [] 382298007394392160 hl))) (F1 [_,_,_] [] 80910328925869730566944 (iSt _))
    rw [e1] at hk
    revert t;refine pr3 fun found carry sl hk=>?_
    dsimp only at hk
    refine an4 hk fun h1 h2 h3 h4=>?_;clear hk
    rw [mod_len hB x (Nat.le_refl _),mod_len hB y hl] at h4
    (simp! only [SS])
    by_cases hc:0<carry
    ·have c1:carry=1:=by exact nAs (h3) (F1 [_] [] 18791344130 hc)
     subst c1
     have hsz:found.length<sMx:=by have:sMx=1048576:=rfl;exact F3 [_,_,_] [] 384398645528121869132232913955340384 lx h1 this
     (simp! only [hsz,Int.natCast_pos.mpr hc])
     rw [iv_app]
     have e2:vl (2^w) (found++[1])=x+y:=by rw [vl_snoc,h1];exact h4
     rw [← e2,← dg_full hB (lim_snoc h2 (by exact F1 [_] [] 19865081860 hB)) (.inr ?_)]
     rw [vl_snoc,List.length_append,List.length_singleton,Nat.add_sub_cancel,Nat.mul_one]
     exact F0 [_,_] [] 287443040
    ·have c0:carry=0:=by exact nAs (F1 [_] [] 1170922088450 hc) (F0 [_] [] 71682)
     subst c0
     (simp! only [Int.natCast_zero,Int.lt_irrefl])
     rw [Nat.mul_zero,Nat.add_zero] at h4
     rw [← h4,← dg_full hB h2 ?_]
     by_cases hx0:x=0
     ·left
      rw [hx0,dg_zero] at h1
      exact List.length_eq_zero_iff.mp h1
     ·right
      rw [h1,h4]
      have:=top_le hB (n:=x) (by exact nPo hx0)
      exact F1 [_,_,_] [] 75353615833184 this
 rw [show c_add=.seq (.ifs (.cmp .Lt (.lenL 0) (.lenL 1)) (.seq (.multi (.val 0 (.loc 1) (.val 1 (.loc 0) .nil))) .skip) .skip) (restC c_add) from rfl]
 (simp! only [SS])
 by_cases hl:(dg (2^w) a).length<(dg (2^w) b).length
 ·have hl':((dg (2^w) a).length:Int)<((dg (2^w) b).length:Int):=F1 [_,_] [] 97617300236384 hl
  (simp! only [hl'])
  have:=key b a hb ha (by exact F1 [_,_] [] 18815723616 hl)
  rw [Nat.add_comm b a] at this
  exact this
 ·have hl':¬((dg (2^w) a).length:Int)<((dg (2^w) b).length:Int):=F1 [_,_] [] 456607469953951840 hl
  (simp! only [hl'])
  exact key a b ha hb (by exact F1 [_,_] [] 1203151120480 hl)
end
section
noncomputable def subS:Spec:={ X:=Nat×Nat×Nat,enc:=fun x=>[nl (dg (2^x.2.2) x.1),nl (dg (2^x.2.2) x.2.1),.int (x.2.2:Nat)],pre:=fun x=>1≤x.2.2∧x.2.2≤64∧x.1<2^64∧x.2.1≤x.1,post:=fun x r=>r=nl (dg (2^x.2.2) (x.1-x.2.1)) }
noncomputable abbrev Γsub:Gam:=⟨[(91,compareS),(70,normalS)],[],none⟩
theorem w_sub (a b w:Nat)(hw:1≤w)(hw2:w≤64)(ha:a<2^64)(hb:b≤a) :
  W Γsub c_sub [.val (nl (dg (2^w) a)),.val (nl (dg (2^w) b)),.val (.int (w:Nat)),.un,.un,.un,.un,.un] fun f _=>retV f (·=nl (dg (2^w) (a-b))):=by
 have hB:=tLP hw
 have la:=len64 hB ha
 have lb:=len64 hB (Nat.lt_of_le_of_lt hb ha)
 have lba:=dg_len_mono hB hb
 have bw:(w:Int)≤1000:=F1 [_] [] 6404681908641111604207712 hw2
 (try dsimp only [c_sub];simp! only [SS])
 k_extra "mD";refine use1 (S:=compareS) rfl (a,b,w) rfl ⟨hw,ha,Nat.lt_of_le_of_lt hb ha⟩ fun r hr=>?_
 have hr:r=.int (cmpR a b):=hr
 subst hr
 have hc:¬cmpR a b<0:=by unfold cmpR;rw [if_neg (by exact F1 [_,_] [] 1737859864672 hb)];split <;> first | exact F0 [] [] 6644037 | exact F0 [] [] 6644038
 (simp! only [hc,bw])
 k_extra "mD";refine W_for1 (fun t:List Nat×Nat×Slot×Slot=>[.val (.lst (iv (dg (2^w) a))),.val (.lst (iv (dg (2^w) b))),.val (.int (w:Nat)),.own (iv t.1),.val (.int (t.2.1:Nat)),.val (.int ((2^w:Nat):Int)),t.2.2.1,t.2.2.2])
  (fun k t=>t.1.length=k∧Lim (2^w) t.1∧t.2.1≤1∧a%(2^w)^k+(2^w)^k*t.2.1=b%(2^w)^k+vl (2^w) t.1) (vs:=rangeL 0 ((dg (2^w) a).length:Int) 1) ([],0,.un,.un) (fun R h=>?_) ?_ (fun Rq hq k v t hv hk N hN=>?_) (fun t hk=>?_)
 ·(simp! only [SS])
  exact ⟨by exact F1 [_] [] 92538493816660872737721635840096 la,h⟩
 ·exact ⟨rfl,fun d hd=>(nomatch hd),Nat.zero_le _,by simp [vl,Nat.mod_one]⟩
 ·obtain ⟨rfl,hlt⟩:=rangeL_get hv
  revert t;refine pr4 fun found bor s1 s2 hk=>?_
  dsimp only at hk
  refine an4 hk fun h1 h2 h3 h4=>?_;clear hk
  have ex:=dg_get hB a k (by exact F1 [_,_] [] 333690110160979973 hlt)
  have hx0:a/(2^w)^k%2^w<2^w:=Nat.mod_lt _ (by exact F1 [_] [] 19864819716 hB)
  have hy0:b/(2^w)^k%2^w<2^w:=Nat.mod_lt _ (by exact F1 [_] [] 19864819716 hB)
  (simp! only [SS])
  refine ⟨_,iv_get' _ (k:=k) (by exact iAs (F0 [_] [] 1456534243333) (F0 [_] [] 1457277391648)) (by exact F1 [_,_] [] 333690110160979973 hlt) ex,?_⟩
  (simp! only [SS])
  have fin:∀ yk:Nat,b/(2^w)^k%2^w=yk→∀ s1:Slot,∀ f:FL→Sg→Prop,(∀ d:Nat,∀ bo:Nat,∀ s:Slot,d<2^w→bo≤1→a/(2^w)^k%2^w+2^w*bo=bor+yk+d→(((a/(2^w)^k%2^w:Nat):Int)-(bor:Int)-(yk:Int)<0↔bo=1) →
    (((a/(2^w)^k%2^w:Nat):Int)-(bor:Int)-(yk:Int)=(d:Int)-(2^w:Nat)*(bo:Int))→True)→True:=fun _ _ _ _ _=>trivial
  have split_:∀ yk:Nat,yk<2^w→∃ d bo:Nat,d<2^w∧bo≤1∧a/(2^w)^k%2^w+2^w*bo=bor+yk+d∧(((a/(2^w)^k%2^w:Nat):Int)-(bor:Int)-(yk:Int)<0↔bo=1):=fun yk hyk=>by
   by_cases hlt:a/(2^w)^k%2^w<bor+yk
   ·exact ⟨a/(2^w)^k%2^w+2^w-bor-yk,1,by exact F3 [_,_,_,_,_,_] [] 385387501615250683451366490814056544 hlt (nSc (F3 [_,_,_,_,_] [] 21713597188375452291114240096 h3 hyk sb1)) (nSc (F2 [_,_,_] [] 19753221192036716768 hB h3)),by exact F0 [] [] 69827,by exact nAs (F2 [_,_,_,_,_,_] [] 93285399082987473383539342336214610511968 sb1 sb1) (F2 [_,_,_,_,_,_] [] 93249405427089922549601180240168650049632 (nSc (F3 [_,_,_,_,_] [] 21713597188375452291114240096 h3 hyk sb1)) (nSc (F2 [_,_,_] [] 19753221192036716768 hB h3))),by exact ⟨fun k2=>nAs (F0 [] [] 69827) (F0 [] [] 69827),fun k3=>F1 [_,_,_] [] 427120083808399899375052896 hlt⟩⟩
   ·exact ⟨a/(2^w)^k%2^w-bor-yk,0,by exact F3 [_,_,_,_] [] 1369135538285400627296 hx0 sb0 sb0,by exact F0 [] [] 69826,by exact nAs (F2 [_,_,_,_,_,_] [] 22774431036475223211533076567456622688 sb1 sb1) (F2 [_,_,_,_,_,_] [] 22765963209701747432830414822929107040 (nSc (F2 [_,_,_,_] [] 5296384521172082514602080 hlt sb1)) (nSc (F1 [_,_,_] [] 4928106982942816 hlt))),by lia⟩
  have hsz:found.length<sMx:=by have:sMx=1048576:=rfl;exact F4 [_,_,_,_] [] 1690603121838059936044424584292327728401545707616 la hlt h1 this
  have nxt:∀ yk d bo:Nat,b/(2^w)^k%2^w=yk→d<2^w→bo≤1→a/(2^w)^k%2^w+2^w*bo=bor+yk+d→a%(2^w)^(k+1)+(2^w)^(k+1)*bo=b%(2^w)^(k+1)+vl (2^w) (found++[d]):=fun yk d bo e1 e2 e3 e4=>by
   rw [vl_snoc,h1,mod_pow_succ',mod_pow_succ',e1,Nat.pow_succ,Nat.mul_assoc]
   have:=congrArg ((2^w)^k*·) e4
   simp only [Nat.mul_add] at this
   exact nAs (F2 [_,_,_,_,_,_,_,_] [] 6408006182504739281860393556471055659985057555712096 h4 this) (F2 [_,_,_,_,_,_,_,_] [] 6410249669727965071915790203366818254275350979184736 h4 this)
  by_cases hyl:k<(dg (2^w) b).length
  ·have hyl':(0:Int)+(k:Int)<((dg (2^w) b).length:Int):=F1 [_,_] [] 399840509240354912 hyl
   have ey:=dg_get hB b k hyl
   (simp! only [hyl'])
   refine ⟨_,iv_get' _ (k:=k) (by exact iAs (F0 [_] [] 1456534243333) (F0 [_] [] 1457277391648)) (by exact hyl) ey,?_⟩
   refine x2a4 (split_ _ hy0) fun d bo e1 e2 e3 e4=>?_
   have nx:=nxt _ d bo rfl e1 e2 e3
   generalize hyk:b/(2^w)^k%2^w=yk at *
   generalize hxk:a/(2^w)^k%2^w=xk at *
   by_cases hbo:bo=1
   ·have hneg:=e4.mpr hbo
    have ed:(xk:Int)-(bor:Int)-(yk:Int)+((2^w:Nat):Int)=(d:Int):=by subst hbo;exact iAs (F1 [_,_,_,_,_] [] 472694164095632563701163069361741419692439648 e3) (F1 [_,_,_,_,_] [] 472913648451422857805090749111105804996720736 e3)
    (simp! only [hneg,hsz,ed])
    exact ⟨(found++[d],1,_,_),by rw [iv_app];rfl,by simp [h1],lim_snoc h2 e1,Nat.le_refl _,hbo▸nx⟩
   ·have b0:bo=0:=by exact nAs ((Nat.lt_or_gt_of_ne hbo).elim (fun k1=>F1 [_] [] 18295628000 k1) fun k1=>F2 [_] [] 473170449279297539 e2 k1) (F0 [_] [] 71682)
    have hneg:¬(xk:Int)-(bor:Int)-(yk:Int)<0:=fun z=>hbo (e4.mp z)
    have ed:(xk:Int)-(bor:Int)-(yk:Int)=(d:Int):=by subst b0;exact iAs (F1 [_,_,_,_,_] [] 1803185459929514264992977704381281740896 e3) (F1 [_,_,_,_,_] [] 1805352278656006840864562909320138991712 e3)
    rw [ed] at hneg
    (simp! only [hsz,ed,hneg])
    exact ⟨(found++[d],0,_,_),by rw [iv_app];rfl,by simp [h1],lim_snoc h2 e1,Nat.zero_le _,b0▸nx⟩
  ·have hyl':¬(0:Int)+(k:Int)<((dg (2^w) b).length:Int):=F1 [_,_] [] 1870264199962339649632 hyl
   have ey:=limb_past hB b (k:=k) (by exact F1 [_,_] [] 1203151120480 hyl)
   (simp! only [hyl'])
   refine x2a4 (split_ 0 (by exact F1 [_] [] 19864819716 hB)) fun d bo e1 e2 e3 e4=>?_
   have nx:=nxt 0 d bo ey e1 e2 e3
   generalize hxk:a/(2^w)^k%2^w=xk at *
   by_cases hbo:bo=1
   ·have hneg:=e4.mpr hbo
    have ed:(xk:Int)-(bor:Int)-((0:Nat):Int)+((2^w:Nat):Int)=(d:Int):=by subst hbo;exact iAs (F1 [_,_,_,_] [] 472688719577759214156384684644598181731252320 e3) (F1 [_,_,_,_] [] 472913648440713745534362593340001618760054880 e3)
    rw [Int.natCast_zero] at hneg ed
    (simp! only [hneg,hsz,ed])
    exact ⟨(found++[d],1,_,_),by rw [iv_app];rfl,by simp [h1],lim_snoc h2 e1,Nat.le_refl _,hbo▸nx⟩
   ·have b0:bo=0:=by exact nAs ((Nat.lt_or_gt_of_ne hbo).elim (fun k1=>F1 [_] [] 18295628000 k1) fun k1=>F2 [_] [] 473170449279297539 e2 k1) (F0 [_] [] 71682)
    have hneg:¬(xk:Int)-(bor:Int)-((0:Nat):Int)<0:=fun z=>hbo (e4.mp z)
    have ed:(xk:Int)-(bor:Int)-((0:Nat):Int)=(d:Int):=by subst b0;exact iAs (F1 [_,_,_,_] [] 1803164688127550762711740158066295056480 e3) (F1 [_,_,_,_] [] 1805341569543736112708791805133902325856 e3)
    rw [ed] at hneg
    rw [Int.natCast_zero] at ed
    (simp! only [hsz,ed,hneg])
    exact ⟨(found++[d],0,_,_),by rw [iv_app];rfl,by simp [h1],lim_snoc h2 e1,Nat.zero_le _,b0▸nx⟩
 ·rw [rangeL_len] at hk
  have e0:((((dg (2^w) a).length:Nat):Int)-0).toNat=(dg (2^w) a).length:=by exact nAs (F1 [_,_] [] 315675782048518944 (iTn (F0 [_] [] 22784821253))) (F1 [_,_] [] 315675642932253472 (iSt _))
  rw [e0] at hk
  revert t;refine pr4 fun found bor s1 s2 hk=>?_
  dsimp only at hk
  refine an4 hk fun h1 h2 h3 h4=>?_;clear hk
  rw [mod_len hB a (Nat.le_refl _),mod_len hB b lba] at h4
  have hv:=vl_lt hB h2
  rw [h1] at hv
  have b0:bor=0:=by
   rcases Nat.eq_zero_or_pos bor with z | z
   ·exact z
   ·have:(2^w)^(dg (2^w) a).length*1≤(2^w)^(dg (2^w) a).length*bor:=Nat.mul_le_mul_left _ z
    lia
  subst b0
  (simp! only [SS])
  k_extra "mD";refine use1 (S:=normalS) rfl found rfl trivial fun r hr=>?_
  have hr:r=nl (nrm found):=hr
  rw [hr,nrm_dg hB h2]
  have:vl (2^w) found=a-b:=by exact nAs (F2 [_,_,_,_,_] [] 1388433210414716388139180632160 h4 sb1) (F2 [_,_,_,_,_] [] 1392069357047509367536984033376 h4 (nSc hb))
  rw [this];rfl
noncomputable def subLimbS:Spec:={ X:=Nat×Nat×Nat,enc:=fun x=>[nl (dg (2^x.2.2) x.1),.int (x.2.1:Nat),.int (x.2.2:Nat)],pre:=fun x=>1≤x.2.2∧x.2.2≤64∧x.1<2^64∧x.2.1≤x.1∧x.2.1<2^x.2.2,post:=fun x r=>r=nl (dg (2^x.2.2) (x.1-x.2.1)) }
theorem dg_limb {B d:Nat}(hB:2≤B)(h0:0<d)(h:d<B):dg B d=[d]:=by
 have:=dg_cons (n:=0) hB h (by exact F1 [_,_] [] 326550728812865538 h0)
 rw [Nat.mul_zero,Nat.add_zero] at this
 rw [this];rfl
theorem w_sub_limb (a d w:Nat)(hw:1≤w)(hw2:w≤64)(ha:a<2^64)(hd:d≤a)(hd2:d<2^w) :
  W ⟨[(105,subS)],[],none⟩ c_sub_limb [.val (nl (dg (2^w) a)),.val (.int (d:Nat)),.val (.int (w:Nat))] fun f _=>retV f (·=nl (dg (2^w) (a-d))):=by
 have hB:=tLP hw
 (try dsimp only [c_sub_limb];simp! only [SS])
 by_cases h0:0<d
 ·(simp! only [Int.natCast_pos.mpr h0])
  exact use1 (S:=subS) rfl (a,d,w) (by show _=[nl _,nl _,_];rw [dg_limb hB h0 hd2];rfl) ⟨hw,hw2,ha,hd⟩ fun r hr=>hr
 ·have:d=0:=by exact nAs (F1 [_] [] 1170922088450 h0) (F0 [_] [] 71682)
  subst this
  (simp! only [Int.natCast_zero,Int.lt_irrefl])
  exact use1 (S:=subS) rfl (a,0,w) rfl ⟨hw,hw2,ha,hd⟩ fun r hr=>hr
noncomputable def liftedS:Spec:={ X:=Nat×Nat×Nat,enc:=fun x=>[nl (dg (2^x.2.2) x.1),.int (x.2.1:Nat)],pre:=fun x=>1≤x.2.2∧x.1<2^64∧x.2.1≤1000,post:=fun x r=>r=nl (dg (2^x.2.2) (x.1*(2^x.2.2)^x.2.1)) }
theorem dg_lift {B:Nat}(hB:2≤B)(n:Nat)(hn:0<n):∀ k,dg B (n*B^k)=List.replicate k 0++dg B n
 | 0=>by simp
 | k+1=>by
  have e:n*B^(k+1)=0+B*(n*B^k):=by rw [Nat.pow_succ,← Nat.mul_assoc];rw [Nat.mul_comm (n*B^k)];exact nAs (F0 [_] [] 287441056) (F0 [_] [] 293636098)
  have hp:0<n*B^k:=Nat.mul_pos hn (Nat.pow_pos (by exact F1 [_] [] 19864819716 hB))
  have hp2:0<B*(n*B^k):=Nat.mul_pos (by exact F1 [_] [] 19864819716 hB) hp
  rw [e,dg_cons hB (by exact F1 [_] [] 19864819716 hB) (by exact F1 [_] [] 79748986906626 hp2),dg_lift hB n hn k,List.replicate_succ];rfl
theorem w_lifted (Γ:Gam)(n k w:Nat)(hw:1≤w)(hn:n<2^64)(hk:k≤1000):W Γ c_lifted [.val (nl (dg (2^w) n)),.val (.int (k:Nat))] fun f _=>retV f (·=nl (dg (2^w) (n*(2^w)^k))):=by
 have hB:=tLP hw
 have ln:=len64 hB hn
 have b1:(-1000:Int)≤(k:Int):=F0 [_] [] 5965966403862657
 have b2:(k:Int)≤1000:=F1 [_] [] 6404681908641111849574496 hk
 have hm:sMx=1048576:=rfl
 (try dsimp only [c_lifted];simp! only [SS])
 by_cases h0:0<n
 ·have hl:(0:Int)<((dg (2^w) n).length:Int):=by
   have:(dg (2^w) n).length≠0:=fun z=>by rw [List.length_eq_zero_iff,dg_nil hB] at z;exact F2 [_] [] 116224499986592 h0 z
   exact F1 [_] [] 1525251647490 (nPo this)
  have hz:k+(dg (2^w) n).length≤sMx:=F3 [_,_,_] [] 390309449998677688668006202754602611941326944 hk ln hm
  (simp! only [hl,b1,b2,Int.toNat_natCast,hz])
  rw [dg_lift hB n h0,← iv_append,← iv_rep];rfl
 ·have:n=0:=by exact nAs (F1 [_] [] 1170922088450 h0) (F0 [_] [] 71682)
  subst this
  (simp! only [dg_zero,Int.natCast_zero,Int.lt_irrefl,Nat.zero_mul])
  rfl
end
section
noncomputable def divremLimbS:Spec:={ X:=Nat×Nat×Nat,enc:=fun x=>[nl (dg (2^x.2.2) x.1),.int (x.2.1:Nat),.int (x.2.2:Nat)],pre:=fun x=>1≤x.2.2∧x.2.2≤16∧x.1<2^64∧0<x.2.1∧x.2.1<2^x.2.2,post:=fun x r=>r=.tup [nl (dg (2^x.2.2) (x.1/x.2.1)),.int ((x.1%x.2.1:Nat))] }
theorem vl_set0 {B:Nat}{l:List Nat}{i v:Nat}(h:i<l.length)(h0:l[i]=0):vl B (l.set i v)=vl B l+B^i*v:=by
 have:=vl_set B l i v h
 rw [h0,Nat.mul_zero,Nat.add_zero] at this
 exact this
theorem w_divrem_limb (a d w:Nat)(hw:1≤w)(hw2:w≤16)(ha:a<2^64)(hd:0<d)(hd2:d<2^w) :
  W ⟨[(70,normalS)],[],none⟩ c_divrem_limb [.val (nl (dg (2^w) a)),.val (.int (d:Nat)),.val (.int (w:Nat)),.un,.un,.un] fun f _=>retV f (·=.tup [nl (dg (2^w) (a/d)),.int ((a%d:Nat))]):=by
 have hB:=tLP hw
 have la:=len64 hB ha
 have bw:(w:Int)≤1000:=F1 [_] [] 100073154822517372751968 hw2
 have hp16:2^w≤2^16:=Nat.pow_le_pow_right (by exact F0 [] [] 73986) hw2
 have d0:¬((d:Int)=0):=F1 [_] [] 111537289242626 hd
 have d64:(d:Int).natAbs<2^64:=F2 [_,_] [] 26047270391883767829317048987073294632640065632 hd2 hp16
 have b1:(-1000:Int)≤((dg (2^w) a).length:Int):=F0 [_] [] 5965966403862657
 have b2:((dg (2^w) a).length:Int)≤1000:=F1 [_] [] 6404681908641111604207712 la
 (try dsimp only [c_divrem_limb];simp! only [d0,b1,b2])
 generalize hL:(dg (2^w) a).length=L at *
 k_extra "mD";refine W_for1 (fun t:List Nat×Nat×Slot=>[.val (.lst (iv (dg (2^w) a))),.val (.int (d:Nat)),.val (.int (w:Nat)),.own (iv t.1),.val (.int (t.2.1:Nat)),t.2.2])
  (fun k t=>t.1.length=L∧Lim (2^w) t.1∧(∀ i (h:i<t.1.length),i<L-k→t.1[i]=0)∧t.2.1=a/(2^w)^(L-k)%d∧vl (2^w) t.1=(2^w)^(L-k)*(a/(2^w)^(L-k)/d)) (vs:=rangeL ((L:Int)-1) (-1) (-1)) (List.replicate L 0,0,.un) (fun R h=>?_) ?_ (fun Rq hq k v t hv hk N hN=>?_) (fun t hk=>?_)
 ·(simp! only [hL])
  refine ⟨⟨by exact (Int.lt_or_gt_of_ne d0).elim (fun k1=>nac (fun k2 k3=>F2 [_,_] [] 6359196873018506699878393385739990844183328 la k3) fun k2 k3=>F1 [_,_] [] 5922463604266295861366928385905440 k3) fun k1=>nac (fun k4 k5=>F2 [_,_] [] 6359196873018506699878393385739990844183328 la k5) fun k4 k5=>F1 [_,_] [] 5922463604266295861366928385905440 k5,by exact F0 [] [] 21040817459074986051,by exact F0 [] [] 21040817459074986051,by exact F0 [] [] 425743302⟩,?_⟩
  have e:List.replicate ((L:Nat):Int).toNat (V.int 0)=iv (List.replicate L 0):=by rw [Int.toNat_natCast];exact iv_rep L 0
  rw [e];exact h
 ·have h1:=dg_lt hB a
  rw [hL] at h1
  refine ⟨by simp,lim_zeros hB L,fun i h _=>by simp,?_,?_⟩
  ·show 0=_
   rw [Nat.sub_zero,Nat.div_eq_of_lt h1];simp
  ·show vl (2^w) (List.replicate L 0)=_
   rw [vl_zeros,Nat.sub_zero,Nat.div_eq_of_lt h1];simp
 ·obtain ⟨rfl,hlt⟩:=rangeD_get hv
  revert t;refine pr3 fun found rest sl hk=>?_
  dsimp only at hk
  refine an5 hk fun h1 h2 h3 h4 h5=>?_;clear hk
  have ea:=dg_get hB a (L-1-k) (by exact F3 [_,_,_,_] [] 5607981435194163151012064 hL sb0 (nSc (F1 [_,_] [] 82645272527208931525574 hlt)))
  have da:=div_limb (B:=2^w) (by exact F1 [_] [] 19864819716 hB) a (L-1-k)
  have es:L-1-k+1=L-k:=by exact nAs (F3 [_,_,_,_,_] [] 364799699237141474871240883809059040 sb1 (nSc (F2 [_,_,_] [] 88857289972148305867771471738976 hlt sb1)) (nSc (F1 [_,_] [] 82645272527208931525574 hlt))) (F3 [_,_,_,_,_] [] 355690438776174411615733701551884384 sb1 sb1 (nSc (F1 [_,_] [] 82679860172347136934854 hlt)))
  rw [es] at da
  have hx0:a/(2^w)^(L-1-k)%2^w<2^w:=Nat.mod_lt _ (by exact F1 [_] [] 19864819716 hB)
  have hr:rest<d:=by rw [h4];exact Nat.mod_lt _ hd
  have r64:(rest:Int).natAbs<2^64:=F3 [_,_,_] [] 6828135649609978433848488489365257867227729748371552 hd2 hp16 hr
  (simp! only [bw,r64])
  refine ⟨_,iv_get' _ (k:=L-1-k) (by exact iAs (F2 [_,_,_,_] [] 440225754556330407904181160075470944 es sb1) (F2 [_,_,_,_] [] 440759675077323113450812408139909216 es (nSc (F1 [_,_] [] 82679860172347136934854 hlt)))) (by exact F3 [_,_,_,_] [] 5607981435202931058612320 hL es sb0) ea,?_⟩
  generalize hxk:a/(2^w)^(L-1-k)%2^w=xk at *
  (simp! only [SS])
  rw [or_low rest xk w hx0]
  have d0':(d:Int)≠0:=F1 [_] [] 111537289242626 hd
  have k0:(0:Int)≤(L:Int)-1-(k:Int):=F1 [_,_] [] 6886869923083017767585034825499590 hlt
  have kL:(L:Int)-1-(k:Int)<(L:Int):=F0 [_,_] [] 399836179932406560
  have kn:((L:Int)-1-(k:Int)).toNat=L-1-k:=by exact nAs (F3 [_,_,_,_,_] [] 95662307183394287317403357647871117759264 es sb1 (iTn (F1 [_,_] [] 6886869923083017767585034825499590 hlt))) (F3 [_,_,_,_,_] [] 95582531760904175833765518448885259339872 es (iSt _) (nSc (F1 [_,_] [] 82679860172347136934854 hlt)))
  have kl':(L:Int)-1-(k:Int)<((found.length:Nat):Int):=F1 [_,_,_] [] 104814655556598832121952 h1
  (simp! only [d0',d64,ne_eq,not_false_eq_true,k0,kl',kn])
  have e1:a/(2^w)^(L-1-k)=d*(2^w*(a/(2^w)^(L-k)/d))+(rest*2^w+xk):=by
   have e0:=Nat.div_add_mod (a/(2^w)^(L-k)) d
   rw [← h4] at e0
   have e2:2^w*(a/(2^w)^(L-k))=d*(2^w*(a/(2^w)^(L-k)/d))+rest*2^w:=by
    rw [Nat.mul_left_comm d,← e0]
    simp only [Nat.mul_add]
    rw [Nat.mul_comm rest,e0]
   rw [da,e2];exact nAs (F0 [_,_,_] [] 19746184402032953440) (F0 [_,_,_] [] 19753388402211432544)
  have e3:a/(2^w)^(L-1-k)/d=2^w*(a/(2^w)^(L-k)/d)+(rest*2^w+xk)/d:=by
   rw [e1,Nat.mul_add_div hd]
  have e4:a/(2^w)^(L-1-k)%d=(rest*2^w+xk)%d:=by
   rw [e1,Nat.mul_add_mod]
  have hq:(rest*2^w+xk)/d<2^w:=by
   rw [Nat.div_lt_iff_lt_mul hd]
   have:(rest+1)*2^w≤d*2^w:=Nat.mul_le_mul_right _ hr
   rw [Nat.add_mul,Nat.mul_comm d] at this
   exact F2 [_,_,_,_] [] 358486904218961958123475168 hx0 this
  refine ⟨(found.set (L-1-k) ((rest*2^w+xk)/d),(rest*2^w+xk)%d,_),by rw [iv_set],by simp [h1],lim_set h2 hq,fun i hi hik=>?_,?_,?_⟩
  ·simp only [List.getElem_set]
   have hne:¬L-1-k=i:=F4 [_,_,_,_,_,_] [] 8817786582240869171934481061781896433776736 es hik sb1 (nSc (F1 [_,_] [] 338537268231610138939753414 hlt))
   rw [if_neg hne]
   exact h3 i (by simpa using hi) (by exact F3 [_,_,_,_,_] [] 94088752759158048173675975293024 hik sb1 (nSc (F1 [_,_] [] 338537268231610138939753414 hlt)))
  ·show (rest*2^w+xk)%d=_
   rw [show L-(k+1)=L-1-k by exact nAs (F3 [_,_,_,_,_] [] 364922741635872983217933950954518624 es sb1 (nSc (F1 [_,_] [] 338537268231610138939753414 hlt))) (F3 [_,_,_,_,_] [] 364618422549835575581725863608617056 es sb1 (nSc (F1 [_,_] [] 82679860172347136934854 hlt))),e4]
  ·show vl (2^w) (found.set (L-1-k) ((rest*2^w+xk)/d))=_
   rw [vl_set0 (by exact F3 [_,_,_,_] [] 5607981435202931058612320 h1 es sb0) (h3 _ (by exact F3 [_,_,_,_] [] 5607981435202931058612320 h1 es sb0) (by exact F1 [_,_] [] 81467267121376 es)),h5,show L-(k+1)=L-1-k by exact nAs (F3 [_,_,_,_,_] [] 364922741635872983217933950954518624 es sb1 (nSc (F1 [_,_] [] 338537268231610138939753414 hlt))) (F3 [_,_,_,_,_] [] 364618422549835575581725863608617056 es sb1 (nSc (F1 [_,_] [] 82679860172347136934854 hlt))),e3,Nat.mul_add,← es,Nat.pow_succ,Nat.mul_assoc]
 ·rw [rangeD_len] at hk
  have e0:L-((L:Int)-1 - -1).toNat=0:=by exact nAs ((Int.lt_or_gt_of_ne d0).elim (fun k1=>sbc (fun k2 k3=>F2 [_,_,_] [] 86401164326993033908637677413152 k3 (iSt _)) fun k2 k3=>F1 [_] [] 18295632032 k3) fun k1=>sbc (fun k4 k5=>F2 [_,_,_] [] 86401164326993033908637677413152 k5 (iSt _)) fun k4 k5=>F1 [_] [] 18295632032 k5) (F0 [_] [] 71682)
  rw [e0] at hk
  revert t;refine pr3 fun found rest sl hk=>?_
  dsimp only at hk
  refine an5 hk fun h1 h2 h3 h4 h5=>?_;clear hk
  simp only [Nat.pow_zero,Nat.div_one,Nat.one_mul] at h4 h5
  (simp! only [SS])
  k_extra "mD";refine use1 (S:=normalS) rfl found rfl trivial fun r hr=>?_
  have hr:r=nl (nrm found):=hr
  rw [hr,nrm_dg hB h2,h5,h4];rfl
noncomputable def shiftLeftS:Spec:={ X:=Nat×Nat×Nat,enc:=fun x=>[nl (dg (2^x.2.2) x.1),.int (x.2.1:Nat),.int (x.2.2:Nat)],pre:=fun x=>1≤x.2.2∧x.2.2≤16∧x.1<2^64∧x.2.1≤1000,post:=fun x r=>r=nl (dg (2^x.2.2) (x.1*2^x.2.1)) }
theorem w_shift_left (Γ:Gam)(a n w:Nat)(hw:1≤w)(hw2:w≤16)(ha:a<2^64)(hn:n≤1000) :
  W Γ c_shift_left [.val (nl (dg (2^w) a)),.val (.int (n:Nat)),.val (.int (w:Nat)),.un,.un,.un,.un,.un,.un] fun f _=>retV f (·=nl (dg (2^w) (a*2^n))):=by
 have hB:=tLP hw
 have la:=len64 hB ha
 have bw:(w:Int)≤1000:=F1 [_] [] 100073154822517372751968 hw2
 have hp16:2^w≤2^16:=Nat.pow_le_pow_right (by exact F0 [] [] 73986) hw2
 have w0:(w:Int)≠0:=F1 [_] [] 111537289238531 hw
 have w64:(w:Int).natAbs<2^64:=F1 [_] [] 24258410923074714680497580194750533728 hw2
 by_cases h0:a=0
 ·subst h0
  (try dsimp only [c_shift_left];simp! only [dg_zero,Int.natCast_zero,Nat.zero_mul])
  rfl
 ·have hL0:¬(((dg (2^w) a).length:Int)=0):=by
   have:(dg (2^w) a).length≠0:=fun z=>by rw [List.length_eq_zero_iff,dg_nil hB] at z;exact F2 [_] [] 116225078274050 z (nPo h0)
   exact F1 [_] [] 111537289242626 (nPo this)
  have hf:n%w<w:=Nat.mod_lt _ (by exact F1 [_] [] 19864819715 hw)
  have hs:n/w≤n:=Nat.div_le_self n w
  have b1:(-1000:Int)≤((n/w:Nat):Int):=Int.le_trans (by decide) (Int.natCast_nonneg _)
  have b2:((n/w:Nat):Int)≤1000:=Int.ofNat_le.mpr (Nat.le_trans hs hn)
  (try dsimp only [c_shift_left];simp! only [hL0,w0,w64,ne_eq,not_false_eq_true,b1,b2,bw])
  generalize hsp:n/w=sp at *
  generalize hfw:n%w=fw at *
  have hpf:2^fw≤2^w:=Nat.pow_le_pow_right (by exact F0 [] [] 73986) (by exact F1 [_,_] [] 18815723616 hf)
  generalize hL:(dg (2^w) a).length=L at *
  have bf:(fw:Int)≤1000:=F2 [_,_] [] 26233577097793994162692237408 hw2 hf
  k_extra "mD";refine W_for1 (fun t:List Nat×Nat×Slot=>[.val (.lst (iv (dg (2^w) a))),.val (.int (n:Nat)),.val (.int (w:Nat)),.val (.int (sp:Nat)),.val (.int (fw:Nat)),.own (iv (List.replicate sp 0++t.1)),.val (.int (t.2.1:Nat)),.val (.int (((2^w:Nat):Int)-1)),t.2.2])
   (fun k t=>t.1.length=k∧k≤L∧Lim (2^w) t.1∧t.2.1<2^fw∧vl (2^w) t.1+(2^w)^k*t.2.1=a%(2^w)^k*2^fw) (vs:=iv (dg (2^w) a)) ([],0,.un) (fun R h=>?_) ?_ (fun Rq hq k v t hv hk N hN=>?_) (fun t hk=>?_)
  ·(simp! only [SS])
   have e:List.replicate ((sp:Nat):Int).toNat (V.int 0)=iv (List.replicate sp 0):=by rw [Int.toNat_natCast];exact iv_rep sp 0
   rw [e]
   simpa using h
  ·exact ⟨rfl,Nat.zero_le _,fun d hd=>(nomatch hd),Nat.pow_pos (by exact F0 [] [] 73986),by simp [vl,Nat.mod_one]⟩
  ·revert t;refine pr3 fun found carry sl hk=>?_
   dsimp only at hk
   refine an5 hk fun h1 hkL h2 h3 h4=>?_;clear hk
   have hk2:k<(dg (2^w) a).length:=by rw [← iv_len];exact (List.getElem?_eq_some_iff.mp hv).1
   have ea:=dg_get hB a k hk2
   have ev:v=.int ((a/(2^w)^k%2^w:Nat):Int):=by
    unfold iv at hv
    rw [List.getElem?_map,List.getElem?_eq_getElem hk2,ea] at hv
    exact (Option.some.inj hv).symm
   subst ev
   have hx0:a/(2^w)^k%2^w<2^w:=Nat.mod_lt _ (by exact F1 [_] [] 19864819716 hB)
   have em:=mod_pow_succ' (B:=2^w) a k
   generalize hxk:a/(2^w)^k%2^w=xk at *
   have x64:(xk:Int).natAbs<2^64:=F2 [_,_] [] 26047270391883767829317048985897708812197242976 hp16 hx0
   (simp! only [x64,bf])
   rw [or_high xk carry fw h3]
   have hsz:sp+found.length<sMx:=by have:sMx=1048576:=rfl;exact F5 [_,_,_,_,_] [] 116139493745563087128804090966946100399416765252758438690912 b2 la h1 hkL this
   (simp! only [hsz])
   refine ⟨(found++[(xk*2^fw+carry)%2^w],(xk*2^fw+carry)/2^w,_),by rw [iv_app,List.append_assoc],by simp [h1],by exact F2 [_,_,_] [] 20214422341595506784 hL hk2,lim_snoc h2 (Nat.mod_lt _ (by exact F1 [_] [] 19864819716 hB)),?_,?_⟩
   ·show (xk*2^fw+carry)/2^w<2^fw
    rw [Nat.div_lt_iff_lt_mul (by exact F1 [_] [] 19864819716 hB)]
    have:(xk+1)*2^fw≤2^w*2^fw:=Nat.mul_le_mul_right _ hx0
    rw [Nat.add_mul,Nat.mul_comm (2^w)] at this
    exact F2 [_,_,_,_] [] 358486904218961958123475168 h3 this
   ·show vl (2^w) (found++[(xk*2^fw+carry)%2^w])+(2^w)^(k+1)*((xk*2^fw+carry)/2^w)=_
    have c:=col (B:=2^w) (k:=k) (v:=vl (2^w) found) (c0:=carry) (x:=a%(2^w)^k*2^fw) (y:=0) (t:=0) (c:=xk*2^fw+carry) (xk:=xk*2^fw) (yk:=0) (by exact nAs (F1 [_,_,_] [] 1263647605482133686368 h4) (F1 [_,_,_] [] 1264205486757834688608 h4)) (by exact nAs (F0 [_,_] [] 4820405550614624) (F0 [_,_] [] 4822493567682656))
    rw [vl_snoc,h1,c,em,Nat.add_mul,Nat.mul_zero,Nat.add_zero,Nat.mul_assoc]
  ·rw [iv_len,hL] at hk
   revert t;refine pr3 fun found carry sl hk=>?_
   dsimp only at hk
   refine an5 hk fun h1 hkL h2 h3 h4=>?_;clear hk
   rw [mod_len hB a (by exact F1 [_,_] [] 18815727712 hL)] at h4
   have tp:=top_le hB (n:=a) (by exact nPo h0)
   rw [hL] at tp
   have big:a*2^n=a*2^fw*(2^w)^sp:=by
    rw [Nat.mul_assoc,← Nat.pow_mul,← Nat.pow_add]
    congr 2
    have:=Nat.div_add_mod n w
    rw [hsp,hfw] at this
    exact nAs (F1 [_,_,_] [] 308639616557680736 this) (F1 [_,_,_] [] 315852343025895520 this)
   have hpp:1≤2^fw:=Nat.one_le_two_pow
   have pos:0<a*2^fw:=Nat.mul_pos (by exact nPo h0) hpp
   (simp! only [SS])
   by_cases hc:0<carry
   ·have hsz:sp+found.length<sMx:=by have:sMx=1048576:=rfl;exact F4 [_,_,_,_] [] 443036825107318938877352870866632079565395819908579424 b2 la h1 this
    (simp! only [hsz,Int.natCast_pos.mpr hc])
    have e2:vl (2^w) (found++[carry])=a*2^fw:=by rw [vl_snoc,h1];exact h4
    have e3:found++[carry]=dg (2^w) (a*2^fw):=by
     rw [← e2]
     refine dg_full hB (lim_snoc h2 (by exact F2 [_,_,_] [] 5218301018187872 hpf h3)) (.inr ?_)
     rw [vl_snoc,List.length_append,List.length_singleton,Nat.add_sub_cancel]
     have:(2^w)^found.length*1≤(2^w)^found.length*carry:=Nat.mul_le_mul_left _ hc
     exact F1 [_,_,_] [] 308644081125593312 this
    rw [iv_app,List.append_assoc,e3,big,dg_lift hB _ pos]
   ·have c0:carry=0:=by exact nAs (F1 [_] [] 1170922088450 hc) (F0 [_] [] 71682)
    subst c0
    (simp! only [Int.natCast_zero,Int.lt_irrefl])
    rw [Nat.mul_zero,Nat.add_zero] at h4
    have e3:found=dg (2^w) (a*2^fw):=by
     rw [← h4]
     refine dg_full hB h2 (.inr ?_)
     rw [h1,h4]
     have:a*1≤a*2^fw:=Nat.mul_le_mul_left _ hpp
     exact F2 [_,_,_] [] 20203787880952533216 tp this
    rw [e3,big,dg_lift hB _ pos]
end
section
noncomputable def shiftRightS:Spec:={ X:=Nat×Nat×Nat,enc:=fun x=>[nl (dg (2^x.2.2) x.1),.int (x.2.1:Nat),.int (x.2.2:Nat)],pre:=fun x=>1≤x.2.2∧x.2.2≤16∧x.1<2^64∧x.2.1≤1000,post:=fun x r=>r=nl (dg (2^x.2.2) (x.1/2^x.2.1)) }
theorem div_limb_mod {a w f:Nat}(hf:f<w):(a%2^w/2^f+(a/2^w%2^w)*2^(w-f))%2^w=a/2^f%2^w:=by
 have e:2^w=2^(w-f)*2^f:=by rw [← Nat.pow_add];congr 1;exact nAs (sb1) (F1 [_,_,_] [] 315852410671630432 (nSc (F1 [_,_] [] 18815723616 hf)))
 have h1:a=2^f*(2^(w-f)*(a/2^w))+a%2^w:=by
  rw [← Nat.mul_assoc,← Nat.pow_add,show f+(w-f)=w by exact nAs (F1 [_,_,_] [] 315852343025895520 (nSc (F1 [_,_] [] 18815723616 hf))) (F1 [_,_,_] [] 308644081119144032 sb1)]
  exact (Nat.div_add_mod _ _).symm
 have h2:a/2^f=2^(w-f)*(a/2^w)+a%2^w/2^f:=by
  conv=>lhs;rw [h1]
  rw [Nat.mul_add_div (Nat.pow_pos (by exact F0 [] [] 73986))]
 have h3:a/2^w=2^w*(a/2^w/2^w)+a/2^w%2^w:=(Nat.div_add_mod _ _).symm
 rw [h2]
 conv=>rhs;rw [h3]
 rw [Nat.mul_add,Nat.mul_left_comm,Nat.add_assoc,Nat.mul_add_mod,Nat.mul_comm (2^(w-f)),Nat.add_comm]
theorem w_shift_right (a n w:Nat)(hw:1≤w)(hw2:w≤16)(ha:a<2^64)(hn:n≤1000) :
  W ⟨[(70,normalS)],[],none⟩ c_shift_right [.val (nl (dg (2^w) a)),.val (.int (n:Nat)),.val (.int (w:Nat)),.un,.un,.un,.un,.un,.un] fun f _=>retV f (·=nl (dg (2^w) (a/2^n))):=by
 have hB:=tLP hw
 have la:=len64 hB ha
 have bw:(w:Int)≤1000:=F1 [_] [] 100073154822517372751968 hw2
 have hp16:2^w≤2^16:=Nat.pow_le_pow_right (by exact F0 [] [] 73986) hw2
 have w0:(w:Int)≠0:=F1 [_] [] 111537289238531 hw
 have w64:(w:Int).natAbs<2^64:=F1 [_] [] 24258410923074714680497580194750533728 hw2
 have hf:n%w<w:=Nat.mod_lt _ (by exact F1 [_] [] 19864819715 hw)
 have hs:n/w≤n:=Nat.div_le_self n w
 have hdm:=Nat.div_add_mod n w
 (try dsimp only [c_shift_right];simp! only [w0,w64,ne_eq,not_false_eq_true,bw])
 generalize hsp:n/w=sp at *
 generalize hfw:n%w=fw at *
 generalize hL:(dg (2^w) a).length=L at *
 have big:∀ k,a/2^n/(2^w)^k=a/(2^w)^(sp+k)/2^fw:=fun k=>by
  rw [Nat.div_div_eq_div_mul,Nat.div_div_eq_div_mul,← Nat.pow_mul,← Nat.pow_mul,← Nat.pow_add,← Nat.pow_add]
  congr 2
  rw [Nat.mul_add];exact nAs (F1 [_,_,_,_] [] 5178158498363671161899104 hdm) (F1 [_,_,_,_] [] 5178335562168093672769632 hdm)
 k_extra "mD";refine W_for1 (fun t:List Nat×Slot×Slot=>[.val (.lst (iv (dg (2^w) a))),.val (.int (n:Nat)),.val (.int (w:Nat)),.val (.int (sp:Nat)),.val (.int (fw:Nat)),.own (iv t.1),.val (.int (((2^w:Nat):Int)-1)),t.2.1,t.2.2])
  (fun k t=>t.1.length=k∧Lim (2^w) t.1∧vl (2^w) t.1=a/2^n%(2^w)^k) (vs:=rangeL (sp:Int) (L:Int) 1) ([],.un,.un) (fun R h=>?_) ?_ (fun Rq hq k v t hv hk N hN=>?_) (fun t hk=>?_)
 ·(simp! only [hL])
  exact ⟨⟨by exact F2 [_,_] [] 24258410923074747822957364827096684640 hn hs,by exact F1 [_] [] 92538493816660872737721635840096 la⟩,h⟩
 ·exact ⟨rfl,fun d hd=>(nomatch hd),by simp [vl,Nat.mod_one]⟩
 ·obtain ⟨rfl,hlt⟩:=rangeL_get hv
  revert t;refine pr3 fun found s1 s2 hk=>?_
  dsimp only at hk
  refine an3 hk fun h1 h2 h3=>?_;clear hk
  have hat:sp+k<L:=F1 [_,_,_] [] 87521180837683420861216 hlt
  have ea:=dg_get hB a (sp+k) (by exact F2 [_,_,_,_] [] 22962495240718311561513538336 hL hlt)
  have hx0:a/(2^w)^(sp+k)%2^w<2^w:=Nat.mod_lt _ (by exact F1 [_] [] 19864819716 hB)
  have f0:(0:Int)≤(fw:Int):=Int.natCast_nonneg _
  have wf:(w:Int)-(fw:Int)=((w-fw:Nat):Int):=by exact iAs (F1 [_,_,_] [] 100093441995124349479008 sb1) (F1 [_,_,_] [] 100217146869689002526816 (nSc (F1 [_,_] [] 18815723616 hf)))
  have wf2:((w-fw:Nat):Int)≤1000:=F2 [_,_,_] [] 28168088923030554131404066532273296160 hw2 wf
  have hsz:found.length<sMx:=by have:sMx=1048576:=rfl;exact F4 [_,_,_,_,_] [] 108198599797635856676109835730753637999730438979680 la hlt h1 this
  have nxt:∀ ab:Nat,ab=a/(2^w)^(sp+k+1)%2^w→(∀ R:Prop,(∀ x:Nat,x=a/(2^w)^(sp+k)%2^w→(Builtin.bitAnd (Builtin.bitOr ((x/2^fw:Nat):Int) ((ab*2^(w-fw):Nat):Int)) (((2^w:Nat):Int)-1)=((a/2^n/(2^w)^k%2^w:Nat):Int))→R)→R):=fun ab hab R hR=>by
   refine hR _ rfl ?_
   have e1:2^w=2^(w-fw)*2^fw:=by rw [← Nat.pow_add];congr 1;exact nAs (F1 [_,_,_] [] 80909194027559726224160 wf) (F1 [_,_,_] [] 82651240973970162455328 wf)
   have hlow:a/(2^w)^(sp+k)%2^w/2^fw<2^(w-fw):=by
    rw [Nat.div_lt_iff_lt_mul (Nat.pow_pos (by exact F0 [] [] 73986)),← e1];exact hx0
   rw [or_high _ _ _ hlow,and_mask,hab,Nat.pow_succ,← Nat.div_div_eq_div_mul,Nat.add_comm,div_limb_mod hf,big k]
  have val:∀ x:Nat,vl (2^w) (found++[a/2^n/(2^w)^k%2^w])=a/2^n%(2^w)^(k+1):=fun _=>by
   rw [vl_snoc,h1,h3,mod_pow_succ']
  have hlt2:a/2^n/(2^w)^k%2^w<2^w:=Nat.mod_lt _ (by exact F1 [_] [] 19864819716 hB)
  by_cases hab:sp+k+1<L
  ·have hab':(sp:Int)+(k:Int)+1<(L:Int):=F1 [_,_,_] [] 1758536469747886738140279113824 hab
   have eb:=dg_get hB a (sp+k+1) (by exact F2 [_,_,_,_] [] 1469590516082187351970364033120 hL hab)
   (simp! only [hL,hab'])
   refine ⟨_,iv_get' _ (k:=sp+k+1) (by exact iAs (F0 [_,_] [] 6404122858891611248661280) (F0 [_,_] [] 6408709252607882419800160)) (by exact F2 [_,_,_,_] [] 1469590516082187351970364033120 hL hab) eb,?_⟩
   have b64:((a/(2^w)^(sp+k+1)%2^w:Nat):Int).natAbs<2^64:=by
    rw [Int.natAbs_natCast]
    have:a/(2^w)^(sp+k+1)%2^w<2^w:=Nat.mod_lt _ (by exact F1 [_] [] 19864819716 hB)
    exact F2 [_,_] [] 406988599873183872333078915498356983374096480 hp16 this
   (simp! only [SS])
   refine ⟨_,iv_get' _ (k:=sp+k) (by exact iAs (F0 [_,_] [] 381717555115594528) (F0 [_,_] [] 382016601122179168)) (by exact F2 [_,_,_,_] [] 358788988136223366454216800 hL hab) ea,?_⟩
   (simp! only [f0,wf,wf2,b64])
   refine nxt _ rfl _ fun x hx e=>?_
   subst hx
   rw [e]
   (simp! only [hsz])
   exact ⟨(found++[a/2^n/(2^w)^k%2^w],_,_),by rw [iv_app],by simp [h1],lim_snoc h2 hlt2,val 0⟩
  ·have hab':¬(sp:Int)+(k:Int)+1<(L:Int):=F1 [_,_,_] [] 8225510175524532920849593191401568 hab
   have eb:=limb_past hB a (k:=sp+k+1) (by exact F2 [_,_,_,_] [] 86837944805615292219707697694816 hL hab)
   have b64:(0:Int).natAbs<2^64:=by decide
   (simp! only [hL,hab'])
   refine ⟨_,iv_get' _ (k:=sp+k) (by exact iAs (F0 [_,_] [] 381717555115594528) (F0 [_,_] [] 382016601122179168)) (by exact F2 [_,_,_,_] [] 22962495240718311561513538336 hL hlt) ea,?_⟩
   have z:((0:Int)*2^((w-fw:Nat):Int).toNat)=((0*2^(w-fw):Nat):Int):=by simp
   (simp! only [f0,wf,wf2,b64,z])
   refine nxt 0 eb.symm _ fun x hx e=>?_
   subst hx
   rw [e]
   (simp! only [hsz])
   exact ⟨(found++[a/2^n/(2^w)^k%2^w],_,_),by rw [iv_app],by simp [h1],lim_snoc h2 hlt2,val 0⟩
 ·rw [rangeL_len] at hk
  revert t;refine pr3 fun found s1 s2 hk=>?_
  dsimp only at hk
  refine an3 hk fun h1 h2 h3=>?_;clear hk
  (simp! only [SS])
  k_extra "mD";refine use1 (S:=normalS) rfl found rfl trivial fun r hr=>?_
  have hr:r=nl (nrm found):=hr
  have small:a/2^n/(2^w)^((L:Int)-(sp:Int)).toNat=0:=by
   rw [big]
   have h4:=dg_lt hB a
   rw [hL] at h4
   have h5:(2^w)^L≤(2^w)^(sp+((L:Int)-(sp:Int)).toNat):=Nat.pow_le_pow_right (by exact F1 [_] [] 19864819716 hB) (by exact F1 [_,_,_] [] 80910328925869730566944 (iSt _))
   have z:a/(2^w)^(sp+((L:Int)-(sp:Int)).toNat)=0:=Nat.div_eq_of_lt (by exact F2 [_,_,_] [] 5214041451075680 h4 h5)
   rw [z];simp
  have sm2:a/2^n%(2^w)^((L:Int)-(sp:Int)).toNat=a/2^n:=by
   have:=Nat.div_add_mod (a/2^n) ((2^w)^((L:Int)-(sp:Int)).toNat)
   rw [small,Nat.mul_zero] at this
   exact nAs (F1 [_,_] [] 77069220612098 this) (F1 [_,_] [] 77001591654402 this)
  rw [hr,nrm_dg hB h2,h3,sm2];rfl
noncomputable def bitS:Spec:={ X:=Nat×Nat×Nat,enc:=fun x=>[nl (dg (2^x.2.2) x.1),.int (x.2.1:Nat),.int (x.2.2:Nat)],pre:=fun x=>1≤x.2.2∧x.2.2≤16,post:=fun x r=>r=.int ((x.1/2^x.2.1%2:Nat)) }
theorem w_bit (Γ:Gam)(a n w:Nat)(hw:1≤w)(hw2:w≤16) :
  W Γ c_bit [.val (nl (dg (2^w) a)),.val (.int (n:Nat)),.val (.int (w:Nat))] fun f _=>retV f (·=.int ((a/2^n%2:Nat))):=by
 have hB:=tLP hw
 have w0:(w:Int)≠0:=F1 [_] [] 111537289238531 hw
 have w64:(w:Int).natAbs<2^64:=F1 [_] [] 24258410923074714680497580194750533728 hw2
 have hf:n%w<w:=Nat.mod_lt _ (by exact F1 [_] [] 19864819715 hw)
 have hdm:=Nat.div_add_mod n w
 (try dsimp only [c_bit];simp! only [w0,w64,ne_eq,not_false_eq_true])
 generalize hsp:n/w=sp at *
 generalize hfw:n%w=fw at *
 have big:a/2^n=a/(2^w)^sp/2^fw:=by
  rw [Nat.div_div_eq_div_mul,← Nat.pow_mul,← Nat.pow_add,hdm]
 by_cases hl:sp<(dg (2^w) a).length
 ·have hl':(sp:Int)<((dg (2^w) a).length:Int):=F1 [_,_] [] 97617300236384 hl
  have ea:=dg_get hB a sp hl
  (simp! only [hl'])
  refine ⟨_,iv_get' _ (k:=sp) rfl hl ea,?_⟩
  (simp! only [w0,ne_eq,not_false_eq_true,hfw])
  rw [big]
  congr 2
  have h3:a/(2^w)^sp=2^fw*(2^(w-fw)*(a/(2^w)^sp/2^w))+a/(2^w)^sp%2^w:=by
   rw [← Nat.mul_assoc,← Nat.pow_add,show fw+(w-fw)=w by exact nAs (F1 [_,_,_] [] 315852343025895520 (nSc (F1 [_,_] [] 18815723616 hf))) (F1 [_,_,_] [] 308644081119144032 sb1)]
   exact (Nat.div_add_mod _ _).symm
  conv=>rhs;rw [h3]
  rw [Nat.mul_add_div (Nat.pow_pos (by exact F0 [] [] 73986))]
  obtain ⟨j,hj⟩:∃ j,w-fw=j+1:=⟨w-fw-1,by exact nAs (sb1) (F1 [_,_] [] 315568874110353632 (nSc (F2 [_,_,_] [] 20195066554714564704 hf sb1)))⟩
  rw [hj,Nat.pow_succ,Nat.mul_comm (2^j) 2,Nat.mul_assoc,Nat.mul_add_mod]
 ·have hl':¬(sp:Int)<((dg (2^w) a).length:Int):=F1 [_,_] [] 456607469953951840 hl
  have h1:=dg_lt hB a
  have h2:(2^w)^(dg (2^w) a).length≤(2^w)^sp:=Nat.pow_le_pow_right (by exact F1 [_] [] 19864819716 hB) (by exact F1 [_,_] [] 1203151120480 hl)
  (simp! only [hl'])
  have z:a/(2^w)^sp=0:=Nat.div_eq_of_lt (by exact F2 [_,_,_] [] 5214041451075680 h1 h2)
  rw [big,z];simp
noncomputable def bitlen (a:Nat):Nat:=if a=0 then 0 else a.log2+1
noncomputable def bitsS:Spec:={ X:=Nat×Nat,enc:=fun x=>[nl (dg (2^x.2) x.1),.int (x.2:Nat)],pre:=fun x=>1≤x.2∧x.2≤16∧x.1<2^64,post:=fun x r=>r=.int ((bitlen x.1:Nat)) }
theorem w_bits (Γ:Gam)(a w:Nat)(hw:1≤w)(hw2:w≤16)(ha:a<2^64) :
  W Γ c_bits [.val (nl (dg (2^w) a)),.val (.int (w:Nat))] fun f _=>retV f (·=.int ((bitlen a:Nat))):=by
 have hB:=tLP hw
 have la:=len64 hB ha
 have hp16:2^w≤2^16:=Nat.pow_le_pow_right (by exact F0 [] [] 73986) hw2
 have w64:(w:Int).natAbs<2^64:=F1 [_] [] 24258410923074714680497580194750533728 hw2
 by_cases h0:a=0
 ·subst h0
  (try dsimp only [c_bits];simp! only [dg_zero,Int.natCast_zero,Int.lt_irrefl])
  rfl
 ·have hl:(dg (2^w) a).length≠0:=fun z=>by rw [List.length_eq_zero_iff,dg_nil hB] at z;exact F2 [_] [] 116225078274050 z (nPo h0)
  have hl':(0:Int)<((dg (2^w) a).length:Int):=F1 [_] [] 1525251647490 (nPo hl)
  have hne:dg (2^w) a≠[]:=fun z=>by rw [dg_nil hB] at z;exact h0 z
  have l64:(((dg (2^w) a).length:Int)-1).natAbs<2^64:=F2 [_,_] [] 106689619525155913028882639223294524011089180627744 la (Int.natAbs_of_nonneg (F1 [_] [] 382270265735301125 (hl')))
  have tp:=top_le hB (n:=a) (by exact nPo h0)
  have ub:=dg_lt hB a
  (try dsimp only [c_bits];simp! only [hl',l64,w64])
  refine ⟨_,iv_last _ hne,?_⟩
  have et:(dg (2^w) a).getLast hne=a/(2^w)^((dg (2^w) a).length-1):=by
   rw [List.getLast_eq_getElem,dg_get hB,Nat.mod_eq_of_lt]
   rw [Nat.div_lt_iff_lt_mul (Nat.pow_pos (by exact F1 [_] [] 19864819716 hB)),Nat.mul_comm,← Nat.pow_succ]
   rw [Nat.succ_eq_add_one,show (dg (2^w) a).length-1+1=(dg (2^w) a).length by exact nAs (F1 [_,_] [] 315568874110353632 (nSc (F1 [_] [] 1202646992901 (hl')))) (sb1)];exact ub
  rw [et]
  generalize hL:(dg (2^w) a).length=L at *
  generalize ht:a/(2^w)^(L-1)=t at *
  have t1:1≤t:=by rw [← ht,Nat.le_div_iff_mul_le (Nat.pow_pos (by exact F1 [_] [] 19864819716 hB)),Nat.one_mul];exact tp
  have tB:t<2^w:=by
   rw [← ht,Nat.div_lt_iff_lt_mul (Nat.pow_pos (by exact F1 [_] [] 19864819716 hB)),Nat.mul_comm,← Nat.pow_succ,Nat.succ_eq_add_one,show L-1+1=L by exact nAs (F1 [_,_] [] 315568874110353632 (nSc (F1 [_] [] 1202646992901 (hl')))) (sb1)];exact ub
  have t64:(t:Int).natAbs<2^64:=F2 [_,_] [] 26047270391883767829317048985897708812197242976 hp16 tB
  have tn:¬((t:Int)=0):=F1 [_] [] 111537289238531 t1
  (simp! only [t64,tn,Int.natAbs_natCast])
  have lg:a.log2=(L-1)*w+t.log2:=by
   have l1:=Nat.log2_self_le (n:=t) (by exact F1 [_] [] 1738430027779 t1)
   have l2:=Nat.lt_log2_self (n:=t)
   rw [Nat.log2_eq_iff h0]
   have dm:=Nat.div_add_mod a ((2^w)^(L-1))
   have ml:=Nat.mod_lt a (y:=(2^w)^(L-1)) (Nat.pow_pos (by exact F1 [_] [] 19864819716 hB))
   rw [ht] at dm
   have pw:(2^w)^(L-1)=2^((L-1)*w):=by rw [← Nat.pow_mul,Nat.mul_comm]
   rw [pw] at dm ml
   constructor
   ·rw [Nat.pow_add]
    have:=Nat.mul_le_mul_left (2^((L-1)*w)) l1
    exact F2 [_,_,_,_] [] 20239262702637488224 dm this
   ·rw [Nat.add_assoc,Nat.pow_add]
    have:=Nat.mul_le_mul_left (2^((L-1)*w)) l2
    rw [Nat.succ_eq_add_one,Nat.mul_add,Nat.mul_one] at this
    exact F3 [_,_,_,_,_] [] 22951553798907503543272900704 dm ml this
  unfold bitlen
  rw [if_neg h0,lg]
  have:((L:Int)-1)*(w:Int)=(((L-1)*w:Nat):Int):=by
   rw [Int.natCast_mul];congr 1;exact iAs (F1 [_,_] [] 1563960003294931204192 sb1) (F1 [_,_] [] 1565779013341731389664 (nSc (F1 [_] [] 1202646992901 (hl'))))
  rw [this]
  generalize (L-1)*w=q
  exact ⟨by exact F2 [_,_] [] 406988599873183872333078915498356983374096480 hp16 tB,congrArg V.int (by exact iAs (F0 [_,_] [] 6404122858891618647413536) (F0 [_,_] [] 6409217690991414039316576))⟩
end
section
def LowBit (a t:Nat):Prop:=a%2^t=0∧a/2^t%2=1
noncomputable def trailingS:Spec:={ X:=Nat×Nat,enc:=fun x=>[nl (dg (2^x.2) x.1),.int (x.2:Nat)],pre:=fun x=>1≤x.2∧x.2≤8∧x.1<2^64∧0<x.1,post:=fun x r=>∃ t:Nat,r=.int (t:Nat)∧LowBit x.1 t }
theorem w_trailing (Γ:Gam)(a w:Nat)(hw:1≤w)(hw2:w≤8)(ha:a<2^64)(h0:0<a) :
  W Γ c_trailing [.val (nl (dg (2^w) a)),.val (.int (w:Nat)),.un,.un] fun f _=>retV f (fun r=>∃ t:Nat,r=.int (t:Nat)∧LowBit a t):=by
 have hB:=tLP hw
 have la:=len64 hB ha
 have hp8:2^w≤2^8:=Nat.pow_le_pow_right (by exact F0 [] [] 73986) hw2
 have w64:(w:Int).natAbs<2^64:=F1 [_] [] 24258410923074714680497580194748436576 hw2
 (try dsimp only [c_trailing];simp! only [SS])
 k_extra "mD";refine W_for2 (fun t:Slot×Slot=>[.val (.lst (iv (dg (2^w) a))),.val (.int (w:Nat)),t.1,t.2]) (fun k _=>a%(2^w)^k=0) (l:=iv (dg (2^w) a)) (.un,.un) (fun R h=>?_) ?_ (fun Rq hq k v t hv hk N hN=>?_) (fun t hk=>?_)
 ·(simp! only [SS]);exact h
 ·simp [Nat.mod_one]
 ·have hk2:k<(dg (2^w) a).length:=by rw [← iv_len];exact (List.getElem?_eq_some_iff.mp hv).1
  have ea:=dg_get hB a k hk2
  have ev:v=.int ((a/(2^w)^k%2^w:Nat):Int):=by
   unfold iv at hv
   rw [List.getElem?_map,List.getElem?_eq_getElem hk2,ea] at hv
   exact (Option.some.inj hv).symm
  subst ev
  have hx0:a/(2^w)^k%2^w<2^w:=Nat.mod_lt _ (by exact F1 [_] [] 19864819716 hB)
  have em:=mod_pow_succ' (B:=2^w) a k
  generalize hxk:a/(2^w)^k%2^w=xk at *
  (simp! only [SS])
  by_cases hz:0<xk
  ·refine x1a4 (bit_len8 xk (by exact F2 [_,_] [] 349379711176765347039881312 hp8 hx0) hz) fun j hj e1 e2 e3=>?_
   have k64:(k:Int).natAbs<2^64:=F2 [_,_] [] 406988599873183872333078890404585731615172704 la hk2
   have p1:1≤2^j:=Nat.one_le_two_pow
   have pj:2^j≤2^8:=Nat.pow_le_pow_right (by exact F0 [] [] 73986) (by exact F1 [_] [] 308501075904696416 hj)
   have p64:((2^j:Nat):Int).natAbs<2^64:=by rw [Int.natAbs_natCast];exact F1 [_] [] 24258410923074714680497581690250600544 pj
   have pn:¬(((2^j:Nat):Int)=0):=F1 [_] [] 111537289238531 p1
   (simp! only [Int.natCast_pos.mpr hz,k64,w64,e1,p64,pn,Int.natAbs_natCast])
   have lg:(2^j).log2=j:=Nat.log2_two_pow
   rw [lg]
   (simp! only [SS])
   refine ⟨by exact ⟨F2 [_,_] [] 6359196873018498005204358054595859289811040 la hk2,F1 [_] [] 379037670673042416882774713911218272 hw2⟩,by exact F1 [_] [] 24258410923074714680497581690250600544 pj,hq _ _ ?_⟩
   (simp! only [SS])
   refine ⟨k*w+j,congrArg V.int ?_,?_⟩
   ·have:(k:Int)*(w:Int)=((k*w:Nat):Int):=by rw [Int.natCast_mul]
    rw [this]
    generalize k*w=q
    exact iAs (F0 [_,_] [] 6404157873419947313599264) (F0 [_,_] [] 6413431629505395327797344)
   ·have jw:j<w:=by
     rcases Nat.lt_or_ge j w with z | z
     ·exact z
     ·have:2^w≤2^j:=Nat.pow_le_pow_right (by exact F0 [] [] 73986) z
      have:=Nat.mod_eq_of_lt (a:=xk) (b:=2^j) (by exact F2 [_,_,_] [] 5214041451075680 hx0 this)
      lia
    have pk:2^(k*w+j)=(2^w)^k*2^j:=by rw [Nat.pow_add,Nat.mul_comm k w,Nat.pow_mul]
    have dx:a/(2^w)^k=2^j*(2^(w-j)*(a/(2^w)^k/2^w))+xk:=by
     rw [← Nat.mul_assoc,← Nat.pow_add,show j+(w-j)=w by exact nAs (F1 [_,_,_] [] 315852343025895520 (nSc (F1 [_,_] [] 18815723616 jw))) (F1 [_,_,_] [] 308644081119144032 sb1),← hxk]
     exact (Nat.div_add_mod _ _).symm
    constructor
    ·rw [pk,Nat.mod_mul,hk,Nat.zero_add,dx,Nat.mul_add_mod,e2,Nat.mul_zero]
    ·rw [pk,← Nat.div_div_eq_div_mul,dx,Nat.mul_add_div (by exact F1 [_] [] 19864819715 p1)]
     obtain ⟨i,hi⟩:∃ i,w-j=i+1:=⟨w-j-1,by exact nAs (sb1) (F1 [_,_] [] 315568874110353632 (nSc (F2 [_,_,_] [] 20195066554714564704 jw sb1)))⟩
     rw [hi,Nat.pow_succ,Nat.mul_comm (2^i) 2,Nat.mul_assoc,Nat.mul_add_mod]
     exact e3
  ·have z0:xk=0:=by exact nAs (F1 [_] [] 1170922088450 hz) (F0 [_] [] 71682)
   subst z0
   (simp! only [Int.natCast_zero,Int.lt_irrefl])
   refine ⟨(_,_),rfl,?_⟩
   rw [em,hk];simp
 ·rw [iv_len,mod_len hB a (Nat.le_refl _)] at hk
  lia
noncomputable def invStep (w d f:Nat):Nat:=((f:Int)*((2-(d:Int)*(f:Int)).fmod ((2^w:Nat):Int))).toNat%2^w
noncomputable def invOf (w d:Nat):Nat:=if w≤3 then d else if w≤6 then invStep w d d else invStep w d (invStep w d d)
theorem inv_fact:∀ w:Nat,3≤w→w≤8→∀ d:Nat,d<2^w→d%2=1→d*invOf w d%2^w=1∧invOf w d<2^w:=by
 intro w h1 h2 d hd ho
 have key:∀ w:Fin 9,∀ d:Fin 256,3≤w.val→d.val<2^w.val→d.val%2=1→d.val*invOf w.val d.val%2^w.val=1∧invOf w.val d.val<2^w.val:=by decide +kernel
 have:2^w≤2^8:=Nat.pow_le_pow_right (by exact F0 [] [] 73986) h2
 exact key ⟨w,by exact F1 [_] [] 326796949374111840 h2⟩ ⟨d,by exact F2 [_,_] [] 349379711195186649718857824 hd this⟩ h1 hd ho
noncomputable def inverseS:Spec:={ X:=Nat×Nat,enc:=fun x=>[.int (x.1:Nat),.int (x.2:Nat)],pre:=fun x=>3≤x.2∧x.2≤8∧x.1<2^x.2∧x.1%2=1,post:=fun x r=>r=.int ((invOf x.2 x.1:Nat)) }
theorem w_inverse_limb (Γ:Gam)(d w:Nat)(hw:3≤w)(hw2:w≤8)(hd:d<2^w)(ho:d%2=1) :
  W Γ c_inverse_limb [.val (.int (d:Nat)),.val (.int (w:Nat)),.un,.un,.un] fun f _=>retV f (·=.int ((invOf w d:Nat))):=by
 have hp8:2^w≤2^8:=Nat.pow_le_pow_right (by exact F0 [] [] 73986) hw2
 have bw:(w:Int)≤1000:=F1 [_] [] 100073154822517370654816 hw2
 have hpos:0<2^w:=Nat.pow_pos (by exact F0 [] [] 73986)
 have e2:(d:Int).fmod 2=((d%2:Nat):Int):=fmod_nat d 2
 have n2:¬(((d%2:Nat):Int)=0):=F1 [_] [] 111537289248992 ho
 have p0:((2^w:Nat):Int)≠0:=F1 [_,_] [] 111537289504864 hd
 have t2:(2:Int)≠0:=by decide
 (try dsimp only [c_inverse_limb];simp! only [e2,n2,bw,p0,t2,ne_eq,not_false_eq_true])
 rw [Nat.mod_eq_of_lt hd]
 k_extra "mD";refine W_while (fun t:Nat×Nat=>[.val (.int (d:Nat)),.val (.int (w:Nat)),.val (.int ((2^w:Nat):Int)),.val (.int (t.1:Nat)),.val (.int (t.2:Nat))])
  (fun t=>(t=(d,3))∨(3<w∧t=(invStep w d d,6))∨(6<w∧t=(invStep w d (invStep w d d),12))) (fun t=>12-t.2) (d,3) rfl (.inl rfl) ?_
 refine fun Rq hq=>pr2 fun f s h N hN=>?_
 (simp! only [SS])
 have fb:f<2^w:=by
  rcases h with h | ⟨_,h⟩ | ⟨_,h⟩ <;> cases h
  ·exact hd
  ·exact Nat.mod_lt _ hpos
  ·exact Nat.mod_lt _ hpos
 by_cases hs:s<w
 ·have hs':(s:Int)<(w:Int):=F1 [_,_] [] 97617300236384 hs
  have d64:(d:Int).natAbs<2^64:=F2 [_,_] [] 406988599873183872333078890423020228433682528 hd hp8
  have f64:(f:Int).natAbs<2^64:=F2 [_,_] [] 406988599873183872333078890404598925754706016 hp8 fb
  have rp:0≤(2-(d:Int)*(f:Int)).fmod ((2^w:Nat):Int):=Int.fmod_nonneg_of_pos _ (by exact F1 [_,_] [] 1525268424800 hd)
  have rl:(2-(d:Int)*(f:Int)).fmod ((2^w:Nat):Int)<((2^w:Nat):Int):=Int.fmod_lt_of_pos _ (by exact F1 [_,_] [] 1525268424800 hd)
  have r64:((2-(d:Int)*(f:Int)).fmod ((2^w:Nat):Int)).natAbs<2^64:=F3 [_,_] [_] 6828135649609978433848488910305016636153810602885920 hp8 rl (Int.natAbs_of_nonneg rp)
  have s64:(s:Int).natAbs<2^64:=F2 [_,_] [] 6359196873018498005204357662572134158116960 hw2 hs
  have t64:(2:Int).natAbs<2^64:=by decide
  (simp! only [hs',p0,d64,f64,r64,s64,t64,ne_eq,not_false_eq_true])
  have es:((f:Int)*((2-(d:Int)*(f:Int)).fmod ((2^w:Nat):Int))).fmod ((2^w:Nat):Int)=((invStep w d f:Nat):Int):=by
   unfold invStep
   have nn:0≤(f:Int)*((2-(d:Int)*(f:Int)).fmod ((2^w:Nat):Int)):=Int.mul_nonneg (by exact F0 [_] [] 5556229) rp
   rw [← fmod_nat,iTn nn]
  refine ⟨(invStep w d f,2*s),by rw [es];rfl,?_,?_⟩
  ·show 12-2*s<12-s
   rcases h with h | ⟨_,h⟩ | ⟨_,h⟩ <;> cases h <;> lia
  ·rcases h with h | ⟨_,h⟩ | ⟨_,h⟩ <;> cases h
   ·exact .inr (.inl ⟨hs,rfl⟩)
   ·exact .inr (.inr ⟨hs,rfl⟩)
   ·lia
 ·have hs':¬(s:Int)<(w:Int):=F1 [_,_] [] 456607469953951840 hs
  (simp! only [hs'])
  have:f=invOf w d:=by
   unfold invOf
   rcases h with h | ⟨h1,h⟩ | ⟨h1,h⟩ <;> cases h
   ·rw [if_pos (by exact F1 [_] [] 19653996873045258305 hs)]
   ·rw [if_neg (by exact F1 [_] [] 29130131316198617153 h1),if_pos (by exact F1 [_] [] 19708040068573716545 hs)]
   ·rw [if_neg (by exact F1 [_] [] 29130131316198629441 h1),if_neg (by exact F1 [_] [] 29130975741128761409 h1)]
  rw [this]
noncomputable def doubledS:Spec:={ X:=Nat×Nat×Nat,enc:=fun x=>[nl (dg (2^x.2.2) x.1),nl (dg (2^x.2.2) x.2.1),.int (x.2.2:Nat)],pre:=fun x=>1≤x.2.2∧x.2.2≤16∧x.2.1<2^32∧x.1<x.2.1,post:=fun x r=>r=nl (dg (2^x.2.2) (x.1*2%x.2.1)) }
theorem w_doubled (a m w:Nat)(hw:1≤w)(hw2:w≤16)(hm:m<2^32)(ha:a<m) :
  W ⟨[(140,shiftLeftS),(91,compareS),(105,subS)],[],none⟩ c_doubled_rest [.val (nl (dg (2^w) a)),.val (nl (dg (2^w) m)),.val (.int (w:Nat)),.un] fun f _=>retV f (·=nl (dg (2^w) (a*2%m))):=by
 (try dsimp only [c_doubled_rest];simp! only [SS])
 k_extra "mD";refine use1 (S:=shiftLeftS) rfl (a,1,w) rfl ⟨hw,hw2,by show a<2^64;exact F2 [_,_] [] 106689619525155913028882639228238214965846593579104 hm ha,by show 1≤1000;exact F0 [] [] 18515763267⟩ fun r hr=>?_
 have hr:r=nl (dg (2^w) (a*2^1)):=hr
 subst hr
 rw [Nat.pow_one]
 k_extra "mD";refine use1 (S:=compareS) rfl (a*2,m,w) rfl ⟨hw,by show a*2<2^64;exact F2 [_,_] [] 7331654826931643132161139340426794130560275057950218326190176 hm ha,by show m<2^64;exact F1 [_] [] 406988599873183872333078915512993678916345952 hm⟩ fun r hr=>?_
 have hr:r=.int (cmpR (a*2) m):=hr
 subst hr
 by_cases hc:a*2<m
 ·have c:¬(0:Int)≤cmpR (a*2) m:=by unfold cmpR;rw [if_pos hc];decide
  (simp! only [c])
  rw [Nat.mod_eq_of_lt hc]
 ·have c:(0:Int)≤cmpR (a*2) m:=by unfold cmpR;rw [if_neg hc];split <;> decide
  (simp! only [c])
  k_extra "mD";refine use1 (S:=subS) rfl (a*2,m,w) rfl ⟨hw,by show w≤64;exact F1 [_] [] 19617688876287529056 hw2,by show a*2<2^64;exact F2 [_,_] [] 7331654826931643132161139340426794130560275057950218326190176 hm ha,by show m≤a*2;exact F1 [_,_] [] 19763064097193890080 hc⟩ fun r hr=>?_
  have hr:r=nl (dg (2^w) (a*2-m)):=hr
  rw [hr]
  have:a*2%m=a*2-m:=by rw [Nat.mod_eq_sub_mod (by exact F1 [_,_] [] 19763064097193890080 hc),Nat.mod_eq_of_lt (by exact F2 [_,_,_] [] 358295567671896127501273184 ha (nSc (F1 [_,_] [] 19763064097193890080 hc)))]
  rw [this];rfl
noncomputable def takenS:Spec:={ X:=Nat×Nat×Nat,enc:=fun x=>[nl (dg (2^x.2.2) x.1),nl (dg (2^x.2.2) x.2.1),.int (x.2.2:Nat)],pre:=fun x=>1≤x.2.2∧x.2.2≤16∧x.2.1<2^32∧x.1<2*x.2.1,post:=fun x r=>r=nl (dg (2^x.2.2) (x.1%x.2.1)) }
theorem w_taken (a m w:Nat)(hw:1≤w)(hw2:w≤16)(hm:m<2^32)(ha:a<2*m) :
  W ⟨[(91,compareS),(105,subS)],[],none⟩ c_taken_once [.val (nl (dg (2^w) a)),.val (nl (dg (2^w) m)),.val (.int (w:Nat))] fun f _=>retV f (·=nl (dg (2^w) (a%m))):=by
 (try dsimp only [c_taken_once];simp! only [SS])
 k_extra "mD";refine use1 (S:=compareS) rfl (a,m,w) rfl ⟨hw,by show a<2^64;exact F2 [_,_] [] 1789954791731358186562778275742159292134250027941655613728 hm ha,by show m<2^64;exact F1 [_] [] 406988599873183872333078915512993678916345952 hm⟩ fun r hr=>?_
 have hr:r=.int (cmpR a m):=hr
 subst hr
 by_cases hc:a<m
 ·have c:¬(0:Int)≤cmpR a m:=by unfold cmpR;rw [if_pos hc];decide
  (simp! only [c])
  rw [Nat.mod_eq_of_lt hc]
 ·have c:(0:Int)≤cmpR a m:=by unfold cmpR;rw [if_neg hc];split <;> decide
  (simp! only [c])
  k_extra "mD";refine use1 (S:=subS) rfl (a,m,w) rfl ⟨hw,by show w≤64;exact F1 [_] [] 19617688876287529056 hw2,by show a<2^64;exact F2 [_,_] [] 1789954791731358186562778275742159292134250027941655613728 hm ha,by show m≤a;exact F1 [_,_] [] 1203151120480 hc⟩ fun r hr=>?_
  have hr:r=nl (dg (2^w) (a-m)):=hr
  rw [hr]
  have:a%m=a-m:=by rw [Nat.mod_eq_sub_mod (by exact F1 [_,_] [] 1203151120480 hc),Nat.mod_eq_of_lt (by exact F2 [_,_,_] [] 87474787335425902544992 ha (nSc (F1 [_,_] [] 1203151120480 hc)))]
  rw [this];rfl
end
section
noncomputable def mlen (m w:Nat):Nat:=(dg (2^w) m).length
noncomputable def mR (m w:Nat):Nat:=(2^w)^mlen m w
noncomputable def mMinus (m w:Nat):Nat:=(2^w-invOf w (m%2^w))%2^w
noncomputable def told (m w:Nat):V:=.mont (nl (dg (2^w) m)) (.int ((mMinus m w:Nat))) (nl (dg (2^w) (mR m w%m))) (nl (dg (2^w) (mR m w*mR m w%m)))
structure MOk (m w:Nat):Prop where
 w1:3≤w
 w2:w≤8
 mo:m%2=1
 mb:m<2^16
theorem MOk.B {m w:Nat}(h:MOk m w):2≤2^w:=tLP (by have:=h.w1;exact F1 [_] [] 76969328783425 this)
theorem MOk.B8 {m w:Nat}(h:MOk m w):2^w≤2^8:=Nat.pow_le_pow_right (by exact F0 [] [] 73986) h.w2
theorem MOk.lt {m w:Nat}(h:MOk m w):m<mR m w:=dg_lt h.B m
theorem MOk.le {m w:Nat}(h:MOk m w):mR m w≤2^w*m:=by
 have:=h.mo
 have t:=top_le h.B (n:=m) (by exact F2 [_,_,_] [] 87514021007560301385732 this (Nat.div_add_mod _ 2))
 have hk:mlen m w≠0:=fun z=>by
  have:dg (2^w) m=[]:=List.length_eq_zero_iff.mp z
  rw [dg_nil h.B] at this;lia
 unfold mR
 have e:mlen m w=(mlen m w-1)+1:=by exact nAs (sb1) (F1 [_,_] [] 315568874110353632 (nSc (F1 [_] [] 18791344130 (nPo hk))))
 rw [e,Nat.pow_succ,Nat.mul_comm]
 exact Nat.mul_le_mul_left _ t
theorem MOk.k {m w:Nat}(h:MOk m w):mlen m w≤16:=dg_len_le h.B (Nat.lt_of_lt_of_le h.mb (Nat.pow_le_pow_left h.B 16))
theorem MOk.R {m w:Nat}(h:MOk m w):mR m w<2^24:=by
 have h1:=h.le
 have h2:=h.B8
 have h3:=h.mb
 have:2^w*m≤2^8*m:=Nat.mul_le_mul_right _ h2
 exact F3 [_,_,_] [] 27608864978524067742050319012022031228987422605358145632 h1 h3 this
theorem minus_fact {m w:Nat}(h:MOk m w):(mMinus m w*m+1)%2^w=0∧mMinus m w<2^w:=by
 have hB:=h.B
 have hp:0<2^w:=F1 [_] [] 19864819716 hB
 have ho:m%2^w%2=1:=by
  obtain ⟨v,hv⟩:∃ v,w=v+1:=⟨w-1,by have:=h.w1;exact nAs (sb1) (F1 [_,_] [] 315568874110353632 (nSc (F1 [_] [] 76969328783425 this)))⟩
  have:m%2^w%2=m%2:=by rw [hv];exact Nat.mod_mod_of_dvd _ ⟨2^v,by rw [Nat.pow_succ];exact nAs (F0 [_] [] 1178432737568) (F0 [_] [] 1177970317316)⟩
  rw [this];exact h.mo
 obtain ⟨i1,i2⟩:=inv_fact w h.w1 h.w2 (m%2^w) (Nat.mod_lt _ hp) ho
 refine ⟨?_,Nat.mod_lt _ hp⟩
 unfold mMinus
 generalize invOf w (m%2^w)=v at *
 have e1:(2^w-v)%2^w*m%2^w=(2^w-v)*m%2^w:=by rw [Nat.mul_mod,Nat.mod_mod,← Nat.mul_mod]
 have e2:v*m%2^w=1:=by
  rw [Nat.mul_mod,Nat.mod_mod] at i1
  rw [Nat.mul_comm v m,Nat.mul_mod];exact i1
 have e3:(2^w-v)*m+v*m=2^w*m:=by rw [← Nat.add_mul];congr 1;exact nAs (F1 [_,_,_] [] 315852410671630432 (nSc (F1 [_,_] [] 18815723616 i2))) (sb1)
 have e4:((2^w-v)*m%2^w+1)%2^w=0:=by
  have:((2^w-v)*m%2^w+v*m%2^w)%2^w=0:=by rw [← Nat.add_mod,e3,Nat.mul_mod_right]
  rwa [e2] at this
 rw [Nat.mod_add_mod] at e4
 rw [← Nat.mod_add_mod,e1,Nat.mod_add_mod];exact e4
noncomputable def makeS:Spec:={ X:=Nat×Nat,enc:=fun x=>[nl (dg (2^x.2) x.1),.int (x.2:Nat)],pre:=fun x=>MOk x.1 x.2,post:=fun x r=>r=told x.1 x.2 }
theorem w_make (m w:Nat)(h:MOk m w) :
  W ⟨[(84,isEvenS),(203,doubledS),(175,inverseS),(192,montS)],[],none⟩ c_mont_make [.val (nl (dg (2^w) m)),.val (.int (w:Nat)),.un,.un,.un] fun f _=>retV f (·=told m w):=by
 have hB:=h.B
 have hw1:=h.w1
 have hw2:=h.w2
 have hmo:=h.mo
 have hmb:=h.mb
 have hk16:=h.k
 have bw:(w:Int)≤1000:=F1 [_] [] 100073154822517370654816 hw2
 have k64:((dg (2^w) m).length:Int).natAbs<2^64:=by have:(dg (2^w) m).length≤16:=hk16;exact F1 [_] [] 24258410923074714680497580194750533728 this
 have w64:(w:Int).natAbs<2^64:=F1 [_] [] 24258410923074714680497580194748436576 hw2
 (try dsimp only [c_mont_make];simp! only [SS])
 k_extra "mD";refine use1 (S:=isEvenS) rfl (m,w) rfl (by show 1≤w;exact F1 [_] [] 76969328783425 hw1) fun r hr=>?_
 have hr:r=.bool (decide (m%2=0)):=hr
 subst hr
 have ne:¬m%2=0:=F1 [_] [] 1738430038240 hmo
 (simp! only [ne])
 have e1:[V.int 1]=iv (dg (2^w) 1):=by rw [dg_limb hB (by exact F0 [] [] 73922) (by exact F1 [_] [] 19865081860 hB)];rfl
 rw [e1]
 refine eqL_if ?_
 have d1:decide (dg (2^w) m=dg (2^w) 1)=decide (m=1):=by
  by_cases z:m=1
  ·rw [z];simp
  ·rw [decide_eq_false z,decide_eq_false fun y=>z (dg_inj hB y)]
 rw [d1]
 have key:W ⟨[(84,isEvenS),(203,doubledS),(175,inverseS),(192,montS)],[],none⟩ (restC (restC c_mont_make)) [.val (nl (dg (2^w) m)),.val (.int (w:Nat)),.val (nl (dg (2^w) (2^0%m))),.un,.un] fun f _=>retV f (·=told m w):=by
  (try dsimp only [c_mont_make];simp! only [rest_seq])
  k_extra "mD";refine W_for1 (fun t:Nat×Slot=>[.val (.lst (iv (dg (2^w) m))),.val (.int (w:Nat)),.val (.lst (iv (dg (2^w) (2^t.1%m)))),t.2,.un]) (fun k t=>t.1=k) (vs:=rangeL 0 (((dg (2^w) m).length:Int)*(w:Int)) 1) (0,.un) (fun R hR=>?_) rfl (fun Rq hq k v t hv hk N hN=>?_) (fun t hk=>?_)
  ·(simp! only [k64,w64])
   refine ⟨?_,hR⟩
   have:((dg (2^w) m).length:Int)*(w:Int)=(((dg (2^w) m).length*w:Nat):Int):=by rw [Int.natCast_mul]
   rw [this,Int.natAbs_natCast]
   have:(dg (2^w) m).length*w≤16*8:=Nat.mul_le_mul hk16 hw2
   exact F1 [_] [] 379037670673042935125767760683995232 this
  ·revert t;refine pr2 fun j sl hk=>?_
   dsimp only at hk
   subst hk
   (simp! only [SS])
   k_extra "mD";refine use1 (S:=doubledS) rfl (2^j%m,m,w) rfl ⟨by show 1≤w;exact F1 [_] [] 76969328783425 hw1,by show w≤16;exact F1 [_] [] 310752875701604448 hw2,by show m<2^32;exact F1 [_] [] 1431058685414008107641040023648 hmb,Nat.mod_lt _ (by exact F2 [_,_,_] [] 87514021007560301385732 hmo (Nat.div_add_mod _ 2))⟩ fun r hr=>?_
   have hr:r=nl (dg (2^w) (2^j%m*2%m)):=hr
   subst hr
   (simp! only [SS])
   exact ⟨(j+1,_),by rw [Nat.pow_succ,Nat.mod_mul_mod],rfl⟩
  ·rw [rangeL_len] at hk
   revert t;refine pr2 fun j sl hk=>?_
   dsimp only at hk
   have hj:j=mlen m w*w:=by
    rw [hk]
    have:((dg (2^w) m).length:Int)*(w:Int)=(((dg (2^w) m).length*w:Nat):Int):=by rw [Int.natCast_mul]
    rw [this];unfold mlen;exact nAs (F1 [_,_] [] 315675782048518944 (iTn (F0 [_] [] 22784821253))) (F1 [_,_] [] 315675642932253472 (iSt _))
   have hR:2^j=mR m w:=by rw [hj];unfold mR;rw [← Nat.pow_mul,Nat.mul_comm]
   rw [hR]
   (simp! only [SS])
   k_extra "mD";refine W_for1 (fun t:Nat×Slot=>[.val (.lst (iv (dg (2^w) m))),.val (.int (w:Nat)),.val (.lst (iv (dg (2^w) (mR m w%m)))),t.2,.val (.lst (iv (dg (2^w) (mR m w*2^t.1%m))))]) (fun k t=>t.1=k) (vs:=rangeL 0 (((dg (2^w) m).length:Int)*(w:Int)) 1) (0,sl) (fun R hR=>?_) rfl (fun Rq hq k v t hv hk N hN=>?_) (fun t hk=>?_)
   ·(simp! only [k64,w64])
    refine ⟨?_,by simpa using hR⟩
    have:((dg (2^w) m).length:Int)*(w:Int)=(((dg (2^w) m).length*w:Nat):Int):=by rw [Int.natCast_mul]
    rw [this,Int.natAbs_natCast]
    have:(dg (2^w) m).length*w≤16*8:=Nat.mul_le_mul hk16 hw2
    exact F1 [_] [] 379037670673042935125767760683995232 this
   ·revert t;refine pr2 fun j sl hk=>?_
    dsimp only at hk
    subst hk
    (simp! only [SS])
    k_extra "mD";refine use1 (S:=doubledS) rfl (mR m w*2^j%m,m,w) rfl ⟨by show 1≤w;exact F1 [_] [] 76969328783425 hw1,by show w≤16;exact F1 [_] [] 310752875701604448 hw2,by show m<2^32;exact F1 [_] [] 1431058685414008107641040023648 hmb,Nat.mod_lt _ (by exact F2 [_,_,_] [] 87514021007560301385732 hmo (Nat.div_add_mod _ 2))⟩ fun r hr=>?_
    have hr:r=nl (dg (2^w) (mR m w*2^j%m*2%m)):=hr
    subst hr
    (simp! only [SS])
    exact ⟨(j+1,_),by rw [Nat.pow_succ,← Nat.mul_assoc,Nat.mod_mul_mod],rfl⟩
   ·rw [rangeL_len] at hk
    revert t;refine pr2 fun j2 sl2 hk=>?_
    dsimp only at hk
    have hj2:2^j2=mR m w:=by
     rw [← hR];congr 1
     rw [hk,hj]
     have:((dg (2^w) m).length:Int)*(w:Int)=(((dg (2^w) m).length*w:Nat):Int):=by rw [Int.natCast_mul]
     rw [this];unfold mlen;exact nAs (F1 [_,_] [] 315675782048518944 (iTn (F0 [_] [] 22784821253))) (F1 [_,_] [] 315675642932253472 (iSt _))
    have hl:0<(dg (2^w) m).length:=by
     have:(dg (2^w) m).length≠0:=fun z=>by rw [List.length_eq_zero_iff,dg_nil hB] at z;exact F3 [_,_,_] [] 511168097322067810587023364 hmo z (Nat.div_add_mod _ 2)
     exact nPo this
    have e0:(dg (2^w) m)[0]'hl=m%2^w:=by rw [dg_get hB];simp
    (simp! only [SS])
    refine ⟨_,iv_get' _ (i:=0) (k:=0) rfl hl e0,?_⟩
    have hp:0<2^w:=F1 [_] [] 19864819716 hB
    have ho:m%2^w%2=1:=by
     obtain ⟨v,hv⟩:∃ v,w=v+1:=⟨w-1,by exact nAs (sb1) (F1 [_,_] [] 315568874110353632 (nSc (F1 [_] [] 76969328783425 hw1)))⟩
     have:m%2^w%2=m%2:=by rw [hv];exact Nat.mod_mod_of_dvd _ ⟨2^v,by rw [Nat.pow_succ];exact nAs (F0 [_] [] 1178432737568) (F0 [_] [] 1177970317316)⟩
     rw [this];exact hmo
    k_extra "mD";refine use1 (S:=inverseS) rfl (m%2^w,w) rfl ⟨hw1,hw2,Nat.mod_lt _ hp,ho⟩ fun r hr=>?_
    have hr:r=.int ((invOf w (m%2^w):Nat)):=hr
    subst hr
    obtain ⟨_,i2⟩:=inv_fact w hw1 hw2 (m%2^w) (Nat.mod_lt _ hp) ho
    (simp! only [bw,neg_mask w hw2 _ i2])
    k_extra "mD";refine use1 (S:=montS) rfl (nl (dg (2^w) m),.int ((mMinus m w:Nat)),nl (dg (2^w) (mR m w%m)),nl (dg (2^w) (mR m w*mR m w%m))) (by rw [hj2];rfl) trivial fun r hr=>hr
 by_cases z:m=1
 ·(simp! only [z])
  have:=key
  rw [z] at this
  exact this
 ·(simp! only [z])
  have e2:2^0%m=1:=by rw [Nat.pow_zero];exact Nat.mod_eq_of_lt (by exact (Nat.lt_or_gt_of_ne z).elim (fun k1=>F3 [_,_,_] [] 2082873803125306942026695350276 hmo k1 (Nat.div_add_mod _ 2)) fun k1=>k1)
  rw [e2] at key
  have:=key
  exact this
end
section
structure AR where
 l:List Nat
 m:Nat
 c:Nat
 at_:Nat
 w:Nat
def AR.pre (x:AR):Prop:=1≤x.w∧x.w≤8∧x.m<2^32∧x.c<2^x.w∧Lim (2^x.w) x.l∧x.l.length≤1000∧x.at_+(dg (2^x.w) x.m).length≤x.l.length∧vl (2^x.w) x.l+x.c*x.m*(2^x.w)^x.at_<(2^x.w)^x.l.length
def AR.post (x:AR)(r:V)(l':List V):Prop:=r=.none∧∃ k:List Nat,l'=iv k∧k.length=x.l.length∧Lim (2^x.w) k∧vl (2^x.w) k=vl (2^x.w) x.l+x.c*x.m*(2^x.w)^x.at_
noncomputable def addRowS:SpecB:={ X:=AR,enc:=fun x=>(iv x.l,[nl (dg (2^x.w) x.m),.int (x.c:Nat),.int (x.at_:Nat),.int (x.w:Nat)]),pre:=AR.pre,post:=AR.post }
theorem w_add_row (Γ:Gam)(l:List Nat)(m c at_ w:Nat)(hw:1≤w)(hw2:w≤8)(hm:m<2^32)(hc:c<2^w)(hl:Lim (2^w) l)(hll:l.length≤1000)(hat:at_+(dg (2^w) m).length≤l.length)
  (ht:vl (2^w) l+c*m*(2^w)^at_<(2^w)^l.length) :
  W Γ c_add_row [.bor (iv l),.val (nl (dg (2^w) m)),.val (.int (c:Nat)),.val (.int (at_:Nat)),.val (.int (w:Nat)),.un,.un,.un] fun f σ=>∃ l',σ[0]?=some (.bor l')∧retV f fun r =>
   r=.none∧∃ k:List Nat,l'=iv k∧k.length=l.length∧Lim (2^w) k∧vl (2^w) k=vl (2^w) l+c*m*(2^w)^at_:=by
 have hB:=tLP hw
 have bw:(w:Int)≤1000:=F1 [_] [] 100073154822517370654816 hw2
 have hp8:2^w≤2^8:=Nat.pow_le_pow_right (by exact F0 [] [] 73986) hw2
 have c64:(c:Int).natAbs<2^64:=F2 [_,_] [] 406988599873183872333078890423020228433682528 hc hp8
 (try dsimp only [c_add_row];simp! only [bw])
 k_extra "mD";refine W_for1 (fun t:List Nat×Nat×Nat×Slot=>[.bor (iv t.1),.val (.lst (iv (dg (2^w) m))),.val (.int (c:Nat)),.val (.int (t.2.1:Nat)),.val (.int (w:Nat)),.val (.int (t.2.2.1:Nat)),.val (.int (((2^w:Nat):Int)-1)),t.2.2.2])
  (fun k t=>t.1.length=l.length∧Lim (2^w) t.1∧t.2.1=at_+k∧t.2.2.1<2^w∧vl (2^w) t.1+(2^w)^(at_+k)*t.2.2.1=vl (2^w) l+c*(m%(2^w)^k)*(2^w)^at_) (vs:=iv (dg (2^w) m)) (l,at_,0,.un) (fun R h=>?_) ?_ (fun Rq hq k v t hv hk N hN=>?_) (fun t hk=>?_)
 ·(simp! only [SS]);exact h
 ·exact ⟨rfl,hl,rfl,by show 0<2^w;exact F1 [_] [] 19864819716 hB,by simp [Nat.mod_one]⟩
 ·revert t;refine pr4 fun r ai carry sl hk=>?_
  dsimp only at hk
  refine an5 hk fun h1 h2 zq2 h4 h5=>?_;clear hk;subst zq2
  have hk2:k<(dg (2^w) m).length:=by rw [← iv_len];exact (List.getElem?_eq_some_iff.mp hv).1
  have ea:=dg_get hB m k hk2
  have ev:v=.int ((m/(2^w)^k%2^w:Nat):Int):=by
   unfold iv at hv
   rw [List.getElem?_map,List.getElem?_eq_getElem hk2,ea] at hv
   exact (Option.some.inj hv).symm
  subst ev
  have em:=mod_pow_succ' (B:=2^w) m k
  have hx0:m/(2^w)^k%2^w<2^w:=Nat.mod_lt _ (by exact F1 [_] [] 19864819716 hB)
  generalize hxk:m/(2^w)^k%2^w=xk at *
  have x64:(xk:Int).natAbs<2^64:=F2 [_,_] [] 406988599873183872333078890404598925754706016 hp8 hx0
  have hr:at_+k<r.length:=F3 [_,_,_,_,_] [] 22943147996937599877865089120 hat h1 hk2
  (simp! only [SS])
  refine ⟨_,iv_get r (k:=at_+k) rfl hr,?_⟩
  have hrl:r[at_+k]<2^w:=h2 _ (List.getElem_mem hr)
  have cs:(carry:Int)+((r[at_+k]:Int)+(xk:Int)*(c:Int))=((carry+r[at_+k]+xk*c:Nat):Int):=by rw [Int.natCast_add,Int.natCast_add,Int.natCast_mul];exact iAs (F0 [_,_] [_] 410355731559185074810393376) (F0 [_,_] [_] 410193031276454993558901536)
  (simp! only [x64,c64])
  rw [cs]
  have i0:(0:Int)≤((at_+k:Nat):Int):=Int.natCast_nonneg _
  have i1:((at_+k:Nat):Int)<(r.length:Int):=F1 [_,_,_] [] 1637764441277551118432 hr
  have tk:((at_+k:Nat):Int).toNat=at_+k:=Int.toNat_natCast _
  (simp! only [i1,tk])
  have cl:=col_set (B:=2^w) (l:=r) (i:=at_+k) (carry:=carry) (p:=xk*c) hr h5 rfl
  refine ⟨(r.set (at_+k) ((carry+r[at_+k]+xk*c)%2^w),at_+k+1,(carry+r[at_+k]+xk*c)/2^w,_),by rw [iv_set];rfl,by simp [h1],lim_set h2 (Nat.mod_lt _ (by exact F1 [_] [] 19864819716 hB)),rfl,?_,?_⟩
  ·show (carry+r[at_+k]+xk*c)/2^w<2^w
   rw [Nat.div_lt_iff_lt_mul (by exact F1 [_] [] 19864819716 hB)]
   have:xk*c≤(2^w-1)*(2^w-1):=Nat.mul_le_mul (by exact F2 [_,_,_] [] 20203792278992468064 hx0 sb1) (by exact F2 [_,_,_] [] 20203792278992468064 hc sb1)
   have e:2^w*2^w=(2^w-1)*(2^w-1)+2*(2^w-1)+1:=by
    obtain ⟨q,hq⟩:∃ q,2^w=q+1:=⟨2^w-1,by exact nAs (sb1) (F1 [_,_] [] 315568874110353632 (nSc (F1 [_] [] 18791340036 hB)))⟩
    rw [hq];simp only [Nat.add_sub_cancel,Nat.add_mul,Nat.mul_add];exact nAs (F0 [_,_] [] 22764044302289431870466628285945483488) (F0 [_,_] [] 22765671453241016065950285679953318176)
   exact F5 [_,_,_,_,_,_,_] [] 1817744792811065179213453397648961791813677187275442632800 h4 hrl this e sb1
  ·show vl (2^w) (r.set (at_+k) ((carry+r[at_+k]+xk*c)%2^w))+(2^w)^(at_+k+1)*((carry+r[at_+k]+xk*c)/2^w)=_
   rw [cl,em,Nat.mul_add,Nat.add_mul,Nat.add_assoc]
   congr 2
   rw [Nat.pow_add,Nat.mul_comm xk c]
   ac_rfl
 ·rw [iv_len,mod_len hB m (Nat.le_refl _)] at hk
  revert t;refine pr4 fun r ai carry sl hk=>?_
  dsimp only at hk
  refine an5 hk fun h1 h2 zq2 h4 h5=>?_;clear hk;subst zq2
  (simp! only [SS])
  k_extra "mD";refine W_while (fun t:List Nat×Nat×Nat=>[.bor (iv t.1),.val (.lst (iv (dg (2^w) m))),.val (.int (c:Nat)),.val (.int (t.2.1:Nat)),.val (.int (w:Nat)),.val (.int (t.2.2:Nat)),.val (.int (((2^w:Nat):Int)-1)),sl])
   (fun t=>t.1.length=l.length∧Lim (2^w) t.1∧t.2.1≤l.length∧vl (2^w) t.1+(2^w)^t.2.1*t.2.2=vl (2^w) l+c*m*(2^w)^at_) (fun t=>l.length-t.2.1) (r,_,carry) rfl ⟨h1,h2,hat,h5⟩ ?_
  refine fun Rq hq=>pr3 fun r ai carry zh=>an4 zh fun h1 h2 h3 h5 N hN=>?_;clear zh
  dsimp only at h1 h2 h3 h5
  (simp! only [SS])
  by_cases hz:0<carry
  ·have hai:ai<l.length:=by
    rcases Nat.lt_or_ge ai l.length with z | z
    ·exact z
    ·have e:ai=l.length:=by exact nAs (h3) (z)
     have:(2^w)^ai*1≤(2^w)^ai*carry:=Nat.mul_le_mul_left _ hz
     rw [e] at this h5
     lia
   have hr:ai<r.length:=F2 [_,_,_] [] 5218304222898272 h1 hai
   (simp! only [Int.natCast_pos.mpr hz])
   refine ⟨_,iv_get r (k:=ai) rfl hr,?_⟩
   have cs:(carry:Int)+((r[ai]:Nat):Int)=((carry+r[ai]+0:Nat):Int):=by exact iAs (F0 [_,_] [] 1563506275871609721632) (F0 [_,_] [] 1564739998196437649504)
   have i1:(ai:Int)<(r.length:Int):=F1 [_,_] [] 97617300236384 hr
   (simp! only [SS])
   rw [cs]
   have tk:((ai:Nat):Int).toNat=ai:=Int.toNat_natCast _
   (simp! only [i1,tk])
   have cl:=col_set (B:=2^w) (l:=r) (i:=ai) (carry:=carry) (p:=0) hr h5 rfl
   rw [Nat.mul_zero,Nat.add_zero] at cl
   exact ⟨(r.set ai ((carry+r[ai]+0)%2^w),ai+1,(carry+r[ai]+0)/2^w),by rw [iv_set];rfl,by show l.length-(ai+1)<l.length-ai;exact F2 [_,_,_,_] [] 358901116904539736237946976 sb1 (nSc (F1 [_,_] [] 77043182151776 hai)),by simp [h1],lim_set h2 (Nat.mod_lt _ (by exact F1 [_] [] 19864819716 hB)),hai,cl⟩
  ·have z0:carry=0:=by exact nAs (F1 [_] [] 1170922088450 hz) (F0 [_] [] 71682)
   subst z0
   (simp! only [Int.natCast_zero,Int.lt_irrefl])
   rw [Nat.mul_zero,Nat.add_zero] at h5
   exact ⟨_,rfl,r,rfl,h1,h2,h5⟩
noncomputable def redcS:Spec:={ X:=Nat×Nat×Nat,enc:=fun x=>[nl (dg (2^x.2.2) x.1),told x.2.1 x.2.2,.int (x.2.2:Nat)],pre:=fun x=>MOk x.2.1 x.2.2∧x.1<x.2.1*mR x.2.1 x.2.2,post:=fun x r=>∃ q:Nat,r=nl (dg (2^x.2.2) q)∧q<x.2.1∧q*mR x.2.1 x.2.2%x.2.1=x.1%x.2.1 }
theorem w_redc (a m w:Nat)(h:MOk m w)(ha:a<m*mR m w) :
  W ⟨[(91,compareS),(126,liftedS),(70,normalS),(224,takenS)],[(217,addRowS)],none⟩ c_redc [.val (nl (dg (2^w) a)),.val (told m w),.val (.int (w:Nat)),.un,.un,.un,.un,.un] fun f _ =>
   retV f fun r=>∃ q:Nat,r=nl (dg (2^w) q)∧q<m∧q*mR m w%m=a%m:=by
 have hB:=h.B
 have hw1:=h.w1
 have hw2:=h.w2
 have hmb:=h.mb
 have hmR:=h.lt
 have hR24:=h.R
 have hk16:=h.k
 have bw:(w:Int)≤1000:=F1 [_] [] 100073154822517370654816 hw2
 have hp8:=h.B8
 have hmm:m*mR m w<2^16*2^24:=by
  have h1:m*mR m w≤2^16*mR m w:=Nat.mul_le_mul_right _ (by exact F1 [_] [] 5213492651554750439895136 hmb)
  have h2:2^16*mR m w<2^16*2^24:=Nat.mul_lt_mul_of_pos_left hR24 (by decide)
  exact F2 [_,_] [] 32052141393644069158017345073564184329614249850009277084351530420054012000 hR24 h1
 have a64:a<2^64:=F2 [_,_] [] 114557106670806923940017810053640598369489329616157153439840 ha hmm
 have haR:a<(2^w)^(2*mlen m w):=by
  have:m*mR m w≤mR m w*mR m w:=Nat.mul_le_mul_right _ (by exact F1 [_,_] [] 18815723616 hmR)
  have e:(2^w)^(2*mlen m w)=mR m w*mR m w:=by unfold mR;rw [← Nat.pow_add];congr 1;exact nAs (F0 [_] [] 1177366337540) (F0 [_] [] 1178432735264)
  exact F3 [_,_,_,_] [] 1365694783909498800224 ha this e
 have lal:(dg (2^w) a).length≤2*mlen m w:=dg_len_le hB haR
 have hlen:(dg (2^w) m).length=mlen m w:=rfl
 (try dsimp only [c_redc];simp! only [told,if_true])
 (simp! only [hlen])
 k_extra "mD";refine use1 (S:=liftedS) rfl (m,mlen m w,w) (by show _=[nl _,_];rfl) ⟨by show 1≤w;exact F1 [_] [] 76969328783425 hw1,by show m<2^64;exact F1 [_] [] 1552538299076781739551845228257642295392 hmb,by show mlen m w≤1000;exact F1 [_] [] 19881149454488703072 hk16⟩ fun r hr=>?_
 have hr:r=nl (dg (2^w) (m*mR m w)):=hr
 subst hr
 k_extra "mD";refine use1 (S:=compareS) rfl (a,m*mR m w,w) rfl ⟨by show 1≤w;exact F1 [_] [] 76969328783425 hw1,a64,by show m*mR m w<2^64;exact F1 [_] [] 437000681575038619766303290280379608141104386802724960 hmm⟩ fun r hr=>?_
 have hr:r=.int (cmpR a (m*mR m w)):=hr
 subst hr
 have cn:¬(0:Int)≤cmpR a (m*mR m w):=by unfold cmpR;rw [if_pos ha];decide
 have k64:(mlen m w:Int).natAbs<2^64:=F1 [_] [] 24258410923074714680497580194750533728 hk16
 have t64:(2:Int).natAbs<2^64:=by decide
 have zc:(2:Int)*(mlen m w:Int)+1-((dg (2^w) a).length:Int)=((2*mlen m w+1-(dg (2^w) a).length:Nat):Int):=by exact iAs (F1 [_,_,_] [] 28173799254478503866395838355321165828 sb1) (F1 [_,_,_] [] 28208619125791340724995064683822090336 (nSc (F1 [_,_] [] 1263658690964483346720 lal)))
 generalize hz:2*mlen m w+1-(dg (2^w) a).length=zn at *
 have z1:(-1000:Int)≤(zn:Int):=F0 [_] [] 5965966403862657
 have z2:(zn:Int)≤1000:=F2 [_,_,_] [] 1935696331443772643463542785803688766881501595655 hk16 zc
 have zr:List.replicate ((zn:Nat):Int).toNat (V.int 0)=iv (List.replicate zn 0):=by rw [Int.toNat_natCast];exact iv_rep zn 0
 have hsm:(dg (2^w) a).length+((zn:Nat):Int).toNat≤sMx:=by have:sMx=1048576:=rfl;exact F3 [_,_,_,_] [] 109861817025304000802639003998539072833862847931426101280864 hk16 zc this
 have hsm2:(dg (2^w) a).length+zn≤sMx:=by have:sMx=1048576:=rfl;exact F3 [_,_,_,_] [] 1716599861751477757466935439079156693512683428777310568544 hk16 zc this
 (simp! only [cn,k64,t64,zc,z1,z2,zr,bw,hsm,hsm2])
 rw [iv_append]
 obtain ⟨mf1,mf2⟩:=minus_fact h
 generalize hmi:mMinus m w=mi at *
 have mi64:(mi:Int).natAbs<2^64:=F2 [_,_] [] 406988599873183872333078890404598925754706016 hp8 mf2
 generalize hLL:(V.lst (iv (dg (2^w) (mR m w%m))))=oneV at *
 generalize hSS:(V.lst (iv (dg (2^w) (mR m w*mR m w%m))))=sqV at *
 k_extra "mD";refine W_for1 (fun t:List Nat×Slot=>[.val (.lst (iv (dg (2^w) a))),.val (.mont (.lst (iv (dg (2^w) m))) (.int (mi:Nat)) oneV sqV),.val (.int (w:Nat)),.val (.lst (iv (dg (2^w) m))),.val (.int (mlen m w:Nat)),.own (iv t.1),.val (.int (((2^w:Nat):Int)-1)),t.2])
  (fun k t=>t.1.length=2*mlen m w+1∧Lim (2^w) t.1∧k≤mlen m w∧∃ q,q<(2^w)^k∧vl (2^w) t.1=a+m*q∧vl (2^w) t.1%(2^w)^k=0) (vs:=rangeL 0 (mlen m w:Int) 1) (dg (2^w) a++List.replicate zn 0,.un) (fun R hR=>?_) ?_ (fun Rq hq k v t hv hk N hN=>?_) (fun t hk=>?_)
 ·(simp! only [SS])
  exact ⟨by exact F1 [_] [] 1445913965885326136526904496224 hk16,hR⟩
 ·refine ⟨by simp;exact nAs (F1 [_,_,_] [] 22764051159317404431327129319080249351 zc) (F1 [_,_,_] [] 22774231026243198516039515556930439175 zc),lim_append (dg_lim hB a) (lim_zeros hB zn),Nat.zero_le _,0,by simp,?_,by simp [Nat.mod_one]⟩
  show vl (2^w) (dg (2^w) a++List.replicate zn 0)=_
  rw [vl_append,vl_zeros,vl_dg hB];simp
 ·obtain ⟨rfl,hlt⟩:=rangeL_get hv
  revert t;refine pr2 fun r sl hk=>?_
  dsimp only at hk
  refine an4 hk fun h1 h2 h3 zr0=>x1a3 zr0 fun q h4 h5 h6=>?_;clear hk
  have hkm:k<mlen m w:=F1 [_,_] [] 333690110160979973 hlt
  have hkr:k<r.length:=F2 [_,_,_] [] 6006289985707809553051343691059488 hlt h1
  have hr:r[k]<2^w:=h2 _ (List.getElem_mem hkr)
  have hl:=vl_limb hB h2 hkr
  have r64:((r[k]:Nat):Int).natAbs<2^64:=F2 [_,_] [] 406988599873183872333078890404598925754706016 hp8 hr
  (simp! only [if_true])
  refine ⟨_,iv_get r (k:=k) (by exact iAs (F0 [_] [] 1456534243333) (F0 [_] [] 1457277391648)) hkr,?_⟩
  have ec:((r[k]:Nat):Int)*(mi:Int)=((r[k]*mi:Nat):Int):=by rw [Int.natCast_mul]
  (simp! only [r64,mi64])
  rw [ec]
  (simp! only [SS])
  have hq2:q+r[k]*mi%2^w*(2^w)^k<(2^w)^(k+1):=by
   have hlt2:r[k]*mi%2^w<2^w:=Nat.mod_lt _ (by exact F1 [_] [] 19864819716 hB)
   have:(r[k]*mi%2^w+1)*(2^w)^k≤2^w*(2^w)^k:=Nat.mul_le_mul_right _ hlt2
   rw [Nat.pow_succ,Nat.mul_comm ((2^w)^k)]
   rw [Nat.add_mul] at this
   exact F2 [_,_,_,_] [] 358486686316797587429396704 h4 this
  have nv:vl (2^w) r+r[k]*mi%2^w*m*(2^w)^k=a+m*(q+r[k]*mi%2^w*(2^w)^k):=by
   rw [h5,Nat.mul_add,Nat.add_assoc];congr 2;ac_rfl
  have hqR:(2^w)^(k+1)≤mR m w:=Nat.pow_le_pow_right (by exact F1 [_] [] 19864819716 hB) hkm
  have bound:vl (2^w) r+r[k]*mi%2^w*m*(2^w)^k<(2^w)^r.length:=by
   rw [nv,h1]
   have e1:m*(q+r[k]*mi%2^w*(2^w)^k)≤m*mR m w:=Nat.mul_le_mul_left _ (by exact F2 [_,_,_,_] [] 82725063954020570830944 hq2 hqR)
   have e2:m*mR m w≤mR m w*mR m w:=Nat.mul_le_mul_right _ (by exact F1 [_,_] [] 18815723616 hmR)
   have e3:(2^w)^(2*mlen m w+1)=mR m w*mR m w*2^w:=by unfold mR;rw [← Nat.pow_add,← Nat.pow_succ];congr 1;exact nAs (F0 [_] [] 19744662609212512260) (F0 [_] [] 19744666977194248224)
   have e4:mR m w*mR m w*2≤mR m w*mR m w*2^w:=Nat.mul_le_mul_left _ hB
   rw [e3];exact F4 [_,_,_,_,_] [] 24614263604133772353447995255231385888 ha e1 e2 e4
  k_extra "mD";refine useB1 (S:=addRowS) rfl ⟨r,m,r[k]*mi%2^w,k,w⟩ (by show _=(_,[_,_,_,_]);simp only [nl_eq];congr 5;exact iAs (F0 [_] [] 1456534243333) (F0 [_] [] 1457277391648)) ⟨by show 1≤w;exact F1 [_] [] 76969328783425 hw1,hw2,by show m<2^32;exact F1 [_] [] 1431058685414008107641040023648 hmb,Nat.mod_lt _ (by exact F1 [_] [] 19864819716 hB),h2,by show r.length≤1000;exact F2 [_,_] [] 358146949095244801084951497300906272 hk16 h1,by show k+mlen m w≤r.length;exact F2 [_,_,_] [] 5679750030707734710951811763015968 hlt h1,bound⟩ fun rv l' hp=>?_
  refine an2 hp fun zq0 zr0=>x1a4 zr0 fun r2 zq2 p1 p2 p3=>?_;clear hp zr0;subst zq0;subst zq2
  (simp! only [SS])
  refine ⟨(r2,_),rfl,p1.trans h1,p2,by exact F1 [_,_] [] 1292570108540040300549 hlt,q+r[k]*mi%2^w*(2^w)^k,hq2,p3.trans nv,?_⟩
  show vl (2^w) r2%(2^w)^(k+1)=0
  have p3':vl (2^w) r2=vl (2^w) r+r[k]*mi%2^w*m*(2^w)^k:=p3
  have hp:0<(2^w)^k:=Nat.pow_pos (by exact F1 [_] [] 19864819716 hB)
  rw [mod_pow_succ',p3']
  have m0:(vl (2^w) r+r[k]*mi%2^w*m*(2^w)^k)%(2^w)^k=0:=by rw [Nat.add_mul_mod_self_right];exact h6
  have d0:(vl (2^w) r+r[k]*mi%2^w*m*(2^w)^k)/(2^w)^k%2^w=0:=by
   rw [Nat.add_mul_div_right _ _ hp]
   have s1:∀ V x:Nat,(V+x%2^w*m)%2^w=(V%2^w+x*m)%2^w:=fun V x=>by
    rw [Nat.add_mod,Nat.mod_mul_mod,← Nat.add_mod,← Nat.mod_add_mod]
   rw [s1,hl]
   have e5:r[k]+r[k]*mi*m=r[k]*(mi*m+1):=by rw [Nat.mul_add,Nat.mul_one,Nat.mul_assoc];exact nAs (F0 [_,_] [] 1177366595680) (F0 [_,_] [] 1177366595680)
   rw [e5,Nat.mul_mod,mf1];simp
  rw [m0,d0];simp
 ·rw [rangeL_len] at hk
  have e0:(((mlen m w:Nat):Int)-0).toNat=mlen m w:=by exact nAs (hk.2.2.1) (F1 [_,_] [] 315675642932253472 (iSt _))
  rw [e0] at hk
  revert t;refine pr2 fun r sl hk=>?_
  dsimp only at hk
  refine an4 hk fun h1 h2 h3 zr0=>x1a3 zr0 fun q h4 h5 h6=>?_;clear hk
  (simp! only [SS])
  have hcut:cutL (iv r) (some (mlen m w:Int)) none=iv (r.drop (mlen m w)):=by
   rw [iv_cut r (lo:=some (mlen m w:Int)) (hi:=none) (a:=mlen m w) (b:=r.length) (clip_nat _ _ (by exact F1 [_,_] [] 177865310201937531168 h1)) rfl,List.take_of_length_le (by simp)]
  rw [hcut]
  k_extra "mD";refine use1 (S:=normalS) rfl (r.drop (mlen m w)) rfl trivial fun rv hrv=>?_
  have hrv:rv=nl (nrm (r.drop (mlen m w))):=hrv
  subst hrv
  rw [nrm_dg hB (lim_drop h2 _),← vl_div hB h2,h5]
  have hdv:(a+m*q)/(2^w)^mlen m w*mR m w=a+m*q:=by
   have:=Nat.div_add_mod (a+m*q) ((2^w)^mlen m w)
   rw [← h5,h6,h5,Nat.add_zero,Nat.mul_comm] at this
   exact this
  have hq:q<mR m w:=h4
  generalize hT:(a+m*q)/(2^w)^mlen m w=T at *
  have hT2:T<2*m:=by
   rcases Nat.lt_or_ge T (2*m) with z | z
   ·exact z
   ·have e1:2*m*mR m w≤T*mR m w:=Nat.mul_le_mul_right _ z
    have e2:m*q≤m*mR m w:=Nat.mul_le_mul_left _ (by exact F1 [_,_] [] 18815723616 hq)
    rw [Nat.mul_assoc] at e1
    lia
  k_extra "mD";refine use1 (S:=takenS) rfl (T,m,w) rfl ⟨by show 1≤w;exact F1 [_] [] 76969328783425 hw1,by show w≤16;exact F1 [_] [] 310752875701604448 hw2,by show m<2^32;exact F1 [_] [] 1431058685414008107641040023648 hmb,hT2⟩ fun rv hrv=>?_
  have hrv:rv=nl (dg (2^w) (T%m)):=hrv
  refine ⟨T%m,hrv,Nat.mod_lt _ (by exact F1 [_,_] [] 43428581445341472 hT2),?_⟩
  rw [Nat.mod_mul_mod,hdv,Nat.add_mul_mod_self_left]
end
section
noncomputable abbrev mfv (m w x:Nat):V:=nl (dg (2^w) (x*mR m w%m))
noncomputable abbrev tclo (m w:Nat):V:=.clo (told m w) (.int (w:Nat)) (.ref 481)
noncomputable def mulSp:Spec:={ X:=Nat×Nat×Nat,enc:=fun x=>[nl (dg (2^x.2.2) x.1),nl (dg (2^x.2.2) x.2.1),.int (x.2.2:Nat)],pre:=fun x=>3≤x.2.2∧x.2.2≤8∧x.1<2^16∧x.2.1<2^16,post:=fun x r=>r=nl (dg (2^x.2.2) (x.1*x.2.1)) }
noncomputable def divremS:Spec:={ X:=Nat×Nat×Nat,enc:=fun x=>[nl (dg (2^x.2.2) x.1),nl (dg (2^x.2.2) x.2.1),.int (x.2.2:Nat)],pre:=fun x=>3≤x.2.2∧x.2.2≤8∧x.1<2^32∧x.2.1<2^16∧0<x.2.1,post:=fun x r=>r=.tup [nl (dg (2^x.2.2) (x.1/x.2.1)),nl (dg (2^x.2.2) (x.1%x.2.1))] }
theorem useC {Γ:Gam}{S:Spec}{t v q:V}{vs:List V}{k:V→Prop}(h:Γ.cl=some S)(x:S.X)(hl:vs.length=2)(e:vs++[t,v,q]=S.enc x)(p:S.pre x)(h2:∀ r,S.post x r→k r):Γ.use (.clo t v q) vs k:=⟨S,h,hl,x,e,p,h2⟩
theorem MOk.pos {m w:Nat}(h:MOk m w):0<m:=by have:=h.mo;exact F2 [_,_,_] [] 87514021007560301385732 this (Nat.div_add_mod _ 2)
theorem MOk.Rpow {m w:Nat}(h:MOk m w):∃ j,mR m w=2^j:=⟨w*mlen m w,by unfold mR;rw [Nat.pow_mul]⟩
theorem MOk.cancel {m w x y:Nat}(h:MOk m w)(e:x*mR m w%m=y*mR m w%m):x%m=y%m:=by
 obtain ⟨j,hj⟩:=h.Rpow
 rw [hj] at e
 exact cancel_pow h.mo j e
noncomputable def toMontS:Spec:={ X:=Nat×Nat×Nat,enc:=fun x=>[nl (dg (2^x.2.2) x.1),told x.2.1 x.2.2,.int (x.2.2:Nat),.ref 481],pre:=fun x=>MOk x.2.1 x.2.2∧x.1<x.2.1,post:=fun x r=>r=mfv x.2.1 x.2.2 x.1 }
theorem w_to_mont (a m w:Nat)(h:MOk m w)(ha:a<m):W ⟨[(91,compareS),(231,redcS),(481,mulSp)],[],none⟩ c_to_mont [.val (nl (dg (2^w) a)),.val (told m w),.val (.int (w:Nat)),.val (.ref 481)] fun f _=>retV f (·=mfv m w a):=by
 have hmb:=h.mb
 have hw1:=h.w1
 have hR:=h.lt
 (try dsimp only [c_to_mont];simp! only [told])
 k_extra "mD";refine use1 (S:=compareS) rfl (a,m,w) rfl ⟨by show 1≤w;exact F1 [_] [] 76969328783425 hw1,by show a<2^64;exact F2 [_,_] [] 406988599873183872333078916673942872536395872 ha hmb,by show m<2^64;exact F1 [_] [] 1552538299076781739551845228257642295392 hmb⟩ fun r hr=>?_
 have hr:r=.int (cmpR a m):=hr
 subst hr
 have cn:¬(0:Int)≤cmpR a m:=by unfold cmpR;rw [if_pos ha];decide
 (simp! only [cn])
 have hsq:mR m w*mR m w%m<m:=Nat.mod_lt _ h.pos
 have key:∀ R:V→Prop,(∀ r,r=mfv m w a→R r)→Gam.use ⟨[(91,compareS),(231,redcS),(481,mulSp)],[],none⟩ (.ref 481) [.lst (iv (dg (2^w) a)),.lst (iv (dg (2^w) (mR m w*mR m w%m))),.int (w:Nat)] fun r=>Gam.use ⟨[(91,compareS),(231,redcS),(481,mulSp)],[],none⟩ (.ref 231) [r,told m w,.int (w:Nat)] R:=fun R hR'=>by
  k_extra "mD";refine use1 (S:=mulSp) rfl (a,mR m w*mR m w%m,w) rfl ⟨hw1,h.w2,by show a<2^16;exact F2 [_,_] [] 1445913980164590408400067637344 ha hmb,by show mR m w*mR m w%m<2^16;exact F2 [_,_] [] 1445913980163432836909414819936 hmb hsq⟩ fun r hr=>?_
  have hr:r=nl (dg (2^w) (a*(mR m w*mR m w%m))):=hr
  subst hr
  have hb:a*(mR m w*mR m w%m)<m*mR m w:=by
   have h1:a*(mR m w*mR m w%m)≤a*mR m w:=Nat.mul_le_mul_left _ (by exact F2 [_,_,_] [] 4936827115219040 hR hsq)
   have h2:a*mR m w<m*mR m w:=Nat.mul_lt_mul_of_pos_right ha (by exact F2 [_,_,_] [] 5211842427824224 ha hR)
   exact F2 [_,_,_] [] 5214040377337952 h1 h2
  k_extra "mD";refine use1 (S:=redcS) rfl (a*(mR m w*mR m w%m),m,w) rfl ⟨h,hb⟩ fun r hr=>?_
  refine x1a3 hr fun q zq1 q1 q2=>?_;clear hr;subst zq1
  have q2:q*mR m w%m=a*(mR m w*mR m w%m)%m:=q2
  refine hR' _ ?_
  have e:q*mR m w%m=(a*mR m w)*mR m w%m:=by rw [q2,Nat.mul_mod_mod,Nat.mul_assoc]
  have:=h.cancel e
  rw [Nat.mod_eq_of_lt q1] at this
  show nl (dg (2^w) q)=_
  rw [this]
 exact key _ fun r hr=>hr
noncomputable def fromMontS:Spec:={ X:=Nat×Nat×Nat,enc:=fun x=>[mfv x.2.1 x.2.2 x.1,told x.2.1 x.2.2,.int (x.2.2:Nat)],pre:=fun x=>MOk x.2.1 x.2.2,post:=fun x r=>r=nl (dg (2^x.2.2) (x.1%x.2.1)) }
theorem w_from_mont (x m w:Nat)(h:MOk m w):W ⟨[(231,redcS)],[],none⟩ c_from_mont [.val (mfv m w x),.val (told m w),.val (.int (w:Nat))] fun f _=>retV f (·=nl (dg (2^w) (x%m))):=by
 have hlt:x*mR m w%m<m:=Nat.mod_lt _ h.pos
 (try dsimp only [c_from_mont];simp! only [SS])
 k_extra "mD";refine use1 (S:=redcS) rfl (x*mR m w%m,m,w) rfl ⟨h,?_⟩ fun r hr=>?_
 ·show x*mR m w%m<m*mR m w
  have:m*1≤m*mR m w:=Nat.mul_le_mul_left _ (by have:=h.lt;exact F2 [_,_,_] [] 4930436170590304 hlt this)
  exact F2 [_,_,_] [] 21356713783605891296 hlt this
 ·refine x1a3 hr fun q zq1 q1 q2=>?_;clear hr;subst zq1
  have q2:q*mR m w%m=x*mR m w%m%m:=q2
  rw [Nat.mod_mod] at q2
  have:=h.cancel q2
  rw [Nat.mod_eq_of_lt q1] at this
  show nl (dg (2^w) q)=_
  rw [this];rfl
noncomputable def montMulS:Spec:={ X:=Nat×Nat×Nat×Nat,enc:=fun x=>[mfv x.2.2.1 x.2.2.2 x.1,mfv x.2.2.1 x.2.2.2 x.2.1,told x.2.2.1 x.2.2.2,.int (x.2.2.2:Nat),.ref 481],pre:=fun x=>MOk x.2.2.1 x.2.2.2,post:=fun x r=>r=mfv x.2.2.1 x.2.2.2 (x.1*x.2.1) }
theorem w_mont_mul (x y m w:Nat)(h:MOk m w):W ⟨[(231,redcS),(481,mulSp)],[],none⟩ c_mont_mul [.val (mfv m w x),.val (mfv m w y),.val (told m w),.val (.int (w:Nat)),.val (.ref 481)] fun f _=>retV f (·=mfv m w (x*y)):=by
 have hmb:=h.mb
 have hx:x*mR m w%m<m:=Nat.mod_lt _ h.pos
 have hy:y*mR m w%m<m:=Nat.mod_lt _ h.pos
 (try dsimp only [c_mont_mul];simp! only [SS])
 k_extra "mD";refine use1 (S:=mulSp) rfl (x*mR m w%m,y*mR m w%m,w) rfl ⟨h.w1,h.w2,by show x*mR m w%m<2^16;exact F2 [_,_] [] 1445913980163432836909414819936 hmb hx,by show y*mR m w%m<2^16;exact F2 [_,_] [] 1445913980163432836909414819936 hmb hy⟩ fun r hr=>?_
 have hr:r=nl (dg (2^w) ((x*mR m w%m)*(y*mR m w%m))):=hr
 subst hr
 k_extra "mD";refine use1 (S:=redcS) rfl ((x*mR m w%m)*(y*mR m w%m),m,w) rfl ⟨h,?_⟩ fun r hr=>?_
 ·show (x*mR m w%m)*(y*mR m w%m)<m*mR m w
  have h1:(x*mR m w%m)*(y*mR m w%m)≤(x*mR m w%m)*mR m w:=Nat.mul_le_mul_left _ (by have:=h.lt;exact F2 [_,_,_] [] 4932566474369120 hy this)
  have h2:(x*mR m w%m)*mR m w<m*mR m w:=Nat.mul_lt_mul_of_pos_right hx (by have:=h.lt;exact F2 [_,_,_] [] 5211842427824224 hx this)
  exact F2 [_,_,_] [] 5214040377337952 h1 h2
 ·refine x1a3 hr fun q zq1 q1 q2=>?_;clear hr;subst zq1
  have q2:q*mR m w%m=(x*mR m w%m)*(y*mR m w%m)%m:=q2
  rw [← Nat.mul_mod] at q2
  have e:q*mR m w%m=(x*y*mR m w)*mR m w%m:=by rw [q2];congr 1;ac_rfl
  have:=h.cancel e
  rw [Nat.mod_eq_of_lt q1] at this
  show nl (dg (2^w) q)=_
  rw [this];rfl
noncomputable def oddsOf (m w b n:Nat):List V:=(List.range n).map fun i=>mfv m w (b^(2*i+1))
theorem odds_succ (m w b n:Nat):oddsOf m w b (n+1)=oddsOf m w b n++[mfv m w (b^(2*n+1))]:=by unfold oddsOf;rw [List.range_succ,List.map_append];rfl
theorem odds_len (m w b n:Nat):(oddsOf m w b n).length=n:=by unfold oddsOf;rw [List.length_map,List.length_range]
theorem odds_get (m w b n i:Nat)(h:i<n):(oddsOf m w b n)[i]?=some (mfv m w (b^(2*i+1))):=by unfold oddsOf;rw [List.getElem?_map,List.getElem?_range h];rfl
noncomputable def oddS:Spec:={ X:=Nat×Nat×Nat,enc:=fun x=>[mfv x.2.1 x.2.2 x.1,.int 3,tclo x.2.1 x.2.2],pre:=fun x=>MOk x.2.1 x.2.2,post:=fun x r=>r=.lst (oddsOf x.2.1 x.2.2 x.1 4) }
theorem w_odd_powers (b m w:Nat)(h:MOk m w):W ⟨[],[],some montMulS⟩ c_odd_powers [.val (mfv m w b),.val (.int 3),.val (tclo m w),.un,.un,.un] fun f _=>retV f (·=.lst (oddsOf m w b 4)):=by
 have t1:(0:Int)≤3-1:=by decide
 have t2:(3:Int)-1≤1000:=by decide
 (try dsimp only [c_odd_powers];simp! only [SS])
 k_extra "mD";refine useC (S:=montMulS) rfl (b,b,m,w) rfl rfl h fun r hr=>?_
 have hr:r=mfv m w (b*b):=hr
 subst hr
 k_extra "mD";refine W_for1 (fun t:Nat×Slot=>[.val (mfv m w b),.val (.int 3),.val (tclo m w),.own (oddsOf m w b (t.1+1)),.val (mfv m w (b*b)),t.2]) (fun k t=>t.1=k) (vs:=rangeL 0 3 1) (0,.un) (fun R hR=>?_) rfl (fun Rq hq k v t hv hk N hN=>?_) (fun t hk=>?_)
 ·(simp! only [SS])
  refine ⟨⟨t1,t2⟩,?_⟩
  have e1:((3:Int)-1).toNat=2:=rfl
  rw [e1]
  refine ⟨by decide,?_⟩
  have e2:(1:Int)*2^2-1=3:=by decide
  rw [e2]
  have e3:oddsOf m w b (0+1)=[mfv m w b]:=by unfold oddsOf;simp
  rw [e3] at hR
  exact hR
 ·obtain ⟨rfl,hlt⟩:=rangeL_get hv
  revert t;refine pr2 fun j sl hk=>?_
  dsimp only at hk
  subst hk
  (simp! only [SS])
  have hlast:pyIdx (oddsOf m w b (j+1)) (-1)=some (mfv m w (b^(2*j+1))):=by
   unfold pyIdx
   rw [if_neg (by decide),if_pos (by rw [odds_len];exact F0 [_] [] 93396466172128),odds_len]
   have e:((-1:Int)+((j+1:Nat):Int)).toNat=j:=by exact nAs (F1 [_,_] [] 82752511958331556651808 (iTn (F0 [_] [] 5968982398005637))) (F1 [_,_] [] 82752475740771376300998 (iSt _))
   rw [e,odds_get _ _ _ _ _ (by exact F0 [_] [] 304101408)]
  refine ⟨_,hlast,?_⟩
  k_extra "mD";refine useC (S:=montMulS) rfl (b^(2*j+1),b*b,m,w) rfl rfl h fun r hr=>?_
  have hr:r=mfv m w (b^(2*j+1)*(b*b)):=hr
  subst hr
  have hsz:(oddsOf m w b (j+1)).length<sMx:=by rw [odds_len];have:sMx=1048576:=rfl;exact F2 [_,_] [] 1573973243152286905560746482021112496224 hlt this
  (simp! only [hsz])
  refine ⟨(j+1,.val (.int (0+(j:Int)))),?_,rfl⟩
  rw [odds_succ m w b (j+1)]
  have:b^(2*(j+1)+1)=b^(2*j+1)*(b*b):=by rw [show 2*(j+1)+1=(2*j+1)+2 by exact nAs (F0 [_] [] 331265157966069676132808708) (F0 [_] [] 331260515043084234358822916),Nat.pow_add,Nat.pow_two]
  rw [this];rfl
 ·revert t;refine pr2 fun j sl hk=>?_
  have hk:j=3:=hk
  subst hk
  (simp! only [SS])
noncomputable def windowS:Spec:={ X:=Nat×Nat×Nat,enc:=fun x=>[nl (dg (2^x.2.2) x.1),.int (x.2.1:Nat),.int 3,.int (x.2.2:Nat)],pre:=fun x=>1≤x.2.2∧x.2.2≤8∧x.2.1<64∧x.1/2^x.2.1%2=1,post:=fun x r=>∃ la:Nat,la≤x.2.1∧x.2.1≤la+2∧x.1/2^la%2=1∧r=.tup [.int ((x.1/2^la%2^(x.2.1+1-la):Nat)),.int ((x.2.1+1-la:Nat))] }
theorem w_window (e top w:Nat)(hw:1≤w)(hw2:w≤8)(ht:top<64)(hb:e/2^top%2=1) :
  W ⟨[(161,bitS)],[],none⟩ c_window_at [.val (nl (dg (2^w) e)),.val (.int (top:Nat)),.val (.int 3),.val (.int (w:Nat)),.un,.un,.un] fun f _ =>
   retV f fun r=>∃ la:Nat,la≤top∧top≤la+2∧e/2^la%2=1∧r=.tup [.int ((e/2^la%2^(top+1-la):Nat)),.int ((top+1-la:Nat))]:=by
 have em:max ((top:Int)-3+1) 0=((top-2:Nat):Int):=by lia
 (try dsimp only [c_window_at];simp! only [em])
 k_extra "mD";refine W_while (fun t:Nat=>[.val (.lst (iv (dg (2^w) e))),.val (.int (top:Nat)),.val (.int 3),.val (.int (w:Nat)),.val (.int (t:Nat)),.un,.un]) (fun t=>t≤top∧top≤t+2) (fun t=>top-t) (top-2) rfl ⟨by exact sb0,by exact sb1⟩ ?_
 rintro Rq hq la ⟨h1,h2⟩ N hN
 (simp! only [SS])
 k_extra "mD";refine use1 (S:=bitS) rfl (e,la,w) rfl ⟨hw,by show w≤16;exact F1 [_] [] 310752875701604448 hw2⟩ fun r hr=>?_
 have hr:r=.int ((e/2^la%2:Nat)):=hr
 subst hr
 by_cases hz:e/2^la%2=0
 ·have hlt:la<top:=by
   rcases Nat.lt_or_ge la top with z | z
   ·exact z
   ·have:la=top:=by exact nAs (h1) (z)
    rw [this] at hz;lia
  (simp! only [hz,Int.natCast_zero])
  exact ⟨la+1,rfl,by show top-(la+1)<top-la;exact F2 [_,_,_,_] [] 358901116904539736237946976 sb1 (nSc (F1 [_,_] [] 77043182151776 hlt)),by exact F1 [_,_] [] 77043182151776 hlt,by exact F1 [_,_] [] 1263676293939485231200 h2⟩
 ·have hz':¬(((e/2^la%2:Nat):Int)=0):=F1 [_] [] 111537289242626 (nPo hz)
  (simp! only [hz'])
  k_extra "mD";refine W_for1 (fun t:Nat×Slot=>[.val (.lst (iv (dg (2^w) e))),.val (.int (top:Nat)),.val (.int 3),.val (.int (w:Nat)),.val (.int (la:Nat)),.val (.int (t.1:Nat)),t.2]) (fun k t=>t.1=e/2^(top+1-k)%2^k∧k≤top+1-la) (vs:=rangeL (top:Int) ((la:Int)-1) (-1)) (0,.un) (fun R hR=>?_) ?_ (fun Rq hq k v t hv hk N hN=>?_) (fun t hk=>?_)
  ·(simp! only [SS])
   exact ⟨⟨by exact F1 [_] [] 92538493816660872737722709581920 ht,by exact (Int.lt_or_gt_of_ne (hz')).elim (fun k1=>nac (fun k4 k5=>F3 [_,_,_] [] 1667025305080563420334159495751760124228240806688 ht h1 k5) fun k4 k5=>F1 [_,_] [] 5922463604266295861366928385905440 k5) fun k1=>nac (fun k8 k9=>F3 [_,_,_] [] 1667025305080563420334159495751760124228240806688 ht h1 k9) fun k8 k9=>F1 [_,_] [] 5922463604266295861366928385905440 k9,by exact F0 [] [] 21040817459074986051,by exact F0 [] [] 425743302⟩,hR⟩
  ·exact ⟨by simp [Nat.mod_one],Nat.zero_le _⟩
  ·obtain ⟨rfl,hlt⟩:=rangeD_get hv
   revert t;refine pr2 fun vv sl hk=>?_
   dsimp only at hk
   obtain ⟨hk1,hk2⟩:=hk
   have hv8:vv<2^64:=by
    have a1:vv<2^k:=by rw [hk1];exact Nat.mod_lt _ (Nat.pow_pos (by exact F0 [] [] 73986))
    have a2:2^k≤2^3:=Nat.pow_le_pow_right (by exact F0 [] [] 73986) (by exact F2 [_,_,_] [] 354054934293135285475599648019735328 h2 hlt)
    exact F2 [_,_] [] 99362451140914031331318094891099315245152 a1 a2
   have v64:(vv:Int).natAbs<2^64:=by rw [Int.natAbs_natCast];exact hv8
   have t64:(2:Int).natAbs<2^64:=by decide
   have ek:(top:Int)-(k:Int)=((top-k:Nat):Int):=by exact iAs (F1 [_,_,_] [] 100093441995124349479008 sb1) (F1 [_,_,_] [] 100217146869689002526816 (nSc (F1 [_,_,_] [] 82754800070213607383840 hlt)))
   (simp! only [v64,t64,ek])
   k_extra "mD";refine use1 (S:=bitS) rfl (e,top-k,w) rfl ⟨hw,by show w≤16;exact F1 [_] [] 310752875701604448 hw2⟩ fun r hr=>?_
   have hr:r=.int ((e/2^(top-k)%2:Nat)):=hr
   subst hr
   (simp! only [SS])
   refine ⟨(2*vv+e/2^(top-k)%2,_),rfl,?_,by exact F2 [_,_,_,_] [] 1490231889561702302009509188913508679904 hlt sb1⟩
   show 2*vv+e/2^(top-k)%2=e/2^(top+1-(k+1))%2^(k+1)
   rw [show top+1-(k+1)=top-k by exact nAs (F2 [_,_,_,_] [] 364598432819549544218990501104203872 ek (nSc (F1 [_,_,_] [] 1356850323174022539722171638560 hlt))) (F2 [_,_,_,_] [] 363964686747598017532964601665454304 ek sb1),Nat.pow_succ,Nat.mul_comm (2^k) 2,Nat.mod_mul,hk1,show top+1-k=(top-k)+1 by exact nAs (F2 [_,_,_,_] [] 355690359665285497045799272649885792 ek (nSc (F1 [_,_,_] [] 331262316243718432443884320 hlt))) (F2 [_,_,_,_] [] 363826144950713204332585470811996384 ek sb1),Nat.pow_succ,Nat.div_div_eq_div_mul]
   exact nAs (F0 [_,_] [] 19746455089125300228) (F0 [_,_] [] 19752829820240007456)
  ·rw [rangeD_len] at hk
   revert t;refine pr2 fun vv sl hk=>?_
   have ek:((top:Int)-((la:Int)-1)).toNat=top+1-la:=by exact nAs (hk.2) (F2 [_,_,_,_] [] 364598274363231968155051790055278688 (iSt _) (nSc (F1 [_,_] [] 75320329836640 h1)))
   rw [ek] at hk
   have hk1:vv=e/2^(top+1-(top+1-la))%2^(top+1-la):=hk.1
   rw [show top+1-(top+1-la)=la by exact nAs (F2 [_,_,_,_] [] 1390830812471525654412590090336 sb1 (nSc sb0)) (F2 [_,_,_,_] [] 1390850155065584402604084463712 sb1 (nSc (F1 [_,_] [] 75320329836640 h1)))] at hk1
   (simp! only [SS])
   refine ⟨la,h1,h2,by exact nAs (F1 [_] [] 18312405280 ml) (F1 [_] [] 18791344130 (nPo hz)),?_⟩
   have e3:(top:Int)-(la:Int)+1=((top+1-la:Nat):Int):=by exact iAs (F1 [_,_,_] [] 1679288964494313557077094858976 sb1) (F1 [_,_,_] [] 1680004980547131768162530920544 (nSc (F1 [_,_] [] 75320329836640 h1)))
   rw [hk1,e3]
end
section
noncomputable def windowsS:Spec:={ X:=Nat×Nat×Nat×Nat,enc:=fun x=>[mfv x.2.2.1 x.2.2.2 x.1,nl (dg (2^x.2.2.2) x.2.1),.int 3,.int (x.2.2.2:Nat),mfv x.2.2.1 x.2.2.2 1,tclo x.2.2.1 x.2.2.2],pre:=fun x=>MOk x.2.2.1 x.2.2.2∧x.2.1<2^32,post:=fun x r=>r=mfv x.2.2.1 x.2.2.2 (x.1^x.2.1) }
noncomputable def sofar (m w b x:Nat):V:=if x=0 then .none else mfv m w (b^x)
noncomputable abbrev Γwin:Gam:=⟨[(259,oddS),(154,bitsS),(161,bitS),(266,windowS)],[],some montMulS⟩
theorem w_by_windows (b e m w:Nat)(h:MOk m w)(he:e<2^32) :
  W Γwin c_by_windows [.val (mfv m w b),.val (nl (dg (2^w) e)),.val (.int 3),.val (.int (w:Nat)),.val (mfv m w 1),.val (tclo m w),.un,.un,.un,.un,.un,.un] fun f _=>retV f (·=mfv m w (b^e)):=by
 have hB:=h.B
 have hw1:=h.w1
 have hw2:=h.w2
 (try dsimp only [c_by_windows];simp! only [SS])
 refine eqNil_if ?_
 by_cases h0:e=0
 ·subst h0
  (simp! only [Nat.pow_zero,dg_zero])
 ·have hd:¬dg (2^w) e=[]:=fun z=>h0 ((dg_nil hB).mp z)
  (simp! only [hd])
  k_extra "mD";refine use1 (S:=oddS) rfl (b,m,w) rfl h fun r hr=>?_
  have hr:r=.lst (oddsOf m w b 4):=hr
  subst hr
  k_extra "mD";refine use1 (S:=bitsS) rfl (e,w) rfl ⟨by show 1≤w;exact F1 [_] [] 76969328783425 hw1,by show w≤16;exact F1 [_] [] 310752875701604448 hw2,by show e<2^64;exact F1 [_] [] 406988599873183872333078915512993678916345952 he⟩ fun r hr=>?_
  have hr:r=.int ((bitlen e:Nat)):=hr
  subst hr
  have bl:bitlen e=e.log2+1:=by unfold bitlen;rw [if_neg h0]
  have lg1:=Nat.log2_self_le h0
  have lg2:=Nat.lt_log2_self (n:=e)
  have lg3:e.log2<32:=(Nat.log2_lt h0).mpr he
  rw [bl]
  have top0:e/2^(e.log2+1)=0:=Nat.div_eq_of_lt lg2
  have pos:∀ n,n≤e.log2→e/2^n≠0:=fun n hn z=>by
   have:2^n≤2^e.log2:=Nat.pow_le_pow_right (by exact F0 [] [] 73986) hn
   have:=(Nat.div_eq_zero_iff).mp z
   have hp:0<2^n:=Nat.pow_pos (by exact F0 [] [] 73986)
   lia
  (simp! only [SS])
  k_extra "mD";refine W_while (fun t:Nat×Slot×Slot×Slot=>[.val (mfv m w b),.val (.lst (iv (dg (2^w) e))),.val (.int 3),.val (.int (w:Nat)),.val (mfv m w 1),.val (tclo m w),.val (.lst (oddsOf m w b 4)),.val (sofar m w b (e/2^t.1)),.val (.int ((t.1:Int)-1)),t.2.1,t.2.2.1,t.2.2.2])
   (fun t=>t.1≤e.log2+1) (fun t=>t.1) (e.log2+1,.un,.un,.un) (by simp only [top0,sofar,if_true];rfl) (Nat.le_refl _) ?_
  refine fun Rq hq=>pr4 fun n s1 s2 s3 hn N hN=>?_
  dsimp only at hn
  (simp! only [SS])
  by_cases hz:n=0
  ·subst hz
   have c0:¬(0:Int)≤((0:Nat):Int)-1:=by decide
   (simp! only [c0,Nat.pow_zero,Nat.div_one])
   unfold sofar;rw [if_neg h0];rfl
  ·obtain ⟨p,rfl⟩:∃ p,n=p+1:=⟨n-1,by exact nAs (sb1) (F1 [_,_] [] 315568874110353632 (nSc (F1 [_] [] 18791344130 (nPo hz))))⟩
   have en:((p+1:Nat):Int)-1=(p:Int):=by exact iAs (F0 [_] [] 5965965228540128) (F0 [_] [] 5972972498977568)
   have hp2:e/2^p=2*(e/2^(p+1))+e/2^p%2:=by rw [Nat.pow_succ,← Nat.div_div_eq_div_mul];exact nAs (F1 [_,_,_] [] 5178159589473999107954692 (Nat.div_add_mod _ 2)) (F1 [_,_,_] [] 5299123707155473007679492 (Nat.div_add_mod _ 2))
   (simp! only [en])
   k_extra "mD";refine use1 (S:=bitS) rfl (e,p,w) rfl ⟨by show 1≤w;exact F1 [_] [] 76969328783425 hw1,by show w≤16;exact F1 [_] [] 310752875701604448 hw2⟩ fun r hr=>?_
   have hr:r=.int ((e/2^p%2:Nat)):=hr
   subst hr
   by_cases hb:e/2^p%2=0
   ·have hpl:p+1≤e.log2:=by
     rcases Nat.lt_or_ge e.log2 (p+1) with z | z
     ·have:p=e.log2:=by exact nAs (F1 [_,_] [] 315675363261055200 hn) (F1 [_,_] [] 77069197260896 z)
      have z1:e/2^(p+1)=0:=by rw [this];exact top0
      have:=pos p (by exact F1 [_,_] [] 315675363261055200 hn)
      lia
     ·exact z
    have hso:sofar m w b (e/2^(p+1))=mfv m w (b^(e/2^(p+1))):=by unfold sofar;rw [if_neg (pos _ hpl)]
    (simp! only [hso,hb,Int.natCast_zero])
    k_extra "mD";refine useC (S:=montMulS) rfl (b^(e/2^(p+1)),b^(e/2^(p+1)),m,w) rfl rfl h fun r hr=>?_
    have hr:r=mfv m w (b^(e/2^(p+1))*b^(e/2^(p+1))):=hr
    subst hr
    (simp! only [SS])
    refine ⟨(p,s1,s2,s3),?_,by show p<p+1;exact F0 [_] [] 304101408,by show p≤_;exact F1 [_,_] [] 308512071010779360 hpl⟩
    have:sofar m w b (e/2^p)=mfv m w (b^(e/2^(p+1))*b^(e/2^(p+1))):=by
     unfold sofar
     rw [if_neg (pos p (by exact F1 [_,_] [] 77069187055840 hpl)),← Nat.pow_add]
     congr 5
     exact nAs (F2 [_,_,_] [] 331408782183096402372276384 hp2 hb) (F1 [_,_,_] [] 1291425635541063176480 hp2)
    rw [this];rfl
   ·have hb1:e/2^p%2=1:=by exact nAs (F1 [_] [] 18312405280 ml) (F1 [_] [] 18791344130 (nPo hb))
    have hb':¬(((e/2^p%2:Nat):Int)=0):=F1 [_] [] 111537289248992 hb1
    (simp! only [hb'])
    k_extra "mD";refine use1 (S:=windowS) rfl (e,p,w) rfl ⟨by show 1≤w;exact F1 [_] [] 76969328783425 hw1,hw2,by show p<64;exact F2 [_,_] [] 91350110519285268772616113783008 lg3 hn,hb1⟩ fun r hr=>?_
    refine x1a4 hr fun la w1 w2 w3 zq4=>?_;clear hr;subst zq4
    dsimp only at w1 w2 w3
    generalize hmany:p+1-la=mn at *
    have hval:e/2^la=e/2^(p+1)*2^mn+e/2^la%2^mn:=by
     have:=Nat.div_add_mod (e/2^la) (2^mn)
     rw [Nat.div_div_eq_div_mul,← Nat.pow_add,show la+mn=p+1 by exact nAs (F2 [_,_,_,_] [] 1356850627765477732412518074464 hmany (nSc (F1 [_,_] [] 75320329836640 w1))) (F2 [_,_,_,_] [] 1357469595422766249473156088032 hmany sb1),Nat.mul_comm] at this
     exact this.symm
    have hmn:1≤mn∧mn≤3:=by exact ⟨F3 [_,_,_,_] [] 21722968502165420867225682144 w1 hmany sb1,F3 [_,_,_,_] [] 354054935531075399670846825200912480 w2 hmany (nSc (F1 [_,_] [] 75320329836640 w1))⟩
    have hvo:e/2^la%2^mn%2=1:=by
     obtain ⟨q,hq⟩:∃ q,mn=q+1:=⟨mn-1,by exact nAs (sb1) (F1 [_,_] [] 315568874110353632 (nSc hmn.1))⟩
     rw [hq,Nat.mod_mod_of_dvd _ ⟨2^q,by rw [Nat.pow_succ];exact nAs (F0 [_] [] 1178432737568) (F0 [_] [] 1177970317316)⟩];exact w3
    have hv8:e/2^la%2^mn<8:=by
     have a1:e/2^la%2^mn<2^mn:=Nat.mod_lt _ (Nat.pow_pos (by exact F0 [] [] 73986))
     have a2:2^mn≤2^3:=Nat.pow_le_pow_right (by exact F0 [] [] 73986) hmn.2
     exact F2 [_,_] [] 85594072807989248528480 a1 a2
    generalize hv:e/2^la%2^mn=v at *
    have fd:(v:Int).fdiv 2=((v/2:Nat):Int):=fdiv_nat v 2
    have two0:(2:Int)≠0:=by decide
    have two64:(2:Int).natAbs<2^64:=by decide
    have tg:pyIdx (oddsOf m w b 4) ((v/2:Nat):Int)=some (mfv m w (b^v)):=by
     unfold pyIdx
     rw [if_pos (Int.natCast_nonneg _),Int.toNat_natCast,odds_get _ _ _ _ _ (by exact F3 [_,_,_] [] 205076259988738750539804447119497271300 hvo hv8 (Nat.div_add_mod _ 2)),show 2*(v/2)+1=v by exact nAs (F2 [_,_,_] [] 1389124418144926604096092542980 hvo (Nat.div_add_mod _ 2)) (F2 [_,_,_] [] 1356843183029630369113286416388 hvo (Nat.div_add_mod _ 2))]
    have fin:∀ (r:V) (sl:Slot),r=mfv m w (b^(e/2^la))→∃ y:Nat×Slot×Slot×Slot,([.val (mfv m w b),.val (.lst (iv (dg (2^w) e))),.val (.int 3),.val (.int (w:Nat)),.val (mfv m w 1),.val (tclo m w),.val (.lst (oddsOf m w b 4)),.val r,.val (.int ((p:Int)-(mn:Int))),.val (.int (v:Nat)),.val (.int (mn:Nat)),sl]:Sg) =
      [.val (mfv m w b),.val (.lst (iv (dg (2^w) e))),.val (.int 3),.val (.int (w:Nat)),.val (mfv m w 1),.val (tclo m w),.val (.lst (oddsOf m w b 4)),.val (sofar m w b (e/2^y.1)),.val (.int ((y.1:Int)-1)),y.2.1,y.2.2.1,y.2.2.2]∧y.1<p+1∧y.1≤e.log2+1:=fun r sl er=>by
     refine ⟨(la,.val (.int (v:Nat)),.val (.int (mn:Nat)),sl),?_,by show la<p+1;exact F1 [_,_] [] 79718376347744 w1,by show la≤_;exact F2 [_,_,_] [] 331262387633051288448866400 hn w1⟩
     have e1:(p:Int)-(mn:Int)=(la:Int)-1:=by exact iAs (F2 [_,_,_,_] [] 440727612585052845921038720435519712 hmany sb1) (F2 [_,_,_,_] [] 440759831599839064957490317813647456 hmany (nSc (F1 [_,_] [] 75320329836640 w1)))
     have e2:sofar m w b (e/2^la)=mfv m w (b^(e/2^la)):=by
      unfold sofar
      rw [if_neg fun z=>by rw [z] at w3;exact F2 [_,_] [] 1949951543128793323524 w3 (Nat.div_add_mod _ 2)]
     rw [e1,er,e2]
    by_cases hf:e/2^(p+1)=0
    ·have hso:sofar m w b (e/2^(p+1))=.none:=by unfold sofar;rw [if_pos hf]
     (simp! only [hso,two0,two64,ne_eq,not_false_eq_true,fd,tg])
     refine ⟨_,rfl,?_⟩
     (simp! only [SS])
     refine fin _ _ ?_
     rw [hval,hf,Nat.zero_mul,Nat.zero_add];rfl
    ·have hso:sofar m w b (e/2^(p+1))=mfv m w (b^(e/2^(p+1))):=by unfold sofar;rw [if_neg hf]
     (simp! only [hso])
     k_extra "mD";refine W_for1 (fun t:Nat×Slot=>[.val (mfv m w b),.val (.lst (iv (dg (2^w) e))),.val (.int 3),.val (.int (w:Nat)),.val (mfv m w 1),.val (tclo m w),.val (.lst (oddsOf m w b 4)),.val (mfv m w (b^(e/2^(p+1)*2^t.1))),.val (.int (p:Int)),.val (.int (v:Nat)),.val (.int (mn:Nat)),t.2]) (fun k t=>t.1=k) (vs:=rangeL 0 (mn:Int) 1) (0,s3) (fun R hR=>?_) rfl (fun Rq2 hq2 k u t hv' hk N2 hN2=>?_) (fun t hk=>?_)
     ·(simp! only [SS])
      refine ⟨by exact F1 [_] [] 1445913965885326136526901088352 hmn.2,?_⟩
      have hR:=hR
      dsimp only at hR
      rw [Nat.pow_zero,Nat.mul_one] at hR
      exact hR
     ·revert t;refine pr2 fun j sl hk=>?_
      dsimp only at hk
      subst hk
      (simp! only [SS])
      k_extra "mD";refine useC (S:=montMulS) rfl (b^(e/2^(p+1)*2^j),b^(e/2^(p+1)*2^j),m,w) rfl rfl h fun r hr=>?_
      have hr:r=mfv m w (b^(e/2^(p+1)*2^j)*b^(e/2^(p+1)*2^j)):=hr
      subst hr
      (simp! only [SS])
      refine ⟨(j+1,.val u),?_,rfl⟩
      have dbl:∀ E:Nat,b^(E*2^(j+1))=b^(E*2^j)*b^(E*2^j):=fun E=>by rw [← Nat.pow_add,Nat.pow_succ,← Nat.mul_assoc];congr 1;exact nAs (F0 [_] [] 1177366335776) (F0 [_] [] 1177970313248)
      have:=dbl (e/2^(p+1))
      show _=([_,_,_,_,_,_,_,.val (mfv m w (b^(e/2^(p+1)*2^(j+1)))),_,_,_,_]:Sg)
      rw [this];rfl
     ·rw [rangeL_len] at hk
      revert t;refine pr2 fun j sl hk=>?_
      have hk:j=mn:=by have:j=((mn:Int)-0).toNat:=hk;exact nAs (F2 [_,_,_] [] 82754751189570446037792 this (iTn (F0 [_] [] 22784821253))) (F2 [_,_,_] [] 82826250618590440477472 this (iSt _))
      subst hk
      (simp! only [two0,two64,ne_eq,not_false_eq_true,fd,tg])
      refine ⟨_,rfl,?_⟩
      k_extra "mD";refine useC (S:=montMulS) rfl (b^(e/2^(p+1)*2^j),b^v,m,w) rfl rfl h fun r hr=>?_
      have hr:r=mfv m w (b^(e/2^(p+1)*2^j)*b^v):=hr
      (simp! only [SS])
      refine fin _ _ ?_
      rw [hr,← Nat.pow_add,← hval]
noncomputable def powerS:Spec:={ X:=Nat×Nat×Nat×Nat,enc:=fun x=>[nl (dg (2^x.2.2.2) x.1),nl (dg (2^x.2.2.2) x.2.1),nl (dg (2^x.2.2.2) x.2.2.1),.int (x.2.2.2:Nat),.int 3,.ref 481,.ref 523],pre:=fun x=>MOk x.2.2.1 x.2.2.2∧x.1<2^32∧x.2.1<2^32,post:=fun x r=>r=nl (dg (2^x.2.2.2) (x.1^x.2.1%x.2.2.1)) }
noncomputable abbrev Γpow:Gam:=⟨[(210,makeS),(523,divremS),(238,toMontS),(280,timesS),(273,windowsS),(245,fromMontS)],[],none⟩
theorem w_power_mont (a e m w:Nat)(h:MOk m w)(ha:a<2^32)(he:e<2^32) :
  W Γpow c_power_mont [.val (nl (dg (2^w) a)),.val (nl (dg (2^w) e)),.val (nl (dg (2^w) m)),.val (.int (w:Nat)),.val (.int 3),.val (.ref 481),.val (.ref 523),.un,.un,.un] fun f _=>retV f (·=nl (dg (2^w) (a^e%m))):=by
 (try dsimp only [c_power_mont];simp! only [SS])
 k_extra "mD";refine use1 (S:=makeS) rfl (m,w) rfl h fun r hr=>?_
 have hr:r=told m w:=hr
 subst hr
 (simp! only [SS])
 k_extra "mD";refine use1 (S:=divremS) rfl (a,m,w) rfl ⟨h.w1,h.w2,ha,h.mb,h.pos⟩ fun r hr=>?_
 have hr:r=.tup [nl (dg (2^w) (a/m)),nl (dg (2^w) (a%m))]:=hr
 subst hr
 refine ⟨by decide,_,rfl,?_⟩
 k_extra "mD";refine use1 (S:=toMontS) rfl (a%m,m,w) rfl ⟨h,Nat.mod_lt _ h.pos⟩ fun r hr=>?_
 have hr:r=mfv m w (a%m):=hr
 subst hr
 (simp! only [told])
 k_extra "mD";refine use1 (S:=timesS) rfl (told m w,.int (w:Nat),.ref 481) rfl trivial fun r hr=>?_
 have hr:r=tclo m w:=hr
 subst hr
 k_extra "mD";refine use1 (S:=windowsS) rfl (a%m,e,m,w) (by show _=[_,_,_,_,mfv m w 1,_];simp only [mfv,Nat.one_mul];rfl) ⟨h,he⟩ fun r hr=>?_
 have hr:r=mfv m w ((a%m)^e):=hr
 subst hr
 (simp! only [SS])
 k_extra "mD";refine use1 (S:=fromMontS) rfl ((a%m)^e,m,w) rfl h fun r hr=>?_
 have hr:r=nl (dg (2^w) ((a%m)^e%m)):=hr
 rw [hr,← Nat.pow_mod];rfl
end
section
theorem LowBit.lt {a t:Nat}(h:LowBit a t)(ha:a<2^64):t<64:=by
 rcases Nat.lt_or_ge t 64 with z | z
 ·exact z
 ·have:2^64≤2^t:=Nat.pow_le_pow_right (by exact F0 [] [] 73986) z
  have:=h.2
  rw [Nat.div_eq_of_lt (by lia)] at this
  simp at this
theorem LowBit.uniq {a s t:Nat}(h:LowBit a s)(k:LowBit a t):s=t:=by
 have key:∀ {s t:Nat},LowBit a s→LowBit a t→¬s<t:=fun {s t} h k lt=>by
  obtain ⟨j,hj⟩:∃ j,t=s+(j+1):=⟨t-s-1,by exact nAs (F2 [_,_,_,_] [] 1356938100084838259614701201504 sb1 sb1) (F2 [_,_,_,_] [] 1389125901222787915009202096224 (nSc (F2 [_,_,_] [] 20195066554714564704 lt sb1)) (nSc (F1 [_,_] [] 18815723616 lt)))⟩
  have e:=Nat.div_add_mod a (2^t)
  rw [k.1,Nat.add_zero,hj,Nat.pow_add] at e
  have h2:=h.2
  rw [← e,Nat.mul_assoc,Nat.mul_div_cancel_left _ (Nat.pow_pos (by exact F0 [] [] 73986)),Nat.pow_succ,Nat.mul_comm (2^j) 2,Nat.mul_assoc,Nat.mul_mod_right] at h2
  exact F1 [] [] 443367618 h2
 have h1:=key h k
 have h2:=key k h
 exact nAs (F1 [_,_] [] 1203151120480 h2) (F1 [_,_] [] 1203151120480 h1)
noncomputable def checkS:Spec:={ X:=Nat×Nat,enc:=fun x=>[nl (dg (2^x.2) x.1)],pre:=fun x=>1≤x.2∧x.1%2=1∧x.1≠1,post:=fun x r=>r=.none }
theorem w_check_odd (n w:Nat)(hw:1≤w)(ho:n%2=1)(h1:n≠1):W ⟨[(84,isEvenS)],[],none⟩ c_check_odd [.val (nl (dg (2^w) n))] fun f _=>retV f (·=.none):=by
 have hB:=tLP hw
 (try dsimp only [c_check_odd];simp! only [SS])
 k_extra "mD";refine use1 (S:=isEvenS) rfl (n,w) rfl hw fun r hr=>?_
 have hr:r=.bool (decide (n%2=0)):=hr
 subst hr
 have hz:¬n%2=0:=F1 [_] [] 1738430038240 ho
 (simp! only [hz])
 have e1:[V.int 1]=iv (dg (2^w) 1):=by rw [dg_limb hB (by exact F0 [] [] 73922) (by exact F1 [_] [] 19865081860 hB)];rfl
 rw [e1]
 refine eqL_if ?_
 have hd:¬dg (2^w) n=dg (2^w) 1:=fun z=>h1 (dg_inj hB z)
 (simp! only [hd])
noncomputable def restS:Spec:={ X:=Nat×Nat×Nat,enc:=fun x=>[nl (dg (2^x.2.2) x.1),.int (x.2.1:Nat),.int (x.2.2:Nat)],pre:=fun x=>1≤x.2.2∧x.2.2≤16∧x.1<2^64∧0<x.2.1∧x.2.1<2^16,post:=fun x r=>r=.int ((x.1%x.2.1:Nat)) }
theorem w_rest_small (Γ:Gam)(a d w:Nat)(hw:1≤w)(hw2:w≤16)(ha:a<2^64)(hd:0<d)(hd2:d<2^16) :
  W Γ c_rest_small [.val (nl (dg (2^w) a)),.val (.int (d:Nat)),.val (.int (w:Nat)),.un,.un] fun f _=>retV f (·=.int ((a%d:Nat))):=by
 have hB:=tLP hw
 have la:=len64 hB ha
 have bw:(w:Int)≤1000:=F1 [_] [] 100073154822517372751968 hw2
 have d0:(d:Int)≠0:=F1 [_] [] 111537289242626 hd
 (try dsimp only [c_rest_small];simp! only [SS])
 generalize hL:(dg (2^w) a).length=L at *
 k_extra "mD";refine W_for1 (fun t:Nat×Slot=>[.val (.lst (iv (dg (2^w) a))),.val (.int (d:Nat)),.val (.int (w:Nat)),.val (.int (t.1:Nat)),t.2])
  (fun k t=>t.1=a/(2^w)^(L-k)%d) (vs:=rangeL ((L:Int)-1) (-1) (-1)) (0,.un) (fun R h=>?_) ?_ (fun Rq hq k v t hv hk N hN=>?_) (fun t hk=>?_)
 ·(simp! only [hL])
  exact ⟨⟨by exact (Int.lt_or_gt_of_ne d0).elim (fun k1=>nac (fun k2 k3=>F2 [_,_] [] 6359196873018506699878393385739990844183328 la k3) fun k2 k3=>F1 [_,_] [] 5922463604266295861366928385905440 k3) fun k1=>nac (fun k4 k5=>F2 [_,_] [] 6359196873018506699878393385739990844183328 la k5) fun k4 k5=>F1 [_,_] [] 5922463604266295861366928385905440 k5,by exact F0 [] [] 21040817459074986051,by exact F0 [] [] 21040817459074986051,by exact F0 [] [] 425743302⟩,h⟩
 ·have h1:=dg_lt hB a
  rw [hL] at h1
  show 0=_
  rw [Nat.sub_zero,Nat.div_eq_of_lt h1];simp
 ·obtain ⟨rfl,hlt⟩:=rangeD_get hv
  revert t;refine pr2 fun rest sl hk=>?_
  dsimp only at hk
  have ea:=dg_get hB a (L-1-k) (by exact F3 [_,_,_,_] [] 5607981435194163151012064 hL sb0 (nSc (F1 [_,_] [] 82645272527208931525574 hlt)))
  have da:=div_limb (B:=2^w) (by exact F1 [_] [] 19864819716 hB) a (L-1-k)
  have es:L-1-k+1=L-k:=by exact nAs (F3 [_,_,_,_,_] [] 364799699237141474871240883809059040 sb1 (nSc (F2 [_,_,_] [] 88857289972148305867771471738976 hlt sb1)) (nSc (F1 [_,_] [] 82645272527208931525574 hlt))) (F3 [_,_,_,_,_] [] 355690438776174411615733701551884384 sb1 sb1 (nSc (F1 [_,_] [] 82679860172347136934854 hlt)))
  rw [es] at da
  have hx0:a/(2^w)^(L-1-k)%2^w<2^w:=Nat.mod_lt _ (by exact F1 [_] [] 19864819716 hB)
  have hr:rest<d:=by rw [hk];exact Nat.mod_lt _ hd
  have r64:(rest:Int).natAbs<2^64:=F2 [_,_] [] 26047270391883767829317048985915723210706724960 hd2 hr
  (simp! only [bw,r64])
  refine ⟨_,iv_get' _ (k:=L-1-k) (by exact iAs (F2 [_,_,_,_] [] 440225754556330407904181160075470944 es sb1) (F2 [_,_,_,_] [] 440759675077323113450812408139909216 es (nSc (F1 [_,_] [] 82679860172347136934854 hlt)))) (by exact F3 [_,_,_,_] [] 5607981435202931058612320 hL es sb0) ea,?_⟩
  generalize hxk:a/(2^w)^(L-1-k)%2^w=xk at *
  (simp! only [SS])
  rw [or_low rest xk w hx0]
  (simp! only [d0,ne_eq,not_false_eq_true])
  refine ⟨((rest*2^w+xk)%d,_),rfl,?_⟩
  show (rest*2^w+xk)%d=_
  rw [show L-(k+1)=L-1-k by exact nAs (F3 [_,_,_,_,_] [] 364922741635872983217933950954518624 es sb1 (nSc (F1 [_,_] [] 338537268231610138939753414 hlt))) (F3 [_,_,_,_,_] [] 364618422549835575581725863608617056 es sb1 (nSc (F1 [_,_] [] 82679860172347136934854 hlt))),da,hk,Nat.mul_comm (2^w),Nat.add_mod,Nat.mod_mul_mod,← Nat.add_mod]
 ·rw [rangeD_len] at hk
  have e0:L-((L:Int)-1 - -1).toNat=0:=by exact nAs ((Int.lt_or_gt_of_ne d0).elim (fun k1=>sbc (fun k2 k3=>F2 [_,_,_] [] 86401164326993033908637677413152 k3 (iSt _)) fun k2 k3=>F1 [_] [] 18295632032 k3) fun k1=>sbc (fun k4 k5=>F2 [_,_,_] [] 86401164326993033908637677413152 k5 (iSt _)) fun k4 k5=>F1 [_] [] 18295632032 k5) (F0 [_] [] 71682)
  rw [e0,Nat.pow_zero,Nat.div_one] at hk
  (simp! only [SS])
  rw [hk]
noncomputable def oddPartS:Spec:={ X:=Nat×Nat,enc:=fun x=>[nl (dg (2^x.2) x.1),.int (x.2:Nat)],pre:=fun x=>1≤x.2∧x.2≤8∧x.1<2^64∧0<x.1,post:=fun x r=>∃ t:Nat,LowBit x.1 t∧r=.tup [.int (t:Nat),nl (dg (2^x.2) (x.1/2^t))] }
theorem w_odd_part (n w:Nat)(hw:1≤w)(hw2:w≤8)(hn:n<2^64)(h0:0<n):W ⟨[(168,trailingS),(147,shiftRightS)],[],none⟩ c_odd_part [.val (nl (dg (2^w) n)),.val (.int (w:Nat)),.un] fun f _ =>
  retV f fun r=>∃ t:Nat,LowBit n t∧r=.tup [.int (t:Nat),nl (dg (2^w) (n/2^t))]:=by
 (try dsimp only [c_odd_part];simp! only [SS])
 (simp! only [SS])
 k_extra "mD";refine use1 (S:=trailingS) rfl (n,w) rfl ⟨hw,hw2,hn,h0⟩ fun r hr=>?_
 refine x1a2 hr fun t zq1 ht=>?_;clear hr;subst zq1
 have:=ht.lt hn
 (simp! only [SS])
 (simp! only [SS])
 k_extra "mD";refine use1 (S:=shiftRightS) rfl (n,t,w) rfl ⟨hw,by show w≤16;exact F1 [_] [] 310752875701604448 hw2,hn,by show t≤1000;exact F1 [_] [] 1272393565088098820192 this⟩ fun r hr=>?_
 exact ⟨t,ht,by rw [hr];rfl⟩
noncomputable def squareS:Spec:={ X:=Nat×Nat×Nat,enc:=fun x=>[nl (dg (2^x.2.2) x.1),nl (dg (2^x.2.2) x.2.1),.int (x.2.2:Nat),.ref 481,.ref 523],pre:=fun x=>3≤x.2.2∧x.2.2≤8∧x.1<x.2.1∧x.2.1<2^16,post:=fun x r=>r=nl (dg (2^x.2.2) (x.1*x.1%x.2.1)) }
theorem w_square_rest (x n w:Nat)(hw:3≤w)(hw2:w≤8)(hx:x<n)(hn:n<2^16):W ⟨[(481,mulSp),(523,divremS)],[],none⟩ c_square_rest [.val (nl (dg (2^w) x)),.val (nl (dg (2^w) n)),.val (.int (w:Nat)),.val (.ref 481),.val (.ref 523)] fun f _ =>
  retV f (·=nl (dg (2^w) (x*x%n))):=by
 (try dsimp only [c_square_rest];simp! only [SS])
 (simp! only [SS])
 k_extra "mD";refine use1 (S:=mulSp) rfl (x,x,w) rfl ⟨hw,hw2,by show x<2^16;exact F2 [_,_] [] 1445913980164590408400067637344 hx hn,by show x<2^16;exact F2 [_,_] [] 1445913980164590408400067637344 hx hn⟩ fun r hr=>?_
 have hr:r=nl (dg (2^w) (x*x)):=hr
 subst hr
 have hxx:x*x<2^32:=by
  have:x*x≤(2^16-1)*(2^16-1):=Nat.mul_le_mul (by exact F3 [_,_,_] [] 1489447519032061527442165963625053814977 hx hn sb1) (by exact F3 [_,_,_] [] 1489447519032061527442165963625053814977 hx hn sb1)
  lia
 k_extra "mD";refine use1 (S:=divremS) rfl (x*x,n,w) rfl ⟨hw,hw2,hxx,hn,by show 0<n;exact F1 [_,_] [] 19881601120 hx⟩ fun r hr=>?_
 have hr:r=.tup [nl (dg (2^w) (x*x/n)),nl (dg (2^w) (x*x%n))]:=hr
 subst hr
 exact ⟨by decide,_,rfl,rfl⟩
noncomputable def rowsOf (n b d w s:Nat):List V:=(List.range s).map fun i=>nl (dg (2^w) (b^(d*2^i)%n))
theorem rows_succ (n b d w s:Nat):rowsOf n b d w (s+1)=rowsOf n b d w s++[nl (dg (2^w) (b^(d*2^s)%n))]:=by unfold rowsOf;rw [List.range_succ,List.map_append];rfl
theorem rows_len (n b d w s:Nat):(rowsOf n b d w s).length=s:=by unfold rowsOf;rw [List.length_map,List.length_range]
theorem rows_get (n b d w s i:Nat)(h:i<s):(rowsOf n b d w s)[i]?=some (nl (dg (2^w) (b^(d*2^i)%n))):=by unfold rowsOf;rw [List.getElem?_map,List.getElem?_range h];rfl
noncomputable def rowsS:Spec:={ X:=Nat×Nat×Nat,enc:=fun x=>[nl (dg (2^x.2.2) x.1),nl (dg (2^x.2.2) x.2.1),.int (x.2.2:Nat),.ref 481,.ref 523],pre:=fun x=>MOk x.1 x.2.2∧3≤x.1∧x.2.1<2^32,post:=fun x r=>∃ s:Nat,LowBit (x.1-1) s∧0<s∧r=.lst (rowsOf x.1 x.2.1 ((x.1-1)/2^s) x.2.2 s) }
noncomputable abbrev Γrows:Gam:=⟨[(119,subLimbS),(315,oddPartS),(287,powerS),(329,squareS)],[],none⟩
theorem w_strong_rows (n b w:Nat)(h:MOk n w)(h3:3≤n)(hb:b<2^32):W Γrows c_strong_rows [.val (nl (dg (2^w) n)),.val (nl (dg (2^w) b)),.val (.int (w:Nat)),.val (.ref 481),.val (.ref 523),.un,.un,.un,.un] fun f _ =>
  retV f fun r=>∃ s:Nat,LowBit (n-1) s∧0<s∧r=.lst (rowsOf n b ((n-1)/2^s) w s):=by
 have hmb:=h.mb
 have hmo:=h.mo
 have hw1:=h.w1
 have hw2:=h.w2
 have hB:=h.B
 (try dsimp only [c_strong_rows];simp! only [SS])
 (simp! only [SS])
 k_extra "mD";refine use1 (S:=subLimbS) rfl (n,1,w) rfl ⟨by show 1≤w;exact F1 [_] [] 76969328783425 hw1,by show w≤64;exact F1 [_] [] 19617688876285431904 hw2,by show n<2^64;exact F1 [_] [] 1552538299076781739551845228257642295392 hmb,by show 1≤n;exact F1 [_] [] 76969328783425 h3,by show 1<2^w;exact F1 [_] [] 19865081860 hB⟩ fun r hr=>?_
 have hr:r=nl (dg (2^w) (n-1)):=hr
 subst hr
 k_extra "mD";refine use1 (S:=oddPartS) rfl (n-1,w) rfl ⟨by show 1≤w;exact F1 [_] [] 76969328783425 hw1,hw2,by show n-1<2^64;exact F2 [_,_] [] 406988599873183872333078915516371381883574368 hmb sb0,by show 0<n-1;exact F2 [_,_] [] 87440188017630624364640 h3 sb1⟩ fun r hr=>?_
 refine x1a2 hr fun s hs zq2=>?_;clear hr;subst zq2
 have hs:LowBit (n-1) s:=hs
 have s64:=hs.lt (by exact F2 [_,_] [] 406988599873183872333078915516371381883574368 hmb sb0)
 have s0:0<s:=by
  rcases Nat.eq_zero_or_pos s with z | z
  ·subst z
   have:=hs.2
   rw [Nat.pow_zero,Nat.div_one] at this;lia
  ·exact z
 try dsimp only
 generalize hd:(n-1)/2^s=d at *
 have hd32:d<2^32:=by
  have:d≤n-1:=by rw [← hd];exact Nat.div_le_self _ _
  exact F3 [_,_,_] [] 98341604040158673286016743551325732149344 hmb this sb0
 (simp! only [SS])
 (simp! only [SS])
 (simp! only [SS])
 k_extra "mD";refine use1 (S:=powerS) rfl (b,d,n,w) rfl ⟨h,hb,hd32⟩ fun r hr=>?_
 have hr:r=nl (dg (2^w) (b^d%n)):=hr
 subst hr
 (simp! only [SS])
 (simp! only [SS])
 k_extra "mD";refine W_for1 (fun t:Nat×Slot=>[.val (nl (dg (2^w) n)),.val (nl (dg (2^w) b)),.val (.int (w:Nat)),.val (.ref 481),.val (.ref 523),.val (.int (s:Nat)),.val (nl (dg (2^w) d)),.own (rowsOf n b d w (t.1+1)),t.2]) (fun k t=>t.1=k) (vs:=rangeL 0 ((s:Int)-1) 1) (0,.un) (fun R hR=>?_) rfl (fun Rq hq k u t hv' hk N hN=>?_) (fun t hk=>?_)
 ·(simp! only [SS])
  refine ⟨by exact F2 [_,_] [] 6359196873018506699883115752222860489397024 s64 (Int.natAbs_of_nonneg (F1 [_] [] 5972972902098946 s0)),?_⟩
  have e:rowsOf n b d w (0+1)=[nl (dg (2^w) (b^d%n))]:=by unfold rowsOf;simp
  dsimp only at hR
  rw [e] at hR
  exact hR
 ·obtain ⟨rfl,hlt⟩:=rangeL_get hv'
  revert t;refine pr2 fun j sl hk=>?_
  dsimp only at hk
  subst hk
  (simp! only [SS])
  (simp! only [SS])
  have hlast:pyIdx (rowsOf n b d w (j+1)) (-1)=some (nl (dg (2^w) (b^(d*2^j)%n))):=by
   unfold pyIdx
   rw [if_neg (by decide),if_pos (by rw [rows_len];exact F0 [_] [] 93396466172128),rows_len]
   have e:((-1:Int)+((j+1:Nat):Int)).toNat=j:=by exact nAs (F1 [_,_] [] 82752511958331556651808 (iTn (F0 [_] [] 5968982398005637))) (F1 [_,_] [] 82752475740771376300998 (iSt _))
   rw [e,rows_get _ _ _ _ _ _ (by exact F0 [_] [] 304101408)]
  refine ⟨_,hlast,?_⟩
  k_extra "mD";refine use1 (S:=squareS) rfl (b^(d*2^j)%n,n,w) rfl ⟨hw1,hw2,Nat.mod_lt _ (by exact F1 [_] [] 81366301552705 h3),hmb⟩ fun r hr=>?_
  have hr:r=nl (dg (2^w) ((b^(d*2^j)%n)*(b^(d*2^j)%n)%n)):=hr
  rw [← Nat.mul_mod,← Nat.pow_add,show d*2^j+d*2^j=d*2^(j+1) by rw [Nat.pow_succ,← Nat.mul_assoc];exact nAs (F0 [_] [] 1177970313248) (F0 [_] [] 1177366335776)] at hr
  subst hr
  have hsz:(rowsOf n b d w (j+1)).length<sMx:=by rw [rows_len];have:sMx=1048576:=rfl;exact F3 [_,_,_] [] 108162617643172236512358012112728850655323938111584 s64 hlt this
  (simp! only [hsz,W_skip])
  refine ⟨(j+1,.val (.int (0+(j:Int)))),?_,rfl⟩
  rw [rows_succ n b d w (j+1)];rfl
 ·rw [rangeL_len] at hk
  revert t;refine pr2 fun j sl hk=>?_
  have hk:j+1=s:=by have:j=((s:Int)-1-0).toNat:=hk;exact nAs (F2 [_,_,_] [] 1387886595238112152390615569184 this (iTn (F1 [_] [] 24465022549151262722 s0))) (F2 [_,_,_] [] 1356850739995716850798502109984 this (iSt _))
  try dsimp only
  rw [hk]
  (simp! only [SS])
  (simp! only [SS])
  exact ⟨s,hs,s0,by rw [hd]⟩
def StrongP (n b:Nat):Prop:=b%n=0∨∃ s,LowBit (n-1) s∧(b^((n-1)/2^s)%n=1∨∃ i,i<s∧b^((n-1)/2^s*2^i)%n=n-1)
noncomputable def strongS:Spec:={ X:=Nat×Nat×Nat,enc:=fun x=>[nl (dg (2^x.2.2) x.1),nl (dg (2^x.2.2) x.2.1),.int (x.2.2:Nat),.ref 481,.ref 523],pre:=fun x=>MOk x.1 x.2.2∧3≤x.1∧x.2.1<2^32,post:=fun x r=>∃ t:Bool,r=.bool t∧(t=true↔StrongP x.1 x.2.1) }
theorem inRows {n b d w s x:Nat}(hB:2≤2^w){k:Bool→Prop}(h:∀ t:Bool,(t=true↔∃ i,i<s∧b^(d*2^i)%n=x)→k t) :
  ∃ (ns:List Int) (mss:List (List Int)),iv (dg (2^w) x)=ns.map V.int∧rowsOf n b d w s=mss.map zl∧k (decide (ns∈mss)):=by
 refine ⟨_,(List.range s).map fun i=>(dg (2^w) (b^(d*2^i)%n)).map fun (n:Nat)=>(n:Int),iv_ints _,?_,h _ ?_⟩
 ·unfold rowsOf
  rw [List.map_map]
  congr 1
  funext i
  show nl _=zl _
  rw [nl_eq,iv_ints];rfl
 ·rw [decide_eq_true_eq,List.mem_map]
  constructor
  ·rintro ⟨i,hi,e⟩
   exact ⟨i,List.mem_range.mp hi,dg_inj hB (ints_eq.mp e)⟩
  ·rintro ⟨i,hi,e⟩
   exact ⟨i,List.mem_range.mpr hi,by rw [e]⟩
noncomputable abbrev Γstrong:Gam:=⟨[(322,checkS),(523,divremS),(336,rowsS),(119,subLimbS)],[],none⟩
theorem w_strong (n b w:Nat)(h:MOk n w)(h3:3≤n)(hb:b<2^32):W Γstrong c_strong_probable [.val (nl (dg (2^w) n)),.val (nl (dg (2^w) b)),.val (.int (w:Nat)),.val (.ref 481),.val (.ref 523),.un,.un] fun f _ =>
  retV f fun r=>∃ t:Bool,r=.bool t∧(t=true↔StrongP n b):=by
 have hmb:=h.mb
 have hmo:=h.mo
 have hw1:=h.w1
 have hw2:=h.w2
 have hB:=h.B
 (try dsimp only [c_strong_probable];simp! only [SS])
 (simp! only [SS])
 k_extra "mD";refine use1 (S:=checkS) rfl (n,w) rfl ⟨by show 1≤w;exact F1 [_] [] 76969328783425 hw1,hmo,by show n≠1;exact F1 [_] [] 7120678113259585 h3⟩ fun r hr=>?_
 have hr:r=.none:=hr
 subst hr
 try dsimp only
 (simp! only [SS])
 (simp! only [SS])
 k_extra "mD";refine use1 (S:=divremS) rfl (b,n,w) rfl ⟨hw1,hw2,hb,hmb,by show 0<n;exact F1 [_] [] 81366301552705 h3⟩ fun r hr=>?_
 have hr:r=.tup [nl (dg (2^w) (b/n)),nl (dg (2^w) (b%n))]:=hr
 subst hr
 refine ⟨by decide,_,rfl,?_⟩
 (simp! only [SS])
 refine eqNil_if ?_
 by_cases hz:b%n=0
 ·(simp! only [hz,dg_zero,W_seq,W_ret])
  exact ⟨true,rfl,fun _=>.inl hz,fun _=>rfl⟩
 ·have hd:¬dg (2^w) (b%n)=[]:=fun z=>hz ((dg_nil hB).mp z)
  (simp! only [hd,W_skip])
  (simp! only [SS])
  (simp! only [SS])
  k_extra "mD";refine use1 (S:=rowsS) rfl (n,b,w) rfl ⟨h,h3,hb⟩ fun r hr=>?_
  refine x1a3 hr fun s hs s0 zq3=>?_;clear hr;subst zq3
  dsimp only at hs ⊢
  k_extra "mD";refine use1 (S:=subLimbS) rfl (n,1,w) rfl ⟨by show 1≤w;exact F1 [_] [] 76969328783425 hw1,by show w≤64;exact F1 [_] [] 19617688876285431904 hw2,by show n<2^64;exact F1 [_] [] 1552538299076781739551845228257642295392 hmb,by show 1≤n;exact F1 [_] [] 76969328783425 h3,by show 1<2^w;exact F1 [_] [] 19865081860 hB⟩ fun r hr=>?_
  have hr:r=nl (dg (2^w) (n-1)):=hr
  subst hr
  generalize hdd:(n-1)/2^s=d at *
  (simp! only [SS])
  (simp! only [SS])
  (simp! only [SS])
  have g0:pyIdx (rowsOf n b d w s) 0=some (nl (dg (2^w) (b^d%n))):=by
   unfold pyIdx
   rw [if_pos (by decide)]
   have:=rows_get n b d w s 0 s0
   rw [Nat.pow_zero,Nat.mul_one] at this
   exact this
  refine ⟨_,g0,?_⟩
  have e1:[V.int 1]=iv (dg (2^w) 1):=by rw [dg_limb hB (by exact F0 [] [] 73922) (by exact F1 [_] [] 19865081860 hB)];rfl
  (simp! only [SS])
  rw [e1]
  refine eqL_if ?_
  have spi:StrongP n b↔(b^d%n=1∨∃ i,i<s∧b^(d*2^i)%n=n-1):=by
   constructor
   ·rintro (z | ⟨s',hs',z⟩)
    ·exact absurd z hz
    ·have:=hs'.uniq hs
     subst this
     rw [hdd] at z;exact z
   ·intro z
    exact .inr ⟨s,hs,by rw [hdd];exact z⟩
  by_cases h1:b^d%n=1
  ·(simp! only [h1])
   exact ⟨true,rfl,fun _=>spi.mpr (.inl h1),fun _=>rfl⟩
  ·have hd1:¬dg (2^w) (b^d%n)=dg (2^w) 1:=fun z=>h1 (dg_inj hB z)
   (simp! only [hd1])
   refine inRows (n:=n) (b:=b) (d:=d) (s:=s) (x:=n-1) hB (k:=fun q=>∃ t:Bool,V.bool q=V.bool t∧(t=true↔StrongP n b)) fun t ht=>?_
   exact ⟨t,rfl,by rw [ht,spi];exact ⟨.inr,fun z=>z.resolve_left h1⟩⟩
end
section
def LW (n most:Nat)(r:V):Prop:=(r=.none∧∀ b,2≤b→b≤most→StrongP n b)∨∃ b,r=.int (b:Nat)∧2≤b∧b≤most∧¬StrongP n b∧∀ c,2≤c→c<b→StrongP n c
noncomputable def witnessS:Spec:={ X:=Nat×Nat×Nat,enc:=fun x=>[nl (dg (2^x.2.2) x.1),.int (x.2.2:Nat),.int (x.2.1:Nat),.ref 481,.ref 523],pre:=fun x=>MOk x.1 x.2.2∧3≤x.1∧x.2.1<2^16,post:=fun x r=>LW x.1 x.2.1 r }
noncomputable abbrev Γwit:Gam:=⟨[(322,checkS),(77,natOfS),(343,strongS)],[],none⟩
theorem w_least_witness (n most w:Nat)(h:MOk n w)(h3:3≤n)(hm:most<2^16):W Γwit c_least_witness [.val (nl (dg (2^w) n)),.val (.int (w:Nat)),.val (.int (most:Nat)),.val (.ref 481),.val (.ref 523),.un] fun f _=>retV f (LW n most):=by
 have hmb:=h.mb
 have hmo:=h.mo
 have hw1:=h.w1
 have hw2:=h.w2
 (try dsimp only [c_least_witness];simp! only [SS])
 (simp! only [SS])
 k_extra "mD";refine use1 (S:=checkS) rfl (n,w) rfl ⟨by show 1≤w;exact F1 [_] [] 76969328783425 hw1,hmo,by show n≠1;exact F1 [_] [] 7120678113259585 h3⟩ fun r hr=>?_
 have hr:r=.none:=hr
 subst hr
 try dsimp only
 (simp! only [SS])
 k_extra "mD";refine W_for1 (fun t:Slot=>[.val (nl (dg (2^w) n)),.val (.int (w:Nat)),.val (.int (most:Nat)),.val (.ref 481),.val (.ref 523),t]) (fun k _=>∀ c,2≤c→c<2+k→StrongP n c) (vs:=rangeL 2 ((most:Int)+1) 1) .un (fun R hR=>?_) (fun c h1 h2=>by lia) (fun Rq hq k v t hv hk N hN=>?_) (fun t hk=>?_)
 ·(simp! only [SS])
  exact ⟨⟨by decide,by exact F2 [_,_] [] 406988599873184428792590241360729310900654880 hm (Int.natAbs_of_nonneg (F0 [_] [] 22768306181))⟩,hR⟩
 ·obtain ⟨rfl,hlt⟩:=rangeL_get hv
  have eb:(2:Int)+(k:Int)=((2+k:Nat):Int):=by exact iAs (F0 [_] [] 5964335255177223) (F0 [_] [] 5969008229648388)
  rw [eb]
  (simp! only [SS])
  (simp! only [SS])
  k_extra "mD";refine use1 (S:=natOfS) rfl (2+k,w) rfl ⟨by show 2+k<2^64;exact F2 [_,_] [] 114557106670806923940017802009428191460404750633924075767815 hm hlt,by show 1≤w;exact F1 [_] [] 76969328783425 hw1,by show w≤64;exact F1 [_] [] 19617688876285431904 hw2⟩ fun r hr=>?_
  have hr:r=nl (dg (2^w) (2+k)):=hr
  subst hr
  k_extra "mD";refine use1 (S:=strongS) rfl (n,2+k,w) rfl ⟨h,h3,by show 2+k<2^32;exact F2 [_,_] [] 105593493297165734736125583950923692907295170414599 hm hlt⟩ fun r hr=>?_
  refine x1a2 hr fun t zq1 ht=>?_;clear hr;subst zq1
  have ht:t=true↔StrongP n (2+k):=ht
  cases t with
  | true =>
   (simp! only [Bool.not_true,W_skip])
   refine ⟨_,rfl,fun c h1 h2=>?_⟩
   by_cases hc:c=2+k
   ·rw [hc];exact ht.mp rfl
   ·exact hk c h1 (by exact (Nat.lt_or_gt_of_ne hc).elim (fun k1=>k1) fun k1=>F2 [_,_] [] 133272293205427989160010092677124 h2 k1)
  | false =>
   (simp! only [Bool.not_false,W_seq,W_ret])
   exact .inr ⟨2+k,rfl,by exact F0 [_] [] 287441156,by exact F1 [_,_] [] 5294400094903022298384391 hlt,(fun z=>Bool.false_ne_true (ht.mpr z)),hk⟩
 ·rw [rangeL_len] at hk
  try dsimp only
  (simp! only [SS])
  (simp! only [SS])
  exact .inl ⟨rfl,fun b h1 h2=>hk b h1 (by exact F2 [_,_,_] [] 1436650129181968216027296981792 h2 (iSt _))⟩
noncomputable def divOutS:Spec:={ X:=Nat×Nat×Nat,enc:=fun x=>[nl (dg (2^x.2.2) x.1),.int (x.2.1:Nat),.int (x.2.2:Nat)],pre:=fun x=>1≤x.2.2∧x.2.2≤16∧x.1<2^64∧2≤x.2.1∧x.2.1<2^x.2.2,post:=fun x r=>∃ k q:Nat,r=.tup [.int (k:Nat),nl (dg (2^x.2.2) q)]∧x.1=q*x.2.1^k∧(x.1=0→k=0)∧(0<x.1→q%x.2.1≠0) }
theorem w_divided_out (n p w:Nat)(hw:1≤w)(hw2:w≤16)(hn:n<2^64)(hp:2≤p)(hp2:p<2^w):W ⟨[(133,divremLimbS)],[],none⟩ c_divided_out [.val (nl (dg (2^w) n)),.val (.int (p:Nat)),.val (.int (w:Nat)),.un,.un,.un] fun f _ =>
  retV f fun r=>∃ k q:Nat,r=.tup [.int (k:Nat),nl (dg (2^w) q)]∧n=q*p^k∧(n=0→k=0)∧(0<n→q%p≠0):=by
 have hB:=tLP hw
 have h2:¬(p:Int)<2:=F1 [_] [] 111470717245444 hp
 (try dsimp only [c_divided_out];simp! only [SS])
 (simp! only [h2,W_skip])
 (simp! only [SS])
 (simp! only [SS])
 (simp! only [SS])
 k_extra "mD";refine W_while (fun t:Nat×Nat×Slot×Slot=>[.val (nl (dg (2^w) t.1)),.val (.int (p:Nat)),.val (.int (w:Nat)),.val (.int (t.2.1:Nat)),t.2.2.1,t.2.2.2]) (fun t=>n=t.1*p^t.2.1∧(n=0→t.2.1=0)) (fun t=>t.1) (n,0,.un,.un) rfl ⟨by simp,fun _=>rfl⟩ ?_
 refine fun Rq hq=>pr4 fun q k s1 s2 zh=>an2 zh fun h3 h4 N hN=>?_;clear zh
 dsimp only at h3 h4
 (simp! only [SS])
 have hq64:q<2^64:=by
  have:q*1≤q*p^k:=Nat.mul_le_mul_left _ (Nat.pow_pos (by exact F1 [_] [] 19864819716 hp))
  exact F3 [_,_,_] [] 123004756668874794063183989609627079444009856208400810545517875728608 hn h3 this
 (simp! only [SS])
 (simp! only [SS])
 k_extra "mD";refine use1 (S:=divremLimbS) rfl (q,p,w) rfl ⟨hw,hw2,hq64,by show 0<p;exact F1 [_] [] 19864819716 hp,hp2⟩ fun r hr=>?_
 have hr:r=.tup [nl (dg (2^w) (q/p)),.int ((q%p:Nat))]:=hr
 subst hr
 (simp! only [SS])
 (simp! only [SS])
 (simp! only [SS])
 by_cases hz:q%p=0
 ·(simp! only [hz,Int.natCast_zero,Bool.not_true])
  refine eqNil_if ?_
  by_cases hq:q=0
  ·subst hq
   (simp! only [dg_zero,W_seq,W_ret])
   rw [Nat.zero_mul] at h3
   exact ⟨k,0,by rw [dg_zero],by rw [Nat.zero_mul];exact h3,h4,fun z=>by lia⟩
  ·have hd:¬dg (2^w) q=[]:=fun z=>hq ((dg_nil hB).mp z)
   (simp! only [hd,W_skip,W_seq,W_asg,W_aug])
   refine ⟨(q/p,k+1,_,_),rfl,Nat.div_lt_self (by exact nPo hq) (by exact F1 [_] [] 19865081860 hp),?_,fun z=>?_⟩
   ·show n=q/p*p^(k+1)
    rw [h3,Nat.pow_succ,Nat.mul_comm (p^k) p,← Nat.mul_assoc]
    congr 1
    have:=Nat.div_add_mod q p
    rw [hz,Nat.add_zero,Nat.mul_comm] at this
    exact this.symm
   ·exfalso
    have:=Nat.mul_pos (by exact nPo hq:0<q) (Nat.pow_pos (n:=k) (by exact F1 [_] [] 19864819716 hp:0<p))
    exact F3 [_,_] [] 30468120404742711298 h3 z this
 ·have hz':¬(((q%p:Nat):Int)=0):=F1 [_] [] 111537289242626 (nPo hz)
  (simp! only [hz',Bool.not_false,W_seq,W_ret])
  exact ⟨k,q,rfl,h3,h4,fun _=>hz⟩
noncomputable def sieveIn (most:Nat)(c:List Bool)(n:Nat):List Bool:=c.zipIdx.map fun p=>p.1 || (decide (n*n≤p.2) && decide ((p.2-n*n)%n=0))
noncomputable def sieveStep (most:Nat)(t:List Bool×List Nat)(n:Nat):List Bool×List Nat:=if t.1.getD n true then t else (sieveIn most t.1 n,t.2++[n])
noncomputable def svT (most k:Nat):List Bool×List Nat:=(List.range k).foldl (fun t i=>sieveStep most t (2+i)) (List.replicate (most+1) false,[])
theorem sieveTo_succ (most k:Nat):svT most (k+1)=sieveStep most (svT most k) (2+k):=by unfold svT;rw [List.range_succ,List.foldl_append];rfl
noncomputable def primes60:List Nat:=[2,3,5,7,11,13,17,19,23,29,31,37,41,43,47,53,59]
theorem sieve60:(svT 60 59).2=primes60:=by decide +kernel
theorem sieveLen:∀ k,k≤59→(svT 60 k).1.length=61∧(svT 60 k).2.length≤59:=by
 intro k hk
 have:∀ k:Fin 60,(svT 60 k.val).1.length=61∧(svT 60 k.val).2.length≤59:=by decide +kernel
 exact this ⟨k,by exact F1 [_] [] 341152173199724640 hk⟩
noncomputable def bv (l:List Bool):List V:=l.map V.bool
noncomputable def crossTo (c:List Bool)(n k:Nat):List Bool:=(List.range k).foldl (fun c i=>c.set (n*n+i*n) true) c
theorem crossTo_succ (c:List Bool)(n k:Nat):crossTo c n (k+1)=(crossTo c n k).set (n*n+k*n) true:=by unfold crossTo;rw [List.range_succ,List.foldl_append];rfl
theorem crossTo_len (c:List Bool)(n k:Nat):(crossTo c n k).length=c.length:=by
 induction k with
 | zero=>rfl
 | succ k ih=>rw [crossTo_succ,List.length_set,ih]
theorem cross60:∀ k:Nat,k<59→(svT 60 k).1.getD (2+k) true=false→crossTo (svT 60 k).1 (2+k) (Builtin.Range.rangeSize (((2+k)*(2+k):Nat):Int) 61 ((2+k:Nat):Int)).toNat=sieveIn 60 (svT 60 k).1 (2+k):=by
 intro k hk hf
 have:∀ k:Fin 59,(svT 60 k.val).1.getD (2+k.val) true=false→crossTo (svT 60 k.val).1 (2+k.val) (Builtin.Range.rangeSize (((2+k.val)*(2+k.val):Nat):Int) 61 ((2+k.val:Nat):Int)).toNat=sieveIn 60 (svT 60 k.val).1 (2+k.val):=by decide +kernel
 exact this ⟨k,hk⟩ hf
theorem crossIn:∀ k:Nat,k<59→∀ j,j<(Builtin.Range.rangeSize (((2+k)*(2+k):Nat):Int) 61 ((2+k:Nat):Int)).toNat→(2+k)*(2+k)+j*(2+k)<61:=by
 intro k hk j hj
 have b:∀ k:Fin 59,(Builtin.Range.rangeSize (((2+k.val)*(2+k.val):Nat):Int) 61 ((2+k.val:Nat):Int)).toNat≤30∧∀ j:Fin 30,j.val<(Builtin.Range.rangeSize (((2+k.val)*(2+k.val):Nat):Int) 61 ((2+k.val:Nat):Int)).toNat→(2+k.val)*(2+k.val)+j.val*(2+k.val)<61:=by decide +kernel
 have b:=b ⟨k,hk⟩
 exact b.2 ⟨j,Nat.lt_of_lt_of_le hj b.1⟩ hj
noncomputable def smallS:Spec:={ X:=Unit,enc:=fun _=>[.int 60],pre:=fun _=>True,post:=fun _ r=>r=nl primes60 }
theorem rangeG_get {a b c:Int}{k:Nat}{v:V}(h:(rangeL a b c)[k]?=some v):v=.int (a+(k:Int)*c)∧k<(Builtin.Range.rangeSize a b c).toNat:=by
 unfold rangeL at h
 rw [List.getElem?_map] at h
 by_cases hk:k<(Builtin.Range.rangeSize a b c).toNat
 ·rw [List.getElem?_range hk] at h
  exact ⟨(Option.some.inj h).symm,hk⟩
 ·rw [List.getElem?_eq_none (by simpa using hk)] at h;cases h
theorem bv_set (l:List Bool)(k:Nat)(b:Bool):(bv l).set k (V.bool b)=bv (l.set k b):=by unfold bv;rw [List.map_set]
theorem bv_len (l:List Bool):(bv l).length=l.length:=List.length_map ..
theorem w_small_primes (Γ:Gam):W Γ c_small_primes [.val (.int 60),.un,.un,.un,.un] fun f _=>retV f (·=nl primes60):=by
 (try dsimp only [c_small_primes];simp! only [SS])
 (simp! only [SS])
 refine ⟨by decide,?_⟩
 (simp! only [SS])
 k_extra "mD";refine W_for1 (fun t:Nat×Slot×Slot=>[.val (.int 60),.own (bv (svT 60 t.1).1),.own (iv (svT 60 t.1).2),t.2.1,t.2.2]) (fun k t=>t.1=k∧k≤59) (vs:=rangeL 2 61 1) (0,.un,.un) (fun R hR=>?_) ⟨rfl,by exact F0 [] [] 300683330⟩ (fun Rq hq k v t hv hk N hN=>?_) (fun t hk=>?_)
 ·(simp! only [SS])
  refine ⟨by decide,?_⟩
  exact hR
 ·obtain ⟨rfl,hlt⟩:=rangeL_get hv
  revert t;refine pr3 fun j s1 s2 hk=>?_
  dsimp only at hk
  obtain ⟨rfl,hj⟩:=hk
  have hj:j<59:=F1 [_] [] 5718861333363111130089479 hlt
  obtain ⟨l1,l2⟩:=sieveLen j (by exact F1 [_] [] 5416629878459453836412935 hlt)
  have eb:(2:Int)+(j:Int)=((2+j:Nat):Int):=by exact iAs (F0 [_] [] 5964335255177223) (F0 [_] [] 5969008229648388)
  have gd:(svT 60 j).1.getD (2+j) true=(svT 60 j).1[2+j]'(by exact F2 [_,_] [] 6004268004083820018953484900765792 hlt l1):=by rw [List.getD_eq_getElem?_getD,List.getElem?_eq_getElem (by exact F2 [_,_] [] 6004268004083820018953484900765792 hlt l1)];rfl
  have pg:pyIdx (bv (svT 60 j).1) ((2+j:Nat):Int)=some (.bool ((svT 60 j).1.getD (2+j) true)):=by
   unfold pyIdx bv
   rw [if_pos (Int.natCast_nonneg _),Int.toNat_natCast,List.getElem?_map,List.getElem?_eq_getElem (by exact F2 [_,_] [] 6004268004083820018953484900765792 hlt l1),gd];rfl
  rw [eb]
  (simp! only [SS])
  (simp! only [SS])
  refine ⟨_,pg,?_⟩
  cases hf:(svT 60 j).1.getD (2+j) true with
  | true =>
   (simp! only [Bool.not_true,W_skip])
   refine ⟨(j+1,.val (.int ((2+j:Nat))),s2),?_,rfl,by exact F1 [_] [] 22186514189726346185004075015 hlt⟩
   have:svT 60 (j+1)=svT 60 j:=by rw [sieveTo_succ];unfold sieveStep;rw [hf];rfl
   try dsimp only
   rw [this]
  | false =>
   have hsz:(svT 60 j).2.length<sMx:=by have:sMx=1048576:=rfl;exact F2 [_,_] [] 22911948999633478768903864416 l2 this
   (simp! only [Bool.not_false])
   (simp! only [SS])
   (simp! only [hsz])
   rw [iv_app]
   (simp! only [SS])
   k_extra "mD";refine W_for1 (fun t:Nat×Slot=>[.val (.int 60),.own (bv (crossTo (svT 60 j).1 (2+j) t.1)),.own (iv ((svT 60 j).2++[2+j])),.val (.int ((2+j:Nat))),t.2]) (fun k t=>t.1=k) (vs:=rangeL (((2+j)*(2+j):Nat):Int) 61 ((2+j:Nat):Int)) (0,s2) (fun R hR=>?_) rfl (fun Rq hq k v t hv hk N hN=>?_) (fun t hk=>?_)
   ·have j64:((2+j:Nat):Int).natAbs<2^64:=F1 [_] [] 1667025305080561141076291133343649831902732666887 hlt
    have m:((2+j:Nat):Int)*((2+j:Nat):Int)=(((2+j)*(2+j):Nat):Int):=by rw [Int.natCast_mul]
    have mb:(2+j)*(2+j)≤60*60:=Nat.mul_le_mul (by exact F1 [_] [] 22205857035770500727132440583 hlt) (by exact F1 [_] [] 22205857035770500727132440583 hlt)
    (simp! only [j64])
    rw [m]
    refine ⟨⟨by rw [Int.natAbs_natCast];exact F1 [_] [] 379037670673042935125771334108319840 mb,by decide,by exact F1 [_] [] 99362451140914167081079569546416821159943 hlt,by exact F0 [_] [] 1742770046980⟩,hR⟩
   ·revert t;refine pr2 fun i sl hk=>?_
    dsimp only at hk
    subst hk
    obtain ⟨rfl,hi⟩:=rangeG_get hv
    have hin:=crossIn j hj i hi
    have e:(((2+j)*(2+j):Nat):Int)+(i:Int)*((2+j:Nat):Int)=(((2+j)*(2+j)+i*(2+j):Nat):Int):=by
     have e2:(i:Int)*((2+j:Nat):Int)=((i*(2+j):Nat):Int):=(Int.natCast_mul i (2+j)).symm
     rw [e2];exact (Int.natCast_add _ _).symm
    rw [e]
    (simp! only [SS])
    have i1:(((2+j)*(2+j)+i*(2+j):Nat):Int)<(((bv (crossTo (svT 60 j).1 (2+j) i)).length:Nat):Int):=by rw [bv_len,crossTo_len,l1];exact Int.ofNat_lt.mpr hin
    have tk:(((2+j)*(2+j)+i*(2+j):Nat):Int).toNat=(2+j)*(2+j)+i*(2+j):=Int.toNat_natCast _
    (simp! only [i1,tk,W_skip])
    refine ⟨(i+1,.val (.int ((((2+j)*(2+j)+i*(2+j):Nat):Int)))),?_,rfl⟩
    rw [bv_set,← crossTo_succ]
   ·have hk2:t.1=(Builtin.Range.rangeSize (((2+j)*(2+j):Nat):Int) 61 ((2+j:Nat):Int)).toNat:=by
     rw [hk];unfold rangeL;rw [List.length_map,List.length_range]
    (simp! only [W_skip])
    refine ⟨(j+1,.val (.int ((2+j:Nat))),t.2),?_,rfl,by exact F1 [_] [] 22186514189726346185004075015 hlt⟩
    have:svT 60 (j+1)=(sieveIn 60 (svT 60 j).1 (2+j),(svT 60 j).2++[2+j]):=by rw [sieveTo_succ];unfold sieveStep;rw [hf];rfl
    try dsimp only
    rw [this,hk2,cross60 j hj hf]
 ·rw [rangeL_len] at hk
  revert t;refine pr3 fun j s1 s2 hk=>?_
  have hk:j=59:=hk.1
  subst hk
  try dsimp only
  (simp! only [SS])
  (simp! only [sieve60])
end
section
noncomputable def hits (n p:Nat):Bool:=decide (n%p=0) && !decide (n=p)
noncomputable def trialS:Spec:={ X:=Nat×Nat,enc:=fun x=>[nl (dg (2^x.2) x.1),.int (x.2:Nat),.int 60],pre:=fun x=>1≤x.2∧x.2≤16∧x.1<2^64,post:=fun x r=>(r=.none∧(primes60.all fun p=>!hits x.1 p)=true)∨∃ p:Nat,r=.int (p:Nat)∧(primes60.all fun p=>!hits x.1 p)=false }
noncomputable abbrev Γtrial:Gam:=⟨[(294,smallS),(301,restS),(77,natOfS)],[],none⟩
theorem w_trial (n w:Nat)(hw:1≤w)(hw2:w≤16)(hn:n<2^64):W Γtrial c_trial [.val (nl (dg (2^w) n)),.val (.int (w:Nat)),.val (.int 60),.un] fun f _ =>
  retV f fun r=>(r=.none∧(primes60.all fun p=>!hits n p)=true)∨∃ p:Nat,r=.int (p:Nat)∧(primes60.all fun p=>!hits n p)=false:=by
 have hB:=tLP hw
 (try dsimp only [c_trial];simp! only [SS])
 k_extra "mD";refine W_for1 (fun t:Slot=>[.val (nl (dg (2^w) n)),.val (.int (w:Nat)),.val (.int 60),t]) (fun k _=>((primes60.take k).all fun p=>!hits n p)=true) (vs:=iv primes60) .un (fun R hR=>?_) rfl (fun Rq hq k v t hv hk N hN=>?_) (fun t hk=>?_)
 ·(simp! only [SS])
  k_extra "mD";refine use1 (S:=smallS) rfl () rfl trivial fun r hr=>?_
  have hr:r=nl primes60:=hr
  subst hr
  exact hR
 ·have hk2:k<primes60.length:=by rw [← iv_len];exact (List.getElem?_eq_some_iff.mp hv).1
  have ev:v=.int ((primes60[k]:Nat):Int):=by
   unfold iv at hv
   rw [List.getElem?_map,List.getElem?_eq_getElem hk2] at hv
   exact (Option.some.inj hv).symm
  subst ev
  have pb:0<primes60[k]∧primes60[k]<2^16:=by
   have:∀ k:Fin 17,0<primes60[k.val]'(by have:=k.isLt;exact this)∧primes60[k.val]'(by have:=k.isLt;exact this)<2^16:=by decide
   exact this ⟨k,hk2⟩
  have tk:primes60.take (k+1)=primes60.take k++[primes60[k]]:=by rw [List.take_succ_eq_append_getElem hk2]
  have memk:primes60[k]∈primes60:=List.getElem_mem hk2
  generalize hp:primes60[k]=p at *
  (simp! only [SS])
  (simp! only [SS])
  k_extra "mD";refine use1 (S:=restS) rfl (n,p,w) rfl ⟨hw,hw2,hn,pb.1,pb.2⟩ fun r hr=>?_
  have hr:r=.int ((n%p:Nat)):=hr
  subst hr
  have nx:hits n p=false→((primes60.take (k+1)).all fun p=>!hits n p)=true:=fun z=>by
   rw [tk,List.all_append,hk];simp [z]
  by_cases hz:n%p=0
  ·(simp! only [hz,Int.natCast_zero])
   k_extra "mD";refine use1 (S:=natOfS) rfl (p,w) rfl ⟨by show p<2^64;exact F1 [_] [] 1552538299076781739551845228257642295392 pb.2,hw,by show w≤64;exact F1 [_] [] 19617688876287529056 hw2⟩ fun r hr=>?_
   have hr:r=nl (dg (2^w) p):=hr
   subst hr
   (simp! only [SS])
   refine neL_if ?_
   by_cases he:n=p
   ·(simp! only [he,Bool.not_true,W_skip])
    exact ⟨_,rfl,by rw [← he];exact nx (by unfold hits;rw [he];simp)⟩
   ·have hd:¬dg (2^w) n=dg (2^w) p:=fun z=>he (dg_inj hB z)
    (simp! only [hd,Bool.not_false,W_seq,W_ret])
    refine .inr ⟨p,rfl,?_⟩
    rw [← Bool.not_eq_true,List.all_eq_true]
    intro z
    have:=z p memk
    unfold hits at this
    simp [hz,he] at this
  ·have hz':¬(((n%p:Nat):Int)=0):=F1 [_] [] 111537289242626 (nPo hz)
   (simp! only [hz',W_skip])
   exact ⟨_,rfl,nx (by unfold hits;simp [hz])⟩
 ·rw [iv_len,List.take_length] at hk
  try dsimp only
  (simp! only [SS])
  (simp! only [SS])
  first | exact .inl ⟨trivial,hk⟩ | exact .inl ⟨rfl,hk⟩ | exact .inl hk
noncomputable def ip (n:Nat):Bool:=!decide (n=0) && !decide (n=1) && primes60.all fun p=>!hits n p
noncomputable def probS:Spec:={ X:=Nat×Nat,enc:=fun x=>[nl (dg (2^x.2) x.1),.int (x.2:Nat),.lst [],.ref 481,.ref 523],pre:=fun x=>1≤x.2∧x.2≤16∧x.1<3600,post:=fun x r=>r=.bool (ip x.1) }
noncomputable abbrev Γprob:Gam:=⟨[(91,compareS),(77,natOfS),(308,trialS)],[],none⟩
theorem w_is_probable (n w:Nat)(hw:1≤w)(hw2:w≤16)(hn:n<3600):W Γprob c_is_probable [.val (nl (dg (2^w) n)),.val (.int (w:Nat)),.val (.lst []),.val (.ref 481),.val (.ref 523)] fun f _=>retV f (·=.bool (ip n)):=by
 have hB:=tLP hw
 (try dsimp only [c_is_probable];simp! only [SS])
 (simp! only [SS])
 refine ⟨(dg (2^w) n).map (fun (n:Nat)=>(n:Int)),[[],[1]],iv_ints _,rfl,?_⟩
 have e1:(1:Nat)=1∧dg (2^w) 1=[1]:=⟨rfl,dg_limb hB (by exact F0 [] [] 73922) (by exact F1 [_] [] 19865081860 hB)⟩
 by_cases h0:n=0
 ·subst h0
  (simp! only [dg_zero,List.map_nil,List.mem_cons,true_or,decide_true,if_true,W_seq,W_ret])
  rfl
 ·by_cases h1:n=1
  ·subst h1
   have:((dg (2^w) 1).map fun (n:Nat)=>(n:Int))∈([[],[1]]:List (List Int)):=by rw [e1.2];simp
   (simp! only [this,decide_true,if_true,W_seq,W_ret])
   rfl
  ·have:¬((dg (2^w) n).map fun (n:Nat)=>(n:Int))∈([[],[1]]:List (List Int)):=fun z=>by
    simp only [List.mem_cons,List.not_mem_nil,or_false] at z
    rcases z with z | z
    ·exact h0 ((dg_nil hB).mp (List.map_eq_nil_iff.mp z))
    ·have:dg (2^w) n=dg (2^w) 1:=ints_eq.mp (by rw [e1.2,z];rfl)
     exact h1 (dg_inj hB this)
   simp only [this,decide_false,Bool.false_eq_true,if_false,W_skip]
   (simp! only [SS])
   have s64:(60:Int).natAbs<2^64:=by decide
   (simp! only [s64])
   k_extra "mD";refine use1 (S:=natOfS) rfl (3600,w) rfl ⟨by show 3600<2^64;decide,hw,by show w≤64;exact F1 [_] [] 19617688876287529056 hw2⟩ fun r hr=>?_
   have hr:r=nl (dg (2^w) 3600):=hr
   subst hr
   k_extra "mD";refine use1 (S:=compareS) rfl (n,3600,w) rfl ⟨hw,by show n<2^64;exact F1 [_] [] 24258410923074714680497581692200951904 hn,by show 3600<2^64;decide⟩ fun r hr=>?_
   have hr:r=.int (cmpR n 3600):=hr
   subst hr
   have hc:cmpR n 3600<0:=by unfold cmpR;rw [if_pos hn];decide
   (simp! only [hc])
   (simp! only [SS])
   (simp! only [SS])
   k_extra "mD";refine use1 (S:=trialS) rfl (n,w) rfl ⟨hw,hw2,by show n<2^64;exact F1 [_] [] 24258410923074714680497581692200951904 hn⟩ fun r hr=>?_
   rcases hr with ⟨rfl,hr⟩ | ⟨p,rfl,hr⟩
   ·(simp! only [SS])
    unfold ip
    rw [hr];simp [h0,h1]
   ·(simp! only [SS])
    unfold ip
    rw [hr];simp
noncomputable def pairS:Spec:={ X:=Nat×Nat,enc:=fun x=>[nl (dg (2^x.2) x.1),.int (x.2:Nat),.ref 481,.ref 523],pre:=fun x=>1≤x.2∧x.2≤16∧x.1<3598,post:=fun x r=>r=.bool (ip x.1 && ip (x.1+2)) }
noncomputable abbrev Γpair:Gam:=⟨[(453,probS),(77,natOfS),(98,addS)],[],none⟩
theorem w_is_pair (n w:Nat)(hw:1≤w)(hw2:w≤16)(hn:n<3598):W Γpair c_is_pair [.val (nl (dg (2^w) n)),.val (.int (w:Nat)),.val (.ref 481),.val (.ref 523)] fun f _=>retV f (·=.bool (ip n && ip (n+2))):=by
 (try dsimp only [c_is_pair];simp! only [SS])
 (simp! only [SS])
 k_extra "mD";refine use1 (S:=probS) rfl (n,w) rfl ⟨hw,hw2,by show n<3600;exact F1 [_] [] 1393017977508516601952 hn⟩ fun r hr=>?_
 have hr:r=.bool (ip n):=hr
 subst hr
 cases h:ip n with
 | false=>(simp! only [Bool.false_and])
 | true =>
  (simp! only [Bool.true_and])
  k_extra "mD";refine use1 (S:=natOfS) rfl (2,w) rfl ⟨by show 2<2^64;decide,hw,by show w≤64;exact F1 [_] [] 19617688876287529056 hw2⟩ fun r hr=>?_
  have hr:r=nl (dg (2^w) 2):=hr
  subst hr
  k_extra "mD";refine use1 (S:=addS) rfl (n,2,w) rfl ⟨hw,by show w≤64;exact F1 [_] [] 19617688876287529056 hw2,by show n<2^64;exact F1 [_] [] 24258410923074714680497581692200427616 hn,by show 2<2^64;decide⟩ fun r hr=>?_
  have hr:r=nl (dg (2^w) (n+2)):=hr
  subst hr
  exact use1 (S:=probS) rfl (n+2,w) rfl ⟨hw,hw2,by show n+2<3600;exact F1 [_] [] 5705801629056267846164576 hn⟩ fun r hr=>hr
noncomputable def lawPowS:Spec:={ X:=Nat×Nat×Nat,enc:=fun x=>[.int (x.1:Nat),.int (x.2.1:Nat),.int (x.2.2:Nat)],pre:=fun x=>x.1<2^16∧0<x.2.1∧x.2.1<2^16,post:=fun x r=>r=.int ((x.1^x.2.2%x.2.1:Nat)) }
theorem w_law_power (Γ:Gam)(b n e:Nat)(hb:b<2^16)(hn:0<n)(hn2:n<2^16):W Γ c_law_power [.val (.int (b:Nat)),.val (.int (n:Nat)),.val (.int (e:Nat)),.un] fun f _=>retV f (·=.int ((b^e%n:Nat))):=by
 have n0:(n:Int)≠0:=F1 [_] [] 111537289242626 hn
 have t0:(2:Int)≠0:=by decide
 have t64:(2:Int).natAbs<2^64:=by decide
 have f2:∀ x:Nat,(x:Int).fmod 2=((x%2:Nat):Int):=fun x=>fmod_nat x 2
 have d2:∀ x:Nat,(x:Int).fdiv 2=((x/2:Nat):Int):=fun x=>fdiv_nat x 2
 have mm:∀ x y:Nat,(x:Int)*(y:Int)=((x*y:Nat):Int):=fun x y=>(Int.natCast_mul x y).symm
 (try dsimp only [c_law_power];simp! only [SS])
 (simp! only [SS])
 (simp! only [SS])
 k_extra "mD";refine W_while (fun t:Nat×Nat×Nat=>[.val (.int (t.1:Nat)),.val (.int (n:Nat)),.val (.int (t.2.1:Nat)),.val (.int (t.2.2:Nat))]) (fun t=>t.1<2^16∧t.2.2<2^16∧t.2.2*t.1^t.2.1%n=b^e%n) (fun t=>t.2.1) (b,e,1) rfl ⟨hb,by show 1<2^16;decide,by simp⟩ ?_
 refine fun Rq hq=>pr3 fun c k f zh=>an3 zh fun h1 h2 h3 N hN=>?_;clear zh
 dsimp only at h1 h2 h3
 have c64:(c:Int).natAbs<2^64:=F1 [_] [] 99362451140914031331318088477766888468576 h1
 have f64:(f:Int).natAbs<2^64:=F1 [_] [] 99362451140914031331318088477766888468576 h2
 have ml:∀ x,x%n<2^16:=fun x=>by have:=Nat.mod_lt x hn;exact F2 [_,_] [] 1445913980163432836909414819936 hn2 this
 (simp! only [SS])
 by_cases hk:0<k
 ·(simp! only [Int.natCast_pos.mpr hk])
  (simp! only [SS])
  (simp! only [t0,ne_eq,not_false_eq_true,f2])
  have half:k=2*(k/2)+k%2:=by exact nAs (F1 [_,_,_] [] 5178159589473999107954692 (Nat.div_add_mod _ 2)) (F1 [_,_,_] [] 5299123707155473007679492 (Nat.div_add_mod _ 2))
  by_cases ho:k%2=1
  ·(simp! only [ho,Int.natCast_one])
   (simp! only [SS])
   (simp! only [f64,c64,n0,ne_eq,not_false_eq_true,mm])
   (simp! only [SS])
   try dsimp only
   (simp! only [SS])
   (simp! only [f64,c64,n0,t0,t64,ne_eq,not_false_eq_true,mm,d2,W_skip])
   refine ⟨(c*c%n,k/2,f*c%n),rfl,by show k/2<k;exact F3 [_,_,_] [] 12224068624046303516461220839648 hk half ho,ml _,ml _,?_⟩
   show f*c%n*(c*c%n)^(k/2)%n=_
   rw [← h3,Nat.mul_mod,Nat.mod_mod,← Nat.pow_mod,← Nat.mul_mod]
   conv=>rhs;rw [half,ho,Nat.pow_succ,Nat.pow_mul,Nat.pow_two]
   congr 1
   rw [Nat.mul_assoc,Nat.mul_comm c]
  ·have ho0:k%2=0:=by lia
   have nn:¬(((k%2:Nat):Int)=1):=F1 [_] [] 111607082463392 ho0
   (simp! only [nn,W_skip])
   (simp! only [SS])
   (simp! only [f64,c64,n0,t0,t64,ne_eq,not_false_eq_true,mm,d2,W_skip])
   refine ⟨(c*c%n,k/2,f),rfl,by show k/2<k;exact F2 [_,_,_] [] 46631046214782515759419680 hk half,ml _,h2,?_⟩
   show f*(c*c%n)^(k/2)%n=_
   rw [← h3,Nat.mul_mod,← Nat.pow_mod,← Nat.mul_mod]
   conv=>rhs;rw [half,ho0,Nat.add_zero,Nat.pow_mul,Nat.pow_two]
 ·have k0:k=0:=by exact nAs (F1 [_] [] 1170922088450 hk) (F0 [_] [] 71682)
  subst k0
  (simp! only [Int.natCast_zero,Int.lt_irrefl])
  (simp! only [SS])
  (simp! only [n0,ne_eq,not_false_eq_true])
  rw [Nat.pow_zero,Nat.mul_one] at h3
  rw [h3]
noncomputable def lawLetsS:Spec:={ X:=Nat×Nat,enc:=fun x=>[.int (x.1:Nat),.int (x.2:Nat)],pre:=fun x=>3≤x.1∧x.1<2^16∧x.2<2^16,post:=fun x r=>∃ t:Bool,r=.bool t∧(t=true↔StrongP x.1 x.2) }
theorem w_law_lets (n b:Nat)(h3:3≤n)(hn:n<2^16)(hb:b<2^16):W ⟨[(540,lawPowS)],[],none⟩ c_law_lets [.val (.int (n:Nat)),.val (.int (b:Nat)),.un,.un,.un,.un] fun f _ =>
  retV f fun r=>∃ t:Bool,r=.bool t∧(t=true↔StrongP n b):=by
 have n0:(n:Int)≠0:=F1 [_] [] 456856736721023041 h3
 have t0:(2:Int)≠0:=by decide
 have t64:(2:Int).natAbs<2^64:=by decide
 have f2:∀ x:Nat,(x:Int).fmod 2=((x%2:Nat):Int):=fun x=>fmod_nat x 2
 have d2:∀ x:Nat,(x:Int).fdiv 2=((x/2:Nat):Int):=fun x=>fdiv_nat x 2
 have mm:∀ x y:Nat,(x:Int)*(y:Int)=((x*y:Nat):Int):=fun x y=>(Int.natCast_mul x y).symm
 have n1:(n:Int)-1=((n-1:Nat):Int):=by exact iAs (F1 [_,_] [] 1563960003294931204192 sb1) (F1 [_,_] [] 1565779013341731389664 (nSc (F1 [_] [] 76969328783425 h3)))
 (try dsimp only [c_law_lets];simp! only [SS])
 (simp! only [n0,ne_eq,not_false_eq_true])
 by_cases hz:b%n=0
 ·(simp! only [hz,Int.natCast_zero,W_seq,W_ret])
  exact ⟨true,rfl,fun _=>.inl hz,fun _=>rfl⟩
 ·have hz':¬(((b%n:Nat):Int)=0):=F1 [_] [] 111537289242626 (nPo hz)
  (simp! only [hz',W_skip])
  (simp! only [SS])
  (simp! only [n1])
  (simp! only [SS])
  k_extra "mD";refine W_while (fun t:Nat×Nat=>[.val (.int (n:Nat)),.val (.int (b:Nat)),.val (.int (t.1:Nat)),.val (.int (t.2:Nat)),.un,.un]) (fun t=>0<t.1∧n-1=t.1*2^t.2) (fun t=>t.1) (n-1,0) rfl ⟨by show 0<n-1;exact F2 [_,_] [] 358155010120215454507623200 h3 n1,by simp⟩ ?_
  refine fun Rq hq=>pr2 fun d s zh=>an2 zh fun h1 h2 N hN=>?_;clear zh
  dsimp only at h1 h2
  (simp! only [t0,ne_eq,not_false_eq_true,f2])
  by_cases he:d%2=0
  ·(simp! only [he,Int.natCast_zero])
   (simp! only [SS])
   (simp! only [t0,t64,ne_eq,not_false_eq_true,d2,W_skip])
   refine ⟨(d/2,s+1),rfl,by show d/2<d;exact F2 [_,_,_] [] 46631192636376509550204932 h1 (Nat.div_add_mod _ 2),by show 0<d/2;exact F3 [_,_,_] [] 12224039609900400043561524172804 h1 he (Nat.div_add_mod _ 2),?_⟩
   show n-1=d/2*2^(s+1)
   rw [h2,Nat.pow_succ,Nat.mul_comm (2^s) 2,← Nat.mul_assoc];congr 1;exact nAs (F2 [_,_,_] [] 331569196220799189407537156 he (Nat.div_add_mod _ 2)) (F1 [_,_,_] [] 1293741325735183030276 (Nat.div_add_mod _ 2))
  ·have he1:d%2=1:=by exact nAs (F1 [_] [] 18312405280 ml) (F1 [_] [] 18791344130 (nPo he))
   have he':¬(((d%2:Nat):Int)=0):=F1 [_] [] 111537289248992 he1
   have lb:LowBit (n-1) s:=⟨by rw [h2,Nat.mul_mod_left],by rw [h2,Nat.mul_div_cancel _ (Nat.pow_pos (by exact F0 [] [] 73986))];exact he1⟩
   have hd:(n-1)/2^s=d:=by rw [h2,Nat.mul_div_cancel _ (Nat.pow_pos (by exact F0 [] [] 73986))]
   have spi:StrongP n b↔(b^d%n=1∨∃ i,i<s∧b^(d*2^i)%n=n-1):=by
    constructor
    ·rintro (z | ⟨s',hs',z⟩)
     ·exact absurd z hz
     ·have:=hs'.uniq lb
      subst this
      rw [hd] at z;exact z
    ·intro z
     exact .inr ⟨s,lb,by rw [hd];exact z⟩
   (simp! only [he'])
   (simp! only [SS])
   (simp! only [SS])
   k_extra "mD";refine use1 (S:=lawPowS) rfl (b,n,d) rfl ⟨hb,by show 0<n;exact F1 [_] [] 81366301552705 h3,hn⟩ fun r hr=>?_
   have hr:r=.int ((b^d%n:Nat)):=hr
   subst hr
   (simp! only [SS])
   (simp! only [SS])
   by_cases ho:b^d%n=1
   ·(simp! only [ho,Int.natCast_one,W_seq,W_ret])
    exact ⟨true,rfl,fun _=>spi.mpr (.inl ho),fun _=>rfl⟩
   ·have ho':¬(((b^d%n:Nat):Int)=1):=by exact (Int.lt_or_gt_of_ne n0).elim (fun k1=>(Nat.lt_or_gt_of_ne ho).elim (fun k5=>F1 [_] [] 111607082459360 k5) fun k5=>F1 [_] [] 111538362984451 k5) fun k1=>(Nat.lt_or_gt_of_ne ho).elim (fun k9=>F1 [_] [] 111607082459360 k9) fun k9=>F1 [_] [] 111538362984451 k9
    (simp! only [ho',W_skip])
    (simp! only [SS])
    have s64:=lb.lt (by exact F2 [_,_] [] 6828135649609978433848488930006727323909341281018656 hn n1)
    k_extra "mD";refine W_for1 (fun t:Nat×Slot=>[.val (.int (n:Nat)),.val (.int (b:Nat)),.val (.int (d:Nat)),.val (.int (s:Nat)),.val (.int ((b^(d*2^t.1)%n:Nat))),t.2]) (fun k t=>t.1=k∧∀ i,i<k→b^(d*2^i)%n≠n-1) (vs:=rangeL 0 (s:Int) 1) (0,.un) (fun R hR=>?_) ⟨rfl,fun i h=>by lia⟩ (fun Rq2 hq2 k v t hv hk N2 hN2=>?_) (fun t hk=>?_)
    ·(simp! only [SS])
     refine ⟨by exact F1 [_] [] 92538493816660872737722709581920 s64,?_⟩
     have hR:=hR
     dsimp only at hR
     rw [Nat.pow_zero,Nat.mul_one] at hR
     exact hR
    ·obtain ⟨rfl,hlt⟩:=rangeL_get hv
     revert t;refine pr2 fun j sl hk=>?_
     dsimp only at hk
     obtain ⟨rfl,hk⟩:=hk
     have hml:b^(d*2^j)%n<n:=Nat.mod_lt _ (by exact F1 [_] [] 81366301552705 h3)
     have h64:((b^(d*2^j)%n:Nat):Int).natAbs<2^64:=by rw [Int.natAbs_natCast];exact F2 [_,_] [] 406988599873183872333078915516371381883578464 hn hml
     (simp! only [SS])
     (simp! only [n1])
     by_cases hq:b^(d*2^j)%n=n-1
     ·(simp! only [hq,W_seq,W_ret])
      exact ⟨true,rfl,fun _=>spi.mpr (.inr ⟨j,by exact F1 [_,_] [] 333690110160979973 hlt,hq⟩),fun _=>rfl⟩
     ·have hq':¬(((b^(d*2^j)%n:Nat):Int)=((n-1:Nat):Int)):=by exact (Int.lt_or_gt_of_ne n0).elim (fun k1=>F2 [_,_,_] [] 32677021864317970620698088224 h3 k1) fun k1=>(Nat.lt_or_gt_of_ne hq).elim (fun k7=>F1 [_,_] [] 7143287811024992 k7) fun k7=>F1 [_,_] [] 7138888691034208 k7
      (simp! only [hq',W_skip])
      (simp! only [SS])
      (simp! only [h64,n0,ne_eq,not_false_eq_true,mm,W_skip])
      refine ⟨(j+1,.val (.int (0+(j:Int)))),?_,rfl,fun i hi=>?_⟩
      ·have:b^(d*2^j)%n*(b^(d*2^j)%n)%n=b^(d*2^(j+1))%n:=by
        rw [← Nat.mul_mod,← Nat.pow_add];congr 2;rw [Nat.pow_succ,← Nat.mul_assoc];exact nAs (F0 [_] [] 1177970313248) (F0 [_] [] 1177366335776)
       rw [this]
      ·by_cases hij:i=j
       ·rw [hij];exact hq
       ·exact hk i (by exact (Int.lt_or_gt_of_ne n0).elim (fun k1=>(Nat.lt_or_gt_of_ne hij).elim (fun k9=>k9) fun k9=>F2 [_,_] [] 1939799799893611325536 hi k9) fun k1=>(Nat.lt_or_gt_of_ne hij).elim (fun k17=>k17) fun k17=>F2 [_,_] [] 1939799799893611325536 hi k17)
    ·rw [rangeL_len] at hk
     try dsimp only
     (simp! only [SS])
     (simp! only [SS])
     refine ⟨false,rfl,(fun z=>absurd z Bool.false_ne_true),fun z=>?_⟩
     rcases spi.mp z with z | ⟨i,hi,z⟩
     ·exact absurd z ho
     ·exact absurd z (hk.2 i (by exact F2 [_,_,_] [] 87477099657902465504032 hi (iSt _)))
end
section
theorem iv_at {B n k:Nat}(hB:2≤B){v:V}(hv:(iv (dg B n))[k]?=some v):∃ h:k<(dg B n).length,v=.int ((n/B^k%B:Nat):Int)∧(dg B n)[k]=n/B^k%B:=by
 have hk2:k<(dg B n).length:=by rw [← iv_len];exact (List.getElem?_eq_some_iff.mp hv).1
 have ea:=dg_get hB n k hk2
 refine ⟨hk2,?_,ea⟩
 unfold iv at hv
 rw [List.getElem?_map,List.getElem?_eq_getElem hk2,ea] at hv
 exact (Option.some.inj hv).symm
theorem get_set_ne {l:List Nat}{i j v:Nat}(h:j<(l.set i v).length)(ne:i≠j):(l.set i v)[j]=l[j]'(by simpa using h):=by
 rw [List.getElem_set];exact if_neg ne
theorem w_mul_school (Γ:Gam)(a b w:Nat)(hw:3≤w)(hw2:w≤8)(ha:a<2^16)(hb:b<2^16):W ⟨[(70,normalS)],[],none⟩ c_mul_school [.val (nl (dg (2^w) a)),.val (nl (dg (2^w) b)),.val (.int (w:Nat)),.un,.un,.un,.un,.un,.un,.un] fun f _ =>
  retV f (·=nl (dg (2^w) (a*b))):=by
 have hB:=tLP (w:=w) (by exact F1 [_] [] 76969328783425 hw)
 have la:=len64 hB (n:=a) (by exact F1 [_] [] 1552538299076781739551845228257642295392 ha)
 have lb:=len64 hB (n:=b) (by exact F1 [_] [] 1552538299076781739551845228257642295392 hb)
 have bw:(w:Int)≤1000:=F1 [_] [] 100073154822517370654816 hw2
 have hp8:2^w≤2^8:=Nat.pow_le_pow_right (by exact F0 [] [] 73986) hw2
 have z1:(-1000:Int)≤((dg (2^w) a).length:Int)+((dg (2^w) b).length:Int):=F0 [_,_] [] 1564739998199729520769
 have z2:((dg (2^w) a).length:Int)+((dg (2^w) b).length:Int)≤1000:=F2 [_,_] [] 115376492228785432289412073585874154037344 la lb
 (try dsimp only [c_mul_school];simp! only [SS])
 (simp! only [z1,z2,bw])
 generalize hLa:(dg (2^w) a).length=La at *
 generalize hLb:(dg (2^w) b).length=Lb at *
 have zr:List.replicate ((La:Int)+(Lb:Int)).toNat (V.int 0)=iv (List.replicate (La+Lb) 0):=by
  rw [show (La:Int)+(Lb:Int)=((La+Lb:Nat):Int) by exact iAs (F0 [_,_] [] 381717555115594528) (F0 [_,_] [] 382016601122179168),Int.toNat_natCast];exact iv_rep _ 0
 rw [zr]
 (simp! only [SS])
 have hbl:=dg_lt hB b
 rw [hLb] at hbl
 k_extra "mD";refine W_for2 (fun t:List Nat×Slot×Slot×Slot×Slot×Slot=>[.val (.lst (iv (dg (2^w) a))),.val (.lst (iv (dg (2^w) b))),.val (.int (w:Nat)),.own (iv t.1),.val (.int (((2^w:Nat):Int)-1)),t.2.1,t.2.2.1,t.2.2.2.1,t.2.2.2.2.1,t.2.2.2.2.2])
  (fun k t=>t.1.length=La+Lb∧Lim (2^w) t.1∧k≤La∧vl (2^w) t.1=a%(2^w)^k*b∧∀ i (h:i<t.1.length),k+Lb≤i→t.1[i]=0) (l:=iv (dg (2^w) a)) (List.replicate (La+Lb) 0,.un,.un,.un,.un,.un) (fun R h=>?_) ?_ (fun Rq hq k v t hv hk N hN=>?_) (fun t hk=>?_)
 ·(simp! only [SS]);exact h
 ·exact ⟨by simp,lim_zeros hB _,Nat.zero_le _,by show vl (2^w) (List.replicate (La+Lb) 0)=_;rw [vl_zeros];simp [Nat.mod_one],fun i h _=>by simp⟩
 ·revert t;refine pr6 fun found s1 s2 s3 s4 s5 hk=>?_
  dsimp only at hk
  refine an5 hk fun h1 h2 hkL h4 h5=>?_;clear hk
  refine x1a2 (iv_at hB hv) fun hk2 zq1 ea=>?_;subst zq1
  have em:=mod_pow_succ' (B:=2^w) a k
  have hx0:a/(2^w)^k%2^w<2^w:=Nat.mod_lt _ (by exact F1 [_] [] 19864819716 hB)
  generalize hxk:a/(2^w)^k%2^w=xk at *
  have x64:(xk:Int).natAbs<2^64:=F2 [_,_] [] 406988599873183872333078890404598925754706016 hp8 hx0
  (simp! only [SS])
  (simp! only [SS])
  (simp! only [SS])
  k_extra "mD";refine W_for2 (fun t:List Nat×Nat×Slot×Slot=>[.val (.lst (iv (dg (2^w) a))),.val (.lst (iv (dg (2^w) b))),.val (.int (w:Nat)),.own (iv t.1),.val (.int (((2^w:Nat):Int)-1)),.val (.int (k:Nat)),.val (.int (xk:Nat)),.val (.int (t.2.1:Nat)),t.2.2.1,t.2.2.2])
   (fun j t=>t.1.length=La+Lb∧Lim (2^w) t.1∧j≤Lb∧t.2.1<2^w∧vl (2^w) t.1+(2^w)^(k+j)*t.2.1=vl (2^w) found+(2^w)^k*(xk*(b%(2^w)^j))∧∀ i (h:i<t.1.length),k+Lb≤i→t.1[i]=0) (l:=iv (dg (2^w) b)) (found,0,s4,s5) (fun R h=>?_) ?_ (fun Rq2 hq2 j v t hv hk N2 hN2=>?_) (fun t hk=>?_)
  ·(simp! only [SS]);exact h
  ·exact ⟨h1,h2,Nat.zero_le _,by show 0<2^w;exact F1 [_] [] 19864819716 hB,by simp [Nat.mod_one],h5⟩
  ·revert t;refine pr4 fun r carry s6 s7 hk=>?_
   dsimp only at hk
   refine an6 hk fun g1 g2 gj g3 g4 g5=>?_;clear hk
   refine x1a2 (iv_at hB hv) fun hj2 zq1 eb=>?_;subst zq1
   have emb:=mod_pow_succ' (B:=2^w) b j
   have hy0:b/(2^w)^j%2^w<2^w:=Nat.mod_lt _ (by exact F1 [_] [] 19864819716 hB)
   generalize hyk:b/(2^w)^j%2^w=yk at *
   have y64:(yk:Int).natAbs<2^64:=F2 [_,_] [] 406988599873183872333078890404598925754706016 hp8 hy0
   have hr:k+j<r.length:=F5 [_,_,_,_,_,_,_] [] 1576641130255793174084827458192609454176 hLa hLb hk2 g1 hj2
   have hrl:r[k+j]<2^w:=g2 _ (List.getElem_mem hr)
   (simp! only [SS])
   (simp! only [SS])
   refine ⟨_,iv_get r (k:=k+j) (by exact iAs (F0 [_,_] [] 381717555115594528) (F0 [_,_] [] 382016601122179168)) hr,?_⟩
   have cs:(carry:Int)+((r[k+j]:Int)+(xk:Int)*(yk:Int))=((carry+r[k+j]+xk*yk:Nat):Int):=by rw [Int.natCast_add,Int.natCast_add,Int.natCast_mul];exact iAs (F0 [_,_] [_] 410355731559185074810393376) (F0 [_,_] [_] 410193031276454993558901536)
   (simp! only [x64,y64])
   rw [cs]
   (simp! only [SS])
   have i1:(k:Int)+(j:Int)<(r.length:Int):=F1 [_,_,_] [] 104816943380702069033056 hr
   have i0:(0:Int)≤(k:Int)+(j:Int):=F0 [_,_] [] 1457277683717
   have tk:((k:Int)+(j:Int)).toNat=k+j:=by exact nAs (F1 [_,_,_] [] 80910328934711256290080 (iTn (F0 [_,_] [] 1457277683717))) (F1 [_,_,_] [] 82798814350415729136416 (iSt _))
   (simp! only [i0,i1,tk])
   (simp! only [SS])
   (simp! only [W_skip])
   have cl:=col_set (B:=2^w) (l:=r) (i:=k+j) (carry:=carry) (p:=xk*yk) hr g4 rfl
   refine ⟨(r.set (k+j) ((carry+r[k+j]+xk*yk)%2^w),(carry+r[k+j]+xk*yk)/2^w,.val (.int (j:Nat)),.val (.int (yk:Nat))),by rw [iv_set],by simp [g1],lim_set g2 (Nat.mod_lt _ (by exact F1 [_] [] 19864819716 hB)),by exact F2 [_,_,_] [] 20214422341595506784 hLb hj2,?_,?_,fun i hi hki=>?_⟩
   ·show (carry+r[k+j]+xk*yk)/2^w<2^w
    rw [Nat.div_lt_iff_lt_mul (by exact F1 [_] [] 19864819716 hB)]
    have:xk*yk≤(2^w-1)*(2^w-1):=Nat.mul_le_mul (by exact F2 [_,_,_] [] 20203792278992468064 hx0 sb1) (by exact F2 [_,_,_] [] 20203792278992468064 hy0 sb1)
    have e:2^w*2^w=(2^w-1)*(2^w-1)+2*(2^w-1)+1:=by
     obtain ⟨q,hq⟩:∃ q,2^w=q+1:=⟨2^w-1,by exact nAs (sb1) (F1 [_,_] [] 315568874110353632 (nSc (F1 [_] [] 18791340036 hB)))⟩
     rw [hq];simp only [Nat.add_sub_cancel,Nat.add_mul,Nat.mul_add];exact nAs (F0 [_,_] [] 22764044302289431870466628285945483488) (F0 [_,_] [] 22765671453241016065950285679953318176)
    exact F5 [_,_,_,_,_,_,_] [] 1817744792811065179213453397648961791813677187275442632800 g3 hrl this e sb1
   ·show vl (2^w) (r.set (k+j) ((carry+r[k+j]+xk*yk)%2^w))+(2^w)^(k+j+1)*((carry+r[k+j]+xk*yk)/2^w)=_
    rw [cl,emb,Nat.mul_add,Nat.mul_add,← Nat.add_assoc]
    congr 1
    rw [Nat.pow_add];ac_rfl
   ·show (r.set (k+j) _)[i]=0
    rw [get_set_ne hi (by exact F3 [_,_,_,_,_] [] 2006123104806345973252493969504 hLb hj2 hki)]
    exact g5 i (by simpa using hi) hki
  ·rw [iv_len,mod_len hB b (Nat.le_refl _),hLb] at hk
   revert t;refine pr4 fun r carry s6 s7 hk=>?_
   dsimp only at hk
   refine an6 hk fun g1 g2 gj g3 g4 g5=>?_;clear hk
   try dsimp only
   have hkLa:k<La:=F2 [_,_,_] [] 5218303165671520 hLa hk2
   have hr:k+Lb<r.length:=F2 [_,_,_,_] [] 87521216857410883889248 g1 hkLa
   have i1:(k:Int)+(Lb:Int)<(r.length:Int):=F1 [_,_,_] [] 104816943380702069033056 hr
   have i0:(0:Int)≤(k:Int)+(Lb:Int):=F0 [_,_] [] 1457277683717
   have tk:((k:Int)+(Lb:Int)).toNat=k+Lb:=by exact nAs (F1 [_,_,_] [] 80910328934711256290080 (iTn (F0 [_,_] [] 1457277683717))) (F1 [_,_,_] [] 82798814350415729136416 (iSt _))
   (simp! only [SS])
   (simp! only [hLb,i0,i1,tk,W_skip])
   refine ⟨(r.set (k+Lb) carry,_,_,_,_,_),by rw [iv_set],by simp [g1],lim_set g2 g3,by exact F1 [_,_] [] 77043182151776 hkLa,?_,fun i hi hki=>?_⟩
   ·show vl (2^w) (r.set (k+Lb) carry)=a%(2^w)^(k+1)*b
    rw [vl_set0 hr (g5 _ hr (Nat.le_refl _)),g4,h4,em,Nat.add_mul,Nat.mul_assoc]
   ·show (r.set (k+Lb) _)[i]=0
    rw [get_set_ne hi (by exact F1 [_,_,_] [] 119574254474599204159712 hki)]
    exact g5 i (by simpa using hi) (by exact F1 [_,_,_] [] 1293731473973559197920 hki)
 ·rw [iv_len,mod_len hB a (Nat.le_refl _)] at hk
  refine an5 hk fun h1 h2 _ h4 _=>?_;clear hk
  try dsimp only
  (simp! only [SS])
  (simp! only [SS])
  k_extra "mD";refine use1 (S:=normalS) rfl t.1 rfl trivial fun r hr=>?_
  have hr:r=nl (nrm t.1):=hr
  rw [hr,nrm_dg hB h2,h4];rfl
noncomputable def smallDS:Spec:={ X:=Nat×Nat×Nat,enc:=fun x=>[nl (dg (2^x.2.2) x.1),nl (dg (2^x.2.2) x.2.1),.int (x.2.2:Nat)],pre:=fun x=>3≤x.2.2∧x.2.2≤8∧x.1<2^32∧0<x.2.1∧x.2.1<2^x.2.2,post:=fun x r=>r=.tup [nl (dg (2^x.2.2) (x.1/x.2.1)),nl (dg (2^x.2.2) (x.1%x.2.1))] }
theorem w_divrem_small (a b w:Nat)(hw:3≤w)(hw2:w≤8)(ha:a<2^32)(h0:0<b)(hb:b<2^w):W ⟨[(133,divremLimbS)],[],none⟩ c_divrem_small [.val (nl (dg (2^w) a)),.val (nl (dg (2^w) b)),.val (.int (w:Nat)),.un,.un] fun f _ =>
  retV f (·=.tup [nl (dg (2^w) (a/b)),nl (dg (2^w) (a%b))]):=by
 have hB:=tLP (w:=w) (by exact F1 [_] [] 76969328783425 hw)
 (try dsimp only [c_divrem_small];simp! only [SS])
 (simp! only [SS])
 have e:dg (2^w) b=[b]:=dg_limb hB h0 hb
 rw [e]
 refine ⟨_,iv_get' [b] (i:=0) (k:=0) rfl (by simp) rfl,?_⟩
 k_extra "mD";refine use1 (S:=divremLimbS) rfl (a,b,w) rfl ⟨by show 1≤w;exact F1 [_] [] 76969328783425 hw,by show w≤16;exact F1 [_] [] 310752875701604448 hw2,by show a<2^64;exact F1 [_] [] 406988599873183872333078915512993678916345952 ha,h0,hb⟩ fun r hr=>?_
 have hr:r=.tup [nl (dg (2^w) (a/b)),.int ((a%b:Nat))]:=hr
 subst hr
 (simp! only [SS])
 (simp! only [SS])
 (simp! only [SS])
 by_cases hz:0<a%b
 ·have hlt:a%b<2^w:=Nat.lt_trans (Nat.mod_lt _ h0) hb
  (simp! only [Int.natCast_pos.mpr hz])
  rw [dg_limb hB hz hlt];rfl
 ·have:a%b=0:=by exact nAs (F1 [_] [] 1170922088450 hz) (F0 [_] [] 71682)
  (simp! only [this,Int.natCast_zero,Int.lt_irrefl,dg_zero])
  rfl
end
section
structure GS where
 t0:Nat
 t1:Nat
 t2:Nat
 v1:Nat
 v2:Nat
 w:Nat
noncomputable def GS.Uu (x:GS):Nat:=(x.t2*2^x.w+x.t1)*2^x.w+x.t0
noncomputable def GS.Vv (x:GS):Nat:=x.v1*2^x.w+x.v2
def GS.pre (x:GS):Prop:=3≤x.w∧x.w≤8∧x.t0<2^x.w∧x.t1<2^x.w∧x.t2<2^x.w∧x.v1<2^x.w∧x.v2<2^x.w∧0<x.v1
def GS.post (x:GS)(r:V):Prop:=∃ g:Nat,r=.int (g:Nat)∧g<2^x.w∧g*x.Vv≤x.Uu∧∀ q,q<2^x.w→q*x.Vv≤x.Uu→q≤g
noncomputable def guessS:Spec:={ X:=GS,enc:=fun x=>[nl [x.t0,x.t1,x.t2],.int (x.v1:Nat),.int (x.v2:Nat),.int (x.w:Nat)],pre:=GS.pre,post:=GS.post }
theorem w_guess (Γ:Gam)(x:GS)(h:x.pre):W Γ c_guessed_limb [.val (nl [x.t0,x.t1,x.t2]),.val (.int (x.v1:Nat)),.val (.int (x.v2:Nat)),.val (.int (x.w:Nat)),.un,.un,.un,.un] fun f _=>retV f x.post:=by
 obtain ⟨t0,t1,t2,v1,v2,w⟩:=x
 refine an8 h fun hw hw2 h0 h1 h2 h3 h4 h5=>?_;clear h
 dsimp only at hw hw2 h0 h1 h2 h3 h4 h5
 have hp8:2^w≤2^8:=Nat.pow_le_pow_right (by exact F0 [] [] 73986) hw2
 have bw:(w:Int)≤1000:=F1 [_] [] 100073154822517370654816 hw2
 have t2b:(t2:Int).natAbs<2^64:=F2 [_,_] [] 406988599873183872333078890423020228433682528 h2 hp8
 have mm:∀ x y:Nat,(x:Int)*(y:Int)=((x*y:Nat):Int):=fun x y=>(Int.natCast_mul x y).symm
 have vn:(v1:Int)≠0:=F1 [_] [] 111537289242626 h5
 have v64:(v1:Int).natAbs<2^64:=F2 [_,_] [] 406988599873183872333078890423020228433682528 h3 hp8
 have v264:(v2:Int).natAbs<2^64:=F2 [_,_] [] 406988599873183872333078890423020228433682528 h4 hp8
 (try dsimp only [c_guessed_limb];simp! only [SS])
 (simp! only [SS])
 refine ⟨_,iv_get' [t0,t1,t2] (i:=2) (k:=2) (d:=t2) rfl (by simp) rfl,?_⟩
 (simp! only [bw,t2b])
 refine ⟨_,iv_get' [t0,t1,t2] (i:=1) (k:=1) (d:=t1) rfl (by simp) rfl,?_⟩
 (simp! only [SS])
 rw [or_low t2 t1 w h1]
 (simp! only [SS])
 generalize hH:t2*2^w+t1=H
 have hH2:H<2^16:=by
  have:t2*2^w≤(2^8-1)*2^8:=Nat.mul_le_mul (by exact F3 [_,_,_] [] 363634648200827998774237376017334401 h2 hp8 sb1) hp8
  exact F5 [_,_,_,_,_] [] 32244959250695239440393133380912760305052495914536700798856845186667151584 h1 hp8 hH this (nSc (F0 [] [] 18320728131))
 have mn:min ((H/v1:Nat):Int) (((2^w:Nat):Int)-1)=((min (H/v1) (2^w-1):Nat):Int):=mnc Nat.one_le_two_pow
 (simp! only [vn,v64,ne_eq,not_false_eq_true,mn])
 have g1:min (H/v1) (2^w-1)<2^w:=by have:=Nat.one_le_two_pow (n:=w);exact F2 [_,_] [_] 87402262214461265332272 mn (Int.min_le_right _ _)
 have g2:min (H/v1) (2^w-1)*v1≤H:=Nat.le_trans (Nat.mul_le_mul_right _ (Nat.min_le_left _ _)) (Nat.div_mul_le_self _ _)
 have g3:∀ q,q<2^w→q*(v1*2^w+v2)≤H*2^w+t0→q≤min (H/v1) (2^w-1):=fun q hq hle=>by
  refine Nat.le_min.mpr ⟨?_,by exact F2 [_,_,_] [] 20203792278992468064 hq sb1⟩
  rw [Nat.le_div_iff_mul_le h5]
  rcases Nat.lt_or_ge H (q*v1) with z | z
  ·have:(H+1)*2^w≤q*v1*2^w:=Nat.mul_le_mul_right _ z
   rw [Nat.mul_add,← Nat.mul_assoc] at hle
   rw [Nat.add_mul] at this
   exact F3 [_,_,_,_,_,_,_] [] 34925524861776501200125868362091073760 h0 hle this
  ·exact z
 generalize hg:min (H/v1) (2^w-1)=g at *
 have g64:(g:Int).natAbs<2^64:=F2 [_,_] [] 406988599873183872333078890404598925754706016 hp8 g1
 (simp! only [SS])
 have er:(H:Int)-((g*v1:Nat):Int)=((H-g*v1:Nat):Int):=by exact iAs (F1 [_,_,_] [] 100093441995124349479008 sb1) (F1 [_,_,_] [] 100217146869689002526816 (nSc g2))
 (simp! only [g64,v64,mm,er])
 (simp! only [SS])
 k_extra "mD";refine W_while (fun t:Nat×Nat=>[.val (.lst (iv [t0,t1,t2])),.val (.int (v1:Nat)),.val (.int (v2:Nat)),.val (.int (w:Nat)),.val (.int (H:Nat)),.val (.int ((2^w:Nat):Int)),.val (.int (t.1:Nat)),.val (.int (t.2:Nat))])
  (fun t=>t.1<2^w∧t.1*v1+t.2=H∧∀ q,q<2^w→q*(v1*2^w+v2)≤H*2^w+t0→q≤t.1) (fun t=>t.1) (g,H-g*v1) rfl ⟨g1,by show g*v1+(H-g*v1)=H;exact nAs (F1 [_,_,_] [] 82651258706893695226656 er) (F1 [_,_,_] [] 80910328934665823589152 er),g3⟩ ?_
 refine fun Rq hq=>pr2 fun u r zh=>an3 zh fun p1 p2 p3 N hN=>?_;clear zh
 dsimp only at p1 p2 p3
 have u64:(u:Int).natAbs<2^64:=F2 [_,_] [] 406988599873183872333078890404598925754706016 hp8 p1
 have ev:u*(v1*2^w+v2)+r*2^w=H*2^w+u*v2:=by rw [← p2,Nat.mul_add,Nat.add_mul,Nat.mul_assoc];exact nAs (F0 [_,_,_] [] 19753106995960907872) (F0 [_,_,_] [] 19753106995960907872)
 have done:u*v2≤r*2^w+t0→retV (.ret (.int (u:Nat))) (GS.post ⟨t0,t1,t2,v1,v2,w⟩):=fun hle =>
  ⟨u,rfl,p1,by show u*(v1*2^w+v2)≤(t2*2^w+t1)*2^w+t0;rw [hH];exact F2 [_,_,_,_,_] [] 1357450985729613124640864086112 ev hle,fun q hq hle=>p3 q hq (by rw [← hH];exact hle)⟩
 (simp! only [SS])
 by_cases hr:r<2^w
 ·have hr':(r:Int)<((2^w:Nat):Int):=F1 [_,_] [] 97617300236384 hr
  have r64:(r:Int).natAbs<2^64:=F2 [_,_] [] 406988599873183872333078890404598925754706016 hp8 hr
  (simp! only [hr',u64,v264,bw,r64,mm])
  refine ⟨_,iv_get' [t0,t1,t2] (i:=0) (k:=0) (d:=t0) rfl (by simp) rfl,?_⟩
  (simp! only [SS])
  rw [or_low r t0 w h0]
  by_cases hc:r*2^w+t0<u*v2
  ·have hc':((r*2^w+t0:Nat):Int)<((u*v2:Nat):Int):=Int.ofNat_lt.mpr hc
   have u0:0<u:=by
    rcases Nat.eq_zero_or_pos u with z | z
    ·subst z;rw [Nat.zero_mul] at hc;lia
    ·exact z
   (simp! only [hc'])
   (simp! only [SS])
   (simp! only [SS])
   (simp! only [SS])
   (simp! only [W_skip])
   refine ⟨(u-1,r+v1),by rw [show (u:Int)-1=((u-1:Nat):Int) by exact iAs (F1 [_,_] [] 1563960003294931204192 sb1) (F1 [_,_] [] 1565779013341731389664 (nSc (F1 [_] [] 18791344130 u0)))];rfl,by show u-1<u;exact F1 [_,_] [] 81467267121376 (nSc (F1 [_] [] 18791344130 u0)),by show u-1<2^w;exact F2 [_,_,_] [] 5218302091925600 p1 sb0,?_,fun q hq hle=>?_⟩
   ·show (u-1)*v1+(r+v1)=H
    obtain ⟨z,rfl⟩:∃ z,u=z+1:=⟨u-1,by exact nAs (sb1) (F1 [_,_] [] 315568874110353632 (nSc (F1 [_] [] 18791344130 u0)))⟩
    rw [Nat.add_mul] at p2
    rw [Nat.add_sub_cancel];exact nAs (F1 [_,_,_,_] [] 21724437232158261407813865696 p2) (F1 [_,_,_,_] [] 21202299408782271301600809184 p2)
   ·have:=p3 q hq hle
    have:q≠u:=fun e=>by rw [e] at hle;exact F3 [_,_,_,_,_] [] 8575983833069652055316120828258400 ev hc hle
    show q≤u-1
    lia
  ·have hc':¬((r*2^w+t0:Nat):Int)<((u*v2:Nat):Int):=fun z=>hc (Int.ofNat_lt.mp z)
   (simp! only [hc'])
   (simp! only [SS])
   (simp! only [SS])
   exact done (by exact F1 [_,_,_] [] 19753212541728753760 hc)
 ·have hr':¬(r:Int)<((2^w:Nat):Int):=F1 [_,_] [] 456607469953951840 hr
  (simp! only [hr'])
  (simp! only [SS])
  (simp! only [SS])
  refine done ?_
  have a1:u*v2≤2^w*2^w:=Nat.mul_le_mul (by exact F1 [_,_] [] 18815723616 p1) (by exact F1 [_,_] [] 18815723616 h4)
  have a2:2^w*2^w≤r*2^w:=Nat.mul_le_mul_right _ (by exact F1 [_,_] [] 1203151120480 hr)
  exact F2 [_,_,_,_] [] 19753779881373669472 a1 a2
structure TA where
 l:List Nat
 d:Nat
 q:Nat
 at_:Nat
 w:Nat
noncomputable def TA.n (x:TA):Nat:=(dg (2^x.w) x.d).length
def TA.pre (x:TA):Prop:=3≤x.w∧x.w≤8∧Lim (2^x.w) x.l∧x.l.length≤1000∧x.at_+x.n<x.l.length∧x.q<2^x.w∧x.d<2^32
def TA.post (x:TA)(r:V)(l':List V):Prop:=∃ (k:List Nat) (bo:Nat),r=.int (bo:Nat)∧bo≤1∧l'=iv k∧k.length=x.l.length∧Lim (2^x.w) k∧vl (2^x.w) k+x.q*x.d*(2^x.w)^x.at_=vl (2^x.w) x.l+bo*(2^x.w)^(x.at_+x.n+1)∧k.drop (x.at_+x.n+1)=x.l.drop (x.at_+x.n+1)
noncomputable def takeS:SpecB:={ X:=TA,enc:=fun x=>(iv x.l,[nl (dg (2^x.w) x.d),.int (x.q:Nat),.int (x.at_:Nat),.int (x.w:Nat)]),pre:=TA.pre,post:=TA.post }
theorem drop_set_lt {l:List Nat}{i k v:Nat}(h:i<k):(l.set i v).drop k=l.drop k:=by
 rw [List.drop_set];rw [if_pos h]
theorem col_sub {B:Nat}{l:List Nat}{i c carry p T S bo d:Nat}(h:i<l.length)(hT:vl B l+S=T+B^i*carry)(hc:c=p+carry)(hd:l[i]+B*bo=d+c%B) :
  vl B (l.set i d)+(S+B^i*p)=T+B^(i+1)*(c/B+bo):=by
 have h1:=vl_set B l i d h
 have e:B^(i+1)*(c/B+bo)=B^i*(B*(c/B))+B^i*(B*bo):=by rw [Nat.pow_succ,Nat.mul_assoc,Nat.mul_add,Nat.mul_add]
 have e2:B^i*(c%B)+B^i*(B*(c/B))=B^i*p+B^i*carry:=by rw [← Nat.mul_add,Nat.mod_add_div,hc,Nat.mul_add]
 have e3:B^i*l[i]+B^i*(B*bo)=B^i*d+B^i*(c%B):=by rw [← Nat.mul_add,hd,Nat.mul_add]
 exact nAs (F5 [_,_,_,_,_,_,_,_,_,_,_,_] [] 1937559658694886940939957359204888760571794754339684432569036258412484659296 hT h1 e e2 e3) (F5 [_,_,_,_,_,_,_,_,_,_,_,_] [] 1936701486474749315035358913322617728600929481774343612372468768700593899616 hT h1 e e2 e3)
theorem w_take_away (Γ:Gam)(x:TA)(h:x.pre):W Γ c_take_away [.bor (iv x.l),.val (nl (dg (2^x.w) x.d)),.val (.int (x.q:Nat)),.val (.int (x.at_:Nat)),.val (.int (x.w:Nat)),.un,.un,.un,.un,.un] fun f σ=>∃ l',σ[0]?=some (.bor l')∧retV f fun r=>x.post r l':=by
 obtain ⟨l,d,q,at_,w⟩:=x
 refine an7 h fun hw hw2 hl hll hat hq hd=>?_;clear h
 dsimp only [TA.n] at hw hw2 hl hll hat hq hd
 have hB:=tLP (w:=w) (by exact F1 [_] [] 76969328783425 hw)
 have hp8:2^w≤2^8:=Nat.pow_le_pow_right (by exact F0 [] [] 73986) hw2
 have bw:(w:Int)≤1000:=F1 [_] [] 100073154822517370654816 hw2
 have q64:(q:Int).natAbs<2^64:=F2 [_,_] [] 406988599873183872333078890423020228433682528 hq hp8
 have p0:((2^w:Nat):Int)≠0:=F1 [_] [] 111537289238532 hB
 have p64:((2^w:Nat):Int).natAbs<2^64:=by rw [Int.natAbs_natCast];exact F1 [_] [] 24258410923074714680497581690250600544 hp8
 have mm:∀ x y:Nat,(x:Int)*(y:Int)=((x*y:Nat):Int):=fun x y=>(Int.natCast_mul x y).symm
 have aa:∀ x y:Nat,(x:Int)+(y:Int)=((x+y:Nat):Int):=fun x y=>(Int.natCast_add x y).symm
 try dsimp only
 (try dsimp only [c_take_away];simp! only [SS])
 (simp! only [bw])
 (simp! only [SS])
 generalize hn:(dg (2^w) d).length=n at *
 k_extra "mD";refine W_for2 (fun t:List Nat×Nat×Slot×Slot×Slot=>[.bor (iv t.1),.val (.lst (iv (dg (2^w) d))),.val (.int (q:Nat)),.val (.int (at_:Nat)),.val (.int (w:Nat)),.val (.int (t.2.1:Nat)),.val (.int ((2^w:Nat):Int)),t.2.2.1,t.2.2.2.1,t.2.2.2.2])
  (fun j t=>t.1.length=l.length∧Lim (2^w) t.1∧j≤n∧t.2.1≤2^w∧vl (2^w) t.1+q*(d%(2^w)^j)*(2^w)^at_=vl (2^w) l+(2^w)^(at_+j)*t.2.1∧t.1.drop (at_+n+1)=l.drop (at_+n+1)) (l:=iv (dg (2^w) d)) (l,0,.un,.un,.un) (fun R h=>?_) ?_ (fun Rq hq j v t hv hk N hN=>?_) (fun t hk=>?_)
 ·(simp! only [SS]);exact h
 ·exact ⟨rfl,hl,Nat.zero_le _,Nat.zero_le _,by simp [Nat.mod_one],rfl⟩
 ·revert t;refine pr5 fun r carry s1 s2 s3 hk=>?_
  dsimp only at hk
  refine an6 hk fun k1 k2 kj k3 k4 k5=>?_;clear hk
  refine x1a2 (iv_at hB hv) fun hj2 zq1 eb=>?_;subst zq1
  have em:=mod_pow_succ' (B:=2^w) d j
  have hy0:d/(2^w)^j%2^w<2^w:=Nat.mod_lt _ (by exact F1 [_] [] 19864819716 hB)
  generalize hyk:d/(2^w)^j%2^w=yk at *
  have y64:(yk:Int).natAbs<2^64:=F2 [_,_] [] 406988599873183872333078890404598925754706016 hp8 hy0
  have hr:at_+j<r.length:=F4 [_,_,_,_,_,_] [] 6014408589124945184357759136114784 hn hat k1 hj2
  have hrl:r[at_+j]<2^w:=k2 _ (List.getElem_mem hr)
  have hcb:q*yk+carry<2^w*2^w:=by
   have:q*yk≤(2^w-1)*(2^w-1):=Nat.mul_le_mul (by lia) (by exact F2 [_,_,_] [] 20203792278992468064 hy0 sb1)
   have e:2^w*2^w=(2^w-1)*(2^w-1)+2*(2^w-1)+1:=by
    obtain ⟨z,hz⟩:∃ z,2^w=z+1:=⟨2^w-1,by exact nAs (sb1) (F1 [_,_] [] 315568874110353632 (nSc (F1 [_] [] 18791340036 hB)))⟩
    rw [hz];simp only [Nat.add_sub_cancel,Nat.add_mul,Nat.mul_add];exact nAs (F0 [_,_] [] 22764044302289431870466628285945483488) (F0 [_,_] [] 22765671453241016065950285679953318176)
   exact F5 [_,_,_,_,_,_] [] 443785480665993582989547779036137516085219141949077600 hB k3 this e sb1
  have hcd:(q*yk+carry)/2^w<2^w:=by rw [Nat.div_lt_iff_lt_mul (by exact F1 [_] [] 19864819716 hB)];exact hcb
  have hcm:(q*yk+carry)%2^w<2^w:=Nat.mod_lt _ (by exact F1 [_] [] 19864819716 hB)
  (simp! only [SS])
  (simp! only [SS])
  refine ⟨_,iv_get r (k:=at_+j) (by exact iAs (F0 [_,_] [] 381717555115594528) (F0 [_,_] [] 382016601122179168)) hr,?_⟩
  (simp! only [q64,y64,mm,aa,p0,ne_eq,not_false_eq_true])
  (simp! only [SS])
  (simp! only [q64,y64,mm,aa,p0,p64,ne_eq,not_false_eq_true])
  have i0:(0:Int)≤((at_+j:Nat):Int):=Int.natCast_nonneg _
  have i1:((at_+j:Nat):Int)<(r.length:Int):=F1 [_,_,_] [] 1637764441277551118432 hr
  have tk:((at_+j:Nat):Int).toNat=at_+j:=Int.toNat_natCast _
  by_cases hneg:r[at_+j]<(q*yk+carry)%2^w
  ·have hneg':((r[at_+j]:Nat):Int)-(((q*yk+carry)%2^w:Nat):Int)<0:=F1 [_,_] [] 397786575020304480 hneg
   (simp! only [hneg'])
   (simp! only [SS])
   have ed:((r[at_+j]:Nat):Int)-(((q*yk+carry)%2^w:Nat):Int)+((2^w:Nat):Int)=((r[at_+j]+2^w-(q*yk+carry)%2^w:Nat):Int):=by exact iAs (F1 [_,_,_,_] [] 107475733570911664077391796930656 sb1) (F1 [_,_,_,_] [] 107528153101145302600799949981792 (nSc (F1 [_,_,_] [] 75352558872672 hcm)))
   have cl:=col_sub (B:=2^w) (l:=r) (i:=at_+j) (bo:=1) (d:=r[at_+j]+2^w-(q*yk+carry)%2^w) (p:=q*yk) hr k4 rfl (by exact nAs (F1 [_,_,_,_] [] 355842447753229093146348160644420384 ed) (F1 [_,_,_,_] [] 355718250627239107124957973344031520 ed))
   (simp! only [hneg',ed,aa,i1,tk,W_skip])
   refine ⟨(r.set (at_+j) (r[at_+j]+2^w-(q*yk+carry)%2^w),(q*yk+carry)/2^w+1,.val (.int (j:Nat)),.val (.int (yk:Nat)),.val (.int (((r[at_+j]:Nat):Int)-(((q*yk+carry)%2^w:Nat):Int)))),by rw [iv_set];rfl,by simp [k1],lim_set k2 (by exact F2 [_,_,_,_] [] 1468879483444806838885444358944 hneg ed),by exact F2 [_,_,_] [] 20214422341595506784 hn hj2,by show (q*yk+carry)/2^w+1≤2^w;exact F1 [_,_] [] 77043182151776 hcd,?_,?_⟩
   ·show vl (2^w) (r.set (at_+j) _)+q*(d%(2^w)^(j+1))*(2^w)^at_=vl (2^w) l+(2^w)^(at_+j+1)*((q*yk+carry)/2^w+1)
    rw [← cl,em,Nat.mul_add,Nat.add_mul]
    congr 2
    rw [Nat.pow_add];ac_rfl
   ·show (r.set (at_+j) _).drop _=_
    rw [drop_set_lt (by exact F2 [_,_,_,_] [] 350603284915731496234723424 hn hj2)];exact k5
  ·have hneg':¬((r[at_+j]:Nat):Int)-(((q*yk+carry)%2^w:Nat):Int)<0:=F1 [_,_] [] 1870132748172256421984 hneg
   (simp! only [hneg'])
   (simp! only [SS])
   have ed:((r[at_+j]:Nat):Int)-(((q*yk+carry)%2^w:Nat):Int)=((r[at_+j]-(q*yk+carry)%2^w:Nat):Int):=by exact iAs (F1 [_,_,_] [] 100093441995124349479008 sb1) (F1 [_,_,_] [] 100217146869689002526816 (nSc (F1 [_,_] [] 1203151120480 hneg)))
   have nn:¬((r[at_+j]-(q*yk+carry)%2^w:Nat):Int)<0:=F0 [_] [] 425218848
   have cl:=col_sub (B:=2^w) (l:=r) (i:=at_+j) (bo:=0) (d:=r[at_+j]-(q*yk+carry)%2^w) (p:=q*yk) hr k4 rfl (by exact nAs (F1 [_,_,_,_] [] 1357430910204960135625124746016 ed) (F1 [_,_,_,_] [] 1356957140491548760828961493792 ed))
   (simp! only [ed,nn,aa,i1,tk,W_skip])
   refine ⟨(r.set (at_+j) (r[at_+j]-(q*yk+carry)%2^w),(q*yk+carry)/2^w+0,.val (.int (j:Nat)),.val (.int (yk:Nat)),.val (.int ((r[at_+j]-(q*yk+carry)%2^w:Nat):Int))),by rw [iv_set];rfl,by simp [k1],lim_set k2 (by exact F2 [_,_,_,_] [] 5607979164564937872904992 hrl ed),by exact F2 [_,_,_] [] 20214422341595506784 hn hj2,by show (q*yk+carry)/2^w+0≤2^w;exact F1 [_,_] [] 77043165374560 hcd,?_,?_⟩
   ·show vl (2^w) (r.set (at_+j) _)+q*(d%(2^w)^(j+1))*(2^w)^at_=vl (2^w) l+(2^w)^(at_+j+1)*((q*yk+carry)/2^w+0)
    rw [← cl,em,Nat.mul_add,Nat.add_mul]
    congr 2
    rw [Nat.pow_add];ac_rfl
   ·show (r.set (at_+j) _).drop _=_
    rw [drop_set_lt (by exact F2 [_,_,_,_] [] 350603284915731496234723424 hn hj2)];exact k5
 ·rw [iv_len,mod_len hB d (Nat.le_refl _),hn] at hk
  revert t;refine pr5 fun r carry s1 s2 s3 hk=>?_
  dsimp only at hk
  refine an6 hk fun k1 k2 kj k3 k4 k5=>?_;clear hk
  try dsimp only
  have hr:at_+n<r.length:=F2 [_,_,_,_] [] 87373643460664097327200 hat k1
  have hrl:r[at_+n]<2^w:=k2 _ (List.getElem_mem hr)
  have i0:(0:Int)≤((at_+n:Nat):Int):=Int.natCast_nonneg _
  have i1:((at_+n:Nat):Int)<(r.length:Int):=F1 [_,_,_] [] 1637764441277551118432 hr
  have tk:((at_+n:Nat):Int).toNat=at_+n:=Int.toNat_natCast _
  (simp! only [SS])
  (simp! only [hn])
  refine ⟨_,iv_get r (k:=at_+n) (by exact iAs (F0 [_,_] [] 381717555115594528) (F0 [_,_] [] 382016601122179168)) hr,?_⟩
  (simp! only [SS])
  (simp! only [SS])
  have fin:∀ (bo dd:Nat),r[at_+n]+2^w*bo=dd+carry→dd<2^w→bo≤1→TA.post ⟨l,d,q,at_,w⟩ (.int (bo:Nat)) (iv (r.set (at_+n) dd)):=fun bo dd e1 e2 e3=>by
   refine ⟨r.set (at_+n) dd,bo,rfl,e3,rfl,by simp [k1],lim_set k2 e2,?_,?_⟩
   ·show vl (2^w) (r.set (at_+n) dd)+q*d*(2^w)^at_=vl (2^w) l+bo*(2^w)^(at_+(dg (2^w) d).length+1)
    rw [hn]
    have h1:=vl_set (2^w) r (at_+n) dd hr
    have e4:(2^w)^(at_+n)*r[at_+n]+(2^w)^(at_+n)*(2^w*bo)=(2^w)^(at_+n)*dd+(2^w)^(at_+n)*carry:=by rw [← Nat.mul_add,e1,Nat.mul_add]
    have e5:bo*(2^w)^(at_+n+1)=(2^w)^(at_+n)*(2^w*bo):=by rw [Nat.pow_succ];ac_rfl
    exact nAs (F4 [_,_,_,_,_,_,_,_,_] [] 26256193386248607859652263235619714210458963808262637664 k4 h1 e4 e5) (F4 [_,_,_,_,_,_,_,_,_] [] 26258794849239573702644265616853303572749763823710845024 k4 h1 e4 e5)
   ·show (r.set (at_+n) dd).drop (at_+(dg (2^w) d).length+1)=l.drop (at_+(dg (2^w) d).length+1)
    rw [hn,drop_set_lt (by exact F0 [_,_] [] 5101949263317088)];exact k5
  by_cases hneg:r[at_+n]<carry
  ·have hneg':((r[at_+n]:Nat):Int)-(carry:Int)<0:=F1 [_,_] [] 397786575020304480 hneg
   have ed:((r[at_+n]:Nat):Int)-(carry:Int)+((2^w:Nat):Int)=((r[at_+n]+2^w-carry:Nat):Int):=by exact iAs (F1 [_,_,_,_] [] 107475733570911664077391796930656 sb1) (F1 [_,_,_,_] [] 107528153101145302600799949981792 (nSc (F1 [_,_,_] [] 75352558868576 k3)))
   (simp! only [hn,hneg',ed,aa,i1,tk])
   (simp! only [SS])
   (simp! only [hneg'])
   rw [iv_set]
   exact ⟨_,rfl,fin 1 _ (by exact nAs (F1 [_,_,_,_] [] 355842447753229093146348160644420384 ed) (F1 [_,_,_,_] [] 355718250627239107124957973344031520 ed)) (by exact F2 [_,_,_,_] [] 1468879483444806838885444358944 hneg ed) (Nat.le_refl _)⟩
  ·have hneg':¬((r[at_+n]:Nat):Int)-(carry:Int)<0:=F1 [_,_] [] 1870132748172256421984 hneg
   have ed:((r[at_+n]:Nat):Int)-(carry:Int)=((r[at_+n]-carry:Nat):Int):=by exact iAs (F1 [_,_,_] [] 100093441995124349479008 sb1) (F1 [_,_,_] [] 100217146869689002526816 (nSc (F1 [_,_] [] 1203151120480 hneg)))
   have nn:¬((r[at_+n]-carry:Nat):Int)<0:=F0 [_] [] 425218848
   (simp! only [hn,ed,nn,aa,i1,tk])
   (simp! only [SS])
   (simp! only [nn])
   rw [iv_set]
   exact ⟨_,rfl,fin 0 _ (by exact nAs (F1 [_,_,_,_] [] 1357430910204960135625124746016 ed) (F1 [_,_,_,_] [] 1356957140491548760828961493792 ed)) (by exact F2 [_,_,_,_] [] 5607979164564937872904992 hrl ed) (Nat.zero_le _)⟩
end
section
structure PB where
 l:List Nat
 d:Nat
 at_:Nat
 w:Nat
noncomputable def PB.n (x:PB):Nat:=(dg (2^x.w) x.d).length
def PB.pre (x:PB):Prop:=3≤x.w∧x.w≤8∧Lim (2^x.w) x.l∧x.l.length≤1000∧x.at_+x.n<x.l.length∧x.d<2^32
def PB.post (x:PB)(r:V)(l':List V):Prop:=∃ (k:List Nat) (bo:Nat),r=.none∧l'=iv k∧k.length=x.l.length∧Lim (2^x.w) k∧vl (2^x.w) k+bo*(2^x.w)^(x.at_+x.n+1)=vl (2^x.w) x.l+x.d*(2^x.w)^x.at_∧k.drop (x.at_+x.n+1)=x.l.drop (x.at_+x.n+1)
noncomputable def putS:SpecB:={ X:=PB,enc:=fun x=>(iv x.l,[nl (dg (2^x.w) x.d),.int (x.at_:Nat),.int (x.w:Nat)]),pre:=PB.pre,post:=PB.post }
theorem w_put_back (Γ:Gam)(x:PB)(h:x.pre):W Γ c_put_back [.bor (iv x.l),.val (nl (dg (2^x.w) x.d)),.val (.int (x.at_:Nat)),.val (.int (x.w:Nat)),.un,.un,.un,.un] fun f σ=>∃ l',σ[0]?=some (.bor l')∧retV f fun r=>x.post r l':=by
 obtain ⟨l,d,at_,w⟩:=x
 refine an6 h fun hw hw2 hl hll hat hd=>?_;clear h
 dsimp only [PB.n] at hw hw2 hl hll hat hd
 have hB:=tLP (w:=w) (by exact F1 [_] [] 76969328783425 hw)
 have hp8:2^w≤2^8:=Nat.pow_le_pow_right (by exact F0 [] [] 73986) hw2
 have bw:(w:Int)≤1000:=F1 [_] [] 100073154822517370654816 hw2
 have aa:∀ x y:Nat,(x:Int)+(y:Int)=((x+y:Nat):Int):=fun x y=>(Int.natCast_add x y).symm
 try dsimp only
 (try dsimp only [c_put_back];simp! only [SS])
 (simp! only [bw])
 (simp! only [SS])
 generalize hn:(dg (2^w) d).length=n at *
 k_extra "mD";refine W_for2 (fun t:List Nat×Nat×Slot×Slot=>[.bor (iv t.1),.val (.lst (iv (dg (2^w) d))),.val (.int (at_:Nat)),.val (.int (w:Nat)),.val (.int (t.2.1:Nat)),.val (.int (((2^w:Nat):Int)-1)),t.2.2.1,t.2.2.2])
  (fun j t=>t.1.length=l.length∧Lim (2^w) t.1∧j≤n∧t.2.1≤1∧vl (2^w) t.1+(2^w)^(at_+j)*t.2.1=vl (2^w) l+d%(2^w)^j*(2^w)^at_∧t.1.drop (at_+n+1)=l.drop (at_+n+1)) (l:=iv (dg (2^w) d)) (l,0,.un,.un) (fun R h=>?_) ?_ (fun Rq hq j v t hv hk N hN=>?_) (fun t hk=>?_)
 ·(simp! only [SS]);exact h
 ·exact ⟨rfl,hl,Nat.zero_le _,Nat.zero_le _,by simp [Nat.mod_one],rfl⟩
 ·revert t;refine pr4 fun r carry s1 s2 hk=>?_
  dsimp only at hk
  refine an6 hk fun k1 k2 kj k3 k4 k5=>?_;clear hk
  refine x1a2 (iv_at hB hv) fun hj2 zq1 eb=>?_;subst zq1
  have em:=mod_pow_succ' (B:=2^w) d j
  have hy0:d/(2^w)^j%2^w<2^w:=Nat.mod_lt _ (by exact F1 [_] [] 19864819716 hB)
  generalize hyk:d/(2^w)^j%2^w=yk at *
  have hr:at_+j<r.length:=F4 [_,_,_,_,_,_] [] 6014408589124945184357759136114784 hn hat k1 hj2
  have hrl:r[at_+j]<2^w:=k2 _ (List.getElem_mem hr)
  have i0:(0:Int)≤((at_+j:Nat):Int):=Int.natCast_nonneg _
  have i1:((at_+j:Nat):Int)<(r.length:Int):=F1 [_,_,_] [] 1637764441277551118432 hr
  have tk:((at_+j:Nat):Int).toNat=at_+j:=Int.toNat_natCast _
  (simp! only [SS])
  (simp! only [SS])
  refine ⟨_,iv_get r (k:=at_+j) (by exact iAs (F0 [_,_] [] 381717555115594528) (F0 [_,_] [] 382016601122179168)) hr,?_⟩
  have cs:(carry:Int)+((r[at_+j]:Int)+(yk:Int))=((carry+r[at_+j]+yk:Nat):Int):=by exact iAs (F0 [_,_,_] [] 409866150365328740224996128) (F0 [_,_,_] [] 410190399937103392552814688)
  (simp! only [SS])
  rw [cs]
  (simp! only [SS])
  (simp! only [aa,i1,tk])
  (simp! only [SS])
  (simp! only [W_skip])
  have cl:=col_set (B:=2^w) (l:=r) (i:=at_+j) (carry:=carry) (p:=yk) hr k4 rfl
  refine ⟨(r.set (at_+j) ((carry+r[at_+j]+yk)%2^w),(carry+r[at_+j]+yk)/2^w,.val (.int (j:Nat)),.val (.int (yk:Nat))),by rw [iv_set],by simp [k1],lim_set k2 (Nat.mod_lt _ (by exact F1 [_] [] 19864819716 hB)),by exact F2 [_,_,_] [] 20214422341595506784 hn hj2,?_,?_,?_⟩
  ·have:(carry+r[at_+j]+yk)/2^w<2:=by rw [Nat.div_lt_iff_lt_mul (by exact F1 [_] [] 19864819716 hB)];exact F3 [_,_,_,_] [] 92024828650649693081417437227104 k3 hy0 hrl
   show (carry+r[at_+j]+yk)/2^w≤1;exact F1 [_] [] 18312405280 this
  ·show vl (2^w) (r.set (at_+j) ((carry+r[at_+j]+yk)%2^w))+(2^w)^(at_+j+1)*((carry+r[at_+j]+yk)/2^w)=_
   rw [cl,em,Nat.add_mul,Nat.add_assoc]
   congr 2
   rw [Nat.pow_add];ac_rfl
  ·show (r.set (at_+j) _).drop _=_
   rw [drop_set_lt (by exact F2 [_,_,_,_] [] 350603284915731496234723424 hn hj2)];exact k5
 ·rw [iv_len,mod_len hB d (Nat.le_refl _),hn] at hk
  revert t;refine pr4 fun r carry s1 s2 hk=>?_
  dsimp only at hk
  refine an6 hk fun k1 k2 kj k3 k4 k5=>?_;clear hk
  try dsimp only
  have hr:at_+n<r.length:=F2 [_,_,_,_] [] 87373643460664097327200 hat k1
  have hrl:r[at_+n]<2^w:=k2 _ (List.getElem_mem hr)
  have i0:(0:Int)≤((at_+n:Nat):Int):=Int.natCast_nonneg _
  have i1:((at_+n:Nat):Int)<(r.length:Int):=F1 [_,_,_] [] 1637764441277551118432 hr
  have tk:((at_+n:Nat):Int).toNat=at_+n:=Int.toNat_natCast _
  (simp! only [SS])
  (simp! only [hn])
  refine ⟨_,iv_get r (k:=at_+n) (by exact iAs (F0 [_,_] [] 381717555115594528) (F0 [_,_] [] 382016601122179168)) hr,?_⟩
  (simp! only [hn,aa,i1,tk,W_skip])
  rw [iv_set]
  have cl:=col_set (B:=2^w) (l:=r) (i:=at_+n) (c:=r[at_+n]+carry) (carry:=carry) (p:=0) hr k4 (by exact nAs (F0 [_,_] [] 4820405550614624) (F0 [_,_] [] 4822493567682656))
  refine ⟨_,rfl,r.set (at_+n) ((r[at_+n]+carry)%2^w),(r[at_+n]+carry)/2^w,rfl,rfl,by simp [k1],lim_set k2 (Nat.mod_lt _ (by exact F1 [_] [] 19864819716 hB)),?_,?_⟩
  ·show vl (2^w) _+_*(2^w)^(at_+(dg (2^w) d).length+1)=vl (2^w) l+d*(2^w)^at_
   rw [hn,Nat.mul_comm _ ((2^w)^(at_+n+1)),cl,Nat.mul_zero,Nat.add_zero]
  ·show (r.set (at_+n) _).drop (at_+(dg (2^w) d).length+1)=l.drop (at_+(dg (2^w) d).length+1)
   rw [hn,drop_set_lt (by exact F0 [_,_] [] 5101949263317088)];exact k5
theorem guess_near {B P R D U V0 g:Nat}(hB:2≤B)(hP:0<P)(hU:U=R/P)(hV:V0=D/P)(hVB:B≤V0)(hR:R<D*B)(g1:g*V0≤U)(g2:∀ q,q<B→q*V0≤U→q≤g):R/D=g∨R/D+1=g:=by
 have hD:0<D:=by
  rcases Nat.eq_zero_or_pos D with z | z
  ·rw [z] at hV;simp at hV;lia
  ·exact z
 have hq:R/D<B:=by rw [Nat.div_lt_iff_lt_mul hD,Nat.mul_comm];exact hR
 have q1:R/D*D≤R:=Nat.div_mul_le_self _ _
 have le1:R/D≤g:=by
  refine g2 _ hq ?_
  rw [hU,Nat.le_div_iff_mul_le hP,Nat.mul_assoc]
  refine Nat.le_trans (Nat.mul_le_mul_left _ ?_) q1
  rw [hV];exact Nat.div_mul_le_self _ _
 have a7:R<(R/D+1)*D:=by
  have:=Nat.lt_mul_div_succ R hD
  rw [Nat.mul_comm] at this;exact this
 have a1:U*P≤R:=by rw [hU];exact Nat.div_mul_le_self _ _
 have a4:D<(V0+1)*P:=by
  have:=Nat.lt_mul_div_succ D hP
  rw [← hV,Nat.mul_comm] at this;exact this
 generalize R/D=q at *
 have lt2:g<q+2:=by
  rcases Nat.lt_or_ge g (q+2) with z | z
  ·exact z
  ·exfalso
   have a2:(q+2)*V0≤U:=Nat.le_trans (Nat.mul_le_mul_right _ z) g1
   have a3:(q+2)*V0*P≤R:=Nat.le_trans (Nat.mul_le_mul_right _ a2) a1
   have a5:(q+1)*D<(q+1)*((V0+1)*P):=Nat.mul_lt_mul_of_pos_left a4 (by exact F0 [_] [] 304101378)
   have a6:(q+1)*((V0+1)*P)≤(q+2)*V0*P:=by
    rw [← Nat.mul_assoc]
    refine Nat.mul_le_mul_right _ ?_
    have b1:(q+1)*(V0+1)=(q+1)*V0+(q+1):=by rw [Nat.mul_add,Nat.mul_one]
    have b2:(q+2)*V0=(q+1)*V0+V0:=by rw [show q+2=(q+1)+1 by exact nAs (F0 [_] [] 4820473783288096) (F0 [_] [] 4820568348852448),Nat.add_mul,Nat.one_mul]
    exact F4 [_,_,_,_,_,_] [] 23272937015775719785794757859737741408 hVB hq b1 b2
   exact F4 [_,_,_,_] [] 7986889722882275456653408 a7 a3 a5 a6
 lia
structure DR where
 l:List Nat
 d:Nat
 w:Nat
noncomputable def DR.n (x:DR):Nat:=(dg (2^x.w) x.d).length
def DR.pre (x:DR):Prop:=3≤x.w∧x.w≤8∧Lim (2^x.w) x.l∧x.l.length≤100∧2≤x.n∧x.n<x.l.length∧x.d<2^32∧vl (2^x.w) x.l<x.d*(2^x.w)^(x.l.length-x.n)
def DR.post (x:DR)(r:V)(l':List V):Prop:=∃ (qs k:List Nat),r=nl qs∧l'=iv k∧Lim (2^x.w) qs∧Lim (2^x.w) k∧vl (2^x.w) qs=vl (2^x.w) x.l/x.d∧vl (2^x.w) k=vl (2^x.w) x.l%x.d
noncomputable def rowsDS:SpecB:={ X:=DR,enc:=fun x=>(iv x.l,[nl (dg (2^x.w) x.d),.int (x.w:Nat)]),pre:=DR.pre,post:=DR.post }
theorem w_divide_rows (x:DR)(h:x.pre):W ⟨[(495,guessS)],[(502,takeS),(509,putS)],none⟩ c_divide_rows [.bor (iv x.l),.val (nl (dg (2^x.w) x.d)),.val (.int (x.w:Nat)),.un,.un,.un,.un] fun f σ=>∃ l',σ[0]?=some (.bor l')∧retV f fun r=>x.post r l':=by
 obtain ⟨l,D,w⟩:=x
 refine an8 h fun hw hw2 hl hll hn2 hnl hd hv=>?_;clear h
 dsimp only [DR.n] at hw hw2 hl hll hn2 hnl hd hv
 have hB:=tLP (w:=w) (by exact F1 [_] [] 76969328783425 hw)
 have hp8:2^w≤2^8:=Nat.pow_le_pow_right (by exact F0 [] [] 73986) hw2
 have bw:(w:Int)≤1000:=F1 [_] [] 100073154822517370654816 hw2
 have aa:∀ x y:Nat,(x:Int)+(y:Int)=((x+y:Nat):Int):=fun x y=>(Int.natCast_add x y).symm
 have hD0:0<D:=by
  rcases Nat.eq_zero_or_pos D with z | z
  ·rw [z,dg_zero] at hn2;simp at hn2
  ·exact z
 have hDlt:=dg_lt hB D
 have hDge:=top_le hB hD0
 have hmx:sMx=1048576:=rfl
 try dsimp only
 (try dsimp only [c_divide_rows];simp! only [SS])
 (simp! only [SS])
 generalize hn:(dg (2^w) D).length=n at *
 generalize hN:l.length=N at *
 have hNn:(N:Int)-(n:Int)=((N-n:Nat):Int):=by exact iAs (F1 [_,_,_] [] 100093441995124349479008 sb1) (F1 [_,_,_] [] 100217146869689002526816 (nSc (F1 [_,_] [] 18815723616 hnl)))
 have z1:(-1000:Int)≤((N-n:Nat):Int):=F0 [_] [] 5965966403862657
 have z2:((N-n:Nat):Int)≤1000:=F2 [_,_,_] [] 1802757691073955396157503963577009181472 hll hNn
 have zr:List.replicate ((N-n:Nat):Int).toNat (V.int 0)=iv (List.replicate (N-n) 0):=by rw [Int.toNat_natCast];exact iv_rep _ 0
 (simp! only [SS])
 (simp! only [hN,hNn,z1,z2])
 rw [zr]
 (simp! only [SS])
 generalize hM:N-n=M at *
 k_extra "mD";refine W_for1 (fun t:List Nat×List Nat×Slot×Slot=>[.bor (iv t.1),.val (.lst (iv (dg (2^w) D))),.val (.int (w:Nat)),.val (.int (n:Nat)),.own (iv t.2.1),t.2.2.1,t.2.2.2])
  (fun k t=>t.1.length=N∧Lim (2^w) t.1∧t.2.1.length=M∧Lim (2^w) t.2.1∧k≤M∧vl (2^w) t.1<D*(2^w)^(M-k)∧vl (2^w) l=vl (2^w) t.2.1*D+vl (2^w) t.1∧∀ i (h:i<t.2.1.length),i<M-k→t.2.1[i]=0) (vs:=rangeL ((M:Int)-1) (-1) (-1)) (l,List.replicate M 0,.un,.un) (fun R hR=>?_) ?_ (fun Rq2 hq2 k v t hv' hk N2 hN2=>?_) (fun t hk=>?_)
 ·(simp! only [hN,hNn])
  exact ⟨⟨by exact F2 [_,_] [] 26047270391883803442782668746426070504085525280 z2 (Int.natAbs_of_nonneg (F2 [_,_,_] [] 1681242417956421999169341887264 hnl hNn)),by exact F0 [] [] 21040817459074986051,by exact F0 [] [] 21040817459074986051,by exact F0 [] [] 425743302⟩,hR⟩
 ·exact ⟨hN,hl,by simp,lim_zeros hB _,Nat.zero_le _,hv,by show _=vl (2^w) (List.replicate M 0)*D+_;rw [vl_zeros];simp,fun i h _=>by simp⟩
 ·obtain ⟨rfl,hlt⟩:=rangeD_get hv'
  revert t;refine pr4 fun r qs s1 s2 hk=>?_
  dsimp only at hk
  refine an8 hk fun k1 k2 k3 k4 k5 k6 k7 k8=>?_;clear hk
  have hkM:k<M:=F1 [_,_] [] 87402226655216782148550 hlt
  have ei:(M:Int)-1-(k:Int)=((M-1-k:Nat):Int):=by exact iAs (F2 [_,_,_,_] [] 440220683973272308039450045523703904 sb1 sb1) (F2 [_,_,_,_] [] 440759833533643418460085418924998880 (nSc (F2 [_,_,_] [] 88857289972148305867771471738976 hlt sb1)) (nSc (F1 [_,_] [] 82645272527208931525574 hlt)))
  rw [ei]
  obtain ⟨a,ha⟩:∃ a,M-1-k=a:=⟨_,rfl⟩
  have ha1:M-k=a+1:=by exact nAs (F3 [_,_,_,_,_] [] 93242114413284035476999692090072430577760 ei ha (nSc (F1 [_,_] [] 82679860172347136934854 hlt))) (F3 [_,_,_,_,_] [] 95374841266478315895105527059235519735904 ei ha sb1)
  have ha2:M-(k+1)=a:=by exact nAs (F3 [_,_,_,_,_] [] 95662362164778230807359293898200929286240 ei ha (nSc (F1 [_,_] [] 338537268231610138939753414 hlt))) (F3 [_,_,_,_,_] [] 95412488070758120105374718298144275048544 ei ha sb1)
  rw [ha]
  rw [ha1] at k6 k8
  rw [ha2] at hN2
  have haN:a+n<N:=F3 [_,_,_,_,_,_] [] 26496277175656748677440311102578578317852100704 hNn ei ha
  generalize hX:vl (2^w) r=X at *
  have hPa:0<(2^w)^a:=Nat.pow_pos (by exact F1 [_] [] 19864819716 hB)
  have hPn:0<(2^w)^(n-2):=Nat.pow_pos (by exact F1 [_] [] 19864819716 hB)
  have hRB:X/(2^w)^a<D*2^w:=by
   rw [Nat.div_lt_iff_lt_mul hPa,Nat.mul_assoc,Nat.mul_comm (2^w),← Nat.pow_succ];exact k6
  have hXlt:X<(2^w)^(a+n+1):=by
   have:D*(2^w)^(a+1)<(2^w)^n*(2^w)^(a+1):=Nat.mul_lt_mul_of_pos_right hDlt (Nat.pow_pos (by exact F1 [_] [] 19864819716 hB))
   rw [← Nat.pow_add,show n+(a+1)=a+n+1 by exact nAs (F0 [_,_] [] 19744662610287540320) (F0 [_,_] [] 19746047994937247840)] at this
   exact F2 [_,_,_] [] 5214041451079776 k6 this
  have hdrop0:vl (2^w) (r.drop (a+n+1))=0:=by
   rw [← vl_div hB k2,hX];exact Nat.div_eq_of_lt hXlt
  have hi0:a+n-2<r.length:=F3 [_,_,_,_,_] [] 22989030457504938618211412064 k1 haN sb0
  have hi1:a+n-1<r.length:=F3 [_,_,_,_,_] [] 22989030457504938618211412064 k1 haN sb0
  have hi2:a+n<r.length:=F2 [_,_,_,_] [] 87594967806695157827680 k1 haN
  have slice:(r.drop (a+n-2)).take 3=[r[a+n-2],r[a+n-1],r[a+n]]:=by
   have e0:=List.drop_eq_getElem_cons hi0
   have e1:=List.drop_eq_getElem_cons (l:=r) (i:=a+n-2+1) (by exact F2 [_,_,_,_] [] 1469590628315420879396136059168 hi2 (nSc (F1 [_,_] [] 75351461009412 hn2)))
   have e2:=List.drop_eq_getElem_cons (l:=r) (i:=a+n-2+1+1) (by exact F2 [_,_,_,_] [] 6019442744805548843641010743705888 hi2 (nSc (F1 [_,_] [] 75351461009412 hn2)))
   rw [e0,e1,e2]
   simp only [List.take_succ_cons,List.take_zero]
   congr 2
   ·congr 1;exact nAs (F2 [_,_,_,_] [] 5694924659491433617293365863547168 sb1 (nSc (F1 [_,_] [] 75351461009412 hn2))) (F2 [_,_,_,_] [] 5557661867935544439388845807796448 sb1 (nSc (F1 [_,_] [] 75351460747268 hn2)))
   ·congr 2;exact nAs (F1 [_,_,_] [] 21210155474222472791784194336 (nSc (F1 [_,_] [] 75351461009412 hn2))) (F1 [_,_,_] [] 21200667906772516954530416736 sb1)
  have hU:(r[a+n]*2^w+r[a+n-1])*2^w+r[a+n-2]=X/(2^w)^a/(2^w)^(n-2):=by
   rw [Nat.div_div_eq_div_mul,← Nat.pow_add,show a+(n-2)=a+n-2 by exact nAs (F2 [_,_,_,_] [] 1390371239853093971603690389792 sb1 (nSc hn2)) (F2 [_,_,_,_] [] 1357469407533184275262361338144 sb1 (nSc (F1 [_,_] [] 75351461009412 hn2))),← hX,vl_div hB k2]
   have e:=vl_append (2^w) ((r.drop (a+n-2)).take 3) ((r.drop (a+n-2)).drop 3)
   rw [List.take_append_drop,List.drop_drop,show a+n-2+3=a+n+1 by exact nAs (F1 [_,_,_] [] 86837945110557814487727846228256 (nSc (F1 [_,_] [] 75351461009412 hn2))) (F1 [_,_,_] [] 86837799741950507419290112133216 sb1),hdrop0,Nat.mul_zero,Nat.add_zero,slice] at e
   rw [e]
   show _=r[a+n-2]+2^w*(r[a+n-1]+2^w*(r[a+n]+2^w*0))
   rw [Nat.mul_zero,Nat.add_zero,Nat.add_mul,Nat.mul_add]
   have:r[a+n]*2^w*2^w=2^w*(2^w*r[a+n]):=by ac_rfl
   rw [this,Nat.mul_comm r[a+n-1]];exact nAs (F0 [_,_,_] [] 19746175608087414880) (F0 [_,_,_] [] 19752825454405494880)
  have ev1:=dg_get hB D (n-1) (by exact F2 [_,_,_] [] 21374174097008001248 hn (nSc (F1 [_] [] 18791340036 hn2)))
  have ev2:=dg_get hB D (n-2) (by exact F2 [_,_,_] [] 21374174097008001312 hn (nSc hn2))
  have hv1:D/(2^w)^(n-1)%2^w=D/(2^w)^(n-1):=by
   refine Nat.mod_eq_of_lt ?_
   rw [Nat.div_lt_iff_lt_mul (Nat.pow_pos (by exact F1 [_] [] 19864819716 hB)),Nat.mul_comm,← Nat.pow_succ,Nat.succ_eq_add_one,show n-1+1=n by exact nAs (F1 [_,_] [] 315568874110353632 (nSc (F1 [_] [] 18791340036 hn2))) (sb1)];exact hDlt
  have hv1p:0<D/(2^w)^(n-1):=Nat.div_pos hDge (Nat.pow_pos (by exact F1 [_] [] 19864819716 hB))
  have hV:D/(2^w)^(n-1)*2^w+D/(2^w)^(n-2)%2^w=D/(2^w)^(n-2):=by
   have:=div_limb (B:=2^w) (by exact F1 [_] [] 19864819716 hB) D (n-2)
   rw [show n-2+1=n-1 by exact nAs (F2 [_,_,_] [] 339141729896695613438066976 sb1 (nSc hn2)) (F2 [_,_,_] [] 331262387633055713607319776 sb1 (nSc (F1 [_] [] 18791340036 hn2))),Nat.mul_comm] at this
   exact this.symm
  rw [hv1] at ev1
  have hv1lt:D/(2^w)^(n-1)<2^w:=by rw [← hv1];exact Nat.mod_lt _ (by exact F1 [_] [] 19864819716 hB)
  have hv2lt:D/(2^w)^(n-2)%2^w<2^w:=Nat.mod_lt _ (by exact F1 [_] [] 19864819716 hB)
  generalize hv1g:D/(2^w)^(n-1)=v1 at *
  generalize hv2g:D/(2^w)^(n-2)%2^w=v2 at *
  (simp! only [SS])
  have b1:(a:Int)+(n:Int)-2=((a+n-2:Nat):Int):=by exact iAs (F1 [_,_,_] [] 1679308614187443786976978307168 sb1) (F1 [_,_,_] [] 1681261961241845040743780221216 (nSc (F1 [_,_] [] 75351461009412 hn2)))
  have b2:(a:Int)+(n:Int)+1=((a+n+1:Nat):Int):=by exact iAs (F0 [_,_] [] 6404122858891611248661280) (F0 [_,_] [] 6408709252607882419800160)
  have hcut:cutL (iv r) (some ((a+n-2:Nat):Int)) (some ((a+n+1:Nat):Int))=iv [r[a+n-2],r[a+n-1],r[a+n]]:=by
   rw [iv_cut r (lo:=some ((a+n-2:Nat):Int)) (hi:=some ((a+n+1:Nat):Int)) (a:=a+n-2) (b:=a+n+1) (clip_nat _ _ (by exact F2 [_,_,_,_] [] 89015675253842756130705601860384 hi2 b1)) (clip_nat _ _ (by exact F1 [_,_,_] [] 1293722925268673792096 hi2)),show a+n+1-(a+n-2)=3 by exact nAs (F2 [_,_,_,_] [] 5940056068933031693072598897922056370292832 b1 (nSc (F1 [_,_,_] [] 1356842887586669893805262639904 b1))) (F2 [_,_,_,_] [] 6109005620589144191846846097646617403099232 b1 sb1),slice]
  (simp! only [b1,b2,hcut])
  refine ⟨_,iv_get' _ (k:=n-1) (by exact iAs (F1 [_,_] [] 1563960003294931204192 sb1) (F1 [_,_] [] 1565779013341731389664 (nSc (F1 [_] [] 18791340036 hn2)))) (by exact F2 [_,_,_] [] 21374174097008001248 hn (nSc (F1 [_] [] 18791340036 hn2))) ev1,_,iv_get' _ (k:=n-2) (by exact iAs (F1 [_,_] [] 1563960007692977719392 sb1) (F1 [_,_] [] 1565797027740240871712 (nSc hn2))) (by exact F2 [_,_,_] [] 21374174097008001312 hn (nSc hn2)) ev2,?_⟩
  k_extra "mD";refine use1 (S:=guessS) rfl ⟨r[a+n-2],r[a+n-1],r[a+n],v1,v2,w⟩ rfl ⟨hw,hw2,k2 _ (List.getElem_mem _),k2 _ (List.getElem_mem _),k2 _ (List.getElem_mem _),hv1lt,hv2lt,hv1p⟩ fun rv hrv=>?_
  refine x1a4 hrv fun g zq1 g1 g2 g3=>?_;clear hrv;subst zq1
  have g1:g<2^w:=g1
  have g2:g*(v1*2^w+v2)≤(r[a+n]*2^w+r[a+n-1])*2^w+r[a+n-2]:=g2
  have g3:∀ q,q<2^w→q*(v1*2^w+v2)≤(r[a+n]*2^w+r[a+n-1])*2^w+r[a+n-2]→q≤g:=g3
  rw [hV,hU] at g2
  simp only [hV,hU] at g3
  have hVB:2^w≤D/(2^w)^(n-2):=by
   rw [← hV]
   have:1*2^w≤v1*2^w:=Nat.mul_le_mul_right _ hv1p
   exact F1 [_,_,_] [] 308648410452629507 this
  have near:=guess_near hB hPn rfl rfl hVB hRB g2 g3
  have hq1:X/(2^w)^a/D*D≤X/(2^w)^a:=Nat.div_mul_le_self _ _
  have hq2:X/(2^w)^a<(X/(2^w)^a/D+1)*D:=by
   have:=Nat.lt_mul_div_succ (X/(2^w)^a) hD0
   rw [Nat.mul_comm] at this;exact this
  have hX1:X/(2^w)^a*(2^w)^a≤X:=Nat.div_mul_le_self _ _
  have hX2:X<(X/(2^w)^a+1)*(2^w)^a:=by
   have:=Nat.lt_mul_div_succ X hPa
   rw [Nat.mul_comm] at this;exact this
  generalize hQ:X/(2^w)^a/D=q at *
  generalize hRr:X/(2^w)^a=R at *
  have hqlow:q*D*(2^w)^a≤X:=Nat.le_trans (Nat.mul_le_mul_right _ hq1) hX1
  have hqhigh:X<(q+1)*D*(2^w)^a:=Nat.lt_of_lt_of_le hX2 (Nat.mul_le_mul_right _ hq2)
  have e1q:(q+1)*D*(2^w)^a=q*D*(2^w)^a+D*(2^w)^a:=by rw [Nat.add_mul,Nat.one_mul,Nat.add_mul]
  have hqB:q<2^w:=by exact (near).elim (fun k1=>F2 [_,_,_] [] 5218302091933792 g1 k1) fun k1=>F2 [_,_,_] [] 21374165368560713952 g1 k1
  have full:∀ k:List Nat,Lim (2^w) k→k.drop (a+n+1)=r.drop (a+n+1)→vl (2^w) k<(2^w)^(a+n+1):=fun kk hk1 hk2=>by
   have:vl (2^w) kk/(2^w)^(a+n+1)=0:=by rw [vl_div hB hk1,hk2];exact hdrop0
   have h3:=(Nat.div_eq_zero_iff).mp this
   have:0<(2^w)^(a+n+1):=Nat.pow_pos (by exact F1 [_] [] 19864819716 hB)
   exact (near).elim (fun k1=>(h3).elim (fun k2=>F2 [_,_,_] [] 473584004650840224 hXlt k2) fun k2=>k2) fun k1=>(h3).elim (fun k3=>F2 [_,_,_] [] 473584004650840224 hXlt k3) fun k3=>k3
  have last:∀ (kk:List Nat) (sl:Slot),kk.length=N→Lim (2^w) kk→vl (2^w) kk+q*D*(2^w)^a=X →
    ∃ y:List Nat×List Nat×Slot×Slot,([.bor (iv kk),.val (.lst (iv (dg (2^w) D))),.val (.int (w:Nat)),.val (.int (n:Nat)),.own (iv (qs.set a q)),.val (.int (a:Nat)),sl]:Sg)=[.bor (iv y.1),.val (.lst (iv (dg (2^w) D))),.val (.int (w:Nat)),.val (.int (n:Nat)),.own (iv y.2.1),y.2.2.1,y.2.2.2] ∧
     y.1.length=N∧Lim (2^w) y.1∧y.2.1.length=M∧Lim (2^w) y.2.1∧k+1≤M∧vl (2^w) y.1<D*(2^w)^a∧vl (2^w) l=vl (2^w) y.2.1*D+vl (2^w) y.1∧∀ i (h:i<y.2.1.length),i<a→y.2.1[i]=0:=fun kk sl m1 m2 m3=>by
   refine ⟨(kk,qs.set a q,.val (.int (a:Nat)),sl),rfl,m1,m2,by simp [k3],lim_set k4 hqB,by exact F1 [_,_] [] 338537268231610138939753414 hlt,by show vl (2^w) kk<_;exact F3 [_,_,_,_,_] [] 22989021010476667522616166496 hqhigh e1q m3,?_,fun i hi hia=>?_⟩
   ·show vl (2^w) l=vl (2^w) (qs.set a q)*D+vl (2^w) kk
    rw [vl_set0 (by exact F3 [_,_,_,_,_] [] 6026515609098540182075088346630240 k3 ei ha) (k8 a (by exact F3 [_,_,_,_,_] [] 6026515609098540182075088346630240 k3 ei ha) (by exact F0 [_] [] 304101408)),k7,← m3,Nat.add_mul]
    have:(2^w)^a*q*D=q*D*(2^w)^a:=by ac_rfl
    exact nAs (F1 [_,_,_,_] [] 5178306018834159015381088 this) (F1 [_,_,_,_] [] 5176342647556837615417440 this)
   ·show (qs.set a q)[i]=0
    rw [get_set_ne hi (by exact F1 [_,_] [] 1738933610592 hia)]
    exact k8 i (by simpa using hi) (by exact F1 [_,_] [] 79718376351840 hia)
  have a0:(0:Int)≤(a:Int):=Int.natCast_nonneg _
  have aq:(a:Int)<(qs.length:Int):=F3 [_,_,_,_,_] [] 29503992311595149241294847363179432032 k3 ei ha
  have at0:((a:Nat):Int).toNat=a:=Int.toNat_natCast _
  (simp! only [SS])
  (simp! only [SS])
  k_extra "mD";refine useB1 (S:=takeS) rfl ⟨r,D,g,a,w⟩ rfl ⟨hw,hw2,k2,by show r.length≤1000;exact F2 [_,_] [] 333550338726175576045205600 hll k1,by show a+(dg (2^w) D).length<r.length;exact F2 [_,_,_,_] [] 87521216854730572597344 hn hi2,g1,hd⟩ fun rv l' hp=>?_
  refine x2a7 hp fun kk bo zq2 c1 zq4 c2 c3 c4 c5=>?_;clear hp;subst zq2;subst zq4
  have c4:vl (2^w) kk+g*D*(2^w)^a=vl (2^w) r+bo*(2^w)^(a+(dg (2^w) D).length+1):=c4
  have c5:kk.drop (a+(dg (2^w) D).length+1)=r.drop (a+(dg (2^w) D).length+1):=c5
  rw [hn] at c4 c5
  rw [hX] at c4
  have fk:=full kk c3 c5
  have c2:kk.length=r.length:=c2
  (simp! only [SS])
  by_cases hb:bo=1
  ·subst hb
   have hg:g=q+1:=by
    rcases near with z | z
    ·exfalso;rw [← z] at c4;exact F3 [_,_,_,_] [] 2093695867331173835096868816992 hqlow fk c4
    ·exact nAs (F1 [_,_] [] 308512003415376096 z) (F1 [_,_] [] 315568874110353632 z)
   (simp! only [Int.natCast_one])
   (simp! only [SS])
   (simp! only [SS])
   (simp! only [SS])
   (simp! only [SS])
   k_extra "mD";refine useB1 (S:=putS) rfl ⟨kk,D,a,w⟩ rfl ⟨hw,hw2,c3,by show kk.length≤1000;exact F3 [_,_,_] [] 87438219995034570206863113402464 hll k1 c2,by show a+(dg (2^w) D).length<kk.length;exact F3 [_,_,_,_,_] [] 22904481114915568751999535200 hn hi2 c2,hd⟩ fun rv l' hp=>?_
   refine x2a6 hp fun k9 ov zq2 zq3 d2 d3 d4 d5=>?_;clear hp;subst zq2;subst zq3
   have d2:k9.length=kk.length:=d2
   have d4:vl (2^w) k9+ov*(2^w)^(a+(dg (2^w) D).length+1)=vl (2^w) kk+D*(2^w)^a:=d4
   have d5:k9.drop (a+(dg (2^w) D).length+1)=kk.drop (a+(dg (2^w) D).length+1):=d5
   rw [hn] at d4 d5
   have f9:=full k9 d3 (d5.trans c5)
   rw [hg,e1q] at c4
   have ov1:ov=1:=by
    rcases Nat.lt_trichotomy ov 1 with z | z | z
    ·have:ov=0:=by exact nAs (F1 [_] [] 18295628000 z) (F0 [_] [] 71682)
     subst this;lia
    ·exact z
    ·have:2*(2^w)^(a+n+1)≤ov*(2^w)^(a+n+1):=Nat.mul_le_mul_right _ z
     lia
   subst ov1
   have eg:(g:Int)-1=(q:Int):=by exact iAs (F1 [_,_] [] 1563960003294964758624 hg) (F1 [_,_] [] 1565779008944768825440 hg)
   (simp! only [W_skip,eg])
   (simp! only [SS])
   (simp! only [aq,at0,W_skip])
   rw [iv_set]
   exact last k9 _ (by exact nAs (F3 [_,_,_,_] [] 1295312814739420428384 k1 c2 d2) (F3 [_,_,_,_] [] 1291908374897178789984 k1 c2 d2)) d3 (by exact nAs (F2 [_,_,_,_,_,_] [] 392051948309744107657457921874931695160266976 c4 d4) (F2 [_,_,_,_,_,_] [] 382099036026582744898336353015598668438704352 c4 d4))
  ·have b0:bo=0:=by exact nAs ((near).elim (fun k1=>(Nat.lt_or_gt_of_ne hb).elim (fun k2=>F1 [_] [] 18295628000 k2) fun k2=>F2 [_] [] 473170449279297539 c1 k2) fun k1=>(Nat.lt_or_gt_of_ne hb).elim (fun k3=>F1 [_] [] 18295628000 k3) fun k3=>F2 [_] [] 473170449279297539 c1 k3) (F0 [_] [] 71682)
   subst b0
   have hg:g=q:=by
    rcases near with z | z
    ·exact z.symm
    ·exfalso
     rw [← z,e1q] at c4
     exact F3 [_,_,_,_,_,_] [] 35126727694055985248729606533291321440 hqhigh e1q c4
   subst hg
   have n01:¬((0:Int)=1):=by decide
   (simp! only [Int.natCast_zero,n01,W_skip])
   (simp! only [SS])
   (simp! only [aq,at0,W_skip])
   rw [iv_set]
   exact last kk _ (by exact nAs (F2 [_,_,_] [] 4936828188964960 k1 c2) (F2 [_,_,_] [] 4928170608642144 k1 c2)) c3 (by exact nAs (F1 [_,_,_,_] [] 5299124117844369993140320 c4) (F1 [_,_,_,_] [] 5178186147085897561573472 c4))
 ·rw [rangeD_len] at hk
  revert t;refine pr4 fun r qs s1 s2 hk=>?_
  have e0:M-((M:Int)-1 - -1).toNat=0:=by exact nAs (F2 [_,_,_] [] 86398721204546626984735511447648 (iSt _) (nSc hk.2.2.2.2.1)) (F0 [_] [] 71682)
  rw [e0,Nat.pow_zero,Nat.mul_one] at hk
  refine an8 hk fun k1 k2 k3 k4 _ k6 k7 _=>?_;clear hk
  dsimp only at k1 k2 k3 k4 k6 k7 ⊢
  (simp! only [SS])
  (simp! only [SS])
  refine ⟨_,rfl,qs,r,rfl,rfl,k4,k2,?_,?_⟩
  ·show vl (2^w) qs=vl (2^w) l/D
   rw [k7,Nat.mul_comm,Nat.mul_add_div hD0,Nat.div_eq_of_lt k6,Nat.add_zero]
  ·show vl (2^w) r=vl (2^w) l%D
   rw [k7,Nat.mul_comm,Nat.mul_add_mod,Nat.mod_eq_of_lt k6]
end
section
noncomputable abbrev Γdiv:Gam:=⟨[(91,compareS),(488,smallDS),(154,bitsS),(140,shiftLeftS),(70,normalS),(147,shiftRightS)],[(516,rowsDS)],none⟩
theorem w_divrem_school (a b w:Nat)(hw:3≤w)(hw2:w≤8)(ha:a<2^32)(hb:b<2^16)(h0:0<b):W Γdiv c_divrem_school [.val (nl (dg (2^w) a)),.val (nl (dg (2^w) b)),.val (.int (w:Nat)),.un,.un,.un,.un] fun f _ =>
  retV f (·=.tup [nl (dg (2^w) (a/b)),nl (dg (2^w) (a%b))]):=by
 have hB:=tLP (w:=w) (by exact F1 [_] [] 76969328783425 hw)
 have hp8:2^w≤2^8:=Nat.pow_le_pow_right (by exact F0 [] [] 73986) hw2
 have la:(dg (2^w) a).length≤32:=dg_len_le hB (Nat.lt_of_lt_of_le ha (Nat.pow_le_pow_left hB 32))
 have lb:(dg (2^w) b).length≤16:=dg_len_le hB (Nat.lt_of_lt_of_le hb (Nat.pow_le_pow_left hB 16))
 have lb0:(dg (2^w) b).length≠0:=fun z=>by rw [List.length_eq_zero_iff,dg_nil hB] at z;exact F2 [_] [] 116224499986592 h0 z
 have lb0':¬(((dg (2^w) b).length:Int)=0):=F1 [_] [] 111537289242626 (nPo lb0)
 have hne:dg (2^w) b≠[]:=fun z=>by rw [dg_nil hB] at z;exact F2 [_] [] 116224499986592 h0 z
 have hmx:sMx=1048576:=rfl
 (try dsimp only [c_divrem_school];simp! only [SS])
 (simp! only [lb0',W_skip])
 (simp! only [SS])
 (simp! only [SS])
 k_extra "mD";refine use1 (S:=compareS) rfl (a,b,w) rfl ⟨by show 1≤w;exact F1 [_] [] 76969328783425 hw,by show a<2^64;exact F1 [_] [] 406988599873183872333078915512993678916345952 ha,by show b<2^64;exact F1 [_] [] 1552538299076781739551845228257642295392 hb⟩ fun r hr=>?_
 have hr:r=.int (cmpR a b):=hr
 subst hr
 by_cases hlt:a<b
 ·have hc:cmpR a b<0:=by unfold cmpR;rw [if_pos hlt];decide
  have hcut:cutL (iv (dg (2^w) a)) none none=iv (dg (2^w) a):=by
   rw [iv_cut _ (lo:=none) (hi:=none) (a:=0) (b:=(dg (2^w) a).length) rfl rfl];simp
  (simp! only [hc])
  (simp! only [SS])
  (simp! only [hcut])
  rw [Nat.div_eq_of_lt hlt,Nat.mod_eq_of_lt hlt,dg_zero];rfl
 ·have hc:¬cmpR a b<0:=by unfold cmpR;rw [if_neg hlt];split <;> decide
  (simp! only [hc,W_skip])
  (simp! only [SS])
  (simp! only [SS])
  by_cases h1:(dg (2^w) b).length=1
  ·have h1':((dg (2^w) b).length:Int)=1:=by exact iAs (F1 [_] [] 1449761255648 h1) (F1 [_] [] 1456532439264 h1)
   have bB:b<2^w:=by have:=dg_lt hB b;rw [h1,Nat.pow_one] at this;exact this
   (simp! only [h1'])
   (simp! only [SS])
   (simp! only [SS])
   exact use1 (S:=smallDS) rfl (a,b,w) rfl ⟨hw,hw2,ha,h0,bB⟩ fun r hr=>hr
  ·have h1':¬(((dg (2^w) b).length:Int)=1):=by exact (Int.lt_or_gt_of_ne (lb0')).elim (fun k1=>F1 [_] [] 7142853278454560 k1) fun k1=>(Nat.lt_or_gt_of_ne h1).elim (fun k2=>F1 [_] [] 111607082459360 k2) fun k2=>F1 [_] [] 111538362984451 k2
   have hDlt:=dg_lt hB b
   have hDge:=top_le hB h0
   have hAlt:=dg_lt hB a
   have hmono:(dg (2^w) b).length≤(dg (2^w) a).length:=dg_len_mono hB (by exact F1 [_,_] [] 1203151120480 hlt)
   (simp! only [h1',W_skip])
   (simp! only [SS])
   (simp! only [SS])
   refine ⟨_,iv_last _ hne,?_⟩
   have et:(dg (2^w) b).getLast hne=b/(2^w)^((dg (2^w) b).length-1):=by
    rw [List.getLast_eq_getElem,dg_get hB,Nat.mod_eq_of_lt]
    rw [Nat.div_lt_iff_lt_mul (Nat.pow_pos (by exact F1 [_] [] 19864819716 hB)),Nat.mul_comm,← Nat.pow_succ]
    rw [Nat.succ_eq_add_one,show (dg (2^w) b).length-1+1=(dg (2^w) b).length by exact nAs (F1 [_,_] [] 315568874110353632 (nSc (F1 [_] [] 18791344130 (nPo lb0)))) (sb1)];exact hDlt
   rw [et]
   generalize hn:(dg (2^w) b).length=n at *
   generalize hA:(dg (2^w) a).length=An at *
   have t0:0<b/(2^w)^(n-1):=Nat.div_pos hDge (Nat.pow_pos (by exact F1 [_] [] 19864819716 hB))
   have tB:b/(2^w)^(n-1)<2^w:=by
    rw [Nat.div_lt_iff_lt_mul (Nat.pow_pos (by exact F1 [_] [] 19864819716 hB)),Nat.mul_comm,← Nat.pow_succ,Nat.succ_eq_add_one,show n-1+1=n by exact nAs (F1 [_,_] [] 315568874110353632 (nSc (F1 [_] [] 18791344130 (nPo lb0)))) (sb1)];exact hDlt
   have btop:b<(b/(2^w)^(n-1)+1)*(2^w)^(n-1):=by
    have:=Nat.lt_mul_div_succ b (b:=(2^w)^(n-1)) (Nat.pow_pos (by exact F1 [_] [] 19864819716 hB))
    rw [Nat.mul_comm] at this;exact this
   generalize ht:b/(2^w)^(n-1)=t at *
   have e1:[V.int ((t:Nat):Int)]=iv (dg (2^w) t):=by rw [dg_limb hB t0 tB];rfl
   rw [e1]
   k_extra "mD";refine use1 (S:=bitsS) rfl (t,w) rfl ⟨by show 1≤w;exact F1 [_] [] 76969328783425 hw,by show w≤16;exact F1 [_] [] 310752875701604448 hw2,by show t<2^64;exact F2 [_,_] [] 6359196873018498005204358054609053429344352 hp8 tB⟩ fun r hr=>?_
   have hr:r=.int ((bitlen t:Nat)):=hr
   subst hr
   have bl:bitlen t=t.log2+1:=by unfold bitlen;rw [if_neg (by exact F1 [_] [] 1738430031874 t0)]
   have lg:t.log2<w:=(Nat.log2_lt (by exact F1 [_] [] 1738430031874 t0)).mpr tB
   have lg2:=Nat.lt_log2_self (n:=t)
   generalize hs:w-bitlen t=s at *
   have es:(w:Int)-((bitlen t:Nat):Int)=(s:Int):=by exact iAs (F2 [_,_,_,_] [] 26239499721279695434582992992 hs sb1) (F2 [_,_,_,_] [] 26271323749008602795621255264 hs (nSc (F2 [_,_,_] [] 20203794994744076384 bl lg)))
   have hsw:s<w:=F2 [_,_,_,_] [] 22912261637970390735607960352 bl es
   have hp2s:2^s≤2^7:=Nat.pow_le_pow_right (by exact F0 [] [] 73986) (by exact F2 [_,_] [] 80797919061267852896352 hw2 hsw)
   have hps:0<2^s:=Nat.pow_pos (by exact F0 [] [] 73986)
   have hD:b*2^s<(2^w)^n:=by
    have a1:b*2^s<2^(t.log2+1)*(2^w)^(n-1)*2^s:=Nat.mul_lt_mul_of_pos_right (Nat.lt_of_lt_of_le btop (Nat.mul_le_mul_right _ lg2)) hps
    have a2:2^(t.log2+1)*(2^w)^(n-1)*2^s=(2^w)^n:=by
     have:2^(t.log2+1)*(2^w)^(n-1)*2^s=(2^w)^(n-1)*(2^(t.log2+1)*2^s):=by ac_rfl
     rw [this,← Nat.pow_add,show t.log2+1+s=w by exact nAs (F2 [_,_,_,_] [] 363504048646392618595764524889019168 bl es) (F2 [_,_,_,_] [] 355845373517147148622537528767025952 bl es),← Nat.pow_succ,Nat.succ_eq_add_one,show n-1+1=n by exact nAs (F1 [_,_] [] 315568874110353632 (nSc (F1 [_] [] 18791344130 (nPo lb0)))) (sb1)]
    exact F2 [_,_,_] [] 5214041451083872 a1 a2
   have hD1:b≤b*2^s:=Nat.le_mul_of_pos_right _ hps
   have lenD:(dg (2^w) (b*2^s)).length=n:=by
    have u:=dg_len_le hB hD
    have v:=dg_len_mono hB hD1
    exact nAs (u) (F2 [_,_,_] [] 4932568654878816 hn v)
   have bs32:b*2^s<2^32:=by
    have:b*2^s≤2^16*2^7:=Nat.mul_le_mul (by exact F1 [_] [] 5213492651554750439895136 hb) hp2s
    exact F1 [_] [] 1536587563127479260567457249803513114720 this
   have as64:a*2^s<2^64:=by
    have:a*2^s≤2^32*2^7:=Nat.mul_le_mul (by exact F1 [_] [] 354374260595030430851953107675406432 ha) hp2s
    exact F1 [_] [] 437000681575038619766303290261041519718714421150769248 this
   (simp! only [SS])
   rw [es]
   (simp! only [SS])
   (simp! only [SS])
   k_extra "mD";refine use1 (S:=shiftLeftS) rfl (b,s,w) rfl ⟨by show 1≤w;exact F1 [_] [] 76969328783425 hw,by show w≤16;exact F1 [_] [] 310752875701604448 hw2,by show b<2^64;exact F1 [_] [] 1552538299076781739551845228257642295392 hb,by show s≤1000;exact F2 [_,_] [] 5211724042596936822630496 hw2 hsw⟩ fun r hr=>?_
   have hr:r=nl (dg (2^w) (b*2^s)):=hr
   subst hr
   (simp! only [SS])
   (simp! only [SS])
   k_extra "mD";refine use1 (S:=shiftLeftS) rfl (a,s,w) rfl ⟨by show 1≤w;exact F1 [_] [] 76969328783425 hw,by show w≤16;exact F1 [_] [] 310752875701604448 hw2,by show a<2^64;exact F1 [_] [] 406988599873183872333078915512993678916345952 ha,by show s≤1000;exact F2 [_,_] [] 5211724042596936822630496 hw2 hsw⟩ fun r hr=>?_
   have hr:r=nl (dg (2^w) (a*2^s)):=hr
   subst hr
   have hAs:a*2^s<(2^w)^(An+1):=by
    have a1:a*2^s<(2^w)^An*2^s:=Nat.mul_lt_mul_of_pos_right hAlt hps
    have a2:(2^w)^An*2^s≤(2^w)^An*2^w:=Nat.mul_le_mul_left _ (Nat.pow_le_pow_right (by exact F0 [] [] 73986) (by exact F1 [_,_] [] 18815723616 hsw))
    rw [Nat.pow_succ];exact F2 [_,_,_] [] 5214041451075680 a1 a2
   have lenA:=dg_len_le hB hAs
   generalize hZ:An+1-(dg (2^w) (a*2^s)).length=zn at *
   have ez:(An:Int)+1-((dg (2^w) (a*2^s)).length:Int)=(zn:Int):=by exact iAs (F2 [_,_,_,_] [] 440225754556028176431936938761814240 hZ sb1) (F2 [_,_,_,_] [] 440759673839383074184397580048828512 hZ (nSc lenA))
   have z1:(-1000:Int)≤(zn:Int):=F0 [_] [] 5965966403862657
   have z2:(zn:Int)≤1000:=F2 [_,_,_] [] 115376492228733154557934334974708120052512 la ez
   have zr:List.replicate ((zn:Nat):Int).toNat (V.int 0)=iv (List.replicate zn 0):=by rw [Int.toNat_natCast];exact iv_rep _ 0
   have hsm:(dg (2^w) (a*2^s)).length+((zn:Nat):Int).toNat≤sMx:=by rw [Int.toNat_natCast];exact F3 [_,_,_,_] [] 102591333985093529086035515996152861755808157033248 hmx la ez
   (simp! only [SS])
   (simp! only [hA,ez,z1,z2,hsm])
   rw [zr,iv_append]
   (simp! only [SS])
   have vlr:vl (2^w) (dg (2^w) (a*2^s)++List.replicate zn 0)=a*2^s:=by rw [vl_append,vl_zeros,vl_dg hB];simp
   have lim:Lim (2^w) (dg (2^w) (a*2^s)++List.replicate zn 0):=lim_append (dg_lim hB _) (lim_zeros hB _)
   have len:(dg (2^w) (a*2^s)++List.replicate zn 0).length=An+1:=by simp;exact nAs (F1 [_,_,_] [] 1356850023228846540929954505504 ez) (F1 [_,_,_] [] 1357449950378263099614801716000 ez)
   have pre:DR.pre ⟨dg (2^w) (a*2^s)++List.replicate zn 0,b*2^s,w⟩:=by
    refine ⟨hw,hw2,lim,Nat.le_trans (Nat.le_of_eq len) (by exact F1 [_] [] 80395558704941832867936 la),by show 2≤(dg (2^w) (b*2^s)).length;exact (Int.lt_or_gt_of_ne (lb0')).elim (fun k1=>F1 [_,_] [] 115552946770720 k1) fun k1=>(Nat.lt_or_gt_of_ne h1).elim (fun k2=>F2 [_,_] [] 30291511686108356832 k1 k2) fun k2=>F2 [_,_] [] 4930507037288451 lenD k2,by show (dg (2^w) (b*2^s)).length<(dg (2^w) (a*2^s)++List.replicate zn 0).length;rw [len,lenD];exact F1 [_,_] [] 79718376347744 hmono,bs32,?_⟩
    show vl (2^w) _<b*2^s*(2^w)^(List.length _-(dg (2^w) (b*2^s)).length)
    rw [vlr,len,lenD]
    have a1:a*2^s<(2^w)^An*2^s:=Nat.mul_lt_mul_of_pos_right hAlt hps
    have a2:(2^w)^An≤b*(2^w)^(An+1-n):=by
     have:(2^w)^An=(2^w)^(n-1)*(2^w)^(An+1-n):=by rw [← Nat.pow_add];congr 1;exact nAs (F2 [_,_,_,_] [] 1357431326369848399907409658080 sb1 sb1) (F2 [_,_,_,_] [] 1389133304712635232555064920160 (nSc (F1 [_] [] 18791344130 (nPo lb0))) (nSc (F1 [_,_] [] 75320329836640 hmono)))
     rw [this];exact Nat.mul_le_mul_right _ hDge
    have a3:(2^w)^An*2^s≤b*(2^w)^(An+1-n)*2^s:=Nat.mul_le_mul_right _ a2
    have a4:b*(2^w)^(An+1-n)*2^s=b*2^s*(2^w)^(An+1-n):=by ac_rfl
    exact F3 [_,_,_,_] [] 1366847705414088865888 a1 a3 a4
   (simp! only [SS])
   k_extra "mD";refine useB1 (S:=rowsDS) rfl ⟨dg (2^w) (a*2^s)++List.replicate zn 0,b*2^s,w⟩ rfl pre fun rv l' hp=>?_
   refine x2a6 hp fun qs kk zq2 zq3 c1 c2 c3 c4=>?_;clear hp;subst zq2;subst zq3
   have c3:vl (2^w) qs=vl (2^w) (dg (2^w) (a*2^s)++List.replicate zn 0)/(b*2^s):=c3
   have c4:vl (2^w) kk=vl (2^w) (dg (2^w) (a*2^s)++List.replicate zn 0)%(b*2^s):=c4
   have c1:Lim (2^w) qs:=c1
   have c2:Lim (2^w) kk:=c2
   rw [vlr,Nat.mul_div_mul_right _ _ hps] at c3
   rw [vlr,Nat.mul_mod_mul_right] at c4
   (simp! only [SS])
   (simp! only [SS])
   k_extra "mD";refine use1 (S:=normalS) rfl qs rfl trivial fun r hr=>?_
   have hr:r=nl (nrm qs):=hr
   rw [nrm_dg hB c1,c3] at hr
   subst hr
   k_extra "mD";refine use1 (S:=normalS) rfl kk rfl trivial fun r hr=>?_
   have hr:r=nl (nrm kk):=hr
   rw [nrm_dg hB c2,c4] at hr
   subst hr
   have hm:a%b*2^s<2^64:=by
    have:a%b*2^s≤2^16*2^7:=Nat.mul_le_mul (by have:=Nat.mod_lt a h0;exact F2 [_,_] [] 1366685817649168499315870869600 hb this) hp2s
    exact F1 [_] [] 1667025305080561141076291237873235777748459335776 this
   k_extra "mD";refine use1 (S:=shiftRightS) rfl (a%b*2^s,s,w) rfl ⟨by show 1≤w;exact F1 [_] [] 76969328783425 hw,by show w≤16;exact F1 [_] [] 310752875701604448 hw2,hm,by show s≤1000;exact F2 [_,_] [] 5211724042596936822630496 hw2 hsw⟩ fun r hr=>?_
   have hr:r=nl (dg (2^w) (a%b*2^s/2^s)):=hr
   rw [Nat.mul_div_cancel _ hps] at hr
   rw [hr];rfl
end
end
section
theorem m_Montgomery (w:World):MtV w (KP w) 3 (.ref 192) montS.use:=meets_mont w
theorem m_mont_times (w:World):MtV w (KP w) 1 (.ref 280) timesS.use:=meets_times w
theorem m_normal (w:World):MtV w (KP w) 1 (.ref 70) normalS.use :=
 mcK (gnd _) (Wd.nil w _ 0) (k_normal _) (fun _=>rfl) fun x _=>w_normal _ x
theorem m_nat_of (w:World):MtV w (KP w) 1 (.ref 77) natOfS.use :=
 mcK (gnd _) (Wd.nil w _ 0) (k_nat_of _) (fun _=>rfl) fun x h=>w_nat_of _ _ _ h.1 h.2.1 h.2.2
theorem m_is_even (w:World):MtV w (KP w) 1 (.ref 84) isEvenS.use :=
 mcK (gnd _) (Wd.nil w _ 0) (k_is_even _) (fun _=>rfl) fun x h=>w_is_even _ _ _ h
theorem m_compare (w:World):MtV w (KP w) 1 (.ref 91) compareS.use :=
 mcK (gnd _) (Wd.nil w _ 0) (k_compare _) (fun _=>rfl) fun x h=>w_compare _ _ _ _ h.1 h.2.1 h.2.2
theorem m_add (w:World):MtV w (KP w) 1 (.ref 98) addS.use :=
 mcK (gnd _) (Wd.nil w _ 0) (k_add _) (fun _=>rfl) fun x h=>w_add _ _ _ _ h.1 h.2.1 h.2.2.1 h.2.2.2
theorem m_sub (w:World):MtV w (KP w) 2 (.ref 105) subS.use :=
 mcK (gnd _) (((Wd.nil w _ 1).cons (kk_normal _) (m_normal w) (by decide)).cons (kk_compare _) (m_compare w) (by decide)) (k_sub _) (fun _=>rfl) fun x h=>w_sub _ _ _ h.1 h.2.1 h.2.2.1 h.2.2.2
theorem m_sub_limb (w:World):MtV w (KP w) 3 (.ref 119) subLimbS.use :=
 mcK (gnd _) ((Wd.nil w _ 2).cons (kk_sub _) (m_sub w) (by decide)) (k_sub_limb _) (fun _=>rfl) fun x h=>w_sub_limb _ _ _ h.1 h.2.1 h.2.2.1 h.2.2.2.1 h.2.2.2.2
theorem m_lifted (w:World):MtV w (KP w) 1 (.ref 126) liftedS.use :=
 mcK (gnd _) (Wd.nil w _ 0) (k_lifted _) (fun _=>rfl) fun x h=>w_lifted _ _ _ _ h.1 h.2.1 h.2.2
theorem m_divrem_limb (w:World):MtV w (KP w) 2 (.ref 133) divremLimbS.use :=
 mcK (gnd _) ((Wd.nil w _ 1).cons (kk_normal _) (m_normal w) (by decide)) (k_divrem_limb _) (fun _=>rfl) fun x h=>w_divrem_limb _ _ _ h.1 h.2.1 h.2.2.1 h.2.2.2.1 h.2.2.2.2
theorem m_shift_left (w:World):MtV w (KP w) 1 (.ref 140) shiftLeftS.use :=
 mcK (gnd _) (Wd.nil w _ 0) (k_shift_left _) (fun _=>rfl) fun x h=>w_shift_left _ _ _ _ h.1 h.2.1 h.2.2.1 h.2.2.2
theorem m_shift_right (w:World):MtV w (KP w) 2 (.ref 147) shiftRightS.use :=
 mcK (gnd _) ((Wd.nil w _ 1).cons (kk_normal _) (m_normal w) (by decide)) (k_shift_right _) (fun _=>rfl) fun x h=>w_shift_right _ _ _ h.1 h.2.1 h.2.2.1 h.2.2.2
theorem m_bits (w:World):MtV w (KP w) 1 (.ref 154) bitsS.use :=
 mcK (gnd _) (Wd.nil w _ 0) (k_bits _) (fun _=>rfl) fun x h=>w_bits _ _ _ h.1 h.2.1 h.2.2
theorem m_bit (w:World):MtV w (KP w) 1 (.ref 161) bitS.use :=
 mcK (gnd _) (Wd.nil w _ 0) (k_bit _) (fun _=>rfl) fun x h=>w_bit _ _ _ _ h.1 h.2
theorem m_trailing (w:World):MtV w (KP w) 1 (.ref 168) trailingS.use :=
 mcK (gnd _) (Wd.nil w _ 0) (k_trailing _) (fun _=>rfl) fun x h=>w_trailing _ _ _ h.1 h.2.1 h.2.2.1 h.2.2.2
theorem m_inverse_limb (w:World):MtV w (KP w) 1 (.ref 175) inverseS.use :=
 mcK (gnd _) (Wd.nil w _ 0) (k_inverse_limb _) (fun _=>rfl) fun x h=>w_inverse_limb _ _ _ h.1 h.2.1 h.2.2.1 h.2.2.2
theorem m_doubled_rest (w:World):MtV w (KP w) 3 (.ref 203) doubledS.use :=
 mcK (gnd _) ((((Wd.nil w _ 2).cons (kk_sub _) (m_sub w) (by decide)).cons (kk_compare _) (m_compare w) (by decide)).cons (kk_shift_left _) (m_shift_left w) (by decide)) (k_doubled_rest _) (fun _=>rfl) fun x h=>w_doubled _ _ _ h.1 h.2.1 h.2.2.1 h.2.2.2
theorem m_taken_once (w:World):MtV w (KP w) 3 (.ref 224) takenS.use :=
 mcK (gnd _) (((Wd.nil w _ 2).cons (kk_sub _) (m_sub w) (by decide)).cons (kk_compare _) (m_compare w) (by decide)) (k_taken_once _) (fun _=>rfl) fun x h=>w_taken _ _ _ h.1 h.2.1 h.2.2.1 h.2.2.2
theorem m_mont_make (w:World):MtV w (KP w) 4 (.ref 210) makeS.use :=
 mcK (gnd _) (((((Wd.nil w _ 3).cons (kk_Montgomery _) (m_Montgomery w) (by decide)).cons (kk_inverse_limb _) (m_inverse_limb w) (by decide)).cons (kk_doubled_rest _) (m_doubled_rest w) (by decide)).cons (kk_is_even _) (m_is_even w) (by decide)) (k_mont_make _) (fun _=>rfl) fun x h=>w_make _ _ h
theorem m_add_row (w:World):MeetsB w (KP w) 1 217 addRowS :=
 meets_chkB (gnd _) (Wd.nil w _ 0) (k_add_row _) (fun _=>rfl) fun x h=>w_add_row _ _ _ _ _ _ h.1 h.2.1 h.2.2.1 h.2.2.2.1 h.2.2.2.2.1 h.2.2.2.2.2.1 h.2.2.2.2.2.2.1 h.2.2.2.2.2.2.2
theorem m_redc (w:World):MtV w (KP w) 4 (.ref 231) redcS.use :=
 mcK (gnd _) ((((((Wd.nil w _ 3).consB (kk_add_row _) (m_add_row w) (by decide)).cons (kk_taken_once _) (m_taken_once w) (by decide)).cons (kk_normal _) (m_normal w) (by decide)).cons (kk_lifted _) (m_lifted w) (by decide)).cons (kk_compare _) (m_compare w) (by decide)) (k_redc _) (fun _=>rfl) fun x h=>w_redc _ _ _ h.1 h.2
theorem m_mul_school (w:World):MtV w (KP w) 2 (.ref 481) mulSp.use :=
 mcK (gnd _) ((Wd.nil w _ 1).cons (kk_normal _) (m_normal w) (by decide)) (k_mul_school _) (fun _=>rfl) fun x h=>w_mul_school ⟨[],[],none⟩ _ _ _ h.1 h.2.1 h.2.2.1 h.2.2.2
theorem m_to_mont (w:World):MtV w (KP w) 5 (.ref 238) toMontS.use :=
 mcK (gnd _) ((((Wd.nil w _ 4).cons (kk_mul_school _) (m_mul_school w) (by decide)).cons (kk_redc _) (m_redc w) (by decide)).cons (kk_compare _) (m_compare w) (by decide)) (k_to_mont _) (fun _=>rfl) fun x h=>w_to_mont _ _ _ h.1 h.2
theorem m_from_mont (w:World):MtV w (KP w) 5 (.ref 245) fromMontS.use :=
 mcK (gnd _) ((Wd.nil w _ 4).cons (kk_redc _) (m_redc w) (by decide)) (k_from_mont _) (fun _=>rfl) fun x h=>w_from_mont _ _ _ h
theorem m_mont_mul (w:World):MtV w (KP w) 5 (.ref 252) montMulS.use :=
 mcK (gnd _) (((Wd.nil w _ 4).cons (kk_mul_school _) (m_mul_school w) (by decide)).cons (kk_redc _) (m_redc w) (by decide)) (k_mont_mul _) (fun _=>rfl) fun x h=>w_mont_mul _ _ _ _ h
theorem m_clo (w:World)(t v q:V):MtV w (KP w) 6 (.clo t v q) fun vs k=>vs.length=2∧montMulS.use (vs++[t,v,q]) k:=meets_clo (m_mont_mul w) t v q
theorem m_odd_powers (w:World):MtV w (KP w) 7 (.ref 259) oddS.use :=
 mcK (gnd _) ((Wd.nil w _ 6).consC (m_clo w) (by decide)) (k_odd_powers _) (fun _=>rfl) fun x h=>w_odd_powers _ _ _ h
theorem m_window_at (w:World):MtV w (KP w) 2 (.ref 266) windowS.use :=
 mcK (gnd _) ((Wd.nil w _ 1).cons (kk_bit _) (m_bit w) (by decide)) (k_window_at _) (fun _=>rfl) fun x h=>w_window _ _ _ h.1 h.2.1 h.2.2.1 h.2.2.2
theorem m_by_windows (w:World):MtV w (KP w) 8 (.ref 273) windowsS.use :=
 mcK (gnd _) ((((((Wd.nil w _ 7).consC (m_clo w) (by decide)).cons (kk_window_at _) (m_window_at w) (by decide)).cons (kk_bit _) (m_bit w) (by decide)).cons (kk_bits _) (m_bits w) (by decide)).cons (kk_odd_powers _) (m_odd_powers w) (by decide)) (k_by_windows _) (fun _=>rfl) fun x h=>w_by_windows _ _ _ _ h.1 h.2
theorem m_divrem_small (w:World):MtV w (KP w) 3 (.ref 488) smallDS.use :=
 mcK (gnd _) ((Wd.nil w _ 2).cons (kk_divrem_limb _) (m_divrem_limb w) (by decide)) (k_divrem_small _) (fun _=>rfl) fun x h=>w_divrem_small _ _ _ h.1 h.2.1 h.2.2.1 h.2.2.2.1 h.2.2.2.2
theorem m_guessed_limb (w:World):MtV w (KP w) 1 (.ref 495) guessS.use :=
 mcK (gnd _) (Wd.nil w _ 0) (k_guessed_limb _) (fun _=>rfl) fun x h=>w_guess _ x h
theorem m_take_away (w:World):MeetsB w (KP w) 1 502 takeS :=
 meets_chkB (gnd _) (Wd.nil w _ 0) (k_take_away _) (fun _=>rfl) fun x h=>w_take_away _ x h
theorem m_put_back (w:World):MeetsB w (KP w) 1 509 putS :=
 meets_chkB (gnd _) (Wd.nil w _ 0) (k_put_back _) (fun _=>rfl) fun x h=>w_put_back _ x h
theorem m_divide_rows (w:World):MeetsB w (KP w) 2 516 rowsDS :=
 meets_chkB (gnd _) ((((Wd.nil w _ 1).consB (kk_put_back _) (m_put_back w) (by decide)).consB (kk_take_away _) (m_take_away w) (by decide)).cons (kk_guessed_limb _) (m_guessed_limb w) (by decide)) (k_divide_rows _) (fun _=>rfl) fun x h=>w_divide_rows x h
theorem m_divrem_school (w:World):MtV w (KP w) 4 (.ref 523) divremS.use :=
 mcK (gnd _) ((((((((Wd.nil w _ 3).consB (kk_divide_rows _) (m_divide_rows w) (by decide)).cons (kk_shift_right _) (m_shift_right w) (by decide)).cons (kk_normal _) (m_normal w) (by decide)).cons (kk_shift_left _) (m_shift_left w) (by decide)).cons (kk_bits _) (m_bits w) (by decide)).cons (kk_divrem_small _) (m_divrem_small w) (by decide)).cons (kk_compare _) (m_compare w) (by decide)) (k_divrem_school _) (fun _=>rfl) fun x h=>w_divrem_school _ _ _ h.1 h.2.1 h.2.2.1 h.2.2.2.1 h.2.2.2.2
theorem m_power_mont (w:World):MtV w (KP w) 9 (.ref 287) powerS.use :=
 mcK (gnd _) (((((((Wd.nil w _ 8).cons (kk_from_mont _) (m_from_mont w) (by decide)).cons (kk_by_windows _) (m_by_windows w) (by decide)).cons (kk_mont_times _) (m_mont_times w) (by decide)).cons (kk_to_mont _) (m_to_mont w) (by decide)).cons (kk_divrem_school _) (m_divrem_school w) (by decide)).cons (kk_mont_make _) (m_mont_make w) (by decide)) (k_power_mont _) (fun _=>rfl) fun x h=>w_power_mont _ _ _ _ h.1 h.2.1 h.2.2
theorem m_check_odd (w:World):MtV w (KP w) 2 (.ref 322) checkS.use :=
 mcK (gnd _) ((Wd.nil w _ 1).cons (kk_is_even _) (m_is_even w) (by decide)) (k_check_odd _) (fun _=>rfl) fun x h=>w_check_odd _ _ h.1 h.2.1 h.2.2
theorem m_rest_small (w:World):MtV w (KP w) 1 (.ref 301) restS.use :=
 mcK (gnd _) (Wd.nil w _ 0) (k_rest_small _) (fun _=>rfl) fun x h=>w_rest_small _ _ _ _ h.1 h.2.1 h.2.2.1 h.2.2.2.1 h.2.2.2.2
theorem m_odd_part (w:World):MtV w (KP w) 3 (.ref 315) oddPartS.use :=
 mcK (gnd _) (((Wd.nil w _ 2).cons (kk_shift_right _) (m_shift_right w) (by decide)).cons (kk_trailing _) (m_trailing w) (by decide)) (k_odd_part _) (fun _=>rfl) fun x h=>w_odd_part _ _ h.1 h.2.1 h.2.2.1 h.2.2.2
theorem m_square_rest (w:World):MtV w (KP w) 5 (.ref 329) squareS.use :=
 mcK (gnd _) (((Wd.nil w _ 4).cons (kk_divrem_school _) (m_divrem_school w) (by decide)).cons (kk_mul_school _) (m_mul_school w) (by decide)) (k_square_rest _) (fun _=>rfl) fun x h=>w_square_rest _ _ _ h.1 h.2.1 h.2.2.1 h.2.2.2
theorem m_strong_rows (w:World):MtV w (KP w) 10 (.ref 336) rowsS.use :=
 mcK (gnd _) (((((Wd.nil w _ 9).cons (kk_square_rest _) (m_square_rest w) (by decide)).cons (kk_power_mont _) (m_power_mont w) (by decide)).cons (kk_odd_part _) (m_odd_part w) (by decide)).cons (kk_sub_limb _) (m_sub_limb w) (by decide)) (k_strong_rows _) (fun _=>rfl) fun x h=>w_strong_rows _ _ _ h.1 h.2.1 h.2.2
theorem m_strong_probable (w:World):MtV w (KP w) 11 (.ref 343) strongS.use :=
 mcK (gnd _) (((((Wd.nil w _ 10).cons (kk_sub_limb _) (m_sub_limb w) (by decide)).cons (kk_strong_rows _) (m_strong_rows w) (by decide)).cons (kk_divrem_school _) (m_divrem_school w) (by decide)).cons (kk_check_odd _) (m_check_odd w) (by decide)) (k_strong_probable _) (fun _=>rfl) fun x h=>w_strong _ _ _ h.1 h.2.1 h.2.2
theorem m_least_witness (w:World):MtV w (KP w) 12 (.ref 467) witnessS.use :=
 mcK (gnd _) ((((Wd.nil w _ 11).cons (kk_strong_probable _) (m_strong_probable w) (by decide)).cons (kk_nat_of _) (m_nat_of w) (by decide)).cons (kk_check_odd _) (m_check_odd w) (by decide)) (k_least_witness _) (fun _=>rfl) fun x h=>w_least_witness _ _ _ h.1 h.2.1 h.2.2
theorem m_divided_out (w:World):MtV w (KP w) 3 (.ref 474) divOutS.use :=
 mcK (gnd _) ((Wd.nil w _ 2).cons (kk_divrem_limb _) (m_divrem_limb w) (by decide)) (k_divided_out _) (fun _=>rfl) fun x h=>w_divided_out _ _ _ h.1 h.2.1 h.2.2.1 h.2.2.2.1 h.2.2.2.2
theorem m_small_primes (w:World):MtV w (KP w) 1 (.ref 294) smallS.use :=
 mcK (gnd _) (Wd.nil w _ 0) (k_small_primes _) (fun _=>rfl) fun x h=>w_small_primes _
theorem m_trial (w:World):MtV w (KP w) 2 (.ref 308) trialS.use :=
 mcK (gnd _) ((((Wd.nil w _ 1).cons (kk_nat_of _) (m_nat_of w) (by decide)).cons (kk_rest_small _) (m_rest_small w) (by decide)).cons (kk_small_primes _) (m_small_primes w) (by decide)) (k_trial _) (fun _=>rfl) fun x h=>w_trial _ _ h.1 h.2.1 h.2.2
theorem m_is_probable (w:World):MtV w (KP w) 3 (.ref 453) probS.use :=
 mcK (gnd _) ((((Wd.nil w _ 2).cons (kk_trial _) (m_trial w) (by decide)).cons (kk_nat_of _) (m_nat_of w) (by decide)).cons (kk_compare _) (m_compare w) (by decide)) (k_is_probable _) (fun _=>rfl) fun x h=>w_is_probable _ _ h.1 h.2.1 h.2.2
theorem m_is_pair (w:World):MtV w (KP w) 4 (.ref 460) pairS.use :=
 mcK (gnd _) ((((Wd.nil w _ 3).cons (kk_add _) (m_add w) (by decide)).cons (kk_nat_of _) (m_nat_of w) (by decide)).cons (kk_is_probable _) (m_is_probable w) (by decide)) (k_is_pair _) (fun _=>rfl) fun x h=>w_is_pair _ _ h.1 h.2.1 h.2.2
theorem m_law_power (w:World):MtV w (KP w) 1 (.ref 540) lawPowS.use :=
 mcK (gnd _) (Wd.nil w _ 0) (k_law_power _) (fun _=>rfl) fun x h=>w_law_power _ _ _ _ h.1 h.2.1 h.2.2
theorem m_law_lets (w:World):MtV w (KP w) 2 (.ref 547) lawLetsS.use :=
 mcK (gnd _) ((Wd.nil w _ 1).cons (kk_law_power _) (m_law_power w) (by decide)) (k_law_lets _) (fun _=>rfl) fun x h=>w_law_lets _ _ h.1 h.2.1 h.2.2
end
section
section
variable {w:World}{A:Around}{s:Shared}{K:Frag}{Γ:Gam}{G:List (String×V)}{k:Ck}{dep:Nat}{c:Cx}{fl:Addr→Prop}{σ:Sg}{oa:Nat→Addr}
noncomputable abbrev lst0 (items:List Value):Obj:=LCg.lst items
def EltP (w:World)(A:Around)(c:Cx)(fl:Addr→Prop)(σ:Sg)(oa:Nat→Addr)(elt:Expr)(Inv':List Int→Prop)(acc:List Int):Prop :=
 ∀ s,St c fl σ oa s.heap→wpAny (model PG w) A (eval elt c.env) (PE c fl σ oa s fun r τ=>τ=σ∧∃ z,r=.int z∧Inv' (acc++[z])) Ed s
def TurnP (w:World)(A:Around)(c:Cx)(fl:Addr→Prop)(σ:Sg)(oa:Nat→Addr)(ifs:List Expr)(elt:Expr)(Inv':List Int→Prop)(acc:List Int):Prop:=match ifs with
 | []=>EltP w A c fl σ oa elt Inv' acc
 | [t]=>∀ s,St c fl σ oa s.heap→wpAny (model PG w) A (isTrue t c.env (eval t c.env)) (PT c fl σ oa s fun b τ=>τ=σ∧(if b=true then EltP w A c fl σ oa elt Inv' acc else Inv' acc)) Ed s
 | _=>False
structure AfterT (c:Cx) (fl:Addr→Prop) (σ:Sg) (oa:Nat→Addr) (D:Addr) (Inv':List Int→Prop) (m:Nat) (s s':Shared):Prop where
 ex:∃ acc items,Inv' acc∧s'.heap.get? D=some (lst0 items)∧IntsAre items acc∧items.length≤m+1
 fr:Frm s s'
 st:St c fl σ oa s'.heap
 keep:∀ b o,s.heap.get? b=some o→b≠tabA→b≠c.L→b≠D→s'.heap.get? b=some o
 live:∀ b,Live s.heap b→Live s'.heap b
 grow:Grow s.heap s'.heap
theorem ints_snoc {items:List Value}{ns:List Int}(I:IntsAre items ns)(z:Int)(t:Tok):IntsAre (items++[.int z t]) (ns++[z]):=by
 induction I with
 | nil=>exact .cons z t .nil
 | cons a b _ ih=>exact .cons a b ih
theorem elt_tail {elt:Expr}{D:Addr}{items:List Value}{acc:List Int}{Inv':List Int→Prop}(hE:EltP w A c fl σ oa elt Inv' acc)(S:St c fl σ oa s.heap)(hD:s.heap.get? D=some (lst0 items))(I:IntsAre items acc)(hsz:items.length≤1000)(fD:fl D)(nL:D≠c.L)(nT:D≠tabA)(n0:c.g0.get? D=none)
  (noO:∀ b,¬OwnA σ oa b) {R5:Shared→Prop} {E':Value→Shared→Prop} (q:∀ s',AfterT c fl σ oa D Inv' items.length s s'→R5 s') :
  wpAny (model PG w) A (eval elt c.env) (fun x s₄=>wpAny (model PG w) A (call (.builtin "list.append") [.ref D,x]) (fun _ s₅=>R5 s₅) E' s₄) E' s:=by
 refine wpAny_mono (hE s S) (fun x s₄ p=>?_) fun _ _ z=>z.elim
 obtain ⟨v,τ,⟨rfl,z,rfl,hI⟩,⟨f₁,S₁,e₁⟩,r₁⟩:=p
 obtain ⟨t,rfl⟩:=r₁.int_inv
 have hD₁:=e₁.keep D _ hD nT nL (noO D)
 refine append_at (hsz:=by show items.toArray.size≤sizeLine;rw [List.size_toArray];exact Nat.le_trans hsz (by decide)) hD₁ fun h' sb hD'=>q _ ?_
 have hD':h'.get? D=some (lst0 (items++[.int z t])):=by rw [hD',LCg.lst_snoc]
 have kp:∀ b o,¬b=D→s₄.heap.get? b=some o→h'.get? b=some o:=fun b o n e=>(sb.2 b n).trans e
 have lvD:LiveN h' D:=⟨_,hD',.inr fun vs t z=>by cases z⟩
 obtain ⟨S₂,_⟩:=S₁.touch (fl:=fl) (wr:=(·=D)) (h':=h') kp (fun b z=>by
  subst z
  exact ⟨fD,noO _,nL,nT,n0,fun o e=>by
   rw [hD₁] at e;cases e
   exact ⟨fun vs t z=>(by cases z),fun v z=>(by cases z)⟩⟩) (fun b z=>z) (fun b z y=>absurd z y) (fun b z=>by
  by_cases hb:b=D
  ·rw [hb];exact lvD
  ·refine x1a2 (S₁.flt b z) fun o e n=>?_;exact ⟨o,kp b o hb e,n⟩)
 refine ⟨⟨acc++[z],items++[.int z t],hI,hD',ints_snoc I z t,by simp⟩,f₁.trans (.mk _ _ _),S₂,fun b o e n1 n2 n3=>kp b o n3 (e₁.keep b o e n1 n2 (noO b)),fun b z=>?_,e₁.grow.keep fun o e=>kp _ o nT.symm e⟩
 by_cases hb:b=D
 ·rw [hb];exact lvD.live
 ·obtain ⟨o,e⟩:=e₁.live b z;exact ⟨o,kp b o hb e⟩
theorem comp_tail {elt:Expr}{ifs:List Expr}{D:Addr}{items:List Value}{acc:List Int}{Inv':List Int→Prop}(hT:TurnP w A c fl σ oa ifs elt Inv' acc)(S:St c fl σ oa s.heap)(hD:s.heap.get? D=some (lst0 items))(I:IntsAre items acc)(hsz:items.length≤1000)(fD:fl D)(nL:D≠c.L)(nT:D≠tabA)(n0:c.g0.get? D=none)
  (noO:∀ b,¬OwnA σ oa b) {R5:Shared→Prop} {E':Value→Shared→Prop} (q:∀ s',AfterT c fl σ oa D Inv' items.length s s'→R5 s') :
  wpAny (model PG w) A (forIn ifs true fun t r=>if r=true then do let ok ← isTrue t c.env (eval t c.env);pure (ForInStep.yield ok) else pure (ForInStep.yield r)) (fun ok s₃ =>
   if ok=true then wpAny (model PG w) A (eval elt c.env) (fun x s₄=>wpAny (model PG w) A (call (.builtin "list.append") [.ref D,x]) (fun _ s₅=>R5 s₅) E' s₄) E' s₃ else R5 s₃) E' s:=by
 unfold TurnP at hT
 split at hT
 ·refine wpAny_tests_nil ?_
  rw [if_pos rfl]
  exact elt_tail hT S hD I hsz fD nL nT n0 noO q
 ·refine wpAny_tests_one (wpAny_mono (hT s S) (fun b s₃ p=>?_) fun _ _ z=>z.elim)
  obtain ⟨τ,⟨rfl,hb⟩,⟨f₁,S₁,e₁⟩⟩:=p
  have hD₁:=e₁.keep D _ hD nT nL (noO D)
  cases b with
  | true =>
   rw [if_pos rfl] at hb ⊢
   refine elt_tail hb S₁ hD₁ I hsz fD nL nT n0 noO fun s' a=>q s' ⟨a.ex,f₁.trans a.fr,a.st,fun b o e k1 k2 k3=>a.keep b o (e₁.keep b o e k1 k2 (noO b)) k1 k2 k3,fun b z=>a.live b (e₁.live b z),.trans e₁.live e₁.grow a.grow⟩
  | false =>
   rw [if_neg (by decide)] at hb ⊢
   exact q s₃ ⟨⟨acc,items,hb,hD₁,I,Nat.le_succ _⟩,f₁,S₁,fun b o e k1 k2 _=>e₁.keep b o e k1 k2 (noO b),e₁.live,e₁.grow⟩
 ·exact hT.elim
structure LoopEnd (c:Cx) (D:Addr) (Inv:List Int→Prop) (s0 s':Shared):Prop where
 ex:∃ acc items,Inv acc∧s'.heap.get? D=some (lst0 items)∧IntsAre items acc∧items.length≤1000
 fr:Frm s0 s'
 x:Ext s0.heap s'.heap
 gi:GI c.g0 s'.heap
 ns:∃ m,s'.heap.Ns c.L m
theorem comp_range {I D:Addr}{x:Str}{px:Pos}{elt iter:Expr}{ifs:List Expr}{scope:Scope}{pos:Pos}{n:Nat}{a0:Int}{caps:Sg}(hf:c.env.scope.kind=.function)(hh:A.handled=none)(nd:c.vars.Nodup)(hx:c.vars[0]?=some x)(hk:c.env.kindOf x=some .local)
  (hcap:∀ sl∈caps,∃ v,sl=.val v) (hn:n≤1000)
  {s0 s1:Shared} (F01:Frm s0 s1) (X01:Ext s0.heap s1.heap) (S1:St c (fun b=>b∈[D,I]∨fl b) (.un::caps) oa s1.heap)
  (st0:IsRangeIter s1.heap I (a0+((0:Nat):Int)*1) ((n:Int)-((0:Nat):Int)) 1) (hD:s1.heap.get? D=some (lst0 []))
  (nD:D≠c.L∧D≠tabA∧s0.heap.get? D=none∧c.g0.get? D=none) (nI:I≠c.L∧I≠tabA∧s0.heap.get? I=none∧c.g0.get? I=none) (nDI:D≠I) (nL:s0.heap.get? c.L=none) (flt0:∀ b,fl b→Live s0.heap b)
  {Inv:Nat→List Int→Prop} (I0:Inv 0 [])
  (bd:∀ j acc,j<n→Inv j acc→TurnP w A c (fun b=>b∈[D,I]∨fl b) (.val (.int (a0+(j:Int)))::caps) oa ifs elt (Inv (j+1)) acc)
  {R:Result→Shared→Prop} (hR:∀ s',LoopEnd c D (Inv n) s0 s'→R (.ok .next) s') :
  codeAny (model PG w) A (.compLoop (.ListComp elt [⟨.Name x px,iter,ifs,0⟩] scope pos) 0 (.ref I) (.ref D) c.env) R s1:=by
 have Wk:=LCg.range_walks (prog:=PG) (w:=w) (I:=I) hh a0 n
 have noO:∀ {sl:Slot},(sl=.un∨∃ v,sl=.val v)→∀ b,¬OwnA (sl::caps) oa b:=fun {sl} z b ⟨i,l,e,_⟩=>by
  cases i with
  | zero =>
   rcases z with rfl | ⟨v,rfl⟩ <;> rcases e with e | e <;> cases e
  | succ i =>
   have:∀ y,caps[i]?=some y→∃ v,y=.val v:=fun y e=>hcap y (List.mem_of_getElem? e)
   rcases e with e | e <;> (obtain ⟨v,z⟩:=this _ e;cases z)
 refine codeAny_compLoop_tests (fun m s=>∃ j acc items sl,m=n+1-j∧j≤n∧Inv j acc∧IsRangeIter s.heap I (a0+(j:Nat)*1) ((n:Int)-(j:Nat)) 1∧s.heap.get? D=some (lst0 items)∧IntsAre items acc∧items.length≤j∧Frm s0 s ∧
   St c (fun b=>b∈[D,I]∨fl b) (sl::caps) oa s.heap∧(sl=.un∨∃ v,sl=.val v)∧Ext s0.heap s.heap) ?_ (n+1)
  ⟨0,[],[],.un,rfl,Nat.zero_le _,I0,st0,hD,.nil,Nat.le_refl _,F01,S1,.inl rfl,X01⟩
 refine fun m s zh=>x4a5 zh fun j acc items sl zq hj hI hst zh2=>an7 zh2 fun hD hit hil fr S hsl X=>?_;clear zh2 zh;subst zq
 have deadD:∀ b,s0.heap.get? b=none→∀ o,s0.heap.get? b≠some o:=fun b e o z=>by rw [e] at z;cases z
 have step:∀ h₁:Heap,(∀ b o,b∉[I]→s.heap.get? b=some o→h₁.get? b=some o)→LiveN h₁ I →
   St c (fun b=>b∈[D,I]∨fl b) (sl::caps) oa h₁∧h₁.get? D=some (lst0 items)∧Ext s0.heap h₁:=fun h₁ hk₁ lI=>by
  have kp:∀ b o,¬b=I→s.heap.get? b=some o→h₁.get? b=some o:=fun b o z e=>hk₁ b o (by simpa using z) e
  obtain ⟨S₁,_⟩:=S.touch (fl:=fun b=>b∈[D,I]∨fl b) (wr:=(·=I)) (h':=h₁) kp (fun b z=>by
   subst z
   refine ⟨.inl (by simp),noO hsl _,nI.1,nI.2.1,nI.2.2.2,fun o e=>?_⟩
   have e':s.heap.get? b=_:=hst
   rw [e'] at e;cases e
   exact ⟨fun vs t z=>by cases z;simp [rawInt],fun v z=>by cases z⟩) (fun b z=>z) (fun b z y=>absurd z y) (fun b z=>by
   by_cases hb:b=I
   ·rw [hb];exact lI
   ·refine x1a2 (S.flt b z) fun o e n=>?_;exact ⟨o,kp b o hb e,n⟩)
  refine ⟨S₁,kp _ _ nDI hD,⟨fun b o e ne=>kp b o (fun z=>by rw [z,nI.2.2.1] at e;cases e) (X.keep b o e ne),fun z=>?_,X.grow.keep fun o e=>kp _ o nI.2.1.symm e⟩⟩
  obtain ⟨o,e⟩:=X.tab z
  exact ⟨o,kp _ o nI.2.1.symm e⟩
 by_cases hlt:j<n
 ·refine Wk.item j s _ _ hlt hst fun y h₁ tk₁ hP hst₁ hk₁=>?_
  obtain ⟨t,rfl⟩:=hP
  refine an3 (step h₁ hk₁ ⟨_,hst₁,.inr fun vs t z=>by cases z;simp [rawInt]⟩) fun S₁ hD₁ X₁=>?_
  refine x1a2 (id S₁.ns) fun m N _=>?_
  refine wpAny_assign_Name (wpAny_mono (store_rule (s:={ s with heap:=h₁,toks:=tk₁ }) (Q:=fun _ s₂=>∃ h',s₂={ s with heap:=h',toks:=tk₁+1 }∧(h'.Ns c.L fun z=>if z=x then some (.int (a0+(j:Int)) t) else m z)∧Heap.SameBut c.L h₁ h') hk hf N fun h' N' sb=>⟨h',rfl,N',sb⟩) (fun _ s₂ p=>?_) fun _ _ z=>z.elim)
  refine x1a3 p fun h₂ zq1 N₂ sb₂=>?_;clear p;subst zq1
  obtain ⟨S₂,e₂⟩:=S₁.store nd hx hk N (.int _ t) N₂ sb₂
  have S₂:St c (fun b=>b∈[D,I]∨fl b) (.val (.int (a0+(j:Int)))::caps) oa h₂:=S₂
  have up:∀ b o,h₁.get? b=some o→b≠c.L→h₂.get? b=some o:=fun b o e z=>(sb₂.2 b z).trans e
  have hD₂:=up D _ hD₁ nD.1
  have hst₂:=up I _ hst₁ nI.1
  refine comp_tail (s:={ s with heap:=h₂,toks:=tk₁+1 }) (bd j acc hlt hI) S₂ hD₂ hit (by exact F3 [_,_,_] [] 87438220004495516131190037358688 hn hil hlt) (.inl (by simp)) nD.1 nD.2.1 nD.2.2.2 (noO (.inr ⟨_,rfl⟩)) fun s' a=>?_
  refine x2a4 a.ex fun acc' items' hI' hD' hit' hil'=>?_
  refine ⟨_,by exact F2 [_,_,_,_] [] 6021361560946777630415549726996576 sb1 (nSc (F1 [_,_] [] 308512045005875296 hlt)),j+1,acc',items',.val (.int (a0+(j:Int))),rfl,hlt,hI',?_,hD',hit',by exact F2 [_,_,_] [] 80874606357544045656160 hil (hil'),fr.trans (Frm.trans (.mk s h₂ _) a.fr),a.st,.inr ⟨_,rfl⟩,⟨fun b o e ne=>?_,fun z=>?_,?_⟩⟩
  ·exact a.keep I _ hst₂ nI.2.1 nI.1 nDI.symm
  ·have n1:b≠c.L:=fun z=>by rw [z,nL] at e;cases e
   have n2:b≠D:=fun z=>by rw [z,nD.2.2.1] at e;cases e
   exact a.keep b o (up b o (X₁.keep b o e ne) n1) ne n1 n2
  ·obtain ⟨o,e⟩:=X₁.tab z
   exact a.live _ ⟨o,up _ o e fun z=>S.lt z.symm⟩
  ·refine .trans (fun b z=>?_) (X₁.grow.keep fun o e=>up _ o e fun z=>S.lt z.symm) a.grow
   obtain ⟨o,e⟩:=X₁.live z
   exact ⟨o,up b o e fun y=>by obtain ⟨o',z⟩:=z;rw [y,nL] at z;cases z⟩
 ·obtain rfl:j=n:=nAs hj (Nat.not_lt.mp hlt)
  refine Wk.done s _ _ hst fun h₁ tk₁ hk₁=>?_
  have kp:∀ b o,¬b=I→s.heap.get? b=some o→h₁.get? b=some o:=fun b o z e=>hk₁ b o (by simpa using z) e
  obtain ⟨S₁,_⟩:=S.touch (fl:=fl) (wr:=(·=I)) (h':=h₁) kp (fun b z=>by
   subst z
   refine ⟨.inl (by simp),noO hsl _,nI.1,nI.2.1,nI.2.2.2,fun o e=>?_⟩
   have e':s.heap.get? b=_:=hst
   rw [e'] at e;cases e
   exact ⟨fun vs t z=>by cases z;simp [rawInt],fun v z=>by cases z⟩) (fun b z=>.inr z) (fun b z y=>noO hsl b) (fun b z=>by
   refine x1a2 (S.flt b (.inr z)) fun o e n=>?_
   refine ⟨o,kp b o (fun y=>?_) e,n⟩
   obtain ⟨o',z⟩:=flt0 b z
   rw [y,nI.2.2.1] at z;cases z)
  refine x1a2 (id S₁.ns) fun m N _=>?_
  refine hR _ ⟨⟨acc,items,hI,kp _ _ nDI hD,hit,by exact F2 [_,_] [] 333550338744326124180873312 hil hn⟩,fr.trans (.mk _ _ _),⟨fun b o e ne=>kp b o (fun z=>by rw [z,nI.2.2.1] at e;cases e) (X.keep b o e ne),fun z=>?_,X.grow.keep fun o e=>kp _ o nI.2.1.symm e⟩,S₁.gi,⟨m,N⟩⟩
  obtain ⟨o,e⟩:=X.tab z
  exact ⟨o,kp _ o nI.2.1.symm e⟩
end
end
section
structure CompSc (c₀:Cx) (scope:Scope) (xs:List Str) (y:Str):Prop where
 hcell:∀ z∈scope.names,z.2≠.cell
 hkind:scope.kind=.function
 hnames:∀ z∈scope.names,z.2=.local→scope.names.lookup z.1=some .local
 hx:∀ x∈xs,scope.names.lookup x=some .local
 nd:(xs++[y]).Nodup
 hy:(relabel scope c₀.env).names.lookup y=some .cell
 clos:∀ ca,c₀.env.cells.lookup y=some ca→closureFor scope c₀.env=pure [(y,ca)]
structure CompCx (c₀:Cx) (scope:Scope) (vs:List Str) (c:Cx):Prop where
 sc:c.env.scope=relabel scope c₀.env
 vars:c.vars=vs
 g0:c.g0=c₀.g0
 gl:c.env.globals=c₀.env.globals
 bu:c.env.builtins=c₀.env.builtins
structure CoreEnd (g0:Heap) (Inv:List Int→Prop) (s:Shared) (C D:Addr) (s':Shared):Prop where
 dC:s.heap.get? C=none
 dD:s.heap.get? D=none
 ne:D≠C
 ex:∃ acc items,Inv acc∧s'.heap.get? D=some (lst0 items)∧IntsAre items acc∧items.length≤1000
 fr:Frm s s'
 x:Ext s.heap s'.heap
 gi:GI g0 s'.heap
 ns:∃ m,s'.heap.Ns C m
structure CompOut (g0:Heap) (Inv:List Int→Prop) (s:Shared) (r:Value) (s':Shared):Prop where
 ex:∃ D acc items,r=.ref D∧s.heap.get? D=none∧g0.get? D=none∧Inv acc∧s'.heap.get? D=some (lst0 items)∧IntsAre items acc∧items.length≤1000
 fr:Frm s s'
 x:Ext s.heap s'.heap
 gi:GI g0 s'.heap
theorem CoreEnd.out {g0:Heap}{Inv:List Int→Prop}{s s':Shared}{C D:Addr}(gi:GI g0 s.heap)(e:CoreEnd g0 Inv s C D s'){h':Heap}(sb:Heap.SameBut C s'.heap h'):CompOut g0 Inv s (.ref D) { s' with heap:=h' }:=by
 obtain ⟨m,N⟩:=e.ns
 obtain ⟨ps,hP⟩:=gi.tab
 have nT:C≠tabA:=fun z=>by have:=e.dC;rw [z,hP] at this;cases this
 refine ⟨?_,e.fr.trans (.mk _ _ _),⟨fun b o z ne=>?_,fun z=>?_,?_⟩,?_⟩
 ·refine x2a4 e.ex fun acc items i1 i2 i3 i4=>?_
  exact ⟨D,acc,items,rfl,e.dD,gi.dead e.dD,i1,(sb.2 _ e.ne).trans i2,i3,i4⟩
 ·exact (sb.2 b (fun y=>by rw [y,e.dC] at z;cases z)).trans (e.x.keep b o z ne)
 ·obtain ⟨o,z⟩:=e.x.tab z;exact ⟨o,(sb.2 _ nT.symm).trans z⟩
 ·exact e.x.grow.keep fun o z=>(sb.2 _ nT.symm).trans z
 ·refine e.gi.keep fun b o z k=>(sb.2 b fun y=>?_).trans z
  subst y
  rcases k with k | k | ⟨_,vs,k⟩
  ·rw [gi.dead e.dC] at k;cases k
  ·exact nT k
  ·refine x3a3 N fun o' es ep e' d _=>?_;clear N
   rw [z] at e';cases e';rw [k] at d;cases d
section
variable {w:World}{A:Around}{s:Shared}{K:Frag}{Γ:Gam}{G:List (String×V)}{k:Ck}{dep:Nat}{c₀:Cx}{fl:Addr→Prop}{σ:Sg}{oa:Nat→Addr}
theorem comp_st {scope:Scope}{xs:List Str}{y:Str}{ny:Int}{ty:Tok}{ca:Addr}{oc:Obj}{C:Addr}{h h₁:Heap}{fl':Addr→Prop}(Sc:CompSc c₀ scope xs y)(gi:GI c₀.g0 h)(kp:∀ b o,h.get? b=some o→h₁.get? b=some o)(hca:c₀.env.cells.lookup y=some ca)(hoc:h.get? ca=some oc)(hod:oc.data=.cell (some (.int ny ty)))
  (hns:∃ m,h₁.Ns C m) (dC:h.get? C=none) (flt:∀ b,fl' b→LiveN h₁ b):St ⟨compEnvC scope [(y,ca)] C c₀.env,xs++[y],c₀.g0⟩ fl' (List.replicate xs.length .un++[.val (.int ny)]) oa h₁:=by
 obtain ⟨ps,hP⟩:=gi.tab
 have none_own:∀ {i:Nat} {l:List V} {b:Bool},(List.replicate xs.length Slot.un++[.val (.int ny)])[i]?=some (obS b l)→False:=fun {i l b} e=>by
  have:=List.mem_of_getElem? e
  rcases List.mem_append.mp this with z | z
  ·have:=List.eq_of_mem_replicate z;cases b <;> cases this
  ·rw [List.mem_singleton] at z;cases b <;> cases z
 obtain ⟨m,N⟩:=hns
 refine ⟨gi.keep fun b o e _=>kp b o e,gi.dead dC,fun z=>?_,flt,by simp,⟨m,N,fun i z sl e1 e2=>?_⟩,fun i l e=>(none_own (b:=true) e).elim,fun i l e=>(none_own (b:=false) e).elim,fun i j li lj e=>?_⟩
 ·have z:C=tabA:=z
  rw [z,hP] at dC;cases dC
 ·by_cases hi:i<xs.length
  ·rw [List.getElem?_append_left (by rw [List.length_replicate];exact hi),List.getElem?_replicate,if_pos hi] at e2
   cases e2;trivial
  ·have hi':i=xs.length:=by
    have:=(List.getElem?_eq_some_iff.mp e2).1
    simp at this;exact nAs (F1 [_,_] [] 77069197260896 this) (F1 [_,_] [] 1203151120480 hi)
   subst hi'
   have e1:(xs++[y])[xs.length]?=some z:=e1
   rw [List.getElem?_append_right (Nat.le_refl _)] at e1
   rw [List.getElem?_append_right (by simp)] at e2
   simp at e1 e2
   subst e1 e2
   exact ⟨_,.inr ⟨.inl Sc.hy,ca,oc,by show List.lookup y [(y,ca)]=_;simp [List.lookup],kp _ _ hoc,hod⟩,.int _ _⟩
 ·rcases e with e | e
  ·exact (none_own (b:=true) e).elim
  ·exact (none_own (b:=false) e).elim
theorem eval_comp_core {r:Addr}{a0 b0:Int}{t u v:Tok}{x y:Str}{px:Pos}{elt iter:Expr}{ifs:List Expr}{scope:Scope}{pos:Pos}{ny:Int}{ty:Tok}{ca:Addr}{oc:Obj}{E0:Value→Shared→Prop}{n:Nat}(Sc:CompSc c₀ scope [x] y)(hh:A.handled=none)(hfl:∀ b,fl b→LiveN s.heap b)(gi:GI c₀.g0 s.heap)
  (hca:c₀.env.cells.lookup y=some ca) (hoc:s.heap.get? ca=some oc) (hod:oc.data=.cell (some (.int ny ty)))
  (hr:IsRange s.heap r a0 b0 1 t u v) (hsm:Builtin.Range.small a0 b0 1=true) (hn:Builtin.Range.rangeSize a0 b0 1=((n:Nat):Int)) (hn2:n≤1000) {Inv:Nat→List Int→Prop} (I0:Inv 0 [])
  (bd:∀ c,CompCx c₀ scope [x,y] c→∀ fl' oa' j acc,j<n→Inv j acc→TurnP w A c fl' [.val (.int (a0+(j:Int))),.val (.int ny)] oa' ifs elt (Inv (j+1)) acc) {RR:Value→Addr→Result→Shared→Prop}
  (q:∀ C D s',CoreEnd c₀.g0 (Inv n) s C D s'→RR (.ref D) C (.ok .next) s') :
  wpAny (model PG w) A (pyIter (.ref r)) (fun it s₂=>wpAny (model PG w) A (newList []) (fun acc s₃ =>
   wpAny (model PG w) A (newFunctionEnv scope c₀.env.globals [(y,ca)] [] c₀.env.qual none .none (some c₀.env)) (fun cenv s₄ =>
    codeAny (model PG w) A (.compStart (.ListComp elt [⟨.Name x px,iter,ifs,0⟩] scope pos) 0 it acc { cenv with scope:=relabel scope c₀.env }) (RR acc cenv.locals) s₄) E0 s₃) E0 s₂) E0 s:=by
 refine wpAny_pyIter_range hr hsm ?_
 refine wpAny_newObj_type (wpAny_newFunctionEnv Sc.hcell (by intro y hy;simp at hy) (fun h₁ hns₁ hsb₁=>?_) Sc.hkind)
 dsimp only at hns₁ hsb₁ ⊢
 generalize hH1:s.heap.push { cls:=.type "range_iterator",data:=.fields #[rawInt a0,rawInt (Builtin.Range.rangeSize a0 b0 1),rawInt 1] }=H1 at hns₁ hsb₁ ⊢
 generalize hH2:H1.push { cls:=.type "list",dict:=none,data:=.seq ([]:List Value).toArray }=H2 at hns₁ hsb₁ ⊢
 have z1:H1.objs.size=s.heap.objs.size+1:=by rw [← hH1,Heap.size_push]
 have z2:H2.objs.size=s.heap.objs.size+2:=by rw [← hH2,Heap.size_push,z1]
 have dead:∀ i,s.heap.get? (s.heap.objs.size+i)=none:=fun i=>Heap.get?_none_of_le (Nat.le_add_right _ _)
 have dI:s.heap.get? s.heap.objs.size=none:=dead 0
 have dD:s.heap.get? H1.objs.size=none:=by rw [z1];exact dead 1
 have dC:s.heap.get? H2.objs.size=none:=by rw [z2];exact dead 2
 have p1:∀ b o,s.heap.get? b=some o→H1.get? b=some o:=fun b o e=>hH1▸Heap.get?_push_of_some _ e
 have p2:∀ b o,H1.get? b=some o→H2.get? b=some o:=fun b o e=>hH2▸Heap.get?_push_of_some _ e
 have p3:∀ b o,b<H2.objs.size→H2.get? b=some o→h₁.get? b=some o:=fun b o hb e=>hsb₁.extBut b o (Nat.ne_of_lt hb) (Heap.get?_push_of_some _ e)
 have kp:∀ b o,s.heap.get? b=some o→h₁.get? b=some o:=fun b o e=>p3 b o (Nat.lt_of_lt_of_le (Heap.lt_size e) (by rw [z2];exact Nat.le_add_right _ _)) (p2 b o (p1 b o e))
 have hI:h₁.get? s.heap.objs.size=some { cls:=.type "range_iterator",data:=.fields #[rawInt a0,rawInt (Builtin.Range.rangeSize a0 b0 1),rawInt 1] }:=p3 _ _ (by exact F1 [_,_] [] 81399631595616 z2) (p2 _ _ (hH1▸Heap.get?_push_size _ rfl))
 have hD:h₁.get? H1.objs.size=some (lst0 []):=p3 _ _ (by exact F2 [_,_,_] [] 87403323805115290241120 z1 z2) (hH2▸Heap.get?_push_size _ rfl)
 obtain ⟨ps,hP⟩:=gi.tab
 have nT:∀ {b:Addr},s.heap.get? b=none→b≠tabA:=fun e z=>by rw [z,hP] at e;cases e
 have X1:Ext s.heap h₁:=.of kp
 have S1:St ⟨compEnvC scope [(y,ca)] H2.objs.size c₀.env,[x]++[y],c₀.g0⟩ (fun b=>b∈[H1.objs.size,s.heap.objs.size]∨fl b) (List.replicate ([x]:List Str).length .un++[.val (.int ny)]) (fun _=>0) h₁ :=
  comp_st Sc gi kp hca hoc hod ⟨_,hns₁⟩ dC fun b z=>by
   rcases z with z | z
   ·simp at z
    rcases z with z | z
    ·subst z;exact ⟨_,hD,.inr fun vs t z=>by cases z⟩
    ·subst z;exact ⟨_,hI,.inr fun vs t z=>by cases z;simp [rawInt]⟩
   ·exact X1.liveN (hfl b z)
 have loop:∀ s₃:Shared,s₃={ s with heap:=h₁,toks:=s.toks+([]:List (Str×Value)).length } →
   codeAny (model PG w) A (.compLoop (.ListComp elt [⟨.Name x px,iter,ifs,0⟩] scope pos) 0 (.ref s.heap.objs.size) (.ref H1.objs.size) (compEnvC scope [(y,ca)] H2.objs.size c₀.env)) (RR (.ref H1.objs.size) H2.objs.size) s₃:=by
  rintro s₃ rfl
  refine comp_range (c:=⟨compEnvC scope [(y,ca)] H2.objs.size c₀.env,[x]++[y],c₀.g0⟩) (fl:=fl) (oa:=fun _=>0) (I:=s.heap.objs.size) (D:=H1.objs.size) (n:=n) (a0:=a0) (caps:=[.val (.int ny)]) (s0:=s) (Inv:=Inv) Sc.hkind hh Sc.nd rfl (lookup_relabel_local (Sc.hx x (by simp))) (fun sl z=>⟨_,List.mem_singleton.mp z⟩) hn2 (.mk _ _ _) X1 S1 ?_ hD
   ⟨by show H1.objs.size≠H2.objs.size;exact F2 [_,_,_] [] 7652634429362286922582112 z1 z2,nT dD,dD,gi.dead dD⟩ ⟨by show s.heap.objs.size≠H2.objs.size;rw [z2];exact Nat.ne_of_lt (Nat.lt_add_of_pos_right (by decide)),nT dI,dI,gi.dead dI⟩ (by rw [z1];exact Nat.succ_ne_self _) dC (fun b z=>(hfl b z).live) I0 (fun j acc hj hI=>bd ⟨compEnvC scope [(y,ca)] H2.objs.size c₀.env,[x]++[y],c₀.g0⟩ ⟨rfl,rfl,rfl,rfl,rfl⟩ _ _ j acc hj hI) fun s' e=>?_
  ·show IsRangeIter _ _ _ _ _
   rw [← hn]
   simpa using hI
  ·exact q _ _ s' ⟨dC,dD,by show H1.objs.size≠H2.objs.size;exact F2 [_,_,_] [] 7652634429362286922582112 z1 z2,e.ex,e.fr,e.x,e.gi,e.ns⟩
 have hst:IsRangeIter h₁ s.heap.objs.size (a0+((0:Nat):Int)*1) ((n:Int)-((0:Nat):Int)) 1:=by
  show h₁.get? _=some _
  rw [← hn]
  simpa using hI
 exact codeAny_compStart_list (loop _ rfl) ((LCg.range_walks (prog:=PG) (w:=w) hh a0 n).self 0 _ _ _ hst (loop _ rfl))
end
end
section
noncomputable def reSc (osc sc:Scope):Scope :=
 { sc with names:=sc.names.map fun (n,k)=>if (k == .free && osc.kind == .function && osc.names.lookup n == some .cell) then (n,.cell) else (n,k) }
section
variable {w:World}{A:Around}{s:Shared}{K:Frag}{Γ:Gam}{G:List (String×V)}{k:Ck}{dep:Nat}{c c₀:Cx}{fl:Addr→Prop}{σ:Sg}{oa:Nat→Addr}
theorem CompCx.look {scope:Scope}{vs:List Str}(L:Look k c₀)(h:CompCx c₀ scope vs c)(hk:scope.kind=.function):Look ⟨reSc k.sc scope,vs,k.G⟩ c :=
 ⟨by rw [h.sc];show reSc c₀.env.scope scope=_;rw [L.sc],h.vars,by rw [h.sc];exact hk⟩
theorem CompCx.rn {scope:Scope}{vs:List Str}(R:Rn w K Γ G dep A c₀)(h:CompCx c₀ scope vs c)(hk:scope.kind=.function):Rn w K Γ G dep A c :=
 {
  gr:=by rw [h.g0];exact R.gr
  kind:=by rw [h.sc];exact hk
  gl:=h.gl.trans R.gl
  bu:=h.bu.trans R.bu
  hd:=R.hd
  un:=R.un
  dp:=R.dp
  glob:=R.glob
  bl:=R.bl
  fn:=R.fn
  fb:=R.fb
  clo:=R.clo
  att:=R.att }
structure CompE (c₀:Cx) (fl:Addr→Prop) (σ:Sg) (oa:Nat→Addr) (Inv:List Int→Prop) (s:Shared) (r:Value) (s':Shared):Prop where
 ex:∃ D acc items,r=.ref D∧s.heap.get? D=none∧c₀.g0.get? D=none∧Inv acc∧s'.heap.get? D=some (lst0 items)∧IntsAre items acc∧items.length≤1000
 fr:Frm s s'
 st:St c₀ fl σ oa s'.heap
 ev:Ev c₀.L σ oa s.heap σ oa s'.heap
noncomputable def chkScC (k:Ck)(xs:List Str)(y:Str)(nm:List (Str×NameKind))(sc:Scope):Bool :=
 decide (sc.names=nm) && sc.kind == .function && ((reSc k.sc sc).names.lookup y == some .cell) && nm.all (fun z=>z.2 != .cell && (z.2 != .local || nm.lookup z.1 == some .local)) && xs.all (fun x=>nm.lookup x == some .local) && decide (xs++[y]).Nodup
theorem scC_of {xs:List Str}{y:Str}{nm:List (Str×NameKind)}{sc:Scope}(L:Look k c₀)(h:chkScC k xs y nm sc=true)(hcl:∀ env ca,env.cells.lookup y=some ca→sc.names=nm→closureFor sc env=pure [(y,ca)]):CompSc c₀ sc xs y:=by
 unfold chkScC at h
 simp only [Bool.and_eq_true,decide_eq_true_eq,List.all_eq_true,Bool.or_eq_true,beq_iff_eq,bne_iff_ne,ne_eq] at h
 obtain ⟨⟨⟨⟨⟨h1,h2⟩,h3⟩,h4⟩,h5⟩,h6⟩:=h
 refine ⟨fun z hz=>(h4 z (h1▸hz)).1,h2,fun z hz hl=>?_,fun x hx=>h1▸h5 x hx,h6,?_,fun ca hca=>hcl _ ca hca h1⟩
 ·rcases (h4 z (h1▸hz)).2 with q | q
  ·exact absurd hl q
  ·rw [h1];exact q
 ·show (reSc c₀.env.scope sc).names.lookup y=_
  rw [L.sc];exact h3
noncomputable abbrev gE (k:Ck)(e:E)(a:Expr):Bool:=(chkE k e a).isSome
def chkRange (k:Ck)(xs:List Str)(y:Str)(nm:List (Str×NameKind))(ea eb tst elt:E)(a:Expr):Prop:=∃ (el:Expr) (x':Str) (xp:Pos) (rng:Str) (rp:Pos) (r1 r2:Expr) (cp:Pos) (t:Expr) (sc:Scope) (pos:Pos),
  a=.ListComp el [⟨.Name x' xp,.Call (.Name rng rp) [r1,r2] [] cp,[t],0⟩] sc pos∧xs=[x']∧k.isGlob "range" rng=true∧gE k ea r1=true∧gE k eb r2=true∧chkScC k xs y nm sc=true ∧
   gE ⟨reSc k.sc sc,xs++[y],k.G⟩ tst t=true∧tOk tst=true∧gE ⟨reSc k.sc sc,xs++[y],k.G⟩ elt el=true
theorem comp_core {x y:Str}{nm:List (Str×NameKind)}{ea eb tst elt:E}{a:Expr}{ny a0 b0:Int}{n iy:Nat}(C₀:Cs k w A Γ K dep c₀)(h:chkRange k [x] y nm ea eb tst elt a)
  (hcl:∀ (sc:Scope) env ca,env.cells.lookup y=some ca→sc.names=nm→closureFor sc env=pure [(y,ca)])
  (S:St c₀ fl σ oa s.heap) (hyv:c₀.vars[iy]?=some y) (hys:σ[iy]?=some (.val (.int ny))) (hyk:c₀.env.kindOf y=some .cell)
  (hwe:WE Γ ea σ fun va τ=>va=.int a0∧τ=σ∧WE Γ eb σ fun vb τ=>vb=.int b0∧τ=σ) (ba:a0.natAbs<2^40) (bb:b0.natAbs<2^40) (hn:Builtin.Range.rangeSize a0 b0 1=((n:Nat):Int)) (hn2:n≤1000)
  {Inv:Nat→List Int→Prop} (I0:Inv 0 [])
  (bd:∀ j acc,j<n→Inv j acc→WE Γ tst [.val (.int (a0+(j:Int))),.val (.int ny)] (isB fun b τ=>τ=[.val (.int (a0+(j:Int))),.val (.int ny)]∧(if b=true then WE Γ elt [.val (.int (a0+(j:Int))),.val (.int ny)] (fun r τ=>τ=[.val (.int (a0+(j:Int))),.val (.int ny)]∧∃ z,r=.int z∧Inv (j+1) (acc++[z])) else Inv (j+1) acc)))
  {use:Option (Value→Sem Unit)} {Q:Value→Shared→Prop}
  (q:∀ s₂ C D s',Frm s s₂→St c₀ fl σ oa s₂.heap→Ev c₀.L σ oa s.heap σ oa s₂.heap→CoreEnd c₀.g0 (Inv n) s₂ C D s'→compPost (model PG w) A Ed use Q (.ref D) C (.ok .next) s') :
  ∃ el gens sc pos,a=.ListComp el gens sc pos∧firstAsync gens=false∧∀ pos',wpAny (model PG w) A (comprehension a sc c₀.env pos' (newList []) false (firstIter gens c₀.env) use) Q Ed s:=by
 refine x5a1 h fun el x' xp rng rp hy1=>x5a1 hy1 fun r1 r2 cp t sc hy2=>x1a5 hy2 fun pos zq11 h1 g1 g2 hy3=>an5 hy3 fun g4 g6 g7 g9 g10=>?_;clear hy3 hy2 hy1 h;subst zq11
 have g2:=ok_get g2
 have g4:=ok_get g4
 have g7:=ok_get g7
 have g10:=ok_get g10
 refine ⟨_,_,_,_,rfl,rfl,fun pos'=>?_⟩
 cases h1
 have Sc:=scC_of C₀.L g6 fun env ca=>hcl sc env ca
 refine x1a2 (id S.ns) fun m N B=>?_
 refine x1a2 (B iy y _ hyv hys) fun z nz rz=>?_
 obtain ⟨ty,rfl⟩:=VR.int_inv rz
 rcases nz with ⟨e,_⟩ | ⟨_,ca,oc,hca,hoc,hod⟩
 ·rw [hyk] at e;cases e
 refine wpAny_comprehension_free (use:=use) rfl (fun _=>rfl) (Sc.clos ca hca) Sc.hkind Sc.hnames ?_
 show wpAny _ A (eval (.Call (.Name rng rp) [r1,r2] [] cp) c₀.env) _ _ _
 refine wpAny_Call_NameR (blt_at (v:=.type "range") C₀ S g1 (by decide) ?_)
 rw [stC g2.pl,stC g4.pl]
 refine PySem.callWith_type rfl (evalArgs_plain (spliced_cons (wpAny_mono (g2.se C₀ fl σ oa s _ S hwe) (fun y s₁ p=>?_) fun _ _ z=>z)))
 obtain ⟨v,σ₁,⟨rfl,rfl,q₁⟩,⟨f₁,S₁,e₁⟩,r₁⟩:=p
 refine spliced_cons (wpAny_mono (g4.se C₀ fl σ₁ oa s₁ _ S₁ q₁) (fun y s₂ p=>spliced_nil ?_) fun _ _ z=>z)
 obtain ⟨v2,σ₂,⟨rfl,rfl⟩,⟨f₂,S₂,e₂⟩,r₂⟩:=p
 obtain ⟨ta,rfl⟩:=r₁.int_inv
 obtain ⟨tb,rfl⟩:=r₂.int_inv
 refine call_range_2 ?_
 have cell2:s₂.heap.get? ca=some oc:=by
  have h1:ca≠tabA:=fun z=>by obtain ⟨ps,e⟩:=S.gi.tab;rw [z,e] at hoc;cases hoc;cases hod
  have h2:ca≠c₀.L:=fun z=>by refine x3a3 N fun o es ep e d _=>?_;clear N;rw [z,e] at hoc;cases hoc;rw [hod] at d;cases d
  have h3:∀ τ,St c₀ fl τ oa s.heap→¬OwnA τ oa ca:=fun τ S ⟨i,l,e,z⟩=>by
   rcases e with e | e
   ·refine x2a2 ((S.own i l e).2.2.2.2.has) fun its nn g _=>?_;rw [z,hoc] at g;cases g;cases hod
   ·refine x2a2 ((S.bor i l e).2.2.2.2.has) fun its nn g _=>?_;rw [z,hoc] at g;cases g;cases hod
  have:=e₁.keep ca oc hoc h1 h2 (h3 _ S)
  exact e₂.keep ca oc this h1 h2 (h3 _ S)
 have S₃:=S₂.push { cls:=.type "range",data:=.fields #[.int a0 ta,.int b0 tb,.int 1 s₂.toks] }
 refine eval_comp_core (c₀:=c₀) (fl:=fl) Sc C₀.R.hd S₃.flt S₃.gi hca (Heap.get?_push_of_some _ cell2) hod (Heap.get?_push_size _ rfl) (small_of ba bb (by decide)) hn hn2 I0 (fun c hc fl' oa' j acc hj hI=>?_) fun C D s' o=>q _ C D s' (f₁.trans (f₂.trans (.mk _ _ _))) S₃ (e₁.trans (e₂.trans (Ext.push _ _).ev)) o
 have C':Cs ⟨reSc k.sc sc,[x,y],k.G⟩ w A Γ K dep c:=⟨hc.look C₀.L Sc.hkind,hc.rn C₀.R Sc.hkind,by rw [hc.vars];exact Sc.nd⟩
 intro s₃ S₃
 refine wpAny_mono (g7.st g9 C' fl' _ oa' s₃ _ S₃ (bd j acc hj hI)) (fun b s₄ p=>?_) fun _ _ z=>z
 refine x1a2 p fun τ zn1 g₄=>an2 zn1 fun zp1_0 hb=>?_;clear p zn1;subst zp1_0
 refine ⟨_,⟨rfl,?_⟩,g₄⟩
 cases b with
 | true =>
  rw [if_pos rfl] at hb ⊢
  exact fun s₅ S₅=>g10.se C' fl' _ oa' s₅ _ S₅ hb
 | false=>exact hb
theorem CompE.mk' {Inv:List Int→Prop}{s₂ s':Shared}{r:Value}(f:Frm s s₂)(S:St c₀ fl σ oa s₂.heap)(e:Ev c₀.L σ oa s.heap σ oa s₂.heap)(o:CompOut c₀.g0 Inv s₂ r s'):CompE c₀ fl σ oa Inv s r s':=by
 refine x3a7 o.ex fun D acc items zq3 d1 d2 i1 i2 i3 i4=>?_;subst zq3
 have dead:s.heap.get? D=none:=by
  cases q:s.heap.get? D with
  | none=>rfl
  | some o =>
   obtain ⟨o',e'⟩:=e.live D ⟨o,q⟩
   rw [d1] at e';cases e'
 exact ⟨⟨D,acc,items,rfl,dead,d2,i1,i2,i3,i4⟩,f.trans o.fr,S.ext0 o.x o.gi,e.trans o.x.ev⟩
theorem comp_at {x y:Str}{nm:List (Str×NameKind)}{ea eb tst elt:E}{a:Expr}{ny a0 b0:Int}{n iy:Nat}(C₀:Cs k w A Γ K dep c₀)(h:chkRange k [x] y nm ea eb tst elt a)
  (hcl:∀ (sc:Scope) env ca,env.cells.lookup y=some ca→sc.names=nm→closureFor sc env=pure [(y,ca)])
  (S:St c₀ fl σ oa s.heap) (hyv:c₀.vars[iy]?=some y) (hys:σ[iy]?=some (.val (.int ny))) (hyk:c₀.env.kindOf y=some .cell)
  (hwe:WE Γ ea σ fun va τ=>va=.int a0∧τ=σ∧WE Γ eb σ fun vb τ=>vb=.int b0∧τ=σ) (ba:a0.natAbs<2^40) (bb:b0.natAbs<2^40) (hn:Builtin.Range.rangeSize a0 b0 1=((n:Nat):Int)) (hn2:n≤1000)
  {Inv:Nat→List Int→Prop} (I0:Inv 0 [])
  (bd:∀ j acc,j<n→Inv j acc→WE Γ tst [.val (.int (a0+(j:Int))),.val (.int ny)] (isB fun b τ=>τ=[.val (.int (a0+(j:Int))),.val (.int ny)]∧(if b=true then WE Γ elt [.val (.int (a0+(j:Int))),.val (.int ny)] (fun r τ=>τ=[.val (.int (a0+(j:Int))),.val (.int ny)]∧∃ z,r=.int z∧Inv (j+1) (acc++[z])) else Inv (j+1) acc))) :
  wpAny (model PG w) A (eval a c₀.env) (CompE c₀ fl σ oa (Inv n) s) Ed s:=by
 refine x4a3 (comp_core (use:=none) (Q:=CompE c₀ fl σ oa (Inv n) s) C₀ h hcl S hyv hys hyk hwe ba bb hn hn2 I0 bd fun s₂ C D s' f S₂ e o=>by
  obtain ⟨m,N⟩:=o.ns
  exact ⟨m,N,fun h' sb=>CompE.mk' f S₂ e (o.out S₂.gi sb)⟩) fun el gens sc pos zq4 ha h=>?_;subst zq4
 rw [eval_ListComp,ha]
 exact h _
end
end
section
theorem ofInts {g:Vis}{items:List Value}{ns:List Int}(I:IntsAre items ns):VRs g (ns.map V.int) items:=by
 induction I with
 | nil=>exact .nil
 | cons _ _ _ ih=>exact .cons (.int _ _) ih
section
variable {w:World}{A:Around}{s:Shared}{K:Frag}{Γ:Gam}{G:List (String×V)}{k:Ck}{dep:Nat}{c c₀:Cx}{fl:Addr→Prop}{σ:Sg}{oa:Nat→Addr}
theorem CompE.vr {Inv:List Int→Prop}{r:Value}{s':Shared}(S:St c₀ fl σ oa s.heap)(o:CompE c₀ fl σ oa Inv s r s'):∃ acc,Inv acc∧VR (vis s'.heap (Hid c₀.L fl σ oa)) (zl acc) r:=by
 refine x3a7 o.ex fun D acc items zq3 d1 d2 i1 i2 i3 i4=>?_;subst zq3
 refine ⟨acc,i1,.lst (n:=items.length) ⟨fun z=>?_,i2⟩ (Nat.le_trans i4 (by decide)) (ofInts i3)⟩
 exact dead_ne d1 (S.hlive D z) rfl
theorem enterV {fd:FuncData}{a:Addr}{ps rest:List Str}{body:List Stmt}{vs:List V}{vals:List Value}{Q:Value→Shared→Prop}{g0:Heap}(D:DefAt K a fd ps body)(gr:Gr w K g0)
  (hl:∀ x∈ps,fd.scope.names.lookup x=some .local∨fd.scope.names.lookup x=some .cell) (nd:(ps++rest).Nodup) (hn:vs.length=ps.length) (hp:A.depth<recursionLimit) (gi:GI g0 s.heap) (flt:∀ b,fl b→LiveN s.heap b) (ht:fl tabA) (ra:VRs (vis s.heap fl) vs vals)
  (h:∀ (c:Cx) (s₁:Shared),c.g0=g0→c.vars=ps++rest→c.env=callEnvC fd s.heap.objs.size a→Frm s s₁→(∀ b o,s.heap.get? b=some o→s₁.heap.get? b=some o)→s.heap.get? c.L=none →
   St c fl (vs.map .val++List.replicate rest.length .un) (fun _=>0) s₁.heap→(∀ b,¬OwnA (vs.map .val++List.replicate rest.length .un) (fun _=>0) b)→wpAny (model PG w) (A.deeper c.env) (execs body c.env) (fun f s'=>Q (outV f) s') Ed s₁) :
  wpAny (model PG w) A (call (.ref a) vals) Q Ed s:=by
 refine enter (oa:=fun _=>0) (sl:=vs.map .val) D gr hl nd (by rw [List.length_map,hn]) (by rw [← ra.length,hn]) hp gi flt ht (fun i l e=>?_) (fun i l e=>?_) (fun i v e=>?_) (fun i l e=>?_) fun c s₁ e1 e2 e3 fr kp dL S1=>h c s₁ e1 e2 e3 fr kp dL S1 fun b z=>?_
 ·refine x1a2 (map_val e) fun v _ z=>?_;cases z
 ·refine x1a2 (map_val e) fun v _ z=>?_;cases z
 ·refine x1a2 (map_val e) fun u z y=>?_;cases y;exact ra.get z
 ·refine x1a2 (map_val e) fun v _ z=>?_;cases z
 ·refine x2a2 z fun i l z _=>?_
  rcases z with z | z <;> (rcases rest_at z with y | y;cases y;refine x1a2 (map_val y) fun v _ z=>?_;cases z)
end
noncomputable def nS:Str:=Str.ofString "n"
noncomputable def dS:Str:=Str.ofString "d"
noncomputable def bS:Str:=Str.ofString "base"
noncomputable def nmLp:List (Str×NameKind):=[(Str.ofString ".0",.local),(Str.ofString "d",.local),(Str.ofString "n",.free)]
theorem clos_lp (sc:Scope)(env:Env)(ca:Addr)(h:env.cells.lookup nS=some ca)(e:sc.names=nmLp):closureFor sc env=pure [(nS,ca)]:=by
 unfold closureFor
 rw [e]
 have e1:cellOf env (Str.ofString "n")=pure ca:=by unfold cellOf;rw [show env.cells.lookup (Str.ofString "n")=some ca from h]
 simp [nmLp,e1,nS]
noncomputable def e_lp1:E:=.cmp .Gt (.loc 0) (.cst (.int 1))
noncomputable def t_lp:E:=.and (.cmp .Lt (.loc 0) (.loc 1)) (.cmp .Eq (.bin .Mod (.loc 1) (.loc 0)) (.cst (.int 0)))
theorem k_lp (P:Params):∃ (fd:FuncData) (e1 cmp e2:Expr) (p1 p2 p3:Pos),(KF P).lookup 533=some ⟨.type "function",none,.func fd,#[]⟩∧fd.body=.stmts [.Return (some (.BoolOp .And [e1,.Compare cmp [.Eq] [e2] p1] p2)) p3] ∧
  chkHead (KF P) fd [nS] []=true∧parOk fd [nS]=true∧fd.scope.names.lookup nS=some .cell∧gE ⟨fd.scope,[nS],GL⟩ e_lp1 e1=true∧chkRange ⟨fd.scope,[nS],GL⟩ [dS] nS nmLp (.cst (.int 2)) (.cst (.int 61)) t_lp (.loc 0) cmp∧gE ⟨fd.scope,[nS],GL⟩ (.fresh (.disp .nil)) e2=true :=
 ⟨hfd 3 (hz "law_pq0548_01" 1028) (.ref 532) (hsd 71),_,_,_,_,_,_,by kernel_rfl,rfl,by kernel_rfl,by kernel_rfl,by kernel_rfl,by kernel_rfl,
  ⟨_,_,_,_,_,_,_,_,_,_,_,rfl,by kernel_rfl,by kernel_rfl,by kernel_rfl,by kernel_rfl,by kernel_rfl,by kernel_rfl,by kernel_rfl,by kernel_rfl⟩,by kernel_rfl⟩
theorem kk_lp (P:Params):keepIn (KF P) (.ref 533)=true:=by kernel_rfl
noncomputable def lp (n:Nat):Bool:=decide (1<n) && (List.range 59).all fun i=>!(decide (2+i<n) && decide (n%(2+i)=0))
noncomputable def lpS:Spec:={ X:=Nat,enc:=fun n=>[.int (n:Nat)],pre:=fun n=>n<2^16,post:=fun n r=>r=.bool (lp n) }
def lpInv (n j:Nat)(acc:List Int):Prop:=acc=[]↔∀ i,i<j→¬(2+i<n∧n%(2+i)=0)
theorem lp_turn (n j:Nat)(acc:List Int)(hI:lpInv n j acc) :
  WE ⟨[],[],none⟩ t_lp [.val (.int (2+(j:Int))),.val (.int (n:Nat))] (isB fun b τ=>τ=[.val (.int (2+(j:Int))),.val (.int (n:Nat))]∧(if b=true then WE ⟨[],[],none⟩ (.loc 0) [.val (.int (2+(j:Int))),.val (.int (n:Nat))] (fun r τ=>τ=[.val (.int (2+(j:Int))),.val (.int (n:Nat))]∧∃ z,r=.int z∧lpInv n (j+1) (acc++[z])) else lpInv n (j+1) acc)):=by
 have h2:(2+(j:Int))=((2+j:Nat):Int):=by push_cast;rfl
 have hz:(2+(j:Int))≠0:=F0 [_] [] 1742770325511
 have fm:(n:Int).fmod ((2+j:Nat):Int)=((n%(2+j):Nat):Int):=by rw [Int.fmod_eq_emod_of_nonneg _ (by exact F0 [_] [] 22752133381)];rfl
 have key1:(2+j<n∧n%(2+j)=0)→∀ z,lpInv n (j+1) (acc++[z]):=fun h z=>by
  unfold lpInv
  refine ⟨fun e=>by simp at e,fun e=>absurd h (e j (Nat.lt_succ_self _))⟩
 have key0:¬(2+j<n∧n%(2+j)=0)→lpInv n (j+1) acc:=fun h=>by
  unfold lpInv
  refine ⟨fun e i hi=>?_,fun e=>hI.mpr fun i hi=>e i (Nat.lt_succ_of_lt hi)⟩
  rcases Nat.lt_or_ge i j with z | z
  ·exact hI.mp e i z
  ·have:i=j:=by exact nAs (F1 [_,_] [] 77069197260896 hi) (z)
   rw [this];exact h
 dsimp only [t_lp,x_loc,x_cst,x_glo,x_bin,x_neg,x_not,x_cmp,x_and,x_or,x_ite,x_call,x_callB,x_len,x_max,x_min,x_bits,x_attr,x_sub,x_subL,x_tup,x_fresh,x_fdisp,x_frep,x_fcat,x_fcut,x_snil,x_scons,lo_val,lo_own,sl_val,sl_own,sl_bor,at_val,cb_own,cb_bor,onI_int,onB_bool,onL_lst,onT_tup,onN_none,onO_some,onS_val,onS_own,onS_bor,binP_int,b_add,b_sub,b_mul,b_div,b_mod,b_shl,b_shr,b_and,b_or,c_int,c_lst,c_tup,c_non,c_lt,c_le,c_gt,c_ge,c_eq,c_ne,c_Leq,c_Lne,c_Lin,c_is,c_isnt,n_none,n_int,n_lst,i_lst,i_tup,bnd_none,bnd_int,a_mod,a_min,a_one,a_sq,obS,List.getElem?_cons_zero,List.getElem?_cons_succ,List.set_cons_zero,List.set_cons_succ,mp_cons,mp_nil,List.cons_append,List.nil_append]
 by_cases h1:(2+(j:Int))<(n:Int)
 ·simp only [h1,decide_true,if_true]
  refine ⟨hz,?_⟩
  rw [h2,fm]
  by_cases h3:n%(2+j)=0
  ·simp only [h3,Int.natCast_zero,decide_true,isB,if_true,true_and]
   exact ⟨_,rfl,key1 ⟨by exact F1 [_,_] [] 1366365124463900805127 h1,h3⟩ _⟩
  ·have:¬((n%(2+j):Nat):Int)=0:=F1 [_] [] 111537289242626 (nPo h3)
   simp only [this,decide_false,isB,Bool.false_eq_true,if_false,true_and]
   exact key0 fun z=>h3 z.2
 ·simp only [h1,decide_false,Bool.false_eq_true,if_false,isB,true_and]
  exact key0 fun z=>h1 (by exact F1 [_,_] [] 1637746725850641106948 z.1)
theorem m_law_is_prime (w:World):MtV w (KP w) 1 (.ref 533) lpS.use:=by
 refine x5a1 (k_lp w.params) fun fd e1 cmp e2 p1 hy1=>x2a7 hy1 fun p2 p3 ho hb g1 g2 g3 g4 hy2=>an2 hy2 fun g5 g6=>?_
 obtain ⟨D,nd⟩:=head_of ⟨_,_,_,ho⟩ g1 hb
 have g2:∀ x∈[nS],fd.scope.names.lookup x=some .local∨fd.scope.names.lookup x=some .cell:=fun x hx=>(Bool.or_eq_true_iff.mp (List.all_eq_true.mp g2 x hx)).imp (fun z=>eq_of_beq z) fun z=>eq_of_beq z
 have g4:=ok_get g4
 have g6:=ok_get g6
 intro g0 gr A s fl f args vals k hd hu hp gi flt ht rf ra hU
 cases rf.ref_inv
 obtain ⟨n,rfl,hpre,hk⟩:∃ n:Nat,args=[.int (n:Nat)]∧n<2^16∧∀ r:V,r=V.bool (lp n)→k r:=hU
 refine enterV D gr g2 nd rfl (by exact F1 [_,_] [] 81467250344160 hp) gi flt ht ra fun c s₁ e1' e2' e3 fr kp dL S1 noO=>?_
 have C:Cs ⟨fd.scope,[nS],GL⟩ w (A.deeper c.env) ⟨[],[],none⟩ (KP w) 0 c:=⟨⟨by rw [e3];rfl,e2',by rw [e3];exact D.kf⟩,Rn.at_ (gnd w.params) (Wd.nil _ _ _) D gr e1' e3 hd hu hp,by rw [e2'];exact nd⟩
 have S1:St c fl [.val (.int (n:Nat))] (fun _=>0) s₁.heap:=S1
 have done:∀ (b:Bool) (s':Shared),Go c fl [.val (.int (n:Nat))] (fun _=>0) s₁ [.val (.int (n:Nat))] (fun _=>0) s'→b=lp n→∃ v,k v∧Frm s s'∧Ext s.heap s'.heap∧GI g0 s'.heap∧VR (vis s'.heap fl) v (.bool b):=fun b s' g hb=>by
  refine an4 (go_ext fr kp dL noO g) fun z1 z2 z3 z4=>?_
  exact ⟨.bool b,hk _ (congrArg V.bool hb),z1,z2,e1'▸z3,.bool b⟩
 refine wpAny_execs_cons (wpAny_Return_some (BoolOp_and ?_))
 refine wpAny_mono (g4.se C fl _ _ s₁ (fun v τ=>v=.bool (decide (1<n))∧τ=[.val (.int (n:Nat))]) S1 (by
  dsimp only [e_lp1,x_loc,x_cst,x_glo,x_bin,x_neg,x_not,x_cmp,x_and,x_or,x_ite,x_call,x_callB,x_len,x_max,x_min,x_bits,x_attr,x_sub,x_subL,x_tup,x_fresh,x_fdisp,x_frep,x_fcat,x_fcut,x_snil,x_scons,lo_val,lo_own,sl_val,sl_own,sl_bor,at_val,cb_own,cb_bor,onI_int,onB_bool,onL_lst,onT_tup,onN_none,onO_some,onS_val,onS_own,onS_bor,binP_int,b_add,b_sub,b_mul,b_div,b_mod,b_shl,b_shr,b_and,b_or,c_int,c_lst,c_tup,c_non,c_lt,c_le,c_gt,c_ge,c_eq,c_ne,c_Leq,c_Lne,c_Lin,c_is,c_isnt,n_none,n_int,n_lst,i_lst,i_tup,bnd_none,bnd_int,a_mod,a_min,a_one,a_sq,obS,List.getElem?_cons_zero,List.getElem?_cons_succ,List.set_cons_zero,List.set_cons_succ,mp_cons,mp_nil,List.cons_append,List.nil_append]
  refine ⟨?_,rfl⟩
  congr 1
  exact decide_eq_decide.mpr (by exact ⟨fun k2=>F1 [_] [] 1271366469638 k2,fun k3=>F1 [_] [] 1525251909635 k3⟩))) (fun x s₂ p=>?_) fun _ _ z=>z
 refine x2a3 p fun v τ zn2 g₂ r₂=>an2 zn2 fun zp2_0 zp2_1=>?_;clear p zn2;subst zp2_0;subst zp2_1
 have S₂:=g₂.st
 cases r₂.bool_inv
 refine truthy_b ?_
 by_cases h1:1<n
 ·simp only [h1,decide_true,if_true]
  have hm:behindInMarks .Eq e2=false:=(plain_of g6.pl).marks _
  refine BoolOp_one (wpAny_Compare1 ?_ hm)
  refine wpAny_mono (comp_at (x:=dS) (y:=nS) (iy:=0) (ny:=n) (a0:=2) (b0:=61) (n:=59) C g5 clos_lp S₂ (by rw [e2'];rfl) rfl (by rw [C.L.kindOf];exact g3) (by
   exact ⟨rfl,rfl,rfl,rfl⟩) (by decide) (by decide) (by rfl) (by decide) (Inv:=lpInv n) ⟨fun _ i hi=>absurd hi (Nat.not_lt_zero _),fun _=>rfl⟩ fun j acc _ hI=>lp_turn n j acc hI) (fun x s₃ o=>?_) fun _ _ z=>z
  refine x1a2 (o.vr S₂) fun acc hI ra=>?_
  refine wpAny_mono (g6.se C fl _ _ s₃ (fun v τ=>v=.lst []∧τ=[.val (.int (n:Nat))]) o.st ⟨rfl,rfl⟩) (fun y s₄ p=>?_) fun _ _ z=>z
  refine x2a3 p fun v τ zn2 g₄ r₄=>an2 zn2 fun zp2_0 zp2_1=>?_;clear p zn2;subst zp2_0;subst zp2_1
  refine cmp_rule (q:=fun b=>b=decide (acc=[])) (by have:=C.R.un;exact F1 [_,_] [] 100819349938265436041669955740595684122720 this) (ra.mono g₄.le) r₄ ?_ fun i qi=>?_
  ·exact ⟨acc,[],rfl,rfl,rfl⟩
  ·refine done i s₄ ((g₂.trans ⟨o.fr,o.st,o.ev⟩).trans g₄) ?_
   subst qi
   unfold lpInv at hI
   unfold lp
   simp only [h1,decide_true,Bool.true_and]
   rw [Bool.eq_iff_iff,decide_eq_true_eq,hI,List.all_eq_true]
   constructor
   ·intro z i hi
    have:=z i (List.mem_range.mp hi)
    simp only [Bool.not_eq_true',Bool.and_eq_false_iff,decide_eq_false_iff_not]
    by_cases q:2+i<n
    ·exact .inr fun y=>this ⟨q,y⟩
    ·exact .inl q
   ·intro z i hi y
    have:=z i (List.mem_range.mpr hi)
    simp [y.1,y.2] at this
 ·simp only [h1,decide_false,Bool.false_eq_true,if_false]
  refine done false s₂ g₂ ?_
  unfold lp
  simp [h1]
end
section
section
variable {w:World}{A:Around}{s:Shared}{K:Frag}{Γ:Gam}{G:List (String×V)}{k:Ck}{dep:Nat}{c c₀:Cx}{fl:Addr→Prop}{σ:Sg}{oa:Nat→Addr}
theorem asg_comp {x y nx:Str}{px spos:Pos}{nm:List (Str×NameKind)}{ea eb tst elt:E}{a:Expr}{ny a0 b0:Int}{n iy i:Nat}(C₀:Cs k w A Γ K dep c₀)(h:chkRange k [x] y nm ea eb tst elt a)
  (hcl:∀ (sc:Scope) env ca,env.cells.lookup y=some ca→sc.names=nm→closureFor sc env=pure [(y,ca)])
  (S:St c₀ fl σ oa s.heap) (hyv:c₀.vars[iy]?=some y) (hys:σ[iy]?=some (.val (.int ny))) (hyk:c₀.env.kindOf y=some .cell)
  (hwe:WE Γ ea σ fun va τ=>va=.int a0∧τ=σ∧WE Γ eb σ fun vb τ=>vb=.int b0∧τ=σ) (ba:a0.natAbs<2^40) (bb:b0.natAbs<2^40) (hn:Builtin.Range.rangeSize a0 b0 1=((n:Nat):Int)) (hn2:n≤1000)
  {Inv:Nat→List Int→Prop} (I0:Inv 0 [])
  (bd:∀ j acc,j<n→Inv j acc→WE Γ tst [.val (.int (a0+(j:Int))),.val (.int ny)] (isB fun b τ=>τ=[.val (.int (a0+(j:Int))),.val (.int ny)]∧(if b=true then WE Γ elt [.val (.int (a0+(j:Int))),.val (.int ny)] (fun r τ=>τ=[.val (.int (a0+(j:Int))),.val (.int ny)]∧∃ z,r=.int z∧Inv (j+1) (acc++[z])) else Inv (j+1) acc)))
  (nd:c₀.vars.Nodup) (hx:c₀.vars[i]?=some nx) (hk:c₀.env.kindOf nx=some .local) (noO:∀ sl∈σ,sl=.un∨∃ v,sl=.val v)
  (hsw:swapsWith a (some (.Name nx px)) spos.line c₀.env=pure true) {Q:Flow→Shared→Prop}
  (q:∀ acc s',Inv n acc→Frm s s'→St c₀ fl (σ.set i (.val (zl acc))) oa s'.heap→Ev c₀.L σ oa s.heap (σ.set i (.val (zl acc))) oa s'.heap→Q .next s') :
  wpAny (model PG w) A (exec (.Assign [.Name nx px] a spos) c₀.env) Q Ed s:=by
 have noOw:∀ τ:Sg,(∀ sl∈τ,sl=.un∨∃ v,sl=.val v)→∀ b,¬OwnA τ oa b:=fun τ h b ⟨i,l,e,_⟩=>by
  rcases e with e | e <;> rcases h _ (List.mem_of_getElem? e) with z | ⟨v,z⟩ <;> cases z
 obtain ⟨el,gens,sc,pos,rfl,ha,h⟩:=comp_core (use:=some (assign (.Name nx px) c₀.env)) (Q:=fun _ s'=>Q .next s') C₀ h hcl S hyv hys hyk hwe ba bb hn hn2 I0 bd fun s₂ C D s' f S₂ e o=>by
  obtain ⟨m0,N0⟩:=o.ns
  refine x2a4 o.ex fun acc items i1 i2 i3 i4=>?_
  have lvC:LiveN s'.heap C:=by
   refine x3a3 N0 fun oc es ep e1 d1 _=>?_;clear N0
   exact ⟨oc,e1,.inr fun vs t z=>by rw [d1] at z;cases z⟩
  have S':St c₀ (fun b=>b=C∨fl b) σ oa s'.heap:=S₂.ext o.x o.gi (fun b z=>z.elim (fun z=>z▸lvC) fun z=>o.x.liveN (S₂.flt b z)) (fun b z=>.inr z) fun b l z=>z.elim (fun z=>by obtain ⟨o',l⟩:=l;rw [z,o.dC] at l;cases l) id
  refine x1a2 (id S'.ns) fun m1 N1 _=>?_
  have CL:C≠c₀.L:=fun z=>by refine x1a2 S₂.ns fun m N _=>?_;obtain ⟨o',l⟩:=ns_live N;rw [← z,o.dC] at l;cases l
  have CT:C≠tabA:=fun z=>by obtain ⟨ps,l⟩:=S₂.gi.tab;rw [← z,o.dC] at l;cases l
  have rD:VR (vis s'.heap (Hid c₀.L (fun b=>b=C∨fl b) σ oa)) (zl acc) (.ref D):=by
   refine .lst (n:=items.length) ⟨fun z=>?_,i2⟩ (Nat.le_trans i4 (by decide)) (ofInts i3)
   rcases z with z | z | z | z | z
   ·exact dead_ne o.dD (S₂.hlive D (.inl z)) rfl
   ·exact dead_ne o.dD (S₂.hlive D (.inr (.inl z))) rfl
   ·exact dead_ne o.dD (S₂.hlive D (.inr (.inr (.inl z)))) rfl
   ·exact o.ne z
   ·exact dead_ne o.dD (S₂.hlive D (.inr (.inr (.inr z)))) rfl
  show wpAny (model PG w) A (assign (.Name nx px) c₀.env (.ref D)) _ Ed s'
  refine wpAny_assign_Name (store_rule hk C₀.L.kind N1 fun h₂ N₂ sb₂=>?_)
  obtain ⟨S₃,e₃⟩:=S'.store nd hx hk N1 rD N₂ sb₂
  refine ⟨m0,N0.at' fun o e=>(sb₂.2 _ CL).trans e,fun h₄ sb₄=>?_⟩
  have no3:=noOw (σ.set i (.val (zl acc))) fun sl z=>by
   rcases List.mem_or_eq_of_mem_set z with z | z
   ·exact noO sl z
   ·exact .inr ⟨_,z⟩
  have kp:∀ b o,¬b=C→h₂.get? b=some o→h₄.get? b=some o:=fun b o z e=>(sb₄.2 b z).trans e
  refine x3a3 N0 fun oc es ep c1 c2 _=>?_;clear N0
  have c3:h₂.get? C=some oc:=(sb₂.2 _ CL).trans c1
  obtain ⟨S₄,_⟩:=S₃.touch (fl:=fl) (wr:=(·=C)) (h':=h₄) kp (fun b z=>by
   subst z
   refine ⟨.inl rfl,no3 _,CL,CT,S₂.gi.dead o.dC,fun o' e'=>?_⟩
   rw [c3] at e';cases e'
   exact ⟨fun vs t z=>(by rw [c2] at z;cases z),fun v z=>(by rw [c2] at z;cases z)⟩) (fun b z=>.inr z) (fun b z y=>no3 b) fun b z=>by
   refine x1a2 (S₃.flt b (.inr z)) fun o' l nr=>?_
   refine ⟨o',kp b o' (fun y=>?_) l,nr⟩
   refine x1a2 (S₂.flt b z) fun o'' l'' _=>?_
   rw [y,o.dC] at l'';cases l''
  have up:∀ b o',s₂.heap.get? b=some o'→b≠tabA→b≠c₀.L→h₄.get? b=some o':=fun b o' e1 n1 n2 =>
   kp b o' (fun z=>by rw [z,o.dC] at e1;cases e1) ((sb₂.2 b n2).trans (o.x.keep b o' e1 n1))
  refine q acc _ i1 (f.trans (o.fr.trans (Frm.trans (.mk s' h₂ _) (.mk _ _ _)))) S₄ (e.trans ⟨fun b o' e1 n1 n2 _=>up b o' e1 n1 n2,fun b z _=>absurd z (no3 b),fun b z=>?_,?_⟩)
  ·by_cases h1:b=c₀.L
   ·rw [h1];refine x1a2 S₄.ns fun m N _=>?_;exact ns_live N
   ·obtain ⟨o',l⟩:=o.x.live z
    obtain ⟨o'',z⟩:=z
    exact ⟨o',kp b o' (fun y=>by rw [y,o.dC] at z;cases z) ((sb₂.2 b h1).trans l)⟩
  ·exact (o.x.grow.keep fun o' e=>(sb₂.2 _ fun z=>S₂.lt z.symm).trans e).keep fun o' e=>kp _ o' CT.symm e
 rw [exec_Assign_Name_used _ _ _ _ hsw]
 refine wpAny_bind (wpAny_standAt (wpAny_bind ?_))
 show wpAny _ A (do let _ ← comprehension (.ListComp el gens sc pos) sc c₀.env (firstIterPos gens pos) (newList []) (firstAsync gens) (firstIter gens c₀.env) (some (assign (.Name nx px) c₀.env))) _ _ s
 rw [ha]
 exact wpAny_bind (wpAny_mono (h _) (fun _ s' hq=>wpAny_pure (wpAny_pure hq)) fun _ _ e=>e)
end
end
section
noncomputable def mS:Str:=Str.ofString "most"
noncomputable def soS:Str:=Str.ofString "some"
noncomputable def nmWit:List (Str×NameKind):=[(Str.ofString ".0",.local),(Str.ofString "base",.local),(Str.ofString "_law_lets",.globalImplicit),(Str.ofString "n",.free)]
theorem clos_wit (sc:Scope)(env:Env)(ca:Addr)(h:env.cells.lookup nS=some ca)(e:sc.names=nmWit):closureFor sc env=pure [(nS,ca)]:=by
 unfold closureFor
 rw [e]
 have e1:cellOf env (Str.ofString "n")=pure ca:=by unfold cellOf;rw [show env.cells.lookup (Str.ofString "n")=some ca from h]
 simp [nmWit,e1,nS]
noncomputable def t_wit:E:=.not (.call (.glo "_law_lets" (.ref 547)) (.cons (.loc 1) (.cons (.loc 0) .nil)))
noncomputable def c_witR:C:=.seq (.ret (.ite (.cmp .NotEq (.loc 2) (.fresh (.disp .nil))) (.subL 2 (.cst (.int 0))) (.cst .none))) .skip
def swB (sc:Scope)(a:Expr)(nx:Str)(px spos:Pos):Prop:=∃ x y s p,a=.ListComp x y s p∧(sc.kind == .function && sc.names.lookup nx == some .local && px.line == p.line && !(s.names.any fun q=>q.1 == nx && (q.2 == .local || q.2 == .cell)))=true
theorem k_wit (P:Params):∃ (fd:FuncData) (px:Pos) (a:Expr) (spos:Pos) (rest:List Stmt),(KF P).lookup 552=some ⟨.type "function",none,.func fd,#[]⟩∧fd.body=.stmts (.Assign [.Name soS px] a spos::rest) ∧
  chkHead (KF P) fd [nS,mS] [soS]=true∧parOk fd [nS,mS]=true∧fd.scope.names.lookup nS=some .cell∧fd.scope.names.lookup soS=some .local∧swB fd.scope a soS px spos ∧
  chkRange ⟨fd.scope,[nS,mS,soS],GL⟩ [bS] nS nmWit (.cst (.int 2)) (.bin .Add (.loc 1) (.cst (.int 1))) t_wit (.loc 0) a∧chkB ⟨fd.scope,[nS,mS,soS],GL⟩ c_witR rest=true :=
 ⟨hfd 3 (hz "law_pq0548_01" 1028) (.ref 551) (hsd 74),_,_,_,_,by kernel_rfl,rfl,by kernel_rfl,by kernel_rfl,by kernel_rfl,by kernel_rfl,⟨_,_,_,_,rfl,by kernel_rfl⟩,
  ⟨_,_,_,_,_,_,_,_,_,_,_,rfl,by kernel_rfl,by kernel_rfl,by kernel_rfl,by kernel_rfl,by kernel_rfl,by kernel_rfl,by kernel_rfl,by kernel_rfl⟩,by kernel_rfl⟩
theorem kk_wit (P:Params):keepIn (KF P) (.ref 552)=true:=by kernel_rfl
noncomputable def lwS:Spec:={ X:=Nat×Nat,enc:=fun x=>[.int (x.1:Nat),.int (x.2:Nat)],pre:=fun x=>3≤x.1∧x.1<2^16∧x.2≤900,post:=fun x r=>LW x.1 x.2 r }
def witInv (n j:Nat)(acc:List Int):Prop:=match acc with
 | []=>∀ i,i<j→StrongP n (2+i)
 | z::_=>∃ b:Nat,z=(b:Int)∧2≤b∧b<2+j∧¬StrongP n b∧∀ c,2≤c→c<b→StrongP n c
noncomputable abbrev Γlw:Gam:=⟨[(547,lawLetsS)],[],none⟩
theorem wit_turn (n j:Nat)(acc:List Int)(h3:3≤n)(hn:n<2^16)(hj:j<900)(hI:witInv n j acc) :
  WE Γlw t_wit [.val (.int (2+(j:Int))),.val (.int (n:Nat))] (isB fun b τ=>τ=[.val (.int (2+(j:Int))),.val (.int (n:Nat))]∧(if b=true then WE Γlw (.loc 0) [.val (.int (2+(j:Int))),.val (.int (n:Nat))] (fun r τ=>τ=[.val (.int (2+(j:Int))),.val (.int (n:Nat))]∧∃ z,r=.int z∧witInv n (j+1) (acc++[z])) else witInv n (j+1) acc)):=by
 have h2:(2+(j:Int))=((2+j:Nat):Int):=by push_cast;rfl
 dsimp only [t_wit,x_loc,x_cst,x_glo,x_bin,x_neg,x_not,x_cmp,x_and,x_or,x_ite,x_call,x_callB,x_len,x_max,x_min,x_bits,x_attr,x_sub,x_subL,x_tup,x_fresh,x_fdisp,x_frep,x_fcat,x_fcut,x_snil,x_scons,lo_val,lo_own,sl_val,sl_own,sl_bor,at_val,cb_own,cb_bor,onI_int,onB_bool,onL_lst,onT_tup,onN_none,onO_some,onS_val,onS_own,onS_bor,binP_int,b_add,b_sub,b_mul,b_div,b_mod,b_shl,b_shr,b_and,b_or,c_int,c_lst,c_tup,c_non,c_lt,c_le,c_gt,c_ge,c_eq,c_ne,c_Leq,c_Lne,c_Lin,c_is,c_isnt,n_none,n_int,n_lst,i_lst,i_tup,bnd_none,bnd_int,a_mod,a_min,a_one,a_sq,obS,List.getElem?_cons_zero,List.getElem?_cons_succ,List.set_cons_zero,List.set_cons_succ,mp_cons,mp_nil,List.cons_append,List.nil_append]
 rw [h2]
 refine use1 (S:=lawLetsS) rfl (n,2+j) rfl ⟨h3,hn,by show 2+j<2^16;exact F1 [_] [] 353006342806643463087464544 hj⟩ fun r hr=>?_
 refine x1a2 hr fun t zq1 ht=>?_;clear hr;subst zq1
 have ht:t=true↔StrongP n (2+j):=ht
 cases t with
 | true =>
  dsimp only [isB,x_loc,x_cst,x_glo,x_bin,x_neg,x_not,x_cmp,x_and,x_or,x_ite,x_call,x_callB,x_len,x_max,x_min,x_bits,x_attr,x_sub,x_subL,x_tup,x_fresh,x_fdisp,x_frep,x_fcat,x_fcut,x_snil,x_scons,lo_val,lo_own,sl_val,sl_own,sl_bor,at_val,cb_own,cb_bor,onI_int,onB_bool,onL_lst,onT_tup,onN_none,onO_some,onS_val,onS_own,onS_bor,binP_int,b_add,b_sub,b_mul,b_div,b_mod,b_shl,b_shr,b_and,b_or,c_int,c_lst,c_tup,c_non,c_lt,c_le,c_gt,c_ge,c_eq,c_ne,c_Leq,c_Lne,c_Lin,c_is,c_isnt,n_none,n_int,n_lst,i_lst,i_tup,bnd_none,bnd_int,a_mod,a_min,a_one,a_sq,obS,List.getElem?_cons_zero,List.getElem?_cons_succ,List.set_cons_zero,List.set_cons_succ,mp_cons,mp_nil,List.cons_append,List.nil_append]
  simp only [Bool.not_true,Bool.false_eq_true,if_false,true_and]
  have sp:=ht.mp rfl
  cases acc with
  | nil =>
   intro i hi
   rcases Nat.lt_or_ge i j with z | z
   ·exact hI i z
   ·have:i=j:=by exact nAs (F1 [_,_] [] 77069197260896 hi) (z)
    rw [this];exact sp
  | cons z zs =>
   refine x1a4 hI fun b e1 e2 e3 e4=>?_;clear hI
   exact ⟨b,e1,e2,by exact F1 [_,_] [] 1337534050402025214240 e3,e4⟩
 | false =>
  dsimp only [isB,x_loc,x_cst,x_glo,x_bin,x_neg,x_not,x_cmp,x_and,x_or,x_ite,x_call,x_callB,x_len,x_max,x_min,x_bits,x_attr,x_sub,x_subL,x_tup,x_fresh,x_fdisp,x_frep,x_fcat,x_fcut,x_snil,x_scons,lo_val,lo_own,sl_val,sl_own,sl_bor,at_val,cb_own,cb_bor,onI_int,onB_bool,onL_lst,onT_tup,onN_none,onO_some,onS_val,onS_own,onS_bor,binP_int,b_add,b_sub,b_mul,b_div,b_mod,b_shl,b_shr,b_and,b_or,c_int,c_lst,c_tup,c_non,c_lt,c_le,c_gt,c_ge,c_eq,c_ne,c_Leq,c_Lne,c_Lin,c_is,c_isnt,n_none,n_int,n_lst,i_lst,i_tup,bnd_none,bnd_int,a_mod,a_min,a_one,a_sq,obS,List.getElem?_cons_zero,List.getElem?_cons_succ,List.set_cons_zero,List.set_cons_succ,mp_cons,mp_nil,List.cons_append,List.nil_append]
  simp only [Bool.not_false,if_true,true_and]
  try dsimp only [x_loc,x_cst,x_glo,x_bin,x_neg,x_not,x_cmp,x_and,x_or,x_ite,x_call,x_callB,x_len,x_max,x_min,x_bits,x_attr,x_sub,x_subL,x_tup,x_fresh,x_fdisp,x_frep,x_fcat,x_fcut,x_snil,x_scons,lo_val,lo_own,sl_val,sl_own,sl_bor,at_val,cb_own,cb_bor,onI_int,onB_bool,onL_lst,onT_tup,onN_none,onO_some,onS_val,onS_own,onS_bor,binP_int,b_add,b_sub,b_mul,b_div,b_mod,b_shl,b_shr,b_and,b_or,c_int,c_lst,c_tup,c_non,c_lt,c_le,c_gt,c_ge,c_eq,c_ne,c_Leq,c_Lne,c_Lin,c_is,c_isnt,n_none,n_int,n_lst,i_lst,i_tup,bnd_none,bnd_int,a_mod,a_min,a_one,a_sq,obS,List.getElem?_cons_zero,List.getElem?_cons_succ,List.set_cons_zero,List.set_cons_succ,mp_cons,mp_nil,List.cons_append,List.nil_append]
  have sp:¬StrongP n (2+j):=fun z=>Bool.false_ne_true (ht.mpr z)
  refine ⟨_,rfl,?_⟩
  cases acc with
  | nil =>
   refine ⟨2+j,rfl,by exact F0 [_] [] 287441156,by exact F0 [_] [] 5102287467874308,sp,fun c h1 h2=>?_⟩
   have:=hI (c-2) (by exact F2 [_,_,_] [] 87548574034642736546080 h2 (nSc h1))
   rwa [show 2+(c-2)=c by exact nAs (F1 [_,_] [] 315570836910407968 (nSc h1)) (F1 [_,_] [] 308642019534719072 sb1)] at this
  | cons z zs =>
   refine x1a4 hI fun b e1 e2 e3 e4=>?_;clear hI
   exact ⟨b,e1,e2,by exact F1 [_,_] [] 1337534050402025214240 e3,e4⟩
theorem wit_rest (n most:Nat)(acc:List Int)(hI:witInv n (most-1) acc):W Γlw c_witR [.val (.int (n:Nat)),.val (.int (most:Nat)),.val (zl acc)] fun f _=>retV f (LW n most):=by
 dsimp only [c_witR,zl,W_skip,W_seq,W_asg,W_asgO,W_multi,W_unpk,W_aug,ag_val,W_setL,st_own,st_bor,W_app,ap_own,W_exprB,W_expr,W_ifs,W_ret,W_cont,W_raise,sq_next,sq_brk,sq_cont,sq_ret,lp_next,lp_cont,lp_brk,lp_ret,r_ret,r_next,is_nil,is_val,is_own,ts_nil,ts_val,ts_own,set_nil,set_cons,it_rng1,it_rng2,it_rng3,it_lst,it_enm,x_loc,x_cst,x_glo,x_bin,x_neg,x_not,x_cmp,x_and,x_or,x_ite,x_call,x_callB,x_len,x_max,x_min,x_bits,x_attr,x_sub,x_subL,x_tup,x_fresh,x_fdisp,x_frep,x_fcat,x_fcut,x_snil,x_scons,lo_val,lo_own,sl_val,sl_own,sl_bor,at_val,cb_own,cb_bor,onI_int,onB_bool,onL_lst,onT_tup,onN_none,onO_some,onS_val,onS_own,onS_bor,binP_int,b_add,b_sub,b_mul,b_div,b_mod,b_shl,b_shr,b_and,b_or,c_int,c_lst,c_tup,c_non,c_lt,c_le,c_gt,c_ge,c_eq,c_ne,c_Leq,c_Lne,c_Lin,c_is,c_isnt,n_none,n_int,n_lst,i_lst,i_tup,bnd_none,bnd_int,a_mod,a_min,a_one,a_sq,obS,List.getElem?_cons_zero,List.getElem?_cons_succ,List.set_cons_zero,List.set_cons_succ,mp_cons,mp_nil,List.cons_append,List.nil_append]
 cases acc with
 | nil =>
  refine ⟨[],[],rfl,rfl,?_⟩
  simp only [decide_true,Bool.not_true,Bool.false_eq_true,if_false]
  exact .inl ⟨rfl,fun b h1 h2=>by
   have:=hI (b-2) (by exact F3 [_,_,_,_] [] 22969673400020278990541717792 h2 sb1 (nSc h1))
   rwa [show 2+(b-2)=b by exact nAs (F1 [_,_] [] 315570836910407968 (nSc h1)) (F1 [_,_] [] 308642019534719072 sb1)] at this⟩
 | cons z zs =>
  refine x1a5 hI fun b e1 e2 e3 e4 e5=>?_;clear hI
  refine ⟨z::zs,[],rfl,rfl,?_⟩
  have:¬(z::zs=[]):=by simp
  simp only [this,decide_false,Bool.not_false,if_true,true_and]
  refine ⟨.int z,by simp [pyIdx],?_⟩
  exact .inr ⟨b,by rw [e1],e2,by exact F2 [_,_,_] [] 82754726409692447539424 e3 (nSc (F3 [_,_,_] [] 5294014401586533373646944 e2 e3 sb0)),e4,e5⟩
theorem m_law_witness (w:World):MtV w (KP w) 3 (.ref 552) lwS.use:=by
 refine x5a1 (k_wit w.params) fun fd px a spos rest hy1=>an8 hy1 fun ho hb g1 g2 g3 g3' g4 hy2=>an2 hy2 fun g5 g6=>?_
 obtain ⟨D,nd⟩:=head_of ⟨_,_,_,ho⟩ g1 hb
 have g2:∀ x∈[nS,mS],fd.scope.names.lookup x=some .local∨fd.scope.names.lookup x=some .cell:=fun x hx=>(Bool.or_eq_true_iff.mp (List.all_eq_true.mp g2 x hx)).imp (fun z=>eq_of_beq z) fun z=>eq_of_beq z
 intro g0 gr A s fl f args vals k hd hu hp gi flt ht rf ra hU
 cases rf.ref_inv
 refine x1a3 hU fun x zq1 hpre hk=>?_;clear hU;subst zq1
 obtain ⟨n,most⟩:=x
 have hpre:3≤n∧n<2^16∧most≤900:=hpre
 refine enterV D gr g2 nd rfl (by exact F1 [_,_] [] 333689857409552480 hp) gi flt ht ra fun c s₁ e1' e2' e3 fr kp dL S1 noO=>?_
 have C:Cs ⟨fd.scope,[nS,mS,soS],GL⟩ w (A.deeper c.env) Γlw (KP w) 2 c:=⟨⟨by rw [e3];rfl,e2',by rw [e3];exact D.kf⟩,Rn.at_ (gnd w.params) ((Wd.nil _ _ 2).cons (kk_law_lets _) (m_law_lets w) (by decide)) D gr e1' e3 hd hu hp,by rw [e2'];exact nd⟩
 have S1:St c fl [.val (.int (n:Nat)),.val (.int (most:Nat)),.un] (fun _=>0) s₁.heap:=S1
 have hsw:swapsWith a (some (.Name soS px)) spos.line c.env=pure true:=by
  obtain ⟨_,_,s,p,rfl,g4⟩:=g4
  simp only [Bool.and_eq_true,beq_iff_eq] at g4
  obtain ⟨⟨⟨q1,q2⟩,q3⟩,q4⟩:=g4
  have k1:c.env.blockKind=.function:=by
   unfold Env.blockKind
   rw [C.L.kind];rfl
  have k2:c.env.kindOf soS=some .local:=by rw [C.L.kindOf];exact q2
  unfold swapsWith
  simp only [k1,k2,q3,q4]
  show (pure (true && true && (p.line == p.line) && true):Sem Bool)=pure true
  rw [beq_self_eq_true]
  rfl
 have bmost:(most:Int)+1=((most+1:Nat):Int):=rfl
 refine wpAny_execs_cons (asg_comp (x:=bS) (y:=nS) (iy:=0) (i:=2) (ny:=n) (a0:=2) (b0:=(most:Int)+1) (n:=most-1) C g5 clos_wit S1 (by rw [e2'];rfl) rfl (by rw [C.L.kindOf];exact g3) (by
  exact ⟨rfl,rfl,rfl,rfl⟩) (by decide) (by exact F2 [_,_] [] 6359196873018506699879357228117841094513440 hpre.2.2 (Int.natAbs_of_nonneg (F0 [_] [] 22768306181))) (by rw [rangeSize_one];split <;> lia) (by exact F2 [_,_] [] 333550338726230551626586208 hpre.2.2 sb0) (Inv:=witInv n) (fun i hi=>absurd hi (Nat.not_lt_zero _)) (fun j acc hj hI=>wit_turn n j acc hpre.1 hpre.2.1 (by exact F3 [_,_,_] [] 92385028401478094269837063297120 hpre.2.2 hj sb0) hI)
  (by rw [e2'];exact nd) (by rw [e2'];rfl) (by rw [C.L.kindOf];exact g3') (fun sl z=>by
   simp at z
   rcases z with z | z | z
   ·exact .inr ⟨_,z⟩
   ·exact .inr ⟨_,z⟩
   ·exact .inl z) hsw fun acc s₂ hI f₂ S₂ E₂=>?_)
 refine wpAny_mono ((chkB_good _ g6).sb C fl [.val (.int (n:Nat)),.val (.int (most:Nat)),.val (zl acc)] _ s₂ _ S₂ (wit_rest n most acc hI)) (fun f s' p=>?_) fun _ _ z=>z
 refine x3a3 p fun F σ' oa' q r g=>?_;clear p
 refine x1a2 (ends r q) fun v qv rv=>?_
 refine an4 (go_ext fr kp dL noO ((⟨f₂,S₂,E₂⟩:Go c fl _ _ s₁ _ _ s₂).trans g)) fun z1 z2 z3 z4=>?_
 exact ⟨v,hk v qv,z1,z2,e1'▸z3,rv.mono z4⟩
end
section
section
variable {w:World}{A:Around}{s:Shared}{K:Frag}{Γ:Gam}{G:List (String×V)}{k:Ck}{dep:Nat}{c:Cx}{fl:Addr→Prop}{σ:Sg}{oa:Nat→Addr}
theorem ints_get {items:List Value}{ls:List Int}(I:IntsAre items ls){n:Nat}{y:Value}(e:items[n]?=some y):∃ v t,ls[n]?=some v∧y=.int v t:=by
 induction I generalizing n with
 | nil=>exact absurd e (by rw [List.getElem?_nil];exact nofun)
 | cons a t _ ih =>
  cases n with
  | zero=>exact ⟨a,t,rfl,(Option.some.inj e).symm⟩
  | succ n=>exact ih e
theorem comp_enum {e it l D:Addr}{xi xv:Str}{pi pv pt:Pos}{x1:Nat}{elt iter:Expr}{scope:Scope}{pos:Pos}{items:Array Value}{ls:List Int}{caps:Sg}(hf:c.env.scope.kind=.function)(hh:A.handled=none)(nd:c.vars.Nodup)
  (hxi:c.vars[0]?=some xi) (hki:c.env.kindOf xi=some .local) (hxv:c.vars[1]?=some xv) (hkv:c.env.kindOf xv=some .local) (hcap:∀ sl∈caps,∃ v,sl=.val v)
  {s0 s1:Shared} (F01:Frm s0 s1) (X01:Ext s0.heap s1.heap) (S1:St c (fun b=>b∈[D,e,it]∨fl b) (.un::.un::caps) oa s1.heap)
  (hei:e≠it) (hle:l≠e) (hli:l≠it) (he:IsEnum s1.heap e it 0 .none) (hit:s1.heap.IsListIter it l 0) (hl:s1.heap.IsList l items) (hls:IntsAre items.toList ls) (hsz:items.size≤1000)
  (hD:s1.heap.get? D=some (lst0 []))
  (nD:D≠c.L∧D≠tabA∧s0.heap.get? D=none∧c.g0.get? D=none) (nE:∀ b∈[e,it],b≠c.L∧b≠tabA∧s0.heap.get? b=none∧c.g0.get? b=none) (nDe:D∉[e,it]) (nl:l≠c.L∧l≠tabA∧l≠D) (nL:s0.heap.get? c.L=none) (flt0:∀ b,fl b→Live s0.heap b)
  {Inv:Nat→List Int→Prop} (I0:Inv 0 [])
  (bd:∀ n v acc,ls[n]?=some v→Inv n acc→EltP w A c (fun b=>b∈[D,e,it]∨fl b) (.val (.int (n:Nat))::.val (.int v)::caps) oa elt (Inv (n+1)) acc)
  {R:Result→Shared→Prop} (hR:∀ s',LoopEnd c D (Inv ls.length) s0 s'→R (.ok .next) s') :
  codeAny (model PG w) A (.compLoop (.ListComp elt [⟨.Tuple [.Name xi pi,.Name xv pv] x1 pt,iter,[],0⟩] scope pos) 0 (.ref e) (.ref D) c.env) R s1:=by
 have hlen:items.size=ls.length:=by have:=hls.length;rwa [Array.length_toList] at this
 have noO:∀ {sl0 sl1:Slot},(sl0=.un∨∃ v,sl0=.val v)→(sl1=.un∨∃ v,sl1=.val v)→∀ b,¬OwnA (sl0::sl1::caps) oa b:=fun {sl0 sl1} z0 z1 b ⟨i,l,e,_⟩=>by
  have all:∀ sl∈sl0::sl1::caps,sl=.un∨∃ v,sl=.val v:=fun sl z=>by
   rcases List.mem_cons.mp z with rfl | z
   ·exact z0
   ·rcases List.mem_cons.mp z with rfl | z
    ·exact z1
    ·exact .inr (hcap sl z)
  rcases e with e | e <;> rcases all _ (List.mem_of_getElem? e) with z | ⟨v,z⟩ <;> cases z
 refine kcp_loop (fun m s=>∃ n acc its sl0 sl1 old,m=items.size+1-n∧n≤items.size∧Inv n acc∧IsEnum s.heap e it ((n:Nat):Int) old∧s.heap.IsListIter it l n∧s.heap.IsList l items∧s.heap.get? D=some (lst0 its)∧IntsAre its acc∧its.length≤n∧Frm s0 s ∧
   St c (fun b=>b∈[D,e,it]∨fl b) (sl0::sl1::caps) oa s.heap∧(sl0=.un∨∃ v,sl0=.val v)∧(sl1=.un∨∃ v,sl1=.val v)∧Ext s0.heap s.heap) ?_ (items.size+1)
  ⟨0,[],[],.un,.un,.none,rfl,Nat.zero_le _,I0,he,hit,hl,hD,.nil,Nat.le_refl _,F01,S1,.inl rfl,.inl rfl,X01⟩
 refine fun m s zh=>x5a1 zh fun n acc its sl0 sl1 zh2=>x1a5 zh2 fun old zq hj hI he' zh3=>an5 zh3 fun hit' hl' hD hits zh4=>an6 zh4 fun hil fr S hs0 hs1 X=>?_;clear zh4 zh3 zh2 zh;subst zq
 have iterO:∀ b∈[e,it],∀ o,s.heap.get? b=some o→IterO o:=fun b z o eo=>by
  simp at z
  rcases z with z | z
  ·subst z
   have:s.heap.get? b=_:=he'
   rw [this] at eo;cases eo
   exact ⟨fun vs t z=>by cases z;simp,fun v z=>by cases z⟩
  ·subst z
   refine x1a3 hit' fun o' e1 e2 e3=>?_;clear hit'
   rw [e1] at eo;cases eo
   exact ⟨fun vs t z=>by rw [e3] at z;cases z;simp,fun v z=>by rw [e3] at z;cases z⟩
 have ww:∀ b,b∈[e,it]→((b∈[D,e,it]∨fl b)∧¬OwnA (sl0::sl1::caps) oa b∧b≠c.L∧b≠tabA∧c.g0.get? b=none∧∀ o,s.heap.get? b=some o→IterO o):=fun b z =>
  ⟨.inl (List.mem_cons_of_mem _ z),noO hs0 hs1 b,(nE b z).1,(nE b z).2.1,(nE b z).2.2.2,iterO b z⟩
 have ext_of:∀ h₁:Heap,(∀ b o,¬b∈[e,it]→s.heap.get? b=some o→h₁.get? b=some o)→Ext s0.heap h₁:=fun h₁ hk=>by
  have nt:¬tabA∈[e,it]:=fun z=>(nE _ z).2.1 rfl
  refine ⟨fun b o e' ne=>hk b o (fun z=>by rw [(nE b z).2.2.1] at e';cases e') (X.keep b o e' ne),fun z=>?_,X.grow.keep fun o e'=>hk _ o nt e'⟩
  obtain ⟨o,e'⟩:=X.tab z
  exact ⟨o,hk _ o nt e'⟩
 cases hv:items[n]? with
 | some y =>
  have hlt:n<items.size:=(Array.getElem?_eq_some_iff.mp hv).1
  refine x2a2 (ints_get hls (n:=n) (y:=y) (by rw [Array.getElem?_toList];exact hv)) fun v tv ev zq3=>?_;subst zq3
  have eH:e<s.heap.objs.size:=Heap.lt_size he'
  refine x1a2 (id hit') fun oi hoi _=>?_
  refine x1a2 (id hl') fun ol hol _=>?_
  have iH:it<s.heap.objs.size:=Heap.lt_size hoi
  have lH:l<s.heap.objs.size:=Heap.lt_size hol
  refine wpAny_pyNext_enum_item he' hit' hl' hv hei fun h₁ heo hit₁ ht₁ hz₁ hk₁=>?_
  refine wpAny_letOwnedTupleGo_enum heo fun h₂ he₂ hs₂=>?_
  replace hs₂:Heap.SameBut e h₁ h₂:=hs₂
  have ht₂:h₂.IsTuple s.heap.objs.size #[.int n s.toks,.int v tv]:=⟨_,(hs₂.2 _ (Nat.ne_of_gt eH)).trans ht₁,rfl,_,rfl⟩
  have hz₂:h₂.objs.size=s.heap.objs.size+1:=hs₂.1.trans hz₁
  refine wpAny_assign_Tuple hh ht₂ rfl rfl fun h₃ hx₃=>?_
  replace hx₃:Heap.ExtBut h₂.objs.size h₂ h₃:=hx₃
  have up:∀ b o,b<s.heap.objs.size→h₂.get? b=some o→h₃.get? b=some o:=fun b o z q=>hx₃ b o (by rw [hz₂];exact Nat.ne_of_lt (Nat.lt_succ_of_lt z)) q
  have he₃:IsEnum h₃ e it ((n:Nat)+1:Int) (.int v tv):=up e _ eH he₂
  have hit₃:h₃.IsListIter it l (n+1):=(hit₁.extBut hs₂.extBut (Ne.symm hei)).at fun o q=>up it o iH q
  have hl₃:h₃.IsList l items:=((hl'.at fun o q=>hk₁ l o hle hli q).extBut hs₂.extBut hle).at fun o q=>up l o lH q
  have hk₃:∀ b o,¬b∈[e,it]→s.heap.get? b=some o→h₃.get? b=some o:=fun b o z q=>by
   simp at z
   exact up b o (Heap.lt_size q) (hs₂.extBut b o z.1 (hk₁ b o z.1 z.2 q))
  obtain ⟨S₁,le₁⟩:=S.touch (fl:=fun b=>b∈[D,e,it]∨fl b) (wr:=(·∈[e,it])) (h':=h₃) hk₃ ww (fun _ z=>z) (fun b z y=>absurd z y) (fun b z=>by
   by_cases hb:b∈[e,it]
   ·simp at hb
    rcases hb with hb | hb
    ·subst hb;exact ⟨_,he₃,.inr fun vs t z=>by cases z;simp⟩
    ·subst hb;refine x1a3 hit₃ fun o q _ q'=>?_;clear hit₃;exact ⟨o,q,.inr fun vs t z=>by rw [q'] at z;cases z;simp⟩
   ·refine x1a2 (S.flt b z) fun o e n=>?_;exact ⟨o,hk₃ b o hb e,n⟩)
  have hD₃:=hk₃ D _ nDe hD
  have X₃:=ext_of h₃ hk₃
  refine x1a2 (id S₁.ns) fun m N _=>?_
  show wpAny _ A (do holding [.int v tv] (assign (.Name xi pi) c.env (.int n s.toks));do holding [] (assign (.Name xv pv) c.env (.int v tv));pure ()) _ _ _
  refine wpAny_bind (wpAny_holding (wpAny_assign_Name (wpAny_mono (store_rule (s:={ s with heap:=h₃,toks:=s.toks+1 }) (Q:=fun _ s₂=>∃ h',s₂={ s with heap:=h',toks:=s.toks+1+1 }∧(h'.Ns c.L fun z=>if z=xi then some (.int n s.toks) else m z)∧Heap.SameBut c.L h₃ h') hki hf N fun h' N' sb=>⟨h',rfl,N',sb⟩) (fun _ s₂ p=>?_) fun _ _ z=>z.elim)))
  refine x1a3 p fun h₄ zq1 N₄ sb₄=>?_;clear p;subst zq1
  obtain ⟨S₄,e₄⟩:=S₁.store nd hxi hki N (.int (n:Nat) s.toks) N₄ sb₄
  refine wpAny_bind (wpAny_holding (wpAny_assign_Name (wpAny_mono (store_rule (s:={ s with heap:=h₄,toks:=s.toks+1+1 }) (Q:=fun _ s₂=>∃ h',s₂={ s with heap:=h',toks:=s.toks+1+1+1 }∧(h'.Ns c.L fun z=>if z=xv then some (.int v tv) else if z=xi then some (.int n s.toks) else m z)∧Heap.SameBut c.L h₄ h') hkv hf N₄ fun h' N' sb=>⟨h',rfl,N',sb⟩) (fun _ s₂ p=>wpAny_pure ?_) fun _ _ z=>z.elim)))
  refine x1a3 p fun h₅ zq1 N₅ sb₅=>?_;clear p;subst zq1
  obtain ⟨S₅,e₅⟩:=S₄.store nd hxv hkv N₄ (.int v tv) N₅ sb₅
  have S₅:St c (fun b=>b∈[D,e,it]∨fl b) (.val (.int (n:Nat))::.val (.int v)::caps) oa h₅:=S₅
  have up5:∀ b o,b≠c.L→h₃.get? b=some o→h₅.get? b=some o:=fun b o z e=>(sb₅.2 b z).trans ((sb₄.2 b z).trans e)
  refine elt_tail (s:={ s with heap:=h₅,toks:=s.toks+1+1+1 }) (bd n v acc ev hI) S₅ (up5 D _ nD.1 hD₃) hits (by exact F3 [_,_,_] [] 87438220004495516131190037358688 hsz hil hlt) (.inl (by simp)) nD.1 nD.2.1 nD.2.2.2 (noO (.inr ⟨_,rfl⟩) (.inr ⟨_,rfl⟩)) fun s' a=>?_
  refine x2a4 a.ex fun acc' its' hI' hD' hit' hil'=>?_
  have up6:∀ b o,b≠c.L→b≠tabA→b≠D→h₃.get? b=some o→s'.heap.get? b=some o:=fun b o z1 z2 z3 e=>a.keep b o (up5 b o z1 e) z2 z1 z3
  have nD2:∀ b∈[e,it],b≠D:=fun b z y=>nDe (y▸z)
  have up7:∀ b∈[e,it],∀ o,h₃.get? b=some o→s'.heap.get? b=some o:=fun b z o q=>up6 b o (nE b z).1 (nE b z).2.1 (nD2 b z) q
  refine ⟨_,by exact F2 [_,_,_,_] [] 6021361560946777630415549726996576 sb1 (nSc (F1 [_,_] [] 308512045005875296 hlt)),n+1,acc',its',.val (.int (n:Nat)),.val (.int v),.int v tv,rfl,hlt,hI',up7 e (by simp) _ he₃,hit₃.at (up7 it (by simp)),hl₃.at fun o q=>up6 l o nl.1 nl.2.1 nl.2.2 q,hD',hit',by exact F2 [_,_,_] [] 80874606357544045656160 hil (hil'),fr.trans (Frm.trans (.mk s h₅ _) a.fr),a.st,.inr ⟨_,rfl⟩,.inr ⟨_,rfl⟩,⟨fun b o e' ne=>?_,fun z=>?_,?_⟩⟩
  ·exact up6 b o (fun z=>by rw [z,nL] at e';cases e') ne (fun z=>by rw [z,nD.2.2.1] at e';cases e') (X₃.keep b o e' ne)
  ·obtain ⟨o,e'⟩:=X₃.tab z
   exact a.live _ ⟨o,up5 _ o (fun z=>S.lt z.symm) e'⟩
  ·refine .trans (fun b z=>?_) (X₃.grow.keep fun o e'=>up5 _ o (fun z=>S.lt z.symm) e') a.grow
   obtain ⟨o,e'⟩:=X₃.live z
   exact ⟨o,up5 b o (fun y=>by obtain ⟨o',z⟩:=z;rw [y,nL] at z;cases z) e'⟩
 | none =>
  have hjn:n=items.size:=nAs hj (by simpa using hv)
  refine wpAny_pyNext_enum_end hh he' hit' hl' hv fun h₁ hk₁=>?_
  have hk₁':∀ b o,¬b∈[e,it]→s.heap.get? b=some o→h₁.get? b=some o:=fun b o z q=>hk₁ b o (fun y=>z (by simp [y])) q
  obtain ⟨S₁,_⟩:=S.touch (fl:=fl) (wr:=(·∈[e,it])) (h':=h₁) hk₁' ww (fun _ z=>.inr z) (fun b z y=>noO hs0 hs1 b) (fun b z=>by
   refine x1a2 (S.flt b (.inr z)) fun o e n=>?_
   refine ⟨o,hk₁' b o (fun y=>?_) e,n⟩
   obtain ⟨o',e'⟩:=flt0 b z
   rw [(nE b y).2.2.1] at e';cases e')
  refine x1a2 (id S₁.ns) fun m N _=>?_
  exact hR _ ⟨⟨acc,its,by rw [← hlen,← hjn];exact hI,hk₁' _ _ nDe hD,hits,by exact F3 [_,_,_] [] 87438219995050783165519499696224 hsz hj hil⟩,fr.trans (.mk _ _ s.toks),ext_of h₁ hk₁',S₁.gi,⟨m,N⟩⟩
end
end
section
theorem sum_keep {w:World}{A:Around}{s:Shared}{E:Value→Shared→Prop}{l:Addr}{vs:List Value}{ns:List Int}{Q:Value→Shared→Prop}(hh:A.handled=none)(hl:s.heap.IsList l vs.toArray)(hi:IntsAre vs ns)
  (h:∀ h' tk t',(∀ b o,s.heap.get? b=some o→h'.get? b=some o)→Q (.int ns.sum t') { s with heap:=h',toks:=tk }):wpAny (model PG w) A (call (.builtin "sum") [.ref l]) Q E s:=by
 obtain ⟨xs,hx⟩:=hi.allInts.items
 have hl':s.heap.IsList l (intItems xs):=hx▸hl
 refine sum_intListG hh hl' fun h' tk t' hk=>?_
 have e1:ns=xs.toList.map (·.1):=by
  rw [← nums_intItems,← hx]
  exact (show numsOf vs.toArray.toList=ns from hi.numsOf).symm
 have e2:preSum (numAt xs) xs.size=ns.sum:=by
  rw [preSum_eq,List.take_of_length_le (by simp),e1]
 rw [e2]
 exact h h' tk t' hk
noncomputable def wwS:Str:=Str.ofString "w"
noncomputable def liS:Str:=Str.ofString "limbs"
noncomputable def atS:Str:=Str.ofString "at"
noncomputable def lbS:Str:=Str.ofString "limb"
noncomputable def nmWor:List (Str×NameKind):=[(Str.ofString ".0",.local),(Str.ofString "at",.local),(Str.ofString "limb",.local),(Str.ofString "w",.free)]
theorem clos_wor (sc:Scope)(env:Env)(ca:Addr)(h:env.cells.lookup wwS=some ca)(e:sc.names=nmWor):closureFor sc env=pure [(wwS,ca)]:=by
 unfold closureFor
 rw [e]
 have e1:cellOf env (Str.ofString "w")=pure ca:=by unfold cellOf;rw [show env.cells.lookup (Str.ofString "w")=some ca from h]
 simp [nmWor,e1,wwS]
noncomputable def m_wor:E:=.bin .Mult (.loc 2) (.loc 0)
theorem k_wor (P:Params):∃ (fd:FuncData) (sm:Str) (smp:Pos) (lm two mm:Expr) (p1 p2:Pos) (ax:Str) (axp:Pos) (lx:Str) (lxp:Pos) (tk:Tok) (tp:Pos) (en:Str) (enp:Pos) (lb:Expr) (ep:Pos) (sc:Scope) (cpos cp rp:Pos),
  (KF P).lookup 528=some ⟨.type "function",none,.func fd,#[]⟩ ∧
  fd.body=.stmts [.Return (some (.Call (.Name sm smp) [.ListComp (.BinOp lm .Mult (.BinOp two .Pow mm p1) p2) [⟨.Tuple [.Name ax axp,.Name lx lxp] tk tp,.Call (.Name en enp) [lb] [] ep,[],0⟩] sc cpos] [] cp)) rp] ∧
  chkHead (KF P) fd [liS,wwS] []=true∧parOk fd [liS,wwS]=true∧fd.scope.names.lookup wwS=some .cell∧nsIn (KF P) mainGlobals (Str.ofString "sum")=some none ∧
  Ck.isGlob ⟨fd.scope,[liS,wwS],GL⟩ "sum" sm=true∧ax=atS∧lx=lbS∧Ck.isGlob ⟨fd.scope,[liS,wwS],GL⟩ "enumerate" en=true∧gE ⟨fd.scope,[liS,wwS],GL⟩ (.loc 0) lb=true∧chkScC ⟨fd.scope,[liS,wwS],GL⟩ [atS,lbS] wwS nmWor sc=true ∧
  gE ⟨reSc fd.scope sc,[atS,lbS,wwS],GL⟩ (.loc 1) lm=true∧gE ⟨reSc fd.scope sc,[atS,lbS,wwS],GL⟩ (.cst (.int 2)) two=true∧gE ⟨reSc fd.scope sc,[atS,lbS,wwS],GL⟩ m_wor mm=true :=
 ⟨hfd 3 (hz "law_pq0548_01" 1028) (.ref 527) (hsd 70),_,_,_,_,_,_,_,_,_,_,_,_,_,_,_,_,_,_,_,_,_,by kernel_rfl,rfl,by kernel_rfl,by kernel_rfl,by kernel_rfl,by kernel_rfl,by kernel_rfl,by kernel_rfl,by kernel_rfl,by kernel_rfl,by kernel_rfl,by kernel_rfl,by kernel_rfl,by kernel_rfl,by kernel_rfl⟩
theorem kk_wor (P:Params):keepIn (KF P) (.ref 528)=true:=by kernel_rfl
theorem pow2 {w:World}{A:Around}{s:Shared}{E:Value→Shared→Prop}{b:Int}{t u:Tok}{Q:Value→Shared→Prop}(h0:0≤b)(h1:b≤2000)(q:Q (.int (2^b.toNat) s.toks) { s with toks:=s.toks+1 }):wpAny (model PG w) A (binaryOp .Pow (.int 2 t) (.int b u)) Q E s:=by
 by_cases hb:b=0
 ·subst hb
  exact PySem.AutoIntOps.pow_0 (by decide) (by rfl) q
 ·refine PySem.AutoIntOps.pow_4 h0 (by simpa using hb) (by decide) (by decide) ?_ q
  unfold Builtin.Int.intTooBig
  have e1:Builtin.Int.intBits 2=2:=by decide
  have e2:bitsLine=134217728:=by rfl
  rw [e1,e2]
  simp only [gt_iff_lt,decide_eq_true_eq]
  lia
section
variable {w:World}{A:Around}{s:Shared}{K:Frag}{Γ:Gam}{G:List (String×V)}{k:Ck}{dep:Nat}{c₀:Cx}{fl:Addr→Prop}{σ:Sg}{oa:Nat→Addr}
theorem eval_enum_core {e it l:Addr}{items:Array Value}{ls:List Int}{xi xv y:Str}{pi pv pt:Pos}{x1:Nat}{elt iter:Expr}{scope:Scope}{pos:Pos}{ny:Int}{ty:Tok}{ca:Addr}{oc:Obj}{E0:Value→Shared→Prop}{s0:Shared}(Sc:CompSc c₀ scope [xi,xv] y)(hh:A.handled=none)
  (X0:Ext s0.heap s.heap) (F0:Frm s0 s) (hfl:∀ b,fl b→LiveN s0.heap b) (gi0:GI c₀.g0 s0.heap) (gi:GI c₀.g0 s.heap)
  (hca:c₀.env.cells.lookup y=some ca) (hoc:s.heap.get? ca=some oc) (hod:oc.data=.cell (some (.int ny ty)))
  (hei:e≠it) (hle:l≠e) (hli:l≠it) (he:IsEnum s.heap e it 0 .none) (hit:s.heap.IsListIter it l 0) (hl:s.heap.IsList l items) (hls:IntsAre items.toList ls) (hsz:items.size≤1000)
  (nE:∀ b∈[e,it],b≠tabA∧s0.heap.get? b=none) (nl:l≠tabA) {Inv:Nat→List Int→Prop} (I0:Inv 0 [])
  (bd:∀ c,CompCx c₀ scope [xi,xv,y] c→∀ fl' oa' n v acc,ls[n]?=some v→Inv n acc→EltP w A c fl' [.val (.int (n:Nat)),.val (.int v),.val (.int ny)] oa' elt (Inv (n+1)) acc) {RR:Value→Addr→Result→Shared→Prop}
  (q:∀ C D s',CoreEnd c₀.g0 (Inv ls.length) s0 C D s'→RR (.ref D) C (.ok .next) s') :
  wpAny (model PG w) A (newList []) (fun acc s₃ =>
   wpAny (model PG w) A (newFunctionEnv scope c₀.env.globals [(y,ca)] [] c₀.env.qual none .none (some c₀.env)) (fun cenv s₄ =>
    codeAny (model PG w) A (.compStart (.ListComp elt [⟨.Tuple [.Name xi pi,.Name xv pv] x1 pt,iter,[],0⟩] scope pos) 0 (.ref e) acc { cenv with scope:=relabel scope c₀.env }) (RR acc cenv.locals) s₄) E0 s₃) E0 s:=by
 refine wpAny_newObj_type (wpAny_newFunctionEnv Sc.hcell (by intro y hy;simp at hy) (fun h₁ hns₁ hsb₁=>?_) Sc.hkind)
 dsimp only at hns₁ hsb₁ ⊢
 generalize hH2:s.heap.push { cls:=.type "list",dict:=none,data:=.seq ([]:List Value).toArray }=H2 at hns₁ hsb₁ ⊢
 have z2:H2.objs.size=s.heap.objs.size+1:=by rw [← hH2,Heap.size_push]
 have dDs:s.heap.get? s.heap.objs.size=none:=Heap.get?_none_of_le (Nat.le_refl _)
 have dCs:s.heap.get? H2.objs.size=none:=Heap.get?_none_of_le (by rw [z2];exact Nat.le_succ _)
 have old:∀ b,s.heap.get? b=none→s0.heap.get? b=none:=fun b z=>by
  cases q:s0.heap.get? b with
  | none=>rfl
  | some o=>obtain ⟨o',e'⟩:=X0.live ⟨o,q⟩;rw [z] at e';cases e'
 have dD:=old _ dDs
 have dC:=old _ dCs
 have p2:∀ b o,s.heap.get? b=some o→H2.get? b=some o:=fun b o e=>hH2▸Heap.get?_push_of_some _ e
 have p3:∀ b o,b<H2.objs.size→H2.get? b=some o→h₁.get? b=some o:=fun b o hb e=>hsb₁.extBut b o (Nat.ne_of_lt hb) (Heap.get?_push_of_some _ e)
 have kp:∀ b o,s.heap.get? b=some o→h₁.get? b=some o:=fun b o e=>p3 b o (Nat.lt_of_lt_of_le (Heap.lt_size e) (by rw [z2];exact Nat.le_add_right _ _)) (p2 b o e)
 have hD:h₁.get? s.heap.objs.size=some (lst0 []):=p3 _ _ (by rw [z2];exact Nat.lt_succ_self _) (hH2▸Heap.get?_push_size _ rfl)
 obtain ⟨ps,hP⟩:=gi.tab
 have nT:∀ {b:Addr},s.heap.get? b=none→b≠tabA:=fun e z=>by rw [z,hP] at e;cases e
 have X1:Ext s.heap h₁:=.of kp
 have he₁:IsEnum h₁ e it 0 .none:=kp _ _ he
 have hit₁:h₁.IsListIter it l 0:=hit.at fun o q=>kp _ o q
 have hl₁:h₁.IsList l items:=hl.at fun o q=>kp _ o q
 have lt:∀ {b o},s.heap.get? b=some o→b≠H2.objs.size∧b≠s.heap.objs.size:=fun e=>⟨fun z=>(by rw [z,dCs] at e;cases e),fun z=>(by rw [z,dDs] at e;cases e)⟩
 refine x1a2 (id hit) fun oit hoit _=>?_
 refine x1a2 (id hl) fun ol hol _=>?_
 have heo:s.heap.get? e=some _:=he
 have iterL:∀ b∈[e,it],LiveN h₁ b∧b≠H2.objs.size∧b≠s.heap.objs.size:=fun b z=>by
  simp at z
  rcases z with z | z
  ·subst z;exact ⟨⟨_,he₁,.inr fun vs t z=>by cases z;simp⟩,lt heo⟩
  ·subst z;refine x1a3 hit₁ fun o q _ q'=>?_;clear hit₁;exact ⟨⟨o,q,.inr fun vs t z=>by rw [q'] at z;cases z;simp⟩,lt hoit⟩
 have S1:St ⟨compEnvC scope [(y,ca)] H2.objs.size c₀.env,[xi,xv]++[y],c₀.g0⟩ (fun b=>b∈[s.heap.objs.size,e,it]∨fl b) (List.replicate ([xi,xv]:List Str).length .un++[.val (.int ny)]) (fun _=>0) h₁ :=
  comp_st Sc gi kp hca hoc hod ⟨_,hns₁⟩ dCs fun b z=>by
   rcases z with z | z
   ·rcases List.mem_cons.mp z with z | z
    ·subst z;exact ⟨_,hD,.inr fun vs t z=>by cases z⟩
    ·exact (iterL b z).1
   ·exact X1.liveN (X0.liveN (hfl b z))
 have loop:∀ s₃:Shared,s₃={ s with heap:=h₁,toks:=s.toks+([]:List (Str×Value)).length } →
   codeAny (model PG w) A (.compLoop (.ListComp elt [⟨.Tuple [.Name xi pi,.Name xv pv] x1 pt,iter,[],0⟩] scope pos) 0 (.ref e) (.ref s.heap.objs.size) (compEnvC scope [(y,ca)] H2.objs.size c₀.env)) (RR (.ref s.heap.objs.size) H2.objs.size) s₃:=by
  rintro s₃ rfl
  refine comp_enum (c:=⟨compEnvC scope [(y,ca)] H2.objs.size c₀.env,[xi,xv]++[y],c₀.g0⟩) (fl:=fl) (oa:=fun _=>0) (e:=e) (it:=it) (l:=l) (D:=s.heap.objs.size) (caps:=[.val (.int ny)]) (s0:=s0) (Inv:=Inv) Sc.hkind hh Sc.nd rfl (lookup_relabel_local (Sc.hx xi (by simp))) rfl (lookup_relabel_local (Sc.hx xv (by simp))) (fun sl z=>⟨_,List.mem_singleton.mp z⟩)
   (F0.trans (.mk s h₁ _)) (X0.trans X1) S1 hei hle hli he₁ hit₁ hl₁ hls hsz hD
   ⟨by show s.heap.objs.size≠H2.objs.size;rw [z2];exact Nat.ne_of_lt (Nat.lt_succ_self _),nT dDs,dD,gi.dead dDs⟩ (fun b z=>⟨(iterL b z).2.1,(nE b z).1,(nE b z).2,gi0.dead (nE b z).2⟩) (fun z=>(iterL _ z).2.2 rfl) ⟨(lt hol).1,nl,(lt hol).2⟩ dC (fun b z=>(hfl b z).live) I0
   (fun n v acc hv hI=>bd ⟨compEnvC scope [(y,ca)] H2.objs.size c₀.env,[xi,xv]++[y],c₀.g0⟩ ⟨rfl,rfl,rfl,rfl,rfl⟩ _ _ n v acc hv hI) fun s' e=>q _ _ s' ⟨dC,dD,by show s.heap.objs.size≠H2.objs.size;rw [z2];exact Nat.ne_of_lt (Nat.lt_succ_self _),e.ex,e.fr,e.x,e.gi,e.ns⟩
 exact codeAny_compStart_list (loop _ rfl) (wpAny_pyIter_enum he₁ (loop _ rfl))
end
end
section
def worInv (B:Nat)(l:List Nat)(n:Nat)(acc:List Int):Prop:=acc.sum=((vl B (l.take n):Nat):Int)
theorem wor_step {B n:Nat}{l:List Nat}{acc:List Int}(hI:worInv B l n acc){d:Nat}(hd:l[n]?=some d):worInv B l (n+1) (acc++[(d:Int)*((B^n:Nat):Int)]):=by
 unfold worInv at hI ⊢
 obtain ⟨hn,e⟩:=List.getElem?_eq_some_iff.mp hd
 rw [List.take_succ,hd,vl_append,List.sum_append,hI]
 have:(l.take n).length=n:=by rw [List.length_take];lia
 rw [this]
 simp only [Option.toList,List.sum_cons,List.sum_nil,vl]
 push_cast
 rw [Int.mul_comm (d:Int)]
 simp
section
variable {w:World}{A:Around}{s:Shared}{K:Frag}{Γ:Gam}{G:List (String×V)}{k:Ck}{dep:Nat}{c:Cx}{fl:Addr→Prop}{σ:Sg}{oa:Nat→Addr}
theorem wor_elt {lm two mm:Expr}{p1 p2:Pos}{n v ny:Nat}{Inv':List Int→Prop}{acc:List Int}(C:Cs k w A Γ K dep c)(h1:GoodE k (.loc 1) lm)(h2:GoodE k (.cst (.int 2)) two)(h3:GoodE k m_wor mm)
  (hv:v<2^16) (hn:n≤100) (hw:ny≤16) (hI:Inv' (acc++[(v:Int)*((2^ny)^n:Nat)])) :
  EltP w A c fl [.val (.int (n:Nat)),.val (.int (v:Nat)),.val (.int (ny:Nat))] oa (.BinOp lm .Mult (.BinOp two .Pow mm p1) p2) Inv' acc:=by
 intro s S
 refine wpAny_BinOp (wpAny_mono (h1.se C fl _ oa s (fun r τ=>r=.int (v:Nat)∧τ=[.val (.int (n:Nat)),.val (.int (v:Nat)),.val (.int (ny:Nat))]) S ⟨rfl,rfl⟩) (fun x s₁ p=>?_) fun _ _ z=>z)
 refine x2a3 p fun va σ₁ zn2 g₁ r₁=>an2 zn2 fun zp2_0 zp2_1=>?_;clear p zn2;subst zp2_0;subst zp2_1
 have S₁:=g₁.st
 obtain ⟨_,rfl⟩:=r₁.int_inv
 refine wpAny_BinOp (wpAny_mono (h2.se C fl _ oa s₁ (fun r τ=>r=.int 2∧τ=[.val (.int (n:Nat)),.val (.int (v:Nat)),.val (.int (ny:Nat))]) S₁ ⟨rfl,rfl⟩) (fun x s₂ p=>?_) fun _ _ z=>z)
 refine x2a3 p fun vb σ₂ zn2 g₂ r₂=>an2 zn2 fun zp2_0 zp2_1=>?_;clear p zn2;subst zp2_0;subst zp2_1
 have S₂:=g₂.st
 obtain ⟨_,rfl⟩:=r₂.int_inv
 refine wpAny_mono (h3.se C fl _ oa s₂ (fun r τ=>r=.int ((ny:Int)*(n:Int))∧τ=[.val (.int (n:Nat)),.val (.int (v:Nat)),.val (.int (ny:Nat))]) S₂ (show ((ny:Int).natAbs<2^64∧(n:Int).natAbs<2^64)∧_ from ⟨⟨by exact F1 [_] [] 24258410923074714680497580194750533728 hw,by exact F1 [_] [] 1552538299076781739551845132463791677536 hn⟩,rfl,rfl⟩)) (fun x s₃ p=>?_) fun _ _ z=>z
 obtain ⟨vc,σ₃,⟨rfl,rfl⟩,g₃,r₃⟩:=p
 have S₃:=g₃.st
 obtain ⟨_,rfl⟩:=r₃.int_inv
 have hb:(ny:Int)*(n:Int)=((ny*n:Nat):Int):=by push_cast;rfl
 have hb2:ny*n≤16*100:=Nat.mul_le_mul hw hn
 refine pow2 (by rw [hb];exact F0 [_] [] 5556229) (by rw [hb];exact F1 [_] [] 107472074605678032189229472157792 hb2) ?_
 refine mul_int ?_ (mulOk (by exact F1 [_] [] 99362451140914031331318088477766888468576 hv))
 refine PE.step g₁ (PE.step g₂ (PE.step g₃ ?_))
 have S₄:St c fl [.val (.int (n:Nat)),.val (.int (v:Nat)),.val (.int (ny:Nat))] oa s₃.heap:=S₃
 refine ⟨.int _,_,⟨rfl,_,rfl,?_⟩,⟨.mk s₃ s₃.heap _,S₄,.refl _ _ _ _⟩,.int _ _⟩
 have:((v:Int)*2^((ny:Int)*(n:Int)).toNat)=(v:Int)*((2^ny)^n:Nat):=by
  rw [hb,Int.toNat_natCast,← Nat.pow_mul]
  push_cast
  rfl
 rw [this]
 exact hI
end
noncomputable def worthS:Spec:={ X:=Nat×Nat,enc:=fun x=>[nl (dg (2^x.2) x.1),.int (x.2:Nat)],pre:=fun x=>1≤x.2∧x.2≤16∧x.1<2^63,post:=fun x r=>r=.int (x.1:Nat) }
theorem boot_sum:bootBuiltins (Str.ofString "sum")=some (.builtin "sum"):=by kernel_rfl
theorem m_law_worth (w:World):MtV w (KP w) 1 (.ref 528) worthS.use:=by
 refine x5a1 (k_wor w.params) fun fd sm smp lm two hy1=>x5a1 hy1 fun mm p1 p2 ax axp hy2=>x5a1 hy2 fun lx lxp tk tp en hy3=>x5a1 hy3 fun enp lb ep sc cpos hy4=>x2a7 hy4 fun cp rp ho hb g1 g2 g3 gs hy5=>an8 hy5 fun q1 zq2 zq3 q4 q5 q6 q7 hy6=>an2 hy6 fun q8 q9=>?_;clear hy6 hy5 hy4 hy3 hy2 hy1;subst zq2;subst zq3
 obtain ⟨D,nd⟩:=head_of ⟨_,_,_,ho⟩ g1 hb
 have g2:∀ x∈[liS,wwS],fd.scope.names.lookup x=some .local∨fd.scope.names.lookup x=some .cell:=fun x hx=>(Bool.or_eq_true_iff.mp (List.all_eq_true.mp g2 x hx)).imp (fun z=>eq_of_beq z) fun z=>eq_of_beq z
 have q5:=ok_get q5
 intro g0 gr A s fl f args vals k hd hu hp gi flt ht rf ra hU
 cases rf.ref_inv
 refine x1a3 hU fun x zq1 hpre hk=>?_;clear hU;subst zq1
 obtain ⟨q,wd⟩:=x
 have hpre:1≤wd∧wd≤16∧q<2^63:=hpre
 refine enterV D gr g2 nd rfl (by exact F1 [_,_] [] 81467250344160 hp) gi flt ht ra fun c s₁ e1' e2' e3 fr kp dL S1 noO=>?_
 have C:Cs ⟨fd.scope,[liS,wwS],GL⟩ w (A.deeper c.env) ⟨[],[],none⟩ (KP w) 0 c:=⟨⟨by rw [e3];rfl,e2',by rw [e3];exact D.kf⟩,Rn.at_ (gnd w.params) (Wd.nil _ _ _) D gr e1' e3 hd hu hp,by rw [e2'];exact nd⟩
 have R:=C.R
 have L:=C.L
 have S1:St c fl [.val (nl (dg (2^wd) q)),.val (.int (wd:Nat))] (fun _=>0) s₁.heap:=S1
 have Sc:=scC_of L q6 fun env ca=>clos_wor sc env ca
 have hB:2≤2^wd:=tLP (by exact hpre.1)
 have hl64:=len64 hB (n:=q) (by exact F1 [_] [] 437000681575038619766303290280072654319695783731966048 hpre.2.2)
 refine x1a2 (id S1.ns) fun m N B=>?_
 refine x1a2 (B 1 wwS _ (by rw [e2'];rfl) rfl) fun z nz rz=>?_
 obtain ⟨ty,rfl⟩:=VR.int_inv rz
 rcases nz with ⟨e,_⟩ | ⟨_,ca,oc',hca,hoc,hod⟩
 ·rw [L.kindOf] at e
  have e:fd.scope.names.lookup wwS=some .local:=e
  rw [g3] at e;cases e
 refine wpAny_execs_cons (wpAny_Return_some ?_)
 refine an3 (isGlob_of L q1) fun h1 h2 h3=>?_
 subst h1
 refine x5a1 R.gr.T fun p loose mean mg mb T=>?_
 refine wpAny_Call_NameR (Name_function_global R.kind h2 (loadGlobal_builtin (mg:=mg) (mb:=mb) (by rw [R.gl];exact T.g.keeps S1.gi.1) (mg_none_of R.gr.X T.g gs) (by rw [R.bu];exact T.b.keeps S1.gi.1) ((T.builtins _ (by decide)).trans boot_sum) ?_) h3)
 refine callWith_b rfl (evalArgs_plain (spliced_cons ?_))
 refine wpAny_mono (Q:=CompE c fl [.val (nl (dg (2^wd) q)),.val (.int (wd:Nat))] (fun _=>0) (worInv (2^wd) (dg (2^wd) q) (dg (2^wd) q).length) s₁) (E:=Ed) (?_:wpAny (model PG w) (A.deeper c.env) (eval (.ListComp (.BinOp lm .Mult (.BinOp two .Pow mm p1) p2) [⟨.Tuple [.Name atS axp,.Name lbS lxp] tk tp,.Call (.Name en enp) [lb] [] ep,[],0⟩] sc cpos) c.env) _ _ s₁) (fun y s' oo=>?_) fun _ _ z=>z
 rotate_left
 ·refine x3a7 oo.ex fun Da acc its zq3 d6 d7 i1 i2 i3 i4=>?_;subst zq3
  refine spliced_nil ?_
  have st:=oo.st
  have ev:=oo.ev
  refine sum_keep R.hd (isList_of i2) i3 fun h7 tk7 t7 kp7=>?_
  have i1:acc.sum=((vl (2^wd) ((dg (2^wd) q).take (dg (2^wd) q).length):Nat):Int):=i1
  rw [List.take_length,vl_dg hB] at i1
  rw [i1]
  have gi7:GI c.g0 h7:=st.gi.keep fun b o e _=>kp7 b o e
  refine an4 (go_ext fr kp dL noO ((⟨oo.fr,st,ev⟩:Go c fl _ _ s₁ _ _ _).ext (.of kp7) gi7 tk7)) fun z1 z2 z3 z4=>?_
  exact ⟨.int (q:Nat),hk _ rfl,z1,z2,e1'▸z3,.int _ _⟩
 rw [eval_ListComp,show firstAsync [⟨.Tuple [.Name atS axp,.Name lbS lxp] tk tp,.Call (.Name en enp) [lb] [] ep,[],0⟩]=false from rfl]
 refine wpAny_comprehension_free (use:=none) (g:=⟨.Tuple [.Name atS axp,.Name lbS lxp] tk tp,.Call (.Name en enp) [lb] [] ep,[],0⟩) (gs:=[]) rfl (fun _=>rfl) (Sc.clos ca hca) Sc.hkind Sc.hnames ?_
 show wpAny _ (A.deeper c.env) (eval (.Call (.Name en enp) [lb] [] ep) c.env) _ _ _
 refine wpAny_Call_NameR (blt_at (v:=.type "enumerate") C S1 q4 (by decide) ?_)
 rw [stC q5.pl]
 refine PySem.callWith_type rfl (evalArgs_plain (spliced_cons (wpAny_mono (q5.se C fl _ _ s₁ (fun r τ=>r=nl (dg (2^wd) q)∧τ=[.val (nl (dg (2^wd) q)),.val (.int (wd:Nat))]) S1 ⟨rfl,rfl⟩) (fun y s₂ p=>spliced_nil ?_) fun _ _ z=>z)))
 obtain ⟨v,τ,⟨rfl,rfl⟩,⟨f₂,S₂,e₂⟩,r₂⟩:=p
 refine x3a4 (VR.lst_inv r₂) fun a items mm' zq3 g hs rs=>?_;subst zq3
 have hints:IntsAre items ((dg (2^wd) q).map fun (n:Nat)=>(n:Int)):=ints_of (g:=vis s₂.heap (Hid c.L fl [.val (nl (dg (2^wd) q)),.val (.int (wd:Nat))] fun _=>0)) (by rw [List.map_map];exact rs)
 have hlen:items.length=(dg (2^wd) q).length:=by have:=hints.length;rw [List.length_map] at this;exact this
 have noO2:∀ b,¬OwnA [.val (nl (dg (2^wd) q)),.val (.int (wd:Nat))] (fun _=>0) b:=noO
 have cell2:s₂.heap.get? ca=some oc':=by
  have h1:ca≠tabA:=fun z=>by obtain ⟨ps,e⟩:=S1.gi.tab;rw [z,e] at hoc;cases hoc;cases hod
  have h2:ca≠c.L:=fun z=>by refine x3a3 N fun o es ep e d _=>?_;clear N;rw [z,e] at hoc;cases hoc;rw [hod] at d;cases d
  exact e₂.keep ca oc' hoc h1 h2 (noO2 _)
 refine call_enumerate_list (isList_of g.2) fun h' he hit hz kp'=>?_
 refine wpAny_pyIter_enum he ?_
 have X:=Ext.of kp'
 have d0:s₂.heap.get? s₂.heap.objs.size=none:=dead_size _
 have d1:s₂.heap.get? (s₂.heap.objs.size+1)=none:=Heap.get?_none_of_le (Nat.le_succ _)
 have gi':GI c.g0 h':=S₂.gi.keep fun b o e _=>kp' b o e
 have nT:∀ {b:Addr},s₂.heap.get? b=none→b≠tabA:=fun e z=>by obtain ⟨ps,hP⟩:=S₂.gi.tab;rw [z,hP] at e;cases e
 refine eval_enum_core (c₀:=c) (fl:=fl) (s:={ s₂ with heap:=h' }) (s0:=s₂) (ls:=(dg (2^wd) q).map fun (n:Nat)=>(n:Int)) Sc R.hd X (.mk s₂ h' _) S₂.flt S₂.gi gi' hca (kp' _ _ cell2) hod (by simp) (dead_ne d1 ⟨_,g.2⟩) (dead_ne d0 ⟨_,g.2⟩) he hit ((isList_of g.2).at fun o z=>kp' _ o z) (by simpa using hints) (by simp;exact F2 [_,_] [] 333550338726173102144043104 hl64 hlen)
  (fun b z=>by
   simp at z
   rcases z with z | z
   ·rw [z];exact ⟨nT d1,d1⟩
   ·rw [z];exact ⟨nT d0,d0⟩) (fun z=>g.1 (.inr (.inl z))) (Inv:=worInv (2^wd) (dg (2^wd) q)) rfl (fun c' hc' fl' oa' n v acc hv hI=>?_) fun C Dd s' o=>?_
 ·rw [List.getElem?_map] at hv
  cases hd':(dg (2^wd) q)[n]? with
  | none=>rw [hd'] at hv;cases hv
  | some d =>
   rw [hd'] at hv
   have hv:(d:Int)=v:=by injection hv
   subst hv
   have hn:=(List.getElem?_eq_some_iff.mp hd').1
   have hdl:d<2^wd:=dg_lim hB q d (List.mem_of_getElem? hd')
   have hdl2:2^wd≤2^16:=Nat.pow_le_pow_right (by exact F0 [] [] 73986) hpre.2.1
   exact wor_elt (k:=⟨reSc fd.scope sc,[atS,lbS,wwS],GL⟩) ⟨hc'.look L Sc.hkind,hc'.rn R Sc.hkind,by rw [hc'.vars];exact Sc.nd⟩ (ok_get q7) (ok_get q8) (ok_get q9) (by exact F2 [_,_] [] 1445913980164590408331348160608 hdl hdl2) (by exact F2 [_,_] [] 329300208891590421451712608 hl64 hn) hpre.2.1 (wor_step hI hd')
 ·obtain ⟨m',N'⟩:=o.ns
  refine ⟨m',N',fun h'' sb=>?_⟩
  have oo:=CompE.mk' (c₀:=c) f₂ S₂ e₂ (o.out S₂.gi sb)
  rw [List.length_map] at oo
  exact oo
end
section
theorem small_div:∀ d:Nat,2≤d→d≤60→∃ p∈primes60,d%p=0∧2≤p∧p≤d:=by
 have:∀ d:Fin 61,2≤d.val→∃ p∈primes60,d.val%p=0∧2≤p∧p≤d.val:=by decide +kernel
 exact fun d h1 h2=>this ⟨d,by exact F1 [_] [] 341433648176697440 h2⟩ h1
theorem primes60_le:∀ p∈primes60,2≤p∧p≤60:=by decide +kernel
theorem ip_lp (n:Nat):ip n=lp n:=by
 by_cases h:1<n
 ·unfold ip lp
  have n0:¬n=0:=F1 [_] [] 1738430031875 h
  have n1:¬n=1:=F1 [_] [] 1738446809091 h
  simp only [n0,n1,h,decide_false,Bool.not_false,Bool.true_and,decide_true]
  rw [Bool.eq_iff_iff,List.all_eq_true,List.all_eq_true]
  constructor
  ·intro q i hi
   have hi:=List.mem_range.mp hi
   simp only [Bool.not_eq_true',Bool.and_eq_false_iff,decide_eq_false_iff_not]
   by_cases h1:2+i<n
   ·refine .inr fun h2=>?_
    refine x1a4 (small_div (2+i) (by exact F0 [_] [] 287441156) (by exact F1 [_] [] 1323572220550154293344 hi)) fun p hp e p2 pd=>?_
    have:=q p hp
    have e2:n%p=0:=Nat.mod_eq_zero_of_dvd (Nat.dvd_trans (Nat.dvd_of_mod_eq_zero e) (Nat.dvd_of_mod_eq_zero h2))
    have e3:¬n=p:=F2 [_,_,_] [] 7647912052205326132449568 h1 pd
    simp [hits,e2,e3] at this
   ·exact .inl h1
  ·intro q p hp
   obtain ⟨p2,p60⟩:=primes60_le p hp
   have:=q (p-2) (List.mem_range.mpr (by exact F2 [_,_] [] 366007125258414070335570208 p60 (nSc p2)))
   rw [show 2+(p-2)=p by exact nAs (F1 [_,_] [] 315570836910407968 (nSc p2)) (F1 [_,_] [] 308642019534719072 sb1)] at this
   simp only [Bool.not_eq_true',Bool.and_eq_false_iff,decide_eq_false_iff_not] at this
   by_cases e2:n%p=0
   ·have:¬p<n:=by
     rcases this with z | z
     ·exact z
     ·exact absurd e2 z
    have:p ∣ n:=Nat.dvd_of_mod_eq_zero e2
    have:=Nat.le_of_dvd (by exact nPo n0) this
    have e3:n=p:=by lia
    simp [hits,e3]
   ·simp [hits,e2]
 ·have:n=0∨n=1:=by lia
  rcases this with rfl | rfl <;> decide
noncomputable def spB (n b:Nat):Bool:=decide (b%n=0) || (List.range 10).any fun s=>decide ((n-1)%2^s=0) && decide ((n-1)/2^s%2=1) &&
 (decide (b^((n-1)/2^s)%n=1) || (List.range s).any fun i=>decide (b^((n-1)/2^s*2^i)%n=n-1))
theorem sp_of {n b:Nat}(h:spB n b=true):StrongP n b:=by
 unfold spB at h
 simp only [Bool.or_eq_true,decide_eq_true_eq,List.any_eq_true,Bool.and_eq_true,List.mem_range] at h
 rcases h with h | ⟨s,_,⟨h1,h2⟩,h⟩
 ·exact .inl h
 ·refine .inr ⟨s,⟨h1,h2⟩,?_⟩
  rcases h with h | ⟨i,hi,h⟩
  ·exact .inl h
  ·exact .inr ⟨i,hi,h⟩
theorem prime_sp:∀ n:Nat,n<502→n%2=1→lp n=true→∀ b,2≤b→b≤6→StrongP n b:=by
 have:∀ n:Fin 502,n.val%2=1→lp n.val=true→((List.range 5).all fun i=>spB n.val (2+i))=true:=by decide +kernel
 intro n hn ho hp b h1 h2
 have:=this ⟨n,hn⟩ ho hp
 rw [List.all_eq_true] at this
 have:=this (b-2) (List.mem_range.mpr (by exact F2 [_,_] [] 349686626678416927734661408 h2 (nSc h1)))
 rw [show 2+(b-2)=b by exact nAs (F1 [_,_] [] 315570836910407968 (nSc h1)) (F1 [_,_] [] 308642019534719072 sb1)] at this
 exact sp_of this
theorem LW.uniq {n most:Nat}{r r':V}(h:LW n most r)(k:LW n most r'):r=r':=by
 rcases h with ⟨rfl,h⟩ | ⟨b,rfl,h1,h2,h3,h4⟩ <;> rcases k with ⟨rfl,k⟩ | ⟨c,rfl,k1,k2,k3,k4⟩
 ·rfl
 ·exact absurd (h c k1 k2) k3
 ·exact absurd (k b h1 h2) h3
 ·rcases Nat.lt_trichotomy b c with z | z | z
  ·exact absurd (k4 b h1 z) h3
  ·rw [z]
  ·exact absurd (h4 c k1 z) k3
end
section
def RecO (o:Obj):Prop:=∃ vs t,o.data=.fields vs∧vs[1]?=some (.str mulQual t)
noncomputable def tabPs (c':Addr):Array Value:=#[rawInt mulDef.2.2.2.line,rawInt mulDef.2.2.2.col,.ref c']
def TabL (ps:Array Value)(c9:Addr)(o9:Obj):Prop:=c9≠tabA∧(ps=#[]∨(ps=tabPs c9∧RecO o9))
theorem TabL.ok {h₀ h:Heap}{L:Addr}{news:List (Addr×Obj)}{ps:Array Value}{c9:Addr}{o9:Obj}(x:TabL ps c9 o9)(N:News h₀ L h news)(hm:(c9,o9)∈news):TabOK h ps:=by
 obtain ⟨ne,x | ⟨rfl,vs,t,e1,e2⟩⟩:=x
 ·exact .inl x
 ·exact .inr ⟨c9,ne,rfl,c9,o9,vs,t,rfl,(N _ hm).1,e1,e2⟩
noncomputable def AllNe (d:Addr):List Addr→Prop
 | []=>True
 | p::r=>@Ne Nat p d∧AllNe d r
theorem allNe_of {d:Addr}:∀ {l:List Addr},(∀ p∈l,p≠d)→AllNe d l
 | [],_=>trivial
 | p::_,h=>⟨h p (.head _),allNe_of fun q hq=>h q (.tail _ hq)⟩
inductive Put (o:Obj) (c9:Addr) (o9:Obj):List (Addr×Obj)→((Addr×Obj)→Obj→List (Addr×Obj))→List Addr→Prop
 | nil:Put o c9 o9 [] (fun _ _=>[]) []
 | tab {l g r}:Put o c9 o9 l g r→Put o c9 o9 ((275,o)::l) (fun e t=>(275,t)::g e t) (275::r)
 | slot {l g r}:Put o c9 o9 l g r→Put o c9 o9 ((c9,o9)::l) (fun e t=>e::g e t) r
 | drop {p l g r}:Put o c9 o9 l g r→Put o c9 o9 (p::l) g r
 | other {p l g r}:@Ne Nat p.1 275→@Ne Nat p.1 c9→Put o c9 o9 l g r→Put o c9 o9 (p::l) (fun e t=>p::g e t) (p.1::r)
theorem Put.mem {o:Obj}{c9:Addr}{o9:Obj}{l:List (Addr×Obj)}{g:(Addr×Obj)→Obj→List (Addr×Obj)}{r:List Addr}(U:Put o c9 o9 l g r):∀ {e t p},p∈g e t→p=e∨p=(tabA,t)∨(p∈l∧p.1≠tabA∧p.1≠c9):=by
 induction U with
 | nil=>intro e t p h;exact nomatch h
 | tab x ih =>
  intro e t p h
  rcases List.mem_cons.mp h with rfl | h
  ·exact .inr (.inl rfl)
  ·exact (ih h).imp_right (.imp_right fun q=>⟨.tail _ q.1,q.2⟩)
 | slot x ih =>
  intro e t p h
  rcases List.mem_cons.mp h with rfl | h
  ·exact .inl rfl
  ·exact (ih h).imp_right (.imp_right fun q=>⟨.tail _ q.1,q.2⟩)
 | drop x ih=>intro e t p h;exact (ih h).imp_right (.imp_right fun q=>⟨.tail _ q.1,q.2⟩)
 | other k1 k2 x ih =>
  intro e t p h
  rcases List.mem_cons.mp h with rfl | h
  ·exact .inr (.inr ⟨.head _,k1,k2⟩)
  ·exact (ih h).imp_right (.imp_right fun q=>⟨.tail _ q.1,q.2⟩)
theorem Put.rest {o:Obj}{c9:Addr}{o9:Obj}{l:List (Addr×Obj)}{g:(Addr×Obj)→Obj→List (Addr×Obj)}{r:List Addr}(U:Put o c9 o9 l g r):∀ {a},a∈r→(∃ x,(a,x)∈l)∧(a=tabA∨a≠c9):=by
 induction U with
 | nil=>intro a h;exact nomatch h
 | tab x ih =>
  intro a h
  rcases List.mem_cons.mp h with rfl | h
  ·exact ⟨⟨_,.head _⟩,.inl rfl⟩
  ·exact (ih h).imp_left fun q=>q.imp fun _ z=>.tail _ z
 | slot x ih=>intro a h;exact (ih h).imp_left fun q=>q.imp fun _ z=>.tail _ z
 | drop x ih=>intro a h;exact (ih h).imp_left fun q=>q.imp fun _ z=>.tail _ z
 | @other p _ _ _ k1 k2 x ih =>
  intro a h
  rcases List.mem_cons.mp h with rfl | h
  ·exact ⟨⟨p.2,.head _⟩,.inr k2⟩
  ·exact (ih h).imp_left fun q=>q.imp fun _ z=>.tail _ z
structure Aft0 (h₀:Heap) (L:Addr) (m:Str→Option Value) (g:(Addr×Obj)→Obj→List (Addr×Obj)) (r:List Addr) (c9:Addr) (h':Heap) (ps':Array Value) (c8:Addr) (o8:Obj):Prop where
 F:Fr h₀ L h' m
 N:News h₀ L h' (g (c8,o8) (tabObj ps'))
 T:TabL ps' c8 o8
 le:@LE.le Nat _ c9 c8
 ne:∀ p∈r,p≠c8
structure Aft (h₀:Heap) (L:Addr) (m:Str→Option Value) (g:(Addr×Obj)→Obj→List (Addr×Obj)) (r:List Addr) (c9:Addr) (h':Heap) (ps':Array Value) (c8:Addr) (o8:Obj):Prop where
 F:Fr h₀ L h' m
 N:News h₀ L h' (g (c8,o8) (tabObj ps'))
 T:TabL ps' c8 o8
 le:@LE.le Nat _ c9 c8
 ne:∀ p∈r,p≠c8
 U:Put (tabObj ps') c8 o8 (g (c8,o8) (tabObj ps')) g r
theorem Put.next {o:Obj}{c9:Addr}{o9:Obj}{l:List (Addr×Obj)}{g:(Addr×Obj)→Obj→List (Addr×Obj)}{r:List Addr}(U:Put o c9 o9 l g r){t:Obj}{c8:Addr}{o8:Obj}:(∀ p∈r,p≠c8)→Put t c8 o8 (g (c8,o8) t) g r:=by
 induction U with
 | nil=>exact fun _=>.nil
 | tab x ih=>exact fun h=>.tab (ih fun p hp=>h p (.tail _ hp))
 | slot x ih=>exact fun h=>.slot (ih h)
 | drop x ih=>exact ih
 | other k1 k2 x ih=>exact fun h=>.other k1 (h _ (.head _)) (ih fun p hp=>h p (.tail _ hp))
theorem Aft.of {h₀ h':Heap}{L:Addr}{m:Str→Option Value}{g:(Addr×Obj)→Obj→List (Addr×Obj)}{r:List Addr}{c9:Addr}{ps':Array Value}{c8:Addr}{o8:Obj}{o:Obj}{d9:Addr}{o9:Obj}{l:List (Addr×Obj)}(U:Put o d9 o9 l g r)
  (F:Fr h₀ L h' m) (N:News h₀ L h' (g (c8,o8) (tabObj ps'))) (T:TabL ps' c8 o8) (le:@LE.le Nat _ c9 c8) (ne:∀ p∈r,p≠c8):Aft h₀ L m g r c9 h' ps' c8 o8:=⟨F,N,T,le,ne,U.next ne⟩
theorem k_codeHd (P:Params):codeHdIn (KF P) 279 275=true:=by kernel_rfl
theorem mkGr {w:World}{h₀ h:Heap}{L:Addr}{news:List (Addr×Obj)}{o:Obj}{p:Program}{loose:List Str}{mean:ExcName→Option Value}{mg mb:Str→Option Value}(X:(KP w).In h₀)(T:Top p loose mean mg mb h₀)(N:News h₀ L h news)(hm:(tabA,o)∈news):Gr w (KP w) h₀ :=
 ⟨X,N.fresh hm,⟨_,_,_,_,_,T⟩,codeHd_of_K X (k_codeHd w.params)⟩
end
section
section
variable {w:World}{A:Around}{s:Shared}{h₀:Heap}{L:Addr}{m:Str→Option Value}{news:List (Addr×Obj)}{g:(Addr×Obj)→Obj→List (Addr×Obj)}{ro:List Addr}{ps:Array Value}{c9:Addr}{o9:Obj}{Q:Value→Shared→Prop}{E:Value→Shared→Prop}
 {p:Program} {loose:List Str} {mean:ExcName→Option Value} {mg mb:Str→Option Value}
theorem kcallF {dep:Nat}{a:Addr}{S:Spec}{vs:List V}{vals:List Value}{fl:Addr→Prop}
  (M:MtV w (KP w) dep (.ref a) S.use) (X:(KP w).In h₀) (T:Top p loose mean mg mb h₀) (F:Fr h₀ L s.heap m) (N:News h₀ L s.heap news) (tl:TabL ps c9 o9) (U:Put (tabObj ps) c9 o9 news g ro) (hm:((275:Addr),tabObj ps)∈news) (hc:(c9,o9)∈news) (hd:A.handled=none) (hu:A.units+200+100*dep<cLine) (hp:A.depth+dep<recursionLimit)
  (flt:∀ b,fl b→LiveN s.heap b) (ht:fl tabA) (ra:VRs (vis s.heap fl) vs vals) (x:S.X) (e:vs=S.enc x) (p:S.pre x)
  (q:∀ v r h' tk ps' c8 o8,S.post x v→VR (vis h' fl) v r→Aft h₀ L m g ro c9 h' ps' c8 o8→(∀ b o,s.heap.get? b=some o→b≠tabA→h'.get? b=some o)→(c8=c9∨(s.heap.get? c8=none∧h'.get? c8=some o8∧RecO o8))→Q r { s with heap:=h',toks:=tk }) :
  wpAny (model PG w) A (call (.ref a) vals) Q E s:=by
 have gr:=mkGr X T N hm
 have tok:=tl.ok N hc
 have hm':=N _ hm
 have gi:GI h₀ s.heap:=⟨F.keep,ps,hm'.1,tok⟩
 have rf:VR (vis s.heap fl) (.ref a) (.ref a):=.ref a
 refine wpAny_mono (M h₀ gr A s fl (.ref a) vs vals (S.post x) hd hu hp gi flt ht rf ra ⟨x,e,p,fun r hr=>hr⟩) (fun r s' P=>?_) fun _ _ z=>z.elim
 obtain ⟨v,hv,⟨h',tk,rfl⟩,X',G,rr⟩:=P
 refine an2 G fun gk zr0=>x1a2 zr0 fun ps' hP tok'=>?_;clear G zr0
 refine x3a3 F.ns fun oL es ep hL hLd hLk=>?_
 have F':Fr h₀ L h' m:=⟨⟨oL,es,ep,X'.keep L oL hL hm'.2.1.symm,hLd,hLk⟩,gk,F.above⟩
 refine x1a2 (X'.grow ps hm'.1) fun ps2 eP k2=>?_
 have e3:ps2=ps':=by
  rw [hP] at eP
  injection eP with eP
  injection eP with _ _ eP
  injection eP with eP
  exact eP.symm
 subst e3
 have same:TabL ps2 c9 o9→Q r { s with heap:=h',toks:=tk }:=fun tl'=>by
  refine q v r h' tk ps2 c9 o9 hv rr (.of U F' (fun y hy=>?_) tl' (Nat.le_refl _) fun y hy=>?_) (fun b o e1 e2=>X'.keep b o e1 e2) (.inl rfl)
  ·rcases U.mem hy with rfl | rfl | ⟨hy,n1,n2⟩
   ·have n:=N _ hc;exact ⟨X'.keep _ _ n.1 tl.1,n.2⟩
   ·exact ⟨hP,hm'.2⟩
   ·have n:=N _ hy;exact ⟨X'.keep _ _ n.1 n1,n.2⟩
  ·rcases (U.rest hy).2 with z | z
   ·rw [z];exact tl.1.symm
   ·exact z
 rcases k2 with rfl | ⟨rfl,c',rfl,d⟩
 ·exact same tl
 ·have dead:s.heap.get? c'=none:=by
   cases q:s.heap.get? c' with
   | none=>rfl
   | some o=>exact absurd (d c' ⟨o,q⟩) (Nat.lt_irrefl _)
  have cne:c'≠tabA:=fun z=>by rw [z,hm'.1] at dead;cases dead
  rcases tok' with x | ⟨c'',ne,e4,c₁,oc,vs,t,e0,f1,f2,f3⟩
  ·cases x
  ·cases e0
   have:c''=c':=by
    injection e4 with e4
    injection e4 with _ e4
    injection e4 with _ e4
    injection e4 with e4 _
    injection e4 with e4
    exact e4.symm
   subst this
   refine q v r h' tk _ c'' oc hv rr (.of U F' (fun y hy=>?_) ⟨ne,.inr ⟨rfl,vs,t,f2,f3⟩⟩ (Nat.le_of_lt (d c9 ⟨_,(N _ hc).1⟩)) fun y hy=>?_) (fun b o e1 e2=>X'.keep b o e1 e2) (.inr ⟨dead,f1,vs,t,f2,f3⟩)
   ·rcases U.mem hy with rfl | rfl | ⟨hy,n1,n2⟩
    ·refine ⟨f1,fun z=>?_,?_⟩
     ·rw [show c''=L from z,hL] at dead;cases dead
     ·cases q:h₀.get? c'' with
      | none=>rfl
      | some o=>rw [F.keep _ _ q] at dead;cases dead
    ·exact ⟨hP,hm'.2⟩
    ·have n:=N _ hy;exact ⟨X'.keep _ _ n.1 n1,n.2⟩
   ·obtain ⟨⟨yo,hyo⟩,_⟩:=U.rest hy
    exact Nat.ne_of_lt (d y ⟨_,(N _ hyo).1⟩)
theorem fresh_list {h':Heap}{l:List V}{r:Value}{fl:Addr→Prop}{ax:Addr}(F:Fr h₀ L s.heap m)(hfl:∀ b,LiveN s.heap b→b≠ax→fl b)(keep:∀ b o,s.heap.get? b=some o→b≠tabA→h'.get? b=some o)(r0:VR (vis h' fl) (.lst l) r)(ht:fl tabA) :
  ∃ a items n,r=.ref a∧h'.get? a=some (listOf items.toArray n)∧items.length≤sMx∧VRs (vis h' fl) l items∧(a=ax∨(s.heap.get? a=none∧a≠L∧h₀.get? a=none)):=by
 refine x3a4 (VR.lst_inv r0) fun a items n zq3 hg hs hr=>?_;subst zq3
 refine ⟨a,items,n,rfl,hg.2,hs,hr,?_⟩
 by_cases eax:a=ax
 ·exact .inl eax
 have dead:s.heap.get? a=none:=by
  cases q:s.heap.get? a with
  | none=>rfl
  | some o =>
   exfalso
   by_cases ea:a=tabA
   ·exact hg.1 (ea▸ht)
   ·have:=keep a o q ea
    rw [hg.2] at this;cases this
    exact hg.1 (hfl a ⟨_,q,.inr fun vs t z=>by cases z⟩ eax)
 refine .inr ⟨dead,fun z=>?_,?_⟩
 ·refine x3a2 F.ns fun o es ep e _=>?_
  rw [← z,dead] at e;cases e
 ·cases q:h₀.get? a with
  | none=>rfl
  | some o=>rw [F.keep _ _ q] at dead;cases dead
theorem kcall_nat {x y:Int}{tx ty:Tok}(X:(KP w).In h₀)(T:Top p loose mean mg mb h₀)(F:Fr h₀ L s.heap m)(N:News h₀ L s.heap news)(tl:TabL ps c9 o9)(U:Put (tabObj ps) c9 o9 news g ro)(hm:((275:Addr),tabObj ps)∈news)(hc:(c9,o9)∈news)(hd:A.handled=none)(hu:A.units+3000<cLine)(hp:A.depth+20<recursionLimit)
  (h1:0≤x∧x<2^63) (h2:1≤y∧y≤64)
  (q:∀ a items n h' tk ps' c8 o8,Aft h₀ L m g ro c9 h' ps' c8 o8→News h₀ L h' ((a,listOf items.toArray n)::g (c8,o8) (tabObj ps'))→IntsAre items ((dg (2^y.toNat) x.toNat).map fun (n:Nat)=>(n:Int))→items.length≤64→@Ne Nat a 275→@Ne Nat a c8→Q (.ref a) { s with heap:=h',toks:=tk }) :
  wpAny (model PG w) A (call (.ref 77) [.int x tx,.int y ty]) Q E s:=by
 have ht:=N _ hm
 refine kcallF (S:=natOfS) (fl:=LiveN s.heap) (m_nat_of w) X T F N tl U hm hc hd (by exact F1 [_,_] [] 100819472928462181264012251143725402562656 hu) (by exact F1 [_,_] [] 1366357084582131535968 hp) (fun b z=>z) ⟨_,ht.1,.inl rfl⟩ (vs:=[.int x,.int y]) (.cons (.int _ _) (.cons (.int _ _) .nil)) (x.toNat,y.toNat) ?_ ⟨by show x.toNat<2^64;exact F2 [_] [_] 469225908923625160458312948726942071472149882253891487546671904 h1.2 (iTn h1.1),by show 1≤y.toNat;exact F2 [_] [_] 315266662810306608 h2.1 (iSt _),by show y.toNat≤64;exact F2 [_] [_] 1348117314352666456977359962912 h2.2 (iTn (F1 [] [_] 23355284486 h2.1))⟩ fun v r h' tk ps' c8 o8 hv rr af keep hc8=>?_
 ·show _=[V.int ((x.toNat:Nat):Int),V.int ((y.toNat:Nat):Int)]
  rw [iTn h1.1,iTn (by exact F1 [] [_] 23355284486 h2.1)]
 ·have hv:v=nl (dg (2^y.toNat) x.toNat):=hv
  subst hv
  refine x3a5 (fresh_list (ax:=L) F (fun b z _=>z) keep rr ⟨_,ht.1,.inl rfl⟩) fun a items n zq3 e1 e2 e3 e4=>?_;subst zq3
  have e4:s.heap.get? a=none∧a≠L∧h₀.get? a=none:=by
   rcases e4 with e4 | e4
   ·exfalso
    refine x3a3 F.ns fun o es ep e d _=>?_
    have:=keep L o e ht.2.1.symm
    rw [← e4,e1] at this;cases this;cases d
   ·exact e4
  have hl:=e3.length
  have e3':VRs (vis h' (LiveN s.heap)) (((dg (2^y.toNat) x.toNat).map fun (n:Nat)=>(n:Int)).map V.int) items:=by
   rw [List.map_map];exact e3
  have ne:∀ {b o},s.heap.get? b=some o→a≠b:=fun e z=>by rw [z,e] at e4;cases e4.1
  refine q a items n h' tk ps' c8 o8 af (fun p hp=>?_) (ints_of e3') ?_ (ne ht.1) ?_
  ·rcases List.mem_cons.mp hp with rfl | hp
   ·exact ⟨e1,e4.2⟩
   ·exact af.N p hp
  ·have hB:=tLP (w:=y.toNat) (by exact F2 [_] [_] 315266662810306608 h2.1 (iSt _))
   have:=len64 hB (n:=x.toNat) (by exact F2 [_] [_] 469225908923625160458312948726942071472149882253891487546671904 h1.2 (iTn h1.1))
   rw [List.length_map] at hl
   exact F2 [_,_] [] 329130203717208890272653408 hl this
  ·rcases hc8 with rfl | ⟨_,z1,vs,t,z2,_⟩
   ·exact ne (N _ hc).1
   ·intro z'
    rw [z',z1] at e1;cases e1;cases z2
end
end
section
theorem of_ints {g:Vis}:∀ {items:List Value} {ns:List Int},IntsAre items ns→VRs g (ns.map V.int) items
 | _,_,.nil=>.nil
 | _,_,.cons _ _ r=>.cons (.int _ _) (of_ints r)
theorem dg_vr {h₀ h:Heap}{L a:Addr}{news:List (Addr×Obj)}{items:List Value}{n:Nat}{l:List Nat}{fl:Addr→Prop}(N:News h₀ L h news)(hm:(a,listOf items.toArray n)∈news)(hf:¬fl a)(hl:items.length≤64)(I:IntsAre items (l.map fun (n:Nat)=>(n:Int))):VR (vis h fl) (nl l) (.ref a):=by
 have:VRs (vis h fl) (iv l) items:=by
  have:=of_ints (g:=vis h fl) I
  rw [List.map_map] at this
  exact this
 exact .lst ⟨hf,(N _ hm).1⟩ (by unfold sMx;exact F1 [_] [] 5156824200426167820361824 hl) this
theorem tup_ne {a:Array Value}{b:Array Value}{n:Nat}(z:some (tupOf a)=some (listOf b n)):False:=by
 injection z with z
 have:=congrArg Obj.cls z
 injection this with this
 exact absurd this (by decide)
section
variable {w:World}{A:Around}{s:Shared}{h₀:Heap}{L:Addr}{m:Str→Option Value}{news:List (Addr×Obj)}{g:(Addr×Obj)→Obj→List (Addr×Obj)}{ro:List Addr}{ps:Array Value}{c9:Addr}{o9:Obj}{Q:Value→Shared→Prop}{E:Value→Shared→Prop}
 {p:Program} {loose:List Str} {mean:ExcName→Option Value} {mg mb:Str→Option Value}
theorem dg_one {B:Nat}(hB:2≤B):dg B 1=[1]:=by
 rw [dg_pos hB (by exact F0 [] [] 73922),Nat.mod_eq_of_lt (by exact F1 [_] [] 19865081860 hB),Nat.div_eq_of_lt (by exact F1 [_] [] 19865081860 hB),dg_zero]
theorem kcall_nat1 {y:Int}{tx ty:Tok}(X:(KP w).In h₀)(T:Top p loose mean mg mb h₀)(F:Fr h₀ L s.heap m)(N:News h₀ L s.heap news)(tl:TabL ps c9 o9)(U:Put (tabObj ps) c9 o9 news g ro)(hm:((275:Addr),tabObj ps)∈news)(hc:(c9,o9)∈news)(hd:A.handled=none)(hu:A.units+3000<cLine)(hp:A.depth+20<recursionLimit)
  (h2:1≤y∧y≤64)
  (q:∀ a t n h' tk ps' c8 o8,Aft h₀ L m g ro c9 h' ps' c8 o8→News h₀ L h' ((a,listOf #[.int 1 t] n)::g (c8,o8) (tabObj ps'))→@Ne Nat a 275→@Ne Nat a c8→Q (.ref a) { s with heap:=h',toks:=tk }) :
  wpAny (model PG w) A (call (.ref 77) [.int 1 tx,.int y ty]) Q E s:=by
 refine kcall_nat X T F N tl U hm hc hd hu hp (by exact ⟨F0 [] [] 86405,F0 [] [] 27469212473283604107673776198⟩) h2 fun a items n h' tk ps' c8 o8 af N' I hl n1 n2=>?_
 rw [show (1:Int).toNat=1 from rfl,dg_one (tLP (by exact F2 [_] [_] 315266662810306608 h2.1 (iSt _)))] at I
 cases I with
 | cons _ t r =>
 (first | (obtain ⟨_,rfl⟩:=VR.int_inv r) | (obtain rfl:=VR.bool_inv r) | (obtain rfl:=VR.ref_inv r) | (obtain rfl:=VR.none_inv r) | cases r)
 exact q a t n h' tk ps' c8 o8 af N' n1 n2
theorem kcall_pair {a:Addr}{items:List Value}{n:Nat}{x y:Int}{ty:Tok}(X:(KP w).In h₀)(T:Top p loose mean mg mb h₀)(F:Fr h₀ L s.heap m)(N:News h₀ L s.heap news)(tl:TabL ps c9 o9)(U:Put (tabObj ps) c9 o9 news g ro)(hm:((275:Addr),tabObj ps)∈news)(hc:(c9,o9)∈news)(hd:A.handled=none)(hu:A.units+3000<cLine)(hp:A.depth+20<recursionLimit)
  (ha:(a,listOf items.toArray n)∈news) (hma:@Ne Nat a 275) (I:IntsAre items ((dg (2^y.toNat) x.toNat).map fun (n:Nat)=>(n:Int))) (hl:items.length≤64)
  (h1:0≤x∧x<3598) (h2:1≤y∧y≤16)
  (q:∀ h' tk ps' c8 o8,Aft h₀ L m g ro c9 h' ps' c8 o8→Q (.bool (lp x.toNat && lp (x.toNat+2))) { s with heap:=h',toks:=tk }) :
  wpAny (model PG w) A (call (.ref 460) [.ref a,.int y ty,.ref 481,.ref 523]) Q E s:=by
 have ht:s.heap.get? tabA=some (tabObj ps)∧tabA≠L∧h₀.get? tabA=none:=N _ hm
 refine kcallF (S:=pairS) (fl:=(·=tabA)) (m_is_pair w) X T F N tl U hm hc hd (by exact F1 [_,_] [] 412956562432848635781231546526544434691055712 hu) (by exact F1 [_,_] [] 5596599208134790209343584 hp) (fun b z=>⟨_,z▸ht.1,.inl z⟩) rfl (vs:=[nl (dg (2^y.toNat) x.toNat),.int y,.ref 481,.ref 523]) (.cons (dg_vr N ha hma hl I) (.cons (.int _ _) (.cons (.ref _) (.cons (.ref _) .nil)))) (x.toNat,y.toNat) ?_ ⟨by show 1≤y.toNat;exact F2 [_] [_] 315266662810306608 h2.1 (iSt _),by show y.toNat≤16;exact F2 [_] [_] 333668359642335471890006816 h2.2 (iTn (F1 [] [_] 23355284486 h2.1)),by show x.toNat<3598;exact F2 [_] [_] 1495702978412388850826467017504 h1.2 (iTn h1.1)⟩ fun v r h' tk ps' c8 o8 hv rr af _ _=>?_
 ·show _=[nl (dg (2^y.toNat) x.toNat),V.int ((y.toNat:Nat):Int),.ref 481,.ref 523]
  rw [iTn (by exact F1 [] [_] 23355284486 h2.1)]
 ·have hv:v=.bool (ip x.toNat && ip (x.toNat+2)):=hv
  subst hv
  (first | (obtain ⟨_,rfl⟩:=VR.int_inv rr) | (obtain rfl:=VR.bool_inv rr) | (obtain rfl:=VR.ref_inv rr) | (obtain rfl:=VR.none_inv rr) | cases rr)
  rw [ip_lp,ip_lp]
  exact q h' tk ps' c8 o8 af
theorem kcall_wit {a:Addr}{items:List Value}{n:Nat}{x y z:Int}{ty tz:Tok}(X:(KP w).In h₀)(T:Top p loose mean mg mb h₀)(F:Fr h₀ L s.heap m)(N:News h₀ L s.heap news)(tl:TabL ps c9 o9)(U:Put (tabObj ps) c9 o9 news g ro)(hm:((275:Addr),tabObj ps)∈news)(hc:(c9,o9)∈news)(hd:A.handled=none)(hu:A.units+3000<cLine)(hp:A.depth+20<recursionLimit)
  (ha:(a,listOf items.toArray n)∈news) (hma:@Ne Nat a 275) (I:IntsAre items ((dg (2^y.toNat) x.toNat).map fun (n:Nat)=>(n:Int))) (hl:items.length≤64)
  (h1:3≤x∧x<65536) (ho:x%2=1) (h2:3≤y∧y≤8) (h3:0≤z∧z<65536)
  (q0:LW x.toNat z.toNat .none→∀ h' tk ps' c8 o8,Aft h₀ L m g ro c9 h' ps' c8 o8→Q .none { s with heap:=h',toks:=tk })
  (q1:∀ b:Nat,LW x.toNat z.toNat (.int (b:Int))→∀ t h' tk ps' c8 o8,Aft h₀ L m g ro c9 h' ps' c8 o8→Q (.int (b:Int) t) { s with heap:=h',toks:=tk }) :
  wpAny (model PG w) A (call (.ref 467) [.ref a,.int y ty,.int z tz,.ref 481,.ref 523]) Q E s:=by
 have ht:s.heap.get? tabA=some (tabObj ps)∧tabA≠L∧h₀.get? tabA=none:=N _ hm
 refine kcallF (S:=witnessS) (fl:=(·=tabA)) (m_least_witness w) X T F N tl U hm hc hd (by exact F1 [_,_] [] 412956573066672602060558529757000916933812320 hu) (by exact F1 [_,_] [] 5596608431506827064119392 hp) (fun b z=>⟨_,z▸ht.1,.inl z⟩) rfl (vs:=[nl (dg (2^y.toNat) x.toNat),.int y,.int z,.ref 481,.ref 523]) (.cons (dg_vr N ha hma hl I) (.cons (.int _ _) (.cons (.int _ _) (.cons (.ref _) (.cons (.ref _) .nil))))) (x.toNat,z.toNat,y.toNat) ?_ ⟨?_,by show 3≤x.toNat;exact F2 [_] [_] 338513471923308728692295728 h1.1 (iSt _),by show z.toNat<2^16;exact F2 [_] [_] 5922463662749711724417409620050720 h3.2 (iTn h3.1)⟩ fun v r h' tk ps' c8 o8 hv rr af _ _=>?_
 ·show _=[nl (dg (2^y.toNat) x.toNat),V.int ((y.toNat:Nat):Int),V.int ((z.toNat:Nat):Int),.ref 481,.ref 523]
  rw [iTn (by exact F1 [] [_] 6122447697883201 h2.1:0≤y),iTn (by exact h3.1:0≤z)]
 ·exact ⟨by show 3≤y.toNat;exact F2 [_] [_] 338513471923308728692295728 h2.1 (iSt _),by show y.toNat≤8;exact F2 [_] [_] 331250508003071029168505632 h2.2 (iTn (F1 [] [_] 6122447697883201 h2.1)),by show x.toNat%2=1;lia,by show x.toNat<2^16;exact F2 [_] [_] 5922463662749711724417409620050720 h1.2 (iTn (F1 [] [_] 6122447697883201 h1.1))⟩
 ·have hv':LW x.toNat z.toNat v:=hv
  rcases hv with ⟨rfl,k⟩ | ⟨b,rfl,k⟩
  ·(first | (obtain ⟨_,rfl⟩:=VR.int_inv rr) | (obtain rfl:=VR.bool_inv rr) | (obtain rfl:=VR.ref_inv rr) | (obtain rfl:=VR.none_inv rr) | cases rr)
   exact q0 hv' h' tk ps' c8 o8 af
  ·(first | (obtain ⟨_,rfl⟩:=VR.int_inv rr) | (obtain rfl:=VR.bool_inv rr) | (obtain rfl:=VR.ref_inv rr) | (obtain rfl:=VR.none_inv rr) | cases rr)
   exact q1 b hv' _ h' tk ps' c8 o8 af
theorem kcall_even {a:Addr}{items:List Value}{n:Nat}{x y:Int}(X:(KP w).In h₀)(T:Top p loose mean mg mb h₀)(F:Fr h₀ L s.heap m)(N:News h₀ L s.heap news)(tl:TabL ps c9 o9)(U:Put (tabObj ps) c9 o9 news g ro)(hm:((275:Addr),tabObj ps)∈news)(hc:(c9,o9)∈news)(hd:A.handled=none)(hu:A.units+3000<cLine)(hp:A.depth+20<recursionLimit)
  (ha:(a,listOf items.toArray n)∈news) (hma:@Ne Nat a 275) (I:IntsAre items ((dg (2^y.toNat) x.toNat).map fun (n:Nat)=>(n:Int))) (hl:items.length≤64)
  (h1:0≤x) (he:x%2=0) (h2:1≤y)
  (q:∀ h' tk ps' c8 o8,Aft h₀ L m g ro c9 h' ps' c8 o8→Q (.bool true) { s with heap:=h',toks:=tk }) :
  wpAny (model PG w) A (call (.ref 84) [.ref a]) Q E s:=by
 have ht:s.heap.get? tabA=some (tabObj ps)∧tabA≠L∧h₀.get? tabA=none:=N _ hm
 refine kcallF (S:=isEvenS) (fl:=(·=tabA)) (m_is_even w) X T F N tl U hm hc hd (by exact F1 [_,_] [] 100819472928462181264012251143725402562656 hu) (by exact F1 [_,_] [] 1366357084582131535968 hp) (fun b z=>⟨_,z▸ht.1,.inl z⟩) rfl (vs:=[nl (dg (2^y.toNat) x.toNat)]) (.cons (dg_vr N ha hma hl I) .nil) (x.toNat,y.toNat) rfl (by show 1≤y.toNat;exact F2 [_] [_] 315266662810306608 h2 (iSt _)) fun v r h' tk ps' c8 o8 hv rr af _ _=>?_
 have hv:v=.bool (decide (x.toNat%2=0)):=hv
 subst hv
 (first | (obtain ⟨_,rfl⟩:=VR.int_inv rr) | (obtain rfl:=VR.bool_inv rr) | (obtain rfl:=VR.ref_inv rr) | (obtain rfl:=VR.none_inv rr) | cases rr)
 rw [decide_eq_true (show x.toNat%2=0 by lia)]
 exact q h' tk ps' c8 o8 af
theorem kcall_lets {x z:Int}{tx tz:Tok}(X:(KP w).In h₀)(T:Top p loose mean mg mb h₀)(F:Fr h₀ L s.heap m)(N:News h₀ L s.heap news)(tl:TabL ps c9 o9)(U:Put (tabObj ps) c9 o9 news g ro)(hm:((275:Addr),tabObj ps)∈news)(hc:(c9,o9)∈news)(hd:A.handled=none)(hu:A.units+3000<cLine)(hp:A.depth+20<recursionLimit)
  (h1:3≤x∧x<65536) (h2:0≤z∧z<65536)
  (q:∀ t:Bool,(t=true↔StrongP x.toNat z.toNat)→∀ h' tk ps' c8 o8,Aft h₀ L m g ro c9 h' ps' c8 o8→Q (.bool t) { s with heap:=h',toks:=tk }) :
  wpAny (model PG w) A (call (.ref 547) [.int x tx,.int z tz]) Q E s:=by
 have ht:s.heap.get? tabA=some (tabObj ps)∧tabA≠L∧h₀.get? tabA=none:=N _ hm
 refine kcallF (S:=lawLetsS) (fl:=(·=tabA)) (m_law_lets w) X T F N tl U hm hc hd (by exact F1 [_,_] [] 100819473252980734922438977926881423138912 hu) (by exact F1 [_,_] [] 1366357366057108246624 hp) (fun b z=>⟨_,z▸ht.1,.inl z⟩) rfl (vs:=[.int x,.int z]) (.cons (.int _ _) (.cons (.int _ _) .nil)) (x.toNat,z.toNat) ?_ ⟨by show 3≤x.toNat;exact F2 [_] [_] 338513471923308728692295728 h1.1 (iSt _),by show x.toNat<2^16;exact F2 [_] [_] 5922463662749711724417409620050720 h1.2 (iTn (F1 [] [_] 6122447697883201 h1.1)),by show z.toNat<2^16;exact F2 [_] [_] 5922463662749711724417409620050720 h2.2 (iTn h2.1)⟩ fun v r h' tk ps' c8 o8 hv rr af _ _=>?_
 ·show _=[V.int ((x.toNat:Nat):Int),V.int ((z.toNat:Nat):Int)]
  rw [iTn (by exact F1 [] [_] 6122447697883201 h1.1:0≤x),iTn (by exact h2.1:0≤z)]
 ·refine x1a2 hv fun t zq1 ht'=>?_;clear hv;subst zq1
  (first | (obtain ⟨_,rfl⟩:=VR.int_inv rr) | (obtain rfl:=VR.bool_inv rr) | (obtain rfl:=VR.ref_inv rr) | (obtain rfl:=VR.none_inv rr) | cases rr)
  exact q t ht' h' tk ps' c8 o8 af
theorem kcall_lp {x:Int}{tx:Tok}(X:(KP w).In h₀)(T:Top p loose mean mg mb h₀)(F:Fr h₀ L s.heap m)(N:News h₀ L s.heap news)(tl:TabL ps c9 o9)(U:Put (tabObj ps) c9 o9 news g ro)(hm:((275:Addr),tabObj ps)∈news)(hc:(c9,o9)∈news)(hd:A.handled=none)(hu:A.units+3000<cLine)(hp:A.depth+20<recursionLimit)
  (h1:0≤x∧x<65536)
  (q:∀ h' tk ps' c8 o8,Aft h₀ L m g ro c9 h' ps' c8 o8→Q (.bool (lp x.toNat)) { s with heap:=h',toks:=tk }) :
  wpAny (model PG w) A (call (.ref 533) [.int x tx]) Q E s:=by
 have ht:s.heap.get? tabA=some (tabObj ps)∧tabA≠L∧h₀.get? tabA=none:=N _ hm
 refine kcallF (S:=lpS) (fl:=(·=tabA)) (m_law_is_prime w) X T F N tl U hm hc hd (by exact F1 [_,_] [] 100819472928462181264012251143725402562656 hu) (by exact F1 [_,_] [] 1366357084582131535968 hp) (fun b z=>⟨_,z▸ht.1,.inl z⟩) rfl (vs:=[.int x]) (.cons (.int _ _) .nil) x.toNat ?_ (by show x.toNat<2^16;exact F2 [_] [_] 5922463662749711724417409620050720 h1.2 (iTn h1.1)) fun v r h' tk ps' c8 o8 hv rr af _ _=>?_
 ·show _=[V.int ((x.toNat:Nat):Int)]
  rw [iTn (by exact h1.1:0≤x)]
 ·have hv:v=V.bool (lp x.toNat):=hv
  subst hv
  (first | (obtain ⟨_,rfl⟩:=VR.int_inv rr) | (obtain rfl:=VR.bool_inv rr) | (obtain rfl:=VR.ref_inv rr) | (obtain rfl:=VR.none_inv rr) | cases rr)
  exact q h' tk ps' c8 o8 af
theorem kcall_lwG {x z:Int}{tx tz:Tok}(X:(KP w).In h₀)(T:Top p loose mean mg mb h₀)(F:Fr h₀ L s.heap m)(N:News h₀ L s.heap news)(tl:TabL ps c9 o9)(U:Put (tabObj ps) c9 o9 news g ro)(hm:((275:Addr),tabObj ps)∈news)(hc:(c9,o9)∈news)(hd:A.handled=none)(hu:A.units+3000<cLine)(hp:A.depth+20<recursionLimit)
  (h1:3≤x∧x<65536) (h2:0≤z∧z≤900) {v₀:V} (hw:LW x.toNat z.toNat v₀)
  (q:∀ r h' tk ps' c8 o8,VR (vis h' (·=tabA)) v₀ r→Aft h₀ L m g ro c9 h' ps' c8 o8→Q r { s with heap:=h',toks:=tk }) :
  wpAny (model PG w) A (call (.ref 552) [.int x tx,.int z tz]) Q E s:=by
 have ht:s.heap.get? tabA=some (tabObj ps)∧tabA≠L∧h₀.get? tabA=none:=N _ hm
 refine kcallF (S:=lwS) (fl:=(·=tabA)) (m_law_witness w) X T F N tl U hm hc hd (by exact F1 [_,_] [] 412956561103620639996315673622737374410711136 hu) (by exact F1 [_,_] [] 5596598055213285602496608 hp) (fun b z=>⟨_,z▸ht.1,.inl z⟩) rfl (vs:=[.int x,.int z]) (.cons (.int _ _) (.cons (.int _ _) .nil)) (x.toNat,z.toNat) ?_ ⟨by show 3≤x.toNat;exact F2 [_] [_] 338513471923308728692295728 h1.1 (iSt _),by show x.toNat<2^16;exact F2 [_] [_] 5922463662749711724417409620050720 h1.2 (iTn (F1 [] [_] 6122447697883201 h1.1)),by show z.toNat≤900;exact F2 [_] [_] 1364287906115835413585113056032 h2.2 (iTn h2.1)⟩ fun v r h' tk ps' c8 o8 hv rr af _ _=>?_
 ·show _=[V.int ((x.toNat:Nat):Int),V.int ((z.toNat:Nat):Int)]
  rw [iTn (by exact F1 [] [_] 6122447697883201 h1.1:0≤x),iTn (by exact h2.1:0≤z)]
 ·have hv:LW x.toNat z.toNat v:=hv
  rw [hv.uniq hw] at rr
  exact q r h' tk ps' c8 o8 rr af
theorem kcall_lw0 {x z:Int}{tx tz:Tok}(X:(KP w).In h₀)(T:Top p loose mean mg mb h₀)(F:Fr h₀ L s.heap m)(N:News h₀ L s.heap news)(tl:TabL ps c9 o9)(U:Put (tabObj ps) c9 o9 news g ro)(hm:((275:Addr),tabObj ps)∈news)(hc:(c9,o9)∈news)(hd:A.handled=none)(hu:A.units+3000<cLine)(hp:A.depth+20<recursionLimit)
  (h1:3≤x∧x<65536) (h2:0≤z∧z≤900) (hw:LW x.toNat z.toNat .none)
  (q:∀ h' tk ps' c8 o8,Aft h₀ L m g ro c9 h' ps' c8 o8→Q .none { s with heap:=h',toks:=tk }) :
  wpAny (model PG w) A (call (.ref 552) [.int x tx,.int z tz]) Q E s :=
 kcall_lwG X T F N tl U hm hc hd hu hp h1 h2 hw fun r h' tk ps' c8 o8 rr af=>by (first | (obtain ⟨_,rfl⟩:=VR.int_inv rr) | (obtain rfl:=VR.bool_inv rr) | (obtain rfl:=VR.ref_inv rr) | (obtain rfl:=VR.none_inv rr) | cases rr);exact q h' tk ps' c8 o8 af
theorem kcall_lw1 {x z b:Int}{tx tz:Tok}(X:(KP w).In h₀)(T:Top p loose mean mg mb h₀)(F:Fr h₀ L s.heap m)(N:News h₀ L s.heap news)(tl:TabL ps c9 o9)(U:Put (tabObj ps) c9 o9 news g ro)(hm:((275:Addr),tabObj ps)∈news)(hc:(c9,o9)∈news)(hd:A.handled=none)(hu:A.units+3000<cLine)(hp:A.depth+20<recursionLimit)
  (h1:3≤x∧x<65536) (h2:0≤z∧z≤900) (hw:LW x.toNat z.toNat (.int b))
  (q:∀ t h' tk ps' c8 o8,Aft h₀ L m g ro c9 h' ps' c8 o8→Q (.int b t) { s with heap:=h',toks:=tk }) :
  wpAny (model PG w) A (call (.ref 552) [.int x tx,.int z tz]) Q E s :=
 kcall_lwG X T F N tl U hm hc hd hu hp h1 h2 hw fun r h' tk ps' c8 o8 rr af=>by (first | (obtain ⟨_,rfl⟩:=VR.int_inv rr) | (obtain rfl:=VR.bool_inv rr) | (obtain rfl:=VR.ref_inv rr) | (obtain rfl:=VR.none_inv rr) | cases rr);exact q _ h' tk ps' c8 o8 af
theorem kcall_worth {a:Addr}{items:List Value}{n q':Nat}{y:Int}{ty:Tok}(X:(KP w).In h₀)(T:Top p loose mean mg mb h₀)(F:Fr h₀ L s.heap m)(N:News h₀ L s.heap news)(tl:TabL ps c9 o9)(U:Put (tabObj ps) c9 o9 news g ro)(hm:((275:Addr),tabObj ps)∈news)(hc:(c9,o9)∈news)(hd:A.handled=none)(hu:A.units+3000<cLine)(hp:A.depth+20<recursionLimit)
  (ha:(a,listOf items.toArray n)∈news) (hma:@Ne Nat a 275) (I:IntsAre items ((dg (2^y.toNat) q').map fun (n:Nat)=>(n:Int))) (hl:items.length≤64)
  (h1:q'<2^63) (h2:1≤y∧y≤16)
  (q:∀ t h' tk ps' c8 o8,Aft h₀ L m g ro c9 h' ps' c8 o8→Q (.int (q':Int) t) { s with heap:=h',toks:=tk }) :
  wpAny (model PG w) A (call (.ref 528) [.ref a,.int y ty]) Q E s:=by
 have ht:s.heap.get? tabA=some (tabObj ps)∧tabA≠L∧h₀.get? tabA=none:=N _ hm
 refine kcallF (S:=worthS) (fl:=(·=tabA)) (m_law_worth w) X T F N tl U hm hc hd (by exact F1 [_,_] [] 100819472928462181264012251143725402562656 hu) (by exact F1 [_,_] [] 1366357084582131535968 hp) (fun b z=>⟨_,z▸ht.1,.inl z⟩) rfl (vs:=[nl (dg (2^y.toNat) q'),.int y]) (.cons (dg_vr N ha hma hl I) (.cons (.int _ _) .nil)) (q',y.toNat) ?_ ⟨by show 1≤y.toNat;exact F2 [_] [_] 315266662810306608 h2.1 (iSt _),by show y.toNat≤16;exact F2 [_] [_] 333668359642335471890006816 h2.2 (iTn (F1 [] [_] 23355284486 h2.1)),h1⟩ fun v r h' tk ps' c8 o8 hv rr af _ _=>?_
 ·show _=[nl (dg (2^y.toNat) q'),V.int ((y.toNat:Nat):Int)]
  rw [iTn (by exact F1 [] [_] 23355284486 h2.1)]
 ·have hv:v=.int (q':Int):=hv
  subst hv
  (first | (obtain ⟨_,rfl⟩:=VR.int_inv rr) | (obtain rfl:=VR.bool_inv rr) | (obtain rfl:=VR.ref_inv rr) | (obtain rfl:=VR.none_inv rr) | cases rr)
  exact q _ h' tk ps' c8 o8 af
theorem kcall_div {a:Addr}{items:List Value}{n:Nat}{x y z:Int}{ty tz:Tok}(X:(KP w).In h₀)(T:Top p loose mean mg mb h₀)(F:Fr h₀ L s.heap m)(N:News h₀ L s.heap ((a,listOf items.toArray n)::news))(tl:TabL ps c9 o9)(U:Put (tabObj ps) c9 o9 news g ro)(hm:((275:Addr),tabObj ps)∈news)(hc:(c9,o9)∈news)(hd:A.handled=none)(hu:A.units+3000<cLine)(hp:A.depth+20<recursionLimit)
  (hma:@Ne Nat a 275) (hmc:@Ne Nat a c9) (I:IntsAre items ((dg (2^y.toNat) x.toNat).map fun (n:Nat)=>(n:Int))) (hl:items.length≤64)
  (h1:0≤x∧x<2^63) (h2:1≤y∧y≤16) (h3:2≤z∧z<2^y.toNat)
  (q:∀ (k q':Nat) b items' n' d tk' h' tk ps' c8 o8,x.toNat=q'*z.toNat^k→(x.toNat=0→k=0)→(0<x.toNat→q'%z.toNat≠0)→Aft h₀ L m g ro c9 h' ps' c8 o8 →
   News h₀ L h' ((d,tupOf #[.int (k:Int) tk',.ref b])::(b,listOf items'.toArray n')::g (c8,o8) (tabObj ps'))→IntsAre items' ((dg (2^y.toNat) q').map fun (n:Nat)=>(n:Int))→items'.length≤64 →
   @Ne Nat b 275→@Ne Nat b c8→@Ne Nat d 275→@Ne Nat d c8→@Ne Nat d b→(∀ c∈ro,c≠a→@Ne Nat b c∧@Ne Nat d c)→Q (.ref d) { s with heap:=h',toks:=tk }) :
  wpAny (model PG w) A (call (.ref 474) [.ref a,.int z tz,.int y ty]) Q E s:=by
 have ht:s.heap.get? tabA=some (tabObj ps)∧tabA≠L∧h₀.get? tabA=none:=N _ (List.mem_cons_of_mem _ hm)
 have na:=N _ (List.mem_cons_self ..)
 have U':=U.other (p:=(a,listOf items.toArray n)) hma hmc
 refine kcallF (S:=divOutS) (fl:=fun b=>LiveN s.heap b∧b≠a) (m_divided_out w) X T F N tl U' (.tail _ hm) (.tail _ hc) hd (by exact F1 [_,_] [] 412956561103620639996315673622737374410711136 hu) (by exact F1 [_,_] [] 5596598055213285602496608 hp) (fun b z=>z.1) ⟨⟨_,ht.1,.inl rfl⟩,fun e=>hma e.symm⟩ (vs:=[nl (dg (2^y.toNat) x.toNat),.int z,.int y]) (.cons (dg_vr N (.head _) (fun z=>z.2 rfl) hl I) (.cons (.int _ _) (.cons (.int _ _) .nil))) (x.toNat,z.toNat,y.toNat) ?_ ⟨by show 1≤y.toNat;exact F2 [_] [_] 315266662810306608 h2.1 (iSt _),by show y.toNat≤16;exact F2 [_] [_] 333668359642335471890006816 h2.2 (iTn (F1 [] [_] 23355284486 h2.1)),by show x.toNat<2^64;exact F2 [_] [_] 469225908923625160458312948726942071472149882253891487546671904 h1.2 (iTn h1.1),by show 2≤z.toNat;exact F2 [_] [_] 315271060873594928 h3.1 (iSt _),?_⟩ fun v r h' tk ps' c8 o8 hv rr af keep hc8=>?_
 ·show _=[nl (dg (2^y.toNat) x.toNat),V.int ((z.toNat:Nat):Int),V.int ((y.toNat:Nat):Int)]
  rw [iTn (by exact F1 [] [_] 23355284486 h2.1:0≤y),iTn (by exact F1 [] [_] 23355284487 h3.1:0≤z)]
 ·show z.toNat<2^y.toNat
  have:(z.toNat:Int)<((2^y.toNat:Nat):Int):=by rw [iTn (by exact F1 [] [_] 23355284487 h3.1)];exact_mod_cast h3.2
  exact_mod_cast this
 ·refine x2a4 hv fun k q' zq2 k1 k2 k3=>?_;clear hv;subst zq2
  refine x2a4 (VR.tup_inv rr) fun d its zq2 hg hs hr=>?_;subst zq2
  refine x2a3 (VRs.cons_inv hr) fun x1 ys zq2 r1 hr2=>?_;subst zq2
  obtain ⟨tk',rfl⟩:=VR.int_inv r1
  refine x2a3 (VRs.cons_inv hr2) fun x2 zs zq2 r2 r3=>?_;subst zq2
  cases VRs.nil_inv r3
  refine x3a5 (fresh_list (ax:=a) F (fun b z y=>⟨z,y⟩) keep r2 ⟨⟨_,ht.1,.inl rfl⟩,fun e=>hma e.symm⟩) fun b items' n' zq3 e1 e2 e3 e4=>?_;subst zq3
  have dne:s.heap.get? d=none:=by
   cases q:s.heap.get? d with
   | none=>rfl
   | some o =>
    exfalso
    have dt:d≠tabA:=fun z=>hg.1 ⟨z▸⟨_,ht.1,.inl rfl⟩,fun y=>hma (y▸z)⟩
    have:=keep d o q dt
    rw [hg.2] at this;cases this
    refine hg.1 ⟨⟨_,q,.inr fun vs t z=>by cases z⟩,fun y=>?_⟩
    rw [y,na.1] at q;exact tup_ne q.symm
  have dne':∀ {c o},s.heap.get? c=some o→d≠c:=fun e z=>by rw [z,e] at dne;cases dne
  have dok:d≠L∧h₀.get? d=none:=by
   refine x3a2 F.ns fun o es ep e _=>?_
   refine ⟨dne' e,?_⟩
   cases q:h₀.get? d with
   | none=>rfl
   | some o=>rw [F.keep _ _ q] at dne;cases dne
  have bok:b≠L∧h₀.get? b=none∧@Ne Nat b 275∧@Ne Nat b c8:=by
   have h8:∀ z:c8=b,(c8=c9∧@Ne Nat b c9)→False:=fun z y=>y.2 (z▸y.1)
   rcases e4 with rfl | ⟨e4,e5,e6⟩
   ·refine ⟨na.2.1,na.2.2,hma,fun z=>?_⟩
    exact af.ne _ (List.mem_cons_self ..) z
   ·have bne:∀ {c o},s.heap.get? c=some o→b≠c:=fun e z=>by rw [z,e] at e4;cases e4
    refine ⟨e5,e6,bne ht.1,?_⟩
    rcases hc8 with rfl | ⟨_,z1,vs,t,z2,_⟩
    ·exact bne (N _ (List.mem_cons_of_mem _ hc)).1
    ·intro z'
     rw [z',z1] at e1;cases e1;cases z2
  have d8:@Ne Nat d c8:=by
   rcases hc8 with rfl | ⟨_,z1,vs,t,z2,_⟩
   ·exact dne' (N _ (List.mem_cons_of_mem _ hc)).1
   ·intro z'
    have:=hg.2
    rw [z',z1] at this;cases this;cases z2
  have e3':VRs (vis h' fun b=>LiveN s.heap b∧b≠a) (((dg (2^y.toNat) q').map fun (n:Nat)=>(n:Int)).map V.int) items':=by
   rw [List.map_map];exact e3
  have hq':q'<2^64:=by
   have k1:x.toNat=q'*z.toNat^k:=k1
   have hz:0<z.toNat^k:=Nat.pow_pos (by exact F2 [_] [_] 333276663290054704 h3.1 (iSt _))
   have:q'*1≤q'*z.toNat^k:=Nat.mul_le_mul_left _ hz
   exact F4 [_,_,_] [_] 132075351786313785405027548648212516168218564580072396261956589450213069882144 h1.2 k1 this (iTn h1.1)
  refine q k q' b items' n' d tk' h' tk ps' c8 o8 k1 k2 k3 (.of U af.F (fun p hp=>af.N p (List.mem_cons_of_mem _ hp)) af.T af.le fun p hp=>af.ne p (List.mem_cons_of_mem _ hp)) (fun p hp=>?_) (ints_of e3') ?_ bok.2.2.1 bok.2.2.2 (dne' ht.1) d8 (fun z=>?_) (fun c hc hca=>?_)
  ·rcases List.mem_cons.mp hp with rfl | hp
   ·exact ⟨hg.2,dok⟩
   ·rcases List.mem_cons.mp hp with rfl | hp
    ·exact ⟨e1,bok.1,bok.2.1⟩
    ·exact af.N p (List.mem_cons_of_mem _ hp)
  ·have hB:=tLP (w:=y.toNat) (by exact F2 [_] [_] 315266662810306608 h2.1 (iSt _))
   have:=len64 hB hq'
   have hl':(dg (2^y.toNat) q').length=items'.length:=by
    have:=e3.length
    rw [List.length_map] at this
    exact this
   exact F2 [_,_] [] 329130203716221512733247584 this (hl')
  ·have:=hg.2
   rw [z,e1] at this;exact tup_ne this.symm
  ·obtain ⟨⟨x,hx⟩,_⟩:=U.rest hc
   have hx:=(N _ (List.mem_cons_of_mem _ hx)).1
   refine ⟨?_,dne' hx⟩
   rcases e4 with rfl | ⟨e4,_,_⟩
   ·exact fun z=>hca z.symm
   ·intro z
    rw [show c=b from z.symm,e4] at hx;cases hx
theorem kcall_div0 {a:Addr}{n:Nat}{y z:Int}{ty tz:Tok}(X:(KP w).In h₀)(T:Top p loose mean mg mb h₀)(F:Fr h₀ L s.heap m)(N:News h₀ L s.heap ((a,listOf #[] n)::news))(tl:TabL ps c9 o9)(U:Put (tabObj ps) c9 o9 news g ro)(hm:((275:Addr),tabObj ps)∈news)(hc:(c9,o9)∈news)(hd:A.handled=none)(hu:A.units+3000<cLine)(hp:A.depth+20<recursionLimit)
  (hma:@Ne Nat a 275) (hmc:@Ne Nat a c9) (h2:1≤y∧y≤16) (h3:2≤z∧z<2^y.toNat) (h5:(561:Addr)∈ro) (hm5:@Ne Nat a 561)
  (q:∀ b n' d tk' h' tk ps' c8 o8,Aft h₀ L m g ro c9 h' ps' c8 o8 →
   News h₀ L h' ((d,tupOf #[.int 0 tk',.ref b])::(b,listOf #[] n')::g (c8,o8) (tabObj ps')) →
   @Ne Nat b 275→@Ne Nat b c8→@Ne Nat d 275→@Ne Nat d c8→@Ne Nat d b→@Ne Nat b 561→@Ne Nat d 561→Q (.ref d) { s with heap:=h',toks:=tk }) :
  wpAny (model PG w) A (call (.ref 474) [.ref a,.int z tz,.int y ty]) Q E s:=by
 have hB:2≤2^y.toNat:=tLP (by exact F2 [_] [_] 315266662810306608 h2.1 (iSt _))
 refine kcall_div (items:=[]) (x:=0) X T F N tl U hm hc hd hu hp hma hmc .nil (by simp) (by exact ⟨F0 [] [] 86341,F0 [] [] 27469212473283604107673776197⟩) h2 h3 fun k q' b items' n' d tk' h' tk ps' c8 o8 k1 k2 _ af N' I hl n1 n2 n3 n4 n5 n6=>?_
 have hk:k=0:=k2 rfl
 subst hk
 have hq:q'=0:=by
  rw [Nat.pow_zero,Nat.mul_one] at k1
  exact k1.symm
 subst hq
 rw [dg_zero] at I
 cases I
 exact q b n' d tk' h' tk ps' c8 o8 af N' n1 n2 n3 n4 n5 (n6 561 h5 hm5.symm).1 (n6 561 h5 hm5.symm).2
end
end
section
theorem fmE6 (x:Int):x.fmod 6=x%6:=Int.fmod_eq_emod_of_nonneg _ (by decide)
theorem fmE3598 (x:Int):x.fmod 3598=x%3598:=Int.fmod_eq_emod_of_nonneg _ (by decide)
theorem fmE249 (x:Int):x.fmod 249=x%249:=Int.fmod_eq_emod_of_nonneg _ (by decide)
theorem fmE9 (x:Int):x.fmod 9=x%9:=Int.fmod_eq_emod_of_nonneg _ (by decide)
theorem fmE5 (x:Int):x.fmod 5=x%5:=Int.fmod_eq_emod_of_nonneg _ (by decide)
theorem fmE40 (x:Int):x.fmod 40=x%40:=Int.fmod_eq_emod_of_nonneg _ (by decide)
theorem fmE50 (x:Int):x.fmod 50=x%50:=Int.fmod_eq_emod_of_nonneg _ (by decide)
theorem fmE4 (x:Int):x.fmod 4=x%4:=Int.fmod_eq_emod_of_nonneg _ (by decide)
theorem slot0 {G:Prop}{h₀ h:Heap}{L:Addr}{news:List (Addr×Obj)}{c:Addr}{v1 v2 v3 v4 v5 v6:Value}{n:Nat}(N:News h₀ L h news)(hm:(c,PySem.W.listOf #[v1,v2,v3,v4,v5,v6] n)∈news)(hne:@Ne Nat c 275)(k:TabL #[] c (PySem.W.listOf #[v1,v2,v3,v4,v5,v6] n)→G):G:=k ⟨hne,.inl rfl⟩
theorem subNilA {l:List Addr}:∀ p∈([]:List Addr),p∈l:=fun _ h=>nomatch h
theorem subConsA {p:Addr}{r l:List Addr}(h:p∈l)(k:∀ q∈r,q∈l):∀ q∈p::r,q∈l:=fun q hq=>by
 rcases List.mem_cons.mp hq with rfl | hq
 ·exact h
 ·exact k q hq
theorem subNil {l:List (Addr×Obj)}:∀ p∈([]:List (Addr×Obj)),p∈l:=fun _ h=>nomatch h
theorem subCons {p:Addr×Obj}{r l:List (Addr×Obj)}(h:p∈l)(k:∀ q∈r,q∈l):∀ q∈p::r,q∈l:=fun q hq=>by
 rcases List.mem_cons.mp hq with rfl | hq
 ·exact h
 ·exact k q hq
theorem hard_item {w:World}{A:Around}{s:Shared}{E:Value→Shared→Prop}{Q:Value→Shared→Prop}{value slice:PySem.Expr}{h₀:Heap}{L l:Addr}{news:List (Addr×Obj)}{k:Int}{u t1 t2 t3 t4 t5:Tok}{n:Nat}
  (N:News h₀ L s.heap news) (hm:(l,PySem.W.listOf #[.int 2047 t1,.int 3277 t2,.int 4033 t3,.int 4681 t4,.int 8321 t5] n)∈news) (hk:0≤k∧k<5) (q:∀ (v:Int) t,3≤v→v<65536→v%2=1→Q (.int v t) s)
  (hs:subscripted slice false (.ref l) (.int k u)=operate [.ref l,.int k u] (getItem (.ref l) (.int k u)):=by with_unfolding_all rfl) :
  wpAny (model PG w) A (subscriptTail value slice (.ref l) (.int k u)) Q E s:=by
 have hl:s.heap.IsList l #[.int 2047 t1,.int 3277 t2,.int 4033 t3,.int 4681 t4,.int 8321 t5]:=⟨_,(N _ hm).1,rfl,n,rfl⟩
 have:∃ v t,(#[Value.int 2047 t1,.int 3277 t2,.int 4033 t3,.int 4681 t4,.int 8321 t5]:Array Value)[k.toNat]?=some (.int v t)∧3≤v∧v<65536∧v%2=1:=by
  have:k=0∨k=1∨k=2∨k=3∨k=4:=by lia
  rcases this with rfl | rfl | rfl | rfl | rfl <;> exact ⟨_,_,rfl,by decide,by decide,by decide⟩
 refine x2a4 this fun v t e h1 h2 h3=>?_;clear this
 exact tail_any hl.typeIs slot_list_getitem.lookup (wpAny_getItem_list hl hk.1 (by exact F1 [] [_] 1887669907514053654007522105425774514288 hk.2) e (q v t h1 h2 h3)) hs
section
variable {w:World}{A:Around}{s:Shared}{E:Value→Shared→Prop}{Q:Value→Shared→Prop}
theorem pow_any {a b:Int}{t u:Tok}(ha:2≤a∧a<2^32)(h0:0≤b)(h1:b≤2000)(q:Q (.int (a^b.toNat) s.toks) { s with toks:=s.toks+1 }):wpAny (model PG w) A (binaryOp .Pow (.int a t) (.int b u)) Q E s:=by
 by_cases hb:b=0
 ·subst hb
  have e:a^(0:Int).toNat=1:=Int.pow_zero a
  rw [e] at q
  exact PySem.AutoIntOps.pow_0 (by decide) (by rfl) q
 ·have a0:¬a=0:=F1 [] [_] 1742779538439 ha.1
  have a1:¬a=1:=F1 [] [_] 1742796315655 ha.1
  have a2:¬a=-1:=F1 [] [_] 111547930205191 ha.1
  refine PySem.AutoIntOps.pow_4 h0 (by simpa using hb) (by simp [a0,a1]) (by simp [a2]) ?_ q
  unfold Builtin.Int.intTooBig Builtin.Int.intBits
  have e2:bitsLine=134217728:=by rfl
  have e1:a.natAbs.log2<32:=by
   rw [Nat.log2_lt (by exact F2 [_] [_] 29166016369065657120 ha.1 (Int.natAbs_of_nonneg (F1 [] [_] 23355284487 ha.1)))]
   exact F2 [_] [_] 402807210148489923379825715630978590698308384 ha.2 (Int.natAbs_of_nonneg (F1 [] [_] 23355284487 ha.1))
  have e3:(a == 0)=false:=by simpa using a0
  rw [e2,e3]
  simp only [Bool.false_eq_true,if_false,gt_iff_lt,decide_eq_true_eq]
  have:((a.natAbs.log2+1:Nat):Int)*b≤32*2000:=by
   have h2:((a.natAbs.log2+1:Nat):Int)≤32:=F1 [_] [] 6405891308361701769875552 e1
   calc ((a.natAbs.log2+1:Nat):Int)*b≤32*b:=Int.mul_le_mul_of_nonneg_right h2 h0
    _≤32*2000:=F1 [] [_] 30333365003593114175274201579655667922084307056 h1
  exact F1 [] [_] 138048554556635863352885608997982717350000 this
theorem op_pow2 {y:Int}{t u:Tok}(h:3≤y∧y≤8)(q:∀ (B:Int) t',B=2^y.toNat→8≤B→B≤256→Q (.int B t') { s with toks:=s.toks+1 }):wpAny (model PG w) A (binaryOp .Pow (.int 2 t) (.int y u)) Q E s:=by
 have hy:y=3∨y=4∨y=5∨y=6∨y=7∨y=8:=by lia
 refine pow_any (by exact ⟨F0 [] [] 86471,F0 [] [] 25581571783371284551⟩) (by exact F1 [] [_] 6122447697883201 h.1) (by exact F1 [] [_] 100091169223488858755184 h.2) (q _ _ rfl ?_ ?_)
 ·rcases hy with rfl | rfl | rfl | rfl | rfl | rfl <;> decide
 ·rcases hy with rfl | rfl | rfl | rfl | rfl | rfl <;> decide
theorem op_modB {a B:Int}{t u:Tok}(h:8≤B)(q:∀ (r:Int) t',0≤r→r<B-2→Q (.int r t') { s with toks:=s.toks+1 }):wpAny (model PG w) A (binaryOp .Mod (.int a t) (.int (B-2) u)) Q E s:=by
 refine mod_int (by exact F1 [] [_] 1871285648727351525441 h) (q _ _ ?_ ?_)
 ·rw [Int.fmod_eq_emod_of_nonneg _ (by exact F1 [] [_] 24465734973900488769 h)];exact Int.emod_nonneg _ (by exact F1 [] [_] 1871285648727351525441 h)
 ·rw [Int.fmod_eq_emod_of_nonneg _ (by exact F1 [] [_] 24465734973900488769 h)];exact Int.emod_lt_of_pos _ (by exact F1 [] [_] 25618656478507335745 h)
theorem op_pow4 {p a:Int}{t u:Tok}(h:2≤p∧p<300)(q:∀ (v:Int) t',1≤v→v<30000000→Q (.int v t') { s with toks:=s.toks+1 }):wpAny (model PG w) A (binaryOp .Pow (.int p t) (.int (a.fmod 4) u)) Q E s:=by
 have h4:0≤a.fmod 4∧a.fmod 4<4:=by rw [fmE4];exact ⟨Int.emod_nonneg _ (by decide),Int.emod_lt_of_pos _ (by decide)⟩
 have h1:p*p≤299*299:=Int.mul_le_mul (by exact F1 [] [_] 6403873710824019377266800 h.2) (by exact F1 [] [_] 6403873710824019377266800 h.2) (by exact F1 [] [_] 23355284487 h.1) (by exact F0 [] [] 1456072302661)
 have h2:p*p*p≤299*299*299:=Int.mul_le_mul h1 (by exact F1 [] [_] 6403873710824019377266800 h.2) (by exact F1 [] [_] 23355284487 h.1) (by exact F0 [] [] 100364206988931055231045)
 have h5:a.fmod 4=0∨a.fmod 4=1∨a.fmod 4=2∨a.fmod 4=3:=by lia
 refine pow_any (by exact ⟨h.1,F1 [] [_] 112508942530412609484429064151152 h.2⟩) h4.1 (by exact F1 [] [_] 100091169223489931448432 h4.2) (q _ _ ?_ ?_)
 ·have:(0:Int)<p^(a.fmod 4).toNat:=Int.pow_pos (by exact F1 [] [_] 24429026311 h.1)
  exact F1 [] [_] 23355550725 this
 ·rcases h5 with e | e | e | e <;> rw [e]
  ·show p^0<_
   rw [Int.pow_zero];exact F0 [] [] 399702331249152070
  ·show p^1<_
   rw [Int.pow_succ,Int.pow_zero];exact F1 [] [_] 7200397080291199479429751989346416 h.2
  ·show p^2<_
   rw [Int.pow_succ,Int.pow_succ,Int.pow_zero,Int.one_mul];exact F1 [] [_] 120802617101814806110109375056710237692016 h1
  ·show p^3<_
   rw [Int.pow_succ,Int.pow_succ,Int.pow_succ,Int.pow_zero,Int.one_mul];exact F1 [] [_] 8301492635576078311864011853625401540026853422276720 h2
theorem op_mul50 {a v:Int}{t u:Tok}(h:1≤v∧v<30000000)(q:∀ (z:Int) t',1≤z→z<2^31→Q (.int z t') { s with toks:=s.toks+1 }):wpAny (model PG w) A (binaryOp .Mult (.int (1+a.fmod 50) t) (.int v u)) Q E s:=by
 have h4:1≤1+a.fmod 50∧1+a.fmod 50≤50:=by rw [fmE50];exact ⟨F1 [] [_] 93303971863557 (Int.emod_nonneg _ (by decide)),F1 [] [_] 6407219474392601019814000 (Int.emod_lt_of_pos _ (by decide))⟩
 refine mul_int (q _ _ ?_ ?_) (mulOk (by exact F2 [_] [_] 6828135649609978433848488911555409578009060282753824 h4.2 (Int.natAbs_of_nonneg (F1 [] [_] 382173067670389126 h4.1))))
 ·have:1*1≤(1+a.fmod 50)*v:=Int.mul_le_mul h4.1 h.1 (by decide) (by exact F1 [] [_] 382173067670389126 h4.1)
  exact F1 [] [_] 95664319037830 this
 ·have:(1+a.fmod 50)*v≤50*30000000:=Int.mul_le_mul h4.2 (by exact F1 [] [_] 440056225704497492596095055663485040 h.2) (by exact F1 [] [_] 23355284486 h.1) (by exact F0 [] [] 22763016261)
  exact F1 [] [_] 31667755080200969505628674394833084342516322416 this
theorem op_powk {z x:Int}{k q':Nat}{t u:Tok}(h:x.toNat=q'*z.toNat^k)(hx:1≤x∧x<2^31)(hz:2≤z∧z<300)(q:∀ (P:Int) t',(q':Int)*P=x→Q (.int P t') { s with toks:=s.toks+1 }):wpAny (model PG w) A (binaryOp .Pow (.int z t) (.int (k:Int) u)) Q E s:=by
 have hq:0<q':=by
  rcases Nat.eq_zero_or_pos q' with e | e
  ·rw [e] at h;lia
  ·exact e
 have h1:z.toNat^k≤x.toNat:=by rw [h];exact Nat.le_mul_of_pos_left _ hq
 have h2:2^k≤z.toNat^k:=Nat.pow_le_pow_left (by exact F2 [_] [_] 315271060873594928 hz.1 (iSt _)) k
 have h3:k<32:=by
  rcases Nat.lt_or_ge k 32 with e | e
  ·exact e
  ·have:2^32≤2^k:=Nat.pow_le_pow_right (by decide) e
   lia
 refine pow_any (by exact ⟨hz.1,F1 [] [_] 112508942530412609484429064151152 hz.2⟩) (by exact F0 [_] [] 5556229) (by exact F1 [_] [] 100091169221026875707488 h3) (q _ _ ?_)
 rw [Int.toNat_natCast]
 have e1:(z:Int)=((z.toNat:Nat):Int):=by exact iAs (iSt _) (F1 [_] [_] 95670939616032 (iTn (F1 [] [_] 23355284487 hz.1)))
 have e2:(x:Int)=((x.toNat:Nat):Int):=by exact iAs (iSt _) (F1 [_] [_] 95670939616032 (iTn (F1 [] [_] 23355284486 hx.1)))
 rw [e2,h]
 conv=>lhs;rw [e1]
 push_cast
 rfl
theorem op_mulk {P x:Int}{q':Nat}{t u:Tok}(h:(q':Int)*P=x)(hq:q'<2^63)(q:∀ t',Q (.int x t') { s with toks:=s.toks+1 }):wpAny (model PG w) A (binaryOp .Mult (.int (q':Int) t) (.int P u)) Q E s :=
 mul_int (h▸q _) (mulOk (by exact F1 [_] [] 27968043620802471665043408852432081095417996875766214752 hq))
theorem op_modk {z x:Int}{q':Nat}{t u:Tok}(h:0<x.toNat→q'%z.toNat≠0)(hx:1≤x)(hz:2≤z)(q:∀ (r:Int) t',r≠0→Q (.int r t') { s with toks:=s.toks+1 }):wpAny (model PG w) A (binaryOp .Mod (.int (q':Int) t) (.int z u)) Q E s:=by
 refine mod_int (by exact F1 [] [_] 1742779538439 hz) (q _ _ fun e=>h (by exact F2 [_] [_] 333276663273277488 hx (iSt _)) ?_)
 rw [Int.fmod_eq_emod_of_nonneg _ (by exact F1 [] [_] 23355284487 hz)] at e
 have e1:(z:Int)=((z.toNat:Nat):Int):=by exact iAs (iSt _) (F1 [_] [_] 95670939616032 (iTn (F1 [] [_] 23355284487 hz)))
 rw [e1] at e
 exact_mod_cast e
theorem divk_lt {x z:Int}{k q':Nat}(h:x.toNat=q'*z.toNat^k)(hx:1≤x∧x<2^31)(hz:2≤z):q'<2^63:=by
 have:0<z.toNat^k:=Nat.pow_pos (by exact F2 [_] [_] 333276663290054704 hz (iSt _))
 have:q'*1≤q'*z.toNat^k:=Nat.mul_le_mul_left _ this
 exact F4 [_,_,_] [_] 122162258335526336569600645749070162227466453024248012550594057143072 h hx.2 this (iTn (F1 [] [_] 23355284486 hx.1))
theorem off_ne0 {r:Int}(h:r≠0):decide (r=0)=false:=decide_eq_false h
theorem off_beq0 {r:Int}(h:r≠0):(r == 0)=false:=by simpa using h
end
structure Pass (h₀:Heap) (L:Addr) (m:Str→Option Value) (g:(Addr×Obj)→Obj→List (Addr×Obj)) (r:List Addr) (c9:Addr) (s:Shared) (k:Bool) (s':Shared):Prop where
 off:k=false
 at_:∃ h' tk ps' c8 o8,s'={ s with heap:=h',toks:=tk }∧Aft0 h₀ L m g r c9 h' ps' c8 o8
theorem Pass.mk' {h₀:Heap}{L:Addr}{m:Str→Option Value}{g:(Addr×Obj)→Obj→List (Addr×Obj)}{r r':List Addr}{news:List (Addr×Obj)}{c9:Addr}{s:Shared}{k:Bool}{h':Heap}{tk:Tok}{ps':Array Value}{c8:Addr}{o8:Obj}
  (off:k=false) (F:Fr h₀ L h' m) (N:News h₀ L h' news) (T:TabL ps' c8 o8) (le:@LE.le Nat _ c9 c8) (ne:∀ p∈r',p≠c8) (h1:∀ p∈g (c8,o8) (tabObj ps'),p∈news) (h2:∀ p∈r,p∈r'):Pass h₀ L m g r c9 s k { s with heap:=h',toks:=tk } :=
 ⟨off,_,_,_,_,_,rfl,F,fun p hp=>N p (h1 p hp),T,le,fun p hp=>ne p (h2 p hp)⟩
def Cont (P:Prop):Prop:=P
theorem if_pass {M:Model}{A:Around}{env:Env}{s:Shared}{h₀:Heap}{L:Addr}{m:Str→Option Value}{news:List (Addr×Obj)}{g:(Addr×Obj)→Obj→List (Addr×Obj)}{ro:List Addr}{ps:Array Value}{c9:Addr}{o9:Obj}{E:Value→Shared→Prop}{Q:Flow→Shared→Prop}{test:PySem.Expr}{body:List Stmt}{pos:Pos}
  (F:Fr h₀ L s.heap m) (N:News h₀ L s.heap news) (tl:TabL ps c9 o9) (U:Put (tabObj ps) c9 o9 news g ro)
  (hc:wpAny M A (isTrue test env (eval test env)) (fun k s₂=>Pass h₀ L m g ro c9 s k s₂) E s)
  (hk:Cont (∀ h' tk ps' c8 o8,Aft h₀ L m g ro c9 h' ps' c8 o8→Q .next { s with heap:=h',toks:=tk })) :
  wpAny M A (exec (.If test body [] pos) env) Q E s:=by
 refine wpAny_If (wpAny_mono hc (fun k s₂ hkc=>?_) fun _ _ h=>h)
 obtain ⟨rfl,h',tk,ps',c8,o8,rfl,af⟩:=hkc
 show wpAny M A (execs [] env) Q E _
 exact wpAny_execs_nil (hk h' tk ps' c8 o8 (.of U af.F af.N af.T af.le af.ne))
theorem off_pair1 {x:Int}(h:lp x.toNat=true)(h0:0≤x):((lp x.toNat && lp (x.toNat+2)) != lp (x+2).toNat)=false:=by
 rw [h,show (x+2).toNat=x.toNat+2 by exact nAs (F2 [_,_] [_] 331267036285874276935861024 (iSt _) (iTn (F1 [] [_] 93260652829701 h0))) (F2 [_,_] [_] 338839572302082215780483872 (iSt _) (iTn h0))];simp
theorem off_pair0 {n:Nat}{b:Bool}(h:lp n=false):((lp n && b) != false)=false:=by rw [h];rfl
theorem off_pair0' {n:Nat}{b:Bool}(h:lp n=false):((lp n && b) != lp n)=false:=by rw [h];rfl
theorem off_pair2 {n:Nat}{b:Bool}(h:¬lp n=true):((lp n && b) != false)=false:=off_pair0 (by simpa using h)
theorem off_pair2' {n:Nat}{b:Bool}(h:¬lp n=true):((lp n && b) != lp n)=false:=off_pair0' (by simpa using h)
theorem off_prime {x b:Int}{k:Bool}(h:lp x.toNat=true)(hw:LW x.toNat (6:Int).toNat (.int b))(h1:0≤x∧x<502)(h2:x%2=1):k=false:=by
 rcases hw with ⟨z,_⟩ | ⟨c,_,c1,c2,c3,_⟩
 ·cases z
 ·exact absurd (prime_sp x.toNat (by exact F2 [_] [_] 1435817629011944963676223505184 h1.2 (iTn h1.1)) (by lia) h c c1 c2) c3
theorem off_eq {b:Int}:(!decide (b=b))=false:=by simp
theorem off_beq {b:Int}:(!(b == b))=false:=by simp
end
section
theorem mem_frames {env:Env}{L b:Addr}{outer:List Env}(hf:env.frame=some L)(hm:b∈(env::outer).filterMap (·.frame)):b=L∨b∈outer.filterMap (·.frame):=by
 rw [List.filterMap_cons,hf] at hm
 rcases List.mem_cons.mp hm with z | z
 ·exact .inl z
 ·exact .inr z
section
variable {M:Model}{A:Around}{E:Value→Shared→Prop}{s':Shared}{base g g₂:Heap}{outer:List Env}{L e t:Addr}{m:Str→Option Value}{Q:Unit→Shared→Prop}{news:List (Addr×Obj)}{env:Env}
theorem leave_onSX {cls:Value}{vs:List Value}(K:Below A base outer g)(F:Fr g L g₂ m)(R:RaisedS base g₂ (env::outer) e cls t vs news s'.heap)(hsm:g₂.UpToSlots s'.heap)
  (hQ:∀ h',RaisedS base g outer e cls t vs news h'→g.UpToSlots h'→Q () { s' with heap:=h' }) (hf:env.frame=some L:=by rfl) :
  wpAny M (A.deeper env) (leaving env (.ref e)) Q E s':=by
 obtain ⟨⟨B,hB,hBG,hl,hfl,hnew⟩,htup⟩:=R
 refine wpAny_leaves_onW (Around.frames_deeper K.stack) hf hfl fun h' x1 x2=>hQ h' ⟨⟨B,hB,fun b o q nm=>?_,fun q hq=>?_,x1,hnew⟩,htup.of_slots x2⟩ ((Heap.UpToSlots.of_keeps F.keep).trans (hsm.trans x2))
 ·refine hBG b o (F.keep b o q) fun hm=>?_
  rcases mem_frames hf hm with z | z
  ·rw [z,kts_self F] at q;cases q
  ·exact nm z
 ·refine an3 (hl q hq) fun k1 k2 k3=>?_
  exact ⟨k1,kts_none F.keep k2,k3⟩
end
section
variable {prog:Program}{w:World}{A₀ A:Around}{s:Shared}{base h₀:Heap}{L:Addr}{m:Str→Option Value}{news:List (Addr×Obj)}{K:Frag}{p:Program}{loose:List Str}{mean:ExcName→Option Value}{mg mb:Str→Option Value}{env:Env}
  {R:Result→Shared→Prop} {name qual:Str} {params:Arguments} {body:List Stmt} {scope:Scope} {dV kV doc pm cdv ct oc:Value} {an od:Option Addr} {osl:Array (Option Value)} {f:Addr} {args:Args} {binds:List (Str×Value)}
theorem enterX (B:Below A₀ base [] h₀)(F:Fr h₀ L s.heap m)(X₀:K.In h₀)(N:News h₀ L s.heap news)(T:Top p loose mean mg mb h₀)(hA:A.frames=some [env])
  (ho:K.lookup f=some ⟨oc,od,.func (fnOf name qual params body scope dV kV doc pm an cdv ct),osl⟩) (hcd:codeIn K cdv qual=true) (hroom:A.depth<recursionLimit)
  (hbind:BindsTo s (fnOf name qual params body scope dV kV doc pm an cdv ct) args binds) (hloc:∀ y∈binds,scope.names.lookup y.1=some .local)
  (h:∀ g L' h₁,Fr h₀ L g m→Fr g L' h₁ (fun y=>binds.reverse.lookup y)→News g L' h₁ news→Below A base [env] g→K.In g→Top p loose mean mg mb g→KtsDicts ([env].filterMap (·.frame)) g →
   wpAny (model prog w) (A.deeper (envOf qual scope L' f cdv)) (execs body (envOf qual scope L' f cdv))
    (fun fl s'=>LeaveS0 ([env].filterMap (·.frame)) h₀ L m g R (match fl with | .ret v=>v | _=>.none) s')
    (fun e s'=>wpAny (model prog w) (A.deeper (envOf qual scope L' f cdv)) (leaving (envOf qual scope L' f cdv) e) (fun _ s''=>R (.error e) s'') (fun e' s''=>R (.error e') s'') s')
    { s with heap:=h₁,toks:=s.toks+binds.length })
  (hf:env.frame=some L) (hke:env.scope.kind=.function) (hco:scope.isCoroutine=false) (hgen:scope.isGenerator=false) (hk:scope.kind=.function)
  (hcell:∀ x∈scope.names,x.2≠.cell):codeAny (model prog w) A (.call (.ref f) args) R s:=by
 have X:=X₀.keeps F.keep
 refine codeAny_call_def (fd:=fnOf name qual params body scope dV kV doc pm an cdv ct) (body:=body) (binds:=binds) hroom (X _ _ ho) rfl (T.nolimit.keeps F.keep) (codeRec_of X hcd) rfl hbind hcell hloc (fun h₁ hns hk₁=>?_) hco hgen hk
 have hid:∀ b o,h₀.get? b=some o→b∉news.map (·.1):=fun b o e q=>by
  refine x1a2 (List.mem_map.mp q) fun r hr zq2=>?_;subst zq2
  rw [(N r hr).2.2] at e;cases e
 have st:h₀.StaysIn (hideAll s.heap (news.map (·.1))):=fun b o e=>hideAll_get _ (F.keep b o e) (hid b o e)
 refine x3a4 F.ns fun oL es ep hL hLd hLk hLf=>?_
 have nL:L∉news.map (·.1):=fun q=>by
  refine x1a2 (List.mem_map.mp q) fun r hr e=>?_
  exact (N r hr).2.1 e
 have hLg:=hideAll_get (news.map (·.1)) hL nL
 have fsL:∀ b,b∈[env].filterMap (·.frame)→b=L:=fun b hb=>(mem_frames hf hb).elim id fun z=>nomatch z
 have B₁:Below (A₀.deeper env) base [env] s.heap:=pushX B F hf hke
 have B₂:Below A base [env] (hideAll s.heap (news.map (·.1))):=⟨hA,fun b o e=>st b o (B.stays b o e),funFrames_hideAll B₁.frames fun e he b hb hfe=>by
  cases he with
  | head=>rw [hf] at hfe;cases hfe;exact nL hb
  | tail _ z=>exact nomatch z⟩
 have nL₀:h₀.get? L=none:=kts_self F
 refine wpAny_mono (h _ s.heap.objs.size h₁ ⟨⟨oL,es,ep,hLg,hLd,hLk,hLf⟩,st,F.above⟩ ⟨hns,fun b o e=>hk₁ b o (of_hideAll _ e),Nat.le_of_eq (hideAll_size _ _)⟩
  (fun r hr=>⟨hk₁ _ _ (N r hr).1,Nat.ne_of_lt (Heap.lt_size (N r hr).1),hideAll_none _ (List.mem_map_of_mem hr)⟩) B₂ (X₀.keeps st) (T.keeps st) (fun b hb=>fsL b hb▸⟨oL,es,ep,hLg,hLd⟩)) (fun fl s' hl=>?_) fun _ _ y=>y
 refine x4a4 hl fun g' L' m' news' T' F' N' k=>?_;clear hl
 obtain ⟨sl,hs⟩:=T'.up hLg
 refine k ⟨⟨_,es,ep,F'.keep _ _ hs,hLd,hLk,hLf⟩,fun b o e=>F'.keep b o (T'.other b o (st b o e) fun q=>?_),F.above⟩ fun r hr=>⟨(N' r hr).1,fun q=>?_,?_⟩
 ·rw [fsL b q,nL₀] at e;cases e
 ·have:=(N' r hr).2.2;rw [q,hs] at this;cases this
 ·cases q:h₀.get? r.1 with
  | none=>rfl
  | some o =>
   obtain ⟨sl',hs'⟩:=T'.up (st _ _ q)
   have:=(N' r hr).2.2
   rw [hs'] at this;cases this
end
end
section
inductive PutL (o:Obj) (c9:Addr) (o9:Obj):List (Addr×Obj)→((Addr×Obj)→Obj→Obj→List (Addr×Obj))→List Addr→List Addr→Prop
 | nil:PutL o c9 o9 [] (fun _ _ _=>[]) [] []
 | lam {l g r r5}:PutL o c9 o9 l g r r5→PutL o c9 o9 ((561,tabObj #[])::l) (fun e t u=>(561,u)::g e t u) (561::r) r5
 | tab {l g r r5}:PutL o c9 o9 l g r r5→PutL o c9 o9 ((275,o)::l) (fun e t u=>(275,t)::g e t u) (275::r) (275::r5)
 | slot {l g r r5}:PutL o c9 o9 l g r r5→PutL o c9 o9 ((c9,o9)::l) (fun e t u=>e::g e t u) r r5
 | other {p l g r r5}:@Ne Nat p.1 275→@Ne Nat p.1 561→PutL o c9 o9 l g r r5→PutL o c9 o9 (p::l) (fun e t u=>p::g e t u) (p.1::r) (p.1::r5)
def AllAp (d:Addr)(l:List Addr):Prop:=∀ p∈l,@Ne Nat p d
theorem AllAp.get {d q:Addr}{l:List Addr}(h:AllAp d l)(hq:q∈l):@Ne Nat q d:=h q hq
theorem AllAp.cons {d q:Addr}{l:List Addr}(h:AllAp d l)(hq:@Ne Nat q d):AllAp d (q::l):=fun p hp=>by
 rcases List.mem_cons.mp hp with rfl | hp
 ·exact hq
 ·exact h p hp
theorem PutL.ap {o:Obj}{c9:Addr}{o9:Obj}{l:List (Addr×Obj)}{g:(Addr×Obj)→Obj→Obj→List (Addr×Obj)}{r r5:List Addr}(U:PutL o c9 o9 l g r r5):AllAp 561 r5:=by
 induction U with
 | nil=>exact fun _ h=>nomatch h
 | lam x ih=>exact ih
 | tab x ih=>exact ih.cons (show (275:Nat)≠561 by decide)
 | slot x ih=>exact ih
 | other _ k2 x ih=>exact ih.cons k2
theorem PutL.next {o:Obj}{c9:Addr}{o9:Obj}{l:List (Addr×Obj)}{g:(Addr×Obj)→Obj→Obj→List (Addr×Obj)}{r r5:List Addr}(U:PutL o c9 o9 l g r r5){t u:Obj}{c8:Addr}{o8:Obj}:(∀ p∈r,p≠c8)→Put t c8 o8 (g (c8,o8) t u) (fun e t=>g e t u) r:=by
 induction U with
 | nil=>exact fun _=>.nil
 | lam x ih=>exact fun h=>.other (show (561:Nat)≠275 by decide) (h _ (.head _)) (ih fun p hp=>h p (.tail _ hp))
 | tab x ih=>exact fun h=>.tab (ih fun p hp=>h p (.tail _ hp))
 | slot x ih=>exact fun h=>.slot (ih h)
 | other k1 _ x ih=>exact fun h=>.other k1 (h _ (.head _)) (ih fun p hp=>h p (.tail _ hp))
noncomputable def lamTab (c':Addr):Obj:=tabObj (#[]++#[rawInt 487,rawInt 0,.ref c'])
noncomputable def lamQual:Str:=(Str.ofString "law" ++ Str.ofString ".<locals>.")++Str.ofString "<lambda>"
noncomputable def AllLt (d:Addr):List Addr→Prop
 | []=>True
 | p::r=>@LT.lt Nat _ p d∧AllLt d r
structure PassL (h₀:Heap) (L:Addr) (m:Str→Option Value) (g:(Addr×Obj)→Obj→Obj→List (Addr×Obj)) (r:List Addr) (c9:Addr) (s:Shared) (k:Bool) (s':Shared):Prop where
 off:k=false
 at_:∃ c' oc vs t h' tk ps' c8 o8,s'={ s with heap:=h',toks:=tk }∧oc.data=.fields vs∧vs[1]?=some (.str lamQual t)∧AllLt c' r∧@Ne Nat c' 275∧@Ne Nat c' 561∧Aft0 h₀ L m (fun e t=>(c',oc)::g e t (lamTab c')) (c'::r) c9 h' ps' c8 o8
theorem PassL.mk' {h₀:Heap}{L:Addr}{m:Str→Option Value}{g:(Addr×Obj)→Obj→Obj→List (Addr×Obj)}{r r':List Addr}{news:List (Addr×Obj)}{c9:Addr}{s:Shared}{k:Bool}{h':Heap}{tk:Tok}{ps':Array Value}{c8 c':Addr}{o8 oc:Obj}{vs:Array Value}{t:Tok}
  (d1:oc.data=.fields vs) (d2:vs[1]?=some (.str lamQual t)) (lt:AllLt c' r) (n5:@Ne Nat c' 275) (n6:@Ne Nat c' 561) (hm:(c',oc)∈news)
  (off:k=false) (F:Fr h₀ L h' m) (N:News h₀ L h' news) (T:TabL ps' c8 o8) (le:@LE.le Nat _ c9 c8) (ne:∀ p∈r',p≠c8) (h1:∀ p∈g (c8,o8) (tabObj ps') (lamTab c'),p∈news) (h2:∀ p∈c'::r,p∈r'):PassL h₀ L m g r c9 s k { s with heap:=h',toks:=tk } :=
 ⟨off,c',oc,vs,t,_,_,_,_,_,rfl,d1,d2,lt,n5,n6,F,fun p hp=>by
  rcases List.mem_cons.mp hp with rfl | hp
  ·exact N _ hm
  ·exact N p (h1 p hp),T,le,fun p hp=>ne p (h2 p hp)⟩
def ContL (P:Prop):Prop:=P
theorem if_passL {M:Model}{A:Around}{env:Env}{s:Shared}{h₀:Heap}{L:Addr}{m:Str→Option Value}{news:List (Addr×Obj)}{g:(Addr×Obj)→Obj→Obj→List (Addr×Obj)}{ro r5:List Addr}{ps:Array Value}{c9:Addr}{o9:Obj}{E:Value→Shared→Prop}{Q:Flow→Shared→Prop}{test:PySem.Expr}{body:List Stmt}{pos:Pos}
  (F:Fr h₀ L s.heap m) (N:News h₀ L s.heap news) (tl:TabL ps c9 o9) (hm:((561:Addr),tabObj #[])∈news) (U:PutL (tabObj ps) c9 o9 news g ro r5)
  (hc:wpAny M A (isTrue test env (eval test env)) (fun k s₂=>PassL h₀ L m g ro c9 s k s₂) E s)
  (hk:ContL (∀ c' oc vs t h' tk ps' c8 o8,oc.data=.fields vs→vs[1]?=some (.str lamQual t)→AllLt c' ro→AllAp 561 (c'::r5)→Aft h₀ L m (fun e t=>(c',oc)::g e t (lamTab c')) (c'::ro) c9 h' ps' c8 o8→Q .next { s with heap:=h',toks:=tk })) :
  wpAny M A (exec (.If test body [] pos) env) Q E s:=by
 refine wpAny_If (wpAny_mono hc (fun k s₂ hkc=>?_) fun _ _ h=>h)
 obtain ⟨rfl,c',oc,vs,t,h',tk,ps',c8,o8,rfl,d1,d2,lt,n5,n6,af⟩:=hkc
 show wpAny M A (execs [] env) Q E _
 exact wpAny_execs_nil (hk c' oc vs t h' tk ps' c8 o8 d1 d2 lt (U.ap.cons n6) ⟨af.F,af.N,af.T,af.le,af.ne,.other n5 (af.ne _ (.head _)) (U.next fun p hp=>af.ne p (.tail _ hp))⟩)
end
section
set_option maxHeartbeats 8000000
local macro_rules | `(tactic| walk_at $s:str)=>`(tactic| k_extra $s)
local macro_rules | `(tactic| k_updF)=>`(tactic| k_extra "k_updF")
local macro_rules | `(tactic| k_ne)=>`(tactic| k_extra "k_ne")
section
variable {u v w x:Nat}
theorem z5:¬(561:Nat)=275:=by decide
theorem za (h:561<v):¬v=275:=by lia
theorem zb (h:561<v):¬v=561:=by lia
theorem za1 (h:561<v):¬v+1=275:=by lia
theorem za2 (h:561<v):¬v+1+1=275:=by lia
theorem za3 (h:561<v):¬v+1+1+1=275:=by lia
theorem zb1 (h:561<v):¬v+1=561:=by lia
theorem zb2 (h:561<v):¬v+1+1=561:=by lia
theorem zb3 (h:561<v):¬v+1+1+1=561:=by lia
theorem zc (h:v+1+1+1<w)(k:561<v):¬w=275:=by lia
theorem zd (h:v+1+1+1<w)(k:561<v):¬w=561:=by lia
theorem zc' (h:v+1+1+1<u)(j:u<w)(k:561<v):¬w=275:=by lia
theorem zd' (h:v+1+1+1<u)(j:u<w)(k:561<v):¬w=561:=by lia
theorem ze1 (h:v+1+1+1<w):¬w=v+1:=by lia
theorem ze2 (h:v+1+1+1<w):¬w=v+1+1:=by lia
theorem ze3 (h:v+1+1+1<w):¬w=v+1+1+1:=by lia
theorem zf1 (h:v+1+1+1<w):¬v+1=w:=by lia
theorem zf2 (h:v+1+1+1<w):¬v+1+1=w:=by lia
theorem zf3 (h:v+1+1+1<w):¬v+1+1+1=w:=by lia
theorem zg (h:v<w):¬w=v:=by lia
theorem zh (h:v<w):¬v=w:=by lia
theorem zi1:¬v+1+1+1=v+1:=by lia
theorem zi2:¬v+1+1=v+1:=by lia
theorem zi3:¬v+1+1+1=v+1+1:=by lia
theorem hb2 (a b c d:Int):(3≤3+a.fmod 6∧3+a.fmod 6≤8)∧(0≤b.fmod 3598∧b.fmod 3598<3598)∧(3≤3+2*c.fmod 249∧3+2*c.fmod 249≤499∧(3+2*c.fmod 249)%2=1)∧(1≤1+d.fmod 9∧1+d.fmod 9≤9):=by simp only [fmE6,fmE3598,fmE249,fmE9];lia
theorem y1 {y:Int}(h:3≤y∧y≤499∧y%2=1):0≤y∧y<502:=by lia
theorem y2 {y:Int}(h:3≤y∧y≤499∧y%2=1):0≤y∧y<65536:=by lia
theorem y3 {y:Int}(h:3≤y∧y≤499∧y%2=1):0≤y∧y<3598:=by lia
theorem y4 {y:Int}(h:3≤y∧y≤499∧y%2=1):0≤y+2∧y+2<65536:=by lia
theorem y5 {y:Int}(h:3≤y∧y≤499∧y%2=1):0≤y:=by lia
theorem y6 {y:Int}(h:0≤y∧y<3598):0≤y∧y<2^63:=by lia
theorem y7 {y:Int}(h:0≤y∧y<3598):0≤y∧y<65536:=by lia
theorem y8 {y:Int}(h:0≤y∧y<3598):0≤y+2∧y+2<65536:=by lia
theorem y9 {y:Int}(h:1≤y∧y≤9):0≤2+y∧2+y<65536:=by lia
theorem ya {y:Int}(h:1≤y∧y≤9):0≤y∧y<65536:=by lia
theorem yb (y:Int):0≤y.fmod 5∧y.fmod 5<5:=by simp only [fmE5];lia
theorem yc (y:Int):0≤2+2*y.fmod 40∧2+2*y.fmod 40<2^63:=by simp only [fmE40];lia
theorem yd (y:Int):(2+2*y.fmod 40)%2=0:=by simp only [fmE40];lia
theorem ye {y:Int}(a:3≤y)(b:y<65536):0≤y∧y<2^63:=by lia
theorem zt (h:u<v)(k:v<w):u<w:=Nat.lt_trans h k
theorem b64 {y:Int}(h:3≤y∧y≤8):1≤y∧y≤64:=by lia
theorem b16 {y:Int}(h:3≤y∧y≤8):1≤y∧y≤16:=by lia
theorem b1 {y:Int}(h:3≤y∧y≤8):1≤y:=by lia
theorem zo16 {y:Int}(h:3≤y∧y≤499∧y%2=1):3≤y∧y<65536:=by lia
theorem zo63 {y:Int}(h:3≤y∧y≤499∧y%2=1):0≤y∧y<2^63:=by lia
theorem mo {y:Int}(h:1≤y∧y≤9):0≤y∧y≤900:=by lia
theorem mo2 {y:Int}(h:1≤y∧y≤9):0≤2+y∧2+y≤900:=by lia
theorem x63 {y:Int}(h:1≤y∧y<2^31):0≤y∧y<2^63:=by lia
end
theorem rowsT:True:=by
 k_with "tLe" => (first | exact le' | exact Nat.le_trans (by assumption) le' | exact Nat.le_trans (by assumption) (Nat.le_trans (by assumption) le') | exact Nat.le_trans (by assumption) (Nat.le_trans (by assumption) (Nat.le_trans (by assumption) le')) | lia)
 k_with "tZ" => ((rename (@LT.lt Nat _ _ _∧_)=>zA);(first | exact zg zA.1 | exact zh zA.1 | exact zg zA.2.1 | exact zh zA.2.1 | exact zg zA.2.2.1 | exact zh zA.2.2.1 | exact zg zA.2.2.2.1 | exact zh zA.2.2.2.1 | exact zg zA.2.2.2.2.1 | exact zh zA.2.2.2.2.1 | exact zg zA.2.2.2.2.2.1 | exact zh zA.2.2.2.2.2.1 | exact zg zA.2.2.2.2.2.2.1 | exact zh zA.2.2.2.2.2.2.1 | exact zg zA.2.2.2.2.2.2.2.1 | exact zh zA.2.2.2.2.2.2.2.1 | exact zg zA.2.2.2.2.2.2.2.2.1 | exact zh zA.2.2.2.2.2.2.2.2.1 | exact zg zA.2.2.2.2.2.2.2.2.2.1 | exact zh zA.2.2.2.2.2.2.2.2.2.1 | exact zg zA.2.2.2.2.2.2.2.2.2.2.1 | exact zh zA.2.2.2.2.2.2.2.2.2.2.1 | exact zg zA.2.2.2.2.2.2.2.2.2.2.2.1 | exact zh zA.2.2.2.2.2.2.2.2.2.2.2.1 | exact zg zA.2.2.2.2.2.2.2.2.2.2.2.2.1 | exact zh zA.2.2.2.2.2.2.2.2.2.2.2.2.1 | exact zg zA.2.2.2.2.2.2.2.2.2.2.2.2.2.1 | exact zh zA.2.2.2.2.2.2.2.2.2.2.2.2.2.1 | exact zg zA.2 | exact zh zA.2 | exact zg zA.2.2 | exact zh zA.2.2 | exact zg zA.2.2.2 | exact zh zA.2.2.2 | exact zg zA.2.2.2.2 | exact zh zA.2.2.2.2 | exact zg zA.2.2.2.2.2 | exact zh zA.2.2.2.2.2 | exact zg zA.2.2.2.2.2.2 | exact zh zA.2.2.2.2.2.2 | exact zg zA.2.2.2.2.2.2.2 | exact zh zA.2.2.2.2.2.2.2 | exact zg zA.2.2.2.2.2.2.2.2 | exact zh zA.2.2.2.2.2.2.2.2 | exact zg zA.2.2.2.2.2.2.2.2.2 | exact zh zA.2.2.2.2.2.2.2.2.2 | exact zg zA.2.2.2.2.2.2.2.2.2.2 | exact zh zA.2.2.2.2.2.2.2.2.2.2 | exact zg zA.2.2.2.2.2.2.2.2.2.2.2 | exact zh zA.2.2.2.2.2.2.2.2.2.2.2 | exact zg zA.2.2.2.2.2.2.2.2.2.2.2.2 | exact zh zA.2.2.2.2.2.2.2.2.2.2.2.2 | exact zg zA.2.2.2.2.2.2.2.2.2.2.2.2.2 | exact zh zA.2.2.2.2.2.2.2.2.2.2.2.2.2 | (clear zA;k_extra "tZ")))
 k_with "tZl" => ((rename (@LT.lt Nat _ _ _∧_)=>zA);(first | exact zA.1 | exact zA.2.1 | exact zA.2.2.1 | exact zA.2.2.2.1 | exact zA.2.2.2.2.1 | exact zA.2.2.2.2.2.1 | exact zA.2.2.2.2.2.2.1 | exact zA.2.2.2.2.2.2.2.1 | exact zA.2.2.2.2.2.2.2.2.1 | exact zA.2.2.2.2.2.2.2.2.2.1 | exact zA.2.2.2.2.2.2.2.2.2.2.1 | exact zA.2.2.2.2.2.2.2.2.2.2.2.1 | exact zA.2.2.2.2.2.2.2.2.2.2.2.2.1 | exact zA.2.2.2.2.2.2.2.2.2.2.2.2.2.1 | exact zA.2 | exact zA.2.2 | exact zA.2.2.2 | exact zA.2.2.2.2 | exact zA.2.2.2.2.2 | exact zA.2.2.2.2.2.2 | exact zA.2.2.2.2.2.2.2 | exact zA.2.2.2.2.2.2.2.2 | exact zA.2.2.2.2.2.2.2.2.2 | exact zA.2.2.2.2.2.2.2.2.2.2 | exact zA.2.2.2.2.2.2.2.2.2.2.2 | exact zA.2.2.2.2.2.2.2.2.2.2.2.2 | exact zA.2.2.2.2.2.2.2.2.2.2.2.2.2 | (clear zA;k_extra "tZl")))
 k_with "tZb" => ((rename (@LT.lt Nat _ 275 _∧@LT.lt Nat _ 561 _)=>zB);(first | exact za zB.2 | exact za1 zB.2 | exact za2 zB.2 | exact za3 zB.2 | exact zb zB.2 | exact zb1 zB.2 | exact zb2 zB.2 | exact zb3 zB.2 | exact zc (by with_reducible assumption) zB.2 | exact zd (by with_reducible assumption) zB.2 | exact zc hlt.1 zB.2 | exact zd hlt.1 zB.2 | exact zc' hlt.1 hlt.2 zB.2 | exact zd' hlt.1 hlt.2 zB.2))
 k_with "tNe" => (first | with_reducible assumption | exact z5 | exact za (by with_reducible assumption) | exact za1 (by with_reducible assumption) | exact za2 (by with_reducible assumption) | exact za3 (by with_reducible assumption) | exact zb (by with_reducible assumption) | exact zb1 (by with_reducible assumption) | exact zb2 (by with_reducible assumption) | exact zb3 (by with_reducible assumption) | exact zc (by with_reducible assumption) (by with_reducible assumption) | exact zd (by with_reducible assumption) (by with_reducible assumption) | exact ze1 (by with_reducible assumption) | exact ze2 (by with_reducible assumption) | exact ze3 (by with_reducible assumption) | exact zf1 (by with_reducible assumption) | exact zf2 (by with_reducible assumption) | exact zf3 (by with_reducible assumption) | exact zg (by with_reducible assumption) | exact zh (by with_reducible assumption) | exact zi1 | exact zi2 | exact zi3 | exact zc hlt.1 (by with_reducible assumption) | exact zd hlt.1 (by with_reducible assumption) | exact zc' hlt.1 hlt.2 (by with_reducible assumption) | exact zd' hlt.1 hlt.2 (by with_reducible assumption) | exact ze1 hlt.1 | exact ze2 hlt.1 | exact ze3 hlt.1 | exact zf1 hlt.1 | exact zf2 hlt.1 | exact zf3 hlt.1 | exact zg hlt.2 | exact zh hlt.2 | exact zg (zt hlt.1 hlt.2) | exact zh (zt hlt.1 hlt.2) | exact ap.1 | exact ap.2.1 | exact ap.2.2.1 | exact ap.2.2.2.1 | exact ap.2.2.2.2 | exact ap.2.2.2 | exact ap.2.2 | exact ap.2 | exact ac.1 | exact ac.2.1 | exact ac.2.2.1 | exact ac.2.2.2 | exact ac.2.2 | exact Ne.symm ap.1 | exact Ne.symm ap.2.1 | exact Ne.symm ap.2.2.1 | exact Ne.symm ap.2.2.2.1 | exact Ne.symm ap.2.2.2.2 | exact Ne.symm ap.2.2.2 | exact Ne.symm ap.2.2 | exact Ne.symm ap.2 | exact Ne.symm ac.1 | exact Ne.symm ac.2.1 | exact Ne.symm ac.2.2.1 | exact Ne.symm ac.2.2.2 | exact Ne.symm ac.2.2 | exact zc' (by with_reducible assumption) (by with_reducible assumption) (by with_reducible assumption) | exact zd' (by with_reducible assumption) (by with_reducible assumption) (by with_reducible assumption) | exact zg (zt (by with_reducible assumption) (by with_reducible assumption)) | exact zh (zt (by with_reducible assumption) (by with_reducible assumption)) | k_extra "tZb" | k_extra "tZ" | lia)
 k_with "tB" => (first | assumption | exact b64 hb.1 | exact b64 hb | exact b16 hb.1 | exact b16 hb | exact hb.1 | exact hb | exact b1 hb.1 | exact b1 hb | exact zo16 hb.2.1 | exact zo63 hb.2.1 | exact hb.2.1.2.2 | exact mo hb.2.2 | exact mo hb.2 | exact mo2 hb.2.2 | exact mo2 hb.2 | exact ⟨hv1,hv2⟩ | exact y1 hb.2.1 | exact y2 hb.2.1 | exact y3 hb.2.1 | exact y4 hb.2.1 | exact y5 hb.2.1 | exact y1 hb.2.2.1 | exact y2 hb.2.2.1 | exact y3 hb.2.2.1 | exact y4 hb.2.2.1 | exact y5 hb.2.2.1 | exact zo16 hb.2.2.1 | exact zo63 hb.2.2.1 | exact y6 hb.2.1 | exact y7 hb.2.1 | exact y8 hb.2.1 | exact hb.2.1.1 | exact hb.2.1 | exact hb.2.2.1.2.2 | exact hx.1 | exact hp.1 | exact ⟨hp.1,hq⟩ | exact y9 hb.2.2 | exact ya hb.2.2 | exact y9 hb.2 | exact ya hb.2 | exact mo hb.2.2.2 | exact mo2 hb.2.2.2 | exact y9 hb.2.2.2 | exact ya hb.2.2.2 | exact yb _ | exact yc _ | exact yd _ | exact ye hv1 hv2 | exact x63 hx | exact hp | exact hq | lia | (simp only [fmE6,fmE3598,fmE249,fmE9,fmE5,fmE40,fmE50,fmE4];lia))
 k_with "tL" => ((have U':=Aft.U af');(try dsimp only at U');(have F':=Aft.F af');(have tl':=Aft.T af');(have le':=Aft.le af');(try k_sweep))
 k_with "tN" => ((have N':=Aft.N af');(try dsimp only at N');k_extra "tL")
 k_with "tM" => ((try dsimp only at N');k_extra "tL")
 k_with "tX" => ((case X=>k_asm);(case T=>k_asm);(case F=>k_asm);(case N=>k_asm))
 k_with "tY" => ((case tl=>assumption);(case hm=>k_mem);(case hc=>k_mem);(case U=>k_updF);(case hd=>rfl);(case hu=>ktr_units);(case hp=>ktr_room))
 k_with "tI" => ((case ha=>k_mem);(case hma=>first | assumption | k_ne);(case I=>assumption);(case hl=>assumption))
 k_with "tS" => ((try dsimp only);repeat (first | exact subNil | (refine subCons (by k_mem) ?_)))
 k_with "tA" => ((try dsimp only);repeat (first | exact subNilA | (refine subConsA (by k_mem) ?_)))
 k_with "k_updF" => (first
 | with_reducible assumption
 | exact Put.nil
 | (apply Put.tab;k_updF)
 | (apply Put.slot;k_updF)
 | (apply Put.other;(first | with_reducible assumption | k_ne);(first | with_reducible assumption | k_ne | exact Aft.ne (by assumption) _ (by k_mem));k_updF))
 k_with "exec If" => (k_here;(with_reducible show wpAny _ _ (exec (PySem.Stmt.If _ [PySem.Stmt.Return (some (PySem.Expr.Constant (PySem.Const.bool false) _ _)) _] [] _) _) _ _ _);k_dflt ((rename TabL _ _ _=>tl9);(apply if_pass (tl:=tl9));(case F=>k_asm);(case N=>k_asm);(case U=>k_updF)))
 k_with "Pass" => (k_dflt ((apply Pass.mk');(case F=>k_asm);(case N=>k_asm);(case T=>assumption);(case le=>k_extra "tLe");(case ne=>exact Aft.ne (by assumption));(case h1=>k_extra "tS");(case h2=>k_extra "tA");(case off=>first | rfl | exact off_pair1 (by assumption) (by k_extra "tB") | exact off_pair0 (by assumption) | exact off_pair0' (by assumption) | exact off_pair2 (by assumption) | exact off_pair2' (by assumption) | exact off_eq | exact off_beq | exact off_prime (by assumption) (by assumption) (by k_extra "tB") (by k_extra "tB") | (exfalso;lia) | exact off_ne0 (by assumption) | exact off_beq0 (by assumption))))
 k_with "Cont" => (k_dflt (unfold Cont;intro h' tk' ps' c8' o8' af';k_extra "tN"))
 k_with "UnrEndW" => (k_here;k_dflt ((have ne8:=allNe_of (Aft.ne (by assumption)));(simp only [AllNe,and_true] at ne8);(show UnrEndW _ _ _ _ _ _);(ktu_end);all_goals (try clear ne8)))
 k_with "call ref" => (k_here;(with_reducible show wpAny _ _ (call (Value.ref 77) [_,_]) _ _ _);k_dflt ((apply kcall_nat);k_extra "tX";(case h1=>k_extra "tB");(case h2=>k_extra "tB");k_extra "tY";intro a' items' n' h' tk' ps' c8' o8' af' N' I' hl' na' nc';k_extra "tM"))
 k_with "call ref" => (k_here;(with_reducible show wpAny _ _ (call (Value.ref 77) [Value.int 1 _,_]) _ _ _);k_dflt ((apply kcall_nat1);k_extra "tX";(case h2=>k_extra "tB");k_extra "tY";intro a' t' n' h' tk' ps' c8' o8' af' N' na' nc';k_extra "tM"))
 k_with "call ref" => (k_here;(with_reducible show wpAny _ _ (call (Value.ref 460) [_,_,_,_]) _ _ _);k_dflt ((apply kcall_pair);k_extra "tX";k_extra "tI";(case h1=>k_extra "tB");(case h2=>k_extra "tB");k_extra "tY";intro h' tk' ps' c8' o8' af';k_extra "tN"))
 k_with "call ref" => (k_here;(with_reducible show wpAny _ _ (call (Value.ref 533) [_]) _ _ _);k_dflt ((apply kcall_lp);k_extra "tX";(case h1=>k_extra "tB");k_extra "tY";intro h' tk' ps' c8' o8' af';k_extra "tN"))
 k_with "call ref" => (k_here;(with_reducible show wpAny _ _ (call (Value.ref 552) [_,_]) _ _ _);k_dflt ((apply kcall_lw0);k_extra "tX";(case h1=>k_extra "tB");(case h2=>k_extra "tB");(case hw=>assumption);k_extra "tY";intro h' tk' ps' c8' o8' af';k_extra "tN"))
 k_with "call ref" => (k_here;(with_reducible show wpAny _ _ (call (Value.ref 552) [_,_]) _ _ _);k_dflt ((apply kcall_lw1);k_extra "tX";(case h1=>k_extra "tB");(case h2=>k_extra "tB");(case hw=>assumption);k_extra "tY";intro t' h' tk' ps' c8' o8' af';k_extra "tN"))
 k_with "call ref" => (k_here;(with_reducible show wpAny _ _ (call (Value.ref 528) [_,_]) _ _ _);k_dflt ((apply kcall_worth);k_extra "tX";k_extra "tI";(case h1=>assumption);(case h2=>k_extra "tB");k_extra "tY";intro t' h' tk' ps' c8' o8' af';k_extra "tN"))
 k_with "call ref" => (k_here;(with_reducible show wpAny _ _ (call (Value.ref 84) [_]) _ _ _);k_dflt ((apply kcall_even);k_extra "tX";k_extra "tI";(case h1=>k_extra "tB");(case he=>k_extra "tB");(case h2=>k_extra "tB");k_extra "tY";intro h' tk' ps' c8' o8' af';k_extra "tN"))
 k_with "call ref" => (k_here;(with_reducible show wpAny _ _ (call (Value.ref 467) [_,_,_,_,_]) _ _ _);k_dflt ((apply kcall_wit);k_extra "tX";k_extra "tI";(case h1=>k_extra "tB");(case ho=>k_extra "tB");(case h2=>k_extra "tB");(case h3=>k_extra "tB");k_extra "tY";rotate_left;(intro b' hw' t' h' tk' ps' c8' o8' af';k_extra "tN");rotate_left;(intro hw' h' tk' ps' c8' o8' af';k_extra "tN")))
 k_with "subscriptTail" => (k_here;(with_reducible show wpAny _ _ (subscriptTail _ _ (Value.ref _) (Value.int (Int.fmod _ 5) _)) _ _ _);k_dflt ((apply hard_item);(case N=>k_asm);(case hm=>k_mem);(case hk=>k_extra "tB");(case hs=>with_unfolding_all rfl);intro v' t' hv1 hv2 hv3))
 k_with "binaryOp Pow int int" => (k_here;(with_reducible show wpAny _ _ (binaryOp Operator.Pow (Value.int _ _) (Value.int (Nat.cast _) _)) _ _ _);k_dflt ((apply op_powk);(case h=>assumption);(case hx=>k_extra "tB");(case hz=>k_extra "tB");intro P' t' hP'))
 k_with "binaryOp Pow int int" => (k_here;(with_reducible show wpAny _ _ (binaryOp Operator.Pow (Value.int _ _) (Value.int (Int.fmod _ 4) _)) _ _ _);k_dflt ((apply op_pow4);(case h=>k_extra "tB");intro v' t' hv1 hv2))
 k_with "binaryOp Pow int int" => (k_here;(with_reducible show wpAny _ _ (binaryOp Operator.Pow (Value.int 2 _) (Value.int _ _)) _ _ _);k_dflt ((apply op_pow2);(case h=>k_extra "tB");intro B' t' hB1 hB2 hB3))
 k_with "binaryOp Mod int int" => (k_here;(with_reducible show wpAny _ _ (binaryOp Operator.Mod (Value.int _ _) (Value.int (_-2) _)) _ _ _);k_dflt ((apply op_modB);(case h=>k_extra "tB");intro r' t' hr1 hr2))
 k_with "binaryOp Mod int int" => (k_here;(with_reducible show wpAny _ _ (binaryOp Operator.Mod (Value.int (Nat.cast _) _) (Value.int _ _)) _ _ _);k_dflt ((apply op_modk);(case h=>assumption);(case hx=>k_extra "tB");(case hz=>k_extra "tB");intro r' t' hr1))
 k_with "binaryOp Mult int int" => (k_here;(with_reducible show wpAny _ _ (binaryOp Operator.Mult (Value.int (Nat.cast _) _) (Value.int _ _)) _ _ _);k_dflt ((apply op_mulk);(case h=>assumption);(case hq=>assumption);intro t'))
 k_with "binaryOp Mult int int" => (k_here;(with_reducible show wpAny _ _ (binaryOp Operator.Mult (Value.int (1+Int.fmod _ 50) _) (Value.int _ _)) _ _ _);k_dflt ((apply op_mul50);(case h=>k_extra "tB");intro z' t' hz1 hz2))
 k_with "call ref" => (k_here;(with_reducible show wpAny _ _ (call (Value.ref 474) [_,Value.int _ _,_]) _ _ _);k_dflt ((apply kcall_div);k_extra "tX";(case h3=>k_extra "tB");(case h2=>k_extra "tB");(case I=>assumption);(case hl=>assumption);(case h1=>k_extra "tB");(case hma=>first | assumption | k_ne);(case tl=>assumption);(case hm=>k_mem);(case hc=>k_mem);(case hmc=>first | assumption | exact Aft.ne (by assumption) _ (by k_mem) | k_ne);(case U=>k_updF);(case hd=>rfl);(case hu=>ktr_units);(case hp=>ktr_room);intro k' q' b' items' n' d' tt' h' tk' ps' c8' o k1' k2' k3' af' N' I' hl' nb' nb8' nd' nd8' ndb' hap';(have hq':=divk_lt k1' (by k_extra "tB") (by k_extra "tB"));k_extra "tM"))
 k_with "call ref" => (k_here;(with_reducible show wpAny _ _ (call (Value.ref 474) [_,Value.int _ _,_]) _ _ _);k_dflt ((apply kcall_div0);k_extra "tX";(case h3=>k_extra "tB");(case h2=>k_extra "tB");(case hma=>first | assumption | k_ne);(case tl=>assumption);(case hm=>k_mem);(case hc=>k_mem);(case hmc=>first | assumption | exact Aft.ne (by assumption) _ (by k_mem) | k_ne);(case U=>k_updF);(case hd=>rfl);(case hu=>ktr_units);(case hp=>ktr_room);(case h5=>k_mem);(case hm5=>k_ne);intro b' n' d' tt' h' tk' ps' c8' o8' af' N' nb' nb8' nd' nd8' ndb' nb5' nd5';k_extra "tM"))
 k_with "callWith ref" => (k_here;(with_reducible show wpAny _ _ (callWith _ (Value.ref (OfNat.ofNat _)) _ _ _) _ _ _);k_dflt (first | (refine' callWith_K (by k_asm) (by k_is) ?_;k_whole) | (refine' callWith_K0 (by k_in) (by k_is) ?_;k_whole)))
 k_with "eval Call" => (k_here;(with_reducible show wpAny _ _ (eval (Expr.Call (Expr.Name _ _) (_::_) [] _) _) _ _ _);k_dflt (refine Call_ ?_))
 k_with "call ref" => (k_here;(with_reducible show wpAny _ _ (call (Value.ref 559) [_]) _ _ _);k_dflt ((refine wpAny_call ?_);(apply enterX);(case hA=>exact rfl);(case F=>k_asm);(case B=>k_asm);(case X₀=>k_asm);(case N=>k_asm);(case T=>k_asm);(case ho=>k_is);(case hcd=>k_is);(case hroom=>k_room);(case hbind=>exact BindsTo.of_eq rfl);(case hloc=>exact locs rfl);(case hf=>exact rfl);(case hke=>exact rfl);(case hco=>exact rfl);(case hgen=>exact rfl);(case hk=>exact rfl);(case hcell=>decide);k_whole;intro g' L' h' FG' F' N' B' X' T' D';(try dsimp only);(try k_lift B');(try k_fold)))
 k_with "leaving ref" => (k_here;(with_reducible rename KtsDicts _ _=>kdX);k_dflt ((apply leave_onSX);(case R=>assumption);(case F=>assumption);(case K=>assumption);(case hsm=>assumption);(case hf=>exact rfl);k_whole;intro h' S' U';(try dsimp only at S' U' ⊢)))
 k_with "k_updF" => (first | exact PutL.nil | (apply PutL.lam;k_updF) | (apply PutL.tab;k_updF) | (apply PutL.slot;k_updF) | (apply PutL.other;k_ne;k_ne;k_updF))
 k_with "k_ne" => (first | with_reducible assumption | exact AllAp.get (by with_reducible assumption) (by k_mem) | exact (Aft.ne (by assumption) _ (by k_mem)).symm | (refine neN ?_;(try dsimp only);k_extra "tNe"))
 k_with "exec If" => (k_here;(with_reducible show wpAny _ _ (exec (PySem.Stmt.If (PySem.Expr.UnaryOp _ _ _) [PySem.Stmt.Return (some (PySem.Expr.Constant (PySem.Const.bool false) _ _)) _] [] _) _) _ _ _);k_dflt ((rename TabL _ _ _=>tl9);(apply if_passL (tl:=tl9));(case F=>k_asm);(case N=>k_asm);(case hm=>k_mem);(case U=>k_updF)))
 k_with "PassL" => (k_dflt ((apply PassL.mk');(case F=>k_asm);(case N=>k_asm);(case T=>assumption);(case d1=>assumption);(case d2=>assumption);(case hm=>k_mem);(case lt=>(simp only [AllLt,and_true];first | (refine ⟨?_,?_,?_,?_,?_,?_,?_,?_⟩ <;> first | with_reducible assumption | k_extra "tZl" | lia) | (refine ⟨?_,?_,?_,?_,?_,?_,?_⟩ <;> first | with_reducible assumption | k_extra "tZl" | lia) | (refine ⟨?_,?_,?_,?_,?_,?_,?_,?_,?_⟩ <;> first | with_reducible assumption | k_extra "tZl" | lia) | lia));(case n5=>first | with_reducible assumption | k_extra "tZl" | lia);(case n6=>first | with_reducible assumption | k_extra "tZl" | lia);(case le=>k_extra "tLe");(case ne=>exact Aft.ne (by assumption));(case h1=>k_extra "tS");(case h2=>k_extra "tA");(case off=>rfl)))
 k_with "ContL" => (k_dflt (unfold ContL;intro c' oc' vs' t' h' tk' ps' c8' o8' d1' d2' lt' ap' af';(simp only [AllLt,and_true] at lt');(try (refine an8 lt' fun la1 la2 la3 la4 la5 la6 la7 la8=>?_;clear lt'));k_extra "tN"))
 k_with "exec If" => (k_here;(with_reducible show wpAny _ _ (exec (PySem.Stmt.If (PySem.Expr.BoolOp .Or _ _) [PySem.Stmt.Return (some (PySem.Expr.Constant (PySem.Const.bool false) _ _)) _] [] _) _) _ _ _);k_dflt ((rename TabL _ _ _=>tl9);(apply if_pass (tl:=tl9));(case F=>k_asm);(case N=>k_asm);(case U=>(apply Put.drop;k_updF))))
 exact True.intro
def Done (Q:Flow→Shared→Prop)(f:Flow)(s:Shared):Prop:=Q f s
theorem cutF {M:Model}{A:Around}{env:Env}{s:Shared}{b₀:Heap}{L:Addr}{m:Str→Option Value}{E:Value→Shared→Prop}{Q:Flow→Shared→Prop}{st:Stmt}{rest:List Stmt}(F:Fr b₀ L s.heap m)(I:Heap→Addr→Shared→(Shared→Prop)→Prop)
  (h1:∀ Q':Flow→Shared→Prop,I b₀ L s (Q' .next)→wpAny M A (exec st env) (Done Q') E s) (h2:I b₀ L s fun s'=>wpAny M A (execs rest env) Q E s'):wpAny M A (execs (st::rest) env) Q E s :=
 wpAny_execs_cons (h1 (fun f s'=>match f with | .next=>wpAny M A (execs rest env) Q E s' | f=>Q f s') h2)
theorem News.sub {b₀ h:Heap}{L:Addr}{l l':List (Addr×Obj)}(N:News b₀ L h l)(k:∀ p∈l',p∈l):News b₀ L h l':=fun p hp=>N p (k p hp)
theorem slot1 {h₀ h:Heap}{L:Addr}{news:List (Addr×Obj)}{c:Addr}{v1 v2 v3 v4 v5 v6:Value}{n:Nat}(N:News h₀ L h news)(hm:(c,PySem.W.listOf #[v1,v2,v3,v4,v5,v6] n)∈news)(hne:@Ne Nat c 275):TabL #[] c (PySem.W.listOf #[v1,v2,v3,v4,v5,v6] n):=⟨hne,.inl rfl⟩
noncomputable abbrev So (x:String):Str:=Str.ofString x
def I1 (b₀:Heap)(L:Addr)(s:Shared)(R:Shared→Prop):Prop:=∀ (h':Heap) (tk:Nat) (m0:Str→Option Value) (D c9:Addr) (items:List Value) (n:Nat) (vals:List Int) (o9 ow om oe:Obj) (xw xm xe:Option Value)
 (F:Fr b₀ L h' (fun y=>if y=Str.ofString "some" then some (.ref D) else m0 y)) (T:TabL #[] c9 o9) (N:News b₀ L h' [(D,PySem.W.listOf items.toArray n),(c9,o9),(L+1+1+1,ow),(L+1+1,om),(L+1,oe),(275,tabObj #[]),(561,tabObj #[])])
 (I:IntsAre items vals) (hl:6≤vals.length) (hlt:@LT.lt Nat _ (L+1+1+1) c9∧@LT.lt Nat _ c9 D) (dw:ow.data=.cell xw) (dm:om.data=.cell xm) (de:oe.data=.cell xe),R { s with heap:=h',toks:=tk }
def I2 (b₀:Heap)(L:Addr)(s:Shared)(R:Shared→Prop):Prop:=∀ (h':Heap) (tk:Nat) (m0:Str→Option Value) (D c9:Addr) (items:List Value) (n:Nat) (vals:List Int) (o9 ow om oe:Obj) (xe:Option Value) (w number odd most:Int) (tw tn to tm:Tok)
 (F:Fr b₀ L h' (fun y=>if y=Str.ofString "odd" then some (.int odd to) else if y=Str.ofString "number" then some (.int number tn) else if y=Str.ofString "some" then some (.ref D) else m0 y))
 (T:TabL #[] c9 o9) (N:News b₀ L h' [(D,PySem.W.listOf items.toArray n),(c9,o9),(L+1+1+1,ow),(L+1+1,om),(L+1,oe),(275,tabObj #[]),(561,tabObj #[])])
 (I:IntsAre items vals) (hl:6≤vals.length) (hlt:@LT.lt Nat _ (L+1+1+1) c9∧@LT.lt Nat _ c9 D) (dw:ow.data=.cell (some (.int w tw))) (dm:om.data=.cell (some (.int most tm))) (de:oe.data=.cell xe)
 (hb:(3≤w∧w≤8)∧(0≤number∧number<3598)∧(3≤odd∧odd≤499∧odd%2=1)∧(1≤most∧most≤9)),R { s with heap:=h',toks:=tk }
theorem fr_to {b h:Heap}{L:Addr}{m m':Str→Option Value}(F:Fr b L h m)(e:∀ y,m y=m' y):Fr b L h m':=by
 have:m=m':=funext e
 rw [← this];exact F
theorem fr_n {b h:Heap}{L:Addr}{v1 v2 v3 vo vs:Option Value}{m:Str→Option Value}(F:Fr b L h fun y=>if y=Str.ofString "n" then v1 else if y=Str.ofString "n" then v2 else if y=Str.ofString "odd" then vo else if y=Str.ofString "number" then v3 else if y=Str.ofString "some" then vs else m y) :
  Fr b L h fun y=>if y=Str.ofString "odd" then vo else if y=Str.ofString "some" then vs else if y=Str.ofString "n" then v1 else if y=Str.ofString "number" then v3 else m y:=fr_to F fun y=>by
 by_cases h1:y=Str.ofString "odd"
 ·subst h1;rfl
 by_cases h2:y=Str.ofString "some"
 ·subst h2;rfl
 rw [if_neg h1,if_neg h2,if_neg h1,if_neg h2]
 split
 ·rfl
 ·rfl
def I3 (b₀:Heap)(L:Addr)(s:Shared)(R:Shared→Prop):Prop:=∀ (h':Heap) (tk:Nat) (m0:Str→Option Value) (D c9:Addr) (items:List Value) (n:Nat) (vals:List Int) (ps:Array Value) (o9 ow om oe:Obj) (xe:Option Value) (w odd most:Int) (tw to tm:Tok)
 (F:Fr b₀ L h' (fun y=>if y=Str.ofString "odd" then some (.int odd to) else if y=Str.ofString "some" then some (.ref D) else m0 y))
 (T:TabL ps c9 o9) (N:News b₀ L h' [(D,PySem.W.listOf items.toArray n),(c9,o9),(L+1+1+1,ow),(L+1+1,om),(L+1,oe),(275,tabObj ps),(561,tabObj #[])])
 (I:IntsAre items vals) (hl:6≤vals.length) (ap:@Ne Nat D c9∧@Ne Nat (L+1+1+1) c9∧@Ne Nat (L+1+1) c9∧@Ne Nat (L+1) c9∧@Ne Nat 561 c9) (hlt:@LT.lt Nat _ (L+1+1+1) D) (dw:ow.data=.cell (some (.int w tw))) (dm:om.data=.cell (some (.int most tm))) (de:oe.data=.cell xe)
 (hb:(3≤w∧w≤8)∧(3≤odd∧odd≤499∧odd%2=1)∧(1≤most∧most≤9)),R { s with heap:=h',toks:=tk }
def I7 (b₀:Heap)(L:Addr)(s:Shared)(R:Shared→Prop):Prop:=∀ (h':Heap) (tk:Nat) (m0:Str→Option Value) (D c9:Addr) (items:List Value) (n:Nat) (vals:List Int) (ps:Array Value) (o9 ow om oe:Obj) (xe:Option Value) (w most:Int) (tw tm:Tok)
 (F:Fr b₀ L h' (fun y=>if y=Str.ofString "some" then some (.ref D) else m0 y))
 (T:TabL ps c9 o9) (N:News b₀ L h' [(D,PySem.W.listOf items.toArray n),(c9,o9),(L+1+1+1,ow),(L+1+1,om),(L+1,oe),(275,tabObj ps),(561,tabObj #[])])
 (I:IntsAre items vals) (hl:6≤vals.length) (ap:@Ne Nat D c9∧@Ne Nat (L+1+1+1) c9∧@Ne Nat (L+1+1) c9∧@Ne Nat (L+1) c9∧@Ne Nat 561 c9) (hlt:@LT.lt Nat _ (L+1+1+1) D) (dw:ow.data=.cell (some (.int w tw))) (dm:om.data=.cell (some (.int most tm))) (de:oe.data=.cell xe)
 (hb:(3≤w∧w≤8)∧(1≤most∧most≤9)),R { s with heap:=h',toks:=tk }
theorem fr_h {b h:Heap}{L:Addr}{v1 v2 vs:Option Value}{m:Str→Option Value}(F:Fr b L h fun y=>if y=Str.ofString "hard" then v1 else if y=Str.ofString "odd" then v2 else if y=Str.ofString "some" then vs else m y) :
  Fr b L h fun y=>if y=Str.ofString "some" then vs else if y=Str.ofString "hard" then v1 else if y=Str.ofString "odd" then v2 else m y:=fr_to F fun y=>by
 by_cases h2:y=Str.ofString "some"
 ·subst h2;rfl
 rw [if_neg h2,if_neg h2]
def I8 (b₀:Heap)(L:Addr)(s:Shared)(R:Shared→Prop):Prop:=∀ (h':Heap) (tk:Nat) (m0:Str→Option Value) (D c9 cc:Addr) (items:List Value) (n:Nat) (vals:List Int) (ps vs:Array Value) (o9 ow oc:Obj) (w:Int) (tw tc:Tok)
 (F:Fr b₀ L h' (fun y=>if y=Str.ofString "some" then some (.ref D) else m0 y))
 (T:TabL ps c9 o9) (N:News b₀ L h' [(D,PySem.W.listOf items.toArray n),(c9,o9),(L+1+1+1,ow),(275,tabObj ps),(561,lamTab cc),(cc,oc)])
 (I:IntsAre items vals) (hl:6≤vals.length) (ap:@Ne Nat D c9∧@Ne Nat (L+1+1+1) c9∧@Ne Nat 561 c9∧@Ne Nat cc c9) (ac:@Ne Nat cc 275∧@Ne Nat cc 561∧@Ne Nat D cc∧@Ne Nat (L+1+1+1) cc) (hlt:@LT.lt Nat _ (L+1+1+1) D) (dw:ow.data=.cell (some (.int w tw))) (d1:oc.data=.fields vs) (d2:vs[1]?=some (.str lamQual tc))
 (hb:3≤w∧w≤8),R { s with heap:=h',toks:=tk }
def I10 (b₀:Heap)(L:Addr)(s:Shared)(R:Shared→Prop):Prop:=∀ (h':Heap) (tk:Nat) (m0:Str→Option Value) (c9 cc:Addr) (ps vs:Array Value) (o9 ow oc:Obj) (w p x:Int) (tw tc tp tx:Tok)
 (F:Fr b₀ L h' (fun y=>if y=Str.ofString "whole" then some (.int x tx) else if y=Str.ofString "p" then some (.int p tp) else m0 y))
 (T:TabL ps c9 o9) (N:News b₀ L h' [(c9,o9),(L+1+1+1,ow),(275,tabObj ps),(561,lamTab cc),(cc,oc)])
 (ap:@Ne Nat (L+1+1+1) c9∧@Ne Nat 561 c9∧@Ne Nat cc c9) (ac:@Ne Nat cc 275∧@Ne Nat cc 561∧@Ne Nat (L+1+1+1) cc) (dw:ow.data=.cell (some (.int w tw))) (d1:oc.data=.fields vs) (d2:vs[1]?=some (.str lamQual tc))
 (hb:3≤w∧w≤8) (hp:2≤p∧p<300) (hq:p<2^w.toNat) (hx:1≤x∧x<2^31),R { s with heap:=h',toks:=tk }
def I11 (b₀:Heap)(L:Addr)(s:Shared)(R:Shared→Prop):Prop:=∀ (h':Heap) (tk:Nat) (m0:Str→Option Value) (b c9 cc:Addr) (items:List Value) (n k q':Nat) (ps vs:Array Value) (o9 ow oc:Obj) (w p x:Int) (tw tc tp tx tk':Tok)
 (F:Fr b₀ L h' (fun y=>if y=Str.ofString "left" then some (.ref b) else if y=Str.ofString "many" then some (.int (k:Int) tk') else if y=Str.ofString "whole" then some (.int x tx) else if y=Str.ofString "p" then some (.int p tp) else m0 y))
 (T:TabL ps c9 o9) (N:News b₀ L h' [(b,PySem.W.listOf items.toArray n),(c9,o9),(L+1+1+1,ow),(275,tabObj ps),(561,lamTab cc),(cc,oc)])
 (I:IntsAre items ((dg (2^w.toNat) q').map fun (n:Nat)=>(n:Int))) (hl:items.length≤64) (ap:@Ne Nat b c9∧@Ne Nat (L+1+1+1) c9∧@Ne Nat 561 c9∧@Ne Nat cc c9) (ac:@Ne Nat cc 275∧@Ne Nat cc 561∧@Ne Nat (L+1+1+1) cc) (ab:@Ne Nat b 275) (dw:ow.data=.cell (some (.int w tw))) (d1:oc.data=.fields vs) (d2:vs[1]?=some (.str lamQual tc))
 (hb:3≤w∧w≤8) (hp:2≤p∧p<300) (hq:p<2^w.toNat) (hx:1≤x∧x<2^31) (k1:x.toNat=q'*p.toNat^k) (k3:0<x.toNat→q'%p.toNat≠0) (k4:q'<2^63),R { s with heap:=h',toks:=tk }
def I12 (b₀:Heap)(L:Addr)(s:Shared)(R:Shared→Prop):Prop:=∀ (h':Heap) (tk:Nat) (m0:Str→Option Value) (c9 cc:Addr) (ps vs:Array Value) (o9 ow oc:Obj) (w p:Int) (tw tc tp:Tok)
 (F:Fr b₀ L h' (fun y=>if y=Str.ofString "p" then some (.int p tp) else m0 y))
 (T:TabL ps c9 o9) (N:News b₀ L h' [(c9,o9),(L+1+1+1,ow),(275,tabObj ps),(561,lamTab cc),(cc,oc)])
 (ap:@Ne Nat (L+1+1+1) c9∧@Ne Nat 561 c9∧@Ne Nat cc c9) (ac:@Ne Nat cc 275∧@Ne Nat cc 561∧@Ne Nat (L+1+1+1) cc) (dw:ow.data=.cell (some (.int w tw))) (d1:oc.data=.fields vs) (d2:vs[1]?=some (.str lamQual tc))
 (hb:3≤w∧w≤8) (hp:2≤p∧p<300) (hq:p<2^w.toNat),R { s with heap:=h',toks:=tk }
theorem fr_p {b h:Heap}{L:Addr}{v1 v2 v3 vs:Option Value}{m:Str→Option Value}(F:Fr b L h fun y=>if y=Str.ofString "left" then v1 else if y=Str.ofString "many" then v2 else if y=Str.ofString "whole" then v3 else if y=Str.ofString "p" then vs else m y) :
  Fr b L h fun y=>if y=Str.ofString "p" then vs else if y=Str.ofString "left" then v1 else if y=Str.ofString "many" then v2 else if y=Str.ofString "whole" then v3 else m y:=fr_to F fun y=>by
 by_cases h2:y=Str.ofString "p"
 ·subst h2;rfl
 rw [if_neg h2,if_neg h2]
theorem top_cut {M:Model}{A:Around}{t:Sem Flow}{s:Shared}{b₀:Heap}{L:Addr}{m:Str→Option Value}{E:Value→Shared→Prop}{Q:Flow→Shared→Prop}(F:Fr b₀ L s.heap m)
  (h1:∀ QT:Flow→Shared→Prop,(∀ h' tk m' ps qs,Fr b₀ L h' m'→News b₀ L h' [(275,tabObj ps),(561,tabObj qs)]→QT (.ret (.bool true)) { s with heap:=h',toks:=tk })→wpAny M A t (Done QT) Ed s)
  (h2:∀ h' tk m' ps qs,Fr b₀ L h' m'→News b₀ L h' [(275,tabObj ps),(561,tabObj qs)]→Q (.ret (.bool true)) { s with heap:=h',toks:=tk }):wpAny M A t Q E s :=
 wpAny_mono (h1 Q h2) (fun _ _ h=>h) fun _ _ h=>h.elim
theorem cutF2 {M:Model}{A:Around}{env:Env}{s:Shared}{b₀:Heap}{L:Addr}{m:Str→Option Value}{E:Value→Shared→Prop}{Q:Flow→Shared→Prop}{st st2:Stmt}{rest:List Stmt}(F:Fr b₀ L s.heap m)(I:Heap→Addr→Shared→(Shared→Prop)→Prop)
  (h1:∀ Q':Flow→Shared→Prop,I b₀ L s (Q' .next)→wpAny M A (exec st env) (fun f s'=>match f with | .next=>wpAny M A (exec st2 env) (Done Q') E s' | f=>Done Q' f s') E s) (h2:I b₀ L s fun s'=>wpAny M A (execs rest env) Q E s'):wpAny M A (execs (st::st2::rest) env) Q E s :=
 wpAny_execs_cons (wpAny_mono (h1 (fun f s'=>match f with | .next=>wpAny M A (execs rest env) Q E s' | f=>Q f s') h2) (fun f s' h=>by
  cases f with
  | next=>exact wpAny_execs_cons h
  | _=>exact h) fun _ _ h=>h)
theorem law_holds:PySem.Challenge.rw_pq0548_01.Holds:=by
 w_on
 refine holds_law said_ fun said=>?_
 refine holds_open (q:=VW) (loose:=[]) (Xt:=XT) (XP:=XL VW []) (Yf:=Hook.obs (kmHook KF KA (fun _=>by kernel_rfl) [275,561])) (Ya:=Hook.val (kmHook KF KA (fun _=>by kernel_rfl) [275,561])) (YP:=Hook.says (kmHook KF KA (fun _=>by kernel_rfl) [275,561])) (N:=7280) h_left (Hook.of (kmHook KF KA (fun _=>by kernel_rfl) [275,561])) (Hook.keeps (kmHook KF KA (fun _=>by kernel_rfl) [275,561])) (fun s e=>xl_of s (Bool.and_eq_true_iff.mp e).1) XL.keeps (by rfl) (by rfl) (by rfl) (fun s e=>recFacts_of (Bool.and_eq_true_iff.mp e).2) rfl said ok_ bare_ ?hw ?hc
 case hw=>w_witness2
 case hc =>
  clear said
  k_go0
  all_goals try k_fold
  refine top_cut (by k_asm) (fun QT hT=>?_) (fun h' tk m' ps qs F' N'=>?_)
  rotate_left
  ·k_steps
  refine cutF (by k_asm) I1 (fun Q' hI=>?_) ?_
  ·k_steps
   unfold Done
   apply hI
   case F=>k_asm
   case T=>exact slot1 (by k_asm) (by k_mem) (by k_ne)
   case N=>exact News.sub (by k_asm) (by repeat (first | exact subNil | (refine subCons (by k_mem) ?_)))
   case I=>assumption
   case hl=>simp
   case hlt=>exact ⟨by lia,by lia⟩
   case dw=>assumption
   case dm=>assumption
   case de=>assumption
  intro h' tk m0 D c9 items n vals o9 ow om oe xw xm xe F' T' N' I' hl hlt dw dm de
  refine cutF F' I2 (fun Q' hI=>?_) ?_
  ·k_steps
   unfold Done
   apply hI
   case F=>k_asm
   case T=>assumption
   case N=>exact News.sub (by k_asm) (by repeat (first | exact subNil | (refine subCons (by k_mem) ?_)))
   case I=>assumption
   case hl=>assumption
   case hlt=>assumption
   case dw=>assumption
   case dm=>assumption
   case de=>assumption
   case hb=>first | exact hb2 _ _ _ _ | (simp only [fmE6,fmE3598,fmE249,fmE9];lia)
  clear F' T' N' I' hl hlt dw dm de
  intro h' tk m0 D c9 items n vals o9 ow om oe xe w number odd most tw tn to tm F' T' N' I' hl hlt dw dm de hb
  refine cutF F' I3 (fun Q' hI=>?_) ?_
  ·k_steps
   unfold Done
   apply hI
   case F=>exact fr_n (by k_asm)
   case T=>assumption
   case N=>exact News.sub (by k_asm) (by repeat (first | exact subNil | (refine subCons (by k_mem) ?_)))
   case I=>assumption
   case hl=>assumption
   case hlt=>first | assumption | lia
   case dw=>assumption
   case dm=>assumption
   case de=>assumption
   case hb=>first | exact hb | exact ⟨hb.1,hb.2.2.1,hb.2.2.2⟩ | exact ⟨hb.1,hb.2.2⟩ | exact hb.1 | lia
   case ap=>exact ⟨Aft.ne (by assumption) _ (by k_mem),Aft.ne (by assumption) _ (by k_mem),Aft.ne (by assumption) _ (by k_mem),Aft.ne (by assumption) _ (by k_mem),Aft.ne (by assumption) _ (by k_mem)⟩
  clear F' T' N' I' hl hlt dw dm de hb
  intro h' tk m0 D c9 items n vals ps o9 ow om oe xe w odd most tw to tm F' T' N' I' hl ap hlt dw dm de hb
  refine cutF F' I3 (fun Q' hI=>?_) ?_
  ·k_steps
   unfold Done
   apply hI
   case F=>k_asm
   case T=>assumption
   case N=>exact News.sub (by k_asm) (by repeat (first | exact subNil | (refine subCons (by k_mem) ?_)))
   case I=>assumption
   case hl=>assumption
   case hlt=>first | assumption | lia
   case dw=>assumption
   case dm=>assumption
   case de=>assumption
   case hb=>first | exact hb | exact ⟨hb.1,hb.2.2.1,hb.2.2.2⟩ | exact ⟨hb.1,hb.2.2⟩ | exact hb.1 | lia
   case ap=>exact ⟨Aft.ne (by assumption) _ (by k_mem),Aft.ne (by assumption) _ (by k_mem),Aft.ne (by assumption) _ (by k_mem),Aft.ne (by assumption) _ (by k_mem),Aft.ne (by assumption) _ (by k_mem)⟩
  clear F' T' N' I' hl ap hlt dw dm de hb
  intro h' tk m0 D c9 items n vals ps o9 ow om oe xe w odd most tw to tm F' T' N' I' hl ap hlt dw dm de hb
  refine cutF F' I3 (fun Q' hI=>?_) ?_
  ·k_steps
   unfold Done
   apply hI
   case F=>k_asm
   case T=>assumption
   case N=>exact News.sub (by k_asm) (by repeat (first | exact subNil | (refine subCons (by k_mem) ?_)))
   case I=>assumption
   case hl=>assumption
   case hlt=>first | assumption | lia
   case dw=>assumption
   case dm=>assumption
   case de=>assumption
   case hb=>first | exact hb | exact ⟨hb.1,hb.2.2.1,hb.2.2.2⟩ | exact ⟨hb.1,hb.2.2⟩ | exact hb.1 | lia
   case ap=>exact ⟨Aft.ne (by assumption) _ (by k_mem),Aft.ne (by assumption) _ (by k_mem),Aft.ne (by assumption) _ (by k_mem),Aft.ne (by assumption) _ (by k_mem),Aft.ne (by assumption) _ (by k_mem)⟩
  clear F' T' N' I' hl ap hlt dw dm de hb
  intro h' tk m0 D c9 items n vals ps o9 ow om oe xe w odd most tw to tm F' T' N' I' hl ap hlt dw dm de hb
  refine cutF2 F' I7 (fun Q' hI=>?_) ?_
  ·k_steps
   unfold Done
   apply hI
   case F=>exact fr_h (by k_asm)
   case T=>assumption
   case N=>exact News.sub (by k_asm) (by repeat (first | exact subNil | (refine subCons (by k_mem) ?_)))
   case I=>assumption
   case hl=>assumption
   case hlt=>first | assumption | lia
   case dw=>assumption
   case dm=>assumption
   case de=>assumption
   case hb=>first | exact hb | exact ⟨hb.1,hb.2.2.1,hb.2.2.2⟩ | exact ⟨hb.1,hb.2.2⟩ | exact hb.1 | lia
   case ap=>exact ⟨Aft.ne (by assumption) _ (by k_mem),Aft.ne (by assumption) _ (by k_mem),Aft.ne (by assumption) _ (by k_mem),Aft.ne (by assumption) _ (by k_mem),Aft.ne (by assumption) _ (by k_mem)⟩
  clear F' T' N' I' hl ap hlt dw dm de hb
  intro h' tk m0 D c9 items n vals ps o9 ow om oe xe w most tw tm F' T' N' I' hl ap hlt dw dm de hb
  refine cutF F' I8 (fun Q' hI=>?_) ?_
  ·k_steps
   unfold Done
   apply hI
   case F=>k_asm
   case T=>assumption
   case N=>exact News.sub (by k_asm) (by repeat (first | exact subNil | (refine subCons (by k_mem) ?_)))
   case dw=>assumption
   case d1=>assumption
   case d2=>assumption
   case hb=>first | exact hb | exact ⟨hb.1,hb.2.2.1,hb.2.2.2⟩ | exact ⟨hb.1,hb.2.2⟩ | exact hb.1 | lia
   case I=>assumption
   case hl=>assumption
   case hlt=>first | assumption | lia
   case ac=>refine ⟨?_,?_,?_,?_⟩ <;> first | k_ne | lia
   case ap=>exact ⟨Aft.ne (by assumption) _ (by k_mem),Aft.ne (by assumption) _ (by k_mem),Aft.ne (by assumption) _ (by k_mem),Aft.ne (by assumption) _ (by k_mem)⟩
  clear F' T' N' I' hl ap hlt dw dm de hb
  intro h' tk m0 D c9 cc items n vals ps vs o9 ow oc w tw tc F' T' N' I' hl ap ac hlt dw d1 d2 hb
  refine cutF2 F' I10 (fun Q' hI=>?_) ?_
  ·k_steps
   unfold Done
   apply hI
   case F=>k_asm
   case T=>assumption
   case N=>exact News.sub (by k_asm) (by repeat (first | exact subNil | (refine subCons (by k_mem) ?_)))
   case dw=>assumption
   case d1=>assumption
   case d2=>assumption
   case hb=>first | exact hb | exact ⟨hb.1,hb.2.2.1,hb.2.2.2⟩ | exact ⟨hb.1,hb.2.2⟩ | exact hb.1 | lia
   case ac=>refine ⟨?_,?_,?_⟩ <;> first | k_ne | lia
   case ap=>exact ⟨ap.2.1,ap.2.2.1,ap.2.2.2⟩
   case hp=>first | exact hp | lia
   case hq=>first | exact hq | lia
   case hx=>first | exact hx | exact ⟨hz1,hz2⟩ | lia
  clear F' T' N' I' hl ap ac hlt dw d1 d2 hb
  intro h' tk m0 c9 cc ps vs o9 ow oc w p x tw tc tp tx F' T' N' ap ac dw d1 d2 hb hp hq hx
  refine cutF F' I11 (fun Q' hI=>?_) ?_
  ·k_steps
   unfold Done
   apply hI
   case F=>k_asm
   case T=>assumption
   case N=>exact News.sub (by k_asm) (by repeat (first | exact subNil | (refine subCons (by k_mem) ?_)))
   case dw=>assumption
   case d1=>assumption
   case d2=>assumption
   case hb=>first | exact hb | exact ⟨hb.1,hb.2.2.1,hb.2.2.2⟩ | exact ⟨hb.1,hb.2.2⟩ | exact hb.1 | lia
   case ac=>refine ⟨?_,?_,?_⟩ <;> first | k_ne | lia
   case ap=>refine ⟨?_,?_,?_,?_⟩ <;> first | assumption | exact Aft.ne (by assumption) _ (by k_mem) | lia
   case ab=>assumption
   case I=>assumption
   case hl=>assumption
   case hp=>first | exact hp | lia
   case hq=>first | exact hq | lia
   case hx=>first | exact hx | exact ⟨hz1,hz2⟩ | lia
   case k1=>assumption
   case k3=>assumption
   case k4=>assumption
  clear F' T' N' ap ac dw d1 d2 hb hp hq hx
  intro h' tk m0 b c9 cc items n k q' ps vs o9 ow oc w p x tw tc tp tx tk' F' T' N' I' hl ap ac ab dw d1 d2 hb hp hq hx k1 k3 k4
  refine cutF F' I12 (fun Q' hI=>?_) ?_
  ·k_steps
   unfold Done
   apply hI
   case F=>exact fr_p (by k_asm)
   case T=>assumption
   case N=>exact News.sub (by k_asm) (by repeat (first | exact subNil | (refine subCons (by k_mem) ?_)))
   case dw=>assumption
   case d1=>assumption
   case d2=>assumption
   case hb=>first | exact hb | exact ⟨hb.1,hb.2.2.1,hb.2.2.2⟩ | exact ⟨hb.1,hb.2.2⟩ | exact hb.1 | lia
   case ac=>refine ⟨?_,?_,?_⟩ <;> first | k_ne | lia
   case ap=>exact ⟨Aft.ne (by assumption) _ (by k_mem),Aft.ne (by assumption) _ (by k_mem),Aft.ne (by assumption) _ (by k_mem)⟩
   case hp=>first | exact hp | lia
   case hq=>first | exact hq | lia
  clear F' T' N' I' hl ap ac ab dw d1 d2 hb hp hq hx k1 k3 k4
  intro h' tk m0 c9 cc ps vs o9 ow oc w p tw tc tp F' T' N' ap ac dw d1 d2 hb hp hq
  k_steps
  exact hT _ _ _ _ _ (by k_asm) (News.sub (by k_asm) (by repeat (first | exact subNil | (refine subCons (by k_mem) ?_))))
end
end Mine
theorem PySem.Challenge.cw_pq0548_01_holds : PySem.Challenge.rw_pq0548_01.Holds :=
  Mine.law_holds
