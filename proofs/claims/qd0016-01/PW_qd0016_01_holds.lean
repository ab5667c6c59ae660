import PyProof.Rows.All
import PyProof.PlainList
import PyProof.MeetsSeq
import PyProof.DictTable
import PyProof.ListIndexNeg
import PyProof.ListRange
import PyProof.LongRange
import PyProof.WalkInts
import PyProof.Rows.TupAssign
import PyProof.Rows.RuleIs2
import PyProof.SeqI3
import PyProof.Rows.EqDataRows
import PyProof.RulesAssignMore
import PyProof.Rows.SumAny
import Open.Line
import OpenK.KWalk
import OpenK.KMeth
import Open.Boot
import Open.FastT9
import KE.KSlice
import KE.KRevIter
import KE.KSortTup
import KE.KSuper
import PySem.Challenge.RW_qd0016_01
set_option autoImplicit false
set_option linter.all false
set_option linter.constructorNameAsVariable false
set_option linter.unusedVariables false
set_option Elab.async false
set_option tactic.hygienic false
set_option bootstrap.genMatcherCode false
set_option genSizeOf false
set_option genInjectivity false
set_option genCtorIdx false
set_option maxRecDepth 100000
namespace Internal
theorem byc {p:Prop} (h:¬p→False):p:=Classical.byContradiction h
open PySem PySem.W PyProof.Rows PySem.Challenge
noncomputable def keepIx:List Nat:=[0,2,3,5,6,7,8,9,10,11,12,13,14,15,16,17,18,19,20,21,22,23,25,26,28,30,31,32,33,34,35,36,37,38,39,40,41,42,43]
noncomputable def qV:Program:=view pw_qd0016_01 keepIx
set_option maxHeartbeats 0 in
theorem hSeen (w:World) (os:OsState):(topFrom treeTable pw_qd0016_01 w 6220 ⟨boot_heap w.params,Array.mk [],boot_drawn,boot_toks,os⟩).map (fun s=>openSeen qV [Str.ofString "has_domains"] (importedModules pw_qd0016_01.main.body) (fun s=>xlAt qV [] s&&recOk [] s) true s)=some (openGood qV [Str.ofString "has_domains"]):=by
 unfold topFrom
 rw [PySem.W.Fast.te14082659384304107361,PySem.W.Fast.te14364793385576792824,PySem.W.Fast.te4187177175401517315,PySem.W.Fast.te5923862056798008813]
 kernel_rfl
end Internal
namespace Internal
inductive LTm
 | v (i:Nat) | k (n:Nat) | a (x y:LTm) | s (x y:LTm) | m (n:Nat) (x:LTm) | r (n:Nat) (x:LTm) | g (x:LTm) | c (x:LTm)
inductive LFo
 | at (r:Nat) (i:Bool) (x y:LTm) | no (f:LFo) | an (f g:LFo) | o (f g:LFo) | ff
noncomputable def lnth {α:Type} (d:α) (l:List α):Nat→α:=l.rec (fun uu=>d) fun a uu f i=>i.rec a fun j uu=>f j
noncomputable def lvN (n:List Nat):LTm→Nat
 | .v i=>lnth 0 n i
 | .k j=>j
 | .a x y=>lvN n x+lvN n y
 | .m k x=>k * lvN n x
 | .r k x=>lvN n x * k
 | _=>0
noncomputable def lvI (n:List Nat) (z:List Int):LTm→Int
 | .v i=>lnth 0 z i
 | .k j=>OfNat.ofNat j
 | .a x y=>lvI n z x+lvI n z y
 | .s x y=>lvI n z x - lvI n z y
 | .m k x=>OfNat.ofNat k * lvI n z x
 | .r k x=>lvI n z x * OfNat.ofNat k
 | .g x => - lvI n z x
 | .c x=>(lvN n x:Int)
noncomputable def lrel {α:Type} (le lt:α→α→Prop) (x y:α):Nat→Prop
 | 0=>le x y
 | 1=>lt x y
 | _=>x=y
noncomputable def lvF (n:List Nat) (z:List Int):LFo→Prop
 | .at r true x y=>lrel (· ≤ ·) (· < ·) (lvI n z x) (lvI n z y) r
 | .at r false x y=>lrel (· ≤ ·) (· < ·) (lvN n x) (lvN n y) r
 | .no f=>¬ lvF n z f
 | .an f g=>lvF n z f∧lvF n z g
 | .o f g=>lvF n z f∨lvF n z g
 | .ff=>False
noncomputable def ldot {α:Type} (c:α→Int):List Int→List α→Int
 | a::f,b::l=>a * c b+ldot c f l
 | _,_=>0
noncomputable def ladd:List Int→List Int→List Int
 | [],l=>l
 | a::f,[]=>a::f
 | a::f,b::l=>(a+b)::ladd f l
noncomputable def lmul (k:Int) (f:List Int):List Int:=f.map (k * ·)
noncomputable def lone (i:Nat):List Int:=i.rec [1] fun uu l=>0::l
noncomputable abbrev LLn:=List Int×List Int
noncomputable def LLn.ev (n:List Nat) (z:List Int) (p:LLn):Int:=ldot Int.ofNat p.1 n+ldot id p.2 (1::z)
noncomputable def LLn.add (p q:LLn):LLn:=(ladd p.1 q.1,ladd p.2 q.2)
noncomputable def LLn.mul (k:Int) (p:LLn):LLn:=(lmul k p.1,lmul k p.2)
theorem ldot_nil {α:Type} (c:α→Int):∀ f,ldot c f []=0
 | []=>rfl
 | _::_=>rfl
theorem ldot_add {α:Type} (c:α→Int):∀ (f g:List Int) (l:List α),ldot c (ladd f g) l=ldot c f l+ldot c g l
 | [],g,l=>(Int.zero_add _).symm
 | a::f,[],l=>(Int.add_zero _).symm
 | a::f,b::g,[]=>rfl
 | a::f,b::g,x::l=>by
  show (a+b) * c x+ldot c (ladd f g) l=(a * c x+ldot c f l)+(b * c x+ldot c g l)
  rw [ldot_add c f g l,Int.add_mul,Int.add_assoc,Int.add_assoc,Int.add_left_comm (b * c x)]
theorem ldot_mul {α:Type} (c:α→Int) (k:Int):∀ (f:List Int) (l:List α),ldot c (lmul k f) l=k * ldot c f l
 | [],l=>(Int.mul_zero k).symm
 | a::f,[]=>(Int.mul_zero k).symm
 | a::f,x::l=>by
  show k * a * c x+ldot c (lmul k f) l=k * (a * c x+ldot c f l)
  rw [ldot_mul c k f l,Int.mul_add,Int.mul_assoc]
theorem ldot_one {α:Type} (c:α→Int) (d:α) (hd:c d=0):∀ (i:Nat) (l:List α),ldot c (lone i) l=c (lnth d l i)
 | i,[]=>(ldot_nil c _).trans hd.symm
 | 0,x::l=>by show 1 * c x+0=c x; rw [Int.one_mul,Int.add_zero]
 | i+1,x::l=>by show 0 * c x+ldot c (lone i) l=_; rw [ldot_one c d hd i l,Int.zero_mul,Int.zero_add]; rfl
section
variable (n:List Nat) (z:List Int)
theorem lev_add (p q:LLn):(p.add q).ev n z=p.ev n z+q.ev n z:=by
 show ldot Int.ofNat (ladd p.1 q.1) n+ldot id (ladd p.2 q.2) (1::z)=(ldot Int.ofNat p.1 n+ldot id p.2 (1::z))+(ldot Int.ofNat q.1 n+ldot id q.2 (1::z))
 rw [ldot_add,ldot_add,Int.add_assoc,Int.add_assoc,Int.add_left_comm (ldot Int.ofNat q.1 n)]
theorem lev_mul (k:Int) (p:LLn):(p.mul k).ev n z=k * p.ev n z:=by
 show ldot Int.ofNat (lmul k p.1) n+ldot id (lmul k p.2) (1::z)=k * (ldot Int.ofNat p.1 n+ldot id p.2 (1::z))
 rw [ldot_mul,ldot_mul,Int.mul_add]
theorem lev_con (k:Int):LLn.ev n z ([],[k])=k:=by show 0+(k * 1+0)=k; rw [Int.mul_one,Int.add_zero,Int.zero_add]
noncomputable def LLn.sub (p q:LLn):LLn:=p.add (q.mul (-1))
theorem lev_sub (p q:LLn):(p.sub q).ev n z=p.ev n z - q.ev n z:=by
 rw [LLn.sub,lev_add,lev_mul,Int.neg_one_mul]; rfl
noncomputable def lfN:LTm→LLn
 | .v i=>(lone i,[])
 | .k j=>([],[.ofNat j])
 | .a x y=>(lfN x).add (lfN y)
 | .m k x=>(lfN x).mul (.ofNat k)
 | .r k x=>(lfN x).mul (.ofNat k)
 | _=>([],[])
noncomputable def lfI:LTm→LLn
 | .v i=>([],0::lone i)
 | .k j=>([],[.ofNat j])
 | .a x y=>(lfI x).add (lfI y)
 | .s x y=>(lfI x).sub (lfI y)
 | .m k x=>(lfI x).mul (.ofNat k)
 | .r k x=>(lfI x).mul (.ofNat k)
 | .g x=>(lfI x).mul (-1)
 | .c x=>lfN x
theorem lfN_ev (t:LTm):(lfN t).ev n z=(lvN n t:Nat):=by
 induction t with
 | v i=>show ldot Int.ofNat (lone i) n+0=_; rw [Int.add_zero,ldot_one _ 0 rfl]; rfl
 | k j=>exact lev_con n z _
 | a x y p q=>show ((lfN x).add (lfN y)).ev n z=_; rw [lev_add,p,q]; rfl
 | m k x p=>show ((lfN x).mul _).ev n z=_; rw [lev_mul,p]; rfl
 | r k x p=>show ((lfN x).mul _).ev n z=((lvN n x * k:Nat):Int); rw [lev_mul,p,Int.mul_comm]; rfl
 | _=>rfl
theorem lfI_ev (t:LTm):(lfI t).ev n z=lvI n z t:=by
 induction t with
 | v i=>show 0+(0 * 1+ldot id (lone i) z)=_; rw [Int.zero_mul,Int.zero_add,Int.zero_add,ldot_one _ 0 rfl]; rfl
 | k j=>exact lev_con n z _
 | a x y p q=>show ((lfI x).add (lfI y)).ev n z=_; rw [lev_add,p,q]; rfl
 | s x y p q=>show ((lfI x).sub (lfI y)).ev n z=_; rw [lev_sub,p,q]; rfl
 | m k x p=>show ((lfI x).mul _).ev n z=_; rw [lev_mul,p]; rfl
 | r k x p=>show ((lfI x).mul _).ev n z=lvI n z x * _; rw [lev_mul,p,Int.mul_comm]; rfl
 | g x p=>show ((lfI x).mul _).ev n z = - lvI n z x; rw [lev_mul,p,Int.neg_one_mul]
 | c x=>exact lfN_ev n z x
noncomputable def lfar:List LLn→List Nat→LLn
 | p::l,k::r=>(p.mul (.ofNat k)).add (lfar l r)
 | _,_=>([],[])
noncomputable def lnng:List Int→Bool
 | []=>true
 | .ofNat _::l=>lnng l
 | _=>false
noncomputable def lzer:List Int→Bool
 | []=>true
 | .ofNat 0::l=>lzer l
 | _=>false
noncomputable def lbad:LLn→Bool
 | (f,.ofNat (_+1)::g)=>lnng f&&lzer g
 | _=>false
theorem lfar_ev:∀ (l:List LLn) (r:List Nat),(∀ p∈l,p.ev n z≤0)→(lfar l r).ev n z≤0
 | [],r,h=>Int.le_refl 0
 | _::_,[],h=>Int.le_refl 0
 | p::l,k::r,h=>by
  show ((p.mul (.ofNat k)).add (lfar l r)).ev n z≤0
  rw [lev_add,lev_mul]
  exact Int.add_nonpos (Int.mul_nonpos_of_nonneg_of_nonpos (Int.natCast_nonneg k) (h p List.mem_cons_self)) (lfar_ev l r fun q hq=>h q (List.mem_cons_of_mem _ hq))
theorem lnng_ev:∀ (f:List Int) (n:List Nat),lnng f=true→0≤ldot Int.ofNat f n
 | [],n,h=>Int.le_refl 0
 | .ofNat a::f,[],h=>Int.le_refl 0
 | .ofNat a::f,x::n,h=>Int.add_nonneg (Int.mul_nonneg (Int.natCast_nonneg a) (Int.natCast_nonneg x)) (lnng_ev f n h)
theorem lzer_ev:∀ (f z:List Int),lzer f=true→ldot id f z=0
 | [],z,h=>rfl
 | .ofNat 0::f,[],h=>rfl
 | .ofNat 0::f,x::z,h=>by show 0 * x+ldot id f z=0; rw [Int.zero_mul,Int.zero_add]; exact lzer_ev f z h
theorem lbad_ev:∀ {p:LLn},lbad p=true→p.ev n z≤0→False
 | (f,.ofNat (c+1)::g),h,q=>by
  have h':(lnng f&&lzer g)=true:=h
  rw [Bool.and_eq_true] at h'
  have q':ldot Int.ofNat f n+(Int.ofNat (c+1) * 1+ldot id g z)≤0:=q
  rw [lzer_ev g z h'.2,Int.add_zero,Int.mul_one] at q'
  exact absurd (Int.lt_of_lt_of_le (Int.add_pos_of_nonneg_of_pos (lnng_ev f n h'.1) (Int.natCast_pos.2 (Nat.succ_pos c))) q') (Int.lt_irrefl 0)
noncomputable def LSem (D:List (List LLn)):Prop:=∃ c∈D,∀ p∈c,LLn.ev n z p≤0
noncomputable def lprod (A B:List (List LLn)):List (List LLn):=A.flatMap fun a=>B.map (a++·)
theorem lprod_ok {A B:List (List LLn)}:LSem n z A→LSem n z B→LSem n z (lprod A B)
 | ⟨a,ha,pa⟩,⟨b,hb,pb⟩=>⟨a++b,List.mem_flatMap.2 ⟨a,ha,List.mem_map.2 ⟨b,hb,rfl⟩⟩,fun p hp=>(List.mem_append.1 hp).elim (pa p) (pb p)⟩
theorem lsem_l {A B:List (List LLn)}:LSem n z A→LSem n z (A++B)
 | ⟨a,ha,pa⟩=>⟨a,List.mem_append_left _ ha,pa⟩
theorem lsem_r {A B:List (List LLn)}:LSem n z B→LSem n z (A++B)
 | ⟨a,ha,pa⟩=>⟨a,List.mem_append_right _ ha,pa⟩
noncomputable def lst1 (p q:LLn):LLn:=(p.sub q).add ([],[1])
noncomputable def latm (p q:LLn):Nat→Bool→List (List LLn)
 | 0,true=>[[p.sub q]]
 | 0,false=>[[lst1 q p]]
 | 1,true=>[[lst1 p q]]
 | 1,false=>[[q.sub p]]
 | _,true=>[[p.sub q,q.sub p]]
 | _,false=>[[lst1 p q],[lst1 q p]]
theorem lone_ok {p:LLn} (h:p.ev n z≤0):∀ q∈[p],LLn.ev n z q≤0:=fun q hq=>by cases hq with | head=>exact h | tail _ k=>cases k
theorem lsub_ok {p q:LLn} (h:p.ev n z≤q.ev n z):(p.sub q).ev n z≤0:=by rw [lev_sub]; exact Int.sub_nonpos_of_le h
theorem lst1_ok {p q:LLn} (h:p.ev n z < q.ev n z):(lst1 p q).ev n z≤0:=by rw [lst1,lev_add,lev_sub,lev_con]; exact Int.sub_neg_of_lt h
theorem latm_ok (p q:LLn):∀ (r:Nat),(lrel (· ≤ ·) (· < ·) (p.ev n z) (q.ev n z) r→LSem n z (latm p q r true))∧((¬ lrel (· ≤ ·) (· < ·) (p.ev n z) (q.ev n z) r)→LSem n z (latm p q r false))
 | 0=>⟨fun h=>⟨_,.head _,lone_ok n z (lsub_ok n z h)⟩,fun h=>⟨_,.head _,lone_ok n z (lst1_ok n z (Int.not_le.1 h))⟩⟩
 | 1=>⟨fun h=>⟨_,.head _,lone_ok n z (lst1_ok n z h)⟩,fun h=>⟨_,.head _,lone_ok n z (lsub_ok n z (Int.not_lt.1 h))⟩⟩
 | _+2=>⟨fun h=>⟨_,.head _,fun a ha=>by
   cases ha with
   | head=>exact lsub_ok n z (Int.le_of_eq h)
   | tail _ k=>exact lone_ok n z (lsub_ok n z (Int.le_of_eq (Eq.symm h))) a k⟩,
  fun h=>(Int.lt_or_gt_of_ne h).elim (fun h=>⟨_,.head _,lone_ok n z (lst1_ok n z h)⟩) fun h=>⟨_,.tail _ (.head _),lone_ok n z (lst1_ok n z h)⟩⟩
theorem lrel_nat (x y:Nat):∀ r,lrel (· ≤ ·) (· < ·) x y r↔lrel (· ≤ ·) (· < ·) (x:Int) (y:Int) r
 | 0=>Int.ofNat_le.symm
 | 1=>Int.ofNat_lt.symm
 | _+2=>Int.ofNat_inj.symm
noncomputable def ldnf:LFo→Bool→List (List LLn)
 | .at r true x y,b=>latm (lfI x) (lfI y) r b
 | .at r false x y,b=>latm (lfN x) (lfN y) r b
 | .no f,b=>ldnf f !b
 | .an f g,true=>lprod (ldnf f true) (ldnf g true)
 | .an f g,false=>ldnf f false++ldnf g false
 | .o f g,true=>ldnf f true++ldnf g true
 | .o f g,false=>lprod (ldnf f false) (ldnf g false)
 | .ff,true=>[]
 | .ff,false=>[[]]
theorem ldnf_ok (f:LFo):(lvF n z f→LSem n z (ldnf f true))∧(¬ lvF n z f→LSem n z (ldnf f false)):=by
 induction f with
 | «at» r i x y=>
  cases i with
  | true=>have h:=latm_ok n z (lfI x) (lfI y) r; rw [lfI_ev,lfI_ev] at h; exact h
  | false=>have h:=latm_ok n z (lfN x) (lfN y) r; rw [lfN_ev,lfN_ev] at h; exact ⟨fun k=>h.1 ((lrel_nat _ _ r).1 k),fun k=>h.2 fun q=>k ((lrel_nat _ _ r).2 q)⟩
 | no f ih=>exact ⟨ih.2,fun h=>ih.1 (Classical.byContradiction h)⟩
 | an f g p q=>exact ⟨fun h=>lprod_ok n z (p.1 h.1) (q.1 h.2),fun h=>(Classical.em (lvF n z f)).elim (fun k=>lsem_r n z (q.2 fun l=>h ⟨k,l⟩)) fun k=>lsem_l n z (p.2 k)⟩
 | o f g p q=>exact ⟨fun h=>h.elim (fun h=>lsem_l n z (p.1 h)) fun h=>lsem_r n z (q.1 h),fun h=>lprod_ok n z (p.2 fun k=>h (.inl k)) (q.2 fun k=>h (.inr k))⟩
 | ff=>exact ⟨False.elim,fun uu=>⟨_,.head _,fun p hp=>by cases hp⟩⟩
noncomputable def lrun:List (List LLn)→List Nat→Bool
 | [],_=>true
 | c::D,r=>lbad (lfar c r)&&lrun D (r.drop c.length)
theorem lrun_ok:∀ (D:List (List LLn)) (r:List Nat),lrun D r=true→LSem n z D→False
 | c::D,r,h,⟨a,ha,pa⟩=>by
  have h':(lbad (lfar c r)&&lrun D (r.drop c.length))=true:=h
  rw [Bool.and_eq_true] at h'
  cases ha with
  | head=>exact lbad_ev n z h'.1 (lfar_ev n z c r pa)
  | tail _ k=>exact lrun_ok D _ h'.2 ⟨a,k,pa⟩
end
noncomputable def lpN:Nat→Nat→Nat×Nat
 | 0,k=>(0,k)
 | t+1,k=>(Nat.ble (k % 16) 7).rec (match lpN t (k / 16) with | (a,k')=>(k % 16 - 8+8 * a,k')) (k % 16,k / 16)
noncomputable def lp2 {α:Type} (f:LTm→LTm→α) (p:Nat→LTm×Nat) (k:Nat):α×Nat:=match p (k / 16) with | (x,k)=>match p k with | (y,k)=>(f x y,k)
noncomputable def lpT:Nat→Nat→LTm×Nat
 | 0,k=>(.k 0,k)
 | t+1,k=>match k % 16 with
  | 0=>lp2 .a (lpT t) k
  | 1=>lp2 .s (lpT t) k
  | 2=>match lpN 99 (k / 16) with | (i,k)=>match lpT t k with | (x,k)=>(.m i x,k)
  | 3=>match lpT t (k / 16) with | (x,k)=>(.g x,k)
  | 4=>match lpN 99 (k / 16) with | (x,k)=>(.k x,k)
  | 5=>(.k 1,k / 16)
  | 6=>(.k 0,k / 16)
  | 7=>match lpT t (k / 16) with | (x,k)=>(.c x,k)
  | 8=>match lpN 99 (k / 16) with | (x,k)=>(.v x,k)
  | 9=>match lpN 99 (k / 16) with | (i,k)=>match lpT t k with | (x,k)=>(.r i x,k)
  | i=>(.v (i - 10),k / 16)
noncomputable def lpF:Nat→Nat→LFo×Nat
 | 0,k=>(.ff,k)
 | t+1,k=>match k % 16 with
  | 0=>lp2 (.at 0 false) (lpT 99) k
  | 1=>lp2 (.at 1 false) (lpT 99) k
  | 2=>lp2 (.at 2 false) (lpT 99) k
  | 3=>lp2 (.at 0 true) (lpT 99) k
  | 4=>lp2 (.at 1 true) (lpT 99) k
  | 5=>lp2 (.at 2 true) (lpT 99) k
  | 6=>match lpF t (k / 16) with | (x,k)=>(.no x,k)
  | 7=>match lpF t (k / 16) with | (x,k)=>match lpF t k with | (y,k)=>(.an x y,k)
  | 8=>match lpF t (k / 16) with | (x,k)=>match lpF t k with | (y,k)=>(.o x y,k)
  | _=>(.ff,k / 16)
noncomputable def lpL:Nat→Nat→List LFo×Nat
 | 0,k=>([],k)
 | t+1,k=>match lpF 99 k with | (f,k)=>match lpL t k with | (l,k)=>(f::l,k)
noncomputable def lpR:Nat→Nat→List Nat
 | 0,_=>[]
 | t+1,k=>k.rec [] fun uu uu=>match lpN 99 k with | (a,k)=>a::lpR t k
noncomputable def limp (n:List Nat) (z:List Int) (g:LFo) (l:List LFo):Prop:=l.rec (lvF n z g) fun f uu P=>lvF n z f→P
noncomputable def lden (n:List Nat) (z:List Int) (k:Nat):Prop:=match lpL (k % 16) (k / 16) with | (l,k)=>limp n z (lpF 99 k).1 l
noncomputable def lpnd (g:LFo) (l:List LFo):List (List LLn):=l.rec (ldnf g false) fun f uu P=>lprod (ldnf f true) P
noncomputable def lchk (k:Nat):Bool:=match lpL (k % 16) (k / 16) with | (l,k)=>lrun (lpnd (lpF 99 k).1 l) (lpR 9999 (lpF 99 k).2)
theorem limp_ok (n:List Nat) (z:List Int) (g:LFo):∀ (l:List LFo),(LSem n z (lpnd g l)→False)→limp n z g l
 | [],h=>Classical.byContradiction fun q=>h ((ldnf_ok n z g).2 q)
 | f::l,h=>fun a=>limp_ok n z g l fun w=>h (lprod_ok n z ((ldnf_ok n z f).1 a) w)
theorem lin (n:List Nat) (z:List Int) (k:Nat) (h:lchk k=true):lden n z k:=
 limp_ok n z _ _ fun w=>lrun_ok n z _ _ h w
end Internal
namespace Internal
theorem lsub (a b:Nat):(a≤b∧a - b=0)∨a=a - b+b:=(Nat.le_total a b).imp (fun h=>⟨h,Nat.sub_eq_zero_of_le h⟩) fun h=>(Nat.sub_add_cancel h).symm
theorem labs (x:Int):(0≤x∧(x.natAbs:Int)=x)∨(x≤0∧(x.natAbs:Int)=-x):=(Int.le_total 0 x).imp (fun h=>⟨h,Int.natAbs_of_nonneg h⟩) fun h=>⟨h,Int.ofNat_natAbs_of_nonpos h⟩
theorem ltoN (x:Int):(0≤x∧(x.toNat:Int)=x)∨(x≤0∧x.toNat=0):=(Int.le_total 0 x).imp (fun h=>⟨h,Int.toNat_of_nonneg h⟩) fun h=>⟨h,Int.toNat_of_nonpos h⟩
theorem lmxI (a b:Int):(a≤b∧max a b=b)∨(b≤a∧max a b=a):=(Int.le_total a b).imp (fun h=>⟨h,Int.max_eq_right h⟩) fun h=>⟨h,Int.max_eq_left h⟩
theorem lmnI (a b:Int):(a≤b∧min a b=a)∨(b≤a∧min a b=b):=(Int.le_total a b).imp (fun h=>⟨h,Int.min_eq_left h⟩) fun h=>⟨h,Int.min_eq_right h⟩
theorem lmxN (a b:Nat):(a≤b∧max a b=b)∨(b≤a∧max a b=a):=(Nat.le_total a b).imp (fun h=>⟨h,Nat.max_eq_right h⟩) fun h=>⟨h,Nat.max_eq_left h⟩
theorem lmnN (a b:Nat):(a≤b∧min a b=a)∨(b≤a∧min a b=b):=(Nat.le_total a b).imp (fun h=>⟨h,Nat.min_eq_left h⟩) fun h=>⟨h,Nat.min_eq_right h⟩
theorem ldv2 (a:Nat):2 * (a / 2)≤a∧a < 2 * (a / 2)+2:=by omega
theorem l01 {u:Int} (k:Nat) (h_:lchk k=true):lden [] [u] k:=lin _ _ k h_
theorem l02 {u v:Int} (k:Nat) (h_:lchk k=true):lden [] [u,v] k:=lin _ _ k h_
theorem l03 {u v w:Int} (k:Nat) (h_:lchk k=true):lden [] [u,v,w] k:=lin _ _ k h_
theorem l04 {u v w x:Int} (k:Nat) (h_:lchk k=true):lden [] [u,v,w,x] k:=lin _ _ k h_
theorem l05 {u v w x y:Int} (k:Nat) (h_:lchk k=true):lden [] [u,v,w,x,y] k:=lin _ _ k h_
theorem l06 {u v w x y z:Int} (k:Nat) (h_:lchk k=true):lden [] [u,v,w,x,y,z] k:=lin _ _ k h_
theorem l07 {u v w x y z s:Int} (k:Nat) (h_:lchk k=true):lden [] [u,v,w,x,y,z,s] k:=lin _ _ k h_
theorem l10 {a:Nat} (k:Nat) (h_:lchk k=true):lden [a] [] k:=lin _ _ k h_
theorem l11 {a:Nat} {u:Int} (k:Nat) (h_:lchk k=true):lden [a] [u] k:=lin _ _ k h_
theorem l12 {a:Nat} {u v:Int} (k:Nat) (h_:lchk k=true):lden [a] [u,v] k:=lin _ _ k h_
theorem l14 {a:Nat} {u v w x:Int} (k:Nat) (h_:lchk k=true):lden [a] [u,v,w,x] k:=lin _ _ k h_
theorem l20 {a b:Nat} (k:Nat) (h_:lchk k=true):lden [a,b] [] k:=lin _ _ k h_
theorem l21 {a b:Nat} {u:Int} (k:Nat) (h_:lchk k=true):lden [a,b] [u] k:=lin _ _ k h_
theorem l22 {a b:Nat} {u v:Int} (k:Nat) (h_:lchk k=true):lden [a,b] [u,v] k:=lin _ _ k h_
theorem l23 {a b:Nat} {u v w:Int} (k:Nat) (h_:lchk k=true):lden [a,b] [u,v,w] k:=lin _ _ k h_
theorem l30 {a b c:Nat} (k:Nat) (h_:lchk k=true):lden [a,b,c] [] k:=lin _ _ k h_
theorem l31 {a b c:Nat} {u:Int} (k:Nat) (h_:lchk k=true):lden [a,b,c] [u] k:=lin _ _ k h_
theorem l32 {a b c:Nat} {u v:Int} (k:Nat) (h_:lchk k=true):lden [a,b,c] [u,v] k:=lin _ _ k h_
theorem l34 {a b c:Nat} {u v w x:Int} (k:Nat) (h_:lchk k=true):lden [a,b,c] [u,v,w,x] k:=lin _ _ k h_
theorem l40 {a b c d:Nat} (k:Nat) (h_:lchk k=true):lden [a,b,c,d] [] k:=lin _ _ k h_
theorem l50 {a b c d e:Nat} (k:Nat) (h_:lchk k=true):lden [a,b,c,d,e] [] k:=lin _ _ k h_
theorem l60 {a b c d e f:Nat} (k:Nat) (h_:lchk k=true):lden [a,b,c,d,e,f] [] k:=lin _ _ k h_
theorem l80 {a b c d e f g h:Nat} (k:Nat) (h_:lchk k=true):lden [a,b,c,d,e,f,g,h] [] k:=lin _ _ k h_
theorem l08 {u v w x y z s t:Int} (k:Nat) (h_:lchk k=true):lden [] [u,v,w,x,y,z,s,t] k:=lin _ _ k h_
end Internal
namespace Internal
open PySem
structure Nm where
 ix:Fin 131
 deriving DecidableEq
noncomputable def Nm.of (i:Nat) (h:Nat.blt i 131=true):Nm:=⟨⟨i,Nat.le_of_ble_eq_true h⟩⟩
namespace Nm
noncomputable def low:Nm:=.of 0 rfl
noncomputable def high:Nm:=.of 1 rfl
noncomputable def min:Nm:=.of 2 rfl
noncomputable def k:Nm:=.of 3 rfl
noncomputable def max:Nm:=.of 4 rfl
noncomputable def a:Nm:=.of 5 rfl
noncomputable def b:Nm:=.of 6 rfl
noncomputable def c:Nm:=.of 7 rfl
noncomputable def d:Nm:=.of 8 rfl
noncomputable def others:Nm:=.of 9 rfl
noncomputable def first:Nm:=.of 10 rfl
noncomputable def last:Nm:=.of 11 rfl
noncomputable def one:Nm:=.of 12 rfl
noncomputable def law_says:Nm:=.of 13 rfl
noncomputable def abs:Nm:=.of 14 rfl
noncomputable def v:Nm:=.of 15 rfl
noncomputable def x:Nm:=.of 16 rfl
noncomputable def y:Nm:=.of 17 rfl
noncomputable def list:Nm:=.of 18 rfl
noncomputable def desk:Nm:=.of 19 rfl
noncomputable def law_cut:Nm:=.of 20 rfl
noncomputable def lots:Nm:=.of 21 rfl
noncomputable def lap:Nm:=.of 22 rfl
noncomputable def law_draw:Nm:=.of 23 rfl
noncomputable def many:Nm:=.of 24 rfl
noncomputable def tub:Nm:=.of 25 rfl
noncomputable def self:Nm:=.of 26 rfl
noncomputable def what:Nm:=.of 27 rfl
noncomputable def «class» : Nm:=.of 28 rfl
noncomputable def super:Nm:=.of 29 rfl
noncomputable def found:Nm:=.of 30 rfl
noncomputable def len:Nm:=.of 31 rfl
noncomputable def sum:Nm:=.of 32 rfl
noncomputable def next_from:Nm:=.of 33 rfl
noncomputable def MOST_LISTED:Nm:=.of 34 rfl
noncomputable def size:Nm:=.of 35 rfl
noncomputable def LimitFault:Nm:=.of 36 rfl
noncomputable def range:Nm:=.of 37 rfl
noncomputable def tuple:Nm:=.of 38 rfl
noncomputable def up_to:Nm:=.of 39 rfl
noncomputable def from_on:Nm:=.of 40 rfl
noncomputable def e:Nm:=.of 41 rfl
noncomputable def i:Nm:=.of 42 rfl
noncomputable def j:Nm:=.of 43 rfl
noncomputable def sorted:Nm:=.of 44 rfl
noncomputable def put_behind:Nm:=.of 45 rfl
noncomputable def begin:Nm:=.of 46 rfl
noncomputable def left:Nm:=.of 47 rfl
noncomputable def right:Nm:=.of 48 rfl
noncomputable def reversed:Nm:=.of 49 rfl
noncomputable def literal:Nm:=.of 50 rfl
noncomputable def sign:Nm:=.of 51 rfl
noncomputable def meet:Nm:=.of 52 rfl
noncomputable def without:Nm:=.of 53 rfl
noncomputable def kept:Nm:=.of 54 rfl
noncomputable def struck:Nm:=.of 55 rfl
noncomputable def domain:Nm:=.of 56 rfl
noncomputable def wall:Nm:=.of 57 rfl
noncomputable def least:Nm:=.of 58 rfl
noncomputable def greatest:Nm:=.of 59 rfl
noncomputable def has_domains:Nm:=.of 60 rfl
noncomputable def said_of:Nm:=.of 61 rfl
noncomputable def reasons:Nm:=.of 62 rfl
noncomputable def speaker:Nm:=.of 63 rfl
noncomputable def old:Nm:=.of 64 rfl
noncomputable def fresh:Nm:=.of 65 rfl
noncomputable def negation:Nm:=.of 66 rfl
noncomputable def n:Nm:=.of 67 rfl
noncomputable def mark:Nm:=.of 68 rfl
noncomputable def entry:Nm:=.of 69 rfl
noncomputable def scope:Nm:=.of 70 rfl
noncomputable def strength:Nm:=.of 71 rfl
noncomputable def store:Nm:=.of 72 rfl
noncomputable def values:Nm:=.of 73 rfl
noncomputable def z:Nm:=.of 74 rfl
noncomputable def minus:Nm:=.of 75 rfl
noncomputable def join:Nm:=.of 76 rfl
noncomputable def negated:Nm:=.of 77 rfl
noncomputable def some:Nm:=.of 78 rfl
noncomputable def at_:Nm:=.of 79 rfl
noncomputable def ranges:Nm:=.of 80 rfl
noncomputable def law_common:Nm:=.of 81 rfl
noncomputable def law_far:Nm:=.of 82 rfl
noncomputable def late:Nm:=.of 83 rfl
noncomputable def law_merged:Nm:=.of 84 rfl
noncomputable def law_mirrored:Nm:=.of 85 rfl
noncomputable def rule:Nm:=.of 86 rfl
noncomputable def due:Nm:=.of 87 rfl
noncomputable def stands:Nm:=.of 88 rfl
noncomputable def turned:Nm:=.of 89 rfl
noncomputable def law_lots:Nm:=.of 90 rfl
noncomputable def law_due:Nm:=.of 91 rfl
noncomputable def law_cannot:Nm:=.of 92 rfl
noncomputable def xs:Nm:=.of 93 rfl
noncomputable def zs:Nm:=.of 94 rfl
noncomputable def kind:Nm:=.of 95 rfl
noncomputable def way:Nm:=.of 96 rfl
noncomputable def beyond:Nm:=.of 97 rfl
noncomputable def side:Nm:=.of 98 rfl
noncomputable def pair:Nm:=.of 99 rfl
noncomputable def script:Nm:=.of 100 rfl
noncomputable def built:Nm:=.of 101 rfl
noncomputable def is_small:Nm:=.of 102 rfl
noncomputable def turn:Nm:=.of 103 rfl
noncomputable def Store:Nm:=.of 104 rfl
noncomputable def law_few:Nm:=.of 105 rfl
noncomputable def law_wide:Nm:=.of 106 rfl
noncomputable def Absolute:Nm:=.of 107 rfl
noncomputable def law_run:Nm:=.of 108 rfl
noncomputable def append:Nm:=.of 109 rfl
noncomputable def extend:Nm:=.of 110 rfl
noncomputable def clash:Nm:=.of 111 rfl
noncomputable def is_failed:Nm:=.of 112 rfl
noncomputable def news:Nm:=.of 113 rfl
noncomputable def marks:Nm:=.of 114 rfl
noncomputable def trail:Nm:=.of 115 rfl
noncomputable def firsts:Nm:=.of 116 rfl
noncomputable def domains:Nm:=.of 117 rfl
noncomputable def init:Nm:=.of 118 rfl
noncomputable def fail:Nm:=.of 119 rfl
noncomputable def new_var:Nm:=.of 120 rfl
noncomputable def dom:Nm:=.of 121 rfl
noncomputable def enter:Nm:=.of 122 rfl
noncomputable def strike:Nm:=.of 123 rfl
noncomputable def decide:Nm:=.of 124 rfl
noncomputable def push:Nm:=.of 125 rfl
noncomputable def pop:Nm:=.of 126 rfl
noncomputable def depth:Nm:=.of 127 rfl
noncomputable def number:Nm:=.of 128 rfl
noncomputable def propagate:Nm:=.of 129 rfl
noncomputable def law:Nm:=.of 130 rfl
end Nm
noncomputable def nmTab:List String:=["low","high","min","k","max","a","b","c","d","others","first","last","one","_law_says","abs","v","x","y","list","desk","_law_cut","lots","lap","_law_draw","many","tub","self","what","__class__","super","found","len","sum","next_from","MOST_LISTED","size","LimitFault","range","tuple","up_to","from_on","e","i","j","sorted","put_behind","begin","left","right","reversed","literal","sign","meet","without","kept","struck","domain","_wall","least","greatest","has_domains","said_of","reasons","speaker","old","fresh","negation","n","mark","entry","scope","strength","store","values","z","minus","join","negated","some","at","ranges","_law_common","_law_far","late","_law_merged","_law_mirrored","rule","due","stands","turned","_law_lots","_law_due","_law_cannot","xs","zs","kind","way","beyond","side","pair","script","built","is_small","turn","Store","_law_few","_law_wide","Absolute","_law_run","append","extend","clash","is_failed","news","marks","trail","firsts","domains","__init__","fail","new_var","dom","enter","strike","decide","push","pop","depth","number","propagate","law"]
noncomputable def Nm.s (x:Nm):Str:=Str.ofString (nmTab.getD x.ix.val "")
noncomputable def allNm:List Nm:=(List.finRange 131).map Nm.mk
set_option genCtorIdx true in
inductive Fn
 | put_behind | least | greatest | size | values | up_to | from_on | without
 | meet | join | minus | negated | negation | struck | Store_init | Store_new_var
 | Store_size | Store_dom | Store_low | Store_high | Store_enter | Store_strike | Store_decide | Store_fail
 | Store_push | Store_pop | Store_depth | Propagator_init | Absolute_init | Absolute_propagate | law_far | law_draw
 | law_merged | law_common | law_mirrored | law_cut | law_says | law_cannot | law_due | law_lots
 | law_run | law_wide | law_few | law
noncomputable def allFn:List Fn:=[.put_behind,.least,.greatest,.size,.values,.up_to,.from_on,.without,.meet,.join,.minus,.negated,.negation,.struck,.Store_init,.Store_new_var,.Store_size,.Store_dom,.Store_low,.Store_high,.Store_enter,.Store_strike,.Store_decide,.Store_fail,.Store_push,.Store_pop,.Store_depth,.Propagator_init,.Absolute_init,.Absolute_propagate,.law_far,.law_draw,.law_merged,.law_common,.law_mirrored,.law_cut,.law_says,.law_cannot,.law_due,.law_lots,.law_run,.law_wide,.law_few,.law]
set_option genCtorIdx true in
inductive Sy | le | ge | ne | eq | at_ | cells | values | abs_
 deriving DecidableEq
noncomputable def Sy.s:Sy→Str
 | .le=>Str.ofString "<=" | .ge=>Str.ofString ">=" | .ne=>Str.ofString "!=" | .eq=>Str.ofString "="
 | .at_=>Str.ofString "at" | .cells=>Str.ofString "cells" | .values=>Str.ofString "values" | .abs_=>Str.ofString "abs"
noncomputable def allSy:List Sy:=[.le,.ge,.ne,.eq,.at_,.cells,.values,.abs_]
set_option genCtorIdx true in
inductive SK | loc | cel | fre | glo
 deriving DecidableEq
set_option genCtorIdx true in
inductive Cl | store | absolute
inductive AV where
 | unb
 | none
 | bool (b:Bool)
 | int (i:Int)
 | str (s:Sy)
 | tup (l:List AV)
 | lst (l:List AV)
 | obj (a:Addr)
 | rng (lo hi:Int)
noncomputable def AV.ctorIdx (x:AV):Nat:=x.casesOn 0 1 (fun uu=>2) (fun uu=>3) (fun uu=>4) (fun uu=>5) (fun uu=>6) (fun uu=>7) (fun uu uu=>8)
inductive AO where
 | list (l:List AV)
 | inst (c:Cl) (dx:Addr)
 | ns (fs:List (Nm×AV))
 | sdict (kvs:List (Sy×AV))
 | news
noncomputable def AO.ctorIdx (x:AO):Nat:=x.casesOn (fun uu=>0) (fun uu uu=>1) (fun uu=>2) (fun uu=>3) 4
noncomputable abbrev AH:=Addr→Option AO
noncomputable def upd (H:AH) (a:Addr) (o:AO):AH:=fun b=>if b=a then some o else H b
set_option genCtorIdx true in
inductive Bop | add | sub | mul | mod | pow
set_option genCtorIdx true in
inductive Cop | eq | ne | lt | le | gt | ge | is | mem | nmem
mutual
inductive E where
 | none | bool (b:Bool) | int (i:Int) | str (s:Sy)
 | name (x:Nm)
 | bin (op:Bop) (a b:E)
 | neg (a:E) | not (a:E)
 | cmp (op:Cop) (a b:E)
 | and (a b:E) | or (a b:E)
 | ife (c a b:E)
 | tup (es:Es) | list (es:Es)
 | dict (ds:Ds)
 | sub (o i:E) | slice (o lo hi:E)
 | attr (o:E) (x:Nm)
 | call (f:Nm) (es:Es)
 | meth (o:E) (m:Nm) (es:Es)
 | sinit (es:Es)
 | comp (elt:E) (t:T) (it:It) (ifs:Es) (sc:List (Nm×SK))
 | comp2 (elt:E) (t:T) (it:It) (t2:T) (it2:It) (ifs:Es) (sc:List (Nm×SK))
inductive Es where
 | nil | cons (e:E) (r:Es)
inductive Ds where
 | nil | cons (k:Sy) (v:E) (r:Ds)
inductive T where
 | name (x:Nm) | tup (xs:List Nm) | attr (o:E) (x:Nm) | sub (o i:E)
inductive It where
 | e (e:E) | rev (e:E)
end
mutual
inductive S where
 | assign (t:T) (e:E)
 | expr (e:E)
 | ret (e:E)
 | ite (c:E) (a b:Ss)
 | forr (t:T) (it:It) (b:Ss)
 | whil (c:E) (b:Ss)
 | brk | pass | raise
inductive Ss where
 | nil | cons (s:S) (r:Ss)
end
noncomputable abbrev Ev:=List (Nm×SK×AV)
noncomputable def look:Ev→Nm→Option (SK×AV)
 | [],_=>.none
 | (y,k,v)::r,x=>if y=x then some (k,v) else look r x
noncomputable def put:Ev→Nm→AV→Ev
 | [],_,_=>[]
 | (y,k,v)::r,x,w=>if y=x then (y,k,w)::put r x w else (y,k,v)::put r x w
noncomputable def canPut (ρ:Ev) (x:Nm):Bool:=match look ρ x with
 | some (.loc,_)=>true
 | some (.cel,_)=>true
 | _=>false
noncomputable def bnd:List Nm→List AV→Nm→AV
 | y::ys,v::vs,x=>if y=x then v else bnd ys vs x
 | _,_,_=>.unb
noncomputable def initρ:List (Nm×SK)→List Nm→List AV→Ev
 | [],_,_=>[]
 | (x,k)::r,ps,vs=>(x,k,bnd ps vs x)::initρ r ps vs
noncomputable def slotV:Option (SK×AV)→AV
 | some (_,v)=>v
 | .none=>.unb
noncomputable def compρ:List (Nm×SK)→Ev→Ev
 | [],_=>[]
 | (x,.fre)::r,ρ=>(x,.fre,slotV (look ρ x))::compρ r ρ
 | (x,k)::r,ρ=>(x,k,.unb)::compρ r ρ
noncomputable abbrev P1:=AV→AH→Prop
noncomputable abbrev PL:=List AV→AH→Prop
noncomputable abbrev PB:=Bool→AH→Prop
inductive Fl | next | brk | ret (v:AV)
noncomputable abbrev PS:=Fl→Ev→AH→Prop
noncomputable abbrev PE:=Ev→AH→Prop
noncomputable def itemsOf (H:AH):AV→Option (List AV)
 | .tup l=>some l
 | .lst l=>some l
 | .obj a=>match H a with
  | some (.list l)=>some l
  | _=>.none
 | _=>.none
noncomputable def LIM:Nat:=1000000
noncomputable def newL (l:List AV) (H:AH) (Q:P1):Prop:=l.length≤LIM∧((∀ a,H a=.none→Q (.obj a) (upd H a (.list l)))∨Q (.lst l) H)
noncomputable def newT (l:List AV) (H:AH) (Q:P1):Prop:=l.length≤LIM∧Q (.tup l) H
noncomputable def pyIdx (n:Nat) (i:Int):Option Nat:=if 0≤i then (if i.toNat < n then some i.toNat else .none) else (if 0≤(n:Int)+i then some ((n:Int)+i).toNat else .none)
noncomputable def lkF {κ:Type} [DecidableEq κ]:List (κ×AV)→κ→Option AV
 | [],_=>.none
 | (y,v)::r,x=>if y=x then some v else lkF r x
noncomputable def getIt (H:AH) (o i:AV) (Q:P1):Prop:=match i with
 | .int k=>∃ l j v,itemsOf H o=some l∧pyIdx l.length k=some j∧l[j]?=some v∧Q v H
 | .str s=>∃ a kvs v,o=.obj a∧H a=some (.sdict kvs)∧lkF kvs s=some v∧Q v H
 | _=>False
noncomputable def setF {κ:Type} [DecidableEq κ] (fs:List (κ×AV)) (x:κ) (v:AV):List (κ×AV):=match fs with
 | []=>[(x,v)]
 | (y,w)::r=>if y=x then (y,v)::r else (y,w)::setF r x v
noncomputable def setIt (H:AH) (o i v:AV) (Q:AH→Prop):Prop:=match i with
 | .int k=>∃ a,o=.obj a∧((∃ l j,H a=some (.list l)∧pyIdx l.length k=some j∧j < l.length∧Q (upd H a (.list (l.set j v))))∨(H a=some .news∧(k=0∨k=1)∧v=.bool true∧Q H))
 | .str s=>∃ a kvs,o=.obj a∧H a=some (.sdict kvs)∧(lkF kvs s).isSome=true∧Q (upd H a (.sdict (setF kvs s v)))
 | _=>False
noncomputable def isFld (x:Nm):Bool:=[Nm.domains,.firsts,.trail,.marks,.news,.speaker,.is_failed,.clash,.number,.scope,.strength].contains x
noncomputable def getAt (H:AH) (o:AV) (x:Nm) (Q:P1):Prop:=isFld x=true∧∃ a c dx fs v,o=.obj a∧H a=some (.inst c dx)∧H dx=some (.ns fs)∧lkF fs x=some v∧Q v H
noncomputable def setAt (H:AH) (o:AV) (x:Nm) (v:AV) (Q:AH→Prop):Prop:=isFld x=true∧∃ a c dx fs,o=.obj a∧H a=some (.inst c dx)∧H dx=some (.ns fs)∧(setF fs x v).length≤900∧Q (upd H dx (.ns (setF fs x v)))
noncomputable def methTab:List (Nm×Fn):=[(.new_var,.Store_new_var),(.size,.Store_size),(.dom,.Store_dom),(.low,.Store_low),(.high,.Store_high),(.enter,.Store_enter),(.strike,.Store_strike),(.decide,.Store_decide),(.fail,.Store_fail),(.push,.Store_push),(.pop,.Store_pop),(.depth,.Store_depth)]
noncomputable def methOf:Cl→Nm→Option Fn
 | .store,x=>methTab.lookup x
 | .absolute,x=>if x=.propagate then some .Absolute_propagate else .none
noncomputable def freOk (sc:List (Nm×SK)) (ρ:Ev):Bool:=sc.all fun p=>match p.2 with
 | .fre=>(match look ρ p.1 with | some (.cel,_)=>true | some (.fre,_)=>true | _=>false)
 | .cel=>false
 | _=>true
set_option genCtorIdx true in
inductive Bf | len | max | min | abs | sum | sorted | tuple | list | range
inductive Callee | fn (f:Fn) | bf (b:Bf) | cls (c:Cl)
noncomputable def Callee.ctorIdx (x:Callee):Nat:=x.casesOn (fun uu=>0) (fun uu=>1) fun uu=>2
noncomputable def calleeTab:List (Nm×Callee):=[(.len,.bf .len),(.max,.bf .max),(.min,.bf .min),(.abs,.bf .abs),(.sum,.bf .sum),(.sorted,.bf .sorted),(.tuple,.bf .tuple),(.list,.bf .list),(.range,.bf .range),(.Store,.cls .store),(.Absolute,.cls .absolute),(.put_behind,.fn .put_behind),(.least,.fn .least),(.greatest,.fn .greatest),(.size,.fn .size),(.values,.fn .values),(.up_to,.fn .up_to),(.from_on,.fn .from_on),(.without,.fn .without),(.meet,.fn .meet),(.join,.fn .join),(.minus,.fn .minus),(.negated,.fn .negated),(.negation,.fn .negation),(.struck,.fn .struck),(.law_far,.fn .law_far),(.law_draw,.fn .law_draw),(.law_merged,.fn .law_merged),(.law_common,.fn .law_common),(.law_mirrored,.fn .law_mirrored),(.law_cut,.fn .law_cut),(.law_says,.fn .law_says),(.law_cannot,.fn .law_cannot),(.law_due,.fn .law_due),(.law_lots,.fn .law_lots),(.law_run,.fn .law_run),(.law_wide,.fn .law_wide),(.law_few,.fn .law_few)]
noncomputable def calleeOf (x:Nm):Option Callee:=calleeTab.lookup x
noncomputable def initOf:Cl→Fn
 | .store=>.Store_init
 | .absolute=>.Absolute_init
noncomputable def andO:Option Bool→Option Bool→Option Bool
 | some x,y=>y.map (x&&·)
 | .none,_=>.none
mutual
noncomputable def aeq:AV→AV→Option Bool
 | .none,b=>match b with | .none=>some true | _=>.none
 | .bool x,b=>match b with | .bool y=>some (x==y) | _=>.none
 | .int x,b=>match b with | .int y=>some (x==y) | _=>.none
 | .str x,b=>match b with | .str y=>some (x==y) | _=>.none
 | .tup l,b=>match b with | .tup m=>aeqs l m | _=>.none
 | .lst l,b=>match b with | .lst m=>aeqs l m | _=>.none
 | _,_=>.none
noncomputable def aeqs:List AV→List AV→Option Bool
 | [],m=>some m.isEmpty
 | a::l,m=>match m with | []=>some false | b::m=>andO (aeq a b) (aeqs l m)
end
noncomputable def seen (H:AH):AV→AV
 | .obj a=>match H a with
  | some (.list l)=>.lst l
  | _=>.obj a
 | v=>v
mutual
noncomputable def plain:AV→Bool
 | .int _=>true
 | .str _=>true
 | .tup l=>plains l
 | .lst l=>plains l
 | _=>false
noncomputable def plains:List AV→Bool
 | []=>true
 | a::l=>plain a&&plains l
end
mutual
noncomputable def deep:AV→Nat
 | .tup l=>deeps l+1
 | .lst l=>deeps l+1
 | _=>0
noncomputable def deeps:List AV→Nat
 | []=>0
 | a::l=>max (deep a) (deeps l)
end
noncomputable def dataOk (v:AV):Bool:=plain v&&deep v≤8
noncomputable def eqOf (H:AH) (a b:AV) (t:Bool):Prop:=match a,b with
 | .int x,.int y=>t=decide (x=y)
 | .str x,.str y=>t=decide (x=y)
 | .bool x,.bool y=>t=decide (x=y)
 | a,b=>dataOk (seen H a)=true∧dataOk (seen H b)=true∧aeq (seen H a) (seen H b)=some t∧(∀ i,seen H a≠.int i)∧(∀ i,seen H a≠.str i)
noncomputable def isIn (H:AH) (a b:AV) (t:Bool):Prop:=match a,b with
 | .str s,.obj d=>∃ kvs,H d=some (.sdict kvs)∧t=(lkF kvs s).isSome
 | a,b=>∃ l,itemsOf H b=some l∧dataOk (seen H a)=true∧dataOk (.lst l)=true∧(∀ i,seen H a≠.int i)∧(∀ i,seen H a≠.str i)∧∃ ts:List Bool,l.map (fun x=>aeq (seen H a) x)=ts.map some∧t=ts.any id
noncomputable def cmpOp (op:Cop) (a b:AV) (H:AH) (Q:PB):Prop:=match op with
 | .eq=>∃ t,eqOf H a b t∧Q t H
 | .ne=>∃ t,eqOf H a b t∧Q (!t) H
 | .lt=>∃ x y,a=.int x∧b=.int y∧Q (decide (x < y)) H
 | .le=>∃ x y,a=.int x∧b=.int y∧Q (decide (x≤y)) H
 | .gt=>∃ x y,a=.int x∧b=.int y∧Q (decide (y < x)) H
 | .ge=>∃ x y,a=.int x∧b=.int y∧Q (decide (y≤x)) H
 | .is=>b=.none∧((a=.none∧Q true H)∨(((∃ t,a=.bool t)∨∃ l,a=.tup l)∧Q false H))
 | .mem=>∃ t,isIn H a b t∧Q t H
 | .nmem=>∃ t,isIn H a b t∧Q (!t) H
noncomputable def binOp (op:Bop) (a b:AV) (H:AH) (Q:P1):Prop:=match op with
 | .add=>(∃ x y,a=.int x∧b=.int y∧Q (.int (x+y)) H)∨(∃ l m,a=.tup l∧b=.tup m∧(l++m).length≤LIM∧Q (.tup (l++m)) H)∨
   (∃ l m,(∀ t,a≠.tup t)∧(∀ t,b≠.tup t)∧itemsOf H a=some l∧itemsOf H b=some m∧newL (l++m) H Q)
 | .sub=>∃ x y,a=.int x∧b=.int y∧Q (.int (x - y)) H
 | .mul=>∃ x y,a=.int x∧b=.int y∧x.natAbs≤LIM∧y.natAbs≤LIM * LIM∧Q (.int (x * y)) H
 | .mod=>∃ x y,a=.int x∧b=.int y∧0 < y∧Q (.int (x % y)) H
 | .pow=>∃ y:Nat,a=.int 10∧b=.int y∧y≤40∧Q (.int (10 ^ y)) H
noncomputable def truthy (v:AV) (H:AH) (Q:PB):Prop:=match v with
 | .bool b=>Q b H
 | .none=>Q false H
 | _=>False
noncomputable def encP (p:Int×Int):AV:=.tup [.int p.1,.int p.2]
noncomputable def encPs (l:List (Int×Int)):List AV:=l.map encP
noncomputable def pairLe (a b:Int×Int):Bool:=decide (a.1 < b.1) || (decide (a.1=b.1)&&decide (a.2≤b.2))
noncomputable def insP (a:Int×Int):List (Int×Int)→List (Int×Int)
 | []=>[a]
 | b::r=>if pairLe a b then a::b::r else b::insP a r
noncomputable def sortP:List (Int×Int)→List (Int×Int)
 | []=>[]
 | a::r=>insP a (sortP r)
noncomputable def upto (lo hi:Int):List Int:=(List.range (hi - lo).toNat).map fun (n:Nat)=>lo+(n:Int)
noncomputable def callB (b:Bf) (vs:List AV) (H:AH) (Q:P1):Prop:=match b,vs with
 | .len,[v]=>∃ l,itemsOf H v=some l∧Q (.int (l.length:Int)) H
 | .max,[a,b]=>∃ x y,a=.int x∧b=.int y∧Q (.int (max x y)) H
 | .min,[a,b]=>∃ x y,a=.int x∧b=.int y∧Q (.int (min x y)) H
 | .abs,[a]=>∃ x:Int,a=.int x∧Q (.int (x.natAbs:Int)) H
 | .sum,[v]=>∃ is:List Int,(∀ t,v≠.tup t)∧itemsOf H v=some (is.map .int)∧Q (.int is.sum) H
 | .sorted,[v]=>∃ ps:List (Int×Int),itemsOf H v=some (encPs ps)∧ps.length < 64∧newL (encPs (sortP ps)) H Q
 | .tuple,[v]=>∃ l,itemsOf H v=some l∧newT l H Q
 | .list,[v]=>∃ l,itemsOf H v=some l∧newL l H Q
 | .range,[b]=>∃ y:Int,b=.int y∧y≤LIM ∧ -LIM≤y∧Q (.rng 0 y) H
 | .range,[a,b]=>∃ x y:Int,a=.int x∧b=.int y∧Q (.rng x y) H
 | _,_=>False
inductive MK | app | ext | pop | fn (f:Fn)
noncomputable def methK (H:AH) (o:AV) (m:Nm) (Q:MK→Prop):Prop:=∃ a,o=.obj a∧
  ((∃ l,H a=some (.list l)∧((m=.append∧Q .app)∨(m=.extend∧Q .ext)∨(m=.pop∧Q .pop)))∨
   (∃ c dx fs f,H a=some (.inst c dx)∧H dx=some (.ns fs)∧lkF fs m=.none∧methOf c m=some f∧Q (.fn f)))
section
variable (Γ:Fn→List AV→AH→P1→Prop) (lv:Fn→Nat) (k:Nat)
noncomputable def callF (f:Fn) (vs:List AV) (H:AH) (Q:P1):Prop:=lv f < k∧Γ f vs H Q
noncomputable def callN (f:Nm) (vs:List AV) (H:AH) (Q:P1):Prop:=match calleeOf f with
 | some (.fn g)=>callF Γ lv k g vs H Q
 | some (.bf b)=>callB b vs H Q
 | some (.cls c)=>lv (initOf c) < k∧∀ a dx,H a=.none→H dx=.none→a≠dx→Γ (initOf c) (.obj a::vs) (upd (upd H dx (.ns [])) a (.inst c dx)) fun r H'=>r=.none∧Q (.obj a) H'
 | .none=>False
noncomputable def callM (m:MK) (o:AV) (vs:List AV) (H:AH) (Q:P1):Prop:=match m with
 | .app=>∃ a l v,o=.obj a∧vs=[v]∧H a=some (.list l)∧l.length < LIM∧Q .none (upd H a (.list (l++[v])))
 | .ext=>∃ a l,o=.obj a∧H a=some (.list l)∧((∃ v m,vs=[v]∧itemsOf H v=some m∧(l++m).length≤LIM∧Q .none (upd H a (.list (l++m))))∨
   (∃ lo hi,vs=[.rng lo hi]∧l.length+(hi - lo).toNat≤LIM∧Q .none (upd H a (.list (l++(upto lo hi).map .int)))))
 | .pop=>∃ a l v,o=.obj a∧vs=[]∧H a=some (.list (l++[v]))∧Q v (upd H a (.list l))
 | .fn f=>callF Γ lv k f (o::vs) H Q
noncomputable def asgN (x:Nm) (v:AV) (ρ:Ev) (Q:Ev→Prop):Prop:=canPut ρ x=true∧Q (put ρ x v)
noncomputable def putAll:Ev→List Nm→List AV→Ev
 | ρ,x::xs,v::vs=>putAll (put ρ x v) xs vs
 | ρ,_,_=>ρ
noncomputable def asgC (t:T) (v:AV) (ρ:Ev) (Q:Ev→Prop):Prop:=match t with
 | .name x=>asgN x v ρ Q
 | .tup xs=>∃ l,v=.tup l∧l.length=xs.length∧xs.Nodup∧(∀ x∈xs,canPut ρ x=true)∧Q (putAll ρ xs l)
 | _=>False
noncomputable def itemsIt (H:AH):AV→Option (List AV)
 | .tup l=>some l
 | .lst l=>some l
 | .rng lo hi=>if (hi - lo).toNat≤LIM∧lo.natAbs≤LIM∧hi.natAbs≤LIM then some ((upto lo hi).map .int) else .none
 | _=>.none
noncomputable def loopC (step:AV→List AV→AH→PL→Prop):List AV→List AV→AH→PL→Prop
 | [],acc,H,Q=>Q acc H
 | x::xs,acc,H,Q=>step x acc H fun acc' H'=>loopC step xs acc' H' Q
noncomputable def loopF (body:AV→Ev→AH→PS→Prop):List AV→Ev→AH→PS→Prop
 | [],ρ,H,Q=>Q .next ρ H
 | x::xs,ρ,H,Q=>body x ρ H fun fl ρ' H'=>match fl with
  | .next=>loopF body xs ρ' H' Q
  | .brk=>Q .next ρ' H'
  | .ret v=>Q (.ret v) ρ' H'
noncomputable def loopW (test:Ev→AH→PB→Prop) (body:Ev→AH→PS→Prop):Nat→Ev→AH→PS→Prop
 | 0,_,_,_=>False
 | n+1,ρ,H,Q=>test ρ H fun t H1=>(t=true→body ρ H1 fun fl ρ' H'=>match fl with
   | .next=>loopW test body n ρ' H' Q
   | .brk=>Q .next ρ' H'
   | .ret v=>Q (.ret v) ρ' H')∧(t=false→Q .next ρ H1)
mutual
noncomputable def trE:E→Ev→AH→P1→Prop
 | .none,_,H,Q=>Q .none H
 | .bool b,_,H,Q=>Q (.bool b) H
 | .int i,_,H,Q=>Q (.int i) H
 | .str s,_,H,Q=>Q (.str s) H
 | .name x,ρ,H,Q=>match look ρ x with
  | some (.glo,_)=>x=.MOST_LISTED∧Q (.int 1000000) H
  | some (_,v)=>(match v with | .unb=>False | v=>Q v H)
  | .none=>False
 | .bin op a b,ρ,H,Q=>trE a ρ H fun va H1=>trE b ρ H1 fun vb H2=>binOp op va vb H2 Q
 | .neg a,ρ,H,Q=>trE a ρ H fun v H1=>∃ i,v=.int i∧Q (.int (-i)) H1
 | .not a,ρ,H,Q=>trE a ρ H fun v H1=>truthy v H1 fun t H2=>Q (.bool (!t)) H2
 | .cmp op a b,ρ,H,Q=>trE a ρ H fun va H1=>trE b ρ H1 fun vb H2=>cmpOp op va vb H2 fun t H3=>Q (.bool t) H3
 | .and a b,ρ,H,Q=>trE a ρ H fun v H1=>truthy v H1 fun t H2=>(t=true→trE b ρ H2 Q)∧(t=false→Q v H2)
 | .or a b,ρ,H,Q=>trE a ρ H fun v H1=>truthy v H1 fun t H2=>(t=true→Q v H2)∧(t=false→trE b ρ H2 Q)
 | .ife c a b,ρ,H,Q=>trT c ρ H fun t H1=>(t=true→trE a ρ H1 Q)∧(t=false→trE b ρ H1 Q)
 | .tup es,ρ,H,Q=>trEs es ρ H fun vs H1=>newT vs H1 Q
 | .list es,ρ,H,Q=>trEs es ρ H fun vs H1=>newL vs H1 Q
 | .dict ds,ρ,H,Q=>trDs ds ρ H fun kvs H1=>match kvs with
   | []=>∀ a,H1 a=.none→Q (.obj a) (upd H1 a .news)
   | kvs=>(kvs.map (·.1)).Nodup∧∀ a,H1 a=.none→Q (.obj a) (upd H1 a (.sdict kvs))
 | .sub o i,ρ,H,Q=>trE o ρ H fun vo H1=>trE i ρ H1 fun vi H2=>getIt H2 vo vi Q
 | .slice o lo hi,ρ,H,Q=>trE o ρ H fun vo H1=>trE lo ρ H1 fun vl H2=>trE hi ρ H2 fun vh H3=>∃ l,(∀ t,vo≠.tup t)∧itemsOf H3 vo=some l∧
   ((∃ n:Nat,vl=.none∧vh=.int n∧newL (l.take n) H3 Q)∨(∃ n:Nat,n≤l.length∧vl=.int n∧vh=.none∧newL (l.drop n) H3 Q))
 | .attr o x,ρ,H,Q=>trE o ρ H fun vo H1=>getAt H1 vo x Q
 | .call f es,ρ,H,Q=>(∃ v,look ρ f=some (.glo,v))∧trEs es ρ H fun vs H1=>callN Γ lv k f vs H1 Q
 | .meth o m es,ρ,H,Q=>trE o ρ H fun vo H1=>methK H1 vo m fun mk=>trEs es ρ H1 fun vs H2=>callM Γ lv k mk vo vs H2 Q
 | .sinit es,ρ,H,Q=>∃ v,look ρ .self=some (.loc,.obj v)∧trEs es ρ H fun vs H1=>callF Γ lv k .Propagator_init (.obj v::vs) H1 Q
 | .comp elt t it ifs sc,ρ,H,Q=>freOk sc ρ=true∧trI it ρ H fun items H1=>
   loopC (fun x acc H2 C=>asgC t x (compρ sc ρ) fun ρ1=>trAll ifs ρ1 H2 fun b H3=>(b=true→trE elt ρ1 H3 fun v H4=>acc.length < LIM∧C (acc++[v]) H4)∧(b=false→C acc H3)) items [] H1 fun acc H2=>newL acc H2 Q
 | .comp2 elt t it t2 it2 ifs sc,ρ,H,Q=>freOk sc ρ=true∧trI it ρ H fun items H1=>
   loopC (fun x acc H2 C=>asgC t x (compρ sc ρ) fun ρ1=>trI it2 ρ1 H2 fun items2 H2'=>
    loopC (fun x2 acc H2 C=>asgC t2 x2 ρ1 fun ρ2=>trAll ifs ρ2 H2 fun b H3=>(b=true→trE elt ρ2 H3 fun v H4=>acc.length < LIM∧C (acc++[v]) H4)∧(b=false→C acc H3)) items2 acc H2' C) items [] H1 fun acc H2=>newL acc H2 Q
noncomputable def trT:E→Ev→AH→PB→Prop
 | .not a,ρ,H,Q=>trT a ρ H fun t H1=>Q (!t) H1
 | .and a b,ρ,H,Q=>trT a ρ H fun t H1=>(t=true→trT b ρ H1 Q)∧(t=false→Q false H1)
 | .or a b,ρ,H,Q=>trT a ρ H fun t H1=>(t=true→Q true H1)∧(t=false→trT b ρ H1 Q)
 | .ife c a b,ρ,H,Q=>trT c ρ H fun t H1=>(t=true→trT a ρ H1 Q)∧(t=false→trT b ρ H1 Q)
 | .cmp op a b,ρ,H,Q=>trE a ρ H fun va H1=>trE b ρ H1 fun vb H2=>cmpOp op va vb H2 Q
 | .none,_,H,Q=>Q false H
 | .bool b,_,H,Q=>Q b H
 | .int _,_,_,_=>False
 | .str _,_,_,_=>False
 | .name x,ρ,H,Q=>match look ρ x with
  | some (.glo,_)=>False
  | some (_,v)=>truthy v H Q
  | .none=>False
 | .attr o x,ρ,H,Q=>trE o ρ H fun vo H1=>getAt H1 vo x fun v H2=>truthy v H2 Q
 | .call f es,ρ,H,Q=>(∃ v,look ρ f=some (.glo,v))∧trEs es ρ H fun vs H1=>callN Γ lv k f vs H1 fun v H2=>truthy v H2 Q
 | .meth o m es,ρ,H,Q=>trE o ρ H fun vo H1=>methK H1 vo m fun mk=>trEs es ρ H1 fun vs H2=>callM Γ lv k mk vo vs H2 fun v H3=>truthy v H3 Q
 | _,_,_,_=>False
noncomputable def trEs:Es→Ev→AH→PL→Prop
 | .nil,_,H,Q=>Q [] H
 | .cons e r,ρ,H,Q=>trE e ρ H fun v H1=>trEs r ρ H1 fun vs H2=>Q (v::vs) H2
noncomputable def trDs:Ds→Ev→AH→(List (Sy×AV)→AH→Prop)→Prop
 | .nil,_,H,Q=>Q [] H
 | .cons s e r,ρ,H,Q=>trE e ρ H fun v H1=>trDs r ρ H1 fun vs H2=>Q ((s,v)::vs) H2
noncomputable def trAll:Es→Ev→AH→PB→Prop
 | .nil,_,H,Q=>Q true H
 | .cons e r,ρ,H,Q=>trT e ρ H fun t H1=>(t=true→trAll r ρ H1 Q)∧(t=false→Q false H1)
noncomputable def trI:It→Ev→AH→PL→Prop
 | .e e,ρ,H,Q=>trE e ρ H fun v H1=>∃ l,itemsIt H1 v=some l∧Q l H1
 | .rev e,ρ,H,Q=>(∃ w,look ρ .reversed=some (.glo,w))∧trE e ρ H fun v H1=>∃ l,v=.tup l∧Q l.reverse H1
end
noncomputable def asgT (t:T) (v:AV) (ρ:Ev) (H:AH) (Q:PE):Prop:=match t with
 | .name x=>asgC (.name x) v ρ fun ρ'=>Q ρ' H
 | .tup xs=>asgC (.tup xs) v ρ fun ρ'=>Q ρ' H
 | .attr o x=>trE Γ lv k o ρ H fun vo H1=>setAt H1 vo x v fun H2=>Q ρ H2
 | .sub o i=>trE Γ lv k o ρ H fun vo H1=>trE Γ lv k i ρ H1 fun vi H2=>setIt H2 vo vi v fun H3=>Q ρ H3
mutual
noncomputable def trS:S→Ev→AH→PS→Prop
 | .assign t e,ρ,H,Q=>trE Γ lv k e ρ H fun v H1=>asgT Γ lv k t v ρ H1 fun ρ' H2=>Q .next ρ' H2
 | .expr e,ρ,H,Q=>trE Γ lv k e ρ H fun v H1=>(v=.none∨∃ i,v=.int i)∧Q .next ρ H1
 | .ret e,ρ,H,Q=>trE Γ lv k e ρ H fun v H1=>Q (.ret v) ρ H1
 | .ite c a b,ρ,H,Q=>trT Γ lv k c ρ H fun t H1=>(t=true→trSs a ρ H1 Q)∧(t=false→trSs b ρ H1 Q)
 | .forr t it b,ρ,H,Q=>trI Γ lv k it ρ H fun items H1=>loopF (fun x ρ1 H2 C=>asgC t x ρ1 fun ρ2=>trSs b ρ2 H2 C) items ρ H1 Q
 | .whil c b,ρ,H,Q=>∃ n,loopW (trT Γ lv k c) (trSs b) n ρ H Q
 | .brk,ρ,H,Q=>Q .brk ρ H
 | .pass,ρ,H,Q=>Q .next ρ H
 | .raise,_,_,_=>False
noncomputable def trSs:Ss→Ev→AH→PS→Prop
 | .nil,ρ,H,Q=>Q .next ρ H
 | .cons s r,ρ,H,Q=>trS s ρ H fun fl ρ' H1=>match fl with
  | .next=>trSs r ρ' H1 Q
  | fl=>Q fl ρ' H1
end
end
noncomputable def Weak (v:AV) (H:AH) (v':AV) (H':AH):Prop:=
 (∀ b o,H' b=some o→H b=some o)∧(v'=v∨∃ a l,v=.obj a∧v'=.lst l∧H a=some (.list l)∧H' a=.none)
noncomputable def ends (Q:P1) (v:AV) (H:AH):Prop:=∃ v' H',Weak v H v' H'∧Q v' H'
noncomputable def params:Fn→List Nm
 | .put_behind=>[.found,.low,.high]
 | .least=>[.d]
 | .greatest=>[.d]
 | .size=>[.d]
 | .values=>[.d]
 | .up_to=>[.d,.k]
 | .from_on=>[.d,.k]
 | .without=>[.d,.v]
 | .meet=>[.d,.e]
 | .join=>[.d,.e]
 | .minus=>[.d,.e]
 | .negated=>[.d]
 | .negation=>[.literal]
 | .struck=>[.literal,.d]
 | .Store_init=>[.self]
 | .Store_new_var=>[.self,.domain]
 | .Store_size=>[.self]
 | .Store_dom=>[.self,.x]
 | .Store_low=>[.self,.x]
 | .Store_high=>[.self,.x]
 | .Store_enter=>[.self,.literal,.reasons,.speaker]
 | .Store_strike=>[.self,.literal,.reasons]
 | .Store_decide=>[.self,.literal]
 | .Store_fail=>[.self,.reasons]
 | .Store_push=>[.self]
 | .Store_pop=>[.self,.n]
 | .Store_depth=>[.self]
 | .Propagator_init=>[.self,.scope,.strength]
 | .Absolute_init=>[.self,.x,.z]
 | .Absolute_propagate=>[.self,.store]
 | .law_far=>[]
 | .law_draw=>[.tub,.many]
 | .law_merged=>[.ranges]
 | .law_common=>[.some,.others]
 | .law_mirrored=>[.ranges]
 | .law_cut=>[.ranges,.literal]
 | .law_says=>[.literal,.v]
 | .law_cannot=>[.some,.x,.z]
 | .law_due=>[.lots,.x,.z]
 | .law_lots=>[.desk]
 | .law_run=>[.rule,.desk,.x,.z]
 | .law_wide=>[.tub]
 | .law_few=>[.tub,.low,.many]
 | .law=>[.script]
noncomputable def scOf:Fn→List (Nm×SK)
 | .put_behind=>[(.found,.loc),(.low,.loc),(.high,.loc),(.len,.glo)]
 | .least=>[(.d,.loc)]
 | .greatest=>[(.d,.loc)]
 | .size=>[(.d,.loc),(.sum,.glo)]
 | .values=>[(.d,.loc),(.found,.loc),(.low,.loc),(.high,.loc),(.MOST_LISTED,.glo),(.size,.glo),(.LimitFault,.glo),(.range,.glo)]
 | .up_to=>[(.d,.loc),(.k,.cel),(.tuple,.glo)]
 | .from_on=>[(.d,.loc),(.k,.cel),(.tuple,.glo)]
 | .without=>[(.d,.loc),(.v,.loc),(.up_to,.glo),(.from_on,.glo)]
 | .meet=>[(.d,.loc),(.e,.loc),(.found,.loc),(.i,.loc),(.j,.loc),(.low,.loc),(.high,.loc),(.len,.glo),(.max,.glo),(.min,.glo),(.tuple,.glo)]
 | .join=>[(.d,.loc),(.e,.loc),(.found,.loc),(.low,.loc),(.high,.loc),(.sorted,.glo),(.put_behind,.glo),(.tuple,.glo)]
 | .minus=>[(.d,.loc),(.e,.loc),(.found,.loc),(.low,.loc),(.high,.loc),(.begin,.loc),(.left,.loc),(.right,.loc),(.tuple,.glo)]
 | .negated=>[(.d,.loc),(.tuple,.glo),(.reversed,.glo)]
 | .negation=>[(.literal,.loc),(.x,.loc),(.sign,.loc),(.k,.loc)]
 | .struck=>[(.literal,.loc),(.d,.loc),(.sign,.loc),(.k,.loc),(.up_to,.glo),(.from_on,.glo),(.meet,.glo),(.without,.glo)]
 | .Store_init=>[(.self,.loc)]
 | .Store_new_var=>[(.self,.loc),(.domain,.loc),(.len,.glo)]
 | .Store_size=>[(.self,.loc),(.len,.glo)]
 | .Store_dom=>[(.self,.loc),(.x,.loc)]
 | .Store_low=>[(.self,.loc),(.x,.loc),(.least,.glo)]
 | .Store_high=>[(.self,.loc),(.x,.loc),(.greatest,.glo)]
 | .Store_enter=>[(.self,.loc),(.literal,.loc),(.reasons,.loc),(.speaker,.loc),(.x,.loc),(.old,.loc),(.fresh,.loc),(.struck,.glo),(.negation,.glo)]
 | .Store_strike=>[(.self,.loc),(.literal,.loc),(.reasons,.loc),(.tuple,.glo)]
 | .Store_decide=>[(.self,.loc),(.literal,.loc)]
 | .Store_fail=>[(.self,.loc),(.reasons,.loc),(.tuple,.glo)]
 | .Store_push=>[(.self,.loc),(.len,.glo)]
 | .Store_pop=>[(.self,.loc),(.n,.loc),(.mark,.loc),(.entry,.loc),(.len,.glo)]
 | .Store_depth=>[(.self,.loc),(.len,.glo)]
 | .Propagator_init=>[(.self,.loc),(.scope,.loc),(.strength,.loc),(.tuple,.glo)]
 | .Absolute_init=>[(.self,.loc),(.x,.loc),(.z,.loc),(.class,.fre),(.super,.glo)]
 | .Absolute_propagate=>[(.self,.loc),(.store,.loc),(.x,.loc),(.z,.loc),(.high,.loc),(.v,.loc),(.values,.glo),(.minus,.glo),(.join,.glo),(.negated,.glo),(.abs,.glo),(.max,.glo)]
 | .law_far=>[]
 | .law_draw=>[(.tub,.loc),(.many,.loc),(.at_,.loc),(.len,.glo)]
 | .law_merged=>[(.ranges,.loc),(.found,.loc),(.first,.loc),(.last,.loc),(.sorted,.glo),(.max,.glo)]
 | .law_common=>[(.some,.loc),(.others,.cel),(.sorted,.glo)]
 | .law_mirrored=>[(.ranges,.loc)]
 | .law_cut=>[(.ranges,.loc),(.literal,.loc),(.sign,.loc),(.k,.loc),(.law_common,.glo),(.law_far,.glo)]
 | .law_says=>[(.literal,.loc),(.v,.loc),(.sign,.loc),(.k,.loc)]
 | .law_cannot=>[(.some,.loc),(.x,.cel),(.z,.loc),(.k,.loc),(.v,.cel)]
 | .law_due=>[(.lots,.loc),(.x,.loc),(.z,.loc),(.late,.loc),(.law_cut,.glo),(.law_merged,.glo),(.law_common,.glo),(.law_mirrored,.glo)]
 | .law_lots=>[(.desk,.cel),(.range,.glo)]
 | .law_run=>[(.rule,.loc),(.desk,.loc),(.x,.loc),(.z,.loc),(.lots,.cel),(.mark,.loc),(.due,.loc),(.stands,.loc),(.y,.loc),(.old,.loc),(.literal,.loc),(.reasons,.loc),(.speaker,.loc),(.left,.loc),(.some,.loc),(.turned,.loc),(.law_lots,.glo),(.len,.glo),(.law_due,.glo),(.law_cut,.glo),(.list,.glo),(.tuple,.glo),(.law_cannot,.glo)]
 | .law_wide=>[(.tub,.loc),(.first,.loc),(.xs,.loc),(.zs,.loc),(.lap,.loc),(.kind,.loc),(.way,.loc),(.last,.loc),(.beyond,.loc),(.lots,.loc),(.side,.loc),(.pair,.loc),(.k,.loc),(.left,.loc),(.law_draw,.glo),(.range,.glo),(.law_merged,.glo),(.len,.glo),(.law_cut,.glo)]
 | .law_few=>[(.tub,.cel),(.low,.cel),(.many,.cel),(.law_merged,.glo),(.range,.glo),(.law_draw,.glo)]
 | .law=>[(.script,.loc),(.built,.loc),(.tub,.loc),(.desk,.loc),(.is_small,.loc),(.turn,.loc),(.x,.loc),(.z,.loc),(.lots,.loc),(.y,.loc),(.rule,.loc),(.kept,.loc),(.lap,.loc),(.stands,.loc),(.pair,.loc),(.sign,.loc),(.len,.glo),(.list,.glo),(.Store,.glo),(.law_draw,.glo),(.law_few,.glo),(.law_wide,.glo),(.range,.glo),(.tuple,.glo),(.law_merged,.glo),(.Absolute,.glo),(.law_lots,.glo),(.law_run,.glo)]
noncomputable def b_put_behind:Ss:=(.cons (.ite (.and (.cmp .gt (.call .len (.cons (.name .found) .nil)) (.int 0)) (.cmp .le (.name .low) (.bin .add (.sub (.sub (.name .found) (.neg (.int 1))) (.int 1)) (.int 1)))) (.cons (.ite (.cmp .gt (.name .high) (.sub (.sub (.name .found) (.neg (.int 1))) (.int 1))) (.cons (.assign (.sub (.name .found) (.neg (.int 1))) (.tup (.cons (.sub (.sub (.name .found) (.neg (.int 1))) (.int 0)) (.cons (.name .high) .nil)))) .nil) .nil) .nil) (.cons (.expr (.meth (.name .found) .append (.cons (.tup (.cons (.name .low) (.cons (.name .high) .nil))) .nil))) .nil)) .nil)
noncomputable def b_least:Ss:=(.cons (.ret (.sub (.sub (.name .d) (.int 0)) (.int 0))) .nil)
noncomputable def b_greatest:Ss:=(.cons (.ret (.sub (.sub (.name .d) (.neg (.int 1))) (.int 1))) .nil)
noncomputable def b_size:Ss:=(.cons (.ret (.call .sum (.cons (.comp (.bin .add (.bin .sub (.name .high) (.name .low)) (.int 1)) (.tup [.low,.high]) (.e (.name .d)) .nil [(.low,.loc),(.high,.loc)]) .nil))) .nil)
noncomputable def b_values:Ss:=(.cons (.ite (.and (.cmp .ne (.name .d) (.tup .nil)) (.and (.cmp .ge (.bin .sub (.sub (.sub (.name .d) (.neg (.int 1))) (.int 1)) (.sub (.sub (.name .d) (.int 0)) (.int 0))) (.name .MOST_LISTED)) (.cmp .gt (.call .size (.cons (.name .d) .nil)) (.name .MOST_LISTED)))) (.cons .raise .nil) .nil) (.cons (.assign (.name .found) (.list .nil)) (.cons (.forr (.tup [.low,.high]) (.e (.name .d)) (.cons (.expr (.meth (.name .found) .extend (.cons (.call .range (.cons (.name .low) (.cons (.bin .add (.name .high) (.int 1)) .nil))) .nil))) .nil)) (.cons (.ret (.name .found)) .nil))))
noncomputable def b_up_to:Ss:=(.cons (.ret (.call .tuple (.cons (.comp (.tup (.cons (.name .low) (.cons (.call .min (.cons (.name .high) (.cons (.name .k) .nil))) .nil))) (.tup [.low,.high]) (.e (.name .d)) (.cons (.cmp .le (.name .low) (.name .k)) .nil) [(.low,.loc),(.high,.loc),(.min,.glo),(.k,.fre)]) .nil))) .nil)
noncomputable def b_from_on:Ss:=(.cons (.ret (.call .tuple (.cons (.comp (.tup (.cons (.call .max (.cons (.name .low) (.cons (.name .k) .nil))) (.cons (.name .high) .nil))) (.tup [.low,.high]) (.e (.name .d)) (.cons (.cmp .ge (.name .high) (.name .k)) .nil) [(.low,.loc),(.high,.loc),(.max,.glo),(.k,.fre)]) .nil))) .nil)
noncomputable def b_without:Ss:=(.cons (.ret (.bin .add (.call .up_to (.cons (.name .d) (.cons (.bin .sub (.name .v) (.int 1)) .nil))) (.call .from_on (.cons (.name .d) (.cons (.bin .add (.name .v) (.int 1)) .nil))))) .nil)
noncomputable def b_meet:Ss:=(.cons (.assign (.tup [.found,.i,.j]) (.tup (.cons (.list .nil) (.cons (.int 0) (.cons (.int 0) .nil))))) (.cons (.whil (.and (.cmp .lt (.name .i) (.call .len (.cons (.name .d) .nil))) (.cmp .lt (.name .j) (.call .len (.cons (.name .e) .nil)))) (.cons (.assign (.tup [.low,.high]) (.tup (.cons (.call .max (.cons (.sub (.sub (.name .d) (.name .i)) (.int 0)) (.cons (.sub (.sub (.name .e) (.name .j)) (.int 0)) .nil))) (.cons (.call .min (.cons (.sub (.sub (.name .d) (.name .i)) (.int 1)) (.cons (.sub (.sub (.name .e) (.name .j)) (.int 1)) .nil))) .nil)))) (.cons (.ite (.cmp .le (.name .low) (.name .high)) (.cons (.expr (.meth (.name .found) .append (.cons (.tup (.cons (.name .low) (.cons (.name .high) .nil))) .nil))) .nil) .nil) (.cons (.ite (.cmp .lt (.sub (.sub (.name .d) (.name .i)) (.int 1)) (.sub (.sub (.name .e) (.name .j)) (.int 1))) (.cons (.assign (.name .i) (.bin .add (.name .i) (.int 1))) .nil) (.cons (.assign (.name .j) (.bin .add (.name .j) (.int 1))) .nil)) .nil)))) (.cons (.ret (.call .tuple (.cons (.name .found) .nil))) .nil)))
noncomputable def b_join:Ss:=(.cons (.assign (.name .found) (.list .nil)) (.cons (.forr (.tup [.low,.high]) (.e (.call .sorted (.cons (.bin .add (.name .d) (.name .e)) .nil))) (.cons (.expr (.call .put_behind (.cons (.name .found) (.cons (.name .low) (.cons (.name .high) .nil))))) .nil)) (.cons (.ret (.call .tuple (.cons (.name .found) .nil))) .nil)))
noncomputable def b_minus:Ss:=(.cons (.assign (.name .found) (.list .nil)) (.cons (.forr (.tup [.low,.high]) (.e (.name .d)) (.cons (.assign (.name .begin) (.name .low)) (.cons (.forr (.tup [.left,.right]) (.e (.name .e)) (.cons (.ite (.and (.cmp .ge (.name .right) (.name .begin)) (.cmp .le (.name .left) (.name .high))) (.cons (.ite (.cmp .gt (.name .left) (.name .begin)) (.cons (.expr (.meth (.name .found) .append (.cons (.tup (.cons (.name .begin) (.cons (.bin .sub (.name .left) (.int 1)) .nil))) .nil))) .nil) .nil) (.cons (.assign (.name .begin) (.bin .add (.name .right) (.int 1))) .nil)) .nil) .nil)) (.cons (.ite (.cmp .le (.name .begin) (.name .high)) (.cons (.expr (.meth (.name .found) .append (.cons (.tup (.cons (.name .begin) (.cons (.name .high) .nil))) .nil))) .nil) .nil) .nil)))) (.cons (.ret (.call .tuple (.cons (.name .found) .nil))) .nil)))
noncomputable def b_negated:Ss:=(.cons (.ret (.call .tuple (.cons (.comp (.tup (.cons (.neg (.name .high)) (.cons (.neg (.name .low)) .nil))) (.tup [.low,.high]) (.rev (.name .d)) .nil [(.low,.loc),(.high,.loc)]) .nil))) .nil)
noncomputable def b_negation:Ss:=(.cons (.assign (.tup [.x,.sign,.k]) (.name .literal)) (.cons (.ite (.cmp .eq (.name .sign) (.str .le)) (.cons (.ret (.tup (.cons (.name .x) (.cons (.str .ge) (.cons (.bin .add (.name .k) (.int 1)) .nil))))) .nil) .nil) (.cons (.ite (.cmp .eq (.name .sign) (.str .ge)) (.cons (.ret (.tup (.cons (.name .x) (.cons (.str .le) (.cons (.bin .sub (.name .k) (.int 1)) .nil))))) .nil) .nil) (.cons (.ret (.ife (.cmp .eq (.name .sign) (.str .eq)) (.tup (.cons (.name .x) (.cons (.str .ne) (.cons (.name .k) .nil)))) (.tup (.cons (.name .x) (.cons (.str .eq) (.cons (.name .k) .nil)))))) .nil))))
noncomputable def b_struck:Ss:=(.cons (.assign (.tup [.sign,.k]) (.tup (.cons (.sub (.name .literal) (.int 1)) (.cons (.sub (.name .literal) (.int 2)) .nil)))) (.cons (.ite (.cmp .eq (.name .sign) (.str .le)) (.cons (.ret (.call .up_to (.cons (.name .d) (.cons (.name .k) .nil)))) .nil) .nil) (.cons (.ite (.cmp .eq (.name .sign) (.str .ge)) (.cons (.ret (.call .from_on (.cons (.name .d) (.cons (.name .k) .nil)))) .nil) .nil) (.cons (.ret (.ife (.cmp .eq (.name .sign) (.str .eq)) (.call .meet (.cons (.name .d) (.cons (.tup (.cons (.tup (.cons (.name .k) (.cons (.name .k) .nil))) .nil)) .nil))) (.call .without (.cons (.name .d) (.cons (.name .k) .nil))))) .nil))))
noncomputable def b_Store_init:Ss:=(.cons (.assign (.attr (.name .self) .domains) (.list .nil)) (.cons (.assign (.attr (.name .self) .firsts) (.list .nil)) (.cons (.assign (.attr (.name .self) .trail) (.list .nil)) (.cons (.assign (.attr (.name .self) .marks) (.list .nil)) (.cons (.assign (.attr (.name .self) .news) (.dict .nil)) (.cons (.assign (.attr (.name .self) .speaker) (.neg (.int 1))) (.cons (.assign (.attr (.name .self) .is_failed) (.bool false)) (.cons (.assign (.attr (.name .self) .clash) (.tup .nil)) .nil))))))))
noncomputable def b_Store_new_var:Ss:=(.cons (.expr (.meth (.attr (.name .self) .domains) .append (.cons (.name .domain) .nil))) (.cons (.expr (.meth (.attr (.name .self) .firsts) .append (.cons (.name .domain) .nil))) (.cons (.ite (.cmp .eq (.name .domain) (.tup .nil)) (.cons (.expr (.meth (.name .self) .fail (.cons (.tup .nil) .nil))) .nil) .nil) (.cons (.ret (.bin .sub (.call .len (.cons (.attr (.name .self) .domains) .nil)) (.int 1))) .nil))))
noncomputable def b_Store_size:Ss:=(.cons (.ret (.call .len (.cons (.attr (.name .self) .domains) .nil))) .nil)
noncomputable def b_Store_dom:Ss:=(.cons (.ret (.sub (.attr (.name .self) .domains) (.name .x))) .nil)
noncomputable def b_Store_low:Ss:=(.cons (.ret (.call .least (.cons (.sub (.attr (.name .self) .domains) (.name .x)) .nil))) .nil)
noncomputable def b_Store_high:Ss:=(.cons (.ret (.call .greatest (.cons (.sub (.attr (.name .self) .domains) (.name .x)) .nil))) .nil)
noncomputable def b_Store_enter:Ss:=(.cons (.assign (.name .x) (.sub (.name .literal) (.int 0))) (.cons (.assign (.name .old) (.sub (.attr (.name .self) .domains) (.name .x))) (.cons (.assign (.name .fresh) (.call .struck (.cons (.name .literal) (.cons (.name .old) .nil)))) (.cons (.ite (.cmp .eq (.name .fresh) (.tup .nil)) (.cons (.ret (.meth (.name .self) .fail (.cons (.bin .add (.ife (.cmp .is (.name .reasons) .none) (.tup .nil) (.name .reasons)) (.tup (.cons (.call .negation (.cons (.name .literal) .nil)) .nil))) .nil))) .nil) .nil) (.cons (.ite (.cmp .eq (.name .fresh) (.name .old)) (.cons (.ret (.bool true)) .nil) .nil) (.cons (.expr (.meth (.attr (.name .self) .trail) .append (.cons (.tup (.cons (.name .x) (.cons (.name .old) (.cons (.name .literal) (.cons (.name .reasons) (.cons (.name .speaker) .nil)))))) .nil))) (.cons (.assign (.sub (.attr (.name .self) .domains) (.name .x)) (.name .fresh)) (.cons (.assign (.sub (.attr (.name .self) .news) (.name .x)) (.bool true)) (.cons (.ret (.bool true)) .nil)))))))))
noncomputable def b_Store_strike:Ss:=(.cons (.ret (.meth (.name .self) .enter (.cons (.name .literal) (.cons (.call .tuple (.cons (.name .reasons) .nil)) (.cons (.attr (.name .self) .speaker) .nil))))) .nil)
noncomputable def b_Store_decide:Ss:=(.cons (.ret (.meth (.name .self) .enter (.cons (.name .literal) (.cons .none (.cons (.neg (.int 1)) .nil))))) .nil)
noncomputable def b_Store_fail:Ss:=(.cons (.assign (.attr (.name .self) .is_failed) (.bool true)) (.cons (.assign (.attr (.name .self) .clash) (.call .tuple (.cons (.name .reasons) .nil))) (.cons (.ret (.bool false)) .nil)))
noncomputable def b_Store_push:Ss:=(.cons (.expr (.meth (.attr (.name .self) .marks) .append (.cons (.call .len (.cons (.attr (.name .self) .trail) .nil)) .nil))) .nil)
noncomputable def b_Store_pop:Ss:=(.cons (.ite (.cmp .lt (.name .n) (.int 1)) (.cons (.ret .none) .nil) .nil) (.cons (.assign (.name .mark) (.sub (.attr (.name .self) .marks) (.bin .sub (.call .len (.cons (.attr (.name .self) .marks) .nil)) (.name .n)))) (.cons (.assign (.attr (.name .self) .marks) (.slice (.attr (.name .self) .marks) .none (.bin .sub (.call .len (.cons (.attr (.name .self) .marks) .nil)) (.name .n)))) (.cons (.whil (.cmp .gt (.call .len (.cons (.attr (.name .self) .trail) .nil)) (.name .mark)) (.cons (.assign (.name .entry) (.meth (.attr (.name .self) .trail) .pop .nil)) (.cons (.assign (.sub (.attr (.name .self) .domains) (.sub (.name .entry) (.int 0))) (.sub (.name .entry) (.int 1))) .nil))) (.cons (.assign (.attr (.name .self) .news) (.dict .nil)) (.cons (.assign (.attr (.name .self) .is_failed) (.cmp .mem (.tup .nil) (.attr (.name .self) .firsts))) (.cons (.assign (.attr (.name .self) .clash) (.tup .nil)) .nil)))))))
noncomputable def b_Store_depth:Ss:=(.cons (.ret (.call .len (.cons (.attr (.name .self) .marks) .nil))) .nil)
noncomputable def b_Propagator_init:Ss:=(.cons (.assign (.attr (.name .self) .number) (.neg (.int 1))) (.cons (.assign (.attr (.name .self) .scope) (.call .tuple (.cons (.name .scope) .nil))) (.cons (.assign (.attr (.name .self) .strength) (.name .strength)) .nil)))
noncomputable def b_Absolute_init:Ss:=(.cons (.expr (.sinit (.cons (.tup (.cons (.name .x) (.cons (.name .z) .nil))) (.cons (.str .values) .nil)))) .nil)
noncomputable def b_Absolute_propagate:Ss:=(.cons (.assign (.tup [.x,.z]) (.attr (.name .self) .scope)) (.cons (.ite (.or (.attr (.name .store) .is_failed) (.not (.meth (.name .store) .strike (.cons (.tup (.cons (.name .z) (.cons (.str .ge) (.cons (.int 0) .nil)))) (.cons (.tup .nil) .nil))))) (.cons (.ret (.bool false)) .nil) .nil) (.cons (.assign (.name .high) (.meth (.name .store) .high (.cons (.name .z) .nil))) (.cons (.ite (.not (.meth (.name .store) .strike (.cons (.tup (.cons (.name .x) (.cons (.str .le) (.cons (.name .high) .nil)))) (.cons (.tup (.cons (.tup (.cons (.name .z) (.cons (.str .le) (.cons (.name .high) .nil)))) .nil)) .nil)))) (.cons (.ret (.bool false)) .nil) .nil) (.cons (.ite (.not (.meth (.name .store) .strike (.cons (.tup (.cons (.name .x) (.cons (.str .ge) (.cons (.neg (.name .high)) .nil)))) (.cons (.tup (.cons (.tup (.cons (.name .z) (.cons (.str .le) (.cons (.name .high) .nil)))) .nil)) .nil)))) (.cons (.ret (.bool false)) .nil) .nil) (.cons (.forr (.name .v) (.e (.call .values (.cons (.call .minus (.cons (.meth (.name .store) .dom (.cons (.name .x) .nil)) (.cons (.call .join (.cons (.meth (.name .store) .dom (.cons (.name .z) .nil)) (.cons (.call .negated (.cons (.meth (.name .store) .dom (.cons (.name .z) .nil)) .nil)) .nil))) .nil))) .nil))) (.cons (.ite (.not (.meth (.name .store) .strike (.cons (.tup (.cons (.name .x) (.cons (.str .ne) (.cons (.name .v) .nil)))) (.cons (.tup (.cons (.tup (.cons (.name .z) (.cons (.str .ne) (.cons (.call .abs (.cons (.name .v) .nil)) .nil)))) .nil)) .nil)))) (.cons (.ret (.bool false)) .nil) .nil) .nil)) (.cons (.assign (.name .high) (.call .max (.cons (.call .abs (.cons (.meth (.name .store) .low (.cons (.name .x) .nil)) .nil)) (.cons (.call .abs (.cons (.meth (.name .store) .high (.cons (.name .x) .nil)) .nil)) .nil)))) (.cons (.ite (.not (.meth (.name .store) .strike (.cons (.tup (.cons (.name .z) (.cons (.str .le) (.cons (.name .high) .nil)))) (.cons (.tup (.cons (.tup (.cons (.name .x) (.cons (.str .ge) (.cons (.neg (.name .high)) .nil)))) (.cons (.tup (.cons (.name .x) (.cons (.str .le) (.cons (.name .high) .nil)))) .nil))) .nil)))) (.cons (.ret (.bool false)) .nil) .nil) (.cons (.forr (.name .v) (.e (.call .values (.cons (.call .minus (.cons (.meth (.name .store) .dom (.cons (.name .z) .nil)) (.cons (.call .join (.cons (.meth (.name .store) .dom (.cons (.name .x) .nil)) (.cons (.call .negated (.cons (.meth (.name .store) .dom (.cons (.name .x) .nil)) .nil)) .nil))) .nil))) .nil))) (.cons (.ite (.not (.meth (.name .store) .strike (.cons (.tup (.cons (.name .z) (.cons (.str .ne) (.cons (.name .v) .nil)))) (.cons (.tup (.cons (.tup (.cons (.name .x) (.cons (.str .ne) (.cons (.name .v) .nil)))) (.cons (.tup (.cons (.name .x) (.cons (.str .ne) (.cons (.neg (.name .v)) .nil)))) .nil))) .nil)))) (.cons (.ret (.bool false)) .nil) .nil) .nil)) (.cons (.ret (.bool true)) .nil))))))))))
noncomputable def b_law_far:Ss:=(.cons (.ret (.bin .pow (.int 10) (.int 40))) .nil)
noncomputable def b_law_draw:Ss:=(.cons (.assign (.name .at_) (.sub (.name .tub) (.str .at_))) (.cons (.assign (.sub (.name .tub) (.str .at_)) (.bin .add (.name .at_) (.int 1))) (.cons (.ite (.cmp .lt (.name .at_) (.call .len (.cons (.sub (.name .tub) (.str .cells)) .nil))) (.cons (.ret (.bin .mod (.sub (.sub (.name .tub) (.str .cells)) (.name .at_)) (.name .many))) .nil) .nil) (.cons (.ret (.bin .mod (.bin .mod (.bin .add (.bin .add (.bin .add (.bin .mul (.bin .mul (.int 7) (.name .at_)) (.name .at_)) (.bin .mul (.int 5) (.name .at_))) (.bin .mul (.int 3) (.call .len (.cons (.sub (.name .tub) (.str .cells)) .nil)))) (.int 2)) (.int 101)) (.name .many))) .nil))))
noncomputable def b_law_merged:Ss:=(.cons (.assign (.name .found) (.list .nil)) (.cons (.forr (.tup [.first,.last]) (.e (.call .sorted (.cons (.name .ranges) .nil))) (.cons (.ite (.and (.cmp .ne (.name .found) (.list .nil)) (.cmp .le (.name .first) (.bin .add (.sub (.sub (.name .found) (.neg (.int 1))) (.int 1)) (.int 1)))) (.cons (.assign (.sub (.name .found) (.neg (.int 1))) (.tup (.cons (.sub (.sub (.name .found) (.neg (.int 1))) (.int 0)) (.cons (.call .max (.cons (.name .last) (.cons (.sub (.sub (.name .found) (.neg (.int 1))) (.int 1)) .nil))) .nil)))) .nil) (.cons (.expr (.meth (.name .found) .append (.cons (.tup (.cons (.name .first) (.cons (.name .last) .nil))) .nil))) .nil)) .nil)) (.cons (.ret (.name .found)) .nil)))
noncomputable def b_law_common:Ss:=(.cons (.ret (.call .sorted (.cons (.comp2 (.tup (.cons (.call .max (.cons (.name .a) (.cons (.name .c) .nil))) (.cons (.call .min (.cons (.name .b) (.cons (.name .d) .nil))) .nil))) (.tup [.a,.b]) (.e (.name .some)) (.tup [.c,.d]) (.e (.name .others)) (.cons (.cmp .le (.call .max (.cons (.name .a) (.cons (.name .c) .nil))) (.call .min (.cons (.name .b) (.cons (.name .d) .nil)))) .nil) [(.a,.loc),(.b,.loc),(.c,.loc),(.d,.loc),(.max,.glo),(.min,.glo),(.others,.fre)]) .nil))) .nil)
noncomputable def b_law_mirrored:Ss:=(.cons (.ret (.comp (.tup (.cons (.bin .sub (.int 0) (.name .last)) (.cons (.bin .sub (.int 0) (.name .first)) .nil))) (.tup [.first,.last]) (.e (.name .ranges)) .nil [(.first,.loc),(.last,.loc)])) .nil)
noncomputable def b_law_cut:Ss:=(.cons (.assign (.tup [.sign,.k]) (.tup (.cons (.sub (.name .literal) (.int 1)) (.cons (.sub (.name .literal) (.int 2)) .nil)))) (.cons (.ite (.cmp .eq (.name .sign) (.str .ne)) (.cons (.ret (.call .law_common (.cons (.name .ranges) (.cons (.list (.cons (.tup (.cons (.bin .sub (.int 0) (.call .law_far .nil)) (.cons (.bin .sub (.name .k) (.int 1)) .nil))) (.cons (.tup (.cons (.bin .add (.name .k) (.int 1)) (.cons (.call .law_far .nil) .nil))) .nil))) .nil)))) .nil) .nil) (.cons (.ret (.call .law_common (.cons (.name .ranges) (.cons (.list (.cons (.tup (.cons (.ife (.cmp .eq (.name .sign) (.str .le)) (.bin .sub (.int 0) (.call .law_far .nil)) (.name .k)) (.cons (.ife (.cmp .eq (.name .sign) (.str .ge)) (.call .law_far .nil) (.name .k)) .nil))) .nil)) .nil)))) .nil)))
noncomputable def b_law_says:Ss:=(.cons (.assign (.tup [.sign,.k]) (.tup (.cons (.sub (.name .literal) (.int 1)) (.cons (.sub (.name .literal) (.int 2)) .nil)))) (.cons (.ret (.ife (.cmp .eq (.name .sign) (.str .le)) (.cmp .le (.name .v) (.name .k)) (.ife (.cmp .eq (.name .sign) (.str .ge)) (.cmp .ge (.name .v) (.name .k)) (.cmp .eq (.cmp .eq (.name .v) (.name .k)) (.cmp .eq (.name .sign) (.str .eq)))))) .nil))
noncomputable def b_law_cannot:Ss:=(.cons (.forr (.name .k) (.e (.bin .add (.list (.cons (.int 0) .nil)) (.comp (.sub (.name .one) (.int 2)) (.name .one) (.e (.name .some)) .nil [(.one,.loc)]))) (.cons (.forr (.name .v) (.e (.tup (.cons (.bin .sub (.name .k) (.int 1)) (.cons (.name .k) (.cons (.bin .add (.name .k) (.int 1)) (.cons (.bin .sub (.int 1) (.name .k)) (.cons (.bin .sub (.int 0) (.name .k)) (.cons (.bin .sub (.bin .sub (.int 0) (.name .k)) (.int 1)) .nil)))))))) (.cons (.ite (.and (.or (.cmp .ne (.name .x) (.name .z)) (.cmp .ge (.name .v) (.int 0))) (.cmp .eq (.comp (.name .one) (.name .one) (.e (.name .some)) (.cons (.not (.call .law_says (.cons (.name .one) (.cons (.ife (.cmp .eq (.sub (.name .one) (.int 0)) (.name .x)) (.name .v) (.call .abs (.cons (.name .v) .nil))) .nil)))) .nil) [(.one,.loc),(.law_says,.glo),(.abs,.glo),(.v,.fre),(.x,.fre)]) (.list .nil))) (.cons (.ret (.bool false)) .nil) .nil) .nil)) .nil)) (.cons (.ret (.bool true)) .nil))
noncomputable def b_law_due:Ss:=(.cons (.assign (.name .late) (.call .law_cut (.cons (.sub (.name .lots) (.name .z)) (.cons (.tup (.cons (.name .z) (.cons (.str .ge) (.cons (.int 0) .nil)))) .nil)))) (.cons (.ite (.cmp .eq (.name .x) (.name .z)) (.cons (.ret (.tup (.cons (.name .late) (.cons (.name .late) .nil)))) .nil) .nil) (.cons (.ret (.tup (.cons (.call .law_merged (.cons (.call .law_common (.cons (.sub (.name .lots) (.name .x)) (.cons (.bin .add (.name .late) (.call .law_mirrored (.cons (.name .late) .nil))) .nil))) .nil)) (.cons (.call .law_merged (.cons (.call .law_common (.cons (.name .late) (.cons (.bin .add (.sub (.name .lots) (.name .x)) (.call .law_mirrored (.cons (.sub (.name .lots) (.name .x)) .nil))) .nil))) .nil)) .nil)))) .nil)))
noncomputable def b_law_lots:Ss:=(.cons (.ret (.comp (.call .list (.cons (.meth (.name .desk) .dom (.cons (.name .y) .nil)) .nil)) (.name .y) (.e (.call .range (.cons (.meth (.name .desk) .size .nil) .nil))) .nil [(.y,.loc),(.list,.glo),(.desk,.fre)])) .nil)
noncomputable def b_law_run:Ss:=(.cons (.assign (.tup [.lots,.mark]) (.tup (.cons (.call .law_lots (.cons (.name .desk) .nil)) (.cons (.call .len (.cons (.attr (.name .desk) .trail) .nil)) .nil)))) (.cons (.assign (.tup [.due,.stands]) (.tup (.cons (.call .law_due (.cons (.name .lots) (.cons (.name .x) (.cons (.name .z) .nil)))) (.cons (.meth (.name .rule) .propagate (.cons (.name .desk) .nil)) .nil)))) (.cons (.forr (.tup [.y,.old,.literal,.reasons,.speaker]) (.e (.slice (.attr (.name .desk) .trail) (.name .mark) .none)) (.cons (.assign (.tup [.left,.some]) (.tup (.cons (.call .law_cut (.cons (.sub (.name .lots) (.name .y)) (.cons (.name .literal) .nil))) (.cons (.call .list (.cons (.name .reasons) .nil)) .nil)))) (.cons (.ite (.or (.cmp .ne (.sub (.name .literal) (.int 0)) (.name .y)) (.or (.cmp .ne (.call .tuple (.cons (.sub (.name .lots) (.name .y)) .nil)) (.name .old)) (.or (.cmp .eq (.name .left) (.list .nil)) (.cmp .eq (.name .left) (.sub (.name .lots) (.name .y)))))) (.cons (.ret .none) .nil) .nil) (.cons (.ite (.cmp .ne (.comp (.name .one) (.name .one) (.e (.name .some)) (.cons (.cmp .ne (.call .law_cut (.cons (.sub (.name .lots) (.sub (.name .one) (.int 0))) (.cons (.name .one) .nil))) (.sub (.name .lots) (.sub (.name .one) (.int 0)))) .nil) [(.one,.loc),(.law_cut,.glo),(.lots,.fre)]) (.list .nil)) (.cons (.ret .none) .nil) .nil) (.cons (.assign (.name .turned) (.dict (.cons .le (.tup (.cons (.name .y) (.cons (.str .ge) (.cons (.bin .add (.sub (.name .literal) (.int 2)) (.int 1)) .nil)))) (.cons .ge (.tup (.cons (.name .y) (.cons (.str .le) (.cons (.bin .sub (.sub (.name .literal) (.int 2)) (.int 1)) .nil)))) (.cons .ne (.tup (.cons (.name .y) (.cons (.str .eq) (.cons (.sub (.name .literal) (.int 2)) .nil)))) .nil))))) (.cons (.ite (.or (.cmp .nmem (.sub (.name .literal) (.int 1)) (.name .turned)) (.not (.call .law_cannot (.cons (.bin .add (.name .some) (.list (.cons (.sub (.name .turned) (.sub (.name .literal) (.int 1))) .nil))) (.cons (.name .x) (.cons (.name .z) .nil)))))) (.cons (.ret .none) .nil) .nil) (.cons (.assign (.sub (.name .lots) (.name .y)) (.name .left)) .nil))))))) (.cons (.ite (.or (.cmp .ne (.name .lots) (.call .law_lots (.cons (.name .desk) .nil))) (.or (.cmp .eq (.name .stands) (.attr (.name .desk) .is_failed)) (.cmp .ne (.name .stands) (.cmp .nmem (.list .nil) (.name .due))))) (.cons (.ret .none) .nil) .nil) (.cons (.ite (.not (.name .stands)) (.cons (.assign (.name .some) (.call .list (.cons (.attr (.name .desk) .clash) .nil))) (.cons (.ret (.ife (.and (.call .law_cannot (.cons (.name .some) (.cons (.name .x) (.cons (.name .z) .nil)))) (.cmp .eq (.comp (.name .one) (.name .one) (.e (.name .some)) (.cons (.cmp .ne (.call .law_cut (.cons (.sub (.name .lots) (.sub (.name .one) (.int 0))) (.cons (.name .one) .nil))) (.sub (.name .lots) (.sub (.name .one) (.int 0)))) .nil) [(.one,.loc),(.law_cut,.glo),(.lots,.fre)]) (.list .nil))) (.bool false) .none)) .nil)) .nil) (.cons (.assign (.name .mark) (.call .len (.cons (.attr (.name .desk) .trail) .nil))) (.cons (.ret (.ife (.and (.cmp .eq (.tup (.cons (.sub (.name .lots) (.name .x)) (.cons (.sub (.name .lots) (.name .z)) .nil))) (.name .due)) (.and (.meth (.name .rule) .propagate (.cons (.name .desk) .nil)) (.cmp .eq (.call .len (.cons (.attr (.name .desk) .trail) .nil)) (.name .mark)))) (.bool true) .none)) .nil)))))))
noncomputable def b_law_wide:Ss:=(.cons (.assign (.tup [.first,.xs,.zs]) (.tup (.cons (.call .law_draw (.cons (.name .tub) (.cons (.int 3) .nil))) (.cons (.list .nil) (.cons (.list .nil) .nil))))) (.cons (.forr (.name .lap) (.e (.call .range (.cons (.bin .add (.int 1) (.call .law_draw (.cons (.name .tub) (.cons (.int 3) .nil)))) .nil))) (.cons (.assign (.tup [.kind,.way]) (.tup (.cons (.call .law_draw (.cons (.name .tub) (.cons (.int 4) .nil))) (.cons (.call .law_draw (.cons (.name .tub) (.cons (.int 3) .nil))) .nil)))) (.cons (.assign (.name .last) (.bin .add (.name .first) (.sub (.tup (.cons (.int 0) (.cons (.call .law_draw (.cons (.name .tub) (.cons (.int 6) .nil))) (.cons (.bin .pow (.int 10) (.int 12)) (.cons (.bin .pow (.int 10) (.int 30)) .nil))))) (.name .kind)))) (.cons (.expr (.meth (.name .zs) .append (.cons (.tup (.cons (.name .first) (.cons (.name .last) .nil))) .nil))) (.cons (.expr (.meth (.name .xs) .extend (.cons (.sub (.list (.cons (.list (.cons (.tup (.cons (.name .first) (.cons (.name .last) .nil))) (.cons (.tup (.cons (.bin .sub (.int 0) (.name .last)) (.cons (.bin .sub (.int 0) (.name .first)) .nil))) .nil))) (.cons (.list (.cons (.tup (.cons (.name .first) (.cons (.name .last) .nil))) .nil)) (.cons (.list (.cons (.tup (.cons (.bin .sub (.int 0) (.name .last)) (.cons (.bin .sub (.int 0) (.name .first)) .nil))) .nil)) .nil)))) (.name .way)) .nil))) (.cons (.assign (.name .first) (.bin .add (.bin .add (.name .last) (.int 2)) (.sub (.tup (.cons (.int 0) (.cons (.int 3) (.cons (.bin .pow (.int 10) (.int 15)) .nil)))) (.call .law_draw (.cons (.name .tub) (.cons (.int 3) .nil)))))) .nil)))))) (.cons (.assign (.name .beyond) (.call .law_draw (.cons (.name .tub) (.cons (.int 6) .nil)))) (.cons (.ite (.cmp .eq (.name .beyond) (.int 1)) (.cons (.expr (.meth (.name .zs) .append (.cons (.tup (.cons (.name .first) (.cons (.bin .add (.name .first) (.bin .pow (.int 10) (.int 13))) .nil))) .nil))) .nil) .nil) (.cons (.ite (.or (.cmp .eq (.name .beyond) (.int 2)) (.cmp .eq (.name .beyond) (.int 3))) (.cons (.expr (.meth (.name .xs) .append (.cons (.ife (.cmp .eq (.name .beyond) (.int 2)) (.tup (.cons (.name .first) (.cons (.bin .add (.name .first) (.bin .pow (.int 10) (.int 13))) .nil))) (.tup (.cons (.bin .sub (.bin .sub (.int 0) (.name .first)) (.bin .pow (.int 10) (.int 13))) (.cons (.bin .sub (.int 0) (.name .first)) .nil)))) .nil))) .nil) .nil) (.cons (.ite (.cmp .gt (.name .beyond) (.int 3)) (.cons (.assign (.name .zs) (.bin .add (.ife (.cmp .eq (.call .law_draw (.cons (.name .tub) (.cons (.int 4) .nil))) (.int 3)) (.list .nil) (.name .zs)) (.list (.cons (.tup (.cons (.bin .sub (.int 0) (.bin .pow (.int 10) (.int 12))) (.cons (.neg (.int 1)) .nil))) .nil)))) .nil) .nil) (.cons (.assign (.name .lots) (.list (.cons (.call .law_merged (.cons (.name .xs) .nil)) (.cons (.call .law_merged (.cons (.name .zs) .nil)) .nil)))) (.cons (.forr (.name .lap) (.e (.call .range (.cons (.call .law_draw (.cons (.name .tub) (.cons (.int 4) .nil))) .nil))) (.cons (.assign (.name .side) (.call .law_draw (.cons (.name .tub) (.cons (.int 2) .nil)))) (.cons (.assign (.name .pair) (.sub (.sub (.name .lots) (.name .side)) (.call .law_draw (.cons (.name .tub) (.cons (.call .len (.cons (.sub (.name .lots) (.name .side)) .nil)) .nil))))) (.cons (.assign (.name .k) (.ife (.cmp .eq (.call .law_draw (.cons (.name .tub) (.cons (.int 2) .nil))) (.int 0)) (.bin .add (.sub (.name .pair) (.int 0)) (.call .law_draw (.cons (.name .tub) (.cons (.int 2) .nil)))) (.bin .sub (.sub (.name .pair) (.int 1)) (.call .law_draw (.cons (.name .tub) (.cons (.int 2) .nil)))))) (.cons (.assign (.name .left) (.call .law_cut (.cons (.sub (.name .lots) (.name .side)) (.cons (.tup (.cons (.name .side) (.cons (.str .ne) (.cons (.name .k) .nil)))) .nil)))) (.cons (.assign (.sub (.name .lots) (.name .side)) (.ife (.cmp .ne (.name .left) (.list .nil)) (.name .left) (.sub (.name .lots) (.name .side)))) .nil)))))) (.cons (.ret (.name .lots)) .nil)))))))))
noncomputable def b_law_few:Ss:=(.cons (.ret (.call .law_merged (.cons (.comp (.tup (.cons (.name .v) (.cons (.name .v) .nil))) (.name .v) (.e (.comp (.bin .add (.name .low) (.call .law_draw (.cons (.name .tub) (.cons (.name .many) .nil)))) (.name .lap) (.e (.call .range (.cons (.bin .add (.int 1) (.call .law_draw (.cons (.name .tub) (.cons (.int 6) .nil)))) .nil))) .nil [(.lap,.loc),(.law_draw,.glo),(.low,.fre),(.many,.fre),(.tub,.fre)])) .nil [(.v,.loc)]) .nil))) .nil)
noncomputable def b_law:Ss:=(.cons (.assign (.name .built) (.list (.cons (.int 1) (.cons (.int 0) (.cons (.int 0) (.cons (.int 0) (.cons (.int 3) (.cons (.int 0) (.cons (.int 2) (.cons (.int 0) (.cons (.int 0) (.cons (.int 0) (.cons (.int 3) .nil))))))))))))) (.cons (.assign (.tup [.tub,.desk]) (.tup (.cons (.dict (.cons .cells (.ife (.cmp .gt (.call .len (.cons (.name .script) .nil)) (.int 0)) (.call .list (.cons (.slice (.name .script) .none (.int 60)) .nil)) (.name .built)) (.cons .at_ (.int 0) .nil))) (.cons (.call .Store .nil) .nil)))) (.cons (.assign (.tup [.is_small,.turn]) (.tup (.cons (.cmp .eq (.call .law_draw (.cons (.name .tub) (.cons (.int 3) .nil))) (.int 0)) (.cons (.call .law_draw (.cons (.name .tub) (.cons (.int 5) .nil))) .nil)))) (.cons (.assign (.tup [.x,.z]) (.sub (.tup (.cons (.tup (.cons (.int 0) (.cons (.int 1) .nil))) (.cons (.tup (.cons (.int 1) (.cons (.int 0) .nil))) (.cons (.tup (.cons (.int 0) (.cons (.int 1) .nil))) (.cons (.tup (.cons (.int 1) (.cons (.int 0) .nil))) (.cons (.tup (.cons (.int 0) (.cons (.int 0) .nil))) .nil)))))) (.name .turn))) (.cons (.assign (.name .lots) (.ife (.name .is_small) (.list (.cons (.call .law_few (.cons (.name .tub) (.cons (.neg (.int 6)) (.cons (.int 13) .nil)))) (.cons (.call .law_few (.cons (.name .tub) (.cons (.neg (.int 2)) (.cons (.int 9) .nil)))) .nil))) (.call .law_wide (.cons (.name .tub) .nil)))) (.cons (.forr (.name .y) (.e (.call .range (.cons (.int 2) .nil))) (.cons (.expr (.meth (.name .desk) .new_var (.cons (.ife (.or (.cmp .ne (.name .x) (.name .z)) (.cmp .eq (.name .y) (.int 1))) (.call .tuple (.cons (.sub (.name .lots) (.ife (.cmp .eq (.name .y) (.name .x)) (.int 0) (.int 1))) .nil)) (.call .tuple (.cons (.call .law_merged (.cons (.bin .add (.sub (.name .lots) (.int 0)) (.sub (.name .lots) (.int 1))) .nil)) .nil))) .nil))) .nil)) (.cons (.assign (.tup [.rule,.kept]) (.tup (.cons (.call .Absolute (.cons (.name .x) (.cons (.name .z) .nil))) (.cons (.list (.cons (.call .law_lots (.cons (.name .desk) .nil)) .nil)) .nil)))) (.cons (.forr (.name .lap) (.e (.call .range (.cons (.bin .add (.int 1) (.call .law_draw (.cons (.name .tub) (.cons (.int 4) .nil)))) .nil))) (.cons (.expr (.meth (.name .desk) .push .nil)) (.cons (.assign (.name .stands) (.bool true)) (.cons (.ite (.cmp .gt (.name .lap) (.int 0)) (.cons (.assign (.name .y) (.sub (.tup (.cons (.name .x) (.cons (.name .z) .nil))) (.call .law_draw (.cons (.name .tub) (.cons (.int 2) .nil))))) (.cons (.assign (.name .pair) (.sub (.meth (.name .desk) .dom (.cons (.name .y) .nil)) (.call .law_draw (.cons (.name .tub) (.cons (.call .len (.cons (.meth (.name .desk) .dom (.cons (.name .y) .nil)) .nil)) .nil))))) (.cons (.assign (.name .sign) (.sub (.tup (.cons (.str .ne) (.cons (.str .le) (.cons (.str .ge) (.cons (.str .eq) .nil))))) (.call .law_draw (.cons (.name .tub) (.cons (.ife (.or (.name .is_small) (.cmp .eq (.name .x) (.name .z))) (.int 4) (.ife (.cmp .eq (.name .y) (.name .z)) (.int 2) (.int 1))) .nil))))) (.cons (.assign (.name .stands) (.meth (.name .desk) .decide (.cons (.tup (.cons (.name .y) (.cons (.name .sign) (.cons (.bin .sub (.bin .add (.sub (.name .pair) (.call .law_draw (.cons (.name .tub) (.cons (.int 2) .nil)))) (.call .law_draw (.cons (.name .tub) (.cons (.int 3) .nil)))) (.int 1)) .nil)))) .nil))) .nil)))) .nil) (.cons (.ite (.name .stands) (.cons (.assign (.name .stands) (.call .law_run (.cons (.name .rule) (.cons (.name .desk) (.cons (.name .x) (.cons (.name .z) .nil)))))) (.cons (.ite (.cmp .is (.name .stands) .none) (.cons (.ret (.bool false)) .nil) .nil) .nil)) .nil) (.cons (.ite (.name .stands) (.cons (.expr (.meth (.name .kept) .append (.cons (.call .law_lots (.cons (.name .desk) .nil)) .nil))) .nil) (.cons (.expr (.meth (.name .desk) .pop (.cons (.int 1) .nil))) (.cons (.ite (.or (.attr (.name .desk) .is_failed) (.and (.cmp .gt (.name .lap) (.int 0)) (.cmp .ne (.call .law_lots (.cons (.name .desk) .nil)) (.sub (.name .kept) (.neg (.int 1)))))) (.cons (.ret (.bool false)) .nil) .nil) (.cons (.ite (.cmp .eq (.name .lap) (.int 0)) (.cons .brk .nil) .nil) .nil)))) .nil)))))) (.cons (.expr (.meth (.name .desk) .pop (.cons (.meth (.name .desk) .depth .nil) .nil))) (.cons (.ret (.and (.cmp .eq (.call .law_lots (.cons (.name .desk) .nil)) (.sub (.name .kept) (.int 0))) (.not (.attr (.name .desk) .is_failed)))) .nil))))))))))
noncomputable def bodyOf:Fn→Ss
 | .put_behind=>b_put_behind
 | .least=>b_least
 | .greatest=>b_greatest
 | .size=>b_size
 | .values=>b_values
 | .up_to=>b_up_to
 | .from_on=>b_from_on
 | .without=>b_without
 | .meet=>b_meet
 | .join=>b_join
 | .minus=>b_minus
 | .negated=>b_negated
 | .negation=>b_negation
 | .struck=>b_struck
 | .Store_init=>b_Store_init
 | .Store_new_var=>b_Store_new_var
 | .Store_size=>b_Store_size
 | .Store_dom=>b_Store_dom
 | .Store_low=>b_Store_low
 | .Store_high=>b_Store_high
 | .Store_enter=>b_Store_enter
 | .Store_strike=>b_Store_strike
 | .Store_decide=>b_Store_decide
 | .Store_fail=>b_Store_fail
 | .Store_push=>b_Store_push
 | .Store_pop=>b_Store_pop
 | .Store_depth=>b_Store_depth
 | .Propagator_init=>b_Propagator_init
 | .Absolute_init=>b_Absolute_init
 | .Absolute_propagate=>b_Absolute_propagate
 | .law_far=>b_law_far
 | .law_draw=>b_law_draw
 | .law_merged=>b_law_merged
 | .law_common=>b_law_common
 | .law_mirrored=>b_law_mirrored
 | .law_cut=>b_law_cut
 | .law_says=>b_law_says
 | .law_cannot=>b_law_cannot
 | .law_due=>b_law_due
 | .law_lots=>b_law_lots
 | .law_run=>b_law_run
 | .law_wide=>b_law_wide
 | .law_few=>b_law_few
 | .law=>b_law
noncomputable def trBody (Γ:Fn→List AV→AH→P1→Prop) (lv:Fn→Nat) (f:Fn) (vs:List AV) (H:AH) (Q:P1):Prop:=
 vs.length=(params f).length∧trSs Γ lv (lv f) (bodyOf f) (initρ (scOf f) (params f) vs) H fun fl uu H'=>match fl with
  | .ret v=>ends Q v H'
  | .next=>ends Q .none H'
  | .brk=>False
end Internal
namespace Internal
open PySem PySem.W PyProof.Rows PySem.Challenge PySem.Calls
noncomputable def fnA:Fn→Addr
 | .put_behind=>69 | .least=>76 | .greatest=>83 | .size=>88 | .values=>109 | .up_to=>114 | .from_on=>119 | .without=>126
 | .meet=>133 | .join=>140 | .minus=>147 | .negated=>152 | .negation=>159 | .struck=>166 | .Store_init=>187 | .Store_new_var=>194
 | .Store_size=>201 | .Store_dom=>208 | .Store_low=>222 | .Store_high=>229 | .Store_enter=>271 | .Store_strike=>278 | .Store_decide=>285 | .Store_fail=>292
 | .Store_push=>299 | .Store_pop=>306 | .Store_depth=>313 | .Propagator_init=>341 | .Absolute_init=>385 | .Absolute_propagate=>399 | .law_far=>418 | .law_draw=>425
 | .law_merged=>432 | .law_common=>437 | .law_mirrored=>442 | .law_cut=>449 | .law_says=>456 | .law_cannot=>461 | .law_due=>468 | .law_lots=>473
 | .law_run=>478 | .law_wide=>485 | .law_few=>490 | .law=>497
noncomputable def clA:Cl→Addr
 | .store=>323 | .absolute=>409
noncomputable def needA:List Addr:=[sysModules,cStatics,mainGlobals,323,322,365,364,409,408,373]++(allFn.map fnA++allFn.map fun f=>fnA f - 1)
noncomputable def fragH (h:Heap):Frag:=needA.filterMap fun a=>(h.get? a).map fun o=>(a,o)
noncomputable def refV:Value→Option Addr
 | .ref a=>some a
 | _=>none
noncomputable def strV:Value→Option Str
 | .str q _=>some q
 | _=>none
noncomputable def bltV:Value→Option String
 | .builtin n=>some n
 | _=>none
noncomputable def typV:Value→Option String
 | .type n=>some n
 | _=>none
noncomputable def intV:Value→Option Int
 | .int i _=>some i
 | _=>none
noncomputable def nonV:Value→Bool
 | .none=>true
 | _=>false
noncomputable def stmB:FuncBody→Option (List Stmt)
 | .stmts b=>some b
 | _=>none
noncomputable def funD:Data→Option FuncData
 | .func fd=>some fd
 | _=>none
noncomputable def fldD:Data→Option (Array Value)
 | .fields vs=>some vs
 | _=>none
noncomputable def celD:Data→Option (Option Value)
 | .cell v=>some v
 | _=>none
noncomputable def one1 {α:Type}:List α→Option α
 | [x]=>some x
 | _=>none
noncomputable def isRef (r:Option (Option Value)) (a:Addr):Bool:=r.any fun r=>r.any fun v=>refV v==some a
noncomputable def isBlt (r:Option (Option Value)) (n:String):Bool:=r.any fun r=>r.any fun v=>bltV v==some n
noncomputable def isNon (r:Option (Option Value)):Bool:=r.any Option.isNone
noncomputable def goodCls (K:Frag) (c:Cl):Bool:=
 (clsIn K (clA c)).any (·.hasDict)&&(isBlt (findIn K (.ref (clA c)) (Str.ofString "__getattribute__")) "object.__getattribute__" && (isNon (findIn K (.ref (clA c)) (Str.ofString "__getattr__"))&&(isBlt (findIn K (.ref (clA c)) (Str.ofString "__setattr__")) "object.__setattr__" &&
 (plainOver K (clA c)&&(makesIn K (clA c)&&(isRef (findIn K (.ref (clA c)) (Str.ofString "__init__")) (fnA (initOf c))&&(keepIn K (.ref (clA c))&&
 (allNm.all fun x=>(!isFld x || isNon (findIn K (.ref (clA c)) x.s))&&(match methOf c x with | some f=>isRef (findIn K (.ref (clA c)) x.s) (fnA f) | none=>true)))))))))
noncomputable def codeOk (K:Frag) (fd:FuncData):Bool:=(refV fd.code).any fun c=>(K.lookup c).any fun o=>(fldD o.data).any fun vs=>(vs[1]?:Option Value).any fun v=>strV v==some fd.qualname
noncomputable def goodFn (K:Frag) (f:Fn):Bool:=(K.lookup (fnA f)).any fun o=>(funD o.data).any fun fd=>typV o.cls==some "function" && (fd.closure.isEmpty&&(nonV fd.defaults&&(fd.globals==mainGlobals&&(fd.builtins==builtinsNs&&codeOk K fd))))
noncomputable abbrev Txt:=List Stmt×Scope×Arguments
noncomputable def txtK (K:Frag) (f:Fn):Option Txt:=(K.lookup (fnA f)).bind fun o=>(funD o.data).bind fun fd=>(stmB fd.body).bind fun b=>some (b,fd.scope,fd.params)
noncomputable def goodInit (file:Str) (K:Frag):Bool:=(K.lookup (fnA .Absolute_init)).any fun o=>(funD o.data).any fun fd=>typV o.cls==some "function" && (
 ((one1 fd.closure).any fun p=>p.1==Str.ofString "__class__" && (K.lookup p.2).any fun o=>(celD o.data).any fun r=>r.any fun v=>refV v==some (clA .absolute))&&
 (nonV fd.defaults&&(fd.globals==mainGlobals&&(fd.builtins==builtinsNs&&(codeOk K fd&&
 (((refV fd.code).any fun c=>(K.lookup c).any fun o=>(fldD o.data).any fun vs=>(vs[2]?:Option Value).any fun v=>(strV v).any fun g=>file==g)&&(
 mroIn K (clA .absolute) (.ref (clA .absolute))==some true&&(isNon (nsIn K cStatics "thirdparty.any")&&(isRef (ks_superIn K (clA .absolute) (clA .absolute) (Str.ofString "__init__")) (fnA .Propagator_init)&&fnIn K (fnA .Propagator_init))))))))))
noncomputable def goodGl (K:Frag):Bool:=((nsIn K mainGlobals Nm.MOST_LISTED.s).any fun r=>r.any fun v=>intV v==some 1000000)&&((allNm.all fun x=>match calleeOf x with
 | some (.fn f)=>isRef (nsIn K mainGlobals x.s) (fnA f)
 | some (.cls c)=>isRef (nsIn K mainGlobals x.s) (clA c)
 | some (.bf _)=>isNon (nsIn K mainGlobals x.s)
 | none=>true)&&(isNon (nsIn K mainGlobals Nm.reversed.s)&&(isNon (nsIn K mainGlobals Nm.super.s)&&isRef (nsIn K mainGlobals Nm.law.s) (fnA .law))))
noncomputable def goodK (file:Str) (K:Frag):Bool:=(K.lookup sysModules).isSome&&(goodCls K .store&&(goodCls K .absolute&&((allFn.all fun f=>match f with | .Absolute_init=>true | f=>goodFn K f)&&(goodInit file K&&goodGl K))))
set_option backward.match.sparseCases false in
noncomputable def txtAt (i:Nat):Option Txt:=match pw_qd0016_01.main.body[i]? with
 | some (.FunctionDef _ a b _ _ _ sc _ _ _)=>some (b,sc,a)
 | _=>none
set_option backward.match.sparseCases false in
noncomputable def txtIn (i j:Nat):Option Txt:=match pw_qd0016_01.main.body[i]? with
 | some (.ClassDef _ _ _ b _ _ _ _ _ _ _)=>(match b[j]? with
  | some (.FunctionDef _ a b _ _ _ sc _ _ _)=>some (b,sc,a)
  | _=>none)
 | _=>none
set_option backward.match.sparseCases false in
noncomputable def txtP:Fn→Option Txt
 | .put_behind=>txtAt 6 | .least=>txtAt 7 | .greatest=>txtAt 8 | .size=>txtAt 9 | .values=>txtAt 13 | .up_to=>txtAt 14 | .from_on=>txtAt 15 | .without=>txtAt 16
 | .meet=>txtAt 17 | .join=>txtAt 18 | .minus=>txtAt 19 | .negated=>txtAt 20 | .negation=>txtAt 21 | .struck=>txtAt 22
 | .Store_init=>txtIn 25 0 | .Store_new_var=>txtIn 25 1 | .Store_size=>txtIn 25 2 | .Store_dom=>txtIn 25 3 | .Store_low=>txtIn 25 5 | .Store_high=>txtIn 25 6 | .Store_enter=>txtIn 25 12 | .Store_strike=>txtIn 25 13
 | .Store_decide=>txtIn 25 14 | .Store_fail=>txtIn 25 15 | .Store_push=>txtIn 25 16 | .Store_pop=>txtIn 25 17 | .Store_depth=>txtIn 25 18
 | .Propagator_init=>txtIn 26 0 | .Absolute_init=>txtIn 28 0 | .Absolute_propagate=>txtIn 28 2
 | .law_far=>txtAt 30 | .law_draw=>txtAt 31 | .law_merged=>txtAt 32 | .law_common=>txtAt 33 | .law_mirrored=>txtAt 34 | .law_cut=>txtAt 35 | .law_says=>txtAt 36 | .law_cannot=>txtAt 37
 | .law_due=>txtAt 38 | .law_lots=>txtAt 39 | .law_run=>txtAt 40 | .law_wide=>txtAt 41 | .law_few=>txtAt 42 | .law=>txtAt 43
noncomputable def txtsK (K:Frag):List (Option Txt):=[txtK K .put_behind,txtK K .least,txtK K .greatest,txtK K .size,txtK K .values,txtK K .up_to,txtK K .from_on,txtK K .without,txtK K .meet,txtK K .join,txtK K .minus,txtK K .negated,txtK K .negation,txtK K .struck,txtK K .Store_init,txtK K .Store_new_var,txtK K .Store_size,txtK K .Store_dom,txtK K .Store_low,txtK K .Store_high,txtK K .Store_enter,txtK K .Store_strike,txtK K .Store_decide,txtK K .Store_fail,txtK K .Store_push,txtK K .Store_pop,txtK K .Store_depth,txtK K .Propagator_init,txtK K .Absolute_init,txtK K .Absolute_propagate,txtK K .law_far,txtK K .law_draw,txtK K .law_merged,txtK K .law_common,txtK K .law_mirrored,txtK K .law_cut,txtK K .law_says,txtK K .law_cannot,txtK K .law_due,txtK K .law_lots,txtK K .law_run,txtK K .law_wide,txtK K .law_few,txtK K .law]
noncomputable def txtsP:List (Option Txt):=[txtP .put_behind,txtP .least,txtP .greatest,txtP .size,txtP .values,txtP .up_to,txtP .from_on,txtP .without,txtP .meet,txtP .join,txtP .minus,txtP .negated,txtP .negation,txtP .struck,txtP .Store_init,txtP .Store_new_var,txtP .Store_size,txtP .Store_dom,txtP .Store_low,txtP .Store_high,txtP .Store_enter,txtP .Store_strike,txtP .Store_decide,txtP .Store_fail,txtP .Store_push,txtP .Store_pop,txtP .Store_depth,txtP .Propagator_init,txtP .Absolute_init,txtP .Absolute_propagate,txtP .law_far,txtP .law_draw,txtP .law_merged,txtP .law_common,txtP .law_mirrored,txtP .law_cut,txtP .law_says,txtP .law_cannot,txtP .law_due,txtP .law_lots,txtP .law_run,txtP .law_wide,txtP .law_few,txtP .law]
noncomputable def seenH (s:Shared):Bool×List (Option Txt):=(goodK pw_qd0016_01.main.file (fragH s.heap),txtsK (fragH s.heap))
end Internal
namespace Internal
open PySem PySem.W PyProof.Rows PySem.Challenge
theorem ends_of_boot {p:Program} {N:Nat} {α:Type} {F:Shared→α} {V:World→α} (e:opening p=plainProg p.main.scope.names) (hN:Nat.ble 600 N=true) (f:∀ s,fenceModules? p s=some s)
  (h:∀ (w:World) (os:OsState),(topFrom treeTable p w N ⟨boot_heap w.params,Array.mk [],boot_drawn,boot_toks,os⟩).map F=some (V w)) (w:World):(openEnds treeTable p w N).map F=some (V w):=by
 obtain ⟨⟨h',gs,d,k,os⟩,e1,e2⟩:=Option.map_eq_some_iff.mp (boot_open (p:=p) (N:=N) e hN f w)
 obtain ⟨rfl,rfl,rfl,rfl⟩:h'=boot_heap w.params∧gs=Array.mk []∧d=boot_drawn∧k=boot_toks:=by simpa using e2
 unfold openEnds
 rw [e1]
 exact h w os
theorem left_two {p q:Program} {loose:List Str} {Xt:Shared→Bool} {α:Type} {Yf:Shared→α} {Ya:World→α} {N:Nat} {g0:Bool}
  (a:∀ w,(openEnds treeTable p w N).map (fun s=>openSeen q loose (importedModules p.main.body) Xt g0 s)=some (openGood q loose)) (b:∀ w,(openEnds treeTable p w N).map Yf=some (Ya w)):LeftO p q loose Xt Yf Ya N g0:=fun w=>by
 obtain ⟨s,e1,e2⟩:=Option.map_eq_some_iff.mp (a w)
 obtain ⟨s',e3,e4⟩:=Option.map_eq_some_iff.mp (b w)
 rw [e1] at e3
 cases e3
 rw [e1,Option.map_some,e2,e4]
theorem open_eq:opening pw_qd0016_01=plainProg pw_qd0016_01.main.scope.names:=by kernel_rfl
theorem open_fence (s:Shared):fenceModules? pw_qd0016_01 s=some s:=by kernel_rfl
set_option maxHeartbeats 0 in
theorem hFit (w:World) (os:OsState):(topFrom treeTable pw_qd0016_01 w 6220 ⟨boot_heap w.params,Array.mk [],boot_drawn,boot_toks,os⟩).map seenH=some (true,txtsP):=by
 unfold topFrom
 rw [PySem.W.Fast.te14082659384304107361,PySem.W.Fast.te14364793385576792824]
 kernel_rfl
end Internal
namespace Internal
open PySem PySem.W PyProof.Rows PySem.Challenge
theorem said_ok:rw_qd0016_01.wellSaid=true:=by kernel_rfl
theorem ok_top:(chainsOk qV&&opensWell rw_qd0016_01.row.prog&&(frees rw_qd0016_01.row.toRowW&&rw_qd0016_01.row.within.isEmpty))=true:=by decide +kernel
end Internal
namespace Internal
open PySem PySem.W PyProof.Rows
theorem ff {P:Prop} (h:false=true):P:=nomatch h
theorem ns {α:Type} {x:α} {P:Prop} (h:none=some x):P:=nomatch h
theorem an {a b:Bool} (h:(a&&b)=true):a=true∧b=true:=Bool.and_eq_true_iff.mp h
theorem nt:∀ {a:Bool},(!a)=true→a=false
 | false,_=>rfl
set_option backward.match.sparseCases false
mutual
inductive R (h:Heap) (D:Addr→Prop):AV→Value→Prop
 | none:R h D .none .none
 | bool (b):R h D (.bool b) (.bool b)
 | int (i t):R h D (.int i) (.int i t)
 | str (s:Sy) (t):R h D (.str s) (.str s.s t)
 | tup {a o vs n l}:h.get? a=some o→o.cls=.type "tuple" → o.data=.seq vs n→l.length≤LIM→RA h D l vs.toList→R h D (.tup l) (.ref a)
 | lst {a o vs n l}:h.get? a=some o→o.cls=.type "list" → o.data=.seq vs n→l.length≤LIM→¬ D a→RA h D l vs.toList→R h D (.lst l) (.ref a)
 | obj (a):R h D (.obj a) (.ref a)
 | rng {a lo hi t u v}:IsRange h a lo hi 1 t u v→R h D (.rng lo hi) (.ref a)
inductive RA (h:Heap) (D:Addr→Prop):List AV→List Value→Prop
 | nil:RA h D [] []
 | cons {x v l vs}:R h D x v→RA h D l vs→RA h D (x::l) (v::vs)
end
set_option backward.match.sparseCases true
section
variable {h h':Heap} {D D':Addr→Prop}
set_option backward.match.sparseCases false in
noncomputable def sf (o:Obj):Bool:=match o.data with
 | .seq _ _=>true
 | .fields _=>o.cls==.type "range"
 | _=>false
theorem sf_seq {o:Obj} {vs n} (e:o.data=.seq vs n):sf o=true:=by unfold sf; rw [e]
structure Stays (h:Heap) (D:Addr→Prop) (h':Heap) (D':Addr→Prop):Prop where
 obj:∀ a o,h.get? a=some o→sf o=true→(o.cls=.type "list" → ¬ D a)→h'.get? a=some o
 dom:∀ a o,h.get? a=some o→sf o=true→o.cls=.type "list" → ¬ D a→¬ D' a
theorem both_stays (S:Stays h D h' D') {C:Prop} (k:(∀ {x v},R h D x v→R h' D' x v)→(∀ {l vs},RA h D l vs→RA h' D' l vs)→C):C:=
 k (fun r=>R.rec (motive_1:=fun x v uu=>R h' D' x v) (motive_2:=fun l vs uu=>RA h' D' l vs) .none (fun b=>.bool b) (fun i t=>.int i t) (fun s t=>.str s t)
   (fun h1 h2 h3 h4 uu i=>.tup (S.obj _ _ h1 (sf_seq h3) (fun e=>by rw [h2] at e; exact absurd (Value.type.inj e) (by decide))) h2 h3 h4 i)
   (fun h1 h2 h3 h4 hd uu i=>.lst (S.obj _ _ h1 (sf_seq h3) (fun uu=>hd)) h2 h3 h4 (S.dom _ _ h1 (sf_seq h3) h2 hd) i) (fun a=>.obj a)
   (fun h1=>.rng (S.obj _ _ h1 rfl (fun e=>absurd (Value.type.inj e) (by decide)))) .nil (fun uu uu i j=>.cons i j) r)
  (fun r=>RA.rec (motive_1:=fun x v uu=>R h' D' x v) (motive_2:=fun l vs uu=>RA h' D' l vs) .none (fun b=>.bool b) (fun i t=>.int i t) (fun s t=>.str s t)
   (fun h1 h2 h3 h4 uu i=>.tup (S.obj _ _ h1 (sf_seq h3) (fun e=>by rw [h2] at e; exact absurd (Value.type.inj e) (by decide))) h2 h3 h4 i)
   (fun h1 h2 h3 h4 hd uu i=>.lst (S.obj _ _ h1 (sf_seq h3) (fun uu=>hd)) h2 h3 h4 (S.dom _ _ h1 (sf_seq h3) h2 hd) i) (fun a=>.obj a)
   (fun h1=>.rng (S.obj _ _ h1 rfl (fun e=>absurd (Value.type.inj e) (by decide)))) .nil (fun uu uu i j=>.cons i j) r)
theorem R.stays (S:Stays h D h' D') {x:AV} {v:Value} (r:R h D x v):R h' D' x v:=both_stays S fun k uu=>k r
theorem RA.stays (S:Stays h D h' D') {l:List AV} {vs:List Value} (r:RA h D l vs):RA h' D' l vs:=both_stays S fun uu k=>k r
theorem RA.ind {P:List AV→List Value→Prop} (n:P [] []) (c:∀ {x v l vs},R h D x v→RA h D l vs→P l vs→P (x::l) (v::vs)) {l:List AV} {vs:List Value} (r:RA h D l vs):P l vs:=
 RA.rec (motive_1:=fun uu uu uu=>True) (motive_2:=fun l vs uu=>P l vs) trivial (fun uu=>trivial) (fun uu uu=>trivial) (fun uu uu=>trivial) (fun uu uu uu uu uu uu=>trivial) (fun uu uu uu uu uu uu uu=>trivial) (fun uu=>trivial) (fun uu=>trivial) n (fun a b uu i=>c a b i) r
theorem RA.length {l:List AV} {vs:List Value} (r:RA h D l vs):vs.length=l.length:=r.ind (P:=fun l vs=>vs.length=l.length) rfl fun uu uu i=>congrArg (· + 1) i
theorem RA.get {l:List AV} {vs:List Value} (r:RA h D l vs) {i:Nat} {x:AV} (e:l[i]?=some x):∃ v,vs[i]?=some v∧R h D x v:=
 r.ind (P:=fun l vs=>∀ i x,l[i]?=some x→∃ v,vs[i]?=some v∧R h D x v) (fun uu uu e=>by cases e) (fun a uu k i x e=>match i,e with
  | 0,e=>Option.some.inj e▸⟨_,rfl,a⟩
  | i+1,e=>k i x e) i x e
theorem RA.append {l m:List AV} {vs ws:List Value} (r:RA h D l vs) (k:RA h D m ws):RA h D (l++m) (vs++ws):=r.ind (P:=fun l vs=>RA h D (l++m) (vs++ws)) k fun a uu i=>.cons a i
theorem RA.one {x:AV} {v:Value} (h1:R h D x v):RA h D [x] [v]:=.cons h1 .nil
theorem RA.set {l:List AV} {vs:List Value} (r:RA h D l vs) (i:Nat) {x:AV} {v:Value} (k:R h D x v):RA h D (l.set i x) (vs.set i v):=
 r.ind (P:=fun l vs=>∀ i,RA h D (l.set i x) (vs.set i v)) (fun uu=>.nil) (fun a b j i=>match i with
  | 0=>.cons k b
  | i+1=>.cons a (j i)) i
theorem RA.take {l:List AV} {vs:List Value} (r:RA h D l vs) (n:Nat):RA h D (l.take n) (vs.take n):=
 r.ind (P:=fun l vs=>∀ n,RA h D (l.take n) (vs.take n)) (fun n=>by rw [List.take_nil,List.take_nil]; exact .nil) (fun a b j n=>match n with
  | 0=>.nil
  | n+1=>.cons a (j n)) n
theorem RA.drop {l:List AV} {vs:List Value} (r:RA h D l vs) (n:Nat):RA h D (l.drop n) (vs.drop n):=
 r.ind (P:=fun l vs=>∀ n,RA h D (l.drop n) (vs.drop n)) (fun n=>by rw [List.drop_nil,List.drop_nil]; exact .nil) (fun a b j n=>match n with
  | 0=>.cons a b
  | n+1=>j n) n
theorem RA.reverse {l:List AV} {vs:List Value} (r:RA h D l vs):RA h D l.reverse vs.reverse:=
 r.ind (P:=fun l vs=>RA h D l.reverse vs.reverse) .nil fun a uu j=>by rw [List.reverse_cons,List.reverse_cons]; exact j.append (.one a)
theorem RA.snoc {l:List AV} {x:AV}:∀ {vs:List Value},RA h D (l++[x]) vs→∃ ws v,vs=ws++[v]∧RA h D l ws∧R h D x v:=by
 induction l with
 | nil=>intro vs r; cases r with | cons h1 r=>cases r; exact ⟨[],_,rfl,.nil,h1⟩
 | cons y l ih=>intro vs r; cases r with | cons h1 r=>obtain ⟨ws,v,rfl,a,b⟩:=ih r; exact ⟨_::ws,v,rfl,.cons h1 a,b⟩
end
set_option backward.match.sparseCases false in
noncomputable abbrev dom (H:AH):Addr→Prop:=fun a=>H a≠none
structure Adr where
 prog:Program
 w:World
 cls:Cl→Addr
 fn:Fn→Addr
 K:Frag
 hb:Heap
 Z:Addr→Prop
set_option backward.match.sparseCases false in
noncomputable def dm (κ:Adr) (H:AH):Addr→Prop:=fun a=>dom H a∨κ.Z a
set_option backward.match.sparseCases false in
noncomputable abbrev instO (C dx:Addr):Obj:={ cls:=.ref C,dict:=some dx,data:=.plain }
set_option backward.match.sparseCases false in
noncomputable def DNs (h:Heap) (a:Addr) (m:Str→Option Value) (n:Nat):Prop:=∃ o es ep,h.get? a=some o∧o.data=.dict es ep∧StrKeys es∧(∀ name,nsFind es name=m name)∧es.size≤n
theorem DNs.ns {h:Heap} {a:Addr} {m:Str→Option Value} {n:Nat} (x:DNs h a m n):h.Ns a m:=let ⟨o,es,ep,e,d,k,f,_⟩:=x; ⟨o,es,ep,e,d,k,f⟩
theorem ns_dict {h:Heap} {a:Addr} {m:Str→Option Value} (x:h.Ns a m):∃ ob,h.get? a=some ob∧(sf ob=true→ob.cls=.type "list"):=let ⟨o,_,_,e,d,_⟩:=x; ⟨o,e,fun q=>by unfold sf at q; rw [d] at q; cases q⟩
inductive RK (h:Heap) (D:Addr→Prop):List (Sy×AV)→List (Str×Value)→Prop
 | nil:RK h D [] []
 | cons {x v w l m}:R h D v w→RK h D l m→RK h D ((x,v)::l) ((x.s,w)::m)
theorem RK.stays {h h':Heap} {D D':Addr→Prop} (S:Stays h D h' D'):∀ {l m},RK h D l m→RK h' D' l m
 | _,_,.nil=>.nil
 | _,_,.cons r k=>.cons (r.stays S) (k.stays S)
theorem dictOf_obj {K:Type} [DecidableEq K] {prog:Program} {w:World} {knd:PySem.KeyKind prog w K} {h:Heap} {a:Addr} {kvs:List (K×Value)} (x:h.DictOf knd a kvs):
  ∃ ob,h.get? a=some ob∧(sf ob=true→ob.cls=.type "list"):=by
 refine byc fun hNN=>?_
 obtain ⟨o,es,ep,e,c,d,r⟩:=x
 refine hNN ?_
 exact ⟨o,e,fun q=>by unfold sf at q; rw [d] at q; cases q⟩
theorem dictOf_at {K:Type} [DecidableEq K] {prog:Program} {w:World} {knd:PySem.KeyKind prog w K} {h h':Heap} {a:Addr} {kvs:List (K×Value)} (x:h.DictOf knd a kvs)
  (hk:∀ ob,h.get? a=some ob→h'.get? a=some ob):h'.DictOf knd a kvs:=by
 refine byc fun hNN=>?_
 obtain ⟨o,es,ep,e,r⟩:=x
 refine hNN ?_
 exact ⟨o,es,ep,hk _ e,r⟩
set_option backward.match.sparseCases false in
noncomputable def AOR (κ:Adr) (h:Heap) (D:Addr→Prop) (a:Addr):AO→Prop
 | .list l=>∃ vs n,h.get? a=some { cls:=.type "list",data:=.seq vs n }∧l.length≤LIM∧RA h D l vs.toList
 | .inst c dx=>h.get? a=some (instO (κ.cls c) dx)
 | .ns fs=>∃ m,DNs h a m fs.length∧(∀ x v,lkF fs x=some v→∃ w,m x.s=some w∧R h D v w)∧(∀ x:Nm,lkF fs x=none→m x.s=none)
 | .sdict kvs=>∃ m,h.DictOf (strKind κ.prog κ.w) a m∧RK h D kvs m∧kvs.length≤100
 | .news=>∃ m:List (Int×Value),h.DictOf (intKind κ.prog κ.w) a m∧∀ p∈m,p.1=0∨p.1=1
structure Real (κ:Adr) (H:AH) (h:Heap):Prop where
 at_:∀ a o,H a=some o→AOR κ h (dm κ H) a o
 base:∀ b o,κ.hb.get? b=some o→h.get? b=some o
 off:∀ a,H a≠none→κ.hb.get? a=none
 zl:∀ a,κ.Z a→h.get? a≠none
theorem AOR.alive {κ:Adr} {h:Heap} {D:Addr→Prop} {a:Addr} {o:AO} (x:AOR κ h D a o):∃ ob,h.get? a=some ob∧(sf ob=true→ob.cls=.type "list"):=by
 cases o with
 | list l=>obtain ⟨vs,n,e,_⟩:=x; exact ⟨_,e,fun uu=>rfl⟩
 | inst c dx=>exact ⟨_,x,fun e=>by cases e⟩
 | ns fs=>obtain ⟨m,e,c,_⟩:=x; exact ns_dict e.ns
 | sdict kvs=>obtain ⟨m,e,_⟩:=x; exact dictOf_obj e
 | news=>obtain ⟨m,e,_⟩:=x; exact dictOf_obj e
structure Step (D:Addr→Prop) (s s':Shared):Prop where
 same:∃ h' tk,s'={ s with heap:=h',toks:=tk }
 keep:∀ b o,¬ D b→s.heap.get? b=some o→s'.heap.get? b=some o
 live:∀ b,s.heap.get? b≠none→s'.heap.get? b≠none
theorem Step.refl (D:Addr→Prop) (s:Shared):Step D s s:=⟨⟨s.heap,s.toks,rfl⟩,fun uu uu uu e=>e,fun uu e=>e⟩
theorem Step.of_keeps {D:Addr→Prop} {s:Shared} {h':Heap} {tk:Nat} (hk:∀ b o,s.heap.get? b=some o→h'.get? b=some o):Step D s { s with heap:=h',toks:=tk }:=
 ⟨⟨h',tk,rfl⟩,fun b o uu e=>hk b o e,fun b e=>by
  cases q:s.heap.get? b with
  | none=>exact absurd q e
  | some o=>rw [hk b o q]; simp⟩
theorem Step.trans {D D':Addr→Prop} {s s₁ s₂:Shared} (x:Step D s s₁) (hD:∀ a,D' a→D a∨s.heap.get? a=none) (y:Step D' s₁ s₂):Step D s s₂:=by
 refine byc fun hNN=>?_
 obtain ⟨⟨h1,t1,rfl⟩,k1,l1⟩:=x
 obtain ⟨⟨h2,t2,rfl⟩,k2,l2⟩:=y
 refine hNN ?_
 refine ⟨⟨h2,t2,rfl⟩,fun b o hb e=>k2 b o (fun hd=>?_) (k1 b o hb e),fun b e=>l2 b (l1 b e)⟩
 rcases hD b hd with h | h
 ·exact hb h
 ·rw [e] at h; cases h
theorem Step.mono {D D':Addr→Prop} {s s':Shared} (x:Step D s s') (hD:∀ a,D a→D' a):Step D' s s':=⟨x.same,fun b o hb e=>x.keep b o (fun h=>hb (hD b h)) e,x.live⟩
set_option backward.match.sparseCases false in
noncomputable def Grow (D:Addr→Prop) (s:Shared) (D':Addr→Prop):Prop:=∀ a,D' a→D a∨s.heap.get? a=none
theorem Grow.refl (D:Addr→Prop) (s:Shared):Grow D s D:=fun uu h=>.inl h
theorem Grow.trans {D D₁ D₂ D₀:Addr→Prop} {s s₁:Shared} (x:Grow D s D₁) (st:Step D₀ s s₁) (y:Grow D₁ s₁ D₂):Grow D s D₂:=fun a h=>by
 rcases y a h with h | h
 ·exact x a h
 ·refine .inr ?_
  cases q:s.heap.get? a with
  | none=>rfl
  | some o=>exact absurd h (st.live a (by rw [q]; simp))
theorem stays_of {κ:Adr} {H H':AH} {O:Addr→Prop} {s s':Shared} (Rl:Real κ H s.heap) (st:Step (fun a=>dom H a∨O a) s s') (g:Grow (dom H) s (dom H'))
  (hO:∀ a o,O a→s.heap.get? a=some o→sf o=true→o.cls=.type "list" ∧ κ.Z a):Stays s.heap (dm κ H) s'.heap (dm κ H'):=by
 refine ⟨fun a o e hs hl=>st.keep a o (fun hd=>?_) e,fun a o e uu uu hn hd=>?_⟩
 ·rcases hd with hd | hd
  ·cases q:H a with
   | none=>exact hd q
   | some ao=>
    obtain ⟨ob,e',c⟩:=(Rl.at_ a ao q).alive
    rw [e] at e'; cases e'
    exact hl (c hs) (.inl hd)
  ·obtain ⟨c,z⟩:=hO a o hd e hs
   exact hl c (.inr z)
 ·rcases hd with hd | hd
  ·rcases g a hd with h | h
   ·exact hn (.inl h)
   ·rw [e] at h; cases h
  ·exact hn (.inr hd)
theorem AOR.stays {κ:Adr} {h h':Heap} {D D':Addr→Prop} {a:Addr} {o:AO} (x:AOR κ h D a o) (S:Stays h D h' D') (hk:∀ ob,h.get? a=some ob→h'.get? a=some ob):AOR κ h' D' a o:=by
 cases o with
 | list l=>obtain ⟨vs,n,e,z,r⟩:=x; exact ⟨vs,n,hk _ e,z,r.stays S⟩
 | inst c dx=>exact hk _ x
 | ns fs=>
  obtain ⟨m,⟨oo,es,n,e,k⟩,p,q⟩:=x
  exact ⟨m,⟨oo,es,n,hk _ e,k⟩,fun y v hv=>let ⟨w,a,b⟩:=p y v hv; ⟨w,a,b.stays S⟩,q⟩
 | sdict kvs=>obtain ⟨m,e,r,z⟩:=x; exact ⟨m,dictOf_at e hk,r.stays S,z⟩
 | news=>obtain ⟨m,e,r⟩:=x; exact ⟨m,dictOf_at e hk,r⟩
structure Ext (κ:Adr) (H:AH) (s:Shared) (H':AH) (s':Shared):Prop where
 real:Real κ H' s'.heap
 step:Step (dom H) s s'
 grow:Grow (dom H) s (dom H')
theorem Ext.refl {κ:Adr} {H:AH} {s:Shared} (Rl:Real κ H s.heap):Ext κ H s H s:=⟨Rl,.refl _ _,.refl _ _⟩
theorem Ext.trans {κ:Adr} {H H₁ H₂:AH} {s s₁ s₂:Shared} (x:Ext κ H s H₁ s₁) (y:Ext κ H₁ s₁ H₂ s₂):Ext κ H s H₂ s₂:=
 ⟨y.real,x.step.trans x.grow y.step,x.grow.trans x.step y.grow⟩
theorem Ext.stays {κ:Adr} {H H':AH} {s s':Shared} (x:Ext κ H s H' s') (Rl:Real κ H s.heap):Stays s.heap (dm κ H) s'.heap (dm κ H'):=
 stays_of (O:=fun uu=>False) Rl (x.step.mono fun uu h=>.inl h) x.grow (fun uu uu h=>h.elim)
theorem Real.keeps {κ:Adr} {H:AH} {s:Shared} {h':Heap} (Rl:Real κ H s.heap) (hk:∀ b o,s.heap.get? b=some o→h'.get? b=some o):Real κ H h':=
 have S:Stays s.heap (dm κ H) h' (dm κ H):=⟨fun a o e uu uu=>hk a o e,fun uu uu uu uu uu h=>h⟩
 ⟨fun a o e=>(Rl.at_ a o e).stays S (hk a),fun b o e=>hk b o (Rl.base b o e),Rl.off,fun a z q=>by
  cases e:s.heap.get? a with
  | none=>exact Rl.zl a z e
  | some o=>rw [hk a o e] at q; cases q⟩
theorem Ext.of_keeps {κ:Adr} {H:AH} {s:Shared} {h':Heap} {tk:Nat} (Rl:Real κ H s.heap) (hk:∀ b o,s.heap.get? b=some o→h'.get? b=some o):Ext κ H s H { s with heap:=h',toks:=tk }:=
 ⟨Rl.keeps hk,.of_keeps hk,.refl _ _⟩
theorem dom_upd {H:AH} {a b:Addr} {o:AO}:dom (upd H a o) b↔b=a∨dom H b:=by
 unfold dom upd
 by_cases h:b=a<;>simp [h]
theorem dm_upd {κ:Adr} {H:AH} {a b:Addr} {o:AO}:dm κ (upd H a o) b↔b=a∨dm κ H b:=by
 unfold dm
 rw [dom_upd]
 exact or_assoc
theorem live_of {h h':Heap} {b:Addr} (l:h.get? b≠none) (k:∀ o,h.get? b=some o→h'.get? b=some o):h'.get? b≠none:=by
 cases e:h.get? b with
 | none=>exact absurd e l
 | some o=>rw [k o e]; simp
theorem Ext.new {κ:Adr} {H:AH} {s:Shared} {h':Heap} {tk:Nat} {a:Addr} {o:AO} (Rl:Real κ H s.heap) (hk:∀ b o,s.heap.get? b=some o→h'.get? b=some o) (hn:s.heap.get? a=none)
  (ho:AOR κ h' (dm κ (upd H a o)) a o):Ext κ H s (upd H a o) { s with heap:=h',toks:=tk }:=by
 have S:Stays s.heap (dm κ H) h' (dm κ (upd H a o)):=⟨fun a o e uu uu=>hk a o e,fun b ob e uu uu hd hd'=>by
  rcases dm_upd.mp hd' with rfl | h
  ·rw [hn] at e; cases e
  ·exact hd h⟩
 refine ⟨⟨fun b ob e=>?_,fun b ob e=>hk b ob (Rl.base b ob e),fun b hb=>?_,fun b z=>live_of (Rl.zl b z) (hk b)⟩,.of_keeps hk,fun b hb=>?_⟩
 ·by_cases h:b=a
  ·subst h; simp only [upd,if_true] at e; cases e; exact ho
  ·simp only [upd,if_neg h] at e; exact (Rl.at_ b ob e).stays S (hk b)
 ·rcases dom_upd.mp hb with rfl | h
  ·cases q:κ.hb.get? b with
   | none=>rfl
   | some ob=>rw [Rl.base b ob q] at hn; cases hn
  ·exact Rl.off b h
 ·rcases dom_upd.mp hb with rfl | h
  ·exact .inr hn
  ·exact .inl h
theorem Ext.made {κ:Adr} {H H₁:AH} {s s₁:Shared} {h':Heap} {tk:Nat} {a:Addr} {o:AO} {oa:Obj} (Rl:Real κ H s.heap) (x:Ext κ H s H₁ s₁) (hn:s.heap.get? a=none) (ha:s₁.heap.get? a=some oa) (hc:oa.cls≠.type "list") (hs:sf oa=false) (hd:H₁ a=none)
  (hk:∀ b o,b≠a→s₁.heap.get? b=some o→h'.get? b=some o) (ho:Stays s₁.heap (dm κ H₁) h' (dm κ (upd H₁ a o))→AOR κ h' (dm κ (upd H₁ a o)) a o):Ext κ H s (upd H₁ a o) { s₁ with heap:=h',toks:=tk }:=by
 have S:Stays s₁.heap (dm κ H₁) h' (dm κ (upd H₁ a o)):=⟨fun b ob e q uu=>hk b ob (fun e'=>by subst e'; rw [ha] at e; cases e; rw [hs] at q; cases q) e,fun b ob e uu c hd hd'=>by
  rcases dm_upd.mp hd' with rfl | h
  ·rw [ha] at e; cases e; exact hc c
  ·exact hd h⟩
 have hnb:∀ b,s.heap.get? b≠none→b≠a:=fun b hb e=>by subst e; exact hb hn
 obtain ⟨⟨h1,t1,rfl⟩,k1,l1⟩:=x.step
 obtain ⟨oa',ea',_⟩:=(ho S).alive
 refine ⟨⟨fun b ob e=>?_,fun b ob e=>?_,fun b hb=>?_,fun b z=>live_of (x.real.zl b z) fun o' e'=>hk b o' (hnb b (Rl.zl b z)) e'⟩,⟨⟨h',tk,rfl⟩,fun b ob hb e=>?_,fun b hb=>?_⟩,fun b hb=>?_⟩
 ·by_cases h:b=a
  ·subst h; simp only [upd,if_true] at e; cases e; exact ho S
  ·simp only [upd,if_neg h] at e; exact (x.real.at_ b ob e).stays S (fun o' e'=>hk b o' h e')
 ·by_cases h:b=a
  ·subst h
   rw [Rl.base b ob e] at hn; cases hn
  ·exact hk b ob h (x.real.base b ob e)
 ·rcases dom_upd.mp hb with rfl | h
  ·cases q:κ.hb.get? b with
   | none=>rfl
   | some ob=>rw [Rl.base b ob q] at hn; cases hn
  ·exact x.real.off b h
 ·exact hk b ob (hnb b (by rw [e]; simp)) (k1 b ob hb e)
 ·cases q:h1.get? b with
  | none=>exact absurd q (l1 b hb)
  | some ob=>show h'.get? b≠none; rw [hk b ob (hnb b hb) q]; simp
 ·rcases dom_upd.mp hb with rfl | h
  ·exact .inr hn
  ·exact x.grow b h
theorem Ext.turn {κ:Adr} {H:AH} {s:Shared} {h':Heap} {tk:Nat} {a:Addr} {o:AO} (Rl:Real κ H s.heap) (ha:H a≠none) (hk:∀ b o,b≠a→s.heap.get? b=some o→h'.get? b=some o)
  (ho:(Stays s.heap (dm κ H) h' (dm κ (upd H a o)))→AOR κ h' (dm κ (upd H a o)) a o):Ext κ H s (upd H a o) { s with heap:=h',toks:=tk }:=by
 have hd:∀ b,dom (upd H a o) b↔dom H b:=fun b=>by
  rw [dom_upd]; exact ⟨fun h=>h.elim (fun e=>e▸ha) id,.inr⟩
 have hm:∀ b,dm κ (upd H a o) b↔dm κ H b:=fun b=>by unfold dm; rw [hd]
 obtain ⟨ao,hao⟩:=Option.ne_none_iff_exists'.mp ha
 obtain ⟨oa,ea,ca⟩:=(Rl.at_ a ao hao).alive
 have S:Stays s.heap (dm κ H) h' (dm κ (upd H a o)):=⟨fun b ob e hs hl=>hk b ob (fun e'=>by subst e'; rw [ea] at e; cases e; exact hl (ca hs) (.inl ha)) e,fun b ob e uu uu hn hn'=>hn ((hm b).mp hn')⟩
 have ho:=ho S
 obtain ⟨oa',ea',_⟩:=ho.alive
 have lv:∀ b,s.heap.get? b≠none→h'.get? b≠none:=fun b hb=>by
  by_cases h:b=a
  ·subst h; rw [ea']; simp
  ·exact live_of hb fun o' e'=>hk b o' h e'
 refine ⟨⟨fun b ob e=>?_,fun b ob e=>?_,fun b hb=>Rl.off b ((hd b).mp hb),fun b z=>lv b (Rl.zl b z)⟩,⟨⟨h',tk,rfl⟩,fun b ob hb e=>hk b ob (fun e'=>hb (e'▸ha)) e,lv⟩,fun b hb=>.inl ((hd b).mp hb)⟩
 ·by_cases h:b=a
  ·subst h; simp only [upd,if_true] at e; cases e; exact ho
  ·simp only [upd,if_neg h] at e; exact (Rl.at_ b ob e).stays S (fun o' e'=>hk b o' h e')
 ·refine hk b ob (fun e'=>?_) (Rl.base b ob e)
  subst e'; rw [Rl.off b ha] at e; cases e
theorem R.ext {κ:Adr} {H H':AH} {s s':Shared} {x:AV} {v:Value} (r:R s.heap (dm κ H) x v) (Rl:Real κ H s.heap) (e:Ext κ H s H' s'):R s'.heap (dm κ H') x v:=r.stays (e.stays Rl)
theorem RA.ext {κ:Adr} {H H':AH} {s s':Shared} {x:List AV} {v:List Value} (r:RA s.heap (dm κ H) x v) (Rl:Real κ H s.heap) (e:Ext κ H s H' s'):RA s'.heap (dm κ H') x v:=r.stays (e.stays Rl)
set_option backward.match.sparseCases false in
noncomputable def Held (h:Heap) (D:Addr→Prop) (v:AV) (ov:Option Value):Prop:=v=.unb∨∃ w,ov=some w∧R h D v w
inductive CelAt (h:Heap) (D:Addr→Prop) (env:Env) (O:Addr→Prop) (x:Nm) (v:AV):Prop
 | mk (k:env.kindOf x.s=some .cell) (c:Addr) (ov:Option Value) (l:env.cells.lookup x.s=some c) (o:O c) (i:h.IsCell c ov) (w:Held h D v ov)
inductive FreAt (h:Heap) (κ:Adr) (H:AH) (env:Env) (O:Addr→Prop) (x:Nm) (v:AV):Prop
 | mk (k:env.kindOf x.s=some .free∨env.kindOf x.s=some .cell) (c:Addr) (ov:Option Value) (l:env.cells.lookup x.s=some c) (o:¬ O c) (d:¬ dom H c) (i:h.IsCell c ov) (w:Held h (dm κ H) v ov)
inductive OffAt (κ:Adr) (H:AH) (h:Heap) (a:Addr):Prop
 | mk (d:¬ dom H a) (b:κ.hb.get? a=none) (o:Obj) (e:h.get? a=some o) (f:sf o=false)
theorem OffAt.d {κ:Adr} {H:AH} {h:Heap} {a:Addr}:OffAt κ H h a→¬ dom H a
 | ⟨d,_,_,_,_⟩=>d
theorem OffAt.of {κ:Adr} {H:AH} {h:Heap} {a:Addr} (d:¬ dom H a) (b:κ.hb.get? a=none):(∃ o,h.get? a=some o∧sf o=false)→OffAt κ H h a
 | ⟨o,e,f⟩=>⟨d,b,o,e,f⟩
theorem Held.st {h h':Heap} {D D':Addr→Prop} {v:AV} {ov:Option Value} (S:Stays h D h' D') (x:Held h D v ov):Held h' D' v ov:=x.imp id fun ⟨w,p,q⟩=>⟨w,p,q.stays S⟩
structure Frame (κ:Adr) (env:Env) (O:Addr→Prop) (ρ:Ev) (H:AH) (h:Heap):Prop where
 kind:env.scope.kind=.function
 glob:env.globals=mainGlobals
 blt:env.builtins=builtinsNs
 ns:∃ m,h.Ns env.locals m∧∀ x v,look ρ x=some (.loc,v)→env.kindOf x.s=some .local∧Held h (dm κ H) v (m x.s)
 cel:∀ x v,look ρ x=some (.cel,v)→CelAt h (dm κ H) env O x v
 fre:∀ x v,look ρ x=some (.fre,v)→FreAt h κ H env O x v
 glo:∀ x v,look ρ x=some (.glo,v)→env.kindOf x.s=some .globalImplicit
 own:O env.locals
 off:∀ a,O a→OffAt κ H h a
 apart:∀ x y vx vy c,look ρ x=some (.cel,vx)→look ρ y=some (.cel,vy)→env.cells.lookup x.s=some c→env.cells.lookup y.s=some c→x=y
 notL:∀ x vx c,look ρ x=some (.cel,vx)→env.cells.lookup x.s=some c→c≠env.locals
theorem cell_sf {h:Heap} {c:Addr} {ov:Option Value} (x:h.IsCell c ov):∃ o,h.get? c=some o∧sf o=false:=let ⟨o,e,d⟩:=x; ⟨o,e,by unfold sf; rw [d]⟩
theorem Frame.ext {κ:Adr} {env:Env} {O:Addr→Prop} {ρ:Ev} {H H':AH} {s s':Shared} (F:Frame κ env O ρ H s.heap) (Rl:Real κ H s.heap) (e:Ext κ H s H' s'):Frame κ env O ρ H' s'.heap:=by
 have S:=e.stays Rl
 have k:∀ a o,¬ dom H a→s.heap.get? a=some o→s'.heap.get? a=some o:=e.step.keep
 have kc:∀ c ov,¬ dom H c→s.heap.IsCell c ov→s'.heap.IsCell c ov:=fun c ov hc x=>let ⟨o,eo,d⟩:=x; ⟨o,k c o hc eo,d⟩
 refine ⟨F.kind,F.glob,F.blt,?_,fun x v hx=>?_,fun x v hx=>?_,F.glo,F.own,fun a ha=>?_,F.apart,F.notL⟩
 ·obtain ⟨m,hn,hm⟩:=F.ns
  refine ⟨m,?_,fun x v hx=>⟨(hm x v hx).1,(hm x v hx).2.st S⟩⟩
  obtain ⟨o,es,ep,ho,r⟩:=hn
  exact ⟨o,es,ep,k _ o (F.off _ F.own).d ho,r⟩
 ·obtain ⟨a,c,ov,b,d,i,r⟩:=F.cel x v hx
  exact ⟨a,c,ov,b,d,kc c ov (F.off c d).d i,r.st S⟩
 ·obtain ⟨a,c,ov,b,d,d',i,r⟩:=F.fre x v hx
  refine ⟨a,c,ov,b,d,fun hd=>?_,kc c ov d' i,r.st S⟩
  obtain ⟨o,eo,_⟩:=cell_sf i
  rcases e.grow c hd with h | h
  ·exact d' h
  ·rw [eo] at h; cases h
 ·obtain ⟨a1,a2,o,a3,a4⟩:=F.off a ha
  refine ⟨fun hd=>?_,a2,o,k a o a1 a3,a4⟩
  rcases e.grow a hd with h | h
  ·exact a1 h
  ·rw [a3] at h; cases h
end Internal
namespace Internal
open PySem PySem.W PyProof.Rows
structure Room (A:Around) (k:Nat):Prop where
 hand:A.handled=none
 depth:A.depth+4 * k < 900
 units:A.units+40 * k+200 < cLine
theorem Room.mono {A:Around} {j k:Nat} (r:Room A k) (h:j≤k):Room A j:=⟨r.hand,by have:=r.depth; exact l30 5600365313160393860158548242184706 rfl h this,by have:=r.units; exact l40 5902870964738608979571430329273947372034 rfl h this⟩
theorem Room.deeper {A:Around} {k:Nat} {env:Env} (r:Room A (k+1)):Room (A.deeper env) k:=⟨r.hand,by have:=r.depth; show A.depth+1+4 * k < 900; exact l20 5555539632346466985900067979960337 rfl this,by have:=r.units; show A.units+3+40 * k+200 < cLine; exact l30 6044790454120229778910630238508039143441 rfl this⟩
inductive Post (κ:Adr) (H:AH) (s:Shared) (Q:P1) (v:Value) (s':Shared):Prop
 | mk (r:AV) (H':AH) (q:Q r H') (e:Ext κ H s H' s') (i:R s'.heap (dm κ H') r v)
inductive PostB (κ:Adr) (H:AH) (s:Shared) (Q:PB) (b:Bool) (s':Shared):Prop
 | mk (H':AH) (q:Q b H') (e:Ext κ H s H' s')
inductive PostU (κ:Adr) (H:AH) (s:Shared) (Q:AH→Prop) (u:Unit) (s':Shared):Prop
 | mk (H':AH) (q:Q H') (e:Ext κ H s H' s')
noncomputable def NoE (_:Value) (_:Shared):Prop:=False
section
variable {A:Around} {κ:Adr} {H:AH} {s:Shared} {k:Nat}
theorem tok_ext {tk:Nat} (Rl:Real κ H s.heap):Ext κ H s H { s with toks:=tk }:=Ext.of_keeps (h':=s.heap) Rl fun uu uu e=>e
theorem post_tok {Q:P1} {r:AV} {v:Value} {tk:Nat} (Rl:Real κ H s.heap) (h:Q r H) (hr:R s.heap (dm κ H) r v):Post κ H s Q v { s with toks:=tk }:=⟨r,H,h,tok_ext Rl,hr⟩
theorem post_here {Q:P1} {r:AV} {v:Value} (Rl:Real κ H s.heap) (h:Q r H) (hr:R s.heap (dm κ H) r v):Post κ H s Q v s:=⟨r,H,h,.refl Rl,hr⟩
theorem post_keeps {Q:P1} {r:AV} {v:Value} {h':Heap} {tk:Nat} (Rl:Real κ H s.heap) (h:Q r H) (hk:∀ b o,s.heap.get? b=some o→h'.get? b=some o) (hr:R h' (dm κ H) r v):
  Post κ H s Q v { s with heap:=h',toks:=tk }:=⟨r,H,h,.of_keeps Rl hk,hr⟩
theorem R.int_inv {h:Heap} {D:Addr→Prop} {i:Int} {v:Value} (r:R h D (.int i) v):∃ t,v=.int i t:=by cases r; exact ⟨_,rfl⟩
theorem R.bool_inv {h:Heap} {D:Addr→Prop} {b:Bool} {v:Value} (r:R h D (.bool b) v):v=.bool b:=by cases r; rfl
theorem R.none_inv {h:Heap} {D:Addr→Prop} {v:Value} (r:R h D .none v):v=.none:=by cases r; rfl
theorem R.str_inv {h:Heap} {D:Addr→Prop} {x:Sy} {v:Value} (r:R h D (.str x) v):∃ t,v=.str x.s t:=by cases r; exact ⟨_,rfl⟩
theorem R.obj_inv {h:Heap} {D:Addr→Prop} {a:Addr} {v:Value} (r:R h D (.obj a) v):v=.ref a:=by cases r; rfl
theorem R.tup_inv {h:Heap} {D:Addr→Prop} {l:List AV} {v:Value} (r:R h D (.tup l) v):∃ a vs,v=.ref a∧IsTup h a vs∧l.length≤LIM∧RA h D l vs.toList:=by
 cases r with | tup h1 h2 h3 h4 h5=>exact ⟨_,_,rfl,⟨_,h1,h2,_,h3⟩,h4,h5⟩
theorem R.lst_inv {h:Heap} {D:Addr→Prop} {l:List AV} {v:Value} (r:R h D (.lst l) v):∃ a vs,v=.ref a∧h.IsList a vs∧¬ D a∧l.length≤LIM∧RA h D l vs.toList:=by
 cases r with | lst h1 h2 h3 h4 hd h5=>exact ⟨_,_,rfl,⟨_,h1,h2,_,h3⟩,hd,h4,h5⟩
theorem items_inv {x:AV} {v:Value} {l:List AV} (Rl:Real κ H s.heap) (r:R s.heap (dm κ H) x v) (e:itemsOf H x=some l):
  ∃ a vs,v=.ref a∧l.length≤LIM∧RA s.heap (dm κ H) l vs.toList∧(((∃ t,x=.tup t)∧IsTup s.heap a vs)∨((∀ t,x≠.tup t)∧s.heap.IsList a vs)):=by
 set_option tactic.hygienic true in cases x<;>simp only [itemsOf] at e<;>try (cases e; done)
 ·cases e; obtain ⟨a,vs,rfl,t,z,ra⟩:=r.tup_inv; exact ⟨a,vs,rfl,z,ra,.inl ⟨⟨_,rfl⟩,t⟩⟩
 ·cases e; obtain ⟨a,vs,rfl,t,_,z,ra⟩:=r.lst_inv; exact ⟨a,vs,rfl,z,ra,.inr ⟨by simp,t⟩⟩
 ·rename_i a
  set_option tactic.hygienic true in split at e
  ·rename_i l' q; cases e
   refine byc fun hNN=>?_
   obtain ⟨vs,n,eo,z,ra⟩:=Rl.at_ a _ q
   refine hNN ?_
   exact ⟨a,vs,r.obj_inv,z,ra,.inr ⟨by simp,⟨_,eo,rfl,n,rfl⟩⟩⟩
  ·cases e
theorem bin_sub {a b:AV} {va vb:Value} {Q:P1} (Rl:Real κ H s.heap) (ra:R s.heap (dm κ H) a va) (rb:R s.heap (dm κ H) b vb) (h:binOp .sub a b H Q):
  wpAny (model κ.prog κ.w) A (binaryOp .Sub va vb) (Post κ H s Q) NoE s:=by
 refine byc fun hNN=>?_
 obtain ⟨x,y,rfl,rfl,q⟩:=h
 obtain ⟨t,rfl⟩:=ra.int_inv
 obtain ⟨u,rfl⟩:=rb.int_inv
 refine hNN ?_
 exact sub_int (post_tok Rl q (.int _ _))
theorem bin_mul {a b:AV} {va vb:Value} {Q:P1} (Rl:Real κ H s.heap) (ra:R s.heap (dm κ H) a va) (rb:R s.heap (dm κ H) b vb) (h:binOp .mul a b H Q):
  wpAny (model κ.prog κ.w) A (binaryOp .Mult va vb) (Post κ H s Q) NoE s:=by
 refine byc fun hNN=>?_
 obtain ⟨x,y,rfl,rfl,hx,hy,q⟩:=h
 obtain ⟨t,rfl⟩:=ra.int_inv
 obtain ⟨u,rfl⟩:=rb.int_inv
 refine hNN ?_
 unfold LIM at hx
 exact mul_int (post_tok Rl q (.int _ _)) (IntMulOk.of_left (intBits_le_64 (by exact l11 123030972117684528700911420374865473829836634653169728563499272757586678008322 rfl hx (labs _)) (by exact l11 7238779757624520801126206084563595877335594030552186858857333176497508731394 rfl hx (labs _))))
theorem bin_mod {a b:AV} {va vb:Value} {Q:P1} (Rl:Real κ H s.heap) (ra:R s.heap (dm κ H) a va) (rb:R s.heap (dm κ H) b vb) (h:binOp .mod a b H Q):
  wpAny (model κ.prog κ.w) A (binaryOp .Mod va vb) (Post κ H s Q) NoE s:=by
 refine byc fun hNN=>?_
 obtain ⟨x,y,rfl,rfl,hy,q⟩:=h
 obtain ⟨t,rfl⟩:=ra.int_inv
 obtain ⟨u,rfl⟩:=rb.int_inv
 refine hNN ?_
 refine mod_int' (by exact l01 74798507585 rfl hy) (post_tok Rl ?_ (.int _ _))
 rw [Int.fmod_eq_emod_of_nonneg _ (by exact l01 4737705537 rfl hy)]
 exact q
theorem bin_pow {a b:AV} {va vb:Value} {Q:P1} (Rl:Real κ H s.heap) (ra:R s.heap (dm κ H) a va) (rb:R s.heap (dm κ H) b vb) (h:binOp .pow a b H Q):
  wpAny (model κ.prog κ.w) A (binaryOp .Pow va vb) (Post κ H s Q) NoE s:=by
 refine byc fun hNN=>?_
 obtain ⟨y,rfl,rfl,hy,q⟩:=h
 obtain ⟨t,rfl⟩:=ra.int_inv
 obtain ⟨u,rfl⟩:=rb.int_inv
 refine hNN ?_
 exact pow_int_small (by exact l10 1734192 rfl) (by exact l10 5089903427987858541057 rfl hy) (by decide) (post_tok Rl q (.int _ _))
theorem R.newTup {l:List AV} {vs:List Value} (Rl:Real κ H s.heap) (ra:RA s.heap (dm κ H) l vs) (z:l.length≤LIM):
  R (s.heap.push { cls:=.type "tuple",data:=.seq vs.toArray }) (dm κ H) (.tup l) (.ref s.heap.objs.size):=by
 have S:=(Ext.of_keeps (tk:=s.toks) Rl (fun b o e=>Heap.get?_push_of_some { cls:=.type "tuple",data:=.seq vs.toArray } e)).stays Rl
 exact .tup (Heap.get?_push_size _ rfl) rfl rfl z (by simpa using ra.stays S)
theorem newT_post {l:List AV} {vs:List Value} {Q:P1} {tk:Nat} (Rl:Real κ H s.heap) (ra:RA s.heap (dm κ H) l vs) (h:newT l H Q):
  Post κ H s Q (.ref s.heap.objs.size) { s with heap:=s.heap.push { cls:=.type "tuple",data:=.seq vs.toArray },toks:=tk }:=
 ⟨_,H,h.2,.of_keeps Rl fun b o e=>Heap.get?_push_of_some _ e,R.newTup Rl ra h.1⟩
theorem fresh_none (s:Shared):s.heap.get? s.heap.objs.size=none:=Heap.get?_none_of_le (Nat.le_refl _)
theorem fresh_dom (Rl:Real κ H s.heap):H s.heap.objs.size=none:=by
 cases q:H s.heap.objs.size with
 | none=>rfl
 | some o=>
  obtain ⟨ob,e,_⟩:=(Rl.at_ _ _ q).alive
  rw [fresh_none] at e; cases e
theorem newL_post' {l:List AV} {vs:List Value} {Q:P1} {tk:Nat} {h':Heap} {a n:Nat} (Rl:Real κ H s.heap) (ra:RA s.heap (dm κ H) l vs) (h:newL l H Q)
  (hk:∀ b o,s.heap.get? b=some o→h'.get? b=some o) (hn:s.heap.get? a=none) (ho:h'.get? a=some { cls:=.type "list",data:=.seq vs.toArray n }):
  Post κ H s Q (.ref a) { s with heap:=h',toks:=tk }:=by
 have hd:H a=none:=by
  cases q:H a with
  | none=>rfl
  | some o=>
   obtain ⟨ob,e,_⟩:=(Rl.at_ _ _ q).alive
   rw [hn] at e; cases e
 have S:=(Ext.of_keeps (tk:=tk) Rl hk).stays Rl
 rcases h with ⟨z,h | h⟩
 ·have hd':∀ b,s.heap.get? b≠none→¬ dm κ H b→¬ dm κ (upd H a (.list l)) b:=fun b hb hnb hd'=>by
   rcases dm_upd.mp hd' with rfl | q
   ·exact hb hn
   ·exact hnb q
  have S':Stays s.heap (dm κ H) h' (dm κ (upd H a (.list l))):=⟨fun b o e uu uu=>hk b o e,fun b o e uu uu hb=>hd' b (by rw [e]; simp) hb⟩
  exact ⟨.obj a,_,h a hd,.new Rl hk hn ⟨vs.toArray,n,ho,z,by simpa using ra.stays S'⟩,.obj a⟩
 ·exact ⟨.lst l,H,h,.of_keeps Rl hk,.lst ho rfl rfl z (fun q=>q.elim (fun q=>q hd) fun q=>Rl.zl a q hn) (by simpa using ra.stays S)⟩
theorem newL_post {l:List AV} {vs:List Value} {Q:P1} {tk:Nat} (Rl:Real κ H s.heap) (ra:RA s.heap (dm κ H) l vs) (h:newL l H Q):
  Post κ H s Q (.ref s.heap.objs.size) { s with heap:=s.heap.push { cls:=.type "list",data:=.seq vs.toArray },toks:=tk }:=
 newL_post' Rl ra h (fun b o e=>Heap.get?_push_of_some _ e) (fresh_none s) (Heap.get?_push_size _ rfl)
theorem lim_line {n:Nat} (h:n≤LIM):n≤sizeLine:=by rw [sizeLine_eq]; unfold LIM at h; exact l10 84654466353114323878031149569 rfl h
theorem bin_add {a b:AV} {va vb:Value} {Q:P1} (Rl:Real κ H s.heap) (ra:R s.heap (dm κ H) a va) (rb:R s.heap (dm κ H) b vb) (h:binOp .add a b H Q):
  wpAny (model κ.prog κ.w) A (binaryOp .Add va vb) (Post κ H s Q) NoE s:=by
 rcases h with ⟨x,y,rfl,rfl,q⟩ | ⟨l,m,rfl,rfl,z,q⟩ | ⟨l,m,na,nb,ea,eb,q⟩
 ·obtain ⟨t,rfl⟩:=ra.int_inv
  obtain ⟨u,rfl⟩:=rb.int_inv
  exact add_int (post_tok Rl q (.int _ _))
 ·have ra':=ra
  have rb':=rb
  obtain ⟨ta,vs,rfl,⟨⟨cls,dd,data,sl⟩,ho,hc,n,hd⟩,za,la⟩:=ra.tup_inv
  obtain ⟨tb,ws,rfl,⟨⟨cls2,dd2,data2,sl2⟩,ho2,hc2,n2,hd2⟩,zb,lb⟩:=rb.tup_inv
  simp only at hc hd hc2 hd2
  subst hc hd hc2 hd2
  have zz:vs.size+ws.size≤LIM:=by
   have:=la.length; have:=lb.length
   simp only [Array.length_toList,List.length_append] at *
   exact l50 328903948757122597192383011 rfl ‹_› this z
  by_cases hv:vs.isEmpty=true
  ·have el:l=[]:=by
    have:=la.length
    simp only [Array.length_toList] at this
    rw [Array.isEmpty_iff_size_eq_zero] at hv
    exact List.length_eq_zero_iff.mp (by exact l20 80281455188342906972706 rfl hv this)
   subst el
   exact concat_meets ⟨_,ho,rfl⟩ ⟨_,ho2,rfl⟩ noFill_tuple_add seq_tuple_add PySem.F.slot_tuple_add PySem.F.entry_tuple_add (PySem.F.args_tuple_add_2 _ _)
    (tuple_addW0 ta tb vs ws n n2 dd dd2 sl sl2 hv) ⟨ho,ho2,post_tok (tk:=s.toks) Rl q rb'⟩
  ·by_cases hw:ws.isEmpty=true
   ·have em:m=[]:=by
     have:=lb.length
     simp only [Array.length_toList] at this
     rw [Array.isEmpty_iff_size_eq_zero] at hw
     exact List.length_eq_zero_iff.mp (by exact l20 80281455188342906972706 rfl hw this)
    subst em
    rw [List.append_nil] at q
    exact concat_meets ⟨_,ho,rfl⟩ ⟨_,ho2,rfl⟩ noFill_tuple_add seq_tuple_add PySem.F.slot_tuple_add PySem.F.entry_tuple_add (PySem.F.args_tuple_add_2 _ _)
     (tuple_addW1 ta tb vs ws n n2 dd dd2 sl sl2 hv hw) ⟨ho,ho2,post_tok (tk:=s.toks) Rl q ra'⟩
   ·refine concat_meets ⟨_,ho,rfl⟩ ⟨_,ho2,rfl⟩ noFill_tuple_add seq_tuple_add PySem.F.slot_tuple_add PySem.F.entry_tuple_add (PySem.F.args_tuple_add_2 _ _)
     (tuple_addW2 ta tb vs ws n n2 dd dd2 sl sl2 hv hw (lim_line zz)) ⟨ho,ho2,?_⟩
    have e:vs++ws=(vs.toList++ws.toList).toArray:=by simp
    rw [e]
    exact newT_post Rl (la.append lb) ⟨z,q⟩
 ·obtain ⟨x,vs,rfl,za,la,⟨⟨t,rfl⟩,_⟩ | ⟨_,⟨cls,dd,data,sl⟩,ho,hc,n,hd⟩⟩:=items_inv Rl ra ea
  ·exact absurd rfl (na t)
  obtain ⟨y,ws,rfl,zb,lb,⟨⟨t,rfl⟩,_⟩ | ⟨_,⟨cls2,dd2,data2,sl2⟩,ho2,hc2,n2,hd2⟩⟩:=items_inv Rl rb eb
  ·exact absurd rfl (nb t)
  simp only at hc hd hc2 hd2
  subst hc hd hc2 hd2
  have zz:vs.size+ws.size≤LIM:=by
   have:=la.length; have:=lb.length; have:=q.1
   simp only [Array.length_toList,List.length_append] at *
   exact l50 328903948757122597192383011 rfl ‹_› ‹_› this
  refine concat_meets ⟨_,ho,rfl⟩ ⟨_,ho2,rfl⟩ noFill_list_add seq_list_add PySem.F.slot_list_add PySem.F.entry_list_add (PySem.F.args_list_add_2 _ _)
   (list_addW x y vs ws n n2 dd dd2 sl sl2 (lim_line zz)) ⟨ho,ho2,?_⟩
  have e:vs++ws=(vs.toList++ws.toList).toArray:=by simp
  rw [e]
  exact newL_post Rl (la.append lb) q
theorem neg_ok {a:AV} {va:Value} {Q:P1} (Rl:Real κ H s.heap) (ra:R s.heap (dm κ H) a va) (h:∃ i,a=.int i∧Q (.int (-i)) H):
  wpAny (model κ.prog κ.w) A (unaryOp .USub va) (Post κ H s Q) NoE s:=by
 refine byc fun hNN=>?_
 obtain ⟨i,rfl,q⟩:=h
 obtain ⟨t,rfl⟩:=ra.int_inv
 refine hNN ?_
 exact neg_int (post_tok Rl q (.int _ _))
theorem truthy_ok {a:AV} {va:Value} {Q:PB} (Rl:Real κ H s.heap) (ra:R s.heap (dm κ H) a va) (h:Internal.truthy a H Q):
  wpAny (model κ.prog κ.w) A (PySem.truthy va) (PostB κ H s Q) NoE s:=by
 cases a<;>simp only [Internal.truthy] at h
 ·rw [ra.none_inv]; exact fun uu uu uu=>⟨H,h,.refl Rl⟩
 ·rw [ra.bool_inv]; exact wpAny_truthy_bool ⟨H,h,.refl Rl⟩
end
end Internal
namespace Internal
open PySem PySem.W PyProof.Rows PySem.Calls
section
variable {A:Around} {κ:Adr} {H:AH} {s:Shared} {k:Nat}
theorem pyIdx_seq {n:Nat} {i:Int} {j:Nat} (h:pyIdx n i=some j):seqIndex? i n=some j∧j < n ∧ -(n:Int)≤i∧i < n:=by
 unfold pyIdx at h
 split at h
 ·split at h
  ·cases h
   refine ⟨?_,by assumption,by exact l11 1213985957425 rfl ‹_›,by lia⟩
   have e:(if i < 0 then i+(n:Int) else i)=i:=if_neg (by exact l01 74797458993 rfl ‹_›)
   unfold seqIndex?
   simp only [e]
   rw [if_pos (by simp only [Bool.and_eq_true,decide_eq_true_eq]; lia)]
  ·cases h
 ·split at h
  ·cases h
   refine ⟨?_,by exact l21 1613241294573839790017268203935500296037415656249409712841571 rfl ‹_› ‹_› (ltoN _),by exact l11 4972486486066737 rfl ‹_›,by exact l11 1213232472929 rfl ‹_›⟩
   rw [seqIndex_neg (by exact l01 74797704033 rfl ‹_›) (by exact l11 4972486486066737 rfl ‹_›),Int.add_comm]
  ·cases h
theorem lim63 {n:Nat} (h:n≤LIM):(n:Int) < 2 ^ 63:=by unfold LIM at h; exact l10 6099997169971409783314736804565501728875104769 rfl h
theorem getItem_ok_seq {o:AV} {vo:Value} {i:Int} {t:Tok} {Q:P1} (Rl:Real κ H s.heap) (ro:R s.heap (dm κ H) o vo)
  (h:∃ l j v,itemsOf H o=some l∧pyIdx l.length i=some j∧l[j]?=some v∧Q v H):
  wpAny (model κ.prog κ.w) A (getItem vo (.int i t)) (Post κ H s Q) NoE s:=by
 refine byc fun hNN=>?_
 obtain ⟨l,j,v,hl,hj,hv,q⟩:=h
 obtain ⟨a,vs,rfl,z,ra,kind⟩:=items_inv Rl ro hl
 obtain ⟨hs,hjl,h1,h2⟩:=pyIdx_seq hj
 obtain ⟨x,hx,rx⟩:=ra.get hv
 have hn:vs.size=l.length:=by have:=ra.length; simpa using this
 have hx':vs[j]?=some x:=by simpa using hx
 have hz:=lim63 z
 refine hNN ?_
 rcases kind with ⟨_,ht⟩ | ⟨_,hL⟩
 ·exact getItem_tuple ht (by exact l12 19719912269286110002 rfl h1 hz) (by exact l12 77047502733998658 rfl h2 hz) (by rw [hn]; exact hs) hx' (post_here Rl q rx)
 ·by_cases h0:0≤i
  ·have e:j=i.toNat:=by
    unfold pyIdx at hj
    rw [if_pos h0] at hj
    split at hj
    ·cases hj; rfl
    ·cases hj
   exact wpAny_getItem_list hL h0 (by exact l12 77047502733998658 rfl h2 hz) (e▸hx') (post_here Rl q rx)
  ·have e:j=(i+vs.size).toNat:=by
    unfold pyIdx at hj
    rw [if_neg h0] at hj
    split at hj
    ·cases hj; rw [hn]; congr 1; exact l11 19411652735056 rfl
    ·cases hj
   exact wpAny_getItem_list_neg hL (by exact l01 74797704033 rfl h0) (by exact l21 313714965764060640050 rfl h1 hn) (by exact l12 19719912269286110002 rfl h1 hz) (e▸hx') (post_here Rl q rx)
theorem len_ok {v:AV} {x:Value} {Q:P1} (Rl:Real κ H s.heap) (r:R s.heap (dm κ H) v x) (h:callB .len [v] H Q):
  wpAny (model κ.prog κ.w) A (call (.builtin "len") [x]) (Post κ H s Q) NoE s:=by
 refine byc fun hNN=>?_
 obtain ⟨l,hl,q⟩:=h
 obtain ⟨a,vs,rfl,z,ra,kind⟩:=items_inv Rl r hl
 have hn:vs.size=l.length:=by have:=ra.length; simpa using this
 refine hNN ?_
 rcases kind with ⟨_,ht⟩ | ⟨_,hL⟩
 ·exact len_tuple ht (by rw [hn]; exact lim63 z) (post_tok Rl q (by rw [hn]; exact .int _ _))
 ·exact call_len_list hL (by rw [hn]; exact lim63 z) (post_tok Rl q (by rw [hn]; exact .int _ _))
theorem max_ok {a b:AV} {x y:Value} {Q:P1} (Rl:Real κ H s.heap) (hA:A.handled=none) (ra:R s.heap (dm κ H) a x) (rb:R s.heap (dm κ H) b y) (h:callB .max [a,b] H Q):
  wpAny (model κ.prog κ.w) A (call (.builtin "max") [x,y]) (Post κ H s Q) NoE s:=by
 refine byc fun hNN=>?_
 obtain ⟨i,j,rfl,rfl,q⟩:=h
 obtain ⟨t,rfl⟩:=ra.int_inv
 obtain ⟨u,rfl⟩:=rb.int_inv
 refine hNN ?_
 refine max_two_ints hA fun h' tk hk=>post_keeps Rl q hk ?_
 split
 ·rw [show max i j=j by exact l03 6065808500151313383034716049363034899064863298 rfl ‹_› (lmxI _ _)]; exact .int _ _
 ·rw [show max i j=i by exact l03 375606299907052042131037515276456792264411471127650 rfl ‹_› (lmxI _ _)]; exact .int _ _
theorem min_ok {a b:AV} {x y:Value} {Q:P1} (Rl:Real κ H s.heap) (hA:A.handled=none) (ra:R s.heap (dm κ H) a x) (rb:R s.heap (dm κ H) b y) (h:callB .min [a,b] H Q):
  wpAny (model κ.prog κ.w) A (call (.builtin "min") [x,y]) (Post κ H s Q) NoE s:=by
 refine byc fun hNN=>?_
 obtain ⟨i,j,rfl,rfl,q⟩:=h
 obtain ⟨t,rfl⟩:=ra.int_inv
 obtain ⟨u,rfl⟩:=rb.int_inv
 refine hNN ?_
 refine min_two_ints hA fun h' tk hk=>post_keeps Rl q hk ?_
 split
 ·rw [show min i j=j by exact l03 23475393744169407079254657309528663029647605807682 rfl ‹_› (lmnI _ _)]; exact .int _ _
 ·rw [show min i j=i by exact l03 375697643764829736241784483781600775971531788100706 rfl ‹_› (lmnI _ _)]; exact .int _ _
theorem abs_ok {a:AV} {x:Value} {Q:P1} (Rl:Real κ H s.heap) (ra:R s.heap (dm κ H) a x) (h:callB .abs [a] H Q):
  wpAny (model κ.prog κ.w) A (call (.builtin "abs") [x]) (Post κ H s Q) NoE s:=by
 refine byc fun hNN=>?_
 obtain ⟨i,rfl,q⟩:=h
 obtain ⟨t,rfl⟩:=ra.int_inv
 refine hNN ?_
 refine call_abs_int fun u tk=>post_tok Rl q ?_
 split
 ·rw [show (i.natAbs:Int)=-i by exact l11 24615734470686180197536520513347123205543890139446012482 rfl ‹_› (labs _)]; exact .int _ _
 ·rw [show (i.natAbs:Int)=i by exact l11 24616481303754229155027154588281910975197064555223491682 rfl ‹_› (labs _)]; exact .int _ _
theorem RA.ints {h:Heap} {D:Addr→Prop}:∀ {is:List Int} {vs:List Value},RA h D (is.map .int) vs→∃ xs:List (Int×Tok),vs=xs.map (fun p=>.int p.1 p.2)∧xs.map (·.1)=is
 | [],vs,r=>by cases r; exact ⟨[],rfl,rfl⟩
 | i::is,vs,r=>by
  cases r with
  | cons h1 r=>
   obtain ⟨xs,rfl,rfl⟩:=RA.ints r
   obtain ⟨t,rfl⟩:=h1.int_inv
   exact ⟨(i,t)::xs,rfl,rfl⟩
theorem sum_ok {v:AV} {x:Value} {Q:P1} (Rl:Real κ H s.heap) (hA:A.handled=none) (r:R s.heap (dm κ H) v x) (h:callB .sum [v] H Q):
  wpAny (model κ.prog κ.w) A (call (.builtin "sum") [x]) (Post κ H s Q) NoE s:=by
 obtain ⟨is,hv,hl,q⟩:=h
 obtain ⟨a,vs,rfl,z,ra,⟨⟨t,rfl⟩,_⟩ | ⟨_,hL⟩⟩:=items_inv Rl r hl
 ·exact absurd rfl (hv t)
 obtain ⟨xs,e1,e2⟩:=ra.ints
 have e3:vs=intItems xs.toArray:=by
  apply Array.toList_inj.mp
  rw [e1]; simp [intItems]
 rw [e3] at hL
 refine sum_intListG hA hL fun h' tk t' hk=>post_keeps Rl q hk ?_
 rw [preSum_eq]
 simp only [List.size_toArray]
 rw [List.take_of_length_le (by simp),e2]
 exact .int _ _
theorem tuple_ok {v:AV} {x:Value} {Q:P1} (Rl:Real κ H s.heap) (r:R s.heap (dm κ H) v x) (h:callB .tuple [v] H Q):
  wpAny (model κ.prog κ.w) A (call (.type "tuple") [x]) (Post κ H s Q) NoE s:=by
 obtain ⟨l,hl,z',q⟩:=h
 have r0:=r
 obtain ⟨a,vs,rfl,z,ra,⟨⟨t,rfl⟩,ht⟩ | ⟨_,hL⟩⟩:=items_inv Rl r hl
 ·simp only [itemsOf] at hl; cases hl
  exact call_tuple_tup ht (post_here Rl q r0)
 ·have hn:vs.size=l.length:=by have:=ra.length; simpa using this
  refine call_tuple_list hL (fun h' hk=>?_) (by rw [hn]; exact lim_line z)
  have Rl':Real κ H h':=Rl.keeps hk
  have S:=(Ext.of_keeps (tk:=s.toks) Rl hk).stays Rl
  have ra':=ra.stays S
  have e:=newT_post (s:={ s with heap:=h' }) (tk:=s.toks) Rl' ra' ⟨z,q⟩
  obtain ⟨r',H',a1,a2,a3⟩:=e
  refine ⟨r',H',a1,(Ext.of_keeps (tk:=s.toks) Rl hk).trans ?_,?_⟩
  ·simpa using a2
  ·simpa using a3
theorem list_ok {v:AV} {x:Value} {Q:P1} (Rl:Real κ H s.heap) (r:R s.heap (dm κ H) v x) (h:callB .list [v] H Q):
  wpAny (model κ.prog κ.w) A (call (.type "list") [x]) (Post κ H s Q) NoE s:=by
 refine byc fun hNN=>?_
 obtain ⟨l,hl,q⟩:=h
 obtain ⟨a,vs,rfl,z,ra,kind⟩:=items_inv Rl r hl
 have hn:vs.size=l.length:=by have:=ra.length; simpa using this
 have hx:∃ T o n,(T = "list" ∨ T = "tuple")∧s.heap.get? a=some o∧o.cls=.type T∧o.data=.seq vs n:=by
  rcases kind with ⟨_,o,ho,hc,n,hd⟩ | ⟨_,o,ho,hc,n,hd⟩
  ·exact ⟨"tuple",o,n,.inr rfl,ho,hc,hd⟩
  ·exact ⟨"list",o,n,.inl rfl,ho,hc,hd⟩
 obtain ⟨T,o,n,hT,ho,hc,hd⟩:=hx
 refine hNN ?_
 refine call_list_seq a hT ho hc hd (fun h' c' hk hg=>?_) (by rw [hn]; exact lim_line z)
 exact newL_post' (n:=c') Rl ra q hk (fresh_none s) (by simpa using hg)
theorem range_ok1 {b:AV} {y:Value} {Q:P1} (Rl:Real κ H s.heap) (rb:R s.heap (dm κ H) b y) (h:callB .range [b] H Q):
  wpAny (model κ.prog κ.w) A (call (.type "range") [y]) (Post κ H s Q) NoE s:=by
 refine byc fun hNN=>?_
 obtain ⟨i,rfl,_,_,q⟩:=h
 obtain ⟨u,rfl⟩:=rb.int_inv
 refine hNN ?_
 exact call_range_1 (post_keeps Rl q (fun b o e=>Heap.get?_push_of_some _ e) (.rng (Heap.get?_push_size _ rfl)))
theorem range_ok2 {a b:AV} {x y:Value} {Q:P1} (Rl:Real κ H s.heap) (ra:R s.heap (dm κ H) a x) (rb:R s.heap (dm κ H) b y) (h:callB .range [a,b] H Q):
  wpAny (model κ.prog κ.w) A (call (.type "range") [x,y]) (Post κ H s Q) NoE s:=by
 refine byc fun hNN=>?_
 obtain ⟨i,j,rfl,rfl,q⟩:=h
 obtain ⟨t,rfl⟩:=ra.int_inv
 obtain ⟨u,rfl⟩:=rb.int_inv
 refine hNN ?_
 exact call_range_2 (post_keeps Rl q (fun b o e=>Heap.get?_push_of_some _ e) (.rng (Heap.get?_push_size _ rfl)))
end
end Internal
namespace Internal
open PySem PySem.W PyProof.Rows PySem.Calls
section
variable {A:Around} {κ:Adr} {H:AH} {s:Shared} {k:Nat}
theorem turn_list {l l':List AV} {vs':Array Value} {n' tk:Nat} {h':Heap} {a:Addr} (Rl:Real κ H s.heap) (ha:H a=some (.list l)) (hs:Heap.SameBut a s.heap h')
  (hg:h'.get? a=some { cls:=.type "list",data:=.seq vs' n' }) (z':l'.length≤LIM) (ra:RA s.heap (dm κ H) l' vs'.toList):
  Ext κ H s (upd H a (.list l')) { s with heap:=h',toks:=tk }:=
 .turn Rl (by rw [ha]; simp) (fun b o hb e=>hs.extBut b o hb e) fun S=>⟨vs',n',hg,z',ra.stays S⟩
theorem mapSeq_list (f:Array Value→Array Value) (vs:Array Value) (n:Nat):
  ∃ n',Obj.mapSeq f { cls:=.type "list",data:=.seq vs n }={ cls:=.type "list",data:=.seq (f vs) n' }:=⟨_,rfl⟩
theorem get_mapSeq {h:Heap} {a:Addr} {vs:Array Value} {n:Nat} (f:Array Value→Array Value) (e:h.get? a=some { cls:=.type "list",data:=.seq vs n }):
  ∃ n',(h.update a (Obj.mapSeq f)).get? a=some { cls:=.type "list",data:=.seq (f vs) n' }:=by
 obtain ⟨n',q⟩:=mapSeq_list f vs n
 exact ⟨n',by rw [Heap.get?_update_self _ e (by rw [q]; rfl),q]⟩
theorem upd_list {l l':List AV} {vs:Array Value} {n tk:Nat} {a:Addr} (f:Array Value→Array Value) (Rl:Real κ H s.heap) (ha:H a=some (.list l))
  (e:s.heap.get? a=some { cls:=.type "list",data:=.seq vs n }) (z':l'.length≤LIM) (ra:RA s.heap (dm κ H) l' (f vs).toList):
  Ext κ H s (upd H a (.list l')) { s with heap:=s.heap.update a (Obj.mapSeq f),toks:=tk }:=by
 refine byc fun hNN=>?_
 obtain ⟨n',q⟩:=get_mapSeq f e
 refine hNN ?_
 exact turn_list Rl ha (Heap.SameBut.update ..) q z' ra
theorem setItem_ok_seq {a:Addr} {v:AV} {x:Value} {i:Int} {t:Tok} {Q:AH→Prop} {l:List AV} {j:Nat} (Rl:Real κ H s.heap) (rv:R s.heap (dm κ H) v x)
  (ha:H a=some (.list l)) (hj:pyIdx l.length i=some j) (q:Q (upd H a (.list (l.set j v)))):
  wpAny (model κ.prog κ.w) A (setItem (.ref a) (.int i t) x) (PostU κ H s Q) NoE s:=by
 obtain ⟨vs,n,ho,z,ra⟩:=Rl.at_ a _ ha
 obtain ⟨hs,hjl,h1,h2⟩:=pyIdx_seq hj
 have hn:vs.size=l.length:=by have:=ra.length; simpa using this
 have hz:=lim63 z
 have hL:s.heap.IsList a vs:=⟨_,ho,rfl,n,rfl⟩
 have hj':j < vs.size:=by exact l30 4787042164849170 rfl hjl hn
 have hx':vs[j]?=some vs[j]:=Array.getElem?_eq_getElem hj'
 have fin:PostU κ H s Q () { s with heap:=s.heap.update a (Obj.mapSeq (·.setIfInBounds j x)) }:=by
  refine ⟨_,q,upd_list (tk:=s.toks) (·.setIfInBounds j x) Rl ha ho (by simpa using z) ?_⟩
  have:(vs.setIfInBounds j x).toList=vs.toList.set j x:=by simp
  rw [this]
  exact ra.set j rv
 unfold setItem
 try with_reducible refine wpAny_holding ?_
 first | refine wpAny_bind (wpAny_pure ?_) | skip
 refine wpAny_bind (wpAny_sequenceKey hL.typeIs (by decide) ?_)
 refine wpAny_bind (wpAny_callSpecial?_slot (name:=Str.ofString "__setitem__") hL.typeIs slot_list_setitem
  (wpAny_call_entry slot_list_setitem hL.typeIs entry_list_setitem ?_ (args_list_setitem _ _ _)))
 show wpAny _ _ (Builtin.List.listSubscript? (.int i t) >>= _) _ _ s
 by_cases h0:0≤i
 ·refine wpAny_bind (wpAny_listSubscript_int (fitsIndex_of h0 (by exact l12 77047502733998658 rfl h2 hz)) ?_)
  have e:j=i.toNat:=by
   unfold pyIdx at hj
   rw [if_pos h0] at hj
   split at hj
   ·cases hj; rfl
   ·cases hj
  obtain ⟨j',rfl⟩:=Int.eq_ofNat_of_zero_le h0
  have e':j=j':=e
  subst e'
  show wpAny _ _ ((seqItemAt a j >>= fun r=>pure (r.map (j,·))) >>= _) _ _ s
  refine wpAny_bind (wpAny_bind (wpAny_seqItemAt ho rfl (wpAny_pure ?_)))
  rw [hx']
  show wpAny _ _ (setSeqItemAt a j x >>= _) _ _ s
  refine wpAny_bind (wpAny_setSeqItemAt ho rfl ?_)
  first
   | exact wpAny_bind (wpAny_pure (wpAny_pure ⟨.none,rfl,wpAny_pure fin⟩))
   | exact wpAny_pure ⟨.none,rfl,wpAny_pure fin⟩
 ·refine wpAny_bind (wpAny_listSubscript_int (fitsIndex_neg (by exact l01 74797704033 rfl h0) (by exact l12 19719912269286110002 rfl h1 hz)) ?_)
  obtain ⟨j',rfl⟩:∃ j':Nat,i=Int.negSucc j':=by
   cases i with
   | ofNat n=>exact absurd (Int.ofNat_nonneg n) h0
   | negSucc n=>exact ⟨n,rfl⟩
  show wpAny _ _ ((Builtin.List.listItems (.ref a) >>= fun xs=>pure ((seqIndex? (Int.negSucc j') xs.size).bind fun i=>xs[i]?.map (i,·))) >>= _) _ _ s
  refine wpAny_bind (wpAny_bind ?_)
  show wpAny _ _ (seqItems? (.ref a) >>= _) _ _ s
  refine wpAny_bind (wpAny_seqItems ho rfl (wpAny_pure (wpAny_pure ?_)))
  rw [hn,hs]
  simp only [Option.bind_some,hx',Option.map_some]
  show wpAny _ _ (setSeqItemAt a j x >>= _) _ _ s
  refine wpAny_bind (wpAny_setSeqItemAt ho rfl ?_)
  first
   | exact wpAny_bind (wpAny_pure (wpAny_pure ⟨.none,rfl,wpAny_pure fin⟩))
   | exact wpAny_pure ⟨.none,rfl,wpAny_pure fin⟩
theorem append_ok {a:Addr} {v:AV} {x:Value} {Q:P1} {l:List AV} (Rl:Real κ H s.heap) (rv:R s.heap (dm κ H) v x)
  (ha:H a=some (.list l)) (hz:l.length < LIM) (q:Q .none (upd H a (.list (l++[v])))):
  wpAny (model κ.prog κ.w) A (call (.builtin "list.append") [.ref a,x]) (Post κ H s Q) NoE s:=by
 refine byc fun hNN=>?_
 obtain ⟨vs,n,ho,z,ra⟩:=Rl.at_ a _ ha
 have hn:vs.size=l.length:=by have:=ra.length; simpa using this
 refine hNN ?_
 refine wpAny_list_append_plain ⟨n,ho⟩ (fun h' hp hs=>?_) (by rw [hn]; exact lim_line z)
 refine byc fun hNN=>?_
 obtain ⟨n',hg⟩:=hp
 refine hNN ?_
 exact ⟨.none,_,q,turn_list (tk:=s.toks) Rl ha hs hg (by simp; exact l20 1216985741841 rfl hz) (by rw [Array.toList_push]; exact ra.append (.one rv)),.none⟩
theorem pop_ok {a:Addr} {v:AV} {Q:P1} {l:List AV} (Rl:Real κ H s.heap)
  (ha:H a=some (.list (l++[v]))) (q:Q v (upd H a (.list l))):
  wpAny (model κ.prog κ.w) A (call (.builtin "list.pop") [.ref a]) (Post κ H s Q) NoE s:=by
 refine byc fun hNN=>?_
 obtain ⟨vs,n,ho,z,ra⟩:=Rl.at_ a _ ha
 have hn:vs.size=l.length+1:=by have:=ra.length; simpa using this
 obtain ⟨ws,y,e,rl,rv⟩:=ra.snoc
 obtain ⟨wl,rfl⟩:∃ wl:Array Value,wl.toList=ws:=⟨ws.toArray,by simp⟩
 have e':vs=wl.push y:=by apply Array.toList_inj.mp; rw [e]; simp
 refine hNN ?_
 subst e'
 have hy:(wl.push y)[(wl.push y).size - 1]?=some y:=by simp
 refine call_meets PySem.F.slot_list_pop ⟨_,ho,rfl⟩ PySem.F.entry_list_pop (PySem.F.args_list_pop_1 _) (MeetsSeq.list_pop_last a _ n y hy (by rw [hn]; exact lim_line (by simpa using z))) ⟨ho,?_⟩
 have z2:l.length≤LIM:=by simp at z; exact l20 1218172002305 rfl z
 have E1:Ext κ H s (upd H a (.list l)) { s with heap:=s.heap.update a (Obj.mapSeq fun xs=>xs.eraseIdxIfInBounds ((wl.push y).size - 1)),toks:=s.toks }:=by
  refine upd_list (fun xs=>xs.eraseIdxIfInBounds ((wl.push y).size - 1)) Rl ha ho z2 ?_
  have:((wl.push y).eraseIdxIfInBounds ((wl.push y).size - 1)).toList=wl.toList:=by
   simp [Array.eraseIdxIfInBounds,List.eraseIdx_append_of_length_le]
  rw [this]
  exact rl
 exact ⟨v,_,q,E1,rv.stays (E1.stays Rl)⟩
theorem extend_start {a:Addr} {v:Value} {Q:Value→Shared→Prop} {E:Value→Shared→Prop} (ho:s.TypeIs (.ref a) "list")
  (h:wpAny (model κ.prog κ.w) A.in1 (Builtin.List.listExtendWith (.ref a) v .none)
   (fun fin s'=>match fin with | .done f=>wants Q E (.ok f) s' | .again c'=>c'.quiet=true∧codeAny (model κ.prog κ.w) A c' (wants Q E) s') (fun e s'=>wants Q E (.error e) s') s):
  wpAny (model κ.prog κ.w) A (call (.builtin "list.extend") [.ref a,v]) Q E s:=
 wpAny_call (codeAny_call_builtin PySem.F.slot_list_extend.plain PySem.F.entry_list_extend (PySem.F.slot_list_extend.check _ _ _ _ _ _ _ _ ho (PySem.F.args_list_extend_2 _ _) h))
theorem extend_ok {a:Addr} {v:AV} {x:Value} {Q:P1} {l m:List AV} (Rl:Real κ H s.heap) (rv:R s.heap (dm κ H) v x)
  (ha:H a=some (.list l)) (hv:itemsOf H v=some m) (z':(l++m).length≤LIM) (q:Q .none (upd H a (.list (l++m)))):
  wpAny (model κ.prog κ.w) A (call (.builtin "list.extend") [.ref a,x]) (Post κ H s Q) NoE s:=by
 refine byc fun hNN=>?_
 obtain ⟨vs,n,ho,z,ra⟩:=Rl.at_ a _ ha
 have hn:vs.size=l.length:=by have:=ra.length; simpa using this
 obtain ⟨b,ws,rfl,zm,rb,kind⟩:=items_inv Rl rv hv
 have hx:∃ T o n,(T = "list" ∨ T = "tuple")∧s.heap.get? b=some o∧o.cls=.type T∧o.data=.seq ws n:=by
  rcases kind with ⟨_,o,ho,hc,n,hd⟩ | ⟨_,o,ho,hc,n,hd⟩
  ·exact ⟨"tuple",o,n,.inr rfl,ho,hc,hd⟩
  ·exact ⟨"list",o,n,.inl rfl,ho,hc,hd⟩
 obtain ⟨T,o,n2,hT,hb,hc,hd⟩:=hx
 have hm:ws.size=m.length:=by have:=rb.length; simpa using this
 have hd':vs.size+ws.size≤sizeLine:=by rw [hn,hm]; rw [List.length_append] at z'; exact lim_line z'
 have hdoor:¬(!vs.isEmpty&&Builtin.List.listTooLong (vs.size+ws.size))=true:=by
  have e:Builtin.List.listTooLong (vs.size+ws.size)=false:=decide_eq_false (by lia)
  rw [e]; simp
 refine hNN ?_
 refine extend_start ⟨_,ho,rfl⟩ ?_
 unfold Builtin.List.listExtendWith
 refine wpAny_bind (wpAny_typeOf (T:=T) ⟨o,hb,hc⟩ ?_)
 have h1:(Builtin.List.listSameRef (.ref a) (.ref b) || Value.type T==Value.type "list" || Value.type T==Value.type "tuple")=true:=by
  rcases hT with rfl | rfl<;>simp
 rw [if_pos h1]
 refine wpAny_bind ?_
 show wpAny _ _ (seqItems? (.ref b) >>= _) _ _ s
 refine wpAny_bind (wpAny_seqItems hb hd (wpAny_pure ?_))
 refine wpAny_bind ?_
 show wpAny _ _ (seqItems? (.ref a) >>= _) _ _ s
 refine wpAny_bind (wpAny_seqItems ho rfl (wpAny_pure ?_))
 show wpAny _ _ (if (!vs.isEmpty&&Builtin.List.listTooLong (vs.size+ws.size))=true then _ else _) _ _ s
 rw [if_neg hdoor]
 refine wpAny_bind ?_
 show wpAny _ _ (updateSeq a (· ++ ws)) _ _ s
 refine wpAny_updateSeq ho rfl (wpAny_pure ?_) (by lia) (by rw [Array.size_append]; lia)
 exact ⟨.none,_,q,upd_list (tk:=s.toks) (fun x=>x++ws) Rl ha ho z' (by simpa using ra.append rb),.none⟩
theorem extend_loop {R:Result→Shared→Prop} {I:Addr} {fp wr:List Addr} {n:Nat} {P:Nat→Value→Prop} {St:Nat→Heap→Prop} (W:Walks κ.prog κ.w A.in1 I fp wr n P St) (base:Array Value)
  (hn:base.size+n≤sizeLine) (S:Addr) (hSf:S∉fp) (res:Value):
  ∀ (k i:Nat) (s:Shared) (acc:Array Value) (c:Nat),n - i=k→i≤n→St i s.heap→s.heap.get? S=some { cls:=.type "list",data:=.seq (base++acc) c }→ItemsOf P acc i→
  (∀ h' tk acc' c',(∀ b o,b∉S::wr→s.heap.get? b=some o→h'.get? b=some o)→h'.get? S=some { cls:=.type "list",data:=.seq (base++acc') c' }→ItemsOf P acc' n→
   R (.ok (.ret res)) { s with heap:=h',toks:=tk })→
  codeAny (model κ.prog κ.w) A (.builtin "list.extend.loop" ⟨[.ref S,.ref I,res],[]⟩) R s:=by
 have hSw:S∉wr:=fun h=>hSf (W.sub _ h)
 intro k
 induction k with
 | zero=>
  intro i s acc c hk hi hst hS hacc hR
  have hin:i=n:=by lia
  subst hin
  refine codeAny_builtin PySem.F.entry_extend_loop ?_
  rw [Around.under_plainId PySem.F.plain_extend_loop _]
  show wpAny _ A.in1 (pyNext (.ref I) >>= _) _ _ s
  refine wpAny_bind (W.done s _ _ hst fun h' tk hm=>?_)
  exact wpAny_pure (hR h' tk acc c (fun b o hb e=>hm b o (fun q=>hb (List.mem_cons_of_mem _ q)) e) (hm S _ hSw hS) hacc)
 | succ k ih=>
  intro i s acc c hk hi hst hS hacc hR
  have hlt:i < n:=by lia
  refine codeAny_builtin PySem.F.entry_extend_loop ?_
  rw [Around.under_plainId PySem.F.plain_extend_loop _]
  show wpAny _ A.in1 (pyNext (.ref I) >>= _) _ _ s
  refine wpAny_bind (W.item i s _ _ hlt hst fun v h' tk hP hst' hm=>?_)
  have hS':=hm S _ hSw hS
  have hz:=hacc.1
  show wpAny _ A.in1 (updateSeq S (·.push v) >>= _) _ _ _
  obtain ⟨c',hg⟩:=get_mapSeq (·.push v) hS'
  have hg':(h'.update S (Obj.mapSeq (·.push v))).get? S=some { cls:=.type "list",data:=.seq (base++acc.push v) c' }:=by rw [hg,Array.append_push]
  refine wpAny_bind ?_
  refine wpAny_updateSeq hS' rfl (wpAny_pure ⟨plainId_quiet PySem.F.plain_extend_loop _,ih (i+1) _ (acc.push v) c' (by lia) hlt (W.frame _ h' _ hst' fun b hb o e=>?_) hg' (hacc.push hP) fun h'' tk'' acc' c'' hm'' hS'' hacc'=>?_⟩)
   (by rw [Array.size_append,hz]; lia) (by rw [Array.size_push,Array.size_append,hz]; lia)
  ·exact (Heap.get?_update_other _ _ (fun h:S=b=>hSf (by rw [h]; exact hb))).trans e
  ·refine hR h'' tk'' acc' c'' (fun b o hb e=>hm'' b o hb ?_) hS'' hacc'
   exact (Heap.get?_update_other _ _ (fun h:S=b=>hb (by rw [h]; exact List.mem_cons_self))).trans (hm b o (fun q=>hb (List.mem_cons_of_mem _ q)) e)
theorem rangeSize_one (lo hi:Int):Builtin.Range.rangeSize lo hi 1=((hi - lo).toNat:Int):=by
 unfold Builtin.Range.rangeSize
 rw [if_pos (by decide)]
 split
 ·rw [Int.ediv_one]; exact l12 437087566505510449864395079457847446010897621580822356239628866 rfl ‹_› (ltoN _)
 ·exact l12 1606939582742303350974805973723660397048902265322666141131874 rfl ‹_› (ltoN _)
theorem upto_items {h:Heap} {D:Addr→Prop} (lo:Int):∀ (n:Nat) (acc:Array Value),ItemsOf (fun i v=>∃ t,v=.int (lo+i * 1) t) acc n→RA h D ((List.range n).map fun (m:Nat)=>AV.int (lo+(m:Int))) acc.toList:=by
 intro n
 induction n with
 | zero=>intro acc ha; have:acc = #[]:=Array.eq_empty_of_size_eq_zero ha.1; subst this; exact .nil
 | succ n ih=>
  intro acc ha
  have hz:acc.toList.length=n+1:=by simpa using ha.1
  obtain ⟨ws,y,e⟩:∃ ws y,acc.toList=ws++[y]:=⟨acc.toList.dropLast,acc.toList.getLast (by intro q; rw [q] at hz; simp at hz),(List.dropLast_concat_getLast _).symm⟩
  have hl:ws.length=n:=by rw [e] at hz; simpa using hz
  have hget:∀ j v,ws[j]?=some v→acc[j]?=some v:=fun j v hj=>by
   rw [← Array.getElem?_toList,e,List.getElem?_append_left (List.getElem?_eq_some_iff.mp hj).1]; exact hj
  rw [List.range_succ,List.map_append,e]
  refine (ih ws.toArray ⟨by simpa using hl,fun j v hj=>ha.2 j v (hget j v (by simpa using hj))⟩).append ?_
  obtain ⟨t,rfl⟩:=ha.2 n y (by rw [← Array.getElem?_toList,e,List.getElem?_append_right (by exact l20 69182994977 rfl hl)]; simp [hl])
  rw [Int.mul_one]
  exact .one (.int _ t)
theorem extend_range_ok {a:Addr} {lo hi:Int} {x:Value} {Q:P1} {l:List AV} (Rl:Real κ H s.heap) (hA:A.handled=none) (rv:R s.heap (dm κ H) (.rng lo hi) x)
  (ha:H a=some (.list l)) (z':l.length+(hi - lo).toNat≤LIM) (q:Q .none (upd H a (.list (l++(upto lo hi).map .int)))):
  wpAny (model κ.prog κ.w) A (call (.builtin "list.extend") [.ref a,x]) (Post κ H s Q) NoE s:=by
 obtain ⟨vs,n,ho,z,ra⟩:=Rl.at_ a _ ha
 have hn:vs.size=l.length:=by have:=ra.length; simpa using this
 set_option tactic.hygienic true in cases rv with | rng hr=>?_
 rename_i r t u v
 generalize en:(hi - lo).toNat=N at z'
 have hz:Builtin.Range.rangeSize lo hi 1=(N:Int):=by rw [rangeSize_one,en]
 have hSr:a≠r:=fun e=>by rw [e,hr] at ho; exact absurd (Value.type.inj (congrArg Obj.cls (Option.some.inj ho))) (by decide)
 have hSlt:a < s.heap.objs.size:=Heap.lt_size ho
 have hSI:a≠s.heap.objs.size:=Nat.ne_of_lt hSlt
 have hSf:a∉[s.heap.objs.size]:=fun hm=>hSI (List.mem_singleton.mp hm)
 have hlim:N≤2 ^ 24:=by unfold LIM at z'; lia
 have hline:vs.size+N≤sizeLine:=by rw [hn]; exact lim_line z'
 refine extend_start ⟨_,ho,rfl⟩ ?_
 have key:∀ (St:Nat→Heap→Prop),Walks κ.prog κ.w A.in1 s.heap.objs.size [s.heap.objs.size] [s.heap.objs.size] N (fun i v=>∃ t,v=.int (lo+i * 1) t) St→
   ∀ (h:Heap) (c₁ tk:Nat),St 0 h→(∀ b o,b≠a→s.heap.get? b=some o→h.get? b=some o)→h.get? a=some { cls:=.type "list",data:=.seq vs c₁ }→
   codeAny (model κ.prog κ.w) A (.builtin "list.extend.loop" ⟨[.ref a,.ref s.heap.objs.size,.none],[]⟩) (wants (Post κ H s Q) NoE) { s with heap:=h,toks:=tk }:=by
  intro St W h c₁ tk hst hk hS
  refine extend_loop W vs hline a hSf .none N 0 _ #[] c₁ rfl (Nat.zero_le _) hst (by simpa using hS) (ItemsOf.nil _) fun h' tk' acc' c' hm hS' hacc=>?_
  have hk':∀ b o,b≠a→s.heap.get? b=some o→h'.get? b=some o:=fun b o hb e=>hm b o (fun hmem=>by
   rcases List.mem_cons.mp hmem with e' | hmem
   ·exact hb e'
   ·exact absurd (Heap.lt_size e) (by rw [List.mem_singleton.mp hmem]; exact Nat.lt_irrefl _)) (hk b o hb e)
  refine ⟨.none,_,q,.turn Rl (by rw [ha]; simp) hk' fun S=>⟨_,c',hS',?_,?_⟩,.none⟩
  ·rw [List.length_append,List.length_map]; unfold upto; rw [List.length_map,List.length_range,en]; exact z'
  ·rw [Array.toList_append]
   refine (ra.stays S).append ?_
   unfold upto
   rw [List.map_map,en]
   exact upto_items lo N acc' hacc
 have iter:∀ (Q':Value→Shared→Prop) (E':Value→Shared→Prop),
   (∀ St oi,Walks κ.prog κ.w A.in1 s.heap.objs.size [s.heap.objs.size] [s.heap.objs.size] N (fun i v=>∃ t,v=.int (lo+i * 1) t) St→(∀ h:Heap,h.get? s.heap.objs.size=some oi→St 0 h)→oi.isFreed=false→
    Q' (.ref s.heap.objs.size) { s with heap:=s.heap.push oi })→wpAny (model κ.prog κ.w) A.in1 (pyIter (.ref r)) Q' E' s:=by
  intro Q' E' hQ
  by_cases hsm:Builtin.Range.small lo hi 1=true
  ·refine wpAny_pyIter_range hr hsm (hQ _ _ (Walks.range (A:=A.in1) hA s.heap.objs.size lo 1 N) (fun h e=>?_) rfl)
   show IsRangeIter _ _ _ _ _
   rw [hz] at e
   simpa using e
  ·refine wpAny_pyIter_longrange hr (by simpa using hsm) (hQ _ _ (Walks.longrange (A:=A.in1) hA s.heap.objs.size lo 1 N) (fun h e=>?_) rfl)
   show IsLongIter _ _ _ _ _
   rw [hz] at e
   simpa using e
 unfold Builtin.List.listExtendWith
 refine wpAny_bind (wpAny_typeOf (T := "range") ⟨_,hr,rfl⟩ ?_)
 have h1:Builtin.List.listSameRef (.ref a) (.ref r)=false:=by simp [Builtin.List.listSameRef,hSr]
 have h2:(Value.type "range" == Value.type "list")=false:=by decide
 have h3:(Value.type "range" == Value.type "tuple")=false:=by decide
 simp only [h1,h2,h3,Bool.or_false,Bool.false_eq_true,if_false]
 refine wpAny_bind (iter _ _ fun St oi W hst hfr=>?_)
 refine wpAny_bind (wpAny_holding (wpAny_hint_range (n:=N) (Heap.get?_push_of_some _ hr) hz hlim ?_))
 have hS₁:=Heap.get?_push_of_some oi ho
 refine wpAny_ite_split (fun uu=>?_) (fun uu=>wpAny_pure ⟨plainId_quiet PySem.F.plain_extend_loop _,key St W _ n _ (hst _ (Heap.get?_push_size _ hfr)) (fun b o uu e=>Heap.get?_push_of_some _ e) hS₁⟩)
 refine wpAny_bind (wpAny_rule ?_)
 refine wpAny_bind ?_
 show wpAny _ _ (updateSeq a (·.push .none) >>= fun uu=>updateSeq a (·.pop)) _ _ _
 refine wpAny_bind (wpAny_updateSeq hS₁ rfl ?_ (by lia) (by rw [Array.size_push]; lia))
 obtain ⟨c2,hS₂⟩:=get_mapSeq (·.push Value.none) hS₁
 refine wpAny_updateSeq hS₂ rfl ?_ (by rw [Array.size_push,hn]; rw [sizeLine_eq]; unfold LIM at z; lia) (by rw [Array.size_pop,Array.size_push]; lia)
 obtain ⟨c3,hS₃⟩:=get_mapSeq (·.pop) hS₂
 simp only [Array.pop_push] at hS₃
 refine wpAny_pure ⟨plainId_quiet PySem.F.plain_extend_loop _,key St W _ c3 _ (hst _ ?_) (fun b o hb e=>?_) hS₃⟩
 ·exact (Heap.get?_update_other _ _ hSI).trans ((Heap.get?_update_other _ _ hSI).trans (Heap.get?_push_size _ hfr))
 ·exact (Heap.get?_update_other _ _ (Ne.symm hb)).trans ((Heap.get?_update_other _ _ (Ne.symm hb)).trans (Heap.get?_push_of_some _ e))
end
end Internal
namespace Internal
open PySem PySem.W PyProof.Rows
section
variable (lt:Nat→Nat→Bool)
noncomputable def kRun {α:Type}:KasT α→α
 | .ret a=>a
 | .ask i j k=>kRun (k (lt i j))
theorem kRun_bind {α β:Type} (f:α→KasT β):∀ t:KasT α,kRun lt (t.bind f)=kRun lt (f (kRun lt t))
 | .ret a=>rfl
 | .ask i j k=>kRun_bind f (k (lt i j))
end
noncomputable abbrev pat (p:Array Nat) (k:Nat):Nat:=p.getD k 0
theorem pat_eq (p:Array Nat) (k:Nat):pat p k=(p[k]?).getD 0:=by unfold pat; simp [Array.getD_eq_getD_getElem?]
theorem pat_rev {p:Array Nat} {i j:Nat} (hj:j≤p.size) (k:Nat):pat (kas_rev p i j) k=if i≤k∧k < j then pat p (i+j - 1 - k) else pat p k:=by
 simp only [pat_eq]
 unfold kas_rev
 rw [getElem?_mirror_all hj]
 split<;>rfl
theorem pat_bubble {p:Array Nat} {k d:Nat} (hk:k < p.size) (hd:d≤k) (j:Nat):pat (bubble p k d) j=if j=k - d then pat p k else if k - d < j∧j≤k then pat p (j - 1) else pat p j:=by
 simp only [pat_eq]
 rw [getElem?_bubble hk d hd]
 repeat' split
 all_goals rfl
section
variable {lt:Nat→Nat→Bool}
noncomputable def kle (lt:Nat→Nat→Bool) (a b:Nat):Prop:=lt b a=false
structure KOrd (lt:Nat→Nat→Bool):Prop where
 trans:∀ a b c,kle lt a b→kle lt b c→kle lt a c
 of_lt:∀ a b,lt a b=true→kle lt a b
 refl:∀ a,kle lt a a
noncomputable def Inc (lt:Nat→Nat→Bool) (p:Array Nat) (n:Nat):Prop:=∀ i j,i≤j→j < n→kle lt (pat p i) (pat p j)
noncomputable def Dec (lt:Nat→Nat→Bool) (p:Array Nat) (n:Nat):Prop:=∀ i j,i≤j→j < n→kle lt (pat p j) (pat p i)
noncomputable def Blk (lt:Nat→Nat→Bool) (p:Array Nat) (n q:Nat):Prop:=∀ i j,n - (q+1)≤i→i < n→n - (q+1)≤j→j < n→kle lt (pat p i) (pat p j)
theorem Inc.snoc (O:KOrd lt) {p:Array Nat} {n:Nat} (h:Inc lt p n) (hn:1≤n) (hl:kle lt (pat p (n - 1)) (pat p n)):Inc lt p (n+1):=by
 intro i j hij hj
 rcases Nat.lt_succ_iff_lt_or_eq.mp hj with hj | rfl
 ·exact h i j hij hj
 ·rcases Nat.lt_or_ge i j with hi | hi
  ·exact O.trans _ _ _ (h i (j - 1) (by exact l30 5213926168406984874681776945543698 rfl hi (lsub _ _)) (by exact l20 5516894951857629038660507278025986 rfl hn (lsub _ _))) hl
  ·have:i=j:=by exact l20 1157724970977114626 rfl hij hi
   subst this; exact O.refl _
theorem Dec.snoc (O:KOrd lt) {p:Array Nat} {n:Nat} (h:Dec lt p n) (hn:1≤n) (hl:kle lt (pat p n) (pat p (n - 1))):Dec lt p (n+1):=by
 intro i j hij hj
 rcases Nat.lt_succ_iff_lt_or_eq.mp hj with hj | rfl
 ·exact h i j hij hj
 ·rcases Nat.lt_or_ge i j with hi | hi
  ·exact O.trans _ _ _ hl (h i (j - 1) (by exact l30 5213926168406984874681776945543698 rfl hi (lsub _ _)) (by exact l20 5516894951857629038660507278025986 rfl hn (lsub _ _)))
  ·have:i=j:=by exact l20 1157724970977114626 rfl hij hi
   subst this; exact O.refl _
theorem asc_ok (O:KOrd lt) {p:Array Nat}:∀ (f n:Nat),1≤n→Inc lt p n→n≤kRun lt (kas_asc p f n)∧kRun lt (kas_asc p f n)≤n+f∧Inc lt p (kRun lt (kas_asc p f n))∧
  (kRun lt (kas_asc p f n) < n+f→lt (pat p (kRun lt (kas_asc p f n))) (pat p (kRun lt (kas_asc p f n) - 1))=true)
 | 0,n,hn,h=>⟨Nat.le_refl _,Nat.le_refl _,h,fun q=>absurd q (Nat.lt_irrefl _)⟩
 | f+1,n,hn,h=>by
  show n≤kRun lt (if lt (pat p n) (pat p (n - 1))=true then KasT.ret n else kas_asc p f (n+1))∧kRun lt (if lt (pat p n) (pat p (n - 1))=true then KasT.ret n else kas_asc p f (n+1))≤n+(f+1)∧
   Inc lt p (kRun lt (if lt (pat p n) (pat p (n - 1))=true then KasT.ret n else kas_asc p f (n+1)))∧
   (kRun lt (if lt (pat p n) (pat p (n - 1))=true then KasT.ret n else kas_asc p f (n+1)) < n+(f+1)→lt (pat p (kRun lt (if lt (pat p n) (pat p (n - 1))=true then KasT.ret n else kas_asc p f (n+1)))) (pat p (kRun lt (if lt (pat p n) (pat p (n - 1))=true then KasT.ret n else kas_asc p f (n+1)) - 1))=true)
  by_cases c:lt (pat p n) (pat p (n - 1))=true
  ·simp only [c,if_true]
   exact ⟨Nat.le_refl _,Nat.le_add_right _ _,h,fun uu=>c⟩
  ·simp only [c,if_false,Bool.false_eq_true]
   obtain ⟨a,b,d,e⟩:=asc_ok O f (n+1) (by exact l10 22676736 rfl) (h.snoc O hn (by unfold kle; simpa using c))
   exact ⟨by exact l20 1218172002305 rfl a,by exact l30 20014190948592388609 rfl b,d,fun q=>e (by exact l30 20489971622686165521 rfl q)⟩
theorem rev_blk (O:KOrd lt) {p:Array Nat} {n q:Nat} (hz:n≤p.size) (hq:q+1≤n) (h:Dec lt p n) (hb:Blk lt p n q):Dec lt (kas_rev p (n - (q+1)) n) n:=by
 have ev:∀ i,i < n→kle lt (pat (kas_rev p (n - (q+1)) n) i) (pat p i)∧kle lt (pat p i) (pat (kas_rev p (n - (q+1)) n) i):=fun i hi=>by
  rw [pat_rev hz]
  set_option tactic.hygienic true in split
  ·rename_i c
   exact ⟨hb _ _ (by exact l50 116246286264344151508392293108656361268025798797745535980525558157613291059731 rfl hi (lsub _ _) (lsub _ _)) (by exact l50 528527386993876073896707279752830606803471927185677488496134387378907996803996877299827 rfl c (lsub _ _) (lsub _ _)) c.1 c.2,hb _ _ c.1 c.2 (by exact l50 116246286264344151508392293108656361268025798797745535980525558157613291059731 rfl hi (lsub _ _) (lsub _ _)) (by exact l50 528527386993876073896707279752830606803471927185677488496134387378907996803996877299827 rfl c (lsub _ _) (lsub _ _))⟩
  ·exact ⟨O.refl _,O.refl _⟩
 intro i j hij hj
 exact O.trans _ _ _ (ev j hj).1 (O.trans _ _ _ (h i j hij hj) (ev i (by exact l30 301034739186178 rfl hij hj)).2)
theorem kperm_rev (p:Array Nat) (i j:Nat):(kas_rev p i j).Perm p:=mirror_perm _ _ _ _
theorem desc_ok (O:KOrd lt):∀ (f:Nat) (p:Array Nat) (n q:Nat),n+f≤p.size→q+1≤n→Dec lt p n→Blk lt p n q→
  (kRun lt (kas_desc f p n q)).1.Perm p∧n≤(kRun lt (kas_desc f p n q)).2.1∧(kRun lt (kas_desc f p n q)).2.1≤n+f∧(kRun lt (kas_desc f p n q)).2.2+1≤(kRun lt (kas_desc f p n q)).2.1∧
  Dec lt (kRun lt (kas_desc f p n q)).1 (kRun lt (kas_desc f p n q)).2.1∧Blk lt (kRun lt (kas_desc f p n q)).1 (kRun lt (kas_desc f p n q)).2.1 (kRun lt (kas_desc f p n q)).2.2
 | 0,p,n,q,hz,hq,h,hb=>⟨.refl _,Nat.le_refl _,Nat.le_refl _,hq,h,hb⟩
 | f+1,p,n,q,hz,hq,h,hb=>by
  have b0:∀ (p':Array Nat),Blk lt p' (n+1) 0:=fun p' i j a b c d=>by
   have:i=j:=by exact l40 1950288945301300810867067986788008885452681734250434158073362881708815617366208657925 rfl a b c d (lsub _ _)
   subst this; exact O.refl _
  generalize hr:kRun lt (kas_desc (f+1) p n q)=r
  have hr':kRun lt (if lt (pat p n) (pat p (n - 1))=true then (if q > 0 then kas_desc f (kas_rev p (n - (q+1)) n) (n+1) 0 else kas_desc f p (n+1) 0)
   else .ask (pat p (n - 1)) (pat p n) fun d=>if d=true then .ret (p,n,q) else kas_desc f p (n+1) (q+1))=r:=hr
  by_cases c:lt (pat p n) (pat p (n - 1))=true
  ·rw [if_pos c] at hr'
   have hl:=O.of_lt _ _ c
   by_cases hq0:q > 0
   ·rw [if_pos hq0] at hr'
    refine byc fun hNN=>?_
    have hd:Dec lt (kas_rev p (n - (q+1)) n) (n+1):=by
     refine (rev_blk O (by exact l30 312951813742593 rfl hz) hq h hb).snoc O (by exact l20 1216829825025 rfl hq) ?_
     rw [pat_rev (by exact l30 312951813742593 rfl hz),pat_rev (by exact l30 312951813742593 rfl hz),if_neg (by exact l20 1149738026848 rfl),if_pos (by exact l40 10717346289141562005940593803414606916646616589102164798979264081587998508404786058476345776062528545009310705078607875 rfl hq (lsub _ _) (lsub _ _))]
     refine O.trans _ _ _ hl (hb _ _ (by exact l40 433149867115650288995880736074882756253447287674107089260335734589314 rfl (lsub _ _) (lsub _ _)) (by exact l30 1412325107696105069131646786801606658 rfl hq (lsub _ _)) (by exact l60 890375082173661104886555775002083561594816316921374844944821783986519338414429245313661349722698579056921453559554053551828032095299069632850239457435652 rfl hq (lsub _ _) (lsub _ _) (lsub _ _)) (by exact l60 12517887885468606742633398842591261787825553147641365665235174896800937581931894394831732416283488023491737476332508301232896691332495426348651041589885641050864433761733445873085996563178531666207401655730856504796078406453303785712995200341889286085441714741993729505278032670205603712785399895895909070693310469 rfl hq (lsub _ _) (lsub _ _) (lsub _ _) (lsub _ _)))
    obtain ⟨a1,a2,a3,a4,a5,a6⟩:=desc_ok O f (kas_rev p (n - (q+1)) n) (n+1) 0 (by rw [kas_rev_size]; exact l30 20515479602733293569 rfl hz) (by exact l10 5805268992 rfl) hd (b0 _)
    rw [hr'] at a1 a2 a3 a4 a5 a6
    refine hNN ?_
    exact ⟨a1.trans (kperm_rev _ _ _),by exact l20 1218172002305 rfl a2,by exact l30 20014190948592388609 rfl a3,a4,a5,a6⟩
   ·rw [if_neg hq0] at hr'
    refine byc fun hNN=>?_
    obtain ⟨a1,a2,a3,a4,a5,a6⟩:=desc_ok O f p (n+1) 0 (by exact l30 20515479602733293569 rfl hz) (by exact l10 5805268992 rfl) (h.snoc O (by exact l20 1216829825025 rfl hq) hl) (b0 _)
    rw [hr'] at a1 a2 a3 a4 a5 a6
    refine hNN ?_
    exact ⟨a1,by exact l20 1218172002305 rfl a2,by exact l30 20014190948592388609 rfl a3,a4,a5,a6⟩
  ·rw [if_neg c] at hr'
   have hr'':kRun lt (if lt (pat p (n - 1)) (pat p n)=true then .ret (p,n,q) else kas_desc f p (n+1) (q+1))=r:=hr'
   have hge:kle lt (pat p (n - 1)) (pat p n):=by unfold kle; simpa using c
   by_cases d:lt (pat p (n - 1)) (pat p n)=true
   ·rw [if_pos d] at hr''
    subst hr''
    exact ⟨.refl _,Nat.le_refl _,Nat.le_add_right _ _,hq,h,hb⟩
   ·rw [if_neg d] at hr''
    refine byc fun hNN=>?_
    have hle:kle lt (pat p n) (pat p (n - 1)):=by unfold kle; simpa using d
    have hb':Blk lt p (n+1) (q+1):=by
     intro i j i1 i2 j1 j2
     have e1:∀ i,n - (q+1)≤i→i < n+1→kle lt (pat p i) (pat p (n - 1))∧kle lt (pat p (n - 1)) (pat p i):=fun i i1 i2=>by
      rcases Nat.lt_succ_iff_lt_or_eq.mp i2 with i2 | rfl
      ·exact ⟨hb _ _ i1 i2 (by exact l40 5467203017066001772885735779389437753859 rfl i1 i2 (lsub _ _)) (by exact l30 1412325107696105069131646786801606658 rfl hq (lsub _ _)),hb _ _ (by exact l40 5467203017066001772885735779389437753859 rfl i1 i2 (lsub _ _)) (by exact l30 1412325107696105069131646786801606658 rfl hq (lsub _ _)) i1 i2⟩
      ·exact ⟨hle,hge⟩
     exact O.trans _ _ _ (e1 i (by exact l50 32727880567530341593832432933165098473845825680495121875236404371586707154273196738505914883 rfl i1 (lsub _ _) (lsub _ _)) i2).1 (e1 j (by exact l50 32727880567530341593832432933165098473845825680495121875236404371586707154273196738505914883 rfl j1 (lsub _ _) (lsub _ _)) j2).2
    obtain ⟨a1,a2,a3,a4,a5,a6⟩:=desc_ok O f p (n+1) (q+1) (by exact l30 20515479602733293569 rfl hz) (by exact l20 20009587290102145025 rfl hq) (h.snoc O (by exact l20 1216829825025 rfl hq) hle) hb'
    rw [hr''] at a1 a2 a3 a4 a5 a6
    refine hNN ?_
    exact ⟨a1,by exact l20 1218172002305 rfl a2,by exact l30 20014190948592388609 rfl a3,a4,a5,a6⟩
noncomputable def RunOk (lt:Nat→Nat→Bool) (p:Array Nat) (nrem:Nat) (r:Nat×Array Nat):Prop:=r.2.Perm p∧1≤r.1∧r.1≤nrem∧Inc lt r.2 r.1
theorem tail3_ok (O:KOrd lt) {p:Array Nat} {n nrem:Nat} (h1:1≤n) (hn:n≤nrem) (hz:nrem≤p.size) (h:Dec lt p n):RunOk lt p nrem (kRun lt (kas_tail3 n nrem p)):=by
 unfold kas_tail3
 rw [kRun_bind]
 have hi:Inc lt (kas_rev p 0 n) n:=fun i j hij hj=>by
  rw [pat_rev (by exact l30 301034470685186 rfl hn hz),pat_rev (by exact l30 301034470685186 rfl hn hz),if_pos (by exact l30 80593881744984037767682 rfl hij hj),if_pos (by exact l20 76855457545173521 rfl hj)]
  exact h _ _ (by exact l50 1774181960608132285258605248695126956031179343992653473735704495108176387 rfl hij (lsub _ _) (lsub _ _)) (by exact l40 123057371296496954623742474328284311059577801267157608939492205372537082258691 rfl h1 (lsub _ _) (lsub _ _))
 obtain ⟨a,b,c,_⟩:=asc_ok O (nrem - n) n h1 hi
 exact ⟨kperm_rev _ _ _,by show 1≤kRun lt (kas_asc (kas_rev p 0 n) (nrem - n) n); exact l20 300944258540802 rfl h1 a,by show kRun lt (kas_asc (kas_rev p 0 n) (nrem - n) n)≤nrem; exact l40 1481250477649618975217021685432699865577987 rfl hn b (lsub _ _),c⟩
theorem descPart_ok (O:KOrd lt) {p:Array Nat} {n nrem:Nat} (h1:1≤n) (hn:n+1≤nrem) (hz:nrem≤p.size) (h:Dec lt p (n+1)):RunOk lt p nrem (kRun lt (kas_descPart n nrem p)):=by
 unfold kas_descPart
 rw [kRun_bind]
 have hb:Blk lt p (n+1) 0:=fun i j a b c d=>by
  have:i=j:=by exact l40 1950288945301300810867067986788008885452681734250434158073362881708815617366208657925 rfl a b c d (lsub _ _)
  subst this; exact O.refl _
 obtain ⟨a1,a2,a3,a4,a5,a6⟩:=desc_ok O (nrem - (n+1)) p (n+1) 0 (by exact l40 6361922358689860573854068099183449234007803779457027 rfl hn hz (lsub _ _)) (by exact l10 5805268992 rfl) h hb
 generalize kRun lt (kas_desc (nrem - (n+1)) p (n+1) 0)=r at a1 a2 a3 a4 a5 a6
 obtain ⟨p',m,q⟩:=r
 simp only at a1 a2 a3 a4 a5 a6 ⊢
 have hz':p'.size=p.size:=by have:=a1.toList.length_eq; simpa using this
 split
 ·obtain ⟨b1,b2,b3,b4⟩:=tail3_ok O (p:=kas_rev p' (m - (q+1)) m) (n:=m) (nrem:=nrem) (by exact l20 1216829825025 rfl a2) (by exact l40 6361922358689492014495875858000935563037364872126467 rfl hn a3 (lsub _ _)) (by rw [kas_rev_size]; exact l30 4787041896413698 rfl hz hz') (rev_blk O (by exact l60 1790722042270331865892705868635901353638854394943018204995989643269 rfl hn hz a3 hz' (lsub _ _)) a4 a5 a6)
  exact ⟨(b1.trans (kperm_rev _ _ _)).trans a1,b2,b3,b4⟩
 ·obtain ⟨b1,b2,b3,b4⟩:=tail3_ok O (p:=p') (n:=m) (nrem:=nrem) (by exact l20 1216829825025 rfl a2) (by exact l40 6361922358689492014495875858000935563037364872126467 rfl hn a3 (lsub _ _)) (by exact l30 4787041896413698 rfl hz hz') a5
  exact ⟨b1.trans a1,b2,b3,b4⟩
theorem count_ok (O:KOrd lt) {p:Array Nat} {nrem:Nat} (h1:1≤nrem) (hz:nrem≤p.size):RunOk lt p nrem (kRun lt (kas_count nrem p)):=by
 unfold kas_count
 rw [kRun_bind]
 have h0:Inc lt p 1:=fun i j a b=>by
  have:i=j:=by exact l20 1157724970893294082 rfl a b
  subst this; exact O.refl _
 obtain ⟨a,b,c,d⟩:=asc_ok O (nrem - 1) 1 (by lia) h0
 generalize kRun lt (kas_asc p (nrem - 1) 1)=n at a b c d
 by_cases e:(n==nrem)=true
 ·rw [if_pos e]
  exact ⟨.refl _,a,by show n≤nrem; exact l30 1481250477649534697366635348585190570108163 rfl h1 b (lsub _ _),c⟩
 ·rw [if_neg e]
  have hne:n≠nrem:=fun q=>e (by rw [q]; exact beq_self_eq_true _)
  have hd:=d (by exact l30 1691990067368786064555143300946176957304894597410213229823569995012 rfl h1 b hne (lsub _ _))
  have hle:=O.of_lt _ _ hd
  by_cases e2:n > 1
  ·rw [if_pos e2]
   show RunOk lt p nrem (kRun lt (if lt (pat p 0) (pat p (n - 1))=true then KasT.ret (n,p) else kas_descPart n nrem (kas_rev p 0 n)))
   by_cases c0:lt (pat p 0) (pat p (n - 1))=true
   ·rw [if_pos c0]
    exact ⟨.refl _,a,by show n≤nrem; exact l30 1481250477649534697366635348585190570108163 rfl h1 b (lsub _ _),c⟩
   ·rw [if_neg c0]
    have hge:kle lt (pat p (n - 1)) (pat p 0):=by unfold kle; simpa using c0
    have eqv:∀ i j,i < n→j < n→kle lt (pat p i) (pat p j):=fun i j hi hj=>
     O.trans _ _ _ (c i (n - 1) (by exact l30 5213926168406984874681776945543698 rfl hi (lsub _ _)) (by exact l20 5516894951857629038660507278025986 rfl a (lsub _ _))) (O.trans _ _ _ hge (c 0 j (by exact l10 108032 rfl) hj))
    obtain ⟨b1,b2,b3,b4⟩:=descPart_ok O (p:=kas_rev p 0 n) (n:=n) (nrem:=nrem) (by exact l10 4736460033 rfl a) (by exact l30 1685433760146676863935882132242425387113694481220426711329024576004 rfl b hne e2 (lsub _ _)) (by rw [kas_rev_size]; exact l20 4758485505 rfl hz) (Dec.snoc O (fun i j hij hj=>by
     rw [pat_rev (by exact l40 1553224689786448980462101902544566790073922659588 rfl h1 hz b (lsub _ _)),pat_rev (by exact l40 1553224689786448980462101902544566790073922659588 rfl h1 hz b (lsub _ _)),if_pos (by exact l20 76855457545173521 rfl hj),if_pos (by exact l30 80593881744984037767682 rfl hij hj)]
     exact eqv _ _ (by exact l40 123057371296496954623742474328284311059577801267157608939492205372537082258691 rfl a (lsub _ _) (lsub _ _)) (by exact l40 123057371296496954623742474328284311059577801267157608939492205372537082258691 rfl a (lsub _ _) (lsub _ _))) (by exact l10 4736460033 rfl a) (by
     rw [pat_rev (by exact l40 1553224689786448980462101902544566790073922659588 rfl h1 hz b (lsub _ _)),pat_rev (by exact l40 1553224689786448980462101902544566790073922659588 rfl h1 hz b (lsub _ _)),if_neg (by exact l10 1145173313376 rfl),if_pos (by exact l20 24845884652014399887200030922314072225401187902722 rfl a (lsub _ _))]
     exact O.trans _ _ _ hle (eqv _ _ (by exact l20 5516894951857629038660507278025986 rfl a (lsub _ _)) (by exact l40 123057371296496954623742474328284311059577801267157608939492205372537082258691 rfl a (lsub _ _) (lsub _ _)))))
    exact ⟨b1.trans (kperm_rev _ _ _),b2,b3,b4⟩
  ·rw [if_neg e2]
   have:n=1:=by exact l10 19604192966242379010 rfl a e2
   subst this
   exact descPart_ok O (by lia) (by exact l10 314822536562733393154 rfl h1 hne) hz (Dec.snoc O (fun i j hij hj=>by
    have:i=j:=by exact l20 1157724970893294082 rfl hij hj
    subst this; exact O.refl _) (by lia) hle)
theorem place_ok (O:KOrd lt) {p:Array Nat} {k:Nat} (hs:Inc lt p k):∀ (f l r:Nat),l≤r→r≤k→r - l≤f→(∀ i,i < l→kle lt (pat p i) (pat p k))→(∀ i,r≤i→i < k→lt (pat p k) (pat p i)=true)→
  kRun lt (kas_place p k f l r)≤k∧(∀ i,i < kRun lt (kas_place p k f l r)→kle lt (pat p i) (pat p k))∧(∀ i,kRun lt (kas_place p k f l r)≤i→i < k→kle lt (pat p k) (pat p i))
 | 0,l,r,h1,h2,h3,h4,h5=>⟨by show l≤k; exact l30 301034470685186 rfl h1 h2,h4,fun i a b=>O.of_lt _ _ (h5 i (by have:l≤i:=a; exact l40 5467203017060798995356630662225962494467 rfl h3 this (lsub _ _)) b)⟩
 | f+1,l,r,h1,h2,h3,h4,h5=>by
  show kRun lt (if l≥r then .ret l else .ask (pat p k) (pat p ((l+r) / 2)) fun c=>if c=true then kas_place p k f l ((l+r) / 2) else kas_place p k f ((l+r) / 2+1) r)≤k∧_
  generalize hg:kRun lt (kas_place p k (f+1) l r)=m
  have hg':kRun lt (if l≥r then .ret l else .ask (pat p k) (pat p ((l+r) / 2)) fun c=>if c=true then kas_place p k f l ((l+r) / 2) else kas_place p k f ((l+r) / 2+1) r)=m:=hg
  rw [hg']
  by_cases hlr:l≥r
  ·rw [if_pos hlr] at hg'
   have:l=m:=hg'
   subst this
   exact ⟨by exact l30 301034470685186 rfl h1 h2,h4,fun i a b=>O.of_lt _ _ (h5 i (by exact l30 301034470685186 rfl hlr a) b)⟩
  ·rw [if_neg hlr] at hg'
   have hg2:kRun lt (if lt (pat p k) (pat p ((l+r) / 2))=true then kas_place p k f l ((l+r) / 2) else kas_place p k f ((l+r) / 2+1) r)=m:=hg'
   by_cases c:lt (pat p k) (pat p ((l+r) / 2))=true
   ·rw [if_pos c] at hg2
    have:=place_ok O hs f l ((l+r) / 2) (by exact l30 171382162769252498623371323182391394 rfl hlr (ldv2 _)) (by exact l40 10911860107821734158282932836563906116099 rfl h2 hlr (ldv2 _)) (by exact l60 18383982364303713974746044677611473825935877671511579631025055314342857916543352660753520423283633342319108 rfl h3 (lsub _ _) (lsub _ _) (ldv2 _)) h4 (fun i a b=>by
     cases q:lt (pat p k) (pat p i) with
     | true=>rfl
     | false=>
      have e:=O.trans _ _ _ (hs _ i a b) q
      have:lt (pat p k) (pat p ((l+r) / 2))=false:=e
      rw [c] at this; cases this)
    rw [hg2] at this
    exact this
   ·rw [if_neg c] at hg2
    have hc:kle lt (pat p ((l+r) / 2)) (pat p k):=by unfold kle; simpa using c
    have:=place_ok O hs f ((l+r) / 2+1) r (by exact l30 42626926721815214406530523131113349218 rfl hlr (ldv2 _)) h2 (by exact l60 638813905506748488573302728562431923339629730148172201950693472300946850351703366932437087067596666267231783428 rfl h3 (lsub _ _) (lsub _ _) (ldv2 _)) (fun i a=>O.trans _ _ _ (hs i _ (by exact l20 1218166065681 rfl a) (by exact l40 10911860128104143761934603260511157402115 rfl h2 hlr (ldv2 _))) hc) h5
    rw [hg2] at this
    exact this
theorem bin_ok (O:KOrd lt):∀ (f:Nat) (p:Array Nat) (k:Nat),k+f≤p.size→Inc lt p k→(kRun lt (kas_bin f p k)).Perm p∧Inc lt (kRun lt (kas_bin f p k)) (k+f)
 | 0,p,k,hz,h=>⟨.refl _,h⟩
 | f+1,p,k,hz,h=>by
  show (kRun lt ((kas_place p k k 0 k).bind fun l=>kas_bin f (bubble p k (k - l)) (k+1))).Perm p∧Inc lt (kRun lt ((kas_place p k k 0 k).bind fun l=>kas_bin f (bubble p k (k - l)) (k+1))) (k+(f+1))
  rw [kRun_bind]
  obtain ⟨a,b,c⟩:=place_ok O h k 0 k (by exact l10 108032 rfl) (by exact l10 109056 rfl) (by exact l20 5262459012328669938738399105 rfl (lsub _ _)) (fun i hi=>absurd hi (Nat.not_lt_zero _)) (fun i x y=>by exact False.elim (l20 75609782786 rfl x y))
  generalize kRun lt (kas_place p k k 0 k)=l at a b c
  have hs:Inc lt (bubble p k (k - l)) (k+1):=by
   have sp:∀ j,pat (bubble p k (k - l)) j=if j=l then pat p k else if l < j∧j≤k then pat p (j - 1) else pat p j:=fun j=>by
    rw [pat_bubble (by exact l30 312956108709889 rfl hz) (by exact l30 5262459013504390916732487553 rfl (lsub _ _)),show k - (k - l)=l by exact l40 9212070705574158788899606828390667198025577986259934510635749640217534913529050025616101795051883063720451 rfl a (lsub _ _) (lsub _ _)]
   intro i j hij hj
   rw [sp i,sp j]
   by_cases i1:i=l
   ·rw [if_pos i1]
    by_cases j1:j=l
    ·rw [if_pos j1]; exact O.refl _
    ·rw [if_neg j1,if_pos (by exact l40 24520304351118955222580467735011325829185844670721276420 rfl hij hj i1 j1)]; exact c _ (by exact l40 27071841077508161995921232519890241324594635205695272213515576982020 rfl hij i1 j1 (lsub _ _)) (by exact l50 1968465627895367597816003453188682275091304560775557814983232632808428635535877 rfl hij hj i1 j1 (lsub _ _))
   ·rw [if_neg i1]
    by_cases i2:l < i∧i≤k
    ·rw [if_pos i2,if_neg (by exact l40 4742881062659120675330 rfl hij i2),if_pos (by exact l40 340365769465758523545736171792169548291 rfl hij hj i2)]; exact h _ _ (by exact l40 1774181960608132285258605248695126594060568157494928093946089614251440643 rfl hij (lsub _ _) (lsub _ _)) (by exact l50 24845551534634299481171282862396376078945598769683 rfl hj i2 (lsub _ _))
    ·rw [if_neg i2]
     by_cases j1:j=l
     ·rw [if_pos j1]; exact b _ (by exact l30 20632020373468484062329347 rfl hij i1 j1)
     ·rw [if_neg j1]
      by_cases j2:l < j∧j≤k
      ·rw [if_pos j2]; exact h _ _ (by exact l50 28386882730959025861331653261722667650994567628788334097299685274782448132 rfl hij i2 j2 (lsub _ _)) (by exact l40 92578154853106460494414832559257849405810 rfl j2 (lsub _ _))
      ·rw [if_neg j2]; exact h _ _ (by exact l20 4758485505 rfl hij) (by exact l30 375606299907052041806573844528891049636771041229316 rfl a hj j1 j2)
  obtain ⟨d1,d2⟩:=bin_ok O f (bubble p k (k - l)) (k+1) (by rw [bubble_size]; exact l30 20515479602733293569 rfl hz) hs
  exact ⟨d1.trans (bubble_perm _ _ _),by rw [show k+(f+1)=k+1+f by exact l20 4984773498937376 rfl]; exact d2⟩
theorem sort_ok (O:KOrd lt) {n:Nat} (h1:1≤n):(kRun lt (kas_sort n)).Perm (List.toArray (List.range n))∧Inc lt (kRun lt (kas_sort n)) n:=by
 unfold kas_sort
 rw [kRun_bind]
 refine byc fun hNN=>?_
 have hz:(List.toArray (List.range n)).size=n:=by simp
 obtain ⟨a1,a2,a3,a4⟩:=count_ok O (p:=List.toArray (List.range n)) (nrem:=n) h1 (by rw [hz]; exact Nat.le_refl _)
 refine hNN ?_
 generalize kRun lt (kas_count n (List.toArray (List.range n)))=r at a1 a2 a3 a4
 have hz':r.2.size=n:=by have:=a1.toList.length_eq; simpa using this
 by_cases e:r.1 < n
 ·rw [if_pos e]
  have hm:max r.1 1=r.1:=by exact l20 23475393744190752633189843268828204623505374356738 rfl a2 (lmxN _ _)
  rw [hm]
  refine byc fun hNN=>?_
  obtain ⟨d1,d2⟩:=bin_ok O (n - r.1) r.2 r.1 (by exact l40 379118112898409004203011473164040401028495907 rfl hz' e (lsub _ _)) a4
  rw [show r.1+(n - r.1)=n by exact l30 97054242345103567631826680161642948581205260818 rfl e (lsub _ _)] at d2
  refine hNN ?_
  exact ⟨d1.trans a1,d2⟩
 ·rw [if_neg e]
  have:r.1=n:=by exact l20 18523599535886219778 rfl a3 e
  exact ⟨a1,this▸a4⟩
end
noncomputable def pairLt (a b:Int×Int):Bool:=decide (a.1 < b.1) || (decide (a.1=b.1)&&decide (a.2 < b.2))
theorem pairLt_le (a b:Int×Int):pairLt b a=false↔pairLe a b=true:=by
 unfold pairLt pairLe
 simp only [Bool.or_eq_false_iff,decide_eq_false_iff_not,Bool.and_eq_false_iff,Bool.or_eq_true,decide_eq_true_eq,Bool.and_eq_true]
 exact ⟨l04 28380412449455165410863105838207075287177958898222180633079063265718978161 rfl,l04 23389736582202216435979278032041180441571374113921 rfl⟩
theorem pairLe_trans {a b c:Int×Int} (h:pairLe a b=true) (k:pairLe b c=true):pairLe a c=true:=by
 unfold pairLe at *
 simp only [Bool.or_eq_true,decide_eq_true_eq,Bool.and_eq_true] at *
 exact l06 2718264726545822047076096600230720205333628654022568961443302528669221969088580785693340178312213217266728214570019381256627330 rfl h k
theorem pairLe_total (a b:Int×Int):pairLe a b=true∨pairLe b a=true:=by
 unfold pairLe
 simp only [Bool.or_eq_true,decide_eq_true_eq,Bool.and_eq_true]
 exact l04 110860986130684239886184007180496387840538901946180393097964329369225344 rfl
theorem pairLe_anti {a b:Int×Int} (h:pairLe a b=true) (k:pairLe b a=true):a=b:=by
 unfold pairLe at *
 simp only [Bool.or_eq_true,decide_eq_true_eq,Bool.and_eq_true] at *
 apply Prod.ext<;>first | exact l04 1852673545126753605842281327341168098182234223539867134699604212048389857846402 rfl h k | exact l04 1852701704683201100202826985828169191453485337694284082561920381004189942916226 rfl h k
theorem ordP (ky:Nat→Int×Int):KOrd (fun i j=>pairLt (ky i) (ky j)) where
 trans:=fun a b c h k=>(pairLt_le _ _).mpr (pairLe_trans ((pairLt_le _ _).mp h) ((pairLt_le _ _).mp k))
 of_lt:=fun a b h=>by
  refine (pairLt_le _ _).mpr ?_
  unfold pairLt at h; unfold pairLe
  simp only [Bool.or_eq_true,decide_eq_true_eq,Bool.and_eq_true] at *
  exact l04 24615733009563655196133181345905270852754521152913384577 rfl h
 refl:=fun a=>(pairLt_le _ _).mpr ((pairLe_total _ _).elim id id)
theorem insP_perm (a:Int×Int):∀ l,(insP a l).Perm (a::l)
 | []=>.refl _
 | b::r=>by
  unfold insP
  split
  ·exact .refl _
  ·exact ((insP_perm a r).cons b).trans (.swap a b r)
theorem sortP_perm:∀ l,(sortP l).Perm l
 | []=>.refl _
 | a::r=>(insP_perm a _).trans ((sortP_perm r).cons a)
theorem insP_sorted (a:Int×Int):∀ l,l.Pairwise (fun a b=>pairLe a b=true)→(insP a l).Pairwise (fun a b=>pairLe a b=true)
 | [],_=>by unfold insP; simp
 | b::r,h=>by
  unfold insP
  obtain ⟨h1,h2⟩:=List.pairwise_cons.mp h
  set_option tactic.hygienic true in split
  ·rename_i c
   refine List.pairwise_cons.mpr ⟨fun x hx=>?_,h⟩
   rcases List.mem_cons.mp hx with rfl | hx
   ·exact c
   ·exact pairLe_trans c (h1 x hx)
  ·rename_i c
   refine List.pairwise_cons.mpr ⟨fun x hx=>?_,insP_sorted a r h2⟩
   rcases List.mem_cons.mp ((insP_perm a r).mem_iff.mp hx) with rfl | hx
   ·exact (pairLe_total _ _).resolve_left c
   ·exact h1 x hx
theorem sortP_sorted:∀ l,(sortP l).Pairwise (fun a b=>pairLe a b=true)
 | []=>.nil
 | a::r=>insP_sorted a _ (sortP_sorted r)
theorem sorted_unique:∀ {l m:List (Int×Int)},l.Perm m→l.Pairwise (fun a b=>pairLe a b=true)→m.Pairwise (fun a b=>pairLe a b=true)→l=m
 | [],m,p,_,_=>(List.nil_perm.mp p).symm
 | a::l,[],p,_,_=>absurd p.symm (by intro q; exact absurd (List.nil_perm.mp q) (by simp))
 | a::l,b::m,p,h,k=>by
  obtain ⟨h1,h2⟩:=List.pairwise_cons.mp h
  obtain ⟨k1,k2⟩:=List.pairwise_cons.mp k
  have e:a=b:=by
   have ha:a∈b::m:=p.mem_iff.mp (List.mem_cons_self ..)
   have hb:b∈a::l:=p.mem_iff.mpr (List.mem_cons_self ..)
   rcases List.mem_cons.mp ha with e | ha
   ·exact e
   ·rcases List.mem_cons.mp hb with e | hb
    ·exact e.symm
    ·exact pairLe_anti (h1 b hb) (k1 a ha)
  subst e
  rw [sorted_unique (List.perm_cons a |>.mp p) h2 k2]
theorem sort_pairs (ps:List (Int×Int)) (h1:1≤ps.length):
  (kRun (fun i j=>pairLt (ps.getD i (0,0)) (ps.getD j (0,0))) (kas_sort ps.length)).toList.map (fun i=>ps.getD i (0,0))=sortP ps∧
  ∀ i∈(kRun (fun i j=>pairLt (ps.getD i (0,0)) (ps.getD j (0,0))) (kas_sort ps.length)).toList,i < ps.length:=by
 obtain ⟨a,b⟩:=sort_ok (ordP fun i=>ps.getD i (0,0)) h1
 generalize kRun (fun i j=>pairLt (ps.getD i (0,0)) (ps.getD j (0,0))) (kas_sort ps.length)=p at a b
 have a':p.toList.Perm (List.range ps.length):=a.toList
 have hz:p.toList.length=ps.length:=by rw [a'.length_eq,List.length_range]
 refine ⟨sorted_unique (((a'.map _).trans ?_).trans (sortP_perm ps).symm) ?_ (sortP_sorted ps),fun i hi=>List.mem_range.mp (a'.mem_iff.mp hi)⟩
 ·have:(List.range ps.length).map (fun i=>ps.getD i (0,0))=ps:=by
   apply List.ext_getElem
   ·simp
   ·intro i h1 h2; simp at h1 ⊢; simp [h1]
  rw [this]
 ·rw [List.pairwise_map,List.pairwise_iff_getElem]
  intro i j hi hj hij
  refine (pairLt_le _ _).mp ?_
  have:=b i j (Nat.le_of_lt hij) (by exact l30 4786982018464290 rfl hz hj)
  unfold kle at this
  have e1:pat p i=p.toList[i]:=by rw [pat_eq,← Array.getElem?_toList,List.getElem?_eq_getElem hi]; rfl
  have e2:pat p j=p.toList[j]:=by rw [pat_eq,← Array.getElem?_toList,List.getElem?_eq_getElem hj]; rfl
  rw [e1,e2] at this
  exact this
end Internal
namespace Internal
open PySem PySem.W PyProof.Rows PySem.Calls
noncomputable def TOk (n:Nat) {α:Type} (P:α→Prop):KasT α→Prop
 | .ret a=>P a
 | .ask i j k=>i < n∧j < n∧∀ b,TOk n P (k b)
theorem TOk.bind {n:Nat} {α β:Type} {P:α→Prop} {P':β→Prop} {f:α→KasT β}:∀ {t:KasT α},TOk n P t→(∀ a,P a→TOk n P' (f a))→TOk n P' (t.bind f)
 | .ret a,h,k=>k a h
 | .ask i j g,h,k=>⟨h.1,h.2.1,fun b=>TOk.bind (h.2.2 b) k⟩
noncomputable def AllLt (n:Nat) (p:Array Nat):Prop:=0 < n∧∀ x∈p,x < n
theorem AllLt.perm {n:Nat} {p q:Array Nat} (h:AllLt n p) (e:q.Perm p):AllLt n q:=⟨h.1,fun x hx=>h.2 x (by
 have:=e.toList.mem_iff (a:=x)
 rw [Array.mem_toList_iff,Array.mem_toList_iff] at this
 exact this.mp hx)⟩
theorem AllLt.pat {n:Nat} {p:Array Nat} (h:AllLt n p) (k:Nat):pat p k < n:=by
 rw [pat_eq]
 cases e:p[k]? with
 | none=>exact h.1
 | some x=>exact h.2 x (Array.mem_of_getElem? e)
theorem asc_in {n:Nat} {p:Array Nat} (h:AllLt n p):∀ f m,TOk n (fun uu=>True) (kas_asc p f m)
 | 0,m=>trivial
 | f+1,m=>⟨h.pat _,h.pat _,fun b=>by dsimp only; split; exact trivial; exact asc_in h f (m+1)⟩
theorem desc_in {n:Nat}:∀ f (p:Array Nat) m q,AllLt n p→TOk n (fun r=>AllLt n r.1) (kas_desc f p m q)
 | 0,p,m,q,h=>h
 | f+1,p,m,q,h=>⟨h.pat _,h.pat _,fun b=>by
   dsimp only
   split
   ·split
    ·exact desc_in f _ _ _ (h.perm (kperm_rev _ _ _))
    ·exact desc_in f _ _ _ h
   ·exact ⟨h.pat _,h.pat _,fun b=>by dsimp only; split; exact h; exact desc_in f _ _ _ h⟩⟩
theorem tail3_in {n m r:Nat} {p:Array Nat} (h:AllLt n p):TOk n (fun r=>AllLt n r.2) (kas_tail3 m r p):=
 (asc_in (h.perm (kperm_rev _ _ _)) _ _).bind fun uu uu=>h.perm (kperm_rev _ _ _)
theorem descPart_in {n m r:Nat} {p:Array Nat} (h:AllLt n p):TOk n (fun r=>AllLt n r.2) (kas_descPart m r p):=
 (desc_in _ _ _ _ h).bind fun r hr=>by
  (try dsimp only)
  split
  ·exact tail3_in (hr.perm (kperm_rev _ _ _))
  ·exact tail3_in hr
theorem count_in {n r:Nat} {p:Array Nat} (h:AllLt n p):TOk n (fun r=>AllLt n r.2) (kas_count r p):=
 (asc_in h _ _).bind fun m uu=>by
  (try dsimp only)
  split
  ·exact h
  ·split
   ·exact ⟨h.pat _,h.pat _,fun b=>by
     dsimp only
     split
     ·exact h
     ·exact descPart_in (h.perm (kperm_rev _ _ _))⟩
   ·exact descPart_in h
theorem place_in {n:Nat} {p:Array Nat} (h:AllLt n p) (k:Nat):∀ f l r,TOk n (fun uu=>True) (kas_place p k f l r)
 | 0,l,r=>trivial
 | f+1,l,r=>by
  unfold kas_place
  split
  ·exact trivial
  ·exact ⟨h.pat _,h.pat _,fun b=>by dsimp only; split<;>exact place_in h k f _ _⟩
theorem bin_in {n:Nat}:∀ f (p:Array Nat) k,AllLt n p→TOk n (fun uu=>True) (kas_bin f p k)
 | 0,p,k,h=>trivial
 | f+1,p,k,h=>(place_in h k _ _ _).bind fun l uu=>bin_in f _ _ (h.perm (bubble_perm _ _ _))
theorem sort_in {n:Nat} (h1:1≤n):TOk n (fun uu=>True) (kas_sort n):=
 (count_in (p:=List.toArray (List.range n)) ⟨h1,fun x hx=>by simpa using hx⟩).bind fun r hr=>by
  (try dsimp only)
  split
  ·exact bin_in _ _ _ hr
  ·exact trivial
theorem kasWp_run {n:Nat} {lt:Nat→Nat→Bool} {cmp:Nat→Nat→(Bool→Shared→Prop)→Shared→Prop} {Inv:Shared→Prop} {α:Type} {P:α→Prop} {Q:α→Shared→Prop}
  (hc:∀ i j C s,i < n→j < n→Inv s→(∀ s',Inv s'→C (lt i j) s')→cmp i j C s):∀ (t:KasT α) (s:Shared),TOk n P t→Inv s→(∀ s',Inv s'→Q (kRun lt t) s')→t.kasWp cmp Q s
 | .ret a,s,_,hi,h=>h s hi
 | .ask i j k,s,ho,hi,h=>hc i j _ s ho.1 ho.2.1 hi fun s' hi'=>kasWp_run hc (k (lt i j)) s' (ho.2.2 _) hi' h
section
variable {prog:Program} {w:World} {A:Around} {E:Value→Shared→Prop} {s:Shared}
noncomputable def TupP (h:Heap) (v:Value) (p:Int×Int):Prop:=∃ a o n t u,v=.ref a∧h.get? a=some o∧o.cls=.type "tuple" ∧ o.data=.seq #[.int p.1 t,.int p.2 u] n
theorem TupP.keep {h h':Heap} {v:Value} {p:Int×Int} (x:TupP h v p) (D:Addr→Prop) (hk:∀ b o,¬ D b→h.get? b=some o→h'.get? b=some o) (hd:∀ a o,D a→h.get? a=some o→o.cls≠.type "tuple"):TupP h' v p:=by
 refine byc fun hNN=>?_
 obtain ⟨a,o,n,t,u,e,ho,hc,r⟩:=x
 refine hNN ?_
 exact ⟨a,o,n,t,u,e,hk a o (fun q=>hd a o q ho hc) ho,hc,r⟩
theorem cmp_pairs {x y:Value} {p q:Int×Int} {Q:Bool→Shared→Prop} (hx:TupP s.heap x p) (hy:TupP s.heap y q) (h:Q (pairLt p q) s):
  wpAny (model prog w) A (keyLt' (tuples' true) x y) Q E s:=by
 refine byc fun hNN=>?_
 obtain ⟨a,o,n,t,u,rfl,ho,hc,hd⟩:=hx
 obtain ⟨b,o',n',t',u',rfl,ho',hc',hd'⟩:=hy
 refine hNN ?_
 refine kat_lt ho hd ho' hd' ?_
 refine kat_cons (wpAny_eqBool_int (kat_go (fun e=>kat_yes (kat_cons (wpAny_eqBool_int (kat_go (fun e'=>kat_yes (kat_nil ?_)) fun e'=>kat_no (kat_one _ _ (lt_int ?_)))))) fun e=>kat_no (oneLt_int ?_)))
 ·have e1:p.1=q.1:=by simpa using e
  have e2:p.2=q.2:=by simpa using e'
  have:pairLt p q=decide ((#[Value.int p.1 t,Value.int p.2 u]:Array Value).size < (#[Value.int q.1 t',Value.int q.2 u']:Array Value).size):=by
   unfold pairLt
   rw [e1,e2]
   simp
  rw [← this]
  exact h
 ·have e1:p.1=q.1:=by simpa using e
  have:pairLt p q=decide (p.2 < q.2):=by unfold pairLt; rw [e1]; simp
  show Q _ s
  rw [← this]
  exact h
 ·have e1:p.1≠q.1:=by simpa using e
  have:pairLt p q=decide (p.1 < q.1):=by unfold pairLt; simp [e1]
  rw [← this]
  exact h
theorem looks_int {h:Heap} {i:Int} {t:Tok} {M:Model}:Looks M h (typeOf (.int i t)) (.type "int"):=fun A Q E s k q=>wpAny_of_eq rfl q
theorem tups_of {h:Heap}:∀ {vs:List Value} {ps:List (Int×Int)},vs.length=ps.length→(∀ (i:Nat) (v:Value) (p:Int×Int),vs[i]?=some v→ps[i]?=some p→TupP h v p)→∃ fs:List Value,KatTups h vs fs∧fs.length=ps.length∧∀ v∈fs,∃ i t,v=.int i t
 | [],[],_,_=>⟨[],.nil,rfl,by simp⟩
 | v::vs,p::ps,hl,h=>by
  refine byc fun hNN=>?_
  obtain ⟨fs,a,b,c⟩:=tups_of (vs:=vs) (ps:=ps) (by simpa using hl) fun i v p hv hp=>h (i+1) v p (by simpa using hv) (by simpa using hp)
  obtain ⟨x,o,n,t,u,rfl,ho,hc,hd⟩:=h 0 v p rfl rfl
  refine hNN ?_
  refine ⟨.int p.1 t::fs,.cons ho hc hd rfl a,by simp [b],fun v hv=>?_⟩
  rcases List.mem_cons.mp hv with rfl | hv
  ·exact ⟨_,_,rfl⟩
  ·exact c v hv
 | [],_::_,hl,_=>by simp at hl
 | _::_,[],hl,_=>by simp at hl
noncomputable def outP (ps:List (Int×Int)):Array Nat:=kRun (fun i j=>pairLt (ps.getD i (0,0)) (ps.getD j (0,0))) (kas_sort ps.length)
theorem list_sort_pairs {a n:Nat} {vs:List Value} {ps:List (Int×Int)} {P:PySem.Fin→Shared→Prop} (ho:s.heap.get? a=some (seqObj "list" vs.toArray n)) (hl:vs.length=ps.length)
  (hv:∀ (i:Nat) (v:Value) (p:Int×Int),vs[i]?=some v→ps[i]?=some p→TupP s.heap v p) (h2:2≤ps.length) (h64:ps.length < 64)
  (h:∀ h' tk n',(∀ b o,b≠a→s.heap.get? b=some o→h'.get? b=some o)→h'.get? a=some (seqObj "list" (List.toArray ((outP ps).toList.map fun i=>vs.getD i Value.none)) n')→P (.done (.ret .none)) { s with heap:=h',toks:=tk }):
  wpAny (model prog w) A (Builtin.«list.sort» ⟨[.ref a],[]⟩) P E s:=by
 have ha:a < s.heap.objs.size:=Heap.lt_size ho
 have s1:=Heap.SameBut.update s.heap a (Obj.mapSeq fun uu=>(#[]:Array Value))
 obtain ⟨e1,ho1⟩:∃ e1,(s.heap.update a (Obj.mapSeq fun uu=>(#[]:Array Value))).get? a=some (seqObj "list" #[] e1):=⟨_,get?_update_seq ho fun uu => #[]⟩
 rw [list_sort_plain]
 refine wpAny_bind (listItems_at ho rfl ?_)
 refine wpAny_bind (listUpdate_at ho rfl ?_ (by rw [List.size_toArray,sizeLine_eq]; exact l20 1347217906732421863068662872610 rfl hl h64) (Nat.zero_le _))
 refine wpAny_bind (seqEpoch_at ho1 rfl ?_)
 refine wpAny_bind (wpAny_newTuple ?_ (by show vs.length≤_; rw [sizeLine_eq]; exact l20 1347217906732421863068662872610 rfl hl h64))
 refine wpAny_bind (wpAny_newList ?_ (Nat.zero_le _))
 refine wpAny_holding ?_
 show wpAny (model prog w) A _ P E { s with heap:=((s.heap.update a (Obj.mapSeq fun uu=>(#[]:Array Value))).push (seqObj "tuple" vs.toArray 0)).push (seqObj "list" #[] 0) }
 generalize eH:((s.heap.update a (Obj.mapSeq fun uu=>(#[]:Array Value))).push (seqObj "tuple" vs.toArray 0)).push (seqObj "list" #[] 0)=H2
 have hk2:∀ b o,b≠a→s.heap.get? b=some o→H2.get? b=some o:=fun b o hb e=>by
  rw [← eH]; exact Heap.get?_push_of_some _ (Heap.get?_push_of_some _ (s1.extBut b o hb e))
 have ha2:H2.get? a=some (seqObj "list" #[] e1):=by rw [← eH]; exact Heap.get?_push_of_some _ (Heap.get?_push_of_some _ ho1)
 have notT:∀ b o,b=a→s.heap.get? b=some o→o.cls≠.type "tuple" := fun b o e q=>by
  subst e; rw [ho] at q; cases q; exact fun e=>absurd (Value.type.inj e) (by decide)
 have hv2:∀ (i:Nat) (v:Value) (p:Int×Int),vs[i]?=some v→ps[i]?=some p→TupP H2 v p:=fun i v p a1 a2=>(hv i v p a1 a2).keep (· = a) (fun b o hb e=>hk2 b o hb e) notT
 dsimp only
 have hn2:¬ vs.toArray.size < 2:=by rw [List.size_toArray]; exact l20 19672367583648070178 rfl hl h2
 rw [if_neg hn2,if_neg hn2]
 obtain ⟨fs,ft,fl,fi⟩:=tups_of hl hv2
 refine wpAny_bind (kat_kind (T:=.type "int") (vs:=vs) (fs:=fs) (s:={ s with heap:=H2 }) ft (by exact l20 76591299962741762 rfl h2 fl) (fun v hvf=>?_) (by decide +kernel) ?_)
 ·obtain ⟨i,t,rfl⟩:=fi v hvf; exact looks_int
 have hb:((Value.type "int" != Value.type "tuple"):Bool)=true:=by decide +kernel
 rw [hb]
 let Inv:Shared→Prop:=fun s'=>∃ h' tk,s'={ s with heap:=h',toks:=tk }∧(∀ b o,H2.get? b=some o→h'.get? b=some o)
 refine wpAny_bind (wpAny_mono (kat_run (Q:=fun st' s'=>∃ p:Array Nat,arrOf st'=p.map (kas_item (vs.toArray.zip vs.toArray))∧failedOf st'=none∧p=outP ps∧Inv s')
  (G:=fun p s'=>p=outP ps∧Inv s')
  rfl (by exact l20 1229661097024338466 rfl hl h2) (by exact l20 80300443666938191788578 rfl hl h64) (fun p' st' s' a1 a2 a3 a4=>⟨p',a2,a3,a4.1,a4.2⟩) ?_) ?_ fun uu uu e=>e)
 ·rw [hl]
  refine kasWp_run (n:=ps.length) (lt:=fun i j=>pairLt (ps.getD i (0,0)) (ps.getD j (0,0))) (Inv:=Inv) (P:=fun uu=>True) (fun i j C s' hi hj hI hC=>?_) _ _ (sort_in (by exact l10 75783349249 rfl h2)) ⟨H2,s.toks,rfl,fun uu uu e=>e⟩ fun s' hI=>⟨rfl,hI⟩
  have g:∀ i,i < ps.length→∀ h',(∀ b o,H2.get? b=some o→h'.get? b=some o)→TupP h' (vs.getD i Value.none) (ps.getD i (0,0)):=fun i hi h' hk=>by
   have hi':i < vs.length:=by exact l30 4803405990181410 rfl hl hi
   refine (hv2 i _ _ (List.getElem?_eq_getElem hi') (List.getElem?_eq_getElem hi)).keep (fun uu=>False) (fun b o uu e=>hk b o e) (fun uu uu q=>q.elim) |> fun x=>?_
   simpa [hi,hi'] using x
  have hI':=hI
  obtain ⟨h',tk,rfl,hk⟩:=hI'
  show wpAny _ _ _ _ _ _
  exact cmp_pairs (g i hi h' hk) (g j hj h' hk) (hC _ hI)
 ·rintro ⟨⟨⟩,st'⟩ s' ⟨p,har,hf,hp,h',tk,rfl,hk⟩
  dsimp only
  have na:=hk a _ ha2
  have hout:=kat_snds (ks:=vs) (vs:=vs) rfl har
  have hin:∀ i∈p.toList,i < ps.length:=by rw [hp]; exact (sort_pairs ps (by exact l10 75783349249 rfl h2)).2
  have hpz:p.size=ps.length:=by
   rw [hp,← Array.length_toList]
   have:=congrArg List.length (sort_pairs ps (by exact l10 75783349249 rfl h2)).1
   rw [List.length_map,(sortP_perm ps).length_eq] at this
   exact this
  rw [hout]
  obtain ⟨c2,hc2⟩:∃ c2,(h'.update a (Obj.mapSeq fun uu=>List.toArray (p.toList.map fun i=>vs.getD i Value.none))).get? a=some (seqObj "list" (List.toArray (p.toList.map fun i=>vs.getD i Value.none)) c2):=⟨_,get?_update_seq na fun uu=>List.toArray (p.toList.map fun i=>vs.getD i Value.none)⟩
  refine wpAny_bind (seqEpoch_at na rfl ?_)
  refine wpAny_bind (listUpdate_at na rfl ?_ (Nat.zero_le _) (by rw [List.size_toArray,List.length_map,Array.length_toList,hpz,sizeLine_eq]; exact l10 334988307424293741878856209 rfl h64))
  rw [hf]
  simp only [bne_self_eq_false,Bool.false_eq_true,if_false]
  refine wpAny_pure ?_
  subst hp
  exact h _ _ c2 (fun b o hb e=>(Heap.SameBut.update ..).extBut b o hb (hk b o (hk2 b o hb e))) hc2
theorem short_zip:∀ {vs:List Value},vs.length < 2→(vs.toArray.zip vs.toArray).map (·.2)=vs.toArray
 | [],_=>by simp
 | [v],_=>by simp
 | _::_::l,h=>absurd h (Nat.not_lt.mpr (Nat.le_add_left 2 l.length))
theorem sortP_short:∀ {ps:List (Int×Int)},ps.length < 2→sortP ps=ps
 | [],_=>rfl
 | [p],_=>rfl
 | _::_::l,h=>absurd h (Nat.not_lt.mpr (Nat.le_add_left 2 l.length))
theorem list_sort_short {a n:Nat} {vs:List Value} {P:PySem.Fin→Shared→Prop} (ho:s.heap.get? a=some (seqObj "list" vs.toArray n)) (h2:vs.length < 2)
  (h:∀ h' tk n',(∀ b o,b≠a→s.heap.get? b=some o→h'.get? b=some o)→h'.get? a=some (seqObj "list" vs.toArray n')→P (.done (.ret .none)) { s with heap:=h',toks:=tk }):
  wpAny (model prog w) A (Builtin.«list.sort» ⟨[.ref a],[]⟩) P E s:=by
 have ha:a < s.heap.objs.size:=Heap.lt_size ho
 have s1:=Heap.SameBut.update s.heap a (Obj.mapSeq fun uu=>(#[]:Array Value))
 obtain ⟨e1,ho1⟩:∃ e1,(s.heap.update a (Obj.mapSeq fun uu=>(#[]:Array Value))).get? a=some (seqObj "list" #[] e1):=⟨_,get?_update_seq ho fun uu => #[]⟩
 rw [list_sort_plain]
 refine wpAny_bind (listItems_at ho rfl ?_)
 refine wpAny_bind (listUpdate_at ho rfl ?_ (by rw [List.size_toArray,sizeLine_eq]; exact l10 5045799395627637033489 rfl h2) (Nat.zero_le _))
 refine wpAny_bind (seqEpoch_at ho1 rfl ?_)
 refine wpAny_bind (wpAny_newTuple ?_ (by show vs.length≤_; rw [sizeLine_eq]; exact l10 5045799395627637033489 rfl h2))
 refine wpAny_bind (wpAny_newList ?_ (Nat.zero_le _))
 refine wpAny_holding ?_
 show wpAny (model prog w) A _ P E { s with heap:=((s.heap.update a (Obj.mapSeq fun uu=>(#[]:Array Value))).push (seqObj "tuple" vs.toArray 0)).push (seqObj "list" #[] 0) }
 have hk2:∀ b o,b≠a→s.heap.get? b=some o→(((s.heap.update a (Obj.mapSeq fun uu=>(#[]:Array Value))).push (seqObj "tuple" vs.toArray 0)).push (seqObj "list" #[] 0)).get? b=some o:=fun b o hb e=>
  Heap.get?_push_of_some _ (Heap.get?_push_of_some _ (s1.extBut b o hb e))
 have ha2:(((s.heap.update a (Obj.mapSeq fun uu=>(#[]:Array Value))).push (seqObj "tuple" vs.toArray 0)).push (seqObj "list" #[] 0)).get? a=some (seqObj "list" #[] e1):=Heap.get?_push_of_some _ (Heap.get?_push_of_some _ ho1)
 dsimp only
 have hn2:vs.toArray.size < 2:=by rw [List.size_toArray]; exact l10 1178063751697 rfl h2
 rw [if_pos hn2,if_pos hn2]
 refine wpAny_bind (wpAny_pure ?_)
 refine wpAny_bind ?_
 show wpAny _ _ ((pure ():StateT SortSt Sem Unit).run (SortSt.mk' general' (vs.toArray.zip vs.toArray) #[] 7 none)) _ _ _
 rw [StateT.run_pure]
 refine wpAny_pure ?_
 dsimp only
 have hz:(arrOf (SortSt.mk' general' (vs.toArray.zip vs.toArray) #[] 7 none)).map (·.2)=vs.toArray:=by
  exact short_zip h2
 rw [hz]
 obtain ⟨c2,hc2⟩:∃ c2,((((s.heap.update a (Obj.mapSeq fun uu=>(#[]:Array Value))).push (seqObj "tuple" vs.toArray 0)).push (seqObj "list" #[] 0)).update a (Obj.mapSeq fun uu=>vs.toArray)).get? a=some (seqObj "list" vs.toArray c2):=⟨_,get?_update_seq ha2 fun uu=>vs.toArray⟩
 refine wpAny_bind (seqEpoch_at ha2 rfl ?_)
 refine wpAny_bind (listUpdate_at ha2 rfl ?_ (Nat.zero_le _) (by rw [List.size_toArray,sizeLine_eq]; exact l10 1308548075876147429263889 rfl h2))
 simp only [bne_self_eq_false,Bool.false_eq_true,if_false]
 refine wpAny_pure ?_
 exact h _ s.toks c2 (fun b o hb e=>(Heap.SameBut.update ..).extBut b o hb (hk2 b o hb e)) hc2
theorem sorted_pairs {x:Addr} {T:String} {o:Obj} {n:Nat} {vs:List Value} {ps:List (Int×Int)} {Q:Value→Shared→Prop} (hT:T = "list" ∨ T = "tuple") (ho:s.heap.get? x=some o) (hc:o.cls=.type T) (hd:o.data=.seq vs.toArray n) (hl:vs.length=ps.length)
  (hv:∀ (i:Nat) (v:Value) (p:Int×Int),vs[i]?=some v→ps[i]?=some p→TupP s.heap v p) (h64:ps.length < 64)
  (h:∀ h' tk n' D out,(∀ b o,s.heap.get? b=some o→h'.get? b=some o)→s.heap.get? D=none→h'.get? D=some (seqObj "list" (List.toArray out) n')→
   (ps.length < 2∧out=vs∨2≤ps.length∧out=(outP ps).toList.map fun i=>vs.getD i Value.none)→Q (.ref D) { s with heap:=h',toks:=tk }):
  wpAny (model prog w) A (call (.builtin "sorted") [.ref x]) Q E s:=by
 refine Calls.call_function_entry kind_sorted plain_sorted entry_sorted (args_sorted1 _) ?_
 unfold Builtin.«sorted»
 refine wpAny_bind (m:=checkCount "sorted" 1 1 _) (wpAny_pure ?_)
 refine wpAny_bind (m:=collect _) ?_
 unfold collect
 refine wpAny_bind (wpAny_runValue (codeAny_builtin entry_proto_collect' ?_))
 show wpAny _ _ (do again (.builtin "list.__iadd__" ⟨[← newList [],.ref x],[]⟩)) _ _ s
 refine wpAny_bind (wpAny_newList (wpAny_pure ⟨Code.quiet_builtin _ (by decide +kernel),codeAny_builtin entry_list_iadd' ?_⟩))
 show wpAny _ _ (Builtin.List.listExtendWith (.ref s.heap.objs.size) (.ref x) (.ref s.heap.objs.size)) _ _ { s with heap:=s.heap.push (seqObj "list" #[] 0) }
 unfold Builtin.List.listExtendWith
 have ho':(s.heap.push (seqObj "list" #[] 0)).get? x=some o:=Heap.get?_push_of_some _ ho
 refine wpAny_bind (wpAny_typeOf (T:=T) ⟨o,ho',hc⟩ ?_)
 have h1:(Builtin.List.listSameRef (.ref s.heap.objs.size) (.ref x) || Value.type T==Value.type "list" || Value.type T==Value.type "tuple")=true:=by
  rcases hT with rfl | rfl<;>simp
 rw [if_pos h1]
 refine wpAny_bind (listItems_at ho' hd ?_)
 refine wpAny_bind (listItems_at (xs := #[]) (n:=0) (Heap.get?_push_size _ rfl) rfl ?_)
 rw [if_neg (by simp)]
 refine wpAny_bind (listUpdate_at (xs := #[]) (n:=0) (Heap.get?_push_size _ rfl) rfl ?_ (Nat.zero_le _) (by show (#[]++vs.toArray).size≤sizeLine+1; simp only [Array.size_append,List.size_toArray,List.length_nil]; rw [sizeLine_eq]; exact l20 88295788740879379194581642353162786 rfl hl h64))
 refine wpAny_pure ?_
 show wpAny (model prog w) A.in1 (do
   let o ← load s.heap.objs.size
   match o.data with
   | .seq xs _=>pure xs.toList
   | _=>unsupported "internal:collect") _ E { s with heap:=(s.heap.push (seqObj "list" #[] 0)).update s.heap.objs.size (Obj.mapSeq (· ++ vs.toArray)) }
 refine wpAny_bind (wpAny_load (get?_update_seq (Heap.get?_push_size _ rfl) _) ?_)
 show wpAny _ _ (pure ((#[]:Array Value)++vs.toArray).toList) _ E _
 rw [show ((#[]:Array Value)++vs.toArray).toList=vs by simp]
 refine wpAny_pure ?_
 refine wpAny_bind (wpAny_newList ?_ (by rw [sizeLine_eq]; exact l20 1347217906732421863068662872610 rfl hl h64))
 generalize eH:(s.heap.push (seqObj "list" #[] 0)).update s.heap.objs.size (Obj.mapSeq (· ++ vs.toArray))=H1
 have hsz:H1.objs.size=s.heap.objs.size+1:=by
  rw [← eH,Heap.size_update,size_push']
 have keep:∀ b o,s.heap.get? b=some o→(H1.push (seqObj "list" vs.toArray 0)).get? b=some o:=fun b o q=>by
  have hlt:b < s.heap.objs.size:=Heap.lt_size q
  rw [Heap.get?_push_ne _ _ _ (by rw [hsz]; exact Nat.ne_of_lt (Nat.lt_succ_of_lt hlt)),← eH,Heap.get?_update_ne _ _ _ _ (Nat.ne_of_lt hlt),Heap.get?_push_ne _ _ _ (Nat.ne_of_lt hlt)]
  exact q
 have hoL:(H1.push (seqObj "list" vs.toArray 0)).get? H1.objs.size=some (seqObj "list" vs.toArray 0):=Heap.get?_push_size _ rfl
 have hnew:s.heap.get? H1.objs.size=none:=Heap.get?_none_of_le (by rw [hsz]; exact l10 22678016 rfl)
 show wpAny (model prog w) A.in1 _ _ E { s with heap:=H1.push (seqObj "list" vs.toArray 0) }
 refine wpAny_bind (wpAny_holding (wpAny_call_entry slot_list_sort ⟨_,hoL,rfl⟩ entry_list_sort ?_ (args_list_sort _)))
 have hv':∀ (i:Nat) (v:Value) (p:Int×Int),vs[i]?=some v→ps[i]?=some p→TupP (H1.push (seqObj "list" vs.toArray 0)) v p:=fun i v p a b=>
  (hv i v p a b).keep (fun uu=>False) (fun b o uu e=>keep b o e) (fun uu uu q=>q.elim)
 have keep':∀ h':Heap,(∀ b o,b≠H1.objs.size→(H1.push (seqObj "list" vs.toArray 0)).get? b=some o→h'.get? b=some o)→∀ b o,s.heap.get? b=some o→h'.get? b=some o:=fun h' hk b o e=>
  hk b o (fun q=>by subst q; rw [hnew] at e; cases e) (keep b o e)
 by_cases h2:2≤ps.length
 ·exact list_sort_pairs (s:={ s with heap:=H1.push (seqObj "list" vs.toArray 0) }) hoL hl hv' h2 h64 fun h' tk n' hk hg=>
   ⟨_,rfl,wpAny_pure ⟨_,rfl,h h' tk n' _ _ (keep' h' hk) hnew hg (.inr ⟨h2,rfl⟩)⟩⟩
 ·exact list_sort_short (s:={ s with heap:=H1.push (seqObj "list" vs.toArray 0) }) hoL (by exact l20 19604813608326183458 rfl hl h2) fun h' tk n' hk hg=>
   ⟨_,rfl,wpAny_pure ⟨_,rfl,h h' tk n' _ _ (keep' h' hk) hnew hg (.inl ⟨by exact l10 18849028259937 rfl h2,rfl⟩)⟩⟩
end
theorem RA.tups {h:Heap} {D:Addr→Prop}:∀ {ps:List (Int×Int)} {vs:List Value},RA h D (encPs ps) vs→vs.length=ps.length∧∀ (i:Nat) (v:Value) (p:Int×Int),vs[i]?=some v→ps[i]?=some p→TupP h v p
 | [],vs,r=>by cases r; exact ⟨rfl,fun i v p hv=>by simp at hv⟩
 | q::ps,vs,r=>by
  cases r with
  | cons h1 r=>
   obtain ⟨e,f⟩:=RA.tups r
   refine ⟨by simp [e],fun i v p hv hp=>?_⟩
   cases i with
   | zero=>
    simp only [List.getElem?_cons_zero,Option.some.injEq] at hv hp
    subst hv hp
    obtain ⟨a,ws,rfl,⟨o,ho,hc,n,hd⟩,_,ra⟩:=h1.tup_inv
    have:∃ t u,ws.toList=[.int q.1 t,.int q.2 u]:=by
     generalize ws.toList=wl at ra
     cases ra with
     | cons r1 ra=>cases ra with
      | cons r2 ra=>cases ra with
       | nil=>
        obtain ⟨t,rfl⟩:=r1.int_inv
        obtain ⟨u,rfl⟩:=r2.int_inv
        exact ⟨t,u,rfl⟩
    obtain ⟨t,u,e⟩:=this
    exact ⟨a,o,n,t,u,rfl,ho,hc,by rw [hd]; congr 1; apply Array.toList_inj.mp; rw [e]⟩
   | succ i=>exact f i v p (by simpa using hv) (by simpa using hp)
section
variable {A:Around} {κ:Adr} {H:AH} {s:Shared} {k:Nat}
theorem sorted_ok {v:AV} {x:Value} {Q:P1} (Rl:Real κ H s.heap) (r:R s.heap (dm κ H) v x) (h:callB .sorted [v] H Q):
  wpAny (model κ.prog κ.w) A (call (.builtin "sorted") [x]) (Post κ H s Q) NoE s:=by
 refine byc fun hNN=>?_
 obtain ⟨ps,hl,hz,q⟩:=h
 obtain ⟨a,vs,rfl,z,ra,kind⟩:=items_inv Rl r hl
 have hx:∃ T o n,(T = "list" ∨ T = "tuple")∧s.heap.get? a=some o∧o.cls=.type T∧o.data=.seq vs.toList.toArray n:=by
  rw [Array.toArray_toList]
  rcases kind with ⟨_,o,ho,hc,n,hd⟩ | ⟨_,o,ho,hc,n,hd⟩
  ·exact ⟨"tuple",o,n,.inr rfl,ho,hc,hd⟩
  ·exact ⟨"list",o,n,.inl rfl,ho,hc,hd⟩
 obtain ⟨T,o,n,hT,ho,hc,hd⟩:=hx
 obtain ⟨e1,e2⟩:=ra.tups
 refine hNN ?_
 refine sorted_pairs hT ho hc hd e1 e2 hz fun h' tk n' D out hk hn hg hout=>?_
 refine newL_post' (vs:=out) (n:=n') Rl ?_ q hk hn (by simpa [seqObj] using hg)
 rcases hout with ⟨h2,rfl⟩ | ⟨h2,rfl⟩
 ·rw [sortP_short h2]; exact ra
 ·obtain ⟨s1,s2⟩:=sort_pairs ps (by exact l10 75783349249 rfl h2)
  rw [← s1]
  have go:∀ l:List Nat,(∀ i∈l,i < ps.length)→RA s.heap (dm κ H) (encPs (l.map fun i=>ps.getD i (0,0))) (l.map fun i=>vs.toList.getD i Value.none):=by
   intro l
   induction l with
   | nil=>intro _; exact .nil
   | cons i l ih=>
    intro hi
    refine .cons ?_ (ih fun j hj=>hi j (List.mem_cons_of_mem _ hj))
    have hi':=hi i (List.mem_cons_self ..)
    have g1:(encPs ps)[i]?=some (encP (ps.getD i (0,0))):=by simp [encPs,hi']
    obtain ⟨v,hv,rv⟩:=ra.get g1
    have:vs.toList.getD i Value.none=v:=by simp [List.getD_eq_getElem?_getD] at hv ⊢; simp [hv]
    show R s.heap (dm κ H) (encP (ps.getD i (0,0))) (vs.toList.getD i Value.none)
    rw [this]; exact rv
  exact go _ s2
end
end Internal
namespace Internal
open PySem PySem.W PyProof.Rows PySem.Calls
mutual
noncomputable def dat:AV→PyData
 | .int i=>.int i
 | .str s=>.str s.s
 | .tup l=>.tuple (dats l)
 | .lst l=>.list (dats l)
 | _=>.none
noncomputable def dats:List AV→List PyData
 | []=>[]
 | a::l=>dat a::dats l
end
section
variable {h:Heap} {D:Addr→Prop}
theorem both_reads {C:Prop} (k:(∀ {a v},R h D a v→plain a=true→∃ as,Reads h v (dat a) as)→(∀ {l vs},RA h D l vs→plains l=true→∃ as,ReadsAll h vs (dats l) as)→C):C:=
 have tup:∀ {a o vs n l},h.get? a=some o→o.cls=.type "tuple" → o.data=.seq vs n→l.length≤LIM→RA h D l vs.toList→(plains l=true→∃ as,ReadsAll h vs.toList (dats l) as)→plains l=true→∃ as,Reads h (.ref a) (.tuple (dats l)) as:=fun h1 h2 h3 uu uu i p=>let ⟨as,r⟩:=i p; ⟨as,.tuple h1 h2 h3 r⟩
 have lst:∀ {a o vs n l},h.get? a=some o→o.cls=.type "list" → o.data=.seq vs n→l.length≤LIM→¬ D a→RA h D l vs.toList→(plains l=true→∃ as,ReadsAll h vs.toList (dats l) as)→plains l=true→∃ as,Reads h (.ref a) (.list (dats l)) as:=fun h1 h2 h3 uu uu uu i p=>let ⟨as,r⟩:=i p; ⟨_,.list h1 h2 h3 r⟩
 have cons:∀ {x v l vs},R h D x v→RA h D l vs→(plain x=true→∃ as,Reads h v (dat x) as)→(plains l=true→∃ as,ReadsAll h vs (dats l) as)→plains (x::l)=true→∃ as,ReadsAll h (v::vs) (dats (x::l)) as:=fun uu uu i j p=>let ⟨as,r1⟩:=i (an p).1; let ⟨bs,r2⟩:=j (an p).2; ⟨_,.cons r1 r2⟩
 k (fun r=>R.rec (motive_1:=fun a v uu=>plain a=true→∃ as,Reads h v (dat a) as) (motive_2:=fun l vs uu=>plains l=true→∃ as,ReadsAll h vs (dats l) as) (fun p=>ff p) (fun b p=>ff p) (fun i t uu=>⟨[],.int i t⟩) (fun s t uu=>⟨[],.str s.s t⟩) tup lst (fun a p=>ff p) (fun uu p=>ff p) (fun uu=>⟨[],.nil⟩) cons r)
  (fun r=>RA.rec (motive_1:=fun a v uu=>plain a=true→∃ as,Reads h v (dat a) as) (motive_2:=fun l vs uu=>plains l=true→∃ as,ReadsAll h vs (dats l) as) (fun p=>ff p) (fun b p=>ff p) (fun i t uu=>⟨[],.int i t⟩) (fun s t uu=>⟨[],.str s.s t⟩) tup lst (fun a p=>ff p) (fun uu p=>ff p) (fun uu=>⟨[],.nil⟩) cons r)
theorem R.reads {a:AV} {v:Value} (r:R h D a v) (p:plain a=true):∃ as,Reads h v (dat a) as:=both_reads fun k uu=>k r p
theorem RA.reads {l:List AV} {vs:List Value} (r:RA h D l vs) (p:plains l=true):∃ as,ReadsAll h vs (dats l) as:=both_reads fun uu k=>k r p
end
noncomputable def Lay (a:AV):Prop:=plain a=true→(dat a).canLay0=true∧(dat a).depth≤deep a
noncomputable def Lays (l:List AV):Prop:=plains l=true→PyData.canLayAll0 (dats l)=true∧PyData.depthAll (dats l)≤deeps l
theorem lay_one {l:List AV} (i:Lays l):plains l=true→PyData.canLayAll0 (dats l)=true∧PyData.depthAll (dats l)+1≤deeps l+1:=fun p=>⟨(i p).1,Nat.succ_le_succ (i p).2⟩
theorem lay_cons {a:AV} {l:List AV} (i:Lay a) (j:Lays l):Lays (a::l):=fun p=>
 have A:=i (an p).1
 have B:=j (an p).2
 ⟨by show ((dat a).canLay0&&PyData.canLayAll0 (dats l))=true; rw [A.1,B.1]; rfl,by show max (dat a).depth (PyData.depthAll (dats l))≤max (deep a) (deeps l); have:=A.2; have:=B.2; exact l60 2164352668030070803460382144888805968695659934343110726440967080588014095350735740505995780 rfl ‹_› this (lmxN _ _) (lmxN _ _)⟩
theorem lay_str (s:Sy):Lay (.str s):=fun uu=>⟨by cases s<;>decide +kernel,Nat.le_refl _⟩
theorem plain_lay (a:AV):Lay a:=AV.rec (motive_1:=Lay) (motive_2:=Lays) (fun p=>ff p) (fun p=>ff p) (fun uu p=>ff p) (fun uu uu=>⟨rfl,Nat.le_refl _⟩) lay_str (fun uu i=>lay_one i) (fun uu i=>lay_one i) (fun uu p=>ff p) (fun uu uu p=>ff p) (fun uu=>⟨rfl,Nat.le_refl _⟩) (fun uu uu=>lay_cons) a
theorem plains_lay:∀ l:List AV,Lays l
 | []=>fun uu=>⟨rfl,Nat.le_refl _⟩
 | a::l=>lay_cons (plain_lay a) (plains_lay l)
theorem sy_inj {a b:Sy}:a.s=b.s↔a=b:=by
 constructor
 ·cases a<;>cases b<;>first | (intro _; rfl) | (intro h; exact absurd h (by decide +kernel))
 ·rintro rfl; rfl
theorem sy_beq (a b:Sy):(a.s==b.s)=(a==b):=by
 by_cases h:a=b
 ·subst h; simp
 ·rw [beq_eq_false_iff_ne.mpr h,beq_eq_false_iff_ne.mpr fun q=>h (sy_inj.mp q)]
noncomputable def Eqd (a:AV):Prop:=∀ (b:AV) (t:Bool),plain a=true→plain b=true→aeq a b=some t→PyData.eqv (dat a) (dat b)=t∧PyData.eqv (dat b) (dat a)=t
noncomputable def Eqds (l:List AV):Prop:=∀ (m:List AV) (t:Bool),plains l=true→plains m=true→aeqs l m=some t→PyData.eqvAll (dats l) (dats m)=t∧PyData.eqvAll (dats m) (dats l)=t
theorem eqd_int (i:Int):Eqd (.int i):=fun b t uu q e=>by
 cases b<;>try exact ns e
 obtain rfl:=Option.some.inj e
 exact ⟨rfl,Bool.beq_comm⟩
theorem eqd_str (i:Sy):Eqd (.str i):=fun b t uu q e=>by
 cases b<;>try exact ns e
 obtain rfl:=Option.some.inj e
 exact ⟨sy_beq _ _,(sy_beq _ _).trans Bool.beq_comm⟩
theorem eqd_tup (l:List AV) (i:Eqds l):Eqd (.tup l):=fun b t p q e=>by
 cases b<;>try exact ns e
 exact i _ t p q e
theorem eqd_lst (l:List AV) (i:Eqds l):Eqd (.lst l):=fun b t p q e=>by
 cases b<;>try exact ns e
 exact i _ t p q e
theorem eqd_nil:Eqds []:=fun m t p q e=>by
 cases m<;>(obtain rfl:=Option.some.inj e; exact ⟨rfl,rfl⟩)
theorem eqd_cons (a:AV) (l:List AV) (i:Eqd a) (j:Eqds l):Eqds (a::l):=fun m t p q e=>by
 cases m with
 | nil=>obtain rfl:=Option.some.inj e; exact ⟨rfl,rfl⟩
 | cons b m=>
  have e:andO (aeq a b) (aeqs l m)=some t:=e
  cases ea:aeq a b with
  | none=>rw [ea] at e; exact ns e
  | some x=>
   cases el:aeqs l m with
   | none=>rw [ea,el] at e; exact ns e
   | some y=>
    rw [ea,el] at e
    obtain rfl:=Option.some.inj e
    obtain ⟨a1,a2⟩:=i b x (an p).1 (an q).1 ea
    obtain ⟨b1,b2⟩:=j m y (an p).2 (an q).2 el
    exact ⟨by show (PyData.eqv (dat a) (dat b)&&PyData.eqvAll (dats l) (dats m))=_; rw [a1,b1],by show (PyData.eqv (dat b) (dat a)&&PyData.eqvAll (dats m) (dats l))=_; rw [a2,b2]⟩
theorem aeq_dat (a:AV):Eqd a:=AV.rec (motive_1:=Eqd) (motive_2:=Eqds) (fun uu uu p=>ff p) (fun uu uu p=>ff p) (fun uu uu uu p=>ff p) eqd_int eqd_str eqd_tup eqd_lst (fun uu uu uu p=>ff p) (fun uu uu uu uu p=>ff p) eqd_nil eqd_cons a
section
variable {A:Around} {κ:Adr} {H:AH} {s:Shared} {k:Nat}
theorem R.seen_reads {a:AV} {v:Value} (Rl:Real κ H s.heap) (r:R s.heap (dm κ H) a v) (p:plain (seen H a)=true):∃ as,Reads s.heap v (dat (seen H a)) as:=by
 set_option tactic.hygienic true in cases a<;>try exact r.reads p
 rename_i a
 cases q:H a with
 | none=>simp [seen,q,plain] at p
 | some o=>
 cases o with
 | list l=>
  have e:seen H (.obj a)=.lst l:=by simp [seen,q]
  rw [e] at p ⊢
  rw [r.obj_inv]
  obtain ⟨vs,n,ho,z,ra⟩:=Rl.at_ a _ q
  obtain ⟨as,rr⟩:=ra.reads (by simpa [plain] using p)
  exact ⟨_,.list ho rfl rfl rr⟩
 | _=>simp [seen,q,plain] at p
theorem dataOk_iff {v:AV}:dataOk v=true↔plain v=true∧deep v≤8:=by unfold dataOk; simp
theorem shaped_dat {v:AV} (h:dataOk v=true):SeqAt.shaped (dat v)=true:=by
 obtain ⟨p,d⟩:=dataOk_iff.mp h
 obtain ⟨a,b⟩:=plain_lay v p
 unfold SeqAt.shaped
 rw [a]; simp; exact l20 314857991457815939586 rfl d b
end
end Internal
namespace Internal
open PySem PySem.W PyProof.Rows PySem.Calls
noncomputable def Cop.c:Cop→CmpOp
 | .eq=>.Eq | .ne=>.NotEq | .lt=>.Lt | .le=>.LtE | .gt=>.Gt | .ge=>.GtE | .is=>.Is | .mem=>.In | .nmem=>.NotIn
inductive PostV (κ:Adr) (H:AH) (s:Shared) (Q:PB) (v:Value) (s':Shared):Prop
 | mk (t:Bool) (v:v=.bool t) (p:PostB κ H s Q t s')
section
variable {A:Around} {κ:Adr} {H:AH} {s:Shared} {k:Nat}
theorem posv {Q:PB} {t u:Bool} (Rl:Real κ H s.heap) (q:Q t H) (e:u=t):PostV κ H s Q (.bool u) s:=⟨t,by rw [e],H,q,.refl Rl⟩
theorem posv_tok {Q:PB} {t u:Bool} {tk:Nat} (Rl:Real κ H s.heap) (q:Q t H) (e:u=t):PostV κ H s Q (.bool u) { s with toks:=tk }:=⟨t,by rw [e],H,q,tok_ext Rl⟩
inductive EqC (H:AH):AV→AV→Bool→Prop
 | int (x y:Int):EqC H (.int x) (.int y) (decide (x=y))
 | str (x y:Sy):EqC H (.str x) (.str y) (decide (x=y))
 | bool (x y:Bool):EqC H (.bool x) (.bool y) (decide (x=y))
 | dat {a b:AV} {t:Bool} (h:dataOk (seen H a)=true∧dataOk (seen H b)=true∧aeq (seen H a) (seen H b)=some t∧(∀ i,seen H a≠.int i)∧∀ i,seen H a≠.str i):EqC H a b t
theorem eqOf_or {H:AH} {a b:AV} {t:Bool} (h:eqOf H a b t):EqC H a b t:=by
 cases a with
 | int x=>cases b with
  | int y=>exact (show t=_ from h)▸.int x y
  | _=>exact .dat h
 | str x=>cases b with
  | str y=>exact (show t=_ from h)▸.str x y
  | _=>exact .dat h
 | bool x=>cases b with
  | bool y=>exact (show t=_ from h)▸.bool x y
  | _=>exact .dat h
 | _=>exact .dat h
theorem eq_ok {a b:AV} {va vb:Value} {t:Bool} (Rl:Real κ H s.heap) (hu:A.units+64 < cLine) (ra:R s.heap (dm κ H) a va) (rb:R s.heap (dm κ H) b vb) (h:eqOf H a b t) {Q:Value→Shared→Prop}:
  (Q (.bool t) s→wpAny (model κ.prog κ.w) A (compareOp .Eq va vb) Q NoE s)∧(Q (.bool (!t)) s→wpAny (model κ.prog κ.w) A (compareOp .NotEq va vb) Q NoE s):=by
 cases eqOf_or h with
 | int x y=>
  obtain ⟨t1,rfl⟩:=ra.int_inv
  obtain ⟨t2,rfl⟩:=rb.int_inv
  refine ⟨fun q=>eq_int ?_,fun q=>ne_int q⟩
  rw [show (x==y)=decide (x=y) by rw [Bool.eq_iff_iff]; simp]; exact q
 | str x y=>
  obtain ⟨t1,rfl⟩:=ra.str_inv
  obtain ⟨t2,rfl⟩:=rb.str_inv
  have e:(x.s==y.s)=decide (x=y):=by rw [sy_beq]; rfl
  refine ⟨fun q=>eq_str ?_,fun q=>ne_str ?_⟩
  ·rw [e]; exact q
  ·rw [bne,e]; exact q
 | bool x y=>
  rw [ra.bool_inv,rb.bool_inv]
  have e:(x==y)=decide (x=y):=by cases x<;>cases y<;>rfl
  refine ⟨fun q=>eq_bool ?_,fun q=>ne_bool ?_⟩
  ·rw [e]; exact q
  ·rw [bne,e]; exact q
 | dat h=>
  obtain ⟨d1,d2,e,_,_⟩:=h
  obtain ⟨as,r1⟩:=ra.seen_reads Rl (dataOk_iff.mp d1).1
  obtain ⟨bs,r2⟩:=rb.seen_reads Rl (dataOk_iff.mp d2).1
  have e':=(aeq_dat _ _ t (dataOk_iff.mp d1).1 (dataOk_iff.mp d2).1 e).1
  subst e'
  exact ⟨fun q=>eq_dataH r1 r2 (shaped_dat d1) (shaped_dat d2) hu q,fun q=>ne_dataH r1 r2 (shaped_dat d1) (shaped_dat d2) hu q⟩
theorem lkF_rk {h:Heap} {D:Addr→Prop} {kvs:List (Sy×AV)} {m:List (Str×Value)} (r:RK h D kvs m) (x:Sy):(lkF kvs x=none→valueAt m x.s=none)∧(∀ v,lkF kvs x=some v→∃ w,valueAt m x.s=some w∧R h D v w):=by
 induction r with
 | nil=>exact ⟨fun uu=>rfl,fun v e=>by simp [lkF] at e⟩
 | @cons y v w l m h1 r ih=>
  unfold lkF
  by_cases e:y=x
  ·subst e
   refine ⟨fun q=>absurd q (by simp),fun v' q=>?_⟩
   have e:v=v':=by simpa using q
   subst e
   refine ⟨w,?_,h1⟩
   unfold valueAt; simp
  ·rw [if_neg e]
   have e':y.s≠x.s:=fun q=>e (sy_inj.mp q)
   refine ⟨fun q=>?_,fun v' q=>?_⟩
   ·have:=ih.1 q; unfold valueAt at this ⊢; simpa [e'] using this
   ·obtain ⟨w',a,b⟩:=ih.2 v' q
    refine ⟨w',?_,b⟩
    unfold valueAt at a ⊢; simpa [e'] using a
theorem not_sys {d:Addr} (hsys:κ.hb.get? sysModules≠none) (Rl:Real κ H s.heap) (hd:H d≠none):(d==sysModules)=false:=by
 rw [beq_eq_false_iff_ne]
 rintro rfl
 exact hsys (Rl.off _ hd)
theorem isIn_ok {a b:AV} {va vb:Value} {t:Bool} (hsys:κ.hb.get? sysModules≠none) (Rl:Real κ H s.heap) (hu:A.units+64 < cLine) (ra:R s.heap (dm κ H) a va) (rb:R s.heap (dm κ H) b vb) (h:isIn H a b t) {Q:Value→Shared→Prop}:
  ((∀ tk,Q (.bool t) { s with toks:=tk })→wpAny (model κ.prog κ.w) A (compareOp .In va vb) Q NoE s)∧((∀ tk,Q (.bool (!t)) { s with toks:=tk })→wpAny (model κ.prog κ.w) A (compareOp .NotIn va vb) Q NoE s):=by
 unfold isIn at h
 set_option tactic.hygienic true in split at h
 ·rename_i x d
  obtain ⟨kvs,hd,e⟩:=h
  obtain ⟨t1,rfl⟩:=ra.str_inv
  rw [rb.obj_inv]
  obtain ⟨m,hm,rk,z⟩:=Rl.at_ d _ hd
  have hs:=not_sys hsys Rl (d:=d) (by rw [hd]; simp)
  have e':(valueAt m x.s).isSome=t:=by
   rw [e]
   cases q:lkF kvs x with
   | none=>rw [(lkF_rk rk x).1 q]; rfl
   | some v=>obtain ⟨w,a,_⟩:=(lkF_rk rk x).2 v q; rw [a]; rfl
  have hk:(strKind κ.prog κ.w).is x.s (.str x.s t1)=true:=by simp [PySem.strKind,PySem.Value.isStrOf]
  refine ⟨fun q=>wpAny_in_of hk hs hm.mapOf ?_,fun q=>wpAny_notIn_of hk hs hm.mapOf ?_⟩
  ·rw [e']; exact q _
  ·rw [e']; exact q _
 ·obtain ⟨l,hl,d1,d2,_,_,ts,hts,e⟩:=h
  obtain ⟨p1,z1⟩:=dataOk_iff.mp d1
  obtain ⟨p2,z2⟩:=dataOk_iff.mp d2
  have p2':plains l=true:=by simpa [plain] using p2
  obtain ⟨as,r1⟩:=ra.seen_reads Rl p1
  obtain ⟨x,vs,rfl,z,la,kind⟩:=items_inv Rl rb hl
  obtain ⟨bs,r2⟩:=la.reads p2'
  obtain ⟨lay1,dep1⟩:=plain_lay _ p1
  obtain ⟨lay2,dep2⟩:=plains_lay l p2'
  have hu':A.units+1+min (PyData.depthAll (dats l)) (dat (seen H a)).depth < cLine:=by
   have:=Nat.min_le_right (PyData.depthAll (dats l)) (dat (seen H a)).depth
   exact l50 22685710792767035369634264100473446420 rfl hu z1 dep1 this
  have e':((dats l).any fun y=>y.eqv (dat (seen H a)))=t:=by
   rw [e]
   clear e r2 lay2 dep2 hu' la hl kind z
   revert ts
   induction l with
   | nil=>intro ts hts; cases ts with
    | nil=>rfl
    | cons _ _=>simp at hts
   | cons y l ih=>
    intro ts hts
    cases ts with
    | nil=>simp at hts
    | cons u ts=>
     simp only [List.map_cons,List.cons.injEq] at hts
     rw [plains,Bool.and_eq_true] at p2'
     have:=aeq_dat _ _ u p1 p2'.1 hts.1
     simp only [dats,List.any_cons,this.2,id]
     rw [ih (by simp [dataOk,plain,p2'.2,deep] at d2 z2 ⊢; unfold deeps at d2; exact l30 5786218059332248961824836258229922515458 rfl d2.2 (lmxN _ _)) (by simp [plain,p2'.2]) (by simp [deep] at z2 ⊢; unfold deeps at z2; exact l30 5786218059332248961824836258229922515458 rfl z2 (lmxN _ _)) p2'.2 ts hts.2]
  rcases kind with ⟨_,o,ho,hc,n,hd⟩ | ⟨_,o,ho,hc,n,hd⟩
  ·refine ⟨fun q=>SeqAt.in_tuple_reads (.tuple ho hc hd r2) r1 lay2 lay1 hu' ?_,fun q=>SeqAt.notIn_tuple_reads (.tuple ho hc hd r2) r1 lay2 lay1 hu' ?_⟩
   ·rw [e']; exact q s.toks
   ·rw [e']; exact q s.toks
  ·refine ⟨fun q=>SeqAt.in_list_reads (.list ho hc hd r2) r1 lay2 lay1 hu' ?_,fun q=>SeqAt.notIn_list_reads (.list ho hc hd r2) r1 lay2 lay1 hu' ?_⟩
   ·rw [e']; exact q s.toks
   ·rw [e']; exact q s.toks
theorem cmp_ok {op:Cop} {a b:AV} {va vb:Value} {Q:PB} (hsys:κ.hb.get? sysModules≠none) (Rl:Real κ H s.heap) (hu:A.units+64 < cLine) (ra:R s.heap (dm κ H) a va) (rb:R s.heap (dm κ H) b vb) (h:cmpOp op a b H Q):
  wpAny (model κ.prog κ.w) A (compareOp op.c va vb) (PostV κ H s Q) NoE s:=by
 cases op<;>simp only [cmpOp] at h
 ·obtain ⟨t,e,q⟩:=h
  exact (eq_ok Rl hu ra rb e).1 (posv Rl q rfl)
 ·obtain ⟨t,e,q⟩:=h
  exact (eq_ok Rl hu ra rb e).2 (posv Rl q rfl)
 ·obtain ⟨x,y,rfl,rfl,q⟩:=h
  obtain ⟨t1,rfl⟩:=ra.int_inv
  obtain ⟨t2,rfl⟩:=rb.int_inv
  exact lt_int (posv Rl q rfl)
 ·obtain ⟨x,y,rfl,rfl,q⟩:=h
  obtain ⟨t1,rfl⟩:=ra.int_inv
  obtain ⟨t2,rfl⟩:=rb.int_inv
  exact le_int (posv Rl q rfl)
 ·obtain ⟨x,y,rfl,rfl,q⟩:=h
  obtain ⟨t1,rfl⟩:=ra.int_inv
  obtain ⟨t2,rfl⟩:=rb.int_inv
  exact gt_int (posv Rl q rfl)
 ·obtain ⟨x,y,rfl,rfl,q⟩:=h
  obtain ⟨t1,rfl⟩:=ra.int_inv
  obtain ⟨t2,rfl⟩:=rb.int_inv
  exact ge_int (posv Rl q rfl)
 ·obtain ⟨rfl,⟨rfl,q⟩ | ⟨⟨t,rfl⟩ | ⟨l,rfl⟩,q⟩⟩:=h
  ·rw [ra.none_inv,rb.none_inv]; exact is_none_none (posv Rl q rfl)
  ·rw [ra.bool_inv,rb.none_inv]; exact is_bool_none (posv Rl q rfl)
  ·obtain ⟨x,vs,rfl,_⟩:=ra.tup_inv
   rw [rb.none_inv]; exact is_ref_none (posv Rl q rfl)
 ·obtain ⟨t,e,q⟩:=h
  exact (isIn_ok hsys Rl hu ra rb e).1 fun tk=>posv_tok Rl q rfl
 ·obtain ⟨t,e,q⟩:=h
  exact (isIn_ok hsys Rl hu ra rb e).2 fun tk=>posv_tok Rl q rfl
theorem getItem_ok {o i:AV} {vo vi:Value} {Q:P1} (Rl:Real κ H s.heap) (ro:R s.heap (dm κ H) o vo) (ri:R s.heap (dm κ H) i vi) (h:getIt H o i Q):
  wpAny (model κ.prog κ.w) A (getItem vo vi) (Post κ H s Q) NoE s:=by
 set_option tactic.hygienic true in cases i<;>simp only [getIt] at h
 ·obtain ⟨t,rfl⟩:=ri.int_inv
  exact getItem_ok_seq Rl ro h
 ·rename_i x
  refine byc fun hNN=>?_
  obtain ⟨t1,rfl⟩:=ri.str_inv
  obtain ⟨a,kvs,v,rfl,ha,hv,q⟩:=h
  refine hNN ?_
  rw [ro.obj_inv]
  refine byc fun hNN=>?_
  obtain ⟨m,hm,rk,z⟩:=Rl.at_ a _ ha
  obtain ⟨w,hw,rw'⟩:=(lkF_rk rk x).2 v hv
  refine hNN ?_
  exact wpAny_getItem_of (knd:=strKind κ.prog κ.w) (k:=x.s) (by simp [PySem.strKind,PySem.Value.isStrOf]) hm.mapOf hw (post_tok Rl q rw')
theorem setF_len (kvs:List (Sy×AV)) (x:Sy) (v:AV) (h:(lkF kvs x).isSome=true):(setF kvs x v).length=kvs.length:=by
 induction kvs with
 | nil=>simp [lkF] at h
 | cons p r ih=>
  obtain ⟨y,w⟩:=p
  unfold lkF at h
  unfold setF
  by_cases e:y=x
  ·rw [if_pos e]; rfl
  ·rw [if_neg e] at h ⊢; simp [ih h]
theorem rk_stored {h:Heap} {D:Addr→Prop} {kvs:List (Sy×AV)} {m:List (Str×Value)} (r:RK h D kvs m) (x:Sy) {v:AV} {w:Value} (rv:R h D v w) (hn:(m.map (·.1)).Nodup) (hk:(lkF kvs x).isSome=true):RK h D (setF kvs x v) (stored m x.s w):=by
 have same:∀ {m:List (Str×Value)},(∀ p∈m,p.1≠x.s)→m.map (fun kv=>if kv.1=x.s then (kv.1,w) else kv)=m:=fun {m} hm=>by
  have:=List.map_congr_left (f:=fun kv:Str×Value=>if kv.1=x.s then (kv.1,w) else kv) (g:=id) fun p hp=>if_neg (hm p hp)
  rw [this,List.map_id]
 have hany:∀ {kvs:List (Sy×AV)} {m:List (Str×Value)},RK h D kvs m→(lkF kvs x).isSome=true→m.any (fun kv=>kv.1=x.s)=true:=by
  intro kvs m r
  induction r with
  | nil=>intro q; simp [lkF] at q
  | @cons y v w l m h1 r ih=>
   intro q
   unfold lkF at q
   by_cases e:y=x
   ·subst e; simp
   ·rw [if_neg e] at q; simp only [List.any_cons,ih q,Bool.or_true]
 have ha:=hany r hk
 unfold stored
 rw [if_pos ha]
 clear ha
 induction r with
 | nil=>simp [lkF] at hk
 | @cons y v' w' l m h1 r ih=>
  unfold lkF at hk
  unfold setF
  rw [List.map_cons] at hn ⊢
  obtain ⟨n1,n2⟩:=List.nodup_cons.mp hn
  by_cases e:y=x
  ·subst e
   rw [if_pos rfl,if_pos rfl,same fun p hp q=>n1 (by rw [← q]; exact List.mem_map.mpr ⟨p,hp,rfl⟩)]
   exact .cons rv r
  ·have e':y.s≠x.s:=fun q=>e (sy_inj.mp q)
   rw [if_neg e] at hk ⊢
   rw [if_neg e']
   exact .cons h1 (ih n2 hk)
theorem setItem_ok {o i v:AV} {vo vi x:Value} {Q:AH→Prop} (Rl:Real κ H s.heap) (ro:R s.heap (dm κ H) o vo) (ri:R s.heap (dm κ H) i vi) (rv:R s.heap (dm κ H) v x) (h:setIt H o i v Q):
  wpAny (model κ.prog κ.w) A (setItem vo vi x) (PostU κ H s Q) NoE s:=by
 set_option tactic.hygienic true in cases i<;>simp only [setIt] at h
 ·rename_i i
  refine byc fun hNN=>?_
  obtain ⟨t,rfl⟩:=ri.int_inv
  refine hNN ?_
  obtain ⟨a,rfl,⟨l,j,ha,hj,hz,q⟩ | ⟨ha,hk,rfl,q⟩⟩:=h
  ·rw [ro.obj_inv]
   exact setItem_ok_seq Rl rv ha hj q
  ·rw [ro.obj_inv,rv.bool_inv]
   refine byc fun hNN=>?_
   obtain ⟨m,hm,hr⟩:=Rl.at_ a _ ha
   have hz:m.length≤2:=by
    obtain ⟨_,_,_,_,_,_,_,_,hn⟩:=hm
    match m,hr,hn with
    | [],_,_=>simp
    | [_],_,_=>simp
    | [_,_],_,_=>simp
    | p::q::r::m,hr,hn=>
     exfalso
     have h1:=hr p (by simp)
     have h2:=hr q (by simp)
     have h3:=hr r (by simp)
     simp only [List.map_cons,List.nodup_cons,List.mem_cons,not_or] at hn
     lia
   refine hNN ?_
   refine wpAny_setItem_pairs (knd:=intKind κ.prog κ.w) (k:=i) (by simp [PySem.intKind,PySem.Value.isInt]) hm (fun h' hm' hs=>?_) (by rw [sizeLine_eq]; exact l10 5045799395627637033473 rfl hz)
   have E1:Ext κ H s (upd H a .news) { s with heap:=h',toks:=s.toks+1 }:=.turn Rl (by rw [ha]; simp) (fun b o hb e=>hs.extBut b o hb e) fun uu=>⟨_,hm',fun p hp=>by
    unfold stored at hp
    split at hp
    ·obtain ⟨p',hp',e⟩:=List.mem_map.mp hp
     have:=hr p' hp'
     split at e<;>(subst e; exact this)
    ·rcases List.mem_append.mp hp with hp | hp
     ·exact hr p hp
     ·rw [List.mem_singleton] at hp; subst hp; exact hk⟩
   have e:upd H a .news=H:=by
    funext b; unfold upd; set_option tactic.hygienic true in split
    ·rename_i e; rw [e,ha]
    ·rfl
   rw [e] at E1
   exact ⟨H,q,E1⟩
 ·rename_i y
  refine byc fun hNN=>?_
  obtain ⟨t1,rfl⟩:=ri.str_inv
  obtain ⟨a,kvs,rfl,ha,hk,q⟩:=h
  refine hNN ?_
  rw [ro.obj_inv]
  refine byc fun hNN=>?_
  obtain ⟨m,hm,rk,z⟩:=Rl.at_ a _ ha
  have hz:m.length≤100:=by
   have:∀ {kvs:List (Sy×AV)} {m:List (Str×Value)},RK s.heap (dm κ H) kvs m→m.length=kvs.length:=fun r=>by induction r with
    | nil=>rfl
    | cons _ _ ih=>simp [ih]
   rw [this rk]; exact z
  have hn:=hm
  obtain ⟨_,_,_,_,_,_,_,_,hn⟩:=hn
  refine hNN ?_
  refine wpAny_setItem_pairs (knd:=strKind κ.prog κ.w) (k:=y.s) (by simp [PySem.strKind,PySem.Value.isStrOf]) hm (fun h' hm' hs=>?_) (by rw [sizeLine_eq]; exact l10 1291724645280675072330241 rfl hz)
  exact ⟨_,q,.turn Rl (by rw [ha]; simp) (fun b o hb e=>hs.extBut b o hb e) fun S=>⟨_,hm',(rk_stored rk y rv hn hk).stays S,by rw [setF_len kvs y v hk]; exact z⟩⟩
end
end Internal
namespace Internal
open PySem PySem.W PyProof.Rows PySem.Calls
theorem nm_nodup:(allNm.map Nm.s).Nodup:=by decide +kernel
theorem nm_all (x:Nm):x∈allNm:=List.mem_map.mpr ⟨x.ix,List.mem_finRange _,rfl⟩
theorem inj_of_nodup {α β:Type} {f:α→β}:∀ {l:List α},(l.map f).Nodup→∀ {a b:α},a∈l→b∈l→f a=f b→a=b
 | [],_,_,_,h,_,_=>by cases h
 | x::l,hn,a,b,ha,hb,e=>by
  rw [List.map_cons] at hn
  obtain ⟨n1,n2⟩:=List.nodup_cons.mp hn
  rcases List.mem_cons.mp ha with e1 | ha'
  ·rcases List.mem_cons.mp hb with e2 | hb'
   ·rw [e1,e2]
   ·exact absurd (List.mem_map.mpr ⟨b,hb',by rw [← e,e1]⟩) n1
  ·rcases List.mem_cons.mp hb with e2 | hb'
   ·exact absurd (List.mem_map.mpr ⟨a,ha',by rw [e,e2]⟩) n1
   ·exact inj_of_nodup n2 ha' hb' e
theorem nm_inj {a b:Nm}:a.s=b.s↔a=b:=⟨fun h=>inj_of_nodup nm_nodup (nm_all a) (nm_all b) h,fun h=>h▸rfl⟩
structure ClsFit (κ:Adr) (c:Cl):Prop where
 dict:(clsIn κ.K (κ.cls c)).any (·.hasDict)=true
 ga:findIn κ.K (.ref (κ.cls c)) (Str.ofString "__getattribute__")=some (some (.builtin "object.__getattribute__"))
 gt:findIn κ.K (.ref (κ.cls c)) (Str.ofString "__getattr__")=some none
 sa:findIn κ.K (.ref (κ.cls c)) (Str.ofString "__setattr__")=some (some (.builtin "object.__setattr__"))
 over:plainOver κ.K (κ.cls c)=true
 makes:makesIn κ.K (κ.cls c)=true
 init:findIn κ.K (.ref (κ.cls c)) (Str.ofString "__init__")=some (some (.ref (κ.fn (initOf c))))
 flds:∀ x,isFld x=true→findIn κ.K (.ref (κ.cls c)) x.s=some none
 meth:∀ x f,methOf c x=some f→findIn κ.K (.ref (κ.cls c)) x.s=some (some (.ref (κ.fn f)))
structure Fit0 (κ:Adr):Prop where
 kin:κ.K.In κ.hb
 sys:κ.hb.get? sysModules≠none
 cls:∀ c,ClsFit κ c
 typ:∀ f,typeIn κ.K (.ref (κ.fn f))=some (.type "function")
theorem lookIn_ns {h:Heap} {a:Addr} {m:Str→Option Value} (hn:h.Ns a m):∃ o,h.get? a=some o∧∀ name,lookIn name o=some (m name):=by
 refine byc fun hNN=>?_
 obtain ⟨o,es,ep,ho,hd,hk,hm⟩:=hn
 refine hNN ?_
 refine ⟨o,ho,fun name=>?_⟩
 unfold lookIn
 rw [hd]
 dsimp only
 rw [← hm name]
 unfold nsFind findBy
 rw [← Array.find?_toList]
 cases q:es.toList.find? (·.key.isStr name) with
 | some e=>rfl
 | none=>
  have:es.toList.any (·.refKey)=false:=by
   rw [List.any_eq_false]
   intro e he
   obtain ⟨n,t,k⟩:=hk e (Array.mem_toList_iff.mp he)
   simp [DictEntry.refKey,k]
  dsimp only
  rw [this]
  rfl
section
variable {A:Around} {κ:Adr} {H:AH} {s:Shared} {k:Nat}
theorem inst_at (Rl:Real κ H s.heap) {a dx:Addr} {c:Cl} {fs:List (Nm×AV)} (ha:H a=some (.inst c dx)) (hd:H dx=some (.ns fs)):
  ∃ m o,DNs s.heap dx m fs.length∧(∀ name,lookIn name o=some (m name))∧InstAt s.heap a (instO (κ.cls c) dx) (κ.cls c) (some o)∧(∀ x v,lkF fs x=some v→∃ w,m x.s=some w∧R s.heap (dm κ H) v w)∧(∀ x:Nm,lkF fs x=none→m x.s=none):=by
 refine byc fun hNN=>?_
 obtain ⟨m,hn,h1,h2⟩:=Rl.at_ dx _ hd
 obtain ⟨o,ho,hl⟩:=lookIn_ns hn.ns
 refine hNN ?_
 exact ⟨m,o,hn,hl,⟨Rl.at_ a _ ha,rfl,rfl,ho⟩,h1,h2⟩
theorem R.handed {h:Heap} {D:Addr→Prop} {a:AV} {v:Value} (r:R h D a v):handedIn v=true:=by cases r<;>rfl
theorem getAt_ok {o:AV} {vo:Value} {x:Nm} {Q:P1} {expr:Bool} (F:Fit0 κ) (Rl:Real κ H s.heap) (ro:R s.heap (dm κ H) o vo) (h:getAt H o x Q):
  wpAny (model κ.prog κ.w) A (getAttr vo x.s expr) (Post κ H s Q) NoE s:=by
 refine byc fun hNN=>?_
 obtain ⟨hx,a,c,dx,fs,v,rfl,ha,hd,hv,q⟩:=h
 refine hNN ?_
 rw [ro.obj_inv]
 refine byc fun hNN=>?_
 obtain ⟨m,o,hn,hl,I,h1,h2⟩:=inst_at Rl ha hd
 obtain ⟨w,hw,rw'⟩:=h1 x v hv
 have C:=F.cls c
 have X:=F.kin.keeps Rl.base
 have hf:findObj κ.K (κ.cls c) (some o) x.s=some (.value w):=by
  obtain ⟨cd,hc,hdi⟩:=any_some C.dict
  unfold findObj
  rw [hc,Option.bind_some,C.flds x hx,Option.bind_some]
  simp only [Option.bind_some]
  unfold W.ownOf
  rw [hdi,if_pos rfl]
  simp only [hl,hw,Option.bind_some]
 refine hNN ?_
 exact get_value X I C.ga hf rw'.handed (post_tok Rl q rw')
theorem setF_look (fs:List (Nm×AV)) (x y:Nm) (v:AV):lkF (setF fs x v) y=if y=x then some v else lkF fs y:=by
 induction fs with
 | nil=>
  unfold setF lkF
  by_cases e:y=x
  ·subst e; simp
  ·rw [if_neg fun q=>e q.symm,if_neg e]; rfl
 | cons p r ih=>
  obtain ⟨z,w⟩:=p
  unfold setF
  by_cases e:z=x
  ·subst e
   rw [if_pos rfl]
   unfold lkF
   by_cases e:z=y
   ·subst e; simp
   ·rw [if_neg e,if_neg fun q=>e q.symm]; simp [e]
  ·rw [if_neg e]
   unfold lkF
   by_cases e2:z=y
   ·subst e2; rw [if_pos rfl,if_neg e,if_pos rfl]
   ·rw [if_neg e2,ih,if_neg e2]
theorem setF_lenN (fs:List (Nm×AV)) (x:Nm) (v:AV):(setF fs x v).length=if (lkF fs x).isSome then fs.length else fs.length+1:=by
 induction fs with
 | nil=>rfl
 | cons p r ih=>
  obtain ⟨z,w⟩:=p
  unfold setF lkF
  by_cases e:z=x
  ·simp [e]
  ·simp only [e,if_false,List.length_cons,ih]
   split<;>rfl
theorem setAt_ok {o v:AV} {vo vx:Value} {x:Nm} {Q:AH→Prop} (F:Fit0 κ) (Rl:Real κ H s.heap) (ro:R s.heap (dm κ H) o vo) (rv:R s.heap (dm κ H) v vx) (h:setAt H o x v Q):
  wpAny (model κ.prog κ.w) A (setAttr vo x.s vx) (PostU κ H s Q) NoE s:=by
 refine byc fun hNN=>?_
 obtain ⟨hx,a,c,dx,fs,rfl,ha,hd,hz,q⟩:=h
 refine hNN ?_
 rw [ro.obj_inv]
 refine byc fun hNN=>?_
 obtain ⟨m,o,hn,hl,I,h1,h2⟩:=inst_at Rl ha hd
 have C:=F.cls c
 have X:=F.kin.keeps Rl.base
 have ht:takerIn κ.K (κ.cls c) x.s=some none:=by unfold takerIn; rw [C.flds x hx]; rfl
 refine hNN ?_
 refine set_plain X I C.sa (osa_open (r:=none) X I C.over ht fun b=>?_)
 refine byc fun hNN=>?_
 obtain ⟨cd,hc,hdi⟩:=any_some C.dict
 have hx':=I.at_
 refine hNN ?_
 dsimp only
 refine wpAny_bind (wpAny_pure (wpAny_bind (wpAny_bind (wpAny_loadPart hx' (wpAny_bind (looks_clsIn X hc _ _ _ _ (fun uu uu e=>e) ?_))))))
 rw [hdi]
 refine wpAny_pure (a:=some dx) (wpAny_bind (wpAny_pure (wpAny_bind ?_)))
 refine byc fun hNN=>?_
 obtain ⟨o',es,ep,D,hdd,hk,hm,hsz⟩:=hn
 have hes:es.size≤900:=by
  rw [setF_lenN] at hz
  split at hz<;>first | exact l20 1289769561040037260343810 rfl hsz hz | exact l20 330181007626249537209809410 rfl hsz hz
 refine hNN ?_
 unfold nsSet
 refine wpAny_bind (wpAny_bind (wpAny_askSetting (wpAny_pure (wpAny_bind (wpAny_mkText (wpAny_bind (wpAny_loadPart D ?_)))))))
 have hany:es.any (·.refKey)=false:=by
  rw [Array.any_eq_false']; intro e he; obtain ⟨n,t,h⟩:=hk e he; simp [DictEntry.refKey,h]
 rw [hdd]
 dsimp only
 simp only [aRefKeyMayBeTheName_eq,aRefKeyMayBeTheNameByArray,hany,Bool.and_false,Bool.false_eq_true,if_false]
 have upd1:∀ (hash:Int) (tk:Tok),∃ o2 es2 ep2,(s.heap.update dx (Obj.putName x.s hash (.str x.s tk) vx)).get? dx=some o2∧o2.data=.dict es2 ep2∧StrKeys es2∧(∀ name,nsFind es2 name=if name=x.s then some vx else m name)∧es2.size≤(setF fs x v).length:=by
  intro hash tk
  obtain ⟨c',d',dt,sl⟩:=o'
  simp only at hdd
  subst hdd
  cases hi:es.findIdx? (·.key.isStr x.s) with
  | some i=>
   refine ⟨_,_,ep,Heap.get?_update_self _ D (by simp only [Obj.putName_eq,Obj.putNameByArray,hi]; rfl),by simp only [Obj.putName_eq,Obj.putNameByArray,hi]; rfl,hk.modify _ _,fun y=>?_,?_⟩
   ·rw [← hm]; exact findBy_modify (fun n v=>v.isStr n) Value.isStr_inj es x.s y vx i hi
   ·rw [Array.size_modify,setF_lenN]; split<;>first | exact l20 4758485505 rfl hsz | exact l20 1192669264385 rfl hsz
  | none=>
   refine ⟨_,_,ep+1,Heap.get?_update_self _ D (by simp only [Obj.putName_eq,Obj.putNameByArray,hi]; rfl),by simp only [Obj.putName_eq,Obj.putNameByArray,hi]; rfl,hk.push _ _ _ _,fun y=>?_,?_⟩
   ·rw [← hm]
    exact findBy_push (fun n v=>v.isStr n) es x.s y _ _ vx (fun y=>by
     show (x.s==y)=decide (y=x.s)
     by_cases h:y=x.s
     ·subst h; simp
     ·have:¬ x.s=y:=fun e=>h e.symm
      simp [h,this]) hi
   ·have hmn:m x.s=none:=by
     rw [← hm]
     unfold nsFind findBy
     rw [Array.findIdx?_eq_none_iff] at hi
     rw [Array.find?_eq_none.mpr fun e he=>by simpa using hi e he]
     rfl
    have hln:lkF fs x=none:=by
     cases q:lkF fs x with
     | none=>rfl
     | some v'=>obtain ⟨w,a,_⟩:=h1 x v' q; rw [hmn] at a; cases a
    rw [Array.size_push,setF_lenN,hln]; simp; exact l20 4758485505 rfl hsz
 refine wpAny_updatePart D ?_
 refine byc fun hNN=>?_
 obtain ⟨o2,es2,ep2,g1,g2,g3,g4,g5⟩:=upd1 (PyData.keyHash κ.w.params x.s) (s.toks+1)
 refine hNN ?_
 refine wpAny_bind (wpAny_lookBehind (show _ from g1) (by rw [g2]; exact pastItsLine_dict (by rw [sizeLine_eq]; exact l20 346472347373785241742470391024130 rfl hz g5)) ?_)
 refine wpAny_pure ?_
 refine ⟨_,q,.turn (a:=dx) Rl (by rw [hd]; simp) (fun b o hb e=>(Heap.SameBut.update ..).extBut b o hb e) fun S=>⟨_,⟨o2,es2,ep2,g1,g2,g3,g4,g5⟩,fun y v' hy=>?_,fun y hy=>?_⟩⟩
 ·rw [setF_look] at hy
  by_cases e:y=x
  ·subst e; rw [if_pos rfl] at hy; cases hy; exact ⟨vx,if_pos rfl,rv.stays S⟩
  ·rw [if_neg e] at hy
   refine byc fun hNN=>?_
   obtain ⟨w,hw,rw'⟩:=h1 y v' hy
   refine hNN ?_
   exact ⟨w,by rw [if_neg fun q=>e (nm_inj.mp q)]; exact hw,rw'.stays S⟩
 ·rw [setF_look] at hy
  by_cases e:y=x
  ·rw [if_pos e] at hy; cases hy
  ·rw [if_neg e] at hy
   rw [if_neg fun q=>e (nm_inj.mp q)]; exact h2 y hy
noncomputable def MK.v (κ:Adr):MK→Value
 | .app=>.builtin "list.append" | .ext=>.builtin "list.extend" | .pop=>.builtin "list.pop" | .fn f=>.ref (κ.fn f)
theorem methK_ok {o:AV} {vo:Value} {m:Nm} {Q:MK→Prop} {pl:Sem Bool} (F:Fit0 κ) (Rl:Real κ H s.heap) (ro:R s.heap (dm κ H) o vo) (h:methK H o m Q):
  wpAny (model κ.prog κ.w) A (getMethod vo m.s pl) (fun r s'=>s'=s∧∃ mk,Q mk∧r=(mk.v κ,[vo])) NoE s:=by
 obtain ⟨a,rfl,⟨l,ha,h⟩ | ⟨c,dx,fs,f,ha,hd,hl,hm,q⟩⟩:=h
 ·rw [ro.obj_inv]
  refine byc fun hNN=>?_
  obtain ⟨vs,n,ho,z,ra⟩:=Rl.at_ a _ ha
  have hT:s.TypeIs (.ref a) "list" := ⟨_,ho,rfl⟩
  have hdict:∀ b,Value.ref a=.ref b→∃ o,s.heap.get? b=some o∧o.dict=none:=fun b e=>by cases e; exact ⟨_,ho,rfl⟩
  refine hNN ?_
  rcases h with ⟨rfl,q⟩ | ⟨rfl,q⟩ | ⟨rfl,q⟩
  ·exact getMethod_builtin hT PySem.F.plainAttrs_list PySem.F.slot_list_append PySem.F.type_list_append hdict ⟨rfl,_,q,rfl⟩
  ·exact getMethod_builtin hT PySem.F.plainAttrs_list PySem.F.slot_list_extend PySem.F.type_list_extend hdict ⟨rfl,_,q,rfl⟩
  ·exact getMethod_builtin hT PySem.F.plainAttrs_list PySem.F.slot_list_pop PySem.F.type_list_pop hdict ⟨rfl,_,q,rfl⟩
 ·rw [ro.obj_inv]
  refine byc fun hNN=>?_
  obtain ⟨mm,o,hn,hlk,I,h1,h2⟩:=inst_at Rl ha hd
  have C:=F.cls c
  have X:=F.kin.keeps Rl.base
  have hs:shadowIn (some o) m.s=some false:=by unfold shadowIn; simp only [hlk,h2 m hl]; rfl
  refine hNN ?_
  exact method_fn X I C.ga C.gt (C.meth m f hm) (F.typ f) hs ⟨rfl,_,q,rfl⟩
end
end Internal
namespace Internal
open PySem PySem.W PyProof.Rows PySem.Calls
noncomputable def bfv:Bf→Value
 | .len=>.builtin "len" | .max=>.builtin "max" | .min=>.builtin "min" | .abs=>.builtin "abs" | .sum=>.builtin "sum" | .sorted=>.builtin "sorted"
 | .tuple=>.type "tuple" | .list=>.type "list" | .range=>.type "range"
noncomputable def Callee.v (κ:Adr):Callee→Value
 | .fn f=>.ref (κ.fn f)
 | .bf b=>bfv b
 | .cls c=>.ref (κ.cls c)
noncomputable def isBf:Callee→Bool
 | .bf _=>true
 | _=>false
structure Fit1 (κ:Adr):Prop extends Fit0 κ where
 keepF:∀ f,keepIn κ.K (.ref (κ.fn f))=true
 keepC:∀ c,keepIn κ.K (.ref (κ.cls c))=true
 gl:∃ mg mb,κ.hb.Ns mainGlobals mg∧κ.hb.Ns builtinsNs mb∧(∃ t,mg Nm.MOST_LISTED.s=some (.int 1000000 t))∧
  (∀ x c,calleeOf x=some c→(isBf c=false→mg x.s=some (c.v κ))∧(isBf c=true→mg x.s=none∧mb x.s=some (c.v κ)))∧(mg Nm.reversed.s=none∧mb Nm.reversed.s=some (.type "reversed"))∧(mg Nm.super.s=none∧mb Nm.super.s=some (.type "super"))
theorem nm_debug (x:Nm):(x.s==Str.ofString "__debug__")=false:=by
 have h:(allNm.all fun x => !(x.s==Str.ofString "__debug__"))=true:=by decide +kernel
 have:=List.all_eq_true.mp h x (nm_all x)
 simpa using this
structure RoomC (A:Around) (k:Nat):Prop where
 hand:A.handled=none
 depth:A.depth+4 * k < 902
 units:A.units+40 * k+180 < cLine
theorem Room.c {A:Around} {j k:Nat} (r:Room A k) (h:j≤k):RoomC A j:=⟨r.hand,by have:=r.depth; exact l30 5600365932130413502848685691746818 rfl h this,by have:=r.units; exact l40 5902867476164157151484117410346726177282 rfl h this⟩
theorem tc_frames (args:Args):(Code.builtin "type.__call__" args).frames=0:=by kernel_rfl
theorem tc_caller (args:Args):(Code.builtin "type.__call__" args).isCaller=false:=by kernel_rfl
theorem ite_le (c:Bool):(if c then 1 else 0)≤1:=by cases c<;>decide
theorem tc_weight (args:Args):(Code.builtin "type.__call__" args).weight≤2:=by
 unfold Code.weight
 rw [tc_frames,tc_caller]
 have:=ite_le (Code.builtin "type.__call__" args).isCreation
 have:=ite_le (Code.builtin "type.__call__" args).isGuard
 show 0+_+_+0≤2
 exact l20 80617368093592275409410 rfl ‹_› this
theorem tc_units (args:Args):(Code.builtin "type.__call__" args).cUnits≤4:=by
 show 1+3 * (Code.builtin "type.__call__" args).frames≤4
 rw [tc_frames]; decide
theorem Room.ct {A:Around} {j k:Nat} (r:Room A k) (h:j≤k) (args:Args):RoomC (A.under (.builtin "type.__call__" args)) j:=
 ⟨r.hand,by have:=r.depth; have:=tc_weight args; show A.depth+_+_ < _; exact l40 1487755123830565877868333036363763723385347 rfl h ‹_› this,by have:=r.units; have:=tc_units args; show A.units+_+_+_ < _; exact l50 1560535319997883889959684947468859622674850232835 rfl h ‹_› this⟩
theorem Room.c1 {A:Around} {j k:Nat} (r:Room A k) (h:j≤k):RoomC A.in1 j:=⟨r.hand,by have:=r.depth; show A.depth+_ < _; exact l30 5600365932130413502848685691746818 rfl h this,by have:=r.units; show A.units+1+_+_ < _; exact l40 1511134073898022296361152118748784086858242 rfl h this⟩
theorem RoomC.deeper {A:Around} {k:Nat} (r:RoomC A (k+1)) (env:Env):Room (A.deeper env) k:=⟨r.hand,by have:=r.depth; show A.depth+1+4 * k < 900; exact l20 5555539632346466985902267003215889 rfl this,by have:=r.units; show A.units+3+40 * k+200 < cLine; exact l30 6044790454120229778910581824812044910609 rfl this⟩
structure At (κ:Adr) (k:Nat) (A:Around) (env:Env) (O:Addr→Prop) (ρ:Ev) (H:AH) (s:Shared):Prop where
 fr:Frame κ env O ρ H s.heap
 rl:Real κ H s.heap
 room:Room A k
theorem At.ext {κ:Adr} {k:Nat} {A:Around} {env:Env} {O:Addr→Prop} {ρ:Ev} {H H':AH} {s s':Shared} (a:At κ k A env O ρ H s) (e:Ext κ H s H' s'):At κ k A env O ρ H' s':=
 ⟨a.fr.ext a.rl e,e.real,a.room⟩
inductive PostL (κ:Adr) (H:AH) (s:Shared) (Q:PL) (vs:List Value) (s':Shared):Prop
 | mk (rs:List AV) (H':AH) (q:Q rs H') (e:Ext κ H s H' s') (i:RA s'.heap (dm κ H') rs vs)
inductive PostD (κ:Adr) (H:AH) (s:Shared) (Q:List (Sy×AV)→AH→Prop) (vs:List (Value×Value)) (s':Shared):Prop
 | mk (kvs:List (Sy×AV)) (H':AH) (m:List (Str×Value)) (q:Q kvs H') (e:Ext κ H s H' s') (i:RK s'.heap (dm κ H') kvs m) (c:Carries (strKind κ.prog κ.w) vs m)
section
variable (κ:Adr) (Γ:Fn→List AV→AH→P1→Prop) (lv:Fn→Nat) (k:Nat)
noncomputable def SE (e:E) (x:PySem.Expr):Prop:=∀ A env O ρ H s Q,At κ k A env O ρ H s→trE Γ lv k e ρ H Q→wpAny (model κ.prog κ.w) A (eval x env) (Post κ H s Q) NoE s
noncomputable def ST (e:E) (x:PySem.Expr):Prop:=∀ A env O ρ H s Q,At κ k A env O ρ H s→trT Γ lv k e ρ H Q→wpAny (model κ.prog κ.w) A (isTrue x env (eval x env)) (PostB κ H s Q) NoE s
noncomputable def SEs (es:Es) (xs:List PySem.Expr):Prop:=∀ A env O ρ H s Q pos,At κ k A env O ρ H s→trEs Γ lv k es ρ H Q→wpAny (model κ.prog κ.w) A (spliced (backTo pos (starEach xs env))) (PostL κ H s Q) NoE s
noncomputable def SDs (ds:Ds) (ks:List (Option PySem.Expr)) (vs:List PySem.Expr):Prop:=∀ A env O ρ H s Q pos,At κ k A env O ρ H s→trDs Γ lv k ds ρ H Q→wpAny (model κ.prog κ.w) A (evalPairs (pairTrees ks vs env pos)) (PostD κ H s Q) NoE s
noncomputable def SCalls:Prop:=∀ f,lv f < k→∀ A H s vs vals Q,RoomC A (lv f+1)→Real κ H s.heap→RA s.heap (dm κ H) vs vals→Γ f vs H Q→
 codeAny (model κ.prog κ.w) A (.call (.ref (κ.fn f)) ⟨vals,[]⟩) (wants (Post κ H s Q) NoE) s
end
section
variable {A:Around} {κ:Adr} {env:Env} {O:Addr→Prop} {ρ:Ev} {H H₁:AH} {s s₁:Shared} {Γ:Fn→List AV→AH→P1→Prop} {lv:Fn→Nat} {k:Nat}
theorem Post.from {Q:P1} {v:Value} {s':Shared} (e:Ext κ H s H₁ s₁) (p:Post κ H₁ s₁ Q v s'):Post κ H s Q v s':=let ⟨r,H',a,b,c⟩:=p; ⟨r,H',a,e.trans b,c⟩
theorem PostB.from {Q:PB} {v:Bool} {s':Shared} (e:Ext κ H s H₁ s₁) (p:PostB κ H₁ s₁ Q v s'):PostB κ H s Q v s':=let ⟨H',a,b⟩:=p; ⟨H',a,e.trans b⟩
theorem PostU.from {Q:AH→Prop} {v:Unit} {s':Shared} (e:Ext κ H s H₁ s₁) (p:PostU κ H₁ s₁ Q v s'):PostU κ H s Q v s':=let ⟨H',a,b⟩:=p; ⟨H',a,e.trans b⟩
theorem PostL.from {Q:PL} {v:List Value} {s':Shared} (e:Ext κ H s H₁ s₁) (p:PostL κ H₁ s₁ Q v s'):PostL κ H s Q v s':=let ⟨r,H',a,b,c⟩:=p; ⟨r,H',a,e.trans b,c⟩
theorem PostV.from {Q:PB} {v:Value} {s':Shared} (e:Ext κ H s H₁ s₁) (p:PostV κ H₁ s₁ Q v s'):PostV κ H s Q v s':=let ⟨t,a,b⟩:=p; ⟨t,a,b.from e⟩
theorem wpE {α:Type} {m:Sem α} {P P':α→Shared→Prop} (h:wpAny (model κ.prog κ.w) A m P NoE s) (g:∀ v s',P v s'→P' v s'):wpAny (model κ.prog κ.w) A m P' NoE s:=wpAny_mono h g fun uu uu e=>e
theorem SE.go {e:E} {x:PySem.Expr} {Q:P1} {P:Value→Shared→Prop} (h:SE κ Γ lv k e x) (a:At κ k A env O ρ H s) (t:trE Γ lv k e ρ H Q)
  (g:∀ r v H₁ s₁,Q r H₁→Ext κ H s H₁ s₁→R s₁.heap (dm κ H₁) r v→P v s₁):wpAny (model κ.prog κ.w) A (eval x env) P NoE s:=
 wpE (h A env O ρ H s Q a t) fun v s' ⟨r,H',q,e,rr⟩=>g r v H' s' q e rr
theorem ST.go {e:E} {x:PySem.Expr} {Q:PB} {P:Bool→Shared→Prop} (h:ST κ Γ lv k e x) (a:At κ k A env O ρ H s) (t:trT Γ lv k e ρ H Q)
  (g:∀ b H₁ s₁,Q b H₁→Ext κ H s H₁ s₁→P b s₁):wpAny (model κ.prog κ.w) A (isTrue x env (eval x env)) P NoE s:=
 wpE (h A env O ρ H s Q a t) fun v s' ⟨H',q,e⟩=>g v H' s' q e
theorem s_none {n p}:SE κ Γ lv k .none (.Constant .none n p):=fun A env O ρ H s Q a t=>wpAny_Constant_none (post_here a.rl t .none)
theorem s_bool {b:Bool} {n p}:SE κ Γ lv k (.bool b) (.Constant (.bool b) n p):=fun A env O ρ H s Q a t=>wpAny_Constant_bool (post_here a.rl t (.bool _))
theorem s_int {i:Int} {n p}:SE κ Γ lv k (.int i) (.Constant (.int i) n p):=fun A env O ρ H s Q a t=>by
 rw [arm_eval_Constant]
 exact wpAny_mkInt (post_tok a.rl t (.int _ _))
theorem s_str {i:Sy} {n p}:SE κ Γ lv k (.str i) (.Constant (.str i.s) n p):=fun A env O ρ H s Q a t=>wpAny_Constant_str (post_tok a.rl t (.str _ _))
theorem load_glo {x:Nm} (a:At κ k A env O ρ H s) {v:AV} (hx:look ρ x=some (.glo,v)) {Q:Value→Shared→Prop} (h:wpAny (model κ.prog κ.w) A (loadGlobal env x.s) Q NoE s) {p:Pos}:
  wpAny (model κ.prog κ.w) A (eval (.Name x.s p) env) Q NoE s:=by
 refine wpAny_Name ?_ (nm_debug x)
 rw [loadName_read a.fr.kind (a.fr.glo x v hx)]
 exact h
theorem s_name (F:Fit1 κ) {x:Nm} {p}:SE κ Γ lv k (.name x) (.Name x.s p):=fun A env O ρ H s Q a t=>by
 have t:match look ρ x with | some (.glo,_)=>x=.MOST_LISTED∧Q (.int 1000000) H | some (_,v)=>(match v with | .unb=>False | v=>Q v H) | .none=>False:=t
 cases hl:look ρ x with
 | none=>rw [hl] at t; exact t.elim
 | some kv=>
  obtain ⟨kd,v⟩:=kv
  rw [hl] at t
  cases kd with
  | glo=>
   obtain ⟨rfl,q⟩:=t
   obtain ⟨mg,mb,hg,hb,⟨tk,hm⟩,_⟩:=F.gl
   refine load_glo a hl (loadGlobal_global (by rw [a.fr.glob]; exact hg.keeps a.rl.base) hm (post_here a.rl q (.int _ _)))
  | loc=>
   have ⟨m,hn,hm⟩:=a.fr.ns
   obtain ⟨hk,hv⟩:=hm x v hl
   have hQ:v≠.unb∧Q v H:=by cases v<;>first | exact t.elim | exact ⟨by simp,t⟩
   rcases hv with rfl | ⟨w,hw,r⟩
   ·exact absurd rfl hQ.1
   ·exact wpAny_Name (wpAny_loadName_local a.fr.kind hk hn hw (post_here a.rl hQ.2 r)) (nm_debug x)
  | cel=>
   obtain ⟨hk,c,ov,hc,_,hi,hv⟩:=a.fr.cel x v hl
   have hQ:v≠.unb∧Q v H:=by cases v<;>first | exact t.elim | exact ⟨by simp,t⟩
   rcases hv with rfl | ⟨w,rfl,r⟩
   ·exact absurd rfl hQ.1
   ·exact wpAny_Name (wpAny_loadName_cell a.fr.kind hk hc hi (post_here a.rl hQ.2 r)) (nm_debug x)
  | fre=>
   obtain ⟨hk,c,ov,hc,_,_,hi,hv⟩:=a.fr.fre x v hl
   have hQ:v≠.unb∧Q v H:=by cases v<;>first | exact t.elim | exact ⟨by simp,t⟩
   have hcd:(x.s==Str.ofString "__classdict__")=false:=by
    have h:(allNm.all fun x => !(x.s==Str.ofString "__classdict__"))=true:=by decide +kernel
    have:=List.all_eq_true.mp h x (nm_all x)
    simpa using this
   rcases hv with rfl | ⟨w,rfl,r⟩
   ·exact absurd rfl hQ.1
   ·rcases hk with hk | hk
    ·exact wpAny_Name (wpAny_loadName_free a.fr.kind hk hc hi (post_here a.rl hQ.2 r) hcd) (nm_debug x)
    ·exact wpAny_Name (wpAny_loadName_cell a.fr.kind hk hc hi (post_here a.rl hQ.2 r)) (nm_debug x)
noncomputable def Bop.c:Bop→Operator
 | .add=>.Add | .sub=>.Sub | .mul=>.Mult | .mod=>.Mod | .pow=>.Pow
theorem binop_ok {op:Bop} {a b:AV} {va vb:Value} {Q:P1} (Rl:Real κ H s.heap) (ra:R s.heap (dm κ H) a va) (rb:R s.heap (dm κ H) b vb) (h:binOp op a b H Q):
  wpAny (model κ.prog κ.w) A (binaryOp op.c va vb) (Post κ H s Q) NoE s:=by
 cases op
 ·exact bin_add Rl ra rb h
 ·exact bin_sub Rl ra rb h
 ·exact bin_mul Rl ra rb h
 ·exact bin_mod Rl ra rb h
 ·exact bin_pow Rl ra rb h
theorem s_bin {op:Bop} {e f:E} {x y:PySem.Expr} {p} (h1:SE κ Γ lv k e x) (h2:SE κ Γ lv k f y):SE κ Γ lv k (.bin op e f) (.BinOp x op.c y p):=fun A env O ρ H s Q a t=>
 wpAny_BinOp (h1.go a t fun r v H₁ s₁ q e1 r1=>h2.go (a.ext e1) q fun r' v' H₂ s₂ q' e2 r2=>wpE (binop_ok e2.real (r1.ext e1.real e2) r2 q') fun uu uu z=>(z.from e2).from e1)
theorem s_neg {e:E} {x:PySem.Expr} {p} (h1:SE κ Γ lv k e x):SE κ Γ lv k (.neg e) (.UnaryOp .USub x p):=fun A env O ρ H s Q a t=>
 wpAny_UnaryOp (h1.go a t fun r v H₁ s₁ q e1 r1=>wpE (neg_ok e1.real r1 q) fun uu uu z=>z.from e1)
theorem s_not {e:E} {x:PySem.Expr} {p} (h1:SE κ Γ lv k e x):SE κ Γ lv k (.not e) (.UnaryOp .Not x p):=fun A env O ρ H s Q a t=>
 wpAny_UnaryOp (h1.go a t fun r v H₁ s₁ q e1 r1=>not_of (wpE (truthy_ok e1.real r1 q) fun b _ ⟨H',z,e2⟩=>⟨_,H',z,e1.trans e2,.bool _⟩))
theorem t_not {e:E} {x:PySem.Expr} {p} (h1:ST κ Γ lv k e x):ST κ Γ lv k (.not e) (.UnaryOp .Not x p):=fun A env O ρ H s Q a t=>
 isTrue_not (h1.go a t fun b H₁ s₁ q e1=>⟨H₁,q,e1⟩)
theorem s_cmp (F:Fit1 κ) {op:Cop} {e f:E} {x y:PySem.Expr} {p} (h1:SE κ Γ lv k e x) (h2:SE κ Γ lv k f y) (hm:behindInMarks op.c y=false):SE κ Γ lv k (.cmp op e f) (.Compare x [op.c] [y] p):=fun A env O ρ H s Q a t=>
 wpAny_Compare1 (h1.go a t fun r v H₁ s₁ q e1 r1=>h2.go (a.ext e1) q fun r' v' H₂ s₂ q' e2 r2=>
  wpE (cmp_ok F.sys e2.real (by have:=a.room.units; exact l30 5495211457176333989161074705 rfl this) (r1.ext e1.real e2) r2 q') fun _ _ ⟨t,e,H',z,e3⟩=>⟨_,H',z,(e1.trans e2).trans e3,e▸.bool t⟩) hm
theorem t_cmp (F:Fit1 κ) {op:Cop} {e f:E} {x y:PySem.Expr} {p} (h1:SE κ Γ lv k e x) (h2:SE κ Γ lv k f y) (hm:behindInMarks op.c y=false):ST κ Γ lv k (.cmp op e f) (.Compare x [op.c] [y] p):=fun A env O ρ H s Q a t=>
 wpAny_isTrue_Compare1 (h1.go a t fun r v H₁ s₁ q e1 r1=>h2.go (a.ext e1) q fun r' v' H₂ s₂ q' e2 r2=>
  wpE (cmp_ok F.sys e2.real (by have:=a.room.units; exact l30 5495211457176333989161074705 rfl this) (r1.ext e1.real e2) r2 q') fun _ _ ⟨t,e,H',z,e3⟩=>by subst e; exact wpAny_truthy_bool ⟨H',z,(e1.trans e2).trans e3⟩) hm
theorem s_and2 {e f:E} {x y:PySem.Expr} {r:List PySem.Expr} {p} (h1:SE κ Γ lv k e x) (h2:SE κ Γ lv k f (.BoolOp .And (y::r) p)):SE κ Γ lv k (.and e f) (.BoolOp .And (x::y::r) p):=fun A env O ρ H s Q a t=>
 BoolOp_and (h1.go a t fun r v H₁ s₁ q e1 r1=>wpE (truthy_ok e1.real r1 q) fun b s₂ ⟨H',z,e2⟩=>by
  cases b with
  | true=>exact wpE (h2 A env O ρ H' s₂ Q ((a.ext e1).ext e2) (z.1 rfl)) fun uu uu z=>(z.from e2).from e1
  | false=>exact ⟨_,H',z.2 rfl,e1.trans e2,r1.ext e1.real e2⟩)
theorem s_or2 {e f:E} {x y:PySem.Expr} {r:List PySem.Expr} {p} (h1:SE κ Γ lv k e x) (h2:SE κ Γ lv k f (.BoolOp .Or (y::r) p)):SE κ Γ lv k (.or e f) (.BoolOp .Or (x::y::r) p):=fun A env O ρ H s Q a t=>
 BoolOp_or (h1.go a t fun r v H₁ s₁ q e1 r1=>wpE (truthy_ok e1.real r1 q) fun b s₂ ⟨H',z,e2⟩=>by
  cases b with
  | false=>exact wpE (h2 A env O ρ H' s₂ Q ((a.ext e1).ext e2) (z.2 rfl)) fun uu uu z=>(z.from e2).from e1
  | true=>exact ⟨_,H',z.1 rfl,e1.trans e2,r1.ext e1.real e2⟩)
theorem s_one {op:BoolOp} {e:E} {x:PySem.Expr} {p} (h:SE κ Γ lv k e x):SE κ Γ lv k e (.BoolOp op [x] p):=fun A env O ρ H s Q a t=>BoolOp_one (h A env O ρ H s Q a t)
noncomputable def STw (κ:Adr) (Γ:Fn→List AV→AH→P1→Prop) (lv:Fn→Nat) (k:Nat) (e:E) (op:BoolOp) (xs:List PySem.Expr):Prop:=
 ∀ A env O ρ H s Q p whole,At κ k A env O ρ H s→trT Γ lv k e ρ H Q→wpAny (model κ.prog κ.w) A (isTrue (.BoolOp op xs p) env whole) (PostB κ H s Q) NoE s
theorem t_and2 {e f:E} {x y:PySem.Expr} {r:List PySem.Expr} (h1:ST κ Γ lv k e x) (h2:STw κ Γ lv k f .And (y::r)):STw κ Γ lv k (.and e f) .And (x::y::r):=fun A env O ρ H s Q p w a t=>
 isTrue_and (h1.go a t fun b H₁ s₁ q e1=>by
  cases b with
  | true=>exact wpE (h2 A env O ρ H₁ s₁ Q p w (a.ext e1) (q.1 rfl)) fun uu uu z=>z.from e1
  | false=>exact ⟨H₁,q.2 rfl,e1⟩)
theorem t_or2 {e f:E} {x y:PySem.Expr} {r:List PySem.Expr} (h1:ST κ Γ lv k e x) (h2:STw κ Γ lv k f .Or (y::r)):STw κ Γ lv k (.or e f) .Or (x::y::r):=fun A env O ρ H s Q p w a t=>
 isTrue_or (h1.go a t fun b H₁ s₁ q e1=>by
  cases b with
  | false=>exact wpE (h2 A env O ρ H₁ s₁ Q p w (a.ext e1) (q.2 rfl)) fun uu uu z=>z.from e1
  | true=>exact ⟨H₁,q.1 rfl,e1⟩)
theorem t_one_and {e:E} {x:PySem.Expr} (h:ST κ Γ lv k e x):STw κ Γ lv k e .And [x]:=fun A env O ρ H s Q p w a t=>
 isTrue_and (h.go a t fun b H₁ s₁ q e1=>by
  cases b with
  | true=>exact isTrue_and_nil ⟨H₁,q,e1⟩
  | false=>exact ⟨H₁,q,e1⟩)
theorem t_one_or {e:E} {x:PySem.Expr} (h:ST κ Γ lv k e x):STw κ Γ lv k e .Or [x]:=fun A env O ρ H s Q p w a t=>
 isTrue_or (h.go a t fun b H₁ s₁ q e1=>by
  cases b with
  | false=>exact isTrue_or_nil ⟨H₁,q,e1⟩
  | true=>exact ⟨H₁,q,e1⟩)
theorem STw.st {e:E} {op:BoolOp} {xs:List PySem.Expr} {p} (h:STw κ Γ lv k e op xs):ST κ Γ lv k e (.BoolOp op xs p):=fun A env O ρ H s Q a t=>h A env O ρ H s Q p _ a t
theorem s_ife {c e f:E} {x y z:PySem.Expr} {p} (h0:ST κ Γ lv k c x) (h1:SE κ Γ lv k e y) (h2:SE κ Γ lv k f z):SE κ Γ lv k (.ife c e f) (.IfExp x y z p):=fun A env O ρ H s Q a t=>
 wpAny_IfExp (h0.go a t fun b H₁ s₁ q e1=>by
  cases b with
  | true=>simp only [if_true]; exact wpE (h1 A env O ρ H₁ s₁ Q (a.ext e1) (q.1 rfl)) fun uu uu z=>z.from e1
  | false=>simp only [Bool.false_eq_true,if_false]; exact wpE (h2 A env O ρ H₁ s₁ Q (a.ext e1) (q.2 rfl)) fun uu uu z=>z.from e1)
theorem t_ife {c e f:E} {x y z:PySem.Expr} {p} (h0:ST κ Γ lv k c x) (h1:ST κ Γ lv k e y) (h2:ST κ Γ lv k f z):ST κ Γ lv k (.ife c e f) (.IfExp x y z p):=fun A env O ρ H s Q a t=>
 isTrue_IfExp (h0.go a t fun b H₁ s₁ q e1=>by
  cases b with
  | true=>simp only [if_true]; exact wpE (h1 A env O ρ H₁ s₁ Q (a.ext e1) (q.1 rfl)) fun uu uu z=>z.from e1
  | false=>simp only [Bool.false_eq_true,if_false]; exact wpE (h2 A env O ρ H₁ s₁ Q (a.ext e1) (q.2 rfl)) fun uu uu z=>z.from e1)
theorem t_value {e:E} {x:PySem.Expr} (h:SE κ Γ lv k e x) (ht:∀ ρ H Q,trT Γ lv k e ρ H Q→trE Γ lv k e ρ H fun v H1=>Internal.truthy v H1 Q)
  (he:∀ env whole,isTrue x env whole=(do let v ← whole; standAt x.pos; holding [v] (PySem.truthy v))):ST κ Γ lv k e x:=fun A env O ρ H s Q a t=>
 isTrue_plain (h.go a (ht ρ H Q t) fun r v H₁ s₁ q e1 r1=>wpE (truthy_ok e1.real r1 q) fun uu uu z=>z.from e1) (he _ _)
theorem s_nil:SEs κ Γ lv k .nil []:=fun A env O ρ H s Q p a t=>spliced_nil ⟨[],H,t,.refl a.rl,.nil⟩
theorem s_cons {e:E} {x:PySem.Expr} {es:Es} {xs:List PySem.Expr} (h1:SE κ Γ lv k e x) (h2:SEs κ Γ lv k es xs) (hs:∀ env,starEach (x::xs) env=(false,eval x env)::starEach xs env):SEs κ Γ lv k (.cons e es) (x::xs):=fun A env O ρ H s Q p a t=>by
 rw [hs]
 refine spliced_cons (h1.go a t fun r v H₁ s₁ q e1 r1=>?_)
 exact wpE (h2 A env O ρ H₁ s₁ _ p (a.ext e1) q) fun vs s₂ ⟨rs,H₂,z,e2,r2⟩=>⟨_,H₂,z,e1.trans e2,.cons (r1.ext e1.real e2) r2⟩
theorem s_tup {es:Es} {xs:List PySem.Expr} {n p} (h:SEs κ Γ lv k es xs):SE κ Γ lv k (.tup es) (.Tuple xs n p):=fun A env O ρ H s Q a t=>
 wpAny_Tuple (wpE (h A env O ρ H s _ p a t) fun vs s₁ ⟨rs,H₁,z,e1,r1⟩=>⟨by rw [r1.length]; exact lim_line z.1,(newT_post (tk:=s₁.toks) e1.real r1 z).from e1⟩)
theorem s_list {es:Es} {xs:List PySem.Expr} {p} (h:SEs κ Γ lv k es xs):SE κ Γ lv k (.list es) (.List xs p):=fun A env O ρ H s Q a t=>
 wpAny_List (wpE (h A env O ρ H s _ p a t) fun vs s₁ ⟨rs,H₁,z,e1,r1⟩=>⟨by rw [r1.length]; exact lim_line z.1,(newL_post (tk:=s₁.toks) e1.real r1 z).from e1⟩)
theorem s_dnil:SDs κ Γ lv k .nil [] []:=fun A env O ρ H s Q p a t=>pairTrees_nil_walk ⟨[],H,[],t,.refl a.rl,.nil,trivial⟩
theorem s_dcons {y:Sy} {e:E} {x:PySem.Expr} {ds:Ds} {ks:List (Option PySem.Expr)} {xs:List PySem.Expr} {n q} (h1:SE κ Γ lv k e x) (h2:SDs κ Γ lv k ds ks xs):SDs κ Γ lv k (.cons y e ds) (some (.Constant (.str y.s) n q)::ks) (x::xs):=fun A env O ρ H s Q p a t=>by
 refine pairTrees_cons_walk (wpAny_Constant_str ?_)
 have e0:Ext κ H s H { s with toks:=s.toks+1 }:=tok_ext a.rl
 refine h1.go (a.ext e0) t fun r v H₁ s₁ q e1 r1=>?_
 refine wpE (h2 A env O ρ H₁ s₁ _ p ((a.ext e0).ext e1) q) fun vs s₂ ⟨kvs,H₂,m,z,e2,rk,c⟩=>⟨_,H₂,_,z,(e0.trans e1).trans e2,.cons (r1.ext e1.real e2) rk,⟨by simp [PySem.strKind,PySem.Value.isStrOf],rfl,c⟩⟩
theorem RK.keys {h:Heap} {D:Addr→Prop} {kvs:List (Sy×AV)} {m:List (Str×Value)} (r:RK h D kvs m):m.map (·.1)=kvs.map fun p=>p.1.s:=by
 induction r with
 | nil=>rfl
 | cons _ _ ih=>simp [ih]
theorem sy_nodup {l:List Sy} (h:l.Nodup):(l.map Sy.s).Nodup:=by
 induction l with
 | nil=>exact .nil
 | cons a l ih=>
  obtain ⟨h1,h2⟩:=List.nodup_cons.mp h
  rw [List.map_cons]
  refine List.nodup_cons.mpr ⟨fun q=>?_,ih h2⟩
  obtain ⟨b,hb,e⟩:=List.mem_map.mp q
  exact h1 (sy_inj.mp e▸hb)
theorem sy_few {l:List Sy} (h:l.Nodup):l.length≤8:=by
 have sub:l ⊆ allSy:=fun x uu=>by cases x<;>decide
 exact List.Nodup.length_le_of_subset h sub
theorem s_dict {ds:Ds} {ks:List (Option PySem.Expr)} {xs:List PySem.Expr} {p} (h:SDs κ Γ lv k ds ks xs) (hall:ks.all (·.isSome)=true) (hl:ks.length=xs.length) (h0:ks≠[]) (hlen:ks.length≤15)
  (hne:∀ ρ H Q,trDs Γ lv k ds ρ H Q→trDs Γ lv k ds ρ H fun kvs H'=>kvs≠[]∧Q kvs H'):SE κ Γ lv k (.dict ds) (.Dict ks xs p):=fun A env O ρ H s Q a t=>by
 refine wpAny_Dict_walk (knd:=strKind κ.prog κ.w) hall hl h0 hlen ?_
 have hk0:∀ b o,s.heap.get? b=some o→(s.heap.push { cls:=.type "dict",data:=.dict #[] }).get? b=some o:=fun b o e=>Heap.get?_push_of_some _ e
 have e0:Ext κ H s H { s with heap:=s.heap.push { cls:=.type "dict",data:=.dict #[] } }:=Ext.of_keeps (tk:=s.toks) a.rl hk0
 have hd0:=fresh_dom a.rl
 refine wpE (h A env O ρ H _ _ p (a.ext e0) (hne _ _ _ t)) fun vs s₁ ⟨kvs,H₁,m,⟨hn,z⟩,e1,rk,c⟩=>?_
 have hg0:(s.heap.push { cls:=.type "dict",data:=.dict #[] }).get? s.heap.objs.size=some { cls:=.type "dict",data:=.dict #[] }:=Heap.get?_push_size _ rfl
 have hd1:H₁ s.heap.objs.size=none:=by
  cases q:H₁ s.heap.objs.size with
  | none=>rfl
  | some o=>
   exfalso
   rcases e1.grow s.heap.objs.size (by rw [dom,q]; simp) with h | h
   ·exact h hd0
   ·rw [hg0] at h; cases h
 have hg1:=e1.step.keep _ _ (fun h=>h hd0) hg0
 match kvs,hn,z with
 | kv::kvs,_,z=>
  obtain ⟨zn,zq⟩:=z
  have zn':(kv::kvs).map (·.1) |>.Nodup:=zn
  have hnm:(m.map (·.1)).Nodup:=by rw [rk.keys]; have:=sy_nodup zn'; rw [List.map_map] at this; exact this
  have hlm:m.length=(kv::kvs).length:=by have:=congrArg List.length rk.keys; simpa using this
  refine ⟨m,c,⟨_,_,_,hg1,⟨rfl,rfl,rfl⟩,rfl,fun e he=>by simp at he,.nil,.nil⟩,fun h' hm' hs'=>?_⟩
  rw [merged_nil_of_nodup m hnm] at hm'
  refine ⟨_,_,zq s.heap.objs.size hd1,.made (tk:=s₁.toks+vs.length) a.rl (e0.trans e1) (fresh_none s) hg1 (fun q=>absurd (Value.type.inj q) (by decide)) rfl hd1 (fun b o hb e=>hs'.extBut b o hb e) fun S=>⟨m,hm',rk.stays S,?_⟩,.obj _⟩
  have:=sy_few zn'
  rw [List.length_map] at this
  exact l10 4816705429195265 rfl this
theorem s_dict0 {p}:SE κ Γ lv k (.dict .nil) (.Dict [] [] p):=fun A env O ρ H s Q a t=>by
 refine wpAny_Dict_empty ?_
 refine ⟨_,_,t s.heap.objs.size (fresh_dom a.rl),.new (tk:=s.toks) a.rl (fun b o e=>Heap.get?_push_of_some _ e) (fresh_none s) ?_,.obj _⟩
 exact ⟨[],Heap.DictOf.new _,fun p hp=>by simp at hp⟩
theorem sub_tail {value slice:PySem.Expr} {o i:Value} {T id:String} {P:Value→Shared→Prop} (hT:s.TypeIs o T) (hl:typeLookup (.type T) "__getitem__" = pure (some (.builtin id))) (hne:o≠.builtin "sys.modules#opaque")
  (hs:∃ vs,subscripted slice false o i=operate vs (getItem o i)) (h:wpAny (model κ.prog κ.w) A (getItem o i) P NoE s):
  wpAny (model κ.prog κ.w) A (getitemInPython o >>= fun (b:Bool)=>subscripted slice b o i >>= fun r=>letTemporaryGo value o r >>= fun uu=>pure r) P NoE s:=by
 refine byc fun hNN=>?_
 obtain ⟨ws,hs⟩:=hs
 refine hNN ?_
 refine wpAny_bind ?_
 rw [getitemInPython_of_ne hne]
 refine wpAny_bind (wpAny_specialOf hT hl ?_)
 refine wpAny_pure ?_
 rw [hs]
 exact wpAny_bind (wpAny_operating (wpE h fun r s' z=>wpAny_bind (wpAny_letTemporaryGo (wpAny_pure z))))
theorem map_tail {value slice:PySem.Expr} {o i:AV} {vo vi:Value} {Q:P1} (Rl:Real κ H s.heap) (ro:R s.heap (dm κ H) o vo) (ri:R s.heap (dm κ H) i vi) (h:getIt H o i Q)
  (hs:∃ vs,subscripted slice false vo vi=operate vs (getItem vo vi)):
  wpAny (model κ.prog κ.w) A (getitemInPython vo >>= fun (b:Bool)=>subscripted slice b vo vi >>= fun r=>letTemporaryGo value vo r >>= fun uu=>pure r) (Post κ H s Q) NoE s:=by
 have g:=getItem_ok (A:=A) Rl ro ri h
 cases i<;>simp only [getIt] at h
 ·obtain ⟨l,j,v,hl,_⟩:=h
  obtain ⟨a,vs,rfl,z,ra,⟨_,o,ho,hc,n,hd⟩ | ⟨_,o,ho,hc,n,hd⟩⟩:=items_inv Rl ro hl
  ·exact sub_tail (T := "tuple") ⟨_,ho,hc⟩ PySem.F.slot_tuple_getitem.lookup (by simp) hs g
  ·exact sub_tail (T := "list") ⟨_,ho,hc⟩ PySem.F.slot_list_getitem.lookup (by simp) hs g
 ·obtain ⟨a,kvs,v,rfl,ha,_⟩:=h
  obtain ⟨m,hm,_⟩:=Rl.at_ a _ ha
  have:=ro.obj_inv
  subst this
  exact sub_tail (T := "dict") (hm.typeIs (s:=s)) slot_dict_getitem.lookup (by simp) hs g
theorem s_sub {e f:E} {x y:PySem.Expr} {p} (h1:SE κ Γ lv k e x) (h2:SE κ Γ lv k f y) (hs:∀ o i,∃ vs,subscripted y false o i=operate vs (getItem o i)):SE κ Γ lv k (.sub e f) (.Subscript x y p):=fun A env O ρ H s Q a t=>by
 rw [arm_eval_Subscript]
 refine wpAny_bind (h1.go a t fun r v H₁ s₁ q e1 r1=>wpAny_bind (wpAny_holding (h2.go (a.ext e1) q fun r' v' H₂ s₂ q' e2 r2=>wpAny_bind (wpAny_standAt ?_))))
 exact wpE (map_tail e2.real (r1.ext e1.real e2) r2 q' (hs _ _)) fun uu uu z=>(z.from e2).from e1
theorem s_attr (F:Fit1 κ) {e:E} {x:PySem.Expr} {y:Nm} {p} (h1:SE κ Γ lv k e x) (hb:∀ env,attributeBase x y.s env (eval x env)=eval x env):SE κ Γ lv k (.attr e y) (.Attribute x y.s p):=fun A env O ρ H s Q a t=>by
 rw [arm_eval_Attribute,hb]
 refine wpAny_bind (h1.go a t fun r v H₁ s₁ q e1 r1=>wpAny_bind (wpAny_standAt (wpAny_bind (wpAny_holding ?_))))
 exact wpE (getAt_ok F.toFit0 e1.real r1 q) fun uu uu z=>wpAny_bind (wpAny_letTemporaryGo (wpAny_pure (z.from e1)))
theorem pick_upto (vs:Array Value) (n:Nat):slicePick vs none (some (n:Int)) none=(vs.toList.take n).toArray:=by
 have e:sliceBounds none (some (n:Int)) none vs.size=(((0:Nat):Int),((min n vs.size:Nat):Int),1):=by
  simp only [sliceBounds,Option.getD_none,show (1:Int) > 0 by decide,if_true,if_neg (show ¬ ((n:Int) < 0) by exact l10 23753824 rfl)]
  congr 1
  congr 1
  exact l32 7687704564262845187082994572079151877807152640550615108080418301891105773420100027024908955667679232453672194281912760481193207113971766949819218084672108748714251454778623951949494714655819673315909777485386623567689596901384316540149218646532392754469275523 rfl (lmnN _ _) (lmxI _ _) (lmnI _ _)
 rw [kmk_pick_nat _ e]
 rw [List.drop_zero,Nat.sub_zero,← Array.length_toList,kmk_take_min]
theorem pick_from (vs:Array Value) (n:Nat) (h:n≤vs.size):slicePick vs (some (n:Int)) none none=(vs.toList.drop n).toArray:=by
 have e:sliceBounds (some (n:Int)) none none vs.size=(((n:Nat):Int),((vs.size:Nat):Int),1):=by
  simp only [sliceBounds,Option.getD_none,show (1:Int) > 0 by decide,if_true,if_neg (show ¬ ((n:Int) < 0) by exact l10 23753824 rfl)]
  congr 1
  exact l22 693168084757652508993732583539183472455143227290725576869685895993855107611063639123001575726912597807469769404466506660056709635 rfl h (lmxI _ _) (lmnI _ _)
 rw [kmk_pick_nat _ e,List.take_of_length_le (by rw [List.length_drop,Array.length_toList]; exact l10 109056 rfl)]
noncomputable def SPart (κ:Adr) (Γ:Fn→List AV→AH→P1→Prop) (lv:Fn→Nat) (k:Nat) (e:E) (x:Option PySem.Expr):Prop:=
 ∀ A env O ρ H s Q,At κ k A env O ρ H s→trE Γ lv k e ρ H Q→wpAny (model κ.prog κ.w) A (evalPart x env) (Post κ H s Q) NoE s
theorem part_none:SPart κ Γ lv k .none none:=fun A env O ρ H s Q a t=>by rw [evalPart_none]; exact wpAny_pure (post_here a.rl t .none)
theorem part_some {e:E} {x:PySem.Expr} (h:SE κ Γ lv k e x):SPart κ Γ lv k e (some x):=fun A env O ρ H s Q a t=>h A env O ρ H s Q a t
theorem s_slice {e f g:E} {x:PySem.Expr} {y z:Option PySem.Expr} {p q} (h1:SE κ Γ lv k e x) (h2:SPart κ Γ lv k f y) (h3:SPart κ Γ lv k g z):SE κ Γ lv k (.slice e f g) (.Subscript x (.Slice y z none p) q):=fun A env O ρ H s Q a t=>by
 rw [arm_eval_Subscript]
 refine wpAny_bind (h1.go a t fun r v H₁ s₁ q1 e1 r1=>wpAny_bind (wpAny_holding (wpAny_Slice (wpE (h2 A env O ρ H₁ s₁ _ (a.ext e1) q1) fun vl s₂ ⟨rl,H₂,q2,e2,r2⟩=>
  wpE (h3 A env O ρ H₂ s₂ _ ((a.ext e1).ext e2) q2) fun vh s₃ ⟨rh,H₃,q3,e3,r3⟩=>?_))))
 rw [evalPart_none]
 refine wpAny_pure (wpAny_bind (wpAny_standAt ?_))
 obtain ⟨l,hnt,hl,hh⟩:=q3
 have e23:=e2.trans e3
 have r1':=r1.ext e1.real e23
 obtain ⟨ad,vs,rfl,zl,ra,⟨⟨t',rfl⟩,_⟩ | ⟨_,hL⟩⟩:=items_inv e3.real r1' hl
 ·exact absurd rfl (hnt t')
 have hn:vs.size=l.length:=by have:=ra.length; simpa using this
 have hk:∀ b o,s₃.heap.get? b=some o→(s₃.heap.push { cls:=.type "slice",data:=.fields #[vl,vh,.none] }).get? b=some o:=fun b o e=>Heap.get?_push_of_some _ e
 have e4:Ext κ H₃ s₃ H₃ { s₃ with heap:=s₃.heap.push { cls:=.type "slice",data:=.fields #[vl,vh,.none] } }:=Ext.of_keeps (tk:=s₃.toks) e3.real hk
 have hL':=hL.push { cls:=.type "slice",data:=.fields #[vl,vh,.none] }
 have r2':=r2.ext e2.real e3
 refine sub_tail (T := "list") (s:={ s₃ with heap:=s₃.heap.push { cls:=.type "slice",data:=.fields #[vl,vh,.none] } }) hL'.typeIs PySem.F.slot_list_getitem.lookup (by simp) ⟨_,rfl⟩ ?_
 rcases hh with ⟨n,rfl,rfl,z⟩ | ⟨n,hnl,rfl,rfl,z⟩
 ·have:=r2'.none_inv; subst this
  obtain ⟨tk,rfl⟩:=r3.int_inv
  refine wpAny_getItem_list_slice hL' (Heap.IsSliceOf.new ..) .none (.int _ _) .none (by simp) ?_ (by rw [hn]; exact lim_line zl)
  rw [pick_upto]
  exact (newL_post (s:={ s₃ with heap:=s₃.heap.push { cls:=.type "slice",data:=.fields #[Value.none,Value.int n tk,Value.none] } }) (tk:=s₃.toks) e4.real ((ra.ext e3.real e4).take n) z).from (((e1.trans e2).trans e3).trans e4)
 ·have:=r3.none_inv; subst this
  obtain ⟨tk,rfl⟩:=r2'.int_inv
  refine wpAny_getItem_list_slice hL' (Heap.IsSliceOf.new ..) (.int _ _) .none .none (by simp) ?_ (by rw [hn]; exact lim_line zl)
  rw [pick_from _ _ (by exact l30 4803405721680418 rfl hn hnl)]
  exact (newL_post (s:={ s₃ with heap:=s₃.heap.push { cls:=.type "slice",data:=.fields #[Value.int n tk,Value.none,Value.none] } }) (tk:=s₃.toks) e4.real ((ra.ext e3.real e4).drop n) z).from (((e1.trans e2).trans e3).trans e4)
noncomputable def NoStar (xs:List PySem.Expr):Prop:=∀ env,(starEach xs env).any (·.1)=false
theorem noStar_back {xs:List PySem.Expr} (h:NoStar xs) (env:Env) (pos:Pos):(backTo pos (starEach xs env)).any (·.1)=false:=by
 unfold backTo
 rw [List.any_map]
 exact h env
theorem evalArgs_all {M:Model} {E:Value→Shared→Prop} {f:Value} {ts:List (Bool×Sem Value)} {Q:Args→Shared→Prop} (hp:ts.any (·.1)=false) (h:wpAny M A (spliced ts) (fun vs s'=>Q ⟨vs,[]⟩ s') E s):
  wpAny M A (evalArgs f true ts []) Q E s:=by
 cases ts with
 | nil=>
  unfold evalArgs
  show wpAny M A (spliced [] >>= _) Q E s
  refine wpAny_bind (wpAny_mono h (fun vs s' h'=>?_) fun uu uu x=>x)
  refine wpAny_holding ?_
  exact wpAny_bind (wpAny_pure (wpAny_bind (wpAny_pure (wpAny_pure h'))))
 | cons t r=>
  obtain ⟨b,x⟩:=t
  simp only [List.any_cons,Bool.or_eq_false_iff] at hp
  obtain ⟨rfl,_⟩:=hp
  exact evalArgs_plain h
theorem callB_ok {b:Bf} {vs:List AV} {vals:List Value} {Q:P1} (a:Room A k) (Rl:Real κ H s.heap) (ra:RA s.heap (dm κ H) vs vals) (h:callB b vs H Q):
  wpAny (model κ.prog κ.w) A (call (bfv b) vals) (Post κ H s Q) NoE s:=by
 cases ra with
 | nil=>cases b<;>exact h.elim
 | cons r1 ra=>
  cases ra with
  | nil=>
   cases b
   ·exact len_ok Rl r1 h
   ·exact h.elim
   ·exact h.elim
   ·exact abs_ok Rl r1 h
   ·exact sum_ok Rl a.hand r1 h
   ·exact sorted_ok Rl r1 h
   ·exact tuple_ok Rl r1 h
   ·exact list_ok Rl r1 h
   ·exact range_ok1 Rl r1 h
  | cons r2 ra=>
   cases ra with
   | nil=>
    cases b
    ·exact h.elim
    ·exact max_ok Rl a.hand r1 r2 h
    ·exact min_ok Rl a.hand r1 r2 h
    ·exact h.elim
    ·exact h.elim
    ·exact h.elim
    ·exact h.elim
    ·exact h.elim
    ·exact range_ok2 Rl r1 r2 h
   | cons r3 ra=>cases b<;>exact h.elim
theorem make_ok (F:Fit1 κ) (hC:SCalls κ Γ lv k) {c:Cl} {vs:List AV} {vals:List Value} {Q:P1} (a:Room A k) (Rl:Real κ H s.heap) (ra:RA s.heap (dm κ H) vs vals)
  (h:lv (initOf c) < k∧∀ a dx,H a=.none→H dx=.none→a≠dx→Γ (initOf c) (.obj a::vs) (upd (upd H dx (.ns [])) a (.inst c dx)) fun r H'=>r=.none∧Q (.obj a) H'):
  wpAny (model κ.prog κ.w) A (call (.ref (κ.cls c)) vals) (Post κ H s Q) NoE s:=by
 refine byc fun hNN=>?_
 obtain ⟨hl,h⟩:=h
 have C:=F.cls c
 have X:=F.kin.keeps Rl.base
 obtain ⟨hh,g,d,t,os⟩:=s
 have Rl':Real κ H hh:=Rl
 refine hNN ?_
 refine wpAny_call (make_core (h:=hh) (makes_of X C.makes) (looks_findIn X C.init) (fun self=>bind_fn X self (F.typ _)) (.inl rfl) ?_)
 have hd0:H hh.objs.size=none:=fresh_dom (s:=⟨hh,g,d,t,os⟩) Rl
 have e1:Ext κ H ⟨hh,g,d,t,os⟩ (upd H hh.objs.size (.ns [])) ⟨hh.push emptyDict,g,d,t,os⟩:=
  .new (tk:=t) (h':=hh.push emptyDict) Rl (fun b o e=>Heap.get?_push_of_some _ e) (Heap.get?_none_of_le (Nat.le_refl _))
   ⟨fun uu=>none,⟨_,_,_,Heap.get?_push_size _ rfl,rfl,fun e he=>by simp at he,fun uu=>rfl,by simp⟩,fun x v hv=>by simp [lkF] at hv,fun uu uu=>rfl⟩
 have hs1:(hh.push emptyDict).objs.size=hh.objs.size+1:=Heap.size_push ..
 have hd1:upd H hh.objs.size (.ns []) (hh.objs.size+1)=none:=by
  have:=fresh_dom (s:=⟨hh.push emptyDict,g,d,t,os⟩) e1.real
  rw [hs1] at this; exact this
 have hd1':H (hh.objs.size+1)=none:=by
  unfold upd at hd1
  rw [if_neg (Nat.succ_ne_self _)] at hd1
  exact hd1
 have e2:Ext κ (upd H hh.objs.size (.ns [])) ⟨hh.push emptyDict,g,d,t,os⟩ (upd (upd H hh.objs.size (.ns [])) (hh.objs.size+1) (.inst c hh.objs.size)) ⟨(hh.push emptyDict).push (instObj (κ.cls c) hh.objs.size),g,d,t,os⟩:=
  .new (tk:=t) (h':=(hh.push emptyDict).push (instObj (κ.cls c) hh.objs.size)) e1.real (fun b o e=>Heap.get?_push_of_some _ e) (Heap.get?_none_of_le (by rw [hs1]; exact Nat.le_refl _))
   (by
    have:=Heap.get?_push_size (h:=hh.push emptyDict) (o:=instObj (κ.cls c) hh.objs.size) rfl
    rw [hs1] at this; exact this)
 have e12:=e1.trans e2
 have hcall:=hC (initOf c) hl (A.under (.builtin "type.__call__" ⟨.ref (κ.cls c)::vals,[]⟩)) _ _ (.obj (hh.objs.size+1)::vs) (.ref (hh.objs.size+1)::vals) _ (a.ct hl _) e2.real (.cons (.obj _) (ra.ext Rl e12)) (h (hh.objs.size+1) hh.objs.size hd1' hd0 (Nat.succ_ne_self _))
 refine codeAny_mono hcall fun r s' z=>?_
 rcases r with e | (v | _ | _ | _)<;>first | exact z.elim | skip
 refine byc fun hNN=>?_
 obtain ⟨r,H',⟨rfl,q⟩,e3,rr⟩:=z
 refine hNN ?_
 exact ⟨rr.none_inv,_,H',q,e12.trans e3,.obj _⟩
theorem callN_ok (F:Fit1 κ) (hC:SCalls κ Γ lv k) {f:Nm} {c:Callee} (hc:calleeOf f=some c) {vs:List AV} {vals:List Value} {Q:P1} (a:Room A k) (Rl:Real κ H s.heap) (ra:RA s.heap (dm κ H) vs vals)
  (h:callN Γ lv k f vs H Q):wpAny (model κ.prog κ.w) A (call (c.v κ) vals) (Post κ H s Q) NoE s:=by
 unfold callN at h
 rw [hc] at h
 cases c with
 | fn g=>exact wpAny_call (hC g h.1 A H s vs vals Q (a.c h.1) Rl ra h.2)
 | bf b=>exact callB_ok a Rl ra h
 | cls c=>exact make_ok F hC a Rl ra h
theorem Callee.keeps (F:Fit1 κ) (c:Callee) (h:Heap) (X:κ.K.In h):∃ k,(k=Keeper.frame∨k=Keeper.machine∨k=Keeper.boundFrame)∧Looks (model κ.prog κ.w) h (keeperOf (c.v κ)) k:=by
 cases c with
 | fn g=>exact keeps_K (F.keepF g) h X
 | cls c=>exact keeps_K (F.keepC c) h X
 | bf b=>exact ⟨.machine,.inr (.inl rfl),by cases b<;>exact Looks.of_pure rfl⟩
theorem s_call (F:Fit1 κ) (hC:SCalls κ Γ lv k) {f:Nm} {es:Es} {xs:List PySem.Expr} {p q} (hc:(calleeOf f).isSome=true) (h1:SEs κ Γ lv k es xs) (hn:NoStar xs):SE κ Γ lv k (.call f es) (.Call (.Name f.s p) xs [] q):=fun A env O ρ H s Q a t=>by
 refine byc fun hNN=>?_
 obtain ⟨⟨v,hv⟩,t⟩:=t
 obtain ⟨c,hc⟩:=Option.isSome_iff_exists.mp hc
 obtain ⟨mg,mb,hg,hb,_,hm,_⟩:=F.gl
 obtain ⟨m1,m2⟩:=hm f c hc
 refine hNN ?_
 rw [arm_eval_Call_Name']
 refine wpAny_bind (load_glo a hv ?_)
 have fin:wpAny (model κ.prog κ.w) A (callWith q (c.v κ) [] (backTo q (starEach xs env)) (backToKw q (keywordEach [] env))) (Post κ H s Q) NoE s:=by
  refine callWith_of (by rw [noStar_back hn]; rfl) (c.keeps F) (evalArgs_all (noStar_back hn _ _) (wpE (h1 A env O ρ H s _ q a t) fun vs s₁ ⟨rs,H₁,z,e1,r1⟩=>?_))
  exact ⟨F.kin.keeps e1.real.base,wpE (callN_ok F hC hc a.room e1.real r1 z) fun uu uu z=>z.from e1⟩
 cases hbf:isBf c with
 | false=>exact loadGlobal_global (by rw [a.fr.glob]; exact hg.keeps a.rl.base) (m1 hbf) fin
 | true=>exact loadGlobal_builtin (by rw [a.fr.glob]; exact hg.keeps a.rl.base) (m2 hbf).1 (by rw [a.fr.blt]; exact hb.keeps a.rl.base) (m2 hbf).2 fin
theorem callM_ok (hC:SCalls κ Γ lv k) {mk:MK} {o:AV} {vo:Value} {vs:List AV} {vals:List Value} {Q:P1} (a:Room A k) (Rl:Real κ H s.heap) (ro:R s.heap (dm κ H) o vo) (ra:RA s.heap (dm κ H) vs vals)
  (h:callM Γ lv k mk o vs H Q):wpAny (model κ.prog κ.w) A (call (mk.v κ) (vo::vals)) (Post κ H s Q) NoE s:=by
 cases mk with
 | app=>
  obtain ⟨b,l,v,rfl,rfl,hb,hz,q⟩:=h
  rw [ro.obj_inv]
  cases ra with | cons r1 ra=>cases ra; exact append_ok Rl r1 hb hz q
 | ext=>
  obtain ⟨b,l,rfl,hb,⟨v,m,rfl,hm,hz,q⟩ | ⟨lo,hi,rfl,hz,q⟩⟩:=h
  ·rw [ro.obj_inv]
   cases ra with | cons r1 ra=>cases ra; exact extend_ok Rl r1 hb hm hz q
  ·rw [ro.obj_inv]
   cases ra with | cons r1 ra=>cases ra; exact extend_range_ok Rl a.hand r1 hb hz q
 | pop=>
  obtain ⟨b,l,v,rfl,rfl,hb,q⟩:=h
  rw [ro.obj_inv]
  cases ra
  exact pop_ok Rl hb q
 | fn f=>exact wpAny_call (hC f h.1 A H s (o::vs) (vo::vals) Q (a.c h.1) Rl (.cons ro ra) h.2)
theorem MK.keeps (F:Fit1 κ) (c:MK) (h:Heap) (X:κ.K.In h):∃ k,(k=Keeper.frame∨k=Keeper.machine∨k=Keeper.boundFrame)∧Looks (model κ.prog κ.w) h (keeperOf (c.v κ)) k:=by
 cases c with
 | fn g=>exact keeps_K (F.keepF g) h X
 | _=>exact ⟨.machine,.inr (.inl rfl),Looks.of_pure rfl⟩
theorem s_meth (F:Fit1 κ) (hC:SCalls κ Γ lv k) {e:E} {x:PySem.Expr} {m:Nm} {es:Es} {xs:List PySem.Expr} {p q} (h0:SE κ Γ lv k e x) (h1:SEs κ Γ lv k es xs) (hn:NoStar xs) (hz:xs.length < 30) (hline:(p.endLine==q.line)=true)
  (hb:∀ env,attributeBase x m.s env (eval x env)=eval x env):SE κ Γ lv k (.meth e m es) (.Call (.Attribute x m.s p) xs [] q):=fun A env O ρ H s Q a t=>by
 rw [arm_eval_Call,hb]
 refine wpAny_bind (h0.go a t fun r v H₁ s₁ t1 e1 r1=>wpAny_bind (wpAny_standAt ?_))
 have hform:methodCallForm (xs.length+([]:List Keyword).length) (backTo q (starEach xs env)) (backToKw q (keywordEach [] env))=true:=by
  unfold methodCallForm
  have h1:=noStar_back hn env q
  rw [List.any_eq_false] at h1
  have h2:(backTo q (starEach xs env)).all (fun x => !x.1)=true:=List.all_eq_true.mpr fun y hy=>by have:=h1 y hy; simpa using this
  rw [h2]
  show (true&&true&&decide (xs.length+0+0 < 30))=true
  simp [hz]
 have hpos:methodCallPos true x env p q=pure q:=by unfold methodCallPos; simp [hline]
 unfold methodCall
 rw [hform]
 refine wpAny_bind (wpAny_holding ?_)
 show wpAny _ _ (getMethod v m.s _) _ _ _
 refine wpE (methK_ok F.toFit0 e1.real r1 t1) fun fr s₂ ⟨es2,mk,t2,ef⟩=>?_
 rw [es2,ef]
 refine wpAny_bind (wpAny_of_eq hpos ?_)
 refine callWith_of (by rw [noStar_back hn]; rfl) (mk.keeps F) (evalArgs_all (noStar_back hn _ _) (wpE (h1 A env O ρ H₁ s₁ _ q (a.ext e1) t2) fun vs s₃ ⟨rs,H₂,z,e2,r2⟩=>?_))
 exact ⟨F.kin.keeps e2.real.base,wpE (callM_ok hC a.room e2.real (r1.ext e1.real e2) r2 z) fun uu uu z=>(z.from e2).from e1⟩
end
end Internal
namespace Internal
open PySem PySem.W PyProof.Rows PySem.Calls
theorem look_put (ρ:Ev) (x y:Nm) (w:AV):look (put ρ x w) y=if y=x then (look ρ x).map (fun p=>(p.1,w)) else look ρ y:=by
 induction ρ with
 | nil=>simp [put,look]
 | cons p r ih=>
  obtain ⟨z,kd,v⟩:=p
  unfold put
  by_cases e:z=x
  ·subst e
   rw [if_pos rfl]
   by_cases e2:z=y
   ·subst e2; simp [look]
   ·simp only [look,e2,if_false]
    rw [ih,if_neg fun q=>e2 q.symm,if_neg fun q=>e2 q.symm]
  ·rw [if_neg e]
   unfold look
   by_cases e2:z=y
   ·subst e2; rw [if_pos rfl,if_neg e,if_pos rfl]
   ·rw [if_neg e2,ih,if_neg e2,if_neg e]
section
variable {A:Around} {κ:Adr} {env:Env} {O:Addr→Prop} {ρ:Ev} {H H₁:AH} {s s₁:Shared} {Γ:Fn→List AV→AH→P1→Prop} {lv:Fn→Nat} {k:Nat}
theorem Frame.offs (F:Frame κ env O ρ H s.heap):∀ a o,O a→s.heap.get? a=some o→sf o=true→o.cls=.type "list" ∧ κ.Z a:=fun a o ha e q=>by
 obtain ⟨_,_,o',e',q'⟩:=F.off a ha
 rw [e] at e'; cases e'; rw [q] at q'; cases q'
theorem own_stays (F:Frame κ env O ρ H s.heap) (Rl:Real κ H s.heap) {s':Shared} (st:Step O s s'):Stays s.heap (dm κ H) s'.heap (dm κ H):=
 stays_of (O:=O) Rl (st.mono fun uu h=>.inr h) (.refl _ _) F.offs
theorem own_real (F:Frame κ env O ρ H s.heap) (Rl:Real κ H s.heap) {s':Shared} (st:Step O s s'):Real κ H s'.heap:=
  have S:=own_stays F Rl st
  ⟨fun a o e=>(Rl.at_ a o e).stays S fun ob eo=>st.keep a ob (fun q=>(F.off a q).d (by rw [dom,e]; simp)) eo,
   fun b o e=>st.keep b o (fun q=>by rw [(F.off b q).2] at e; cases e) (Rl.base b o e),Rl.off,fun a z=>st.live a (Rl.zl a z)⟩
inductive PostA (κ:Adr) (k:Nat) (A:Around) (env:Env) (O:Addr→Prop) (H:AH) (s:Shared) (Q:Ev→Prop) (u:Unit) (s':Shared):Prop
 | mk (ρ':Ev) (q:Q ρ') (a:At κ k A env O ρ' H s') (e:Step O s s')
theorem PostA.from {Q:Ev→Prop} {u:Unit} {s':Shared} (st:Step O s s₁) (p:PostA κ k A env O H s₁ Q u s'):PostA κ k A env O H s Q u s':=let ⟨ρ',a,b,c⟩:=p; ⟨ρ',a,b,st.trans (fun uu h=>.inl h) c⟩
theorem ns_of_same {h h':Heap} {a b:Addr} {m:Str→Option Value} (x:h.Ns a m) (hs:Heap.SameBut b h h') (hab:a≠b):h'.Ns a m:=x.at' fun o e=>hs.extBut a o hab e
theorem cell_of_same {h h':Heap} {a b:Addr} {m:Option Value} (x:h.IsCell a m) (hs:Heap.SameBut b h h') (hab:a≠b):h'.IsCell a m:=let ⟨o,e,d⟩:=x; ⟨o,hs.extBut a o hab e,d⟩
theorem step_same {a:Addr} {h':Heap} {tk:Nat} (hs:Heap.SameBut a s.heap h') (ha:O a) (hl:h'.get? a≠none):Step O s { s with heap:=h',toks:=tk }:=
 ⟨⟨h',tk,rfl⟩,fun b o hb e=>hs.extBut b o (fun q=>hb (q▸ha)) e,fun b hb=>by
  by_cases q:b=a
  ·subst q; exact hl
  ·exact live_of hb fun o e=>hs.extBut b o q e⟩
theorem store_ok {x:Nm} {v:AV} {w:Value} {Q:Ev→Prop} (a:At κ k A env O ρ H s) (r:R s.heap (dm κ H) v w) (h:asgN x v ρ Q):
  wpAny (model κ.prog κ.w) A (storeName env x.s w) (PostA κ k A env O H s Q) NoE s:=by
 obtain ⟨hp,q⟩:=h
 have F:=a.fr
 unfold canPut at hp
 cases hl:look ρ x with
 | none=>rw [hl] at hp; cases hp
 | some kv=>
  obtain ⟨kd,v0⟩:=kv
  rw [hl] at hp
  have lk:∀ y kd' v',look (put ρ x v) y=some (kd',v')→(y=x∧kd'=kd∧v'=v)∨(y≠x∧look ρ y=some (kd',v')):=fun y kd' v' e=>by
   rw [look_put] at e
   by_cases c:y=x
   ·rw [if_pos c,hl] at e
    simp only [Option.map_some,Option.some.injEq,Prod.mk.injEq] at e
    exact .inl ⟨c,e.1.symm,e.2.symm⟩
   ·rw [if_neg c] at e; exact .inr ⟨c,e⟩
  cases kd with
  | glo=>cases hp
  | fre=>cases hp
  | loc=>
   obtain ⟨m,hn,hm⟩:=F.ns
   obtain ⟨hk,_⟩:=hm x v0 hl
   refine wpAny_storeName_local hk hn (fun h' hn' hs'=>?_) (by rw [F.kind]; rfl)
   have hlive:h'.get? env.locals≠none:=by obtain ⟨o,_,_,e,_⟩:=hn'; rw [e]; simp
   have st:Step O s { s with heap:=h',toks:=s.toks+1 }:=step_same hs' F.own hlive
   have S:=own_stays F a.rl st
   have kc:∀ c ov,c≠env.locals→s.heap.IsCell c ov→h'.IsCell c ov:=fun c ov hc z=>cell_of_same z hs' hc
   refine ⟨_,q,⟨⟨F.kind,F.glob,F.blt,⟨_,hn',fun y vy hy=>?_⟩,fun y vy hy=>?_,fun y vy hy=>?_,fun y vy hy=>?_,F.own,fun b hb=>?_,fun y z vy vz c hy hz=>?_,fun y vy c hy=>?_⟩,own_real F a.rl st,a.room⟩,st⟩
   ·rcases lk y _ _ hy with ⟨rfl,_,rfl⟩ | ⟨hne,hy⟩
    ·exact ⟨hk,.inr ⟨w,by simp,r.stays S⟩⟩
    ·obtain ⟨a1,a2⟩:=hm y vy hy
     exact ⟨a1,a2.imp id fun ⟨w',p1,p2⟩=>⟨w',by rw [if_neg fun q=>hne (nm_inj.mp q)]; exact p1,p2.stays S⟩⟩
   ·rcases lk y _ _ hy with ⟨_,e,_⟩ | ⟨hne,hy⟩
    ·cases e
    ·obtain ⟨a1,c,ov,a2,a3,a4,a5⟩:=F.cel y vy hy
     exact ⟨a1,c,ov,a2,a3,kc c ov (F.notL y vy c hy a2) a4,a5.st S⟩
   ·rcases lk y _ _ hy with ⟨_,e,_⟩ | ⟨hne,hy⟩
    ·cases e
    ·obtain ⟨a1,c,ov,a2,a3,a3',a4,a5⟩:=F.fre y vy hy
     exact ⟨a1,c,ov,a2,a3,a3',kc c ov (fun e=>a3 (e▸F.own)) a4,a5.st S⟩
   ·rcases lk y _ _ hy with ⟨_,e,_⟩ | ⟨hne,hy⟩
    ·cases e
    ·exact F.glo y vy hy
   ·obtain ⟨a1,a2,o,a3,a4⟩:=F.off b hb
    refine .of a1 a2 ?_
    by_cases c:b=env.locals
    ·obtain ⟨o',_,_,e,d,_⟩:=hn'; exact ⟨o',by rw [c]; exact e,by unfold sf; rw [d]⟩
    ·exact ⟨o,hs'.extBut b o c a3,a4⟩
   ·rcases lk y _ _ hy with ⟨_,e,_⟩ | ⟨_,hy⟩
    ·cases e
    ·rcases lk z _ _ hz with ⟨_,e,_⟩ | ⟨_,hz⟩
     ·cases e
     ·exact F.apart y z vy vz c hy hz
   ·rcases lk y _ _ hy with ⟨_,e,_⟩ | ⟨_,hy⟩
    ·cases e
    ·exact F.notL y vy c hy
  | cel=>
   obtain ⟨hk,c0,ov0,hc,ho,hi,_⟩:=F.cel x v0 hl
   refine wpAny_storeName_cell F.kind hk hc hi (fun h' hi' hs'=>?_)
   have hlive:h'.get? c0≠none:=by obtain ⟨o,e,_⟩:=hi'; rw [e]; simp
   have st:Step O s { s with heap:=h',toks:=s.toks }:=step_same hs' ho hlive
   have S:=own_stays F a.rl st
   have kc:∀ c ov,c≠c0→s.heap.IsCell c ov→h'.IsCell c ov:=fun c ov hc z=>cell_of_same z hs' hc
   obtain ⟨m,hn,hm⟩:=F.ns
   have hn':h'.Ns env.locals m:=ns_of_same hn hs' fun e=>F.notL x v0 c0 hl hc e.symm
   refine ⟨_,q,⟨⟨F.kind,F.glob,F.blt,⟨m,hn',fun y vy hy=>?_⟩,fun y vy hy=>?_,fun y vy hy=>?_,fun y vy hy=>?_,F.own,fun b hb=>?_,fun y z vy vz c hy hz=>?_,fun y vy c hy=>?_⟩,own_real F a.rl st,a.room⟩,st⟩
   ·rcases lk y _ _ hy with ⟨_,e,_⟩ | ⟨hne,hy⟩
    ·cases e
    ·obtain ⟨a1,a2⟩:=hm y vy hy
     exact ⟨a1,a2.st S⟩
   ·rcases lk y _ _ hy with ⟨rfl,_,rfl⟩ | ⟨hne,hy⟩
    ·exact ⟨hk,c0,some w,hc,ho,hi',.inr ⟨w,rfl,r.stays S⟩⟩
    ·obtain ⟨a1,c,ov,a2,a3,a4,a5⟩:=F.cel y vy hy
     refine ⟨a1,c,ov,a2,a3,kc c ov (fun e=>?_) a4,a5.st S⟩
     subst e
     exact hne (F.apart y x vy v0 c hy hl a2 hc)
   ·rcases lk y _ _ hy with ⟨_,e,_⟩ | ⟨hne,hy⟩
    ·cases e
    ·obtain ⟨a1,c,ov,a2,a3,a3',a4,a5⟩:=F.fre y vy hy
     exact ⟨a1,c,ov,a2,a3,a3',kc c ov (fun e=>a3 (e▸ho)) a4,a5.st S⟩
   ·rcases lk y _ _ hy with ⟨_,e,_⟩ | ⟨hne,hy⟩
    ·cases e
    ·exact F.glo y vy hy
   ·obtain ⟨a1,a2,o,a3,a4⟩:=F.off b hb
    refine .of a1 a2 ?_
    by_cases c:b=c0
    ·obtain ⟨o',e,d⟩:=hi'; exact ⟨o',by rw [c]; exact e,by unfold sf; rw [d]⟩
    ·exact ⟨o,hs'.extBut b o c a3,a4⟩
   ·have cel:∀ y vy,look (put ρ x v) y=some (.cel,vy)→∃ v',look ρ y=some (.cel,v'):=fun y vy hy=>by
     rcases lk y _ _ hy with ⟨e1,_,_⟩ | ⟨_,hy'⟩
     ·exact ⟨v0,e1▸hl⟩
     ·exact ⟨vy,hy'⟩
    obtain ⟨v1,h1⟩:=cel y vy hy
    obtain ⟨v2,h2⟩:=cel z vz hz
    exact F.apart y z v1 v2 c h1 h2
   ·rcases lk y _ _ hy with ⟨e1,_,_⟩ | ⟨_,hy'⟩
    ·exact F.notL x v0 c hl ∘ fun q=>e1▸q
    ·exact F.notL y vy c hy'
set_option backward.match.sparseCases false in
noncomputable def isNm (s:Str):PySem.Expr→Bool
 | .Name z _=>z==s
 | _=>false
set_option backward.match.sparseCases false in
noncomputable def namesOk:List Nm→List PySem.Expr→Bool
 | [],ys=>ys.isEmpty
 | x::xs,ys=>match ys with | y::ys=>isNm x.s y&&namesOk xs ys | []=>false
set_option backward.match.sparseCases false in
noncomputable def okTc:T→PySem.Expr→Bool
 | .name x,e=>isNm x.s e
 | .tup xs,e=>match e with | .Tuple ys _ _=>namesOk xs ys | _=>false
 | _,_=>false
theorem isNm_inv {s:Str} {y:PySem.Expr} (h:isNm s y=true):∃ p,y=.Name s p:=by
 cases y<;>first | exact ff h | exact ⟨_,by rw [beq_iff_eq.mp (show (_==_)=true from h)]⟩
theorem namesOk_inv {x:Nm} {xs:List Nm} {ys:List PySem.Expr} (h:namesOk (x::xs) ys=true):∃ p zs,ys=.Name x.s p::zs∧namesOk xs zs=true:=by
 cases ys with
 | nil=>exact ff h
 | cons y ys=>
  obtain ⟨h1,h2⟩:=Bool.and_eq_true_iff.mp (show (isNm x.s y&&namesOk xs ys)=true from h)
  obtain ⟨p,rfl⟩:=isNm_inv h1
  exact ⟨p,ys,rfl,h2⟩
theorem okTup_inv {xs:List Nm} {x:PySem.Expr} (h:okTc (.tup xs) x=true):∃ ys c p,x=.Tuple ys c p∧namesOk xs ys=true:=by
 cases x<;>first | exact ff h | exact ⟨_,_,_,rfl,h⟩
theorem okTc_or {t:T} {x:PySem.Expr} (h:okTc t x=true):(∃ y p,t=.name y∧x=.Name y.s p)∨∃ xs ys c p,t=.tup xs∧x=.Tuple ys c p∧namesOk xs ys=true:=by
 cases t with
 | name y=>obtain ⟨p,e⟩:=isNm_inv h; exact .inl ⟨y,p,rfl,e⟩
 | tup xs=>obtain ⟨ys,c,p,e,q⟩:=okTup_inv h; exact .inr ⟨xs,ys,c,p,rfl,e,q⟩
 | _=>exact ff h
theorem names_each (env:Env):∀ (xs:List Nm) (ys:List PySem.Expr),namesOk xs ys=true→(assignEach ys env).length=xs.length∧List.findIdx? (fun x=>x.1) (assignEach ys env)=none
 | [],[],_=>⟨rfl,rfl⟩
 | [],_::_,h=>ff h
 | x::xs,ys,h=>by
  obtain ⟨p,zs,rfl,h'⟩:=namesOk_inv h
  obtain ⟨a,b⟩:=names_each env xs zs h'
  exact ⟨congrArg (· + 1) a,(List.findIdx?_cons ..).trans (by rw [b]; rfl)⟩
theorem put_can {ρ:Ev} {x y:Nm} {v:AV} (h:canPut ρ y=true):canPut (put ρ x v) y=true:=by
 unfold canPut at h ⊢
 rw [look_put]
 by_cases e:y=x
 ·rw [if_pos e]
  subst e
  cases q:look ρ y with
  | none=>rw [q] at h; cases h
  | some kv=>obtain ⟨kd,v'⟩:=kv; rw [q] at h; cases kd<;>first | rfl | cases h
 ·rw [if_neg e]; exact h
theorem many_ok:∀ (xs:List Nm) (ys:List PySem.Expr) (l:List AV) (vs:List Value) (ρ:Ev) (s:Shared) (Q:Ev→Prop),namesOk xs ys=true→At κ k A env O ρ H s→RA s.heap (dm κ H) l vs→l.length=xs.length→(∀ x∈xs,canPut ρ x=true)→Q (putAll ρ xs l)→
  wpAny (model κ.prog κ.w) A (assignInOrder ((assignEach ys env).map (·.2)) vs) (PostA κ k A env O H s Q) NoE s:=by
 intro xs
 induction xs with
 | nil=>
  intro ys l vs ρ s Q ho a ra hl hc q
  cases ys with
  | cons _ _=>exact ff ho
  | nil=>cases ra with
   | cons _ _=>exact absurd hl (Nat.succ_ne_zero _)
   | nil=>exact wpAny_pure ⟨ρ,q,a,.refl _ _⟩
 | cons x xs ih=>
  intro ys l vs ρ s Q ho a ra hl hc q
  obtain ⟨p,zs,rfl,ho'⟩:=namesOk_inv ho
  cases ra with
  | nil=>exact absurd hl.symm (Nat.succ_ne_zero _)
  | @cons v w l vs r ra=>
   show wpAny _ _ (do holding vs (assign (.Name x.s p) env w); assignInOrder ((assignEach zs env).map (·.2)) vs) _ _ _
   refine wpAny_bind (wpAny_holding (wpAny_assign_Name (wpE (store_ok (Q:=fun ρ'=>ρ'=put ρ x v) a r ⟨hc x List.mem_cons_self,rfl⟩) fun _ s' ⟨ρ',e,a',st⟩=>?_)))
   subst e
   exact wpE (ih zs l vs _ s' Q ho' a' (ra.stays (own_stays a.fr a.rl st)) (Nat.succ.inj hl) (fun y hy=>put_can (hc y (List.mem_cons_of_mem _ hy))) q) fun uu uu z=>z.from st
theorem asgC_ok {t:T} {x:PySem.Expr} {v:AV} {w:Value} {Q:Ev→Prop} (ho:okTc t x=true) (a:At κ k A env O ρ H s) (r:R s.heap (dm κ H) v w) (h:asgC t v ρ Q):
  wpAny (model κ.prog κ.w) A (assign x env w) (PostA κ k A env O H s Q) NoE s:=by
 rcases okTc_or ho with ⟨y,p,rfl,rfl⟩ | ⟨ys,es,n,p,rfl,rfl,ho⟩
 ·exact wpAny_assign_Name (store_ok a r h)
 refine byc fun hNN=>?_
 obtain ⟨l,rfl,hl,hnd,hc,q⟩:=h
 obtain ⟨ad,vs,rfl,ht,z,ra⟩:=r.tup_inv
 obtain ⟨f1,f2⟩:=names_each env ys es ho
 refine hNN ?_
 refine assign_Tuple_tuple a.room.hand ht (f1.trans (hl.symm.trans ra.length.symm)) f2 fun h' hk=>?_
 have keep:∀ b o,s.heap.get? b=some o→h'.get? b=some o:=fun b o e=>hk b o (Nat.ne_of_lt (Heap.lt_size e)) e
 have e0:Ext κ H s H { s with heap:=h' }:=Ext.of_keeps (tk:=s.toks) a.rl keep
 exact wpE (many_ok ys es l vs.toList ρ _ Q ho (a.ext e0) (ra.ext a.rl e0) hl hc q) fun uu uu z=>z.from (Step.of_keeps (tk:=s.toks) keep)
end
end Internal
namespace Internal
open PySem PySem.W PyProof.Rows PySem.Calls
noncomputable def Adr.z (κ:Adr) (Z:Addr→Prop):Adr:={ κ with Z:=Z }
noncomputable def owners:List String:=["enumerate","zip","dict_itemiterator","dict_reverseitemiterator","odict_iterator","itertools.zip_longest","itertools.pairwise"]
structure Its (κ:Adr) (A:Around) (H:AH) (s:Shared) (l:List AV) (I:Addr) (fp wr:List Addr) (P:Nat→Value→Prop) (St:Nat→Heap→Prop) (s':Shared):Prop where
 walk:Walks κ.prog κ.w A I fp wr l.length P St
 here:St 0 s'.heap
 same:∃ h' tk,s'={ s with heap:=h',toks:=tk }
 keep:∀ b o,s.heap.get? b=some o→s'.heap.get? b=some o
 new:∀ b∈wr,s.heap.get? b=none
 obj:∀ i h,St i h→∀ b∈wr,∃ o,h.get? b=some o∧sf o=false∧∀ v,o.data≠.cell v
 old:∀ b∈fp,b∉wr→∃ o,s.heap.get? b=some o∧sf o=true∧(o.cls=.type "list" → ¬ dm κ H b)
 itr:∀ i h,St i h→∃ o n,h.get? I=some o∧o.cls=.type n∧owners.contains n=false
 val:∀ i v x,P i v→l[i]?=some x→∀ h D,Stays s.heap (dm κ H) h D→R h D x v
noncomputable def ItPost (κ:Adr) (A:Around) (H:AH) (s:Shared) (l:List AV) (it:Value) (s':Shared):Prop:=∃ I fp wr P St,it=.ref I∧Its κ A H s l I fp wr P St s'
section
variable {A:Around} {κ:Adr} {env:Env} {O:Addr→Prop} {ρ:Ev} {H H₁:AH} {s s₁:Shared} {Γ:Fn→List AV→AH→P1→Prop} {lv:Fn→Nat} {k:Nat}
theorem RA.get' {h:Heap} {D:Addr→Prop}:∀ {l:List AV} {vs:List Value},RA h D l vs→∀ {i:Nat} {x:AV} {v:Value},l[i]?=some x→vs[i]?=some v→R h D x v
 | _,_,.nil,i,x,v,e,_=>by simp at e
 | _,_,.cons h1 r,0,x,v,e,e'=>by simp at e e'; subst e e'; exact h1
 | _,_,.cons _ r,i+1,x,v,e,e'=>r.get' (i:=i) (by simpa using e) (by simpa using e')
theorem iter_ok {v:AV} {w:Value} {l:List AV} (hA:A.handled=none) (r:R s.heap (dm κ H) v w) (h:itemsIt H v=some l):wpAny (model κ.prog κ.w) A (pyIter w) (ItPost κ A H s l) NoE s:=by
 cases v<;>simp only [itemsIt] at h<;>try (cases h; done)
 ·-- a tuple
  cases h
  obtain ⟨a,vs,rfl,ht,z,ra⟩:=r.tup_inv
  have hz:vs.size=l.length:=by have:=ra.length; simpa using this
  have hlt:a < s.heap.objs.size:=by obtain ⟨o,e,_⟩:=ht; exact Heap.lt_size e
  have ht':s.heap.IsTuple a vs:=ht
  refine wpAny_pyIter_tuple ht' ⟨s.heap.objs.size,[s.heap.objs.size,a],[s.heap.objs.size],fun i v=>vs[i]?=some v,fun i h=>h.IsTupleIter s.heap.objs.size a i∧h.IsTuple a vs,rfl,?_⟩
  have W:=Walks.tuple (prog:=κ.prog) (w:=κ.w) hA s.heap.objs.size a (Nat.ne_of_lt hlt) vs
  rw [hz] at W
  refine ⟨W,⟨⟨_,Heap.get?_push_size _ rfl,rfl,rfl⟩,?_⟩,⟨_,s.toks,rfl⟩,fun b o e=>Heap.get?_push_of_some _ e,fun b hb=>?_,fun i h st b hb=>?_,fun b hb hn=>?_,fun i h st=>?_,fun i v x hv hx h D S=>?_⟩
  ·obtain ⟨o,e,r⟩:=ht'; exact ⟨o,Heap.get?_push_of_some _ e,r⟩
  ·rw [List.mem_singleton] at hb; subst hb; exact fresh_none s
  ·rw [List.mem_singleton] at hb; subst hb
   obtain ⟨o,e,c,d⟩:=st.1
   exact ⟨o,e,by unfold sf; rw [d,c]; rfl,fun v q=>by rw [d] at q; cases q⟩
  ·have:b=a:=by
    simp only [List.mem_cons,List.not_mem_nil,or_false] at hb hn
    exact hb.resolve_left hn
   subst this
   obtain ⟨o,e,c,n,d⟩:=ht
   exact ⟨o,e,sf_seq d,fun q=>by rw [c] at q; exact absurd (Value.type.inj q) (by decide)⟩
  ·obtain ⟨o,e,c,d⟩:=st.1
   exact ⟨o,_,e,c,by decide +kernel⟩
  ·exact (ra.get' hx (by simpa using hv)).stays S
 ·cases h
  obtain ⟨a,vs,rfl,hL,hnd,z,ra⟩:=r.lst_inv
  have hz:vs.size=l.length:=by have:=ra.length; simpa using this
  have hlt:a < s.heap.objs.size:=by obtain ⟨o,e,_⟩:=hL; exact Heap.lt_size e
  refine wpAny_pyIter_list hL ⟨s.heap.objs.size,[s.heap.objs.size,a],[s.heap.objs.size],fun i v=>vs[i]?=some v,fun i h=>h.IsListIter s.heap.objs.size a i∧h.IsList a vs,rfl,?_⟩
  have W:=Walks.list (prog:=κ.prog) (w:=κ.w) hA s.heap.objs.size a (Nat.ne_of_lt hlt) vs
  rw [hz] at W
  refine ⟨W,⟨⟨_,Heap.get?_push_size _ rfl,rfl,rfl⟩,hL.push _⟩,⟨_,s.toks,rfl⟩,fun b o e=>Heap.get?_push_of_some _ e,fun b hb=>?_,fun i h st b hb=>?_,fun b hb hn=>?_,fun i h st=>?_,fun i v x hv hx h D S=>?_⟩
  ·rw [List.mem_singleton] at hb; subst hb; exact fresh_none s
  ·rw [List.mem_singleton] at hb; subst hb
   obtain ⟨o,e,c,d⟩:=st.1
   exact ⟨o,e,by unfold sf; rw [d,c]; rfl,fun v q=>by rw [d] at q; cases q⟩
  ·have:b=a:=by
    simp only [List.mem_cons,List.not_mem_nil,or_false] at hb hn
    exact hb.resolve_left hn
   subst this
   obtain ⟨o,e,c,n,d⟩:=hL
   exact ⟨o,e,sf_seq d,fun uu=>hnd⟩
  ·obtain ⟨o,e,c,d⟩:=st.1
   exact ⟨o,_,e,c,by decide +kernel⟩
  ·exact (ra.get' hx (by simpa using hv)).stays S
 ·set_option tactic.hygienic true in split at h
  ·rename_i hb
   cases h
   set_option tactic.hygienic true in cases r with | rng hr=>?_
   rename_i a t u v
   have hz:Builtin.Range.rangeSize lo hi 1=(((upto lo hi).map AV.int).length:Int):=by rw [rangeSize_one]; unfold upto; simp
   have val:∀ (i:Nat) (v:Value) (x:AV),(∃ t,v=Value.int (lo+(i:Int) * 1) t)→((upto lo hi).map AV.int)[i]?=some x→∀ h D,Stays s.heap (dm κ H) h D→R h D x v:=by
    rintro i v x ⟨t,rfl⟩ hx h D S
    simp only [upto,List.map_map,List.getElem?_map,Option.map_eq_some_iff] at hx
    obtain ⟨n,hn,rfl⟩:=hx
    rw [List.getElem?_range (by obtain ⟨hlt,_⟩:=List.getElem?_eq_some_iff.mp hn; simpa using hlt)] at hn
    cases hn
    rw [Int.mul_one]
    exact .int _ _
   by_cases hsm:Builtin.Range.small lo hi 1=true
   ·refine wpAny_pyIter_range hr hsm ⟨s.heap.objs.size,_,_,_,_,rfl,⟨Walks.range hA s.heap.objs.size lo 1 _,?_,⟨_,s.toks,rfl⟩,fun b o e=>Heap.get?_push_of_some _ e,fun b hb=>?_,fun i h st b hb=>?_,fun b hb hn=>absurd hb hn,fun i h st=>⟨_,_,st,rfl,by decide +kernel⟩,val⟩⟩
    ·show IsRangeIter _ _ _ _ _
     have:=Heap.get?_push_size (h:=s.heap) (o:={ cls:=.type "range_iterator",data:=.fields #[rawInt lo,rawInt (Builtin.Range.rangeSize lo hi 1),rawInt 1] }) rfl
     rw [hz] at this ⊢
     simpa using this
    ·rw [List.mem_singleton] at hb; subst hb; exact fresh_none s
    ·rw [List.mem_singleton] at hb; subst hb; exact ⟨_,st,rfl,fun v q=>by cases q⟩
   ·refine wpAny_pyIter_longrange hr (by simpa using hsm) ⟨s.heap.objs.size,_,_,_,_,rfl,⟨Walks.longrange hA s.heap.objs.size lo 1 _,?_,⟨_,s.toks,rfl⟩,fun b o e=>Heap.get?_push_of_some _ e,fun b hb=>?_,fun i h st b hb=>?_,fun b hb hn=>absurd hb hn,fun i h st=>⟨_,_,st,rfl,by decide +kernel⟩,val⟩⟩
    ·show IsLongIter _ _ _ _ _
     have:=Heap.get?_push_size (h:=s.heap) (o:={ cls:=.type "longrange_iterator",data:=.fields #[rawInt lo,rawInt (Builtin.Range.rangeSize lo hi 1),rawInt 1] }) rfl
     rw [hz] at this ⊢
     simpa using this
    ·rw [List.mem_singleton] at hb; subst hb; exact fresh_none s
    ·rw [List.mem_singleton] at hb; subst hb; exact ⟨_,st,rfl,fun v q=>by cases q⟩
  ·cases h
structure Hid (κ:Adr) (W:Addr→Prop) (s:Shared):Prop where
 at_:∀ a,W a→∃ o,s.heap.get? a=some o∧(sf o=true→o.cls=.type "list" ∧ κ.Z a)
structure Inv (κ:Adr) (W:Addr→Prop) (H₂:AH) (s₂:Shared) (H:AH) (s:Shared):Prop where
 real:Real κ H s.heap
 same:∃ h' tk,s={ s₂ with heap:=h',toks:=tk }
 keep:∀ b o,¬ dom H₂ b→¬ W b→s₂.heap.get? b=some o→s.heap.get? b=some o
 live:∀ b,¬ W b→s₂.heap.get? b≠none→s.heap.get? b≠none
 grow:∀ a,dom H a→dom H₂ a∨s₂.heap.get? a=none
structure Base (κ:Adr) (W:Addr→Prop) (H₂:AH) (s₂:Shared):Prop where
 real:Real κ H₂ s₂.heap
 hid:Hid κ W s₂
 off:∀ a,W a→¬ dom H₂ a∧κ.hb.get? a=none
variable {W:Addr→Prop} {H₂:AH} {s₂:Shared}
theorem Inv.start (B:Base κ W H₂ s₂):Inv κ W H₂ s₂ H₂ s₂:=⟨B.real,⟨_,_,rfl⟩,fun uu uu uu uu e=>e,fun uu uu e=>e,fun uu h=>.inl h⟩
theorem Inv.off (B:Base κ W H₂ s₂) (I:Inv κ W H₂ s₂ H s) {a:Addr} (ha:W a):¬ dom H a:=fun hd=>by
 rcases I.grow a hd with h | h
 ·exact (B.off a ha).1 h
 ·obtain ⟨o,e,_⟩:=B.hid.at_ a ha; rw [e] at h; cases h
theorem Inv.stays (B:Base κ W H₂ s₂) (I:Inv κ W H₂ s₂ H s):Stays s₂.heap (dm κ H₂) s.heap (dm κ H):=by
 refine ⟨fun a o e hs hl=>I.keep a o (fun hd=>?_) (fun hw=>?_) e,fun a o e uu uu hn hd=>?_⟩
 ·cases q:H₂ a with
  | none=>exact hd q
  | some ao=>
   obtain ⟨ob,e',c⟩:=(B.real.at_ a ao q).alive
   rw [e] at e'; cases e'
   exact hl (c hs) (.inl hd)
 ·obtain ⟨o',e',q⟩:=B.hid.at_ a hw
  rw [e] at e'; cases e'
  obtain ⟨c,z⟩:=q hs
  exact hl c (.inr z)
 ·rcases hd with hd | hd
  ·rcases I.grow a hd with h | h
   ·exact hn (.inl h)
   ·rw [e] at h; cases h
  ·exact hn (.inr hd)
theorem Inv.ext (B:Base κ W H₂ s₂) (I:Inv κ W H₂ s₂ H s) (hid:Hid κ W s) {H':AH} {s':Shared} (e:Ext κ H s H' s'):Inv κ W H₂ s₂ H' s'∧Hid κ W s':=by
 obtain ⟨⟨h1,t1,rfl⟩,k1,l1⟩:=e.step
 obtain ⟨h0,t0,rfl⟩:=I.same
 refine ⟨⟨e.real,⟨_,_,rfl⟩,fun b o hd hw eo=>?_,fun b hw hl=>l1 b (I.live b hw hl),fun a ha=>?_⟩,⟨fun a ha=>?_⟩⟩
 ·have e1:=I.keep b o hd hw eo
  refine k1 b o (fun q=>?_) e1
  rcases I.grow b q with h | h
  ·exact hd h
  ·rw [eo] at h; cases h
 ·rcases e.grow a ha with h | h
  ·exact I.grow a h
  ·cases q:s₂.heap.get? a with
   | none=>exact .inr rfl
   | some o=>
    exfalso
    by_cases hw:W a
    ·obtain ⟨o',e',_⟩:=hid.at_ a hw; rw [e'] at h; cases h
    ·exact I.live a hw (by rw [q]; simp) h
 ·obtain ⟨o,eo,q⟩:=hid.at_ a ha
  exact ⟨o,k1 a o (Inv.off B I ha) eo,q⟩
theorem Inv.poke (B:Base κ W H₂ s₂) (I:Inv κ W H₂ s₂ H s) (hid:Hid κ W s) {h':Heap} {tk:Nat} (hk:∀ b o,¬ W b→s.heap.get? b=some o→h'.get? b=some o) (hz:∀ a,κ.Z a→h'.get? a≠none):
  Inv κ W H₂ s₂ H { s with heap:=h',toks:=tk }∧Stays s.heap (dm κ H) h' (dm κ H):=by
 have S:Stays s.heap (dm κ H) h' (dm κ H):=⟨fun a o e hs hl=>hk a o (fun hw=>by
  obtain ⟨o',e',q⟩:=hid.at_ a hw
  rw [e] at e'; cases e'
  obtain ⟨c,z⟩:=q hs
  exact hl c (.inr z)) e,fun uu uu uu uu uu h=>h⟩
 obtain ⟨h0,t0,rfl⟩:=I.same
 refine ⟨⟨⟨fun a o e=>(I.real.at_ a o e).stays S fun ob eo=>hk a ob (fun hw=>Inv.off B I hw (by rw [dom,e]; simp)) eo,fun b o e=>hk b o (fun hw=>by rw [(B.off b hw).2] at e; cases e) (I.real.base b o e),I.real.off,hz⟩,
  ⟨_,_,rfl⟩,fun b o hd hw e=>hk b o hw (I.keep b o hd hw e),fun b hw hl=>live_of (I.live b hw hl) fun o e=>hk b o hw e,I.grow⟩,S⟩
end
end Internal
namespace Internal
open PySem PySem.W PyProof.Rows PySem.Calls
theorem Stays.trans {h h' h'':Heap} {D D' D'':Addr→Prop} (x:Stays h D h' D') (y:Stays h' D' h'' D''):Stays h D h'' D'':=
 ⟨fun a o e hs hl=>y.obj a o (x.obj a o e hs hl) hs fun c=>x.dom a o e hs c (hl c),fun a o e hs c hd=>y.dom a o (x.obj a o e hs fun uu=>hd) hs c (x.dom a o e hs c hd)⟩
section
variable {A:Around} {κ:Adr} {env:Env} {O:Addr→Prop} {ρ:Ev} {H H₁:AH} {s s₁:Shared} {Γ:Fn→List AV→AH→P1→Prop} {lv:Fn→Nat} {k:Nat}
variable {W:Addr→Prop} {H₂:AH} {s₂:Shared}
theorem Inv.go (B:Base κ W H₂ s₂) (I:Inv κ W H₂ s₂ H s) (hid:Hid κ W s) {H':AH} {s':Shared} (rl:Real κ H' s'.heap) (st:Step (fun a=>dom H a∨W a) s s') (g:Grow (dom H) s (dom H')):Inv κ W H₂ s₂ H' s':=by
 obtain ⟨⟨h1,t1,rfl⟩,k1,l1⟩:=st
 obtain ⟨h0,t0,rfl⟩:=I.same
 refine ⟨rl,⟨_,_,rfl⟩,fun b o hd hw eo=>?_,fun b hw hl=>l1 b (I.live b hw hl),fun a ha=>?_⟩
 ·refine k1 b o (fun q=>q.elim (fun q=>?_) hw) (I.keep b o hd hw eo)
  rcases I.grow b q with h | h
  ·exact hd h
  ·rw [eo] at h; cases h
 ·rcases g a ha with h | h
  ·exact I.grow a h
  ·cases q:s₂.heap.get? a with
   | none=>exact .inr rfl
   | some o=>
    exfalso
    by_cases hw:W a
    ·obtain ⟨o',e',_⟩:=hid.at_ a hw; rw [e'] at h; cases h
    ·exact I.live a hw (by rw [q]; simp) h
theorem fp_off {κ₀:Adr} {l:List AV} {It:Addr} {fp wr:List Addr} {P:Nat→Value→Prop} {St:Nat→Heap→Prop} {s₁':Shared} (B:Base κ W H₂ s₂) (I:Inv κ W H₂ s₂ H s) (its:Its κ₀ A H₂ s₁ l It fp wr P St s₁')
  (R1:Real κ₀ H₂ s₁.heap) (hw:∀ b∈wr,W b) (k12:∀ b o,s₁.heap.get? b=some o→s₂.heap.get? b=some o):∀ b∈fp,¬ dom H b∧(b∉wr→∃ o,s₂.heap.get? b=some o∧sf o=true):=by
 intro b hb
 by_cases c:b∈wr
 ·exact ⟨Inv.off B I (hw b c),fun q=>absurd c q⟩
 ·obtain ⟨o,e,q,hl⟩:=its.old b hb c
  refine ⟨fun hd=>?_,fun uu=>⟨o,k12 b o e,q⟩⟩
  rcases I.grow b hd with h | h
  ·cases r:H₂ b with
   | none=>exact h r
   | some ao=>
    obtain ⟨ob,e',cl⟩:=(R1.at_ b ao r).alive
    rw [e] at e'; cases e'
    exact hl (cl q) (.inl h)
  ·rw [k12 b o e] at h; cases h
theorem next_ok {κ₀:Adr} {l:List AV} {It:Addr} {fp wr:List Addr} {P:Nat→Value→Prop} {St:Nat→Heap→Prop} {s₁':Shared} {i:Nat} {Qn:Option Value→Shared→Prop} (B:Base κ W H₂ s₂) (I:Inv κ W H₂ s₂ H s) (hid:Hid κ W s)
  (its:Its κ₀ A H₂ s₁ l It fp wr P St s₁') (ep:κ₀.prog=κ.prog) (ew:κ₀.w=κ.w) (hw:∀ b∈wr,W b) (hz:∀ b∈wr,¬ κ.Z b) (S12:Stays s₁.heap (dm κ₀ H₂) s₂.heap (dm κ H₂)) (st:St i s.heap) (hi:i≤l.length)
  (h1:∀ x v h' tk,l[i]?=some x→R h' (dm κ H) x v→Inv κ W H₂ s₂ H { s with heap:=h',toks:=tk }→Hid κ W { s with heap:=h',toks:=tk }→St (i+1) h'→(∀ b o,b∉wr→s.heap.get? b=some o→h'.get? b=some o)→Stays s.heap (dm κ H) h' (dm κ H)→Qn (some v) { s with heap:=h',toks:=tk })
  (h2:i=l.length→∀ h' tk,Inv κ W H₂ s₂ H { s with heap:=h',toks:=tk }→(∀ b o,b∉wr→s.heap.get? b=some o→h'.get? b=some o)→Stays s.heap (dm κ H) h' (dm κ H)→Qn none { s with heap:=h',toks:=tk }):
  wpAny (model κ.prog κ.w) A (pyNext (.ref It)) Qn NoE s:=by
 have Wk:=its.walk
 rw [ep,ew] at Wk
 have zlive:∀ h':Heap,(∀ b o,b∉wr→s.heap.get? b=some o→h'.get? b=some o)→∀ a,κ.Z a→h'.get? a≠none:=fun h' hk a z=>
  live_of (I.real.zl a z) fun o e=>hk a o (fun q=>hz a q z) e
 by_cases c:i < l.length
 ·refine Wk.item i s _ _ c st fun v h' tk hP hst hk=>?_
  obtain ⟨I',S'⟩:=I.poke (tk:=tk) B hid (fun b o hb e=>hk b o (fun q=>hb (hw b q)) e) (zlive h' hk)
  have hx:l[i]?=some l[i]:=List.getElem?_eq_getElem c
  refine h1 _ v h' tk hx (its.val i v _ hP hx _ _ (S12.trans (Inv.stays B I'))) I' ⟨fun a ha=>?_⟩ hst hk S'
  by_cases q:a∈wr
  ·obtain ⟨o,e,hs,_⟩:=its.obj (i+1) h' hst a q
   exact ⟨o,e,fun t=>by rw [hs] at t; cases t⟩
  ·obtain ⟨o,e,hs⟩:=hid.at_ a ha
   exact ⟨o,hk a o q e,hs⟩
 ·have hi':i=l.length:=by exact l20 18523599535886219778 rfl hi c
  subst hi'
  refine Wk.done s _ _ st fun h' tk hk=>?_
  obtain ⟨I',S'⟩:=I.poke (tk:=tk) B hid (fun b o hb e=>hk b o (fun q=>hb (hw b q)) e) (zlive h' hk)
  exact h2 rfl h' tk I' hk S'
set_option backward.match.sparseCases false in
noncomputable def okSc (sc:List (Nm×SK)) (scope:Scope):Bool:=
 (scope.kind==.function)&&
 (scope.names.all fun p=>match p.2 with
  | .local=>scope.names.lookup p.1==some .local
  | .free=>sc.any fun q=>q.2==.fre&&q.1.s==p.1
  | .globalImplicit=>true
  | _=>false)&&
 sc.all fun p=>match p.2 with
  | .loc=>scope.names.lookup p.1.s==some .local
  | .fre=>scope.names.lookup p.1.s==some .free
  | .glo=>scope.names.lookup p.1.s==some .globalImplicit
  | .cel=>false
theorem lookup_relabel {env:Env} (names:List (Str×NameKind)) (x:Str):
  (names.map fun (n,k)=>if (k==NameKind.free&&env.scope.kind==.function&&env.kindOf n==some .cell) then (n,NameKind.cell) else (n,k)).lookup x=
   (names.lookup x).map fun k=>if (k==NameKind.free&&env.scope.kind==.function&&env.kindOf x==some .cell) then NameKind.cell else k:=by
 induction names with
 | nil=>rfl
 | cons p r ih=>
  obtain ⟨n,k⟩:=p
  show List.lookup x ((if (k==NameKind.free&&env.scope.kind==.function&&env.kindOf n==some .cell)=true then (n,NameKind.cell) else (n,k))::_)=_
  cases hx:x==n with
  | true=>
   have:x=n:=by simpa using hx
   subst this
   by_cases hc:(k==NameKind.free&&env.scope.kind==.function&&env.kindOf x==some .cell)=true
   ·rw [if_pos hc]; simp only [List.lookup_cons,hx,Option.map_some]; rw [if_pos hc]
   ·rw [if_neg hc]; simp only [List.lookup_cons,hx,Option.map_some]; rw [if_neg hc]
  | false=>
   by_cases hc:(k==NameKind.free&&env.scope.kind==.function&&env.kindOf n==some .cell)=true
   ·rw [if_pos hc]; simp only [List.lookup_cons,hx]; exact ih
   ·rw [if_neg hc]; simp only [List.lookup_cons,hx]; exact ih
set_option backward.match.sparseCases false in
noncomputable def closOf (cells:List (Str×Addr)):List (Str×NameKind)→List (Str×Addr)→List (Str×Addr)
 | [],cs=>cs
 | (n,k)::r,cs=>if k==.free then closOf cells r ((n,(cells.lookup n).getD 0)::cs) else closOf cells r cs
theorem closure_of {scope:Scope} (h:∀ p∈scope.names,p.2=.free→(env.cells.lookup p.1).isSome=true):closureFor scope env=pure (closOf env.cells scope.names []):=by
 have go:∀ (names:List (Str×NameKind)) (cs:List (Str×Addr)),(∀ p∈names,p.2=.free→(env.cells.lookup p.1).isSome=true)→
   (forIn names cs fun (x:Str×NameKind) cs=>(match x with
    | (name,kind)=>if (kind==.free)=true then do
      let c ← cellOf env name
      pure (ForInStep.yield ((name,c)::cs))
     else pure (ForInStep.yield cs):Sem (ForInStep (List (Str×Addr)))))=pure (closOf env.cells names cs):=by
  intro names
  induction names with
  | nil=>intro cs _; rfl
  | cons p r ih=>
   intro cs hp
   obtain ⟨n,kd⟩:=p
   rw [List.forIn_cons]
   have hr:=fun cs=>ih cs fun p hp'=>hp p (List.mem_cons_of_mem _ hp')
   unfold closOf
   by_cases c:(kd==NameKind.free)=true
   ·rw [if_pos c]
    obtain ⟨a,ha⟩:=Option.isSome_iff_exists.mp (hp (n,kd) (List.mem_cons_self ..) (by simpa using c))
    have hcell:cellOf env n=pure a:=by unfold cellOf; rw [ha]
    simp only [c,if_true,hcell,pure_bind]
    rw [hr,ha]; rfl
   ·rw [if_neg c]
    simp only [c,if_false,pure_bind,Bool.false_eq_true]
    exact hr cs
 unfold closureFor
 simp only [bind_pure]
 exact go scope.names [] h
theorem clos_lookup (cells:List (Str×Addr)) (x:Str) (a:Addr) (ha:cells.lookup x=some a):∀ (names:List (Str×NameKind)) (cs:List (Str×Addr)),((x,NameKind.free)∈names∨cs.lookup x=some a)→(closOf cells names cs).lookup x=some a:=by
 intro names
 induction names with
 | nil=>intro cs h; exact h.resolve_left (by simp)
 | cons p r ih=>
  intro cs h
  obtain ⟨n,kd⟩:=p
  unfold closOf
  by_cases c:(kd==NameKind.free)=true
  ·rw [if_pos c]
   refine ih _ ?_
   by_cases e:x=n
   ·subst e; right; simp [List.lookup_cons,ha]
   ·rcases h with h | h
    ·rcases List.mem_cons.mp h with h | h
     ·cases h; exact absurd rfl e
     ·exact .inl h
    ·right
     have:(x==n)=false:=by simpa using e
     simp only [List.lookup_cons,this]; exact h
  ·rw [if_neg c]
   refine ih _ ?_
   rcases h with h | h
   ·rcases List.mem_cons.mp h with h | h
    ·cases h; simp at c
    ·exact .inl h
   ·exact .inr h
theorem mem_of_lookup' {names:List (Str×NameKind)} {x:Str} {kd:NameKind} (h:names.lookup x=some kd):(x,kd)∈names:=by
 induction names with
 | nil=>simp at h
 | cons p r ih=>
  obtain ⟨n,k'⟩:=p
  by_cases e:x=n
  ·subst e; simp at h; subst h; exact List.mem_cons_self ..
  ·have:(x==n)=false:=by simpa using e
   simp only [List.lookup_cons,this] at h
   exact List.mem_cons_of_mem _ (ih h)
theorem look_comp (x:Nm):∀ (sc:List (Nm×SK)) (ρ:Ev) {kd:SK} {v:AV},look (compρ sc ρ) x=some (kd,v)→(x,kd)∈sc∧(kd≠.fre→v=.unb)∧(kd=.fre→v=slotV (look ρ x))
 | [],ρ,kd,v,h=>by simp [compρ,look] at h
 | (y,k')::r,ρ,kd,v,h=>by
  have rest:∀ {kd v},look (compρ r ρ) x=some (kd,v)→(x,kd)∈(y,k')::r∧(kd≠.fre→v=.unb)∧(kd=.fre→v=slotV (look ρ x)):=fun h=>by
   obtain ⟨a,b⟩:=look_comp x r ρ h
   exact ⟨List.mem_cons_of_mem _ a,b⟩
  cases k'<;>(simp only [compρ,look] at h; by_cases e:y=x)<;>first
   | (subst e; simp only [if_true,Option.some.injEq,Prod.mk.injEq] at h; obtain ⟨rfl,rfl⟩:=h; exact ⟨List.mem_cons_self ..,by simp,by simp⟩)
   | (rw [if_neg e] at h; exact rest h)
theorem okSc_of {sc:List (Nm×SK)} {scope:Scope} (h:okSc sc scope=true):scope.kind=.function∧
  (∀ p∈scope.names,(p.2=.local→scope.names.lookup p.1=some .local)∧(p.2=.free→∃ x,(x,SK.fre)∈sc∧x.s=p.1)∧p.2≠.cell)∧
  ∀ p∈sc,(p.2=.loc→scope.names.lookup p.1.s=some .local)∧(p.2=.fre→scope.names.lookup p.1.s=some .free)∧(p.2=.glo→scope.names.lookup p.1.s=some .globalImplicit)∧p.2≠.cel:=by
 unfold okSc at h
 simp only [Bool.and_eq_true,beq_iff_eq,List.all_eq_true] at h
 obtain ⟨⟨h1,h2⟩,h3⟩:=h
 refine ⟨h1,fun p hp=>?_,fun p hp=>?_⟩
 ·have:=h2 p hp
  obtain ⟨n,kd⟩:=p
  cases kd<;>simp only at this
  ·exact ⟨fun uu=>by simpa using this,fun q=>(by cases q),by simp⟩
  ·cases this
  ·refine ⟨fun q=>(by cases q),fun uu=>?_,by simp⟩
   obtain ⟨q,hq,e⟩:=List.any_eq_true.mp this
   simp only [Bool.and_eq_true,beq_iff_eq] at e
   obtain ⟨x,kk⟩:=q
   obtain ⟨rfl,e2⟩:=e
   exact ⟨x,hq,e2⟩
  ·cases this
  ·exact ⟨fun q=>(by cases q),fun q=>(by cases q),by simp⟩
 ·have:=h3 p hp
  obtain ⟨n,kd⟩:=p
  cases kd<;>simp only at this
  ·exact ⟨fun uu=>by simpa using this,fun q=>(by cases q),fun q=>(by cases q),by simp⟩
  ·cases this
  ·exact ⟨fun q=>(by cases q),fun uu=>by simpa using this,fun q=>(by cases q),by simp⟩
  ·exact ⟨fun q=>(by cases q),fun q=>(by cases q),fun uu=>by simpa using this,by simp⟩
theorem freOk_of {sc:List (Nm×SK)} {ρ:Ev} (h:freOk sc ρ=true) {x:Nm} (hx:(x,SK.fre)∈sc):∃ v,look ρ x=some (.cel,v)∨look ρ x=some (.fre,v):=by
 have:=List.all_eq_true.mp h (x,.fre) hx
 simp only at this
 cases q:look ρ x with
 | none=>rw [q] at this; cases this
 | some kv=>
  obtain ⟨kd,v⟩:=kv
  rw [q] at this
  cases kd
  ·cases this
  ·exact ⟨v,.inl rfl⟩
  ·exact ⟨v,.inr rfl⟩
  ·cases this
theorem Frame.cell_of (F:Frame κ env O ρ H s.heap) {x:Nm} {v:AV} (h:look ρ x=some (.cel,v)∨look ρ x=some (.fre,v)):
  (env.kindOf x.s=some .free∨env.kindOf x.s=some .cell)∧∃ c ov,env.cells.lookup x.s=some c∧¬ dom H c∧s.heap.IsCell c ov∧(v=.unb∨∃ w,ov=some w∧R s.heap (dm κ H) v w):=by
 rcases h with h | h
 ·obtain ⟨a,c,ov,b,d,e,f⟩:=F.cel x v h
  exact ⟨.inr a,c,ov,b,(F.off c d).d,e,f⟩
 ·obtain ⟨a,c,ov,b,_,d,e,f⟩:=F.fre x v h
  exact ⟨a,c,ov,b,d,e,f⟩
theorem clos_ok (F:Frame κ env O ρ H s.heap) {sc:List (Nm×SK)} {scope:Scope} (hs:okSc sc scope=true) (hf:freOk sc ρ=true):closureFor scope env=pure (closOf env.cells scope.names []):=by
 refine byc fun hNN=>?_
 obtain ⟨_,h2,_⟩:=okSc_of hs
 refine hNN ?_
 refine closure_of fun p hp q=>?_
 refine byc fun hNN=>?_
 obtain ⟨x,hx,e⟩:=(h2 p hp).2.1 q
 obtain ⟨v,hv⟩:=freOk_of hf hx
 obtain ⟨_,c,_,hc,_⟩:=F.cell_of hv
 refine hNN ?_
 rw [← e,hc]; rfl
theorem comp_frame (F:Frame κ env O ρ H s.heap) {sc:List (Nm×SK)} {scope:Scope} (hs:okSc sc scope=true) (hf:freOk sc ρ=true) {C:Addr} {m:Str→Option Value} (hC:s.heap.Ns C m) (hd:¬ dom H C) (hb:κ.hb.get? C=none):
  Frame κ (compEnvC scope (closOf env.cells scope.names []) C env) (fun a=>a=C) (compρ sc ρ) H s.heap:=by
 obtain ⟨h1,h2,h3⟩:=okSc_of hs
 have kind:∀ x,(compEnvC scope (closOf env.cells scope.names []) C env).kindOf x=(scope.names.lookup x).map fun k=>if (k==NameKind.free&&env.scope.kind==.function&&env.kindOf x==some .cell) then NameKind.cell else k:=fun x=>lookup_relabel scope.names x
 have noC:∀ c ov,s.heap.IsCell c ov→c≠C:=fun c ov ⟨o,e,d⟩ q=>by
  obtain ⟨o',_,_,e',d',_⟩:=hC
  subst q; rw [e] at e'; cases e'; rw [d] at d'; cases d'
 refine ⟨h1,F.glob,F.blt,⟨m,hC,fun x v hx=>?_⟩,fun x v hx=>?_,fun x v hx=>?_,fun x v hx=>?_,rfl,fun a ha=>?_,fun x y vx vy c hx=>?_,fun x vx c hx=>?_⟩
 ·obtain ⟨a,b,_⟩:=look_comp x sc ρ hx
  have:=(h3 _ a).1 rfl
  exact ⟨by rw [kind,this]; rfl,.inl (b (by simp))⟩
 ·exact absurd rfl (h3 _ (look_comp x sc ρ hx).1).2.2.2
 ·obtain ⟨a,_,b⟩:=look_comp x sc ρ hx
  have hl:=(h3 _ a).2.1 rfl
  obtain ⟨v',hv⟩:=freOk_of hf a
  have e:v=v':=by rw [b rfl]; rcases hv with hv | hv<;>(rw [hv]; rfl)
  subst e
  obtain ⟨k1,c,ov,hc,hdc,hi,hr⟩:=F.cell_of hv
  refine ⟨?_,c,ov,clos_lookup _ _ c hc _ _ (.inl (mem_of_lookup' hl)),noC c ov hi,hdc,hi,hr⟩
  rw [kind,hl]
  simp only [Option.map_some]
  split
  ·exact .inr rfl
  ·exact .inl rfl
 ·obtain ⟨a,_⟩:=look_comp x sc ρ hx
  have hl:=(h3 _ a).2.2.1 rfl
  rw [kind,hl]; rfl
 ·subst ha
  obtain ⟨o,_,_,e,d,_⟩:=hC
  exact ⟨hd,hb,o,e,by unfold sf; rw [d]⟩
 ·exact absurd rfl (h3 _ (look_comp x sc ρ hx).1).2.2.2
 ·exact absurd rfl (h3 _ (look_comp x sc ρ hx).1).2.2.2
end
end Internal
namespace Internal
open PySem PySem.W PyProof.Rows PySem.Calls
section
variable {M:Model} {A:Around} {E:Value→Shared→Prop} {s:Shared}
theorem letOwned_ok {t:T} {target:PySem.Expr} {I:Addr} {v:Value} {o:Obj} {n:String} {Q:Unit→Shared→Prop} (ht:okTc t target=true) (ho:s.heap.get? I=some o) (hc:o.cls=.type n) (hn:owners.contains n=false) (h:Q () s):
  wpAny M A (letOwnedTupleGo target (.ref I) v) Q E s:=by
 have go:wpAny M A (do
  let (.ref r,.ref a):=(Value.ref I,v) | return
  let o ← load r
  match o.cls,o.data with
  | .type n,.fields vs=>
   if owners.contains n&&vs[0]?==some (rawInt a) then
    rule "for.unpacks-the-owned-tuple"
    updateField r 0 .none
  | _,_=>pure ()) Q E s:=by
  cases v<;>try exact wpAny_pure h
  refine wpAny_bind (wpAny_load ho ?_)
  rw [hc]
  cases o.data<;>try exact wpAny_pure h
  dsimp only
  rw [hn]
  simp only [Bool.false_and,Bool.false_eq_true,if_false]
  exact wpAny_pure h
 rcases okTc_or ht with ⟨_,_,rfl,rfl⟩ | ⟨_,_,_,_,rfl,rfl,_⟩
 ·exact wpAny_pure h
 ·exact go
end
section
variable {A:Around} {κ:Adr} {env:Env} {O:Addr→Prop} {ρ:Ev} {H H₁:AH} {s s₁:Shared} {Γ:Fn→List AV→AH→P1→Prop} {lv:Fn→Nat} {k:Nat}
set_option backward.match.sparseCases false in
noncomputable def SAll (κ:Adr) (Γ:Fn→List AV→AH→P1→Prop) (lv:Fn→Nat) (k:Nat) (es:Es) (xs:List PySem.Expr):Prop:=
 ∀ A env O ρ H s Q b,At κ k A env O ρ H s→(b=true→trAll Γ lv k es ρ H Q)→(b=false→Q false H)→
  wpAny (model κ.prog κ.w) A (forIn xs b fun c r=>if r=true then do let ok ← isTrue c env (eval c env); pure (ForInStep.yield ok) else pure (ForInStep.yield r)) (PostB κ H s Q) NoE s
theorem all_nil:SAll κ Γ lv k .nil []:=fun A env O ρ H s Q b a h1 h2=>by
 rw [List.forIn_nil]
 cases b with
 | true=>exact wpAny_pure ⟨H,h1 rfl,.refl a.rl⟩
 | false=>exact wpAny_pure ⟨H,h2 rfl,.refl a.rl⟩
theorem all_cons {e:E} {es:Es} {x:PySem.Expr} {xs:List PySem.Expr} (h:ST κ Γ lv k e x) (hr:SAll κ Γ lv k es xs):SAll κ Γ lv k (.cons e es) (x::xs):=fun A env O ρ H s Q b a h1 h2=>by
 rw [List.forIn_cons]
 cases b with
 | true=>
  simp only [if_true]
  refine wpAny_bind (wpAny_bind (h.go a (h1 rfl) fun t H₁ s₁ q e1=>wpAny_pure ?_))
  exact wpE (hr A env O ρ H₁ s₁ Q t (a.ext e1) q.1 q.2) fun uu uu z=>z.from e1
 | false=>
  simp only [Bool.false_eq_true,if_false]
  refine wpAny_bind (wpAny_pure ?_)
  exact hr A env O ρ H s Q false a (fun q=>by cases q) h2
set_option backward.match.sparseCases false in
noncomputable def turnOf (p:Pos) (target:PySem.Expr) (ifs:List PySem.Expr) (elt:PySem.Expr) (it acc:Value) (env:Env) (c:Code):Sem PySem.Fin:=do
 standAt p
 match ← pyNext it with
 | none=>pure (.done .next)
 | some v=>
  letOwnedTupleGo target it v
  assign target env v
  let mut ok:=true
  for c in ifs do
   if ok then ok ← isTrue c env (eval c env)
  if ok then
   (do let _ ← call (.builtin "list.append") [acc,← eval elt env])
  again c
set_option backward.match.sparseCases false in
noncomputable def stepC (Γ:Fn→List AV→AH→P1→Prop) (lv:Fn→Nat) (k:Nat) (elt:E) (t:T) (ifs:Es) (ρ:Ev) (x:AV) (acc:List AV) (H2:AH) (C:PL):Prop:=
 asgC t x ρ fun ρ1=>trAll Γ lv k ifs ρ1 H2 fun b H3=>(b=true→trE Γ lv k elt ρ1 H3 fun v H4=>acc.length < LIM∧C (acc++[v]) H4)∧(b=false→C acc H3)
structure CompAt (κ:Adr) (D:Addr) (H:AH) (s:Shared) (acc:List AV):Prop where
 list:∃ vs n,s.heap.get? D=some { cls:=.type "list",data:=.seq vs n }∧RA s.heap (dm κ H) acc vs.toList
 len:acc.length≤LIM
theorem Frame.inv {W:Addr→Prop} {H₂:AH} {s₂:Shared} (F:Frame κ env O ρ H₂ s₂.heap) (B:Base κ W H₂ s₂) (I:Inv κ W H₂ s₂ H s) (hO:∀ a,W a→¬ O a) (hc:∀ a ov,W a→¬ s₂.heap.IsCell a ov):Frame κ env O ρ H s.heap:=by
 have S:=Inv.stays B I
 have k:∀ a o,¬ dom H₂ a→¬ W a→s₂.heap.get? a=some o→s.heap.get? a=some o:=I.keep
 have kc:∀ c ov,¬ dom H₂ c→s₂.heap.IsCell c ov→s.heap.IsCell c ov:=fun c ov hd x=>have hw:=fun q=>hc c ov q x; let ⟨o,eo,d⟩:=x; ⟨o,k c o hd hw eo,d⟩
 have hOW:∀ a,O a→¬ W a:=fun a h q=>hO a q h
 refine ⟨F.kind,F.glob,F.blt,?_,fun x v hx=>?_,fun x v hx=>?_,F.glo,F.own,fun a ha=>?_,F.apart,F.notL⟩
 ·obtain ⟨m,hn,hm⟩:=F.ns
  exact ⟨m,hn.at' fun o e=>k _ o (F.off _ F.own).d (hOW _ F.own) e,fun x v hx=>⟨(hm x v hx).1,(hm x v hx).2.st S⟩⟩
 ·obtain ⟨a,c,ov,b,d,i,r⟩:=F.cel x v hx
  exact ⟨a,c,ov,b,d,kc c ov (F.off c d).d i,r.st S⟩
 ·obtain ⟨a,c,ov,b,d,d',i,r⟩:=F.fre x v hx
  refine ⟨a,c,ov,b,d,fun hd=>?_,kc c ov d' i,r.st S⟩
  obtain ⟨o,eo,_⟩:=cell_sf i
  rcases I.grow c hd with h | h
  ·exact d' h
  ·rw [eo] at h; cases h
 ·obtain ⟨a1,a2,o,a3,a4⟩:=F.off a ha
  refine ⟨fun hd=>?_,a2,o,k a o a1 (hOW a ha) a3,a4⟩
  rcases I.grow a hd with h | h
  ·exact a1 h
  ·rw [a3] at h; cases h
theorem Frame.poke (F:Frame κ env O ρ H s.heap) {h':Heap} (S:Stays s.heap (dm κ H) h' (dm κ H)) (V:Addr→Prop) (hk:∀ b o,¬ V b→s.heap.get? b=some o→h'.get? b=some o) (hO:∀ a,V a→¬ O a) (hc:∀ a ov,V a→¬ s.heap.IsCell a ov):Frame κ env O ρ H h':=by
 have kc:∀ c ov,s.heap.IsCell c ov→h'.IsCell c ov:=fun c ov x=>have hw:=fun q=>hc c ov q x; let ⟨o,eo,d⟩:=x; ⟨o,hk c o hw eo,d⟩
 refine ⟨F.kind,F.glob,F.blt,?_,fun x v hx=>?_,fun x v hx=>?_,F.glo,F.own,fun a ha=>?_,F.apart,F.notL⟩
 ·obtain ⟨m,hn,hm⟩:=F.ns
  exact ⟨m,hn.at' fun o e=>hk _ o (fun q=>hO _ q F.own) e,fun x v hx=>⟨(hm x v hx).1,(hm x v hx).2.st S⟩⟩
 ·obtain ⟨a,c,ov,b,d,i,r⟩:=F.cel x v hx
  exact ⟨a,c,ov,b,d,kc c ov i,r.st S⟩
 ·obtain ⟨a,c,ov,b,d,d',i,r⟩:=F.fre x v hx
  exact ⟨a,c,ov,b,d,d',kc c ov i,r.st S⟩
 ·obtain ⟨a1,a2,o,a3,a4⟩:=F.off a ha
  exact ⟨a1,a2,o,hk a o (fun q=>hO a q ha) a3,a4⟩
set_option backward.match.sparseCases false in
noncomputable def Less (ρ ρ':Ev):Prop:=∀ x kd v,look ρ x=some (kd,v)→∃ v',look ρ' x=some (kd,v')∧(v=.unb∨v=v')
theorem Frame.forget {ρ':Ev} {h:Heap} (F:Frame κ env O ρ' H h) (hl:Less ρ ρ'):Frame κ env O ρ H h:=by
 refine ⟨F.kind,F.glob,F.blt,?_,fun x v hx=>?_,fun x v hx=>?_,fun x v hx=>?_,F.own,F.off,fun x y vx vy c hx hy=>?_,fun x vx c hx=>?_⟩
 ·obtain ⟨m,hn,hm⟩:=F.ns
  refine ⟨m,hn,fun x v hx=>?_⟩
  refine byc fun hNN=>?_
  obtain ⟨v',hv,e⟩:=hl x _ v hx
  refine hNN ?_
  refine ⟨(hm x v' hv).1,?_⟩
  rcases e with e | rfl
  ·exact .inl e
  ·exact (hm x _ hv).2
 ·obtain ⟨v',hv,e⟩:=hl x _ v hx
  refine byc fun hNN=>?_
  obtain ⟨a,c,ov,b,d,i,r⟩:=F.cel x v' hv
  refine hNN ?_
  refine ⟨a,c,ov,b,d,i,?_⟩
  rcases e with e | rfl
  ·exact .inl e
  ·exact r
 ·obtain ⟨v',hv,e⟩:=hl x _ v hx
  refine byc fun hNN=>?_
  obtain ⟨a,c,ov,b,d,d',i,r⟩:=F.fre x v' hv
  refine hNN ?_
  refine ⟨a,c,ov,b,d,d',i,?_⟩
  rcases e with e | rfl
  ·exact .inl e
  ·exact r
 ·obtain ⟨v',hv,_⟩:=hl x _ v hx
  exact F.glo x v' hv
 ·obtain ⟨v1,h1,_⟩:=hl x _ vx hx
  refine byc fun hNN=>?_
  obtain ⟨v2,h2,_⟩:=hl y _ vy hy
  refine hNN ?_
  exact F.apart x y v1 v2 c h1 h2
 ·obtain ⟨v1,h1,_⟩:=hl x _ vx hx
  exact F.notL x v1 c h1
theorem Less.trans {ρ ρ' ρ'':Ev} (x:Less ρ ρ') (y:Less ρ' ρ''):Less ρ ρ'':=fun a kd v h=>by
 refine byc fun hNN=>?_
 obtain ⟨v1,h1,e1⟩:=x a kd v h
 obtain ⟨v2,h2,e2⟩:=y a kd v1 h1
 refine hNN ?_
 refine ⟨v2,h2,?_⟩
 rcases e1 with e1 | rfl
 ·exact .inl e1
 ·exact e2
set_option backward.match.sparseCases false in
noncomputable def tNames:T→List Nm
 | .name x=>[x]
 | .tup xs=>xs
 | _=>[]
set_option backward.match.sparseCases false in
noncomputable def Unb (t:T) (ρ:Ev):Prop:=∀ x∈tNames t,∀ kd v,look ρ x=some (kd,v)→v=.unb
theorem less_put {ρ₀ ρ:Ev} {x:Nm} {v:AV} (h:Less ρ₀ ρ) (hx:∀ kd w,look ρ₀ x=some (kd,w)→w=.unb):Less ρ₀ (put ρ x v):=fun y kd w hy=>by
 obtain ⟨w',h1,e⟩:=h y kd w hy
 rw [look_put]
 by_cases c:y=x
 ·rw [if_pos c]
  subst c
  rw [h1]
  exact ⟨v,rfl,.inl (hx kd w hy)⟩
 ·rw [if_neg c]; exact ⟨w',h1,e⟩
theorem less_refl (ρ:Ev):Less ρ ρ:=fun x kd v h=>⟨v,h,.inr rfl⟩
theorem less_all {ρ₀:Ev}:∀ (xs:List Nm) (l:List AV) (ρ:Ev),Less ρ₀ ρ→(∀ x∈xs,∀ kd w,look ρ₀ x=some (kd,w)→w=.unb)→Less ρ₀ (putAll ρ xs l)
 | [],_,ρ,h,_=>by cases ‹List AV› <;> exact h
 | x::xs,[],ρ,h,_=>h
 | x::xs,v::l,ρ,h,hx=>less_all xs l (put ρ x v) (less_put h (hx x (by simp))) fun y hy=>hx y (by simp [hy])
set_option backward.match.sparseCases false in
noncomputable def Off (t:T) (ρ ρ':Ev):Prop:=∀ y,y∉tNames t→look ρ' y=look ρ y
theorem off_all:∀ (xs:List Nm) (l:List AV) (ρ:Ev) (y:Nm),y∉xs→look (putAll ρ xs l) y=look ρ y
 | [],_,ρ,y,_=>by cases ‹List AV› <;> rfl
 | x::xs,[],ρ,y,_=>rfl
 | x::xs,v::l,ρ,y,h=>by
  show look (putAll (put ρ x v) xs l) y=_
  rw [off_all xs l (put ρ x v) y fun q=>h (by simp [q]),look_put,if_neg fun q=>h (by simp [q])]
theorem less_asg {t:T} {v:AV} {Q:Ev→Prop} (h:asgC t v ρ Q) (hu:Unb t ρ):asgC t v ρ fun ρ'=>Q ρ'∧Less ρ ρ'∧Off t ρ ρ':=by
 cases t with
 | name x=>exact ⟨h.1,h.2,less_put (less_refl ρ) (hu x (by simp [tNames])),fun y hy=>by rw [look_put,if_neg fun q=>hy (by simp [tNames,q])]⟩
 | tup xs=>
  refine byc fun hNN=>?_
  obtain ⟨l,e,hl,hn,hc,q⟩:=h
  refine hNN ?_
  exact ⟨l,e,hl,hn,hc,q,less_all xs l ρ (less_refl ρ) fun x hx=>hu x hx,fun y hy=>off_all xs l ρ y hy⟩
 | attr _ _=>exact h.elim
 | sub _ _=>exact h.elim
structure CompEnv (κ₀ κ:Adr) (A:Around) (W:Addr→Prop) (D C:Addr) (H₂:AH) (s₁ s₁' s₂:Shared) (l:List AV) (It:Addr) (fp wr:List Addr) (P:Nat→Value→Prop) (St:Nat→Heap→Prop):Prop where
 base:Base κ W H₂ s₂
 its:Its κ₀ A H₂ s₁ l It fp wr P St s₁'
 ep:κ₀.prog=κ.prog
 ew:κ₀.w=κ.w
 R1:Real κ₀ H₂ s₁.heap
 k12:∀ b o,s₁.heap.get? b=some o→s₂.heap.get? b=some o
 S12:Stays s₁.heap (dm κ₀ H₂) s₂.heap (dm κ H₂)
 hw:∀ b,W b↔b∈wr∨b=D∨b=C
 hz:∀ b∈wr,¬ κ.Z b
 zD:κ.Z D
 zC:¬ κ.Z C
 wD:D∉wr
 wC:C∉wr
 DC:D≠C
 fpD:∀ b∈fp,b≠D∧b≠C
variable {κ₀:Adr} {ρ₀:Ev} {W:Addr→Prop} {D C:Addr} {H₂:AH} {s₁' s₂:Shared} {l:List AV} {It:Addr} {fp wr:List Addr} {P:Nat→Value→Prop} {St:Nat→Heap→Prop}
structure CompSt (κ:Adr) (k:Nat) (A:Around) (env:Env) (ρ:Ev) (W:Addr→Prop) (D C:Addr) (H₂:AH) (s₂:Shared) (H:AH) (s:Shared) (acc:List AV):Prop where
 inv:Inv κ W H₂ s₂ H s
 hid:Hid κ W s
 cat:CompAt κ D H s acc
 at_:At κ k A env (fun a=>a=C) ρ H s
theorem CompSt.ext (X:CompEnv κ₀ κ A W D C H₂ s₁ s₁' s₂ l It fp wr P St) {acc:List AV} (cs:CompSt κ k A env ρ W D C H₂ s₂ H s acc) {H':AH} {s':Shared} (e:Ext κ H s H' s'):CompSt κ k A env ρ W D C H₂ s₂ H' s' acc:=by
 refine byc fun hNN=>?_
 obtain ⟨i,h⟩:=cs.inv.ext X.base cs.hid e
 obtain ⟨⟨vs,n,hg,ra⟩,z⟩:=cs.cat
 have wD:W D:=(X.hw D).mpr (.inr (.inl rfl))
 refine hNN ?_
 exact ⟨i,h,⟨⟨vs,n,e.step.keep D _ (Inv.off X.base cs.inv wD) hg,ra.ext cs.inv.real e⟩,z⟩,cs.at_.ext e⟩
theorem CompEnv.st_keep (X:CompEnv κ₀ κ A W D C H₂ s₁ s₁' s₂ l It fp wr P St) (I:Inv κ W H₂ s₂ H s) {i:Nat} {h':Heap} (st:St i s.heap) (hk:∀ b o,¬ dom H b→b≠C→b≠D→s.heap.get? b=some o→h'.get? b=some o):St i h':=by
 refine X.its.walk.frame i _ h' st fun b hb o e=>?_
 have f:=fp_off X.base I X.its X.R1 (fun b hb=>(X.hw b).mpr (.inl hb)) X.k12 b hb
 exact hk b o f.1 (X.fpD b hb).2 (X.fpD b hb).1 e
theorem item_ok (X:CompEnv κ₀ κ A W D C H₂ s₁ s₁' s₂ l It fp wr P St) {t:T} {tx:PySem.Expr} {p:Pos} {i:Nat} {acc:List AV} {G:Sem PySem.Fin} {PF:PySem.Fin→Shared→Prop} {Q:AV→Ev→Prop}
  (ht:okTc t tx=true) (hu:Unb t ρ) (cs:CompSt κ k A env ρ W D C H₂ s₂ H s acc) (st:St i s.heap) (hil:i≤l.length)
  (hl:∀ x,l[i]?=some x→asgC t x ρ (Q x))
  (hn:i=l.length→∀ s',Inv κ W H₂ s₂ H s'→CompAt κ D H s' acc→At κ k A env (fun a=>a=C) ρ H s'→PF (.done .next) s')
  (hy:∀ x ρ' s',l[i]?=some x→Q x ρ'→Less ρ ρ'→Off t ρ ρ'→CompSt κ k A env ρ' W D C H₂ s₂ H s' acc→St (i+1) s'.heap→wpAny (model κ.prog κ.w) A G PF NoE s'):
  wpAny (model κ.prog κ.w) A (do
   standAt p
   match ← pyNext (.ref It) with
   | none=>pure (.done .next)
   | some v=>do
    letOwnedTupleGo tx (.ref It) v
    assign tx env v
    G) PF NoE s:=by
 have wC:W C:=(X.hw C).mpr (.inr (.inr rfl))
 have wD:W D:=(X.hw D).mpr (.inr (.inl rfl))
 have pk:∀ (h':Heap),(∀ b o,b∉wr→s.heap.get? b=some o→h'.get? b=some o)→Stays s.heap (dm κ H) h' (dm κ H)→Frame κ env (fun a=>a=C) ρ H h':=fun h' hk S'=>
  cs.at_.fr.poke S' (fun b=>b∈wr) hk (fun a ha q=>X.wC (q▸ha)) fun a ov ha hc=>by
   obtain ⟨o,e,_,q⟩:=X.its.obj i s.heap st a ha
   obtain ⟨o',e',d⟩:=hc
   rw [e] at e'; cases e'; exact q _ d
 refine wpAny_bind (wpAny_standAt (wpAny_bind (next_ok X.base cs.inv cs.hid X.its X.ep X.ew (fun b hb=>(X.hw b).mpr (.inl hb)) X.hz X.S12 st hil ?_ ?_)))
 ·intro x v h' tk hx rx I' hid' st' hk S'
  refine byc fun hNN=>?_
  have cs1:CompSt κ k A env ρ W D C H₂ s₂ H { s with heap:=h',toks:=tk } acc:=by
   obtain ⟨⟨vs,n,hg,ra⟩,z⟩:=cs.cat
   exact ⟨I',hid',⟨⟨vs,n,hk D _ X.wD hg,ra.stays S'⟩,z⟩,⟨pk h' hk S',I'.real,cs.at_.room⟩⟩
  obtain ⟨oi,ni,hoi,hci,hni⟩:=X.its.itr (i+1) h' st'
  refine hNN ?_
  dsimp only
  refine wpAny_bind (letOwned_ok (s:={ s with heap:=h',toks:=tk }) ht hoi hci hni ?_)
  have a1:=cs1.at_
  refine wpAny_bind (wpE (asgC_ok ht a1 rx (less_asg (hl x hx) hu)) fun _ s3 ⟨ρ1,⟨hq,hless,hoff⟩,a3,stp⟩=>?_)
  have st3:St (i+1) s3.heap:=X.st_keep cs1.inv st' fun b o uu hbC uu e=>stp.keep b o hbC e
  have S3:=own_stays a1.fr a1.rl stp
  have i3:Inv κ W H₂ s₂ H s3:=cs1.inv.go X.base cs1.hid a3.rl (stp.mono fun a q=>.inr (by rw [q]; exact wC)) (.refl _ _)
  refine hy x ρ1 s3 hx hq hless hoff ⟨i3,⟨fun a ha=>?_⟩,?_,a3⟩ st3
  ·by_cases q:a=C
   ·subst q
    refine byc fun hNN=>?_
    obtain ⟨_,_,o,e,hs⟩:=a3.fr.off a rfl
    refine hNN ?_
    exact ⟨o,e,fun t=>by rw [hs] at t; cases t⟩
   ·obtain ⟨o,e,hs⟩:=cs1.hid.at_ a ha
    exact ⟨o,stp.keep a o q e,hs⟩
  ·obtain ⟨⟨vs,n,hg,ra⟩,z⟩:=cs1.cat
   exact ⟨⟨vs,n,stp.keep D _ X.DC hg,ra.stays S3⟩,z⟩
 ·intro hi' h' tk I' hk S'
  refine wpAny_pure (hn hi' _ I' ?_ ?_)
  ·obtain ⟨⟨vs,n,hg,ra⟩,z⟩:=cs.cat
   exact ⟨⟨vs,n,hk D _ X.wD hg,ra.stays S'⟩,z⟩
  ·exact ⟨pk h' hk S',I'.real,cs.at_.room⟩
theorem CompSt.forget {ρ':Ev} {acc:List AV} (cs:CompSt κ k A env ρ' W D C H₂ s₂ H s acc) (hl:Less ρ ρ'):CompSt κ k A env ρ W D C H₂ s₂ H s acc:=
 ⟨cs.inv,cs.hid,cs.cat,cs.at_.fr.forget hl,cs.at_.rl,cs.at_.room⟩
theorem append_acc (X:CompEnv κ₀ κ A W D C H₂ s₁ s₁' s₂ l It fp wr P St) {acc:List AV} {r:AV} {w:Value} {i:Nat} {PF:Value→Shared→Prop} (cs:CompSt κ k A env ρ W D C H₂ s₂ H s acc) (st:St i s.heap) (rw_:R s.heap (dm κ H) r w) (hz:acc.length < LIM)
  (h:∀ s',CompSt κ k A env ρ W D C H₂ s₂ H s' (acc++[r])→St i s'.heap→(∀ b o,b≠D→s.heap.get? b=some o→s'.heap.get? b=some o)→Stays s.heap (dm κ H) s'.heap (dm κ H)→PF .none s'):
  wpAny (model κ.prog κ.w) A (call (.builtin "list.append") [.ref D,w]) PF NoE s:=by
 refine byc fun hNN=>?_
 have wD:W D:=(X.hw D).mpr (.inr (.inl rfl))
 obtain ⟨⟨vs,n,hg,ra⟩,z⟩:=cs.cat
 have hvs:vs.size=acc.length:=by have:=ra.length; simpa using this
 refine hNN ?_
 refine wpAny_list_append_plain ⟨n,hg⟩ (fun h6 hp6 hs6=>?_) (by rw [hvs]; exact lim_line z)
 refine byc fun hNN=>?_
 obtain ⟨n6,hg6⟩:=hp6
 obtain ⟨i6,S6⟩:=cs.inv.poke (tk:=s.toks) X.base cs.hid (fun b o hb e=>hs6.extBut b o (fun q=>hb (by rw [q]; exact wD)) e) (fun a za=>by
  by_cases q:a=D
  ·rw [q,hg6]; simp
  ·exact live_of (cs.inv.real.zl a za) fun o e=>hs6.extBut a o q e)
 refine hNN ?_
 refine h _ ⟨i6,⟨fun a ha=>?_⟩,⟨⟨_,n6,hg6,?_⟩,?_⟩,⟨?_,i6.real,cs.at_.room⟩⟩ (X.st_keep cs.inv st fun b o uu uu hbD e=>hs6.extBut b o hbD e) (fun b o hb e=>hs6.extBut b o hb e) S6
 ·by_cases q:a=D
  ·exact ⟨_,by rw [q]; exact hg6,fun uu=>⟨rfl,q▸X.zD⟩⟩
  ·obtain ⟨o,e,hs⟩:=cs.hid.at_ a ha
   exact ⟨o,hs6.extBut a o q e,hs⟩
 ·rw [Array.toList_push]
  exact (ra.stays S6).append (.one (rw_.stays S6))
 ·rw [List.length_append]; simp only [List.length_singleton]; exact l20 1216985741841 rfl hz
 ·refine cs.at_.fr.poke S6 (fun b=>b=D) (fun b o hb e=>hs6.extBut b o hb e) (fun a ha q=>X.DC (ha▸q)) fun a ov ha hc=>?_
  obtain ⟨o',e',d⟩:=hc
  rw [ha,hg] at e'; cases e'; cases d
theorem turn_ok (X:CompEnv κ₀ κ A W D C H₂ s₁ s₁' s₂ l It fp wr P St) {elt:E} {t:T} {ifs:Es} {ex tx:PySem.Expr} {ifx:List PySem.Expr} {p:Pos} {c:Code} {Q:PL} {i:Nat} {acc:List AV}
  (he:SE κ Γ lv k elt ex) (hi:SAll κ Γ lv k ifs ifx) (ht:okTc t tx=true) (hu:Unb t ρ) (cs:CompSt κ k A env ρ W D C H₂ s₂ H s acc) (st:St i s.heap) (hil:i≤l.length)
  (hl:loopC (stepC Γ lv k elt t ifs ρ) (l.drop i) acc H Q):
  wpAny (model κ.prog κ.w) A (turnOf p tx ifx ex (.ref It) (.ref D) env c)
   (fun fin s'=>match fin with
    | .done f=>f=.next∧∃ acc' H',Inv κ W H₂ s₂ H' s'∧CompAt κ D H' s' acc'∧At κ k A env (fun a=>a=C) ρ H' s'∧Q acc' H'
    | .again c'=>c'=c∧i < l.length∧∃ acc' H',CompSt κ k A env ρ W D C H₂ s₂ H' s' acc'∧St (i+1) s'.heap∧loopC (stepC Γ lv k elt t ifs ρ) (l.drop (i+1)) acc' H' Q) NoE s:=by
 unfold turnOf
 refine item_ok (Q:=fun x ρ1=>trAll Γ lv k ifs ρ1 H fun b H3=>(b=true→trE Γ lv k elt ρ1 H3 fun v H4=>acc.length < LIM∧loopC (stepC Γ lv k elt t ifs ρ) (l.drop (i+1)) (acc++[v]) H4 Q)∧(b=false→loopC (stepC Γ lv k elt t ifs ρ) (l.drop (i+1)) acc H3 Q))
  X ht hu cs st hil (fun x hx=>?_) (fun hi' s' i' ca hC=>?_) fun x ρ1 s3 hx hq hless uu cs3 st3=>?_
 ·have hlt:i < l.length:=(List.getElem?_eq_some_iff.mp hx).1
  have hdrop:l.drop i=x::l.drop (i+1):=by
   rw [List.drop_eq_getElem_cons hlt]
   congr 1
   exact (List.getElem?_eq_some_iff.mp hx).2
  rw [hdrop] at hl
  exact hl
 ·rw [hi',List.drop_length] at hl
  exact ⟨rfl,acc,H,i',ca,hC,hl⟩
 ·have hlt:i < l.length:=(List.getElem?_eq_some_iff.mp hx).1
  refine wpAny_bind (wpE (hi A _ _ ρ1 H s3 _ true cs3.at_ (fun uu=>hq) (fun q=>by cases q)) fun b s4 ⟨H4,q4,e4⟩=>?_)
  have cs4:=cs3.ext X e4
  have st4:St (i+1) s4.heap:=X.st_keep cs3.inv st3 fun b o hd uu uu e=>e4.step.keep b o hd e
  cases b with
  | false=>exact wpAny_pure ⟨rfl,hlt,acc,H4,cs4.forget hless,st4,q4.2 rfl⟩
  | true=>
   refine wpAny_bind (wpAny_bind (he.go cs4.at_ (q4.1 rfl) fun r w H5 s5 q5 e5 r5=>?_))
   have cs5:=cs4.ext X e5
   have st5:St (i+1) s5.heap:=X.st_keep cs4.inv st4 fun b o hd uu uu e=>e5.step.keep b o hd e
   refine wpAny_bind (append_acc X cs5 st5 r5 q5.1 fun s6 cs6 st6 uu uu=>?_)
   exact wpAny_pure (wpAny_pure ⟨rfl,hlt,acc++[r],H5,cs6.forget hless,st6,q5.2⟩)
end
end Internal
namespace Internal
open PySem PySem.W PyProof.Rows PySem.Calls
section
variable {A:Around} {κ:Adr} {env:Env} {O:Addr→Prop} {ρ:Ev} {H H₁:AH} {s s₁:Shared} {Γ:Fn→List AV→AH→P1→Prop} {lv:Fn→Nat} {k:Nat}
noncomputable def SI (κ:Adr) (Γ:Fn→List AV→AH→P1→Prop) (lv:Fn→Nat) (k:Nat) (it:It) (x:PySem.Expr):Prop:=∀ A env O ρ H s Q,At κ k A env O ρ H s→trI Γ lv k it ρ H Q→
 wpAny (model κ.prog κ.w) A (eval x env) (fun v s₁=>∃ l H₁ s₀,Q l H₁∧Ext κ H s H₁ s₀∧wpAny (model κ.prog κ.w) A (pyIter v) (ItPost κ A H₁ s₀ l) NoE s₁) NoE s
theorem i_e {e:E} {x:PySem.Expr} (h:SE κ Γ lv k e x):SI κ Γ lv k (.e e) x:=fun A env O ρ H s Q a t=>
 h.go a t fun r v H₁ s₁ ⟨l,hl,q⟩ e1 r1=>⟨l,H₁,s₁,q,e1,iter_ok a.room.hand r1 hl⟩
noncomputable def withD (κ:Adr) (D:Addr):Adr:=κ.z fun a=>κ.Z a∨a=D
theorem AOR.cast {κ κ':Adr} (h1:κ.prog=κ'.prog) (h2:κ.w=κ'.w) (h3:κ.cls=κ'.cls) {h:Heap} {D:Addr→Prop} {a:Addr} {o:AO} (x:AOR κ h D a o):AOR κ' h D a o:=by
 cases κ; cases κ'
 simp only at h1 h2 h3
 subst h1 h2 h3
 exact x
theorem z_stays {D:Addr} {h':Heap} (hk:∀ b o,s.heap.get? b=some o→h'.get? b=some o) (hD:s.heap.get? D=none):Stays s.heap (dm κ H) h' (dm (withD κ D) H):=
 ⟨fun a o e uu uu=>hk a o e,fun a o e uu uu hn hd=>by
  rcases hd with hd | hd | hd
  ·exact hn (.inl hd)
  ·exact hn (.inr hd)
  ·rw [hd,hD] at e; cases e⟩
theorem Frame.lift {D:Addr} {h':Heap} (F:Frame κ env O ρ H s.heap) (hk:∀ b o,s.heap.get? b=some o→h'.get? b=some o) (hD:s.heap.get? D=none):Frame (withD κ D) env O ρ H h':=by
 have S:Stays s.heap (dm κ H) h' (dm (withD κ D) H):=z_stays hk hD
 have kc:∀ c ov,s.heap.IsCell c ov→h'.IsCell c ov:=fun c ov x=>let ⟨o,eo,d⟩:=x; ⟨o,hk c o eo,d⟩
 refine ⟨F.kind,F.glob,F.blt,?_,fun x v hx=>?_,fun x v hx=>?_,F.glo,F.own,fun a ha=>?_,F.apart,F.notL⟩
 ·obtain ⟨m,hn,hm⟩:=F.ns
  exact ⟨m,hn.keeps hk,fun x v hx=>⟨(hm x v hx).1,(hm x v hx).2.st S⟩⟩
 ·obtain ⟨a,c,ov,b,d,i,r⟩:=F.cel x v hx
  exact ⟨a,c,ov,b,d,kc c ov i,r.st S⟩
 ·obtain ⟨a,c,ov,b,d,d',i,r⟩:=F.fre x v hx
  exact ⟨a,c,ov,b,d,d',kc c ov i,r.st S⟩
 ·obtain ⟨a1,a2,o,a3,a4⟩:=F.off a ha
  exact ⟨a1,a2,o,hk a o a3,a4⟩
theorem comp_end {W:Addr→Prop} {D C:Addr} {s₂ s':Shared} {H':AH} {acc:List AV} {Q:P1} {h':Heap} (Rl:Real κ H₁ s₁.heap) (B:Base (withD κ D) W H₁ s₂) (same:∃ h tk,s₂={ s₁ with heap:=h,toks:=tk })
  (k12:∀ b o,s₁.heap.get? b=some o→s₂.heap.get? b=some o) (hWn:∀ b,W b→s₁.heap.get? b=none) (wC:W C) (wD:W D) (DC:D≠C)
  (I:Inv (withD κ D) W H₁ s₂ H' s') (ca:CompAt (withD κ D) D H' s' acc) (q:newL acc H' Q) (hs:Heap.SameBut C s'.heap h') (hCs:∀ o,s'.heap.get? C=some o→sf o=false):
  Post κ H₁ s₁ Q (.ref D) { s' with heap:=h' }:=by
 refine byc fun hNN=>?_
 obtain ⟨⟨vs,n,hg,ra⟩,z⟩:=ca
 have hkC:∀ b o,b≠C→s'.heap.get? b=some o→h'.get? b=some o:=fun b o hb e=>hs.extBut b o hb e
 have hgD:=hkC D _ DC hg
 have nD:=hWn D wD
 have hbD:κ.hb.get? D=none:=(B.off D wD).2
 have offD:=Inv.off B I wD
 have offC:=Inv.off B I wC
 have hCb:κ.hb.get? C=none:=(B.off C wC).2
 have kk:∀ b,s₁.heap.get? b≠none→¬ W b:=fun b hb hw=>hb (hWn b hw)
 have noZ:¬ κ.Z D:=fun hz=>Rl.zl D hz nD
 obtain ⟨h2,t2,e2⟩:=same
 obtain ⟨h3,t3,e3⟩:=I.same
 have same':∃ h tk,({ s' with heap:=h' }:Shared)={ s₁ with heap:=h,toks:=tk }:=⟨h',t3,by rw [e3,e2]⟩
 have keep:∀ b o,¬ dom H₁ b→s₁.heap.get? b=some o→h'.get? b=some o:=fun b o hd e=>by
  have hw:=kk b (by rw [e]; simp)
  exact hkC b o (fun q=>hw (q▸wC)) (I.keep b o hd hw (k12 b o e))
 have live:∀ b,s₁.heap.get? b≠none→h'.get? b≠none:=fun b hb=>by
  have hw:=kk b hb
  exact live_of (I.live b hw (live_of hb (k12 b))) fun o e=>hkC b o (fun q=>hw (q▸wC)) e
 have grow:∀ a,dom H' a→dom H₁ a∨s₁.heap.get? a=none:=fun a ha=>by
  rcases I.grow a ha with h | h
  ·exact .inl h
  ·right
   cases r:s₁.heap.get? a with
   | none=>rfl
   | some o=>rw [k12 a o r] at h; cases h
 refine hNN ?_
 rcases q with ⟨zl,q | q⟩
 ·have S:Stays s'.heap (dm (withD κ D) H') h' (dm κ (upd H' D (.list acc))):=⟨fun a o e hs' uu=>hkC a o (fun q=>by rw [hCs o (q▸e)] at hs'; cases hs') e,fun a o e uu uu hn' hd=>by
   rcases dm_upd.mp hd with hd | hd | hd
   ·exact hn' (.inr (.inr hd))
   ·exact hn' (.inl hd)
   ·exact hn' (.inr (.inl hd))⟩
  have hD':H' D=none:=by
   cases r:H' D with
   | none=>rfl
   | some _=>exact absurd (by rw [dom,r]; simp) offD
  refine ⟨_,_,q D hD',⟨⟨fun b o e=>?_,fun b o e=>?_,fun b hb=>?_,fun b hz=>live b (Rl.zl b hz)⟩,⟨same',fun b o hd e=>keep b o hd e,live⟩,fun a ha=>?_⟩,.obj D⟩
  ·by_cases c:b=D
   ·subst c; simp only [upd,if_true] at e; cases e
    exact ⟨vs,n,hgD,zl,ra.stays S⟩
   ·simp only [upd,if_neg c] at e
    exact AOR.cast (κ:=withD κ D) rfl rfl rfl ((I.real.at_ b o e).stays S fun ob eo=>hkC b ob (fun q=>offC (q▸(by rw [dom,e]; simp))) eo)
  ·exact hkC b o (fun q=>by rw [q,hCb] at e; cases e) (I.real.base b o e)
  ·rcases dom_upd.mp hb with rfl | h
   ·exact hbD
   ·exact I.real.off b h
  ·rcases dom_upd.mp ha with rfl | h
   ·exact .inr nD
   ·exact grow a h
 ·have S:Stays s'.heap (dm (withD κ D) H') h' (dm κ H'):=⟨fun a o e hs' uu=>hkC a o (fun q=>by rw [hCs o (q▸e)] at hs'; cases hs') e,fun a o e uu uu hn' hd=>by
   rcases hd with hd | hd
   ·exact hn' (.inl hd)
   ·exact hn' (.inr (.inl hd))⟩
  refine ⟨_,_,q,⟨⟨fun b o e=>?_,fun b o e=>?_,I.real.off,fun b hz=>live b (Rl.zl b hz)⟩,⟨same',fun b o hd e=>keep b o hd e,live⟩,grow⟩,.lst hgD rfl rfl zl (fun hd=>hd.elim offD noZ) (ra.stays S)⟩
  ·exact AOR.cast (κ:=withD κ D) rfl rfl rfl ((I.real.at_ b o e).stays S fun ob eo=>hkC b ob (fun q=>offC (q▸(by rw [dom,e]; simp))) eo)
  ·exact hkC b o (fun q=>by rw [q,hCb] at e; cases e) (I.real.base b o e)
theorem comp_enter {scope:Scope} {sc:List (Nm×SK)} {l:List AV} {It:Addr} {fp wr:List Addr} {P:Nat→Value→Prop} {St:Nat→Heap→Prop} {s₁':Shared} {PP:Value→Env→Shared→Prop}
  (a:At κ k A env O ρ H₁ s₁) (hsc:okSc sc scope=true) (hf:freOk sc ρ=true) (its:Its κ A H₁ s₁ l It fp wr P St s₁')
  (h:∀ D C s₂ W,CompEnv κ (withD κ D) A W D C H₁ s₁ s₁' s₂ l It fp wr P St→CompSt (withD κ D) k A (compEnvC scope (closOf env.cells scope.names []) C env) (compρ sc ρ) W D C H₁ s₂ H₁ s₂ []→St 0 s₂.heap→(∃ h tk,s₂={ s₁ with heap:=h,toks:=tk })→(∀ b,W b→s₁.heap.get? b=none)→
   PP (.ref D) (compEnvC scope (closOf env.cells scope.names []) C env) s₂):
  wpAny (model κ.prog κ.w) A (newList []) (fun acc s₃=>wpAny (model κ.prog κ.w) A (newFunctionEnv scope env.globals (closOf env.cells scope.names []) [] env.qual none .none (some env)) (fun cenv s₄=>PP acc { cenv with scope:=relabel scope env } s₄) NoE s₃) NoE s₁':=by
 refine byc fun hNN=>?_
 obtain ⟨hkind,hn2,_⟩:=okSc_of hsc
 refine hNN ?_
 refine wpAny_newObj_type (wpAny_newFunctionEnv (fun x hx=>(hn2 x hx).2.2) (by intro y hy; simp at hy) (fun h₁ hns₁ hsb₁=>?_) hkind)
 dsimp only at hns₁ hsb₁ ⊢
 generalize hH2:s₁'.heap.push { cls:=.type "list",dict:=none,data:=.seq ([]:List Value).toArray }=H2 at hns₁ hsb₁ ⊢
 refine byc fun hNN=>?_
 have hC:H2.objs.size=s₁'.heap.objs.size+1:=by rw [← hH2,Heap.size_push]
 have hDC:s₁'.heap.objs.size≠H2.objs.size:=by rw [hC]; exact Nat.ne_of_lt (Nat.lt_succ_self _)
 have below:∀ b,b < s₁'.heap.objs.size→b≠H2.objs.size:=fun b hb=>by rw [hC]; exact Nat.ne_of_lt (Nat.lt_succ_of_lt hb)
 have old':∀ b o,s₁'.heap.get? b=some o→h₁.get? b=some o:=fun b o e=>hsb₁.extBut b o (below b (Heap.lt_size e)) (Heap.get?_push_of_some _ (hH2▸Heap.get?_push_of_some _ e))
 have old:∀ b o,s₁.heap.get? b=some o→h₁.get? b=some o:=fun b o e=>old' b o (its.keep b o e)
 have hD:h₁.get? s₁'.heap.objs.size=some { cls:=.type "list",data:=.seq #[] 0 }:=hsb₁.extBut _ _ hDC (Heap.get?_push_of_some _ (hH2▸Heap.get?_push_size _ rfl))
 have nDs:s₁.heap.get? s₁'.heap.objs.size=none:=by
  cases e:s₁.heap.get? s₁'.heap.objs.size with
  | none=>rfl
  | some o=>have:=its.keep _ o e; rw [fresh_none] at this; cases this
 have nC':s₁'.heap.get? H2.objs.size=none:=Heap.get?_none_of_le (by rw [hC]; exact Nat.le_succ _)
 have nCs:s₁.heap.get? H2.objs.size=none:=by
  cases e:s₁.heap.get? H2.objs.size with
  | none=>rfl
  | some o=>have:=its.keep _ o e; rw [nC'] at this; cases this
 have st2:St 0 h₁:=its.walk.frame 0 _ _ its.here fun b uu o e=>old' b o e
 obtain ⟨hh,tt,es'⟩:=its.same
 have nb:∀ b,s₁.heap.get? b=none→κ.hb.get? b=none:=fun b e=>by
  cases q:κ.hb.get? b with
  | none=>rfl
  | some o=>rw [a.rl.base b o q] at e; cases e
 have nd:∀ b,s₁.heap.get? b=none→¬ dom H₁ b:=fun b e hd=>by
  obtain ⟨ao,hao⟩:=Option.ne_none_iff_exists'.mp hd
  obtain ⟨o,eo,_⟩:=(a.rl.at_ b ao hao).alive
  rw [e] at eo; cases eo
 have nz:∀ b,s₁.heap.get? b=none→¬ κ.Z b:=fun b e hz=>a.rl.zl b hz e
 have wrl:∀ b∈wr,∃ o,s₁'.heap.get? b=some o∧sf o=false:=fun b hb=>let ⟨o,e,q,_⟩:=its.obj 0 _ its.here b hb; ⟨o,e,q⟩
 have wrD:s₁'.heap.objs.size∉wr:=fun q=>by obtain ⟨o,e,_⟩:=wrl _ q; rw [fresh_none] at e; cases e
 have wrC:H2.objs.size∉wr:=fun q=>by obtain ⟨o,e,_⟩:=wrl _ q; rw [nC'] at e; cases e
 refine hNN ?_
 let W:Addr→Prop:=fun b=>b∈wr∨b=s₁'.heap.objs.size∨b=H2.objs.size
 refine byc fun hNN=>?_
 have hWn:∀ b,W b→s₁.heap.get? b=none:=fun b hb=>by
  rcases hb with hb | rfl | rfl
  ·exact its.new b hb
  ·exact nDs
  ·exact nCs
 have S12:Stays s₁.heap (dm κ H₁) h₁ (dm (withD κ s₁'.heap.objs.size) H₁):=z_stays old nDs
 obtain ⟨oC,esC,epC,hCg,hCd,hCr⟩:=hns₁
 have real2:Real (withD κ s₁'.heap.objs.size) H₁ h₁:=⟨fun b o e=>AOR.cast (κ:=κ) rfl rfl rfl ((a.rl.at_ b o e).stays S12 (old b)),fun b o e=>old b o (a.rl.base b o e),a.rl.off,fun b hz=>by
  rcases hz with hz | rfl
  ·exact live_of (a.rl.zl b hz) (old b)
  ·rw [hD]; simp⟩
 have hid2:Hid (withD κ s₁'.heap.objs.size) W { s₁' with heap:=h₁,toks:=s₁'.toks+([]:List (Str×Value)).length }:=⟨fun b hb=>by
  rcases hb with hb | rfl | rfl
  ·obtain ⟨o,e,q⟩:=wrl b hb
   exact ⟨o,old' b o e,fun t=>by rw [q] at t; cases t⟩
  ·exact ⟨_,hD,fun uu=>⟨rfl,.inr rfl⟩⟩
  ·exact ⟨oC,hCg,fun t=>by unfold sf at t; rw [hCd] at t; cases t⟩⟩
 have base:Base (withD κ s₁'.heap.objs.size) W H₁ { s₁' with heap:=h₁,toks:=s₁'.toks+([]:List (Str×Value)).length }:=⟨real2,hid2,fun b hb=>⟨nd b (hWn b hb),nb b (hWn b hb)⟩⟩
 have hcell:∀ b ov,W b→¬ h₁.IsCell b ov:=fun b ov hb hc=>by
  obtain ⟨oc,ec,dc⟩:=hc
  rcases hb with hb | rfl | rfl
  ·obtain ⟨o,e,_,q⟩:=its.obj 0 _ st2 b hb
   rw [e] at ec; cases ec
   exact q _ dc
  ·rw [hD] at ec; cases ec; cases dc
  ·rw [hCg] at ec; cases ec; rw [hCd] at dc; cases dc
 refine hNN ?_
 refine h s₁'.heap.objs.size H2.objs.size _ W ⟨base,its,rfl,rfl,a.rl,old,S12,fun b=>Iff.rfl,fun b hb hz=>?_,.inr rfl,fun hz=>?_,wrD,wrC,hDC,fun b hb=>?_⟩
  ⟨.start base,hid2,⟨⟨#[],0,hD,.nil⟩,Nat.zero_le _⟩,⟨comp_frame (s:={ s₁' with heap:=h₁,toks:=s₁'.toks+([]:List (Str×Value)).length }) (a.fr.lift old nDs) hsc hf ⟨oC,esC,epC,hCg,hCd,hCr⟩ (nd _ nCs) (nb _ nCs),real2,a.room⟩⟩ st2
  ⟨h₁,_,by rw [es']⟩ hWn
 ·rcases hz with hz | hz
  ·exact nz b (its.new b hb) hz
  ·exact wrD (hz▸hb)
 ·rcases hz with hz | hz
  ·exact nz _ nCs hz
  ·exact hDC hz.symm
 ·by_cases c:b∈wr
  ·exact ⟨fun q=>wrD (q▸c),fun q=>wrC (q▸c)⟩
  ·obtain ⟨o,e,_⟩:=its.old b hb c
   exact ⟨fun q=>(by rw [q,nDs] at e; cases e),fun q=>(by rw [q,nCs] at e; cases e)⟩
theorem comp_loop {κ₀:Adr} {W:Addr→Prop} {D C:Addr} {H₂:AH} {s₁' s₂:Shared} {l:List AV} {It:Addr} {fp wr:List Addr} {P:Nat→Value→Prop} {St:Nat→Heap→Prop}
  (X:CompEnv κ₀ κ A W D C H₂ s₁ s₁' s₂ l It fp wr P St) {elt:E} {t:T} {ifs:Es} {ex tx:PySem.Expr} {ifx:List PySem.Expr} {p:Pos} {c:Code} {Q:PL} {acc:List AV} {R:Result→Shared→Prop}
  (he:SE κ Γ lv k elt ex) (hi:SAll κ Γ lv k ifs ifx) (ht:okTc t tx=true) (hu:Unb t ρ) (hq:c.quiet=true) (hun:A.under c=A)
  (hden:∀ P' s,wpAny (model κ.prog κ.w) A (turnOf p tx ifx ex (.ref It) (.ref D) env c) P' NoE s→wpAny (model κ.prog κ.w) A ((model κ.prog κ.w).den c) P' (fun e s'=>R (.error e) s') s)
  (cs:CompSt κ k A env ρ W D C H₂ s₂ H s acc) (st:St 0 s.heap) (hl:loopC (stepC Γ lv k elt t ifs ρ) l acc H Q)
  (hR:∀ acc' H' s',Inv κ W H₂ s₂ H' s'→CompAt κ D H' s' acc'→At κ k A env (fun a=>a=C) ρ H' s'→Q acc' H'→R (.ok .next) s'):codeAny (model κ.prog κ.w) A c R s:=by
 refine codeAny_loop hq (fun n s=>∃ i acc H,n=l.length - i∧i≤l.length∧CompSt κ k A env ρ W D C H₂ s₂ H s acc∧St i s.heap∧loopC (stepC Γ lv k elt t ifs ρ) (l.drop i) acc H Q) (fun n s hI=>?_) l.length
  ⟨0,acc,H,by simp,Nat.zero_le _,cs,st,by simpa using hl⟩
 refine byc fun hNN=>?_
 obtain ⟨i,acc,H,rfl,hil,cs,st,hl⟩:=hI
 refine hNN ?_
 rw [hun]
 refine hden _ s (wpE (turn_ok X he hi ht hu cs st hil hl) fun fin s' hf=>?_)
 cases fin with
 | done f=>
  refine byc fun hNN=>?_
  obtain ⟨rfl,acc',H',i1,i2,i4,i3⟩:=hf
  refine hNN ?_
  exact hR acc' H' s' i1 i2 i4 i3
 | again c'=>
  refine byc fun hNN=>?_
  obtain ⟨rfl,hlt,acc',H',i1,i2,i3⟩:=hf
  refine hNN ?_
  exact ⟨rfl,l.length - (i+1),by exact l40 116272671640621349815890074504985732994633691430691869812562148620496402954771 rfl hlt (lsub _ _) (lsub _ _),i+1,acc',H',rfl,by exact l20 1216985741841 rfl hlt,i1,i2,i3⟩
noncomputable def tOkSc (t:T) (sc:List (Nm×SK)):Bool:=sc.all fun p => !(p.2==.fre&&(tNames t).contains p.1)
theorem unb_of {t:T} {sc:List (Nm×SK)} (h:tOkSc t sc=true) (ρ:Ev):Unb t (compρ sc ρ):=fun x hx kd v hl=>by
 obtain ⟨a,b,_⟩:=look_comp x sc ρ hl
 refine b fun e=>?_
 subst e
 have:=List.all_eq_true.mp h _ a
 simp only [Bool.not_eq_true',Bool.and_eq_false_iff] at this
 rcases this with h | h
 ·cases h
 ·rw [List.contains_iff_mem.mpr hx] at h; cases h
theorem s_comp {elt:E} {t:T} {it:It} {ifs:Es} {sc:List (Nm×SK)} {ex tx ix:PySem.Expr} {ifx:List PySem.Expr} {scope:Scope} {pos:Pos} (hIt:SI κ Γ lv k it ix) (he:∀ D,SE (withD κ D) Γ lv k elt ex) (hi:∀ D,SAll (withD κ D) Γ lv k ifs ifx) (ht:okTc t tx=true)
  (htu:tOkSc t sc=true) (hsc:okSc sc scope=true) (hfold:∀ env x,foldedSetIterable ix env x=pure x):SE κ Γ lv k (.comp elt t it ifs sc) (.ListComp ex [⟨tx,ix,ifx,0⟩] scope pos):=fun A env O ρ H s Q a tr=>by
 obtain ⟨hf,tr⟩:=tr
 obtain ⟨hkind,hn2,_⟩:=okSc_of hsc
 rw [PySem.eval_ListComp]
 refine wpAny_comprehension_free (use:=none) rfl (hfold env) (clos_ok a.fr hsc hf) hkind (fun x hx=>(hn2 x hx).1) ?_
 refine wpE (hIt A env O ρ H s _ a tr) fun x _ ⟨l,H₁,s₁,hl,e1,hpi⟩=>wpE hpi fun itv s₁' ⟨I,fp,wr,P,St,hIe,its⟩=>?_
 subst hIe
 have a1:=a.ext e1
 refine comp_enter (PP:=fun acc cenv s₄=>codeAny (model κ.prog κ.w) A (.compStart (.ListComp ex [⟨tx,ix,ifx,0⟩] scope pos) 0 (.ref I) acc cenv) (compPost (model κ.prog κ.w) A NoE none (Post κ H s Q) acc cenv.locals) s₄) a1 hsc hf its fun D C s₂ W X cs st2 same hWn=>?_
 have loop:codeAny (model κ.prog κ.w) A (.compLoop (.ListComp ex [⟨tx,ix,ifx,0⟩] scope pos) 0 (.ref I) (.ref D) (compEnvC scope (closOf env.cells scope.names []) C env)) (compPost (model κ.prog κ.w) A NoE none (Post κ H s Q) (.ref D) C) s₂:=by
  refine comp_loop (κ:=withD κ D) (p:=ix.pos) X (he D) (hi D) ht (unb_of htu ρ) rfl rfl (fun P' s hw=>?_) cs st2 hl fun acc' H' s' i1 i2 hCs i3=>?_
  ·show wpAny _ A ((compTurn (.ListComp ex [⟨tx,ix,ifx,0⟩] scope pos) 0 (.ref I) (.ref D) _).onRaise (fun x=>do noteFrame x _; theTreesLotGoes x)) _ _ s
   refine wpAny_noted ?_
   rw [compTurn_list]
   exact wpAny_mono hw (fun uu uu h=>h) fun uu uu e=>e.elim
  ·obtain ⟨m,hm,_⟩:=hCs.fr.ns
   have hm:s'.heap.Ns C m:=hm
   refine ⟨m,hm,fun h' hs'=>?_⟩
   refine (comp_end a1.rl X.base same X.k12 hWn ((X.hw C).mpr (.inr (.inr rfl))) ((X.hw D).mpr (.inr (.inl rfl))) X.DC i1 i2 i3 hs' fun o eo=>?_).from e1
   obtain ⟨o',_,_,e',d',_⟩:=hm
   rw [eo] at e'; cases e'
   unfold sf; rw [d']
 refine codeAny_compStart_list loop ?_
 exact its.walk.self 0 s₂ _ _ st2 loop
theorem compTurn2_1 (elt target iter:PySem.Expr) (ifs:List PySem.Expr) (g:Comprehension) (scope:Scope) (pos:Pos) (it acc:Value) (env:Env):
  compTurn (.ListComp elt [g,⟨target,iter,ifs,0⟩] scope pos) 1 it acc env=turnOf iter.pos target ifs elt it acc env (.compLoop (.ListComp elt [g,⟨target,iter,ifs,0⟩] scope pos) 1 it acc env):=by rfl
theorem compTurn2_0 (elt t1 i1 t2 i2:PySem.Expr) (ifs:List PySem.Expr) (scope:Scope) (pos:Pos) (it acc:Value) (env:Env):
  compTurn (.ListComp elt [⟨t1,i1,[],0⟩,⟨t2,i2,ifs,0⟩] scope pos) 0 it acc env=(do
   standAt i1.pos
   match ← pyNext it with
   | none=>pure (.done .next)
   | some v=>do
    letOwnedTupleGo t1 it v
    assign t1 env v
    (do
     let x ← eval i2 env
     standAt i2.pos
     let x ← foldedSetIterable i2 env x
     let _ ← runOwn (.compStart (.ListComp elt [⟨t1,i1,[],0⟩,⟨t2,i2,ifs,0⟩] scope pos) 1 (← holding [x] (pyIter x)) acc env) env
     again (.compLoop (.ListComp elt [⟨t1,i1,[],0⟩,⟨t2,i2,ifs,0⟩] scope pos) 0 it acc env))):=by rfl
theorem start2_1 {elt target iter:PySem.Expr} {ifs:List PySem.Expr} {g:Comprehension} {scope:Scope} {pos:Pos} {it acc:Value} {R:Result→Shared→Prop}
  (h0:codeAny (model κ.prog κ.w) A (.compLoop (.ListComp elt [g,⟨target,iter,ifs,0⟩] scope pos) 1 it acc env) R s)
  (h:wpAny (model κ.prog κ.w) A (pyIter it) (fun it' s'=>codeAny (model κ.prog κ.w) A (.compLoop (.ListComp elt [g,⟨target,iter,ifs,0⟩] scope pos) 1 it' acc env) R s') NoE s):
  codeAny (model κ.prog κ.w) A (.compStart (.ListComp elt [g,⟨target,iter,ifs,0⟩] scope pos) 1 it acc env) R s:=by
 refine codeAny_of_tree ?_
 show wpAny _ _ ((compStart (.ListComp elt [g,⟨target,iter,ifs,0⟩] scope pos) 1 it acc env).onRaise (fun x=>do noteFrame x env; standAt theWindowsPlace)) _ _ s
 refine wpAny_notedAt ?_
 unfold compStart
 show wpAny _ _ (ask >>= _) _ _ s
 refine wpAny_bind (wpAny_askSetting (wpAny_ite ?_))
 split
 ·first
   | exact wpAny_bind (wpAny_pure (wpAny_pure (And.intro rfl h0)))
   | exact wpAny_pure (And.intro rfl h0)
 ·refine wpAny_bind (wpAny_rule ?_)
  show wpAny _ _ (standAt iter.pos >>= _) _ _ s
  exact wpAny_bind (wpAny_standAt (wpAny_bind (wpAny_mono h (fun it' s' h'=>wpAny_pure (And.intro rfl h')) fun uu uu x=>x.elim)))
theorem inner_enter {κ₀:Adr} {W:Addr→Prop} {D C:Addr} {H₂:AH} {s₁' s₂ s₄':Shared} {l l₂:List AV} {It I₂:Addr} {fp wr fp₂ wr₂:List Addr} {P P₂:Nat→Value→Prop} {St St₂:Nat→Heap→Prop} {acc:List AV}
  (X:CompEnv κ₀ κ A W D C H₂ s₁ s₁' s₂ l It fp wr P St) (cs:CompSt κ k A env ρ W D C H₂ s₂ H s acc) (its:Its κ A H s l₂ I₂ fp₂ wr₂ P₂ St₂ s₄'):
  CompEnv κ κ A (fun b=>b∈wr₂∨b=D∨b=C) D C H s s₄' s₄' l₂ I₂ fp₂ wr₂ P₂ St₂∧CompSt κ k A env ρ (fun b=>b∈wr₂∨b=D∨b=C) D C H s₄' H s₄' acc:=by
 have wC:W C:=(X.hw C).mpr (.inr (.inr rfl))
 have wD:W D:=(X.hw D).mpr (.inr (.inl rfl))
 obtain ⟨⟨vs,n,hg,ra⟩,z⟩:=cs.cat
 obtain ⟨hh,tt,es'⟩:=its.same
 subst es'
 have e0:Ext κ H s H { s with heap:=hh,toks:=tt }:=Ext.of_keeps cs.inv.real its.keep
 have fr:∀ b∈wr₂,s.heap.get? b=none:=its.new
 obtain ⟨_,_,oC,hC,hsC⟩:=cs.at_.fr.off C rfl
 have base:Base κ (fun b=>b∈wr₂∨b=D∨b=C) H { s with heap:=hh,toks:=tt }:=by
  refine ⟨e0.real,⟨fun b hb=>?_⟩,fun b hb=>?_⟩
  ·rcases hb with hb | rfl | rfl
   ·obtain ⟨o,e,q,_⟩:=its.obj 0 _ its.here b hb
    exact ⟨o,e,fun t=>by rw [q] at t; cases t⟩
   ·exact ⟨_,its.keep _ _ hg,fun uu=>⟨rfl,X.zD⟩⟩
   ·exact ⟨oC,its.keep _ _ hC,fun t=>by rw [hsC] at t; cases t⟩
  ·rcases hb with hb | rfl | rfl
   ·refine ⟨fun hd=>?_,?_⟩
    ·obtain ⟨ao,hao⟩:=Option.ne_none_iff_exists'.mp hd
     obtain ⟨o,eo,_⟩:=(cs.inv.real.at_ b ao hao).alive
     rw [fr b hb] at eo; cases eo
    ·cases q:κ.hb.get? b with
     | none=>rfl
     | some o=>have:=cs.inv.real.base b o q; rw [fr b hb] at this; cases this
   ·exact ⟨Inv.off X.base cs.inv wD,(X.base.off _ wD).2⟩
   ·exact ⟨Inv.off X.base cs.inv wC,(X.base.off _ wC).2⟩
 refine ⟨⟨base,its,rfl,rfl,cs.inv.real,its.keep,e0.stays cs.inv.real,fun b=>Iff.rfl,fun b hb hz=>cs.inv.real.zl b hz (fr b hb),X.zD,X.zC,fun q=>?_,fun q=>?_,X.DC,fun b hb=>?_⟩,⟨.start base,base.hid,⟨⟨vs,n,its.keep _ _ hg,ra.ext cs.inv.real e0⟩,z⟩,cs.at_.ext e0⟩⟩
 ·rw [fr D q] at hg; cases hg
 ·rw [fr C q] at hC; cases hC
 ·by_cases c:b∈wr₂
  ·exact ⟨fun q=>(by rw [q] at c; rw [fr D c] at hg; cases hg),fun q=>(by rw [q] at c; rw [fr C c] at hC; cases hC)⟩
  ·obtain ⟨o,e,hs,hl⟩:=its.old b hb c
   refine ⟨fun q=>?_,fun q=>?_⟩
   ·subst q; rw [hg] at e; cases e; exact hl rfl (.inr X.zD)
   ·subst q; rw [hC] at e; cases e; rw [hsC] at hs; cases hs
theorem inner_leave {κ₀:Adr} {W:Addr→Prop} {D C:Addr} {H₂ H₅:AH} {s₁' s₂ s₄' s₅:Shared} {l l₂:List AV} {It I₂:Addr} {fp wr fp₂ wr₂:List Addr} {P P₂:Nat→Value→Prop} {St St₂:Nat→Heap→Prop} {acc acc':List AV} {i:Nat}
  (X:CompEnv κ₀ κ A W D C H₂ s₁ s₁' s₂ l It fp wr P St) (cs:CompSt κ k A env ρ W D C H₂ s₂ H s acc) (its:Its κ A H s l₂ I₂ fp₂ wr₂ P₂ St₂ s₄')
  (I:Inv κ (fun b=>b∈wr₂∨b=D∨b=C) H s₄' H₅ s₅) (ca:CompAt κ D H₅ s₅ acc') (at_:At κ k A env (fun a=>a=C) ρ H₅ s₅) (st:St i s.heap):CompSt κ k A env ρ W D C H₂ s₂ H₅ s₅ acc'∧St i s₅.heap:=by
 refine byc fun hNN=>?_
 have wC:W C:=(X.hw C).mpr (.inr (.inr rfl))
 have wD:W D:=(X.hw D).mpr (.inr (.inl rfl))
 obtain ⟨⟨vs,n,hg,ra⟩,z⟩:=ca
 obtain ⟨_,_,oC,hC,hsC⟩:=at_.fr.off C rfl
 have keep:∀ b o,¬ dom H b→b≠C→b≠D→s.heap.get? b=some o→s₅.heap.get? b=some o:=fun b o hd hc hD e=>
  I.keep b o hd (fun q=>by
   rcases q with q | q | q
   ·rw [its.new b q] at e; cases e
   ·exact hD q
   ·exact hc q) (its.keep b o e)
 obtain ⟨hh,tt,es'⟩:=its.same
 obtain ⟨h5,t5,e5⟩:=I.same
 have inv':Inv κ W H₂ s₂ H₅ s₅:=by
  refine cs.inv.go X.base cs.hid I.real ⟨⟨h5,t5,by rw [e5,es']⟩,fun b o hb e=>keep b o (fun q=>hb (.inl q)) (fun q=>hb (.inr (q▸wC))) (fun q=>hb (.inr (q▸wD))) e,fun b hb=>?_⟩ fun a ha=>?_
  ·by_cases c1:b=D
   ·rw [c1,hg]; simp
   ·by_cases c2:b=C
    ·rw [c2,hC]; simp
    ·refine I.live b (fun q=>?_) (live_of hb (its.keep b))
     rcases q with q | q | q
     ·exact hb (its.new b q)
     ·exact c1 q
     ·exact c2 q
  ·rcases I.grow a ha with h | h
   ·exact .inl h
   ·right
    cases r:s.heap.get? a with
    | none=>rfl
    | some o=>rw [its.keep a o r] at h; cases h
 refine hNN ?_
 refine ⟨⟨inv',⟨fun b hb=>?_⟩,⟨⟨vs,n,hg,ra⟩,z⟩,at_⟩,X.st_keep cs.inv st keep⟩
 by_cases c1:b=D
 ·exact ⟨_,by rw [c1]; exact hg,fun uu=>⟨rfl,c1▸X.zD⟩⟩
 ·by_cases c2:b=C
  ·exact ⟨oC,by rw [c2]; exact hC,fun t=>by rw [hsC] at t; cases t⟩
  ·obtain ⟨o,e,hs⟩:=cs.hid.at_ b hb
   exact ⟨o,keep b o (Inv.off X.base cs.inv hb) c2 c1 e,hs⟩
theorem s_comp2 {elt:E} {t t2:T} {it it2:It} {ifs:Es} {sc:List (Nm×SK)} {ex tx ix tx2 ix2:PySem.Expr} {ifx:List PySem.Expr} {scope:Scope} {pos:Pos} (hIt:SI κ Γ lv k it ix) (hIt2:∀ D,SI (withD κ D) Γ lv k it2 ix2) (he:∀ D,SE (withD κ D) Γ lv k elt ex) (hi:∀ D,SAll (withD κ D) Γ lv k ifs ifx)
  (ht:okTc t tx=true) (ht2:okTc t2 tx2=true) (htu:tOkSc t sc=true) (htu2:tOkSc t2 sc=true) (hdis:∀ x∈tNames t2,x∉tNames t) (hsc:okSc sc scope=true) (hfold:∀ env x,foldedSetIterable ix env x=pure x) (hfold2:∀ env x,foldedSetIterable ix2 env x=pure x):
  SE κ Γ lv k (.comp2 elt t it t2 it2 ifs sc) (.ListComp ex [⟨tx,ix,[],0⟩,⟨tx2,ix2,ifx,0⟩] scope pos):=fun A env O ρ H s Q a tr=>by
 obtain ⟨hf,tr⟩:=tr
 obtain ⟨hkind,hn2,_⟩:=okSc_of hsc
 rw [arm_eval_ListComp]
 show wpAny _ A (comprehension (.ListComp ex [⟨tx,ix,[],0⟩,⟨tx2,ix2,ifx,0⟩] scope pos) scope env ix.pos (newList []) false (eval ix env)) _ _ s
 refine wpAny_comprehension_free (use:=none) rfl (hfold env) (clos_ok a.fr hsc hf) hkind (fun x hx=>(hn2 x hx).1) ?_
 refine wpE (hIt A env O ρ H s _ a tr) fun x _ ⟨l,H₁,s₁,hl,e1,hpi⟩=>wpE hpi fun itv s₁' ⟨I,fp,wr,P,St,hIe,its⟩=>?_
 subst hIe
 have a1:=a.ext e1
 refine comp_enter (PP:=fun acc cenv s₄=>codeAny (model κ.prog κ.w) A (.compStart (.ListComp ex [⟨tx,ix,[],0⟩,⟨tx2,ix2,ifx,0⟩] scope pos) 0 (.ref I) acc cenv) (compPost (model κ.prog κ.w) A NoE none (Post κ H s Q) acc cenv.locals) s₄) a1 hsc hf its fun D C s₂ W X cs st2 same hWn=>?_
 have loop:codeAny (model κ.prog κ.w) A (.compLoop (.ListComp ex [⟨tx,ix,[],0⟩,⟨tx2,ix2,ifx,0⟩] scope pos) 0 (.ref I) (.ref D) (compEnvC scope (closOf env.cells scope.names []) C env)) (compPost (model κ.prog κ.w) A NoE none (Post κ H s Q) (.ref D) C) s₂:=by
  refine codeAny_loop rfl (fun n s=>∃ i acc H',n=l.length - i∧i≤l.length∧CompSt (withD κ D) k A (compEnvC scope (closOf env.cells scope.names []) C env) (compρ sc ρ) W D C H₁ s₂ H' s acc∧St i s.heap∧loopC (fun x acc H2 C=>asgC t x (compρ sc ρ) fun ρ1=>trI Γ lv k it2 ρ1 H2 fun items2 H2'=>loopC (stepC Γ lv k elt t2 ifs ρ1) items2 acc H2' C) (l.drop i) acc H' fun acc H2=>newL acc H2 Q) (fun n s hI=>?_) l.length
   ⟨0,[],H₁,by simp,Nat.zero_le _,cs,st2,by rw [List.drop_zero]; exact hl⟩
  obtain ⟨i,acc,H',rfl,hil,cs,st,hl⟩:=hI
  show wpAny _ A ((compTurn (.ListComp ex [⟨tx,ix,[],0⟩,⟨tx2,ix2,ifx,0⟩] scope pos) 0 (.ref I) (.ref D) _).onRaise (fun x=>do noteFrame x _; theTreesLotGoes x)) _ _ s
  refine wpAny_noted ?_
  rw [compTurn2_0]
  have drop:∀ x,l[i]?=some x→l.drop i=x::l.drop (i+1)∧i < l.length:=fun x hx=>by
   have hlt:i < l.length:=(List.getElem?_eq_some_iff.mp hx).1
   refine ⟨?_,hlt⟩
   rw [List.drop_eq_getElem_cons hlt]
   congr 1
   exact (List.getElem?_eq_some_iff.mp hx).2
  refine wpAny_mono (item_ok (κ:=withD κ D) (Q:=fun x ρ1=>trI Γ lv k it2 ρ1 H' fun items2 H2'=>loopC (stepC Γ lv k elt t2 ifs ρ1) items2 acc H2' fun acc' H''=>loopC (fun x acc H2 C=>asgC t x (compρ sc ρ) fun ρ1=>trI Γ lv k it2 ρ1 H2 fun items2 H2'=>loopC (stepC Γ lv k elt t2 ifs ρ1) items2 acc H2' C) (l.drop (i+1)) acc' H'' fun acc H2=>newL acc H2 Q)
   X ht (unb_of htu ρ) cs st hil (fun x hx=>?_) (fun hi' s' i1 i2 at_=>?_) fun x ρ1 s3 hx hq hless hoff cs3 st3=>?_) (fun uu uu z=>z) fun uu uu e=>e.elim
  ·rw [(drop x hx).1] at hl; exact hl
  ·rw [hi',List.drop_length] at hl
   obtain ⟨m,hm,_⟩:=at_.fr.ns
   have hm:s'.heap.Ns C m:=hm
   refine ⟨m,hm,fun h' hs'=>?_⟩
   refine (comp_end a1.rl X.base same X.k12 hWn ((X.hw C).mpr (.inr (.inr rfl))) ((X.hw D).mpr (.inr (.inl rfl))) X.DC i1 i2 hl hs' fun o eo=>?_).from e1
   obtain ⟨o',_,_,e',d',_⟩:=hm
   rw [eo] at e'; cases e'
   unfold sf; rw [d']
  ·refine wpAny_bind (wpE (hIt2 D A _ _ ρ1 H' s3 _ cs3.at_ hq) fun y _ ⟨l2,H4,s4,hl2,e4,hpi2⟩=>?_)
   have cs4:=cs3.ext X e4
   have st4:St (i+1) s4.heap:=X.st_keep cs3.inv st3 fun b o hd uu uu e=>e4.step.keep b o hd e
   refine wpAny_bind (wpAny_standAt (wpAny_bind (wpAny_of_eq (hfold2 _ y) (wpAny_bind (wpAny_holding (wpE hpi2 fun itv2 s4' ⟨I2,fp2,wr2,P2,St2,hIe2,its2⟩=>?_))))))
   subst hIe2
   obtain ⟨X2,cs2⟩:=inner_enter X cs4 its2
   have hu2:Unb t2 ρ1:=fun z hz kd v hv=>by
    rw [hoff z (hdis z hz)] at hv
    exact unb_of htu2 ρ z hz kd v hv
   refine wpAny_bind (wpAny_runOwn (h:=none) ?_ (by intro x; cases x))
   rw [Around.mark_none]
   refine (fun inner=>start2_1 inner (its2.walk.self 0 s4' _ _ its2.here inner)) ?_
   refine comp_loop (κ:=withD κ D) (p:=ix2.pos) X2 (he D) (hi D) ht2 hu2 rfl rfl (fun P' s hw=>?_) cs2 its2.here hl2 fun acc' H'' s' i1 i2 at_ i3=>?_
   ·show wpAny _ A ((compTurn (.ListComp ex [⟨tx,ix,[],0⟩,⟨tx2,ix2,ifx,0⟩] scope pos) 1 (.ref I2) (.ref D) _).onRaise (fun x=>do noteFrame x _; theTreesLotGoes x)) _ _ s
    refine wpAny_noted ?_
    rw [compTurn2_1]
    exact wpAny_mono hw (fun uu uu h=>h) fun uu uu e=>e.elim
   ·obtain ⟨cs5,st5⟩:=inner_leave X cs4 its2 i1 i2 at_ st4
    exact wpAny_pure ⟨rfl,l.length - (i+1),by have:=(drop x hx).2; exact l40 116272671640621349815890074504985732994633691430691869812562148620496402954771 rfl this (lsub _ _) (lsub _ _),i+1,acc',H'',rfl,(drop x hx).2,cs5.forget hless,st5,i3⟩
 refine codeAny_compStart_list loop ?_
 exact its.walk.self 0 s₂ _ _ st2 loop
end
end Internal
namespace Internal
open PySem PySem.W PyProof.Rows PySem.Calls
set_option backward.match.sparseCases false in
noncomputable def FlR (h:Heap) (D:Addr→Prop):Fl→Flow→Prop
 | .next,.next=>True
 | .brk,.brk=>True
 | .ret v,.ret w=>R h D v w
 | _,_=>False
structure Run (O:Addr→Prop) (H:AH) (s:Shared) (H':AH) (s':Shared):Prop where
 step:Step (fun a=>dom H a∨O a) s s'
 grow:Grow (dom H) s (dom H')
inductive PostS (κ:Adr) (k:Nat) (A:Around) (env:Env) (O:Addr→Prop) (H:AH) (s:Shared) (Q:PS) (f:Flow) (s':Shared):Prop
 | mk (fl:Fl) (ρ':Ev) (H':AH) (q:Q fl ρ' H') (r:FlR s'.heap (dm κ H') fl f) (a:At κ k A env O ρ' H' s') (e:Run O H s H' s')
set_option backward.match.sparseCases false in
noncomputable def SS (κ:Adr) (Γ:Fn→List AV→AH→P1→Prop) (lv:Fn→Nat) (k:Nat) (c:S) (x:Stmt):Prop:=∀ A env O ρ H s Q,At κ k A env O ρ H s→trS Γ lv k c ρ H Q→wpAny (model κ.prog κ.w) A (exec x env) (PostS κ k A env O H s Q) NoE s
set_option backward.match.sparseCases false in
noncomputable def SSs (κ:Adr) (Γ:Fn→List AV→AH→P1→Prop) (lv:Fn→Nat) (k:Nat) (c:Ss) (x:List Stmt):Prop:=∀ A env O ρ H s Q,At κ k A env O ρ H s→trSs Γ lv k c ρ H Q→wpAny (model κ.prog κ.w) A (execs x env) (PostS κ k A env O H s Q) NoE s
section
variable {A:Around} {κ:Adr} {env:Env} {O:Addr→Prop} {ρ:Ev} {H H₁:AH} {s s₁:Shared} {Γ:Fn→List AV→AH→P1→Prop} {lv:Fn→Nat} {k:Nat}
theorem Run.refl (O:Addr→Prop) (H:AH) (s:Shared):Run O H s H s:=⟨.refl _ _,.refl _ _⟩
theorem Run.of_ext (e:Ext κ H s H₁ s₁):Run O H s H₁ s₁:=⟨e.step.mono fun uu h=>.inl h,e.grow⟩
theorem Run.of_own (st:Step O s s₁):Run O H s H s₁:=⟨st.mono fun uu h=>.inr h,.refl _ _⟩
theorem Run.trans {H₂:AH} {s₂:Shared} (x:Run O H s H₁ s₁) (y:Run O H₁ s₁ H₂ s₂):Run O H s H₂ s₂:=
 ⟨x.step.trans (fun a h=>h.elim (fun h=>(x.grow a h).imp .inl id) fun h=>.inl (.inr h)) y.step,x.grow.trans x.step y.grow⟩
theorem PostS.from {Q:PS} {f:Flow} {s':Shared} (r:Run O H s H₁ s₁) (p:PostS κ k A env O H₁ s₁ Q f s'):PostS κ k A env O H s Q f s':=let ⟨fl,ρ',H',a,b,c,d⟩:=p; ⟨fl,ρ',H',a,b,c,r.trans d⟩
theorem ss_nil:SSs κ Γ lv k .nil []:=fun A env O ρ H s Q a t=>wpAny_execs_nil ⟨.next,ρ,H,t,trivial,a,.refl _ _ _⟩
theorem ss_cons {c:S} {x:Stmt} {r:Ss} {xs:List Stmt} (h1:SS κ Γ lv k c x) (h2:SSs κ Γ lv k r xs):SSs κ Γ lv k (.cons c r) (x::xs):=fun A env O ρ H s Q a t=>
 wpAny_execs_cons (wpE (h1 A env O ρ H s _ a t) fun f s₁ ⟨fl,ρ₁,H₁,q,fr,a₁,r₁⟩=>by
  cases fl with
  | next=>
   cases f<;>try exact fr.elim
   exact wpE (h2 A env O ρ₁ H₁ s₁ Q a₁ q) fun uu uu z=>z.from r₁
  | brk=>
   cases f<;>try exact fr.elim
   exact ⟨.brk,ρ₁,H₁,q,trivial,a₁,r₁⟩
  | ret v=>
   cases f<;>try exact fr.elim
   exact ⟨.ret v,ρ₁,H₁,q,fr,a₁,r₁⟩)
theorem ss_ret {e:E} {x:PySem.Expr} {p} (h:SE κ Γ lv k e x):SS κ Γ lv k (.ret e) (.Return (some x) p):=fun A env O ρ H s Q a t=>
 wpAny_Return_some (h.go a t fun r v H₁ s₁ q e1 r1=>⟨.ret r,ρ,H₁,q,r1,a.ext e1,.of_ext e1⟩)
theorem ss_pass {p}:SS κ Γ lv k .pass (.Pass p):=fun A env O ρ H s Q a t=>by
 rw [exec_Pass]
 exact wpAny_bind (wpAny_standAt (wpAny_pure ⟨.next,ρ,H,t,trivial,a,.refl _ _ _⟩))
theorem ss_brk {p}:SS κ Γ lv k .brk (.Break p):=fun A env O ρ H s Q a t=>by
 show wpAny _ A (do standAt p; pure Flow.brk) _ _ s
 exact wpAny_bind (wpAny_standAt (wpAny_pure ⟨.brk,ρ,H,t,trivial,a,.refl _ _ _⟩))
theorem ss_raise {x:Stmt}:SS κ Γ lv k .raise x:=fun A env O ρ H s Q a t=>t.elim
theorem ss_expr {e:E} {x:PySem.Expr} {p:Pos} (h:SE κ Γ lv k e x) (hs:∀ env,swapsWith x none p.line env=pure false):SS κ Γ lv k (.expr e) (.Expr x p):=fun A env O ρ H s Q a t=>
 wpAny_Expr_any (h.go a t fun r v H₁ s₁ q e1 r1=>⟨.next,ρ,H₁,q.2,trivial,a.ext e1,.of_ext e1⟩) (by unfold interactive; rw [a.fr.kind]; rfl) (hs env)
theorem ss_ite {c:E} {b d:Ss} {x:PySem.Expr} {xs ys:List Stmt} {p} (h0:ST κ Γ lv k c x) (h1:SSs κ Γ lv k b xs) (h2:SSs κ Γ lv k d ys):SS κ Γ lv k (.ite c b d) (.If x xs ys p):=fun A env O ρ H s Q a t=>
 wpAny_If (h0.go a t fun t H₁ s₁ q e1=>by
  cases t with
  | true=>simp only [if_true]; exact wpE (h1 A env O ρ H₁ s₁ Q (a.ext e1) (q.1 rfl)) fun uu uu z=>z.from (.of_ext e1)
  | false=>simp only [Bool.false_eq_true,if_false]; exact wpE (h2 A env O ρ H₁ s₁ Q (a.ext e1) (q.2 rfl)) fun uu uu z=>z.from (.of_ext e1))
theorem ss_while {c:E} {b:Ss} {x:PySem.Expr} {xs:List Stmt} {p} (h0:ST κ Γ lv k c x) (h1:SSs κ Γ lv k b xs):SS κ Γ lv k (.whil c b) (.While x xs [] p):=fun A env O ρ H s Q a t=>by
 obtain ⟨n,t⟩:=t
 refine wpAny_While ?_
 refine codeAny_whileLoop (fun n s'=>∃ ρ' H',At κ k A env O ρ' H' s'∧Run O H s H' s'∧loopW (trT Γ lv k c) (trSs Γ lv k b) n ρ' H' Q) (fun n s' hI=>?_) n ⟨ρ,H,a,.refl _ _ _,t⟩
 obtain ⟨ρ',H',a',r',t'⟩:=hI
 cases n with
 | zero=>exact t'.elim
 | succ n=>
  refine wpAny_mono (h0.go (P:=fun b s₂=>_) a' t' fun t H₁ s₁ q e1=>?_) (fun uu uu z=>z) fun uu uu e=>e.elim
  cases t with
  | true=>
   simp only [if_true]
   refine wpAny_mono (h1 A env O ρ' H₁ s₁ _ (a'.ext e1) (q.1 rfl)) (fun f s₂ z=>?_) fun uu uu e=>e.elim
   obtain ⟨fl,ρ₂,H₂,q2,fr,a2,r2⟩:=z
   have rr:=(r'.trans (.of_ext e1)).trans r2
   cases fl with
   | next=>
    cases f<;>try exact fr.elim
    exact ⟨n,Nat.lt_succ_self n,ρ₂,H₂,a2,rr,q2⟩
   | brk=>
    cases f<;>try exact fr.elim
    exact ⟨.next,ρ₂,H₂,q2,trivial,a2,rr⟩
   | ret v=>
    cases f<;>try exact fr.elim
    exact ⟨.ret v,ρ₂,H₂,q2,fr,a2,rr⟩
  | false=>
   simp only [Bool.false_eq_true,if_false]
   exact wpAny_execs_nil ⟨.next,ρ',H₁,q.2 rfl,trivial,a'.ext e1,r'.trans (.of_ext e1)⟩
theorem ss_for {t:T} {it:It} {b:Ss} {tx ix:PySem.Expr} {xs:List Stmt} {p:Pos} (hIt:SI κ Γ lv k it ix) (hb:SSs κ Γ lv k b xs) (ht:okTc t tx=true) (hfold:∀ env x,foldedSetIterable ix env x=pure x):SS κ Γ lv k (.forr t it b) (.For tx ix xs [] p):=fun A env O ρ H s Q a tr=>by
 refine wpAny_For ?_ (hfold env)
 refine wpE (hIt A env O ρ H s _ a tr) fun x _ ⟨l,H₁,s₁,hl,e1,hpi⟩=>wpE hpi fun itv s₂ ⟨I,fp,wr,P,St,hIe,its⟩=>?_
 subst hIe
 refine byc fun hNN=>?_
 have a1:=a.ext e1
 obtain ⟨hh,tt,es'⟩:=its.same
 refine hNN ?_
 subst es'
 have e0:Ext κ H₁ s₁ H₁ { s₁ with heap:=hh,toks:=tt }:=Ext.of_keeps a1.rl its.keep
 have a2:=a1.ext e0
 have wrn:∀ b∈wr,s₁.heap.get? b=none:=its.new
 have wO:∀ b∈wr,¬ O b:=fun b hb ho=>by
  obtain ⟨_,_,o,e,_⟩:=a1.fr.off b ho
  rw [wrn b hb] at e; cases e
 let W:Addr→Prop:=fun b=>b∈wr∨O b
 have hid2:Hid κ W { s₁ with heap:=hh,toks:=tt }:=⟨fun b hb=>by
  rcases hb with hb | hb
  ·obtain ⟨o,e,q,_⟩:=its.obj 0 _ its.here b hb
   exact ⟨o,e,fun t=>by rw [q] at t; cases t⟩
  ·obtain ⟨_,_,o,e,q⟩:=a2.fr.off b hb
   exact ⟨o,e,fun t=>by rw [q] at t; cases t⟩⟩
 have base:Base κ W H₁ { s₁ with heap:=hh,toks:=tt }:=⟨e0.real,hid2,fun b hb=>by
  rcases hb with hb | hb
  ·refine ⟨fun hd=>?_,?_⟩
   ·obtain ⟨ao,hao⟩:=Option.ne_none_iff_exists'.mp hd
    obtain ⟨o,eo,_⟩:=(a1.rl.at_ b ao hao).alive
    rw [wrn b hb] at eo; cases eo
   ·cases q:κ.hb.get? b with
    | none=>rfl
    | some o=>have:=a1.rl.base b o q; rw [wrn b hb] at this; cases this
  ·obtain ⟨n1,n2,_⟩:=a2.fr.off b hb
   exact ⟨n1,n2⟩⟩
 have wz:∀ b∈wr,¬ κ.Z b:=fun b hb hz=>a1.rl.zl b hz (wrn b hb)
 have whole:∀ {H':AH} {s':Shared},Inv κ W H₁ { s₁ with heap:=hh,toks:=tt } H' s'→(∀ b,O b→s'.heap.get? b≠none)→Run O H s H' s':=fun {H' s'} i hO=>by
  obtain ⟨h3,t3,e3⟩:=i.same
  refine (Run.of_ext e1).trans ⟨⟨⟨h3,t3,e3⟩,fun b o hb e=>i.keep b o (fun q=>hb (.inl q)) (fun q=>?_) (its.keep b o e),fun b hb=>?_⟩,fun b hb=>?_⟩
  ·rcases q with q | q
   ·rw [wrn b q] at e; cases e
   ·exact hb (.inr q)
  ·by_cases q:O b
   ·exact hO b q
   ·exact i.live b (fun r=>r.elim (fun r=>hb (wrn b r)) q) (live_of hb (its.keep b))
  ·rcases i.grow b hb with h | h
   ·exact .inl h
   ·right
    cases r:s₁.heap.get? b with
    | none=>rfl
    | some o=>have:=its.keep b o r; rw [this] at h; cases h
 have liveO:∀ {ρ':Ev} {H':AH} {s':Shared},At κ k A env O ρ' H' s'→∀ b,O b→s'.heap.get? b≠none:=fun a' b hb=>by
  obtain ⟨_,_,o,e,_⟩:=a'.fr.off b hb
  rw [e]; simp
 have fpO:∀ b∈fp,¬ O b:=fun b hb ho=>by
  by_cases c:b∈wr
  ·exact wO b c ho
  ·obtain ⟨o,e,q,_⟩:=its.old b hb c
   obtain ⟨_,_,o',e',q'⟩:=a1.fr.off b ho
   rw [e] at e'; cases e'; rw [q] at q'; cases q'
 have hidO:∀ {ρ':Ev} {H':AH} {s' s'':Shared},Hid κ W s'→At κ k A env O ρ' H' s''→(∀ b∈wr,∀ o,s'.heap.get? b=some o→s''.heap.get? b=some o)→Hid κ W s'':=fun hd a' hk=>⟨fun b hb=>by
  rcases hb with hb | hb
  ·obtain ⟨o,e,q⟩:=hd.at_ b (.inl hb)
   exact ⟨o,hk b hb o e,q⟩
  ·obtain ⟨_,_,o,e,q⟩:=a'.fr.off b hb
   exact ⟨o,e,fun t=>by rw [q] at t; cases t⟩⟩
 have S12:=e0.stays a1.rl
 refine codeAny_forLoop_any (fun n s'=>∃ i ρ' H',n=l.length - i∧i≤l.length∧Inv κ W H₁ { s₁ with heap:=hh,toks:=tt } H' s'∧Hid κ W s'∧At κ k A env O ρ' H' s'∧St i s'.heap∧
   loopF (fun x ρ1 H2 C=>asgC t x ρ1 fun ρ2=>trSs Γ lv k b ρ2 H2 C) (l.drop i) ρ' H' Q) (fun n s' hI=>?_) l.length ⟨0,ρ,H₁,by simp,Nat.zero_le _,.start base,hid2,a2,its.here,by rw [List.drop_zero]; exact hl⟩
 refine byc fun hNN=>?_
 obtain ⟨i,ρ',H',rfl,hil,inv,hid,a',st,hl⟩:=hI
 have pk:∀ (h':Heap),(∀ b o,b∉wr→s'.heap.get? b=some o→h'.get? b=some o)→Stays s'.heap (dm κ H') h' (dm κ H')→Frame κ env O ρ' H' h':=fun h' hk S'=>
  a'.fr.poke S' (fun b=>b∈wr) hk wO fun b ov hb hc=>by
   obtain ⟨o,e,_,q⟩:=its.obj i s'.heap st b hb
   obtain ⟨o',e',d⟩:=hc
   rw [e] at e'; cases e'; exact q _ d
 refine hNN ?_
 refine wpAny_mono (next_ok (Qn:=fun r s₁=>_) base inv hid its rfl rfl (fun b hb=>.inl hb) wz S12 st hil ?_ ?_) (fun uu uu z=>z) fun uu uu e=>e.elim
 ·intro x v h' tk hx rx I' hid' st' hk S'
  refine byc fun hNN=>?_
  have hlt:i < l.length:=(List.getElem?_eq_some_iff.mp hx).1
  have hdrop:l.drop i=x::l.drop (i+1):=by
   rw [List.drop_eq_getElem_cons hlt]
   congr 1
   exact (List.getElem?_eq_some_iff.mp hx).2
  rw [hdrop] at hl
  have a'':At κ k A env O ρ' H' { s' with heap:=h',toks:=tk }:=⟨pk h' hk S',I'.real,a'.room⟩
  obtain ⟨oi,ni,hoi,hci,hni⟩:=its.itr (i+1) h' st'
  refine hNN ?_
  dsimp only
  refine letOwned_ok (s:={ s' with heap:=h',toks:=tk }) ht hoi hci hni ?_
  refine wpAny_mono (asgC_ok ht a'' rx (show asgC t x ρ' _ from hl)) (fun uu s3 z=>?_) fun uu uu e=>e.elim
  refine byc fun hNN=>?_
  obtain ⟨ρ1,hq,a3,stp⟩:=z
  have inv3:Inv κ W H₁ { s₁ with heap:=hh,toks:=tt } H' s3:=I'.go base hid' a3.rl (stp.mono fun uu q=>.inr (.inr q)) (.refl _ _)
  have hid3:=hidO hid' a3 fun b hb o e=>stp.keep b o (wO b hb) e
  have st3:St (i+1) s3.heap:=its.walk.frame (i+1) _ _ st' fun b hb o e=>stp.keep b o (fpO b hb) e
  refine hNN ?_
  refine wpAny_mono (hb A env O ρ1 H' s3 _ a3 hq) (fun f s4 z=>?_) fun uu uu e=>e.elim
  refine byc fun hNN=>?_
  obtain ⟨fl,ρ4,H4,q4,fr4,a4,r4⟩:=z
  have inv4:Inv κ W H₁ { s₁ with heap:=hh,toks:=tt } H4 s4:=inv3.go base hid3 a4.rl (r4.step.mono fun uu q=>q.imp id .inr) r4.grow
  have hid4:=hidO hid3 a4 fun b hb o e=>r4.step.keep b o (fun q=>q.elim (Inv.off base inv3 (.inl hb)) (wO b hb)) e
  have st4:St (i+1) s4.heap:=its.walk.frame (i+1) _ _ st3 fun b hb o e=>r4.step.keep b o (fun q=>q.elim (fp_off base inv3 its a1.rl (fun b hb=>.inl hb) its.keep b hb).1 (fpO b hb)) e
  have w4:=whole inv4 (liveO a4)
  refine hNN ?_
  cases fl with
  | next=>
   cases f<;>try exact fr4.elim
   exact ⟨l.length - (i+1),by exact l40 116272671640621349815890074504985732994633691430691869812562148620496402954771 rfl hlt (lsub _ _) (lsub _ _),i+1,ρ4,H4,rfl,hlt,inv4,hid4,a4,st4,q4⟩
  | brk=>
   cases f<;>try exact fr4.elim
   exact ⟨.next,ρ4,H4,q4,trivial,a4,w4⟩
  | ret v=>
   cases f<;>try exact fr4.elim
   exact ⟨.ret v,ρ4,H4,q4,fr4,a4,w4⟩
 ·intro hi' h' tk I' hk S'
  rw [hi',List.drop_length] at hl
  have a'':At κ k A env O ρ' H' { s' with heap:=h',toks:=tk }:=⟨pk h' hk S',I'.real,a'.room⟩
  exact wpAny_execs_nil ⟨.next,ρ',H',hl,trivial,a'',whole I' (liveO a'')⟩
end
end Internal
namespace Internal
open PySem PySem.W PyProof.Rows PySem.Calls
theorem put_comm {x y:Nm} (h:x≠y) (v w:AV):∀ ρ:Ev,put (put ρ x v) y w=put (put ρ y w) x v
 | []=>rfl
 | (z,kd,u)::r=>by
  have ih:=put_comm h v w r
  by_cases e1:z=x
  ·have e2:z≠y:=fun q=>h (e1.symm.trans q)
   simp [put,e1,h,ih]
  ·by_cases e2:z=y
   ·have e3:¬ y=x:=fun q=>h q.symm
    subst e2
    simp [put,e3,ih]
   ·simp [put,e1,e2,ih]
theorem put_all {x:Nm} {v:AV}:∀ (xs:List Nm) (l:List AV) (ρ:Ev),x∉xs→putAll (put ρ x v) xs l=put (putAll ρ xs l) x v
 | [],l,ρ,_=>by cases l<;>rfl
 | y::xs,[],ρ,_=>rfl
 | y::xs,w::l,ρ,h=>by
  show putAll (put (put ρ x v) y w) xs l=put (putAll (put ρ y w) xs l) x v
  rw [put_comm (fun q=>h (by simp [q])),put_all xs l _ fun q=>h (by simp [q])]
theorem putAll_snoc {x:Nm} {v:AV}:∀ (xs:List Nm) (l:List AV) (ρ:Ev),xs.length=l.length→putAll ρ (xs++[x]) (l++[v])=put (putAll ρ xs l) x v
 | [],[],ρ,_=>rfl
 | y::xs,w::l,ρ,h=>putAll_snoc xs l (put ρ y w) (by simpa using h)
 | [],_::_,_,h=>by simp at h
 | _::_,[],_,h=>by simp at h
theorem putAll_rev:∀ (xs:List Nm) (l:List AV) (ρ:Ev),xs.length=l.length→xs.Nodup→putAll ρ xs.reverse l.reverse=putAll ρ xs l
 | [],[],ρ,_,_=>rfl
 | x::xs,v::l,ρ,h,hn=>by
  obtain ⟨n1,n2⟩:=List.nodup_cons.mp hn
  rw [List.reverse_cons,List.reverse_cons,putAll_snoc _ _ _ (by simpa using h),putAll_rev xs l ρ (by simpa using h) n2]
  exact (put_all xs l ρ n1).symm
 | [],_::_,_,h,_=>by simp at h
 | _::_,[],_,h,_=>by simp at h
set_option backward.match.sparseCases false in
noncomputable def isStar:PySem.Expr→Bool
 | .Starred .. => true
 | _=>false
set_option backward.match.sparseCases false in
noncomputable def isComp:PySem.Expr→Bool
 | .ListComp .. | .SetComp .. | .DictComp .. => true
 | _=>false
theorem swaps_no {v:PySem.Expr} (h:isComp v=false) (t:Option PySem.Expr) (line:Nat) (env:Env):swapsWith v t line env=pure false:=by
 cases v<;>first | rfl | cases h
theorem names_ids (f:PySem.Expr→Option Str) (hf:∀ id p,f (.Name id p)=some id∨f (.Name id p)=none):∀ (xs:List Nm) (ts:List PySem.Expr),namesOk xs ts=true→(ts.filterMap f).length=ts.length→ts.filterMap f=xs.map Nm.s
 | [],[],_,_=>rfl
 | [],_::_,h,_=>ff h
 | x::xs,ts,h,hl=>by
  obtain ⟨p,zs,rfl,h'⟩:=namesOk_inv h
  rw [List.filterMap_cons] at hl ⊢
  rcases hf x.s p with e | e
  ·rw [e] at hl ⊢
   exact congrArg (x.s::·) (names_ids f hf xs zs h' (Nat.succ.inj hl))
  ·rw [e] at hl
   exact absurd (Nat.lt_of_lt_of_eq (Nat.lt_succ_of_le (List.length_filterMap_le f zs)) hl.symm) (Nat.lt_irrefl _)
theorem ite_or {α:Type} {c:Prop} [Decidable c] {a b x y:α} (h1:c→a=x∨a=y) (h2:¬ c→b=x∨b=y):(if c then a else b)=x∨(if c then a else b)=y:=by
 by_cases h:c
 ·rw [if_pos h]; exact h1 h
 ·rw [if_neg h]; exact h2 h
set_option backward.match.sparseCases false in
noncomputable def okSwap:PySem.Expr→Bool
 | .Tuple vs _ _ => !(vs.all (constantsAlone 8)) || vs.all (foldedForSure 8)
 | _=>true
theorem swapped_cases {xs:List Nm} {ts:List PySem.Expr} {v:PySem.Expr} {n p} {env:Env} (ho:namesOk xs ts=true) (hc:okSwap v=true):
  swappedStores [.Tuple ts n p] v env=pure none∨swappedStores [.Tuple ts n p] v env=pure (some (xs.map Nm.s)):=by
 set_option tactic.hygienic true in cases v<;>try exact .inl rfl
 rename_i vs n2 p2
 refine ite_or (fun uu=>.inl rfl) fun uu=>ite_or (fun uu=>.inl rfl) fun uu=>ite_or (fun uu=>.inl rfl) fun h3=>ite_or (fun uu=>.inl rfl) fun h4=>ite_or (fun h5=>?_) fun uu=>.inr ?_
 ·rcases Bool.or_eq_true_iff.mp (show (!(vs.all (constantsAlone 8)) || vs.all (foldedForSure 8))=true from hc) with hc | hc
  ·rw [Bool.not_eq_true'] at hc; rw [hc] at h5; cases h5
  ·exact absurd hc h4
 ·rw [Bool.or_eq_true,not_or,bne_iff_ne,Decidable.not_not] at h3
  exact congrArg (fun l=>pure (some l)) (names_ids _ (fun id p=>ite_or (fun uu=>.inl rfl) fun uu=>.inr rfl) xs ts ho h3.1)
section
variable {A:Around} {κ:Adr} {env:Env} {O:Addr→Prop} {ρ:Ev} {H H₁:AH} {s s₁:Shared} {Γ:Fn→List AV→AH→P1→Prop} {lv:Fn→Nat} {k:Nat}
theorem bind_many:∀ (xs:List Nm) (l:List AV) (vs:List Value) (ρ:Ev) (s:Shared) (Q:Ev→Prop),At κ k A env O ρ H s→RA s.heap (dm κ H) l vs→l.length=xs.length→(∀ x∈xs,canPut ρ x=true)→Q (putAll ρ xs l)→
  wpAny (model κ.prog κ.w) A (assignInOrder (xs.map fun n=>bindName env n.s) vs) (PostA κ k A env O H s Q) NoE s:=by
 intro xs
 induction xs with
 | nil=>
  intro l vs ρ s Q a ra hl hc q
  cases ra with
  | cons _ _=>exact absurd hl (Nat.succ_ne_zero _)
  | nil=>exact wpAny_pure ⟨ρ,q,a,.refl _ _⟩
 | cons x xs ih=>
  intro l vs ρ s Q a ra hl hc q
  cases ra with
  | nil=>exact absurd hl.symm (Nat.succ_ne_zero _)
  | @cons v w l vs r ra=>
   show wpAny _ _ (do holding vs (bindName env x.s w); assignInOrder (xs.map fun n=>bindName env n.s) vs) _ _ _
   refine wpAny_bind (wpAny_holding (wpAny_bindName (wpE (store_ok (Q:=fun ρ'=>ρ'=put ρ x v) a r ⟨hc x List.mem_cons_self,rfl⟩) fun _ s' ⟨ρ',e,a',st⟩=>?_)))
   subst e
   exact wpE (ih l vs (put ρ x v) s' Q a' (ra.stays (own_stays a.fr a.rl st)) (Nat.succ.inj hl) (fun y hy=>put_can (hc y (List.mem_cons_of_mem _ hy))) q) fun uu uu z=>z.from st
theorem PostA.toS {Q:PS} {u:Unit} {s':Shared} (p:PostA κ k A env O H s (fun ρ'=>Q .next ρ' H) u s'):PostS κ k A env O H s Q .next s':=let ⟨ρ',q,a,st⟩:=p; ⟨.next,ρ',H,q,trivial,a,.of_own st⟩
theorem ss_asgC {t:T} {e:E} {tx vx:PySem.Expr} {p:Pos} (h:SE κ Γ lv k e vx) (ho:okTc t tx=true) (hc:isComp vx=false) (hs:okSwap vx=true) (ht:(∃ x,t=.name x)∨∃ xs,t=.tup xs):SS κ Γ lv k (.assign t e) (.Assign [tx] vx p):=fun A env O ρ H s Q a tr=>by
 have hsole:swapsWithSole [tx] vx p.line env=pure false:=swaps_no hc _ _ _
 rcases ht with ⟨x,rfl⟩ | ⟨xs,rfl⟩
 ·obtain ⟨pp,rfl⟩:=isNm_inv ho
  refine wpAny_Assign_stores (h.go a tr fun r v H₁ s₁ q e1 r1=>?_) hsole rfl
  show wpAny _ A (assign _ env v) _ _ s₁
  exact wpE (asgC_ok ho (a.ext e1) r1 (show asgC _ r ρ (fun ρ'=>Q .next ρ' H₁) from q)) fun uu uu z=>z.toS.from (.of_ext e1)
 ·obtain ⟨ts,n,pp,rfl,hno⟩:=okTup_inv ho
  rcases swapped_cases (n:=n) (p:=pp) (env:=env) hno hs with hw | hw
  ·refine wpAny_Assign_stores (h.go a tr fun r v H₁ s₁ q e1 r1=>?_) hsole hw
   show wpAny _ A (assign _ env v) _ _ s₁
   exact wpE (asgC_ok ho (a.ext e1) r1 (show asgC _ r ρ (fun ρ'=>Q .next ρ' H₁) from q)) fun uu uu z=>z.toS.from (.of_ext e1)
  ·refine Assign_Tuple_swapped (h.go a tr fun r v H₁ s₁ q e1 r1=>?_) hsole hw
   refine byc fun hNN=>?_
   obtain ⟨l,rfl,hl,hnd,hcp,q⟩:=q
   obtain ⟨ad,vs,rfl,htp,z,ra⟩:=r1.tup_inv
   have hz:vs.size=l.length:=by have:=ra.length; simpa using this
   have hlen:(xs.map Nm.s).length=vs.size:=by rw [List.length_map,hz,hl]
   refine hNN ?_
   rw [hlen]
   have a1:=a.ext e1
   refine unpackItems_tuple a.room.hand htp fun h' hk=>?_
   have keep:∀ b o,s₁.heap.get? b=some o→h'.get? b=some o:=fun b o e=>hk b o (Nat.ne_of_lt (Heap.lt_size e)) e
   have e0:Ext κ H₁ s₁ H₁ { s₁ with heap:=h' }:=Ext.of_keeps (tk:=s₁.toks) a1.rl keep
   rw [← List.map_reverse,List.map_map]
   refine wpE (bind_many (Q:=fun ρ'=>Q .next ρ' H₁) xs.reverse l.reverse vs.toList.reverse ρ _ (a1.ext e0) (ra.ext a1.rl e0).reverse (by simp [hl]) (fun x hx=>hcp x (List.mem_reverse.mp hx)) ?_) fun uu uu z=>z.toS.from ((Run.of_ext e1).trans (.of_ext e0))
   rw [putAll_rev xs l ρ hl.symm hnd]
   exact q
theorem ss_asgAttr (F:Fit1 κ) {o e:E} {y:Nm} {ox vx:PySem.Expr} {p q:Pos} (h:SE κ Γ lv k e vx) (h2:SE κ Γ lv k o ox) (hc:isComp vx=false):SS κ Γ lv k (.assign (.attr o y) e) (.Assign [.Attribute ox y.s q] vx p):=fun A env O ρ H s Q a tr=>by
 refine wpAny_Assign_stores (h.go a tr fun r v H₁ s₁ q e1 r1=>?_) (swaps_no hc (some (.Attribute ox y.s q)) p.line env) rfl
 show wpAny _ A (assign _ env v) _ _ s₁
 rw [arm_assign_Attribute]
 have a1:=a.ext e1
 refine wpAny_bind (wpAny_holding (h2.go a1 q fun r' v' H₂ s₂ q2 e2 r2=>wpAny_bind (wpAny_standAt (wpAny_bind (wpAny_holding (wpE (setAt_ok F.toFit0 e2.real r2 (r1.ext e1.real e2) q2) fun _ s₃ ⟨H₃,q3,e3⟩=>wpAny_release ?_))))))
 have e13:=(e1.trans e2).trans e3
 exact ⟨.next,ρ,H₃,q3,trivial,a.ext e13,.of_ext e13⟩
theorem ss_asgSub {o i e:E} {ox ix vx:PySem.Expr} {p q:Pos} (h:SE κ Γ lv k e vx) (h2:SE κ Γ lv k o ox) (h3:SE κ Γ lv k i ix) (hc:isComp vx=false):SS κ Γ lv k (.assign (.sub o i) e) (.Assign [.Subscript ox ix q] vx p):=fun A env O ρ H s Q a tr=>by
 refine wpAny_Assign_stores (h.go a tr fun r v H₁ s₁ q e1 r1=>?_) (swaps_no hc (some (.Subscript ox ix q)) p.line env) rfl
 show wpAny _ A (assign _ env v) _ _ s₁
 rw [arm_assign_Subscript]
 have a1:=a.ext e1
 refine wpAny_bind (wpAny_holding (h2.go a1 q fun r' v' H₂ s₂ q2 e2 r2=>wpAny_bind (wpAny_holding (h3.go (a1.ext e2) q2 fun r'' v'' H₃ s₃ q3 e3 r3=>wpAny_bind (wpAny_standAt (wpAny_bind (wpAny_holding ?_)))))))
 refine wpE (setItem_ok e3.real (r2.ext e2.real e3) r3 (r1.ext e1.real (e2.trans e3)) q3) fun _ s₄ ⟨H₄,q4,e4⟩=>wpAny_release ?_
 have e14:=((e1.trans e2).trans e3).trans e4
 exact ⟨.next,ρ,H₄,q4,trivial,a.ext e14,.of_ext e14⟩
end
end Internal
namespace Internal
open PySem PySem.W PyProof.Rows PySem.Calls
theorem owner_rev:Manifest.owners.lookup (String.ofList ['d','e','s','r','e','v','e','r'].reverse)=some Manifest.sig_reversed:=by kernel_rfl
theorem slot_rev_next:Slot "reversed" "__next__" "reversed.__next__" :=
 .of (owner := "reversed") (n := "__next__") (by rw [typeLookup_type,builtinLookup_eq_fast]; kernel_rfl) (by decide +kernel) (by decide +kernel) (by decide +kernel)
  (by first | exact .inl (by decide +kernel) | exact .inr (by decide +kernel)) (by rw [isSubtype_type]; kernel_rfl)
theorem slot_rev_iter:Slot "reversed" "__iter__" "reversed.__iter__" :=
 .of (owner := "reversed") (n := "__iter__") (by rw [typeLookup_type,builtinLookup_eq_fast]; kernel_rfl) (by decide +kernel) (by decide +kernel) (by decide +kernel)
  (by first | exact .inl (by decide +kernel) | exact .inr (by decide +kernel)) (by rw [isSubtype_type]; kernel_rfl)
theorem entry_rev_next:entryFor table "reversed.__next__" = some Builtin.«reversed.__next__» := entryFor_of_tree (by kernel_rfl)
theorem entry_rev_iter:entryFor table "reversed.__iter__" = some Builtin.«dict_keyiterator.__iter__» :=
 entryFor_alias (id' := "dict_keyiterator.__iter__") (by kernel_rfl) (by first | rfl | decide +kernel | (unfold String.splitOn; simp +decide [String.splitOnAux])) (by decide +kernel) (by kernel_rfl)
theorem args_rev_next (a:Value):argsOk "reversed.__next__" ⟨[a],[]⟩:=by
 unfold argsOk; rw [signature?_of (id := "reversed.__next__") (n:=['_','_','t','x','e','n','_','_']) (o:=['d','e','s','r','e','v','e','r']) (by kernel_rfl) owner_rev]; kernel_rfl
theorem args_rev_iter (a:Value):argsOk "reversed.__iter__" ⟨[a],[]⟩:=by
 unfold argsOk; rw [signature?_of (id := "reversed.__iter__") (n:=['_','_','r','e','t','i','_','_']) (o:=['d','e','s','r','e','v','e','r']) (by kernel_rfl) owner_rev]; kernel_rfl
theorem called_rev:TypeCalled "reversed" "reversed.__new__" "object.__init__" where
 notType:=by decide +kernel
 canCreate:=F.create_reversed
 mro:=⟨_,_,F.mro_reversed⟩
 made:=F.made_reversed
 plain:=F.plain_reversed_new
 sub:=F.sub_reversed_self
 init:=.of (T := "reversed") (name := "__init__") (owner := "object") (n := "__init__") (by rw [typeLookup_type,builtinLookup_eq_fast]; kernel_rfl) (by decide +kernel) (by decide +kernel) (by decide +kernel)
  (.inl (by decide +kernel)) (by rw [isSubtype_type]; kernel_rfl)
theorem tup_no_rev:typeLookup (.type "tuple") "__reversed__" = pure none:=by rw [typeLookup_type,builtinLookup_eq_fast]; kernel_rfl
theorem tup_no_dict:isSubtype (.type "tuple") (.type "dict")=pure false:=by rw [isSubtype_type]; kernel_rfl
noncomputable def revT (t:Addr) (i:Int):Obj:={ cls:=.type "reversed",data:=.fields #[.ref t,rawInt i] }
noncomputable def IsRevT (h:Heap) (a t:Addr) (i:Int):Prop:=∃ o,h.get? a=some o∧o.cls=.type "reversed" ∧ o.data=.fields #[.ref t,rawInt i]
theorem rev_new (t:Addr) (items:Array Value):Meets (Builtin.«reversed.__new__» ⟨[.type "reversed",.ref t],[]⟩)
  (fun uu R s=>IsTup s.heap t items∧(items.size:Int) < 2 ^ 63∧∀ tk,R (.ok (.ret (.ref s.heap.objs.size))) { s with heap:=s.heap.push (revT t ((items.size:Int) - 1)),toks:=tk }):=
 .of_wp fun prog w A R s hs=>by
  obtain ⟨ht,hz,h⟩:=hs
  have hT:s.TypeIs (.ref t) "tuple" := ht.typeIs
  unfold Builtin.«reversed.__new__»
  refine wpAny_bind (wpAny_of_eq (newClass_reversed _) ?_)
  try dsimp only
  refine wpAny_bind (wpAny_of_eq (a:=()) (by first | rfl | kernel_rfl) ?_)
  refine wpAny_bind (wpAny_of_eq (a:=()) (by first | rfl | kernel_rfl) ?_)
  try dsimp only
  refine wpAny_bind (wpAny_specialOf hT tup_no_rev ?_)
  try dsimp only
  refine wpAny_bind ?_
  show wpAny _ _ (do
   if ← isInstance (.ref t) (.type "dict") then return false
   match ← specialOf (.ref t) "__getitem__" with
   | none=>return false
   | some (.builtin id)=>
    if ["tuple.__getitem__","str.__getitem__","bytes.__getitem__","bytearray.__getitem__","memoryview.__getitem__","numpy.ndarray.__getitem__","sqlite3.Row.__getitem__"].contains id then return true
    if id == "sqlite3.Blob.__getitem__" then return false
    unsupported "reversed.__new__:is-it-a-sequence"
   | some _=>return true) _ _ s
  refine wpAny_bind (wpAny_isInstance (T := "tuple") (b:=false) hT tup_no_dict ?_)
  simp only [Bool.false_eq_true,if_false]
  refine wpAny_bind (wpAny_specialOf hT PySem.F.slot_tuple_getitem.lookup ?_)
  dsimp only
  rw [if_pos (by decide +kernel)]
  refine wpAny_pure ?_
  simp only [Bool.not_true,Bool.false_eq_true,if_false]
  refine wpAny_bind (len_tuple ht hz ?_)
  refine wpAny_bind (m:=asInt? _) (wpAny_pure ?_)
  dsimp only
  refine wpAny_bind (m:=Builtin.SmallTypes.newRecord _ _) ?_
  show wpAny _ _ (newObj (.type "reversed") (.fields #[.ref t,rawInt ((items.size:Int) - 1)])) _ _ _
  exact wpAny_newObj_type (wpAny_pure ⟨_,rfl,h _⟩)
section
variable {prog:Program} {w:World} {A:Around} {E:Value→Shared→Prop} {s:Shared}
theorem init_ok (self:Value) (t:Value):argsOk "object.__init__" ⟨self::[t],[]⟩:=by unfold argsOk; kernel_rfl
theorem call_rev {t:Addr} {items:Array Value} {Q:Value→Shared→Prop} (ht:IsTup s.heap t items) (hz:(items.size:Int) < 2 ^ 63)
  (h:∀ tk,Q (.ref s.heap.objs.size) { s with heap:=s.heap.push (revT t ((items.size:Int) - 1)),toks:=tk }):wpAny (model prog w) A (call (.type "reversed") [.ref t]) Q E s:=by
 refine callType_new called_rev (by decide +kernel) (F.typeCall_reversed_1 _) (F.newCall_reversed_1 _) (fun obj=>init_ok obj _) F.entry_reversed_new (rev_new t items) ⟨ht,hz,fun tk=>?_⟩
 exact ⟨⟨_,Heap.get?_push_size _ rfl,rfl⟩,h tk⟩
theorem rev_item {it t:Addr} {i:Nat} {items:Array Value} {x:Value} {Q:Option Value→Shared→Prop} (hit:IsRevT s.heap it t (i:Int)) (ht:IsTup s.heap t items) (hx:items[i]?=some x) (hz:(items.size:Int) < 2 ^ 63)
  (hQ:∀ h' tk,IsRevT h' it t ((i:Int) - 1)→Heap.SameBut it s.heap h'→Q (some x) { s with heap:=h',toks:=tk }):wpAny (model prog w) A (pyNext (.ref it)) Q E s:=by
 obtain ⟨o,ho,hc,hd⟩:=id hit
 have hlt:i < items.size:=(Array.getElem?_eq_some_iff.mp hx).1
 unfold pyNext
 refine wpAny_bind (wpAny_attempt (wpAny_callSpecial?_slot (name:=Str.ofString "__next__") ⟨o,ho,hc⟩ slot_rev_next
  (wpAny_call_entry slot_rev_next ⟨o,ho,hc⟩ entry_rev_next ?_ (args_rev_next _))))
 unfold Builtin.«reversed.__next__»
 refine wpAny_bind (wpAny_of_eq (a:=(Value.ref it,[])) rfl ?_)
 try dsimp only
 refine wpAny_bind (wpAny_field ho hd (x:=.ref t) rfl ?_)
 refine wpAny_bind (wpAny_field ho hd (x:=rawInt (i:Int)) rfl ?_)
 show wpAny _ _ (if (i:Int) < 0 then _ else _) _ _ s
 rw [if_neg (by exact l10 23753824 rfl)]
 refine wpAny_bind (wpAny_specialOf ht.typeIs PySem.F.slot_tuple_getitem.lookup ?_)
 simp only [Option.isNone_some,Bool.false_eq_true,if_false]
 refine wpAny_bind (wpAny_mkInt ?_)
 have hseq:seqIndex? (i:Int) items.size=some i:=by
  have e:(if (i:Int) < 0 then (i:Int)+(items.size:Int) else (i:Int))=i:=if_neg (by exact l10 23753824 rfl)
  unfold seqIndex?
  simp only [e]
  rw [if_pos (by simp only [Bool.and_eq_true,decide_eq_true_eq]; exact l20 314799264616660056593 rfl hlt)]
  simp
 refine wpAny_bind (wpAny_attempt (getItem_tuple (s:={ s with toks:=s.toks+1 }) ht (by exact l21 19480415217473 rfl hz) (by exact l21 77031186217215810 rfl hz hlt) hseq hx ?_))
 dsimp only
 refine wpAny_bind (wpAny_field (s:={ s with toks:=s.toks+1 }) ho hd (x:=rawInt (i:Int)) rfl ?_)
 show wpAny _ _ (setField (.ref it) 1 (rawInt ((i:Int) - 1)) >>= fun uu=>ret x) _ _ _
 refine wpAny_bind (wpAny_setField (s:={ s with toks:=s.toks+1 }) ho hd (by simp) ?_)
 first
 | refine wpAny_pure ⟨x,rfl,wpAny_pure (hQ _ _ ?_ (Heap.SameBut.update ..))⟩
 | refine wpAny_bind (wpAny_pure (wpAny_pure ⟨x,rfl,wpAny_pure (hQ _ _ ?_ (Heap.SameBut.update ..))⟩))
 exact ⟨_,Heap.get?_update_self _ ho (Obj.isFreed_of_fields (Obj.data_mapFields hd _)),(Obj.cls_mapFields ..).trans hc,by
  rw [Obj.data_mapFields hd]; simp⟩
theorem rev_end {it t:Addr} {Q:Option Value→Shared→Prop} (hh:A.handled=none) (hit:IsRevT s.heap it t (-1))
  (hQ:∀ h',Heap.ExtBut it s.heap h'→Q none { s with heap:=h' }):wpAny (model prog w) A (pyNext (.ref it)) Q E s:=by
 obtain ⟨o,ho,hc,hd⟩:=id hit
 unfold pyNext
 refine wpAny_bind (wpAny_attempt (wpAny_callSpecial?_slot (name:=Str.ofString "__next__") ⟨o,ho,hc⟩ slot_rev_next
  (wpAny_call_entry slot_rev_next ⟨o,ho,hc⟩ entry_rev_next ?_ (args_rev_next _))))
 unfold Builtin.«reversed.__next__»
 refine wpAny_bind (wpAny_of_eq (a:=(Value.ref it,[])) rfl ?_)
 try dsimp only
 refine wpAny_bind (wpAny_field ho hd (x:=.ref t) rfl ?_)
 refine wpAny_bind (wpAny_field ho hd (x:=rawInt (-1)) rfl ?_)
 show wpAny _ _ (if (-1:Int) < 0 then _ else _) _ _ s
 rw [if_pos (by decide)]
 refine wpAny_bind (wpAny_rule ?_)
 refine wpAny_bind ?_
 show wpAny _ _ (setField (.ref it) 1 (rawInt (-1)) >>= fun uu=>setField (.ref it) 0 .none) _ _ _
 refine wpAny_bind (wpAny_setField ho hd (by simp) ?_)
 have ho2:(s.heap.update it (Obj.mapFields fun vs=>vs.setIfInBounds 1 (rawInt (-1)))).get? it=some (Obj.mapFields (fun vs=>vs.setIfInBounds 1 (rawInt (-1))) o):=Heap.get?_update_self _ ho (Obj.isFreed_of_fields (Obj.data_mapFields hd _))
 refine wpAny_setField (s:={ s with heap:=s.heap.update it (Obj.mapFields fun vs=>vs.setIfInBounds 1 (rawInt (-1))) }) ho2 (Obj.data_mapFields hd _) (by simp) ?_
 first
 | show wpAny _ _ (newExc (.type "StopIteration") [] >>= _) _ _ _
 | (refine wpAny_bind ?_; show wpAny _ _ (newExc (.type "StopIteration") [] >>= _) _ _ _)
 refine wpAny_bind ?_
 simp only [newExc,newTuple]
 refine wpAny_bind (wpAny_newObj_type ?_ (by size_fits))
 refine wpAny_bind (m:=firstArgMember _ _) (wpAny_of_eq (a:=Value.none) (by first | rfl | (simp only [firstArgMember]; rfl)) ?_)
 refine wpAny_newObj_type ?_ (by size_fits)
 simp only [raiseNew]
 refine wpAny_bind (wpAny_handled ?_)
 first | rw [show A.in1.handled=none from hh] | rw [hh]
 refine wpAny_bind (wpAny_pure (wpAny_throw ?_))
 refine wpAny_bind (wpAny_isInstance (T := "StopIteration") (b:=true) ⟨_,Heap.get?_push_size _ rfl,rfl⟩ isSubtype_stop ?_)
 exact wpAny_pure (hQ _ ((((Heap.SameBut.update ..).trans (Heap.SameBut.update ..)).extBut.push _).push _))
theorem rev_iter {it t:Addr} {i:Int} {Q:Value→Shared→Prop} (hit:IsRevT s.heap it t i) (h:Q (.ref it) s):wpAny (model prog w) A (pyIter (.ref it)) Q E s:=by
 refine byc fun hNN=>?_
 obtain ⟨o,ho,hc,hd⟩:=id hit
 refine hNN ?_
 refine wpAny_pyIter_slot ⟨o,ho,hc⟩ slot_rev_iter (wpAny_call_entry slot_rev_iter ⟨o,ho,hc⟩ entry_rev_iter ?_ (args_rev_iter _))
 show wpAny _ _ (ret (.ref it)) _ _ s
 exact wpAny_pure ⟨_,rfl,"reversed",_,⟨o,ho,hc⟩,slot_rev_next.lookup,h⟩
end
theorem IsRevT.at {h h':Heap} {a l:Addr} {i:Int} (x:IsRevT h a l i) (e:∀ o,h.get? a=some o→h'.get? a=some o):IsRevT h' a l i:=let ⟨o,ho,r⟩:=x; ⟨o,e _ ho,r⟩
theorem walks_rev {prog:Program} {w:World} {A:Around} (hh:A.handled=none) (I t:Addr) (hne:t≠I) (items:Array Value) (hz:(items.size:Int) < 2 ^ 63):
  Walks prog w A I [I,t] [I] items.size (fun i v=>items[items.size - 1 - i]?=some v) (fun i h=>i≤items.size∧IsRevT h I t ((items.size:Int) - 1 - (i:Int))∧IsTup h t items) where
 sub:=fun b hb=>by simp at hb; simp [hb]
 frame:=fun uu uu uu x hk=>⟨x.1,x.2.1.at fun o e=>hk I (by simp) o e,by obtain ⟨o,e,r⟩:=x.2.2; exact ⟨o,hk t (by simp) o e,r⟩⟩
 item:=fun i s Q E hi x hQ=>by
  have e:(items.size:Int) - 1 - (i:Int)=((items.size - 1 - i:Nat):Int):=by exact l40 2472282750368771507339148095736078815300168861582112417053590234818921918434470729683928441790652982370798512159251 rfl hi (lsub _ _) (lsub _ _)
  have hit:=x.2.1
  rw [e] at hit
  have hx:items[items.size - 1 - i]?=some (items[items.size - 1 - i]'(by exact l30 19648110590891069777 rfl e)):=Array.getElem?_eq_getElem (by exact l30 19648110590891069777 rfl e)
  refine rev_item hit x.2.2 hx hz fun h' tk hit' hs'=>?_
  have e2:((items.size - 1 - i:Nat):Int) - 1=(items.size:Int) - 1 - ((i+1:Nat):Int):=by exact l30 1412630982478139346148306823988842833 rfl e
  rw [e2] at hit'
  exact hQ _ h' tk hx ⟨hi,hit',by obtain ⟨o,eo,r⟩:=x.2.2; exact ⟨o,(hs'.2 t hne).trans eo,r⟩⟩ fun b o hb eo=>hs'.extBut b o (fun h=>hb (by simp [h])) eo
 done:=fun s Q E x hQ=>by
  have e:(items.size:Int) - 1 - (items.size:Int)=-1:=by exact l10 304815802880336 rfl
  have hit:=x.2.1
  rw [e] at hit
  exact rev_end hh hit fun h' he'=>hQ h' s.toks fun b o hb eo=>he' b o (fun h=>hb (by simp [h])) eo
 self:=fun uu uu uu uu x hQ=>rev_iter x.2.1 hQ
section
variable {A:Around} {κ:Adr} {env:Env} {O:Addr→Prop} {ρ:Ev} {H H₁:AH} {s s₁:Shared} {Γ:Fn→List AV→AH→P1→Prop} {lv:Fn→Nat} {k:Nat}
theorem i_rev (F:Fit1 κ) {e:E} {x:PySem.Expr} {p q:Pos} (h:SE κ Γ lv k e x) (hs:isStar x=false):SI κ Γ lv k (.rev e) (.Call (.Name Nm.reversed.s p) [x] [] q):=fun A env O ρ H s Q a t=>by
 obtain ⟨⟨w0,hw0⟩,t⟩:=t
 obtain ⟨mg,mb,hgl,hb,_,_,hr,_⟩:=F.gl
 rw [arm_eval_Call_Name']
 refine wpAny_bind (wpAny_Name ?_ (nm_debug .reversed))
 rw [loadName_read a.fr.kind (a.fr.glo _ w0 hw0)]
 refine loadGlobal_builtin (by rw [a.fr.glob]; exact hgl.keeps a.rl.base) hr.1 (by rw [a.fr.blt]; exact hb.keeps a.rl.base) hr.2 ?_
 have hst:∀ env,starEach [x] env=[(false,eval x env)]:=fun env=>by cases x<;>first | rfl | cases hs
 have hn:NoStar [x]:=fun env=>by rw [hst]; rfl
 refine PySem.callWith_type (noStar_back hn _ _) (evalArgs_all (noStar_back hn _ _) ?_)
 rw [hst]
 show wpAny _ A (spliced [(false,eval x env)]) _ _ s
 refine spliced_cons (h.go a t fun r v H₁ s₁ q1 e1 r1=>spliced_nil ?_)
 obtain ⟨l,rfl,q1⟩:=q1
 obtain ⟨ad,vs,rfl,ht,z,ra⟩:=r1.tup_inv
 have hz:vs.size=l.length:=by have:=ra.length; simpa using this
 have hzz:(vs.size:Int) < 2 ^ 63:=by rw [hz]; exact lim63 z
 refine call_rev ht hzz fun tk=>?_
 have hlt:ad < s₁.heap.objs.size:=by obtain ⟨o,e,_⟩:=ht; exact Heap.lt_size e
 have hr0:IsRevT (s₁.heap.push (revT ad ((vs.size:Int) - 1))) s₁.heap.objs.size ad ((vs.size:Int) - 1):=⟨_,Heap.get?_push_size _ rfl,rfl,rfl⟩
 refine ⟨l.reverse,H₁,s₁,q1,e1,rev_iter hr0 ⟨s₁.heap.objs.size,[s₁.heap.objs.size,ad],[s₁.heap.objs.size],fun i v=>vs[vs.size - 1 - i]?=some v,fun i h=>i≤vs.size∧IsRevT h s₁.heap.objs.size ad ((vs.size:Int) - 1 - (i:Int))∧IsTup h ad vs,rfl,?_⟩⟩
 have W:=walks_rev (prog:=κ.prog) (w:=κ.w) a.room.hand s₁.heap.objs.size ad (Nat.ne_of_lt hlt) vs hzz
 have hlen:vs.size=l.reverse.length:=by rw [List.length_reverse,hz]
 refine ⟨hlen▸W,⟨Nat.zero_le _,by simpa using hr0,?_⟩,⟨_,tk,rfl⟩,fun b o e=>Heap.get?_push_of_some _ e,fun b hb=>?_,fun i h st b hb=>?_,fun b hb hn=>?_,fun i h st=>?_,fun i v x hv hx h D S=>?_⟩
 ·obtain ⟨o,e,r⟩:=ht; exact ⟨o,Heap.get?_push_of_some _ e,r⟩
 ·rw [List.mem_singleton] at hb; subst hb; exact fresh_none s₁
 ·rw [List.mem_singleton] at hb; subst hb
  obtain ⟨o,e,c,d⟩:=st.2.1
  exact ⟨o,e,by unfold sf; rw [d,c]; rfl,fun v q=>by rw [d] at q; cases q⟩
 ·have:b=ad:=by
   simp only [List.mem_cons,List.not_mem_nil,or_false] at hb hn
   exact hb.resolve_left hn
  subst this
  obtain ⟨o,e,c,n,d⟩:=ht
  exact ⟨o,e,sf_seq d,fun q=>by rw [c] at q; exact absurd (Value.type.inj q) (by decide)⟩
 ·obtain ⟨o,e,c,d⟩:=st.2.1
  exact ⟨o,_,e,c,by decide +kernel⟩
 ·have hi:i < l.length:=by have:=(List.getElem?_eq_some_iff.mp hx).1; simpa using this
  rw [List.getElem?_reverse hi] at hx
  have hv':vs.toList[l.length - 1 - i]?=some v:=by rw [hz] at hv; simpa using hv
  exact (ra.get' hx hv').stays S
end
end Internal
namespace Internal
open PySem PySem.W PyProof.Rows PySem.Calls
theorem an3 {P:Prop} {a1 a2 a3:Bool} (h:(a1&&(a2&&a3))=true) (f:a1=true→a2=true→a3=true→P):P:=f (an h).1 (an (an h).2).1 (an (an h).2).2
theorem an5 {P:Prop} {a1 a2 a3 a4 a5:Bool} (h:(a1&&(a2&&(a3&&(a4&&a5))))=true) (f:a1=true→a2=true→a3=true→a4=true→a5=true→P):P:=f (an h).1 (an (an h).2).1 (an (an (an h).2).2).1 (an (an (an (an h).2).2).2).1 (an (an (an (an h).2).2).2).2
theorem an6 {P:Prop} {a1 a2 a3 a4 a5 a6:Bool} (h:(a1&&(a2&&(a3&&(a4&&(a5&&a6)))))=true) (f:a1=true→a2=true→a3=true→a4=true→a5=true→a6=true→P):P:=f (an h).1 (an (an h).2).1 (an (an (an h).2).2).1 (an (an (an (an h).2).2).2).1 (an (an (an (an (an h).2).2).2).2).1 (an (an (an (an (an h).2).2).2).2).2
theorem an7 {P:Prop} {a1 a2 a3 a4 a5 a6 a7:Bool} (h:(a1&&(a2&&(a3&&(a4&&(a5&&(a6&&a7))))))=true) (f:a1=true→a2=true→a3=true→a4=true→a5=true→a6=true→a7=true→P):P:=f (an h).1 (an (an h).2).1 (an (an (an h).2).2).1 (an (an (an (an h).2).2).2).1 (an (an (an (an (an h).2).2).2).2).1 (an (an (an (an (an (an h).2).2).2).2).2).1 (an (an (an (an (an (an h).2).2).2).2).2).2
theorem an8 {P:Prop} {a1 a2 a3 a4 a5 a6 a7 a8:Bool} (h:(a1&&(a2&&(a3&&(a4&&(a5&&(a6&&(a7&&a8)))))))=true) (f:a1=true→a2=true→a3=true→a4=true→a5=true→a6=true→a7=true→a8=true→P):P:=f (an h).1 (an (an h).2).1 (an (an (an h).2).2).1 (an (an (an (an h).2).2).2).1 (an (an (an (an (an h).2).2).2).2).1 (an (an (an (an (an (an h).2).2).2).2).2).1 (an (an (an (an (an (an (an h).2).2).2).2).2).2).1 (an (an (an (an (an (an (an h).2).2).2).2).2).2).2
theorem an11 {P:Prop} {a1 a2 a3 a4 a5 a6 a7 a8 a9 a10 a11:Bool} (h:(a1&&(a2&&(a3&&(a4&&(a5&&(a6&&(a7&&(a8&&(a9&&(a10&&a11))))))))))=true) (f:a1=true→a2=true→a3=true→a4=true→a5=true→a6=true→a7=true→a8=true→a9=true→a10=true→a11=true→P):P:=f (an h).1 (an (an h).2).1 (an (an (an h).2).2).1 (an (an (an (an h).2).2).2).1 (an (an (an (an (an h).2).2).2).2).1 (an (an (an (an (an (an h).2).2).2).2).2).1 (an (an (an (an (an (an (an h).2).2).2).2).2).2).1 (an (an (an (an (an (an (an (an h).2).2).2).2).2).2).2).1 (an (an (an (an (an (an (an (an (an h).2).2).2).2).2).2).2).2).1 (an (an (an (an (an (an (an (an (an (an h).2).2).2).2).2).2).2).2).2).1 (an (an (an (an (an (an (an (an (an (an h).2).2).2).2).2).2).2).2).2).2
theorem an15 {P:Prop} {a1 a2 a3 a4 a5 a6 a7 a8 a9 a10 a11 a12 a13 a14 a15:Bool} (h:(a1&&(a2&&(a3&&(a4&&(a5&&(a6&&(a7&&(a8&&(a9&&(a10&&(a11&&(a12&&(a13&&(a14&&a15))))))))))))))=true) (f:a1=true→a2=true→a3=true→a4=true→a5=true→a6=true→a7=true→a8=true→a9=true→a10=true→a11=true→a12=true→a13=true→a14=true→a15=true→P):P:=f (an h).1 (an (an h).2).1 (an (an (an h).2).2).1 (an (an (an (an h).2).2).2).1 (an (an (an (an (an h).2).2).2).2).1 (an (an (an (an (an (an h).2).2).2).2).2).1 (an (an (an (an (an (an (an h).2).2).2).2).2).2).1 (an (an (an (an (an (an (an (an h).2).2).2).2).2).2).2).1 (an (an (an (an (an (an (an (an (an h).2).2).2).2).2).2).2).2).1 (an (an (an (an (an (an (an (an (an (an h).2).2).2).2).2).2).2).2).2).1 (an (an (an (an (an (an (an (an (an (an (an h).2).2).2).2).2).2).2).2).2).2).1 (an (an (an (an (an (an (an (an (an (an (an (an h).2).2).2).2).2).2).2).2).2).2).2).1 (an (an (an (an (an (an (an (an (an (an (an (an (an h).2).2).2).2).2).2).2).2).2).2).2).2).1 (an (an (an (an (an (an (an (an (an (an (an (an (an (an h).2).2).2).2).2).2).2).2).2).2).2).2).2).1 (an (an (an (an (an (an (an (an (an (an (an (an (an (an h).2).2).2).2).2).2).2).2).2).2).2).2).2).2
noncomputable def noCall (x:PySem.Expr):Bool := !Nat.beq x.ctorIdx 16
noncomputable def notSet (x:PySem.Expr):Bool := !Nat.beq x.ctorIdx 7
noncomputable def isNone:E→Bool
 | .none=>true
 | _=>false
set_option backward.match.sparseCases false
mutual
noncomputable def okE:E→PySem.Expr→Bool
 | .none,x=>match x with | .Constant c _ _=>c==.none | _=>false
 | .bool b,x=>match x with | .Constant c _ _=>c==.bool b | _=>false
 | .int i,x=>match x with | .Constant c _ _=>c==.int i | _=>false
 | .str s,x=>match x with | .Constant c _ _=>c==.str s.s | _=>false
 | .name y,x=>match x with | .Name id _=>id==y.s | _=>false
 | .bin op a b,x=>match x with | .BinOp l o r _=>o==op.c&&(okE a l&&okE b r) | _=>false
 | .neg a,x=>match x with | .UnaryOp o y _=>o==.USub&&okE a y | _=>false
 | .not a,x=>match x with | .UnaryOp o y _=>o==.Not&&okE a y | _=>false
 | .cmp op a b,x=>match x with | .Compare l os rs _=>os==[op.c]&&(okE a l&&(match rs with | [r]=>okE b r && !behindInMarks op.c r | _=>false)) | _=>false
 | .and a b,x=>match x with | .BoolOp o vs p=>o==.And&&(match vs with | v::w::us=>okE a v&&(match us with | []=>okE b w | _::_=>okE b (.BoolOp .And (w::us) p)) | _=>false) | _=>false
 | .or a b,x=>match x with | .BoolOp o vs p=>o==.Or&&(match vs with | v::w::us=>okE a v&&(match us with | []=>okE b w | _::_=>okE b (.BoolOp .Or (w::us) p)) | _=>false) | _=>false
 | .ife c a b,x=>match x with | .IfExp y z w _=>okE c y&&(okE a z&&okE b w) | _=>false
 | .tup es,x=>match x with | .Tuple xs _ _=>okEs es xs | _=>false
 | .list es,x=>match x with | .List xs _=>okEs es xs | _=>false
 | .dict ds,x=>match x with | .Dict ks vs _=>okDs ds ks vs&&Nat.ble ks.length 15 | _=>false
 | .sub o i,x=>match x with | .Subscript y z _=>okE o y&&okE i z | _=>false
 | .slice o lo hi,x=>match x with
  | .Subscript y z _=>(match z with | .Slice l u st _=>st.isNone&&(okE o y&&((match l with | none=>isNone lo | some l=>okE lo l)&&(match u with | none=>isNone hi | some u=>okE hi u))) | _=>false)
  | _=>false
 | .attr o y,x=>match x with | .Attribute z id _=>id==y.s&&(okE o z&&noCall z) | _=>false
 | .call f es,x=>match x with | .Call g xs ks _=>ks.isEmpty&&((match g with | .Name id _=>id==f.s | _=>false)&&((calleeOf f).isSome&&okEs es xs)) | _=>false
 | .meth o m es,x=>match x with | .Call g xs ks q=>ks.isEmpty&&(match g with | .Attribute y id p=>id==m.s&&(okE o y&&(noCall y&&(okEs es xs&&(Nat.blt xs.length 30&&p.endLine==q.line)))) | _=>false) | _=>false
 | .sinit _,_=>false
 | .comp elt t it ifs sc,x=>match x with
  | .ListComp ex gs scope _=>(match gs with | [g]=>g.is_async==0&&(okE elt ex&&(okTc t g.target&&(okI it g.iter&&(okAll ifs g.ifs&&(okSc sc scope&&(tOkSc t sc&&notSet g.iter)))))) | _=>false)
  | _=>false
 | .comp2 elt t it t2 it2 ifs sc,x=>match x with
  | .ListComp ex gs scope _=>(match gs with | [g,g2]=>g.ifs.isEmpty&&(g.is_async==0&&(g2.is_async==0&&(okE elt ex&&(okTc t g.target&&(okI it g.iter&&(okTc t2 g2.target&&(okI it2 g2.iter&&(okAll ifs g2.ifs&&(okSc sc scope&&(tOkSc t sc&&(tOkSc t2 sc&&(notSet g.iter&&(notSet g2.iter&&(tNames t2).all fun z => !(tNames t).contains z))))))))))))) | _=>false)
  | _=>false
noncomputable def okEs:Es→List PySem.Expr→Bool
 | .nil,x=>x.isEmpty
 | .cons e r,x=>match x with | y::ys=>okE e y&&okEs r ys | []=>false
noncomputable def okDs:Ds→List (Option PySem.Expr)→List PySem.Expr→Bool
 | .nil,ks,xs=>ks.isEmpty&&xs.isEmpty
 | .cons s e r,ks,xs=>match ks with
  | k::ks=>(match xs with | y::ys=>(match k with | some z=>(match z with | .Constant c _ _=>c==.str s.s | _=>false) | none=>false)&&(okE e y&&okDs r ks ys) | []=>false)
  | []=>false
noncomputable def okAll:Es→List PySem.Expr→Bool
 | .nil,x=>x.isEmpty
 | .cons e r,x=>match x with | y::ys=>okE e y&&okAll r ys | []=>false
noncomputable def okI:It→PySem.Expr→Bool
 | .e e,x=>okE e x
 | .rev e,x=>match x with | .Call g xs ks _=>ks.isEmpty&&((match g with | .Name id _=>id==Nm.reversed.s | _=>false)&&(match xs with | [y]=>okE e y | _=>false)) | _=>false
end
set_option backward.match.sparseCases true
theorem base_of {x:PySem.Expr} (h:noCall x=true) (attr:Str) (env:Env):attributeBase x attr env (eval x env)=eval x env:=by
 cases x<;>first | rfl | exact ff h
theorem fold_of {x:PySem.Expr} (h:notSet x=true) (env:Env) (v:Value):foldedSetIterable x env v=pure v:=by
 cases x<;>first | rfl | exact ff h
theorem star_cons {x:PySem.Expr} (h:isStar x=false) (xs:List PySem.Expr) (env:Env):starEach (x::xs) env=(false,eval x env)::starEach xs env:=by
 cases x<;>first | rfl | cases h
theorem ok_star {e:E} {x:PySem.Expr} (h:okE e x=true):isStar x=false:=by
 cases x<;>first | rfl | (cases e<;>exact ff h)
theorem ok_slice {e:E} {x:PySem.Expr} (h:okE e x=true) (o i:Value):∃ vs,subscripted x false o i=operate vs (getItem o i):=by
 cases x<;>first | exact ⟨_,rfl⟩ | (cases e<;>exact ff h)
theorem noStar_of:∀ {es:Es} {xs:List PySem.Expr},okEs es xs=true→NoStar xs
 | .nil,[],_=>fun uu=>rfl
 | .nil,_::_,h=>ff h
 | .cons e r,[],h=>ff h
 | .cons e r,x::xs,h=>fun env=>by
  rw [star_cons (ok_star (an h).1)]
  exact noStar_of (an h).2 env
end Internal
namespace Internal
open PySem PySem.W PyProof.Rows PySem.Calls
section
variable {Γ:Fn→List AV→AH→P1→Prop} {lv:Fn→Nat} {k:Nat}
theorem Fit0.z {κ:Adr} (F:Fit0 κ) (Z:Addr→Prop):Fit0 (κ.z Z):=⟨F.kin,F.sys,fun c=>⟨(F.cls c).dict,(F.cls c).ga,(F.cls c).gt,(F.cls c).sa,(F.cls c).over,(F.cls c).makes,(F.cls c).init,(F.cls c).flds,(F.cls c).meth⟩,F.typ⟩
theorem callee_z {κ:Adr} {Z:Addr→Prop} (c:Callee):c.v (κ.z Z)=c.v κ:=by cases c<;>rfl
theorem Fit1.z {κ:Adr} (F:Fit1 κ) (Z:Addr→Prop):Fit1 (κ.z Z):=
 ⟨F.toFit0.z Z,F.keepF,F.keepC,by
  obtain ⟨mg,mb,a,b,c,d,e⟩:=F.gl
  exact ⟨mg,mb,a,b,c,fun x cc h=>by rw [callee_z]; exact d x cc h,e⟩⟩
structure Good (Γ:Fn→List AV→AH→P1→Prop) (lv:Fn→Nat) (k:Nat) (κ:Adr):Prop where
 fit:Fit1 κ
 calls:∀ Z,SCalls (κ.z Z) Γ lv k
theorem Good.d {κ:Adr} (G:Good Γ lv k κ) (D:Addr):Good Γ lv k (withD κ D):=⟨G.fit.z _,fun Z=>G.calls Z⟩
theorem Good.c {κ:Adr} (G:Good Γ lv k κ):SCalls κ Γ lv k:=G.calls κ.Z
theorem tv {κ:Adr} {e:E} {x:PySem.Expr} (h:SE κ Γ lv k e x) (ht:∀ ρ H Q,trT Γ lv k e ρ H Q→trE Γ lv k e ρ H fun v H1=>Internal.truthy v H1 Q)
  (he:∀ env whole,isTrue x env whole=(do let v ← whole; standAt x.pos; holding [v] (PySem.truthy v))):SE κ Γ lv k e x∧ST κ Γ lv k e x:=⟨h,t_value h ht he⟩
noncomputable def XE (Γ:Fn→List AV→AH→P1→Prop) (lv:Fn→Nat) (k:Nat) (e:E):Prop:=∀ κ,Good Γ lv k κ→∀ x,okE e x=true→SE κ Γ lv k e x∧ST κ Γ lv k e x
noncomputable def XEs (Γ:Fn→List AV→AH→P1→Prop) (lv:Fn→Nat) (k:Nat) (es:Es):Prop:=∀ κ,Good Γ lv k κ→(∀ xs,okEs es xs=true→SEs κ Γ lv k es xs)∧∀ xs,okAll es xs=true→SAll κ Γ lv k es xs
noncomputable def XDs (Γ:Fn→List AV→AH→P1→Prop) (lv:Fn→Nat) (k:Nat) (ds:Ds):Prop:=∀ κ,Good Γ lv k κ→∀ ks xs,okDs ds ks xs=true→SDs κ Γ lv k ds ks xs∧ks.all (·.isSome)=true∧ks.length=xs.length
noncomputable def XI (Γ:Fn→List AV→AH→P1→Prop) (lv:Fn→Nat) (k:Nat) (it:It):Prop:=∀ κ,Good Γ lv k κ→∀ x,okI it x=true→SI κ Γ lv k it x
theorem isNone_of {e:E} (h:isNone e=true):e=.none:=by
 cases e<;>first | rfl | exact ff h
set_option backward.match.sparseCases false in
theorem name_of {g:PySem.Expr} {z:Str} (h:(match g with | .Name id _=>id==z | _=>false)=true):∃ p,g=.Name z p:=by
 cases g<;>first | exact ff h | exact ⟨_,congrArg (PySem.Expr.Name · _) (eq_of_beq h)⟩
set_option backward.match.sparseCases false in
theorem attr_of {g:PySem.Expr} {f:PySem.Expr→Str→Pos→Bool} (h:(match g with | .Attribute y id p=>f y id p | _=>false)=true):∃ y id p,g=.Attribute y id p∧f y id p=true:=by
 cases g<;>first | exact ff h | exact ⟨_,_,_,rfl,h⟩
set_option backward.match.sparseCases false in
theorem call_of {g:PySem.Expr} {f:PySem.Expr→List PySem.Expr→List Keyword→Pos→Bool} (h:(match g with | .Call y xs ks p=>f y xs ks p | _=>false)=true):∃ y xs ks p,g=.Call y xs ks p∧f y xs ks p=true:=by
 cases g<;>first | exact ff h | exact ⟨_,_,_,_,rfl,h⟩
set_option backward.match.sparseCases false in
theorem const_of {x:PySem.Expr} {z:Const} (h:(match x with | .Constant c _ _=>c==z | _=>false)=true):∃ n p,x=.Constant z n p:=by
 cases x<;>first | exact ff h | exact ⟨_,_,congrArg (PySem.Expr.Constant · _ _) (eq_of_beq h)⟩
set_option backward.match.sparseCases false in
theorem un_of {x:PySem.Expr} {z:UnaryOp} {f:PySem.Expr→Bool} (h:(match x with | .UnaryOp o y _=>o==z&&f y | _=>false)=true):∃ y p,x=.UnaryOp z y p∧f y=true:=by
 cases x<;>first | exact ff h | exact ⟨_,_,congrArg (PySem.Expr.UnaryOp · _ _) (eq_of_beq (an h).1),(an h).2⟩
theorem e_none:XE Γ lv k .none:=fun κ G x h=>by
 obtain ⟨_,_,rfl⟩:=const_of h
 exact tv s_none (fun ρ H Q t=>t) fun uu uu=>rfl
theorem e_bool {b:Bool}:XE Γ lv k (.bool b):=fun κ G x h=>by
 obtain ⟨_,_,rfl⟩:=const_of h
 exact tv s_bool (fun ρ H Q t=>t) fun uu uu=>rfl
theorem e_int {i:Int}:XE Γ lv k (.int i):=fun κ G x h=>by
 obtain ⟨_,_,rfl⟩:=const_of h
 exact tv s_int (fun ρ H Q t=>t.elim) fun uu uu=>rfl
theorem e_str {y:Sy}:XE Γ lv k (.str y):=fun κ G x h=>by
 obtain ⟨_,_,rfl⟩:=const_of h
 exact tv s_str (fun ρ H Q t=>t.elim) fun uu uu=>rfl
theorem e_name {y:Nm}:XE Γ lv k (.name y):=fun κ G x h=>by
 cases x<;>try exact ff h
 obtain rfl:=eq_of_beq h
 refine tv (s_name G.fit) (fun ρ H Q t=>?_) fun uu uu=>rfl
 show match look ρ y with | some (.glo,_)=>y=.MOST_LISTED∧truthy (.int 1000000) H Q | some (_,v)=>(match v with | .unb=>False | v=>truthy v H Q) | .none=>False
 have t:match look ρ y with | some (.glo,_)=>False | some (_,v)=>truthy v H Q | .none=>False:=t
 cases hl:look ρ y with
 | none=>rw [hl] at t; exact t
 | some kv=>
  obtain ⟨kd,v⟩:=kv
  rw [hl] at t
  cases kd<;>first | exact t.elim | (cases v<;>first | exact t | exact t.elim)
theorem e_bin {op:Bop} {a b:E} (ia:XE Γ lv k a) (ib:XE Γ lv k b):XE Γ lv k (.bin op a b):=fun κ G x h=>by
 cases x<;>try exact ff h
 obtain ⟨h0,g1⟩:=an h
 obtain rfl:=eq_of_beq h0
 exact tv (s_bin (ia κ G _ (an g1).1).1 (ib κ G _ (an g1).2).1) (fun ρ H Q t=>t.elim) fun uu uu=>rfl
theorem e_neg {a:E} (ia:XE Γ lv k a):XE Γ lv k (.neg a):=fun κ G x h=>by
 obtain ⟨_,_,rfl,g1⟩:=un_of (f:=okE a) h
 exact tv (s_neg (ia κ G _ g1).1) (fun ρ H Q t=>t.elim) fun uu uu=>rfl
theorem e_not {a:E} (ia:XE Γ lv k a):XE Γ lv k (.not a):=fun κ G x h=>by
 obtain ⟨_,_,rfl,g1⟩:=un_of (f:=okE a) h
 exact ⟨s_not (ia κ G _ g1).1,t_not (ia κ G _ g1).2⟩
theorem e_cmp {op:Cop} {a b:E} (ia:XE Γ lv k a) (ib:XE Γ lv k b):XE Γ lv k (.cmp op a b):=fun κ G x h=>by
 cases x with | Compare l os rs p=>?_ | _=>exact ff h
 refine an3 h fun h0 h1 g2=>?_
 obtain rfl:=eq_of_beq h0
 match rs,g2 with
 | [r],h=>
  have h3:=nt (an h).2
  exact ⟨s_cmp G.fit (ia κ G _ h1).1 (ib κ G _ (an h).1).1 h3,t_cmp G.fit (ia κ G _ h1).1 (ib κ G _ (an h).1).1 h3⟩
theorem STw.of {κ:Adr} {e:E} {op:BoolOp} {xs:List PySem.Expr} {p} (h:ST κ Γ lv k e (.BoolOp op xs p)):STw κ Γ lv k e op xs:=fun A env O ρ H s Q uu uu a t=>h A env O ρ H s Q a t
theorem e_and {a b:E} (ia:XE Γ lv k a) (ib:XE Γ lv k b):XE Γ lv k (.and a b):=fun κ G x h=>by
 cases x with | BoolOp o vs p=>?_ | _=>exact ff h
 obtain ⟨h0,g1⟩:=an h
 obtain rfl:=eq_of_beq h0
 match vs,g1 with
 | v::w::us,h=>
  obtain ⟨h1,g2⟩:=an h
  have A:=ia κ G _ h1
  match us,g2 with
  | [],h=>exact ⟨s_and2 A.1 (s_one (ib κ G _ h).1),(t_and2 A.2 (t_one_and (ib κ G _ h).2)).st⟩
  | _::_,h=>exact ⟨s_and2 A.1 (ib κ G _ h).1,(t_and2 A.2 (STw.of (ib κ G _ h).2)).st⟩
theorem e_or {a b:E} (ia:XE Γ lv k a) (ib:XE Γ lv k b):XE Γ lv k (.or a b):=fun κ G x h=>by
 cases x with | BoolOp o vs p=>?_ | _=>exact ff h
 obtain ⟨h0,g1⟩:=an h
 obtain rfl:=eq_of_beq h0
 match vs,g1 with
 | v::w::us,h=>
  obtain ⟨h1,g2⟩:=an h
  have A:=ia κ G _ h1
  match us,g2 with
  | [],h=>exact ⟨s_or2 A.1 (s_one (ib κ G _ h).1),(t_or2 A.2 (t_one_or (ib κ G _ h).2)).st⟩
  | _::_,h=>exact ⟨s_or2 A.1 (ib κ G _ h).1,(t_or2 A.2 (STw.of (ib κ G _ h).2)).st⟩
theorem e_ife {c a b:E} (ic:XE Γ lv k c) (ia:XE Γ lv k a) (ib:XE Γ lv k b):XE Γ lv k (.ife c a b):=fun κ G x h=>by
 cases x<;>try exact ff h
 obtain ⟨h1,g1⟩:=an h
 have C:=ic κ G _ h1
 have A:=ia κ G _ (an g1).1
 have B:=ib κ G _ (an g1).2
 exact ⟨s_ife C.2 A.1 B.1,t_ife C.2 A.2 B.2⟩
theorem e_tup {es:Es} (i:XEs Γ lv k es):XE Γ lv k (.tup es):=fun κ G x h=>by
 cases x<;>try exact ff h
 exact tv (s_tup ((i κ G).1 _ h)) (fun ρ H Q t=>t.elim) fun uu uu=>rfl
theorem e_list {es:Es} (i:XEs Γ lv k es):XE Γ lv k (.list es):=fun κ G x h=>by
 cases x<;>try exact ff h
 exact tv (s_list ((i κ G).1 _ h)) (fun ρ H Q t=>t.elim) fun uu uu=>rfl
theorem e_dict {ds:Ds} (i:XDs Γ lv k ds):XE Γ lv k (.dict ds):=fun κ G x h=>by
 cases x with | Dict ks vs p=>?_ | _=>exact ff h
 obtain ⟨h,hz⟩:=an h
 cases ds with
 | nil=>
  obtain rfl:=List.isEmpty_iff.mp (an h).1
  obtain rfl:=List.isEmpty_iff.mp (an h).2
  exact tv s_dict0 (fun ρ H Q t=>t.elim) fun uu uu=>rfl
 | cons y v r=>
  obtain ⟨h1,h2,h3⟩:=i κ G ks vs h
  refine tv (s_dict h1 h2 h3 (fun q=>by rw [q] at h; exact ff h) (Nat.le_of_ble_eq_true hz) fun ρ H Q t=>?_) (fun ρ H Q t=>t.elim) fun uu uu=>rfl
  show trE Γ lv k v ρ H fun w H1=>trDs Γ lv k r ρ H1 fun vs H2=>((y,w)::vs)≠[]∧Q ((y,w)::vs) H2
  have t:trE Γ lv k v ρ H (fun w H1=>trDs Γ lv k r ρ H1 fun vs H2=>Q ((y,w)::vs) H2):=t
  simpa only [ne_eq,reduceCtorEq,not_false_eq_true,true_and] using t
theorem e_sub {o i:E} (io:XE Γ lv k o) (ii:XE Γ lv k i):XE Γ lv k (.sub o i):=fun κ G x h=>by
 cases x<;>try exact ff h
 exact tv (s_sub (io κ G _ (an h).1).1 (ii κ G _ (an h).2).1 (ok_slice (an h).2)) (fun ρ H Q t=>t.elim) fun uu uu=>rfl
theorem e_slice {o lo hi:E} (io:XE Γ lv k o) (il:XE Γ lv k lo) (ih:XE Γ lv k hi):XE Γ lv k (.slice o lo hi):=fun κ G x h=>by
 cases x with | Subscript y z p=>?_ | _=>exact ff h
 cases z with | Slice l u st q=>?_ | _=>exact ff h
 refine an3 h fun h0 h1 g2=>?_
 obtain rfl:=Option.isNone_iff_eq_none.mp h0
 refine tv (s_slice (io κ G _ h1).1 ?_ ?_) (fun ρ H Q t=>t.elim) fun uu uu=>rfl
 ·have h2:=(an g2).1
  cases l with
  | none=>exact isNone_of h2▸part_none
  | some l=>exact part_some (il κ G _ h2).1
 ·have h2:=(an g2).2
  cases u with
  | none=>exact isNone_of h2▸part_none
  | some l=>exact part_some (ih κ G _ h2).1
theorem e_attr {o:E} {y:Nm} (io:XE Γ lv k o):XE Γ lv k (.attr o y):=fun κ G x h=>by
 cases x<;>try exact ff h
 obtain ⟨h0,g1⟩:=an h
 obtain rfl:=eq_of_beq h0
 exact tv (s_attr G.fit (io κ G _ (an g1).1).1 fun env=>base_of (an g1).2 _ env) (fun ρ H Q t=>t) fun uu uu=>rfl
set_option backward.match.sparseCases false in
theorem e_call {f:Nm} {es:Es} (i:XEs Γ lv k es):XE Γ lv k (.call f es):=fun κ G x h=>by
 obtain ⟨g,xs,ks,p,rfl,h⟩:=call_of (f:=fun g xs ks uu=>ks.isEmpty&&((match g with | .Name id _=>id==f.s | _=>false)&&((calleeOf f).isSome&&okEs es xs))) h
 refine an3 h fun h0 h1 g2=>?_
 obtain rfl:=List.isEmpty_iff.mp h0
 obtain ⟨_,rfl⟩:=name_of h1
 exact tv (s_call G.fit G.c (an g2).1 ((i κ G).1 _ (an g2).2) (noStar_of (an g2).2)) (fun ρ H Q t=>t) fun uu uu=>rfl
set_option backward.match.sparseCases false in
theorem e_meth {o:E} {m:Nm} {es:Es} (io:XE Γ lv k o) (i:XEs Γ lv k es):XE Γ lv k (.meth o m es):=fun κ G x h=>by
 obtain ⟨g,xs,ks,p,rfl,h⟩:=call_of (f:=fun g xs ks q=>ks.isEmpty&&(match g with | .Attribute y id p=>id==m.s&&(okE o y&&(noCall y&&(okEs es xs&&(Nat.blt xs.length 30&&p.endLine==q.line)))) | _=>false)) h
 obtain ⟨h0,g1⟩:=an h
 obtain rfl:=List.isEmpty_iff.mp h0
 obtain ⟨y,id,q,rfl,g1⟩:=attr_of (f:=fun y id q=>id==m.s&&(okE o y&&(noCall y&&(okEs es xs&&(Nat.blt xs.length 30&&q.endLine==p.line))))) g1
 refine an5 g1 fun h1_1 h1 h2 h3 g5=>?_
 obtain rfl:=eq_of_beq h1_1
 exact tv (s_meth G.fit G.c (io κ G _ h1).1 ((i κ G).1 _ h3) (noStar_of h3) (Nat.le_of_ble_eq_true (an g5).1) (an g5).2 fun env=>base_of h2 _ env) (fun ρ H Q t=>t) fun uu uu=>rfl
theorem e_comp {elt:E} {t:T} {it:It} {ifs:Es} {sc:List (Nm×SK)} (ie:XE Γ lv k elt) (ii:XI Γ lv k it) (ia:XEs Γ lv k ifs):XE Γ lv k (.comp elt t it ifs sc):=fun κ G x h=>by
 cases x with | ListComp ex gs scope p=>?_ | _=>exact ff h
 match gs,h with
 | [⟨tx,ix,ifx,as⟩],h=>
  refine an8 h fun h0 h1 h2 h3 h4 h5 h6 h7=>?_
  obtain rfl:=eq_of_beq h0
  exact tv (s_comp (ii κ G _ h3) (fun D=>(ie _ (G.d D) _ h1).1) (fun D=>(ia _ (G.d D)).2 _ h4) h2 h6 h5 fun env v=>fold_of h7 env v) (fun ρ H Q t=>t.elim) fun uu uu=>rfl
theorem e_comp2 {elt:E} {t t2:T} {it it2:It} {ifs:Es} {sc:List (Nm×SK)} (ie:XE Γ lv k elt) (ii:XI Γ lv k it) (ii2:XI Γ lv k it2) (ia:XEs Γ lv k ifs):XE Γ lv k (.comp2 elt t it t2 it2 ifs sc):=fun κ G x h=>by
 cases x with | ListComp ex gs scope p=>?_ | _=>exact ff h
 match gs,h with
 | [⟨tx,ix,ifs0,as⟩,⟨tx2,ix2,ifx,as2⟩],h=>
  refine an15 h fun h0_1 h0_2 h0 h1 h2 h3 h4 h5 h6 h7 h8 h9 h10 h11 h12=>?_
  obtain rfl:=List.isEmpty_iff.mp h0_1
  obtain rfl:=eq_of_beq h0_2
  obtain rfl:=eq_of_beq h0
  exact tv (s_comp2 (ii κ G _ h3) (fun D=>ii2 _ (G.d D) _ h5) (fun D=>(ie _ (G.d D) _ h1).1) (fun D=>(ia _ (G.d D)).2 _ h6) h2 h4 h8 h9 (fun z hz q=>by
   have:=List.all_eq_true.mp h12 z hz
   rw [List.contains_iff_mem.mpr q] at this; exact ff this) h7 (fun env v=>fold_of h10 env v) fun env v=>fold_of h11 env v) (fun ρ H Q t=>t.elim) fun uu uu=>rfl
theorem e_nil:XEs Γ lv k .nil:=fun κ G=>⟨fun xs h=>List.isEmpty_iff.mp h▸s_nil,fun xs h=>List.isEmpty_iff.mp h▸all_nil⟩
theorem e_cons {e:E} {r:Es} (i:XE Γ lv k e) (ir:XEs Γ lv k r):XEs Γ lv k (.cons e r):=fun κ G=>by
 constructor<;>intro xs h<;>cases xs
 ·exact ff h
 ·exact s_cons (i κ G _ (an h).1).1 ((ir κ G).1 _ (an h).2) fun env=>star_cons (ok_star (an h).1) _ env
 ·exact ff h
 ·exact all_cons (i κ G _ (an h).1).2 ((ir κ G).2 _ (an h).2)
theorem e_dnil:XDs Γ lv k .nil:=fun κ G ks xs h=>by
 obtain rfl:=List.isEmpty_iff.mp (an h).1
 obtain rfl:=List.isEmpty_iff.mp (an h).2
 exact ⟨s_dnil,rfl,rfl⟩
theorem e_dcons {y:Sy} {e:E} {r:Ds} (i:XE Γ lv k e) (ir:XDs Γ lv k r):XDs Γ lv k (.cons y e r):=fun κ G ks xs h=>by
 match ks,xs,h with
 | some z::ks,x::xs,h=>
  obtain ⟨h0,g1⟩:=an h
  obtain ⟨_,_,rfl⟩:=const_of h0
  obtain ⟨a,b,c⟩:=ir κ G _ _ (an g1).2
  exact ⟨s_dcons (i κ G _ (an g1).1).1 a,b,congrArg (· + 1) c⟩
 | none::_,_::_,h=>exact ff h
theorem e_e {e:E} (i:XE Γ lv k e):XI Γ lv k (.e e):=fun κ G x h=>i_e (i κ G x h).1
set_option backward.match.sparseCases false in
theorem e_rev {e:E} (i:XE Γ lv k e):XI Γ lv k (.rev e):=fun κ G x h=>by
 obtain ⟨g,xs,ks,p,rfl,h⟩:=call_of (f:=fun g xs ks uu=>ks.isEmpty&&((match g with | .Name id _=>id==Nm.reversed.s | _=>false)&&(match xs with | [y]=>okE e y | _=>false))) h
 refine an3 h fun h0 h1 g2=>?_
 obtain rfl:=List.isEmpty_iff.mp h0
 obtain ⟨_,rfl⟩:=name_of h1
 match xs,g2 with
 | [x],h=>exact i_rev G.fit (i κ G _ h).1 (ok_star h)
theorem sE_all:∀ e,XE Γ lv k e:=fun e=>E.rec (motive_1:=XE Γ lv k) (motive_2:=XEs Γ lv k) (motive_3:=XDs Γ lv k) (motive_4:=fun uu=>True) (motive_5:=XI Γ lv k) e_none (fun uu=>e_bool) (fun uu=>e_int) (fun uu=>e_str) (fun uu=>e_name) (fun uu uu uu=>e_bin)
 (fun uu=>e_neg) (fun uu=>e_not) (fun uu uu uu=>e_cmp) (fun uu uu=>e_and) (fun uu uu=>e_or) (fun uu uu uu=>e_ife) (fun uu=>e_tup) (fun uu=>e_list) (fun uu=>e_dict) (fun uu uu=>e_sub) (fun uu uu uu=>e_slice) (fun uu uu=>e_attr) (fun uu uu=>e_call)
 (fun uu uu uu=>e_meth) (fun uu uu κ G x h=>ff h) (fun uu uu uu uu uu a uu b c=>e_comp a b c) (fun uu uu uu uu uu uu uu a uu b uu c d=>e_comp2 a b c d) e_nil (fun uu uu=>e_cons) e_dnil (fun uu uu uu=>e_dcons) (fun uu=>trivial) (fun uu=>trivial) (fun uu uu uu=>trivial) (fun uu uu uu uu=>trivial) (fun uu=>e_e) (fun uu=>e_rev) e
theorem sEs_all:∀ es,XEs Γ lv k es
 | .nil=>e_nil
 | .cons e r=>e_cons (sE_all e) (sEs_all r)
theorem sE (κ:Adr) (G:Good Γ lv k κ) (e:E) (x:PySem.Expr) (h:okE e x=true):SE κ Γ lv k e x∧ST κ Γ lv k e x:=sE_all e κ G x h
theorem sEs (κ:Adr) (G:Good Γ lv k κ) (es:Es) (xs:List PySem.Expr) (h:okEs es xs=true):SEs κ Γ lv k es xs:=(sEs_all es κ G).1 xs h
theorem sI (κ:Adr) (G:Good Γ lv k κ) (it:It) (x:PySem.Expr) (h:okI it x=true):SI κ Γ lv k it x:=match it with
 | .e e=>e_e (sE_all e) κ G x h
 | .rev e=>e_rev (sE_all e) κ G x h
end
end Internal
namespace Internal
open PySem PySem.W PyProof.Rows PySem.Calls
set_option backward.match.sparseCases false in
noncomputable def okSt:T→PySem.Expr→PySem.Expr→Bool
 | .name x,tx,vx=>okTc (.name x) tx&&(!isComp vx&&okSwap vx)
 | .tup xs,tx,vx=>okTc (.tup xs) tx&&(!isComp vx&&okSwap vx)
 | .attr o y,tx,vx => !isComp vx&&(match tx with | .Attribute ox id _=>id==y.s&&okE o ox | _=>false)
 | .sub o i,tx,vx => !isComp vx&&(match tx with | .Subscript ox ix _=>okE o ox&&okE i ix | _=>false)
set_option backward.match.sparseCases false
mutual
noncomputable def okS:S→Stmt→Bool
 | .assign t e,x=>match x with | .Assign ts vx _=>(match ts with | [tx]=>okE e vx&&okSt t tx vx | _=>false) | _=>false
 | .expr e,x=>match x with | .Expr y _=>okE e y && !isComp y | _=>false
 | .ret e,x=>match x with | .Return v _=>(match v with | some y=>okE e y | none=>isNone e) | _=>false
 | .ite c a b,x=>match x with | .If y xs ys _=>okE c y&&(okSs a xs&&okSs b ys) | _=>false
 | .forr t it b,x=>match x with | .For tx ix xs ys _=>ys.isEmpty&&(okI it ix&&(okSs b xs&&(okTc t tx&&notSet ix))) | _=>false
 | .whil c b,x=>match x with | .While y xs ys _=>ys.isEmpty&&(okE c y&&okSs b xs) | _=>false
 | .brk,x=>Nat.beq x.ctorIdx 26
 | .pass,x=>Nat.beq x.ctorIdx 25
 | .raise,_=>true
noncomputable def okSs:Ss→List Stmt→Bool
 | .nil,x=>x.isEmpty
 | .cons s r,x=>match x with | y::ys=>okS s y&&okSs r ys | []=>false
end
set_option backward.match.sparseCases true
section
variable {Γ:Fn→List AV→AH→P1→Prop} {lv:Fn→Nat} {k:Nat}
theorem ss_ret0 {κ:Adr} {p}:SS κ Γ lv k (.ret .none) (.Return none p):=fun A env O ρ H s Q a t=>
 wpAny_Return_none ⟨.ret .none,ρ,H,t,.none,a,.refl _ _ _⟩
set_option backward.match.sparseCases false in
theorem sub_of {g:PySem.Expr} {f:PySem.Expr→PySem.Expr→Bool} (h:(match g with | .Subscript y z _=>f y z | _=>false)=true):∃ y z p,g=.Subscript y z p∧f y z=true:=by
 cases g<;>first | exact ff h | exact ⟨_,_,_,rfl,h⟩
theorem tgt_ok {κ:Adr} (G:Good Γ lv k κ) {t:T} {e:E} {tx vx:PySem.Expr} {p:Pos} (se:SE κ Γ lv k e vx) (h:okSt t tx vx=true):SS κ Γ lv k (.assign t e) (.Assign [tx] vx p):=by
 cases t with
 | name x=>exact ss_asgC se (an h).1 (nt (an (an h).2).1) (an (an h).2).2 (.inl ⟨x,rfl⟩)
 | tup xs=>exact ss_asgC se (an h).1 (nt (an (an h).2).1) (an (an h).2).2 (.inr ⟨xs,rfl⟩)
 | attr o y=>
  obtain ⟨ox,id,q,rfl,h3⟩:=attr_of (f:=fun ox id uu=>id==y.s&&okE o ox) (an h).2
  obtain rfl:=eq_of_beq (an h3).1
  exact ss_asgAttr G.fit se (sE κ G o _ (an h3).2).1 (nt (an h).1)
 | sub o i=>
  obtain ⟨ox,ix,q,rfl,h3⟩:=sub_of (f:=fun ox ix=>okE o ox&&okE i ix) (an h).2
  exact ss_asgSub se (sE κ G o _ (an h3).1).1 (sE κ G i _ (an h3).2).1 (nt (an h).1)
noncomputable def XS (Γ:Fn→List AV→AH→P1→Prop) (lv:Fn→Nat) (k:Nat) (κ:Adr) (c:S):Prop:=∀ x,okS c x=true→SS κ Γ lv k c x
noncomputable def XSs (Γ:Fn→List AV→AH→P1→Prop) (lv:Fn→Nat) (k:Nat) (κ:Adr) (c:Ss):Prop:=∀ xs,okSs c xs=true→SSs κ Γ lv k c xs
section
variable {κ:Adr} (G:Good Γ lv k κ)
include G
theorem x_assign {t:T} {e:E}:XS Γ lv k κ (.assign t e):=fun x h=>by
 cases x with | Assign ts vx p=>?_ | _=>exact ff h
 match ts,h with
 | [tx],h=>exact tgt_ok G (sE κ G e _ (an h).1).1 (an h).2
theorem x_expr {e:E}:XS Γ lv k κ (.expr e):=fun x h=>by
 cases x<;>try exact ff h
 exact ss_expr (sE κ G e _ (an h).1).1 fun env=>swaps_no (nt (an h).2) _ _ _
theorem x_ret {e:E}:XS Γ lv k κ (.ret e):=fun x h=>by
 cases x with | Return v p=>?_ | _=>exact ff h
 match v,h with
 | some y,h=>exact ss_ret (sE κ G e _ h).1
 | none,h=>exact isNone_of h▸ss_ret0
theorem x_ite {c:E} {a b:Ss} (ia:XSs Γ lv k κ a) (ib:XSs Γ lv k κ b):XS Γ lv k κ (.ite c a b):=fun x h=>by
 cases x<;>try exact ff h
 exact ss_ite (sE κ G c _ (an h).1).2 (ia _ (an (an h).2).1) (ib _ (an (an h).2).2)
theorem x_for {t:T} {it:It} {b:Ss} (ib:XSs Γ lv k κ b):XS Γ lv k κ (.forr t it b):=fun x h=>by
 cases x<;>try exact ff h
 obtain ⟨h0,h1⟩:=an h
 obtain rfl:=List.isEmpty_iff.mp h0
 obtain ⟨h2,h3⟩:=an h1
 obtain ⟨h4,h5⟩:=an h3
 exact ss_for (sI κ G it _ h2) (ib _ h4) (an h5).1 fun env v=>fold_of (an h5).2 env v
theorem x_whil {c:E} {b:Ss} (ib:XSs Γ lv k κ b):XS Γ lv k κ (.whil c b):=fun x h=>by
 cases x<;>try exact ff h
 obtain ⟨h0,h1⟩:=an h
 obtain rfl:=List.isEmpty_iff.mp h0
 exact ss_while (sE κ G c _ (an h1).1).2 (ib _ (an h1).2)
omit G in
theorem x_brk:XS Γ lv k κ .brk:=fun x h=>by
 cases x<;>try exact ff h
 exact ss_brk
omit G in
theorem x_pass:XS Γ lv k κ .pass:=fun x h=>by
 cases x<;>try exact ff h
 exact ss_pass
omit G in
theorem x_cons {c:S} {r:Ss} (i:XS Γ lv k κ c) (ir:XSs Γ lv k κ r):XSs Γ lv k κ (.cons c r):=fun xs h=>by
 cases xs
 ·exact ff h
 ·exact ss_cons (i _ (an h).1) (ir _ (an h).2)
end
theorem sSs (κ:Adr) (G:Good Γ lv k κ) (c:Ss) (xs:List Stmt) (h:okSs c xs=true):SSs κ Γ lv k c xs:=Ss.rec (motive_1:=XS Γ lv k κ) (motive_2:=XSs Γ lv k κ) (fun uu uu=>x_assign G) (fun uu=>x_expr G) (fun uu=>x_ret G)
 (fun uu uu uu=>x_ite G) (fun uu uu uu=>x_for G) (fun uu uu=>x_whil G) x_brk x_pass (fun uu uu=>ss_raise) (fun xs h=>List.isEmpty_iff.mp h▸ss_nil) (fun uu uu=>x_cons) c xs h
end
end Internal
namespace Internal
open PySem PySem.W PyProof.Rows PySem.Calls
theorem zip_lookup:∀ (ns:List Str) (vals:List Value),vals.length=ns.length→∀ n∈ns,((ns.zip vals).lookup n).isSome=true
 | n::ns,v::vals,hl,m,hm=>by
  rw [List.zip_cons_cons,List.lookup_cons]
  cases q:m==n with
  | true=>rfl
  | false=>
   rcases List.mem_cons.mp hm with rfl | hm
   ·simp at q
   ·exact zip_lookup ns vals (by simpa using hl) m hm
theorem zip_map:∀ (ns:List Str) (vals:List Value) (pre:List (Str×Value)),vals.length=ns.length→ns.Nodup→(∀ n∈ns,pre.lookup n=none)→ns.filterMap (fun n=>((pre++ns.zip vals).lookup n).map (n,·))=ns.zip vals
 | [],vals,pre,_,_,_=>rfl
 | n::ns,v::vals,pre,hl,hn,hp=>by
  obtain ⟨h1,h2⟩:=List.nodup_cons.mp hn
  have e:(pre++(n::ns).zip (v::vals)).lookup n=some v:=by
   rw [List.lookup_append,hp n List.mem_cons_self,List.zip_cons_cons,List.lookup_cons]; simp
  rw [List.filterMap_cons,e]
  simp only [Option.map_some,List.zip_cons_cons,List.cons.injEq,true_and]
  have:=zip_map ns vals (pre++[(n,v)]) (by simpa using hl) h2 fun m hm=>by
   rw [List.lookup_append,hp m (List.mem_cons_of_mem _ hm)]
   have:(m==n)=false:=by
    cases q:m==n with
    | true=>exact absurd (beq_iff_eq.mp q▸hm) h1
    | false=>rfl
   simp [List.lookup_cons,this]
  simpa using this
noncomputable def parP (p:Arguments) (as:List Arg):Arguments:=⟨[],as,none,[],p.kw_defaults,none,p.defaults⟩
noncomputable def fdP (fd:FuncData) (as:List Arg):FuncData:={ fd with params:=parP fd.params as,defaults:=.none }
theorem parP_of:∀ (p:Arguments) (as:List Arg),p.posonlyargs=[]→p.args=as→p.vararg=none→p.kwonlyargs=[]→p.kwarg=none→p=parP p as
 | ⟨a,b,c,d,e,f,g⟩,as,h1,h2,h3,h4,h5=>by
  have h1:a=[]:=h1
  have h2:b=as:=h2
  have h3:c=none:=h3
  have h4:d=[]:=h4
  have h5:f=none:=h5
  show Arguments.mk a b c d e f g=.mk [] as none [] e none g
  rw [h1,h2,h3,h4,h5]
theorem fdP_of:∀ (fd:FuncData) (as:List Arg),fd.params=parP fd.params as→fd.defaults=.none→fd=fdP fd as
 | ⟨a,b,c,d,e,f,g,h,i,j,k,l,m,n,o⟩,as,h1,h2=>by
  have h1:c=parP c as:=h1
  have h2:h=Value.none:=h2
  show _=FuncData.mk a b (parP c as) d e f g Value.none i j k l m n o
  rw [← h1,h2]
theorem bind_fdP {fd:FuncData} {as:List Arg} {vals:List Value} {ns:List Str} (e:as.map Arg.arg=ns) (hn:ns.Nodup) (hl:vals.length=ns.length):bindArgs (fdP fd as) ⟨vals,[]⟩=pure (ns.zip vals):=by
 subst e
 refine Eq.trans (if_neg fun h=>?_) (Eq.trans (if_neg fun h=>?_) ?_)
 ·have h:(decide (vals.length > (as.map Arg.arg).length)&&true)=true:=h
  rw [Bool.and_true,hl] at h
  exact absurd (of_decide_eq_true h) (Nat.lt_irrefl _)
 ·have h:(!(((as.map Arg.arg).take ((as.map Arg.arg).length - (List.drop (([]:List Value).length - (as.map Arg.arg).length) ([]:List Value)).length)).filter fun n=>(((as.map Arg.arg).zip vals).lookup n).isNone).isEmpty)=true:=h
  rw [List.filter_eq_nil_iff.2 fun n hm=>?_] at h
  ·cases h
  ·have:=zip_lookup _ vals hl n (List.mem_of_mem_take hm)
   cases q:(((as.map Arg.arg).zip vals).lookup n) with
   | none=>rw [q] at this; cases this
   | some v=>exact nofun
 ·show (forIn (((as.map Arg.arg).drop ((as.map Arg.arg).length - (List.drop (([]:List Value).length - (as.map Arg.arg).length) ([]:List Value)).length)).zip (List.drop (([]:List Value).length - (as.map Arg.arg).length) ([]:List Value))) _ _ >>= _)=_
  rw [List.drop_nil,List.zip_nil_right]
  show (pure (List.filterMap (fun n=>(List.lookup n ((as.map Arg.arg).zip vals)).map (n,·)) (as.map Arg.arg++[])):Sem (List (Str×Value)))=_
  rw [List.append_nil]
  exact congrArg pure (zip_map (as.map Arg.arg) vals [] hl hn fun uu uu=>rfl)
theorem bind_plain {fd:FuncData} {ns:List Str} {vals:List Value} (h1:fd.params.posonlyargs=[]) (h2:fd.params.args.map (·.arg)=ns) (h3:fd.params.vararg=none) (h4:fd.params.kwonlyargs=[]) (h5:fd.params.kwarg=none)
  (h6:fd.defaults=.none) (hn:ns.Nodup) (hl:vals.length=ns.length):bindArgs fd ⟨vals,[]⟩=pure (ns.zip vals):=by
 rw [fdP_of fd _ (parP_of _ _ h1 rfl h3 h4 h5) h6]
 exact bind_fdP h2 hn hl
noncomputable def okScF (sc:List (Nm×SK)) (scope:Scope):Bool:=
 (scope.kind==.function)&&(!scope.isCoroutine&&(!scope.isGenerator&&(decide ((sc.map (·.1)).Nodup)&&
 sc.all fun p=>match p.2 with
  | .loc=>scope.names.lookup p.1.s==some .local
  | .cel=>scope.names.lookup p.1.s==some .cell
  | .glo=>scope.names.lookup p.1.s==some .globalImplicit
  | .fre=>false)))
noncomputable def okParams (f:Fn) (p:Arguments):Bool:=
 p.posonlyargs.isEmpty&&(p.vararg.isNone&&(p.kwonlyargs.isEmpty&&(p.kwarg.isNone&&(p.args.map (·.arg)==(params f).map Nm.s))))
inductive FnEx (hb:Heap) (fa:Addr) (f:Fn):Prop
 | mk (o:Obj) (fd:FuncData) (body:List Stmt) (a1:hb.get? fa=some o) (a2:o.data=.func fd) (a3:fd.body=.stmts body) (a4:okSs (bodyOf f) body=true) (a5:okScF (scOf f) fd.scope=true) (a6:okParams f fd.params=true)
  (b1:fd.closure=[]) (b2:fd.defaults=.none) (b3:fd.globals=mainGlobals) (b4:fd.builtins=builtinsNs) (b5:hb.CodeRec fd.code fd.qualname)
structure FnFit (κ:Adr) (f:Fn):Prop where
 ex:FnEx κ.hb (κ.fn f) f
theorem look_init (x:Nm) (ps:List Nm) (vs:List AV):∀ (sc:List (Nm×SK)) {k:SK} {v:AV},look (initρ sc ps vs) x=some (k,v)→(x,k)∈sc∧v=bnd ps vs x
 | (y,j)::r,k,v,h=>by
  simp only [initρ,look] at h
  set_option tactic.hygienic true in split at h
  ·rename_i e; subst e; cases h; exact ⟨List.mem_cons_self,rfl⟩
  ·obtain ⟨a,b⟩:=look_init x ps vs r h; exact ⟨List.mem_cons_of_mem _ a,b⟩
theorem cellsFrom_has:∀ (names:List (Str×NameKind)) (n:Nat) (acc:List (Str×Addr)) (x:Str),names.lookup x=some .cell∨(acc.lookup x).isSome=true→((cellsFrom n names acc).lookup x).isSome=true
 | [],n,acc,x,h=>by
  rcases h with h | h
  ·cases h
  ·exact h
 | (y,kd)::r,n,acc,x,h=>by
  unfold cellsFrom
  set_option tactic.hygienic true in split
  ·rename_i hk
   refine cellsFrom_has r _ _ x ?_
   rw [List.lookup_cons]
   cases q:x==y with
   | true=>exact .inr rfl
   | false=>
    simp only [List.lookup_cons,q] at h
    exact h
  ·rename_i hk
   refine cellsFrom_has r _ _ x ?_
   rcases h with h | h
   ·rw [List.lookup_cons] at h
    cases q:x==y with
    | true=>rw [q] at h; cases h; simp at hk
    | false=>rw [q] at h; exact .inl h
   ·exact .inr h
theorem bindL_not (n:Str) (kindOf:Str→Option NameKind):∀ (ns:List Str) (vals:List Value) (m:Str→Option Value),n∉ns→bindL kindOf (ns.zip vals) m n=m n
 | [],_,m,_=>rfl
 | _::_,[],m,_=>rfl
 | y::ns,v::vals,m,h=>by
  rw [List.zip_cons_cons]
  unfold bindL
  rw [bindL_not n kindOf ns vals _ (fun q=>h (List.mem_cons_of_mem _ q))]
  have:n≠y:=fun q=>h (q▸List.mem_cons_self)
  split
  ·simp [this]
  ·rfl
theorem bindC_not (n:Str) (kindOf:Str→Option NameKind):∀ (ns:List Str) (vals:List Value) (m:Str→Option Value),n∉ns→bindC kindOf (ns.zip vals) m n=m n
 | [],_,m,_=>rfl
 | _::_,[],m,_=>rfl
 | y::ns,v::vals,m,h=>by
  rw [List.zip_cons_cons]
  unfold bindC
  rw [bindC_not n kindOf ns vals _ (fun q=>h (List.mem_cons_of_mem _ q))]
  have:n≠y:=fun q=>h (q▸List.mem_cons_self)
  split
  ·rfl
  ·simp [this]
theorem bind_get {h:Heap} {D:Addr→Prop} (x:Nm) (kindOf:Str→Option NameKind):∀ (ps:List Nm) (vs:List AV) (vals:List Value) (m cm:Str→Option Value),ps.Nodup→RA h D vs vals→
  bnd ps vs x=.unb∨∃ w,R h D (bnd ps vs x) w∧(kindOf x.s=some .local→bindL kindOf ((ps.map Nm.s).zip vals) m x.s=some w)∧(kindOf x.s=some .cell→bindC kindOf ((ps.map Nm.s).zip vals) cm x.s=some w)
 | [],_,_,m,cm,_,_=>.inl rfl
 | _::_,[],_,m,cm,_,_=>.inl rfl
 | y::ps,v::vs,_,m,cm,hn,.cons (v:=w) (vs:=vals) r ra=>by
  obtain ⟨h1,h2⟩:=List.nodup_cons.mp hn
  unfold bnd
  by_cases e:y=x
  ·subst e
   rw [if_pos rfl]
   refine .inr ⟨w,r,fun hk=>?_,fun hk=>?_⟩
   ·rw [List.map_cons,List.zip_cons_cons]
    unfold bindL
    rw [bindL_not,if_pos hk]
    ·simp
    ·intro q; obtain ⟨z,hz,e⟩:=List.mem_map.mp q; exact h1 (nm_inj.mp e▸hz)
   ·rw [List.map_cons,List.zip_cons_cons]
    unfold bindC
    rw [bindC_not,if_neg (by rw [hk]; decide)]
    ·simp
    ·intro q; obtain ⟨z,hz,e⟩:=List.mem_map.mp q; exact h1 (nm_inj.mp e▸hz)
  ·rw [if_neg e]
   rcases bind_get x kindOf ps vs vals (if kindOf y.s=some .local then fun z=>if z=y.s then some w else m z else m) (if kindOf y.s=some .local then cm else fun z=>if z=y.s then some w else cm z) h2 ra with h | ⟨w',a,b,c⟩
   ·exact .inl h
   ·exact .inr ⟨w',a,fun hk=>by rw [List.map_cons,List.zip_cons_cons]; unfold bindL; exact b hk,fun hk=>by rw [List.map_cons,List.zip_cons_cons]; unfold bindC; exact c hk⟩
theorem params_nodup (f:Fn):(params f).Nodup:=by cases f<;>decide
noncomputable def Weak0 (H0:AH) (v:AV) (H:AH) (v':AV) (H':AH):Prop:=
 (∀ b o,H' b=some o→H b=some o)∧(v'=v∨∃ a l,v=.obj a∧v'=.lst l∧H0 a=none∧H a=some (.list l)∧H' a=.none)
noncomputable def ends0 (H0:AH) (Q:P1) (v:AV) (H:AH):Prop:=∃ v' H',Weak0 H0 v H v' H'∧Q v' H'
noncomputable def meets (Γ:Fn→List AV→AH→P1→Prop) (lv:Fn→Nat) (f:Fn) (vs:List AV) (H:AH) (Q:P1):Prop:=
 vs.length=(params f).length∧trSs Γ lv (lv f) (bodyOf f) (initρ (scOf f) (params f) vs) H fun fl uu H'=>match fl with
  | .ret v=>ends0 H Q v H'
  | .next=>ends0 H Q .none H'
  | .brk=>False
theorem okParams_of {f:Fn} {p:Arguments} (h:okParams f p=true):p.posonlyargs=[]∧p.vararg=none∧p.kwonlyargs=[]∧p.kwarg=none∧p.args.map (·.arg)=(params f).map Nm.s:=by
 unfold okParams at h
 simp only [Bool.and_eq_true,List.isEmpty_iff,Option.isNone_iff_eq_none,beq_iff_eq] at h
 exact h
theorem map_nodup {l:List Nm} (h:l.Nodup):(l.map Nm.s).Nodup:=by
 induction l with
 | nil=>exact .nil
 | cons a l ih=>
  obtain ⟨h1,h2⟩:=List.nodup_cons.mp h
  rw [List.map_cons]
  refine List.nodup_cons.mpr ⟨fun q=>?_,ih h2⟩
  obtain ⟨b,hb,e⟩:=List.mem_map.mp q
  exact h1 (nm_inj.mp e▸hb)
theorem okScF_of {sc:List (Nm×SK)} {scope:Scope} (h:okScF sc scope=true):scope.kind=.function∧scope.isCoroutine=false∧scope.isGenerator=false∧(sc.map (·.1)).Nodup∧
  ∀ p∈sc,(p.2=.loc→scope.names.lookup p.1.s=some .local)∧(p.2=.cel→scope.names.lookup p.1.s=some .cell)∧(p.2=.glo→scope.names.lookup p.1.s=some .globalImplicit)∧p.2≠.fre:=by
 unfold okScF at h
 simp only [Bool.and_eq_true,Bool.not_eq_true',beq_iff_eq,decide_eq_true_eq,List.all_eq_true] at h
 refine byc fun hNN=>?_
 obtain ⟨h1,h2,h3,h4,h5⟩:=h
 refine hNN ?_
 refine ⟨h1,h2,h3,h4,fun p hp=>?_⟩
 refine byc fun hNN=>?_
 have:=h5 p hp
 obtain ⟨x,k⟩:=p
 refine hNN ?_
 cases k<;>simp_all
section
variable {Γ:Fn→List AV→AH→P1→Prop} {lv:Fn→Nat} {κ:Adr} {f:Fn} {H:AH} {s s₁:Shared}
theorem real_lt {a:Addr} (Rl:Real κ H s.heap) (h:s.heap.objs.size≤a):¬ dom H a∧κ.hb.get? a=none:=by
 have hn:s.heap.get? a=none:=by
  cases q:s.heap.get? a with
  | none=>rfl
  | some o=>exact absurd (Nat.lt_of_lt_of_le (Heap.lt_size q) h) (Nat.lt_irrefl _)
 refine ⟨fun hd=>?_,?_⟩
 ·obtain ⟨o,ho⟩:=Option.ne_none_iff_exists'.mp hd
  obtain ⟨ob,e,_⟩:=(Rl.at_ a o ho).alive
  rw [hn] at e; cases e
 ·cases q:κ.hb.get? a with
  | none=>rfl
  | some o=>rw [Rl.base a o q] at hn; cases hn
noncomputable abbrev ownC (env:Env) (a:Addr):Prop:=a=env.locals∨∃ n,env.cells.lookup n=some a
theorem frame_start {fd:FuncData} {a:Addr} {vs:List AV} {vals:List Value} (Rl:Real κ H s.heap) (hra:RA s.heap (dm κ H) vs vals) (hsc:okScF (scOf f) fd.scope=true)
  (hg:fd.globals=mainGlobals) (hb:fd.builtins=builtinsNs)
  (x:InCallC s (callEnvC fd s.heap.objs.size a).locals (bindL (callEnvC fd s.heap.objs.size a).kindOf (((params f).map Nm.s).zip vals) fun uu=>none) (callEnvC fd s.heap.objs.size a).cells
    (bindC (callEnvC fd s.heap.objs.size a).kindOf (((params f).map Nm.s).zip vals) fun uu=>none) s₁):
  Frame κ (callEnvC fd s.heap.objs.size a) (ownC (callEnvC fd s.heap.objs.size a)) (initρ (scOf f) (params f) vs) H s₁.heap:=by
 obtain ⟨hk,_,_,hnd,hns⟩:=okScF_of hsc
 have kd:∀ y,(callEnvC fd s.heap.objs.size a).kindOf y=fd.scope.names.lookup y:=fun y=>rfl
 have S:Stays s.heap (dm κ H) s₁.heap (dm κ H):=⟨fun a o e uu uu=>x.toInCall.keep a o e,fun uu uu uu uu uu h=>h⟩
 have hcell:∀ y,fd.scope.names.lookup y=some .cell→∃ c,(callEnvC fd s.heap.objs.size a).cells.lookup y=some c:=fun y hy=>
  Option.isSome_iff_exists.mp (cellsFrom_has fd.scope.names (s.heap.objs.size+1) [] y (.inl hy))
 have habv:∀ n c,(callEnvC fd s.heap.objs.size a).cells.lookup n=some c→s.heap.objs.size < c:=fun n c hc=>x.above n c (mem_of_lookup hc)
 refine ⟨hk,hg,hb,⟨_,x.toInCall.ns,fun y v hy=>?_⟩,fun y v hy=>?_,fun y v hy=>?_,fun y v hy=>?_,.inl rfl,fun b hbo=>?_,fun y z vy vz c hy hz hcy hcz=>?_,fun y vy c hy hc=>?_⟩
 ·obtain ⟨h1,rfl⟩:=look_init y _ _ _ hy
  have hl:=(hns _ h1).1 rfl
  refine ⟨hl,?_⟩
  rcases bind_get y (callEnvC fd s.heap.objs.size a).kindOf (params f) vs vals (fun uu=>none) (fun uu=>none) (params_nodup f) hra with h | ⟨w,r,hw,_⟩
  ·exact .inl h
  ·exact .inr ⟨w,hw hl,r.stays S⟩
 ·obtain ⟨h1,rfl⟩:=look_init y _ _ _ hy
  have hl:=(hns _ h1).2.1 rfl
  obtain ⟨c,hc⟩:=hcell _ hl
  refine ⟨hl,c,_,hc,.inr ⟨_,hc⟩,x.cell _ c hc,?_⟩
  rcases bind_get y (callEnvC fd s.heap.objs.size a).kindOf (params f) vs vals (fun uu=>none) (fun uu=>none) (params_nodup f) hra with h | ⟨w,r,_,hw⟩
  ·exact .inl h
  ·exact .inr ⟨w,hw hl,r.stays S⟩
 ·exact absurd rfl (hns _ (look_init y _ _ _ hy).1).2.2.2
 ·exact (hns _ (look_init y _ _ _ hy).1).2.2.1 rfl
 ·have hlt:s.heap.objs.size≤b:=by
   rcases hbo with rfl | ⟨n,hn⟩
   ·exact Nat.le_refl _
   ·exact Nat.le_of_lt (habv n b hn)
  obtain ⟨h1,h2⟩:=real_lt Rl hlt
  refine .of h1 h2 ?_
  rcases hbo with rfl | ⟨n,hn⟩
  ·obtain ⟨o,_,_,e,d,_⟩:=x.toInCall.ns
   exact ⟨o,e,by unfold sf; rw [d]⟩
  ·exact cell_sf (x.cell n b hn)
 ·have:=name_of_addr x.apart (mem_of_lookup hcy) (mem_of_lookup hcz)
  exact nm_inj.mp this
 ·have:=habv _ _ hc
  intro e
  have e':(callEnvC fd s.heap.objs.size a).locals=s.heap.objs.size:=rfl
  rw [e,e'] at this
  exact absurd this (Nat.lt_irrefl _)
theorem end_call {v v':AV} {H' H'':AH} {w:Value} {s':Shared} (Rl:Real κ H s.heap) (e:Ext κ H s H' s') (r:R s'.heap (dm κ H') v w) (hw:Weak0 H v H' v' H''):Ext κ H s H'' s'∧R s'.heap (dm κ H'') v' w:=by
 obtain ⟨h1,h2⟩:=hw
 have hdom:∀ b,dom H'' b→dom H' b:=fun b hb=>by
  obtain ⟨o,ho⟩:=Option.ne_none_iff_exists'.mp hb
  unfold dom; rw [h1 b o ho]; simp
 have S:Stays s'.heap (dm κ H') s'.heap (dm κ H''):=⟨fun a o e uu uu=>e,fun a o uu uu uu hn hd=>hn (hd.imp (hdom a) id)⟩
 refine ⟨⟨⟨fun a o ho=>((e.real.at_ a o (h1 a o ho)).stays S fun uu e=>e),e.real.base,fun a ha=>e.real.off a (hdom a ha),e.real.zl⟩,e.step,fun a ha=>e.grow a (hdom a ha)⟩,?_⟩
 rcases h2 with rfl | ⟨a,l,rfl,rfl,hn,ha,hd⟩
 ·exact r.stays S
 ·rw [r.obj_inv]
  obtain ⟨vs,n,hg,hl,ra⟩:=e.real.at_ a _ ha
  refine .lst hg rfl rfl hl (fun hz=>?_) (ra.stays S)
  rcases hz with hz | hz
  ·exact hz hd
  ·rcases e.grow a (by unfold dom; rw [ha]; simp) with h | h
   ·exact h hn
   ·exact Rl.zl a hz h
theorem params_in (f:Fn) (x:Nm) (hx:x∈params f):(x,SK.loc)∈scOf f∨(x,SK.cel)∈scOf f:=by
 have h:((params f).all fun x=>decide ((x,SK.loc)∈scOf f) || decide ((x,SK.cel)∈scOf f))=true:=by cases f<;>decide
 have:=List.all_eq_true.mp h x hx
 simpa using this
theorem call_ok (FF:FnFit κ f) (G:Good Γ lv (lv f) κ) (hnl:κ.hb.NoLimit) {A:Around} {vs:List AV} {vals:List Value} {Q:P1} (hr:RoomC A (lv f+1)) (Rl:Real κ H s.heap) (hra:RA s.heap (dm κ H) vs vals)
  (hm:meets Γ lv f vs H Q):codeAny (model κ.prog κ.w) A (.call (.ref (κ.fn f)) ⟨vals,[]⟩) (wants (Post κ H s Q) NoE) s:=by
 refine byc fun hNN=>?_
 obtain ⟨o,fd,body,ho,hdata,hbody,hok,hsc,hpar,hclo,hdef,hg,hb,hcd⟩:=FF.ex
 obtain ⟨p1,p2,p3,p4,p5⟩:=okParams_of hpar
 obtain ⟨hk,hco,hgen,hnd,hns⟩:=okScF_of hsc
 obtain ⟨hlen,ht⟩:=hm
 have hlv:vals.length=((params f).map Nm.s).length:=by rw [hra.length,List.length_map,hlen]
 refine hNN ?_
 refine codeAny_call_cells (fd:=fd) (body:=body) (by have:=hr.depth; show A.depth < 1000; exact l20 331233954055050833963425809 rfl this) (Rl.base _ _ ho) hdata (hnl.keeps Rl.base) (hcd.keeps Rl.base) hbody
  (bind_plain p1 p5 p2 p3 p4 hdef (map_nodup (params_nodup f)) hlv) hclo ?_ (fun s₁ x=>?_) hco hgen hk
 ·intro y hy
  refine byc fun hNN=>?_
  obtain ⟨n,hn,e⟩:=List.mem_map.mp (List.of_mem_zip hy).1
  refine hNN ?_
  rw [← e]
  rcases params_in f n hn with h | h
  ·exact .inl ((hns _ h).1 rfl)
  ·have:=(hns _ h).2.1 rfl
   exact .inr ⟨this,cellsFrom_has _ _ _ _ (.inl this)⟩
 ·have a:At κ (lv f) (A.deeper (callEnvC fd s.heap.objs.size (κ.fn f))) (callEnvC fd s.heap.objs.size (κ.fn f)) (ownC (callEnvC fd s.heap.objs.size (κ.fn f))) (initρ (scOf f) (params f) vs) H s₁:=
   ⟨frame_start Rl hra hsc hg hb x,Rl.keeps x.toInCall.keep,hr.deeper _⟩
  refine wpAny_mono (sSs κ G (bodyOf f) body hok _ _ _ _ _ s₁ _ a ht) (fun fl s' ⟨fa,ρ',H',q,hf,a',run⟩=>?_) fun uu uu z=>z.elim
  refine byc fun hNN=>?_
  have hfresh:∀ b,ownC (callEnvC fd s.heap.objs.size (κ.fn f)) b→s.heap.get? b=none:=fun b hbo=>by
   have hlt:s.heap.objs.size≤b:=by
    rcases hbo with rfl | ⟨n,hn⟩
    ·exact Nat.le_refl _
    ·exact Nat.le_of_lt (x.above n b (mem_of_lookup hn))
   cases q:s.heap.get? b with
   | none=>rfl
   | some o=>exact absurd (Nat.lt_of_lt_of_le (Heap.lt_size q) hlt) (Nat.lt_irrefl _)
  obtain ⟨h1,tk1,e1⟩:=x.toInCall.same
  obtain ⟨⟨h2,tk2,e2⟩,kp,lve⟩:=run.step
  have e:Ext κ H s H' s':=⟨a'.rl,⟨⟨h2,tk2,by rw [e2,e1]⟩,fun b o hd hbo=>kp b o (fun h=>h.elim hd fun h=>by rw [hfresh b h] at hbo; cases hbo) (x.toInCall.keep b o hbo),fun b hbn=>lve b (live_of hbn (x.toInCall.keep b))⟩,fun b hbd=>(run.grow b hbd).imp id fun h=>by
   cases q:s.heap.get? b with
   | none=>rfl
   | some o=>rw [x.toInCall.keep b o q] at h; cases h⟩
  have fin:∀ {v w},R s'.heap (dm κ H') v w→ends0 H Q v H'→Post κ H s Q w s':=fun {v w} r ⟨v',H'',hw,q⟩=>by
   obtain ⟨e',r'⟩:=end_call Rl e r hw
   exact ⟨v',H'',q,e',r'⟩
  refine hNN ?_
  cases fa with
  | next=>cases fl<;>first | exact hf.elim | exact fin .none q
  | brk=>exact q.elim
  | ret v=>cases fl<;>first | exact hf.elim | exact fin hf q
end
end Internal
namespace Internal
open PySem PySem.W PyProof.Rows PySem.Calls
noncomputable def initArgs:Es:=.cons (.tup (.cons (.name .x) (.cons (.name .z) .nil))) (.cons (.str .values) .nil)
set_option backward.match.sparseCases false in
noncomputable def okIni (p3:Pos) (args:List PySem.Expr) (g:PySem.Expr) (ini:Str) (p2:Pos):Bool:=ini==Str.ofString "__init__" && (okEs initArgs args&&(Nat.blt args.length 30&&(p2.endLine==p3.line&&(match g with | .Call h as ks _=>as.isEmpty&&(ks.isEmpty&&(match h with | .Name id _=>id==Str.ofString "super" | _=>false)) | _=>false))))
set_option backward.match.sparseCases false in
noncomputable def okInit (body:List Stmt):Bool:=match body with
 | [x]=>(match x with | .Expr y _=>(match y with | .Call f args ks p3=>ks.isEmpty&&(match f with | .Attribute g ini p2=>okIni p3 args g ini p2 | _=>false) | _=>false) | _=>false)
 | _=>false
set_option backward.match.sparseCases false in
theorem sup_of {g:PySem.Expr} (h:(match g with | .Call h as ks _=>as.isEmpty&&(ks.isEmpty&&(match h with | .Name id _=>id==Str.ofString "super" | _=>false)) | _=>false)=true):∃ ps pc,g=.Call (.Name (Str.ofString "super") ps) [] [] pc:=by
 obtain ⟨f,as,ks,p,rfl,h⟩:=call_of (f:=fun h as ks uu=>as.isEmpty&&(ks.isEmpty&&(match h with | .Name id _=>id==Str.ofString "super" | _=>false))) h
 obtain rfl:=List.isEmpty_iff.mp (an h).1
 obtain rfl:=List.isEmpty_iff.mp (an (an h).2).1
 obtain ⟨q,rfl⟩:=name_of (an (an h).2).2
 exact ⟨q,p,rfl⟩
noncomputable def Ini (body:List Stmt):Prop:=∃ ps pc p2 args p3 pe,body=[.Expr (.Call (.Attribute (.Call (.Name (Str.ofString "super") ps) [] [] pc) (Str.ofString "__init__") p2) args [] p3) pe]∧okEs initArgs args=true∧args.length < 30∧(p2.endLine==p3.line)=true
set_option backward.match.sparseCases false in
theorem okInit_of {body:List Stmt} (h:okInit body=true):Ini body:=by
 match body,h with
 | [x],h=>
  set_option tactic.hygienic true in cases x<;>try exact ff h
  rename_i y pe
  obtain ⟨f,args,ks,p3,rfl,h⟩:=call_of (f:=fun f args ks p3=>ks.isEmpty&&(match f with | .Attribute g ini p2=>okIni p3 args g ini p2 | _=>false)) h
  obtain ⟨h0,h⟩:=an h
  obtain rfl:=List.isEmpty_iff.mp h0
  obtain ⟨g,ini,p2,rfl,h1⟩:=attr_of (f:=okIni p3 args) h
  obtain ⟨h2,h3⟩:=an h1
  obtain rfl:=eq_of_beq h2
  obtain ⟨h4,h5⟩:=an h3
  obtain ⟨h6,h7⟩:=an h5
  obtain ⟨h8,h9⟩:=an h7
  obtain ⟨_,_,rfl⟩:=sup_of h9
  exact ⟨_,_,_,_,_,_,rfl,h4,Nat.le_of_ble_eq_true h6,h8⟩
noncomputable def scI:List (Nm×SK):=[(.self,.loc),(.x,.loc),(.z,.loc)]
inductive InitEx (hb:Heap) (fa ca:Addr) (mf:Str):Prop
 | mk (o:Obj) (fd:FuncData) (body:List Stmt) (cc:Addr) (oc:Obj) (cda:Addr) (oca:Obj) (vs:Array Value) (file:Str) (tf:Tok) (a1:hb.get? fa=some o) (a2:o.data=.func fd) (a3:fd.body=.stmts body) (a4:okInit body=true)
  (b1:fd.scope.kind=.function) (b2:fd.scope.isCoroutine=false) (b3:fd.scope.isGenerator=false) (b4:∀ x∈fd.scope.names,x.2≠.cell) (b5:∀ x∈params .Absolute_init,fd.scope.names.lookup x.s=some .local)
  (b6:fd.scope.names.lookup (Str.ofString "super")=some .globalImplicit) (b7:fd.scope.names.lookup (Str.ofString "__class__")=some .free)
  (c1:okParams .Absolute_init fd.params=true) (c2:fd.closure=[(Str.ofString "__class__",cc)]) (c3:fd.defaults=.none) (c4:fd.globals=mainGlobals) (c5:fd.builtins=builtinsNs) (c6:hb.CodeRec fd.code fd.qualname)
  (d1:hb.get? cc=some oc) (d2:oc.data=.cell (some (.ref ca))) (e1:fd.code=.ref cda) (e2:hb.get? cda=some oca) (e3:oca.data=.fields vs) (e4:vs[2]?=some (.str file tf)) (e5:(mf==file)=true)
structure InitFit (κ:Adr):Prop where
 ex:InitEx κ.hb (κ.fn .Absolute_init) (κ.cls .absolute) κ.prog.main.file
 top:(κ.prog.main.scope.names.lookup (Str.ofString "super")).isSome=false
 mro:mroIn κ.K (κ.cls .absolute) (.ref (κ.cls .absolute))=some true
 opq:nsIn κ.K cStatics "thirdparty.any" = some none
 sup:ks_superIn κ.K (κ.cls .absolute) (κ.cls .absolute) (Str.ofString "__init__")=some (some (.ref (κ.fn .Propagator_init)))
 fnp:fnIn κ.K (κ.fn .Propagator_init)=true
inductive meetsInit (Γ:Fn→List AV→AH→P1→Prop) (lv:Fn→Nat) (vs:List AV) (H:AH) (Q:P1):Prop
 | mk (a dx:Addr) (x z:AV) (e:vs=[.obj a,x,z]) (i:H a=some (.inst .absolute dx)) (hx:x≠.unb) (hz:z≠.unb) (l:lv .Propagator_init < lv .Absolute_init) (g:Γ .Propagator_init [.obj a,.tup [x,z],.str .values] H fun r H'=>Q .none H')
section
variable {Γ:Fn→List AV→AH→P1→Prop} {lv:Fn→Nat} {κ:Adr} {H:AH} {s:Shared}
theorem init_he {o:PySem.Expr} {name:Str} {apos pos:Pos} {args:List PySem.Expr} {env:Env} (hn:NoStar args) (hz:args.length < 30) (hline:(apos.endLine==pos.line)=true):eval (.Call (.Attribute o name apos) args [] pos) env=(do
   let ov ← attributeBase o name env (eval o env)
   standAt apos.atName
   let (f,first) ← holding [ov] (getMethod ov name (do return (← importBound o env).getD true))
   callWith pos f first (backTo pos (starEach args env)) []):=by
 rw [arm_eval_Call]
 have hform:methodCallForm (args.length+([]:List Keyword).length) (backTo pos (starEach args env)) (backToKw pos (keywordEach [] env))=true:=by
  unfold methodCallForm
  have h1:=noStar_back hn env pos
  rw [List.any_eq_false] at h1
  have h2:(backTo pos (starEach args env)).all (fun x => !x.1)=true:=List.all_eq_true.mpr fun y hy=>by have:=h1 y hy; simpa using this
  rw [h2]
  show (true&&true&&decide (args.length+0+0 < 30))=true
  simp [hz]
 have hpos:methodCallPos true o env apos pos=pure pos:=by unfold methodCallPos; simp [hline]
 unfold methodCall
 rw [hform]
 simp only [hpos,pure_bind]
 rfl
theorem look3 {a b c:AV} {y:Nm} {k:SK} {v:AV} (h:look [(.self,.loc,a),(.x,.loc,b),(.z,.loc,c)] y=some (k,v)):k=.loc∧((y=.self∧v=a)∨(y=.x∧v=b)∨(y=.z∧v=c)):=by
 unfold look at h
 by_cases e:Nm.self=y
 ·rw [if_pos e] at h; cases h; exact ⟨rfl,.inl ⟨e.symm,rfl⟩⟩
 rw [if_neg e] at h
 unfold look at h
 by_cases e:Nm.x=y
 ·rw [if_pos e] at h; cases h; exact ⟨rfl,.inr (.inl ⟨e.symm,rfl⟩)⟩
 rw [if_neg e] at h
 unfold look at h
 by_cases e:Nm.z=y
 ·rw [if_pos e] at h; cases h; exact ⟨rfl,.inr (.inr ⟨e.symm,rfl⟩)⟩
 rw [if_neg e] at h
 cases h
theorem m_nmv {k:Nat} {ρ:Ev} {x:Nm} {v:AV} {Q:P1} (e:look ρ x=some (.loc,v)) (hv:v≠.unb) (h:Q v H):trE Γ lv k (.name x) ρ H Q:=by
 show match look ρ x with | some (.glo,_)=>x=.MOST_LISTED∧Q (.int 1000000) H | some (_,v)=>(match v with | .unb=>False | v=>Q v H) | .none=>False
 rw [e]
 cases v<;>first | exact h | exact absurd rfl hv
theorem m_str {k:Nat} {ρ:Ev} {Q:P1} {s:Sy} (h:Q (.str s) H):trE Γ lv k (.str s) ρ H Q:=h
theorem m_tup {k:Nat} {ρ:Ev} {Q:P1} {es:Es} (h:trEs Γ lv k es ρ H fun vs H1=>newT vs H1 Q):trE Γ lv k (.tup es) ρ H Q:=h
theorem m_es0 {k:Nat} {ρ:Ev} {PLq:PL} (h:PLq [] H):trEs Γ lv k .nil ρ H PLq:=h
theorem m_es1 {k:Nat} {ρ:Ev} {PLq:PL} {e:E} {r:Es} (h:trE Γ lv k e ρ H fun v H1=>trEs Γ lv k r ρ H1 fun vs H2=>PLq (v::vs) H2):trEs Γ lv k (.cons e r) ρ H PLq:=h
theorem m_newT {Q:P1} {l:List AV} (h1:Nat.ble l.length LIM=true) (h:Q (.tup l) H):newT l H Q:=⟨Nat.le_of_ble_eq_true h1,h⟩
theorem tr_init {k:Nat} {a b c:AV} (hb:b≠.unb) (hc:c≠.unb) {Q:PL} (h:Q [.tup [b,c],.str .values] H):trEs Γ lv k initArgs [(.self,.loc,a),(.x,.loc,b),(.z,.loc,c)] H Q:=
 m_es1 (m_tup (m_es1 (m_nmv (x:=.x) rfl hb (m_es1 (m_nmv (x:=.z) rfl hc (m_es0 (m_newT rfl (m_es1 (m_str (m_es0 h))))))))))
theorem RA.three {h:Heap} {D:Addr→Prop} {a b c:AV} {vs:List Value} (r:RA h D [a,b,c] vs):∃ x y z,vs=[x,y,z]∧R h D a x∧R h D b y∧R h D c z:=by
 rcases r with _ | ⟨r1,_ | ⟨r2,_ | ⟨r3,_ | _⟩⟩⟩
 exact ⟨_,_,_,rfl,r1,r2,r3⟩
theorem absInit_ok (I:InitFit κ) (G:Good Γ lv (lv .Absolute_init) κ) (hnl:κ.hb.NoLimit) {A:Around} {vs:List AV} {vals:List Value} {Q:P1} (hr:RoomC A (lv .Absolute_init+1)) (Rl:Real κ H s.heap) (hra:RA s.heap (dm κ H) vs vals)
  (hm:meetsInit Γ lv vs H Q):codeAny (model κ.prog κ.w) A (.call (.ref (κ.fn .Absolute_init)) ⟨vals,[]⟩) (wants (Post κ H s Q) NoE) s:=by
 refine byc fun hNN=>?_
 obtain ⟨o,fd,body,cc,oc,cda,oca,cvs,file,tf,ho,hdata,hbody,hok,hk,hco,hgen,hcl,hloc,hks,hkc,hpar,hclo,hdef,hg,hb,hcd,hcc,hoc,hcode,hcg,hcf,hv2,hfile⟩:=I.ex
 obtain ⟨p1,p2,p3,p4,p5⟩:=okParams_of hpar
 obtain ⟨oa,dx,xa,za,rfl,hoa,hxu,hzu,hlv,hΓ⟩:=hm
 have hlen:vals.length=((params .Absolute_init).map Nm.s).length:=by rw [hra.length]; rfl
 obtain ⟨ps,pc,p2',args,p3',pe,rfl,hargs,hz,hline⟩:=okInit_of hok
 obtain ⟨hh,g,d,t,os⟩:=s
 obtain ⟨v1,v2,v3,rfl,r1,r2,r3⟩:=hra.three
 obtain rfl:=r1.obj_inv
 refine hNN ?_
 clear hNN
 refine ks_codeAny_call_defAt (fd:=fd) (binds:=((params .Absolute_init).map Nm.s).zip [.ref oa,v2,v3]) (by have:=hr.depth; show A.depth < 1000; exact l20 331233954055050833963425809 rfl this) (Rl.base _ _ ho) hdata (hnl.keeps Rl.base) (hcd.keeps Rl.base) hbody
  (BindsTo.of_eq (bind_plain p1 p5 p2 p3 p4 hdef (map_nodup (params_nodup _)) hlen)) hcl (fun y hy=>?_) (fun h₀ hns hk₀=>?_) hco hgen hk
 ·obtain ⟨n,hn,e⟩:=List.mem_map.mp (List.of_mem_zip hy).1
  rw [← e]; exact hloc n hn
 have hi:interactive (callEnv fd hh.objs.size (κ.fn .Absolute_init))=false:=by unfold interactive; rw [show (callEnv fd hh.objs.size (κ.fn .Absolute_init)).scope.kind=.function from hk]; rfl
 refine ks_wpAt_execs_cons (ks_wpAt_Expr_any (ks_wpAt_MethodCall (pl:=do return (← importBound (.Call (.Name (Str.ofString "super") ps) [] [] pc) (callEnv fd hh.objs.size (κ.fn .Absolute_init))).getD true) ?_ (init_he (noStar_of hargs) hz hline)) hi rfl)
 refine byc fun hNN=>?_
 have R1:Real κ H h₀:=Rl.keeps (s:=⟨hh,g,d,t,os⟩) hk₀
 have kd:∀ y,(callEnv fd hh.objs.size (κ.fn .Absolute_init)).kindOf y=fd.scope.names.lookup y:=fun y=>rfl
 have S0:Stays hh (dm κ H) h₀ (dm κ H):=⟨fun a o e uu uu=>hk₀ a o e,fun uu uu uu uu uu h=>h⟩
 have fr:Frame κ (callEnv fd hh.objs.size (κ.fn .Absolute_init)) (fun a=>a=hh.objs.size) [(.self,.loc,.obj oa),(.x,.loc,xa),(.z,.loc,za)] H h₀:=by
  refine ⟨hk,hg,hb,⟨_,hns,fun y v hy=>?_⟩,fun y v hy=>?_,fun y v hy=>?_,fun y v hy=>?_,rfl,fun b hbo=>?_,fun y z vy vz c hy=>?_,fun y vy c hy=>?_⟩
  ·obtain ⟨_,⟨rfl,rfl⟩ | ⟨rfl,rfl⟩ | ⟨rfl,rfl⟩⟩:=look3 hy
   ·exact ⟨hloc .self (by decide),.inr ⟨_,rfl,.obj _⟩⟩
   ·exact ⟨hloc .x (by decide),.inr ⟨_,rfl,r2.stays S0⟩⟩
   ·exact ⟨hloc .z (by decide),.inr ⟨_,rfl,r3.stays S0⟩⟩
  ·exact absurd (look3 hy).1 (by decide)
  ·exact absurd (look3 hy).1 (by decide)
  ·exact absurd (look3 hy).1 (by decide)
  ·subst hbo
   obtain ⟨h1,h2⟩:=real_lt (s:=⟨hh,g,d,t,os⟩) Rl (Nat.le_refl _)
   obtain ⟨o,_,_,e,d,_⟩:=hns
   exact ⟨h1,h2,o,e,by unfold sf; rw [d]⟩
  ·exact absurd (look3 hy).1 (by decide)
  ·exact absurd (look3 hy).1 (by decide)
 obtain ⟨ar,har,hars⟩:∃ ar,(fd.params.posonlyargs++fd.params.args).head?=some ar∧ar.arg=Nm.self.s:=by
  rw [p1,List.nil_append]
  cases hq:fd.params.args with
  | nil=>rw [hq] at p5; cases p5
  | cons ar rest=>rw [hq] at p5; exact ⟨ar,rfl,(List.cons.inj p5).1⟩
 obtain ⟨mg,mb,hgn,hbn,_,_,_,hsu⟩:=G.fit.gl
 have X1:=G.fit.kin.keeps R1.base
 obtain ⟨cd,hcd2,hdi⟩:=any_some (G.fit.cls .absolute).dict
 obtain ⟨oD,hD1,hD2⟩:∃ oD,h₀.get? (κ.cls .absolute)=some oD∧oD.data=.cls cd:=by
  unfold clsIn at hcd2
  set_option tactic.hygienic true in split at hcd2
  ·rename_i c d cd' sl hoo
   cases hcd2
   exact ⟨_,X1 _ _ hoo,rfl⟩
  ·cases hcd2
 have hob:=R1.at_ oa _ hoa
 refine hNN ?_
 refine ks_wpAt_super_base (cc:=cda) hks hkc (by decide +kernel) rfl (R1.base _ _ ho) hdata har hcode (R1.base _ _ hcg) hcf hv2 hfile I.top ?_
 refine ks_loadName_global hk hks (loadGlobal_builtin (by show Heap.Ns _ fd.globals mg; rw [hg]; exact hgn.keeps R1.base) hsu.1 (by show Heap.Ns _ fd.builtins mb; rw [hb]; exact hbn.keeps R1.base) hsu.2 ⟨rfl,?_⟩)
 refine wpAny_loadName_free hk hkc (by show fd.closure.lookup _=_; rw [hclo]; rfl) ⟨_,R1.base _ _ hcc,hoc⟩ ?_
 refine wpAny_loadName_local hk (by rw [hars]; exact hloc .self (by decide)) hns (by rw [hars]; rfl) ?_
 refine ks_wpAny_isType_cls hD1 hD2 ⟨rfl,?_⟩
 refine ks_wpAny_call_super hD1 hD2 hob rfl (fun c e=>by cases e) (looks_mroIn X1 I.mro) (fun h2 e2 k2=>?_)
 refine byc fun hNN=>?_
 have k02:∀ b o,h₀.get? b=some o→(h2.push (methodObj (.ref (κ.fn .Propagator_init)) (.ref oa))).get? b=some o:=fun b o e=>Heap.get?_push_of_some _ (k2 b o e)
 have X2:=X1.keeps k2
 obtain ⟨of,hof,hofc⟩:∃ of,h2.get? (κ.fn .Propagator_init)=some of∧of.cls=.type "function" := by
  have ht':(κ.K.lookup (κ.fn .Propagator_init)).map (·.cls)=some (.type "function"):=G.fit.typ .Propagator_init
  cases z:κ.K.lookup (κ.fn .Propagator_init) with
  | none=>rw [z] at ht'; cases ht'
  | some of=>rw [z] at ht'; exact ⟨of,X2 _ _ z,Option.some.inj ht'⟩
 have hne:oa≠κ.cls .absolute:=by
  rintro rfl
  have hob':h₀.get? (κ.cls .absolute)=some (instO (κ.cls .absolute) dx):=hob
  rw [hD1] at hob'; cases hob'; cases hD2
 have hal:alongIn κ.K (Str.ofString "__init__") ((cd.mro.dropWhile (· != .ref (κ.cls .absolute))).drop 1)=some (some (.ref (κ.fn .Propagator_init))):=by
  have:=I.sup
  unfold ks_superIn at this
  rw [hcd2] at this
  exact this
 refine hNN ?_
 refine ks_wpAny_getMethod_super e2 (looks_opaque X2 I.opq) (l₀:=cd.mro) (fun A Q E s k q=>wpAny_bind ((looks_clsIn X2 hcd2) A _ E s k (wpAny_pure q))) rfl X2 hal hof hofc hne (by decide +kernel) ?_
 have a0:At κ (lv .Absolute_init) (A.deeper (callEnv fd hh.objs.size (κ.fn .Absolute_init))) (callEnv fd hh.objs.size (κ.fn .Absolute_init)) (fun a=>a=hh.objs.size) [(.self,.loc,.obj oa),(.x,.loc,xa),(.z,.loc,za)] H ⟨h₀,g,d,t,os⟩:=⟨fr,R1,hr.deeper _⟩
 have e3:Ext κ H ⟨h₀,g,d,t,os⟩ H ⟨h2.push (methodObj (.ref (κ.fn .Propagator_init)) (.ref oa)),g,d,t+3+1,os⟩:=Ext.of_keeps (s:=⟨h₀,g,d,t,os⟩) R1 k02
 have hq:(h2.push (methodObj (.ref (κ.fn .Propagator_init)) (.ref oa))).get? h2.objs.size=some (methodObj (.ref (κ.fn .Propagator_init)) (.ref oa)):=Heap.get?_push_at rfl rfl
 refine callWith_of (P:=MethP κ.K h2.objs.size (κ.fn .Propagator_init) (.ref oa)) (by rw [noStar_back (noStar_of hargs)]; rfl) (keeps_M I.fnp) (evalArgs_all (noStar_back (noStar_of hargs) _ _) (wpAny_mono (sEs κ G initArgs args hargs _ _ _ _ H _ _ p3' (a0.ext e3) (tr_init hxu hzu (Q:=fun l H'=>l=[.tup [xa,za],.str .values]∧H'=H) ⟨rfl,rfl⟩)) (fun vs s₃ ⟨rs,H₂,z,e4,ra4⟩=>?_) fun uu uu z=>z.elim))
 refine byc fun hNN=>?_
 obtain ⟨rfl,rfl⟩:=z
 have hqd:=(real_lt (s:=⟨h₀,g,d,t,os⟩) (H:=H₂) (a:=h2.objs.size) R1 (by
  show h₀.objs.size≤h2.objs.size
  have:=Heap.lt_size e2
  exact Nat.le_of_lt this)).1
 have hq4:=e4.step.keep _ _ hqd hq
 have ra5:=RA.cons (R.obj (h:=s₃.heap) (D:=dm κ H₂) oa) ra4
 have e03:Ext κ H₂ ⟨hh,g,d,t,os⟩ H₂ ⟨h₀,g,d,t,os⟩:=Ext.of_keeps (s:=⟨hh,g,d,t,os⟩) Rl hk₀
 refine hNN ?_
 refine ⟨⟨hq4,G.fit.kin.keeps e4.real.base⟩,wpAny_call (ks_codeAny_call_bound hq4 (codeAny_mono (G.c .Propagator_init hlv _ H₂ s₃ _ _ _ ((hr.deeper _).c hlv) e4.real ra5 hΓ) (fun r s₄ h₄=>?_)))⟩
 cases r with
 | error e=>exact h₄.elim
 | ok fl=>
  cases fl with
  | ret v=>
   refine byc fun hNN=>?_
   obtain ⟨r,H₃,hQ,e5,_⟩:=h₄
   refine hNN ?_
   exact wpAt_of_wpAny (wpAny_execs_nil ⟨.none,H₃,hQ,((e03.trans e3).trans e4).trans e5,.none⟩)
  | _=>exact h₄.elim
structure FitAll (κ:Adr):Prop where
 fit:Fit1 κ
 fns:∀ f,f≠.Absolute_init→FnFit κ f
 init:InitFit κ
 nolimit:κ.hb.NoLimit
structure MeetsAll (Γ:Fn→List AV→AH→P1→Prop) (lv:Fn→Nat):Prop where
 fns:∀ f,f≠.Absolute_init→∀ vs H Q,Γ f vs H Q→meets Γ lv f vs H Q
 init:∀ vs H Q,Γ .Absolute_init vs H Q→meetsInit Γ lv vs H Q
theorem FnFit.z {κ:Adr} {f:Fn} (F:FnFit κ f) (Z:Addr→Prop):FnFit (κ.z Z) f:=⟨F.ex⟩
theorem InitFit.z {κ:Adr} (F:InitFit κ) (Z:Addr→Prop):InitFit (κ.z Z):=⟨F.ex,F.top,F.mro,F.opq,F.sup,F.fnp⟩
theorem scalls (F:FitAll κ) (B:MeetsAll Γ lv):∀ k Z,SCalls (κ.z Z) Γ lv k:=by
 intro k
 induction k using Nat.strongRecOn with
 | ind k ih=>
  intro Z f hf A H s vs vals Q hr Rl hra hΓ
  have G:Good Γ lv (lv f) (κ.z Z):=⟨F.fit.z Z,fun Z'=>ih (lv f) hf Z'⟩
  by_cases e:f=.Absolute_init
  ·subst e
   exact absInit_ok (F.init.z Z) G F.nolimit hr Rl hra (B.init vs H Q hΓ)
  ·exact call_ok ((F.fns f e).z Z) G F.nolimit hr Rl hra (B.fns f e vs H Q hΓ)
end
end Internal
namespace Internal
set_option backward.match.sparseCases false in
noncomputable def lvl:Fn→Nat
 | .values=>1 | .without=>1 | .join=>1 | .struck=>2
 | .Store_new_var=>1 | .Store_low=>1 | .Store_high=>1 | .Store_enter=>3 | .Store_strike=>4 | .Store_decide=>4
 | .Absolute_init=>1 | .Absolute_propagate=>5
 | .law_cut=>1 | .law_cannot=>1 | .law_due=>2 | .law_lots=>1 | .law_run=>6 | .law_wide=>2 | .law_few=>1 | .law=>7
 | _=>0
set_option backward.match.sparseCases false in
noncomputable abbrev Prs:=List (Int×Int)
set_option backward.match.sparseCases false in
noncomputable def putB (l:Prs) (lo hi:Int):Prs:=match l.getLast? with
 | some p=>if lo≤p.2+1 then (if p.2 < hi then l.dropLast++[(p.1,hi)] else l) else l++[(lo,hi)]
 | none=>[(lo,hi)]
set_option backward.match.sparseCases false in
noncomputable def sizeP (l:Prs):Int:=(l.map fun p=>p.2 - p.1+1).sum
set_option backward.match.sparseCases false in
noncomputable def valsP (l:Prs):List Int:=l.flatMap fun p=>upto p.1 (p.2+1)
set_option backward.match.sparseCases false in
noncomputable def upToP (l:Prs) (k:Int):Prs:=(l.filter fun p=>decide (p.1≤k)).map fun p=>(p.1,min p.2 k)
set_option backward.match.sparseCases false in
noncomputable def fromOnP (l:Prs) (k:Int):Prs:=(l.filter fun p=>decide (k≤p.2)).map fun p=>(max p.1 k,p.2)
set_option backward.match.sparseCases false in
noncomputable def withoutP (l:Prs) (v:Int):Prs:=upToP l (v - 1)++fromOnP l (v+1)
set_option backward.match.sparseCases false in
noncomputable def joinP (d e:Prs):Prs:=(sortP (d++e)).foldl (fun f p=>putB f p.1 p.2) []
set_option backward.match.sparseCases false in
noncomputable def minusT (high:Int) (st:Prs×Int) (q:Int×Int):Prs×Int:=
 if st.2≤q.2∧q.1≤high then ((if st.2 < q.1 then st.1++[(st.2,q.1 - 1)] else st.1),q.2+1) else st
set_option backward.match.sparseCases false in
noncomputable def minusF (e:Prs) (found:Prs) (p:Int×Int):Prs:=
 let st:=e.foldl (minusT p.2) (found,p.1)
 if st.2≤p.2 then st.1++[(st.2,p.2)] else st.1
set_option backward.match.sparseCases false in
noncomputable def minusP (d e:Prs):Prs:=d.foldl (minusF e) []
set_option backward.match.sparseCases false in
noncomputable def negP (d:Prs):Prs:=d.reverse.map fun p=>(-p.2,-p.1)
set_option backward.match.sparseCases false in
noncomputable def meetQ (p:Int×Int) (f:Prs→Prs):Prs→Prs
 | []=>[]
 | q::e=>if p.2 < q.2 then (if max p.1 q.1≤min p.2 q.2 then [(max p.1 q.1,min p.2 q.2)] else [])++f (q::e) else (if max p.1 q.1≤min p.2 q.2 then [(max p.1 q.1,min p.2 q.2)] else [])++meetQ p f e
set_option backward.match.sparseCases false in
noncomputable def meetP:Prs→Prs→Prs
 | []=>fun uu=>[]
 | p::d=>meetQ p (meetP d)
theorem meetP_nil (e:Prs):meetP [] e=[]:=rfl
theorem meetP_no (p:Int×Int) (d:Prs):meetP (p::d) []=[]:=rfl
theorem meetP_cons (p q:Int×Int) (d e:Prs):meetP (p::d) (q::e)=if p.2 < q.2 then (if max p.1 q.1≤min p.2 q.2 then [(max p.1 q.1,min p.2 q.2)] else [])++meetP d (q::e) else (if max p.1 q.1≤min p.2 q.2 then [(max p.1 q.1,min p.2 q.2)] else [])++meetP (p::d) e:=rfl
set_option genCtorIdx true in
inductive Sg | le | ge | ne | eq
 deriving DecidableEq
end Internal
namespace Internal
open PySem
section
variable {Γ:Fn→List AV→AH→P1→Prop} {lv:Fn→Nat} {k:Nat} {H:AH} {Q:P1} {B:PB}
theorem items_o {a:Addr} {l:List AV} (h:H a=some (.list l)):itemsOf H (.obj a)=some l:=by
 show (match H a with | some (.list l)=>some l | _=>.none)=some l
 rw [h]
theorem q_add {x y:Int} (q:Q (.int (x+y)) H):binOp .add (.int x) (.int y) H Q:=.inl ⟨x,y,rfl,rfl,q⟩
theorem q_sub {x y:Int} (q:Q (.int (x - y)) H):binOp .sub (.int x) (.int y) H Q:=⟨x,y,rfl,rfl,q⟩
theorem q_cat {l m:List AV} (q:(l++m).length≤LIM∧Q (.tup (l++m)) H):binOp .add (.tup l) (.tup m) H Q:=.inr (.inl ⟨l,m,rfl,rfl,q⟩)
theorem q_lenO {a:Addr} {l:List AV} (h:H a=some (.list l)) (q:Q (.int (l.length:Int)) H):callB .len [.obj a] H Q:=⟨l,items_o h,q⟩
theorem q_tupO {a:Addr} {l:List AV} (h:H a=some (.list l)) (q:newT l H Q):callB .tuple [.obj a] H Q:=⟨l,items_o h,q⟩
theorem pyIdx_nat {n j:Nat} (h:j < n):pyIdx n (j:Int)=some j:=by
 show (if 0≤(j:Int) then (if (j:Int).toNat < n then some (j:Int).toNat else .none) else _)=_
 rw [if_pos (Int.natCast_nonneg j),Int.toNat_natCast,if_pos h]
theorem pyIdx_last (n:Nat):pyIdx (n+1) (-1)=some n:=by
 show (if 0≤(-1:Int) then _ else (if 0≤((n+1:Nat):Int) + -1 then some (((n+1:Nat):Int) + -1).toNat else .none))=_
 have e:((n+1:Nat):Int) + -1=(n:Int):=Int.add_sub_cancel n 1
 rw [if_neg (by decide),e,if_pos (Int.natCast_nonneg n),Int.toNat_natCast]
theorem q_ixG {o:AV} {l:List AV} {i:Nat} {v:AV} (ho:itemsOf H o=some l) (h:l[i]?=some v) (q:Q v H):getIt H o (.int i) Q:=
 ⟨l,i,v,ho,pyIdx_nat (List.getElem?_eq_some_iff.mp h).1,h,q⟩
theorem q_lastG {o:AV} {l:List AV} {v:AV} (ho:itemsOf H o=some (l++[v])) (q:Q v H):getIt H o (.int (-1)) Q:=
 ⟨_,l.length,v,ho,by rw [List.length_append]; exact pyIdx_last _,List.getElem?_concat_length,q⟩
theorem q_lastT {l:List AV} {v:AV} (q:Q v H):getIt H (.tup (l++[v])) (.int (-1)) Q:=q_lastG rfl q
theorem q_lastO {a:Addr} {l:List AV} {v:AV} (h:H a=some (.list (l++[v]))) (q:Q v H):getIt H (.obj a) (.int (-1)) Q:=q_lastG (items_o h) q
theorem q_setLast {a:Addr} {l:List AV} {v w:AV} {P:AH→Prop} (h:H a=some (.list (l++[v]))) (q:P (upd H a (.list (l++[w])))):setIt H (.obj a) (.int (-1)) w P:=
 ⟨a,rfl,.inl ⟨_,l.length,h,by rw [List.length_append]; exact pyIdx_last _,by rw [List.length_append]; exact Nat.lt_succ_self _,by rw [List.set_append_right _ _ (Nat.le_refl _),Nat.sub_self]; exact q⟩⟩
theorem q_append {a:Addr} {l:List AV} {P:MK→Prop} (h:H a=some (.list l)) (q:P .app):methK H (.obj a) .append P:=⟨a,rfl,.inl ⟨l,h,.inl ⟨rfl,q⟩⟩⟩
theorem q_extend {a:Addr} {l:List AV} {P:MK→Prop} (h:H a=some (.list l)) (q:P .ext):methK H (.obj a) .extend P:=⟨a,rfl,.inl ⟨l,h,.inr (.inl ⟨rfl,q⟩)⟩⟩
theorem q_popm {a:Addr} {l:List AV} {P:MK→Prop} (h:H a=some (.list l)) (q:P .pop):methK H (.obj a) .pop P:=⟨a,rfl,.inl ⟨l,h,.inr (.inr ⟨rfl,q⟩)⟩⟩
theorem q_app {a:Addr} {l:List AV} {v:AV} (h:H a=some (.list l)) (q:l.length < LIM∧Q .none (upd H a (.list (l++[v])))):callM Γ lv k .app (.obj a) [v] H Q:=⟨a,l,v,rfl,rfl,h,q⟩
theorem q_extR {a:Addr} {l:List AV} {lo hi:Int} (h:H a=some (.list l)) (q:l.length+(hi - lo).toNat≤LIM∧Q .none (upd H a (.list (l++(upto lo hi).map .int)))):callM Γ lv k .ext (.obj a) [.rng lo hi] H Q:=⟨a,l,rfl,h,.inr ⟨lo,hi,rfl,q⟩⟩
theorem upd_same {a:Addr} {o:AO} (h:H a=some o):upd H a o=H:=by funext b; unfold upd; split<;>simp_all
theorem upd_at (a:Addr) (o:AO):upd H a o a=some o:=by simp [upd]
theorem upd_ne {a b:Addr} (o:AO) (h:b≠a):upd H a o b=H b:=by simp [upd,h]
theorem upd_upd (a:Addr) (o p:AO):upd (upd H a o) a p=upd H a p:=by funext b; unfold upd; split<;>rfl
theorem ends_same {H0:AH} {v:AV} (h:Q v H):ends0 H0 Q v H:=⟨v,H,⟨fun uu uu e=>e,.inl rfl⟩,h⟩
theorem encPs_snoc (l:Prs) (p:Int×Int):encPs (l++[p])=encPs l++[.tup [.int p.1,.int p.2]]:=by simp [encPs,encP]
theorem encPs_cons (p:Int×Int) (l:Prs):encPs (p::l)=.tup [.int p.1,.int p.2]::encPs l:=rfl
theorem encPs_len (l:Prs):(encPs l).length=l.length:=by simp [encPs]
theorem encPs_app (l m:Prs):encPs (l++m)=encPs l++encPs m:=by simp [encPs]
end
end Internal
namespace Internal
open PySem
noncomputable def vk:SK→AV→Bool
 | .glo,_=>false
 | _,.unb=>false
 | _,_=>true
noncomputable def seqS (K:Ev→AH→Prop) (Q:PS):PS
 | .next,ρ,H=>K ρ H
 | .brk,ρ,H=>Q .brk ρ H
 | .ret v,ρ,H=>Q (.ret v) ρ H
section
variable (Γ:Fn→List AV→AH→P1→Prop) (lv:Fn→Nat) (k:Nat) (ρ:Ev) (Q:P1) (B:PB) (C:PS) (L:PL)
noncomputable def kSeq (r:Ss):PS
 | .next,ρ,H=>trSs Γ lv k r ρ H C
 | .brk,ρ,H=>C .brk ρ H
 | .ret v,ρ,H=>C (.ret v) ρ H
noncomputable abbrev kBin2 (op:Bop) (v:AV):P1:=fun w H=>binOp op v w H Q
noncomputable abbrev kBin (op:Bop) (b:E):P1:=fun v H=>trE Γ lv k b ρ H (kBin2 Q op v)
noncomputable abbrev kNeg:P1:=fun v H=>∃ i,v=.int i∧Q (.int (-i)) H
noncomputable abbrev kNot2:PB:=fun t H=>Q (.bool (!t)) H
noncomputable abbrev kNot:P1:=fun v H=>truthy v H (kNot2 Q)
noncomputable abbrev kTst (P:PB):P1:=fun v H=>truthy v H P
noncomputable abbrev kBool:PB:=fun t H=>Q (.bool t) H
noncomputable abbrev kCmp2 (op:Cop) (v:AV):P1:=fun w H=>cmpOp op v w H B
noncomputable abbrev kCmp (op:Cop) (b:E):P1:=fun v H=>trE Γ lv k b ρ H (kCmp2 B op v)
noncomputable abbrev kIfe (a b:E):PB:=fun t H=>(t=true→trE Γ lv k a ρ H Q)∧(t=false→trE Γ lv k b ρ H Q)
noncomputable abbrev kTup:PL:=fun vs H=>newT vs H Q
noncomputable abbrev kList:PL:=fun vs H=>newL vs H Q
noncomputable abbrev kSub2 (o:AV):P1:=fun i H=>getIt H o i Q
noncomputable abbrev kSub (i:E):P1:=fun o H=>trE Γ lv k i ρ H (kSub2 Q o)
noncomputable abbrev kSlice3 (vo vl:AV):P1:=fun vh H=>∃ l,(∀ t,vo≠.tup t)∧itemsOf H vo=some l∧((∃ n:Nat,vl=.none∧vh=.int n∧newL (l.take n) H Q)∨(∃ n:Nat,n≤l.length∧vl=.int n∧vh=.none∧newL (l.drop n) H Q))
noncomputable abbrev kSlice2 (hi:E) (vo:AV):P1:=fun vl H=>trE Γ lv k hi ρ H (kSlice3 Q vo vl)
noncomputable abbrev kSlice (lo hi:E):P1:=fun vo H=>trE Γ lv k lo ρ H (kSlice2 Γ lv k ρ Q hi vo)
noncomputable abbrev kAttr (x:Nm):P1:=fun o H=>getAt H o x Q
noncomputable abbrev kCall (f:Nm):PL:=fun vs H=>callN Γ lv k f vs H Q
noncomputable abbrev kMeth3 (m:MK) (o:AV):PL:=fun vs H=>callM Γ lv k m o vs H Q
noncomputable abbrev kMeth2 (es:Es) (o:AV) (H:AH):MK→Prop:=fun m=>trEs Γ lv k es ρ H (kMeth3 Γ lv k Q m o)
noncomputable abbrev kMeth (m:Nm) (es:Es):P1:=fun o H=>methK H o m (kMeth2 Γ lv k ρ Q es o H)
noncomputable abbrev kEs2 (v:AV):PL:=fun vs H=>L (v::vs) H
noncomputable abbrev kEs (r:Es):P1:=fun v H=>trEs Γ lv k r ρ H (kEs2 L v)
noncomputable abbrev kTnot:PB:=fun t H=>B (!t) H
noncomputable abbrev kTand (b:E):PB:=fun t H=>(t=true→trT Γ lv k b ρ H B)∧(t=false→B false H)
noncomputable abbrev kTor (b:E):PB:=fun t H=>(t=true→B true H)∧(t=false→trT Γ lv k b ρ H B)
noncomputable abbrev kAll (r:Es):PB:=fun t H=>(t=true→trAll Γ lv k r ρ H B)∧(t=false→B false H)
noncomputable abbrev kRet:P1:=fun v H=>C (.ret v) ρ H
noncomputable abbrev kAsg (x:Nm):P1:=fun v H=>canPut ρ x=true∧C .next (put ρ x v) H
noncomputable abbrev kAsgA3:AH→Prop:=fun H=>C .next ρ H
noncomputable abbrev kAsgA2 (x:Nm) (v:AV):P1:=fun o H=>setAt H o x v (kAsgA3 ρ C)
noncomputable abbrev kAsgA (x:Nm) (o:E):P1:=fun v H=>trE Γ lv k o ρ H (kAsgA2 ρ C x v)
noncomputable abbrev kAsgS3 (v o:AV):P1:=fun i H=>setIt H o i v (kAsgA3 ρ C)
noncomputable abbrev kAsgS2 (i:E) (v:AV):P1:=fun o H=>trE Γ lv k i ρ H (kAsgS3 ρ C v o)
noncomputable abbrev kAsgS (i o:E):P1:=fun v H=>trE Γ lv k o ρ H (kAsgS2 Γ lv k ρ C i v)
noncomputable abbrev kAsgT2 (xs:List Nm) (H:AH):List AV→Prop:=fun l=>C .next (putAll ρ xs l) H
noncomputable abbrev kAsgT (xs:List Nm):P1:=fun v H=>∃ l,v=.tup l∧l.length=xs.length∧xs.Nodup∧(∀ x∈xs,canPut ρ x=true)∧kAsgT2 ρ C xs H l
noncomputable abbrev kIte (a b:Ss):PB:=fun t H=>(t=true→trSs Γ lv k a ρ H C)∧(t=false→trSs Γ lv k b ρ H C)
noncomputable abbrev kExpr:P1:=fun v H=>(v=.none∨∃ i,v=.int i)∧C .next ρ H
noncomputable abbrev kFor2 (t:T) (b:Ss):AV→Ev→AH→PS→Prop:=fun x ρ1 H2 C=>asgC t x ρ1 fun ρ2=>trSs Γ lv k b ρ2 H2 C
noncomputable abbrev kFor (t:T) (b:Ss):PL:=fun items H1=>loopF (fun x ρ1 H2 C=>asgC t x ρ1 fun ρ2=>trSs Γ lv k b ρ2 H2 C) items ρ H1 C
noncomputable abbrev kIt:P1:=fun v H=>∃ l,itemsIt H v=some l∧L l H
end
section
variable {Γ:Fn→List AV→AH→P1→Prop} {lv:Fn→Nat} {k:Nat} {H:AH} {ρ:Ev} {Q:P1} {B:PB} {C:PS} {PLq:PL}
theorem r_none (h:Q .none H):trE Γ lv k .none ρ H Q:=h
theorem r_bool {b:Bool} (h:Q (.bool b) H):trE Γ lv k (.bool b) ρ H Q:=h
theorem r_int {i:Int} (h:Q (.int i) H):trE Γ lv k (.int i) ρ H Q:=h
theorem r_nm {x:Nm} {sk:SK} {v:AV} (e:look ρ x=some (sk,v):=by with_unfolding_all exact rfl) (hv:vk sk v=true:=by with_unfolding_all exact rfl) (h:Q v H):trE Γ lv k (.name x) ρ H Q:=by
 cases sk with
 | glo=>cases v<;>exact ff hv
 | _=>
  show match look ρ x with | some (.glo,_)=>x=.MOST_LISTED∧Q (.int 1000000) H | some (_,v)=>(match v with | .unb=>False | v=>Q v H) | .none=>False
  rw [e]; cases v<;>first | exact h | exact ff hv
theorem r_nmv {x:Nm} {v:AV} (e:look ρ x=some (.loc,v):=by with_unfolding_all exact rfl) (hv:v≠.unb:=by assumption) (h:Q v H):trE Γ lv k (.name x) ρ H Q:=m_nmv e hv h
theorem r_str {s:Sy} (h:Q (.str s) H):trE Γ lv k (.str s) ρ H Q:=h
theorem r_tup {es:Es} (h:trEs Γ lv k es ρ H (kTup Q)):trE Γ lv k (.tup es) ρ H Q:=h
theorem r_es0 (h:PLq [] H):trEs Γ lv k .nil ρ H PLq:=h
theorem r_es1 {e:E} {r:Es} (h:trE Γ lv k e ρ H (kEs Γ lv k ρ PLq r)):trEs Γ lv k (.cons e r) ρ H PLq:=h
theorem r_newT {l:List AV} (h1:Nat.ble l.length LIM=true:=by with_unfolding_all exact rfl) (h:Q (.tup l) H):newT l H Q:=⟨Nat.le_of_ble_eq_true h1,h⟩
theorem r_nmi {x:Nm} {sk:SK} {i:Int} (e:look ρ x=some (sk,.int i):=by with_unfolding_all exact rfl) (hv:vk sk (.int i)=true:=by with_unfolding_all exact rfl) (h:Q (.int i) H):trE Γ lv k (.name x) ρ H Q:=r_nm e hv h
theorem r_nmo {x:Nm} {sk:SK} {i:Addr} (e:look ρ x=some (sk,.obj i):=by with_unfolding_all exact rfl) (hv:vk sk (.obj i)=true:=by with_unfolding_all exact rfl) (h:Q (.obj i) H):trE Γ lv k (.name x) ρ H Q:=r_nm e hv h
theorem r_nmt {x:Nm} {sk:SK} {l:List AV} (e:look ρ x=some (sk,.tup l):=by with_unfolding_all exact rfl) (hv:vk sk (.tup l)=true:=by with_unfolding_all exact rfl) (h:Q (.tup l) H):trE Γ lv k (.name x) ρ H Q:=r_nm e hv h
theorem r_nml {x:Nm} {sk:SK} {l:List AV} (e:look ρ x=some (sk,.lst l):=by with_unfolding_all exact rfl) (hv:vk sk (.lst l)=true:=by with_unfolding_all exact rfl) (h:Q (.lst l) H):trE Γ lv k (.name x) ρ H Q:=r_nm e hv h
theorem r_ix {o:AV} {l:List AV} {i:Nat} {v:AV} (ho:itemsOf H o=some l) (h:l[i]?=some v) (q:Q v H):getIt H o (.int i) Q:=q_ixG ho h q
theorem r_bin {op:Bop} {a b:E} (h:trE Γ lv k a ρ H (kBin Γ lv k ρ Q op b)):trE Γ lv k (.bin op a b) ρ H Q:=h
theorem r_neg {a:E} (h:trE Γ lv k a ρ H (kNeg Q)):trE Γ lv k (.neg a) ρ H Q:=h
theorem r_exI {P:Int→Prop} {x:Int} (h:P x):∃ i,AV.int x=AV.int i∧P i:=⟨x,rfl,h⟩
theorem r_not {a:E} (h:trE Γ lv k a ρ H (kNot Q)):trE Γ lv k (.not a) ρ H Q:=h
theorem r_cmp {op:Cop} {a b:E} (h:trE Γ lv k a ρ H (kCmp Γ lv k ρ (kBool Q) op b)):trE Γ lv k (.cmp op a b) ρ H Q:=h
theorem r_ife {c a b:E} (h:trT Γ lv k c ρ H (kIfe Γ lv k ρ Q a b)):trE Γ lv k (.ife c a b) ρ H Q:=h
theorem r_list {es:Es} (h:trEs Γ lv k es ρ H (kList Q)):trE Γ lv k (.list es) ρ H Q:=h
theorem r_sub {o i:E} (h:trE Γ lv k o ρ H (kSub Γ lv k ρ Q i)):trE Γ lv k (.sub o i) ρ H Q:=h
theorem r_attr {o:E} {x:Nm} (h:trE Γ lv k o ρ H (kAttr Q x)):trE Γ lv k (.attr o x) ρ H Q:=h
theorem r_call {f:Nm} {es:Es} {w:AV} (e:look ρ f=some (.glo,w):=by with_unfolding_all exact rfl) (h:trEs Γ lv k es ρ H (kCall Γ lv k Q f)):trE Γ lv k (.call f es) ρ H Q:=⟨⟨_,e⟩,h⟩
theorem r_meth {o:E} {m:Nm} {es:Es} (h:trE Γ lv k o ρ H (kMeth Γ lv k ρ Q m es)):trE Γ lv k (.meth o m es) ρ H Q:=h
theorem r_callB {f:Nm} {b:Bf} {vs:List AV} (e:calleeOf f=some (.bf b):=by with_unfolding_all exact rfl) (h:callB b vs H Q):callN Γ lv k f vs H Q:=by unfold callN; rw [e]; exact h
theorem r_callF {f:Nm} {g:Fn} {vs:List AV} (e:calleeOf f=some (.fn g):=by with_unfolding_all exact rfl) (hl:Nat.blt (lv g) k=true:=by with_unfolding_all exact rfl) (h:Γ g vs H Q):callN Γ lv k f vs H Q:=by unfold callN; rw [e]; exact ⟨Nat.le_of_ble_eq_true hl,h⟩
theorem r_dict {ds:Ds} (h:trDs Γ lv k ds ρ H fun kvs H1=>match kvs with
   | []=>∀ a,H1 a=.none→Q (.obj a) (upd H1 a .news)
   | kvs=>(kvs.map (·.1)).Nodup∧∀ a,H1 a=.none→Q (.obj a) (upd H1 a (.sdict kvs))):trE Γ lv k (.dict ds) ρ H Q:=h
theorem r_ds0 {P:List (Sy×AV)→AH→Prop} (h:P [] H):trDs Γ lv k .nil ρ H P:=h
theorem r_ds1 {s:Sy} {e:E} {r:Ds} {P:List (Sy×AV)→AH→Prop} (h:trE Γ lv k e ρ H fun v H1=>trDs Γ lv k r ρ H1 fun vs H2=>P ((s,v)::vs) H2):trDs Γ lv k (.cons s e r) ρ H P:=h
theorem r_slice {o lo hi:E} (h:trE Γ lv k o ρ H (kSlice Γ lv k ρ Q lo hi)):trE Γ lv k (.slice o lo hi) ρ H Q:=h
theorem r_tnot {a:E} (h:trT Γ lv k a ρ H (kTnot B)):trT Γ lv k (.not a) ρ H B:=h
theorem r_tand {a b:E} (h:trT Γ lv k a ρ H (kTand Γ lv k ρ B b)):trT Γ lv k (.and a b) ρ H B:=h
theorem r_tor {a b:E} (h:trT Γ lv k a ρ H (kTor Γ lv k ρ B b)):trT Γ lv k (.or a b) ρ H B:=h
theorem r_tcmp {op:Cop} {a b:E} (h:trE Γ lv k a ρ H (kCmp Γ lv k ρ B op b)):trT Γ lv k (.cmp op a b) ρ H B:=h
theorem r_tattr {o:E} {x:Nm} (h:trE Γ lv k o ρ H (kAttr (kTst B) x)):trT Γ lv k (.attr o x) ρ H B:=h
theorem r_tmeth {o:E} {m:Nm} {es:Es} (h:trE Γ lv k o ρ H (kMeth Γ lv k ρ (kTst B) m es)):trT Γ lv k (.meth o m es) ρ H B:=h
theorem r_tcall {f:Nm} {es:Es} {w:AV} (e:look ρ f=some (.glo,w):=by with_unfolding_all exact rfl) (h:trEs Γ lv k es ρ H (kCall Γ lv k (kTst B) f)):trT Γ lv k (.call f es) ρ H B:=⟨⟨_,e⟩,h⟩
theorem r_tname {y:Nm} {sk:SK} {b:Bool} (e:look ρ y=some (sk,.bool b):=by with_unfolding_all exact rfl) (hs:vk sk (.bool b)=true:=by with_unfolding_all exact rfl) (h:B b H):trT Γ lv k (.name y) ρ H B:=by
 cases sk with
 | glo=>exact ff hs
 | _=>
  show match look ρ y with | some (.glo,_)=>False | some (_,v)=>truthy v H B | .none=>False
  rw [e]; exact h
theorem r_truthy {b:Bool} (h:B b H):truthy (.bool b) H B:=h
theorem r_ss {c:S} {r:Ss} (h:trS Γ lv k c ρ H (kSeq Γ lv k C r)):trSs Γ lv k (.cons c r) ρ H C:=by
 show trS Γ lv k c ρ H fun fl ρ' H1=>match fl with | .next=>trSs Γ lv k r ρ' H1 C | fl=>C fl ρ' H1
 refine Eq.mp ?_ h
 congr 1
 funext fl ρ' H1
 cases fl<;>rfl
theorem r_kn {r:Ss} (h:trSs Γ lv k r ρ H C):kSeq Γ lv k C r .next ρ H:=h
theorem r_kr {r:Ss} {v:AV} (h:C (.ret v) ρ H):kSeq Γ lv k C r (.ret v) ρ H:=h
theorem r_kb {r:Ss} (h:C .brk ρ H):kSeq Γ lv k C r .brk ρ H:=h
theorem r_nil (h:C .next ρ H):trSs Γ lv k .nil ρ H C:=h
theorem r_seq {K:Ev→AH→Prop} (h:K ρ H):seqS K C .next ρ H:=h
theorem r_ret {e:E} (h:trE Γ lv k e ρ H (kRet ρ C)):trS Γ lv k (.ret e) ρ H C:=h
theorem r_asg {x:Nm} {e:E} (h:trE Γ lv k e ρ H (kAsg ρ C x)):trS Γ lv k (.assign (.name x) e) ρ H C:=h
theorem r_can {x:Nm} {P:Prop} (e:canPut ρ x=true:=by with_unfolding_all exact rfl) (h:P):canPut ρ x=true∧P:=⟨e,h⟩
theorem r_asgA {x:Nm} {o e:E} (h:trE Γ lv k e ρ H (kAsgA Γ lv k ρ C x o)):trS Γ lv k (.assign (.attr o x) e) ρ H C:=h
theorem r_asgS {o i e:E} (h:trE Γ lv k e ρ H (kAsgS Γ lv k ρ C i o)):trS Γ lv k (.assign (.sub o i) e) ρ H C:=h
theorem r_asgT {xs:List Nm} {e:E} (h:trE Γ lv k e ρ H (kAsgT ρ C xs)):trS Γ lv k (.assign (.tup xs) e) ρ H C:=h
noncomputable def nodupB:List Nm→Bool
 | []=>true
 | x::r => !r.contains x&&nodupB r
theorem nodupB_of:∀ {l:List Nm},nodupB l=true→l.Nodup
 | [],_=>.nil
 | x::r,h=>by
  unfold nodupB at h
  simp only [Bool.and_eq_true,Bool.not_eq_true'] at h
  refine List.nodup_cons.mpr ⟨fun hx=>?_,nodupB_of h.2⟩
  have:=List.contains_iff_mem.mpr hx
  rw [h.1] at this; cases this
theorem r_unp {xs:List Nm} {l:List AV} {P:List AV→Prop} (h1:Nat.beq l.length xs.length=true:=by with_unfolding_all exact rfl) (h2:nodupB xs=true:=by with_unfolding_all exact rfl) (h3:xs.all (canPut ρ)=true:=by with_unfolding_all exact rfl) (h:P l):∃ m,AV.tup l=.tup m∧m.length=xs.length∧xs.Nodup∧(∀ x∈xs,canPut ρ x=true)∧P m:=
 ⟨l,rfl,Nat.eq_of_beq_eq_true h1,nodupB_of h2,List.all_eq_true.mp h3,h⟩
theorem r_ite {c:E} {a b:Ss} (h:trT Γ lv k c ρ H (kIte Γ lv k ρ C a b)):trS Γ lv k (.ite c a b) ρ H C:=h
theorem r_expr {e:E} (h:trE Γ lv k e ρ H (kExpr ρ C)):trS Γ lv k (.expr e) ρ H C:=h
theorem r_exN {P:Prop} (h:P):(AV.none=AV.none∨∃ i,AV.none=.int i)∧P:=⟨.inl rfl,h⟩
theorem r_for {t:T} {it:It} {b:Ss} (h:trI Γ lv k it ρ H (kFor Γ lv k ρ C t b)):trS Γ lv k (.forr t it b) ρ H C:=h
theorem r_itE {e:E} (h:trE Γ lv k e ρ H (kIt PLq)):trI Γ lv k (.e e) ρ H PLq:=h
theorem r_itT {l:List AV} {P:List AV→Prop} (h:P l):∃ m,itemsIt H (.tup l)=some m∧P m:=⟨l,rfl,h⟩
theorem r_itL {l:List AV} {P:List AV→Prop} (h:P l):∃ m,itemsIt H (.lst l)=some m∧P m:=⟨l,rfl,h⟩
theorem r_asgCT {xs:List Nm} {l:List AV} {P:Ev→Prop} (h1:Nat.beq l.length xs.length=true:=by with_unfolding_all exact rfl) (h2:nodupB xs=true:=by with_unfolding_all exact rfl) (h3:xs.all (canPut ρ)=true:=by with_unfolding_all exact rfl) (h:P (putAll ρ xs l)):asgC (.tup xs) (.tup l) ρ P:=r_unp (ρ:=ρ) h1 h2 h3 h
theorem r_asgCN {x:Nm} {v:AV} {P:Ev→Prop} (e:canPut ρ x=true:=by with_unfolding_all exact rfl) (h:P (put ρ x v)):asgC (.name x) v ρ P:=⟨e,h⟩
theorem r_add {x y:Int} (h:Q (.int (x+y)) H):binOp .add (.int x) (.int y) H Q:=q_add h
theorem r_sb {x y:Int} (h:Q (.int (x - y)) H):binOp .sub (.int x) (.int y) H Q:=q_sub h
theorem r_lt {x y:Int} (h:B (decide (x < y)) H):cmpOp .lt (.int x) (.int y) H B:=⟨x,y,rfl,rfl,h⟩
theorem r_le {x y:Int} (h:B (decide (x≤y)) H):cmpOp .le (.int x) (.int y) H B:=⟨x,y,rfl,rfl,h⟩
theorem r_gt {x y:Int} (h:B (decide (y < x)) H):cmpOp .gt (.int x) (.int y) H B:=⟨x,y,rfl,rfl,h⟩
theorem r_ge {x y:Int} (h:B (decide (y≤x)) H):cmpOp .ge (.int x) (.int y) H B:=⟨x,y,rfl,rfl,h⟩
theorem r_eq {x y:Int} (h:B (decide (x=y)) H):cmpOp .eq (.int x) (.int y) H B:=⟨_,rfl,h⟩
theorem r_ne {x y:Int} (h:B (!decide (x=y)) H):cmpOp .ne (.int x) (.int y) H B:=⟨_,rfl,h⟩
theorem r_eqs {x y:Sy} (h:B (decide (x=y)) H):cmpOp .eq (.str x) (.str y) H B:=⟨_,rfl,h⟩
theorem r_eqb {x y:Bool} (h:B (decide (x=y)) H):cmpOp .eq (.bool x) (.bool y) H B:=⟨_,rfl,h⟩
theorem r_neb {x y:Bool} (h:B (!decide (x=y)) H):cmpOp .ne (.bool x) (.bool y) H B:=⟨_,rfl,h⟩
theorem r_max {x y:Int} (h:Q (.int (max x y)) H):callB .max [.int x,.int y] H Q:=⟨x,y,rfl,rfl,h⟩
theorem r_min {x y:Int} (h:Q (.int (min x y)) H):callB .min [.int x,.int y] H Q:=⟨x,y,rfl,rfl,h⟩
theorem r_abs {x:Int} (h:Q (.int (x.natAbs:Int)) H):callB .abs [.int x] H Q:=⟨x,rfl,h⟩
theorem r_range {x y:Int} (h:Q (.rng x y) H):callB .range [.int x,.int y] H Q:=⟨x,y,rfl,rfl,h⟩
theorem r_lenT {l:List AV} (h:Q (.int (l.length:Int)) H):callB .len [.tup l] H Q:=⟨l,rfl,h⟩
theorem r_lenL {l:List AV} (h:Q (.int (l.length:Int)) H):callB .len [.lst l] H Q:=⟨l,rfl,h⟩
theorem r_lenO {a:Addr} {l:List AV} (e:H a=some (.list l):=by assumption) (h:Q (.int (l.length:Int)) H):callB .len [.obj a] H Q:=q_lenO e h
theorem r_fst {a:AV} {l:List AV} (h:Q a H):getIt H (.tup (a::l)) (.int 0) Q:=q_ixG (i:=0) rfl rfl h
theorem r_snd {a b:AV} {l:List AV} (h:Q b H):getIt H (.tup (a::b::l)) (.int 1) Q:=q_ixG (i:=1) rfl rfl h
theorem r_thd {a b c:AV} {l:List AV} (h:Q c H):getIt H (.tup (a::b::c::l)) (.int 2) Q:=q_ixG (i:=2) rfl rfl h
theorem r_appm {a:Addr} {l:List AV} {P:MK→Prop} (e:H a=some (.list l):=by assumption) (h:P .app):methK H (.obj a) .append P:=q_append e h
theorem r_app {a:Addr} {l:List AV} {v:AV} (e:H a=some (.list l)) (hl:l.length < LIM) (h:Q .none (upd H a (.list (l++[v])))):callM Γ lv k .app (.obj a) [v] H Q:=q_app e ⟨hl,h⟩
theorem r_fn {f:Fn} {o:AV} {vs:List AV} (hl:Nat.blt (lv f) k=true:=by with_unfolding_all exact rfl) (h:Γ f (o::vs) H Q):callM Γ lv k (.fn f) o vs H Q:=⟨Nat.le_of_ble_eq_true hl,h⟩
end
theorem r_tt {P R:Prop} (h:P):(true=true→P)∧(true=false→R):=⟨fun uu=>h,fun h=>by cases h⟩
theorem r_ff {P R:Prop} (h:R):(false=true→P)∧(false=false→R):=⟨fun h=>(by cases h),fun uu=>h⟩
theorem r_nt {P R:Prop} (h:R):((!true)=true→P)∧((!true)=false→R):=⟨fun h=>(by cases h),fun uu=>h⟩
theorem r_nf {P R:Prop} (h:P):((!false)=true→P)∧((!false)=false→R):=⟨fun uu=>h,fun h=>by cases h⟩
theorem r_all0 {Γ:Fn→List AV→AH→P1→Prop} {lv:Fn→Nat} {k:Nat} {H:AH} {ρ:Ev} {B:PB} (h:B true H):trAll Γ lv k .nil ρ H B:=h
theorem r_all1 {Γ:Fn→List AV→AH→P1→Prop} {lv:Fn→Nat} {k:Nat} {H:AH} {ρ:Ev} {B:PB} {e:E} {r:Es} (h:trT Γ lv k e ρ H (kAll Γ lv k ρ B r)):trAll Γ lv k (.cons e r) ρ H B:=h
theorem r_lst {l:List AV} {H:AH} {Q:P1} (h1:Nat.ble l.length LIM=true) (h:Q (.lst l) H):newL l H Q:=⟨Nat.le_of_ble_eq_true h1,.inr h⟩
theorem r_tupL {l:List AV} {H:AH} {Q:P1} (h1:l.length≤LIM) (h:Q (.tup l) H):callB .tuple [.lst l] H Q:=⟨l,rfl,h1,h⟩
theorem r_tupO {a:Addr} {l:List AV} {H:AH} {Q:P1} (e:H a=some (.list l)) (h1:l.length≤LIM) (h:Q (.tup l) H):callB .tuple [.obj a] H Q:=q_tupO e ⟨h1,h⟩
theorem r_tupT {l:List AV} {H:AH} {Q:P1} (h1:l.length≤LIM) (h:Q (.tup l) H):callB .tuple [.tup l] H Q:=⟨l,rfl,h1,h⟩
noncomputable def init2:List (Nm×SK)→List AV→Ev
 | [],_=>[]
 | (x,k)::r,v::vs=>(x,k,v)::init2 r vs
 | (x,k)::r,[]=>(x,k,.unb)::init2 r []
noncomputable def okPar:List (Nm×SK)→List Nm→Bool
 | [],_=>true
 | (x,_)::r,[]=>true
 | (x,_)::r,y::ps=>decide (x=y) && !((r.map (·.1)).contains x)&&okPar r ps
theorem bnd_nil (vs:List AV) (x:Nm):bnd [] vs x=.unb:=by unfold bnd; rfl
theorem initρ_none:∀ (sc:List (Nm×SK)) (vs:List AV),initρ sc [] vs=init2 sc []
 | [],_=>rfl
 | (x,k)::r,vs=>by unfold initρ init2; rw [bnd_nil,initρ_none r vs]
theorem initρ_cons {y:Nm} {ps:List Nm} {v:AV} {vs:List AV}:∀ (sc:List (Nm×SK)),(sc.map (·.1)).contains y=false→initρ sc (y::ps) (v::vs)=initρ sc ps vs
 | [],_=>rfl
 | (x,k)::r,h=>by
  simp only [List.map_cons,List.contains_cons,Bool.or_eq_false_iff] at h
  unfold initρ
  rw [initρ_cons r h.2]
  have:bnd (y::ps) (v::vs) x=bnd ps vs x:=by
   have hne:y≠x:=fun e=>by rw [e] at h; simp at h
   rw [bnd,if_neg hne]
  rw [this]
theorem init_eq:∀ (sc:List (Nm×SK)) (ps:List Nm) (vs:List AV),okPar sc ps=true→vs.length=ps.length→initρ sc ps vs=init2 sc vs
 | [],_,_,_,_=>rfl
 | sc,[],[],_,_=>initρ_none sc []
 | (x,k)::r,y::ps,v::vs,h,hl=>by
  unfold okPar at h
  simp only [Bool.and_eq_true,decide_eq_true_eq,Bool.not_eq_true'] at h
  obtain ⟨⟨rfl,h2⟩,h3⟩:=h
  unfold initρ init2
  rw [initρ_cons r h2,init_eq r ps vs h3 (by simpa using hl)]
  simp [bnd]
 | _::_,[],_::_,_,hl=>by simp at hl
 | _::_,_::_,[],_,hl=>by simp at hl
theorem okPar_all (f:Fn):okPar (scOf f) (params f)=true:=by cases f<;>decide
noncomputable def finS (H:AH) (Q:P1):PS
 | .ret v,_,H'=>ends0 H Q v H'
 | .next,_,H'=>ends0 H Q .none H'
 | .brk,_,_=>False
theorem meets_of {Γ:Fn→List AV→AH→P1→Prop} {lv:Fn→Nat} {f:Fn} {vs:List AV} {H:AH} {Q:P1} (hl:Nat.beq vs.length (params f).length=true) (h:trSs Γ lv (lv f) (bodyOf f) (init2 (scOf f) vs) H (finS H Q)):meets Γ lv f vs H Q:=by
 refine ⟨Nat.eq_of_beq_eq_true hl,?_⟩
 rw [init_eq _ _ _ (okPar_all f) (Nat.eq_of_beq_eq_true hl)]
 refine Eq.mp ?_ h
 congr 1
 funext fl ρ H'
 cases fl<;>rfl
theorem r_fin {H H':AH} {Q:P1} {v:AV} {ρ:Ev} (h:ends0 H Q v H'):finS H Q (.ret v) ρ H':=h
theorem r_finN {H H':AH} {Q:P1} {ρ:Ev} (h:ends0 H Q .none H'):finS H Q .next ρ H':=h
theorem r_seqR {K:Ev→AH→Prop} {C:PS} {v:AV} {ρ:Ev} {H:AH} (h:C (.ret v) ρ H):seqS K C (.ret v) ρ H:=h
theorem r_seqB {K:Ev→AH→Prop} {C:PS} {ρ:Ev} {H:AH} (h:C .brk ρ H):seqS K C .brk ρ H:=h
theorem r_rng1 {y:Int} {H:AH} {Q:P1} (h0:0≤y) (h1:y < 10000) (h:Q (.rng 0 y) H):callB .range [.int y] H Q:=⟨y,rfl,by unfold LIM; exact l01 20848244440988778616080961 rfl h1,by unfold LIM; exact l01 325406633986337515057 rfl h0,h⟩
theorem r_itR {y:Int} {H:AH} {P:List AV→Prop} (h0:0≤y) (h1:y < 10000) (h:P ((upto 0 y).map .int)):∃ m,itemsIt H (.rng 0 y)=some m∧P m:=⟨_,by
 simp only [itemsIt]
 rw [if_pos]
 unfold LIM; exact l31 2537268403071969862023876266798872553734665076599204232833288593629078274122986729974133405088822855898028556739272355256906497201648082825939138996781542876857629177651011738997220001346973138118464874042783373227535382800770165460089391046276389284309974063347306499634478154377295443294451700081989889053175115657491519226339426522475132633887243533725970860760767528625156352209695285302448424958372652887836484350080906769682727717970690606842641005533228832171573 rfl h0 h1 (ltoN _) (labs _) (labs _),h⟩
theorem r_no {p:Bool} {P R:Prop} (e:p=false) (h:R):(p=true→P)∧(p=false→R):=⟨fun h'=>(by rw [e] at h'; cases h'),fun uu=>h⟩
theorem r_yes {p:Bool} {P R:Prop} (e:p=true) (h:P):(p=true→P)∧(p=false→R):=⟨fun uu=>h,fun h'=>by rw [e] at h'; cases h'⟩
theorem r_comp {Γ:Fn→List AV→AH→P1→Prop} {lv:Fn→Nat} {k:Nat} {H:AH} {ρ:Ev} {Q:P1} {elt:E} {t:T} {it:It} {ifs:Es} {sc:List (Nm×SK)} (hf:freOk sc ρ=true) (h:trI Γ lv k it ρ H fun items H1=>
   loopC (fun x acc H2 C=>asgC t x (compρ sc ρ) fun ρ1=>trAll Γ lv k ifs ρ1 H2 fun b H3=>(b=true→trE Γ lv k elt ρ1 H3 fun v H4=>acc.length < LIM∧C (acc++[v]) H4)∧(b=false→C acc H3)) items [] H1 fun acc H2=>newL acc H2 Q):trE Γ lv k (.comp elt t it ifs sc) ρ H Q:=⟨hf,h⟩
theorem r_comp2 {Γ:Fn→List AV→AH→P1→Prop} {lv:Fn→Nat} {k:Nat} {H:AH} {ρ:Ev} {Q:P1} {elt:E} {t t2:T} {it it2:It} {ifs:Es} {sc:List (Nm×SK)} (hf:freOk sc ρ=true) (h:trI Γ lv k it ρ H fun items H1=>
   loopC (fun x acc H2 C=>asgC t x (compρ sc ρ) fun ρ1=>trI Γ lv k it2 ρ1 H2 fun items2 H2'=>
    loopC (fun x2 acc H2 C=>asgC t2 x2 ρ1 fun ρ2=>trAll Γ lv k ifs ρ2 H2 fun b H3=>(b=true→trE Γ lv k elt ρ2 H3 fun v H4=>acc.length < LIM∧C (acc++[v]) H4)∧(b=false→C acc H3)) items2 acc H2' C) items [] H1 fun acc H2=>newL acc H2 Q):trE Γ lv k (.comp2 elt t it t2 it2 ifs sc) ρ H Q:=⟨hf,h⟩
theorem r_brk {Γ:Fn→List AV→AH→P1→Prop} {lv:Fn→Nat} {k:Nat} {H:AH} {ρ:Ev} {C:PS} (h:C .brk ρ H):trS Γ lv k .brk ρ H C:=h
theorem r_andE {Γ:Fn→List AV→AH→P1→Prop} {lv:Fn→Nat} {k:Nat} {H:AH} {ρ:Ev} {Q:P1} {a b:E} (h:trE Γ lv k a ρ H fun v H1=>truthy v H1 fun t H2=>(t=true→trE Γ lv k b ρ H2 Q)∧(t=false→Q v H2)):trE Γ lv k (.and a b) ρ H Q:=h
end Internal
set_option compiler.extract_closed false
open Lean in
local macro_rules | `(tactic| walk_at "wk")=>do
 let h ← `(_)
 let a ← `(Parser.Term.namedArgument| (h:=?_))
 let t (k:TSyntax `tactic) (p:String) (e:TSyntax `term) (s:String):Array (TSyntax `tactic):=(s.splitOn " ").toArray.map fun x=>⟨k.raw.setArg 1 (Syntax.mkApp (mkIdent (.mkSimple (p++(x.splitOn "_").headD ""))) ((x.splitOn "_").tail.map fun _=>e).toArray)⟩
 let m:=t (← `(tactic| refine $h)) "r_" ⟨a⟩ "ss_ kn_ nil_ kr_ kb_ fin_ finN_ ret_ asg_ asgT_ ite_ expr_ for_ asgA_ asgS_ nmi_ nmo_ nmt_ nml_ nm_ nmv_ int_ str_ none_ bool_ bin_ neg_ cmp_ ife_ tup_ list_ sub_ attr_ meth_ not_ call_ dict_ ds0_ ds1_ es0_ es1_ newT_ callB_ callF_ exI_ exN_ can_ unp_ asgCT_ asgCN_ tnot_ tand_ tor_ tcmp_ tattr_ tmeth_ tcall_ tname_ truthy_ tt_ ff_ nt_ nf_ all0_ all1_ itE_ itT_ itL_ add_ sb_ lt_ le_ gt_ ge_ eq_ ne_ eqs_ eqb_ neb_ max_ min_ abs_ range_ lenT_ lenL_ lenO_ fst_ snd_ thd_ appm_ fn_ seq_ seqR_ seqB_"
 let w:=t (← `(tactic| show $h)) "" h "getAt____ methK____ binOp_____ cmpOp_____ getIt____ callN_______ callM________ callB____ setAt_____ setIt_____ newT___ newL___ truthy___ trE_______ trT_______ loopF_____ And__ Exists_"
 `(tactic| ((repeat with_reducible first $[| $m:tactic]*); try with_reducible first $[| $w:tactic]*))
set_option compiler.extract_closed true
namespace Internal
open PySem
section
variable {Γ:Fn→List AV→AH→P1→Prop} {H:AH} {Q:P1}
theorem put_behind_ok (a:Addr) (l:Prs) (lo hi:Int) (hl:l.length < LIM) (hH:H a=some (.list (encPs l))) (h:Q .none (upd H a (.list (encPs (putB l lo hi))))):meets Γ lvl .put_behind [.obj a,.int lo,.int hi] H Q:=by
 refine meets_of rfl ?_
 have fin:∀ m:Prs,encPs m++[.tup [.int lo,.int hi]]=encPs (putB l lo hi)→m.length < LIM→H a=some (.list (encPs m))→trSs Γ lvl (lvl .put_behind) (.cons (.expr (.meth (.name .found) .append (.cons (.tup (.cons (.name .low) (.cons (.name .high) .nil))) .nil))) .nil) [(.found,.loc,.obj a),(.low,.loc,.int lo),(.high,.loc,.int hi),(.len,.glo,.unb)] H
   (kSeq Γ lvl (lvl .put_behind) (finS H Q) .nil):=fun m e hm hG=>by
  walk_at "wk"
  refine r_app hG (by rw [encPs_len]; exact hm) ?_
  rw [e]
  walk_at "wk"
  exact ends_same h
 dsimp only [bodyOf,b_put_behind,scOf,init2]
 refine r_ss ?_
 walk_at "wk"
 rcases List.eq_nil_or_concat l with rfl | ⟨m,p,rfl⟩
 ·exact r_no rfl (r_ff (fin [] rfl hl hH))
 ·rw [List.concat_eq_append] at *
  have hH':=hH
  rw [encPs_snoc] at hH'
  have e:putB (m++[p]) lo hi=if lo≤p.2+1 then (if p.2 < hi then m++[(p.1,hi)] else m++[p]) else m++[p]++[(lo,hi)]:=by
   unfold putB; simp
  have hp:decide ((0:Int) < ((encPs (m++[p])).length:Int))=true:=by rw [encPs_len,List.length_append]; exact decide_eq_true (by show (0:Int) < ((m.length+1:Nat):Int); exact l10 362837568 rfl)
  refine r_yes hp ?_
  walk_at "wk"
  refine q_lastO hH' ?_
  walk_at "wk"
  refine ⟨fun h1=>?_,fun h1=>?_⟩
  ·rw [if_pos (of_decide_eq_true h1)] at e
   rw [e] at h
   walk_at "wk"
   refine q_lastO hH' ?_
   walk_at "wk"
   refine ⟨fun h2=>?_,fun h2=>?_⟩
   ·rw [if_pos (of_decide_eq_true h2),encPs_snoc] at h
    walk_at "wk"
    refine q_lastO hH' ?_
    walk_at "wk"
    refine q_setLast hH' ?_
    walk_at "wk"
    exact ends_same h
   ·rw [if_neg (of_decide_eq_false h2),upd_same hH] at h
    walk_at "wk"
    exact ends_same h
  ·rw [if_neg (of_decide_eq_false h1)] at e
   refine fin _ ?_ hl hH
   rw [e,encPs_snoc (m++[p])]
theorem least_ok (p:Int×Int) (l:Prs) (h:Q (.int p.1) H):meets Γ lvl .least [.tup (encPs (p::l))] H Q:=by
 refine meets_of rfl ?_
 dsimp only [bodyOf,b_least,scOf,init2]
 rw [encPs_cons]
 walk_at "wk"
 exact ends_same h
theorem greatest_ok (p:Int×Int) (l:Prs) (h:Q (.int p.2) H):meets Γ lvl .greatest [.tup (encPs (l++[p]))] H Q:=by
 refine meets_of rfl ?_
 dsimp only [bodyOf,b_greatest,scOf,init2]
 rw [encPs_snoc]
 walk_at "wk"
 refine q_lastT ?_
 walk_at "wk"
 exact ends_same h
theorem loopC_fm {step:AV→List AV→AH→PL→Prop} {g:Int×Int→Option AV}:∀ (l:Prs) (acc:List AV) (P:PL),acc.length+l.length < LIM→
  (∀ p∈l,∀ acc (P:PL),acc.length < LIM→P (match g p with | some v=>acc++[v] | none=>acc) H→step (encP p) acc H P)→P (acc++l.filterMap g) H→loopC step (encPs l) acc H P
 | [],acc,P,_,_,h=>by simpa [encPs,loopC] using h
 | p::l,acc,P,hl,hs,h=>by
  show step (encP p) acc H (fun acc' H'=>loopC step (encPs l) acc' H' P)
  have hl':acc.length+l.length+1 < LIM:=by simpa [Nat.add_assoc] using hl
  refine hs p List.mem_cons_self acc _ (by exact l30 1222485188625 rfl hl) ?_
  cases hg:g p with
  | none=>exact loopC_fm l acc P (by exact l30 80143410160861201 rfl hl') (fun q hq=>hs q (List.mem_cons_of_mem _ hq)) (by simpa [hg] using h)
  | some v=>exact loopC_fm l (acc++[v]) P (by simp; exact l30 20515479607028875281 rfl hl') (fun q hq=>hs q (List.mem_cons_of_mem _ hq)) (by simpa [hg] using h)
end
end Internal
namespace Internal
open PySem
section
variable {Γ:Fn→List AV→AH→P1→Prop} {lv:Fn→Nat} {k:Nat} {H:AH} {Q:P1} {ρ:Ev}
theorem seqS_next {K:Ev→AH→Prop} {Q:PS}:seqS K Q .next ρ H=K ρ H:=rfl
theorem u_nil {Q:PS}:trSs Γ lv k .nil ρ H Q=Q .next ρ H:=rfl
theorem w_comp {x y:Nm} {elt:E} {it:It} {ifs:Es} {sc:List (Nm×SK)} {l:Prs} {g:Int×Int→Option AV} (hf:freOk sc ρ=true) (hl:l.length < LIM)
  (he:∀ P:PL,P (encPs l) H→trI Γ lv k it ρ H P)
  (hs:∀ p∈l,∀ (acc:List AV) (C:PL),acc.length < LIM→C (match g p with | some v=>acc++[v] | none=>acc) H→
   asgC (.tup [x,y]) (encP p) (compρ sc ρ) fun ρ1=>trAll Γ lv k ifs ρ1 H fun b H3=>(b=true→trE Γ lv k elt ρ1 H3 fun v H4=>acc.length < LIM∧C (acc++[v]) H4)∧(b=false→C acc H3))
  (h:newL (l.filterMap g) H Q):trE Γ lv k (.comp elt (.tup [x,y]) it ifs sc) ρ H Q:=by
 exact ⟨hf,he _ (loopC_fm l [] _ (by simpa using hl) (fun p hp acc P hlt hP=>hs p hp acc P hlt hP) (by simpa using h))⟩
theorem filterMap_fm {l:Prs} {c:Int×Int→Bool} {f:Int×Int→Int×Int}:l.filterMap (fun p=>if c p then some (encP (f p)) else none)=encPs ((l.filter c).map f):=by
 induction l with
 | nil=>rfl
 | cons p l ih=>
  rw [List.filterMap_cons,List.filter_cons]
  cases h:c p
  ·simp [ih]
  ·simp [ih,encPs]
theorem up_to_ok (l:Prs) (k:Int) (hl:l.length < 1000) (h:Q (.tup (encPs (upToP l k))) H):meets Γ lvl .up_to [.tup (encPs l),.int k] H Q:=by
 refine meets_of rfl ?_
 have hl2:(encPs (upToP l k)).length≤LIM:=by
  rw [encPs_len]; unfold upToP; rw [List.length_map]; have:=List.length_filter_le (fun p:Int×Int=>decide (p.1≤k)) l; unfold LIM; exact l20 5285332068198299800448813586 rfl hl this
 dsimp only [bodyOf,b_up_to,scOf,init2]
 walk_at "wk"
 refine w_comp (l:=l) (g:=fun p=>if decide (p.1≤k) then some (encP (p.1,min p.2 k)) else none) rfl (by unfold LIM; exact l10 81438454847779603237393 rfl hl) (fun P hP=>r_itE (r_nm rfl rfl (r_itT hP))) (fun p hp acc C hlt hC=>?_) ?_
 ·refine r_asgCT rfl rfl rfl ?_
  walk_at "wk"
  cases hc:decide (p.1≤k)
  ·rw [hc] at hC
   walk_at "wk"
   exact hC
  ·rw [hc] at hC
   walk_at "wk"
   exact ⟨hlt,hC⟩
 ·rw [filterMap_fm]
  refine ⟨hl2,.inr ?_⟩
  walk_at "wk"
  refine r_tupL hl2 ?_
  walk_at "wk"
  exact ends_same h
theorem from_on_ok (l:Prs) (k:Int) (hl:l.length < 1000) (h:Q (.tup (encPs (fromOnP l k))) H):meets Γ lvl .from_on [.tup (encPs l),.int k] H Q:=by
 refine meets_of rfl ?_
 have hl2:(encPs (fromOnP l k)).length≤LIM:=by
  rw [encPs_len]; unfold fromOnP; rw [List.length_map]; have:=List.length_filter_le (fun p:Int×Int=>decide (k≤p.2)) l; unfold LIM; exact l20 5285332068198299800448813586 rfl hl this
 dsimp only [bodyOf,b_from_on,scOf,init2]
 walk_at "wk"
 refine w_comp (l:=l) (g:=fun p=>if decide (k≤p.2) then some (encP (max p.1 k,p.2)) else none) rfl (by unfold LIM; exact l10 81438454847779603237393 rfl hl) (fun P hP=>r_itE (r_nm rfl rfl (r_itT hP))) (fun p hp acc C hlt hC=>?_) ?_
 ·refine r_asgCT rfl rfl rfl ?_
  walk_at "wk"
  cases hc:decide (k≤p.2)
  ·rw [hc] at hC
   walk_at "wk"
   exact hC
  ·rw [hc] at hC
   walk_at "wk"
   exact ⟨hlt,hC⟩
 ·rw [filterMap_fm]
  refine ⟨hl2,.inr ?_⟩
  walk_at "wk"
  refine r_tupL hl2 ?_
  walk_at "wk"
  exact ends_same h
theorem filterMap_all {α β:Type} {l:List α} {f:α→β}:l.filterMap (fun p=>some (f p))=l.map f:=by
 induction l with
 | nil=>rfl
 | cons p l ih=>simp [ih]
theorem negated_ok (l:Prs) (hl:l.length < 1000) (h:Q (.tup (encPs (negP l))) H):meets Γ lvl .negated [.tup (encPs l)] H Q:=by
 refine meets_of rfl ?_
 have hl2:(encPs (negP l)).length≤LIM:=by rw [encPs_len]; unfold negP; rw [List.length_map,List.length_reverse]; unfold LIM; exact l10 81438454847775308270097 rfl hl
 dsimp only [bodyOf,b_negated,scOf,init2]
 walk_at "wk"
 refine w_comp (l:=l.reverse) (g:=fun p=>some (encP (-p.2,-p.1))) rfl (by rw [List.length_reverse]; unfold LIM; exact l10 81438454847779603237393 rfl hl) (fun P hP=>by
  exact ⟨⟨_,rfl⟩,_,rfl,by unfold encPs at *; rw [← List.map_reverse]; exact hP⟩) (fun p hp acc C hlt hC=>?_) ?_
 ·refine r_asgCT rfl rfl rfl ?_
  walk_at "wk"
  exact ⟨hlt,hC⟩
 ·rw [filterMap_all]
  have e:l.reverse.map (fun p=>encP (-p.2,-p.1))=encPs (negP l):=by unfold negP encPs; rw [List.map_map]; rfl
  rw [e]
  refine ⟨hl2,.inr ?_⟩
  walk_at "wk"
  refine r_tupL hl2 ?_
  walk_at "wk"
  exact ends_same h
theorem size_ok (l:Prs) (hl:l.length < 1000) (h:Q (.int (sizeP l)) H):meets Γ lvl .size [.tup (encPs l)] H Q:=by
 refine meets_of rfl ?_
 dsimp only [bodyOf,b_size,scOf,init2]
 walk_at "wk"
 refine w_comp (l:=l) (g:=fun p=>some (.int (p.2 - p.1+1))) rfl (by unfold LIM; exact l10 81438454847779603237393 rfl hl) (fun P hP=>r_itE (r_nm rfl rfl (r_itT hP))) (fun p hp acc C hlt hC=>?_) ?_
 ·refine r_asgCT rfl rfl rfl ?_
  walk_at "wk"
  exact ⟨hlt,hC⟩
 ·rw [filterMap_all]
  refine ⟨by rw [List.length_map]; unfold LIM; exact l10 81438454847775308270097 rfl hl,.inr ?_⟩
  walk_at "wk"
  refine ⟨l.map (fun p:Int×Int=>p.2 - p.1+1),(fun t ht=>by cases ht),?_,?_⟩
  ·show some _=some _
   rw [List.map_map]; rfl
  ·walk_at "wk"
   exact ends_same h
end
end Internal
namespace Internal
open PySem
section
variable {Γ:Fn→List AV→AH→P1→Prop} {lv:Fn→Nat} {k:Nat} {H:AH} {Q:P1} {ρ:Ev}
theorem loopF_fold {σ:Type} {body:AV→Ev→AH→PS→Prop} (f:σ→Int×Int→σ) (env:σ→Ev) (hp:σ→AH) (I:Prs→σ→Prop)
  (hs:∀ p r x (C:PS),I (p::r) x→(I r (f x p)→C .next (env (f x p)) (hp (f x p)))→body (encP p) (env x) (hp x) C):
  ∀ (l:Prs) (x:σ) (Q:PS),I l x→(I [] (l.foldl f x)→Q .next (env (l.foldl f x)) (hp (l.foldl f x)))→loopF body (encPs l) (env x) (hp x) Q
 | [],x,Q,hI,h=>h hI
 | p::l,x,Q,hI,h=>by
  show body (encP p) (env x) (hp x) _
  exact hs p l x _ hI fun hI'=>loopF_fold f env hp I hs l (f x p) Q hI' h
theorem newL_obj {l:List AV} (hl:l.length≤LIM) (h:∀ a,H a=.none→Q (.obj a) (upd H a (.list l))):newL l H Q:=⟨hl,.inl h⟩
theorem ends_turn {H0:AH} {a:Addr} {l:List AV} (hn:H0 a=none) (h:Q (.lst l) H0):ends0 H0 Q (.obj a) (upd H0 a (.list l)):=by
 refine ⟨.lst l,H0,⟨fun b o e=>?_,.inr ⟨a,l,rfl,rfl,hn,upd_at _ _,hn⟩⟩,h⟩
 have:b≠a:=fun q=>by subst q; rw [hn] at e; cases e
 rw [upd_ne _ this]; exact e
theorem ends_drop {H0:AH} {a:Addr} {o:AO} {v:AV} (hn:H0 a=none) (h:Q v H0):ends0 H0 Q v (upd H0 a o):=by
 refine ⟨v,H0,⟨fun b o e=>?_,.inl rfl⟩,h⟩
 have:b≠a:=fun q=>by subst q; rw [hn] at e; cases e
 rw [upd_ne _ this]; exact e
theorem putB_len (l:Prs) (lo hi:Int):(putB l lo hi).length≤l.length+1:=by
 rcases List.eq_nil_or_concat l with rfl | ⟨m,p,rfl⟩
 ·simp [putB]
 ·unfold putB; simp; split
  ·split<;>simp
  ·simp
theorem insP_len (p:Int×Int):∀ l:Prs,(insP p l).length=l.length+1
 | []=>rfl
 | q::l=>by unfold insP; split<;>simp [insP_len p l]
theorem sortP_len:∀ l:Prs,(sortP l).length=l.length
 | []=>rfl
 | p::l=>by unfold sortP; rw [insP_len,sortP_len l,List.length_cons]
theorem join_ok (hΓ:∀ (a:Addr) (l:Prs) (lo hi:Int) (H:AH) (Q:P1),l.length < LIM→H a=some (.list (encPs l))→Q .none (upd H a (.list (encPs (putB l lo hi))))→Γ .put_behind [.obj a,.int lo,.int hi] H Q)
  (d e:Prs) (hl:d.length+e.length < 64) (h:Q (.tup (encPs (joinP d e))) H):meets Γ lvl .join [.tup (encPs d),.tup (encPs e)] H Q:=by
 refine meets_of rfl ?_
 dsimp only [bodyOf,b_join,scOf,init2]
 walk_at "wk"
 refine newL_obj (Nat.zero_le _) fun a ha=>?_
 walk_at "wk"
 refine q_cat ?_
 rw [← encPs_app]
 refine ⟨by rw [encPs_len,List.length_append]; unfold LIM; exact l20 333571911056942877729595409 rfl hl,?_⟩
 walk_at "wk"
 refine ⟨d++e,rfl,by rw [List.length_append]; exact hl,by rw [encPs_len,sortP_len,List.length_append]; unfold LIM; exact l20 333571911056942877729595409 rfl hl,.inr (r_itL ?_)⟩
 refine loopF_fold (σ:=Prs×AV×AV) (fun x p=>(putB x.1 p.1 p.2,.int p.1,.int p.2))
  (fun x=>[(.d,.loc,.tup (encPs d)),(.e,.loc,.tup (encPs e)),(.found,.loc,.obj a),(.low,.loc,x.2.1),(.high,.loc,x.2.2),(.sorted,.glo,.unb),(.put_behind,.glo,.unb),(.tuple,.glo,.unb)])
  (fun x=>upd H a (.list (encPs x.1))) (fun r x=>x.1.length+r.length < LIM) (fun p r x C hI hC=>?_) _ ([],.unb,.unb) _ ?_ fun hI=>?_
 ·refine r_asgCT rfl rfl rfl ?_
  walk_at "wk"
  refine hΓ a x.1 _ _ _ _ (by simp only [List.length_cons] at hI; exact l30 312956108709905 rfl hI) (upd_at _ _) ?_
  rw [upd_upd]
  walk_at "wk"
  exact hC (by have:=putB_len x.1 p.1 p.2; simp only [List.length_cons] at hI; show (putB x.1 p.1 p.2).length+r.length < LIM; exact l40 1292965732937729112580114 rfl hI this)
 ·rw [sortP_len,List.length_append]; show 0+_ < LIM; unfold LIM; exact l20 85394409230577480642297831441 rfl hl
 ·have e1:((sortP (d++e)).foldl (fun (x:Prs×AV×AV) p=>(putB x.1 p.1 p.2,AV.int p.1,AV.int p.2)) ([],.unb,.unb)).1=joinP d e:=by
   unfold joinP
   generalize sortP (d++e)=l
   suffices ∀ (x:Prs×AV×AV),(l.foldl (fun (x:Prs×AV×AV) p=>(putB x.1 p.1 p.2,AV.int p.1,AV.int p.2)) x).1=l.foldl (fun f p=>putB f p.1 p.2) x.1 from this _
   induction l with
   | nil=>intro x; rfl
   | cons p l ih=>intro x; rw [List.foldl_cons,List.foldl_cons,ih]
  rw [e1] at hI ⊢
  generalize (sortP (d++e)).foldl _ _=x
  walk_at "wk"
  refine r_tupO (upd_at a _) (by rw [encPs_len]; simp only [List.length_nil] at hI; exact l20 1218172067857 rfl hI) ?_
  walk_at "wk"
  exact ends_drop ha h
end
end Internal
namespace Internal
open PySem
section
variable {Γ:Fn→List AV→AH→P1→Prop} {lv:Fn→Nat} {k:Nat} {H:AH} {Q:P1} {ρ:Ev}
set_option backward.match.sparseCases false in
noncomputable abbrev lit (x:Int) (g:Sy) (k:Int):AV:=.tup [.int x,.str g,.int k]
set_option backward.match.sparseCases false in
noncomputable def isSg:Sy→Bool
 | .le | .ge | .ne | .eq=>true
 | _=>false
set_option backward.match.sparseCases false in
noncomputable def negSg:Sy→Sy
 | .le=>.ge | .ge=>.le | .eq=>.ne | _=>.eq
set_option backward.match.sparseCases false in
noncomputable def negK (g:Sy) (k:Int):Int:=match g with
 | .le=>k+1 | .ge=>k - 1 | _=>k
set_option backward.match.sparseCases false in
noncomputable def struckP (g:Sy) (k:Int) (d:Prs):Prs:=match g with
 | .le=>upToP d k | .ge=>fromOnP d k | .eq=>meetP d [(k,k)] | _=>withoutP d k
theorem upToP_len (l:Prs) (k:Int):(upToP l k).length≤l.length:=by unfold upToP; rw [List.length_map]; exact List.length_filter_le _ _
theorem fromOnP_len (l:Prs) (k:Int):(fromOnP l k).length≤l.length:=by unfold fromOnP; rw [List.length_map]; exact List.length_filter_le _ _
theorem without_ok (h1:∀ (l:Prs) (k:Int) (H:AH) (Q:P1),l.length < 1000→Q (.tup (encPs (upToP l k))) H→Γ .up_to [.tup (encPs l),.int k] H Q)
  (h2:∀ (l:Prs) (k:Int) (H:AH) (Q:P1),l.length < 1000→Q (.tup (encPs (fromOnP l k))) H→Γ .from_on [.tup (encPs l),.int k] H Q)
  (l:Prs) (v:Int) (hl:l.length < 1000) (h:Q (.tup (encPs (withoutP l v))) H):meets Γ lvl .without [.tup (encPs l),.int v] H Q:=by
 refine meets_of rfl ?_
 have a:=upToP_len l (v - 1)
 have b:=fromOnP_len l (v+1)
 dsimp only [bodyOf,b_without,scOf,init2]
 walk_at "wk"
 refine h1 _ _ _ _ hl ?_
 walk_at "wk"
 refine h2 _ _ _ _ hl ?_
 walk_at "wk"
 refine q_cat ?_
 rw [← encPs_app]
 refine ⟨by rw [encPs_len,List.length_append]; unfold LIM; exact l30 88639104504904479926573939847350803 rfl hl a b,?_⟩
 walk_at "wk"
 exact ends_same h
theorem struck_ok (h1:∀ (l:Prs) (k:Int) (H:AH) (Q:P1),l.length < 1000→Q (.tup (encPs (upToP l k))) H→Γ .up_to [.tup (encPs l),.int k] H Q)
  (h2:∀ (l:Prs) (k:Int) (H:AH) (Q:P1),l.length < 1000→Q (.tup (encPs (fromOnP l k))) H→Γ .from_on [.tup (encPs l),.int k] H Q)
  (h3:∀ (l:Prs) (k:Int) (H:AH) (Q:P1),l.length < 1000→Q (.tup (encPs (withoutP l k))) H→Γ .without [.tup (encPs l),.int k] H Q)
  (h4:∀ (l e:Prs) (H:AH) (Q:P1),l.length+e.length < 1000→Q (.tup (encPs (meetP l e))) H→Γ .meet [.tup (encPs l),.tup (encPs e)] H Q)
  (x:Int) (g:Sy) (k:Int) (l:Prs) (hg:isSg g=true) (hl:l.length < 900) (h:Q (.tup (encPs (struckP g k l))) H):meets Γ lvl .struck [lit x g k,.tup (encPs l)] H Q:=by
 refine meets_of rfl ?_
 dsimp only [bodyOf,b_struck,scOf,init2,lit]
 walk_at "wk"
 refine ⟨fun e=>?_,fun e=>?_⟩
 ·cases of_decide_eq_true e
  walk_at "wk"
  refine h1 _ _ _ _ (by exact l10 19743082168999234065 rfl hl) ?_
  walk_at "wk"
  exact ends_same h
 ·have e1:=of_decide_eq_false e
  walk_at "wk"
  refine ⟨fun e=>?_,fun e=>?_⟩
  ·cases of_decide_eq_true e
   walk_at "wk"
   refine h2 _ _ _ _ (by exact l10 19743082168999234065 rfl hl) ?_
   walk_at "wk"
   exact ends_same h
  ·have e2:=of_decide_eq_false e
   walk_at "wk"
   refine ⟨fun e=>?_,fun e=>?_⟩
   ·cases of_decide_eq_true e
    walk_at "wk"
    refine h4 _ [(k,k)] _ _ (by simp; exact l10 5054228957072083143185 rfl hl) ?_
    walk_at "wk"
    exact ends_same h
   ·have e3:=of_decide_eq_false e
    have hs:struckP g k l=withoutP l k:=by cases g<;>first | exact absurd rfl e1 | exact absurd rfl e2 | exact absurd rfl e3 | rfl
    rw [hs] at h
    walk_at "wk"
    refine h3 _ _ _ _ (by exact l10 19743082168999234065 rfl hl) ?_
    walk_at "wk"
    exact ends_same h
theorem negation_ok (x:Int) (g:Sy) (k:Int) (hg:isSg g=true) (h:Q (lit x (negSg g) (negK g k)) H):meets Γ lvl .negation [lit x g k] H Q:=by
 refine meets_of rfl ?_
 dsimp only [bodyOf,b_negation,scOf,init2,lit]
 walk_at "wk"
 refine ⟨fun e=>?_,fun e=>?_⟩
 ·cases of_decide_eq_true e
  walk_at "wk"
  exact ends_same h
 ·have e1:=of_decide_eq_false e
  walk_at "wk"
  refine ⟨fun e=>?_,fun e=>?_⟩
  ·cases of_decide_eq_true e
   walk_at "wk"
   exact ends_same h
  ·have e2:=of_decide_eq_false e
   walk_at "wk"
   refine ⟨fun e=>?_,fun e=>?_⟩
   ·cases of_decide_eq_true e
    walk_at "wk"
    exact ends_same h
   ·have e3:=of_decide_eq_false e
    have hs:negSg g=.eq∧negK g k=k:=by cases g<;>first | exact absurd rfl e1 | exact absurd rfl e2 | exact absurd rfl e3 | exact ⟨rfl,rfl⟩
    rw [hs.1,hs.2] at h
    walk_at "wk"
    exact ends_same h
end
end Internal
namespace Internal
open PySem
section
variable {Γ:Fn→List AV→AH→P1→Prop} {lv:Fn→Nat} {k:Nat} {H:AH} {Q:P1} {B:PB} {ρ:Ev}
theorem plains_encPs:∀ l:Prs,plains (encPs l)=true
 | []=>rfl
 | p::l=>by rw [encPs_cons]; simp [plains,plain,plains_encPs l]
theorem deeps_encPs:∀ l:Prs,deeps (encPs l)≤1
 | []=>by simp [encPs,deeps]
 | p::l=>by rw [encPs_cons]; have:=deeps_encPs l; simp [deeps,deep]; exact l20 21350745044352501535698640225175099906 rfl this (lmxN _ _)
theorem data_encPs (l:Prs):dataOk (.tup (encPs l))=true:=by
 have:=deeps_encPs l
 unfold dataOk
 simp [plain,plains_encPs,deep]; exact l10 74971109889 rfl this
theorem aeqs_nil (l:Prs):aeqs (encPs l) []=some (decide (l=[])):=by
 cases l with
 | nil=>rfl
 | cons p l=>rfl
theorem q_neNil (l:Prs) (h:B (!decide (l=[])) H):cmpOp .ne (.tup (encPs l)) (.tup []) H B:=by
 refine ⟨decide (l=[]),?_,h⟩
 refine ⟨data_encPs l,rfl,?_,fun i e=>(by cases e),fun i e=>(by cases e)⟩
 show aeqs (encPs l) []=_
 exact aeqs_nil l
theorem q_lastP {l:Prs} {p:Int×Int} (h:l.getLast?=some p) (q:Q (.tup [.int p.1,.int p.2]) H):getIt H (.tup (encPs l)) (.int (-1)) Q:=by
 obtain ⟨m,rfl⟩:=List.getLast?_eq_some_iff.mp h
 exact q_lastG (congrArg some (encPs_snoc m p)) q
theorem q_fstP {p:Int×Int} {l:Prs} (q:Q (.tup [.int p.1,.int p.2]) H):getIt H (.tup (encPs (p::l))) (.int 0) Q:=q_ixG (i:=0) rfl rfl q
theorem r_most {v:AV} (e:look ρ .MOST_LISTED=some (.glo,v)) (h:Q (.int 1000000) H):trE Γ lv k (.name .MOST_LISTED) ρ H Q:=by
 show match look ρ .MOST_LISTED with | some (.glo,_)=>Nm.MOST_LISTED=.MOST_LISTED∧Q (.int 1000000) H | some (_,v)=>(match v with | .unb=>False | v=>Q v H) | .none=>False
 rw [e]; exact ⟨rfl,h⟩
theorem values_ok (hΓ:∀ (l:Prs) (H:AH) (Q:P1),l.length < 1000→Q (.int (sizeP l)) H→Γ .size [.tup (encPs l)] H Q)
  (l:Prs) (hl:l.length < 1000) (hs:sizeP l≤1000000) (hv:(valsP l).length≤LIM) (h:Q (.lst ((valsP l).map .int)) H):meets Γ lvl .values [.tup (encPs l)] H Q:=by
 refine meets_of rfl ?_
 have rest:trSs Γ lvl (lvl .values) (.cons (.assign (.name .found) (.list .nil)) (.cons (.forr (.tup [.low,.high]) (.e (.name .d)) (.cons (.expr (.meth (.name .found) .extend (.cons (.call .range (.cons (.name .low) (.cons (.bin .add (.name .high) (.int 1)) .nil))) .nil))) .nil)) (.cons (.ret (.name .found)) .nil)))
   [(.d,.loc,.tup (encPs l)),(.found,.loc,.unb),(.low,.loc,.unb),(.high,.loc,.unb),(.MOST_LISTED,.glo,.unb),(.size,.glo,.unb),(.LimitFault,.glo,.unb),(.range,.glo,.unb)] H (finS H Q):=by
  walk_at "wk"
  refine newL_obj (Nat.zero_le _) fun a ha=>?_
  walk_at "wk"
  refine loopF_fold (σ:=List Int×AV×AV) (fun x p=>(x.1++upto p.1 (p.2+1),.int p.1,.int p.2))
   (fun x=>[(.d,.loc,.tup (encPs l)),(.found,.loc,.obj a),(.low,.loc,x.2.1),(.high,.loc,x.2.2),(.MOST_LISTED,.glo,.unb),(.size,.glo,.unb),(.LimitFault,.glo,.unb),(.range,.glo,.unb)])
   (fun x=>upd H a (.list (x.1.map .int))) (fun r x=>(x.1++valsP r).length≤LIM) (fun p r x C hI hC=>?_) _ ([],.unb,.unb) _ (by simpa using hv) fun hI=>?_
  ·have e:valsP (p::r)=upto p.1 (p.2+1)++valsP r:=rfl
   rw [e,← List.append_assoc] at hI
   have hlen:(upto p.1 (p.2+1)).length=(p.2+1 - p.1).toNat:=by unfold upto; simp
   refine r_asgCT rfl rfl rfl ?_
   walk_at "wk"
   refine q_extend (upd_at a _) ?_
   walk_at "wk"
   refine q_extR (upd_at a _) ?_
   rw [upd_upd,← List.map_append]
   refine ⟨by simp only [List.length_append,hlen] at hI; rw [List.length_map]; exact l40 80424881228480513 rfl hI,?_⟩
   walk_at "wk"
   exact hC hI
  ·have e1:∀ (l:Prs) (x:List Int×AV×AV),(l.foldl (fun (x:List Int×AV×AV) p=>(x.1++upto p.1 (p.2+1),AV.int p.1,AV.int p.2)) x).1=x.1++valsP l:=by
    intro l
    induction l with
    | nil=>intro x; simp [valsP]
    | cons p l ih=>intro x; rw [List.foldl_cons,ih]; simp [valsP,List.append_assoc]
   rw [e1,List.nil_append]
   generalize l.foldl _ _=x
   walk_at "wk"
   exact ends_turn ha h
 dsimp only [bodyOf,b_values,scOf,init2]
 refine r_ss (r_ite (r_tand (r_tcmp (r_nm rfl rfl (r_tup (r_es0 (r_newT rfl (q_neNil l ⟨fun hne=>?_,fun uu=>r_ff (r_nil (r_kn rest))⟩))))))))
 have hne:l≠[]:=by simpa using hne
 obtain ⟨p,l',rfl⟩:=List.exists_cons_of_ne_nil hne
 obtain ⟨q,hq⟩:∃ q,(p::l').getLast?=some q:=⟨_,List.getLast?_eq_some_getLast (by simp)⟩
 walk_at "wk"
 refine q_lastP hq ?_
 walk_at "wk"
 refine q_fstP ?_
 walk_at "wk"
 refine r_most rfl ?_
 walk_at "wk"
 refine ⟨fun uu=>?_,fun uu=>r_ff (r_nil (r_kn rest))⟩
 walk_at "wk"
 refine hΓ _ _ _ hl ?_
 walk_at "wk"
 refine r_most rfl ?_
 walk_at "wk"
 exact r_no (decide_eq_false (by exact l01 5459417386220934193044015665 rfl hs)) (r_nil (r_kn rest))
end
end Internal
namespace Internal
open PySem
section
variable {Γ:Fn→List AV→AH→P1→Prop} {lv:Fn→Nat} {k:Nat} {H:AH} {Q:P1} {B:PB} {ρ:Ev}
noncomputable def minIn (p:Int×Int) (y:(Prs×Int)×AV×AV) (q:Int×Int):(Prs×Int)×AV×AV:=(minusT p.2 y.1 q,.int q.1,.int q.2)
noncomputable def minOut (e:Prs) (x:Prs×AV×AV×AV×AV×AV) (p:Int×Int):Prs×AV×AV×AV×AV×AV:=
 let y:=e.foldl (minIn p) ((x.1,p.1),x.2.2.2.2.1,x.2.2.2.2.2)
 ((if y.1.2≤p.2 then y.1.1++[(y.1.2,p.2)] else y.1.1),.int p.1,.int p.2,.int y.1.2,y.2.1,y.2.2)
theorem minIn_fst (p:Int×Int):∀ (e:Prs) (y:(Prs×Int)×AV×AV),(e.foldl (minIn p) y).1=e.foldl (minusT p.2) y.1
 | [],y=>rfl
 | q::e,y=>by rw [List.foldl_cons,List.foldl_cons,minIn_fst p e]; rfl
theorem minOut_fst (e:Prs):∀ (d:Prs) (x:Prs×AV×AV×AV×AV×AV),(d.foldl (minOut e) x).1=d.foldl (minusF e) x.1
 | [],x=>rfl
 | p::d,x=>by
  rw [List.foldl_cons,List.foldl_cons,minOut_fst e d]
  congr 1
  unfold minOut minusF
  simp only [minIn_fst]
theorem minusT_len (hi:Int) (st:Prs×Int) (q:Int×Int):(minusT hi st q).1.length≤st.1.length+1:=by
 unfold minusT; split
 ·dsimp only; split<;>simp
 ·simp
theorem minus_ok (d e:Prs) (hd:d.length < 500) (he:e.length < 500) (h:Q (.tup (encPs (minusP d e))) H):meets Γ lvl .minus [.tup (encPs d),.tup (encPs e)] H Q:=by
 refine meets_of rfl ?_
 have hb:d.length * (e.length+1) < LIM:=by
  have:d.length * (e.length+1)≤500 * 500:=Nat.mul_le_mul (by exact l10 78791321206934033 rfl hd) (by exact l10 20170573384715618833 rfl he)
  unfold LIM; exact l10 333571911056511777897196033 rfl this
 dsimp only [bodyOf,b_minus,scOf,init2]
 walk_at "wk"
 refine newL_obj (Nat.zero_le _) fun a ha=>?_
 walk_at "wk"
 refine loopF_fold (minOut e)
  (fun x=>[(.d,.loc,.tup (encPs d)),(.e,.loc,.tup (encPs e)),(.found,.loc,.obj a),(.low,.loc,x.2.1),(.high,.loc,x.2.2.1),(.begin,.loc,x.2.2.2.1),(.left,.loc,x.2.2.2.2.1),(.right,.loc,x.2.2.2.2.2),(.tuple,.glo,.unb)])
  (fun x=>upd H a (.list (encPs x.1))) (fun r x=>x.1.length+r.length * (e.length+1) < LIM) (fun p r x C hI hC=>?_) _ ([],.unb,.unb,.unb,.unb,.unb) _ (by simpa using hb) fun hI=>?_
 ·have hI':x.1.length+(e.length+1)+r.length * (e.length+1) < LIM:=by
   simp only [List.length_cons,Nat.add_mul,Nat.one_mul] at hI; exact l40 1349227188391259443077137 rfl hI
  refine r_asgCT rfl rfl rfl ?_
  walk_at "wk"
  refine loopF_fold (minIn p)
   (fun y=>[(.d,.loc,.tup (encPs d)),(.e,.loc,.tup (encPs e)),(.found,.loc,.obj a),(.low,.loc,.int p.1),(.high,.loc,.int p.2),(.begin,.loc,.int y.1.2),(.left,.loc,y.2.1),(.right,.loc,y.2.2),(.tuple,.glo,.unb)])
   (fun y=>upd H a (.list (encPs y.1.1))) (fun s y=>y.1.1.length+(s.length+1)+r.length * (e.length+1) < LIM) (fun q s y C' hJ hC'=>?_) e ((x.1,p.1),x.2.2.2.2.1,x.2.2.2.2.2) _ hI' fun hJ=>?_
  ·have hl:=minusT_len p.2 y.1 q
   simp only [List.length_cons] at hJ
   have hC2:=hC' (by show (minusT p.2 y.1 q).1.length+(s.length+1)+_ < LIM; exact l50 5554556197611298371147491007135762 rfl hJ hl)
   unfold minIn minusT at hC2
   clear hC hC'
   refine r_asgCT rfl rfl rfl ?_
   walk_at "wk"
   refine ⟨fun h1=>?_,fun h1=>?_⟩
   ·walk_at "wk"
    refine ⟨fun h2=>?_,fun h2=>?_⟩
    ·rw [if_pos ⟨of_decide_eq_true h1,of_decide_eq_true h2⟩] at hC2
     walk_at "wk"
     refine ⟨fun h3=>?_,fun h3=>?_⟩
     ·rw [if_pos (of_decide_eq_true h3),encPs_snoc] at hC2
      walk_at "wk"
      refine r_appm (upd_at a _) ?_
      walk_at "wk"
      refine r_app (upd_at a _) (by rw [encPs_len]; exact l40 20581974032643653649 rfl hJ) ?_
      rw [upd_upd]
      walk_at "wk"
      exact hC2
     ·rw [if_neg (of_decide_eq_false h3)] at hC2
      walk_at "wk"
      exact hC2
    ·rw [if_neg (fun h=>of_decide_eq_false h2 h.2)] at hC2
     walk_at "wk"
     exact hC2
   ·rw [if_neg (fun h=>of_decide_eq_false h1 h.1)] at hC2
    walk_at "wk"
    exact hC2
  ·have hC3:=hC (by
    unfold minOut; dsimp only
    simp only [List.length_nil] at hJ
    split
    ·rw [List.length_append,List.length_cons,List.length_nil]; exact l30 1344497904379317417803793 rfl hJ
    ·exact l30 20516713025273200657 rfl hJ)
   unfold minOut at hC3
   dsimp only at hC3
   simp only [List.length_nil] at hJ
   clear hC
   generalize e.foldl (minIn p) ((x.1,p.1),x.2.2.2.2.1,x.2.2.2.2.2)=y at hC3 hJ ⊢
   walk_at "wk"
   refine ⟨fun h1=>?_,fun h1=>?_⟩
   ·rw [if_pos (of_decide_eq_true h1),encPs_snoc] at hC3
    walk_at "wk"
    refine r_appm (upd_at a _) ?_
    walk_at "wk"
    refine r_app (upd_at a _) (by rw [encPs_len]; exact l30 80116788079755281 rfl hJ) ?_
    rw [upd_upd]
    walk_at "wk"
    exact hC3
   ·rw [if_neg (of_decide_eq_false h1)] at hC3
    walk_at "wk"
    exact hC3
 ·have hm:(d.foldl (minOut e) (([]:Prs),AV.unb,AV.unb,AV.unb,AV.unb,AV.unb)).1=minusP d e:=minOut_fst e d _
  generalize d.foldl (minOut e) (([]:Prs),AV.unb,AV.unb,AV.unb,AV.unb,AV.unb)=y at hm hI ⊢
  rw [hm] at hI ⊢
  walk_at "wk"
  refine r_tupO (upd_at a _) (by rw [encPs_len]; exact l30 1222468411409 rfl hI) ?_
  walk_at "wk"
  exact ends_drop ha h
end
end Internal
namespace Internal
open PySem
section
variable {Γ:Fn→List AV→AH→P1→Prop} {lv:Fn→Nat} {k:Nat} {H:AH} {Q:P1} {B:PB} {ρ:Ev}
theorem u_while {c:E} {b:Ss} {Q:PS}:trS Γ lv k (.whil c b) ρ H Q=∃ n,loopW (trT Γ lv k c) (trSs Γ lv k b) n ρ H Q:=rfl
theorem r_nthP {l:Prs} {i:Nat} {p:Int×Int} (h:l[i]?=some p) (q:Q (.tup [.int p.1,.int p.2]) H):getIt H (.tup (encPs l)) (.int i) Q:=q_ixG rfl (by unfold encPs; rw [List.getElem?_map,h]; rfl) q
noncomputable def meetC:E:=(.and (.cmp .lt (.name .i) (.call .len (.cons (.name .d) .nil))) (.cmp .lt (.name .j) (.call .len (.cons (.name .e) .nil))))
noncomputable def meetB:Ss:=(.cons (.assign (.tup [.low,.high]) (.tup (.cons (.call .max (.cons (.sub (.sub (.name .d) (.name .i)) (.int 0)) (.cons (.sub (.sub (.name .e) (.name .j)) (.int 0)) .nil))) (.cons (.call .min (.cons (.sub (.sub (.name .d) (.name .i)) (.int 1)) (.cons (.sub (.sub (.name .e) (.name .j)) (.int 1)) .nil))) .nil)))) (.cons (.ite (.cmp .le (.name .low) (.name .high)) (.cons (.expr (.meth (.name .found) .append (.cons (.tup (.cons (.name .low) (.cons (.name .high) .nil))) .nil))) .nil) .nil) (.cons (.ite (.cmp .lt (.sub (.sub (.name .d) (.name .i)) (.int 1)) (.sub (.sub (.name .e) (.name .j)) (.int 1))) (.cons (.assign (.name .i) (.bin .add (.name .i) (.int 1))) .nil) (.cons (.assign (.name .j) (.bin .add (.name .j) (.int 1))) .nil)) .nil)))
theorem meet_loop {d e:Prs} {a:Addr} (Q:PS) (hQ:∀ f i j lo hi,f.length≤LIM→f=meetP d e→Q .next [(.d,.loc,.tup (encPs d)),(.e,.loc,.tup (encPs e)),(.found,.loc,.obj a),(.i,.loc,i),(.j,.loc,j),(.low,.loc,lo),(.high,.loc,hi),(.len,.glo,.unb),(.max,.glo,.unb),(.min,.glo,.unb),(.tuple,.glo,.unb)] (upd H a (.list (encPs f)))):
  ∀ (n i j:Nat) (f:Prs) (lo hi:AV),(d.length - i)+(e.length - j) < n→f.length+(d.length - i)+(e.length - j) < LIM→f++meetP (d.drop i) (e.drop j)=meetP d e→
   (loopW (trT Γ lv k meetC) (trSs Γ lv k meetB) n [(.d,.loc,.tup (encPs d)),(.e,.loc,.tup (encPs e)),(.found,.loc,.obj a),(.i,.loc,.int i),(.j,.loc,.int j),(.low,.loc,lo),(.high,.loc,hi),(.len,.glo,.unb),(.max,.glo,.unb),(.min,.glo,.unb),(.tuple,.glo,.unb)] (upd H a (.list (encPs f))) Q):=by
 intro n
 induction n with
 | zero=>intro i j f lo hi h; exact False.elim (l20 426483729 rfl h)
 | succ n ih=>
  intro i j f lo hi h1 h2 h3
  rw [loopW]
  generalize loopW (trT Γ lv k meetC) (trSs Γ lv k meetB) n=L at ih ⊢
  unfold meetC
  walk_at "wk"
  have dl:(encPs d).length=d.length:=encPs_len d
  have el:(encPs e).length=e.length:=encPs_len e
  refine ⟨fun hi'=>?_,fun hi'=>?_⟩
  ·have hi0:=of_decide_eq_true hi'
   have hi:i < d.length:=by exact l30 1225467395564681762 rfl dl hi0
   have hp:d[i]?=some d[i]:=List.getElem?_eq_getElem hi
   have hd:d.drop i=d[i]::d.drop (i+1):=List.drop_eq_getElem_cons hi
   walk_at "wk"
   refine ⟨fun hj'=>?_,fun hj'=>?_⟩
   ·have hj0:=of_decide_eq_true hj'
    have hj:j < e.length:=by exact l30 1225467395564681762 rfl el hj0
    have hq:e[j]?=some e[j]:=List.getElem?_eq_getElem hj
    have he:e.drop j=e[j]::e.drop (j+1):=List.drop_eq_getElem_cons hj
    generalize d[i]=p at hp hd
    generalize e[j]=q at hq he
    rw [hd,he,meetP_cons] at h3
    unfold meetB
    walk_at "wk"
    refine r_nthP hp ?_
    walk_at "wk"
    refine r_nthP hq ?_
    walk_at "wk"
    refine r_nthP hp ?_
    walk_at "wk"
    refine r_nthP hq ?_
    walk_at "wk"
    rw [← hd,← he] at h3
    have fin:∀ (f':Prs) (lo' hi'':AV),f'.length≤f.length+1→f'++(if p.2 < q.2 then meetP (d.drop (i+1)) (e.drop j) else meetP (d.drop i) (e.drop (j+1)))=meetP d e→
      trS Γ lv k (.ite (.cmp .lt (.sub (.sub (.name .d) (.name .i)) (.int 1)) (.sub (.sub (.name .e) (.name .j)) (.int 1))) (.cons (.assign (.name .i) (.bin .add (.name .i) (.int 1))) .nil) (.cons (.assign (.name .j) (.bin .add (.name .j) (.int 1))) .nil)) [(.d,.loc,.tup (encPs d)),(.e,.loc,.tup (encPs e)),(.found,.loc,.obj a),(.i,.loc,.int i),(.j,.loc,.int j),(.low,.loc,lo'),(.high,.loc,hi''),(.len,.glo,.unb),(.max,.glo,.unb),(.min,.glo,.unb),(.tuple,.glo,.unb)] (upd H a (.list (encPs f'))) (seqS (fun ρ' H1=>trSs Γ lv k .nil ρ' H1 fun fl ρ' H'=>match fl with | .next=>L ρ' H' Q | .brk=>Q .next ρ' H' | .ret v=>Q (.ret v) ρ' H') fun fl ρ' H'=>match fl with | .next=>L ρ' H' Q | .brk=>Q .next ρ' H' | .ret v=>Q (.ret v) ρ' H'):=by
     intro f' lo' hi'' hf' hm
     walk_at "wk"
     refine r_nthP hp ?_
     walk_at "wk"
     refine r_nthP hq ?_
     walk_at "wk"
     refine ⟨fun hlt=>?_,fun hlt=>?_⟩
     ·rw [if_pos (of_decide_eq_true hlt)] at hm
      walk_at "wk"
      exact ih (i+1) j f' lo' hi'' (by exact l60 523645591749660505806739364980137261561986246307674893497218171660978615985705791720333746196 rfl h1 hi (lsub _ _) (lsub _ _)) (by exact l80 9659564852779702722497963008609132482641015470346155861830091792958324886067740501708112766834510735911822163989 rfl h2 hi hf' (lsub _ _) (lsub _ _)) hm
     ·rw [if_neg (of_decide_eq_false hlt)] at hm
      walk_at "wk"
      exact ih i (j+1) f' lo' hi'' (by exact l60 523645591749660505806739364980137261562339438730702768265510311100369112474035114263557414932 rfl h1 hj (lsub _ _) (lsub _ _)) (by exact l80 9659564852779702722497963008609132482641015337547356068171798599489778681410209246675193793116931691423412650005 rfl h2 hj hf' (lsub _ _) (lsub _ _)) hm
    refine ⟨fun hm=>?_,fun hm=>?_⟩
    ·have hm':=of_decide_eq_true hm
     rw [if_pos hm'] at h3
     walk_at "wk"
     refine r_appm (upd_at a _) ?_
     walk_at "wk"
     refine r_app (upd_at a _) (by rw [encPs_len]; exact l40 314056006828049 rfl h2) ?_
     rw [upd_upd]
     refine r_exN (r_kn (r_nil (r_kn (r_ss ?_))))
     have:=fin (f++[(max p.1 q.1,min p.2 q.2)]) (.int (max p.1 q.1)) (.int (min p.2 q.2)) (by simp) (by
      by_cases hlt:p.2 < q.2
      ·rw [if_pos hlt] at h3 ⊢; rw [List.append_assoc]; exact h3
      ·rw [if_neg hlt] at h3 ⊢; rw [List.append_assoc]; exact h3)
     rw [encPs_snoc] at this
     exact this
    ·have hm':=of_decide_eq_false hm
     rw [if_neg hm'] at h3
     refine r_nil (r_kn (r_ss ?_))
     exact fin f (.int (max p.1 q.1)) (.int (min p.2 q.2)) (by exact l10 22678016 rfl) (by
      by_cases hlt:p.2 < q.2
      ·rw [if_pos hlt] at h3 ⊢; exact h3
      ·rw [if_neg hlt] at h3 ⊢; exact h3)
   ·have hj0:=of_decide_eq_false hj'
    have hj:e.drop j=[]:=List.drop_eq_nil_of_le (by exact l30 19675295106724182562 rfl el hj0)
    rw [hj,hd,meetP_no,List.append_nil] at h3
    walk_at "wk"
    exact hQ f _ _ _ _ (by exact l40 314051711860753 rfl h2) h3
  ·have hi0:=of_decide_eq_false hi'
   have hi:d.drop i=[]:=List.drop_eq_nil_of_le (by exact l30 19675295106724182562 rfl dl hi0)
   rw [hi,meetP_nil,List.append_nil] at h3
   walk_at "wk"
   exact hQ f _ _ _ _ (by exact l40 314051711860753 rfl h2) h3
theorem meet_ok (d e:Prs) (hl:d.length+e.length < 1000) (h:Q (.tup (encPs (meetP d e))) H):meets Γ lvl .meet [.tup (encPs d),.tup (encPs e)] H Q:=by
 refine meets_of rfl ?_
 dsimp only [bodyOf,b_meet,scOf,init2]
 walk_at "wk"
 refine newL_obj (by simp) fun a ha=>?_
 walk_at "wk"
 rw [u_while]
 refine ⟨d.length+e.length+1,meet_loop (d:=d) (e:=e) (a:=a) _ (fun f i j lo hi hf hm=>?_) _ 0 0 [] .unb .unb (by exact l40 117356753567388150474683141344212781803280999816472364639806227198117762 rfl (lsub _ _) (lsub _ _)) (by unfold LIM; simp; exact l20 5337150576911087174651977745 rfl hl) (by simp)⟩
 subst hm
 walk_at "wk"
 refine r_tupO (upd_at a _) (by rw [encPs_len]; exact hf) ?_
 walk_at "wk"
 exact ends_drop ha h
end
end Internal
namespace Internal
open PySem
structure DA where
 s:Addr
 dx:Addr
 dom:Addr
 fst:Addr
 trl:Addr
 mrk:Addr
 nws:Addr
set_option genInjectivity true in
structure DS where
 doms:List Prs
 firsts:List Prs
 trail:List AV
 marks:List Int
 failed:Bool
 clash:List AV
noncomputable def DA.fields (A:DA) (S:DS):List (Nm×AV):=
 [(.domains,.obj A.dom),(.firsts,.obj A.fst),(.trail,.obj A.trl),(.marks,.obj A.mrk),(.news,.obj A.nws),(.speaker,.int (-1)),(.is_failed,.bool S.failed),(.clash,.tup S.clash)]
noncomputable abbrev encD (l:List Prs):List AV:=l.map fun p=>.tup (encPs p)
structure Desk (H:AH) (A:DA) (S:DS):Prop where
 inst:H A.s=some (.inst .store A.dx)
 ns:H A.dx=some (.ns (A.fields S))
 dom:H A.dom=some (.list (encD S.doms))
 fst:H A.fst=some (.list (encD S.firsts))
 trl:H A.trl=some (.list S.trail)
 mrk:H A.mrk=some (.list (S.marks.map .int))
 nws:H A.nws=some .news
 apart:[A.dom,A.fst,A.trl,A.mrk].Nodup
section
variable {Γ:Fn→List AV→AH→P1→Prop} {lv:Fn→Nat} {k:Nat} {H:AH} {Q:P1} {B:PB} {ρ:Ev} {A:DA} {S:DS}
theorem Desk.get (D:Desk H A S) {x:Nm} {v:AV} (hx:isFld x=true) (h:lkF (A.fields S) x=some v) (q:Q v H):getAt H (.obj A.s) x Q:=⟨hx,A.s,.store,A.dx,A.fields S,v,rfl,D.inst,D.ns,h,q⟩
theorem Desk.domains (D:Desk H A S) (q:Q (.obj A.dom) H):getAt H (.obj A.s) .domains Q:=D.get rfl rfl q
theorem Desk.firsts (D:Desk H A S) (q:Q (.obj A.fst) H):getAt H (.obj A.s) .firsts Q:=D.get rfl rfl q
theorem Desk.trail (D:Desk H A S) (q:Q (.obj A.trl) H):getAt H (.obj A.s) .trail Q:=D.get rfl rfl q
theorem Desk.marks (D:Desk H A S) (q:Q (.obj A.mrk) H):getAt H (.obj A.s) .marks Q:=D.get rfl rfl q
theorem Desk.news (D:Desk H A S) (q:Q (.obj A.nws) H):getAt H (.obj A.s) .news Q:=D.get rfl rfl q
theorem Desk.speaker (D:Desk H A S) (q:Q (.int (-1)) H):getAt H (.obj A.s) .speaker Q:=D.get rfl rfl q
theorem Desk.failed (D:Desk H A S) (q:Q (.bool S.failed) H):getAt H (.obj A.s) .is_failed Q:=D.get rfl rfl q
theorem Desk.clash (D:Desk H A S) (q:Q (.tup S.clash) H):getAt H (.obj A.s) .clash Q:=D.get rfl rfl q
theorem q_nthO {a:Addr} {l:List AV} {i:Nat} {v:AV} (ha:H a=some (.list l)) (h:l[i]?=some v) (q:Q v H):getIt H (.obj a) (.int i) Q:=q_ixG (items_o ha) h q
theorem Desk.at_ (D:Desk H A S) {i:Nat} {p:Prs} (h:S.doms[i]?=some p) (q:Q (.tup (encPs p)) H):getIt H (.obj A.dom) (.int i) Q:=
 q_nthO D.dom (by unfold encD; rw [List.getElem?_map,h]; rfl) q
theorem encD_len (l:List Prs):(encD l).length=l.length:=List.length_map _
theorem dom_ok (D:Desk H A S) {i:Nat} {p:Prs} (hp:S.doms[i]?=some p) (h:Q (.tup (encPs p)) H):meets Γ lvl .Store_dom [.obj A.s,.int i] H Q:=by
 refine meets_of rfl ?_
 dsimp only [bodyOf,b_Store_dom,scOf,init2]
 walk_at "wk"
 refine D.domains ?_
 walk_at "wk"
 refine D.at_ hp ?_
 walk_at "wk"
 exact ends_same h
theorem ssize_ok (D:Desk H A S) (h:Q (.int S.doms.length) H):meets Γ lvl .Store_size [.obj A.s] H Q:=by
 refine meets_of rfl ?_
 dsimp only [bodyOf,b_Store_size,scOf,init2]
 walk_at "wk"
 refine D.domains ?_
 walk_at "wk"
 refine q_lenO D.dom ?_
 rw [encD_len]
 walk_at "wk"
 exact ends_same h
theorem depth_ok (D:Desk H A S) (h:Q (.int S.marks.length) H):meets Γ lvl .Store_depth [.obj A.s] H Q:=by
 refine meets_of rfl ?_
 dsimp only [bodyOf,b_Store_depth,scOf,init2]
 walk_at "wk"
 refine D.marks ?_
 walk_at "wk"
 refine q_lenO D.mrk ?_
 rw [List.length_map]
 walk_at "wk"
 exact ends_same h
theorem low_ok (hΓ:∀ (p:Int×Int) (l:Prs) (H:AH) (Q:P1),Q (.int p.1) H→Γ .least [.tup (encPs (p::l))] H Q) (D:Desk H A S) {i:Nat} {p:Int×Int} {l:Prs} (hp:S.doms[i]?=some (p::l)) (h:Q (.int p.1) H):meets Γ lvl .Store_low [.obj A.s,.int i] H Q:=by
 refine meets_of rfl ?_
 dsimp only [bodyOf,b_Store_low,scOf,init2]
 walk_at "wk"
 refine D.domains ?_
 walk_at "wk"
 refine D.at_ hp ?_
 walk_at "wk"
 exact hΓ _ _ _ _ (ends_same h)
theorem high_ok (hΓ:∀ (p:Int×Int) (l:Prs) (H:AH) (Q:P1),Q (.int p.2) H→Γ .greatest [.tup (encPs (l++[p]))] H Q) (D:Desk H A S) {i:Nat} {p:Int×Int} {l:Prs} (hp:S.doms[i]?=some (l++[p])) (h:Q (.int p.2) H):meets Γ lvl .Store_high [.obj A.s,.int i] H Q:=by
 refine meets_of rfl ?_
 dsimp only [bodyOf,b_Store_high,scOf,init2]
 walk_at "wk"
 refine D.domains ?_
 walk_at "wk"
 refine D.at_ hp ?_
 walk_at "wk"
 exact hΓ _ _ _ _ (ends_same h)
theorem Desk.ne (D:Desk H A S):A.dx≠A.s∧A.dom≠A.s∧A.fst≠A.s∧A.trl≠A.s∧A.mrk≠A.s∧A.nws≠A.s∧A.dom≠A.dx∧A.fst≠A.dx∧A.trl≠A.dx∧A.mrk≠A.dx∧A.nws≠A.dx∧A.nws≠A.dom∧A.nws≠A.fst∧A.nws≠A.trl∧A.nws≠A.mrk:=by
 refine byc fun hNN=>?_
 obtain ⟨h1,h2,h3,h4,h5,h6,h7,_⟩:=D
 refine hNN ?_
 refine ⟨?_,?_,?_,?_,?_,?_,?_,?_,?_,?_,?_,?_,?_,?_,?_⟩<;>intro e<;>simp_all
theorem Desk.ap (D:Desk H A S):A.dom≠A.fst∧A.dom≠A.trl∧A.dom≠A.mrk∧A.fst≠A.trl∧A.fst≠A.mrk∧A.trl≠A.mrk:=by
 have:=D.apart
 simp at this
 refine byc fun hNN=>?_
 obtain ⟨⟨a,b,c⟩,⟨d,e⟩,f⟩:=this
 refine hNN ?_
 exact ⟨a,b,c,d,e,f⟩
noncomputable def DA.own (A:DA) (b:Addr):Prop:=b=A.s∨b=A.dx∨b=A.dom∨b=A.fst∨b=A.trl∨b=A.mrk∨b=A.nws
noncomputable def Same (A:DA) (H H':AH):Prop:=∀ b,¬ A.own b→H b≠none→H' b=H b
theorem Desk.push (D:Desk H A S) (v:Int):Desk (upd H A.mrk (.list ((S.marks++[v]).map .int))) A { S with marks:=S.marks++[v] }:=by
 refine byc fun hNN=>?_
 obtain ⟨n1,n2,n3,n4,n5,n6,n7,n8,n9,n10,n11,n12,n13,n14,n15⟩:=D.ne
 obtain ⟨a1,a2,a3,a4,a5,a6⟩:=D.ap
 refine hNN ?_
 exact ⟨by rw [upd_ne _ (Ne.symm n5)]; exact D.inst,by rw [upd_ne _ (Ne.symm n10)]; exact D.ns,by rw [upd_ne _ a3]; exact D.dom,by rw [upd_ne _ a5]; exact D.fst,by rw [upd_ne _ a6]; exact D.trl,upd_at _ _,by rw [upd_ne _ n15]; exact D.nws,D.apart⟩
end
end Internal
namespace Internal
open PySem
section
variable {Γ:Fn→List AV→AH→P1→Prop} {lv:Fn→Nat} {k:Nat} {H:AH} {Q:P1} {B:PB} {ρ:Ev} {A:DA} {S:DS}
theorem Desk.reNs (D:Desk H A S) (b:Bool) (c:List AV):Desk (upd H A.dx (.ns (A.fields { S with failed:=b,clash:=c }))) A { S with failed:=b,clash:=c }:=by
 refine byc fun hNN=>?_
 obtain ⟨n1,n2,n3,n4,n5,n6,n7,n8,n9,n10,n11,n12,n13,n14,n15⟩:=D.ne
 refine hNN ?_
 exact ⟨by rw [upd_ne _ (Ne.symm n1)]; exact D.inst,upd_at _ _,by rw [upd_ne _ n7]; exact D.dom,by rw [upd_ne _ n8]; exact D.fst,by rw [upd_ne _ n9]; exact D.trl,by rw [upd_ne _ n10]; exact D.mrk,by rw [upd_ne _ n11]; exact D.nws,D.apart⟩
theorem Desk.setFailed (D:Desk H A S) (b:Bool) {P:AH→Prop} (h:P (upd H A.dx (.ns (A.fields { S with failed:=b })))):setAt H (.obj A.s) .is_failed (.bool b) P:=
 ⟨rfl,A.s,.store,A.dx,A.fields S,rfl,D.inst,D.ns,by show (8:Nat)≤900; omega,h⟩
theorem Desk.setClash (D:Desk H A S) (c:List AV) {P:AH→Prop} (h:P (upd H A.dx (.ns (A.fields { S with clash:=c })))):setAt H (.obj A.s) .clash (.tup c) P:=
 ⟨rfl,A.s,.store,A.dx,A.fields S,rfl,D.inst,D.ns,by show (8:Nat)≤900; omega,h⟩
theorem fail_ok (D:Desk H A S) {c:List AV} (hc:c.length≤LIM) (h:Q (.bool false) (upd H A.dx (.ns (A.fields { S with failed:=true,clash:=c })))):meets Γ lvl .Store_fail [.obj A.s,.tup c] H Q:=by
 refine meets_of rfl ?_
 dsimp only [bodyOf,b_Store_fail,scOf,init2]
 walk_at "wk"
 refine D.setFailed true ?_
 walk_at "wk"
 refine r_tupT hc ?_
 walk_at "wk"
 refine (D.reNs true S.clash).setClash c ?_
 rw [upd_upd]
 walk_at "wk"
 exact ends_same h
theorem push_ok (D:Desk H A S) (hm:S.marks.length < LIM) (h:Q .none (upd H A.mrk (.list ((S.marks++[(S.trail.length:Int)]).map .int)))):meets Γ lvl .Store_push [.obj A.s] H Q:=by
 refine meets_of rfl ?_
 rw [List.map_append] at h
 dsimp only [bodyOf,b_Store_push,scOf,init2]
 walk_at "wk"
 refine D.marks ?_
 refine r_appm D.mrk ?_
 walk_at "wk"
 refine D.trail ?_
 refine r_es0 (r_callB rfl (r_lenO D.trl ?_))
 walk_at "wk"
 refine r_app D.mrk (by rw [List.length_map]; exact hm) ?_
 walk_at "wk"
 exact ends_same h
end
end Internal
namespace Internal
open PySem
section
variable {Γ:Fn→List AV→AH→P1→Prop} {lv:Fn→Nat} {k:Nat} {H:AH} {Q:P1} {B:PB} {ρ:Ev} {A:DA} {S:DS}
theorem aeqs_encPs:∀ a b:Prs,aeqs (encPs a) (encPs b)=some (decide (a=b))
 | [],[]=>rfl
 | [],p::b=>rfl
 | p::a,[]=>rfl
 | p::a,q::b=>by
  show andO (andO (some (p.1==q.1)) (andO (some (p.2==q.2)) (some true))) (aeqs (encPs a) (encPs b))=_
  rw [aeqs_encPs a b]
  show some ((p.1==q.1&&(p.2==q.2&&true))&&decide (a=b))=_
  congr 1
  obtain ⟨p1,p2⟩:=p
  obtain ⟨q1,q2⟩:=q
  simp only [List.cons.injEq,Prod.mk.injEq,Bool.and_true]
  by_cases h1:p1=q1<;>by_cases h2:p2=q2<;>by_cases h3:a=b<;>simp [h1,h2,h3]
theorem q_eqP (a b:Prs) (h:B (decide (a=b)) H):cmpOp .eq (.tup (encPs a)) (.tup (encPs b)) H B:=
 ⟨decide (a=b),⟨data_encPs a,data_encPs b,aeqs_encPs a b,(fun i e=>by cases e),(fun i e=>by cases e)⟩,h⟩
theorem q_eqNil (l:Prs) (h:B (decide (l=[])) H):cmpOp .eq (.tup (encPs l)) (.tup []) H B:=q_eqP l [] h
end
end Internal
namespace Internal
open PySem
section
variable {Γ:Fn→List AV→AH→P1→Prop} {lv:Fn→Nat} {k:Nat} {H:AH} {Q:P1} {B:PB} {ρ:Ev} {A:DA} {S:DS}
theorem Desk.meth (D:Desk H A S) {m:Nm} {f:Fn} {P:MK→Prop} (hm:methOf .store m=some f) (hn:lkF (A.fields S) m=none) (h:P (.fn f)):methK H (.obj A.s) m P:=
 ⟨A.s,rfl,.inr ⟨.store,A.dx,A.fields S,f,D.inst,D.ns,hn,hm,h⟩⟩
end
end Internal
namespace Internal
open PySem
structure Into (A:DA) (H:AH) (A':DA) (H':AH):Prop where
 s:A'.s=A.s
 keep:∀ b,¬ A.own b→H b≠none→H' b=H b∧¬ A'.own b
theorem Into.refl (A:DA) (H:AH):Into A H A H:=⟨rfl,fun b h uu=>⟨rfl,h⟩⟩
theorem Into.trans {A A' A'':DA} {H H' H'':AH} (a:Into A H A' H') (b:Into A' H' A'' H''):Into A H A'' H'':=
 ⟨b.s.trans a.s,fun c h1 h2=>by
  obtain ⟨e,n⟩:=a.keep c h1 h2
  obtain ⟨e',n'⟩:=b.keep c n (by rw [e]; exact h2)
  exact ⟨e'.trans e,n'⟩⟩
theorem Into.upd {A:DA} {H:AH} {a:Addr} {o:AO} (h:A.own a):Into A H A (upd H a o):=
 ⟨rfl,fun b h1 uu=>⟨upd_ne _ (fun e=>h1 (e▸h)),h1⟩⟩
theorem Into.new {A:DA} {H:AH} {a:Addr} {o:AO} (h:H a=none):Into A H A (Internal.upd H a o):=
 ⟨rfl,fun b h1 h2=>⟨upd_ne _ (fun e=>h2 (e▸h)),h1⟩⟩
noncomputable abbrev Lt:=Int×Sy×Int
noncomputable abbrev encL (l:Lt):AV:=lit l.1 l.2.1 l.2.2
structure En where
 y:Nat
 old:Prs
 g:Sy
 k:Int
 rs:AV
noncomputable abbrev encE (e:En):AV:=.tup [.int e.y,.tup (encPs e.old),lit e.y e.g e.k,e.rs,.int (-1)]
noncomputable def rsOf:AV→List AV
 | .tup l=>l
 | _=>[]
noncomputable def enterS (S:DS) (i:Nat) (g:Sy) (c:Int) (p:Prs) (rs:AV):Bool×DS:=
 if struckP g c p=[] then (false,{ S with failed:=true,clash:=rsOf rs++[lit i (negSg g) (negK g c)] })
 else if struckP g c p=p then (true,S)
 else (true,{ S with trail:=S.trail++[encE ⟨i,p,g,c,rs⟩],doms:=S.doms.set i (struckP g c p) })
section
variable {Γ:Fn→List AV→AH→P1→Prop} {lv:Fn→Nat} {k:Nat} {H:AH} {Q:P1} {B:PB} {ρ:Ev} {A:DA} {S:DS}
theorem Desk.addTrail (D:Desk H A S) (v:AV):Desk (upd H A.trl (.list (S.trail++[v]))) A { S with trail:=S.trail++[v] }:=by
 refine byc fun hNN=>?_
 obtain ⟨n1,n2,n3,n4,n5,n6,n7,n8,n9,n10,n11,n12,n13,n14,n15⟩:=D.ne
 obtain ⟨a1,a2,a3,a4,a5,a6⟩:=D.ap
 refine hNN ?_
 exact ⟨by rw [upd_ne _ (Ne.symm n4)]; exact D.inst,by rw [upd_ne _ (Ne.symm n9)]; exact D.ns,by rw [upd_ne _ a2]; exact D.dom,by rw [upd_ne _ a4]; exact D.fst,upd_at _ _,by rw [upd_ne _ (Ne.symm a6)]; exact D.mrk,by rw [upd_ne _ n14]; exact D.nws,D.apart⟩
theorem Desk.setDom (D:Desk H A S) (i:Nat) (p:Prs):Desk (upd H A.dom (.list ((encD S.doms).set i (.tup (encPs p))))) A { S with doms:=S.doms.set i p }:=by
 refine byc fun hNN=>?_
 obtain ⟨n1,n2,n3,n4,n5,n6,n7,n8,n9,n10,n11,n12,n13,n14,n15⟩:=D.ne
 obtain ⟨a1,a2,a3,a4,a5,a6⟩:=D.ap
 refine hNN ?_
 exact ⟨by rw [upd_ne _ (Ne.symm n2)]; exact D.inst,by rw [upd_ne _ (Ne.symm n7)]; exact D.ns,by rw [upd_at]; show _=some (AO.list (encD (S.doms.set i p))); unfold encD; rw [List.map_set],by rw [upd_ne _ (Ne.symm a1)]; exact D.fst,by rw [upd_ne _ (Ne.symm a2)]; exact D.trl,by rw [upd_ne _ (Ne.symm a3)]; exact D.mrk,by rw [upd_ne _ n12]; exact D.nws,D.apart⟩
theorem q_setO {a:Addr} {l:List AV} {i:Nat} {v:AV} {P:AH→Prop} (ha:H a=some (.list l)) (hi:i < l.length) (h:P (upd H a (.list (l.set i v)))):setIt H (.obj a) (.int i) v P:=
 ⟨a,rfl,.inl ⟨l,i,ha,pyIdx_nat hi,hi,h⟩⟩
theorem q_setN {a:Addr} {i:Nat} {P:AH→Prop} (ha:H a=some .news) (hi:i < 2) (h:P H):setIt H (.obj a) (.int i) (.bool true) P:=
 ⟨a,rfl,.inr ⟨ha,by exact l10 1272931264062496116178105289233 rfl hi,rfl,h⟩⟩
theorem r_cat {l m:List AV} (hl:(l++m).length≤LIM) (h:Q (.tup (l++m)) H):binOp .add (.tup l) (.tup m) H Q:=.inr (.inl ⟨l,m,rfl,rfl,hl,h⟩)
theorem enter_ok (h1:∀ (x:Int) (g:Sy) (k:Int) (l:Prs) (H:AH) (Q:P1),isSg g=true→l.length < 900→Q (.tup (encPs (struckP g k l))) H→Γ .struck [lit x g k,.tup (encPs l)] H Q)
  (h2:∀ (x:Int) (g:Sy) (k:Int) (H:AH) (Q:P1),isSg g=true→Q (lit x (negSg g) (negK g k)) H→Γ .negation [lit x g k] H Q)
  (h3:∀ (A:DA) (S:DS) (c:List AV) (H:AH) (Q:P1),Desk H A S→c.length≤1000→(∀ A' H',Desk H' A' { S with failed:=true,clash:=c }→Into A H A' H'→Q (.bool false) H')→Γ .Store_fail [.obj A.s,.tup c] H Q)
  (D:Desk H A S) {i:Nat} {g:Sy} {c:Int} {p:Prs} {rs:AV} (hi:i < 2) (hp:S.doms[i]?=some p) (hg:isSg g=true) (hl:p.length < 900) (hr:rs=.none∨∃ l,rs=.tup l∧l.length < 100) (ht:S.trail.length < 10000)
  (h:∀ A' H',Desk H' A' (enterS S i g c p rs).2→Into A H A' H'→Q (.bool (enterS S i g c p rs).1) H'):
  meets Γ lvl .Store_enter [.obj A.s,lit i g c,rs,.int (-1)] H Q:=by
 refine meets_of rfl ?_
 unfold enterS at h
 have D1:=D.addTrail (encE ⟨i,p,g,c,rs⟩)
 have D2:=D1.setDom i (struckP g c p)
 have hdl:i < (encD S.doms).length:=by
  unfold encD; rw [List.length_map]
  rcases Nat.lt_or_ge i S.doms.length with h' | h'
  ·exact h'
  ·rw [List.getElem?_eq_none h'] at hp; cases hp
 have hl2:S.trail.length < LIM:=by unfold LIM; exact l10 1303015277564476858583569 rfl ht
 have hu:rs≠.unb:=by rcases hr with rfl | ⟨l,rfl,_⟩<;>exact fun e=>by cases e
 dsimp only [bodyOf,b_Store_enter,scOf,init2,lit]
 walk_at "wk"
 refine D.domains ?_
 walk_at "wk"
 refine D.at_ hp ?_
 walk_at "wk"
 refine h1 i g c p _ _ hg hl ?_
 walk_at "wk"
 refine q_eqNil _ ⟨fun hn=>?_,fun hn=>?_⟩
 ·have hn':=of_decide_eq_true hn
  rw [if_pos hn'] at h
  walk_at "wk"
  refine D.meth (f:=.Store_fail) rfl rfl ?_
  walk_at "wk"
  rcases hr with rfl | ⟨l,rfl,hl'⟩
  ·refine ⟨rfl,.inl ⟨rfl,?_⟩⟩
   walk_at "wk"
   refine h2 _ _ _ _ _ hg ?_
   walk_at "wk"
   refine r_cat (by simp [LIM]) ?_
   walk_at "wk"
   exact h3 A S _ _ _ D (by simp) fun A' H' D' I'=>by walk_at "wk"; exact ends_same (h A' H' D' I')
  ·refine ⟨rfl,.inr ⟨.inr ⟨_,rfl⟩,?_⟩⟩
   walk_at "wk"
   refine h2 _ _ _ _ _ hg ?_
   walk_at "wk"
   refine r_cat (by rw [List.length_append]; simp; unfold LIM; exact l10 1303015277559586050820625 rfl hl') ?_
   walk_at "wk"
   exact h3 A S _ _ _ D (by rw [List.length_append]; simp; exact l10 1233932739687500305 rfl hl') fun A' H' D' I'=>by walk_at "wk"; exact ends_same (h A' H' D' I')
 ·have hn':=of_decide_eq_false hn
  rw [if_neg hn'] at h
  walk_at "wk"
  refine q_eqP _ _ ⟨fun he=>?_,fun he=>?_⟩
  ·rw [if_pos (of_decide_eq_true he)] at h
   walk_at "wk"
   exact ends_same (h A H D (Into.refl A H))
  ·rw [if_neg (of_decide_eq_false he)] at h
   walk_at "wk"
   refine D.trail ?_
   refine r_appm D.trl ?_
   walk_at "wk"
   refine r_app D.trl hl2 ?_
   walk_at "wk"
   refine D1.domains ?_
   walk_at "wk"
   refine q_setO D1.dom hdl ?_
   walk_at "wk"
   refine D2.news ?_
   walk_at "wk"
   refine q_setN D2.nws hi ?_
   walk_at "wk"
   exact ends_same (h A _ D2 ((Into.upd (by simp [DA.own])).trans (Into.upd (by simp [DA.own]))))
end
end Internal
namespace Internal
open PySem
section
variable {Γ:Fn→List AV→AH→P1→Prop} {lv:Fn→Nat} {k:Nat} {H:AH} {Q:P1} {B:PB} {ρ:Ev} {A:DA} {S:DS}
theorem fail_ok2 (D:Desk H A S) {c:List AV} (hc:c.length≤1000) (h:∀ A' H',Desk H' A' { S with failed:=true,clash:=c }→Into A H A' H'→Q (.bool false) H'):meets Γ lvl .Store_fail [.obj A.s,.tup c] H Q:=
 fail_ok D (by unfold LIM; exact l10 81438454847775308270081 rfl hc) (h A _ (D.reNs true c) (Into.upd (by simp [DA.own])))
theorem push_ok2 (D:Desk H A S) (hm:S.marks.length < 1000) (h:∀ A' H',Desk H' A' { S with marks:=S.marks++[(S.trail.length:Int)] }→Into A H A' H'→Q .none H'):meets Γ lvl .Store_push [.obj A.s] H Q:=
 push_ok D (by unfold LIM; exact l10 81438454847779603237393 rfl hm) (h A _ (D.push _) (Into.upd (by simp [DA.own])))
structure EnterPre (H:AH) (A:DA) (S:DS) (i:Nat) (g:Sy) (p:Prs) (rs:AV):Prop where
 D:Desk H A S
 hi:i < 2
 hp:S.doms[i]?=some p
 hg:isSg g=true
 hl:p.length < 900
 hr:rs=.none∨∃ l,rs=.tup l∧l.length < 100
 ht:S.trail.length < 10000
theorem strike_ok (hE:∀ (A:DA) (S:DS) (i:Nat) (g:Sy) (c:Int) (p:Prs) (rs:AV) (H:AH) (Q:P1),EnterPre H A S i g p rs→(∀ A' H',Desk H' A' (enterS S i g c p rs).2→Into A H A' H'→Q (.bool (enterS S i g c p rs).1) H')→Γ .Store_enter [.obj A.s,lit i g c,rs,.int (-1)] H Q)
  {i:Nat} {g:Sy} {c:Int} {p:Prs} {rs:List AV} (E:EnterPre H A S i g p (.tup rs)) (h:∀ A' H',Desk H' A' (enterS S i g c p (.tup rs)).2→Into A H A' H'→Q (.bool (enterS S i g c p (.tup rs)).1) H'):meets Γ lvl .Store_strike [.obj A.s,lit i g c,.tup rs] H Q:=by
 refine meets_of rfl ?_
 have hl:rs.length≤LIM:=by
  rcases E.hr with h | ⟨l,e,h⟩
  ·cases h
  ·cases e; unfold LIM; exact l10 5089903427985953540625 rfl h
 dsimp only [bodyOf,b_Store_strike,scOf,init2,lit]
 walk_at "wk"
 refine E.D.meth (f:=.Store_enter) rfl rfl ?_
 walk_at "wk"
 refine r_tupT hl ?_
 walk_at "wk"
 refine E.D.speaker ?_
 walk_at "wk"
 exact hE A S i g c p _ _ _ E fun A' H' D' I'=>ends_same (h A' H' D' I')
theorem decide_ok (hE:∀ (A:DA) (S:DS) (i:Nat) (g:Sy) (c:Int) (p:Prs) (rs:AV) (H:AH) (Q:P1),EnterPre H A S i g p rs→(∀ A' H',Desk H' A' (enterS S i g c p rs).2→Into A H A' H'→Q (.bool (enterS S i g c p rs).1) H')→Γ .Store_enter [.obj A.s,lit i g c,rs,.int (-1)] H Q)
  {i:Nat} {g:Sy} {c:Int} {p:Prs} (E:EnterPre H A S i g p .none) (h:∀ A' H',Desk H' A' (enterS S i g c p .none).2→Into A H A' H'→Q (.bool (enterS S i g c p .none).1) H'):meets Γ lvl .Store_decide [.obj A.s,lit i g c] H Q:=by
 refine meets_of rfl ?_
 dsimp only [bodyOf,b_Store_decide,scOf,init2,lit]
 walk_at "wk"
 refine E.D.meth (f:=.Store_enter) rfl rfl ?_
 walk_at "wk"
 exact hE A S i g c p _ _ _ E fun A' H' D' I'=>ends_same (h A' H' D' I')
theorem Desk.addDom (D:Desk H A S) (p:Prs):Desk (upd H A.dom (.list (encD S.doms++[.tup (encPs p)]))) A { S with doms:=S.doms++[p] }:=by
 refine byc fun hNN=>?_
 obtain ⟨n1,n2,n3,n4,n5,n6,n7,n8,n9,n10,n11,n12,n13,n14,n15⟩:=D.ne
 obtain ⟨a1,a2,a3,a4,a5,a6⟩:=D.ap
 refine hNN ?_
 exact ⟨by rw [upd_ne _ (Ne.symm n2)]; exact D.inst,by rw [upd_ne _ (Ne.symm n7)]; exact D.ns,by rw [upd_at]; simp [encD],by rw [upd_ne _ (Ne.symm a1)]; exact D.fst,by rw [upd_ne _ (Ne.symm a2)]; exact D.trl,by rw [upd_ne _ (Ne.symm a3)]; exact D.mrk,by rw [upd_ne _ n12]; exact D.nws,D.apart⟩
theorem Desk.addFst (D:Desk H A S) (p:Prs):Desk (upd H A.fst (.list (encD S.firsts++[.tup (encPs p)]))) A { S with firsts:=S.firsts++[p] }:=by
 refine byc fun hNN=>?_
 obtain ⟨n1,n2,n3,n4,n5,n6,n7,n8,n9,n10,n11,n12,n13,n14,n15⟩:=D.ne
 obtain ⟨a1,a2,a3,a4,a5,a6⟩:=D.ap
 refine hNN ?_
 exact ⟨by rw [upd_ne _ (Ne.symm n3)]; exact D.inst,by rw [upd_ne _ (Ne.symm n8)]; exact D.ns,by rw [upd_ne _ a1]; exact D.dom,by rw [upd_at]; simp [encD],by rw [upd_ne _ (Ne.symm a4)]; exact D.trl,by rw [upd_ne _ (Ne.symm a5)]; exact D.mrk,by rw [upd_ne _ n13]; exact D.nws,D.apart⟩
theorem new_var_ok (D:Desk H A S) {p:Prs} (hp:p≠[]) (hd:S.doms.length < 100) (hf:S.firsts.length < 100) (h:∀ A' H',Desk H' A' { S with doms:=S.doms++[p],firsts:=S.firsts++[p] }→Into A H A' H'→Q (.int S.doms.length) H'):meets Γ lvl .Store_new_var [.obj A.s,.tup (encPs p)] H Q:=by
 refine meets_of rfl ?_
 have D1:=D.addDom p
 have D2:=D1.addFst p
 dsimp only [bodyOf,b_Store_new_var,scOf,init2]
 walk_at "wk"
 refine D.domains ?_
 refine r_appm D.dom ?_
 walk_at "wk"
 refine r_app D.dom (by rw [List.length_map]; unfold LIM; exact l10 5089903427986221976081 rfl hd) ?_
 walk_at "wk"
 refine D1.firsts ?_
 refine r_appm D1.fst ?_
 walk_at "wk"
 refine r_app D1.fst (by rw [List.length_map]; show S.firsts.length < _; unfold LIM; exact l10 5089903427986221976081 rfl hf) ?_
 walk_at "wk"
 refine q_eqNil _ (r_no (decide_eq_false hp) ?_)
 walk_at "wk"
 refine D2.domains ?_
 refine r_es0 (r_callB rfl (r_lenO D2.dom ?_))
 walk_at "wk"
 have:=h A _ D2 ((Into.upd (by simp [DA.own])).trans (Into.upd (by simp [DA.own])))
 have e:(((encD (S.doms++[p])).length:Nat):Int) - 1=S.doms.length:=by unfold encD; rw [List.length_map,List.length_append]; show ((S.doms.length+1:Nat):Int) - 1=_; exact l10 19410393788752 rfl
 rw [e]
 exact ends_same this
end
end Internal
namespace Internal
open PySem
section
variable {Γ:Fn→List AV→AH→P1→Prop} {lv:Fn→Nat} {k:Nat} {H:AH} {Q:P1} {B:PB} {ρ:Ev} {A:DA} {S:DS}
theorem Desk.beside (D:Desk H A S) {a:Addr} {o:AO} (h:H a=none):Desk (upd H a o) A S:=by
 have g:∀ {b o'},H b=some o'→upd H a o b=some o':=fun {b o'} e=>by rw [upd_ne _ (fun q=>by subst q; rw [h] at e; cases e)]; exact e
 exact ⟨g D.inst,g D.ns,g D.dom,g D.fst,g D.trl,g D.mrk,g D.nws,D.apart⟩
theorem Desk.setTrail (D:Desk H A S) (t:List AV):Desk (upd H A.trl (.list t)) A { S with trail:=t }:=by
 refine byc fun hNN=>?_
 obtain ⟨n1,n2,n3,n4,n5,n6,n7,n8,n9,n10,n11,n12,n13,n14,n15⟩:=D.ne
 obtain ⟨a1,a2,a3,a4,a5,a6⟩:=D.ap
 refine hNN ?_
 exact ⟨by rw [upd_ne _ (Ne.symm n4)]; exact D.inst,by rw [upd_ne _ (Ne.symm n9)]; exact D.ns,by rw [upd_ne _ a2]; exact D.dom,by rw [upd_ne _ a4]; exact D.fst,upd_at _ _,by rw [upd_ne _ (Ne.symm a6)]; exact D.mrk,by rw [upd_ne _ n14]; exact D.nws,D.apart⟩
theorem Desk.newMarks (D:Desk H A S) {a:Addr} (ha:H a=none) (m:List Int):Desk (upd (upd H a (.list (m.map .int))) A.dx (.ns (({ A with mrk:=a }:DA).fields S))) { A with mrk:=a } { S with marks:=m }:=by
 refine byc fun hNN=>?_
 have D':=D.beside (o:=.list (m.map .int)) ha
 obtain ⟨n1,n2,n3,n4,n5,n6,n7,n8,n9,n10,n11,n12,n13,n14,n15⟩:=D'.ne
 obtain ⟨a1,a2,a3,a4,a5,a6⟩:=D'.ap
 have q:∀ {b o'},H b=some o'→a≠b:=fun {b o'} e q=>by subst q; rw [ha] at e; cases e
 have e1:=q D.ns
 have e2:=q D.dom
 have e3:=q D.fst
 have e4:=q D.trl
 refine hNN ?_
 refine ⟨by rw [upd_ne _ (Ne.symm n1)]; exact D'.inst,upd_at _ _,by rw [upd_ne _ n7]; exact D'.dom,by rw [upd_ne _ n8]; exact D'.fst,by rw [upd_ne _ n9]; exact D'.trl,by rw [upd_ne _ e1]; exact upd_at _ _,by rw [upd_ne _ n11]; exact D'.nws,?_⟩
 simp [a1,a2,a4,Ne.symm e2,Ne.symm e3,Ne.symm e4]
theorem Desk.newNews (D:Desk H A S) {a:Addr} (ha:H a=none):Desk (upd (upd H a .news) A.dx (.ns (({ A with nws:=a }:DA).fields S))) { A with nws:=a } S:=by
 refine byc fun hNN=>?_
 have D':=D.beside (o:=.news) ha
 obtain ⟨n1,n2,n3,n4,n5,n6,n7,n8,n9,n10,n11,n12,n13,n14,n15⟩:=D'.ne
 have q:∀ {b o'},H b=some o'→a≠b:=fun {b o'} e q=>by subst q; rw [ha] at e; cases e
 have e1:=q D.ns
 refine hNN ?_
 exact ⟨by rw [upd_ne _ (Ne.symm n1)]; exact D'.inst,upd_at _ _,by rw [upd_ne _ n7]; exact D'.dom,by rw [upd_ne _ n8]; exact D'.fst,by rw [upd_ne _ n9]; exact D'.trl,by rw [upd_ne _ n10]; exact D'.mrk,by rw [upd_ne _ e1]; exact upd_at _ _,D.apart⟩
theorem Into.reMark {A:DA} {H:AH} {a:Addr} (h:H a=none) (o p:AO):Into A H { A with mrk:=a } (Internal.upd (Internal.upd H a o) A.dx p):=⟨rfl,fun b h1 h2=>by
 have e1:b≠A.dx:=fun e=>h1 (by simp [DA.own,e])
 have e2:b≠a:=fun e=>h2 (e▸h)
 refine ⟨by rw [upd_ne _ e1,upd_ne _ e2],fun h=>h1 ?_⟩
 simp only [DA.own] at h ⊢
 rcases h with h | h | h | h | h | h | h<;>first | exact absurd h e2 | simp [h]⟩
theorem Into.reNews {A:DA} {H:AH} {a:Addr} (h:H a=none) (o p:AO):Into A H { A with nws:=a } (Internal.upd (Internal.upd H a o) A.dx p):=⟨rfl,fun b h1 h2=>by
 have e1:b≠A.dx:=fun e=>h1 (by simp [DA.own,e])
 have e2:b≠a:=fun e=>h2 (e▸h)
 refine ⟨by rw [upd_ne _ e1,upd_ne _ e2],fun h=>h1 ?_⟩
 simp only [DA.own] at h ⊢
 rcases h with h | h | h | h | h | h | h<;>first | exact absurd h e2 | simp [h]⟩
noncomputable def undo (ds:List Prs) (rs:List En):List Prs:=rs.foldl (fun ds e=>ds.set e.y e.old) ds
theorem q_nthO' {a:Addr} {l:List AV} {i:Int} {j:Nat} {v:AV} (ha:H a=some (.list l)) (e:i=(j:Int)) (h:l[j]?=some v) (q:Q v H):getIt H (.obj a) (.int i) Q:=by subst e; exact q_nthO ha h q
noncomputable def popC:E:=.cmp .gt (.call .len (.cons (.attr (.name .self) .trail) .nil)) (.name .mark)
noncomputable def popB:Ss:=(.cons (.assign (.name .entry) (.meth (.attr (.name .self) .trail) .pop .nil)) (.cons (.assign (.sub (.attr (.name .self) .domains) (.sub (.name .entry) (.int 0))) (.sub (.name .entry) (.int 1))) .nil))
noncomputable abbrev popR (s:Addr) (n:Int) (m:Nat) (e:AV):Ev:=[(.self,.loc,.obj s),(.n,.loc,.int n),(.mark,.loc,.int m),(.entry,.loc,e),(.len,.glo,.unb)]
theorem pop_loop {n:Int} {t:List AV} {Q:PS}:∀ (rs:List En) (H:AH) (S:DS) (e:AV),Desk H A S→S.trail=t++rs.reverse.map encE→(∀ e∈rs,e.y < S.doms.length)→
  (∀ H' e',Desk H' A { S with trail:=t,doms:=undo S.doms rs }→Into A H A H'→Q .next (popR A.s n t.length e') H')→
  loopW (trT Γ lv k popC) (trSs Γ lv k popB) (rs.length+1) (popR A.s n t.length e) H Q
 | [],H,S,e,D,ht,hy,h=>by
  rw [loopW]
  generalize loopW (trT Γ lv k popC) (trSs Γ lv k popB) _=L
  simp only [List.reverse_nil,List.map_nil,List.append_nil] at ht
  unfold popC
  walk_at "wk"
  refine D.trail ?_
  refine r_es0 (r_callB rfl (r_lenO D.trl ?_))
  walk_at "wk"
  refine r_no (decide_eq_false (by rw [ht]; exact l10 444232800 rfl)) (h H e ?_ (Into.refl A H))
  have:({ S with trail:=t,doms:=undo S.doms [] }:DS)=S:=by cases S; simp [undo] at *; exact ht.symm
  rw [this]; exact D
 | r::rs,H,S,e,D,ht,hy,h=>by
  rw [loopW]
  have ht':S.trail=(t++rs.reverse.map encE)++[encE r]:=by rw [ht]; simp
  have D1:=D.setTrail (t++rs.reverse.map encE)
  have D2:=D1.setDom r.y r.old
  have ih:=pop_loop (t:=t) (Q:=Q) (n:=n) rs _ _ (encE r) D2 rfl (fun e he=>by show e.y < (S.doms.set _ _).length; rw [List.length_set]; exact hy e (List.mem_cons_of_mem _ he)) (fun H' e' D' I'=>by
   refine h H' e' D' (((Into.upd ?_).trans (Into.upd ?_)).trans I')<;>simp [DA.own])
  rw [List.length_cons]
  generalize loopW (trT Γ lv k popC) (trSs Γ lv k popB) _=L at ih ⊢
  have hl:(S.trail.length:Int) > t.length:=by rw [ht']; simp; exact l20 23875898353472 rfl
  have hm:=D.trl
  rw [ht'] at hm
  unfold popC popB
  walk_at "wk"
  refine D.trail ?_
  refine r_es0 (r_callB rfl (r_lenO D.trl ?_))
  walk_at "wk"
  refine r_yes (decide_eq_true hl) ?_
  walk_at "wk"
  refine D.trail ?_
  walk_at "wk"
  refine q_popm D.trl ?_
  walk_at "wk"
  refine ⟨A.trl,_,_,rfl,rfl,hm,?_⟩
  walk_at "wk"
  refine D1.domains ?_
  walk_at "wk"
  have hdl:r.y < (encD S.doms).length:=by unfold encD; rw [List.length_map]; exact hy r List.mem_cons_self
  refine q_setO D1.dom hdl ?_
  walk_at "wk"
  exact ih
theorem deeps_encD:∀ l:List Prs,deeps (encD l)≤2
 | []=>by simp [deeps]
 | p::l=>by
  have:=deeps_encD l
  have h2:deeps (encPs p)≤1:=by
   induction p with
   | nil=>simp [encPs,deeps]
   | cons q p ih=>rw [encPs_cons]; simp only [deeps,deep]; exact l40 3957290198453699857536143670853124970201066317968496638118576870978985456121512257830175769806621236365484845238861241797640797630917151090785223776447243870865526322187753988 rfl ih (lmxN _ _) (lmxN _ _) (lmxN _ _)
  simp only [encD,List.map_cons,deeps,deep] at *
  exact l30 96156582956209837853224026941236670029824376027892227 rfl this h2 (lmxN _ _)
theorem plains_encD (l:List Prs):plains (encD l)=true:=by
 induction l with
 | nil=>rfl
 | cons q p ih=>simp only [encD,List.map_cons,plains,plain,plains_encPs,Bool.true_and] at *; exact ih
theorem data_encD (l:List Prs):dataOk (.lst (encD l))=true:=by
 have:=deeps_encD l
 unfold dataOk
 have e:plain (.lst (encD l))=true:=plains_encD l
 have e2:deep (.lst (encD l))=deeps (encD l)+1:=rfl
 rw [e,e2,Bool.true_and,decide_eq_true_eq]
 exact l10 4811761920395777 rfl this
theorem nil_notin {l:List Prs} (h:∀ p∈l,p≠[]) {a:Addr} (ha:H a=some (.list (encD l))):isIn H (.tup []) (.obj a) false:=by
 refine ⟨encD l,by simp [itemsOf,ha],rfl,data_encD l,(fun i e=>by cases e),(fun i e=>by cases e),l.map (fun uu=>false),?_,?_⟩
 ·unfold encD
  rw [List.map_map,List.map_map]
  refine List.map_congr_left fun p hp=>?_
  have:=h p hp
  cases p with
  | nil=>exact absurd rfl this
  | cons q p=>show aeq (.tup []) (.tup (encPs (q::p)))=some false; rw [encPs_cons]; rfl
 ·clear h ha
  induction l with
  | nil=>rfl
  | cons p l ih=>simpa using ih
theorem Desk.putMarks (D:Desk H A S) {a:Addr} (ha:H a=none) (m:List Int) {P:AH→Prop} (h:P (upd (upd H a (.list (m.map .int))) A.dx (.ns (({ A with mrk:=a }:DA).fields S)))):setAt (upd H a (.list (m.map .int))) (.obj A.s) .marks (.obj a) P:=
 ⟨rfl,A.s,.store,A.dx,A.fields S,rfl,(D.beside ha).inst,(D.beside ha).ns,by show (8:Nat)≤900; lia,h⟩
theorem Desk.putNews (D:Desk H A S) {a:Addr} (ha:H a=none) {P:AH→Prop} (h:P (upd (upd H a .news) A.dx (.ns (({ A with nws:=a }:DA).fields S)))):setAt (upd H a .news) (.obj A.s) .news (.obj a) P:=
 ⟨rfl,A.s,.store,A.dx,A.fields S,rfl,(D.beside ha).inst,(D.beside ha).ns,by show (8:Nat)≤900; lia,h⟩
theorem spop0_ok (D:Desk H A S) (h:Q .none H):meets Γ lvl .Store_pop [.obj A.s,.int 0] H Q:=by
 refine meets_of rfl ?_
 dsimp only [bodyOf,b_Store_pop,scOf,init2]
 walk_at "wk"
 refine r_yes rfl ?_
 walk_at "wk"
 exact ends_same h
theorem spop_ok (D : Desk H A S) {ms : List Int} {t : List AV} {rest : List Int} {rs : List En} (hm : S.marks = ms ++ (t.length : Int) :: rest) (hl : S.marks.length < 1000) (ht : S.trail = t ++ rs.reverse.map encE) (hy : ∀ e ∈ rs, e.y < S.doms.length) (hf : ∀ p ∈ S.firsts, p ≠ [])
    (h : ∀ A' H', Desk H' A' ⟨undo S.doms rs, S.firsts, t, ms, false, []⟩ → Into A H A' H' → Q .none H') : meets Γ lvl .Store_pop [.obj A.s, .int (rest.length + 1)] H Q := by
  refine meets_of rfl ?_
  have hn : ((S.marks.length : Nat) : Int) - (rest.length + 1 : Int) = (ms.length : Nat) := by rw [hm, List.length_append, List.length_cons]; exact l20 20353375326036848976 rfl
  have hmk : (S.marks.map AV.int)[ms.length]? = some (.int t.length) := by rw [hm]; simp
  have htk : (S.marks.map AV.int).take ms.length = ms.map AV.int := by rw [hm]; simp
  dsimp only [bodyOf, b_Store_pop, scOf, init2]
  walk_at "wk"
  refine r_no (decide_eq_false (by exact l10 5731976288 rfl)) ?_
  walk_at "wk"
  refine D.marks ?_
  walk_at "wk"
  refine D.marks ?_
  refine r_es0 (r_callB rfl (r_lenO D.mrk ?_))
  walk_at "wk"
  rw [List.length_map]
  refine q_nthO' D.mrk hn hmk ?_
  refine r_can rfl (r_kn (r_ss (r_asgA ?_)))
  refine r_slice ?_
  walk_at "wk"
  refine D.marks ?_
  walk_at "wk"
  refine D.marks ?_
  refine r_es0 (r_callB rfl (r_lenO D.mrk ?_))
  walk_at "wk"
  rw [List.length_map, hn]
  refine ⟨S.marks.map .int, (fun t e => by cases e), by simp [itemsOf, D.mrk], .inl ⟨ms.length, rfl, rfl, ?_⟩⟩
  rw [htk]
  refine newL_obj (by rw [List.length_map]; have : ms.length ≤ S.marks.length := by rw [hm]; simp
                      unfold LIM; exact l30 22603341706660406510580704654332021266 rfl hl hn) fun a ha => ?_
  walk_at "wk"
  refine D.putMarks ha ms ?_
  have D1 := D.newMarks ha ms
  have I1 := Into.reMark (A := A) ha (.list (ms.map .int)) (.ns (({ A with mrk := a } : DA).fields S))
  generalize hA1 : ({ A with mrk := a } : DA) = A1 at D1 I1
  have es : A1.s = A.s := by rw [← hA1]
  generalize upd (upd H a (.list (ms.map .int))) A.dx (.ns (A1.fields S)) = H1 at D1 I1 ⊢
  rw [← es]
  refine r_kn (r_ss ?_)
  rw [u_while]
  refine ⟨rs.length + 1, pop_loop (n := (rest.length + 1 : Int)) rs H1 _ .unb D1 ht hy fun H2 e' D2 I2 => r_kn (r_ss (r_asgA (r_dict (r_ds0 fun b hb => ?_))))⟩
  walk_at "wk"
  refine D2.putNews hb ?_
  have D3 := D2.newNews hb
  have I3 := Into.reNews (A := A1) hb .news (.ns (({ A1 with nws := b } : DA).fields { S with marks := ms, trail := t, doms := undo S.doms rs }))
  generalize hA2 : ({ A1 with nws := b } : DA) = A2 at D3 I3
  have es2 : A2.s = A1.s := by rw [← hA2]
  generalize upd (upd H2 b .news) A1.dx (.ns (A2.fields _)) = H3 at D3 I3 ⊢
  rw [← es2]
  walk_at "wk"
  refine D3.firsts ?_
  refine ⟨false, nil_notin hf D3.fst, ?_⟩
  walk_at "wk"
  refine D3.setFailed false ?_
  walk_at "wk"
  refine (D3.reNs false S.clash).setClash [] ?_
  rw [upd_upd]
  walk_at "wk"
  exact ends_same (h A2 _ (D3.reNs false []) (((I1.trans I2).trans I3).trans (Into.upd (by simp [DA.own]))))
end
end Internal
namespace Internal
open PySem
structure Young (H0:AH) (c:Cl) (s dx:Addr) (fs:List (Nm×AV)) (os:List (Addr×AO)) (H:AH):Prop where
 inst:H s=some (.inst c dx)
 ns:H dx=some (.ns fs)
 objs:∀ p∈os,H p.1=some p.2∧H0 p.1=none
 nd:(os.map (·.1)).Nodup
 keep:∀ b,b≠dx→H0 b≠none→H b=H0 b
 b1:H0 s≠none
 b2:H0 dx≠none
theorem Young.set {H0:AH} {c:Cl} {s dx:Addr} {fs:List (Nm×AV)} {os:List (Addr×AO)} {H:AH} (Y:Young H0 c s dx fs os H) (gs:List (Nm×AV)):Young H0 c s dx gs os (upd H dx (.ns gs)):=by
 have e1:s≠dx:=fun e=>by have h1:=Y.inst; rw [e,Y.ns] at h1; cases h1
 refine ⟨by rw [upd_ne _ e1]; exact Y.inst,upd_at _ _,fun p hp=>?_,Y.nd,fun b hb h=>by rw [upd_ne _ hb]; exact Y.keep b hb h,Y.b1,Y.b2⟩
 obtain ⟨h1,h2⟩:=Y.objs p hp
 have:p.1≠dx:=fun e=>Y.b2 (e▸h2)
 exact ⟨by rw [upd_ne _ this]; exact h1,h2⟩
theorem Young.new {H0:AH} {c:Cl} {s dx:Addr} {fs:List (Nm×AV)} {os:List (Addr×AO)} {H:AH} (Y:Young H0 c s dx fs os H) {a:Addr} (ha:H a=none) (o:AO):Young H0 c s dx fs ((a,o)::os) (upd H a o):=by
 have q:∀ {b o'},H b=some o'→b≠a:=fun {b o'} e q=>by subst q; rw [ha] at e; cases e
 have h0:H0 a=none:=by
  cases e:H0 a with
  | none=>rfl
  | some o'=>
   have:=Y.keep a (fun e'=>(q Y.ns) e'.symm) (by rw [e]; simp)
   rw [ha,e] at this; cases this
 refine ⟨by rw [upd_ne _ (q Y.inst)]; exact Y.inst,by rw [upd_ne _ (q Y.ns)]; exact Y.ns,fun p hp=>?_,?_,fun b hb h=>by rw [upd_ne _ (fun e=>h (by rw [e]; exact h0))]; exact Y.keep b hb h,Y.b1,Y.b2⟩
 ·rcases List.mem_cons.mp hp with rfl | hp
  ·exact ⟨upd_at _ _,h0⟩
  ·obtain ⟨h1,h2⟩:=Y.objs p hp
   exact ⟨by rw [upd_ne _ (q h1)]; exact h1,h2⟩
 ·rw [List.map_cons,List.nodup_cons]
  refine ⟨fun h=>?_,Y.nd⟩
  obtain ⟨p,hp,e⟩:=List.mem_map.mp h
  have:=(Y.objs p hp).1
  rw [e,ha] at this; cases this
section
variable {Γ:Fn→List AV→AH→P1→Prop} {lv:Fn→Nat} {k:Nat} {H:AH} {Q:P1} {B:PB} {ρ:Ev} {A:DA} {S:DS}
theorem Young.put {H0:AH} {c:Cl} {s dx:Addr} {fs:List (Nm×AV)} {os:List (Addr×AO)} (Y:Young H0 c s dx fs os H) {x:Nm} {v:AV} {P:AH→Prop} (hx:isFld x=true) (hl:(setF fs x v).length≤900) (h:P (upd H dx (.ns (setF fs x v)))):setAt H (.obj s) x v P:=
 ⟨hx,s,c,dx,fs,rfl,Y.inst,Y.ns,hl,h⟩
theorem sinit_ok {s dx:Addr} (hs:H s=some (.inst .store dx)) (hdx:H dx=some (.ns [])) (h:∀ A H',A.s=s→A.dx=dx→Desk H' A ⟨[],[],[],[],false,[]⟩→(∀ b,b≠s→b≠dx→H b≠none→H' b=H b∧¬ A.own b)→Q .none H'):meets Γ lvl .Store_init [.obj s] H Q:=by
 refine meets_of rfl ?_
 have Y:Young H .store s dx [] [] H:=⟨hs,hdx,fun p hp=>(by cases hp),List.nodup_nil,fun b uu uu=>rfl,by rw [hs]; simp,by rw [hdx]; simp⟩
 dsimp only [bodyOf,b_Store_init,scOf,init2]
 walk_at "wk"
 refine newL_obj (Nat.zero_le _) fun a1 h1=>?_
 walk_at "wk"
 refine (Y.new h1 _).put rfl (Nat.le_of_ble_eq_true rfl) ?_
 have Y1:=(Y.new h1 (.list [])).set (setF [] .domains (.obj a1))
 generalize upd (upd H a1 (.list [])) dx (.ns (setF [] .domains (.obj a1)))=H1 at Y1 ⊢
 replace Y1:Young H .store s dx [(.domains,.obj a1)] [(a1,.list [])] H1:=Y1
 walk_at "wk"
 refine newL_obj (Nat.zero_le _) fun a2 h2=>?_
 walk_at "wk"
 refine (Y1.new h2 _).put rfl (Nat.le_of_ble_eq_true rfl) ?_
 have Y2:=(Y1.new h2 (.list [])).set (setF [(.domains,.obj a1)] .firsts (.obj a2))
 generalize upd (upd H1 a2 (.list [])) dx (.ns (setF [(.domains,.obj a1)] .firsts (.obj a2)))=H2 at Y2 ⊢
 replace Y2:Young H .store s dx [(.domains,.obj a1),(.firsts,.obj a2)] [(a2,.list []),(a1,.list [])] H2:=Y2
 clear Y1
 walk_at "wk"
 refine newL_obj (Nat.zero_le _) fun a3 h3=>?_
 walk_at "wk"
 refine (Y2.new h3 _).put rfl (Nat.le_of_ble_eq_true rfl) ?_
 have Y3:=(Y2.new h3 (.list [])).set (setF [(.domains,.obj a1),(.firsts,.obj a2)] .trail (.obj a3))
 generalize upd (upd H2 a3 (.list [])) dx (.ns (setF [(.domains,.obj a1),(.firsts,.obj a2)] .trail (.obj a3)))=H3 at Y3 ⊢
 replace Y3:Young H .store s dx [(.domains,.obj a1),(.firsts,.obj a2),(.trail,.obj a3)] [(a3,.list []),(a2,.list []),(a1,.list [])] H3:=Y3
 clear Y2
 walk_at "wk"
 refine newL_obj (Nat.zero_le _) fun a4 h4=>?_
 walk_at "wk"
 refine (Y3.new h4 _).put rfl (Nat.le_of_ble_eq_true rfl) ?_
 have Y4:=(Y3.new h4 (.list [])).set (setF [(.domains,.obj a1),(.firsts,.obj a2),(.trail,.obj a3)] .marks (.obj a4))
 generalize upd (upd H3 a4 (.list [])) dx (.ns (setF [(.domains,.obj a1),(.firsts,.obj a2),(.trail,.obj a3)] .marks (.obj a4)))=H4 at Y4 ⊢
 replace Y4:Young H .store s dx [(.domains,.obj a1),(.firsts,.obj a2),(.trail,.obj a3),(.marks,.obj a4)] [(a4,.list []),(a3,.list []),(a2,.list []),(a1,.list [])] H4:=Y4
 clear Y3
 refine r_kn (r_ss (r_asgA (r_dict (r_ds0 fun a5 h5=>?_))))
 walk_at "wk"
 refine (Y4.new h5 _).put rfl (Nat.le_of_ble_eq_true rfl) ?_
 have Y5:=(Y4.new h5 (.news)).set (setF [(.domains,.obj a1),(.firsts,.obj a2),(.trail,.obj a3),(.marks,.obj a4)] .news (.obj a5))
 generalize upd (upd H4 a5 (.news)) dx (.ns (setF [(.domains,.obj a1),(.firsts,.obj a2),(.trail,.obj a3),(.marks,.obj a4)] .news (.obj a5)))=H5 at Y5 ⊢
 replace Y5:Young H .store s dx [(.domains,.obj a1),(.firsts,.obj a2),(.trail,.obj a3),(.marks,.obj a4),(.news,.obj a5)] [(a5,.news),(a4,.list []),(a3,.list []),(a2,.list []),(a1,.list [])] H5:=Y5
 clear Y4
 walk_at "wk"
 refine Y5.put rfl (Nat.le_of_ble_eq_true rfl) ?_
 have Y6:=Y5.set (setF [(.domains,.obj a1),(.firsts,.obj a2),(.trail,.obj a3),(.marks,.obj a4),(.news,.obj a5)] .speaker (.int (-1)))
 walk_at "wk"
 refine Y6.put rfl (Nat.le_of_ble_eq_true rfl) ?_
 have Y7:=Y6.set (setF (setF [(.domains,.obj a1),(.firsts,.obj a2),(.trail,.obj a3),(.marks,.obj a4),(.news,.obj a5)] .speaker (.int (-1))) .is_failed (.bool false))
 walk_at "wk"
 refine Y7.put rfl (Nat.le_of_ble_eq_true rfl) ?_
 have Y8:=Y7.set (setF (setF (setF [(.domains,.obj a1),(.firsts,.obj a2),(.trail,.obj a3),(.marks,.obj a4),(.news,.obj a5)] .speaker (.int (-1))) .is_failed (.bool false)) .clash (.tup []))
 generalize upd _ dx (.ns _)=H8 at Y8 ⊢
 walk_at "wk"
 have o:=Y8.objs
 have o1:=o (a1,.list []) (by simp)
 have o2:=o (a2,.list []) (by simp)
 have o3:=o (a3,.list []) (by simp)
 have o4:=o (a4,.list []) (by simp)
 have o5:=o (a5,.news) (by simp)
 refine ends_same (h ⟨s,dx,a1,a2,a3,a4,a5⟩ H8 rfl rfl ?_ fun b hb1 hb2 hb3=>⟨Y8.keep b hb2 hb3,?_⟩)
 ·have nd:=Y8.nd
  simp at nd
  refine byc fun hNN=>?_
  obtain ⟨⟨n1,n2,n3,n4⟩,⟨n5,n6,n7⟩,⟨n8,n9⟩,n10⟩:=nd
  refine hNN ?_
  exact ⟨Y8.inst,Y8.ns,o1.1,o2.1,o3.1,o4.1,o5.1,by
   simp; exact ⟨⟨Ne.symm n10,Ne.symm n9,Ne.symm n7⟩,⟨Ne.symm n8,Ne.symm n6⟩,Ne.symm n5⟩⟩
 ·rintro (e | e | e | e | e | e | e)
  ·exact hb1 e
  ·exact hb2 e
  ·exact hb3 (e▸o1.2)
  ·exact hb3 (e▸o2.2)
  ·exact hb3 (e▸o3.2)
  ·exact hb3 (e▸o4.2)
  ·exact hb3 (e▸o5.2)
noncomputable def ruleF (x z:Nat):List (Nm×AV):=[(.number,.int (-1)),(.scope,.tup [.int x,.int z]),(.strength,.str .values)]
structure Rule (H:AH) (a dx:Addr) (x z:Nat):Prop where
 inst:H a=some (.inst .absolute dx)
 ns:H dx=some (.ns (ruleF x z))
theorem pinit_ok {a dx:Addr} {x z:Nat} (hs:H a=some (.inst .absolute dx)) (hdx:H dx=some (.ns [])) (h:∀ H',Rule H' a dx x z→(∀ b,b≠dx→H' b=H b)→Q .none H'):meets Γ lvl .Propagator_init [.obj a,.tup [.int x,.int z],.str .values] H Q:=by
 refine meets_of rfl ?_
 have Y:Young H .absolute a dx [] [] H:=⟨hs,hdx,fun p hp=>(by cases hp),List.nodup_nil,fun b uu uu=>rfl,by rw [hs]; simp,by rw [hdx]; simp⟩
 dsimp only [bodyOf,b_Propagator_init,scOf,init2]
 walk_at "wk"
 refine Y.put rfl (Nat.le_of_ble_eq_true rfl) ?_
 have Y1:Young H .absolute a dx [(.number,.int (-1))] [] _:=Y.set _
 walk_at "wk"
 refine r_tupT (by unfold LIM; simp) ?_
 walk_at "wk"
 refine Y1.put rfl (Nat.le_of_ble_eq_true rfl) ?_
 have Y2:Young H .absolute a dx [(.number,.int (-1)),(.scope,.tup [.int x,.int z])] [] _:=Y1.set _
 walk_at "wk"
 refine Y2.put rfl (Nat.le_of_ble_eq_true rfl) ?_
 have Y3:Young H .absolute a dx (ruleF x z) [] _:=Y2.set _
 walk_at "wk"
 refine ends_same (h _ ⟨Y3.inst,Y3.ns⟩ fun b hb=>?_)
 rw [upd_ne _ hb,upd_ne _ hb,upd_ne _ hb]
theorem ainit_ok (hΓ:∀ (a dx:Addr) (x z:Nat) (H:AH) (Q:P1),H a=some (.inst .absolute dx)→H dx=some (.ns [])→(∀ H',Rule H' a dx x z→(∀ b,b≠dx→H' b=H b)→Q .none H')→Γ .Propagator_init [.obj a,.tup [.int x,.int z],.str .values] H Q)
  {a dx:Addr} {x z:Nat} (hs:H a=some (.inst .absolute dx)) (hdx:H dx=some (.ns [])) (h:∀ H',Rule H' a dx x z→(∀ b,b≠dx→H' b=H b)→Q .none H'):meetsInit Γ lvl [.obj a,.int x,.int z] H Q:=
 ⟨a,dx,.int x,.int z,rfl,hs,by simp,by simp,by decide,hΓ a dx x z H _ hs hdx h⟩
theorem Rule.scope {a dx:Addr} {x z:Nat} (R:Rule H a dx x z) (q:Q (.tup [.int x,.int z]) H):getAt H (.obj a) .scope Q:=⟨rfl,a,.absolute,dx,ruleF x z,_,rfl,R.inst,R.ns,rfl,q⟩
theorem Rule.meth {a dx:Addr} {x z:Nat} (R:Rule H a dx x z) {P:MK→Prop} (h:P (.fn .Absolute_propagate)):methK H (.obj a) .propagate P:=
 ⟨a,rfl,.inr ⟨.absolute,dx,ruleF x z,_,R.inst,R.ns,rfl,rfl,h⟩⟩
end
end Internal
namespace Internal
open PySem
set_option backward.match.sparseCases false in
noncomputable abbrev far:Int:=10 ^ 40
set_option backward.match.sparseCases false in
noncomputable def mrg (f:Prs) (p:Int×Int):Prs:=match f.getLast? with
 | some q=>if p.1≤q.2+1 then f.dropLast++[(q.1,max p.2 q.2)] else f++[p]
 | none=>[p]
set_option backward.match.sparseCases false in
noncomputable def mergeP (l:Prs):Prs:=(sortP l).foldl mrg []
set_option backward.match.sparseCases false in
noncomputable def mirP (l:Prs):Prs:=l.map fun p=>(0 - p.2,0 - p.1)
set_option backward.match.sparseCases false in
noncomputable def saysB (g:Sy) (k v:Int):Bool:=match g with
 | .le=>decide (v≤k)
 | .ge=>decide (k≤v)
 | .eq=>decide (v=k)
 | _ => !decide (v=k)
set_option backward.match.sparseCases false in
noncomputable def Tub (H:AH) (t:Addr) (n:Nat):Prop:=∃ is:List Int,is.length≤100∧H t=some (.sdict [(.cells,.lst (is.map .int)),(.at_,.int n)])
section
variable {Γ:Fn→List AV→AH→P1→Prop} {lv:Fn→Nat} {k:Nat} {H:AH} {Q:P1} {B:PB} {ρ:Ev} {A:DA} {S:DS}
theorem q_mod {x y:Int} (h:0 < y) (q:Q (.int (x % y)) H):binOp .mod (.int x) (.int y) H Q:=⟨x,y,rfl,rfl,h,q⟩
theorem q_mul {x y:Int} (h:x.natAbs≤LIM) (h2:y.natAbs≤LIM * LIM) (q:Q (.int (x * y)) H):binOp .mul (.int x) (.int y) H Q:=⟨x,y,rfl,rfl,h,h2,q⟩
theorem q_sget {a:Addr} {kvs:List (Sy×AV)} {s:Sy} {v:AV} (ha:H a=some (.sdict kvs)) (h:lkF kvs s=some v) (q:Q v H):getIt H (.obj a) (.str s) Q:=⟨a,kvs,v,rfl,ha,h,q⟩
theorem q_sset {a:Addr} {kvs:List (Sy×AV)} {s:Sy} {v:AV} {P:AH→Prop} (ha:H a=some (.sdict kvs)) (h:(lkF kvs s).isSome=true) (q:P (upd H a (.sdict (setF kvs s v)))):setIt H (.obj a) (.str s) v P:=⟨a,kvs,rfl,ha,h,q⟩
theorem far_ok (h:Q (.int far) H):meets Γ lvl .law_far [] H Q:=by
 refine meets_of rfl ?_
 dsimp only [bodyOf,b_law_far,scOf,init2]
 walk_at "wk"
 refine ⟨40,rfl,rfl,by decide,?_⟩
 walk_at "wk"
 exact ends_same h
theorem draw_ok {t:Addr} {n:Nat} {m:Int} (T:Tub H t n) (hn:n < 10000) (hm:0 < m) (h:∀ r H',0≤r→r < m→Tub H' t (n+1)→(∀ b,b≠t→H' b=H b)→Q (.int r) H'):meets Γ lvl .law_draw [.obj t,.int m] H Q:=by
 refine meets_of rfl ?_
 obtain ⟨is,hi,ht⟩:=T
 have ht2:upd H t (.sdict [(.cells,.lst (is.map .int)),(.at_,.int ((n:Int)+1))]) t=some (.sdict [(.cells,.lst (is.map .int)),(.at_,.int ((n:Int)+1))]):=upd_at _ _
 have T2:Tub (upd H t (.sdict [(.cells,.lst (is.map .int)),(.at_,.int ((n:Int)+1))])) t (n+1):=⟨is,hi,ht2⟩
 have ke:∀ b,b≠t→upd H t (.sdict [(.cells,.lst (is.map .int)),(.at_,.int ((n:Int)+1))]) b=H b:=fun b hb=>upd_ne _ hb
 have fin:∀ x:Int,Q (.int (x % m)) (upd H t (.sdict [(.cells,.lst (is.map .int)),(.at_,.int ((n:Int)+1))])):=fun x=>h _ _ (Int.emod_nonneg _ (by exact l01 74798507585 rfl hm)) (Int.emod_lt_of_pos _ hm) T2 ke
 clear h ke T2
 dsimp only [bodyOf,b_law_draw,scOf,init2]
 walk_at "wk"
 refine q_sget ht (s:=.at_) rfl ?_
 walk_at "wk"
 refine q_sset ht rfl ?_
 generalize hG:upd H t (.sdict (setF [(.cells,.lst (is.map .int)),(.at_,.int n)] .at_ (.int ((n:Int)+1))))=G
 have hG':upd H t (.sdict [(.cells,.lst (is.map .int)),(.at_,.int ((n:Int)+1))])=G:=hG
 rw [hG'] at ht2 fin
 walk_at "wk"
 refine q_sget ht2 (s:=.cells) rfl ?_
 walk_at "wk"
 rw [List.length_map]
 refine ⟨fun hlt=>?_,fun uu=>?_⟩
 ·have hlt':n < is.length:=by have:=of_decide_eq_true hlt; exact l20 1218188912449 rfl this
  walk_at "wk"
  refine q_sget ht2 (s:=.cells) rfl ?_
  walk_at "wk"
  refine r_ix (v:=.int is[n]) rfl (by rw [List.getElem?_map,List.getElem?_eq_getElem hlt']; rfl) ?_
  walk_at "wk"
  refine q_mod hm ?_
  walk_at "wk"
  exact ends_same (fin _)
 ·have mul:∀ {x y:Int} {Q:P1} {H:AH},x.natAbs≤LIM→y.natAbs≤LIM * LIM→Q (.int (x * y)) H→binOp .mul (.int x) (.int y) H Q:=fun h1 h2 h=>q_mul h1 h2 h
  have a2:((n:Int)).natAbs≤LIM * LIM:=by unfold LIM; exact l20 6928712901312018761803614327528151177716114547926393541168182109686290 rfl hn (labs _)
  walk_at "wk"
  refine mul (by decide) a2 ?_
  walk_at "wk"
  refine mul (by unfold LIM; exact l20 6928712901914620528411136695064891190102337006506942569778084181461522 rfl hn (labs _)) a2 ?_
  walk_at "wk"
  refine mul (by decide) a2 ?_
  walk_at "wk"
  refine q_sget ht2 (s:=.cells) rfl ?_
  walk_at "wk"
  rw [List.length_map]
  refine mul (by decide) (by unfold LIM; exact l20 27065284770750073288295368466906840537953572452837474770188195613186 rfl hi (labs _)) ?_
  walk_at "wk"
  refine q_mod (by decide) ?_
  walk_at "wk"
  refine q_mod hm ?_
  walk_at "wk"
  exact ends_same (fin _)
theorem mrg_len (l:Prs) (p:Int×Int):(mrg l p).length≤l.length+1:=by
 rcases List.eq_nil_or_concat l with rfl | ⟨m,q,rfl⟩
 ·simp [mrg]
 ·unfold mrg; simp; split<;>simp
theorem q_eqL0 {a:Addr} (l:Prs) (ha:H a=some (.list (encPs l))) (h:B (!decide (l=[])) H):cmpOp .ne (.obj a) (.lst []) H B:=by
 refine ⟨decide (l=[]),?_,h⟩
 have e:seen H (.obj a)=.lst (encPs l):=by simp [seen,ha]
 refine ⟨?_,rfl,?_,fun i e'=>(by rw [e] at e'; cases e'),fun i e'=>(by rw [e] at e'; cases e')⟩
 ·rw [e]; exact data_encPs l
 ·rw [e]; exact aeqs_nil l
theorem merged_ok {v:AV} {l:Prs} (hv:itemsOf H v=some (encPs l)) (hu:v≠.unb) (hl:l.length < 64) (h:Q (.lst (encPs (mergeP l))) H):meets Γ lvl .law_merged [v] H Q:=by
 refine meets_of rfl ?_
 dsimp only [bodyOf,b_law_merged,scOf,init2]
 walk_at "wk"
 refine newL_obj (Nat.zero_le _) fun a ha=>?_
 have hv2:itemsOf (upd H a (.list [])) v=some (encPs l):=by
  set_option tactic.hygienic true in cases v<;>simp only [itemsOf] at hv ⊢ <;> try exact hv
  rename_i b
  have:b≠a:=fun e=>by subst e; rw [ha] at hv; cases hv
  rw [upd_ne _ this]; exact hv
 walk_at "wk"
 refine ⟨l,hv2,hl,by rw [encPs_len,sortP_len]; unfold LIM; exact l10 5089903427985949084177 rfl hl,.inr (r_itL ?_)⟩
 refine loopF_fold (σ:=Prs×AV×AV) (fun x p=>(mrg x.1 p,.int p.1,.int p.2))
  (fun x=>[(.ranges,.loc,v),(.found,.loc,.obj a),(.first,.loc,x.2.1),(.last,.loc,x.2.2),(.sorted,.glo,.unb),(.max,.glo,.unb)])
  (fun x=>upd H a (.list (encPs x.1))) (fun r x=>x.1.length+r.length < LIM) (fun p r x C hI hC=>?_) _ ([],.unb,.unb) _ ?_ fun hI=>?_
 ·have hC':=hC (by have:=mrg_len x.1 p; simp only [List.length_cons] at hI; show (mrg x.1 p).length+r.length < LIM; exact l40 1292965732937729112580114 rfl hI this)
  have hH:upd H a (.list (encPs x.1)) a=some (.list (encPs x.1)):=upd_at _ _
  have hU:∀ o,upd (upd H a (.list (encPs x.1))) a o=upd H a o:=fun o=>upd_upd a _ o
  simp only [List.length_cons] at hI
  clear hC
  obtain ⟨y,w1,w2⟩:=x
  dsimp only at *
  have app:C .next [(.ranges,.loc,v),(.found,.loc,.obj a),(.first,.loc,.int p.1),(.last,.loc,.int p.2),(.sorted,.glo,.unb),(.max,.glo,.unb)] (upd H a (.list (encPs (y++[p]))))→∀ {ρ:Ev},ρ=[(.ranges,.loc,v),(.found,.loc,.obj a),(.first,.loc,.int p.1),(.last,.loc,.int p.2),(.sorted,.glo,.unb),(.max,.glo,.unb)]→trSs Γ lvl (lvl .law_merged) (.cons (.expr (.meth (.name .found) .append (.cons (.tup (.cons (.name .first) (.cons (.name .last) .nil))) .nil))) .nil) ρ (upd H a (.list (encPs y))) (seqS (fun ρ' H1=>trSs Γ lvl (lvl .law_merged) .nil ρ' H1 C) C):=fun hq ρ e=>by
   rw [e]
   rw [encPs_snoc,← hU] at hq
   generalize upd H a (.list (encPs y))=G at hH hq ⊢
   walk_at "wk"
   refine r_app hH (by rw [encPs_len]; exact l30 312956108709905 rfl hI) ?_
   walk_at "wk"
   exact hq
  refine r_asgCT rfl rfl rfl ?_
  refine r_ss (r_ite (r_tand ?_))
  walk_at "wk"
  refine r_lst rfl (q_eqL0 y hH ?_)
  rcases List.eq_nil_or_concat y with e | ⟨m,q,e⟩
  ·subst e
   exact r_no rfl (r_ff (app hC' rfl))
  ·rw [List.concat_eq_append] at e
   have hH':upd H a (.list (encPs y)) a=some (.list (encPs m++[.tup [.int q.1,.int q.2]])):=by rw [hH,e,encPs_snoc]
   have ne:decide (y=[])=false:=decide_eq_false (by rw [e]; simp)
   have em:mrg y p=if p.1≤q.2+1 then m++[(q.1,max p.2 q.2)] else y++[p]:=by rw [e]; simp [mrg]
   rw [em] at hC'
   rw [ne]
   walk_at "wk"
   refine q_lastO hH' ?_
   walk_at "wk"
   refine ⟨fun hle=>?_,fun hle=>?_⟩
   ·rw [if_pos (of_decide_eq_true hle),encPs_snoc,← hU] at hC'
    clear hU app
    generalize upd H a (.list (encPs y))=G at hH hH' hC' ⊢
    walk_at "wk"
    refine q_lastO hH' ?_
    walk_at "wk"
    refine q_lastO hH' ?_
    walk_at "wk"
    refine q_setLast hH' ?_
    walk_at "wk"
    exact hC'
   ·rw [if_neg (of_decide_eq_false hle)] at hC'
    exact app hC' rfl
 ·rw [sortP_len]; show 0+_ < LIM; unfold LIM; exact l10 1303015277564808995031569 rfl hl
 ·have e1:((sortP l).foldl (fun (x:Prs×AV×AV) p=>(mrg x.1 p,AV.int p.1,AV.int p.2)) ([],.unb,.unb)).1=mergeP l:=by
   unfold mergeP
   generalize sortP l=l
   suffices ∀ (x:Prs×AV×AV),(l.foldl (fun (x:Prs×AV×AV) p=>(mrg x.1 p,AV.int p.1,AV.int p.2)) x).1=l.foldl mrg x.1 from this _
   induction l with
   | nil=>intro x; rfl
   | cons p l ih=>intro x; rw [List.foldl_cons,List.foldl_cons,ih]
  rw [e1] at hI ⊢
  generalize (sortP l).foldl _ _=x
  walk_at "wk"
  exact ends_turn ha h
theorem mirrored_ok {l:Prs} (hl:l.length < 1000) (h:Q (.lst (encPs (mirP l))) H):meets Γ lvl .law_mirrored [.lst (encPs l)] H Q:=by
 refine meets_of rfl ?_
 dsimp only [bodyOf,b_law_mirrored,scOf,init2]
 walk_at "wk"
 refine w_comp (l:=l) (g:=fun p=>some (encP (0 - p.2,0 - p.1))) rfl (by unfold LIM; exact l10 81438454847779603237393 rfl hl) (fun P hP=>?_) (fun p hp acc C hlt hC=>?_) ?_
 ·exact r_itE (r_nm rfl rfl (r_itL hP))
 ·refine r_asgCT rfl rfl rfl ?_
  walk_at "wk"
  exact ⟨hlt,hC⟩
 ·rw [filterMap_all]
  have e:l.map (fun p=>encP (0 - p.2,0 - p.1))=encPs (mirP l):=by unfold mirP encPs; rw [List.map_map]; rfl
  rw [e]
  refine ⟨by rw [encPs_len]; unfold mirP; rw [List.length_map]; unfold LIM; exact l10 81438454847775308270097 rfl hl,.inr ?_⟩
  walk_at "wk"
  exact ends_same h
theorem says_ok {y:Int} {g:Sy} {c v:Int} (hg:isSg g=true) (h:Q (.bool (saysB g c v)) H):meets Γ lvl .law_says [lit y g c,.int v] H Q:=by
 refine meets_of rfl ?_
 dsimp only [bodyOf,b_law_says,scOf,init2,lit]
 walk_at "wk"
 refine ⟨fun e=>?_,fun e=>?_⟩
 ·cases of_decide_eq_true e
  walk_at "wk"
  exact ends_same h
 ·have e1:=of_decide_eq_false e
  walk_at "wk"
  refine ⟨fun e=>?_,fun e=>?_⟩
  ·cases of_decide_eq_true e
   walk_at "wk"
   exact ends_same h
  ·have e2:=of_decide_eq_false e
   walk_at "wk"
   refine ends_same ?_
   have e3:decide (decide (v=c)=decide (g=.eq))=saysB g c v:=by
    cases g<;>simp only [isSg,Bool.false_eq_true] at hg<;>first | exact absurd rfl e1 | exact absurd rfl e2 | (cases h:decide (v=c)<;>simp [saysB,h])
   rw [e3]; exact h
end
end Internal
namespace Internal
open PySem
noncomputable def comP (l m:Prs):Prs:=l.flatMap fun p=>m.filterMap fun q=>if decide (max p.1 q.1≤min p.2 q.2) then some (max p.1 q.1,min p.2 q.2) else none
noncomputable def commonP (l m:Prs):Prs:=sortP (comP l m)
noncomputable def cutL (g:Sy) (k:Int):Prs:=if g=.ne then [(0 - far,k - 1),(k+1,far)] else [(if g=.le then 0 - far else k,if g=.ge then far else k)]
noncomputable def cutP (l:Prs) (g:Sy) (k:Int):Prs:=commonP l (cutL g k)
noncomputable def dueP (x z:Prs):Prs×Prs:=
 let late:=cutP z .ge 0
 (mergeP (commonP x (late++mirP late)),mergeP (commonP late (x++mirP x)))
section
variable {Γ:Fn→List AV→AH→P1→Prop} {lv:Fn→Nat} {k:Nat} {H:AH} {Q:P1} {B:PB} {ρ:Ev} {A:DA} {S:DS}
theorem loopC_fa {α:Type} (enc:α→AV) {step:AV→List AV→AH→PL→Prop} {g:α→Option AV}:∀ (l:List α) (acc:List AV) (P:PL),acc.length+l.length < LIM→
  (∀ p∈l,∀ acc (P:PL),acc.length < LIM→P (match g p with | some v=>acc++[v] | none=>acc) H→step (enc p) acc H P)→P (acc++l.filterMap g) H→loopC step (l.map enc) acc H P
 | [],acc,P,_,_,h=>by simpa [loopC] using h
 | p::l,acc,P,hl,hs,h=>by
  show step (enc p) acc H (fun acc' H'=>loopC step (l.map enc) acc' H' P)
  have hl':acc.length+l.length+1 < LIM:=by simpa [Nat.add_assoc] using hl
  refine hs p List.mem_cons_self acc _ (by exact l30 1222485188625 rfl hl) ?_
  cases hg:g p with
  | none=>exact loopC_fa enc l acc P (by exact l30 80143410160861201 rfl hl') (fun q hq=>hs q (List.mem_cons_of_mem _ hq)) (by simpa [hg] using h)
  | some v=>exact loopC_fa enc l (acc++[v]) P (by simp; exact l30 20515479607028875281 rfl hl') (fun q hq=>hs q (List.mem_cons_of_mem _ hq)) (by simpa [hg] using h)
theorem w_compN {α:Type} (enc:α→AV) {x:Nm} {elt:E} {it:It} {ifs:Es} {sc:List (Nm×SK)} {l:List α} {g:α→Option AV} (hf:freOk sc ρ=true) (hl:l.length < LIM)
  (he:∀ P:PL,P (l.map enc) H→trI Γ lv k it ρ H P)
  (hs:∀ p∈l,∀ (acc:List AV) (C:PL),acc.length < LIM→C (match g p with | some v=>acc++[v] | none=>acc) H→
   asgC (.name x) (enc p) (compρ sc ρ) fun ρ1=>trAll Γ lv k ifs ρ1 H fun b H3=>(b=true→trE Γ lv k elt ρ1 H3 fun v H4=>acc.length < LIM∧C (acc++[v]) H4)∧(b=false→C acc H3))
  (h:newL (l.filterMap g) H Q):trE Γ lv k (.comp elt (.name x) it ifs sc) ρ H Q:=by
 exact ⟨hf,he _ (loopC_fa enc l [] _ (by simpa using hl) (fun p hp acc P hlt hP=>hs p hp acc P hlt hP) (by simpa using h))⟩
theorem fm_len {α β:Type} (g:α→Option β) (l:List α):(l.filterMap g).length≤l.length:=List.length_filterMap_le g l
theorem loopC_out {step:AV→List AV→AH→PL→Prop} {m:Prs} {g:Int×Int→Int×Int→Option AV}:∀ (l:Prs) (acc:List AV) (P:PL),acc.length+l.length * m.length < LIM→
  (∀ p∈l,∀ acc (P:PL),acc.length+m.length < LIM→P (acc++m.filterMap (g p)) H→step (encP p) acc H P)→P (acc++l.flatMap fun p=>m.filterMap (g p)) H→loopC step (encPs l) acc H P
 | [],acc,P,_,_,h=>by simpa [encPs,loopC] using h
 | p::l,acc,P,hl,hs,h=>by
  show step (encP p) acc H (fun acc' H'=>loopC step (encPs l) acc' H' P)
  simp only [List.length_cons,Nat.add_mul,Nat.one_mul] at hl
  refine hs p List.mem_cons_self acc _ (by exact l40 80442477708877841 rfl hl) ?_
  have:=fm_len (g p) m
  exact loopC_out l _ P (by simp; exact l50 1293262748284312511094802 rfl hl this) (fun q hq=>hs q (List.mem_cons_of_mem _ hq)) (by simpa using h)
theorem common_ok {l m:Prs} (hl:l.length * m.length < LIM) (hm:m.length < LIM) (hc:(comP l m).length < 64) (h:Q (.lst (encPs (commonP l m))) H):meets Γ lvl .law_common [.lst (encPs l),.lst (encPs m)] H Q:=by
 refine meets_of rfl ?_
 dsimp only [bodyOf,b_law_common,scOf,init2]
 walk_at "wk"
 refine r_comp2 rfl ?_
 walk_at "wk"
 refine loopC_out (m:=m) (g:=fun p q=>if decide (max p.1 q.1≤min p.2 q.2) then some (encP (max p.1 q.1,min p.2 q.2)) else none) l [] _ (by simpa using hl) (fun p hp acc P hlt hP=>?_) ?_
 ·refine r_asgCT rfl rfl rfl ?_
  walk_at "wk"
  refine loopC_fm m acc _ hlt (fun q hq acc C hlt hC=>?_) hP
  refine r_asgCT rfl rfl rfl ?_
  walk_at "wk"
  cases hc:decide (max p.1 q.1≤min p.2 q.2)
  ·rw [hc] at hC
   walk_at "wk"
   exact hC
  ·rw [hc] at hC
   walk_at "wk"
   exact ⟨hlt,hC⟩
 ·have e:(l.flatMap fun p=>m.filterMap fun q=>if decide (max p.1 q.1≤min p.2 q.2) then some (encP (max p.1 q.1,min p.2 q.2)) else none)=encPs (comP l m):=by
   unfold comP encPs
   rw [List.map_flatMap]
   congr 1; funext p
   rw [List.map_filterMap]
   congr 1; funext q
   cases decide (max p.1 q.1≤min p.2 q.2)<;>rfl
  rw [List.nil_append,e]
  refine ⟨by rw [encPs_len]; unfold LIM; exact l10 5089903427985949084177 rfl hc,.inr ?_⟩
  walk_at "wk"
  refine ⟨comP l m,rfl,hc,by rw [encPs_len,sortP_len]; unfold LIM; exact l10 5089903427985949084177 rfl hc,.inr ?_⟩
  walk_at "wk"
  exact ends_same h
theorem cutL_len (g:Sy) (c:Int):(cutL g c).length≤2:=by unfold cutL; split<;>simp
theorem cut_ok (h1:∀ (H:AH) (Q:P1),Q (.int far) H→Γ .law_far [] H Q)
  (h2:∀ (l m:Prs) (H:AH) (Q:P1),l.length * m.length < LIM→m.length < LIM→(comP l m).length < 64→Q (.lst (encPs (commonP l m))) H→Γ .law_common [.lst (encPs l),.lst (encPs m)] H Q)
  {y:Int} {g:Sy} {c:Int} {l:Prs} (hl:l.length < 1000) (hc:(comP l (cutL g c)).length < 64) (h:Q (.lst (encPs (cutP l g c))) H):meets Γ lvl .law_cut [.lst (encPs l),lit y g c] H Q:=by
 refine meets_of rfl ?_
 have fin:∀ H' (Q':P1),Q' (.lst (encPs (cutP l g c))) H'→Γ .law_common [.lst (encPs l),.lst (encPs (cutL g c))] H' Q':=fun H' Q' q=>h2 l _ H' Q' (by
  have:=Nat.mul_le_mul_left l.length (cutL_len g c); unfold LIM; exact l20 1357996769615910625799726189074 rfl hl this) (by have:=cutL_len g c; unfold LIM; exact l10 19882435265571211777 rfl this) hc q
 dsimp only [bodyOf,b_law_cut,scOf,init2,lit]
 walk_at "wk"
 refine ⟨fun hg=>?_,fun hg=>?_⟩
 ·cases of_decide_eq_true hg
  walk_at "wk"
  refine h1 _ _ ?_
  walk_at "wk"
  refine h1 _ _ ?_
  walk_at "wk"
  refine ⟨Nat.le_of_ble_eq_true rfl,.inr ?_⟩
  walk_at "wk"
  refine fin _ _ ?_
  walk_at "wk"
  exact ends_same h
 ·have hg':=of_decide_eq_false hg
  have eL:cutL g c=[(if g=.le then 0 - far else c,if g=.ge then far else c)]:=by unfold cutL; rw [if_neg hg']
  rw [eL] at fin
  walk_at "wk"
  refine ⟨fun hg2=>?_,fun hg2=>?_⟩
  ·cases of_decide_eq_true hg2
   walk_at "wk"
   refine h1 _ _ ?_
   walk_at "wk"
   refine ⟨fun h=>absurd (of_decide_eq_true h) (by decide),fun uu=>?_⟩
   walk_at "wk"
   refine ⟨Nat.le_of_ble_eq_true rfl,.inr ?_⟩
   walk_at "wk"
   refine fin _ _ ?_
   walk_at "wk"
   exact ends_same h
  ·rw [if_neg (of_decide_eq_false hg2)] at fin
   walk_at "wk"
   refine ⟨fun hg3=>?_,fun hg3=>?_⟩
   ·cases of_decide_eq_true hg3
    walk_at "wk"
    refine h1 _ _ ?_
    walk_at "wk"
    refine ⟨Nat.le_of_ble_eq_true rfl,.inr ?_⟩
    walk_at "wk"
    refine fin _ _ ?_
    walk_at "wk"
    exact ends_same h
   ·rw [if_neg (of_decide_eq_false hg3)] at fin
    walk_at "wk"
    refine ⟨Nat.le_of_ble_eq_true rfl,.inr ?_⟩
    walk_at "wk"
    refine fin _ _ ?_
    walk_at "wk"
    exact ends_same h
end
end Internal
namespace Internal
open PySem
section
variable {Γ:Fn→List AV→AH→P1→Prop} {lv:Fn→Nat} {k:Nat} {H:AH} {Q:P1} {B:PB} {ρ:Ev} {A:DA} {S:DS}
theorem loopF_all {σ:Type} {body:AV→Ev→AH→PS→Prop} (env:σ→Ev) (P:AV→Prop) (hs:∀ x s (C:PS),P x→(∀ s',C .next (env s') H)→body x (env s) H C):
  ∀ (l:List AV) (s:σ) (Q:PS),(∀ x∈l,P x)→(∀ s',Q .next (env s') H)→loopF body l (env s) H Q
 | [],s,Q,_,h=>h s
 | x::l,s,Q,hp,h=>by
  show body x (env s) H _
  exact hs x s _ (hp x List.mem_cons_self) fun s'=>loopF_all env P hs l s' Q (fun y hy=>hp y (List.mem_cons_of_mem _ hy)) h
theorem plains_lits:∀ l:List Lt,plains (l.map encL)=true
 | []=>rfl
 | a::l=>by simp [plains,plain,plains_lits l]
theorem deeps_lits:∀ l:List Lt,deeps (l.map encL)≤1
 | []=>by simp [deeps]
 | a::l=>by have:=deeps_lits l; simp only [List.map_cons,deeps,encL,lit,deep]; exact l50 262733146063167103101087846659342378739924525742350163206967036353901159979823896192129175183591425269411011860652991875382202084939100368049443718213315142686066716940585812121772106093186997714087341864483876865392601767336365664292257835151657854006823134830010954712147288927768084635665950436244145193697717455080045236340274924807457814320155610077701 rfl this (lmxN _ _) (lmxN _ _) (lmxN _ _) (lmxN _ _)
theorem q_eqLits (l:List Lt) (h:B (decide (l=[])) H):cmpOp .eq (.lst (l.map encL)) (.lst []) H B:=by
 refine ⟨decide (l=[]),⟨?_,rfl,?_,fun i e=>(by cases e),fun i e=>(by cases e)⟩,h⟩
 ·have:=deeps_lits l
  unfold dataOk
  have e:plain (.lst (l.map encL))=true:=plains_lits l
  have e2:deep (.lst (l.map encL))=deeps (l.map encL)+1:=rfl
  show (plain (.lst (l.map encL))&&decide (deep (.lst (l.map encL))≤8))=true
  rw [e,e2,Bool.true_and,decide_eq_true_eq]; exact l10 300735120038401 rfl this
 ·cases l with
  | nil=>rfl
  | cons a l=>rfl
theorem q_catL (l m:List AV):(l++m).length≤LIM→Q (.lst (l++m)) H→binOp .add (.lst l) (.lst m) H Q:=fun h q=>
 .inr (.inr ⟨l,m,(fun t e=>by cases e),(fun t e=>by cases e),rfl,rfl,h,.inr q⟩)
theorem fm_filter {α β:Type} (enc:α→β) (c:α→Bool) (l:List α):l.filterMap (fun a=>if c a=false then some (enc a) else none)=(l.filter fun a => !c a).map enc:=by
 induction l with
 | nil=>rfl
 | cons a l ih=>
  rw [List.filterMap_cons,List.filter_cons,ih]
  cases h:c a<;>simp
theorem cannot_ok (h1:∀ (y:Int) (g:Sy) (c v:Int) (H:AH) (Q:P1),isSg g=true→Q (.bool (saysB g c v)) H→Γ .law_says [lit y g c,.int v] H Q)
  {ls:List Lt} {x z:Int} (hg:∀ l∈ls,isSg l.2.1=true) (hl:ls.length < 1000) (hc:∀ v:Int,(x≠z∨0≤v)→∃ l∈ls,saysB l.2.1 l.2.2 (if l.1=x then v else (v.natAbs:Int))=false) (h:Q (.bool true) H):
  meets Γ lvl .law_cannot [.lst (ls.map encL),.int x,.int z] H Q:=by
 refine meets_of rfl ?_
 dsimp only [bodyOf,b_law_cannot,scOf,init2]
 walk_at "wk"
 refine r_lst rfl ?_
 walk_at "wk"
 refine w_compN encL (l:=ls) (g:=fun l=>some (.int l.2.2)) rfl (by unfold LIM; exact l10 81438454847779603237393 rfl hl) (fun P hP=>?_) (fun p hp acc C hlt hC=>?_) ?_
 ·walk_at "wk"
  exact hP
 ·refine r_asgCN rfl ?_
  walk_at "wk"
  exact ⟨hlt,hC⟩
 rw [filterMap_all]
 refine ⟨by rw [List.length_map]; unfold LIM; exact l10 81438454847775308270097 rfl hl,.inr (q_catL _ _ (by simp; unfold LIM; exact l10 20848244440953376864750097 rfl hl) ?_)⟩
 walk_at "wk"
 refine loopF_all (fun (s:AV×AV)=>[(.some,.loc,.lst (ls.map encL)),(.x,.cel,.int x),(.z,.loc,.int z),(.k,.loc,s.1),(.v,.cel,s.2)]) (fun v=>∃ i:Int,v=.int i) (fun w s C hw hC=>?_) _ (.unb,.unb) _ (fun w hw=>?_) fun s=>?_
 ·obtain ⟨i,rfl⟩:=hw
  walk_at "wk"
  refine loopF_all (fun (s:AV)=>[(.some,.loc,.lst (ls.map encL)),(.x,.cel,.int x),(.z,.loc,.int z),(.k,.loc,.int i),(.v,.cel,s)]) (fun v=>∃ i:Int,v=.int i) (fun w s2 C hw2 hC2=>?_) _ s.2 _ (fun w hw=>?_) fun s2=>?_
  ·obtain ⟨v,rfl⟩:=hw2
   have inner:(x≠z∨0≤v)→∀ P:PB,P false H→trT Γ lvl (lvl .law_cannot) (.cmp .eq (.comp (.name .one) (.name .one) (.e (.name .some)) (.cons (.not (.call .law_says (.cons (.name .one) (.cons (.ife (.cmp .eq (.sub (.name .one) (.int 0)) (.name .x)) (.name .v) (.call .abs (.cons (.name .v) .nil))) .nil)))) .nil) [(.one,.loc),(.law_says,.glo),(.abs,.glo),(.v,.fre),(.x,.fre)]) (.list .nil)) [(.some,.loc,.lst (ls.map encL)),(.x,.cel,.int x),(.z,.loc,.int z),(.k,.loc,.int i),(.v,.cel,.int v)] H P:=fun hv P hP=>by
    refine r_tcmp ?_
    refine w_compN encL (l:=ls) (g:=fun l=>if saysB l.2.1 l.2.2 (if l.1=x then v else (v.natAbs:Int))=false then some (encL l) else none) rfl (by unfold LIM; exact l10 81438454847779603237393 rfl hl) (fun P hP=>?_) (fun p hp acc C hlt hC=>?_) ?_
    ·walk_at "wk"
     exact hP
    ·have gp:=hg p hp
     dsimp only [encL,lit] at hC ⊢
     refine r_asgCN rfl ?_
     walk_at "wk"
     refine ⟨fun e=>?_,fun e=>?_⟩
     ·rw [if_pos (of_decide_eq_true e)] at hC
      walk_at "wk"
      refine h1 _ _ _ _ _ _ gp ?_
      cases hs:saysB p.2.1 p.2.2 v
      ·rw [hs] at hC
       walk_at "wk"
       exact ⟨hlt,hC⟩
      ·rw [hs] at hC
       walk_at "wk"
       exact hC
     ·rw [if_neg (of_decide_eq_false e)] at hC
      walk_at "wk"
      refine h1 _ _ _ _ _ _ gp ?_
      cases hs:saysB p.2.1 p.2.2 (v.natAbs:Int)
      ·rw [hs] at hC
       walk_at "wk"
       exact ⟨hlt,hC⟩
      ·rw [hs] at hC
       walk_at "wk"
       exact hC
    ·rw [fm_filter encL (fun l:Lt=>saysB l.2.1 l.2.2 (if l.1=x then v else (v.natAbs:Int)))]
     refine ⟨by rw [List.length_map]; have:=List.length_filter_le (fun l:Lt => !(saysB l.2.1 l.2.2 (if l.1=x then v else (v.natAbs:Int)))) ls; unfold LIM; exact l20 5285332068198299800448813586 rfl hl this,.inr ?_⟩
     walk_at "wk"
     refine r_lst rfl (q_eqLits _ ?_)
     obtain ⟨l,hl1,hl2⟩:=hc v hv
     have:(ls.filter fun l:Lt => !(saysB l.2.1 l.2.2 (if l.1=x then v else (v.natAbs:Int))))≠[]:=fun e=>by
      have h3:l∈ls.filter fun l:Lt => !(saysB l.2.1 l.2.2 (if l.1=x then v else (v.natAbs:Int))):=List.mem_filter.mpr ⟨hl1,by rw [hl2]; rfl⟩
      rw [e] at h3; cases h3
     rw [decide_eq_false this]; exact hP
   refine r_asgCN rfl (r_ss (r_ite (r_tand (r_tor ?_))))
   walk_at "wk"
   refine ⟨fun hx=>?_,fun hx=>?_⟩
   ·refine r_tt (inner (.inl (by simpa using hx)) _ ?_)
    walk_at "wk"
    exact hC2 _
   ·walk_at "wk"
    refine ⟨fun hv=>inner (.inr (of_decide_eq_true hv)) _ ?_,fun hv=>?_⟩
    ·walk_at "wk"
     exact hC2 _
    ·walk_at "wk"
     exact hC2 _
  ·simp at hw; rcases hw with rfl | rfl | rfl | rfl | rfl | rfl<;>exact ⟨_,rfl⟩
  ·exact hC (.int i,s2)
 ·simp at hw
  rcases hw with rfl | ⟨a,b,c,h1,rfl⟩<;>exact ⟨_,rfl⟩
 ·walk_at "wk"
  exact ends_same h
end
end Internal
namespace Internal
open PySem
noncomputable abbrev encLs (l:List Prs):List AV:=l.map fun p=>.lst (encPs p)
section
variable {Γ:Fn→List AV→AH→P1→Prop} {lv:Fn→Nat} {k:Nat} {H:AH} {Q:P1} {B:PB} {ρ:Ev} {A:DA} {S:DS}
theorem encLs_at {ls:List Prs} {i:Nat} {p:Prs} (h:ls[i]?=some p):(encLs ls)[i]?=some (.lst (encPs p)):=by
 unfold encLs; rw [List.getElem?_map,h]; rfl
theorem q_catL2 (l m:Prs):(encPs l++encPs m).length≤LIM→Q (.lst (encPs (l++m))) H→binOp .add (.lst (encPs l)) (.lst (encPs m)) H Q:=fun h q=>by
 rw [encPs_app] at q; exact q_catL _ _ h q
structure DueFew (X Z:Prs):Prop where
 x:X.length < 1000
 z:Z.length < 1000
 l:(cutP Z .ge 0).length < 1000
 a:(comP Z (cutL .ge 0)).length < 64
 b:(comP X (cutP Z .ge 0++mirP (cutP Z .ge 0))).length < 64
 c:(comP (cutP Z .ge 0) (X++mirP X)).length < 64
theorem due_ok (h1:∀ (y:Int) (g:Sy) (c:Int) (l:Prs) (H:AH) (Q:P1),isSg g=true→l.length < 1000→(comP l (cutL g c)).length < 64→Q (.lst (encPs (cutP l g c))) H→Γ .law_cut [.lst (encPs l),lit y g c] H Q)
  (h2:∀ (l m:Prs) (H:AH) (Q:P1),l.length * m.length < LIM→m.length < LIM→(comP l m).length < 64→Q (.lst (encPs (commonP l m))) H→Γ .law_common [.lst (encPs l),.lst (encPs m)] H Q)
  (h3:∀ (v:AV) (l:Prs) (H:AH) (Q:P1),itemsOf H v=some (encPs l)→v≠.unb→l.length < 64→Q (.lst (encPs (mergeP l))) H→Γ .law_merged [v] H Q)
  (h4:∀ (l:Prs) (H:AH) (Q:P1),l.length < 1000→Q (.lst (encPs (mirP l))) H→Γ .law_mirrored [.lst (encPs l)] H Q)
  {v:AV} {ls:List Prs} {x z:Nat} {X Z:Prs} (hv:itemsOf H v=some (encLs ls)) (hu:v≠.unb) (hx:ls[x]?=some X) (hz:ls[z]?=some Z) (F:DueFew X Z)
  (h:Q (if x=z then .tup [.lst (encPs (cutP Z .ge 0)),.lst (encPs (cutP Z .ge 0))] else .tup [.lst (encPs (dueP X Z).1),.lst (encPs (dueP X Z).2)]) H):meets Γ lvl .law_due [v,.int x,.int z] H Q:=by
 refine meets_of rfl ?_
 have late1:(cutP Z .ge 0).length=(comP Z (cutL .ge 0)).length:=sortP_len _
 have mirl:∀ l:Prs,(mirP l).length=l.length:=fun l=>by unfold mirP; rw [List.length_map]
 have fx:=F.x
 have fa:=F.a
 have len1:(cutP Z .ge 0++mirP (cutP Z .ge 0)).length≤130:=by rw [List.length_append,mirl,late1]; exact l10 20935627868866103825 rfl fa
 have len2:(X++mirP X).length≤2000:=by rw [List.length_append,mirl]; exact l10 5386054265573398301201 rfl fx
 have m1:X.length * (cutP Z .ge 0++mirP (cutP Z .ge 0)).length < LIM:=by
  have:=Nat.mul_le_mul (Nat.le_of_lt fx) len1
  unfold LIM; exact l10 5337150576904093749323770369 rfl this
 have m2:(cutP Z .ge 0).length * (X++mirP X).length < LIM:=by
  have h6:(cutP Z .ge 0).length≤64:=by rw [late1]; exact l10 76992520076675601 rfl fa
  have:=Nat.mul_le_mul h6 len2
  unfold LIM; exact l10 5337150576904119055836260865 rfl this
 have m3:(cutP Z .ge 0++mirP (cutP Z .ge 0)).length < LIM:=by unfold LIM; exact l10 5089903427986234427905 rfl len1
 have m4:(X++mirP X).length < LIM:=by unfold LIM; exact l10 81438454847780136962561 rfl len2
 have n1:(commonP X (cutP Z .ge 0++mirP (cutP Z .ge 0))).length < 64:=by unfold commonP; rw [sortP_len]; exact F.b
 have n2:(commonP (cutP Z .ge 0) (X++mirP X)).length < 64:=by unfold commonP; rw [sortP_len]; exact F.c
 have o1:(encPs (cutP Z .ge 0)++encPs (mirP (cutP Z .ge 0))).length≤LIM:=by rw [← encPs_app,encPs_len]; exact l20 4758485521 rfl m3
 have o2:(encPs X++encPs (mirP X)).length≤LIM:=by rw [← encPs_app,encPs_len]; exact l20 4758485521 rfl m4
 dsimp only [bodyOf,b_law_due,scOf,init2]
 walk_at "wk"
 refine r_ix hv (encLs_at hz) ?_
 walk_at "wk"
 refine h1 z _ _ _ _ _ rfl F.z F.a ?_
 walk_at "wk"
 refine ⟨fun e=>?_,fun e=>?_⟩
 ·have e':x=z:=by have:=of_decide_eq_true e; exact l20 72357810686895953 rfl this
  rw [if_pos e'] at h
  walk_at "wk"
  exact ends_same h
 ·have e':¬ x=z:=by have:=of_decide_eq_false e; exact l20 1229513082673984865 rfl this
  rw [if_neg e'] at h
  walk_at "wk"
  refine r_ix hv (encLs_at hx) ?_
  walk_at "wk"
  refine h4 _ _ _ F.l ?_
  walk_at "wk"
  refine q_catL2 _ _ o1 ?_
  walk_at "wk"
  refine h2 _ _ _ _ m1 m3 F.b ?_
  walk_at "wk"
  refine h3 _ _ _ _ rfl (fun e=>by cases e) n1 ?_
  walk_at "wk"
  refine r_ix hv (encLs_at hx) ?_
  walk_at "wk"
  refine r_ix hv (encLs_at hx) ?_
  walk_at "wk"
  refine h4 _ _ _ F.x ?_
  walk_at "wk"
  refine q_catL2 _ _ o2 ?_
  walk_at "wk"
  refine h2 _ _ _ _ m2 m4 F.c ?_
  walk_at "wk"
  refine h3 _ _ _ _ rfl (fun e=>by cases e) n2 ?_
  walk_at "wk"
  exact ends_same h
end
end Internal
namespace Internal
open PySem
noncomputable def stW (S:DS) (i:Nat) (g:Sy) (c:Int) (rs:List Lt) (F K:DS→Prop):Prop:=
 ∃ p,S.doms[i]?=some p∧i < 2∧isSg g=true∧p.length < 900∧rs.length < 100∧S.trail.length < 10000∧
  ((enterS S i g c p (.tup (rs.map encL))).1=true→K (enterS S i g c p (.tup (rs.map encL))).2)∧((enterS S i g c p (.tup (rs.map encL))).1=false→F (enterS S i g c p (.tup (rs.map encL))).2)
noncomputable def loopS (f:Int→(Nat×Sy×Int)×List Lt) (F K:DS→Prop):List Int→DS→Prop
 | [],S=>K S
 | v::vs,S=>stW S (f v).1.1 (f v).1.2.1 (f v).1.2.2 (f v).2 F fun S'=>loopS f F K vs S'
noncomputable def valsW (d e:Prs):Prop:=d.length < 500∧e.length < 32∧sizeP (minusP d (joinP e (negP e)))≤1000000∧(valsP (minusP d (joinP e (negP e)))).length≤1000∧
 (∀ v∈valsP (minusP d (joinP e (negP e))),True)∧(joinP e (negP e)).length < 500∧(minusP d (joinP e (negP e))).length < 1000
noncomputable def propW (x z:Nat) (S:DS) (Post:Bool→DS→Prop):Prop:=
 S.failed=false∧stW S z .ge 0 [] (Post false) fun S1=>∃ m p,S1.doms[z]?=some (m++[p])∧
  stW S1 x .le p.2 [((z:Int),.le,p.2)] (Post false) fun S2=>stW S2 x .ge (-p.2) [((z:Int),.le,p.2)] (Post false) fun S3=>
  ∃ X3 Z3,S3.doms[x]?=some X3∧S3.doms[z]?=some Z3∧valsW X3 Z3∧
  loopS (fun v=>(((x,.ne,v):Nat×Sy×Int),[((z:Int),Sy.ne,(v.natAbs:Int))])) (Post false) (fun S4=>∃ p l m q,S4.doms[x]?=some (p::l)∧S4.doms[x]?=some (m++[q])∧
   stW S4 z .le (max (p.1.natAbs:Int) (q.2.natAbs:Int)) [((x:Int),.ge,-(max (p.1.natAbs:Int) (q.2.natAbs:Int))),((x:Int),.le,(max (p.1.natAbs:Int) (q.2.natAbs:Int)))] (Post false) fun S5=>
   ∃ X5 Z5,S5.doms[x]?=some X5∧S5.doms[z]?=some Z5∧valsW Z5 X5∧
   loopS (fun v=>(((z,.ne,v):Nat×Sy×Int),[((x:Int),Sy.ne,v),((x:Int),.ne,-v)])) (Post false) (Post true) (valsP (minusP Z5 (joinP X5 (negP X5)))) S5) (valsP (minusP X3 (joinP Z3 (negP Z3)))) S3
section
variable {Γ:Fn→List AV→AH→P1→Prop} {lv:Fn→Nat} {k:Nat} {H:AH} {Q:P1} {B:PB} {ρ:Ev} {A:DA} {S:DS}
noncomputable def StrikeΓ (Γ:Fn→List AV→AH→P1→Prop):Prop:=∀ (A:DA) (S:DS) (i:Nat) (g:Sy) (c:Int) (p:Prs) (rs:List AV) (H:AH) (Q:P1),EnterPre H A S i g p (.tup rs)→
 (∀ A' H',Desk H' A' (enterS S i g c p (.tup rs)).2→Into A H A' H'→Q (.bool (enterS S i g c p (.tup rs)).1) H')→Γ .Store_strike [.obj A.s,lit i g c,.tup rs] H Q
theorem strike_go (hS:StrikeΓ Γ) (D:Desk H A S) {i:Nat} {g:Sy} {c:Int} {rs:List Lt} {F K:DS→Prop} (W:stW S i g c rs F K)
  (h1:∀ A' H' S',Desk H' A' S'→Into A H A' H'→K S'→Q (.bool true) H') (h2:∀ A' H' S',Desk H' A' S'→Into A H A' H'→F S'→Q (.bool false) H'):
  Γ .Store_strike [.obj A.s,lit i g c,.tup (rs.map encL)] H Q:=by
 refine byc fun hNN=>?_
 obtain ⟨p,hp,hi,hg,hl,hr,ht,w1,w2⟩:=W
 refine hNN ?_
 refine hS A S i g c p _ H Q ⟨D,hi,hp,hg,hl,.inr ⟨_,rfl,by rw [List.length_map]; exact hr⟩,ht⟩ fun A' H' D' I'=>?_
 cases e:(enterS S i g c p (.tup (rs.map encL))).1 with
 | true=>exact h1 A' H' _ D' I' (w1 e)
 | false=>exact h2 A' H' _ D' I' (w2 e)
theorem loop_strike {body:AV→Ev→AH→PS→Prop} {env:AV→Ev} {f:Int→(Nat×Sy×Int)×List Lt} {F K:DS→Prop} {A0:DA} {H0:AH}
  (hb:∀ (v:Int) w A H S (C:PS) (F K:DS→Prop),A.s=A0.s→Desk H A S→stW S (f v).1.1 (f v).1.2.1 (f v).1.2.2 (f v).2 F K→(∀ A' H' S',Desk H' A' S'→Into A H A' H'→K S'→C .next (env (.int v)) H')→
   (∀ A' H' S',Desk H' A' S'→Into A H A' H'→F S'→C (.ret (.bool false)) (env (.int v)) H')→body (.int v) (env w) H C):
  ∀ (vs:List Int) (w:AV) (A:DA) (H:AH) (S:DS) (C:PS),Desk H A S→Into A0 H0 A H→loopS f F K vs S→(∀ A' H' S' w',Desk H' A' S'→Into A0 H0 A' H'→K S'→C .next (env w') H')→
   (∀ A' H' S' w',Desk H' A' S'→Into A0 H0 A' H'→F S'→C (.ret (.bool false)) (env w') H')→loopF body (vs.map .int) (env w) H C
 | [],w,A,H,S,C,D,I,h,h1,h2=>h1 A H S w D I h
 | v::vs,w,A,H,S,C,D,I,h,h1,h2=>by
  show body (.int v) (env w) H _
  refine hb v w A H S _ F _ I.s D h (fun A' H' S' D' I' hK=>?_) fun A' H' S' D' I' hF=>?_
  ·exact loop_strike hb vs (.int v) A' H' S' C D' (I.trans I') hK h1 h2
  ·exact h2 A' H' S' _ D' (I.trans I') hF
theorem propagate_ok (hS:StrikeΓ Γ)
  (h1:∀ (A:DA) (S:DS) (i:Nat) (p:Int×Int) (l:Prs) (H:AH) (Q:P1),Desk H A S→S.doms[i]?=some (p::l)→Q (.int p.1) H→Γ .Store_low [.obj A.s,.int i] H Q)
  (h2:∀ (A:DA) (S:DS) (i:Nat) (p:Int×Int) (l:Prs) (H:AH) (Q:P1),Desk H A S→S.doms[i]?=some (l++[p])→Q (.int p.2) H→Γ .Store_high [.obj A.s,.int i] H Q)
  (h3:∀ (A:DA) (S:DS) (i:Nat) (p:Prs) (H:AH) (Q:P1),Desk H A S→S.doms[i]?=some p→Q (.tup (encPs p)) H→Γ .Store_dom [.obj A.s,.int i] H Q)
  (h4:∀ (l:Prs) (H:AH) (Q:P1),l.length < 1000→Q (.tup (encPs (negP l))) H→Γ .negated [.tup (encPs l)] H Q)
  (h5:∀ (d e:Prs) (H:AH) (Q:P1),d.length+e.length < 64→Q (.tup (encPs (joinP d e))) H→Γ .join [.tup (encPs d),.tup (encPs e)] H Q)
  (h6:∀ (d e:Prs) (H:AH) (Q:P1),d.length < 500→e.length < 500→Q (.tup (encPs (minusP d e))) H→Γ .minus [.tup (encPs d),.tup (encPs e)] H Q)
  (h7:∀ (l:Prs) (H:AH) (Q:P1),l.length < 1000→sizeP l≤1000000→(valsP l).length≤LIM→Q (.lst ((valsP l).map .int)) H→Γ .values [.tup (encPs l)] H Q)
  {a dx:Addr} {x z:Nat} (R:Rule H a dx x z) (D:Desk H A S) {Post:Bool→DS→Prop} (W:propW x z S Post) (h:∀ A' H' S' b,Desk H' A' S'→Into A H A' H'→Post b S'→Q (.bool b) H'):
  meets Γ lvl .Absolute_propagate [.obj a,.obj A.s] H Q:=by
 refine meets_of rfl ?_
 refine byc fun hNN=>?_
 obtain ⟨hf,W⟩:=W
 refine hNN ?_
 dsimp only [bodyOf,b_Absolute_propagate,scOf,init2]
 walk_at "wk"
 refine R.scope ?_
 walk_at "wk"
 refine D.failed ?_
 rw [hf]
 walk_at "wk"
 walk_at "wk"
 refine D.meth (f:=.Store_strike) rfl rfl ?_
 walk_at "wk"
 refine strike_go hS D (rs:=[]) W (fun A1 H1 S1 D1 I1 W=>?_) (fun A1 H1 S1 D1 I1 hP=>?_)
 case refine_2=>
  walk_at "wk"
  walk_at "wk"
  exact ends_same (h A1 H1 S1 false D1 I1 hP)
 rw [← I1.s]
 walk_at "wk"
 refine byc fun hNN=>?_
 obtain ⟨m,p,hz1,W⟩:=W
 refine hNN ?_
 walk_at "wk"
 refine D1.meth (f:=.Store_high) rfl rfl ?_
 walk_at "wk"
 refine h2 _ _ z p m _ _ D1 hz1 ?_
 walk_at "wk"
 refine D1.meth (f:=.Store_strike) rfl rfl ?_
 walk_at "wk"
 refine strike_go hS D1 (rs:=[((z:Int),.le,p.2)]) W (fun A2 H2 S2 D2 I2 W=>?_) (fun A2 H2 S2 D2 I2 hP=>?_)
 case refine_2=>
  walk_at "wk"
  walk_at "wk"
  exact ends_same (h A2 H2 S2 false D2 (I1.trans I2) hP)
 rw [← I2.s]
 walk_at "wk"
 walk_at "wk"
 refine D2.meth (f:=.Store_strike) rfl rfl ?_
 walk_at "wk"
 refine strike_go hS D2 (rs:=[((z:Int),.le,p.2)]) W (fun A3 H3 S3 D3 I3 W=>?_) (fun A3 H3 S3 D3 I3 hP=>?_)
 case refine_2=>
  walk_at "wk"
  walk_at "wk"
  exact ends_same (h A3 H3 S3 false D3 ((I1.trans I2).trans I3) hP)
 rw [← I3.s]
 walk_at "wk"
 refine byc fun hNN=>?_
 obtain ⟨X3,Z3,hx3,hz3,⟨v1,v2,v3,v4,_,v5,v6⟩,W⟩:=W
 have n3:(negP Z3).length=Z3.length:=by unfold negP; simp
 refine hNN ?_
 walk_at "wk"
 refine D3.meth (f:=.Store_dom) rfl rfl ?_
 walk_at "wk"
 refine h3 _ _ x X3 _ _ D3 hx3 ?_
 walk_at "wk"
 refine D3.meth (f:=.Store_dom) rfl rfl ?_
 walk_at "wk"
 refine h3 _ _ z Z3 _ _ D3 hz3 ?_
 walk_at "wk"
 refine D3.meth (f:=.Store_dom) rfl rfl ?_
 walk_at "wk"
 refine h3 _ _ z Z3 _ _ D3 hz3 ?_
 walk_at "wk"
 refine h4 _ _ _ (by exact l10 77121414725388817 rfl v2) ?_
 walk_at "wk"
 refine h5 _ _ _ _ (by exact l20 1214266749771380167297554 rfl v2 n3) ?_
 walk_at "wk"
 refine h6 _ _ _ _ v1 v5 ?_
 walk_at "wk"
 refine h7 _ _ _ v6 v3 (by unfold LIM; exact l10 81438454847775308270081 rfl v4) ?_
 walk_at "wk"
 have I03:=(I1.trans I2).trans I3
 refine loop_strike (A0:=A3) (H0:=H3) (env:=fun w=>[(.self,.loc,.obj a),(.store,.loc,.obj A3.s),(.x,.loc,.int x),(.z,.loc,.int z),(.high,.loc,.int p.2),(.v,.loc,w),(.values,.glo,.unb),(.minus,.glo,.unb),(.join,.glo,.unb),(.negated,.glo,.unb),(.abs,.glo,.unb),(.max,.glo,.unb)])
  (fun v w A H S C F K es D W hK hF=>?_) _ .unb A3 H3 S3 _ D3 (Into.refl _ _) W (fun A4 H4 S4 w4 D4 I4 W=>?_) (fun A4 H4 S4 w4 D4 I4 hP=>?_)
 ·rw [← es] at hK hF ⊢
  walk_at "wk"
  refine D.meth (f:=.Store_strike) rfl rfl ?_
  walk_at "wk"
  refine strike_go hS D (rs:=[((z:Int),.ne,(v.natAbs:Int))]) W (fun A4 H4 S4 D4 I4 W=>?_) (fun A4 H4 S4 D4 I4 hP=>?_)
  ·walk_at "wk"
   walk_at "wk"
   exact hK _ _ _ D4 I4 W
  ·walk_at "wk"
   walk_at "wk"
   exact hF _ _ _ D4 I4 hP
 case refine_3=>
  walk_at "wk"
  exact ends_same (h A4 H4 S4 false D4 (I03.trans I4) hP)
 rw [← I4.s]
 refine byc fun hNN=>?_
 obtain ⟨p4,l4,m4,q4,hx4,hx4',W⟩:=W
 refine hNN ?_
 walk_at "wk"
 refine D4.meth (f:=.Store_low) rfl rfl ?_
 walk_at "wk"
 refine h1 _ _ x p4 l4 _ _ D4 hx4 ?_
 walk_at "wk"
 refine D4.meth (f:=.Store_high) rfl rfl ?_
 walk_at "wk"
 refine h2 _ _ x q4 m4 _ _ D4 hx4' ?_
 walk_at "wk"
 generalize max (p4.1.natAbs:Int) (q4.2.natAbs:Int)=hh at W ⊢
 refine D4.meth (f:=.Store_strike) rfl rfl ?_
 walk_at "wk"
 refine strike_go hS D4 (rs:=[((x:Int),.ge,-hh),((x:Int),.le,hh)]) W (fun A5 H5 S5 D5 I5 W=>?_) (fun A5 H5 S5 D5 I5 hP=>?_)
 case refine_2=>
  walk_at "wk"
  walk_at "wk"
  exact ends_same (h A5 H5 S5 false D5 ((I03.trans I4).trans I5) hP)
 rw [← I5.s]
 walk_at "wk"
 refine byc fun hNN=>?_
 obtain ⟨X5,Z5,hx5,hz5,⟨v1,v2,v3,v4,_,v5,v6⟩,W⟩:=W
 have n3:(negP X5).length=X5.length:=by unfold negP; simp
 refine hNN ?_
 walk_at "wk"
 refine D5.meth (f:=.Store_dom) rfl rfl ?_
 walk_at "wk"
 refine h3 _ _ z Z5 _ _ D5 hz5 ?_
 walk_at "wk"
 refine D5.meth (f:=.Store_dom) rfl rfl ?_
 walk_at "wk"
 refine h3 _ _ x X5 _ _ D5 hx5 ?_
 walk_at "wk"
 refine D5.meth (f:=.Store_dom) rfl rfl ?_
 walk_at "wk"
 refine h3 _ _ x X5 _ _ D5 hx5 ?_
 walk_at "wk"
 refine h4 _ _ _ (by exact l10 77121414725388817 rfl v2) ?_
 walk_at "wk"
 refine h5 _ _ _ _ (by exact l20 1214266749771380167297554 rfl v2 n3) ?_
 walk_at "wk"
 refine h6 _ _ _ _ v1 v5 ?_
 walk_at "wk"
 refine h7 _ _ _ v6 v3 (by unfold LIM; exact l10 81438454847775308270081 rfl v4) ?_
 walk_at "wk"
 have I05:=(I03.trans I4).trans I5
 refine loop_strike (A0:=A5) (H0:=H5) (env:=fun w=>[(.self,.loc,.obj a),(.store,.loc,.obj A5.s),(.x,.loc,.int x),(.z,.loc,.int z),(.high,.loc,.int hh),(.v,.loc,w),(.values,.glo,.unb),(.minus,.glo,.unb),(.join,.glo,.unb),(.negated,.glo,.unb),(.abs,.glo,.unb),(.max,.glo,.unb)])
  (fun v w A H S C F K es D W hK hF=>?_) _ w4 A5 H5 S5 _ D5 (Into.refl _ _) W (fun A6 H6 S6 w6 D6 I6 W=>?_) (fun A6 H6 S6 w6 D6 I6 hP=>?_)
 ·rw [← es] at hK hF ⊢
  walk_at "wk"
  refine D.meth (f:=.Store_strike) rfl rfl ?_
  walk_at "wk"
  refine strike_go hS D (rs:=[((x:Int),.ne,v),((x:Int),.ne,-v)]) W (fun A4 H4 S4 D4 I4 W=>?_) (fun A4 H4 S4 D4 I4 hP=>?_)
  ·walk_at "wk"
   walk_at "wk"
   exact hK _ _ _ D4 I4 W
  ·walk_at "wk"
   walk_at "wk"
   exact hF _ _ _ D4 I4 hP
 ·walk_at "wk"
  exact ends_same (h A6 H6 S6 true D6 (I05.trans I6) W)
 ·walk_at "wk"
  exact ends_same (h A6 H6 S6 false D6 (I05.trans I6) hP)
end
end Internal
namespace Internal
open PySem
theorem Into.updNew {A A':DA} {H H':AH} {L:Addr} {o:AO} (I:Into A H A' H') (h:H L=none):Into A H A' (Internal.upd H' L o):=
 ⟨I.s,fun b h1 h2=>by
  obtain ⟨e,n⟩:=I.keep b h1 h2
  exact ⟨by rw [upd_ne _ (fun q=>h2 (by rw [q]; exact h))]; exact e,n⟩⟩
theorem Desk.some {H:AH} {A:DA} {S:DS} (D:Desk H A S) {b:Addr} (h:A.own b):H b≠none:=by
 rcases h with rfl | rfl | rfl | rfl | rfl | rfl | rfl
 ·rw [D.inst]; simp
 ·rw [D.ns]; simp
 ·rw [D.dom]; simp
 ·rw [D.fst]; simp
 ·rw [D.trl]; simp
 ·rw [D.mrk]; simp
 ·rw [D.nws]; simp
theorem Desk.notown {H:AH} {A:DA} {S:DS} (D:Desk H A S) {b:Addr} (h:H b=none):¬ A.own b:=fun q=>D.some q h
theorem Desk.off {H:AH} {A:DA} {S:DS} (D:Desk H A S) {b:Addr} {o:AO} (h:¬ A.own b):Desk (upd H b o) A S:=by
 have g:∀ {c o'},A.own c→H c=Option.some o'→upd H b o c=Option.some o':=fun {c o'} hc e=>by rw [upd_ne _ (fun q=>h (by rw [← q]; exact hc))]; exact e
 exact ⟨g (by simp [DA.own]) D.inst,g (by simp [DA.own]) D.ns,g (by simp [DA.own]) D.dom,g (by simp [DA.own]) D.fst,g (by simp [DA.own]) D.trl,g (by simp [DA.own]) D.mrk,g (by simp [DA.own]) D.nws,D.apart⟩
theorem Rule.notown {H:AH} {A:DA} {S:DS} {a dx:Addr} {x z:Nat} (R:Rule H a dx x z) (D:Desk H A S):¬ A.own a∧¬ A.own dx:=by
 have no:∀ {b:Addr} {o p:AO},H b=some o→H b=some p→o≠p→False:=fun h h' n=>n (Option.some.inj (h.symm.trans h'))
 have r1:=R.inst
 have r2:=R.ns
 constructor
 ·rintro (e | e | e | e | e | e | e)<;>rw [e] at r1
  ·exact no D.inst r1 nofun
  ·exact no D.ns r1 nofun
  ·exact no D.dom r1 nofun
  ·exact no D.fst r1 nofun
  ·exact no D.trl r1 nofun
  ·exact no D.mrk r1 nofun
  ·exact no D.nws r1 nofun
 ·rintro (e | e | e | e | e | e | e)<;>rw [e] at r2
  ·exact no D.inst r2 nofun
  ·exact no D.ns r2 fun q=>absurd (congrArg (fun o=>match o with | AO.ns l=>l.length | _=>0) q) (show (8:Nat)≠3 by decide)
  ·exact no D.dom r2 nofun
  ·exact no D.fst r2 nofun
  ·exact no D.trl r2 nofun
  ·exact no D.mrk r2 nofun
  ·exact no D.nws r2 nofun
theorem Rule.into {H H':AH} {A A':DA} {S:DS} {a dx:Addr} {x z:Nat} (R:Rule H a dx x z) (D:Desk H A S) (I:Into A H A' H'):Rule H' a dx x z:=by
 obtain ⟨n1,n2⟩:=R.notown D
 exact ⟨by rw [(I.keep a n1 (by rw [R.inst]; simp)).1]; exact R.inst,by rw [(I.keep dx n2 (by rw [R.ns]; simp)).1]; exact R.ns⟩
noncomputable def holdsA (cur:List Prs) (rs:List Lt):Prop:=rs.length < 100∧∀ l∈rs,isSg l.2.1=true∧∃ (i:Nat) (p:Prs),l.1=i∧cur[i]?=some p∧p.length < 1000∧(comP p (cutL l.2.1 l.2.2)).length < 64∧cutP p l.2.1 l.2.2=p
noncomputable def contra (x z:Nat) (ls:List Lt):Prop:=∀ v:Int,((x:Int)≠z∨0≤v)→∃ l∈ls,saysB l.2.1 l.2.2 (if l.1=(x:Int) then v else (v.natAbs:Int))=false
inductive StepW (x z:Nat) (e:En) (cur:List Prs) (R:Prop):Prop
 | mk (rs:List Lt) (h0:cur[e.y]?=some e.old) (h1:e.old.length < 1000) (h2:(comP e.old (cutL e.g e.k)).length < 64) (h3:cutP e.old e.g e.k≠[]) (h4:cutP e.old e.g e.k≠e.old) (h5:e.g=.le∨e.g=.ge∨e.g=.ne)
  (h6:e.rs=.tup (rs.map encL)) (h7:holdsA cur rs) (h8:contra x z (rs++[((e.y:Int),negSg e.g,negK e.g e.k)])) (h:R)
noncomputable def stepsW (x z:Nat) (K:List Prs→Prop):List En→List Prs→Prop
 | [],cur=>K cur
 | e::es,cur=>StepW x z e cur (stepsW x z K es (cur.set e.y (cutP e.old e.g e.k)))
section
variable {Γ:Fn→List AV→AH→P1→Prop} {lv:Fn→Nat} {k:Nat} {H:AH} {Q:P1} {B:PB} {ρ:Ev} {A:DA} {S:DS}
noncomputable def CutΓ (Γ:Fn→List AV→AH→P1→Prop):Prop:=∀ (y:Int) (g:Sy) (c:Int) (l:Prs) (H:AH) (Q:P1),isSg g=true→l.length < 1000→(comP l (cutL g c)).length < 64→Q (.lst (encPs (cutP l g c))) H→Γ .law_cut [.lst (encPs l),lit y g c] H Q
noncomputable def CannotΓ (Γ:Fn→List AV→AH→P1→Prop):Prop:=∀ (ls:List Lt) (x z:Int) (H:AH) (Q:P1),(∀ l∈ls,isSg l.2.1=true)→ls.length < 1000→(∀ v:Int,(x≠z∨0≤v)→∃ l∈ls,saysB l.2.1 l.2.2 (if l.1=x then v else (v.natAbs:Int))=false)→Q (.bool true) H→Γ .law_cannot [.lst (ls.map encL),.int x,.int z] H Q
noncomputable def LotsΓ (Γ:Fn→List AV→AH→P1→Prop):Prop:=∀ (A:DA) (S:DS) (H:AH) (Q:P1),Desk H A S→S.doms.length=2→(∀ p∈S.doms,p.length < 1000)→newL (encLs S.doms) H Q→Γ .law_lots [.obj A.s] H Q
theorem lots_ok2 (h1:∀ (A:DA) (S:DS) (H:AH) (Q:P1),Desk H A S→Q (.int S.doms.length) H→Γ .Store_size [.obj A.s] H Q)
  (h2:∀ (A:DA) (S:DS) (i:Nat) (p:Prs) (H:AH) (Q:P1),Desk H A S→S.doms[i]?=some p→Q (.tup (encPs p)) H→Γ .Store_dom [.obj A.s,.int i] H Q)
  (D:Desk H A S) (hd:S.doms.length=2) (hl:∀ p∈S.doms,p.length < 1000) (h:newL (encLs S.doms) H Q):meets Γ lvl .law_lots [.obj A.s] H Q:=by
 refine meets_of rfl ?_
 refine byc fun hNN=>?_
 obtain ⟨p,q,hpq⟩:∃ p q,S.doms=[p,q]:=by
  rcases hS:S.doms with _ | ⟨p,_ | ⟨q,_ | ⟨r,l⟩⟩⟩<;>rw [hS] at hd<;>simp at hd
  exact ⟨p,q,rfl⟩
 refine hNN ?_
 dsimp only [bodyOf,b_law_lots,scOf,init2]
 walk_at "wk"
 refine w_compN (fun i:Nat=>.int i) (l:=[0,1]) (g:=fun i=>(S.doms[i]?).map fun p=>.lst (encPs p)) rfl (by simp [LIM]) (fun P hP=>?_) (fun i hi acc C hlt hC=>r_asgCN rfl ?_) ?_
 ·walk_at "wk"
  refine D.meth (f:=.Store_size) rfl rfl ?_
  walk_at "wk"
  refine h1 A S _ _ D ?_
  walk_at "wk"
  rw [hd]
  exact ⟨_,rfl,by decide,by decide,[.int 0,.int 1],rfl,hP⟩
 ·have hS:∃ r,S.doms[i]?=some r∧r.length < 1000:=by
   have hp:=hl p (by rw [hpq]; simp)
   have hq:=hl q (by rw [hpq]; simp)
   rw [hpq]; simp at hi; rcases hi with rfl | rfl
   ·exact ⟨p,rfl,hp⟩
   ·exact ⟨q,rfl,hq⟩
  refine byc fun hNN=>?_
  obtain ⟨r,hr,hrl⟩:=hS
  rw [hr] at hC
  refine hNN ?_
  walk_at "wk"
  refine D.meth (f:=.Store_dom) rfl rfl ?_
  walk_at "wk"
  refine h2 A S i r _ _ D hr ?_
  walk_at "wk"
  exact ⟨encPs r,rfl,by rw [encPs_len]; unfold LIM; exact l10 81438454847775308270097 rfl hrl,.inr ⟨hlt,hC⟩⟩
 ·have e:List.filterMap (fun i=>(S.doms[i]?).map fun p=>AV.lst (encPs p)) [0,1]=encLs S.doms:=by rw [hpq]; rfl
  rw [e]
  exact ⟨h.1,h.2.imp (fun h a ha=>ends_same (h a ha)) fun h=>ends_same h⟩
theorem aeqs_encLs:∀ a b:List Prs,aeqs (encLs a) (encLs b)=some (decide (a=b))
 | [],[]=>rfl
 | [],p::b=>rfl
 | p::a,[]=>rfl
 | p::a,q::b=>by
  show andO (aeqs (encPs p) (encPs q)) (aeqs (encLs a) (encLs b))=_
  rw [aeqs_encLs a b,aeqs_encPs]
  show some (decide (p=q)&&decide (a=b))=_
  congr 1
  by_cases h1:p=q<;>by_cases h2:a=b<;>simp [h1,h2]
theorem deeps_encLs:∀ l:List Prs,deeps (encLs l)≤2
 | []=>by simp [deeps]
 | p::l=>by
  have:=deeps_encLs l
  have h2:deeps (encPs p)≤1:=deeps_encPs p
  simp only [encLs,List.map_cons,deeps,deep] at *
  exact l30 96156582956209837853224026941236670029824376027892227 rfl this h2 (lmxN _ _)
theorem plains_encLs (l:List Prs):plains (encLs l)=true:=by
 induction l with
 | nil=>rfl
 | cons q p ih=>simp only [encLs,List.map_cons,plains,plain,plains_encPs,Bool.true_and] at *; exact ih
theorem data_encLs (l:List Prs):dataOk (.lst (encLs l))=true∧dataOk (.tup (encLs l))=true:=by
 have:=deeps_encLs l
 unfold dataOk
 have e:plain (.lst (encLs l))=true:=plains_encLs l
 have e2:deep (.lst (encLs l))=deeps (encLs l)+1:=rfl
 have e3:plain (.tup (encLs l))=true:=plains_encLs l
 have e4:deep (.tup (encLs l))=deeps (encLs l)+1:=rfl
 rw [e,e2,e3,e4,Bool.true_and,decide_eq_true_eq]
 exact l10 5281911527046886864870066689 rfl this
theorem data_lst (l:Prs):dataOk (.lst (encPs l))=true:=by
 have:=deeps_encPs l
 unfold dataOk
 have e:plain (.lst (encPs l))=true:=plains_encPs l
 have e2:deep (.lst (encPs l))=deeps (encPs l)+1:=rfl
 rw [e,e2,Bool.true_and,decide_eq_true_eq]
 exact l10 300735120038401 rfl this
theorem e_lst (a b:Prs):eqOf H (.lst (encPs a)) (.lst (encPs b)) (decide (a=b)):=⟨data_lst a,data_lst b,aeqs_encPs a b,(fun i e=>by cases e),fun i e=>by cases e⟩
theorem q_neL (a b:Prs) (h:B (!decide (a=b)) H):cmpOp .ne (.lst (encPs a)) (.lst (encPs b)) H B:=⟨_,e_lst a b,h⟩
theorem q_eqL (a b:Prs) (h:B (decide (a=b)) H):cmpOp .eq (.lst (encPs a)) (.lst (encPs b)) H B:=⟨_,e_lst a b,h⟩
theorem q_neT (a b:Prs) (h:B (!decide (a=b)) H):cmpOp .ne (.tup (encPs a)) (.tup (encPs b)) H B:=⟨_,⟨data_encPs a,data_encPs b,aeqs_encPs a b,(fun i e=>by cases e),fun i e=>by cases e⟩,h⟩
theorem q_neOL {L:Addr} (a b:List Prs) (hL:H L=some (.list (encLs a))) (h:B (!decide (a=b)) H):cmpOp .ne (.obj L) (.lst (encLs b)) H B:=by
 have e:seen H (.obj L)=.lst (encLs a):=by simp [seen,hL]
 exact ⟨_,⟨by rw [e]; exact (data_encLs a).1,(data_encLs b).1,by rw [e]; exact aeqs_encLs a b,(fun i e'=>by rw [e] at e'; cases e'),fun i e'=>by rw [e] at e'; cases e'⟩,h⟩
theorem q_eqTL (a b:List Prs) (h:B (decide (a=b)) H):cmpOp .eq (.tup (encLs a)) (.tup (encLs b)) H B:=
 ⟨_,⟨(data_encLs a).2,(data_encLs b).2,aeqs_encLs a b,(fun i e=>by cases e),fun i e=>by cases e⟩,h⟩
theorem holds_comp (hC:CutΓ Γ) (hk:lvl .law_cut < k) {L:Addr} {cur:List Prs} {rs:List Lt} (hr:look ρ .some=some (.loc,.lst (rs.map encL))) (hl:look ρ .lots=some (.cel,.obj L)) (hL:H L=some (.list (encLs cur))) (hh:holdsA cur rs) (h:Q (.lst []) H):
  trE Γ lvl k (.comp (.name .one) (.name .one) (.e (.name .some)) (.cons (.cmp .ne (.call .law_cut (.cons (.sub (.name .lots) (.sub (.name .one) (.int 0))) (.cons (.name .one) .nil))) (.sub (.name .lots) (.sub (.name .one) (.int 0)))) .nil) [(.one,.loc),(.law_cut,.glo),(.lots,.fre)]) ρ H Q:=by
 have hv:itemsOf H (.obj L)=some (encLs cur):=by simp [itemsOf,hL]
 have hk':Nat.blt (lvl .law_cut) k=true:=Nat.ble_eq_true_of_le hk
 refine w_compN encL (l:=rs) (g:=fun l=>none) (by simp [freOk,hl]) (by have:=hh.1; unfold LIM; exact l10 5089903427986221976081 rfl this) (fun P hP=>r_itE (r_nm hr rfl (r_itL hP))) (fun l hl' acc C hlt hC'=>r_asgCN rfl ?_) ?_
 ·obtain ⟨hg,i,p,e,hp,h1,h2,h3⟩:=hh.2 l hl'
  obtain ⟨li,lg,lc⟩:=l
  simp only at e
  subst e
  have nP:∀ {P:P1},P (.lst (encPs p)) H→getIt H (.obj L) (.int i) P:=fun {P}=>r_ix hv (encLs_at hp)
  simp (decide:=true) only [compρ,slotV,hl,encL,lit,put,if_true,if_false]
  refine r_all1 (r_tcmp (r_call rfl (r_es1 ?_)))
  walk_at "wk"
  refine nP ?_
  refine r_es1 (r_nm rfl rfl (r_es0 (r_callF rfl hk' ?_)))
  refine hC _ _ _ _ _ _ hg h1 h2 ?_
  walk_at "wk"
  refine nP ?_
  refine q_neL _ _ ?_
  rw [h3,decide_eq_true rfl]
  walk_at "wk"
  exact hC'
 ·have:rs.filterMap (fun l:Lt=>(none:Option AV))=[]:=by
   clear hh hr
   induction rs with
   | nil=>rfl
   | cons a l ih=>simpa using ih
  rw [this]
  exact ⟨Nat.zero_le _,.inr h⟩
end
end Internal
namespace Internal
open PySem
structure RV where
 y:AV
 old:AV
 literal:AV
 reasons:AV
 speaker:AV
 left:AV
 some:AV
 turned:AV
noncomputable abbrev runρ (ru de x z lots mark due stands:AV) (r:RV):Ev:=
 [(.rule,.loc,ru),(.desk,.loc,de),(.x,.loc,x),(.z,.loc,z),(.lots,.cel,lots),(.mark,.loc,mark),(.due,.loc,due),(.stands,.loc,stands),(.y,.loc,r.y),(.old,.loc,r.old),(.literal,.loc,r.literal),(.reasons,.loc,r.reasons),(.speaker,.loc,r.speaker),(.left,.loc,r.left),(.some,.loc,r.some),(.turned,.loc,r.turned),(.law_lots,.glo,.unb),(.len,.glo,.unb),(.law_due,.glo,.unb),(.law_cut,.glo,.unb),(.list,.glo,.unb),(.tuple,.glo,.unb),(.law_cannot,.glo,.unb)]
noncomputable def hoC:E:=.comp (.name .one) (.name .one) (.e (.name .some)) (.cons (.cmp .ne (.call .law_cut (.cons (.sub (.name .lots) (.sub (.name .one) (.int 0))) (.cons (.name .one) .nil))) (.sub (.name .lots) (.sub (.name .one) (.int 0)))) .nil) [(.one,.loc),(.law_cut,.glo),(.lots,.fre)]
noncomputable def rB1:S:=(.assign (.tup [.left,.some]) (.tup (.cons (.call .law_cut (.cons (.sub (.name .lots) (.name .y)) (.cons (.name .literal) .nil))) (.cons (.call .list (.cons (.name .reasons) .nil)) .nil))))
noncomputable def rB2:S:=(.ite (.or (.cmp .ne (.sub (.name .literal) (.int 0)) (.name .y)) (.or (.cmp .ne (.call .tuple (.cons (.sub (.name .lots) (.name .y)) .nil)) (.name .old)) (.or (.cmp .eq (.name .left) (.list .nil)) (.cmp .eq (.name .left) (.sub (.name .lots) (.name .y)))))) (.cons (.ret .none) .nil) .nil)
noncomputable def rB3:S:=(.ite (.cmp .ne hoC (.list .nil)) (.cons (.ret .none) .nil) .nil)
noncomputable def rB4:S:=(.assign (.name .turned) (.dict (.cons .le (.tup (.cons (.name .y) (.cons (.str .ge) (.cons (.bin .add (.sub (.name .literal) (.int 2)) (.int 1)) .nil)))) (.cons .ge (.tup (.cons (.name .y) (.cons (.str .le) (.cons (.bin .sub (.sub (.name .literal) (.int 2)) (.int 1)) .nil)))) (.cons .ne (.tup (.cons (.name .y) (.cons (.str .eq) (.cons (.sub (.name .literal) (.int 2)) .nil)))) .nil)))))
noncomputable def rB5:S:=(.ite (.or (.cmp .nmem (.sub (.name .literal) (.int 1)) (.name .turned)) (.not (.call .law_cannot (.cons (.bin .add (.name .some) (.list (.cons (.sub (.name .turned) (.sub (.name .literal) (.int 1))) .nil))) (.cons (.name .x) (.cons (.name .z) .nil)))))) (.cons (.ret .none) .nil) .nil)
noncomputable def rB6:S:=(.assign (.sub (.name .lots) (.name .y)) (.name .left))
noncomputable def rB:Ss:=.cons rB1 (.cons rB2 (.cons rB3 (.cons rB4 (.cons rB5 (.cons rB6 .nil)))))
section
variable {Γ:Fn→List AV→AH→P1→Prop} {lv:Fn→Nat} {k:Nat} {H:AH} {Q:P1} {B:PB} {ρ:Ev} {A:DA} {S:DS}
theorem isSg_of {g:Sy} (h:g=.le∨g=.ge∨g=.ne):isSg g=true:=by rcases h with rfl | rfl | rfl<;>rfl
set_option maxHeartbeats 0 in
theorem run_step (hC:CutΓ Γ) (hN:CannotΓ Γ) {ru de mark due stands:AV} {x z:Nat} {L:Addr} {cur:List Prs} {e:En} {rs:List Lt} {r:RV} {C:PS}
  (hL:H L=some (.list (encLs cur))) (h0:cur[e.y]?=some e.old) (h1:e.old.length < 1000) (h2:(comP e.old (cutL e.g e.k)).length < 64) (h3:cutP e.old e.g e.k≠[]) (h4:cutP e.old e.g e.k≠e.old) (h5:e.g=.le∨e.g=.ge∨e.g=.ne)
  (h6:e.rs=.tup (rs.map encL)) (h7:holdsA cur rs) (h8:contra x z (rs++[((e.y:Int),negSg e.g,negK e.g e.k)]))
  (h:∀ d o r',H d=none→C .next (runρ ru de (.int x) (.int z) (.obj L) mark due stands r') (upd (upd H d o) L (.list (encLs (cur.set e.y (cutP e.old e.g e.k)))))):
  asgC (.tup [.y,.old,.literal,.reasons,.speaker]) (encE e) (runρ ru de (.int x) (.int z) (.obj L) mark due stands r) fun ρ2=>trSs Γ lvl (lvl .law_run) rB ρ2 H C:=by
 have c1:lvl .law_cut < lvl .law_run:=by decide
 have hv:itemsOf H (.obj L)=some (encLs cur):=by simp [itemsOf,hL]
 have h0':=encLs_at h0
 have hg:=isSg_of h5
 have hrl:=h7.1
 have rl:(rs.map encL).length≤LIM:=by rw [List.length_map]; unfold LIM; exact l10 5089903427985953540625 rfl hrl
 refine r_asgCT rfl rfl rfl ?_
 rw [h6]
 unfold rB rB1 rB2 rB3 rB4 rB5 rB6 hoC
 walk_at "wk"
 refine r_ix hv h0' ?_
 walk_at "wk"
 refine hC _ _ _ _ _ _ hg h1 h2 ?_
 walk_at "wk"
 refine ⟨_,rfl,rl,.inr ?_⟩
 walk_at "wk"
 refine ⟨fun h=>absurd h (by simp),fun uu=>?_⟩
 walk_at "wk"
 refine r_ix hv h0' ?_
 walk_at "wk"
 refine r_tupL (by rw [encPs_len]; unfold LIM; exact l10 81438454847775308270097 rfl h1) ?_
 walk_at "wk"
 refine q_neT _ _ ?_
 refine ⟨fun h=>absurd h (by simp),fun uu=>?_⟩
 walk_at "wk"
 refine r_lst rfl (q_eqL _ [] ?_)
 rw [decide_eq_false h3]
 walk_at "wk"
 refine r_ix hv h0' ?_
 walk_at "wk"
 refine q_eqL _ _ ?_
 rw [decide_eq_false h4]
 refine r_ff (r_nil (r_kn (r_ss (r_ite (r_tcmp ?_)))))
 refine holds_comp hC c1 rfl rfl hL h7 ?_
 walk_at "wk"
 refine r_lst rfl (q_neL [] [] ?_)
 refine ⟨(fun h=>by cases h),fun uu=>?_⟩
 walk_at "wk"
 refine ⟨by simp,fun d hd=>?_⟩
 walk_at "wk"
 have hd2:upd H d (.sdict [(.le,.tup [.int e.y,.str .ge,.int (e.k+1)]),(.ge,.tup [.int e.y,.str .le,.int (e.k - 1)]),(.ne,.tup [.int e.y,.str .eq,.int e.k])]) d=some (.sdict [(.le,.tup [.int e.y,.str .ge,.int (e.k+1)]),(.ge,.tup [.int e.y,.str .le,.int (e.k - 1)]),(.ne,.tup [.int e.y,.str .eq,.int e.k])]):=upd_at _ _
 have hdL:d≠L:=fun q=>by subst q; rw [hd] at hL; cases hL
 have hL2:∀ o,upd H d o L=some (.list (encLs cur)):=fun o=>by rw [upd_ne _ (Ne.symm hdL)]; exact hL
 have hfin:=h d (.sdict [(.le,.tup [.int e.y,.str .ge,.int (e.k+1)]),(.ge,.tup [.int e.y,.str .le,.int (e.k - 1)]),(.ne,.tup [.int e.y,.str .eq,.int e.k])])
 have hL3:=hL2 (.sdict [(.le,.tup [.int e.y,.str .ge,.int (e.k+1)]),(.ge,.tup [.int e.y,.str .le,.int (e.k - 1)]),(.ne,.tup [.int e.y,.str .eq,.int e.k])])
 generalize upd H d (.sdict [(.le,.tup [.int e.y,.str .ge,.int (e.k+1)]),(.ge,.tup [.int e.y,.str .le,.int (e.k - 1)]),(.ne,.tup [.int e.y,.str .eq,.int e.k])])=G at hd2 hfin hL3 ⊢
 have hlk:lkF [(Sy.le,AV.tup [.int e.y,.str .ge,.int (e.k+1)]),(.ge,.tup [.int e.y,.str .le,.int (e.k - 1)]),(.ne,.tup [.int e.y,.str .eq,.int e.k])] e.g=some (lit e.y (negSg e.g) (negK e.g e.k)):=by
  rcases h5 with h | h | h<;>rw [h]<;>rfl
 refine ⟨true,⟨_,hd2,by rw [hlk]; rfl⟩,?_⟩
 walk_at "wk"
 refine q_sget hd2 hlk ?_
 walk_at "wk"
 refine r_lst rfl ?_
 refine q_catL _ [lit e.y (negSg e.g) (negK e.g e.k)] (by simp; unfold LIM; exact l10 1303015277559586050820625 rfl hrl) ?_
 have eL:List.map encL rs++[lit e.y (negSg e.g) (negK e.g e.k)]=(rs++[((e.y:Int),negSg e.g,negK e.g e.k)]).map encL:=by rw [List.map_append]; rfl
 rw [eL]
 walk_at "wk"
 refine hN _ _ _ _ _ (fun l hl=>?_) (by simp; exact l10 315889309817003330065 rfl hrl) h8 ?_
 ·rcases List.mem_append.mp hl with hl | hl
  ·exact (h7.2 l hl).1
  ·simp at hl; subst hl; rcases h5 with h | h | h<;>rw [h]<;>rfl
 have hyl:e.y < (encLs cur).length:=by
  unfold encLs; rw [List.length_map]
  rcases Nat.lt_or_ge e.y cur.length with h' | h'
  ·exact h'
  ·rw [List.getElem?_eq_none h'] at h0; cases h0
 walk_at "wk"
 refine q_setO hL3 hyl ?_
 walk_at "wk"
 have eS:(encLs cur).set e.y (.lst (encPs (cutP e.old e.g e.k)))=encLs (cur.set e.y (cutP e.old e.g e.k)):=by unfold encLs; rw [List.map_set]
 rw [eS]
 exact hfin ⟨_,_,_,_,_,_,_,_⟩ hd
theorem run_loop (hC:CutΓ Γ) (hN:CannotΓ Γ) {ru de mark due stands:AV} {x z:Nat} {L:Addr} {K:List Prs→Prop} {A0:DA} {H0:AH} (hL0:H0 L=none):
  ∀ (es:List En) (cur:List Prs) (r:RV) (H:AH) (C:PS),Desk H A S→¬ A.own L→H L=some (.list (encLs cur))→Into A0 H0 A H→stepsW x z K es cur→
   (∀ H' cur' r',Desk H' A S→H' L=some (.list (encLs cur'))→Into A0 H0 A H'→K cur'→C .next (runρ ru de (.int x) (.int z) (.obj L) mark due stands r') H')→
   loopF (fun w ρ1 H2 C=>asgC (.tup [.y,.old,.literal,.reasons,.speaker]) w ρ1 fun ρ2=>trSs Γ lvl (lvl .law_run) rB ρ2 H2 C) (es.map encE) (runρ ru de (.int x) (.int z) (.obj L) mark due stands r) H C
 | [],cur,r,H,C,D,hn,hL,I,W,h=>h H cur r D hL I W
 | e::es,cur,r,H,C,D,hn,hL,I,W,h=>by
  refine byc fun hNN=>?_
  obtain ⟨rs,h0,h1,h2,h3,h4,h5,h6,h7,h8,W⟩:=W
  refine hNN ?_
  rw [List.map_cons,loopF]
  refine run_step hC hN hL h0 h1 h2 h3 h4 h5 h6 h7 h8 fun d o r' hd=>?_
  have D1:=(D.beside (o:=o) hd).off (o:=.list (encLs (cur.set e.y (cutP e.old e.g e.k)))) hn
  exact run_loop hC hN hL0 es _ r' _ C D1 hn (upd_at _ _) ((I.trans (Into.new hd)).updNew hL0) W h
end
end Internal
namespace Internal
open PySem
noncomputable def dueT (x z:Nat) (X Z:Prs):Prs×Prs:=if x=z then (cutP Z .ge 0,cutP Z .ge 0) else dueP X Z
noncomputable def runW (x z:Nat) (S:DS) (Post:Bool→DS→Prop):Prop:=
 ∃ X Z,S.doms.length=2∧(∀ p∈S.doms,p.length < 1000)∧S.doms[x]?=some X∧S.doms[z]?=some Z∧DueFew X Z∧S.trail.length < 10000∧
 propW x z S fun b S1=>∃ es:List En,S1.trail=S.trail++es.map encE∧es.length < 10000∧S1.doms.length=2∧(∀ p∈S1.doms,p.length < 1000)∧stepsW x z (fun cur=>cur=S1.doms) es S.doms∧b = !S1.failed∧
  b = !(decide ((dueT x z X Z).1=[]) || decide ((dueT x z X Z).2=[]))∧
  (b=false→∃ rs,S1.clash=rs.map encL∧holdsA S1.doms rs∧contra x z rs∧Post false S1)∧
  (b=true→S1.doms[x]?=some (dueT x z X Z).1∧S1.doms[z]?=some (dueT x z X Z).2∧propW x z S1 fun b2 S2=>b2=true∧S2.trail.length=S1.trail.length∧Post true S2)
section
variable {Γ:Fn→List AV→AH→P1→Prop} {lv:Fn→Nat} {k:Nat} {H:AH} {Q:P1} {B:PB} {ρ:Ev} {A:DA} {S:DS}
noncomputable def PropΓ (Γ:Fn→List AV→AH→P1→Prop):Prop:=∀ (a dx:Addr) (x z:Nat) (A:DA) (S:DS) (Post:Bool→DS→Prop) (H:AH) (Q:P1),Rule H a dx x z→Desk H A S→propW x z S Post→
 (∀ A' H' S' b,Desk H' A' S'→Into A H A' H'→Post b S'→Q (.bool b) H')→Γ .Absolute_propagate [.obj a,.obj A.s] H Q
noncomputable def DueΓ (Γ:Fn→List AV→AH→P1→Prop):Prop:=∀ (v:AV) (ls:List Prs) (x z:Nat) (X Z:Prs) (H:AH) (Q:P1),itemsOf H v=some (encLs ls)→v≠.unb→ls[x]?=some X→ls[z]?=some Z→DueFew X Z→
 Q (.tup (encLs [(dueT x z X Z).1,(dueT x z X Z).2])) H→Γ .law_due [v,.int x,.int z] H Q
theorem q_noNil {X Z:Prs} {P:PB} (h:P (!(decide (X=[]) || decide (Z=[]))) H):cmpOp .nmem (.lst []) (.tup (encLs [X,Z])) H P:=by
 refine ⟨decide (X=[]) || decide (Z=[]),⟨encLs [X,Z],rfl,rfl,(data_encLs [X,Z]).1,(fun i e=>by cases e),(fun i e=>by cases e),[decide (X=[]),decide (Z=[])],?_,?_⟩,h⟩
 ·cases X<;>cases Z<;>rfl
 ·simp
set_option maxHeartbeats 0 in
theorem run_ok (hC:CutΓ Γ) (hN:CannotΓ Γ) (hLo:LotsΓ Γ) (hP:PropΓ Γ) (hD:DueΓ Γ) {a dx:Addr} {x z:Nat} (R:Rule H a dx x z) (D:Desk H A S) {Post:Bool→DS→Prop} (W:runW x z S Post)
  (h:∀ A' H' S' b,Desk H' A' S'→Into A H A' H'→Post b S'→Q (.bool b) H'):meets Γ lvl .law_run [.obj a,.obj A.s,.int x,.int z] H Q:=by
 refine meets_of rfl ?_
 refine byc fun hNN=>?_
 have c5:lvl .law_cut < lvl .law_run:=by decide
 obtain ⟨X,Z,hd,hlen,hx,hz,F,htl,W⟩:=W
 have eb:bodyOf .law_run=(.cons (.assign (.tup [.lots,.mark]) (.tup (.cons (.call .law_lots (.cons (.name .desk) .nil)) (.cons (.call .len (.cons (.attr (.name .desk) .trail) .nil)) .nil)))) (.cons (.assign (.tup [.due,.stands]) (.tup (.cons (.call .law_due (.cons (.name .lots) (.cons (.name .x) (.cons (.name .z) .nil)))) (.cons (.meth (.name .rule) .propagate (.cons (.name .desk) .nil)) .nil)))) (.cons (.forr (.tup [.y,.old,.literal,.reasons,.speaker]) (.e (.slice (.attr (.name .desk) .trail) (.name .mark) .none)) rB) (.cons (.ite (.or (.cmp .ne (.name .lots) (.call .law_lots (.cons (.name .desk) .nil))) (.or (.cmp .eq (.name .stands) (.attr (.name .desk) .is_failed)) (.cmp .ne (.name .stands) (.cmp .nmem (.list .nil) (.name .due))))) (.cons (.ret .none) .nil) .nil) (.cons (.ite (.not (.name .stands)) (.cons (.assign (.name .some) (.call .list (.cons (.attr (.name .desk) .clash) .nil))) (.cons (.ret (.ife (.and (.call .law_cannot (.cons (.name .some) (.cons (.name .x) (.cons (.name .z) .nil)))) (.cmp .eq hoC (.list .nil))) (.bool false) .none)) .nil)) .nil) (.cons (.assign (.name .mark) (.call .len (.cons (.attr (.name .desk) .trail) .nil))) (.cons (.ret (.ife (.and (.cmp .eq (.tup (.cons (.sub (.name .lots) (.name .x)) (.cons (.sub (.name .lots) (.name .z)) .nil))) (.name .due)) (.and (.meth (.name .rule) .propagate (.cons (.name .desk) .nil)) (.cmp .eq (.call .len (.cons (.attr (.name .desk) .trail) .nil)) (.name .mark)))) (.bool true) .none)) .nil))))))):=rfl
 refine hNN ?_
 rw [eb]
 dsimp only [scOf,init2]
 walk_at "wk"
 refine hLo A S _ _ D hd hlen (newL_obj (by simp [hd,LIM]) fun L hL=>?_)
 have hLn:=D.notown hL
 have D1:=D.beside (o:=.list (encLs S.doms)) hL
 have R1:Rule (upd H L (.list (encLs S.doms))) a dx x z:=R.into D (Into.new hL)
 have I1:Into A H A (upd H L (.list (encLs S.doms))):=Into.new hL
 have hL1:upd H L (.list (encLs S.doms)) L=some (.list (encLs S.doms)):=upd_at _ _
 generalize upd H L (.list (encLs S.doms))=H1 at D1 R1 I1 hL1 ⊢
 have trl1:=D1.trl
 walk_at "wk"
 refine D1.trail ?_
 have hv:itemsOf H1 (.obj L)=some (encLs S.doms):=by simp [itemsOf,hL1]
 walk_at "wk"
 refine hD _ _ x z X Z _ _ hv (fun e=>by cases e) hx hz F ?_
 walk_at "wk"
 refine R1.meth ?_
 walk_at "wk"
 refine hP a dx x z A S _ _ _ R1 D1 W fun A2 H2 S2 b D2 I2 W2=>?_
 refine byc fun hNN=>?_
 obtain ⟨es,ht,hel,hd2,hlen2,St,hb1,hb2,Wf,Wt⟩:=W2
 have I02:=I1.trans I2
 obtain ⟨hL2,hLn2⟩:=I2.keep L hLn (by rw [hL1]; simp)
 rw [hL1] at hL2
 refine hNN ?_
 rw [← I2.s]
 walk_at "wk"
 have hdrop:S2.trail.drop S.trail.length=es.map encE:=by rw [ht]; simp
 have htl2:S.trail.length≤S2.trail.length:=by rw [ht]; simp
 have el:(es.map encE).length≤LIM:=by rw [List.length_map]; unfold LIM; exact l10 1303015277564408139106833 rfl hel
 refine r_slice ?_
 walk_at "wk"
 refine D2.trail ?_
 walk_at "wk"
 refine ⟨S2.trail,(fun t e=>by cases e),by simp [itemsOf,D2.trl],.inr ⟨S.trail.length,htl2,rfl,rfl,?_⟩⟩
 rw [hdrop]
 refine ⟨el,.inr ?_⟩
 walk_at "wk"
 refine run_loop (S:=S2) hC hN (L:=L) (K:=fun cur=>cur=S2.doms) (A0:=A) (H0:=H) hL es S.doms ⟨.unb,.unb,.unb,.unb,.unb,.unb,.unb,.unb⟩ H2 _ D2 hLn2 hL2 I02 St fun H3 cur r D3 hL3 I3 hc=>?_
 subst hc
 have trl3:=D3.trl
 walk_at "wk"
 refine hLo A2 S2 _ _ D3 hd2 hlen2 ⟨by simp [hd2,LIM],.inr (q_neOL _ _ hL3 ?_)⟩
 refine ⟨fun h=>absurd h (by simp),fun uu=>?_⟩
 walk_at "wk"
 refine D3.failed ?_
 walk_at "wk"
 refine ⟨fun h=>by rw [hb1] at h; cases S2.failed<;>simp at h,fun uu=>?_⟩
 walk_at "wk"
 refine r_lst rfl ?_
 walk_at "wk"
 refine q_noNil ?_
 rw [← hb2]
 walk_at "wk"
 refine ⟨fun h=>absurd h (by simp),fun uu=>?_⟩
 have R3:=R.into D I3
 cases hbb:b with
 | false=>
  refine byc fun hNN=>?_
  obtain ⟨rs,hcl,hh,hco,hpo⟩:=Wf hbb
  have hrl:=hh.1
  have rl:(rs.map encL).length≤LIM:=by rw [List.length_map]; unfold LIM; exact l10 5089903427985953540625 rfl hrl
  refine hNN ?_
  walk_at "wk"
  refine D3.clash ?_
  walk_at "wk"
  rw [hcl]
  walk_at "wk"
  refine ⟨_,rfl,rl,.inr ?_⟩
  walk_at "wk"
  refine hN rs x z _ _ (fun l hl=>(hh.2 l hl).1) (by exact l10 1233942635560585745 rfl hrl) hco ?_
  refine r_tt (r_tcmp ?_)
  unfold hoC
  refine holds_comp hC c5 rfl rfl hL3 hh ?_
  walk_at "wk"
  refine r_lst rfl (q_eqL [] [] ?_)
  refine ⟨fun uu=>?_,fun h=>by cases h⟩
  walk_at "wk"
  exact ends_same (h A2 H3 S2 false D3 I3 hpo)
 | true=>
  refine byc fun hNN=>?_
  obtain ⟨q1,q2,W4⟩:=Wt hbb
  have hv3:itemsOf H3 (.obj L)=some (encLs S2.doms):=by simp [itemsOf,hL3]
  refine hNN ?_
  walk_at "wk"
  refine D3.trail ?_
  walk_at "wk"
  refine r_ix hv3 (encLs_at q1) ?_
  walk_at "wk"
  refine r_ix hv3 (encLs_at q2) ?_
  walk_at "wk"
  refine q_eqTL [(dueT x z X Z).1,(dueT x z X Z).2] [(dueT x z X Z).1,(dueT x z X Z).2] ?_
  refine ⟨fun uu=>?_,fun h=>absurd h (by simp)⟩
  walk_at "wk"
  refine R3.meth ?_
  walk_at "wk"
  refine hP a dx x z A2 S2 _ _ _ R3 D3 W4 fun A4 H4 S4 b4 D4 I4 ⟨e1,e2,hpo⟩=>?_
  subst e1
  have trl4:=D4.trl
  rw [← I4.s]
  walk_at "wk"
  refine D4.trail ?_
  walk_at "wk"
  refine ⟨fun uu=>?_,fun h=>absurd (of_decide_eq_false h) (by rw [e2]; simp)⟩
  walk_at "wk"
  exact ends_same (h A4 H4 S4 true D4 (I3.trans I4) hpo)
end
end Internal
namespace Internal
noncomputable def mem (l:Prs) (v:Int):Prop:=∃ p∈l,p.1≤v∧v≤p.2
noncomputable def Canon (l:Prs):Prop:=(∀ p∈l,p.1≤p.2)∧l.Pairwise (fun p q=>p.2+1 < q.1)
theorem mem_nil (v:Int):mem [] v↔False:=by simp [mem]
theorem mem_cons (p:Int×Int) (l:Prs) (v:Int):mem (p::l) v↔(p.1≤v∧v≤p.2)∨mem l v:=by
 unfold mem; simp
theorem mem_app (l m:Prs) (v:Int):mem (l++m) v↔mem l v∨mem m v:=by
 unfold mem; constructor
 ·rintro ⟨p,hp,h⟩
  rcases List.mem_append.mp hp with hp | hp
  ·exact .inl ⟨p,hp,h⟩
  ·exact .inr ⟨p,hp,h⟩
 ·rintro (⟨p,hp,h⟩ | ⟨p,hp,h⟩)
  ·exact ⟨p,List.mem_append_left _ hp,h⟩
  ·exact ⟨p,List.mem_append_right _ hp,h⟩
theorem canon_nil:Canon []:=⟨fun p hp=>(by cases hp),List.Pairwise.nil⟩
theorem canon_cons (p:Int×Int) (l:Prs):Canon (p::l)↔p.1≤p.2∧(∀ q∈l,p.2+1 < q.1)∧Canon l:=by
 unfold Canon
 rw [List.pairwise_cons]
 constructor
 ·rintro ⟨h1,h2,h3⟩
  exact ⟨h1 p List.mem_cons_self,h2,fun q hq=>h1 q (List.mem_cons_of_mem _ hq),h3⟩
 ·rintro ⟨h1,h2,h3,h4⟩
  refine ⟨fun q hq=>?_,h2,h4⟩
  rcases List.mem_cons.mp hq with rfl | hq
  ·exact h1
  ·exact h3 q hq
theorem canon_snoc (l:Prs) (p:Int×Int):Canon (l++[p])↔Canon l∧p.1≤p.2∧∀ q∈l,q.2+1 < p.1:=by
 unfold Canon
 rw [List.pairwise_append]
 simp only [List.mem_append,List.mem_singleton,List.pairwise_cons,List.not_mem_nil,false_imp_iff,implies_true,List.Pairwise.nil,true_and,and_true]
 constructor
 ·rintro ⟨h1,h2,h3⟩
  exact ⟨⟨fun q hq=>h1 q (.inl hq),h2⟩,h1 p (.inr rfl),fun q hq=>h3 q hq p rfl⟩
 ·rintro ⟨⟨h1,h2⟩,h3,h4⟩
  exact ⟨fun q hq=>hq.elim (h1 q) fun e=>e▸h3,h2,fun q hq r hr=>hr▸h4 q hq⟩
theorem mem_gt {l:Prs} {k v:Int} (h:∀ q∈l,k < q.1) (hv:mem l v):k < v:=by
 obtain ⟨q,hq,h1,h2⟩:=hv
 have:=h q hq; exact l03 300975382641202 rfl h1 this
theorem canon_ext:∀ {l m:Prs},Canon l→Canon m→(∀ v,mem l v↔mem m v)→l=m
 | [],[],_,_,_=>rfl
 | [],q::m,_,h2,h=>by
  have:=(h q.1).mpr ((mem_cons _ _ _).mpr (.inl ⟨Int.le_refl _,((canon_cons _ _).mp h2).1⟩))
  exact absurd this (by simp [mem])
 | p::l,[],h1,_,h=>by
  have:=(h p.1).mp ((mem_cons _ _ _).mpr (.inl ⟨Int.le_refl _,((canon_cons _ _).mp h1).1⟩))
  exact absurd this (by simp [mem])
 | p::l,q::m,h1,h2,h=>by
  obtain ⟨a1,a2,a3⟩:=(canon_cons _ _).mp h1
  obtain ⟨b1,b2,b3⟩:=(canon_cons _ _).mp h2
  have low:∀ {p:Int×Int} {l:Prs} {v:Int},p.1≤p.2→(∀ q∈l,p.2+1 < q.1)→mem (p::l) v→p.1≤v:=fun {p l v} h1 h2 h=>by
   rcases (mem_cons _ _ _).mp h with h | h
   ·exact h.1
   ·have:=mem_gt h2 h; exact l03 77065029215894066 rfl h1 this
  have e1:p.1=q.1:=by
   have x1:=low b1 b2 ((h p.1).mp ((mem_cons _ _ _).mpr (.inl ⟨Int.le_refl _,a1⟩)))
   have x2:=low a1 a2 ((h q.1).mpr ((mem_cons _ _ _).mpr (.inl ⟨Int.le_refl _,b1⟩)))
   exact l02 1225262409094249010 rfl x1 x2
  have e2:p.2=q.2:=by
   rcases Int.lt_trichotomy p.2 q.2 with lt | eq | gt
   ·have:=(h (p.2+1)).mpr ((mem_cons _ _ _).mpr (.inl ⟨by exact l03 1225360681736714802 rfl a1 e1,by exact l02 1216985938497 rfl lt⟩))
    rcases (mem_cons _ _ _).mp this with h' | h'
    ·exact l03 75577226307855692374897 rfl h'
    ·have:=mem_gt a2 h'; exact l02 4533996621242433 rfl this
   ·exact eq
   ·have:=(h (q.2+1)).mp ((mem_cons _ _ _).mpr (.inl ⟨by exact l03 1157806687294700082 rfl b1 e1,by exact l02 1216985938497 rfl gt⟩))
    rcases (mem_cons _ _ _).mp this with h' | h'
    ·exact l03 75577158753861281817457 rfl h'
    ·have:=mem_gt b2 h'; exact l02 4532965829091393 rfl this
  have e:p=q:=Prod.ext e1 e2
  subst e
  congr 1
  refine canon_ext a3 b3 fun v=>⟨fun hv=>?_,fun hv=>?_⟩
  ·have gt:=mem_gt a2 hv
   rcases (mem_cons _ _ _).mp ((h v).mp ((mem_cons _ _ _).mpr (.inr hv))) with h' | h'
   ·exact False.elim (l03 18562346435130794050 rfl gt h')
   ·exact h'
  ·have gt:=mem_gt b2 hv
   rcases (mem_cons _ _ _).mp ((h v).mpr ((mem_cons _ _ _).mpr (.inr hv))) with h' | h'
   ·exact False.elim (l03 18562346435130794050 rfl gt h')
   ·exact h'
theorem canon_ne_nil {l:Prs} (h:Canon l) (hn:l≠[]):∃ v,mem l v:=by
 cases l with
 | nil=>exact absurd rfl hn
 | cons p l=>exact ⟨p.1,(mem_cons _ _ _).mpr (.inl ⟨Int.le_refl _,((canon_cons _ _).mp h).1⟩)⟩
theorem canon_nil_of {l:Prs} (h:Canon l) (hn:∀ v,¬ mem l v):l=[]:=by
 cases l with
 | nil=>rfl
 | cons p l=>exact absurd ((mem_cons _ _ _).mpr (.inl ⟨Int.le_refl _,((canon_cons _ _).mp h).1⟩)) (hn p.1)
theorem ne_nil_of_mem {l:Prs} {v:Int} (h:mem l v):l≠[]:=by rintro rfl; simp [mem] at h
theorem mem_upTo (l:Prs) (k v:Int):mem (upToP l k) v↔mem l v∧v≤k:=by
 unfold upToP mem
 simp only [List.mem_map,List.mem_filter,decide_eq_true_eq]
 constructor
 ·rintro ⟨_,⟨p,⟨hp,h⟩,rfl⟩,h1,h2⟩
  simp only at h1 h2
  exact ⟨⟨p,hp,by exact l02 4758682161 rfl h1,by exact l04 21356261859899150072194620155766553138 rfl h2 (lmnI _ _)⟩,by exact l04 21351069568011718214821444825829128754 rfl h2 (lmnI _ _)⟩
 ·rintro ⟨⟨p,hp,h1,h2⟩,h3⟩
  exact ⟨_,⟨p,⟨hp,by exact l03 300975114140210 rfl h3 h1⟩,rfl⟩,by simp only; exact l02 4758682161 rfl h1,by simp only; exact l04 23694564453412828218706468658036608495499827 rfl h3 h2 (lmnI _ _)⟩
theorem mem_fromOn (l:Prs) (k v:Int):mem (fromOnP l k) v↔mem l v∧k≤v:=by
 unfold fromOnP mem
 simp only [List.mem_map,List.mem_filter,decide_eq_true_eq]
 constructor
 ·rintro ⟨_,⟨p,⟨hp,h⟩,rfl⟩,h1,h2⟩
  simp only at h1 h2
  exact ⟨⟨p,hp,by exact l04 22597222002446241767531017416436398642 rfl h1 (lmxI _ _),by exact l02 4758682161 rfl h2⟩,by exact l04 22602414294354225363837641442343828018 rfl h1 (lmxI _ _)⟩
 ·rintro ⟨⟨p,hp,h1,h2⟩,h3⟩
  exact ⟨_,⟨p,⟨hp,by exact l03 301035276188210 rfl h3 h2⟩,rfl⟩,by simp only; exact l04 22388199101251801680088729927897409227307571 rfl h3 h1 (lmxI _ _),by simp only; exact l02 4758682161 rfl h2⟩
theorem canon_upTo {l:Prs} (h:Canon l) (k:Int):Canon (upToP l k):=by
 unfold upToP
 constructor
 ·intro q hq
  obtain ⟨p,hp,rfl⟩:=List.mem_map.mp hq
  have h1:=h.1 p (List.mem_filter.mp hp).1
  have h2:=of_decide_eq_true (List.mem_filter.mp hp).2
  simp only; exact l04 23694883468112801858850927953923900369517107 rfl h1 h2 (lmnI _ _)
 ·rw [List.pairwise_map]
  refine (h.2.filter _).imp fun {p q} hpq=>?_
  simp only; exact l04 1399603977248732275117706312428487192191042 rfl hpq (lmnI _ _)
theorem canon_fromOn {l:Prs} (h:Canon l) (k:Int):Canon (fromOnP l k):=by
 unfold fromOnP
 constructor
 ·intro q hq
  obtain ⟨p,hp,rfl⟩:=List.mem_map.mp hq
  have h1:=h.1 p (List.mem_filter.mp hp).1
  have h2:=of_decide_eq_true (List.mem_filter.mp hp).2
  simp only; exact l04 22387880086551828020588175934550051742005811 rfl h1 h2 (lmxI _ _)
 ·rw [List.pairwise_map]
  refine (h.2.filter _).imp fun {p q} hpq=>?_
  simp only; exact l04 1480931541154328444277648369882793522864194 rfl hpq (lmxI _ _)
theorem canon_app {l m:Prs} (h1:Canon l) (h2:Canon m) (h:∀ p∈l,∀ q∈m,p.2+1 < q.1):Canon (l++m):=by
 refine ⟨fun p hp=>?_,List.pairwise_append.mpr ⟨h1.2,h2.2,h⟩⟩
 rcases List.mem_append.mp hp with hp | hp
 ·exact h1.1 p hp
 ·exact h2.1 p hp
theorem mem_without (l:Prs) (k v:Int):mem (withoutP l k) v↔mem l v∧v≠k:=by
 unfold withoutP
 rw [mem_app,mem_upTo,mem_fromOn]
 constructor
 ·rintro (⟨h,h'⟩ | ⟨h,h'⟩)<;>exact ⟨h,by first | exact l02 283374801066545 rfl h' | exact l02 19427591823409 rfl h'⟩
 ·rintro ⟨h,h'⟩
  rcases Int.lt_or_gt_of_ne h' with h' | h'
  ·exact .inl ⟨h,by exact l02 1192686238273 rfl h'⟩
  ·exact .inr ⟨h,by exact l02 1216985938497 rfl h'⟩
theorem canon_without {l:Prs} (h:Canon l) (k:Int):Canon (withoutP l k):=by
 refine canon_app (canon_upTo h _) (canon_fromOn h _) fun p hp q hq=>?_
 unfold upToP at hp
 unfold fromOnP at hq
 obtain ⟨a,ha,rfl⟩:=List.mem_map.mp hp
 obtain ⟨b,hb,rfl⟩:=List.mem_map.mp hq
 simp only; exact l05 2164849998823535503853159102058406998100251498869387804237623335204439556968210291647723394 rfl (lmnI _ _) (lmxI _ _)
theorem without_len {l:Prs} (h:Canon l) (k:Int):(withoutP l k).length≤l.length+1:=by
 have key:∀ (l:Prs),(withoutP l k).length=(l.filter fun p=>decide (p.1≤k - 1)).length+(l.filter fun p=>decide (k+1≤p.2)).length:=fun l=>by
  unfold withoutP upToP fromOnP; simp
 have all0:∀ (l:Prs),(∀ p∈l,k < p.1)→(l.filter fun p=>decide (p.1≤k - 1)).length=0:=fun l hl=>by
  rw [List.length_eq_zero_iff,List.filter_eq_nil_iff]
  intro p hp; have:=hl p hp; simp; exact l02 1216987052609 rfl this
 rw [key]
 induction l with
 | nil=>simp
 | cons p l ih=>
  obtain ⟨h1,h2,h3⟩:=(canon_cons _ _).mp h
  have ih:=ih h3
  rw [List.filter_cons,List.filter_cons]
  by_cases c1:p.1≤k - 1<;>by_cases c2:k+1≤p.2<;>simp only [c1,c2,decide_true,decide_false,if_true,if_false,Bool.false_eq_true,List.length_cons]
  ·have:=all0 l (fun q hq=>by have:=h2 q hq; exact l03 19728665071454625842 rfl c2 this)
   have:=List.length_filter_le (fun p:Int×Int=>decide (k+1≤p.2)) l
   exact l30 5262859036118313391923161634 rfl ‹_› this
  ·exact l30 1309792667332567192281089 rfl ih
  ·exact l30 1309792641834892544155649 rfl ih
  ·exact l30 5116377611579742199809 rfl ih
theorem meet_spec:∀ (d e:Prs),Canon d→Canon e→Canon (meetP d e)∧(∀ v,mem (meetP d e) v↔mem d v∧mem e v)∧(∀ r∈meetP d e,mem d r.1∧mem e r.1):=by
 intro d
 induction d with
 | nil=>intro e _ _; rw [meetP_nil]; exact ⟨canon_nil,fun v=>by simp [mem],fun r hr=>by cases hr⟩
 | cons p d ihd=>
 intro e
 induction e with
 | nil=>intro _ _; rw [meetP_no]; exact ⟨canon_nil,fun v=>by simp [mem],fun r hr=>by cases hr⟩
 | cons q e ihe=>
  intro h1 h2
  obtain ⟨a1,a2,a3⟩:=(canon_cons _ _).mp h1
  obtain ⟨b1,b2,b3⟩:=(canon_cons _ _).mp h2
  rw [meetP_cons]
  have hm:∀ r∈(if max p.1 q.1≤min p.2 q.2 then [(max p.1 q.1,min p.2 q.2)] else ([]:Prs)),r=(max p.1 q.1,min p.2 q.2)∧max p.1 q.1≤min p.2 q.2:=fun r hr=>by
   split at hr
   ·exact ⟨List.mem_singleton.mp hr,by assumption⟩
   ·cases hr
  have cm:Canon (if max p.1 q.1≤min p.2 q.2 then [(max p.1 q.1,min p.2 q.2)] else ([]:Prs)):=by
   split
   ·exact (canon_cons _ _).mpr ⟨by assumption,(fun q hq=>by cases hq),canon_nil⟩
   ·exact canon_nil
  have mm:∀ v,mem (if max p.1 q.1≤min p.2 q.2 then [(max p.1 q.1,min p.2 q.2)] else ([]:Prs)) v↔(p.1≤v∧v≤p.2)∧(q.1≤v∧v≤q.2):=fun v=>by
   by_cases hc:max p.1 q.1≤min p.2 q.2
   ·rw [if_pos hc,mem_cons]; simp only [mem_nil,or_false]; exact ⟨l07 1813725972699636122824822231497488601053347066607447629280602830076276083192861796587527484598039389324135158908353817997712937506406930933212702120986997458257059315923441049632382294964424920134479312454621351602466552183804623065949025220483 rfl (lmxI _ _) (lmnI _ _),l07 67273929584086829595072389999255240070399204113523220881018612193982774174311437028699575179109720709262076336934391787570395702693482637024422892245017736830835362060761184131 rfl (lmxI _ _) (lmnI _ _)⟩
   ·rw [if_neg hc,mem_nil]; exact ⟨fun h=>h.elim,fun ⟨⟨_,_⟩,⟨_,_⟩⟩=>hc (by exact l07 2616541831698286600908883354145741371774781562967039118961772292266179089266332923379316364904293771702655231080307 rfl ‹_› (lmxI _ _) (lmnI _ _))⟩
  by_cases c:p.2 < q.2
  ·simp only [c,if_true]
   obtain ⟨i1,i2,i3⟩:=ihd (q::e) a3 h2
   refine ⟨canon_app cm i1 fun r hr r' hr'=>?_,fun v=>?_,fun r hr=>?_⟩
   ·obtain ⟨rfl,hle⟩:=hm r hr
    have:=mem_gt a2 (i3 r' hr').1
    simp only; exact l04 1399603977248732275117706312428487192191042 rfl this (lmnI _ _)
   ·rw [mem_app,mm,i2,mem_cons,mem_cons]
    constructor
    ·rintro (⟨h,h'⟩ | ⟨h,h'⟩)
     ·exact ⟨.inl h,.inl h'⟩
     ·exact ⟨.inr h,h'⟩
    ·rintro ⟨h | h,h'⟩
     ·rcases h' with h' | h'
      ·exact .inl ⟨h,h'⟩
      ·have:=mem_gt b2 h'; exact False.elim (l04 1284960249831786009836099 rfl c h this)
     ·exact .inr ⟨h,h'⟩
   ·rcases List.mem_append.mp hr with hr | hr
    ·obtain ⟨rfl,hle⟩:=hm r hr
     exact ⟨(mem_cons _ _ _).mpr (.inl ⟨by simp only; exact l03 21550389166948335245210804696961 rfl (lmxI _ _),by simp only; exact l04 21356261859899150072194620155766553138 rfl hle (lmnI _ _)⟩),(mem_cons _ _ _).mpr (.inl ⟨by simp only; exact l03 21555340851842760945575430600577 rfl (lmxI _ _),by simp only; exact l04 21351069568011718214821444825829128754 rfl hle (lmnI _ _)⟩)⟩
    ·obtain ⟨j1,j2⟩:=i3 r hr
     exact ⟨(mem_cons _ _ _).mpr (.inr j1),j2⟩
  ·simp only [c,if_false]
   obtain ⟨i1,i2,i3⟩:=ihe h1 b3
   refine ⟨canon_app cm i1 fun r hr r' hr'=>?_,fun v=>?_,fun r hr=>?_⟩
   ·obtain ⟨rfl,hle⟩:=hm r hr
    have:=mem_gt b2 (i3 r' hr').2
    simp only; exact l04 1399263695206329887895371436702302052130882 rfl this (lmnI _ _)
   ·rw [mem_app,mm,i2,mem_cons,mem_cons]
    constructor
    ·rintro (⟨h,h'⟩ | ⟨h,h'⟩)
     ·exact ⟨.inl h,.inl h'⟩
     ·exact ⟨h,.inr h'⟩
    ·rintro ⟨h,h' | h'⟩
     ·rcases h with h | h
      ·exact .inl ⟨h,h'⟩
      ·have:=mem_gt a2 h; exact False.elim (l04 20559363925268574305494115 rfl c h' this)
     ·exact .inr ⟨h,h'⟩
   ·rcases List.mem_append.mp hr with hr | hr
    ·obtain ⟨rfl,hle⟩:=hm r hr
     exact ⟨(mem_cons _ _ _).mpr (.inl ⟨by simp only; exact l03 21550389166948335245210804696961 rfl (lmxI _ _),by simp only; exact l04 21356261859899150072194620155766553138 rfl hle (lmnI _ _)⟩),(mem_cons _ _ _).mpr (.inl ⟨by simp only; exact l03 21555340851842760945575430600577 rfl (lmxI _ _),by simp only; exact l04 21351069568011718214821444825829128754 rfl hle (lmnI _ _)⟩)⟩
    ·obtain ⟨j1,j2⟩:=i3 r hr
     exact ⟨j1,(mem_cons _ _ _).mpr (.inr j2)⟩
end Internal
namespace Internal
theorem in_insP (a p:Int×Int):∀ l:Prs,p∈insP a l↔p=a∨p∈l
 | []=>by simp [insP]
 | b::l=>by
  unfold insP; split
  ·simp
  ·simp only [List.mem_cons,in_insP a p l]; constructor
   ·rintro (h | h | h)<;>simp [h]
   ·rintro (h | h | h)<;>simp [h]
theorem in_sortP (p:Int×Int):∀ l:Prs,p∈sortP l↔p∈l
 | []=>by simp [sortP]
 | a::l=>by unfold sortP; rw [in_insP,in_sortP p l,List.mem_cons]
theorem mem_sort (l:Prs) (v:Int):mem (sortP l) v↔mem l v:=by
 unfold mem; simp only [in_sortP]
noncomputable def Val (l:Prs):Prop:=∀ p∈l,p.1≤p.2
noncomputable def Sorted (l:Prs):Prop:=l.Pairwise (fun p q=>p.1≤q.1)
theorem pairLe_fst {a b:Int×Int} (h:pairLe a b=true):a.1≤b.1:=by
 unfold pairLe at h; simp only [Bool.or_eq_true,Bool.and_eq_true,decide_eq_true_eq] at h; exact l04 1209241405941491202499713 rfl h
theorem pairLe_not {a b:Int×Int} (h:¬ pairLe a b=true):b.1≤a.1:=by
 unfold pairLe at h; simp only [Bool.or_eq_true,Bool.and_eq_true,decide_eq_true_eq] at h; exact l04 79557066220997125655618013281 rfl h
theorem sorted_ins (a:Int×Int):∀ l:Prs,Sorted l→Sorted (insP a l)
 | [],_=>by simp [insP,Sorted]
 | b::l,h=>by
  obtain ⟨h1,h2⟩:=List.pairwise_cons.mp h
  unfold insP; set_option tactic.hygienic true in split
  ·rename_i hle
   have:=pairLe_fst hle
   refine List.pairwise_cons.mpr ⟨fun q hq=>?_,h⟩
   rcases List.mem_cons.mp hq with rfl | hq
   ·exact this
   ·have:=h1 q hq; exact l03 301035276188210 rfl ‹_› this
  ·rename_i hle
   have:=pairLe_not hle
   refine List.pairwise_cons.mpr ⟨fun q hq=>?_,sorted_ins a l h2⟩
   rcases (in_insP a q l).mp hq with rfl | hq
   ·exact this
   ·exact h1 q hq
theorem sorted_sort:∀ l:Prs,Sorted (sortP l)
 | []=>.nil
 | a::l=>sorted_ins a _ (sorted_sort l)
theorem val_sort {l:Prs} (h:Val l):Val (sortP l):=fun p hp=>h p ((in_sortP p l).mp hp)
theorem sort_id:∀ {l:Prs},Canon l→sortP l=l
 | [],_=>rfl
 | [a],_=>rfl
 | a::b::l,h=>by
  obtain ⟨h1,h2,h3⟩:=(canon_cons _ _).mp h
  unfold sortP
  rw [sort_id h3]
  unfold insP
  have:=h2 b List.mem_cons_self
  have e:pairLe a b=true:=by unfold pairLe; simp only [Bool.or_eq_true,decide_eq_true_eq]; left; exact l03 77065097935370802 rfl h1 this
  rw [if_pos e]
theorem mrg_snoc (g:Prs) (q p:Int×Int):mrg (g++[q]) p=if p.1≤q.2+1 then g++[(q.1,max p.2 q.2)] else g++[q]++[p]:=by
 unfold mrg; simp
theorem mrg_fold:∀ (r g:Prs) (q:Int×Int),Canon (g++[q])→(∀ p∈r,q.1≤p.1)→Sorted r→Val r→Canon (r.foldl mrg (g++[q]))∧(∀ v,mem (r.foldl mrg (g++[q])) v↔mem (g++[q]) v∨mem r v)∧(r.foldl mrg (g++[q])).length≤g.length+1+r.length
 | [],g,q,h,_,_,_=>⟨h,fun v=>by simp [mem_nil],by simp⟩
 | p::r,g,q,h,h1,h2,h3=>by
  obtain ⟨s1,s2⟩:=List.pairwise_cons.mp h2
  have hp:=h3 p List.mem_cons_self
  have hq:=h1 p List.mem_cons_self
  obtain ⟨c1,c2,c3⟩:=(canon_snoc _ _).mp h
  rw [List.foldl_cons,mrg_snoc]
  set_option tactic.hygienic true in split
  ·rename_i hle
   obtain ⟨i1,i2,i3⟩:=mrg_fold r g (q.1,max p.2 q.2) ((canon_snoc _ _).mpr ⟨c1,by simp only; exact l04 22602414294389285097906034143965788722 rfl c2 (lmxI _ _),c3⟩) (fun x hx=>by have:=s1 x hx; simp only; exact l03 301035276188210 rfl hq this) s2 (fun x hx=>h3 x (List.mem_cons_of_mem _ hx))
   refine ⟨i1,fun v=>?_,by simp only [List.length_cons]; exact l30 5123608781386220046849 rfl i3⟩
   rw [i2,mem_app,mem_app,mem_cons,mem_cons,mem_cons]
   simp only [mem_nil,or_false]
   constructor
   ·rintro ((h | h) | h)
    ·exact .inl (.inl h)
    ·by_cases hv:v≤q.2
     ·exact .inl (.inr ⟨h.1,hv⟩)
     ·exact .inr (.inl ⟨by exact l03 1233040426753788466 rfl hle hv,by exact l05 6009700441782918680902642523642393957393905684816755 rfl h hv (lmxI _ _)⟩)
    ·exact .inr (.inr h)
   ·rintro ((h | h) | h | h)
    ·exact .inl (.inl h)
    ·exact .inl (.inr ⟨h.1,by exact l05 379205247776042173340057928600028484791411570 rfl h (lmxI _ _)⟩)
    ·exact .inl (.inr ⟨by exact l04 296429810134430497330 rfl hq h,by exact l05 379118135495302709642390288163653722453025650 rfl h (lmxI _ _)⟩)
    ·exact .inr h
  ·rename_i hle
   obtain ⟨i1,i2,i3⟩:=mrg_fold r (g++[q]) p ((canon_snoc _ _).mpr ⟨h,hp,fun x hx=>by
    rcases List.mem_append.mp hx with hx | hx
    ·have:=c3 x hx; exact l04 5282731054374651436719323699 rfl c2 hle this
    ·rw [List.mem_singleton] at hx; subst hx; exact l02 4967251106112353 rfl hle⟩) s1 s2 (fun x hx=>h3 x (List.mem_cons_of_mem _ hx))
   refine ⟨i1,fun v=>?_,by simp only [List.length_cons,List.length_append] at i3 ⊢; simp only [List.length_nil] at i3; exact l30 335780825096926930459953665 rfl i3⟩
   rw [i2,mem_app,mem_cons]
   simp only [mem_nil,or_false,or_assoc]
   rw [mem_cons]
theorem merge_spec {l:Prs} (h:Val l):Canon (mergeP l)∧(∀ v,mem (mergeP l) v↔mem l v)∧(mergeP l).length≤l.length:=by
 have hs:=sorted_sort l
 have hv:=val_sort h
 have hm:=mem_sort l
 have hl:=sortP_len l
 unfold mergeP
 generalize sortP l=s at *
 cases s with
 | nil=>exact ⟨canon_nil,fun v=>by rw [← hm]; rfl,by simp⟩
 | cons p r=>
  refine byc fun hNN=>?_
  obtain ⟨s1,s2⟩:=List.pairwise_cons.mp hs
  have:=mrg_fold r [] p ((canon_snoc _ _).mpr ⟨canon_nil,hv p List.mem_cons_self,fun q hq=>by cases hq⟩) s1 s2 fun x hx=>hv x (List.mem_cons_of_mem _ hx)
  obtain ⟨i1,i2,i3⟩:=this
  refine hNN ?_
  rw [List.foldl_cons]
  refine ⟨i1,fun v=>?_,by simp only [List.length_cons,List.length_nil] at *; show (List.foldl mrg (mrg [] p) r).length≤_; have:mrg [] p=[]++[p]:=rfl; rw [this]; exact l30 80312226689847808860194 rfl hl i3⟩
  show mem (List.foldl mrg ([]++[p]) r) v↔_
  rw [i2,← hm,mem_cons,mem_app,mem_cons]
  simp [mem_nil]
theorem putB_mrg (f:Prs) (p:Int×Int):putB f p.1 p.2=mrg f p:=by
 rcases List.eq_nil_or_concat f with rfl | ⟨g,q,rfl⟩
 ·rfl
 ·rw [List.concat_eq_append,mrg_snoc]
  unfold putB
  simp only [List.getLast?_append,List.getLast?_singleton,Option.some_or,List.dropLast_concat]
  split
  ·split
   ·congr 2; simp; exact l03 24845550222482839588666949622264460341366985636418 rfl ‹_› (lmxI _ _)
   ·congr 1
    have:max p.2 q.2=q.2:=by exact l03 375612008984935146709945908445191754146343815980130 rfl ‹_› (lmxI _ _)
    rw [this]
  ·simp
theorem join_eq (d e:Prs):joinP d e=mergeP (d++e):=by
 unfold joinP mergeP
 congr 1
 funext f p
 exact putB_mrg f p
theorem mem_neg (d:Prs) (v:Int):mem (negP d) v↔mem d (-v):=by
 unfold negP mem
 simp only [List.mem_map,List.mem_reverse]
 constructor
 ·rintro ⟨_,⟨p,hp,rfl⟩,h1,h2⟩
  exact ⟨p,hp,by simp only at h2; exact l02 1212174514737 rfl h2,by simp only at h1; exact l02 1214187807537 rfl h1⟩
 ·rintro ⟨p,hp,h1,h2⟩
  exact ⟨_,⟨p,hp,rfl⟩,by simp only; exact l02 1214187807537 rfl h2,by simp only; exact l02 1212174514737 rfl h1⟩
theorem val_neg {d:Prs} (h:Val d):Val (negP d):=fun q hq=>by
 unfold negP at hq
 obtain ⟨p,hp,rfl⟩:=List.mem_map.mp hq
 have:=h p (List.mem_reverse.mp hp)
 simp only; exact l02 1212174023217 rfl this
theorem mem_mir (d:Prs) (v:Int):mem (mirP d) v↔mem d (-v):=by
 unfold mirP mem
 simp only [List.mem_map]
 constructor
 ·rintro ⟨_,⟨p,hp,rfl⟩,h1,h2⟩
  exact ⟨p,hp,by simp only at h2; exact l02 19394792397361 rfl h2,by simp only at h1; exact l02 19427004932401 rfl h1⟩
 ·rintro ⟨p,hp,h1,h2⟩
  exact ⟨_,⟨p,hp,rfl⟩,by simp only; exact l02 19427768378161 rfl h2,by simp only; exact l02 19405119109681 rfl h1⟩
theorem mir_neg (d:Prs):(mirP d).reverse=negP d:=by
 unfold mirP negP
 rw [← List.map_reverse]
 congr 1; funext p; simp
theorem val_app {d e:Prs} (h1:Val d) (h2:Val e):Val (d++e):=fun p hp=>(List.mem_append.mp hp).elim (h1 p) (h2 p)
theorem canon_neg {d:Prs} (h:Canon d):Canon (negP d):=by
 refine ⟨val_neg h.1,?_⟩
 unfold negP
 rw [List.pairwise_map,List.pairwise_reverse]
 refine h.2.imp fun {p q} hpq=>?_
 simp only; exact l02 79434986426835009 rfl hpq
theorem join_spec {d e:Prs} (h1:Val d) (h2:Val e):Canon (joinP d e)∧(∀ v,mem (joinP d e) v↔mem d v∨mem e v)∧(joinP d e).length≤d.length+e.length:=by
 rw [join_eq]
 refine byc fun hNN=>?_
 obtain ⟨i1,i2,i3⟩:=merge_spec (val_app h1 h2)
 refine hNN ?_
 exact ⟨i1,fun v=>by rw [i2,mem_app],by rw [List.length_append] at i3; exact i3⟩
noncomputable def gapsP (hi:Int):Prs→Int→Prs
 | [],b=>if b≤hi then [(b,hi)] else []
 | q::e,b=>if b≤q.2∧q.1≤hi then (if b < q.1 then [(b,q.1 - 1)] else [])++gapsP hi e (q.2+1) else gapsP hi e b
noncomputable def endP (hi:Int) (st:Prs×Int):Prs:=if st.2≤hi then st.1++[(st.2,hi)] else st.1
theorem minusF_gaps (hi:Int):∀ (e f:Prs) (b:Int),endP hi (e.foldl (minusT hi) (f,b))=f++gapsP hi e b
 | [],f,b=>by
  rw [List.foldl_nil]
  show (if b≤hi then f++[(b,hi)] else f)=f++(if b≤hi then [(b,hi)] else [])
  by_cases h:b≤hi
  ·rw [if_pos h,if_pos h]
  ·rw [if_neg h,if_neg h,List.append_nil]
 | q::e,f,b=>by
  rw [List.foldl_cons]
  have hT:minusT hi (f,b) q=if b≤q.2∧q.1≤hi then ((if b < q.1 then f++[(b,q.1 - 1)] else f),q.2+1) else (f,b):=rfl
  rw [hT]
  unfold gapsP
  by_cases c:b≤q.2∧q.1≤hi
  ·rw [if_pos c,if_pos c,minusF_gaps hi e]
   by_cases h:b < q.1
   ·rw [if_pos h,if_pos h,List.append_assoc]
   ·rw [if_neg h,if_neg h,List.nil_append]
  ·rw [if_neg c,if_neg c,minusF_gaps hi e]
theorem minus_eq (d e:Prs):minusP d e=d.flatMap fun p=>gapsP p.2 e p.1:=by
 unfold minusP
 suffices ∀ f,d.foldl (minusF e) f=f++d.flatMap fun p=>gapsP p.2 e p.1 by rw [this]; rfl
 induction d with
 | nil=>intro f; simp
 | cons p d ih=>
  intro f
  rw [List.foldl_cons,ih]
  have:minusF e f p=f++gapsP p.2 e p.1:=minusF_gaps p.2 e f p.1
  rw [this]; simp
theorem gaps_spec (hi:Int):∀ (e:Prs) (b:Int),Canon e→Canon (gapsP hi e b)∧(∀ v,mem (gapsP hi e b) v↔(b≤v∧v≤hi)∧¬ mem e v)∧(∀ r∈gapsP hi e b,b≤r.1∧r.2≤hi)∧(gapsP hi e b).length≤e.length+1
 | [],b,_=>by
  unfold gapsP
  split
  ·exact ⟨(canon_cons _ _).mpr ⟨by assumption,(fun q hq=>by cases hq),canon_nil⟩,fun v=>by rw [mem_cons]; simp [mem_nil],fun r hr=>by rw [List.mem_singleton] at hr; subst hr; simp,by simp⟩
  ·exact ⟨canon_nil,fun v=>(by simp only [mem_nil,not_false_eq_true,and_true,false_iff]; exact l03 1232794196296573793 rfl ‹_›),fun r hr=>(by cases hr),by simp⟩
 | q::e,b,h=>by
  obtain ⟨h1,h2,h3⟩:=(canon_cons _ _).mp h
  unfold gapsP
  set_option tactic.hygienic true in split
  ·rename_i c
   obtain ⟨i1,i2,i3,i4⟩:=gaps_spec hi e (q.2+1) h3
   refine ⟨canon_app ?_ i1 fun p hp r hr=>?_,fun v=>?_,fun r hr=>?_,?_⟩
   ·split
    ·exact (canon_cons _ _).mpr ⟨by simp only; exact l02 1192686238273 rfl ‹_›,(fun q hq=>by cases hq),canon_nil⟩
    ·exact canon_nil
   ·have:=(i3 r hr).1
    split at hp
    ·rw [List.mem_singleton] at hp; subst hp; simp only; exact l03 5050181828816213883442 rfl h1 this
    ·cases hp
   ·rw [mem_app,i2,mem_cons]
    have:mem (if b < q.1 then [(b,q.1 - 1)] else []) v↔b≤v∧v≤q.1 - 1:=by
     split
     ·rw [mem_cons]; simp [mem_nil]
     ·simp only [mem_nil,false_iff]; exact l03 315157895072017261665 rfl ‹_›
    rw [this]
    constructor
    ·rintro (⟨g1,g2⟩ | ⟨⟨g1,g2⟩,g3⟩)
     ·refine ⟨⟨g1,by exact l05 80591390031197903758194 rfl c g2⟩,?_⟩
      rintro (g | g)
      ·exact l03 1269069150775089714 rfl g2 g
      ·have:=mem_gt h2 g; exact l03 315451733487535766067 rfl h1 g2 this
     ·refine ⟨⟨by exact l05 80315555981383247307634 rfl c g1,g2⟩,?_⟩
      rintro (g | g)
      ·exact l03 18562346435130794034 rfl g1 g
      ·exact g3 g
    ·rintro ⟨⟨g1,g2⟩,g3⟩
     by_cases hv:v≤q.1 - 1
     ·exact .inl ⟨g1,hv⟩
     ·refine .inr ⟨⟨?_,g2⟩,fun g=>g3 (.inr g)⟩
      by_cases hv2:v≤q.2
      ·exact absurd (.inl ⟨by exact l02 19427037913953 rfl hv,hv2⟩) g3
      ·exact l02 19403323974497 rfl hv2
   ·rcases List.mem_append.mp hr with hr | hr
    ·split at hr
     ·rw [List.mem_singleton] at hr; subst hr; simp only; exact l04 328903627241411841009361777 rfl c
     ·cases hr
    ·have:=i3 r hr; exact l06 5784805450383541062531062039552353608562 rfl c this
   ·rw [List.length_append]
    have:(if b < q.1 then [(b,q.1 - 1)] else ([]:Prs)).length≤1:=by split<;>simp
    simp only [List.length_cons]; exact l30 1290786708232109832210946 rfl i4 this
  ·rename_i c
   obtain ⟨i1,i2,i3,i4⟩:=gaps_spec hi e b h3
   refine ⟨i1,fun v=>?_,i3,by simp only [List.length_cons]; exact l20 78068626797300225 rfl i4⟩
   rw [i2,mem_cons]
   constructor
   ·rintro ⟨g1,g2⟩
    refine ⟨g1,?_⟩
    rintro (g | g)
    ·exact l05 361638285295216690434450582774918821731 rfl c g1 g
    ·exact g2 g
   ·rintro ⟨g1,g2⟩
    exact ⟨g1,fun g=>g2 (.inr g)⟩
theorem minus_spec:∀ {d e:Prs},Canon d→Canon e→Canon (minusP d e)∧(∀ v,mem (minusP d e) v↔mem d v∧¬ mem e v)∧(minusP d e).length≤d.length * (e.length+1):=fun {d e} hd he=>by
 rw [minus_eq]
 induction d with
 | nil=>exact ⟨canon_nil,fun v=>by simp [mem_nil],by simp⟩
 | cons p d ih=>
  refine byc fun hNN=>?_
  obtain ⟨h1,h2,h3⟩:=(canon_cons _ _).mp hd
  obtain ⟨i1,i2,i3⟩:=ih h3
  obtain ⟨j1,j2,j3,j4⟩:=gaps_spec p.2 e p.1 he
  refine hNN ?_
  rw [List.flatMap_cons]
  refine ⟨canon_app j1 i1 fun r hr q hq=>?_,fun v=>?_,?_⟩
  ·have:=j3 r hr
   refine byc fun hNN=>?_
   obtain ⟨p',hp',hq'⟩:=List.mem_flatMap.mp hq
   have:=(gaps_spec p'.2 e p'.1 he).2.2.1 q hq'
   have:=h2 p' hp'
   refine hNN ?_
   exact l08 361638595426742983210513223463055631219 rfl ‹_› ‹_› this
  ·rw [mem_app,i2,j2,mem_cons]
   constructor
   ·rintro (⟨g1,g2⟩ | ⟨g1,g2⟩)
    ·exact ⟨.inl g1,g2⟩
    ·exact ⟨.inr g1,g2⟩
   ·rintro ⟨g1 | g1,g2⟩
    ·exact .inl ⟨g1,g2⟩
    ·exact .inr ⟨g1,g2⟩
  ·rw [List.length_append,List.length_cons,Nat.add_mul,Nat.one_mul]; exact l40 1290922392681683525614082 rfl i3 j4
end Internal
namespace Internal
noncomputable def Sep (l:Prs):Prop:=l.Pairwise (fun p q=>p.2+1 < q.1)
theorem in_comP (l m:Prs) (r:Int×Int):r∈comP l m↔∃ p∈l,∃ q∈m,max p.1 q.1≤min p.2 q.2∧r=(max p.1 q.1,min p.2 q.2):=by
 unfold comP
 simp only [List.mem_flatMap,List.mem_filterMap]
 constructor
 ·rintro ⟨p,hp,q,hq,h⟩
  by_cases c:max p.1 q.1≤min p.2 q.2
  ·rw [decide_eq_true c,if_pos rfl] at h
   exact ⟨p,hp,q,hq,c,(Option.some.inj h).symm⟩
  ·rw [decide_eq_false c] at h; cases h
 ·rintro ⟨p,hp,q,hq,c,rfl⟩
  exact ⟨p,hp,q,hq,by rw [decide_eq_true c]; rfl⟩
theorem mem_com (l m:Prs) (v:Int):mem (comP l m) v↔mem l v∧mem m v:=by
 unfold mem
 simp only [in_comP]
 constructor
 ·rintro ⟨r,⟨p,hp,q,hq,c,rfl⟩,h1,h2⟩
  simp only at h1 h2
  exact ⟨⟨p,hp,by exact l04 22597222002446241767531017416436398642 rfl h1 (lmxI _ _),by exact l04 21356261859899150072194620155766553138 rfl h2 (lmnI _ _)⟩,⟨q,hq,by exact l04 22602414294354225363837641442343828018 rfl h1 (lmxI _ _),by exact l04 21351069568011718214821444825829128754 rfl h2 (lmnI _ _)⟩⟩
 ·rintro ⟨⟨p,hp,h1,h2⟩,⟨q,hq,h3,h4⟩⟩
  exact ⟨_,⟨p,hp,q,hq,by exact l07 638804158129464502175020350133237639593452530021249784902776438541547629215413311371903409400462346607175907894 rfl h1 h2 h3 h4 (lmxI _ _) (lmnI _ _),rfl⟩,by simp only; exact l04 22387880086551828020588175934550051742005811 rfl h1 h3 (lmxI _ _),by simp only; exact l04 23694883468112801858850927953923900369517107 rfl h2 h4 (lmnI _ _)⟩
theorem val_com (l m:Prs):Val (comP l m):=fun r hr=>by
 obtain ⟨p,hp,q,hq,c,rfl⟩:=(in_comP _ _ _).mp hr
 exact c
theorem com_one (p:Int×Int):∀ {m:Prs},Sep m→Sep (m.filterMap fun q=>if decide (max p.1 q.1≤min p.2 q.2) then some (max p.1 q.1,min p.2 q.2) else none)
 | [],_=>.nil
 | q::m,h=>by
  obtain ⟨h1,h2⟩:=List.pairwise_cons.mp h
  rw [List.filterMap_cons]
  by_cases c:max p.1 q.1≤min p.2 q.2
  ·rw [decide_eq_true c]
   refine List.pairwise_cons.mpr ⟨fun r hr=>?_,com_one p h2⟩
   obtain ⟨q',hq',e⟩:=List.mem_filterMap.mp hr
   have:=h1 q' hq'
   by_cases c':max p.1 q'.1≤min p.2 q'.2
   ·rw [decide_eq_true c',if_pos rfl] at e
    cases e; simp only; exact l06 528527831751262564903822392487165622280738813985689013458039984189504185384437359681603 rfl this (lmnI _ _) (lmxI _ _)
   ·rw [decide_eq_false c'] at e; cases e
  ·rw [decide_eq_false c]
   exact com_one p h2
theorem canon_com {l m:Prs} (hl:Canon l) (hm:Sep m):Canon (comP l m):=by
 refine ⟨val_com l m,?_⟩
 unfold comP
 obtain ⟨hl1,hl2⟩:=hl
 induction l with
 | nil=>exact .nil
 | cons p l ih=>
  obtain ⟨h1,h2⟩:=List.pairwise_cons.mp hl2
  rw [List.flatMap_cons,List.pairwise_append]
  refine ⟨com_one p hm,ih (fun q hq=>hl1 q (List.mem_cons_of_mem _ hq)) h2,fun r hr r' hr'=>?_⟩
  obtain ⟨q,hq,e⟩:=List.mem_filterMap.mp hr
  have hr2:r'∈comP l m:=hr'
  obtain ⟨p',hp',q',hq',c',rfl⟩:=(in_comP _ _ _).mp hr2
  have:=h1 p' hp'
  by_cases c:max p.1 q.1≤min p.2 q.2
  ·rw [decide_eq_true c,if_pos rfl] at e
   cases e; simp only; exact l06 528406444588301578044612171866832637806183370099751157578105288625388239839213577936963 rfl this (lmnI _ _) (lmxI _ _)
  ·rw [decide_eq_false c] at e; cases e
theorem common_eq {l m:Prs} (hl:Canon l) (hm:Sep m):commonP l m=comP l m:=sort_id (canon_com hl hm)
theorem sep_cutL (g:Sy) (k:Int):Sep (cutL g k):=by
 unfold cutL Sep
 split
 ·refine List.pairwise_cons.mpr ⟨fun q hq=>?_,List.pairwise_cons.mpr ⟨fun q hq=>(by cases hq),List.Pairwise.nil⟩⟩
  rw [List.mem_singleton] at hq; subst hq; simp only; exact l01 1486148472896 rfl
 ·exact List.pairwise_cons.mpr ⟨fun q hq=>(by cases hq),List.Pairwise.nil⟩
noncomputable def Bdd (l:Prs):Prop:=∀ v,mem l v → -far≤v∧v≤far
theorem mem_cutL {g:Sy} (hg:isSg g=true) {k v:Int} (h : -far≤v∧v≤far):mem (cutL g k) v↔saysB g k v=true:=by
 obtain ⟨h1,h2⟩:=h
 cases g<;>simp only [isSg,Bool.false_eq_true] at hg<;>unfold cutL saysB<;>simp only [reduceCtorEq,if_true,if_false,mem_cons,mem_nil,or_false,decide_eq_true_eq,Bool.not_eq_true',decide_eq_false_iff_not]
 ·constructor
  ·exact fun h=>h.2
  ·exact fun h=>⟨by exact l02 19492192887601 rfl h1,h⟩
 ·constructor
  ·exact fun h=>h.1
  ·exact fun h=>⟨h,h2⟩
 ·constructor
  ·rintro (h | h)<;>first | exact l03 75867663630803407344497 rfl h | exact l03 18567029319639106417 rfl h
  ·intro h
   rcases Int.lt_or_gt_of_ne h with h | h
   ·exact .inl ⟨by exact l02 19492192887601 rfl h1,by exact l02 1192686238273 rfl h⟩
   ·exact .inr ⟨by exact l02 1216985938497 rfl h,by exact l02 4758682161 rfl h2⟩
 ·exact ⟨l02 19604198545507984241 rfl,l02 18523599539931691601 rfl⟩
theorem cut_spec {l:Prs} (h:Canon l) (hb:Bdd l) {g:Sy} (hg:isSg g=true) (k:Int):Canon (cutP l g k)∧(∀ v,mem (cutP l g k) v↔mem l v∧saysB g k v=true):=by
 unfold cutP
 rw [common_eq h (sep_cutL g k)]
 refine ⟨canon_com h (sep_cutL g k),fun v=>?_⟩
 rw [mem_com]
 constructor
 ·rintro ⟨h1,h2⟩; exact ⟨h1,(mem_cutL hg (hb v h1)).mp h2⟩
 ·rintro ⟨h1,h2⟩; exact ⟨h1,(mem_cutL hg (hb v h1)).mpr h2⟩
theorem canon_one (k:Int):Canon [(k,k)]:=(canon_cons _ _).mpr ⟨Int.le_refl _,fun q hq=>(by cases hq),canon_nil⟩
theorem struck_spec {l:Prs} (h:Canon l) {g:Sy} (hg:isSg g=true) (k:Int):Canon (struckP g k l)∧(∀ v,mem (struckP g k l) v↔mem l v∧saysB g k v=true):=by
 cases g<;>simp only [isSg,Bool.false_eq_true] at hg<;>unfold struckP saysB<;>simp only [decide_eq_true_eq,Bool.not_eq_true',decide_eq_false_iff_not]
 ·exact ⟨canon_upTo h k,fun v=>mem_upTo l k v⟩
 ·exact ⟨canon_fromOn h k,fun v=>mem_fromOn l k v⟩
 ·exact ⟨canon_without h k,fun v=>mem_without l k v⟩
 ·obtain ⟨a,b,_⟩:=meet_spec l [(k,k)] h (canon_one k)
  refine ⟨a,fun v=>?_⟩
  rw [b,mem_cons]; simp only [mem_nil,or_false]
  constructor
  ·rintro ⟨h1,h2⟩; exact ⟨h1,by exact l02 19604198545507984241 rfl h2⟩
  ·rintro ⟨h1,h2⟩; exact ⟨h1,by exact l02 18523599539931691601 rfl h2⟩
theorem cut_eq {l:Prs} (h:Canon l) (hb:Bdd l) {g:Sy} (hg:isSg g=true) (k:Int):cutP l g k=struckP g k l:=by
 obtain ⟨a,b⟩:=cut_spec h hb hg k
 obtain ⟨c,d⟩:=struck_spec h hg k
 exact canon_ext a c fun v=>(b v).trans (d v).symm
theorem struck_same {l:Prs} (h:Canon l) {g:Sy} (hg:isSg g=true) {k:Int} (hs:∀ v,mem l v→saysB g k v=true):struckP g k l=l:=by
 obtain ⟨c,d⟩:=struck_spec h hg k
 exact canon_ext c h fun v=>(d v).trans ⟨fun h=>h.1,fun h=>⟨h,hs v h⟩⟩
theorem nodup_sub {α:Type} [DecidableEq α]:∀ {l m:List α},l.Nodup→(∀ x∈l,x∈m)→l.length≤m.length
 | [],m,_,_=>Nat.zero_le _
 | x::l,m,h,hs=>by
  obtain ⟨h1,h2⟩:=List.nodup_cons.mp h
  have hx:=hs x List.mem_cons_self
  have:=nodup_sub (m:=m.erase x) h2 fun y hy=>by
   have hne:y≠x:=fun e=>h1 (e▸hy)
   exact (List.mem_erase_of_ne hne).mpr (hs y (List.mem_cons_of_mem _ hy))
  rw [List.length_erase_of_mem hx] at this
  have:0 < m.length:=List.length_pos_of_mem hx
  rw [List.length_cons]; lia
theorem nodup_fst {l:Prs} (h:Canon l):(l.map (·.1)).Nodup:=by
 refine List.pairwise_map.mpr (List.Pairwise.imp_of_mem (fun {p q} hp hq hpq=>?_) h.2)
 have:=h.1 p hp; exact l03 18526618554459332674 rfl hpq this
theorem nodup_snd {l:Prs} (h:Canon l):(l.map (·.2)).Nodup:=by
 refine List.pairwise_map.mpr (List.Pairwise.imp_of_mem (fun {p q} hp hq hpq=>?_) h.2)
 have:=h.1 q hq; exact l03 18526864853385453634 rfl hpq this
theorem com_fst {l m:Prs} (hl:Canon l) (hm:Sep m) {L:List Int} (h:∀ p∈l,∀ q∈m,max p.1 q.1≤min p.2 q.2→max p.1 q.1∈L):(comP l m).length≤L.length:=by
 rw [← List.length_map (f:=fun p:Int×Int=>p.1)]
 refine nodup_sub (nodup_fst (canon_com hl hm)) fun x hx=>?_
 obtain ⟨r,hr,rfl⟩:=List.mem_map.mp hx
 obtain ⟨p,hp,q,hq,c,rfl⟩:=(in_comP _ _ _).mp hr
 exact h p hp q hq c
theorem com_snd {l m:Prs} (hl:Canon l) (hm:Sep m) {L:List Int} (h:∀ p∈l,∀ q∈m,max p.1 q.1≤min p.2 q.2→min p.2 q.2∈L):(comP l m).length≤L.length:=by
 rw [← List.length_map (f:=fun p:Int×Int=>p.2)]
 refine nodup_sub (nodup_snd (canon_com hl hm)) fun x hx=>?_
 obtain ⟨r,hr,rfl⟩:=List.mem_map.mp hx
 obtain ⟨p,hp,q,hq,c,rfl⟩:=(in_comP _ _ _).mp hr
 exact h p hp q hq c
theorem com_len {l m:Prs} (hl:Canon l) (hm:Sep m):(comP l m).length≤l.length+m.length:=by
 have:=com_fst hl hm (L:=l.map (·.1)++m.map (·.1)) fun p hp q hq c=>by
  rw [List.mem_append]
  by_cases h:q.1≤p.1
  ·rw [Int.max_eq_left h]; exact .inl (List.mem_map.mpr ⟨p,hp,rfl⟩)
  ·rw [Int.max_eq_right (by exact l02 75887256417 rfl h)]; exact .inr (List.mem_map.mpr ⟨q,hq,rfl⟩)
 simpa using this
theorem com_cut_len {l:Prs} (hl:Canon l) (g:Sy) (k:Int):(comP l (cutL g k)).length≤l.length+2:=by
 have:=com_len hl (sep_cutL g k)
 have:=cutL_len g k
 exact l30 5038604921183687870978 rfl ‹_› this
noncomputable def fmP (p:Int×Int) (m:Prs):Prs:=m.filterMap fun q=>if decide (max p.1 q.1≤min p.2 q.2) then some (max p.1 q.1,min p.2 q.2) else none
theorem com_cons (p:Int×Int) (l m:Prs):comP (p::l) m=fmP p m++comP l m:=rfl
theorem com_app (l m n:Prs):(comP l (m++n)).length=(comP l m).length+(comP l n).length:=by
 induction l with
 | nil=>rfl
 | cons p l ih=>
  have e:(fmP p (m++n)).length=(fmP p m).length+(fmP p n).length:=by unfold fmP; rw [List.filterMap_append,List.length_append]
  rw [com_cons,com_cons,com_cons,List.length_append,List.length_append,List.length_append,ih,e]
  exact l40 329378816028017557536 rfl
theorem com_rev (l m:Prs):(comP l m.reverse).length=(comP l m).length:=by
 induction l with
 | nil=>rfl
 | cons p l ih=>
  have e:(fmP p m.reverse).length=(fmP p m).length:=by unfold fmP; rw [List.filterMap_reverse,List.length_reverse]
  rw [com_cons,com_cons,List.length_append,List.length_append,ih,e]
theorem com_mir (l m:Prs):(comP l (mirP m)).length=(comP l (negP m)).length:=by rw [← mir_neg,com_rev]
theorem halves {X:Prs} (h:Canon X):(X.filter fun p=>decide (0≤p.1)).length+(X.filter fun p=>decide (p.2≤0)).length≤X.length+1:=by
 induction X with
 | nil=>simp
 | cons p l ih=>
  obtain ⟨h1,h2,h3⟩:=(canon_cons _ _).mp h
  have ih:=ih h3
  rw [List.filter_cons,List.filter_cons]
  by_cases c1:0≤p.1<;>by_cases c2:p.2≤0<;>simp only [c1,c2,decide_true,decide_false,if_true,if_false,Bool.false_eq_true,List.length_cons]
  ·have e:(l.filter fun p=>decide (p.2≤0))=[]:=by
    rw [List.filter_eq_nil_iff]
    intro q hq
    have:=h2 q hq
    have:=h3.1 q hq
    simp; exact l04 330120982191774044839459380 rfl h1 c1 ‹_› this
   rw [e]
   have:=List.length_filter_le (fun p:Int×Int=>decide (0≤p.1)) l
   simp; exact l20 4758485505 rfl this
  ·exact l30 1309792667332567192281089 rfl ih
  ·exact l30 1309792641834892544155649 rfl ih
  ·exact l30 5116377611579742199809 rfl ih
theorem due_lens {X Z:Prs} (hX:Canon X) (hZ:Canon Z) (h0:∀ v,mem Z v→0≤v):(comP X (Z++mirP Z)).length≤X.length+1+2 * Z.length∧(comP Z (X++mirP X)).length≤X.length+1+2 * Z.length:=by
 have hv:=hX.1
 have hw:=hZ.1
 have hz:∀ q∈Z,0≤q.1:=fun q hq=>h0 q.1 ⟨q,hq,Int.le_refl _,hw q hq⟩
 have hh:=halves hX
 have nX:=canon_neg hX
 have nZ:=canon_neg hZ
 have inN:∀ {d:Prs} {q:Int×Int},q∈negP d↔(-q.2,-q.1)∈d:=fun {d q}=>by
  unfold negP
  simp only [List.mem_map,List.mem_reverse]
  constructor
  ·rintro ⟨p,hp,rfl⟩; simpa using hp
  ·intro h; exact ⟨_,h,by simp⟩
 constructor
 ·rw [com_app,com_mir]
  have a:=com_fst hX hZ.2 (L:=(X.filter fun p=>decide (0≤p.1)).map (·.1)++Z.map (·.1)) fun p hp q hq c=>by
   rw [List.mem_append]
   have:=hz q hq
   by_cases h:q.1≤p.1
   ·rw [Int.max_eq_left h]; exact .inl (List.mem_map.mpr ⟨p,List.mem_filter.mpr ⟨hp,by simp; exact l02 300949359011378 rfl this h⟩,rfl⟩)
   ·rw [Int.max_eq_right (by exact l02 75887256417 rfl h)]; exact .inr (List.mem_map.mpr ⟨q,hq,rfl⟩)
  have b:=com_snd hX nZ.2 (L:=(X.filter fun p=>decide (p.2≤0)).map (·.2)++(negP Z).map (·.2)) fun p hp q hq c=>by
   rw [List.mem_append]
   have:=hz _ (inN.mp hq)
   simp only at this
   by_cases h:p.2≤q.2
   ·rw [Int.min_eq_left h]; exact .inl (List.mem_map.mpr ⟨p,List.mem_filter.mpr ⟨hp,by simp; exact l02 4810035531757106 rfl this h⟩,rfl⟩)
   ·rw [Int.min_eq_right (by exact l02 75887256417 rfl h)]; exact .inr (List.mem_map.mpr ⟨q,hq,rfl⟩)
  have l:(negP Z).length=Z.length:=by unfold negP; simp
  simp only [List.length_append,List.length_map,l] at a b
  exact l60 363035708646261416169141055038943895555 rfl hh a b
 ·rw [com_app,com_mir]
  have a:=com_fst hZ hX.2 (L:=(X.filter fun p=>decide (0≤p.1)).map (·.1)++Z.map (·.1)) fun p hp q hq c=>by
   rw [List.mem_append]
   have:=hz p hp
   by_cases h:q.1≤p.1
   ·rw [Int.max_eq_left h]; exact .inr (List.mem_map.mpr ⟨p,hp,rfl⟩)
   ·rw [Int.max_eq_right (by exact l02 75887256417 rfl h)]; exact .inl (List.mem_map.mpr ⟨q,List.mem_filter.mpr ⟨hq,by simp; exact l02 4815189492278834 rfl this h⟩,rfl⟩)
  have b:=com_fst hZ nX.2 (L:=(X.filter fun p=>decide (p.2≤0)).map (fun p => -p.2)++Z.map (·.1)) fun p hp q hq c=>by
   rw [List.mem_append]
   have:=hz p hp
   have hq':=inN.mp hq
   by_cases h:q.1≤p.1
   ·rw [Int.max_eq_left h]; exact .inr (List.mem_map.mpr ⟨p,hp,rfl⟩)
   ·rw [Int.max_eq_right (by exact l02 75887256417 rfl h)]; exact .inl (List.mem_map.mpr ⟨_,List.mem_filter.mpr ⟨hq',by simp; exact l02 4815189492278834 rfl this h⟩,by simp⟩)
  simp only [List.length_append,List.length_map] at a b
  exact l60 363035708646261416169141055038943895555 rfl hh a b
theorem in_upto (lo hi v:Int):v∈upto lo hi↔lo≤v∧v < hi:=by
 unfold upto
 rw [List.mem_map]
 constructor
 ·rintro ⟨n,hn,rfl⟩
  rw [List.mem_range] at hn; exact l22 27071840983350205236916928091698219276629053038409145897670571244050 rfl hn (ltoN _)
 ·rintro ⟨h1,h2⟩
  exact ⟨(v - lo).toNat,by rw [List.mem_range]; exact l23 35836499132806909012907392606038868864029402629739008984369814847961068644425458302838345347758017526324 rfl h1 h2 (ltoN _) (ltoN _),by exact l12 25811859180706932922914035203123290973518708887084467282819634 rfl h1 (ltoN _)⟩
theorem in_vals (l:Prs) (v:Int):v∈valsP l↔mem l v:=by
 unfold valsP mem
 simp only [List.mem_flatMap,in_upto]
 constructor
 ·rintro ⟨p,hp,h1,h2⟩; exact ⟨p,hp,h1,by exact l02 1218216397377 rfl h2⟩
 ·rintro ⟨p,hp,h1,h2⟩; exact ⟨p,hp,h1,by exact l02 1192669526577 rfl h2⟩
theorem nodup_upto (lo hi:Int):(upto lo hi).Nodup:=by
 unfold upto
 refine List.pairwise_map.mpr (List.nodup_range.imp fun {a b} h e=>h (by exact l21 4742041481176301412433 rfl e))
theorem nodup_vals:∀ {l:Prs},Canon l→(valsP l).Nodup
 | [],_=>.nil
 | p::l,h=>by
  obtain ⟨h1,h2,h3⟩:=(canon_cons _ _).mp h
  unfold valsP
  rw [List.flatMap_cons]
  refine List.nodup_append.mpr ⟨nodup_upto _ _,nodup_vals h3,fun a ha b hb e=>?_⟩
  subst e
  have:=mem_gt h2 ((in_vals l a).mp hb)
  have:=(in_upto _ _ _).mp ha
  exact l03 4751595043171761233986 rfl ‹_› this
theorem size_vals:∀ {l:Prs},Val l→sizeP l=((valsP l).length:Int)
 | [],_=>rfl
 | p::l,h=>by
  have ih:=size_vals (l:=l) fun q hq=>h q (List.mem_cons_of_mem _ hq)
  have hp:=h p List.mem_cons_self
  unfold sizeP valsP at *
  rw [List.map_cons,List.sum_cons,ih,List.flatMap_cons,List.length_append]
  have:(upto p.1 (p.2+1)).length=(p.2+1 - p.1).toNat:=by unfold upto; simp
  rw [this]
  exact l22 30036428858070278175373109089309325582825726206181489106164755455760972338 rfl hp (ltoN _)
theorem vals_few {l:Prs} (h:Canon l) {L:List Int} (hs:∀ v,mem l v→v∈L):(valsP l).length≤L.length∧sizeP l≤L.length:=by
 have a:=nodup_sub (nodup_vals h) (m:=L) fun v hv=>hs v ((in_vals l v).mp hv)
 exact ⟨a,by rw [size_vals h.1]; exact l20 1217530149377 rfl a⟩
end Internal
namespace Internal
theorem says_neg {g:Sy} (hg:isSg g=true) (c v:Int):saysB (negSg g) (negK g c) v = !saysB g c v:=by
 cases g<;>simp only [isSg,Bool.false_eq_true] at hg<;>unfold saysB negSg negK<;>simp only
 ·by_cases h:v≤c
  ·rw [decide_eq_true h,decide_eq_false (by exact l02 19403323652657 rfl h)]; rfl
  ·rw [decide_eq_false h,decide_eq_true (by exact l02 19403323974497 rfl h)]; rfl
 ·by_cases h:c≤v
  ·rw [decide_eq_true h,decide_eq_false (by exact l02 19078701300273 rfl h)]; rfl
  ·rw [decide_eq_false h,decide_eq_true (by exact l02 19078701622113 rfl h)]; rfl
 ·simp
theorem isSg_neg (g:Sy):isSg (negSg g)=true:=by cases g<;>rfl
structure Fine (p:Prs):Prop where
 c:Canon p
 b:Bdd p
 l:p.length < 60
theorem holds_one {D:List Prs} {y:Nat} {p:Prs} {g:Sy} {c:Int} (hp:D[y]?=some p) (f:Fine p) (hg:isSg g=true) (h:∀ v,mem p v→saysB g c v=true):
  isSg (((y:Int),g,c):Lt).2.1=true∧∃ (i:Nat) (q:Prs),(((y:Int),g,c):Lt).1=i∧D[i]?=some q∧q.length < 1000∧(comP q (cutL g c)).length < 64∧cutP q g c=q:=by
 have:=com_cut_len f.c g c
 have hl:=f.l
 exact ⟨hg,y,p,rfl,hp,by exact l10 77121414728796689 rfl hl,by exact l20 1289658328737728300780034 rfl this hl,by rw [cut_eq f.c f.b hg]; exact struck_same f.c hg h⟩
theorem steps_app {x z:Nat} {K:List Prs→Prop} (e:En):∀ (es:List En) (D:List Prs),stepsW x z (fun cur=>stepsW x z K [e] cur) es D→stepsW x z K (es++[e]) D
 | [],D,h=>h
 | a::es,D,⟨rs,h0,h1,h2,h3,h4,h5,h6,h7,h8,h⟩=>⟨rs,h0,h1,h2,h3,h4,h5,h6,h7,h8,steps_app e es _ h⟩
structure Trk (x z n:Nat) (S0 S:DS):Prop where
 es:∃ es:List En,es.length≤n∧S.trail=S0.trail++es.map encE∧∀ K:List Prs→Prop,K S.doms→stepsW x z K es S0.doms
 firsts:S.firsts=S0.firsts
 marks:S.marks=S0.marks
theorem Trk.refl (x z:Nat) (S:DS):Trk x z 0 S S:=⟨⟨[],by simp,by simp,fun K h=>h⟩,rfl,rfl⟩
theorem Trk.mono {x z n m:Nat} {S0 S:DS} (T:Trk x z n S0 S) (h:n≤m):Trk x z m S0 S:=by
 refine byc fun hNN=>?_
 obtain ⟨⟨es,h1,h2,h3⟩,h4,h5⟩:=T
 refine hNN ?_
 exact ⟨⟨es,by exact l30 300974308637186 rfl h h1,h2,h3⟩,h4,h5⟩
structure FailI (x z:Nat) (S:DS):Prop where
 f:S.failed=true
 c:∃ rs:List Lt,S.clash=rs.map encL∧holdsA S.doms rs∧contra x z rs
theorem set_self {D:List Prs} {y:Nat} {p:Prs} (h:D[y]?=some p):D.set y p=D:=by
 apply List.ext_getElem?
 intro i
 rw [List.getElem?_set]
 split
 ·subst_vars
  set_option tactic.hygienic true in split
  ·exact h.symm
  ·rename_i hh
   rw [List.getElem?_eq_none (by exact l20 75884110177 rfl hh)] at h; cases h
 ·rfl
theorem stW_run {x z n:Nat} {S0 S:DS} (T:Trk x z n S0 S) {y:Nat} {p:Prs} {g:Sy} {c:Int} {rs:List Lt} {F K:DS→Prop} (hy:y < 2) (hp:S.doms[y]?=some p) (f:Fine p) (hg:g=.le∨g=.ge∨g=.ne)
  (hr:holdsA S.doms rs) (hr2:rs.length < 10) (hc:contra x z (rs++[((y:Int),negSg g,negK g c)])) (ht:S0.trail.length+n < 10000)
  (hK:struckP g c p≠[]→∀ S',Trk x z (n+1) S0 S'→S'.failed=S.failed→S'.clash=S.clash→S'.doms=S.doms.set y (struckP g c p)→K S')
  (hF:struckP g c p=[]→∀ S',Trk x z n S0 S'→FailI x z S'→F S'):stW S y g c rs F K:=by
 have hl:=f.l
 have hg':=isSg_of hg
 obtain ⟨sc,sm⟩:=struck_spec f.c hg' c
 obtain ⟨⟨es,e1,e2,e3⟩,hfs,hmk⟩:=T
 refine ⟨p,hp,hy,hg',by exact l10 77098599862520337 rfl hl,by exact l10 4816705446103569 rfl hr2,by rw [e2]; simp; exact l30 21642841051910787175667412475922 rfl ht e1,?_⟩
 unfold enterS
 by_cases h1:struckP g c p=[]
 ·rw [if_pos h1]
  refine ⟨fun h=>by simp at h,fun uu=>hF h1 _ ⟨⟨es,e1,e2,e3⟩,hfs,hmk⟩ ⟨rfl,rs++[((y:Int),negSg g,negK g c)],?_,⟨by simp; exact l10 1233076288837274129 rfl hr2,fun l hl=>?_⟩,hc⟩⟩
  ·simp [rsOf]
  ·rcases List.mem_append.mp hl with hl | hl
   ·exact hr.2 l hl
   ·rw [List.mem_singleton] at hl; subst hl
    refine holds_one hp f (isSg_neg g) fun v hv=>?_
    rw [says_neg hg']
    cases q:saysB g c v with
    | false=>rfl
    | true=>exact absurd ((sm v).mpr ⟨hv,q⟩) (by rw [h1]; simp [mem])
 ·rw [if_neg h1]
  by_cases h2:struckP g c p=p
  ·rw [if_pos h2]
   exact ⟨fun uu=>hK h1 S ⟨⟨es,by exact l20 1192669264385 rfl e1,e2,e3⟩,hfs,hmk⟩ rfl rfl (by rw [h2,set_self hp]),fun h=>by simp at h⟩
  ·rw [if_neg h2]
   refine ⟨fun uu=>hK h1 _ ⟨⟨es++[⟨y,p,g,c,.tup (rs.map encL)⟩],by simp; exact l20 4758485505 rfl e1,by simp [e2],fun K hK=>steps_app _ _ _ (e3 _ ?_)⟩,hfs,hmk⟩ rfl rfl rfl,fun h=>by simp at h⟩
   have cl:=com_cut_len f.c g c
   have ce:=cut_eq f.c f.b hg' c
   refine ⟨rs,hp,by show p.length < 1000; exact l10 77121414728796689 rfl hl,by show (comP p (cutL g c)).length < 64; exact l20 1289658333144938631154194 rfl hl cl,by rw [ce]; exact h1,by rw [ce]; exact h2,hg,rfl,hr,hc,?_⟩
   show K _
   rw [ce]
   exact hK
theorem fine_struck {p:Prs} (f:Fine p) {g:Sy} (hg:isSg g=true) (c:Int) (hl:(struckP g c p).length < 60):Fine (struckP g c p):=by
 obtain ⟨sc,sm⟩:=struck_spec f.c hg c
 exact ⟨sc,fun v hv=>f.b v ((sm v).mp hv).1,hl⟩
theorem get_set_eq {D:List Prs} {y:Nat} {p q:Prs} (h:D[y]?=some p):(D.set y q)[y]?=some q:=by
 have:y < D.length:=by
  rcases Nat.lt_or_ge y D.length with h' | h'
  ·exact h'
  ·rw [List.getElem?_eq_none h'] at h; cases h
 rw [List.getElem?_set]; simp [this]
theorem get_set_ne {D:List Prs} {y w:Nat} {p q:Prs} (hne:y≠w) (h:D[w]?=some p):(D.set y q)[w]?=some p:=by
 rw [List.getElem?_set]; simp [hne,h]
theorem loop_run {x z:Nat} {S0:DS} {y:Nat} {rs:Int→List Lt} {F K:DS→Prop} (hy:y < 2) (hrs:∀ v,(rs v).length < 10):
  ∀ (vs:List Int) (n:Nat) (S:DS) (p:Prs),Trk x z n S0 S→S.doms[y]?=some p→Canon p→Bdd p→p.length+vs.length < 60→p≠[]→
   (∀ v∈vs,∀ q,holdsA (S.doms.set y q) (rs v))→(∀ v∈vs,contra x z (rs v++[((y:Int),.eq,v)]))→S0.trail.length+n+vs.length < 10000→
   (∀ S' p',Trk x z (n+vs.length) S0 S'→S'.failed=S.failed→S'.clash=S.clash→S'.doms=S.doms.set y p'→Canon p'→(∀ u,mem p' u↔mem p u∧u∉vs)→p'.length≤p.length+vs.length→p'≠[]→K S')→
   (∀ S',Trk x z (n+vs.length) S0 S'→FailI x z S'→(∀ u,mem p u→u∈vs)→F S')→
   loopS (fun v=>(((y,.ne,v):Nat×Sy×Int),rs v)) F K vs S
 | [],n,S,p,T,hp,hc,hb,hl,hn,hh,hcon,ht,hK,hF=>hK S p T rfl rfl (set_self hp).symm hc (fun u=>by simp) (by simp) hn
 | v::vs,n,S,p,T,hp,hc,hb,hl,hn,hh,hcon,ht,hK,hF=>by
  simp only [List.length_cons] at hl ht
  obtain ⟨sc,sm⟩:=struck_spec hc (g:=.ne) rfl v
  have sl:(struckP .ne v p).length≤p.length+1:=without_len hc v
  have hsv:∀ u,saysB .ne v u=true↔u≠v:=fun u=>by unfold saysB; simp
  refine stW_run T hy hp ⟨hc,hb,by exact l20 20159415387134402577 rfl hl⟩ (.inr (.inr rfl)) (by have:=hh v List.mem_cons_self p; rw [set_self hp] at this; exact this) (hrs v) (hcon v List.mem_cons_self) (by exact l30 21766903167422852037275415085073 rfl ht) (fun h1 S' T' f1 f2 hd=>?_) fun h1 S' T' hf=>?_
  ·refine loop_run hy hrs vs (n+1) S' _ T' (by rw [hd]; exact get_set_eq hp) sc (fun u hu=>hb u ((sm u).mp hu).1) (by exact l30 84639672203678952266201604114 rfl hl sl) h1 (fun w hw q=>by rw [hd,List.set_set]; exact hh w (List.mem_cons_of_mem _ hw) q) (fun w hw=>hcon w (List.mem_cons_of_mem _ hw)) (by exact l30 1426515766206251901687897973109424145 rfl ht)
    (fun S'' p'' T'' g1 g2 g3 g4 g5 g6 g7=>hK S'' p'' (T''.mono (by simp only [List.length_cons]; exact l20 381573674958848 rfl)) (g1.trans f1) (g2.trans f2) (by rw [g3,hd,List.set_set]) g4 (fun u=>?_) (by simp only [List.length_cons]; exact l40 1290922393048486342494722 rfl sl g6) g7)
    fun S'' T'' hf hall=>hF S'' (T''.mono (by simp only [List.length_cons]; exact l20 381573674958848 rfl)) hf fun u hu=>?_
   ·rw [g5,sm,hsv,List.mem_cons]
    constructor
    ·rintro ⟨⟨a,b⟩,c⟩; exact ⟨a,fun h=>h.elim b c⟩
    ·rintro ⟨a,b⟩; exact ⟨⟨a,fun h=>b (.inl h)⟩,fun h=>b (.inr h)⟩
   ·by_cases e:u=v
    ·exact List.mem_cons.mpr (.inl e)
    ·exact List.mem_cons_of_mem _ (hall u ((sm u).mpr ⟨hu,(hsv u).mpr e⟩))
  ·refine hF S' (T'.mono (by exact l20 28969472 rfl)) hf fun u hu=>?_
   by_cases e:u=v
   ·exact List.mem_cons.mpr (.inl e)
   ·exact absurd ((sm u).mpr ⟨hu,(hsv u).mpr e⟩) (by rw [h1]; simp [mem])
end Internal
namespace Internal
noncomputable def restW (x z:Nat) (S1:DS) (Post:Bool→DS→Prop):Prop:=
 ∃ m p,S1.doms[z]?=some (m++[p])∧
  stW S1 x .le p.2 [((z:Int),.le,p.2)] (Post false) fun S2=>stW S2 x .ge (-p.2) [((z:Int),.le,p.2)] (Post false) fun S3=>
  ∃ X3 Z3,S3.doms[x]?=some X3∧S3.doms[z]?=some Z3∧valsW X3 Z3∧
  loopS (fun v=>(((x,.ne,v):Nat×Sy×Int),[((z:Int),Sy.ne,(v.natAbs:Int))])) (Post false) (fun S4=>∃ p l m q,S4.doms[x]?=some (p::l)∧S4.doms[x]?=some (m++[q])∧
   stW S4 z .le (max (p.1.natAbs:Int) (q.2.natAbs:Int)) [((x:Int),.ge,-(max (p.1.natAbs:Int) (q.2.natAbs:Int))),((x:Int),.le,(max (p.1.natAbs:Int) (q.2.natAbs:Int)))] (Post false) fun S5=>
   ∃ X5 Z5,S5.doms[x]?=some X5∧S5.doms[z]?=some Z5∧valsW Z5 X5∧
   loopS (fun v=>(((z,.ne,v):Nat×Sy×Int),[((x:Int),Sy.ne,v),((x:Int),.ne,-v)])) (Post false) (Post true) (valsP (minusP Z5 (joinP X5 (negP X5)))) S5) (valsP (minusP X3 (joinP Z3 (negP Z3)))) S3
theorem propW_eq (x z:Nat) (S:DS) (Post:Bool→DS→Prop):propW x z S Post=(S.failed=false∧stW S z .ge 0 [] (Post false) fun S1=>restW x z S1 Post):=rfl
theorem last_max {m:Prs} {p:Int×Int} (h:Canon (m++[p])):mem (m++[p]) p.2∧∀ v,mem (m++[p]) v→v≤p.2:=by
 refine byc fun hNN=>?_
 obtain ⟨h1,h2,h3⟩:=(canon_snoc _ _).mp h
 refine hNN ?_
 refine ⟨(mem_app _ _ _).mpr (.inr ((mem_cons _ _ _).mpr (.inl ⟨h2,Int.le_refl _⟩))),fun v hv=>?_⟩
 rcases (mem_app _ _ _).mp hv with ⟨q,hq,g1,g2⟩ | hv
 ·have:=h3 q hq; exact l04 5037961757096266676787 rfl h2 g2 this
 ·rw [mem_cons] at hv; simp only [mem_nil,or_false] at hv; exact hv.2
theorem first_min {l:Prs} {p:Int×Int} (h:Canon (p::l)):mem (p::l) p.1∧∀ v,mem (p::l) v→p.1≤v:=by
 refine byc fun hNN=>?_
 obtain ⟨h1,h2,h3⟩:=(canon_cons _ _).mp h
 refine hNN ?_
 refine ⟨(mem_cons _ _ _).mpr (.inl ⟨Int.le_refl _,h1⟩),fun v hv=>?_⟩
 rcases (mem_cons _ _ _).mp hv with hv | hv
 ·exact hv.1
 ·have:=mem_gt h2 hv; exact l03 77065029215894066 rfl h1 this
theorem two_ends {X:Prs} (h:X≠[]):(∃ p l,X=p::l)∧∃ m q,X=m++[q]:=by
 refine ⟨?_,?_⟩
 ·cases X with
  | nil=>exact absurd rfl h
  | cons p l=>exact ⟨p,l,rfl⟩
 ·rcases List.eq_nil_or_concat X with e | ⟨m,q,e⟩
  ·exact absurd e h
  ·exact ⟨m,q,by rw [e,List.concat_eq_append]⟩
theorem len_le_vals {l:Prs} (h:Canon l):l.length≤(valsP l).length:=by
 rw [← List.length_map (f:=fun p:Int×Int=>p.1)]
 refine nodup_sub (nodup_fst h) fun x hx=>?_
 obtain ⟨p,hp,rfl⟩:=List.mem_map.mp hx
 exact (in_vals l _).mpr ⟨p,hp,Int.le_refl _,h.1 p hp⟩
theorem vals_of {d e:Prs} (fd:Fine d) (fe:Fine e) (hl:e.length < 32) {L:List Int} (h:∀ v,mem d v→¬ mem e v→¬ mem e (-v)→v∈L) (hL:L.length < 900):
  valsW d e∧(∀ v,v∈valsP (minusP d (joinP e (negP e)))↔mem d v∧¬ mem e v∧¬ mem e (-v))∧(valsP (minusP d (joinP e (negP e)))).length≤L.length:=by
 refine byc fun hNN=>?_
 obtain ⟨j1,j2,j3⟩:=join_spec fe.c.1 (val_neg fe.c.1)
 obtain ⟨m1,m2,_⟩:=minus_spec fd.c j1
 have hm:∀ v,mem (minusP d (joinP e (negP e))) v↔mem d v∧¬ mem e v∧¬ mem e (-v):=fun v=>by
  rw [m2,j2,mem_neg]
  constructor
  ·rintro ⟨a,b⟩; exact ⟨a,fun h=>b (.inl h),fun h=>b (.inr h)⟩
  ·rintro ⟨a,b,c⟩; exact ⟨a,fun h=>h.elim b c⟩
 obtain ⟨f1,f2⟩:=vals_few m1 (L:=L) fun v hv=>by
  obtain ⟨a,b,c⟩:=(hm v).mp hv
  exact h v a b c
 have f3:=len_le_vals m1
 have nl:(negP e).length=e.length:=by unfold negP; simp
 have:=fd.l
 refine hNN ?_
 exact ⟨⟨by exact l10 4924457592048145 rfl this,hl,by exact l11 84565313091169133926481152530 rfl hL f2,by exact l20 1289793484452385128204818 rfl hL f1,fun uu uu=>trivial,by exact l30 79560006835380082919153879571 rfl hl j3 nl,by exact l30 84511156627811080904219838995 rfl hL f1 f3⟩,fun v=>(in_vals _ v).trans (hm v),f1⟩
theorem stW_same {S:DS} {y:Nat} {p:Prs} {g:Sy} {c:Int} {rs:List Lt} {F K:DS→Prop} (hy:y < 2) (hp:S.doms[y]?=some p) (f:Fine p) (hg:isSg g=true) (hn:p≠[]) (hs:∀ v,mem p v→saysB g c v=true) (hr:rs.length < 100) (ht:S.trail.length < 10000) (h:K S):stW S y g c rs F K:=by
 have e:=struck_same f.c hg hs
 have hl:=f.l
 refine ⟨p,hp,hy,hg,by exact l10 77098599862520337 rfl hl,hr,ht,?_⟩
 unfold enterS
 rw [e,if_neg hn,if_pos rfl]
 exact ⟨fun uu=>h,fun h=>by simp at h⟩
theorem rest_quiet {x z:Nat} (hx:x < 2) (hz:z < 2) {S:DS} {X Z:Prs} {Post:Bool→DS→Prop} (hX:S.doms[x]?=some X) (hZ:S.doms[z]?=some Z) (fX:Fine X) (fZ:Fine Z) (nX:X≠[]) (nZ:Z≠[]) (lX:X.length < 32) (lZ:Z.length < 32)
  (h1:∀ v,mem X v→mem Z (v.natAbs:Int)) (h2:∀ v,mem Z v→0≤v∧(mem X v∨mem X (-v))) (ht:S.trail.length < 10000) (hP:Post true S):restW x z S Post:=by
 obtain ⟨_,m,p,rfl⟩:=two_ends nZ
 obtain ⟨z1,z2⟩:=last_max fZ.c
 refine ⟨m,p,hZ,?_⟩
 refine stW_same hx hX fX rfl nX (fun v hv=>?_) (by simp) ht ?_
 ·have:=z2 _ (h1 v hv); unfold saysB; simp; exact l12 1394159537261611720617889752778989200123698 rfl this (labs _)
 refine stW_same hx hX fX rfl nX (fun v hv=>?_) (by simp) ht ?_
 ·have:=z2 _ (h1 v hv); unfold saysB; simp; exact l12 23694903329206495023610150009984725669291826 rfl this (labs _)
 obtain ⟨w1,w2,w3⟩:=vals_of fX fZ lZ (L:=[]) (fun v hv n1 n2=>by
  have:=h1 v hv
  rcases Int.natAbs_eq v with e | e
  ·rw [← e] at this; exact absurd this n1
  ·have e' : -v=(v.natAbs:Int):=by exact l11 19604198290132253265 rfl e
   rw [e'] at n2; exact absurd this n2) (by simp)
 have w4:=List.length_eq_zero_iff.mp (Nat.le_zero.mp w3)
 refine ⟨X,_,hX,hZ,w1,?_⟩
 rw [w4]
 obtain ⟨⟨p',l',ep⟩,m',q',eq⟩:=two_ends nX
 refine ⟨p',l',m',q',by rw [hX,ep],by rw [hX,eq],?_⟩
 have a1:=(first_min (ep▸fX.c)).2
 have a2:=(last_max (eq▸fX.c)).2
 rw [← ep] at a1
 rw [← eq] at a2
 refine stW_same hz hZ fZ rfl (by simp) (fun v hv=>?_) (by simp) ht ?_
 ·obtain ⟨g1,g2⟩:=h2 v hv
  unfold saysB; simp only [decide_eq_true_eq]
  rcases g2 with g | g
  ·have:=a1 _ g; have:=a2 _ g; exact l23 521616483933608008792505361468412948815519138408747865764941975169487797590171628243443563059 rfl this (lmxI _ _) (labs _)
  ·have:=a1 _ g; have:=a2 _ g; exact l23 8865307916782079455548017328975087626307894704348958734530862923167790937975912095223332420147 rfl ‹_› (lmxI _ _) (labs _)
 obtain ⟨w1,w2,w3⟩:=vals_of fZ fX lX (L:=[]) (fun v hv n1 n2=>by
  rcases (h2 v hv).2 with g | g
  ·exact absurd g n1
  ·exact absurd g n2) (by simp)
 have w4:=List.length_eq_zero_iff.mp (Nat.le_zero.mp w3)
 refine ⟨X,_,hX,hZ,w1,?_⟩
 rw [w4]
 exact hP
theorem prop_quiet {x z:Nat} (hx:x < 2) (hz:z < 2) {S:DS} {X Z:Prs} {Post:Bool→DS→Prop} (hX:S.doms[x]?=some X) (hZ:S.doms[z]?=some Z) (fX:Fine X) (fZ:Fine Z) (nX:X≠[]) (nZ:Z≠[]) (lX:X.length < 32) (lZ:Z.length < 32)
  (h1:∀ v,mem X v→mem Z (v.natAbs:Int)) (h2:∀ v,mem Z v→0≤v∧(mem X v∨mem X (-v))) (ht:S.trail.length < 10000) (hf:S.failed=false) (hP:Post true S):propW x z S Post:=by
 rw [propW_eq]
 exact ⟨hf,stW_same hz hZ fZ rfl nZ (fun v hv=>by unfold saysB; simp; exact (h2 v hv).1) (by simp) ht (rest_quiet hx hz hX hZ fX fZ nX nZ lX lZ h1 h2 ht hP)⟩
theorem contra_of {x z:Nat} {ls:List Lt} (h:∀ v:Int,((x:Int)≠z∨0≤v)→(∀ l∈ls,saysB l.2.1 l.2.2 (if l.1=(x:Int) then v else (v.natAbs:Int))=true)→False):contra x z ls:=fun v hv=>by
 apply Classical.byContradiction
 intro hn
 refine h v hv fun l hl=>?_
 cases q:saysB l.2.1 l.2.2 (if l.1=(x:Int) then v else (v.natAbs:Int)) with
 | true=>rfl
 | false=>exact absurd ⟨l,hl,q⟩ hn
theorem con1 (x z:Nat):contra x z ([]++[((z:Int),negSg .ge,negK .ge 0)]):=contra_of fun v hv h=>by
 have:saysB .le (0 - 1) (if (z:Int)=(x:Int) then v else (v.natAbs:Int))=true:=h ((z:Int),negSg .ge,negK .ge 0) (by simp)
 simp only [negSg,negK,saysB,decide_eq_true_eq] at this
 set_option tactic.hygienic true in split at this
 ·rename_i e; rcases hv with h | h<;>first | exact l20 5018674530833898383186 rfl e h | exact l01 19354789222962 rfl this h
 ·exact l10 6801172273 rfl this
theorem con2 (x z:Nat) (h:Int):contra x z ([((z:Int),.le,h)]++[((x:Int),negSg .le,negK .le h)]):=contra_of fun v hv hh=>by
 have a:=hh ((z:Int),.le,h) (by simp)
 have b:saysB .ge (h+1) (if (x:Int)=(x:Int) then v else (v.natAbs:Int))=true:=hh ((x:Int),negSg .le,negK .le h) (by simp)
 simp only [negSg,negK,saysB,decide_eq_true_eq,if_true] at a b
 split at a<;>first | exact l02 19356137660466 rfl b a | exact l12 23787100039920508853116337940832035471204403 rfl b a (labs _)
theorem con3 (x z:Nat) (h:Int):contra x z ([((z:Int),.le,h)]++[((x:Int),negSg .ge,negK .ge (-h))]):=contra_of fun v hv hh=>by
 have a:=hh ((z:Int),.le,h) (by simp)
 have b:saysB .le (-h - 1) (if (x:Int)=(x:Int) then v else (v.natAbs:Int))=true:=hh ((x:Int),negSg .ge,negK .ge (-h)) (by simp)
 simp only [negSg,negK,saysB,decide_eq_true_eq,if_true] at a b
 set_option tactic.hygienic true in split at a
 ·rename_i e; rcases hv with h | h<;>first | exact l20 5018674530833898383186 rfl e h | exact l02 38161924043893316147 rfl b a h
 ·exact l12 91367547238634913422639313402467210526477982259 rfl b a (labs _)
theorem con4 (x z:Nat) (hne:x≠z) (w:Int):contra x z ([((z:Int),.ne,(w.natAbs:Int))]++[((x:Int),.eq,w)]):=contra_of fun v hv hh=>by
 have a:=hh ((z:Int),.ne,(w.natAbs:Int)) (by simp)
 have b:=hh ((x:Int),.eq,w) (by simp)
 simp only [saysB,decide_eq_true_eq,if_true,Bool.not_eq_true',decide_eq_false_iff_not] at a b
 split at a
 ·exact l20 18519111350850658914 rfl hne ‹_›
 ·exact l22 12194517117652104779627405978908448549013732642256647140290298123096266067169470160350459443488195694358358224359454988234429632045523708328532 rfl b a (labs _) (labs _)
theorem con5 (x z:Nat) (hne:x≠z) (h:Int):contra x z ([((x:Int),.ge,-h),((x:Int),.le,h)]++[((z:Int),negSg .le,negK .le h)]):=contra_of fun v hv hh=>by
 have a:=hh ((x:Int),.ge,-h) (by simp)
 have b:=hh ((x:Int),.le,h) (by simp)
 have c:saysB .ge (h+1) (if (z:Int)=(x:Int) then v else (v.natAbs:Int))=true:=hh ((z:Int),negSg .le,negK .le h) (by simp)
 simp only [negSg,negK,saysB,decide_eq_true_eq,if_true] at a b c
 split at c<;>first | exact l20 18519111350850658914 rfl hne ‹_› | exact l12 6009786434853139360401450877406620461550571267793716 rfl a b c (labs _)
theorem con6 (x z:Nat) (hne:x≠z) (w:Int):contra x z ([((x:Int),.ne,w),((x:Int),.ne,-w)]++[((z:Int),.eq,w)]):=contra_of fun v hv hh=>by
 have a:=hh ((x:Int),.ne,w) (by simp)
 have b:=hh ((x:Int),.ne,-w) (by simp)
 have c:=hh ((z:Int),.eq,w) (by simp)
 simp only [saysB,decide_eq_true_eq,if_true,Bool.not_eq_true',decide_eq_false_iff_not] at a b c
 split at c<;>first | exact l20 18519111350850658914 rfl hne ‹_› | exact l12 575623181918911034458252518254550070171678079443449222269550215093285198516023557637495313195074918786404 rfl a b c (labs _)
end Internal
namespace Internal
theorem natAbs_or {Z:Prs} {v:Int} (h:mem Z (v.natAbs:Int)):mem Z v∨mem Z (-v):=by
 rcases Int.natAbs_eq v with e | e
 ·rw [← e] at h; exact .inl h
 ·have e' : -v=(v.natAbs:Int):=by exact l11 19604198290132253265 rfl e
  rw [← e'] at h; exact .inr h
theorem holds_nil (D:List Prs):holdsA D []:=⟨by simp,fun l hl=>by cases hl⟩
theorem holds_1 {D:List Prs} {l:Lt} (h:isSg l.2.1=true∧∃ (i:Nat) (p:Prs),l.1=i∧D[i]?=some p∧p.length < 1000∧(comP p (cutL l.2.1 l.2.2)).length < 64∧cutP p l.2.1 l.2.2=p):holdsA D [l]:=
 ⟨by simp,fun m hm=>by rw [List.mem_singleton] at hm; subst hm; exact h⟩
theorem holds_2 {D:List Prs} {l k:Lt} (h:isSg l.2.1=true∧∃ (i:Nat) (p:Prs),l.1=i∧D[i]?=some p∧p.length < 1000∧(comP p (cutL l.2.1 l.2.2)).length < 64∧cutP p l.2.1 l.2.2=p)
  (h2:isSg k.2.1=true∧∃ (i:Nat) (p:Prs),k.1=i∧D[i]?=some p∧p.length < 1000∧(comP p (cutL k.2.1 k.2.2)).length < 64∧cutP p k.2.1 k.2.2=p):holdsA D [l,k]:=
 ⟨by simp,fun m hm=>by
  rcases List.mem_cons.mp hm with rfl | hm
  ·exact h
  ·rw [List.mem_singleton] at hm; subst hm; exact h2⟩
theorem prop_main {x z:Nat} (hx:x < 2) (hz:z < 2) (hne:x≠z) {S:DS} {X Z:Prs} {P:List Int} {Post:Bool→DS→Prop} (hX:S.doms[x]?=some X) (hZ:S.doms[z]?=some Z) (fX:Fine X) (fZ:Fine Z)
  (lP:P.length≤7) (lX:X.length+2 * P.length < 32) (lZ:Z.length+P.length < 32)
  (hA:∀ v w,mem X v→mem Z w→(v.natAbs:Int)≤w→mem Z (v.natAbs:Int)∨(v.natAbs:Int)∈P)
  (hB:∀ v w,mem Z v→0≤v→mem X w→mem Z (w.natAbs:Int)→v≤(w.natAbs:Int)→mem X v∨mem X (-v)∨v∈P)
  (hf:S.failed=false) (ht:S.trail.length < 5000)
  (hT:∀ S' X' Z',Trk x z 40 S S'→S'.failed=false→S'.clash=S.clash→S'.doms.length=S.doms.length→S'.doms[x]?=some X'→S'.doms[z]?=some Z'→Canon X'→Canon Z'→X'.length≤X.length+2 * P.length→Z'.length≤Z.length+P.length→
   (∀ v,mem X' v↔mem X v∧mem Z (v.natAbs:Int))→(∀ v,mem Z' v↔mem Z v∧0≤v∧(mem X v∨mem X (-v)))→X'≠[]→Z'≠[]→Post true S')
  (hF:∀ S',Trk x z 40 S S'→FailI x z S'→(∀ v,mem X v→¬ mem Z (v.natAbs:Int))→Post false S'):propW x z S Post:=by
 rw [propW_eq]
 refine ⟨hf,stW_run (Trk.refl x z S) hz hZ fZ (.inr (.inl rfl)) (holds_nil _) (by simp) (con1 x z) (by exact l10 1297408529747184461564433 rfl ht) (fun n1 S1 T1 f1 c1 d1=>?_) fun e S1 T1 F1=>hF S1 (T1.mono (by lia)) F1 fun v hv hz'=>?_⟩
 case refine_2=>
  have:=(struck_spec fZ.c (g:=.ge) rfl 0).2 (v.natAbs:Int)
  rw [e] at this
  have:=this.mpr ⟨hz',by unfold saysB; simp⟩
  simp [mem] at this
 have s1:∀ v,mem (struckP .ge 0 Z) v↔mem Z v∧0≤v:=fun v=>by rw [(struck_spec fZ.c (g:=.ge) rfl 0).2]; unfold saysB; simp
 have q1:(struckP .ge 0 Z).length≤Z.length:=fromOnP_len Z 0
 have fZ1:=fine_struck fZ (g:=.ge) rfl 0 (by have:=fZ.l; exact l30 5044917695294789623826 rfl lZ q1)
 have hZ1:S1.doms[z]?=some (struckP .ge 0 Z):=by rw [d1]; exact get_set_eq hZ
 have hX1:S1.doms[x]?=some X:=by rw [d1]; exact get_set_ne (Ne.symm hne) hX
 have dl1:S1.doms.length=S.doms.length:=by rw [d1,List.length_set]
 generalize struckP .ge 0 Z=Z1 at n1 s1 q1 fZ1 hZ1
 refine byc fun hNN=>?_
 obtain ⟨_,m,p,rfl⟩:=two_ends n1
 obtain ⟨z1,z2⟩:=last_max fZ1.c
 have p0:=(s1 _).mp z1
 refine hNN ?_
 refine ⟨m,p,hZ1,?_⟩
 refine stW_run T1 hx hX1 fX (.inl rfl) (holds_1 (holds_one hZ1 fZ1 rfl fun v hv=>by have:=z2 v hv; unfold saysB; simpa using this)) (by simp) (con2 x z p.2) (by exact l10 332136583525363854291257873 rfl ht) (fun n2 S2 T2 f2 c2 d2=>?_) fun e S2 T2 F2=>hF S2 (T2.mono (by lia)) F2 fun v hv hz'=>?_
 case refine_2=>
  have:=z2 _ ((s1 _).mpr ⟨hz',by exact l10 1734192 rfl⟩)
  have:=((struck_spec fX.c (g:=.le) rfl p.2).2 v).mpr ⟨hv,by unfold saysB; simp; exact l12 1394159537261611720617889752778989200123698 rfl this (labs _)⟩
  rw [e] at this
  simp [mem] at this
 have s2:∀ v,mem (struckP .le p.2 X) v↔mem X v∧v≤p.2:=fun v=>by rw [(struck_spec fX.c (g:=.le) rfl p.2).2]; unfold saysB; simp
 have q2:(struckP .le p.2 X).length≤X.length:=upToP_len X p.2
 have fX2:=fine_struck fX (g:=.le) rfl p.2 (by have:=fX.l; exact l30 1291498929995466135478290 rfl lX q2)
 have hX2:S2.doms[x]?=some (struckP .le p.2 X):=by rw [d2]; exact get_set_eq hX1
 have hZ2:S2.doms[z]?=some (m++[p]):=by rw [d2]; exact get_set_ne hne hZ1
 have dl2:S2.doms.length=S.doms.length:=by rw [d2,List.length_set,dl1]
 generalize struckP .le p.2 X=X2 at n2 s2 q2 fX2 hX2
 refine stW_run T2 hx hX2 fX2 (.inr (.inl rfl)) (holds_1 (holds_one hZ2 fZ1 rfl fun v hv=>by have:=z2 v hv; unfold saysB; simpa using this)) (by simp) (con3 x z p.2) (by exact l10 85026965381727691386587204113 rfl ht) (fun n3 S3 T3 f3 c3 d3=>?_) fun e S3 T3 F3=>hF S3 (T3.mono (by lia)) F3 fun v hv hz'=>?_
 case refine_2=>
  have:=z2 _ ((s1 _).mpr ⟨hz',by exact l10 1734192 rfl⟩)
  have:=((struck_spec fX2.c (g:=.ge) rfl (-p.2)).2 v).mpr ⟨(s2 v).mpr ⟨hv,by exact l12 1394159537261611720617889752778989200123698 rfl this (labs _)⟩,by unfold saysB; simp; exact l12 23694903329206495023610150009984725669291826 rfl this (labs _)⟩
  rw [e] at this
  simp [mem] at this
 have s3:∀ v,mem (struckP .ge (-p.2) X2) v↔mem X v∧v≤p.2 ∧ -p.2≤v:=fun v=>by
  rw [(struck_spec fX2.c (g:=.ge) rfl (-p.2)).2,s2,and_assoc]; unfold saysB; simp
 have q3:(struckP .ge (-p.2) X2).length≤X2.length:=fromOnP_len X2 (-p.2)
 have fX3:=fine_struck fX2 (g:=.ge) rfl (-p.2) (by have:=fX2.l; exact l40 84518142429053327032914714643 rfl lX q2 q3)
 have hX3:S3.doms[x]?=some (struckP .ge (-p.2) X2):=by rw [d3]; exact get_set_eq hX2
 have hZ3:S3.doms[z]?=some (m++[p]):=by rw [d3]; exact get_set_ne hne hZ2
 have dl3:S3.doms.length=S.doms.length:=by rw [d3,List.length_set,dl2]
 generalize struckP .ge (-p.2) X2=X3 at n3 s3 q3 fX3 hX3
 refine byc fun hNN=>?_
 obtain ⟨w1,w2,w3⟩:=vals_of fX3 fZ1 (by exact l30 5041170700404817371154 rfl lZ q1) (L:=P++P.map (fun v => -v)) (fun v hv m1 m2=>by
  obtain ⟨g1,g2,g3⟩:=(s3 v).mp hv
  rcases hA v p.2 g1 p0.1 (by exact l12 23475728260794194733170469998241990427150430485043 rfl g2 g3 (labs _)) with h | h
  ·rcases natAbs_or ((s1 _).mpr ⟨h,by exact l10 1734192 rfl⟩) with h | h
   ·exact absurd h m1
   ·exact absurd h m2
  ·rw [List.mem_append]
   rcases Int.natAbs_eq v with e | e
   ·rw [← e] at h; exact .inl h
   ·exact .inr (List.mem_map.mpr ⟨_,h,by exact l11 19604198483405781585 rfl e⟩)) (by simp; exact l10 1305635194125371905 rfl lP)
 rw [List.length_append,List.length_map] at w3
 refine hNN ?_
 refine ⟨X3,_,hX3,hZ3,w1,?_⟩
 generalize valsP (minusP X3 (joinP (m++[p]) (negP (m++[p]))))=vs at w2 w3
 have m4:∀ u,(mem X3 u∧u∉vs)↔mem X u∧mem Z (u.natAbs:Int):=fun u=>by
  rw [s3,w2]
  constructor
  ·rintro ⟨⟨g1,g2,g3⟩,g4⟩
   refine ⟨g1,?_⟩
   by_cases h1:mem (m++[p]) u
   ·obtain ⟨h2,h3⟩:=(s1 u).mp h1
    rw [Int.natAbs_of_nonneg h3]; exact h2
   ·by_cases h2:mem (m++[p]) (-u)
    ·obtain ⟨h3,h4⟩:=(s1 _).mp h2
     have:(u.natAbs:Int)=-u:=by exact l11 393851751531337007552844839946613586189296949848894486066 rfl h4 (labs _)
     rw [this]; exact h3
    ·exact absurd ⟨(s3 u).mpr ⟨g1,g2,g3⟩,h1,h2⟩ g4
  ·rintro ⟨g1,g2⟩
   have g3:=(s1 _).mpr ⟨g2,by exact l10 1734192 rfl⟩
   have g4:=z2 _ g3
   refine ⟨⟨g1,by exact l12 1394159537261611720617889752778989200123698 rfl g4 (labs _),by exact l12 23694903329206495023610150009984725669291826 rfl g4 (labs _)⟩,fun ⟨_,h1,h2⟩=>?_⟩
   rcases natAbs_or g3 with h | h
   ·exact h1 h
   ·exact h2 h
 refine loop_run hx (rs:=fun v=>[((z:Int),Sy.ne,(v.natAbs:Int))]) (fun v=>by simp) vs 3 S3 X3 T3 hX3 fX3.c fX3.b (by exact l50 362970033158871012615491107444960174100 rfl lX q2 q3 w3) n3 (fun v hv q=>holds_1 (holds_one (get_set_ne hne hZ3) fZ1 rfl fun u hu=>?_)) (fun v hv=>con4 x z hne v) (by exact l30 92943259486564751976653022123168772868611 rfl lP ht w3)
  (fun S4 X4 T4 f4 c4 d4 k4 e4 q4 n4=>?_) fun S4 T4 F4 hall=>hF S4 (T4.mono (by exact l20 1295557148741751192111618 rfl lP w3)) F4 fun v hv hz'=>?_
 case refine_1=>
  refine byc fun hNN=>?_
  obtain ⟨_,h1,h2⟩:=(w2 v).mp hv
  refine hNN ?_
  unfold saysB; simp only [Bool.not_eq_true',decide_eq_false_iff_not]
  intro e; subst e
  rcases natAbs_or hu with h | h
  ·exact h1 h
  ·exact h2 h
 case refine_3=>
  have h1:=(m4 v).mpr ⟨hv,hz'⟩
  exact h1.2 (hall v h1.1)
 refine byc fun hNN=>?_
 have hX4:S4.doms[x]?=some X4:=by rw [d4]; exact get_set_eq hX3
 have hZ4:S4.doms[z]?=some (m++[p]):=by rw [d4]; exact get_set_ne hne hZ3
 have dl4:S4.doms.length=S.doms.length:=by rw [d4,List.length_set,dl3]
 have x4:∀ u,mem X4 u↔mem X u∧mem Z (u.natAbs:Int):=fun u=>(e4 u).trans (m4 u)
 have fX4:Fine X4:=⟨k4,fun v hv=>fX.b v ((x4 v).mp hv).1,by exact l60 23787470454449133059703041814665845836783637 rfl lX q2 q3 w3 q4⟩
 obtain ⟨⟨p',l',ep⟩,m',q',eq⟩:=two_ends n4
 refine hNN ?_
 refine ⟨p',l',m',q',by rw [hX4,ep],by rw [hX4,eq],?_⟩
 refine byc fun hNN=>?_
 have a1:=first_min (ep▸fX4.c)
 have a2:=last_max (eq▸fX4.c)
 rw [← ep] at a1
 rw [← eq] at a2
 obtain ⟨a1,b1⟩:=a1
 obtain ⟨a2,b2⟩:=a2
 have top:∃ w,mem X4 w∧(w.natAbs:Int)=max (p'.1.natAbs:Int) (q'.2.natAbs:Int):=by
  by_cases h:(p'.1.natAbs:Int)≤(q'.2.natAbs:Int)
  ·exact ⟨q'.2,a2,by exact l21 1707765529390427280793525039386898967747229202116705598809906 rfl h (lmxI _ _)⟩
  ·exact ⟨p'.1,a1,by exact l21 27317971368112465908361848330974341136704052066779471200023394 rfl h (lmxI _ _)⟩
 have low:∀ u,mem X4 u→(u.natAbs:Int)≤max (p'.1.natAbs:Int) (q'.2.natAbs:Int):=fun u hu=>by
  have:=b1 u hu; have:=b2 u hu; exact l34 21827348953048274439089441007044231536576746944429316331969794877336169901587289434883098495899859535714303143431845311166633797858640732381875052805503246943318690792353156825541702604149408435548585881278522933597565978018510356850907220484754333573739594639536389725874712929206720619161586703138052908962677243782365432460685855612699119678202101406495346051378999577266932459752064793142 rfl ‹_› this (labs _) (lmxI _ _) (labs _) (labs _)
 refine hNN ?_
 generalize max (p'.1.natAbs:Int) (q'.2.natAbs:Int)=h2 at top low
 refine byc fun hNN=>?_
 obtain ⟨w,hw,ew⟩:=top
 refine hNN ?_
 refine stW_run T4 hz hZ4 fZ1 (.inl rfl) (holds_2 (holds_one hX4 fX4 rfl fun v hv=>by have:=low v hv; unfold saysB; simp; exact l12 23694903329206495023610150009984725669291826 rfl this (labs _)) (holds_one hX4 fX4 rfl fun v hv=>by have:=low v hv; unfold saysB; simp; exact l12 1394159537261611720617889752778989200123698 rfl this (labs _))) (by simp) (con5 x z hne h2) (by exact l30 92943259486564552503892785709354946349571 rfl lP ht w3) (fun n5 S5 T5 f5 c5 d5=>?_) fun e S5 T5 F5=>?_
 case refine_2=>
  exfalso
  have:=((struck_spec fZ1.c (g:=.le) rfl h2).2 (w.natAbs:Int)).mpr ⟨(s1 _).mpr ⟨((x4 w).mp hw).2,by exact l10 1734192 rfl⟩,by unfold saysB; simp; exact l11 17706660833105 rfl ew⟩
  rw [e] at this
  simp [mem] at this
 have s5:∀ v,mem (struckP .le h2 (m++[p])) v↔mem Z v∧0≤v∧v≤h2:=fun v=>by
  rw [(struck_spec fZ1.c (g:=.le) rfl h2).2,s1,and_assoc]; unfold saysB; simp
 have q5:(struckP .le h2 (m++[p])).length≤(m++[p]).length:=upToP_len (m++[p]) h2
 have fZ5:=fine_struck fZ1 (g:=.le) rfl h2 (by have:=fZ1.l; exact l40 330148993863489558722355219 rfl lZ q1 q5)
 have hZ5:S5.doms[z]?=some (struckP .le h2 (m++[p])):=by rw [d5]; exact get_set_eq hZ4
 have hX5:S5.doms[x]?=some X4:=by rw [d5]; exact get_set_ne (Ne.symm hne) hX4
 have dl5:S5.doms.length=S.doms.length:=by rw [d5,List.length_set,dl4]
 generalize struckP .le h2 (m++[p])=Z5 at n5 s5 q5 fZ5 hZ5
 refine byc fun hNN=>?_
 obtain ⟨y1,y2,y3⟩:=vals_of fZ5 fX4 (by exact l60 23787466134458146758726454877292899925663765 rfl lX q2 q3 w3 q4) (L:=P) (fun v hv g1 g2=>by
  obtain ⟨g3,g4,g5⟩:=(s5 v).mp hv
  obtain ⟨g6,g7⟩:=(x4 w).mp hw
  rcases hB v w g3 g4 g6 g7 (by exact l12 1229667088385877842 rfl ew g5) with h | h | h
  ·exact absurd ((x4 v).mpr ⟨h,by rw [Int.natAbs_of_nonneg g4]; exact g3⟩) g1
  ·exact absurd ((x4 (-v)).mpr ⟨h,by rw [Int.natAbs_neg,Int.natAbs_of_nonneg g4]; exact g3⟩) g2
  ·exact h) (by exact l10 4818662491376129 rfl lP)
 refine hNN ?_
 refine ⟨X4,Z5,hX5,hZ5,y1,?_⟩
 generalize valsP (minusP Z5 (joinP X4 (negP X4)))=us at y2 y3
 have hw5:mem Z5 (w.natAbs:Int):=(s5 _).mpr ⟨((x4 w).mp hw).2,by exact l10 1734192 rfl,by exact l11 17706660833105 rfl ew⟩
 have nw:(w.natAbs:Int)∉us:=fun h=>by
  obtain ⟨_,h1,h2⟩:=(y2 _).mp h
  rcases Int.natAbs_eq w with e | e
  ·rw [← e] at h1; exact h1 hw
  ·have : -(w.natAbs:Int)=w:=by exact l11 19604198483405781585 rfl e
   rw [this] at h2; exact h2 hw
 refine loop_run hz (rs:=fun v=>[((x:Int),Sy.ne,v),((x:Int),.ne,-v)]) (fun v=>by simp) us (3+vs.length+1) S5 Z5 T5 hZ5 fZ5.c fZ5.b (by exact l50 5538483171979846785348419394969620 rfl lZ q1 q5 y3) (ne_nil_of_mem hw5) (fun v hv q=>holds_2 (holds_one (get_set_ne (Ne.symm hne) hX5) fX4 rfl fun u hu=>?_) (holds_one (get_set_ne (Ne.symm hne) hX5) fX4 rfl fun u hu=>?_)) (fun v hv=>con6 x z hne v) (by exact l40 399099394389908856446430533107442536822103296395780 rfl lP ht w3 y3)
  (fun S6 Z6 T6 f6 c6 d6 k6 e6 q6 n6=>?_) fun S6 T6 F6 hall=>absurd (hall _ hw5) nw
 ·obtain ⟨_,h1,h2⟩:=(y2 v).mp hv
  unfold saysB; simp only [Bool.not_eq_true',decide_eq_false_iff_not]
  intro e; subst e; exact h1 hu
 ·obtain ⟨_,h1,h2⟩:=(y2 v).mp hv
  unfold saysB; simp only [Bool.not_eq_true',decide_eq_false_iff_not]
  intro e; subst e; exact h2 hu
 refine hT S6 X4 Z6 (T6.mono (by exact l30 5541338005436329112342046752328195 rfl lP w3 y3)) (by rw [f6,f5,f4,f3,f2,f1]; exact hf) (by rw [c6,c5,c4,c3,c2,c1]) (by rw [d6,List.length_set,dl5]) (by rw [d6]; exact get_set_ne (Ne.symm hne) hX5) (by rw [d6]; exact get_set_eq hZ5) k4 k6 (by exact l60 5538514696226767594681068538608132 rfl q2 q3 w3 q4) (by exact l60 84511069453976344749003553284 rfl q1 q5 y3 q6) x4 (fun v=>?_) n4 n6
 rw [e6,s5,y2]
 constructor
 ·rintro ⟨⟨g1,g2,g3⟩,g4⟩
  refine ⟨g1,g2,?_⟩
  by_cases h1:mem X4 v
  ·exact .inl ((x4 v).mp h1).1
  ·by_cases h3:mem X4 (-v)
   ·exact .inr ((x4 _).mp h3).1
   ·exact absurd ⟨(s5 v).mpr ⟨g1,g2,g3⟩,h1,h3⟩ g4
 ·rintro ⟨g1,g2,g3⟩
  rcases g3 with g3 | g3
  ·have h1:=(x4 v).mpr ⟨g3,by rw [Int.natAbs_of_nonneg g2]; exact g1⟩
   have:=low v h1
   exact ⟨⟨g1,g2,by exact l12 1394159537261611720617889752778989200123698 rfl this (labs _)⟩,fun h=>h.2.1 h1⟩
  ·have h1:=(x4 (-v)).mpr ⟨g3,by rw [Int.natAbs_neg,Int.natAbs_of_nonneg g2]; exact g1⟩
   have:=low _ h1
   exact ⟨⟨g1,g2,by exact l12 97054324036352071281901178160505135633812596530 rfl this (labs _)⟩,fun h=>h.2.2 h1⟩
end Internal
namespace Internal
theorem prop_same {x:Nat} (hx:x < 2) {S:DS} {X:Prs} {Post:Bool→DS→Prop} (hX:S.doms[x]?=some X) (fX:Fine X) (lX:X.length < 32) (hf:S.failed=false) (ht:S.trail.length < 5000)
  (hT:∀ S',Trk x x 40 S S'→S'.failed=false→S'.clash=S.clash→S'.doms=S.doms.set x (struckP .ge 0 X)→struckP .ge 0 X≠[]→Post true S')
  (hF:∀ S',Trk x x 40 S S'→FailI x x S'→struckP .ge 0 X=[]→Post false S'):propW x x S Post:=by
 rw [propW_eq]
 refine ⟨hf,stW_run (Trk.refl x x S) hx hX fX (.inr (.inl rfl)) (holds_nil _) (by simp) (con1 x x) (by exact l10 1297408529747184461564433 rfl ht) (fun n1 S1 T1 f1 c1 d1=>?_) fun e S1 T1 F1=>hF S1 (T1.mono (by lia)) F1 e⟩
 have s1:∀ v,mem (struckP .ge 0 X) v↔mem X v∧0≤v:=fun v=>by rw [(struck_spec fX.c (g:=.ge) rfl 0).2]; unfold saysB; simp
 have q1:(struckP .ge 0 X).length≤X.length:=fromOnP_len X 0
 have fX1:=fine_struck fX (g:=.ge) rfl 0 (by have:=fX.l; exact l20 19706708647465208338 rfl lX q1)
 have hX1:S1.doms[x]?=some (struckP .ge 0 X):=by rw [d1]; exact get_set_eq hX
 have hp:=hT S1 (T1.mono (by lia)) (f1.trans hf) c1 d1 n1
 obtain ⟨es,e1,e2,e3⟩:=T1.es
 refine rest_quiet hx hx hX1 hX1 fX1 fX1 n1 n1 (by exact l20 19692071948676254226 rfl lX q1) (by exact l20 19692071948676254226 rfl lX q1) (fun v hv=>?_) (fun v hv=>⟨((s1 v).mp hv).2,.inl hv⟩) (by rw [e2]; simp; exact l20 21642841051615610569132718180882 rfl ht e1) hp
 rw [Int.natAbs_of_nonneg ((s1 v).mp hv).2]; exact hv
theorem late_eq {Z:Prs} (f:Fine Z):cutP Z .ge 0=struckP .ge 0 Z:=cut_eq f.c f.b rfl 0
theorem late_mem {Z:Prs} (f:Fine Z) (v:Int):mem (cutP Z .ge 0) v↔mem Z v∧0≤v:=by
 rw [late_eq f,(struck_spec f.c (g:=.ge) rfl 0).2]; unfold saysB; simp
theorem due_spec {X Z:Prs} (fX:Fine X) (fZ:Fine Z):Canon (dueP X Z).1∧Canon (dueP X Z).2∧(∀ v,mem (dueP X Z).1 v↔mem X v∧mem Z (v.natAbs:Int))∧(∀ v,mem (dueP X Z).2 v↔mem Z v∧0≤v∧(mem X v∨mem X (-v))):=by
 have a:=merge_spec (l:=commonP X (cutP Z .ge 0++mirP (cutP Z .ge 0))) (val_sort (val_com _ _))
 have b:=merge_spec (l:=commonP (cutP Z .ge 0) (X++mirP X)) (val_sort (val_com _ _))
 refine ⟨a.1,b.1,fun v=>?_,fun v=>?_⟩
 ·show mem (mergeP (commonP X (cutP Z .ge 0++mirP (cutP Z .ge 0)))) v↔_
  rw [a.2.1]
  unfold commonP
  rw [mem_sort,mem_com,mem_app,mem_mir,late_mem fZ,late_mem fZ]
  constructor
  ·rintro ⟨h1,⟨h2,h3⟩ | ⟨h2,h3⟩⟩
   ·exact ⟨h1,by rw [Int.natAbs_of_nonneg h3]; exact h2⟩
   ·have:(v.natAbs:Int)=-v:=by exact l11 393851751531337007552844839946613586189296949848894486066 rfl h3 (labs _)
    exact ⟨h1,by rw [this]; exact h2⟩
  ·rintro ⟨h1,h2⟩
   refine ⟨h1,?_⟩
   rcases Int.natAbs_eq v with e | e
   ·rw [← e] at h2; exact .inl ⟨h2,by exact l11 1171019954769 rfl e⟩
   ·have e':(v.natAbs:Int)=-v:=by exact l11 18523597988549835345 rfl e
    rw [e'] at h2; exact .inr ⟨h2,by exact l11 283276239911505 rfl e⟩
 ·show mem (mergeP (commonP (cutP Z .ge 0) (X++mirP X))) v↔_
  rw [b.2.1]
  unfold commonP
  rw [mem_sort,mem_com,mem_app,mem_mir,late_mem fZ,and_assoc]
theorem due_few {X Z:Prs} (fX:Fine X) (fZ:Fine Z) (h:X.length+1+2 * Z.length < 64):DueFew X Z:=by
 have l1:=fX.l
 have l2:=fZ.l
 have a:=late_eq fZ
 have b:(struckP .ge 0 Z).length≤Z.length:=fromOnP_len Z 0
 obtain ⟨s1,s2⟩:=struck_spec fZ.c (g:=.ge) rfl 0
 obtain ⟨d1,d2⟩:=due_lens fX.c s1 (fun v hv=>by have:=((s2 v).mp hv).2; unfold saysB at this; simpa using this)
 have c:=com_cut_len fZ.c .ge 0
 exact ⟨by exact l10 77121414728796689 rfl l1,by exact l20 40044935314226126759002129 rfl h,by rw [a]; exact l30 2699325255810457449559515332626 rfl h b,by exact l30 690990987212984249414102181085202 rfl h c,by rw [a]; exact l40 93260673128612802624447672475691949621267 rfl h b d1,by rw [a]; exact l40 93260673128612802624447672475691949621267 rfl h b d2⟩
set_option genCtorIdx true in
inductive Kd | small | wide | same
noncomputable def AB (X Z:Prs) (P:List Int):Prop:=(∀ v w,mem X v→mem Z w→(v.natAbs:Int)≤w→mem Z (v.natAbs:Int)∨(v.natAbs:Int)∈P)∧
 (∀ v w,mem Z v→0≤v→mem X w→mem Z (w.natAbs:Int)→v≤(w.natAbs:Int)→mem X v∨mem X (-v)∨v∈P)
noncomputable def In6 (X:Prs):Prop:=∀ v,mem X v → -6≤v∧v≤6
noncomputable def Rdy (i:Nat) (X Z:Prs):Kd→Prop
 | .small=>In6 X∧In6 Z
 | .wide=>(i=0∧X.length≤10∧Z.length≤7∧∃ P,P.length≤3∧AB X Z P)∨(0 < i∧X.length≤14+3 * i∧Z.length≤9+2 * i∧∃ P,P.length≤1∧AB X Z P)
 | .same=>X=Z∧X.length≤17+i
noncomputable def Aft (i:Nat) (X Z:Prs):Kd→Prop
 | .small=>In6 X∧In6 Z
 | .wide=>X.length≤16+3 * i∧Z.length≤10+2 * i∧(∀ v,mem X v→mem Z (v.natAbs:Int))∧∀ v,mem Z v→0≤v∧(mem X v∨mem X (-v))
 | .same=>X=Z∧X.length≤17+i
structure Doms (D:List Prs):Prop where
 two:D.length=2
 fine:∀ p∈D,Fine p
 full:∀ p∈D,p≠[]
noncomputable def RdyS (k:Kd) (i x z:Nat) (D:List Prs):Prop:=Doms D∧∃ X Z,D[x]?=some X∧D[z]?=some Z∧Rdy i X Z k
noncomputable def AftS (k:Kd) (i x z:Nat) (D:List Prs):Prop:=Doms D∧∃ X Z,D[x]?=some X∧D[z]?=some Z∧Aft i X Z k
theorem in6_len {X:Prs} (h:Canon X) (h6:In6 X):X.length≤13:=by
 have:=nodup_sub (nodup_fst h) (m:=upto (-6) 7) fun v hv=>by
  obtain ⟨p,hp,rfl⟩:=List.mem_map.mp hv
  have:=h6 p.1 ⟨p,hp,Int.le_refl _,h.1 p hp⟩
  rw [in_upto]; exact l01 21555040120158291521511606203249 rfl this
 rw [List.length_map] at this
 exact this
theorem mem_two {D:List Prs} {x z:Nat} (h2:D.length=2) (hx:x < 2) (hz:z < 2) (hne:x≠z) {X Z p:Prs} (hX:D[x]?=some X) (hZ:D[z]?=some Z) (hp:p∈D):p=X∨p=Z:=by
 obtain ⟨j,hj,e⟩:=List.getElem_of_mem hp
 have hj2:j=x∨j=z:=by exact l40 156531289871447252894990864635889706015749404127155889283111810459312389586053864469550601045311526219696677 rfl h2 hx hz hne hj
 have:=List.getElem?_eq_getElem hj
 rcases hj2 with rfl | rfl
 ·rw [hX] at this; exact .inl (e▸(Option.some.inj this).symm)
 ·rw [hZ] at this; exact .inr (e▸(Option.some.inj this).symm)
theorem at_mem {D:List Prs} {x:Nat} {X:Prs} (h:D[x]?=some X):X∈D:=List.mem_of_getElem? h
theorem steps_lens {x z:Nat} {K:List Prs→Prop}:∀ (es:List En) (D:List Prs),stepsW x z K es D→(∀ p∈D,p.length < 1000)→∃ c,K c∧c.length=D.length∧∀ p∈c,p.length < 1000
 | [],D,h,hl=>⟨D,h,rfl,hl⟩
 | e::es,D,⟨rs,h0,h1,h2,h3,h4,h5,h6,h7,h8,h⟩,hl=>by
  obtain ⟨c,c1,c2,c3⟩:=steps_lens es _ h fun p hp=>by
   rcases List.mem_or_eq_of_mem_set hp with hp | rfl
   ·exact hl p hp
   ·have:(cutP e.old e.g e.k).length=(comP e.old (cutL e.g e.k)).length:=sortP_len _
    exact l20 1213980048668088963975698 rfl h2 this
  exact ⟨c,c1,by rw [c2,List.length_set],c3⟩
theorem Trk.lens {x z n:Nat} {S0 S:DS} (T:Trk x z n S0 S) (hl:∀ p∈S0.doms,p.length < 1000):S.doms.length=S0.doms.length∧∀ p∈S.doms,p.length < 1000:=by
 refine byc fun hNN=>?_
 obtain ⟨es,e1,e2,e3⟩:=T.es
 obtain ⟨c,c1,c2,c3⟩:=steps_lens es _ (e3 (fun cur=>cur=S.doms) rfl) hl
 refine hNN ?_
 subst c1
 exact ⟨c2,c3⟩
theorem run_law {k:Kd} {i x z:Nat} {S:DS} (hx:x < 2) (hz:z < 2) (hk:k=.same↔x=z) (R:RdyS k i x z S.doms) (hi:i≤3) (hf:S.failed=false) (ht:S.trail.length < 5000) {Post:Bool→DS→Prop}
  (hT:∀ S',Trk x z 40 S S'→S'.failed=false→S'.clash=S.clash→AftS k i x z S'.doms→Post true S') (hF:∀ S',Trk x z 40 S S'→Post false S'):runW x z S Post:=by
 refine byc fun hNN=>?_
 obtain ⟨D,X,Z,hX,hZ,hR⟩:=R
 have fX:=D.fine X (at_mem hX)
 have fZ:=D.fine Z (at_mem hZ)
 have nX:=D.full X (at_mem hX)
 have nZ:=D.full Z (at_mem hZ)
 have lens:X.length+1+2 * Z.length < 64:=by
  cases k with
  | small=>
   have:=in6_len fX.c hR.1
   have:=in6_len fZ.c hR.2
   exact l20 1431532939146349249217987168770 rfl ‹_› this
  | wide=>rcases hR with ⟨h1,h2,h3,_⟩ | ⟨h1,h2,h3,_⟩<;>first | exact l20 89470808696646828451482454530 rfl h2 h3 | exact l30 6454805430287251723611477869310263420025784835 rfl hi h2 h3
  | same=>obtain ⟨rfl,h⟩:=hR; exact l20 24330633951599499132224925813250 rfl hi h
 refine hNN ?_
 refine ⟨X,Z,D.two,fun p hp=>by have:=(D.fine p hp).l; exact l10 77121414728796689 rfl this,hX,hZ,due_few fX fZ lens,by exact l10 5068002073111170664977 rfl ht,?_⟩
 by_cases e:x=z
 ·subst e
  have hk':=hk.mpr rfl
  subst hk'
  rw [hX] at hZ
  cases hZ
  have dT:dueT x x X X=(struckP .ge 0 X,struckP .ge 0 X):=by unfold dueT; rw [if_pos rfl,late_eq fX]
  have q1:(struckP .ge 0 X).length≤X.length:=fromOnP_len X 0
  have fX1:=fine_struck fX (g:=.ge) rfl 0 (by have:=fX.l; exact l20 15812469655966358380482265106 rfl lens q1)
  have s1:∀ v,mem (struckP .ge 0 X) v↔mem X v∧0≤v:=fun v=>by rw [(struck_spec fX.c (g:=.ge) rfl 0).2]; unfold saysB; simp
  rw [dT]
  refine prop_same hx hX fX (by exact l10 232729460430805099216913 rfl lens) hf ht (fun S' T hf' hc hd hn=>?_) fun S' T F hn=>?_
  ·obtain ⟨es,e1,e2,e3⟩:=T.es
   have hin:∀ p∈S'.doms,Fine p∧p≠[]:=fun p hp=>by
    rw [hd] at hp
    rcases List.mem_or_eq_of_mem_set hp with hp | rfl
    ·exact ⟨D.fine p hp,D.full p hp⟩
    ·exact ⟨fX1,hn⟩
   have hX':S'.doms[x]?=some (struckP .ge 0 X):=by rw [hd]; exact get_set_eq hX
   refine ⟨es,e2,by exact l10 1237305193634744833 rfl e1,by rw [hd,List.length_set]; exact D.two,fun p hp=>by have:=(hin p hp).1.l; exact l10 77121414728796689 rfl this,e3 _ rfl,by rw [hf']; rfl,by simp [hn],fun h=>by (simp at h),fun uu=>⟨hX',hX',?_⟩⟩
   refine prop_quiet hx hx hX' hX' fX1 fX1 hn hn (by exact l20 15808540647052610835664470034 rfl lens q1) (by exact l20 15808540647052610835664470034 rfl lens q1) (fun v hv=>by rw [Int.natAbs_of_nonneg ((s1 v).mp hv).2]; exact hv) (fun v hv=>⟨((s1 v).mp hv).2,.inl hv⟩) (by rw [e2]; simp; exact l20 21642841051615611202451415779858 rfl ht e1) hf' ⟨rfl,rfl,?_⟩
   exact hT S' T hf' hc ⟨⟨by rw [hd,List.length_set]; exact D.two,fun p hp=>(hin p hp).1,fun p hp=>(hin p hp).2⟩,_,_,hX',hX',rfl,by have:=hR.2; exact l30 1292795385525751495309826 rfl q1 this⟩
  ·obtain ⟨es,e1,e2,e3⟩:=T.es
   refine byc fun hNN=>?_
   obtain ⟨F1,rs,F2,F3,F4⟩:=F
   obtain ⟨g1,g2⟩:=T.lens (fun p hp=>by have:=(D.fine p hp).l; exact l10 77121414728796689 rfl this)
   refine hNN ?_
   exact ⟨es,e2,by exact l10 1237305193634744833 rfl e1,g1.trans D.two,g2,e3 _ rfl,by rw [F1]; rfl,by simp [hn],fun uu=>⟨rs,F2,F3,F4,hF S' T⟩,fun h=>by simp at h⟩
 ·have hk':k≠.same:=fun h=>e (hk.mp h)
  obtain ⟨P,p1,p2,p3,⟨pA,pB⟩,pW⟩:∃ P:List Int,P.length≤7∧X.length+2 * P.length < 32∧Z.length+P.length < 32∧AB X Z P∧(match k with | .wide=>X.length+2 * P.length≤16+3 * i∧Z.length+P.length≤10+2 * i | _=>True):=by
   cases k with
   | small=>
    have g1:=in6_len fX.c hR.1
    have g2:=in6_len fZ.c hR.2
    refine ⟨upto 0 7,by decide,by have:(upto 0 7).length=7:=(by decide); exact l20 311999756598524738128398850 rfl g1 this,by have:(upto 0 7).length=7:=(by decide); exact l20 1214026684937332401719810 rfl g2 this,⟨fun v w hv hw uu=>.inr ?_,fun v w hv h0 hw uu uu=>.inr (.inr ?_)⟩,trivial⟩
    ·have:=hR.1 v hv; rw [in_upto]; exact l11 454080153967139727503545671073924536011657247071572745334533197010435322738 rfl this (labs _)
    ·have:=hR.2 v hv; rw [in_upto]; exact l01 88270314696190237065263949135980082 rfl h0 this
   | wide=>
    rcases hR with ⟨h1,h2,h3,P,h4,h5⟩ | ⟨h1,h2,h3,P,h4,h5⟩
    ·exact ⟨P,by exact l10 1199537605121 rfl h4,by exact l20 21857559891013461287258626 rfl h2 h4,by exact l20 5041170565521415293442 rfl h3 h4,h5,by exact l30 1434833141910825479484105968130 rfl h2 h4,by exact l30 330953508415742491249560066 rfl h3 h4⟩
    ·exact ⟨P,by exact l10 74971109889 rfl h4,by exact l30 93852437226593068136619627153410563 rfl hi h2 h4,by exact l30 346249445817942346145079215999491 rfl hi h3 h4,h5,by exact l30 5875808898671235301740626112154114 rfl h2 h4,by exact l30 21684417367395405821831856523778 rfl h3 h4⟩
   | same=>exact absurd rfl hk'
  refine byc fun hNN=>?_
  have dT:dueT x z X Z=dueP X Z:=by unfold dueT; rw [if_neg e]
  obtain ⟨u1,u2,u3,u4⟩:=due_spec fX fZ
  refine hNN ?_
  rw [dT]
  refine prop_main hx hz e hX hZ fX fZ p1 p2 p3 pA pB hf ht (fun S' X' Z' T hf' hc hdl hX' hZ' cX cZ lX lZ mX mZ nX' nZ'=>?_) fun S' T F hn=>?_
  ·obtain ⟨es,e1,e2,e3⟩:=T.es
   have dX:(dueP X Z).1=X':=canon_ext u1 cX fun v=>(u3 v).trans (mX v).symm
   have dZ:(dueP X Z).2=Z':=canon_ext u2 cZ fun v=>(u4 v).trans (mZ v).symm
   have fX':Fine X':=⟨cX,fun v hv=>fX.b v ((mX v).mp hv).1,by exact l30 84639673883269411473016922130 rfl p2 lX⟩
   have fZ':Fine Z':=⟨cZ,fun v hv=>fZ.b v ((mZ v).mp hv).1,by exact l40 2835476173828593188818753502586732563 rfl lens p1 lZ⟩
   have hin:∀ p∈S'.doms,Fine p∧p≠[]:=fun p hp=>by
    rcases mem_two (hdl.trans D.two) hx hz e hX' hZ' hp with rfl | rfl
    ·exact ⟨fX',nX'⟩
    ·exact ⟨fZ',nZ'⟩
   have q1:∀ v,mem X' v→mem Z' (v.natAbs:Int):=fun v hv=>by
    obtain ⟨a,b⟩:=(mX v).mp hv
    refine (mZ _).mpr ⟨b,by exact l10 1734192 rfl,?_⟩
    rcases Int.natAbs_eq v with e | e
    ·rw [← e]; exact .inl a
    ·have : -(v.natAbs:Int)=v:=by exact l11 19604198483405781585 rfl e
     rw [this]; exact .inr a
   have q2:∀ v,mem Z' v→0≤v∧(mem X' v∨mem X' (-v)):=fun v hv=>by
    obtain ⟨a,b,c⟩:=(mZ v).mp hv
    refine ⟨b,?_⟩
    rcases c with c | c
    ·exact .inl ((mX v).mpr ⟨c,by rw [Int.natAbs_of_nonneg b]; exact a⟩)
    ·exact .inr ((mX (-v)).mpr ⟨c,by rw [Int.natAbs_neg,Int.natAbs_of_nonneg b]; exact a⟩)
   refine ⟨es,e2,by exact l10 1237305193634744833 rfl e1,hdl.trans D.two,fun p hp=>by have:=(hin p hp).1.l; exact l10 77121414728796689 rfl this,e3 _ rfl,by rw [hf']; rfl,by rw [dX,dZ]; simp [nX',nZ'],fun h=>by (simp at h),fun uu=>⟨by rw [dX]; exact hX',by rw [dZ]; exact hZ',?_⟩⟩
   refine prop_quiet hx hz hX' hZ' fX' fZ' nX' nZ' (by exact l30 84576809740649450755932200978 rfl p2 lX) (by exact l30 1290539699550439191846930 rfl p3 lZ) q1 q2 (by rw [e2]; simp; exact l20 21642841051615611202451415779858 rfl ht e1) hf' ⟨rfl,rfl,?_⟩
   refine hT S' T hf' hc ⟨⟨hdl.trans D.two,fun p hp=>(hin p hp).1,fun p hp=>(hin p hp).2⟩,_,_,hX',hZ',?_⟩
   cases k with
   | small=>exact ⟨fun v hv=>hR.1 v ((mX v).mp hv).1,fun v hv=>hR.2 v ((mZ v).mp hv).1⟩
   | wide=>exact ⟨by have:=pW.1; exact l50 1539164569887289934450850064798494689698960075548985858 rfl lX pW,by have:=pW.2; exact l50 6363207609430054644924080530321842590992759121447426 rfl lZ pW,q1,q2⟩
   | same=>exact absurd rfl hk'
  ·obtain ⟨es,e1,e2,e3⟩:=T.es
   refine byc fun hNN=>?_
   obtain ⟨F1,rs,F2,F3,F4⟩:=F
   obtain ⟨g1,g2⟩:=T.lens (fun p hp=>by have:=(D.fine p hp).l; exact l10 77121414728796689 rfl this)
   have dX:(dueP X Z).1=[]:=canon_nil_of u1 fun v hv=>by
    obtain ⟨a,b⟩:=(u3 v).mp hv
    exact hn v a b
   refine hNN ?_
   exact ⟨es,e2,by exact l10 1237305193634744833 rfl e1,g1.trans D.two,g2,e3 _ rfl,by rw [F1]; rfl,by simp [dX],fun uu=>⟨rs,F2,F3,F4,hF S' T⟩,fun h=>by simp at h⟩
end Internal
namespace Internal
theorem struck_len {p:Prs} (h:Canon p) {g:Sy} (hg:isSg g=true) (c:Int):(struckP g c p).length≤p.length+1:=by
 obtain ⟨sc,sm⟩:=struck_spec h hg c
 cases g<;>simp only [isSg,Bool.false_eq_true] at hg
 ·have:(struckP .le c p).length≤p.length:=upToP_len p c
  exact l20 1192669264385 rfl this
 ·have:(struckP .ge c p).length≤p.length:=fromOnP_len p c
  exact l20 1192669264385 rfl this
 ·exact without_len h c
 ·have:=nodup_sub (nodup_fst sc) (m:=[c]) fun v hv=>by
   obtain ⟨q,hq,rfl⟩:=List.mem_map.mp hv
   have:=((sm q.1).mp ⟨q,hq,Int.le_refl _,sc.1 q hq⟩).2
   unfold saysB at this
   simpa using this
  rw [List.length_map] at this
  simp at this
  exact l20 1192669239809 rfl this
theorem AB_x {X X' Z:Prs} {P:List Int} {c:Int} (h:AB X Z P) (hm:∀ v,mem X' v↔mem X v∧v≠c):AB X' Z ((c.natAbs:Int)::P):=by
 refine ⟨fun v w hv hw hl=>?_,fun v w hv h0 hw hz hl=>?_⟩
 ·rcases h.1 v w ((hm v).mp hv).1 hw hl with g | g
  ·exact .inl g
  ·exact .inr (List.mem_cons_of_mem _ g)
 ·rcases h.2 v w hv h0 ((hm w).mp hw).1 hz hl with g | g | g
  ·by_cases e:v=c
   ·exact .inr (.inr (List.mem_cons.mpr (.inl (by exact l12 26966554497214687538450124102257243538661675385483640346792572593715 rfl h0 e (labs _)))))
   ·exact .inl ((hm v).mpr ⟨g,e⟩)
  ·by_cases e : -v=c
   ·exact .inr (.inr (List.mem_cons.mpr (.inl (by exact l12 458325676973006845811289272935963924037835781612987049810668469724723 rfl h0 e (labs _)))))
   ·exact .inr (.inl ((hm _).mpr ⟨g,e⟩))
  ·exact .inr (.inr (List.mem_cons_of_mem _ g))
theorem AB_z {X Z Z':Prs} {P:List Int} {c:Int} (h:AB X Z P) (hm:∀ v,mem Z' v↔mem Z v∧v≠c):AB X Z' ((c.natAbs:Int)::P):=by
 refine ⟨fun v w hv hw hl=>?_,fun v w hv h0 hw hz hl=>?_⟩
 ·rcases h.1 v w hv ((hm w).mp hw).1 hl with g | g
  ·by_cases e:(v.natAbs:Int)=c
   ·exact .inr (List.mem_cons.mpr (.inl (by exact l21 25717311868291295070626212778185797128525373637432789808359250 rfl e (labs _))))
   ·exact .inl ((hm _).mpr ⟨g,e⟩)
  ·exact .inr (List.mem_cons_of_mem _ g)
 ·rcases h.2 v w ((hm v).mp hv).1 h0 hw ((hm _).mp hz).1 hl with g | g | g
  ·exact .inl g
  ·exact .inr (.inl g)
  ·exact .inr (.inr (List.mem_cons_of_mem _ g))
theorem AB_zle {X Z Z':Prs} {P:List Int} {c:Int} (h:AB X Z P) (hm:∀ v,mem Z' v↔mem Z v∧v≤c):AB X Z' P:=by
 refine ⟨fun v w hv hw hl=>?_,fun v w hv h0 hw hz hl=>h.2 v w ((hm v).mp hv).1 h0 hw ((hm _).mp hz).1 hl⟩
 obtain ⟨g1,g2⟩:=(hm w).mp hw
 rcases h.1 v w hv g1 hl with g | g
 ·exact .inl ((hm _).mpr ⟨g,by exact l12 77047674850420530 rfl hl g2⟩)
 ·exact .inr g
theorem AB_aft {X Z:Prs} (h1:∀ v,mem X v→mem Z (v.natAbs:Int)) (h2:∀ v,mem Z v→0≤v∧(mem X v∨mem X (-v))):AB X Z []:=
 ⟨fun v w hv uu uu=>.inl (h1 v hv),fun v w hv uu uu uu uu=>(h2 v hv).2.elim .inl fun h=>.inr (.inl h)⟩
theorem set_doms {D:List Prs} (h:Doms D) {y:Nat} {q:Prs} (fq:Fine q) (nq:q≠[]):Doms (D.set y q):=by
 refine ⟨by rw [List.length_set]; exact h.two,fun p hp=>?_,fun p hp=>?_⟩
 ·rcases List.mem_or_eq_of_mem_set hp with hp | rfl
  ·exact h.fine p hp
  ·exact fq
 ·rcases List.mem_or_eq_of_mem_set hp with hp | rfl
  ·exact h.full p hp
  ·exact nq
theorem dec_law {k:Kd} {i x z y:Nat} {D:List Prs} {p:Prs} {g:Sy} {c:Int} (hk:k=.same↔x=z) (R:AftS k i x z D) (hi:i < 3) (hy:y=x∨y=z) (hp:D[y]?=some p) (hg:isSg g=true)
  (hw:k=.wide→(y=x→g=.ne)∧(y=z→g=.ne∨g=.le)) (hn:struckP g c p≠[]):RdyS k (i+1) x z (D.set y (struckP g c p)):=by
 obtain ⟨h,X,Z,hX,hZ,hR⟩:=R
 have fp:=h.fine p (at_mem hp)
 have fX:=h.fine X (at_mem hX)
 have fZ:=h.fine Z (at_mem hZ)
 have sl:=struck_len fp.c hg c
 obtain ⟨sc,sm⟩:=struck_spec fp.c hg c
 by_cases e:x=z
 ·subst e
  have hk':=hk.mpr rfl
  subst hk'
  have hy':y=x:=hy.elim id id
  subst hy'
  rw [hX] at hZ hp
  cases hZ; cases hp
  have fq:=fine_struck fp hg c (by have:=hR.2; exact l30 1352290269371162967671690185235 rfl hi sl this)
  exact ⟨set_doms h fq hn,_,_,get_set_eq hX,get_set_eq hX,rfl,by have:=hR.2; exact l30 84600641032206837292155472386 rfl sl this⟩
 ·have hk':k≠.same:=fun h=>e (hk.mp h)
  rcases hy with rfl | rfl
  ·have e2:X=p:=Option.some.inj (hX.symm.trans hp)
   subst e2
   cases k with
   | small=>
    have i6:In6 (struckP g c X):=fun v hv=>hR.1 v ((sm v).mp hv).1
    have fq:=fine_struck fp hg c (by have:=in6_len sc i6; exact l10 307608260790785 rfl this)
    exact ⟨set_doms h fq hn,_,_,get_set_eq hX,get_set_ne e hZ,i6,hR.2⟩
   | wide=>
    obtain ⟨r1,r2,r3,r4⟩:=hR
    have fq:=fine_struck fp hg c (by exact l30 346344765284210503795048416758291 rfl hi sl r1)
    have hg':=(hw rfl).1 rfl
    subst hg'
    refine ⟨set_doms h fq hn,_,_,get_set_eq hX,get_set_ne e hZ,.inr ⟨by exact l10 22677008 rfl,by exact l30 5544308554012206916335586737654274 rfl r1 sl,by exact l20 335704217543166781462678017 rfl r2,_,?_,AB_x (AB_aft r3 r4) (c:=c) fun v=>(sm v).trans (by unfold saysB; simp)⟩⟩
    simp
   | same=>exact absurd rfl hk'
  ·have e2:Z=p:=Option.some.inj (hZ.symm.trans hp)
   subst e2
   cases k with
   | small=>
    have i6:In6 (struckP g c Z):=fun v hv=>hR.2 v ((sm v).mp hv).1
    have fq:=fine_struck fp hg c (by have:=in6_len sc i6; exact l10 307608260790785 rfl this)
    exact ⟨set_doms h fq hn,_,_,get_set_ne (Ne.symm e) hX,get_set_eq hZ,hR.1,i6⟩
   | wide=>
    obtain ⟨r1,r2,r3,r4⟩:=hR
    have fq:=fine_struck fp hg c (by exact l30 346265537121400082745958988990995 rfl hi sl r2)
    rcases (hw rfl).2 rfl with hg' | hg'
    ·subst hg'
     refine ⟨set_doms h fq hn,_,_,get_set_ne (Ne.symm e) hX,get_set_eq hZ,.inr ⟨by exact l10 22677008 rfl,by exact l20 335704513051359935314790913 rfl r1,by exact l30 5544308244149407776360942086130178 rfl r2 sl,_,?_,AB_z (AB_aft r3 r4) (c:=c) fun v=>(sm v).trans (by unfold saysB; simp)⟩⟩
     simp
    ·subst hg'
     refine ⟨set_doms h fq hn,_,_,get_set_ne (Ne.symm e) hX,get_set_eq hZ,.inr ⟨by exact l10 22677008 rfl,by exact l20 335704513051359935314790913 rfl r1,by exact l30 5544308244149407776360942086130178 rfl r2 sl,[],?_,AB_zle (AB_aft r3 r4) (c:=c) fun v=>(sm v).trans (by unfold saysB; simp)⟩⟩
     simp
   | same=>exact absurd rfl hk'
noncomputable def FewR (low hi:Int) (X:Prs):Prop:=Canon X∧X≠[]∧X.length≤6∧∀ v,mem X v→low≤v∧v≤hi
theorem few_ok {vs:List Int} {low hi:Int} (hn:vs≠[]) (hl:vs.length≤6) (h:∀ v∈vs,low≤v∧v≤hi):FewR low hi (mergeP (vs.map fun v=>(v,v))):=by
 have hm:∀ v,mem (vs.map fun v=>(v,v)) v↔v∈vs:=fun v=>by
  unfold mem
  simp only [List.mem_map]
  constructor
  ·rintro ⟨_,⟨w,hw,rfl⟩,h1,h2⟩
   simp only at h1 h2
   have:w=v:=by exact l02 1157724971782617650 rfl h1 h2
   exact this▸hw
  ·exact fun h=>⟨(v,v),⟨v,h,rfl⟩,Int.le_refl _,Int.le_refl _⟩
 obtain ⟨a,b,c⟩:=merge_spec (l:=vs.map fun v=>(v,v)) fun p hp=>by
  obtain ⟨w,hw,rfl⟩:=List.mem_map.mp hp
  exact Int.le_refl _
 rw [List.length_map] at c
 refine ⟨a,?_,by exact l20 76953378588346882 rfl hl c,fun v hv=>h v ((hm v).mp ((b v).mp hv))⟩
 cases vs with
 | nil=>exact absurd rfl hn
 | cons w vs=>exact ne_nil_of_mem ((b w).mpr ((hm w).mpr List.mem_cons_self))
structure WA (n:Nat) (first:Int) (xs zs:Prs):Prop where
 l1:xs.length≤2 * n
 l2:zs.length≤n
 z1:∀ p∈zs,0≤p.1∧p.1≤p.2∧p.2+2≤first
 x1:∀ p∈xs,p.1≤p.2∧(p∈zs∨(0 - p.2,0 - p.1)∈zs)
 x2:∀ p∈zs,p∈xs∨(0 - p.2,0 - p.1)∈xs
 f:0≤first∧first≤2+n * (10 ^ 30+10 ^ 15+10)
 ne:0 < n→xs≠[]∧zs≠[]
theorem WA.zero {first:Int} (h:0≤first) (h2:first < 3):WA 0 first [] []:=
 ⟨by simp,by simp,fun p hp=>(by cases hp),fun p hp=>(by cases hp),fun p hp=>(by cases hp),⟨h,by lia⟩,fun h=>absurd h (by lia)⟩
theorem WA.step {n:Nat} {first last g:Int} {xs zs ys:Prs} (W:WA n first xs zs) (h1:first≤last) (h2:last≤first+10 ^ 30) (h3:0≤g) (h4:g≤10 ^ 15)
  (hy:ys=[(first,last),(0 - last,0 - first)]∨ys=[(first,last)]∨ys=[(0 - last,0 - first)]):WA (n+1) (last+2+g) (xs++ys) (zs++[(first,last)]):=by
 obtain ⟨l1,l2,z1,x1,x2,⟨f0,f1⟩,ne⟩:=W
 have hys:∀ p∈ys,p=(first,last)∨p=(0 - last,0 - first):=fun p hp=>by
  rcases hy with rfl | rfl | rfl<;>simp at hp<;>simp [hp]
 have hys2:(first,last)∈ys∨(0 - last,0 - first)∈ys:=by rcases hy with rfl | rfl | rfl<;>simp
 have hyl:ys.length≤2:=by rcases hy with rfl | rfl | rfl<;>simp
 refine ⟨by rw [List.length_append]; exact l30 20654157763362231837403650 rfl l1 hyl,by rw [List.length_append]; simp; exact l20 4758485505 rfl l2,fun p hp=>?_,fun p hp=>?_,fun p hp=>?_,⟨by exact l03 20635603236436898065136179 rfl h1 h3 f0,?_⟩,fun uu=>⟨?_,by simp⟩⟩
 ·rcases List.mem_append.mp hp with hp | hp
  ·have:=z1 p hp; exact l05 458326112547373360415844217814673156985146815762594097647457191311923 rfl h1 h3 this
  ·rw [List.mem_singleton] at hp; subst hp; simp only; exact l03 1467232934653056225613486454116701519738048854579 rfl h1 h3 f0
 ·rcases List.mem_append.mp hp with hp | hp
  ·obtain ⟨a,b⟩:=x1 p hp
   exact ⟨a,b.imp (List.mem_append_left _) (List.mem_append_left _)⟩
  ·rcases hys p hp with rfl | rfl
   ·exact ⟨h1,.inl (by simp)⟩
   ·refine ⟨by simp only; exact l02 310481945606705 rfl h1,.inr ?_⟩
    simp only [List.mem_append,List.mem_singleton]
    exact .inr (by ext<;>simp)
 ·rcases List.mem_append.mp hp with hp | hp
  ·exact (x2 p hp).imp (List.mem_append_left _) (List.mem_append_left _)
  ·rw [List.mem_singleton] at hp; subst hp
   exact hys2.imp (List.mem_append_right _) (List.mem_append_right _)
 ·have:((n+1:Nat):Int) * (10 ^ 30+10 ^ 15+10)=n * (10 ^ 30+10 ^ 15+10)+(10 ^ 30+10 ^ 15+10):=by
   rw [Int.natCast_add,Int.add_mul]; simp
  rw [this]; exact l06 380602529254409544722919169780861586606066227 rfl h2 h4 f1
 ·intro e
  have:=List.append_eq_nil_iff.mp e
  rw [this.2] at hys2; simp at hys2
structure Wd (j:Nat) (X Z:Prs):Prop where
 fX:Fine X
 fZ:Fine Z
 nX:X≠[]
 nZ:Z≠[]
 lX:X.length≤7+j
 lZ:Z.length≤4+j
 P:∃ P:List Int,P.length≤j∧AB X Z P
theorem Wd.mono {j i:Nat} {X Z:Prs} (W:Wd j X Z) (h:j≤i):Wd i X Z:=by
 obtain ⟨a,b,c,d,e,f,P,p1,p2⟩:=W
 exact ⟨a,b,c,d,by exact l30 5049165898054736329218 rfl h e,by exact l30 5048949725259737643522 rfl h f,P,by exact l30 300974308637186 rfl h p1,p2⟩
theorem Wd.x {j:Nat} {X Z:Prs} (W:Wd j X Z) (hj:j < 40) {c:Int} (hn:cutP X .ne c≠[]):Wd (j+1) (cutP X .ne c) Z:=by
 obtain ⟨a,b,_,d,e,f,P,p1,p2⟩:=W
 rw [cut_eq a.c a.b rfl] at hn ⊢
 have sl:=struck_len a.c (g:=.ne) rfl c
 obtain ⟨sc,sm⟩:=struck_spec a.c (g:=.ne) rfl c
 exact ⟨fine_struck a rfl c (by exact l30 1352290274011059506559650908691 rfl hj e sl),b,hn,d,by exact l30 330466617897771640110189058 rfl e sl,by exact l20 20009567954336483841 rfl f,_,by simp; exact l20 4758485505 rfl p1,AB_x p2 (c:=c) fun v=>(sm v).trans (by unfold saysB; simp)⟩
theorem Wd.z {j:Nat} {X Z:Prs} (W:Wd j X Z) (hj:j < 40) {c:Int} (hn:cutP Z .ne c≠[]):Wd (j+1) X (cutP Z .ne c):=by
 obtain ⟨a,b,c',_,e,f,P,p1,p2⟩:=W
 rw [cut_eq b.c b.b rfl] at hn ⊢
 have sl:=struck_len b.c (g:=.ne) rfl c
 obtain ⟨sc,sm⟩:=struck_spec b.c (g:=.ne) rfl c
 exact ⟨a,fine_struck b rfl c (by exact l30 1352290274011059503261116025363 rfl hj f sl),c',hn,by exact l20 20009620730897762817 rfl e,by exact l30 330466562557539418978388482 rfl f sl,_,by simp; exact l20 4758485505 rfl p1,AB_z p2 (c:=c) fun v=>(sm v).trans (by unfold saysB; simp)⟩
end Internal
namespace Internal
theorem WA.wx {n:Nat} {first:Int} {xs zs:Prs} (W:WA n first xs zs) {v:Int} (h:mem xs v):mem zs (v.natAbs:Int):=by
 obtain ⟨p,hp,h1,h2⟩:=h
 rcases (W.x1 p hp).2 with g | g
 ·have:=W.z1 p g
  rw [Int.natAbs_of_nonneg (by exact l04 1267993197628755845039200385586 rfl h1 this)]
  exact ⟨p,g,h1,h2⟩
 ·have:=W.z1 _ g
  simp only at this
  have e:(v.natAbs:Int)=-v:=by exact l14 2144330735808382076206019983778447543697845202409951691549353296438820142191401807550453435054643 rfl h2 this (labs _)
  rw [e]
  exact ⟨_,g,by simp only; exact l02 19394832087601 rfl h2,by simp only; exact l02 19405118618161 rfl h1⟩
theorem WA.wz {n:Nat} {first:Int} {xs zs:Prs} (W:WA n first xs zs) {v:Int} (h:mem zs v):0≤v∧v+2≤first∧(mem xs v∨mem xs (-v)):=by
 obtain ⟨p,hp,h1,h2⟩:=h
 have:=W.z1 p hp
 refine ⟨by exact l04 1267993197628755845039200385586 rfl h1 this,by exact l04 5516959721686388074673250476997170 rfl h2 this,?_⟩
 rcases W.x2 p hp with g | g
 ·exact .inl ⟨p,g,h1,h2⟩
 ·exact .inr ⟨_,g,by simp only; exact l02 19394832087601 rfl h2,by simp only; exact l02 19405118618161 rfl h1⟩
theorem mem_sing (p:Int×Int) (v:Int):mem [p] v↔p.1≤v∧v≤p.2:=by rw [mem_cons]; simp [mem_nil]
theorem wd_of {xs zs:Prs} (vx:Val xs) (vz:Val zs) (nx:xs≠[]) (nz:zs≠[]) (lx:xs.length≤7) (lz:zs.length≤4) (bx:Bdd xs) (bz:Bdd zs) (h:AB xs zs []):Wd 0 (mergeP xs) (mergeP zs):=by
 obtain ⟨a1,a2,a3⟩:=merge_spec vx
 obtain ⟨b1,b2,b3⟩:=merge_spec vz
 have ne:∀ {l:Prs},Val l→l≠[]→∃ v,mem l v:=fun {l} hv hn=>by
  cases l with
  | nil=>exact absurd rfl hn
  | cons p l=>exact ⟨p.1,p,List.mem_cons_self,Int.le_refl _,hv p List.mem_cons_self⟩
 obtain ⟨u,hu⟩:=ne vx nx
 obtain ⟨w,hw⟩:=ne vz nz
 refine ⟨⟨a1,fun v hv=>bx v ((a2 v).mp hv),by exact l20 1231669290466757122 rfl lx a3⟩,⟨b1,fun v hv=>bz v ((b2 v).mp hv),by exact l20 1231669290466560514 rfl lz b3⟩,ne_nil_of_mem ((a2 u).mpr hu),ne_nil_of_mem ((b2 w).mpr hw),by exact l20 19700786222483327490 rfl lx a3,by exact l20 19699941797552998914 rfl lz b3,[],by simp,?_⟩
 refine ⟨fun v w hv hw hl=>?_,fun v w hv h0 hw hz hl=>?_⟩
 ·rw [a2] at hv; rw [b2] at hw ⊢; exact h.1 v w hv hw hl
 ·rw [a2] at hw ⊢; rw [b2] at hv hz; rw [a2]; exact h.2 v w hv h0 hw hz hl
theorem far_eq:far=10000000000000000000000000000000000000000:=by decide
theorem WA.top {n:Nat} {first:Int} {xs zs:Prs} (W:WA n first xs zs) (hn:n≤3):first≤3000000000000003000000000000032:=by
 have:=W.f.2
 have h3:(n:Int) * (10 ^ 30+10 ^ 15+10)≤3 * (10 ^ 30+10 ^ 15+10):=Int.mul_le_mul_of_nonneg_right (by exact l10 18917841127937 rfl hn) (by decide)
 exact l02 11840358368523507560466331143352442931164784298959334940931791677328898175754873529433675007455160930707108645133248144012782864946 rfl this h3
theorem WA.valx {n:Nat} {first:Int} {xs zs:Prs} (W:WA n first xs zs):Val xs:=fun p hp=>(W.x1 p hp).1
theorem WA.valz {n:Nat} {first:Int} {xs zs:Prs} (W:WA n first xs zs):Val zs:=fun p hp=>(W.z1 p hp).2.1
theorem WA.b0 {n:Nat} {first:Int} {xs zs:Prs} (W:WA n first xs zs) (h1:0 < n) (hn:n≤3):Wd 0 (mergeP xs) (mergeP zs):=by
 have t:=W.top hn
 have hf:=far_eq
 have l1:=W.l1
 have l2:=W.l2
 refine wd_of W.valx W.valz (W.ne h1).1 (W.ne h1).2 (by exact l20 19776626074243516930 rfl hn l1) (by exact l20 76918194216061442 rfl hn l2) (fun v hv=>?_) (fun v hv=>?_) ⟨fun v w hv hw hl=>.inl (W.wx hv),fun v w hv h0 hw hz hl=>(W.wz hv).2.2.elim .inl fun h=>.inr (.inl h)⟩
 ·have:=W.wz (W.wx hv); rw [hf]; exact l12 361562060043323585341566860231368664726496821272583357049340988279365649176055270964282781360556864169846705099571759662504324454290585465905098586274329348700237475164095964199895026952770590071034392153457024881696197171 rfl t this.2.1 (labs _)
 ·have:=W.wz hv; rw [hf]; exact l02 1128943852297531510658408338337729383623523377917149123803910541387476179009007384892487825054086176621938237035112612527055139814764078376040430852910738453485439370261118544494742067 rfl t this.1 this.2.1
theorem WA.b1 {n:Nat} {first:Int} {xs zs:Prs} (W:WA n first xs zs) (h1:0 < n) (hn:n≤3):Wd 0 (mergeP xs) (mergeP (zs++[(first,first+10 ^ 13)])):=by
 have t:=W.top hn
 have hf:=far_eq
 have l1:=W.l1
 have l2:=W.l2
 have f0:=W.f.1
 have m:∀ v,mem (zs++[(first,first+10 ^ 13)]) v↔mem zs v∨(first≤v∧v≤first+10 ^ 13):=fun v=>by rw [mem_app,mem_sing]
 refine wd_of W.valx (val_app W.valz fun p hp=>by rw [List.mem_singleton] at hp; subst hp; simp only; exact l01 22562463922484544356878896 rfl) (W.ne h1).1 (by simp) (by exact l20 19776626074243516930 rfl hn l1) (by simp; exact l20 76900602030017026 rfl hn l2) (fun v hv=>?_) (fun v hv=>?_) ⟨fun v w hv hw hl=>.inl ((m _).mpr (.inl (W.wx hv))),fun v w hv h0 hw hz hl=>?_⟩
 ·have:=W.wz (W.wx hv); rw [hf]; exact l12 361562060043323585341566860231368664726496821272583357049340988279365649176055270964282781360556864169846705099571759662504324454290585465905098586274329348700237475164095964199895026952770590071034392153457024881696197171 rfl t this.2.1 (labs _)
 ·rcases (m v).mp hv with h | h
  ·have:=W.wz h; rw [hf]; exact l02 1128943852297531510658408338337729383623523377917149123803910541387476179009007384892487825054086176621938237035112612527055139814764078376040430852910738453485439370261118544494742067 rfl t this.1 this.2.1
  ·rw [hf]; exact l02 1364496996090161321234348968577794368213499119774971412844502543918412025206564547603692536846183201278861772241627877061736289457358712890291238155701541673691844770970822719446478533401239331250154332768819 rfl t f0 h
 ·rcases (m v).mp hv with h | h
  ·exact (W.wz h).2.2.elim .inl fun h=>.inr (.inl h)
  ·have:=W.wz (W.wx hw); exact False.elim (l12 1467783678048617622851853708141147514369644067379 rfl hl h this.2.1)
theorem WA.b2 {n:Nat} {first:Int} {xs zs:Prs} (W:WA n first xs zs) (h1:0 < n) (hn:n≤3) {p:Int×Int} (hp:p=(first,first+10 ^ 13)∨p=(0 - first - 10 ^ 13,0 - first)):Wd 0 (mergeP (xs++[p])) (mergeP zs):=by
 have t:=W.top hn
 have hf:=far_eq
 have l1:=W.l1
 have l2:=W.l2
 have f0:=W.f.1
 have m:∀ v,mem (xs++[p]) v→mem xs v∨(first≤(v.natAbs:Int)∧(v.natAbs:Int)≤first+10 ^ 13):=fun v hv=>by
  rw [mem_app,mem_sing] at hv
  rcases hv with h | h
  ·exact .inl h
  ·rcases hp with rfl | rfl<;>simp only at h<;>exact .inr (by first | exact l12 162021223234295901994774236896443609847508272574160473767255053066442458969855039767119893835206858136563200638362035763 rfl f0 h (labs _) | exact l12 10618221627472187355581686110128070476703431536526876556749211729755586538236467691321446117009209513719018078648276111304243 rfl f0 h (labs _))
 have m2:∀ v,mem xs v→mem (xs++[p]) v:=fun v hv=>by rw [mem_app]; exact .inl hv
 refine wd_of (val_app W.valx fun q hq=>by rw [List.mem_singleton] at hq; subst hq; rcases hp with rfl | rfl<;>simp only<;>first | exact l01 22562463922484544356878896 rfl | exact l01 2090003785736481656739432108336 rfl) W.valz (by simp) (W.ne h1).2 (by simp; exact l20 19772122474616146434 rfl hn l1) (by exact l20 76918194216061442 rfl hn l2) (fun v hv=>?_) (fun v hv=>?_) ⟨fun v w hv hw hl=>?_,fun v w hv h0 hw hz hl=>(W.wz hv).2.2.elim (fun h=>.inl (m2 _ h)) fun h=>.inr (.inl (m2 _ h))⟩
 ·rcases m v hv with h | h
  ·have:=W.wz (W.wx h); rw [hf]; exact l12 361562060043323585341566860231368664726496821272583357049340988279365649176055270964282781360556864169846705099571759662504324454290585465905098586274329348700237475164095964199895026952770590071034392153457024881696197171 rfl t this.2.1 (labs _)
  ·rw [hf]; exact l12 1790368496983425794004242082479680522397656218649305064912862166561359586581669689193856982131639143286575498821759907893194533972477010318780149261875846268374861868111019022362094200229557369604226574922962533420995575419017779601675021923622865459 rfl t h (labs _)
 ·have:=W.wz hv; rw [hf]; exact l02 1128943852297531510658408338337729383623523377917149123803910541387476179009007384892487825054086176621938237035112612527055139814764078376040430852910738453485439370261118544494742067 rfl t this.1 this.2.1
 ·rcases m v hv with h | h
  ·exact .inl (W.wx h)
  ·have:=W.wz hw; exact False.elim (l12 23484538846459039447776057801500701307975545562931 rfl hl h this.2.1)
theorem WA.b4 {n:Nat} {first:Int} {xs zs:Prs} (W:WA n first xs zs) (h1:0 < n) (hn:n≤3):Wd 0 (mergeP xs) (mergeP (zs++[(0 - 10 ^ 12,-1)])):=by
 have t:=W.top hn
 have hf:=far_eq
 have l1:=W.l1
 have l2:=W.l2
 have m:∀ v,mem (zs++[(0 - 10 ^ 12,-1)]) v↔mem zs v∨(0 - 10 ^ 12≤v∧v≤-1):=fun v=>by rw [mem_app,mem_sing]
 refine wd_of W.valx (val_app W.valz fun p hp=>by rw [List.mem_singleton] at hp; subst hp; simp only; lia) (W.ne h1).1 (by simp) (by exact l20 19776626074243516930 rfl hn l1) (by simp; exact l20 76900602030017026 rfl hn l2) (fun v hv=>?_) (fun v hv=>?_) ⟨fun v w hv hw hl=>.inl ((m _).mpr (.inl (W.wx hv))),fun v w hv h0 hw hz hl=>?_⟩
 ·have:=W.wz (W.wx hv); rw [hf]; exact l12 361562060043323585341566860231368664726496821272583357049340988279365649176055270964282781360556864169846705099571759662504324454290585465905098586274329348700237475164095964199895026952770590071034392153457024881696197171 rfl t this.2.1 (labs _)
 ·rcases (m v).mp hv with h | h
  ·have:=W.wz h; rw [hf]; exact l02 1128943852297531510658408338337729383623523377917149123803910541387476179009007384892487825054086176621938237035112612527055139814764078376040430852910738453485439370261118544494742067 rfl t this.1 this.2.1
  ·rw [hf]; exact l01 14249083644358823301660805322027487298483425378722151737632726195611726381349696445371434442260921751864449658181972760293394987707054136115154928148026225 rfl h
 ·rcases (m v).mp hv with h | h
  ·exact (W.wz h).2.2.elim .inl fun h=>.inr (.inl h)
  ·exact False.elim (l02 296972887409833780786 rfl h0 h)
theorem WA.b5 {n:Nat} {first:Int} {xs zs:Prs} (W:WA n first xs zs) (h1:0 < n) (hn:n≤3):Wd 0 (mergeP xs) (mergeP [(0 - 10 ^ 12,-1)]):=by
 have t:=W.top hn
 have hf:=far_eq
 have l1:=W.l1
 have l2:=W.l2
 refine wd_of W.valx (fun p hp=>by rw [List.mem_singleton] at hp; subst hp; simp only; lia) (W.ne h1).1 (by simp) (by exact l20 19776626074243516930 rfl hn l1) (by simp) (fun v hv=>?_) (fun v hv=>?_) ⟨fun v w hv hw hl=>?_,fun v w hv h0 hw hz hl=>?_⟩
 ·have:=W.wz (W.wx hv); rw [hf]; exact l12 361562060043323585341566860231368664726496821272583357049340988279365649176055270964282781360556864169846705099571759662504324454290585465905098586274329348700237475164095964199895026952770590071034392153457024881696197171 rfl t this.2.1 (labs _)
 ·rw [mem_sing] at hv; simp only at hv; rw [hf]; exact l01 14249083644358823301660805322027487298483425378722151737632726195611726381349696445371434442260921751864449658181972760293394987707054136115154928148026225 rfl hv
 ·rw [mem_sing] at hw; simp only at hw; exact False.elim (l12 5028730379974507631474 rfl hw hl)
 ·rw [mem_sing] at hv; simp only at hv; exact False.elim (l02 314294454573685150578 rfl hv h0)
theorem few_fine {low hi:Int} {X:Prs} (h:FewR low hi X) (h1 : -6≤low) (h2:hi≤6):Fine X∧X≠[]∧In6 X:=by
 obtain ⟨a,b,c,d⟩:=h
 have hf:=far_eq
 exact ⟨⟨a,fun v hv=>by have:=d v hv; rw [hf]; exact l03 217423738907174304830220942351819154044579219709191737633675922778702981516172509024684989009195178566384895634585734028048668076201528760920988599091 rfl h1 h2 this,by exact l10 19225516591617 rfl c⟩,b,fun v hv=>by have:=d v hv; exact l03 23700007642486457440376039005256794493043507 rfl h1 h2 this⟩
theorem both_fine {X Z:Prs} (fX:Fine X) (fZ:Fine Z) (nX:X≠[]) (hl:X.length+Z.length≤17):Fine (mergeP (X++Z))∧mergeP (X++Z)≠[]∧(mergeP (X++Z)).length≤17:=by
 refine byc fun hNN=>?_
 obtain ⟨a,b,c⟩:=merge_spec (val_app fX.c.1 fZ.c.1)
 rw [List.length_append] at c
 obtain ⟨v,hv⟩:=canon_ne_nil fX.c nX
 refine hNN ?_
 refine ⟨⟨a,fun v hv=>?_,by exact l30 1291498930242271568437250 rfl hl c⟩,ne_nil_of_mem ((b v).mpr ((mem_app _ _ _).mpr (.inl hv))),by exact l30 1289967845980554048282626 rfl hl c⟩
 rw [b,mem_app] at hv
 exact hv.elim (fX.b v) (fZ.b v)
end Internal
namespace Internal
open PySem
section
variable {Γ:Fn→List AV→AH→P1→Prop} {lv:Fn→Nat} {k:Nat} {H:AH} {Q:P1} {B:PB} {ρ:Ev} {A:DA} {S:DS}
noncomputable def DrawΓ (Γ:Fn→List AV→AH→P1→Prop):Prop:=∀ (t:Addr) (n:Nat) (m:Int) (H:AH) (Q:P1),Tub H t n→n < 10000→0 < m→(∀ r H',0≤r→r < m→Tub H' t (n+1)→(∀ b,b≠t→H' b=H b)→Q (.int r) H')→Γ .law_draw [.obj t,.int m] H Q
noncomputable def MergedΓ (Γ:Fn→List AV→AH→P1→Prop):Prop:=∀ (v:AV) (l:Prs) (H:AH) (Q:P1),itemsOf H v=some (encPs l)→v≠.unb→l.length < 64→Q (.lst (encPs (mergeP l))) H→Γ .law_merged [v] H Q
theorem few_loop {t:Addr} {lo hi:Int} {step:AV→List AV→AH→PL→Prop}
  (hs:∀ x acc n H (C:PL),Tub H t n→n < 10000→acc.length < LIM→(∀ v H',lo≤v→v < hi→Tub H' t (n+1)→(∀ b,b≠t→H' b=H b)→C (acc++[.int v]) H')→step x acc H C):
  ∀ (items acc:List AV) (n:Nat) (H:AH) (P:PL),Tub H t n→n+items.length < 10000→acc.length+items.length < LIM→(∀ (vs:List Int) H',vs.length=items.length→(∀ v∈vs,lo≤v∧v < hi)→Tub H' t (n+items.length)→(∀ b,b≠t→H' b=H b)→P (acc++vs.map .int) H')→loopC step items acc H P
 | [],acc,n,H,P,T,hn,hl,h=>by
  have:=h [] H rfl (fun v hv=>by cases hv) T (fun b uu=>rfl)
  simpa [loopC] using this
 | x::xs,acc,n,H,P,T,hn,hl,h=>by
  show step x acc H _
  simp only [List.length_cons] at hn hl
  refine hs x acc n H _ T (by exact l20 332136583863728209671528465 rfl hn) (by exact l30 312956108709905 rfl hl) fun v H' h1 h2 T' ho=>?_
  refine few_loop hs xs _ (n+1) H' P T' (by exact l20 21766903166130235087090393063441 rfl hn) (by simp; exact l30 20515479607028260881 rfl hl) fun vs H'' e hv T'' ho'=>?_
  have:=h (v::vs) H'' (by simp [e]) (fun w hw=>by
   rcases List.mem_cons.mp hw with rfl | hw
   ·exact ⟨h1,h2⟩
   ·exact hv w hw) (by rw [List.length_cons,Nat.add_comm xs.length 1,← Nat.add_assoc]; exact T'') (fun b hb=>(ho' b hb).trans (ho b hb))
  simpa using this
theorem upto_len (lo hi:Int):(upto lo hi).length=(hi - lo).toNat:=by unfold upto; simp
theorem few_walk (hD:DrawΓ Γ) (hM:MergedΓ Γ) {t:Addr} {n:Nat} {lo many:Int} (T:Tub H t n) (hn:n < 1000) (hm:0 < many)
  (h:∀ (vs:List Int) H' n',n'≤n+7→vs≠[]→vs.length≤6→(∀ v∈vs,lo≤v∧v < lo+many)→Tub H' t n'→(∀ b,b≠t→H' b=H b)→Q (.lst (encPs (mergeP (vs.map fun v=>(v,v))))) H'):
  meets Γ lvl .law_few [.obj t,.int lo,.int many] H Q:=by
 refine meets_of rfl ?_
 dsimp only [bodyOf,b_law_few,scOf,init2]
 walk_at "wk"
 refine r_comp rfl ?_
 walk_at "wk"
 refine r_comp rfl ?_
 walk_at "wk"
 refine hD t n 6 _ _ T (by exact l10 316750129569547700753 rfl hn) (by decide) fun r H1 r1 r2 T1 o1=>?_
 walk_at "wk"
 refine r_rng1 (y:=1+r) (by exact l01 1212529485361 rfl r1) (by exact l01 19796883099141687873 rfl r2) (r_itR (by exact l01 1212529485361 rfl r1) (by exact l01 19796883099141687873 rfl r2) ?_)
 have ul:=upto_len 0 (1+r)
 refine few_loop (t:=t) (lo:=lo) (hi:=lo+many) (fun x acc n H C T hn hl hC=>?_) _ [] (n+1) H1 _ T1 (by rw [List.length_map,ul]; exact l21 7265282465166270258850554073315282317210091573881694659526413288665427495443 rfl hn r2 (ltoN _)) (by rw [List.length_map,ul]; unfold LIM; simp; exact l01 5089903427987270158913 rfl r2) fun vs H2 e hv T2 o2=>?_
 ·refine r_asgCN rfl ?_
  walk_at "wk"
  refine hD t n many _ _ T hn hm fun r H' r1 r2 T' o'=>?_
  walk_at "wk"
  exact ⟨hl,hC _ _ (by exact l02 1214145340977 rfl r1) (by exact l03 311989310372417 rfl r2) T' o'⟩
 rw [List.length_map,ul] at e
 have evl:vs.length≤6:=by exact l21 6607735539710438444872016773014281951151231461114945146095815235 rfl r2 e (ltoN _)
 rw [List.nil_append]
 refine ⟨by rw [List.length_map]; unfold LIM; exact l10 19882435265570425345 rfl evl,.inr (r_itL ?_)⟩
 refine loopC_fa .int (g:=fun v=>some (encP (v,v))) vs [] _ (by simp; unfold LIM; exact l10 19882435265571473921 rfl evl) (fun v hv acc C hlt hC=>?_) ?_
 ·refine r_asgCN rfl ?_
  walk_at "wk"
  exact ⟨hlt,hC⟩
 ·rw [filterMap_all,List.nil_append]
  have e3:vs.map (fun p=>encP (p,p))=encPs (vs.map fun v=>(v,v)):=by unfold encPs; rw [List.map_map]; rfl
  rw [e3]
  refine ⟨by rw [encPs_len,List.length_map]; unfold LIM; exact l10 19882435265570425345 rfl evl,.inr ?_⟩
  walk_at "wk"
  refine hM _ _ _ _ rfl (fun e=>by cases e) (by rw [List.length_map]; exact l10 300752032909825 rfl evl) ?_
  walk_at "wk"
  exact ends_same (h vs H2 _ (by rw [List.length_map,ul]; exact l30 20629450505703294588992034 rfl e evl) (fun e'=>by subst e'; simp at e; exact l11 91367547217348604793688876397819543964751144499 rfl r1 e (ltoN _)) evl hv T2 fun b hb=>(o2 b hb).trans (o1 b hb))
theorem ends_del {H0:AH} {a:Addr} {l:List AV} (h0:H0 a=none) (ha:H a=some (.list l)) (h:Q (.lst l) (fun b=>if b=a then none else H b)):ends0 H0 Q (.obj a) H:=
 ⟨.lst l,_,⟨fun b o e=>by
  by_cases hb:b=a
  ·rw [if_pos hb] at e; cases e
  ·rw [if_neg hb] at e; exact e,.inr ⟨a,l,rfl,rfl,h0,ha,if_pos rfl⟩⟩,h⟩
theorem q_ixT {l:List AV} (i:Nat) {c:Int} {v:AV} (e:c=i) (h:l[i]?=some v) (q:Q v H):getIt H (.tup l) (.int c) Q:=by subst e; exact q_ixG rfl h q
theorem q_ixL {l:List AV} (i:Nat) {c:Int} {v:AV} (e:c=i) (h:l[i]?=some v) (q:Q v H):getIt H (.lst l) (.int c) Q:=by subst e; exact q_ixG rfl h q
theorem pick4 {c r:Int} (h1:0≤c) (h2:c < 4) (r1:0≤r) (r2:r < 6) (h:∀ e:Int,0≤e→e≤10 ^ 30→Q (.int e) H):getIt H (.tup [.int 0,.int r,.int (10 ^ 12),.int (10 ^ 30)]) (.int c) Q:=by
 have:c=0∨c=1∨c=2∨c=3:=by exact l01 3121796382118771767527901209251387839418489107330488036542620050150195243866959422968587398567566845036696765238065139358793572950249661297632818 rfl h1 h2
 rcases this with e | e | e | e
 ·refine q_ixT 0 e rfl ?_; exact h _ (by decide) (by decide)
 ·refine q_ixT 1 e rfl ?_; exact h _ r1 (by exact l01 6402564171421854194192092063390648229042382884457025 rfl r2)
 ·refine q_ixT 2 e rfl ?_; exact h _ (by decide) (by decide)
 ·refine q_ixT 3 e rfl ?_; exact h _ (by decide) (by decide)
theorem pick3 {c:Int} (h1:0≤c) (h2:c < 3) (h:∀ e:Int,0≤e→e≤10 ^ 15→Q (.int e) H):getIt H (.tup [.int 0,.int 3,.int (10 ^ 15)]) (.int c) Q:=by
 have:c=0∨c=1∨c=2:=by exact l01 110455013389726527234817014587684456708726873037018411929841023022573106 rfl h1 h2
 rcases this with e | e | e
 ·refine q_ixT 0 e rfl ?_; exact h _ (by decide) (by decide)
 ·refine q_ixT 1 e rfl ?_; exact h _ (by decide) (by decide)
 ·refine q_ixT 2 e rfl ?_; exact h _ (by decide) (by decide)
theorem pickY {c f l:Int} (h1:0≤c) (h2:c < 3) (h:∀ ys:Prs,ys=[(f,l),(0 - l,0 - f)]∨ys=[(f,l)]∨ys=[(0 - l,0 - f)]→Q (.lst (encPs ys)) H):
  getIt H (.lst [.lst [.tup [.int f,.int l],.tup [.int (0 - l),.int (0 - f)]],.lst [.tup [.int f,.int l]],.lst [.tup [.int (0 - l),.int (0 - f)]]]) (.int c) Q:=by
 have:c=0∨c=1∨c=2:=by exact l01 110455013389726527234817014587684456708726873037018411929841023022573106 rfl h1 h2
 rcases this with e | e | e
 ·refine q_ixL 0 e rfl ?_; exact h _ (.inl rfl)
 ·refine q_ixL 1 e rfl ?_; exact h _ (.inr (.inl rfl))
 ·refine q_ixL 2 e rfl ?_; exact h _ (.inr (.inr rfl))
theorem q_extL {a:Addr} {l m:List AV} (h:H a=some (.list l)) (hl:(l++m).length≤LIM) (q:Q .none (upd H a (.list (l++m)))):callM Γ lv k .ext (.obj a) [.lst m] H Q:=
 ⟨a,l,rfl,h,.inl ⟨_,m,rfl,rfl,hl,q⟩⟩
theorem Tub.off {t:Addr} {n:Nat} (T:Tub H t n) {a:Addr} {o:AO} (h:a≠t):Tub (upd H a o) t n:=by
 refine byc fun hNN=>?_
 obtain ⟨is,h1,h2⟩:=T
 refine hNN ?_
 exact ⟨is,h1,by rw [upd_ne _ (Ne.symm h)]; exact h2⟩
theorem Tub.same {t:Addr} {n:Nat} {H':AH} (T:Tub H t n) (h:H' t=H t):Tub H' t n:=by
 obtain ⟨is,h1,h2⟩:=T
 exact ⟨is,h1,by rw [h]; exact h2⟩
theorem Tub.some {t:Addr} {n:Nat} (T:Tub H t n):H t≠none:=by
 obtain ⟨is,h1,h2⟩:=T
 rw [h2]; simp
end
end Internal
namespace Internal
open PySem
noncomputable abbrev wρ (tub first xs zs lap kind way last beyond lots side pair k left:AV):Ev:=
 [(.tub,.loc,tub),(.first,.loc,first),(.xs,.loc,xs),(.zs,.loc,zs),(.lap,.loc,lap),(.kind,.loc,kind),(.way,.loc,way),(.last,.loc,last),(.beyond,.loc,beyond),(.lots,.loc,lots),(.side,.loc,side),(.pair,.loc,pair),(.k,.loc,k),(.left,.loc,left),(.law_draw,.glo,.unb),(.range,.glo,.unb),(.law_merged,.glo,.unb),(.len,.glo,.unb),(.law_cut,.glo,.unb)]
noncomputable def wS1:S:=(.assign (.tup [.first,.xs,.zs]) (.tup (.cons (.call .law_draw (.cons (.name .tub) (.cons (.int 3) .nil))) (.cons (.list .nil) (.cons (.list .nil) .nil)))))
noncomputable def wS2_1:S:=(.assign (.tup [.kind,.way]) (.tup (.cons (.call .law_draw (.cons (.name .tub) (.cons (.int 4) .nil))) (.cons (.call .law_draw (.cons (.name .tub) (.cons (.int 3) .nil))) .nil))))
noncomputable def wS2_2:S:=(.assign (.name .last) (.bin .add (.name .first) (.sub (.tup (.cons (.int 0) (.cons (.call .law_draw (.cons (.name .tub) (.cons (.int 6) .nil))) (.cons (.bin .pow (.int 10) (.int 12)) (.cons (.bin .pow (.int 10) (.int 30)) .nil))))) (.name .kind))))
noncomputable def wS2_3:S:=(.expr (.meth (.name .zs) .append (.cons (.tup (.cons (.name .first) (.cons (.name .last) .nil))) .nil)))
noncomputable def wS2_4:S:=(.expr (.meth (.name .xs) .extend (.cons (.sub (.list (.cons (.list (.cons (.tup (.cons (.name .first) (.cons (.name .last) .nil))) (.cons (.tup (.cons (.bin .sub (.int 0) (.name .last)) (.cons (.bin .sub (.int 0) (.name .first)) .nil))) .nil))) (.cons (.list (.cons (.tup (.cons (.name .first) (.cons (.name .last) .nil))) .nil)) (.cons (.list (.cons (.tup (.cons (.bin .sub (.int 0) (.name .last)) (.cons (.bin .sub (.int 0) (.name .first)) .nil))) .nil)) .nil)))) (.name .way)) .nil)))
noncomputable def wS2_5:S:=(.assign (.name .first) (.bin .add (.bin .add (.name .last) (.int 2)) (.sub (.tup (.cons (.int 0) (.cons (.int 3) (.cons (.bin .pow (.int 10) (.int 15)) .nil)))) (.call .law_draw (.cons (.name .tub) (.cons (.int 3) .nil))))))
noncomputable def wB2:Ss:=(.cons wS2_1 (.cons wS2_2 (.cons wS2_3 (.cons wS2_4 (.cons wS2_5 .nil)))))
noncomputable def wS2:S:=(.forr (.name .lap) (.e (.call .range (.cons (.bin .add (.int 1) (.call .law_draw (.cons (.name .tub) (.cons (.int 3) .nil)))) .nil))) wB2)
noncomputable def wS3:S:=(.assign (.name .beyond) (.call .law_draw (.cons (.name .tub) (.cons (.int 6) .nil))))
noncomputable def wS4:S:=(.ite (.cmp .eq (.name .beyond) (.int 1)) (.cons (.expr (.meth (.name .zs) .append (.cons (.tup (.cons (.name .first) (.cons (.bin .add (.name .first) (.bin .pow (.int 10) (.int 13))) .nil))) .nil))) .nil) .nil)
noncomputable def wS5:S:=(.ite (.or (.cmp .eq (.name .beyond) (.int 2)) (.cmp .eq (.name .beyond) (.int 3))) (.cons (.expr (.meth (.name .xs) .append (.cons (.ife (.cmp .eq (.name .beyond) (.int 2)) (.tup (.cons (.name .first) (.cons (.bin .add (.name .first) (.bin .pow (.int 10) (.int 13))) .nil))) (.tup (.cons (.bin .sub (.bin .sub (.int 0) (.name .first)) (.bin .pow (.int 10) (.int 13))) (.cons (.bin .sub (.int 0) (.name .first)) .nil)))) .nil))) .nil) .nil)
noncomputable def wS6:S:=(.ite (.cmp .gt (.name .beyond) (.int 3)) (.cons (.assign (.name .zs) (.bin .add (.ife (.cmp .eq (.call .law_draw (.cons (.name .tub) (.cons (.int 4) .nil))) (.int 3)) (.list .nil) (.name .zs)) (.list (.cons (.tup (.cons (.bin .sub (.int 0) (.bin .pow (.int 10) (.int 12))) (.cons (.neg (.int 1)) .nil))) .nil)))) .nil) .nil)
noncomputable def wS7:S:=(.assign (.name .lots) (.list (.cons (.call .law_merged (.cons (.name .xs) .nil)) (.cons (.call .law_merged (.cons (.name .zs) .nil)) .nil))))
noncomputable def wS8_1:S:=(.assign (.name .side) (.call .law_draw (.cons (.name .tub) (.cons (.int 2) .nil))))
noncomputable def wS8_2:S:=(.assign (.name .pair) (.sub (.sub (.name .lots) (.name .side)) (.call .law_draw (.cons (.name .tub) (.cons (.call .len (.cons (.sub (.name .lots) (.name .side)) .nil)) .nil)))))
noncomputable def wS8_3:S:=(.assign (.name .k) (.ife (.cmp .eq (.call .law_draw (.cons (.name .tub) (.cons (.int 2) .nil))) (.int 0)) (.bin .add (.sub (.name .pair) (.int 0)) (.call .law_draw (.cons (.name .tub) (.cons (.int 2) .nil)))) (.bin .sub (.sub (.name .pair) (.int 1)) (.call .law_draw (.cons (.name .tub) (.cons (.int 2) .nil))))))
noncomputable def wS8_4:S:=(.assign (.name .left) (.call .law_cut (.cons (.sub (.name .lots) (.name .side)) (.cons (.tup (.cons (.name .side) (.cons (.str .ne) (.cons (.name .k) .nil)))) .nil))))
noncomputable def wS8_5:S:=(.assign (.sub (.name .lots) (.name .side)) (.ife (.cmp .ne (.name .left) (.list .nil)) (.name .left) (.sub (.name .lots) (.name .side))))
noncomputable def wB8:Ss:=(.cons wS8_1 (.cons wS8_2 (.cons wS8_3 (.cons wS8_4 (.cons wS8_5 .nil)))))
noncomputable def wS8:S:=(.forr (.name .lap) (.e (.call .range (.cons (.call .law_draw (.cons (.name .tub) (.cons (.int 4) .nil))) .nil))) wB8)
noncomputable def wS9:S:=(.ret (.name .lots))
theorem wide_body:bodyOf .law_wide=(.cons wS1 (.cons wS2 (.cons wS3 (.cons wS4 (.cons wS5 (.cons wS6 (.cons wS7 (.cons wS8 (.cons wS9 .nil))))))))):=rfl
structure WS (H0:AH) (t a b:Addr) (n:Nat) (xs zs:Prs) (H:AH):Prop where
 T:Tub H t n
 xa:H a=some (.list (encPs xs))
 zb:H b=some (.list (encPs zs))
 a0:H0 a=none
 b0:H0 b=none
 ab:a≠b
 keep:∀ c,c≠t→H0 c≠none→H c=H0 c
theorem WS.at_ {H0 H:AH} {t a b:Addr} {n:Nat} {xs zs:Prs} (W:WS H0 t a b n xs zs H):a≠t∧b≠t:=by
 obtain ⟨is,h1,h2⟩:=W.T
 refine ⟨fun e=>?_,fun e=>?_⟩
 ·have:=W.xa; rw [e,h2] at this; cases this
 ·have:=W.zb; rw [e,h2] at this; cases this
theorem WS.draw {H0 H H':AH} {t a b:Addr} {n m:Nat} {xs zs:Prs} (W:WS H0 t a b n xs zs H) (T:Tub H' t m) (o:∀ b,b≠t→H' b=H b):WS H0 t a b m xs zs H':=
 ⟨T,by rw [o a W.at_.1]; exact W.xa,by rw [o b W.at_.2]; exact W.zb,W.a0,W.b0,W.ab,fun c h1 h2=>(o c h1).trans (W.keep c h1 h2)⟩
theorem WS.setX {H0 H:AH} {t a b:Addr} {n:Nat} {xs zs:Prs} (W:WS H0 t a b n xs zs H) (ys:Prs):WS H0 t a b n ys zs (upd H a (.list (encPs ys))):=
 ⟨W.T.off W.at_.1,upd_at _ _,by rw [upd_ne _ (Ne.symm W.ab)]; exact W.zb,W.a0,W.b0,W.ab,fun c h1 h2=>by rw [upd_ne _ (fun e=>h2 (by rw [e]; exact W.a0))]; exact W.keep c h1 h2⟩
theorem WS.setZ {H0 H:AH} {t a b:Addr} {n:Nat} {xs zs:Prs} (W:WS H0 t a b n xs zs H) (ys:Prs):WS H0 t a b n xs ys (upd H b (.list (encPs ys))):=
 ⟨W.T.off W.at_.2,by rw [upd_ne _ W.ab]; exact W.xa,upd_at _ _,W.a0,W.b0,W.ab,fun c h1 h2=>by rw [upd_ne _ (fun e=>h2 (by rw [e]; exact W.b0))]; exact W.keep c h1 h2⟩
section
variable {Γ:Fn→List AV→AH→P1→Prop} {lv:Fn→Nat} {k:Nat} {H H0:AH} {Q:P1} {B:PB} {ρ:Ev}
theorem wide_step (hD:DrawΓ Γ) {t a b:Addr} {n j:Nat} {first:Int} {xs zs:Prs} {lap kind way last:AV} {C:PS} (W:WS H0 t a b n xs zs H) (WAj:WA j first xs zs) (hj:j < 3) (hn:n < 9000)
  (h:∀ H' first' xs' zs' kind' way' last',WS H0 t a b (n+4) xs' zs' H'→WA (j+1) first' xs' zs'→C .next (wρ (.obj t) (.int first') (.obj a) (.obj b) lap kind' way' last' .unb .unb .unb .unb .unb .unb) H'):
  trSs Γ lvl (lvl .law_wide) wB2 (wρ (.obj t) (.int first) (.obj a) (.obj b) lap kind way last .unb .unb .unb .unb .unb .unb) H C:=by
 have lz:=WAj.l2
 have lx:=WAj.l1
 unfold wB2 wS2_1 wS2_2 wS2_3 wS2_4 wS2_5
 walk_at "wk"
 refine hD t n 4 _ _ W.T (by exact l10 5068002073115436272145 rfl hn) (by decide) fun kd H1 k1 k2 T1 o1=>?_
 have W1:=W.draw T1 o1
 walk_at "wk"
 refine hD t (n+1) 3 _ _ T1 (by exact l10 1297408529465713750460945 rfl hn) (by decide) fun wy H2 y1 y2 T2 o2=>?_
 have W2:=W1.draw T2 o2
 walk_at "wk"
 refine hD t (n+2) 6 _ _ T2 (by exact l10 20758536456426494012967441 rfl hn) (by decide) fun r H3 r1 r2 T3 o3=>?_
 have W3:=W2.draw T3 o3
 walk_at "wk"
 refine ⟨12,rfl,rfl,by decide,?_⟩
 walk_at "wk"
 refine ⟨30,rfl,rfl,by decide,?_⟩
 walk_at "wk"
 refine pick4 k1 k2 r1 r2 fun e e1 e2=>?_
 walk_at "wk"
 refine r_appm W3.zb ?_
 walk_at "wk"
 refine r_app W3.zb (by rw [encPs_len]; unfold LIM; exact l20 1290364274462479832271378 rfl hj lz) ?_
 rw [← encPs_snoc (p:=(first,first+e))]
 have W4:=W3.setZ (zs++[(first,first+e)])
 generalize upd H3 b (.list (encPs (zs++[(first,first+e)])))=H4 at W4 ⊢
 walk_at "wk"
 refine q_extend W4.xa ?_
 walk_at "wk"
 refine r_lst rfl ?_
 walk_at "wk"
 refine r_lst rfl ?_
 walk_at "wk"
 refine r_lst rfl ?_
 walk_at "wk"
 refine r_lst rfl ?_
 walk_at "wk"
 refine pickY y1 y2 fun ys hy=>?_
 have hyl:ys.length≤2:=by rcases hy with rfl | rfl | rfl<;>exact Nat.le_of_ble_eq_true rfl
 walk_at "wk"
 refine q_extL W4.xa (by rw [List.length_append,encPs_len,encPs_len]; unfold LIM; exact l30 88639104504904479888493394188782099 rfl hj lx hyl) ?_
 walk_at "wk"
 rw [← encPs_app]
 have W5:=W4.setX (xs++ys)
 generalize upd H4 a (.list (encPs (xs++ys)))=H5 at W5 ⊢
 walk_at "wk"
 refine ⟨15,rfl,rfl,by decide,?_⟩
 walk_at "wk"
 refine hD t (n+3) 3 _ _ W5.T (by exact l10 20758536460930093640337937 rfl hn) (by decide) fun g H6 g1 g2 T6 o6=>?_
 have W6:=W5.draw T6 o6
 walk_at "wk"
 refine pick3 g1 g2 fun g h1 h2=>?_
 walk_at "wk"
 exact h H6 _ _ _ _ _ _ W6 (WAj.step (last:=first+e) (by exact l02 1214145340977 rfl e1) (by exact l03 311989310306865 rfl e2) h1 h2 hy)
theorem wide_loop (hD:DrawΓ Γ) {t a b:Addr}:∀ (items:List AV) (n j:Nat) (first:Int) (xs zs:Prs) (lap kind way last:AV) (H:AH) (C:PS),WS H0 t a b n xs zs H→WA j first xs zs→j+items.length≤3→n+4 * items.length < 9000→
  (∀ H' n' first' xs' zs' lap' kind' way' last',n'=n+4 * items.length→WS H0 t a b n' xs' zs' H'→WA (j+items.length) first' xs' zs'→C .next (wρ (.obj t) (.int first') (.obj a) (.obj b) lap' kind' way' last' .unb .unb .unb .unb .unb .unb) H')→
  loopF (fun w ρ1 H2 C=>asgC (.name .lap) w ρ1 fun ρ2=>trSs Γ lvl (lvl .law_wide) wB2 ρ2 H2 C) items (wρ (.obj t) (.int first) (.obj a) (.obj b) lap kind way last .unb .unb .unb .unb .unb .unb) H C
 | [],n,j,first,xs,zs,lap,kind,way,last,H,C,W,WAj,hj,hn,h=>h H n first xs zs lap kind way last rfl W WAj
 | w::items,n,j,first,xs,zs,lap,kind,way,last,H,C,W,WAj,hj,hn,h=>by
  simp only [List.length_cons] at hj hn
  rw [loopF]
  refine ⟨rfl,?_⟩
  refine wide_step hD (lap:=w) W WAj (by exact l20 77487065229467649 rfl hj) (by exact l20 84988506516468976862588215313 rfl hn) fun H' first' xs' zs' kind' way' last' W' WA'=>?_
  refine wide_loop hD items (n+4) (j+1) first' xs' zs' w kind' way' last' H' C W' WA' (by exact l20 5078284272584929353729 rfl hj) (by exact l20 22813928507380870801273097865945849873 rfl hn) fun H'' n'' f'' x'' z'' l'' k'' w'' la'' e W'' WA''=>?_
  refine h H'' n'' f'' x'' z'' l'' k'' w'' la'' (by simp only [List.length_cons]; exact l30 1272931622742910841990547507745 rfl e) W'' ?_
  rw [List.length_cons,Nat.add_comm items.length 1,← Nat.add_assoc]; exact WA''
end
end Internal
namespace Internal
open PySem
section
variable {Γ:Fn→List AV→AH→P1→Prop} {lv:Fn→Nat} {k:Nat} {H H0:AH} {Q:P1} {B:PB} {ρ:Ev}
theorem k_expr (hD:DrawΓ Γ) (hk:lvl .law_draw < k) {t:Addr} {n:Nat} {lo hi:Int} {P:P1} (T:Tub H t n) (hn:n < 9000) (e1:look ρ .tub=some (.loc,.obj t)) (e2:look ρ .pair=some (.loc,.tup [.int lo,.int hi])) (e3:look ρ .law_draw=some (.glo,.unb))
  (h:∀ kk H',Tub H' t (n+2)→(∀ b,b≠t→H' b=H b)→P (.int kk) H'):
  trE Γ lvl k (.ife (.cmp .eq (.call .law_draw (.cons (.name .tub) (.cons (.int 2) .nil))) (.int 0)) (.bin .add (.sub (.name .pair) (.int 0)) (.call .law_draw (.cons (.name .tub) (.cons (.int 2) .nil)))) (.bin .sub (.sub (.name .pair) (.int 1)) (.call .law_draw (.cons (.name .tub) (.cons (.int 2) .nil))))) ρ H P:=by
 have hk':Nat.blt (lvl .law_draw) k=true:=Nat.ble_eq_true_of_le hk
 have c:∀ {m:Int} {P:P1} {H:AH} {n:Nat},Tub H t n→n < 10000→0 < m→(∀ r H',0≤r→r < m→Tub H' t (n+1)→(∀ b,b≠t→H' b=H b)→P (.int r) H')→trE Γ lvl k (.call .law_draw (.cons (.name .tub) (.cons (.int m) .nil))) ρ H P:=fun {m P H n} T h1 h2 h=>
  r_call e3 (r_es1 (r_nm e1 rfl (r_es1 (r_int (r_es0 (r_callF rfl hk' (hD t n m _ _ T h1 h2 h)))))))
 refine r_ife (r_tcmp (c T (by exact l10 5068002073115436272145 rfl hn) (by decide) fun r H1 r1 r2 T1 o1=>r_int (r_eq ⟨fun uu=>?_,fun uu=>?_⟩)))
 ·exact r_bin (r_sub (r_nm e2 rfl (r_int (r_fst (c T1 (by exact l10 1297408529465713750460945 rfl hn) (by decide) fun s H2 s1 s2 T2 o2=>r_add (h _ _ T2 fun b hb=>(o2 b hb).trans (o1 b hb)))))))
 ·exact r_bin (r_sub (r_nm e2 rfl (r_int (r_snd (c T1 (by exact l10 1297408529465713750460945 rfl hn) (by decide) fun s H2 s1 s2 T2 o2=>r_sb (h _ _ T2 fun b hb=>(o2 b hb).trans (o1 b hb)))))))
theorem enc_at {p:Prs} {i:Nat} (h:i < p.length):∃ q:Int×Int,(encPs p)[i]?=some (.tup [.int q.1,.int q.2]):=
 ⟨p[i],by unfold encPs; rw [List.getElem?_map,List.getElem?_eq_getElem h]; rfl⟩
theorem gone_step (hD:DrawΓ Γ) (hC:CutΓ Γ) {t L:Addr} {n j:Nat} {X Z:Prs} {f xs zs lap kind way last beyond side pair kk left:AV} {C:PS} (T:Tub H t n) (hL:H L=some (.list (encLs [X,Z]))) (W:Wd j X Z) (hj:j < 40) (hn:n < 8000)
  (h:∀ H' X' Z' side' pair' k' left',Tub H' t (n+4)→H' L=some (.list (encLs [X',Z']))→(∀ b,b≠t→b≠L→H' b=H b)→Wd (j+1) X' Z'→C .next (wρ (.obj t) f xs zs lap kind way last beyond (.obj L) side' pair' k' left') H'):
  trSs Γ lvl (lvl .law_wide) wB8 (wρ (.obj t) f xs zs lap kind way last beyond (.obj L) side pair kk left) H C:=by
 have hLt:L≠t:=fun e=>by
  obtain ⟨is,h1,h2⟩:=T
  rw [e,h2] at hL; cases hL
 unfold wB8 wS8_1 wS8_2 wS8_3 wS8_4 wS8_5
 walk_at "wk"
 refine hD t n 2 _ _ T (by exact l10 5068002073112763451921 rfl hn) (by decide) fun s H1 s1 s2 T1 o1=>?_
 have hL1:H1 L=some (.list (encLs [X,Z])):=by rw [o1 L hLt]; exact hL
 obtain ⟨i,rfl,p,hp,hi,fp,np⟩:∃ i:Nat,s=i∧∃ p,[X,Z][i]?=some p∧i < 2∧Fine p∧p≠[]:=by
  have:s=0∨s=1:=by exact l01 1334441843014348812780797650574550578 rfl s1 s2
  rcases this with rfl | rfl
  ·exact ⟨0,rfl,X,rfl,by lia,W.fX,W.nX⟩
  ·exact ⟨1,rfl,Z,rfl,by lia,W.fZ,W.nZ⟩
 have nP:∀ {G:AH} {P:P1},G L=some (.list (encLs [X,Z]))→P (.lst (encPs p)) G→getIt G (.obj L) (.int i) P:=fun {G P} hG=>r_ix (by simp [itemsOf,hG]) (encLs_at hp)
 have pl:0 < p.length:=List.length_pos_iff.mpr np
 walk_at "wk"
 refine nP hL1 ?_
 walk_at "wk"
 refine nP hL1 ?_
 walk_at "wk"
 rw [encPs_len]
 refine hD t (n+1) _ _ _ T1 (by exact l10 1297408529465711077640721 rfl hn) (by exact l10 75822835217 rfl pl) fun r H2 r1 r2 T2 o2=>?_
 obtain ⟨ri,rfl⟩:∃ ri:Nat,r=ri:=⟨r.toNat,by exact l11 5987777939529122369632691486952872173353635187041842 rfl r1 (ltoN _)⟩
 obtain ⟨q,hq⟩:=enc_at (p:=p) (i:=ri) (by exact l20 1218188912449 rfl r2)
 have hL2:H2 L=some (.list (encLs [X,Z])):=by rw [o2 L hLt]; exact hL1
 refine r_ix rfl hq ?_
 refine r_can rfl (r_kn (r_ss (r_asg ?_)))
 refine k_expr hD (Nat.le_of_ble_eq_true rfl) T2 (by exact l10 331986353239762793574976017 rfl hn) rfl rfl rfl fun kv H3 T3 o3=>?_
 have hL3:H3 L=some (.list (encLs [X,Z])):=by rw [o3 L hLt]; exact hL2
 walk_at "wk"
 refine nP hL3 ?_
 walk_at "wk"
 have fl:=fp.l
 have cl:=com_cut_len fp.c .ne kv
 refine hC _ .ne kv p _ _ rfl (by exact l10 77121414728796689 rfl fl) (by exact l20 1289658333144938631154194 rfl fl cl) ?_
 have il:i < (encLs [X,Z]).length:=hi
 have ok:∀ b,b≠t→H3 b=H b:=fun b hb=>((o3 b hb).trans (o2 b hb)).trans (o1 b hb)
 walk_at "wk"
 refine r_lst rfl (q_neL _ [] ⟨fun hne=>?_,fun he=>?_⟩)
 ·have hne':cutP p .ne kv≠[]:=by simpa using hne
  walk_at "wk"
  refine q_setO hL3 il ?_
  walk_at "wk"
  have:i=0∨i=1:=by exact l10 79558204003906001847338706753 rfl s2
  rcases this with rfl | rfl
  ·cases hp
   exact h _ (cutP X .ne kv) Z _ _ _ _ (T3.off hLt) (upd_at _ _) (fun b h1 h2=>(upd_ne _ h2).trans (ok b h1)) (W.x hj hne')
  ·cases hp
   exact h _ X (cutP Z .ne kv) _ _ _ _ (T3.off hLt) (upd_at _ _) (fun b h1 h2=>(upd_ne _ h2).trans (ok b h1)) (W.z hj hne')
 ·walk_at "wk"
  refine nP hL3 ?_
  walk_at "wk"
  refine q_setO hL3 il ?_
  have e:(encLs [X,Z]).set i (.lst (encPs p))=encLs [X,Z]:=by
   have:i=0∨i=1:=by exact l10 79558204003906001847338706753 rfl s2
   rcases this with rfl | rfl<;>cases hp<;>rfl
  walk_at "wk"
  rw [e]
  exact h _ X Z _ _ _ _ (T3.off hLt) (upd_at _ _) (fun b h1 h2=>(upd_ne _ h2).trans (ok b h1)) (W.mono (Nat.le_succ j))
theorem gone_loop (hD:DrawΓ Γ) (hC:CutΓ Γ) {t L:Addr} {f xs zs kind way last beyond:AV}:∀ (items:List AV) (n j:Nat) (X Z:Prs) (lap side pair kk left:AV) (H:AH) (C:PS),Tub H t n→H L=some (.list (encLs [X,Z]))→Wd j X Z→j+items.length≤3→n+4 * items.length < 8000→
  (∀ H' n' X' Z' lap' side' pair' k' left',n'=n+4 * items.length→Tub H' t n'→H' L=some (.list (encLs [X',Z']))→(∀ b,b≠t→b≠L→H' b=H b)→Wd (j+items.length) X' Z'→C .next (wρ (.obj t) f xs zs lap' kind way last beyond (.obj L) side' pair' k' left') H')→
  loopF (fun w ρ1 H2 C=>asgC (.name .lap) w ρ1 fun ρ2=>trSs Γ lvl (lvl .law_wide) wB8 ρ2 H2 C) items (wρ (.obj t) f xs zs lap kind way last beyond (.obj L) side pair kk left) H C
 | [],n,j,X,Z,lap,side,pair,kk,left,H,C,T,hL,W,hj,hn,h=>h H n X Z lap side pair kk left rfl T hL (fun b uu uu=>rfl) W
 | w::items,n,j,X,Z,lap,side,pair,kk,left,H,C,T,hL,W,hj,hn,h=>by
  simp only [List.length_cons] at hj hn
  rw [loopF]
  refine ⟨rfl,?_⟩
  refine gone_step hD hC (lap:=w) T hL W (by exact l20 1249830343229349889 rfl hj) (by exact l20 84795909521786778769965621265 rfl hn) fun H' X' Z' side' pair' k' left' T' hL' o' W'=>?_
  refine gone_loop hD hC items (n+4) (j+1) X' Z' w side' pair' k' left' H' C T' hL' W' (by exact l20 5078284272584929353729 rfl hj) (by exact l20 22762228645301162693317613840190578705 rfl hn) fun H'' n'' X'' Z'' l'' s'' p'' k'' le'' e T'' hL'' o'' W''=>?_
  refine h H'' n'' X'' Z'' l'' s'' p'' k'' le'' (by simp only [List.length_cons]; exact l30 1272931622742910841990547507745 rfl e) T'' hL'' (fun b h1 h2=>(o'' b h1 h2).trans (o' b h1 h2)) ?_
  rw [List.length_cons,Nat.add_comm items.length 1,← Nat.add_assoc]; exact W''
end
end Internal
namespace Internal
open PySem
section
variable {Γ:Fn→List AV→AH→P1→Prop} {lv:Fn→Nat} {k:Nat} {H H0:AH} {Q:P1} {B:PB} {ρ:Ev}
theorem wide_tail (hD:DrawΓ Γ) (hC:CutΓ Γ) (hM:MergedΓ Γ) {t:Addr} {n:Nat} {f vx vz lap kind way last beyond:AV} {xs zs:Prs} {C:PS} (T:Tub H t n) (hn:n < 5000) (ex:itemsOf H vx=some (encPs xs)) (ez:itemsOf H vz=some (encPs zs)) (ux:vx≠.unb) (uz:vz≠.unb)
  (lx:xs.length < 64) (lz:zs.length < 64) (W:Wd 0 (mergeP xs) (mergeP zs))
  (h:∀ H' L X Z ρ' n',n'≤n+20→Tub H' t n'→H' L=some (.list (encLs [X,Z]))→H L=none→(∀ b,b≠t→b≠L→H' b=H b)→Wd 3 X Z→C (.ret (.obj L)) ρ' H'):
  trSs Γ lvl (lvl .law_wide) (.cons wS7 (.cons wS8 (.cons wS9 .nil))) (wρ (.obj t) f vx vz lap kind way last beyond .unb .unb .unb .unb .unb) H C:=by
 unfold wS7 wS8 wS9
 walk_at "wk"
 refine hM vx xs _ _ ex ux lx ?_
 walk_at "wk"
 refine hM vz zs _ _ ez uz lz ?_
 walk_at "wk"
 refine newL_obj (Nat.le_of_ble_eq_true rfl) fun L hL=>?_
 have hLt:L≠t:=fun e=>T.some (e▸hL)
 have T1:=T.off (o:=.list (encLs [mergeP xs,mergeP zs])) hLt
 have hL1:upd H L (.list (encLs [mergeP xs,mergeP zs])) L=some (.list (encLs [mergeP xs,mergeP zs])):=upd_at _ _
 have o1:∀ b,b≠t→b≠L→upd H L (.list (encLs [mergeP xs,mergeP zs])) b=H b:=fun b uu hb=>upd_ne _ hb
 walk_at "wk"
 refine hD t n 4 _ _ T1 (by exact l10 5068002073111170664977 rfl hn) (by decide) fun r H2 r1 r2 T2 o2=>?_
 walk_at "wk"
 refine r_rng1 r1 (by exact l01 77331574605236801 rfl r2) (r_itR r1 (by exact l01 77331574605236801 rfl r2) ?_)
 have ul:=upto_len 0 r
 refine gone_loop hD hC _ (n+1) 0 _ _ lap .unb .unb .unb .unb H2 _ T2 ((o2 L hLt).trans hL1) W (by rw [List.length_map,ul]; exact l11 375606279006326027814726729168377827019642596772418 rfl r2 (ltoN _)) (by rw [List.length_map,ul]; exact l21 1794455842126550187029273292462737136754082403871801402709800909801015827 rfl hn r2 (ltoN _)) fun H3 n3 X Z lap' side' pair' k' left' e T3 hL3 o3 W3=>?_
 walk_at "wk"
 rw [List.length_map,ul] at e W3
 exact h H3 L X Z _ n3 (by exact l31 27381221646836600647302307575421063779114553473150025283599635597891 rfl r2 e (ltoN _)) T3 hL3 hL (fun b h1 h2=>((o3 b h1 h2).trans (o2 b h1)).trans (o1 b h1 h2)) (W3.mono (by exact l11 375606279006326027814726729168377827019642596772418 rfl r2 (ltoN _)))
theorem wide_walk (hD:DrawΓ Γ) (hC:CutΓ Γ) (hM:MergedΓ Γ) {t:Addr} {n:Nat} (T:Tub H t n) (hn:n < 1000)
  (h:∀ X Z H' n',n'≤n+60→Tub H' t n'→(∀ b,b≠t→H b≠none→H' b=H b)→Wd 3 X Z→Q (.lst (encLs [X,Z])) H'):meets Γ lvl .law_wide [.obj t] H Q:=by
 refine meets_of rfl ?_
 have exO:∀ {G:AH} {a:Addr} {l:List AV},G a=some (.list l)→itemsOf G (.obj a)=some l:=fun {G a l} e=>by simp [itemsOf,e]
 have fin:∀ {G:AH} {first:Int} {vx vz lap kind way last by_:AV} {xs' zs':Prs} {m:Nat},m≤n+20→Tub G t m→(∀ c,c≠t→H c≠none→G c=H c)→itemsOf G vx=some (encPs xs')→itemsOf G vz=some (encPs zs')→vx≠.unb→vz≠.unb→xs'.length < 64→zs'.length < 64→Wd 0 (mergeP xs') (mergeP zs')→
   trSs Γ lvl (lvl .law_wide) (.cons wS7 (.cons wS8 (.cons wS9 .nil))) (wρ (.obj t) (.int first) vx vz lap kind way last by_ .unb .unb .unb .unb .unb) G (finS H Q):=by
  intro G first vx vz lap kind way last by_ xs' zs' m hm TG kG ex ez ux uz lx lz W
  refine wide_tail hD hC hM TG (by exact l20 1352331737373519300848887810578 rfl hn hm) ex ez ux uz lx lz W fun H' L X Z ρ' n' hn' T' hL' hL o' W'=>?_
  have hLt:L≠t:=fun e=>TG.some (e▸hL)
  have hL0:H L=none:=by
   cases q:H L with
   | none=>rfl
   | some o=>have:=kG L hLt (by rw [q]; simp); rw [hL,q] at this; cases this
  refine r_fin (ends_del hL0 hL' (h X Z _ n' (by exact l30 84639668881906022918182865410 rfl hm hn') (T'.same (by show (if t=L then none else H' t)=H' t; rw [if_neg (Ne.symm hLt)])) (fun c h1 h2=>?_) W'))
  have e:c≠L:=fun e=>h2 (e▸hL0)
  show (if c=L then none else H' c)=H c
  rw [if_neg e,o' c h1 e]; exact kG c h1 h2
 rw [wide_body]
 dsimp only [scOf,init2]
 refine r_ss ?_
 unfold wS1
 walk_at "wk"
 refine hD t n 3 _ _ T (by exact l10 316750129569547700753 rfl hn) (by decide) fun f H1 f1 f2 T1 o1=>?_
 walk_at "wk"
 refine newL_obj (Nat.zero_le _) fun a ha=>?_
 walk_at "wk"
 refine newL_obj (Nat.zero_le _) fun b hb=>?_
 refine r_es0 (r_newT rfl (r_unp rfl rfl rfl (r_kn (r_ss ?_))))
 have hat:a≠t:=fun e=>T1.some (e▸ha)
 have hba:b≠a:=fun e=>by subst e; rw [upd_at] at hb; cases hb
 have hb1:H1 b=none:=by rw [upd_ne _ hba] at hb; exact hb
 have hbt:b≠t:=fun e=>T1.some (e▸hb1)
 have W0:WS H t a b (n+1) [] [] (upd (upd H1 a (.list [])) b (.list [])):=
  ⟨(T1.off hat).off hbt,by rw [upd_ne _ (Ne.symm hba),upd_at]; rfl,by rw [upd_at]; rfl,by rw [← o1 a hat]; exact ha,by rw [← o1 b hbt]; exact hb1,Ne.symm hba,fun c h1 h2=>by
   have e1:c≠a:=fun e=>h2 (by rw [e,← o1 a hat]; exact ha)
   have e2:c≠b:=fun e=>h2 (by rw [e,← o1 b hbt]; exact hb1)
   rw [upd_ne _ e2,upd_ne _ e1]; exact o1 c h1⟩
 generalize upd (upd H1 a (.list [])) b (.list [])=H2 at W0 ⊢
 unfold wS2
 walk_at "wk"
 refine hD t (n+1) 3 _ _ W0.T (by exact l10 81088033091606942337553 rfl hn) (by decide) fun r H3 r1 r2 T3 o3=>?_
 have W3:=W0.draw T3 o3
 walk_at "wk"
 refine r_rng1 (y:=1+r) (by exact l01 1212529485361 rfl r1) (by exact l01 19796883099141491265 rfl r2) (r_itR (by exact l01 1212529485361 rfl r1) (by exact l01 19796883099141491265 rfl r2) ?_)
 have ul:=upto_len 0 (1+r)
 refine wide_loop hD (H0:=H) _ (n+2) 0 f [] [] .unb .unb .unb .unb H3 _ W3 (WA.zero f1 f2) (by rw [List.length_map,ul]; exact l11 6301627673845397135069678393067005614723828503604063586882 rfl r2 (ltoN _)) (by rw [List.length_map,ul]; exact l21 30105973265819097359991708296997468935866485987440242134309035788376006083496467 rfl hn r2 (ltoN _)) fun H4 n4 first xs zs lap kind way last e4 W4 WA4=>?_
 rw [List.length_map,ul] at e4 WA4
 obtain ⟨m,hm,hm1,hm3⟩:∃ m:Nat,0+(1+r - 0).toNat=m∧0 < m∧m≤3:=⟨_,rfl,by exact l11 6385301241714017948099528943139807485057919165703730 rfl r1 (ltoN _),by exact l11 6301627673845397135069678393067005614723828503604063586882 rfl r2 (ltoN _)⟩
 rw [hm] at WA4
 have lx:=WA4.l1
 have lz:=WA4.l2
 refine r_kn (r_ss ?_)
 unfold wS3
 walk_at "wk"
 refine hD t n4 6 _ _ W4.T (by exact l40 29252892642664484122641511183102540404242052041236 rfl hn e4 hm hm3) (by decide) fun by_ H5 b1 b2 T5 o5=>?_
 have W5:=W4.draw T5 o5
 have hc:by_=0∨by_=1∨by_=2∨by_=3∨by_=4∨by_=5:=by exact l01 2815208441838398867419753301449780604837157072707672827048958168097160754953292070983828610430572047360117071236045441075794969625082260356143130776417893579196624772358739500350742382376274365825957107495607964750726283979888445781534966262476281689787747829045745725720816464351808727493690306084508800554186604329908180070388547031363889051206059912452841157521912081586185643930510186151205258068988669534411632314219069048713118388735044236452990098617024532821299986317057236327392394597377182123607304499708846898294414083957516212173542671438157475440334013341997026147707161165468886851683115767357986796640178865687016300191205698239438283755267634 rfl b1 b2
 have n5:n4+1≤n+20:=by exact l40 108975525457098289369580738762769754491427 rfl e4 hm hm3
 have f0:=WA4.f.1
 refine r_can rfl (r_kn (r_ss ?_))
 have fin6:∀ {G:AH} {by_:Int} {vx vz:AV} {xs' zs':Prs} {m:Nat},¬ 3 < by_→m≤n+20→Tub G t m→(∀ c,c≠t→H c≠none→G c=H c)→itemsOf G vx=some (encPs xs')→itemsOf G vz=some (encPs zs')→vx≠.unb→vz≠.unb→xs'.length < 64→zs'.length < 64→Wd 0 (mergeP xs') (mergeP zs')→
   trSs Γ lvl (lvl .law_wide) (.cons wS6 (.cons wS7 (.cons wS8 (.cons wS9 .nil)))) (wρ (.obj t) (.int first) vx vz lap kind way last (.int by_) .unb .unb .unb .unb .unb) G (finS H Q):=fun {G by_ vx vz xs' zs' m} hb hm TG kG ex ez ux uz lx lz W=>by
  refine r_ss ?_
  unfold wS6
  walk_at "wk"
  exact r_no (decide_eq_false hb) (r_nil (r_kn (fin hm TG kG ex ez ux uz lx lz W)))
 have ux:∀ {a:Addr},AV.obj a≠.unb:=fun e=>by cases e
 unfold wS4
 walk_at "wk"
 refine ⟨fun e=>?_,fun e=>?_⟩
 ·cases of_decide_eq_true e
  walk_at "wk"
  refine r_appm W5.zb ?_
  walk_at "wk"
  refine ⟨13,rfl,rfl,by decide,?_⟩
  walk_at "wk"
  refine r_app W5.zb (by rw [encPs_len]; unfold LIM; exact l20 1290364274462479832271362 rfl hm3 lz) ?_
  rw [← encPs_snoc (p:=(first,first+10 ^ 13))]
  have W6:=W5.setZ (zs++[(first,first+10 ^ 13)])
  generalize upd H5 b (.list (encPs (zs++[(first,first+10 ^ 13)])))=H6 at W6 ⊢
  refine r_exN (r_kn (r_nil (r_kn (r_ss ?_))))
  unfold wS5
  walk_at "wk"
  refine r_no rfl ?_
  walk_at "wk"
  refine r_no rfl (r_nil (r_kn ?_))
  exact fin6 (by decide) n5 W6.T W6.keep (exO W6.xa) (exO W6.zb) ux ux (by exact l20 5056174608460317673986 rfl hm3 lx) (by simp; exact l20 5037727769139265882626 rfl hm3 lz) (WA4.b1 hm1 hm3)
 have e1:=of_decide_eq_false e
 refine r_nil (r_kn (r_ss ?_))
 unfold wS5
 walk_at "wk"
 refine ⟨fun e=>?_,fun e=>?_⟩
 ·cases of_decide_eq_true e
  walk_at "wk"
  refine r_appm W5.xa ?_
  walk_at "wk"
  refine r_yes rfl ?_
  walk_at "wk"
  refine ⟨13,rfl,rfl,by decide,?_⟩
  walk_at "wk"
  refine r_app W5.xa (by rw [encPs_len]; unfold LIM; exact l20 331542180082009428247923202 rfl hm3 lx) (r_exN (r_kn (r_nil (r_kn ?_))))
  rw [← encPs_snoc (p:=(first,first+10 ^ 13))]
  have W6:=W5.setX (xs++[(first,first+10 ^ 13)])
  exact fin6 (by decide) n5 W6.T W6.keep (exO W6.xa) (exO W6.zb) ux ux (by simp; exact l20 1294380675382483722914306 rfl hm3 lx) (by exact l20 19678624470408579586 rfl hm3 lz) (WA4.b2 hm1 hm3 (.inl rfl))
 have e2:=of_decide_eq_false e
 walk_at "wk"
 refine ⟨fun e=>?_,fun e=>?_⟩
 ·cases of_decide_eq_true e
  walk_at "wk"
  refine r_appm W5.xa ?_
  walk_at "wk"
  refine r_no rfl ?_
  walk_at "wk"
  refine ⟨13,rfl,rfl,by decide,?_⟩
  walk_at "wk"
  refine r_app W5.xa (by rw [encPs_len]; unfold LIM; exact l20 331542180082009428247923202 rfl hm3 lx) (r_exN (r_kn (r_nil (r_kn ?_))))
  rw [← encPs_snoc (p:=(0 - first - 10 ^ 13,0 - first))]
  have W6:=W5.setX (xs++[(0 - first - 10 ^ 13,0 - first)])
  exact fin6 (by decide) n5 W6.T W6.keep (exO W6.xa) (exO W6.zb) ux ux (by simp; exact l20 1294380675382483722914306 rfl hm3 lx) (by exact l20 19678624470408579586 rfl hm3 lz) (WA4.b2 hm1 hm3 (.inr rfl))
 have e3:=of_decide_eq_false e
 by_cases e4:3 < by_
 ·refine r_nil (r_kn (r_ss ?_))
  unfold wS6
  walk_at "wk"
  refine r_yes (decide_eq_true e4) ?_
  walk_at "wk"
  refine hD t (n4+1) 4 _ _ W5.T (by exact l40 7488740516522100774047492770045556741771709455550996 rfl hn ‹_› hm hm3) (by decide) fun s H6 s1 s2 T6 o6=>?_
  have W6:=W5.draw T6 o6
  walk_at "wk"
  refine ⟨fun uu=>?_,fun uu=>?_⟩
  ·walk_at "wk"
   refine r_lst rfl ?_
   walk_at "wk"
   refine ⟨12,rfl,rfl,by decide,?_⟩
   walk_at "wk"
   refine r_lst rfl (q_catL _ _ (Nat.le_of_ble_eq_true rfl) ?_)
   refine r_can rfl (r_kn (r_nil (r_kn ?_)))
   exact fin (m:=n4+1+1) (by lia) W6.T W6.keep (exO W6.xa) (zs':=[(0 - 10 ^ 12,-1)]) rfl ux (fun e=>by cases e) (by exact l20 5056174608460317673986 rfl hm3 lx) (by simp) (WA4.b5 hm1 hm3)
  ·walk_at "wk"
   refine ⟨12,rfl,rfl,by decide,?_⟩
   walk_at "wk"
   refine r_lst rfl ?_
   have ez:encPs zs++[AV.tup [.int (0 - 10 ^ 12),.int (-1)]]=encPs (zs++[(0 - 10 ^ 12,-1)]):=by rw [encPs_snoc]
   refine .inr (.inr ⟨encPs zs,[AV.tup [.int (0 - 10 ^ 12),.int (-1)]],(fun t e=>by cases e),(fun t e=>by cases e),exO W6.zb,rfl,by rw [ez,encPs_len]; simp; unfold LIM; exact l20 330333254262299547436009986 rfl hm3 lz,.inr ?_⟩)
   refine r_can rfl (r_kn (r_nil (r_kn ?_)))
   rw [ez]
   exact fin (m:=n4+1+1) (by lia) W6.T W6.keep (exO W6.xa) (zs':=zs++[(0 - 10 ^ 12,-1)]) rfl ux (fun e=>by cases e) (by exact l20 5056174608460317673986 rfl hm3 lx) (by simp; exact l20 5037727769139265882626 rfl hm3 lz) (WA4.b4 hm1 hm3)
 ·have e0:by_=0:=by lia
  subst e0
  exact r_nil (r_kn (fin6 (by decide) n5 W5.T W5.keep (exO W5.xa) (exO W5.zb) ux ux (by exact l20 5056174608460317673986 rfl hm3 lx) (by exact l20 19678624470408579586 rfl hm3 lz) (WA4.b0 hm1 hm3)))
end
end Internal
namespace Internal
open PySem
noncomputable def lS1:S:=(.assign (.name .built) (.list (.cons (.int 1) (.cons (.int 0) (.cons (.int 0) (.cons (.int 0) (.cons (.int 3) (.cons (.int 0) (.cons (.int 2) (.cons (.int 0) (.cons (.int 0) (.cons (.int 0) (.cons (.int 3) .nil)))))))))))))
noncomputable def lS2:S:=(.assign (.tup [.tub,.desk]) (.tup (.cons (.dict (.cons .cells (.ife (.cmp .gt (.call .len (.cons (.name .script) .nil)) (.int 0)) (.call .list (.cons (.slice (.name .script) .none (.int 60)) .nil)) (.name .built)) (.cons .at_ (.int 0) .nil))) (.cons (.call .Store .nil) .nil))))
noncomputable def lS3:S:=(.assign (.tup [.is_small,.turn]) (.tup (.cons (.cmp .eq (.call .law_draw (.cons (.name .tub) (.cons (.int 3) .nil))) (.int 0)) (.cons (.call .law_draw (.cons (.name .tub) (.cons (.int 5) .nil))) .nil))))
noncomputable def lS4:S:=(.assign (.tup [.x,.z]) (.sub (.tup (.cons (.tup (.cons (.int 0) (.cons (.int 1) .nil))) (.cons (.tup (.cons (.int 1) (.cons (.int 0) .nil))) (.cons (.tup (.cons (.int 0) (.cons (.int 1) .nil))) (.cons (.tup (.cons (.int 1) (.cons (.int 0) .nil))) (.cons (.tup (.cons (.int 0) (.cons (.int 0) .nil))) .nil)))))) (.name .turn)))
noncomputable def lS5:S:=(.assign (.name .lots) (.ife (.name .is_small) (.list (.cons (.call .law_few (.cons (.name .tub) (.cons (.neg (.int 6)) (.cons (.int 13) .nil)))) (.cons (.call .law_few (.cons (.name .tub) (.cons (.neg (.int 2)) (.cons (.int 9) .nil)))) .nil))) (.call .law_wide (.cons (.name .tub) .nil))))
noncomputable def lS6_1:S:=(.expr (.meth (.name .desk) .new_var (.cons (.ife (.or (.cmp .ne (.name .x) (.name .z)) (.cmp .eq (.name .y) (.int 1))) (.call .tuple (.cons (.sub (.name .lots) (.ife (.cmp .eq (.name .y) (.name .x)) (.int 0) (.int 1))) .nil)) (.call .tuple (.cons (.call .law_merged (.cons (.bin .add (.sub (.name .lots) (.int 0)) (.sub (.name .lots) (.int 1))) .nil)) .nil))) .nil)))
noncomputable def lB6:Ss:=(.cons lS6_1 .nil)
noncomputable def lS6:S:=(.forr (.name .y) (.e (.call .range (.cons (.int 2) .nil))) lB6)
noncomputable def lS7:S:=(.assign (.tup [.rule,.kept]) (.tup (.cons (.call .Absolute (.cons (.name .x) (.cons (.name .z) .nil))) (.cons (.list (.cons (.call .law_lots (.cons (.name .desk) .nil)) .nil)) .nil))))
noncomputable def lS8_1:S:=(.expr (.meth (.name .desk) .push .nil))
noncomputable def lS8_2:S:=(.assign (.name .stands) (.bool true))
noncomputable def lS8_3t1:S:=(.assign (.name .y) (.sub (.tup (.cons (.name .x) (.cons (.name .z) .nil))) (.call .law_draw (.cons (.name .tub) (.cons (.int 2) .nil)))))
noncomputable def lS8_3t2:S:=(.assign (.name .pair) (.sub (.meth (.name .desk) .dom (.cons (.name .y) .nil)) (.call .law_draw (.cons (.name .tub) (.cons (.call .len (.cons (.meth (.name .desk) .dom (.cons (.name .y) .nil)) .nil)) .nil)))))
noncomputable def lS8_3t3:S:=(.assign (.name .sign) (.sub (.tup (.cons (.str .ne) (.cons (.str .le) (.cons (.str .ge) (.cons (.str .eq) .nil))))) (.call .law_draw (.cons (.name .tub) (.cons (.ife (.or (.name .is_small) (.cmp .eq (.name .x) (.name .z))) (.int 4) (.ife (.cmp .eq (.name .y) (.name .z)) (.int 2) (.int 1))) .nil)))))
noncomputable def lS8_3t4:S:=(.assign (.name .stands) (.meth (.name .desk) .decide (.cons (.tup (.cons (.name .y) (.cons (.name .sign) (.cons (.bin .sub (.bin .add (.sub (.name .pair) (.call .law_draw (.cons (.name .tub) (.cons (.int 2) .nil)))) (.call .law_draw (.cons (.name .tub) (.cons (.int 3) .nil)))) (.int 1)) .nil)))) .nil)))
noncomputable def lS8_3:S:=(.ite (.cmp .gt (.name .lap) (.int 0)) (.cons lS8_3t1 (.cons lS8_3t2 (.cons lS8_3t3 (.cons lS8_3t4 .nil)))) .nil)
noncomputable def lS8_4t1:S:=(.assign (.name .stands) (.call .law_run (.cons (.name .rule) (.cons (.name .desk) (.cons (.name .x) (.cons (.name .z) .nil))))))
noncomputable def lS8_4t2:S:=(.ite (.cmp .is (.name .stands) .none) (.cons (.ret (.bool false)) .nil) .nil)
noncomputable def lS8_4:S:=(.ite (.name .stands) (.cons lS8_4t1 (.cons lS8_4t2 .nil)) .nil)
noncomputable def lS8_5t1:S:=(.expr (.meth (.name .kept) .append (.cons (.call .law_lots (.cons (.name .desk) .nil)) .nil)))
noncomputable def lS8_5f1:S:=(.expr (.meth (.name .desk) .pop (.cons (.int 1) .nil)))
noncomputable def lS8_5f2:S:=(.ite (.or (.attr (.name .desk) .is_failed) (.and (.cmp .gt (.name .lap) (.int 0)) (.cmp .ne (.call .law_lots (.cons (.name .desk) .nil)) (.sub (.name .kept) (.neg (.int 1)))))) (.cons (.ret (.bool false)) .nil) .nil)
noncomputable def lS8_5f3:S:=(.ite (.cmp .eq (.name .lap) (.int 0)) (.cons .brk .nil) .nil)
noncomputable def lS8_5:S:=(.ite (.name .stands) (.cons lS8_5t1 .nil) (.cons lS8_5f1 (.cons lS8_5f2 (.cons lS8_5f3 .nil))))
noncomputable def lB8:Ss:=(.cons lS8_1 (.cons lS8_2 (.cons lS8_3 (.cons lS8_4 (.cons lS8_5 .nil)))))
noncomputable def lS8:S:=(.forr (.name .lap) (.e (.call .range (.cons (.bin .add (.int 1) (.call .law_draw (.cons (.name .tub) (.cons (.int 4) .nil)))) .nil))) lB8)
noncomputable def lS9:S:=(.expr (.meth (.name .desk) .pop (.cons (.meth (.name .desk) .depth .nil) .nil)))
noncomputable def lS10:S:=(.ret (.and (.cmp .eq (.call .law_lots (.cons (.name .desk) .nil)) (.sub (.name .kept) (.int 0))) (.not (.attr (.name .desk) .is_failed))))
theorem law_body:bodyOf .law=(.cons lS1 (.cons lS2 (.cons lS3 (.cons lS4 (.cons lS5 (.cons lS6 (.cons lS7 (.cons lS8 (.cons lS9 (.cons lS10 .nil)))))))))):=rfl
theorem undo_app (D:List Prs) (a b:List En):undo D (a++b)=undo (undo D a) b:=by unfold undo; rw [List.foldl_append]
theorem steps_undo {x z:Nat} {K:List Prs→Prop}:∀ (es:List En) (D:List Prs),stepsW x z K es D→∃ c,K c∧undo c es.reverse=D∧∀ e∈es,e.y < D.length
 | [],D,h=>⟨D,h,rfl,fun e he=>by cases he⟩
 | e::es,D,⟨rs,h0,h1,h2,h3,h4,h5,h6,h7,h8,h⟩=>by
  obtain ⟨c,c1,c2,c3⟩:=steps_undo es _ h
  rw [List.length_set] at c3
  have ey:e.y < D.length:=by
   rcases Nat.lt_or_ge e.y D.length with h' | h'
   ·exact h'
   ·rw [List.getElem?_eq_none h'] at h0; cases h0
  refine ⟨c,c1,?_,fun f hf=>?_⟩
  ·rw [List.reverse_cons,undo_app,c2]
   show (D.set e.y (cutP e.old e.g e.k)).set e.y e.old=D
   rw [List.set_set,set_self h0]
  ·rcases List.mem_cons.mp hf with rfl | hf
   ·exact ey
   ·exact c3 f hf
structure Bk (n:Nat) (S0 S:DS):Prop where
 es:∃ es:List En,es.length≤n∧S.trail=S0.trail++es.map encE∧undo S.doms es.reverse=S0.doms∧∀ e∈es,e.y < S0.doms.length
 firsts:S.firsts=S0.firsts
 marks:S.marks=S0.marks
 len:S.doms.length=S0.doms.length
theorem undo_len:∀ (rs:List En) (D:List Prs),(undo D rs).length=D.length
 | [],D=>rfl
 | e::rs,D=>by
  show (undo (D.set e.y e.old) rs).length=_
  rw [undo_len rs,List.length_set]
theorem Trk.bk {x z n:Nat} {S0 S:DS} (T:Trk x z n S0 S):Bk n S0 S:=by
 refine byc fun hNN=>?_
 obtain ⟨⟨es,e1,e2,e3⟩,hf,hm⟩:=T
 obtain ⟨c,c1,c2,c3⟩:=steps_undo es _ (e3 (fun cur=>cur=S.doms) rfl)
 refine hNN ?_
 subst c1
 exact ⟨⟨es,e1,e2,c2,c3⟩,hf,hm,by rw [← c2,undo_len]⟩
theorem Bk.refl (S:DS):Bk 0 S S:=⟨⟨[],by simp,by simp,rfl,fun e he=>by cases he⟩,rfl,rfl,rfl⟩
theorem Bk.trans {n m:Nat} {S0 S1 S2:DS} (a:Bk n S0 S1) (b:Bk m S1 S2):Bk (n+m) S0 S2:=by
 refine byc fun hNN=>?_
 obtain ⟨⟨es,e1,e2,e3,e4⟩,e5,e6,e7⟩:=a
 obtain ⟨⟨fs,f1,f2,f3,f4⟩,f5,f6,f7⟩:=b
 refine hNN ?_
 refine ⟨⟨es++fs,by simp; exact l40 19733380073818995202 rfl e1 f1,by rw [f2,e2]; simp,by rw [List.reverse_append,undo_app,f3,e3],fun e he=>?_⟩,f5.trans e5,f6.trans e6,f7.trans e7⟩
 rcases List.mem_append.mp he with he | he
 ·exact e4 e he
 ·rw [← e7]; exact f4 e he
theorem dec_bk {S:DS} {i:Nat} {g:Sy} {c:Int} {p:Prs} (hp:S.doms[i]?=some p):(enterS S i g c p .none).2.failed=(S.failed || !(enterS S i g c p .none).1)∧Bk 1 S (enterS S i g c p .none).2∧
  ((enterS S i g c p .none).1=true→struckP g c p≠[]∧(enterS S i g c p .none).2.doms=S.doms.set i (struckP g c p)):=by
 have hi:i < S.doms.length:=by
  rcases Nat.lt_or_ge i S.doms.length with h' | h'
  ·exact h'
  ·rw [List.getElem?_eq_none h'] at hp; cases hp
 unfold enterS
 by_cases h1:struckP g c p=[]
 ·rw [if_pos h1]
  exact ⟨by simp,⟨⟨[],by simp,by simp,rfl,fun e he=>by cases he⟩,rfl,rfl,rfl⟩,fun h=>by simp at h⟩
 ·rw [if_neg h1]
  by_cases h2:struckP g c p=p
  ·rw [if_pos h2]
   exact ⟨by simp,⟨⟨[],by simp,by simp,rfl,fun e he=>by cases he⟩,rfl,rfl,rfl⟩,fun uu=>⟨h1,by rw [h2,set_self hp]⟩⟩
  ·rw [if_neg h2]
   refine ⟨by simp,⟨⟨[⟨i,p,g,c,.none⟩],by simp,by simp,?_,fun e he=>?_⟩,rfl,rfl,by simp⟩,fun uu=>⟨h1,rfl⟩⟩
   ·show ((S.doms.set i (struckP g c p)).set i p)=S.doms
    rw [List.set_set,set_self hp]
   ·rw [List.mem_singleton] at he; subst he; exact hi
theorem Aft.up {k:Kd} {i:Nat} {X Z:Prs} (h:Aft i X Z k):Aft (i+1) X Z k:=by
 cases k with
 | small=>exact h
 | wide=>obtain ⟨a,b,c,d⟩:=h; exact ⟨by exact l20 335704513771935875694070273 rfl a,by exact l20 335704217615224375500605953 rfl b,c,d⟩
 | same=>obtain ⟨a,b⟩:=h; exact ⟨a,by exact l20 5122441856501201242625 rfl b⟩
theorem AftS.up {k:Kd} {i x z:Nat} {D:List Prs} (h:AftS k i x z D):AftS k (i+1) x z D:=by
 refine byc fun hNN=>?_
 obtain ⟨d,X,Z,a,b,c⟩:=h
 refine hNN ?_
 exact ⟨d,X,Z,a,b,c.up⟩
structure LH (t kp ra rdx:Addr) (x z n:Nat) (ks:List AV) (A:DA) (S:DS) (H:AH):Prop where
 T:Tub H t n
 D:Desk H A S
 R:Rule H ra rdx x z
 K:H kp=some (.list ks)
 t0:¬ A.own t
 k0:¬ A.own kp
theorem LH.into {t kp ra rdx:Addr} {x z n:Nat} {ks:List AV} {A A':DA} {S S':DS} {H H':AH} (L:LH t kp ra rdx x z n ks A S H) (D:Desk H' A' S') (I:Into A H A' H'):LH t kp ra rdx x z n ks A' S' H':=by
 refine byc fun hNN=>?_
 obtain ⟨t1,t2⟩:=I.keep t L.t0 L.T.some
 obtain ⟨k1,k2⟩:=I.keep kp L.k0 (by rw [L.K]; simp)
 refine hNN ?_
 exact ⟨L.T.same t1,D,L.R.into L.D I,by rw [k1]; exact L.K,t2,k2⟩
theorem LH.draw {t kp ra rdx:Addr} {x z n m:Nat} {ks:List AV} {A:DA} {S:DS} {H H':AH} (L:LH t kp ra rdx x z n ks A S H) (T:Tub H' t m) (o:∀ b,b≠t→H' b=H b):LH t kp ra rdx x z m ks A S H':=by
 refine byc fun hNN=>?_
 obtain ⟨is,h1,h2⟩:=L.T
 have q:∀ {b:Addr} {v:AO},H b=some v→(∀ kvs,v≠.sdict kvs)→H' b=some v:=fun {b v} e hv=>by
  rw [o b (fun e'=>by rw [e',h2] at e; exact hv _ (Option.some.inj e).symm)]; exact e
 have D:=L.D
 refine hNN ?_
 exact ⟨T,⟨q D.inst (by simp),q D.ns (by simp),q D.dom (by simp),q D.fst (by simp),q D.trl (by simp),q D.mrk (by simp),q D.nws (by simp),D.apart⟩,⟨q L.R.inst (by simp),q L.R.ns (by simp)⟩,q L.K (by simp),L.t0,L.k0⟩
theorem LH.kept {t kp ra rdx:Addr} {x z n:Nat} {ks:List AV} {A:DA} {S:DS} {H:AH} (L:LH t kp ra rdx x z n ks A S H) (ks':List AV):LH t kp ra rdx x z n ks' A S (upd H kp (.list ks')):=by
 have e1:kp≠t:=fun e=>by
  obtain ⟨is,h1,h2⟩:=L.T
  have:=L.K; rw [e,h2] at this; cases this
 have e2:ra≠kp:=fun e=>by have:=L.R.inst; rw [e,L.K] at this; cases this
 have e3:rdx≠kp:=fun e=>by have:=L.R.ns; rw [e,L.K] at this; cases this
 exact ⟨L.T.off e1,L.D.off L.k0,⟨by rw [upd_ne _ e2]; exact L.R.inst,by rw [upd_ne _ e3]; exact L.R.ns⟩,upd_at _ _,L.t0,L.k0⟩
structure LP (k:Kd) (i x z:Nat) (D0:List Prs) (ks:List AV) (S:DS):Prop where
 fl:S.failed=false
 st:if i=0 then RdyS k 0 x z S.doms else AftS k (i - 1) x z S.doms
 bk:∃ es:List En,S.trail=es.map encE∧es.length≤50 * i∧undo S.doms es.reverse=D0∧∀ e∈es,e.y < D0.length
 firsts:S.firsts=D0
 full:∀ p∈D0,p≠[]
 lens:∀ p∈D0,p.length < 1000
 two:D0.length=2
 mks:(i=0→S.marks=[])∧(0 < i→∃ rest,S.marks=0::rest)∧S.marks.length≤i
 ks0:ks[0]?=some (.lst (encLs D0))
 ks1:∃ pre,ks=pre++[.lst (encLs S.doms)]
 ksl:ks.length≤i+1
theorem LP.doms {k:Kd} {i x z:Nat} {D0:List Prs} {ks:List AV} {S:DS} (P:LP k i x z D0 ks S):Doms S.doms:=by
 have:=P.st
 split at this
 ·exact this.1
 ·exact this.1
end Internal
namespace Internal
open PySem
noncomputable abbrev lρ (script built tub desk is_small turn x z lots y rule kept lap stands pair sign:AV):Ev:=
 [(.script,.loc,script),(.built,.loc,built),(.tub,.loc,tub),(.desk,.loc,desk),(.is_small,.loc,is_small),(.turn,.loc,turn),(.x,.loc,x),(.z,.loc,z),(.lots,.loc,lots),(.y,.loc,y),(.rule,.loc,rule),(.kept,.loc,kept),(.lap,.loc,lap),(.stands,.loc,stands),(.pair,.loc,pair),(.sign,.loc,sign),(.len,.glo,.unb),(.list,.glo,.unb),(.Store,.glo,.unb),(.law_draw,.glo,.unb),(.law_few,.glo,.unb),(.law_wide,.glo,.unb),(.range,.glo,.unb),(.tuple,.glo,.unb),(.law_merged,.glo,.unb),(.Absolute,.glo,.unb),(.law_lots,.glo,.unb),(.law_run,.glo,.unb)]
structure LF (D0:List Prs) (ks:List AV) (S:DS):Prop where
 fl:S.failed=false
 bk:∃ es:List En,S.trail=es.map encE∧undo S.doms es.reverse=D0∧∀ e∈es,e.y < D0.length
 firsts:S.firsts=D0
 full:∀ p∈D0,p≠[]
 lens:∀ p∈D0,p.length < 1000
 two:D0.length=2
 two':S.doms.length=2
 mks:(S.marks=[]∧S.doms=D0)∨∃ rest,S.marks=0::rest
 mkl:S.marks.length < 1000
 ks0:ks[0]?=some (.lst (encLs D0))
theorem LP.fin {k:Kd} {i x z:Nat} {D0:List Prs} {ks:List AV} {S:DS} (P:LP k i x z D0 ks S) (hi:0 < i) (hi2:i < 10):LF D0 ks S:=by
 obtain ⟨es,e1,e2,e3,e4⟩:=P.bk
 exact ⟨P.fl,⟨es,e1,e3,e4⟩,P.firsts,P.full,P.lens,P.two,P.doms.two,.inr (P.mks.2.1 hi),by have:=P.mks.2.2; exact l20 5038255798710848604690 rfl hi2 this,P.ks0⟩
theorem LP.fin0 {k:Kd} {x z:Nat} {D0:List Prs} {ks:List AV} {S S':DS} (P:LP k 0 x z D0 ks S) (h1:S'.doms=S.doms) (h2:S'.firsts=S.firsts) (h3:S'.trail=S.trail) (h4:S'.marks=S.marks) (h5:S'.failed=false):LF D0 ks S':=by
 obtain ⟨es,e1,e2,e3,e4⟩:=P.bk
 have:es=[]:=List.length_eq_zero_iff.mp (by exact l10 4803122701150721 rfl e2)
 subst this
 exact ⟨h5,⟨[],by rw [h3,e1],by rw [h1]; exact e3,e4⟩,h2.trans P.firsts,P.full,P.lens,P.two,by rw [h1]; exact P.doms.two,.inl ⟨h4.trans (P.mks.1 rfl),h1.trans e3⟩,by rw [h4,P.mks.1 rfl]; simp,P.ks0⟩
theorem LP.again {k:Kd} {i x z:Nat} {D0:List Prs} {ks:List AV} {S S':DS} (P:LP k i x z D0 ks S) (hi:0 < i) (h1:S'.doms=S.doms) (h2:S'.firsts=S.firsts) (h3:S'.trail=S.trail) (h4:S'.marks=S.marks) (h5:S'.failed=false):LP k (i+1) x z D0 ks S':=by
 obtain ⟨es,e1,e2,e3,e4⟩:=P.bk
 refine ⟨h5,?_,⟨es,by rw [h3,e1],by exact l20 20009609873219791361 rfl e2,by rw [h1]; exact e3,e4⟩,h2.trans P.firsts,P.full,P.lens,P.two,⟨fun h=>by exact False.elim (l10 426090529 rfl h),fun uu=>by rw [h4]; exact P.mks.2.1 hi,by rw [h4]; have:=P.mks.2.2; exact l20 1192669264385 rfl this⟩,P.ks0,by rw [h1]; exact P.ks1,by have:=P.ksl; exact l20 78068626797300225 rfl this⟩
 have:=P.st
 rw [if_neg (by first | exact l10 74795361809 rfl hi | exact l10 374997600 rfl)] at this ⊢
 rw [h1]
 have e:i+1 - 1=(i - 1)+1:=by exact l30 154552900034690066019667106074985155965359859001806405178426887896815362965650565007973274038041400314347944191507 rfl hi (lsub _ _) (lsub _ _)
 rw [e]; exact this.up
theorem LP.next {k:Kd} {i x z n:Nat} {D0:List Prs} {ks:List AV} {S S':DS} (P:LP k i x z D0 ks S) (hn:n≤45) (B:Bk n { S with marks:=S.marks++[(S.trail.length:Int)] } S') (hf:S'.failed=false) (ha:AftS k i x z S'.doms):LP k (i+1) x z D0 (ks++[.lst (encLs S'.doms)]) S':=by
 refine byc fun hNN=>?_
 obtain ⟨es,e1,e2,e3,e4⟩:=P.bk
 obtain ⟨⟨fs,f1,f2,f3,f4⟩,f5,f6,f7⟩:=B
 refine hNN ?_
 simp only at f2 f3 f4 f5 f6 f7
 have dl:S.doms.length=D0.length:=P.doms.two.trans P.two.symm
 refine ⟨hf,?_,⟨es++fs,by rw [f2,e1]; simp,by simp; exact l40 5538821162693482052258196197558787 rfl hn e2 f1,by rw [List.reverse_append,undo_app,f3]; exact e3,fun e he=>?_⟩,f5.trans P.firsts,P.full,P.lens,P.two,⟨fun h=>by exact False.elim (l10 426090529 rfl h),fun uu=>?_,by rw [f6]; have:=P.mks.2.2; simp; exact l20 4758485505 rfl this⟩,?_,⟨ks,rfl⟩,by have:=P.ksl; simp; exact l20 305323325458945 rfl this⟩
 ·rw [if_neg (by exact l10 374997600 rfl)]; exact ha
 ·rcases List.mem_append.mp he with he | he
  ·exact e4 e he
  ·rw [← dl]; exact f4 e he
 ·rw [f6]
  rcases Nat.eq_zero_or_pos i with h0 | h0
  ·rw [P.mks.1 h0,e1]
   have:es=[]:=List.length_eq_zero_iff.mp (by exact l20 19843697557534933284170242 rfl e2 h0)
   subst this
   exact ⟨[],rfl⟩
  ·obtain ⟨rest,hr⟩:=P.mks.2.1 h0
   exact ⟨rest++[(S.trail.length:Int)],by rw [hr]; rfl⟩
 ·have:=P.ks0
  cases ks with
  | nil=>simp at this
  | cons a l=>exact this
section
variable {Γ:Fn→List AV→AH→P1→Prop} {lv:Fn→Nat} {k:Nat} {H H0:AH} {Q:P1} {B:PB} {ρ:Ev}
noncomputable def PopΓ (Γ:Fn→List AV→AH→P1→Prop):Prop:=∀ (A:DA) (S:DS) (ms:List Int) (t:List AV) (rest:List Int) (rs:List En) (H:AH) (Q:P1),Desk H A S→S.marks=ms++(t.length:Int)::rest→S.marks.length < 1000→S.trail=t++rs.reverse.map encE→(∀ e∈rs,e.y < S.doms.length)→(∀ p∈S.firsts,p≠[])→
 (∀ A' H',Desk H' A' ⟨undo S.doms rs,S.firsts,t,ms,false,[]⟩→Into A H A' H'→Q .none H')→Γ .Store_pop [.obj A.s,.int (rest.length+1)] H Q
noncomputable def Pop0Γ (Γ:Fn→List AV→AH→P1→Prop):Prop:=∀ (A:DA) (S:DS) (H:AH) (Q:P1),Desk H A S→Q .none H→Γ .Store_pop [.obj A.s,.int 0] H Q
noncomputable def RunΓ (Γ:Fn→List AV→AH→P1→Prop):Prop:=∀ (a dx:Addr) (x z:Nat) (A:DA) (S:DS) (Post:Bool→DS→Prop) (H:AH) (Q:P1),Rule H a dx x z→Desk H A S→runW x z S Post→
 (∀ A' H' S' b,Desk H' A' S'→Into A H A' H'→Post b S'→Q (.bool b) H')→Γ .law_run [.obj a,.obj A.s,.int x,.int z] H Q
theorem q_neLL (a b:List Prs) (h:B (!decide (a=b)) H):cmpOp .ne (.lst (encLs a)) (.lst (encLs b)) H B:=
 ⟨_,⟨(data_encLs a).1,(data_encLs b).1,aeqs_encLs a b,(fun i e=>by cases e),fun i e=>by cases e⟩,h⟩
theorem q_eqLL (a b:List Prs) (h:B (decide (a=b)) H):cmpOp .eq (.lst (encLs a)) (.lst (encLs b)) H B:=
 ⟨_,⟨(data_encLs a).1,(data_encLs b).1,aeqs_encLs a b,(fun i e=>by cases e),fun i e=>by cases e⟩,h⟩
theorem lap_fail (hPop:PopΓ Γ) (hLo:LotsΓ Γ) {t kp ra rdx:Addr} {x z n m i:Nat} {kd:Kd} {D0:List Prs} {ks:List AV} {A:DA} {S S1:DS} {script built small turn lots y pair sign:AV} {C:PS}
  (L:LH t kp ra rdx x z n ks A S1 H) (P:LP kd i x z D0 ks S) (hi:i < 10) (B:Bk m { S with marks:=S.marks++[(S.trail.length:Int)] } S1)
  (h:∀ A' H' S',A'.s=A.s→LH t kp ra rdx x z n ks A' S' H'→(i=0→LF D0 ks S'→C .brk (lρ script built (.obj t) (.obj A.s) small turn (.int x) (.int z) lots y (.obj ra) (.obj kp) (.int i) (.bool false) pair sign) H')∧
   (0 < i→LP kd (i+1) x z D0 ks S'→C .next (lρ script built (.obj t) (.obj A.s) small turn (.int x) (.int z) lots y (.obj ra) (.obj kp) (.int i) (.bool false) pair sign) H')):
  trSs Γ lvl (lvl .law) (.cons lS8_5f1 (.cons lS8_5f2 (.cons lS8_5f3 .nil))) (lρ script built (.obj t) (.obj A.s) small turn (.int x) (.int z) lots y (.obj ra) (.obj kp) (.int i) (.bool false) pair sign) H C:=by
 obtain ⟨⟨fs,f1,f2,f3,f4⟩,f5,f6,f7⟩:=B
 simp only at f2 f3 f4 f5 f6 f7
 unfold lS8_5f1 lS8_5f2 lS8_5f3
 walk_at "wk"
 refine L.D.meth (f:=.Store_pop) rfl rfl ?_
 walk_at "wk"
 have fin:S1.firsts=D0:=f5.trans P.firsts
 refine hPop A S1 S.marks S.trail [] fs.reverse _ _ L.D f6 (by rw [f6]; have:=P.mks.2.2; simp; exact l20 1289793482945412395059730 rfl hi this) (by rw [f2,List.reverse_reverse]) (fun e he=>by rw [f7]; exact f4 e (List.mem_reverse.mp he)) (by rw [fin]; exact P.full) fun A2 H2 D2 I2=>?_
 rw [f3] at D2
 have L2:=L.into D2 I2
 obtain ⟨pre,hpre⟩:=P.ks1
 have hK:=L2.K
 rw [hpre] at hK
 have hh:=h A2 H2 _ I2.s L2
 clear h
 rw [← I2.s] at hh ⊢
 have hpos:i=0∨0 < i:=Nat.eq_zero_or_pos i
 walk_at "wk"
 refine D2.failed ?_
 walk_at "wk"
 rcases hpos with h0 | h0
 ·subst h0
  refine r_no rfl ?_
  walk_at "wk"
  exact r_yes rfl (r_ss (r_brk (hh.1 rfl (P.fin0 rfl (f5) rfl rfl rfl))))
 ·refine r_yes (decide_eq_true (by exact l10 75822835217 rfl h0)) ?_
  walk_at "wk"
  refine hLo A2 _ _ _ D2 P.doms.two (fun p hp=>by have:=(P.doms.fine p hp).l; exact l10 77121414728796689 rfl this) ⟨by have:=P.doms.two; simp [LIM]; exact l10 296583596371213437473 rfl this,.inr ?_⟩
  walk_at "wk"
  refine q_lastO hK ?_
  refine q_neLL _ _ ?_
  rw [decide_eq_true rfl]
  walk_at "wk"
  refine r_no (decide_eq_false (by exact l10 1196808381969 rfl h0)) ?_
  walk_at "wk"
  exact hh.2 h0 (P.again h0 rfl f5 rfl rfl rfl)
end
end Internal
namespace Internal
open PySem
section
variable {Γ:Fn→List AV→AH→P1→Prop} {lv:Fn→Nat} {k:Nat} {H H0:AH} {Q:P1} {B:PB} {ρ:Ev}
theorem lap_run (hPop:PopΓ Γ) (hLo:LotsΓ Γ) (hR:RunΓ Γ) {t kp ra rdx:Addr} {x z n m i:Nat} {kd:Kd} {D0:List Prs} {ks:List AV} {A:DA} {S S1:DS} {script built small turn lots y pair sign:AV} {C:PS}
  (hx:x < 2) (hz:z < 2) (hkd:kd=.same↔x=z)
  (L:LH t kp ra rdx x z n ks A S1 H) (P:LP kd i x z D0 ks S) (hi:i≤3) (B:Bk m { S with marks:=S.marks++[(S.trail.length:Int)] } S1) (hm:m≤1) (hf:S1.failed=false) (hr:RdyS kd i x z S1.doms)
  (h:∀ A' H' S' ks' st,A'.s=A.s→LH t kp ra rdx x z n ks' A' S' H'→(i=0→LF D0 ks' S'→C .brk (lρ script built (.obj t) (.obj A.s) small turn (.int x) (.int z) lots y (.obj ra) (.obj kp) (.int i) st pair sign) H')∧
   (LP kd (i+1) x z D0 ks' S'→C .next (lρ script built (.obj t) (.obj A.s) small turn (.int x) (.int z) lots y (.obj ra) (.obj kp) (.int i) st pair sign) H')):
  trSs Γ lvl (lvl .law) (.cons lS8_4 (.cons lS8_5 .nil)) (lρ script built (.obj t) (.obj A.s) small turn (.int x) (.int z) lots y (.obj ra) (.obj kp) (.int i) (.bool true) pair sign) H C:=by
 have tl:S1.trail.length < 5000:=by
  obtain ⟨es,e1,e2,_⟩:=P.bk
  obtain ⟨fs,f1,f2,_⟩:=B.es
  simp only at f2
  rw [f2,e1]; simp; exact l40 362996751413301380671687054870903474692 rfl hi hm e2 f1
 unfold lS8_4 lS8_4t1 lS8_4t2
 walk_at "wk"
 refine hR ra rdx x z A S1 (fun b S2=>Trk x z 40 S1 S2∧(b=true→S2.failed=false∧AftS kd i x z S2.doms)) _ _ L.R L.D (run_law hx hz hkd hr hi hf tl (fun S2 T f uu a=>⟨T,fun uu=>⟨f,a⟩⟩) fun S2 T=>⟨T,fun h=>by cases h⟩) fun A2 H2 S2 b D2 I2 ⟨T2,hb⟩=>?_
 have L2:=L.into D2 I2
 rw [← I2.s]
 walk_at "wk"
 refine ⟨rfl,.inr ⟨.inl ⟨b,rfl⟩,r_ff (r_nil (r_kn (r_nil (r_kn (r_ss ?_)))))⟩⟩
 have B2:Bk (m+40) { S with marks:=S.marks++[(S.trail.length:Int)] } S2:=B.trans T2.bk
 rw [← I2.s] at h
 unfold lS8_5
 walk_at "wk"
 cases b with
 | true=>
  refine byc fun hNN=>?_
  obtain ⟨hf2,ha⟩:=hb rfl
  have hkl:=P.ksl
  have Pn:=P.next (by exact l10 78202044212599297 rfl hm) B2 hf2 ha
  refine hNN ?_
  unfold lS8_5t1
  walk_at "wk"
  refine r_appm L2.K ?_
  walk_at "wk"
  refine hLo A2 S2 _ _ D2 ha.1.two (fun p hp=>by have:=(ha.1.fine p hp).l; exact l10 77121414728796689 rfl this) ⟨by have:=ha.1.two; simp [LIM]; exact l10 296583596371213437473 rfl this,.inr ?_⟩
  walk_at "wk"
  refine r_app L2.K (by unfold LIM; exact l20 330333254262394489298700802 rfl hi hkl) ?_
  walk_at "wk"
  exact (h A2 _ S2 _ (.bool true) rfl (L2.kept (ks++[.lst (encLs S2.doms)]))).2 Pn
 | false=>
  refine r_ff ?_
  have key:=lap_fail (Γ:=Γ) hPop hLo (script:=script) (built:=built) (small:=small) (turn:=turn) (lots:=lots) (y:=y) (pair:=pair) (sign:=sign) (C:=C) L2 P (by exact l10 18804609600001 rfl hi) B2 fun A3 H3 S3 e3 L3=>by
   have hh:=h A3 H3 S3 ks (.bool false) e3 L3
   exact ⟨hh.1,fun uu=>hh.2⟩
  have nestS:∀ {r:Ss} {ρ:Ev} {H:AH} {C:PS},trSs Γ lvl (lvl .law) r ρ H C→trSs Γ lvl (lvl .law) r ρ H (seqS (fun ρ' H1=>trSs Γ lvl (lvl .law) .nil ρ' H1 C) C):=fun {r ρ H C} h=>by
   have e:seqS (fun ρ' H1=>trSs Γ lvl (lvl .law) .nil ρ' H1 C) C=C:=by
    funext fl ρ' H'
    cases fl with
    | next=>rw [seqS_next,u_nil]
    | brk=>rfl
    | ret v=>rfl
   rw [e]; exact h
  exact nestS key
end
end Internal
namespace Internal
open PySem
noncomputable def kindOf (sm:Bool) (x z:Nat):Kd:=if x=z then .same else if sm then .small else .wide
theorem kind_same (sm:Bool) (x z:Nat):kindOf sm x z=.same↔x=z:=by
 unfold kindOf
 by_cases h:x=z
 ·simp [h]
 ·simp [h]; cases sm<;>simp
theorem kind_wide {sm:Bool} {x z:Nat} (h:kindOf sm x z=.wide):x≠z∧sm=false:=by
 unfold kindOf at h
 by_cases e:x=z
 ·rw [if_pos e] at h; cases h
 ·rw [if_neg e] at h; cases sm
  ·exact ⟨e,rfl⟩
  ·simp at h
section
variable {Γ:Fn→List AV→AH→P1→Prop} {lv:Fn→Nat} {k:Nat} {H H0:AH} {Q:P1} {B:PB} {ρ:Ev}
noncomputable def DecideΓ (Γ:Fn→List AV→AH→P1→Prop):Prop:=∀ (A:DA) (S:DS) (i:Nat) (g:Sy) (c:Int) (p:Prs) (H:AH) (Q:P1),EnterPre H A S i g p .none→(∀ A' H',Desk H' A' (enterS S i g c p .none).2→Into A H A' H'→Q (.bool (enterS S i g c p .none).1) H')→Γ .Store_decide [.obj A.s,lit i g c] H Q
noncomputable def DomΓ (Γ:Fn→List AV→AH→P1→Prop):Prop:=∀ (A:DA) (S:DS) (i:Nat) (p:Prs) (H:AH) (Q:P1),Desk H A S→S.doms[i]?=some p→Q (.tup (encPs p)) H→Γ .Store_dom [.obj A.s,.int i] H Q
noncomputable def PushΓ (Γ:Fn→List AV→AH→P1→Prop):Prop:=∀ (A:DA) (S:DS) (H:AH) (Q:P1),Desk H A S→S.marks.length < 1000→(∀ A' H',Desk H' A' { S with marks:=S.marks++[(S.trail.length:Int)] }→Into A H A' H'→Q .none H')→Γ .Store_push [.obj A.s] H Q
theorem sign_many {sm:Bool} {x y z:Nat} {P:P1} (e1:look ρ .is_small=some (.loc,.bool sm)) (e2:look ρ .x=some (.loc,.int x)) (e3:look ρ .z=some (.loc,.int z)) (e4:look ρ .y=some (.loc,.int y))
  (h:∀ m:Int,0 < m→m≤4→(kindOf sm x z=.wide→(y=z→m≤2)∧(y≠z→m=1))→P (.int m) H):
  trE Γ lv k (.ife (.or (.name .is_small) (.cmp .eq (.name .x) (.name .z))) (.int 4) (.ife (.cmp .eq (.name .y) (.name .z)) (.int 2) (.int 1))) ρ H P:=by
 refine r_ife (r_tor (r_tname e1 rfl ⟨fun hs=>?_,fun hs=>?_⟩))
 ·exact r_tt (r_int (h 4 (by decide) (by decide) fun hw=>absurd (kind_wide hw).2 (by rw [hs]; simp)))
 ·refine r_tcmp (r_nm e2 rfl (r_nm e3 rfl (r_eq ⟨fun hxz=>?_,fun hxz=>?_⟩)))
  ·exact r_int (h 4 (by decide) (by decide) fun hw=>absurd (kind_wide hw).1 (by have:=of_decide_eq_true hxz; simp; exact l20 72357810686895953 rfl this))
  ·refine r_ife (r_tcmp (r_nm e4 rfl (r_nm e3 rfl (r_eq ⟨fun hyz=>?_,fun hyz=>?_⟩))))
   ·exact r_int (h 2 (by decide) (by decide) fun uu=>⟨fun uu=>by decide,fun hn=>by have:=of_decide_eq_true hyz; exact l20 346068615076249983768881327219298 rfl hn this⟩)
   ·exact r_int (h 1 (by decide) (by decide) fun uu=>⟨fun uu=>by decide,fun uu=>rfl⟩)
theorem pick_sign {c m:Int} (h1:0≤c) (h2:c < m) (h3:m≤4) (h:∀ g:Sy,isSg g=true→(m≤2→g=.ne∨g=.le)→(m=1→g=.ne)→Q (.str g) H):getIt H (.tup [.str .ne,.str .le,.str .ge,.str .eq]) (.int c) Q:=by
 have:c=0∨c=1∨c=2∨c=3:=by exact l02 235876476561684178227159067372419763488489195318454666585258243367916327378595270180471762274411024521820722847672081547264340533595815312720470480616972149049581151795 rfl h1 h2 h3
 rcases this with e | e | e | e
 ·refine q_ixT 0 e rfl ?_; exact h .ne rfl (fun uu=>.inl rfl) fun uu=>rfl
 ·refine q_ixT 1 e rfl ?_; exact h .le rfl (fun uu=>.inr rfl) fun hm=>by exact False.elim (l02 76589073734941251 rfl h2 e hm)
 ·refine q_ixT 2 e rfl ?_; exact h .ge rfl (fun hm=>by exact False.elim (l02 19606742804566751811 rfl h2 e hm)) fun hm=>by exact False.elim (l02 1225425178857945667 rfl h2 e hm)
 ·refine q_ixT 3 e rfl ?_; exact h .eq rfl (fun hm=>by exact False.elim (l02 19606742804835187267 rfl h2 e hm)) fun hm=>by exact False.elim (l02 1225425179126381123 rfl h2 e hm)
theorem lap_dec (hD:DrawΓ Γ) (hDom:DomΓ Γ) (hDec:DecideΓ Γ) {t kp ra rdx:Addr} {x z n i:Nat} {sm:Bool} {ks:List AV} {A:DA} {S:DS} {script built turn lots y pair sign:AV} {C:PS}
  (hx:x < 2) (hz:z < 2) (L:LH t kp ra rdx x z n ks A S H) (dm:Doms S.doms) (htl:S.trail.length < 10000) (hn:n < 9000)
  (h:∀ A' H' (y:Nat) g c p pair',A'.s=A.s→y=x∨y=z→S.doms[y]?=some p→isSg g=true→(kindOf sm x z=.wide→(y=x→g=.ne)∧(y=z→g=.ne∨g=.le))→
   LH t kp ra rdx x z (n+5) ks A' (enterS S y g c p .none).2 H'→C .next (lρ script built (.obj t) (.obj A'.s) (.bool sm) turn (.int x) (.int z) lots (.int y) (.obj ra) (.obj kp) (.int i) (.bool (enterS S y g c p .none).1) pair' (.str g)) H'):
  trSs Γ lvl (lvl .law) (.cons lS8_3t1 (.cons lS8_3t2 (.cons lS8_3t3 (.cons lS8_3t4 .nil)))) (lρ script built (.obj t) (.obj A.s) (.bool sm) turn (.int x) (.int z) lots y (.obj ra) (.obj kp) (.int i) (.bool true) pair sign) H C:=by
 unfold lS8_3t1 lS8_3t2 lS8_3t3 lS8_3t4
 walk_at "wk"
 refine hD t n 2 _ _ L.T (by exact l10 5068002073115436272145 rfl hn) (by decide) fun r H1 r1 r2 T1 o1=>?_
 have L1:=L.draw T1 o1
 obtain ⟨y,hy,ey⟩:∃ y:Nat,(y=x∨y=z)∧∀ P:P1,P (.int y) H1→getIt H1 (.tup [.int x,.int z]) (.int r) P:=by
  have:r=0∨r=1:=by exact l01 1334441843014348812780797650574550578 rfl r1 r2
  rcases this with e | e<;>subst e
  ·exact ⟨x,.inl rfl,fun P=>r_fst⟩
  ·exact ⟨z,.inr rfl,fun P=>r_snd⟩
 refine ey _ ?_
 have y2:y < S.doms.length:=by rw [dm.two]; rcases hy with rfl | rfl<;>assumption
 have hp:S.doms[y]?=some S.doms[y]:=List.getElem?_eq_getElem y2
 generalize S.doms[y]=p at hp
 have fp:=dm.fine p (at_mem hp)
 have np:=dm.full p (at_mem hp)
 have fl:=fp.l
 walk_at "wk"
 refine L1.D.meth (f:=.Store_dom) rfl rfl ?_
 walk_at "wk"
 refine hDom A S y p _ _ L1.D hp ?_
 walk_at "wk"
 refine L1.D.meth (f:=.Store_dom) rfl rfl ?_
 walk_at "wk"
 refine hDom A S y p _ _ L1.D hp ?_
 walk_at "wk"
 rw [encPs_len]
 have pl:0 < p.length:=List.length_pos_iff.mpr np
 refine hD t (n+1) _ _ _ T1 (by exact l10 1297408529465713750460945 rfl hn) (by exact l10 75822835217 rfl pl) fun r H2 r1 r2 T2 o2=>?_
 have L2:=L1.draw T2 o2
 obtain ⟨ri,rfl⟩:∃ ri:Nat,r=ri:=⟨r.toNat,by exact l11 5987777939529122369632691486952872173353635187041842 rfl r1 (ltoN _)⟩
 obtain ⟨q,hq⟩:=enc_at (p:=p) (i:=ri) (by exact l20 1218188912449 rfl r2)
 refine r_ix rfl hq ?_
 refine r_can rfl (r_kn (r_ss (r_asg (r_sub (r_tup (r_es1 (r_str (r_es1 (r_str (r_es1 (r_str (r_es1 (r_str (r_es0 (r_newT rfl (r_call rfl (r_es1 (r_nm rfl rfl (r_es1 ?_)))))))))))))))))))
 refine sign_many (sm:=sm) (x:=x) (y:=y) (z:=z) rfl rfl rfl rfl fun m m1 m2 hm=>?_
 walk_at "wk"
 refine hD t (n+2) m _ _ T2 (by exact l10 20758536456426494012967441 rfl hn) m1 fun r H3 r1 r2 T3 o3=>?_
 have L3:=L2.draw T3 o3
 refine pick_sign r1 r2 m2 fun g hg g1 g2=>?_
 walk_at "wk"
 refine L3.D.meth (f:=.Store_decide) rfl rfl ?_
 walk_at "wk"
 refine hD t (n+3) 2 _ _ T3 (by exact l10 20758536460930093640337937 rfl hn) (by decide) fun r H4 r1 r2 T4 o4=>?_
 have L4:=L3.draw T4 o4
 obtain ⟨w,hw⟩:∃ w:Int,∀ P:P1,P (.int w) H4→getIt H4 (.tup [.int q.1,.int q.2]) (.int r) P:=by
  have:r=0∨r=1:=by exact l01 1334441843014348812780797650574550578 rfl r1 r2
  rcases this with e | e<;>subst e
  ·exact ⟨q.1,fun P=>r_fst⟩
  ·exact ⟨q.2,fun P=>r_snd⟩
 refine hw _ ?_
 walk_at "wk"
 refine hD t (n+4) 3 _ _ T4 (by exact l10 20758536465433693267708433 rfl hn) (by decide) fun r H5 r1 r2 T5 o5=>?_
 have L5:=L4.draw T5 o5
 walk_at "wk"
 refine hDec A S y g (w+r - 1) p _ _ ⟨L5.D,by rcases hy with rfl | rfl<;>assumption,hp,hg,by exact l10 77098599862520337 rfl fl,.inl rfl,htl⟩ fun A6 H6 D6 I6=>?_
 rw [← I6.s]
 walk_at "wk"
 refine h A6 H6 y g _ p _ I6.s hy hp hg (fun hw=>?_) (L5.into D6 I6)
 obtain ⟨a,b⟩:=hm hw
 have nxz:=(kind_wide hw).1
 refine ⟨fun e=>?_,fun e=>g1 (a e)⟩
 exact g2 (b (by rw [e]; exact nxz))
end
end Internal
namespace Internal
open PySem
section
variable {Γ:Fn→List AV→AH→P1→Prop} {lv:Fn→Nat} {k:Nat} {H H0:AH} {Q:P1} {B:PB} {ρ:Ev}
theorem seq_nil {k:Nat} {r:Ss} {ρ:Ev} {H:AH} {C:PS} (h:trSs Γ lv k r ρ H C):trSs Γ lv k r ρ H (seqS (fun ρ' H1=>trSs Γ lv k .nil ρ' H1 C) C):=by
 have e:seqS (fun ρ' H1=>trSs Γ lv k .nil ρ' H1 C) C=C:=by
  funext fl ρ' H'
  cases fl with
  | next=>rw [seqS_next,u_nil]
  | brk=>rfl
  | ret v=>rfl
 rw [e]; exact h
theorem LP.trl {kd:Kd} {i x z:Nat} {D0:List Prs} {ks:List AV} {S:DS} (P:LP kd i x z D0 ks S) (hi:i≤3):S.trail.length < 5000:=by
 obtain ⟨es,e1,e2,_⟩:=P.bk
 rw [e1,List.length_map]; exact l20 336844604416066529865714178 rfl hi e2
theorem lap (hD:DrawΓ Γ) (hDom:DomΓ Γ) (hDec:DecideΓ Γ) (hPush:PushΓ Γ) (hPop:PopΓ Γ) (hLo:LotsΓ Γ) (hR:RunΓ Γ) {t kp ra rdx:Addr} {x z n i:Nat} {sm:Bool} {D0:List Prs} {ks:List AV} {A:DA} {S:DS} {script built turn lots y st pair sign:AV} {C:PS}
  (hx:x < 2) (hz:z < 2) (L:LH t kp ra rdx x z n ks A S H) (P:LP (kindOf sm x z) i x z D0 ks S) (hi:i≤3) (hn:n < 9000)
  (h:∀ A' H' S' ks' n' y' st' pair' sign',A'.s=A.s→n'≤n+5→LH t kp ra rdx x z n' ks' A' S' H'→(i=0→LF D0 ks' S'→C .brk (lρ script built (.obj t) (.obj A'.s) (.bool sm) turn (.int x) (.int z) lots y' (.obj ra) (.obj kp) (.int i) st' pair' sign') H')∧
   (LP (kindOf sm x z) (i+1) x z D0 ks' S'→C .next (lρ script built (.obj t) (.obj A'.s) (.bool sm) turn (.int x) (.int z) lots y' (.obj ra) (.obj kp) (.int i) st' pair' sign') H')):
  trSs Γ lvl (lvl .law) lB8 (lρ script built (.obj t) (.obj A.s) (.bool sm) turn (.int x) (.int z) lots y (.obj ra) (.obj kp) (.int i) st pair sign) H C:=by
 have htl:=P.trl hi
 unfold lB8 lS8_1 lS8_2 lS8_3
 walk_at "wk"
 refine L.D.meth (f:=.Store_push) rfl rfl ?_
 walk_at "wk"
 refine hPush A S _ _ L.D (by have:=P.mks.2.2; exact l20 314890987419428145666 rfl hi this) fun A1 H1 D1 I1=>?_
 have L1:=L.into D1 I1
 rw [← I1.s]
 walk_at "wk"
 rcases Nat.eq_zero_or_pos i with h0 | h0
 ·refine r_no (decide_eq_false (by exact l10 17705839520289 rfl h0)) (r_nil (r_kn ?_))
  refine lap_run hPop hLo hR hx hz (kind_same sm x z) (S:=S) (S1:={ S with marks:=S.marks++[(S.trail.length:Int)] }) L1 P hi (Bk.refl _) (by lia) P.fl (by have:=P.st; rw [if_pos h0] at this; rw [h0]; exact this) fun A2 H2 S2 ks2 st2 e2 L2=>?_
  rw [← e2]
  exact h A2 H2 S2 ks2 n y st2 pair sign (e2.trans I1.s) (Nat.le_add_right _ _) L2
 ·refine r_yes (decide_eq_true (by exact l10 75822835217 rfl h0)) ?_
  refine lap_dec hD hDom hDec hx hz (S:={ S with marks:=S.marks++[(S.trail.length:Int)] }) L1 P.doms (by show S.trail.length < 10000; exact l10 5068002073111170664977 rfl htl) hn fun A2 H2 y2 g c p pair2 e2 hy hp hg hw L2=>r_kn ?_
  obtain ⟨b1,b2,b3⟩:=dec_bk (S:={ S with marks:=S.marks++[(S.trail.length:Int)] }) (g:=g) (c:=c) hp
  have e3:A2.s=A.s:=e2.trans I1.s
  have hA2:=h
  generalize hE:enterS { S with marks:=S.marks++[(S.trail.length:Int)] } y2 g c p .none=E at L2 b1 b2 b3 ⊢
  obtain ⟨bb,S1⟩:=E
  cases bb with
  | true=>
   obtain ⟨d1,d2⟩:=b3 rfl
   have hf:S1.failed=false:=by have b1:S1.failed=(S.failed || !true):=b1; rw [b1,P.fl]; rfl
   have ha:AftS (kindOf sm x z) (i - 1) x z S.doms:=by have:=P.st; rw [if_neg (by exact l10 74795361809 rfl h0)] at this; exact this
   have hrd:=dec_law (kind_same sm x z) ha (by exact l20 1412649625776599388494447139457550850 rfl hi (lsub _ _)) hy hp hg hw d1
   have ei:i - 1+1=i:=by exact l20 97054242366449120299335745355002340718423877138 rfl h0 (lsub _ _)
   rw [ei] at hrd
   refine lap_run hPop hLo hR hx hz (kind_same sm x z) (S:=S) L2 P hi b2 (by lia) hf (by rw [d2]; exact hrd) fun A3 H3 S3 ks3 st3 e4 L3=>?_
   rw [← e4]
   exact h A3 H3 S3 ks3 (n+5) _ st3 _ _ (e4.trans e3) (Nat.le_refl _) L3
  | false=>
   unfold lS8_4 lS8_5
   walk_at "wk"
   refine seq_nil (lap_fail hPop hLo (S:=S) L2 P (by exact l10 18804609600001 rfl hi) b2 fun A3 H3 S3 e4 L3=>?_)
   rw [← e4]
   have hh:=h A3 H3 S3 ks (n+5) (.int y2) (.bool false) pair2 (.str g) (e4.trans e3) (Nat.le_refl _) L3
   exact ⟨hh.1,fun uu=>hh.2⟩
theorem upto_cons {lo hi:Int} (h:lo < hi):upto lo hi=lo::upto (lo+1) hi:=by
 unfold upto
 have e:(hi - lo).toNat=(hi - (lo+1)).toNat+1:=by exact l22 50611234061978868208030614326278394875555007569822186719607455970409536890219927300670218847402646296819689183326705500460470745888546404931 rfl h (ltoN _) (ltoN _)
 rw [e,List.range_succ_eq_map,List.map_cons,List.map_map]
 congr 1
 ·simp
 ·apply List.map_congr_left
  intro a _
  simp only [Function.comp]
  exact l11 1272084377312403536 rfl
theorem upto_nil {lo hi:Int} (h:hi≤lo):upto lo hi=[]:=by
 unfold upto
 have e:(hi - lo).toNat=0:=by exact l12 6301627650356972877020736558519460520199087787752505784882 rfl h (ltoN _)
 rw [e]; rfl
theorem law_loop (hD:DrawΓ Γ) (hDom:DomΓ Γ) (hDec:DecideΓ Γ) (hPush:PushΓ Γ) (hPop:PopΓ Γ) (hLo:LotsΓ Γ) (hR:RunΓ Γ) {t kp ra rdx:Addr} {x z:Nat} {sm:Bool} {D0:List Prs} {script built turn lots:AV} (hx:x < 2) (hz:z < 2):
  ∀ (c i n:Nat) (ks:List AV) (A:DA) (S:DS) (y lap_ st pair sign:AV) (H:AH) (C:PS),i+c≤4→0 < i+c→n+5 * c < 9000→LH t kp ra rdx x z n ks A S H→LP (kindOf sm x z) i x z D0 ks S→
   (∀ A' H' S' ks' n' y' lap' st' pair' sign',A'.s=A.s→LH t kp ra rdx x z n' ks' A' S' H'→LF D0 ks' S'→C .next (lρ script built (.obj t) (.obj A'.s) (.bool sm) turn (.int x) (.int z) lots y' (.obj ra) (.obj kp) lap' st' pair' sign') H')→
   loopF (fun w ρ1 H2 C=>asgC (.name .lap) w ρ1 fun ρ2=>trSs Γ lvl (lvl .law) lB8 ρ2 H2 C) ((upto (i:Int) ((i:Int)+(c:Int))).map .int) (lρ script built (.obj t) (.obj A.s) (.bool sm) turn (.int x) (.int z) lots y (.obj ra) (.obj kp) lap_ st pair sign) H C
 | 0,i,n,ks,A,S,y,lap_,st,pair,sign,H,C,h1,h2,h3,L,P,h=>by
  rw [upto_nil (by exact l10 113656885296 rfl)]
  exact h A H S ks n y lap_ st pair sign rfl L (P.fin (by exact l10 1212815115793 rfl h2) (by exact l10 4813980074156033 rfl h1))
 | c+1,i,n,ks,A,S,y,lap_,st,pair,sign,H,C,h1,h2,h3,L,P,h=>by
  rw [upto_cons (by exact l20 23847712630592 rfl),List.map_cons,loopF]
  refine ⟨rfl,?_⟩
  refine lap hD hDom hDec hPush hPop hLo hR hx hz (st:=st) L P (by exact l20 77487000804958209 rfl h1) (by exact l20 84988506516468976862589263889 rfl h3) fun A' H' S' ks' n' y' st' pair' sign' e hn' L'=>⟨fun h0 F=>?_,fun P'=>?_⟩
  ·exact h A' H' S' ks' n' y' _ st' pair' sign' e L' F
  ·have ih:=law_loop hD hDom hDec hPush hPop hLo hR (script:=script) (built:=built) (turn:=turn) (lots:=lots) hx hz c (i+1) n' ks' A' S' y' (.int i) st' pair' sign' H' C (by exact l20 5096731016662933872641 rfl h1) (by exact l20 7342130704 rfl) (by exact l30 1487242426075701852192937327528876732227602 rfl h3 hn') L' P' fun A2 H2 S2 ks2 n2 y2 l2 st2 p2 s2 e2 L2 F2=>by
    exact h A2 H2 S2 ks2 n2 y2 l2 st2 p2 s2 (e2.trans e) L2 F2
   have e1:((i+1:Nat):Int)=(i:Int)+1:=by exact l10 19080129677136 rfl
   have e2:(i:Int)+1+(c:Int)=(i:Int)+((c+1:Nat):Int):=by exact l20 320154044303011151952 rfl
   rw [e1,e2] at ih
   exact ih
end
end Internal
namespace Internal
open PySem
structure Lots (sm:Bool) (X Z:Prs):Prop where
 fX:Fine X
 fZ:Fine Z
 nX:X≠[]
 nZ:Z≠[]
 l:X.length+Z.length≤17
 six:sm=true→In6 X∧In6 Z
 wide:sm=false→Wd 3 X Z
theorem lots_few {X Z:Prs} (h1:FewR (-6) 6 X) (h2:FewR (-2) 6 Z):Lots true X Z:=by
 obtain ⟨a,b,c⟩:=few_fine h1 (by lia) (by lia)
 obtain ⟨d,e,f⟩:=few_fine h2 (by lia) (by lia)
 exact ⟨a,d,b,e,by have:=h1.2.2.1; have:=h2.2.2.1; exact l20 5038936780050404887042 rfl ‹_› this,fun uu=>⟨c,f⟩,fun h=>by cases h⟩
theorem lots_wide {X Z:Prs} (h:Wd 3 X Z):Lots false X Z:=⟨h.fX,h.fZ,h.nX,h.nZ,by have:=h.lX; have:=h.lZ; exact l20 84539330769032054781016017410 rfl ‹_› this,(fun h=>by cases h),fun uu=>h⟩
noncomputable def pD (x z:Nat) (X Z:Prs) (y:Nat):Prs:=if x≠z∨y=1 then (if y=x then X else Z) else mergeP (X++Z)
theorem pD_fine {sm:Bool} {x z:Nat} {X Z:Prs} (L:Lots sm X Z) (y:Nat):Fine (pD x z X Z y)∧pD x z X Z y≠[]:=by
 unfold pD
 split
 ·split
  ·exact ⟨L.fX,L.nX⟩
  ·exact ⟨L.fZ,L.nZ⟩
 ·obtain ⟨a,b,c⟩:=both_fine L.fX L.fZ L.nX L.l
  exact ⟨a,b⟩
theorem first_rdy {sm:Bool} {x z:Nat} {X Z:Prs} (L:Lots sm X Z) (hx:x < 2) (hz:z < 2) (hxz:x=z→x=0):RdyS (kindOf sm x z) 0 x z [pD x z X Z 0,pD x z X Z 1]:=by
 have hf:∀ p∈[pD x z X Z 0,pD x z X Z 1],Fine p∧p≠[]:=fun p hp=>by
  simp at hp
  rcases hp with rfl | rfl<;>exact pD_fine L _
 refine ⟨⟨rfl,fun p hp=>(hf p hp).1,fun p hp=>(hf p hp).2⟩,?_⟩
 by_cases e:x=z
 ·have hx0:=hxz e
  subst e
  subst hx0
  have e1:pD 0 0 X Z 0=mergeP (X++Z):=by unfold pD; simp
  obtain ⟨a,b,c⟩:=both_fine L.fX L.fZ L.nX L.l
  refine ⟨mergeP (X++Z),mergeP (X++Z),by rw [e1]; rfl,by rw [e1]; rfl,?_⟩
  rw [(kind_same sm 0 0).mpr rfl]
  exact ⟨rfl,by exact l10 78295401067268609 rfl c⟩
 ·have hp:∀ y,pD x z X Z y=if y=x then X else Z:=fun y=>by unfold pD; rw [if_pos (.inl e)]
  have gx:[pD x z X Z 0,pD x z X Z 1][x]?=some X:=by
   have:x=0∨x=1:=by exact l10 4972387750244125115458669073 rfl hx
   rcases this with rfl | rfl<;>simp [hp]
  have gz:[pD x z X Z 0,pD x z X Z 1][z]?=some Z:=by
   have:z=0∨z=1:=by exact l10 4972387750244125115458669073 rfl hz
   rcases this with rfl | rfl
   ·simp [hp]; intro h; exact absurd h.symm e
   ·simp [hp]; intro h; exact absurd h.symm e
  refine ⟨X,Z,gx,gz,?_⟩
  unfold kindOf
  rw [if_neg e]
  cases sm with
  | true=>exact L.six rfl
  | false=>
   have W:=L.wide rfl
   exact .inl ⟨rfl,by have:=W.lX; exact l10 77023676623751681 rfl this,by have:=W.lZ; exact l10 4913306024544769 rfl this,W.P⟩
section
variable {Γ:Fn→List AV→AH→P1→Prop} {lv:Fn→Nat} {k:Nat} {H H0:AH} {Q:P1} {B:PB} {ρ:Ev}
noncomputable def SInitΓ (Γ:Fn→List AV→AH→P1→Prop):Prop:=∀ (s dx:Addr) (H:AH) (Q:P1),H s=some (.inst .store dx)→H dx=some (.ns [])→(∀ A H',A.s=s→A.dx=dx→Desk H' A ⟨[],[],[],[],false,[]⟩→(∀ b,b≠s→b≠dx→H b≠none→H' b=H b∧¬ A.own b)→Q .none H')→Γ .Store_init [.obj s] H Q
noncomputable def AInitΓ (Γ:Fn→List AV→AH→P1→Prop):Prop:=∀ (a dx:Addr) (x z:Nat) (H:AH) (Q:P1),H a=some (.inst .absolute dx)→H dx=some (.ns [])→(∀ H',Rule H' a dx x z→(∀ b,b≠dx→H' b=H b)→Q .none H')→Γ .Absolute_init [.obj a,.int x,.int z] H Q
noncomputable def FewΓ (Γ:Fn→List AV→AH→P1→Prop):Prop:=∀ (t:Addr) (n:Nat) (lo many:Int) (H:AH) (Q:P1),Tub H t n→n < 1000→0 < many→(∀ (vs:List Int) H' n',n'≤n+7→vs≠[]→vs.length≤6→(∀ v∈vs,lo≤v∧v < lo+many)→Tub H' t n'→(∀ b,b≠t→H' b=H b)→Q (.lst (encPs (mergeP (vs.map fun v=>(v,v))))) H')→Γ .law_few [.obj t,.int lo,.int many] H Q
noncomputable def WideΓ (Γ:Fn→List AV→AH→P1→Prop):Prop:=∀ (t:Addr) (n:Nat) (H:AH) (Q:P1),Tub H t n→n < 1000→(∀ X Z H' n',n'≤n+60→Tub H' t n'→(∀ b,b≠t→H b≠none→H' b=H b)→Wd 3 X Z→Q (.lst (encLs [X,Z])) H')→Γ .law_wide [.obj t] H Q
noncomputable def NewVarΓ (Γ:Fn→List AV→AH→P1→Prop):Prop:=∀ (A:DA) (S:DS) (p:Prs) (H:AH) (Q:P1),Desk H A S→p≠[]→S.doms.length < 100→S.firsts.length < 100→(∀ A' H',Desk H' A' { S with doms:=S.doms++[p],firsts:=S.firsts++[p] }→Into A H A' H'→Q (.int S.doms.length) H')→Γ .Store_new_var [.obj A.s,.tup (encPs p)] H Q
noncomputable def DepthΓ (Γ:Fn→List AV→AH→P1→Prop):Prop:=∀ (A:DA) (S:DS) (H:AH) (Q:P1),Desk H A S→Q (.int S.marks.length) H→Γ .Store_depth [.obj A.s] H Q
theorem Desk.keep {A:DA} {S:DS} {H':AH} (D:Desk H A S) (h:∀ b,A.own b→H' b=H b):Desk H' A S:=by
 have g:∀ {c o'},A.own c→H c=Option.some o'→H' c=Option.some o':=fun {c o'} hc e=>by rw [h c hc]; exact e
 exact ⟨g (by simp [DA.own]) D.inst,g (by simp [DA.own]) D.ns,g (by simp [DA.own]) D.dom,g (by simp [DA.own]) D.fst,g (by simp [DA.own]) D.trl,g (by simp [DA.own]) D.mrk,g (by simp [DA.own]) D.nws,D.apart⟩
theorem Tub.notown {t:Addr} {n:Nat} {A:DA} {S:DS} (T:Tub H t n) (D:Desk H A S):¬ A.own t:=by
 obtain ⟨is,h1,h2⟩:=T
 intro h
 rcases h with rfl | rfl | rfl | rfl | rfl | rfl | rfl
 ·rw [D.inst] at h2; cases h2
 ·rw [D.ns] at h2; cases h2
 ·rw [D.dom] at h2; cases h2
 ·rw [D.fst] at h2; cases h2
 ·rw [D.trl] at h2; cases h2
 ·rw [D.mrk] at h2; cases h2
 ·rw [D.nws] at h2; cases h2
theorem pickXZ {c:Int} (h1:0≤c) (h2:c < 5) (h:∀ x z:Nat,x < 2→z < 2→(x=z→x=0)→Q (.tup [.int x,.int z]) H):
  getIt H (.tup [.tup [.int 0,.int 1],.tup [.int 1,.int 0],.tup [.int 0,.int 1],.tup [.int 1,.int 0],.tup [.int 0,.int 0]]) (.int c) Q:=by
 have:c=0∨c=1∨c=2∨c=3∨c=4:=by exact l01 43889034579872418830599433693077953946648438514045147612116064565857319607353648446594719399076438411981839508000616767471881461134298410906168242484551363432141605317458656643273118718163616377354478410234269142401388119740822444341839958162154050303135439079114744192765791184701625233411176229190805042 rfl h1 h2
 rcases this with e | e | e | e | e
 ·refine q_ixT 0 e rfl ?_; exact h 0 1 (by lia) (by lia) (by lia)
 ·refine q_ixT 1 e rfl ?_; exact h 1 0 (by lia) (by lia) (by lia)
 ·refine q_ixT 2 e rfl ?_; exact h 0 1 (by lia) (by lia) (by lia)
 ·refine q_ixT 3 e rfl ?_; exact h 1 0 (by lia) (by lia) (by lia)
 ·refine q_ixT 4 e rfl ?_; exact h 0 0 (by lia) (by lia) (by lia)
theorem law_new (hM:MergedΓ Γ) (hV:NewVarΓ Γ) {sm:Bool} {x z y:Nat} {X Z:Prs} {A:DA} {S:DS} {script built tub small turn yv rule kept lap_ st pair sign:AV} {C:PS} (LT:Lots sm X Z) (D:Desk H A S) (hd:S.doms.length < 100) (hf:S.firsts.length < 100)
  (h:∀ A' H',Desk H' A' { S with doms:=S.doms++[pD x z X Z y],firsts:=S.firsts++[pD x z X Z y] }→Into A H A' H'→C .next (lρ script built tub (.obj A'.s) small turn (.int x) (.int z) (.lst (encLs [X,Z])) (.int y) rule kept lap_ st pair sign) H'):
  asgC (.name .y) (.int y) (lρ script built tub (.obj A.s) small turn (.int x) (.int z) (.lst (encLs [X,Z])) yv rule kept lap_ st pair sign) fun ρ2=>trSs Γ lvl (lvl .law) lB6 ρ2 H C:=by
 have lx:X.length < 60:=LT.fX.l
 have lz:Z.length < 60:=LT.fZ.l
 have eX:(encLs [X,Z])[0]?=some (.lst (encPs X)):=rfl
 have eZ:(encLs [X,Z])[1]?=some (.lst (encPs Z)):=rfl
 obtain ⟨fp,np⟩:=pD_fine (x:=x) (z:=z) LT y
 have fin:=fun h2=>hV A S _ H (fun v H1=>(v=.none∨∃ i,v=.int i)∧seqS (fun ρ' H1=>trSs Γ lvl (lvl .law) .nil ρ' H1 C) C .next (lρ script built tub (.obj A.s) small turn (.int x) (.int z) (.lst (encLs [X,Z])) (.int y) rule kept lap_ st pair sign) H1) D np hd hf h2
 have fin:=fin fun A' H' D' I'=>⟨.inr ⟨_,rfl⟩,r_kn (r_nil (by rw [← I'.s]; exact h A' H' D' I'))⟩
 have lt:∀ {p:Prs},p.length < 60→(encPs p).length≤LIM:=fun h=>by rw [encPs_len]; unfold LIM; exact l10 318118964249128356369 rfl h
 unfold lB6 lS6_1
 refine r_asgCN rfl ?_
 walk_at "wk"
 refine D.meth (f:=.Store_new_var) rfl rfl ?_
 walk_at "wk"
 have one:x≠z∨y=1→∀ {ρ:Ev} {P:P1},look ρ .lots=some (.loc,.lst (encLs [X,Z]))→look ρ .y=some (.loc,.int y)→look ρ .x=some (.loc,.int x)→look ρ .tuple=some (.glo,.unb)→P (.tup (encPs (pD x z X Z y))) H→
   trE Γ lvl (lvl .law) (.call .tuple (.cons (.sub (.name .lots) (.ife (.cmp .eq (.name .y) (.name .x)) (.int 0) (.int 1))) .nil)) ρ H P:=fun hc ρ P a1 a2 a3 a4 hP=>by
  have ep:pD x z X Z y=if y=x then X else Z:=by unfold pD; rw [if_pos hc]
  rw [ep] at hP
  refine r_call a4 (r_es1 (r_sub (r_nm a1 rfl (r_ife (r_tcmp (r_nm a2 rfl (r_nm a3 rfl (r_eq ⟨fun e=>?_,fun e=>?_⟩))))))))
  ·rw [if_pos (by have:=of_decide_eq_true e; exact l20 72357810686895953 rfl this)] at hP
   exact r_int (r_ix (i:=0) rfl eX (r_es0 (r_callB rfl (r_tupL (lt lx) hP))))
  ·rw [if_neg (by have:=of_decide_eq_false e; exact l20 1229513082673984865 rfl this)] at hP
   exact r_int (r_ix (i:=1) rfl eZ (r_es0 (r_callB rfl (r_tupL (lt lz) hP))))
 refine ⟨fun e=>?_,fun e=>?_⟩
 ·refine r_tt (one (.inl (by intro e'; subst e'; simp at e)) rfl rfl rfl rfl ?_)
  walk_at "wk"
  exact fin
 ·walk_at "wk"
  refine ⟨fun e2=>?_,fun e2=>?_⟩
  ·refine one (.inr (by have:=of_decide_eq_true e2; exact l10 4522361556936529 rfl this)) rfl rfl rfl rfl ?_
   walk_at "wk"
   exact fin
  ·have hc:¬ (x≠z∨y=1):=by
    have e3:(x:Int)=z:=by simpa using e
    have e4:¬ (y:Int)=1:=of_decide_eq_false e2
    exact l30 101768743891462885176149059086025280196251352454113106 rfl e3 e4
   have ep:pD x z X Z y=mergeP (X++Z):=by unfold pD; rw [if_neg hc]
   rw [ep] at fin
   have ml:(mergeP (X++Z)).length≤17:=(both_fine LT.fX LT.fZ LT.nX LT.l).2.2
   have ll:=LT.l
   walk_at "wk"
   refine r_ix (i:=0) rfl eX ?_
   walk_at "wk"
   refine r_ix (i:=1) rfl eZ ?_
   refine q_catL2 X Z (by rw [List.length_append,encPs_len,encPs_len]; unfold LIM; exact l20 20848244441058930139570177 rfl ll) ?_
   walk_at "wk"
   refine hM _ (X++Z) _ _ rfl (fun e=>by cases e) (by rw [List.length_append]; exact l20 315361390721049010177 rfl ll) ?_
   walk_at "wk"
   refine r_tupL (lt (by exact l10 307608261577217 rfl ml)) ?_
   walk_at "wk"
   exact fin
end
end Internal
namespace Internal
open PySem
section
variable {Γ:Fn→List AV→AH→P1→Prop} {lv:Fn→Nat} {k:Nat} {H H0:AH} {Q:P1} {B:PB} {ρ:Ev}
theorem cells_expr {is bs:List Int} {P:P1} (e1:look ρ .script=some (.loc,.lst (is.map .int))) (e2:look ρ .built=some (.loc,.lst (bs.map .int))) (e3:look ρ .len=some (.glo,.unb)) (e4:look ρ .list=some (.glo,.unb)) (hb:bs.length≤100)
  (h:∀ cs:List Int,cs.length≤100→P (.lst (cs.map .int)) H):
  trE Γ lv k (.ife (.cmp .gt (.call .len (.cons (.name .script) .nil)) (.int 0)) (.call .list (.cons (.slice (.name .script) .none (.int 60)) .nil)) (.name .built)) ρ H P:=by
 refine r_ife (r_tcmp (r_call e3 (r_es1 (r_nm e1 rfl (r_es0 (r_callB rfl (r_lenL (r_int (r_gt ⟨fun uu=>?_,fun uu=>?_⟩)))))))))
 ·refine r_call e4 (r_es1 ?_)
  refine r_slice ?_
  refine r_nm e1 rfl (r_none (r_int ⟨is.map .int,(fun t e=>by cases e),rfl,.inl ⟨60,rfl,rfl,?_⟩⟩))
  rw [← List.map_take]
  have tl:(is.take 60).length≤60:=by rw [List.length_take]; exact l20 87475170524466650568954898927338465265537 rfl (lmnN _ _)
  have ll:((is.take 60).map AV.int).length≤LIM:=by rw [List.length_map]; unfold LIM; exact l10 318118964249128356353 rfl tl
  exact ⟨ll,.inr (r_es0 (r_callB rfl ⟨_,rfl,ll,.inr (h _ (by exact l10 4816705435748865 rfl tl))⟩))⟩
 ·exact r_nm e2 rfl (h bs hb)
theorem lots_expr (hFew:FewΓ Γ) (hWide:WideΓ Γ) (hk1:lvl .law_few < k) (hk2:lvl .law_wide < k) {t:Addr} {n:Nat} {sm:Bool} {P:P1} (T:Tub H t n) (hn:n < 100) (e1:look ρ .is_small=some (.loc,.bool sm)) (e2:look ρ .tub=some (.loc,.obj t)) (e3:look ρ .law_few=some (.glo,.unb)) (e4:look ρ .law_wide=some (.glo,.unb))
  (h:∀ X Z H' n',n'≤n+60→Tub H' t n'→(∀ b,b≠t→H b≠none→H' b=H b)→Lots sm X Z→P (.lst (encLs [X,Z])) H'):
  trE Γ lvl k (.ife (.name .is_small) (.list (.cons (.call .law_few (.cons (.name .tub) (.cons (.neg (.int 6)) (.cons (.int 13) .nil)))) (.cons (.call .law_few (.cons (.name .tub) (.cons (.neg (.int 2)) (.cons (.int 9) .nil)))) .nil))) (.call .law_wide (.cons (.name .tub) .nil))) ρ H P:=by
 have hk1':Nat.blt (lvl .law_few) k=true:=Nat.ble_eq_true_of_le hk1
 have hk2':Nat.blt (lvl .law_wide) k=true:=Nat.ble_eq_true_of_le hk2
 refine r_ife (r_tname e1 rfl ⟨fun hs=>?_,fun hs=>?_⟩)
 ·subst hs
  refine r_list (r_es1 (r_call e3 (r_es1 (r_nm e2 rfl (r_es1 (r_neg (r_int (r_exI (r_es1 (r_int (r_es0 (r_callF rfl hk1' ?_))))))))))))
  refine hFew t n (-6) 13 _ _ T (by exact l10 1233942635560585745 rfl hn) (by decide) fun vs H1 n1 h1 h2 h3 h4 T1 o1=>?_
  refine r_es1 (r_call e3 (r_es1 (r_nm e2 rfl (r_es1 (r_neg (r_int (r_exI (r_es1 (r_int (r_es0 (r_callF rfl hk1' ?_)))))))))))
  refine hFew t n1 (-2) 9 _ _ T1 (by exact l20 330187132023357533403761170 rfl hn h1) (by decide) fun us H2 n2 g1 g2 g3 g4 T2 o2=>?_
  refine r_es0 (r_lst rfl ?_)
  exact h _ _ H2 n2 (by exact l30 330623706571217997732186626 rfl h1 g1) T2 (fun b hb uu=>(o2 b hb).trans (o1 b hb)) (lots_few (few_ok h2 h3 fun v hv=>by have:=h4 v hv; exact l01 22602096481075015447267431975083062129 rfl this) (few_ok g2 g3 fun v hv=>by have:=g4 v hv; exact l01 22602096481070179743699617182321488753 rfl this))
 ·subst hs
  refine r_call e4 (r_es1 (r_nm e2 rfl (r_es0 (r_callF rfl hk2' ?_))))
  exact hWide t n _ _ T (by exact l10 1233942635560585745 rfl hn) fun X Z H' n' hn' T' o' W=>h X Z H' n' hn' T' o' (lots_wide W)
theorem law_end (hPop:PopΓ Γ) (hPop0:Pop0Γ Γ) (hDep:DepthΓ Γ) (hLo:LotsΓ Γ) {t kp ra rdx:Addr} {x z n:Nat} {D0:List Prs} {ks:List AV} {A:DA} {S:DS} {script built small turn lots y rule lap_ st pair sign:AV} {C:PS}
  (L:LH t kp ra rdx x z n ks A S H) (F:LF D0 ks S) (h:∀ ρ' H',C (.ret (.bool true)) ρ' H'):
  trSs Γ lvl (lvl .law) (.cons lS9 (.cons lS10 .nil)) (lρ script built (.obj t) (.obj A.s) small turn (.int x) (.int z) lots y rule (.obj kp) lap_ st pair sign) H C:=by
 refine byc fun hNN=>?_
 have last:∀ {A':DA} {S':DS} {H':AH},LH t kp ra rdx x z n ks A' S' H'→S'.doms=D0→S'.failed=false→trSs Γ lvl (lvl .law) (.cons lS10 .nil) (lρ script built (.obj t) (.obj A'.s) small turn (.int x) (.int z) lots y rule (.obj kp) lap_ st pair sign) H' C:=by
  intro A' S' H' L' hd hf
  have hK:itemsOf H' (.obj kp)=some ks:=by simp [itemsOf,L'.K]
  unfold lS10
  refine r_ss (r_ret (r_andE ?_))
  walk_at "wk"
  refine hLo A' S' _ _ L'.D (by rw [hd]; exact F.two) (by rw [hd]; exact F.lens) ⟨by have:=F.two; rw [hd]; simp [LIM]; exact l10 296583596371213437473 rfl this,.inr ?_⟩
  walk_at "wk"
  refine r_ix (i:=0) hK F.ks0 ?_
  rw [hd]
  refine q_eqLL _ _ ?_
  rw [decide_eq_true rfl]
  walk_at "wk"
  refine L'.D.failed ?_
  rw [hf]
  walk_at "wk"
  exact h _ _
 obtain ⟨es,e1,e2,e3⟩:=F.bk
 refine hNN ?_
 unfold lS9
 walk_at "wk"
 refine L.D.meth (f:=.Store_pop) rfl rfl ?_
 walk_at "wk"
 refine L.D.meth (f:=.Store_depth) rfl rfl ?_
 walk_at "wk"
 refine hDep A S _ _ L.D ?_
 walk_at "wk"
 rcases F.mks with ⟨m1,m2⟩ | ⟨rest,m⟩
 ·rw [m1]
  refine hPop0 A S _ _ L.D ?_
  walk_at "wk"
  exact last L m2 F.fl
 ·rw [m]
  have ee:(((0::rest:List Int).length:Nat):Int)=(rest.length:Int)+1:=by simp
  rw [ee]
  refine hPop A S [] [] rest es.reverse _ _ L.D (by rw [m]; rfl) F.mkl (by rw [e1]; simp) (fun e he=>by rw [F.two',← F.two]; exact e3 e (List.mem_reverse.mp he)) (by rw [F.firsts]; exact F.full) fun A2 H2 D2 I2=>?_
  rw [← I2.s]
  walk_at "wk"
  exact last (L.into D2 I2) e2 rfl
end
end Internal
namespace Internal
open PySem
section
variable {Γ:Fn→List AV→AH→P1→Prop} {lv:Fn→Nat} {k:Nat} {H H0:AH} {Q:P1} {B:PB} {ρ:Ev}
theorem law_walk (hD:DrawΓ Γ) (hSI:SInitΓ Γ) (hAI:AInitΓ Γ) (hFew:FewΓ Γ) (hWide:WideΓ Γ) (hV:NewVarΓ Γ) (hDep:DepthΓ Γ) (hM:MergedΓ Γ) (hDom:DomΓ Γ) (hDec:DecideΓ Γ) (hPush:PushΓ Γ) (hPop:PopΓ Γ) (hPop0:Pop0Γ Γ) (hLo:LotsΓ Γ) (hR:RunΓ Γ)
  {is:List Int} (h:∀ H',Q (.bool true) H'):meets Γ lvl .law [.lst (is.map .int)] H Q:=by
 refine meets_of rfl ?_
 rw [law_body]
 dsimp only [scOf,init2]
 refine r_ss ?_
 unfold lS1
 walk_at "wk"
 refine r_lst rfl ?_
 refine r_can rfl (r_kn (r_ss ?_))
 unfold lS2
 refine r_asgT (r_tup (r_es1 (r_dict (r_ds1 ?_))))
 refine cells_expr (is:=is) (bs:=[1,0,0,0,3,0,2,0,0,0,3]) rfl rfl rfl rfl (Nat.le_of_ble_eq_true rfl) fun cs hcs=>?_
 generalize AV.lst (is.map .int)=scr
 generalize AV.lst [.int 1,.int 0,.int 0,.int 0,.int 3,.int 0,.int 2,.int 0,.int 0,.int 0,.int 3]=blt
 walk_at "wk"
 refine ⟨by simp,fun t ht=>?_⟩
 walk_at "wk"
 refine ⟨Nat.le_of_ble_eq_true rfl,fun s dx hs hdx hne=>?_⟩
 have T0:Tub (upd H t (.sdict [(.cells,.lst (cs.map .int)),(.at_,.int 0)])) t 0:=⟨cs,hcs,upd_at _ _⟩
 generalize upd H t (.sdict [(.cells,.lst (cs.map .int)),(.at_,.int 0)])=H1 at T0 hs hdx ⊢
 have hts:t≠s:=fun e=>T0.some (by rw [e]; exact hs)
 have htd:t≠dx:=fun e=>T0.some (by rw [e]; exact hdx)
 refine hSI s dx _ _ (upd_at _ _) (by rw [upd_ne _ (Ne.symm hne)]; exact upd_at _ _) fun A H2 e1 e2 D2 k2=>⟨rfl,?_⟩
 have T2:Tub H2 t 0:=T0.same (by
  have:=(k2 t hts htd (by rw [upd_ne _ hts,upd_ne _ htd]; exact T0.some)).1
  rw [this,upd_ne _ hts,upd_ne _ htd])
 rw [← e1]
 refine r_es0 (r_newT rfl (r_unp rfl rfl rfl (r_kn (r_ss ?_))))
 clear k2 hs hdx hne hts htd ht T0
 unfold lS3
 walk_at "wk"
 refine hD t 0 3 _ _ T2 (by lia) (by decide) fun r H3 r1 r2 T3 o3=>?_
 walk_at "wk"
 refine hD t 1 5 _ _ T3 (by lia) (by decide) fun c H4 c1' c2' T4 o4=>?_
 have D4:Desk H4 A ⟨[],[],[],[],false,[]⟩:=D2.keep fun b hb=>by
  have hbt:b≠t:=fun e=>T2.notown D2 (e▸hb)
  rw [o4 b hbt,o3 b hbt]
 generalize decide (r=0)=sm
 refine r_es0 (r_newT rfl (r_unp rfl rfl rfl (r_kn (r_ss ?_))))
 unfold lS4
 walk_at "wk"
 refine pickXZ c1' c2' fun x z hx hz hxz=>?_
 refine r_unp rfl rfl rfl (r_kn (r_ss ?_))
 unfold lS5
 refine r_asg ?_
 refine lots_expr hFew hWide (Nat.le_of_ble_eq_true rfl) (Nat.le_of_ble_eq_true rfl) (sm:=sm) T4 (by lia) rfl rfl rfl rfl fun X Z H5 n5 hn5 T5 o5 LT=>?_
 have D5:Desk H5 A ⟨[],[],[],[],false,[]⟩:=D4.keep fun b hb=>o5 b (fun e=>T4.notown D4 (e▸hb)) (D4.some hb)
 refine r_can rfl (r_kn (r_ss ?_))
 unfold lS6
 walk_at "wk"
 refine ⟨2,rfl,by decide,by decide,[.int (0:Nat),.int (1:Nat)],rfl,?_⟩
 walk_at "wk"
 rw [loopF]
 refine law_new hM hV (x:=x) (z:=z) (y:=0) LT D5 (Nat.le_of_ble_eq_true rfl) (Nat.le_of_ble_eq_true rfl) fun A6 H6 D6 I6=>?_
 rw [loopF]
 refine law_new hM hV (x:=x) (z:=z) (y:=1) LT D6 (Nat.le_of_ble_eq_true rfl) (Nat.le_of_ble_eq_true rfl) fun A7 H7 D7 I7=>?_
 rw [loopF]
 have I57:=I6.trans I7
 have T7:Tub H7 t n5:=T5.same (I57.keep t (T5.notown D5) T5.some).1
 simp only [List.nil_append,List.cons_append] at D7
 have rdy:=first_rdy LT hx hz hxz
 generalize pD x z X Z 0=p0 at D7 rdy
 generalize pD x z X Z 1=p1 at D7 rdy
 clear I57 I7 D6 D5 D4 D2 o5 o4 o3
 refine r_kn (r_ss ?_)
 unfold lS7
 walk_at "wk"
 refine ⟨Nat.le_of_ble_eq_true rfl,fun ra rdx hra hrdx hne=>?_⟩
 have htr:t≠ra:=fun e=>T7.some (by rw [e]; exact hra)
 have htd:t≠rdx:=fun e=>T7.some (by rw [e]; exact hrdx)
 refine hAI ra rdx x z _ _ (upd_at _ _) (by rw [upd_ne _ (Ne.symm hne)]; exact upd_at _ _) fun H8 R8 o8=>⟨rfl,?_⟩
 have k8:∀ b,H7 b≠none→H8 b=H7 b:=fun b hb=>by
  have e1:b≠ra:=fun e=>hb (by rw [e]; exact hra)
  have e2:b≠rdx:=fun e=>hb (by rw [e]; exact hrdx)
  rw [o8 b e2,upd_ne _ e1,upd_ne _ e2]
 have D8:Desk H8 A7 ⟨[p0,p1],[p0,p1],[],[],false,[]⟩:=D7.keep fun b hb=>k8 b (D7.some hb)
 have T8:Tub H8 t n5:=T7.same (k8 t T7.some)
 walk_at "wk"
 refine hLo A7 _ _ _ D8 rfl (fun p hp=>by have:=(rdy.1.fine p hp).l; exact l10 77121414728796689 rfl this) ?_
 refine r_lst rfl (r_es0 ?_)
 refine newL_obj (Nat.le_of_ble_eq_true rfl) fun kp hkp=>?_
 refine r_es0 (r_newT rfl (r_unp rfl rfl rfl (r_kn (r_ss ?_))))
 have L9:LH t kp ra rdx x z n5 [.lst (encLs [p0,p1])] A7 ⟨[p0,p1],[p0,p1],[],[],false,[]⟩ (upd H8 kp (.list [.lst (encLs [p0,p1])])):=by
  have e1:kp≠t:=fun e=>T8.some (e▸hkp)
  have e2:ra≠kp:=fun e=>by have:=R8.inst; rw [e,hkp] at this; cases this
  have e3:rdx≠kp:=fun e=>by have:=R8.ns; rw [e,hkp] at this; cases this
  exact ⟨T8.off e1,D8.beside hkp,⟨by rw [upd_ne _ e2]; exact R8.inst,by rw [upd_ne _ e3]; exact R8.ns⟩,upd_at _ _,T8.notown D8,D8.notown hkp⟩
 generalize upd H8 kp (.list [.lst (encLs [p0,p1])])=H9 at L9 ⊢
 have P9:LP (kindOf sm x z) 0 x z [p0,p1] [.lst (encLs [p0,p1])] ⟨[p0,p1],[p0,p1],[],[],false,[]⟩:=
  ⟨rfl,by rw [if_pos rfl]; exact rdy,⟨[],rfl,by simp,rfl,fun e he=>by cases he⟩,rfl,rdy.1.full,fun p hp=>by have:=(rdy.1.fine p hp).l; exact l10 77121414728796689 rfl this,rfl,⟨fun uu=>rfl,fun h=>by lia,by simp⟩,rfl,⟨[],rfl⟩,by simp⟩
 unfold lS8
 walk_at "wk"
 refine hD t n5 4 _ _ L9.T (by exact l10 81088033170201177491969 rfl hn5) (by decide) fun r H10 r1 r2 T10 o10=>?_
 have L10:=L9.draw T10 o10
 walk_at "wk"
 refine r_rng1 (y:=1+r) (by exact l01 1212529485361 rfl r1) (by exact l01 19796883099141556801 rfl r2) (r_itR (by exact l01 1212529485361 rfl r1) (by exact l01 19796883099141556801 rfl r2) ?_)
 have key:=law_loop (Γ:=Γ) hD hDom hDec hPush hPop hLo hR (t:=t) (kp:=kp) (ra:=ra) (rdx:=rdx) (sm:=sm) (D0:=[p0,p1]) (script:=scr) (built:=blt) (turn:=.int c) (lots:=.lst (encLs [X,Z])) hx hz (1+r).toNat 0 (n5+1) _ A7 _ (.int (1:Nat)) .unb .unb .unb .unb H10
  (kSeq Γ lvl (lvl .law) (finS H Q) (.cons lS9 (.cons lS10 .nil)))
  (by exact l11 375606279006666310181648807649976303266032836168258 rfl r2 (ltoN _)) (by exact l11 380593612296224710302956245676849387112277554 rfl r1 (ltoN _)) (by exact l21 28821721422181243752358809605059130795325061982336950815915475963019790851 rfl hn5 r2 (ltoN _)) L10 P9 (fun A' H' S' ks' n' y' lap' st' pair' sign' e L' F=>
   r_kn (law_end hPop hPop0 hDep hLo L' F fun ρ' H''=>r_fin (ends_same (h H''))))
 have e0:((0:Nat):Int)+(((1+r).toNat:Nat):Int)=1+r:=by exact l11 27317972900982242181340384426090942522394844279154824263018034 rfl r1 (ltoN _)
 rw [e0] at key
 exact key
end
end Internal
namespace Internal
open PySem
inductive G:Fn→List AV→AH→P1→Prop
 | put_behind {a:Addr} {l:Prs} {lo hi:Int} {H:AH} {Q:P1}:l.length < LIM→H a=some (.list (encPs l))→Q .none (upd H a (.list (encPs (putB l lo hi))))→G .put_behind [.obj a,.int lo,.int hi] H Q
 | least {p:Int×Int} {l:Prs} {H:AH} {Q:P1}:Q (.int p.1) H→G .least [.tup (encPs (p::l))] H Q
 | greatest {p:Int×Int} {l:Prs} {H:AH} {Q:P1}:Q (.int p.2) H→G .greatest [.tup (encPs (l++[p]))] H Q
 | size {l:Prs} {H:AH} {Q:P1}:l.length < 1000→Q (.int (sizeP l)) H→G .size [.tup (encPs l)] H Q
 | values {l:Prs} {H:AH} {Q:P1}:l.length < 1000→sizeP l≤1000000→(valsP l).length≤LIM→Q (.lst ((valsP l).map .int)) H→G .values [.tup (encPs l)] H Q
 | up_to {l:Prs} {k:Int} {H:AH} {Q:P1}:l.length < 1000→Q (.tup (encPs (upToP l k))) H→G .up_to [.tup (encPs l),.int k] H Q
 | from_on {l:Prs} {k:Int} {H:AH} {Q:P1}:l.length < 1000→Q (.tup (encPs (fromOnP l k))) H→G .from_on [.tup (encPs l),.int k] H Q
 | without {l:Prs} {k:Int} {H:AH} {Q:P1}:l.length < 1000→Q (.tup (encPs (withoutP l k))) H→G .without [.tup (encPs l),.int k] H Q
 | meet {d e:Prs} {H:AH} {Q:P1}:d.length+e.length < 1000→Q (.tup (encPs (meetP d e))) H→G .meet [.tup (encPs d),.tup (encPs e)] H Q
 | join {d e:Prs} {H:AH} {Q:P1}:d.length+e.length < 64→Q (.tup (encPs (joinP d e))) H→G .join [.tup (encPs d),.tup (encPs e)] H Q
 | minus {d e:Prs} {H:AH} {Q:P1}:d.length < 500→e.length < 500→Q (.tup (encPs (minusP d e))) H→G .minus [.tup (encPs d),.tup (encPs e)] H Q
 | negated {l:Prs} {H:AH} {Q:P1}:l.length < 1000→Q (.tup (encPs (negP l))) H→G .negated [.tup (encPs l)] H Q
 | negation {x:Int} {g:Sy} {k:Int} {H:AH} {Q:P1}:isSg g=true→Q (lit x (negSg g) (negK g k)) H→G .negation [lit x g k] H Q
 | struck {x:Int} {g:Sy} {k:Int} {l:Prs} {H:AH} {Q:P1}:isSg g=true→l.length < 900→Q (.tup (encPs (struckP g k l))) H→G .struck [lit x g k,.tup (encPs l)] H Q
 | Store_init {s dx:Addr} {H:AH} {Q:P1}:H s=some (.inst .store dx)→H dx=some (.ns [])→(∀ A H',A.s=s→A.dx=dx→Desk H' A ⟨[],[],[],[],false,[]⟩→(∀ b,b≠s→b≠dx→H b≠none→H' b=H b∧¬ A.own b)→Q .none H')→G .Store_init [.obj s] H Q
 | Store_new_var {A:DA} {S:DS} {p:Prs} {H:AH} {Q:P1}:Desk H A S→p≠[]→S.doms.length < 100→S.firsts.length < 100→(∀ A' H',Desk H' A' { S with doms:=S.doms++[p],firsts:=S.firsts++[p] }→Into A H A' H'→Q (.int S.doms.length) H')→G .Store_new_var [.obj A.s,.tup (encPs p)] H Q
 | Store_size {A:DA} {S:DS} {H:AH} {Q:P1}:Desk H A S→Q (.int S.doms.length) H→G .Store_size [.obj A.s] H Q
 | Store_dom {A:DA} {S:DS} {i:Nat} {p:Prs} {H:AH} {Q:P1}:Desk H A S→S.doms[i]?=some p→Q (.tup (encPs p)) H→G .Store_dom [.obj A.s,.int i] H Q
 | Store_low {A:DA} {S:DS} {i:Nat} {p:Int×Int} {l:Prs} {H:AH} {Q:P1}:Desk H A S→S.doms[i]?=some (p::l)→Q (.int p.1) H→G .Store_low [.obj A.s,.int i] H Q
 | Store_high {A:DA} {S:DS} {i:Nat} {p:Int×Int} {l:Prs} {H:AH} {Q:P1}:Desk H A S→S.doms[i]?=some (l++[p])→Q (.int p.2) H→G .Store_high [.obj A.s,.int i] H Q
 | Store_enter {A:DA} {S:DS} {i:Nat} {g:Sy} {c:Int} {p:Prs} {rs:AV} {H:AH} {Q:P1}:EnterPre H A S i g p rs→(∀ A' H',Desk H' A' (enterS S i g c p rs).2→Into A H A' H'→Q (.bool (enterS S i g c p rs).1) H')→G .Store_enter [.obj A.s,lit i g c,rs,.int (-1)] H Q
 | Store_strike {A:DA} {S:DS} {i:Nat} {g:Sy} {c:Int} {p:Prs} {rs:List AV} {H:AH} {Q:P1}:EnterPre H A S i g p (.tup rs)→(∀ A' H',Desk H' A' (enterS S i g c p (.tup rs)).2→Into A H A' H'→Q (.bool (enterS S i g c p (.tup rs)).1) H')→G .Store_strike [.obj A.s,lit i g c,.tup rs] H Q
 | Store_decide {A:DA} {S:DS} {i:Nat} {g:Sy} {c:Int} {p:Prs} {H:AH} {Q:P1}:EnterPre H A S i g p .none→(∀ A' H',Desk H' A' (enterS S i g c p .none).2→Into A H A' H'→Q (.bool (enterS S i g c p .none).1) H')→G .Store_decide [.obj A.s,lit i g c] H Q
 | Store_fail {A:DA} {S:DS} {c:List AV} {H:AH} {Q:P1}:Desk H A S→c.length≤1000→(∀ A' H',Desk H' A' { S with failed:=true,clash:=c }→Into A H A' H'→Q (.bool false) H')→G .Store_fail [.obj A.s,.tup c] H Q
 | Store_push {A:DA} {S:DS} {H:AH} {Q:P1}:Desk H A S→S.marks.length < 1000→(∀ A' H',Desk H' A' { S with marks:=S.marks++[(S.trail.length:Int)] }→Into A H A' H'→Q .none H')→G .Store_push [.obj A.s] H Q
 | Store_pop0 {A:DA} {S:DS} {H:AH} {Q:P1}:Desk H A S→Q .none H→G .Store_pop [.obj A.s,.int 0] H Q
 | Store_pop {A:DA} {S:DS} {ms:List Int} {t:List AV} {rest:List Int} {rs:List En} {H:AH} {Q:P1}:Desk H A S→S.marks=ms++(t.length:Int)::rest→S.marks.length < 1000→S.trail=t++rs.reverse.map encE→((∀ e∈rs,e.y < S.doms.length))→((∀ p∈S.firsts,p≠[]))→(∀ A' H',Desk H' A' ⟨undo S.doms rs,S.firsts,t,ms,false,[]⟩→Into A H A' H'→Q .none H')→G .Store_pop [.obj A.s,.int (rest.length+1)] H Q
 | Store_depth {A:DA} {S:DS} {H:AH} {Q:P1}:Desk H A S→Q (.int S.marks.length) H→G .Store_depth [.obj A.s] H Q
 | Propagator_init {a dx:Addr} {x z:Nat} {H:AH} {Q:P1}:H a=some (.inst .absolute dx)→H dx=some (.ns [])→(∀ H',Rule H' a dx x z→(∀ b,b≠dx→H' b=H b)→Q .none H')→G .Propagator_init [.obj a,.tup [.int x,.int z],.str .values] H Q
 | Absolute_init {a dx:Addr} {x z:Nat} {H:AH} {Q:P1}:H a=some (.inst .absolute dx)→H dx=some (.ns [])→(∀ H',Rule H' a dx x z→(∀ b,b≠dx→H' b=H b)→Q .none H')→G .Absolute_init [.obj a,.int x,.int z] H Q
 | Absolute_propagate {a dx:Addr} {x z:Nat} {A:DA} {S:DS} {Post:Bool→DS→Prop} {H:AH} {Q:P1}:Rule H a dx x z→Desk H A S→propW x z S Post→(∀ A' H' S' b,Desk H' A' S'→Into A H A' H'→Post b S'→Q (.bool b) H')→G .Absolute_propagate [.obj a,.obj A.s] H Q
 | law_far  {H:AH} {Q:P1}:Q (.int far) H→G .law_far [] H Q
 | law_draw {t:Addr} {n:Nat} {m:Int} {H:AH} {Q:P1}:Tub H t n→n < 10000→0 < m→(∀ r H',0≤r→r < m→Tub H' t (n+1)→(∀ b,b≠t→H' b=H b)→Q (.int r) H')→G .law_draw [.obj t,.int m] H Q
 | law_merged {v:AV} {l:Prs} {H:AH} {Q:P1}:itemsOf H v=some (encPs l)→v≠.unb→l.length < 64→Q (.lst (encPs (mergeP l))) H→G .law_merged [v] H Q
 | law_common {l m:Prs} {H:AH} {Q:P1}:l.length * m.length < LIM→m.length < LIM→(comP l m).length < 64→Q (.lst (encPs (commonP l m))) H→G .law_common [.lst (encPs l),.lst (encPs m)] H Q
 | law_mirrored {l:Prs} {H:AH} {Q:P1}:l.length < 1000→Q (.lst (encPs (mirP l))) H→G .law_mirrored [.lst (encPs l)] H Q
 | law_cut {y:Int} {g:Sy} {c:Int} {l:Prs} {H:AH} {Q:P1}:isSg g=true→l.length < 1000→(comP l (cutL g c)).length < 64→Q (.lst (encPs (cutP l g c))) H→G .law_cut [.lst (encPs l),lit y g c] H Q
 | law_says {y:Int} {g:Sy} {c v:Int} {H:AH} {Q:P1}:isSg g=true→Q (.bool (saysB g c v)) H→G .law_says [lit y g c,.int v] H Q
 | law_cannot {ls:List Lt} {x z:Int} {H:AH} {Q:P1}:((∀ l∈ls,isSg l.2.1=true))→ls.length < 1000→((∀ v:Int,(x≠z∨0≤v)→∃ l∈ls,saysB l.2.1 l.2.2 (if l.1=x then v else (v.natAbs:Int))=false))→Q (.bool true) H→G .law_cannot [.lst (ls.map encL),.int x,.int z] H Q
 | law_due {v:AV} {ls:List Prs} {x z:Nat} {X Z:Prs} {H:AH} {Q:P1}:itemsOf H v=some (encLs ls)→v≠.unb→ls[x]?=some X→ls[z]?=some Z→DueFew X Z→Q (.tup (encLs [(dueT x z X Z).1,(dueT x z X Z).2])) H→G .law_due [v,.int x,.int z] H Q
 | law_lots {A:DA} {S:DS} {H:AH} {Q:P1}:Desk H A S→S.doms.length=2→((∀ p∈S.doms,p.length < 1000))→newL (encLs S.doms) H Q→G .law_lots [.obj A.s] H Q
 | law_run {a dx:Addr} {x z:Nat} {A:DA} {S:DS} {Post:Bool→DS→Prop} {H:AH} {Q:P1}:Rule H a dx x z→Desk H A S→runW x z S Post→(∀ A' H' S' b,Desk H' A' S'→Into A H A' H'→Post b S'→Q (.bool b) H')→G .law_run [.obj a,.obj A.s,.int x,.int z] H Q
 | law_wide {t:Addr} {n:Nat} {H:AH} {Q:P1}:Tub H t n→n < 1000→(∀ X Z H' n',n'≤n+60→Tub H' t n'→(∀ b,b≠t→H b≠none→H' b=H b)→Wd 3 X Z→Q (.lst (encLs [X,Z])) H')→G .law_wide [.obj t] H Q
 | law_few {t:Addr} {n:Nat} {lo many:Int} {H:AH} {Q:P1}:Tub H t n→n < 1000→0 < many→(∀ (us:List Int) H' n',n'≤n+7→us≠[]→us.length≤6→(∀ v∈us,lo≤v∧v < lo+many)→Tub H' t n'→(∀ b,b≠t→H' b=H b)→Q (.lst (encPs (mergeP (us.map fun v=>(v,v))))) H')→G .law_few [.obj t,.int lo,.int many] H Q
 | law {is:List Int} {H:AH} {Q:P1}:(∀ H',Q (.bool true) H')→G .law [.lst (is.map .int)] H Q
section
variable {H:AH} {Q:P1}
theorem g_size:∀ (l:Prs) (H:AH) (Q:P1),l.length < 1000→Q (.int (sizeP l)) H→G .size [.tup (encPs l)] H Q:=fun l H Q a b=>.size a b
theorem g_up:∀ (l:Prs) (k:Int) (H:AH) (Q:P1),l.length < 1000→Q (.tup (encPs (upToP l k))) H→G .up_to [.tup (encPs l),.int k] H Q:=fun l k H Q a b=>.up_to a b
theorem g_from:∀ (l:Prs) (k:Int) (H:AH) (Q:P1),l.length < 1000→Q (.tup (encPs (fromOnP l k))) H→G .from_on [.tup (encPs l),.int k] H Q:=fun l k H Q a b=>.from_on a b
theorem g_without:∀ (l:Prs) (k:Int) (H:AH) (Q:P1),l.length < 1000→Q (.tup (encPs (withoutP l k))) H→G .without [.tup (encPs l),.int k] H Q:=fun l k H Q a b=>.without a b
theorem g_meet:∀ (l e:Prs) (H:AH) (Q:P1),l.length+e.length < 1000→Q (.tup (encPs (meetP l e))) H→G .meet [.tup (encPs l),.tup (encPs e)] H Q:=fun l k H Q a b=>.meet a b
theorem g_dom:DomΓ G:=fun A S i p H Q D hp h=>.Store_dom D hp h
theorem g_enter:∀ (A:DA) (S:DS) (i:Nat) (g:Sy) (c:Int) (p:Prs) (rs:AV) (H:AH) (Q:P1),EnterPre H A S i g p rs→(∀ A' H',Desk H' A' (enterS S i g c p rs).2→Into A H A' H'→Q (.bool (enterS S i g c p rs).1) H')→G .Store_enter [.obj A.s,lit i g c,rs,.int (-1)] H Q:=fun A S i g c p rs H Q E h=>.Store_enter E h
theorem g_strike:StrikeΓ G:=fun A S i g c p rs H Q E h=>.Store_strike E h
theorem g_decide:DecideΓ G:=fun A S i g c p H Q E h=>.Store_decide E h
theorem g_cut:CutΓ G:=fun y g c l H Q a b d e=>.law_cut a b d e
theorem g_common:∀ (l m:Prs) (H:AH) (Q:P1),l.length * m.length < LIM→m.length < LIM→(comP l m).length < 64→Q (.lst (encPs (commonP l m))) H→G .law_common [.lst (encPs l),.lst (encPs m)] H Q:=fun l m H Q a b c d=>.law_common a b c d
theorem g_merged:MergedΓ G:=fun v l H Q a b c d=>.law_merged a b c d
theorem g_mir:∀ (l:Prs) (H:AH) (Q:P1),l.length < 1000→Q (.lst (encPs (mirP l))) H→G .law_mirrored [.lst (encPs l)] H Q:=fun l H Q a b=>.law_mirrored a b
theorem g_cannot:CannotΓ G:=fun ls x z H Q a b c d=>.law_cannot a b c d
theorem g_lots:LotsΓ G:=fun A S H Q D a b c=>.law_lots D a b c
theorem g_prop:PropΓ G:=fun a dx x z A S Post H Q R D W h=>.Absolute_propagate R D W h
theorem g_due:DueΓ G:=fun v ls x z X Z H Q a b c d e f=>.law_due a b c d e f
theorem g_draw:DrawΓ G:=fun t n m H Q a b c d=>.law_draw a b c d
theorem g_run:RunΓ G:=fun a dx x z A S Post H Q R D W h=>.law_run R D W h
noncomputable def Mt (f:Fn) (vs:List AV) (H:AH) (Q:P1):Prop:=(f=.Absolute_init∧meetsInit G lvl vs H Q)∨(f≠.Absolute_init∧meets G lvl f vs H Q)
theorem mt {f:Fn} {vs:List AV} {H:AH} {Q:P1} (h:G f vs H Q):Mt f vs H Q:=by
 induction h with
 | @Absolute_init a dx x z _ _ h1 h2 h=>exact .inl ⟨rfl,ainit_ok (fun a dx x z H Q b c d=>.Propagator_init b c d) h1 h2 h⟩
 | @put_behind a l lo hi _ _ h1 h2 h3=>
  refine .inr ⟨(fun e=>nomatch e),?_⟩
  exact put_behind_ok a l lo hi h1 h2 h3
 | @least p l _ _ h=>
  refine .inr ⟨(fun e=>nomatch e),?_⟩
  exact least_ok p l h
 | @greatest p l _ _ h=>
  refine .inr ⟨(fun e=>nomatch e),?_⟩
  exact greatest_ok p l h
 | @size l _ _ h1 h=>
  refine .inr ⟨(fun e=>nomatch e),?_⟩
  exact size_ok l h1 h
 | @values l _ _ h1 h2 h3 h=>
  refine .inr ⟨(fun e=>nomatch e),?_⟩
  exact values_ok g_size l h1 h2 h3 h
 | @up_to l k _ _ h1 h=>
  refine .inr ⟨(fun e=>nomatch e),?_⟩
  exact up_to_ok l k h1 h
 | @from_on l k _ _ h1 h=>
  refine .inr ⟨(fun e=>nomatch e),?_⟩
  exact from_on_ok l k h1 h
 | @without l k _ _ h1 h=>
  refine .inr ⟨(fun e=>nomatch e),?_⟩
  exact without_ok g_up g_from l k h1 h
 | @meet d e _ _ h1 h=>
  refine .inr ⟨(fun e=>nomatch e),?_⟩
  exact meet_ok d e h1 h
 | @join d e _ _ h1 h=>
  refine .inr ⟨(fun e=>nomatch e),?_⟩
  exact join_ok (fun a l lo hi H Q a1 a2 a3=>.put_behind a1 a2 a3) d e h1 h
 | @minus d e _ _ h1 h2 h=>
  refine .inr ⟨(fun e=>nomatch e),?_⟩
  exact minus_ok d e h1 h2 h
 | @negated l _ _ h1 h=>
  refine .inr ⟨(fun e=>nomatch e),?_⟩
  exact negated_ok l h1 h
 | @negation x g k _ _ h1 h=>
  refine .inr ⟨(fun e=>nomatch e),?_⟩
  exact negation_ok x g k h1 h
 | @struck x g k l _ _ h1 h2 h=>
  refine .inr ⟨(fun e=>nomatch e),?_⟩
  exact struck_ok g_up g_from g_without g_meet x g k l h1 h2 h
 | @Store_init s dx _ _ h1 h2 h=>
  refine .inr ⟨(fun e=>nomatch e),?_⟩
  exact sinit_ok h1 h2 h
 | @Store_new_var A S p _ _ D h1 h2 h3 h=>
  refine .inr ⟨(fun e=>nomatch e),?_⟩
  exact new_var_ok D h1 h2 h3 h
 | @Store_size A S _ _ D h=>
  refine .inr ⟨(fun e=>nomatch e),?_⟩
  exact ssize_ok D h
 | @Store_dom A S i p _ _ D hp h=>
  refine .inr ⟨(fun e=>nomatch e),?_⟩
  exact dom_ok D hp h
 | @Store_low A S i p l _ _ D hp h=>
  refine .inr ⟨(fun e=>nomatch e),?_⟩
  exact low_ok (fun p l H Q q=>.least q) D hp h
 | @Store_high A S i p l _ _ D hp h=>
  refine .inr ⟨(fun e=>nomatch e),?_⟩
  exact high_ok (fun p l H Q q=>.greatest q) D hp h
 | @Store_enter A S i g c p rs _ _ E h=>
  refine .inr ⟨(fun e=>nomatch e),?_⟩
  exact enter_ok (fun x g k l H Q a b d=>.struck a b d) (fun x g k H Q a b=>.negation a b) (fun A S c H Q a b d=>.Store_fail a b d) E.D E.hi E.hp E.hg E.hl E.hr E.ht h
 | @Store_strike A S i g c p rs _ _ E h=>
  refine .inr ⟨(fun e=>nomatch e),?_⟩
  exact strike_ok g_enter E h
 | @Store_decide A S i g c p _ _ E h=>
  refine .inr ⟨(fun e=>nomatch e),?_⟩
  exact decide_ok g_enter E h
 | @Store_fail A S c _ _ D h1 h=>
  refine .inr ⟨(fun e=>nomatch e),?_⟩
  exact fail_ok2 D h1 h
 | @Store_push A S _ _ D h1 h=>
  refine .inr ⟨(fun e=>nomatch e),?_⟩
  exact push_ok2 D h1 h
 | @Store_pop0 A S _ _ D h=>
  refine .inr ⟨(fun e=>nomatch e),?_⟩
  exact spop0_ok D h
 | @Store_pop A S ms t rest rs _ _ D h1 h2 h3 h4 h5 h=>
  refine .inr ⟨(fun e=>nomatch e),?_⟩
  exact spop_ok D h1 h2 h3 h4 h5 h
 | @Store_depth A S _ _ D h=>
  refine .inr ⟨(fun e=>nomatch e),?_⟩
  exact depth_ok D h
 | @Propagator_init a dx x z _ _ h1 h2 h=>
  refine .inr ⟨(fun e=>nomatch e),?_⟩
  exact pinit_ok h1 h2 h
 | @Absolute_propagate a dx x z A S Post _ _ R D W h=>
  refine .inr ⟨(fun e=>nomatch e),?_⟩
  exact propagate_ok g_strike (fun A S i p l H Q a b c=>.Store_low a b c) (fun A S i p l H Q a b c=>.Store_high a b c) g_dom (fun l H Q a b=>.negated a b) (fun d e H Q a b=>.join a b) (fun d e H Q a b c=>.minus a b c) (fun l H Q a b c d=>.values a b c d) R D W h
 | @law_far _ _ h=>
  refine .inr ⟨(fun e=>nomatch e),?_⟩
  exact far_ok h
 | @law_draw t n m _ _ T h1 h2 h=>
  refine .inr ⟨(fun e=>nomatch e),?_⟩
  exact draw_ok T h1 h2 h
 | @law_merged v l _ _ h1 h2 h3 h=>
  refine .inr ⟨(fun e=>nomatch e),?_⟩
  exact merged_ok h1 h2 h3 h
 | @law_common l m _ _ h1 h2 h3 h=>
  refine .inr ⟨(fun e=>nomatch e),?_⟩
  exact common_ok h1 h2 h3 h
 | @law_mirrored l _ _ h1 h=>
  refine .inr ⟨(fun e=>nomatch e),?_⟩
  exact mirrored_ok h1 h
 | @law_cut y g c l _ _ h1 h2 h3 h=>
  refine .inr ⟨(fun e=>nomatch e),?_⟩
  exact cut_ok (fun H Q q=>.law_far q) g_common h2 h3 h
 | @law_says y g c v _ _ h1 h=>
  refine .inr ⟨(fun e=>nomatch e),?_⟩
  exact says_ok h1 h
 | @law_cannot ls x z _ _ h1 h2 h3 h=>
  refine .inr ⟨(fun e=>nomatch e),?_⟩
  exact cannot_ok (fun y g c v H Q a b=>.law_says a b) h1 h2 h3 h
 | @law_due v ls x z X Z _ _ h1 h2 h3 h4 F h=>
  refine .inr ⟨(fun e=>nomatch e),?_⟩
  refine due_ok g_cut g_common g_merged g_mir h1 h2 h3 h4 F ?_
  unfold dueT at h
  by_cases e:x=z
  ·rw [if_pos e]; rw [if_pos e] at h; exact h
  ·rw [if_neg e]; rw [if_neg e] at h; exact h
 | @law_lots A S _ _ D h1 h2 h=>
  refine .inr ⟨(fun e=>nomatch e),?_⟩
  exact lots_ok2 (fun A S H Q a b=>.Store_size a b) g_dom D h1 h2 h
 | @law_run a dx x z A S Post _ _ R D W h=>
  refine .inr ⟨(fun e=>nomatch e),?_⟩
  exact run_ok g_cut g_cannot g_lots g_prop g_due R D W h
 | @law_wide t n _ _ T h1 h=>
  refine .inr ⟨(fun e=>nomatch e),?_⟩
  exact wide_walk g_draw g_cut g_merged T h1 h
 | @law_few t n lo many _ _ T h1 h2 h=>
  refine .inr ⟨(fun e=>nomatch e),?_⟩
  exact few_walk g_draw g_merged T h1 h2 h
 | @law is _ _ h=>
  refine .inr ⟨(fun e=>nomatch e),?_⟩
  exact law_walk g_draw (fun s dx H Q a b c=>.Store_init a b c) (fun a dx x z H Q b c d=>.Absolute_init b c d) (fun t n lo many H Q a b c d=>.law_few a b c d) (fun t n H Q a b c=>.law_wide a b c)
   (fun A S p H Q a b c d e=>.Store_new_var a b c d e) (fun A S H Q a b=>.Store_depth a b) g_merged g_dom g_decide (fun A S H Q a b c=>.Store_push a b c) (fun A S ms t rest rs H Q a b c d e f g=>.Store_pop a b c d e f g) (fun A S H Q a b=>.Store_pop0 a b) g_lots g_run h
theorem meets_all:MeetsAll G lvl:=⟨fun f hf vs H Q h=>(mt h).elim (fun x=>absurd x.1 hf) And.right,fun vs H Q h=>(mt h).elim And.right fun x=>absurd rfl x.1⟩
end
end Internal
namespace Internal
open PySem PySem.W PyProof.Rows PySem.Calls
theorem fragH_in (h:Heap):(fragH h).In h:=by
 intro a o e
 unfold fragH at e
 generalize needA=l at e
 induction l with
 | nil=>cases e
 | cons b l ih=>
  rw [List.filterMap_cons] at e
  cases q:h.get? b with
  | none=>rw [q] at e; exact ih e
  | some ob=>
   rw [q] at e
   simp only [Option.map_some,List.lookup_cons] at e
   set_option tactic.hygienic true in split at e
   ·rename_i hh; cases e; rw [beq_iff_eq.mp hh]; exact q
   ·exact ih e
theorem nn {P:Prop} {α:Type} {x:α} (h:none=some x):P:=nomatch h
theorem refV_inv {v:Value} {a:Addr} (h:refV v=some a):v=.ref a:=by cases v<;>first | exact nn h | exact congrArg _ (Option.some.inj h)
theorem strV_inv {v:Value} {a:Str} (h:strV v=some a):∃ t,v=.str a t:=by cases v<;>first | exact nn h | exact ⟨_,congrArg (Value.str · _) (Option.some.inj h)⟩
theorem bltV_inv {v:Value} {a:String} (h:bltV v=some a):v=.builtin a:=by cases v<;>first | exact nn h | exact congrArg _ (Option.some.inj h)
theorem typV_inv {v:Value} {a:String} (h:typV v=some a):v=.type a:=by cases v<;>first | exact nn h | exact congrArg _ (Option.some.inj h)
theorem intV_inv {v:Value} {a:Int} (h:intV v=some a):∃ t,v=.int a t:=by cases v<;>first | exact nn h | exact ⟨_,congrArg (Value.int · _) (Option.some.inj h)⟩
theorem nonV_inv {v:Value} (h:nonV v=true):v=.none:=by cases v<;>first | rfl | exact ff h
theorem stmB_inv {v:FuncBody} {a:List Stmt} (h:stmB v=some a):v=.stmts a:=by cases v<;>first | exact nn h | exact congrArg _ (Option.some.inj h)
theorem funD_inv {v:Data} {a:FuncData} (h:funD v=some a):v=.func a:=by cases v<;>first | exact nn h | exact congrArg _ (Option.some.inj h)
theorem fldD_inv {v:Data} {a:Array Value} (h:fldD v=some a):v=.fields a:=by cases v<;>first | exact nn h | exact congrArg _ (Option.some.inj h)
theorem celD_inv {v:Data} {a:Option Value} (h:celD v=some a):v=.cell a:=by cases v<;>first | exact nn h | exact congrArg _ (Option.some.inj h)
theorem one1_inv {α:Type} {x:α}:∀ {l:List α},one1 l=some x→l=[x]
 | [_],h=>congrArg (fun x=>[x]) (Option.some.inj h)
 | [],h=>nn h
 | _::_::_,h=>nn h
theorem anyI {α:Type} {o:Option α} {p:α→Bool} (h:o.any p=true):∃ x,o=some x∧p x=true:=by
 cases o with
 | none=>exact ff h
 | some x=>exact ⟨x,rfl,h⟩
theorem of_isRef {r:Option (Option Value)} {a:Addr} (h:isRef r a=true):r=some (some (.ref a)):=by
 obtain ⟨x,rfl,h1⟩:=anyI h
 cases x with
 | none=>exact ff h1
 | some v=>rw [refV_inv (beq_iff_eq.mp (show (refV v==some _)=true from h1))]
theorem of_isBlt {r:Option (Option Value)} {n:String} (h:isBlt r n=true):r=some (some (.builtin n)):=by
 obtain ⟨x,rfl,h1⟩:=anyI h
 cases x with
 | none=>exact ff h1
 | some v=>rw [bltV_inv (beq_iff_eq.mp (show (bltV v==some _)=true from h1))]
theorem of_isNon {r:Option (Option Value)} (h:isNon r=true):r=some none:=by
 obtain ⟨x,rfl,h⟩:=anyI h
 cases x with
 | none=>rfl
 | some _=>exact ff h
noncomputable def okScI (sc:Scope):Bool:=decide (sc.kind=.function)&&(!sc.isCoroutine&&(!sc.isGenerator&&((sc.names.all fun x => !decide (x.2=.cell))&&(((params .Absolute_init).all fun x=>decide (sc.names.lookup x.s=some .local))&&
 (decide (sc.names.lookup (Str.ofString "super")=some .globalImplicit)&&decide (sc.names.lookup (Str.ofString "__class__")=some .free))))))
theorem allFn_all (f:Fn):f∈allFn:=List.mem_of_getElem? (i:=f.ctorIdx) (by cases f<;>rfl)
theorem nsIn_ns {K:Frag} {h:Heap} {a:Addr} {m:Str→Option Value} {x:Str} {r:Option Value} (X:K.In h) (hn:h.Ns a m) (e:nsIn K a x=some r):m x=r:=by
 obtain ⟨o,es,ep,ho,hd,hk,hm⟩:=hn
 unfold nsIn at e
 set_option tactic.hygienic true in split at e
 ·rename_i c d es' ep' sl hl
  have:=X _ _ hl
  rw [ho] at this
  cases this
  cases hd
  rw [← hm x]
  unfold nsFind findBy
  rw [← Array.find?_toList]
  set_option tactic.hygienic true in split at e
  ·rename_i q
   rw [q]; cases e; rfl
  ·rename_i q
   rw [q]
   split at e
   ·cases e
   ·cases e; rfl
 ·cases e
theorem cls_fit {K:Frag} {c:Cl} (p:Program) (w:World) (h:Heap) (Z:Addr→Prop) (e:goodCls K c=true):ClsFit ⟨p,w,clA,fnA,K,h,Z⟩ c∧keepIn K (.ref (clA c))=true:=by
 unfold goodCls at e
 simp only [Bool.and_eq_true,List.all_eq_true] at e
 refine byc fun hNN=>?_
 obtain ⟨e1,e2,e3,e4,e5,e6,e7,e8,e9⟩:=e
 refine hNN ?_
 refine ⟨⟨e1,of_isBlt e2,of_isNon e3,of_isBlt e4,e5,e6,of_isRef e7,fun x hx=>?_,fun x f hx=>?_⟩,e8⟩
 ·have:=(e9 x (nm_all x)).1
  rw [hx] at this
  exact of_isNon (by simpa using this)
 ·have:=(e9 x (nm_all x)).2
  rw [hx] at this
  exact of_isRef this
noncomputable def okTxt (f:Fn):Option Txt→Bool
 | some (b,sc,a)=>okSs (bodyOf f) b&&(okScF (scOf f) sc&&okParams f a)
 | none=>false
noncomputable def okTxtI:Option Txt→Bool
 | some (b,sc,a)=>okInit b&&(okScI sc&&okParams .Absolute_init a)
 | none=>false
theorem code_rec {K:Frag} {h:Heap} {fd:FuncData} (X:K.In h) (e:codeOk K fd=true):h.CodeRec fd.code fd.qualname:=by
 obtain ⟨c,hc,e⟩:=anyI e
 obtain ⟨o,ho,e⟩:=anyI e
 obtain ⟨vs,hv,e⟩:=anyI e
 obtain ⟨v,hq,e⟩:=anyI e
 obtain ⟨t,rfl⟩:=strV_inv (beq_iff_eq.mp e)
 exact ⟨c,o,vs,t,refV_inv hc,X _ _ ho,fldD_inv hv,hq⟩
theorem txt_at {K:Frag} {f:Fn} {g:Option Txt→Bool} {o:Obj} {fd:FuncData} (ho:K.lookup (fnA f)=some o) (hf:o.data=.func fd) (hg:g none=false) (et:g (txtK K f)=true):∃ b,fd.body=.stmts b∧g (some (b,fd.scope,fd.params))=true:=by
 unfold txtK at et
 rw [ho] at et
 have et:g ((funD o.data).bind fun fd=>(stmB fd.body).bind fun b=>some (b,fd.scope,fd.params))=true:=et
 rw [hf] at et
 have et:g ((stmB fd.body).bind fun b=>some (b,fd.scope,fd.params))=true:=et
 cases q:stmB fd.body with
 | none=>rw [q] at et; exact ff (hg.symm.trans et)
 | some b=>rw [q] at et; exact ⟨b,stmB_inv q,et⟩
theorem fn_type {K:Frag} {a:Addr} {o:Obj} {fd:FuncData} (ho:K.lookup a=some o) (hf:o.data=.func fd) (e:typV o.cls=some "function"):typeIn K (.ref a)=some (.type "function")∧keepIn K (.ref a)=true:=by
 refine ⟨(congrArg (Option.map Obj.cls) ho).trans (congrArg some (typV_inv e)),?_⟩
 obtain ⟨_,_,_,_⟩:=o
 cases hf
 unfold keepIn
 dsimp only
 rw [ho]
theorem fn_fit {K:Frag} {f:Fn} {p:Program} {w:World} {h:Heap} {Z:Addr→Prop} (X:K.In h) (et:okTxt f (txtK K f)=true) (e:goodFn K f=true):FnFit ⟨p,w,clA,fnA,K,h,Z⟩ f∧typeIn K (.ref (fnA f))=some (.type "function")∧keepIn K (.ref (fnA f))=true:=by
 refine byc fun hNN=>?_
 obtain ⟨o,ho,e⟩:=anyI e
 obtain ⟨fd,hf,e⟩:=anyI e
 have hf:=funD_inv hf
 refine an6 e fun e1 e5 e6 e7 e8 e9=>?_
 obtain ⟨body,q,et⟩:=txt_at ho hf rfl et
 refine an3 et fun e2 e3 e4=>?_
 exact hNN ⟨⟨o,fd,body,X _ _ ho,hf,q,e2,e3,e4,List.isEmpty_iff.mp e5,nonV_inv e6,beq_iff_eq.mp e7,beq_iff_eq.mp e8,code_rec X e9⟩,fn_type ho hf (beq_iff_eq.mp e1)⟩
theorem init_fit {K:Frag} {p:Program} {w:World} {h:Heap} {Z:Addr→Prop} (X:K.In h) (ht:(p.main.scope.names.lookup (Str.ofString "super")).isSome=false) (et:okTxtI (txtK K .Absolute_init)=true) (e:goodInit p.main.file K=true):
  InitFit ⟨p,w,clA,fnA,K,h,Z⟩∧typeIn K (.ref (fnA .Absolute_init))=some (.type "function")∧keepIn K (.ref (fnA .Absolute_init))=true:=by
 refine byc fun hNN=>?_
 obtain ⟨o,ho,e⟩:=anyI e
 obtain ⟨fd,hf,e⟩:=anyI e
 have hf:=funD_inv hf
 refine an11 e fun e1 e5 e6 e7 e8 e9 e10 f1 f2 f3 f4=>?_
 obtain ⟨body,q,et⟩:=txt_at ho hf rfl et
 refine an3 et fun e2 e3 e4=>?_
 refine an7 e3 fun g1 g2 g3 g4 g5 g6 g7=>?_
 obtain ⟨⟨n,cc⟩,hclo,e5⟩:=anyI e5
 obtain ⟨e51,e52⟩:=an e5
 obtain ⟨oc,hcc,e52⟩:=anyI e52
 obtain ⟨r,hr,e52⟩:=anyI e52
 obtain ⟨v,rfl,e52⟩:=anyI e52
 obtain rfl:=refV_inv (beq_iff_eq.mp e52)
 obtain ⟨cda,hcode,e10⟩:=anyI e10
 obtain ⟨oca,hcd,e10⟩:=anyI e10
 obtain ⟨vs,hvs,e10⟩:=anyI e10
 obtain ⟨v2,hv2,e10⟩:=anyI e10
 obtain ⟨g,hg,e10⟩:=anyI e10
 obtain ⟨tg,rfl⟩:=strV_inv hg
 have hcl:=one1_inv hclo
 rw [beq_iff_eq.mp (show (n==_)=true from e51)] at hcl
 exact hNN ⟨⟨⟨o,fd,body,cc,oc,cda,oca,vs,g,tg,X _ _ ho,hf,q,e2,of_decide_eq_true g1,(Bool.not_eq_true' _).mp g2,(Bool.not_eq_true' _).mp g3,fun x hx=>of_decide_eq_false ((Bool.not_eq_true' _).mp (List.all_eq_true.mp g4 x hx)),fun x hx=>of_decide_eq_true (List.all_eq_true.mp g5 x hx),of_decide_eq_true g6,of_decide_eq_true g7,e4,hcl,nonV_inv e6,beq_iff_eq.mp e7,beq_iff_eq.mp e8,code_rec X e9,X _ _ hcc,celD_inv hr,refV_inv hcode,X _ _ hcd,fldD_inv hvs,hv2,e10⟩,ht,beq_iff_eq.mp f1,of_isNon f2,of_isRef f3,f4⟩,fn_type ho hf (beq_iff_eq.mp e1)⟩
theorem fit_all {K:Frag} {p:Program} {w:World} {h:Heap} {Z:Addr→Prop} {mg mb:Str→Option Value} (X:K.In h) (ht:(p.main.scope.names.lookup (Str.ofString "super")).isSome=false) (hg:h.Ns mainGlobals mg) (hb:h.Ns builtinsNs mb) (hl:h.NoLimit)
  (hbb:∀ x b,calleeOf x=some (.bf b)→mb x.s=some (bfv b)) (hr:mb Nm.reversed.s=some (.type "reversed")) (hs:mb Nm.super.s=some (.type "super")) (htx:∀ f,f≠.Absolute_init→okTxt f (txtK K f)=true) (hti:okTxtI (txtK K .Absolute_init)=true) (e:goodK p.main.file K=true):
  FitAll ⟨p,w,clA,fnA,K,h,Z⟩∧mg Nm.law.s=some (.ref (fnA .law)):=by
 unfold goodK at e
 simp only [Bool.and_eq_true,List.all_eq_true] at e
 refine byc fun hNN=>?_
 obtain ⟨e1,e2,e3,e4,e5,e6⟩:=e
 have hfn:∀ f,f≠.Absolute_init→goodFn K f=true:=fun f hf=>by
  have:=e4 f (allFn_all f)
  cases f<;>first | exact absurd rfl hf | exact this
 obtain ⟨i1,i2,i3⟩:=init_fit (w:=w) (Z:=Z) X ht hti e5
 have htyp:∀ f,typeIn K (.ref (fnA f))=some (.type "function"):=fun f=>by
  by_cases hf:f=.Absolute_init
  ·rw [hf]; exact i2
  ·exact (fn_fit (p:=p) (w:=w) (Z:=Z) X (htx f hf) (hfn f hf)).2.1
 have hkeep:∀ f,keepIn K (.ref (fnA f))=true:=fun f=>by
  by_cases hf:f=.Absolute_init
  ·rw [hf]; exact i3
  ·exact (fn_fit (p:=p) (w:=w) (Z:=Z) X (htx f hf) (hfn f hf)).2.2
 refine hNN ?_
 unfold goodGl at e6
 simp only [Bool.and_eq_true,List.all_eq_true] at e6
 refine byc fun hNN=>?_
 obtain ⟨g1,g2,g3,g4,g5⟩:=e6
 refine hNN ?_
 refine ⟨⟨⟨⟨X,?_,fun c=>?_,htyp⟩,hkeep,fun c=>?_,mg,mb,hg,hb,?_,fun x c hc=>⟨fun hbf=>?_,fun hbf=>?_⟩,⟨nsIn_ns X hg (of_isNon g3),hr⟩,⟨nsIn_ns X hg (of_isNon g4),hs⟩⟩,fun f hf=>(fn_fit X (htx f hf) (hfn f hf)).1,i1,hl⟩,nsIn_ns X hg (of_isRef g5)⟩
 ·obtain ⟨o,ho⟩:=Option.isSome_iff_exists.mp e1
  show h.get? sysModules≠none
  rw [X _ _ ho]; simp
 ·cases c
  ·exact (cls_fit p w h Z e2).1
  ·exact (cls_fit p w h Z e3).1
 ·cases c
  ·exact (cls_fit p w h Z e2).2
  ·exact (cls_fit p w h Z e3).2
 ·obtain ⟨_,hr,g1⟩:=anyI g1
  obtain ⟨_,rfl,g1⟩:=anyI g1
  obtain ⟨t,rfl⟩:=intV_inv (beq_iff_eq.mp g1)
  exact ⟨t,nsIn_ns X hg hr⟩
 ·have:=g2 x (nm_all x)
  rw [hc] at this
  cases c with
  | fn f=>exact nsIn_ns X hg (of_isRef this)
  | cls c=>exact nsIn_ns X hg (of_isRef this)
  | bf b=>cases hbf
 ·have:=g2 x (nm_all x)
  rw [hc] at this
  cases c with
  | fn f=>cases hbf
  | cls c=>cases hbf
  | bf b=>exact ⟨nsIn_ns X hg (of_isNon this),hbb x b hc⟩
end Internal
namespace Internal
open PySem PySem.W PyProof.Rows PySem.Challenge
theorem okP (f:Fn) (h:f≠.Absolute_init):okTxt f (txtP f)=true:=by
 cases f
 case Absolute_init=>exact absurd rfl h
 all_goals kernel_rfl
theorem okPI:okTxtI (txtP .Absolute_init)=true:=by kernel_rfl
theorem noSuper:(pw_qd0016_01.main.scope.names.lookup (Str.ofString "super")).isSome=false:=by kernel_rfl
set_option backward.match.sparseCases false in
noncomputable def okBoot:List (Nm×Callee)→Prop
 | []=>True
 | (x,c)::r=>(∀ b,c=.bf b→bootBuiltins x.s=some (bfv b))∧okBoot r
theorem boot_look {x:Nm} {b:Bf}:∀ {l:List (Nm×Callee)},okBoot l→l.lookup x=some (.bf b)→bootBuiltins x.s=some (bfv b)
 | (k,c)::r,h,hl=>by
  rw [List.lookup_cons] at hl
  cases e:x==k with
  | true=>rw [e] at hl; rw [eq_of_beq e]; exact h.1 b (Option.some.inj hl)
  | false=>rw [e] at hl; exact boot_look h.2 hl
theorem boot_one {x:Nm} {b:Bf} (h:bootBuiltins x.s=some (bfv b)) (c:Bf) (e:Callee.bf b=.bf c):bootBuiltins x.s=some (bfv c):=by cases e; exact h
theorem boot_tab:okBoot calleeTab:=by
 unfold calleeTab
 repeat' (first | exact trivial | refine And.intro ?_ ?_)
 all_goals first | (intro b e; cases e; done) | (refine boot_one ?_; kernel_rfl)
theorem boot_bf (x:Nm) (b:Bf) (h:calleeOf x=some (.bf b)):bootBuiltins x.s=some (bfv b):=boot_look boot_tab h
theorem boot_rev:bootBuiltins Nm.reversed.s=some (.type "reversed"):=by kernel_rfl
theorem boot_sup:bootBuiltins Nm.super.s=some (.type "super"):=by kernel_rfl
theorem nm_name (x:Nm):x.s≠Str.ofString "__name__" := by
 have h:(allNm.all fun x => !decide (x.s=Str.ofString "__name__"))=true:=by decide +kernel
 have:=List.all_eq_true.mp h x (nm_all x)
 simpa using this
end Internal
namespace Internal
open PySem PySem.W PyProof.Rows PySem.Challenge
theorem of_seenH {s:Shared} (e:seenH s=(true,txtsP)):∃ K:Frag,K.In s.heap∧goodK pw_qd0016_01.main.file K=true∧∀ f,txtK K f=txtP f:=by
 refine ⟨fragH s.heap,fragH_in _,congrArg Prod.fst e,fun f=>?_⟩
 have e2:allFn.map (txtK (fragH s.heap))=allFn.map txtP:=congrArg Prod.snd e
 exact List.map_inj_left.mp e2 f (allFn_all f)
noncomputable def gH:Hook:=⟨Bool×List (Option Txt),seenH,fun uu=>(true,txtsP),fun uu h=>∃ K:Frag,K.In h∧goodK pw_qd0016_01.main.file K=true∧∀ f,txtK K f=txtP f,fun w s e=>of_seenH e,fun w h h' ⟨K,x,g⟩ k=>⟨K,x.keeps k,g⟩⟩
theorem hl:LeftO pw_qd0016_01 qV [Str.ofString "has_domains"] (fun s=>xlAt qV [] s&&recOk [] s) (Hook.obs gH) (Hook.val gH) 6220 true:=
 left_two (ends_of_boot open_eq (by kernel_rfl) open_fence hSeen) (ends_of_boot (V:=fun uu=>(true,txtsP)) open_eq (by kernel_rfl) open_fence hFit)
end Internal
namespace Internal
open PySem PySem.W PyProof.Rows PySem.Challenge
theorem ints_of {R:WRecords}:∀ {xs:List WData},WShape.hasItems R xs .int=true→∃ is:List Int,xs=is.map .int
 | [],_=>⟨[],rfl⟩
 | d::xs,h=>by
  have h':WShape.has R d .int=true∧WShape.hasItems R xs .int=true:=by simpa [WShape.hasItems] using h
  obtain ⟨i,rfl⟩:=hasW_int h'.1
  obtain ⟨is,rfl⟩:=ints_of h'.2
  exact ⟨i::is,rfl⟩
theorem reads_ints {R:WRecords} {cl:Str→Option Addr} {h:Heap} {D:Addr→Prop}:∀ {is:List Int} {vs:List Value} {as:List Addr},ReadsAllW R cl h vs (is.map .int) as→RA h D (is.map .int) vs
 | [],vs,as,r=>by cases r; exact .nil
 | i::is,vs,as,r=>by
  cases r with
  | cons r1 r2=>
   cases r1
   exact .cons (.int _ _) (reads_ints r2)
theorem pre_len {xs:List WData} (h:rw_qd0016_01.row.pre.holds rw_qd0016_01.row.records { args:=[.list xs] }=true):xs.length≤63:=by
 refine byc fun hNN=>?_
 have h':WTm.holds rw_qd0016_01.row.records (.and (.not (.lt (.lit (.int 63)) (.len (.arg 0)))) (.lit (.bool true))) { args:=[.list xs] }=true:=h
 obtain ⟨h1,_⟩:=holds_andW h'
 have c:=condW_of h1 (by wtm_val)
 simp only [bi_not,bi_dec,bi_beq] at c
 refine hNN ?_
 exact l10 78800489344353377 rfl c
theorem the_walk {d:DefRec} {kwd:List (Str×PySem.Expr)} (hn:d.name=Nm.law.s):WalkO qV [Str.ofString "has_domains"] (XL qV []) gH.says rw_qd0016_01.row.toRowW d kwd (fun f vs=>PySem.call f vs):=by
 intro w s₀ s₁ mg mb G Y fa o pm cd doc dV kV ho hd hcd hD hmg hg args vals as hpre hlay hrd hwl hlo
 obtain ⟨K,X,hK,ht⟩:=Y
 have T:=topRead_of G.T
 obtain ⟨F,e2⟩:=fit_all (p:=pw_qd0016_01) (w:=w) (Z:=fun uu=>False) X noSuper T.g T.b T.nolimit (fun x b hx=>(T.builtins _ (nm_name x)).trans (boot_bf x b hx)) ((T.builtins _ (nm_name _)).trans boot_rev) ((T.builtins _ (nm_name _)).trans boot_sup)
  (fun f hf=>by rw [ht f]; exact okP f hf) (by rw [ht]; exact okPI) hK
 have efa:fa=fnA .law:=by
  rw [hn,e2] at hmg
  cases hmg; rfl
 subst efa
 obtain ⟨a1,a2⟩:=pre_splitW hpre
 obtain ⟨dd,r,rfl,b1,b2⟩:=hasAllW_cons (es:=[]) a1
 obtain rfl:=hasAllW_nil b2
 obtain ⟨xs,rfl,b3⟩:=hasW_list b1
 obtain ⟨is,rfl⟩:=ints_of b3
 have hlen:=pre_len a2
 rw [List.length_map] at hlen
 cases hrd with
 | cons r1 r2=>
  cases r2
  cases r1 with
  | list h1 h2 h3 h4=>
   have Rl:Real ⟨pw_qd0016_01,w,clA,fnA,K,s₁.heap,fun uu=>False⟩ (fun uu=>none) s₁.heap:=⟨fun a o e=>(by cases e),fun b o e=>e,fun a h=>absurd rfl h,fun a h=>h.elim⟩
   have ra:RA s₁.heap (dm ⟨pw_qd0016_01,w,clA,fnA,K,s₁.heap,fun uu=>False⟩ (fun uu=>none)) [AV.lst (is.map .int)] [Value.ref _]:=
    .cons (.lst h1 h2 h3 (by rw [List.length_map]; unfold LIM; exact l10 318118964249128552961 rfl hlen) (fun h=>h.elim (fun h=>h rfl) id) (reads_ints h4)) .nil
   have hc:=scalls F meets_all 8 (fun uu=>False) .law (by decide) callerA (fun uu=>none) s₁ _ _ (fun r uu=>r=.bool true) ⟨rfl,by decide,by decide⟩ Rl ra (.law fun uu=>rfl)
   refine wpAny_call (codeAny_mono hc fun r s' hr=>?_)
   cases r with
   | error e=>exact hr.elim
   | ok fl=>
    cases fl with
    | ret v=>
     obtain ⟨av,H',rfl,e,rv⟩:=hr
     cases rv
     obtain ⟨h',tk,es⟩:=e.step.same
     refine ⟨.inl ⟨_,.bool true,[],rfl,fun cls=>rfl,.bool true,by wrow_post,fun uu=>⟨List.nodup_nil,fun a ha=>by cases ha⟩⟩,.of_keep fun b o hb=>e.step.keep b o (fun h=>h rfl) hb,by rw [es],.of_eq (by rw [es]; exact hg)⟩
    | _=>exact hr.elim
end Internal
open PySem PySem.W PyProof.Rows
set_option maxRecDepth 100000 in
set_option maxHeartbeats 8000000 in
theorem PySem.Challenge.cw_qd0016_01_holds : PySem.Challenge.rw_qd0016_01.Holds := by
 w_on
 refine holds_law Internal.said_ok fun said=>?_
 refine holds_open (q:=Internal.qV) (loose:=[Str.ofString "has_domains"]) (Xt:=fun s=>xlAt Internal.qV [] s&&recOk [] s) (XP:=XL Internal.qV []) (Yf:=Hook.obs Internal.gH) (Ya:=Hook.val Internal.gH) (YP:=Hook.says Internal.gH) (N:=6220) Internal.hl (Hook.of Internal.gH) (Hook.keeps Internal.gH)
  (fun s e=>xl_of s (Bool.and_eq_true_iff.mp e).1) XL.keeps (by rfl) (by rfl) (by rfl) (fun s e=>recFacts_of (Bool.and_eq_true_iff.mp e).2) (by rfl) (by first | assumption | decide +kernel) Internal.ok_top ⟨rfl,rfl,rfl,rfl,rfl,by decide +kernel⟩ ?hw (Internal.the_walk ?hn)
 case hn=>rfl
 case hw=>w_witness2
