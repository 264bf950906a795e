import PyProof.Rows.All
import Wide.All
import KE.BytesMake
import KE.KBytesWalk
import KE.KLam
import KE.KNest
import KE.KRevIter
import OpenK.KCall
import OpenK.KCls
import OpenK.KGet
import OpenK.KMake
import OpenK.KMore
import OpenK.KWalk
import OpenK.Peek
import OpenK.ZHead
import OpenK.XOpen
import Wide.FinOn
import Lean
import PySem.Challenge.RW_pq0624_01
set_option Elab.async false
set_option maxRecDepth 100000
set_option maxHeartbeats 0
set_option linter.all false
set_option genSizeOf false
set_option genInjectivity false
noncomputable section
namespace Mine
open PySem
section
open PySem PySem.Spec PySem.Calls PyProof.Rows PySem.W
noncomputable abbrev JH:=@Nat.le_trans
noncomputable abbrev JI:=@Nat.le_of_ble_eq_true
noncomputable abbrev JJ:=@wpAny_bind
noncomputable abbrev JK:=@List.append_assoc
noncomputable abbrev JL:=@Nat.le_refl
noncomputable abbrev JM:=@Nat.add_le_add_left
noncomputable abbrev JN:=@of_decide_eq_true
noncomputable abbrev JO:=@wpAny_pure
noncomputable abbrev JP:=@Bool.and_eq_true_iff
noncomputable abbrev JQ:=@List.length_map
noncomputable abbrev JR:=@List.size_toArray
noncomputable abbrev JS:=@Nat.le_add_left
noncomputable abbrev JT:=@List.getElem?_eq_some_iff
noncomputable abbrev JU:=@List.length_append
noncomputable abbrev JV:=@Nat.le_add_right
noncomputable abbrev JW:=@Nat.succ_le_succ
noncomputable abbrev JX:=@List.append_nil
noncomputable abbrev JY:=@List.mem_cons
noncomputable abbrev JZ:=@Nat.le_of_eq
noncomputable abbrev J0:=@wpAny_mono
noncomputable abbrev J1:=@Nat.le_succ_of_le
noncomputable abbrev J2:=@Nat.exists_eq_add_of_le'
noncomputable abbrev J3:=@Nat.add_le_add_right
noncomputable abbrev J4:=@List.getElem?_eq_getElem
noncomputable abbrev J5:=@List.mem_map
noncomputable abbrev J6:=@List.getElem?_append_left
noncomputable abbrev J7:=@beq_iff_eq
noncomputable abbrev J8:=@Heap.get?_push_size
noncomputable abbrev J9:=@Option.some.inj
noncomputable abbrev Ka:=@Nat.lt_of_lt_of_le
noncomputable abbrev Kb:=@List.mem_singleton
noncomputable abbrev Kc:=@List.map_append
noncomputable abbrev Ke:=@Nat.le_add_right_of_le
noncomputable abbrev Kf:=@wpAny_standAt
noncomputable abbrev Kg:=@decide_eq_false
noncomputable abbrev Kh:=@Nat.mul_le_mul_left
noncomputable abbrev Ki:=@List.mem_append
noncomputable abbrev Kj:=@List.flatMap_cons
noncomputable abbrev Kk:=@List.not_mem_nil
noncomputable abbrev Kl:=@List.isEmpty_iff
noncomputable abbrev Km:=@List.all_eq_true
noncomputable abbrev Ko:=@List.getElem?_set_ne
noncomputable abbrev Kp:=@wpAny_holding
noncomputable abbrev Kq:=@List.map_cons
noncomputable abbrev Kr:=@List.cons_ne_nil
noncomputable abbrev Ks:=@List.getElem?_set_self
noncomputable abbrev Kt:=@decide_eq_true
noncomputable abbrev Ku:=@Option.bind_eq_some_iff
noncomputable abbrev Kv:=@List.cons_append
noncomputable abbrev Kw:=@Nat.lt_of_le_of_lt
noncomputable abbrev Kx:=@Nat.le_sub_of_add_le
noncomputable abbrev Ky:=@List.getElem?_append_right
noncomputable abbrev Kz:=@Int.le_trans
noncomputable abbrev KA:=@beq_eq_false_iff_ne
noncomputable abbrev KB:=@Nat.le_of_not_lt
noncomputable abbrev KC:=@List.length_cons
noncomputable abbrev KD:=@Nat.zero_le
noncomputable abbrev KG:=@List.map_nil
noncomputable abbrev KH:=@Bool.or_eq_true_iff
noncomputable abbrev KI:=@Nat.lt_succ_of_le
noncomputable abbrev KJ:=@Nat.le_of_succ_le_succ
noncomputable abbrev KK:=@Int.not_lt
noncomputable abbrev KL:=@Heap.get?_push_of_some
noncomputable abbrev KM:=@List.nil_append
noncomputable abbrev KN:=@Nat.le_of_succ_le
noncomputable abbrev KO:=@Nat.add_le_add
noncomputable abbrev KQ:=@List.lookup_cons
noncomputable abbrev KR:=@List.append_cons
noncomputable abbrev KS:=@Heap.get?_update_self
noncomputable abbrev KT:=@Nat.le_max_left
noncomputable abbrev KU:=@Nat.add_comm
noncomputable abbrev KW:=@Nat.not_lt
noncomputable abbrev KX:=@Bool.false_ne_true
noncomputable abbrev KY:=@Nat.mul_le_mul_right
noncomputable abbrev KZ:=@Nat.add_assoc
noncomputable abbrev K0:=@Nat.ne_of_lt
noncomputable abbrev K3:=@List.getElem?_map
noncomputable abbrev K4:=@List.getElem?_eq_none
noncomputable abbrev K5:=@Int.le_of_lt
noncomputable abbrev K6:=@wpAny_loadName_local
noncomputable abbrev K7:=@Bool.or_eq_false_iff
noncomputable abbrev K8:=@Nat.le_max_right
noncomputable abbrev K9:=@Nat.le_of_add_le_add_right
noncomputable abbrev La:=@List.mem_filter
noncomputable abbrev Lb:=@wpAny_newObj_type
noncomputable abbrev Lc:=@wpAny_loadPart_at
noncomputable abbrev Ld:=@decide_eq_false_iff_not
noncomputable abbrev Le:=@List.flatMap_nil
noncomputable abbrev Lf:=@Nat.le_succ
noncomputable abbrev Lg:=@of_decide_eq_false
noncomputable abbrev Lh:=@Nat.le_of_lt
noncomputable abbrev Li:=@List.contains_cons
noncomputable abbrev Lj:=@List.length_set
noncomputable abbrev Lk:=@List.length_nil
noncomputable abbrev Ll:=@wpAny_execs_cons
noncomputable abbrev Lm:=@Nat.succ_ne_zero
noncomputable abbrev Ln:=@List.drop_eq_getElem_cons
noncomputable abbrev Lo:=@wpAny_execs_nil
noncomputable abbrev Lp:=@Nat.le_antisymm
noncomputable abbrev Lq:=@wpAny_Name
noncomputable abbrev Lr:=@wpAny_Constant_str
noncomputable abbrev Ls:=@List.getElem?_drop
noncomputable abbrev Lu:=@Int.natCast_nonneg
noncomputable abbrev Lv:=@Int.lt_of_le_of_lt
noncomputable abbrev Lw:=@Bool.false_eq_true
noncomputable abbrev Lx:=@Nat.zero_add
noncomputable abbrev Ly:=@Nat.ne_of_gt
noncomputable abbrev Lz:=@Heap.get?_update_other
noncomputable abbrev LA:=@List.getElem?_toArray
noncomputable abbrev LB:=@Nat.lt_succ_self
noncomputable abbrev LC:=@List.any_cons
noncomputable abbrev LD:=@Nat.not_lt_zero
noncomputable abbrev LF:=@Bool.eq_iff_iff
noncomputable abbrev LG:=@wpAny_isSubtype_exc
noncomputable abbrev LH:=@List.map_map
noncomputable abbrev LI:=@wpAny_call
noncomputable abbrev LJ:=@Nat.add_sub_cancel
noncomputable abbrev LK:=@List.mem_filterMap
noncomputable abbrev LL:=@Int.not_le
noncomputable abbrev LM:=@wpAny_truthy_bool
noncomputable abbrev LN:=@Nat.le_of_lt_succ
noncomputable abbrev LP:=@List.length_range
noncomputable abbrev LQ:=@decide_eq_decide
noncomputable abbrev LR:=@List.map_reverse
noncomputable abbrev LS:=@List.length_drop
noncomputable abbrev LU:=@List.getElem?_cons_zero
noncomputable abbrev LW:=@List.any_toArray
noncomputable abbrev LX:=@List.any_eq_true
noncomputable abbrev LY:=@Bool.and_eq_true
noncomputable abbrev LZ:=@List.length_eq_one_iff
noncomputable abbrev L6:=@wpAny_loadPart
noncomputable abbrev L7:=@wpAny_field
noncomputable abbrev L8:=@wpAny_Expr_any
noncomputable abbrev L9:=@Bool.and_false
noncomputable abbrev Ma:=@List.map_congr_left
noncomputable abbrev Mb:=@Int.toNat_of_nonneg
noncomputable abbrev Mc:=@Heap.get?_update_ne
noncomputable abbrev Me:=@wpAny_release
noncomputable abbrev Mf:=@Nat.lt_irrefl
noncomputable abbrev Mg:=@List.lookup_append
noncomputable abbrev Mh:=@wpAny_typeOf
noncomputable abbrev Mi:=@wpAny_Return_some
noncomputable abbrev Mj:=@decide_eq_true_eq
noncomputable abbrev Mk:=@Int.lt_trans
noncomputable abbrev Ml:=@Bool.or_true
noncomputable abbrev Mm:=@Nat.not_le_of_lt
noncomputable abbrev Mn:=@List.map_fst_zip
noncomputable abbrev Mo:=@List.length_zip
noncomputable abbrev Mp:=@Bool.or_eq_true
noncomputable abbrev Mq:=PySem.Expr
noncomputable abbrev Mr:=PySem.Value
noncomputable abbrev Ms:=PySem.Shared
noncomputable abbrev Mt:=PySem.Addr
noncomputable abbrev Mu:=PySem.Value
end
theorem nm{α:Type}{a:α}{P:Prop}(m:a∈([]:List α)):P:=absurd m Kk
theorem EM{a b:Nat}(h:a≠0)(l:a<=b):b≠0:=fun z=>h (Nat.le_zero.mp (z▸l))
theorem Hi(a b:Int):(if a < b then b - a else 0)=((b - a).toNat:Int):=by
 split
 ·exact(Mb (Int.sub_nonneg_of_le (K5 (by assumption)))).symm
 ·rw[Int.toNat_eq_zero.mpr (Int.sub_nonpos_of_le (KK.mp (by assumption)))];rfl
theorem bl1{v d n:Nat}(h:v<=n)(k:n<=v+d):n=v+(d - (v+d - n)):=by
 obtain⟨a,rfl⟩:=Nat.exists_eq_add_of_le h
 rw[Nat.add_sub_add_left,Nat.sub_sub_self (Nat.le_of_add_le_add_left k)]
theorem bl2{v d n i:Nat}(h1:d<=n)(h2:n<=v+d)(h3:v<=i):i - (n - d)=v+d - n+(i - v):=by
 obtain⟨a,rfl⟩:=J2 h1
 obtain⟨b,rfl⟩:=J2 (K9 h2)
 obtain⟨c,rfl⟩:=J2 h3
 rw[LJ,Nat.add_sub_add_right,LJ, ←KZ,LJ,KZ c b a,LJ,KU]
theorem uf{a b n:Nat}(h:b - a=n)(hb:b<=n)(ha:a<=n):a=0/\b=n:=by
 have e:b=n:=Lp hb (h▸Nat.sub_le b a)
 subst e
 exact⟨Nat.add_left_cancel (n:=b) ((congrArg (·+a) h.symm).trans (Nat.sub_add_cancel ha)),rfl⟩
theorem ut{i:Int}(h1: -(2^63) < i)(h2:i < 2^63):i.natAbs < 2^63:=by
 cases i with
 |ofNat n=>exact Int.ofNat_lt.mp h2
 |negSucc n=>exact Int.ofNat_lt.mp (Int.neg_lt_neg_iff.mp h1)
theorem mO{i:Int}(h: -1000000<=i/\i<=1000000): -9223372036854775808<=i/\i < 9223372036854775808:=⟨Kz (by decide) h.1,Lv h.2 (by decide)⟩
theorem zG{a b:Int}(ha: -1000000<=a/\a<=1000000)(hb: -1000000<=b/\b<=1000000): -9223372036854775808<=max (b - a) 0/\max (b - a) 0 < 9223372036854775808:=
 ⟨Kz (by decide) (Int.le_max_right _ _),Int.max_lt.mpr ⟨Lv (Int.sub_le_sub hb.2 ha.1) (by decide),by decide⟩⟩
inductive LE|n (k:Nat)|v (i:Nat)|a (x y:LE)|m (k:Nat)(x:LE)
noncomputable def LE.den(c:List Nat):LE->Nat
 | .n k=>k
 | .v i=>c.getD i 0
 | .a x y=>x.den c+y.den c
 | .m k x=>k*x.den c
noncomputable def LE.k:LE->Nat
 | .n k=>k
 | .v _=>0
 | .a x y=>x.k+y.k
 | .m k x=>k*x.k
noncomputable def LE.f(i:Nat):LE->Nat
 | .n _=>0
 | .v j=>bif Nat.beq i j then 1 else 0
 | .a x y=>x.f i+y.f i
 | .m k x=>k*x.f i
noncomputable def dG(c:List Nat)(x:LE):Nat->Nat
 |0=>0
 |i+1=>dG c x i+x.f i*c.getD i 0
noncomputable def LE.lt(b:Nat):LE->Bool
 | .n _=>true
 | .v j=>Nat.blt j b
 | .a x y=>x.lt b&&y.lt b
 | .m _ x=>x.lt b
theorem wZ{i j:Nat}(h:i≠j):Nat.beq i j=false:=by
 cases e:Nat.beq i j
 ·rfl
 ·exact absurd (Nat.eq_of_beq_eq_true e) h
theorem CG(c:List Nat)(x y:LE)(b:Nat):dG c (.a x y) b=dG c x b+dG c y b:=by
 induction b with
 |zero=>rfl
 |succ b ih=>
  show dG c (.a x y) b+(x.f b+y.f b)*_=(dG c x b+_)+(dG c y b+_)
  rw[ih,Nat.add_mul,Nat.add_add_add_comm]
theorem CF(c:List Nat)(k:Nat)(x:LE)(b:Nat):dG c (.m k x) b=k*dG c x b:=by
 induction b with
 |zero=>rfl
 |succ b ih=>
  show dG c (.m k x) b+(k*x.f b)*_=k*(dG c x b+_)
  rw[ih,Nat.mul_add,Nat.mul_assoc]
theorem CE(c:List Nat)(k:Nat)(b:Nat):dG c (.n k) b=0:=by
 induction b with
 |zero=>rfl
 |succ b ih=>show dG c (.n k) b+0*_=0;rw[ih,Nat.zero_mul]
theorem zr(c:List Nat)(j b:Nat)(h:b<=j):dG c (.v j) b=0:=by
 induction b with
 |zero=>rfl
 |succ b ih=>
  show dG c (.v j) b+(bif Nat.beq b j then 1 else 0)*_=0
  rw[ih (KN h),show Nat.beq b j=false from wZ (K0 h)]
  simp
theorem CD(c:List Nat)(j b:Nat)(h:j < b):dG c (.v j) b=c.getD j 0:=by
 induction b with
 |zero=>exact absurd h (LD _)
 |succ b ih=>
  show dG c (.v j) b+(bif Nat.beq b j then 1 else 0)*_=_
  rcases Nat.lt_or_eq_of_le (LN h)with h|rfl
  ·rw[ih h,show Nat.beq b j=false from wZ (Ly h)];simp
  ·rw[zr c j j (JL _),Nat.beq_refl];simp
theorem ww(c:List Nat)(b:Nat)(x:LE)(h:x.lt b=true):x.den c=x.k+dG c x b:=by
 induction x with
 |n k=>show k=k+_;rw[CE];rfl
 |v j=>show _=0+_;rw[CD c j b (JI h),Lx];rfl
 |a x y ih jh=>
  obtain⟨h1,h2⟩:=JP.mp h
  show x.den c+y.den c=(x.k+y.k)+_
  rw[ih h1,jh h2,CG,Nat.add_add_add_comm]
 |m k x ih=>
  show k*x.den c=k*x.k+_
  rw[ih h,CF,Nat.mul_add]
noncomputable def HI(x y:LE):Nat->Bool
 |0=>true
 |i+1=>Nat.ble (x.f i) (y.f i)&&HI x y i
theorem zt{c:List Nat}{x y:LE}{b:Nat}(h:HI x y b=true):dG c x b<=dG c y b:=by
 induction b with
 |zero=>exact JL _
 |succ b ih=>
  obtain⟨h1,h2⟩:=JP.mp h
  exact KO (ih h2) (KY _ (JI h1))
noncomputable def Hw(b:Nat):List (Nat×LE×LE)->Bool
 |[]=>true
 |(_,x,y)::l=>x.lt b&&y.lt b&&Hw b l
noncomputable def jJ:List (Nat×LE×LE)->LE
 |[]=>.n 0
 |(w,x,_)::l=>.a (.m w x) (jJ l)
noncomputable def gC:List (Nat×LE×LE)->LE
 |[]=>.n 0
 |(w,_,y)::l=>.a (.m w y) (gC l)
noncomputable def Hu(b:Nat)(hs:List (Nat×LE×LE))(w:Nat)(x y:LE):Bool:=
 Nat.blt 0 w&&(x.lt b&&(y.lt b&&((jJ hs).lt b&&((gC hs).lt b&&(Nat.ble ((LE.m w x).k+(gC hs).k) ((LE.m w y).k+(jJ hs).k)&&HI (.a (.m w x) (gC hs)) (.a (.m w y) (jJ hs)) b)))))
noncomputable def Dx(c:List Nat)(G:Prop):List (Nat×LE×LE)->Prop
 |[]=>G
 |(_,x,y)::l=>x.den c<=y.den c->Dx c G l
theorem Ht{c:List Nat}{G:Prop}(hs:List (Nat×LE×LE)):((jJ hs).den c<=(gC hs).den c->G)->Dx c G hs:=by
 induction hs with
 |nil=>exact fun h=>h (JL _)
 |cons p hs ih=>exact fun h q=>ih fun r=>h (KO (Kh p.1 q) r)
theorem lin(c:List Nat)(hs:List (Nat×LE×LE))(w:Nat)(x y:LE)(ok:Hu c.length hs w x y=true):Dx c (x.den c<=y.den c) hs:=by
 refine Ht hs fun h=>?_
 obtain⟨o1,ok⟩:=JP.mp ok
 obtain⟨o2,ok⟩:=JP.mp ok
 obtain⟨o3,ok⟩:=JP.mp ok
 obtain⟨o4,ok⟩:=JP.mp ok
 obtain⟨o5,ok⟩:=JP.mp ok
 obtain⟨o6,ok⟩:=JP.mp ok
 have e1:=ww c c.length (.a (.m w x) (gC hs)) (JP.mpr ⟨o2,o5⟩)
 have e2:=ww c c.length (.a (.m w y) (jJ hs)) (JP.mpr ⟨o3,o4⟩)
 have q:(LE.a (.m w x) (gC hs)).den c<=(LE.a (.m w y) (jJ hs)).den c:=by
  rw[e1,e2];exact KO (JI o6) (zt ok)
 have q2:w*x.den c+(gC hs).den c<=w*y.den c+(gC hs).den c:=JH q (JM h _)
 exact Nat.le_of_mul_le_mul_left (K9 q2) (JI o1)
noncomputable abbrev At:=Fin 51
namespace At
noncomputable def ctorIdx(a:At):Nat:=a.1
noncomputable def kind:At:=⟨0,JI rfl⟩
noncomputable def worth:At:=⟨1,JI rfl⟩
noncomputable def at_:At:=⟨2,JI rfl⟩
noncomputable def isInA:At:=⟨3,JI rfl⟩
noncomputable def tokens:At:=⟨4,JI rfl⟩
noncomputable def named:At:=⟨5,JI rfl⟩
noncomputable def reader:At:=⟨6,JI rfl⟩
noncomputable def isNamed:At:=⟨7,JI rfl⟩
noncomputable def depth:At:=⟨8,JI rfl⟩
noncomputable def last:At:=⟨9,JI rfl⟩
noncomputable def what:At:=⟨10,JI rfl⟩
noncomputable def peek:At:=⟨11,JI rfl⟩
noncomputable def isDone:At:=⟨12,JI rfl⟩
noncomputable def fault:At:=⟨13,JI rfl⟩
noncomputable def take:At:=⟨14,JI rfl⟩
noncomputable def isKind:At:=⟨15,JI rfl⟩
noncomputable def isWord:At:=⟨16,JI rfl⟩
noncomputable def skip:At:=⟨17,JI rfl⟩
noncomputable def need:At:=⟨18,JI rfl⟩
noncomputable def oneOf:At:=⟨19,JI rfl⟩
noncomputable def word:At:=⟨20,JI rfl⟩
noncomputable def isName:At:=⟨21,JI rfl⟩
noncomputable def name:At:=⟨22,JI rfl⟩
noncomputable def names:At:=⟨23,JI rfl⟩
noncomputable def isSign:At:=⟨24,JI rfl⟩
noncomputable def skipSign:At:=⟨25,JI rfl⟩
noncomputable def needSign:At:=⟨26,JI rfl⟩
noncomputable def isNumber:At:=⟨27,JI rfl⟩
noncomputable def signed:At:=⟨28,JI rfl⟩
noncomputable def whole:At:=⟨29,JI rfl⟩
noncomputable def literal:At:=⟨30,JI rfl⟩
noncomputable def octets:At:=⟨31,JI rfl⟩
noncomputable def either:At:=⟨32,JI rfl⟩
noncomputable def both:At:=⟨33,JI rfl⟩
noncomputable def turned:At:=⟨34,JI rfl⟩
noncomputable def single:At:=⟨35,JI rfl⟩
noncomputable def unbracketed:At:=⟨36,JI rfl⟩
noncomputable def inBrackets:At:=⟨37,JI rfl⟩
noncomputable def subjectOfLast:At:=⟨38,JI rfl⟩
noncomputable def signOfLast:At:=⟨39,JI rfl⟩
noncomputable def predicate:At:=⟨40,JI rfl⟩
noncomputable def relation:At:=⟨41,JI rfl⟩
noncomputable def signHere:At:=⟨42,JI rfl⟩
noncomputable def join:At:=⟨43,JI rfl⟩
noncomputable def index:At:=⟨44,JI rfl⟩
noncomputable def replace:At:=⟨45,JI rfl⟩
noncomputable def split:At:=⟨46,JI rfl⟩
noncomputable def upper:At:=⟨47,JI rfl⟩
noncomputable def lower:At:=⟨48,JI rfl⟩
noncomputable def get:At:=⟨49,JI rfl⟩
noncomputable def told:At:=⟨50,JI rfl⟩
end At
inductive BI
 |len|abs|min|str|ord|chr|int|bytes|tuple|list|range|reversed
 deriving DecidableEq
inductive V
 |none
 |bool (b:Bool)
 |int (i:Int)
 |str (s:List Nat)
 |bytes (b:List Nat)
 |tup (l:List V)
 |lst (l:List V)
 |dS (l:List (List Nat×V))
 |dI (l:List (Int×V))
 |rng (lo hi:Int)
 |rev (l:List V)
 |ins (c:Nat) (l:List (At×V))
 |fn (i:Nat)
 |cls (i:Nat)
 |bi (b:BI)
 |lam (i:Nat) (caps:List V)
 |obj (i:Nat)
inductive aa
 |lst (l:List V)
 |ins (c:Nat) (l:List (At×V))
 |dead
inductive LV
 |unset
 |val (v:V)
 |own (l:List V)
structure St where
 loc:List LV
 mu:List aa
noncomputable def St.put(st:St)(i:Nat)(x:LV):St:=match st with
 |⟨l,mu⟩=>⟨l.set i x,mu⟩
inductive Op2|add|sub|mul|fdiv|mod|pow
 deriving DecidableEq
inductive Cm|eq|ne|lt|le|gt|ge|is|isNot|isIn|notIn
 deriving DecidableEq
inductive ME
 |c (v:V)
 |x (i:Nat)
 |lenX (i:Nat)
 |tupX (i:Nat)
 |tup (l:List ME)
 |lst (l:List ME)
 |dct (ks:List V) (l:List V)
 |bin (o:Op2) (a b:ME)
 |neg (a:ME)
 |not (a:ME)
 |and (l:List ME)
 |or (l:List ME)
 |cmp (o:Cm) (a b:ME)
 |ite (c a b:ME)
 |call (f:ME) (l:List ME)
 |mcall (o:ME) (m:At) (l:List ME)
 |attr (o:ME) (a:At)
 |idx (a b:ME)
 |slc (a:ME) (lo hi:Option ME)
 |comp (e:ME) (x:Nat) (it:ME) (ifs:List ME)
 |lam (i:Nat) (caps:List Nat)
 |jrev (s:List Nat) (e:ME)
 |repl (e:ME) (c:Nat) (b:List Nat)
noncomputable abbrev ME.cf(n:Nat)(l:List ME):ME:=.call (.c (.fn n)) l
noncomputable abbrev ME.cs(s:List Nat):ME:=.c (.str s)
noncomputable abbrev ME.ci(i:Int):ME:=.c (.int i)
noncomputable abbrev ME.m0(m:At)(l:List ME):ME:=.mcall (.x 0) m l
inductive MS
 |asg (i:Nat) (e:ME)
 |asgC (i:Nat) (e:ME)
 |own (i:Nat) (l:List ME)
 |app (i:Nat) (e:ME)
 |ext (i:Nat) (e:ME)
 |asgT (is:List Nat) (l:List ME)
 |asgA (o:ME) (a:At) (e:ME)
 |asgI (o i e:ME)
 |expr (e:ME)
 |ret (e:ME)
 |retL (l:List ME)
 |raise (e:ME)
 |ite (c:ME) (a b:List MS)
 |whl (c:ME) (b:List MS)
 |for1 (i:Nat) (it:ME) (b:List MS)
 |for2 (i j:Nat) (it:ME) (b:List MS)
 |tryE (b:List MS) (c:Nat) (h:List MS)
 |tryN (b:List MS)
inductive Fl
 |next
 |ret (v:V)
noncomputable def lim:Nat:=1000000
noncomputable abbrev Call:=V->List V->List aa->(V->List aa->Prop)->(Nat->List aa->Prop)->Prop
inductive Pg
 |hold (p:Prop)
 |ask (p:Prop) [d:Decidable p] (t:Pg)
 |same (a b:List LV) (t:Pg)
 |test (b:Bool) (k:Bool->Pg)
 |look (mu:List aa) (j:Nat) (k:aa->Pg)
 |call (f:V) (l:List V) (mu:List aa) (k:V->List aa->Pg) (h:Nat->List aa->Pg)
 |loop (f:Nat->Pg)
 |no
noncomputable abbrev KV:=V->St->Pg
noncomputable abbrev KE:=Nat->St->Pg
noncomputable abbrev KF:=Fl->St->Pg
noncomputable def wp(U:Call):Pg->Prop
 | .hold p=>p
 |@Pg.ask p _ t=>p/\wp U t
 | .same a b t=>a=b/\wp U t
 | .test b k=>wp U (k b)
 | .look mu j k=>∃o,mu[j]? =some o/\wp U (k o)
 | .call f l mu k h=>U f l mu (fun v mu=>wp U (k v mu)) (fun c mu=>wp U (h c mu))
 | .loop f=>∃n,wp U (f n)
 | .no=>False
noncomputable def els{α:Type}(o:Option α)(k:α->Pg)(e:Pg):Pg:=match o with
 |some a=>k a
 |Option.none=>e
noncomputable def opt{α:Type}(o:Option α)(k:α->Pg):Pg:=els o k .no
noncomputable def gate(b:Bool)(t:Pg):Pg:=cond b t .no
noncomputable def asInt(v:V):Option (Int):=if h:v.ctorIdx=2 then some (V.int.elim (motive_1:=fun _=>Int) v h id)else Option.none
noncomputable def asStr(v:V):Option (List Nat):=if h:v.ctorIdx=3 then some (V.str.elim (motive_1:=fun _=>List Nat) v h id)else Option.none
noncomputable def asTup(v:V):Option (List V):=if h:v.ctorIdx=5 then some (V.tup.elim (motive_1:=fun _=>List V) v h id)else Option.none
noncomputable def asLst(v:V):Option (List V):=if h:v.ctorIdx=6 then some (V.lst.elim (motive_1:=fun _=>List V) v h id)else Option.none
noncomputable def asDS(v:V):Option (List (List Nat×V)):=if h:v.ctorIdx=7 then some (V.dS.elim (motive_1:=fun _=>List (List Nat×V)) v h id)else Option.none
noncomputable def asDI(v:V):Option (List (Int×V)):=if h:v.ctorIdx=8 then some (V.dI.elim (motive_1:=fun _=>List (Int×V)) v h id)else Option.none
noncomputable def asObj(v:V):Option (Nat):=if h:v.ctorIdx=16 then some (V.obj.elim (motive_1:=fun _=>Nat) v h id)else Option.none
noncomputable def asIns(v:V):Option (Nat×List (At×V)):=if h:v.ctorIdx=11 then some (V.ins.elim (motive_1:=fun _=>Nat×List (At×V)) v h Prod.mk)else Option.none
noncomputable def Dq(v:V):Option (BI):=if h:v.ctorIdx=14 then some (V.bi.elim (motive_1:=fun _=>BI) v h id)else Option.none
noncomputable def sW:aa->Option (Nat×List (At×V))| .ins c l=>some (c,l)|_=>Option.none
noncomputable def Cr:aa->Option (List V)| .lst l=>some l|_=>Option.none
noncomputable def one{α:Type}:List α->Option α|[a]=>some a|_=>Option.none
noncomputable def two{α:Type}:List α->Option (α×α)|[a,b]=>some (a,b)|_=>Option.none
noncomputable def asCh(v:V):Option Nat:=(asStr v).bind one
noncomputable def kI(i:Nat):List Nat->Bool
 |[]=>false
 |j::r=>cond (Nat.beq i j) true (kI i r)
noncomputable def DA(v:V)(k:Bool->Pg):Pg:=v.casesOn (k false) (fun b=>k b) (fun i=>.test (!decide (i=0)) k) (fun _=>.no) (fun _=>.no) (fun _=>.no) (fun l=>.ask (l.length<=lim) (.test (!l.isEmpty) k)) (fun _=>.no) (fun _=>.no) (fun _ _=>.no) (fun _=>.no) (fun _ _=>.no) (fun _=>.no) (fun _=>.no) (fun _=>.no) (fun _ _=>.no) (fun _=>.no)
abbrev small(i:Int):Prop:= -(2^63) < i/\i < 2^63
noncomputable def F0(a b:V)(k:V->Pg):Pg:=
 els (asInt a) (fun x=>opt (asInt b) fun y=>k (.int (x+y)))<|
 els (asStr a) (fun x=>opt (asStr b) fun y=>.ask (x.length+y.length<=lim) (k (.str (x++y))))<|
 opt (asLst a) fun x=>opt (asLst b) fun y=>.ask (x.length+y.length<=lim) (k (.lst (x++y)))
noncomputable def ET(a b:V)(k:V->Pg):Pg:=
 opt (asInt b) fun y=>els (asInt a) (fun x=>.ask (small x/\small y) (k (.int (x*y))))<|
 opt (asStr a) fun x=>.ask (small y/\x.length*y.toNat<=lim) (k (.str (List.replicate y.toNat x).flatten))
noncomputable def zZ(a b:V)(k:Int->Int->Pg):Pg:=opt (asInt a) fun x=>opt (asInt b) fun y=>k x y
noncomputable def bin(o:Op2)(a b:V)(k:V->Pg):Pg:=match o with
 | .add=>F0 a b k
 | .sub=>zZ a b fun x y=>k (.int (x - y))
 | .mul=>ET a b k
 | .fdiv=>zZ a b fun x y=>.ask (0 < y/\small y) (k (.int (x / y)))
 | .mod=>zZ a b fun x y=>.ask (0 < y) (k (.int (x % y)))
 | .pow=>zZ a b fun x y=>.ask (small x/\0<=y/\y<=1000) (k (.int (x^y.toNat)))
mutual
noncomputable def plain:V->Bool
 | .none| .bool _| .int _| .str _| .bytes _=>true
 | .tup l=>eR l
 |_=>false
noncomputable def eR:List V->Bool
 |[]=>true
 |v::r=>plain v&&eR r
end
mutual
noncomputable def AN:V->Nat
 | .tup l=>j2 l+1
 |_=>0
noncomputable def j2:List V->Nat
 |[]=>0
 |v::r=>max (AN v) (j2 r)
end
noncomputable def subAt(p:List Nat):List Nat->Bool
 |[]=>p.isEmpty
 |c::s=>p.isPrefixOf (c::s)||subAt p s
noncomputable def lL{α:Type}(f:V->Option α):List V->Option (List α)
 |[]=>some []
 |v::r=>(f v).bind fun a=>(lL f r).map (a::·)
noncomputable abbrev cz:List V->Option (List (List Nat)):=lL asStr
noncomputable abbrev mN:List V->Option (List Int):=lL asInt
noncomputable def lh{κ:Type}(t:κ->κ->Bool)(k:κ):List (κ×V)->Option V
 |[]=>Option.none
 |(a,v)::r=>cond (t a k) (some v) (lh t k r)
noncomputable abbrev bC:List Nat->List (List Nat×V)->Option V:=lh fun a b=>a==b
noncomputable abbrev EY:Int->List (Int×V)->Option V:=lh fun a b=>decide (a=b)
noncomputable abbrev rk:At->List (At×V)->Option V:=lh fun a b=>decide (a=b)
noncomputable def kG(k:At)(x:V):List (At×V)->List (At×V)
 |[]=>[(k,x)]
 |(a,v)::r=>if decide (a=k)then(a,x)::r else(a,v)::kG k x r
noncomputable def isNone(v:V):Option Bool:=cond (Nat.beq v.ctorIdx 0) (some true) (cond (kI v.ctorIdx [2,3,4,5,6,11,12,15,16]) (some false) Option.none)
noncomputable def HF(a b:V)(k:Bool->Pg):Pg:=opt (asStr a) fun s=>
 els (asTup b) (fun l=>opt (cz l) fun ss=>.test (ss.any (·==s)) k)<|
 els (asStr b) (fun t=>.test (subAt s t) k)<|opt (asDS b) fun l=>.test (bC s l).isSome k
open scoped Classical in
noncomputable def HW(a b:V)(k:Bool->Pg):Pg:=
 els (asInt a) (fun x=>opt (asInt b) fun y=>.test (decide (x=y)) k)<|
 els (asStr a) (fun x=>opt (asStr b) fun y=>.test (x==y) k)<|
 els (asLst a) (fun x=>opt (asLst b) fun y=>gate y.isEmpty (.test x.isEmpty k))<|
 opt (asTup a) fun x=>opt (asTup b) fun y=>cond y.isEmpty (.test x.isEmpty k) (.ask (x=y/\eR x=true/\j2 x<=100) (k true))
noncomputable def isV(a b:V)(k:Bool->Pg):Pg:=opt (isNone b) fun t=>gate t (opt (isNone a) k)
noncomputable def u0(f:Int->Int->Bool)(a b:V)(k:Bool->Pg):Pg:=zZ a b fun x y=>.test (f x y) k
noncomputable def Fx(o:Cm)(a b:V)(k:Bool->Pg):Pg:=match o with
 | .eq=>HW a b k
 | .ne=>HW a b fun r=>k (!r)
 | .lt=>u0 (fun x y=>decide (x < y)) a b k
 | .le=>u0 (fun x y=>decide (x<=y)) a b k
 | .gt=>u0 (fun x y=>decide (y < x)) a b k
 | .ge=>u0 (fun x y=>decide (y<=x)) a b k
 | .is=>isV a b k
 | .isNot=>isV a b fun r=>k (!r)
 | .isIn=>HF a b k
 | .notIn=>HF a b fun r=>k (!r)
noncomputable def eE(n:Nat):Int->Option Nat
 | .ofNat k=>cond (Nat.blt k n) (cond (Nat.ble k lim) (some k) Option.none) Option.none
 | .negSucc k=>cond (Nat.ble (k+1) n) (cond (Nat.ble (k+1) lim) (some (n - (k+1))) Option.none) Option.none
noncomputable def Ct(l:List V)(i:Int)(k:V->Pg):Pg:=opt ((eE l.length i).bind (l[·]?)) k
noncomputable def Fa(st:St)(a b:V)(k:V->Pg):Pg:=
 els (asInt b) (fun i=>
  els (asTup a) (fun l=>Ct l i k)<|
  els (asLst a) (fun l=>Ct l i k)<|
  els (asStr a) (fun s=>opt ((eE s.length i).bind (s[·]?)) fun c=>k (.str [c]))<|
  els (asDI a) (fun l=>opt (EY i l) k)<|
  opt (asObj a) fun j=>.look st.mu j fun o=>opt (Cr o) fun l=>Ct l i k)<|
 opt (asStr b) fun s=>opt (asDS a) fun l=>opt (bC s l) k
noncomputable def cB(n:Nat)(i:Int):Nat:=(max 0 (min (if i < 0 then i+n else i) n)).toNat
noncomputable def cut{α:Type}(l:List α)(lo hi:Option Int):List α:=
 let a:=(lo.map (cB l.length)).getD 0
 let b:=(hi.map (cB l.length)).getD l.length
 (l.drop a).take (b - a)
noncomputable def bound:Option V->Option (Option Int)
 |Option.none=>some Option.none
 |some v=>(asInt v).map some
noncomputable def Ec(a:V)(lo hi:Option V)(k:V->Pg):Pg:=opt (bound lo) fun x=>opt (bound hi) fun y=>
 els (asTup a) (fun l=>.ask (l.length<=lim) (k (.tup (cut l x y))))<|
 els (asLst a) (fun l=>.ask (l.length<=lim) (k (.lst (cut l x y))))<|
 opt (asStr a) fun s=>.ask (s.length<=lim) (k (.str (cut s x y)))
noncomputable def ak(c:Nat):List Nat->List (List Nat)
 |[]=>[[]]
 |x::r=>if x==c then[]::ak c r else match ak c r with
  |[]=>[[x]]
  |w::ws=>(x::w)::ws
noncomputable def aK(sep:List Nat):List (List Nat)->List Nat
 |[]=>[]
 |[x]=>x
 |x::y::r=>x++sep++aK sep (y::r)
noncomputable def aW(sep:List Nat)(l:List (List Nat)):Nat:=(l.map List.length).sum+l.length*sep.length
noncomputable def aQ(c:Nat)(b:List Nat)(s:List Nat):List Nat:=s.flatMap fun x=>if x==c then b else[x]
noncomputable def vO(c:Nat):List Nat->Option Nat
 |[]=>Option.none
 |x::r=>if x==c then some 0 else(vO c r).map (·+1)
noncomputable def upC(c:Nat):Nat:=if 97<=c/\c<=122 then c - 32 else c
noncomputable def loC(c:Nat):Nat:=if 65<=c/\c<=90 then c+32 else c
noncomputable def iK(s:List Nat):Bool:=s.all (· < 128)
noncomputable def onAt(a b:At)(x y:Pg):Pg:=cond (Nat.beq a.ctorIdx b.ctorIdx) x y
noncomputable def Hg(m:At)(s:List Nat)(l:List V)(k:V->Pg):Pg:=
 onAt m .join (opt (one l) fun a=>opt (asLst a) fun l=>opt (cz l) fun ss=>.ask (aW s ss<=lim) (k (.str (aK s ss))))<|
 onAt m .index (opt (one l) fun a=>opt (asCh a) fun c=>opt (vO c s) fun i=>k (.int i))<|
 onAt m .split (opt (one l) fun a=>opt (asCh a) fun c=>.ask (s.length<=lim) (k (.lst ((ak c s).map .str))))<|
 gate l.isEmpty<|
 onAt m .upper (.ask (s.length<=lim/\iK s=true) (k (.str (s.map upC))))<|
 onAt m .lower (.ask (s.length<=lim/\iK s=true) (k (.str (s.map loC)))) .no
noncomputable def jf(i:Int):List Nat:=(toString i).toList.map Char.toNat
noncomputable def AX(v:V):Option Nat:=(asInt v).bind fun i=>if 0<=i/\i < 256 then some i.toNat else Option.none
noncomputable abbrev EL:List V->Option (List Nat):=lL AX
noncomputable def CT(a:V)(k:V->Pg):Pg:=
 els (asStr a) (fun s=>.ask (s.length<=lim) (k (.int s.length)))<|
 els (asTup a) (fun s=>.ask (s.length<=lim) (k (.int s.length)))<|
 opt (asLst a) fun s=>.ask (s.length<=lim) (k (.int s.length))
noncomputable def Bi(a:V)(k:V->Pg):Pg:=els (asLst a) (fun l=>.ask (l.length<=lim) (k (.tup l)))<|opt (asTup a) fun l=>k (.tup l)
noncomputable def AR(b:BI)(l:List V)(k:V->Pg):Pg:=match b with
 | .len=>opt (one l) fun a=>CT a k
 | .abs=>opt (one l) fun a=>opt (asInt a) fun i=>k (.int i.natAbs)
 | .min=>opt (two l) fun p=>zZ p.1 p.2 fun a b=>k (.int (if b < a then b else a))
 | .str=>opt (one l) fun a=>opt (asInt a) fun i=>.ask (small i) (k (.str (jf i)))
 | .ord=>opt (one l) fun a=>opt (asCh a) fun c=>k (.int c)
 | .chr=>opt (one l) fun a=>opt (asInt a) fun i=>.ask (0<=i/\i < 256) (k (.str [i.toNat]))
 | .int=>opt (one l) fun a=>opt (asInt a) fun i=>k (.int i)
 | .bytes=>opt (one l) fun a=>opt (asLst a) fun l=>opt (EL l) fun o=>.ask (l.length<=lim) (k (.bytes o))
 | .tuple=>opt (one l) fun a=>Bi a k
 | .list=>opt (one l) fun a=>opt (asTup a) fun l=>.ask (l.length<=lim) (k (.lst l))
 | .range=>els (one l) (fun a=>opt (asInt a) fun n=>.ask (small n) (k (.rng 0 n)))<|opt (two l) fun p=>zZ p.1 p.2 fun m n=>.ask (small m/\small n) (k (.rng m n))
 | .reversed=>.no
mutual
noncomputable def bel(n:Nat):V->Bool
 | .none| .bool _| .int _| .str _| .bytes _| .rng _ _| .fn _| .cls _| .bi _=>true
 | .tup l| .lst l| .rev l| .lam _ l=>bels n l
 | .obj i=>decide (i < n)
 | .dS l=>Dj n l
 | .dI l=>Dk n l
 | .ins _ l=>w4 n l
noncomputable def bels(n:Nat):List V->Bool
 |[]=>true
 |v::r=>bel n v&&bels n r
noncomputable def Dj(n:Nat):List (List Nat×V)->Bool
 |[]=>true
 |(_,v)::r=>bel n v&&Dj n r
noncomputable def Dk(n:Nat):List (Int×V)->Bool
 |[]=>true
 |(_,v)::r=>bel n v&&Dk n r
noncomputable def w4(n:Nat):List (At×V)->Bool
 |[]=>true
 |(_,v)::r=>bel n v&&w4 n r
end
noncomputable def belM(n:Nat):aa->Bool
 | .lst l=>bels n l
 | .ins _ l=>w4 n l
 | .dead=>true
noncomputable def items(v:V):Option (List V):=v.casesOn Option.none (fun _=>Option.none) (fun _=>Option.none) (fun s=>if iK s then some (s.map fun c=>.str [c])else Option.none) (fun s=>some (s.map fun c=>.int (Int.ofNat c))) some some (fun _=>Option.none) (fun _=>Option.none) (fun a b=>if -1000000<=a/\a<=1000000/\ -1000000<=b/\b<=1000000 then some ((List.range (b - a).toNat).map fun(i:Nat)=>V.int (a+(i:Int)))else Option.none) (fun _=>Option.none) (fun _ _=>Option.none) (fun _=>Option.none) (fun _=>Option.none) (fun _=>Option.none) (fun _ _=>Option.none) (fun _=>Option.none)
noncomputable def Ar(a:At):Option Nat:=cond (Nat.ble 32 a.1) ([44,45,46,47,48,49,50,51,52,53,54][a.1 - 32]?) Option.none
noncomputable def Aq(a:At):Option Nat:=cond (Nat.ble 11 a.1) ([70,71,72,73,74,75,76,77,78,79,80,81,82,83,84,85,86,87,88,89,90][a.1 - 11]?) Option.none
noncomputable def meth(c:Nat)(a:At):Option Nat:=cond (Nat.beq c 5) (Aq a) (cond (Nat.beq c 4) (Ar a) Option.none)
noncomputable def Fv(c:Nat):List Nat:=cond (Nat.beq c 3) [0,1,2,3] (cond (Nat.beq c 4) [6,7,8,9] (cond (Nat.beq c 5) [4,2,5] []))
noncomputable def cQ(c:Nat)(a:At):Bool:=kI a.ctorIdx (Fv c)
inductive Kn
 |v (k:V->St->Pg)
 |b (k:Bool->St->Pg)
noncomputable def Kn.app(K:Kn)(x:V)(st:St):Pg:=match K with
 | .v k=>k x st
 | .b k=>DA x fun t=>k t st
noncomputable def Kn.own(K:Kn)(l:List V)(i:Nat)(st:St):Pg:=match K with
 | .v k=>k (.lst l) (st.put i (.val (.lst l)))
 | .b k=>.ask (l.length<=lim) (.test (!l.isEmpty) fun t=>k t st)
noncomputable def EX{T:Type}(d u:T)(f:V->T)(g:List V->T)(o:Option LV):T:=o.elim d fun lv=>lv.casesOn u f g
noncomputable def mL(o:Option LV)(f:V->Pg)(g:List V->Pg):Pg:=EX .no .no f g o
noncomputable def tst(K:Kn)(t:Bool)(st:St):Pg:=match K with
 | .v k=>k (.bool t) st
 | .b k=>k t st
noncomputable def wR(v:V):Bool:=kI v.ctorIdx [12,13,15]
noncomputable def rP(f:V)(l:List V)(k:V->St->Pg)(ke:KE)(st:St):Pg:=
 els (Dq f) (fun b=>AR b l fun v=>k v st)<|
 gate (wR f) (.call f l st.mu (fun v mu=>k v ⟨st.loc,mu⟩) (fun c mu=>ke c ⟨st.loc,mu⟩))
noncomputable def wQ(o:aa)(m:At)(j:Nat)(k:V->List V->Pg):Pg:=opt (sW o) fun p=>
 els (rk m p.2) (fun f=>gate (cQ p.1 m) (k f []))<|opt (meth p.1 m) fun i=>k (.fn i) [.obj j]
noncomputable def bm(v:V)(m:At):Bool:=cond (asStr v).isSome (kI m.ctorIdx [At.join.ctorIdx,At.index.ctorIdx,At.split.ctorIdx,At.upper.ctorIdx,At.lower.ctorIdx]) ((asDS v).isSome&&Nat.beq m.ctorIdx At.get.ctorIdx)
noncomputable def AQ(o:V)(m:At)(l:List V)(k:V->Pg):Pg:=
 els (asStr o) (fun s=>Hg m s l k)<|
 opt (asDS o) fun es=>onAt m .get (opt (two l) fun p=>opt (asStr p.1) fun s=>k ((bC s es).getD p.2)) .no
noncomputable def xi(c:Nat)(fs:List (At×V))(a:At)(k:V->Pg):Pg:=gate (cQ c a) (opt (rk a fs) k)
noncomputable def xh(o:V)(a:At)(st:St)(k:V->Pg):Pg:=
 els (asObj o) (fun j=>.look st.mu j fun ob=>opt (sW ob) fun p=>xi p.1 p.2 a k)<|
 opt (asIns o) fun p=>xi p.1 p.2 a k
noncomputable def fT(f:V->KF->St->Pg):List V->KF->St->Pg
 |[],k,st=>k .next st
 |v::r,k,st=>f v (fun fl st'=>match fl with| .next=>fT f r k st'| .ret x=>k (.ret x) st') st
noncomputable def bF(f:V->(Option V->St->Pg)->St->Pg):List V->List V->(V->St->Pg)->St->Pg
 |[],acc,k,st=>k (.lst acc) st
 |v::r,acc,k,st=>f v (fun x st'=>match x with|some x=>bF f r (acc++[x]) k st'|Option.none=>bF f r acc k st') st
noncomputable def qL(f:(St->Pg)->St->Pg):Nat->St->Pg
 |0,_=>.no
 |n+1,st=>f (qL f n) st
noncomputable def fQ:KE:=fun _ _=>.no
noncomputable def ql(loc:List LV):List Nat->Option (List V)
 |[]=>some []
 |j::r=>EX Option.none Option.none (fun v=>(ql loc r).map (v::·)) (fun _=>Option.none) loc[j]?
open scoped Classical in
mutual
noncomputable def ev:ME->Kn->KE->St->Pg
 | .c v,K,_,st=>K.app v st
 | .x i,K,_,st=>mL st.loc[i]? (fun v=>K.app v st) fun l=>K.own l i st
 | .lenX i,K,_,st=>mL st.loc[i]? (fun v=>CT v fun v=>K.app v st) fun l=>.ask (l.length<=lim) (K.app (.int l.length) st)
 | .tupX i,K,_,st=>mL st.loc[i]? (fun v=>Bi v fun v=>K.app v st) fun l=>.ask (l.length<=lim) (K.app (.tup l) st)
 | .tup l,K,ke,st=>tK l (fun vs st=>gate (Nat.ble vs.length 100) (K.app (.tup vs) st)) ke st
 | .lst l,K,ke,st=>tK l (fun vs st=>gate (Nat.ble vs.length 100) (K.app (.lst vs) st)) ke st
 | .dct ks l,K,_,st=>els (cz ks) (fun ss=>K.app (.dS (ss.zip l)) st)<|opt (mN ks) fun is=>K.app (.dI (is.zip l)) st
 | .bin o a b,K,ke,st=>ev a (.v fun x st=>ev b (.v fun y st=>bin o x y fun v=>K.app v st) ke st) ke st
 | .neg a,K,ke,st=>ev a (.v fun x st=>opt (asInt x) fun i=>K.app (.int (-i)) st) ke st
 | .not a,K,ke,st=>match K with
  | .v k=>ev a (.v fun x st=>DA x fun t=>k (.bool (!t)) st) ke st
  | .b k=>ev a (.b fun t st=>k (!t) st) ke st
 | .and l,K,ke,st=>match K with
  | .v k=>wi l k ke st
  | .b k=>kR l k ke st
 | .or l,K,ke,st=>match K with
  | .v k=>C8 l k ke st
  | .b k=>tW l k ke st
 | .cmp o a b,K,ke,st=>ev a (.v fun x st=>ev b (.v fun y st=>Fx o x y fun r=>tst K r st) ke st) ke st
 | .ite c a b,K,ke,st=>ev c (.b fun t st=>cond t (ev a K ke st) (ev b K ke st)) ke st
 | .call f l,K,ke,st=>ev f (.v fun fv st=>tK l (fun vs st=>rP fv vs K.app ke st) ke st) ke st
 | .mcall o m l,K,ke,st=>ev o (.v fun ov st=>
   els (asObj ov) (fun j=>.look st.mu j fun ob=>wQ ob m j fun f first=>tK l (fun vs st=>rP f (first++vs) K.app ke st) ke st)<|
   gate (bm ov m) (tK l (fun vs st=>AQ ov m vs fun v=>K.app v st) ke st)) ke st
 | .attr o a,K,ke,st=>ev o (.v fun ov st=>xh ov a st fun v=>K.app v st) ke st
 | .idx a b,K,ke,st=>ev a (.v fun x st=>ev b (.v fun y st=>Fa st x y fun v=>K.app v st) ke st) ke st
 | .slc a lo hi,K,ke,st=>ev a (.v fun x st=>HU lo (fun l st=>HU hi (fun h st=>Ec x l h fun v=>K.app v st) ke st) ke st) ke st
 | .comp e x it ifs,K,ke,st=>ev it (.v fun iv st=>opt (items iv) fun vs=>.ask (vs.length<=lim)<|
   bF (fun v k' st=>kR ifs (fun t st'=>cond t
     (ev e (.v fun r st''=>.same st''.loc (st.put x (.val v)).loc (k' (some r) st'')) fQ st')
     (.same st'.loc (st.put x (.val v)).loc (k' Option.none st'))) fQ (st.put x (.val v))) vs [] (fun v st'=>K.app v ⟨st.loc,st'.mu⟩) st) ke st
 | .lam i caps,K,_,st=>opt (ql st.loc caps) fun vs=>K.app (.lam i vs) st
 | .jrev s e,K,ke,st=>ev e (.v fun v st=>opt (asLst v) fun l=>opt (cz l) fun ss=>.ask (aW s ss<=lim/\ss.length<=lim) (K.app (.str (aK s ss.reverse)) st)) ke st
 | .repl e c b,K,ke,st=>ev e (.v fun v st=>opt (asStr v) fun s=>.ask (s.length+(s.length+1)*b.length<=lim/\[c]≠b) (K.app (.str (aQ c b s)) st)) ke st
noncomputable def tK:List ME->(List V->St->Pg)->KE->St->Pg
 |[],k,_,st=>k [] st
 |e::r,k,ke,st=>ev e (.v fun v st=>tK r (fun vs st=>k (v::vs) st) ke st) ke st
noncomputable def HU:Option ME->(Option V->St->Pg)->KE->St->Pg
 |Option.none,k,_,st=>k Option.none st
 |some e,k,ke,st=>ev e (.v fun v st=>k (some v) st) ke st
noncomputable def wi:List ME->(V->St->Pg)->KE->St->Pg
 |[],_,_,_=>.no
 |e::r,k,ke,st=>cond r.isEmpty (ev e (.v k) ke st) (ev e (.v fun v st=>DA v fun t=>cond t (wi r k ke st) (k v st)) ke st)
noncomputable def C8:List ME->(V->St->Pg)->KE->St->Pg
 |[],_,_,_=>.no
 |e::r,k,ke,st=>cond r.isEmpty (ev e (.v k) ke st) (ev e (.v fun v st=>DA v fun t=>cond t (k v st) (C8 r k ke st)) ke st)
noncomputable def kR:List ME->(Bool->St->Pg)->KE->St->Pg
 |[],k,_,st=>k true st
 |e::r,k,ke,st=>ev e (.b fun t st=>cond t (kR r k ke st) (k false st)) ke st
noncomputable def tW:List ME->(Bool->St->Pg)->KE->St->Pg
 |[],k,_,st=>k false st
 |e::r,k,ke,st=>ev e (.b fun t st=>cond t (k true st) (tW r k ke st)) ke st
end
noncomputable def Et:List Nat->List V->St->St
 |i::is,v::vs,st=>Et is vs (st.put i (.val v))
 |_,_,st=>st
noncomputable def kJ(a:KF)(b:St->Pg):KF:=fun fl st=>match fl with
 | .next=>b st
 | .ret v=>a (.ret v) st
noncomputable def gv(loc:List LV)(i:Nat):Option (List V):=EX Option.none Option.none (fun _=>Option.none) some loc[i]?
noncomputable def mM(loc:List LV)(i:Nat):Bool:=EX false true (fun _=>false) (fun _=>false) loc[i]?
mutual
noncomputable def ex:MS->KF->KE->St->Pg
 | .asg i e,k,ke,st=>ev e (.v fun v st=>k .next (st.put i (.val v))) ke st
 | .asgC i e,k,ke,st=>ev e (.v fun v st=>gate (mM st.loc i) (k .next (st.put i (.val v)))) ke st
 | .own i l,k,ke,st=>tK l (fun vs st=>gate (Nat.ble vs.length 100) (k .next (st.put i (.own vs)))) ke st
 | .app i e,k,ke,st=>opt (gv st.loc i) fun _=>ev e (.v fun v st=>opt (gv st.loc i) fun l=>.ask (l.length < lim) (k .next (st.put i (.own (l++[v]))))) ke st
 | .ext i e,k,ke,st=>opt (gv st.loc i) fun _=>ev e (.v fun v st=>opt (gv st.loc i) fun l=>opt (asLst v) fun r=>.ask (l.length+r.length<=lim) (k .next (st.put i (.own (l++r))))) ke st
 | .asgT is l,k,ke,st=>tK l (fun vs st=>k .next (Et is vs st)) ke st
 | .asgA o a e,k,ke,st=>ev e (.v fun v st=>ev o (.v fun ov st=>opt (asObj ov) fun j=>.look st.mu j fun ob=>opt (sW ob) fun p=>gate (cQ p.1 a) (gate (Nat.blt p.2.length 20) (k .next ⟨st.loc,st.mu.set j (.ins p.1 (kG a v p.2))⟩))) ke st) ke st
 | .asgI o i e,k,ke,st=>ev e (.v fun v st=>ev o (.v fun ov st=>ev i (.v fun iv st=>opt (asObj ov) fun j=>opt (asInt iv) fun n=>.look st.mu j fun ob=>opt (Cr ob) fun l=>opt (eE l.length n) fun p=>.ask (0<=n) (k .next ⟨st.loc,st.mu.set j (.lst (l.set p v))⟩)) ke st) ke st) ke st
 | .expr e,k,ke,st=>ev e (.v fun _ st=>k .next st) ke st
 | .ret e,k,ke,st=>ev e (.v fun v st=>k (.ret v) st) ke st
 | .retL l,k,ke,st=>tK l (fun vs st=>gate (Nat.ble vs.length 100) (k (.ret (.obj st.mu.length)) ⟨st.loc,st.mu++[.lst vs]⟩)) ke st
 | .raise e,_,ke,st=>ev e (.v fun v st=>opt (asObj v) fun j=>.look st.mu j fun ob=>opt (sW ob) fun p=>gate (Nat.blt p.1 3) (ke p.1 ⟨st.loc,st.mu.set j .dead⟩)) ke st
 | .ite c a b,k,ke,st=>ev c (.b fun t st=>cond t (aS a k ke st) (aS b k ke st)) ke st
 | .whl c b,k,_,st=>.loop fun n=>qL (fun again st=>ev c (.b fun t st=>cond t (aS b (kJ k again) fQ st) (k .next st)) fQ st) n st
 | .for1 i it b,k,ke,st=>ev it (.v fun iv st=>opt (items iv) fun vs=>fT (fun v k' st=>aS b k' fQ (st.put i (.val v))) vs k st) ke st
 | .for2 i j it b,k,ke,st=>ev it (.v fun iv st=>opt (items iv) fun vs=>fT (fun v k' st=>opt ((asTup v).bind two) fun p=>aS b k' fQ ((st.put i (.val p.1)).put j (.val p.2))) vs k st) ke st
 | .tryN b,k,_,st=>aS b k fQ st
 | .tryE b c h,k,_,st=>aS b k (fun d st=>cond (Nat.beq c d) (aS h k fQ st) .no) st
noncomputable def aS:List MS->KF->KE->St->Pg
 |[],k,_,st=>k .next st
 |s::r,k,ke,st=>ex s (kJ k fun st=>aS r k ke st) ke st
end
noncomputable def ax(kv:V->List aa->Prop):KF:=fun fl st=>match fl with| .next=>.hold (kv .none st.mu)| .ret v=>.hold (kv v st.mu)
noncomputable def aG(ke:Nat->List aa->Prop):KE:=fun c st=>.hold (ke c st.mu)
noncomputable def init(args:List V)(k:Nat)(mu:List aa):St:=⟨args.map .val++List.replicate k .unset,mu⟩
noncomputable def ie:V:=(.str [48,49,50,51,52,53,54,55,56,57])
noncomputable def dl:V:=(.int 7)
noncomputable def b6:V:=.dS [([90,69,82,79],(.str [90,69,82,79])),([90,69,82,79,83],(.str [90,69,82,79])),([90,69,82,79,69,83],(.str [90,69,82,79])),([83,80,65,67,69],(.str [83,80,65,67,69])),([83,80,65,67,69,83],(.str [83,80,65,67,69])),([72,73,71,72,45,86,65,76,85,69],(.str [72,73,71,72])),([72,73,71,72,45,86,65,76,85,69,83],(.str [72,73,71,72])),([76,79,87,45,86,65,76,85,69],(.str [76,79,87])),([76,79,87,45,86,65,76,85,69,83],(.str [76,79,87])),([81,85,79,84,69],(.str [81,85,79,84,69])),([81,85,79,84,69,83],(.str [81,85,79,84,69]))]
noncomputable def fh:V:=.dS [([90,69,82,79],(.str [90,69,82,79])),([83,80,65,67,69],(.str [83,80,65,67,69])),([72,73,71,72],(.str [72,73,71,72,45,86,65,76,85,69])),([76,79,87],(.str [76,79,87,45,86,65,76,85,69])),([81,85,79,84,69],(.str [81,85,79,84,69]))]
noncomputable def bU:V:=(.int 20)
noncomputable def jX:V:=(.int 3)
noncomputable def jY:V:=(.int 4)
noncomputable def p7:V:=(.int 5)
noncomputable def dL:V:=.dS [([43],(.int 1)),([45],(.int 1)),([42],(.int 2)),([47],(.int 2)),([42,42],(.int 4))]
noncomputable def bZ:V:=(.int 20)
noncomputable def iG:V:=.dS [([61],(.str [60,62])),([60,62],(.str [61])),([60],(.str [62,61])),([62,61],(.str [60])),([62],(.str [60,61])),([60,61],(.str [62]))]
noncomputable def fL:V:=(.tup [.str [78,85,77,69,82,73,67],.str [65,76,80,72,65,66,69,84,73,67],.str [65,76,80,72,65,66,69,84,73,67,45,76,79,87,69,82],.str [65,76,80,72,65,66,69,84,73,67,45,85,80,80,69,82]])
noncomputable def bp:V:=.dS [([80,79,83,73,84,73,86,69],(.str [80,79,83,73,84,73,86,69])),([78,69,71,65,84,73,86,69],(.str [78,69,71,65,84,73,86,69])),([90,69,82,79],(.str [90,69,82,79])),([90,69,82,79,83],(.str [90,69,82,79])),([90,69,82,79,69,83],(.str [90,69,82,79]))]
noncomputable def be:V:=.dS [([71,82,69,65,84,69,82],(.str [62])),([76,69,83,83],(.str [60])),([69,81,85,65,76],(.str [61]))]
noncomputable def iE:V:=(.tup [.str [61],.str [60],.str [62],.str [60,61],.str [62,61]])
noncomputable def gI:V:=(.int 255)
noncomputable def dk:List Nat:=[32,65,67,67,69,80,84,32,65,67,67,69,83,83,32,65,68,68,32,65,68,86,65,78,67,73,78,71,32,65,70,84,69,82,32,65,76,76,32,65,76,80,72,65,66,69,84,73,67,32,65,76,80,72,65,66,69,84,73,67,45,76,79,87,69,82,32,65,76,80,72,65,66,69,84,73,67,45,85,80,80,69,82,32,65,76,80,72,65,78,85,77,69,82,73,67,32,65,76,80,72,65,78,85,77,69,82,73,67,45,69,68,73,84,69,68,32,65,76,83,79,32,65,76,84,69,82,78,65,84,69,32,65,78,68,32,65,78,89,32,65,82,69,32,65,82,69,65,32,65,82,69,65,83,32,65,83,67,69,78,68,73,78,71,32,65,83,83,73,71,78,32,65,84,32,65,85,84,72,79,82,32,66,69,70,79,82,69,32,66,73,78,65,82,89,32,66,76,65,78,75,32,66,76,79,67,75,32,66,89,32,67,65,76,76,32,67,72,65,82,65,67,84,69,82,32,67,72,65,82,65,67,84,69,82,83,32,67,76,79,83,69,32,67,79,77,80,32,67,79,77,80,45,51,32,67,79,77,80,85,84,65,84,73,79,78,65,76,32,67,79,77,80,85,84,65,84,73,79,78,65,76,45,51,32,67,79,77,80,85,84,69,32,67,79,78,70,73,71,85,82,65,84,73,79,78,32,67,79,78,84,65,73,78,83,32,67,79,78,84,69,78,84,32,67,79,78,84,73,78,85,69,32,67,79,78,86,69,82,84,73,78,71,32,67,79,80,89,32,67,79,82,82,32,67,79,82,82,69,83,80,79,78,68,73,78,71,32,67,79,85,78,84,32,68,65,84,65,32,68,65,84,69,45,67,79,77,80,73,76,69,68,32,68,65,84,69,45,87,82,73,84,84,69,78,32,68,69,76,69,84,69,32,68,69,76,73,77,73,84,69,68,32,68,69,76,73,77,73,84,69,82,32,68,69,80,69,78,68,73,78,71,32,68,69,83,67,69,78,68,73,78,71,32,68,73,83,80,76,65,89,32,68,73,86,73,68,69,32,68,73,86,73,83,73,79,78,32,68,79,87,78,32,68,85,80,76,73,67,65,84,69,83,32,68,89,78,65,77,73,67,32,69,76,83,69,32,69,78,68,32,69,78,68,45,65,68,68,32,69,78,68,45,67,65,76,76,32,69,78,68,45,67,79,77,80,85,84,69,32,69,78,68,45,68,69,76,69,84,69,32,69,78,68,45,68,73,86,73,68,69,32,69,78,68,45,69,86,65,76,85,65,84,69,32,69,78,68,45,73,70,32,69,78,68,45,77,85,76,84,73,80,76,89,32,69,78,68,45,80,69,82,70,79,82,77,32,69,78,68,45,82,69,65,68,32,69,78,68,45,82,69,84,85,82,78,32,69,78,68,45,82,69,87,82,73,84,69,32,69,78,68,45,83,69,65,82,67,72,32,69,78,68,45,83,84,65,82,84,32,69,78,68,45,83,84,82,73,78,71,32,69,78,68,45,83,85,66,84,82,65,67,84,32,69,78,68,45,85,78,83,84,82,73,78,71,32,69,78,68,45,87,82,73,84,69,32,69,78,86,73,82,79,78,77,69,78,84,32,69,81,85,65,76,32,69,82,82,79,82,32,69,86,65,76,85,65,84,69,32,69,88,67,69,80,84,73,79,78,32,69,88,73,84,32,69,88,84,69,78,68,32,69,88,84,69,82,78,65,76,32,70,65,76,83,69,32,70,68,32,70,73,76,69,32,70,73,76,69,45,67,79,78,84,82,79,76,32,70,73,76,76,69,82,32,70,73,82,83,84,32,70,79,82,32,70,82,79,77,32,71,73,86,73,78,71,32,71,76,79,66,65,76,32,71,79,32,71,82,69,65,84,69,82,32,72,73,71,72,45,86,65,76,85,69,32,72,73,71,72,45,86,65,76,85,69,83,32,73,45,79,32,73,45,79,45,67,79,78,84,82,79,76,32,73,68,69,78,84,73,70,73,67,65,84,73,79,78,32,73,70,32,73,78,32,73,78,68,69,88,32,73,78,68,69,88,69,68,32,73,78,73,84,73,65,76,32,73,78,73,84,73,65,76,73,90,69,32,73,78,80,85,84,32,73,78,80,85,84,45,79,85,84,80,85,84,32,73,78,83,80,69,67,84,32,73,78,83,84,65,76,76,65,84,73,79,78,32,73,78,84,79,32,73,78,86,65,76,73,68,32,73,83,32,74,85,83,84,32,74,85,83,84,73,70,73,69,68,32,75,69,89,32,76,65,66,69,76,32,76,69,65,68,73,78,71,32,76,69,70,84,32,76,69,83,83,32,76,73,78,69,32,76,73,78,69,83,32,76,73,78,75,65,71,69,32,76,79,67,75,32,76,79,87,45,86,65,76,85,69,32,76,79,87,45,86,65,76,85,69,83,32,77,69,82,71,69,32,77,79,68,69,32,77,79,86,69,32,77,85,76,84,73,80,76,89,32,78,65,84,73,86,69,32,78,69,71,65,84,73,86,69,32,78,69,88,84,32,78,79,32,78,79,84,32,78,85,77,69,82,73,67,32,78,85,77,69,82,73,67,45,69,68,73,84,69,68,32,79,66,74,69,67,84,45,67,79,77,80,85,84,69,82,32,79,67,67,85,82,83,32,79,70,32,79,70,70,32,79,77,73,84,84,69,68,32,79,78,32,79,80,69,78,32,79,80,84,73,79,78,65,76,32,79,82,32,79,82,68,69,82,32,79,82,71,65,78,73,90,65,84,73,79,78,32,79,84,72,69,82,32,79,85,84,80,85,84,32,79,86,69,82,70,76,79,87,32,80,65,67,75,69,68,45,68,69,67,73,77,65,76,32,80,69,82,70,79,82,77,32,80,73,67,32,80,73,67,84,85,82,69,32,80,79,73,78,84,69,82,32,80,79,83,73,84,73,86,69,32,80,82,79,67,69,68,85,82,69,32,80,82,79,67,69,69,68,32,80,82,79,71,82,65,77,32,80,82,79,71,82,65,77,45,73,68,32,81,85,79,84,69,32,81,85,79,84,69,83,32,82,65,78,68,79,77,32,82,69,65,68,32,82,69,67,79,82,68,32,82,69,67,79,82,68,83,32,82,69,68,69,70,73,78,69,83,32,82,69,70,69,82,69,78,67,69,32,82,69,76,65,84,73,86,69,32,82,69,76,69,65,83,69,32,82,69,77,65,73,78,68,69,82,32,82,69,78,65,77,69,83,32,82,69,80,76,65,67,69,32,82,69,80,76,65,67,73,78,71,32,82,69,84,85,82,78,32,82,69,87,82,73,84,69,32,82,73,71,72,84,32,82,79,85,78,68,69,68,32,82,85,78,32,83,65,77,69,32,83,68,32,83,69,65,82,67,72,32,83,69,67,84,73,79,78,32,83,69,67,85,82,73,84,89,32,83,69,76,69,67,84,32,83,69,78,84,69,78,67,69,32,83,69,80,65,82,65,84,69,32,83,69,81,85,69,78,84,73,65,76,32,83,69,84,32,83,73,71,78,32,83,73,90,69,32,83,79,82,84,32,83,79,82,84,45,77,69,82,71,69,32,83,79,85,82,67,69,45,67,79,77,80,85,84,69,82,32,83,80,65,67,69,32,83,80,65,67,69,83,32,83,80,69,67,73,65,76,45,78,65,77,69,83,32,83,84,65,78,68,65,82,68,32,83,84,65,82,84,32,83,84,65,84,85,83,32,83,84,79,80,32,83,84,82,73,78,71,32,83,85,66,84,82,65,67,84,32,83,89,78,67,32,83,89,78,67,72,82,79,78,73,90,69,68,32,84,65,76,76,89,73,78,71,32,84,69,83,84,32,84,72,65,78,32,84,72,69,78,32,84,72,82,79,85,71,72,32,84,72,82,85,32,84,73,77,69,83,32,84,79,32,84,82,65,73,76,73,78,71,32,84,82,85,69,32,85,78,83,84,82,73,78,71,32,85,78,84,73,76,32,85,80,32,85,80,79,78,32,85,83,65,71,69,32,85,83,73,78,71,32,86,65,76,85,69,32,86,65,76,85,69,83,32,86,65,82,89,73,78,71,32,87,72,69,78,32,87,73,84,72,32,87,79,82,75,73,78,71,45,83,84,79,82,65,71,69,32,87,82,73,84,69,32,90,69,82,79,32,90,69,82,79,69,83,32,90,69,82,79,83,32]
noncomputable def gf:V:=.str dk
noncomputable def b_3:List MS:=[.ite (.cmp .lt (.x 1) (.ci 0))
  [.ret (.tup [.bin .mul (.x 0) (.bin .pow (.ci 10) (.neg (.x 1))),.ci 0])]
  [],
  .whl (.and [.cmp .gt (.x 1) (.ci 0),.cmp .eq (.bin .mod (.x 0) (.ci 10)) (.ci 0)]) [.asg 0 (.bin .fdiv (.x 0) (.ci 10)),
  .asg 1 (.bin .sub (.x 1) (.ci 1))],
  .ret (.tup [.x 0,.x 1])]
noncomputable def b_4:List MS:=[.ret (.tup [.neg (.idx (.x 0) (.ci 0)),.idx (.x 0) (.ci 1)])]
noncomputable def b_6:List MS:=[.ret (.cmp .eq (.idx (.x 0) (.ci 1)) (.ci 0))]
noncomputable def b_8:List MS:=[.asg 1 (.ci 0),
  .for1 2 (.x 0) [.asg 1 (.bin .add (.bin .mul (.x 1) (.ci 10)) (.mcall (.c ie) .index [.x 2]))],
  .ret (.x 1)]
noncomputable def b_9:List MS:=[.asg 1 (.ite (.cmp .isIn (.slc (.x 0) Option.none (some (.ci 1))) (.tup [.cs [43],.cs [45]])) (.ci 1) (.ci 0)),
  .asgT [2,3] [.slc (.x 0) (some (.x 1)) Option.none,.cs []],
  .ite (.cmp .isIn (.cs [46]) (.x 2))
  [.asg 4 (.mcall (.x 2) .index [.cs [46]]),
  .asgT [2,3] [.slc (.x 2) Option.none (some (.x 4)),.slc (.x 2) (some (.bin .add (.x 4) (.ci 1))) Option.none],
  .ite (.cmp .eq (.x 3) (.cs []))
  [.raise (.call (.c (.cls 1)) [.cs [110,111,32,102,105,103,117,114,101,32,98,101,104,105,110,100,32,116,104,101,32,112,111,105,110,116],.tup [.ci 0,.lenX 0]])]
  []]
  [],
  .ite (.cmp .eq (.bin .add (.x 2) (.x 3)) (.cs []))
  [.raise (.call (.c (.cls 1)) [.cs [110,111,32,102,105,103,117,114,101],.tup [.ci 0,.x 1]])]
  [],
  .for1 5 (.call (.c (.bi .range)) [.x 1,.lenX 0]) [.ite (.and [.cmp .notIn (.idx (.x 0) (.x 5)) (.c ie),.cmp .ne (.x 5) (.bin .add (.x 1) (.lenX 2))])
  [.raise (.call (.c (.cls 1)) [.cs [110,111,32,102,105,103,117,114,101],.tup [.ci 0,.x 5]])]
  []],
  .asg 6 (.cf 8 [.bin .add (.x 2) (.x 3)]),
  .ret (.cf 3 [.ite (.cmp .eq (.slc (.x 0) Option.none (some (.ci 1))) (.cs [45])) (.neg (.x 6)) (.x 6),.lenX 3])]
noncomputable def Jm:List MS:=[.asg 1 (.call (.c (.bi .str)) [.call (.c (.bi .abs)) [.idx (.x 0) (.ci 0)]]),
  .ite (.cmp .gt (.idx (.x 0) (.ci 1)) (.ci 0))
  [.asg 1 (.bin .add (.bin .mul (.cs [48]) (.bin .sub (.bin .add (.idx (.x 0) (.ci 1)) (.ci 1)) (.lenX 1))) (.x 1)),
  .asg 1 (.bin .add (.bin .add (.slc (.x 1) Option.none (some (.bin .sub (.lenX 1) (.idx (.x 0) (.ci 1))))) (.cs [46])) (.slc (.x 1) (some (.bin .sub (.lenX 1) (.idx (.x 0) (.ci 1)))) Option.none))]
  [],
  .ret (.ite (.cmp .lt (.idx (.x 0) (.ci 0)) (.ci 0)) (.bin .add (.cs [45]) (.x 1)) (.x 1))]
noncomputable def Jl:List MS:=[.asgA (.x 0) .kind (.x 1),
  .asgA (.x 0) .worth (.x 2),
  .asgA (.x 0) .at_ (.x 3),
  .asgA (.x 0) .isInA (.x 4)]
noncomputable def Jk:List MS:=[.ret (.bin .add (.bin .add (.cs [34]) (.repl (.x 0) 34 [34,34])) (.cs [34]))]
noncomputable def qn:List MS:=[.asgT [1,2] [.ci 0,.ci 0],
  .whl (.or [.cmp .gt (.x 1) (.ci 0),.and [.cmp .eq (.x 2) (.ci 0),.m0 .isSign [.cs [40]]]]) [.ite (.cmp .is (.m0 .peek [.x 2]) (.c .none))
  [.ret (.c (.bool false))]
  [],
  .ite (.m0 .isSign [.cs [40],.x 2])
  [.asg 1 (.bin .add (.x 1) (.ci 1))]
  [.ite (.m0 .isSign [.cs [41],.x 2])
  [.asg 1 (.bin .sub (.x 1) (.ci 1))]
  [.ite (.and [.cmp .eq (.x 1) (.ci 1),.m0 .isSign [.cs [58],.x 2]])
  [.ret (.c (.bool true))]
  []]],
  .asg 2 (.bin .add (.x 2) (.ci 1))],
  .ret (.c (.bool false))]
noncomputable def FO:List MS:=[.expr (.m0 .needSign [.cs [40]]),
  .own 2 [.call (.x 1) [.x 0]],
  .whl (.not (.m0 .skipSign [.cs [41]])) [.ite (.cmp .ge (.lenX 2) (.c dl))
  [.raise (.m0 .fault [.cs [109,111,114,101,32,116,104,97,110,32,55,32,115,117,98,115,99,114,105,112,116,115]])]
  [],
  .app 2 (.call (.x 1) [.x 0])],
  .ret (.tupX 2)]
noncomputable def Jj:List MS:=[.expr (.m0 .needSign [.cs [40]]),
  .asg 2 (.call (.x 1) [.x 0]),
  .expr (.m0 .needSign [.cs [58]]),
  .asg 3 (.ite (.m0 .isSign [.cs [41]]) (.c .none) (.call (.x 1) [.x 0])),
  .expr (.m0 .needSign [.cs [41]]),
  .ret (.tup [.x 2,.x 3])]
noncomputable def xa:List MS:=[.asg 2 (.m0 .name []),
  .own 3 [],
  .whl (.cmp .ne (.m0 .oneOf [.cs [79,70,32,73,78]]) (.cs [])) [.app 3 (.m0 .name [])],
  .asg 4 (.tup []),
  .ite (.and [.m0 .isSign [.cs [40]],.not (.cf 14 [.x 0])])
  [.asg 4 (.cf 15 [.x 0,.x 1])]
  [],
  .asg 5 (.ite (.cf 14 [.x 0]) (.cf 16 [.x 0,.x 1]) (.c .none)),
  .ret (.tup [.cs [114,101,102],.x 2,.tupX 3,.x 4,.x 5])]
noncomputable def Ji:List MS:=[.ite (.m0 .isKind [.cs [108,105,116,101,114,97,108]])
  [.ret (.tup [.cs [97,108,108],.m0 .octets []])]
  [],
  .asg 1 (.cf 19 [.x 0]),
  .ite (.cmp .is (.x 1) (.c .none))
  [.raise (.m0 .fault [.cs [97,32,108,105,116,101,114,97,108,32,105,115,32,97,115,107,101,100,32,98,101,104,105,110,100,32,65,76,76]])]
  [],
  .ret (.x 1)]
noncomputable def Jh:List MS:=[.ite (.or [.not (.m0 .isKind [.cs [119,111,114,100]]),.cmp .notIn (.attr (.m0 .peek []) .worth) (.c b6)])
  [.ret (.c .none)]
  [],
  .ret (.tup [.cs [102,105,103,117,114,101],.idx (.c b6) (.attr (.m0 .take []) .worth)])]
noncomputable def Jg:List MS:=[.ite (.m0 .isNumber [])
  [.ret (.tup [.cs [110,117,109,98,101,114],.m0 .signed []])]
  [],
  .ite (.m0 .isKind [.cs [108,105,116,101,114,97,108]])
  [.ret (.tup [.cs [116,101,120,116],.m0 .octets []])]
  [],
  .ite (.m0 .skip [.cs [65,76,76]])
  [.ret (.cf 18 [.x 0])]
  [],
  .asg 2 (.cf 19 [.x 0]),
  .ret (.ite (.cmp .is (.x 2) (.c .none)) (.cf 17 [.x 0,.x 1]) (.x 2))]
noncomputable def Jf:List MS:=[.ret (.cf 13 [.mcall (.cs []) .join [.comp (.call (.c (.bi .chr)) [.x 1]) 1 (.x 0) []]])]
noncomputable def Je:List MS:=[.asg 2 (.comp (.call (.x 1) [.x 3]) 3 (.x 0) []),
  .ite (.cmp .ne (.comp (.x 4) 4 (.slc (.x 2) (some (.ci 1)) Option.none) [.cmp .isIn (.idx (.x 4) (.ci 0)) (.cs [40,43,45])]) (.lst []))
  [.asg 2 (.comp (.bin .add (.bin .add (.cs [40]) (.x 5)) (.cs [41])) 5 (.x 2) [])]
  [],
  .ret (.bin .add (.bin .add (.cs [32,40]) (.mcall (.cs [32]) .join [.x 2])) (.cs [41]))]
noncomputable def w9:List MS:=[.asg 2 (.mcall (.cs [32,79,70,32]) .join [.bin .add (.lst [.idx (.x 0) (.ci 1)]) (.call (.c (.bi .list)) [.idx (.x 0) (.ci 2)])]),
  .ite (.cmp .ne (.idx (.x 0) (.ci 3)) (.tup []))
  [.asg 2 (.bin .add (.x 2) (.cf 22 [.idx (.x 0) (.ci 3),.x 1]))]
  [],
  .ite (.cmp .isNot (.idx (.x 0) (.ci 4)) (.c .none))
  [.asg 3 (.ite (.cmp .is (.idx (.idx (.x 0) (.ci 4)) (.ci 1)) (.c .none)) (.cs []) (.bin .add (.cs [32]) (.call (.x 1) [.idx (.idx (.x 0) (.ci 4)) (.ci 1)]))),
  .asg 2 (.bin .add (.bin .add (.bin .add (.bin .add (.bin .add (.x 2) (.cs [32,40])) (.call (.x 1) [.idx (.idx (.x 0) (.ci 4)) (.ci 0)])) (.cs [32,58])) (.x 3)) (.cs [41]))]
  [],
  .ret (.x 2)]
noncomputable def Jd:List MS:=[.ite (.cmp .eq (.idx (.x 0) (.ci 0)) (.cs [114,101,102]))
  [.ret (.cf 23 [.x 0,.x 1])]
  [],
  .ite (.cmp .eq (.idx (.x 0) (.ci 0)) (.cs [110,117,109,98,101,114]))
  [.ret (.cf 10 [.idx (.x 0) (.ci 1)])]
  [],
  .ite (.cmp .eq (.idx (.x 0) (.ci 0)) (.cs [102,105,103,117,114,101]))
  [.ret (.idx (.c fh) (.idx (.x 0) (.ci 1)))]
  [],
  .ret (.bin .add (.ite (.cmp .eq (.idx (.x 0) (.ci 0)) (.cs [97,108,108])) (.cs [65,76,76,32]) (.cs [])) (.cf 21 [.idx (.x 0) (.ci 1)]))]
noncomputable def Jc:List MS:=[.ret (.cf 27 [.x 0,.ci 0])]
noncomputable def Jb:List MS:=[.asg 2 (.m0 .peek []),
  .ite (.or [.cmp .is (.x 2) (.c .none),.cmp .ne (.attr (.x 2) .kind) (.cs [115,105,103,110]),.cmp .notIn (.attr (.x 2) .worth) (.x 1)])
  [.ret (.cs [])]
  [],
  .ret (.attr (.x 2) .worth)]
noncomputable def Ja:List MS:=[.ite (.cmp .gt (.x 1) (.c bU))
  [.raise (.m0 .fault [.cs [98,114,97,99,107,101,116,115,32,97,114,101,32,110,101,115,116,101,100,32,116,111,111,32,100,101,101,112]])]
  [],
  .asg 2 (.cf 28 [.x 0,.x 1]),
  .whl (.cmp .ne (.cf 26 [.x 0,.tup [.cs [43],.cs [45]]]) (.cs [])) [.asg 3 (.attr (.m0 .take []) .worth),
  .asg 2 (.tup [.x 3,.x 2,.cf 28 [.x 0,.x 1]])],
  .ret (.x 2)]
noncomputable def I9:List MS:=[.asg 2 (.cf 29 [.x 0,.x 1]),
  .whl (.cmp .ne (.cf 26 [.x 0,.tup [.cs [42],.cs [47]]]) (.cs [])) [.asg 3 (.attr (.m0 .take []) .worth),
  .asg 2 (.tup [.x 3,.x 2,.cf 29 [.x 0,.x 1]])],
  .ret (.x 2)]
noncomputable def I8:List MS:=[.asg 2 (.cf 26 [.x 0,.tup [.cs [43],.cs [45]]]),
  .ite (.cmp .eq (.x 2) (.cs []))
  [.ret (.cf 31 [.x 0,.x 1])]
  [],
  .expr (.m0 .take []),
  .asg 3 (.and [.cmp .eq (.x 2) (.cs [45]),.cf 30 [.x 0]]),
  .asg 4 (.cf 31 [.x 0,.x 1]),
  .ite (.x 3)
  [.ret (.tup [.cs [110,117,109,98,101,114],.cf 4 [.idx (.x 4) (.ci 1)]])]
  [],
  .ret (.ite (.cmp .eq (.x 2) (.cs [45])) (.tup [.cs [110,101,103],.x 4]) (.x 4))]
noncomputable def I7:List MS:=[.asgT [1,2] [.m0 .peek [],.m0 .peek [.ci 1]],
  .ite (.or [.cmp .is (.x 1) (.c .none),.cmp .ne (.attr (.x 1) .kind) (.cs [110,117,109,98,101,114])])
  [.ret (.c (.bool false))]
  [],
  .ret (.or [.cmp .is (.x 2) (.c .none),.cmp .ne (.attr (.x 2) .kind) (.cs [115,105,103,110]),.cmp .ne (.attr (.x 2) .worth) (.cs [42,42])])]
noncomputable def I6:List MS:=[.asg 2 (.cf 32 [.x 0,.x 1]),
  .whl (.cmp .ne (.cf 26 [.x 0,.tup [.cs [42,42]]]) (.cs [])) [.expr (.m0 .take []),
  .asg 2 (.tup [.cs [42,42],.x 2,.cf 32 [.x 0,.x 1]])],
  .ret (.x 2)]
noncomputable def I5:List MS:=[.ite (.cmp .ne (.cf 26 [.x 0,.tup [.cs [43],.cs [45]]]) (.cs []))
  [.raise (.m0 .fault [.cs [97,110,32,111,112,101,114,97,110,100,32,105,115,32,97,115,107,101,100,32,104,101,114,101]])]
  [],
  .ite (.not (.m0 .skipSign [.cs [40]]))
  [.ret (.cf 20 [.x 0,.lam 0 [1]])]
  [],
  .asg 2 (.cf 27 [.x 0,.bin .add (.x 1) (.ci 1)]),
  .expr (.m0 .needSign [.cs [41]]),
  .ret (.x 2)]
noncomputable def I4:List MS:=[.ite (.or [.cmp .eq (.idx (.x 0) (.ci 0)) (.cs [110,101,103]),.and [.cmp .eq (.idx (.x 0) (.ci 0)) (.cs [110,117,109,98,101,114]),.cmp .lt (.idx (.idx (.x 0) (.ci 1)) (.ci 0)) (.ci 0)]])
  [.ret (.c jX)]
  [],
  .ret (.mcall (.c dL) .get [.idx (.x 0) (.ci 0),.c p7])]
noncomputable def I3:List MS:=[.asg 2 (.cf 35 [.x 0]),
  .ret (.ite (.cmp .lt (.cf 33 [.x 0]) (.x 1)) (.bin .add (.bin .add (.cs [40]) (.x 2)) (.cs [41])) (.x 2))]
noncomputable def I0:List MS:=[.own 1 [],
  .asg 2 (.x 0),
  .whl (.and [.cmp .isIn (.idx (.x 2) (.ci 0)) (.c dL),.cmp .ge (.cf 33 [.idx (.x 2) (.ci 1)]) (.idx (.c dL) (.idx (.x 2) (.ci 0)))]) [.app 1 (.cf 36 [.x 2]),
  .asg 2 (.idx (.x 2) (.ci 1))],
  .ite (.cmp .isIn (.idx (.x 2) (.ci 0)) (.c dL))
  [.app 1 (.bin .add (.bin .add (.bin .add (.cs [40]) (.cf 35 [.idx (.x 2) (.ci 1)])) (.cs [41])) (.cf 36 [.x 2]))]
  [.ite (.cmp .eq (.idx (.x 2) (.ci 0)) (.cs [110,101,103]))
  [.app 1 (.bin .add (.cs [45,32]) (.cf 37 [.idx (.x 2) (.ci 1)]))]
  [.app 1 (.cf 24 [.x 2,.c (.fn 35)])]],
  .ret (.jrev [] (.x 1))]
noncomputable def IZ:List MS:=[.ret (.bin .add (.bin .add (.bin .add (.cs [32]) (.idx (.x 0) (.ci 0))) (.cs [32])) (.cf 34 [.idx (.x 0) (.ci 2),.idx (.dct [.int 1,.int 2,jY] [.int 2,jX,p7]) (.idx (.c dL) (.idx (.x 0) (.ci 0)))]))]
noncomputable def IY:List MS:=[.ite (.cmp .eq (.idx (.x 0) (.ci 0)) (.cs [110,117,109,98,101,114]))
  [.ret (.bin .add (.bin .add (.cs [40]) (.cf 24 [.x 0,.c (.fn 35)])) (.cs [41]))]
  [],
  .ret (.cf 34 [.x 0,.c jY])]
noncomputable def FN:List MS:=[.asg 2 (.m0 .peek [.x 1]),
  .ret (.ite (.and [.cmp .isNot (.x 2) (.c .none),.cmp .eq (.attr (.x 2) .kind) (.cs [119,111,114,100])]) (.attr (.x 2) .worth) (.cs []))]
noncomputable def IX:List MS:=[.asg 2 (.m0 .peek [.x 1]),
  .ite (.and [.cmp .isNot (.x 2) (.c .none),.cmp .eq (.attr (.x 2) .kind) (.cs [115,105,103,110]),.cmp .isIn (.attr (.x 2) .worth) (.c iE)])
  [.ret (.c (.bool true))]
  [],
  .ret (.cmp .isIn (.cf 38 [.x 0,.x 1]) (.c be))]
noncomputable def IW:List MS:=[.asg 1 (.ite (.cmp .eq (.cf 38 [.x 0]) (.cs [73,83])) (.ci 1) (.ci 0)),
  .ret (.ite (.cmp .eq (.cf 38 [.x 0,.x 1]) (.cs [78,79,84])) (.bin .add (.x 1) (.ci 1)) (.x 1))]
noncomputable def IV:List MS:=[.asg 1 (.cf 40 [.x 0]),
  .asg 2 (.cf 38 [.x 0,.x 1]),
  .ret (.or [.cf 39 [.x 0,.x 1],.cmp .isIn (.x 2) (.c fL),.cmp .isIn (.x 2) (.c bp)])]
noncomputable def IU:List MS:=[.ret (.cf 39 [.x 0,.cf 40 [.x 0]])]
noncomputable def IT:List MS:=[.asgA (.x 0) .reader (.x 1),
  .asgA (.x 0) .isNamed (.x 2),
  .asgA (.x 0) .depth (.x 3),
  .asgA (.x 0) .last (.c .none)]
noncomputable def ka:List MS:=[.asg 1 (.m0 .both []),
  .whl (.mcall (.attr (.x 0) .reader) .skip [.cs [79,82]]) [.asg 1 (.tup [.cs [111,114],.x 1,.m0 .both []])],
  .ret (.x 1)]
noncomputable def kO:List MS:=[.asg 1 (.m0 .turned []),
  .whl (.mcall (.attr (.x 0) .reader) .skip [.cs [65,78,68]]) [.asg 1 (.tup [.cs [97,110,100],.x 1,.m0 .turned []])],
  .ret (.x 1)]
noncomputable def IS:List MS:=[.ite (.and [.cmp .eq (.cf 38 [.attr (.x 0) .reader]) (.cs [78,79,84]),.not (.cf 42 [.attr (.x 0) .reader])])
  [.expr (.mcall (.attr (.x 0) .reader) .take []),
  .ret (.tup [.cs [110,111,116],.m0 .single []])]
  [],
  .ret (.m0 .single [])]
noncomputable def IR:List MS:=[.ite (.not (.mcall (.attr (.x 0) .reader) .isSign [.cs [40]]))
  [.ret (.m0 .unbracketed [])]
  [],
  .asg 1 (.attr (.attr (.x 0) .reader) .at_),
  .tryN [.ret (.m0 .inBrackets [])],
  .asgA (.attr (.x 0) .reader) .at_ (.x 1),
  .tryN [.ret (.m0 .unbracketed [])]]
noncomputable def FM:List MS:=[.ite (.cf 42 [.attr (.x 0) .reader])
  [.ret (.m0 .relation [.m0 .subjectOfLast []])]
  [],
  .asg 1 (.cf 25 [.attr (.x 0) .reader]),
  .ite (.and [.cmp .eq (.idx (.x 1) (.ci 0)) (.cs [114,101,102]),.m0 .isNamed [.idx (.x 1) (.ci 1),.idx (.x 1) (.ci 2)]])
  [.asgA (.x 0) .last (.c .none),
  .ret (.tup [.cs [110,97,109,101,100],.x 1])]
  [],
  .ite (.cf 41 [.attr (.x 0) .reader])
  [.ret (.m0 .predicate [.x 1])]
  [],
  .ret (.tup [.cs [114,101,108],.m0 .signOfLast [],.m0 .subjectOfLast [],.x 1])]
noncomputable def IQ:List MS:=[.ite (.cmp .ge (.attr (.x 0) .depth) (.c bZ))
  [.raise (.mcall (.attr (.x 0) .reader) .fault [.cs [98,114,97,99,107,101,116,115,32,97,114,101,32,110,101,115,116,101,100,32,116,111,111,32,100,101,101,112]])]
  [],
  .expr (.mcall (.attr (.x 0) .reader) .needSign [.cs [40]]),
  .asg 1 (.mcall (.call (.c (.cls 4)) [.attr (.x 0) .reader,.attr (.x 0) .isNamed,.bin .add (.attr (.x 0) .depth) (.ci 1)]) .either []),
  .expr (.mcall (.attr (.x 0) .reader) .needSign [.cs [41]]),
  .asgA (.x 0) .last (.c .none),
  .ret (.x 1)]
noncomputable def IP:List MS:=[.ite (.cmp .is (.attr (.x 0) .last) (.c .none))
  [.raise (.mcall (.attr (.x 0) .reader) .fault [.cs [97,32,114,101,108,97,116,105,111,110,32,105,115,32,109,105,115,115,105,110,103]])]
  [],
  .ret (.idx (.attr (.x 0) .last) (.ci 0))]
noncomputable def IO:List MS:=[.ite (.cmp .is (.attr (.x 0) .last) (.c .none))
  [.raise (.mcall (.attr (.x 0) .reader) .fault [.cs [97,32,114,101,108,97,116,105,111,110,32,105,115,32,109,105,115,115,105,110,103]])]
  [],
  .ret (.idx (.attr (.x 0) .last) (.ci 1))]
noncomputable def Do:List MS:=[.asg 2 (.cf 38 [.attr (.x 0) .reader,.cf 40 [.attr (.x 0) .reader]]),
  .ite (.and [.cmp .notIn (.x 2) (.c fL),.cmp .notIn (.x 2) (.c bp)])
  [.ret (.m0 .relation [.x 1])]
  [],
  .asgA (.x 0) .last (.c .none),
  .expr (.mcall (.attr (.x 0) .reader) .skip [.cs [73,83]]),
  .asg 3 (.mcall (.attr (.x 0) .reader) .skip [.cs [78,79,84]]),
  .expr (.mcall (.attr (.x 0) .reader) .take []),
  .ite (.cmp .isIn (.x 2) (.c fL))
  [.asg 4 (.tup [.cs [99,108,97,115,115],.x 2,.x 1])]
  [.asg 4 (.tup [.cs [115,105,103,110],.idx (.c bp) (.x 2),.x 1])],
  .ret (.ite (.x 3) (.tup [.cs [110,111,116],.x 4]) (.x 4))]
noncomputable def FL:List MS:=[.expr (.mcall (.attr (.x 0) .reader) .skip [.cs [73,83]]),
  .asg 2 (.mcall (.attr (.x 0) .reader) .skip [.cs [78,79,84]]),
  .asg 3 (.m0 .signHere []),
  .asgA (.x 0) .last (.tup [.x 1,.ite (.x 2) (.idx (.c iG) (.x 3)) (.x 3)]),
  .ret (.tup [.cs [114,101,108],.idx (.attr (.x 0) .last) (.ci 1),.x 1,.cf 25 [.attr (.x 0) .reader]])]
noncomputable def IN:List MS:=[.asg 1 (.mcall (.attr (.x 0) .reader) .take []),
  .ite (.cmp .eq (.attr (.x 1) .kind) (.cs [115,105,103,110]))
  [.ret (.attr (.x 1) .worth)]
  [],
  .expr (.mcall (.attr (.x 0) .reader) .skip [.ite (.cmp .eq (.attr (.x 1) .worth) (.cs [69,81,85,65,76])) (.cs [84,79]) (.cs [84,72,65,78])]),
  .asg 2 (.idx (.c be) (.attr (.x 1) .worth)),
  .ite (.and [.cmp .ne (.attr (.x 1) .worth) (.cs [69,81,85,65,76]),.cmp .eq (.cf 38 [.attr (.x 0) .reader]) (.cs [79,82]),.cmp .eq (.cf 38 [.attr (.x 0) .reader,.ci 1]) (.cs [69,81,85,65,76])])
  [.expr (.mcall (.attr (.x 0) .reader) .take []),
  .expr (.mcall (.attr (.x 0) .reader) .take []),
  .expr (.mcall (.attr (.x 0) .reader) .skip [.cs [84,79]]),
  .ret (.bin .add (.x 2) (.cs [61]))]
  [],
  .ret (.x 2)]
noncomputable def IM:List MS:=[.ite (.cmp .is (.x 1) (.c .none))
  [.ret (.mcall (.call (.c (.cls 4)) [.x 0,.lam 1 [0],.ci 0]) .either [])]
  [],
  .ret (.mcall (.call (.c (.cls 4)) [.x 0,.x 1,.ci 0]) .either [])]
noncomputable def FK:List MS:=[.asg 1 (.ite (.cmp .eq (.idx (.x 0) (.ci 1)) (.cs [60,62])) (.cs [78,79,84,32,61]) (.idx (.x 0) (.ci 1))),
  .ret (.bin .add (.bin .add (.bin .add (.bin .add (.cf 35 [.idx (.x 0) (.ci 2)]) (.cs [32])) (.x 1)) (.cs [32])) (.cf 35 [.idx (.x 0) (.ci 3)]))]
noncomputable def IL:List MS:=[.ret (.mcall (.dct [.str [111,114],.str [97,110,100],.str [110,111,116]] [.int 1,.int 2,.int 3]) .get [.idx (.x 0) (.ci 0),.ci 4])]
noncomputable def IK:List MS:=[.asg 2 (.cf 60 [.x 0]),
  .ret (.ite (.cmp .lt (.cf 57 [.x 0]) (.x 1)) (.bin .add (.bin .add (.cs [40]) (.x 2)) (.cs [41])) (.x 2))]
noncomputable def IJ:List MS:=[.ite (.cmp .eq (.idx (.x 0) (.ci 0)) (.cs [114,101,108]))
  [.ret (.cf 56 [.x 0])]
  [],
  .ite (.cmp .eq (.idx (.x 0) (.ci 0)) (.cs [110,97,109,101,100]))
  [.ret (.cf 35 [.idx (.x 0) (.ci 1)])]
  [],
  .ret (.bin .add (.bin .add (.cf 35 [.idx (.x 0) (.ci 2)]) (.cs [32,73,83,32])) (.idx (.x 0) (.ci 1)))]
noncomputable def w8:List MS:=[.own 1 [],
  .asg 2 (.x 0),
  .whl (.and [.cmp .isIn (.idx (.x 2) (.ci 0)) (.tup [.cs [111,114],.cs [97,110,100]]),.cmp .ge (.cf 57 [.idx (.x 2) (.ci 1)]) (.cf 57 [.x 2])]) [.app 1 (.bin .add (.bin .add (.bin .add (.cs [32]) (.mcall (.idx (.x 2) (.ci 0)) .upper [])) (.cs [32])) (.cf 58 [.idx (.x 2) (.ci 2),.bin .add (.cf 57 [.x 2]) (.ci 1)])),
  .asg 2 (.idx (.x 2) (.ci 1))],
  .ite (.cmp .eq (.idx (.x 2) (.ci 0)) (.cs [97,110,100]))
  [.app 1 (.bin .add (.bin .add (.bin .add (.cs [40]) (.cf 60 [.idx (.x 2) (.ci 1)])) (.cs [41,32,65,78,68,32])) (.cf 58 [.idx (.x 2) (.ci 2),.ci 3]))]
  [.ite (.cmp .eq (.idx (.x 2) (.ci 0)) (.cs [110,111,116]))
  [.app 1 (.bin .add (.cs [78,79,84,32]) (.cf 58 [.idx (.x 2) (.ci 1),.ci 4]))]
  [.app 1 (.cf 59 [.x 2])]],
  .ret (.jrev [] (.x 1))]
noncomputable def II:List MS:=[.ret (.mcall (.cs [32]) .join [.comp (.x 1) 1 (.x 0) [.cmp .ne (.x 1) (.cs [])]])]
noncomputable def IH:List MS:=[.ite (.cmp .eq (.lenX 0) (.ci 0))
  [.raise (.call (.c (.cls 2)) [.cs [97,32,115,116,97,116,101,109,101,110,116,32,109,117,115,116,32,115,116,97,110,100,32,104,101,114,101]])]
  [],
  .ret (.cf 61 [.comp (.call (.x 1) [.x 2]) 2 (.x 0) []])]
noncomputable def FJ:List MS:=[.asg 2 (.ite (.cmp .eq (.call (.c (.bi .len)) [.idx (.x 0) (.ci 3)]) (.ci 0)) (.cs []) (.bin .add (.cs [69,76,83,69,32]) (.cf 62 [.idx (.x 0) (.ci 3),.x 1]))),
  .ret (.cf 61 [.lst [.cs [73,70],.cf 60 [.idx (.x 0) (.ci 1)],.cs [84,72,69,78],.cf 62 [.idx (.x 0) (.ci 2),.x 1],.x 2,.cs [69,78,68,45,73,70]]])]
noncomputable def IG:List MS:=[.ite (.cmp .isIn (.idx (.x 0) (.ci 0)) (.tup [.cs [97,110,121],.cs [121,101,115],.cs [110,111]]))
  [.ret (.idx (.dct [.str [97,110,121],.str [121,101,115],.str [110,111]] [.str [65,78,89],.str [84,82,85,69],.str [70,65,76,83,69]]) (.idx (.x 0) (.ci 0)))]
  [],
  .ite (.cmp .eq (.idx (.x 0) (.ci 0)) (.cs [116,114,117,116,104]))
  [.ret (.cf 60 [.idx (.x 0) (.ci 1)])]
  [],
  .ite (.cmp .eq (.idx (.x 0) (.ci 0)) (.cs [119,111,114,116,104]))
  [.ret (.cf 35 [.idx (.x 0) (.ci 1)])]
  [],
  .asg 1 (.cf 35 [.idx (.x 0) (.ci 1)]),
  .ite (.cmp .eq (.idx (.x 0) (.ci 0)) (.cs [116,104,114,117]))
  [.asg 1 (.bin .add (.bin .add (.x 1) (.cs [32,84,72,82,85,32])) (.cf 35 [.idx (.x 0) (.ci 2)]))]
  [],
  .ret (.ite (.idx (.x 0) (.neg (.ci 1))) (.bin .add (.cs [78,79,84,32]) (.x 1)) (.x 1))]
noncomputable def IF:List MS:=[.ret (.mcall (.cs [32,65,76,83,79,32]) .join [.comp (.cf 64 [.x 1]) 1 (.x 0) []])]
noncomputable def FI:List MS:=[.own 2 [.bin .add (.cs [69,86,65,76,85,65,84,69,32]) (.cf 65 [.idx (.x 0) (.ci 1)])],
  .for2 3 4 (.idx (.x 0) (.ci 2)) [.ext 2 (.comp (.bin .add (.cs [87,72,69,78,32]) (.cf 65 [.x 5])) 5 (.x 3) []),
  .app 2 (.cf 62 [.x 4,.x 1])],
  .ite (.cmp .gt (.call (.c (.bi .len)) [.idx (.x 0) (.ci 3)]) (.ci 0))
  [.app 2 (.bin .add (.cs [87,72,69,78,32,79,84,72,69,82,32]) (.cf 62 [.idx (.x 0) (.ci 3),.x 1]))]
  [],
  .ret (.cf 61 [.bin .add (.x 2) (.lst [.cs [69,78,68,45,69,86,65,76,85,65,84,69]])])]
noncomputable def IE:List MS:=[.ret (.cmp .isIn (.bin .add (.bin .add (.cs [32]) (.x 0)) (.cs [32])) (.c gf))]
noncomputable def ID:List MS:=[.asg 1 (.comp (.call (.c (.bi .ord)) [.x 2]) 2 (.x 0) []),
  .ite (.comp (.x 3) 3 (.x 1) [.cmp .gt (.x 3) (.c gI)])
  [.ret (.c .none)]
  [],
  .ret (.call (.c (.bi .bytes)) [.x 1])]
noncomputable def IC:List MS:=[.asgA (.x 0) .tokens (.x 1),
  .asgA (.x 0) .at_ (.x 2),
  .asgA (.x 0) .named (.dct [] [])]
noncomputable def FH:List MS:=[.ite (.cmp .lt (.bin .add (.attr (.x 0) .at_) (.x 1)) (.call (.c (.bi .len)) [.attr (.x 0) .tokens]))
  [.ret (.idx (.attr (.x 0) .tokens) (.bin .add (.attr (.x 0) .at_) (.x 1)))]
  [],
  .ret (.c .none)]
noncomputable def IB:List MS:=[.ret (.cmp .ge (.attr (.x 0) .at_) (.call (.c (.bi .len)) [.attr (.x 0) .tokens]))]
noncomputable def IA:List MS:=[.ite (.not (.attr (.x 0) .tokens))
  [.ret (.call (.c (.cls 2)) [.x 1,.tup [.ci 0,.ci 0]])]
  [],
  .ret (.call (.c (.cls 2)) [.x 1,.attr (.idx (.attr (.x 0) .tokens) (.call (.c (.bi .min)) [.attr (.x 0) .at_,.bin .sub (.call (.c (.bi .len)) [.attr (.x 0) .tokens]) (.ci 1)])) .at_])]
noncomputable def Iz:List MS:=[.asg 1 (.m0 .peek []),
  .ite (.cmp .is (.x 1) (.c .none))
  [.raise (.m0 .fault [.cs [116,104,101,32,116,101,120,116,32,101,110,100,115,32,116,111,111,32,101,97,114,108,121]])]
  [],
  .asgA (.x 0) .at_ (.bin .add (.attr (.x 0) .at_) (.ci 1)),
  .ret (.x 1)]
noncomputable def FG:List MS:=[.asg 3 (.m0 .peek [.x 2]),
  .ret (.and [.cmp .isNot (.x 3) (.c .none),.cmp .eq (.attr (.x 3) .kind) (.x 1)])]
noncomputable def Iy:List MS:=[.asg 2 (.ci 0),
  .for1 3 (.mcall (.x 1) .split [.cs [32]]) [.ite (.or [.not (.m0 .isKind [.cs [119,111,114,100],.x 2]),.cmp .ne (.attr (.m0 .peek [.x 2]) .worth) (.x 3)])
  [.ret (.c (.bool false))]
  [],
  .asg 2 (.bin .add (.x 2) (.ci 1))],
  .ret (.c (.bool true))]
noncomputable def Ix:List MS:=[.ite (.not (.m0 .isWord [.x 1]))
  [.ret (.c (.bool false))]
  [],
  .asgA (.x 0) .at_ (.bin .add (.attr (.x 0) .at_) (.call (.c (.bi .len)) [.mcall (.x 1) .split [.cs [32]]])),
  .ret (.c (.bool true))]
noncomputable def Iw:List MS:=[.ite (.not (.m0 .skip [.x 1]))
  [.raise (.m0 .fault [.bin .add (.x 1) (.cs [32,105,115,32,97,115,107,101,100,32,104,101,114,101])])]
  []]
noncomputable def Iv:List MS:=[.for1 2 (.mcall (.x 1) .split [.cs [32]]) [.ite (.m0 .skip [.x 2])
  [.ret (.x 2)]
  []],
  .ret (.cs [])]
noncomputable def Iu:List MS:=[.ret (.and [.m0 .isKind [.cs [119,111,114,100],.x 1],.not (.cf 67 [.attr (.m0 .peek [.x 1]) .worth])])]
noncomputable def It:List MS:=[.ite (.not (.m0 .isName []))
  [.raise (.m0 .fault [.cs [97,32,110,97,109,101,32,105,115,32,97,115,107,101,100,32,104,101,114,101]])]
  [],
  .ret (.attr (.m0 .take []) .worth)]
noncomputable def FF:List MS:=[.ret (.and [.m0 .isKind [.cs [115,105,103,110],.x 2],.cmp .eq (.attr (.m0 .peek [.x 2]) .worth) (.x 1)])]
noncomputable def Ir:List MS:=[.ite (.not (.m0 .isSign [.x 1]))
  [.ret (.c (.bool false))]
  [],
  .asgA (.x 0) .at_ (.bin .add (.attr (.x 0) .at_) (.ci 1)),
  .ret (.c (.bool true))]
noncomputable def Iq:List MS:=[.ite (.not (.m0 .skipSign [.x 1]))
  [.raise (.m0 .fault [.bin .add (.x 1) (.cs [32,105,115,32,97,115,107,101,100,32,104,101,114,101])])]
  []]
noncomputable def Ip:List MS:=[.ite (.or [.m0 .isSign [.cs [43]],.m0 .isSign [.cs [45]]])
  [.ret (.m0 .isKind [.cs [110,117,109,98,101,114],.ci 1])]
  [],
  .ret (.m0 .isKind [.cs [110,117,109,98,101,114]])]
noncomputable def Io:List MS:=[.ite (.not (.m0 .isNumber []))
  [.raise (.m0 .fault [.cs [97,32,110,117,109,98,101,114,32,105,115,32,97,115,107,101,100,32,104,101,114,101]])]
  [],
  .asg 1 (.m0 .skipSign [.cs [45]]),
  .ite (.not (.x 1))
  [.expr (.m0 .skipSign [.cs [43]])]
  [],
  .asg 2 (.cf 9 [.attr (.m0 .take []) .worth]),
  .ret (.ite (.x 1) (.cf 4 [.x 2]) (.x 2))]
noncomputable def Im:List MS:=[.ite (.not (.m0 .isKind [.cs [108,105,116,101,114,97,108]]))
  [.raise (.m0 .fault [.cs [97,32,108,105,116,101,114,97,108,32,105,115,32,97,115,107,101,100,32,104,101,114,101]])]
  [],
  .asg 1 (.cf 68 [.attr (.m0 .peek []) .worth]),
  .ite (.cmp .is (.x 1) (.c .none))
  [.raise (.m0 .fault [.cs [97,32,115,105,103,110,32,116,104,97,116,32,105,115,32,110,111,32,111,99,116,101,116]])]
  [],
  .asgA (.x 0) .at_ (.bin .add (.attr (.x 0) .at_) (.ci 1)),
  .ret (.x 1)]
noncomputable def Il:List MS:=[.asg 2 (.call (.x 1) [.x 0]),
  .ite (.cmp .eq (.x 2) (.tup []))
  [.raise (.m0 .fault [.cs [97,32,115,116,97,116,101,109,101,110,116,32,109,117,115,116,32,115,116,97,110,100,32,104,101,114,101]])]
  [],
  .ret (.x 2)]
noncomputable def Ik:List MS:=[.expr (.m0 .need [.cs [73,70]]),
  .asg 2 (.cf 55 [.x 0]),
  .expr (.m0 .skip [.cs [84,72,69,78]]),
  .asg 3 (.cf 91 [.x 0,.x 1]),
  .asg 4 (.ite (.m0 .skip [.cs [69,76,83,69]]) (.cf 91 [.x 0,.x 1]) (.tup [])),
  .expr (.m0 .skip [.cs [69,78,68,45,73,70]]),
  .ret (.tup [.cs [105,102],.x 2,.x 3,.x 4])]
noncomputable def Dn:List MS:=[.asg 1 (.attr (.x 0) .at_),
  .asg 2 (.c .none),
  .tryE [.asg 2 (.cf 25 [.x 0])] 2 [.asgA (.x 0) .at_ (.x 1),
  .ret (.c .none)],
  .asg 3 (.and [.cmp .eq (.idx (.x 2) (.ci 0)) (.cs [114,101,102]),.cmp .isIn (.idx (.x 2) (.ci 1)) (.attr (.x 0) .named)]),
  .ite (.or [.x 3,.not (.or [.m0 .isWord [.cs [65,76,83,79]],.m0 .isWord [.cs [87,72,69,78]]])])
  [.asgA (.x 0) .at_ (.x 1),
  .ret (.c .none)]
  [],
  .ret (.x 2)]
noncomputable def Ij:List MS:=[.ite (.m0 .skip [.cs [84,82,85,69]])
  [.ret (.tup [.cs [121,101,115]])]
  [],
  .ite (.m0 .skip [.cs [70,65,76,83,69]])
  [.ret (.tup [.cs [110,111]])]
  [],
  .asg 1 (.cf 93 [.x 0]),
  .ite (.cmp .isNot (.x 1) (.c .none))
  [.ret (.tup [.cs [119,111,114,116,104],.x 1])]
  [],
  .ret (.tup [.cs [116,114,117,116,104],.cf 55 [.x 0]])]
noncomputable def Ii:List MS:=[.ite (.m0 .skip [.cs [65,78,89]])
  [.ret (.tup [.cs [97,110,121]])]
  [],
  .ite (.cmp .ne (.idx (.x 1) (.ci 0)) (.cs [119,111,114,116,104]))
  [.ite (.m0 .skip [.cs [84,82,85,69]])
  [.ret (.tup [.cs [121,101,115]])]
  [],
  .ite (.m0 .skip [.cs [70,65,76,83,69]])
  [.ret (.tup [.cs [110,111]])]
  [],
  .ret (.tup [.cs [116,114,117,116,104],.cf 55 [.x 0]])]
  [],
  .asg 2 (.m0 .skip [.cs [78,79,84]]),
  .asg 3 (.cf 25 [.x 0]),
  .ite (.or [.m0 .skip [.cs [84,72,82,85]],.m0 .skip [.cs [84,72,82,79,85,71,72]]])
  [.ret (.tup [.cs [116,104,114,117],.x 3,.cf 25 [.x 0],.x 2])]
  [],
  .ret (.tup [.cs [105,115],.x 3,.x 2])]
noncomputable def Ih:List MS:=[.own 2 [],
  .for1 3 (.x 1) [.ite (.x 2)
  [.expr (.m0 .need [.cs [65,76,83,79]])]
  [],
  .app 2 (.cf 95 [.x 0,.x 3])],
  .ret (.tupX 2)]
noncomputable def gO:List MS:=[.expr (.m0 .need [.cs [69,86,65,76,85,65,84,69]]),
  .own 2 [.cf 94 [.x 0]],
  .whl (.m0 .skip [.cs [65,76,83,79]]) [.app 2 (.cf 94 [.x 0])],
  .own 3 [],
  .own 4 [],
  .asg 5 (.tup []),
  .whl (.and [.cmp .eq (.x 5) (.tup []),.m0 .skip [.cs [87,72,69,78]]]) [.ite (.m0 .skip [.cs [79,84,72,69,82]])
  [.asg 5 (.cf 91 [.x 0,.x 1])]
  [.app 4 (.cf 96 [.x 0,.x 2]),
  .ite (.not (.m0 .isWord [.cs [87,72,69,78]]))
  [.app 3 (.tup [.tupX 4,.cf 91 [.x 0,.x 1]]),
  .own 4 []]
  []]],
  .ite (.or [.x 4,.not (.x 3)])
  [.raise (.m0 .fault [.cs [97,32,87,72,69,78,32,119,105,116,104,32,105,116,115,32,115,116,97,116,101,109,101,110,116,115,32,105,115,32,109,105,115,115,105,110,103]])]
  [],
  .expr (.m0 .skip [.cs [69,78,68,45,69,86,65,76,85,65,84,69]]),
  .ret (.tup [.cs [101,118,97,108,117,97,116,101],.tupX 2,.tupX 3,.x 5])]
noncomputable def w7:List MS:=[.asg 1 (.comp (.call (.c (.bi .int)) [.x 5]) 5 (.slc (.x 0) Option.none (some (.ci 48))) []),
  .asg 2 (.ci 0),
  .ite (.and [.x 1,.cmp .ge (.call (.c (.bi .abs)) [.idx (.x 1) (.ci 0)]) (.bin .pow (.ci 10) (.ci 15))])
  [.asg 2 (.bin .mod (.bin .fdiv (.call (.c (.bi .abs)) [.idx (.x 1) (.ci 0)]) (.ci 2)) (.bin .pow (.ci 10) (.ci 260)))]
  [],
  .asg 3 (.ci 1),
  .for1 4 (.x 1) [.asg 3 (.bin .mod (.bin .add (.bin .add (.bin .mul (.x 3) (.ci 48271)) (.bin .mod (.x 4) (.ci 2147483647))) (.ci 593)) (.ci 2147483647))],
  .retL [.x 1,.x 2,.x 3,.ci 0]]
noncomputable def Ig:List MS:=[.asg 2 (.idx (.x 0) (.ci 3)),
  .asgI (.x 0) (.ci 3) (.bin .add (.x 2) (.ci 1)),
  .ite (.cmp .gt (.idx (.x 0) (.ci 1)) (.ci 0))
  [.asg 3 (.bin .mod (.idx (.x 0) (.ci 1)) (.x 1)),
  .asgI (.x 0) (.ci 1) (.bin .fdiv (.idx (.x 0) (.ci 1)) (.x 1)),
  .ret (.x 3)]
  [],
  .asgI (.x 0) (.ci 2) (.bin .mod (.bin .add (.bin .add (.bin .mul (.idx (.x 0) (.ci 2)) (.ci 16807)) (.bin .mul (.x 2) (.x 2))) (.ci 29)) (.ci 2147483647)),
  .ite (.cmp .lt (.x 2) (.call (.c (.bi .len)) [.idx (.x 0) (.ci 0)]))
  [.ret (.bin .mod (.idx (.idx (.x 0) (.ci 0)) (.x 2)) (.x 1))]
  [],
  .ret (.bin .mod (.bin .pow (.bin .fdiv (.idx (.x 0) (.ci 2)) (.ci 3)) (.ci 3)) (.x 1))]
noncomputable def xg:List MS:=[.asg 2 (.idx (.lst [.cs [65],.cs [66,45,49],.cs [73,84,69,77],.cs [88,57]]) (.cf 99 [.x 0,.ci 4])),
  .asg 3 (.slc (.lst [.cs [71,49],.cs [71,50]]) Option.none (some (.cf 99 [.x 0,.ci 3]))),
  .ite (.x 1)
  [.ret (.tup [.cs [114,101,102],.x 2,.tupX 3,.tup [],.c .none])]
  [],
  .asg 4 (.cf 99 [.x 0,.ci 6]),
  .asgT [5,6] [.tup [.cs [110,117,109,98,101,114],.tup [.bin .add (.ci 1) (.cf 99 [.x 0,.ci 9]),.ci 0]],.tup [.cs [114,101,102],.cs [73],.tup [],.tup [],.c .none]],
  .asg 7 (.idx (.lst [.tup [],.tup [.x 5],.tup [.x 6],.tup [.x 5,.x 6],.tup [.x 6,.x 5,.x 6],.tup []]) (.x 4)),
  .asg 8 (.idx (.lst [.c .none,.tup [.x 5,.c .none],.tup [.x 6,.x 5],.c .none]) (.cf 99 [.x 0,.ci 4])),
  .ret (.tup [.cs [114,101,102],.x 2,.tupX 3,.x 7,.x 8])]
noncomputable def xf:List MS:=[.asg 2 (.idx (.x 1) (.cf 99 [.x 0,.lenX 1])),
  .ite (.cmp .eq (.x 2) (.cs [110]))
  [.ret (.tup [.cs [110,117,109,98,101,114],.idx (.lst [.tup [.ci 0,.ci 0],.tup [.ci 5,.ci 0],.tup [.neg (.ci 3),.ci 0],.tup [.ci 125,.ci 2],.tup [.neg (.ci 5),.ci 1],.tup [.ci 70,.ci 0]]) (.cf 99 [.x 0,.ci 6])])]
  [],
  .ite (.cmp .eq (.x 2) (.cs [116]))
  [.ret (.tup [.cs [116,101,120,116],.idx (.lst [.c (.bytes [65,66]),.c (.bytes [120]),.c (.bytes [51]),.c (.bytes [122,101,114,111])]) (.cf 99 [.x 0,.ci 4])])]
  [],
  .ite (.cmp .eq (.x 2) (.cs [102]))
  [.ret (.tup [.cs [102,105,103,117,114,101],.idx (.lst [.cs [90,69,82,79],.cs [83,80,65,67,69],.cs [72,73,71,72],.cs [76,79,87],.cs [81,85,79,84,69]]) (.cf 99 [.x 0,.ci 5])])]
  [],
  .ite (.cmp .eq (.x 2) (.cs [122]))
  [.ret (.tup [.cs [102,105,103,117,114,101],.cs [90,69,82,79]])]
  [],
  .ret (.ite (.cmp .eq (.x 2) (.cs [97])) (.tup [.cs [97,108,108],.c (.bytes [120,121])]) (.cf 100 [.x 0]))]
noncomputable def AW:List MS:=[.own 1 [],
  .for1 2 (.mcall (.repl (.repl (.x 0) 40 [32,40,32]) 41 [32,41,32]) .split [.cs [32]]) [.ite (.cmp .eq (.slc (.x 2) Option.none (some (.ci 1))) (.cs [34]))
  [.app 1 (.call (.c (.cls 3)) [.cs [108,105,116,101,114,97,108],.slc (.x 2) (some (.ci 1)) (some (.neg (.ci 1)))])]
  [.ite (.and [.cmp .eq (.slc (.x 2) Option.none (some (.ci 1))) (.cs [45]),.cmp .gt (.lenX 2) (.ci 1)])
  [.ext 1 (.lst [.call (.c (.cls 3)) [.cs [115,105,103,110],.cs [45]],.call (.c (.cls 3)) [.cs [110,117,109,98,101,114],.slc (.x 2) (some (.ci 1)) Option.none]])]
  [.ite (.cmp .isIn (.x 2) (.tup [.cs [40],.cs [41],.cs [58],.cs [43],.cs [45],.cs [42],.cs [47],.cs [42,42],.cs [61],.cs [60],.cs [62],.cs [60,61],.cs [62,61]]))
  [.app 1 (.call (.c (.cls 3)) [.cs [115,105,103,110],.x 2])]
  [.ite (.cmp .ne (.x 2) (.cs []))
  [.app 1 (.call (.c (.cls 3)) [.ite (.cmp .isIn (.idx (.x 2) (.ci 0)) (.cs [48,49,50,51,52,53,54,55,56,57])) (.cs [110,117,109,98,101,114]) (.cs [119,111,114,100]),.x 2])]
  []]]]],
  .ret (.x 1)]
noncomputable def FW:List MS:=[.ret (.slc (.tup [.tup [.cs [99,111,110,116,105,110,117,101]],.tup [.cs [101,120,105,116]],.tup [.cs [99,111,110,116,105,110,117,101]]]) (some (.cf 99 [.x 0,.ci 2])) (some (.bin .add (.ci 2) (.cf 99 [.x 0,.ci 2]))))]
noncomputable def FV:List MS:=[.ret (.idx (.dct [.str [99,111,110,116,105,110,117,101],.str [101,120,105,116]] [.str [67,79,78,84,73,78,85,69],.str [69,88,73,84]]) (.idx (.x 0) (.ci 0)))]
noncomputable def xe:List MS:=[.own 1 [],
  .whl (.or [.m0 .isWord [.cs [67,79,78,84,73,78,85,69]],.m0 .isWord [.cs [69,88,73,84]]]) [.app 1 (.tup [.mcall (.attr (.m0 .take []) .worth) .lower []])],
  .ret (.tupX 1)]
noncomputable def FU:List MS:=[.asgT [1,2] [.cf 101 [.x 0,.cs [114,110]],.cf 101 [.x 0,.cs [114,110]]],
  .ret (.idx (.lst [.x 1,.x 1,.tup [.cs [43],.x 1,.x 2],.tup [.cs [42],.x 1,.tup [.cs [110,101,103],.tup [.cs [114,101,102],.cs [65],.tup [],.tup [],.c .none]]],.tup [.cs [45],.x 1,.tup [.cs [43],.x 2,.x 1]]]) (.cf 99 [.x 0,.ci 5]))]
noncomputable def xb:List MS:=[.asg 2 (.cf 99 [.x 0,.ite (.cmp .gt (.x 1) (.ci 0)) (.ci 8) (.ci 5)]),
  .ite (.cmp .lt (.x 2) (.ci 2))
  [.ret (.tup [.cs [114,101,108],.idx (.lst [.cs [61],.cs [62],.cs [60],.cs [62,61],.cs [60,61],.cs [60,62]]) (.cf 99 [.x 0,.ci 6]),.cf 106 [.x 0],.cf 101 [.x 0,.cs [114,110,116,102,97]]])]
  [],
  .ite (.cmp .eq (.x 2) (.ci 2))
  [.ret (.tup [.cs [99,108,97,115,115],.idx (.lst [.cs [78,85,77,69,82,73,67],.cs [65,76,80,72,65,66,69,84,73,67],.cs [65,76,80,72,65,66,69,84,73,67,45,76,79,87,69,82]]) (.cf 99 [.x 0,.ci 3]),.cf 100 [.x 0]])]
  [],
  .ite (.cmp .eq (.x 2) (.ci 3))
  [.ret (.tup [.cs [115,105,103,110],.idx (.lst [.cs [80,79,83,73,84,73,86,69],.cs [78,69,71,65,84,73,86,69],.cs [90,69,82,79]]) (.cf 99 [.x 0,.ci 3]),.cf 106 [.x 0]])]
  [],
  .ite (.cmp .eq (.x 2) (.ci 4))
  [.ret (.tup [.cs [110,97,109,101,100],.tup [.cs [114,101,102],.cs [73,83,45,79,78],.slc (.tup [.cs [71,49]]) Option.none (some (.cf 99 [.x 0,.ci 2])),.tup [],.c .none]])]
  [],
  .ite (.cmp .eq (.x 2) (.ci 5))
  [.ret (.tup [.cs [110,111,116],.cf 107 [.x 0,.bin .sub (.x 1) (.ci 1)]])]
  [],
  .ret (.tup [.idx (.lst [.cs [97,110,100],.cs [111,114]]) (.bin .sub (.x 2) (.ci 6)),.cf 107 [.x 0,.bin .sub (.x 1) (.ci 1)],.cf 107 [.x 0,.bin .sub (.x 1) (.ci 1)]])]
noncomputable def FT:List MS:=[.asg 1 (.cf 99 [.x 0,.ci 4]),
  .ite (.cmp .eq (.x 1) (.ci 0))
  [.ret (.tup [.cs [119,111,114,116,104],.cf 106 [.x 0]])]
  [],
  .ret (.ite (.cmp .eq (.x 1) (.ci 1)) (.tup [.cs [116,114,117,116,104],.cf 107 [.x 0,.ci 1]]) (.tup [.idx (.lst [.cs [121,101,115],.cs [110,111]]) (.bin .sub (.x 1) (.ci 2))]))]
noncomputable def FS:List MS:=[.asg 2 (.cf 99 [.x 0,.ci 5]),
  .ite (.cmp .eq (.x 2) (.ci 0))
  [.ret (.tup [.cs [97,110,121]])]
  [],
  .ite (.cmp .eq (.idx (.x 1) (.ci 0)) (.cs [119,111,114,116,104]))
  [.asg 3 (.cmp .eq (.cf 99 [.x 0,.ci 2]) (.ci 1)),
  .asg 4 (.cf 106 [.x 0]),
  .ret (.ite (.cmp .lt (.x 2) (.ci 3)) (.tup [.cs [105,115],.x 4,.x 3]) (.tup [.cs [116,104,114,117],.x 4,.cf 106 [.x 0],.x 3]))]
  [],
  .ret (.ite (.cmp .lt (.x 2) (.ci 3)) (.tup [.cs [116,114,117,116,104],.cf 107 [.x 0,.ci 1]]) (.tup [.idx (.lst [.cs [121,101,115],.cs [110,111]]) (.bin .sub (.x 2) (.ci 3))]))]
noncomputable def oW:List MS:=[.asgC 1 (.call (.c (.bi .tuple)) [.comp (.cf 108 [.x 0]) 5 (.call (.c (.bi .range)) [.bin .add (.ci 1) (.cf 99 [.x 0,.ci 2])]) []]),
  .own 2 [],
  .for1 3 (.call (.c (.bi .range)) [.bin .add (.ci 1) (.cf 99 [.x 0,.ci 3])]) [.asg 4 (.comp (.call (.c (.bi .tuple)) [.comp (.cf 109 [.x 0,.x 7]) 7 (.x 1) []]) 6 (.call (.c (.bi .range)) [.bin .add (.ci 1) (.cf 99 [.x 0,.ci 2])]) []),
  .app 2 (.tup [.tupX 4,.cf 103 [.x 0]])],
  .ret (.tup [.cs [101,118,97,108,117,97,116,101],.x 1,.tupX 2,.ite (.cmp .eq (.cf 99 [.x 0,.ci 2]) (.ci 0)) (.cf 103 [.x 0]) (.tup [])])]
noncomputable def FR:List MS:=[.asg 2 (.call (.c (.cls 5)) [.cf 102 [.x 0]]),
  .asgA (.x 2) .named (.dct [.str [73,83,45,79,78]] [.bool true]),
  .asg 3 (.call (.x 1) [.x 2,.c (.fn 105)]),
  .ret (.ite (.mcall (.x 2) .isDone []) (.x 3) (.c .none))]
noncomputable def FQ:List MS:=[.asgT [0,1] [.tup [.cs [110,117,109,98,101,114],.tup [.ci 1,.ci 0]],.tup [.cs [114,101,102],.cs [65],.tup [],.tup [],.c .none]],
  .asg 2 (.cs [69,86,65,76,85,65,84,69,32,65,32,65,76,83,79,32,84,82,85,69,32,87,72,69,78,32,78,79,84,32,49,32,84,72,82,85,32,45,51,32,65,76,83,79,32,65,78,89,32,87,72,69,78,32,78,79,84,32,49,32,65,76,83,79,32,70,65,76,83,69,32,69,88,73,84,32,87,72,69,78,32,79,84,72,69,82,32,67,79,78,84,73,78,85,69,32,69,78,68,45,69,86,65,76,85,65,84,69]),
  .asg 3 (.tup [.tup [.tup [.cs [116,104,114,117],.x 0,.tup [.cs [110,117,109,98,101,114],.tup [.neg (.ci 3),.ci 0]],.c (.bool true)],.tup [.cs [97,110,121]]],.tup [.tup [.cs [105,115],.x 0,.c (.bool true)],.tup [.cs [110,111]]]]),
  .asg 4 (.tup [.cs [101,118,97,108,117,97,116,101],.tup [.tup [.cs [119,111,114,116,104],.x 1],.tup [.cs [121,101,115]]],.tup [.tup [.x 3,.tup [.tup [.cs [101,120,105,116]]]]],.tup [.tup [.cs [99,111,110,116,105,110,117,101]]]]),
  .ite (.or [.cmp .ne (.cf 66 [.x 4,.c (.fn 104)]) (.x 2),.cmp .ne (.cf 111 [.x 2,.c (.fn 97)]) (.x 4)])
  [.ret (.c (.bool false))]
  [],
  .ite (.cmp .ne (.cf 63 [.tup [.cs [105,102],.tup [.cs [114,101,108],.cs [60,62],.x 1,.x 0],.tup [.tup [.cs [101,120,105,116]]],.tup [.tup [.cs [99,111,110,116,105,110,117,101]]]],.c (.fn 104)]) (.cs [73,70,32,65,32,78,79,84,32,61,32,49,32,84,72,69,78,32,69,88,73,84,32,69,76,83,69,32,67,79,78,84,73,78,85,69,32,69,78,68,45,73,70]))
  [.ret (.c (.bool false))]
  [],
  .tryE [.expr (.cf 63 [.tup [.cs [105,102],.tup [.cs [114,101,108],.cs [61],.x 1,.x 0],.tup [],.tup []],.c (.fn 104)]),
  .ret (.c (.bool false))] 2 [.ret (.c (.bool true))]]
noncomputable def AV:List MS:=[.asg 1 (.cf 98 [.x 0]),
  .ite (.not (.cf 112 []))
  [.ret (.c (.bool false))]
  [],
  .asg 2 (.cf 110 [.x 1]),
  .ite (.cmp .ne (.cf 111 [.cf 66 [.x 2,.c (.fn 104)],.c (.fn 97)]) (.x 2))
  [.ret (.c (.bool false))]
  [],
  .asg 3 (.tup [.cs [105,102],.cf 107 [.x 1,.ci 2],.cf 103 [.x 1],.ite (.cmp .eq (.cf 99 [.x 1,.ci 2]) (.ci 0)) (.cf 103 [.x 1]) (.tup [])]),
  .ret (.cmp .eq (.cf 111 [.cf 63 [.x 3,.c (.fn 104)],.c (.fn 92)]) (.x 3))]
noncomputable def l_0:List MS:=[.ret (.cf 27 [.x 0,.bin .add (.x 1) (.ci 1)])]
noncomputable def l_1:List MS:=[.ret (.cmp .isIn (.x 0) (.attr (.x 2) .named))]
structure dm where
 num:Nat
 top:Nat
 sub:Option Nat
 npar:Nat
 dflt:List V
 slots:List (Str×Nat)
 body:List MS
noncomputable def rows:List dm:=[
 ⟨3,7,none,2,[(.int 0)],[("units",0),("scale",1)],b_3⟩,
 ⟨4,8,none,1,[],[("a",0)],b_4⟩,
 ⟨6,10,none,1,[],[("a",0)],b_6⟩,
 ⟨8,12,none,1,[],[("figures",0),("number",1),("figure",2)],b_8⟩,
 ⟨9,13,none,1,[],[("text",0),("begin",1),("ahead",2),("behind",3),("point",4),("at",5),("units",6)],b_9⟩,
 ⟨10,14,none,1,[],[("a",0),("figures",1)],Jm⟩,
 ⟨11,16,some 0,5,[(.tup [(.int 0),(.int 0)]),(.bool false)],[("self",0),("kind",1),("worth",2),("at",3),("is_in_a",4)],Jl⟩,
 ⟨13,17,none,1,[],[("text",0)],Jk⟩,
 ⟨14,22,none,1,[],[("reader",0),("depth",1),("ahead",2)],qn⟩,
 ⟨15,23,none,2,[],[("reader",0),("read_expr",1),("found",2)],FO⟩,
 ⟨16,24,none,2,[],[("reader",0),("read_expr",1),("begin",2),("length",3)],Jj⟩,
 ⟨17,25,none,2,[],[("reader",0),("read_expr",1),("name",2),("qualifiers",3),("subscripts",4),("part",5)],xa⟩,
 ⟨18,26,none,1,[],[("reader",0),("figure",1)],Ji⟩,
 ⟨19,27,none,1,[],[("reader",0)],Jh⟩,
 ⟨20,28,none,2,[],[("reader",0),("read_expr",1),("figure",2)],Jg⟩,
 ⟨21,29,none,1,[],[("octets",0)],Jf⟩,
 ⟨22,30,none,2,[],[("subscripts",0),("show_expr",1),("texts",2)],Je⟩,
 ⟨23,31,none,2,[],[("ref",0),("show_expr",1),("found",2),("length",3)],w9⟩,
 ⟨24,32,none,2,[],[("operand",0),("show_expr",1)],Jd⟩,
 ⟨25,39,none,1,[],[("reader",0)],Jc⟩,
 ⟨26,40,none,2,[],[("reader",0),("signs",1),("token",2)],Jb⟩,
 ⟨27,41,none,2,[],[("reader",0),("depth",1),("found",2),("sign",3)],Ja⟩,
 ⟨28,42,none,2,[],[("reader",0),("depth",1),("found",2),("sign",3)],I9⟩,
 ⟨29,43,none,2,[],[("reader",0),("depth",1),("sign",2),("is_own",3),("found",4)],I8⟩,
 ⟨30,44,none,1,[],[("reader",0),("token",1),("behind",2)],I7⟩,
 ⟨31,45,none,2,[],[("reader",0),("depth",1),("found",2)],I6⟩,
 ⟨32,46,none,2,[],[("reader",0),("depth",1),("found",2)],I5⟩,
 ⟨33,47,none,1,[],[("expr",0)],I4⟩,
 ⟨34,48,none,2,[],[("expr",0),("least",1),("text",2)],I3⟩,
 ⟨35,49,none,1,[],[("expr",0),("pieces",1),("here",2)],I0⟩,
 ⟨36,50,none,1,[],[("expr",0)],IZ⟩,
 ⟨37,51,none,1,[],[("expr",0)],IY⟩,
 ⟨38,59,none,2,[(.int 0)],[("reader",0),("ahead",1),("token",2)],FN⟩,
 ⟨39,60,none,2,[],[("reader",0),("ahead",1),("token",2)],IX⟩,
 ⟨40,61,none,1,[],[("reader",0),("ahead",1)],IW⟩,
 ⟨41,62,none,1,[],[("reader",0),("ahead",1),("word",2)],IV⟩,
 ⟨42,63,none,1,[],[("reader",0)],IU⟩,
 ⟨43,64,some 0,4,[],[("self",0),("reader",1),("is_named",2),("depth",3)],IT⟩,
 ⟨44,64,some 1,1,[],[("self",0),("found",1)],ka⟩,
 ⟨45,64,some 2,1,[],[("self",0),("found",1)],kO⟩,
 ⟨46,64,some 3,1,[],[("self",0)],IS⟩,
 ⟨47,64,some 4,1,[],[("self",0),("start",1),("error",2),("elder",3),("far",4)],IR⟩,
 ⟨48,64,some 5,1,[],[("self",0),("subject",1)],FM⟩,
 ⟨49,64,some 6,1,[],[("self",0),("found",1)],IQ⟩,
 ⟨50,64,some 7,1,[],[("self",0)],IP⟩,
 ⟨51,64,some 8,1,[],[("self",0)],IO⟩,
 ⟨52,64,some 9,2,[],[("self",0),("subject",1),("word",2),("is_not",3),("found",4)],Do⟩,
 ⟨53,64,some 10,2,[],[("self",0),("subject",1),("is_not",2),("sign",3)],FL⟩,
 ⟨54,64,some 11,1,[],[("self",0),("token",1),("sign",2)],IN⟩,
 ⟨55,65,none,2,[.none],[("reader",0),("is_named",1)],IM⟩,
 ⟨56,66,none,1,[],[("cond",0),("sign",1)],FK⟩,
 ⟨57,67,none,1,[],[("cond",0)],IL⟩,
 ⟨58,68,none,2,[],[("cond",0),("least",1),("text",2)],IK⟩,
 ⟨59,69,none,1,[],[("cond",0)],IJ⟩,
 ⟨60,70,none,1,[],[("cond",0),("pieces",1),("here",2)],w8⟩,
 ⟨61,72,none,1,[],[("parts",0)],II⟩,
 ⟨62,73,none,2,[],[("statements",0),("show",1)],IH⟩,
 ⟨63,74,none,2,[],[("statement",0),("show",1),("others",2)],FJ⟩,
 ⟨64,75,none,1,[],[("part",0),("text",1)],IG⟩,
 ⟨65,76,none,1,[],[("parts",0)],IF⟩,
 ⟨66,77,none,2,[],[("statement",0),("show",1),("told",2),("rows",3),("statements",4)],FI⟩,
 ⟨67,81,none,1,[],[("word",0)],IE⟩,
 ⟨68,82,none,1,[],[("text",0),("numbers",1)],ID⟩,
 ⟨69,83,some 0,3,[(.int 0)],[("self",0),("tokens",1),("at",2)],IC⟩,
 ⟨70,83,some 1,2,[(.int 0)],[("self",0),("ahead",1)],FH⟩,
 ⟨71,83,some 2,1,[],[("self",0)],IB⟩,
 ⟨72,83,some 3,2,[],[("self",0),("what",1)],IA⟩,
 ⟨73,83,some 4,1,[],[("self",0),("token",1)],Iz⟩,
 ⟨74,83,some 5,3,[(.int 0)],[("self",0),("kind",1),("ahead",2),("token",3)],FG⟩,
 ⟨75,83,some 6,2,[],[("self",0),("words",1),("ahead",2),("word",3)],Iy⟩,
 ⟨76,83,some 7,2,[],[("self",0),("words",1)],Ix⟩,
 ⟨77,83,some 8,2,[],[("self",0),("words",1)],Iw⟩,
 ⟨78,83,some 9,2,[],[("self",0),("words",1),("word",2)],Iv⟩,
 ⟨80,83,some 11,2,[(.int 0)],[("self",0),("ahead",1)],Iu⟩,
 ⟨81,83,some 12,1,[],[("self",0)],It⟩,
 ⟨83,83,some 14,3,[(.int 0)],[("self",0),("sign",1),("ahead",2)],FF⟩,
 ⟨84,83,some 15,2,[],[("self",0),("sign",1)],Ir⟩,
 ⟨85,83,some 16,2,[],[("self",0),("sign",1)],Iq⟩,
 ⟨86,83,some 17,1,[],[("self",0)],Ip⟩,
 ⟨87,83,some 18,1,[],[("self",0),("is_below",1),("found",2)],Io⟩,
 ⟨90,83,some 21,1,[],[("self",0),("found",1)],Im⟩,
 ⟨91,85,none,2,[],[("reader",0),("read_body",1),("body",2)],Il⟩,
 ⟨92,87,none,2,[],[("reader",0),("read_body",1),("cond",2),("yes",3),("no",4)],Ik⟩,
 ⟨93,88,none,1,[],[("reader",0),("mark",1),("found",2),("is_named",3)],Dn⟩,
 ⟨94,89,none,1,[],[("reader",0),("worth",1)],Ij⟩,
 ⟨95,90,none,2,[],[("reader",0),("subject",1),("is_not",2),("worth",3)],Ii⟩,
 ⟨96,91,none,2,[],[("reader",0),("subjects",1),("row",2),("subject",3)],Ih⟩,
 ⟨97,92,none,2,[],[("reader",0),("read_body",1),("subjects",2),("whens",3),("rows",4),("others",5)],gO⟩,
 ⟨98,94,none,1,[],[("script",0),("cells",1),("great",2),("state",3),("cell",4)],w7⟩,
 ⟨99,95,none,2,[],[("box",0),("limit",1),("place",2),("digit",3)],Ig⟩,
 ⟨100,96,none,2,[(.bool false)],[("box",0),("is_plain",1),("name",2),("qualifiers",3),("way",4),("one",5),("index",6),("subscripts",7),("part",8)],xg⟩,
 ⟨101,97,none,2,[],[("box",0),("sorts",1),("sort",2)],xf⟩,
 ⟨102,98,none,1,[],[("text",0),("found",1),("word",2)],AW⟩,
 ⟨103,99,none,1,[],[("box",0)],FW⟩,
 ⟨104,100,none,1,[],[("statement",0)],FV⟩,
 ⟨105,101,none,1,[],[("reader",0),("found",1)],xe⟩,
 ⟨106,102,none,1,[],[("box",0),("one",1),("other",2)],FU⟩,
 ⟨107,103,none,2,[],[("box",0),("depth",1),("way",2)],xb⟩,
 ⟨108,104,none,1,[],[("box",0),("way",1)],FT⟩,
 ⟨109,105,none,2,[],[("box",0),("subject",1),("way",2),("is_not",3),("one",4)],FS⟩,
 ⟨110,106,none,1,[],[("box",0),("subjects",1),("whens",2),("turn",3),("rows",4)],oW⟩,
 ⟨111,107,none,2,[],[("text",0),("read",1),("reader",2),("found",3)],FR⟩,
 ⟨112,108,none,0,[],[("one",0),("ref",1),("text",2),("rows",3),("choice",4)],FQ⟩,
 ⟨113,109,none,1,[],[("script",0),("box",1),("choice",2),("test",3)],AV⟩]
noncomputable def iD:List (Str×V):=[
 (Str.ofString "cut_quotient",.fn 2),
 (Str.ofString "decimal",.fn 3),
 (Str.ofString "negated",.fn 4),
 (Str.ofString "units_at",.fn 5),
 (Str.ofString "is_whole",.fn 6),
 (Str.ofString "whole_of",.fn 7),
 (Str.ofString "worth_of",.fn 8),
 (Str.ofString "read_decimal",.fn 9),
 (Str.ofString "write_decimal",.fn 10),
 (Str.ofString "quoted",.fn 13),
 (Str.ofString "is_part_next",.fn 14),
 (Str.ofString "read_subscripts",.fn 15),
 (Str.ofString "read_part",.fn 16),
 (Str.ofString "read_ref",.fn 17),
 (Str.ofString "read_all",.fn 18),
 (Str.ofString "read_figure",.fn 19),
 (Str.ofString "read_operand",.fn 20),
 (Str.ofString "shown_octets",.fn 21),
 (Str.ofString "shown_subscripts",.fn 22),
 (Str.ofString "show_ref",.fn 23),
 (Str.ofString "show_operand",.fn 24),
 (Str.ofString "read_expression",.fn 25),
 (Str.ofString "sign_among",.fn 26),
 (Str.ofString "read_sum",.fn 27),
 (Str.ofString "read_product",.fn 28),
 (Str.ofString "read_factor",.fn 29),
 (Str.ofString "is_lone_number",.fn 30),
 (Str.ofString "read_power",.fn 31),
 (Str.ofString "read_primary",.fn 32),
 (Str.ofString "level_of",.fn 33),
 (Str.ofString "bracketed",.fn 34),
 (Str.ofString "show_expression",.fn 35),
 (Str.ofString "right_part",.fn 36),
 (Str.ofString "show_signed",.fn 37),
 (Str.ofString "word_here",.fn 38),
 (Str.ofString "is_relation_at",.fn 39),
 (Str.ofString "place_of_word",.fn 40),
 (Str.ofString "is_predicate_here",.fn 41),
 (Str.ofString "is_bare_relation_here",.fn 42),
 (Str.ofString "read_condition",.fn 55),
 (Str.ofString "show_relation",.fn 56),
 (Str.ofString "strength_of",.fn 57),
 (Str.ofString "in_place",.fn 58),
 (Str.ofString "show_simple",.fn 59),
 (Str.ofString "show_condition",.fn 60),
 (Str.ofString "joined",.fn 61),
 (Str.ofString "show_body",.fn 62),
 (Str.ofString "show_if",.fn 63),
 (Str.ofString "show_part",.fn 64),
 (Str.ofString "show_parts",.fn 65),
 (Str.ofString "show_evaluate",.fn 66),
 (Str.ofString "is_reserved",.fn 67),
 (Str.ofString "octets_of_text",.fn 68),
 (Str.ofString "body_here",.fn 91),
 (Str.ofString "read_if",.fn 92),
 (Str.ofString "worth_here",.fn 93),
 (Str.ofString "read_subject",.fn 94),
 (Str.ofString "read_object",.fn 95),
 (Str.ofString "read_objects",.fn 96),
 (Str.ofString "read_evaluate",.fn 97),
 (Str.ofString "_law_box",.fn 98),
 (Str.ofString "_law_draw",.fn 99),
 (Str.ofString "_law_ref",.fn 100),
 (Str.ofString "_law_operand",.fn 101),
 (Str.ofString "_law_tokens",.fn 102),
 (Str.ofString "_law_body",.fn 103),
 (Str.ofString "_law_shown",.fn 104),
 (Str.ofString "_law_read_body",.fn 105),
 (Str.ofString "_law_expr",.fn 106),
 (Str.ofString "_law_cond",.fn 107),
 (Str.ofString "_law_subject",.fn 108),
 (Str.ofString "_law_object",.fn 109),
 (Str.ofString "_law_evaluate",.fn 110),
 (Str.ofString "_law_back",.fn 111),
 (Str.ofString "_law_written",.fn 112),
 (Str.ofString "law",.fn 113),
 (Str.ofString "LedgerError",.cls 0),
 (Str.ofString "TokenFault",.cls 1),
 (Str.ofString "GrammarFault",.cls 2),
 (Str.ofString "Token",.cls 3),
 (Str.ofString "ConditionReader",.cls 4),
 (Str.ofString "Reader",.cls 5),
 (Str.ofString "len",.bi .len),
 (Str.ofString "abs",.bi .abs),
 (Str.ofString "min",.bi .min),
 (Str.ofString "str",.bi .str),
 (Str.ofString "ord",.bi .ord),
 (Str.ofString "chr",.bi .chr),
 (Str.ofString "int",.bi .int),
 (Str.ofString "bytes",.bi .bytes),
 (Str.ofString "tuple",.bi .tuple),
 (Str.ofString "list",.bi .list),
 (Str.ofString "range",.bi .range),
 (Str.ofString "reversed",.bi .reversed),
 (Str.ofString "FIGURES",ie),
 (Str.ofString "MOST_SUBSCRIPTS",dl),
 (Str.ofString "FIGURE_NAMES",b6),
 (Str.ofString "FIGURE_SHOWN",fh),
 (Str.ofString "MOST_DEEP_expressions",bU),
 (Str.ofString "SIGNED",jX),
 (Str.ofString "RAISED",jY),
 (Str.ofString "BARE",p7),
 (Str.ofString "LEVELS",dL),
 (Str.ofString "MOST_DEEP_conditions",bZ),
 (Str.ofString "OPPOSITES",iG),
 (Str.ofString "CLASSES",fL),
 (Str.ofString "WORDS_OF_SIGNS",bp),
 (Str.ofString "WORDS_OF_RELATIONS",be),
 (Str.ofString "RELATIONS",iE),
 (Str.ofString "MOST_OCTET",gI),
 (Str.ofString "RESERVED",gf)]
section
open PySem PySem.Spec PySem.Calls PyProof.Rows PySem.W
section
noncomputable def ST(l:List Nat):Str:=⟨l.toArray⟩
noncomputable def fZ:BI->Mu
 | .len=>.builtin "len"| .abs=>.builtin "abs"| .min=>.builtin "min"| .ord=>.builtin "ord"| .chr=>.builtin "chr"
 | .str=>.type "str"| .int=>.type "int"| .bytes=>.type "bytes"| .tuple=>.type "tuple"| .list=>.type "list"| .range=>.type "range"| .reversed=>.type "reversed"
noncomputable def Dp:List String:=["kind","worth","at","is_in_a","tokens","named","reader","is_named","depth","last","what","peek","is_done","fault","take","is_kind","is_word","skip","need","one_of","word","is_name","name","names","is_sign","skip_sign","need_sign","is_number","signed","whole","literal","octets","either","both","turned","single","unbracketed","in_brackets","subject_of_last","sign_of_last","predicate","relation","sign_here","join","index","replace","split","upper","lower","get","told"]
noncomputable def aH(a:At):Str:=Str.ofString (Dp.getD a.1 "")
noncomputable def iI:List At:=[.kind,.worth,.at_,.isInA,.tokens,.named,.reader,.isNamed,.depth,.last,.what,.peek,.isDone,.fault,.take,.isKind,.isWord,.skip,.need,.oneOf,.word,.isName,.name,.names,.isSign,.skipSign,.needSign,.isNumber,.signed,.whole,.literal,.octets,
 .either,.both,.turned,.single,.unbracketed,.inBrackets,.subjectOfLast,.signOfLast,.predicate,.relation,.signHere,.join,.index,.replace,.split,.upper,.lower,.get,.told]
noncomputable def ia:Nat->Nat
 |3=>11
 |4=>43
 |5=>69
 |_=>0
noncomputable def d8:List Mu->List Mu
 | .ref _::r=>d8 r
 |l=>l
noncomputable def prog0:Program:=PySem.Challenge.pw_pq0624_01
noncomputable def v8:List Mt:=[30,37,74,82,89,96,103,110,117,124,131,147,154,168,177,184,191,198,205,212,219,224,229,236,243,251,258,265,272,279,286,293,300,307,314,321,328,335,348,355,362,369,376,390,397,404,411,418,425,432,439,446,453,460,467,482,489,496,503,510,517,522,527,534,541,546,551,558,563,578,586,593,600,607,615,622,629,636,643,650,658,665,672,680,687,694,701,708,715,722,729,743,750,757,764,771,778,785,790,797,805,812,819,826,833,840,847,854,861,868,873,880,887,894]
noncomputable def qi:List Mt:=[40,53,65,157,470,732]
noncomputable def dM(i:Nat):Mt:=(v8[i]?).getD 30
noncomputable def bt(i:Nat):Mt:=(qi[i]?).getD 40
noncomputable def cG:Nat->Mt
 |0=>299
 |_=>481
noncomputable def cE:Nat->Str
 |0=>"read_primary.<locals>."
 |_=>"read_condition.<locals>."
noncomputable def eA(l:List Bool):Bool:=l.all id
noncomputable def na{A R:Type}(x:A->Nat)(k:Nat)(e:A)(f:x e=k->R):Option R:=if h:x e=k then some (f h)else none
noncomputable def FX{R:Type}(k:Nat)(e:Stmt)(f:e.ctorIdx=k->Option R):Option R:=if h:e.ctorIdx=k then f h else none
noncomputable def fnS(s:Stmt):Option (Arguments×List Stmt×Scope):=FX 0 s fun h=>Stmt.FunctionDef.elim (motive_2:=fun _=>Option (Arguments×List Stmt×Scope)) s h fun _ a b _ _ _ s _ _ _=>some (a,b,s)
noncomputable def H1(s:Stmt):Option (List Stmt):=FX 2 s fun h=>Stmt.ClassDef.elim (motive_2:=fun _=>Option (List Stmt)) s h fun _ _ _ b _ _ _ _ _ _ _=>some b
noncomputable def fk(p:Program)(i:Nat)(j:Option Nat):Option (Arguments×List Stmt×Scope):=(p.main.body[i]?).bind fun s=>match j with
 |none=>fnS s
 |some j=>(H1 s).bind fun b=>(b[j]?).bind fnS
noncomputable def jg(e:Mq)(h:e.ctorIdx=19):Const×Nat×Pos:=Expr.Constant.elim (motive_1:=fun _=>Const×Nat×Pos) e h fun a k p=>(a,k,p)
noncomputable def jk(e:Mq):Option (Const×Nat×Pos):=na PySem.Expr.ctorIdx 19 e (jg e)
noncomputable def pJ{α:Type}(k:α->α->Bool)(u v:Option α):Bool:=match u,v with
 |some x,some y=>k x y
 |_,_=>false
noncomputable def o8{α β:Type}(f:α->β->Bool)(l:List α):List β->Bool:=List.rec (motive:=fun _=>List β->Bool) List.isEmpty (fun a _ ih m=>List.casesOn (motive:=fun _=>Bool) m false fun b m=>f a b&&ih m) l
noncomputable def cV{α:Type}(f:α->Bool)(u:Option α):Bool:=match u with
 |some x=>f x
 |none=>false
noncomputable abbrev eD:=Mt->Option Obj
noncomputable def Gv(o:Obj)(t:String):Bool:=decide (o.cls=.type t)&&o.dict.isNone&&o.slots.isEmpty
noncomputable def AF(a:Mr)(h:a.ctorIdx=4):Int:=Value.int.elim (motive:=fun _=>Int) a h fun i _=>i
noncomputable def ox(a:Mr):Option (Int):=na PySem.Value.ctorIdx 4 a (AF a)
noncomputable def AD(a:Mr)(h:a.ctorIdx=6):Str:=Value.str.elim (motive:=fun _=>Str) a h fun i _=>i
noncomputable def iC(a:Mr):Option (Str):=na PySem.Value.ctorIdx 6 a (AD a)
noncomputable def AE(a:Mr)(h:a.ctorIdx=10):Mt:=Value.ref.elim (motive:=fun _=>Mt) a h fun i=>i
noncomputable def rx(a:Mr):Option (Mt):=na PySem.Value.ctorIdx 10 a (AE a)
noncomputable def vX(a:Data)(h:a.ctorIdx=2):Array Mr×Nat:=Data.seq.elim (motive:=fun _=>Array Mr×Nat) a h fun l n=>(l,n)
noncomputable def AA(a:Data):Option (Array Mr×Nat):=na Data.ctorIdx 2 a (vX a)
noncomputable def p6(a:Data)(h:a.ctorIdx=3):Array DictEntry×Nat:=Data.dict.elim (motive:=fun _=>Array DictEntry×Nat) a h fun l n=>(l,n)
noncomputable def mR(a:Data):Option (Array DictEntry×Nat):=na Data.ctorIdx 3 a (p6 a)
noncomputable def vY(a:Data)(h:a.ctorIdx=7):FuncData:=Data.func.elim (motive:=fun _=>FuncData) a h fun f=>f
noncomputable def vU(a:Data):Option (FuncData):=na Data.ctorIdx 7 a (vY a)
noncomputable def AG(a:Data)(h:a.ctorIdx=8):ClassData:=Data.cls.elim (motive:=fun _=>ClassData) a h fun f=>f
noncomputable def AB(a:Data):Option (ClassData):=na Data.ctorIdx 8 a (AG a)
noncomputable def vZ(a:Data)(h:a.ctorIdx=9):Array Mr:=Data.fields.elim (motive:=fun _=>Array Mr) a h fun f=>f
noncomputable def p0(a:Data):Option (Array Mr):=na Data.ctorIdx 9 a (vZ a)
noncomputable def AC(a:V)(h:a.ctorIdx=5):List V:=V.tup.elim (motive_1:=fun _=>List V) a h fun l=>l
noncomputable def Az(a:V):Option (List V):=na V.ctorIdx 5 a (AC a)
noncomputable def Fg(a:V)(h:a.ctorIdx=7):List (List Nat×V):=V.dS.elim (motive_1:=fun _=>List (List Nat×V)) a h fun l=>l
noncomputable def vV(a:V):Option (List (List Nat×V)):=na V.ctorIdx 7 a (Fg a)
noncomputable def qa(g:eD)(a:Mt):Option FuncData:=(g a).bind fun o=>vU o.data
noncomputable def Ef(o:Obj):Option (List Mr):=(AA o.data).bind fun r=>if Gv o "tuple" then some r.1.toList else none
noncomputable def tV(g:eD)(v:Mr):Option (List Mr):=((rx v).bind g).bind Ef
noncomputable def Ft(a:Mt)(o:Obj):Option (List DictEntry):=(mR o.data).bind fun r=>if(Gv o "dict"&& !(a==sysModules))=true then some r.1.toList else none
noncomputable def lF(g:eD)(v:Mr):Option (List DictEntry):=(rx v).bind fun a=>(g a).bind (Ft a)
noncomputable def uL(v:V)(a:Mr):Bool:=match v with
 | .none=>decide (a=.none)
 | .bool b=>decide (a=.bool b)
 | .int i=>cV (fun j=>decide (i=j)) (ox a)
 | .str s=>cV (fun x=>x.cps.toList==s) (iC a)
 | .fn i=>decide (a=.ref (dM i))
 | .cls i=>decide (a=.ref (bt i))
 | .bi b=>decide (a=fZ b)
 |_=>false
noncomputable def Am:List V->List Mr->Bool:=o8 uL
noncomputable def Hk(p:List Nat×V)(e:DictEntry):Bool:=cV (fun x=>x.cps.toList==p.1) (iC e.key)&&uL p.2 e.val
noncomputable def BV:List (List Nat×V)->List DictEntry->Bool:=o8 Hk
noncomputable def BW(g:eD)(v:V)(a:Mr):Bool:=uL v a||(cV (fun l=>cV (Am l) (tV g a)) (Az v)||cV (fun l=>cV (BV l) (lF g a)) (vV v))
noncomputable def Al(g:eD):List V->List Mr->Bool:=o8 (BW g)
noncomputable def C2:List Mt:=v8++qi++[39,52,64,156,469,731]
noncomputable def DC(g:eD):Frag:=C2.filterMap fun a=>(g a).map (a,·)
noncomputable def mH(g:eD)(id:Str):Option Mr:=(g mainGlobals).bind fun o=>(mR o.data).bind fun r=>Fast.tw16335722595253787840 r.1 id
noncomputable def Hz(f:Mr->Option Str)(q:Str)(w:Mr):Bool:=cV (fun n=>Fast.sEq n q) (f w)
noncomputable def AO(g:eD)(cd:Mr)(q:Str):Bool:=cV (fun o=>cV (fun vs=>cV (Hz iC q) vs[1]?) (p0 o.data)) ((rx cd).bind g)
noncomputable def Fu(g:eD)(dflt:List V)(v:Mr):Bool:=(decide (v=.none)&&dflt.isEmpty)||cV (Al g dflt) (tV g v)
noncomputable def fdL(g:eD)(r:dm)(fd:FuncData):List Bool:=[decide (fd.globals=mainGlobals),decide (fd.builtins=builtinsNs),fd.closure.isEmpty,AO g fd.code fd.qualname,Fu g r.dflt fd.defaults,
 decide (r.num=32->fd.code=.ref (cG 0)/\fd.qualname++".<locals>."=cE 0),decide (r.num=55->fd.code=.ref (cG 1)/\fd.qualname++".<locals>."=cE 1)]
noncomputable def HL(g:eD)(r:dm):Bool:=cV (fun fd=>eA (fdL g r fd)) (qa g (dM r.num))
noncomputable def BR:dm:=⟨0,1,some 0,3,[.tup [.int 0,.int 0]],[],[]⟩
noncomputable def Fc(c P:Mt)(o:Obj)(vs:Array Mr):List Bool:=[decide (o.cls=.type "code"),decide (vs[11]? =some (.ref P)),decide (vs.getD 11 .none=.ref P),(iC (vs.getD 18 .none)).isSome,(ox (vs.getD 7 .none)).isSome,
 decide (vs.getD 9 .none=.bool true∨vs.getD 9 .none=.bool false),(ox (vs.getD 10 .none)).isSome,decide (c≠P)]
noncomputable def jS(g:eD)(c P:Mt):Bool:=cV (fun o=>cV (fun vs=>eA (Fc c P o vs)) (p0 o.data)) (g c)
noncomputable def Ff(g:eD)(p:Str×V):Bool:=cV (fun a=>(Fast.sEq p.1 "RESERVED"&&(iC a).isSome)||BW g p.2 a) (mH g p.1)||
 ((mH g p.1).isNone&&cV (fun a=>uL p.2 a&& !(Fast.sEq p.1 "__name__")) (bootBuiltins p.1))
noncomputable def zE(x:Option (Option Mr))(v:Option Mr):Bool:=decide (x=some v)
noncomputable def ii:List Nat:=[3,4,5]
noncomputable def w5(l:List Mr):Option (List Mr):=match l with
 |v::l=>if v=.ref (bt 2)then some l else none
 |[]=>none
noncomputable def bmL(bm:List Mr):List Bool:=[bm.contains (.type "Exception"),bm.contains (.type "BaseException"), !bm.contains (.type "AttributeError"), !bm.contains (.type "NameError")]
noncomputable def lZ(l:List (Option Mr)):List (Option Mr):=[l.getD 0 none,l.getD 1 none,l.getD 2 none,l.getD 3 none,some (.builtin "Exception.__new__"),l.getD 5 none]
noncomputable def HR(o:Obj)(cd:ClassData)(bm:List Mr):List Bool:=[decide (o.cls=.type "type"),eA (bmL bm),decide (cd.hasDel=false),decide (o.slots.toList=lZ o.slots.toList)]
noncomputable def zI(g:eD):Bool:=cV (fun o=>cV (fun cd=>cV (fun bm=>eA (HR o cd bm)) (w5 cd.mro)) (AB o.data)) (g (bt 2))
noncomputable def kcL(K:Frag)(c:Nat):List Bool:=[plainGet K (bt c) "",zE (findIn K (.ref (bt c)) "__setattr__") (some (.builtin "object.__setattr__")),plainOver K (bt c),hasDictIn K (bt c),makesIn K (bt c),
  zE (findIn K (.ref (bt c)) "__init__") (some (.ref (dM (ia c)))),decide (typeIn K (.ref (dM (ia c)))=some (.type "function"))]
noncomputable def keL(K:Frag)(c:Nat):List Bool:=[decide (mroIn K (bt c) (.type "BaseException")=some true),decide (typeIn K (.ref (bt c))=some (.type "type")),decide (mroIn K (bt c) (.ref (bt c))=some true),(clsIn K (bt c)).isSome]
noncomputable def kL(K:Frag):List Bool:=
 [ii.all fun c=>eA (kcL K c),
  ii.all fun c=>iI.all fun a=> !cQ c a||zE (findIn K (.ref (bt c)) (aH a)) none,
  ii.all fun c=>iI.all fun a=>(meth c a).all fun i=>zE (findIn K (.ref (bt c)) (aH a)) (some (.ref (dM i)))&&isFn K (.ref (dM i)),
  v8.all fun a=>keepIn K (.ref a),qi.all fun a=>keepIn K (.ref a),
  ([0,1,2]:List Nat).all fun c=>eA (keL K c),
  zE (findIn K (.ref (bt 2)) "__init__") (some (.ref (dM 0))),decide (typeIn K (.ref (dM 0))=some (.type "function")),
  cV (fun cd=>decide (cd.hasDict=true/\d8 cd.mro=[.type "Exception",.type "BaseException",.type "object"])) (clsIn K (bt 2)),
  zE (findIn K (.ref (bt 2)) "__setattr__") (some (.builtin "object.__setattr__")),zE (findIn K (.ref (bt 2)) "what") none,zE (findIn K (.ref (bt 2)) "at") none,
  match findCls K (.type "Exception") (.type "type") "__init__" with|some (.val v)=>decide (v=.builtin "Exception.__init__")|_=>false]
noncomputable def kB(K:Frag):Bool:=eA (kL K)
noncomputable def Fb(g:eD):List Bool:=[rows.all (HL g),HL g BR,iD.all (Ff g),kB (DC g),jS g 299 295,jS g 481 477,zI g,(mH g "Exception").isNone,(g sysModules).isSome,(g 295).isNone,(g 477).isNone,(g mainGlobals).isSome]
noncomputable def vR(g:eD):Bool:=eA (Fb g)
noncomputable def j8(g:eD):List (Option (FuncBody×Scope×Arguments)):=rows.map fun r=>(qa g (dM r.num)).map fun fd=>(fd.body,fd.scope,fd.params)
noncomputable def m6:List (Option (FuncBody×Scope×Arguments)):=rows.map fun r=>(fk prog0 r.top r.sub).map fun x=>(.stmts x.2.1,x.2.2,x.1)
noncomputable def jT(g:eD):List (List Int):=iD.map fun p=>(vV p.2).elim [] fun _=>((mH g p.1).bind (lF g)).elim [] fun es=>es.map (·.hash)
noncomputable def mQ(w:World):List (List Int):=iD.map fun p=>(vV p.2).elim [] fun l=>l.map fun q=>hashStr w (ST q.1)
noncomputable def qX(g:eD):Str:=((mH g "RESERVED").bind iC).getD ""
noncomputable def DK(s:Stmt):Option Mq:=FX 5 s fun h=>Stmt.Assign.elim (motive_2:=fun _=>Option Mq) s h fun _ v _=>some v
noncomputable def HZ(c:Const):Str:=match c with
 | .str x=>x
 |_=>""
noncomputable def iR:Str:=(((prog0.main.body[80]?).bind DK).bind jk).elim "" fun r=>HZ r.1
noncomputable def qV:Program:={prog0 with main:={prog0.main with body:=prog0.main.body.drop 109}}
noncomputable def eg:List Str:=prog0.boundNames.filter fun n=> !(n==("law":Str))&& !(n==("__name__":Str))
noncomputable def n8:List Str:=importedModules prog0.main.body
noncomputable def Ho(n₀:Nat)(ann:Option Mr)(t:Thread):Bool:=Sem.casesOn (motive:=fun _=>Bool) t.cur (fun _=>Fast.tw6613529449190102663 n₀ ann t) (fun _=>true) (fun _=>true) (fun _=>true) (fun _ _=>true) (fun _ _=>true) (fun _ _ _=>true) (fun _ _ _ _=>Fast.tw6613529449190102663 n₀ ann t) (fun _ _=>true) (fun _ _=>true) (fun _ _=>true)
 (fun _ _=>false) (fun _=>true) (fun _=>true) (fun _ _ _=>true) (fun _ _ _=>false) (fun _ _ _ _ _=>true) (fun _ _=>true) (fun _ _=>true) (fun _ _=>true) (fun _ _ _ _=>true) (fun _ _ _ _=>Fast.tw6613529449190102663 n₀ ann t) (fun _=>true) (fun _ _=>false) (fun _=>true) (fun _ _ _ _ _=>false)
theorem Cq:Ho=stepOk:=by
 funext n a t
 unfold Ho
 rw[←Fast.te6613529449190102663]
 cases e:t.cur<;>simp[stepOk,Thread.calm,Thread.atCollectorCode,Thread.yieldsInsideHandler,e]
noncomputable def topRunT(ok:Thread->Bool)(st:SharedT->Thread->Option (SharedT×Thread)):Nat->SharedT->Thread->Option SharedT
 |0,_,_=>none
 |n+1,s,t=>match through t with
  |true=>some s
  |false=>match ok t with
   |false=>none
   |true=>match st s t with
    |some r=>topRunT ok st n r.1 r.2
    |none=>none
noncomputable def rz:List Obj->Nat->BT->Option (BT×Nat)
 |[],n,t=>some (t,n)
 |o::r,n,t=>match((t.ins n o).get n).isSome with
  |true=>rz r (n+1) (t.ins n o)
  |false=>none
noncomputable def FZ(sT:SharedT)(a:Mt):Option Obj:=match Nat.blt a sT.n with
 |true=>(sT.tree.get a).bind alive
 |false=>none
noncomputable def gT(sT:SharedT)(a:Mt):Option Obj:=match Nat.beq a 295||Nat.beq a 477 with
 |true=>none
 |false=>FZ sT a
noncomputable def yN(w:World)(os:OsState):Option SharedT:=(rz (boot_heap w.params).objs.toList 0 .nil).bind fun t=>
 topRunT (Ho (boot_heap w.params).objs.size ((boot_heap w.params).nsMap mainGlobals "__annotations__")) (Fast.tw10156331382660048174 (Fast.tw11892475500146522536 Fast.tw14364793385576792824) prog0 w) 12000 ⟨t.1,t.2,(boot_heap w.params).life, #[],boot_drawn,boot_toks,os⟩ (topStub prog0)
noncomputable def stQ(l m:Heap):Bool:=l.isNs cStatics&&m.isNs cStatics&&(l.nsKeys cStatics++m.nsKeys cStatics).all fun k=>
 Fast.tw4857012375875476094 k "type.__subclasses__."||Fast.tw4857012375875476094 k "type.first-doc."||((Fast.tw1584917186373303978 k||n8.any fun m=>(Fast.tw14846217769314788766 m).contains k)&&(Fast.tw8920871248978507458 l cStatics k).isNone)||@decide _ (@Option.instDecidableEq _ Fast.tw7966671052430208091 (Fast.tw8920871248978507458 m cStatics k) (Fast.tw8920871248978507458 l cStatics k))
noncomputable def uA(l:List Str)(k:Str):Bool:=l.any (Fast.sEq k)
theorem yM(l:List Str)(k:Str):l.contains k=uA l k:=by
 unfold uA
 rw[List.contains_eq_any_beq]
 congr;funext x
 rw[LF,Fast.sEq_iff,J7]
noncomputable def nbQ(h:Heap):Bool:=h.isNs mainGlobals&&(h.nsKeys mainGlobals).all fun k=>uA Fast.tw12749700546528644094 k||uA (Fast.tw18344453789297297638 prog0) k
noncomputable def lkQ(l m:Heap):Bool:=l.isNs mainGlobals&&m.isNs mainGlobals&&laidNames.all fun x=>decide (Fast.tw8920871248978507458 m mainGlobals x=Fast.tw8920871248978507458 l mainGlobals x)
noncomputable def yx(w:World)(s:SharedT):Bool:=stQ (boot_heap w.params) s.abs.heap&&nbQ s.abs.heap&&gensDone s.abs&&lkQ (boot_heap w.params) s.abs.heap
theorem yw{w:World}{s:SharedT}:yx w s=(staticsOk n8 (boot_heap w.params) s.abs.heap&&namesBound prog0 s.abs.heap&&gensDone s.abs&&laidKept (boot_heap w.params) s.abs.heap):=by
 unfold yx stQ nbQ lkQ staticsOk namesBound laidKept
 rw[←(funext fun l=>funext (yM l):_=uA), ←Fast.te8920871248978507458, ←Fast.te4857012375875476094, ←Fast.te1584917186373303978, ←Fast.te14846217769314788766, ←Fast.te12749700546528644094, ←Fast.te18344453789297297638, ←Fast.te7966671052430208091]
noncomputable def lg(w:World)(s:SharedT):=(yx w s,Fast.tw4187177175401517315 qV eg n8 (fun _=>true) true s.abs,vR (gT s),j8 (gT s),(qa (gT s) (dM 0)).map (fun fd=>(fd.body,fd.scope,fd.params)),jT (gT s),qX (gT s),FZ s 295,FZ s 477,Nat.beq s.toks 0)
noncomputable def oz(w:World):=(true,openGood qV eg,true,m6,(fk prog0 1 (some 0)).map fun x=>(FuncBody.stmts x.2.1,x.2.2,x.1),mQ w,iR,some (tabObj #[]),some (tabObj #[]),false)
theorem sG(w:World)(os:OsState):(yN (w.withFollow "special-get-raises" false) os).map (lg (w.withFollow "special-get-raises" false))=some (oz (w.withFollow "special-get-raises" false)):=by kernel_rfl
theorem uB(w:World)(os:OsState):(yN (w.withFollow "special-get-raises" true) os).map (lg (w.withFollow "special-get-raises" true))=some (oz (w.withFollow "special-get-raises" true)):=by kernel_rfl
end
end
section
def Up(s s':Ms):Prop:=s.toks<=s'.toks/\s.heap.objs.size<=s'.heap.objs.size
theorem Up.refl(s:Ms):Up s s:=⟨JL _,JL _⟩
theorem Up.trans{a b c:Ms}(x:Up a b)(y:Up b c):Up a c:=⟨JH x.1 y.1,JH x.2 y.2⟩
theorem Up.push(s:Ms)(o:Obj):Up s {s with heap:=s.heap.push o}:=⟨JL _,by show _<=(s.heap.push o).objs.size;rw[Heap.size_push];exact Lf _⟩
theorem Up.fresh(s:Ms):Up s {s with toks:=s.toks+1}:=⟨Lf _,JL _⟩
theorem Up.update(s:Ms)(a:Mt)(f:Obj->Obj):Up s {s with heap:=s.heap.update a f}:=⟨JL _,by show _<=(s.heap.update a f).objs.size;rw[Heap.size_update];exact JL _⟩
theorem Up.gen(s:Ms)(g:Nat)(x:GenState):Up s (s.setGen g x):=⟨JL _,JL _⟩
theorem Runs.up{M:Model}{Γ:Ctx}{p:Pos}{t:Sem Fin}{fs:List Frame}{s s':Ms}{e:End}(r:Runs M Γ p t fs s e s'):Up s s':=by
 induction r with
 |done|raise|yield=>exact .refl _
 |again _ _ ih|rule _ ih|«at» _ ih|load _ _ ih|loadIfAlive _ ih|point _ ih|ask _ ih|handled _ ih|genState _ _ ih|stack _ ih|thread _ ih=>exact ih
 |update _ _ ih=>exact(Up.update _ _ _).trans ih
 |alloc _ ih=>exact(Up.push _ _).trans ih
 |fresh _ ih=>exact(Up.fresh _).trans ih
 |choose _ _ ih|os _ ih|newGen _ ih=>exact⟨ih.1,ih.2⟩
 |call _ _ i1 i2=>exact i1.trans i2
 |callSusp _ ih=>exact ih
 |resumeFresh _ _ _ _ i1 i2|resumeSuspended _ _ _ _ i1 i2=>exact((Up.gen _ _ _).trans i1).trans ((Up.gen _ _ _).trans i2)
 |resumeJustStarted _ _ _ ih|resumeRunning _ _ ih|resumeFinished _ _ ih=>exact ih
 |resumeThrowFresh _ _ ih=>exact(Up.gen _ _ _).trans ih
 |segRet _ _ i1 i2=>exact i1.trans i2
 |segGen _ _ i1 i2=>exact i1.trans ((Up.gen _ _ _).trans i2)
 |segSuspOut _ _ ih=>exact ih
 |segSuspGen _ _ _ _ i1 i2=>exact i1.trans ((Up.gen _ _ _).trans i2)
theorem Wakes.up{M:Model}{Γ:Ctx}{p:Pos}{g:Nat}{r:Resume}{s s':Ms}{res:GenResult}(h:Wakes M Γ p g r s res s'):Up s s':=by
 unfold Wakes at h
 split at h
 ·exact h.elim
 ·split at h
  ·obtain⟨e₁,s₁,h1,_,_,rfl⟩:=h;exact((Up.gen _ _ _).trans (Runs.up h1)).trans (Up.gen _ _ _)
  ·obtain⟨_,rfl⟩:=h;exact .refl _
  ·obtain⟨_,rfl⟩:=h;exact Up.gen _ _ _
 ·obtain⟨e₁,s₁,h1,_,_,rfl⟩:=h;exact((Up.gen _ _ _).trans (Runs.up h1)).trans (Up.gen _ _ _)
 ·obtain⟨_,rfl⟩:=h;exact .refl _
 ·obtain⟨_,rfl⟩:=h;exact .refl _
theorem DF{α:Type}{M:Model}{Γ:Ctx}{Q:α->Pos->Ms->Prop}{E:Mu->Pos->Ms->Prop}(s₀:Ms):∀(t:Sem α) (p:Pos) (s:Ms),Up s₀ s->
  Sem.wp M Γ t (fun a p' s'=>Up s₀ s'->Q a p' s') (fun e p' s'=>Up s₀ s'->E e p' s') p s->Sem.wp M Γ t Q E p s:=by
 intro t
 induction t with
 |pure x=>exact fun p s u h=>h u
 |raise v=>exact fun p s u h=>h u
 |unsupported|finish|yield|fork|await|register=>exact fun _ _ _ h=>h
 |rule _ k ih|«at» _ k ih|loadIfAlive _ k ih|point _ k ih|ask k ih|handled _ k ih|stack k ih|thread k ih=>exact fun p s u h=>ih _ _ _ u h
 |os _ _ k ih|newGen _ k ih=>exact fun p s u h=>ih _ _ _ (u.trans ⟨JL _,JL _⟩) h
 |alloc _ k ih=>exact fun p s u h=>ih _ _ _ (u.trans (Up.push _ _)) h
 |fresh k ih=>exact fun p s u h=>ih _ _ _ (u.trans (Up.fresh _)) h
 |load a _ k ih|genState a k ih=>exact fun p s u qz=>qz.elim fun o qz=>⟨o,qz.1,ih _ _ _ u qz.2⟩
 |update a _ f k ih=>exact fun p s u qz=>⟨qz.1,ih _ _ _ (u.trans (Up.update _ _ _)) qz.2⟩
 |choose _ _ k ih=>exact fun p s u qz=>⟨qz.1,ih _ _ _ (u.trans ⟨JL _,JL _⟩) qz.2⟩
 |call c h g l k ih=>exact fun p s u qz=>qz.elim fun r qz=>qz.elim fun s' qz=>⟨r,s',qz.1,ih r p s' (u.trans (Runs.up qz.1)) qz.2⟩
 |resume g r l k ih=>exact fun p s u qz=>qz.elim fun res qz=>qz.elim fun s' qz=>⟨res,s',qz.1,ih _ _ _ (u.trans (Wakes.up qz.1)) qz.2⟩
theorem wpAny_up{α:Type}{M:Model}{A:Around}{t:Sem α}{Q:α->Ms->Prop}{E:Mu->Ms->Prop}{s:Ms}
  (h:wpAny M A t (fun a s'=>Up s s'->Q a s') (fun e s'=>Up s s'->E e s') s):wpAny M A t Q E s:=fun Γ p hΓ=>DF s t p s (.refl s) (h Γ p hΓ)
end
section
open PySem PySem.Spec PySem.Calls PyProof.Rows PySem.W
variable {X:Cx} {al':List (Mt×Mt)} {F F':Mt->Prop} {h h':Heap} {ce:List Mt} {v:V} {x:Mu} {al'':List (Mt×Mt)} {F'':Mt->Prop} {A:Around} {n:Nat} {lo:Mt->Prop} {mu mu':List aa} {s s₁ s₂ s₃:Ms} {env:Env} {lo':Mt->Prop} {m m':Str->Option Mu} {om om':Nat->Mt} {o:Option LV} {U:Call} {P:Prop} {α:Type} {e:Pg} {b:Bool} {sc:Sc} {st:St} {rho:List LV} {E:Mu->Ms->Prop} {rho':List LV} {sc':Sc} {alo:List (Mt×Mt)} {F₀:Mt->Prop} {s₀:Ms} {kf:KF} {ke:KE} {exm:Mt->Prop} {ali:List (Mt×Mt)} {F₁:Mt->Prop} {prog:Program} {w:World} {R:Result->Ms->Prop} {hb:Heap} {A':Around} {M:Model} {g:Array GenState} {d:Drawn} {os:OsState} {q:Str} {C N:Mt} {bs:List Mu} {hdct:Bool} {sn:List Str} {ab:Bool} {col:Option Bool} {dd:Option Mt} {k0 k1 k2 k3 k5:Option Mu}
section
inductive All2{α β:Type}(R:α->β->Prop):List α->List β->Prop
 |nil:All2 R [] []
 |cons {a:α} {b:β} {l:List α} {m:List β}:R a b->All2 R l m->All2 R (a::l) (b::m)
structure F9 where
 params:Arguments
 body:Mq
 scope:Scope
 qual:Str
 keeps:List Str
structure Cx where
 prog:Program
 w:World
 B:Heap
 K:Frag
 fnA:Nat->Mt
 clsA:Nat->Mt
 tabs:List Mt
 mg:Str->Option Mu
 lams:Nat->F9
 glob:Str->Option V
 lamTab:Nat->Mt
 lamPos:Nat->Pos
inductive z6(h:Heap)(a:Mt)(vs:List Mu):Prop
 |mk (n:Nat) (e:h.get? a=some {cls:=.type "tuple",data:=.seq vs.toArray n})
inductive gU(h:Heap)(a:Mt)(vs:List Mu):Prop
 |mk (n:Nat) (e:h.get? a=some {cls:=.type "list",data:=.seq vs.toArray n})
inductive rU(X:Cx)(F:Mt->Prop)(h:Heap)(i:Nat)(a:Mt)(cs:List Mt):Prop
 |mk (pm:Mu) (c:Mt) (ct:Mu) (oc:Obj) (vs:Array Mu) (t:Tok) (e:h.get? a=some {cls:=.type "function",data:=.func (kla_fn (Str.ofString "<lambda>") (X.lams i).qual (X.lams i).params (X.lams i).body (X.lams i).scope ((X.lams i).keeps.zip cs) pm (.ref c) ct)})
  (e2:h.get? c=some oc) (e3:oc.data=.fields vs) (e4:vs[1]? =some (.str (X.lams i).qual t)) (f:¬F a) (g:¬F c)
def pf(h:Heap)(a:Mt)(v:Mu):Prop:=h.get? a=some {cls:=.type "cell",data:=.cell (some v)}
noncomputable def dJ{α β:Type}[DecidableEq α](k:α):List (α×β)->Option β
 |[]=>Option.none
 |(a,v)::r=>if a=k then some v else dJ k r
inductive Aa(X:Cx)(h:Heap)(a:Mt)(l:List (List Nat×Mu)):Prop
 |mk (n:(a==sysModules)=false) (f:Str->Option Mu) (e:h.MapOf (strKind X.prog X.w) a f) (q:∀k,f (ST k)=dJ k l)
inductive Ab(X:Cx)(h:Heap)(a:Mt)(l:List (Int×Mu)):Prop
 |mk (n:(a==sysModules)=false) (f:Int->Option Mu) (e:h.MapOf (intKind X.prog X.w) a f) (q:∀k,f k=dJ k l)
inductive fz(w:World)(e:DictEntry)(p:At×Mu):Prop
 |mk (t:Tok) (k:e.key=.str (aH p.1) t) (h:e.hash=PyData.keyHash w.params (aH p.1)) (v:e.val=p.2)
inductive qB(w:World)(h:Heap)(d:Mt)(l:List (At×Mu)):Prop
 |mk (es:List DictEntry) (n:Nat) (e:h.get? d=some (dictOf es n)) (z:es.length<=20) (q:All2 (fz w) es l)
mutual
inductive Rep(X:Cx)(al:List (Mt×Mt))(F:Mt->Prop)(h:Heap):V->Mu->Prop
 |none:Rep X al F h .none .none
 |bool (b:Bool):Rep X al F h (.bool b) (.bool b)
 |int (i:Int) (t:Tok):Rep X al F h (.int i) (.int i t)
 |str (s:List Nat) (t:Tok):Rep X al F h (.str s) (.str (ST s) t)
 |bytes (b:Array UInt8) (t:Tok):Rep X al F h (.bytes (b.toList.map UInt8.toNat)) (.bytes b t)
 |tup {a:Mt} {vs:List Mu} {l:List V}:z6 h a vs->¬F a->ag X al F h l vs->Rep X al F h (.tup l) (.ref a)
 |lst {a:Mt} {vs:List Mu} {l:List V}:gU h a vs->¬F a->ag X al F h l vs->Rep X al F h (.lst l) (.ref a)
 |dS {a:Mt} {ks:List (List Nat)} {vs:List Mu} {l:List V}:Aa X h a (ks.zip vs)->¬F a->ks.length=vs.length->ag X al F h l vs->Rep X al F h (.dS (ks.zip l)) (.ref a)
 |dI {a:Mt} {ks:List Int} {vs:List Mu} {l:List V}:Ab X h a (ks.zip vs)->¬F a->ks.length=vs.length->ag X al F h l vs->Rep X al F h (.dI (ks.zip l)) (.ref a)
 |rng {a:Mt} {lo hi:Int} {t u v:Tok}:IsRange h a lo hi 1 t u v->¬F a->Rep X al F h (.rng lo hi) (.ref a)
 |ins {a d:Mt} {c:Nat} {ks:List At} {vs:List Mu} {l:List V}:h.get? a=some (instObj (X.clsA c) d)->qB X.w h d (ks.zip vs)->¬F a->¬F d->ks.length=vs.length->ag X al F h l vs->Rep X al F h (.ins c (ks.zip l)) (.ref a)
 |fn (i:Nat):Rep X al F h (.fn i) (.ref (X.fnA i))
 |cls (i:Nat):Rep X al F h (.cls i) (.ref (X.clsA i))
 |lam {i:Nat} {a:Mt} {cs:List Mt} {vs:List Mu} {l:List V}:rU X F h i a cs->(∀c∈cs,¬F c)->All2 (pf h) cs vs->ag X al F h l vs->Rep X al F h (.lam i l) (.ref a)
 |bi (b:BI):Rep X al F h (.bi b) (fZ b)
 |obj {i:Nat} {p:Mt×Mt}:al[i]? =some p->Rep X al F h (.obj i) (.ref p.1)
inductive ag(X:Cx)(al:List (Mt×Mt))(F:Mt->Prop)(h:Heap):List V->List Mu->Prop
 |nil:ag X al F h [] []
 |cons {v:V} {x:Mu} {l:List V} {xs:List Mu}:Rep X al F h v x->ag X al F h l xs->ag X al F h (v::l) (x::xs)
end
def kq(o:Obj):Prop:=o.cls≠ .type "frame"∨∃vs,o.data=.fields vs
def xA(o o':Obj):Prop:=o'=o∨((o.cls=.type "frame"/\∀vs,o.data≠ .fields vs)/\∃sl,o'={o with slots:=sl})
theorem xA.refl(o:Obj):xA o o:=.inl rfl
theorem xA.trans{a b c:Obj}(x:xA a b)(y:xA b c):xA a c:=by
 rcases x with rfl|⟨h,sl,rfl⟩
 ·exact y
 ·rcases y with rfl|⟨_,sl',rfl⟩
  ·exact .inr ⟨h,sl,rfl⟩
  ·exact .inr ⟨h,sl',rfl⟩
theorem xA.same{o o':Obj}(x:xA o o')(h:kq o):o'=o:=x.elim id fun y=>h.elim (fun h=>absurd y.1.1 h) fun qz=>qz.elim fun vs h=>absurd h (y.1.2 vs)
theorem xA.data{o o':Obj}(x:xA o o'):o'.data=o.data/\o'.cls=o.cls/\o'.dict=o.dict:=by
 rcases x with rfl|⟨_,sl,rfl⟩<;>exact⟨rfl,rfl,rfl⟩
inductive ae(h:Heap)(a:Mt):Prop
 |mk (o:Obj) (e:h.get? a=some o)
inductive Ga(h':Heap)(a:Mt)(o:Obj):Prop
 |mk (o':Obj) (e:h'.get? a=some o') (s:xA o o')
structure Tr(X:Cx)(ce:List Mt)(h:Heap)(F:Mt->Prop)(h':Heap)(F':Mt->Prop):Prop where
 live:∀a,ae h a->ae h' a
 keep:∀a o,h.get? a=some o->a∉ce->a∉X.tabs->Ga h' a o
 hot:∀a,F' a->F a∨¬ae h a
theorem Tr.refl{X:Cx}{ce:List Mt}{h:Heap}{F:Mt->Prop}:Tr X ce h F h F:=⟨fun _ q=>q,fun _ o e _ _=>⟨o,e,.refl o⟩,fun _ h=>.inl h⟩
theorem Tr.trans{X:Cx}{ce ce':List Mt}{h₁ h₂ h₃:Heap}{F₁ F₂ F₃:Mt->Prop}(x:Tr X ce h₁ F₁ h₂ F₂)(y:Tr X ce' h₂ F₂ h₃ F₃)(hc:∀a∈ce',a∈ce∨¬ae h₁ a):Tr X ce h₁ F₁ h₃ F₃:=by
 refine⟨fun a q=>y.live a (x.live a q),fun a o e hn ht=>?_,fun a ha=>?_⟩
 ·obtain⟨o',e',s⟩:=x.keep a o e hn ht
  have:a∉ce':=fun m=>(hc a m).elim hn fun q=>q ⟨o,e⟩
  obtain⟨o'',e'',s'⟩:=y.keep a o' e' this ht
  exact⟨o'',e'',s.trans s'⟩
 ·rcases y.hot a ha with q|q
  ·exact x.hot a q
  ·exact .inr fun l=>q (x.live a l)
section
variable {al:List (Mt×Mt)}
structure Ge(X:Cx)(ce:List Mt)(F:Mt->Prop):Prop where
 ce:∀a∈ce,F a
 tab:∀a∈X.tabs,F a
theorem Tr.at(x:Tr X ce h F h' F')(H:Ge X ce F){a:Mt}{o:Obj}(e:h.get? a=some o)(hF:¬F a)(hc:kq o):h'.get? a=some o/\¬F' a:=by
 obtain⟨o',e',s⟩:=x.keep a o e (fun m=>hF (H.ce a m)) (fun m=>hF (H.tab a m))
 rw[s.same hc]at e'
 exact⟨e',fun q=>(x.hot a q).elim hF fun q=>q ⟨o,e⟩⟩
def bB(h:Heap)(F:Mt->Prop)(h':Heap)(F':Mt->Prop):Prop:=∀a o,h.get? a=some o->¬F a->kq o->h'.get? a=some o/\¬F' a
theorem Tr.pre(x:Tr X ce h F h' F')(H:Ge X ce F):bB h F h' F':=fun _ _ e n c=>x.at H e n c
theorem bB.tys(x:bB h F h' F'){a:Mt}{o:Obj}{T:String}(e:h.get? a=some o)(c:o.cls=.type T)(n:¬F a)(ne:(T=="frame")=false:=by rfl):h'.get? a=some o/\¬F' a:=
 x a o e n (.inl fun z=>by rw[c]at z;injection z with z;subst z;cases ne)
theorem bB.refs(x:bB h F h' F'){a b:Mt}{o:Obj}(e:h.get? a=some o)(c:o.cls=.ref b)(n:¬F a):h'.get? a=some o/\¬F' a:=
 x a o e n (.inl fun z=>by rw[c]at z;cases z)
theorem bB.tup(x:bB h F h' F'){a:Mt}{vs:List Mu}(t:z6 h a vs)(hF:¬F a):z6 h' a vs/\¬F' a:=by
 obtain⟨n,e⟩:=t
 obtain⟨p,q⟩:=x.tys e rfl hF
 exact⟨⟨n,p⟩,q⟩
theorem bB.lst(x:bB h F h' F'){a:Mt}{vs:List Mu}(t:gU h a vs)(hF:¬F a):gU h' a vs/\¬F' a:=by
 obtain⟨n,e⟩:=t
 obtain⟨p,q⟩:=x.tys e rfl hF
 exact⟨⟨n,p⟩,q⟩
theorem bB.dctS(x:bB h F h' F'){a:Mt}{l:List (List Nat×Mu)}(t:Aa X h a l)(hF:¬F a):Aa X h' a l/\¬F' a:=by
 obtain⟨z,f,⟨o,es,n,e,r⟩,y⟩:=t
 obtain⟨p,q⟩:=x a _ e hF (.inl (by rw[r.1.1];simp))
 exact⟨⟨z,f,⟨o,es,n,p,r⟩,y⟩,q⟩
theorem bB.dctI(x:bB h F h' F'){a:Mt}{l:List (Int×Mu)}(t:Ab X h a l)(hF:¬F a):Ab X h' a l/\¬F' a:=by
 obtain⟨z,f,⟨o,es,n,e,r⟩,y⟩:=t
 obtain⟨p,q⟩:=x a _ e hF (.inl (by rw[r.1.1];simp))
 exact⟨⟨z,f,⟨o,es,n,p,r⟩,y⟩,q⟩
theorem bB.insD(x:bB h F h' F'){w:World}{a:Mt}{l:List (At×Mu)}(t:qB w h a l)(hF:¬F a):qB w h' a l/\¬F' a:=by
 obtain⟨es,n,e,z,r⟩:=t
 obtain⟨p,q⟩:=x a _ e hF (.inl (by simp[dictOf]))
 exact⟨⟨es,n,p,z,r⟩,q⟩
theorem bB.cells(x:bB h F h' F'){cs:List Mt}{vs:List Mu}(t:All2 (pf h) cs vs):(∀c∈cs,¬F c)->All2 (pf h') cs vs/\∀c∈cs,¬F' c:=by
 induction t with
 |nil=>exact fun _=>⟨.nil,fun _ m=>nm m⟩
 |cons a t ih=>
  intro hn
  have p:=x _ _ a (hn _ (.head _)) (.inl (by simp))
  have q:=ih fun c m=>hn c (.tail _ m)
  exact⟨.cons p.1 q.1,fun c m=>by cases m;exact p.2;exact q.2 c (by assumption)⟩
theorem bB.lamAt(x:bB h F h' F'){i:Nat}{a:Mt}{cs:List Mt}(t:rU X F h i a cs):rU X F' h' i a cs:=by
 obtain⟨pm,c,ct,oc,vs,t,e1,e2,e4,e5,n1,n2⟩:=t
 have p:=x a _ e1 n1 (.inl (by simp))
 have q:=x c _ e2 n2 (.inr ⟨_,e4⟩)
 exact⟨pm,c,ct,oc,vs,t,p.1,q.1,e4,e5,p.2,q.2⟩
inductive UnR(X:Cx)(al:List (Mt×Mt))(F:Mt->Prop)(h:Heap)(v:V)(l:List V)(xs:List Mu):Prop
 |mk (x:Mu) (ys:List Mu) (e:xs=x::ys) (R:Rep X al F h v x) (r:ag X al F h l ys)
def F5(X:Cx)(al:List (Mt×Mt))(F:Mt->Prop)(h:Heap)(l:List V)(xs:List Mu):Prop:=match l with
 |[]=>xs=[]
 |v::l=>UnR X al F h v l xs
theorem ag.inv{l:List V}{xs:List Mu}(R:ag X al F h l xs):F5 X al F h l xs:=by
 cases R with
 |nil=>exact rfl
 |cons a t=>exact⟨_,_,rfl,a,t⟩
theorem Rep.pre(x:bB h F h' F')(ha:∀(i:Nat) (p:Mt×Mt),al[i]? =some p->al'[i]? =some p){v:V}{y:Mu}(r:Rep X al F h v y):Rep X al' F' h' v y:=
 Rep.rec (motive_1:=fun v y _=>Rep X al' F' h' v y) (motive_2:=fun l ys _=>ag X al' F' h' l ys) .none .bool .int .str .bytes (fun t n _ r=>.tup (x.tup t n).1 (x.tup t n).2 r) (fun t n _ r=>.lst (x.lst t n).1 (x.lst t n).2 r)
  (fun t n e _ r=>.dS (x.dctS t n).1 (x.dctS t n).2 e r) (fun t n e _ r=>.dI (x.dctI t n).1 (x.dctI t n).2 e r) (fun t n=>.rng (x.tys t rfl n).1 (x.tys t rfl n).2)
  (fun t d n n' e _ r=>.ins (x.refs t rfl n).1 (x.insD d n').1 (x.refs t rfl n).2 (x.insD d n').2 e r) .fn .cls (fun f m c _ r=>.lam (x.lamAt f) (x.cells c m).2 (x.cells c m).1 r) .bi (fun e=>.obj (ha _ _ e)) .nil (fun _ _ a t=>.cons a t) r
theorem ag.pre(x:bB h F h' F')(ha:∀(i:Nat) (p:Mt×Mt),al[i]? =some p->al'[i]? =some p){l:List V}{ys:List Mu}(r:ag X al F h l ys):ag X al' F' h' l ys:=by
 induction l generalizing ys with
 |nil=>obtain rfl:=r.inv;exact .nil
 |cons v l ih=>obtain⟨_,_,rfl,a,t⟩:=r.inv;exact .cons (a.pre x ha) (ih t)
theorem Rep.tr(x:Tr X ce h F h' F')(H:Ge X ce F)(ha:∀(i:Nat) (p:Mt×Mt),al[i]? =some p->al'[i]? =some p){v:V}{y:Mu}(r:Rep X al F h v y):Rep X al' F' h' v y:=r.pre (x.pre H) ha
theorem ag.tr(x:Tr X ce h F h' F')(H:Ge X ce F)(ha:∀(i:Nat) (p:Mt×Mt),al[i]? =some p->al'[i]? =some p){v:List V}{y:List Mu}(r:ag X al F h v y):ag X al' F' h' v y:=r.pre (x.pre H) ha
inductive F4(X:Cx)(al:List (Mt×Mt))(F:Mt->Prop)(h:Heap)(l:List V)(x:Mu):Prop
 |mk (a:Mt) (vs:List Mu) (e:x=.ref a) (t:z6 h a vs) (f:¬F a) (r:ag X al F h l vs)
inductive F8(X:Cx)(al:List (Mt×Mt))(F:Mt->Prop)(h:Heap)(l:List V)(x:Mu):Prop
 |mk (a:Mt) (vs:List Mu) (e:x=.ref a) (t:gU h a vs) (f:¬F a) (r:ag X al F h l vs)
inductive DSR(X:Cx)(al:List (Mt×Mt))(F:Mt->Prop)(h:Heap)(l:List (List Nat×V))(x:Mu):Prop
 |mk (a:Mt) (ks:List (List Nat)) (vs:List Mu) (l':List V) (el:l=ks.zip l') (e:x=.ref a) (d:Aa X h a (ks.zip vs)) (f:¬F a) (n:ks.length=vs.length) (r:ag X al F h l' vs)
inductive DIR(X:Cx)(al:List (Mt×Mt))(F:Mt->Prop)(h:Heap)(l:List (Int×V))(x:Mu):Prop
 |mk (a:Mt) (ks:List Int) (vs:List Mu) (l':List V) (el:l=ks.zip l') (e:x=.ref a) (d:Ab X h a (ks.zip vs)) (f:¬F a) (n:ks.length=vs.length) (r:ag X al F h l' vs)
inductive Js(F:Mt->Prop)(h:Heap)(lo hi:Int)(x:Mu):Prop
 |mk (a:Mt) (t u v:Tok) (e:x=.ref a) (r:IsRange h a lo hi 1 t u v) (f:¬F a)
inductive Gc(X:Cx)(al:List (Mt×Mt))(F:Mt->Prop)(h:Heap)(c:Nat)(l:List (At×V))(x:Mu):Prop
 |mk (a d:Mt) (ks:List At) (vs:List Mu) (l':List V) (el:l=ks.zip l') (e:x=.ref a) (o:h.get? a=some (instObj (X.clsA c) d)) (i:qB X.w h d (ks.zip vs)) (f:¬F a) (g:¬F d) (n:ks.length=vs.length) (r:ag X al F h l' vs)
inductive JA(X:Cx)(al:List (Mt×Mt))(F:Mt->Prop)(h:Heap)(i:Nat)(l:List V)(x:Mu):Prop
 |mk (a:Mt) (cs:List Mt) (vs:List Mu) (e:x=.ref a) (t:rU X F h i a cs) (f:∀c∈cs,¬F c) (c:All2 (pf h) cs vs) (r:ag X al F h l vs)
inductive JG(l:List Nat)(x:Mu):Prop
 |mk (b:Array UInt8) (t:Tok) (el:l=b.toList.map UInt8.toNat) (e:x=.bytes b t)
def Ju(X:Cx)(al:List (Mt×Mt))(F:Mt->Prop)(h:Heap)(v:V)(x:Mu):Prop:=match v with
 | .none=>x=.none
 | .bool b=>x=.bool b
 | .int i=>∃t,x=.int i t
 | .str s=>∃t,x=.str (ST s) t
 | .bytes l=>JG l x
 | .tup l=>F4 X al F h l x
 | .lst l=>F8 X al F h l x
 | .dS l=>DSR X al F h l x
 | .dI l=>DIR X al F h l x
 | .rng lo hi=>Js F h lo hi x
 | .rev _=>False
 | .ins c l=>Gc X al F h c l x
 | .fn i=>x=.ref (X.fnA i)
 | .cls i=>x=.ref (X.clsA i)
 | .bi b=>x=fZ b
 | .lam i l=>JA X al F h i l x
 | .obj i=>∃p,al[i]? =some p/\x=.ref p.1
theorem Rep.inv{v:V}{x:Mu}(R:Rep X al F h v x):Ju X al F h v x:=by
 cases R with
 |none=>exact rfl
 |bool b=>exact rfl
 |int i t=>exact⟨t,rfl⟩
 |str s t=>exact⟨t,rfl⟩
 |bytes b t=>exact⟨b,t,rfl,rfl⟩
 |tup t f r=>exact⟨_,_,rfl,t,f,r⟩
 |lst t f r=>exact⟨_,_,rfl,t,f,r⟩
 |dS d f n r=>exact⟨_,_,_,_,rfl,rfl,d,f,n,r⟩
 |dI d f n r=>exact⟨_,_,_,_,rfl,rfl,d,f,n,r⟩
 |rng r f=>exact⟨_,_,_,_,rfl,r,f⟩
 |ins o i f g n r=>exact⟨_,_,_,_,_,rfl,rfl,o,i,f,g,n,r⟩
 |fn i=>exact rfl
 |cls i=>exact rfl
 |bi i=>exact rfl
 |lam t f c r=>exact⟨_,_,_,rfl,t,f,c,r⟩
 |obj e=>exact⟨_,e,rfl⟩
theorem ag.ind{P:List V->List Mu->Prop}(a:P [] [])(f:∀v x l xs,Rep X al F h v x->ag X al F h l xs->P l xs->P (v::l) (x::xs)){l:List V}{xs:List Mu}(r:ag X al F h l xs):P l xs:=by
 induction l generalizing xs with
 |nil=>obtain rfl:=r.inv;exact a
 |cons v l ih=>obtain⟨_,_,rfl,q,t⟩:=r.inv;exact f _ _ _ _ q t (ih t)
theorem cW{α:Type}{c:Prop}[Decidable c]{t:c->Option α}{a:α}(h:(if h:c then t h else none)=some a):c:=by
 by_cases hc:c
 ·exact hc
 ·rw[dif_neg hc]at h;cases h
theorem xo{v:V}{i:Int}(e:asInt v=some i):v=.int i:=
 V.int.elim (motive_1:=fun v=>asInt v=some i->v=.int i) v (cW e) (fun _ e=>congrArg V.int (J9 e)) e
theorem xk{v:V}{i:List Nat}(e:asStr v=some i):v=.str i:=
 V.str.elim (motive_1:=fun v=>asStr v=some i->v=.str i) v (cW e) (fun _ e=>congrArg V.str (J9 e)) e
theorem gQ{v:V}{i:List V}(e:asTup v=some i):v=.tup i:=
 V.tup.elim (motive_1:=fun v=>asTup v=some i->v=.tup i) v (cW e) (fun _ e=>congrArg V.tup (J9 e)) e
theorem ki{v:V}{i:List V}(e:asLst v=some i):v=.lst i:=
 V.lst.elim (motive_1:=fun v=>asLst v=some i->v=.lst i) v (cW e) (fun _ e=>congrArg V.lst (J9 e)) e
theorem zW{v:V}{i:List (List Nat×V)}(e:asDS v=some i):v=.dS i:=
 V.dS.elim (motive_1:=fun v=>asDS v=some i->v=.dS i) v (cW e) (fun _ e=>congrArg V.dS (J9 e)) e
theorem zX{v:V}{i:List (Int×V)}(e:asDI v=some i):v=.dI i:=
 V.dI.elim (motive_1:=fun v=>asDI v=some i->v=.dI i) v (cW e) (fun _ e=>congrArg V.dI (J9 e)) e
theorem oY{v:V}{i:Nat}(e:asObj v=some i):v=.obj i:=
 V.obj.elim (motive_1:=fun v=>asObj v=some i->v=.obj i) v (cW e) (fun _ e=>congrArg V.obj (J9 e)) e
theorem rS{v:V}{i:BI}(e:Dq v=some i):v=.bi i:=
 V.bi.elim (motive_1:=fun v=>Dq v=some i->v=.bi i) v (cW e) (fun _ e=>congrArg V.bi (J9 e)) e
theorem xq{v:V}{i:Nat×List (At×V)}(e:asIns v=some i):v=.ins i.1 i.2:=
 V.ins.elim (motive_1:=fun v=>asIns v=some i->v=.ins i.1 i.2) v (cW e) (fun _ _ e=>J9 e▸rfl) e
theorem u9{α:Type}{l:List α}{a:α}(e:one l=some a):l=[a]:=by
 cases l with
 |nil=>cases e
 |cons b l=>cases l with
  |nil=>exact congrArg (fun x=>[x]) (J9 e)
  |cons=>cases e
theorem tU{α:Type}{l:List α}{a:α×α}(e:two l=some a):l=[a.1,a.2]:=by
 cases l with
 |nil=>cases e
 |cons b l=>cases l with
  |nil=>cases e
  |cons c l=>cases l with
   |nil=>exact congrArg (fun x=>[x.1,x.2]) (J9 e)
   |cons=>cases e
section
theorem Rep.asInt{i:Int}(R:Rep X al F h v x)(e:asInt v=some i):∃t,x=.int i t:=by obtain rfl:=xo e;exact R.inv
theorem Rep.asStr{i:List Nat}(R:Rep X al F h v x)(e:asStr v=some i):∃t,x=.str (ST i) t:=by obtain rfl:=xk e;exact R.inv
theorem Rep.asTup{i:List V}(R:Rep X al F h v x)(e:asTup v=some i):F4 X al F h i x:=by obtain rfl:=gQ e;exact R.inv
theorem Rep.asLst{i:List V}(R:Rep X al F h v x)(e:asLst v=some i):F8 X al F h i x:=by obtain rfl:=ki e;exact R.inv
theorem Rep.asDS{i:List (List Nat×V)}(R:Rep X al F h v x)(e:asDS v=some i):DSR X al F h i x:=by obtain rfl:=zW e;exact R.inv
theorem Rep.asDI{i:List (Int×V)}(R:Rep X al F h v x)(e:asDI v=some i):DIR X al F h i x:=by obtain rfl:=zX e;exact R.inv
theorem Rep.asObj{i:Nat}(R:Rep X al F h v x)(e:asObj v=some i):∃p,al[i]? =some p/\x=.ref p.1:=by obtain rfl:=oY e;exact R.inv
theorem Rep.asIns{i:Nat×List (At×V)}(R:Rep X al F h v x)(e:asIns v=some i):Gc X al F h i.1 i.2 x:=by obtain rfl:=xq e;exact R.inv
theorem Rep.asCh{c:Nat}(R:Rep X al F h v x)(e:asCh v=some c):∃t,x=.str (ST [c]) t:=by
 obtain⟨s,e1,e2⟩:=Ku.mp e
 obtain rfl:=u9 e2
 exact R.asStr e1
theorem ag.one{l:List V}{xs:List Mu}(R:ag X al F h l xs)(e:one l=some v):∃x,xs=[x]/\Rep X al F h v x:=by
 obtain rfl:=u9 e
 obtain⟨x,ys,rfl,a,t⟩:=R.inv
 obtain rfl:=t.inv
 exact⟨x,rfl,a⟩
theorem ag.two{l:List V}{p:V×V}{xs:List Mu}(R:ag X al F h l xs)(e:two l=some p):∃x y,xs=[x,y]/\Rep X al F h p.1 x/\Rep X al F h p.2 y:=by
 obtain rfl:=tU e
 obtain⟨x,ys,rfl,a,r1⟩:=R.inv
 obtain⟨y,zs,rfl,b,r2⟩:=r1.inv
 obtain rfl:=r2.inv
 exact⟨x,y,rfl,a,b⟩
end
end
end
section
inductive xM(X:Cx)(h:Heap)(c:Nat)(a:Mt):Prop
 |mk (dd:Option Mt) (sl:_) (t:Mt) (e:h.get? a=some {cls:=.ref (X.clsA c),dict:=dd,data:=.fields #[.ref t,.none,.none,.none,.bool false,.none],slots:=sl})
inductive aE(X:Cx)(al:List (Mt×Mt))(F:Mt->Prop)(h:Heap):aa->Mt×Mt->Prop
 |lst {a:Mt} {l:List V} {vs:List Mu}:gU h a vs->ag X al F h l vs->aE X al F h (.lst l) (a,a)
 |ins {a d:Mt} {c:Nat} {ks:List At} {vs:List Mu} {l:List V}:3<=c->h.get? a=some (instObj (X.clsA c) d)->¬F a->qB X.w h d (ks.zip vs)->ks.length=vs.length->ag X al F h l vs->aE X al F h (.ins c (ks.zip l)) (a,d)
 |exc {a:Mt} {c:Nat}:c < 3->xM X h c a->aE X al F h (.ins c []) (a,a)
 |dead {a d:Mt} {o:Obj}:h.get? d=some o->o.cls≠ .type "frame"->o.cls≠ .type "cell"->aE X al F h .dead (a,d)
inductive Jx(X:Cx)(al:List (Mt×Mt))(F:Mt->Prop)(h:Heap)(l:List V)(p:Mt×Mt):Prop
 |mk (vs:List Mu) (t:gU h p.1 vs) (r:ag X al F h l vs) (q:p.2=p.1)
theorem aE.lstOf{X:Cx}{al:List (Mt×Mt)}{F:Mt->Prop}{h:Heap}{o:aa}{p:Mt×Mt}{l:List V}(q:aE X al F h o p)(e:Cr o=some l):Jx X al F h l p:=by
 cases q with
 |lst t r=>cases e;exact⟨_,t,r,rfl⟩
 |_=>cases e
noncomputable abbrev cells(al:List (Mt×Mt)):List Mt:=al.map (·.2)
inductive Dz(X:Cx)(F:Mt->Prop)(h:Heap)(i:Nat)(cv:Mu):Prop
 |mk (c:Mt) (oc:Obj) (vs:Array Mu) (t:Tok) (e:cv=.ref c) (e2:h.get? c=some oc) (e3:oc.data=.fields vs) (e4:vs[1]? =some (.str (X.lams i).qual t)) (f:¬F c)
inductive iL(X:Cx)(F:Mt->Prop)(h:Heap)(P:Mt):Prop
 |mk (ps:Array Mu) (e:h.get? P=some (tabObj ps)) (t:TriplesOk ps.toList) (q:∀i,X.lamTab i=P->∀cv,codeAmong (X.lamPos i) ps.toList=some cv->Dz X F h i cv)
theorem iL.move{X:Cx}{F F':Mt->Prop}{h h':Heap}{P:Mt}(t:iL X F h P)(p:bB h F h' F')(k:∀o,h.get? P=some o->h'.get? P=some o):iL X F' h' P:=by
 obtain⟨ps,e,ht,hc⟩:=t
 refine⟨ps,k _ e,ht,fun i hi cv hcv=>?_⟩
 obtain⟨c,oc,vs,t,e1,e2,e3,e4,e5⟩:=hc i hi cv hcv
 have:=p c oc e2 e5 (.inr ⟨_,e3⟩)
 exact⟨c,oc,vs,t,e1,this.1,e3,e4,this.2⟩
structure bT(X:Cx)(mu:List aa)(al:List (Mt×Mt))(F:Mt->Prop)(h:Heap):Prop where
 stays:∀b o,X.B.get? b=some o->h.get? b=some o
 hot:∀a,F a->ae h a/\X.B.get? a=none
 objs:All2 (aE X al F h) mu al
 cell:∀a∈cells al,F a
 tabs:∀a∈X.tabs,F a/\a∉cells al/\iL X F h a
 nodup:(cells al).Nodup
section
variable {al:List (Mt×Mt)}
theorem bT.hots(I:bT X mu al F h):Ge X (cells al) F:=⟨I.cell,fun a m=>(I.tabs a m).1⟩
theorem All2.cellAt{mu:List aa}{l:List (Mt×Mt)}(t:All2 (aE X al F h) mu l):∀a∈cells l,∃o,h.get? a=some o/\o.cls≠ .type "frame"/\o.cls≠ .type "cell":=by
 induction t with
 |nil=>exact fun _ m=>nm m
 |cons q t ih=>
  intro a m
  rcases JY.mp m with m|m
  ·rw[m]
   cases q with
   |lst e _=>exact e.casesOn fun n e=>⟨_,e,by simp⟩
   |ins _ _ _ e _ _=>exact e.casesOn fun es n e _ _=>⟨_,e,by simp[dictOf]⟩
   |exc _ e=>obtain⟨dd,sl,t,e⟩:=e;exact⟨_,e,by simp⟩
   |dead e h1 h2=>exact⟨_,e,h1,h2⟩
  ·exact ih a m
theorem All2.cellOf{mu:List aa}{l:List (Mt×Mt)}(t:All2 (aE X al F h) mu l)(a:Mt)(m:a∈cells l):∃o,h.get? a=some o/\o.cls≠ .type "frame":=(t.cellAt a m).imp fun _ q=>⟨q.1,q.2.1⟩
theorem All2.cellKind{mu:List aa}{l:List (Mt×Mt)}(t:All2 (aE X al F h) mu l)(a:Mt)(m:a∈cells l):∃o,h.get? a=some o/\o.cls≠ .type "cell":=(t.cellAt a m).imp fun _ q=>⟨q.1,q.2.2⟩
theorem bT.frameOff(I:bT X mu al F h){L:Mt}{o:Obj}(e:h.get? L=some o)(hc:o.cls=.type "frame"):L∉cells al/\L∉X.tabs:=by
 refine⟨fun m=>?_,fun m=>?_⟩
 ·obtain⟨o',e',c⟩:=I.objs.cellOf L m
  rw[e]at e';cases e';exact c hc
 ·obtain⟨ps,e',_⟩:=(I.tabs L m).2.2
  rw[e]at e';cases e';simp[tabObj]at hc
inductive JD(X:Cx)(h:Heap)(e:Env):Prop
 |mk (k:e.scope.kind=.function) (L:Mt) (o:Obj) (es ep:_) (e1:e.frame=some L) (e2:h.get? L=some o) (e3:o.cls=.type "frame") (e4:o.data=.dict es ep) (e5:X.B.get? L=none)
inductive Gh(X:Cx)(A:Around)(h:Heap):Prop
 |mk (l:List Env) (e:A.frames=some l) (q:∀e∈l,JD X h e)
structure bI(X:Cx)(A:Around)(n:Nat)(s:Ms):Prop where
 tk:s.toks≠0
 handled:A.handled=none
 depth:A.depth+2*n < recursionLimit
 units:A.units+12*n+200 < cLine
 frames:Gh X A s.heap
inductive Jw(h:Heap)(al al':List (Mt×Mt)):Prop
 |mk (more:List (Mt×Mt)) (e:al'=al++more) (q:∀p∈more,¬ae h p.2)
inductive Jt(s s':Ms):Prop
 |mk (tk:Nat) (e:s'={s with heap:=s'.heap,toks:=tk})
structure aT(X:Cx)(lo:Mt->Prop)(al:List (Mt×Mt))(F:Mt->Prop)(s:Ms)(al':List (Mt×Mt))(F':Mt->Prop)(s':Ms):Prop where
 tr:Tr X (cells al) s.heap F s'.heap F'
 ext:Jw s.heap al al'
 mono:∀a,lo a->F a->F' a
 rest:Jt s s'
theorem aT.refl:aT X lo al F s al F s:=⟨.refl,⟨[],by simp,fun _ m=>nm m⟩,fun _ _ h=>h,s.toks,rfl⟩
theorem aT.tok(t:Nat):aT X lo al F s al F {s with toks:=t}:=⟨.refl,⟨[],by simp,fun _ m=>nm m⟩,fun _ _ h=>h,t,rfl⟩
theorem aT.trans(x:aT X lo al F s₁ al' F' s₂)(y:aT X lo al' F' s₂ al'' F'' s₃):aT X lo al F s₁ al'' F'' s₃:=by
 obtain⟨m,rfl,hm⟩:=x.ext
 obtain⟨m',rfl,hm'⟩:=y.ext
 refine⟨x.tr.trans y.tr fun a ha=>?_,⟨m++m',by rw[JK],fun p hp=>?_⟩,fun a l q=>y.mono a l (x.mono a l q),?_⟩
 ·simp only[cells,Kc,Ki]at ha
  refine ha.imp id fun q=>?_
  obtain⟨p,hp,rfl⟩:=J5.mp q
  exact hm p hp
 ·rcases Ki.mp hp with q|q
  ·exact hm p q
  ·exact fun l=>hm' p q (x.tr.live _ l)
 ·obtain⟨t,e⟩:=x.rest
  obtain⟨t',e'⟩:=y.rest
  exact⟨t',by rw[e',e]⟩
theorem aT.idx(x:aT X lo al F s₁ al' F' s₂)(i:Nat)(p:Mt×Mt)(e:al[i]? =some p):al'[i]? =some p:=by
 obtain⟨m,rfl,_⟩:=x.ext
 rw[J6 (JT.mp e).1];exact e
theorem aT.rep(x:aT X lo al F s₁ al' F' s₂)(I:bT X mu al F s₁.heap){v:V}{y:Mu}(r:Rep X al F s₁.heap v y):Rep X al' F' s₂.heap v y:=r.tr x.tr I.hots x.idx
theorem aT.repL(x:aT X lo al F s₁ al' F' s₂)(I:bT X mu al F s₁.heap){v:List V}{y:List Mu}(r:ag X al F s₁.heap v y):ag X al' F' s₂.heap v y:=r.tr x.tr I.hots x.idx
theorem bI.aft(a:bI X A n s₁)(I:bT X mu al F s₁.heap)(x:aT X lo al F s₁ al' F' s₂)(u:Up s₁ s₂):bI X A n s₂:=by
 obtain⟨h0,h1,h2,h3,l,h4,h5⟩:=a
 refine⟨EM h0 u.1,h1,h2,h3,l,h4,fun e he=>?_⟩
 obtain⟨k,L,o,es,ep,e1,e2,e3,e4,e5⟩:=h5 e he
 obtain⟨n1,n2⟩:=I.frameOff e2 e3
 obtain⟨o',q,s⟩:=x.tr.keep L o e2 n1 n2
 exact⟨k,L,o',es,ep,e1,q,s.data.2.1.trans e3,s.data.1.trans e4,e5⟩
end
theorem bI.tok{X:Cx}{A:Around}{n:Nat}{s:Ms}(a:bI X A n s){t:Nat}(h:s.toks<=t):bI X A n {s with toks:=t}:=
 ⟨EM a.tk h,a.handled,a.depth,a.units,a.frames⟩
structure da where
 name:Str
 slot:Nat
 cell:Bool
 mine:Bool:=false
 deriving DecidableEq
structure Sc where
 vis:List da
 gl:List Str
 code:Option (Mt×Str):=none
inductive pe(X:Cx)(env:Env)(al:List (Mt×Mt))(F:Mt->Prop)(h:Heap)(x:Str)(v:V):Prop
 |mk (c:Mt) (a:Mu) (e1:env.cells.lookup x=some c) (e2:pf h c a) (e3:¬F c) (r:Rep X al F h v a)
inductive xH(X:Cx)(m:Str->Option Mu)(al:List (Mt×Mt))(F:Mt->Prop)(h:Heap)(x:Str)(v:V):Prop
 |mk (a:Mu) (e1:m x=some a) (r:Rep X al F h v a)
inductive nk(X:Cx)(lo:Mt->Prop)(m:Str->Option Mu)(o:Mt)(al:List (Mt×Mt))(F:Mt->Prop)(h:Heap)(x:da)(l:List V):Prop
 |mk (c:x.cell=false) (vs:List Mu) (e1:m x.name=some (.ref o)) (e2:gU h o vs) (r:ag X al F h l vs) (f:F o) (g:o∉cells al) (t:o∉X.tabs) (k:¬lo o)
theorem nk.of{X:Cx}{lo:Mt->Prop}{m:Str->Option Mu}{o o':Mt}{al:List (Mt×Mt)}{F:Mt->Prop}{h:Heap}{x:da}{l:List V}(e:o=o')(q:nk X lo m o' al F h x l):nk X lo m o al F h x l:=e▸q
inductive iM(X:Cx)(env:Env)(lo:Mt->Prop)(al:List (Mt×Mt))(F:Mt->Prop)(h:Heap)(x:da):Prop
 |mk (c:Mt) (e1:env.cells.lookup x.name=some c) (e2:h.get? c=some {cls:=.type "cell",data:=.cell none}) (f:F c) (g:c∉cells al) (t:c∉X.tabs) (m:x.mine=true->¬lo c/\∀z,env.cells.lookup z=some c->z=x.name)
def Jq(X:Cx)(env:Env)(m:Str->Option Mu)(al:List (Mt×Mt))(F:Mt->Prop)(h:Heap)(x:da)(v:V):Prop:=(x.cell=false->xH X m al F h x.name v)/\(x.cell=true->pe X env al F h x.name v)
def bq(X:Cx)(env:Env)(lo:Mt->Prop)(m:Str->Option Mu)(om:Nat->Mt)(al:List (Mt×Mt))(F:Mt->Prop)(h:Heap)(x:da)(o:Option LV):Prop:=
 o.elim (x.cell=true->iM X env lo al F h x) fun lv=>lv.casesOn (x.cell=true->iM X env lo al F h x) (Jq X env m al F h x) (nk X lo m (om x.slot) al F h x)
section
variable {al:List (Mt×Mt)} {x:da}
theorem bq.loc(hc:x.cell=false)(q:xH X m al F h x.name v):bq X env lo m om al F h x (some (.val v)):=⟨fun _=>q,fun z=>absurd (hc.symm.trans z) KX⟩
theorem bq.cel(hc:x.cell=true)(q:pe X env al F h x.name v):bq X env lo m om al F h x (some (.val v)):=⟨fun z=>absurd (z.symm.trans hc) KX,fun _=>q⟩
theorem bq.val{P:Prop}(q:bq X env lo m om al F h x (some (.val v)))(f:x.cell=false->xH X m al F h x.name v->P)(g:x.cell=true->pe X env al F h x.name v->P):P:=by
 cases c:x.cell
 ·exact f c (q.1 c)
 ·exact g c (q.2 c)
theorem bq.imp(q:bq X env lo m om al F h x o)(f1:∀v,xH X m al F h x.name v->xH X m' al' F' h' x.name v)(f2:∀v,pe X env al F h x.name v->pe X env al' F' h' x.name v)
  (f3:∀l,o=some (.own l)->nk X lo m (om x.slot) al F h x l->nk X lo' m' (om' x.slot) al' F' h' x l) (f4:x.cell=true->iM X env lo al F h x->iM X env lo' al' F' h' x):bq X env lo' m' om' al' F' h' x o:=by
 cases o with
 |none=>exact fun z=>f4 z (q z)
 |some lv=>cases lv with
  |unset=>exact fun z=>f4 z (q z)
  |val v=>exact⟨fun z=>f1 v (q.1 z),fun z=>f2 v (q.2 z)⟩
  |own l=>exact f3 l rfl q
end
inductive Jy(X:Cx)(L:Mt)(lo:Mt->Prop)(al:List (Mt×Mt))(F:Mt->Prop)(h:Heap):Prop
 |mk (o:Obj) (es ep:_) (e:h.get? L=some o) (e2:o.data=.dict es ep) (g:L∉cells al) (t:L∉X.tabs) (k:¬lo L) (f:F L)
structure kr(X:Cx)(env:Env)(sc:Sc)(lo:Mt->Prop)(rho:List LV)(m:Str->Option Mu)(om:Nat->Mt)(al:List (Mt×Mt))(F:Mt->Prop)(h:Heap):Prop where
 kind:env.scope.kind=.function
 glob:env.globals=mainGlobals
 bl:env.builtins=builtinsNs
 locs:Jy X env.locals lo al F h
 prot:∀a,lo a->ae h a
 ns:h.Ns env.locals m
 gls:∀x∈sc.gl,env.kindOf x=some .globalImplicit
 names:∀x∈sc.vis,if x.cell then env.kindOf x.name=some .cell∨env.kindOf x.name=some .free else env.kindOf x.name=some .local
 vars:∀x∈sc.vis,bq X env lo m om al F h x rho[x.slot]?
 code:∀c q,sc.code=some (c,q)->env.code=.ref c/\env.qual=q
 owns:∀(i j:Nat) (l l':List V),rho[i]? =some (.own l)->rho[j]? =some (.own l')->i≠j->om i≠om j
structure aO(X:Cx)(env:Env)(sc:Sc)(lo:Mt->Prop)(m:Str->Option Mu)(om:Nat->Mt)(st:St)(al:List (Mt×Mt))(F:Mt->Prop)(s:Ms):Prop where
 inv:bT X st.mu al F s.heap
 fr:kr X env sc lo st.loc m om al F s.heap
inductive b9(X:Cx)(al:List (Mt×Mt))(F:Mt->Prop)(h hb:Heap)(a:Mt)(fl:Mu)(vs:Array Mu):Prop
 |mk (T:Mt) (oT:Obj) (ts:Array Mu) (e:vs[1]? =some (.ref T)) (f:F T) (g:T∉cells al/\T∉X.tabs) (l:¬ae hb T) (n:T≠a) (e2:h.get? T=some oT) (e3:oT.data=.fields ts) (e4:ts[3]? =some fl)
inductive dP(X:Cx)(c:Nat)(a:Mt)(mu:List aa)(al:List (Mt×Mt))(h:Heap)(ok:Array Mu->Prop):Prop
 |mk (j:Nat) (o:Obj) (vs:Array Mu) (t:Mt) (e1:mu[j]? =some .dead) (e2:al[j]? =some (a,a)) (e3:h.get? a=some o) (e4:o.cls=.ref (X.clsA c)) (e5:o.data=.fields vs) (e6:vs[0]? =some (.ref t)) (q:ok vs)
inductive gi(X:Cx)(c:Nat)(e:Mu)(mu:List aa)(al:List (Mt×Mt))(F:Mt->Prop)(h hb:Heap):Prop
 |mk (a:Mt) (z:e=.ref a) (f:dP X c a mu al h fun vs=>vs[1]? =some .none∨b9 X al F h hb a .none vs)
theorem b9.based{X:Cx}{al:List (Mt×Mt)}{F:Mt->Prop}{h hb hb':Heap}{a:Mt}{fl:Mu}{vs:Array Mu}(k:∀a,ae hb' a->ae hb a)(q:b9 X al F h hb a fl vs):b9 X al F h hb' a fl vs:=by
 obtain⟨T,oT,ts,q1,q2,q3,q4,q5,q6,q7,q8⟩:=q
 exact⟨T,oT,ts,q1,q2,q3,fun l=>q4 (k _ l),q5,q6,q7,q8⟩
theorem dP.imp{X:Cx}{c:Nat}{a:Mt}{mu:List aa}{al:List (Mt×Mt)}{h:Heap}{P Q:Array Mu->Prop}(x:dP X c a mu al h P)(f:∀vs,P vs->Q vs):dP X c a mu al h Q:=by
 obtain⟨j,o,vs,t,h1,h2,h3,h4,h5,h6,h7⟩:=x
 exact⟨j,o,vs,t,h1,h2,h3,h4,h5,h6,f vs h7⟩
theorem gi.based{X:Cx}{c:Nat}{e:Mu}{mu:List aa}{al:List (Mt×Mt)}{F:Mt->Prop}{h hb hb':Heap}(fl:gi X c e mu al F h hb)(k:∀a,ae hb' a->ae hb a):gi X c e mu al F h hb':=by
 obtain⟨a,e1,x⟩:=fl
 exact⟨a,e1,x.imp fun _ q=>q.imp id (b9.based k)⟩
inductive RP(X:Cx)(al:List (Mt×Mt))(F:Mt->Prop)(s:Ms)(k:V->List aa->Prop)(v:Mu)(s':Ms):Prop
 |mk (r:V) (mu':List aa) (al':List (Mt×Mt)) (F':Mt->Prop) (h:k r mu') (R:Rep X al' F' s'.heap r v) (b:aT X (ae s.heap) al F s al' F' s') (I:bT X mu' al' F' s'.heap)
inductive RX(X:Cx)(al:List (Mt×Mt))(F:Mt->Prop)(s:Ms)(k:Nat->List aa->Prop)(e:Mu)(s':Ms):Prop
 |mk (c:Nat) (mu':List aa) (al':List (Mt×Mt)) (F':Mt->Prop) (h:k c mu') (R:gi X c e mu' al' F' s'.heap s.heap) (b:aT X (ae s.heap) al F s al' F' s') (I:bT X mu' al' F' s'.heap)
noncomputable def Wd(X:Cx)(n:Nat):Call:=fun f args mu kv ke=>
 ∀A s al F fv vals,bI X A n s->bT X mu al F s.heap->Rep X al F s.heap f fv->ag X al F s.heap args vals->
  wpAny (model X.prog X.w) A (call fv vals)
   (RP X al F s kv) (RX X al F s ke) s
inductive EP(X:Cx)(n:Nat)(env:Env)(sc:Sc)(lo:Mt->Prop)(m:Str->Option Mu)(om:Nat->Mt)(al:List (Mt×Mt))(F:Mt->Prop)(s:Ms)(k:V->St->Pg)(v:Mu)(s':Ms):Prop
 |mk (r:V) (st':St) (al':List (Mt×Mt)) (F':Mt->Prop) (h:wp (Wd X n) (k r st')) (R:Rep X al' F' s'.heap r v) (b:aT X lo al F s al' F' s') (N:aO X env sc lo m om st' al' F' s')
inductive XP(X:Cx)(n:Nat)(env:Env)(sc:Sc)(lo:Mt->Prop)(m:Str->Option Mu)(om:Nat->Mt)(al:List (Mt×Mt))(F:Mt->Prop)(s:Ms)(k:KE)(e:Mu)(s':Ms):Prop
 |mk (c:Nat) (st':St) (al':List (Mt×Mt)) (F':Mt->Prop) (h:wp (Wd X n) (k c st')) (R:gi X c e st'.mu al' F' s'.heap s.heap) (b:aT X lo al F s al' F' s') (N:aO X env sc lo m om st' al' F' s')
def ah(X:Cx)(n:Nat)(sc:Sc)(e:Mq)(me:ME):Prop:=
 ∀env A s lo st m om al F k ke,bI X A n s->aO X env sc lo m om st al F s->wp (Wd X n) (ev me (.v k) ke st)->
  wpAny (model X.prog X.w) A (eval e env) (EP X n env sc lo m om al F s k) (XP X n env sc lo m om al F s ke) s
section
variable {o:Option α} {k:α->Pg}
theorem els_ok(h:wp U (els o k e))(go:∀a,o=some a->wp U (k a)->P)(no:wp U e->P):P:=match o,h,go with
 |some a,h,go=>go a rfl h
 |none,h,_=>no h
theorem wu(h:wp U (els o k e))(go:∀a,o=some a->wp U (k a)->P)(no:o=none->wp U e->P):P:=match o,h,go,no with
 |some a,h,go,_=>go a rfl h
 |none,h,_,no=>no rfl h
theorem ad(h:wp U (opt o k))(go:∀a,o=some a->wp U (k a)->P):P:=els_ok h go False.elim
theorem bc(h:wp U (gate b e))(go:b=true->wp U e->P):P:=match b,h,go with
 |true,h,go=>go rfl h
 |false,h,_=>False.elim h
theorem mK{o:Option LV}{f:V->Pg}{g:List V->Pg}(h:wp U (mL o f g))(a:∀v,o=some (.val v)->wp U (f v)->P)(b:∀l,o=some (.own l)->wp U (g l)->P):P:=by
 cases o with
 |none=>exact h.elim
 |some lv=>cases lv with
  |unset=>exact h.elim
  |val v=>exact a v rfl h
  |own l=>exact b l rfl h
theorem B4{loc:List LV}{i:Nat}{l:List V}(e:gv loc i=some l):loc[i]? =some (.own l):=by
 unfold gv at e
 cases q:loc[i]? with
 |none=>rw[q]at e;cases e
 |some lv=>rw[q]at e;cases lv<;>cases e;rfl
theorem tT{loc:List LV}{i:Nat}(e:mM loc i=true):loc[i]? =some .unset:=by
 unfold mM at e
 cases q:loc[i]? with
 |none=>rw[q]at e;cases e
 |some lv=>rw[q]at e;cases lv<;>first|rfl|cases e
end
end
section
variable {al:List (Mt×Mt)}
theorem ae.grow(k:∀b o,h.get? b=some o->h'.get? b=some o){a:Mt}(l:ae h a):ae h' a:=l.casesOn fun o e=>⟨o,k _ _ e⟩
theorem Tr.grow{ce:List Mt}(k:∀b o,h.get? b=some o->h'.get? b=some o):Tr X ce h F h' F:=⟨fun _ l=>l.grow k,fun a o e _ _=>⟨o,k a o e,.refl o⟩,fun _ q=>.inl q⟩
theorem bB.grow(k:∀b o,h.get? b=some o->h'.get? b=some o):bB h F h' F:=fun _ _ e q _=>⟨k _ _ e,q⟩
theorem aE.pre(x:bB h F h' F')(k:∀b o,h.get? b=some o->(b∈cells al)->h'.get? b=some o)(ha:∀(i:Nat) (p:Mt×Mt),al[i]? =some p->al'[i]? =some p){o:aa}{p:Mt×Mt}(hp:p.2∈cells al)(q:aE X al F h o p):aE X al' F' h' o p:=by
 cases q with
 |lst e r=>obtain⟨n,e⟩:=e;exact .lst ⟨n,k _ _ e hp⟩ (r.pre x ha)
 |ins c e f d z r=>
  obtain⟨es,n,e',r',r'_1⟩:=d
  have p:=x _ _ e f (.inl (by simp[instObj]))
  exact .ins c p.1 p.2 ⟨es,n,k _ _ e' hp,r',r'_1⟩ z (r.pre x ha)
 |exc c e=>obtain⟨dd,sl,t,e⟩:=e;exact .exc c ⟨dd,sl,t,k _ _ e hp⟩
 |dead e h1 h2=>exact .dead (k _ _ e hp) h1 h2
theorem cK(x:bB h F h' F')(k:∀b o,h.get? b=some o->(b∈cells al)->h'.get? b=some o)(ha:∀(i:Nat) (p:Mt×Mt),al[i]? =some p->al'[i]? =some p){mu:List aa}{l:List (Mt×Mt)}(hl:∀p∈l,p.2∈cells al)(q:All2 (aE X al F h) mu l):All2 (aE X al' F' h') mu l:=
 All2.rec (motive:=fun mu l _=>(∀p∈l,p.2∈cells al)->All2 (aE X al' F' h') mu l) (fun _=>.nil) (fun q _ t hl=>.cons (q.pre x k ha (hl _ (.head _))) (t fun p hp=>hl p (.tail _ hp))) q hl
theorem bT.grow(I:bT X mu al F h)(k:∀b o,h.get? b=some o->h'.get? b=some o):bT X mu al F h':=
 ⟨fun b o e=>k b o (I.stays b o e),fun a q=>⟨(I.hot a q).1.grow k,(I.hot a q).2⟩,
  cK (.grow k) (fun b o e _=>k b o e) (fun _ _ e=>e) (fun p hp=>J5.mpr ⟨p,hp,rfl⟩) I.objs,I.cell,fun a q=>⟨(I.tabs a q).1,(I.tabs a q).2.1,(I.tabs a q).2.2.move (.grow k) (k a)⟩,I.nodup⟩
theorem bq.grow(k:∀b o,h.get? b=some o->h'.get? b=some o){x:da}{v:Option LV}(q:bq X env lo m om al F h x v):bq X env lo m om al F h' x v:=by
 have p:bB h F h' F:=.grow k
 exact q.imp (fun v z=>z.casesOn fun a e1 e4=>⟨a,e1,e4.pre p fun _ _ e=>e⟩) (fun v z=>z.casesOn fun c a e1 e2 e3 e4=>⟨c,a,e1,k _ _ e2,e3,e4.pre p fun _ _ e=>e⟩)
  (fun l _ z=>z.casesOn fun c vs e1 e2 e3 r r1 r2 r3=>⟨c,vs,e1,e2.casesOn fun n e2=>⟨n,k _ _ e2⟩,e3.pre p (fun _ _ e=>e),r,r1,r2,r3⟩) fun _ z=>z.casesOn fun c e1 e2 r r_1 r_2 r_3=>⟨c,e1,k _ _ e2,r,r_1,r_2,r_3⟩
theorem kr.grow(R:kr X env sc lo rho m om al F h)(k:∀b o,h.get? b=some o->h'.get? b=some o):kr X env sc lo rho m om al F h':=
 ⟨R.kind,R.glob,R.bl,R.locs.casesOn fun o es ep e r r_1 r_2 r_3 r_4=>⟨o,es,ep,k _ _ e,r,r_1,r_2,r_3,r_4⟩,fun a l=>(R.prot a l).grow k,R.ns.keeps k,R.gls,R.names,fun x hx=>(R.vars x hx).grow k,R.code,R.owns⟩
theorem aO.grow(N:aO X env sc lo m om st al F s)(k:∀b o,s.heap.get? b=some o->h'.get? b=some o){t:Nat}:aO X env sc lo m om st al F {s with heap:=h',toks:=t}:=⟨N.inv.grow k,N.fr.grow k⟩
theorem aO.tok(N:aO X env sc lo m om st al F s){t:Nat}:aO X env sc lo m om st al F {s with toks:=t}:=⟨N.inv,N.fr⟩
theorem aT.grow(k:∀b o,s.heap.get? b=some o->h'.get? b=some o){t:Nat}:aT X lo al F s al F {s with heap:=h',toks:=t}:=
 ⟨.grow k,⟨[],by simp,fun _ m=>nm m⟩,fun _ _ q=>q,t,rfl⟩
theorem av(h:Heap):¬ae h h.objs.size:=fun qz=>qz.casesOn fun _ e=>absurd (Heap.lt_size e) (Mf _)
theorem aO.new(N:aO X env sc lo m om st al F s):¬F s.heap.objs.size:=fun q=>absurd (N.inv.hot _ q).1 (av _)
theorem aP{k:V->St->Pg}{r:V}{v:Mu}{t:Nat}(N:aO X env sc lo m om st al F s)(hk:wp (Wd X n) (k r st))(g:∀b o,s.heap.get? b=some o->h'.get? b=some o)(R:Rep X al F h' r v):
  EP X n env sc lo m om al F s k v {s with heap:=h',toks:=t}:=⟨r,st,al,F,hk,R,.grow g,N.grow g⟩
theorem az{k:V->St->Pg}{r:V}{v:Mu}{t:Nat}(N:aO X env sc lo m om st al F s)(hk:wp (Wd X n) (k r st))(R:Rep X al F s.heap r v):
  EP X n env sc lo m om al F s k v {s with toks:=t}:=⟨r,st,al,F,hk,R,.tok t,N.tok⟩
theorem bD{k:V->St->Pg}{r:V}{v:Mu}(N:aO X env sc lo m om st al F s)(hk:wp (Wd X n) (k r st))(R:Rep X al F s.heap r v):
  EP X n env sc lo m om al F s k v s:=⟨r,st,al,F,hk,R,.refl,N⟩
theorem EP.from{k:V->St->Pg}{v:Mu}{s':Ms}(a:aT X lo al F s al' F' s₁)(e:EP X n env sc lo m om al' F' s₁ k v s'):EP X n env sc lo m om al F s k v s':=by
 obtain⟨r,st',al'',F'',hk,R,b,N⟩:=e
 exact⟨r,st',al'',F'',hk,R,a.trans b,N⟩
theorem XP.from{k:KE}{v:Mu}{s':Ms}(a:aT X lo al F s al' F' s₁)(e:XP X n env sc lo m om al' F' s₁ k v s'):XP X n env sc lo m om al F s k v s':=by
 obtain⟨r,st',al'',F'',hk,R,b,N⟩:=e
 exact⟨r,st',al'',F'',hk,R.based a.tr.live,a.trans b,N⟩
theorem af(o:Obj):∀b x,h.get? b=some x->(h.push o).get? b=some x:=fun _ _ e=>KL _ e
theorem aC{e:Mq}{me:ME}{k:V->St->Pg}{ke:KE}{Q:Mu->Ms->Prop}{E:Mu->Ms->Prop}
  (he:ah X n sc e me) (a:bI X A n s) (N:aO X env sc lo m om st al F s) (hE:∀v s',XP X n env sc lo m om al F s ke v s'->E v s') (h:wp (Wd X n) (ev me (.v k) ke st))
  (go:∀r v st' al' F' s',wp (Wd X n) (k r st')->Rep X al' F' s'.heap r v->aT X lo al F s al' F' s'->aO X env sc lo m om st' al' F' s'->bI X A n s'->Q v s'):
  wpAny (model X.prog X.w) A (eval e env) Q E s:=
 wpAny_up (J0 (he env A s lo st m om al F k ke a N h) (fun v s' qz u=>qz.casesOn fun r st' al' F' hk R b N'=>go r v st' al' F' s' hk R b N' (a.aft N.inv b u)) fun v s' x _=>hE v s' x)
def tH(X:Cx)(sc:Sc)(n:Nat)(e:Mq)(me:ME):Prop:=
 ∀env A s lo st m om al F kv ke,aO X env sc lo m om st al F s->wp (Wd X n) (ev me (.v kv) ke st)->
  wpAny (model X.prog X.w) A (eval e env) (EP X n env sc lo m om al F s kv) (XP X n env sc lo m om al F s ke) s
theorem tH.ok{e:Mq}{me:ME}(q:tH X sc n e me):ah X n sc e me:=fun env A s lo st m om al F kv ke _ N h=>q env A s lo st m om al F kv ke N h
theorem uS{k pos}:tH X sc n (.Constant .none k pos) (.c .none):=fun _ _ _ _ _ _ _ _ _ _ _ N h=>wpAny_Constant_none (bD N h .none)
theorem uT{b k pos}:tH X sc n (.Constant (.bool b) k pos) (.c (.bool b)):=fun _ _ _ _ _ _ _ _ _ _ _ N h=>wpAny_Constant_bool (bD N h (.bool b))
theorem zb{k pos}:ah X n sc (.Constant .none k pos) (.c .none):=uS.ok
theorem zh{b k pos}:ah X n sc (.Constant (.bool b) k pos) (.c (.bool b)):=uT.ok
theorem Ci{i k pos}:ah X n sc (.Constant (.int i) k pos) (.c (.int i)):=fun _ _ _ _ _ _ _ _ _ _ _ _ N h=>wpAny_Constant_int (az N h (.int i _))
theorem qA(x:Str):ST x.cps.toList=x:=by cases x;simp[ST]
theorem Ca{x:Str}{k pos}:ah X n sc (.Constant (.str x) k pos) (.c (.str x.cps.toList)):=fun env A s lo st m om al F kv ke a N h=>
 Lr (az N h (by have:=Rep.str (X:=X) (al:=al) (F:=F) (h:=s.heap) x.cps.toList s.toks;rw[qA]at this;exact this))
theorem vk{x:List UInt8}{k pos}:ah X n sc (.Constant (.bytes x) k pos) (.c (.bytes (x.map UInt8.toNat))):=fun env A s lo st m om al F kv ke a N h=>by
 have:EP X n env sc lo m om al F s kv (.bytes x.toArray s.toks) {s with toks:=s.toks+1}:=az N h (by have:=Rep.bytes (X:=X) (al:=al) (F:=F) (h:=s.heap) x.toArray s.toks;simpa using this)
 exact fun Γ p hΓ=>this
theorem dK{p q:Prop}{b:Bool}(hc:b=false)(h:if b then p else q):q:=by subst hc;exact h
theorem q0{id:Str}{v:da}{pos}(hv:v∈sc.vis)(hn:v.name=id)(hd:(id==("__debug__":Str))=false)(hcd:(id==("__classdict__":Str))=false):tH X sc n (.Name id pos) (.x v.slot):=fun env A s lo st m om al F kv ke N h=>by
 subst hn
 have q:=N.fr.vars v hv
 have hk:=N.fr.names v hv
 refine mK h (fun y hl h=>?_) fun l hl h=>?_
 ·rw[hl]at q
  refine q.val (fun hc q=>?_) fun hc q=>?_
  ·obtain⟨b,e1,e2⟩:=q
   exact Lq (K6 N.fr.kind (dK hc hk) N.fr.ns e1 (bD N h e2)) hd
  ·obtain⟨c,b,e1,e2,e3,e4⟩:=q
   rw[hc]at hk
   exact hk.elim (fun hk=>Lq (wpAny_loadName_cell N.fr.kind hk e1 ⟨_,e2,rfl⟩ (bD N h e4)) hd) fun hk=>Lq (wpAny_loadName_free N.fr.kind hk e1 ⟨_,e2,rfl⟩ (bD N h e4) hcd) hd
 ·rw[hl]at q
  obtain⟨hc,vs,e1,e2,e3,e4,e5,e6,e7⟩:=q
  refine Lq (K6 N.fr.kind (dK hc hk) N.fr.ns e1 ?_) hd
  have hF:∀b o,s.heap.get? b=some o->¬F b->kq o->s.heap.get? b=some o/\¬(F b/\b≠om v.slot):=fun b o e q _=>⟨e,fun z=>q z.1⟩
  refine⟨.lst l,st.put v.slot (.val (.lst l)),al,fun b=>F b/\b≠om v.slot,h,?_,?_,?_⟩
  ·exact .lst e2 (fun z=>z.2 rfl) (e3.pre hF fun _ _ e=>e)
  ·exact⟨⟨fun _ l=>l,fun b o e _ _=>⟨o,e,.refl o⟩,fun b z=>.inl z.1⟩,⟨[],by simp,fun _ m=>nm m⟩,fun b z q=>⟨q,fun r=>e7 (r▸z)⟩,s.toks,rfl⟩
  ·refine⟨⟨N.inv.stays,fun b z=>N.inv.hot b z.1,cK hF (fun _ _ e _=>e) (fun _ _ e=>e) (fun p hp=>J5.mpr ⟨p,hp,rfl⟩) N.inv.objs,fun b z=>⟨N.inv.cell b z,fun r=>e5 (r▸z)⟩,fun b z=>⟨⟨(N.inv.tabs b z).1,fun r=>e6 (r▸z)⟩,(N.inv.tabs b z).2.1,(N.inv.tabs b z).2.2.move hF fun _ e=>e⟩,N.inv.nodup⟩,?_⟩
   have R:=N.fr
   obtain⟨oL,es,ep,l1,l2,l3,l4,l5,l6⟩:=R.locs
   have hLne:env.locals≠om v.slot:=fun q=>by
    obtain⟨n',e2⟩:=e2
    rw[←q,l1]at e2
    injection e2 with e2
    rw[e2]at l2
    cases l2
   refine⟨R.kind,R.glob,R.bl,⟨oL,es,ep,l1,l2,l3,l4,l5,l6,hLne⟩,R.prot,R.ns,R.gls,R.names,fun y hy=>?_,R.code,fun i j l1 l2 h1 h2 hij=>?_⟩
   ·have qy:=R.vars y hy
    by_cases hs:y.slot=v.slot
    ·have hlt:=(JT.mp hl).1
     simp only[St.put,hs,Ks hlt]
     rw[hs,hl]at qy
     obtain⟨hc',vs',f1,f2,f3,f4⟩:=qy
     rw[hs]at f1
     exact .loc hc' ⟨_,f1,.lst e2 (fun z=>z.2 rfl) (e3.pre hF fun _ _ e=>e)⟩
    ·simp only[St.put,Ko (Ne.symm hs)]
     refine qy.imp (fun w z=>z.casesOn fun b f1 f4=>⟨b,f1,f4.pre hF fun _ _ e=>e⟩) (fun w z=>z.casesOn fun c b f1 f2 f3 f4=>⟨c,b,f1,f2,fun z=>f3 z.1,f4.pre hF fun _ _ e=>e⟩)
      (fun w hr z=>z.casesOn fun hc' vs' f1 f2 f3 f4 f5 f6 f7=>⟨hc',vs',f1,f2,f3.pre hF (fun _ _ e=>e),⟨f4,R.owns _ _ _ _ hr hl hs⟩,f5,f6,f7⟩) fun hc' z=>z.casesOn fun c f1 f2 f3 f4 f5 f6=>⟨c,f1,f2,⟨f3,fun q=>?_⟩,f4,f5,f6⟩
     obtain⟨n',e2⟩:=e2
     rw[←q,f2]at e2
     injection e2 with e2
     injection e2 with z1 z2 z3 z4
     cases z3
   ·simp only[St.put]at h1 h2
    have ne (i:Nat) (w:List V) (q:(st.loc.set v.slot (.val (.lst l)))[i]? =some (.own w)):st.loc[i]? =some (.own w):=by
     by_cases hs:v.slot=i
     ·subst hs
      rw[Ks (JT.mp hl).1]at q
      cases q
     ·rwa[Ko hs]at q
    exact R.owns i j _ _ (ne _ _ h1) (ne _ _ h2) hij
theorem jE{id:Str}{v:da}{pos}(hv:v∈sc.vis)(hn:v.name=id)(hd:(id==("__debug__":Str))=false)(hcd:(id==("__classdict__":Str))=false):ah X n sc (.Name id pos) (.x v.slot):=(q0 hv hn hd hcd).ok
inductive Bns(X:Cx):Prop
 |mk (mb:Str->Option Mu) (e:X.B.Ns builtinsNs mb) (q:∀x:Str,x≠"__name__"->mb x=bootBuiltins x)
inductive Gf(X:Cx)(id:Str)(v:V):Prop
 |mk (a:Mu) (e:X.mg id=some a∨(X.mg id=none/\bootBuiltins id=some a/\id≠"__name__")) (R:Rep X [] (fun _=>False) X.B v a)
structure Gd(X:Cx):Prop where
 g:X.B.Ns mainGlobals X.mg
 b:Bns X
 glob:∀id v,X.glob id=some v->Gf X id v
theorem bT.preB(I:bT X mu al F h):bB X.B (fun _=>False) h F:=fun b o e _ _=>⟨I.stays b o e,fun q=>by rw[(I.hot b q).2]at e;cases e⟩
theorem nU(G:Gd X){id:Str}{v:V}{pos}(hg:id∈sc.gl)(hv:X.glob id=some v)(hd:(id==("__debug__":Str))=false):tH X sc n (.Name id pos) (.c v):=fun env A s lo st m om al F kv ke N h=>by
 obtain⟨b,hb,R⟩:=G.glob id v hv
 have R':Rep X al F s.heap v b:=R.pre N.inv.preB (fun i p e=>by simp at e)
 have hk:=N.fr.gls id hg
 have hns:=G.g.keeps N.inv.stays
 refine Name_function_global N.fr.kind hk ?_ hd
 rcases hb with hb|⟨h1,h2,h3⟩
 ·exact loadGlobal_global (by rw[N.fr.glob];exact hns) hb (bD N h R')
 ·obtain⟨mb,q1,q2⟩:=G.b
  exact loadGlobal_builtin (by rw[N.fr.glob];exact hns) h1 (by rw[N.fr.bl];exact q1.keeps N.inv.stays) ((q2 id h3).trans h2) (bD N h R')
theorem fJ(G:Gd X){id:Str}{v:V}{pos}(hg:id∈sc.gl)(hv:X.glob id=some v)(hd:(id==("__debug__":Str))=false):ah X n sc (.Name id pos) (.c v):=(nU G hg hv hd).ok
def fP(e:Mq):Prop:=∀rest env,starEach (e::rest) env=(false,eval e env)::starEach rest env
inductive EPs(X:Cx)(n:Nat)(env:Env)(sc:Sc)(lo:Mt->Prop)(m:Str->Option Mu)(om:Nat->Mt)(al:List (Mt×Mt))(F:Mt->Prop)(s:Ms)(k:List V->St->Pg)(vs:List Mu)(s':Ms):Prop
 |mk (rs:List V) (st':St) (al':List (Mt×Mt)) (F':Mt->Prop) (h:wp (Wd X n) (k rs st')) (R:ag X al' F' s'.heap rs vs) (b:aT X lo al F s al' F' s') (N:aO X env sc lo m om st' al' F' s')
def dn(X:Cx)(n:Nat)(sc:Sc)(es:List Mq)(mes:List ME):Prop:=
 ∀pos env A s lo st m om al F kv ke,bI X A n s->aO X env sc lo m om st al F s->wp (Wd X n) (tK mes kv ke st)->
  wpAny (model X.prog X.w) A (spliced (backTo pos (starEach es env))) (EPs X n env sc lo m om al F s kv) (XP X n env sc lo m om al F s ke) s
theorem jc:dn X n sc [] []:=fun _ _ _ _ _ st _ _ al F _ _ _ N h=>args_nil ⟨[],st,al,F,h,.nil,.refl,N⟩
theorem eV{e:Mq}{es:List Mq}{me:ME}{mes:List ME}(hn:fP e)(he:ah X n sc e me)(hs:dn X n sc es mes):dn X n sc (e::es) (me::mes):=fun pos env A s lo st m om al F kv ke a N h=>by
 refine args_cons (aC he a N (fun _ _ x=>x) h fun r v st' al' F' s' hk R b N' a'=>?_) (hn es env)
 refine J0 (hs pos env A s' lo st' m om al' F' _ ke a' N' hk) (fun vs s'' qz=>qz.casesOn fun rs st'' al'' F'' hk' R' b' N''=>?_) fun _ _ x=>x.from b
 exact⟨r::rs,st'',al'',F'',hk',.cons (b'.rep N'.inv R) R',b.trans b',N''⟩
theorem fj{es:List Mq}{mes:List ME}{k:List V->St->Pg}{ke:KE}{pos:Pos}{Q:List Mu->Ms->Prop}{E:Mu->Ms->Prop}
  (he:dn X n sc es mes) (a:bI X A n s) (N:aO X env sc lo m om st al F s) (hE:∀v s',XP X n env sc lo m om al F s ke v s'->E v s') (h:wp (Wd X n) (tK mes k ke st))
  (go:∀rs vs st' al' F' s',wp (Wd X n) (k rs st')->ag X al' F' s'.heap rs vs->aT X lo al F s al' F' s'->aO X env sc lo m om st' al' F' s'->bI X A n s'->Q vs s'):
  wpAny (model X.prog X.w) A (spliced (backTo pos (starEach es env))) Q E s:=
 wpAny_up (J0 (he pos env A s lo st m om al F k ke a N h) (fun v s' qz u=>qz.casesOn fun r st' al' F' hk R b N'=>go r v st' al' F' s' hk R b N' (a.aft N.inv b u)) fun v s' x _=>hE v s' x)
theorem ag.length{l:List V}{vs:List Mu}(r:ag X al F h l vs):l.length=vs.length:=
 r.ind (P:=fun l vs=>l.length=vs.length) rfl fun _ _ _ _ _ _ e=>congrArg (·+1) e
theorem ag.size{l:List V}{vs:List Mu}(R:ag X al F h l vs)(e:Nat.ble l.length 100=true):vs.toArray.size<=sizeLine:=by
 rw[JR, ←R.length];exact JH (JI e) (by decide)
theorem lQ{items:List Mu}:z6 (h.push {cls:=.type "tuple",data:=.seq items.toArray}) h.objs.size items:=⟨0,J8 _ rfl⟩
theorem ef{items:List Mu}:gU (h.push {cls:=.type "list",data:=.seq items.toArray}) h.objs.size items:=⟨0,J8 _ rfl⟩
theorem n4{es:List Mq}{mes:List ME}{c:Nat}{pos:Pos}(he:dn X n sc es mes):ah X n sc (.Tuple es c pos) (.tup mes):=fun env A s lo st m om al F kv ke a N h=>by
 refine Tuple_ (fj he a N (fun _ _ x=>x) h fun rs vs st' al' F' s' hk R b N' a'=>?_)
 exact bc hk fun hl hk=>Lb (EP.from b (aP N' hk (af _) (.tup lQ N'.new (R.pre (.grow (af _)) fun _ _ e=>e)))) (R.size hl)
theorem zc{es:List Mq}{mes:List ME}{pos:Pos}(he:dn X n sc es mes):ah X n sc (.List es pos) (.lst mes):=fun env A s lo st m om al F kv ke a N h=>by
 refine List_ (fj he a N (fun _ _ x=>x) h fun rs vs st' al' F' s' hk R b N' a'=>?_)
 exact bc hk fun hl hk=>Lb (EP.from b (aP N' hk (af _) (.lst ef N'.new (R.pre (.grow (af _)) fun _ _ e=>e)))) (R.size hl)
end
section
noncomputable def Hn:Op2->Operator
 | .add=>.Add| .sub=>.Sub| .mul=>.Mult| .fdiv=>.FloorDiv| .mod=>.Mod| .pow=>.Pow
theorem io(a b:List Nat):ST (a++b)=ST a++ST b:=by
 show(⟨(a++b).toArray⟩:Str)=⟨a.toArray++b.toArray⟩
 simp
theorem aD(a:List Nat):(ST a).length=a.length:=by show a.toArray.size=a.length;simp
theorem aV:lim<=sizeLine:=by decide
theorem fY{x:Int}(h:small x):Builtin.Int.intBits x<=64:=PySem.intBits_le_64 (Mk (by decide) h.1) (Mk h.2 (by decide))
theorem p8(l:List (Array Nat))(a:Array Nat):(l.foldl (·++·) a).toList=a.toList++(l.map Array.toList).flatten:=by
 induction l generalizing a with
 |nil=>simp
 |cons x r ih=>rw[List.foldl_cons,ih];simp
theorem z5(x:List Nat)(n:Int):Txt.mul (ST x) n=ST (List.replicate n.toNat x).flatten:=by
 unfold Txt.mul
 split
 ·rename_i h
  have:n.toNat=0:=Int.toNat_eq_zero.mpr (Int.lt_add_one_iff.mp h)
  rw[this];rfl
 ·rename_i h
  split
  ·rename_i h2
   simp only[Mp,J7]at h2
   rcases h2 with rfl|h2
   ·simp
   ·rw[aD]at h2
    have:x=[]:=List.length_eq_zero_iff.mp h2
    subst this
    have:(List.replicate n.toNat ([]:List Nat)).flatten=[]:=by simp
    rw[this]
  ·show(⟨_⟩:Str)=⟨_⟩
   congr 1
   apply Array.ext'
   rw[p8]
   simp[ST]
theorem ag.append{X:Cx}{al:List (Mt×Mt)}{F:Mt->Prop}{h:Heap}{l l':List V}{xs ys:List Mu}(r:ag X al F h l xs)(r':ag X al F h l' ys):ag X al F h (l++l') (xs++ys):=
 r.ind (P:=fun l xs=>ag X al F h (l++l') (xs++ys)) r' fun _ _ _ _ a _ t=>.cons a t
theorem lY{a b:Int}(h:small b):Builtin.divisionGoesByPylong a b=false:=by
 unfold Builtin.divisionGoesByPylong
 simp only[Bool.and_eq_false_iff,Ld,KW]
 left
 split
 ·exact lin [] [] 1 (.n 0) (.n 300) rfl
 ·rename_i h0
  have:b.natAbs.log2 < 63:=(Nat.log2_lt (by simpa using h0)).mpr (ut h.1 h.2)
  exact JH (JW (Nat.div_le_self _ _)) (JH this (by decide))
section
variable {al:List (Mt×Mt)} {k:V->St->Pg}
theorem kW{i:Int}(h:small i):i.natAbs < 2^63:=ut h.1 h.2
theorem Dr{a b:V}{x y:Mu}(N:aO X env sc lo m om st al F s)(Ra:Rep X al F s.heap a x)(Rb:Rep X al F s.heap b y)(h:wp (Wd X n) (F0 a b fun v=>k v st)):
  wpAny (model X.prog X.w) A (binaryOp .Add x y) (EP X n env sc lo m om al F s k) E s:=by
 refine els_ok h (fun i ei h=>?_) fun h=>els_ok h (fun i ei h=>?_) fun h=>ad h fun i ei h=>?_
 ·obtain⟨t,rfl⟩:=Ra.asInt ei
  refine ad h fun j ej h=>?_
  obtain⟨u,rfl⟩:=Rb.asInt ej
  exact P.add_int (az N h (.int _ _))
 ·obtain⟨t,rfl⟩:=Ra.asStr ei
  refine ad h fun j ej h=>?_
  obtain⟨u,rfl⟩:=Rb.asStr ej
  refine SB.add (fun t' q=>az N h.2 (io i j▸.str _ _)) ?_
  rw[aD,aD];exact JH h.1 aV
 ·obtain⟨_,_,rfl,⟨n1,e1⟩,f1,r1⟩:=Ra.asLst ei
  refine ad h fun j ej h=>?_
  obtain⟨_,_,rfl,⟨n2,e2⟩,f2,r2⟩:=Rb.asLst ej
  refine P.add_list e1 e2 ?_ ?_
  ·rw[List.append_toArray]
   exact aP N h.2 (af _) (.lst ef N.new ((r1.append r2).pre (.grow (af _)) fun _ _ e=>e))
  ·rw[JR,JR, ←r1.length, ←r2.length];exact JH h.1 aV
theorem CB{a b:V}{x y:Mu}(N:aO X env sc lo m om st al F s)(Ra:Rep X al F s.heap a x)(Rb:Rep X al F s.heap b y)(h:wp (Wd X n) (ET a b fun v=>k v st)):
  wpAny (model X.prog X.w) A (binaryOp .Mult x y) (EP X n env sc lo m om al F s k) E s:=by
 refine ad h fun y ej h=>?_
 obtain⟨u,rfl⟩:=Rb.asInt ej
 refine els_ok h (fun i ei h=>?_) fun h=>ad h fun x ei h=>?_
 ·obtain⟨t,rfl⟩:=Ra.asInt ei
  exact P.mul_int (az N h.2 (.int _ _)) (IntMulOk.of_left (fY h.1.1))
 ·obtain⟨t,rfl⟩:=Ra.asStr ei
  obtain⟨⟨h1,h2⟩,h3⟩:=h
  have hb:=kW h1
  refine SB.mul ⟨?_,?_,?_⟩ (fun t' q=>az N h3 (z5 x y▸.str _ _))
  ·rw[K7,Ld,Ld];exact⟨KK.mpr (K5 h1.1),LL.mpr h1.2⟩
  ·intro hn _ hgt
   rw[aD]at hgt
   have h1y:1<=y:=KK.mp hn
   have h0y:0<=y:=Kz (by decide) h1y
   have hy:(y.toNat:Int)=y:=Mb h0y
   have h4:(x.length:Int)*y<=lim:=by rw[←hy];exact_mod_cast h2
   have h5:((2^63 - 1) / y+1)*y<=lim:=Kz (Int.mul_le_mul_of_nonneg_right hgt h0y) h4
   exact absurd (Int.lt_of_lt_of_le (Int.lt_ediv_add_one_mul_self (2^63 - 1) h1y) h5) (by decide)
  ·intro _ _
   rw[aD]
   exact Kg (KW.mpr (JH h2 aV))
theorem B1(k:Nat):(-1:Int)^k=if((k:Int) % 2==0)=true then 1 else -1:=by
 induction k with
 |zero=>rfl
 |succ k ih=>
  rw[Int.pow_succ,ih,show((k:Int) % 2)=((k % 2:Nat):Int)from rfl,show(((k+1:Nat):Int) % 2)=(((k+1) % 2:Nat):Int)from rfl,Nat.add_mod]
  rcases Nat.mod_two_eq_zero_or_one k with e|e<;>rw[e]<;>rfl
theorem B0{a b:Int}{t u:Tok}(N:aO X env sc lo m om st al F s)(h1:small a)(h2:0<=b)(h3:b<=1000)(h:wp (Wd X n) (k (.int (a^b.toNat)) st)):
  wpAny (model X.prog X.w) A (binaryOp .Pow (.int a t) (.int b u)) (EP X n env sc lo m om al F s k) E s:=by
 have go:∀{r:Int} {t:Nat},a^b.toNat=r->EP X n env sc lo m om al F s k (.int r s.toks) {s with toks:=t}:=fun e=>az N h (e▸.int _ _)
 obtain⟨b,rfl⟩:=Int.eq_ofNat_of_zero_le h2
 refine AutoIntOpsIf.pow ?_
 rw[if_pos h2]
 split
 ·rename_i hb
  have:b=0:=by simpa using hb
  subst this
  exact go (Int.pow_zero a)
 ·rename_i hb
  split
  ·rename_i ha
   have hb':b≠0:=by simpa using hb
   rcases KH.mp ha with ha|ha<;>rw[J7.mp ha]
   ·exact go (by rw[J7.mp ha];exact Int.zero_pow hb')
   ·exact go (by rw[J7.mp ha];exact Int.one_pow)
  ·split
   ·rename_i _ ha
    exact go (by rw[J7.mp ha];exact B1 b)
   ·rw[if_neg]
    ·exact go rfl
    ·refine mt JN (KK.mpr (Kz (Int.mul_le_mul (Int.ofNat_le.mpr (fY h1)) h3 h2 (by decide)) (by decide)))
theorem nz{j:Int}(h:0 < j):¬(j==0)=true:=fun z=>Int.ne_of_gt h (J7.mp z)
theorem Di{o:Op2}{a b:V}{x y:Mu}(N:aO X env sc lo m om st al F s)(Ra:Rep X al F s.heap a x)(Rb:Rep X al F s.heap b y)(h:wp (Wd X n) (bin o a b fun v=>k v st)):
  wpAny (model X.prog X.w) A (binaryOp (Hn o) x y) (EP X n env sc lo m om al F s k) E s:=by
 have ar:∀{f},wp (Wd X n) (zZ a b f)->∀{P:Prop},(∀i j t u,x=.int i t->y=.int j u->wp (Wd X n) (f i j)->P)->P:=fun h _ go=>ad h fun i ei h=>ad h fun j ej h=>
  (Ra.asInt ei).elim fun t e=>(Rb.asInt ej).elim fun u e'=>go i j t u e e' h
 cases o with
 |add=>exact Dr N Ra Rb h
 |sub=>exact ar h fun i j t u e e' h=>e▸e'▸P.sub_int (az N h (.int _ _))
 |mul=>exact CB N Ra Rb h
 |fdiv=>
  refine ar h fun i j t u e e' h=>?_
  subst e e'
  obtain⟨⟨h1,h2⟩,h3⟩:=h
  refine AutoIntOps.floordiv_1 (nz h1) (by rw[lY h2];exact KX) ?_
  rw[Int.fdiv_eq_ediv_of_nonneg _ (K5 h1)]
  exact az N h3 (.int _ _)
 |mod=>
  refine ar h fun i j t u e e' h=>?_
  subst e e'
  refine AutoIntOps.mod_1 (nz h.1) ?_
  rw[Int.fmod_eq_emod_of_nonneg _ (K5 h.1)]
  exact az N h.2 (.int _ _)
 |pow=>
  refine ar h fun i j t u e e' h=>?_
  subst e e'
  exact B0 N h.1.1 h.1.2.1 h.1.2.2 h.2
end
end
section
variable {al:List (Mt×Mt)} {k:V->St->Pg}
theorem Co{o:Op2}{l r:Mq}{a b:ME}{pos:Pos}(ha:ah X n sc l a)(hb:ah X n sc r b):ah X n sc (.BinOp l (Hn o) r pos) (.bin o a b):=fun env A s lo st m om al F kv ke am N h=>by
 refine wpAny_BinOp (aC ha am N (fun _ _ x=>x) h fun x vx sti ali F₁ s₁ h₁ Ri b₁ Ni a₁=>?_)
 refine aC hb a₁ Ni (fun _ _ x=>x.from b₁) h₁ fun y vy stz alz F₂ s₂ h₂ RZ b₂ Nz a₂=>?_
 exact J0 (Di Nz (b₂.rep Ni.inv Ri) RZ h₂) (fun _ _ q=>EP.from (b₁.trans b₂) q) fun _ _ q=>q
theorem Cf{l:Mq}{a:ME}{pos:Pos}(ha:ah X n sc l a):ah X n sc (.UnaryOp .USub l pos) (.neg a):=fun env A s lo st m om al F kv ke am N h=>by
 refine wpAny_UnaryOp (aC ha am N (fun _ _ x=>x) h fun x vx sti ali F₁ s₁ h₁ Ri b₁ Ni a₁=>ad h₁ fun i e h₁=>?_)
 obtain⟨t,rfl⟩:=Ri.asInt e
 exact P.neg_int (EP.from b₁ (az Ni h₁ (.int _ _)))
theorem Dc{α β:Type}{l:List α}{m:List β}(h:l.length=m.length):m.toArray.isEmpty=l.isEmpty:=by
 cases l<;>cases m<;>first|rfl|cases h
theorem oa{n:Nat}(h:n<=lim):(n:Int) < 2^63:=Lv (Int.ofNat_le.mpr h) (by decide)
theorem jo{a:Mt}{l:List V}{vs:List Mu}{Q:Bool->Ms->Prop}(t:s.heap.IsList a vs.toArray)(r:ag X al F h l vs)(hl:l.length<=lim)(q:∀t,s.toks<=t->Q (!l.isEmpty) {s with toks:=t}):wpAny (model X.prog X.w) A (truthy (.ref a)) Q E s:=
 wpAny_truthy_list t (by rw[JR, ←r.length];exact oa hl) (by rw[Dc r.length];exact q _ (JV _ 2))
theorem jp{v:V}{x:Mu}{k:Bool->Pg}{Q:Bool->Ms->Prop}(R:Rep X al F s.heap v x)(h:wp (Wd X n) (DA v k))(go:∀b t,s.toks<=t->wp (Wd X n) (k b)->Q b {s with toks:=t}):wpAny (model X.prog X.w) A (truthy x) Q E s:=by
 have g:∀b,wp (Wd X n) (k b)->Q b s:=fun b h=>go b s.toks (JL _) h
 cases v with
 |none=>obtain rfl:=R.inv;exact truthy_none (g _ h)
 |bool b=>obtain rfl:=R.inv;exact LM (g _ h)
 |int i=>obtain⟨t,rfl⟩:=R.inv;exact P.truthy_int (g _ h)
 |lst l=>obtain⟨a,vs,rfl,⟨n,t⟩,f,r⟩:=R.inv;exact jo ⟨_,t,rfl,n,rfl⟩ r h.1 fun t q=>go _ t q h.2
 |_=>exact h.elim
theorem Ce{l:Mq}{a:ME}{pos:Pos}(ha:ah X n sc l a):ah X n sc (.UnaryOp .Not l pos) (.not a):=fun env A s lo st m om al F kv ke am N h=>
 wpAny_UnaryOp (aC ha am N (fun _ _ x=>x) h fun x vx sti ali F₁ s₁ h₁ Ri b₁ Ni a₁=>
  not_of (jp Ri h₁ fun b t _ h=>EP.from b₁ (az Ni h (.bool _))))
noncomputable def mV:Cm->CmpOp
 | .eq=>.Eq| .ne=>.NotEq| .lt=>.Lt| .le=>.LtE| .gt=>.Gt| .ge=>.GtE| .is=>.Is| .isNot=>.IsNot| .isIn=>.In| .notIn=>.NotIn
theorem nh{a b:List Nat}:ST a=ST b↔a=b:=by
 constructor
 ·intro h
  have:(ST a).cps.toList=(ST b).cps.toList:=by rw[h]
  simpa[ST]using this
 ·rintro rfl;rfl
theorem cC(a:List Nat):(ST a).cps.toList=a:=by simp[ST]
theorem z6.is{a:Mt}{vs:List Mu}(t:z6 h a vs):h.IsTuple a vs.toArray:=t.casesOn fun n e=>⟨_,e,rfl,n,rfl⟩
theorem z6.isTup{a:Mt}{vs:List Mu}(t:z6 h a vs):IsTup h a vs.toArray:=t.casesOn fun n e=>⟨_,e,rfl,n,rfl⟩
theorem gU.is{a:Mt}{vs:List Mu}(t:gU h a vs):h.IsList a vs.toArray:=t.casesOn fun n e=>⟨_,e,rfl,n,rfl⟩
theorem qd{x y:Mt}(q:SeqAt.RcAt A s (.ref x) (.ref y) true):SeqAt.EqAt A s (.ref x) (.ref y) true:=fun prog w E Q hq=>by
 unfold eqBool
 refine Kp ?_
 refine wpAny_ite_split (fun _=>JJ (wpAny_rule (JO hq))) (fun _=>?_)
 exact JJ (q prog w E _ (LM hq))
theorem qe{x:Array UInt8}{t u:Tok}:SeqAt.EqAt A s (.bytes x t) (.bytes x u) true:=fun prog w E Q hq=>by
 unfold eqBool
 refine Kp ?_
 refine wpAny_ite_split (fun _=>JJ (wpAny_rule (JO hq))) (fun _=>?_)
 refine JJ (m:=richCompare .Eq (.bytes x t) (.bytes x u)) (f:=truthOfDropped) ?_
 exact eq_bytes (by rw[beq_self_eq_true];exact LM hq)
theorem xw(n:Nat):(List.range n).all (fun _=>true)=true:=by simp
theorem tA{b c:Array UInt8}(e:b.toList.map UInt8.toNat=c.toList.map UInt8.toNat):b=c:=by
 have:b.toList=c.toList:=List.map_inj_right (fun x y q=>UInt8.toNat_inj.mp q) |>.mp e
 exact Array.toList_inj.mp this
inductive xL(X:Cx)(al:List (Mt×Mt))(F:Mt->Prop)(h:Heap)(vs:List V)(i:Nat)(v:Mu):Prop
 |mk (w:V) (e:vs[i]? =some w) (R:Rep X al F h w v)
theorem ag.at{l:List V}{vs:List Mu}(R:ag X al F h l vs)(j:Nat){x:Mu}(e:vs[j]? =some x):xL X al F h l j x:=by
 induction j generalizing l vs with
 |zero=>cases l with
  |nil=>obtain rfl:=R.inv;cases e
  |cons v l=>obtain⟨_,_,rfl,a,t⟩:=R.inv;cases e;exact⟨_,rfl,a⟩
 |succ j ih=>cases l with
  |nil=>obtain rfl:=R.inv;cases e
  |cons v l=>obtain⟨_,_,rfl,a,t⟩:=R.inv;obtain⟨v,p,q⟩:=ih t e;exact⟨v,p,q⟩
theorem ag.at'{l:List V}{vs:List Mu}(R:ag X al F h l vs)(j:Nat){v:V}(e:l[j]? =some v):∃x,vs[j]? =some x/\Rep X al F h v x:=by
 have hj:j < vs.length:=R.length▸(JT.mp e).1
 obtain⟨v',p,q⟩:=R.at j (J4 hj)
 rw[e]at p;cases p
 exact⟨_,J4 hj,q⟩
theorem kZ{l:List V}{j:Nat}{v:V}(p:eR l=true)(e:l[j]? =some v):plain v=true/\AN v<=j2 l:=by
 induction l generalizing j with
 |nil=>cases e
 |cons a r ih=>
  have p:=JP.mp p
  cases j with
  |zero=>cases e;exact⟨p.1,KT _ _⟩
  |succ j=>exact⟨(ih p.2 e).1,JH (ih p.2 e).2 (K8 _ _)⟩
theorem nC{l:List V}{vs vs':List Mu}{B:Around}(r:ag X al F s.heap l vs)(r':ag X al F s.heap l vs')(hp:eR l=true)(f:∀v x y,plain v=true->AN v<=j2 l->Rep X al F s.heap v x->Rep X al F s.heap v y->SeqAt.EqAt B s x y true)
  (j:Nat) (h1:j < vs.toArray.size) (h2:j < vs'.toArray.size):SeqAt.EqAt B s vs.toArray[j] vs'.toArray[j] ((fun _=>true) j):=by
 obtain⟨v,p,q⟩:=r.at j (x:=vs[j]) (J4 h1)
 obtain⟨v',p',q'⟩:=r'.at j (x:=vs'[j]) (J4 h2)
 rw[p]at p';cases p'
 exact f v _ _ (kZ hp p).1 (kZ hp p).2 q q'
theorem qN{l:List V}{vs vs':List Mu}(r:ag X al F h l vs)(r':ag X al F h l vs'):(((List.range (min vs.toArray.size vs'.toArray.size)).all fun _=>true)&&vs.toArray.size==vs'.toArray.size)=true:=by
 rw[xw,JR,JR, ←r.length,r'.length,beq_self_eq_true];rfl
theorem zK:∀(d:Nat) {A:Around} {v:V} {x y:Mu},AN v<=d->plain v=true->Rep X al F s.heap v x->Rep X al F s.heap v y->A.units+d < cLine->SeqAt.EqAt A s x y true:=by
 intro d
 induction d using Nat.strongRecOn with|_ d ih=>?_
 intro A v x y hd hp Rx Ry hu
 cases v with
 |none=>obtain rfl:=Rx.inv;obtain rfl:=Ry.inv;exact .same _
 |bool b=>obtain rfl:=Rx.inv;obtain rfl:=Ry.inv;exact .same _
 |int i=>obtain⟨t,rfl⟩:=Rx.inv;obtain⟨u,rfl⟩:=Ry.inv;exact beq_self_eq_true i▸SeqAt.EqAt.int_int i t i u
 |str i=>obtain⟨t,rfl⟩:=Rx.inv;obtain⟨u,rfl⟩:=Ry.inv;exact beq_self_eq_true (ST i)▸SeqAt.EqAt.str_str (ST i) t (ST i) u
 |bytes l=>obtain⟨b,t,rfl,rfl⟩:=Rx.inv;obtain⟨c,u,e,rfl⟩:=Ry.inv;obtain rfl:=tA e;exact qe
 |tup l=>
  obtain⟨a,vs,rfl,t,f,r⟩:=Rx.inv
  obtain⟨a',vs',rfl,t',f',r'⟩:=Ry.inv
  have h1:j2 l < d:=hd
  have:=SeqAt.RcAt.tuples (A:=A) (e:=fun _=>true) t.is t'.is (by exact lin [_,_,_] [(1,.a (.a (.v 0) (.v 1)) (.n 1),.v 2)] 1 (.a (.v 0) (.n 1)) (.v 2) rfl hu) (nC r r' hp fun v x y p q R R'=>ih (j2 l) h1 q p R R' (by show A.units+1+j2 l < cLine;exact lin [_,_,_,_] [(1,.a (.a (.v 0) (.v 1)) (.n 1),.v 2),(1,.a (.v 3) (.n 1),.v 1)] 1 (.a (.a (.a (.v 0) (.n 1)) (.v 3)) (.n 1)) (.v 2) rfl hu h1))
  rw[qN r r']at this
  exact qd this
 |_=>cases hp
theorem zJ{l:List V}{x y:Mu}(hd:j2 l<=100)(hp:eR l=true)(Rx:Rep X al F s.heap (.tup l) x)(Ry:Rep X al F s.heap (.tup l) y)(hu:A.units+150 < cLine):
  SeqAt.RcAt A s x y true/\SeqAt.RcNeAt A s x y false:=by
 obtain⟨a,vs,rfl,t,f,r⟩:=Rx.inv
 obtain⟨a',vs',rfl,t',f',r'⟩:=Ry.inv
 have he:=nC (B:=A.in1) r r' hp fun v x y p q R R'=>zK 100 (JH q hd) p R R' (by show A.units+1+100 < cLine;exact lin [_,_] [(1,.a (.a (.v 0) (.n 150)) (.n 1),.v 1)] 1 (.a (.a (.a (.v 0) (.n 1)) (.n 100)) (.n 1)) (.v 1) rfl hu)
 have q1:=SeqAt.RcAt.tuples (A:=A) (e:=fun _=>true) t.is t'.is (by exact lin [_,_] [(1,.a (.a (.v 0) (.n 150)) (.n 1),.v 1)] 1 (.a (.v 0) (.n 1)) (.v 1) rfl hu) he
 have q2:=SeqAt.RcNeAt.tuples (A:=A) (e:=fun _=>true) t.is t'.is (by exact lin [_,_] [(1,.a (.a (.v 0) (.n 150)) (.n 1),.v 1)] 1 (.a (.v 0) (.n 1)) (.v 1) rfl hu) he
 rw[qN r r']at q1 q2
 exact⟨q1,q2⟩
theorem gA{vs:List Mu}{B:Around}(j:Nat)(h1:j < vs.toArray.size)(h2:j < ([]:List Mu).toArray.size):SeqAt.EqAt B s vs.toArray[j] ([]:List Mu).toArray[j] ((fun _=>true) j):=absurd h2 (LD _)
theorem zp{l:List V}{vs:List Mu}(h:l.length=vs.length):(((List.range (min vs.toArray.size ([]:List Mu).toArray.size)).all fun _=>true)&&vs.toArray.size==([]:List Mu).toArray.size)=l.isEmpty:=by
 cases vs with
 |nil=>cases List.eq_nil_of_length_eq_zero h;rfl
 |cons v vs=>rw[show(((v::vs).toArray.size==([]:List Mu).toArray.size))=false from rfl,L9];cases l with|nil=>cases h|cons=>rfl
theorem Cy{l:List V}{x y:Mu}(Rx:Rep X al F s.heap (.tup l) x)(Ry:Rep X al F s.heap (.tup []) y)(hu:A.units < cLine):
  SeqAt.RcAt A s x y l.isEmpty/\SeqAt.RcNeAt A s x y (!l.isEmpty):=by
 obtain⟨a,vs,rfl,t,f,r⟩:=Rx.inv
 obtain⟨a',vs',rfl,t',f',r'⟩:=Ry.inv
 obtain rfl:=r'.inv
 have q1:=SeqAt.RcAt.tuples (A:=A) (e:=fun _=>true) t.is t'.is hu gA
 have q2:=SeqAt.RcNeAt.tuples (A:=A) (e:=fun _=>true) t.is t'.is hu gA
 rw[zp r.length]at q1 q2
 exact⟨q1,q2⟩
theorem zo{l:List V}{x y:Mu}(Rx:Rep X al F s.heap (.lst l) x)(Ry:Rep X al F s.heap (.lst []) y)(hu:A.units < cLine):
  SeqAt.RcAt A s x y l.isEmpty/\SeqAt.RcNeAt A s x y (!l.isEmpty):=by
 obtain⟨a,vs,rfl,t,f,r⟩:=Rx.inv
 obtain⟨a',vs',rfl,t',f',r'⟩:=Ry.inv
 obtain rfl:=r'.inv
 cases l with
 |nil=>obtain rfl:=r.inv;exact⟨SeqAt.RcAt.lists (e:=fun _=>true) t.is t'.is rfl hu gA,SeqAt.RcNeAt.lists (e:=fun _=>true) t.is t'.is rfl hu gA⟩
 |cons a b=>obtain⟨_,_,rfl,_⟩:=r.inv;exact⟨.lists_lengths t.is t'.is (by simp) hu,.lists_lengths t.is t'.is (by simp) hu⟩
theorem gM(p s:List Nat):Txt.contains (ST s) (ST p)=subAt p s:=by
 have h1:=PySem.StrLaws.found_iff (ST s) (ST p)
 rw[LF]
 show(!(Builtin.Str.occurrences (ST s) (ST p) 0 (ST s).length 1).isEmpty)=true↔_
 rw[h1]
 have e:∀i,Builtin.Str.subAt (ST s) (ST p) i=decide ((s.drop i).take p.length=p):=fun i=>by
  unfold Builtin.Str.subAt
  rw[LF,J7,Mj, ←Array.toList_inj]
  simp[ST,Str.length]
 simp only[e,Mj,aD]
 clear h1 e
 induction s with
 |nil=>
  cases p with
  |nil=>simp[subAt]
  |cons=>simp[subAt]
 |cons c s ih=>
  simp only[subAt,Mp, ←ih]
  constructor
  ·rintro⟨i,h1,h2⟩
   cases i with
   |zero=>left;rw[List.isPrefixOf_iff_prefix,List.prefix_iff_eq_take];simpa using h2.symm
   |succ i=>right;exact⟨i,by simp at h1;exact lin [_,_,_] [(1,.a (.a (.v 0) (.n 1)) (.v 1),.a (.v 2) (.n 1))] 1 (.a (.v 0) (.v 1)) (.v 2) rfl h1,by simpa using h2⟩
  ·rintro(h|⟨i,h1,h2⟩)
   ·rw[List.isPrefixOf_iff_prefix]at h
    exact⟨0,by simpa using h.length_le,by rw[List.prefix_iff_eq_take]at h;simpa using h.symm⟩
   ·exact⟨i+1,by simp;exact lin [_,_,_] [(1,.a (.v 0) (.v 1),.v 2)] 1 (.a (.a (.v 0) (.n 1)) (.v 1)) (.a (.v 2) (.n 1)) rfl h1,by simpa using h2⟩
inductive TP(X:Cx)(n:Nat)(env:Env)(sc:Sc)(lo:Mt->Prop)(m:Str->Option Mu)(om:Nat->Mt)(al:List (Mt×Mt))(F:Mt->Prop)(s:Ms)(k:Bool->St->Pg)(t:Bool)(s':Ms):Prop
 |mk (st':St) (al':List (Mt×Mt)) (F':Mt->Prop) (h:wp (Wd X n) (k t st')) (b:aT X lo al F s al' F' s') (N:aO X env sc lo m om st' al' F' s')
def bN(X:Cx)(n:Nat)(sc:Sc)(e:Mq)(me:ME):Prop:=
 ∀env A s lo st m om al F kt ke,bI X A n s->aO X env sc lo m om st al F s->wp (Wd X n) (ev me (.b kt) ke st)->
  wpAny (model X.prog X.w) A (isTrue e env (eval e env)) (TP X n env sc lo m om al F s kt) (XP X n env sc lo m om al F s ke) s
theorem gq{e:Mq}{me:ME}{k:Bool->St->Pg}{ke:KE}{Q:Bool->Ms->Prop}{E:Mu->Ms->Prop}
  (he:bN X n sc e me) (a:bI X A n s) (N:aO X env sc lo m om st al F s) (hE:∀v s',XP X n env sc lo m om al F s ke v s'->E v s') (h:wp (Wd X n) (ev me (.b k) ke st))
  (go:∀t st' al' F' s',wp (Wd X n) (k t st')->aT X lo al F s al' F' s'->aO X env sc lo m om st' al' F' s'->bI X A n s'->Q t s'):
  wpAny (model X.prog X.w) A (isTrue e env (eval e env)) Q E s:=
 wpAny_up (J0 (he env A s lo st m om al F k ke a N h) (fun t s' qz u=>qz.casesOn fun st' al' F' hk b N'=>go t st' al' F' s' hk b N' (a.aft N.inv b u)) fun v s' x _=>hE v s' x)
theorem TP.from{k:Bool->St->Pg}{t:Bool}{s':Ms}(a:aT X lo al F s al' F' s₁)(e:TP X n env sc lo m om al' F' s₁ k t s'):TP X n env sc lo m om al F s k t s':=by
 obtain⟨st',al'',F'',hk,b,N⟩:=e
 exact⟨st',al'',F'',hk,a.trans b,N⟩
theorem lR{k:Bool->St->Pg}{b:Bool}{t:Nat}(N:aO X env sc lo m om st al F s)(hk:wp (Wd X n) (k b st)):TP X n env sc lo m om al F s k b {s with toks:=t}:=⟨st,al,F,hk,.tok t,N.tok⟩
theorem qP{k:Bool->St->Pg}{b:Bool}(N:aO X env sc lo m om st al F s)(hk:wp (Wd X n) (k b st)):TP X n env sc lo m om al F s k b s:=⟨st,al,F,hk,.refl,N⟩
noncomputable abbrev xz:List (List Nat)->List Mu->Prop:=All2 fun s y=>∃t,y=.str (ST s) t
theorem gR{α:Type}{f:V->Option α}{Q:α->Mu->Prop}(g:∀v x a,f v=some a->Rep X al F h v x->Q a x){l:List V}{vs:List Mu}(r:ag X al F h l vs):∀{ss:List α},lL f l=some ss->All2 Q ss vs:=
 r.ind (P:=fun l vs=>∀{ss:List α},lL f l=some ss->All2 Q ss vs) (fun e=>J9 e▸.nil) fun v x l xs a _ ih ss e=>by
  obtain⟨b,e1,e⟩:=Ku.mp e
  obtain⟨c,e2,rfl⟩:=Option.map_eq_some_iff.mp e
  exact .cons (g _ _ _ e1 a) (ih e2)
theorem ag.strs{l:List V}{vs:List Mu}{ss:List (List Nat)}(r:ag X al F h l vs)(e:cz l=some ss):xz ss vs:=gR (fun _ _ _ e R=>R.asStr e) r e
theorem uk{ss:List (List Nat)}{vs:List Mu}(r:xz ss vs):∀y∈vs,∃z t,y=.str (ST z) t:=
 All2.rec (motive:=fun _ vs _=>∀y∈vs,∃z t,y=Value.str (ST z) t) (fun _ m=>nm m) (fun q _ ih y hy=>(JY.mp hy).elim (fun e=>e▸⟨_,q⟩) (ih y)) r
theorem ul{ss:List (List Nat)}{vs:List Mu}(r:xz ss vs)(s:List Nat):(vs.any fun y=>match y with| .str z _=>z==ST s|_=>false)=ss.any (·==s):=
 All2.rec (motive:=fun ss vs _=>(vs.any fun y=>match y with| .str z _=>z==ST s|_=>false)=ss.any (·==s)) rfl (fun{a b l m} q _ ih=>by
  obtain⟨t,rfl⟩:=q
  rw[LC,LC,ih]
  exact congrArg (·||_) (LF.mpr ((J7.trans nh).trans J7.symm))) r
inductive iZ(X:Cx)(al:List (Mt×Mt))(F:Mt->Prop)(h:Heap):Option Mu->Option V->Prop
 |no:iZ X al F h none none
 |yes {x:Mu} {v:V} (R:Rep X al F h v x):iZ X al F h (some x) (some v)
theorem iZ.some{a:Option Mu}{v:V}{b:Option V}(r:iZ X al F h a b)(e:b=some v):∃x,a=some x/\Rep X al F h v x:=by
 cases r with
 |no=>cases e
 |yes R=>cases e;exact⟨_,rfl,R⟩
theorem iZ.getD{a:Option Mu}{b:Option V}{x:Mu}{v:V}(r:iZ X al F h a b)(R:Rep X al F h v x):Rep X al F h (b.getD v) (a.getD x):=by
 cases r with
 |no=>exact R
 |yes R=>exact R
theorem iZ.none{a:Option Mu}{b:Option V}(r:iZ X al F h a b)(e:b=none):a=none:=by
 cases r with
 |no=>rfl
 |yes R=>cases e
theorem iZ.isSome{a:Option Mu}{b:Option V}(r:iZ X al F h a b):a.isSome=b.isSome:=by cases r<;>rfl
theorem dH{κ:Type}[DecidableEq κ]{f:κ->κ->Bool}(hf:∀a b,f a b=decide (a=b))(s:κ)(ks:List κ){l:List V}{vs:List Mu}(r:ag X al F h l vs)(e:ks.length=vs.length):iZ X al F h (dJ s (ks.zip vs)) (lh f s (ks.zip l)):=by
 induction ks generalizing l vs with
 |nil=>exact .no
 |cons k ks ih=>
  cases l with
  |nil=>obtain rfl:=r.inv;cases e
  |cons v l=>
   obtain⟨x,ys,rfl,a,t⟩:=r.inv
   show iZ X al F h (if k=s then some x else dJ s (ks.zip ys)) (cond (f k s) (some v) (lh f s (ks.zip l)))
   rw[hf]
   by_cases hk:k=s
   ·rw[if_pos hk,Kt hk];exact .yes a
   ·rw[if_neg hk,Kg hk];exact ih t (Nat.succ.inj e)
theorem m7(a b:List Nat):(a==b)=decide (a=b):=LF.mpr (J7.trans decide_eq_true_iff.symm)
theorem Ay{a b:V}{x y:Mu}{k:Bool->Pg}{q:Bool->Bool}{o:CmpOp}(ho:(o=.In/\q=id)∨(o=.NotIn/\q=not))(Ra:Rep X al F s.heap a x)(Rb:Rep X al F s.heap b y)(h:wp (Wd X n) (HF a b fun r=>k (q r))){Q:Mu->Ms->Prop}
  (hQ:∀r t,wp (Wd X n) (k r)->Q (.bool r) {s with toks:=t}):wpAny (model X.prog X.w) A (compareOp o x y) Q E s:=by
 refine ad h fun z ez h=>els_ok h (fun l el h=>ad h fun ss es h=>?_) fun h=>els_ok h (fun z' e' h=>?_) fun h=>ad h fun d ed h=>?_
 ·obtain⟨tk,rfl⟩:=Ra.asStr ez
  obtain⟨b',vs,rfl,t,f,rl⟩:=Rb.asTup el
  have hs:=rl.strs es
  have he:∀y',y'∈vs.toArray->SeqAt.EqAt A.in1 s y' (.str (ST z) tk) ((fun y=>match y with| .str z' _=>z'==ST z|_=>false) y'):=fun y' hy=>by
   obtain⟨z',u,rfl⟩:=uk hs y' (List.mem_toArray.mp hy)
   exact SeqAt.EqAt.str_str _ _ _ _
  have hq:=ul hs z
  rcases ho with⟨rfl,rfl⟩|⟨rfl,rfl⟩
  ·exact SeqAt.in_tupleAt _ t.is he (by rw[LW,hq];exact hQ _ s.toks h)
  ·exact SeqAt.notIn_tupleAt _ t.is he (by rw[LW,hq];exact hQ _ s.toks h)
 ·obtain⟨tk,rfl⟩:=Ra.asStr ez
  obtain⟨tl,rfl⟩:=Rb.asStr e'
  rcases ho with⟨rfl,rfl⟩|⟨rfl,rfl⟩
  ·exact SB.contains (by rw[gM];exact hQ _ s.toks h)
  ·exact SB.notContains (by rw[gM];exact hQ _ s.toks h)
 ·obtain⟨tk,rfl⟩:=Ra.asStr ez
  obtain⟨a',ks,vs,l',rfl,rfl,⟨hds,f,hm,hf'⟩,hf,hn,rl⟩:=Rb.asDS ed
  have:=(dH m7 z ks rl hn).isSome
  rw[←hf']at this
  rcases ho with⟨rfl,rfl⟩|⟨rfl,rfl⟩
  ·exact wpAny_in_of (strKind_is _ _ _ _) hds hm (by rw[this];exact hQ _ _ h)
  ·exact wpAny_notIn_of (strKind_is _ _ _ _) hds hm (by rw[this];exact hQ _ _ h)
theorem ly{a:V}{x:Mu}{r:Bool}(Ra:Rep X al F s.heap a x)(e:isNone a=some r):plainIs x .none=true/\(x==Value.none)=r:=by
 cases Ra<;>cases e<;>exact⟨rfl,rfl⟩
theorem iB{b:V}{y:Mu}(Rb:Rep X al F s.heap b y)(e:isNone b=some true):y=.none:=by
 cases b with
 |none=>exact Rb.inv
 |_=>cases e
theorem AJ{a b:V}{x y:Mu}{k:Bool->Pg}{q:Bool->Bool}{o:CmpOp}(ho:(o=.Eq/\q=id)∨(o=.NotEq/\q=not))(am:bI X A n s)(Ra:Rep X al F s.heap a x)(Rb:Rep X al F s.heap b y)(h:wp (Wd X n) (HW a b fun r=>k (q r))){Q:Mu->Ms->Prop}
  (hQ:∀r t,wp (Wd X n) (k r)->Q (.bool r) {s with toks:=t}):wpAny (model X.prog X.w) A (compareOp o x y) Q E s:=by
 have hu:A.units+150 < cLine:=by have:=am.units;exact lin [_,_,_] [(1,.a (.a (.a (.v 0) (.m 12 (.v 1))) (.n 200)) (.n 1),.v 2)] 1 (.a (.a (.v 0) (.n 150)) (.n 1)) (.v 2) rfl this
 have rc:∀{x y r},SeqAt.RcAt A s x y r/\SeqAt.RcNeAt A s x y (!r)->wp (Wd X n) (k (q r))->wpAny (model X.prog X.w) A (compareOp o x y) Q E s:=fun{x y r} p h=>by
  rcases ho with⟨rfl,rfl⟩|⟨rfl,rfl⟩
  ·exact p.1 _ _ _ _ (hQ _ s.toks h)
  ·exact p.2 _ _ _ _ (hQ _ s.toks h)
 refine els_ok h (fun i ei h=>ad h fun j ej h=>?_) fun h=>els_ok h (fun i ei h=>ad h fun j ej h=>?_) fun h=>els_ok h (fun l el h=>ad h fun m em h=>bc h fun g h=>?_) fun h=>ad h fun l el h=>ad h fun m em hz=>?_
 ·obtain⟨t,rfl⟩:=Ra.asInt ei
  obtain⟨u,rfl⟩:=Rb.asInt ej
  rcases ho with⟨rfl,rfl⟩|⟨rfl,rfl⟩
  ·exact P.eq_int (hQ _ s.toks h)
  ·exact P.ne_int (hQ _ s.toks h)
 ·obtain⟨t,rfl⟩:=Ra.asStr ei
  obtain⟨u,rfl⟩:=Rb.asStr ej
  rcases ho with⟨rfl,rfl⟩|⟨rfl,rfl⟩
  ·exact P.eq_str (by rw[cC,cC];exact hQ _ s.toks h)
  ·exact P.ne_str (by rw[cC,cC];exact hQ _ s.toks h)
 ·obtain rfl:=ki el
  obtain rfl:=ki em
  obtain rfl:=Kl.mp g
  exact rc (zo Ra Rb (by exact lin [_,_] [(1,.a (.a (.v 0) (.n 150)) (.n 1),.v 1)] 1 (.a (.v 0) (.n 1)) (.v 1) rfl hu)) h
 ·obtain rfl:=gQ el
  obtain rfl:=gQ em
  cases m with
  |nil=>exact rc (Cy Ra Rb (by exact lin [_,_] [(1,.a (.a (.v 0) (.n 150)) (.n 1),.v 1)] 1 (.a (.v 0) (.n 1)) (.v 1) rfl hu)) hz
  |cons c m=>obtain⟨⟨rfl,h1,h2⟩,hz⟩:=hz;exact rc (r:=true) (zJ h2 h1 Ra Rb hu) hz
theorem wH{o:Cm}{a b:V}{x y:Mu}(am:bI X A n s)(Ra:Rep X al F s.heap a x)(Rb:Rep X al F s.heap b y){Q:Mu->Ms->Prop}{k:Bool->Pg}(h:wp (Wd X n) (Fx o a b k))
  (hQ:∀r t,wp (Wd X n) (k r)->Q (.bool r) {s with toks:=t}):wpAny (model X.prog X.w) A (compareOp (mV o) x y) Q E s:=by
 have ar:∀{f},wp (Wd X n) (u0 f a b k)->∀{P:Prop},(∀i j t u,x=.int i t->y=.int j u->wp (Wd X n) (k (f i j))->P)->P:=fun h _ go=>ad h fun i ei h=>ad h fun j ej h=>
  (Ra.asInt ei).elim fun t e=>(Rb.asInt ej).elim fun u e'=>go i j t u e e' h
 cases o with
 |eq=>exact AJ (q:=id) (.inl ⟨rfl,rfl⟩) am Ra Rb h hQ
 |ne=>exact AJ (q:=not) (.inr ⟨rfl,rfl⟩) am Ra Rb h hQ
 |lt=>exact ar h fun i j t u e e' h=>e▸e'▸P.lt_int (hQ _ s.toks h)
 |le=>exact ar h fun i j t u e e' h=>e▸e'▸P.le_int (hQ _ s.toks h)
 |gt=>exact ar h fun i j t u e e' h=>e▸e'▸P.gt_int (hQ _ s.toks h)
 |ge=>exact ar h fun i j t u e e' h=>e▸e'▸P.ge_int (hQ _ s.toks h)
 |is=>
  refine ad h fun t et h=>bc h fun g h=>ad h fun r er hz=>?_
  subst g
  obtain rfl:=iB Rb et
  obtain⟨p,q⟩:=ly Ra er
  exact wpAny_is_plain p (by rw[q];exact hQ _ s.toks hz)
 |isNot=>
  refine ad h fun t et h=>bc h fun g h=>ad h fun r er hz=>?_
  subst g
  obtain rfl:=iB Rb et
  obtain⟨p,q⟩:=ly Ra er
  exact wpAny_isNot_plain p (by rw[q];exact hQ _ s.toks hz)
 |isIn=>exact Ay (q:=id) (.inl ⟨rfl,rfl⟩) Ra Rb h hQ
 |notIn=>exact Ay (q:=not) (.inr ⟨rfl,rfl⟩) Ra Rb h hQ
theorem Cn{o:Cm}{l r:Mq}{a b:ME}{pos:Pos}(ha:ah X n sc l a)(hb:ah X n sc r b)(hm:behindInMarks (mV o) r=false):ah X n sc (.Compare l [mV o] [r] pos) (.cmp o a b):=fun env A s lo st m om al F kv ke am N h=>by
 refine wpAny_Compare1 (aC ha am N (fun _ _ x=>x) h fun x vx sti ali F₁ s₁ h₁ Ri b₁ Ni a₁=>?_) hm
 refine aC hb a₁ Ni (fun _ _ x=>x.from b₁) h₁ fun y vy stz alz F₂ s₂ h₂ RZ b₂ Nz a₂=>?_
 exact wH a₂ (b₂.rep Ni.inv Ri) RZ h₂ fun r t hr=>EP.from (b₁.trans b₂) (az Nz hr (.bool _))
theorem All2.at{α β:Type}{R:α->β->Prop}{l:List α}{m:List β}(t:All2 R l m):∀{j:Nat} {a:α},l[j]? =some a->∃b,m[j]? =some b/\R a b:=by
 induction t with
 |nil=>intro _ _ e;cases e
 |cons p t ih=>
  intro j a e
  cases j with
  |zero=>cases e;exact⟨_,rfl,p⟩
  |succ j=>exact ih (j:=j) e
end
section
variable {al:List (Mt×Mt)} {k:V->St->Pg}
theorem zj{e:Mq}{me:ME}{pos:Pos}(h:ah X n sc e me):ah X n sc (.BoolOp .And [e] pos) (.and [me]):=fun env A s lo st m om al F kv ke am N q=>BoolOp_one (h env A s lo st m om al F kv ke am N q)
theorem Cc{e:Mq}{me:ME}{pos:Pos}(h:ah X n sc e me):ah X n sc (.BoolOp .Or [e] pos) (.or [me]):=fun env A s lo st m om al F kv ke am N q=>BoolOp_one (h env A s lo st m om al F kv ke am N q)
theorem Cp{e e₂:Mq}{es:List Mq}{me mez:ME}{mes:List ME}{pos:Pos}(h:ah X n sc e me)(hr:ah X n sc (.BoolOp .And (e₂::es) pos) (.and (mez::mes))):
  ah X n sc (.BoolOp .And (e::e₂::es) pos) (.and (me::mez::mes)):=fun env A s lo st m om al F kv ke am N q=>
 BoolOp_and (aC h am N (fun _ _ x=>x) q fun v vx sti ali F₁ s₁ h₁ Ri b₁ Ni a₁=>jp Ri h₁ fun t tk hk'=>Bool.rec (motive:=fun t=>wp (Wd X n) (cond t (wi (mez::mes) kv ke sti) (kv v sti))->ite (t=true) _ _)
  (fun h₁=>EP.from b₁ (az Ni h₁ Ri))
  (fun h₁=>J0 (hr _ _ _ lo _ m om _ _ kv ke (a₁.tok hk') Ni.tok h₁) (fun _ _ x=>EP.from (b₁.trans (.tok tk)) x) fun _ _ x=>XP.from (b₁.trans (.tok tk)) x) t)
theorem EK{e e₂:Mq}{es:List Mq}{me mez:ME}{mes:List ME}{pos:Pos}(h:ah X n sc e me)(hr:ah X n sc (.BoolOp .Or (e₂::es) pos) (.or (mez::mes))):
  ah X n sc (.BoolOp .Or (e::e₂::es) pos) (.or (me::mez::mes)):=fun env A s lo st m om al F kv ke am N q=>
 BoolOp_or (aC h am N (fun _ _ x=>x) q fun v vx sti ali F₁ s₁ h₁ Ri b₁ Ni a₁=>jp Ri h₁ fun t tk hk'=>Bool.rec (motive:=fun t=>wp (Wd X n) (cond t (kv v sti) (C8 (mez::mes) kv ke sti))->ite (t=true) _ _)
  (fun h₁=>J0 (hr _ _ _ lo _ m om _ _ kv ke (a₁.tok hk') Ni.tok h₁) (fun _ _ x=>EP.from (b₁.trans (.tok tk)) x) fun _ _ x=>XP.from (b₁.trans (.tok tk)) x)
  (fun h₁=>EP.from b₁ (az Ni h₁ Ri)) t)
theorem CY{e:Mq}{me:ME}{pos:Pos}(h:bN X n sc e me):bN X n sc (.UnaryOp .Not e pos) (.not me):=fun env A s lo st m om al F kt ke am N q=>
 isTrue_not (gq h am N (fun _ _ x=>x) q fun t sti ali F₁ s₁ h₁ b₁ Ni a₁=>⟨sti,ali,F₁,h₁,b₁,Ni⟩)
theorem pX{pos:Pos}:bN X n sc (.BoolOp .And [] pos) (.and []):=fun env A s lo st m om al F kt ke am N q=>isTrue_and_nil (qP N q)
theorem s9{pos:Pos}:bN X n sc (.BoolOp .Or [] pos) (.or []):=fun env A s lo st m om al F kt ke am N q=>isTrue_or_nil (qP N q)
theorem C0{e:Mq}{es:List Mq}{me:ME}{mes:List ME}{pos:Pos}(h:bN X n sc e me)(hr:bN X n sc (.BoolOp .And es pos) (.and mes)):
  bN X n sc (.BoolOp .And (e::es) pos) (.and (me::mes)):=fun env A s lo st m om al F kt ke am N q=>
 isTrue_and (gq h am N (fun _ _ x=>x) q fun t sti ali F₁ s₁ h₁ b₁ Ni a₁=>Bool.rec (motive:=fun t=>wp (Wd X n) (cond t (kR mes kt ke sti) (kt false sti))->ite (t=true) _ _)
  (fun h₁=>TP.mk sti ali F₁ h₁ b₁ Ni)
  (fun h₁=>J0 (hr env A s₁ lo sti m om ali F₁ kt ke a₁ Ni h₁) (fun _ _ x=>TP.from b₁ x) fun _ _ x=>XP.from b₁ x) t h₁)
theorem E8{e:Mq}{es:List Mq}{me:ME}{mes:List ME}{pos:Pos}(h:bN X n sc e me)(hr:bN X n sc (.BoolOp .Or es pos) (.or mes)):
  bN X n sc (.BoolOp .Or (e::es) pos) (.or (me::mes)):=fun env A s lo st m om al F kt ke am N q=>
 isTrue_or (gq h am N (fun _ _ x=>x) q fun t sti ali F₁ s₁ h₁ b₁ Ni a₁=>Bool.rec (motive:=fun t=>wp (Wd X n) (cond t (kt true sti) (tW mes kt ke sti))->ite (t=true) _ _)
  (fun h₁=>J0 (hr env A s₁ lo sti m om ali F₁ kt ke a₁ Ni h₁) (fun _ _ x=>TP.from b₁ x) fun _ _ x=>XP.from b₁ x)
  (fun h₁=>TP.mk sti ali F₁ h₁ b₁ Ni) t h₁)
theorem CZ{o:Cm}{l r:Mq}{a b:ME}{pos:Pos}(ha:ah X n sc l a)(hb:ah X n sc r b)(hm:behindInMarks (mV o) r=false):bN X n sc (.Compare l [mV o] [r] pos) (.cmp o a b):=fun env A s lo st m om al F kv ke am N h=>by
 refine wpAny_isTrue_Compare1 (aC ha am N (fun _ _ x=>x) h fun x vx sti ali F₁ s₁ h₁ Ri b₁ Ni a₁=>?_) hm
 refine aC hb a₁ Ni (fun _ _ x=>x.from b₁) h₁ fun y vy stz alz F₂ s₂ h₂ RZ b₂ Nz a₂=>?_
 exact wH a₂ (b₂.rep Ni.inv Ri) RZ h₂ fun r t hr=>LM (TP.from (b₁.trans b₂) (lR Nz hr))
theorem oh{e:Mq}{me:ME}(h:ah X n sc e me)
  (hp:∀env (whole:Sem Mu),isTrue e env whole=(do let v ←whole;standAt e.pos;holding [v] (truthy v)))
  (ht:∀k ke st,ev me (.b k) ke st=ev me (.v fun v st=>DA v fun t=>k t st) ke st):bN X n sc e me:=fun env A s lo st m om al F kt ke am N q=>
 isTrue_plain (aC h am N (fun _ _ x=>x) (ht kt ke st▸q) fun v vx sti ali F₁ s₁ h₁ Ri b₁ Ni a₁=>jp Ri h₁ fun t tk _ h₁=>TP.from b₁ (lR Ni h₁)) (hp env _)
theorem vF{id:Str}{v:da}{pos}(hv:v∈sc.vis)(hn:v.name=id)(hd:(id==("__debug__":Str))=false)(hcd:(id==("__classdict__":Str))=false):bN X n sc (.Name id pos) (.x v.slot):=fun env A s lo st m om al F kt ke am N h=>by
 refine isTrue_plain ?_
 refine mK h (fun y hl h=>?_) fun l hl h=>?_
 ·refine aC (k:=fun v' st'=>.hold (v'=y/\st'=st)) (ke:=ke) (jE hv hn hd hcd) am N (fun _ _ x=>x) ?_ fun v' vx sti ali F₁ s₁ h0 Ri b₁ Ni a₁=>?_
  ·show wp _ (mL st.loc[v.slot]? _ _)
   rw[hl];exact⟨rfl,rfl⟩
  ·obtain⟨rfl,rfl⟩:=h0
   exact jp Ri h fun t tk _ h=>TP.from b₁ (lR Ni h)
 ·subst hn
  have q:=N.fr.vars v hv
  rw[hl]at q
  obtain⟨hc,vs,e1,e2,e3,e4,e5,e6,e7⟩:=q
  exact Lq (K6 N.fr.kind (dK hc (N.fr.names v hv)) N.fr.ns e1 (jo e2.is e3 h.1 fun t _=>lR N h.2)) hd
theorem Ch{c x y:Mq}{mc a b:ME}{pos:Pos}(hc:bN X n sc c mc)(ha:ah X n sc x a)(hb:ah X n sc y b):ah X n sc (.IfExp c x y pos) (.ite mc a b):=fun env A s lo st m om al F kv ke am N h=>
 wpAny_IfExp (gq hc am N (fun _ _ x=>x) h fun t sti ali F₁ s₁ h₁ b₁ Ni a₁=>Bool.rec (motive:=fun t=>wp (Wd X n) (cond t (ev a (.v kv) ke sti) (ev b (.v kv) ke sti))->ite (t=true) _ _)
  (fun h₁=>J0 (hb env A s₁ lo sti m om ali F₁ kv ke a₁ Ni h₁) (fun _ _ x=>EP.from b₁ x) fun _ _ x=>XP.from b₁ x)
  (fun h₁=>J0 (ha env A s₁ lo sti m om ali F₁ kv ke a₁ Ni h₁) (fun _ _ x=>EP.from b₁ x) fun _ _ x=>XP.from b₁ x) t h₁)
inductive Dv(len:Nat)(i:Int)(j:Nat):Prop
 |pos (h:0<=i) (l:i < 2^63) (e:j=i.toNat) (q:j < len)
 |neg (h:i < 0) (g:0<=i+len) (l: -2^63<=i) (e:j=(i+len).toNat) (q:j < len)
theorem Cu(k len:Nat):len - (k+1)=(Int.negSucc k+(len:Int)).toNat:=by
 rw[Int.add_comm]
 exact(Int.toNat_sub len (k+1)).symm
theorem jy{len:Nat}{i:Int}{j:Nat}(e:eE len i=some j):Dv len i j:=by
 have hl:lim=1000000:=rfl
 cases i with
 |ofNat k=>
  revert e
  show cond (Nat.blt k len) (cond (Nat.ble k lim) (some k) none) none=some j->_
  cases a:Nat.blt k len
  ·exact fun e=>nomatch e
  cases b:Nat.ble k lim
  ·exact fun e=>nomatch e
  have a:=JI a
  have b:=JI b
  intro e;cases e
  exact .pos (Lu j) (Lv (Int.ofNat_le.mpr b) (by decide)) rfl a
 |negSucc k=>
  revert e
  show cond (Nat.ble (k+1) len) (cond (Nat.ble (k+1) lim) (some (len - (k+1))) none) none=some j->_
  cases a:Nat.ble (k+1) len
  ·exact fun e=>nomatch e
  cases b:Nat.ble (k+1) lim
  ·exact fun e=>nomatch e
  have a:=JI a
  have b:=JI b
  intro e;cases e
  exact .neg (Int.negSucc_lt_zero k) (Int.add_comm _ _▸Int.sub_nonneg_of_le (Int.ofNat_le.mpr a)) (Kz (by decide) (Int.neg_le_neg (Int.ofNat_le.mpr b))) (Cu k len) (Nat.sub_lt (Ka (Nat.succ_pos _) a) (Nat.succ_pos _))
theorem uz{len:Nat}{i k:Int}(e:(if i < 0 then i+len else i)=k)(h:0<=k)(g:k.toNat < len):seqIndex? i len=some k.toNat:=by
 show(if(decide (0<=(if i < 0 then i+len else i))&&decide ((if i < 0 then i+len else i) < len))=true then some ((if i < 0 then i+len else i).toNat)else none)=_
 rw[e,if_pos (JP.mpr ⟨Kt h,Kt ((Int.toNat_lt h).mp g)⟩)]
theorem gZ{len:Nat}{i:Int}{j:Nat}(e:eE len i=some j):seqIndex? i len=some j/\ -2^63<=i/\i < 2^63/\j < len:=by
 rcases jy e with⟨h,l,rfl,q⟩|⟨h,g,l,rfl,q⟩
 ·exact⟨uz (if_neg (KK.mpr h)) h q,Kz (by decide) h,l,q⟩
 ·exact⟨uz (if_pos h) g q,l,Mk h (by decide),q⟩
theorem sub_ops{slice:Mq}{o i:Mu}:∃ops,subscripted slice false o i=operate ops (getItem o i):=by
 cases slice with
 |Slice a b c=>cases c<;>exact⟨_,rfl⟩
 |_=>exact⟨_,rfl⟩
theorem cS{value slice:Mq}{o i:Mu}{T id:String}{Q:Mu->Ms->Prop}(hT:s.TypeIs o T)
  (hl:typeLookup (.type T) "__getitem__"=pure (some (.builtin id))) (hg:wpAny (model X.prog X.w) A (getItem o i) Q E s):wpAny (model X.prog X.w) A (subscriptTail value slice o i) Q E s:=
 sub_ops.elim fun _ e=>tail_any hT hl hg e
theorem rm{a:Mt}{l:List V}{vs:List Mu}{i:Int}{t:Tok}{j:Nat}{v:V}{Q:Mu->Ms->Prop}(hl:gU s.heap a vs)(r:ag X al F s.heap l vs)(e:eE l.length i=some j)(ev:l[j]? =some v)
  (h:∀x,Rep X al F s.heap v x->Q x s):wpAny (model X.prog X.w) A (getItem (.ref a) (.int i t)) Q E s:=by
 obtain⟨x,e',R⟩:=r.at' j ev
 have hz:vs.toArray.size=l.length:=JR.trans r.length.symm
 have e':vs.toArray[j]? =some x:=LA.trans e'
 rcases jy e with⟨h0,l0,rfl,q⟩|⟨h0,g0,l0,rfl,q⟩
 ·exact wpAny_getItem_list hl.is h0 l0 e' (h x R)
 ·exact wpAny_getItem_list_neg hl.is h0 (by rw[hz];have:=Int.sub_le_sub_right g0 (l.length:Int);rwa[Int.zero_sub,Int.add_sub_cancel]at this) l0 (by rw[hz];exact e') (h x R)
theorem C4{value slice:Mq}{a b:V}{x y:Mu}(N:aO X env sc lo m om st al F s)(Ra:Rep X al F s.heap a x)(Rb:Rep X al F s.heap b y)(h:wp (Wd X n) (Fa st a b fun v=>k v st)):
  wpAny (model X.prog X.w) A (subscriptTail value slice x y) (EP X n env sc lo m om al F s k) E s:=by
 refine els_ok h (fun i ei h=>?_) fun h=>ad h fun z ez h=>ad h fun d ed h=>ad h fun v ev hz=>?_
 ·obtain⟨t,rfl⟩:=Rb.asInt ei
  refine els_ok h (fun l el h=>ad h fun v ev h=>?_) fun h=>els_ok h (fun l el h=>ad h fun v ev h=>?_) fun h=>els_ok h (fun z ez h=>ad h fun c ev h=>?_) fun h=>els_ok h (fun d ed h=>ad h fun v ev hz=>?_) fun h=>ad h fun p ep h=>?_
  ·obtain⟨_,vs,rfl,t',f,r⟩:=Ra.asTup el
   obtain⟨j,e1,e2⟩:=Ku.mp ev
   obtain⟨p1,p2,p3,p4⟩:=gZ e1
   obtain⟨x,e',R⟩:=r.at' j e2
   exact cS t'.isTup.typeIs slot_tuple_getitem.lookup (getItem_tuple (j:=j) t'.isTup p2 p3 (by rw[JR, ←r.length];exact p1) (LA.trans e') (bD N h R))
  ·obtain⟨_,vs,rfl,t',f,r⟩:=Ra.asLst el
   obtain⟨j,e1,e2⟩:=Ku.mp ev
   exact cS t'.is.typeIs slot_list_getitem.lookup (rm t' r e1 e2 fun x R=>bD N h R)
  ·obtain⟨t',rfl⟩:=Ra.asStr ez
   obtain⟨j,e1,e2⟩:=Ku.mp ev
   obtain⟨p1,p2,p3,p4⟩:=gZ e1
   refine cS (typeIs_str s _ _) PySem.F.slot_str_getitem.lookup (P.getItem_str (c:=c) ?_ ?_ (az N h (.str [c] _)))
   ·simp only[K7,Ld];exact⟨KK.mpr p2,LL.mpr p3⟩
   ·rw[aD,p1];exact LA.trans e2
  ·obtain⟨_,ks,vs,l',rfl,rfl,⟨hds,f,hm,hf'⟩,hf,hn,rl⟩:=Ra.asDI ed
   obtain⟨x,q1,R⟩:=(dH (fun _ _=>rfl) i ks rl hn).some ev
   exact cS hm.typeIs slot_dict_getitem.lookup (wpAny_getItem_of (intKind_is _ _ _ _) hm (by rw[hf'];exact q1) (az N hz R))
  ·obtain⟨pp,ea,rfl⟩:=Ra.asObj ep
   obtain⟨o,eo,h⟩:=h
   refine ad h fun l el h=>ad h fun v ev h=>?_
   obtain⟨p',ep,q⟩:=N.inv.objs.at eo
   rw[ea]at ep;cases ep
   obtain⟨vs,t',r,_⟩:=q.lstOf el
   obtain⟨j',e1,e2⟩:=Ku.mp ev
   exact cS t'.is.typeIs slot_list_getitem.lookup (rm t' r e1 e2 fun x R=>bD N h R)
 ·obtain⟨t,rfl⟩:=Rb.asStr ez
  obtain⟨_,ks,vs,l',rfl,rfl,⟨hds,f,hm,hf'⟩,hf,hn,rl⟩:=Ra.asDS ed
  obtain⟨x,q1,R⟩:=(dH m7 z ks rl hn).some ev
  exact cS hm.typeIs slot_dict_getitem.lookup (wpAny_getItem_of (strKind_is _ _ _ _) hm (by rw[hf'];exact q1) (az N hz R))
theorem Cj{value slice:Mq}{a b:ME}{pos:Pos}(ha:ah X n sc value a)(hb:ah X n sc slice b):ah X n sc (.Subscript value slice pos) (.idx a b):=fun env A s lo st m om al F kv ke am N h=>by
 refine Subscript_ (aC ha am N (fun _ _ x=>x) h fun x vx sti ali F₁ s₁ h₁ Ri b₁ Ni a₁=>?_)
 refine aC hb a₁ Ni (fun _ _ x=>x.from b₁) h₁ fun y vy stz alz F₂ s₂ h₂ RZ b₂ Nz a₂=>?_
 exact J0 (C4 Nz (b₂.rep Ni.inv Ri) RZ h₂) (fun _ _ x=>x.from (b₁.trans b₂)) fun _ _ x=>x
end
section
variable {al:List (Mt×Mt)} {k:V->St->Pg}
noncomputable def dz(n:Nat)(lo:Option Int):Nat:=(lo.map (cB n)).getD 0
noncomputable def iW(n:Nat)(hi:Option Int):Nat:=(hi.map (cB n)).getD n
theorem fm{α:Type}(l:List α)(lo hi:Option Int):cut l lo hi=(l.drop (dz l.length lo)).take (iW l.length hi - dz l.length lo):=rfl
theorem oN(n:Nat)(i:Int):cB n i<=n:=Int.toNat_le.mpr (Int.max_le.mpr ⟨Lu n,Int.min_le_right _ _⟩)
theorem zM(n:Nat)(i:Option Int):dz n i<=n:=by cases i<;>simp[dz,oN]
theorem rI(n:Nat)(i:Option Int):iW n i<=n:=by cases i<;>simp[iW,oN]
theorem oM(n:Nat)(i:Int):max 0 (min (if i < 0 then i+n else i) (n:Int))=(cB n i:Int):=(Mb (Int.le_max_left _ _)).symm
theorem tw(n:Nat)(i:Int):(if i < 0 then max (i+n) 0 else min i (n:Int))=(cB n i:Int):=by
 rw[←oM]
 split
 ·rw[Int.min_eq_left (by have:=Int.add_le_add_right (K5 (by assumption:i < 0)) (n:Int);rwa[Int.zero_add]at this),Int.max_comm]
 ·exact(Int.max_eq_right (Int.le_min.mpr ⟨KK.mp (by assumption),Lu n⟩)).symm
theorem j6(lo hi:Option Int)(n:Nat):sliceBounds lo hi none n=((dz n lo:Int),(iW n hi:Int),1):=by
 have a:∀(o:Option Int) (d:Nat),(match o with|none=>(d:Int)|some i=>max 0 (min (if i < 0 then i+n else i) (n:Int)))=(((o.map (cB n)).getD d:Nat):Int):=fun o d=>by
  cases o
  ·rfl
  ·exact oM n _
 exact Prod.ext (a lo 0) (Prod.ext (a hi n) rfl)
theorem qu(lo hi:Option Int)(n:Nat):Builtin.Slice.sliceAdjust lo hi 1 n=((dz n lo:Int),(iW n hi:Int)):=by
 have a:∀(o:Option Int) (d:Nat),(match o with|none=>(d:Int)|some i=>if i < 0 then max (i+n) 0 else min i (n:Int))=(((o.map (cB n)).getD d:Nat):Int):=fun o d=>by
  cases o
  ·rfl
  ·exact tw n _
 exact Prod.ext (a lo 0) (a hi n)
theorem f9{α:Type}(l:List α)(a c:Nat):(List.range c).filterMap (fun k=>l[a+k]?)=(l.drop a).take c:=by
 induction c with
 |zero=>simp
 |succ c ih=>
  rw[List.range_succ,List.filterMap_append,ih,List.take_add_one]
  congr 1
  rw[Ls]
  cases e:l[a+c]? <;>simp[e]
theorem eO(a b:Nat):sliceRange (a:Int) (b:Int) 1=(List.range (b - a)).map fun k=>a+k:=by
 unfold sliceRange
 have:(if(1:Int) > 0 then(if(a:Int) < b then((b:Int) - a+1 - 1) / 1 else 0)else(if(a:Int) > b then((a:Int) - b - 1 - 1) / (-1)else 0)).toNat=b - a:=by
  rw[if_pos (by decide),Int.ediv_one,Int.add_sub_cancel,Hi];exact Int.toNat_sub b a
 dsimp only
 rw[this]
 exact Ma fun k _=>by rw[Int.one_mul];rfl
theorem uV{α:Type}(xs:List α)(lo hi:Option Int):(sliceRange (sliceBounds lo hi none xs.length).1 (sliceBounds lo hi none xs.length).2.1 (sliceBounds lo hi none xs.length).2.2).filterMap (xs[·]?)=cut xs lo hi:=by
 rw[j6,fm,eO,List.filterMap_map]
 exact f9 _ _ _
theorem ag.tk{l:List V}{vs:List Mu}(r:ag X al F h l vs)(c:Nat):ag X al F h (l.take c) (vs.take c):=by
 refine r.ind (P:=fun l vs=>∀c,ag X al F h (l.take c) (vs.take c)) (fun c=>?_) (fun v x l xs a _ ih c=>?_) c
 ·rw[List.take_nil,List.take_nil];exact .nil
 ·cases c with
  |zero=>exact .nil
  |succ c=>exact .cons a (ih c)
theorem ag.dr{l:List V}{vs:List Mu}(r:ag X al F h l vs)(c:Nat):ag X al F h (l.drop c) (vs.drop c):=by
 refine r.ind (P:=fun l vs=>∀c,ag X al F h (l.drop c) (vs.drop c)) (fun c=>?_) (fun v x l xs a t ih c=>?_) c
 ·rw[List.drop_nil,List.drop_nil];exact .nil
 ·cases c with
  |zero=>exact .cons a t
  |succ c=>exact ih c
theorem ag.cut{l:List V}{vs:List Mu}(r:ag X al F h l vs)(lo hi:Option Int):ag X al F h (cut l lo hi) (cut vs lo hi):=by
 rw[fm,fm,r.length]
 exact(r.dr _).tk _
theorem iQ{sl:Mt}{vl vu:Mu}{lo hi:Option Int}{len:Nat}{Q:Int×Int×Nat->Ms->Prop}(hs:s.heap.IsSliceOf sl vl vu .none)(pl:IsPart vl lo)(pu:IsPart vu hi)
  (h:Q ((dz len lo:Int),1,iW len hi - dz len lo) s):wpAny (model X.prog X.w) A (Builtin.Slice.sliceApplied (.ref sl) (pure (len:Int))) Q E s:=by
 obtain⟨os,hos,hcs,hds⟩:=id hs
 unfold Builtin.Slice.sliceApplied Builtin.Slice.sliceFields
 refine JJ (JJ (L7 hos hds (x:=vl) rfl (JJ (L7 hos hds (x:=vu) rfl (JJ (L7 hos hds (x:=.none) rfl (JO ?_)))))))
 refine JJ (slicePart_none ?_)
 show wpAny _ _ (if((1:Int)==0)=true then _ else _) _ _ s
 rw[if_neg (by decide)]
 have part:∀{v:Mu} {p:Option Int} {Q:Option Int->Ms->Prop},IsPart v p->Q p s->wpAny (model X.prog X.w) A (Builtin.Slice.slicePartIndex v) Q E s:=fun q hq=>by
  cases q
  ·exact slicePart_none hq
  ·exact slicePart_int hq
 refine JJ (part pl (JJ (part pu (JJ (JO ?_)))))
 show wpAny _ _ (match Builtin.Slice.sliceAdjust lo hi 1 (len:Int)with|(lo,hi)=>pure (lo,(1:Int),Builtin.Slice.slicePlaces lo hi 1)) _ _ s
 rw[qu]
 refine JO ?_
 have:Builtin.Slice.slicePlaces (dz len lo:Int) (iW len hi:Int) 1=iW len hi - dz len lo:=by
  unfold Builtin.Slice.slicePlaces
  rw[if_pos (by decide),Int.ediv_one,Int.sub_add_cancel,Hi];exact Int.toNat_sub _ _
 rw[this];exact h
theorem fS{t sl:Mt}{items:List Mu}{vl vu:Mu}{lo hi:Option Int}{Q:Mu->Ms->Prop}(ht:IsTup s.heap t items.toArray)(hs:s.heap.IsSliceOf sl vl vu .none)(pl:IsPart vl lo)(pu:IsPart vu hi)
  (h1:cut items lo hi=items->Q (.ref t) s)
  (h:Q (.ref s.heap.objs.size) {s with heap:=s.heap.push {cls:=.type "tuple",data:=.seq (cut items lo hi).toArray}})
  (hsz:(cut items lo hi).length<=sizeLine):wpAny (model X.prog X.w) A (getItem (.ref t) (.ref sl)) Q E s:=by
 have hdrop:sizeOk (.seq (cut items lo hi).toArray):=by
  show(cut items lo hi).toArray.size<=sizeLine
  rw[JR];exact hsz
 obtain⟨os,hos,hcs,hds⟩:=id hs
 have hTs:s.TypeIs (.ref sl) "slice":=⟨os,hos,hcs⟩
 unfold getItem
 refine Kp ?_
 refine JJ (wpAny_sequenceKey ht.typeIs (by decide) ?_)
 refine JJ (wpAny_callSpecial?_slot (name:=Str.ofString "__getitem__") ht.typeIs slot_tuple_getitem
  (wpAny_call_entry slot_tuple_getitem ht.typeIs entry_tuple_getitem ?_ (args_tuple_getitem _ _)))
 show wpAny _ _ (Builtin.Tuple.tupleItemsOf (.ref t)>>=_) _ _ s
 refine JJ (tupleItemsOf_ ht ?_)
 refine JJ (Mh hTs ?_)
 rw[if_pos (by decide)]
 refine JJ (iQ (len:=items.length) hs pl pu ?_)
 have hb:=rI items.length hi
 have pick:((List.range (iW items.length hi - dz items.length lo)).filterMap fun(k:Nat)=>items.toArray[((dz items.length lo:Int)+(k:Int)*1).toNat]?).toArray=(cut items lo hi).toArray:=by
  have e:(fun(k:Nat)=>items.toArray[((dz items.length lo:Int)+(k:Int)*1).toNat]?)=fun k=>items[dz items.length lo+k]? :=by
   funext k
   have:((dz items.length lo:Int)+(k:Int)*1).toNat=dz items.length lo+k:=by rw[Int.mul_one];rfl
   rw[this];simp
  rw[e,f9,fm]
 show wpAny _ _ (if((dz items.length lo:Int)==0&&(1:Int)==1&&(iW items.length hi - dz items.length lo)==items.toArray.size)=true then _ else _) _ _ s
 split
 ·rename_i hc
  simp only[LY,J7,JR]at hc
  have ha:dz items.length lo=0:=Int.ofNat.inj hc.1.1
  have hb':iW items.length hi=items.length:=by have:=hc.2;rwa[ha,Nat.sub_zero]at this
  have e:cut items lo hi=items:=by rw[fm,ha,hb'];simp
  refine JJ (m:=Builtin.Tuple.tupleIsExact (.ref t)) ?_
  unfold Builtin.Tuple.tupleIsExact
  refine JJ (Mh ht.typeIs (JO ?_))
  rw[if_pos (by decide)]
  first
  |exact wpAny_rule (JO ⟨_,rfl,JO (h1 e)⟩)
  |exact JJ (wpAny_rule (JO ⟨_,rfl,JO (h1 e)⟩))
  |exact JJ (JO ⟨_,rfl,JO (h1 e)⟩)
 ·rw[pick]
  exact JJ (m:=Builtin.Tuple.tupleExact _) (Lb (JO ⟨_,rfl,JO h⟩) hdrop)
theorem rG{α:Type}(l:List α)(lo hi:Option Int):(cut l lo hi).length<=l.length:=by rw[fm];exact JH (List.length_take_le' _ _) (LS▸Nat.sub_le _ _)
noncomputable def xF(X:Cx)(al:List (Mt×Mt))(F:Mt->Prop)(h:Heap):Option V->Mu->Prop
 |some w,x=>Rep X al F h w x
 |none,x=>x=.none
theorem j7{v:Option V}{x:Mu}{i:Option Int}(R:xF X al F h v x)(e:bound v=some i):IsPart x i/\∃p,x=partValue p/\p.map (·.1)=i:=by
 cases v with
 |none=>cases e;cases R;exact⟨.none,none,rfl,rfl⟩
 |some w=>
  obtain⟨j,ej,rfl⟩:=Option.map_eq_some_iff.mp e
  obtain⟨t,rfl⟩:=Rep.asInt R ej
  exact⟨.int _ _,some (j,t),rfl,rfl⟩
theorem um(z:List Nat){p q:Option (Int×Tok)}{i j:Option Int}(ep:p.map (·.1)=i)(eq:q.map (·.1)=j):slicePicked (ST z) p q none=(List.range (iW z.length j - dz z.length i)).map fun k=>dz z.length i+k:=by
 have:slicePicked (ST z) p q none=sliceRange (sliceBounds i j none z.length).1 (sliceBounds i j none z.length).2.1 (sliceBounds i j none z.length).2.2:=by
  unfold slicePicked
  rw[ep,eq,aD]
  cases i<;>cases j<;>rfl
 rw[this,j6,eO]
theorem BL{value slice:Mq}{a:V}{x vl vu:Mu}{l u:Option V}(N:aO X env sc lo m om st al F s)(Ra:Rep X al F s.heap a x)
  (Rl:xF X al F s.heap l vl) (Ru:xF X al F s.heap u vu) (h:wp (Wd X n) (Ec a l u fun v=>k v st)):
  wpAny (model X.prog X.w) A (subscriptTail value slice x (.ref s.heap.objs.size)) (EP X n env sc lo m om al F s k) E {s with heap:=s.heap.push {cls:=.type "slice",data:=.fields #[vl,vu,.none]}}:=by
 refine ad h fun i el h=>ad h fun j eu h=>?_
 obtain⟨pl,p,rfl,ep⟩:=j7 Rl el
 obtain⟨pu,q,rfl,eq⟩:=j7 Ru eu
 have hs:({s with heap:=s.heap.push {cls:=.type "slice",data:=.fields #[partValue p,partValue q,.none]}}:Ms).heap.IsSliceOf s.heap.objs.size (partValue p) (partValue q) .none:=.new ..
 have g:∀b o,s.heap.get? b=some o->(s.heap.push {cls:=.type "slice",data:=.fields #[partValue p,partValue q,.none]}).get? b=some o:=af _
 have N':aO X env sc lo m om st al F {s with heap:=s.heap.push {cls:=.type "slice",data:=.fields #[partValue p,partValue q,.none]}}:=N.grow g
 have b':aT X lo al F s al F {s with heap:=s.heap.push {cls:=.type "slice",data:=.fields #[partValue p,partValue q,.none]}}:=.grow g
 refine els_ok h (fun l' e' h=>?_) fun h=>els_ok h (fun l' e' h=>?_) fun h=>ad h fun z e' h=>?_
 ·obtain⟨_,vs,rfl,t,f,r⟩:=Ra.asTup e'
  have t':=(bB.grow (F:=F) g).tup t f
  refine cS t'.1.isTup.typeIs slot_tuple_getitem.lookup (fS t'.1.isTup hs pl pu (fun e=>EP.from b' (bD N' h.2 ?_)) (EP.from b' (aP N' h.2 (af _) ?_)) ?_)
  ·have:=(r.cut i j).pre (bB.grow (F:=F) g) (fun _ _ e=>e)
   rw[e]at this
   exact .tup t'.1 t'.2 this
  ·exact .tup lQ N'.new ((r.cut i j).pre (bB.grow (F:=F) fun b o e=>af _ _ _ (g b o e)) fun _ _ e=>e)
  ·exact JH (r.length▸rG vs i j) (JH h.1 aV)
 ·obtain⟨_,vs,rfl,t,f,r⟩:=Ra.asLst e'
  have t':=(bB.grow (F:=F) g).lst t f
  refine cS t'.1.is.typeIs slot_list_getitem.lookup (wpAny_getItem_list_slice t'.1.is hs pl pu .none (fun e=>nomatch e) (EP.from b' (aP N' h.2 (af _) ?_)) ?_)
  ·have e:slicePick vs.toArray i j none=(Mine.cut vs i j).toArray:=by
    rw[←uV];simp[slicePick]
   rw[e]
   exact .lst ef N'.new ((r.cut i j).pre (bB.grow (F:=F) fun b o e=>af _ _ _ (g b o e)) fun _ _ e=>e)
  ·rw[JR, ←r.length];exact JH h.1 aV
 ·obtain⟨t,rfl⟩:=Ra.asStr e'
  refine cS (typeIs_str _ _ _) PySem.F.slot_str_getitem.lookup (wpAny_getItem_str_slice (l:=p) (u:=q) (st:=none) ⟨_,J8 _ rfl,rfl,rfl⟩ rfl ?_)
  have sp:=um z ep eq
  unfold sliceMade
  split
  ·rename_i hw
   have hl:(slicePicked (ST z) p q none).length=z.length:=(J7.mp (JP.mp hw).2).trans (aD z)
   have:Mine.cut z i j=z:=by
    rw[sp,JQ,LP]at hl
    have h1:=rI z.length j
    have h3:=zM z.length i
    obtain⟨h4,h5⟩:=uf hl h1 h3
    rw[fm,h4,h5]
    exact List.take_length
   rw[this]at h
   exact EP.from b' (bD N' h.2 (.str _ _))
  ·have e:(slicePicked (ST z) p q none).filterMap ((ST z).cps[·]?)=Mine.cut z i j:=by
    rw[sp,List.filterMap_map,fm, ←f9]
    exact congrArg (List.filterMap · _) (funext fun k=>LA)
   rw[e]
   refine⟨?_,EP.from b' (az N' h.2 (.str (Mine.cut z i j) _))⟩
   show(Mine.cut z i j).toArray.size<=sizeLine
   rw[JR]
   exact JH (rG z i j) (JH h.1 aV)
inductive EPo(X:Cx)(n:Nat)(env:Env)(sc:Sc)(lo:Mt->Prop)(m:Str->Option Mu)(om:Nat->Mt)(al:List (Mt×Mt))(F:Mt->Prop)(s:Ms)(k:Option V->St->Pg)(x:Mu)(s':Ms):Prop
 |mk (v:Option V) (st':St) (al':List (Mt×Mt)) (F':Mt->Prop) (h:wp (Wd X n) (k v st')) (R:xF X al' F' s'.heap v x) (b:aT X lo al F s al' F' s') (N:aO X env sc lo m om st' al' F' s')
def ku(X:Cx)(n:Nat)(sc:Sc)(e:Option Mq)(me:Option ME):Prop:=
 ∀env A s lo st m om al F kv ke,bI X A n s->aO X env sc lo m om st al F s->wp (Wd X n) (HU me kv ke st)->
  wpAny (model X.prog X.w) A (evalPart e env) (EPo X n env sc lo m om al F s kv) (XP X n env sc lo m om al F s ke) s
theorem yZ:ku X n sc none none:=fun env A s lo st m om al F kv ke am N h=>evalPart_none_step ⟨none,st,al,F,h,rfl,.refl,N⟩
theorem yY{e:Mq}{me:ME}(he:ah X n sc e me):ku X n sc (some e) (some me):=fun env A s lo st m om al F kv ke am N h=>by
 exact evalPart_some_step (aC he am N (fun _ _ x=>x) h fun v vx sti ali F₁ s₁ h₁ Ri b₁ Ni a₁=>⟨some v,sti,ali,F₁,h₁,Ri,b₁,Ni⟩)
theorem Cb{value:Mq}{lower upper:Option Mq}{a:ME}{ml mu:Option ME}{p pos:Pos}(ha:ah X n sc value a)(hl:ku X n sc lower ml)(hu:ku X n sc upper mu):
  ah X n sc (.Subscript value (.Slice lower upper none p) pos) (.slc a ml mu):=fun env A s lo st m om al F kv ke am N h=>by
 refine Subscript_ (aC ha am N (fun _ _ x=>x) h fun x vx sti ali F₁ s₁ h₁ Ri b₁ Ni a₁=>wpAny_Slice ?_)
 refine wpAny_up (J0 (hl env A s₁ lo sti m om ali F₁ _ ke a₁ Ni h₁) (fun vl s₂ qz u=>qz.casesOn fun l stz alz F₂ h₂ RZ b₂ Nz=>?_) fun _ _ x _=>x.from b₁)
 refine J0 (hu env A s₂ lo stz m om alz F₂ _ ke (a₁.aft Ni.inv b₂ u) Nz h₂) (fun vu s₃ qz=>qz.casesOn fun u ste alE F₃ h₃ RE b₃ NE=>?_) fun _ _ x=>x.from (b₁.trans b₂)
 refine evalPart_none_step ?_
 have Rz':xF X alE F₃ s₃.heap l vl:=by
  cases l with
  |none=>exact RZ
  |some w=>exact b₃.rep Nz.inv RZ
 exact J0 (BL NE (b₃.rep Nz.inv (b₂.rep Ni.inv Ri)) Rz' RE h₃) (fun _ _ x=>x.from ((b₁.trans b₂).trans b₃)) fun _ _ x=>x
end
section
structure Kd(X:Cx):Prop where
 inn:X.K.In X.B
 get:∀c,3<=c->c<=5->plainGet X.K (X.clsA c) ""=true
 set:∀c,3<=c->c<=5->findIn X.K (.ref (X.clsA c)) "__setattr__"=some (some (.builtin "object.__setattr__"))/\plainOver X.K (X.clsA c)=true/\hasDictIn X.K (X.clsA c)=true
 data:∀c a,cQ c a=true->findIn X.K (.ref (X.clsA c)) (aH a)=some none
 meth:∀c a i,meth c a=some i->findIn X.K (.ref (X.clsA c)) (aH a)=some (some (.ref (X.fnA i)))/\isFn X.K (.ref (X.fnA i))=true
 fnK:∀i,keepIn X.K (.ref (X.fnA i))=true
 clsK:∀c,keepIn X.K (.ref (X.clsA c))=true
theorem kb(a:At):iI[a.ctorIdx]? =some a:=(by decide+kernel:∀a:At,iI[a.ctorIdx]? =some a) a
theorem qo{p:At->Bool}(h:iI.all p=true)(a:At):p a=true:=Km.mp h a (List.mem_of_getElem? (kb a))
theorem xj:iI.all (fun a=>(iI.map aH).idxOf (aH a)==a.ctorIdx)=true:=by decide+kernel
theorem tF{a b:At}(h:aH a=aH b):a=b:=by
 have e:a.ctorIdx=b.ctorIdx:=by rw[←J7.mp (qo xj a), ←J7.mp (qo xj b),h]
 have:=kb a
 rw[e,kb b]at this
 exact(J9 this).symm
theorem cond_ok{α:Type}{b:Bool}{x y:α}{P:α->Prop}(h:P (cond b x y)){Q:Prop}(f:b=true->P x->Q)(g:P y->Q):Q:=by
 cases b
 ·exact g h
 ·exact f rfl h
theorem j3{c:Nat}{a:At}(h:cQ c a=true):c=3∨c=4∨c=5:=by
 refine cond_ok (P:=fun l=>kI a.ctorIdx l=true) h (fun e _=>.inl (Nat.eq_of_beq_eq_true e)) fun h=>cond_ok (P:=fun l=>kI a.ctorIdx l=true) h (fun e _=>.inr (.inl (Nat.eq_of_beq_eq_true e))) fun h=>cond_ok (P:=fun l=>kI a.ctorIdx l=true) h (fun e _=>.inr (.inr (Nat.eq_of_beq_eq_true e))) fun h=>nomatch h
theorem n9{c:Nat}{a:At}{i:Nat}(h:meth c a=some i):c=3∨c=4∨c=5:=by
 refine cond_ok (P:=fun o=>o=some i) h (fun e _=>.inr (.inr (Nat.eq_of_beq_eq_true e))) fun h=>cond_ok (P:=fun o=>o=some i) h (fun e _=>.inr (.inl (Nat.eq_of_beq_eq_true e))) fun h=>nomatch h
section
variable {al:List (Mt×Mt)} {k:V->St->Pg}
theorem fz.val{w:World}{e:DictEntry}{p:At×Mu}(q:fz w e p):e.val=p.2:=q.casesOn fun _ _ _ v=>v
theorem lx{w:World}{e:DictEntry}{p:At×Mu}(q:fz w e p)(a:At):e.key.isStr (aH a)=decide (p.1=a):=by
 obtain⟨t,e1,_,_⟩:=q
 rw[e1]
 show(aH p.1==aH a)=_
 by_cases h:p.1=a
 ·rw[h];simp
 ·rw[Kg h,KA];exact fun q=>h (tF q)
theorem zx{w:World}{e:DictEntry}{p:At×Mu}(q:fz w e p):e.refKey=false:=by
 obtain⟨t',e1,_,_⟩:=q
 unfold DictEntry.refKey;rw[e1]
theorem hV{w:World}{es:List DictEntry}{l:List (At×Mu)}(q:All2 (fz w) es l):es.any (·.refKey)=false:=
 All2.rec (motive:=fun es _ _=>es.any (·.refKey)=false) rfl (fun q _ ih=>by rw[LC,ih,zx q];rfl) q
theorem tj{x:Str}{e:DictEntry}{es:List DictEntry}(h:(e::es).any (·.refKey)=false)(g:es.any (·.refKey)=false):getL x (e::es)=cond (e.key.isStr x) (some (some e.val)) (getL x es):=by
 unfold getL
 rw[List.find?_cons,h,g]
 cases e.key.isStr x<;>rfl
theorem oB{w:World}{a:At}{es:List DictEntry}{l:List (At×Mu)}(q:All2 (fz w) es l):getL (aH a) es=some (dJ a l):=by
 induction q with
 |nil=>rfl
 |@cons e p es l q t ih=>
  rw[tj (hV (.cons q t)) (hV t),lx q,ih,q.val]
  show _=some (if p.1=a then some p.2 else dJ a l)
  by_cases h:p.1=a
  ·rw[if_pos h,Kt h];rfl
  ·rw[if_neg h,Kg h];rfl
theorem nT{c:Nat}(h:c=3∨c=4∨c=5):3<=c/\c<=5:=by rcases h with rfl|rfl|rfl<;>decide
theorem ew{c:Nat}{a:At}(h:cQ c a=true):3<=c/\c<=5:=nT (j3 h)
theorem zq:iI.all (fun a=>(Ar a).all (fun i=>Nat.blt i 114)&&(Aq a).all fun i=>Nat.blt i 114)=true:=by decide+kernel
theorem jH{c:Nat}{a:At}{i:Nat}(h:meth c a=some i):3<=c/\c<=5/\i < 114:=by
 have hr:=nT (n9 h)
 refine⟨hr.1,hr.2,?_⟩
 have hm:=JP.mp (qo zq a)
 refine cond_ok (P:=fun o=>o=some i) h (fun _ e=>?_) fun h=>cond_ok (P:=fun o=>o=some i) h (fun _ e=>?_) fun h=>nomatch h
 ·have:=hm.2;rw[e]at this;exact JI this
 ·have:=hm.1;rw[e]at this;exact JI this
theorem tD(b:BI):handedIn (fZ b)=true:=by cases b<;>decide+kernel
theorem Rep.handed{v:V}{x:Mu}(R:Rep X al F h v x):handedIn x=true:=by
 have R:=R.inv
 cases v with
 |none=>obtain rfl:=R;rfl
 |bool b=>obtain rfl:=R;rfl
 |int i=>obtain⟨_,rfl⟩:=R;rfl
 |str i=>obtain⟨_,rfl⟩:=R;rfl
 |bytes i=>obtain⟨_,_,_,rfl⟩:=R;rfl
 |tup i=>obtain⟨_,_,rfl,_⟩:=R;rfl
 |lst i=>obtain⟨_,_,rfl,_⟩:=R;rfl
 |dS i=>obtain⟨_,_,_,_,_,rfl,_⟩:=R;rfl
 |dI i=>obtain⟨_,_,_,_,_,rfl,_⟩:=R;rfl
 |rng i j=>obtain⟨_,_,_,_,rfl,_⟩:=R;rfl
 |rev=>exact R.elim
 |ins c l=>obtain⟨_,_,_,_,_,_,rfl,_⟩:=R;rfl
 |fn=>obtain rfl:=R;rfl
 |cls=>obtain rfl:=R;rfl
 |bi b=>obtain rfl:=R;exact tD b
 |lam=>obtain⟨_,_,_,rfl,_⟩:=R;rfl
 |obj=>obtain⟨_,_,rfl⟩:=R;rfl
theorem jO(G:Kd X){x d:Mt}{c:Nat}{ks:List At}{vs:List Mu}{l:List V}{a:At}{v:V}{expr:Bool}{Q:Mu->Ms->Prop}(hin:X.K.In s.heap)(e:s.heap.get? x=some (instObj (X.clsA c) d))(hd:qB X.w s.heap d (ks.zip vs))
  (hz:ks.length=vs.length) (r:ag X al F s.heap l vs) (hda:cQ c a=true) (hl:rk a (ks.zip l)=some v) (h:∀y,Rep X al F s.heap v y->Q y {s with toks:=s.toks+1}):
  wpAny (model X.prog X.w) A (getAttr (.ref x) (aH a) expr) Q E s:=by
 obtain⟨es,n,e',_,q⟩:=hd
 obtain⟨y,q1,R⟩:=(dH (fun _ _=>rfl) a ks r hz).some hl
 have hr:=ew hda
 have hg:=oB (a:=a) q
 rw[q1]at hg
 exact get_value hin (I:=⟨e,rfl,rfl,e'⟩) (plainGet_of (G.get c hr.1 hr.2)).1 (findObj_own (od:=dictOf es n) (G.set c hr.1 hr.2).2.2 (G.data c a hda) rfl hg) R.handed (h y R)
theorem bT.inn(G:Kd X)(I:bT X mu al F h):X.K.In h:=G.inn.keeps I.stays
inductive JB(X:Cx)(al:List (Mt×Mt))(F:Mt->Prop)(h:Heap)(c:Nat)(l:List (At×V))(p:Mt×Mt):Prop
 |ins (hc:3<=c) (ks:List At) (vs:List Mu) (l':List V) (el:l=ks.zip l') (e:h.get? p.1=some (instObj (X.clsA c) p.2)) (f:¬F p.1) (d:qB X.w h p.2 (ks.zip vs)) (n:ks.length=vs.length) (r:ag X al F h l' vs)
 |exc (hc:c < 3) (el:l=[]) (e:xM X h c p.1) (q:p.2=p.1)
theorem aE.insOf{o:aa}{p:Mt×Mt}{q:Nat×List (At×V)}(x:aE X al F h o p)(e:sW o=some q):JB X al F h q.1 q.2 p:=by
 cases x with
 |ins hc he hF hD hz hr=>cases e;exact .ins hc _ _ _ rfl he hF hD hz hr
 |exc hc e'=>cases e;exact .exc hc rfl e' rfl
 |_=>cases e
theorem jF(I:bT X mu al F h){j:Nat}{p:Mt×Mt}{o:aa}(ea:al[j]? =some p)(eo:mu[j]? =some o):aE X al F h o p:=by
 obtain⟨p',ep,q⟩:=I.objs.at eo
 rw[ea]at ep;cases ep;exact q
theorem oX{c:Nat}{fs:List (At×V)}{a:At}{k:V->Pg}(h:wp (Wd X n) (xi c fs a k)){P:Prop}(go:∀v,cQ c a=true->rk a fs=some v->wp (Wd X n) (k v)->P):P:=bc h fun g h=>ad h fun v e h=>go v g e h
theorem zV(G:Kd X){o:V}{a:At}{x:Mu}{expr:Bool}(N:aO X env sc lo m om st al F s)(R:Rep X al F s.heap o x)(h:wp (Wd X n) (xh o a st fun v=>k v st)):
  wpAny (model X.prog X.w) A (getAttr x (aH a) expr) (EP X n env sc lo m om al F s k) E s:=by
 refine els_ok h (fun j ej h=>?_) fun h=>ad h fun p ep h=>oX h fun v hda hl h=>?_
 ·obtain⟨p,ea,rfl⟩:=R.asObj ej
  obtain⟨o,eo,h⟩:=h
  refine ad h fun q eq h=>oX h fun v hda hl h=>?_
  rcases(jF N.inv ea eo).insOf eq with⟨hc,ks,vs,l',el,he,hF,hD,hz,hr⟩|⟨hc,el,_⟩
  ·rw[el]at hl
   exact jO G (N.inv.inn G) he hD hz hr hda hl fun y R=>az N h R
  ·rw[el]at hl;cases hl
 ·obtain⟨_,d,ks,vs,l',el,rfl,he,hD,hF,hF',hz,hr⟩:=R.asIns ep
  rw[el]at hl
  exact jO G (N.inv.inn G) he hD hz hr hda hl fun y R=>az N h R
def xG(o:Mq)(name:Str):Prop:=∀env w,attributeBase o name env w=w
theorem zi(G:Kd X){value:Mq}{o:ME}{a:At}{pos:Pos}(hs:xG value (aH a))(ho:ah X n sc value o):ah X n sc (.Attribute value (aH a) pos) (.attr o a):=fun env A s lo st m om al F kv ke am N h=>by
 refine Attribute_any_ (aC ho am N (fun _ _ x=>x) h fun x vx sti ali F₁ s₁ h₁ Ri b₁ Ni a₁=>?_) ?_
 ·exact J0 (zV G Ni Ri h₁) (fun _ _ q=>EP.from b₁ q) fun _ _ q=>q
 ·show(do
   let o ←attributeBase value (aH a) env (eval value env)
   standAt pos.atName
   let r ←holding [o] (getAttr o (aH a) true)
   letTemporaryGo value o r
   pure r)=_
  rw[hs]
end
end
section
variable {al:List (Mt×Mt)} {k:V->St->Pg}
theorem aO.notLive(N:aO X env sc lo m om st al F s){a:Mt}(h:¬ae s.heap a):¬F a:=fun q=>h (N.inv.hot a q).1
theorem gF(s:List Nat):∀ss:List (List Nat),Str.join (ST s) (ss.map ST)=ST (aK s ss)
 |[]=>rfl
 |[x]=>rfl
 |x::y::r=>by
  show ST x++ST s++Str.join (ST s) ((y::r).map ST)=ST (x++s++aK s (y::r))
  rw[gF s (y::r),io,io]
theorem lr{s:List Nat}{ss:List (List Nat)}(h:aW s ss<=lim):JoinOk (ST s) (ss.map ST)=true:=by
 unfold JoinOk
 rw[PySem.StrLaws.joinTotal]
 have e:((ss.map ST).map (·.length)).sum+(ss.map ST).length*(ST s).length=aW s ss:=by
  unfold aW
  rw[LH,JQ,aD]
  congr 2
 rw[e]
 unfold Builtin.Str.tooLong
 simp only[Bool.not_eq_true',Ld,KW]
 exact JH h aV
theorem ir{l:List V}{vs:List Mu}{ss:List (List Nat)}(R:ag X al F h l vs)(e:cz l=some ss):∃p:List (Str×Tok),vs=strValues p/\p.map (·.1)=ss.map ST:=
 All2.rec (motive:=fun ss vs _=>∃p:List (Str×Tok),vs=strValues p/\p.map (·.1)=ss.map ST) ⟨[],rfl,rfl⟩
  (fun{a b l m} q _ ih=>by obtain⟨u,rfl⟩:=q;obtain⟨p,rfl,e2⟩:=ih;exact⟨(ST a,u)::p,rfl,congrArg (ST a::·) e2⟩) (R.strs e)
theorem gE(s:List Nat)(ss:List (List Nat)):Txt.join (ST s) (ss.map ST)=ST (aK s ss):=by
 show Builtin.Str.glued _ _=_
 rw[PySem.StrLaws.glued_eq_join,gF]
theorem nJ(c:Nat):∀ps:List (List Nat),ps≠[]->(∀p∈ps,c∉p)->ak c (aK [c] ps)=ps:=by
 have one:∀(p:List Nat) (r:List Nat),c∉p->ak c (p++c::r)=p::ak c r:=by
  intro p r hp
  induction p with
  |nil=>simp[ak]
  |cons a p ih=>
   simp only[JY,not_or]at hp
   rw[Kv,ak,ih hp.2]
   have:(a==c)=false:=KA.mpr fun q=>hp.1 q.symm
   rw[this];rfl
 have last:∀p:List Nat,c∉p->ak c p=[p]:=by
  intro p hp
  induction p with
  |nil=>rfl
  |cons a p ih=>
   simp only[JY,not_or]at hp
   rw[ak,ih hp.2]
   have:(a==c)=false:=KA.mpr fun q=>hp.1 q.symm
   rw[this];rfl
 intro ps
 induction ps with
 |nil=>intro h;exact absurd rfl h
 |cons p ps ih=>
  intro _ hf
  cases ps with
  |nil=>exact last p (hf p (.head _))
  |cons q r=>
   show ak c (p++[c]++aK [c] (q::r))=_
   rw[JK,List.singleton_append,one p _ (hf p (.head _)),ih (by simp) fun x hx=>hf x (.tail _ hx)]
theorem nH:∀l:List Str,∃ps:List (List Nat),l=ps.map ST
 |[]=>⟨[],rfl⟩
 |x::l=>let⟨ps,e⟩:=nH l;⟨x.cps.toList::ps,by rw[e,Kq,qA]⟩
theorem jt(c:Nat)(s:List Nat):Txt.split (ST s) ⟨#[c]⟩=(ak c s).map ST:=by
 obtain⟨ps,e⟩:=nH (Txt.split (ST s) ⟨#[c]⟩)
 have h1:=PySem.StrLaws.join_split (ST s) ⟨#[c]⟩
 have h2:=PySem.StrLaws.split_free (ST s) c
 rw[e]at h1 h2
 have h3:aK [c] ps=s:=by
  have:=gF [c] ps
  rw[show ST [c]=⟨#[c]⟩from rfl,h1]at this
  exact(nh.mp this).symm
 have h4:ps≠[]:=by
  rintro rfl
  have:=split_pos (ST s) ⟨#[c]⟩
  rw[e]at this;simp at this
 have h5:∀p∈ps,c∉p:=fun p hp=>by have:=h2 (ST p) (List.mem_map_of_mem hp);rwa[cC]at this
 rw[e, ←nJ c ps h4 h5,h3]
theorem kU(c:Nat):∀s,ak c s≠[]
 |[]=>by simp[ak]
 |x::r=>by
  unfold ak
  split
  ·simp
  ·split<;>simp
theorem jw(c:Nat)(b:List Nat):∀s:List Nat,aK b (ak c s)=aQ c b s
 |[]=>rfl
 |x::r=>by
  have ih:=jw c b r
  unfold aQ at ih ⊢
  rw[Kj, ←ih,ak]
  split
  ·rename_i hx
   cases e:ak c r with
   |nil=>exact absurd e (kU c r)
   |cons p ps=>simp[aK]
  ·rename_i hx
   cases e:ak c r with
   |nil=>exact absurd e (kU c r)
   |cons p ps=>cases ps<;>simp[aK]
theorem pH(c:Nat)(b s:List Nat):Txt.replace (ST s) ⟨#[c]⟩ (ST b)=ST (aQ c b s):=by
 rw[PySem.StrLaws.replace_one,jt,gF,jw]
theorem rv(c:Nat):∀{s:List Nat} {i:Nat},vO c s=some i->s[i]? =some c/\∀k,k < i->s[k]? ≠some c
 |[],_,e=>by cases e
 |x::r,i,e=>by
  simp only[vO]at e
  split at e
  ·rename_i hx;cases e;exact⟨by simp at hx;simp[hx],fun k hk=>absurd hk (LD k)⟩
  ·rename_i hx
   simp only[Option.map_eq_some_iff]at e
   obtain⟨j,e,rfl⟩:=e
   obtain⟨p,q⟩:=rv c e
   refine⟨by simpa using p,fun k hk=>?_⟩
   cases k with
   |zero=>simp at hx ⊢;exact hx
   |succ k=>simpa using q k (by exact lin [_,_] [(1,.a (.a (.v 0) (.n 1)) (.n 1),.a (.v 1) (.n 1))] 1 (.a (.v 0) (.n 1)) (.v 1) rfl hk)
theorem zm{c i:Nat}{s:List Nat}(e:vO c s=some i):∃rest,Builtin.Str.occurrences (ST s) ⟨#[c]⟩ 0 (ST s).length 1=i::rest:=by
 obtain⟨p,q⟩:=rv c e
 have at_iff:∀k,PySem.StrLaws.At (ST s) ⟨#[c]⟩ (ST s).length k↔s[k]? =some c:=fun k=>by
  unfold PySem.StrLaws.At Builtin.Str.subAt
  rw[J7, ←Array.toList_inj,aD]
  simp only[ST,Str.length,List.extract_toArray,JR,KC,Lk]
  have:k+(0+1) - k=1:=Nat.add_sub_cancel_left _ _
  constructor
  ·rintro⟨h1,h2⟩
   rw[List.extract_eq_take_drop,this]at h2
   have:s[k]? =(s.drop k).head?:=by rw[List.head?_drop]
   rw[this]
   cases hd:s.drop k with
   |nil=>rw[hd]at h2;simp at h2
   |cons a r=>rw[hd]at h2;simp at h2;simp[h2]
  ·intro h1
   have hk:=(JT.mp h1).1
   refine⟨(by exact lin [_,_] [(1,.a (.v 0) (.n 1),.v 1)] 1 (.a (.v 0) (.a (.n 0) (.n 1))) (.v 1) rfl hk),?_⟩
   rw[List.extract_eq_take_drop,this]
   rw[Ln hk]
   simp[(JT.mp h1).2]
 rcases PySem.StrLaws.occ_head (ST s) ⟨#[c]⟩ 1 (JL _)with⟨h0,hn⟩|⟨j,r,h0,ha,hn⟩
 ·exact absurd ((at_iff i).mpr p) (hn i)
 ·have hj:=(at_iff j).mp ha
  have:i=j:=by
   rcases Nat.lt_trichotomy i j with h|h|h
   ·exact absurd ((at_iff i).mpr p) (hn i h)
   ·exact h
   ·exact absurd hj (q j h)
  subst this
  exact⟨r,h0⟩
theorem tS{s:List Nat}(h:iK s=true):Txt.upper (ST s)=ST (s.map upC):=by
 rw[upper_ascii]
 ·show(⟨_⟩:Str)=⟨_⟩
  congr 1
  simp only[ST,List.map_toArray]
  rfl
 ·intro c hc;rw[cC]at hc;unfold iK at h;rw[Km]at h;simpa using h c hc
theorem vz{s:List Nat}(h:iK s=true):Txt.lower (ST s)=ST (s.map loC):=by
 rw[lower_ascii]
 ·show(⟨_⟩:Str)=⟨_⟩
  congr 1
  simp only[ST,List.map_toArray]
  rfl
 ·intro c hc;rw[cC]at hc;unfold iK at h;rw[Km]at h;simpa using h c hc
end
section
variable {al:List (Mt×Mt)} {k:V->St->Pg}
theorem zl{l:List V}{vs:List Mu}{o:List Nat}(R:ag X al F h l vs)(e:EL l=some o):∃ns:List Int,IntsAre vs ns/\(∀i∈ns,0<=i/\i < 256)/\o=(byteArr ns).toList.map UInt8.toNat:=
 All2.rec (motive:=fun o vs _=>∃ns:List Int,IntsAre vs ns/\(∀i∈ns,0<=i/\i < 256)/\o=(byteArr ns).toList.map UInt8.toNat) ⟨[],.nil,fun _ m=>nm m,rfl⟩
  (fun{a b l m} q _ ih=>by
   obtain⟨i,u,rfl,hi,rfl⟩:=q
   obtain⟨ns,h1,h2,rfl⟩:=ih
   exact⟨i::ns,.cons i u h1,fun j hj=>(JY.mp hj).elim (fun e=>e▸hi) (h2 j),congrArg (·::_) (Nat.mod_eq_of_lt ((Int.toNat_lt hi.1).mpr hi.2)).symm⟩)
  (gR (f:=AX) (Q:=fun a x=>∃(i:Int) (u:Tok),x=.int i u/\(0<=i/\i < 256)/\a=i.toNat) (fun v x a e R=>by
   obtain⟨i,e1,e2⟩:=Ku.mp e
   obtain⟨u,rfl⟩:=R.asInt e1
   split at e2
   ·cases e2;exact⟨i,u,rfl,by assumption,rfl⟩
   ·cases e2) R e)
theorem pY(i:Int):Str.ofString (toString i)=ST (jf i):=by
 rw[Str.ofString_eq_toList]
 show(⟨_⟩:Str)=⟨_⟩
 rfl
theorem vA{a:V}{x:Mu}(N:aO X env sc lo m om st al F s)(R:Rep X al F s.heap a x)(h:wp (Wd X n) (CT a fun v=>k v st)):
  wpAny (model X.prog X.w) A (call (.builtin "len") [x]) (EP X n env sc lo m om al F s k) E s:=by
 refine els_ok h (fun z e h=>?_) fun h=>els_ok h (fun l e h=>?_) fun h=>ad h fun l e h=>?_
 ·obtain⟨u,rfl⟩:=R.asStr e
  exact P.len_str (by rw[aD];exact LL.mpr (oa h.1)) (by rw[aD];exact az N h.2 (.int _ _))
 ·obtain⟨_,vs,rfl,⟨_,e⟩,f,r⟩:=R.asTup e
  exact P.len_tuple e (by rw[JR, ←r.length];exact LL.mpr (oa h.1)) (by rw[JR, ←r.length];exact az N h.2 (.int _ _))
 ·obtain⟨_,vs,rfl,t,f,r⟩:=R.asLst e
  exact call_len_list t.is (by rw[JR, ←r.length];exact oa h.1) (by rw[JR, ←r.length];exact az N h.2 (.int _ _))
theorem qM{a:Mt}{vs:List Mu}{l:List V}(N:aO X env sc lo m om st al F s)(t:gU s.heap a vs)(r:ag X al F s.heap l vs)(hl:l.length<=lim)(h:wp (Wd X n) (k (.tup l) st)):wpAny (model X.prog X.w) A (call (.type "tuple") [.ref a]) (EP X n env sc lo m om al F s k) E s:=by
 refine call_tuple_list t.is (fun h' hk=>?_) (by rw[JR, ←r.length];exact JH hl aV)
 have hk':∀b o,s.heap.get? b=some o->(h'.push {cls:=.type "tuple",data:=.seq vs.toArray}).get? b=some o:=fun b o e=>af _ _ _ (hk b o e)
 exact aP N h hk' (.tup lQ (fun q=>av h' ((N.inv.hot _ q).1.grow hk)) (r.pre (.grow hk') fun _ _ e=>e))
theorem qO{a:V}{x:Mu}(N:aO X env sc lo m om st al F s)(R:Rep X al F s.heap a x)(h:wp (Wd X n) (Bi a fun v=>k v st)):
  wpAny (model X.prog X.w) A (call (.type "tuple") [x]) (EP X n env sc lo m om al F s k) E s:=by
 refine els_ok h (fun l e h=>?_) fun h=>ad h fun l e h=>?_
 ·obtain⟨_,vs,rfl,t,f,r⟩:=R.asLst e
  exact qM N t r h.1 h.2
 ·obtain⟨_,vs,rfl,t,f,r⟩:=R.asTup e
  exact call_tuple_tup t.isTup (bD N h (.tup t f r))
theorem s8{i:Int}(h:small i):i.natAbs.log2 < 63:=by
 have h1:=kW h
 by_cases h0:i.natAbs=0
 ·rw[h0];decide
 ·exact(Nat.log2_lt h0).mpr h1
theorem Ds(i:Int):(if i < 0 then -i else i)=(i.natAbs:Int):=by
 split
 ·exact(Int.ofNat_natAbs_of_nonpos (K5 (by assumption))).symm
 ·exact(Int.natAbs_of_nonneg (KK.mp (by assumption))).symm
theorem Ie{b:BI}{args:List V}{vals:List Mu}(am:bI X A n s)(N:aO X env sc lo m om st al F s)(R:ag X al F s.heap args vals)(h:wp (Wd X n) (AR b args fun v=>k v st)):
  wpAny (model X.prog X.w) A (call (fZ b) vals) (EP X n env sc lo m om al F s k) E s:=by
 have i1:∀{f},wp (Wd X n) (opt (one args) fun a=>opt (asInt a) f)->∀{P:Prop},(∀i t,vals=[.int i t]->wp (Wd X n) (f i)->P)->P:=fun h _ go=>ad h fun a ea h=>ad h fun i ei h=>
  (R.one ea).elim fun _ q=>(q.2.asInt ei).elim fun t e'=>go i t (e'▸q.1) h
 have i2:∀{f},wp (Wd X n) (opt (two args) fun p=>zZ p.1 p.2 f)->∀{P:Prop},(∀i j t u,vals=[.int i t,.int j u]->wp (Wd X n) (f i j)->P)->P:=fun h _ go=>ad h fun a ea h=>ad h fun i ei h=>ad h fun j ej h=>
  (R.two ea).elim fun _ q=>q.elim fun _ q=>(q.2.1.asInt ei).elim fun t e'=>(q.2.2.asInt ej).elim fun u e2=>go i j t u (e'▸e2▸q.1) h
 cases b with
 |len=>refine ad h fun a ea h=>?_;obtain⟨x,rfl,Ra⟩:=R.one ea;exact vA N Ra h
 |abs=>exact i1 h fun i t e h=>e▸call_abs_int fun u tk=>by rw[Ds];exact az N h (.int _ _)
 |min=>
  refine i2 h fun i j t u e h=>e▸min_two_ints am.handled fun h' tk hk=>?_
  split
  ·rename_i hlt;rw[if_pos hlt]at h;exact aP N h hk (.int _ _)
  ·rename_i hlt;rw[if_neg hlt]at h;exact aP N h hk (.int _ _)
 |str=>exact i1 h fun i t e h=>e▸P.str_of_int (Ka (s8 h.1) (by decide)) (by rw[show Str.ofString (toString i)=ST (jf i)from pY i];exact az N h.2 (.str (jf i) s.toks))
 |ord=>refine ad h fun a ea h=>ad h fun c ec h=>?_;obtain⟨x,rfl,Ra⟩:=R.one ea;obtain⟨t,rfl⟩:=Ra.asCh ec;exact P.ord_of_char (az N h (.int _ _))
 |chr=>exact i1 h fun i t e h=>e▸P.chr_of_int (K7.mpr ⟨Kg (KK.mpr h.1.1),Kg (KK.mpr (K5 (Mk h.1.2 (by decide))))⟩) (az N h.2 (.str [i.toNat] _))
 |int=>exact i1 h fun i t e h=>e▸call_int_int (bD N h (.int _ _))
 |bytes=>
  refine ad h fun a ea h=>ad h fun l el h=>ad h fun o eo h=>?_
  obtain⟨x,rfl,Ra⟩:=R.one ea
  obtain⟨_,vs,rfl,t,f,r⟩:=Ra.asLst el
  obtain⟨ns,h1,h2,rfl⟩:=zl r eo
  exact call_bytes_ints t.is h1 h2 (by rw[←r.length];exact JH h.1 aV) am.handled fun h' u tk hk=>aP N h.2 hk (.bytes _ _)
 |tuple=>refine ad h fun a ea h=>?_;obtain⟨x,rfl,Ra⟩:=R.one ea;exact qO N Ra h
 |list=>
  refine ad h fun a ea h=>ad h fun l el h=>?_
  obtain⟨x,rfl,Ra⟩:=R.one ea
  obtain⟨_,vs,rfl,⟨n,e⟩,f,r⟩:=Ra.asTup el
  refine call_list_seq _ (.inr rfl) e rfl rfl (fun h' c' hk hD=>?_) (by rw[JR, ←r.length];exact JH h.1 aV)
  exact aP N h.2 hk (.lst ⟨_,hD⟩ (N.notLive (av _)) (r.pre (.grow hk) fun _ _ e=>e))
 |range=>
  refine els_ok h (fun a ea h=>ad h fun i ei h=>?_) fun h=>i2 h fun i j t u e h=>e▸call_range_2 (aP N h.2 (af _) (.rng (IsRange.new ..) N.new))
  obtain⟨x,rfl,Ra⟩:=R.one ea
  obtain⟨t,rfl⟩:=Ra.asInt ei
  exact call_range_1 (aP N h.2 (af _) (.rng (IsRange.new ..) N.new))
 |reversed=>exact h.elim
theorem aO.after(N:aO X env sc lo m om st al F s)(b:aT X (ae s.heap) al F s al' F' s₁)(I:bT X mu' al' F' s₁.heap):aO X env sc lo m om ⟨st.loc,mu'⟩ al' F' s₁/\aT X lo al F s al' F' s₁:=by
 have R:=N.fr
 have cellsOut:∀{a:Mt},ae s.heap a->a∉cells al->a∉cells al':=fun{a} hl hn hm=>by
  obtain⟨more,rfl,hmore⟩:=b.ext
  simp only[cells,Kc,Ki]at hm
  rcases hm with hm|hm
  ·exact hn hm
  ·obtain⟨p,hp,rfl⟩:=J5.mp hm
   exact hmore p hp hl
 have same:∀{a:Mt} {o:Obj},s.heap.get? a=some o->a∉cells al->a∉X.tabs->o.cls≠ .type "frame"->s₁.heap.get? a=some o:=fun{a o} e h1 h2 h3=>by
  obtain⟨o',e',q⟩:=b.tr.keep a o e h1 h2
  rwa[q.same (.inl h3)]at e'
 have pre:=b.tr.pre N.inv.hots
 refine⟨⟨I,⟨R.kind,R.glob,R.bl,?_,fun a l=>b.tr.live a (R.prot a l),?_,R.gls,R.names,fun x hx=>?_,R.code,R.owns⟩⟩,⟨b.tr,b.ext,fun a l q=>b.mono a (R.prot a l) q,b.rest⟩⟩
 ·obtain⟨o,es,ep,e,d,h1,h2,h3,h4⟩:=R.locs
  obtain⟨o',e',q⟩:=b.tr.keep _ o e h1 h2
  exact⟨o',es,ep,e',q.data.1.trans d,cellsOut ⟨o,e⟩ h1,h2,h3,b.mono _ ⟨o,e⟩ h4⟩
 ·obtain⟨o,es,ep,e,d,h1,h2,h3,h4⟩:=R.locs
  obtain⟨o',e',q⟩:=b.tr.keep _ o e h1 h2
  obtain⟨o2,es2,ep2,e2,d2,r2⟩:=R.ns
  rw[e]at e2;cases e2
  exact⟨o',es2,ep2,e',q.data.1.trans d2,r2⟩
 ·have qx:=R.vars x hx
  show bq X env lo m om al' F' s₁.heap x st.loc[x.slot]?
  refine qx.imp (fun v z=>z.casesOn fun a e1 e4=>⟨a,e1,b.rep N.inv e4⟩) (fun v z=>z.casesOn fun c a e1 e2 e3 e4=>?_) (fun l _ z=>z.casesOn fun hc vs e1 e2 e3 e4 e5 e6 e7=>e2.casesOn fun z e2=>⟨hc,vs,e1,⟨z,same e2 e5 e6 (by simp)⟩,b.repL N.inv e3,b.mono _ ⟨_,e2⟩ e4,cellsOut ⟨_,e2⟩ e5,e6,e7⟩)
   fun hc z=>z.casesOn fun c e1 e2 e3 e4 e5 e6=>⟨c,e1,same e2 e4 e5 (by simp),b.mono _ ⟨_,e2⟩ e3,cellsOut ⟨_,e2⟩ e4,e5,e6⟩
  have:=pre c _ e2 e3 (.inl (by simp))
  exact⟨c,a,e1,this.1,this.2,b.rep N.inv e4⟩
theorem rO{f:V}{args:List V}{fv:Mu}{vals:List Mu}{kv:KV}{ke:KE}(am:bI X A n s)(N:aO X env sc lo m om st al F s)(Rf:Rep X al F s.heap f fv)(R:ag X al F s.heap args vals)(h:wp (Wd X n) (rP f args kv ke st)):
  wpAny (model X.prog X.w) A (call fv vals) (EP X n env sc lo m om al F s kv) (XP X n env sc lo m om al F s ke) s:=by
 refine els_ok h (fun b e h=>?_) fun h=>bc h fun _ h=>?_
 ·obtain rfl:=rS e
  obtain rfl:=Rf.inv
  exact Ie am N R h
 ·exact J0 (h A s al F fv vals am N.inv Rf R)
   (fun v s' qz=>qz.casesOn fun r mu' al' F' hk Rr b I=>⟨r,_,al',F',hk,Rr,(N.after b I).2,(N.after b I).1⟩)
   (fun e s' qz=>qz.casesOn fun c mu' al' F' hk fl b I=>⟨c,_,al',F',hk,fl,(N.after b I).2,(N.after b I).1⟩)
inductive lN(X:Cx)(h:Heap)(f:Mu):Prop
 |mk (k:Keeper) (e:k=Keeper.frame∨k=Keeper.machine∨k=Keeper.boundFrame) (l:Looks (model X.prog X.w) h (keeperOf f) k)
theorem dw{id:String}:lN X h (.builtin id):=⟨.machine,.inr (.inl rfl),Looks.of_pure rfl⟩
theorem oj(b:BI):lN X h (fZ b):=⟨.machine,.inr (.inl rfl),by cases b<;>exact Looks.of_pure rfl⟩
theorem j5(G:Kd X)(I:bT X mu al F h){f:V}{fv:Mu}{args:List V}{kv:KV}{ke:KE}(R:Rep X al F h f fv)(hc:wp (Wd X n) (rP f args kv ke st)):lN X h fv:=by
 refine els_ok hc (fun b e _=>?_) fun h=>bc h fun g _=>?_
 ·obtain rfl:=rS e
  obtain rfl:=R.inv
  exact oj b
 ·cases f with
  |fn i=>obtain rfl:=R.inv;exact(keeps_K (G.fnK _) _ (I.inn G)).elim fun k q=>⟨k,q.1,q.2⟩
  |cls i=>obtain rfl:=R.inv;exact(keeps_K (G.clsK _) _ (I.inn G)).elim fun k q=>⟨k,q.1,q.2⟩
  |lam i l=>
   obtain⟨a,cs,vs,rfl,⟨pm,c,ct,oc,vs,t,e1,_⟩,_⟩:=R.inv
   exact⟨.frame,.inl rfl,(Looks.ld (part:=none) e1).andThen .now⟩
  |_=>cases g
def bg(es:List Mq):Prop:=∀e∈es,fP e
theorem kT{es:List Mq}{pos:Pos}(hn:bg es):(backTo pos (starEach es env)).any (·.1)=false:=by
 induction es with
 |nil=>rfl
 |cons e es ih=>
  rw[hn e (.head _) es env]
  show(false||(backTo pos (starEach es env)).any (·.1))=false
  rw[ih fun x hx=>hn x (.tail _ hx)];rfl
theorem cM{pos:Pos}{f:Mu}{first:List Mu}{es:List Mq}{mes:List ME}{kvs:List V->St->Pg}{ke:KE}{Q:Mu->Ms->Prop}(hes:dn X n sc es mes)(hn:bg es)(hl:es.length=mes.length)(am:bI X A n s)(N:aO X env sc lo m om st al F s)
  (h:wp (Wd X n) (tK mes kvs ke st)) (hE:∀v s',XP X n env sc lo m om al F s ke v s'->E v s')
  (go:∀rs vs st' al' F' s',wp (Wd X n) (kvs rs st')->ag X al' F' s'.heap rs vs->aT X lo al F s al' F' s'->aO X env sc lo m om st' al' F' s'->bI X A n s'->lN X s'.heap f/\wpAny (model X.prog X.w) A (call f (first++vs)) Q E s'):
  wpAny (model X.prog X.w) A (callWith pos f first (backTo pos (starEach es env)) (backToKw pos (keywordEach [] env))) Q E s:=by
 refine callWith_of (P:=fun h=>lN X h f) ?_ (fun _ q=>q.casesOn fun k e l=>⟨k,e,l⟩) ?_
 ·show((backTo pos (starEach es env)).any (·.1)||false)=false
  rw[kT hn];rfl
 ·cases es with
  |nil=>
   cases mes with
   |nil=>exact evalArgs_nil3 (go [] [] st al F s h .nil .refl N am)
   |cons me mes=>cases hl
  |cons e es=>
   have:=fj (pos:=pos) (Q:=fun vs s'=>lN X s'.heap f/\wpAny (model X.prog X.w) A (call f (first++vs)) Q E s') (E:=E) hes am N hE h go
   rw[hn e (.head _) es env]at this ⊢
   exact evalArgs_plain this
theorem zg(G:Kd X){func:Mq}{es:List Mq}{f:ME}{mes:List ME}{pos:Pos}(hf:ah X n sc func f)(hes:dn X n sc es mes)(hn:bg es)(hl:es.length=mes.length)
  (hC:∀env,eval (.Call func es [] pos) env=(do callWith pos (←eval func env) [] (backTo pos (starEach es env)) (backToKw pos (keywordEach [] env)))):ah X n sc (.Call func es [] pos) (.call f mes):=fun env A s lo st m om al F kv ke am N h=>by
 rw[hC]
 refine JJ (aC hf am N (fun _ _ x=>x) h fun v fv sti ali F₁ s₁ h₁ Ri b₁ Ni a₁=>?_)
 refine cM hes hn hl a₁ Ni h₁ (fun _ _ x=>x.from b₁) fun rs vs stz alz F₂ s₂ h₂ RZ b₂ Nz a₂=>?_
 have Rf:=b₂.rep Ni.inv Ri
 exact⟨j5 G Nz.inv Rf h₂,J0 (rO a₂ Nz Rf RZ h₂) (fun _ _ x=>x.from (b₁.trans b₂)) fun _ _ x=>x.from (b₁.trans b₂)⟩
noncomputable def mId(a:At):String:=cond (Nat.beq a.1 43) "str.join" (cond (Nat.beq a.1 44) "str.index" (cond (Nat.beq a.1 46) "str.split" (cond (Nat.beq a.1 47) "str.upper" (cond (Nat.beq a.1 48) "str.lower" "dict.get"))))
theorem kg{a b:At}(h:a.ctorIdx=b.ctorIdx):a=b:=Fin.eq_of_val_eq h
theorem fH{a b:At}{x y:Pg}{P:Prop}(h:wp (Wd X n) (onAt a b x y))(f:a=b->wp (Wd X n) x->P)(g:wp (Wd X n) y->P):P:=
 cond_ok (P:=fun p=>wp (Wd X n) p) h (fun e=>f (kg (Nat.eq_of_beq_eq_true e))) g
theorem gH{i j:Nat}{l:List Nat}(h:kI i (j::l)=true):i=j∨kI i l=true:=cond_ok (P:=fun b=>b=true) h (fun e _=>.inl (Nat.eq_of_beq_eq_true e)) .inr
theorem zD{o:V}{m':At}{x:Mu}{pl:Sem Bool}{Q:Mu×List Mu->Ms->Prop}(R:Rep X al F s.heap o x)(e:bm o m'=true)(h:Q (.builtin (mId m'),[x]) s):wpAny (model X.prog X.w) A (getMethod x (aH m') pl) Q E s:=by
 unfold bm at e
 cases hs:asStr o with
 |some z=>
  rw[hs]at e
  obtain⟨t,rfl⟩:=R.asStr hs
  rcases gH e with e|e
  ·obtain rfl:=kg e;exact GM.join h
  rcases gH e with e|e
  ·obtain rfl:=kg e;exact GM.index h
  rcases gH e with e|e
  ·obtain rfl:=kg e;exact GM.split h
  rcases gH e with e|e
  ·obtain rfl:=kg e;exact GM.upper h
  rcases gH e with e|e
  ·obtain rfl:=kg e;exact GM.lower h
  cases e
 |none=>
  rw[hs]at e
  obtain⟨e1,e2⟩:=JP.mp e
  obtain⟨d,ed⟩:=Option.isSome_iff_exists.mp e1
  obtain rfl:=kg (Nat.eq_of_beq_eq_true e2)
  obtain⟨a',ks,vs,l',_,rfl,⟨hds,f,hm,hf'⟩,_⟩:=R.asDS ed
  exact getMethod_builtin hm.typeIs PySem.F.plainAttrs_dict PySem.F.slot_dict_get PySem.F.type_dict_get hm.noDict h
theorem vw{p:List (Str×Tok)}{ss:List (List Nat)}(e:p.map (·.1)=ss.map ST):ag X al F h (ss.map .str) (strValues p):=by
 induction p generalizing ss with
 |nil=>cases ss with
  |nil=>exact .nil
  |cons=>cases e
 |cons a p ih=>cases ss with
  |nil=>cases e
  |cons b ss=>
   obtain⟨e1,e2⟩:=List.cons.inj e
   have:=Rep.str (X:=X) (al:=al) (F:=F) (h:=h) b a.2
   rw[←e1]at this
   exact .cons this (ih e2)
theorem us{z:List Nat}{c:Nat}{t u:Tok}(N:aO X env sc lo m om st al F s)(hz:z.length<=lim)(h:wp (Wd X n) (k (.lst ((ak c z).map .str)) st)):
  wpAny (model X.prog X.w) A (call (.builtin "str.split") [.str (ST z) t,.str (ST [c]) u]) (EP X n env sc lo m om al F s k) E s:=by
 have hsp:Txt.split (ST z) (ST [c])=(ak c z).map ST:=jt c z
 have fin:∀(p:List (Str×Tok)) (tk:Nat),p.map (·.1)=(ak c z).map ST->EP X n env sc lo m om al F s k (.ref s.heap.objs.size) {s with heap:=s.heap.push {cls:=.type "list",data:=.seq (strValues p).toArray},toks:=tk}:=fun p tk hp=>
  aP N h (af _) (.lst ef N.new (vw hp))
 unfold Txt.split at hsp
 cases h1:(decide ((ST z).length < (ST [c]).length)||decide (Builtin.Str.strKind (ST z) < Builtin.Str.strKind (ST [c])))
 ·rw[if_neg (by rw[h1];exact KX)]at hsp
  cases hf:(Builtin.Str.occurrences (ST z) (ST [c]) 0 (ST z).length ((ST z).length+1)).isEmpty
  ·rw[if_neg (by rw[hf];exact KX)]at hsp
   have hl2:(ST z).length<=sizeLine:=by rw[aD];exact JH hz aV
   have hlen:((ak c z).map ST).length<=sizeLine:=by
    have:=split_le (ST z) ⟨#[c]⟩
    rw[jt,aD]at this
    exact JH this (JH (J3 hz 2) (by decide:lim+2<=sizeLine))
   refine call_meets PySem.F.slot_str_split (typeIs_str _ _ _) PySem.F.entry_str_split (PySem.F.args_str_split_2 _ _) (meets_str_split_sep (ST z) (ST [c]) t u h1 rfl hf hl2 (by rw[hsp];exact hlen)) ?_
   show EP X n env sc lo m om al F s k _ {s with toks:=_,heap:=s.heap.push {cls:=.type "list",data:=.seq (strsFrom s.toks (Builtin.Str.partsBetween (ST z) (Builtin.Str.occurrences (ST z) (ST [c]) 0 (ST z).length ((ST z).length+1)) (ST [c]).length)).toArray}}
   rw[hsp,strsFrom_eq]
   exact fin _ _ (numbered_texts _ _)
  ·rw[if_pos hf]at hsp
   exact call_meets PySem.F.slot_str_split (typeIs_str _ _ _) PySem.F.entry_str_split (PySem.F.args_str_split_2 _ _) (meets_str_split_not_found (ST z) (ST [c]) t u h1 rfl hf) (fin [(ST z,t)] _ hsp)
 ·rw[if_pos h1]at hsp
  exact call_meets PySem.F.slot_str_split (typeIs_str _ _ _) PySem.F.entry_str_split (PySem.F.args_str_split_2 _ _) (meets_str_split_cannot_occur (ST z) (ST [c]) t u h1) (fin [(ST z,t)] _ hsp)
theorem wT{o:V}{m':At}{x:Mu}{args:List V}{vals:List Mu}(N:aO X env sc lo m om st al F s)(R:Rep X al F s.heap o x)(Ra:ag X al F s.heap args vals)
  (h:wp (Wd X n) (AQ o m' args fun v=>k v st)):wpAny (model X.prog X.w) A (call (.builtin (mId m')) (x::vals)) (EP X n env sc lo m om al F s k) E s:=by
 refine els_ok h (fun z ez h=>?_) fun h=>ad h fun d ed h=>fH h (fun e h=>ad h fun p ep h=>ad h fun z ez hz=>?_) False.elim
 ·obtain⟨t,rfl⟩:=R.asStr ez
  have fits:∀{z:List Nat},z.length<=lim->(ST z).length<=5592405:=fun{z} h=>by rw[aD];exact JH h (by decide)
  refine fH h (fun e h=>ad h fun a ea h=>ad h fun l el h=>ad h fun ss es hz=>?_) fun h=>fH h (fun e h=>ad h fun a ea h=>ad h fun c ec h=>ad h fun i ei hz=>?_) fun h=>fH h (fun e h=>ad h fun a ea h=>ad h fun c ec hz=>?_) fun h=>bc h fun hv h=>fH h (fun e hz=>?_) fun h=>fH h (fun e hz=>?_) False.elim
  ·subst e
   obtain⟨x,rfl,Rx⟩:=Ra.one ea
   obtain⟨_,vs,rfl,t',f,r⟩:=Rx.asLst el
   obtain⟨p,rfl,e2⟩:=ir r es
   exact SC.join t'.is e2 (lr hz.1) fun u k'=>by rw[gE];exact az N hz.2 (.str _ _)
  ·subst e
   obtain⟨x,rfl,Rx⟩:=Ra.one ea
   obtain⟨u,rfl⟩:=Rx.asCh ec
   obtain⟨rest,ho⟩:=zm ei
   exact SC.index ho (az N hz (.int _ _))
  ·subst e
   obtain⟨x,rfl,Rx⟩:=Ra.one ea
   obtain⟨u,rfl⟩:=Rx.asCh ec
   exact us N hz.1 hz.2
  ·subst e
   obtain rfl:=Kl.mp hv
   obtain rfl:=Ra.inv
   exact SC.upper (fit_upper (fits hz.1.1)) (by rw[tS hz.1.2];exact az N hz.2 (.str _ _))
  ·subst e
   obtain rfl:=Kl.mp hv
   obtain rfl:=Ra.inv
   exact SC.lower (fit_lower (fits hz.1.1)) (by rw[vz hz.1.2];exact az N hz.2 (.str _ _))
 ·subst e
  obtain⟨x1,x2,rfl,R1,R2⟩:=Ra.two ep
  obtain⟨u,rfl⟩:=R1.asStr ez
  obtain⟨a',ks,vs,l',rfl,rfl,⟨hds,f,hm,hf'⟩,hf,hn,rl⟩:=R.asDS ed
  refine call_meetsIn PySem.F.slot_dict_get hm.typeIs PySem.F.entry_dict_get (PySem.F.args_dict_get_3 _ _ _) (meets_dict_get_default (strKind X.prog X.w) _ (strKind_is _ _ _ _) hds _) ⟨f,hm,?_⟩
  show EP X n env sc lo m om al F s k ((f (ST z)).getD x2) {s with toks:=s.toks+1}
  rw[hf']
  have q:=dH m7 z ks rl hn
  have:Rep X al F s.heap ((bC z (ks.zip l')).getD p.2) ((dJ z (ks.zip vs)).getD x2):=q.getD R2
  exact az N hz this
end
section
variable {al:List (Mt×Mt)} {k:V->St->Pg}
theorem v6(G:Kd X){o:V}{j:Nat}{m':At}{ob:aa}{x:Mu}{pl:Sem Bool}{k:V->List V->Pg}{Q:Mu×List Mu->Ms->Prop}(N:aO X env sc lo m om st al F s)(R:Rep X al F s.heap o x)(ej:asObj o=some j)(eo:st.mu[j]? =some ob)(e:wp (Wd X n) (wQ ob m' j k))
  (h:∀f first fv fs t,wp (Wd X n) (k f first)->s.toks<=t->Rep X al F s.heap f fv->ag X al F s.heap first fs->Q (fv,fs) {s with toks:=t}):wpAny (model X.prog X.w) A (getMethod x (aH m') pl) Q E s:=by
 obtain rfl:=oY ej
 obtain⟨p,ea,rfl⟩:=R.inv
 refine ad e fun q eq e=>?_
 rcases(jF N.inv ea eo).insOf eq with⟨hc,ks,vs,l',el,he,hF,hD,hz,hr⟩|⟨hc,el,_⟩
 ·obtain⟨es,n',e',hes,hq⟩:=hD
  have hin:=N.inv.inn G
  have I:W.InstAt s.heap p.1 (instObj (X.clsA q.1) p.2) (X.clsA q.1) (some (dictOf es n')):=⟨he,rfl,rfl,e'⟩
  refine wu e (fun f hl e=>bc e fun hda e=>?_) fun hl e=>ad e fun i hm e=>?_
  ·rw[el]at hl
   have hr':=ew hda
   have pg:=plainGet_of (G.get q.1 hr'.1 hr'.2)
   exact method_usual hin I pg.1 pg.2 (G.data q.1 m' hda) (by rfl) (jO G hin he ⟨es,n',e',hes,hq⟩ hz hr hda hl fun y R=>h _ [] y [] _ e (Lf _) R .nil)
  ·rw[el]at hl
   have hr':=jH hm
   have pg:=plainGet_of (G.get q.1 hr'.1 hr'.2.1)
   have hf:=G.meth q.1 m' i hm
   have hg:=oB (a:=m') hq
   rw[(dH (fun _ _=>rfl) m' ks hr hz).none hl]at hg
   exact method_fn hin I pg.1 pg.2 hf.1 (J7.mp hf.2) (by show(lookIn (aH m') (dictOf es n')).map _=_;rw[lookIn_dict,hg];rfl) (h _ _ _ [.ref p.1] s.toks e (JL _) (.fn i) (.cons R .nil))
 ·refine els_ok e (fun f hl e=>?_) fun e=>ad e fun i hm e=>?_
  ·rw[el]at hl;cases hl
  ·exact absurd hc (KW.mpr (jH hm).1)
def lM(o:Mq)(name:Str)(apos pos:Pos)(es:List Mq):Prop:=
 (∀env w,attributeBase o name env w=w)/\(apos.endLine==pos.line)=true/\es.length < 29
theorem rA{es:List Mq}{pos:Pos}(hn:bg es)(hl:es.length < 29):methodCallForm (es.length+([]:List Keyword).length) (backTo pos (starEach es env)) (backToKw pos (keywordEach [] env))=true:=by
 have h1:(backTo pos (starEach es env)).all (!·.1)=true:=by
  have:=kT (env:=env) (pos:=pos) hn
  rw[List.all_eq_not_any_not]
  simpa using this
 unfold methodCallForm
 rw[h1]
 show(true&&(true&&decide (es.length+0+0 < 30)))=true
 simp;exact lin [_] [(1,.a (.v 0) (.n 1),.n 29)] 1 (.a (.v 0) (.n 1)) (.n 30) rfl hl
theorem cx{o:Mq}{name:Str}{apos pos:Pos}{es:List Mq}{Q:Mu->Ms->Prop}(hM:lM o name apos pos es)(hn:bg es)
  (h:wpAny (model X.prog X.w) A (eval o env) (fun ov s₁=>wpAny (model X.prog X.w) A (getMethod ov name (do return (←importBound o env).getD true)) (fun fx s₂=>wpAny (model X.prog X.w) A (callWith pos fx.1 fx.2 (backTo pos (starEach es env)) (backToKw pos (keywordEach [] env))) Q E s₂) E s₁) E s):
  wpAny (model X.prog X.w) A (eval (.Call (.Attribute o name apos) es [] pos) env) Q E s:=by
 obtain⟨h1,h2,h3⟩:=hM
 show wpAny _ _ (do
  let ov ←attributeBase o name env (eval o env)
  standAt apos.atName
  methodCall o name apos pos env ov (es.length+([]:List Keyword).length) (backTo pos (starEach es env)) (backToKw pos (keywordEach [] env))) Q E s
 rw[h1]
 refine JJ (J0 h (fun ov s₁ q=>JJ (Kf ?_)) fun _ _ x=>x)
 have e1:calleeOf (methodCallForm (es.length+([]:List Keyword).length) (backTo pos (starEach es env)) (backToKw pos (keywordEach [] env))) o env ov name=getMethod ov name (do return (←importBound o env).getD true):=by
  rw[rA hn h3];rfl
 have e2:methodCallPos (methodCallForm (es.length+([]:List Keyword).length) (backTo pos (starEach es env)) (backToKw pos (keywordEach [] env))) o env apos pos=pure pos:=by
  unfold methodCallPos
  rw[rA hn h3,h2];rfl
 unfold methodCall
 rw[e1,e2]
 refine JJ (Kp (J0 q (fun fx s₂ q=>?_) fun _ _ x=>x))
 exact JJ (JO q)
theorem vj(G:Kd X){o:Mq}{m':At}{mo:ME}{es:List Mq}{mes:List ME}{apos pos:Pos}(ho:ah X n sc o mo)(hes:dn X n sc es mes)(hn:bg es)(hl:es.length=mes.length)(hM:lM o (aH m') apos pos es):ah X n sc (.Call (.Attribute o (aH m') apos) es [] pos) (.mcall mo m' mes):=fun env A s lo st m om al F kv ke am N h=>by
 refine cx hM hn (aC ho am N (fun _ _ x=>x) h fun v x sti ali F₁ s₁ h₁ Ri b₁ Ni a₁=>els_ok h₁ (fun j ej h₁=>?_) fun h₁=>bc h₁ fun hb h₁=>?_)
 ·obtain⟨ob,eo,h₁⟩:=h₁
  refine v6 G Ni Ri ej eo h₁ fun f first fv fs t h₁ ht Rf Rfs=>?_
  have bi':=b₁.trans (.tok (X:=X) (lo:=lo) (al:=ali) (F:=F₁) (s:=s₁) t)
  have Ni':aO X env sc lo m om sti ali F₁ {s₁ with toks:=t}:=Ni.tok
  refine cM hes hn hl (a₁.tok ht) Ni' h₁ (fun _ _ x=>x.from bi') fun rs vs stz alz F₂ s₂ h₂ RZ b₂ Nz a₂=>?_
  have Rf':=b₂.rep Ni'.inv Rf
  exact⟨j5 G Nz.inv Rf' h₂,J0 (rO a₂ Nz Rf' ((b₂.repL Ni'.inv Rfs).append RZ) h₂) (fun _ _ x=>x.from (bi'.trans b₂)) fun _ _ x=>x.from (bi'.trans b₂)⟩
 ·refine zD Ri hb (cM hes hn hl a₁ Ni h₁ (fun _ _ x=>x.from b₁) fun rs vs stz alz F₂ s₂ h₂ RZ b₂ Nz a₂=>⟨dw,?_⟩)
  exact J0 (wT Nz (b₂.rep Ni.inv Ri) RZ h₂) (fun _ _ x=>x.from (b₁.trans b₂)) fun _ _ x=>x
theorem za{o:Mq}{mo:ME}{c:Nat}{b:List Nat}{x y:Str}{k1 k2}{p1 p2 apos pos:Pos}(ho:ah X n sc o mo)(hx:x=ST [c])(hy:y=ST b)(hM:lM o "replace" apos pos [.Constant (.str x) k1 p1,.Constant (.str y) k2 p2]):
  ah X n sc (.Call (.Attribute o "replace" apos) [.Constant (.str x) k1 p1,.Constant (.str y) k2 p2] [] pos) (.repl mo c b):=fun env A s lo st m om al F kv ke am N h=>by
 subst hx hy
 have hn:bg [.Constant (.str (ST [c])) k1 p1,.Constant (.str (ST b)) k2 p2]:=fun e he=>by
  simp only[JY,Kk,or_false]at he
  rcases he with rfl|rfl<;>exact fun _ _=>rfl
 refine cx hM hn (aC ho am N (fun _ _ x=>x) h fun v x sti ali F₁ s₁ h₁ Ri b₁ Ni a₁=>ad h₁ fun z ez h₁=>?_)
 obtain⟨t,rfl⟩:=Ri.asStr ez
 refine GM.replace ?_
 refine callWith_of (P:=fun _=>True) rfl (fun h _=>⟨.machine,.inr (.inl rfl),Looks.of_pure rfl⟩) ?_
 show wpAny _ _ (evalArgs _ true ((false,eval (.Constant (.str (ST [c])) k1 p1) env)::backTo pos (starEach [.Constant (.str (ST b)) k2 p2] env)) []) _ _ _
 refine evalArgs_plain (args_cons (e:=.Constant (.str (ST [c])) k1 p1) (Lr (args_cons (e:=.Constant (.str (ST b)) k2 p2) (Lr (args_nil ⟨trivial,?_⟩)) rfl)) rfl)
 show wpAny _ _ (call (.builtin "str.replace") [.str (ST z) t,.str (ST [c]) s₁.toks,.str (ST b) (s₁.toks+1)]) _ _ _
 obtain⟨⟨g1,g2⟩,g3⟩:=h₁
 refine SC.replace a₁.tk (Lm _) (K0 (LB _)) ?_ ?_ fun u k'=>?_
 ·rw[KA];exact fun q=>g2 (nh.mp q)
 ·rw[aD,aD];exact JH g1 (by decide)
 ·rw[show Txt.replace (ST z) (ST [c]) (ST b)=ST (aQ c b z)from pH c b z]
  exact EP.from (b₁.trans (.tok _)) (az Ni.tok g3 (.str _ _))
theorem sY:typeLookup (.type "list_reverseiterator") "__len__"=pure none:=by rw[typeLookup_type,builtinLookup_eq_fast];kernel_rfl
theorem vQ:typeLookup (.type "list_reverseiterator") "__length_hint__"=pure (some (.builtin "list_reverseiterator.__length_hint__")):=by rw[typeLookup_type,builtinLookup_eq_fast];kernel_rfl
theorem yt:isSubtype (.type "list_reverseiterator") (.type "list_reverseiterator")=pure true:=by rw[isSubtype_type];kernel_rfl
theorem oJ{prog:Program}{w:World}{I l:Mt}{items:Array Mu}{Q:List Mu->Ms->Prop}(hh:A.handled=none)(hne:l≠I)(hit:s.heap.IsRevIter I l ((items.size:Int) - 1))(hl:s.heap.IsList l items)(hn:items.size<=sizeLine)
  (hQ:∀s' acc,Moved [I] (fun a b=>b=a) s s'->ItemsOf (fun i v=>items[items.size - 1 - i]? =some v) acc items.size->Q acc.toList s'):wpAny (model prog w) A (collect (.ref I)) Q E s:=by
 have W:=(Walks.listRev (prog:=prog) (w:=w) (A:=A.in1) hh I l hne items).toS
 have hlive:I < s.heap.objs.size/\l < s.heap.objs.size:=⟨by obtain⟨o,e,_⟩:=hit;exact Heap.lt_size e,by obtain⟨o,e,_⟩:=hl;exact Heap.lt_size e⟩
 have hSf:s.heap.objs.size∉[I,l]:=fun hm=>by
  simp only[JY,Kk,or_false]at hm
  rcases hm with hm|hm
  ·exact absurd hlive.1 (by rw[hm];exact Mf _)
  ·exact absurd hlive.2 (by rw[hm];exact Mf _)
 have hSI:s.heap.objs.size≠I:=fun e=>hSf (by rw[e];simp)
 have hst:0<=items.size/\s.heap.IsRevIter I l ((items.size:Int) - 1 - ((0:Nat):Int))/\s.heap.IsList l items:=⟨KD _,by simpa using hit,hl⟩
 have hsti:=W.frame 0 s (s.heap.push {cls:=.type "list",data:=.seq ([]:List Mu).toArray}) s.toks hst (JL _) fun b _ o e=>KL _ e
 have hSi:(s.heap.push {cls:=.type "list",data:=.seq ([]:List Mu).toArray}).get? s.heap.objs.size=some {cls:=.type "list",data:=.seq ([]:List Mu).toArray}:=J8 _ rfl
 have hT:({s with heap:=s.heap.push {cls:=.type "list",data:=.seq ([]:List Mu).toArray}}:Ms).TypeIs (.ref I) "list_reverseiterator":=hsti.2.1.typeIs
 have h1:Builtin.List.listSameRef (.ref s.heap.objs.size) (.ref I)=false:=by simp[Builtin.List.listSameRef,hSI]
 unfold collect
 refine JJ (wpAny_runValue (codeAny_builtin PySem.F.entry_proto_collect ?_))
 rw[Around.under_plainId PySem.F.plain_proto_collect _]
 show wpAny _ A.in1 (newList []>>=fun l=>again (.builtin "list.__iadd__" ⟨[l,.ref I],[]⟩)) _ _ s
 refine JJ (Lb ?_)
 refine JO ⟨plainId_quiet PySem.F.plain_list_iadd _,codeAny_builtin PySem.F.entry_list_iadd ?_⟩
 rw[Around.under_plainId PySem.F.plain_list_iadd _]
 show wpAny _ A.in1 (Builtin.List.listExtendWith (.ref s.heap.objs.size) (.ref I) (.ref s.heap.objs.size)) _ _ _
 unfold Builtin.List.listExtendWith
 refine JJ (Mh hT ?_)
 rw[if_neg (by rw[h1];decide)]
 refine JJ (W.self 0 _ _ _ hsti ?_)
 refine JJ (Kp ?_)
 unfold Builtin.List.listLengthHint
 refine JJ (wpAny_specialOf hT sY ?_)
 show wpAny _ A.in1 (specialOf (Value.ref I) (Str.ofString "__length_hint__")>>=_) _ _ _
 refine JJ (wpAny_specialOf hT vQ ?_)
 generalize hid:("list_reverseiterator.__length_hint__":String)=id0
 wp_delta
 rw[show splitId id0=some ("list_reverseiterator","__length_hint__")from by subst hid;decide+kernel]
 subst hid
 refine JJ (wpAny_isInstance (b:=true) hT yt ?_)
 refine JO ?_
 rw[if_neg (by decide)]
 refine JO ⟨plainId_quiet PySem.F.plain_extend_loop _,codeAny_extend_loopS W hn _ hSf _ items.size 0 _ _ _ rfl (KD _) hsti hSi (ItemsOf.nil _) fun s' acc' c' hm hS' hacc=>?_⟩
 show wpAny _ A (load s.heap.objs.size>>=_) _ _ s'
 refine JJ (wpAny_load hS' ?_)
 exact JO (hQ s' acc' (Moved.drop_new (o:={cls:=.type "list",data:=.seq ([]:List Mu).toArray}) (tk:=s.toks) hm (JL _)) hacc)
theorem vH{sep:List Nat}{t:Tok}{ss:List (List Nat)}{p:List (Str×Tok)}{I l:Mt}{Q:Mu->Ms->Prop}(hh:A.handled=none)(hne:l≠I)(hit:s.heap.IsRevIter I l (((strValues p).toArray.size:Int) - 1))(hl:s.heap.IsList l (strValues p).toArray)
  (hp:p.map (·.1)=ss.map ST) (hg:aW sep ss<=lim) (hn:ss.length<=lim)
  (hQ:∀s' t' k,Moved [I] (fun a b=>b=a) s s'->Q (.str (ST (aK sep ss.reverse)) t') {s' with toks:=k}):wpAny (model X.prog X.w) A (call (.builtin "str.join") [.str (ST sep) t,.ref I]) Q E s:=by
 have hlen:p.length=ss.length:=by have:=congrArg List.length hp;simpa using this
 have hsz:(strValues p).toArray.size=ss.length:=by rw[JR];show(p.map _).length=_;rw[JQ,hlen]
 refine LI (codeAny_call_builtin PySem.F.slot_str_join.plain PySem.F.entry_str_join (PySem.F.slot_str_join.check _ _ _ _ _ _ _ _ (typeIs_str _ _ _) (PySem.F.args_str_join_2 _ _) ?_))
 rw[join_tree_other]
 refine JJ (Mh hit.typeIs ?_)
 show wpAny _ A.in1 ((pyIter (.ref I)).tryCatch _>>=fun it=>collect it>>=fun items=>joinTail (ST sep) items) _ _ s
 refine JJ (wpAny_tryCatch (wpAny_pyIter_revIter hit ?_))
 refine JJ (oJ hh hne hit hl (by rw[hsz];exact JH hn aV) fun s' acc hm hacc=>?_)
 have eacc:acc.toList=strValues p.reverse:=by
  apply List.ext_getElem?
  intro i
  have h1:=hacc.1
  rw[hsz]at h1
  by_cases hi:i < ss.length
  ·have hi':i < acc.size:=(by exact lin [_,_,_] [(1,.v 0,.v 1),(1,.a (.v 2) (.n 1),.v 0)] 1 (.a (.v 2) (.n 1)) (.v 1) rfl (JZ h1.symm) hi)
   have h2:=hacc.2 i acc[i] (Array.getElem?_eq_getElem hi')
   rw[hsz]at h2
   have e1:acc.toList[i]? =some acc[i]:=by rw[Array.getElem?_toList];exact Array.getElem?_eq_getElem hi'
   rw[e1, ←h2]
   show(strValues p).toArray[_]? =((p.reverse).map _)[i]?
   rw[LR,List.getElem?_reverse (by rw[JQ,hlen];exact hi),JQ,hlen]
   show(strValues p).toArray[_]? =_
   simp[strValues]
  ·have e1:acc.toList[i]? =none:=by rw[Array.getElem?_toList];exact Array.getElem?_eq_none (by exact lin [_,_,_] [(1,.v 0,.v 1),(1,.v 1,.v 2)] 1 (.v 0) (.v 2) rfl (JZ h1) (KB hi))
   rw[e1]
   symm
   apply K4
   show((p.reverse).map _).length<=i
   rw[JQ,List.length_reverse,hlen];exact lin [_,_] [(1,.v 0,.v 1)] 1 (.v 0) (.v 1) rfl (KB hi)
 rw[eacc]
 have hp':p.reverse.map (·.1)=ss.reverse.map ST:=by rw[LR,hp,LR]
 have hg':aW sep ss.reverse<=lim:=by
  unfold aW at hg ⊢
  rw[LR,List.sum_reverse,List.length_reverse];exact hg
 have hok:=lr hg'
 rw[←hp']at hok
 unfold JoinOk at hok
 rw[Bool.not_eq_true']at hok
 have g:∀q:List (Str×Tok),Builtin.Str.tooLong ((q.map (·.1)).toArray.foldl (·+·.length+(ST sep).length) 0)=false->Gives (joinTail (ST sep) (strValues q)) (joinMade (ST sep) q):=fun q hq=>by
  have g0:=gives_joinTail (ST sep) q hq
  cases q with
  |nil=>exact g0
  |cons a r=>cases r<;>exact g0
 exact g _ hok X.prog X.w A (wants Q E) s' (post_join _ ⟨joinFit_length hok,fun t' k=>by rw[hp',gE];exact hQ s' t' k hm⟩)
theorem ze{e func:Mq}{me:ME}{x:Str}{sep:List Nat}{k1}{p1 p2 apos pos:Pos}(hx:x=ST sep)(he:ah X n sc e me)(hf:ah X n sc func (.c (.bi .reversed)))(hs:fP e)(hM:lM (.Constant (.str x) k1 p1) "join" apos pos [.Call func [e] [] p2])
  (hC:∀env,eval (.Call func [e] [] p2) env=(do callWith p2 (←eval func env) [] (backTo p2 (starEach [e] env)) (backToKw p2 (keywordEach [] env)))):
  ah X n sc (.Call (.Attribute (.Constant (.str x) k1 p1) "join" apos) [.Call func [e] [] p2] [] pos) (.jrev sep me):=fun env A s lo st m om al F kv ke am N h=>by
 subst hx
 have hn:bg [.Call func [e] [] p2]:=fun e' he'=>by
  simp only[JY,Kk,or_false]at he'
  subst he'
  exact fun _ _=>rfl
 refine cx hM hn (Lr (GM.join ?_))
 refine callWith_of (P:=fun _=>True) rfl (fun h _=>⟨.machine,.inr (.inl rfl),Looks.of_pure rfl⟩) ?_
 show wpAny _ _ (evalArgs _ true ((false,eval (.Call func [e] [] p2) env)::backTo pos (starEach [] env)) []) _ _ _
 refine evalArgs_plain (args_cons (e:=.Call func [e] [] p2) ?_ rfl)
 rw[hC]
 have am0:bI X A n {s with toks:=s.toks+1}:=am.tok (Lf _)
 have N0:aO X env sc lo m om st al F {s with toks:=s.toks+1}:=N.tok
 refine JJ (aC hf am0 N0 (k:=fun v st'=>.hold (v=.bi .reversed/\st'=st)) (ke:=ke) (fun _ _ x=>x.from (.tok _)) ⟨rfl,rfl⟩ fun v fv sti ali F₁ s₁ hh Ri b₁ Ni a₁=>?_)
 obtain⟨rfl,rfl⟩:=hh
 obtain rfl:=Ri.inv
 have boi:=(aT.tok (X:=X) (lo:=lo) (al:=al) (F:=F) (s:=s) (s.toks+1)).trans b₁
 refine callWith_of (P:=fun _=>True) ?_ (fun h _=>⟨.machine,.inr (.inl rfl),Looks.of_pure rfl⟩) ?_
 ·rw[hs [] env];rfl
 rw[hs [] env]
 show wpAny _ _ (evalArgs _ true ((false,eval e env)::backTo p2 (starEach [] env)) []) _ _ _
 refine evalArgs_plain ?_
 have:wpAny (model X.prog X.w) A (spliced ((false,eval e env)::backTo p2 (starEach [] env))) (fun vs s'=>True/\wpAny (model X.prog X.w) A (call (fZ .reversed) ([]++vs)) (fun v s₁=>wpAny (model X.prog X.w) A (spliced (backTo pos (starEach [] env))) (fun vs s₂=>True/\wpAny (model X.prog X.w) A (call (.builtin "str.join") ([.str (ST sep) s.toks]++(v::vs))) (EP X n env sc lo m om al F s kv) (XP X n env sc lo m om al F s ke) s₂) (XP X n env sc lo m om al F s ke) s₁) (XP X n env sc lo m om al F s ke) s') (XP X n env sc lo m om al F s ke) s₁:=by
  refine spliced_cons (aC he a₁ Ni (fun _ _ x=>x.from boi) h fun v y stz alz F₂ s₂ h₂ RZ b₂ Nz a₂=>args_nil ⟨trivial,ad h₂ fun l el h₂=>ad h₂ fun ss es h₂=>?_⟩)
  ··obtain⟨⟨g1,g3⟩,g2⟩:=h₂
    obtain⟨a,vs,rfl,t,f,r⟩:=RZ.asLst el
    obtain⟨p,rfl,hp⟩:=ir r es
    show wpAny _ _ (call (.type "reversed") [.ref a]) _ _ _
    refine call_reversed_list t.is (args_nil ⟨trivial,?_⟩)
    show wpAny _ _ (call (.builtin "str.join") [.str (ST sep) s.toks,.ref s₂.heap.objs.size]) _ _ _
    have hlt:a < s₂.heap.objs.size:=by obtain⟨n,e⟩:=t;exact Heap.lt_size e
    refine vH a₂.handled (K0 hlt) ⟨_,J8 _ rfl,rfl,rfl⟩ (t.is.push _) hp g1 g3 fun s' t' k' hm=>?_
    have hk:∀b o,s₂.heap.get? b=some o->s'.heap.get? b=some o:=fun b o e=>hm.heap b o (fun hb=>by
      simp only[JY,Kk,or_false]at hb
      exact absurd (Heap.lt_size e) (by rw[hb];exact Mf _)) (af _ _ _ e)
    have es':({s' with toks:=k'}:Ms)={s₂ with heap:=s'.heap,toks:=k'}:=by
      obtain⟨h',g',d',t',o'⟩:=s'
      have e1:=hm.gens;have e2:=hm.drawn;have e3:=hm.os
      dsimp only at e1 e2 e3
      subst e1 e2 e3
      rfl
    rw[es']
    exact EP.from (boi.trans b₂) (aP Nz g2 hk (.str _ _))
 exact this
end
section
theorem pn{prog:Program}{w:World}{A:Around}(hh:A.handled=none)(I:Mt)(b:Array UInt8)(t:Tok):
  Walks prog w A I [I] [I] b.size (fun i v=>∃c u,b[i]? =some c/\v=.int (c.toNat:Int) u) (fun i h=>KBw.IsBytesIter h I b t i) where
 sub:=fun _ hb=>hb
 frame:=fun _ _ _ st hk=>st.imp fun o q=>⟨hk I (by simp) o q.1,q.2⟩
 item:=fun i s Q E hi st hQ=>by
  refine KBw.next_item st (c:=b[i]) (by simp[hi]) fun h' hit' hs'=>?_
  exact hQ _ h' (s.toks+1) ⟨_,_,by simp[hi],rfl⟩ hit' fun a o ha e=>hs'.extBut a o (fun h=>ha (by simp[h])) e
 done:=fun s Q E st hQ=>KBw.next_end hh st (by simp) fun h' he'=>hQ h' s.toks fun a o ha e=>he' a o (fun h=>ha (by simp[h])) e
 self:=fun _ _ _ _ st hQ=>KBw.pyIter_self st hQ
section
variable {al:List (Mt×Mt)} {k:V->St->Pg}
inductive A0(o:Obj):Prop
 |mk (T:String) (e:o.cls=.type T) (q:["enumerate","zip","dict_itemiterator","dict_reverseitemiterator","odict_iterator","itertools.zip_longest","itertools.pairwise"].contains T=false)
inductive Dy(h':Heap)(b I:Mt):Prop
 |mk (o:Obj) (e:h'.get? b=some o) (c:o.cls≠ .type "frame") (q:b=I->o.cls≠ .type "list"/\o.cls≠ .type "cell"/\(∀es ep,o.data≠ .dict es ep))
structure xK(X:Cx)(al:List (Mt×Mt))(F:Mt->Prop)(h:Heap)(A:Around)(vs:List V)(I:Mt)(fp:List Mt)(P:Nat->Mu->Prop)(St:Nat->Heap->Prop):Prop where
 walks:Walks X.prog X.w A I fp [I] vs.length P St
 items:∀i v,i < vs.length->P i v->xL X al F h vs i v
 live:∀i h',St i h'->∀b∈fp,Dy h' b I
 cool:∀b∈fp,b≠I->ae h b/\¬F b
 self:I∈fp
 go:∀i h' o,St i h'->h'.get? I=some o->A0 o
noncomputable def okT(T:String):Bool:=T != "frame"&&T != "list"&&T != "cell"&& !["enumerate","zip","dict_itemiterator","dict_reverseitemiterator","odict_iterator","itertools.zip_longest","itertools.pairwise"].contains T
inductive xJ(h':Heap)(I:Mt):Prop
 |mk (o:Obj) (T:String) (e:h'.get? I=some o) (c:o.cls=.type T) (q:okT T=true) (d:∀es ep,o.data≠ .dict es ep)
theorem gB{T U:String}(q:(T != U)=true):Value.type T≠ .type U:=fun z=>by injection z with z;exact bne_iff_ne.mp q z
theorem Gu{h:Heap}{I:Mt}{T:String}{vs:Array Mu}(st:∃o,h.get? I=some o/\o.cls=.type T/\o.data=.fields vs)(q:okT T=true:=by decide+kernel):xJ h I:=by
 obtain⟨o,e,c,d⟩:=st
 exact⟨o,T,e,c,q,fun _ _ z=>Data.noConfusion (d.symm.trans z)⟩
theorem xK.of{vs:List V}{I:Mt}{fp:List Mt}{P:Nat->Mu->Prop}{St:Nat->Heap->Prop}(W:Walks X.prog X.w A I fp [I] vs.length P St)(it:∀i v,i < vs.length->P i v->xL X al F h vs i v)(self:I∈fp)
  (lv:∀i h',St i h'->xJ h' I) (la:∀b∈fp,b≠I->(ae h b/\¬F b)/\∀i h',St i h'->∃o,h'.get? b=some o/\o.cls≠ .type "frame"):xK X al F h A vs I fp P St:=by
 refine⟨W,it,fun i h' st b hb=>?_,fun b hb ne=>(la b hb ne).1,self,fun i h' o st e=>?_⟩
 ·by_cases hI:b=I
  ·subst hI
   obtain⟨o,T,e,c,q,d⟩:=lv i h' st
   obtain⟨q,_⟩:=JP.mp q
   obtain⟨q,q3⟩:=JP.mp q
   obtain⟨q1,q2⟩:=JP.mp q
   exact⟨o,e,c▸gB q1,fun _=>⟨c▸gB q2,c▸gB q3,d⟩⟩
  ·obtain⟨o,e,c⟩:=(la b hb hI).2 i h' st
   exact⟨o,e,c,fun z=>absurd z hI⟩
 ·obtain⟨o',T,e',c,q,d⟩:=lv i h' st
  rw[e]at e';cases e'
  exact⟨T,c,(Bool.not_eq_true' _).mp (JP.mp q).2⟩
theorem Hx{I:Mt}{St:Nat->Heap->Prop}:∀b∈[I],b≠I->(ae h b/\¬F b)/\∀i h',St i h'->∃o,h'.get? b=some o/\o.cls≠ .type "frame":=fun _ hb ne=>absurd (Kb.mp hb) ne
theorem la2{I a:Mt}{St:Nat->Heap->Prop}(l:ae h a)(f:¬F a)(g:∀i h',St i h'->∃o,h'.get? a=some o/\o.cls≠ .type "frame"):∀b∈[I,a],b≠I->(ae h b/\¬F b)/\∀i h',St i h'->∃o,h'.get? b=some o/\o.cls≠ .type "frame":=fun b hb ne=>
 (JY.mp hb).elim (fun e=>absurd e ne) fun hb=>Kb.mp hb▸⟨⟨l,f⟩,g⟩
theorem jM{iv:V}{x:Mu}{vs:List V}{Q:Mu->Ms->Prop}(hh:A.handled=none)(R:Rep X al F s.heap iv x)(e:items iv=some vs)
  (go:∀I h' t fp P St,(∀b o,s.heap.get? b=some o->h'.get? b=some o)->¬ae s.heap I->xK X al F s.heap A vs I fp P St->St 0 h'->Q (.ref I) {s with heap:=h',toks:=t}):wpAny (model X.prog X.w) A (pyIter x) Q E s:=by
 have hnew:=av s.heap
 cases iv with
 |tup l=>
  obtain⟨a,xs,rfl,t,f,r⟩:=R.inv
  obtain rfl:=J9 e
  have hl:ae s.heap a:=t.casesOn fun _ e=>⟨_,e⟩
  have hne:a≠s.heap.objs.size:=fun q=>hnew (q▸hl)
  have W:=Walks.tuple (prog:=X.prog) (w:=X.w) hh s.heap.objs.size a hne xs.toArray
  rw[show xs.toArray.size=l.length from JR.trans r.length.symm]at W
  exact wpAny_pyIter_tuple t.is (go _ _ _ _ _ _ (af _) hnew (.of W (fun i v _ hv=>r.at i (List.getElem?_toArray.symm.trans hv)) (.head _) (fun i h' st=>Gu st.1)
   (la2 hl f fun i h' st=>st.2.elim fun o q=>⟨o,q.1,q.2.1▸gB (by decide+kernel)⟩)) ⟨⟨_,J8 _ rfl,rfl,rfl⟩,t.is.push _⟩)
 |lst l=>
  obtain⟨a,xs,rfl,t,f,r⟩:=R.inv
  obtain rfl:=J9 e
  have hl:ae s.heap a:=t.casesOn fun _ e=>⟨_,e⟩
  have hne:a≠s.heap.objs.size:=fun q=>hnew (q▸hl)
  have W:=Walks.list (prog:=X.prog) (w:=X.w) hh s.heap.objs.size a hne xs.toArray
  rw[show xs.toArray.size=l.length from JR.trans r.length.symm]at W
  exact wpAny_pyIter_list t.is (go _ _ _ _ _ _ (af _) hnew (.of W (fun i v _ hv=>r.at i (List.getElem?_toArray.symm.trans hv)) (.head _) (fun i h' st=>Gu st.1)
   (la2 hl f fun i h' st=>st.2.elim fun o q=>⟨o,q.1,q.2.1▸gB (by decide+kernel)⟩)) ⟨⟨_,J8 _ rfl,rfl,rfl⟩,t.is.push _⟩)
 |str z=>
  obtain⟨t,rfl⟩:=R.inv
  have e:(if iK z=true then some (z.map fun c=>V.str [c])else none)=some vs:=e
  split at e
  ·rename_i ha
   obtain rfl:=J9 e
   have W:=Walks.strAscii (prog:=X.prog) (w:=X.w) hh s.heap.objs.size (ST z) t
   rw[show(ST z).cps.size=(z.map fun c=>V.str [c]).length from(JR.trans (JQ _).symm)]at W
   refine wpAny_pyIter_ascii (x:=ST z) (t:=t) ?_ (go _ _ _ _ _ _ (af _) hnew (.of W (fun i v _ hv=>?_) (.head _) (fun i h' st=>Gu st) Hx) ⟨_,J8 _ rfl,rfl,rfl⟩)
   ·rw[←ha];exact Array.all_toList.symm
   ·obtain⟨c,u,h1,rfl⟩:=hv
    have h1:z[i]? =some c:=List.getElem?_toArray.symm.trans h1
    exact⟨.str [c],by rw[K3,h1];rfl,.str [c] u⟩
  ·cases e
 |bytes l=>
  obtain⟨b,t,rfl,rfl⟩:=R.inv
  obtain rfl:=J9 e
  have W:=pn (prog:=X.prog) (w:=X.w) hh s.heap.objs.size b t
  rw[show b.size=((b.toList.map UInt8.toNat).map fun c=>V.int (Int.ofNat c)).length by rw[JQ,JQ];rfl]at W
  refine KBw.pyIter_bytes (go _ _ _ _ _ _ (af _) hnew (.of W (fun i v _ hv=>?_) (.head _) (fun i h' st=>Gu st) Hx) ⟨_,J8 _ rfl,rfl,rfl⟩)
  obtain⟨c,u,h1,rfl⟩:=hv
  have h1:b.toList[i]? =some c:=Array.getElem?_toList.trans h1
  exact⟨.int (c.toNat:Int),by rw[K3,K3,h1];rfl,.int _ u⟩
 |rng a b=>
  obtain⟨_,t,u,v,rfl,r,f⟩:=R.inv
  have e:(if _ then some _ else none)=some vs:=e
  split at e
  ·rename_i hab
   obtain rfl:=J9 e
   have hrs:Builtin.Range.rangeSize a b 1=((b - a).toNat:Int):=by
    unfold Builtin.Range.rangeSize
    rw[if_pos (by decide),Int.ediv_one,Int.sub_add_cancel,Hi]
   have W:=Walks.range (prog:=X.prog) (w:=X.w) hh s.heap.objs.size a 1 (b - a).toNat
   rw[show(b - a).toNat=((List.range (b - a).toNat).map fun(i:Nat)=>V.int (a+(i:Int))).length by rw[JQ,LP]]at W
   refine wpAny_pyIter_range r ?_ ?_
   ·unfold Builtin.Range.small Builtin.Range.rangeFitsLong
    rw[hrs]
    have ha:=hab.2.2
    simp
    exact⟨⟨⟨mO ⟨hab.1,hab.2.1⟩,mO ha⟩,zG ⟨hab.1,hab.2.1⟩ ha⟩,.inr (mO ha)⟩
   ·rw[hrs]
    refine go _ _ _ _ _ _ (af _) hnew (.of W (fun i v hi hv=>?_) (.head _) (fun i h' st=>⟨_,_,st,rfl,by decide+kernel,fun _ _ z=>by cases z⟩) Hx) ?_
    ·obtain⟨u,rfl⟩:=hv
     have hi:=hi
     rw[JQ,LP]at hi
     exact⟨.int (a+i),by rw[K3,List.getElem?_range hi];rfl,by rw[Int.mul_one];exact .int _ u⟩
    ·show IsRangeIter _ _ _ _ _
     rw[show a+((0:Nat):Int)*1=a from Int.add_zero a,JQ,LP]
     exact J8 _ rfl
  ·cases e
 |_=>cases e
end
end
section
inductive xP(h':Heap)(a:Mt)(o:Obj):Prop
 |mk (o':Obj) (es ep:_) (e1:h'.get? a=some o') (e2:o'.cls=o.cls) (e3:o'.data=.dict es ep)
def fA(h h':Heap)(a:Mt):Prop:=∀o,h.get? a=some o->xP h' a o
theorem mf(name:Str)(h:Int)(key v:Mu)(c:Mu)(d:Option Mt)(es:Array DictEntry)(ep:Nat)(sl:Array (Option Mu)):∃es' ep',Obj.putName name h key v ⟨c,d,.dict es ep,sl⟩=⟨c,d,.dict es' ep',sl⟩:=by
 rw[Obj.putName_eq]
 simp only[Obj.putNameByArray]
 split<;>exact⟨_,_,rfl⟩
theorem sX{M:Model}{A:Around}{E:Mu->Ms->Prop}{s:Ms}{a:Mt}{m:Str->Option Mu}{name:Str}{v:Mu}{Q:Unit->Ms->Prop}(hn:s.heap.Ns a m)
  (hQ:∀h',h'.Ns a (fun x=>if x=name then some v else m x)->Heap.SameBut a s.heap h'->fA s.heap h' a->Q () {s with heap:=h',toks:=s.toks+1}):wpAny M A (nsSet a name v) Q E s:=by
 intro Γ p hΓ
 have base:=Sem.wp_nsSet M Γ (fun _ _ _=>True) p s hn name v (fun _ _ s'=>s'.heap.Ns a (fun x=>if x=name then some v else m x)) (fun h' hns _=>hns)
 obtain⟨o,es,ep,ho,hd,hk,hm⟩:=hn
 have hany:es.any (·.refKey)=false:=by
  rw[Array.any_eq_false'];intro e he;obtain⟨n,t,h⟩:=hk e he;simp[DictEntry.refKey,h]
 simp only[nsSet,strHash,Sem.wp_bind',Sem.wp_cmd_ask,Sem.wp_pure',Sem.wp_cmd_mkText]at base ⊢
 rw[Sem.wp_loadPart_of M Γ _ p {s with toks:=s.toks+1} (o:=o) _ ho]at base ⊢
 simp only[hd,aRefKeyMayBeTheName_eq,aRefKeyMayBeTheNameByArray,hany,L9,Lw,if_false,Sem.wp_cmd_updatePart]at base ⊢
 refine⟨base.1,hQ _ base.2 (Heap.SameBut.update ..) fun o2 e2=>?_⟩
 obtain⟨c,d,dt,sl⟩:=o
 subst hd
 rw[ho]at e2;cases e2
 obtain⟨es',ep',e⟩:=mf name (if name.cps.isEmpty=true then 0 else reduceHash (M.w.params.strHash name.cps)) (Value.str name s.toks) v c d es ep sl
 exact⟨_,es',ep',KS _ ho (by rw[e];rfl),by rw[e],by rw[e]⟩
theorem bJ{M:Model}{A:Around}{E:Mu->Ms->Prop}{s:Ms}{env:Env}{m:Str->Option Mu}{name:Str}{v:Mu}{Q:Unit->Ms->Prop}(hl:env.kindOf name=some .local)(hn:s.heap.Ns env.locals m)
  (hQ:∀h',h'.Ns env.locals (fun x=>if x=name then some v else m x)->Heap.SameBut env.locals s.heap h'->fA s.heap h' env.locals->Q () {s with heap:=h',toks:=s.toks+1})
  (hp:(env.scope.kind== .class||(env.scope.kind== .module&&env.locals != env.globals))=false:=by rfl):wpAny M A (storeName env name v) Q E s:=by
 rw[storeName_local hl hp];exact sX hn hQ
section
variable {al:List (Mt×Mt)} {k:V->St->Pg}
noncomputable abbrev bz:Obj:={cls:=.type "cell",data:=.cell none}
theorem bq.move{x:da}{v:Option LV}(p:bB h F h' F')(ha:∀(i:Nat) (p:Mt×Mt),al[i]? =some p->al'[i]? =some p)
  (hown:∀l,v=some (.own l)->(∀o,h.get? (om x.slot)=some o->h'.get? (om x.slot)=some o)/\F' (om x.slot)/\om x.slot∉cells al')
  (hcell:x.cell=true->∀c,env.cells.lookup x.name=some c->F c->h.get? c=some bz->h'.get? c=some bz/\F' c/\c∉cells al')
  (q:bq X env lo m om al F h x v):bq X env lo m om al' F' h' x v:=by
 refine q.imp (fun v z=>z.casesOn fun a e1 e4=>⟨a,e1,e4.pre p ha⟩) (fun v z=>z.casesOn fun c a e1 e2 e3 e4=>?_) (fun l e z=>z.casesOn fun hc vs e1 e2 e3 e4 e5 e6 e7=>?_) fun hc z=>z.casesOn fun c e1 e2 e3 e4 e5 e6=>?_
 ·have:=p c _ e2 e3 (.inl (by simp))
  exact⟨c,a,e1,this.1,this.2,e4.pre p ha⟩
 ·have g:=hown l e
  exact⟨hc,vs,e1,e2.casesOn fun z e2=>⟨z,g.1 _ e2⟩,e3.pre p ha,g.2.1,g.2.2,e6,e7⟩
 ·have g:=hcell hc c e1 e3 e2
  exact⟨c,e1,g.1,g.2.1,g.2.2,e5,e6⟩
theorem kr.move(R:kr X env sc lo rho m om al F h)(p:bB h F h' F')(ha:∀(i:Nat) (p:Mt×Mt),al[i]? =some p->al'[i]? =some p)
  (hl:∀o,h.get? env.locals=some o->∃o',h'.get? env.locals=some o'/\o'.data=o.data) (hlF:F' env.locals) (hlc:env.locals∉cells al') (hprot:∀a,lo a->ae h' a)
  (hown:∀x∈sc.vis,∀l,rho[x.slot]? =some (.own l)->(∀o,h.get? (om x.slot)=some o->h'.get? (om x.slot)=some o)/\F' (om x.slot)/\om x.slot∉cells al')
  (hcell:∀x∈sc.vis,x.cell=true->∀c,env.cells.lookup x.name=some c->F c->h.get? c=some bz->h'.get? c=some bz/\F' c/\c∉cells al'):kr X env sc lo rho m om al' F' h':=by
 refine⟨R.kind,R.glob,R.bl,?_,hprot,?_,R.gls,R.names,fun x hx=>(R.vars x hx).move p ha (hown x hx) (hcell x hx),R.code,R.owns⟩
 ·obtain⟨o,es,ep,e,d,h1,h2,h3,h4⟩:=R.locs
  obtain⟨o',e',d'⟩:=hl o e
  exact⟨o',es,ep,e',d'.trans d,hlc,h2,h3,hlF⟩
 ·obtain⟨o,es,ep,e,d,r⟩:=R.ns
  obtain⟨o',e',d'⟩:=hl o e
  exact⟨o',es,ep,e',d'.trans d,r⟩
theorem bT.more(I:bT X mu al F h)(k:∀b o,h.get? b=some o->h'.get? b=some o)(new:Mt->Prop)(hn:∀a,new a->¬ae h a/\ae h' a):bT X mu al (fun a=>F a∨new a) h':=by
 have p:bB h F h' (fun a=>F a∨new a):=fun b o e q _=>⟨k _ _ e,fun z=>z.elim q fun z=>(hn b z).1 ⟨o,e⟩⟩
 refine⟨fun b o e=>k b o (I.stays b o e),fun a q=>?_,cK p (fun b o e _=>k b o e) (fun _ _ e=>e) (fun p hp=>J5.mpr ⟨p,hp,rfl⟩) I.objs,fun a z=>.inl (I.cell a z),fun a q=>⟨.inl (I.tabs a q).1,(I.tabs a q).2.1,(I.tabs a q).2.2.move p (k a)⟩,I.nodup⟩
 rcases q with q|q
 ·exact⟨(I.hot a q).1.grow k,(I.hot a q).2⟩
 ·refine⟨(hn a q).2,?_⟩
  cases e:X.B.get? a with
  |none=>rfl
  |some o=>exact absurd ⟨o,I.stays a o e⟩ (hn a q).1
theorem aO.more(N:aO X env sc lo m om st al F s)(k:∀b o,s.heap.get? b=some o->h'.get? b=some o)(new:Mt->Prop)(hn:∀a,new a->¬ae s.heap a/\ae h' a){t:Nat}:
  aO X env sc lo m om st al (fun a=>F a∨new a) {s with heap:=h',toks:=t}:=by
 have R:=N.fr
 have p:bB s.heap F h' (fun a=>F a∨new a):=fun b o e q _=>⟨k _ _ e,fun z=>z.elim q fun z=>(hn b z).1 ⟨o,e⟩⟩
 refine⟨N.inv.more k new hn,R.move p (fun _ _ e=>e) (fun o e=>⟨o,k _ _ e,rfl⟩) ?_ ?_ (fun a l=>(R.prot a l).grow k) (fun x hx l hl=>?_) fun x hx hc c e f e2=>?_⟩
 ·obtain⟨_,_,_,_,_,_,_,_,h4⟩:=R.locs;exact .inl h4
 ·obtain⟨_,_,_,_,_,h1,_⟩:=R.locs;exact h1
 ·have q:=R.vars x hx
  rw[hl]at q
  obtain⟨_,_,_,_,_,e4,e5,_⟩:=q
  exact⟨fun o e=>k _ _ e,.inl e4,e5⟩
 ·refine⟨k _ _ e2,.inl f,fun hm=>?_⟩
  obtain⟨o,eo,co⟩:=N.inv.objs.cellKind c hm
  rw[e2]at eo;cases eo;exact co rfl
theorem aT.more(k:∀b o,s.heap.get? b=some o->h'.get? b=some o)(new:Mt->Prop)(hn:∀a,new a->¬ae s.heap a/\ae h' a){t:Nat}:aT X lo al F s al (fun a=>F a∨new a) {s with heap:=h',toks:=t}:=
 ⟨⟨fun _ l=>l.grow k,fun a o e _ _=>⟨o,k _ _ e,.refl o⟩,fun a q=>q.imp id fun q=>(hn a q).1⟩,⟨[],by simp,fun _ m=>nm m⟩,fun _ _ q=>.inl q,t,rfl⟩
theorem bT.touch{I:Mt}(N:bT X mu al F h)(hF:F I)(hc:I∉cells al)(ht:I∉X.tabs)(hk:∀b o,b≠I->h.get? b=some o->h'.get? b=some o)(hl:ae h' I):bT X mu al F h':=by
 have p:bB h F h' F:=fun b o e q _=>⟨hk b o (fun z=>q (z▸hF)) e,q⟩
 have hB:X.B.get? I=none:=(N.hot I hF).2
 refine⟨fun b o e=>hk b o (fun z=>by rw[z,hB]at e;cases e) (N.stays b o e),fun a q=>⟨?_,(N.hot a q).2⟩,cK p (fun b o e hm=>hk b o (fun z=>hc (z▸hm)) e) (fun _ _ e=>e) (fun p hp=>J5.mpr ⟨p,hp,rfl⟩) N.objs,N.cell,fun a q=>⟨(N.tabs a q).1,(N.tabs a q).2.1,(N.tabs a q).2.2.move p fun o e=>hk _ _ (fun z=>ht (z▸q)) e⟩,N.nodup⟩
 by_cases z:a=I
 ·subst z;exact hl
 ·obtain⟨o,e⟩:=(N.hot a q).1;exact⟨o,hk a o z e⟩
theorem aO.touch{I:Mt}{oI:Obj}(N:aO X env sc lo m om st al F s)(hF:F I)(hc:I∉cells al)(ht:I∉X.tabs)(hI:s.heap.get? I=some oI)(c1:oI≠bz)(c2:I≠env.locals)(c3:∀x∈sc.vis,∀l,st.loc[x.slot]? =some (.own l)->om x.slot≠I)
  (hk:∀b o,b≠I->s.heap.get? b=some o->h'.get? b=some o) (hl:ae h' I) {t:Nat}:aO X env sc lo m om st al F {s with heap:=h',toks:=t}:=by
 have R:=N.fr
 have p:bB s.heap F h' F:=fun b o e q _=>⟨hk b o (fun z=>q (z▸hF)) e,q⟩
 refine⟨N.inv.touch hF hc ht hk hl,R.move p (fun _ _ e=>e) (fun o e=>⟨o,hk _ _ (Ne.symm c2) e,rfl⟩) ?_ ?_ (fun a l=>?_) (fun x hx l hl=>?_) fun x hx hc c e f e2=>?_⟩
 ·obtain⟨_,_,_,_,_,_,_,_,h4⟩:=R.locs;exact h4
 ·obtain⟨_,_,_,_,_,h1,_⟩:=R.locs;exact h1
 ·by_cases z:a=I
  ·subst z;exact hl
  ·obtain⟨o,e⟩:=R.prot a l;exact⟨o,hk a o z e⟩
 ·have q:=R.vars x hx
  rw[hl]at q
  obtain⟨_,_,_,_,_,e4,e5,_⟩:=q
  exact⟨fun o e=>hk _ _ (c3 x hx l hl) e,e4,e5⟩
 ·refine⟨hk _ _ (fun z=>?_) e2,f,fun hm=>?_⟩
  ·subst z;rw[hI]at e2;exact c1 (J9 e2)
  ·obtain⟨o,eo,co⟩:=N.inv.objs.cellKind c hm
   rw[e2]at eo;cases eo;exact co rfl
theorem aT.touch{I:Mt}(x:aT X lo al F s al' F' s₁)(hI:¬ae s.heap I)(hk:∀b o,b≠I->s₁.heap.get? b=some o->h'.get? b=some o)(hl:ae h' I){t:Nat}:aT X lo al F s al' F' {s₁ with heap:=h',toks:=t}:=by
 refine⟨⟨fun a l=>?_,fun a o e h1 h2=>?_,x.tr.hot⟩,x.ext,x.mono,?_⟩
 ·by_cases z:a=I
  ·subst z;exact hl
  ·obtain⟨o,e⟩:=x.tr.live a l;exact⟨o,hk a o z e⟩
 ·obtain⟨o',e',q⟩:=x.tr.keep a o e h1 h2
  exact⟨o',hk a o' (fun z=>hI ⟨o,z▸e⟩) e',q⟩
 ·obtain⟨tk,e⟩:=x.rest
  exact⟨t,by rw[e]⟩
theorem aT.weaken(x:aT X lo al F s al' F' s₁)(h:∀a,lo' a->lo a):aT X lo' al F s al' F' s₁:=⟨x.tr,x.ext,fun a l q=>x.mono a (h a l) q,x.rest⟩
theorem bT.cool{D:Mt}(I:bT X mu al F h)(hc:D∉cells al)(ht:D∉X.tabs):bT X mu al (fun a=>F a/\a≠D) h:=by
 have p:bB h F h (fun a=>F a/\a≠D):=fun b o e q _=>⟨e,fun z=>q z.1⟩
 exact⟨I.stays,fun b z=>I.hot b z.1,cK p (fun _ _ e _=>e) (fun _ _ e=>e) (fun p hp=>J5.mpr ⟨p,hp,rfl⟩) I.objs,fun b z=>⟨I.cell b z,fun r=>hc (r▸z)⟩,fun b z=>⟨⟨(I.tabs b z).1,fun r=>ht (r▸z)⟩,(I.tabs b z).2.1,(I.tabs b z).2.2.move p fun _ e=>e⟩,I.nodup⟩
theorem aT.cool{D:Mt}(x:aT X lo al F s al' F' s₁)(hD:¬ae s.heap D)(hlo:∀a,lo a->ae s.heap a):aT X lo al F s al' (fun a=>F' a/\a≠D) s₁:=
 ⟨⟨x.tr.live,x.tr.keep,fun a q=>x.tr.hot a q.1⟩,x.ext,fun a l q=>⟨x.mono a l q,fun r=>hD (r▸hlo a l)⟩,x.rest⟩
def Sc.Ok(sc:Sc):Prop:=∀x∈sc.vis,∀y∈sc.vis,(x.name=y.name∨x.slot=y.slot)->x=y
theorem oS{sc1:Sc}{x:da}{v:Mu}{r:V}{Q:Unit->Ms->Prop}(hk:env.kindOf x.name=some .local)(hc:x.cell=false)(hv1:∀y∈sc1.vis,y=x∨(y∈sc.vis/\y.name≠x.name/\y.slot≠x.slot))(hg1:∀g∈sc1.gl,g∈sc.gl)(hcd:sc1.code=none∨sc1.code=sc.code)
  {alo:List (Mt×Mt)} {F₀ loo:Mt->Prop} {s₀:Ms} (b₀:aT X loo alo F₀ s₀ al F s) (hb:¬ae s₀.heap env.locals) (N:aO X env sc lo m om st al F s) (R:Rep X al F s.heap r v)
  (go:∀h',(∀b o,b≠env.locals->s.heap.get? b=some o->h'.get? b=some o)->ae h' env.locals->fA s.heap h' env.locals->aO X env sc1 lo (fun y=>if y=x.name then some v else m y) om (st.put x.slot (.val r)) al F {s with heap:=h',toks:=s.toks+1}->aT X loo alo F₀ s₀ al F {s with heap:=h',toks:=s.toks+1}->Q () {s with heap:=h',toks:=s.toks+1}):
  wpAny (model X.prog X.w) A (bindName env x.name v) Q E s:=by
 have Rf:=N.fr
 refine wpAny_bindName (bJ hk Rf.ns (fun h' hns hs hcls=>?_) (by rw[Rf.kind];rfl))
 obtain⟨oL,es,ep,l1,l2,l3,l4,l5,l6⟩:=Rf.locs
 have hkk:∀b o,b≠env.locals->s.heap.get? b=some o->h'.get? b=some o:=fun b o z e=>(hs.2 b z).trans e
 obtain⟨oL',es',ep',l1',l2',r'⟩:=id hns
 have hlv:ae h' env.locals:=⟨oL',l1'⟩
 have p:bB s.heap F h' F:=fun b o e q _=>⟨hkk b o (fun z=>q (z▸l6)) e,q⟩
 refine go h' hkk hlv hcls ⟨N.inv.touch l6 l3 l4 hkk hlv,⟨Rf.kind,Rf.glob,Rf.bl,⟨oL',es',ep',l1',l2',l3,l4,l5,l6⟩,fun a l=>?_,hns,fun g hg=>Rf.gls g (hg1 g hg),fun y hy=>?_,fun y hy=>?_,fun c q hcq=>?_,fun i j l l' h1 h2 hij=>?_⟩⟩ (b₀.touch hb hkk hlv)
 ·by_cases z:a=env.locals
  ·subst z;exact hlv
  ·obtain⟨o,e⟩:=Rf.prot a l;exact⟨o,hkk a o z e⟩
 ·rcases hv1 y hy with rfl|⟨hy,_⟩
  ·rw[hc];simpa using hk
  ·exact Rf.names y hy
 ·rcases hv1 y hy with rfl|⟨hy,hnm,hns'⟩
  ·show bq X env lo _ om al F h' y (st.loc.set y.slot (.val r))[y.slot]?
   by_cases hlt:y.slot < st.loc.length
   ·rw[Ks hlt]
    exact .loc hc ⟨v,by simp,R.pre p fun _ _ e=>e⟩
   ·rw[K4 (by rw[Lj];exact lin [_,_] [(1,.v 0,.v 1)] 1 (.v 0) (.v 1) rfl (KB hlt))]
    intro hc';rw[hc]at hc';cases hc'
  ·have qy:=Rf.vars y hy
   show bq X env lo _ om al F h' y (st.loc.set x.slot (.val r))[y.slot]?
   rw[Ko (Ne.symm hns')]
   have:=qy.move (h':=h') (F':=F) (al':=al) p (fun _ _ e=>e) (fun l hl=>?_) fun hcc c e f e2=>?_
   ·exact this.imp (fun w z=>z.casesOn fun a e1 e2=>⟨a,(if_neg hnm).trans e1,e2⟩) (fun w z=>z) (fun l _ z=>z.casesOn fun g1 vs e1 r r1 r2 r3 r4 r5=>⟨g1,vs,(if_neg hnm).trans e1,r,r1,r2,r3,r4,r5⟩) fun _ z=>z
   ·rw[hl]at qy
    obtain⟨_,_,_,⟨z,e2⟩,_,e4,e5,_⟩:=qy
    exact⟨fun o e=>hkk _ _ (fun q=>by rw[q,l1]at e2;cases e2;cases l2) e,e4,e5⟩
   ·refine⟨hkk _ _ (fun q=>by rw[q,l1]at e2;cases e2;cases l2) e2,f,fun hm=>?_⟩
    obtain⟨o,eo,co⟩:=N.inv.objs.cellKind c hm
    rw[e2]at eo;cases eo;exact co rfl
 ·rcases hcd with z|z
  ·rw[z]at hcq;cases hcq
  ·exact Rf.code c q (z▸hcq)
 ·have ne (i:Nat) (w:List V) (q:(st.loc.set x.slot (.val r))[i]? =some (.own w)):st.loc[i]? =some (.own w):=by
   by_cases hs:x.slot=i
   ·subst hs
    by_cases hlt:x.slot < st.loc.length
    ·rw[Ks hlt]at q;cases q
    ·rw[K4 (by rw[Lj];exact lin [_,_] [(1,.v 0,.v 1)] 1 (.v 0) (.v 1) rfl (KB hlt))]at q;cases q
   ·rwa[Ko hs]at q
  exact Rf.owns i j _ _ (ne _ _ h1) (ne _ _ h2) hij
theorem Sc.Ok.split{x:da}(hok:sc.Ok)(hx:x∈sc.vis):∀y∈sc.vis,y=x∨(y∈sc.vis/\y.name≠x.name/\y.slot≠x.slot):=fun y hy=>by
 by_cases h:y=x
 ·exact .inl h
 ·exact .inr ⟨hy,fun z=>h (hok y hy x hx (.inl z)),fun z=>h (hok y hy x hx (.inr z))⟩
theorem bind_ok{x:da}{v:Mu}{r:V}{Q:Unit->Ms->Prop}(hok:sc.Ok)(hx:x∈sc.vis)(hc:x.cell=false)
  {alo:List (Mt×Mt)} {F₀ loo:Mt->Prop} {s₀:Ms} (b₀:aT X loo alo F₀ s₀ al F s) (hb:¬ae s₀.heap env.locals) (N:aO X env sc lo m om st al F s) (R:Rep X al F s.heap r v)
  (go:∀h',(∀b o,b≠env.locals->s.heap.get? b=some o->h'.get? b=some o)->ae h' env.locals->fA s.heap h' env.locals->aO X env sc lo (fun y=>if y=x.name then some v else m y) om (st.put x.slot (.val r)) al F {s with heap:=h',toks:=s.toks+1}->aT X loo alo F₀ s₀ al F {s with heap:=h',toks:=s.toks+1}->Q () {s with heap:=h',toks:=s.toks+1}):
  wpAny (model X.prog X.w) A (bindName env x.name v) Q E s:=by
 have hk:=N.fr.names x hx
 rw[hc]at hk
 exact oS (by simpa using hk) hc (hok.split hx) (fun _ g=>g) (.inr rfl) b₀ hb N R go
theorem bI.bound{L:Mt}(a:bI X A n s)(hk:∀b o,b≠L->s.heap.get? b=some o->h'.get? b=some o)(hc:fA s.heap h' L):bI X A n {s with heap:=h',toks:=s.toks+1}:=by
 obtain⟨h0,h1,h2,h3,l,h4,h5⟩:=a
 refine⟨by show s.toks+1≠0;exact Ly (by exact lin [_] [] 1 (.a (.n 0) (.n 1)) (.a (.v 0) (.n 1)) rfl),h1,h2,h3,l,h4,fun e he=>?_⟩
 obtain⟨k,L',o,es,ep,e1,e2,e3,e4,e5⟩:=h5 e he
 by_cases z:L'=L
 ·subst z
  obtain⟨o',es',ep',f1,f2,f3⟩:=hc o e2
  exact⟨k,L',o',es',ep',e1,f1,f2.trans e3,f3,e5⟩
 ·exact⟨k,L',o,es,ep,e1,hk L' o z e2,e3,e4,e5⟩
theorem aO.sub{sc1:Sc}(N:aO X env sc lo m om st al F s)(hv:∀y∈sc1.vis,y∈sc.vis)(hg:∀g∈sc1.gl,g∈sc.gl)(hcd:sc1.code=none∨sc1.code=sc.code):aO X env sc1 lo m om st al F s:=
 ⟨N.inv,N.fr.kind,N.fr.glob,N.fr.bl,N.fr.locs,N.fr.prot,N.fr.ns,fun g h=>N.fr.gls g (hg g h),fun y h=>N.fr.names y (hv y h),fun y h=>N.fr.vars y (hv y h),fun c q hcq=>by
  rcases hcd with z|z
  ·rw[z]at hcq;cases hcq
  ·exact N.fr.code c q (z▸hcq),N.fr.owns⟩
end
end
section
variable {al:List (Mt×Mt)} {k:V->St->Pg}
theorem qj{scope:Scope}(hf:∀p∈scope.names,p.2=.free->∃c,env.cells.lookup p.1=some c):
  ∃cl,closureFor scope env=pure cl/\(∀x c,cl.lookup x=some c->env.cells.lookup x=some c)/\∀x,(x,NameKind.free)∈scope.names->∃c,cl.lookup x=some c:=by
 have key:∀(l:List (Str×NameKind)) (cs:List (Str×Mt)),(∀p∈l,p.2=.free->∃c,env.cells.lookup p.1=some c)->(∀x c,cs.lookup x=some c->env.cells.lookup x=some c)->
   ∃cl,(forIn l cs fun x __s=>match x with|(name,kind)=>if(kind==NameKind.free)=true then do let d ←cellOf env name;pure (ForInStep.yield ((name,d)::__s))else pure (ForInStep.yield __s):Sem (List (Str×Mt)))=pure cl/\
    (∀x c,cl.lookup x=some c->env.cells.lookup x=some c)/\(∀x c,cs.lookup x=some c->∃c,cl.lookup x=some c)/\∀x,(x,NameKind.free)∈l->∃c,cl.lookup x=some c:=by
  intro l
  induction l with
  |nil=>intro cs _ h2;exact⟨cs,rfl,h2,fun x c h=>⟨c,h⟩,fun x hx=>nomatch hx⟩
  |cons p l ih=>
   intro cs h1 h2
   obtain⟨nm,kd⟩:=p
   rw[List.forIn_cons]
   by_cases hk:kd=.free
   ·subst hk
    obtain⟨c,hc⟩:=h1 (nm,.free) (.head _) rfl
    have h2':∀x c',((nm,c)::cs).lookup x=some c'->env.cells.lookup x=some c':=fun x c' hx=>by
     rw[KQ]at hx
     by_cases hxn:x==nm
     ·simp only[hxn]at hx;cases hx;rw[J7.mp hxn];exact hc
     ·simp only[hxn]at hx;exact h2 x c' hx
    obtain⟨cl,e,g1,g2,g3⟩:=ih ((nm,c)::cs) (fun p hp=>h1 p (.tail _ hp)) h2'
    refine⟨cl,?_,g1,fun x c' hx=>?_,fun x hx=>?_⟩
    ·have:cellOf env nm=pure c:=by unfold cellOf;rw[hc]
     simp only[beq_self_eq_true,if_true,this,pure_bind]
     exact e
    ·by_cases hxn:x==nm
     ·exact g2 x c (by rw[KQ];simp[hxn])
     ·exact g2 x c' (by rw[KQ];simp only[hxn];exact hx)
    ·rcases JY.mp hx with q|q
     ·cases q;exact g2 nm c (by simp[KQ])
     ·exact g3 x q
   ·have hb:(kd==NameKind.free)=false:=by simpa using hk
    obtain⟨cl,e,g1,g2,g3⟩:=ih cs (fun p hp=>h1 p (.tail _ hp)) h2
    refine⟨cl,?_,g1,g2,fun x hx=>?_⟩
    ·simp only[hb,Lw,if_false,pure_bind]
     exact e
    ·rcases JY.mp hx with q|q
     ·cases q;exact absurd rfl hk
     ·exact g3 x q
 obtain⟨cl,e,g1,_,g3⟩:=key scope.names [] hf (fun _ _ h=>by cases h)
 refine⟨cl,?_,g1,g3⟩
 exact(congrArg (fun t:Sem (List (Str×Mt))=>t>>=fun s=>pure s) e)
theorem c5(scope:Scope)(env:Env)(x:Str):(relabel scope env).names.lookup x=(scope.names.lookup x).map fun k=>if(k== .free&&env.scope.kind== .function&&env.kindOf x==some .cell)then .cell else k:=by
 unfold relabel
 show(scope.names.map _).lookup x=_
 generalize scope.names=l
 induction l with
 |nil=>rfl
 |cons p l ih=>
  obtain⟨nm,kd⟩:=p
  rw[Kq]
  have e1:∀(a:NameKind) (r:List (Str×NameKind)),x≠nm->((nm,a)::r).lookup x=r.lookup x:=fun a r hx=>by
   rw[KQ]
   have:(x==nm)=false:=KA.mpr hx
   rw[this]
  have e2:∀(a:NameKind) (r:List (Str×NameKind)),((x,a)::r).lookup x=some a:=fun a r=>by
   rw[KQ,beq_self_eq_true]
  by_cases hx:x=nm
  ·subst hx
   rw[e2]
   by_cases hc:(kd==NameKind.free&&env.scope.kind==ScopeKind.function&&env.kindOf x==some NameKind.cell)=true
   ·show List.lookup x ((if(kd==NameKind.free&&env.scope.kind==ScopeKind.function&&env.kindOf x==some NameKind.cell)=true then(x,NameKind.cell)else(x,kd))::_)=_
    rw[if_pos hc,e2,Option.map_some,if_pos hc]
   ·show List.lookup x ((if(kd==NameKind.free&&env.scope.kind==ScopeKind.function&&env.kindOf x==some NameKind.cell)=true then(x,NameKind.cell)else(x,kd))::_)=_
    rw[if_neg hc,e2,Option.map_some,if_neg hc]
  ·rw[e1 _ _ hx, ←ih]
   show List.lookup x ((if(kd==NameKind.free&&env.scope.kind==ScopeKind.function&&env.kindOf nm==some NameKind.cell)=true then(nm,NameKind.cell)else(nm,kd))::_)=_
   split<;>exact e1 _ _ hx
structure kz(sc sc':Sc)(xv:da)(scope:Scope):Prop where
 kind:scope.kind=.function
 nocell:∀y∈scope.names,y.2≠ .cell
 names:∀y∈scope.names,y.2=.local->scope.names.lookup y.1=some .local
 x:scope.names.lookup xv.name=some .local
 xc:xv.cell=false
 vis:∀y∈sc'.vis,y=xv∨(y.name≠xv.name/\y.slot≠xv.slot/\y.cell=true/\y.mine=false/\scope.names.lookup y.name=some .free/\∃z∈sc.vis,z.name=y.name/\z.slot=y.slot/\z.cell=true)
 free:∀p∈scope.names,p.2=.free->∃z∈sc.vis,z.name=p.1/\z.cell=true
 gl:∀g∈sc'.gl,scope.names.lookup g=some .globalImplicit
 apart:∀z∈sc.vis,z.slot≠xv.slot
 nocode:sc'.code=none
theorem jK{α β:Type}[BEq α][LawfulBEq α]:∀{l:List (α×β)} {x:α} {b:β},l.lookup x=some b->(x,b)∈l
 |[],_,_,e=>by cases e
 |(a,c)::l,x,b,e=>by
  rw[KQ]at e
  by_cases h:x==a
  ·simp only[h]at e;cases e;rw[J7.mp h];exact .head _
  ·simp only[h]at e;exact .tail _ (jK e)
theorem kr.cellAt(R:kr X env sc lo rho m om al F h){z:da}(hz:z∈sc.vis)(hc:z.cell=true):∃c,env.cells.lookup z.name=some c:=by
 have q:=R.vars z hz
 revert q
 have o:iM X env lo al F h z->∃c,env.cells.lookup z.name=some c:=fun z=>z.casesOn fun c e _ _ _ _ _=>⟨c,e⟩
 cases rho[z.slot]? with
 |none=>exact fun q=>o (q hc)
 |some lv=>cases lv with
  |unset=>exact fun q=>o (q hc)
  |val v=>exact fun q=>(q.2 hc).casesOn fun c _ e _ _ _=>⟨c,e⟩
  |own l=>exact fun q=>q.casesOn fun z _ _ _ _ _ _ _ _=>absurd (z.symm.trans hc) KX
noncomputable def mU(scope:Scope)(C:Mt)(cl:List (Str×Mt))(env:Env):Env:={newEnv scope C env.globals cl env.qual none .none (some env) 0 with scope:=relabel scope env}
noncomputable def dy(sc':Sc)(xv:da):Sc:={vis:=sc'.vis.filter (fun y=>y.slot != xv.slot),gl:=sc'.gl}
theorem zN{xv:da}{scope:Scope}{C:Mt}{cl:List (Str×Mt)}{oC:Obj}{es:Array DictEntry}{ep:Nat}(H:kz sc sc' xv scope)(R:kr X env sc lo rho m om al F h)(hcl1:∀x c,cl.lookup x=some c->env.cells.lookup x=some c)(hcl2:∀x,(x,NameKind.free)∈scope.names->∃c,cl.lookup x=some c)
  (hC:h.get? C=some oC) (hd:oC.data=.dict es ep) (hn:h.Ns C m') (h1:C∉cells al) (h2:C∉X.tabs) (h3:¬lo' C) (h4:F C) (hp:∀a,lo' a->ae h a):
  kr X (mU scope C cl env) (dy sc' xv) lo' rho m' om al F h:=by
 have hvis:∀y∈(dy sc' xv).vis,y.cell=true/\y.mine=false/\scope.names.lookup y.name=some .free/\∃z∈sc.vis,z.name=y.name/\z.slot=y.slot/\z.cell=true:=fun y hy=>by
  simp only[dy,La,bne_iff_ne]at hy
  rcases H.vis y hy.1 with rfl|⟨_,_,g3,g4,g5,g6⟩
  ·exact absurd rfl hy.2
  ·exact⟨g3,g4,g5,g6⟩
 refine⟨H.kind,R.glob,R.bl,⟨oC,es,ep,hC,hd,h1,h2,h3,h4⟩,hp,hn,fun g hg=>?_,fun y hy=>?_,fun y hy=>?_,fun _ _ h=>(nomatch h),R.owns⟩
 ·show(relabel scope env).names.lookup g=_
  rw[c5,H.gl g hg];rfl
 ·obtain⟨g3,g4,g5,z,hz,z1,z2,z3⟩:=hvis y hy
  rw[g3,if_pos rfl]
  show(relabel scope env).names.lookup y.name=_∨(relabel scope env).names.lookup y.name=_
  rw[c5,g5]
  simp only[Option.map_some]
  split
  ·exact .inl rfl
  ·exact .inr rfl
 ·obtain⟨g3,g4,g5,z,hz,z1,z2,z3⟩:=hvis y hy
  have q:=R.vars z hz
  rw[z2]at q
  have hlk:∀c,env.cells.lookup z.name=some c->cl.lookup y.name=some c:=fun c e=>by
   obtain⟨c',e'⟩:=hcl2 y.name (jK g5)
   have:=hcl1 _ _ e'
   rw[z1,this]at e;cases e;exact e'
  have ho:iM X env lo al F h z->iM X (mU scope C cl env) lo' al F h y:=fun q=>q.casesOn fun c e1 e2 e3 e4 e5 _=>⟨c,hlk c e1,e2,e3,e4,e5,fun hm=>absurd (g4.symm.trans hm) KX⟩
  revert q
  cases rho[y.slot]? with
  |none=>exact fun q _=>ho (q z3)
  |some lv=>cases lv with
   |unset=>exact fun q _=>ho (q z3)
   |val v=>exact fun q=>(q.2 z3).casesOn fun c a e1 r r1 r2=>.cel g3 ⟨c,a,hlk c e1,r,r1,r2⟩
   |own l=>exact fun q=>q.casesOn fun z _ _ _ _ _ _ _ _=>absurd (z.symm.trans z3) KX
def iP(X:Cx)(n:Nat)(sc:Sc)(ifs:List Mq)(mifs:List ME):Prop:=(ifs=[]/\mifs=[])∨∃c mc,ifs=[c]/\mifs=[mc]/\bN X n sc c mc
noncomputable abbrev rK(me:ME)(x:Nat)(mifs:List ME):V->(Option V->St->Pg)->St->Pg:=fun v k' st=>kR mifs (fun t st'=>cond t
     (ev me (.v fun r st''=>.same st''.loc (st.put x (.val v)).loc (k' (some r) st'')) fQ st')
     (.same st'.loc (st.put x (.val v)).loc (k' Option.none st'))) fQ (st.put x (.val v))
structure xR(X:Cx)(A:Around)(n:Nat)(sc':Sc)(xv:da)(cenv:Env)(lo':Mt->Prop)(om:Nat->Mt)(ali:List (Mt×Mt))(F₁:Mt->Prop)(s₁:Ms)(sti:St)(D I:Mt)(fp:List Mt)(St':Nat->Heap->Prop)(i:Nat)
  (acc:List V) (vals:List Mu) (m:Str->Option Mu) (st:St) (al:List (Mt×Mt)) (F:Mt->Prop) (s:Ms):Prop where
 now:aO X cenv (dy sc' xv) lo' m om st al F s
 aft:aT X (ae s₁.heap) ali F₁ s₁ al F s
 up:Up s₁ s
 it:St' i s.heap
 lst:gU s.heap D vals
 rep:ag X al F s.heap acc vals
 len:vals.length<=i
 dF:F D
 dc:D∉cells al
 iF:F I
 ic:I∉cells al
 loc:∀j,j≠xv.slot->st.loc[j]? =sti.loc[j]?
 own:∀l,st.loc[xv.slot]? =some (.own l)->sti.loc[xv.slot]? =some (.own l)
inductive xQ(X:Cx)(A:Around)(n:Nat)(sc':Sc)(xv:da)(cenv:Env)(lo':Mt->Prop)(om:Nat->Mt)(ali:List (Mt×Mt))(F₁:Mt->Prop)(s₁:Ms)(sti:St)(D I:Mt)(fp:List Mt)(St':Nat->Heap->Prop)(vs:List V)(me:ME)(mifs:List ME)(kv:V->St->Pg)(j:Nat)(s:Ms):Prop
 |mk (i:Nat) (acc:List V) (vals:List Mu) (m:Str->Option Mu) (st:St) (al:List (Mt×Mt)) (F:Mt->Prop) (e:j=vs.length - i) (l:i<=vs.length) (h:wp (Wd X n) (bF (rK me xv.slot mifs) (vs.drop i) acc kv st)) (q:xR X A n sc' xv cenv lo' om ali F₁ s₁ sti D I fp St' i acc vals m st al F s)
structure Ac(X:Cx)(xv:da)(C D:Mt)(ali:List (Mt×Mt))(F₁:Mt->Prop)(s₁:Ms)(sti:St)(acc:List V)(vals:List Mu)(st:St)(al:List (Mt×Mt))(F:Mt->Prop)(s:Ms):Prop where
 inv:bT X st.mu al F s.heap
 aft:aT X (ae s₁.heap) ali F₁ s₁ al F s
 up:Up s₁ s
 lst:gU s.heap D vals
 rep:ag X al F s.heap acc vals
 dF:F D
 dc:D∉cells al
 loc:∀j,j≠xv.slot->st.loc[j]? =sti.loc[j]?
 own:∀l,st.loc[xv.slot]? =some (.own l)->sti.loc[xv.slot]? =some (.own l)
 cns:∃m,s.heap.Ns C m
 cF:F C
 cc:C∉cells al
 ct:C∉X.tabs
theorem bT.drop{I:Mt}(N:bT X mu al F h)(hF:F I)(hc:I∉cells al)(ht:I∉X.tabs)(hk:∀b o,b≠I->h.get? b=some o->h'.get? b=some o):bT X mu al (fun a=>F a/\a≠I) h':=by
 have p:bB h F h' (fun a=>F a/\a≠I):=fun b o e q _=>⟨hk b o (fun z=>q (z▸hF)) e,fun z=>q z.1⟩
 have hB:X.B.get? I=none:=(N.hot I hF).2
 exact⟨fun b o e=>hk b o (fun z=>by rw[z,hB]at e;cases e) (N.stays b o e),fun a q=>⟨(N.hot a q.1).1.casesOn fun o e=>⟨o,hk a o q.2 e⟩,(N.hot a q.1).2⟩,cK p (fun b o e hm=>hk b o (fun z=>hc (z▸hm)) e) (fun _ _ e=>e) (fun p hp=>J5.mpr ⟨p,hp,rfl⟩) N.objs,fun a q=>⟨N.cell a q,fun z=>hc (z▸q)⟩,fun a q=>⟨⟨(N.tabs a q).1,fun z=>ht (z▸q)⟩,(N.tabs a q).2.1,(N.tabs a q).2.2.move p fun o e=>hk _ _ (fun z=>ht (z▸q)) e⟩,N.nodup⟩
theorem aT.drop{I:Mt}(x:aT X lo al F s al' F' s₁)(hI:¬ae s.heap I)(hlo:∀a,lo a->ae s.heap a)(hk:∀b o,b≠I->s₁.heap.get? b=some o->h'.get? b=some o){t:Nat}:aT X lo al F s al' (fun a=>F' a/\a≠I) {s₁ with heap:=h',toks:=t}:=by
 refine⟨⟨fun a l=>?_,fun a o e h1 h2=>?_,fun a q=>x.tr.hot a q.1⟩,x.ext,fun a l q=>⟨x.mono a l q,fun z=>hI (z▸hlo a l)⟩,?_⟩
 ·obtain⟨o,e⟩:=x.tr.live a l;exact⟨o,hk a o (fun z=>hI (z▸l)) e⟩
 ·obtain⟨o',e',q⟩:=x.tr.keep a o e h1 h2
  exact⟨o',hk a o' (fun z=>hI ⟨o,z▸e⟩) e',q⟩
 ·obtain⟨tk,e⟩:=x.rest
  exact⟨t,by rw[e]⟩
theorem d9{xv y:da}:y∈(dy sc' xv).vis↔y∈sc'.vis/\y.slot≠xv.slot:=by
 simp[dy,La]
theorem tv{xv:da}{scope:Scope}{cenv:Env}{iter elt:Mq}{ifs:List Mq}{mifs:List ME}{me:ME}{px pos:Pos}{vs:List V}{kv:V->St->Pg}{D I:Mt}{fp:List Mt}{P:Nat->Mu->Prop}{St':Nat->Heap->Prop}{ali:List (Mt×Mt)}{F₁:Mt->Prop}{sti:St}{mui:List aa}
  {R:Result->Ms->Prop} (H:kz sc sc' xv scope) (hsc:cenv.scope=relabel scope env) (helt:ah X n sc' elt me) (hifs:iP X n sc' ifs mifs) (ami:bI X A n s₁) (I₁:bT X mui ali F₁ s₁.heap) (hit:xK X ali F₁ s₁.heap A vs I fp P St')
  (hvs:vs.length<=lim) (hDt:D∉X.tabs) (hIt:I∉X.tabs) (hD:¬ae s₁.heap D) (hI:¬ae s₁.heap I) (hC:¬ae s₁.heap cenv.locals) (hDI:D≠I) (hDC:D≠cenv.locals) (hIC:I≠cenv.locals)
  (hlo1:∀a,ae s₁.heap a->lo' a) (hloD:lo' D) (hloI:lo' I)
  (go:∀acc vals st' al' F' s',wp (Wd X n) (kv (.lst acc) st')->Ac X xv cenv.locals D ali F₁ s₁ sti acc vals st' al' F' s'->R (.ok .next) s'):
  ∀{i:Nat} {acc:List V} {vals:List Mu} {m:Str->Option Mu} {st:St} {al:List (Mt×Mt)} {F:Mt->Prop} {s:Ms},i<=vs.length->wp (Wd X n) (bF (rK me xv.slot mifs) (vs.drop i) acc kv st)->xR X A n sc' xv cenv lo' om ali F₁ s₁ sti D I fp St' i acc vals m st al F s->
   codeAny (model X.prog X.w) A (.compLoop (.ListComp elt [⟨.Name xv.name px,iter,ifs,0⟩] scope pos) 0 (.ref I) (.ref D) cenv) R s:=by
 intro i acc vals m st al F s hi hcl hca
 refine codeAny_compLoop_tests (xQ X A n sc' xv cenv lo' om ali F₁ s₁ sti D I fp St' vs me mifs kv)
  (fun j s hJ=>?_) _ ⟨i,acc,vals,m,st,al,F,rfl,hi,hcl,hca⟩
 clear hcl hca hi
 obtain⟨i,acc,vals,m,st,al,F,rfl,hi,hcl,q⟩:=hJ
 have IlivE:∀{i h},St' i h->∃o,h.get? I=some o/\o.cls≠ .type "frame"/\o.cls≠ .type "list"/\o.cls≠ .type "cell":=fun{i h} hst=>by
  obtain⟨o,e,g1,g2⟩:=hit.live i h hst I hit.self
  exact⟨o,e,g1,(g2 rfl).1,(g2 rfl).2.1⟩
 have cool:∀{al F s},aT X (ae s₁.heap) ali F₁ s₁ al F s->∀b∈fp,b≠I->¬F b:=fun{al F s} hb b hbf hbI hF=>by
  obtain⟨l,nf⟩:=hit.cool b hbf hbI
  exact(hb.tr.hot b hF).elim nf fun z=>z l
 have noOwn:∀{st:St} {m al F s},aO X cenv (dy sc' xv) lo' m om st al F s->∀x∈(dy sc' xv).vis,∀l,st.loc[x.slot]? =some (.own l)->False:=fun{st m al F s} N x hx l hl=>by
  have qx:=N.fr.vars x hx
  rw[hl]at qx
  obtain⟨hc,_⟩:=qx
  rcases H.vis x (d9.mp hx).1 with rfl|⟨_,_,g3,_⟩
  ·exact(d9.mp hx).2 rfl
  ·rw[g3]at hc;cases hc
 by_cases hlt:i < vs.length
 ·refine wpAny_up (hit.walks.item i s _ _ hlt q.it fun v h' tk hPv hst' hk u=>?_)
  have hk':∀b o,b≠I->s.heap.get? b=some o->h'.get? b=some o:=fun b o hb e=>hk b o (by simpa using hb) e
  obtain⟨oI,eI,cI1,cI2,cI3⟩:=IlivE q.it
  obtain⟨oI',eI',_,_,_⟩:=IlivE hst'
  have hlI:ae h' I:=⟨oI',eI'⟩
  have Na:aO X cenv (dy sc' xv) lo' m om st al F {s with heap:=h',toks:=tk}:=q.now.touch q.iF q.ic hIt eI (fun z=>cI3 (by rw[z])) hIC (fun x hx l hl=>(noOwn q.now x hx l hl).elim) hk' hlI
  have ba:aT X (ae s₁.heap) ali F₁ s₁ al F {s with heap:=h',toks:=tk}:=q.aft.touch hI hk' hlI
  have pa:bB s.heap F h' F:=fun b o e nf _=>⟨hk' b o (fun z=>nf (z▸q.iF)) e,nf⟩
  have hLa:gU h' D vals:=q.lst.casesOn fun z e=>⟨z,hk' D _ hDI e⟩
  have hRa:ag X al F h' acc vals:=q.rep.pre pa fun _ _ e=>e
  obtain⟨w,hw,Rw⟩:=hit.items i v hlt hPv
  have Rw':Rep X al F h' w v:=ba.rep I₁ Rw
  rw[Ln hlt]at hcl
  have hwv:vs[i]=w:=by rw[J4 hlt]at hw;exact J9 hw
  rw[hwv]at hcl
  have hkx:cenv.kindOf xv.name=some .local:=by
   show cenv.scope.names.lookup xv.name=_
   rw[hsc,c5,H.x];rfl
  show wpAny _ _ (assign (.Name xv.name px) cenv v) _ _ _
  rw[PySem.assign_Name]
  refine JJ (Kf (wpAny_up ?_))
  refine oS (sc:=dy sc' xv) (sc1:=sc') hkx H.xc (fun y hy=>?_) (fun g hg=>hg) (.inl H.nocode) ba hC Na Rw' fun h'' hk2 hlC _ Nb bb u2=>?_
  ·rcases H.vis y hy with rfl|⟨g1,g2,_⟩
   ·exact .inl rfl
   ·exact .inr ⟨d9.mpr ⟨hy,g2⟩,g1,g2⟩
  have hCF:F cenv.locals:=by obtain⟨_,_,_,_,_,_,_,_,h4⟩:=Na.fr.locs;exact h4
  have pb:bB h' F h'' F:=fun b o e nf _=>⟨hk2 b o (fun z=>nf (z▸hCF)) e,nf⟩
  have hstb:St' (i+1) h'':=hit.walks.frame _ h' h'' hst' fun b hb o e=>hk2 b o (fun z=>by
   by_cases hbI:b=I
   ·exact hIC (hbI▸z)
   ·exact cool ba b hb hbI (z▸hCF)) e
  have hLb:gU h'' D vals:=hLa.casesOn fun z e=>⟨z,hk2 D _ hDC e⟩
  have hRb:ag X al F h'' acc vals:=hRa.pre pb fun _ _ e=>e
  have ub:Up s₁ {s with heap:=h'',toks:=tk+1}:=q.up.trans (u.trans u2)
  have amb:bI X A n {s with heap:=h'',toks:=tk+1}:=ami.aft I₁ bb ub
  have again:∀{st2:St} {al2:List (Mt×Mt)} {F2:Mt->Prop} {s2:Ms} {acc2:List V} {vals2:List Mu},aO X cenv sc' lo' (fun y=>if y=xv.name then some v else m y) om st2 al2 F2 s2->st2.loc=(st.put xv.slot (.val w)).loc->
    aT X (ae s₁.heap) ali F₁ s₁ al2 F2 s2->Up s₁ s2->St' (i+1) s2.heap->gU s2.heap D vals2->ag X al2 F2 s2.heap acc2 vals2->vals2.length<=i+1->F2 D->D∉cells al2->F2 I->I∉cells al2->wp (Wd X n) (bF (rK me xv.slot mifs) (vs.drop (i+1)) acc2 kv st2)->
    ∃m',m' < vs.length - i/\xQ X A n sc' xv cenv lo' om ali F₁ s₁ sti D I fp St' vs me mifs kv m' s2:=by
   intro st2 al2 F2 s2 acc2 vals2 N2 hloc b2 u2 hst2 hL2 hR2 hlen2 hD2 hDc2 hI2 hIc2 hc2
   refine⟨vs.length - (i+1),Nat.sub_lt_sub_left hlt (LB i),i+1,acc2,vals2,_,st2,al2,F2,rfl,hlt,hc2,N2.sub (fun y hy=>(d9.mp hy).1) (fun _ g=>g) (.inl rfl),b2,u2,hst2,hL2,hR2,hlen2,hD2,hDc2,hI2,hIc2,fun j hj=>?_,fun l hl=>?_⟩
   ·rw[hloc]
    show(st.loc.set xv.slot _)[j]? =_
    rw[Ko (Ne.symm hj)];exact q.loc j hj
   ·rw[hloc]at hl
    by_cases hl2:xv.slot < st.loc.length
    ·have hl:(st.loc.set xv.slot (.val w))[xv.slot]? =_:=hl
     rw[Ks hl2]at hl;cases hl
    ·have hl:(st.loc.set xv.slot (.val w))[xv.slot]? =_:=hl
     rw[K4 (by rw[Lj];exact lin [_,_] [(1,.v 0,.v 1)] 1 (.v 0) (.v 1) rfl (KB hl2))]at hl;cases hl
  have keepSt:∀{al2 al3:List (Mt×Mt)} {F2 F3:Mt->Prop} {s2 s3:Ms} {mu2:List aa},bT X mu2 al2 F2 s2.heap->aT X lo' al2 F2 s2 al3 F3 s3->aT X (ae s₁.heap) ali F₁ s₁ al2 F2 s2->F2 I->I∉cells al2->St' (i+1) s2.heap->St' (i+1) s3.heap:=by
   intro al2 al3 F2 F3 s2 s3 mu2 I2 b b2 hI2 hIc2 hst2
   refine hit.walks.frame _ _ _ hst2 fun b' hb' o e=>?_
   obtain⟨o',e',g1,g2⟩:=hit.live _ _ hst2 b' hb'
   rw[e]at e';cases e'
   by_cases hbI:b'=I
   ·subst hbI
    obtain⟨o',e',qq⟩:=b.tr.keep _ o e hIc2 hIt
    rwa[qq.same (.inl g1)]at e'
   ·exact(b.tr.at I2.hots e (cool b2 b' hb' hbI) (.inl g1)).1
  have keepHot:∀{al2 al3:List (Mt×Mt)} {F2 F3:Mt->Prop} {s2 s3:Ms} {a:Mt},aT X lo' al2 F2 s2 al3 F3 s3->lo' a->ae s2.heap a->F2 a->a∉cells al2->F3 a/\a∉cells al3:=by
   intro al2 al3 F2 F3 s2 s3 a b hl hv hF hc
   refine⟨b.mono a hl hF,fun hm=>?_⟩
   obtain⟨more,rfl,hmore⟩:=b.ext
   simp only[cells,Kc,Ki]at hm
   rcases hm with hm|hm
   ·exact hc hm
   ·obtain⟨p,hp,rfl⟩:=J5.mp hm
    exact hmore p hp hv
  have keepLst:∀{al2 al3:List (Mt×Mt)} {F2 F3:Mt->Prop} {s2 s3:Ms},aT X lo' al2 F2 s2 al3 F3 s3->D∉cells al2->gU s2.heap D vals->gU s3.heap D vals:=by
   intro al2 al3 F2 F3 s2 s3 b hc hL
   obtain⟨z,e⟩:=hL
   obtain⟨o',e',qq⟩:=b.tr.keep _ _ e hc hDt
   rw[qq.same (.inl (by simp))]at e'
   exact⟨z,e'⟩
  have elt_ok:∀{st2:St} {al2:List (Mt×Mt)} {F2:Mt->Prop} {s2:Ms},aO X cenv sc' lo' (fun y=>if y=xv.name then some v else m y) om st2 al2 F2 s2->aT X (ae s₁.heap) ali F₁ s₁ al2 F2 s2->Up s₁ s2->bI X A n s2->St' (i+1) s2.heap->gU s2.heap D vals->ag X al2 F2 s2.heap acc vals->F2 D->D∉cells al2->F2 I->I∉cells al2->
    wp (Wd X n) (ev me (.v fun r st''=>.same st''.loc (st.put xv.slot (.val w)).loc (bF (rK me xv.slot mifs) (vs.drop (i+1)) (acc++[r]) kv st'')) fQ st2)->
    wpAny (model X.prog X.w) A (eval elt cenv) (fun x s₄=>wpAny (model X.prog X.w) A (call (.builtin "list.append") [.ref D,x]) (fun _ s₅=>∃m',m' < vs.length - i/\xQ X A n sc' xv cenv lo' om ali F₁ s₁ sti D I fp St' vs me mifs kv m' s₅)
     (notedBy (model X.prog X.w) A cenv fun e s'=>R (.error e) s') s₄) (notedBy (model X.prog X.w) A cenv fun e s'=>R (.error e) s') s2:=by
   intro st2 al2 F2 s2 N2 b2 u2 am2 hst2 hL2 hR2 hD2 hDc2 hI2 hIc2 he
   refine wpAny_up (aC helt am2 N2 (fun _ _ qz=>qz.casesOn fun _ _ _ _ f _ __1 __2=>f.elim) he fun r x st3 al3 F3 s3 qz R3 b3 N3 a3 u3=>qz.elim fun hloc hc3=>?_)
   have b3':aT X (ae s₁.heap) ali F₁ s₁ al3 F3 s3:=b2.trans (b3.weaken hlo1)
   have hst3:=keepSt N2.inv b3 b2 hI2 hIc2 hst2
   have hL3:=keepLst b3 hDc2 hL2
   have hR3:=b3.repL N2.inv hR2
   obtain⟨hD3,hDc3⟩:=keepHot b3 hloD (hL2.casesOn fun _ e=>⟨_,e⟩) hD2 hDc2
   obtain⟨hI3,hIc3⟩:=keepHot b3 hloI ((IlivE hst2).elim fun o q=>⟨o,q.1⟩) hI2 hIc2
   refine wpAny_up (wpAny_list_append_plain (l:=D) (items:=vals.toArray) (hL3.casesOn fun z e=>⟨z,e⟩) (fun h4 hL4 hs4 u4=>?_) (by rw[JR];have:=q.len;have:=aV;omega))
   have hk4:∀b o,b≠D->s3.heap.get? b=some o->h4.get? b=some o:=fun b o z e=>(hs4.2 b z).trans e
   have hL4':gU h4 D (vals++[x]):=by obtain⟨z,e⟩:=hL4;exact⟨z,by rw[e,List.push_toArray]⟩
   have hl4:ae h4 D:=hL4'.casesOn fun _ e=>⟨_,e⟩
   have p4:bB s3.heap F3 h4 F3:=fun b o e nf _=>⟨hk4 b o (fun z=>nf (z▸hD3)) e,nf⟩
   obtain⟨zz,eD3⟩:=hL3
   have N4:aO X cenv sc' lo' _ om st3 al3 F3 {s3 with heap:=h4,toks:=s3.toks}:=N3.touch hD3 hDc3 hDt eD3 (by simp) hDC (fun y hy l hl=>by
    have qy:=N3.fr.vars y hy
    rw[hl]at qy
    obtain⟨hc,_,_,_,_,_,_,_,g8⟩:=qy
    exact fun z=>g8 (z▸hloD)) hk4 hl4
   refine again N4 hloc (b3'.touch hD hk4 hl4) ((u2.trans u3).trans u4) ?_ hL4' ?_ ?_ hD3 hDc3 hI3 hIc3 hc3
   ·exact hit.walks.frame _ _ _ hst3 fun b hb o e=>hk4 b o (fun z=>by
     by_cases hbI:b=I
     ·exact hDI (z▸hbI)
     ·exact cool b3' b hb hbI (z▸hD3)) e
   ·exact(hR3.pre p4 fun _ _ e=>e).append (.cons (R3.pre p4 fun _ _ e=>e) .nil)
   ·rw[JU,List.length_singleton];have:=q.len;exact lin [_,_] [(1,.v 0,.v 1)] 1 (.a (.v 0) (.n 1)) (.a (.v 1) (.n 1)) rfl this
  have hDcb:D∉cells al:=q.dc
  rcases hifs with⟨rfl,rfl⟩|⟨c,mc,rfl,rfl,hc⟩
  ·refine wpAny_tests_nil ?_
   rw[if_pos rfl]
   exact elt_ok Nb bb ub amb hstb hLb hRb q.dF q.dc q.iF q.ic hcl
  ·refine wpAny_tests_one (wpAny_up ?_)
   refine gq hc amb Nb (fun _ _ qz=>qz.casesOn fun _ _ _ _ f _ __1 __2=>f.elim) hcl fun tt st2 al2 F2 s2 h2 b2 N2 a2 u3=>?_
   have b2':aT X (ae s₁.heap) ali F₁ s₁ al2 F2 s2:=bb.trans (b2.weaken hlo1)
   have hst2:=keepSt Nb.inv b2 bb q.iF q.ic hstb
   have hL2:=keepLst b2 q.dc hLb
   have hR2:=b2.repL Nb.inv hRb
   obtain⟨hD2,hDc2⟩:=keepHot b2 hloD (hLb.casesOn fun _ e=>⟨_,e⟩) q.dF q.dc
   obtain⟨hI2,hIc2⟩:=keepHot b2 hloI ((IlivE hstb).elim fun o q=>⟨o,q.1⟩) q.iF q.ic
   cases tt with
   |true=>
    rw[if_pos rfl]
    exact elt_ok N2 b2' (ub.trans u3) a2 hst2 hL2 hR2 hD2 hDc2 hI2 hIc2 h2
   |false=>
    rw[if_neg (by decide)]
    exact again N2 h2.1 b2' (ub.trans u3) hst2 hL2 hR2 (by have:=q.len;exact lin [_,_] [(1,.v 0,.v 1)] 1 (.v 0) (.a (.v 1) (.n 1)) rfl this) hD2 hDc2 hI2 hIc2 h2.2
 ·have hie:i=vs.length:=(by exact Lp (lin [_,_] [(1,.v 0,.v 1)] 1 (.v 0) (.v 1) rfl hi) (by exact lin [_,_] [(1,.v 0,.v 1)] 1 (.v 0) (.v 1) rfl (KB hlt)))
  subst hie
  refine wpAny_up (hit.walks.done s _ _ q.it fun h' tk hk u=>?_)
  have hk':∀b o,b≠I->s.heap.get? b=some o->h'.get? b=some o:=fun b o hb e=>hk b o (by simpa using hb) e
  obtain⟨oI,eI,cI1,cI2,cI3⟩:=IlivE q.it
  have pa:bB s.heap F h' (fun a=>F a/\a≠I):=fun b o e nf _=>⟨hk' b o (fun z=>nf (z▸q.iF)) e,fun z=>nf z.1⟩
  have hLa:gU h' D vals:=q.lst.casesOn fun z e=>⟨z,hk' D _ hDI e⟩
  rw[List.drop_length]at hcl
  obtain⟨oL,es,ep,l1,l2,l3,l4,l5,l6⟩:=q.now.fr.locs
  refine go acc vals st al _ _ hcl ⟨q.now.inv.drop q.iF q.ic hIt hk',q.aft.drop hI (fun _ l=>l) hk',q.up.trans u,hLa,q.rep.pre pa fun _ _ e=>e,⟨q.dF,hDI⟩,q.dc,q.loc,q.own,⟨m,?_⟩,⟨l6,Ne.symm hIC⟩,l3,l4⟩
  obtain⟨o,es',ep',e,r⟩:=q.now.fr.ns
  exact⟨o,es',ep',hk' _ o (Ne.symm hIC) e,r⟩
theorem lG{xv:da}{scope:Scope}{iter elt:Mq}{ifs:List Mq}{mifs:List ME}{me it:ME}{px pos sO:Pos}{kv:V->St->Pg}{ke:KE}{use:Option (Mu->Sem Unit)}{Q:Mu->Ms->Prop}
  (H:kz sc sc' xv scope) (hs:∀env x,foldedSetIterable iter env x=pure x) (hit:ah X n sc iter it) (helt:ah X n sc' elt me) (hifs:iP X n sc' ifs mifs) (am:bI X A n s) (N:aO X env sc lo m om st al F s)
  (h:wp (Wd X n) (ev (.comp me xv.slot it mifs) (.v kv) ke st)) (hE:∀v s',XP X n env sc lo m om al F s ke v s'->E v s')
  (fin:∀acc D C m' oC st' al' F' s',wp (Wd X n) (kv (.lst acc) st')->Rep X al' F' s'.heap (.lst acc) (.ref D)->aT X lo al F s al' F' s'->aO X env sc lo m om st' al' F' s'->bI X A n s'->s'.heap.Ns C m'->s'.heap.get? C=some oC->oC≠bz->F' C->C∉cells al'->C∉X.tabs->¬ae s.heap C->D≠C->C≠env.locals->
   (∀x∈sc.vis,∀l,st'.loc[x.slot]? =some (.own l)->om x.slot≠C)->compPost (model X.prog X.w) A E use Q (.ref D) C (.ok .next) s'):
  wpAny (model X.prog X.w) A (comprehension (.ListComp elt [⟨.Name xv.name px,iter,ifs,0⟩] scope pos) scope env sO (newList []) false (eval iter env) use) Q E s:=by
 obtain⟨cl,hcl,hcl1,hcl2⟩:=qj (env:=env) (scope:=scope) fun p hp hk=>by
  obtain⟨z,hz,z1,z2⟩:=H.free p hp hk
  obtain⟨c,e⟩:=N.fr.cellAt hz z2
  exact⟨c,z1▸e⟩
 refine wpAny_comprehension_free rfl (hs env) hcl H.kind H.names (aC hit am N hE h fun iv x sti ali F₁ s₁ h₁ Ri b₁ Ni a₁=>?_)
 refine ad h₁ fun vs ei h₁=>?_
 ·obtain⟨hvs,h₁⟩:=h₁
  refine wpAny_up (jM a₁.handled Ri ei fun I h2 t2 fp P St' hk2 hI hI2 hst2 u2=>?_)
  obtain⟨oI,eI,gI1,gI2⟩:=hI2.live 0 h2 hst2 I hI2.self
  refine wpAny_up (Lb ?_ (KD _))
  intro u3
  refine wpAny_up (wpAny_newFunctionEnv H.nocell (by intro y hy;simp at hy) (fun h₄ hns hsb u4=>?_) H.kind)
  dsimp only at hns hsb u4 ⊢
  have hlD:¬ae h2 h2.objs.size:=av h2
  have kD:∀b o,h2.get? b=some o->(h2.push {cls:=.type "list",dict:=none,data:=.seq ([]:List Mu).toArray}).get? b=some o:=af _
  have hlC:¬ae (h2.push {cls:=.type "list",dict:=none,data:=.seq ([]:List Mu).toArray}) (h2.push {cls:=.type "list",dict:=none,data:=.seq ([]:List Mu).toArray}).objs.size:=av _
  generalize hH3:h2.push {cls:=.type "list",dict:=none,data:=.seq ([]:List Mu).toArray}=H3 at kD hlC hns hsb u3 u4 ⊢
  have eD3:H3.get? h2.objs.size=some {cls:=.type "list",dict:=none,data:=.seq ([]:List Mu).toArray}:=by rw[←hH3];exact J8 _ rfl
  have k4:∀b o,H3.get? b=some o->h₄.get? b=some o:=fun b o e=>by
   have hb:b≠H3.objs.size:=fun z=>hlC (z▸⟨o,e⟩)
   exact(hsb.2 b hb).trans (af _ _ _ e)
  generalize hD:h2.objs.size=D at hlD eD3 ⊢
  generalize hC:H3.objs.size=C at hlC hns hsb ⊢
  have k:∀b o,s₁.heap.get? b=some o->h₄.get? b=some o:=fun b o e=>k4 b o (kD b o (hk2 b o e))
  have hD1:¬ae s₁.heap D:=fun l=>hlD (l.grow hk2)
  have hC1:¬ae s₁.heap C:=fun l=>hlC ((l.grow hk2).grow kD)
  have hlI:ae h2 I:=⟨oI,eI⟩
  have hDI:D≠I:=fun z=>hlD (z▸hlI)
  have hIC:I≠C:=fun z=>hlC (z▸hlI.grow kD)
  have hDC:D≠C:=fun z=>hlC (z▸⟨_,eD3⟩)
  obtain⟨oC,es,ep,eC,dC,rC⟩:=id hns
  have hnew:∀a,(a=I∨a=D∨a=C)->¬ae s₁.heap a/\ae h₄ a:=by
   rintro a (rfl|rfl|rfl)
   ·exact⟨hI,(hlI.grow kD).grow k4⟩
   ·exact⟨hD1,ae.grow k4 ⟨_,eD3⟩⟩
   ·exact⟨hC1,⟨oC,eC⟩⟩
  have N4:=Ni.more k (fun a=>a=I∨a=D∨a=C) hnew (t:=t2+0)
  have b4:=aT.more (X:=X) (lo:=ae s₁.heap) (al:=ali) (F:=F₁) (s:=s₁) k (fun a=>a=I∨a=D∨a=C) hnew (t:=t2+0)
  have notCell:∀a,¬ae s₁.heap a->a∉cells ali:=fun a ha hm=>ha (Ni.inv.hot a (Ni.inv.cell a hm)).1
  have notTab:∀a,¬ae s₁.heap a->a∉X.tabs:=fun a ha hm=>ha (Ni.inv.hot a (Ni.inv.tabs a hm).1).1
  have frC:=zN (lo':=fun a=>ae s₁.heap a∨a=D∨a=I) (C:=C) H N4.fr hcl1 hcl2 eC dC hns (notCell C hC1) (notTab C hC1) (fun z=>by
    rcases z with z|z|z
    ·exact hC1 z
    ·exact hDC z.symm
    ·exact hIC z.symm) (.inr (.inr (.inr rfl))) (fun a ha=>by
    rcases ha with ha|rfl|rfl
    ·exact ha.grow k
    ·exact(hnew _ (.inr (.inl rfl))).2
    ·exact(hnew _ (.inl rfl)).2)
  have hloop:=tv (sc:=sc) (sc':=sc') (xv:=xv) (scope:=scope) (cenv:=mU scope C cl env) (env:=env) (iter:=iter) (elt:=elt) (px:=px) (pos:=pos) (lo':=fun a=>ae s₁.heap a∨a=D∨a=I) (om:=om) (sti:=sti) (R:=compPost (model X.prog X.w) A E use Q (.ref D) C)
   H rfl helt hifs a₁ Ni.inv hI2 hvs (notTab D hD1) (notTab I hI) hD1 hI hC1 hDI hDC hIC (fun a l=>.inl l) (.inr (.inl rfl)) (.inr (.inr rfl)) (fun acc vals st' al' F' s' hk ce=>by
    have hD':¬ae s₁.heap D:=hD1
    have inv':=ce.inv.cool ce.dc (notTab D hD1)
    have aft':=ce.aft.cool hD1 (fun _ l=>l)
    obtain⟨N',b'⟩:=Ni.after (mu':=st'.mu) aft' inv'
    obtain⟨m',hns'⟩:=ce.cns
    obtain⟨oC',es',ep',eC',dC',_⟩:=id hns'
    have p:bB s'.heap F' s'.heap (fun a=>F' a/\a≠D):=fun b o e nf _=>⟨e,fun z=>nf z.1⟩
    refine fin acc D C m' oC' ⟨sti.loc,st'.mu⟩ al' (fun a=>F' a/\a≠D) s' hk (.lst ce.lst (fun z=>z.2 rfl) (ce.rep.pre p fun _ _ e=>e)) (b₁.trans b') N' (a₁.aft Ni.inv aft' ce.up) hns' eC' (fun z=>by rw[z]at dC';cases dC') ⟨ce.cF,Ne.symm hDC⟩ ce.cc ce.ct (fun l=>hC1 (b₁.tr.live _ l)) hDC (fun z=>?_) (fun x hx l hl z=>?_)
    ·obtain⟨o,_,_,e,_⟩:=Ni.fr.locs
     exact hC1 (z▸⟨o,e⟩)
    ·have hl1:sti.loc[x.slot]? =some (.own l):=hl
     have qx:=Ni.fr.vars x hx
     rw[hl1]at qx
     obtain⟨_,_,_,⟨_,e⟩,_⟩:=qx
     exact hC1 (z▸⟨_,e⟩)) (i:=0) (acc:=[]) (vals:=[]) (m:=_) (st:=sti) (al:=ali) (F:=fun a=>F₁ a∨a=I∨a=D∨a=C) (s:={s₁ with heap:=h₄,toks:=t2+0}) (KD _) h₁
   {now:=⟨N4.inv,frC⟩
    aft:=b4
    up:=(u2.trans u3).trans u4
    it:=hI2.walks.frame 0 h2 h₄ hst2 fun b _ o e=>k4 b o (kD b o e)
    lst:=⟨0,k4 _ _ eD3⟩
    rep:=.nil
    len:=JL _
    dF:=.inr (.inr (.inl rfl))
    dc:=notCell D hD1
    iF:=.inr (.inl rfl)
    ic:=notCell I hI
    loc:=fun _ _=>rfl
    own:=fun _ h=>h}
  exact codeAny_compStart_list hloop (hI2.walks.self 0 _ _ _ (hI2.walks.frame 0 h2 h₄ hst2 fun b _ o e=>k4 b o (kD b o e)) hloop)
theorem aO.drop{I:Mt}{oI:Obj}(N:aO X env sc lo m om st al F s)(hF:F I)(hc:I∉cells al)(ht:I∉X.tabs)(hI:s.heap.get? I=some oI)(c1:oI≠bz)(c2:I≠env.locals)(c3:∀x∈sc.vis,∀l,st.loc[x.slot]? =some (.own l)->om x.slot≠I)(c4:¬lo I)
  (hk:∀b o,b≠I->s.heap.get? b=some o->h'.get? b=some o) {t:Nat}:aO X env sc lo m om st al (fun a=>F a/\a≠I) {s with heap:=h',toks:=t}:=by
 have R:=N.fr
 have p:bB s.heap F h' (fun a=>F a/\a≠I):=fun b o e q _=>⟨hk b o (fun z=>q (z▸hF)) e,fun z=>q z.1⟩
 refine⟨N.inv.drop hF hc ht hk,R.move p (fun _ _ e=>e) (fun o e=>⟨o,hk _ _ (Ne.symm c2) e,rfl⟩) ?_ ?_ (fun a l=>?_) (fun x hx l hl=>?_) fun x hx hc c e f e2=>?_⟩
 ·obtain⟨_,_,_,_,_,_,_,_,h4⟩:=R.locs;exact⟨h4,Ne.symm c2⟩
 ·obtain⟨_,_,_,_,_,h1,_⟩:=R.locs;exact h1
 ·obtain⟨o,e⟩:=R.prot a l;exact⟨o,hk a o (fun z=>c4 (z▸l)) e⟩
 ·have q:=R.vars x hx
  rw[hl]at q
  obtain⟨_,_,_,_,_,e4,e5,_⟩:=q
  exact⟨fun o e=>hk _ _ (c3 x hx l hl) e,⟨e4,c3 x hx l hl⟩,e5⟩
 ·have hne:c≠I:=fun z=>by subst z;rw[hI]at e2;exact c1 (J9 e2)
  refine⟨hk _ _ hne e2,⟨f,hne⟩,fun hm=>?_⟩
  obtain⟨o,eo,co⟩:=N.inv.objs.cellKind c hm
  rw[e2]at eo;cases eo;exact co rfl
theorem ri{xv:da}{scope:Scope}{iter elt:Mq}{ifs:List Mq}{mifs:List ME}{me it:ME}{px pos:Pos}
  (H:kz sc sc' xv scope) (hs:∀env x,foldedSetIterable iter env x=pure x) (hit:ah X n sc iter it) (helt:ah X n sc' elt me) (hifs:iP X n sc' ifs mifs):
  ah X n sc (.ListComp elt [⟨.Name xv.name px,iter,ifs,0⟩] scope pos) (.comp me xv.slot it mifs):=fun env A s lo st m om al F kv ke am N h=>by
 rw[eval_ListComp]
 refine lG (use:=none) H hs hit helt hifs am N h (fun _ _ x=>x) fun acc D C m' oC st' al' F' s' hk R b N' a' hns eC hoC hCF hCc hCt hCl hDC hCL hown=>⟨m',hns,fun h' hsb=>?_⟩
 have hkk:∀b o,b≠C->s'.heap.get? b=some o->h'.get? b=some o:=fun b o z e=>(hsb.2 b z).trans e
 have hlo:∀a,lo a->ae s.heap a:=N.fr.prot
 have p:bB s'.heap F' h' (fun a=>F' a/\a≠C):=fun b o e q _=>⟨hkk b o (fun z=>q (z▸hCF)) e,fun z=>q z.1⟩
 exact⟨.lst acc,st',al',_,hk,R.pre p (fun _ _ e=>e),b.drop hCl hlo hkk (t:=s'.toks),N'.drop hCF hCc hCt eC hoC hCL hown (fun z=>hCl (hlo C z)) hkk (t:=s'.toks)⟩
end
section
variable {al:List (Mt×Mt)} {k:V->St->Pg}
theorem gn:∀(l:List Mu),TriplesOk l->∀(a b:Int) (t u:Tok) (c:Mu),TriplesOk (l++[.int a t,.int b u,c])
 |[],_,_,_,_,_,_=>by simp[TriplesOk]
 |[x],h,_,_,_,_,_=>by cases x<;>exact h.elim
 |[x,y],h,_,_,_,_,_=>by
  cases x<;>try exact h.elim
  cases y<;>exact h.elim
 |x::y::z::l,h,a,b,t,u,c=>by
  cases x<;>try exact h.elim
  cases y<;>try exact h.elim
  exact gn l h a b t u c
theorem mW{scope:Scope}(f:Str->Mt)(hf:∀p∈scope.names,p.2=.free->env.cells.lookup p.1=some (f p.1)):
  closureFor scope env=pure ((scope.names.filter (·.2== .free)).reverse.map fun p=>(p.1,f p.1)):=by
 have key:∀(l:List (Str×NameKind)) (cs:List (Str×Mt)),(∀p∈l,p.2=.free->env.cells.lookup p.1=some (f p.1))->
   (forIn l cs fun x __s=>match x with|(name,kind)=>if(kind==NameKind.free)=true then do let d ←cellOf env name;pure (ForInStep.yield ((name,d)::__s))else pure (ForInStep.yield __s):Sem (List (Str×Mt)))=pure ((l.filter (·.2== .free)).reverse.map (fun p=>(p.1,f p.1))++cs):=by
  intro l
  induction l with
  |nil=>intro cs _;rfl
  |cons p l ih=>
   intro cs h1
   obtain⟨nm,kd⟩:=p
   rw[List.forIn_cons]
   by_cases hk:kd=.free
   ·subst hk
    have hc:=h1 (nm,.free) (.head _) rfl
    have:cellOf env nm=pure (f nm):=by unfold cellOf;rw[hc]
    simp only[beq_self_eq_true,if_true,this,pure_bind]
    rw[ih _ fun p hp=>h1 p (.tail _ hp)]
    simp
   ·have hb:(kd==NameKind.free)=false:=by simpa using hk
    simp only[hb,Lw,if_false,pure_bind]
    rw[ih _ fun p hp=>h1 p (.tail _ hp)]
    simp[hb]
 have:=key scope.names [] hf
 rw[JX]at this
 exact(congrArg (fun t:Sem (List (Str×Mt))=>t>>=fun s=>pure s) this)
theorem bT.tab{P:Mt}(N:bT X mu al F h)(hP:P∈X.tabs)(hk:∀b o,b≠P->h.get? b=some o->h'.get? b=some o)(ht:iL X F h' P):bT X mu al F h':=by
 have hF:=(N.tabs P hP).1
 have hc:=(N.tabs P hP).2.1
 have p:bB h F h' F:=fun b o e q _=>⟨hk b o (fun z=>q (z▸hF)) e,q⟩
 have hB:X.B.get? P=none:=(N.hot P hF).2
 refine⟨fun b o e=>hk b o (fun z=>by rw[z,hB]at e;cases e) (N.stays b o e),fun a q=>⟨?_,(N.hot a q).2⟩,cK p (fun b o e hm=>hk b o (fun z=>hc (z▸hm)) e) (fun _ _ e=>e) (fun p hp=>J5.mpr ⟨p,hp,rfl⟩) N.objs,N.cell,fun a q=>⟨(N.tabs a q).1,(N.tabs a q).2.1,?_⟩,N.nodup⟩
 ·by_cases z:a=P
  ·subst z;obtain⟨ps,e,_⟩:=ht;exact⟨_,e⟩
  ·obtain⟨o,e⟩:=(N.hot a q).1;exact⟨o,hk a o z e⟩
 ·by_cases z:a=P
  ·subst z;exact ht
  ·exact(N.tabs a q).2.2.move p fun o e=>hk a o z e
theorem aO.tab{P:Mt}(N:aO X env sc lo m om st al F s)(hP:P∈X.tabs)(hk:∀b o,b≠P->s.heap.get? b=some o->h'.get? b=some o)(ht:iL X F h' P){t:Nat}:aO X env sc lo m om st al F {s with heap:=h',toks:=t}:=by
 have R:=N.fr
 have hF:=(N.inv.tabs P hP).1
 have p:bB s.heap F h' F:=fun b o e q _=>⟨hk b o (fun z=>q (z▸hF)) e,q⟩
 have hlP:ae h' P:=by obtain⟨ps,e,_⟩:=ht;exact⟨_,e⟩
 refine⟨N.inv.tab hP hk ht,R.move p (fun _ _ e=>e) (fun o e=>⟨o,hk _ _ (fun z=>?_) e,rfl⟩) ?_ ?_ (fun a l=>?_) (fun x hx l hl=>?_) fun x hx hc c e f e2=>?_⟩
 ·obtain⟨_,_,_,_,_,_,h2,_⟩:=R.locs;exact h2 (z▸hP)
 ·obtain⟨_,_,_,_,_,_,_,_,h4⟩:=R.locs;exact h4
 ·obtain⟨_,_,_,_,_,h1,_⟩:=R.locs;exact h1
 ·by_cases z:a=P
  ·subst z;exact hlP
  ·obtain⟨o,e⟩:=R.prot a l;exact⟨o,hk a o z e⟩
 ·have q:=R.vars x hx
  rw[hl]at q
  obtain⟨_,_,_,_,_,e4,e5,e6,_⟩:=q
  exact⟨fun o e=>hk _ _ (fun z=>e6 (z▸hP)) e,e4,e5⟩
 ·refine⟨hk _ _ (fun z=>?_) e2,f,fun hm=>?_⟩
  ·subst z
   obtain⟨ps,e,_⟩:=(N.inv.tabs _ hP).2.2
   rw[e]at e2;cases e2
  ·obtain⟨o,eo,co⟩:=N.inv.objs.cellKind c hm
   rw[e2]at eo;cases eo;exact co rfl
theorem aT.tab{P:Mt}(hP:P∈X.tabs)(hk:∀b o,b≠P->s.heap.get? b=some o->h'.get? b=some o)(hl:ae h' P){t:Nat}:aT X lo al F s al F {s with heap:=h',toks:=t}:=
 ⟨⟨fun a l=>by
   by_cases z:a=P
   ·subst z;exact hl
   ·obtain⟨o,e⟩:=l;exact⟨o,hk a o z e⟩,fun a o e _ ht=>⟨o,hk a o (fun z=>ht (z▸hP)) e,.refl o⟩,fun a q=>.inl q⟩,⟨[],by simp,fun _ m=>nm m⟩,fun _ _ q=>q,t,rfl⟩
structure Jz(X:Cx)(sc:Sc)(i:Nat)(params:Arguments)(body:Mq)(scope:Scope)(pos:Pos)(c P:Mt)(q:Str)(kv:da):Prop where
 code:sc.code=some (c,q)
 head:CodeHd X.B c P
 tab:P∈X.tabs
 at_:X.lamTab i=P
 only:∀j,X.lamTab j=P->X.lamPos j=pos/\(X.lams j).qual=q++"<lambda>"
 lam:X.lams i=⟨params,body,scope,q++"<lambda>",[kv.name]⟩
 dflt:∀env,defaultsOf params env=([],[])
 free:scope.names.filter (·.2== .free)=[(kv.name,.free)]
 vis:kv∈sc.vis
 cell:kv.cell=true
 bl:X.B.BuiltinsAt X.mg P
 gP:mainGlobals≠P
 g:X.B.Ns mainGlobals X.mg
theorem wO{loc:List LV}{j:Nat}{vs:List V}(e:ql loc [j]=some vs):∃v,loc[j]? =some (.val v)/\vs=[v]:=by
 have e:EX Option.none Option.none (fun v=>some [v]) (fun _=>Option.none) loc[j]? =some vs:=e
 cases q:loc[j]? with
 |none=>rw[q]at e;cases e
 |some lv=>rw[q]at e;cases lv<;>cases e;exact⟨_,rfl,rfl⟩
theorem Cg{i:Nat}{params:Arguments}{body:Mq}{scope:Scope}{pos:Pos}{c P:Mt}{q:Str}{kv:da}(H:Jz X sc i params body scope pos c P q kv):ah X n sc (.Lambda params body scope pos) (.lam i [kv.slot]):=fun env A s lo st m om al F kk ke am N h=>by
 have qv:=N.fr.vars kv H.vis
 refine ad h fun vs ev h=>?_
 obtain⟨v,hl,rfl⟩:=wO ev
 rw[hl]at qv
 refine qv.val (fun z=>by rw[H.cell]at z;cases z) fun _ qv=>?_
 obtain⟨cc,va,e1,e2,e3,e4⟩:=qv
 have h:wp (Wd X n) (kk (.lam i [v]) st):=h
 obtain⟨hcode,hqual⟩:=N.fr.code c q H.code
 have hcl:closureFor scope env=pure [(kv.name,cc)]:=by
  have:=mW (env:=env) (scope:=scope) (fun _=>cc) fun p hp hk=>by
   have hm:p∈scope.names.filter (·.2== .free):=La.mpr ⟨hp,by rw[hk];rfl⟩
   rw[H.free]at hm
   simp only[JY,Kk,or_false]at hm
   subst hm;exact e1
  rw[this,H.free];rfl
 have st':=N.inv.stays
 obtain⟨ps,eP,ht,hcodes⟩:=(N.inv.tabs P H.tab).2.2
 have hbl:s.heap.BuiltinsAt X.mg P:=by
  obtain⟨bm,o,b1,b2,b3,b4,b5,r⟩:=H.bl
  exact⟨bm,o,b1,b2,b3,b4,st' _ _ b5,r⟩
 have C:CodeHd s.heap c P:=H.head.keeps st'
 refine kla_eval (H.dflt env) ?_
 rw[hqual]
 cases hf:codeAmong pos ps.toList with
 |some cv=>
  obtain⟨hp1,hp2⟩:=H.only i H.at_
  obtain⟨c',oc,vs,t,rfl,f2,f3,f4,f5⟩:=hcodes i H.at_ cv (by rw[hp1];exact hf)
  refine kla_makeFunctionHit (mg:=X.mg) hcl N.fr.glob (H.g.keeps st') hcode C eP ht hf hbl fun ctv h' tk hk _=>?_
  have hk':∀b o,s.heap.get? b=some o->(h'.push {cls:=.type "function",data:=.func (kla_fn "<lambda>" (q++"<lambda>") params body scope [(kv.name,cc)] ((X.mg "__name__").getD .none) (.ref c') ctv)}).get? b=some o:=fun b o e=>af _ _ _ (hk b o e)
  have hnew:¬F h'.objs.size:=fun z=>av h' ((N.inv.hot _ z).1.grow hk)
  refine aP N h hk' (.lam (cs:=[cc]) (vs:=[va]) ⟨((X.mg "__name__").getD .none),c',ctv,oc,vs,t,?_,hk' _ _ f2,f3,f4,hnew,f5⟩ (fun c hc=>by simp only[JY,Kk,or_false]at hc;subst hc;exact e3) (.cons (hk' _ _ e2) .nil) (.cons (e4.pre (.grow hk') fun _ _ e=>e) .nil))
  rw[H.lam]
  exact J8 _ rfl
 |none=>
  refine kla_makeFunction (mg:=X.mg) hcl N.fr.glob (H.g.keeps st') hcode C eP ht hf H.gP hbl fun c' ctv h' tk hx hge hlt hrec htb=>?_
  have hk:∀b o,b≠P->s.heap.get? b=some o->h'.get? b=some o:=fun b o z e=>hx b o z e
  obtain⟨c'',oc,vs,t,r1,r2,r3,r4⟩:=hrec
  cases r1
  have hc'F:¬F c':=fun z=>by
   obtain⟨o,e⟩:=(N.inv.hot _ z).1
   exact absurd (Heap.lt_size e) (KW.mpr hge)
  have htab:iL X F h' P:=by
   refine⟨_,htb,?_,fun j hj cv hcv=>?_⟩
   ·rw[Array.toList_append];exact gn _ ht _ _ _ _ _
   ·obtain⟨hp1,hp2⟩:=H.only j hj
    rw[hp1,Array.toList_append]at hcv
    rw[codeAmong_snoc _ ht hf]at hcv
    cases hcv
    exact⟨c',oc,vs,t,rfl,r2,r3,by rw[hp2];exact r4,hc'F⟩
  have N':aO X env sc lo m om st al F {s with heap:=h',toks:=tk}:=N.tab H.tab hk htab
  have b':aT X lo al F s al F {s with heap:=h',toks:=tk}:=aT.tab H.tab hk ⟨_,htb⟩
  refine EP.from b' (aP N' h (af _) (.lam (cs:=[cc]) (vs:=[va]) ⟨((X.mg "__name__").getD .none),c',ctv,oc,vs,t,?_,af _ _ _ r2,r3,?_,N'.new,hc'F⟩ (fun c hc=>by simp only[JY,Kk,or_false]at hc;subst hc;exact e3) (.cons ?_ .nil) (.cons ((b'.rep N.inv e4).pre (.grow (af _)) fun _ _ e=>e) .nil)))
  ·rw[H.lam];exact J8 _ rfl
  ·rw[H.lam];exact r4
  ·exact af _ _ _ (hk _ _ (fun z=>e3 (z▸(N.inv.tabs P H.tab).1)) e2)
end
section
variable {al:List (Mt×Mt)} {k:V->St->Pg}
def kP(X:Cx)(sc:Sc)(e:Mq)(v:V):Prop:=∀env A s lo st m om al F (Q:Mu->Ms->Prop) (E:Mu->Ms->Prop),aO X env sc lo m om st al F s->(∀y t,s.toks<=t->Rep X al F s.heap v y->Q y {s with toks:=t})->wpAny (model X.prog X.w) A (eval e env) Q E s
theorem sF{b k pos}:kP X sc (.Constant (.bool b) k pos) (.bool b):=fun _ _ s _ _ _ _ _ _ _ _ _ h=>wpAny_Constant_bool (h _ s.toks (JL _) (.bool b))
theorem uv{i k pos}:kP X sc (.Constant (.int i) k pos) (.int i):=fun _ _ s _ _ _ _ _ _ _ _ _ h=>wpAny_Constant_int (h _ _ (Lf _) (.int i _))
theorem uu{x:Str}{z:List Nat}{k pos}(hx:x=ST z):kP X sc (.Constant (.str x) k pos) (.str z):=fun _ _ s _ _ _ _ _ _ _ _ _ h=>by
 subst hx;exact Lr (h _ _ (Lf _) (.str z _))
theorem iu(G:Gd X){id:Str}{v:V}{pos}(hg:id∈sc.gl)(hv:X.glob id=some v)(hd:(id==("__debug__":Str))=false):kP X sc (.Name id pos) v:=fun env A s lo st m om al F Q E N h=>by
 obtain⟨b,hb,R⟩:=G.glob id v hv
 have R':Rep X al F s.heap v b:=R.pre N.inv.preB (fun i p e=>by simp at e)
 have hk:=N.fr.gls id hg
 have hns:=G.g.keeps N.inv.stays
 refine Name_function_global N.fr.kind hk ?_ hd
 rcases hb with hb|⟨h1,h2,h3⟩
 ·exact loadGlobal_global (by rw[N.fr.glob];exact hns) hb (h b s.toks (JL _) R')
 ·obtain⟨mb,q1,q2⟩:=G.b
  exact loadGlobal_builtin (by rw[N.fr.glob];exact hns) h1 (by rw[N.fr.bl];exact q1.keeps N.inv.stays) ((q2 id h3).trans h2) (h b s.toks (JL _) R')
inductive db(X:Cx)(sc:Sc):List (Mq×Mq)->List V->List V->Prop
 |nil:db X sc [] [] []
 |cons {e f:Mq} {k v:V} {r:List (Mq×Mq)} {ks vs:List V}:kP X sc e k->kP X sc f v->db X sc r ks vs->db X sc ((e,f)::r) (k::ks) (v::vs)
theorem mT{pos:Pos}{r:List (Mq×Mq)}{ks vs:List V}(p:db X sc r ks vs):∀{s:Ms} {Q:List (Mu×Mu)->Ms->Prop},aO X env sc lo m om st al F s->
  (∀ps t,s.toks<=t->ag X al F s.heap ks (ps.map (·.1))->ag X al F s.heap vs (ps.map (·.2))->Q ps {s with toks:=t})->wpAny (model X.prog X.w) A (evalPairs (r.map fun p=>(eval p.1 env,do let x ←eval p.2 env;standAt pos;pure x))) Q E s:=by
 induction p with
 |nil=>exact fun _ h=>evalPairs_nil (h [] _ (JL _) .nil .nil)
 |cons hk hv _ ih=>
  exact fun{s Q} N h=>evalPairs_cons (hk env A s lo st m om al F _ _ N fun y t ht1 Ry=>JJ (hv env A {s with toks:=t} lo st m om al F _ _ N.tok fun z u hu Rz=>JJ (Kf (JO
   (ih (N.tok (t:=u)) fun ps t' ht' R1 R2=>h ((y,z)::ps) t' (JH ht1 (JH hu ht')) (.cons Ry R1) (.cons Rz R2))))))
theorem nL{pos:Pos}:∀r:List (Mq×Mq),(evalEachOpt (r.map fun p=>some p.1) env).zip ((evalEach (r.map (·.2)) env).map fun v=>do let x ←v;standAt pos;pure x)=(r.map fun p=>(eval p.1 env,do let x ←eval p.2 env;standAt pos;pure x)).map fun p=>(some p.1,p.2)
 |[]=>rfl
 |(a,b)::r=>by
  show((some (eval a env))::evalEachOpt (r.map fun p=>some p.1) env).zip ((do let x ←eval b env;standAt pos;pure x)::(evalEach (r.map (·.2)) env).map _)=_
  rw[List.zip_cons_cons,nL r];rfl
theorem pE{K:Type}[DecidableEq K]{kvs:List (K×Mu)}{k:K}{v:Mu}(h:k∉kvs.map (·.1)):stored kvs k v=kvs++[(k,v)]:=by
 unfold stored
 rw[if_neg]
 intro hc
 obtain⟨p,hp,e⟩:=LX.mp hc
 exact h (J5.mpr ⟨p,hp,by simpa using e⟩)
theorem jI{K:Type}[DecidableEq K]:∀(more acc:List (K×Mu)),((acc++more).map (·.1)).Nodup->merged acc more=acc++more
 |[],acc,_=>by simp[merged]
 |p::r,acc,h=>by
  show merged (stored acc p.1 p.2) r=_
  have hnot:p.1∉acc.map (·.1):=fun hm=>by
   rw[Kc,List.nodup_append]at h
   exact h.2.2 _ hm _ (by simp) rfl
  rw[pE hnot,jI r (acc++[(p.1,p.2)]) (by simpa using h)]
  simp
def Gk{α β:Type}(R:α->β->Prop)(l:List α)(m:List β):Prop:=match m with
 |[]=>l=[]
 |y::m=>∃x l',l=x::l'/\R x y/\All2 R l' m
theorem All2.inv{α β:Type}{R:α->β->Prop}{l:List α}{m:List β}(r:All2 R l m):Gk R l m:=by
 cases r with
 |nil=>exact rfl
 |cons a t=>exact⟨_,_,rfl,a,t⟩
theorem oR{K:Type}[DecidableEq K]{knd:KeyKind X.prog X.w K}{κ:Type}{f:κ->K}{ks:List κ}{ps:List (Mu×Mu)}(h:All2 (fun k x=>knd.is (f k) x=true) ks (ps.map (·.1))):Carries knd ps ((ks.map f).zip (ps.map (·.2))):=by
 induction ps generalizing ks with
 |nil=>have e:ks=[]:=h.inv;subst e;trivial
 |cons p ps ih=>
  obtain⟨k,ks',e,a,t⟩:∃x l',ks=x::l'/\knd.is (f x) p.1=true/\All2 (fun k x=>knd.is (f k) x=true) l' (List.map (fun x:Mu×Mu=>x.1) ps):=h.inv
  subst e
  exact⟨a,rfl,ih t⟩
theorem All2.length{α β:Type}{R:α->β->Prop}{l:List α}{m:List β}(r:All2 R l m):l.length=m.length:=
 All2.rec (motive:=fun(l:List α) (m:List β) _=>l.length=m.length) rfl (fun _ _ e=>congrArg Nat.succ e) r
theorem nB{κ K:Type}[DecidableEq κ][DecidableEq K]{f:κ->K}(hf:∀a b,f a=f b->a=b)(q:κ)(ks:List κ):∀vs:List Mu,valueAt ((ks.map f).zip vs) (f q)=dJ q (ks.zip vs):=by
 induction ks with
 |nil=>exact fun _=>rfl
 |cons k ks ih=>
  intro vs
  cases vs with
  |nil=>rfl
  |cons v vs=>
   show Option.map _ (List.find? _ ((f k,v)::(ks.map f).zip vs))=if k=q then some v else dJ q (ks.zip vs)
   rw[List.find?_cons]
   by_cases hk:k=q
   ·rw[if_pos hk,hk,Kt rfl];rfl
   ·rw[if_neg hk,Kg fun z=>hk (hf _ _ z)];exact ih vs
theorem wx{K κ:Type}[DecidableEq K][DecidableEq κ]{knd:KeyKind X.prog X.w K}{f:κ->K}(hf:∀a b,f a=f b->a=b){r:List (Mq×Mq)}{kv vs:List V}{ks:List κ}{pos:Pos}{Q:Mu->Ms->Prop}(N:aO X env sc lo m om st al F s)
  (hr:db X sc r kv vs) (h0:r≠[]) (hlen:r.length<=15) (hnd:ks.Nodup) (hc:∀{xs:List Mu},ag X al (fun a=>F a∨a=s.heap.objs.size) (s.heap.push {cls:=.type "dict",data:=.dict #[]}) kv xs->All2 (fun k x=>knd.is (f k) x=true) ks xs)
  (go:∀h' t ys,(∀b o,s.heap.get? b=some o->h'.get? b=some o)->(h'.MapOf knd s.heap.objs.size (valueAt ((ks.map f).zip ys)))->(∀q,valueAt ((ks.map f).zip ys) (f q)=dJ q (ks.zip ys))->ks.length=ys.length->ag X al F h' vs ys->Q (.ref s.heap.objs.size) {s with heap:=h',toks:=t}):
  wpAny (model X.prog X.w) A (eval (.Dict (r.map fun p=>some p.1) (r.map (·.2)) pos) env) Q E s:=by
 have N':aO X env sc lo m om st al (fun a=>F a∨a=s.heap.objs.size) {s with heap:=s.heap.push {cls:=.type "dict",data:=.dict #[]},toks:=s.toks}:=N.more (af _) (fun a=>a=s.heap.objs.size) (fun a z=>by subst z;exact⟨av _,⟨_,J8 _ rfl⟩⟩)
 refine wpAny_Dict_pairs (knd:=knd) (pairs:=r.map fun p=>(eval p.1 env,do let x ←eval p.2 env;standAt pos;pure x)) (nL r) (mt List.map_eq_nil_iff.mp h0) (by rw[JQ];exact hlen) ?_
 refine mT hr N' fun ps t ht R1 R2=>?_
 have hz:=hc R1
 have hl:ks.length=(ps.map (·.2)).length:=hz.length.trans (by rw[JQ,JQ])
 have hd:Heap.DictOf knd (s.heap.push {cls:=.type "dict",data:=.dict #[]}) s.heap.objs.size []:=⟨_, #[],0,J8 _ rfl,⟨rfl,rfl,rfl⟩,rfl,fun _ he=>by simp at he,.nil,List.nodup_nil⟩
 refine⟨_,oR hz,hd,fun h' hd' hs=>?_⟩
 rw[jI _ [] (by
  rw[KM,Mn (by rw[JQ,hl];exact JL _)]
  exact List.pairwise_map.mpr (hnd.imp fun hne e=>hne (hf _ _ e))),KM]at hd'
 exact go _ _ _ (fun b o e=>(hs.2 b (fun z=>av s.heap (z▸⟨o,e⟩))).trans (af _ _ _ e)) hd'.mapOf (fun q=>nB hf q ks _) hl (R2.pre (fun b o e nf _=>⟨(hs.2 b (fun z=>nf (.inr z))).trans e,fun z=>nf (.inl z)⟩) fun _ _ e=>e)
theorem gg(I:bT X mu al F h)(hsm:X.B.get? sysModules≠none):(h.objs.size==sysModules)=false:=KA.mpr fun z=>by
 cases e:X.B.get? sysModules with
 |none=>exact hsm e
 |some o=>exact av h (z▸⟨o,I.stays _ _ e⟩)
theorem Cl{r:List (Mq×Mq)}{ks vs:List V}{pos:Pos}(hr:db X sc r ks vs)(h0:r≠[])(hlen:r.length<=15)(hnd:(∀ss,cz ks=some ss->ss.Nodup)/\∀is,mN ks=some is->is.Nodup)(hsm:X.B.get? sysModules≠none):
  ah X n sc (.Dict (r.map fun p=>some p.1) (r.map (·.2)) pos) (.dct ks vs):=fun env A s lo st m om al F kk ke am N h=>
 els_ok h (fun ss es h=>wx (knd:=strKind X.prog X.w) (f:=ST) (fun _ _=>nh.mp) N hr h0 hlen (hnd.1 ss es) (fun R=>gR (f:=asStr) (fun v x a e R=>by obtain⟨t,rfl⟩:=R.asStr e;exact strKind_is _ _ _ _) R es)
   fun h' t ys hk hm hq hl R=>aP N h hk (.dS ⟨gg N.inv hsm,_,hm,hq⟩ N.new hl R))
  fun h=>ad h fun is es h=>wx (knd:=intKind X.prog X.w) (f:=id) (fun _ _ e=>e) N hr h0 hlen (hnd.2 is es) (fun R=>gR (f:=asInt) (fun v x a e R=>by obtain⟨t,rfl⟩:=R.asInt e;exact intKind_is _ _ _ _) R es)
   fun h' t ys hk hm hq hl R=>aP N h hk (.dI ⟨gg N.inv hsm,_,hm,hq⟩ N.new hl R)
theorem zf{pos:Pos}(hsm:X.B.get? sysModules≠none):ah X n sc (.Dict [] [] pos) (.dct [] []):=fun env A s lo st m om al F kk ke am N h=>
 wpAny_Dict_empty (aP N h (af _) (.dS (ks:=[]) (vs:=[]) ⟨gg N.inv hsm,_,Heap.MapOf.new (knd:=strKind X.prog X.w) s.heap,fun _=>rfl⟩ N.new rfl .nil))
theorem ok_bX{b:BI}{id:Str}{v:da}{func:Mq}{pos npos:Pos}{me:ME}{f:V->(V->Pg)->Pg}{g:List V->V}(hv:v∈sc.vis)(hn:v.name=id)(hd:(id==("__debug__":Str))=false)(hcd:(id==("__classdict__":Str))=false)
  (hme:∀k ke st,ev me (.v k) ke st=mL st.loc[v.slot]? (fun y=>f y fun y=>k y st) fun l=>.ask (l.length<=lim) (k (g l) st))
  (hval:∀{env A s lo st m om al F y x} {k:V->St->Pg} {E:Mu->Ms->Prop},aO X env sc lo m om st al F s->Rep X al F s.heap y x->wp (Wd X n) (f y fun y=>k y st)->wpAny (model X.prog X.w) A (call (fZ b) [x]) (EP X n env sc lo m om al F s k) E s)
  (hown:∀{env A s lo st m om al F a l vs} {k:V->St->Pg} {E:Mu->Ms->Prop},aO X env sc lo m om st al F s->gU s.heap a vs->ag X al F s.heap l vs->l.length<=lim->wp (Wd X n) (k (g l) st)->wpAny (model X.prog X.w) A (call (fZ b) [.ref a]) (EP X n env sc lo m om al F s k) E s)
  (hf:ah X n sc func (.c (.bi b))) (hC:∀env,eval (.Call func [.Name id npos] [] pos) env=(do callWith pos (←eval func env) [] (backTo pos (starEach [.Name id npos] env)) (backToKw pos (keywordEach [] env)))):
  ah X n sc (.Call func [.Name id npos] [] pos) me:=fun env A s lo st m om al F kk ke am N h=>by
 rw[hC]
 rw[hme]at h
 refine JJ (aC hf am N (k:=fun v st'=>.hold (v=.bi b/\st'=st)) (ke:=ke) (fun _ _ x=>x) ⟨rfl,rfl⟩ fun f fv sti ali F₁ s₁ hh Ri b₁ Ni a₁=>?_)
 obtain⟨rfl,rfl⟩:=hh
 obtain rfl:=Ri.inv
 refine callWith_of (P:=fun _=>True) rfl (fun h _=>(oj (X:=X) (h:=h) b).casesOn fun k e l=>⟨k,e,l⟩) ?_
 show wpAny _ _ (evalArgs _ true ((false,eval (.Name id npos) env)::backTo pos (starEach [] env)) []) _ _ _
 refine evalArgs_plain (args_cons (e:=.Name id npos) ?_ rfl)
 refine mK h (fun y hl h=>?_) fun l hl h=>?_
 ·refine aC (jE hv hn hd hcd) a₁ Ni (k:=fun v' st'=>.hold (v'=y/\st'=sti)) (ke:=ke) (fun _ _ x=>x.from b₁) ?_ fun v' vx stz alz F₂ s₂ hh RZ b₂ Nz a₂=>?_
  ·show wp _ (mL sti.loc[v.slot]? _ _)
   rw[hl];exact⟨rfl,rfl⟩
  ·obtain⟨rfl,rfl⟩:=hh
   exact args_nil ⟨trivial,J0 (hval Nz RZ h) (fun _ _ x=>x.from (b₁.trans b₂)) fun _ _ x=>x⟩
 ·subst hn
  have q:=Ni.fr.vars v hv
  rw[hl]at q
  obtain⟨hc,vs,e1,e2,e3,e4,e5,e6,e7⟩:=q
  exact Lq (K6 Ni.fr.kind (dK hc (Ni.fr.names v hv)) Ni.fr.ns e1 (args_nil ⟨trivial,J0 (hown Ni e2 e3 h.1 h.2) (fun _ _ x=>x.from b₁) fun _ _ x=>x⟩)) hd
theorem zd{id:Str}{v:da}{func:Mq}{pos npos:Pos}(hv:v∈sc.vis)(hn:v.name=id)(hd:(id==("__debug__":Str))=false)(hcd:(id==("__classdict__":Str))=false)
  (hf:ah X n sc func (.c (.bi .len))) (hC:∀env,eval (.Call func [.Name id npos] [] pos) env=(do callWith pos (←eval func env) [] (backTo pos (starEach [.Name id npos] env)) (backToKw pos (keywordEach [] env)))):
  ah X n sc (.Call func [.Name id npos] [] pos) (.lenX v.slot):=
 ok_bX (g:=fun l=>.int l.length) hv hn hd hcd (fun _ _ _=>rfl) (fun N R h=>vA N R h) (fun N t r hl h=>call_len_list t.is (by rw[JR, ←r.length];exact oa hl) (by rw[JR, ←r.length];exact az N h (.int _ _))) hf hC
theorem y9{id:Str}{v:da}{func:Mq}{pos npos:Pos}(hv:v∈sc.vis)(hn:v.name=id)(hd:(id==("__debug__":Str))=false)(hcd:(id==("__classdict__":Str))=false)
  (hf:ah X n sc func (.c (.bi .tuple))) (hC:∀env,eval (.Call func [.Name id npos] [] pos) env=(do callWith pos (←eval func env) [] (backTo pos (starEach [.Name id npos] env)) (backToKw pos (keywordEach [] env)))):
  ah X n sc (.Call func [.Name id npos] [] pos) (.tupX v.slot):=
 ok_bX (g:=.tup) hv hn hd hcd (fun _ _ _=>rfl) (fun N R h=>qO N R h) (fun N t r hl h=>qM N t r hl h) hf hC
end
section
noncomputable def A3(X:Cx)(al:List (Mt×Mt))(F:Mt->Prop)(h:Heap):Fl->Flow->Prop
 | .next,.next=>True
 | .ret v,.ret y=>Rep X al F h v y
 |_,_=>False
inductive FP(X:Cx)(n:Nat)(A:Around)(env:Env)(sc:Sc)(alo:List (Mt×Mt))(F₀:Mt->Prop)(s₀:Ms)(k:KF)(f:Flow)(s':Ms):Prop
 |mk (fl:Fl) (st':St) (al':List (Mt×Mt)) (F':Mt->Prop) (m':Str->Option Mu) (om':Nat->Mt) (h:wp (Wd X n) (k fl st')) (R:A3 X al' F' s'.heap fl f) (b:aT X (ae s₀.heap) alo F₀ s₀ al' F' s') (N:aO X env sc (ae s₀.heap) m' om' st' al' F' s') (a:bI X A n s')
inductive XS(X:Cx)(n:Nat)(A:Around)(env:Env)(sc:Sc)(alo:List (Mt×Mt))(F₀:Mt->Prop)(s₀:Ms)(k:KE)(e:Mu)(s':Ms):Prop
 |mk (c:Nat) (st':St) (al':List (Mt×Mt)) (F':Mt->Prop) (m':Str->Option Mu) (om':Nat->Mt) (h:wp (Wd X n) (k c st')) (R:gi X c e st'.mu al' F' s'.heap s₀.heap) (b:aT X (ae s₀.heap) alo F₀ s₀ al' F' s') (N:aO X env sc (ae s₀.heap) m' om' st' al' F' s') (a:bI X A n s')
inductive Top(A:Around)(env:Env):Prop
 |mk (outer:List Env) (L:Mt) (e:A.frames=some (env::outer)) (f:env.frame=some L)
structure bE(X:Cx)(n:Nat)(A:Around)(env:Env)(sc:Sc)(alo:List (Mt×Mt))(F₀:Mt->Prop)(s₀:Ms)(m:Str->Option Mu)(om:Nat->Mt)(st:St)(al:List (Mt×Mt))(F:Mt->Prop)(s:Ms):Prop where
 own:¬ae s₀.heap env.locals/\Top A env
 amb:bI X A n s
 now:aO X env sc (ae s₀.heap) m om st al F s
 aft:aT X (ae s₀.heap) alo F₀ s₀ al F s
def bv(X:Cx)(n:Nat)(sc:Sc)(t:Stmt)(ms:MS):Prop:=
 ∀env A alo F₀ s₀ s st m om al F kf ke,bE X n A env sc alo F₀ s₀ m om st al F s->wp (Wd X n) (ex ms kf ke st)->wpAny (model X.prog X.w) A (exec t env) (FP X n A env sc alo F₀ s₀ kf) (XS X n A env sc alo F₀ s₀ ke) s
def bH(X:Cx)(n:Nat)(sc:Sc)(t:List Stmt)(ms:List MS):Prop:=
 ∀env A alo F₀ s₀ s st m om al F kf ke,bE X n A env sc alo F₀ s₀ m om st al F s->wp (Wd X n) (aS ms kf ke st)->wpAny (model X.prog X.w) A (execs t env) (FP X n A env sc alo F₀ s₀ kf) (XS X n A env sc alo F₀ s₀ ke) s
section
variable {al:List (Mt×Mt)}
theorem bE.step(p:bE X n A env sc alo F₀ s₀ m om st al F s){st':St}(b:aT X (ae s₀.heap) al F s al' F' s₁)(N:aO X env sc (ae s₀.heap) m om st' al' F' s₁)(a:bI X A n s₁):bE X n A env sc alo F₀ s₀ m om st' al' F' s₁:=⟨p.own,a,N,p.aft.trans b⟩
theorem bE.next(p:bE X n A env sc alo F₀ s₀ m om st al F s)(hk:wp (Wd X n) (kf .next st)):FP X n A env sc alo F₀ s₀ kf .next s:=⟨.next,st,al,F,m,om,hk,trivial,p.aft,p.now,p.amb⟩
theorem bE.ret(p:bE X n A env sc alo F₀ s₀ m om st al F s){r:V}{v:Mu}(hk:wp (Wd X n) (kf (.ret r) st))(R:Rep X al F s.heap r v):FP X n A env sc alo F₀ s₀ kf (.ret v) s:=⟨.ret r,st,al,F,m,om,hk,R,p.aft,p.now,p.amb⟩
theorem bE.xs(p:bE X n A env sc alo F₀ s₀ m om st al F s){v:Mu}(u:Up s s₁)(x:XP X n env sc (ae s₀.heap) m om al F s ke v s₁):XS X n A env sc alo F₀ s₀ ke v s₁:=by
 obtain⟨c,st',al',F',hk,fl,b,N⟩:=x
 exact⟨c,st',al',F',m,om,hk,fl.based p.aft.tr.live,p.aft.trans b,N,p.amb.aft p.now.inv b u⟩
theorem c8{e:Mq}{me:ME}{k:V->St->Pg}{Q:Mu->Ms->Prop}(he:ah X n sc e me)(p:bE X n A env sc alo F₀ s₀ m om st al F s)(h:wp (Wd X n) (ev me (.v k) ke st))
  (go:∀r v st' al' F' s',wp (Wd X n) (k r st')->Rep X al' F' s'.heap r v->aT X (ae s₀.heap) al F s al' F' s'->bE X n A env sc alo F₀ s₀ m om st' al' F' s'->Q v s'):
  wpAny (model X.prog X.w) A (eval e env) Q (XS X n A env sc alo F₀ s₀ ke) s:=
 wpAny_up (J0 (he env A s _ st m om al F k ke p.amb p.now h) (fun v s' qz u=>qz.casesOn fun r st' al' F' hk R b N'=>go r v st' al' F' s' hk R b (p.step b N' (p.amb.aft p.now.inv b u))) fun v s' x u=>p.xs u x)
theorem Ae{e:Mq}{me:ME}{k:Bool->St->Pg}{Q:Bool->Ms->Prop}(he:bN X n sc e me)(p:bE X n A env sc alo F₀ s₀ m om st al F s)(h:wp (Wd X n) (ev me (.b k) ke st))
  (go:∀b st' al' F' s',wp (Wd X n) (k b st')->bE X n A env sc alo F₀ s₀ m om st' al' F' s'->Q b s'):
  wpAny (model X.prog X.w) A (isTrue e env (eval e env)) Q (XS X n A env sc alo F₀ s₀ ke) s:=
 wpAny_up (J0 (he env A s _ st m om al F k ke p.amb p.now h) (fun t s' qz u=>qz.casesOn fun st' al' F' hk b N'=>go t st' al' F' s' hk (p.step b N' (p.amb.aft p.now.inv b u))) fun v s' x u=>p.xs u x)
theorem yu:bH X n sc [] []:=fun env A alo F₀ s₀ s st m om al F kf ke p h=>Lo (p.next (h))
theorem uj{t:Stmt}{ts:List Stmt}{ms:MS}{mss:List MS}(ht:bv X n sc t ms)(hts:bH X n sc ts mss):bH X n sc (t::ts) (ms::mss):=fun env A alo F₀ s₀ s st m om al F kf ke p h=>by
 refine Ll (J0 (ht env A alo F₀ s₀ s st m om al F _ ke p h) (fun f s' qz=>qz.casesOn fun fl st' al' F' m' om' hk R b N a=>?_) fun _ _ x=>x)
 cases f with
 |next=>cases fl with
  |next=>exact hts env A alo F₀ s₀ s' st' m' om' al' F' kf ke ⟨p.own,a,N,b⟩ hk
  |ret v=>exact R.elim
 |ret v=>cases fl with
  |next=>exact R.elim
  |ret v=>exact⟨.ret v,st',al',F',m',om',hk,R,b,N,a⟩
 |_=>cases fl<;>exact R.elim
def cY(e:Mq):Prop:=∀t l env,swapsWith e t l env=pure false
theorem aO.notInteractive(N:aO X env sc (ae s₀.heap) m om st al F s):interactive env=false:=by
 unfold interactive;rw[N.fr.kind];rfl
theorem yD{e:Mq}{me:ME}{pos:Pos}(he:ah X n sc e me)(hn:cY e):bv X n sc (.Expr e pos) (.expr me):=fun env A alo F₀ s₀ s st m om al F kf ke p h=>by
 exact L8 (c8 he p h fun r v st' al' F' s' hk R b q=>q.next hk) p.now.notInteractive (hn _ _ _)
theorem BE{e:Mq}{me:ME}{pos:Pos}(he:ah X n sc e me):bv X n sc (.Return (some e) pos) (.ret me):=fun env A alo F₀ s₀ s st m om al F kf ke p h=>by
 exact Mi (c8 he p h fun r v st' al' F' s' hk R b q=>q.ret hk R)
theorem BG{c:Mq}{mc:ME}{a b:List Stmt}{ma mb:List MS}{pos:Pos}(hc:bN X n sc c mc)(ha:bH X n sc a ma)(hb:bH X n sc b mb):bv X n sc (.If c a b pos) (.ite mc ma mb):=fun env A alo F₀ s₀ s st m om al F kf ke p h=>by
 refine wpAny_If (Ae hc p h fun t st' al' F' s' hk q=>?_)
 exact Bool.rec (motive:=fun t=>wp (Wd X n) (cond t (aS ma kf ke st') (aS mb kf ke st'))->ite (t=true) _ _) (hb env A alo F₀ s₀ s' st' m om al' F' kf ke q) (ha env A alo F₀ s₀ s' st' m om al' F' kf ke q) t hk
theorem cU{x:da}{v:Mu}{r:V}{Q:Unit->Ms->Prop}{E:Mu->Ms->Prop}(hok:sc.Ok)(hx:x∈sc.vis)(hc:x.cell=false)(p:bE X n A env sc alo F₀ s₀ m om st al F s)(R:Rep X al F s.heap r v)
  (go:∀m' h',(∀b o,b≠env.locals->s.heap.get? b=some o->h'.get? b=some o)->bE X n A env sc alo F₀ s₀ m' om (st.put x.slot (.val r)) al F {s with heap:=h',toks:=s.toks+1}->Q () {s with heap:=h',toks:=s.toks+1}):
  wpAny (model X.prog X.w) A (bindName env x.name v) Q E s:=
 bind_ok hok hx hc p.aft p.own.1 p.now R fun h' hk hl hcls N b=>go _ h' hk ⟨p.own,p.amb.bound hk hcls,N,b⟩
theorem BJ{x:da}{id:Str}{e:Mq}{me:ME}{pos pos':Pos}(hok:sc.Ok)(hx:x∈sc.vis)(hc:x.cell=false)(hid:x.name=id)(he:ah X n sc e me)(hn:cY e):bv X n sc (.Assign [.Name id pos'] e pos) (.asg x.slot me):=fun env A alo F₀ s₀ s st m om al F kf ke p h=>by
 subst hid
 rw[exec_Assign_Name env _ _ _ _ (hn _ _ _)]
 refine JJ (Kf (JJ (c8 he p h fun r v st' al' F' s' hk R b q=>?_)))
 refine JJ (Kf (JJ (cU hok hx hc q R fun m' h' hk' q'=>JO (q'.next hk))))
end
end
section
variable {al:List (Mt×Mt)}
theorem XS.no{v:Mu}{s':Ms}{P:Prop}(x:XS X n A env sc alo F₀ s₀ fQ v s'):P:=x.casesOn fun _ _ _ _ _ _ f _ _ _ _=>f.elim
inductive Jp(X:Cx)(n:Nat)(A:Around)(env:Env)(sc:Sc)(alo:List (Mt×Mt))(F₀:Mt->Prop)(s₀:Ms)(f:(St->Pg)->St->Pg)(j:Nat)(s:Ms):Prop
 |mk (m:Str->Option Mu) (om:Nat->Mt) (st:St) (al:List (Mt×Mt)) (F:Mt->Prop) (p:bE X n A env sc alo F₀ s₀ m om st al F s) (h:wp (Wd X n) (qL f j st))
theorem BD{c:Mq}{mc:ME}{b:List Stmt}{mb:List MS}{pos:Pos}(hc:bN X n sc c mc)(hb:bH X n sc b mb):bv X n sc (.While c b [] pos) (.whl mc mb):=fun env A alo F₀ s₀ s st m om al F kf ke p h=>by
 obtain⟨n0,h0⟩:=h
 refine wpAny_While (codeAny_whileLoop (Jp X n A env sc alo F₀ s₀ _) (fun j s hI=>?_) n0 ⟨m,om,st,al,F,p,h0⟩)
 clear h0 p
 obtain⟨m,om,st,al,F,p,hI⟩:=hI
 cases j with
 |zero=>exact hI.elim
 |succ j=>
  refine J0 (Ae hc p hI fun t st' al' F' s' hk q=>Bool.rec (motive:=fun t=>wp (Wd X n) (cond t _ (kf .next st'))->ite (t=true) _ _) (fun hk=>Lo (q.next hk)) (fun hk=>?_) t hk) (fun _ _ x=>x) fun _ _ x=>x.no
  refine J0 (hb env A alo F₀ s₀ s' st' m om al' F' _ _ q hk) (fun f s₃ qz=>qz.casesOn fun fl st3 al3 F3 m3 om3 hk3 R b3 N3 a3=>?_) fun _ _ x=>x.no
  cases f with
  |next=>cases fl with
   |next=>exact⟨j,LB j,m3,om3,st3,al3,F3,⟨p.own,a3,N3,b3⟩,hk3⟩
   |ret v=>exact R.elim
  |ret v=>cases fl with
   |next=>exact R.elim
   |ret v=>exact⟨.ret v,st3,al3,F3,m3,om3,hk3,R,b3,N3,a3⟩
  |_=>cases fl<;>exact R.elim
open Classical in
noncomputable def ou(h₀:Heap)(F ex:Mt->Prop)(h:Heap):List Mt:=(List.range h.objs.size).filter fun a=>decide (¬ae h₀ a/\F a/\¬ex a)
noncomputable def cR(s₀ s:Ms)(F ex:Mt->Prop):Ms:={s with heap:=hideAll s.heap (ou s₀.heap F ex s.heap)}
theorem m8{a:Mt}{o:Obj}(e:(cR s₀ s F exm).heap.get? a=some o):s.heap.get? a=some o:=of_hideAll _ e
theorem lf{h₀:Heap}{a:Mt}:a∈ou h₀ F exm h↔a < h.objs.size/\¬ae h₀ a/\F a/\¬exm a:=by
 simp[ou,La]
theorem fy{a:Mt}{o:Obj}(e:s.heap.get? a=some o)(c:ae s₀.heap a∨¬F a∨exm a):(cR s₀ s F exm).heap.get? a=some o:=by
 refine hideAll_get _ e fun hm=>?_
 obtain⟨_,h1,h2,h3⟩:=lf.mp hm
 rcases c with c|c|c
 ·exact h1 c
 ·exact c h2
 ·exact h3 c
theorem ik{a:Mt}(l:ae (cR s₀ s F exm).heap a):ae s.heap a/\(ae s₀.heap a∨¬F a∨exm a):=by
 obtain⟨o,e⟩:=l
 refine⟨⟨o,m8 e⟩,?_⟩
 apply Classical.byContradiction
 intro hn
 have h1:¬ae s₀.heap a:=fun z=>hn (.inl z)
 have h2:F a:=Classical.byContradiction fun z=>hn (.inr (.inl z))
 have h3:¬exm a:=fun z=>hn (.inr (.inr z))
 have:=hideAll_none (ou s₀.heap F exm s.heap) (h:=s.heap) (b:=a) (lf.mpr ⟨Heap.lt_size (m8 e),h1,h2,h3⟩)
 have e:(hideAll s.heap (ou s₀.heap F exm s.heap)).get? a=some o:=e
 rw[this]at e;cases e
structure JF(env:Env)(sc:Sc)(exm:Mt->Prop)(om:Nat->Mt)(st:St)(h:Heap):Prop where
 loc:¬exm env.locals
 own:∀x∈sc.vis,∀l,st.loc[x.slot]? =some (.own l)->¬exm (om x.slot)
 cell:∀c,h.get? c=some bz->¬exm c
theorem bE.rebase(p:bE X n A env sc alo F₀ s₀ m om st al F s)(e:JF env sc exm om st s.heap):bE X n A env sc al F (cR s₀ s F exm) m om st al F s:=by
 have R:=p.now.fr
 obtain⟨oL,es,ep,l1,l2,l3,l4,l5,l6⟩:=R.locs
 have nl:∀{a},F a->¬ae s₀.heap a->¬exm a->¬ae (cR s₀ s F exm).heap a:=fun f l x z=>by
  rcases(ik z).2 with z|z|z
  ·exact l z
  ·exact z f
  ·exact x z
 refine⟨⟨nl l6 p.own.1 e.loc,p.own.2⟩,p.amb,⟨p.now.inv,R.kind,R.glob,R.bl,⟨oL,es,ep,l1,l2,l3,l4,nl l6 p.own.1 e.loc,l6⟩,fun a l=>(ik l).1,R.ns,R.gls,R.names,fun x hx=>?_,R.code,R.owns⟩,?_⟩
 ·have q:=R.vars x hx
  exact q.imp (fun _ z=>z) (fun _ z=>z) (fun l hr z=>z.casesOn fun hc vs e1 e2 e3 e4 e5 e6 e7=>⟨hc,vs,e1,e2,e3,e4,e5,e6,nl e4 e7 (e.own x hx l hr)⟩) fun hc z=>z.casesOn fun c e1 e2 e3 e4 e5 e6=>⟨c,e1,e2,e3,e4,e5,fun hm=>⟨nl e3 (e6 hm).1 (e.cell c e2),(e6 hm).2⟩⟩
 ·exact⟨⟨fun a l=>(ik l).1,fun a o q _ _=>⟨o,m8 q,.refl o⟩,fun _ q=>.inl q⟩,⟨[],by simp,fun _ m=>nm m⟩,fun _ _ q=>q,s.toks,rfl⟩
theorem bE.unbase(p:bE X n A env sc alo F₀ s₀ m om st al F s){m':Str->Option Mu}{om':Nat->Mt}{st':St}(q:bE X n A env sc al F (cR s₀ s F exm) m' om' st' al' F' s₁):bE X n A env sc alo F₀ s₀ m' om' st' al' F' s₁:=by
 have up:∀{a},ae s₀.heap a->ae (cR s₀ s F exm).heap a:=fun{a} l=>(p.aft.tr.live a l).casesOn fun o e=>⟨o,fy e (.inl l)⟩
 have aft:aT X (ae s₀.heap) alo F₀ s₀ al' F' s₁:=by
  refine⟨⟨fun a l=>q.aft.tr.live a (up l),fun a o e h1 h2=>?_,fun a h=>?_⟩,?_,fun a l f=>q.aft.mono a (up l) (p.aft.mono a l f),?_⟩
  ·obtain⟨o',e',z⟩:=p.aft.tr.keep a o e h1 h2
   have hn:a∉cells al:=fun hm=>by
    obtain⟨more,rfl,hmore⟩:=p.aft.ext
    simp only[cells,Kc,Ki]at hm
    rcases hm with hm|hm
    ·exact h1 hm
    ·obtain⟨p',hp,rfl⟩:=J5.mp hm
     exact hmore p' hp ⟨o,e⟩
   obtain⟨o'',e'',z'⟩:=q.aft.tr.keep a o' (fy e' (.inl ⟨o,e⟩)) hn h2
   exact⟨o'',e'',z.trans z'⟩
  ·rcases q.aft.tr.hot a h with f|l
   ·exact p.aft.tr.hot a f
   ·exact .inr fun z=>l (up z)
  ·obtain⟨more,e,hmore⟩:=p.aft.ext
   obtain⟨more',e',hmore'⟩:=q.aft.ext
   refine⟨more++more',by rw[e',e,JK],fun p' hp=>?_⟩
   rcases Ki.mp hp with hp|hp
   ·exact hmore p' hp
   ·exact fun z=>hmore' p' hp (up z)
  ·obtain⟨t,e⟩:=p.aft.rest
   obtain⟨t',e'⟩:=q.aft.rest
   exact⟨t',by rw[e'];show({cR s₀ s F exm with heap:=_,toks:=_}:Ms)=_;unfold cR;rw[e]⟩
 have R:=q.now.fr
 obtain⟨oL,es,ep,l1,l2,l3,l4,l5,l6⟩:=R.locs
 refine⟨p.own,q.amb,⟨q.now.inv,R.kind,R.glob,R.bl,⟨oL,es,ep,l1,l2,l3,l4,p.own.1,l6⟩,aft.tr.live,R.ns,R.gls,R.names,fun x hx=>?_,R.code,R.owns⟩,aft⟩
 have z:=R.vars x hx
 exact z.imp (fun _ z=>z) (fun _ z=>z) (fun l _ z=>z.casesOn fun hc vs e1 e2 e3 e4 e5 e6 e7=>⟨hc,vs,e1,e2,e3,e4,e5,e6,fun y=>e7 (up y)⟩) fun _ z=>z.casesOn fun c e1 e2 e3 e4 e5 e6=>⟨c,e1,e2,e3,e4,e5,fun hm=>⟨fun y=>(e6 hm).1 (up y),(e6 hm).2⟩⟩
structure Gb(X:Cx)(exm:Mt->Prop)(al:List (Mt×Mt))(F:Mt->Prop)(h:Heap)(al':List (Mt×Mt))(F':Mt->Prop)(h':Heap):Prop where
 pre:bB h F h' F'
 ext:∀(i:Nat) (p:Mt×Mt),al[i]? =some p->al'[i]? =some p
 held:∀a o,exm a->F a->a∉cells al->a∉X.tabs->h.get? a=some o->kq o->h'.get? a=some o/\F' a/\a∉cells al'
theorem zy(p:bE X n A env sc alo F₀ s₀ m om st al F s){m':Str->Option Mu}{om':Nat->Mt}{st':St}(q:bE X n A env sc al F (cR s₀ s F exm) m' om' st' al' F' s₁):Gb X exm al F s.heap al' F' s₁.heap:=by
 refine⟨fun a o e nf nr=>q.aft.tr.at p.now.inv.hots (fy e (.inr (.inl nf))) nf nr,q.aft.idx,fun a o hx hf hc ht e nr=>?_⟩
 have e':=fy (s₀:=s₀) (F:=F) e (.inr (.inr hx))
 obtain⟨o',e2,z⟩:=q.aft.tr.keep a o e' hc ht
 rw[z.same nr]at e2
 refine⟨e2,q.aft.mono a ⟨o,e'⟩ hf,fun hm=>?_⟩
 obtain⟨more,rfl,hmore⟩:=q.aft.ext
 simp only[cells,Kc,Ki]at hm
 rcases hm with hm|hm
 ·exact hc hm
 ·obtain⟨p',hp,rfl⟩:=J5.mp hm
  exact hmore p' hp ⟨o,e'⟩
inductive KP(X:Cx)(n:Nat)(A:Around)(env:Env)(sc:Sc)(alo:List (Mt×Mt))(F₀:Mt->Prop)(s₀:Ms)(exm:Mt->Prop)(al:List (Mt×Mt))(F:Mt->Prop)(h:Heap)(kf:KF)(f:Flow)(s':Ms):Prop
 |mk (fl:Fl) (st':St) (al':List (Mt×Mt)) (F':Mt->Prop) (m':Str->Option Mu) (om':Nat->Mt) (hk:wp (Wd X n) (kf fl st')) (R:A3 X al' F' s'.heap fl f) (p:bE X n A env sc alo F₀ s₀ m' om' st' al' F' s') (k:Gb X exm al F h al' F' s'.heap)
theorem ui{b:List Stmt}{mb:List MS}(hb:bH X n sc b mb)(p:bE X n A env sc alo F₀ s₀ m om st al F s)(e:JF env sc exm om st s.heap)(h:wp (Wd X n) (aS mb kf ke st)):
  wpAny (model X.prog X.w) A (execs b env) (KP X n A env sc alo F₀ s₀ exm al F s.heap kf) (XS X n A env sc alo F₀ s₀ ke) s:=by
 have p':=p.rebase e
 refine J0 (hb env A al F _ s st m om al F kf ke p' h) (fun f s' qz=>qz.casesOn fun fl st' al' F' m' om' hk R b N a=>?_) fun v s' qz=>qz.casesOn fun c st' al' F' m' om' hk fl b N a=>?_
 ·have q:bE X n A env sc al F (cR s₀ s F exm) m' om' st' al' F' s':=⟨p'.own,a,N,b⟩
  exact⟨fl,st',al',F',m',om',hk,R,p.unbase q,zy p q⟩
 ·have q:bE X n A env sc al F (cR s₀ s F exm) m' om' st' al' F' s':=⟨p'.own,a,N,b⟩
  have q':=p.unbase q
  exact⟨c,st',al',F',m',om',hk,fl.based fun a l=>(p.aft.tr.live a l).casesOn fun o e=>⟨o,fy e (.inl l)⟩,q'.aft,q'.now,q'.amb⟩
end
section
variable {al:List (Mt×Mt)}
theorem bI.touched{I:Mt}{oI:Obj}(a:bI X A n s)(hI:s.heap.get? I=some oI)(hc:oI.cls≠ .type "frame")(hk:∀b o,b≠I->s.heap.get? b=some o->h'.get? b=some o){t:Nat}(ht:s.toks<=t):bI X A n {s with heap:=h',toks:=t}:=by
 obtain⟨h0,h1,h2,h3,l,h4,h5⟩:=a
 refine⟨EM h0 ht,h1,h2,h3,l,h4,fun e he=>?_⟩
 obtain⟨k,L',o,es,ep,e1,e2,e3,e4,e5⟩:=h5 e he
 exact⟨k,L',o,es,ep,e1,hk L' o (fun z=>by subst z;rw[hI]at e2;cases e2;exact hc e3) e2,e3,e4,e5⟩
theorem EA{target:Mq}{I:Mt}{v:Mu}{o:Obj}{Q:Unit->Ms->Prop}{E:Mu->Ms->Prop}(e:s.heap.get? I=some o)(g:A0 o)(h:Q () s):wpAny (model X.prog X.w) A (letOwnedTupleGo target (.ref I) v) Q E s:=by
 obtain⟨T,hc,hT⟩:=g
 obtain⟨c,d,dt,sl⟩:=o
 cases hc
 have k:letOwnedTupleGo target (.ref I) v=pure ()∨letOwnedTupleGo target (.ref I) v=letOwnedTupleGo (.List [] target.pos) (.ref I) v:=by cases target<;>first|exact .inl rfl|exact .inr rfl
 rcases k with k|k
 ·rw[k];exact JO h
 ·rw[k]
  cases v<;>try exact JO h
  refine JJ (wpAny_load e ?_)
  cases dt<;>try exact JO h
  dsimp only
  rw[hT,Bool.false_and]
  exact JO h
def A6(X:Cx)(n:Nat)(sc:Sc)(target:Mq)(mb:List MS)(f:V->KF->St->Pg):Prop:=
 ∀env A alo F₀ s₀ s st m om al F w v kf (Q:Unit->Ms->Prop) (E:Mu->Ms->Prop),bE X n A env sc alo F₀ s₀ m om st al F s->Rep X al F s.heap w v->wp (Wd X n) (f w kf st)->
  (∀m' h' tk st',(∀b o,b≠env.locals->s.heap.get? b=some o->h'.get? b=some o)->bE X n A env sc alo F₀ s₀ m' om st' al F {s with heap:=h',toks:=tk}->wp (Wd X n) (aS mb kf fQ st')->Q () {s with heap:=h',toks:=tk})->
  wpAny (model X.prog X.w) A (assign target env v) Q E s
inductive JE(X:Cx)(n:Nat)(A:Around)(env:Env)(sc:Sc)(alo:List (Mt×Mt))(F₀:Mt->Prop)(s₀:Ms)(kf:KF)(f:V->KF->St->Pg)(vs:List V)(I:Mt)(fp:List Mt)(St':Nat->Heap->Prop)(ali:List (Mt×Mt))(F₁:Mt->Prop)(s₁:Ms)(j:Nat)(s:Ms):Prop
 |mk (i:Nat) (st:St) (m:Str->Option Mu) (om:Nat->Mt) (al:List (Mt×Mt)) (F:Mt->Prop) (e:j=vs.length - i) (hi:i<=vs.length) (hf:wp (Wd X n) (fT f (vs.drop i) kf st)) (p:bE X n A env sc alo F₀ s₀ m om st al F s) (hS:St' i s.heap) (hIF:F I) (hIc:I∉cells al) (hpre:bB s₁.heap F₁ s.heap F) (hext:∀(i:Nat) (p:Mt×Mt),ali[i]? =some p->al[i]? =some p) (hcool:∀b∈fp,b≠I->¬F b)
theorem v7{target:Mq}{b:List Stmt}{mb:List MS}{f:V->KF->St->Pg}{vs:List V}{I:Mt}{fp:List Mt}{P:Nat->Mu->Prop}{St':Nat->Heap->Prop}{R:Result->Ms->Prop}
  (hb:bH X n sc b mb) (hT:A6 X n sc target mb f) (hit:xK X ali F₁ s₁.heap A vs I fp P St') (hI0:¬ae s₀.heap I) (hIt:I∉X.tabs)
  (hR:∀fl s',FP X n A env sc alo F₀ s₀ kf fl s'->R (.ok fl) s')
  {i:Nat} (hi:i<=vs.length) (hf:wp (Wd X n) (fT f (vs.drop i) kf st)) (p:bE X n A env sc alo F₀ s₀ m om st al F s) (hS:St' i s.heap) (hIF:F I) (hIc:I∉cells al) (hpre:bB s₁.heap F₁ s.heap F) (hext:∀(i:Nat) (p:Mt×Mt),ali[i]? =some p->al[i]? =some p) (hcool:∀b∈fp,b≠I->¬F b):
  codeAny (model X.prog X.w) A (.forLoop target (.ref I) b [] env) R s:=by
 refine codeAny_forLoop_any (JE X n A env sc alo F₀ s₀ kf f vs I fp St' ali F₁ s₁)
  (fun j s hJ=>?_) _ ⟨i,st,m,om,al,F,rfl,hi,hf,p,hS,hIF,hIc,hpre,hext,hcool⟩
 clear hi hf p hS hIF hIc hpre hext hcool
 obtain⟨i,st,m,om,al,F,rfl,hi,hf,p,hS,hIF,hIc,hpre,hext,hcool⟩:=hJ
 have IlivE:∀{i h},St' i h->∃o,h.get? I=some o/\o.cls≠ .type "frame"/\o.cls≠ .type "list"/\o.cls≠ .type "cell"/\∀es ep,o.data≠ .dict es ep:=fun{i h} hst=>by
  obtain⟨o,e,g1,g2⟩:=hit.live i h hst I hit.self
  exact⟨o,e,g1,(g2 rfl)⟩
 have exmI:∀{m om st al F s i},bE X n A env sc alo F₀ s₀ m om st al F s->St' i s.heap->JF env sc (·=I) om st s.heap:=fun{m om st al F s i} q hs=>by
  obtain⟨o,e,c1,c2,c3,c4⟩:=IlivE hs
  refine⟨fun z=>?_,fun x hx l hl z=>?_,fun c ec z=>?_⟩
  ·obtain⟨oL,es,ep,l1,l2,_⟩:=q.now.fr.locs
   rw[z,e]at l1;cases l1;exact c4 _ _ l2
  ·have qx:=q.now.fr.vars x hx
   rw[hl]at qx
   obtain⟨_,_,_,⟨_,e2⟩,_⟩:=qx
   rw[z,e]at e2;cases e2;exact c2 rfl
  ·rw[z,e]at ec;cases ec;exact c3 rfl
 have turned:∀{h' tk},(∀b o,b∉[I]->s.heap.get? b=some o->h'.get? b=some o)->ae h' I->s.toks<=tk->bE X n A env sc alo F₀ s₀ m om st al F {s with heap:=h',toks:=tk}/\bB s.heap F h' F:=fun{h' tk} hk hl ht=>by
  have hk':∀b o,b≠I->s.heap.get? b=some o->h'.get? b=some o:=fun b o hb e=>hk b o (by simpa using hb) e
  obtain⟨o,e,c1,c2,c3,c4⟩:=IlivE hS
  have ex:=exmI p hS
  exact⟨⟨p.own,p.amb.touched e c1 hk' ht,p.now.touch hIF hIc hIt e (fun z=>c3 (by rw[z])) (fun z=>ex.loc z.symm) (fun x hx l hl=>ex.own x hx l hl) hk' hl,p.aft.touch hI0 hk' hl⟩,fun b o e nf _=>⟨hk' b o (fun z=>nf (z▸hIF)) e,nf⟩⟩
 by_cases hlt:i < vs.length
 ·refine wpAny_up (hit.walks.item i s _ _ hlt hS fun v h' tk hPv hst' hk u=>?_)
  obtain⟨o',e',_⟩:=IlivE hst'
  obtain⟨p1,pre1⟩:=turned hk ⟨o',e'⟩ u.1
  obtain⟨w,hw,Rw⟩:=hit.items i v hlt hPv
  have Rw':Rep X al F h' w v:=(Rw.pre hpre hext).pre pre1 fun _ _ e=>e
  rw[Ln hlt]at hf
  have hwv:vs[i]=w:=by rw[J4 hlt]at hw;exact J9 hw
  rw[hwv]at hf
  refine EA e' (hit.go _ _ _ hst' e') ?_
  refine hT env A alo F₀ s₀ _ st m om al F w v _ _ _ p1 Rw' hf fun m' h'' tk' st' hk2 p2 hbd=>?_
  have hLF:F env.locals:=by obtain⟨_,_,_,_,_,_,_,_,h4⟩:=p1.now.fr.locs;exact h4
  have pre2:bB h' F h'' F:=fun b o e nf _=>⟨hk2 b o (fun z=>nf (z▸hLF)) e,nf⟩
  have nIL:I≠env.locals:=fun z=>(exmI p hS).loc z.symm
  have hS2:St' (i+1) h'':=hit.walks.frame _ h' h'' hst' fun b hb o e=>hk2 b o (fun z=>by
   by_cases hbI:b=I
   ·exact nIL (hbI▸z)
   ·exact hcool b hb hbI (z▸hLF)) e
  refine J0 (ui hb p2 (exmI p2 hS2) hbd) (fun fl s3 qz=>qz.casesOn fun fl' st3 al3 F3 m3 om3 hk3 R3 p3 K=>?_) fun _ _ x=>x.no
  cases fl' with
  |ret x=>cases fl with
   |ret v=>exact hR _ _ (p3.ret hk3 R3)
   |_=>exact R3.elim
  |next=>
   obtain rfl:fl=.next:=by cases fl<;>first|rfl|exact R3.elim
   have hS3:St' (i+1) s3.heap:=hit.walks.frame _ h'' s3.heap hS2 fun b hb o e=>by
    obtain⟨o2,e2,g1,g2⟩:=hit.live _ _ hS2 b hb
    rw[e]at e2;cases e2
    by_cases hbI:b=I
    ·subst hbI
     exact(K.held b o rfl hIF hIc hIt e (.inl g1)).1
    ·exact(K.pre b o e (hcool b hb hbI) (.inl g1)).1
   obtain⟨oI,eI,cI,_⟩:=IlivE hS2
   have hI3:=K.held I oI rfl hIF hIc hIt eI (.inl cI)
   refine⟨vs.length - (i+1),Nat.sub_lt_sub_left hlt (LB i),i+1,st3,m3,om3,al3,F3,rfl,hlt,hk3,p3,hS3,hI3.2.1,hI3.2.2,?_,fun j q e=>K.ext j q (hext j q e),fun b hb hbI=>?_⟩
   ·intro b o e nf nr
    have a1:=hpre b o e nf nr
    have a2:=pre1 b o a1.1 a1.2 nr
    have a3:=pre2 b o a2.1 a2.2 nr
    exact K.pre b o a3.1 a3.2 nr
   ·obtain⟨o2,e2,g1,g2⟩:=hit.live _ _ hS2 b hb
    exact(K.pre b o2 e2 (hcool b hb hbI) (.inl g1)).2
 ·have hie:i=vs.length:=Lp hi (KW.mp hlt)
  subst hie
  refine wpAny_up (hit.walks.done s _ _ hS fun h' tk hk u=>?_)
  rw[List.drop_length]at hf
  have hk':∀b o,b≠I->s.heap.get? b=some o->h'.get? b=some o:=fun b o hb e=>hk b o (by simpa using hb) e
  obtain⟨o,e,c1,c2,c3,c4⟩:=IlivE hS
  have ex:=exmI p hS
  have p':bE X n A env sc alo F₀ s₀ m om st al (fun a=>F a/\a≠I) {s with heap:=h',toks:=tk}:=
   ⟨p.own,p.amb.touched e c1 hk' u.1,p.now.drop hIF hIc hIt e (fun z=>c3 (by rw[z])) (fun z=>ex.loc z.symm) (fun x hx l hl=>ex.own x hx l hl) hI0 hk',p.aft.drop hI0 (fun _ l=>l) hk'⟩
  exact Lo (hR _ _ (p'.next hf))
theorem ur{target it:Mq}{mit:ME}{b:List Stmt}{mb:List MS}{f:V->KF->St->Pg}{pos:Pos}{ms:MS}(hit:ah X n sc it mit)(hb:bH X n sc b mb)(hT:A6 X n sc target mb f)(hs:∀env x,foldedSetIterable it env x=pure x)
  (hms:∀kf ke st,ex ms kf ke st=ev mit (.v fun iv st=>opt (items iv) fun vs=>fT f vs kf st) ke st):bv X n sc (.For target it b [] pos) ms:=fun env A alo F₀ s₀ s st m om al F kf ke p h=>by
 rw[hms]at h
 refine wpAny_For (c8 hit p h fun r v st' al' F' s' hk R b q=>ad hk fun vs hi hk=>?_) (hs env)
 ·refine wpAny_up (jM q.amb.handled R hi fun I h' t fp P St hkeep hI hI2 hS u=>?_)
  obtain⟨oI,eI,gI1,gI2⟩:=hI2.live 0 h' hS I hI2.self
  have hn:∀a,a=I->¬ae s'.heap a/\ae h' a:=fun a z=>by subst z;exact⟨hI,⟨oI,eI⟩⟩
  have N2:=q.now.more (t:=t) hkeep (·=I) hn
  have b2:aT X (ae s₀.heap) al' F' s' al' (fun a=>F' a∨a=I) {s' with heap:=h',toks:=t}:=.more hkeep (·=I) hn
  have hI0:¬ae s₀.heap I:=fun z=>hI (q.aft.tr.live I z)
  have hcells:I∉cells al':=fun z=>by obtain⟨o,e,_⟩:=q.now.inv.objs.cellOf I z;exact hI ⟨o,e⟩
  have htabs:I∉X.tabs:=fun z=>by obtain⟨ps,e,_⟩:=(q.now.inv.tabs I z).2.2;exact hI ⟨_,e⟩
  have p2:bE X n A env sc alo F₀ s₀ m om st' al' (fun a=>F' a∨a=I) {s' with heap:=h',toks:=t}:=q.step b2 N2 (q.amb.aft q.now.inv b2 u)
  refine v7 hb hT hI2 hI0 htabs (fun fl s3 x=>x) (KD _) hk p2 hS (.inr rfl) hcells (fun b o e nf nr=>⟨hkeep b o e,fun z=>z.elim nf fun z=>hI (z▸⟨o,e⟩)⟩) (fun _ _ e=>e) fun b hb hbI z=>?_
  exact z.elim (hI2.cool b hb hbI).2 hbI
theorem yC{x:da}{id:Str}{it:Mq}{mit:ME}{b:List Stmt}{mb:List MS}{pos pos':Pos}(hok:sc.Ok)(hx:x∈sc.vis)(hc:x.cell=false)(hid:x.name=id)(hit:ah X n sc it mit)(hb:bH X n sc b mb)(hs:∀env x,foldedSetIterable it env x=pure x):
  bv X n sc (.For (.Name id pos') it b [] pos) (.for1 x.slot mit mb):=by
 subst hid
 refine ur (f:=fun v k' st=>aS mb k' fQ (st.put x.slot (.val v))) hit hb (fun env A alo F₀ s₀ s st m om al F w v kf Q E p R h go=>?_) hs fun kf ke st=>rfl
 rw[PySem.assign_Name]
 exact JJ (Kf (cU hok hx hc p R fun m' h' hk q=>go m' h' _ _ hk q h))
theorem bE.grow(p:bE X n A env sc alo F₀ s₀ m om st al F s)(k:∀b o,s.heap.get? b=some o->h'.get? b=some o){t:Nat}(u:Up s {s with heap:=h',toks:=t}):bE X n A env sc alo F₀ s₀ m om st al F {s with heap:=h',toks:=t}:=
 p.step (.grow k) (p.now.grow k) (p.amb.aft p.now.inv (.grow (lo:=fun _=>True) k) u)
theorem mn{v:V}{p:V×V}(e:(asTup v).bind two=some p):v=.tup [p.1,p.2]:=by
 obtain⟨l,e1,e2⟩:=Ku.mp e
 rw[gQ e1,tU e2]
theorem qK{x y:V}{v:Mu}{Q:List Mu->Ms->Prop}{E:Mu->Ms->Prop}(p:bE X n A env sc alo F₀ s₀ m om st al F s)(R:Rep X al F s.heap (.tup [x,y]) v)
  (go:∀v1 v2 h',(∀b o,s.heap.get? b=some o->h'.get? b=some o)->bE X n A env sc alo F₀ s₀ m om st al F {s with heap:=h'}->Rep X al F h' x v1->Rep X al F h' y v2->Q [v1,v2] {s with heap:=h'}):
  wpAny (model X.prog X.w) A (unpackItems v 2 none) Q E s:=by
 obtain⟨a,vs,rfl,t,f,r⟩:=R.inv
 obtain⟨v1,ys,rfl,r1,q1⟩:=r.inv
 obtain⟨v2,zs,rfl,r2,q2⟩:=q1.inv
 obtain rfl:=q2.inv
 ·refine wpAny_up ?_
  show wpAny _ _ (unpackItems (.ref a) ([v1,v2].toArray).size none) _ _ _
  refine wpAny_unpackItems_tuple (items:=[v1,v2].toArray) p.amb.handled t.is fun h' hk u=>?_
  have k:∀b o,s.heap.get? b=some o->h'.get? b=some o:=fun b o e=>hk b o (K0 (Heap.lt_size e)) e
  exact go v1 v2 h' k (p.grow (t:=s.toks) k u) (r1.pre (.grow k) fun _ _ e=>e) (r2.pre (.grow k) fun _ _ e=>e)
theorem uU{x y:LV}{i j:Nat}(hij:i≠j)(st:St):(st.put i x).put j y=(st.put j y).put i x:=by
 show St.mk ((st.loc.set i x).set j y) st.mu=St.mk ((st.loc.set j y).set i x) st.mu
 rw[List.set_comm _ _ hij]
theorem iJ{x y:da}{a b:V}{v:Mu}{px py pt:Pos}{c:Nat}{Q:Unit->Ms->Prop}{E:Mu->Ms->Prop}(hok:sc.Ok)(hx:x∈sc.vis)(hxc:x.cell=false)(hy:y∈sc.vis)(hyc:y.cell=false)(p:bE X n A env sc alo F₀ s₀ m om st al F s)(R:Rep X al F s.heap (.tup [a,b]) v)
  (go:∀m' h' tk,(∀b o,b≠env.locals->s.heap.get? b=some o->h'.get? b=some o)->bE X n A env sc alo F₀ s₀ m' om ((st.put x.slot (.val a)).put y.slot (.val b)) al F {s with heap:=h',toks:=tk}->Q () {s with heap:=h',toks:=tk}):
  wpAny (model X.prog X.w) A (assign (.Tuple [.Name x.name px,.Name y.name py] c pt) env v) Q E s:=by
 rw[arm_assign_Tuple]
 refine JJ (Kf ?_)
 unfold unpack
 refine JJ (Kp ?_)
 show wpAny _ _ (unpackItems v 2 none) _ _ _
 refine qK p R fun v1 v2 h' hk q R1 R2=>?_
 show wpAny _ _ (do holding [v2] (assign (.Name x.name px) env v1);holding [] (assign (.Name y.name py) env v2);pure ()) _ _ _
 rw[PySem.assign_Name,PySem.assign_Name]
 have hLF:F env.locals:=by obtain⟨_,_,_,_,_,_,_,_,h4⟩:=p.now.fr.locs;exact h4
 refine JJ (Kp (JJ (Kf (cU hok hx hxc q R1 fun m1 h1 hk1 q1=>?_))))
 have R2':Rep X al F h1 b v2:=R2.pre (fun b o e nf _=>⟨hk1 b o (fun z=>nf (z▸hLF)) e,nf⟩) fun _ _ e=>e
 refine JJ (Kp (JJ (Kf (cU hok hy hyc q1 R2' fun m2 h2 hk2 q2=>JO ?_))))
 exact go m2 h2 _ (fun b o z e=>hk2 b o z (hk1 b o z (hk b o e))) q2
theorem sy{x y:da}{a b:V}{v:Mu}{Q:Unit->Ms->Prop}{E:Mu->Ms->Prop}(hok:sc.Ok)(hx:x∈sc.vis)(hxc:x.cell=false)(hy:y∈sc.vis)(hyc:y.cell=false)(hxy:x.slot≠y.slot)(p:bE X n A env sc alo F₀ s₀ m om st al F s)(R:Rep X al F s.heap (.tup [a,b]) v)
  (go:∀m' h' tk,bE X n A env sc alo F₀ s₀ m' om ((st.put x.slot (.val a)).put y.slot (.val b)) al F {s with heap:=h',toks:=tk}->Q () {s with heap:=h',toks:=tk}):
  wpAny (model X.prog X.w) A (unpackItems v [x.name,y.name].length none) (fun items s₂=>wpAny (model X.prog X.w) A (assignInOrder ([x.name,y.name].reverse.map fun n=>bindName env n) items.reverse) Q E s₂) E s:=by
 show wpAny _ _ (unpackItems v 2 none) _ _ _
 refine qK p R fun v1 v2 h' hk q R1 R2=>?_
 show wpAny _ _ (do holding [v1] (bindName env y.name v2);holding [] (bindName env x.name v1);pure ()) _ _ _
 have hLF:F env.locals:=by obtain⟨_,_,_,_,_,_,_,_,h4⟩:=p.now.fr.locs;exact h4
 refine JJ (Kp (cU hok hy hyc q R2 fun m1 h1 hk1 q1=>?_))
 have R1':Rep X al F h1 a v1:=R1.pre (fun b o e nf _=>⟨hk1 b o (fun z=>nf (z▸hLF)) e,nf⟩) fun _ _ e=>e
 refine JJ (Kp (cU hok hx hxc q1 R1' fun m2 h2 hk2 q2=>JO ?_))
 rw[uU (Ne.symm hxy)]at q2
 exact go m2 h2 _ q2
theorem yB{x y:da}{ix iy:Str}{it:Mq}{mit:ME}{b:List Stmt}{mb:List MS}{pos px py pt:Pos}{c:Nat}(hok:sc.Ok)(hx:x∈sc.vis)(hxc:x.cell=false)(hix:x.name=ix)(hy:y∈sc.vis)(hyc:y.cell=false)(hiy:y.name=iy)(hit:ah X n sc it mit)(hb:bH X n sc b mb)(hs:∀env x,foldedSetIterable it env x=pure x):
  bv X n sc (.For (.Tuple [.Name ix px,.Name iy py] c pt) it b [] pos) (.for2 x.slot y.slot mit mb):=by
 subst hix hiy
 refine ur (f:=fun v k' st=>opt ((asTup v).bind two) fun p=>aS mb k' fQ ((st.put x.slot (.val p.1)).put y.slot (.val p.2))) hit hb (fun env A alo F₀ s₀ s st m om al F w v kf Q E p R h go=>ad h fun p' ep h=>?_) hs fun kf ke st=>rfl
 exact iJ hok hx hxc hy hyc p (mn ep▸R) fun m' h' tk hk q=>go m' h' tk _ hk q h
theorem if_or{α:Type}{c:Prop}[Decidable c]{y z w:α}(h:¬c->y=z∨y=w):(if c then z else y)=z∨(if c then z else y)=w:=by
 by_cases k:c
 ·exact .inl (if_pos k)
 ·rw[if_neg k];exact h k
theorem vJ{α:Type}{c:Prop}[Decidable c]{a:α}:(if c then some a else none)=some a∨(if c then some a else none)=none:=by
 by_cases k:c
 ·exact .inl (if_pos k)
 ·exact .inr (if_neg k)
theorem HJ{α β:Type}{f:α->Option β}{x y:α}{a b:β}(hx:f x=some a∨f x=none)(hy:f y=some b∨f y=none)(h:([x,y].filterMap f).length=2):[x,y].filterMap f=[a,b]:=by
 revert h
 dsimp only[List.filterMap]
 rcases hx with e|e<;>rcases hy with e'|e'<;>rw[e,e']<;>intro h<;>first|rfl|cases h
theorem sw2{a b:Str}{names:List Str}{l:List Mq}{u:Sem (Option (List Str))}(hn:names.length=2->names=[a,b])(hc:(l.all (foldedForSure 8)|| !(l.all (constantsAlone 8)))=true):
  (if(names.length != 2||names.eraseDups.length != names.length)=true then pure none else if l.all (foldedForSure 8)=true then pure none else if l.all (constantsAlone 8)=true then u else pure (some names):Sem (Option (List Str)))=pure none∨
   (if(names.length != 2||names.eraseDups.length != names.length)=true then pure none else if l.all (foldedForSure 8)=true then pure none else if l.all (constantsAlone 8)=true then u else pure (some names):Sem (Option (List Str)))=pure (some [a,b]):=by
 refine if_or fun h1=>if_or fun h=>?_
 rw[eq_false_of_ne_true h,Bool.false_or]at hc
 refine .inr ((if_neg fun z=>by rw[z]at hc;cases hc).trans (congrArg (fun x=>pure (some x)) (hn ?_)))
 cases k:names.length != 2
 ·simpa using k
 ·exact absurd (by rw[k];rfl) h1
theorem ud{a b:Str}{pa pb pt pv:Pos}{c c':Nat}{e1 e2:Mq}(hc:([e1,e2].all (foldedForSure 8)|| !([e1,e2].all (constantsAlone 8)))=true):
  swappedStores [.Tuple [.Name a pa,.Name b pb] c pt] (.Tuple [e1,e2] c' pv) env=pure none∨swappedStores [.Tuple [.Name a pa,.Name b pb] c pt] (.Tuple [e1,e2] c' pv) env=pure (some [a,b]):=
 if_or fun _=>if_or fun _=>sw2 (HJ vJ vJ) hc
theorem yE{x y:da}{ix iy:Str}{e1 e2:Mq}{m1 m2:ME}{pos px py pt pv:Pos}{c c':Nat}(hok:sc.Ok)(hx:x∈sc.vis)(hxc:x.cell=false)(hix:x.name=ix)(hy:y∈sc.vis)(hyc:y.cell=false)(hiy:y.name=iy)(hxy:x.slot≠y.slot)
  (he:ah X n sc (.Tuple [e1,e2] c' pv) (.tup [m1,m2])) (hc:([e1,e2].all (foldedForSure 8)|| !([e1,e2].all (constantsAlone 8)))=true):bv X n sc (.Assign [.Tuple [.Name ix px,.Name iy py] c pt] (.Tuple [e1,e2] c' pv) pos) (.asgT [x.slot,y.slot] [m1,m2]):=fun env A alo F₀ s₀ s st m om al F kf ke p h=>by
 subst hix hiy
 have h:wp (Wd X n) (ev (.tup [m1,m2]) (.v fun v st=>opt ((asTup v).bind two) fun p=>kf .next ((st.put x.slot (.val p.1)).put y.slot (.val p.2))) ke st):=h
 rcases ud (env:=env) (pa:=px) (pb:=py) (pt:=pt) (pv:=pv) (c:=c) (c':=c') hc with hw|hw
 ·refine Assign_Tuple (c8 he p h fun r v st' al' F' s' hk R b q=>?_) rfl hw
  exact ad hk fun p' ep hk=>iJ hok hx hxc hy hyc q (mn ep▸R) fun m' h' tk _ q'=>q'.next hk
 ·refine Assign_Tuple_swapped (c8 he p h fun r v st' al' F' s' hk R b q=>?_) rfl hw
  exact ad hk fun p' ep hk=>sy hok hx hxc hy hyc hxy q (mn ep▸R) fun m' h' tk q'=>q'.next hk
end
section
variable {al:List (Mt×Mt)}
theorem bI.off{I:Mt}(a:bI X A n s₁)(a0:bI X A n s)(hI:¬ae s.heap I)(hk:∀b o,b≠I->s₁.heap.get? b=some o->h'.get? b=some o){t:Nat}(ht:s₁.toks<=t):bI X A n {s₁ with heap:=h',toks:=t}:=by
 obtain⟨h0,h1,h2,h3,l,h4,h5⟩:=a
 obtain⟨_,_,_,_,l',h4',h5'⟩:=a0
 rw[h4]at h4';cases h4'
 refine⟨EM h0 ht,h1,h2,h3,l,h4,fun e he=>?_⟩
 obtain⟨k,L,o,es,ep,e1,e2,e3,e4,e5⟩:=h5 e he
 obtain⟨_,L',o',_,_,e1',e2',_⟩:=h5' e he
 rw[e1]at e1';cases e1'
 exact⟨k,L,o,es,ep,e1,hk L o (fun z=>hI (z▸⟨o',e2'⟩)) e2,e3,e4,e5⟩
theorem l8{i j:Nat}{v:V}{l:List V}(q:(st.put i (.val v)).loc[j]? =some (.own l)):st.loc[j]? =some (.own l):=by
 have q:(st.loc.set i (.val v))[j]? =some (.own l):=q
 by_cases hs:i=j
 ·subst hs
  by_cases hlt:i < st.loc.length
  ·rw[Ks hlt]at q;cases q
  ·rw[K4 (by rw[Lj];exact lin [_,_] [(1,.v 0,.v 1)] 1 (.v 0) (.v 1) rfl (KB hlt))]at q;cases q
 ·rwa[Ko hs]at q
theorem nI{x xv:da}{id:Str}{scope:Scope}{iter elt:Mq}{ifs:List Mq}{mifs:List ME}{me it:ME}{px pos pos' pos2:Pos}(hok:sc.Ok)(hx:x∈sc.vis)(hc:x.cell=false)(hid:x.name=id)
  (H:kz sc sc' xv scope) (hs:∀env x,foldedSetIterable iter env x=pure x) (hit:ah X n sc iter it) (helt:ah X n sc' elt me) (hifs:iP X n sc' ifs mifs):
  bv X n sc (.Assign [.Name id pos'] (.ListComp elt [⟨.Name xv.name px,iter,ifs,0⟩] scope pos) pos2) (.asg x.slot (.comp me xv.slot it mifs)):=fun env A alo F₀ s₀ s st m om al F kf ke p h=>by
 subst hid
 have hkx:=p.now.fr.names x hx
 rw[hc]at hkx
 have hkx:env.kindOf x.name=some .local:=by simpa using hkx
 have hbk:env.blockKind=.function:=by unfold Env.blockKind;rw[p.now.fr.kind];rfl
 have hsw:∃b,swapsWith (.ListComp elt [⟨.Name xv.name px,iter,ifs,0⟩] scope pos) (some (.Name x.name pos')) pos2.line env=pure b:=⟨_,rfl⟩
 obtain⟨b,hsw⟩:=hsw
 cases b with
 |false=>
  rw[exec_Assign_Name env _ _ _ _ hsw]
  refine JJ (Kf (JJ (c8 (ri H hs hit helt hifs) p h fun r v st' al' F' s' hk R b q=>?_)))
  exact JJ (Kf (JJ (cU hok hx hc q R fun m' h' hk' q'=>JO (q'.next hk))))
 |true=>
  rw[exec_Assign_Name_used _ _ _ _ hsw]
  refine JJ (Kf (JJ ?_))
  refine wpAny_up ?_
  have e:evalThenUse (.ListComp elt [⟨.Name xv.name px,iter,ifs,0⟩] scope pos) env (assign (.Name x.name pos') env)=(do let _ ←comprehension (.ListComp elt [⟨.Name xv.name px,iter,ifs,0⟩] scope pos) scope env (firstIterPos [⟨.Name xv.name px,iter,ifs,0⟩] pos) (newList []) false (eval iter env) (some (assign (.Name x.name pos') env))):=rfl
  rw[e]
  refine JJ ?_
  refine lG (use:=some (assign (.Name x.name pos') env)) H hs hit helt hifs p.amb p.now h (fun v s' y u=>p.xs u y) fun acc D C m' oC st' al' F' s' hk R b N' a' hns eC hoC hCF hCc hCt hCl hDC hCL hown=>?_
  have q:=p.step b N' a'
  show wpAny _ _ (assign (.Name x.name pos') env (.ref D)) _ _ _
  rw[PySem.assign_Name]
  refine JJ (Kf (cU hok hx hc q R fun m2 h2 hk2 q2=>⟨m',hns.at' fun o e=>hk2 C o hCL e,fun h3 hsb=>JO fun u=>JO ?_⟩))
  have hkk:∀b o,b≠C->h2.get? b=some o->h3.get? b=some o:=fun b o z e=>(hsb.2 b z).trans e
  have hC0:¬ae s₀.heap C:=fun z=>hCl (p.aft.tr.live C z)
  have hC2:h2.get? C=some oC:=hk2 C oC hCL eC
  have q3:bE X n A env sc alo F₀ s₀ m2 om (st'.put x.slot (.val (.lst acc))) al' (fun a=>F' a/\a≠C) {s' with heap:=h3,toks:=s'.toks+1}:=
   ⟨q2.own,q2.amb.off (t:=s'.toks+1) p.amb hCl hkk (JL _),q2.now.drop (t:=s'.toks+1) hCF hCc hCt hC2 hoC hCL (fun y hy l hl=>hown y hy l (l8 hl)) hC0 hkk,q2.aft.drop hC0 (fun _ l=>l) hkk (t:=s'.toks+1)⟩
  exact q3.next hk
theorem fill_cell{M:Model}{name:Str}{c:Mt}{v:Mu}{x:Option Mu}{Q:Unit->Ms->Prop}{E:Mu->Ms->Prop}(hk:env.scope.kind=.function)(hl:env.kindOf name=some .cell∨env.kindOf name=some .free)(hc:env.cells.lookup name=some c)(hv:s.heap.get? c=some {cls:=.type "cell",data:=.cell x})
  (h:∀h',h'.get? c=some {cls:=.type "cell",data:=.cell (some v)}->Heap.SameBut c s.heap h'->Q () {s with heap:=h'}):wpAny M A (storeName env name v) Q E s:=by
 have e:storeName env name v=if(env.scope.kind== .class&&env.kindOf name==some .cell)=true then localSet env name v else(do cellSet (←cellOf env name) (some v)):=by
  unfold storeName
  rcases hl with hl|hl<;>rw[hl]<;>rfl
 rw[e,if_neg (by rw[hk];exact KX)]
 refine JJ (wpAny_cellOf hc ?_)
 unfold cellSet
 refine JJ (wpAny_load hv ?_)
 exact wpAny_update hv (h _ (KS _ hv rfl) (Heap.SameBut.update ..))
theorem yG{x:da}{id:Str}{e:Mq}{me:ME}{pos pos':Pos}(hok:sc.Ok)(hx:x∈sc.vis)(hc:x.cell=true)(hmine:x.mine=true)(hid:x.name=id)(he:ah X n sc e me)(hn:cY e):bv X n sc (.Assign [.Name id pos'] e pos) (.asgC x.slot me):=fun env A alo F₀ s₀ s st m om al F kf ke p h=>by
 subst hid
 rw[exec_Assign_Name env _ _ _ _ (hn _ _ _)]
 refine JJ (Kf (JJ (c8 he p h fun r v st' al' F' s' hk R b q=>bc hk fun hu hk=>?_)))
 have hu:=tT hu
 have R0:=q.now.fr
 have qx:=R0.vars x hx
 rw[hu]at qx
 obtain⟨c,e1,e2,e3,e4,e5,e6⟩:=qx hc
 obtain⟨e6,e7⟩:=e6 hmine
 have hkx:=R0.names x hx
 rw[hc]at hkx
 refine JJ (Kf (JJ (wpAny_bindName (fill_cell R0.kind (by simpa using hkx) e1 e2 fun h' hcell hsb=>JO ?_))))
 have hkk:∀b o,b≠c->s'.heap.get? b=some o->h'.get? b=some o:=fun b o z e=>(hsb.2 b z).trans e
 have pr:bB s'.heap F' h' (fun a=>F' a/\a≠c):=fun b o e nf _=>⟨hkk b o (fun z=>nf (z▸e3)) e,fun z=>nf z.1⟩
 obtain⟨oL,es,ep,l1,l2,l3,l4,l5,l6⟩:=R0.locs
 have hcL:env.locals≠c:=fun z=>by rw[z,e2]at l1;cases l1;cases l2
 have hcl:c∉cells al':=e4
 have amb:bI X A n {s' with heap:=h'}:=q.amb.touched (t:=s'.toks) e2 (by simp) hkk (JL _)
 have inv:bT X st'.mu al' (fun a=>F' a/\a≠c) h':=q.now.inv.drop e3 e4 e5 hkk
 have aft:aT X (ae s₀.heap) alo F₀ s₀ al' (fun a=>F' a/\a≠c) {s' with heap:=h'}:=q.aft.drop e6 (fun _ l=>l) hkk (t:=s'.toks)
 refine bE.next (st:=st'.put x.slot (.val r)) ⟨q.own,amb,⟨inv,R0.kind,R0.glob,R0.bl,⟨oL,es,ep,hkk _ _ hcL l1,l2,l3,l4,l5,l6,hcL⟩,aft.tr.live,R0.ns.at' fun o e=>hkk _ o hcL e,R0.gls,R0.names,fun y hy=>?_,R0.code,fun i j l l' h1 h2 hij=>R0.owns i j l l' (l8 h1) (l8 h2) hij⟩,aft⟩ hk
 by_cases hxy:y=x
 ·subst hxy
  show bq X env _ m om al' _ h' y (st'.loc.set y.slot (.val r))[y.slot]?
  rw[Ks (JT.mp hu).1]
  exact .cel hc ⟨c,v,e1,hcell,fun z=>z.2 rfl,R.pre pr fun _ _ e=>e⟩
 ·have hsl:x.slot≠y.slot:=fun z=>hxy (hok y hy x hx (.inr z.symm))
  show bq X env _ m om al' _ h' y (st'.loc.set x.slot (.val r))[y.slot]?
  rw[Ko hsl]
  refine(R0.vars y hy).move pr (fun _ _ e=>e) (fun l hl=>?_) fun hyc d ed fd e2d=>?_
  ·have qy:=R0.vars y hy
   rw[hl]at qy
   obtain⟨_,_,_,⟨_,g2⟩,_,g4,g5,_⟩:=qy
   have hne:om y.slot≠c:=fun z=>by rw[z,e2]at g2;injection g2 with g2;injection g2 with g3;injection g3 with g3;exact absurd g3 (by decide)
   exact⟨fun o e=>hkk _ _ hne e,⟨g4,hne⟩,g5⟩
  ·have hne:d≠c:=fun z=>hxy (hok y hy x hx (.inl (e7 y.name (z▸ed))))
   refine⟨hkk _ _ hne e2d,⟨fd,hne⟩,fun hm=>?_⟩
   obtain⟨o,eo,co⟩:=q.now.inv.objs.cellKind d hm
   rw[e2d]at eo;cases eo;exact co rfl
end
section
variable {al:List (Mt×Mt)}
theorem lD(om:Nat->Nat)(D:Nat):∀k,∃N,D < N/\∀j,j < k->om j < N
 |0=>⟨D+1,LB _,fun _ h=>absurd h (LD _)⟩
 |k+1=>by
  obtain⟨N,h1,h2⟩:=lD om D k
  refine⟨N+om k+1,(by exact lin [_,_,_] [(1,.a (.v 0) (.n 1),.v 1)] 1 (.a (.v 0) (.n 1)) (.a (.a (.v 1) (.v 2)) (.n 1)) rfl h1),fun j hj=>?_⟩
  by_cases hk:j=k
  ·subst hk;exact lin [_,_] [] 1 (.a (.v 0) (.n 1)) (.a (.a (.v 1) (.v 0)) (.n 1)) rfl
  ·have:=h2 j (Nat.lt_of_le_of_ne (LN hj) hk);exact lin [_,_,_] [(1,.a (.v 0) (.n 1),.v 1)] 1 (.a (.v 0) (.n 1)) (.a (.a (.v 1) (.v 2)) (.n 1)) rfl this
theorem HM(a b d N:Nat)(h:a≠b)(ha:a < N)(hb:b < N):(if a=d then N else a)≠(if b=d then N else b):=by
 split<;>split
 ·exact absurd (Eq.trans (by assumption) (Eq.symm (by assumption))) h
 ·exact Ly hb
 ·exact K0 ha
 ·exact h
theorem Fn(a d N:Nat)(h:d < N):(if a=d then N else a)≠d:=by
 split
 ·exact Ly h
 ·assumption
theorem wW{x:da}{D:Mt}{l:List V}{vs:List Mu}{Q:Unit->Ms->Prop}{E:Mu->Ms->Prop}(hok:sc.Ok)(hx:x∈sc.vis)(hc:x.cell=false)(p:bE X n A env sc alo F₀ s₀ m om st al F s)
  (hL:gU s.heap D vs) (R:ag X al F s.heap l vs) (hF:F D) (hDc:D∉cells al) (hDt:D∉X.tabs) (hD0:¬ae s₀.heap D) (hfar:∀y∈sc.vis,∀l:List V,st.loc[y.slot]? =some (.own l)->om y.slot≠D) (hlt:x.slot < st.loc.length)
  (go:∀m' om' h',bE X n A env sc alo F₀ s₀ m' om' (st.put x.slot (.own l)) al F {s with heap:=h',toks:=s.toks+1}->Q () {s with heap:=h',toks:=s.toks+1}):
  wpAny (model X.prog X.w) A (bindName env x.name (.ref D)) Q E s:=by
 have Rf:=p.now.fr
 have hk:=Rf.names x hx
 rw[hc]at hk
 have hk:env.kindOf x.name=some .local:=by simpa using hk
 refine wpAny_bindName (bJ hk Rf.ns (fun h' hns hs hcls=>?_) (by rw[Rf.kind];rfl))
 obtain⟨oL,es,ep,l1,l2,l3,l4,l5,l6⟩:=Rf.locs
 have hkk:∀b o,b≠env.locals->s.heap.get? b=some o->h'.get? b=some o:=fun b o z e=>(hs.2 b z).trans e
 obtain⟨oL',es',ep',l1',l2',r'⟩:=id hns
 have hlv:ae h' env.locals:=⟨oL',l1'⟩
 have pr:bB s.heap F h' F:=fun b o e q _=>⟨hkk b o (fun z=>q (z▸l6)) e,q⟩
 have hDL:D≠env.locals:=fun z=>by obtain⟨_,e⟩:=hL;rw[z,l1]at e;cases e;cases l2
 have aft:=p.aft.touch p.own.1 hkk hlv (t:=s.toks+1)
 have loc':∀(j:Nat) (l':List V),(st.put x.slot (.own l)).loc[j]? =some (.own l')->(j=x.slot/\l'=l)∨(j≠x.slot/\st.loc[j]? =some (.own l')):=fun j l' q=>by
  have q:(st.loc.set x.slot (.own l))[j]? =some (.own l'):=q
  by_cases hs:x.slot=j
  ·subst hs
   rw[Ks hlt]at q;cases q;exact .inl ⟨rfl,rfl⟩
  ·rw[Ko hs]at q;exact .inr ⟨Ne.symm hs,q⟩
 obtain⟨N,hN1,hN2⟩:=lD om D st.loc.length
 refine go _ (fun j=>if j=x.slot then D else if om j=D then N else om j) h' ⟨p.own,p.amb.bound hkk hcls,⟨p.now.inv.touch l6 l3 l4 hkk hlv,⟨Rf.kind,Rf.glob,Rf.bl,⟨oL',es',ep',l1',l2',l3,l4,l5,l6⟩,aft.tr.live,hns,Rf.gls,Rf.names,fun y hy=>?_,Rf.code,fun i j w w' h1 h2 hij=>?_⟩⟩,aft⟩
 ·by_cases hxy:y=x
  ·subst hxy
   show bq X env _ _ _ al F h' y (st.loc.set y.slot (.own l))[y.slot]?
   rw[Ks hlt]
   exact nk.of (if_pos rfl) ⟨hc,vs,if_pos rfl,hL.casesOn fun z e=>⟨z,hkk _ _ hDL e⟩,R.pre pr fun _ _ e=>e,hF,hDc,hDt,hD0⟩
  ·have hsl:x.slot≠y.slot:=fun z=>hxy (hok y hy x hx (.inr z.symm))
   have hnm:y.name≠x.name:=fun z=>hxy (hok y hy x hx (.inl z))
   have qy:=Rf.vars y hy
   show bq X env _ _ _ al F h' y (st.loc.set x.slot (.own l))[y.slot]?
   rw[Ko hsl]
   have:=qy.move (h':=h') (F':=F) (al':=al) pr (fun _ _ e=>e) (fun l hl=>?_) fun hcc c e f e2=>?_
   ·exact this.imp (fun w z=>z.casesOn fun a e1 e2=>⟨a,(if_neg hnm).trans e1,e2⟩) (fun w z=>z) (fun l' hv z=>z.casesOn fun g1 vs' e1 r r1 r2 r3 r4 r5=>nk.of ((if_neg (Ne.symm hsl)).trans (if_neg (hfar y hy l' hv))) ⟨g1,vs',(if_neg hnm).trans e1,r,r1,r2,r3,r4,r5⟩) fun _ z=>z
   ·rw[hl]at qy
    obtain⟨_,_,_,⟨z,e2⟩,_,e4,e5,_⟩:=qy
    exact⟨fun o e=>hkk _ _ (fun q=>by rw[q,l1]at e2;cases e2;cases l2) e,e4,e5⟩
   ·refine⟨hkk _ _ (fun q=>by rw[q,l1]at e2;cases e2;cases l2) e2,f,fun hm=>?_⟩
    obtain⟨o,eo,co⟩:=p.now.inv.objs.cellKind c hm
    rw[e2]at eo;cases eo;exact co rfl
 ·show(if i=x.slot then D else if om i=D then N else om i)≠(if j=x.slot then D else if om j=D then N else om j)
  have lt1:∀{j:Nat} {w:List V},st.loc[j]? =some (.own w)->om j < N:=fun h=>hN2 _ (JT.mp h).1
  rcases loc' i w h1 with⟨rfl,_⟩|⟨ni,h1⟩<;>rcases loc' j w' h2 with⟨rfl,_⟩|⟨nj,h2⟩
  ·exact absurd rfl hij
  ·rw[if_pos rfl,if_neg nj];exact Ne.symm (Fn (om j) D N hN1)
  ·rw[if_neg ni,if_pos rfl];exact Fn (om i) D N hN1
  ·rw[if_neg ni,if_neg nj]
   have:=Rf.owns i j w w' h1 h2 hij
   have a1:=lt1 h1
   have a2:=lt1 h2
   exact HM (om i) (om j) D N this a1 a2
theorem BF{x:da}{id:Str}{es:List Mq}{mes:List ME}{pos pos' lpos:Pos}(hok:sc.Ok)(hx:x∈sc.vis)(hc:x.cell=false)(hid:x.name=id)(hes:dn X n sc es mes):bv X n sc (.Assign [.Name id pos'] (.List es lpos) pos) (.own x.slot mes):=fun env A alo F₀ s₀ s st m om al F kf ke p h=>by
 subst hid
 rw[exec_Assign_Name env _ _ _ _ rfl]
 refine JJ (Kf (JJ ?_))
 refine wpAny_up ?_
 refine List_ (fj hes p.amb p.now (fun v s' y u=>p.xs u y) h fun rs vs st' al' F' s' hk R b N' a'=>bc hk fun hln hk=>?_)
 refine Lb ?_ (R.size hln)
 ·intro u
  have q:=p.step b N' a'
  by_cases hlt:x.slot < st'.loc.length
  case neg=>
   have k:=af (h:=s'.heap) {cls:=.type "list",data:=.seq vs.toArray}
   have q1:=q.grow (t:=s'.toks) k (Up.push _ _)
   have hput:∀y,st'.put x.slot y=st':=fun y=>by
    show St.mk (st'.loc.set x.slot y) st'.mu=st'
    rw[List.set_eq_of_length_le (KW.mp hlt)]
   refine JJ (Kf (JJ (cU hok hx hc q1 (.lst ef N'.new (R.pre (.grow k) fun _ _ e=>e)) fun m2 h2 _ q3=>JO (q3.next ?_))))
   rw[hput];rw[hput]at hk;exact hk
  have hnew:=av s'.heap
  have k:=af (h:=s'.heap) {cls:=.type "list",data:=.seq vs.toArray}
  have hn:∀a,a=s'.heap.objs.size->¬ae s'.heap a/\ae (s'.heap.push {cls:=.type "list",data:=.seq vs.toArray}) a:=fun a z=>by subst z;exact⟨hnew,⟨_,J8 _ rfl⟩⟩
  have b2:=aT.more (X:=X) (lo:=ae s₀.heap) (al:=al') (F:=F') (t:=s'.toks) k (·=s'.heap.objs.size) hn
  have q2:bE X n A env sc alo F₀ s₀ m om st' al' (fun a=>F' a∨a=s'.heap.objs.size) {s' with heap:=s'.heap.push {cls:=.type "list",data:=.seq vs.toArray}}:=
   q.step b2 (N'.more k _ hn) (a'.aft N'.inv b2 (Up.push _ _))
  refine JJ (Kf (JJ (wW hok hx hc q2 ef (R.pre (fun b o e nf _=>⟨k b o e,fun z=>z.elim nf fun z=>hnew (z▸⟨o,e⟩)⟩) fun _ _ e=>e) (.inr rfl) (fun hm=>hnew (N'.inv.hot _ (N'.inv.cell _ hm)).1) (fun hm=>hnew (N'.inv.hot _ (N'.inv.tabs _ hm).1).1) (fun z=>hnew (q.aft.tr.live _ z)) (fun y hy l hl z=>?_) hlt fun m2 om2 h2 q3=>JO (q3.next hk))))
  have qy:=N'.fr.vars y hy
  rw[hl]at qy
  obtain⟨_,_,_,⟨_,e⟩,_⟩:=qy
  exact hnew (z▸⟨_,e⟩)
theorem rb{x:da}{l l':List V}{vs':List Mu}(hok:sc.Ok)(hx:x∈sc.vis)(p:bE X n A env sc alo F₀ s₀ m om st al F s)(hv:st.loc[x.slot]? =some (.own l))
  (hk:∀b o,b≠om x.slot->s.heap.get? b=some o->h'.get? b=some o) (hL:gU h' (om x.slot) vs') (R:ag X al F h' l' vs') {t:Nat} (ht:s.toks<=t):
  bE X n A env sc alo F₀ s₀ m om (st.put x.slot (.own l')) al F {s with heap:=h',toks:=t}:=by
 have Rf:=p.now.fr
 have qx:=Rf.vars x hx
 rw[hv]at qx
 obtain⟨hc,vs,e1,⟨z,e2⟩,e3,e4,e5,e6,e7⟩:=qx
 obtain⟨oL,es,ep,l1,l2,l3,l4,l5,l6⟩:=Rf.locs
 have hl:ae h' (om x.slot):=hL.casesOn fun _ e=>⟨_,e⟩
 have hne:env.locals≠om x.slot:=fun q=>by rw[q,e2]at l1;cases l1;cases l2
 have pr:bB s.heap F h' F:=fun b o e nf _=>⟨hk b o (fun z=>nf (z▸e4)) e,nf⟩
 have aft:=p.aft.touch e7 hk hl (t:=t)
 have hlt:=(JT.mp hv).1
 have w6:∀(j:Nat) (w:List V),(st.put x.slot (.own l')).loc[j]? =some (.own w)->∃w',st.loc[j]? =some (.own w'):=fun j w q=>by
  have q:(st.loc.set x.slot (.own l'))[j]? =some (.own w):=q
  by_cases hs:x.slot=j
  ·subst hs;exact⟨l,hv⟩
  ·rw[Ko hs]at q;exact⟨w,q⟩
 refine⟨p.own,p.amb.touched e2 (by simp) hk ht,⟨p.now.inv.touch e4 e5 e6 hk hl,Rf.kind,Rf.glob,Rf.bl,⟨oL,es,ep,hk _ _ hne l1,l2,l3,l4,l5,l6⟩,aft.tr.live,Rf.ns.at' fun o e=>hk _ o hne e,Rf.gls,Rf.names,fun y hy=>?_,Rf.code,fun i j w w' h1 h2 hij=>?_⟩,aft⟩
 ·by_cases hxy:y=x
  ·subst hxy
   show bq X env _ m om al F h' y (st.loc.set y.slot (.own l'))[y.slot]?
   rw[Ks hlt]
   exact⟨hc,vs',e1,hL,R,e4,e5,e6,e7⟩
  ·have hsl:x.slot≠y.slot:=fun z=>hxy (hok y hy x hx (.inr z.symm))
   show bq X env _ m om al F h' y (st.loc.set x.slot (.own l'))[y.slot]?
   rw[Ko hsl]
   refine(Rf.vars y hy).move pr (fun _ _ e=>e) (fun w hw=>?_) fun hyc d ed fd e2d=>?_
   ·have qy:=Rf.vars y hy
    rw[hw]at qy
    obtain⟨_,_,_,⟨_,g2⟩,_,g4,g5,_⟩:=qy
    exact⟨fun o e=>hk _ _ (Rf.owns _ _ _ _ hw hv (Ne.symm hsl)) e,g4,g5⟩
   ·refine⟨hk _ _ (fun q=>?_) e2d,fd,fun hm=>?_⟩
    ·rw[q,e2]at e2d;injection e2d with g;injection g with g;injection g with g;exact absurd g (by decide)
    ·obtain⟨o,eo,co⟩:=p.now.inv.objs.cellKind d hm
     rw[e2d]at eo;cases eo;exact co rfl
 ·obtain⟨w1,h1⟩:=w6 i w h1
  obtain⟨w2,h2⟩:=w6 j w' h2
  exact Rf.owns i j _ _ h1 h2 hij
theorem mr{x:da}{l:List V}(hx:x∈sc.vis)(p:bE X n A env sc alo F₀ s₀ m om st al F s)(hv:gv st.loc x.slot=some l):st.loc[x.slot]? =some (.own l)/\nk X (ae s₀.heap) m (om x.slot) al F s.heap x l:=by
 have qx:=p.now.fr.vars x hx
 have hl:=B4 hv
 rw[hl]at qx
 exact⟨hl,qx⟩
theorem ag.snoc{l:List V}{vs:List Mu}{v:V}{y:Mu}(R:ag X al F h l vs)(Rv:Rep X al F h v y):ag X al F h (l++[v]) (vs++[y]):=R.append (.cons Rv .nil)
theorem BK{x:da}{id:Str}{e:Mq}{me:ME}{npos apos cpos pos:Pos}(hok:sc.Ok)(hx:x∈sc.vis)(hid:x.name=id)(hd:(id==("__debug__":Str))=false)(he:ah X n sc e me)(hn:fP e)(hM:lM (.Name id npos) "append" apos cpos [e]):
  bv X n sc (.Expr (.Call (.Attribute (.Name id npos) "append" apos) [e] [] cpos) pos) (.app x.slot me):=fun env A alo F₀ s₀ s st m om al F kf ke p h=>by
 subst hid
 refine ad h fun l₀ hvo h=>?_
 obtain⟨_,hc,vso,em,⟨z₀,eLo⟩,_⟩:=mr hx p hvo
 have hns:bg [e]:=fun y hy=>by rw[Kb.mp hy];exact hn
 refine L8 ?_ p.now.notInteractive rfl
 refine cx hM hns (Lq (K6 p.now.fr.kind (dK hc (p.now.fr.names x hx)) p.now.fr.ns em ?_) hd)
 refine Calls.getMethod_list_append eLo rfl rfl ?_
 refine wpAny_up ?_
 refine cM (mes:=[me]) (kvs:=fun vs st=>opt (one vs) fun v=>opt (gv st.loc x.slot) fun l=>.ask (l.length < lim) (kf .next (st.put x.slot (.own (l++[v]))))) (eV hn he jc) hns rfl p.amb p.now h (fun v s' y u=>p.xs u y) fun rs vs st' al' F' s' hk R b N' a'=>⟨dw,?_⟩
 have q:=p.step b N' a'
 refine ad hk fun v ev hk=>ad hk fun l hv hk=>?_
 obtain⟨y,rfl,Rv⟩:=R.one ev
 obtain⟨hv,_,vs,_,eL,Rl,hF,_⟩:=mr hx q hv
 have hz:=Rl.length
 refine wpAny_list_append_plain (l:=om x.slot) (items:=vs.toArray) (eL.casesOn fun z e=>⟨z,e⟩) (fun h2 hL2 hs2 u=>?_) (by rw[JR, ←hz];exact JH (Lh hk.1) aV)
 have hkk:∀b o,b≠om x.slot->s'.heap.get? b=some o->h2.get? b=some o:=fun b o z e=>(hs2.2 b z).trans e
 have pr:bB s'.heap F' h2 F':=fun b o e nf _=>⟨hkk b o (fun z=>nf (z▸hF)) e,nf⟩
 have hL2':gU h2 (om x.slot) (vs++[y]):=by obtain⟨z,e⟩:=hL2;exact⟨z,by rw[e,List.push_toArray]⟩
 exact(rb (t:=s'.toks) hok hx q hv hkk hL2' ((Rl.snoc Rv).pre pr fun _ _ e=>e) (JL _)).next hk.2
theorem pV(its its2:Array Mu)(n:Nat):∃n',Obj.mapSeq (fun x=>x++its2) {cls:=.type "list",data:=.seq its n}={cls:=.type "list",data:=.seq (its++its2) n'}:=by
 simp only[Obj.mapSeq]
 exact⟨_,rfl⟩
theorem BH{x:da}{id:Str}{e:Mq}{me:ME}{npos apos cpos pos:Pos}(hok:sc.Ok)(hx:x∈sc.vis)(hid:x.name=id)(hd:(id==("__debug__":Str))=false)(he:ah X n sc e me)(hn:fP e)(hM:lM (.Name id npos) "extend" apos cpos [e]):
  bv X n sc (.Expr (.Call (.Attribute (.Name id npos) "extend" apos) [e] [] cpos) pos) (.ext x.slot me):=fun env A alo F₀ s₀ s st m om al F kf ke p h=>by
 subst hid
 refine ad h fun l₀ hvo h=>?_
 obtain⟨_,hc,vso,em,⟨z₀,eLo⟩,_⟩:=mr hx p hvo
 have hns:bg [e]:=fun y hy=>by rw[Kb.mp hy];exact hn
 refine L8 ?_ p.now.notInteractive rfl
 refine cx hM hns (Lq (K6 p.now.fr.kind (dK hc (p.now.fr.names x hx)) p.now.fr.ns em ?_) hd)
 refine getMethod_builtin ⟨_,eLo,rfl⟩ PySem.F.plainAttrs_list PySem.F.slot_list_extend PySem.F.type_list_extend (fun a e=>by cases e;exact⟨_,eLo,rfl⟩) ?_
 refine wpAny_up ?_
 refine cM (mes:=[me]) (kvs:=fun vs st=>opt (one vs) fun v=>opt (gv st.loc x.slot) fun l=>opt (asLst v) fun r=>.ask (l.length+r.length<=lim) (kf .next (st.put x.slot (.own (l++r))))) (eV hn he jc) hns rfl p.amb p.now h (fun v s' y u=>p.xs u y) fun rs vs st' al' F' s' hk R b N' a'=>⟨dw,?_⟩
 have q:=p.step b N' a'
 refine ad hk fun v ev hk=>ad hk fun l hv hk=>ad hk fun r er hk=>?_
 obtain⟨y,rfl,Rv⟩:=R.one ev
 obtain⟨a2,vs2,rfl,eB,hB,rB⟩:=Rv.asLst er
 obtain⟨hv,_,vs,_,eL,Rl,hF,_⟩:=mr hx q hv
 have hz:=Rl.length
 have hz2:=rB.length
 obtain⟨z1,eL⟩:=eL
 obtain⟨z2,eB⟩:=eB
 have hsz:vs.length+vs2.length<=lim:=by rw[←hz, ←hz2];exact hk.1
 have hlm:=aV
 refine call_meets PySem.F.slot_list_extend ⟨_,eL,rfl⟩ PySem.F.entry_list_extend (PySem.F.args_list_extend_2 _ _) (PySem.AutoSeq1.list_extend_list_list_0 (om x.slot) vs.toArray z1 a2 vs2.toArray z2 ?_ (by rw[JR];exact JH (JH (JV _ _) hsz) hlm) (by rw[JR,JR];exact J1 (JH hsz hlm))) ⟨eL,eB,?_⟩
 ·have:Builtin.List.listTooLong (vs.toArray.size+vs2.toArray.size)=false:=by
   unfold Builtin.List.listTooLong;rw[JR,JR];exact Kg (KW.mpr (JH hsz hlm))
  rw[this];simp
 show Up s _->_
 intro u
 obtain⟨n',em'⟩:=pV vs.toArray vs2.toArray z1
 have hat:(s'.heap.update (om x.slot) (Obj.mapSeq fun y=>y++vs2.toArray)).get? (om x.slot)=some {cls:=.type "list",data:=.seq (vs.toArray++vs2.toArray) n'}:=by
  rw[KS _ eL (by rw[em'];rfl),em']
 have hkk:∀b o,b≠om x.slot->s'.heap.get? b=some o->(s'.heap.update (om x.slot) (Obj.mapSeq fun y=>y++vs2.toArray)).get? b=some o:=fun b o z e=>by
  rw[Lz _ _ (Ne.symm z)];exact e
 have pr:bB s'.heap F' (s'.heap.update (om x.slot) (Obj.mapSeq fun y=>y++vs2.toArray)) F':=fun b o e nf _=>⟨hkk b o (fun z=>nf (z▸hF)) e,nf⟩
 exact(rb (t:=s'.toks) (vs':=vs++vs2) hok hx q hv hkk ⟨n',by rw[hat,List.append_toArray]⟩ ((Rl.append rB).pre pr fun _ _ e=>e) (JL _)).next hk.2
end
section
variable {al:List (Mt×Mt)}
theorem All2.snoc{α β:Type}{R:α->β->Prop}{a:α}{b:β}(q:R a b){l:List α}{m:List β}(r:All2 R l m):All2 R (l++[a]) (m++[b]):=
 All2.rec (motive:=fun(l:List α) (m:List β) _=>All2 R (l++[a]) (m++[b])) (.cons q .nil) (fun h _ t=>.cons h t) r
theorem bT.add{a D:Mt}{o:aa}(I:bT X mu al F h)(k:∀b o,h.get? b=some o->h'.get? b=some o)(hD:¬ae h D)(hl:ae h' D)(q:aE X (al++[(a,D)]) (fun b=>F b∨b=D) h' o (a,D)):
  bT X (mu++[o]) (al++[(a,D)]) (fun b=>F b∨b=D) h':=by
 have J:=I.more k (·=D) fun b z=>by subst z;exact⟨hD,hl⟩
 have ha:∀(i:Nat) (p:Mt×Mt),al[i]? =some p->(al++[(a,D)])[i]? =some p:=fun i p e=>by rw[J6 (JT.mp e).1];exact e
 have p:bB h' (fun b=>F b∨b=D) h' (fun b=>F b∨b=D):=fun _ _ e nf _=>⟨e,nf⟩
 have hn:D∉cells al:=fun m=>hD (I.hot _ (I.cell _ m)).1
 refine⟨J.stays,J.hot,All2.snoc q (cK p (fun _ _ e _=>e) ha (fun p hp=>J5.mpr ⟨p,hp,rfl⟩) J.objs),fun b m=>?_,fun b m=>⟨(J.tabs b m).1,fun z=>?_,(J.tabs b m).2.2⟩,?_⟩
 ·simp only[cells,Kc,Ki,Kq,KG,Kb]at m
  rcases m with m|m
  ·exact J.cell b m
  ·exact .inr m
 ·simp only[cells,Kc,Ki,Kq,KG,Kb]at z
  rcases z with z|z
  ·exact(J.tabs b m).2.1 z
  ·exact hD (z▸(I.hot b (I.tabs b m).1).1)
 ·simp only[cells,Kc,Kq,KG]
  refine List.nodup_append.mpr ⟨J.nodup,by simp,fun x hx y hy z=>?_⟩
  rw[Kb.mp hy]at z
  subst z;exact hn hx
theorem kH{a D b:Mt}(m:b∈cells (al++[(a,D)])):b∈cells al∨b=D:=by
 simp only[cells,Kc,Ki,Kq,KG,Kb]at m
 exact m
theorem aO.add{a D:Mt}{o:aa}(N:aO X env sc lo m om st al F s)(k:∀b o,s.heap.get? b=some o->h'.get? b=some o)(hD:¬ae s.heap D)(hl:ae h' D)(q:aE X (al++[(a,D)]) (fun b=>F b∨b=D) h' o (a,D)){t:Nat}:
  aO X env sc lo m om {st with mu:=st.mu++[o]} (al++[(a,D)]) (fun b=>F b∨b=D) {s with heap:=h',toks:=t}:=by
 have R:=N.fr
 have p:bB s.heap F h' (fun b=>F b∨b=D):=fun b o e nf _=>⟨k _ _ e,fun z=>z.elim nf fun z=>hD (z▸⟨o,e⟩)⟩
 have out:∀{b:Mt},ae s.heap b->b∉cells al->b∉cells (al++[(a,D)]):=fun l n m=>(kH m).elim n fun z=>hD (z▸l)
 obtain⟨oL,es,ep,l1,l2,l3,l4,l5,l6⟩:=id R.locs
 refine⟨N.inv.add k hD hl q,R.move p (fun i p e=>by rw[J6 (JT.mp e).1];exact e) (fun o e=>⟨o,k _ _ e,rfl⟩) (.inl l6) (out ⟨oL,l1⟩ l3) (fun a l=>(R.prot a l).grow k) (fun x hx l hl'=>?_) fun x hx hc c e f e2=>?_⟩
 ·have qx:=R.vars x hx
  rw[hl']at qx
  obtain⟨_,_,_,⟨_,e2⟩,_,e4,e5,_⟩:=qx
  exact⟨fun o e=>k _ _ e,.inl e4,out ⟨_,e2⟩ e5⟩
 ·refine⟨k _ _ e2,.inl f,out ⟨_,e2⟩ fun hm=>?_⟩
  obtain⟨o,eo,co⟩:=N.inv.objs.cellKind c hm
  rw[e2]at eo;cases eo;exact co rfl
theorem aT.add{a D:Mt}(k:∀b o,s.heap.get? b=some o->h'.get? b=some o)(hD:¬ae s.heap D){t:Nat}:aT X lo al F s (al++[(a,D)]) (fun b=>F b∨b=D) {s with heap:=h',toks:=t}:=
 ⟨⟨fun _ l=>l.grow k,fun a o e _ _=>⟨o,k _ _ e,.refl o⟩,fun b (z:F b∨b=D)=>z.imp id fun(z:b=D)=>by rw[z];exact hD⟩,⟨[(a,D)],rfl,fun p hp=>by rw[Kb.mp hp];exact hD⟩,fun _ _ q=>.inl q,t,rfl⟩
theorem yA{es:List Mq}{mes:List ME}{lpos pos:Pos}(hes:dn X n sc es mes):bv X n sc (.Return (some (.List es lpos)) pos) (.retL mes):=fun env A alo F₀ s₀ s st m om al F kf ke p h=>by
 refine Mi ?_
 refine wpAny_up ?_
 refine List_ (fj hes p.amb p.now (fun v s' y u=>p.xs u y) h fun rs vs st' al' F' s' hk R b N' a'=>bc hk fun hln hk=>?_)
 refine Lb ?_ (R.size hln)
 ·intro u
  have q:=p.step b N' a'
  have hnew:=av s'.heap
  have k:=af (h:=s'.heap) {cls:=.type "list",data:=.seq vs.toArray}
  have hl:ae (s'.heap.push {cls:=.type "list",data:=.seq vs.toArray}) s'.heap.objs.size:=⟨_,J8 _ rfl⟩
  have ha:∀(i:Nat) (p:Mt×Mt),al'[i]? =some p->(al'++[(s'.heap.objs.size,s'.heap.objs.size)])[i]? =some p:=fun i p e=>by rw[J6 (JT.mp e).1];exact e
  have ok:aE X (al'++[(s'.heap.objs.size,s'.heap.objs.size)]) (fun b=>F' b∨b=s'.heap.objs.size) (s'.heap.push {cls:=.type "list",data:=.seq vs.toArray}) (.lst rs) (s'.heap.objs.size,s'.heap.objs.size):=
   .lst ef (R.pre (fun b o e nf _=>⟨k b o e,fun z=>z.elim nf fun z=>hnew (z▸⟨o,e⟩)⟩) ha)
  have b2:=aT.add (X:=X) (lo:=ae s₀.heap) (al:=al') (F:=F') (a:=s'.heap.objs.size) (t:=s'.toks) k hnew
  have q2:=q.step b2 (N'.add (t:=s'.toks) k hnew hl ok) (a'.aft N'.inv b2 (Up.push _ _))
  refine q2.ret hk (.obj (p:=(s'.heap.objs.size,s'.heap.objs.size)) ?_)
  rw[N'.inv.objs.length,Ky (JL _)];simp
end
section
theorem yX{K:Frag}{C x dx:Mt}{name:Str}{tk:Tok}{v:Mu}{es es':List DictEntry}{n n':Nat}(X:K.In s.heap)(hx:s.heap.get? x=some (instObj C dx))(hd:s.heap.get? dx=some (dictOf es n))
  (hp:plainOver K C=true) (ht:takerIn K C name=some none) (hh:hasDictIn K C=true) (hk:es.any (·.refKey)=false)
  (e:Obj.putName name (PyData.keyHash w.params name) (.str name s.toks) v (dictOf es n)=dictOf es' n') (hz:es'.length<=1000)
  (h:∀h',h'.get? dx=some (dictOf es' n')->Heap.SameBut dx s.heap h'->R (.ok (.ret .none)) {s with heap:=h',toks:=s.toks+1}):
  codeAny (model prog w) A (.call (.builtin "object.__setattr__") ⟨[.ref x,.str name tk,v],[]⟩) R s:=by
 have I:InstAt s.heap x (instObj C dx) C (some (dictOf es n)):=⟨hx,rfl,rfl,hd⟩
 refine osa_open X I hp ht fun b=>?_
 obtain⟨cd,hc,hd'⟩:=any_some hh
 refine JJ (JO (JJ (JJ (L6 hx (JJ ((looks_clsIn X hc).here ?_))))))
 rw[hd']
 refine JO (a:=some dx) (JJ (JO (JJ ?_)))
 unfold nsSet
 refine JJ (JJ (wpAny_askSetting (JO (JJ (wpAny_mkText (JJ (L6 hd ?_)))))))
 have hat:(s.heap.update dx (Obj.putName name (PyData.keyHash w.params name) (.str name s.toks) v)).get? dx=some (dictOf es' n'):=by
  rw[KS _ hd (by rw[e];rfl),e]
 show wpAny _ _ (if aRefKeyMayBeTheName name es.toArray then _ else _) _ _ _
 have c:(!es.toArray.any (·.key.isStr name)&&es.toArray.any (·.refKey))=false:=by
  rw[show es.toArray.any (·.refKey)=false from by rw[←Array.any_toList];exact hk,L9]
 rw[aRefKeyMayBeTheName_at,c]
 refine wpAny_updatePart hd ?_
 refine JJ (wpAny_lookBehind hat (by exact pastItsLine_dict (by rw[JR,sizeLine_eq];exact lin [_] [(1,.v 0,.n 1000)] 1 (.v 0) (.a (.n 16777216) (.n 1)) rfl hz)) ?_)
 exact JO (h _ hat (Heap.SameBut.update ..))
end
section
variable {al:List (Mt×Mt)}
inductive F6(X:Cx)(al:List (Mt×Mt))(F:Mt->Prop)(h:Heap)(w:World)(n:Nat)(l:List (At×V))(es:List DictEntry):Prop
 |mk (ks':List At) (l':List V) (vs':List Mu) (e:l=ks'.zip l') (q:All2 (fz w) es (ks'.zip vs')) (z:ks'.length=vs'.length) (r:ag X al F h l' vs') (u:es.length<=n+1)
theorem sM{a k:At}{x v:V}{l:List (At×V)}:kG a x ((k,v)::l)=if k=a then(k,x)::l else(k,v)::kG a x l:=by
 show(if decide (k=a)then(k,x)::l else(k,v)::kG a x l)=_
 by_cases h:k=a
 ·rw[if_pos h,if_pos (Kt h)]
 ·rw[if_neg h,if_neg (mt JN h)]
theorem yU{w:World}(a:At){r:V}{y:Mu}{hs:Int}{t:Tok}(hh:hs=PyData.keyHash w.params (aH a))(Rr:Rep X al F h r y)(ks:List At):∀{l:List V} {vs:List Mu} {es:List DictEntry},All2 (fz w) es (ks.zip vs)->ks.length=vs.length->ag X al F h l vs->
  F6 X al F h w es.length (kG a r (ks.zip l)) (putL (aH a) hs (.str (aH a) t) y es):=by
 induction ks with
 |nil=>
  intro l vs es q hl R
  have e:es=[]:=q.inv
  subst e
  exact⟨[a],[r],[y],rfl,.cons ⟨t,rfl,hh,rfl⟩ .nil,rfl,.cons Rr .nil,JL _⟩
 |cons k ks ih=>
  intro l vs es q hl R
  cases l with
  |nil=>obtain rfl:=R.inv;cases hl
  |cons v0 l0=>
  obtain⟨v,vs,rfl,r1,R2⟩:=R.inv
  obtain⟨e,es0,eq,q1,q2⟩:∃e es0,es=e::es0/\fz w e (k,v)/\All2 (fz w) es0 (ks.zip vs):=q.inv
  subst eq
  have hq:=q1
  obtain⟨t0,e1,e2,e3⟩:=q1
  show F6 X al F h w (es0.length+1) (kG a r ((k,v0)::ks.zip l0)) (if e.key.isStr (aH a)=true then{e with val:=y}::es0 else e::putL (aH a) hs (.str (aH a) t) y es0)
  rw[sM,lx hq]
  by_cases hka:k=a
  ·rw[if_pos hka,if_pos (Kt hka)]
   exact⟨k::ks,r::l0,y::vs,rfl,.cons ⟨t0,e1,e2,rfl⟩ q2,hl,.cons Rr R2,Lf _⟩
  ·rw[if_neg hka,if_neg (mt JN hka)]
   obtain⟨ks',l',vs',h1,h2,h3,h4,h5⟩:=ih q2 (Nat.succ.inj hl) R2
   rw[h1]
   exact⟨k::ks',v0::l',v::vs',rfl,.cons hq h2,congrArg Nat.succ h3,.cons r1 h4,JW h5⟩
end
section
variable {al:List (Mt×Mt)}
theorem aE.pre1(x:bB h F h' F'){o:aa}{p:Mt×Mt}(k:∀o,h.get? p.2=some o->h'.get? p.2=some o)(q:aE X al F h o p):aE X al F' h' o p:=by
 cases q with
 |lst e r=>obtain⟨n,e⟩:=e;exact .lst ⟨n,k _ e⟩ (r.pre x fun _ _ e=>e)
 |ins c e f d z r=>
  obtain⟨es,n,e',r',r'_1⟩:=d
  have p:=x _ _ e f (.inl (by simp[instObj]))
  exact .ins c p.1 p.2 ⟨es,n,k _ e',r',r'_1⟩ z (r.pre x fun _ _ e=>e)
 |exc c e=>obtain⟨dd,sl,t,e⟩:=e;exact .exc c ⟨dd,sl,t,k _ e⟩
 |dead e h1 h2=>exact .dead (k _ e) h1 h2
theorem lc{l:List (Mt×Mt)}(nd:(cells l).Nodup){i j:Nat}{p q:Mt×Mt}(hi:l[i]? =some p)(hj:l[j]? =some q)(e:p.2=q.2):i=j:=by
 have h1:(cells l)[i]? =some p.2:=by simp[cells,K3,hi]
 have h2:(cells l)[j]? =some p.2:=by simp[cells,K3,hj,e]
 exact(List.getElem?_inj (JT.mp h1).1 nd).mp (h1.trans h2.symm)
theorem All2.idx{α β:Type}{R R':α->β->Prop}{mu:List α}{l:List β}(r:All2 R mu l):(∀(i:Nat) (o:α) (q:β),l[i]? =some q->R o q->R' o q)->All2 R' mu l:=
 All2.rec (motive:=fun(mu:List α) (l:List β) _=>(∀(i:Nat) (o:α) (q:β),l[i]? =some q->R o q->R' o q)->All2 R' mu l) (fun _=>.nil) (fun a _ ih f=>.cons (f 0 _ _ rfl a) (ih fun i=>f (i+1))) r
theorem All2.set{α β:Type}{R R':α->β->Prop}{mu:List α}{l:List β}{o':α}{p:β}(r:All2 R mu l):∀{j:Nat},l[j]? =some p->(∀(i:Nat) (o:α) (q:β),i≠j->l[i]? =some q->R o q->R' o q)->R' o' p->All2 R' (mu.set j o') l:=by
 induction r with
 |nil=>exact fun e=>nomatch e
 |cons a t ih=>
  intro j e f ok
  cases j with
  |zero=>cases e;exact .cons ok (t.idx fun i o q e=>f (i+1) o q (Lm i) e)
  |succ j=>exact .cons (f 0 _ _ (Lm j).symm rfl a) (ih e (fun i o q ne=>f (i+1) o q fun z=>ne (Nat.succ.inj z)) ok)
theorem vn(x:bB h F h' F'){d:Mt}(k:∀b o,b≠d->h.get? b=some o->h'.get? b=some o){o':aa}{mu:List aa}{l:List (Mt×Mt)}{j:Nat}{p:Mt×Mt}(r:All2 (aE X al F h) mu l)(nd:(cells l).Nodup)(e:l[j]? =some p)(hd:p.2=d)(ok:aE X al F' h' o' p):All2 (aE X al F' h') (mu.set j o') l:=
 r.set e (fun i o q ne eq a=>a.pre1 x fun o e'=>k _ o (fun z=>ne (lc nd eq e (z.trans hd.symm))) e') ok
theorem bE.set{j:Nat}{a d:Mt}{o':aa}{od:Obj}(p:bE X n A env sc alo F₀ s₀ m om st al F s)(ej:al[j]? =some (a,d))(hk:∀b o,b≠d->s.heap.get? b=some o->h'.get? b=some o)(hl:ae h' d)(ok:aE X al F h' o' (a,d))(hod:s.heap.get? d=some od)(hcl:od.cls≠ .type "frame")(hce:od.cls≠ .type "cell"){t:Nat}(ht:s.toks<=t):
  bE X n A env sc alo F₀ s₀ m om ⟨st.loc,st.mu.set j o'⟩ al F {s with heap:=h',toks:=t}:=by
 have hm:d∈cells al:=J5.mpr ⟨(a,d),List.mem_of_getElem? ej,rfl⟩
 have hF:=p.now.inv.cell d hm
 have R:=p.now.fr
 have pr:bB s.heap F h' F:=fun b o e nf _=>⟨hk b o (fun z=>nf (z▸hF)) e,nf⟩
 have hB:X.B.get? d=none:=(p.now.inv.hot d hF).2
 have lv:∀{b},ae s.heap b->ae h' b:=fun{b} qz=>qz.casesOn fun o e=>by
  by_cases z:b=d
  ·subst z;exact hl
  ·exact⟨o,hk b o z e⟩
 have aft:aT X (ae s₀.heap) alo F₀ s₀ al F {s with heap:=h',toks:=t}:=by
  have x:=p.aft
  refine⟨⟨fun b l=>lv (x.tr.live b l),fun b o e h1 h2=>?_,x.tr.hot⟩,x.ext,x.mono,?_⟩
  ·obtain⟨o1,e1,z⟩:=x.tr.keep b o e h1 h2
   refine⟨o1,hk b o1 (fun q=>?_) e1,z⟩
   obtain⟨more,rfl,hmore⟩:=x.ext
   simp only[cells,Kc,Ki]at hm
   rcases hm with hm|hm
   ·exact h1 (q▸hm)
   ·obtain⟨p',hp,hp2⟩:=J5.mp hm
    exact hmore p' hp (by rw[hp2, ←q];exact⟨o,e⟩)
  ·obtain⟨tk,e⟩:=x.rest
   exact⟨t,by rw[e]⟩
 obtain⟨oL,es,ep,l1,l2,l3,l4,l5,l6⟩:=id R.locs
 have hLd:env.locals≠d:=fun z=>l3 (z▸hm)
 refine⟨p.own,p.amb.touched hod hcl hk ht,⟨⟨fun b o e=>hk b o (fun z=>by rw[z,hB]at e;cases e) (p.now.inv.stays b o e),fun b q=>⟨lv (p.now.inv.hot b q).1,(p.now.inv.hot b q).2⟩,vn pr hk p.now.inv.objs p.now.inv.nodup ej rfl ok,p.now.inv.cell,fun b q=>⟨(p.now.inv.tabs b q).1,(p.now.inv.tabs b q).2.1,(p.now.inv.tabs b q).2.2.move pr fun o e=>hk _ _ (fun z=>(p.now.inv.tabs b q).2.1 (z▸hm)) e⟩,p.now.inv.nodup⟩,R.move pr (fun _ _ e=>e) (fun o e=>⟨o,hk _ _ hLd e,rfl⟩) l6 l3 aft.tr.live (fun x hx l hl'=>?_) fun x hx hc c e f e2=>?_⟩,aft⟩
 ·have qx:=R.vars x hx
  rw[hl']at qx
  obtain⟨_,_,_,_,_,e4,e5,_⟩:=qx
  exact⟨fun o e=>hk _ _ (fun z=>e5 (z▸hm)) e,e4,e5⟩
 ·have hcd:c∉cells al:=fun hm=>by
   obtain⟨o,eo,co⟩:=p.now.inv.objs.cellKind c hm
   rw[e2]at eo;cases eo;exact co rfl
  exact⟨hk _ _ (fun z=>hcd (z▸hm)) e2,f,hcd⟩
theorem il{o value:Mq}{a:Str}{pos pos':Pos}{Q:Flow->Ms->Prop}{E:Mu->Ms->Prop}(hn:cY value)(h:wpAny (model X.prog X.w) A (eval value env) (fun v s₁=>wpAny (model X.prog X.w) A (assign (.Attribute o a pos') env v) (fun _=>Q .next) E s₁) E s):
  wpAny (model X.prog X.w) A (exec (.Assign [.Attribute o a pos'] value pos) env) Q E s:=by
 rw[PyProof.Rows.exec_Assign]
 refine JJ (Kf ?_)
 rw[show swapsWithSole [.Attribute o a pos'] value pos.line env=pure false from(show swapsWith value (some (.Attribute o a pos')) pos.line env=pure false from hn _ _ _)]
 refine JJ (JO ?_)
 rw[if_neg (by decide)]
 refine JJ (J0 h (fun v s₁ h₁=>?_) fun _ _ x=>x)
 rw[show swappedStores [.Attribute o a pos'] value env=pure none from by cases value<;>rfl]
 refine JJ (JO ?_)
 show wpAny _ A (do assignAll v [assign (.Attribute o a pos') env];pure .next) Q E s₁
 exact JJ (J0 h₁ (fun _ _ x=>JO x) fun _ _ x=>x)
theorem lH(G:Kd X){A':Around}{r r':V}{a:At}{x v:Mu}{Q:Unit->Ms->Prop}{E:Mu->Ms->Prop}(q₂:bE X n A env sc alo F₀ s₀ m om st al F s)(RZ:Rep X al F s.heap r' x)(Rv:Rep X al F s.heap r v)
  (h₂:wp (Wd X n) (opt (asObj r') fun j=>.look st.mu j fun ob=>opt (sW ob) fun p=>gate (cQ p.1 a) (gate (Nat.blt p.2.length 20) (kf .next ⟨st.loc,st.mu.set j (.ins p.1 (kG a r p.2))⟩))))
  (go:∀st' s',bE X n A env sc alo F₀ s₀ m om st' al F s'->wp (Wd X n) (kf .next st')->Q () s'):wpAny (model X.prog X.w) A' (setAttr x (aH a) v) Q E s:=by
 refine ad h₂ fun j ej h₂=>?_
 obtain⟨⟨a',d⟩,ea,rfl⟩:=RZ.asObj ej
 obtain⟨ob,em,h₂⟩:=h₂
 refine ad h₂ fun pq epq h₂=>bc h₂ fun hda h₂=>bc h₂ fun hlen hk=>?_
 rcases(jF q₂.now.inv ea em).insOf epq with⟨hc,ks,vs,l,el,he',hF,hD,hz,hr⟩|⟨hc,_⟩
 ·rw[el]at hlen hk
  obtain⟨es,n',e',hl20,hq⟩:=hD
  have hin:=q₂.now.inv.inn G
  have hrg:=ew hda
  have hset:=G.set pq.1 hrg.1 hrg.2
  obtain⟨ks',l',vs',g1,g2,g3,g4,g5⟩:=yU a (t:=s.toks+1) rfl Rv ks hq hz hr
  have hk1000:(putL (aH a) (PyData.keyHash X.w.params (aH a)) (.str (aH a) (s.toks+1)) v es).length<=20:=by
   have e1:es.length=ks.length:=by rw[Mine.All2.length hq,Mo, ←hz];exact Nat.min_self _
   have e2:=hr.length
   have hlen:=JI hlen
   rw[Mo]at hlen
   rw[Nat.min_eq_left (JZ (hz.trans e2.symm)), ←e1]at hlen
   exact JH g5 hlen
  refine set_plain (od:=some (dictOf es n')) hin (I:=⟨he',rfl,rfl,e'⟩) hset.1 ?_
  refine yX (s:={s with toks:=s.toks+1}) hin he' e' hset.2.1 (by unfold takerIn;rw[G.data pq.1 a hda];rfl) hset.2.2 (hV hq) (putName_dict _ _ _ _ _ _) (JH hk1000 (by decide)) fun h' hat hsb=>?_
  have hkk:∀b o,b≠d->s.heap.get? b=some o->h'.get? b=some o:=fun b o z e=>(hsb.2 b z).trans e
  have hm:d∈cells al:=J5.mpr ⟨(a',d),List.mem_of_getElem? ea,rfl⟩
  have hdF:=q₂.now.inv.cell d hm
  have pr:bB s.heap F h' F:=fun b o e nf _=>⟨hkk b o (fun z=>nf (z▸hdF)) e,nf⟩
  have ok:aE X al F h' (.ins pq.1 (ks'.zip l')) (a',d):=.ins hc (pr _ _ he' hF (.inl (by simp[instObj]))).1 hF ⟨_,_,hat,hk1000,g2⟩ g3 (g4.pre pr fun _ _ e=>e)
  have q3:=q₂.set (t:=s.toks+1+1) ea hkk ⟨_,hat⟩ ok e' (by simp[dictOf]) (by simp[dictOf]) (by exact lin [_] [] 1 (.v 0) (.a (.a (.v 0) (.n 1)) (.n 1)) rfl)
  rw[g1]at hk
  exact go _ _ q3 hk
 ·exact absurd hc (KW.mpr (ew hda).1)
theorem yH(G:Kd X){o value:Mq}{mo me:ME}{a:At}{pos pos':Pos}(ho:ah X n sc o mo)(he:ah X n sc value me)(hn:cY value):bv X n sc (.Assign [.Attribute o (aH a) pos'] value pos) (.asgA mo a me):=fun env A alo F₀ s₀ s st m om al F kf ke p h=>by
 refine il hn (c8 he p h fun r v sti ali F₁ s₁ h₁ Ri b₁ q₁=>?_)
 rw[arm_assign_Attribute]
 refine JJ (Kp (c8 ho q₁ h₁ fun r' x stz alz F₂ s₂ h₂ RZ b₂ q₂=>?_))
 exact JJ (Kf (JJ (Kp (lH G q₂ RZ (b₂.rep q₁.now.inv Ri) h₂ fun st' s' q hk=>Me (q.next hk)))))
end
section
variable {al:List (Mt×Mt)}
theorem yy{b:List Stmt}{mb:List MS}{h0:ExceptHandler}{hs:List ExceptHandler}{pos:Pos}(hb:bH X n sc b mb):bv X n sc (.Try b (h0::hs) [] [] pos) (.tryN mb):=fun env A alo F₀ s₀ s st m om al F kf ke p h=>by
 refine wpAny_Try_except (J0 (hb env A alo F₀ s₀ s st m om al F kf _ p h) (fun f s' x=>?_) fun v s' x=>?_)
 ·cases f with
  |next=>exact Lo x
  |ret v=>exact x
  |brk=>exact x
  |cont=>exact x
 ·obtain⟨_,_,_,_,_,_,f,_⟩:=x;exact f.elim
end
section
theorem pU(its:Array Mu)(n j:Nat)(v:Mu):∃n',Obj.mapSeq (·.setIfInBounds j v) {cls:=.type "list",data:=.seq its n}={cls:=.type "list",data:=.seq (its.setIfInBounds j v) n'}:=by
 simp only[Obj.mapSeq]
 exact⟨_,rfl⟩
theorem nM{l:Mt}{vs:List Mu}{k:Int}{t:Tok}{v:Mu}{Q:Unit->Ms->Prop}(hl:gU s.heap l vs)(h0:0<=k)(hfit:k < 2^63)(hn:k < vs.length)
  (hQ:∀h',gU h' l (vs.set k.toNat v)->Heap.SameBut l s.heap h'->Q () {s with heap:=h'}):wpAny (model prog w) A (setItem (.ref l) (.int k t) v) Q E s:=by
 obtain⟨z,ho⟩:=hl
 have ty:s.TypeIs (.ref l) "list":=⟨_,ho,rfl⟩
 unfold setItem
 refine Kp ?_
 refine JJ (wpAny_sequenceKey ty (by decide) ?_)
 refine JJ (wpAny_callSpecial?_slot (name:=Str.ofString "__setitem__") ty slot_list_setitem (wpAny_call_entry slot_list_setitem ty entry_list_setitem ?_ (args_list_setitem _ _ _)))
 show wpAny _ _ (Builtin.List.listSubscript? (.int k t)>>=_) _ _ s
 refine JJ (wpAny_listSubscript_int (fitsIndex_of h0 hfit) ?_)
 clear hfit
 obtain⟨j,rfl⟩:=Int.eq_ofNat_of_zero_le h0
 have hj:j < vs.toArray.size:=by rw[JR];exact Int.ofNat_lt.mp hn
 have hx':vs.toArray[j]? =some vs.toArray[j]:=Array.getElem?_eq_getElem hj
 show wpAny _ _ ((seqItemAt l j>>=fun r=>pure (r.map (j,·)))>>=_) _ _ s
 refine JJ (JJ (wpAny_seqItemAt ho rfl (JO ?_)))
 rw[hx']
 show wpAny _ _ (setSeqItemAt l j v>>=_) _ _ s
 obtain⟨n',em⟩:=pU vs.toArray z j v
 have hfin:gU (s.heap.update l (Obj.mapSeq (·.setIfInBounds j v))) l (vs.set j v):=
  ⟨n',by rw[KS _ ho (by rw[em];rfl),em,List.setIfInBounds_toArray]⟩
 refine JJ (wpAny_setSeqItemAt ho rfl ?_)
 first
  |exact JJ (JO (JO ⟨.none,rfl,JO (hQ _ hfin (Heap.SameBut.update ..))⟩))
  |exact JO ⟨.none,rfl,JO (hQ _ hfin (Heap.SameBut.update ..))⟩
end
section
variable {al:List (Mt×Mt)}
theorem ag.set{l:List V}{vs:List Mu}{v:V}{y:Mu}(Rv:Rep X al F h v y)(j:Nat)(r:ag X al F h l vs):ag X al F h (l.set j v) (vs.set j y):=by
 refine r.ind (P:=fun l vs=>∀j,ag X al F h (l.set j v) (vs.set j y)) (fun _=>.nil) (fun a x l xs Ra R ih j=>?_) j
 cases j with
 |zero=>exact .cons Rv R
 |succ j=>exact .cons Ra (ih j)
theorem tG{o i value:Mq}{pos pos':Pos}{Q:Flow->Ms->Prop}{E:Mu->Ms->Prop}(hn:cY value)(h:wpAny (model X.prog X.w) A (eval value env) (fun v s₁=>wpAny (model X.prog X.w) A (assign (.Subscript o i pos') env v) (fun _=>Q .next) E s₁) E s):
  wpAny (model X.prog X.w) A (exec (.Assign [.Subscript o i pos'] value pos) env) Q E s:=by
 rw[PyProof.Rows.exec_Assign]
 refine JJ (Kf ?_)
 rw[show swapsWithSole [.Subscript o i pos'] value pos.line env=pure false from(show swapsWith value (some (.Subscript o i pos')) pos.line env=pure false from hn _ _ _)]
 refine JJ (JO ?_)
 rw[if_neg (by decide)]
 refine JJ (J0 h (fun v s₁ h₁=>?_) fun _ _ x=>x)
 rw[show swappedStores [.Subscript o i pos'] value env=pure none from by cases value<;>rfl]
 refine JJ (JO ?_)
 show wpAny _ A (do assignAll v [assign (.Subscript o i pos') env];pure .next) Q E s₁
 exact JJ (J0 h₁ (fun _ _ x=>JO x) fun _ _ x=>x)
theorem yF{o i value:Mq}{mo mi me:ME}{pos pos':Pos}(ho:ah X n sc o mo)(hi:ah X n sc i mi)(he:ah X n sc value me)(hn:cY value):bv X n sc (.Assign [.Subscript o i pos'] value pos) (.asgI mo mi me):=fun env A alo F₀ s₀ s st m om al F kf ke p h=>by
 refine tG hn (c8 he p h fun r v sti ali F₁ s₁ h₁ Ri b₁ q₁=>?_)
 rw[arm_assign_Subscript]
 refine JJ (Kp (c8 ho q₁ h₁ fun r' x stz alz F₂ s₂ h₂ RZ b₂ q₂=>?_))
 refine JJ (Kp (c8 hi q₂ h₂ fun r3 y ste alE F₃ s₃ h₃ RE b₃ q₃=>?_))
 have Rv:=b₃.rep q₂.now.inv (b₂.rep q₁.now.inv Ri)
 have Ro:=b₃.rep q₂.now.inv RZ
 refine ad h₃ fun j ej h₃=>ad h₃ fun k ek h₃=>?_
 obtain⟨⟨a,d⟩,ea,rfl⟩:=Ro.asObj ej
 obtain⟨u,rfl⟩:=RE.asInt ek
 obtain⟨ob,em,h₃⟩:=h₃
 refine ad h₃ fun l el h₃=>ad h₃ fun pl epl h₃=>?_
 obtain⟨h0,hk⟩:=h₃
 obtain⟨vs,hL,hr,ed⟩:=(jF q₃.now.inv ea em).lstOf el
 have ed:d=a:=ed
 subst ed
 ·obtain⟨p1,p2,p3,p4⟩:=gZ epl
  have hz:=hr.length
  have hpl:pl=k.toNat:=by
   rcases jy epl with⟨_,_,e,_⟩|⟨g,_,_,_,_⟩
   ·exact e
   ·exact absurd g (KK.mpr h0)
  have hkn:k < vs.length:=by rw[←hz];rw[hpl]at p4;exact(Int.toNat_lt h0).mp p4
  refine JJ (Kf (JJ (Kp (nM hL h0 p3 hkn fun h' hL' hsb=>?_))))
  refine Me ?_
  have hkk:∀b o,b≠d->s₃.heap.get? b=some o->h'.get? b=some o:=fun b o z e=>(hsb.2 b z).trans e
  have hm:d∈cells alE:=J5.mpr ⟨(d,d),List.mem_of_getElem? ea,rfl⟩
  have hdF:=q₃.now.inv.cell d hm
  have pr:bB s₃.heap F₃ h' F₃:=fun b o e nf _=>⟨hkk b o (fun z=>nf (z▸hdF)) e,nf⟩
  have ok:aE X alE F₃ h' (.lst (l.set pl r)) (d,d):=.lst (by rw[hpl];exact hL') (hpl▸(ag.set (l:=l) (vs:=vs) (Rv.pre pr fun _ _ e=>e) k.toNat (hr.pre pr fun _ _ e=>e)))
  obtain⟨z,eL⟩:=hL
  have q4:=q₃.set (t:=s₃.toks) ea hkk (hL'.casesOn fun _ e=>⟨_,e⟩) ok eL (by simp) (by simp) (JL _)
  exact q4.next hk
end
section
theorem sL{K:Frag}{x:Sem Mu}{Q:Flow->Ms->Prop}(hh:A.handled=none)
  (h:wpAny (model prog w) A x (fun v s₁=>∃e oe vs C,mroIn K C (.type "BaseException")=some true/\typeIn K (.ref C)=some (.type "type")/\v=.ref e/\K.In s₁.heap/\s₁.heap.get? e=some oe/\oe.cls=.ref C/\oe.data=.fields vs/\vs[1]? =some .none/\E (.ref e) s₁) E s):
  wpAny (model prog w) A (raiseStmt env (some x) none) Q E s:=by
 unfold raiseStmt
 refine JJ (J0 h (fun v s₁ h₁=>?_) fun _ _ x=>x)
 obtain⟨e,oe,vs,C,hm,ht,rfl,X,ha,hc,hd,h1,hE⟩:=h₁
 have L0:Looks (model prog w) s₁.heap (isType (.ref e)) false:=(Looks.ld (part:=none) ha).andThen (by rw[hd];exact .now)
 have LT:Looks (model prog w) s₁.heap (typeOf (.ref e)) (.ref C):=hc▸(Looks.ld ha).andThen .now
 have L1:Looks (model prog w) s₁.heap (isInstance (.ref e) (.type "BaseException")) true:=LT.andThen (looks_mroIn X hm)
 have L2:Looks (model prog w) s₁.heap (isExcClass (.ref e)) false:=L0.andThen .now
 have L3:Looks (model prog w) s₁.heap (excFromValue (.ref e) "exceptions must derive from BaseException") (.ref e):=L2.andThen (L1.andThen .now)
 have L4:Looks (model prog w) s₁.heap (typeOf (.ref C)) (.type "type"):=looks_typeIn X ht
 have L5:Looks (model prog w) s₁.heap (raisedInstance (.ref e)) (.ref e):=LT.andThen (L4.andThen .now)
 refine JJ (JO ?_)
 refine JJ (Kp (L3.here ?_))
 refine JJ (L0.here ?_)
 refine JJ (L5.here ?_)
 refine JJ ?_
 unfold setFlight
 refine JJ (L7 ha hd h1 ?_)
 refine JO ?_
 exact wpAny_raiseNew_none hh hE
end
section
variable {al:List (Mt×Mt)}
structure gV(X:Cx)(h h':Heap)(e:Mt)(T:Mt->Prop):Prop where
 keep:∀b o,h.get? b=some o->b≠e->¬T b->Ga h' b o
 exc:∃o',h'.get? e=some o'/\o'.cls≠ .type "frame"/\o'.cls≠ .type "cell"
 stay:∀b o,X.B.get? b=some o->h'.get? b=some o
noncomputable def eH(F T:Mt->Prop)(h h':Heap)(T':Mt):Mt->Prop:=fun a=>(F a/\¬T a)∨(a=T'/\(T a∨¬ae h a)/\ae h' a)
theorem gV.live{e:Mt}{T:Mt->Prop}(d:gV X h h' e T){b:Mt}(l:ae h b)(y:¬T b):ae h' b:=by
 by_cases z:b=e
 ·obtain⟨o,e1,_⟩:=d.exc;exact⟨o,z▸e1⟩
 ·obtain⟨o,eo⟩:=l
  obtain⟨o',e',_⟩:=d.keep b o eo z y
  exact⟨o',e'⟩
theorem gV.same{e:Mt}{T:Mt->Prop}(d:gV X h h' e T){b:Mt}{o:Obj}(eb:h.get? b=some o)(h1:b≠e)(h2:¬T b)(hn:kq o):h'.get? b=some o:=by
 obtain⟨o',e',s⟩:=d.keep b o eb h1 h2
 rwa[s.same hn]at e'
theorem gV.pre{e T':Mt}{T:Mt->Prop}(d:gV X h h' e T)(he:F e)(hT:∀b,T b->F b):bB h F h' (eH F T h h' T'):=fun b o eb nf hn=>
 ⟨d.same eb (fun z=>nf (z▸he)) (fun z=>nf (hT b z)) hn,fun z=>z.elim (fun z=>nf z.1) fun z=>z.2.1.elim (fun z=>nf (hT b z)) fun z=>z ⟨o,eb⟩⟩
theorem sU{e T':Mt}{T:Mt->Prop}(d:gV X h h' e T)(he:F e)(hT:∀b,T b->F b):∀{mu:List aa} {l:List (Mt×Mt)},All2 (aE X al F h) mu l->(∀p∈l,¬T p.2)->(∀(j:Nat) (o:aa) (p:Mt×Mt),mu[j]? =some o->l[j]? =some p->p.2=e->o=.dead)->All2 (aE X al (eH F T h h' T') h') mu l:=by
 intro mu l t
 induction t with
 |nil=>exact fun _ _=>.nil
 |@cons o p mu l q t ih=>
  intro hc hd
  refine .cons ?_ (ih (fun p hp=>hc p (.tail _ hp)) fun j o p h1 h2=>hd (j+1) o p h1 h2)
  by_cases z:p.2=e
  ·have:=hd 0 o p rfl rfl z
   subst this
   obtain⟨a,b⟩:=p
   dsimp only at z
   subst z
   obtain⟨o',e',c1,c2⟩:=d.exc
   exact .dead e' c1 c2
  ·have pr:=d.pre (F:=F) (T':=T') he hT
   have hk:∀o,h.get? p.2=some o->kq o->h'.get? p.2=some o:=fun o eo hn=>d.same eo z (hc p (.head _)) hn
   cases q with
   |lst e r=>exact e.casesOn fun n e=>.lst ⟨n,hk _ e (.inl (by simp))⟩ (r.pre pr fun _ _ e=>e)
   |ins c e f dd zz r=>
    have p:=pr _ _ e f (.inl (by simp[instObj]))
    exact dd.casesOn fun es n e' r' r'_1=>.ins c p.1 p.2 ⟨es,n,hk _ e' (.inl (by simp[dictOf])),r',r'_1⟩ zz (r.pre pr fun _ _ e=>e)
   |exc c e=>obtain⟨dd,sl,t,e⟩:=e;exact .exc c ⟨dd,sl,t,hk _ e (.inr ⟨_,rfl⟩)⟩
   |dead e h1 h2=>exact .dead (hk _ e (.inl h1)) h1 h2
structure qw(X:Cx)(al:List (Mt×Mt))(F:Mt->Prop)(h:Heap)(T:Mt->Prop):Prop where
 hot:∀b,T b->F b
 cell:∀b,T b->b∉cells al
 tab:∀b,T b->b∉X.tabs
 kind:∀b,T b->∃o ts,h.get? b=some o/\o.data=.fields ts
theorem bT.drag{e T':Mt}{T:Mt->Prop}{j:Nat}(I:bT X mu al F h)(d:gV X h h' e T)(hT:qw X al F h T)(hj:mu[j]? =some .dead)(ha:al[j]? =some (e,e)):bT X mu al (eH F T h h' T') h':=by
 have hm:e∈cells al:=J5.mpr ⟨(e,e),List.mem_of_getElem? ha,rfl⟩
 have he:F e:=I.cell e hm
 have pr:=d.pre (F:=F) (T':=T') he hT.hot
 have dd:∀(i:Nat) (o:aa) (p:Mt×Mt),mu[i]? =some o->al[i]? =some p->p.2=e->o=.dead:=fun i o p h1 h2 h3=>by
  have:=lc I.nodup h2 ha h3
  subst this
  rw[hj]at h1;cases h1;rfl
 have tabT:∀a∈X.tabs,¬T a:=fun a m z=>hT.tab a z m
 have tabE:∀a∈X.tabs,a≠e:=fun a m z=>(I.tabs a m).2.1 (z▸hm)
 refine⟨d.stay,fun a z=>?_,sU d he hT.hot I.objs (fun p hp z=>hT.cell _ z (J5.mpr ⟨p,hp,rfl⟩)) dd,fun a m=>.inl ⟨I.cell a m,fun z=>hT.cell a z m⟩,fun a m=>⟨.inl ⟨(I.tabs a m).1,fun z=>hT.tab a z m⟩,(I.tabs a m).2.1,(I.tabs a m).2.2.move pr fun o eo=>?_⟩,I.nodup⟩
 ·rcases z with z|⟨rfl,z1,z2⟩
  ·exact⟨d.live (I.hot a z.1).1 z.2,(I.hot a z.1).2⟩
  ·refine⟨z2,?_⟩
   rcases z1 with z1|z1
   ·exact(I.hot a (hT.hot a z1)).2
   cases q:X.B.get? a with
   |none=>rfl
   |some o=>exact absurd ⟨o,I.stays a o q⟩ z1
 ·obtain⟨ps,e3,_⟩:=(I.tabs a m).2.2
  refine d.same eo (tabE a m) (tabT a m) (.inl ?_)
  rw[eo]at e3;cases e3;simp[tabObj]
theorem aO.drag{e T':Mt}{T:Mt->Prop}{j:Nat}(N:aO X env sc lo m om st al F s)(d:gV X s.heap h' e T)(hT:qw X al F s.heap T)(hlo:∀b,T b->¬lo b)(hj:st.mu[j]? =some .dead)(ha:al[j]? =some (e,e)):aO X env sc lo m om st al (eH F T s.heap h' T') {s with heap:=h'}:=by
 have hm:e∈cells al:=J5.mpr ⟨(e,e),List.mem_of_getElem? ha,rfl⟩
 have he:F e:=N.inv.cell e hm
 have pr:=d.pre (F:=F) (T':=T') he hT.hot
 have R:=N.fr
 obtain⟨oL,es,ep,l1,l2,l3,l4,l5,l6⟩:=R.locs
 have noT:∀{b:Mt} {o:Obj},s.heap.get? b=some o->(∀vs,o.data≠ .fields vs)->¬T b:=fun{b o} e1 h1 z=>by
  obtain⟨o',ts,e2,e3⟩:=hT.kind _ z
  rw[e1]at e2;cases e2;exact h1 _ e3
 refine⟨N.inv.drag d hT hj ha,R.move pr (fun _ _ e=>e) (fun o eo=>?_) (.inl ⟨l6,noT l1 (by intro vs q;rw[l2]at q;cases q)⟩) l3 (fun a l=>d.live (R.prot a l) fun z=>hlo a z l) (fun x hx l hl=>?_) fun x hx hc c ec fc e2=>?_⟩
 ·obtain⟨o',e',q⟩:=d.keep _ o eo (fun z=>l3 (z▸hm)) (noT eo (by rw[l1]at eo;cases eo;intro vs q;rw[l2]at q;cases q))
  exact⟨o',e',q.data.1⟩
 ·have qx:=R.vars x hx
  rw[hl]at qx
  obtain⟨_,_,_,⟨_,e2⟩,_,e4,e5,_⟩:=qx
  refine⟨fun o eo=>?_,.inl ⟨e4,noT e2 (by simp)⟩,e5⟩
  exact d.same eo (fun z=>e5 (z▸hm)) (noT e2 (by simp)) (by rw[eo]at e2;cases e2;exact .inl (by simp))
 ·have hcd:c∉cells al:=fun hm=>by
   obtain⟨o,eo,co⟩:=N.inv.objs.cellKind c hm
   rw[e2]at eo;cases eo;exact co rfl
  exact⟨d.same e2 (fun z=>hcd (z▸hm)) (noT e2 (by simp)) (.inl (by simp)),.inl ⟨fc,noT e2 (by simp)⟩,hcd⟩
theorem aT.drag{e T':Mt}{T:Mt->Prop}(x:aT X lo al F s al' F' s₁)(he:e∈cells al')(d:gV X s₁.heap h' e T)(hT:∀b,T b->¬ae s.heap b)(hTF:∀b,T b->F' b)(hlo:∀b,T b->¬lo b):aT X lo al F s al' (eH F' T s₁.heap h' T') {s₁ with heap:=h'}:=by
 refine⟨⟨fun a l=>d.live (x.tr.live a l) fun z=>hT a z l,fun a o eo h1 h2=>?_,fun a z=>?_⟩,x.ext,fun a l q=>.inl ⟨x.mono a l q,fun z=>hlo a z l⟩,?_⟩
 ·obtain⟨o',e',q⟩:=x.tr.keep a o eo h1 h2
  have n1:a≠e:=fun z=>by
   obtain⟨more,rfl,hmore⟩:=x.ext
   simp only[cells,Kc,Ki]at he
   rcases he with he|he
   ·exact h1 (z▸he)
   ·obtain⟨p',hp,hp2⟩:=J5.mp he
    exact hmore p' hp (by rw[hp2, ←z];exact⟨o,eo⟩)
  obtain⟨o'',e'',q'⟩:=d.keep a o' e' n1 (fun z=>hT a z ⟨o,eo⟩)
  exact⟨o'',e'',q.trans q'⟩
 ·rcases z with z|⟨rfl,z1,z2⟩
  ·exact x.tr.hot a z.1
  ·rcases z1 with z1|z1
   ·exact x.tr.hot a (hTF a z1)
   ·exact .inr fun l=>z1 (x.tr.live a l)
 ·obtain⟨tk,e⟩:=x.rest
  exact⟨tk,by rw[e]⟩
theorem bI.drag{e:Mt}{T:Mt->Prop}(a:bI X A n s)(d:gV X s.heap h' e T)(he:∀o,s.heap.get? e=some o->o.cls≠ .type "frame")(hT:∀b,T b->∃o ts,s.heap.get? b=some o/\o.data=.fields ts):bI X A n {s with heap:=h'}:=by
 obtain⟨h0,h1,h2,h3,l,h4,h5⟩:=a
 refine⟨h0,h1,h2,h3,l,h4,fun ee hee=>?_⟩
 obtain⟨k,L,o,es,ep,e1,e2,e3,e4,e5⟩:=h5 ee hee
 obtain⟨o',e',q⟩:=d.keep L o e2 (fun z=>he o (z▸e2) e3) fun z=>by
  obtain⟨o',ts,f1,f2⟩:=hT L z
  rw[e2]at f1;cases f1;rw[e4]at f2;cases f2
 exact⟨k,L,o',es,ep,e1,e',q.data.2.1.trans e3,q.data.1.trans e4,e5⟩
end
section
variable {al:List (Mt×Mt)}
noncomputable def tJ(l:List Env):List Mt:=l.filterMap (·.frame)
noncomputable def eh(h:Heap)(e:Mt)(Ts:List Mt)(l:List Env):Heap:=hideAll h (e::(Ts++tJ l))
theorem bI.fr(am:bI X A n s){l:List Env}(hfr:A.frames=some l){b:Mt}(hb:b∈tJ l):∃o es ep,s.heap.get? b=some o/\o.cls=.type "frame"/\o.data=.dict es ep/\X.B.get? b=none:=by
 obtain⟨_,_,_,_,l',h4,h5⟩:=am
 rw[hfr]at h4;cases h4
 obtain⟨ee,hee,hf⟩:=LK.mp hb
 obtain⟨k,L,o,es,ep,e1,e2,e3,e4,e5⟩:=h5 ee hee
 rw[hf]at e1;cases e1
 exact⟨o,es,ep,e2,e3,e4,e5⟩
theorem bI.fun(am:bI X A n s){l:List Env}(hfr:A.frames=some l){base:Heap}(hn:∀b∈tJ l,base.get? b=none):s.heap.FunFrames base l:=by
 obtain⟨_,_,_,_,l',h4,h5⟩:=am
 rw[hfr]at h4;cases h4
 clear hfr
 induction l with
 |nil=>trivial
 |cons ee l ih=>
  obtain⟨k,L,o,es,ep,e1,e2,e3,e4,e5⟩:=h5 ee (.head _)
  refine⟨by rw[k];decide,⟨L,o,e1,hn L (LK.mpr ⟨ee,.head _,e1⟩),e2,fun vs q=>by rw[e4]at q;cases q⟩,ih (fun b hb=>hn b ?_) fun e he=>h5 e (.tail _ he)⟩
  obtain⟨x,hx,hf⟩:=LK.mp hb
  exact LK.mpr ⟨x,.tail _ hx,hf⟩
theorem dP.cell{c:Nat}{a:Mt}{ok:Array Mu->Prop}(f:dP X c a mu al h ok):a∈cells al:=by
 obtain⟨j,o,vs,t,h1,h2,_⟩:=f
 exact J5.mpr ⟨(a,a),List.mem_of_getElem? h2,rfl⟩
theorem gK{c:Nat}{e:Mt}{a0 fl:Mu}{ok:Array Mu->Prop}{Ts:List Mt}{l:List Env}(am:bI X A n s)(hfr:A.frames=some l)(I:bT X mu al F s.heap)(f:dP X c e mu al s.heap ok)
  (hT:qw X al F s.heap (·∈Ts)) (hTb:∀b∈Ts,¬ae hb b) (hbl:∀a,ae hb a->ae s.heap a) (ha0:∃t,a0=.ref t)
  (k1:(eh s.heap e Ts l).StaysIn h') (k3:h'.TracedAtW (eh s.heap e Ts l) e (.ref (X.clsA c)) a0 fl)
  (k4:∀b o,s.heap.get? b=some o->(∀vs,o.data≠ .fields vs)->∃sl,h'.get? b=some {o with slots:=sl}):
  ∃T',gV X s.heap h' e (·∈Ts)/\dP X c e mu al h' (b9 X al (eH F (·∈Ts) s.heap h' T') h' hb e fl):=by
 obtain⟨oe,vs,T',oT,ts,he,⟨hcls,h0⟩,hd,h1,hnT,hTe,hT',hdT,h3⟩:=k3
 have hec:=f.cell
 have heF:=I.cell e hec
 have inB:∀{b o},s.heap.get? b=some o->b≠e->b∉Ts->b∉tJ l->(eh s.heap e Ts l).get? b=some o:=fun{b o} eb n1 n2 n3=>hideAll_get _ eb fun hm=>by
  rcases JY.mp hm with q|q
  ·exact n1 q
  ·rcases Ki.mp q with q|q
   ·exact n2 q
   ·exact n3 q
 have D:gV X s.heap h' e (·∈Ts):=by
  refine⟨fun b o eb n1 n2=>?_,⟨oe,he,by rw[hcls];simp,by rw[hcls];simp⟩,fun b o eb=>?_⟩
  ·by_cases hf:b∈tJ l
   ·obtain⟨o',es,ep,e1,e2,e3,_⟩:=am.fr hfr hf
    rw[eb]at e1;cases e1
    have nf:∀vs,o.data≠ .fields vs:=fun vs q=>by rw[e3]at q;cases q
    obtain⟨sl,e4⟩:=k4 b o eb nf
    exact⟨_,e4,.inr ⟨⟨e2,nf⟩,sl,rfl⟩⟩
   ·exact⟨o,k1 b o (inB eb n1 n2 hf),.refl o⟩
  ·have e1:=I.stays b o eb
   refine k1 b o (inB e1 (fun z=>?_) (fun z=>?_) fun z=>?_)
   ·rw[z,(I.hot e heF).2]at eb;cases eb
   ·rw[(I.hot b (hT.hot b z)).2]at eb;cases eb
   ·obtain⟨_,_,_,_,_,_,q⟩:=am.fr hfr z
    rw[q]at eb;cases eb
 have kindT:T'∈Ts∨¬ae s.heap T':=by
  apply Classical.byContradiction
  intro hn
  have n2:T'∉Ts:=fun z=>hn (.inl z)
  have hl:ae s.heap T':=Classical.byContradiction fun z=>hn (.inr z)
  obtain⟨o,eo⟩:=hl
  have hf:T'∈tJ l:=Classical.byContradiction fun z=>by rw[inB eo hTe n2 z]at hnT;cases hnT
  obtain⟨o',es,ep,e1,e2,e3,_⟩:=am.fr hfr hf
  rw[eo]at e1;cases e1
  have nf:∀vs,o.data≠ .fields vs:=fun vs q=>by rw[e3]at q;cases q
  obtain⟨sl,e4⟩:=k4 T' o eo nf
  rw[hT']at e4;cases e4
  exact nf _ hdT
 obtain⟨j,o,vs0,t0,f1,f2,f3,f4,f5,f6,f7⟩:=f
 obtain⟨t,rfl⟩:=ha0
 refine⟨T',D,j,oe,vs,t,f1,f2,he,hcls,hd,h0,T',oT,ts,h1,.inr ⟨rfl,kindT,⟨_,hT'⟩⟩,⟨fun hm=>?_,fun hm=>?_⟩,fun hl=>?_,hTe,hT',hdT,h3⟩
 ·rcases kindT with z|z
  ·exact hT.cell _ z hm
  ·exact z (I.hot _ (I.cell _ hm)).1
 ·rcases kindT with z|z
  ·exact hT.tab _ z hm
  ·exact z (I.hot _ (I.tabs _ hm).1).1
 ·rcases kindT with z|z
  ·exact hTb _ z hl
  ·exact z (hbl _ hl)
theorem aL{h:Heap}{e:Mt}{Ts:List Mt}{l:List Env}{b:Mt}(hm:b=e∨b∈Ts∨b∈tJ l):(eh h e Ts l).get? b=none:=hideAll_none _ (by
 rcases hm with q|q|q
 ·exact JY.mpr (.inl q)
 ·exact JY.mpr (.inr (Ki.mpr (.inl q)))
 ·exact JY.mpr (.inr (Ki.mpr (.inr q))))
structure dp(X:Cx)(c:Nat)(e:Mt)(fl:Mu)(mu:List aa)(al:List (Mt×Mt))(F:Mt->Prop)(s:Ms)(hb:Heap)(T:Mt->Prop)(T':Mt)(h':Heap):Prop where
 drag:gV X s.heap h' e T
 tb:qw X al F s.heap T
 new:∀b,T b->¬ae hb b
 fly:dP X c e mu al h' (b9 X al (eH F T s.heap h' T') h' hb e fl)
theorem jq{c:Nat}{e:Mt}{fl:Mu}(I:bT X mu al F s.heap)(f:dP X c e mu al s.heap (b9 X al F s.heap hb e fl)):∃oe vs T oT ts t,s.heap.get? e=some oe/\oe.cls=.ref (X.clsA c)/\oe.data=.fields vs/\vs[0]? =some (.ref t)/\vs[1]? =some (.ref T)/\T≠e/\s.heap.get? T=some oT/\oT.data=.fields ts/\ts[3]? =some fl/\
  qw X al F s.heap (·∈[T])/\∀b∈[T],¬ae hb b:=by
 obtain⟨j,o,vs,t,f1,f2,f3,f4,f5,f6,T,oT,ts,q1,q2,q3,q4,q5,q6,q7,q8⟩:=f
 refine⟨o,vs,T,oT,ts,t,f3,f4,f5,f6,q1,q5,q6,q7,q8,⟨fun b hb=>?_,fun b hb=>?_,fun b hb=>?_,fun b hb=>?_⟩,fun b hb=>?_⟩<;>(have hb:b=T:=by simpa using hb)<;>subst hb
 ·exact q2
 ·exact q3.1
 ·exact q3.2
 ·exact⟨oT,ts,q6,q7⟩
 ·exact q4
theorem lj{c:Nat}{e L:Mt}{outer:List Env}{Q:Unit->Ms->Prop}{E:Mu->Ms->Prop}(am:bI X A n s)(hfr:A.frames=some (env::outer))(hf:env.frame=some L)(I:bT X mu al F s.heap)(hbl:∀a,ae hb a->ae s.heap a)
  (f:dP X c e mu al s.heap fun vs=>vs[1]? =some .none∨b9 X al F s.heap hb e .none vs)
  (go:∀T T' h',dp X c e .none mu al F s hb T T' h'->Q () {s with heap:=h'}):wpAny (model X.prog X.w) A (leaving env (.ref e)) Q E s:=by
 have f0:=f
 obtain⟨j,o,vs,t,f1,f2,f3,f4,f5,f6,f7⟩:=f
 rcases f7 with f7|f7
 ·have hn:=fun b (hb:b∈tJ (env::outer))=>aL (h:=s.heap) (e:=e) (Ts:=[]) (l:=env::outer) (.inr (.inr hb))
  refine wpAny_leaving_firstW (base:=eh s.heap e [] (env::outer)) hfr (am.fun hfr hn) hf f3 (fun b o q=>of_hideAll _ q) (aL (.inl rfl)) f5 f7 f6 fun h' k=>?_
  have hT:qw X al F s.heap (·∈([]:List Mt)):=⟨fun _ z=>(nomatch z),fun _ z=>(nomatch z),fun _ z=>(nomatch z),fun _ z=>(nomatch z)⟩
  have k3:=k.2.2.1
  rw[f4]at k3
  obtain⟨T',D,f'⟩:=gK am hfr I f0 hT (fun _ z=>(nomatch z)) hbl ⟨t,rfl⟩ k.1 k3.at k.2.2.2
  exact go _ T' h' ⟨D,hT,fun _ z=>(nomatch z),f'⟩
 ·obtain⟨oe,vs',T,oT,ts,t',g1,g2,g3,g4,g5,g6,g7,g8,g9,hT,hTb⟩:=jq I ⟨j,o,vs,t,f1,f2,f3,f4,f5,f6,f7⟩
  have hn:=fun b (hb:b∈tJ (env::outer))=>aL (h:=s.heap) (e:=e) (Ts:=[T]) (l:=env::outer) (.inr (.inr hb))
  refine wpAny_leaving_nextW (base:=eh s.heap e [T] (env::outer)) hfr (am.fun hfr hn) hf ⟨oe,vs',T,oT,ts,g1,⟨g2,g4⟩,g3,g5,aL (.inr (.inl (.head _))),g6,g7,g8,g9⟩ (fun b o q=>of_hideAll _ q) (aL (.inl rfl)) fun h' k=>?_
  obtain⟨T',D,f'⟩:=gK am hfr I f0 hT hTb hbl ⟨t',rfl⟩ k.1 k.2.2.1.at k.2.2.2
  exact go _ T' h' ⟨D,hT,hTb,f'⟩
theorem dp.inv{c:Nat}{e:Mt}{fl:Mu}{T:Mt->Prop}{T':Mt}(d:dp X c e fl mu al F s hb T T' h')(I:bT X mu al F s.heap):bT X mu al (eH F T s.heap h' T') h':=by
 obtain⟨j,o,vs,t,f1,f2,_⟩:=d.fly
 exact I.drag d.drag d.tb f1 f2
theorem dp.now{c:Nat}{e:Mt}{fl:Mu}{T:Mt->Prop}{T':Mt}(d:dp X c e fl st.mu al F s hb T T' h')(N:aO X env sc (ae hb) m om st al F s):aO X env sc (ae hb) m om st al (eH F T s.heap h' T') {s with heap:=h'}:=by
 obtain⟨j,o,vs,t,f1,f2,_⟩:=d.fly
 exact N.drag d.drag d.tb d.new f1 f2
theorem dp.aft{c:Nat}{e:Mt}{fl:Mu}{T:Mt->Prop}{T':Mt}(d:dp X c e fl mu al F s s₀.heap T T' h')(a:aT X (ae s₀.heap) alo F₀ s₀ al F s):aT X (ae s₀.heap) alo F₀ s₀ al (eH F T s.heap h' T') {s with heap:=h'}:=
 a.drag d.fly.cell d.drag d.new d.tb.hot d.new
theorem dp.amb{c:Nat}{e:Mt}{fl:Mu}{T:Mt->Prop}{T':Mt}(d:dp X c e fl mu al F s hb T T' h')(I:bT X mu al F s.heap)(a:bI X A n s):bI X A n {s with heap:=h'}:=
 a.drag d.drag (fun o eo=>by
  obtain⟨o',e',c'⟩:=I.objs.cellOf e d.fly.cell
  rw[eo]at e';cases e';exact c') d.tb.kind
theorem dp.flying{c:Nat}{e:Mt}{T:Mt->Prop}{T':Mt}(d:dp X c e .none mu al F s hb T T' h'):gi X c (.ref e) mu al (eH F T s.heap h' T') h' hb:=⟨e,rfl,d.fly.imp fun _ q=>.inr q⟩
end
section
structure Xd(X:Cx):Prop where
 mro:∀c,c < 3->mroIn X.K (X.clsA c) (.type "BaseException")=some true
 typ:∀c,c < 3->typeIn X.K (.ref (X.clsA c))=some (.type "type")
 self:∀c,c < 3->mroIn X.K (X.clsA c) (.ref (X.clsA c))=some true
 cls:∀c,c < 3->(clsIn X.K (X.clsA c)).isSome=true
section
variable {al:List (Mt×Mt)}
inductive Du(X:Cx)(Q:Mu->Ms->Prop)(v:Mu)(s:Ms):Prop
 |mk (a:Mt) (oe:Obj) (vs:Array Mu) (C:Mt) (m:mroIn X.K C (.type "BaseException")=some true) (t:typeIn X.K (.ref C)=some (.type "type")) (e:v=.ref a) (I:X.K.In s.heap) (eo:s.heap.get? a=some oe) (c:oe.cls=.ref C) (d:oe.data=.fields vs) (n:vs[1]? =some .none) (q:Q (.ref a) s)
theorem uq(G:Kd X)(H:Xd X){e:Mq}{me:ME}{pos:Pos}(he:ah X n sc e me):bv X n sc (.Raise (some e) none pos) (.raise me):=fun env A alo F₀ s₀ s st m om al F kf ke p h=>by
 rw[arm_exec_Raise]
 refine JJ (Kf ?_)
 have main:wpAny (model X.prog X.w) A (do let v ←eval e env;standAt pos;pure v) (Du X (XS X n A env sc alo F₀ s₀ ke)) (XS X n A env sc alo F₀ s₀ ke) s:=by
  refine JJ (c8 he p h fun r v st' al' F' s' hk R b q=>?_)
  refine JJ (Kf (JO (ad hk fun j ej hk=>?_)))
  obtain⟨⟨a,d⟩,ea,rfl⟩:=R.asObj ej
  obtain⟨ob,em,hk⟩:=hk
  refine ad hk fun pq epq hk=>bc hk fun hc hk=>?_
  have hc:pq.1 < 3:=JI hc
  rcases(jF q.now.inv ea em).insOf epq with⟨h3,_⟩|⟨_,_,⟨dd,sl,t,e'⟩,ed⟩
  ·exact absurd hc (KW.mpr h3)
  ·have ed:d=a:=ed
   subst ed
   have q2:=q.set (t:=s'.toks) (o':=.dead) ea (fun b o _ eb=>eb) ⟨_,e'⟩ (.dead e' (fun z=>nomatch z) (fun z=>nomatch z)) e' (fun z=>nomatch z) (fun z=>nomatch z) (JL _)
   refine⟨d,_,_,X.clsA pq.1,H.mro _ hc,H.typ _ hc,rfl,q.now.inv.inn G,e',rfl,rfl,rfl,pq.1,_,al',F',m,om,hk,⟨d,rfl,j,_,_,t,?_,ea,e',rfl,rfl,rfl,.inl rfl⟩,q2.aft,q2.now,q2.amb⟩
   show(st'.mu.set j .dead)[j]? =_
   rw[Ks (JT.mp em).1]
 have e0:(evalOpt (some e) env).map (fun x=>do let v ←x;standAt pos;pure v)=some (do let v ←eval e env;standAt pos;pure v):=by rfl
 have e1:(evalOpt none env).map (fun c=>do let v ←c;standAt pos;pure v)=none:=by rfl
 rw[e0,e1]
 exact sL p.amb.handled (J0 main (fun v s' qz=>qz.casesOn fun a oe vs C h1 h2 h3 h4 h5 h6 h7 h8 h9=>⟨a,oe,vs,C,h1,h2,h3,h4,h5,h6,h7,h8,h9⟩) fun _ _ x=>x)
def rV(X:Cx)(n:Nat)(sc:Sc)(t:List Stmt)(ms:List MS):Prop:=
 ∀env A A' alo F₀ s₀ s st m om al F kf ke (E:Mu->Ms->Prop),bE X n A env sc alo F₀ s₀ m om st al F s->wp (Wd X n) (aS ms kf ke st)->wpAny (model X.prog X.w) A' (execs t env) (FP X n A env sc alo F₀ s₀ kf) E s
theorem qb{e:Mq}{me:ME}{k:V->St->Pg}{Q:Mu->Ms->Prop}{E:Mu->Ms->Prop}(he:tH X sc n e me)(p:bE X n A env sc alo F₀ s₀ m om st al F s)(h:wp (Wd X n) (ev me (.v k) fQ st))
  (go:∀r v st' al' F' s',wp (Wd X n) (k r st')->Rep X al' F' s'.heap r v->aT X (ae s₀.heap) al F s al' F' s'->bE X n A env sc alo F₀ s₀ m om st' al' F' s'->Q v s'):
  wpAny (model X.prog X.w) A' (eval e env) Q E s:=
 wpAny_up (J0 (he env A' s _ st m om al F k fQ p.now h) (fun v s' qz u=>qz.casesOn fun r st' al' F' hk R b N'=>go r v st' al' F' s' hk R b (p.step b N' (p.amb.aft p.now.inv b u))) fun v s' qz u=>qz.casesOn fun _ _ _ _ f _ _ _=>f.elim)
def kn(me:ME):Prop:=∀k ke st,ev me (.v k) ke st=ev me (.v k) fQ st
theorem zC{e:Mq}{me:ME}{pos:Pos}(he:tH X sc n e me)(hx:kn me):rV X n sc [.Return (some e) pos] [.ret me]:=fun env A A' alo F₀ s₀ s st m om al F kf ke E p h=>
 Ll (Mi (qb (A:=A) he p (hx (fun v st=>kJ kf _ (.ret v) st) ke st▸h) fun r v st' al' F' s' hk R b q=>q.ret hk R))
theorem vP(G:Kd X){o value:Mq}{mo me:ME}{a:At}{pos pos':Pos}{ts:List Stmt}{ms:List MS}(ho:tH X sc n o mo)(he:tH X sc n value me)(hn:cY value)(hts:rV X n sc ts ms)
  (hx:kn me) (hy:kn mo):rV X n sc (.Assign [.Attribute o (aH a) pos'] value pos::ts) (.asgA mo a me::ms):=fun env A A' alo F₀ s₀ s st m om al F kf ke E p h=>by
 have h:wp (Wd X n) (ev me (.v _) ke st):=h
 rw[hx]at h
 refine Ll (il hn (qb (A:=A) he p h fun r v sti ali F₁ s₁ h₁ Ri b₁ q₁=>?_))
 rw[hy]at h₁
 rw[arm_assign_Attribute]
 refine JJ (Kp (qb (A:=A) ho q₁ h₁ fun r' x stz alz F₂ s₂ h₂ RZ b₂ q₂=>?_))
 exact JJ (Kf (JJ (Kp (lH G q₂ RZ (b₂.rep q₁.now.inv Ri) h₂ fun st' s' q hk=>Me (hts env A A' alo F₀ s₀ _ _ m om _ _ kf ke E q hk)))))
theorem yS{i:Nat}:kn (.x i):=fun _ _ _=>rfl
theorem yT{v:V}:kn (.c v):=fun _ _ _=>rfl
theorem j0{K:Frag}{e C:Mt}{oe:Obj}{Q:Bool->Ms->Prop}{E:Mu->Ms->Prop}{prog:Program}{w:World}(I:K.In s.heap)(he:s.heap.get? e=some oe)(hc:oe.cls=.ref C)(hm:mroIn K C (.type "BaseException")=some true)(ht:typeIn K (.ref C)=some (.type "type"))
  (hs:mroIn K C (.ref C)=some true) (hcl:(clsIn K C).isSome=true) (h:Q true s):wpAny (model prog w) A (excMatches (.ref e) (.ref C)) Q E s:=by
 obtain⟨cd,hcd⟩:=Option.isSome_iff_exists.mp hcl
 have Lt:Looks (model prog w) s.heap (isInstance (.ref C) (.type "tuple")) false:=(looks_typeIn I ht).andThen (Looks.of_pure tc_notTuple)
 have L0:Looks (model prog w) s.heap (isType (.ref C)) true:=by
  unfold clsIn at hcd
  split at hcd
  ·rename_i ho
   exact(Looks.ld (part:=none) (I _ _ ho)).andThen .now
  ·cases hcd
 have L1:Looks (model prog w) s.heap (isExcClass (.ref C)) true:=L0.andThen (looks_mroIn I hm)
 have LT:Looks (model prog w) s.heap (typeOf (.ref e)) (.ref C):=hc▸(Looks.ld he).andThen .now
 unfold excMatches
 refine JJ (Lt.here ?_)
 refine JJ (JO ?_)
 refine JJ ?_
 rw[List.forIn_cons]
 refine JJ (JJ (L1.here ?_))
 refine JO ?_
 dsimp only
 rw[List.forIn_nil]
 refine JO ?_
 refine JJ (LT.here ?_)
 refine JJ ?_
 rw[List.forIn_cons]
 refine JJ (JJ ((looks_mroIn I hs).here ?_))
 exact JO (JO (JO h))
end
end
section
variable {al:List (Mt×Mt)}
theorem Cv{c:Nat}{e L:Mt}{outer:List Env}{Q:Unit->Ms->Prop}{E:Mu->Ms->Prop}(am:bI X A n s)(hfr:A.frames=some (env::outer))(hf:env.frame=some L)(I:bT X mu al F s.heap)(hbl:∀a,ae hb a->ae s.heap a)
  (f:dP X c e mu al s.heap fun vs=>vs[1]? =some .none∨b9 X al F s.heap hb e .none vs)
  (go:∀T T' h',dp X c e (rawInt L) mu al F s hb T T' h'->Q () {s with heap:=h'}):wpAny (model X.prog X.w) A (noteFrame (.ref e) env) Q E s:=by
 have f0:=f
 obtain⟨j,o,vs,t,f1,f2,f3,f4,f5,f6,f7⟩:=f
 rcases f7 with f7|f7
 ·have hn:=fun b (hb:b∈tJ (env::outer))=>aL (h:=s.heap) (e:=e) (Ts:=[]) (l:=env::outer) (.inr (.inr hb))
  unfold noteFrame
  simp only[hf]
  refine JJ (L7 f3 f5 f7 ?_)
  rw[if_neg (by decide)]
  refine wpAny_entryW (base:=eh s.heap e [] (env::outer)) hfr (am.fun hfr hn) hf f3 (fun b o q=>of_hideAll _ q) (aL (.inl rfl)) f5 (Array.getElem?_eq_some_iff.mp f7).1 f6 fun h' k=>?_
  have hT:qw X al F s.heap (·∈([]:List Mt)):=⟨fun _ z=>(nomatch z),fun _ z=>(nomatch z),fun _ z=>(nomatch z),fun _ z=>(nomatch z)⟩
  have k3:=k.2.2.1
  rw[f4]at k3
  obtain⟨T',D,f'⟩:=gK am hfr I f0 hT (fun _ z=>(nomatch z)) hbl ⟨t,rfl⟩ k.1 k3 k.2.2.2
  exact go _ T' h' ⟨D,hT,fun _ z=>(nomatch z),f'⟩
 ·obtain⟨oe,vs',T,oT,ts,t',g1,g2,g3,g4,g5,g6,g7,g8,g9,hT,hTb⟩:=jq I ⟨j,o,vs,t,f1,f2,f3,f4,f5,f6,f7⟩
  have hn:=fun b (hb:b∈tJ (env::outer))=>aL (h:=s.heap) (e:=e) (Ts:=[T]) (l:=env::outer) (.inr (.inr hb))
  refine wpAny_noteFrame_onW (base:=eh s.heap e [T] (env::outer)) hfr (am.fun hfr hn) hf ⟨oe,vs',T,oT,ts,g1,⟨g2,g4⟩,g3,g5,aL (.inr (.inl (.head _))),g6,g7,g8,g9⟩ (fun b o q=>of_hideAll _ q) (aL (.inl rfl)) fun h' k=>?_
  obtain⟨T',D,f'⟩:=gK am hfr I f0 hT hTb hbl ⟨t',rfl⟩ k.1 k.2.2.1 k.2.2.2
  exact go _ T' h' ⟨D,hT,hTb,f'⟩
theorem oD{c:Nat}{e:Mt}{fl:Mu}{l:List Env}{Q:Unit->Ms->Prop}{E:Mu->Ms->Prop}(am:bI X A n s)(hfr:A.frames=some l)(I:bT X mu al F s.heap)(hbl:∀a,ae hb a->ae s.heap a)
  (f:dP X c e mu al s.heap (b9 X al F s.heap hb e fl))
  (go:∀T T' h',dp X c e .none mu al F s hb T T' h'->Q () {s with heap:=h'}):wpAny (model X.prog X.w) A' (setFlight (.ref e) none) Q E s:=by
 obtain⟨oe,vs',T,oT,ts,t',g1,g2,g3,g4,g5,g6,g7,g8,g9,hT,hTb⟩:=jq I f
 have hn:=fun b (hb:b∈tJ l)=>aL (h:=s.heap) (e:=e) (Ts:=[T]) (l:=l) (.inr (.inr hb))
 refine wpAny_setFlight_noneW (base:=eh s.heap e [T] l) (l:=l) (cls:=.ref (X.clsA c)) (a0:=.ref t') (fl:=fl) (fun b o q=>of_hideAll _ q) (am.fun hfr hn) ⟨oe,vs',T,oT,ts,g1,⟨g2,g4⟩,g3,g5,aL (.inr (.inl (.head _))),g6,g7,g8,g9⟩ fun h' k1 k2 k3 k4=>?_
 obtain⟨T',D,f'⟩:=gK am hfr I f hT hTb hbl ⟨t',rfl⟩ k1 k3.at fun b o eb nf=>⟨o.slots,k4 b o eb nf⟩
 exact go _ T' h' ⟨D,hT,hTb,f'⟩
theorem bE.dragd{c:Nat}{e:Mt}{fl:Mu}{T:Mt->Prop}{T':Mt}(p:bE X n A env sc alo F₀ s₀ m om st al F s)(d:dp X c e fl st.mu al F s s₀.heap T T' h'):bE X n A env sc alo F₀ s₀ m om st al (eH F T s.heap h' T') {s with heap:=h'}:=
 ⟨p.own,d.amb p.now.inv p.amb,d.now p.now,d.aft p.aft⟩
theorem bE.tok(p:bE X n A env sc alo F₀ s₀ m om st al F s){t:Nat}(ht:s.toks<=t):bE X n A env sc alo F₀ s₀ m om st al F {s with toks:=t}:=
 ⟨p.own,p.amb.tok ht,p.now.tok,p.aft.trans (aT.tok t)⟩
theorem yz(G:Kd X)(Gg:Gd X)(H:Xd X){b:List Stmt}{mb:List MS}{x:Str}{np hpos pos:Pos}{b₀:Stmt}{suite:List Stmt}{mh:List MS}{d:Nat}(hb:bH X n sc b mb)(hh:rV X n sc (b₀::suite) mh)(hg:x∈sc.gl)(hv:X.glob x=some (.cls d))(hd:(x==("__debug__":Str))=false)(C5:d < 3):
  bv X n sc (.Try b [.ExceptHandler (some (.Name x np)) none (b₀::suite) hpos] [] [] pos) (.tryE mb d mh):=fun env A alo F₀ s₀ s st m om al F kf ke p h=>by
 obtain⟨outer,L,hfr,hf⟩:=p.own.2
 refine wpAny_Try_except (J0 (hb env A alo F₀ s₀ s st m om al F kf _ p h) (fun f s' x=>?_) fun v s' x=>?_)
 ·cases f with
  |next=>exact Lo x
  |ret v=>exact x
  |brk=>exact x
  |cont=>exact x
 ·obtain⟨c,st1,al1,F1,m1,om1,hk,⟨e,rfl,fl⟩,a1,N1,am1⟩:=x
  refine cond_ok (P:=fun p=>wp (Wd X n) p) hk (fun hc hz=>?_) False.elim
  ·obtain rfl:=Nat.eq_of_beq_eq_true hc
   have p1:bE X n A env sc alo F₀ s₀ m1 om1 st1 al1 F1 s':=⟨p.own,am1,N1,a1⟩
   refine Cv am1 hfr hf N1.inv a1.tr.live fl fun T2 T2' h2 d2=>?_
   have p2:=p1.dragd d2
   refine oD (s:={s' with heap:=h2}) p2.amb hfr p2.now.inv p2.aft.tr.live d2.fly fun T3 T3' h3 d3=>?_
   have p3:=p2.dragd d3
   refine wpAny_handleBy_cons (codeAny_handlers_test ?_) (by intro q;cases q)
   refine iu Gg hg hv hd _ _ _ _ _ _ _ _ _ _ _ p3.now fun y t ht R4=>?_
   have p4:=p3.tok ht
   obtain rfl:=R4.inv
   obtain⟨j4,oe,ws,t4,f1,f2,f3,f4,_⟩:=id d3.fly
   refine j0 (p4.now.inv.inn G) f3 f4 (H.mro d C5) (H.typ d C5) (H.self d C5) (H.cls d C5) ?_
   show codeAny _ _ _ _ _
   refine codeAny_handlers_suite ?_
   refine oD (s:={s' with heap:=h3,toks:=t}) p4.amb hfr p4.now.inv p4.aft.tr.live d3.fly fun T5 T5' h5 d5=>?_
   have p5:=p4.dragd d5
   exact hh env A _ alo F₀ s₀ _ _ m1 om1 _ _ kf _ _ p5 hz
end
theorem fW{ns:List Str}{vs:List Mu}(nd:ns.Nodup):∀{i:Nat} {x:Str} {v:Mu},ns[i]? =some x->vs[i]? =some v->(ns.zip vs).lookup x=some v:=by
 induction ns generalizing vs with
 |nil=>intro i x v h;simp at h
 |cons y ns ih=>
  intro i x v h1 h2
  cases vs with
  |nil=>simp at h2
  |cons w vs=>
   have nd':=List.nodup_cons.mp nd
   cases i with
   |zero=>
    simp only[LU,Option.some.injEq]at h1 h2
    subst h1;subst h2
    simp
   |succ i=>
    simp only[List.getElem?_cons_succ]at h1 h2
    have hne:(x==y)=false:=by
     simp only[KA]
     intro q;subst q
     exact nd'.1 (List.mem_of_getElem? h1)
    rw[List.zip_cons_cons,KQ,hne]
    exact ih nd'.2 h1 h2
theorem iT{ns:List Str}{vs:List Mu}(nd:ns.Nodup):∀{i:Nat} {x:Str},ns[i]? =some x->vs.length<=i->(ns.zip vs).lookup x=none:=by
 induction ns generalizing vs with
 |nil=>intro i x h;simp at h
 |cons y ns ih=>
  intro i x h1 h2
  have nd':=List.nodup_cons.mp nd
  cases vs with
  |nil=>simp
  |cons w vs=>
   cases i with
   |zero=>simp at h2
   |succ i=>
    simp only[List.getElem?_cons_succ]at h1
    have hne:(x==y)=false:=by
     simp only[KA]
     intro q;subst q
     exact nd'.1 (List.mem_of_getElem? h1)
    rw[List.zip_cons_cons,KQ,hne]
    exact ih nd'.2 h1 (by simp at h2;exact lin [_,_] [(1,.v 0,.v 1)] 1 (.v 0) (.v 1) rfl h2)
theorem kK(f:Str->Option Mu){ns:List Str}:∀{vs:List Mu},ns.length=vs.length->(∀(i:Nat) (x:Str) (v:Mu),ns[i]? =some x->vs[i]? =some v->f x=some v)->ns.filterMap (fun n=>(f n).map (n,·))=ns.zip vs:=by
 induction ns with
 |nil=>exact fun _ _=>rfl
 |cons x ns ih=>
  intro vs h q
  cases vs with
  |nil=>cases h
  |cons v vs=>
   rw[List.filterMap_cons,q 0 x v rfl rfl]
   exact congrArg ((x,v)::·) (ih (Nat.succ.inj h) fun i x v h1 h2=>q (i+1) x v h1 h2)
section
theorem wb{Q:List (Str×Mu)->Ms->Prop}(f:Str×Mu->List (Str×Mu)->Sem (ForInStep (List (Str×Mu))))
  (hf:∀x d acc,f (x,d) acc=if(acc.lookup x).isNone=true then pure (.yield (acc++[(x,d)]))else pure (.yield acc)):
  ∀(l acc:List (Str×Mu)),(∀r,(∀x v,acc.lookup x=some v->r.lookup x=some v)->(∀x d,(x,d)∈l->(l.map (·.1)).Nodup->acc.lookup x=none->r.lookup x=some d)->Q r s)->wpAny M A (forIn l acc f) Q E s:=by
 intro l
 induction l with
 |nil=>intro acc h;rw[List.forIn_nil];exact JO (h acc (fun _ _ q=>q) fun _ _ q=>nm q)
 |cons xd l ih=>
  intro acc h
  obtain⟨x,d⟩:=xd
  rw[List.forIn_cons,hf]
  by_cases hn:(acc.lookup x).isNone=true
  ·rw[if_pos hn]
   refine JJ (JO (ih _ fun r h1 h2=>h r (fun y v q=>h1 y v ?_) fun y w hm nd hy=>?_))
   ·rw[Mg,q];rfl
   ·rcases JY.mp hm with e|hm
    ·cases e
     refine h1 x d ?_
     rw[Mg,hy]
     simp
    ·have nd':=List.nodup_cons.mp nd
     refine h2 y w hm nd'.2 ?_
     rw[Mg,hy]
     have:y≠x:=fun q=>nd'.1 (J5.mpr ⟨(y,w),hm,q⟩)
     simp[this]
  ·rw[if_neg hn]
   refine JJ (JO (ih _ fun r h1 h2=>h r h1 fun y w hm nd hy=>?_))
   rcases JY.mp hm with e|hm
   ·cases e
    rw[hy]at hn;simp at hn
   ·exact h2 y w hm (List.nodup_cons.mp nd).2 hy
structure rT(fd:FuncData)(ns:List Str):Prop where
 pos:fd.params.posonlyargs=[]
 args:fd.params.args.map (·.arg)=ns
 var:fd.params.vararg=none
 kwo:fd.params.kwonlyargs=[]
 kw:fd.params.kwarg=none
 nd:ns.Nodup
theorem zY{p:Arguments}(h1:p.posonlyargs=[])(h2:p.vararg=none)(h3:p.kwonlyargs=[])(h4:p.kwarg=none):p=⟨[],p.args,none,[],p.kw_defaults,none,p.defaults⟩:=by
 cases p;cases h1;cases h2;cases h3;cases h4;rfl
noncomputable def dflt(n:Nat)(x:Option (Array Mu)):List Mu:=(x.getD #[]).toList.drop ((x.getD #[]).toList.length - n)
theorem tB(fd:FuncData)(ar:List Arg){kd df}{vals:List Mu}:∃(A B:Option (Array Mu)->Sem (List (Str×Mu))),bindArgs {fd with params:=⟨[],ar,none,[],kd,none,df⟩} ⟨vals,[]⟩=(seqItems? fd.defaults>>=fun x=>if(decide (vals.length > (ar.map Arg.arg).length)&&true)=true then A x else
  if(!(((ar.map Arg.arg).take ((ar.map Arg.arg).length - (dflt (ar.map Arg.arg).length x).length)).filter fun n=>(((ar.map Arg.arg).zip vals).lookup n).isNone).isEmpty)=true then B x else
  forIn (((ar.map Arg.arg).drop ((ar.map Arg.arg).length - (dflt (ar.map Arg.arg).length x).length)).zip (dflt (ar.map Arg.arg).length x)) ((ar.map Arg.arg).zip vals) (fun x acc=>if(acc.lookup x.1).isNone=true then pure (.yield (acc++[(x.1,x.2)]))else pure (.yield acc))>>=fun r=>pure ((ar.map Arg.arg++[]).filterMap fun n=>(r.lookup n).map (n,·))):=⟨_,_,rfl⟩
theorem tM{α:Type}{M:Model}{A:Around}{E:Mu->Ms->Prop}{s:Ms}{c:Bool}{x y:Sem α}{Q:α->Ms->Prop}(h:c=false)(q:wpAny M A y Q E s):wpAny M A (if c=true then x else y) Q E s:=by
 rw[h];exact q
theorem j9{fd:FuncData}{ns:List Str}{vals dv:List Mu}{Q:List (Str×Mu)->Ms->Prop}(P:rT fd ns)(hl:vals.length<=ns.length)(hd:ns.length<=vals.length+dv.length)(hdn:dv.length<=ns.length)
  (hs:∀(Q:Option (Array Mu)->Ms->Prop),(∀x,(x.getD #[]).toList=dv->Q x s)->wpAny M A (seqItems? fd.defaults) Q E s)
  (h:Q (ns.zip (vals++dv.drop (vals.length+dv.length - ns.length))) s):wpAny M A (bindArgs fd ⟨vals,[]⟩) Q E s:=by
 obtain⟨A',B',e⟩:=tB fd fd.params.args (kd:=fd.params.kw_defaults) (df:=fd.params.defaults) (vals:=vals)
 rw[←zY P.pos P.var P.kwo P.kw,P.args]at e
 refine(show bindArgs fd ⟨vals,[]⟩=_ from e)▸?_
 refine JJ (hs _ fun x hx=>?_)
 unfold dflt
 rw[hx]
 refine tM (by rw[Bool.and_true];exact Kg (KW.mpr hl)) ?_
 have e1:dv.length - ns.length=0:=Nat.sub_eq_zero_of_le hdn
 rw[e1,List.drop_zero]
 have h2:((ns.take (ns.length - dv.length)).filter fun n=>((ns.zip vals).lookup n).isNone)=[]:=by
  rw[List.filter_eq_nil_iff]
  intro x hx
  obtain⟨i,hi,rfl⟩:=List.mem_iff_getElem.mp hx
  rw[List.length_take]at hi
  have hi2:i < vals.length:=Ka (Ka hi (Nat.min_le_left _ _)) (Nat.sub_le_of_le_add hd)
  rw[List.getElem_take,fW P.nd (i:=i) (J4 (by exact lin [_,_,_] [(1,.v 0,.v 1),(1,.a (.v 2) (.n 1),.v 0)] 1 (.a (.v 2) (.n 1)) (.v 1) rfl hl hi2)) (J4 hi2)]
  simp
 refine tM (by rw[h2];rfl) ?_
 refine JJ (wb _ (fun x d acc=>rfl) _ _ fun r g1 g2=>?_)
 have fin:∀(i:Nat) (x:Str) (v:Mu),ns[i]? =some x->(vals++dv.drop (vals.length+dv.length - ns.length))[i]? =some v->r.lookup x=some v:=by
  intro i x v q1 q2
  by_cases hi:i < vals.length
  ·rw[J6 hi]at q2
   exact g1 x v (fW P.nd q1 q2)
  ·rw[Ky (by exact lin [_,_] [(1,.v 0,.v 1)] 1 (.v 0) (.v 1) rfl (KB hi)),Ls]at q2
   have hz:((ns.drop (ns.length - dv.length)).zip dv).map (·.1)=ns.drop (ns.length - dv.length):=Mn (by rw[LS];exact JZ (Nat.sub_sub_self hdn))
   refine g2 x v ?_ ?_ (iT P.nd q1 (by exact lin [_,_] [(1,.v 0,.v 1)] 1 (.v 0) (.v 1) rfl (KB hi)))
   ·have:((ns.drop (ns.length - dv.length)).zip dv)[i - (ns.length - dv.length)]? =some (x,v):=by
     rw[List.getElem?_zip_eq_some]
     refine⟨?_,?_⟩
     ·rw[Ls,Nat.add_sub_cancel' (JH (Nat.sub_le_of_le_add hd) (KB hi))];exact q1
     ·rw[bl2 hdn hd (KB hi)];exact q2
    exact List.mem_of_getElem? this
   ·rw[hz];exact P.nd.sublist (List.drop_sublist _ _)
 refine JO ?_
 rw[JX,kK (fun n=>r.lookup n) (by rw[JU,LS];exact bl1 hl hd) fin]
 exact h
end
section
inductive xC(s₀ s:Ms):Prop
 |mk (h:Heap) (tk:Nat) (e:s={s₀ with heap:=h,toks:=tk}) (l:s₀.toks<=tk)
inductive z7(h:Heap)(L:Mt):Prop
 |mk (o:Obj) (es ep:_) (e1:h.get? L=some o) (e2:o.cls=.type "frame") (e3:o.data=.dict es ep)
structure GA(s₀:Ms)(env:Env)(cs:List (Str×Mt))(m cm:Str->Option Mu)(s:Ms):Prop where
 same:xC s₀ s
 keep:∀b o,s₀.heap.get? b=some o->s.heap.get? b=some o
 ns:s.heap.Ns env.locals m
 frame:z7 s.heap env.locals
 cell:∀n c,cs.lookup n=some c->s.heap.get? c=some {cls:=.type "cell",data:=.cell (cm n)}
 apart:cs.Pairwise fun x y=>x.2≠y.2
 above:∀n c,(n,c)∈cs->env.locals < c
 new:s₀.heap.objs.size<=env.locals
section
variable {cs:List (Str×Mt)}
theorem wM{name:Str}{c:Mt}{v:Mu}{x:Option Mu}{Q:Unit->Ms->Prop}{E:Mu->Ms->Prop}(hk:env.scope.kind=.function)(hl:env.kindOf name=some .cell)(hc:env.cells.lookup name=some c)(hv:s.heap.get? c=some {cls:=.type "cell",data:=.cell x})
  (h:∀h',h'.get? c=some {cls:=.type "cell",data:=.cell (some v)}->Heap.SameBut c s.heap h'->Q () {s with heap:=h'}):wpAny M A (storeName env name v) Q E s:=
 fill_cell hk (.inl hl) hc hv h
theorem j1(f:Str×Mu->PUnit->Sem (ForInStep PUnit))(hf:∀n v u,f (n,v) u=(do storeName env n v;pure (.yield ⟨⟩)))(hk:env.scope.kind=.function):
  ∀(binds:List (Str×Mu)) (m cm:Str->Option Mu) (s:Ms) (Q:PUnit->Ms->Prop),GA s₀ env cs m cm s->
   (∀x∈binds,env.kindOf x.1=some .local∨(env.kindOf x.1=some .cell/\∃c,env.cells.lookup x.1=some c/\cs.lookup x.1=some c))->
   (∀s',GA s₀ env cs (bindL env.kindOf binds m) (bindC env.kindOf binds cm) s'->Q ⟨⟩ s')->wpAny M A (forIn binds ⟨⟩ f) Q E s
 |[],m,cm,s,Q,x,_,h=>by rw[List.forIn_nil];exact JO (h s x)
 |(n,v)::r,m,cm,s,Q,x,hkind,h=>by
  rw[List.forIn_cons,hf]
  have hr:∀y∈r,env.kindOf y.1=some .local∨(env.kindOf y.1=some .cell/\∃c,env.cells.lookup y.1=some c/\cs.lookup y.1=some c):=fun y hy=>hkind y (List.mem_cons_of_mem _ hy)
  obtain⟨h1,tk,rfl,htk⟩:=x.same
  rcases hkind (n,v) List.mem_cons_self with hl|⟨hl,c,hc,hcs⟩
  ·refine JJ (JJ (bJ hl x.ns (fun h' hns hsb hcl=>JO (j1 f hf hk r (fun y=>if y=n then some v else m y) cm _ Q ?_ hr fun s'' x''=>h s'' ?_)) (by rw[hk];rfl)))
   ·have hkk:∀b o,b≠env.locals->h1.get? b=some o->h'.get? b=some o:=fun b o z e=>(hsb.2 b z).trans e
    refine⟨⟨h',_,rfl,J1 htk⟩,fun b o e=>hkk b o (K0 (Ka (Heap.lt_size e) x.new)) (x.keep b o e),hns,?_,fun k c hm=>hkk c _ (Ly (x.above k c (mem_of_lookup hm))) (x.cell k c hm),x.apart,x.above,x.new⟩
    obtain⟨o,es,ep,e1,e2,e3⟩:=x.frame
    obtain⟨o',es',ep',g1,g2,g3⟩:=hcl o e1
    exact⟨o',es',ep',g1,g2.trans e2,g3⟩
   ·unfold bindL bindC;rw[if_pos hl,if_pos hl];exact x''
  ·have hnl:¬env.kindOf n=some .local:=by rw[hl];decide
   refine JJ (JJ (wM hk hl hc (x.cell n c hcs) fun h' hc' hsb=>JO (j1 f hf hk r m (fun y=>if y=n then some v else cm y) _ Q ?_ hr fun s'' x''=>h s'' ?_)))
   ·have hLc:=x.above n c (mem_of_lookup hcs)
    have hkk:∀b o,b≠c->h1.get? b=some o->h'.get? b=some o:=fun b o z e=>(hsb.2 b z).trans e
    refine⟨⟨h',_,rfl,htk⟩,fun b o e=>hkk b o (K0 (Nat.lt_trans (Ka (Heap.lt_size e) x.new) hLc)) (x.keep b o e),x.ns.sameBut hsb (K0 hLc),?_,fun k c' hm=>?_,x.apart,x.above,x.new⟩
    ·obtain⟨o,es,ep,e1,e2,e3⟩:=x.frame
     exact⟨o,es,ep,hkk _ o (K0 hLc) e1,e2,e3⟩
    ·by_cases hkn:k=n
     ·subst hkn
      have:c'=c:=J9 (hm.symm.trans hcs)
      subst this
      simpa using hc'
     ·rw[if_neg hkn]
      exact hkk c' _ (fun e=>hkn (name_of_addr x.apart (mem_of_lookup hm) (e▸mem_of_lookup hcs))) (x.cell k c' hm)
   ·unfold bindL bindC;rw[if_neg hnl,if_neg hnl];exact x''
theorem dY:∀(names:List (Str×NameKind)) (h:Heap) (acc:List (Str×Mt)) (n:Str) (c:Mt),(n,c)∈cellsFrom h.objs.size names acc->(n,c)∈acc∨(pushCells h names).get? c=some bz
 |[],_,_,_,_,hm=>.inl hm
 |(name,kind)::r,h,acc,n,c,hm=>by
  unfold cellsFrom at hm
  unfold pushCells
  split at hm
  ·rename_i hk
   rw[if_pos hk]
   have:=dY r (h.push {cls:=.type "cell",data:=.cell none}) ((name,h.objs.size)::acc) n c (by rw[Heap.size_push];exact hm)
   rcases this with q|q
   ·rcases JY.mp q with e|q
    ·cases e
     exact .inr (pushCells_keeps _ _ _ _ (J8 _ rfl))
    ·exact .inl q
   ·exact .inr q
  ·rename_i hk
   rw[if_neg hk]
   exact dY r h acc n c hm
theorem fq:∀(names:List (Str×NameKind)) (k:Nat) (acc:List (Str×Mt)),(∀x∈names,x.2≠ .cell)->cellsFrom k names acc=acc
 |[],_,_,_=>rfl
 |(name,kind)::r,k,acc,h=>by
  unfold cellsFrom
  rw[if_neg (by have:=h _ (.head _);simpa using this)]
  exact fq r k acc fun x hx=>h x (.tail _ hx)
theorem oF{scope:Scope}{globals:Mt}{closure:List (Str×Mt)}{binds:List (Str×Mu)}{qual:Str}{func:Option Mt}{code:Mu}{builtins:Mt}{Q:Env->Ms->Prop}(hk:scope.kind=.function)(hcl:closure=[]∨∀x∈scope.names,x.2≠ .cell)
  (hkind:∀x∈binds,scope.names.lookup x.1=some .local∨(scope.names.lookup x.1=some .cell/\closure=[]/\((cellsFrom (s.heap.objs.size+1) scope.names []).lookup x.1).isSome=true))
  (hQ:∀env,env=newEnv scope s.heap.objs.size globals (cellsFrom (s.heap.objs.size+1) scope.names closure) qual func code none builtins->
   ∀s',GA s env (cellsFrom (s.heap.objs.size+1) scope.names []) (bindL env.kindOf binds fun _=>none) (bindC env.kindOf binds fun _=>none) s'->Q env s'):
  wpAny M A (newFunctionEnv scope globals closure binds qual func code none builtins) Q E s:=by
 simp only[newFunctionEnv,Option.isSome_none,Lw,if_false]
 refine JJ (wpAny_alloc ?_)
 refine JJ (wpAny_layCells _ (fun name kind cells=>by cases hkc:kind==NameKind.cell<;>simp[hkc]) _ _ _ _ ?_)
 have ok:=cellsFrom_ok scope.names (s.heap.push {cls:=.type "frame",data:=.dict #[]}) (s.heap.objs.size+1) [] ⟨fun _ _ hm=>nm hm,List.Pairwise.nil⟩ (by rw[Heap.size_push];exact JL _)
 rw[Heap.size_push]at ok
 rw[show({s with heap:=s.heap.push {cls:=.type "frame",data:=.dict #[]}}:Ms).heap.objs.size=s.heap.objs.size+1 from Heap.size_push ..]
 refine JJ (j1 (s₀:=s) (cs:=cellsFrom (s.heap.objs.size+1) scope.names []) (env:=newEnv scope s.heap.objs.size globals (cellsFrom (s.heap.objs.size+1) scope.names closure) qual func code none builtins)
  _ (fun _ _ _=>rfl) hk binds (fun _=>none) (fun _=>none) _ _ ?_ ?_ fun s' x=>JO (hQ _ rfl s' x))
 ·refine⟨⟨_,_,rfl,JL _⟩,fun b o e=>pushCells_keeps _ _ b o (KL _ e),(Heap.Ns.new s.heap (.type "frame")).keeps (pushCells_keeps _ _),⟨_,_,_,pushCells_keeps _ _ _ _ (J8 _ rfl),rfl,rfl⟩,fun n c hc=>?_,ok.apart,fun n c hm=>(ok.empty n c hm).2,JL _⟩
  have:=dY scope.names (s.heap.push {cls:=.type "frame",data:=.dict #[]}) [] n c (by rw[Heap.size_push];exact mem_of_lookup hc)
  exact this.elim (fun q=>nomatch q) id
 ·intro x hx
  rcases hkind x hx with q|⟨q1,q2,q3⟩
  ·exact .inl q
  ·obtain⟨c,hc⟩:=Option.isSome_iff_exists.mp q3
   exact .inr ⟨q1,c,by subst q2;exact hc,hc⟩
end
end
structure xB(sc:Sc)(scope:Scope)(ns:List Str)(cln:List Str):Prop where
 kind:scope.kind=.function
 par:∀x∈sc.vis,∀y,ns[x.slot]? =some y->y=x.name
 off:∀x∈sc.vis,ns.length<=x.slot->x.name∉ns
 bound:∀x∈ns,scope.names.lookup x=some .local∨(scope.names.lookup x=some .cell/\cln=[]/\((cellsFrom 0 scope.names []).lookup x).isSome=true)
 kinds:∀x∈sc.vis,if x.cell then(scope.names.lookup x.name=some .cell/\cln=[]/\((cellsFrom 0 scope.names []).lookup x.name).isSome=true)∨(scope.names.lookup x.name=some .free/\x.name∈cln/\x.mine=false)else scope.names.lookup x.name=some .local
 gls:∀x∈sc.gl,scope.names.lookup x=some .globalImplicit
 clo:cln=[]∨∀x∈scope.names,x.2≠ .cell
 co:scope.isCoroutine=false
 gen:scope.isGenerator=false
theorem iX:∀(names:List (Str×NameKind)) (k:Nat) (acc acc':List (Str×Mt)),acc.map (·.1)=acc'.map (·.1)->(cellsFrom 0 names acc).map (·.1)=(cellsFrom k names acc').map (·.1):=by
 have go:∀(names:List (Str×NameKind)) (j k:Nat) (acc acc':List (Str×Mt)),acc.map (·.1)=acc'.map (·.1)->(cellsFrom j names acc).map (·.1)=(cellsFrom k names acc').map (·.1):=by
  intro names
  induction names with
  |nil=>exact fun j k acc acc' h=>h
  |cons x r ih=>
   obtain⟨name,kind⟩:=x
   intro j k acc acc' h
   unfold cellsFrom
   split
   ·exact ih _ _ _ _ (by simp[h])
   ·exact ih _ _ _ _ h
 exact fun names k acc acc' h=>go names 0 k acc acc' h
theorem dg:∀{l:List (Str×Mt)} {x:Str},(l.lookup x).isSome=true↔x∈l.map (·.1)
 |[],x=>by simp
 |(k,v)::r,x=>by
  rw[KQ,Kq,JY]
  cases hb:x==k with
  |true=>simp[J7.mp hb]
  |false=>
   have:=dg (l:=r) (x:=x)
   simp only[this]
   have hne:x≠k:=by simpa using hb
   simp[hne]
theorem ij{names:List (Str×NameKind)}{x:Str}(h:((cellsFrom 0 names []).lookup x).isSome=true)(k:Nat):((cellsFrom k names []).lookup x).isSome=true:=by
 rw[dg]at h ⊢
 rwa[←iX names k [] [] rfl]
theorem wX{kindOf:Str->Option NameKind}{x:Str}(hx:kindOf x=some .local):∀{ns:List Str} {vs:List Mu} {m:Str->Option Mu} {i:Nat} {v:Mu},ns.Nodup->ns[i]? =some x->vs[i]? =some v->bindL kindOf (ns.zip vs) m x=some v:=by
 have out:∀{ns:List Str} {vs:List Mu} {m:Str->Option Mu},x∉ns->bindL kindOf (ns.zip vs) m x=m x:=by
  intro ns
  induction ns with
  |nil=>intro vs m _;simp[bindL]
  |cons y ns ih=>
   intro vs m h
   rw[JY,not_or]at h
   cases vs with
   |nil=>simp[bindL]
   |cons w vs=>
    rw[List.zip_cons_cons,bindL]
    rw[ih h.2]
    split
    ·simp[h.1]
    ·rfl
 intro ns
 induction ns with
 |nil=>intro vs m i v _ h;simp at h
 |cons y ns ih=>
  intro vs m i v nd h1 h2
  have nd':=List.nodup_cons.mp nd
  cases vs with
  |nil=>simp at h2
  |cons w vs=>
   rw[List.zip_cons_cons,bindL]
   cases i with
   |zero=>
    simp only[LU,Option.some.injEq]at h1 h2
    subst h1;subst h2
    rw[out nd'.1,if_pos hx];simp
   |succ i=>exact ih nd'.2 (by simpa using h1) (by simpa using h2)
theorem wY{kindOf:Str->Option NameKind}{x:Str}(hx:kindOf x≠some .local):∀{ns:List Str} {vs:List Mu} {m:Str->Option Mu} {i:Nat} {v:Mu},ns.Nodup->ns[i]? =some x->vs[i]? =some v->bindC kindOf (ns.zip vs) m x=some v:=by
 have out:∀{ns:List Str} {vs:List Mu} {m:Str->Option Mu},x∉ns->bindC kindOf (ns.zip vs) m x=m x:=by
  intro ns
  induction ns with
  |nil=>intro vs m _;simp[bindC]
  |cons y ns ih=>
   intro vs m h
   rw[JY,not_or]at h
   cases vs with
   |nil=>simp[bindC]
   |cons w vs=>
    rw[List.zip_cons_cons,bindC]
    rw[ih h.2]
    split
    ·rfl
    ·simp[h.1]
 intro ns
 induction ns with
 |nil=>intro vs m i v _ h;simp at h
 |cons y ns ih=>
  intro vs m i v nd h1 h2
  have nd':=List.nodup_cons.mp nd
  cases vs with
  |nil=>simp at h2
  |cons w vs=>
   rw[List.zip_cons_cons,bindC]
   cases i with
   |zero=>
    simp only[LU,Option.some.injEq]at h1 h2
    subst h1;subst h2
    rw[out nd'.1,if_neg hx];simp
   |succ i=>exact ih nd'.2 (by simpa using h1) (by simpa using h2)
theorem tC{kindOf:Str->Option NameKind}{x:Str}:∀{ns:List Str} {vs:List Mu} {m:Str->Option Mu},x∉ns->bindC kindOf (ns.zip vs) m x=m x:=by
  intro ns
  induction ns with
  |nil=>intro vs m _;simp[bindC]
  |cons y ns ih=>
   intro vs m h
   rw[JY,not_or]at h
   cases vs with
   |nil=>simp[bindC]
   |cons w vs=>
    rw[List.zip_cons_cons,bindC]
    rw[ih h.2]
    split
    ·rfl
    ·simp[h.1]
section
variable {al:List (Mt×Mt)}
inductive Gi(X:Cx)(closure:List (Str×Mt))(loc:List LV)(al:List (Mt×Mt))(F:Mt->Prop)(h:Heap)(x:da):Prop
 |mk (c0:x.cell=true) (v:V) (c:Mt) (a:Mu) (e1:loc[x.slot]? =some (LV.val v)) (e2:closure.lookup x.name=some c) (e3:pf h c a) (e4:¬F c) (r:Rep X al F h v a)
structure Dw(X:Cx)(sc:Sc)(ns cln:List Str)(closure:List (Str×Mt))(args:List V)(loc:List LV)(al:List (Mt×Mt))(F:Mt->Prop)(h:Heap):Prop where
 arg:∀(i:Nat) (v:V),args[i]? =some v->loc[i]? =some (LV.val v)
 rest:∀x∈sc.vis,ns.length<=x.slot->x.name∉cln->loc[x.slot]? =none∨loc[x.slot]? =some LV.unset
 free:∀x∈sc.vis,x.name∈cln->Gi X closure loc al F h x
 noOwn:∀(i:Nat) (l:List V),loc[i]? ≠some (LV.own l)
 apart:∀x∈cln,x∉ns
 clo:cln=[]->closure=[]
theorem lE{scope:Scope}{ns cln:List Str}{closure:List (Str×Mt)}{qual:Str}{func:Option Mt}{code:Mu}{args:List V}{vals:List Mu}{loc:List LV}
  (S:xB sc scope ns cln) (nd:ns.Nodup) (am:bI X A (n+1) s) (I:bT X mu al F s.heap) (R:ag X al F s.heap args vals) (hlen:ns.length=vals.length)
  (he:env=newEnv scope s.heap.objs.size mainGlobals (cellsFrom (s.heap.objs.size+1) scope.names closure) qual func code none builtinsNs)
  (x:GA s env (cellsFrom (s.heap.objs.size+1) scope.names []) (bindL env.kindOf (ns.zip vals) fun _=>none) (bindC env.kindOf (ns.zip vals) fun _=>none) s₁)
  (hcode:∀c q,sc.code=some (c,q)->code=.ref c/\qual=q) (L0:Dw X sc ns cln closure args loc al F s.heap):
  ∃F',bE X n (A.deeper env) env sc al F s (bindL env.kindOf (ns.zip vals) fun _=>none) (fun _=>0) ⟨loc,mu⟩ al F' s₁:=by
 have hL:env.locals=s.heap.objs.size:=by subst he;rfl
 have hS:env.scope=scope:=by subst he;rfl
 have hC:env.cells=cellsFrom (s.heap.objs.size+1) scope.names closure:=by subst he;rfl
 have hko:∀y,env.kindOf y=scope.names.lookup y:=fun y=>by subst he;rfl
 have hC0:cln=[]->env.cells=cellsFrom (s.heap.objs.size+1) scope.names []:=fun z=>by rw[hC,L0.clo z]
 have hC1:(∀x∈scope.names,x.2≠ .cell)->env.cells=closure:=fun z=>by rw[hC,fq _ _ _ z]
 let new:Mt->Prop:=fun a=>a=env.locals∨∃z,(z,a)∈cellsFrom (s.heap.objs.size+1) scope.names []/\s₁.heap.get? a=some bz
 have nl:∀{a},s.heap.objs.size<=a->¬ae s.heap a:=fun{a} h qz=>qz.casesOn fun o e=>absurd (Heap.lt_size e) (KW.mpr h)
 have hn:∀a,new a->¬ae s.heap a/\ae s₁.heap a:=fun a z=>by
  rcases z with rfl|⟨z,hz,e⟩
  ·obtain⟨o,es,ep,e1,_⟩:=x.frame
   exact⟨nl (JZ hL.symm),⟨o,e1⟩⟩
  ·have:=x.above z a hz
   exact⟨nl (Lh (hL▸this)),⟨_,e⟩⟩
 have offC:∀{a},¬ae s.heap a->a∉cells al/\a∉X.tabs:=fun{a} h=>⟨fun m=>h (I.hot a (I.cell a m)).1,fun m=>h (I.hot a (I.tabs a m).1).1⟩
 have offB:∀{a},¬ae s.heap a->X.B.get? a=none:=fun{a} h=>by
  cases q:X.B.get? a with
  |none=>rfl
  |some o=>exact absurd ⟨o,I.stays a o q⟩ h
 have hnL:¬ae s.heap env.locals:=nl (JZ hL.symm)
 have pr:bB s.heap F s₁.heap (fun a=>F a∨new a):=fun b o e q _=>⟨x.keep _ _ e,fun z=>z.elim q fun z=>(hn b z).1 ⟨o,e⟩⟩
 obtain⟨hp,tk,rfl,htk⟩:=x.same
 obtain⟨oL,es,ep,f1,f2,f3⟩:=x.frame
 have amb:bI X (A.deeper env) n {s with heap:=hp,toks:=tk}:=by
  obtain⟨h0,h1,h2,h3,l,h4,h5⟩:=am
  refine⟨EM h0 htk,h1,?_,?_,env::l,?_,fun e hm=>?_⟩
  ·show A.depth+1+2*n < _;exact lin [_,_,_] [(1,.a (.a (.v 0) (.m 2 (.a (.v 1) (.n 1)))) (.n 1),.v 2)] 1 (.a (.a (.a (.v 0) (.n 1)) (.m 2 (.v 1))) (.n 1)) (.v 2) rfl h2
  ·show A.units+3+12*n+200 < _;exact lin [_,_,_] [(1,.a (.a (.a (.v 0) (.m 12 (.a (.v 1) (.n 1)))) (.n 200)) (.n 1),.v 2)] 1 (.a (.a (.a (.a (.v 0) (.n 3)) (.m 12 (.v 1))) (.n 200)) (.n 1)) (.v 2) rfl h3
  ·show A.frames.map (env::·)=_;rw[h4];rfl
  ·rcases JY.mp hm with rfl|hm
   ·exact⟨by rw[hS];exact S.kind,e.locals,oL,es,ep,by subst he;rfl,f1,f2,f3,offB hnL⟩
   ·obtain⟨k,L,o,es,ep,e1,e2,e3,e4,e5⟩:=h5 e hm
    exact⟨k,L,o,es,ep,e1,x.keep _ _ e2,e3,e4,e5⟩
 have inv:bT X mu al (fun a=>F a∨new a) hp:=I.more x.keep new hn
 have top:Top (A.deeper env) env:=by
  obtain⟨_,_,_,_,l,h4,_⟩:=am
  exact⟨l,env.locals,by show A.frames.map (env::·)=_;rw[h4];rfl,by subst he;rfl⟩
 refine⟨fun a=>F a∨new a,⟨hnL,top⟩,amb,⟨inv,by rw[hS];exact S.kind,by subst he;rfl,by subst he;rfl,⟨oL,es,ep,f1,f3,(offC hnL).1,(offC hnL).2,hnL,.inr (.inl rfl)⟩,fun a l=>l.grow x.keep,x.ns,fun y hy=>by rw[hko];exact S.gls y hy,fun y hy=>?_,fun y hy=>?_,fun c q hcq=>?_,fun i j l l' h1 _ _=>absurd h1 (L0.noOwn i l)⟩,aT.more x.keep new hn⟩
 ·have:=S.kinds y hy
  cases hc:y.cell with
  |false=>rw[hc]at this;simpa[hko]using this
  |true=>
   rw[hc]at this
   simp only[if_true]at this ⊢
   rw[hko]
   exact this.imp (fun z=>z.1) fun z=>z.1
 ·show bq X env _ _ _ al _ hp y loc[y.slot]?
  have hkd:=S.kinds y hy
  by_cases hlt:y.slot < ns.length
  ·
   have hpn:=S.par y hy _ (J4 hlt)
   have hvl:y.slot < vals.length:=(by exact lin [_,_,_] [(1,.v 0,.v 1),(1,.a (.v 2) (.n 1),.v 0)] 1 (.a (.v 2) (.n 1)) (.v 1) rfl (JZ hlen) hlt)
   have hv:=J4 hvl
   obtain⟨v,hv',Rv⟩:=R.at y.slot hv
   rw[L0.arg _ _ hv']
   have hnm:ns[y.slot]? =some y.name:=by rw[J4 hlt,hpn]
   cases hc:y.cell with
   |false=>
    rw[hc]at hkd
    exact .loc hc ⟨_,wX (by rw[hko];simpa using hkd) nd hnm hv,Rv.pre pr fun _ _ e=>e⟩
   |true=>
    rw[hc]at hkd
    simp only[if_true]at hkd
    refine .cel hc ?_
    rcases hkd with⟨k1,k2,k3⟩|⟨k1,k2,_⟩
    ·obtain⟨c,hcl⟩:=Option.isSome_iff_exists.mp (ij k3 (s.heap.objs.size+1))
     have hcell:=x.cell _ c hcl
     rw[wY (by rw[hko,k1];decide) nd hnm hv]at hcell
     have hab:=x.above _ c (mem_of_lookup hcl)
     refine⟨c,_,by rw[hC0 k2];exact hcl,hcell,fun z=>?_,Rv.pre pr fun _ _ e=>e⟩
     rcases z with z|z|⟨z,_,e⟩
     ·exact nl (Lh (hL▸hab)) (I.hot c z).1
     ·exact absurd z (Ly hab)
     ·rw[hcell]at e;cases e
    ·exact absurd (List.mem_of_getElem? hnm) (L0.apart _ k2)
  ·by_cases hcl:y.name∈cln
   ·obtain⟨hc,v,c,a,g1,g2,g3,g4,g5⟩:=L0.free y hy hcl
    rw[g1]
    refine .cel hc ?_
    have hclo:∀x∈scope.names,x.2≠ .cell:=S.clo.resolve_left fun z=>by rw[z]at hcl;cases hcl
    have:=pr c _ g3 g4 (.inl (by simp))
    exact⟨c,a,by rw[hC1 hclo];exact g2,this.1,this.2,g5.pre pr fun _ _ e=>e⟩
   ·have key:y.cell=true->iM X env (ae s.heap) al (fun a=>F a∨new a) hp y:=by
     intro hc
     rw[hc]at hkd
     simp only[if_true]at hkd
     rcases hkd with⟨k1,k2,k3⟩|⟨k1,k2,_⟩
     ·obtain⟨c,hcl'⟩:=Option.isSome_iff_exists.mp (ij k3 (s.heap.objs.size+1))
      have hcell:=x.cell _ c hcl'
      rw[tC (S.off y hy (by exact lin [_,_] [(1,.v 0,.v 1)] 1 (.v 0) (.v 1) rfl (KB hlt)))]at hcell
      have hab:=x.above _ c (mem_of_lookup hcl')
      have hnc:¬ae s.heap c:=nl (Lh (hL▸hab))
      refine⟨c,by rw[hC0 k2];exact hcl',hcell,.inr (.inr ⟨_,mem_of_lookup hcl',hcell⟩),(offC hnc).1,(offC hnc).2,fun _=>⟨hnc,fun z hz=>?_⟩⟩
      rw[hC0 k2]at hz
      exact name_of_addr x.apart (mem_of_lookup hz) (mem_of_lookup hcl')
     ·exact absurd k2 hcl
    rcases L0.rest y hy (by exact lin [_,_] [(1,.v 0,.v 1)] 1 (.v 0) (.v 1) rfl (KB hlt)) hcl with e|e
    ·rw[e];exact key
    ·rw[e];exact key
 ·have:=hcode c q hcq
  subst he
  exact this
end
section
inductive Gj(X:Cx)(i:Nat)(sc:Sc)(body:List Stmt)(ns:List Str)(dflt:List V):Prop
 |mk (o:Obj) (fd:_) (dv:List Mu) (e1:X.B.get? (X.fnA i)=some o) (e2:o.data=.func fd) (e3:fd.globals=mainGlobals) (e4:fd.builtins=builtinsNs) (e5:fd.closure=[]) (e6:fd.body=.stmts body) (e7:X.B.CodeRec fd.code fd.qualname) (e8:rT fd ns) (e9:xB sc fd.scope ns [])
  (f:∀c q,sc.code=some (c,q)->fd.code=.ref c/\fd.qualname++".<locals>."=q) (r:ag X [] (fun _=>False) X.B dflt dv)
  (d:(fd.defaults=.none/\dv=[])∨∃T oT n,fd.defaults=.ref T/\X.B.get? T=some oT/\oT.data=.seq dv.toArray n)
structure nq(X:Cx)(i:Nat)(sc:Sc)(body:List Stmt)(ns:List Str)(dflt:List V):Prop where
 ex:Gj X i sc body ns dflt
section
variable {al:List (Mt×Mt)}
theorem jP{args:List V}{k:Nat}{i:Nat}{v:V}(h:args[i]? =some v):(init args k mu).loc[i]? =some (.val v):=by
 have hl:=(JT.mp h).1
 show(args.map LV.val++List.replicate k .unset)[i]? =_
 rw[J6 (by simpa using hl)]
 simp[h]
theorem lz{args:List V}{k:Nat}{i:Nat}(h:args.length<=i):(init args k mu).loc[i]? =none∨(init args k mu).loc[i]? =some .unset:=by
 show(args.map LV.val++List.replicate k .unset)[i]? =none∨(args.map LV.val++List.replicate k .unset)[i]? =_
 rw[Ky (by simpa using h),List.getElem?_replicate]
 split<;>simp
theorem on{args:List V}{k:Nat}(i:Nat)(l:List V):(init args k mu).loc[i]? ≠some (.own l):=by
 intro h
 have:=List.mem_of_getElem? h
 simp[init]at this
noncomputable def A5(X:Cx)(al:List (Mt×Mt))(F:Mt->Prop)(s:Ms)(kv:V->List aa->Prop)(ke:Nat->List aa->Prop):Result->Ms->Prop:=fun r s'=>match r with
 | .ok (.ret v)=>RP X al F s kv v s'
 | .ok _=>False
 | .error e=>RX X al F s ke e s'
theorem oK{i:Nat}{body:List Stmt}{ns:List Str}{dflt args:List V}{vals:List Mu}{k:Nat}{kv:V->List aa->Prop}{ke:Nat->List aa->Prop}(hlim:X.B.NoLimit)(H:nq X i sc body ns dflt)
  (hl1:args.length<=ns.length) (hl2:ns.length<=args.length+dflt.length) (hl3:dflt.length<=ns.length)
  (am:bI X A (n+1) s) (I:bT X mu al F s.heap) (R:ag X al F s.heap args vals)
  (hb:∀env A' F' m s',bE X n A' env sc al F s m (fun _=>0) (init (args++dflt.drop (args.length+dflt.length - ns.length)) k mu) al F' s'->(∀b o,s.heap.get? b=some o->s'.heap.get? b=some o)->
   wpAny (model X.prog X.w) A' (execs body env) (FP X n A' env sc al F s (ax kv)) (XS X n A' env sc al F s (aG ke)) s'):
  codeAny (model X.prog X.w) A (.call (.ref (X.fnA i)) ⟨vals,[]⟩) (A5 X al F s kv ke) s:=by
 obtain⟨o,fd,dv,e1,e2,e3,e4,e5,e6,e7,P,S,hcode,Rd,hdv⟩:=H.ex
 have hlv:=R.length
 have hld:=Rd.length
 have Rall:ag X al F s.heap (args++dflt.drop (args.length+dflt.length - ns.length)) (vals++dv.drop (vals.length+dv.length - ns.length)):=by
  refine R.append ?_
  rw[←hlv, ←hld]
  exact(Rd.pre I.preB (fun i p e=>by simp at e)).dr _
 refine codeAny_call_function (by have:=am.depth;exact lin [_,_,_] [(1,.a (.a (.v 0) (.m 2 (.a (.v 1) (.n 1)))) (.n 1),.v 2)] 1 (.a (.v 0) (.n 1)) (.v 2) rfl this) (I.stays _ _ e1) e2 S.co S.gen e6 (e7.keeps I.stays) ?_
 refine j9 P (dv:=dv) (by exact lin [_,_,_] [(1,.v 0,.v 1),(1,.v 2,.v 0)] 1 (.v 2) (.v 1) rfl hl1 (JZ hlv.symm)) (by exact lin [_,_,_,_,_] [(1,.v 0,.a (.v 1) (.v 2)),(1,.v 1,.v 3),(1,.v 2,.v 4)] 1 (.v 0) (.a (.v 3) (.v 4)) rfl hl2 (JZ hlv) (JZ hld)) (by exact lin [_,_,_] [(1,.v 0,.v 1),(1,.v 2,.v 0)] 1 (.v 2) (.v 1) rfl hl3 (JZ hld.symm)) (fun Q hQ=>?_) ?_
 ·rcases hdv with⟨q1,q2⟩|⟨T,oT,n',q1,q2,q3⟩
  ·rw[q1]
   show wpAny _ _ (do notAStandIn Value.none;pure none) _ _ _
   exact JJ (JO (JO (hQ _ (by simp[q2]))))
  ·rw[q1]
   exact wpAny_seqItems (I.stays _ _ q2) q3 (hQ _ (by simp))
 ·rw[e3,e4,e5]
  have hlen:ns.length=(vals++dv.drop (vals.length+dv.length - ns.length)).length:=by rw[JU,LS];exact bl1 (hlv▸hl1) (hlv▸hld▸hl2)
  refine oF S.kind (.inl rfl) (fun x hx=>?_) fun env he s' x=>?_
  ·have:=S.bound x.1 (List.of_mem_zip (a:=x.1) (b:=x.2) hx).1
   exact this.imp id fun q=>⟨q.1,rfl,ij q.2.2 _⟩
  ·have L0:Dw X sc ns [] [] (args++dflt.drop (args.length+dflt.length - ns.length)) (init (args++dflt.drop (args.length+dflt.length - ns.length)) k mu).loc al F s.heap:=
    ⟨fun i v q=>jP q,fun x hx hs _=>lz (by rw[Rall.length, ←hlen];exact hs),fun x _ q=>(nomatch q),on,fun x q=>(nomatch q),fun _=>rfl⟩
   obtain⟨F',p⟩:=lE (cln:=[]) (closure:=[]) (mu:=mu) S P.nd am I Rall hlen he x hcode L0
   refine⟨(hlim.keeps I.stays).keeps x.keep,codeAny_func ?_⟩
   refine J0 (hb env (A.deeper env) F' _ s' p x.keep) (fun f s2 q=>?_) fun e s2 q=>?_
   ·obtain⟨fl,st2,al2,F2,m2,om2,hk,R2,b2,N2,a2⟩:=q
    cases f with
    |next=>cases fl with
     |next=>exact⟨.none,st2.mu,al2,F2,hk,.none,b2,N2.inv⟩
     |ret v=>exact R2.elim
    |ret v=>cases fl with
     |next=>exact R2.elim
     |ret v=>exact⟨v,st2.mu,al2,F2,hk,R2,b2,N2.inv⟩
    |_=>cases fl<;>exact R2.elim
   ·obtain⟨c,st2,al2,F2,m2,om2,hk,⟨a,ea,fl⟩,b2,N2,a2⟩:=q
    subst ea
    obtain⟨outer,L,hfr,hf⟩:=p.own.2
    refine lj a2 hfr hf N2.inv b2.tr.live fl fun T T' h' d=>?_
    exact⟨c,st2.mu,al2,_,hk,d.flying,d.aft b2,d.inv N2.inv⟩
theorem rL{i:Nat}{body:List Stmt}{mb:List MS}{ns:List Str}{dflt args:List V}{vals:List Mu}{k:Nat}{kv:V->List aa->Prop}{ke:Nat->List aa->Prop}(hlim:X.B.NoLimit)(H:nq X i sc body ns dflt)(hb:bH X n sc body mb)
  (hl1:args.length<=ns.length) (hl2:ns.length<=args.length+dflt.length) (hl3:dflt.length<=ns.length)
  (h:wp (Wd X n) (aS mb (ax kv) (aG ke) (init (args++dflt.drop (args.length+dflt.length - ns.length)) k mu))) (am:bI X A (n+1) s) (I:bT X mu al F s.heap) (R:ag X al F s.heap args vals):
  codeAny (model X.prog X.w) A (.call (.ref (X.fnA i)) ⟨vals,[]⟩) (A5 X al F s kv ke) s:=by
 exact oK hlim H hl1 hl2 hl3 am I R fun env A' F' m s' p _=>hb env A' al F s s' _ m _ al F' _ _ p h
theorem DI{i:Nat}{body:List Stmt}{mb:List MS}{ns:List Str}{dflt args:List V}{k:Nat}{kv:V->List aa->Prop}{ke:Nat->List aa->Prop}(hlim:X.B.NoLimit)(H:nq X i sc body ns dflt)(hb:bH X n sc body mb)
  (hl1:args.length<=ns.length) (hl2:ns.length<=args.length+dflt.length) (hl3:dflt.length<=ns.length)
  (h:wp (Wd X n) (aS mb (ax kv) (aG ke) (init (args++dflt.drop (args.length+dflt.length - ns.length)) k mu))):Wd X (n+1) (.fn i) args mu kv ke:=by
 intro A s al F fv vals am I Rf R
 obtain rfl:=Rf.inv
 exact LI (codeAny_mono (rL hlim H hb hl1 hl2 hl3 h am I R) fun r s' q=>by rcases r with e|(v|_|_|_)<;>exact q)
structure A1(X:Cx)(i:Nat)(sc:Sc)(ns:List Str)(cn:Str):Prop where
 pos:(X.lams i).params.posonlyargs=[]
 args:(X.lams i).params.args.map (·.arg)=ns
 var:(X.lams i).params.vararg=none
 kwo:(X.lams i).params.kwonlyargs=[]
 kw:(X.lams i).params.kwarg=none
 nd:ns.Nodup
 keeps:(X.lams i).keeps=[cn]
 scok:xB sc (X.lams i).scope ns [cn]
 code:sc.code=none
 cell:∀x∈sc.vis,x.name=cn->x.cell=true/\x.slot=ns.length
 one:∀x∈sc.vis,x.name≠cn->x.slot≠ns.length
 apart:cn∉ns
theorem tN{i:Nat}{me:ME}{ns:List Str}{cn:Str}{args:List V}{cv:V}{kv:V->List aa->Prop}{ke:Nat->List aa->Prop}(hlim:X.B.NoLimit)(H:A1 X i sc ns cn)(he:ah X n sc (X.lams i).body me)
  (hl:args.length=ns.length) (h:wp (Wd X n) (ev me (.v fun v st=>.hold (kv v st.mu)) (aG ke) (init (args++[cv]) 0 mu))):Wd X (n+1) (.lam i [cv]) args mu kv ke:=by
 intro A s al F fv vals am I Rf R
 obtain⟨a,cs,cvs,rfl,⟨pm,c,ct,oc,vs,t,g1,g2,g3,g4,g5,g6⟩,hcs,hce,hcr⟩:=Rf.inv
 have hlv:=R.length
 obtain⟨cva,_,rfl,r1,r0⟩:=hcr.inv
 obtain rfl:=r0.inv
 obtain⟨ca,_,e,c1,c0⟩:∃x l',cs=x::l'/\pf s.heap x cva/\All2 (pf s.heap) l' []:=hce.inv
 subst e
 have e:_=[]:=c0.inv
 subst e
 have P:rT (kla_fn (Str.ofString "<lambda>") (X.lams i).qual (X.lams i).params (X.lams i).body (X.lams i).scope ((X.lams i).keeps.zip [ca]) pm (.ref c) ct) ns:=⟨H.pos,H.args,H.var,H.kwo,H.kw,H.nd⟩
 refine LI (kla_callFunE (by have:=am.depth;exact lin [_,_,_] [(1,.a (.a (.v 0) (.m 2 (.a (.v 1) (.n 1)))) (.n 1),.v 2)] 1 (.a (.v 0) (.n 1)) (.v 2) rfl this) g1 rfl H.scok.co H.scok.gen rfl ⟨c,oc,vs,t,rfl,g2,g3,g4⟩ ?_)
 refine j9 P (dv:=[]) (by exact lin [_,_,_] [(1,.v 0,.v 1),(1,.v 2,.v 0)] 1 (.v 2) (.v 1) rfl (JZ hl) (JZ hlv.symm)) (by simp;exact lin [_,_,_] [(1,.v 0,.v 1),(1,.v 1,.v 2)] 1 (.v 0) (.v 2) rfl (JZ hl.symm) (JZ hlv)) (by simp) (fun Q hQ=>?_) ?_
 ·show wpAny _ _ (do notAStandIn Value.none;pure none) _ _ _
  exact JJ (JO (JO (hQ _ (by simp))))
 ·simp only[List.drop_nil,JX]
  have hclo:=H.scok.clo.resolve_left (by simp)
  refine oF H.scok.kind (.inr hclo) (fun x hx=>?_) fun env he' s' x=>?_
  ·have:=H.scok.bound x.1 (List.of_mem_zip (a:=x.1) (b:=x.2) hx).1
   rcases this with q|⟨_,q,_⟩
   ·exact .inl q
   ·cases q
  ·have L0:Dw X sc ns [cn] ((X.lams i).keeps.zip [ca]) args (init (args++[cv]) 0 mu).loc al F s.heap:=by
    refine⟨fun i v q=>jP (by rw[J6 (JT.mp q).1];exact q),fun x hx hs hn=>?_,fun x hx q=>?_,on,fun x q=>?_,fun q=>(nomatch q)⟩
    ·have hne:=H.one x hx (by simpa using hn)
     exact lz (by rw[JU];exact hl▸Nat.lt_of_le_of_ne hs (Ne.symm hne))
    ·have q:x.name=cn:=by simpa using q
     obtain⟨k1,k2⟩:=H.cell x hx q
     refine⟨k1,cv,ca,cva,jP ?_,?_,c1,hcs ca (.head _),r1⟩
     ·rw[k2,Ky (by exact lin [_,_] [(1,.v 0,.v 1)] 1 (.v 0) (.v 1) rfl (JZ hl)),hl];simp
     ·rw[H.keeps,q];simp
    ·have q:x=cn:=by simpa using q
     subst q;exact H.apart
   obtain⟨F',p⟩:=lE (cln:=[cn]) (mu:=mu) H.scok P.nd am I R (by exact Lp (lin [_,_,_] [(1,.v 0,.v 1),(1,.v 1,.v 2)] 1 (.v 0) (.v 2) rfl (JZ hl.symm) (JZ hlv)) (by exact lin [_,_,_] [(1,.v 0,.v 1),(1,.v 2,.v 0)] 1 (.v 2) (.v 1) rfl (JZ hl) (JZ hlv.symm))) he' x (fun c q z=>by rw[H.code]at z;cases z) L0
   refine⟨(hlim.keeps I.stays).keeps x.keep,kla_codeExpr ?_⟩
   refine J0 (c8 he p h (fun r v st2 al2 F2 s2 hk R2 b2 q2=>?_)) (fun _ _ x=>x) fun e s2 q=>?_
   ·exact⟨r,st2.mu,al2,F2,hk,R2,q2.aft,q2.now.inv⟩
   ·obtain⟨c,st2,al2,F2,m2,om2,hk,⟨a,ea,fl⟩,b2,N2,a2⟩:=q
    subst ea
    obtain⟨outer,L,hfr,hf⟩:=p.own.2
    refine lj a2 hfr hf N2.inv b2.tr.live fl fun T T' h' d=>?_
    exact⟨c,st2.mu,al2,_,hk,d.flying,d.aft b2,d.inv N2.inv⟩
end
end
section
structure Md(X:Cx):Prop where
 makes:∀c,3<=c->c<=5->makesIn X.K (X.clsA c)=true
 init:∀c,3<=c->c<=5->findIn X.K (.ref (X.clsA c)) "__init__"=some (some (.ref (X.fnA (ia c))))
 typ:∀c,3<=c->c<=5->typeIn X.K (.ref (X.fnA (ia c)))=some (.type "function")
section
variable {al:List (Mt×Mt)}
theorem bI.le{n':Nat}(am:bI X A n s)(h:n'<=n):bI X A n' s:=by
 obtain⟨h0,h1,h2,h3,r⟩:=am
 exact⟨h0,h1,(by exact lin [_,_,_,_] [(2,.v 0,.v 1),(1,.a (.a (.v 2) (.m 2 (.v 1))) (.n 1),.v 3)] 1 (.a (.a (.v 2) (.m 2 (.v 0))) (.n 1)) (.v 3) rfl h h2),Kw (J3 (JM (Kh 12 h) _) _) h3,r⟩
theorem bI.tc{C:Mt}{rest:List Mu}(am:bI X A (n+1) s):bI X (A.under (.builtin "type.__call__" ⟨.ref C::rest,[]⟩)) n s:=by
 obtain⟨h0,h1,h2,h3,l,h4,h5⟩:=am
 have e1:(A.under (.builtin "type.__call__" ⟨.ref C::rest,[]⟩)).depth=A.depth+1:=rfl
 have e2:(A.under (.builtin "type.__call__" ⟨.ref C::rest,[]⟩)).units=A.units+1:=rfl
 have e3:(A.under (.builtin "type.__call__" ⟨.ref C::rest,[]⟩)).frames=A.frames:=rfl
 exact⟨h0,h1,by rw[e1];exact lin [_,_,_] [(1,.a (.a (.v 0) (.m 2 (.a (.v 1) (.n 1)))) (.n 1),.v 2)] 1 (.a (.a (.a (.v 0) (.n 1)) (.m 2 (.v 1))) (.n 1)) (.v 2) rfl h2,by rw[e2];exact lin [_,_,_] [(1,.a (.a (.a (.v 0) (.m 12 (.a (.v 1) (.n 1)))) (.n 200)) (.n 1),.v 2)] 1 (.a (.a (.a (.a (.v 0) (.n 1)) (.m 12 (.v 1))) (.n 200)) (.n 1)) (.v 2) rfl h3,l,by rw[e3];exact h4,h5⟩
theorem pj{c:Nat}{body:List Stmt}{mb:List MS}{ns:List Str}{dflt args:List V}{k:Nat}{kv:V->List aa->Prop}{ke:Nat->List aa->Prop}(G:Kd X)(M:Md X)(h3:3<=c)(h5:c<=5)(hlim:X.B.NoLimit)(H:nq X (ia c) sc body ns dflt)(hb:bH X n sc body mb)
  (hl1:args.length+1<=ns.length) (hl2:ns.length<=args.length+1+dflt.length) (hl3:dflt.length<=ns.length)
  (h:wp (Wd X n) (aS mb (ax fun v mu'=>v=.none/\kv (.obj mu.length) mu') (aG ke) (init ((.obj mu.length::args)++dflt.drop (args.length+1+dflt.length - ns.length)) k (mu++[.ins c []])))):Wd X (n+2) (.cls c) args mu kv ke:=by
 intro A s al F fv vals am I Rf R
 obtain rfl:=Rf.inv
 obtain⟨hh,g,d,t,os⟩:=s
 have hin:=I.inn G
 refine LI (make_core (makes_of hin (M.makes c h3 h5)) (looks_findIn hin (M.init c h3 h5)) (fun self=>bind_fn hin self (M.typ c h3 h5)) (.inl rfl) ?_)
 have keep:∀b o,hh.get? b=some o->((hh.push emptyDict).push (instObj (X.clsA c) hh.objs.size)).get? b=some o:=fun b o e=>af _ _ _ (af _ _ _ e)
 have hx:((hh.push emptyDict).push (instObj (X.clsA c) hh.objs.size)).get? (hh.objs.size+1)=some (instObj (X.clsA c) hh.objs.size):=by heap_get
 have hd:((hh.push emptyDict).push (instObj (X.clsA c) hh.objs.size)).get? hh.objs.size=some (dictOf [] 0):=af _ _ _ (J8 _ rfl)
 have hD:¬ae hh hh.objs.size:=av hh
 have hx0:¬ae hh (hh.objs.size+1):=fun qz=>qz.casesOn fun o e=>absurd (Heap.lt_size e) (KW.mpr (Lf _))
 have I1:bT X (mu++[.ins c []]) (al++[(hh.objs.size+1,hh.objs.size)]) (fun b=>F b∨b=hh.objs.size) ((hh.push emptyDict).push (instObj (X.clsA c) hh.objs.size)):=by
  refine I.add keep hD ⟨_,hd⟩ ?_
  exact .ins (ks:=[]) (vs:=[]) (l:=[]) h3 hx (fun z=>z.elim (fun z=>hx0 (I.hot _ z).1) fun z=>absurd z (Nat.succ_ne_self _)) ⟨[],0,hd,by simp,.nil⟩ rfl .nil
 have b1:aT X (ae hh) al F ⟨hh,g,d,t,os⟩ (al++[(hh.objs.size+1,hh.objs.size)]) (fun b=>F b∨b=hh.objs.size) ⟨(hh.push emptyDict).push (instObj (X.clsA c) hh.objs.size),g,d,t,os⟩:=aT.add (t:=t) keep hD
 have hidx:(al++[(hh.objs.size+1,hh.objs.size)])[mu.length]? =some (hh.objs.size+1,hh.objs.size):=by
  rw[I.objs.length,Ky (JL _)];simp
 have am1:bI X (A.under (.builtin "type.__call__" ⟨.ref (X.clsA c)::vals,[]⟩)) (n+1) ⟨(hh.push emptyDict).push (instObj (X.clsA c) hh.objs.size),g,d,t,os⟩:=by
  obtain⟨h0,h1,h2,h3,l,h4,h5⟩:=am.tc (C:=X.clsA c) (rest:=vals)
  refine⟨h0,h1,h2,h3,l,h4,fun e he=>?_⟩
  obtain⟨k,L,o,es,ep,e1,e2,r,r_1,r_2⟩:=h5 e he
  exact⟨k,L,o,es,ep,e1,keep _ _ e2,r,r_1,r_2⟩
 have ha:∀(i:Nat) (p:Mt×Mt),al[i]? =some p->(al++[(hh.objs.size+1,hh.objs.size)])[i]? =some p:=fun i p e=>by rw[J6 (JT.mp e).1];exact e
 have R1:ag X (al++[(hh.objs.size+1,hh.objs.size)]) (fun b=>F b∨b=hh.objs.size) ((hh.push emptyDict).push (instObj (X.clsA c) hh.objs.size)) (.obj mu.length::args) (.ref (hh.objs.size+1)::vals):=
  .cons (.obj hidx) (R.pre (fun b o e nf _=>⟨keep _ _ e,fun z=>z.elim nf fun z=>hD (z▸⟨o,e⟩)⟩) ha)
 refine codeAny_mono (rL hlim H hb (by rw[KC];exact hl1) (by rw[KC];exact lin [_,_,_] [(1,.v 0,.a (.a (.v 1) (.n 1)) (.v 2))] 1 (.v 0) (.a (.a (.v 1) (.n 1)) (.v 2)) rfl hl2) hl3 (by simpa using h) am1 I1 R1) fun r s' q=>?_
 cases r with
 |error e=>exact q.casesOn fun c' mu' al' F' q1 q2 q3 q4=>⟨c',mu',al',F',q1,q2.based b1.tr.live,b1.trans (q3.weaken b1.tr.live),q4⟩
 |ok r=>cases r with
  |ret v=>
   obtain⟨r,mu',al',F',q1,q2,q3,q4⟩:=q
   rw[q1.1]at q2
   exact⟨q2.inv,.obj mu.length,mu',al',F',q1.2,.obj (q3.idx _ _ hidx),b1.trans (q3.weaken b1.tr.live),q4⟩
  |_=>exact q.elim
end
end
section
noncomputable abbrev cA(C t:Mt):Obj:={cls:=.ref C,data:=.fields #[.ref t,.none,.none,.none,.bool false,.none]}
noncomputable abbrev cZ(rest:List Mu):Obj:={cls:=.type "tuple",data:=.seq rest.toArray}
section
variable {t:Nat}
variable {nm:Str} {bm:List Mu} {sub:List Mu}
structure lO(bm:List Mu):Prop where
 exc:bm.contains (.type "Exception")=true
 base:bm.contains (.type "BaseException")=true
 attr:bm.contains (.type "AttributeError")=false
 name:bm.contains (.type "NameError")=false
theorem zH(B:lO bm){rest:List Mu}(hC:h.get? C=some (excClassObj nm q C N bs bm hdct sn sub ab col dd k0 k1 k2 k3 k5 "Exception.__new__"))
  (hq:R (.ok (.ret (.ref (h.objs.size+1)))) ⟨(h.push (cZ rest)).push (cA C h.objs.size),g,d,t,os⟩) (hrest:rest.length<=sizeLine):
  codeAny (model prog w) A (.builtin "Exception.__new__" ⟨.ref C::rest,[]⟩) R ⟨h,g,d,t,os⟩:=by
 have F:=PySem.F.excBase_Exception
 have hends:=F.ends
 have hcB:(Value.ref C::bm).contains (.type "Exception")=true:=by rw[Li,B.exc,Ml]
 have hcA:(Value.ref C::bm).contains (.type "AttributeError")=false:=by rw[Li,B.attr];rfl
 have hcN:(Value.ref C::bm).contains (.type "NameError")=false:=by rw[Li,B.name];rfl
 refine codeAny_builtinAt F.entry ?_
 unfold Builtin.«BaseException.__new__»
 refine PySem.wpAt_bind ?_
 show PySem.wpAt _ _ _ (stack>>=_) _ _ _
 refine PySem.wpAt_bind (PySem.wpAt_stack fun p below=>PySem.wpAt_of_wpAny ?_)
 wp_walk
 refine PySem.wpAt_of_wpAny ?_
 rw[F.owner]
 repeat (first|with_reducible refine wpAny_madeHere_exc F.canon hC ?_|with_reducible refine Lc hC ?_|(with_reducible refine LG hC ?_;first|rw[hcB]|rw[hcA]|rw[hcN])|wp_step)
 show R _ _
 rw[Heap.size_push]
 exact hq
theorem kN(B:lO bm){M:Model}{rest:List Mu}{Q:Unit->Ms->Prop}(hC:h.get? C=some (excClassObj nm q C N bs bm hdct sn sub ab col dd k0 k1 k2 k3 k5 "Exception.__new__"))
  (hq:Q () ⟨h,g,d,t,os⟩):wpAny M A (checkBuiltinCall "Exception.__new__" ⟨.ref C::rest,[]⟩) Q E ⟨h,g,d,t,os⟩:=by
 have F:=PySem.F.excBase_Exception
 have hcont:(Value.ref C::bm).contains (.type "Exception")=true:=by rw[Li,B.exc,Ml]
 have hstar:=F.noStar
 simp only[checkBuiltinCall,F.newKind,F.newSplit,F.newRow]
 repeat (first|refine Lc hC ?_|(refine LG hC ?_;rw[hcont])|refine wpAny_staticBase_exc hC ?_|refine wpAny_madeBy_exc hC ?_|simp only[bne_self_eq_false,Lw,if_false]|wp_step)
 exact hq
theorem wg{K:Frag}(B:lO bm){rest:List Mu}{fI:Mt}(X:K.In h)(hC:h.get? C=some (excClassObj nm q C N bs bm hdct sn sub ab col dd k0 k1 k2 k3 k5 "Exception.__new__"))
  (hi:findIn K (.ref C) "__init__"=some (some (.ref fI))) (hf:typeIn K (.ref fI)=some (.type "function")) (hrest:rest.length<=sizeLine)
  (hq:codeAny (model prog w) (A.under (.builtin "type.__call__" ⟨.ref C::rest,[]⟩)) (.call (.ref fI) ⟨.ref (h.objs.size+1)::rest,[]⟩) (InitBack (h.objs.size+1) R) ⟨(h.push (cZ rest)).push (cA C h.objs.size),g,d,t,os⟩):
  codeAny (model prog w) A (.call (.ref C) ⟨rest,[]⟩) R ⟨h,g,d,t,os⟩:=by
 have F:=PySem.F.excBase_Exception
 have f1:=tc_lookup
 have f2:=tc_bind (.ref C)
 have hT:(⟨h,g,d,t,os⟩:Ms).TypeIs (.ref C) "type":=⟨_,hC,rfl⟩
 refine codeAny_of_tree ?_
 show wpAny _ _ (callAny (.ref C) _) _ _ _
 repeat (any_goals (first|assumption|with_reducible refine Lc hC ?_|wp_step))
 refine⟨rfl,?_⟩
 refine codeAny_call_builtin_at (Code.quiet_builtin _ (by decide+kernel)) entry_typeCall (wpAny_check_type_call_sub hC ?_)
 repeat (first|with_reducible refine Lc hC ?_|with_reducible refine wpAny_madeBy_exc hC ?_|wp_step)
 refine codeAny_call_builtin_code (Code.quiet_builtin _ F.quiet) (kN B hC ?_)
 refine zH B hC ?_ hrest
 show wpAny _ _ _ _ _ ⟨(h.push (cZ rest)).push (cA C h.objs.size),g,d,t,os⟩
 have k:∀b o,h.get? b=some o->((h.push (cZ rest)).push (cA C h.objs.size)).get? b=some o:=fun b o e=>KL _ (KL _ e)
 have hCi:=k _ _ hC
 have hget:((h.push (cZ rest)).push (cA C h.objs.size)).get? (h.objs.size+1)=some {cls:=.ref C,data:=.fields #[.ref h.objs.size,.none,.none,.none,.bool false,.none]}:=by heap_get
 have hcC:(Value.ref C::bm).contains (.ref C)=true:=by simp
 have X1:=X.keeps k
 unfold isInstance
 repeat (first|with_reducible refine Lc hget ?_|(with_reducible refine LG hCi ?_;rw[hcC])|wp_step)
 show wpAny _ _ (typeLookup (.ref C) _) _ _ _
 refine(looks_findIn X1 hi).at ?_
 refine Kp (JJ ((bind_fn X1 _ hf).at ?_))
 refine JJ (LI (codeAny_mono hq fun r s' z=>?_))
 rcases r with e|(v|_|_|_)<;>first|exact z|exact z.elim|skip
 obtain⟨rfl,z⟩:=z
 wp_walk
 exact z
end
end
section
variable {t:Nat}
variable {nm:Str} {bm:List Mu} {sub:List Mu}
theorem jZ(B:lO bm){M:Model}{e:Mt}{oe:Obj}{rest:List Mu}{Q:Unit->Ms->Prop}
  (hC:h.get? C=some (excClassObj nm q C N bs bm hdct sn sub ab col dd k0 k1 k2 k3 k5 "Exception.__new__")) (he:h.get? e=some oe) (hcls:oe.cls=.ref C) (hq:Q () ⟨h,g,d,t,os⟩):
  wpAny M A (checkBuiltinCall "Exception.__init__" ⟨.ref e::rest,[]⟩) Q E ⟨h,g,d,t,os⟩:=by
 have F:=PySem.F.excBase_Exception
 have hcB:(Value.ref C::bm).contains (.type "Exception")=true:=by rw[Li,B.exc,Ml]
 have hshort:=F.noStar
 simp only[checkBuiltinCall,F.initKind,F.initSplit,F.initRow]
 repeat (first|(with_reducible refine Lc he ?_;rw[hcls])|with_reducible refine Lc hC ?_|(with_reducible refine LG hC ?_;rw[hcB])|wp_step)
 refine wpAny_onRaise ?_
 rw[show∀(a b:String) (n:Nat),Bind.check ⟨.positional,"*","Exception",.self,[⟨"args",.varPos,false⟩]⟩ a b n (List.map (fun x=>x.fst) ({pos:=Value.ref e::rest}:Args).kw)=pure ()from
  fun a b n=>check_star_args _ _ _ _ _ _]
 exact JO hq
theorem kM(B:lO bm){e:Mt}{v:Mu}{dd':Option Mt}{t0:Mt}{sl:Array (Option Mu)}{Q:Mu->Ms->Prop}
  (hC:h.get? C=some (excClassObj nm q C N bs bm hdct sn sub ab col dd k0 k1 k2 k3 k5 "Exception.__new__"))
  (he:h.get? e=some {cls:=.ref C,dict:=dd',data:=.fields #[.ref t0,.none,.none,.none,.bool false,.none],slots:=sl})
  (hq:∀h',h'.get? e=some {cls:=.ref C,dict:=dd',data:=.fields #[.ref h.objs.size,.none,.none,.none,.bool false,.none],slots:=sl}->(∀b o,b≠e->h.get? b=some o->h'.get? b=some o)->h.objs.size<=h'.objs.size->Q .none ⟨h',g,d,t,os⟩):
  wpAny (model prog w) A (call (.builtin "Exception.__init__") [.ref e,v]) Q E ⟨h,g,d,t,os⟩:=by
 have F:=PySem.F.excBase_Exception
 refine LI (codeAny_call_builtin F.init.plain F.initEntry (jZ B hC he rfl ?_))
 wp_walk
 refine hq _ ?_ (fun b o hb eb=>?_) (by rw[Heap.size_update,Heap.size_push];exact Lf _)
 ·rw[KS _ (KL _ he) rfl]
  rfl
 ·rw[Lz _ _ (Ne.symm hb)]
  exact KL _ eb
theorem sd{K:Frag}{T:String}{name:Str}{v:Mu}{pl:Sem Bool}{Q:Mu×List Mu->Ms->Prop}(X:K.In s.heap)(ht:typeOf (.type T)=pure (.type "type"))(hs:Manifest.isStub T=false)
  (e:findCls K (.type T) (.type "type") name=some (.val v)) (hh:handedIn v=true) (h:Q (v,[]) {s with toks:=s.toks+1}):wpAny (model prog w) A (getMethod (.type T) name pl) Q E s:=by
 have hstub:opaqueClassAbove (.type T)=pure none:=by unfold opaqueClassAbove;dsimp only;rw[hs];rfl
 have L0:Looks (model prog w) s.heap (typeOf (.type T)) (.type "type"):=Looks.of_pure ht
 have hg:findIn K (.type "type") "__getattribute__"=some (some (.builtin "type.__getattribute__")):=type_tga
 unfold getMethod specialOf
 refine JJ (JJ (L0.here ((looks_findIn X hg).here ?_)))
 dsimp only
 rw[if_pos canon_tga]
 refine JJ (J0 (Q:=fun v=>Q (v,[])) (E:=E) ?_ (fun _ _ z=>JO z) fun _ _ z=>z)
 have LO:Looks (model prog w) s.heap (opaqueClassAbove (.type T)) none:=Looks.of_pure hstub
 refine cls_open X LO L0 hg (looks_hook X (r:=none) (by rfl)) (by show subIn K _ _=_;rfl) e
  (JO (by show wpAny _ _ (handedOut v) _ _ _;rw[handedOut_of hh];exact JO h))
theorem jx(self:Mu):∀{l:List Mu},d8 l=[.type "Exception",.type "BaseException",.type "object"]->refuseLoop self "__setattr__" l=pure ()
 |[],e=>by cases e
 | .ref c::r,e=>by rw[refuseLoop_ref];exact jx self e
 | .type n::r,e=>by
  have:(Value.type n::r)=[.type "Exception",.type "BaseException",.type "object"]:=e
  rw[this];exact PySem.F.store_Exception.passes self
 | .none::r,e=>by cases e
 | .ellipsis::r,e=>by cases e
 | .notImplemented::r,e=>by cases e
 | .bool _::r,e=>by cases e
 | .int _ _::r,e=>by cases e
 | .float _ _::r,e=>by cases e
 | .str _ _::r,e=>by cases e
 | .bytes _ _::r,e=>by cases e
 | .builtin _::r,e=>by cases e
theorem nR:∀{l:List Mu},d8 l=[.type "Exception",.type "BaseException",.type "object"]->l.contains (.type "object")=true
 | .ref c::r,e=>by rw[Li,nR (l:=r) e,Ml]
 | .type n::r,e=>by
  have:(Value.type n::r)=[.type "Exception",.type "BaseException",.type "object"]:=e
  rw[this];decide
 |[],e=>by cases e
 | .none::r,e=>by cases e
 | .ellipsis::r,e=>by cases e
 | .notImplemented::r,e=>by cases e
 | .bool _::r,e=>by cases e
 | .int _ _::r,e=>by cases e
 | .float _ _::r,e=>by cases e
 | .str _ _::r,e=>by cases e
 | .bytes _ _::r,e=>by cases e
 | .builtin _::r,e=>by cases e
end
section
open Builtin Builtin.ObjectAttr Builtin.Getset_descriptor
theorem q9{name:Str}{hs:Int}{t:Tok}{v:Mu}:∀{es:List DictEntry},es.any (·.refKey)=false->(putL name hs (.str name t) v es).any (·.refKey)=false/\(putL name hs (.str name t) v es).length<=es.length+1
 |[],_=>by simp[putL,DictEntry.refKey]
 |e::es,h=>by
  simp only[LC,K7]at h
  obtain⟨i1,i2⟩:=q9 (name:=name) (hs:=hs) (t:=t) (v:=v) h.2
  unfold putL
  split
  ·constructor
   ·simp only[LC,K7]
    exact⟨h.1,h.2⟩
   ·simp
  ·constructor
   ·simp only[LC,K7]
    exact⟨h.1,i1⟩
   ·simp only[KC];exact lin [_,_] [(1,.v 0,.a (.v 1) (.n 1))] 1 (.a (.v 0) (.n 1)) (.a (.a (.v 1) (.n 1)) (.n 1)) rfl i2
section
theorem eM{dx:Mt}{es:List DictEntry}{n:Nat}{name:Str}{tk:Tok}{v:Mu}{Q:Fin->Ms->Prop}(hd:s.heap.get? dx=some (dictOf es n))(hk:es.any (·.refKey)=false)(hlen:es.length<=100)
  (h:∀h' es' n',h'.get? dx=some (dictOf es' n')->es'.any (·.refKey)=false->es'.length<=es.length+1->Heap.SameBut dx s.heap h'->Q (.done (.ret .none)) {s with heap:=h',toks:=s.toks+1}):
  wpAny M A (storeInDict dx (.str name tk) name v) Q E s:=by
 unfold storeInDict newKeyGuard
 refine JJ (JO (JJ ?_))
 unfold nsSet
 refine JJ (JJ (wpAny_askSetting (JO (JJ (wpAny_mkText (JJ (L6 hd ?_)))))))
 have e:=putName_dict name (PyData.keyHash M.w.params name) (.str name s.toks) v es n
 obtain⟨g1,g2⟩:=q9 (name:=name) (hs:=PyData.keyHash M.w.params name) (t:=s.toks) (v:=v) hk
 have hat:(s.heap.update dx (Obj.putName name (PyData.keyHash M.w.params name) (.str name s.toks) v)).get? dx=some (dictOf (putL name (PyData.keyHash M.w.params name) (.str name s.toks) v es) (putN name es n)):=by
  rw[KS _ hd (by rw[e];rfl),e]
 show wpAny _ _ (if aRefKeyMayBeTheName name es.toArray then _ else _) _ _ _
 have c:(!es.toArray.any (·.key.isStr name)&&es.toArray.any (·.refKey))=false:=by
  rw[show es.toArray.any (·.refKey)=false from by rw[←Array.any_toList];exact hk,L9]
 rw[aRefKeyMayBeTheName_at,c]
 refine wpAny_updatePart hd ?_
 refine JJ (wpAny_lookBehind hat (by exact pastItsLine_dict (by rw[JR,sizeLine_eq];exact lin [_,_] [(1,.v 0,.n 100),(1,.v 1,.a (.v 0) (.n 1))] 1 (.v 1) (.a (.n 16777216) (.n 1)) rfl hlen g2)) ?_)
 exact JO (h _ _ _ hat g1 g2 (Heap.SameBut.update ..))
theorem yK{K:Frag}{C e:Mt}{oe:Obj}{vs:Array Mu}{cd:ClassData}{name:Str}{v:Mu}{Q:Unit->Ms->Prop}(X:K.In s.heap)(he:s.heap.get? e=some oe)(hc:oe.cls=.ref C)(hdat:oe.data=.fields vs)
  (hcd:clsIn K C=some cd) (hdict:cd.hasDict=true) (hmro:d8 cd.mro=[.type "Exception",.type "BaseException",.type "object"]) (hs:findIn K (.ref C) "__setattr__"=some (some (.builtin "object.__setattr__"))) (hnm:findIn K (.ref C) name=some none)
  (hd:oe.dict=none∨∃D es n,oe.dict=some D/\D≠e/\s.heap.get? D=some (dictOf es n)/\es.any (·.refKey)=false/\es.length<=50)
  (hQ:∀h' t' D es n,h'.get? e=some {oe with dict:=some D}->D≠e->h'.get? D=some (dictOf es n)->es.any (·.refKey)=false->(oe.dict=none->es.length<=1)->(∀D0,oe.dict=some D0->D=D0)->(oe.dict=none->s.heap.objs.size<=D)->s.toks<=t'->
   (∀b o,b≠e->oe.dict≠some b->s.heap.get? b=some o->h'.get? b=some o)->Q () {s with heap:=h',toks:=t'}):
  wpAny (model prog w) A (setAttr (.ref e) name v) Q E s:=by
 obtain⟨hh,g,d,tks,os⟩:=s
 have SF:=PySem.F.store_object
 have ne:cd.mro.isEmpty=false:=by cases q:cd.mro with|nil=>rw[q]at hmro;cases hmro|cons _ _=>rfl
 have key:∀od,InstAt hh e oe C od->wpAny (model prog w) A (setAttr (.ref e) name v) Q E ⟨hh,g,d,tks,os⟩:=by
  intro od I
  refine set_plain X I hs ?_
  have sub:Looks (model prog w) hh (isInstance (.ref e) (.type "object")) true:=I.type.andThen (looks_mroIn X (by unfold mroIn;rw[hcd,Option.bind_some,if_neg (by rw[ne];decide),nR hmro]))
  refine codeAny_call_builtin SF.slot.plain SF.entry (@check_slot (model prog w) _ _ ⟨hh,g,d,tks+1,os⟩ "object.__setattr__" "object" "__setattr__" (.ref e) [.str name tks,v] [] _ SF.kind SF.split sub (SF.args (.ref e) (.str name tks) v) ?_)
  have hm:Looks (model prog w) hh (mroOf (.ref C)) cd.mro:=(looks_clsIn X hcd).andThen .now
  have L3:Looks (model prog w) hh (storeTaker? none) none:=.now
  rw[osa_eq,refuse_eq]
  refine JJ (JJ (I.type.at (JJ (hm.at ?_))))
  rw[jx _ hmro]
  refine JO (JJ (I.type.at (JJ ((looks_findIn X hnm).at (JJ (L3.at ?_))))))
  dsimp only
  unfold storeInOwnDict
  refine JJ (JO (JJ (JJ (L6 he ?_))))
  rw[hc]
  refine JJ ((looks_clsIn X hcd).at ?_)
  rw[hdict]
  obtain⟨oc,odi,oda,osl⟩:=oe
  dsimp only at hc hdat hd hQ ⊢
  subst hc hdat
  rcases hd with rfl|⟨D,es,n,rfl,hDe,hD,hk,hl⟩
  ·rw[if_neg (by decide)]
   dsimp only
   rw[if_neg (by simp[typeHasDict])]
   have hxi:=KL {cls:=.type "dict",data:=.dict #[]} he
   have hxs:e≠hh.objs.size:=K0 (Heap.lt_size he)
   refine JJ (wpAny_alloc ?_)
   refine JJ (wpAny_update hxi ?_)
   refine JO (a:=some hh.objs.size) ?_
   dsimp only
   have hgd:((hh.push {cls:=.type "dict",data:=.dict #[]}).update e fun o=>{cls:=o.cls,dict:=some hh.objs.size,data:=o.data,slots:=o.slots}).get? hh.objs.size=some (dictOf [] 0):=
    (Lz _ _ hxs).trans (J8 _ rfl)
   have hge:((hh.push {cls:=.type "dict",data:=.dict #[]}).update e fun o=>{cls:=o.cls,dict:=some hh.objs.size,data:=o.data,slots:=o.slots}).get? e=some {cls:=.ref C,dict:=some hh.objs.size,data:=.fields vs,slots:=osl}:=
    KS _ hxi rfl
   refine eM hgd rfl (by simp) fun h' es' n' g1 g2 g3 g4=>?_
   refine hQ h' _ hh.objs.size es' n' ((g4.2 e hxs).trans hge) hxs.symm g1 g2 (fun _=>by simpa using g3) (fun D0 z=>by cases z) (fun _=>JL _) (by show tks<=tks+1+1;exact lin [_] [] 1 (.v 0) (.a (.a (.v 0) (.n 1)) (.n 1)) rfl) fun b o hb _ eb=>?_
   refine(g4.2 b (K0 (Heap.lt_size eb))).trans ((Lz _ _ (Ne.symm hb)).trans (KL _ eb))
  ·rw[if_neg (by decide)]
   dsimp only
   refine JO (a:=some D) ?_
   dsimp only
   refine eM hD hk (by exact lin [_] [(1,.v 0,.n 50)] 1 (.v 0) (.n 100) rfl hl) fun h' es' n' g1 g2 g3 g4=>?_
   exact hQ h' _ D es' n' ((g4.2 e hDe.symm).trans he) hDe g1 g2 (fun z=>by cases z) (fun D0 z=>by cases z;rfl) (fun z=>by cases z) (by show tks<=tks+1+1;exact lin [_] [] 1 (.v 0) (.a (.a (.v 0) (.n 1)) (.n 1)) rfl) fun b o _ hb eb=>(g4.2 b fun z=>hb (z▸rfl)).trans eb
 rcases hd with hd|⟨D,es,n,hd,hDe,hD,hk,hl⟩
 ·exact key none ⟨he,hc,by unfold notCls;rw[hdat],by rw[hd];trivial⟩
 ·exact key (some (dictOf es n)) ⟨he,hc,by unfold notCls;rw[hdat],by rw[hd];exact hD⟩
end
end
section
inductive A4(X:Cx):Prop
 |mk (nm q N bs bm hdct sn sub ab col dd k0 k1 k2 k3 k5:_) (e:X.B.get? (X.clsA 2)=some (excClassObj nm q (X.clsA 2) N bs bm hdct sn sub ab col dd k0 k1 k2 k3 k5 "Exception.__new__")) (a:lO bm)
structure Ed(X:Cx):Prop where
 obj:A4 X
 init:findIn X.K (.ref (X.clsA 2)) "__init__"=some (some (.ref (X.fnA 0)))
 typ:typeIn X.K (.ref (X.fnA 0))=some (.type "function")
 cls:∃cd,clsIn X.K (X.clsA 2)=some cd/\cd.hasDict=true/\d8 cd.mro=[.type "Exception",.type "BaseException",.type "object"]
 sa:findIn X.K (.ref (X.clsA 2)) "__setattr__"=some (some (.builtin "object.__setattr__"))
 what:findIn X.K (.ref (X.clsA 2)) "what"=some none
 at_:findIn X.K (.ref (X.clsA 2)) "at"=some none
 einit:findCls X.K (.type "Exception") (.type "type") "__init__"=some (.val (.builtin "Exception.__init__"))
 name:X.mg "Exception"=none
theorem ym:typeOf (.type "Exception")=pure (.type "type"):=by first|rfl|kernel_rfl
theorem uh:Manifest.isStub "Exception"=false:=by decide+kernel
section
variable {al:List (Mt×Mt)}
theorem mJ{x:Str}{v:Mu}{pos:Pos}{Q:Mu->Ms->Prop}(hk:env.scope.kind=.function)(hl:env.kindOf x=some .local)(hn:s.heap.Ns env.locals m)(hv:m x=some v)(hd:(x==("__debug__":Str))=false)(h:Q v s):wpAny (model X.prog X.w) A (eval (.Name x pos) env) Q E s:=
 Lq (K6 hk hl hn hv h) hd
theorem oE{a:Str}{e:Mt}{oe:Obj}{vs:Array Mu}{cd:ClassData}{x:Str}{v:Mu}{p1 p2 p3 p4:Pos}{Q:Flow->Ms->Prop}(hk:env.scope.kind=.function)(hl1:env.kindOf "self"=some .local)(hl2:env.kindOf x=some .local)(hn:s.heap.Ns env.locals m)
  (hv1:m "self"=some (.ref e)) (hv2:m x=some v) (hd:(x==("__debug__":Str))=false) (hK:X.K.In s.heap) (he:s.heap.get? e=some oe) (hc:oe.cls=.ref (X.clsA 2)) (hdat:oe.data=.fields vs)
  (hcd:clsIn X.K (X.clsA 2)=some cd) (hdict:cd.hasDict=true) (hmro:d8 cd.mro=[.type "Exception",.type "BaseException",.type "object"]) (hs:findIn X.K (.ref (X.clsA 2)) "__setattr__"=some (some (.builtin "object.__setattr__"))) (hnm:findIn X.K (.ref (X.clsA 2)) a=some none)
  (hd':oe.dict=none∨∃D es n,oe.dict=some D/\D≠e/\s.heap.get? D=some (dictOf es n)/\es.any (·.refKey)=false/\es.length<=50)
  (hQ:∀h' t' D es n,h'.get? e=some {oe with dict:=some D}->D≠e->h'.get? D=some (dictOf es n)->es.any (·.refKey)=false->(oe.dict=none->es.length<=1)->(∀D0,oe.dict=some D0->D=D0)->(oe.dict=none->s.heap.objs.size<=D)->s.toks<=t'->
   (∀b o,b≠e->oe.dict≠some b->s.heap.get? b=some o->h'.get? b=some o)->Q .next {s with heap:=h',toks:=t'}):
  wpAny (model X.prog X.w) A (exec (.Assign [.Attribute (.Name "self" p1) a p2] (.Name x p3) p4) env) Q E s:=by
 refine il (fun _ _ _=>rfl) (mJ hk hl2 hn hv2 hd ?_)
 rw[arm_assign_Attribute]
 refine JJ (Kp (mJ hk hl1 hn hv1 (by decide) ?_))
 refine JJ (Kf (JJ (Kp (yK hK he hc hdat hcd hdict hmro hs hnm hd' fun h' t' D es n g1 g2 g3 g4 g5 g6 g7 g8 g9=>?_))))
 refine Me ?_
 exact hQ h' t' D es n g1 g2 g3 g4 g5 g6 g7 g8 g9
noncomputable def ji(q1 q2 q3 q4 q5 q6 a1 a2 a3 a4 b1 b2 b3 b4:Pos):List Stmt:=
 [.Expr (.Call (.Attribute (.Name "Exception" q1) "__init__" q2) [.Name "self" q3,.Name "what" q4] [] q5) q6,
  .Assign [.Attribute (.Name "self" a1) "what" a2] (.Name "what" a3) a4,
  .Assign [.Attribute (.Name "self" b1) "at" b2] (.Name "at" b3) b4]
theorem wh(G:Kd X)(Gg:Gd X)(D:Ed X){q1 q2 q3 q4 q5 q6 a1 a2 a3 a4 b1 b2 b3 b4:Pos}(hq:(q2.endLine==q5.line)=true){j:Nat}{e t0:Mt}{v1 v2:Mu}(p:bE X n A env sc alo F₀ s₀ m om st al F s)(hj:st.mu[j]? =some (.ins 2 []))(ha:al[j]? =some (e,e))(he:s.heap.get? e=some (cA (X.clsA 2) t0))
  (k0:env.kindOf "self"=some .local) (k1:env.kindOf "what"=some .local) (k2:env.kindOf "at"=some .local) (kE:env.kindOf "Exception"=some .globalImplicit)
  (hv0:m "self"=some (.ref e)) (hv1:m "what"=some v1) (hv2:m "at"=some v2) (hk:wp (Wd X n) (kf .next st)):
  wpAny (model X.prog X.w) A (execs (ji q1 q2 q3 q4 q5 q6 a1 a2 a3 a4 b1 b2 b3 b4) env) (FP X n A env sc alo F₀ s₀ kf) E s:=by
 obtain⟨nm,q,N,bs,bm,hdct,sn,sub,ab,col,dd,k0',k1',k2',k3',k5',hC0,ab'⟩:=D.obj
 obtain⟨cd,hcd,hdict,hmro⟩:=D.cls
 have R:=p.now.fr
 have hm:e∈cells al:=J5.mpr ⟨(e,e),List.mem_of_getElem? ha,rfl⟩
 have heF:=p.now.inv.cell e hm
 have heB:=(p.now.inv.hot e heF).2
 obtain⟨oL,es0,ep0,l1,l2,l3,l4,l5,l6⟩:=R.locs
 have hLe:env.locals≠e:=fun z=>l3 (z▸hm)
 have hin:=p.now.inv.inn G
 have hkind:=R.kind
 have hns:=R.ns
 have hEx:wpAny (model X.prog X.w) A (eval (.Name "Exception" q1) env) (fun v s'=>v=.type "Exception"/\s'=s) E s:=by
  refine Name_function_global hkind kE ?_ (by decide)
  obtain⟨mb,q1,q2⟩:=Gg.b
  exact loadGlobal_builtin (by rw[R.glob];exact Gg.g.keeps p.now.inv.stays) D.name (by rw[R.bl];exact q1.keeps p.now.inv.stays) ((q2 "Exception" (by decide+kernel)).trans PyProof.Rows.Boot.«Exception») ⟨rfl,rfl⟩
 unfold ji
 refine Ll ?_
 refine L8 ?_ p.now.notInteractive (by rfl)
 have hstars:bg [PySem.Expr.Name "self" q3,.Name "what" q4]:=fun x hx=>by
  simp only[JY,Kk,or_false]at hx
  rcases hx with rfl|rfl<;>exact fun _ _=>rfl
 refine cx (X:=X) ⟨fun _ _=>rfl,hq,by simp⟩ hstars (J0 hEx (fun v s' qz=>qz.elim fun ev es=>?_) fun _ _ x=>x)
 subst ev
 subst es
 refine sd hin ym uh D.einit rfl ?_
 refine callWith_of (P:=fun _=>True) rfl (fun h _=>⟨.machine,.inr (.inl rfl),Looks.of_pure rfl⟩) ?_
 show wpAny _ _ (evalArgs _ true ((false,eval (.Name "self" q3) env)::backTo q5 (starEach [.Name "what" q4] env)) []) _ _ _
 refine evalArgs_plain (args_cons (e:=.Name "self" q3) (mJ hkind k0 (s:={s' with toks:=s'.toks+1}) hns hv0 (by decide) (args_cons (e:=.Name "what" q4) (mJ hkind k1 (s:={s' with toks:=s'.toks+1}) hns hv1 (by decide) (args_nil ⟨trivial,?_⟩)) rfl)) rfl)
 show wpAny _ _ (call (.builtin "Exception.__init__") [.ref e,v1]) _ _ _
 refine kM ab' (p.now.inv.stays _ _ hC0) he fun h1 f1 f2 hs1=>?_
 have inB:∀{b o},X.B.get? b=some o->b≠e:=fun{b o} eb z=>by rw[z,heB]at eb;cases eb
 have K1:X.K.In h1:=fun b o el=>f2 b o (inB (G.inn b o el)) (hin b o el)
 have n1:h1.Ns env.locals m:=hns.at' fun o eo=>f2 _ o hLe eo
 refine Ll ?_
 refine oE (s:={s' with heap:=h1,toks:=s'.toks+1}) hkind k0 k1 n1 hv0 hv1 (by decide) K1 f1 rfl rfl hcd hdict hmro D.sa D.what (.inl rfl) fun h2 t2 D2 es2 z2 g1 g2 g3 g4 g5 g6 g7 g8 g9=>?_
 have keep2:∀b o,b≠e->s'.heap.get? b=some o->h2.get? b=some o:=fun b o hb eb=>g9 b o hb (by simp) (f2 b o hb eb)
 have offD:∀b,ae s'.heap b->b≠D2:=fun b qz z=>qz.casesOn fun o eo=>absurd (Heap.lt_size eo) (KW.mpr (JH hs1 (z▸g7 rfl)))
 have K2:X.K.In h2:=fun b o el=>keep2 b o (inB (G.inn b o el)) (hin b o el)
 have n2:h2.Ns env.locals m:=hns.at' fun o eo=>keep2 _ o hLe eo
 refine Ll ?_
 refine oE (s:={s' with heap:=h2,toks:=t2}) hkind k0 k2 n2 hv0 hv2 (by decide) K2 g1 rfl rfl hcd hdict hmro D.sa D.at_ (.inr ⟨D2,es2,z2,rfl,g2,g3,g4,JH (g5 rfl) (by decide)⟩) fun h3 t3 D3 es3 z3 r1 r2 r3 r4 r5 r6 r7 r8 r9=>?_
 refine Lo ?_
 have keep3:∀b o,b≠e->s'.heap.get? b=some o->h3.get? b=some o:=fun b o hb eb=>r9 b o hb (fun z=>offD b ⟨o,eb⟩ (J9 z).symm) (keep2 b o hb eb)
 have q:=p.set (t:=t3) (o':=.ins 2 []) ha keep3 ⟨_,r1⟩ (.exc (by decide) ⟨some D3,_,_,r1⟩) he (by simp) (by simp) (by have:t2<=t3:=r8;have:s'.toks+1<=t2:=g8;exact lin [_,_,_] [(1,.v 0,.v 1),(1,.a (.v 2) (.n 1),.v 0)] 1 (.v 2) (.v 1) rfl r8 this)
 have e2:({st with mu:=st.mu.set j (.ins 2 [])}:St)=st:=by
  have:st.mu.set j (.ins 2 [])=st.mu:=by
   obtain⟨hl,hg⟩:=JT.mp hj
   rw[←hg];exact List.set_getElem_self hl
  rw[this]
 rw[e2]at q
 exact q.next hk
noncomputable def xT:Sc:=⟨[⟨"self",0,false,false⟩,⟨"what",1,false,false⟩,⟨"at",2,false,false⟩],["Exception"],none⟩
theorem Bb{q1 q2 q3 q4 q5 q6 a1 a2 a3 a4 b1 b2 b3 b4:Pos}{args:List V}{kv:V->List aa->Prop}{ke:Nat->List aa->Prop}(G:Kd X)(Gg:Gd X)(D:Ed X)(hlim:X.B.NoLimit)(H:nq X 0 xT (ji q1 q2 q3 q4 q5 q6 a1 a2 a3 a4 b1 b2 b3 b4) ["self","what","at"] [.tup [.int 0,.int 0]])
  (hq:(q2.endLine==q5.line)=true) (hl:args.length=1∨args.length=2) (h:kv (.obj mu.length) (mu++[.ins 2 []])):Wd X (n+2) (.cls 2) args mu kv ke:=by
 intro A s al F fv vals am I Rf R
 obtain rfl:=Rf.inv
 obtain⟨hh,g,d,t,os⟩:=s
 have hin:=I.inn G
 have hlv:=R.length
 obtain⟨nm,q,N,bs,bm,hdct,sn,sub,ab,col,dd,k0',k1',k2',k3',k5',hC0,ab'⟩:=D.obj
 refine LI (wg ab' hin (I.stays _ _ hC0) D.init D.typ (by rw[←hlv];have h2:(2:Nat)<=sizeLine:=(by decide);rcases hl with hl|hl<;>rw[hl];exact KN h2;exact h2) ?_)
 have keep:∀b o,hh.get? b=some o->((hh.push (cZ vals)).push (cA (X.clsA 2) hh.objs.size)).get? b=some o:=fun b o e=>af _ _ _ (af _ _ _ e)
 have hx:((hh.push (cZ vals)).push (cA (X.clsA 2) hh.objs.size)).get? (hh.objs.size+1)=some (cA (X.clsA 2) hh.objs.size):=by heap_get
 have hD:¬ae hh (hh.objs.size+1):=fun qz=>qz.casesOn fun o e=>absurd (Heap.lt_size e) (KW.mpr (Lf _))
 have I1:bT X (mu++[.ins 2 []]) (al++[(hh.objs.size+1,hh.objs.size+1)]) (fun b=>F b∨b=hh.objs.size+1) ((hh.push (cZ vals)).push (cA (X.clsA 2) hh.objs.size)):=
  I.add keep hD ⟨_,hx⟩ (.exc (by decide) ⟨none, #[],hh.objs.size,hx⟩)
 have b1':aT X (ae hh) al F ⟨hh,g,d,t,os⟩ (al++[(hh.objs.size+1,hh.objs.size+1)]) (fun b=>F b∨b=hh.objs.size+1) ⟨(hh.push (cZ vals)).push (cA (X.clsA 2) hh.objs.size),g,d,t,os⟩:=aT.add (t:=t) keep hD
 have hidx:(al++[(hh.objs.size+1,hh.objs.size+1)])[mu.length]? =some (hh.objs.size+1,hh.objs.size+1):=by
  rw[I.objs.length,Ky (JL _)];simp
 have am1:bI X (A.under (.builtin "type.__call__" ⟨.ref (X.clsA 2)::vals,[]⟩)) (n+1) ⟨(hh.push (cZ vals)).push (cA (X.clsA 2) hh.objs.size),g,d,t,os⟩:=by
  obtain⟨h0,h1,h2,h3,l,h4,h5⟩:=am.tc (C:=X.clsA 2) (rest:=vals)
  refine⟨h0,h1,h2,h3,l,h4,fun e he=>?_⟩
  obtain⟨k,L,o,es,ep,e1,e2,r,r_1,r_2⟩:=h5 e he
  exact⟨k,L,o,es,ep,e1,keep _ _ e2,r,r_1,r_2⟩
 have ha:∀(i:Nat) (p:Mt×Mt),al[i]? =some p->(al++[(hh.objs.size+1,hh.objs.size+1)])[i]? =some p:=fun i p e=>by rw[J6 (JT.mp e).1];exact e
 have R1:ag X (al++[(hh.objs.size+1,hh.objs.size+1)]) (fun b=>F b∨b=hh.objs.size+1) ((hh.push (cZ vals)).push (cA (X.clsA 2) hh.objs.size)) (.obj mu.length::args) (.ref (hh.objs.size+1)::vals):=
  .cons (.obj hidx) (R.pre (fun b o e nf _=>⟨keep _ _ e,fun z=>z.elim nf fun z=>hD (z▸⟨o,e⟩)⟩) ha)
 refine codeAny_mono (oK (k:=0) (kv:=fun v mu'=>v=.none/\mu'=mu++[.ins 2 []]) (ke:=fun _ _=>False) hlim H (by rcases hl with hl|hl<;>simp[hl]) (by rcases hl with hl|hl<;>simp[hl]) (by simp) am1 I1 R1 fun env A' F' m s' p kp=>?_) fun r s' q=>?_
 ·obtain⟨w1,w2,hargs⟩:∃w1 w2,(.obj mu.length::args:List V)++[V.tup [.int 0,.int 0]].drop ((.obj mu.length::args:List V).length+[V.tup [.int 0,.int 0]].length - (["self","what","at"]:List Str).length)=[.obj mu.length,w1,w2]:=by
   rcases hl with hl|hl
   ·obtain⟨w,rfl⟩:=LZ.mp hl
    exact⟨_,_,rfl⟩
   ·cases args with
    |nil=>cases hl
    |cons w l=>obtain⟨w',rfl⟩:=LZ.mp (Nat.succ.inj hl);exact⟨_,_,rfl⟩
  rw[hargs]at p
  have v0:=p.now.fr.vars ⟨"self",0,false,false⟩ (by simp[xT])
  have v1:=p.now.fr.vars ⟨"what",1,false,false⟩ (by simp[xT])
  have v2:=p.now.fr.vars ⟨"at",2,false,false⟩ (by simp[xT])
  have n0:=p.now.fr.names ⟨"self",0,false,false⟩ (by simp[xT])
  have n1:=p.now.fr.names ⟨"what",1,false,false⟩ (by simp[xT])
  have n2:=p.now.fr.names ⟨"at",2,false,false⟩ (by simp[xT])
  have nE:=p.now.fr.gls "Exception" (by simp[xT])
  obtain⟨y0,m0,r0⟩:=v0.1 rfl
  obtain⟨y1,m1,r1⟩:=v1.1 rfl
  obtain⟨y2,m2,r2⟩:=v2.1 rfl
  cases r0 with
  |obj ea=>
  rw[hidx]at ea;cases ea
  refine J0 (wh (E:=fun _ _=>False) G Gg D hq p (by show(mu++[aa.ins 2 []])[mu.length]? =_;rw[Ky (JL _)];simp) hidx (kp _ _ hx) (by simpa using n0) (by simpa using n1) (by simpa using n2) nE m0 m1 m2 ?_) (fun _ _ x=>x) fun _ _ x=>x.elim
  exact⟨rfl,rfl⟩
 ·cases r with
  |error e=>exact q.casesOn fun _ _ _ _ f _ _ _=>f.elim
  |ok r=>cases r with
   |ret v=>
    obtain⟨r,mu',al',F',⟨rfl,rfl⟩,q2,q3,q4⟩:=q
    cases q2
    exact⟨rfl,.obj mu.length,_,al',F',h,.obj (q3.idx _ _ hidx),b1'.trans (q3.weaken b1'.tr.live),q4⟩
   |_=>exact q.elim
end
end
section
variable {al:List (Mt×Mt)}
theorem oU{n:Nat}(ks:List (List Nat)):∀{l:List V},ks.length=l.length->(Dj n (ks.zip l)=bels n l):=by
 induction ks with
 |nil=>exact fun{l} h=>by cases l with|nil=>rfl|cons=>cases h
 |cons k ks ih=>exact fun{l} h=>by cases l with|nil=>cases h|cons v l=>exact congrArg (Mine.bel n v&&·) (ih (Nat.succ.inj h))
theorem oV{n:Nat}(ks:List Int):∀{l:List V},ks.length=l.length->(Dk n (ks.zip l)=bels n l):=by
 induction ks with
 |nil=>exact fun{l} h=>by cases l with|nil=>rfl|cons=>cases h
 |cons k ks ih=>exact fun{l} h=>by cases l with|nil=>cases h|cons v l=>exact congrArg (Mine.bel n v&&·) (ih (Nat.succ.inj h))
theorem fw{n:Nat}(ks:List At):∀{l:List V},ks.length=l.length->(w4 n (ks.zip l)=bels n l):=by
 induction ks with
 |nil=>exact fun{l} h=>by cases l with|nil=>rfl|cons=>cases h
 |cons k ks ih=>exact fun{l} h=>by cases l with|nil=>cases h|cons v l=>exact congrArg (Mine.bel n v&&·) (ih (Nat.succ.inj h))
theorem Rep.bel{v:V}{y:Mu}(r:Rep X al F h v y):Mine.bel al.length v=true:=
 Rep.rec (motive_1:=fun v _ _=>Mine.bel al.length v=true) (motive_2:=fun l _ _=>bels al.length l=true) rfl (fun _=>rfl) (fun _ _=>rfl) (fun _ _=>rfl) (fun _ _=>rfl) (fun _ _ _ b=>b) (fun _ _ _ b=>b)
  (fun _ _ e r b=>(oU _ (e.trans r.length.symm)).trans b) (fun _ _ e r b=>(oV _ (e.trans r.length.symm)).trans b) (fun _ _=>rfl) (fun _ _ _ _ e r b=>(fw _ (e.trans r.length.symm)).trans b)
  (fun _=>rfl) (fun _=>rfl) (fun _ _ _ _ b=>b) (fun _=>rfl) (fun e=>Kt (JT.mp e).1) rfl (fun _ _ a b=>JP.mpr ⟨a,b⟩) r
theorem ag.bels{l:List V}{ys:List Mu}(r:ag X al F h l ys):Mine.bels al.length l=true:=
 r.ind (P:=fun l _=>Mine.bels al.length l=true) rfl fun _ _ _ _ a _ b=>JP.mpr ⟨a.bel,b⟩
theorem Rep.shrink(p:bB h F h F')(hal:∀(i:Nat) (q:Mt×Mt),i < al.length->al'[i]? =some q->al[i]? =some q){v:V}{y:Mu}(r:Rep X al' F h v y):Mine.bel al.length v=true->Rep X al F' h v y:=
 Rep.rec (motive_1:=fun v y _=>Mine.bel al.length v=true->Rep X al F' h v y) (motive_2:=fun l ys _=>Mine.bels al.length l=true->ag X al F' h l ys) (fun _=>.none) (fun b _=>.bool b) (fun i t _=>.int i t) (fun s t _=>.str s t) (fun b t _=>.bytes b t)
  (fun t n _ r b=>.tup t (p.tup t n).2 (r b)) (fun t n _ r b=>.lst t (p.lst t n).2 (r b)) (fun t n e r0 r b=>.dS t (p.dctS t n).2 e (r ((oU _ (e.trans r0.length.symm)).symm.trans b))) (fun t n e r0 r b=>.dI t (p.dctI t n).2 e (r ((oV _ (e.trans r0.length.symm)).symm.trans b)))
  (fun t n _=>.rng t (p.tys t rfl n).2) (fun t d n n' e r0 r b=>.ins t d (p.refs t rfl n).2 (p.insD d n').2 e (r ((fw _ (e.trans r0.length.symm)).symm.trans b))) (fun i _=>.fn i) (fun i _=>.cls i) (fun f m c _ r b=>.lam (p.lamAt f) (p.cells c m).2 c (r b)) (fun i _=>.bi i) (fun e b=>.obj (hal _ _ (JN b) e))
  (fun _=>.nil) (fun _ _ a t b=>.cons (a (JP.mp b).1) (t (JP.mp b).2)) r
theorem ag.shrink(p:bB h F h F')(hal:∀(i:Nat) (q:Mt×Mt),i < al.length->al'[i]? =some q->al[i]? =some q){l:List V}{ys:List Mu}(r:ag X al' F h l ys):Mine.bels al.length l=true->ag X al F' h l ys:=
 r.ind (P:=fun l ys=>Mine.bels al.length l=true->ag X al F' h l ys) (fun _=>.nil) fun _ _ _ _ a _ ih b=>.cons (a.shrink p hal (JP.mp b).1) (ih (JP.mp b).2)
theorem aE.belM{o:aa}{p:Mt×Mt}(q:aE X al F h o p):belM al.length o=true:=by
 cases q with
 |lst _ r=>exact r.bels
 |ins _ _ _ _ e r=>exact(fw _ (e.trans r.length.symm)).trans r.bels
 |exc=>rfl
 |dead=>rfl
theorem aE.shrink{o:aa}{q:Mt×Mt}(p:bB h F h F')(hal:∀(i:Nat) (q:Mt×Mt),i < al.length->al'[i]? =some q->al[i]? =some q)(k:aE X al' F h o q)(b:Mine.belM al.length o=true):aE X al F' h o q:=by
 cases k with
 |lst e r=>exact .lst e (r.shrink p hal b)
 |ins c e f d z r=>exact .ins c e (p.refs e rfl f).2 d z (r.shrink p hal ((fw _ (z.trans r.length.symm)).symm.trans b))
 |exc c e=>exact .exc c e
 |dead e h1 h2=>exact .dead e h1 h2
theorem n6(p:bB h F h F')(hal:∀(i:Nat) (q:Mt×Mt),i < al.length->al'[i]? =some q->al[i]? =some q){mu:List aa}{l:List (Mt×Mt)}(r:All2 (aE X al' F h) mu l):(∀o∈mu,Mine.belM al.length o=true)->All2 (aE X al F' h) mu l:=
 All2.rec (motive:=fun mu l _=>(∀o∈mu,Mine.belM al.length o=true)->All2 (aE X al F' h) mu l) (fun _=>.nil) (fun a _ t b=>.cons (a.shrink p hal (b _ (.head _))) (t fun o m=>b o (.tail _ m))) r
theorem sV{mu:List aa}{l:List (Mt×Mt)}(r:All2 (aE X al F h) mu l):∀o∈mu,Mine.belM al.length o=true:=
 All2.rec (motive:=fun mu _ _=>∀o∈mu,Mine.belM al.length o=true) (fun _ m=>nm m) (fun a _ t o m=>(JY.mp m).elim (fun e=>e▸a.belM) (t o)) r
theorem All2.unsnoc{α β:Type}{R:α->β->Prop}{a:α}{l:List α}:∀{m:List β},All2 R (l++[a]) m->∃m' b,m=m'++[b]/\All2 R l m'/\R a b:=by
 induction l with
 |nil=>intro m r;cases r with|cons h t=>cases t;exact⟨[],_,rfl,.nil,h⟩
 |cons x l ih=>intro m r;cases r with|cons h t=>obtain⟨m',b,rfl,h1,h2⟩:=ih t;exact⟨_::m',b,rfl,.cons h h1,h2⟩
theorem Ba{c:Nat}{body:List Stmt}{mb:List MS}{ns:List Str}{dflt args:List V}{fs:List (At×V)}{k:Nat}{kv:V->List aa->Prop}{ke:Nat->List aa->Prop}(G:Kd X)(M:Md X)(h3:3<=c)(h5:c<=5)(hlim:X.B.NoLimit)(H:nq X (ia c) sc body ns dflt)(hb:bH X n sc body mb)
  (hl1:args.length+1<=ns.length) (hl2:ns.length<=args.length+1+dflt.length) (hl3:dflt.length<=ns.length)
  (h:wp (Wd X n) (aS mb (ax fun v mu'=>v=.none/\V.obj mu.length=V.obj mu.length/\mu'=mu++[.ins c fs]) (aG fun _ _=>False) (init ((.obj mu.length::args)++dflt.drop (args.length+1+dflt.length - ns.length)) k (mu++[.ins c []])))) (hfs:w4 mu.length fs=true) (hk:kv (.ins c fs) mu):Wd X (n+2) (.cls c) args mu kv ke:=by
 intro A s al F fv vals am I Rf R
 have hx:=pj (kv:=fun v mu'=>v=.obj mu.length/\mu'=mu++[.ins c fs]) (ke:=fun _ _=>False) G M h3 h5 hlim H hb hl1 hl2 hl3 h A s al F fv vals am I Rf R
 refine J0 hx (fun v s' ⟨r,mu',al',F',⟨h1,h2⟩,h3,b,J⟩=>?_) fun e s' qz=>qz.casesOn fun _ _ _ _ f _ __1 __2=>f.elim
 subst h1;subst h2
 obtain⟨more,rfl,hmore⟩:=b.ext
 have hlen:=J.objs.length
 have hlen0:=I.objs.length
 rw[JU,JU,hlen0]at hlen
 obtain⟨⟨x,d⟩,rfl⟩:=LZ.mp (show more.length=1 by simpa using hlen.symm)
 obtain⟨m',b',e1,o1,o2⟩:=J.objs.unsnoc
 obtain⟨rfl,e2⟩:=List.append_inj' e1 rfl
 cases e2
 have hd0:¬ae s.heap d:=hmore (x,d) (.head _)
 have hdc:d∉cells al:=fun hm=>hd0 (I.hot d (I.cell d hm)).1
 have hdt:d∉X.tabs:=fun hm=>hd0 (I.hot d (I.tabs d hm).1).1
 have hal:∀(i:Nat) (q:Mt×Mt),i < al.length->(al++[(x,d)])[i]? =some q->al[i]? =some q:=fun i q hi e=>by rwa[J6 hi]at e
 have pr:bB s'.heap F' s'.heap (fun a=>F' a/\a≠d):=fun b o e nf _=>⟨e,fun z=>nf z.1⟩
 have hall:al[mu.length]? =none:=by rw[hlen0];exact K4 (JL _)
 refine⟨.ins c fs,mu,al,fun a=>F' a/\a≠d,hk,?_,⟨⟨b.tr.live,b.tr.keep,fun a z=>b.tr.hot a z.1⟩,⟨[],by simp,fun _ m=>nm m⟩,fun a l q=>⟨b.mono a l q,fun z=>hd0 (z▸l)⟩,b.rest⟩,?_⟩
 ·obtain⟨pp,ea,rfl⟩:=h3.inv
  rw[hlen0,Ky (JL _),Nat.sub_self]at ea
  cases ea
  rcases o2.insOf (q:=(c,fs)) rfl with⟨hc,ks,vs,l',el,he,hF,hD,hz,hr⟩|⟨hc,_⟩
  ·have el:fs=ks.zip l':=el
   subst el
   exact .ins he hD (fun z=>hF z.1) (fun z=>z.2 rfl) hz (hr.shrink pr hal (by rwa[fw _ (hz.trans hr.length.symm),hlen0]at hfs))
  ·exact absurd hc (KW.mpr ‹3<=c›)
 ·refine⟨J.stays,fun a z=>J.hot a z.1,n6 pr hal o1 (sV I.objs),fun a m=>⟨J.cell a (by simp only[cells,Kc,Ki];exact .inl m),fun z=>hdc (z▸m)⟩,fun a m=>⟨⟨(J.tabs a m).1,fun z=>hdt (z▸m)⟩,fun z=>(J.tabs a m).2.1 (by simp only[cells,Kc,Ki];exact .inl z),(J.tabs a m).2.2.move pr fun o e=>e⟩,?_⟩
  have:=J.nodup
  simp only[cells,Kc]at this
  exact(List.nodup_append.mp this).1
end
section
theorem au{c:Prop}[Decidable c]{t:c->Bool}(h:(if h:c then t h else false)=true):∃hc,t hc=true:=by
 by_cases hc:c
 ·exact⟨hc,by rwa[dif_pos hc]at h⟩
 ·rw[dif_neg hc]at h;cases h
theorem and_ok{a b:Bool}{P:Prop}(h:(a&&b)=true)(f:a=true->b=true->P):P:=f (JP.mp h).1 (JP.mp h).2
@[elab_as_elim] theorem bA {α:Type}[BEq α][LawfulBEq α]{a b:α}{P:α->Prop}(h:(a==b)=true)(f:P b):P a:=(J7.mp h).symm▸f
@[elab_as_elim] theorem aU {α:Type}{P:List α->Prop}{l:List α}(h:l.isEmpty=true)(f:P []):P l:=(Kl.mp h).symm▸f
@[elab_as_elim] theorem jd {α:Type}{P:Option α->Prop}{l:Option α}(h:l.isNone=true)(f:P none):P l:=(Option.isNone_iff_eq_none.mp h).symm▸f
noncomputable def du{α:Type}(l:List α)(k:α->List α->Bool):Bool:=match l with
 |[]=>false
 |a::r=>k a r
@[elab_as_elim] theorem onCons_ok {α:Type}{P:List α->Prop}{l:List α}{k:α->List α->Bool}(h:du l k=true)(f:∀a r,k a r=true->P (a::r)):P l:=match l,h with
 |[],h=>nomatch h
 |a::r,h=>f a r h
noncomputable def on1{α:Type}(l:List α)(k:α->Bool):Bool:=du l fun a r=>r.isEmpty&&k a
@[elab_as_elim] theorem bQ {α:Type}{P:List α->Prop}{l:List α}{k:α->Bool}(h:on1 l k=true)(f:∀a,k a=true->P [a]):P l:=
 onCons_ok h fun a _ h=>and_ok h fun h1 h2=>aU (P:=fun r=>P (a::r)) h1 (f a h2)
noncomputable def B9{α:Type}(l:List α)(k:α->α->Bool):Bool:=du l fun a r=>on1 r (k a)
@[elab_as_elim] theorem hH {α:Type}{P:List α->Prop}{l:List α}{k:α->α->Bool}(h:B9 l k=true)(f:∀a b,k a b=true->P [a,b]):P l:=
 onCons_ok h fun a _ h=>bQ (P:=fun r=>P (a::r)) h (f a)
noncomputable def dq{α:Type}(o:Option α)(k:α->Bool):Bool:=match o with
 |none=>false
 |some a=>k a
@[elab_as_elim] theorem onSome_ok {α:Type}{P:Option α->Prop}{o:Option α}{k:α->Bool}(h:dq o k=true)(f:∀a,k a=true->P (some a)):P o:=match o,h with
 |none,h=>nomatch h
 |some a,h=>f a h
noncomputable def km{α β:Type}(p:α->β->Bool):List α->List β->Bool
 |[],m=>m.isEmpty
 |a::l,m=>du m fun b m=>p a b&&km p l m
noncomputable def aZ(e:Mq)(k:Str->Pos->Bool):Bool:=if h:e.ctorIdx=23 then PySem.Expr.Name.elim (motive_1:=fun _=>Bool) e h k else false
@[elab_as_elim] theorem aA {P:Mq->Prop}{e:Mq}{k:Str->Pos->Bool}(h:aZ e k=true)(f:∀a b,k a b=true->P (.Name a b)):P e:=
 (au h).elim fun hc _=>PySem.Expr.Name.elim (motive_1:=fun e=>aZ e k=true->P e) e hc f h
noncomputable def onConstant(e:Mq)(k:Const->Nat->Pos->Bool):Bool:=if h:e.ctorIdx=19 then PySem.Expr.Constant.elim (motive_1:=fun _=>Bool) e h k else false
@[elab_as_elim] theorem bw {P:Mq->Prop}{e:Mq}{k:Const->Nat->Pos->Bool}(h:onConstant e k=true)(f:∀a b c,k a b c=true->P (.Constant a b c)):P e:=
 (au h).elim fun hc _=>PySem.Expr.Constant.elim (motive_1:=fun e=>onConstant e k=true->P e) e hc f h
noncomputable def cP(e:Mq)(k:Mq->List Mq->List Keyword->Pos->Bool):Bool:=if h:e.ctorIdx=16 then PySem.Expr.Call.elim (motive_1:=fun _=>Bool) e h k else false
@[elab_as_elim] theorem bn {P:Mq->Prop}{e:Mq}{k:Mq->List Mq->List Keyword->Pos->Bool}(h:cP e k=true)(f:∀a b c d,k a b c d=true->P (.Call a b c d)):P e:=
 (au h).elim fun hc _=>PySem.Expr.Call.elim (motive_1:=fun e=>cP e k=true->P e) e hc f h
noncomputable def aR(e:Mq)(k:Mq->Str->Pos->Bool):Bool:=if h:e.ctorIdx=20 then PySem.Expr.Attribute.elim (motive_1:=fun _=>Bool) e h k else false
@[elab_as_elim] theorem aJ {P:Mq->Prop}{e:Mq}{k:Mq->Str->Pos->Bool}(h:aR e k=true)(f:∀a b c,k a b c=true->P (.Attribute a b c)):P e:=
 (au h).elim fun hc _=>PySem.Expr.Attribute.elim (motive_1:=fun e=>aR e k=true->P e) e hc f h
noncomputable def fF(e:Mq)(k:List Mq->Nat->Pos->Bool):Bool:=if h:e.ctorIdx=25 then PySem.Expr.Tuple.elim (motive_1:=fun _=>Bool) e h k else false
@[elab_as_elim] theorem d0 {P:Mq->Prop}{e:Mq}{k:List Mq->Nat->Pos->Bool}(h:fF e k=true)(f:∀a b c,k a b c=true->P (.Tuple a b c)):P e:=
 (au h).elim fun hc _=>PySem.Expr.Tuple.elim (motive_1:=fun e=>fF e k=true->P e) e hc f h
noncomputable def jC(e:Mq)(k:List Mq->Pos->Bool):Bool:=if h:e.ctorIdx=24 then PySem.Expr.List.elim (motive_1:=fun _=>Bool) e h k else false
@[elab_as_elim] theorem hG {P:Mq->Prop}{e:Mq}{k:List Mq->Pos->Bool}(h:jC e k=true)(f:∀a b,k a b=true->P (.List a b)):P e:=
 (au h).elim fun hc _=>PySem.Expr.List.elim (motive_1:=fun e=>jC e k=true->P e) e hc f h
noncomputable def pS(e:Mq)(k:List (Option Mq)->List Mq->Pos->Bool):Bool:=if h:e.ctorIdx=6 then PySem.Expr.Dict.elim (motive_1:=fun _=>Bool) e h k else false
@[elab_as_elim] theorem sS {P:Mq->Prop}{e:Mq}{k:List (Option Mq)->List Mq->Pos->Bool}(h:pS e k=true)(f:∀a b c,k a b c=true->P (.Dict a b c)):P e:=
 (au h).elim fun hc _=>PySem.Expr.Dict.elim (motive_1:=fun e=>pS e k=true->P e) e hc f h
noncomputable def mD(e:Mq)(k:Mq->Operator->Mq->Pos->Bool):Bool:=if h:e.ctorIdx=2 then PySem.Expr.BinOp.elim (motive_1:=fun _=>Bool) e h k else false
@[elab_as_elim] theorem pT {P:Mq->Prop}{e:Mq}{k:Mq->Operator->Mq->Pos->Bool}(h:mD e k=true)(f:∀a b c d,k a b c d=true->P (.BinOp a b c d)):P e:=
 (au h).elim fun hc _=>PySem.Expr.BinOp.elim (motive_1:=fun e=>mD e k=true->P e) e hc f h
noncomputable def dD(e:Mq)(k:PySem.UnaryOp->Mq->Pos->Bool):Bool:=if h:e.ctorIdx=3 then PySem.Expr.UnaryOp.elim (motive_1:=fun _=>Bool) e h k else false
@[elab_as_elim] theorem dZ {P:Mq->Prop}{e:Mq}{k:PySem.UnaryOp->Mq->Pos->Bool}(h:dD e k=true)(f:∀a b c,k a b c=true->P (.UnaryOp a b c)):P e:=
 (au h).elim fun hc _=>PySem.Expr.UnaryOp.elim (motive_1:=fun e=>dD e k=true->P e) e hc f h
noncomputable def dE(e:Mq)(k:PySem.BoolOp->List Mq->Pos->Bool):Bool:=if h:e.ctorIdx=0 then PySem.Expr.BoolOp.elim (motive_1:=fun _=>Bool) e h k else false
@[elab_as_elim] theorem de {P:Mq->Prop}{e:Mq}{k:PySem.BoolOp->List Mq->Pos->Bool}(h:dE e k=true)(f:∀a b c,k a b c=true->P (.BoolOp a b c)):P e:=
 (au h).elim fun hc _=>PySem.Expr.BoolOp.elim (motive_1:=fun e=>dE e k=true->P e) e hc f h
noncomputable def fG(e:Mq)(k:Mq->List CmpOp->List Mq->Pos->Bool):Bool:=if h:e.ctorIdx=15 then PySem.Expr.Compare.elim (motive_1:=fun _=>Bool) e h k else false
@[elab_as_elim] theorem gy {P:Mq->Prop}{e:Mq}{k:Mq->List CmpOp->List Mq->Pos->Bool}(h:fG e k=true)(f:∀a b c d,k a b c d=true->P (.Compare a b c d)):P e:=
 (au h).elim fun hc _=>PySem.Expr.Compare.elim (motive_1:=fun e=>fG e k=true->P e) e hc f h
noncomputable def mC(e:Mq)(k:Mq->Mq->Mq->Pos->Bool):Bool:=if h:e.ctorIdx=5 then PySem.Expr.IfExp.elim (motive_1:=fun _=>Bool) e h k else false
@[elab_as_elim] theorem pR {P:Mq->Prop}{e:Mq}{k:Mq->Mq->Mq->Pos->Bool}(h:mC e k=true)(f:∀a b c d,k a b c d=true->P (.IfExp a b c d)):P e:=
 (au h).elim fun hc _=>PySem.Expr.IfExp.elim (motive_1:=fun e=>mC e k=true->P e) e hc f h
noncomputable def cJ(e:Mq)(k:Mq->Mq->Pos->Bool):Bool:=if h:e.ctorIdx=21 then PySem.Expr.Subscript.elim (motive_1:=fun _=>Bool) e h k else false
@[elab_as_elim] theorem bW {P:Mq->Prop}{e:Mq}{k:Mq->Mq->Pos->Bool}(h:cJ e k=true)(f:∀a b c,k a b c=true->P (.Subscript a b c)):P e:=
 (au h).elim fun hc _=>PySem.Expr.Subscript.elim (motive_1:=fun e=>cJ e k=true->P e) e hc f h
noncomputable def my(e:Mq)(k:Option Mq->Option Mq->Option Mq->Pos->Bool):Bool:=if h:e.ctorIdx=26 then PySem.Expr.Slice.elim (motive_1:=fun _=>Bool) e h k else false
@[elab_as_elim] theorem pN {P:Mq->Prop}{e:Mq}{k:Option Mq->Option Mq->Option Mq->Pos->Bool}(h:my e k=true)(f:∀a b c d,k a b c d=true->P (.Slice a b c d)):P e:=
 (au h).elim fun hc _=>PySem.Expr.Slice.elim (motive_1:=fun e=>my e k=true->P e) e hc f h
noncomputable def d4(e:Mq)(k:Mq->List Comprehension->Scope->Pos->Bool):Bool:=if h:e.ctorIdx=8 then PySem.Expr.ListComp.elim (motive_1:=fun _=>Bool) e h k else false
@[elab_as_elim] theorem ds {P:Mq->Prop}{e:Mq}{k:Mq->List Comprehension->Scope->Pos->Bool}(h:d4 e k=true)(f:∀a b c d,k a b c d=true->P (.ListComp a b c d)):P e:=
 (au h).elim fun hc _=>PySem.Expr.ListComp.elim (motive_1:=fun e=>d4 e k=true->P e) e hc f h
noncomputable def eT(e:Stmt)(k:Option Mq->Pos->Bool):Bool:=if h:e.ctorIdx=3 then Stmt.Return.elim (motive_2:=fun _=>Bool) e h k else false
@[elab_as_elim] theorem eS {P:Stmt->Prop}{e:Stmt}{k:Option Mq->Pos->Bool}(h:eT e k=true)(f:∀a b,k a b=true->P (.Return a b)):P e:=
 (au h).elim fun hc _=>Stmt.Return.elim (motive_2:=fun e=>eT e k=true->P e) e hc f h
noncomputable def jD(e:Stmt)(k:List Mq->Mq->Pos->Bool):Bool:=if h:e.ctorIdx=5 then Stmt.Assign.elim (motive_2:=fun _=>Bool) e h k else false
@[elab_as_elim] theorem onAssign_ok {P:Stmt->Prop}{e:Stmt}{k:List Mq->Mq->Pos->Bool}(h:jD e k=true)(f:∀a b c,k a b c=true->P (.Assign a b c)):P e:=
 (au h).elim fun hc _=>Stmt.Assign.elim (motive_2:=fun e=>jD e k=true->P e) e hc f h
noncomputable def rh(e:Stmt)(k:Mq->Mq->List Stmt->List Stmt->Pos->Bool):Bool:=if h:e.ctorIdx=9 then Stmt.For.elim (motive_2:=fun _=>Bool) e h k else false
@[elab_as_elim] theorem nZ {P:Stmt->Prop}{e:Stmt}{k:Mq->Mq->List Stmt->List Stmt->Pos->Bool}(h:rh e k=true)(f:∀a b c d e,k a b c d e=true->P (.For a b c d e)):P e:=
 (au h).elim fun hc _=>Stmt.For.elim (motive_2:=fun e=>rh e k=true->P e) e hc f h
noncomputable def mv(e:Stmt)(k:Mq->List Stmt->List Stmt->Pos->Bool):Bool:=if h:e.ctorIdx=11 then Stmt.While.elim (motive_2:=fun _=>Bool) e h k else false
@[elab_as_elim] theorem pK {P:Stmt->Prop}{e:Stmt}{k:Mq->List Stmt->List Stmt->Pos->Bool}(h:mv e k=true)(f:∀a b c d,k a b c d=true->P (.While a b c d)):P e:=
 (au h).elim fun hc _=>Stmt.While.elim (motive_2:=fun e=>mv e k=true->P e) e hc f h
noncomputable def B8(e:Stmt)(k:Mq->List Stmt->List Stmt->Pos->Bool):Bool:=if h:e.ctorIdx=12 then Stmt.If.elim (motive_2:=fun _=>Bool) e h k else false
@[elab_as_elim] theorem y7 {P:Stmt->Prop}{e:Stmt}{k:Mq->List Stmt->List Stmt->Pos->Bool}(h:B8 e k=true)(f:∀a b c d,k a b c d=true->P (.If a b c d)):P e:=
 (au h).elim fun hc _=>Stmt.If.elim (motive_2:=fun e=>B8 e k=true->P e) e hc f h
noncomputable def mz(e:Stmt)(k:Option Mq->Option Mq->Pos->Bool):Bool:=if h:e.ctorIdx=16 then Stmt.Raise.elim (motive_2:=fun _=>Bool) e h k else false
@[elab_as_elim] theorem pO {P:Stmt->Prop}{e:Stmt}{k:Option Mq->Option Mq->Pos->Bool}(h:mz e k=true)(f:∀a b c,k a b c=true->P (.Raise a b c)):P e:=
 (au h).elim fun hc _=>Stmt.Raise.elim (motive_2:=fun e=>mz e k=true->P e) e hc f h
noncomputable def rg(e:Stmt)(k:List Stmt->List ExceptHandler->List Stmt->List Stmt->Pos->Bool):Bool:=if h:e.ctorIdx=17 then Stmt.Try.elim (motive_2:=fun _=>Bool) e h k else false
@[elab_as_elim] theorem nX {P:Stmt->Prop}{e:Stmt}{k:List Stmt->List ExceptHandler->List Stmt->List Stmt->Pos->Bool}(h:rg e k=true)(f:∀a b c d e,k a b c d e=true->P (.Try a b c d e)):P e:=
 (au h).elim fun hc _=>Stmt.Try.elim (motive_2:=fun e=>rg e k=true->P e) e hc f h
noncomputable def gx(e:Stmt)(k:Mq->Pos->Bool):Bool:=if h:e.ctorIdx=24 then Stmt.Expr.elim (motive_2:=fun _=>Bool) e h k else false
@[elab_as_elim] theorem ga {P:Stmt->Prop}{e:Stmt}{k:Mq->Pos->Bool}(h:gx e k=true)(f:∀a b,k a b=true->P (.Expr a b)):P e:=
 (au h).elim fun hc _=>Stmt.Expr.elim (motive_2:=fun e=>gx e k=true->P e) e hc f h
noncomputable def jb(e:V)(k:Bool->Bool):Bool:=if h:e.ctorIdx=1 then V.bool.elim (motive_1:=fun _=>Bool) e h k else false
@[elab_as_elim] theorem jA {P:V->Prop}{e:V}{k:Bool->Bool}(h:jb e k=true)(f:∀a,k a=true->P (.bool a)):P e:=
 (au h).elim fun hc _=>V.bool.elim (motive_1:=fun e=>jb e k=true->P e) e hc f h
noncomputable def mx(e:V)(k:Int->Bool):Bool:=if h:e.ctorIdx=2 then V.int.elim (motive_1:=fun _=>Bool) e h k else false
@[elab_as_elim] theorem lb {P:V->Prop}{e:V}{k:Int->Bool}(h:mx e k=true)(f:∀a,k a=true->P (.int a)):P e:=
 (au h).elim fun hc _=>V.int.elim (motive_1:=fun e=>mx e k=true->P e) e hc f h
noncomputable def mw(e:V)(k:List Nat->Bool):Bool:=if h:e.ctorIdx=3 then V.str.elim (motive_1:=fun _=>Bool) e h k else false
@[elab_as_elim] theorem k8 {P:V->Prop}{e:V}{k:List Nat->Bool}(h:mw e k=true)(f:∀a,k a=true->P (.str a)):P e:=
 (au h).elim fun hc _=>V.str.elim (motive_1:=fun e=>mw e k=true->P e) e hc f h
noncomputable def gw(e:V)(k:List Nat->Bool):Bool:=if h:e.ctorIdx=4 then V.bytes.elim (motive_1:=fun _=>Bool) e h k else false
@[elab_as_elim] theorem iw {P:V->Prop}{e:V}{k:List Nat->Bool}(h:gw e k=true)(f:∀a,k a=true->P (.bytes a)):P e:=
 (au h).elim fun hc _=>V.bytes.elim (motive_1:=fun e=>gw e k=true->P e) e hc f h
noncomputable def pL(e:V)(k:List V->Bool):Bool:=if h:e.ctorIdx=5 then V.tup.elim (motive_1:=fun _=>Bool) e h k else false
@[elab_as_elim] theorem sQ {P:V->Prop}{e:V}{k:List V->Bool}(h:pL e k=true)(f:∀a,k a=true->P (.tup a)):P e:=
 (au h).elim fun hc _=>V.tup.elim (motive_1:=fun e=>pL e k=true->P e) e hc f h
noncomputable def ve(e:V)(k:List (List Nat×V)->Bool):Bool:=if h:e.ctorIdx=7 then V.dS.elim (motive_1:=fun _=>Bool) e h k else false
@[elab_as_elim] theorem vd {P:V->Prop}{e:V}{k:List (List Nat×V)->Bool}(h:ve e k=true)(f:∀a,k a=true->P (.dS a)):P e:=
 (au h).elim fun hc _=>V.dS.elim (motive_1:=fun e=>ve e k=true->P e) e hc f h
noncomputable def vg(e:V)(k:List (Int×V)->Bool):Bool:=if h:e.ctorIdx=8 then V.dI.elim (motive_1:=fun _=>Bool) e h k else false
@[elab_as_elim] theorem vf {P:V->Prop}{e:V}{k:List (Int×V)->Bool}(h:vg e k=true)(f:∀a,k a=true->P (.dI a)):P e:=
 (au h).elim fun hc _=>V.dI.elim (motive_1:=fun e=>vg e k=true->P e) e hc f h
noncomputable def vc(e:V)(k:Nat->Bool):Bool:=if h:e.ctorIdx=12 then V.fn.elim (motive_1:=fun _=>Bool) e h k else false
@[elab_as_elim] theorem vb {P:V->Prop}{e:V}{k:Nat->Bool}(h:vc e k=true)(f:∀a,k a=true->P (.fn a)):P e:=
 (au h).elim fun hc _=>V.fn.elim (motive_1:=fun e=>vc e k=true->P e) e hc f h
noncomputable def pM(e:V)(k:Nat->Bool):Bool:=if h:e.ctorIdx=13 then V.cls.elim (motive_1:=fun _=>Bool) e h k else false
@[elab_as_elim] theorem sR {P:V->Prop}{e:V}{k:Nat->Bool}(h:pM e k=true)(f:∀a,k a=true->P (.cls a)):P e:=
 (au h).elim fun hc _=>V.cls.elim (motive_1:=fun e=>pM e k=true->P e) e hc f h
noncomputable def vi(e:V)(k:BI->Bool):Bool:=if h:e.ctorIdx=14 then V.bi.elim (motive_1:=fun _=>Bool) e h k else false
@[elab_as_elim] theorem vh {P:V->Prop}{e:V}{k:BI->Bool}(h:vi e k=true)(f:∀a,k a=true->P (.bi a)):P e:=
 (au h).elim fun hc _=>V.bi.elim (motive_1:=fun e=>vi e k=true->P e) e hc f h
noncomputable def mA(e:ME)(k:ME->Nat->ME->List ME->Bool):Bool:=if h:e.ctorIdx=19 then ME.comp.elim (motive_1:=fun _=>Bool) e h k else false
@[elab_as_elim] theorem pP {P:ME->Prop}{e:ME}{k:ME->Nat->ME->List ME->Bool}(h:mA e k=true)(f:∀a b c d,k a b c d=true->P (.comp a b c d)):P e:=
 (au h).elim fun hc _=>ME.comp.elim (motive_1:=fun e=>mA e k=true->P e) e hc f h
noncomputable def onMc(e:ME)(k:V->Bool):Bool:=if h:e.ctorIdx=0 then ME.c.elim (motive_1:=fun _=>Bool) e h k else false
@[elab_as_elim] theorem y6 {P:ME->Prop}{e:ME}{k:V->Bool}(h:onMc e k=true)(f:∀a,k a=true->P (.c a)):P e:=
 (au h).elim fun hc _=>ME.c.elim (motive_1:=fun e=>onMc e k=true->P e) e hc f h
noncomputable def B7(e:ME)(k:Nat->Bool):Bool:=if h:e.ctorIdx=1 then ME.x.elim (motive_1:=fun _=>Bool) e h k else false
@[elab_as_elim] theorem y5 {P:ME->Prop}{e:ME}{k:Nat->Bool}(h:B7 e k=true)(f:∀a,k a=true->P (.x a)):P e:=
 (au h).elim fun hc _=>ME.x.elim (motive_1:=fun e=>B7 e k=true->P e) e hc f h
noncomputable def mB(e:MS)(k:ME->Bool):Bool:=if h:e.ctorIdx=9 then MS.ret.elim (motive_1:=fun _=>Bool) e h k else false
@[elab_as_elim] theorem pQ {P:MS->Prop}{e:MS}{k:ME->Bool}(h:mB e k=true)(f:∀a,k a=true->P (.ret a)):P e:=
 (au h).elim fun hc _=>MS.ret.elim (motive_1:=fun e=>mB e k=true->P e) e hc f h
noncomputable def jB(e:MS)(k:ME->At->ME->Bool):Bool:=if h:e.ctorIdx=6 then MS.asgA.elim (motive_1:=fun _=>Bool) e h k else false
@[elab_as_elim] theorem nY {P:MS->Prop}{e:MS}{k:ME->At->ME->Bool}(h:jB e k=true)(f:∀a b c,k a b c=true->P (.asgA a b c)):P e:=
 (au h).elim fun hc _=>MS.asgA.elim (motive_1:=fun e=>jB e k=true->P e) e hc f h
theorem jl{α:Type}{p:α->α->Bool}(hp:∀a b,p a b=true->a=b):∀{l m:List α},km p l m=true->l=m
 |[],_,h=>aU (P:=fun m=>[]=m) h rfl
 |_::_,_,h=>onCons_ok (P:=fun m=>_=m) h fun _ _ h=>and_ok h fun h1 h2=>hp _ _ h1▸jl hp h2▸rfl
noncomputable def Ad(f:V->V->Bool)(a b:V):Bool:=match a with
 | .none=>b.ctorIdx==0
 | .bool x=>jb b fun y=>x==y
 | .int x=>mx b fun y=>decide (x=y)
 | .str x=>mw b fun y=>x==y
 | .bytes x=>gw b fun y=>x==y
 | .tup x=>pL b fun y=>km f x y
 | .lst _=>false
 | .dS x=>ve b fun y=>km (fun p q=>(p.1==q.1)&&f p.2 q.2) x y
 | .dI x=>vg b fun y=>km (fun p q=>decide (p.1=q.1)&&f p.2 q.2) x y
 | .rng _ _=>false
 | .rev _=>false
 | .ins _ _=>false
 | .fn x=>vc b fun y=>x==y
 | .cls x=>pM b fun y=>x==y
 | .bi x=>vi b fun y=>decide (x=y)
 | .lam _ _=>false
 | .obj _=>false
theorem tR{f:V->V->Bool}(hf:∀a b,f a b=true->a=b){a b:V}(h:Ad f a b=true):a=b:=by
 cases a with
 |none=>exact V.none.elim (motive_1:=fun b=>V.none=b) b (J7.mp h) rfl
 |bool x=>exact jA (P:=fun b=>V.bool x=b) h fun y h=>congrArg V.bool (J7.mp h)
 |int x=>exact lb (P:=fun b=>V.int x=b) h fun y h=>congrArg V.int (JN h)
 |str x=>exact k8 (P:=fun b=>V.str x=b) h fun y h=>congrArg V.str (J7.mp h)
 |bytes x=>exact iw (P:=fun b=>V.bytes x=b) h fun y h=>congrArg V.bytes (J7.mp h)
 |tup x=>exact sQ (P:=fun b=>V.tup x=b) h fun y h=>congrArg V.tup (jl hf h)
 |dS x=>exact vd (P:=fun b=>V.dS x=b) h fun y h=>congrArg V.dS (jl (fun p q h=>and_ok h fun h1 h2=>Prod.ext (J7.mp h1) (hf _ _ h2)) h)
 |dI x=>exact vf (P:=fun b=>V.dI x=b) h fun y h=>congrArg V.dI (jl (fun p q h=>and_ok h fun h1 h2=>Prod.ext (JN h1) (hf _ _ h2)) h)
 |fn x=>exact vb (P:=fun b=>V.fn x=b) h fun y h=>congrArg V.fn (J7.mp h)
 |cls x=>exact sR (P:=fun b=>V.cls x=b) h fun y h=>congrArg V.cls (J7.mp h)
 |bi x=>exact vh (P:=fun b=>V.bi x=b) h fun y h=>congrArg V.bi (JN h)
 |_=>cases h
noncomputable def Bd:Nat->V->V->Bool
 |0=>fun _ _=>false
 |n+1=>Ad (Bd n)
theorem qJ:∀n a b,Bd n a b=true->a=b
 |0,_,_,h=>nomatch h
 |n+1,_,_,h=>tR (qJ n) h
noncomputable def GC(a b:V):Bool:=Bd 9 a b
theorem Bc{a b:V}(h:GC a b=true):a=b:=qJ 9 a b h
structure Ck where
 glob:List (Str×V)
 lam:Sc->Mq->Nat->List Nat->Bool
noncomputable def gG(id:Str):Bool:=(id==("__debug__":Str))||(id==("__classdict__":Str))
noncomputable def oQ(C:Ck)(v:V)(sc:Sc)(id:Str):Bool:=sc.gl.contains id&&(!gG id&&dq (C.glob.lookup id) fun w=>GC w v)
noncomputable def oP(v:V)(k:Const):Bool:=match k with
 | .none=>v.ctorIdx==0
 | .bool b=>jb v fun a=>a==b
 | .int b=>mx v fun a=>decide (a=b)
 | .float _=>false
 | .complex _ _=>false
 | .str b=>mw v fun a=>b.cps.toList==a
 | .bytes b=>gw v fun a=>b.map UInt8.toNat==a
 | .ellipsis=>false
noncomputable def FA(C:Ck)(v:V)(sc:Sc)(e:Mq):Bool:=onConstant e (fun k _ _=>oP v k)||aZ e fun id _=>oQ C v sc id
noncomputable def tz(i:Nat)(sc:Sc)(e:Mq):Bool:=aZ e fun id _=>sc.vis.any (fun v=>v.name==id&&v.slot==i)&& !gG id
noncomputable def d6(e:Mq):Bool:= !(e.ctorIdx==22)
noncomputable def d7(e:Mq):Bool:= !(e.ctorIdx==8||e.ctorIdx==9||e.ctorIdx==10)
noncomputable def gz(e:Mq):Bool:= !cP e fun f as ks _=>f.ctorIdx==23&&(as.isEmpty&&ks.isEmpty)
noncomputable def mF(e:Mq):Bool:= !(e.ctorIdx==7)
theorem bR{e:Mq}(h:d6 e=true):fP e:=fun rest env=>by cases e<;>first|rfl|cases h
theorem cu{e:Mq}(h:d7 e=true):cY e:=fun t l env=>by cases e<;>first|rfl|cases h
theorem eX{e:Mq}{nm:Str}(h:gz e=true)(env:Env)(w:Sem Mu):attributeBase e nm env w=w:=by
 cases e with
 |Call f as ks p=>cases f with
  |Name id q=>cases as with
   |nil=>cases ks with
    |nil=>cases h
    |cons _ _=>rfl
   |cons _ _=>rfl
  |_=>rfl
 |_=>rfl
theorem hO{e:Mq}(h:mF e=true)(env:Env)(x:Mu):foldedSetIterable e env x=pure x:=by
 cases e<;>first|rfl|cases h
noncomputable def di(sc:Sc)(xn:Str)(x:Nat)(scope:Scope):Sc:=
 {vis:=⟨xn,x,false,false⟩::(sc.vis.filter fun z=>z.cell&& !(z.name==xn)&& !(z.slot==x)&&(scope.names.lookup z.name==some .free)).map fun z=>{z with mine:=false}
  gl:=(scope.names.filter fun p=>scope.names.lookup p.1==some .globalImplicit).map (·.1),code:=none}
noncomputable def wD(sc:Sc)(xn:Str)(x:Nat)(scope:Scope):Bool:=
 (scope.kind== .function)&&scope.names.all (fun y=> !(y.2== .cell))&&scope.names.all (fun y=> !(y.2== .local)||(scope.names.lookup y.1==some .local))&&(scope.names.lookup xn==some .local)&&
  scope.names.all (fun p=> !(p.2== .free)||sc.vis.any (fun z=>z.name==p.1&&z.cell))&&sc.vis.all (fun z=> !(z.slot==x))
theorem wC{sc:Sc}{xn:Str}{x:Nat}{scope:Scope}(h:wD sc xn x scope=true):kz sc (di sc xn x scope) ⟨xn,x,false,false⟩ scope:=by
 simp only[wD,LY,Km,J7,Mp,Bool.not_eq_true',KA,LX]at h
 obtain⟨⟨⟨⟨⟨h1,h2⟩,h3⟩,h4⟩,h5⟩,h6⟩:=h
 refine⟨h1,h2,fun y hy hl=>(h3 y hy).resolve_left fun z=>z hl,h4,rfl,fun y hy=>?_,fun p hp hf=>?_,fun g hg=>?_,h6,rfl⟩
 ·simp only[di,JY,J5,La,LY,Bool.not_eq_true',KA,J7]at hy
  rcases hy with rfl|⟨z,⟨hz,⟨⟨z1,z2⟩,z3⟩,z4⟩,rfl⟩
  ·exact .inl rfl
  ·exact .inr ⟨z2,z3,z1,rfl,z4,z,hz,rfl,rfl,z1⟩
 ·obtain⟨z,hz,q1,q2⟩:=(h5 p hp).resolve_left fun z=>z hf
  exact⟨z,hz,q1,q2⟩
 ·simp only[di,J5,La,J7]at hg
  obtain⟨p,⟨_,q⟩,rfl⟩:=hg
  exact q
noncomputable def uw(C:Ck)(v:V)(sc:Sc)(e:Mq):Bool:=
 onConstant e (fun k _ _=>(v.ctorIdx==1||(v.ctorIdx==2||v.ctorIdx==3))&&oP v k)||aZ e fun id _=>oQ C v sc id
noncomputable def mm(C:Ck)(sc:Sc):List V->List V->List (Option Mq)->List Mq->Bool
 |[],vs,es,fs=>vs.isEmpty&&(es.isEmpty&&fs.isEmpty)
 |k::ks,vs,es,fs=>du vs fun v vs=>du es fun e es=>du fs fun f fs=>dq e fun e=>uw C k sc e&&(uw C v sc f&&mm C sc ks vs es fs)
section
variable (C:Ck) (f:Bool->ME->Sc->Mq->Bool)
noncomputable def mS(l:List ME)(sc:Sc)(es:List Mq):Bool:=km (fun m e=>d6 e&&f false m sc e) l es
noncomputable def B6(m:Option ME)(sc:Sc)(e:Option Mq):Bool:=match m with
 |none=>e.isNone
 |some m=>dq e fun e=>f false m sc e
noncomputable def E9(l:List ME)(sc:Sc)(es:List Mq):Bool:=match l with
 |[]=>es.isEmpty
 |m::r=>r.isEmpty&&on1 es fun e=>f true m sc e
noncomputable def wB(me:ME)(x:Nat)(it:ME)(ifs:List ME)(sc:Sc)(elt:Mq)(gs:List Comprehension)(scope:Scope):Bool:=
 on1 gs fun g=>aZ g.target fun xn _=>decide (g.is_async=0)&&(mF g.iter&&(wD sc xn x scope&&(f false it sc g.iter&&(f false me (di sc xn x scope) elt&&E9 f ifs (di sc xn x scope) g.ifs))))
noncomputable def mG(ks:List V):Bool:=(match cz ks with|some ss=>decide ss.Nodup|none=>true)&&(match mN ks with|some ss=>decide ss.Nodup|none=>true)
noncomputable def pD(me:ME)(sc:Sc)(e:Mq):Bool:=match me with
 | .c v=>FA C v sc e
 | .x i=>tz i sc e
 | .lenX i=>cP e fun g as ks _=>ks.isEmpty&&(aZ g (fun g _=>oQ C (.bi .len) sc g)&&on1 as fun a=>tz i sc a)
 | .tupX i=>cP e fun g as ks _=>ks.isEmpty&&(aZ g (fun g _=>oQ C (.bi .tuple) sc g)&&on1 as fun a=>tz i sc a)
 | .tup l=>fF e fun es _ _=>mS f l sc es
 | .lst l=>jC e fun es _=>mS f l sc es
 | .dct ks vs=>pS e fun es fs _=>mm C sc ks vs es fs&&(decide (ks.length<=15)&&mG ks)
 | .bin o a b=>mD e fun l op r _=>(op==Hn o)&&(f false a sc l&&f false b sc r)
 | .neg a=>dD e fun op l _=>(op== .USub)&&f false a sc l
 | .not a=>dD e fun op l _=>(op== .Not)&&f false a sc l
 | .and l=>dE e fun op es _=>(op== .And)&&(!l.isEmpty&&mS f l sc es)
 | .or l=>dE e fun op es _=>(op== .Or)&&(!l.isEmpty&&mS f l sc es)
 | .cmp o a b=>fG e fun l ops rs _=>on1 ops fun op=>on1 rs fun r=>(op==mV o)&&(!behindInMarks (mV o) r&&(f false a sc l&&f false b sc r))
 | .ite c a b=>mC e fun c' x y _=>f true c sc c'&&(f false a sc x&&f false b sc y)
 | .call g l=>cP e fun func es ks _=>ks.isEmpty&&(aZ func (fun _ _=>true)&&(f false g sc func&&mS f l sc es))
 | .mcall o m l=>cP e fun func es ks pos=>ks.isEmpty&&aR func fun o' nm apos=>(nm==aH m)&&(gz o'&&((apos.endLine==pos.line)&&(decide (es.length < 29)&&(f false o sc o'&&mS f l sc es))))
 | .attr o a=>aR e fun o' nm _=>(nm==aH a)&&(gz o'&&f false o sc o')
 | .idx a b=>cJ e fun v s _=>f false a sc v&&f false b sc s
 | .slc a lo hi=>cJ e fun v s _=>my s fun l u st _=>st.isNone&&(f false a sc v&&(B6 f lo sc l&&B6 f hi sc u))
 | .comp me x it ifs=>d4 e fun elt gs scope _=>wB f me x it ifs sc elt gs scope
 | .lam i caps=>C.lam sc e i caps
 | .jrev s me=>cP e fun func as ks pos=>ks.isEmpty&&aR func fun o nm apos=>onConstant o fun k _ _=>on1 as fun a=>cP a fun g bs ks' _=>ks'.isEmpty&&aZ g fun g _=>on1 bs fun e'=>
   oP (.str s) k&&((nm=="join")&&((apos.endLine==pos.line)&&(oQ C (.bi .reversed) sc g&&(d6 e'&&f false me sc e'))))
 | .repl me c b=>cP e fun func as ks pos=>ks.isEmpty&&aR func fun o nm apos=>B9 as fun x y=>onConstant x fun x _ _=>onConstant y fun y _ _=>
   oP (.str [c]) x&&(oP (.str b) y&&((nm=="replace")&&(gz o&&((apos.endLine==pos.line)&&f false me sc o))))
noncomputable def Eb(me:ME)(sc:Sc)(e:Mq):Bool:=match me with
 | .c _=>false
 | .x i=>tz i sc e
 | .lenX _=>false
 | .tupX _=>false
 | .tup _=>false
 | .lst _=>false
 | .dct _ _=>false
 | .bin _ _ _=>false
 | .neg _=>false
 | .not a=>dD e fun op l _=>(op== .Not)&&f true a sc l
 | .and l=>dE e fun op es _=>(op== .And)&&km (fun m e=>f true m sc e) l es
 | .or l=>dE e fun op es _=>(op== .Or)&&km (fun m e=>f true m sc e) l es
 | .cmp o a b=>fG e fun l ops rs _=>on1 ops fun op=>on1 rs fun r=>(op==mV o)&&(!behindInMarks (mV o) r&&(f false a sc l&&f false b sc r))
 | .ite _ _ _=>false
 | .call g l=>pD C f (.call g l) sc e
 | .mcall o m l=>pD C f (.mcall o m l) sc e
 | .attr o a=>pD C f (.attr o a) sc e
 | .idx a b=>pD C f (.idx a b) sc e
 | .slc _ _ _=>false
 | .comp me x it ifs=>pD C f (.comp me x it ifs) sc e
 | .lam _ _=>false
 | .jrev _ _=>false
 | .repl _ _ _=>false
end
noncomputable def wL(C:Ck):Nat->Bool->ME->Sc->Mq->Bool
 |0=>fun _ _ _ _=>false
 |n+1=>fun t=>cond t (Eb C (wL C n)) (pD C (wL C n))
noncomputable def Dg(C:Ck)(me:ME)(sc:Sc)(e:Mq):Bool:=wL C 40 false me sc e
noncomputable def nA(sc:Sc)(id:Str)(i:Nat):Bool:=sc.vis.any fun v=>v.name==id&&(v.slot==i&& !v.cell)
noncomputable def DJ(sc:Sc)(id:Str)(i:Nat):Bool:=sc.vis.any fun v=>v.name==id&&(v.slot==i&&(v.cell&&v.mine))
theorem any_ok{α:Type}{l:List α}{p:α->Bool}{P:Prop}(h:l.any p=true)(f:∀v∈l,p v=true->P):P:=
 let⟨v,h1,h2⟩:=LX.mp h;f v h1 h2
theorem dR{sc:Sc}{id:Str}{i:Nat}{P:Str->Nat->Prop}(h:nA sc id i=true)(f:∀v∈sc.vis,v.cell=false->P v.name v.slot):P id i:=
 any_ok h fun v h1 h=>and_ok h fun h2 h=>and_ok h fun h3 h4=>J7.mp h2▸J7.mp h3▸f v h1 (Bool.not_eq_true' _▸h4)
theorem yj{sc:Sc}{id:Str}{i:Nat}{P:Str->Nat->Prop}(h:DJ sc id i=true)(f:∀v∈sc.vis,v.cell=true->v.mine=true->P v.name v.slot):P id i:=
 any_ok h fun v h1 h=>and_ok h fun h2 h=>and_ok h fun h3 h=>and_ok h fun h4 h5=>J7.mp h2▸J7.mp h3▸f v h1 h4 h5
noncomputable def zQ(C:Ck)(me:ME)(sc:Sc)(e:Mq):Bool:=
 onMc me (fun v=>(v.ctorIdx==0||v.ctorIdx==1)&&onConstant e (fun k _ _=>oP v k)||aZ e fun id _=>oQ C v sc id)||B7 me fun i=>tz i sc e
noncomputable def iz(t:Stmt)(k:Mq->Mq->Bool):Bool:=jD t fun ts v _=>on1 ts fun tg=>k tg v
@[elab_as_elim] theorem c6 {P:Stmt->Prop}{t:Stmt}{k:Mq->Mq->Bool}(h:iz t k=true)(f:∀a b p,k a b=true->P (.Assign [a] b p)):P t:=
 onAssign_ok h fun ts v p h=>bQ (P:=fun ts=>P (.Assign ts v p)) h fun a h=>f a v p h
noncomputable def EJ(hd:ExceptHandler)(k:Option Mq->Option Str->List Stmt->Bool):Bool:=match hd with
 | .ExceptHandler t n b _=>k t n b
noncomputable def Df(C:Ck):List MS->Sc->List Stmt->Bool
 |[],_,_=>false
 |m::ms,sc,ts=>du ts fun t ts=>match ms with
  |[]=>ts.isEmpty&&mB m fun me=>eT t fun oe _=>dq oe fun e=>zQ C me sc e
  |_::_=>jB m fun mo a me=>iz t fun tg v=>aR tg fun o nm _=>(nm==aH a)&&(d7 v&&(zQ C mo sc o&&(zQ C me sc v&&Df C ms sc ts)))
section
variable (C:Ck) (fE:Bool->ME->Sc->Mq->Bool) (f:List MS->Sc->List Stmt->Bool)
noncomputable def Aj(m:MS)(sc:Sc)(t:Stmt):Bool:=match m with
 | .asg i me=>iz t fun tg v=>aZ tg fun id _=>nA sc id i&&(d7 v&&fE false me sc v||mA me fun e x it ifs=>d4 v fun elt gs scope _=>wB fE e x it ifs sc elt gs scope)
 | .asgC i me=>iz t fun tg v=>aZ tg fun id _=>DJ sc id i&&(d7 v&&fE false me sc v)
 | .own i l=>iz t fun tg v=>aZ tg fun id _=>nA sc id i&&jC v fun es _=>mS fE l sc es
 | .app i me=>gx t fun e _=>cP e fun fn as ks cpos=>ks.isEmpty&&aR fn fun o nm apos=>aZ o fun id _=>on1 as fun a=>(nm=="append")&&(sc.vis.any (fun v=>v.name==id&&v.slot==i)&&(!gG id&&((apos.endLine==cpos.line)&&(d6 a&&fE false me sc a))))
 | .ext i me=>gx t fun e _=>cP e fun fn as ks cpos=>ks.isEmpty&&aR fn fun o nm apos=>aZ o fun id _=>on1 as fun a=>(nm=="extend")&&(sc.vis.any (fun v=>v.name==id&&v.slot==i)&&(!gG id&&((apos.endLine==cpos.line)&&(d6 a&&fE false me sc a))))
 | .asgT is l=>B9 is fun i j=>B9 l fun m1 m2=>iz t fun tg v=>fF tg fun xs _ _=>B9 xs fun x y=>aZ x fun ix _=>aZ y fun iy _=>fF v fun es _ _=>B9 es fun e1 e2=>
   nA sc ix i&&(nA sc iy j&&(!(i==j)&&(d6 e1&&(d6 e2&&(fE false m1 sc e1&&(fE false m2 sc e2&&([e1,e2].all (foldedForSure 8)|| !([e1,e2].all (constantsAlone 8)))))))))
 | .asgA o a me=>iz t fun tg v=>aR tg fun o' nm _=>(nm==aH a)&&(d7 v&&(fE false o sc o'&&fE false me sc v))
 | .asgI o i me=>iz t fun tg v=>cJ tg fun o' i' _=>d7 v&&(fE false o sc o'&&(fE false i sc i'&&fE false me sc v))
 | .expr me=>gx t fun e _=>d7 e&&fE false me sc e
 | .ret me=>eT t fun oe _=>dq oe fun e=>fE false me sc e
 | .retL l=>eT t fun oe _=>dq oe fun e=>jC e fun es _=>mS fE l sc es
 | .raise me=>mz t fun oe oc _=>oc.isNone&&dq oe fun e=>fE false me sc e
 | .ite c a b=>B8 t fun c' a' b' _=>fE true c sc c'&&(f a sc a'&&f b sc b')
 | .whl c b=>mv t fun c' b' el _=>el.isEmpty&&(fE true c sc c'&&f b sc b')
 | .for1 i it b=>rh t fun tg it' b' el _=>el.isEmpty&&aZ tg fun id _=>nA sc id i&&(mF it'&&(fE false it sc it'&&f b sc b'))
 | .for2 i j it b=>rh t fun tg it' b' el _=>el.isEmpty&&fF tg fun xs _ _=>B9 xs fun x y=>aZ x fun ix _=>aZ y fun iy _=>nA sc ix i&&(nA sc iy j&&(!(i==j)&&(mF it'&&(fE false it sc it'&&f b sc b'))))
 | .tryE b c h=>rg t fun b' hs el fin _=>el.isEmpty&&(fin.isEmpty&&on1 hs fun hd=>EJ hd fun ty nm su=>nm.isNone&&dq ty fun te=>aZ te fun x _=>du su fun s su=>f b sc b'&&(oQ C (.cls c) sc x&&(decide (c < 3)&&Df C h sc (s::su))))
 | .tryN b=>rg t fun b' hs el fin _=>el.isEmpty&&(fin.isEmpty&&du hs fun _ _=>f b sc b')
end
noncomputable def wK(C:Ck):Nat->List MS->Sc->List Stmt->Bool
 |0=>fun _ _ _=>false
 |n+1=>fun ms sc ts=>km (fun m t=>Aj C (wL C 40) (wK C n) m sc t) ms ts
noncomputable def AP(C:Ck)(ms:List MS)(sc:Sc)(ts:List Stmt):Bool:=wK C 12 ms sc ts
end
section
set_option linter.all false
structure gj(X:Cx)(n:Nat)(C:Ck):Prop where
 G:Kd X
 Gg:Gd X
 H:Xd X
 glob:∀id v,C.glob.lookup id=some v->X.glob id=some v
 lam:∀sc e i caps,C.lam sc e i caps=true->ah X n sc e (.lam i caps)
 sm:X.B.get? sysModules≠none
section
variable {C:Ck}
theorem eW{a:Bool}(h:(!a)=true):a=false:=by cases a<;>first|rfl|cases h
theorem c7{id:Str}(h:gG id=false):(id==("__debug__":Str))=false/\(id==("__classdict__":Str))=false:=K7.mp h
theorem s6{P:Prop}{o:Option V}{v:V}(h:dq o (fun w=>GC w v)=true)(f:o=some v->P):P:=
 onSome_ok (P:=fun o=>(o=some v->P)->P) h (fun w h f=>f (congrArg some (Bc h))) f
theorem ey{v:V}{id:Str}(K:gj X n C)(h:oQ C v sc id=true):id∈sc.gl/\X.glob id=some v/\(id==("__debug__":Str))=false:=
 and_ok h fun h1 h=>and_ok h fun h2 h3=>⟨List.contains_iff_mem.mp h1,s6 h3 (K.glob _ _),(c7 (eW h2)).1⟩
theorem gN{i:Nat}{e:Mq}{P:Mq->Nat->Prop}(h:tz i sc e=true)(f:∀id pos v,v∈sc.vis->v.name=id->(id==("__debug__":Str))=false->(id==("__classdict__":Str))=false->P (.Name id pos) v.slot):P e i:=by
 refine aA (P:=fun e=>P e i) h fun id pos h=>and_ok h fun h1 h2=>any_ok h1 fun v hv h=>and_ok h fun h3 h4=>?_
 rw[←J7.mp h4]
 exact f id pos v hv (J7.mp h3) (c7 (eW h2)).1 (c7 (eW h2)).2
theorem AY{x:Str}{l:List Nat}(h:(x.cps.toList==l)=true):x=ST l:=by
 rw[←J7.mp h,qA]
theorem chkK_ok{P:V->Const->Prop}{v:V}{k:Const}(h:oP v k=true)(h0:P .none .none)(h1:∀b,P (.bool b) (.bool b))(h2:∀i,P (.int i) (.int i))(h3:∀l x,x=ST l->P (.str l) (.str x))(h4:∀b:List UInt8,P (.bytes (b.map UInt8.toNat)) (.bytes b)):P v k:=by
 cases k with
 |none=>exact V.none.elim (motive_1:=fun v=>P v .none) v (J7.mp h) h0
 |bool b=>exact jA (P:=fun v=>P v _) h fun a h=>J7.mp h▸h1 a
 |int b=>exact lb (P:=fun v=>P v _) h fun a h=>JN h▸h2 a
 |str b=>exact k8 (P:=fun v=>P v _) h fun a h=>h3 a b (AY h)
 |bytes b=>exact iw (P:=fun v=>P v _) h fun a h=>J7.mp h▸h4 b
 |_=>cases h
theorem or_ok{a b:Bool}{P:Prop}(h:(a||b)=true)(f:a=true->P)(g:b=true->P):P:=(KH.mp h).elim f g
theorem zR{v:V}{e:Mq}(K:gj X n C)(h:FA C v sc e=true):ah X n sc e (.c v):=
 or_ok h (fun h=>bw (P:=fun e=>ah X n sc e (.c v)) h fun k kk pos h=>chkK_ok (P:=fun v k=>ah X n sc (.Constant k kk pos) (.c v)) h zb (fun _=>zh) (fun _=>Ci) (fun _ _ e=>e▸Ca) fun _=>vk)
  fun h=>aA (P:=fun e=>ah X n sc e (.c v)) h fun id pos h=>have g:=ey K h;fJ K.Gg g.1 g.2.1 g.2.2
theorem fK{id:Str}{p pos:Pos}{es:List Mq}(env:Env):eval (.Call (.Name id p) es [] pos) env=(do callWith pos (←eval (.Name id p) env) [] (backTo pos (starEach es env)) (backToKw pos (keywordEach [] env))):=arm_eval_Call_Name' id p es [] pos env
theorem nK{v:V}{e:Mq}(K:gj X n C)(h:uw C v sc e=true):kP X sc e v:=by
 refine or_ok h (fun h=>bw (P:=fun e=>kP X sc e v) h fun k kk pos h=>and_ok h fun h1 h2=>?_)
  fun h=>aA (P:=fun e=>kP X sc e v) h fun id pos h=>have g:=ey K h;iu K.Gg g.1 g.2.1 g.2.2
 exact chkK_ok (P:=fun v k=>(v.ctorIdx==1||(v.ctorIdx==2||v.ctorIdx==3))=true->kP X sc (.Constant k kk pos) v) h2 (fun h=>nomatch h) (fun _ _=>sF) (fun _ _=>uv) (fun _ _ e _=>uu e) (fun _ h=>nomatch h) h1
theorem k6(K:gj X n C):∀{ks vs:List V} {es:List (Option Mq)} {fs:List Mq},mm C sc ks vs es fs=true->∃r:List (Mq×Mq),es=r.map (fun p=>some p.1)/\fs=r.map (·.2)/\db X sc r ks vs/\r.length=ks.length/\ks.length=vs.length
 |[],vs,es,fs,h=>and_ok h fun h1 h=>and_ok h fun h2 h3=>by
  rw[Kl.mp h1,Kl.mp h2,Kl.mp h3]
  exact⟨[],rfl,rfl,.nil,rfl,rfl⟩
 |k::ks,vs,es,fs,h=>by
  refine onCons_ok (P:=fun vs=>∃r:List (Mq×Mq),es=r.map (fun p=>some p.1)/\fs=r.map (·.2)/\db X sc r (k::ks) vs/\r.length=(k::ks).length/\(k::ks).length=vs.length) h fun v vs h=>?_
  refine onCons_ok (P:=fun es=>∃r:List (Mq×Mq),es=r.map (fun p=>some p.1)/\fs=r.map (·.2)/\db X sc r (k::ks) (v::vs)/\r.length=(k::ks).length/\(k::ks).length=(v::vs).length) h fun e es h=>?_
  refine onCons_ok (P:=fun fs=>∃r:List (Mq×Mq),e::es=r.map (fun p=>some p.1)/\fs=r.map (·.2)/\db X sc r (k::ks) (v::vs)/\r.length=(k::ks).length/\(k::ks).length=(v::vs).length) h fun f fs h=>?_
  refine onSome_ok (P:=fun e=>∃r:List (Mq×Mq),e::es=r.map (fun p=>some p.1)/\f::fs=r.map (·.2)/\db X sc r (k::ks) (v::vs)/\r.length=(k::ks).length/\(k::ks).length=(v::vs).length) h fun e h=>and_ok h fun h1 h=>and_ok h fun h2 h3=>?_
  obtain⟨r,e1,e2,e3,e4,e5⟩:=k6 K h3
  exact⟨(e,f)::r,congrArg _ e1,congrArg _ e2,.cons (nK K h1) (nK K h2) e3,congrArg (·+1) e4,congrArg (·+1) e5⟩
theorem sZ{ks:List V}(h:mG ks=true):(∀ss,cz ks=some ss->ss.Nodup)/\∀ss,mN ks=some ss->ss.Nodup:=by
 unfold mG at h
 refine and_ok h fun h1 h2=>⟨fun ss e=>?_,fun ss e=>?_⟩
 ·rw[e]at h1;exact JN h1
 ·rw[e]at h2;exact JN h2
theorem Dd(K:gj X n C){ks vs:List V}{es:List (Option Mq)}{fs:List Mq}{pos:Pos}(h:mm C sc ks vs es fs=true)(h15:ks.length<=15)(h1:mG ks=true):ah X n sc (.Dict es fs pos) (.dct ks vs):=by
 obtain⟨r,e1,e2,e3,e4,e5⟩:=k6 K h
 subst e1;subst e2
 cases r with
 |nil=>cases e3;exact zf K.sm
 |cons p r=>exact Cl e3 (Kr _ _) (e4▸h15) (sZ h1) K.sm
noncomputable abbrev Fk:=Bool->ME->Sc->Mq->Bool
def z8(X:Cx)(n:Nat)(f:Fk):Prop:=(∀sc me e,f false me sc e=true->ah X n sc e me)/\∀sc me e,f true me sc e=true->bN X n sc e me
theorem en{f:Fk}(F:z8 X n f):∀{ms:List ME} {es:List Mq},mS f ms sc es=true->dn X n sc es ms/\es.length=ms.length/\bg es/\∀(i:Nat) (m:ME) (e:Mq),ms[i]? =some m->es[i]? =some e->ah X n sc e m
 |[],_,h=>aU (P:=fun es=>dn X n sc es []/\es.length=([]:List ME).length/\bg es/\∀(i:Nat) (m:ME) (e:Mq),([]:List ME)[i]? =some m->es[i]? =some e->ah X n sc e m) h
   ⟨jc,rfl,(fun _ m=>nm m),fun i m e q=>nomatch q⟩
 |m::ms,_,h=>by
  refine onCons_ok (P:=fun es=>dn X n sc es (m::ms)/\es.length=(m::ms).length/\bg es/\∀(i:Nat) (m':ME) (e:Mq),(m::ms)[i]? =some m'->es[i]? =some e->ah X n sc e m') h fun e es h=>and_ok h fun h1 h3=>and_ok h1 fun h1 h2=>?_
  obtain⟨i1,i2,i3,i4⟩:=en F h3
  refine⟨eV (bR h1) (F.1 _ _ _ h2) i1,congrArg (·+1) i2,fun x hx=>?_,fun i m' e' q1 q2=>?_⟩
  ·cases hx with
   |head=>exact bR h1
   |tail _ hx=>exact i3 x hx
  ·cases i with
   |zero=>cases q1;cases q2;exact F.1 _ _ _ h2
   |succ i=>exact i4 i m' e' q1 q2
theorem z0{ms:List ME}:∀{es:List Mq} {pos:Pos},ms≠[]->(ms.length=es.length)->(∀(i:Nat) (m:ME) (e:Mq),ms[i]? =some m->es[i]? =some e->ah X n sc e m)->ah X n sc (.BoolOp .And es pos) (.and ms):=by
 induction ms with
 |nil=>exact fun h=>absurd rfl h
 |cons m ms ih=>
  intro es pos _ h q
  cases es with
  |nil=>cases h
  |cons e es=>cases ms with
   |nil=>
    cases List.eq_nil_of_length_eq_zero (Nat.succ.inj h).symm
    exact zj (q 0 m e rfl rfl)
   |cons m2 ms=>cases es with
    |nil=>cases h
    |cons e2 es=>exact Cp (q 0 m e rfl rfl) (ih (Kr _ _) (Nat.succ.inj h) fun i m e h1 h2=>q (i+1) m e h1 h2)
theorem B5{ms:List ME}:∀{es:List Mq} {pos:Pos},ms≠[]->(ms.length=es.length)->(∀(i:Nat) (m:ME) (e:Mq),ms[i]? =some m->es[i]? =some e->ah X n sc e m)->ah X n sc (.BoolOp .Or es pos) (.or ms):=by
 induction ms with
 |nil=>exact fun h=>absurd rfl h
 |cons m ms ih=>
  intro es pos _ h q
  cases es with
  |nil=>cases h
  |cons e es=>cases ms with
   |nil=>
    cases List.eq_nil_of_length_eq_zero (Nat.succ.inj h).symm
    exact Cc (q 0 m e rfl rfl)
   |cons m2 ms=>cases es with
    |nil=>cases h
    |cons e2 es=>exact EK (q 0 m e rfl rfl) (ih (Kr _ _) (Nat.succ.inj h) fun i m e h1 h2=>q (i+1) m e h1 h2)
theorem pz{f:Fk}(F:z8 X n f):∀{ms:List ME} {es:List Mq},km (fun m e=>f true m sc e) ms es=true->(∀pos,bN X n sc (.BoolOp .And es pos) (.and ms))/\∀pos,bN X n sc (.BoolOp .Or es pos) (.or ms)
 |[],_,h=>aU (P:=fun es=>(∀pos,bN X n sc (.BoolOp .And es pos) (.and []))/\∀pos,bN X n sc (.BoolOp .Or es pos) (.or [])) h ⟨fun _=>pX,fun _=>s9⟩
 |m::ms,_,h=>onCons_ok (P:=fun es=>(∀pos,bN X n sc (.BoolOp .And es pos) (.and (m::ms)))/\∀pos,bN X n sc (.BoolOp .Or es pos) (.or (m::ms))) h fun _ _ h=>and_ok h fun h1 h2=>
   have i:=pz F h2
   ⟨fun pos=>C0 (F.2 _ _ _ h1) (i.1 pos),fun pos=>E8 (F.2 _ _ _ h1) (i.2 pos)⟩
theorem ra{f:Fk}(F:z8 X n f){m:Option ME}{e:Option Mq}(h:B6 f m sc e=true):ku X n sc e m:=by
 cases m with
 |none=>exact jd (P:=fun e=>ku X n sc e none) h yZ
 |some m=>exact onSome_ok (P:=fun e=>ku X n sc e (some m)) h fun e h=>yY (F.1 _ _ _ h)
theorem C3{f:Fk}(F:z8 X n f){l:List ME}{es:List Mq}(h:E9 f l sc es=true):iP X n sc es l:=by
 cases l with
 |nil=>exact .inl ⟨Kl.mp h,rfl⟩
 |cons m r=>exact and_ok h fun h1 h=>aU (P:=fun r=>iP X n sc es (m::r)) h1 (bQ (P:=fun es=>iP X n sc es [m]) h fun e h=>.inr ⟨e,m,rfl,rfl,F.2 _ _ _ h⟩)
theorem vq{α:Type}{l:List α}(h:(!l.isEmpty)=true):l≠[]:=by rintro rfl;cases h
@[elab_as_elim] theorem rJ {f:Fk}(F:z8 X n f){me:ME}{x:Nat}{it:ME}{ifs:List ME}{elt:Mq}{gs:List Comprehension}{scope:Scope}{P:List Comprehension->Prop}(h:wB f me x it ifs sc elt gs scope=true)
  (k:∀xn p iter ifs',kz sc (di sc xn x scope) ⟨xn,x,false,false⟩ scope->(∀env x,foldedSetIterable iter env x=pure x)->ah X n sc iter it->ah X n (di sc xn x scope) elt me->iP X n (di sc xn x scope) ifs' ifs->P [⟨.Name xn p,iter,ifs',0⟩]):P gs:=by
 refine bQ h fun g h=>?_
 obtain⟨t,iter,ifs',a⟩:=g
 refine aA (P:=fun t=>P [⟨t,iter,ifs',a⟩]) h fun xn p h=>and_ok h fun h1 h=>and_ok h fun h2 h=>and_ok h fun h3 h=>and_ok h fun h4 h=>and_ok h fun h5 h6=>?_
 have e:a=0:=JN h1
 subst e
 exact k xn p iter ifs' (wC h3) (fun env x=>hO h2 env x) (F.1 _ _ _ h4) (F.1 _ _ _ h5) (C3 F h6)
@[elab_as_elim] theorem eU {s:List Nat}{k:Const}{P:Const->Prop}(h:oP (.str s) k=true)(f:∀x,x=ST s->P (.str x)):P k:=
 chkK_ok (P:=fun v k=>v=.str s->P k) h (fun e=>nomatch e) (fun _ e=>nomatch e) (fun _ e=>nomatch e) (fun l x hx e=>f x (by cases e;exact hx)) (fun _ e=>nomatch e) rfl
theorem fB(K:gj X n C){f:Fk}(F:z8 X n f){me:ME}{e:Mq}(h:pD C f me sc e=true):ah X n sc e me:=by
 cases me with
 |c v=>exact zR K h
 |x i=>exact gN (P:=fun e i=>ah X n sc e (.x i)) h fun id pos v h1 h2 h4 h5=>jE h1 h2 h4 h5
 |lenX i=>
  refine bn h fun g as ks p h=>and_ok h fun h1 h=>and_ok h fun h2 h3=>aU h1 (aA h2 fun g gp h2=>bQ h3 fun a h3=>gN (P:=fun a i=>ah X n sc (.Call (.Name g gp) [a] [] p) (.lenX i)) h3 fun id pos v q1 q2 q4 q5=>?_)
  exact have g:=ey K h2;zd q1 q2 q4 q5 (fJ K.Gg g.1 g.2.1 g.2.2) fun env=>fK env
 |tupX i=>
  refine bn h fun g as ks p h=>and_ok h fun h1 h=>and_ok h fun h2 h3=>aU h1 (aA h2 fun g gp h2=>bQ h3 fun a h3=>gN (P:=fun a i=>ah X n sc (.Call (.Name g gp) [a] [] p) (.tupX i)) h3 fun id pos v q1 q2 q4 q5=>?_)
  exact have g:=ey K h2;y9 q1 q2 q4 q5 (fJ K.Gg g.1 g.2.1 g.2.2) fun env=>fK env
 |tup l=>exact d0 h fun es _ _ h=>n4 (en F h).1
 |lst l=>exact hG h fun es _ h=>zc (en F h).1
 |dct ks vs=>exact sS h fun es fs _ h=>and_ok h fun h1 h=>and_ok h fun h2 h3=>Dd K h1 (JN h2) h3
 |bin o a b=>exact pT h fun l op r p h=>and_ok h fun h1 h=>and_ok h fun h2 h3=>bA (P:=fun op=>ah X n sc (.BinOp l op r p) (.bin o a b)) h1 (Co (F.1 _ _ _ h2) (F.1 _ _ _ h3))
 |neg a=>exact dZ h fun op l p h=>and_ok h fun h1 h2=>bA (P:=fun op=>ah X n sc (.UnaryOp op l p) (.neg a)) h1 (Cf (F.1 _ _ _ h2))
 |not a=>exact dZ h fun op l p h=>and_ok h fun h1 h2=>bA (P:=fun op=>ah X n sc (.UnaryOp op l p) (.not a)) h1 (Ce (F.1 _ _ _ h2))
 |and l=>exact de h fun op es p h=>and_ok h fun h1 h=>and_ok h fun h2 h3=>bA (P:=fun op=>ah X n sc (.BoolOp op es p) (.and l)) h1 (have i:=en F h3;z0 (vq h2) i.2.1.symm i.2.2.2)
 |or l=>exact de h fun op es p h=>and_ok h fun h1 h=>and_ok h fun h2 h3=>bA (P:=fun op=>ah X n sc (.BoolOp op es p) (.or l)) h1 (have i:=en F h3;B5 (vq h2) i.2.1.symm i.2.2.2)
 |cmp o a b=>
  exact gy h fun l ops rs p h=>bQ h fun op h=>bQ h fun r h=>and_ok h fun h1 h=>and_ok h fun h2 h=>and_ok h fun h3 h4=>bA (P:=fun op=>ah X n sc (.Compare l [op] [r] p) (.cmp o a b)) h1 (Cn (F.1 _ _ _ h3) (F.1 _ _ _ h4) (eW h2))
 |ite c a b=>exact pR h fun c' x y p h=>and_ok h fun h1 h=>and_ok h fun h2 h3=>Ch (F.2 _ _ _ h1) (F.1 _ _ _ h2) (F.1 _ _ _ h3)
 |call g l=>
  refine bn h fun fn es ks p h=>and_ok h fun h1 h=>and_ok h fun h2 h=>and_ok h fun h3 h4=>aU h1 ?_
  exact have i:=en F h4;aA (P:=fun fn=>f false g sc fn=true->ah X n sc (.Call fn es [] p) (.call g l)) h2 (fun id q _ h3=>zg K.G (F.1 _ _ _ h3) i.1 i.2.2.1 i.2.1 fun env=>fK env) h3
 |mcall o m l=>
  refine bn h fun fn es ks p h=>and_ok h fun h1 h=>aU h1 (aJ h fun o' nm ap h=>and_ok h fun h1 h=>and_ok h fun h2 h=>and_ok h fun h3 h=>and_ok h fun h4 h=>and_ok h fun h5 h6=>?_)
  exact have i:=en F h6;bA (P:=fun nm=>ah X n sc (.Call (.Attribute o' nm ap) es [] p) (.mcall o m l)) h1 (vj K.G (F.1 _ _ _ h5) i.1 i.2.2.1 i.2.1 ⟨fun env w=>eX h2 env w,h3,JN h4⟩)
 |attr o a=>exact aJ h fun o' nm p h=>and_ok h fun h1 h=>and_ok h fun h2 h3=>bA (P:=fun nm=>ah X n sc (.Attribute o' nm p) (.attr o a)) h1 (zi K.G (fun env w=>eX h2 env w) (F.1 _ _ _ h3))
 |idx a b=>exact bW h fun v s p h=>and_ok h fun h1 h2=>Cj (F.1 _ _ _ h1) (F.1 _ _ _ h2)
 |slc a lo hi=>exact bW h fun v s p h=>pN h fun l u st q h=>and_ok h fun h1 h=>and_ok h fun h2 h=>and_ok h fun h3 h4=>jd (P:=fun st=>ah X n sc (.Subscript v (.Slice l u st q) p) (.slc a lo hi)) h1 (Cb (F.1 _ _ _ h2) (ra F h3) (ra F h4))
 |comp me x it ifs=>exact ds h fun elt gs scope p h=>rJ F h fun xn q iter ifs' h1 h2 h3 h4 h5=>ri (xv:=⟨xn,x,false,false⟩) h1 h2 h3 h4 h5
 |lam i caps=>exact K.lam sc e i caps h
 |jrev s me=>
  refine bn h fun fn as ks p h=>and_ok h fun h1 h=>aU h1 (aJ h fun o nm ap h=>bw h fun k kk kp h=>bQ h fun a h=>bn h fun g bs ks' p' h=>and_ok h fun h1 h=>aU h1 (aA h fun g gp h=>bQ h fun e' h=>
   and_ok h fun h1 h=>and_ok h fun h2 h=>and_ok h fun h3 h=>and_ok h fun h4 h=>and_ok h fun h5 h6=>?_))
  refine eU h1 fun x hx=>bA (P:=fun nm=>ah X n sc (.Call (.Attribute (.Constant (.str x) kk kp) nm ap) [.Call (.Name g gp) [e'] [] p'] [] p) (.jrev s me)) h2 ?_
  exact have g:=ey K h4;ze hx (F.1 _ _ _ h6) (fJ K.Gg g.1 g.2.1 g.2.2) (bR h5) ⟨fun env w=>rfl,h3,JI rfl⟩ fun env=>fK env
 |repl me c b=>
  refine bn h fun fn as ks p h=>and_ok h fun h1 h=>aU h1 (aJ h fun o nm ap h=>hH h fun x y h=>bw h fun x kx px h=>bw h fun y ky py h=>
   and_ok h fun h1 h=>and_ok h fun h2 h=>and_ok h fun h3 h=>and_ok h fun h4 h=>and_ok h fun h5 h6=>?_)
  refine eU h1 fun x hx=>eU h2 fun y hy=>bA (P:=fun nm=>ah X n sc (.Call (.Attribute o nm ap) [.Constant (.str x) kx px,.Constant (.str y) ky py] [] p) (.repl me c b)) h3 ?_
  exact za (F.1 _ _ _ h6) hx hy ⟨fun env w=>eX h4 env w,h5,JI rfl⟩
end
end
section
set_option linter.all false
section
variable {C:Ck}
theorem yv(K:gj X n C){f:Fk}(F:z8 X n f){me:ME}{e:Mq}(h:Eb C f me sc e=true):bN X n sc e me:=by
 cases me with
 |x i=>exact gN (P:=fun e i=>bN X n sc e (.x i)) h fun id pos v h1 h2 h4 h5=>vF h1 h2 h4 h5
 |not a=>exact dZ h fun op l p h=>and_ok h fun h1 h2=>bA (P:=fun op=>bN X n sc (.UnaryOp op l p) (.not a)) h1 (CY (F.2 _ _ _ h2))
 |and l=>exact de h fun op es p h=>and_ok h fun h1 h2=>bA (P:=fun op=>bN X n sc (.BoolOp op es p) (.and l)) h1 ((pz F h2).1 _)
 |or l=>exact de h fun op es p h=>and_ok h fun h1 h2=>bA (P:=fun op=>bN X n sc (.BoolOp op es p) (.or l)) h1 ((pz F h2).2 _)
 |cmp o a b=>
  exact gy h fun l ops rs p h=>bQ h fun op h=>bQ h fun r h=>and_ok h fun h1 h=>and_ok h fun h2 h=>and_ok h fun h3 h4=>bA (P:=fun op=>bN X n sc (.Compare l [op] [r] p) (.cmp o a b)) h1 (CZ (F.1 _ _ _ h3) (F.1 _ _ _ h4) (eW h2))
 |call g l=>exact oh (fB K F h) (bn (P:=fun e=>∀env (whole:Sem Mu),isTrue e env whole=(do let v ←whole;standAt e.pos;holding [v] (truthy v))) h fun _ _ _ _ _ _ _=>rfl) fun _ _ _=>rfl
 |mcall o m l=>exact oh (fB K F h) (bn (P:=fun e=>∀env (whole:Sem Mu),isTrue e env whole=(do let v ←whole;standAt e.pos;holding [v] (truthy v))) h fun _ _ _ _ _ _ _=>rfl) fun _ _ _=>rfl
 |attr o a=>exact oh (fB K F h) (aJ (P:=fun e=>∀env (whole:Sem Mu),isTrue e env whole=(do let v ←whole;standAt e.pos;holding [v] (truthy v))) h fun _ _ _ _ _ _=>rfl) fun _ _ _=>rfl
 |idx a b=>exact oh (fB K F h) (bW (P:=fun e=>∀env (whole:Sem Mu),isTrue e env whole=(do let v ←whole;standAt e.pos;holding [v] (truthy v))) h fun _ _ _ _ _ _=>rfl) fun _ _ _=>rfl
 |comp me x it ifs=>exact oh (fB K F h) (ds (P:=fun e=>∀env (whole:Sem Mu),isTrue e env whole=(do let v ←whole;standAt e.pos;holding [v] (truthy v))) h fun _ _ _ _ _ _ _=>rfl) fun _ _ _=>rfl
 |_=>cases h
theorem jj(K:gj X n C):∀k,z8 X n (wL C k)
 |0=>⟨(fun _ _ _ h=>nomatch h),fun _ _ _ h=>nomatch h⟩
 |k+1=>⟨fun _ _ _ h=>fB K (jj K k) h,fun _ _ _ h=>yv K (jj K k) h⟩
theorem rN(K:gj X n C)(me:ME)(sc:Sc)(e:Mq)(h:Dg C me sc e=true):ah X n sc e me:=(jj K 40).1 _ _ _ h
theorem mX(K:gj X n C){me:ME}{e:Mq}(h:zQ C me sc e=true):tH X sc n e me/\kn me:=by
 refine or_ok h (fun h=>y6 h fun v h=>⟨?_,yT⟩) fun h=>y5 h fun i h=>gN (P:=fun e i=>tH X sc n e (.x i)/\kn (.x i)) h fun id pos v h1 h2 h4 h5=>⟨q0 h1 h2 h4 h5,yS⟩
 refine or_ok h (fun h=>and_ok h fun h1 h=>bw h fun k kk p h2=>?_) fun h=>aA h fun id p h=>have g:=ey K h;nU K.Gg g.1 g.2.1 g.2.2
 exact chkK_ok (P:=fun v k=>(v.ctorIdx==0||v.ctorIdx==1)=true->tH X sc n (.Constant k kk p) (.c v)) h2 (fun _=>uS) (fun _ _=>uT) (fun _ h=>nomatch h) (fun _ _ _ h=>nomatch h) (fun _ h=>nomatch h) h1
theorem rM(K:gj X n C):∀{ms:List MS} {ts:List Stmt},Df C ms sc ts=true->rV X n sc ts ms
 |[],ts,h=>nomatch h
 |m::ms,ts,h=>by
  refine onCons_ok (P:=fun ts=>rV X n sc ts (m::ms)) h fun t ts h=>?_
  cases ms with
  |nil=>
   refine and_ok h fun h1 h=>aU (P:=fun ts=>rV X n sc (t::ts) [m]) h1 (pQ (P:=fun m=>rV X n sc [t] [m]) h fun me h=>eS (P:=fun t=>rV X n sc [t] [.ret me]) h fun oe p h=>onSome_ok (P:=fun oe=>rV X n sc [.Return oe p] [.ret me]) h fun e h=>?_)
   exact have g:=mX K h;zC g.1 g.2
  |cons m' ms=>
   refine nY (P:=fun m=>rV X n sc (t::ts) (m::m'::ms)) h fun mo a me h=>c6 (P:=fun t=>rV X n sc (t::ts) (.asgA mo a me::m'::ms)) h fun tg v p h=>aJ (P:=fun tg=>rV X n sc (.Assign [tg] v p::ts) (.asgA mo a me::m'::ms)) h fun o nm q h=>
    and_ok h fun h1 h=>and_ok h fun h2 h=>and_ok h fun h3 h=>and_ok h fun h4 h5=>bA (P:=fun nm=>rV X n sc (.Assign [.Attribute o nm q] v p::ts) (.asgA mo a me::m'::ms)) h1 ?_
   exact have a:=mX K h3;have b:=mX K h4;vP K.G a.1 b.1 (cu h2) (rM K h5) b.2 a.2
theorem ER{a b:Nat}(h:(!(a==b))=true):a≠b:=KA.mp (eW h)
def SOk(X:Cx)(n:Nat)(f:List MS->Sc->List Stmt->Bool):Prop:=∀ms sc ts,sc.Ok->f ms sc ts=true->bH X n sc ts ms
@[elab_as_elim] theorem y8 {P:ExceptHandler->Prop}{hd:ExceptHandler}{k:Option Mq->Option Str->List Stmt->Bool}(h:EJ hd k=true)(f:∀t n b p,k t n b=true->P (.ExceptHandler t n b p)):P hd:=match hd,h with
 | .ExceptHandler t n b p,h=>f t n b p h
theorem qI{id:Str}{i:Nat}{P:Nat->Prop}(h:sc.vis.any (fun v=>v.name==id&&v.slot==i)=true)(f:∀v∈sc.vis,v.name=id->P v.slot):P i:=
 any_ok h fun v h1 h=>and_ok h fun h2 h3=>J7.mp h3▸f v h1 (J7.mp h2)
theorem un(K:gj X n C){fE:Fk}(F:z8 X n fE){f:List MS->Sc->List Stmt->Bool}(S:SOk X n f)(hok:sc.Ok){m:MS}{t:Stmt}(h:Aj C fE f m sc t=true):bv X n sc t m:=by
 cases m with
 |asg i me=>
  refine c6 h fun tg v p h=>aA h fun id q h=>and_ok h fun h1 h=>dR (P:=fun id i=>bv X n sc (.Assign [.Name id q] v p) (.asg i me)) h1 fun x x1 x2=>?_
  refine or_ok h (fun h=>and_ok h fun h2 h3=>BJ hok x1 x2 rfl (F.1 _ _ _ h3) (cu h2)) fun h=>pP h fun e x' it ifs h=>ds h fun elt gs scope lp h=>?_
  exact rJ F h fun xn q iter ifs' g1 g2 g3 g4 g5=>nI (xv:=⟨xn,x',false,false⟩) hok x1 x2 rfl g1 g2 g3 g4 g5
 |asgC i me=>
  exact c6 h fun tg v p h=>aA h fun id q h=>and_ok h fun h1 h=>yj (P:=fun id i=>bv X n sc (.Assign [.Name id q] v p) (.asgC i me)) h1 fun x x1 x2 x3=>and_ok h fun h2 h3=>yG hok x1 x2 x3 rfl (F.1 _ _ _ h3) (cu h2)
 |own i l=>
  exact c6 h fun tg v p h=>aA h fun id q h=>and_ok h fun h1 h=>dR (P:=fun id i=>bv X n sc (.Assign [.Name id q] v p) (.own i l)) h1 fun x x1 x2=>hG h fun es ep h=>BF hok x1 x2 rfl (en F h).1
 |app i me=>
  refine ga h fun e p h=>bn h fun fn as ks cp h=>and_ok h fun h1 h=>aU h1 (aJ h fun o nm ap h=>aA h fun id np h=>bQ h fun a h=>and_ok h fun h1 h=>and_ok h fun h2 h=>and_ok h fun h3 h=>and_ok h fun h4 h=>and_ok h fun h5 h6=>?_)
  exact bA (P:=fun nm=>bv X n sc (.Expr (.Call (.Attribute (.Name id np) nm ap) [a] [] cp) p) (.app i me)) h1 (qI (P:=fun i=>bv X n sc _ (.app i me)) h2 fun v v1 v2=>BK hok v1 v2 (c7 (eW h3)).1 (F.1 _ _ _ h6) (bR h5) ⟨fun env w=>rfl,h4,JI rfl⟩)
 |ext i me=>
  refine ga h fun e p h=>bn h fun fn as ks cp h=>and_ok h fun h1 h=>aU h1 (aJ h fun o nm ap h=>aA h fun id np h=>bQ h fun a h=>and_ok h fun h1 h=>and_ok h fun h2 h=>and_ok h fun h3 h=>and_ok h fun h4 h=>and_ok h fun h5 h6=>?_)
  exact bA (P:=fun nm=>bv X n sc (.Expr (.Call (.Attribute (.Name id np) nm ap) [a] [] cp) p) (.ext i me)) h1 (qI (P:=fun i=>bv X n sc _ (.ext i me)) h2 fun v v1 v2=>BH hok v1 v2 (c7 (eW h3)).1 (F.1 _ _ _ h6) (bR h5) ⟨fun env w=>rfl,h4,JI rfl⟩)
 |asgT is l=>
  refine hH (P:=fun is=>bv X n sc t (.asgT is l)) h fun i j h=>hH (P:=fun l=>bv X n sc t (.asgT [i,j] l)) h fun m1 m2 h=>c6 h fun tg v p h=>d0 h fun xs c pt h=>hH h fun x y h=>aA h fun ix px h=>aA h fun iy py h=>d0 h fun es c' pv h=>hH h fun e1 e2 h=>
   and_ok h fun h1 h=>and_ok h fun h2 h=>and_ok h fun h3 h=>and_ok h fun h4 h=>and_ok h fun h5 h=>and_ok h fun h6 h=>and_ok h fun h7 h8=>?_
  refine dR (P:=fun ix i=>i≠j->bv X n sc (.Assign [.Tuple [.Name ix px,.Name iy py] c pt] (.Tuple [e1,e2] c' pv) p) (.asgT [i,j] [m1,m2])) h1 (fun v v1 v2=>?_) (ER h3)
  refine dR (P:=fun iy j=>v.slot≠j->bv X n sc (.Assign [.Tuple [.Name v.name px,.Name iy py] c pt] (.Tuple [e1,e2] c' pv) p) (.asgT [v.slot,j] [m1,m2])) h2 fun u u1 u2 hne=>?_
  exact yE hok v1 v2 rfl u1 u2 rfl hne (n4 (eV (bR h4) (F.1 _ _ _ h6) (eV (bR h5) (F.1 _ _ _ h7) jc))) h8
 |asgA o a me=>
  exact c6 h fun tg v p h=>aJ h fun o' nm q h=>and_ok h fun h1 h=>and_ok h fun h2 h=>and_ok h fun h3 h4=>bA (P:=fun nm=>bv X n sc (.Assign [.Attribute o' nm q] v p) (.asgA o a me)) h1 (yH K.G (F.1 _ _ _ h3) (F.1 _ _ _ h4) (cu h2))
 |asgI o i me=>
  exact c6 h fun tg v p h=>bW h fun o' i' q h=>and_ok h fun h1 h=>and_ok h fun h2 h=>and_ok h fun h3 h4=>yF (F.1 _ _ _ h2) (F.1 _ _ _ h3) (F.1 _ _ _ h4) (cu h1)
 |expr me=>exact ga h fun e p h=>and_ok h fun h1 h2=>yD (F.1 _ _ _ h2) (cu h1)
 |ret me=>exact eS h fun oe p h=>onSome_ok h fun e h=>BE (F.1 _ _ _ h)
 |retL l=>exact eS h fun oe p h=>onSome_ok h fun e h=>hG h fun es q h=>yA (en F h).1
 |raise me=>exact pO h fun oe oc p h=>and_ok h fun h1 h=>jd h1 (onSome_ok h fun e h=>uq K.G K.H (F.1 _ _ _ h))
 |ite c a b=>exact y7 h fun c' a' b' p h=>and_ok h fun h1 h=>and_ok h fun h2 h3=>BG (F.2 _ _ _ h1) (S _ _ _ hok h2) (S _ _ _ hok h3)
 |whl c b=>exact pK h fun c' b' el p h=>and_ok h fun h1 h=>aU h1 (and_ok h fun h2 h3=>BD (F.2 _ _ _ h2) (S _ _ _ hok h3))
 |for1 i it b=>
  exact nZ h fun tg it' b' el p h=>and_ok h fun h1 h=>aU h1 (aA h fun id q h=>and_ok h fun h1 h=>and_ok h fun h2 h=>and_ok h fun h3 h4=>dR (P:=fun id i=>bv X n sc (.For (.Name id q) it' b' [] p) (.for1 i it b)) h1 fun v v1 v2=>yC hok v1 v2 rfl (F.1 _ _ _ h3) (S _ _ _ hok h4) fun env x=>hO h2 env x)
 |for2 i j it b=>
  refine nZ h fun tg it' b' el p h=>and_ok h fun h1 h=>aU h1 (d0 h fun xs c pt h=>hH h fun x y h=>aA h fun ix px h=>aA h fun iy py h=>and_ok h fun h1 h=>and_ok h fun h2 h=>and_ok h fun h3 h=>and_ok h fun h4 h=>and_ok h fun h5 h6=>?_)
  refine dR (P:=fun ix i=>bv X n sc (.For (.Tuple [.Name ix px,.Name iy py] c pt) it' b' [] p) (.for2 i j it b)) h1 fun v v1 v2=>?_
  refine dR (P:=fun iy j=>bv X n sc (.For (.Tuple [.Name v.name px,.Name iy py] c pt) it' b' [] p) (.for2 v.slot j it b)) h2 fun u u1 u2=>?_
  exact yB hok v1 v2 rfl u1 u2 rfl (F.1 _ _ _ h5) (S _ _ _ hok h6) fun env x=>hO h4 env x
 |tryE b c hh=>
  refine nX h fun b' hs el fin p h=>and_ok h fun h1 h=>aU h1 (and_ok h fun h1 h=>aU h1 (bQ h fun hd h=>y8 h fun ty nm su hp h=>and_ok h fun h1 h=>jd h1 (onSome_ok h fun te h=>aA h fun x xp h=>onCons_ok h fun s su h=>and_ok h fun h1 h=>and_ok h fun h2 h=>and_ok h fun h3 h4=>?_)))
  exact have g:=ey K h2;yz K.G K.Gg K.H (S _ _ _ hok h1) (rM K h4) g.1 g.2.1 g.2.2 (JN h3)
 |tryN b=>exact nX h fun b' hs el fin p h=>and_ok h fun h1 h=>aU h1 (and_ok h fun h1 h=>aU h1 (onCons_ok h fun h0 hs h=>yy (S _ _ _ hok h)))
theorem xx{P:MS->Stmt->Bool}(hP:∀m t,P m t=true->bv X n sc t m):∀(ms:List MS) (ts:List Stmt),km P ms ts=true->bH X n sc ts ms
 |[],ts,h=>aU (P:=fun ts=>bH X n sc ts []) h yu
 |m::ms,ts,h=>onCons_ok (P:=fun ts=>bH X n sc ts (m::ms)) h fun t ts h=>and_ok h fun h1 h2=>uj (hP _ _ h1) (xx hP ms ts h2)
theorem oO(K:gj X n C):∀k,SOk X n (wK C k)
 |0=>fun _ _ _ _ h=>nomatch h
 |k+1=>fun ms sc ts hok h=>xx (fun m t h=>un K (jj K 40) (oO K k) hok h) ms ts h
theorem wJ(K:gj X n C)(ms:List MS)(sc:Sc)(ts:List Stmt)(hok:sc.Ok)(h:AP C ms sc ts=true):bH X n sc ts ms:=oO K 12 ms sc ts hok h
end
end
end
section
variable {U:Call} {W:Nat->Call} {n:Nat} {mu:List aa} {kv:V->List aa->Prop} {ke:Nat->List aa->Prop} {N:V} {T:List Tk} {r:Nat} {S:List Tk} {d:Int} {X Y:List Tk} {v w:V} {m b c H:Nat}
inductive Nd
 |hold (p:Prop)
 |ask (p:Prop)
 |look (mu:List aa) (j:Nat)
 |call (f:V) (l:List V) (mu:List aa)
 |test (b:Bool)
 |loop
 |same
 |no
noncomputable def sk(n:Nat):Pg->Pg:=let _:=@aS;Nat.rec (fun t=>t) (fun _ f t=>t.casesOn (fun _=>t) (fun _ _ _=>t) (fun _ _ _=>t) (fun b k=>cond b (f (k true)) (f (k false))) (fun _ _ _=>t) (fun _ _ _ _ _=>t) (fun _=>t) t) n
noncomputable def s4(t:Pg):Nd:=t.casesOn (fun p=>.hold p) (fun p _ _=>.ask p) (fun _ _ _=>.same) (fun b _=>.test b) (fun mu j _=>.look mu j) (fun f l mu _ _=>.call f l mu) (fun _=>.loop) .no
noncomputable def eF(t:Pg):Nd:=s4 (sk 40 t)
noncomputable def An{T:Type}(d:T)(a:Pg->T)(s:List LV->List LV->Pg->T)(ts:(Bool->Pg)->T)(l:(aa->Pg)->T)(c:(V->List aa->Pg)->(Nat->List aa->Pg)->T)(lp:(Nat->Pg)->T)(t:Pg):T:=let _:=@sk;t.casesOn (fun _=>d) (fun _ _ t=>a t) (fun x y t=>s x y t) (fun _ k=>ts k) (fun _ _ k=>l k) (fun _ _ _ k h=>c k h) (fun f=>lp f) d
noncomputable def nx(t:Pg):Pg:=An .no id (fun _ _ t=>t) (fun _=>.no) (fun _=>.no) (fun _ _=>.no) (fun _=>.no) (sk 40 t)
noncomputable def sl(t:Pg):List LV:=An [] (fun _=>[]) (fun a _ _=>a) (fun _=>[]) (fun _=>[]) (fun _ _=>[]) (fun _=>[]) (sk 40 t)
noncomputable def sr(t:Pg):List LV:=An [] (fun _=>[]) (fun _ a _=>a) (fun _=>[]) (fun _=>[]) (fun _ _=>[]) (fun _=>[]) (sk 40 t)
noncomputable def lk(t:Pg)(o:aa):Pg:=An .no id (fun _ _ t=>t) (fun _=>.no) (fun k=>k o) (fun _ _=>.no) (fun _=>.no) (sk 40 t)
noncomputable def kc(t:Pg)(v:V)(mu:List aa):Pg:=An .no id (fun _ _ t=>t) (fun _=>.no) (fun _=>.no) (fun k _=>k v mu) (fun _=>.no) (sk 40 t)
noncomputable def kh(t:Pg)(c:Nat)(mu:List aa):Pg:=An .no id (fun _ _ t=>t) (fun _=>.no) (fun _=>.no) (fun _ h=>h c mu) (fun _=>.no) (sk 40 t)
noncomputable def Eu(t:Pg)(n:Nat):Pg:=An .no id (fun _ _ t=>t) (fun _=>.no) (fun _=>.no) (fun _ _=>.no) (fun f=>f n) (sk 40 t)
noncomputable def ts(n:Nat)(t:Pg)(b:Bool):Pg:=An .no id (fun _ _ t=>t) (fun k=>k b) (fun _=>.no) (fun _ _=>.no) (fun _=>.no) (sk n t)
abbrev xpK(U:Call)(t:Pg)(v:V)(mu:List aa):Prop:=wp U (kc t v mu)
abbrev xpH(U:Call)(t:Pg)(c:Nat)(mu:List aa):Prop:=wp U (kh t c mu)
noncomputable def ps0(n:Nat):Nat->Pg->Pg:=Nat.rec (fun _ t=>t) (fun _ f m t=>m.casesOn t fun m=>t.casesOn (fun _=>t) (fun _ d u=>d.casesOn (fun _=>.no) fun _=>f m u) (fun _ _ _=>t) (fun b k=>cond b (f (m+1) (k true)) (f (m+1) (k false))) (fun _ _ _=>t) (fun _ _ _ _ _=>t) (fun _=>t) t) n
noncomputable def ps(m:Nat)(t:Pg):Pg:=ps0 60 m t
section
variable {t:Pg}
theorem iq{n:Nat}:∀{t:Pg},wp U (sk n t)->wp U t:=by
 induction n with
 |zero=>exact id
 |succ n ih=>
  intro t
  cases t with
  |test b k=>cases b<;>exact ih
  |_=>exact id
theorem x9{p:Prop}(h:p)(e:eF t=.hold p):wp U t:=by
 refine iq (n:=40) ?_;unfold eF at e;revert e;generalize sk 40 t=x;intro e;cases x<;>cases e;exact h
theorem A9{p:Prop}(h:p)(e:eF t=.ask p)(q:wp U (nx t)):wp U t:=by
 refine iq (n:=40) ?_;unfold eF at e;unfold nx at q;revert e q;generalize sk 40 t=x;intro e q;cases x<;>cases e;exact⟨h,q⟩
theorem xY(e:eF t=.same)(h:sl t=sr t)(q:wp U (nx t)):wp U t:=by
 refine iq (n:=40) ?_;unfold eF at e;unfold nx at q;unfold sl sr at h;revert e h q;generalize sk 40 t=x;intro e h q;cases x<;>cases e;exact⟨h,q⟩
theorem x8{mu:List aa}{j:Nat}{o:aa}(h:mu[j]? =some o)(e:eF t=.look mu j)(q:wp U (lk t o)):wp U t:=by
 refine iq (n:=40) ?_;unfold eF at e;unfold lk at q;revert e q;generalize sk 40 t=x;intro e q;cases x<;>cases e;exact⟨o,h,q⟩
theorem ya{f:V}{l:List V}(mu:List aa)(h:U f l mu (xpK U t) (xpH U t))(e:eF t=.call f l mu):wp U t:=by
 refine iq (n:=40) ?_;unfold eF at e;unfold xpK xpH kc kh at h;revert h e;generalize sk 40 t=x;intro h e;cases x<;>cases e;exact h
theorem A8{n:Nat}:∀{m:Nat} {t:Pg},wp U (ps0 n m t)->wp U t:=by
 induction n with
 |zero=>exact id
 |succ n ih=>
  intro m t
  cases m with
  |zero=>exact id
  |succ m=>
   cases t with
   |test b k=>cases b<;>exact ih
   |@ask p d t=>
    cases d with
    |isTrue p=>exact fun h=>⟨p,ih h⟩
    |isFalse p=>exact False.elim
   |_=>exact id
theorem DE(m:Nat)(q:wp U (ps m t)):wp U t:=A8 q
theorem xZ(n:Nat)(e:eF t=.loop)(q:wp U (Eu t n)):wp U t:=by
 refine iq (n:=40) ?_;unfold eF at e;unfold Eu at q;revert e q;generalize sk 40 t=x;intro e q;cases x<;>cases e;exact⟨n,q⟩
theorem xX{b c:Bool}(n:Nat)(h:b=c)(e:s4 (sk n t)=.test b)(q:wp U (ts n t c)):wp U t:=by
 refine iq (n:=n) ?_;subst h;unfold ts at q;revert e q;generalize sk n t=x;intro e q;cases x<;>cases e;exact q
@[irreducible] noncomputable def wP (U:Call)(t:Pg):Prop:=wp U t
theorem tP:@wP=@wp:=by funext U t;unfold wP;rfl
abbrev xS(U:Call)(t:Pg)(v:V)(mu:List aa):Prop:=wP U (kc t v mu)
abbrev Gl(U:Call)(t:Pg)(c:Nat)(mu:List aa):Prop:=wP U (kh t c mu)
theorem eK(h:wP U t):wp U t:=tP▸h
theorem gm(h:wp U t):wP U t:=tP▸h
theorem DH{n:Nat}(h:wP U (sk n t)):wP U t:=gm (iq (eK h))
theorem i6{p:Prop}(h:p)(e:eF t=.hold p):wP U t:=gm (x9 h e)
theorem wp_ask{p:Prop}(h:p)(e:eF t=.ask p)(q:wP U (nx t)):wP U t:=gm (A9 h e (eK q))
theorem qG(e:eF t=.same)(h:sl t=sr t)(q:wP U (nx t)):wP U t:=gm (xY e h (eK q))
theorem yc{mu:List aa}{j:Nat}{o:aa}(h:mu[j]? =some o)(e:eF t=.look mu j)(q:wP U (lk t o)):wP U t:=gm (x8 h e (eK q))
theorem lP{f:V}{l:List V}(mu:List aa)(h:U f l mu (xS U t) (Gl U t))(e:eF t=.call f l mu):wP U t:=gm (ya mu (by unfold xS Gl at h;rw[tP]at h;exact h) e)
theorem ai(m:Nat)(q:wP U (ps m t)):wP U t:=gm (DE m (eK q))
theorem DG(m:Nat)(e:eF (ps m t)=.same)(h:sl (ps m t)=sr (ps m t))(q:wP U (nx (ps m t))):wP U t:=ai m (qG e h q)
theorem aw(n:Nat){t':Pg}(q:wP U t')(e:sk n t=t'):wP U t:=DH (e▸q)
theorem yb(n:Nat)(e:eF t=.loop)(q:wP U (Eu t n)):wP U t:=gm (xZ n e (eK q))
theorem dQ{b c:Bool}(n:Nat)(h:b=c)(e:s4 (sk n t)=.test b)(q:wP U (ts n t c)):wP U t:=gm (xX n h e (eK q))
theorem wk{p:Prop}(h:p)(e:eF t=.hold p:=by kernel_rfl):wP U t:=i6 h e
theorem wa{p:Prop}(h:p)(q:wP U (nx t))(e:eF t=.ask p:=by kernel_rfl):wP U t:=wp_ask h e q
theorem wl{mu:List aa}{j:Nat}{o:aa}(h:mu[j]? =some o)(q:wP U (lk t o))(e:eF t=.look mu j:=by kernel_rfl):wP U t:=yc h e q
theorem wc{f:V}{l:List V}{mu:List aa}(h:U f l mu (xS U t) (Gl U t))(e:eF t=.call f l mu:=by kernel_rfl):wP U t:=lP mu h e
theorem wv{f:V}{l:List V}(mu:List aa)(h:U f l mu (xS U t) (Gl U t))(e:eF t=.call f l mu:=by kernel_rfl):wP U t:=lP mu h e
theorem wq{t':Pg}(q:wP U t')(e:sk 0 t=t':=by kernel_rfl):wP U t:=aw 0 q e
theorem wr(n:Nat)(q:wP U (Eu t n))(e:eF t=.loop:=by kernel_rfl):wP U t:=yb n e q
theorem ws(m:Nat)(q:wP U (nx (ps m t)))(e:eF (ps m t)=.same:=by kernel_rfl)(h:sl (ps m t)=sr (ps m t):=by kernel_rfl):wP U t:=DG m e h q
theorem wt{b c:Bool}(h:b=c)(q:wP U (ts 0 t c))(e:s4 (sk 0 t)=.test b:=by kernel_rfl):wP U t:=dQ 0 h e q
end
noncomputable def pick(i:Nat):Option dm:=rows.find? (·.num==i)
structure ac(W:Nat->Call):Prop where
 le:∀{n n':Nat} {f:V} {args:List V} {mu:List aa} {kv:V->List aa->Prop} {ke:Nat->List aa->Prop},n<=n'->W n f args mu kv ke->W n' f args mu kv ke
 mono:∀{n:Nat} {f:V} {args:List V} {mu:List aa} {kv kv':V->List aa->Prop} {ke ke':Nat->List aa->Prop},W n f args mu kv ke->(∀v mu',kv v mu'->kv' v mu')->(∀c mu',ke c mu'->ke' c mu')->W n f args mu kv' ke'
 fn:∀{i:Nat} {r:dm},pick i=some r->∀{n:Nat} (k:Nat) {args:List V} {mu:List aa} {kv:V->List aa->Prop} {ke:Nat->List aa->Prop},args.length<=r.npar->r.npar<=args.length+r.dflt.length->
  wp (W n) (aS r.body (ax kv) (aG ke) (init (args++r.dflt.drop (args.length+r.dflt.length - r.npar)) k mu))->W (n+1) (.fn i) args mu kv ke
 lam0:∀{n:Nat} {a c:V} {mu:List aa} {kv:V->List aa->Prop} {ke:Nat->List aa->Prop},wp (W n) (aS l_0 (ax kv) (aG ke) (init [a,c] 0 mu))->W (n+1) (.lam 0 [c]) [a] mu kv ke
 lam1:∀{n:Nat} {a b c:V} {mu:List aa} {kv:V->List aa->Prop} {ke:Nat->List aa->Prop},wp (W n) (aS l_1 (ax kv) (aG ke) (init [a,b,c] 0 mu))->W (n+1) (.lam 1 [c]) [a,b] mu kv ke
 tok:∀{n:Nat} {a b:List Nat} {mu:List aa} {kv:V->List aa->Prop} {ke:Nat->List aa->Prop},kv (.ins 3 [(.kind,.str a),(.worth,.str b),(.at_,.tup [.int 0,.int 0]),(.isInA,.bool false)]) mu->W (n+2) (.cls 3) [.str a,.str b] mu kv ke
 cr:∀{n:Nat} {a b c:V} {mu:List aa} {kv:V->List aa->Prop} {ke:Nat->List aa->Prop},kv (.obj mu.length) (mu++[.ins 4 [(.reader,a),(.isNamed,b),(.depth,c),(.last,.none)]])->W (n+2) (.cls 4) [a,b,c] mu kv ke
 rd:∀{n:Nat} {a:V} {mu:List aa} {kv:V->List aa->Prop} {ke:Nat->List aa->Prop},kv (.obj mu.length) (mu++[.ins 5 [(.tokens,a),(.at_,.int 0),(.named,.dS [])]])->W (n+2) (.cls 5) [a] mu kv ke
 exc:∀{n:Nat} {args:List V} {mu:List aa} {kv:V->List aa->Prop} {ke:Nat->List aa->Prop},args.length=1∨args.length=2->kv (.obj mu.length) (mu++[.ins 2 []])->W (n+2) (.cls 2) args mu kv ke
noncomputable def xu(i m:Nat):Bool:=match pick i with
 |some r=>Nat.ble m r.npar&&Nat.ble r.npar (m+r.dflt.length)
 |none=>false
noncomputable def kF(i k:Nat)(args:List V)(kv:V->List aa->Prop)(ke:Nat->List aa->Prop)(mu:List aa):Pg:=match pick i with
 |some r=>aS r.body (ax kv) (aG ke) (init (args++r.dflt.drop (args.length+r.dflt.length - r.npar)) k mu)
 |none=>.no
section
theorem ac.go(R:ac W)(i k:Nat){args:List V}(hn:1<=n)(a:xu i args.length=true)(q:wP (W (n - 1)) (kF i k args kv ke mu)):W n (.fn i) args mu kv ke:=by
 obtain⟨m,rfl⟩:∃m,n=m+1:=⟨n - 1,(Nat.sub_add_cancel hn).symm⟩
 unfold xu at a
 replace q:=eK q
 unfold kF at q
 split at a
 ·rename_i r e
  rw[e]at q
  exact R.fn e k (JI (JP.mp a).1) (JI (JP.mp a).2) q
 ·cases a
theorem lv{a b:Nat}(h:b<=n)(e:Nat.ble (a+1) b=true:=by rfl):a<=n - 1:=Kx (JH (JI e) h)
theorem CC{a b:Nat}(h:b<=n)(e:Nat.ble (a+2) b=true:=by rfl):a<=n - 1 - 1:=Kx (Kx (JH (JI e) h))
theorem Hs{a b:Nat}(h:b<=n)(e:Nat.ble (a+3) b=true:=by rfl):a<=n - 1 - 1 - 1:=Kx (CC h e)
theorem lw{a b:Nat}(h:b<=n)(e:Nat.ble a b=true:=by rfl):a<=n:=JH (JI e) h
end
noncomputable def HQ(o:Option MS)(k:KF)(ke:KE)(st:St):Pg:=match o with
 |some s=>ex s k ke st
 |none=>.no
theorem wp_seqQ{U:Call}(i:Nat)(Q:St->Prop){b:List MS}{kv:V->List aa->Prop}{ke:KE}{st:St}(q:∀st',Q st'->wP U (aS (b.drop (i+1)) (ax kv) ke st'))
  (h:∀K:KF,(∀st',Q st'->wP U (K .next st'))->(∀v st,K (.ret v) st=.hold (kv v st.mu))->wP U (HQ b[i]? K ke st)):wP U (aS (b.drop i) (ax kv) ke st):=by
 cases e:b[i]? with
 |none=>have:=h (fun fl st=>kJ (ax kv) (fun st=>aS (b.drop (i+1)) (ax kv) ke st) fl st) q fun _ _=>rfl;rw[e]at this;exact(eK this).elim
 |some s=>
  obtain⟨l,rfl⟩:=JT.mp e
  rw[Ln l]
  have:=h (kJ (ax kv) (fun st=>aS (b.drop (i+1)) (ax kv) ke st)) q fun _ _=>rfl
  rw[e]at this
  exact this
theorem cO{U:Call}(i:Nat){b:List MS}{kv:V->List aa->Prop}{ke:KE}{st st':St}(q:wP U (aS (b.drop (i+1)) (ax kv) ke st'))
  (h:∀K:KF,wP U (K .next st')->(∀v st,K (.ret v) st=.hold (kv v st.mu))->wP U (HQ b[i]? K ke st)):wP U (aS (b.drop i) (ax kv) ke st):=
 wp_seqQ i (·=st') (fun _ e=>e▸q) fun K hK hR=>h K (hK _ rfl) hR
noncomputable def msE{T:Type}(d:T)(w:ME->List MS->T)(f:List MS->T)(s:MS):T:=s.casesOn (fun _ _=>d) (fun _ _=>d) (fun _ _=>d) (fun _ _=>d) (fun _ _=>d) (fun _ _=>d) (fun _ _ _=>d) (fun _ _ _=>d) (fun _=>d) (fun _=>d) (fun _=>d) (fun _=>d) (fun _ _ _=>d) (fun c b=>w c b) (fun _ _ b=>f b) (fun _ _ _ b=>f b) (fun _ _ _=>d) (fun _=>d)
noncomputable def fR(o:Option MS)(k:KF):Nat->St->Pg:=o.elim (fun _ _=>.no) (msE (fun _ _=>.no) (fun c b=>qL (fun again st=>ev c (.b fun t st=>cond t (aS b (kJ k again) fQ st) (k .next st)) fQ st)) fun _ _ _=>.no)
noncomputable def Fi(o:Option MS):List MS:=o.elim [] (msE [] (fun _ _=>[]) id)
noncomputable def HY(v:V):List (List Nat×V):=(asDS v).getD []
theorem t4(R:ac W){u s:Int}(hn:1<=n)(hk:kv (.tup [.int (-u),.int s]) mu):W n (.fn 4) [.tup [.int u,.int s]] mu kv ke:=
 R.go 4 1 hn rfl (wk hk)
theorem t3(R:ac W){u s:Int}(hn:1<=n)(h:s=0∨(0 < s/\u % 10≠0))(hk:kv (.tup [.int u,.int s]) mu):W n (.fn 3) [.int u,.int s] mu kv ke:=by
 refine R.go 3 1 hn rfl ?_
 have h0:decide (s < 0)=false:=Kg (h.elim (fun e=>e▸Int.lt_irrefl 0) fun q=>Int.lt_asymm q.1)
 refine wt h0 (wr 1 ?_)
 rcases h with rfl|⟨h1,h2⟩
 ·exact wk hk
 ·exact wt (Kt h1) (wp_ask (p:=(0:Int) < 10) (by decide) (by kernel_rfl) (wt (Kg h2) (wk hk)))
noncomputable def All{α:Type}(P:α->Prop):List α->Prop
 |[]=>True
 |a::l=>P a/\All P l
theorem All.mem{α:Type}{P:α->Prop}{a:α}:∀{l:List α},All P l->a∈l->P a
 |[],_,m=>absurd m Kk
 |_::_,h,m=>(JY.mp m).elim (fun e=>e▸h.1) (All.mem h.2)
noncomputable def we:List (List Nat×Int×Nat):=[([48],0,0),([53],5,0),([51],3,0),([49,46,50,53],125,2),([48,46,53],5,1),([55,48],70,0),([49],1,0),([50],2,0),([52],4,0),([54],6,0),([55],7,0),([56],8,0),([57],9,0)]
def pd(x:List Nat)(u:Int)(s:Nat):Prop:=(x,u,s)∈we
noncomputable def Fj(x:List Nat):List Nat:=x.filter fun c=>Nat.blt c 46||Nat.blt 46 c
theorem t8(R:ac W){x:List Nat}{u:Int}{s:Nat}(hn:1<=n)(h:pd x u s)(hk:kv (.int u) mu):W n (.fn 8) [.str (Fj x)] mu kv ke:=by
 refine R.go 8 2 hn rfl (All.mem (a:=(x,u,s)) (l:=we) (P:=fun t=>kv (.int t.2.1) mu->wP (W (n - 1)) (kF 8 2 [.str (Fj t.1)] kv ke mu)) ?_ h hk)
 iterate 13 refine⟨fun hk=>ai 9 (wk hk),?_⟩
 exact trivial
theorem HK{x:List Nat}{u:Int}{s:Nat}(h:pd x u s):(s:Int)=0∨(0 < (s:Int)/\u % 10≠0):=
 (by decide:∀t∈we,(t.2.2:Int)=0∨(0 < (t.2.2:Int)/\t.2.1 % 10≠0)) _ h
theorem t9(R:ac W){x:List Nat}{u:Int}{s:Nat}(hn:2<=n)(h:pd x u s)(hk:kv (.tup [.int u,.int s]) mu):W n (.fn 9) [.str x] mu kv ke:=by
 have q:All (fun t:List Nat×Int×Nat=>∀(kv:V->List aa->Prop),pd t.1 t.2.1 t.2.2->kv (.tup [.int t.2.1,.int t.2.2]) mu->wP (W (n - 1)) (kF 9 6 [.str t.1] kv ke mu)) we:=by
  iterate 13 refine⟨fun kv m hk=>ai 60 (wv mu (t8 R (lv hn) m (ai 60 (wv mu (t3 R (lv hn) (HK m) (wk hk)))))),?_⟩
  exact trivial
 exact R.go 9 6 (lw hn) rfl (q.mem h kv h hk)
noncomputable def Cs:List (Int×Nat×Bool×List Nat):=[(0,0,false,[48]),(5,0,false,[53]),(-3,0,true,[51]),(125,2,false,[49,46,50,53]),(-5,1,true,[48,46,53]),(70,0,false,[55,48]),(1,0,false,[49]),(2,0,false,[50]),(3,0,false,[51]),(4,0,false,[52]),(6,0,false,[54]),(7,0,false,[55]),(8,0,false,[56]),(9,0,false,[57])]
abbrev Jv(u:Int)(s:Nat)(ng:Bool)(fg:List Nat):Prop:=(u,s,ng,fg)∈Cs
structure Nu where
 u:Int
 s:Nat
 ng:Bool
 fg:List Nat
 ok:Jv u s ng fg
noncomputable def n7:List (List Nat):=[[65],[66,45,49],[73,84,69,77],[88,57],[73],[71,49],[71,50],[73,83,45,79,78]]
abbrev F7(s:List Nat):Prop:=s∈n7
structure i0 where
 s:List Nat
 ok:F7 s
inductive Sub
 |num (n:Nu) (h:n.ng=false) (c:Nat) (hc:n.fg=[c])
 |I
structure Rf where
 nm:i0
 q:List i0
 sub:List Sub
 part:Option (Sub×Option Sub)
 hq:q.length<=2
 hs:sub.length<=3
noncomputable def Bg:List (List Nat):=[[65,66],[120],[51],[122,101,114,111],[120,121]]
noncomputable def AH:List (List Nat×List Nat):=[([90,69,82,79],[90,69,82,79]),([83,80,65,67,69],[83,80,65,67,69]),([72,73,71,72],[72,73,71,72,45,86,65,76,85,69]),([76,79,87],[76,79,87,45,86,65,76,85,69]),([81,85,79,84,69],[81,85,79,84,69])]
abbrev gS(s:List Nat):Prop:=s∈Bg
abbrev qC(s t:List Nat):Prop:=(s,t)∈AH
inductive Op
 |rf (r:Rf)
 |nu (n:Nu)
 |tx (t:List Nat) (h:gS t)
 |fg (a b:List Nat) (h:qC a b)
 |al (t:List Nat) (h:gS t)
inductive Ex
 |op (o:Op)
 |add (a b:Op)
 |mul (a:Op)
 |sub (a b:Op)
noncomputable def uQ(nm:List Nat)(q:List i0)(sub:List V)(part:V):V:=.tup [.str [114,101,102],.str nm,.tup (q.map fun g=>.str g.s),.tup sub,part]
noncomputable def Nu.enc(n:Nu):V:=.tup [.str [110,117,109,98,101,114],.tup [.int n.u,.int n.s]]
noncomputable def Sub.enc:Sub->V
 | .num n _ _ _=>n.enc
 | .I=>uQ [73] [] [] .none
noncomputable def fV:Option (Sub×Option Sub)->V
 |none=>.none
 |some (b,none)=>.tup [b.enc,.none]
 |some (b,some l)=>.tup [b.enc,l.enc]
noncomputable def Rf.enc(r:Rf):V:=uQ r.nm.s r.q (r.sub.map Sub.enc) (fV r.part)
noncomputable def Op.enc:Op->V
 | .rf r=>r.enc
 | .nu n=>n.enc
 | .tx t _=>.tup [.str [116,101,120,116],.bytes t]
 | .fg a _ _=>.tup [.str [102,105,103,117,114,101],.str a]
 | .al t _=>.tup [.str [97,108,108],.bytes t]
noncomputable def nS:V:=uQ [65] [] [] .none
noncomputable def Ex.enc:Ex->V
 | .op o=>o.enc
 | .add a b=>.tup [.str [43],a.enc,b.enc]
 | .mul a=>.tup [.str [42],a.enc,.tup [.str [110,101,103],nS]]
 | .sub a b=>.tup [.str [45],a.enc,.tup [.str [43],b.enc,a.enc]]
noncomputable def Nu.sh(n:Nu):List Nat:=if n.ng then 45::n.fg else n.fg
noncomputable def Sub.sh:Sub->List Nat
 | .num _ _ c _=>[c]
 | .I=>[73]
noncomputable def dW:List Sub->List Nat
 |[]=>[]
 |l=>[32,40]++aK [32] (l.map Sub.sh)++[41]
noncomputable def cq:Option (Sub×Option Sub)->List Nat
 |none=>[]
 |some (b,none)=>[32,40]++b.sh++[32,58]++[]++[41]
 |some (b,some l)=>[32,40]++b.sh++[32,58]++([32]++l.sh)++[41]
noncomputable def Rf.sh(r:Rf):List Nat:=aK [32,79,70,32] (r.nm.s::r.q.map (·.s))++dW r.sub++cq r.part
noncomputable def Op.sh:Op->List Nat
 | .rf r=>r.sh
 | .nu n=>n.sh
 | .tx t _=>[34]++t++[34]
 | .fg _ b _=>b
 | .al t _=>[65,76,76,32]++([34]++t++[34])
noncomputable def Ex.sh:Ex->List Nat
 | .op o=>o.sh
 | .add a b=>a.sh++([32]++[43]++[32]++b.sh)
 | .mul a=>a.sh++([32]++[42]++[32]++[45,32,65])
 | .sub a b=>a.sh++([32]++[45]++[32]++([40]++(b.sh++([32]++[43]++[32]++a.sh))++[41]))
noncomputable def Sub.ch:Sub->Nat
 | .num _ _ c _=>c
 | .I=>73
theorem Sub.sh_eq(a:Sub):a.sh=[a.ch]:=by cases a<;>rfl
theorem Nu.far(n:Nu):subAt n.fg [40,43,45]=false:=(by decide:∀t∈Cs,subAt t.2.2.2 [40,43,45]=false) _ n.ok
theorem Sub.ch_ok(a:Sub):subAt [a.ch] [40,43,45]=false:=by
 cases a with
 |I=>rfl
 |num n h c hc=>exact hc▸n.far
theorem i0.len(g:i0):g.s.length<=5:=(by decide:∀t∈n7,t.length<=5) _ g.ok
theorem Nu.len(g:Nu):g.fg.length<=4:=(by decide:∀t∈Cs,t.2.2.2.length<=4) _ g.ok
theorem Nu.neg(g:Nu):decide (g.u < 0)=g.ng:=(by decide:∀t∈Cs,decide (t.1 < 0)=t.2.2.1) _ g.ok
theorem gS.len{s:List Nat}(h:gS s):s.length<=4:=(by decide:∀t∈Bg,t.length<=4) _ h
theorem qC.len{s t:List Nat}(h:qC s t):t.length<=10:=(by decide:∀t∈AH,t.2.length<=10) (s,t) h
theorem Nu.lenS(g:Nu):g.sh.length<=5:=by
 unfold Nu.sh
 cases g.ng
 ·exact J1 g.len
 ·exact JW g.len
theorem Sub.len(g:Sub):g.sh.length<=4:=g.sh_eq▸(by decide:1<=4)
theorem no4{n:Nat}:¬n+4<=3:=(by exact Mm (lin [_] [] 1 (.a (.n 3) (.n 1)) (.a (.v 0) (.n 4)) rfl))
theorem no3{n:Nat}:¬n+3<=2:=(by exact Mm (lin [_] [] 1 (.a (.n 2) (.n 1)) (.a (.v 0) (.n 3)) rfl))
theorem cL{s:List Nat}{a:Nat}:∀{l:List (List Nat)},(∀x∈l,x.length<=a)->aW s l<=l.length*(a+s.length)
 |[],_=>by unfold aW;simp
 |x::l,h=>by
  have i:=cL (s:=s) (l:=l) fun x m=>h x (List.mem_cons_of_mem _ m)
  have j:=h x List.mem_cons_self
  unfold aW at i ⊢
  rw[Kq,List.sum_cons,KC,Nat.succ_mul,Nat.succ_mul]
  exact lin [_,_,_,_,_,_] [(1,.a (.v 0) (.v 1),.v 2),(1,.v 3,.v 4)] 1 (.a (.a (.v 3) (.v 0)) (.a (.v 1) (.v 5))) (.a (.v 2) (.a (.v 4) (.v 5))) rfl i j
theorem cy(s:List Nat):∀l:List (List Nat),(aK s l).length<=aW s l
 |[]=>KD _
 |[x]=>by unfold aK aW;simp
 |x::y::r=>by
  have i:=cy s (y::r)
  unfold aW at i ⊢
  unfold aK
  rw[Kq,List.sum_cons,KC,Nat.succ_mul,JU,JU]
  exact lin [_,_,_,_,_] [(1,.v 0,.a (.v 1) (.v 2))] 1 (.a (.a (.v 3) (.v 4)) (.v 0)) (.a (.a (.v 3) (.v 1)) (.a (.v 2) (.v 4))) rfl i
theorem ap{x y:List Nat}{a b:Nat}(h:x.length<=a)(k:y.length<=b):(x++y).length<=a+b:=JU▸KO h k
theorem ln(x:List Nat):x.length<=x.length:=JL _
theorem vI{s:List Nat}{a m:Nat}{l:List (List Nat)}(h:∀x∈l,x.length<=a)(k:l.length<=m):(aK s l).length<=m*(a+s.length):=
 JH (cy _ _) (JH (cL h) (KY _ k))
theorem lX(l:List Sub)(h:l.length<=3):(dW l).length<=20:=by
 cases l with
 |nil=>exact KD _
 |cons x l=>
  refine JH (ap (ap (ln [32,40]) (vI (a:=4) (m:=3) (fun y m=>?_) (JH (JZ (JQ _)) h))) (ln [41])) (by decide)
  obtain⟨z,_,rfl⟩:=J5.mp m
  exact z.len
theorem yV(p:Option (Sub×Option Sub)):(cq p).length<=20:=by
 match p with
 |none=>exact KD _
 |some (b,none)=>exact JH (ap (ap (ap (ap (ln [32,40]) b.len) (ln [32,58])) (ln [])) (ln [41])) (by decide)
 |some (b,some l)=>exact JH (ap (ap (ap (ap (ln [32,40]) b.len) (ln [32,58])) (ap (ln [32]) l.len)) (ln [41])) (by decide)
theorem Rf.nmT(r:Rf):aW [32,79,70,32] (r.nm.s::r.q.map (·.s))<=27:=by
 refine JH (cL (a:=5) fun x m=>?_) (KY 9 (m:=3) (JW (JH (JZ (JQ _)) r.hq)))
 rcases JY.mp m with rfl|m
 ·exact r.nm.len
 ·obtain⟨g,_,rfl⟩:=J5.mp m
  exact g.len
theorem Rf.len(r:Rf):r.sh.length<=70:=JH (ap (ap (JH (cy _ _) r.nmT) (lX r.sub r.hs)) (yV r.part)) (by decide)
theorem Op.len(o:Op):o.sh.length<=70:=by
 cases o with
 |rf r=>exact r.len
 |nu n=>exact JH n.lenS (by decide)
 |tx t h=>exact JH (ap (ap (ln [34]) h.len) (ln [34])) (by decide)
 |fg a b h=>exact JH h.len (by decide)
 |al t h=>exact JH (ap (ln [65,76,76,32]) (ap (ap (ln [34]) h.len) (ln [34]))) (by decide)
theorem Ex.len(e:Ex):e.sh.length<=300:=by
 cases e with
 |op o=>exact JH o.len (by decide)
 |add a b=>exact JH (ap a.len (ap (ln ([32]++[43]++[32])) b.len)) (by decide)
 |mul a=>exact JH (ap a.len (ln ([32]++[42]++[32]++[45,32,65]))) (by decide)
 |sub a b=>exact JH (ap a.len (ap (ln ([32]++[45]++[32])) (ap (ap (ln [40]) (ap b.len (ap (ln ([32]++[43]++[32])) a.len))) (ln [41])))) (by decide)
theorem ft{l l':List Nat}(hk:kv (.str l') mu)(h:l=l'):kv (.str l) mu:=h▸hk
theorem al{x y a b:Nat}(h:x<=a)(k:y<=b)(e:Nat.ble (a+b) lim=true):x+y<=lim:=JH (KO h k) (JI e)
noncomputable def Hp(b:Bool)(s:List Nat):List Nat:=if b then 45::s else s
theorem t10(R:ac W)(x:Nu)(hn:1<=n)(hk:kv (.str x.sh) mu):W n (.fn 10) [.tup [.int x.u,.int x.s]] mu kv ke:=by
 have q:All (fun t:Int×Nat×Bool×List Nat=>kv (.str (Hp t.2.2.1 t.2.2.2)) mu->wP (W (n - 1)) (kF 10 1 [.tup [.int t.1,.int t.2.1]] kv ke mu)) Cs:=by
  iterate 14 refine⟨fun hk=>ai 60 (wk hk),?_⟩
  exact trivial
 have z:=q.mem x.ok
 exact R.go 10 1 hn rfl (z hk)
theorem D4(R:ac W)(x:List Nat)(hx:gS x)(hn:1<=n)(hk:kv (.str ([34]++x++[34])) mu):W n (.fn 13) [.str x] mu kv ke:=by
 have q:All (fun t:List Nat=>kv (.str ([34]++t++[34])) mu->wP (W (n - 1)) (kF 13 1 [.str t] kv ke mu)) Bg:=by
  iterate 5 refine⟨fun hk=>ai 60 (wk hk),?_⟩
  exact trivial
 have z:=q.mem hx
 exact R.go 13 1 hn rfl (z hk)
theorem t21(R:ac W)(x:List Nat)(hx:gS x)(hn:2<=n)(hk:kv (.str ([34]++x++[34])) mu):W n (.fn 21) [.bytes x] mu kv ke:=by
 have q:All (fun t:List Nat=>gS t->kv (.str ([34]++t++[34])) mu->wP (W (n - 1)) (kF 21 2 [.bytes t] kv ke mu)) Bg:=by
  refine⟨fun m hk=>?_,fun m hk=>?_,fun m hk=>?_,fun m hk=>?_,fun m hk=>?_,trivial⟩
  ·exact ws 2 (ws 1 (ai 1 (wv mu (D4 R _ m (lv hn) (wk hk)))))
  ·exact ws 2 (ai 1 (wv mu (D4 R _ m (lv hn) (wk hk))))
  ·exact ws 2 (ai 1 (wv mu (D4 R _ m (lv hn) (wk hk))))
  ·exact ws 2 (ws 1 (ws 1 (ws 1 (ai 1 (wv mu (D4 R _ m (lv hn) (wk hk)))))))
  ·exact ws 2 (ws 1 (ai 1 (wv mu (D4 R _ m (lv hn) (wk hk)))))
 have z:=q.mem hx
 exact R.go 21 2 (lw hn) rfl (z hx hk)
noncomputable def Gr:Ex->Int
 | .op (.nu n)=>if n.ng then 3 else 5
 | .op _=>5
 | .add _ _=>1
 | .sub _ _=>1
 | .mul _=>2
theorem uc(R:ac W)(o:Op)(hn:1<=n)(hk:kv (.int (Gr (.op o))) mu):W n (.fn 33) [o.enc] mu kv ke:=by
 refine R.go 33 1 hn rfl ?_
 cases o with
 |nu x=>
  have hk:kv (.int (if x.ng then 3 else 5)) mu:=hk
  refine dQ 2 x.neg (by kernel_rfl) ?_
  revert hk
  cases x.ng<;>exact fun hk=>wk hk
 |_=>exact wk hk
theorem Bs(R:ac W)(a:V)(hn:1<=n)(hk:kv (.int 3) mu):W n (.fn 33) [.tup [.str [110,101,103],a]] mu kv ke:=
 R.go 33 1 hn rfl (wk hk)
theorem Bt(R:ac W)(a b:V)(hn:1<=n)(hk:kv (.int 1) mu):W n (.fn 33) [.tup [.str [43],a,b]] mu kv ke:=
 R.go 33 1 hn rfl (wk hk)
theorem Sub.num_sh{x:Nu}{c:Nat}(h:x.ng=false)(hc:x.fg=[c]):x.sh=[c]:=by unfold Nu.sh;rw[h,hc];rfl
theorem G2(R:ac W)(hn:1<=n)(hk:kv (.str [73]) mu):W n (.fn 23) [uQ [73] [] [] .none,.fn 35] mu kv ke:=
 R.go 23 3 hn rfl (ai 60 (wk hk))
theorem Bu(R:ac W)(a:Sub)(hn:2<=n)(hk:kv (.str a.sh) mu):W n (.fn 24) [a.enc,.fn 35] mu kv ke:=by
 refine R.go 24 1 (lw hn) rfl ?_
 cases a with
 |num x h c hc=>
  refine wv mu (t10 R x (lv hn) ?_)
  exact i6 (ft hk (Sub.num_sh h hc)) rfl
 |I=>
  exact wv mu (G2 R (lv hn) (wk hk))
theorem lV(R:ac W)(a:Sub)(hn:3<=n)(hk:kv (.str a.sh) mu):W n (.fn 35) [a.enc] mu kv ke:=by
 refine R.go 35 2 (lw hn) rfl ?_
 have e:=fun{kv:V->List aa->Prop} {ke:Nat->List aa->Prop}=>Bu (n:=n - 1) (mu:=mu) (kv:=kv) (ke:=ke) R a (lv hn)
 cases a<;>exact wr 1 (wv mu (e (ai 60 (wk hk))))
theorem sB:∀l:List Sub,l≠[]->dW l=[32,40]++aK [32] (l.map fun a=>[a.ch])++[41]
 |[],h=>absurd rfl h
 |a::l,_=>congrArg (fun z=>[32,40]++aK [32] z++[41]) (Ma fun x _=>x.sh_eq)
theorem t22(R:ac W)(l:List Sub)(h0:l≠[])(h3:l.length<=3)(hn:4<=n)(hk:kv (.str (dW l)) mu):W n (.fn 22) [.tup (l.map Sub.enc),.fn 35] mu kv ke:=by
 refine R.go 22 4 (lw hn) rfl ?_
 have c (x:Sub) {kv:V->List aa->Prop} {ke:Nat->List aa->Prop} (hk:kv (.str [x.ch]) mu):W (n - 1) (.fn 35) [x.enc] mu kv ke:=lV R x (lv hn) (ft hk x.sh_eq)
 rw[sB l h0]at hk
 cases l with
 |nil=>exact absurd rfl h0
 |cons x l=>cases l with
  |nil=>exact ai 1 (wc (c x (ws 0 (ai 60 (wk hk)))))
  |cons y l=>cases l with
   |nil=>
    refine ai 1 (wc (c x (ws 0 (wc (c y (ws 0 (ai 2 (wt y.ch_ok ?_))))))))
    exact ws 0 (ai 60 (wk hk))
   |cons z l=>cases l with
    |nil=>
     refine ai 1 (wc (c x (ws 0 (wc (c y (ws 0 (wc (c z (ws 0 (ai 2 (wt y.ch_ok ?_)))))))))))
     exact ws 0 (wt z.ch_ok (ws 0 (ai 60 (wk hk))))
    |cons=>exact absurd h3 no4
theorem Sub.enc_tup(a:Sub):∃t,a.enc=.tup t:=by cases a<;>exact⟨_,rfl⟩
theorem aq{U:Call}{t:Pg}{x y:List Nat}{a b:Nat}(h:x.length<=a)(k:y.length<=b)(e:Nat.ble (a+b) lim=true)(d:eF t=.ask (x.length+y.length<=lim))(q:(x++y).length<=a+b->wP U (nx t)):wP U t:=
 wp_ask (al h k e) d (q (ap h k))
theorem nV(F b x:List Nat):F++[32,40]++b++[32,58]++x++[41]=F++([32,40]++b++[32,58]++x++[41]):=by simp only[JK]
theorem G0(R:ac W)(a b c d:V)(p:Option (Sub×Option Sub))(F:List Nat)(hF:F.length<=47)(hn:3<=n)(hk:kv (.str (F++cq p)) mu):
  wP (W n) (aS (w9.drop 2) (ax kv) (aG ke) ⟨[.val (.tup [a,b,c,d,fV p]),.val (.fn 35),.val (.str F),.unset],mu⟩):=by
 cases p with
 |none=>exact i6 (ft hk (JX F).symm) rfl
 |some p=>
 obtain⟨b,l⟩:=p
 cases l with
 |none=>
  refine aq hF (ln [32,40]) rfl (by kernel_rfl) fun a1=>wv mu (lV R b hn ?_)
  refine aq a1 b.len rfl (by kernel_rfl) fun a2=>aq a2 (ln [32,58]) rfl (by kernel_rfl) fun a3=>?_
  refine aq a3 (ln []) rfl (by kernel_rfl) fun a4=>aq a4 (ln [41]) rfl (by kernel_rfl) fun _=>?_
  exact wk (ft hk (nV F b.sh []))
 |some l=>
  obtain⟨t,e⟩:=l.enc_tup
  have c {kv:V->List aa->Prop} {ke:Nat->List aa->Prop} (hk:kv (.str l.sh) mu):W n (.fn 35) [.tup t] mu kv ke:=e▸lV R l hn hk
  show wP (W n) (aS (w9.drop 2) (ax kv) (aG ke) ⟨[.val (.tup [_,_,_,d,.tup [b.enc,l.enc]]),.val (.fn 35),.val (.str F),.unset],mu⟩)
  rw[e]
  refine wv mu (c ?_)
  refine aq (ln [32]) l.len rfl (by kernel_rfl) fun a0=>?_
  refine aq hF (ln [32,40]) rfl (by kernel_rfl) fun a1=>wv mu (lV R b hn ?_)
  refine aq a1 b.len rfl (by kernel_rfl) fun a2=>aq a2 (ln [32,58]) rfl (by kernel_rfl) fun a3=>?_
  refine aq a3 a0 rfl (by kernel_rfl) fun a4=>aq a4 (ln [41]) rfl (by kernel_rfl) fun _=>?_
  exact wk (ft hk (nV F b.sh _))
theorem G1(R:ac W)(a b c:V)(l:List Sub)(hl:l.length<=3)(p:Option (Sub×Option Sub))(F:List Nat)(hF:F.length<=27)(hn:4<=n)(hk:kv (.str (F++dW l++cq p)) mu):
  wP (W n) (aS (w9.drop 1) (ax kv) (aG ke) ⟨[.val (.tup [a,b,c,.tup (l.map Sub.enc),fV p]),.val (.fn 35),.val (.str F),.unset],mu⟩):=by
 have z {s:List Nat} (h:s.length<=47) (hk:kv (.str (s++cq p)) mu):=G0 (mu:=mu) (ke:=ke) R a b c (.tup (l.map Sub.enc)) p s h (lw hn) hk
 cases l with
 |nil=>
  have hk:kv (.str (F++cq p)) mu:=ft hk (congrArg (·++cq p) (JX F).symm)
  exact cO 1 (z (s:=F) (JH hF (by decide)) hk) fun K hK _=>aw 1 hK (by kernel_rfl)
 |cons x y=>
  refine cO 1 (z (ap hF (lX (x::y) hl)) hk) fun K hK _=>?_
  refine wv mu (t22 R (x::y) (Kr _ _) hl hn ?_)
  exact aq hF (lX (x::y) hl) rfl (by kernel_rfl) fun a1=>wq hK
theorem t23(R:ac W)(r:Rf)(hn:5<=n)(hk:kv (.str r.sh) mu):W n (.fn 23) [r.enc,.fn 35] mu kv ke:=by
 refine R.go 23 2 (lw hn) rfl ?_
 have j:=r.nmT
 obtain⟨nm,q,sub,part,hq,hs⟩:=r
 have z:=G1 (n:=n - 1) (mu:=mu) (ke:=ke) R (.str [114,101,102]) (.str nm.s) (.tup (q.map fun g=>.str g.s)) sub hs part _ (JH (cy _ _) j) (lv hn) hk
 have j:=JH j (by decide:27<=lim)
 refine aw 0 (t':=aS (w9.drop 0) (ax kv) (aG ke) ⟨[.val (.tup [.str [114,101,102],.str nm.s,.tup (q.map fun g=>.str g.s),.tup (sub.map Sub.enc),fV part]),.val (.fn 35),.unset,.unset],mu⟩) (cO 0 z fun K hK _=>?_) (by kernel_rfl)
 cases q with
 |nil=>exact ai 2 (wa j (wq hK))
 |cons a q=>cases q with
  |nil=>exact ai 2 (wa j (wq hK))
  |cons b q=>cases q with
   |nil=>exact ai 2 (wa j (wq hK))
   |cons=>exact absurd hq no3
theorem t24(R:ac W)(o:Op)(hn:6<=n)(hk:kv (.str o.sh) mu):W n (.fn 24) [o.enc,.fn 35] mu kv ke:=by
 refine R.go 24 1 (lw hn) rfl ?_
 cases o with
 |rf r=>exact wv mu (t23 R r (lv hn) (wk hk))
 |nu x=>exact wv mu (t10 R x (lv hn) (wk hk))
 |fg a b ok=>
  have q:All (fun t:List Nat×List Nat=>kv (.str t.2) mu->wP (W (n - 1)) (kF 24 1 [.tup [.str [102,105,103,117,114,101],.str t.1],.fn 35] kv ke mu)) AH:=by
   iterate 5 refine⟨fun hk=>wk hk,?_⟩
   exact trivial
  have z:=q.mem ok
  exact z hk
 |tx t ok=>exact wv mu (t21 R t ok (lv hn) (aq (ln []) (ap (ap (ln [34]) ok.len) (ln [34])) rfl (by kernel_rfl) fun _=>wk hk))
 |al t ok=>exact wv mu (t21 R t ok (lv hn) (aq (ln [65,76,76,32]) (ap (ap (ln [34]) ok.len) (ln [34])) rfl (by kernel_rfl) fun _=>wk hk))
theorem jr{ss:List (List Nat)}(h:∀x∈ss,x.length<=1000)(k:ss.length<=100):aW [] ss<=lim/\ss.length<=lim:=
 ⟨JH (cL h) (JH (KY _ k) (by decide)),JH k (by decide)⟩
theorem Op.hd(o:Op):∃t,(bC t [([43],.int 1),([45],.int 1),([42],.int 2),([47],.int 2),([42,42],.int 4)]).isSome=false/\(t==[110,101,103])=false/\((∃x,o.enc=.tup [.str t,x])∨∃x y z w,o.enc=.tup [.str t,x,y,z,w]):=by
 cases o with
 |rf r=>exact⟨[114,101,102],rfl,rfl,.inr ⟨_,_,_,_,rfl⟩⟩
 |_=>exact⟨_,rfl,rfl,.inl ⟨_,rfl⟩⟩
theorem kS(R:ac W)(o:Op)(hn:7<=n)(hk:kv (.str o.sh) mu):W n (.fn 35) [o.enc] mu kv ke:=by
 have j:aW [] [o.sh]<=lim/\[o.sh].length<=lim:=jr (fun x m=>Kb.mp m▸JH o.len (by decide)) (by decide:1<=100)
 have h24:∀{kv:V->List aa->Prop} {ke:Nat->List aa->Prop},kv (.str o.sh) mu->W (n - 1) (.fn 24) [o.enc,.fn 35] mu kv ke:=fun h=>t24 R o (lv hn) h
 obtain⟨t,e1,e2,⟨_,e⟩|⟨_,_,_,_,e⟩⟩:=o.hd
 all_goals
  rw[e]at h24 ⊢
  refine R.go 35 2 (lw hn) rfl (wr 1 (wt e1 (wt e1 (wt e2 ?_))))
  exact wv mu (h24 (ai 1 (wa j (wk hk))))
theorem vt(o:Op):3<=Gr (.op o):=by
 cases o with
 |nu x=>show 3<=(if x.ng then 3 else 5:Int);cases x.ng<;>decide
 |_=>exact(by decide:(3:Int)<=5)
theorem Br(R:ac W){v:V}{lv k:Int}{s:List Nat}(hn:1<=n)(h35:∀{kv:V->List aa->Prop} {ke:Nat->List aa->Prop},kv (.str s) mu->W (n - 1) (.fn 35) [v] mu kv ke)
  (h33:∀{kv:V->List aa->Prop} {ke:Nat->List aa->Prop},kv (.int lv) mu->W (n - 1) (.fn 33) [v] mu kv ke) (h:decide (lv < k)=false) (hk:kv (.str s) mu):W n (.fn 34) [v,.int k] mu kv ke:=
 R.go 34 1 hn rfl (wv mu (h35 (wv mu (h33 (wt h (wk hk))))))
theorem GY(R:ac W){v:V}{lv k:Int}{s:List Nat}(hn:1<=n)(hl:s.length<=1000)(h35:∀{kv:V->List aa->Prop} {ke:Nat->List aa->Prop},kv (.str s) mu->W (n - 1) (.fn 35) [v] mu kv ke)
  (h33:∀{kv:V->List aa->Prop} {ke:Nat->List aa->Prop},kv (.int lv) mu->W (n - 1) (.fn 33) [v] mu kv ke) (h:decide (lv < k)=true) (hk:kv (.str ([40]++s++[41])) mu):W n (.fn 34) [v,.int k] mu kv ke:=
 R.go 34 1 hn rfl (wv mu (h35 (wv mu (h33 (wt h (aq (ln [40]) hl rfl (by kernel_rfl) fun a=>aq a (ln [41]) rfl (by kernel_rfl) fun _=>wk hk))))))
noncomputable def Gq:Rf:=⟨⟨[65],by decide⟩,[],[],none,by decide,by decide⟩
theorem GX(R:ac W)(hn:7<=n)(hk:kv (.str [65]) mu):W n (.fn 35) [nS] mu kv ke:=kS R (.rf Gq) hn hk
theorem GZ(R:ac W)(hn:1<=n)(hk:kv (.int 5) mu):W n (.fn 33) [nS] mu kv ke:=uc R (.rf Gq) hn hk
theorem Bq(R:ac W)(hn:10<=n)(hk:kv (.str [45,32,65]) mu):W n (.fn 35) [.tup [.str [110,101,103],nS]] mu kv ke:=by
 refine R.go 35 2 (lw hn) rfl (wr 1 (wv mu (R.go 37 0 (args:=[nS]) (lv hn) rfl ?_)))
 have hn:8<=n - 1 - 1:=CC hn rfl
 refine wv mu (Br R (lw hn) (fun h=>GX R (lv hn) h) (fun h=>GZ R (lv hn) h) (by decide:decide ((5:Int) < 4)=false) ?_)
 exact i6 (p:=xS (W (n - 1)) (Eu (kF 35 2 [.tup [.str [110,101,103],nS]] kv ke mu) 1) (.str [65]) mu) (ai 3 (wk hk)) (by kernel_rfl)
theorem ua(R:ac W)(a b:Op)(hn:9<=n)(hk:kv (.str ([32]++[43]++[32]++b.sh)) mu):W n (.fn 36) [.tup [.str [43],a.enc,b.enc]] mu kv ke:=by
 refine R.go 36 0 (lw hn) rfl (ai 2 (wv mu (Br R (lv hn) (fun h=>kS R b (CC hn) h) (fun h=>uc R b (CC hn) h) (Kg (KK.mpr (Kz (by decide:(2:Int)<=3) (vt b)))) ?_)))
 exact aq (ln ([32]++[43]++[32])) b.len rfl (by kernel_rfl) fun _=>wk hk
theorem Bp(R:ac W)(a:Op)(hn:12<=n)(hk:kv (.str ([32]++[42]++[32]++[45,32,65])) mu):W n (.fn 36) [.tup [.str [42],a.enc,.tup [.str [110,101,103],nS]]] mu kv ke:=
 R.go 36 0 (lw hn) rfl (ai 2 (wv mu (Br R (lv hn) (fun h=>Bq R (CC hn) h) (fun h=>Bs R _ (CC hn) h) (by decide:decide ((3:Int) < 3)=false) (ai 60 (wk hk)))))
theorem lW(R:ac W){o:List Nat}{a:Op}{b:V}{s:List Nat}(ho:o=[43]∨o=[45]∨o=[42])(hl:s.length<=1000)(hn:8<=n)
  (h36:∀{mu:List aa} {kv:V->List aa->Prop} {ke:Nat->List aa->Prop},kv (.str s) mu->W (n - 1) (.fn 36) [.tup [.str o,a.enc,b]] mu kv ke) (hk:kv (.str (a.sh++s)) mu):W n (.fn 35) [.tup [.str o,a.enc,b]] mu kv ke:=by
 have h24:∀{kv:V->List aa->Prop} {ke:Nat->List aa->Prop},kv (.str a.sh) mu->W (n - 1) (.fn 24) [a.enc,.fn 35] mu kv ke:=fun h=>t24 R a (lv hn) h
 have h33:∀{kv:V->List aa->Prop} {ke:Nat->List aa->Prop},kv (.int (Gr (.op a))) mu->W (n - 1) (.fn 33) [a.enc] mu kv ke:=fun h=>uc R a (lv hn) h
 have v (k:Int) (h:k<=3):decide (k<=Gr (.op a))=true:=Kt (Kz h (vt a))
 have j:aW [] [s,a.sh]<=lim/\[s,a.sh].length<=lim:=jr (fun x m=>(JY.mp m).elim (fun e=>e▸hl) fun m=>Kb.mp m▸JH a.len (by decide)) (by decide:2<=100)
 have hk:kv (.str (aK [] [a.sh,s])) mu:=ft hk (congrArg (·++s) (JX a.sh))
 generalize a.sh=z at j hk h24
 refine R.go 35 2 (lw hn) rfl ?_
 obtain⟨k,k3,hq⟩:∃k:Int,k<=3/\((o=[43]/\k=1)∨(o=[45]/\k=1)∨(o=[42]/\k=2)):=by
  rcases ho with h|h|h
  ·exact⟨1,by decide,.inl ⟨h,rfl⟩⟩
  ·exact⟨1,by decide,.inr (.inl ⟨h,rfl⟩)⟩
  ·exact⟨2,by decide,.inr (.inr ⟨h,rfl⟩)⟩
 have v:=v k k3
 obtain⟨t,e1,e2,⟨_,e⟩|⟨_,_,_,_,e⟩⟩:=a.hd
 all_goals
  rw[e]at h24 h33 h36 ⊢
  obtain⟨rfl,rfl⟩|⟨rfl,rfl⟩|⟨rfl,rfl⟩:=hq
  all_goals
   refine wr 2 (wv mu (h33 (wt v (wv mu (h36 (ai 1 ?_))))))
   refine wt e1 (wt e1 (wt e2 (wv mu (h24 (ai 1 (wa j ?_))))))
   exact wk hk
theorem DB(R:ac W)(e:Ex)(hn:14<=n)(hk:kv (.str e.sh) mu):W n (.fn 35) [e.enc] mu kv ke:=by
 cases e with
 |op o=>exact kS R o (lw hn) hk
 |add a b=>exact lW R (.inl rfl) (JH (ap (ln ([32]++[43]++[32])) b.len) (by decide)) (lw hn) (fun h=>ua R a b (lv hn) h) hk
 |mul a=>exact lW R (.inr (.inr rfl)) (by decide) (lw hn) (fun h=>Bp R a (lv hn) h) hk
 |sub a b=>
  have l1:=ap (ln ([32]++[43]++[32])) a.len
  refine lW R (.inr (.inl rfl)) (JH (ap (ln ([32]++[45]++[32])) (ap (ap (ln [40]) (ap b.len l1)) (ln [41]))) (by decide)) (lw hn) (fun{mu _ _} h=>?_) hk
  have l2:(b.sh++([32]++[43]++[32]++a.sh)).length<=1000:=JH (ap b.len l1) (by decide)
  have e:=fun{kv:V->List aa->Prop} {ke:Nat->List aa->Prop}=>lW (n:=n - 1 - 1 - 1) (mu:=mu) (kv:=kv) (ke:=ke) R (.inl rfl) (JH l1 (by decide)) (Hs hn) (fun h=>ua R b a (lv (b:=10) (Hs hn) rfl) h)
  refine R.go 36 0 (lv hn) rfl (ai 2 (wv mu (GY R (CC hn) l2 e (fun h=>Bt R b.enc a.enc (Hs hn) h) (by decide:decide ((1:Int) < 2)=true) ?_)))
  exact aq (ln ([32]++[45]++[32])) (ap (ap (ln [40]) l2) (ln [41])) rfl (by kernel_rfl) fun _=>wk h
noncomputable def pI:List (List Nat):=[[61],[62],[60],[62,61],[60,61],[60,62]]
noncomputable def Fz:List (List Nat):=[[78,85,77,69,82,73,67],[65,76,80,72,65,66,69,84,73,67],[65,76,80,72,65,66,69,84,73,67,45,76,79,87,69,82]]
noncomputable def BN:List (List Nat):=[[80,79,83,73,84,73,86,69],[78,69,71,65,84,73,86,69],[90,69,82,79]]
abbrev dO(s:List Nat):Prop:=s∈pI
abbrev kQ(s:List Nat):Prop:=s∈Fz
abbrev iY(s:List Nat):Prop:=s∈BN
inductive Cd
 |rel (s:List Nat) (h:dO s) (a:Ex) (b:Op)
 |cls (s:List Nat) (h:kQ s) (r:Rf)
 |sgn (s:List Nat) (h:iY s) (a:Ex)
 |named (q:Bool)
 |not (c:Cd)
 |and (a b:Cd)
 |or (a b:Cd)
noncomputable def bj(q:Bool):Rf:=⟨⟨[73,83,45,79,78],by decide⟩,if q then[⟨[71,49],by decide⟩]else[],[],none,by cases q<;>decide,by decide⟩
noncomputable def Dh{T:Type}(r:List Nat->Ex->Op->T)(k:List Nat->Rf->T)(g:List Nat->Ex->T)(m:Bool->T)(n:Cd->T->T)(a o:Cd->Cd->T->T->T)(c:Cd):T:=
 Cd.rec (fun s _ a b=>r s a b) (fun s _ x=>k s x) (fun s _ a=>g s a) m n a o c
noncomputable def Cd.enc:Cd->V:=Dh (fun s a b=>.tup [.str [114,101,108],.str s,a.enc,b.enc]) (fun s r=>.tup [.str [99,108,97,115,115],.str s,r.enc]) (fun s a=>.tup [.str [115,105,103,110],.str s,a.enc]) (fun q=>.tup [.str [110,97,109,101,100],(bj q).enc])
 (fun _ c=>.tup [.str [110,111,116],c]) (fun _ _ a b=>.tup [.str [97,110,100],a,b]) (fun _ _ a b=>.tup [.str [111,114],a,b])
noncomputable def Cd.str:Cd->Int:=Dh (fun _ _ _=>4) (fun _ _=>4) (fun _ _=>4) (fun _=>4) (fun _ _=>3) (fun _ _ _ _=>2) (fun _ _ _ _=>1)
noncomputable def br(lo:Bool)(s:List Nat):List Nat:=if lo then[40]++s++[41]else s
noncomputable def fU(s:List Nat):List Nat:=if s==[60,62]then[78,79,84,32,61]else s
noncomputable def Cd.sh:Cd->List Nat:=Dh (fun s a b=>a.sh++[32]++fU s++[32]++b.sh) (fun s r=>r.sh++[32,73,83,32]++s) (fun s a=>a.sh++[32,73,83,32]++s) (fun q=>(bj q).sh) (fun c x=>[78,79,84,32]++br (decide (c.str < 4)) x)
 (fun a b x y=>br (decide (a.str < 2)) x++([32,65,78,68,32]++br (decide (b.str < 3)) y)) (fun _ b x y=>x++([32,79,82,32]++br (decide (b.str < 2)) y))
noncomputable def Ia(d m:Nat)(n o:Nat->Nat->Nat):Cd->Nat:=Dh (fun _ _ _=>d) (fun _ _=>d) (fun _ _=>d) (fun _=>d) (fun _ x=>x+m) (fun _ _=>n) (fun _ _=>o)
noncomputable def Cd.bd:Cd->Nat:=Ia 1000 10 (fun x y=>x+y+20) (fun x y=>x+y+20)
noncomputable def Cd.ht:Cd->Nat:=Ia 0 1 (fun x y=>max x y+1) (fun x y=>max x y+1)
noncomputable def Cd.sz:Cd->Nat:=Ia 1 1 (fun x y=>x+y+1) (fun x y=>x+y+1)
theorem iH(b:Bool)(s:List Nat):(br b s).length<=s.length+2:=by
 cases b
 ·exact JV _ _
 ·exact JH (ap (ap (ln [40]) (ln s)) (ln [41])) (by show 1+s.length+1<=_;exact lin [_] [] 1 (.a (.a (.n 1) (.v 0)) (.n 1)) (.a (.v 0) (.n 2)) rfl)
theorem uO{s:List Nat}(h:dO s):(fU s).length<=5:=(by decide:∀t∈pI,(fU t).length<=5) _ h
theorem kQ.len{s:List Nat}(h:kQ s):s.length<=20:=(by decide:∀t∈Fz,t.length<=20) _ h
theorem iY.len{s:List Nat}(h:iY s):s.length<=20:=(by decide:∀t∈BN,t.length<=20) _ h
theorem Cd.len(c:Cd):c.sh.length<=c.bd:=by
 induction c with
 |rel s h a b=>exact JH (ap (ap (ap (ap a.len (ln [32])) (uO h)) (ln [32])) b.len) (JI rfl)
 |cls s h r=>exact JH (ap (ap r.len (ln [32,73,83,32])) h.len) (JI rfl)
 |sgn s h a=>exact JH (ap (ap a.len (ln [32,73,83,32])) h.len) (JI rfl)
 |named q=>exact JH (bj q).len (JI rfl)
 |not c ih=>exact JH (ap (ln [78,79,84,32]) (iH _ _)) (by show 4+_<=c.bd+10;exact lin [_,_] [(1,.v 0,.v 1)] 1 (.a (.n 4) (.a (.v 0) (.n 2))) (.a (.v 1) (.n 10)) rfl ih)
 |and a b ih jh=>exact JH (ap (iH _ _) (ap (ln [32,65,78,68,32]) (iH _ _))) (by show _+(5+_)<=a.bd+b.bd+20;exact lin [_,_,_,_] [(1,.v 0,.v 1),(1,.v 2,.v 3)] 1 (.a (.a (.v 0) (.n 2)) (.a (.n 5) (.a (.v 2) (.n 2)))) (.a (.a (.v 1) (.v 3)) (.n 20)) rfl ih jh)
 |or a b ih jh=>exact JH (ap (ln a.sh) (ap (ln [32,79,82,32]) (iH _ _))) (by show _+(4+_)<=a.bd+b.bd+20;exact lin [_,_,_,_] [(1,.v 0,.v 1),(1,.v 2,.v 3)] 1 (.a (.v 0) (.a (.n 4) (.a (.v 2) (.n 2)))) (.a (.a (.v 1) (.v 3)) (.n 20)) rfl ih jh)
theorem Cd.szbd(c:Cd):c.sz<=c.bd:=by
 induction c with
 |not c ih=>show c.sz+1<=c.bd+10;exact lin [_,_] [(1,.v 0,.v 1)] 1 (.a (.v 0) (.n 1)) (.a (.v 1) (.n 10)) rfl ih
 |and a b ih jh=>show a.sz+b.sz+1<=a.bd+b.bd+20;exact lin [_,_,_,_] [(1,.v 0,.v 1),(1,.v 2,.v 3)] 1 (.a (.a (.v 0) (.v 2)) (.n 1)) (.a (.a (.v 1) (.v 3)) (.n 20)) rfl ih jh
 |or a b ih jh=>show a.sz+b.sz+1<=a.bd+b.bd+20;exact lin [_,_,_,_] [(1,.v 0,.v 1),(1,.v 2,.v 3)] 1 (.a (.a (.v 0) (.v 2)) (.n 1)) (.a (.a (.v 1) (.v 3)) (.n 20)) rfl ih jh
 |_=>exact(by decide:1<=1000)
theorem t57(R:ac W)(c:Cd)(hn:1<=n)(hk:kv (.int c.str) mu):W n (.fn 57) [c.enc] mu kv ke:=by
 refine R.go 57 0 hn rfl ?_
 cases c<;>exact wk hk
theorem t56(R:ac W){s:List Nat}(h:dO s)(a:Ex)(b:Op)(hn:15<=n)(hk:kv (.str (a.sh++[32]++fU s++[32]++b.sh)) mu):W n (.fn 56) [.tup [.str [114,101,108],.str s,a.enc,b.enc]] mu kv ke:=by
 refine R.go 56 1 (lw hn) rfl (aw 0 (t':=aS (FK.drop 0) (ax kv) (aG ke) ⟨[.val (.tup [.str [114,101,108],.str s,a.enc,b.enc]),.unset],mu⟩) (cO 0 (st':=⟨[.val (.tup [.str [114,101,108],.str s,a.enc,b.enc]),.val (.str (fU s))],mu⟩) ?_ fun K hK _=>?_) (by kernel_rfl))
 ·have l:=uO h
  generalize fU s=x at l hk ⊢
  refine wv mu (DB R a (lv hn) ?_)
  refine aq a.len (ln [32]) rfl (by kernel_rfl) fun a1=>aq a1 l rfl (by kernel_rfl) fun a2=>aq a2 (ln [32]) rfl (by kernel_rfl) fun a3=>?_
  exact wv mu (kS R b (lv hn) (aq a3 b.len rfl (by kernel_rfl) fun _=>wk hk))
 ·revert hK
  unfold fU
  cases e:s==[60,62]<;>exact fun hK=>wt e (wq hK)
theorem t59(R:ac W)(c:Cd)(hc:c.str=4)(hn:16<=n)(hk:kv (.str c.sh) mu):W n (.fn 59) [c.enc] mu kv ke:=by
 refine R.go 59 0 (lw hn) rfl ?_
 cases c with
 |rel s h a b=>exact wv mu (t56 R h a b (lv hn) (wk hk))
 |cls s h r=>exact wv mu (kS R (.rf r) (lv hn) (aq r.len (ln [32,73,83,32]) rfl (by kernel_rfl) fun a1=>aq a1 h.len rfl (by kernel_rfl) fun _=>wk hk))
 |sgn s h a=>exact wv mu (DB R a (lv hn) (aq a.len (ln [32,73,83,32]) rfl (by kernel_rfl) fun a1=>aq a1 h.len rfl (by kernel_rfl) fun _=>wk hk))
 |named q=>exact wv mu (kS R (.rf (bj q)) (lv hn) (wk hk))
 |not _=>exact absurd (show(3:Int)=4 from hc) (by decide)
 |and _ _=>exact absurd (show(2:Int)=4 from hc) (by decide)
 |or _ _=>exact absurd (show(1:Int)=4 from hc) (by decide)
theorem t58(R:ac W)(c:Cd)(k:Int)(hk2:c.bd<=50000)(hn:2<=n)(h60:∀{kv:V->List aa->Prop} {ke:Nat->List aa->Prop},kv (.str c.sh) mu->W (n - 1) (.fn 60) [c.enc] mu kv ke)
  (hk:kv (.str (br (decide (c.str < k)) c.sh)) mu):W n (.fn 58) [c.enc,.int k] mu kv ke:=by
 refine R.go 58 1 (lw hn) rfl (wv mu (h60 (wv mu (t57 R c (lv hn) ?_))))
 cases e:decide (c.str < k)<;>rw[e]at hk
 ·exact wt e (wk hk)
 ·exact wt e (aq (ln [40]) (JH c.len hk2) rfl (by kernel_rfl) fun a1=>aq a1 (ln [41]) rfl (by kernel_rfl) fun _=>wk hk)
theorem gc(l:List (List Nat)):cz (l.map V.str)=some l:=by
 induction l with
 |nil=>rfl
 |cons a l ih=>exact congrArg (fun t=>(asStr (.str a)).bind fun b=>t.map (b::·)) ih
theorem td(l:List (List Nat)):aK [] l=l.flatten:=by
 induction l with
 |nil=>rfl
 |cons a l ih=>cases l with
  |nil=>exact(JX a).symm
  |cons b l=>exact(congrArg (a++[]++·) ih).trans (by rw[JX];rfl)
theorem ta(l:List (List Nat)):aW [] l=l.flatten.length:=by simp[aW,List.length_flatten]
theorem v9(l:List (List Nat)):l.flatten.length=l.reverse.flatten.length:=by simp[List.length_flatten,List.sum_reverse]
theorem GQ{U:Call}(z w:V)(acc:List (List Nat)){x:List Nat}(hx:acc.reverse.flatten=x)(h1:acc.length<=50001)(h2:x.length<=50000)(hk:kv (.str x) mu):
  wP U (aS (w8.drop 4) (ax kv) (aG ke) ⟨[.val z,.own (acc.map V.str),.val w],mu⟩):=by
 refine aw 0 (t':=opt (cz (acc.map V.str)) fun ss=>.ask (aW [] ss<=lim/\ss.length<=lim) (.hold (kv (.str (aK [] ss.reverse)) mu))) ?_ (by kernel_rfl)
 have k:kv (.str (aK [] acc.reverse)) mu:=ft hk ((td _).trans hx)
 have j:aW [] acc<=lim/\acc.length<=lim:=⟨by rw[ta,v9,hx];exact JH h2 (by decide),JH h1 (by decide)⟩
 rw[gc]
 exact wa j (wk k)
noncomputable def Cd.sp:Cd->Nat:=Dh (fun _ _ _=>1) (fun _ _=>1) (fun _ _=>1) (fun _=>1) (fun _ _=>1) (fun _ _ x _=>x+1) (fun _ _ x _=>x+1)
noncomputable def Cd.stop:Cd->Bool:=Dh (fun _ _ _=>true) (fun _ _=>true) (fun _ _=>true) (fun _=>true) (fun _ _=>true) (fun a _ _ _=> !decide (2<=a.str)) (fun _ _ _ _=>false)
structure AZ(c:Cd)(mu:List aa)(c':Cd)(st:St)(acc:List (List Nat)):Prop where
 st:st=⟨[.val c.enc,.own (acc.map V.str),.val c'.enc],mu⟩
 sh:c'.sh++acc.reverse.flatten=c.sh
 sz:c'.sz+acc.length<=c.sz
 bd:c'.bd<=c.bd
 ht:c'.ht<=c.ht
theorem jm{c c':Cd}{st:St}{acc:List (List Nat)}(p:AZ c mu c' st acc)(hb:c.bd<=50000):acc.length<=50000:=by
 exact JH (JH (JS _ _) p.sz) (JH c.szbd hb)
theorem mq{l:List (List Nat)}(h:l.length<=50000):(l.map V.str).length < lim:=by rw[JQ];exact Kw h (by decide)
theorem AZ.push{c c' a:Cd}{st:St}{acc:List (List Nat)}(p:AZ c mu c' st acc)(pc:List Nat)(sh:a.sh++pc=c'.sh)(sz:a.sz+1<=c'.sz)(bd:a.bd<=c'.bd)(ht:a.ht<=c'.ht):
  AZ c mu a ⟨[.val c.enc,.own (acc.map V.str++[.str pc]),.val a.enc],mu⟩ (acc++[pc]) where
 st:=by rw[Kc];rfl
 sh:=by
  rw[List.reverse_append,List.flatten_append, ←JK]
  show a.sh++(pc++[])++_=_
  rw[JX,sh,p.sh]
 sz:=by have:=p.sz;rw[JU];show a.sz+(acc.length+1)<=_;exact lin [_,_,_,_] [(1,.a (.v 0) (.n 1),.v 1),(1,.a (.v 1) (.v 2),.v 3)] 1 (.a (.v 0) (.a (.v 2) (.n 1))) (.v 3) rfl sz this
 bd:=JH bd p.bd
 ht:=JH ht p.ht
theorem Cd.str_pos(c:Cd):1<=c.str:=by cases c<;>exact JN rfl
theorem CJ(R:ac W){c:Cd}{K:KF}(hb:c.bd<=50000)(hn:1<=n)(h58:∀(x:Cd) (k:Int) {kv:V->List aa->Prop} {ke:Nat->List aa->Prop},x.sz < c.sz->x.bd<=50000->x.ht < c.ht->kv (.str (br (decide (x.str < k)) x.sh)) mu->W n (.fn 58) [x.enc,.int k] mu kv ke)
  (hK:∀c' st acc,c'.stop=true->AZ c mu c' st acc->wP (W n) (K .next st)):∀c' st acc,AZ c mu c' st acc->wP (W n) (fR w8[2]? K c'.sp st):=by
 have h57:∀(x:Cd) {kv:V->List aa->Prop} {ke:Nat->List aa->Prop},kv (.int x.str) mu->W n (.fn 57) [x.enc] mu kv ke:=fun x {_ _} h=>t57 R x (lw hn) h
 intro c'
 induction c' with
 |and a b ih jh=>
  intro st acc p
  have u:=p.st
  subst u
  refine wv mu (h57 a (wv mu (h57 (.and a b) ?_)))
  cases e:decide (2<=a.str)
  ·have q:=hK (.and a b) _ acc (show(!decide (2<=a.str))=true by rw[e];rfl) p
   exact wt e (wq q)
  ·have e2:decide (a.str < 2)=false:=Kg (KK.mpr (JN e))
   have g1:a.sz+b.sz+1<=c.sz:=JH (JV _ _) p.sz
   have g2:a.bd+b.bd+20<=c.bd:=p.bd
   have g3:max a.ht b.ht+1<=c.ht:=p.ht
   have l:(br (decide (b.str < 3)) b.sh).length<=50002:=JH (iH _ _) (J3 (JH b.len (by exact lin [_,_,_] [(1,.v 0,.n 50000),(1,.a (.a (.v 1) (.v 2)) (.n 20),.v 0)] 1 (.v 2) (.n 50000) rfl hb g2)) 2)
   have q:=ih _ _ (p.push ([32,65,78,68,32]++br (decide (b.str < 3)) b.sh) (by show _=br (decide (a.str < 2)) a.sh++_;rw[e2];rfl) (by show _<=a.sz+b.sz+1;exact lin [_,_] [] 1 (.a (.v 0) (.n 1)) (.a (.a (.v 0) (.v 1)) (.n 1)) rfl) (by show _<=a.bd+b.bd+20;exact lin [_,_] [] 1 (.v 0) (.a (.a (.v 0) (.v 1)) (.n 20)) rfl) (J1 (KT _ _)))
   have la:=mq (jm p hb)
   refine wt e (ai 3 (wv mu (h57 (.and a b) (wv mu (h58 b 3 (by exact lin [_,_,_] [(1,.a (.a (.v 0) (.v 1)) (.n 1),.v 2)] 1 (.a (.v 1) (.n 1)) (.v 2) rfl g1) (by exact lin [_,_,_] [(1,.v 0,.n 50000),(1,.a (.a (.v 1) (.v 2)) (.n 20),.v 0)] 1 (.v 2) (.n 50000) rfl hb g2) (Ka (KI (K8 _ _)) g3) ?_)))))
   generalize br (decide (b.str < 3)) b.sh=z at l q ⊢
   exact aq (ln [32,65,78,68,32]) l rfl (by kernel_rfl) fun _=>wa la (wq q)
 |or a b ih jh=>
  intro st acc p
  have u:=p.st
  subst u
  refine wv mu (h57 a (wv mu (h57 (.or a b) ?_)))
  ·have e:decide (1<=a.str)=true:=Kt a.str_pos
   have g1:a.sz+b.sz+1<=c.sz:=JH (JV _ _) p.sz
   have g2:a.bd+b.bd+20<=c.bd:=p.bd
   have g3:max a.ht b.ht+1<=c.ht:=p.ht
   have l:(br (decide (b.str < 2)) b.sh).length<=50002:=JH (iH _ _) (J3 (JH b.len (by exact lin [_,_,_] [(1,.v 0,.n 50000),(1,.a (.a (.v 1) (.v 2)) (.n 20),.v 0)] 1 (.v 2) (.n 50000) rfl hb g2)) 2)
   have q:=ih _ _ (p.push ([32,79,82,32]++br (decide (b.str < 2)) b.sh) rfl (by show _<=a.sz+b.sz+1;exact lin [_,_] [] 1 (.a (.v 0) (.n 1)) (.a (.a (.v 0) (.v 1)) (.n 1)) rfl) (by show _<=a.bd+b.bd+20;exact lin [_,_] [] 1 (.v 0) (.a (.a (.v 0) (.v 1)) (.n 20)) rfl) (J1 (KT _ _)))
   have la:=mq (jm p hb)
   refine wt e (ai 3 (wv mu (h57 (.or a b) (wv mu (h58 b 2 (by exact lin [_,_,_] [(1,.a (.a (.v 0) (.v 1)) (.n 1),.v 2)] 1 (.a (.v 1) (.n 1)) (.v 2) rfl g1) (by exact lin [_,_,_] [(1,.v 0,.n 50000),(1,.a (.a (.v 1) (.v 2)) (.n 20),.v 0)] 1 (.v 2) (.n 50000) rfl hb g2) (Ka (KI (K8 _ _)) g3) ?_)))))
   generalize br (decide (b.str < 2)) b.sh=z at l q ⊢
   exact aq (ln [32,79,82,32]) l rfl (by kernel_rfl) fun _=>wa la (wq q)
 |_=>
  intro st acc p
  have q:=hK _ _ acc rfl p
  obtain⟨rfl,p1,p2,p3,p4⟩:=p
  exact aw 1 q (by kernel_rfl)
theorem CV(R:ac W){c c':Cd}{K:KF}{st:St}{acc:List (List Nat)}(hb:c.bd<=50000)(hn:2*c.ht+17<=n)(h60:∀(x:Cd) {kv:V->List aa->Prop} {ke:Nat->List aa->Prop},x.sz < c.sz->x.bd<=50000->x.ht < c.ht->kv (.str x.sh) mu->W n (.fn 60) [x.enc] mu kv ke)
  (h58:∀(x:Cd) (k:Int) {kv:V->List aa->Prop} {ke:Nat->List aa->Prop},x.sz < c.sz->x.bd<=50000->x.ht < c.ht->kv (.str (br (decide (x.str < k)) x.sh)) mu->W n (.fn 58) [x.enc,.int k] mu kv ke)
  (hs:c'.stop=true) (p:AZ c mu c' st acc) (hK:∀pc,pc++acc.reverse.flatten=c.sh->wP (W n) (K .next ⟨[.val c.enc,.own (acc.map V.str++[.str pc]),.val c'.enc],mu⟩)):wP (W n) (HQ w8[3]? K (aG ke) st):=by
 have la:=mq (jm p hb)
 have e59:c'.str=4->∀{kv:V->List aa->Prop} {ke:Nat->List aa->Prop},kv (.str c'.sh) mu->W n (.fn 59) [c'.enc] mu kv ke:=fun h4 {_ _} h=>t59 R c' h4 (by exact lin [_,_] [(1,.a (.m 2 (.v 0)) (.n 17),.v 1)] 1 (.n 16) (.v 1) rfl hn) h
 have q:=hK _ p.sh
 have u:=p.st
 subst u
 cases c' with
 |or _ _=>cases hs
 |and a b=>
  have g1:a.sz+b.sz+1<=c.sz:=JH (JV _ _) p.sz
  have g2:a.bd+b.bd+20<=c.bd:=p.bd
  have g3:max a.ht b.ht+1<=c.ht:=p.ht
  have e:decide (a.str < 2)=true:=by
   have h:(!decide (2<=a.str))=true:=hs
   exact Kt (LL.mp (Lg (by rwa[Bool.not_eq_true']at h)))
  have l:(br (decide (b.str < 3)) b.sh).length<=50002:=JH (iH _ _) (J3 (JH b.len (by exact lin [_,_,_] [(1,.v 0,.n 50000),(1,.a (.a (.v 1) (.v 2)) (.n 20),.v 0)] 1 (.v 2) (.n 50000) rfl hb g2)) 2)
  have r:∀z,[40]++a.sh++[41,32,65,78,68,32]++z=br (decide (a.str < 2)) a.sh++([32,65,78,68,32]++z):=fun z=>by rw[e];simp[br]
  have q:=hK ([40]++a.sh++[41,32,65,78,68,32]++br (decide (b.str < 3)) b.sh) (by rw[r];exact p.sh)
  refine wv mu (h60 a (by exact lin [_,_,_] [(1,.a (.a (.v 0) (.v 1)) (.n 1),.v 2)] 1 (.a (.v 0) (.n 1)) (.v 2) rfl g1) (by exact lin [_,_,_] [(1,.v 0,.n 50000),(1,.a (.a (.v 1) (.v 2)) (.n 20),.v 0)] 1 (.v 1) (.n 50000) rfl hb g2) (Ka (KI (KT _ _)) g3) ?_)
  refine aq (ln [40]) (JH a.len ((by exact lin [_,_,_] [(1,.v 0,.n 50000),(1,.a (.a (.v 1) (.v 2)) (.n 20),.v 0)] 1 (.v 1) (.n 50000) rfl hb g2):a.bd<=50000)) rfl (by kernel_rfl) fun a1=>aq a1 (ln [41,32,65,78,68,32]) rfl (by kernel_rfl) fun a2=>?_
  refine wv mu (h58 b 3 (by exact lin [_,_,_] [(1,.a (.a (.v 0) (.v 1)) (.n 1),.v 2)] 1 (.a (.v 1) (.n 1)) (.v 2) rfl g1) (by exact lin [_,_,_] [(1,.v 0,.n 50000),(1,.a (.a (.v 1) (.v 2)) (.n 20),.v 0)] 1 (.v 2) (.n 50000) rfl hb g2) (Ka (KI (K8 _ _)) g3) ?_)
  generalize br (decide (b.str < 3)) b.sh=z at l q ⊢
  exact aq a2 l rfl (by kernel_rfl) fun _=>wa la (wq q)
 |not x=>
  have g1:x.sz+1<=c.sz:=JH (JV _ _) p.sz
  have g2:x.bd+10<=c.bd:=p.bd
  have g3:x.ht+1<=c.ht:=p.ht
  have l:(br (decide (x.str < 4)) x.sh).length<=50002:=JH (iH _ _) (J3 (JH x.len (by exact lin [_,_] [(1,.v 0,.n 50000),(1,.a (.v 1) (.n 10),.v 0)] 1 (.v 1) (.n 50000) rfl hb g2)) 2)
  rw[show(Cd.not x).sh=[78,79,84,32]++br (decide (x.str < 4)) x.sh from rfl]at q
  refine wv mu (h58 x 4 (by exact lin [_,_] [(1,.a (.v 0) (.n 1),.v 1)] 1 (.a (.v 0) (.n 1)) (.v 1) rfl g1) (by exact lin [_,_] [(1,.v 0,.n 50000),(1,.a (.v 1) (.n 10),.v 0)] 1 (.v 1) (.n 50000) rfl hb g2) (by exact lin [_,_] [(1,.a (.v 0) (.n 1),.v 1)] 1 (.a (.v 0) (.n 1)) (.v 1) rfl g3) ?_)
  generalize br (decide (x.str < 4)) x.sh=z at l q ⊢
  exact aq (ln [78,79,84,32]) l rfl (by kernel_rfl) fun _=>wa la (wq q)
 |_=>exact wv mu (e59 rfl (wa la (wq q)))
theorem GR(R:ac W)(k:Nat):∀{n:Nat} {mu:List aa} {kv:V->List aa->Prop} {ke:Nat->List aa->Prop} (c:Cd),c.sz<=k->c.bd<=50000->2*c.ht+18<=n->kv (.str c.sh) mu->W n (.fn 60) [c.enc] mu kv ke:=by
 induction k with
 |zero=>intro n mu kv ke c h;exact absurd h (by cases c<;>exact Nat.not_succ_le_zero _)
 |succ k ih=>
  intro n mu kv ke c hs hb hn hk
  have h60 (x:Cd) {kv:V->List aa->Prop} {ke:Nat->List aa->Prop} (h1:x.sz < c.sz) (h2:x.bd<=50000) (h3:x.ht < c.ht) (h:kv (.str x.sh) mu):W (n - 1) (.fn 60) [x.enc] mu kv ke:=ih x (by exact lin [_,_,_] [(1,.v 0,.a (.v 1) (.n 1)),(1,.a (.v 2) (.n 1),.v 0)] 1 (.v 2) (.v 1) rfl hs h1) h2 (by exact Kx (lin [_,_,_] [(1,.a (.m 2 (.v 0)) (.n 18),.v 1),(2,.a (.v 2) (.n 1),.v 0)] 1 (.a (.a (.m 2 (.v 2)) (.n 18)) (.n 1)) (.v 1) rfl hn h3)) h
  have h58 (x:Cd) (j:Int) {kv:V->List aa->Prop} {ke:Nat->List aa->Prop} (h1:x.sz < c.sz) (h2:x.bd<=50000) (h3:x.ht < c.ht) (h:kv (.str (br (decide (x.str < j)) x.sh)) mu):W (n - 1) (.fn 58) [x.enc,.int j] mu kv ke:=
   t58 R x j h2 (by exact Kx (lin [_,_] [(1,.a (.m 2 (.v 0)) (.n 18),.v 1)] 1 (.a (.n 2) (.n 1)) (.v 1) rfl hn)) (fun h=>ih x (by exact lin [_,_,_] [(1,.v 0,.a (.v 1) (.n 1)),(1,.a (.v 2) (.n 1),.v 0)] 1 (.v 2) (.v 1) rfl hs h1) h2 (Kx (Kx (JH (J3 (Kh 2 h3) 18) hn))) h) h
  refine R.go 60 2 (by exact lin [_,_] [(1,.a (.m 2 (.v 0)) (.n 18),.v 1)] 1 (.n 1) (.v 1) rfl hn) rfl (aw 0 (t':=aS (w8.drop 0) (ax kv) (aG ke) ⟨[.val c.enc,.unset,.unset],mu⟩) ?_ (by kernel_rfl))
  refine cO 0 (st':=⟨[.val c.enc,.own [],.unset],mu⟩) ?_ fun K hK _=>wq hK
  refine cO 1 (st':=⟨[.val c.enc,.own [],.val c.enc],mu⟩) ?_ fun K hK _=>wq hK
  refine wp_seqQ 2 (fun st=>∃c' acc,c'.stop=true/\AZ c mu c' st acc) ?_ fun K hK _=>wr c.sp (wq (CJ R (K:=K) hb (by exact Kx (lin [_,_] [(1,.a (.m 2 (.v 0)) (.n 18),.v 1)] 1 (.a (.n 1) (.n 1)) (.v 1) rfl hn)) h58 (fun c' st acc a b=>hK st ⟨c',acc,a,b⟩) c _ [] ⟨rfl,JX _,JL _,JL _,JL _⟩))
  rintro st ⟨c',acc,a,p⟩
  refine wp_seqQ 3 (fun st=>∃pc,pc++acc.reverse.flatten=c.sh/\st=⟨[.val c.enc,.own (acc.map V.str++[.str pc]),.val c'.enc],mu⟩) ?_ fun K hK _=>CV R hb (by exact Kx (lin [_,_] [(1,.a (.m 2 (.v 0)) (.n 18),.v 1)] 1 (.a (.a (.m 2 (.v 0)) (.n 17)) (.n 1)) (.v 1) rfl hn)) h60 h58 a p fun pc h=>hK _ ⟨pc,h,rfl⟩
  rintro st ⟨pc,h,rfl⟩
  have z:=GQ (U:=W (n - 1)) (mu:=mu) (ke:=ke) c.enc c'.enc (acc++[pc]) (x:=c.sh) (by rw[List.reverse_append,List.flatten_append, ←h];show(pc++[])++_=_;rw[JX]) (by have:=jm p hb;rw[JU];exact JW this) (JH c.len hb) hk
  rw[Kc]at z
  exact z
noncomputable def cF(e:ME)(x:Nat)(ifs:List ME):V->(Option V->St->Pg)->St->Pg:=fun v k' st=>kR ifs (fun t st'=>cond t
     (ev e (.v fun r st''=>.same st''.loc (st.put x (.val v)).loc (k' (some r) st'')) fQ st')
     (.same st'.loc (st.put x (.val v)).loc (k' Option.none st'))) fQ (st.put x (.val v))
theorem uy{st:St}{x:Nat}(hx:x < st.loc.length):({st with loc:=st.loc.set x (st.loc[x])}:St)=st:=by rw[List.set_getElem_self]
theorem fM{α:Type}{f h:α->V}{U:Call}{e:ME}{x:Nat}{l:List α}:∀{st:St} {k:KV} {acc:List V},x < st.loc.length->
  (∀a∈l,∀K:V->St->Pg,wP U (K (h a) {st with loc:=st.loc.set x (.val (f a))})->wP U (ev e (.v K) fQ {st with loc:=st.loc.set x (.val (f a))}))->
  (∀lv,wP U (k (.lst (acc++l.map h)) {st with loc:=st.loc.set x lv}))->wP U (bF (cF e x []) (l.map f) acc k st):=by
 induction l with
 |nil=>
  intro st k acc hx _ hk
  have:=hk (st.loc[x])
  rw[uy hx,KG,JX]at this
  exact aw 0 this rfl
 |cons a l ih=>
  intro st k acc hx H hk
  refine aw 0 (H a (.head _) (fun r st''=>.same st''.loc (st.put x (.val (f a))).loc (bF (cF e x []) (l.map f) (acc++[r]) k st'')) (qG rfl rfl ?_)) rfl
  refine ih (by rw[Lj];exact hx) (fun w hw K hK=>?_) fun lv=>?_
  ·simp only[List.set_set]at hK ⊢
   exact H w (.tail _ hw) K hK
  ·have:=hk lv
   simp only[Kq,JK,List.set_set,List.singleton_append]at this ⊢
   exact this
theorem qh{U:Call}{a:LV}{k:KV}{ss:List (List Nat)}:∀{b:LV} {acc:List V},
  (∀lv,wP U (k (.lst (acc++(ss.filter (!·.isEmpty)).map .str)) ⟨[a,lv],mu⟩))->wP U (bF (cF (.x 1) 1 [.cmp .ne (.x 1) (.c (.str []))]) (ss.map .str) acc k ⟨[a,b],mu⟩):=by
 induction ss with
 |nil=>exact fun{b acc} hk=>aw 0 (by have:=hk b;rwa[List.filter_nil,KG,JX]at this) rfl
 |cons s ss ih=>
  intro b acc hk
  cases s with
  |nil=>exact ws 0 (wq (ih (b:=.val (.str [])) (acc:=acc) hk))
  |cons c s=>exact ws 0 (wq (ih (b:=.val (.str (c::s))) (acc:=acc++[.str (c::s)]) fun lv=>(JK acc [.str (c::s)] _).symm▸hk lv))
theorem qH{U:Call}{t:Pg}{sep:List Nat}{L:List (List Nat)}(j:aW sep L<=lim)(hk:kv (.str (aK sep L)) mu)(e:sk 0 t=opt (cz (L.map V.str)) fun ss=>.ask (aW sep ss<=lim) (.hold (kv (.str (aK sep ss)) mu))):wP U t:=by
 refine aw 0 ?_ e
 rw[gc]
 exact wa j (wk hk)
theorem GP(R:ac W)(ss:List (List Nat))(hl:ss.length<=1000)(hj:aW [32] (ss.filter (!·.isEmpty))<=lim)(hn:1<=n)(hk:kv (.str (aK [32] (ss.filter (!·.isEmpty)))) mu):W n (.fn 61) [.lst (ss.map .str)] mu kv ke:=by
 have e1:(ss.map V.str).length<=lim:=by rw[JQ];exact JH hl (by decide)
 refine R.go 61 1 hn rfl (wa e1 (aw 0 (t':=bF (cF (.x 1) 1 [.cmp .ne (.x 1) (.c (.str []))]) (ss.map .str) [] _ ⟨[.val (.lst (ss.map .str)),.unset],mu⟩) (qh fun l=>?_) rfl))
 exact qH hj hk (by kernel_rfl)
inductive S1
 |con
 |exi
noncomputable def S1.enc:S1->V
 | .con=>.tup [.str [99,111,110,116,105,110,117,101]]
 | .exi=>.tup [.str [101,120,105,116]]
noncomputable def S1.sh:S1->List Nat
 | .con=>[67,79,78,84,73,78,85,69]
 | .exi=>[69,88,73,84]
noncomputable def b8(l:List S1):V:=.tup (l.map S1.enc)
noncomputable def bK(l:List S1):List Nat:=aK [32] (l.map S1.sh)
theorem He(R:ac W)(s:S1)(hn:1<=n)(hk:kv (.str s.sh) mu):W n (.fn 104) [s.enc] mu kv ke:=by
 refine R.go 104 0 hn rfl ?_
 cases s<;>exact wk hk
theorem S1.ne(s:S1):s.sh.isEmpty=false:=by cases s<;>rfl
theorem S1.len(s:S1):s.sh.length<=8:=by cases s<;>decide
theorem AT(l:List S1):aW [32] (l.map S1.sh)<=9*l.length:=by
 refine JH (cL (a:=8) fun s hs=>?_) (JZ (by rw[JQ];exact Nat.mul_comm _ _))
 obtain⟨a,_,rfl⟩:=J5.mp hs
 exact a.len
theorem rQ(l:List S1):(bK l).length<=9*l.length:=JH (cy _ _) (AT l)
theorem p9{l:List (List Nat)}(h:∀s∈l,s.isEmpty=false):l.filter (!·.isEmpty)=l:=List.filter_eq_self.mpr fun s hs=>by simp[h s hs]
theorem Go(R:ac W)(l:List S1)(h0:l≠[])(hl:l.length<=10)(hn:2<=n)(hk:kv (.str (bK l)) mu):W n (.fn 62) [b8 l,.fn 104] mu kv ke:=by
 have e1:(l.map S1.enc).length<=lim:=by rw[JQ];exact JH hl (by decide)
 have e2:=AT l
 have e4:=p9 (l:=l.map S1.sh) (by intro x hx;obtain⟨a,ha,rfl⟩:=J5.mp hx;exact a.ne)
 refine R.go 62 1 (lw hn) rfl (wa e1 ?_)
 have e3:decide ((((l.map S1.enc).length:Nat):Int)=0)=false:=by cases l with
  |nil=>exact absurd rfl h0
  |cons a l=>exact Kg (by rw[JQ];exact Int.ofNat_ne_zero.mpr (Lm _))
 refine wt e3 (wa e1 (aw 0 (t':=bF (cF (.call (.x 1) [.x 2]) 2 []) (l.map S1.enc) [] _ ⟨[.val (b8 l),.val (.fn 104),.unset],mu⟩) (fM (h:=fun s=>.str s.sh) (JI rfl) (fun a _ K hK=>wv mu (He R a (lv hn) (wq hK))) fun x=>?_) rfl))
 have e5:l.map (fun s=>V.str s.sh)=(l.map S1.sh).map V.str:=LH.symm
 rw[e5]
 refine wv mu (GP R (l.map S1.sh) ?_ ?_ (lv hn) ?_)
 ·exact JH (JZ (JQ _)) (JH hl (by decide))
 ·rw[e4];exact JH e2 (JH (Kh 9 hl) (by decide))
 ·rw[e4]
  exact wk hk
theorem cX(mu:List aa)(a:aa):(mu++[a])[mu.length]? =some a:=by simp
theorem i8(mu:List aa)(a b:aa):(mu++[a]).set mu.length b=mu++[b]:=by simp
theorem GO(R:ac W)(hn:3<=n)(hk:ke 2 (mu++[.dead])):W n (.fn 62) [b8 [],.fn 104] mu kv ke:=by
 obtain⟨m,rfl⟩:=J2 hn
 refine R.go 62 1 (by exact lin [_] [] 1 (.n 1) (.a (.v 0) (.n 3)) rfl) rfl (ai 1 (lP mu (R.exc (n:=m) (args:=[_]) (.inl rfl) ?_) rfl))
 have hk:ke 2 ((mu++[aa.ins 2 []]).set mu.length .dead):=by rw[i8];exact hk
 exact wl (cX mu (.ins 2 [])) (wk hk)
inductive Pt
 |any
 |yes
 |no
 |truth (c:Cd)
 |worth (e:Ex)
 |is (e:Ex) (q:Bool)
 |thru (a b:Ex) (q:Bool)
noncomputable def Pt.enc:Pt->V
 | .any=>.tup [.str [97,110,121]]
 | .yes=>.tup [.str [121,101,115]]
 | .no=>.tup [.str [110,111]]
 | .truth c=>.tup [.str [116,114,117,116,104],c.enc]
 | .worth e=>.tup [.str [119,111,114,116,104],e.enc]
 | .is e q=>.tup [.str [105,115],e.enc,.bool q]
 | .thru a b q=>.tup [.str [116,104,114,117],a.enc,b.enc,.bool q]
noncomputable def nt(q:Bool)(s:List Nat):List Nat:=if q then[78,79,84,32]++s else s
noncomputable def Pt.sh:Pt->List Nat
 | .any=>[65,78,89]
 | .yes=>[84,82,85,69]
 | .no=>[70,65,76,83,69]
 | .truth c=>c.sh
 | .worth e=>e.sh
 | .is e q=>nt q e.sh
 | .thru a b q=>nt q (a.sh++[32,84,72,82,85,32]++b.sh)
noncomputable def Pt.ok:Pt->Prop
 | .truth c=>c.bd<=2100/\c.ht<=3
 |_=>True
theorem Ap(q:Bool)(s:List Nat):(nt q s).length<=s.length+4:=by
 cases q
 ·exact JV _ _
 ·exact JL _
theorem Pt.len(p:Pt)(h:p.ok):p.sh.length<=2100:=by
 cases p with
 |any|yes|no=>exact JI rfl
 |truth c=>exact JH c.len h.1
 |worth e=>exact JH e.len (by decide)
 |is e q=>exact JH (Ap q _) (JH (J3 e.len 4) (by decide))
 |thru a b q=>exact JH (Ap q _) (JH (J3 (ap (ap a.len (ln [32,84,72,82,85,32])) b.len) 4) (by decide))
theorem t64(R:ac W)(p:Pt)(h:p.ok)(hn:25<=n)(hk:kv (.str p.sh) mu):W n (.fn 64) [p.enc] mu kv ke:=by
 refine R.go 64 1 (lw hn) rfl ?_
 cases p with
 |any|yes|no=>exact wk hk
 |truth c=>
  have h2:c.ht<=3:=h.2
  exact wv mu (GR R c.sz c (JL _) (JH h.1 (by decide)) (by exact Kx (lin [_,_] [(1,.n 25,.v 0),(2,.v 1,.n 3)] 1 (.a (.a (.m 2 (.v 1)) (.n 18)) (.n 1)) (.v 0) rfl hn h2)) (wk hk))
 |worth e=>exact wv mu (DB R e (lv hn) (wk hk))
 |is e q=>
  refine wv mu (DB R e (lv hn) ?_)
  cases q
  ·exact wk hk
  ·exact aq (ln [78,79,84,32]) e.len rfl (by kernel_rfl) fun _=>wk hk
 |thru a b q=>
  refine wv mu (DB R a (lv hn) (aq a.len (ln [32,84,72,82,85,32]) rfl (by kernel_rfl) fun a1=>wv mu (DB R b (lv hn) ?_)))
  refine aq a1 b.len rfl (by kernel_rfl) fun a2=>?_
  cases q
  ·exact wk hk
  ·exact aq (ln [78,79,84,32]) a2 rfl (by kernel_rfl) fun _=>wk hk
noncomputable def bO(l:List Pt):List Nat:=aK [32,65,76,83,79,32] (l.map Pt.sh)
theorem uW(l:List Pt)(h:∀p∈l,p.ok)(hl:l.length<=2):aW [32,65,76,83,79,32] (l.map Pt.sh)<=4212:=by
 refine JH (cL (a:=2100) fun s hs=>?_) (KY 2106 (m:=2) (JH (JZ (JQ _)) hl))
 obtain⟨p,hp,rfl⟩:=J5.mp hs
 exact p.len (h p hp)
theorem t65(R:ac W)(l:List Pt)(h:∀p∈l,p.ok)(hl:l.length<=2)(hn:26<=n)(hk:kv (.str (bO l)) mu):W n (.fn 65) [.tup (l.map Pt.enc)] mu kv ke:=by
 have e1:(l.map Pt.enc).length<=lim:=by rw[JQ];exact JH hl (by decide)
 have e3:l.map (fun p=>V.str p.sh)=(l.map Pt.sh).map V.str:=LH.symm
 refine R.go 65 1 (lw hn) rfl (wa e1 (aw 0 (t':=bF (cF (.call (.c (.fn 64)) [.x 1]) 1 []) (l.map Pt.enc) [] _ ⟨[.val (.tup (l.map Pt.enc)),.unset],mu⟩) (fM (h:=fun p=>.str p.sh) (JI rfl) (fun p hp K hK=>wv mu (t64 R p (h p hp) (lv hn) (wq hK))) fun x=>?_) rfl))
 rw[e3]
 exact qH (JH (uW l h hl) (by decide)) hk (by kernel_rfl)
structure iO where
 c:Cd
 y:List S1
 e:List S1
noncomputable def iO.enc(f:iO):V:=.tup [.str [105,102],f.c.enc,b8 f.y,b8 f.e]
noncomputable def k7(w:List Nat)(e:List S1):List Nat:=if e.isEmpty then[]else w++bK e
noncomputable def iO.texts(f:iO):List (List Nat):=[[73,70],f.c.sh,[84,72,69,78],bK f.y,k7 [69,76,83,69,32] f.e,[69,78,68,45,73,70]]
noncomputable def dh(l:List (List Nat)):List Nat:=aK [32] (l.filter (!·.isEmpty))
structure iO.ok(f:iO):Prop where
 c1:f.c.bd<=5000
 c2:f.c.ht<=3
 y0:f.y≠[]
 y:f.y.length<=3
 e:f.e.length<=3
theorem u5{w:List Nat}{e:List S1}:(k7 w e).length<=w.length+9*e.length:=by
 unfold k7
 split
 ·exact KD _
 ·exact ap (ln w) (rQ e)
theorem gD{B N:Nat}{l:List (List Nat)}(h:∀s∈l,s.length<=B)(hl:l.length<=N)(hb:N*(B+1)<=lim):aW [32] (l.filter (!·.isEmpty))<=lim:=
 JH (cL (a:=B) fun s hs=>h s (La.mp hs).1) (JH (KY _ (JH (List.length_filter_le (fun s:List Nat=> !s.isEmpty) l) hl)) hb)
theorem fN{l:List S1}{m:Nat}(h:l.length<=m):(bK l).length<=9*m:=JH (rQ l) (Kh 9 h)
theorem rD{l:List S1}{m:Nat}(h:l.length<=m)(e:Nat.ble m lim=true):(l.map S1.enc).length<=lim:=JH (JZ (JQ _)) (JH h (JI e))
theorem t63(R:ac W)(f:iO)(h:f.ok)(hn:26<=n)(hk:kv (.str (dh f.texts)) mu):W n (.fn 63) [f.enc,.fn 104] mu kv ke:=by
 obtain⟨h1,h2,h3,h4,h5⟩:=h
 have hj:aW [32] (f.texts.filter (!·.isEmpty))<=lim:=by
  have q:All (fun s:List Nat=>s.length<=5100) f.texts:=⟨by decide,JH f.c.len (JH h1 (by decide)),by decide,JH (fN h4) (by decide),JH u5 (JH (JM (Kh 9 h5) 5) (by decide)),by decide,trivial⟩
  exact gD (B:=5100) (N:=6) (fun s m=>q.mem m) (by decide:6<=6) (by decide)
 refine R.go 63 1 (lw hn) rfl (aw 0 (t':=aS (FJ.drop 0) (ax kv) (aG ke) ⟨[.val f.enc,.val (.fn 104),.unset],mu⟩) (cO 0 (st':=⟨[.val f.enc,.val (.fn 104),.val (.str (k7 [69,76,83,69,32] f.e))],mu⟩) ?_ fun K hK _=>?_) (by kernel_rfl))
 ·refine wv mu (GR R f.c.sz f.c (JL _) (JH h1 (by decide)) (by exact Kx (lin [_,_] [(1,.n 26,.v 0),(2,.v 1,.n 3)] 1 (.a (.a (.m 2 (.v 1)) (.n 18)) (.n 1)) (.v 0) rfl hn h2)) ?_)
  refine wv mu (Go R f.y h3 (JH h4 (by decide)) (lv hn) ?_)
  exact wv mu (GP R f.texts (by decide:6<=1000) hj (lv hn) (wk hk))
 ·refine wa (rD h5 rfl) ?_
  obtain⟨c,y,e⟩:=f
  cases e with
  |nil=>exact aw 1 hK (by kernel_rfl)
  |cons s r=>
   exact wv mu (Go R (s::r) (Kr _ _) (JH h5 (by decide)) (lv hn) (aq (ln [69,76,83,69,32]) (fN h5) rfl (by kernel_rfl) fun _=>wq hK))
structure Wh where
 rows:List (List Pt)
 y:List S1
structure Ev where
 subs:List Pt
 whens:List Wh
 other:List S1
noncomputable def bL(r:List Pt):V:=.tup (r.map Pt.enc)
noncomputable def Wh.enc(w:Wh):V:=.tup [.tup (w.rows.map bL),b8 w.y]
noncomputable def Ev.enc(e:Ev):V:=.tup [.str [101,118,97,108,117,97,116,101],bL e.subs,.tup (e.whens.map Wh.enc),b8 e.other]
noncomputable def kX(r:List Pt):List Nat:=[87,72,69,78,32]++bO r
noncomputable def Wh.texts(w:Wh):List (List Nat):=w.rows.map kX++[bK w.y]
noncomputable def bk(e:List S1):List (List Nat):=if e.isEmpty then[]else[[87,72,69,78,32,79,84,72,69,82,32]++bK e]
noncomputable def Ev.texts(e:Ev):List (List Nat):=([69,86,65,76,85,65,84,69,32]++bO e.subs)::(e.whens.flatMap Wh.texts++bk e.other++[[69,78,68,45,69,86,65,76,85,65,84,69]])
structure Wh.ok(w:Wh):Prop where
 r:∀r∈w.rows,(∀p∈r,p.ok)/\r.length<=2
 rl:w.rows.length<=2
 y0:w.y≠[]
 y:w.y.length<=3
structure Ev.ok(e:Ev):Prop where
 s:∀p∈e.subs,p.ok
 sl:e.subs.length<=2
 w:∀w∈e.whens,w.ok
 wl:e.whens.length<=3
 o:e.other.length<=3
theorem gu{r:List Pt}(h:∀p∈r,p.ok)(hl:r.length<=2):(bO r).length<=4212:=JH (cy _ _) (uW r h hl)
theorem Wh.tl{w:Wh}(h:w.ok):∀s∈w.texts,s.length<=4300:=by
 intro s hs
 rcases Ki.mp hs with h1|h1
 ·obtain⟨r,hr,rfl⟩:=J5.mp h1
  exact JH (ap (ln [87,72,69,78,32]) (gu (h.r r hr).1 (h.r r hr).2)) (by decide)
 ·rw[Kb.mp h1]
  exact JH (fN h.y) (by decide)
theorem Wh.tn{w:Wh}(h:w.ok):w.texts.length<=3:=by
 unfold Wh.texts
 rw[JU,JQ]
 exact J3 h.rl 1
theorem jn:∀{l:List Wh},(∀w∈l,w.ok)->(l.flatMap Wh.texts).length<=3*l.length
 |[],_=>JL 0
 |w::l,h=>by
  rw[Kj,JU,KC,Nat.mul_succ,KU]
  exact KO (jn fun w hw=>h w (.tail _ hw)) (Wh.tn (h w (.head _)))
theorem Hm{e:List S1}(h:e.length<=3):∀s∈bk e,s.length<=4300:=by
 unfold bk
 split
 ·exact fun s hs=>absurd hs Kk
 ·intro s hs
  rw[Kb.mp hs]
  exact JH (ap (ln [87,72,69,78,32,79,84,72,69,82,32]) (fN h)) (by decide)
theorem Ev.tl{e:Ev}(h:e.ok):∀s∈e.texts,s.length<=4300:=by
 intro s hs
 rcases JY.mp hs with rfl|hs
 ·exact JH (ap (ln [69,86,65,76,85,65,84,69,32]) (gu h.s h.sl)) (by decide)
 rcases Ki.mp hs with hs|hs
 ·rcases Ki.mp hs with hs|hs
  ·obtain⟨w,hw,h1⟩:=List.mem_flatMap.mp hs
   exact Wh.tl (h.w w hw) s h1
  ·exact Hm h.o s hs
 ·rw[Kb.mp hs];decide
theorem EC(e:List S1):(bk e).length<=1:=by cases e<;>exact JI rfl
theorem Ev.tn{e:Ev}(h:e.ok):e.texts.length<=12:=by
 unfold Ev.texts
 rw[KC,JU,JU]
 exact J3 (KO (KO (JH (jn h.w) (Kh 3 h.wl)) (EC e.other)) (JL 1)) 1
noncomputable def whF:V->KF->St->Pg:=fun v k' st=>opt ((asTup v).bind two) fun p=>aS [.ext 2 (.comp (.bin .add (.c (.str [87,72,69,78,32])) (.call (.c (.fn 65)) [(.x 5)])) 5 (.x 3) []),.app 2 (.call (.c (.fn 62)) [(.x 4),(.x 1)])] k' fQ ((st.put 3 (.val p.1)).put 4 (.val p.2))
theorem aB{α β:Type}{f:α->β}{l:List α}{m:Nat}(h:l.length<=m):(l.map f).length<=m:=JQ f▸h
theorem aM{a b:Nat}(h:a<=b)(e:Nat.ble b lim=true):a<=lim:=JH h (JI e)
theorem bY{α:Type}{a b:List α}{x y:Nat}(h:a.length<=x)(k:b.length<=y):(a++b).length<=x+y:=JU▸KO h k
theorem sb(R:ac W){ev:V}{l:List Wh}{acc:List V}{x3 x4 x5:LV}{k:KF}(h:∀w∈l,w.ok)(hl:acc.length+3*l.length<=1000)(hn:27<=n)
  (hk:∀x3 x4 x5:LV,wP (W n) (k .next ⟨[.val ev,.val (.fn 104),.own (acc++(l.flatMap Wh.texts).map .str),x3,x4,x5],mu⟩)):
  wP (W n) (fT whF (l.map Wh.enc) k ⟨[.val ev,.val (.fn 104),.own acc,x3,x4,x5],mu⟩):=by
 induction l generalizing acc x3 x4 x5 with
 |nil=>exact aw 0 (by have:=hk x3 x4 x5;rwa[Le,KG,JX]at this) rfl
 |cons w l ih=>
  have hw:=h w (.head _)
  have la:acc.length<=1000:=JH (JV _ _) hl
  refine wa (aM (aB (f:=bL) hw.rl) rfl) (aw 0 (t':=bF (cF (.bin .add (.c (.str [87,72,69,78,32])) (.call (.c (.fn 65)) [(.x 5)])) 5 []) (w.rows.map bL) [] _ ⟨[.val ev,.val (.fn 104),.own acc,.val (.tup (w.rows.map bL)),.val (b8 w.y),x5],mu⟩) (fM (h:=fun r=>.str (kX r)) (JI rfl) (fun r hr K hK=>?_) fun lv=>?_) rfl)
  ·have q:=hw.r r hr
   exact wv mu (t65 R r q.1 q.2 (lw hn) (aq (ln [87,72,69,78,32]) (gu q.1 q.2) rfl (by kernel_rfl) fun _=>wq hK))
  ·refine wa (aM (KO la (aB (f:=fun r=>V.str (kX r)) hw.rl)) rfl) (wv mu (Go R w.y hw.y0 (JH hw.y (by decide)) (lw hn) (wp_ask (p:=(acc++w.rows.map fun r=>V.str (kX r)).length < lim) ?_ (by kernel_rfl) ?_)))
   ·exact Kw (bY la (aB hw.rl)) (by decide)
   ·have e2:acc++w.texts.map V.str=(acc++w.rows.map fun r=>V.str (kX r))++[.str (bK w.y)]:=by unfold Wh.texts;rw[Kc,LH, ←JK];rfl
    refine wq (ih (acc:=(acc++w.rows.map fun r=>V.str (kX r))++[.str (bK w.y)]) (x3:=.val (.tup (w.rows.map bL))) (x4:=.val (b8 w.y)) (x5:=x5) (fun w hw=>h w (.tail _ hw)) ?_ fun a b c=>?_)
    ·rw[←e2,JU,JQ]
     rw[KC,Nat.mul_succ]at hl
     have:=Wh.tn hw
     exact lin [_,_,_] [(1,.a (.v 0) (.a (.m 3 (.v 1)) (.n 3)),.n 1000),(1,.v 2,.n 3)] 1 (.a (.a (.v 0) (.v 2)) (.m 3 (.v 1))) (.n 1000) rfl hl this
    ·have:=hk a b c
     rw[Kj,Kc, ←JK,e2]at this
     exact this
theorem Fq(R:ac W){e:V}{o:List S1}{A:List V}{x y z:LV}{B:List (List Nat)}(ho:o.length<=3)(hA:A=B.map .str)(hB:B.length<=900)(hj:aW [32] ((B++bk o++[[69,78,68,45,69,86,65,76,85,65,84,69]]).filter (!·.isEmpty))<=lim)(he:∃a b c,e=.tup [a,b,c,b8 o])(hn:27<=n)
  (hk:kv (.str (dh (B++bk o++[[69,78,68,45,69,86,65,76,85,65,84,69]]))) mu):wP (W n) (aS (FI.drop 2) (ax kv) (aG ke) ⟨[.val e,.val (.fn 104),.own A,x,y,z],mu⟩):=by
 obtain⟨a,b,c,rfl⟩:=he
 subst hA
 have l1:∀{C:List V},C.length<=1->(B.map V.str++C).length<=901:=fun h=>bY (aB hB) h
 have f:∀{kv':V->List aa->Prop} {ke:Nat->List aa->Prop} (C:List V),C=(B++bk o++[[69,78,68,45,69,86,65,76,85,65,84,69]]).map .str->kv' (.str (dh (B++bk o++[[69,78,68,45,69,86,65,76,85,65,84,69]]))) mu->W n (.fn 61) [.lst C] mu kv' ke:=fun C e hk=>e▸GP R (B++bk o++[[69,78,68,45,69,86,65,76,85,65,84,69]]) (JH (bY (bY hB (EC o)) (JL 1)) (by decide)) hj (lw hn) hk
 cases o with
 |nil=>
  refine ai 1 (wp_ask (p:=(B.map V.str).length+1<=lim) (aM (J3 (aB hB) 1) rfl) (by kernel_rfl) (wv mu (f (B.map V.str++[.str [69,78,68,45,69,86,65,76,85,65,84,69]]) ?_ (wk hk))))
  rw[show bk []=[]from rfl,JX,Kc]
  rfl
 |cons s r=>
  refine wa (rD ho rfl) (dQ 0 (b:=decide ((0:Int) < ((((s::r).map S1.enc).length:Nat):Int))) (c:=true) (Kt (Int.ofNat_lt.mpr (Nat.zero_lt_succ _))) (by kernel_rfl) (wv mu (Go R (s::r) (Kr _ _) (JH ho (by decide)) (lw hn) (aq (ln [87,72,69,78,32,79,84,72,69,82,32]) (fN ho) rfl (by kernel_rfl) fun _=>?_))))
  refine wp_ask (p:=(B.map V.str).length < lim) (Kw (aB hB) (by decide)) (by kernel_rfl) (wp_ask (p:=(B.map V.str++[V.str ([87,72,69,78,32,79,84,72,69,82,32]++bK (s::r))]).length+1<=lim) (aM (J3 (l1 (C:=[V.str ([87,72,69,78,32,79,84,72,69,82,32]++bK (s::r))]) (JL 1)) 1) rfl) (by kernel_rfl) (wv mu (f (B.map V.str++[.str ([87,72,69,78,32,79,84,72,69,82,32]++bK (s::r))]++[.str [69,78,68,45,69,86,65,76,85,65,84,69]]) ?_ (wk hk))))
  rw[Kc,Kc]
  rfl
theorem t66(R:ac W)(e:Ev)(h:e.ok)(hn:28<=n)(hk:kv (.str (dh e.texts)) mu):W n (.fn 66) [e.enc,.fn 104] mu kv ke:=by
 have hj:aW [32] (e.texts.filter (!·.isEmpty))<=lim:=gD (B:=4300) (N:=12) (Ev.tl h) (Ev.tn h) (by decide)
 have q:e.texts=([[69,86,65,76,85,65,84,69,32]++bO e.subs]++e.whens.flatMap Wh.texts)++bk e.other++[[69,78,68,45,69,86,65,76,85,65,84,69]]:=rfl
 rw[q]at hj hk
 refine R.go 66 4 (lw hn) rfl (wv mu (t65 R e.subs h.s h.sl (lv hn) (aq (ln [69,86,65,76,85,65,84,69,32]) (gu h.s h.sl) rfl (by kernel_rfl) fun _=>?_)))
 refine aw 0 (t':=fT whF (e.whens.map Wh.enc) _ ⟨[.val e.enc,.val (.fn 104),.own [.str ([69,86,65,76,85,65,84,69,32]++bO e.subs)],.unset,.unset,.unset],mu⟩) (sb R h.w ?_ (lv hn) fun x y z=>?_) rfl
 ·exact JH (JM (Kh 3 h.wl) 1) (by decide)
 ·exact wq (Fq R (e:=e.enc) (x:=x) (y:=y) (z:=z) (ke:=ke) (B:=[[69,86,65,76,85,65,84,69,32]++bO e.subs]++e.whens.flatMap Wh.texts) h.o rfl (bY (JL 1) (JH (jn h.w) (JH (Kh 3 h.wl) (by decide:3*3<=899)))) hj ⟨_,_,_,rfl⟩ (lv hn) hk)
noncomputable abbrev Tk:=List Nat×List Nat
noncomputable def cg(t:Tk):V:=.ins 3 [(.kind,.str t.1),(.worth,.str t.2),(.at_,.tup [.int 0,.int 0]),(.isInA,.bool false)]
noncomputable def l7:List (List Nat):=[[40],[41],[58],[43],[45],[42],[47],[42,42],[61],[60],[62],[60,61],[62,61]]
noncomputable def DP(c:Nat)(r:List Nat):List Tk:=if[c]==[34]then[([108,105,116,101,114,97,108],cut (c::r) (some 1) (some (-1)))]
  else if[c]==[45]&&decide (0 < r.length)then[([115,105,103,110],[45]),([110,117,109,98,101,114],cut (c::r) (some 1) none)]
  else if l7.any (·==c::r)then[([115,105,103,110],c::r)]
  else[(if subAt [c] [48,49,50,51,52,53,54,55,56,57]then[110,117,109,98,101,114]else[119,111,114,100],c::r)]
noncomputable def pC(w:List Nat):List Tk:=match w with
 |[]=>[]
 |c::r=>DP c r
noncomputable def tk:List Nat->List Nat->List Tk
 |cur,[]=>pC cur
 |cur,c::s=>if c==32 then pC cur++tk [] s else if c==40 then pC cur++([115,105,103,110],[40])::tk [] s else if c==41 then pC cur++([115,105,103,110],[41])::tk [] s else tk (cur++[c]) s
theorem cH:∀(a b cur:List Nat),tk cur (a++32::b)=tk cur a++tk [] b
 |[],b,cur=>by simp[tk]
 |c::a,b,cur=>by simp only[Kv,tk,cH a b];split<;>(try split)<;>(try split)<;>simp
theorem tZ:∀(a b cur:List Nat),tk cur (a++41::b)=tk cur a++([115,105,103,110],[41])::tk [] b
 |[],b,cur=>by simp[tk]
 |c::a,b,cur=>by simp only[Kv,tk,tZ a b];split<;>(try split)<;>(try split)<;>simp
noncomputable def iU(s:List Nat):List (List Nat):=ak 32 (aQ 41 [32,41,32] (aQ 40 [32,40,32] s))
theorem sE:∀s:List Nat,ak 32 s≠[]
 |[]=>by simp[ak]
 |c::s=>by
  simp only[ak]
  split
  ·simp
  ·split<;>simp
noncomputable def jV(cur:List Nat):List (List Nat)->List (List Nat)
 |[]=>[cur]
 |w::ws=>(cur++w)::ws
theorem dX{d:Nat}(c:Nat)(s:List Nat):ak d (c::s)=if c==d then[]::ak d s else jV [c] (ak d s):=by
 simp only[ak]
 split
 ·rfl
 ·cases ak d s<;>rfl
theorem oA{l:List (List Nat)}(h:l≠[]):jV [] l=l:=by
 cases l with
 |nil=>exact absurd rfl h
 |cons w ws=>rfl
theorem ti(a b:List Nat){l:List (List Nat)}:jV a (jV b l)=jV (a++b) l:=by
 cases l with
 |nil=>rfl
 |cons w ws=>exact congrArg (·::ws) (JK a b w).symm
theorem tu(c:Nat)(s:List Nat):iU (c::s)=if c==32 then[]::iU s else if c==40 then[]::[40]::iU s else if c==41 then[]::[41]::iU s else jV [c] (iU s):=by
 have e:iU (c::s)=ak 32 (aQ 41 [32,41,32] (if c==40 then[32,40,32]else[c])++aQ 41 [32,41,32] (aQ 40 [32,40,32] s)):=by simp[iU,aQ]
 rw[e]
 by_cases h0:c=32
 ·subst h0;rfl
 by_cases h1:c=40
 ·subst h1
  show ak 32 (32::40::32::aQ 41 [32,41,32] (aQ 40 [32,40,32] s))=_
  simp only[dX]
  rfl
 by_cases h2:c=41
 ·subst h2
  show ak 32 (32::41::32::aQ 41 [32,41,32] (aQ 40 [32,40,32] s))=_
  simp only[dX]
  rfl
 ·have:(c==40)=false:=by simp[h1]
  rw[this]
  have e2:aQ 41 [32,41,32] (if false=true then[32,40,32]else[c])=[c]:=by simp[aQ,h2]
  rw[e2]
  simp[dX,h0,h1,h2,iU]
theorem rH(s:List Nat):iU s≠[]:=sE _
theorem pB:∀(s cur:List Nat),tk cur s=(jV cur (iU s)).flatMap pC
 |[],cur=>by simp[tk,iU,aQ,ak,jV]
 |c::s,cur=>by
  rw[tu,tk]
  have hn:=rH s
  have h:=pB s []
  rw[oA hn]at h
  split
  ·simp[jV,h]
  split
  ·simp[jV,h];rfl
  split
  ·simp[jV,h];rfl
  ·rw[ti];exact pB s _
theorem yo(s:List Nat):(iU s).flatMap pC=tk [] s:=by rw[pB,oA (rH s)]
theorem De(n:Nat):cB (n+1) 1=1:=by
 show(max 0 (min (1:Int) ((n+1:Nat):Int))).toNat=1
 rw[Int.min_eq_left (show(1:Int)<=((n+1:Nat):Int)from Int.ofNat_le.mpr (JS 1 n))];rfl
theorem zL(c:Nat)(r:List Nat):cut (c::r) none (some 1)=[c]:=by
 show((c::r).drop 0).take (cB (r.length+1) 1)=[c]
 rw[De];rfl
noncomputable def lS:List MS:=Fi AW[1]?
theorem zA{U:Call}{c:ME}{a b rest:List MS}{K:KF}{kx:KE}{st:St}(t:Bool)(h:∀k:Bool->St->Pg,wP U (k t st)->wP U (ev c (.b k) kx st))(q:wP U (aS (cond t a b) (kJ K fun st=>aS rest K kx st) kx st)):wP U (aS (.ite c a b::rest) K kx st):=
 h (fun t st=>cond t (aS a (kJ K fun st=>aS rest K kx st) kx st) (aS b (kJ K fun st=>aS rest K kx st) kx st)) (by cases t<;>exact q)
theorem rZ(R:ac W){s:V}{acc:List V}{w:List Nat}{K:KF}{kx:KE}(hw:w.length<=lim)(ha:acc.length+2<=lim)(hn:2<=n)
  (hk:wP (W n) (K .next ⟨[.val s,.own (acc++(pC w).map cg),.val (.str w)],mu⟩)):wP (W n) (aS lS K kx ⟨[.val s,.own acc,.val (.str w)],mu⟩):=by
 obtain⟨m,rfl⟩:=J2 hn
 have ha1:acc.length < lim:=Nat.lt_of_succ_le (KN ha)
 cases w with
 |nil=>
  exact ai 2 (aw 3 (by rwa[show pC []=[]from rfl,KG,JX]at hk) (by kernel_rfl))
 |cons c r=>
  have e0:∀x:List Nat,(cut (c::r) none (some 1)==x)=([c]==x):=fun x=>by rw[zL]
  replace hk:wP (W (m+2)) (K .next ⟨[.val s,.own (acc++(DP c r).map cg),.val (.str (c::r))],mu⟩):=hk
  unfold DP at hk
  refine zA ([c]==[34]) (fun k hk=>wa hw (wt (e0 [34]) (wq hk))) ?_
  cases h1:([c]==[34])with
  |true=>
   rw[h1]at hk
   exact wa hw (wc (mu:=mu) (R.tok (a:=[108,105,116,101,114,97,108]) (b:=cut (c::r) (some 1) (some (-1))) (wa ha1 (wq hk))))
  |false=>
  rw[h1]at hk
  refine zA ([c]==[45]&&decide (0 < r.length)) (fun k hk=>wa hw ?_) ?_
  ·cases h2:([c]==[45])with
   |false=>rw[h2]at hk;exact wt ((e0 [45]).trans h2) (wq hk)
   |true=>
    rw[h2]at hk
    have e3:decide ((1:Int) < ((c::r).length:Int))=decide (0 < r.length):=LQ.mpr (show((1:Nat):Int) < ((r.length+1:Nat):Int)↔0 < r.length from Int.ofNat_lt.trans Nat.succ_lt_succ_iff)
    refine wt ((e0 [45]).trans h2) (wa hw (wt e3 ?_))
    cases h3:decide (0 < r.length)<;>(rw[h3]at hk;exact wq hk)
  cases h2:([c]==[45]&&decide (0 < r.length))with
  |true=>
   rw[h2]at hk
   exact wc (mu:=mu) (R.tok (a:=[115,105,103,110]) (b:=[45]) (wa hw (wc (mu:=mu) (R.tok (a:=[110,117,109,98,101,114]) (b:=cut (c::r) (some 1) none) (wa (p:=acc.length+2<=lim) ha (wq hk))))))
  |false=>
  rw[h2]at hk
  refine zA (l7.any (·==c::r)) (fun k hk=>wt (b:=l7.any (·==c::r)) rfl (wq hk)) ?_
  cases h3:l7.any (·==c::r)with
  |true=>
   rw[h3]at hk
   exact wc (mu:=mu) (R.tok (a:=[115,105,103,110]) (b:=c::r) (wa ha1 (wq hk)))
  |false=>
  rw[h3]at hk
  refine zA true (fun k hk=>aw 1 hk (by kernel_rfl)) ?_
  cases h4:subAt [c] [48,49,50,51,52,53,54,55,56,57]
  ·rw[h4]at hk
   exact wt h4 (wc (mu:=mu) (R.tok (a:=[119,111,114,100]) (b:=c::r) (wa ha1 (wq hk))))
  ·rw[h4]at hk
   exact wt h4 (wc (mu:=mu) (R.tok (a:=[110,117,109,98,101,114]) (b:=c::r) (wa ha1 (wq hk))))
theorem i7(w:List Nat):(pC w).length<=2:=by
 cases w with
 |nil=>exact KD _
 |cons c r=>
  show(DP c r).length<=2;unfold DP;repeat' split
  all_goals exact JI rfl
theorem rY(R:ac W){s:V}{kx:KE}(hn:2<=n){ws:List (List Nat)}{acc:List V}{x:LV}{K:KF}(h:∀w∈ws,w.length<=lim)(hl:acc.length+2*ws.length+2<=lim)
  (hk:∀x:LV,wP (W n) (K .next ⟨[.val s,.own (acc++(ws.flatMap pC).map cg),x],mu⟩)):
  wP (W n) (fT (fun v k' st=>aS lS k' kx (st.put 2 (.val v))) (ws.map .str) K ⟨[.val s,.own acc,x],mu⟩):=by
 induction ws generalizing acc x with
 |nil=>exact aw 0 (by have:=hk x;rwa[Le,KG,JX]at this) rfl
 |cons w ws ih=>
  have h2:=i7 w
  rw[KC]at hl
  refine aw 0 (rZ R (h w (.head _)) (by exact lin [_,_,_] [(1,.a (.a (.v 0) (.m 2 (.a (.v 1) (.n 1)))) (.n 2),.v 2)] 1 (.a (.v 0) (.n 2)) (.v 2) rfl hl) hn (ih (fun w hw=>h w (.tail _ hw)) (by rw[JU,JQ];exact lin [_,_,_,_] [(1,.a (.a (.v 0) (.m 2 (.a (.v 1) (.n 1)))) (.n 2),.v 2),(1,.v 3,.n 2)] 1 (.a (.a (.a (.v 0) (.v 3)) (.m 2 (.v 1))) (.n 2)) (.v 2) rfl hl h2) fun x=>?_)) rfl
  have:=hk x
  rwa[Kj,Kc, ←JK]at this
theorem pF(c:Nat)(s:List Nat):(ak c s).length<=s.length+1/\∀w∈ak c s,w.length<=s.length:=by
 induction s with
 |nil=>exact⟨JL 1,fun w hw=>JZ (congrArg List.length (Kb.mp hw))⟩
 |cons x s ih=>
  obtain⟨h1,h2⟩:=ih
  rw[dX]
  split
  ·exact⟨JW h1,fun w hw=>(JY.mp hw).elim (fun e=>e▸KD _) fun h=>J1 (h2 w h)⟩
  ·generalize ak c s=l at h1 h2
   cases l with
   |nil=>exact⟨JW (KD _),fun w hw=>by rw[Kb.mp hw];exact JW (KD _)⟩
   |cons w ws=>exact⟨J1 h1,fun v hv=>(JY.mp hv).elim (fun e=>e▸JW (h2 w (.head _))) fun h=>J1 (h2 v (.tail _ h))⟩
theorem kY(c:Nat)(b s:List Nat)(hb:b.length=3):(aQ c b s).length<=3*s.length:=by
 induction s with
 |nil=>exact JL _
 |cons x s ih=>
  show((if(x==c)=true then b else[x])++aQ c b s).length<=3*s.length+3
  rw[KU]
  refine bY ?_ ih
  split
  ·exact JZ hb
  ·exact(by decide:1<=3)
theorem Hf(R:ac W)(s:List Nat)(hs:s.length<=52000)(hn:3<=n)(hk:kv (.lst ((tk [] s).map cg)) mu):W n (.fn 102) [.str s] mu kv ke:=by
 have l1:(aQ 40 [32,40,32] s).length<=156000:=JH (kY 40 [32,40,32] s rfl) (Kh 3 hs)
 have l2:(aQ 41 [32,41,32] (aQ 40 [32,40,32] s)).length<=468000:=JH (kY 41 [32,41,32] (aQ 40 [32,40,32] s) rfl) (Kh 3 l1)
 obtain⟨l3,l4⟩:=pF 32 (aQ 41 [32,41,32] (aQ 40 [32,40,32] s))
 have three:∀{x k:Nat},x<=k->Nat.ble (k+(k+1)*3) lim=true->x+(x+1)*3<=lim:=fun h e=>JH (KO h (KY 3 (JW h))) (JI e)
 rw[←yo]at hk
 refine R.go 102 2 (lw hn) rfl (wa (p:=s.length+(s.length+1)*3<=lim/\[40]≠[32,40,32]) ⟨three hs rfl,by decide⟩ (wa (p:=(aQ 40 [32,40,32] s).length+((aQ 40 [32,40,32] s).length+1)*3<=lim/\[41]≠[32,41,32]) ⟨three l1 rfl,by decide⟩ (wa (p:=(aQ 41 [32,41,32] (aQ 40 [32,40,32] s)).length<=lim) (aM l2 rfl) ?_)))
 exact aw 0 (t':=fT (fun v k' st=>aS lS k' fQ (st.put 2 (.val v))) ((ak 32 (aQ 41 [32,41,32] (aQ 40 [32,40,32] s))).map .str) _ ⟨[.val (.str s),.own [],.unset],mu⟩) (rY (kx:=fQ) R (lv hn) (fun w hw=>aM (JH (l4 w hw) l2) rfl) (JH (J3 (JM (Kh 2 (JH l3 (JW l2))) 0) 2) (by decide:0+2*468001+2<=lim)) fun x=>wk hk) rfl
noncomputable def wd(s:List Nat):Tk:=([119,111,114,100],s)
noncomputable def sg(s:List Nat):Tk:=([115,105,103,110],s)
noncomputable def nb(s:List Nat):Tk:=([110,117,109,98,101,114],s)
noncomputable def li(s:List Nat):Tk:=([108,105,116,101,114,97,108],s)
noncomputable def lp:Tk:=sg [40]
noncomputable def rp:Tk:=sg [41]
noncomputable def Nu.tk(n:Nu):List Tk:=if n.ng then[sg [45],nb n.fg]else[nb n.fg]
noncomputable def Sub.tk:Sub->List Tk
 | .num _ _ c _=>[nb [c]]
 | .I=>[wd [73]]
noncomputable def dU:List Sub->List Tk
 |[]=>[]
 |l=>lp::(l.flatMap Sub.tk++[rp])
noncomputable def aY:Option (Sub×Option Sub)->List Tk
 |none=>[]
 |some (b,none)=>lp::(b.tk++[sg [58],rp])
 |some (b,some l)=>lp::(b.tk++sg [58]::(l.tk++[rp]))
noncomputable def Rf.tk(r:Rf):List Tk:=wd r.nm.s::((r.q.flatMap fun g=>[wd [79,70],wd g.s])++(dU r.sub++aY r.part))
noncomputable def Op.tk:Op->List Tk
 | .rf r=>r.tk
 | .nu n=>n.tk
 | .tx t _=>[li t]
 | .fg _ b _=>[wd b]
 | .al t _=>[wd [65,76,76],li t]
noncomputable def Ex.tk:Ex->List Tk
 | .op o=>o.tk
 | .add a b=>a.tk++sg [43]::b.tk
 | .mul a=>a.tk++[sg [42],sg [45],wd [65]]
 | .sub a b=>a.tk++sg [45]::lp::(b.tk++sg [43]::(a.tk++[rp]))
noncomputable def gk(q:Bool)(l:List Tk):List Tk:=if q then lp::(l++[rp])else l
noncomputable def a9(s:List Nat):List Tk:=if s==[60,62]then[wd [78,79,84],sg [61]]else[sg s]
noncomputable def Cd.tk:Cd->List Tk:=Dh (fun s a b=>a.tk++(a9 s++b.tk)) (fun s r=>r.tk++[wd [73,83],wd s]) (fun s a=>a.tk++[wd [73,83],wd s]) (fun q=>(bj q).tk) (fun c x=>wd [78,79,84]::gk (decide (c.str < 4)) x)
 (fun a b x y=>gk (decide (a.str < 2)) x++wd [65,78,68]::gk (decide (b.str < 3)) y) (fun _ b x y=>x++wd [79,82]::gk (decide (b.str < 2)) y)
noncomputable def xV(q:Bool)(l:List Tk):List Tk:=if q then wd [78,79,84]::l else l
noncomputable def Pt.tk:Pt->List Tk
 | .any=>[wd [65,78,89]]
 | .yes=>[wd [84,82,85,69]]
 | .no=>[wd [70,65,76,83,69]]
 | .truth c=>c.tk
 | .worth e=>e.tk
 | .is e q=>xV q e.tk
 | .thru a b q=>xV q (a.tk++wd [84,72,82,85]::b.tk)
theorem i0.tk(g:i0):tk [] g.s=[wd g.s]:=(by decide+kernel:∀t∈n7,Mine.tk [] t=[wd t]) _ g.ok
theorem Nu.tk_eq(g:Nu):Mine.tk [] g.sh=g.tk:=(by decide+kernel:∀t∈Cs,Mine.tk [] (if t.2.2.1 then 45::t.2.2.2 else t.2.2.2)=if t.2.2.1 then[sg [45],nb t.2.2.2]else[nb t.2.2.2]) _ g.ok
theorem Sub.tk_eq(a:Sub):Mine.tk [] a.sh=a.tk:=by
 cases a with
 |I=>rfl
 |num n h c hc=>
  have q:=n.tk_eq
  unfold Nu.tk Nu.sh at q
  rw[h,hc]at q
  exact q
theorem lU(b:List Nat):tk [] (40::b)=lp::tk [] b:=rfl
theorem pA(a:List Nat):tk [] (a++[41])=tk [] a++[rp]:=by
 rw[show a++[41]=a++41::[]from rfl,tZ];rfl
theorem tX(b:List Nat):tk [] (32::b)=tk [] b:=rfl
theorem gr:∀l:List (List Nat),tk [] (aK [32] l)=l.flatMap (tk [])
 |[]=>rfl
 |[a]=>(JX _).symm
 |a::b::l=>by
  show tk [] (a++[32]++aK [32] (b::l))=_
  rw[JK,Kj, ←gr (b::l)]
  exact cH _ _ _
theorem sA(l:List Sub)(x:List Nat):tk [] (dW l++x)=dU l++tk [] x:=by
 cases l with
 |nil=>rfl
 |cons a l=>
  show tk [] (32::40::aK [32] ((a::l).map Sub.sh)++[41]++x)=lp::((a::l).flatMap Sub.tk++[rp])++tk [] x
  rw[JK]
  refine congrArg (lp::·) ((tZ (aK [32] ((a::l).map Sub.sh)) x []).trans ?_)
  rw[gr,List.flatMap_map,show(fun a=>tk [] (Sub.sh a))=Sub.tk from funext Sub.tk_eq]
  exact(JK _ [rp] _).symm
theorem tY(b:List Nat):tk [] (58::32::b)=sg [58]::tk [] b:=rfl
theorem sP(p:Option (Sub×Option Sub)):tk [] (cq p)=aY p:=by
 match p with
 |none=>rfl
 |some (b,none)=>simp only[cq,JK,Kv,KM,tX,lU,cH,Sub.tk_eq,aY];rfl
 |some (b,some l)=>simp only[cq,JK,Kv,KM,tX,lU,cH,pA,Sub.tk_eq,aY,tY]
theorem tk_of(b:List Nat):tk [] (79::70::32::b)=wd [79,70]::tk [] b:=rfl
theorem Cw(g:i0){x:List Nat}(h:x=[]∨∃y,x=32::y):tk [] (g.s++x)=wd g.s::tk [] x:=by
 rcases h with rfl|⟨y,rfl⟩
 ·rw[JX,i0.tk];rfl
 ·rw[cH,i0.tk];rfl
theorem t6(l:List Sub)(p:Option (Sub×Option Sub)):(dW l++cq p)=[]∨∃y,(dW l++cq p)=32::y:=by
 match l,p with
 |[],none=>exact .inl rfl
 |[],some (b,none)=>exact .inr ⟨_,rfl⟩
 |[],some (b,some l)=>exact .inr ⟨_,rfl⟩
 |_::_,p=>exact .inr ⟨_,rfl⟩
theorem s5{x:List Nat}(h:x=[]∨∃y,x=32::y)(q:List i0):∀g:i0,tk [] (aK [32,79,70,32] (g.s::q.map (·.s))++x)=wd g.s::((q.flatMap fun g=>[wd [79,70],wd g.s])++tk [] x):=by
 induction q with
 |nil=>exact fun g=>Cw g h
 |cons a q ih=>
  intro g
  show tk [] (g.s++[32,79,70,32]++aK [32,79,70,32] (a.s::q.map (·.s))++x)=_
  rw[JK,JK]
  refine(cH g.s _ _).trans ?_
  rw[i0.tk]
  exact congrArg (fun z=>[wd g.s]++(wd [79,70]::z)) (ih a)
theorem Rf.tk_eq(r:Rf):Mine.tk [] r.sh=r.tk:=by
 show Mine.tk [] (aK [32,79,70,32] (r.nm.s::r.q.map (·.s))++dW r.sub++cq r.part)=_
 rw[JK,s5 (t6 _ _),sA,sP]
 rfl
theorem Op.tk_eq(o:Op):Mine.tk [] o.sh=o.tk:=by
 cases o with
 |rf r=>exact r.tk_eq
 |nu n=>exact n.tk_eq
 |tx t h=>exact(by decide+kernel:∀t∈Bg,Mine.tk [] ([34]++t++[34])=[li t]) _ h
 |fg a b h=>exact(by decide+kernel:∀t∈AH,Mine.tk [] t.2=[wd t.2]) _ h
 |al t h=>exact(by decide+kernel:∀t∈Bg,Mine.tk [] ([65,76,76,32]++([34]++t++[34]))=[wd [65,76,76],li t]) _ h
theorem Af(b:List Nat):tk [] (43::32::b)=sg [43]::tk [] b:=rfl
theorem DO(b:List Nat):tk [] (45::32::b)=sg [45]::tk [] b:=rfl
theorem Ex.tk_eq(e:Ex):Mine.tk [] e.sh=e.tk:=by
 cases e with
 |op o=>exact o.tk_eq
 |add a b=>simp only[Ex.sh,Ex.tk,JK,Kv,KM,cH,Af,Op.tk_eq]
 |mul a=>simp only[Ex.sh,Ex.tk,JK,Kv,KM,cH,Op.tk_eq];rfl
 |sub a b=>simp only[Ex.sh,Ex.tk,JK,Kv,KM,cH,DO,lU,Af,pA,Op.tk_eq]
theorem mY(q:Bool)(s:List Nat):tk [] (br q s)=gk q (tk [] s):=by
 cases q
 ·rfl
 ·simp only[br, ↓reduceIte,gk,JK,Kv,KM,lU,pA]
theorem FB(q:Bool)(s b:List Nat):tk [] (br q s++32::b)=gk q (tk [] s)++tk [] b:=by rw[cH,mY]
theorem BX{s:List Nat}(h:dO s)(b:List Nat):tk [] (fU s++32::b)=a9 s++tk [] b:=by
 rw[cH,(by decide+kernel:∀t∈pI,tk [] (fU t)=a9 t) _ h]
theorem Ag(b:List Nat):tk [] (73::83::32::b)=wd [73,83]::tk [] b:=rfl
theorem Bj(b:List Nat):tk [] (78::79::84::32::b)=wd [78,79,84]::tk [] b:=rfl
theorem Bl(b:List Nat):tk [] (65::78::68::32::b)=wd [65,78,68]::tk [] b:=rfl
theorem DN(b:List Nat):tk [] (79::82::32::b)=wd [79,82]::tk [] b:=rfl
theorem yn(b:List Nat):tk [] (84::72::82::85::32::b)=wd [84,72,82,85]::tk [] b:=rfl
theorem Cd.tk_eq(c:Cd):Mine.tk [] c.sh=c.tk:=by
 induction c with
 |rel s h a b=>
  show Mine.tk [] (a.sh++[32]++fU s++[32]++b.sh)=a.tk++(a9 s++b.tk)
  simp only[JK,Kv,KM,cH a.sh,BX h,Op.tk_eq,Ex.tk_eq]
 |cls s h r=>
  show Mine.tk [] (r.sh++[32,73,83,32]++s)=r.tk++[wd [73,83],wd s]
  simp only[JK,Kv,KM,cH,Ag,Rf.tk_eq,(by decide+kernel:∀t∈Fz,Mine.tk [] t=[wd t]) _ h]
 |sgn s h a=>
  show Mine.tk [] (a.sh++[32,73,83,32]++s)=a.tk++[wd [73,83],wd s]
  simp only[JK,Kv,KM,cH,Ag,Ex.tk_eq,(by decide+kernel:∀t∈BN,Mine.tk [] t=[wd t]) _ h]
 |named q=>exact(bj q).tk_eq
 |not c ih=>exact(Bj _).trans (congrArg (wd [78,79,84]::·) ((mY _ _).trans (congrArg (gk _) ih)))
 |and a b ih jh=>exact(FB _ _ _).trans ((congrArg (gk _ _++·) ((Bl _).trans (congrArg (wd [65,78,68]::·) ((mY _ _).trans (congrArg (gk _) jh))))).trans (congrArg (fun t=>gk _ t++_) ih))
 |or a b ih jh=>exact(cH _ _ _).trans ((congrArg (Mine.tk [] a.sh++·) ((DN _).trans (congrArg (wd [79,82]::·) ((mY _ _).trans (congrArg (gk _) jh))))).trans (congrArg (·++_) ih))
theorem Ao(q:Bool)(s:List Nat):tk [] (nt q s)=xV q (tk [] s):=by cases q<;>rfl
theorem Pt.tk_eq(p:Pt):Mine.tk [] p.sh=p.tk:=by
 cases p with
 |any|yes|no=>rfl
 |truth c=>exact c.tk_eq
 |worth e=>exact e.tk_eq
 |is e q=>simp only[Pt.sh,Pt.tk,Ao,Ex.tk_eq]
 |thru a b q=>simp only[Pt.sh,Pt.tk,Ao,JK,Kv,KM,cH,yn,Ex.tk_eq]
noncomputable def S1.tk(s:S1):Tk:=wd s.sh
noncomputable def bh(l:List S1):List Tk:=l.map S1.tk
noncomputable def bV:List Pt->List Tk
 |[]=>[]
 |[a]=>a.tk
 |a::b::l=>a.tk++wd [65,76,83,79]::bV (b::l)
theorem yp(b:List Nat):tk [] (65::76::83::79::32::b)=wd [65,76,83,79]::tk [] b:=rfl
theorem jv:∀l:List Pt,tk [] (bO l)=bV l
 |[]=>rfl
 |[a]=>a.tk_eq
 |a::b::l=>by
  have:=jv (b::l)
  simp only[bO,List.map,aK,JK,Kv,KM,cH,yp,Pt.tk_eq,bV]at this ⊢
  rw[this]
theorem nF(l:List (List Nat)):tk [] (dh l)=l.flatMap (tk []):=by
 unfold dh
 rw[gr]
 induction l with
 |nil=>rfl
 |cons a l ih=>
  cases a with
  |nil=>simpa[tk,pC]using ih
  |cons c a=>simp[ih]
theorem S1.tk_eq(s:S1):Mine.tk [] s.sh=[s.tk]:=by cases s<;>rfl
theorem fO(l:List S1):tk [] (bK l)=bh l:=by
 unfold bK bh
 rw[gr]
 induction l with
 |nil=>rfl
 |cons a l ih=>simp[ih,S1.tk_eq]
noncomputable def nW(w:List Nat)(e:List S1):List Tk:=if e.isEmpty then[]else wd w::bh e
noncomputable def iO.tk(f:iO):List Tk:=wd [73,70]::(f.c.tk++wd [84,72,69,78]::(bh f.y++(nW [69,76,83,69] f.e++[wd [69,78,68,45,73,70]])))
theorem iO.tk_eq(f:iO):Mine.tk [] (dh f.texts)=f.tk:=by
 have h:Mine.tk [] (k7 [69,76,83,69,32] f.e)=nW [69,76,83,69] f.e:=by
  unfold k7 nW;split
  ·rfl
  ·show wd [69,76,83,69]::Mine.tk [] (bK f.e)=_;rw[fO]
 rw[nF]
 simp only[iO.texts,Kj,Le,h,Cd.tk_eq,fO,iO.tk]
 rfl
noncomputable def Wh.tk(w:Wh):List Tk:=(w.rows.flatMap fun r=>wd [87,72,69,78]::bV r)++bh w.y
noncomputable def re(e:List S1):List Tk:=if e.isEmpty then[]else wd [87,72,69,78]::wd [79,84,72,69,82]::bh e
noncomputable def Ev.tk(e:Ev):List Tk:=wd [69,86,65,76,85,65,84,69]::(bV e.subs++(e.whens.flatMap Wh.tk++(re e.other++[wd [69,78,68,45,69,86,65,76,85,65,84,69]])))
theorem Wh.tk_eq(w:Wh):w.texts.flatMap (Mine.tk [])=w.tk:=by
 simp only[Wh.texts,Wh.tk,List.flatMap_append,Kj,Le,JX,fO]
 congr 1
 induction w.rows with
 |nil=>rfl
 |cons r l ih=>
  simp only[Kq,Kj,ih]
  congr 1
  show wd [87,72,69,78]::Mine.tk [] (bO r)=_
  rw[jv]
theorem Ev.tk_eq(e:Ev):Mine.tk [] (dh e.texts)=e.tk:=by
 rw[nF]
 have h1:(bk e.other).flatMap (Mine.tk [])=re e.other:=by
  unfold bk re;split
  ·rfl
  ·simp only[Kj,Le,JX]
   show wd [87,72,69,78]::wd [79,84,72,69,82]::Mine.tk [] (bK e.other)=_;rw[fO]
 have h2:Mine.tk [] ([69,86,65,76,85,65,84,69,32]++bO e.subs)=wd [69,86,65,76,85,65,84,69]::bV e.subs:=by
  show wd [69,86,65,76,85,65,84,69]::Mine.tk [] (bO e.subs)=_;rw[jv]
 have h3:(e.whens.flatMap Wh.texts).flatMap (Mine.tk [])=e.whens.flatMap Wh.tk:=by
  rw[List.flatMap_assoc];congr 1;funext w;exact w.tk_eq
 simp only[Ev.texts,Kj,List.flatMap_append,Le,h1,h2,h3,Ev.tk,JK,JX]
 rfl
noncomputable def sK(N:V)(T:List Tk)(p:Nat):aa:=.ins 5 [(.tokens,.lst (T.map cg)),(.at_,.int p),(.named,N)]
structure ao(N:V)(T:List Tk)(r:Nat)(S:List Tk)(mu:List aa):Prop where
 here:∃p,mu[r]? =some (sK N T p)/\T.drop p=S
 len:T.length<=400000
 ne:T≠[]
structure aN(r:Nat)(mu mu':List aa):Prop where
 len:mu.length<=mu'.length
 at_:∀j,j < mu.length->j≠r->mu'[j]? =mu[j]?
theorem aN.refl(r:Nat)(mu:List aa):aN r mu mu:=⟨JL _,fun _ _ _=>rfl⟩
theorem aN.trans{r:Nat}{a b c:List aa}(h:aN r a b)(g:aN r b c):aN r a c:=
 ⟨JH h.len g.len,fun j hj hr=>by rw[g.at_ j (Ka hj h.len) hr,h.at_ j hj hr]⟩
theorem aN.set(r:Nat)(mu:List aa)(x:aa):aN r mu (mu.set r x):=
 ⟨JZ Lj.symm,fun j _ hr=>Ko (Ne.symm hr)⟩
theorem aN.add(r:Nat)(mu:List aa)(x:aa):aN r mu (mu++[x]):=
 ⟨JU▸JV _ _,fun j hj _=>J6 hj⟩
theorem ib{mu:List aa}{r:Nat}{x:aa}(h:mu[r]? =some x):r < mu.length:=(JT.mp h).1
theorem dj{mu:List aa}{r:Nat}{x y:aa}(h:mu[r]? =some x):(mu.set r y)[r]? =some y:=
 Ks (ib h)
theorem tq{T S:List Tk}{t:Tk}{p:Nat}(h:T.drop p=t::S):T.drop (p+1)=S:=by
 rw[←List.drop_drop,h];rfl
noncomputable def pk(S:List Tk)(k:Nat):V:=match S[k]? with
 |some t=>cg t
 |none=>.none
noncomputable def Ax(S:List Tk)(k:Nat)(a:List Nat):Bool:=match S[k]? with
 |some t=>t.1==a
 |none=>false
noncomputable def bM(S:List Tk)(k:Nat)(a:List Nat):Bool:=match S[k]? with
 |some t=>t.1==[119,111,114,100]&&t.2==a
 |none=>false
noncomputable def isS(S:List Tk)(k:Nat)(a:List Nat):Bool:=match S[k]? with
 |some t=>t.1==[115,105,103,110]&&t.2==a
 |none=>false
theorem dB{n:Nat}{i:Int}{j:Nat}(hi:i=j)(h:j < n)(hn:n<=400000):eE n i=some j:=by
 subst hi
 show cond (Nat.blt j n) (cond (Nat.ble j lim) (some j) none) none=_
 rw[show Nat.blt j n=true from Nat.ble_eq_true_of_le h,show Nat.ble j lim=true from Nat.ble_eq_true_of_le (Lh (Ka h (JH hn (by decide))))]
 rfl
theorem je{T:List Tk}(h:T.length<=400000):(T.map cg).length<=lim:=JH (aB h) (by decide)
theorem c70{U:Call}(h:ao N T r S mu)(k:Nat)(hk:kv (pk S k) mu):wP U (aS FH (ax kv) (aG ke) ⟨[.val (.obj r),.val (.int k)],mu⟩):=by
 obtain⟨⟨p,hr,D⟩,hT,_⟩:=h
 have g:T[p+k]? =S[k]? :=by rw[←D,Ls]
 have e0:decide (((p:Int)+(k:Int)) < ((T.map cg).length:Int))=decide (p+k < T.length):=LQ.mpr (by rw[JQ];exact Int.ofNat_lt)
 refine wl hr (wl hr (wa (je hT) ?_))
 unfold pk at hk
 rw[←g]at hk
 cases e1:decide (p+k < T.length)with
 |true=>
  have hl:=JN e1
  have e2:T[p+k]? =some (T[p+k]):=J4 hl
  rw[e2]at hk
  refine wt (e0.trans e1) (wl hr (wl hr ?_))
  refine aw 0 (t':=opt ((eE (T.map cg).length ((p:Int)+(k:Int))).bind ((T.map cg)[·]?)) fun v=>.hold (kv v mu)) ?_ (by kernel_rfl)
  rw[dB (n:=(T.map cg).length) (i:=(p:Int)+(k:Int)) (j:=p+k) rfl (JQ cg▸hl) (aB hT)]
  show wP U (opt ((T.map cg)[p+k]?) _)
  rw[K3,e2]
  exact wk hk
 |false=>
  rw[K4 (KB (Lg e1))]at hk
  exact wt (e0.trans e1) (wk hk)
theorem sw(R:ac W)(h:ao N T r S mu)(k:Nat)(hn:1<=n)(hk:kv (pk S k) mu):W n (.fn 70) [.obj r,.int k] mu kv ke:=
 R.go 70 0 hn rfl (wq (c70 (ke:=ke) h k hk))
theorem sq(R:ac W)(h:ao N T r S mu)(hn:1<=n)(hk:kv (pk S 0) mu):W n (.fn 70) [.obj r] mu kv ke:=
 R.go 70 0 hn rfl (wq (c70 (ke:=ke) h 0 hk))
theorem zB(l:List V)(h0:l≠[])(hl:l.length<=400000)(p:Nat):∃v,v∈l/\(eE l.length (if((l.length:Int) - 1) < (p:Int)then((l.length:Int) - 1)else(p:Int))).bind (l[·]?)=some v:=by
 have h1:=List.length_pos_iff.mpr h0
 split
 ·refine⟨l[l.length - 1]'(Nat.sub_lt h1 Nat.one_pos),List.getElem_mem _,?_⟩
  rw[dB (j:=l.length - 1) (show(l.length:Int) - 1=((l.length - 1:Nat):Int)from(Int.ofNat_sub h1).symm) (Nat.sub_lt h1 Nat.one_pos) hl]
  exact J4 _
 ·rename_i hp
  have hp:p < l.length:=Int.ofNat_lt.mp (Int.lt_of_le_sub_one (KK.mp hp))
  exact⟨l[p],List.getElem_mem _,by rw[dB rfl hp hl];exact J4 _⟩
theorem t72(R:ac W)(h:ao N T r S mu)(w:List Nat)(hn:3<=n)(hk:kv (.obj mu.length) (mu++[.ins 2 []])):W n (.fn 72) [.obj r,.str w] mu kv ke:=by
 obtain⟨m,rfl⟩:=J2 hn
 obtain⟨⟨p,hr,D⟩,hT,h0⟩:=h
 obtain⟨v,hv,ei⟩:=zB (T.map cg) (fun e=>h0 (List.map_eq_nil_iff.mp e)) (aB hT) p
 obtain⟨u,_,rfl⟩:=J5.mp hv
 cases T with
 |nil=>exact absurd rfl h0
 |cons t T=>
  refine R.go 72 0 (lw hn) rfl (wl hr (wa (je hT) (wl hr (wl hr (wl hr (wa (je hT) ?_))))))
  refine aw 0 (t':=opt ((eE ((t::T).map cg).length (if((((t::T).map cg).length:Int) - 1) < (p:Int)then((((t::T).map cg).length:Int) - 1)else(p:Int))).bind (((t::T).map cg)[·]?)) fun v=>xh v .at_ ⟨[.val (.obj r),.val (.str w)],mu⟩ fun x=>.call (.cls 2) [.str w,x] mu (fun v mu=>.hold (kv v mu)) fun c mu=>.hold (ke c mu)) ?_ (by kernel_rfl)
  rw[ei]
  exact wc (mu:=mu) (R.exc (n:=m) (args:=[.str w,.tup [.int 0,.int 0]]) (.inr rfl) (wk hk))
theorem t71(R:ac W)(h:ao N T r S mu)(hn:1<=n)(hk:kv (.bool S.isEmpty) mu):W n (.fn 71) [.obj r] mu kv ke:=by
 obtain⟨⟨p,hr,D⟩,hT,_⟩:=h
 have e:decide (((T.map cg).length:Int)<=(p:Int))=S.isEmpty:=by
  rw[←D,JQ,LQ.mpr Int.ofNat_le]
  cases e:(T.drop p)with
  |nil=>exact Kt (List.drop_eq_nil_iff.mp e)
  |cons a b=>exact Kg fun h=>nomatch (List.drop_eq_nil_iff.mpr h).symm.trans e
 exact R.go 71 0 hn rfl (wl hr (wl hr (wa (je hT) (wt e (wk hk)))))
theorem Gz{t:Tk}{p:Nat}(h:ao N T r (t::S) mu)(hr:mu[r]? =some (sK N T p))(D:T.drop p=t::S):ao N T r S (mu.set r (sK N T (p+1))):=
 ⟨⟨p+1,dj hr,tq D⟩,h.len,h.ne⟩
theorem tI(R:ac W){t:Tk}(h:ao N T r (t::S) mu)(hn:2<=n)(hk:∀mu',ao N T r S mu'->aN r mu mu'->kv (cg t) mu'):W n (.fn 73) [.obj r] mu kv ke:=by
 obtain⟨p,hr,D⟩:=h.here
 refine R.go 73 1 (lw hn) rfl ?_
 exact wl hr (wc (sq R h (lv hn) (wl hr (wl hr (wk (hk _ (Gz h hr D) (aN.set _ _ _)))))))
theorem c74(R:ac W)(h:ao N T r S mu)(k:Nat)(a:List Nat)(hn:1<=n)(hk:kv (.bool (Ax S k a)) mu):wP (W n) (aS FG (ax kv) (aG ke) ⟨[.val (.obj r),.val (.str a),.val (.int k),.unset],mu⟩):=by
 obtain⟨p,hr,D⟩:=h.here
 refine wl hr (wc (sw R h k hn ?_))
 unfold Ax at hk
 unfold pk
 generalize S[k]? =o at hk ⊢
 cases o with
 |none=>exact wk hk
 |some t=>exact wt (b:=t.1==a) rfl (wk hk)
theorem DU(R:ac W)(h:ao N T r S mu)(k:Nat)(a:List Nat)(hn:2<=n)(hk:kv (.bool (Ax S k a)) mu):W n (.fn 74) [.obj r,.str a,.int k] mu kv ke:=
 R.go 74 1 (lw hn) rfl (wq (c74 (ke:=ke) R h k a (lv hn) hk))
theorem kC(R:ac W)(h:ao N T r S mu)(a:List Nat)(hn:2<=n)(hk:kv (.bool (Ax S 0 a)) mu):W n (.fn 74) [.obj r,.str a] mu kv ke:=
 R.go 74 1 (lw hn) rfl (wq (c74 (ke:=ke) R h 0 a (lv hn) hk))
theorem sj(R:ac W)(h:ao N T r S mu)(a:List Nat)(ha:ak 32 a=[a])(hl:a.length<=100)(hn:3<=n)(hk:kv (.bool (bM S 0 a)) mu):W n (.fn 75) [.obj r,.str a] mu kv ke:=by
 obtain⟨p,hr,D⟩:=h.here
 refine R.go 75 2 (lw hn) rfl (wa (aM hl rfl) (aw 0 (t':=fT (fun v k' st=>aS [.ite (.or [(.not (.mcall (.x 0) .isKind [(.c (.str [119,111,114,100])),(.x 2)])),(.cmp .ne (.attr (.mcall (.x 0) .peek [(.x 2)]) .worth) (.x 3))]) [.ret (.c (.bool false))] [],.asg 2 (.bin .add (.x 2) (.c (.int 1)))] k' fQ (st.put 3 (.val v))) ((ak 32 a).map .str) (kJ (ax kv) fun st=>aS [.ret (.c (.bool true))] (ax kv) (aG ke) st) ⟨[.val (.obj r),.val (.str a),.val (.int 0),.unset],mu⟩) ?_ (by kernel_rfl)))
 rw[ha]
 refine wl hr (wc (DU R h 0 [119,111,114,100] (lv hn) ?_))
 cases S with
 |nil=>exact wk hk
 |cons t S=>
  replace hk:kv (.bool (t.1==[119,111,114,100]&&t.2==a)) mu:=hk
  show xS _ _ (.bool (t.1==[119,111,114,100])) mu
  cases hb:t.1==[119,111,114,100]with
  |false=>rw[hb]at hk;exact wk hk
  |true=>
   rw[hb]at hk
   refine wl hr (wc (sw R h 0 (lv hn) ?_))
   cases hb2:t.2==a<;>(rw[hb2]at hk;exact wt hb2 (wk hk))
theorem cT(R:ac W){t:Tk}(h:ao N T r (t::S) mu)(a:List Nat)(ha:ak 32 a=[a])(hl:a.length<=100)(hw:bM (t::S) 0 a=true)(hn:4<=n)(hk:∀mu',ao N T r S mu'->aN r mu mu'->kv (.bool true) mu'):W n (.fn 76) [.obj r,.str a] mu kv ke:=by
 obtain⟨p,hr,D⟩:=h.here
 refine R.go 76 0 (lw hn) rfl ?_
 refine wl hr (wc (sj R h a ha hl (lv hn) ?_))
 rw[hw]
 have e:((ak 32 a).map V.str).length=1:=by rw[ha];rfl
 exact wl hr (wa (aM hl rfl) (wa (p:=((ak 32 a).map V.str).length<=lim) (e▸by decide) (wl hr (wk (p:=kv (.bool true) (mu.set r (.ins 5 [(.tokens,.lst (T.map cg)),(.at_,.int (p+(((ak 32 a).map V.str).length:Nat))),(.named,N)]))) (by rw[e];exact hk _ (Gz h hr D) (aN.set _ _ _))))))
theorem bP(R:ac W)(h:ao N T r S mu)(a:List Nat)(ha:ak 32 a=[a])(hl:a.length<=100)(hw:bM S 0 a=false)(hn:4<=n)(hk:kv (.bool false) mu):W n (.fn 76) [.obj r,.str a] mu kv ke:=by
 obtain⟨p,hr,D⟩:=h.here
 refine R.go 76 0 (lw hn) rfl ?_
 refine wl hr (wc (sj R h a ha hl (lv hn) ?_))
 rw[hw]
 exact wk (hk)
theorem GL(R:ac W){t:Tk}(h:ao N T r (t::S) mu)(a:List Nat)(ha:ak 32 a=[a])(hl:a.length<=100)(hw:bM (t::S) 0 a=true)(hn:5<=n)(hk:∀mu',ao N T r S mu'->aN r mu mu'->kv .none mu'):W n (.fn 77) [.obj r,.str a] mu kv ke:=by
 obtain⟨p,hr,D⟩:=h.here
 refine R.go 77 0 (lw hn) rfl ?_
 refine wl hr (wc (cT R h a ha hl hw (lv hn) fun mu' h1 h2=>?_))
 exact wk (hk mu' h1 h2)
theorem GJ(R:ac W)(h:ao N T r (t::S) mu)(hw:bM (t::S) 0 [79,70]=true)(hn:5<=n)(hk:∀mu',ao N T r S mu'->aN r mu mu'->kv (.str [79,70]) mu'):W n (.fn 78) [.obj r,.str [79,70,32,73,78]] mu kv ke:=by
 obtain⟨p,hr,D⟩:=h.here
 refine R.go 78 1 (lw hn) rfl ?_
 refine ai 1 ?_
 refine wl hr (wc (cT R h [79,70] rfl (by decide) hw (lv hn) fun mu' h1 h2=>?_))
 exact wk (hk mu' h1 h2)
theorem GK(R:ac W)(h:ao N T r S mu)(hw:bM S 0 [79,70]=false)(hw2:bM S 0 [73,78]=false)(hn:5<=n)(hk:kv (.str []) mu):W n (.fn 78) [.obj r,.str [79,70,32,73,78]] mu kv ke:=by
 obtain⟨p,hr,D⟩:=h.here
 refine R.go 78 1 (lw hn) rfl ?_
 refine ai 1 ?_
 refine wl hr (wc (bP R h [79,70] rfl (by decide) hw (lv hn) ?_))
 refine wl hr (wc (bP R h [73,78] rfl (by decide) hw2 (lv hn) ?_))
 exact wk (hk)
noncomputable def nQ(w:List Nat):Bool:=subAt ([32]++w++[32]) dk
theorem t67(R:ac W)(w:List Nat)(hl:w.length<=1000)(hn:1<=n)(hk:kv (.bool (nQ w)) mu):W n (.fn 67) [.str w] mu kv ke:=by
 refine R.go 67 0 (lw hn) rfl ?_
 exact aq (ln [32]) hl rfl (by kernel_rfl) fun a1=>aq a1 (ln [32]) rfl (by kernel_rfl) fun _=>wt (b:=nQ w) rfl (wk hk)
noncomputable def HD(S:List Tk)(k:Nat):Bool:=match S[k]? with
 |some t=>t.1==[119,111,114,100]&& !nQ t.2
 |none=>false
theorem DS(R:ac W)(h:ao N T r S mu)(hl:∀t∈S.head?,t.2.length<=1000)(hn:3<=n)(hk:kv (.bool (HD S 0)) mu):W n (.fn 80) [.obj r] mu kv ke:=by
 obtain⟨p,hr,D⟩:=h.here
 refine R.go 80 0 (lw hn) rfl (wl hr (wc (DU R h 0 [119,111,114,100] (lv hn) ?_)))
 cases S with
 |nil=>exact wk hk
 |cons t S=>
  replace hk:kv (.bool (t.1==[119,111,114,100]&& !nQ t.2)) mu:=hk
  show xS _ _ (.bool (t.1==[119,111,114,100])) mu
  cases hb:t.1==[119,111,114,100]with
  |false=>rw[hb]at hk;exact wk hk
  |true=>
   rw[hb]at hk
   exact wl hr (wc (sw R h 0 (lv hn) (wc (mu:=mu) (t67 R t.2 (hl t rfl) (lv hn) (wk hk)))))
theorem DR(R:ac W){w:List Nat}(h:ao N T r (wd w::S) mu)(hl:w.length<=1000)(hw:nQ w=false)(hn:4<=n)(hk:∀mu',ao N T r S mu'->aN r mu mu'->kv (.str w) mu'):W n (.fn 81) [.obj r] mu kv ke:=by
 obtain⟨p,hr,D⟩:=h.here
 refine R.go 81 0 (lw hn) rfl ?_
 refine wl hr (wc (DS R h (by rintro _ ⟨⟩;exact hl) (lv hn) ?_) rfl)
 rw[show HD (wd w::S) 0=true from congrArg (!·) hw]
 refine wl hr (wc (tI R h (lv hn) fun mu' h1 h2=>?_))
 exact wk (hk mu' h1 h2)
theorem GI(R:ac W)(h:ao N T r S mu)(hl:∀t∈S.head?,t.2.length<=1000)(hw:HD S 0=false)(hn:4<=n)(hk:ke 2 (mu++[.dead])):W n (.fn 81) [.obj r] mu kv ke:=by
 obtain⟨p,hr,D⟩:=h.here
 refine R.go 81 0 (lw hn) rfl ?_
 refine wl hr (wc (DS R h hl (lv hn) ?_))
 rw[hw]
 exact wl hr (wc (t72 R h [97,32,110,97,109,101,32,105,115,32,97,115,107,101,100,32,104,101,114,101] (lv hn) (wl (cX mu (.ins 2 [])) (wk (p:=ke 2 ((mu++[aa.ins 2 []]).set mu.length .dead)) (by rw[i8];exact hk)))))
theorem c83(R:ac W)(h:ao N T r S mu)(k:Nat)(a:List Nat)(hn:2<=n)(hk:kv (.bool (isS S k a)) mu):wP (W n) (aS FF (ax kv) (aG ke) ⟨[.val (.obj r),.val (.str a),.val (.int k)],mu⟩):=by
 obtain⟨p,hr,D⟩:=h.here
 refine wl hr (wc (DU R h k [115,105,103,110] hn ?_))
 revert hk
 unfold isS Ax
 generalize e:S[k]? =o
 cases o with
 |none=>exact fun hk=>wk hk
 |some t=>
  show kv (.bool (t.1==[115,105,103,110]&&t.2==a)) mu->xS _ _ (.bool (t.1==[115,105,103,110])) mu
  cases hb:t.1==[115,105,103,110]with
  |false=>exact fun hk=>wk hk
  |true=>
   refine fun hk=>wl hr (wc (sw R h k (lw hn) ?_))
   rw[show pk S k=cg t by unfold pk;rw[e]]
   exact wt (b:=t.2==a) rfl (wk hk)
theorem si(R:ac W)(h:ao N T r S mu)(k:Nat)(a:List Nat)(hn:3<=n)(hk:kv (.bool (isS S k a)) mu):W n (.fn 83) [.obj r,.str a,.int k] mu kv ke:=
 R.go 83 0 (lw hn) rfl (wq (c83 (ke:=ke) R h k a (lv hn) hk))
theorem gY(R:ac W)(h:ao N T r S mu)(a:List Nat)(hn:3<=n)(hk:kv (.bool (isS S 0 a)) mu):W n (.fn 83) [.obj r,.str a] mu kv ke:=
 R.go 83 0 (lw hn) rfl (wq (c83 (ke:=ke) R h 0 a (lv hn) hk))
theorem zU(a:List Nat):(a==a)=true:=BEq.rfl
theorem t7(R:ac W){a:List Nat}(h:ao N T r (sg a::S) mu)(hn:4<=n)(hk:∀mu',ao N T r S mu'->aN r mu mu'->kv (.bool true) mu'):W n (.fn 84) [.obj r,.str a] mu kv ke:=by
 obtain⟨p,hr,D⟩:=h.here
 refine R.go 84 0 (lw hn) rfl ?_
 refine wl hr (wc (gY R h a (lv hn) ?_))
 rw[show isS (sg a::S) 0 a=true from zU a]
 exact wl hr (wl hr (wk (hk _ (Gz h hr D) (aN.set _ _ _))))
theorem sf(R:ac W)(h:ao N T r S mu){a:List Nat}(hs:isS S 0 a=false)(hn:4<=n)(hk:kv (.bool false) mu):W n (.fn 84) [.obj r,.str a] mu kv ke:=by
 obtain⟨p,hr,D⟩:=h.here
 refine R.go 84 0 (lw hn) rfl ?_
 refine wl hr (wc (gY R h a (lv hn) ?_))
 rw[hs]
 exact wk (hk)
theorem kA(R:ac W){a:List Nat}(h:ao N T r (sg a::S) mu)(hn:5<=n)(hk:∀mu',ao N T r S mu'->aN r mu mu'->kv .none mu'):W n (.fn 85) [.obj r,.str a] mu kv ke:=by
 obtain⟨p,hr,D⟩:=h.here
 refine R.go 85 0 (lw hn) rfl ?_
 refine wl hr (wc (t7 R h (lv hn) fun mu' h1 h2=>?_))
 exact wk (hk mu' h1 h2)
theorem GH(R:ac W)(h:ao N T r S mu){a:List Nat}(ha:a.length<=100)(hs:isS S 0 a=false)(hn:5<=n)(hk:ke 2 (mu++[.dead])):W n (.fn 85) [.obj r,.str a] mu kv ke:=by
 obtain⟨p,hr,D⟩:=h.here
 refine R.go 85 0 (lw hn) rfl ?_
 refine wl hr (wc (sf R h hs (lv hn) ?_))
 exact wl hr (aq ha (ln [32,105,115,32,97,115,107,101,100,32,104,101,114,101]) rfl (by kernel_rfl) fun _=>wc (t72 R h (a++[32,105,115,32,97,115,107,101,100,32,104,101,114,101]) (lv hn) (wl (cX mu (.ins 2 [])) (wk (p:=ke 2 ((mu++[aa.ins 2 []]).set mu.length .dead)) (by rw[i8];exact hk)))))
noncomputable def Aw(S:List Tk):Bool:=if isS S 0 [43]||isS S 0 [45]then Ax S 1 [110,117,109,98,101,114]else Ax S 0 [110,117,109,98,101,114]
theorem Bm(R:ac W)(h:ao N T r S mu)(hn:4<=n)(hk:kv (.bool (Aw S)) mu):W n (.fn 86) [.obj r] mu kv ke:=by
 obtain⟨p,hr,D⟩:=h.here
 refine R.go 86 0 (lw hn) rfl ?_
 refine wl hr (wc (gY R h [43] (lv hn) ?_))
 unfold Aw at hk
 revert hk
 cases hb:isS S 0 [43]with
 |true=>exact fun hk=>wl hr (wc (DU R h 1 [110,117,109,98,101,114] (lv hn) (wk hk)))
 |false=>
  refine fun hk=>wl hr (wc (gY R h [45] (lv hn) ?_))
  revert hk
  cases hb2:isS S 0 [45]with
  |true=>exact fun hk=>wl hr (wc (DU R h 1 [110,117,109,98,101,114] (lv hn) (wk hk)))
  |false=>exact fun hk=>wl hr (wc (kC R h [110,117,109,98,101,114] (lv hn) (wk hk)))
theorem t87(R:ac W){x:List Nat}{u:Int}{s:Nat}(h:ao N T r (nb x::S) mu)(hf:pd x u s)(hn:6<=n)(hk:∀mu',ao N T r S mu'->aN r mu mu'->kv (.tup [.int u,.int s]) mu'):W n (.fn 87) [.obj r] mu kv ke:=by
 obtain⟨p,hr,D⟩:=h.here
 refine R.go 87 2 (lw hn) rfl ?_
 refine wl hr (wc (Bm R h (lv hn) ?_))
 refine wl hr (wc (sf (a:=[45]) R h rfl (lv hn) ?_))
 refine wl hr (wc (sf (a:=[43]) R h rfl (lv hn) ?_))
 refine wl hr (wc (tI R h (lv hn) fun mu' h1 h2=>?_))
 refine wc (mu:=mu') (t9 R (lv hn) hf ?_)
 exact wk (hk mu' h1 h2)
theorem t68(R:ac W){x:List Nat}(hx:gS x)(hn:1<=n)(hk:kv (.bytes x) mu):W n (.fn 68) [.str x] mu kv ke:=by
 refine R.go 68 3 hn rfl (All.mem (a:=x) (l:=Bg) (P:=fun x=>kv (.bytes x) mu->wP (W (n - 1)) (kF 68 3 [.str x] kv ke mu)) ?_ hx hk)
 exact⟨fun hk=>ws 1 (ws 0 (ws 1 (ws 0 (ai 60 (wk hk))))),fun hk=>ws 1 (ws 1 (ai 60 (wk hk))),fun hk=>ws 1 (ws 1 (ai 60 (wk hk))),fun hk=>ws 1 (ws 0 (ws 0 (ws 0 (ws 1 (ws 0 (ws 0 (ws 0 (ai 60 (wk hk))))))))),fun hk=>ws 1 (ws 0 (ws 1 (ws 0 (ai 60 (wk hk))))),trivial⟩
theorem t90(R:ac W){x:List Nat}(hx:gS x)(h:ao N T r (li x::S) mu)(hn:6<=n)(hk:∀mu',ao N T r S mu'->aN r mu mu'->kv (.bytes x) mu'):W n (.fn 90) [.obj r] mu kv ke:=by
 obtain⟨p,hr,D⟩:=h.here
 refine R.go 90 1 (lw hn) rfl ?_
 refine wl hr (wc (kC R h [108,105,116,101,114,97,108] (lv hn) ?_))
 refine wl hr (wc (sq R h (lv hn) ?_))
 refine wc (mu:=mu) (t68 R hx (lv hn) ?_)
 exact wl hr (wl hr (wk (hk _ (Gz h hr D) (aN.set _ _ _))))
noncomputable def sgA(S:List Tk)(l:List (List Nat)):List Nat:=match S[0]? with
 |some t=>if t.1==[115,105,103,110]&&l.any (·==t.2)then t.2 else[]
 |none=>[]
theorem ph(R:ac W)(h:ao N T r S mu)(l:List (List Nat))(hn:2<=n)(hk:kv (.str (sgA S l)) mu):W n (.fn 26) [.obj r,.tup (l.map .str)] mu kv ke:=by
 obtain⟨p,hr,D⟩:=h.here
 refine R.go 26 1 (lw hn) rfl (wl hr (wc (sq R h (lv hn) ?_)))
 cases S with
 |nil=>exact wk hk
 |cons t S=>
  replace hk:kv (.str (if(t.1==[115,105,103,110]&&l.any (·==t.2))=true then t.2 else[])) mu:=hk
  show xS _ _ (cg t) mu
  cases hb:t.1==[115,105,103,110]with
  |false=>rw[hb]at hk;exact wt hb (wk hk)
  |true=>
   rw[hb]at hk
   refine wt hb (aw 0 (t':=opt (cz (l.map V.str)) fun ss=>.test (ss.any (·==t.2)) fun r=>cond (!r) (.hold (kv (.str []) mu)) (.hold (kv (.str t.2) mu))) ?_ (by kernel_rfl))
   rw[gc]
   cases hb2:l.any (·==t.2)<;>(rw[hb2]at hk;exact wt hb2 (wk hk))
noncomputable def hd(S:List Tk):Nat:=match S[0]? with
 |none=>4
 |some t=>if t.1==[115,105,103,110]then(if t.2==[40]then 0 else if t.2==[42,42]then 1 else if t.2==[42]||t.2==[47]then 2 else if t.2==[43]||t.2==[45]then 3 else 4)
  else if t.1==[119,111,114,100]&&(t.2==[79,70]||t.2==[73,78])then 0 else 4
theorem BO(S:List Tk)(l:List (List Nat)):sgA S l=[]∨∃x∈l,∃S',S=sg x::S':=by
 cases S with
 |nil=>exact .inl rfl
 |cons t S=>
  show(if(t.1==[115,105,103,110]&&l.any (·==t.2))=true then t.2 else[])=[]∨_
  split
  ·rename_i e
   obtain⟨e1,e2⟩:=JP.mp e
   obtain⟨x,hx,e3⟩:=LX.mp e2
   exact .inr ⟨x,hx,S,congrArg (·::S) (Prod.ext (eq_of_beq e1) (eq_of_beq e3).symm)⟩
  ·exact .inl rfl
theorem vK(S:List Tk)(w:List Nat):bM S 0 w=false∨∃S',S=wd w::S':=by
 cases S with
 |nil=>exact .inl rfl
 |cons t S=>
  cases e:bM (t::S) 0 w with
  |false=>exact .inl rfl
  |true=>
   obtain⟨e1,e2⟩:=JP.mp e
   exact .inr ⟨S,congrArg (·::S) (Prod.ext (eq_of_beq e1) (eq_of_beq e2))⟩
theorem vM(S:List Tk)(w:List Nat):isS S 0 w=false∨∃S',S=sg w::S':=by
 cases S with
 |nil=>exact .inl rfl
 |cons t S=>
  cases e:isS (t::S) 0 w with
  |false=>exact .inl rfl
  |true=>
   obtain⟨e1,e2⟩:=JP.mp e
   exact .inr ⟨S,congrArg (·::S) (Prod.ext (eq_of_beq e1) (eq_of_beq e2))⟩
theorem HH(h:1<=hd S):bM S 0 [79,70]=false/\bM S 0 [73,78]=false/\isS S 0 [40]=false:=by
 refine⟨(vK S _).elim id ?_,(vK S _).elim id ?_,(vM S _).elim id ?_⟩<;>(rintro⟨S',rfl⟩;cases h)
theorem HG{l:List (List Nat)}{k:Nat}(h:k<=hd S)(q:All (fun x=>∀S,hd (sg x::S) < k) l):sgA S l=[]:=by
 rcases BO S l with e|⟨x,hx,S',rfl⟩
 ·exact e
 ·exact absurd h (Mm (q.mem hx S'))
theorem hd2(h:2<=hd S):sgA S [[42,42]]=[]:=HG h ⟨fun _=>JL 2,trivial⟩
theorem C5(h:3<=hd S):sgA S [[42],[47]]=[]:=HG h ⟨fun _=>JL 3,fun _=>JL 3,trivial⟩
theorem hd4(h:4<=hd S):sgA S [[43],[45]]=[]:=HG h ⟨fun _=>JL 4,fun _=>JL 4,trivial⟩
noncomputable def Sub.t:Sub->Tk
 | .num _ _ c _=>nb [c]
 | .I=>wd [73]
theorem Sub.tk_t(a:Sub):a.tk=[a.t]:=by cases a<;>rfl
theorem Sub.t_sg(a:Sub):(a.t.1==[115,105,103,110])=false:=by cases a<;>rfl
theorem mj{k:Nat}{t:Tk}(h:S[k]? =some t):pk S k=cg t:=by unfold pk;rw[h]
theorem jN{k:Nat}{t:Tk}(h:S[k]? =some t)(x:List Nat):isS S k x=(t.1==[115,105,103,110]&&t.2==x):=by unfold isS;rw[h]
theorem Sub.isS(a:Sub)(x:List Nat)(k:Nat)(hk:S[k]? =some a.t):Mine.isS S k x=false:=by rw[jN hk,a.t_sg];rfl
theorem G6(R:ac W)(h:ao N T r S mu)(hs:isS S 0 [40]=false)(hn:4<=n)(hk:kv (.bool false) mu):W n (.fn 14) [.obj r] mu kv ke:=by
 obtain⟨p,hr,D⟩:=h.here
 refine R.go 14 2 (lw hn) rfl ?_
 refine wr 1 ?_
 refine wl hr (wc (gY R h _ (lv hn) ?_) rfl)
 rw[hs]
 exact wk (hk)
theorem DZ(R:ac W){a:Sub}(h:ao N T r (lp::(a.tk++sg [58]::S)) mu)(hn:4<=n)(hk:kv (.bool true) mu):W n (.fn 14) [.obj r] mu kv ke:=by
 rw[a.tk_t]at h
 obtain⟨p,hr,D⟩:=h.here
 have z:∀x,Mine.isS (lp::([a.t]++sg [58]::S)) 1 x=false:=fun x=>a.isS x 1 rfl
 refine R.go 14 2 (lw hn) rfl ?_
 refine wr 5 ?_
 refine wl hr (wc (gY R h [40] (lv hn) ?_))
 refine wl hr (wc (sw R h 0 (lv hn) ?_))
 refine wl hr (wc (si R h 0 [40] (lv hn) ?_))
 refine wl hr (wc (sw R h 1 (lv hn) ?_))
 refine wl hr (wc (si R h 1 [40] (lv hn) ?_))
 rw[z]
 refine wl hr (wc (si R h 1 [41] (lv hn) ?_))
 rw[z]
 refine wl hr (wc (si R h 1 [58] (lv hn) ?_))
 rw[z]
 refine wl hr (wc (sw R h 2 (lv hn) ?_))
 refine wl hr (wc (si R h 2 [40] (lv hn) ?_))
 refine wl hr (wc (si R h 2 [41] (lv hn) ?_))
 refine wl hr (wc (si R h 2 [58] (lv hn) ?_))
 exact wk (hk)
theorem rE{t:Tk}{Z:List Tk}{k:Nat}(e:S.drop k=t::Z):S[k]? =some t:=by
 have:=Ls (xs:=S) (i:=k) (j:=0)
 rw[e]at this
 exact this.symm
theorem BC(R:ac W)(h:ao N T r S mu){K:KF}{m k:Nat}(a:Sub)(hS:S[k]? =some a.t)(hn:3<=n)(hU:wP (W n) (fR qn[1]? K m ⟨[.val (.obj r),.val (.int 1),.val (.int ((k+1:Nat):Int))],mu⟩)):
  wP (W n) (fR qn[1]? K (m+1) ⟨[.val (.obj r),.val (.int 1),.val (.int k)],mu⟩):=by
 obtain⟨p,hr,D⟩:=h.here
 have hz:∀x,Mine.isS S k x=false:=fun x=>a.isS x k hS
 refine wl hr (wc (sw R h k (lw hn) ?_))
 rw[mj hS]
 refine wl hr (wc (si R h k [40] (lw hn) ?_))
 rw[hz]
 refine wl hr (wc (si R h k [41] (lw hn) ?_))
 rw[hz]
 refine wl hr (wc (si R h k [58] (lw hn) ?_))
 rw[hz]
 exact wq hU
theorem Fm(R:ac W)(h:ao N T r S mu){K:KF}{m k:Nat}(hS:S[k]? =some rp)(hn:3<=n)(hU:wP (W n) (fR qn[1]? K m ⟨[.val (.obj r),.val (.int 0),.val (.int ((k+1:Nat):Int))],mu⟩)):
  wP (W n) (fR qn[1]? K (m+1) ⟨[.val (.obj r),.val (.int 1),.val (.int k)],mu⟩):=by
 obtain⟨p,hr,D⟩:=h.here
 refine wl hr (wc (sw R h k (lw hn) ?_))
 rw[mj hS]
 refine wl hr (wc (si R h k [40] (lw hn) ?_))
 rw[jN hS]
 refine wl hr (wc (si R h k [41] (lw hn) ?_))
 rw[jN hS]
 exact wq hU
theorem Bw(R:ac W)(h:ao N T r S mu){K:KF}(hn:3<=n)(m:Nat)(Z:List Tk)(l:List Sub):∀k:Nat,S.drop k=l.flatMap Sub.tk++rp::Z->
  (∀k:Nat,wP (W n) (fR qn[1]? K m ⟨[.val (.obj r),.val (.int 0),.val (.int ((k+1:Nat):Int))],mu⟩))->
  wP (W n) (fR qn[1]? K (m+1+l.length) ⟨[.val (.obj r),.val (.int 1),.val (.int k)],mu⟩):=by
 induction l with
 |nil=>exact fun k e hU=>Fm R h (rE e) hn (hU k)
 |cons a l ih=>
  intro k e hU
  rw[Kj,a.tk_t,JK]at e
  refine BC R h a (m:=m+1+l.length) (rE e) hn (ih (k+1) ?_ hU)
  rw[←List.drop_drop,e];rfl
theorem G5(R:ac W){l:List Sub}(h:ao N T r (lp::(l.flatMap Sub.tk++rp::S)) mu)(hn:4<=n)(hk:kv (.bool false) mu):W n (.fn 14) [.obj r] mu kv ke:=by
 obtain⟨p,hr,D⟩:=h.here
 refine R.go 14 2 (lw hn) rfl ?_
 refine wr (1+1+l.length+1) ?_
 refine wl hr (wc (gY R h [40] (lv hn) ?_))
 refine wl hr (wc (sw R h 0 (lv hn) ?_))
 refine wl hr (wc (si R h 0 [40] (lv hn) ?_))
 exact wq (Bw R h (K:=kJ (ax kv) fun st=>aS [.ret (.c (.bool false))] (ax kv) (aG ke) st) (lv hn) 1 S l 1 rfl fun k=>wk hk)
def eG(W:Nat->Call)(N:V)(T:List Tk)(r n f:Nat)(a:List V)(X:List Tk)(v:V)(b:Nat):Prop:=
 ∀(S:List Tk) (mu:List aa) (kv:V->List aa->Prop) (ke:Nat->List aa->Prop),b<=hd S->ao N T r (X++S) mu->(∀mu',ao N T r S mu'->aN r mu mu'->kv v mu')->W n (.fn f) (.obj r::a) mu kv ke
def o9(X:List Tk):Prop:=∃t X',X=t::X'/\(t.1==[115,105,103,110])=false
theorem o9.sgA{X:List Tk}(h:o9 X)(S:List Tk)(l:List (List Nat)):Mine.sgA (X++S) l=[]:=by
 obtain⟨t,X',rfl,h⟩:=h
 show(if(t.1==[115,105,103,110]&&_)=true then t.2 else[])=[]
 rw[h];rfl
theorem o9.isS{X:List Tk}(h:o9 X)(S:List Tk)(a:List Nat):Mine.isS (X++S) 0 a=false:=by
 obtain⟨t,X',rfl,h⟩:=h
 show(t.1==[115,105,103,110]&&_)=false
 rw[h];rfl
theorem Be(R:ac W)(h:eG W N T r m 20 [.lam 0 [.int d]] X v b)(hX:o9 X)(hm:4<=m):eG W N T r (m+1) 32 [.int d] X v b:=by
 intro S mu kv ke hb h0 hk
 obtain⟨p,hr,D⟩:=h0.here
 refine R.go 32 1 (JS 1 m) rfl ?_
 refine wc (ph R h0 [[43],[45]] (lw hm) ?_)
 rw[hX.sgA]
 refine wl hr (wc (sf R h0 (hX.isS _ _) (lw hm) ?_) rfl)
 refine wc (h _ _ _ _ hb h0 fun mu' h1 h2=>?_)
 exact wk (hk mu' h1 h2)
theorem yk(R:ac W)(h:eG W N T r m 32 [.int d] X v 1)(hm:4<=m):eG W N T r (m+1) 31 [.int d] X v 2:=by
 intro S mu kv ke hb h0 hk
 refine R.go 31 1 (JS 1 m) rfl ?_
 refine wc (h _ _ _ _ (KN hb) h0 fun mu' h1 h2=>?_)
 refine wr 1 ?_
 refine wc (ph R h1 [[42,42]] (lw hm) ?_)
 rw[hd2 hb]
 exact wk (hk mu' h1 h2)
theorem up29(R:ac W)(h:eG W N T r m 31 [.int d] X v 2)(hX:∀S,sgA (X++S) [[43],[45]]=[])(hm:4<=m):eG W N T r (m+1) 29 [.int d] X v 2:=by
 intro S mu kv ke hb h0 hk
 refine R.go 29 3 (JS 1 m) rfl ?_
 refine wc (ph R h0 [[43],[45]] (lw hm) ?_)
 rw[hX]
 refine wc (h _ _ _ _ hb h0 fun mu' h1 h2=>?_)
 exact wk (hk mu' h1 h2)
theorem Bf(R:ac W)(h:eG W N T r m 29 [.int d] X v 2)(hm:4<=m):eG W N T r (m+1) 28 [.int d] X v 3:=by
 intro S mu kv ke hb h0 hk
 refine R.go 28 2 (JS 1 m) rfl ?_
 refine wc (h _ _ _ _ (KN hb) h0 fun mu' h1 h2=>?_)
 refine wr 1 ?_
 refine wc (ph R h1 [[42],[47]] (lw hm) ?_)
 rw[C5 hb]
 exact wk (hk mu' h1 h2)
theorem EU(R:ac W)(h:eG W N T r m 29 [.int d] X v 2)(g:eG W N T r m 29 [.int d] Y w 2)(hm:4<=m):eG W N T r (m+1) 28 [.int d] (X++sg [42]::Y) (.tup [.str [42],v,w]) 3:=by
 intro S mu kv ke hb h0 hk
 refine R.go 28 2 (JS 1 m) rfl ?_
 rw[JK,Kv]at h0
 refine wc (h _ _ _ _ (show 2<=hd (sg [42]::(Y++S))from JL 2) h0 fun mu1 h1 h2=>?_)
 refine wr 2 ?_
 refine wc (ph R h1 [[42],[47]] (lw hm) ?_)
 obtain⟨p,hr,D⟩:=h1.here
 refine wl hr (wc (tI R h1 (lw hm) fun mu2 h3 h4=>?_))
 refine wc (g _ _ _ _ (KN hb) h3 fun mu3 h5 h6=>?_)
 refine wc (ph R h5 [[42],[47]] (lw hm) ?_)
 rw[C5 hb]
 exact wk (hk mu3 h5 ((h2.trans h4).trans h6))
theorem up27(R:ac W)(h:eG W N T r m 28 [.int d] X v 3)(hd:d<=20)(hm:4<=m):eG W N T r (m+1) 27 [.int d] X v 4:=by
 intro S mu kv ke hb h0 hk
 refine R.go 27 2 (JS 1 m) rfl ?_
 refine wt (Kg (KK.mpr hd)) ?_
 refine wc (h _ _ _ _ (KN hb) h0 fun mu' h1 h2=>?_)
 refine wr 1 ?_
 refine wc (ph R h1 [[43],[45]] (lw hm) ?_)
 rw[hd4 hb]
 exact wk (hk mu' h1 h2)
theorem xy(R:ac W){o:List Nat}(ho:o=[43]∨o=[45])(h:eG W N T r m 28 [.int d] X v 3)(g:eG W N T r m 28 [.int d] Y w 3)(hd:d<=20)(hm:4<=m):eG W N T r (m+1) 27 [.int d] (X++sg o::Y) (.tup [.str o,v,w]) 4:=by
 intro S mu kv ke hb h0 hk
 refine R.go 27 2 (JS 1 m) rfl ?_
 refine wt (Kg (KK.mpr hd)) ?_
 rw[JK,Kv]at h0
 have e1:3<=Mine.hd (sg o::(Y++S)):=by rcases ho with rfl|rfl<;>exact JL 3
 have e2:sgA (sg o::(Y++S)) [[43],[45]]=o:=by rcases ho with rfl|rfl<;>rfl
 have e3:∃c o',o=c::o':=by rcases ho with rfl|rfl<;>exact⟨_,_,rfl⟩
 obtain⟨c,o',rfl⟩:=e3
 refine wc (h _ _ _ _ e1 h0 fun mu1 h1 h2=>?_)
 refine wr 2 ?_
 refine wc (ph R h1 [[43],[45]] (lw hm) ?_)
 rw[e2]
 obtain⟨p,hr,D⟩:=h1.here
 refine wl hr (wc (tI R h1 (lw hm) fun mu2 h3 h4=>?_))
 refine wc (g _ _ _ _ (KN hb) h3 fun mu3 h5 h6=>?_)
 refine wc (ph R h5 [[43],[45]] (lw hm) ?_)
 rw[hd4 hb]
 exact wk (hk mu3 h5 ((h2.trans h4).trans h6))
theorem Ez(R:ac W)(h:eG W N T r m 27 [.int (d+1)] X v 4)(hm:5<=m):eG W N T r (m+1) 32 [.int d] (lp::(X++[rp])) v 1:=by
 intro S mu kv ke hb h0 hk
 obtain⟨p,hr,D⟩:=h0.here
 refine R.go 32 1 (JS 1 m) rfl ?_
 have e:lp::(X++[rp])++S=lp::(X++(rp::S)):=by simp
 rw[e]at h0
 refine wc (ph R h0 [[43],[45]] (lw hm) ?_)
 refine wl hr (wc (t7 R (a:=[40]) h0 (lw hm) fun mu1 h1 h2=>?_))
 refine wc (h _ _ _ _ (show 4<=hd (rp::S)from JL 4) h1 fun mu2 h3 h4=>?_)
 obtain⟨p,hr,D⟩:=h3.here
 refine wl hr (wc (kA R (a:=[41]) h3 (lw hm) fun mu3 h5 h6=>?_))
 exact wk (hk mu3 h5 ((h2.trans h4).trans h6))
noncomputable def s7(S:List Tk):Bool:=Ax S 0 [110,117,109,98,101,114]&&(match S[1]? with
 |none=>true
 |some t=> !(t.1==[115,105,103,110])|| !(t.2==[42,42]))
theorem t30(R:ac W)(h0:ao N T r S mu)(hn:2<=n)(hk:kv (.bool (s7 S)) mu):W n (.fn 30) [.obj r] mu kv ke:=by
 obtain⟨p,hr,D⟩:=h0.here
 refine R.go 30 2 (lw hn) rfl ?_
 refine wl hr (wc (sq R h0 (lv hn) ?_))
 refine wl hr (wc (sw R h0 1 (lv hn) ?_))
 cases S with
 |nil=>exact wk hk
 |cons t S=>
  show xS _ _ (pk (t::S) 1) mu
  cases h1:t.1==[110,117,109,98,101,114]with
  |false=>exact wt h1 (wk (by rw[show s7 (t::S)=false from(congrArg (·&&_) h1)]at hk;exact hk))
  |true=>
   cases S with
   |nil=>exact wt h1 (wk (by rw[show s7 [t]=true from(congrArg (·&&true) h1)]at hk;exact hk))
   |cons u S=>
    have e:s7 (t::u::S)=(!(u.1==[115,105,103,110])|| !(u.2==[42,42])):=congrArg (·&&(!(u.1==[115,105,103,110])|| !(u.2==[42,42]))) h1
    rw[e]at hk
    cases h2:u.1==[115,105,103,110]with
    |false=>rw[h2]at hk;exact wt h1 (wt h2 (wk hk))
    |true=>rw[h2]at hk;exact wt h1 (wt h2 (wt (b:=u.2==[42,42]) rfl (wk hk)))
theorem EQ(R:ac W){x:List Nat}{u s:Int}(h:eG W N T r m 31 [.int d] [nb x] (.tup [.str [110,117,109,98,101,114],.tup [.int u,.int s]]) 2)(hm:4<=m):
  eG W N T r (m+1) 29 [.int d] [sg [45],nb x] (.tup [.str [110,117,109,98,101,114],.tup [.int (-u),.int s]]) 2:=by
 intro S mu kv ke hb h0 hk
 obtain⟨p,hr,D⟩:=h0.here
 refine R.go 29 3 (JS 1 m) rfl ?_
 have hl:s7 (nb x::S)=true:=by
  cases S with
  |nil=>rfl
  |cons t S=>
   show(!(t.1==[115,105,103,110])|| !(t.2==[42,42]))=true
   rw[←Bool.not_and,Bool.not_eq_true']
   exact(vM (t::S) [42,42]).elim id fun qz=>qz.elim fun S' e=>absurd hb (by rw[e];exact Nat.not_succ_le_self 1)
 refine wc (ph R h0 [[43],[45]] (lw hm) ?_)
 refine wl hr (wc (tI R h0 (lw hm) fun mu1 h1 h2=>?_))
 refine wc (t30 R h1 (lw hm) ?_)
 rw[show s7 (([nb x]:List Tk).append S)=true from hl]
 refine wc (h _ _ _ _ hb h1 fun mu2 h3 h4=>?_)
 refine wc (mu:=mu2) (t4 R (u:=u) (s:=s) (lw hm) ?_)
 exact wk (hk mu2 h3 (h2.trans h4))
theorem Cz(R:ac W)(h:eG W N T r m 31 [.int d] [wd [65]] v 2)(hm:4<=m):
  eG W N T r (m+1) 29 [.int d] [sg [45],wd [65]] (.tup [.str [110,101,103],v]) 2:=by
 intro S mu kv ke hb h0 hk
 obtain⟨p,hr,D⟩:=h0.here
 refine R.go 29 3 (JS 1 m) rfl ?_
 refine wc (ph R h0 [[43],[45]] (lw hm) ?_)
 refine wl hr (wc (tI R h0 (lw hm) fun mu1 h1 h2=>?_))
 refine wc (t30 R h1 (lw hm) ?_)
 refine wc (h _ _ _ _ hb h1 fun mu2 h3 h4=>?_)
 exact wk (hk mu2 h3 (h2.trans h4))
theorem nP(g:i0):nQ g.s=false:=(by decide+kernel:∀t∈n7,nQ t=false) _ g.ok
theorem uG:nQ [78,79,84]=true:=by decide+kernel
def iN(W:Nat->Call)(N:V)(T:List Tk)(r n:Nat)(d:Int):Prop:=
 ∀(a:Sub) {S:List Tk} {mu:List aa} {kv:V->List aa->Prop} {ke:Nat->List aa->Prop},4<=hd S->ao N T r (a.tk++S) mu->(∀mu',ao N T r S mu'->aN r mu mu'->kv a.enc mu')->W n (.lam 0 [.int d]) [.obj r] mu kv ke
theorem Sub.hd(a:Sub)(S:List Tk):Mine.hd (a.tk++S)=4:=by
 rw[a.tk_t];cases a<;>rfl
theorem qQ(l:List Sub)(S:List Tk):Mine.hd (l.flatMap Sub.tk++rp::S)=4:=by
 cases l with
 |nil=>rfl
 |cons a l=>rw[Kj,JK,a.hd]
theorem t16(R:ac W)(hL:iN W N T r n d)(a:Sub)(q:Option Sub)(hn:5<=n)(h0:ao N T r (aY (some (a,q))++S) mu)(hk:∀mu',ao N T r S mu'->aN r mu mu'->kv (fV (some (a,q))) mu'):
  W (n+1) (.fn 16) [.obj r,.lam 0 [.int d]] mu kv ke:=by
 obtain⟨p,hr,D⟩:=h0.here
 refine R.go 16 2 (JS 1 n) rfl ?_
 cases q with
 |none=>
  have e:aY (some (a,none))++S=lp::(a.tk++(sg [58]::rp::S)):=congrArg (lp::·) (JK _ _ _)
  rw[e]at h0
  refine wl hr (wc (kA R (a:=[40]) h0 (lw hn) fun mu1 h1 g1=>?_))
  refine wc (hL a (S:=sg [58]::rp::S) (JL 4) h1 fun mu2 h2 g2=>?_)
  obtain⟨p,hr,D⟩:=h2.here
  refine wl hr (wc (kA R (a:=[58]) h2 (lw hn) fun mu3 h3 g3=>?_))
  obtain⟨p,hr,D⟩:=h3.here
  refine wl hr (wc (gY R h3 [41] (lw hn) ?_))
  refine wl hr (wc (kA R (a:=[41]) h3 (lw hn) fun mu4 h4 g4=>?_))
  exact wk (hk mu4 h4 ((g1.trans g2).trans (g3.trans g4)))
 |some c=>
  have e:aY (some (a,some c))++S=lp::(a.tk++(sg [58]::(c.tk++rp::S))):=congrArg (lp::·) ((JK _ _ _).trans (congrArg (fun x=>a.tk++sg [58]::x) (JK _ _ _)))
  rw[e]at h0
  refine wl hr (wc (kA R (a:=[40]) h0 (lw hn) fun mu1 h1 g1=>?_))
  refine wc (hL a (S:=sg [58]::(c.tk++rp::S)) (JL 4) h1 fun mu2 h2 g2=>?_)
  obtain⟨p,hr,D⟩:=h2.here
  refine wl hr (wc (kA R (a:=[58]) h2 (lw hn) fun mu3 h3 g3=>?_))
  obtain⟨p,hr,D⟩:=h3.here
  refine wl hr (wc (gY R h3 [41] (lw hn) ?_))
  rw[show Mine.isS (c.tk++rp::S) 0 [41]=false from c.isS _ 0 (by rw[c.tk_t];rfl)]
  refine wc (hL c (S:=rp::S) (JL 4) h3 fun mu4 h4 g4=>?_)
  obtain⟨p,hr,D⟩:=h4.here
  refine wl hr (wc (kA R (a:=[41]) h4 (lw hn) fun mu5 h5 g5=>?_))
  exact wk (hk mu5 h5 (((g1.trans g2).trans (g3.trans g4)).trans g5))
theorem CL(R:ac W)(hL:iN W N T r n d)(hn:5<=n){K:KF}{l:List Sub}:∀{acc:List V} {mu:List aa},acc.length+l.length<=6->ao N T r (l.flatMap Sub.tk++rp::S) mu->
  (∀mu',ao N T r S mu'->aN r mu mu'->wP (W n) (K .next ⟨[.val (.obj r),.val (.lam 0 [.int d]),.own (acc++l.map Sub.enc)],mu'⟩))->
  wP (W n) (fR FO[2]? K (l.length+1) ⟨[.val (.obj r),.val (.lam 0 [.int d]),.own acc],mu⟩):=by
 induction l with
 |nil=>
  intro acc mu hl h0 hk
  obtain⟨p,hr,D⟩:=h0.here
  refine wl hr (wc (t7 R (a:=[41]) h0 (lw hn) fun mu1 h1 g1=>?_))
  have:=hk mu1 h1 g1
  rw[KG,JX]at this
  exact wq this
 |cons a l ih=>
  intro acc mu hl h0 hk
  obtain⟨p,hr,D⟩:=h0.here
  have la:acc.length<=6:=JH (JV _ _) hl
  rw[Kj,JK]at h0
  refine wl hr (wc (sf R (a:=[41]) h0 (a.isS _ 0 (by rw[a.tk_t];rfl)) (lw hn) ?_) rfl)
  refine wa (aM la rfl) (wt (Kg (LL.mpr (Int.ofNat_lt.mpr (KI la)))) ?_)
  refine wc (hL a (by rw[qQ];exact JL 4) h0 fun mu1 h1 g1=>?_)
  refine wa (p:=acc.length < lim) (Kw la (by decide)) (wq (ih (acc:=acc++[a.enc]) ?_ h1 fun mu2 h2 g2=>?_))
  ·rw[JU,KZ,KU [a.enc].length];exact hl
  ·have:=hk mu2 h2 (g1.trans g2)
   rwa[Kq,KR]at this
theorem t15(R:ac W)(hL:iN W N T r n d){l:List Sub}(h1:l≠[])(h3:l.length<=3)(hn:5<=n)(h0:ao N T r (dU l++S) mu)(hk:∀mu',ao N T r S mu'->aN r mu mu'->kv (.tup (l.map Sub.enc)) mu'):
  W (n+1) (.fn 15) [.obj r,.lam 0 [.int d]] mu kv ke:=by
 cases l with
 |nil=>exact absurd rfl h1
 |cons a l=>
  have e:dU (a::l)++S=lp::(a.tk++(l.flatMap Sub.tk++rp::S)):=by
   show lp::((a.tk++l.flatMap Sub.tk)++[rp]++S)=_
   rw[JK,JK];rfl
  rw[e]at h0
  obtain⟨p,hr,D⟩:=h0.here
  refine R.go 15 1 (JS 1 n) rfl ?_
  refine wl hr (wc (kA R (a:=[40]) h0 (lw hn) fun mu1 h1 g1=>?_))
  refine wc (hL a (by rw[qQ];exact JL 4) h1 fun mu2 h2 g2=>?_)
  refine wr (l.length+1) (wq (CL R hL (K:=kJ (ax kv) fun st=>aS [.ret (.tupX 2)] (ax kv) (aG ke) st) hn (acc:=[a.enc]) ?_ h2 fun mu3 h3' g3=>?_))
  ·rw[KU];exact JH h3 (by decide)
  ·exact wa (p:=([a.enc]++l.map Sub.enc).length<=lim) (aM (bY (JL 1) (aB (KN h3))) rfl) (wk (hk mu3 h3' ((g1.trans g2).trans g3)))
noncomputable def tm:List (List Nat×V):=HY b6
theorem t19w(R:ac W){w:List Nat}(e:(bC w tm).isSome=false)(h0:ao N T r (wd w::S) mu)(hn:3<=n)(hk:kv .none mu):W n (.fn 19) [.obj r] mu kv ke:=by
 obtain⟨p,hr,D⟩:=h0.here
 refine R.go 19 0 (lw hn) rfl ?_
 refine wl hr (wc (kC R h0 [119,111,114,100] (lv hn) ?_))
 refine wl hr (wc (sq R h0 (lv hn) ?_))
 exact wt e (wk hk)
theorem G4(R:ac W)(g:i0)(h0:ao N T r (wd g.s::S) mu)(hn:3<=n)(hk:kv .none mu):W n (.fn 19) [.obj r] mu kv ke:=
 t19w R ((by decide:∀t∈n7,(bC t tm).isSome=false) _ g.ok) h0 hn hk
theorem G3(R:ac W){a c:List Nat}(hf:qC a c)(h0:ao N T r (wd c::S) mu)(hn:3<=n)(hk:∀mu',ao N T r S mu'->aN r mu mu'->kv (.tup [.str [102,105,103,117,114,101],.str a]) mu'):W n (.fn 19) [.obj r] mu kv ke:=by
 obtain⟨p,hr,D⟩:=h0.here
 have e:bC c tm=some (.str a):=All.mem (P:=fun t:List Nat×List Nat=>bC t.2 tm=some (.str t.1)) (l:=AH) ⟨rfl,rfl,rfl,rfl,rfl,trivial⟩ hf
 refine R.go 19 0 (lw hn) rfl ?_
 refine wl hr (wc (kC R h0 [119,111,114,100] (lv hn) ?_))
 refine wl hr (wc (sq R h0 (lv hn) ?_))
 refine wt (b:=(bC c tm).isSome) (congrArg Option.isSome e) ?_
 refine wl hr (wc (tI R h0 (lv hn) fun mu1 h1 g1=>?_))
 refine aw 0 (t':=opt (bC c tm) fun v=>.hold (kv (.tup [.str [102,105,103,117,114,101],v]) mu1)) ?_ (by kernel_rfl)
 rw[e]
 exact wk (hk mu1 h1 g1)
theorem i0.len'(g:i0):g.s.length<=1000:=JH g.len (by decide)
theorem CK(R:ac W){f:LV}(hn:6<=n)(hs:bM S 0 [79,70]=false)(hs2:bM S 0 [73,78]=false){K:KF}{nm:LV}{l:List i0}:∀{acc:List V} {mu:List aa},acc.length+l.length<=6->ao N T r ((l.flatMap fun g=>[wd [79,70],wd g.s])++S) mu->
  (∀mu',ao N T r S mu'->aN r mu mu'->wP (W n) (K .next ⟨[.val (.obj r),f,nm,.own (acc++l.map fun g=>.str g.s),.unset,.unset],mu'⟩))->
  wP (W n) (fR xa[2]? K (l.length+1) ⟨[.val (.obj r),f,nm,.own acc,.unset,.unset],mu⟩):=by
 induction l with
 |nil=>
  intro acc mu hl h0 hk
  obtain⟨p,hr,D⟩:=h0.here
  refine wl hr (wc (GK R h0 hs hs2 (lw hn) ?_))
  have:=hk mu h0 (aN.refl _ _)
  rw[KG,JX]at this
  exact aw 1 this (by kernel_rfl)
 |cons a l ih=>
  intro acc mu hl h0 hk
  obtain⟨p,hr,D⟩:=h0.here
  rw[Kj,JK]at h0
  refine wl hr (wc (GJ R h0 rfl (lw hn) fun mu1 h1 g1=>?_))
  obtain⟨p,hr,D⟩:=h1.here
  refine wl hr (wc (DR R h1 a.len' (nP a) (lw hn) fun mu2 h2 g2=>?_))
  refine wa (p:=acc.length < lim) (Kw (JH (JV _ _) hl) (by decide)) (wq (ih (acc:=acc++[.str a.s]) ?_ h2 fun mu3 h3 g3=>?_))
  ·rw[JU,KZ,KU [V.str a.s].length];exact hl
  ·have:=hk mu3 h3 ((g1.trans g2).trans g3)
   rwa[Kq,KR]at this
theorem t5(l:List Sub)(q:Option (Sub×Option Sub))(hS:1<=hd S):bM (dU l++(aY q++S)) 0 [79,70]=false/\bM (dU l++(aY q++S)) 0 [73,78]=false:=by
 obtain⟨a,b,c⟩:=HH hS
 match l,q with
 |[],none=>exact⟨a,b⟩
 |[],some (x,none)=>exact⟨rfl,rfl⟩
 |[],some (x,some y)=>exact⟨rfl,rfl⟩
 |_::_,_=>exact⟨rfl,rfl⟩
theorem jz(a:Sub)(q:Option Sub)(S:List Tk):∃S',aY (some (a,q))++S=lp::(a.tk++sg [58]::S'):=by
 cases q with
 |none=>exact⟨_,congrArg (lp::·) (JK _ _ _)⟩
 |some c=>exact⟨_,congrArg (lp::·) (JK _ _ _)⟩
theorem uZ(R:ac W)(hn:6<=n)(nm sv:V)(q:Option (Sub×Option Sub))(hL:q=none∨iN W N T r n d)(hS:1<=hd S){acc:List V}(la:acc.length<=lim)(h0:ao N T r (aY q++S) mu)
  (hk:∀mu',ao N T r S mu'->aN r mu mu'->kv (.tup [.str [114,101,102],nm,.tup acc,sv,fV q]) mu'):
  wP (W (n+1)) (aS (xa.drop 5) (ax kv) (aG ke) ⟨[.val (.obj r),.val (.lam 0 [.int d]),.val nm,.own acc,.val sv,.unset],mu⟩):=by
 cases q with
 |none=>
  refine wc (G6 R h0 (HH hS).2.2 (J1 (lw hn)) ?_)
  exact wa la (wk (hk mu h0 (aN.refl _ _)))
 |some x=>
  obtain⟨S',e⟩:=jz x.1 x.2 S
  have h2:=h0
  rw[show aY (some x)++S=_ from e]at h2
  refine wc (DZ R h2 (J1 (lw hn)) ?_)
  refine wc (t16 R (hL.resolve_left nofun) x.1 x.2 (lw hn) h0 fun mu1 h3 g3=>?_)
  exact wa la (wk (hk mu1 h3 g3))
theorem Fs(R:ac W)(hn:6<=n)(nm:V)(l:List Sub)(q:Option (Sub×Option Sub))(hl:l.length<=3)(hL:(l=[]/\q=none)∨iN W N T r n d)(hS:1<=hd S){acc:List V}(la:acc.length<=lim)(h0:ao N T r (dU l++(aY q++S)) mu)
  (hk:∀mu',ao N T r S mu'->aN r mu mu'->kv (.tup [.str [114,101,102],nm,.tup acc,.tup (l.map Sub.enc),fV q]) mu'):
  wP (W (n+1)) (aS (xa.drop 3) (ax kv) (aG ke) ⟨[.val (.obj r),.val (.lam 0 [.int d]),.val nm,.own acc,.unset,.unset],mu⟩):=by
 obtain⟨p,hr,D⟩:=h0.here
 cases l with
 |nil=>
  have h1:ao N T r (aY q++S) mu:=h0
  have f:=uZ (ke:=ke) R hn nm (.tup []) q (hL.imp (·.2) id) hS la h1 hk
  refine wl hr (wc (gY R h1 [40] (J1 (lw hn)) ?_))
  cases q with
  |none=>
   rw[show isS (aY none++S) 0 [40]=false from(HH hS).2.2]
   exact wq f
  |some x=>
   obtain⟨S',e⟩:=jz x.1 x.2 S
   have h2:=h1
   rw[show aY (some x)++S=_ from e]at h2
   rw[show isS (aY (some x)++S) 0 [40]=true by rw[show aY (some x)++S=_ from e];rfl]
   exact wc (DZ R h2 (J1 (lw hn)) (wq f))
 |cons s l=>
  have hL:=hL.resolve_left fun h=>nomatch h.1
  have h2:ao N T r (lp::((s::l).flatMap Sub.tk++rp::(aY q++S))) mu:=by
   have e:dU (s::l)++(aY q++S)=lp::((s::l).flatMap Sub.tk++rp::(aY q++S)):=congrArg (lp::·) (JK _ _ _)
   rwa[e]at h0
  refine wl hr (wc (gY R h2 [40] (J1 (lw hn)) ?_))
  refine wc (G5 R h2 (J1 (lw hn)) ?_)
  refine wc (t15 R hL (Kr s l) hl (lw hn) h0 fun mu1 h3 g3=>?_)
  exact wq (uZ (ke:=ke) R hn nm (.tup ((s::l).map Sub.enc)) q (.inr hL) hS la h3 fun mu2 h4 g4=>hk mu2 h4 (g3.trans g4))
theorem t17(R:ac W)(hn:6<=n)(f:Rf)(hL:(f.sub=[]/\f.part=none)∨iN W N T r n d)(hS:1<=hd S)(h0:ao N T r (f.tk++S) mu)
  (hk:∀mu',ao N T r S mu'->aN r mu mu'->kv f.enc mu'):W (n+2) (.fn 17) [.obj r,.lam 0 [.int d]] mu kv ke:=by
 obtain⟨p,hr,D⟩:=h0.here
 have e:f.tk++S=wd f.nm.s::((f.q.flatMap fun g=>[wd [79,70],wd g.s])++(dU f.sub++(aY f.part++S))):=congrArg (wd f.nm.s::·) ((JK _ _ _).trans (congrArg _ (JK _ _ _)))
 rw[e]at h0
 obtain⟨n1,n2⟩:=t5 f.sub f.part hS
 refine R.go 17 4 (JS 1 (n+1)) rfl ?_
 refine wl hr (wc (DR R h0 f.nm.len' (nP f.nm) (J1 (lw hn)) fun mu1 h1 g1=>?_))
 refine wr (f.q.length+1) (wq (CK (n:=n+1) R (K:=kJ (ax kv) fun st=>aS (xa.drop 3) (ax kv) (aG ke) st) (J1 hn) n1 n2 (acc:=[]) (f:=.val (.lam 0 [.int d])) (nm:=.val (.str f.nm.s)) ?_ h1 fun mu2 h2 g2=>?_))
 ·rw[Lk,Lx];exact JH f.hq (by decide)
 ·exact wq (Fs (ke:=ke) R hn (.str f.nm.s) f.sub f.part f.hs hL hS (acc:=[]++f.q.map fun g=>V.str g.s) (aM (aB f.hq) rfl) h2 fun mu3 h3 g3=>hk mu3 h3 ((g1.trans g2).trans g3))
theorem t18(R:ac W){x:List Nat}(hx:gS x)(h0:ao N T r (li x::S) mu)(hn:7<=n)(hk:∀mu',ao N T r S mu'->aN r mu mu'->kv (.tup [.str [97,108,108],.bytes x]) mu'):W n (.fn 18) [.obj r] mu kv ke:=by
 obtain⟨p,hr,D⟩:=h0.here
 refine R.go 18 1 (lw hn) rfl ?_
 refine wl hr (wc (kC R h0 [108,105,116,101,114,97,108] (lv hn) ?_))
 refine wl hr (wc (t90 R hx h0 (lv hn) fun mu1 h1 g1=>?_))
 exact wk (hk mu1 h1 g1)
theorem u8(R:ac W){x:List Nat}{u:Int}{s:Nat}(hf:pd x u s)(hn:7<=m)(L:V):eG W N T r m 20 [L] [nb x] (.tup [.str [110,117,109,98,101,114],.tup [.int u,.int s]]) 1:=by
 intro S mu kv ke hb h0 hk
 obtain⟨p,hr,D⟩:=h0.here
 refine R.go 20 1 (lw hn) rfl ?_
 refine wl hr (wc (Bm R h0 (lv hn) ?_))
 refine wl hr (wc (t87 R h0 hf (lv hn) fun mu1 h1 g1=>?_))
 exact wk (hk mu1 h1 g1)
theorem ED(R:ac W){x:List Nat}(hx:gS x)(hn:7<=m)(L:V):eG W N T r m 20 [L] [li x] (.tup [.str [116,101,120,116],.bytes x]) 1:=by
 intro S mu kv ke hb h0 hk
 obtain⟨p,hr,D⟩:=h0.here
 refine R.go 20 1 (lw hn) rfl ?_
 refine wl hr (wc (Bm R h0 (lv hn) ?_))
 refine wl hr (wc (kC R h0 [108,105,116,101,114,97,108] (lv hn) ?_))
 refine wl hr (wc (t90 R hx h0 (lv hn) fun mu1 h1 g1=>?_))
 exact wk (hk mu1 h1 g1)
theorem EH(R:ac W){x:List Nat}(hx:gS x)(hn:9<=m)(L:V):eG W N T r m 20 [L] [wd [65,76,76],li x] (.tup [.str [97,108,108],.bytes x]) 1:=by
 intro S mu kv ke hb h0 hk
 obtain⟨p,hr,D⟩:=h0.here
 refine R.go 20 1 (lw hn) rfl ?_
 refine wl hr (wc (Bm R h0 (lv hn) ?_))
 refine wl hr (wc (kC R h0 [108,105,116,101,114,97,108] (lv hn) ?_))
 refine wl hr (wc (cT R h0 [65,76,76] rfl (by decide) rfl (lv hn) fun mu1 h1 g1=>?_))
 refine wc (t18 R hx h1 (lv hn) fun mu2 h2 g2=>?_)
 exact wk (hk mu2 h2 (g1.trans g2))
theorem EG(R:ac W){a c:List Nat}(hf:qC a c)(hn:7<=m)(L:V):eG W N T r m 20 [L] [wd c] (.tup [.str [102,105,103,117,114,101],.str a]) 1:=by
 intro S mu kv ke hb h0 hk
 obtain⟨p,hr,D⟩:=h0.here
 refine R.go 20 1 (lw hn) rfl ?_
 have e:bM ([wd c]++S) 0 [65,76,76]=false:=(by decide:∀t∈AH,(t.2==[65,76,76])=false) (a,c) hf
 refine wl hr (wc (Bm R h0 (lv hn) ?_))
 refine wl hr (wc (kC R h0 [108,105,116,101,114,97,108] (lv hn) ?_))
 refine wl hr (wc (bP R h0 [65,76,76] rfl (by decide) e (lv hn) ?_))
 refine wc (G3 R hf h0 (lv hn) fun mu1 h1 g1=>?_)
 exact wk (hk mu1 h1 g1)
theorem u7(R:ac W)(f:Rf)(hn:7<=m)(hL:(f.sub=[]/\f.part=none)∨iN W N T r m d):eG W N T r (m+3) 20 [.lam 0 [.int d]] f.tk f.enc 1:=by
 intro S mu kv ke hb h0 hk
 obtain⟨p,hr,D⟩:=h0.here
 have e:bM (f.tk++S) 0 [65,76,76]=false:=(by decide:∀t∈n7,(t==[65,76,76])=false) _ f.nm.ok
 refine R.go 20 1 (JS 1 (m+2)) rfl ?_
 refine wl hr (wc (Bm R h0 (Ke (lw hn)) ?_))
 refine wl hr (wc (kC R h0 [108,105,116,101,114,97,108] (Ke (lw hn)) ?_))
 refine wl hr (wc (bP R h0 [65,76,76] rfl (by decide) e (Ke (lw hn)) ?_))
 refine wc (G4 R f.nm h0 (Ke (lw hn)) ?_)
 exact wc (t17 R (lw hn) f hL hb h0 fun mu1 h1 g1=>wk (hk mu1 h1 g1))
theorem eG.up{f:Nat}{a:List V}(R:ac W)(h:eG W N T r m f a X v b){m':Nat}(hm:m<=m'):eG W N T r m' f a X v b:=fun S mu kv ke h1 h2 h3=>R.le hm (h S mu kv ke h1 h2 h3)
theorem lu{a b m k:Nat}(h:b<=m)(e:Nat.ble a (b+k)=true):a<=m+k:=JH (JI e) (J3 h k)
theorem DD(R:ac W)(h:eG W N T r m 20 [.lam 0 [.int d]] X v 1)(hX:o9 X)(hm:4<=m):eG W N T r (m+3) 29 [.int d] X v 2:=
 up29 R (yk R (Be R h hX hm) (lu hm rfl)) (fun S=>hX.sgA S _) (lu (k:=2) hm rfl)
theorem Nu.figs(n:Nu):pd n.fg (if n.ng then -n.u else n.u) n.s:=(by decide:∀t∈Cs,(t.2.2.2,(if t.2.2.1 then -t.1 else t.1),t.2.1)∈we) _ n.ok
noncomputable def rfI:Rf:=⟨⟨[73],by decide⟩,[],[],none,by decide,by decide⟩
theorem D9(R:ac W)(a:Sub)(hm:7<=m):eG W N T r (m+3) 20 [.lam 0 [.int d]] a.tk a.enc 1:=by
 cases a with
 |I=>exact u7 R rfI (lw hm) (.inl ⟨rfl,rfl⟩)
 |num n h c hc=>
  have f:=n.figs
  rw[h,hc]at f
  exact u8 R f (lu (k:=3) hm rfl) _
theorem Sub.noSg(a:Sub):o9 a.tk:=⟨a.t,[],a.tk_t,a.t_sg⟩
theorem D8(R:ac W)(a:Sub)(hd:d<=20)(hm:7<=m):eG W N T r (m+8) 27 [.int d] a.tk a.enc 4:=
 up27 R (Bf R (DD R (D9 R a hm) a.noSg (lu hm rfl)) (lu (k:=6) hm rfl)) hd (lu (k:=7) hm rfl)
theorem E4(R:ac W)(hd:d<=19)(hn:7<=n):iN W N T r (n+9) d:=fun a _ _ _ _ hS h0 hk=>
 R.lam0 (n:=n+8) (eK (wc (D8 R a (d:=d+1) (Int.add_le_add_right hd 1) hn _ _ _ _ hS h0 fun mu1 h1 g1=>wk (hk mu1 h1 g1))))
theorem Rf.noSg(f:Rf):o9 f.tk:=⟨wd f.nm.s,_,rfl,rfl⟩
theorem EI(R:ac W)(o:Op)(hd:d<=19)(hm:7<=m):eG W N T r (m+15) 29 [.int d] o.tk o.enc 2:=by
 cases o with
 |rf f=>exact DD R (u7 R f (lu (k:=9) hm rfl) (.inr (E4 R hd hm))) f.noSg (lu (k:=12) hm rfl)
 |nu n=>
  have f:=n.figs
  obtain⟨u,s,ng,fg,ok⟩:=n
  replace f:pd fg (if ng then -u else u) s:=f
  cases ng with
  |false=>exact DD R (u8 R f (lu (k:=12) hm rfl) _) ⟨nb fg,[],rfl,rfl⟩ (lu (k:=12) hm rfl)
  |true=>
   have:=EQ R (d:=d) (yk R (Be R (u8 (N:=N) (T:=T) (r:=r) R f (m:=m+12) (lu hm rfl) (.lam 0 [.int d])) ⟨nb fg,[],rfl,rfl⟩ (lu hm rfl)) (lu (k:=13) hm rfl)) (lu (k:=14) hm rfl)
   rw[if_pos rfl,Int.neg_neg]at this
   exact this
 |tx t h=>exact DD R (ED R h (lu (k:=12) hm rfl) _) ⟨li t,[],rfl,rfl⟩ (lu (k:=12) hm rfl)
 |fg a c h=>exact DD R (EG R h (lu (k:=12) hm rfl) _) ⟨wd c,[],rfl,rfl⟩ (lu (k:=12) hm rfl)
 |al t h=>exact DD R (EH R h (lu (k:=12) hm rfl) _) ⟨wd [65,76,76],[li t],rfl,rfl⟩ (lu (k:=12) hm rfl)
theorem Fp(R:ac W)(e:Ex)(hd:d<=18)(hm:7<=m):eG W N T r (m+22) 27 [.int d] e.tk e.enc 4:=by
 have hd':d<=19:=Kz hd (by decide)
 have h20:d<=20:=Kz hd (by decide)
 have p28:∀(o:Op) {d:Int},d<=19->eG W N T r (m+16) 28 [.int d] o.tk o.enc 3:=fun o _ hd=>Bf R (EI R o hd hm) (lu (k:=15) hm rfl)
 cases e with
 |op o=>exact(up27 R (p28 o hd') h20 (lu (k:=16) hm rfl)).up R (JM (by decide:17<=22) m)
 |add a b=>exact(xy R (.inl rfl) (p28 a hd') (p28 b hd') h20 (lu (k:=16) hm rfl)).up R (JM (by decide:17<=22) m)
 |mul a=>
  have hA:=Cz R (yk R (Be R (u7 R Gq (m:=m+9) (d:=d) (N:=N) (T:=T) (r:=r) (lu hm rfl) (.inl ⟨rfl,rfl⟩)) Gq.noSg (lu (k:=12) hm rfl)) (lu (k:=13) hm rfl)) (lu (k:=14) hm rfl)
  exact(up27 R (EU R (EI R a hd' hm) hA (lu (k:=15) hm rfl)) h20 (lu (k:=16) hm rfl)).up R (JM (by decide:17<=22) m)
 |sub a c=>
  have h1:=xy R (.inl rfl) (p28 c (d:=d+1) (Int.add_le_add_right hd 1)) (p28 a (Int.add_le_add_right hd 1)) (Kz (Int.add_le_add_right hd 1) (by decide)) (lu (k:=16) hm rfl)
  have h2:=Bf R (up29 R (yk R (Ez R h1 (lu (k:=17) hm rfl)) (lu (k:=18) hm rfl)) (fun S=>rfl) (lu (k:=19) hm rfl)) (lu (k:=20) hm rfl)
  have h4:=xy R (.inr rfl) ((p28 a hd').up R (JM (by decide:16<=21) m)) h2 h20 (lu (k:=21) hm rfl)
  rw[JK]at h4
  exact h4
theorem yq(R:ac W)(e:Ex)(hn:30<=n)(hS:4<=hd S)(h0:ao N T r (e.tk++S) mu)(hk:∀mu',ao N T r S mu'->aN r mu mu'->kv e.enc mu'):W n (.fn 25) [.obj r] mu kv ke:=by
 obtain⟨m,rfl⟩:=J2 (lw hn rfl:23<=n)
 refine R.go 25 0 (JS 1 (m+22)) rfl ?_
 exact wc (Fp R e (d:=0) (m:=m) (by decide) (K9 (b:=23) hn) _ _ _ _ hS h0 fun mu1 h1 g1=>wk (hk mu1 h1 g1))
noncomputable def gW(S:List Tk)(k:Nat):List Nat:=match S[k]? with
 |some t=>if t.1==[119,111,114,100]then t.2 else[]
 |none=>[]
theorem c38(R:ac W)(h0:ao N T r S mu)(k:Nat)(hn:1<=n)(hk:kv (.str (gW S k)) mu):wP (W n) (aS FN (ax kv) (aG ke) ⟨[.val (.obj r),.val (.int k),.unset],mu⟩):=by
 obtain⟨p,hr,D⟩:=h0.here
 refine wl hr (wc (sw R h0 k hn ?_))
 unfold gW at hk
 unfold pk
 generalize S[k]? =o at hk ⊢
 cases o with
 |none=>exact wk hk
 |some t=>
  replace hk:kv (.str (if(t.1==[119,111,114,100])=true then t.2 else[])) mu:=hk
  cases h1:t.1==[119,111,114,100]<;>(rw[h1]at hk;exact wt h1 (wk hk))
theorem Ah(R:ac W)(h0:ao N T r S mu)(k:Nat)(hn:2<=n)(hk:kv (.str (gW S k)) mu):W n (.fn 38) [.obj r,.int k] mu kv ke:=
 R.go 38 1 (lw hn) rfl (wq (c38 (ke:=ke) R h0 k (lv hn) hk))
theorem Bo(R:ac W)(h0:ao N T r S mu)(hn:2<=n)(hk:kv (.str (gW S 0)) mu):W n (.fn 38) [.obj r] mu kv ke:=
 R.go 38 1 (lw hn) rfl (wq (c38 (ke:=ke) R h0 0 (lv hn) hk))
theorem tO{k:Nat}{t:Tk}(h:S[k]? =some t):gW S k=if t.1==[119,111,114,100]then t.2 else[]:=by unfold gW;rw[h]
noncomputable def Er:List (List Nat):=[[61],[60],[62],[60,61],[62,61]]
noncomputable def yQ:List (List Nat×V):=HY be
noncomputable def ru(t:Tk):Bool:=if t.1==[115,105,103,110]then Er.any (·==t.2)else if t.1==[119,111,114,100]then(bC t.2 yQ).isSome else false
noncomputable def eQ(S:List Tk)(k:Nat):Bool:=match S[k]? with
 |some t=>ru t
 |none=>false
theorem t39(R:ac W)(h0:ao N T r S mu)(k:Nat)(hn:3<=n)(hk:kv (.bool (eQ S k)) mu):W n (.fn 39) [.obj r,.int k] mu kv ke:=by
 obtain⟨p,hr,D⟩:=h0.here
 refine R.go 39 1 (lw hn) rfl (wl hr (wc (sw R h0 k (lv hn) ?_)))
 cases hs:S[k]? with
 |none=>
  rw[show eQ S k=false by unfold eQ;rw[hs]]at hk
  rw[show pk S k=.none by unfold pk;rw[hs]]
  refine wc (Ah R h0 k (lv hn) ?_)
  rw[show gW S k=[] by unfold gW;rw[hs]]
  exact wk hk
 |some t=>
  rw[show eQ S k=ru t by unfold eQ;rw[hs]]at hk
  rw[mj hs]
  unfold ru at hk
  have e:=tO hs
  cases h1:t.1==[115,105,103,110]with
  |false=>
   rw[h1]at hk
   refine wt h1 (wc (Ah R h0 k (lv hn) ?_))
   rw[e]
   cases h2:t.1==[119,111,114,100]with
   |true=>rw[h2]at hk;exact wt (b:=(bC t.2 yQ).isSome) rfl (wk hk)
   |false=>rw[h2]at hk;exact wk hk
  |true=>
   rw[h1]at hk
   cases h2:Er.any (·==t.2)with
   |true=>rw[h2]at hk;exact wt h1 (wt h2 (wk hk))
   |false=>
    rw[h2]at hk
    refine wt h1 (wt h2 (wc (Ah R h0 k (lv hn) ?_)))
    rw[e,show(t.1==[119,111,114,100])=false by rw[eq_of_beq h1];rfl]
    exact wk hk
noncomputable def iS(S:List Tk):Nat:=if gW S 0==[73,83]then(if gW S 1==[78,79,84]then 2 else 1)else(if gW S 0==[78,79,84]then 1 else 0)
theorem Gp(R:ac W)(h0:ao N T r S mu)(hn:3<=n)(hk:kv (.int (iS S)) mu):W n (.fn 40) [.obj r] mu kv ke:=by
 refine R.go 40 1 (lw hn) rfl (wc (Bo R h0 (lv hn) ?_))
 unfold iS at hk
 cases h1:(gW S 0==[73,83])with
 |true=>
  rw[h1]at hk
  refine wt h1 (wc (Ah R h0 1 (lv hn) ?_))
  cases h2:(gW S 1==[78,79,84])<;>(rw[h2]at hk;exact wt h2 (wk hk))
 |false=>
  rw[h1]at hk
  refine wt h1 (wc (Ah R h0 0 (lv hn) ?_))
  cases h2:(gW S 0==[78,79,84])<;>(rw[h2]at hk;exact wt h2 (wk hk))
theorem GV(R:ac W)(h0:ao N T r S mu)(hn:4<=n)(hk:kv (.bool (eQ S (iS S))) mu):W n (.fn 42) [.obj r] mu kv ke:=
 R.go 42 0 (lw hn) rfl (wc (Gp R h0 (lv hn) (wc (t39 R h0 (iS S) (lv hn) (wk hk)))))
noncomputable def zO:List (List Nat):=[[78,85,77,69,82,73,67],[65,76,80,72,65,66,69,84,73,67],[65,76,80,72,65,66,69,84,73,67,45,76,79,87,69,82],[65,76,80,72,65,66,69,84,73,67,45,85,80,80,69,82]]
noncomputable def ux:List (List Nat×V):=HY bp
theorem qk{w:List Nat}(h:kQ w):zO.any (·==w)=true:=(by decide:∀t∈Fz,zO.any (·==t)=true) _ h
theorem pG{w:List Nat}(h:iY w):zO.any (·==w)=false:=(by decide:∀t∈BN,zO.any (·==t)=false) _ h
theorem qS{w:List Nat}(h:iY w):(bC w ux).isSome=true:=(by decide:∀t∈BN,(bC t ux).isSome=true) _ h
theorem GW(R:ac W)(h0:ao N T r S mu)(hn:4<=n)(h:eQ S (iS S)=true∨(eQ S (iS S)=false/\(kQ (gW S (iS S))∨iY (gW S (iS S)))))(hk:kv (.bool true) mu):W n (.fn 41) [.obj r] mu kv ke:=by
 refine R.go 41 2 (lw hn) rfl (wc (Gp R h0 (lv hn) (wc (Ah R h0 (iS S) (lv hn) (wc (t39 R h0 (iS S) (lv hn) ?_))))))
 rcases h with h|⟨h,g|g⟩
 ·rw[h];exact wk hk
 ·rw[h];exact wt (qk g) (wk hk)
 ·rw[h];exact wt (pG g) (wt (qS g) (wk hk))
noncomputable def nv(r:Nat)(d:Nat)(L:V):aa:=.ins 4 [(.reader,.obj r),(.isNamed,.lam 1 [.obj r]),(.depth,.int d),(.last,L)]
structure CR(r c d:Nat)(mu:List aa):Prop where
 here:∃L,mu[c]? =some (nv r d L)
 ne:c≠r
structure cj(r c:Nat)(mu mu':List aa):Prop where
 len:mu.length<=mu'.length
 at_:∀j,j < mu.length->j≠r->j≠c->mu'[j]? =mu[j]?
theorem aN.two{r c:Nat}{mu mu':List aa}(h:aN r mu mu'):cj r c mu mu':=⟨h.len,fun j hj a _=>h.at_ j hj a⟩
theorem cj.trans{r c:Nat}{a b e:List aa}(h:cj r c a b)(g:cj r c b e):cj r c a e:=
 ⟨JH h.len g.len,fun j hj h1 h2=>by rw[g.at_ j (Ka hj h.len) h1 h2,h.at_ j hj h1 h2]⟩
theorem cj.set(r c:Nat)(mu:List aa)(x:aa):cj r c mu (mu.set c x):=
 ⟨JZ Lj.symm,fun j _ _ hc=>Ko (Ne.symm hc)⟩
theorem CR.oth{r c d:Nat}{mu mu':List aa}(h:CR r c d mu)(g:aN r mu mu'):CR r c d mu':=by
 obtain⟨⟨L,h1⟩,h2⟩:=h
 exact⟨⟨L,by rw[g.at_ c (ib h1) h2];exact h1⟩,h2⟩
theorem ao.set{r c d:Nat}{mu:List aa}{x:aa}(h:ao N T r S mu)(g:CR r c d mu):ao N T r S (mu.set c x):=by
 obtain⟨⟨p,h1,h2⟩,h3,h4⟩:=h
 exact⟨⟨p,by rw[Ko g.ne];exact h1,h2⟩,h3,h4⟩
theorem CR.set{r c d:Nat}{mu:List aa}{L:V}(g:CR r c d mu):CR r c d (mu.set c (nv r d L)):=by
 obtain⟨⟨L',h1⟩,h2⟩:=g
 exact⟨⟨L,dj h1⟩,h2⟩
noncomputable def aj:V:=.dS [([73,83,45,79,78],.bool true)]
theorem lam1(R:ac W){q:V}(s:List Nat)(h0:ao aj T r S mu)(hn:1<=n)(hk:kv (.bool ([73,83,45,79,78]==s)) mu):W n (.lam 1 [.obj r]) [.str s,q] mu kv ke:=by
 obtain⟨m,rfl⟩:=J2 hn
 obtain⟨p,hr,D⟩:=h0.here
 have e:(bC s [([73,83,45,79,78],V.bool true)]).isSome=([73,83,45,79,78]==s):=by
  show(cond ([73,83,45,79,78]==s) (some _) none).isSome=_
  cases([73,83,45,79,78]==s)<;>rfl
 exact R.lam1 (eK (wl hr (wt e (wk hk))))
section
variable {d:Nat}
theorem t54(R:ac W){s:List Nat}(h0:ao aj T r (sg s::S) mu)(hC:CR r c d mu)(hn:3<=n)(hk:∀mu',ao aj T r S mu'->aN r mu mu'->kv (.str s) mu'):W n (.fn 54) [.obj c] mu kv ke:=by
 obtain⟨p,hr,D⟩:=h0.here
 obtain⟨L,hc⟩:=hC.here
 refine R.go 54 2 (lw hn) rfl ?_
 refine wl hc (wl hr (wc (tI R h0 (lv hn) fun mu1 h1 g1=>?_)))
 exact wk (hk mu1 h1 g1)
theorem HT(e:Ex):∃X,e.enc=.tup X:=by
 cases e with
 |op o=>cases o<;>exact⟨_,rfl⟩
 |add a b=>exact⟨_,rfl⟩
 |mul a=>exact⟨_,rfl⟩
 |sub a b=>exact⟨_,rfl⟩
theorem DV(R:ac W){s s':List Nat}{q:Bool}(hs:s'=(if q then[60,62]else s))(hq:q=true->s=[61])(b:Op)(sub:V)(hn:31<=n)(h0:ao aj T r (sg s::(b.tk++S)) mu)(hC:CR r c d mu)(hS:4<=hd S)
  (hk:∀mu',ao aj T r S mu'->CR r c d mu'->cj r c mu mu'->kv (.tup [.str [114,101,108],.str s',sub,b.enc]) mu'):
  wP (W n) (aS (FL.drop 2) (ax kv) (aG ke) ⟨[.val (.obj c),.val sub,.val (.bool q),.unset],mu⟩):=by
 obtain⟨L,hc⟩:=hC.here
 refine wl hc (wc (t54 R h0 hC (lw hn) fun mu1 h1 g1=>?_))
 have hC1:=hC.oth g1
 obtain⟨L1,hc⟩:=hC1.here
 have hc3:(mu1.set c (nv r d (.tup [sub,.str s'])))[c]? =some (nv r d (.tup [sub,.str s'])):=dj hc
 have h3:ao aj T r (b.tk++S) (mu1.set c (nv r d (.tup [sub,.str s']))):=h1.set hC1
 have fin:∀{t:Pg} mu2,ao aj T r S mu2->aN r (mu1.set c (nv r d (.tup [sub,.str s']))) mu2->eF t=.hold (kv (.tup [.str [114,101,108],.str s',sub,b.enc]) mu2)->wP (W n) t:=fun mu2 h2 g2 e=>
  wk (hk mu2 h2 ((hC1.set (L:=.tup [sub,.str s'])).oth g2) ((g1.two.trans (cj.set _ _ _ _)).trans g2.two)) e
 cases q with
 |true=>
  rw[hq rfl]
  subst hs
  exact wl hc (wl hc3 (wl hc3 (wc (yq R (.op b) (lw hn) hS h3 fun mu2 h2 g2=>fin mu2 h2 g2 (by kernel_rfl)))))
 |false=>
  subst hs
  exact wl hc (wl hc3 (wl hc3 (wc (yq R (.op b) (lw hn) hS h3 fun mu2 h2 g2=>fin mu2 h2 g2 (by kernel_rfl)))))
end
section
variable {d:Nat}
theorem BY{s:List Nat}(hs:dO s)(X:List Tk):bM (a9 s++X) 0 [73,83]=false:=All.mem (P:=fun t=>bM (a9 t++X) 0 [73,83]=false) (l:=pI) ⟨rfl,rfl,rfl,rfl,rfl,rfl,trivial⟩ hs
theorem t53(R:ac W){s:List Nat}(hs:dO s)(b:Op)(sub:V)(hn:32<=n)(h0:ao aj T r (a9 s++(b.tk++S)) mu)(hC:CR r c d mu)(hS:4<=hd S)
  (hk:∀mu',ao aj T r S mu'->CR r c d mu'->cj r c mu mu'->kv (.tup [.str [114,101,108],.str s,sub,b.enc]) mu'):W n (.fn 53) [.obj c,sub] mu kv ke:=by
 obtain⟨p,hr,D⟩:=h0.here
 obtain⟨L,hc⟩:=hC.here
 refine R.go 53 2 (lw hn) rfl ?_
 refine wl hc (wl hr (wc (bP R h0 [73,83] rfl (by decide) (BY hs _) (lv hn) ?_)))
 by_cases e:s=[60,62]
 ·subst e
  have h1:ao aj T r (wd [78,79,84]::sg [61]::(b.tk++S)) mu:=h0
  refine wl hc (wl hr (wc (cT R h1 [78,79,84] rfl (by decide) rfl (lv hn) fun mu1 h2 g2=>?_)))
  exact wq (DV (ke:=ke) R (q:=true) (s':=[60,62]) rfl (fun _=>rfl) b sub (lv hn) h2 (hC.oth g2) hS fun mu2 h3 g3 o3=>hk mu2 h3 g3 (g2.two.trans o3))
 ·have e:a9 s=[sg s]:=if_neg fun h=>e (eq_of_beq h)
  rw[e]at h0
  refine wl hc (wl hr (wc (bP R h0 [78,79,84] rfl (by decide) rfl (lv hn) ?_)))
  exact wq (DV (ke:=ke) R (q:=false) (s':=s) rfl nofun b sub (lv hn) h0 hC hS hk)
theorem uM{s:List Nat}(hs:dO s)(X:List Tk):eQ (a9 s++X) (iS (a9 s++X))=true/\gW (a9 s++X) (iS (a9 s++X))=[]:=
 All.mem (P:=fun t=>eQ (a9 t++X) (iS (a9 t++X))=true/\gW (a9 t++X) (iS (a9 t++X))=[]) (l:=pI) ⟨⟨rfl,rfl⟩,⟨rfl,rfl⟩,⟨rfl,rfl⟩,⟨rfl,rfl⟩,⟨rfl,rfl⟩,⟨rfl,rfl⟩,trivial⟩ hs
theorem GT(R:ac W){s:List Nat}(hs:dO s)(b:Op)(sub:V)(hn:33<=n)(h0:ao aj T r (a9 s++(b.tk++S)) mu)(hC:CR r c d mu)(hS:4<=hd S)
  (hk:∀mu',ao aj T r S mu'->CR r c d mu'->cj r c mu mu'->kv (.tup [.str [114,101,108],.str s,sub,b.enc]) mu'):W n (.fn 52) [.obj c,sub] mu kv ke:=by
 obtain⟨L,hc⟩:=hC.here
 refine R.go 52 3 (lw hn) rfl ?_
 refine wl hc (wl hc (wc (Gp R h0 (lv hn) (wc (Ah R h0 (iS (a9 s++(b.tk++S))) (lv hn) ?_)))))
 rw[(uM hs _).2]
 refine wl hc (wc (t53 R hs b sub (lv hn) h0 hC hS fun mu1 h1 g1 o1=>?_))
 exact wk (hk mu1 h1 g1 o1)
def i5(w k:List Nat):Prop:=(kQ w/\k=[99,108,97,115,115])∨(iY w/\k=[115,105,103,110])
theorem i5.of{w k:List Nat}(P:List Nat->Prop)(h:i5 w k)(a:All P Fz)(b:All P BN):P w:=h.elim (fun h=>a.mem h.1) fun h=>b.mem h.1
theorem i5.not{w k:List Nat}(h:i5 w k):(w==[78,79,84])=false:=h.of (fun w=>(w==[78,79,84])=false) ⟨rfl,rfl,rfl,trivial⟩ ⟨rfl,rfl,rfl,trivial⟩
theorem i5.rel{w k:List Nat}(h:i5 w k):(bC w yQ).isSome=false:=h.of (fun w=>(bC w yQ).isSome=false) ⟨rfl,rfl,rfl,trivial⟩ ⟨rfl,rfl,rfl,trivial⟩
theorem i5.pl{w k:List Nat}(h:i5 w k)(S:List Tk):iS (wd [73,83]::wd w::S)=1:=by
 show(if(w==[78,79,84])=true then 2 else 1)=1
 rw[h.not];rfl
theorem BM{w:List Nat}(h:iY w):bC w ux=some (.str w):=All.mem (P:=fun w=>bC w ux=some (.str w)) (l:=BN) ⟨rfl,rfl,rfl,trivial⟩ h
theorem DW(R:ac W){w k:List Nat}(hs:i5 w k)(sub:V)(hn:33<=n)(h0:ao aj T r (wd [73,83]::wd w::S) mu)(hC:CR r c d mu)
  (hk:∀mu',ao aj T r S mu'->CR r c d mu'->cj r c mu mu'->kv (.tup [.str k,.str w,sub]) mu'):W n (.fn 52) [.obj c,sub] mu kv ke:=by
 obtain⟨L,hc⟩:=hC.here
 refine R.go 52 3 (lw hn) rfl ?_
 refine wl hc (wl hc (wc (Gp R h0 (lv hn) ?_)))
 rw[hs.pl]
 refine wc (Ah R h0 1 (lv hn) (wq (cO 1 (b:=Do) (kv:=kv) (ke:=aG ke) (st:=⟨[.val (.obj c),.val sub,.val (.str w),.unset,.unset],mu⟩) (st':=⟨[.val (.obj c),.val sub,.val (.str w),.unset,.unset],mu⟩) ?_ fun K hK _=>?_)))
 ·refine wl hc ?_
  have h1:ao aj T r (wd [73,83]::wd w::S) (mu.set c (nv r d .none)):=h0.set hC
  have hC1:CR r c d (mu.set c (nv r d .none)):=hC.set
  obtain⟨p,hr,D⟩:=h1.here
  have hc:=dj (y:=nv r d .none) hc
  refine wl hc (wl hr (wc (cT R h1 [73,83] rfl (by decide) rfl (lv hn) fun mu2 h2 g2=>?_)))
  have hC2:=hC1.oth g2
  obtain⟨p,hr,D⟩:=h2.here
  obtain⟨L,hc⟩:=hC2.here
  refine wl hc (wl hr (wc (bP R h2 [78,79,84] rfl (by decide) hs.not (lv hn) ?_)))
  refine wl hc (wl hr (wc (tI R h2 (lv hn) fun mu3 h3 g3=>?_)))
  refine wq (cO 6 (b:=Do) (kv:=kv) (ke:=aG ke) (st:=⟨[.val (.obj c),.val sub,.val (.str w),.val (.bool false),.unset],mu3⟩) (st':=⟨[.val (.obj c),.val sub,.val (.str w),.val (.bool false),.val (.tup [.str k,.str w,sub])],mu3⟩) ?_ fun K hK _=>?_)
  ·exact wk (hk mu3 h3 (hC2.oth g3) (((cj.set r c mu (nv r d .none)).trans g2.two).trans g3.two))
  ·rcases hs with⟨h,rfl⟩|⟨h,rfl⟩
   ·exact wt (qk h) (wq hK)
   ·refine wt (pG h) (aw 0 (t':=opt (bC w ux) fun v=>K .next ⟨[.val (.obj c),.val sub,.val (.str w),.val (.bool false),.val (.tup [.str [115,105,103,110],v,sub])],mu3⟩) ?_ (by kernel_rfl))
    rw[BM h]
    exact wq hK
 ·rcases hs with⟨h,rfl⟩|⟨h,rfl⟩
  ·exact wt (qk h) (wq hK)
  ·exact wt (pG h) (wt (qS h) (wq hK))
end
section
variable {d:Nat}
noncomputable def zk(t:Tk):Bool:= !(gW [t] 0==[73,83])&&(!(gW [t] 0==[78,79,84])&&(!ru t&& !isS [t] 0 [40]))
theorem n5{t:Tk}{X:List Tk}(h:zk t=true):iS (t::X)=0/\eQ (t::X) 0=false/\isS (t::X) 0 [40]=false/\(gW (t::X) 0==[78,79,84])=false:=by
 obtain⟨a,h⟩:=JP.mp h
 obtain⟨b,h⟩:=JP.mp h
 obtain⟨c,d⟩:=JP.mp h
 rw[Bool.not_eq_true']at a b c d
 refine⟨?_,c,d,b⟩
 show(if(gW [t] 0==[73,83])=true then _ else if(gW [t] 0==[78,79,84])=true then 1 else 0)=0
 rw[a,b];rfl
def nn(X:List Tk):Prop:=∃t Y,X=t::Y/\zk t=true
theorem nn.app{X:List Tk}(h:nn X)(Y:List Tk):nn (X++Y):=by obtain⟨t,Z,rfl,h⟩:=h;exact⟨t,Z++Y,rfl,h⟩
theorem Rf.hdOk(f:Rf):nn f.tk:=by
 exact⟨wd f.nm.s,_,rfl,(by decide:∀t∈n7,zk (wd t)=true) _ f.nm.ok⟩
theorem Op.hdOk(o:Op):nn o.tk:=by
 cases o with
 |rf f=>exact f.hdOk
 |nu n=>
  show nn (if n.ng then[sg [45],nb n.fg]else[nb n.fg])
  cases n.ng<;>exact⟨_,_,rfl,rfl⟩
 |tx t h=>exact⟨_,_,rfl,rfl⟩
 |fg a b h=>exact⟨_,_,rfl,(by decide:∀t∈AH,zk (wd t.2)=true) (a,b) h⟩
 |al t h=>exact⟨_,_,rfl,rfl⟩
theorem Ex.hdOk(e:Ex):nn e.tk:=by
 cases e with
 |op o=>exact o.hdOk
 |add a b=>exact a.hdOk.app _
 |mul a=>exact a.hdOk.app _
 |sub a b=>exact a.hdOk.app _
def Rf.off(f:Rf):Prop:=([73,83,45,79,78]==f.nm.s)=false
noncomputable def Op.pl:Op->Prop
 | .rf f=>f.off
 |_=>True
noncomputable def Ex.pl:Ex->Prop
 | .op o=>o.pl
 |_=>True
theorem Bn(R:ac W)(e:Ex)(hp:e.pl){Y:List Tk}(hY:4<=hd Y)(hq:eQ Y (iS Y)=true∨(eQ Y (iS Y)=false/\(kQ (gW Y (iS Y))∨iY (gW Y (iS Y)))))(hn:34<=n)(h0:ao aj T r (e.tk++Y) mu)(hC:CR r c d mu)
  (hk:∀mu',ao aj T r Y mu'->CR r c d mu'->aN r mu mu'->W (n - 1) (.fn 52) [.obj c,e.enc] mu' kv ke):W n (.fn 48) [.obj c] mu kv ke:=by
 obtain⟨L,hc⟩:=hC.here
 obtain⟨t,X,e1,h1⟩:=e.hdOk.app Y
 obtain⟨p1,p2,p3,p4⟩:=n5 (X:=X) h1
 refine R.go 48 1 (lw hn) rfl (wl hc (wc (GV R h0 (lv hn) ?_)))
 rw[e1,p1,p2]
 refine wl hc (wc (yq R e (lv hn) hY h0 fun mu1 h2 g2=>?_))
 have hC1:=hC.oth g2
 obtain⟨L1,hc⟩:=hC1.here
 refine wq (cO 2 (b:=FM) (kv:=kv) (ke:=aG ke) (st:=⟨[.val (.obj c),.val e.enc],mu1⟩) (st':=⟨[.val (.obj c),.val e.enc],mu1⟩) ?_ fun K hK _=>?_)
 ·exact wl hc (wc (GW R h2 (lv hn) hq (wl hc (wc (R.mono (hk mu1 h2 hC1 g2) (fun v mu h=>wk h) fun c mu h=>wk h)))))
 ·cases e with
  |op o=>
   cases o with
   |rf f=>
    refine wl hc (wc (lam1 R (q:=.tup (f.q.map fun g=>.str g.s)) f.nm.s h2 (lv hn) ?_))
    rw[show([73,83,45,79,78]==f.nm.s)=false from hp]
    exact wq hK
   |_=>exact aw 1 hK (by kernel_rfl)
  |_=>exact aw 1 hK (by kernel_rfl)
theorem GU(R:ac W)(q:Bool)(hn:34<=n)(hS:4<=hd S)(h0:ao aj T r ((bj q).tk++S) mu)(hC:CR r c d mu)
  (hk:∀mu',ao aj T r S mu'->CR r c d mu'->cj r c mu mu'->kv (.tup [.str [110,97,109,101,100],(bj q).enc]) mu'):W n (.fn 48) [.obj c] mu kv ke:=by
 obtain⟨L,hc⟩:=hC.here
 obtain⟨t,X,e1,h1⟩:=(bj q).hdOk.app S
 obtain⟨p1,p2,p3,p4⟩:=n5 (X:=X) h1
 refine R.go 48 1 (lw hn) rfl (wl hc (wc (GV R h0 (lv hn) ?_)))
 rw[e1,p1,p2]
 refine wl hc (wc (yq R (.op (.rf (bj q))) (lv hn) hS h0 fun mu1 h2 g2=>?_))
 have hC1:=hC.oth g2
 obtain⟨L1,hc⟩:=hC1.here
 exact wl hc (wc (lam1 R (q:=.tup ((bj q).q.map fun g=>.str g.s)) [73,83,45,79,78] h2 (lv hn) (wl hc (wk (hk (mu1.set c (nv r d .none)) (h2.set hC1) hC1.set (g2.two.trans (cj.set _ _ _ _)))))))
theorem uN{s:List Nat}(hs:dO s)(X:List Tk):hd (a9 s++X)=4:=All.mem (P:=fun t=>hd (a9 t++X)=4) (l:=pI) ⟨rfl,rfl,rfl,rfl,rfl,rfl,trivial⟩ hs
theorem Av{w k:List Nat}(h:i5 w k):eQ (wd [73,83]::wd w::S) (iS (wd [73,83]::wd w::S))=false/\(kQ (gW (wd [73,83]::wd w::S) (iS (wd [73,83]::wd w::S)))∨iY (gW (wd [73,83]::wd w::S) (iS (wd [73,83]::wd w::S)))):=by
 rw[h.pl]
 exact⟨h.rel,h.imp (·.1) (·.1)⟩
noncomputable def Cd.pl:Cd->Prop
 | .rel _ _ a _=>a.pl
 | .cls _ _ f=>f.off
 | .sgn _ _ a=>a.pl
 | .named _=>True
 | .not a=>a.pl
 | .and a b=>a.pl/\b.pl
 | .or a b=>a.pl/\b.pl
theorem t48(R:ac W)(x:Cd)(hx:x.str=4)(hp:x.pl)(hn:34<=n)(hS:4<=hd S)(h0:ao aj T r (x.tk++S) mu)(hC:CR r c d mu)
  (hk:∀mu',ao aj T r S mu'->CR r c d mu'->cj r c mu mu'->kv x.enc mu'):W n (.fn 48) [.obj c] mu kv ke:=by
 cases x with
 |rel s hs a b=>
  have e:(Cd.rel s hs a b).tk++S=a.tk++(a9 s++(b.tk++S)):=(JK _ _ _).trans (congrArg _ (JK _ _ _))
  rw[e]at h0
  refine Bn R a hp (by rw[uN hs];exact JL 4) (.inl (uM hs _).1) hn h0 hC fun mu1 h1 g1 o1=>?_
  exact GT R hs b a.enc (lv hn) h1 g1 hS fun mu2 h2 g2 o2=>hk mu2 h2 g2 (o1.two.trans o2)
 |cls s hs f=>
  have hw:i5 s [99,108,97,115,115]:=.inl ⟨hs,rfl⟩
  have e:(Cd.cls s hs f).tk++S=f.tk++(wd [73,83]::wd s::S):=JK _ _ _
  rw[e]at h0
  refine Bn R (.op (.rf f)) hp (Y:=wd [73,83]::wd s::S) (JL 4) (.inr (Av hw)) hn h0 hC fun mu1 h1 g1 o1=>?_
  exact DW R hw _ (lv hn) h1 g1 fun mu2 h2 g2 o2=>hk mu2 h2 g2 (o1.two.trans o2)
 |sgn s hs a=>
  have hw:i5 s [115,105,103,110]:=.inr ⟨hs,rfl⟩
  have e:(Cd.sgn s hs a).tk++S=a.tk++(wd [73,83]::wd s::S):=JK _ _ _
  rw[e]at h0
  refine Bn R a hp (Y:=wd [73,83]::wd s::S) (JL 4) (.inr (Av hw)) hn h0 hC fun mu1 h1 g1 o1=>?_
  exact DW R hw _ (lv hn) h1 g1 fun mu2 h2 g2 o2=>hk mu2 h2 g2 (o1.two.trans o2)
 |named q=>exact GU R q hn hS h0 hC hk
 |not a=>exact absurd (show(3:Int)=4 from hx) (by decide)
 |and a b=>exact absurd (show(2:Int)=4 from hx) (by decide)
 |or a b=>exact absurd (show(1:Int)=4 from hx) (by decide)
end
section
variable {d:Nat}
def ip(W:Nat->Call)(T:List Tk)(r n f d:Nat)(X:List Tk)(v:V)(E:List Tk->Prop):Prop:=
 ∀(c:Nat) (S:List Tk) (mu:List aa) (kv:V->List aa->Prop) (ke:Nat->List aa->Prop),E S->ao aj T r (X++S) mu->CR r c d mu->
  (∀mu',ao aj T r S mu'->CR r c d mu'->cj r c mu mu'->kv v mu')->W n (.fn f) [.obj c] mu kv ke
def E0(S:List Tk):Prop:=4<=hd S
def E1(S:List Tk):Prop:=4<=hd S/\bM S 0 [65,78,68]=false
def E2(S:List Tk):Prop:=4<=hd S/\bM S 0 [65,78,68]=false/\bM S 0 [79,82]=false
theorem ip.up{f:Nat}{X:List Tk}{v:V}{E:List Tk->Prop}{m m':Nat}(R:ac W)(h:ip W T r m f d X v E)(hm:m<=m'):ip W T r m' f d X v E:=
 fun c S mu kv ke h1 h2 h3 h4=>R.le hm (h c S mu kv ke h1 h2 h3 h4)
theorem ao.add{N:V}{x:aa}(h:ao N T r S mu):ao N T r S (mu++[x]):=by
 obtain⟨⟨p,h1,h2⟩,h3,h4⟩:=h
 exact⟨⟨p,by rw[J6 (ib h1)];exact h1,h2⟩,h3,h4⟩
theorem vv{j:Nat}(h:j < mu.length)(x:aa):j < (mu++[x]).length:=Ka h (JU▸JV _ _)
theorem ao.lt{N:V}(h:ao N T r S mu):r < mu.length:=h.here.elim fun _ h=>ib h.1
theorem CR.add(h:ao aj T r S mu):CR r mu.length d (mu++[nv r d .none]):=⟨⟨.none,cX _ _⟩,Ly h.lt⟩
theorem cj.off{x:aa}{mu':List aa}(o:cj r mu.length (mu++[x]) mu'):aN r mu mu':=
 ⟨JH (JU▸JV _ _) o.len,fun j hj a=>(o.at_ j (vv hj x) a (K0 hj)).trans (J6 hj)⟩
theorem t49(R:ac W)(h:ip W T r m 44 (d+1) X v E2)(hd:d<=18)(hm:6<=m):ip W T r (m+1) 49 d (lp::(X++[rp])) v E0:=by
 intro c S mu kv ke hE h0 hC hk
 have e:lp::(X++[rp])++S=lp::(X++rp::S):=congrArg (lp::·) (JK _ _ _)
 rw[e]at h0
 obtain⟨z,rfl⟩:=J2 (lw hm rfl:2<=m)
 obtain⟨p,hr,D⟩:=h0.here
 obtain⟨L,hc⟩:=hC.here
 refine R.go 49 1 (JS 1 (z+2)) rfl (wl hc (wt (Kg (LL.mpr (Int.ofNat_lt.mpr (KI (J1 hd))))) ?_))
 refine wl hc (wl hr (wc (kA R (a:=[40]) h0 (lw hm) fun mu1 h1 g1=>?_)))
 have hC1:=hC.oth g1
 obtain⟨L1,hc⟩:=hC1.here
 have hc2:(mu1++[nv r (d+1) .none])[mu1.length]? =some (nv r (d+1) .none):=cX _ _
 refine wl hc (wl hc (wl hc (wc (mu:=mu1) (R.cr (n:=z) (a:=.obj r) (b:=.lam 1 [.obj r]) (c:=.int ((d:Int)+1)) (wl hc2 (wc (h mu1.length (rp::S) _ _ _ ⟨JL 4,rfl,rfl⟩ h1.add (CR.add h1) fun mu3 h3 hC3 o3=>?_)))))))
 have o4:=o3.off
 have hC4:=hC1.oth o4
 obtain⟨p,hr,D⟩:=h3.here
 obtain⟨L4,hc⟩:=hC4.here
 refine wl hc (wl hr (wc (kA R (a:=[41]) h3 (lw hm) fun mu5 h5 g5=>?_)))
 have hC5:=hC4.oth g5
 obtain⟨L5,hc⟩:=hC5.here
 exact wl hc (wk (hk (mu5.set c (nv r d .none)) (h5.set hC5) hC5.set ((((g1.trans o4).trans g5).two).trans (cj.set _ _ _ _))))
theorem t47b(R:ac W)(h:ip W T r m 49 d (lp::(X++[rp])) v E0)(hm:6<=m):ip W T r (m+1) 47 d (lp::(X++[rp])) v E0:=by
 intro c S mu kv ke hE h0 hC hk
 obtain⟨p,hr,D⟩:=h0.here
 obtain⟨L,hc⟩:=hC.here
 refine R.go 47 1 (JS 1 m) rfl ?_
 refine wl hc (wl hr (wc (gY R h0 [40] (lw hm) ?_)))
 exact wl hc (wl hr (wl hc (wc (h _ _ _ _ _ hE h0 hC fun mu' a b e=>wk (hk mu' a b e)))))
theorem DX(R:ac W)(x:Cd)(hx:x.str=4)(hp:x.pl)(hm:34<=m)(hX:nn x.tk):ip W T r (m+1) 47 d x.tk x.enc E0:=by
 intro c S mu kv ke hE h0 hC hk
 obtain⟨p,hr,D⟩:=h0.here
 obtain⟨L,hc⟩:=hC.here
 obtain⟨t,Y,e1,h1⟩:=hX.app S
 obtain⟨p1,p2,p3,p4⟩:=n5 (X:=Y) h1
 refine R.go 47 1 (JS 1 m) rfl ?_
 refine wl hc (wl hr (wc (gY R h0 [40] (lw hm) ?_)))
 rw[e1,p3]
 exact wl hc (wc (t48 R x hx hp (lw hm) hE h0 hC fun mu' a b e=>wk (hk mu' a b e)))
theorem Cd.hdOk(x:Cd)(hx:x.str=4):nn x.tk:=by
 cases x with
 |rel s hs a b=>exact a.hdOk.app _
 |cls s hs f=>exact f.hdOk.app _
 |sgn s hs a=>exact a.hdOk.app _
 |named q=>exact(bj q).hdOk
 |not a=>exact absurd (show(3:Int)=4 from hx) (by decide)
 |and a b=>exact absurd (show(2:Int)=4 from hx) (by decide)
 |or a b=>exact absurd (show(1:Int)=4 from hx) (by decide)
theorem t46p(R:ac W){E:List Tk->Prop}(h:ip W T r m 47 d X v E)(hX:∀S,(gW (X++S) 0==[78,79,84])=false)(hm:6<=m):ip W T r (m+1) 46 d X v E:=by
 intro c S mu kv ke hE h0 hC hk
 obtain⟨L,hc⟩:=hC.here
 exact R.go 46 0 (JS 1 m) rfl (wl hc (wc (Bo R h0 (lw hm) (wt (hX S) (wl hc (wc (h _ _ _ _ _ hE h0 hC fun mu' a b e=>wk (hk mu' a b e))))))))
theorem DY(R:ac W){E:List Tk->Prop}(h:ip W T r m 47 d X v E)(hX:∀S,eQ (X++S) 0=false)(hm:6<=m):ip W T r (m+1) 46 d (wd [78,79,84]::X) (.tup [.str [110,111,116],v]) E:=by
 intro c S mu kv ke hE h0 hC hk
 obtain⟨p,hr,D⟩:=h0.here
 obtain⟨L,hc⟩:=hC.here
 refine R.go 46 0 (JS 1 m) rfl (wl hc (wc (Bo R h0 (lw hm) (wl hc (wc (GV R h0 (lw hm) ?_))))))
 rw[show eQ (wd [78,79,84]::X++S) (iS (wd [78,79,84]::X++S))=false from hX S]
 refine wl hc (wl hr (wc (tI R h0 (lw hm) fun mu1 h1 g1=>?_)))
 have hC1:=hC.oth g1
 obtain⟨L1,hc⟩:=hC1.here
 exact wl hc (wc (h _ _ _ _ _ hE h1 hC1 fun mu2 h2 hC2 o2=>wk (hk mu2 h2 hC2 (g1.two.trans o2))))
end
section
variable {d:Nat}
noncomputable def qf(kv:V->List aa->Prop)(ke:Nat->List aa->Prop):KF:=kJ (ax kv) fun st=>aS (kO.drop 2) (ax kv) (aG ke) st
theorem BA(R:ac W){K:KF}(h:ip W T r n 46 d Y w E0)(hn:6<=n)(hS:E0 S)(h0:ao aj T r (wd [65,78,68]::(Y++S)) mu)(hC:CR r c d mu)
  (hk:∀mu',ao aj T r S mu'->CR r c d mu'->cj r c mu mu'->wP (W n) (fR kO[1]? K m ⟨[.val (.obj c),.val (.tup [.str [97,110,100],v,w])],mu'⟩)):wP (W n) (fR kO[1]? K (m+1) ⟨[.val (.obj c),.val v],mu⟩):=by
 obtain⟨p,hr,D⟩:=h0.here
 obtain⟨L,hc⟩:=hC.here
 refine wl hc (wl hr (wc (cT R h0 [65,78,68] rfl (by decide) rfl (lw hn) fun mu1 h1 g1=>?_)))
 have hC1:=hC.oth g1
 obtain⟨L1,hc⟩:=hC1.here
 exact wl hc (wc (h _ _ _ _ _ hS h1 hC1 fun mu2 h2 hC2 o2=>wq (hk mu2 h2 hC2 (g1.two.trans o2))))
theorem AM(R:ac W){K:KF}(hn:6<=n)(hS:bM S 0 [65,78,68]=false)(h0:ao aj T r S mu)(hC:CR r c d mu)(hk:wP (W n) (K .next ⟨[.val (.obj c),.val v],mu⟩)):wP (W n) (fR kO[1]? K (m+1) ⟨[.val (.obj c),.val v],mu⟩):=by
 obtain⟨p,hr,D⟩:=h0.here
 obtain⟨L,hc⟩:=hC.here
 refine wl hc (wl hr (wc (bP R h0 [65,78,68] rfl (by decide) hS (lw hn) ?_)))
 exact wq hk
theorem m9(R:ac W)(h:ip W T r n 46 d Y w E0)(hS:E0 S)(h0:ao aj T r (Y++S) mu)(hC:CR r c d mu)
  (hk:∀mu',ao aj T r S mu'->CR r c d mu'->cj r c mu mu'->wP (W n) (fR kO[1]? (qf kv ke) m ⟨[.val (.obj c),.val w],mu'⟩)):wP (W n) (aS (kO.drop 0) (ax kv) (aG ke) ⟨[.val (.obj c),.unset],mu⟩):=by
 obtain⟨L,hc⟩:=hC.here
 exact wl hc (wc (h _ _ _ _ _ hS h0 hC fun mu2 h2 hC2 o2=>wr m (wq (hk mu2 h2 hC2 o2))))
noncomputable def qg(kv:V->List aa->Prop)(ke:Nat->List aa->Prop):KF:=kJ (ax kv) fun st=>aS (ka.drop 2) (ax kv) (aG ke) st
theorem BB(R:ac W){K:KF}(h:ip W T r n 45 d Y w E1)(hn:6<=n)(hS:E1 S)(h0:ao aj T r (wd [79,82]::(Y++S)) mu)(hC:CR r c d mu)
  (hk:∀mu',ao aj T r S mu'->CR r c d mu'->cj r c mu mu'->wP (W n) (fR ka[1]? K m ⟨[.val (.obj c),.val (.tup [.str [111,114],v,w])],mu'⟩)):wP (W n) (fR ka[1]? K (m+1) ⟨[.val (.obj c),.val v],mu⟩):=by
 obtain⟨p,hr,D⟩:=h0.here
 obtain⟨L,hc⟩:=hC.here
 refine wl hc (wl hr (wc (cT R h0 [79,82] rfl (by decide) rfl (lw hn) fun mu1 h1 g1=>?_)))
 have hC1:=hC.oth g1
 obtain⟨L1,hc⟩:=hC1.here
 exact wl hc (wc (h _ _ _ _ _ hS h1 hC1 fun mu2 h2 hC2 o2=>wq (hk mu2 h2 hC2 (g1.two.trans o2))))
theorem Fr(R:ac W){K:KF}(hn:6<=n)(hS:bM S 0 [79,82]=false)(h0:ao aj T r S mu)(hC:CR r c d mu)(hk:wP (W n) (K .next ⟨[.val (.obj c),.val v],mu⟩)):wP (W n) (fR ka[1]? K (m+1) ⟨[.val (.obj c),.val v],mu⟩):=by
 obtain⟨p,hr,D⟩:=h0.here
 obtain⟨L,hc⟩:=hC.here
 refine wl hc (wl hr (wc (bP R h0 [79,82] rfl (by decide) hS (lw hn) ?_)))
 exact wq hk
theorem Dm(R:ac W)(h:ip W T r n 45 d Y w E1)(hS:E1 S)(h0:ao aj T r (Y++S) mu)(hC:CR r c d mu)
  (hk:∀mu',ao aj T r S mu'->CR r c d mu'->cj r c mu mu'->wP (W n) (fR ka[1]? (qg kv ke) m ⟨[.val (.obj c),.val w],mu'⟩)):wP (W n) (aS (ka.drop 0) (ax kv) (aG ke) ⟨[.val (.obj c),.unset],mu⟩):=by
 obtain⟨L,hc⟩:=hC.here
 exact wl hc (wc (h _ _ _ _ _ hS h0 hC fun mu2 h2 hC2 o2=>wr m (wq (hk mu2 h2 hC2 o2))))
def A2(W:Nat->Call)(T:List Tk)(r H N:Nat):Prop:=∀y:Cd,y.ht < H->y.pl->∀d,d+H<=20->ip W T r N 44 d y.tk y.enc E2
theorem AS(R:ac W)(I:A2 W T r H m)(x:Cd)(hx:x.ht < H)(hp:x.pl)(hd:d+H<=19)(hm:35<=m):ip W T r (m+2) 47 d (gk true x.tk) x.enc E0:=
 t47b R (t49 R (I x hx hp (d+1) (by rw[Nat.add_right_comm];exact JW hd)) (KJ (JH (JM (Nat.succ_le_of_lt (Kw (KD _) hx)) d) hd)) (lw hm)) (J1 (lw hm))
theorem Bh(R:ac W)(I:A2 W T r H m)(x:Cd)(hx:x.ht < H)(hp:x.pl)(hd:d+H<=19)(hm:35<=m):ip W T r (m+3) 46 d (gk true x.tk) x.enc E0:=
 t46p R (AS R I x hx hp hd hm) (fun S=>rfl) (Ke (lw hm))
theorem Cd.str4(x:Cd):x.str<=4:=by cases x<;>exact JN rfl
theorem GD(R:ac W)(I:A2 W T r H m)(x:Cd)(hx:x.ht<=H)(hs:3<=x.str)(hp:x.pl)(hd:d+H<=19)(hm:35<=m):ip W T r (m+3) 46 d x.tk x.enc E0:=by
 have simple:x.str=4->ip W T r (m+3) 46 d x.tk x.enc E0:=fun h4=>t46p R (DX R x h4 hp (J1 (lw hm)) (x.hdOk h4)) (fun S=>by
  obtain⟨t,Y,e,h⟩:=(x.hdOk h4).app S
  rw[e];exact(n5 h).2.2.2) (Ke (lw hm))
 cases x with
 |not y=>
  show ip W T r (m+3) 46 d (wd [78,79,84]::gk (decide (y.str < 4)) y.tk) (.tup [.str [110,111,116],y.enc]) E0
  cases hy:decide (y.str < 4)with
  |true=>exact DY R (AS R I y hx hp hd hm) (fun S=>rfl) (Ke (lw hm))
  |false=>
   have h4:y.str=4:=Int.le_antisymm y.str4 (KK.mp (Lg hy))
   refine DY R (DX R y h4 hp (J1 (lw hm)) (y.hdOk h4)) (fun S=>?_) (Ke (lw hm))
   obtain⟨t,Y,e,h⟩:=(y.hdOk h4).app S
   show eQ (y.tk++S) 0=false
   rw[e];exact(n5 h).2.1
 |and a b=>exact absurd (show(3:Int)<=2 from hs) (by decide)
 |or a b=>exact absurd (show(3:Int)<=1 from hs) (by decide)
 |_=>exact simple rfl
end
section
variable {d:Nat}
theorem q45(R:ac W)(I:A2 W T r H m)(hd:d+H<=19)(hm:35<=m)(x:Cd):x.ht<=H->2<=x.str->x.pl->∀{S:List Tk} {mu:List aa} {j:Nat},E0 S->ao aj T r (x.tk++S) mu->CR r c d mu->
  (∀mu',ao aj T r S mu'->CR r c d mu'->cj r c mu mu'->wP (W (m+3)) (fR kO[1]? (qf kv ke) j ⟨[.val (.obj c),.val x.enc],mu'⟩))->wP (W (m+3)) (aS (kO.drop 0) (ax kv) (aG ke) ⟨[.val (.obj c),.unset],mu⟩):=by
 induction x with
 |and a b iha ihb=>
  intro hx hs hp S mu j hS h0 hC hk
  have e:(Cd.and a b).tk++S=gk (decide (a.str < 2)) a.tk++(wd [65,78,68]::(gk (decide (b.str < 3)) b.tk++S)):=JK _ _ _
  rw[e]at h0
  have ha:a.ht < H:=Ka (KI (KT _ _)) hx
  have hb:b.ht < H:=Ka (KI (K8 _ _)) hx
  have hB:ip W T r (m+3) 46 d (gk (decide (b.str < 3)) b.tk) b.enc E0:=by
   cases h:decide (b.str < 3)with
   |true=>exact Bh R I b hb hp.2 hd hm
   |false=>exact GD R I b (Lh hb) (KK.mp (Lg h)) hp.2 hd hm
  generalize gk (decide (b.str < 3)) b.tk=Y at h0 hB
  have go:∀mu',ao aj T r (wd [65,78,68]::(Y++S)) mu'->CR r c d mu'->cj r c mu mu'->wP (W (m+3)) (fR kO[1]? (qf kv ke) (j+1) ⟨[.val (.obj c),.val a.enc],mu'⟩):=fun mu' h1 hC1 o1=>
   BA R hB (Ke (lw hm)) hS h1 hC1 fun mu2 h2 hC2 o2=>hk mu2 h2 hC2 (o1.trans o2)
  cases h:decide (a.str < 2)with
  |true=>
   rw[h]at h0
   exact m9 R (Bh R I a ha hp.1 hd hm) (S:=wd [65,78,68]::(Y++S)) (JL 4) h0 hC go
  |false=>
   rw[h]at h0
   exact iha (Lh ha) (KK.mp (Lg h)) hp.1 (S:=wd [65,78,68]::(Y++S)) (JL 4) h0 hC go
 |or a b _ _=>exact fun _ hs=>absurd (show(2:Int)<=1 from hs) (by decide)
 |not y _=>exact fun hx _ hp _ _ _ hS h0 hC hk=>m9 R (GD R I _ hx (JN rfl) hp hd hm) hS h0 hC hk
 |_=>exact fun hx _ hp _ _ _ hS h0 hC hk=>m9 R (GD R I _ hx (JN rfl) hp hd hm) hS h0 hC hk
theorem boB(R:ac W)(I:A2 W T r H m)(hd:d+H<=19)(hm:35<=m)(x:Cd)(hx:x.ht < H)(hp:x.pl):ip W T r (m+4) 45 d (gk true x.tk) x.enc E1:=by
 intro c S mu kv ke hE h0 hC hk
 exact R.go 45 1 (JS 1 (m+3)) rfl (wq (m9 (kv:=kv) (ke:=ke) R (Bh R I x hx hp hd hm) hE.1 h0 hC fun mu' h1 hC1 o1=>AM (m:=0) R (Ke (lw hm)) hE.2 h1 hC1 (wk (hk mu' h1 hC1 o1))))
theorem bo(R:ac W)(I:A2 W T r H m)(hd:d+H<=19)(hm:35<=m)(x:Cd)(hx:x.ht<=H)(hs:2<=x.str)(hp:x.pl):ip W T r (m+4) 45 d x.tk x.enc E1:=by
 intro c S mu kv ke hE h0 hC hk
 exact R.go 45 1 (JS 1 (m+3)) rfl (wq (q45 (kv:=kv) (ke:=ke) R I hd hm x hx hs hp hE.1 h0 hC fun mu' h1 hC1 o1=>AM (m:=0) R (Ke (lw hm)) hE.2 h1 hC1 (wk (hk mu' h1 hC1 o1))))
theorem q44(R:ac W)(I:A2 W T r H m)(hd:d+H<=19)(hm:35<=m)(x:Cd):x.ht<=H->x.pl->∀{S:List Tk} {mu:List aa} {j:Nat},E1 S->ao aj T r (x.tk++S) mu->CR r c d mu->
  (∀mu',ao aj T r S mu'->CR r c d mu'->cj r c mu mu'->wP (W (m+4)) (fR ka[1]? (qg kv ke) j ⟨[.val (.obj c),.val x.enc],mu'⟩))->wP (W (m+4)) (aS (ka.drop 0) (ax kv) (aG ke) ⟨[.val (.obj c),.unset],mu⟩):=by
 have base:∀x:Cd,2<=x.str->x.ht<=H->x.pl->∀{S:List Tk} {mu:List aa} {j:Nat},E1 S->ao aj T r (x.tk++S) mu->CR r c d mu->
  (∀mu',ao aj T r S mu'->CR r c d mu'->cj r c mu mu'->wP (W (m+4)) (fR ka[1]? (qg kv ke) j ⟨[.val (.obj c),.val x.enc],mu'⟩))->wP (W (m+4)) (aS (ka.drop 0) (ax kv) (aG ke) ⟨[.val (.obj c),.unset],mu⟩):=
  fun x hs hx hp _ _ _ hS h0 hC hk=>Dm R (bo R I hd hm x hx hs hp) hS h0 hC hk
 induction x with
 |or a b iha ihb=>
  intro hx hp S mu j hS h0 hC hk
  have e:(Cd.or a b).tk++S=a.tk++(wd [79,82]::(gk (decide (b.str < 2)) b.tk++S)):=JK _ _ _
  rw[e]at h0
  have ha:a.ht < H:=Ka (KI (KT _ _)) hx
  have hb:b.ht < H:=Ka (KI (K8 _ _)) hx
  have hB:ip W T r (m+4) 45 d (gk (decide (b.str < 2)) b.tk) b.enc E1:=by
   cases h:decide (b.str < 2)with
   |true=>exact boB R I hd hm b hb hp.2
   |false=>exact bo R I hd hm b (Lh hb) (KK.mp (Lg h)) hp.2
  exact iha (Lh ha) hp.1 (S:=wd [79,82]::(gk (decide (b.str < 2)) b.tk++S)) ⟨JL 4,rfl⟩ h0 hC fun mu' h1 hC1 o1=>
   BB R (m:=j) hB (Ke (lw hm)) hS h1 hC1 fun mu2 h2 hC2 o2=>hk mu2 h2 hC2 (o1.trans o2)
 |and a b _ _=>exact base _ (JN rfl)
 |not y _=>exact base _ (JN rfl)
 |_=>exact base _ (JN rfl)
noncomputable def Gx:Nat->Nat
 |0=>35
 |H+1=>Gx H+5
theorem wN(H:Nat):35<=Gx H:=by
 induction H with
 |zero=>exact JL _
 |succ H ih=>exact Ke ih
theorem Ib(R:ac W)(H:Nat):A2 W T r H (Gx H):=by
 induction H with
 |zero=>exact fun y h=>absurd h (LD _)
 |succ H ih=>
  intro x hx hp d hd c S mu kv ke hE h0 hC hk
  exact R.go 44 1 (JS 1 (Gx H+4)) rfl (wq (q44 (kv:=kv) (ke:=ke) R ih (KJ hd) (wN H) x (LN hx) hp ⟨hE.1,hE.2.1⟩ h0 hC fun mu' h1 hC1 o1=>Fr (m:=0) R (Ke (JH (by decide:6<=35) (wN H))) hE.2.2 h1 hC1 (wk (hk mu' h1 hC1 o1))))
theorem GS(R:ac W)(x:Cd)(hp:x.pl)(hh:x.ht<=5)(hn:70<=n)(hE:E2 S)(h0:ao aj T r (x.tk++S) mu)(hk:∀mu',ao aj T r S mu'->aN r mu mu'->kv x.enc mu'):W n (.fn 55) [.obj r] mu kv ke:=by
 obtain⟨z,rfl⟩:=J2 (lw hn rfl:3<=n)
 have hc2:(mu++[nv r 0 .none])[mu.length]? =some (nv r 0 .none):=cX _ _
 exact R.go 55 0 (JS 1 (z+2)) rfl (wc (mu:=mu) (R.cr (n:=z) (a:=.obj r) (b:=.lam 1 [.obj r]) (c:=.int 0) (wl hc2 (wc (ip.up R (Ib R 6 x (KI hh) hp 0 (by decide)) (KJ (lw hn rfl:66<=z+3)) mu.length S (mu++[nv r 0 .none]) _ _ hE h0.add (CR.add h0) fun mu' h1 hC1 o1=>wk (hk mu' h1 o1.off))))))
end
def EB(S:List Tk):Prop:=bM S 0 [67,79,78,84,73,78,85,69]=false/\bM S 0 [69,88,73,84]=false
theorem zv(R:ac W)(hn:5<=n)(hE:EB S){K:KF}{l:List S1}:∀{acc:List V} {mu:List aa},acc.length+l.length<=50->ao N T r (bh l++S) mu->
  (∀mu',ao N T r S mu'->aN r mu mu'->wP (W n) (K .next ⟨[.val (.obj r),.own (acc++l.map S1.enc)],mu'⟩))->
  wP (W n) (fR xe[1]? K (l.length+1) ⟨[.val (.obj r),.own acc],mu⟩):=by
 induction l with
 |nil=>
  intro acc mu hl h0 hk
  have h0:ao N T r S mu:=h0
  obtain⟨p,hr,D⟩:=h0.here
  refine wl hr (wc (sj R h0 [67,79,78,84,73,78,85,69] rfl (by decide) (lw hn) ?_))
  rw[hE.1]
  refine wl hr (wc (sj R h0 [69,88,73,84] rfl (by decide) (lw hn) ?_))
  rw[hE.2]
  have:=hk mu h0 (aN.refl _ _)
  rw[KG,JX]at this
  exact wq this
 |cons a l ih=>
  intro acc mu hl h0 hk
  have h0:ao N T r (wd a.sh::(bh l++S)) mu:=h0
  obtain⟨p,hr,D⟩:=h0.here
  have la:acc.length < lim:=Kw (JH (JV _ _) hl) (by decide)
  have step:∀mu1,ao N T r (bh l++S) mu1->aN r mu mu1->wP (W n) (fR xe[1]? K (l.length+1) ⟨[.val (.obj r),.own (acc++[a.enc])],mu1⟩):=fun mu1 h1 g1=>
   ih (by rw[JU,KZ,KU [a.enc].length];exact hl) h1 fun mu2 h2 g2=>by
    have:=hk mu2 h2 (g1.trans g2)
    rwa[Kq,KR]at this
  cases a with
  |con=>
   refine wl hr (wc (sj R h0 [67,79,78,84,73,78,85,69] rfl (by decide) (lw hn) ?_))
   refine wl hr (wc (tI R h0 (lw hn) fun mu1 h1 g1=>?_))
   exact ai 1 (wa la (wq (step mu1 h1 g1)))
  |exi=>
   refine wl hr (wc (sj R h0 [67,79,78,84,73,78,85,69] rfl (by decide) (lw hn) ?_))
   refine wl hr (wc (sj R h0 [69,88,73,84] rfl (by decide) (lw hn) ?_))
   refine wl hr (wc (tI R h0 (lw hn) fun mu1 h1 g1=>?_))
   exact ai 1 (wa la (wq (step mu1 h1 g1)))
theorem Hc(R:ac W)(l:List S1)(hl:l.length<=10)(hn:6<=n)(hE:EB S)(h0:ao N T r (bh l++S) mu)(hk:∀mu',ao N T r S mu'->aN r mu mu'->kv (b8 l) mu'):W n (.fn 105) [.obj r] mu kv ke:=by
 refine R.go 105 1 (lw hn) rfl (wr (l.length+1) (wq (zv R (K:=kJ (ax kv) fun st=>aS [.ret (.tupX 1)] (ax kv) (aG ke) st) (lv hn) hE (acc:=[]) ?_ h0 fun mu1 h1 g1=>?_)))
 ·rw[Lk,Lx];exact JH hl (by decide)
 ·exact wa (p:=([]++l.map S1.enc).length<=lim) (aM (aB hl) rfl) (wk (hk mu1 h1 g1))
theorem Gm(R:ac W)(l:List S1)(h:l≠[])(hl:l.length<=10)(hn:7<=n)(hE:EB S)(h0:ao N T r (bh l++S) mu)(hk:∀mu',ao N T r S mu'->aN r mu mu'->kv (b8 l) mu'):W n (.fn 91) [.obj r,.fn 105] mu kv ke:=by
 refine R.go 91 1 (lw hn) rfl ?_
 refine wc (Hc R l hl (lv hn) hE h0 fun mu1 h1 g1=>?_)
 cases l with
 |nil=>exact absurd rfl h
 |cons a l=>exact wt (b:=false) rfl (wk (hk mu1 h1 g1))
theorem t92(R:ac W)(f:iO)(ok:f.ok)(hp:f.c.pl)(hn:75<=n)(h0:ao aj T r f.tk mu)(hk:∀mu',ao aj T r [] mu'->aN r mu mu'->kv f.enc mu'):W n (.fn 92) [.obj r,.fn 105] mu kv ke:=by
 obtain⟨o1,o2,o3,o4,o5⟩:=ok
 obtain⟨c,y,e⟩:=f
 have h0:ao aj T r (wd [73,70]::(c.tk++(wd [84,72,69,78]::(bh y++(nW [69,76,83,69] e++[wd [69,78,68,45,73,70]]))))) mu:=h0
 have o2:c.ht<=5:=JH o2 (by decide)
 have o4:y.length<=10:=JH o4 (by decide)
 have o5:e.length<=10:=JH o5 (by decide)
 obtain⟨p,hr,D⟩:=h0.here
 refine R.go 92 3 (lw hn) rfl ?_
 refine wl hr (wc (GL R h0 [73,70] rfl (by decide) rfl (lv hn) fun mu1 h1 g1=>?_))
 refine wc (GS R c hp o2 (lv hn) (show E2 (wd [84,72,69,78]::(bh y++(nW [69,76,83,69] e++[wd [69,78,68,45,73,70]])))from⟨JL 4,rfl,rfl⟩) h1 fun mu2 h2 g2=>?_)
 obtain⟨p,hr,D⟩:=h2.here
 refine wl hr (wc (cT R h2 [84,72,69,78] rfl (by decide) rfl (lv hn) fun mu3 h3 g3=>?_))
 have g:=(g1.trans g2).trans g3
 refine wc (Gm R y o3 o4 (lv hn) (by cases e<;>exact⟨rfl,rfl⟩) h3 fun mu4 h4 g4=>?_)
 obtain⟨p,hr,D⟩:=h4.here
 have g:=g.trans g4
 cases e with
 |nil=>
  have h4:ao aj T r [wd [69,78,68,45,73,70]] mu4:=h4
  refine wl hr (wc (bP R h4 [69,76,83,69] rfl (by decide) rfl (lv hn) ?_))
  refine wl hr (wc (cT R h4 [69,78,68,45,73,70] rfl (by decide) rfl (lv hn) fun mu5 h5 g5=>?_))
  exact wk (hk mu5 h5 (g.trans g5))
 |cons a l=>
  have h4:ao aj T r (wd [69,76,83,69]::(bh (a::l)++[wd [69,78,68,45,73,70]])) mu4:=h4
  refine wl hr (wc (cT R h4 [69,76,83,69] rfl (by decide) rfl (lv hn) fun mu5 h5 g5=>?_))
  refine wc (Gm R (a::l) (Kr a l) o5 (lv hn) ⟨rfl,rfl⟩ h5 fun mu6 h6 g6=>?_)
  obtain⟨p,hr,D⟩:=h6.here
  refine wl hr (wc (cT R h6 [69,78,68,45,73,70] rfl (by decide) rfl (lv hn) fun mu7 h7 g7=>?_))
  exact wk (hk mu7 h7 ((g.trans g5).trans (g6.trans g7)))
noncomputable def CX:List (List Nat):=[[65,78,89],[84,82,85,69],[70,65,76,83,69],[78,79,84],[79,84,72,69,82]]
theorem Op.noW(o:Op){w:List Nat}(hw:w∈CX)(S:List Tk):bM (o.tk++S) 0 w=false:=by
 cases o with
 |rf f=>exact(by decide:∀w∈CX,∀t∈n7,(t==w)=false) w hw _ f.nm.ok
 |nu n=>
  show bM ((if n.ng then[sg [45],nb n.fg]else[nb n.fg])++S) 0 w=false
  cases n.ng<;>rfl
 |tx t h=>rfl
 |fg a b h=>exact(by decide:∀w∈CX,∀t∈AH,(t.2==w)=false) w hw (a,b) h
 |al t h=>exact(by decide:∀w∈CX,([65,76,76]==w)=false) w hw
theorem Ex.noW(e:Ex){w:List Nat}(hw:w∈CX)(S:List Tk):bM (e.tk++S) 0 w=false:=by
 cases e with
 |op o=>exact o.noW hw S
 |add a b=>exact(congrArg (bM · 0 w) (JK a.tk _ S)).trans (a.noW hw _)
 |mul a=>exact(congrArg (bM · 0 w) (JK a.tk _ S)).trans (a.noW hw _)
 |sub a b=>exact(congrArg (bM · 0 w) (JK a.tk _ S)).trans (a.noW hw _)
noncomputable def E7:List (List Nat):=[[65,78,89],[84,82,85,69],[70,65,76,83,69],[79,84,72,69,82]]
theorem rt{w:List Nat}(h:w∈E7):w∈CX:=(by decide:∀w∈E7,w∈CX) w h
theorem zn{w:List Nat}(h:w∈E7):([78,79,84]==w)=false:=(by decide:∀w∈E7,([78,79,84]==w)=false) w h
theorem Cd.noW(x:Cd){w:List Nat}(hw:w∈E7):∀S:List Tk,bM (x.tk++S) 0 w=false:=by
 induction x with
 |rel s h a b=>exact fun S=>(congrArg (bM · 0 w) (JK a.tk _ S)).trans (a.noW (rt hw) _)
 |cls s h f=>exact fun S=>(congrArg (bM · 0 w) (JK f.tk _ S)).trans (Op.noW (.rf f) (rt hw) _)
 |sgn s h a=>exact fun S=>(congrArg (bM · 0 w) (JK a.tk _ S)).trans (a.noW (rt hw) _)
 |named q=>exact fun S=>Op.noW (.rf (bj q)) (rt hw) S
 |not y _=>exact fun S=>zn hw
 |and a b iha _=>
  intro S
  refine(congrArg (bM · 0 w) (JK (gk (decide (a.str < 2)) a.tk) _ S)).trans ?_
  cases decide (a.str < 2)with
  |true=>rfl
  |false=>exact iha _
 |or a b iha _=>exact fun S=>(congrArg (bM · 0 w) (JK a.tk _ S)).trans (iha _)
structure EO(S:List Tk):Prop where
 e:E2 S
 t1:bM S 0 [84,72,82,85]=false
 t2:bM S 0 [84,72,82,79,85,71,72]=false
noncomputable def ny:Pt->Pt->Prop
 |_,.any=>True
 | .worth _,.is _ _=>True
 | .worth _,.thru _ _ _=>True
 | .yes,.yes| .yes,.no| .no,.yes| .no,.no| .truth _,.yes| .truth _,.no=>True
 | .yes,.truth c| .no,.truth c| .truth _,.truth c=>c.pl
 |_,_=>False
theorem DT(R:ac W)(b:Bool){X:List Tk}(h:ao aj T r (xV b X) mu)(hX:bM X 0 [78,79,84]=false)(hn:4<=n)(hk:∀mu',ao aj T r X mu'->aN r mu mu'->kv (.bool b) mu'):W n (.fn 76) [.obj r,.str [78,79,84]] mu kv ke:=by
 cases b with
 |true=>exact cT R h [78,79,84] rfl (by decide) rfl hn hk
 |false=>exact bP R h [78,79,84] rfl (by decide) hX hn (hk mu h (aN.refl _ _))
theorem mE(b:Bool)(X S:List Tk):xV b X++S=xV b (X++S):=by cases b<;>rfl
theorem vp(b:Bool){X:List Tk}(h:bM X 0 [65,78,89]=false):bM (xV b X) 0 [65,78,89]=false:=by
 cases b
 ·exact h
 ·rfl
theorem t95(R:ac W)(s p:Pt)(ha:ny s p)(ok:p.ok)(hn:75<=n)(hE:EO S)(h0:ao aj T r (p.tk++S) mu)(hk:∀mu',ao aj T r S mu'->aN r mu mu'->kv p.enc mu'):W n (.fn 95) [.obj r,s.enc] mu kv ke:=by
 obtain⟨q,hr,D⟩:=h0.here
 cases p with
 |any=>
  refine R.go 95 2 (lw hn) rfl ?_
  refine wl hr (wc (cT R h0 [65,78,89] rfl (by decide) rfl (lv hn) fun mu1 h1 g1=>?_))
  exact wk (hk mu1 h1 g1)
 |yes=>
  obtain⟨k,l,e,hw⟩:∃k l,s.enc=.tup (.str k::l)/\(k==[119,111,114,116,104])=false:=by cases s<;>first|exact False.elim ha|exact⟨_,_,rfl,rfl⟩
  rw[e]
  refine R.go 95 2 (lw hn) rfl ?_
  refine wl hr (wc (bP R h0 [65,78,89] rfl (by decide) rfl (lv hn) ?_))
  refine wt hw ?_
  refine wl hr (wc (cT R h0 [84,82,85,69] rfl (by decide) rfl (lv hn) fun mu1 h1 g1=>?_))
  exact wk (hk mu1 h1 g1)
 |no=>
  obtain⟨k,l,e,hw⟩:∃k l,s.enc=.tup (.str k::l)/\(k==[119,111,114,116,104])=false:=by cases s<;>first|exact False.elim ha|exact⟨_,_,rfl,rfl⟩
  rw[e]
  refine R.go 95 2 (lw hn) rfl ?_
  refine wl hr (wc (bP R h0 [65,78,89] rfl (by decide) rfl (lv hn) ?_))
  refine wt hw ?_
  refine wl hr (wc (bP R h0 [84,82,85,69] rfl (by decide) rfl (lv hn) ?_))
  refine wl hr (wc (cT R h0 [70,65,76,83,69] rfl (by decide) rfl (lv hn) fun mu1 h1 g1=>?_))
  exact wk (hk mu1 h1 g1)
 |truth c=>
  obtain⟨hc,k,l,e,hw⟩:c.pl/\∃k l,s.enc=.tup (.str k::l)/\(k==[119,111,114,116,104])=false:=by cases s<;>first|exact False.elim ha|exact⟨ha,_,_,rfl,rfl⟩
  rw[e]
  refine R.go 95 2 (lw hn) rfl ?_
  refine wl hr (wc (bP R h0 [65,78,89] rfl (by decide) (c.noW (by decide) S) (lv hn) ?_))
  refine wt hw ?_
  refine wl hr (wc (bP R h0 [84,82,85,69] rfl (by decide) (c.noW (by decide) S) (lv hn) ?_))
  refine wl hr (wc (bP R h0 [70,65,76,83,69] rfl (by decide) (c.noW (by decide) S) (lv hn) ?_))
  refine wc (GS R c hc (JH ok.2 (by decide)) (lv hn) hE.e h0 fun mu1 h1 g1=>?_)
  exact wk (hk mu1 h1 g1)
 |worth e=>cases s<;>exact False.elim ha
 |is e b=>
  obtain⟨w,rfl⟩:∃w,s=.worth w:=by cases s<;>first|exact False.elim ha|exact⟨_,rfl⟩
  have h0:ao aj T r (xV b (e.tk++S)) mu:=mE b e.tk S▸h0
  refine R.go 95 2 (lw hn) rfl ?_
  refine wl hr (wc (bP R h0 [65,78,89] rfl (by decide) (vp b (e.noW (by decide) S)) (lv hn) ?_))
  refine wl hr (wc (DT R b h0 (e.noW (by decide) S) (lv hn) fun mu1 h1 g1=>?_))
  refine wc (yq R e (lv hn) hE.e.1 h1 fun mu2 h2 g2=>?_)
  obtain⟨q,hr,D⟩:=h2.here
  refine wl hr (wc (bP R h2 [84,72,82,85] rfl (by decide) hE.t1 (lv hn) ?_))
  refine wl hr (wc (bP R h2 [84,72,82,79,85,71,72] rfl (by decide) hE.t2 (lv hn) ?_))
  exact wk (hk mu2 h2 (g1.trans g2))
 |thru e f b=>
  obtain⟨w,rfl⟩:∃w,s=.worth w:=by cases s<;>first|exact False.elim ha|exact⟨_,rfl⟩
  have h0:ao aj T r (xV b (e.tk++(wd [84,72,82,85]::(f.tk++S)))) mu:=by
   have:=(mE b (e.tk++wd [84,72,82,85]::f.tk) S)▸h0
   rwa[JK]at this
  refine R.go 95 2 (lw hn) rfl ?_
  refine wl hr (wc (bP R h0 [65,78,89] rfl (by decide) (vp b (e.noW (by decide) (wd [84,72,82,85]::(f.tk++S)))) (lv hn) ?_))
  refine wl hr (wc (DT R b h0 (e.noW (by decide) (wd [84,72,82,85]::(f.tk++S))) (lv hn) fun mu1 h1 g1=>?_))
  refine wc (yq R e (lv hn) (show 4<=hd (wd [84,72,82,85]::(f.tk++S))from JL 4) h1 fun mu2 h2 g2=>?_)
  obtain⟨q,hr,D⟩:=h2.here
  refine wl hr (wc (cT R h2 [84,72,82,85] rfl (by decide) rfl (lv hn) fun mu3 h3 g3=>?_))
  refine wc (yq R f (lv hn) hE.e.1 h3 fun mu4 h5 g5=>?_)
  exact wk (hk mu4 h5 ((g1.trans g2).trans (g3.trans g5)))
noncomputable def eY(l:List Pt):List Tk:=l.flatMap fun p=>wd [65,76,83,79]::p.tk
theorem f8(a:Pt)(l:List Pt):bV (a::l)=a.tk++eY l:=by
 induction l generalizing a with
 |nil=>exact(JX _).symm
 |cons b l ih=>exact congrArg (fun x=>a.tk++wd [65,76,83,79]::x) (ih b)
theorem rX{l:List Pt}(hE:EO S):EO (eY l++S):=by
 cases l with
 |nil=>exact hE
 |cons a l=>exact⟨⟨JL 4,rfl,rfl⟩,rfl,rfl⟩
theorem CI(R:ac W)(hn:75<=n)(hE:EO S){sv:LV}{K:KF}{a0:V}{l:List (Pt×Pt)}:∀{acc:List V} {mu:List aa} {x:LV},acc.length+l.length<=50->(∀q∈l,ny q.1 q.2/\q.2.ok)->ao aj T r (eY (l.map (·.2))++S) mu->
  (∀mu' x',ao aj T r S mu'->aN r mu mu'->wP (W n) (K .next ⟨[.val (.obj r),sv,.own (a0::acc++l.map fun q=>q.2.enc),x'],mu'⟩))->
  wP (W n) (fT (fun v k' st=>aS [.ite (.x 2) [.expr (.mcall (.x 0) .need [(.c (.str [65,76,83,79]))])] [],.app 2 (.call (.c (.fn 95)) [(.x 0),(.x 3)])] k' fQ (st.put 3 (.val v))) (l.map fun q=>q.1.enc) K ⟨[.val (.obj r),sv,.own (a0::acc),x],mu⟩):=by
 induction l with
 |nil=>
  intro acc mu x hl ho h0 hk
  have:=hk mu x h0 (aN.refl _ _)
  rw[KG,JX]at this
  exact wq this
 |cons q l ih=>
  intro acc mu x hl ho h0 hk
  obtain⟨h1,h2⟩:=ho _ (.head _)
  have h0:ao aj T r (wd [65,76,83,79]::(q.2.tk++(eY (l.map (·.2))++S))) mu:=by
   rw[←JK];exact h0
  obtain⟨p,hr,D⟩:=h0.here
  have la:acc.length<=50:=JH (JV _ _) hl
  refine wa (p:=(a0::acc).length<=lim) (aM (JW la) rfl) ?_
  refine wl hr (wc (GL R h0 [65,76,83,79] rfl (by decide) rfl (lw hn) fun mu1 h3 g3=>?_))
  refine wc (t95 R q.1 q.2 h1 h2 hn (rX hE) h3 fun mu2 h4 g4=>?_)
  refine wa (p:=(a0::acc).length < lim) (Kw (JW la) (by decide)) (wq (ih (acc:=acc++[q.2.enc]) (x:=.val q.1.enc) ?_ (fun q hq=>ho q (.tail _ hq)) h4 fun mu' x' h5 g5=>?_))
  ·rw[JU,KZ,KU [q.2.enc].length];exact hl
  ·have:=hk mu' x' h5 ((g3.trans g4).trans g5)
   rwa[Kq,KR]at this
theorem t96(R:ac W)(l:List (Pt×Pt))(h:l≠[])(hl:l.length<=5)(ho:∀q∈l,ny q.1 q.2/\q.2.ok)(hn:76<=n)(hE:EO S)(h0:ao aj T r (bV (l.map (·.2))++S) mu)
  (hk:∀mu',ao aj T r S mu'->aN r mu mu'->kv (bL (l.map (·.2))) mu'):W n (.fn 96) [.obj r,.lst (l.map fun q=>q.1.enc)] mu kv ke:=by
 cases l with
 |nil=>exact absurd rfl h
 |cons q l=>
  obtain⟨h1,h2⟩:=ho _ (.head _)
  rw[show(q::l).map (·.2)=q.2::l.map (·.2)from rfl,f8,JK]at h0
  refine R.go 96 2 (lw hn) rfl (ai 1 (wc (t95 R q.1 q.2 h1 h2 (lv hn) (rX hE) h0 fun mu1 h4 g4=>?_)))
  refine ai 1 (wq (CI R (K:=kJ (ax kv) fun st=>aS [.ret (.tupX 2)] (ax kv) (aG ke) st) (lv hn) hE (l:=l) (acc:=[]) (a0:=q.2.enc) (sv:=.val (.lst ((q::l).map fun q=>q.1.enc))) (x:=.val q.1.enc) ?_ (fun q hq=>ho q (.tail _ hq)) h4 fun mu' x' h5 g5=>?_))
  ·rw[Lk,Lx];exact JH (KN hl) (by decide)
  ·refine wa (p:=([q.2.enc]++l.map fun q=>q.2.enc).length<=lim) (aM (bY (JL 1) (aB (f:=fun q:Pt×Pt=>q.2.enc) (KJ hl))) rfl) (wk (p:=kv (.tup ([q.2.enc]++l.map fun q=>q.2.enc)) mu') ?_)
   have:=hk mu' h5 (g4.trans g5)
   unfold bL at this
   rw[LH]at this
   exact this
def cb(W:Nat->Call)(T:List Tk)(r n f:Nat)(a:List V)(Y:List Tk):Prop:=
 ∀(mu:List aa) (kv:V->List aa->Prop) (ke:Nat->List aa->Prop),ao aj T r Y mu->(∀mu' p',mu'[r]? =some (sK aj T p')->aN r mu mu'->ke 2 mu')->W n (.fn f) (.obj r::a) mu kv ke
theorem rF{mu:List aa}{p:Nat}(hr:mu[r]? =some (sK aj T p)):(mu++[.dead])[r]? =some (sK aj T p):=(J6 (ib hr)).trans hr
theorem C7(R:ac W){Z:List Tk}(L:V)(hn:5<=n)(h0:ao aj T r (wd [78,79,84]::Z) mu)(hk:ke 2 (mu++[.dead])):W n (.fn 17) [.obj r,L] mu kv ke:=by
 obtain⟨p,hr,D⟩:=h0.here
 refine R.go 17 4 (lw hn) rfl ?_
 refine wl hr (wc (GI R h0 (by rintro _ ⟨⟩;show 3<=1000;decide) (congrArg (!·) uG) (lv hn) ?_) rfl)
 exact wk (hk)
theorem C6(R:ac W){Z:List Tk}(hm:10<=m):cb W T r m 20 [.lam 0 [.int d]] (wd [78,79,84]::Z):=by
 intro mu kv ke h0 hk
 obtain⟨p,hr,D⟩:=h0.here
 refine R.go 20 1 (lw hm) rfl ?_
 refine wl hr (wc (Bm R h0 (lv hm) ?_))
 refine wl hr (wc (kC R h0 [108,105,116,101,114,97,108] (lv hm) ?_))
 refine wl hr (wc (bP R h0 [65,76,76] rfl (by decide) rfl (lv hm) ?_))
 exact wc (t19w R (w:=[78,79,84]) rfl h0 (lv hm) (wc (C7 R (.lam 0 [.int d]) (lv hm) h0 (wk (hk (mu++[.dead]) p (rF hr) (aN.add _ _ _))))))
theorem f32(R:ac W){Z:List Tk}(h:cb W T r m 20 [.lam 0 [.int d]] (wd [78,79,84]::Z))(hm:4<=m):cb W T r (m+1) 32 [.int d] (wd [78,79,84]::Z):=by
 intro mu kv ke h0 hk
 obtain⟨p,hr,D⟩:=h0.here
 refine R.go 32 1 (JS 1 m) rfl ?_
 refine wc (ph R h0 [[43],[45]] (lw hm) ?_)
 refine wl hr (wc (sf (a:=[40]) R h0 rfl (lw hm) ?_))
 exact wc (h _ _ _ h0 fun mu' p' a b=>wk (hk mu' p' a b))
theorem HP(R:ac W)(h:cb W T r m 27 [.int (d+1)] Y)(hm:4<=m):cb W T r (m+1) 32 [.int d] (lp::Y):=by
 intro mu kv ke h0 hk
 obtain⟨p,hr,D⟩:=h0.here
 refine R.go 32 1 (JS 1 m) rfl ?_
 refine wc (ph R h0 [[43],[45]] (lw hm) ?_)
 refine wl hr (wc (t7 R (a:=[40]) h0 (lw hm) fun mu1 h1 g1=>?_))
 exact wc (h _ _ _ h1 fun mu' p' a b=>wk (hk mu' p' a (g1.trans b)))
theorem HO(R:ac W)(e:Ex){Z:List Tk}(h:eG W aj T r m 27 [.int (d+1)] e.tk e.enc 4)(h4:4<=hd Z)(hz:isS Z 0 [41]=false)(hm:6<=m):cb W T r (m+1) 32 [.int d] (lp::(e.tk++Z)):=by
 intro mu kv ke h0 hk
 obtain⟨p,hr,D⟩:=h0.here
 refine R.go 32 1 (JS 1 m) rfl ?_
 refine wc (ph R h0 [[43],[45]] (lw hm) ?_)
 refine wl hr (wc (t7 R (a:=[40]) h0 (lw hm) fun mu1 h1 g1=>?_))
 refine wc (h _ _ _ _ h4 h1 fun mu2 h2 g2=>?_)
 obtain⟨p,hr,D⟩:=h2.here
 refine wl hr (wc (GH (a:=[41]) R h2 (by decide) hz (lw hm) ?_))
 exact wk (hk (mu2++[.dead]) _ (rF hr) ((g1.trans g2).trans (aN.add _ _ _)))
theorem f31(R:ac W)(h:cb W T r m 32 [.int d] Y):cb W T r (m+1) 31 [.int d] Y:=by
 intro mu kv ke h0 hk
 refine R.go 31 1 (JS 1 m) rfl ?_
 exact wc (h _ _ _ h0 fun mu' p' a b=>wk (hk mu' p' a b))
theorem f29(R:ac W)(h:cb W T r m 31 [.int d] Y)(hY:sgA Y [[43],[45]]=[])(hm:4<=m):cb W T r (m+1) 29 [.int d] Y:=by
 intro mu kv ke h0 hk
 refine R.go 29 3 (JS 1 m) rfl ?_
 refine wc (ph R h0 [[43],[45]] (lw hm) ?_)
 rw[hY]
 exact wc (h _ _ _ h0 fun mu' p' a b=>wk (hk mu' p' a b))
theorem f28(R:ac W)(h:cb W T r m 29 [.int d] Y):cb W T r (m+1) 28 [.int d] Y:=by
 intro mu kv ke h0 hk
 refine R.go 28 2 (JS 1 m) rfl ?_
 exact wc (h _ _ _ h0 fun mu' p' a b=>wk (hk mu' p' a b))
theorem f27(R:ac W)(h:cb W T r m 28 [.int d] Y)(hd:d<=20):cb W T r (m+1) 27 [.int d] Y:=by
 intro mu kv ke h0 hk
 refine R.go 27 2 (JS 1 m) rfl ?_
 refine wt (Kg (KK.mpr hd)) ?_
 exact wc (h _ _ _ h0 fun mu' p' a b=>wk (hk mu' p' a b))
theorem HN(R:ac W)(h:cb W T r m 32 [.int d] Y)(hY:sgA Y [[43],[45]]=[])(hd:d<=20)(hm:4<=m):cb W T r (m+4) 27 [.int d] Y:=
 f27 R (f28 R (f29 R (f31 R h) hY (J1 hm))) hd
def NW(e:Ex)(Z:List Tk):Prop:=(∃q,e=.op (.rf (bj q)))∨(bM Z 0 [65,76,83,79]=false/\bM Z 0 [87,72,69,78]=false)
inductive gh:Nat->List Tk->Prop
 |ex (k:Nat) (e:Ex) (Z:List Tk) (h:4<=hd Z) (g:isS Z 0 [41]=false) (w:NW e Z):gh k (e.tk++Z)
 |no (k:Nat) (Z:List Tk):gh k (wd [78,79,84]::Z)
 |br (k:Nat) (Z:List Tk) (h:gh k Z):gh (k+1) (lp::Z)
theorem Fo(R:ac W){k:Nat}{Y:List Tk}(h:gh k Y):∀{d:Int} {n:Nat},d+k<=17->40+5*k<=n->(∃e:Ex,∃Z,Y=e.tk++Z/\4<=hd Z/\isS Z 0 [41]=false/\NW e Z)∨cb W T r n 27 [.int d] Y:=by
 induction h with
 |ex k e Z h g w=>intro d n _ _;exact .inl ⟨e,Z,rfl,h,g,w⟩
 |no k Z=>
  intro d n h1 h2
  obtain⟨m,rfl⟩:=J2 (JH (by decide:15<=40) (JH (JV _ _) h2))
  exact .inr (HN R (f32 R (C6 R (JS 10 m)) (Nat.le_add_left_of_le (by decide))) rfl (by omega) (Nat.le_add_left_of_le (by decide)))
 |br k Z h ih=>
  intro d n h1 h2
  obtain⟨m,rfl⟩:=J2 (JH (by decide:5<=40) (JH (JV _ _) h2))
  have h3:40+5*k<=m:=K9 (b:=5) h2
  have h4:40<=m:=JH (JV _ _) h3
  have hd:d<=17:=by omega
  rcases ih (d:=d+1) (n:=m) (by omega) h3 with⟨e,Z',rfl,h5,hz,_⟩|h
  ·obtain⟨z,rfl⟩:=J2 (lw h4 rfl:29<=m)
   exact .inr (HN R (HO R e (Fp R e (Int.add_le_add_right hd 1) (JS 7 z)) h5 hz (lw h4)) rfl (Kz hd (by decide)) (J1 (lw h4)))
  ·exact .inr (HN R (HP R h (lw h4)) rfl (Kz hd (by decide)) (J1 (lw h4)))
theorem gh.up{k:Nat}(h:gh k Y):∀{k':Nat},k<=k'->gh k' Y:=by
 induction h with
 |ex k e Z h g w=>exact fun _=>.ex _ e Z h g w
 |no k Z=>exact fun _=>.no _ _
 |br k Z h ih=>
  intro k' hk
  obtain⟨z,rfl⟩:=J2 (JH (JS 1 k) hk)
  exact .br _ _ (ih (KJ hk))
theorem qZ{s:List Nat}(hs:dO s)(X:List Tk):isS (a9 s++X) 0 [41]=false/\bM (a9 s++X) 0 [65,76,83,79]=false/\bM (a9 s++X) 0 [87,72,69,78]=false:=
 All.mem (P:=fun t=>isS (a9 t++X) 0 [41]=false/\bM (a9 t++X) 0 [65,76,83,79]=false/\bM (a9 t++X) 0 [87,72,69,78]=false) (l:=pI) ⟨⟨rfl,rfl,rfl⟩,⟨rfl,rfl,rfl⟩,⟨rfl,rfl,rfl⟩,⟨rfl,rfl,rfl⟩,⟨rfl,rfl,rfl⟩,⟨rfl,rfl,rfl⟩,trivial⟩ hs
theorem ro(e:Ex)(w:List Nat)(S:List Tk):gh 0 ((e.tk++[wd [73,83],wd w])++S):=by
 rw[JK]
 exact .ex _ e (wd [73,83]::wd w::S) (JL 4) rfl (.inr ⟨rfl,rfl⟩)
theorem E3(x:Cd):∀S:List Tk,(x.str=4->4<=hd S/\isS S 0 [41]=false)->gh x.ht (x.tk++S):=by
 induction x with
 |rel s h a b=>
  intro S _
  show gh 0 ((a.tk++(a9 s++b.tk))++S)
  rw[JK,JK]
  exact .ex _ a (a9 s++(b.tk++S)) (by rw[uN h];exact JL 4) (qZ h _).1 (.inr (qZ h _).2)
 |cls s h f=>exact fun S _=>ro (.op (.rf f)) s S
 |sgn s h a=>exact fun S _=>ro a s S
 |named q=>exact fun S h=>.ex _ (.op (.rf (bj q))) S (h rfl).1 (h rfl).2 (.inl ⟨q,rfl⟩)
 |not y _=>exact fun S _=>.no _ _
 |and a b iha _=>
  intro S _
  show gh (max a.ht b.ht+1) ((gk (decide (a.str < 2)) a.tk++wd [65,78,68]::gk (decide (b.str < 3)) b.tk)++S)
  rw[JK]
  cases h:decide (a.str < 2)with
  |true=>
   show gh (max a.ht b.ht+1) (lp::((a.tk++[rp])++(wd [65,78,68]::(gk (decide (b.str < 3)) b.tk++S))))
   rw[JK]
   exact .br _ _ ((iha _ fun h4=>absurd (JN h) (by rw[h4];decide)).up (KT _ _))
  |false=>exact(iha (wd [65,78,68]::(gk (decide (b.str < 3)) b.tk++S)) fun _=>⟨JL 4,rfl⟩).up (J1 (KT _ _))
 |or a b iha _=>
  intro S _
  show gh (max a.ht b.ht+1) ((a.tk++wd [79,82]::gk (decide (b.str < 2)) b.tk)++S)
  rw[JK]
  exact(iha (wd [79,82]::(gk (decide (b.str < 2)) b.tk++S)) fun _=>⟨JL 4,rfl⟩).up (J1 (KT _ _))
theorem f25(R:ac W)(h:cb W T r m 27 [.int 0] Y):cb W T r (m+1) 25 [] Y:=by
 intro mu kv ke h0 hk
 exact R.go 25 0 (JS 1 m) rfl (wc (h _ _ _ h0 fun mu' p' a b=>wk (hk mu' p' a b)))
theorem w6{p p':Nat}{mu mu':List aa}(h:ao aj T r Y mu)(hr:mu[r]? =some (sK aj T p))(D:T.drop p=Y)(hr':mu'[r]? =some (sK aj T p')):ao aj T r Y (mu'.set r (sK aj T p)):=
 ⟨⟨p,dj hr',D⟩,h.len,h.ne⟩
theorem GF(R:ac W)(e:Ex)(hp:e.pl)(hn:40<=n)(h4:4<=hd S)(hw:bM S 0 [65,76,83,79]=true∨(bM S 0 [65,76,83,79]=false/\bM S 0 [87,72,69,78]=true))(h0:ao aj T r (e.tk++S) mu)(hk:∀mu',ao aj T r S mu'->aN r mu mu'->kv e.enc mu'):W n (.fn 93) [.obj r] mu kv ke:=by
 obtain⟨p,hr,D⟩:=h0.here
 refine R.go 93 3 (lw hn) rfl ?_
 refine wl (hr) ?_
 refine wc (yq R e (lv hn) h4 h0 fun mu1 h1 g1=>?_)
 obtain⟨p1,hr,D1⟩:=h1.here
 have fin:=hk mu1 h1 g1
 refine wq (cO 3 (b:=Dn) (kv:=kv) (ke:=aG ke) (st:=⟨[.val (.obj r),.val (.int p),.val e.enc,.unset],mu1⟩) (st':=⟨[.val (.obj r),.val (.int p),.val e.enc,.val (.bool false)],mu1⟩) ?_ fun K hK _=>?_)
 ·refine wl hr (wc (sj R h1 [65,76,83,79] rfl (by decide) (lv hn) ?_))
  rcases hw with hw|⟨hw,hw2⟩
  ·rw[hw]
   exact wk (fin)
  ·rw[hw]
   refine wl hr (wc (sj R h1 [87,72,69,78] rfl (by decide) (lv hn) ?_))
   rw[hw2]
   exact wk (fin)
 ·cases e with
  |op o=>
   cases o with
   |rf f=>
    have e5:(bC f.nm.s [([73,83,45,79,78],V.bool true)]).isSome=false:=by
     show(cond ([73,83,45,79,78]==f.nm.s) (some _) none).isSome=_
     rw[show([73,83,45,79,78]==f.nm.s)=false from hp];rfl
    exact wl hr (wt e5 (wq hK))
   |_=>exact aw 1 hK (by kernel_rfl)
  |_=>exact aw 1 hK (by kernel_rfl)
theorem GG(R:ac W){k:Nat}(hY:gh k Y)(hk5:k<=5)(hn:80<=n)(h0:ao aj T r Y mu)(hk:∀mu',ao aj T r Y mu'->aN r mu mu'->kv .none mu'):W n (.fn 93) [.obj r] mu kv ke:=by
 obtain⟨p,hr,D⟩:=h0.here
 have hr0:=hr
 obtain⟨z,rfl⟩:=J2 (lw hn rfl:3<=n)
 have hz:40+5*k<=z+1:=JH (JM (Kh 5 hk5) 40) (K9 (b:=2) (lw hn rfl:65+2<=z+3))
 refine R.go 93 3 (lw hn) rfl (wl hr ?_)
 rcases Fo R hY (d:=0) (n:=z+1) (by omega) hz with⟨e,Z,rfl,h4,hz,nw⟩|hf
 ·refine wc (yq R e (lv hn) h4 h0 fun mu1 h1 g1=>?_)
  obtain⟨p1,hr,D1⟩:=h1.here
  have fin:=hk (mu1.set r (sK aj T p)) (w6 h0 hr0 D hr) (g1.trans (aN.set _ _ _))
  refine wq (wp_seqQ 3 (fun st'=>∃b,(b=true∨(bM Z 0 [65,76,83,79]=false/\bM Z 0 [87,72,69,78]=false))/\st'=⟨[.val (.obj r),.val (.int p),.val e.enc,.val (.bool b)],mu1⟩) (b:=Dn) (kv:=kv) (ke:=aG ke) (st:=⟨[.val (.obj r),.val (.int p),.val e.enc,.unset],mu1⟩) ?_ fun K hK _=>?_)
  ·rintro _ ⟨b,hb,rfl⟩
   cases b with
   |true=>exact wl hr (wk fin)
   |false=>
    have hb:=hb.resolve_left nofun
    refine wl hr (wc (sj R h1 [65,76,83,79] rfl (by decide) (lv hn) ?_))
    rw[hb.1]
    refine wl hr (wc (sj R h1 [87,72,69,78] rfl (by decide) (lv hn) ?_))
    rw[hb.2]
    exact wl hr (wk fin)
  ·rcases nw with⟨q,rfl⟩|nw
   ·exact wl hr (aw 1 (hK _ ⟨true,.inl rfl,rfl⟩) (by kernel_rfl))
   ·have no:=hK _ ⟨false,.inr nw,rfl⟩
    cases e with
    |op o=>
     cases o with
     |rf f=>exact wl hr (wt (b:=(bC f.nm.s [([73,83,45,79,78],V.bool true)]).isSome) rfl (wq (hK _ ⟨(bC f.nm.s [([73,83,45,79,78],V.bool true)]).isSome,.inr nw,rfl⟩)))
     |_=>exact aw 1 no (by kernel_rfl)
    |_=>exact aw 1 no (by kernel_rfl)
 ·refine wc (f25 R hf _ _ _ h0 fun mu1 p1 hr g1=>?_)
  exact wl hr (wk (hk (mu1.set r (sK aj T p)) (w6 h0 hr0 D hr) (g1.trans (aN.set _ _ _))))
noncomputable def dN:Pt->Prop
 | .yes| .no=>True
 | .worth e=>e.pl
 | .truth c=>c.pl/\c.ht<=3
 |_=>False
structure ES(S:List Tk):Prop where
 e:E2 S
 p:isS S 0 [41]=false
 w:bM S 0 [65,76,83,79]=true∨(bM S 0 [65,76,83,79]=false/\bM S 0 [87,72,69,78]=true)
theorem t94(R:ac W)(s:Pt)(ok:dN s)(hn:82<=n)(hE:ES S)(h0:ao aj T r (s.tk++S) mu)(hk:∀mu',ao aj T r S mu'->aN r mu mu'->kv s.enc mu'):W n (.fn 94) [.obj r] mu kv ke:=by
 obtain⟨p,hr,D⟩:=h0.here
 refine R.go 94 1 (lw hn) rfl ?_
 cases s with
 |yes=>
  refine wl hr (wc (cT R h0 [84,82,85,69] rfl (by decide) rfl (lv hn) fun mu1 h1 g1=>?_))
  exact wk (hk mu1 h1 g1)
 |no=>
  refine wl hr (wc (bP R h0 [84,82,85,69] rfl (by decide) rfl (lv hn) ?_))
  refine wl hr (wc (cT R h0 [70,65,76,83,69] rfl (by decide) rfl (lv hn) fun mu1 h1 g1=>?_))
  exact wk (hk mu1 h1 g1)
 |worth e=>
  refine wl hr (wc (bP R h0 [84,82,85,69] rfl (by decide) (e.noW (by decide) S) (lv hn) ?_))
  refine wl hr (wc (bP R h0 [70,65,76,83,69] rfl (by decide) (e.noW (by decide) S) (lv hn) ?_))
  refine wc (GF R e ok (lv hn) hE.e.1 hE.w h0 fun mu1 h1 g1=>?_)
  obtain⟨X,hX⟩:=HT e
  have fin:kv (.tup [.str [119,111,114,116,104],e.enc]) mu1:=hk mu1 h1 g1
  rw[hX]at fin ⊢
  exact wk (fin)
 |truth c=>
  obtain⟨o1,o2⟩:=ok
  refine wl hr (wc (bP R h0 [84,82,85,69] rfl (by decide) (c.noW (by decide) S) (lv hn) ?_))
  refine wl hr (wc (bP R h0 [70,65,76,83,69] rfl (by decide) (c.noW (by decide) S) (lv hn) ?_))
  refine wc (GG R (E3 c S fun _=>⟨hE.e.1,hE.p⟩) (JH o2 (by decide)) (lv hn) h0 fun mu1 h1 g1=>?_) rfl
  refine wc (GS R c o1 (JH o2 (by decide)) (lv hn) hE.e h1 fun mu2 h2 g2=>?_)
  exact wk (hk mu2 h2 (g1.trans g2))
 |any=>exact False.elim ok
 |is e b=>exact False.elim ok
 |thru e f b=>exact False.elim ok
theorem rW{l:List Pt}(hE:ES S):ES (eY l++S):=by
 cases l with
 |nil=>exact hE
 |cons a l=>exact⟨⟨JL 4,rfl,rfl⟩,rfl,.inl rfl⟩
theorem zu(R:ac W)(hn:85<=n)(hE:ES S)(hA:bM S 0 [65,76,83,79]=false){K:KF}{l:List Pt}:∀{acc:List V} {mu:List aa},acc.length+l.length<=50->(∀s∈l,dN s)->ao aj T r (eY l++S) mu->
  (∀mu',ao aj T r S mu'->aN r mu mu'->wP (W n) (K .next ⟨[.val (.obj r),.val (.fn 105),.own (acc++l.map Pt.enc),.unset,.unset,.unset],mu'⟩))->
  wP (W n) (fR gO[2]? K (l.length+1) ⟨[.val (.obj r),.val (.fn 105),.own acc,.unset,.unset,.unset],mu⟩):=by
 induction l with
 |nil=>
  intro acc mu hl ho h0 hk
  have h0:ao aj T r S mu:=h0
  obtain⟨p,hr,D⟩:=h0.here
  refine wl hr (wc (bP R h0 [65,76,83,79] rfl (by decide) hA (lw hn) ?_))
  have:=hk mu h0 (aN.refl _ _)
  rw[KG,JX]at this
  exact wq this
 |cons s l ih=>
  intro acc mu hl ho h0 hk
  have h0:ao aj T r (wd [65,76,83,79]::(s.tk++(eY l++S))) mu:=by rw[←JK];exact h0
  obtain⟨p,hr,D⟩:=h0.here
  have la:acc.length < lim:=Kw (JH (JV _ _) hl) (by decide)
  refine wl hr (wc (cT R h0 [65,76,83,79] rfl (by decide) rfl (lw hn) fun mu1 h1 g1=>?_))
  refine wc (t94 R s (ho s (.head _)) (lw hn) (rW hE) h1 fun mu2 h2 g2=>?_)
  refine wa la (wq (ih (acc:=acc++[s.enc]) ?_ (fun s hs=>ho s (.tail _ hs)) h2 fun mu3 h3 g3=>?_))
  ·rw[JU,KZ,KU [s.enc].length];exact hl
  ·have:=hk mu3 h3 ((g1.trans g2).trans g3)
   rwa[Kq,KR]at this
theorem vo(b:Bool){X:List Tk}(h:bM X 0 [79,84,72,69,82]=false):bM (xV b X) 0 [79,84,72,69,82]=false:=by
 cases b
 ·exact h
 ·rfl
theorem Pt.noO(p:Pt)(S:List Tk):bM (p.tk++S) 0 [79,84,72,69,82]=false:=by
 cases p with
 |any|yes|no=>rfl
 |truth c=>exact c.noW (by decide) S
 |worth e=>exact e.noW (by decide) S
 |is e q=>exact mE q e.tk S▸vo q (e.noW (by decide) S)
 |thru a b q=>exact mE q (a.tk++wd [84,72,82,85]::b.tk) S▸vo q ((congrArg (bM · 0 [79,84,72,69,82]) (JK _ _ _)).trans (a.noW (by decide) _))
def Su(l:List V)(x:LV):Prop:=x=.own l∨x=.val (.lst l)
noncomputable def yI(r:Nat)(x:LV)(A B:List V)(o:V)(mu:List aa):St:=⟨[.val (.obj r),.val (.fn 105),x,.own A,.own B,.val o],mu⟩
theorem qU(l:List (Pt×Pt))(h:l≠[])(Z:List Tk):bM (bV (l.map (·.2))++Z) 0 [79,84,72,69,82]=false:=by
 cases l with
 |nil=>exact absurd rfl h
 |cons q l=>
  rw[show(q::l).map (·.2)=q.2::l.map (·.2)from rfl,f8,JK]
  exact q.2.noO _
theorem DM(R:ac W)(hn:85<=n){l:List (Pt×Pt)}(h:l≠[])(hl:l.length<=5)(ho:∀q∈l,ny q.1 q.2/\q.2.ok){x:LV}(hx:Su (l.map fun q=>q.1.enc) x){A B:List V}(hB:B.length<=50){Z:List Tk}{K:KF}
  (h0:ao aj T r (wd [87,72,69,78]::(bV (l.map (·.2))++(wd [87,72,69,78]::Z))) mu)
  (hk:∀mu' x',Su (l.map fun q=>q.1.enc) x'->ao aj T r (wd [87,72,69,78]::Z) mu'->aN r mu mu'->wP (W n) (fR gO[6]? K m (yI r x' A (B++[bL (l.map (·.2))]) (.tup []) mu'))):
  wP (W n) (fR gO[6]? K (m+1) (yI r x A B (.tup []) mu)):=by
 obtain⟨p,hr,D⟩:=h0.here
 have hE:EO (wd [87,72,69,78]::Z):=⟨⟨JL 4,rfl,rfl⟩,rfl,rfl⟩
 have lB:B.length < lim:=Kw hB (by decide)
 refine wl hr (wc (cT R h0 [87,72,69,78] rfl (by decide) rfl (lw hn) fun mu1 h1 g1=>?_))
 obtain⟨p,hr,D⟩:=h1.here
 refine wl hr (wc (bP R h1 [79,84,72,69,82] rfl (by decide) (qU l h _) (lw hn) ?_))
 rcases hx with rfl|rfl
 all_goals
  refine wc (t96 R l h hl ho (lw hn) hE h1 fun mu2 h2 g2=>?_)
  obtain⟨p,hr,D⟩:=h2.here
  refine wa lB ?_
  refine wl hr (wc (sj R h2 [87,72,69,78] rfl (by decide) (lw hn) ?_))
  exact wq (hk mu2 _ (.inr rfl) h2 (g1.trans g2))
theorem zT{y:List S1}(y0:y≠[])(Z:List Tk):EO (bh y++Z)/\bM (bh y++Z) 0 [87,72,69,78]=false:=by
 cases y with
 |nil=>exact absurd rfl y0
 |cons a y=>cases a<;>exact⟨⟨⟨JL 4,rfl,rfl⟩,rfl,rfl⟩,rfl⟩
theorem DL(R:ac W)(hn:85<=n){l:List (Pt×Pt)}(h:l≠[])(hl:l.length<=5)(ho:∀q∈l,ny q.1 q.2/\q.2.ok){x:LV}(hx:Su (l.map fun q=>q.1.enc) x){A B:List V}(hA:A.length<=50)(hB:B.length<=50)
  {y:List S1} (y0:y≠[]) (yl:y.length<=10) {Z:List Tk} (hZ:EB Z) {K:KF}
  (h0:ao aj T r (wd [87,72,69,78]::(bV (l.map (·.2))++(bh y++Z))) mu)
  (hk:∀mu' x',Su (l.map fun q=>q.1.enc) x'->ao aj T r Z mu'->aN r mu mu'->wP (W n) (fR gO[6]? K m (yI r x' (A++[.tup [.tup (B++[bL (l.map (·.2))]),b8 y]]) [] (.tup []) mu'))):
  wP (W n) (fR gO[6]? K (m+1) (yI r x A B (.tup []) mu)):=by
 obtain⟨p,hr,D⟩:=h0.here
 obtain⟨hE,hW⟩:=zT y0 Z
 have lA:A.length < lim:=Kw hA (by decide)
 have lB:B.length < lim:=Kw hB (by decide)
 have lB1:(B++[bL (l.map (·.2))]).length<=lim:=aM (bY hB (JL 1)) rfl
 refine wl hr (wc (cT R h0 [87,72,69,78] rfl (by decide) rfl (lw hn) fun mu1 h1 g1=>?_))
 obtain⟨p,hr,D⟩:=h1.here
 refine wl hr (wc (bP R h1 [79,84,72,69,82] rfl (by decide) (qU l h _) (lw hn) ?_))
 rcases hx with rfl|rfl
 all_goals
  refine wc (t96 R l h hl ho (lw hn) hE h1 fun mu2 h2 g2=>?_)
  obtain⟨p,hr,D⟩:=h2.here
  refine wa lB ?_
  refine wl hr (wc (sj R h2 [87,72,69,78] rfl (by decide) (lw hn) ?_))
  rw[hW]
  refine wa lB1 ?_
  refine wc (Gm R y y0 yl (lw hn) hZ h2 fun mu3 h3 g3=>?_)
  exact wa lA (wq (hk mu3 _ (.inr rfl) h3 ((g1.trans g2).trans g3)))
structure xE(sv:List V)(l:List (Pt×Pt)):Prop where
 ne:l≠[]
 len:l.length<=5
 ok:∀q∈l,ny q.1 q.2/\q.2.ok
 sv:(l.map fun q=>q.1.enc)=sv
theorem uo(R:ac W)(hn:85<=n){sv:List V}{y:List S1}(y0:y≠[])(yl:y.length<=10){Z:List Tk}(hZ:EB Z){K:KF}{A:List V}(hA:A.length<=50){rows:List (List (Pt×Pt))}:∀{l:List (Pt×Pt)} {B:List V} {x:LV} {mu:List aa},B.length+rows.length<=50->
  xE sv l->(∀l∈rows,xE sv l)->Su sv x->
  ao aj T r (((l::rows).flatMap fun l=>wd [87,72,69,78]::bV (l.map (·.2)))++(bh y++Z)) mu->
  (∀mu' x',Su sv x'->ao aj T r Z mu'->aN r mu mu'->wP (W n) (fR gO[6]? K m (yI r x' (A++[.tup [.tup (B++(l::rows).map fun l=>bL (l.map (·.2))),b8 y]]) [] (.tup []) mu')))->
  wP (W n) (fR gO[6]? K (m+rows.length+1) (yI r x A B (.tup []) mu)):=by
 induction rows with
 |nil=>
  intro l B x mu hB h1 _ hx h0 hk
  obtain⟨a,b,c,e⟩:=h1
  subst e
  rw[Kj,Le,JX]at h0
  exact DL R hn a b c hx hA hB y0 yl hZ h0 hk
 |cons l2 rows ih=>
  intro l B x mu hB h1 ho hx h0 hk
  obtain⟨a,b,c,e⟩:=h1
  subst e
  rw[Kj,JK]at h0
  have lB:B.length<=50:=JH (JV _ _) hB
  refine DM (m:=m+rows.length+1) (Z:=(bV (l2.map (·.2))++rows.flatMap fun l=>wd [87,72,69,78]::bV (l.map (·.2)))++(bh y++Z)) R hn a b c hx lB h0 fun mu1 x1 hx1 h4 g4=>?_
  refine ih (B:=B++[bL (l.map (·.2))]) ?_ (ho l2 (.head _)) (fun q hq=>ho q (.tail _ hq)) hx1 h4 fun mu2 x2 hx2 h5 g5=>?_
  ·rw[JU,KZ,KU [bL (l.map (·.2))].length];exact hB
  ·have:=hk mu2 x2 hx2 h5 (g4.trans g5)
   rwa[Kq,KR B]at this
structure qD(subs:List Pt)(w:Wh):Prop where
 ne:w.rows≠[]
 rl:w.rows.length<=5
 y0:w.y≠[]
 yl:w.y.length<=10
 row:∀l∈w.rows,l.length=subs.length/\∀q∈subs.zip l,ny q.1 q.2/\q.2.ok
noncomputable def dT(o:List S1):List Tk:=re o++[wd [69,78,68,45,69,86,65,76,85,65,84,69]]
theorem z9(o:List S1):EB (dT o):=by cases o<;>exact⟨rfl,rfl⟩
theorem xO{subs:List Pt}{o:List S1}{ws:List Wh}(h:∀w∈ws,qD subs w):EB (ws.flatMap Wh.tk++dT o):=by
 cases ws with
 |nil=>exact z9 o
 |cons w ws=>
  have:=(h w (.head _)).ne
  obtain⟨rows,y⟩:=w
  cases rows with
  |nil=>exact absurd rfl this
  |cons l rows=>exact⟨rfl,rfl⟩
noncomputable def Fw:List Wh->Nat
 |[]=>0
 |w::ws=>Fw ws+w.rows.length
theorem qE{β:Type}{subs:List Pt}{rows:List (List Pt)}(h:∀l∈rows,l.length=subs.length)(g:List Pt->β):(rows.map (subs.zip ·)).map (fun l=>g (l.map (·.2)))=rows.map g:=by
 rw[LH]
 exact Ma fun l hl=>congrArg g (List.map_snd_zip (JZ (h l hl)))
theorem qF{subs:List Pt}(s0:subs≠[])(sl:subs.length<=5){l:List Pt}(h:l.length=subs.length/\∀q∈subs.zip l,ny q.1 q.2/\q.2.ok):xE (subs.map Pt.enc) (subs.zip l):=by
 have f:(subs.zip l).map (·.1)=subs:=Mn (JZ h.1.symm)
 exact⟨fun e=>s0 (by rw[←f,e];rfl),JH (JZ Mo) (JH (Nat.min_le_left _ _) sl),h.2,List.map_map.symm.trans (congrArg (List.map Pt.enc) f)⟩
theorem sD(R:ac W)(hn:85<=n){subs:List Pt}(s0:subs≠[])(sl:subs.length<=5){o:List S1}{K:KF}{ws:List Wh}:∀{A:List V} {x:LV} {mu:List aa},A.length+ws.length<=40->(∀w∈ws,qD subs w)->Su (subs.map Pt.enc) x->ao aj T r (ws.flatMap Wh.tk++dT o) mu->
  (∀mu' x',Su (subs.map Pt.enc) x'->ao aj T r (dT o) mu'->aN r mu mu'->wP (W n) (fR gO[6]? K m (yI r x' (A++ws.map Wh.enc) [] (.tup []) mu')))->
  wP (W n) (fR gO[6]? K (m+Fw ws) (yI r x A [] (.tup []) mu)):=by
 induction ws with
 |nil=>
  intro A x mu hA ho hx h0 hk
  have:=hk mu x hx h0 (aN.refl _ _)
  rwa[KG,JX]at this
 |cons w ws ih=>
  intro A x mu hA ho hx h0 hk
  obtain⟨a1,a2,a3,a4,a5⟩:=ho w (.head _)
  have hZ:EB (ws.flatMap Wh.tk++dT o):=xO fun w hw=>ho w (.tail _ hw)
  obtain⟨rows,y⟩:=w
  cases rows with
  |nil=>exact absurd rfl a1
  |cons l rows=>
   have e1:=qE (fun l hl=>(a5 l hl).1) fun l=>wd [87,72,69,78]::bV l
   have e2:=qE (fun l hl=>(a5 l hl).1) bL
   have e3:((l::rows).map (subs.zip ·)).flatMap (fun l=>wd [87,72,69,78]::bV (l.map (·.2)))=(l::rows).flatMap fun l=>wd [87,72,69,78]::bV l:=congrArg List.flatten e1
   rw[Kj,JK,show Wh.tk ⟨l::rows,y⟩=((l::rows).flatMap fun r=>wd [87,72,69,78]::bV r)++bh y from rfl, ←e3,JK]at h0
   show wP (W n) (fR gO[6]? K (m+(Fw ws+(rows.length+1))) _)
   rw[←KZ, ←JQ (f:=(subs.zip ·))]
   refine uo (m:=m+Fw ws) R hn (sv:=subs.map Pt.enc) a3 a4 hZ (JH (JV _ _) (JH hA (by decide))) (B:=[]) ?_ (qF s0 sl (a5 l (.head _))) ?_ hx h0 fun mu1 x1 hx1 h1 g1=>?_
   ·rw[Lk,Lx,JQ];exact JH (KN a2) (by decide)
   ·intro q hq
    obtain⟨row,hrow,rfl⟩:=J5.mp hq
    exact qF s0 sl (a5 row (.tail _ hrow))
   ·have e4:Wh.enc ⟨l::rows,y⟩=.tup [.tup ([]++(subs.zip l::rows.map (subs.zip ·)).map fun l=>bL (l.map (·.2))),b8 y]:=congrArg (fun z=>V.tup [.tup z,b8 y]) e2.symm
    rw[←e4]
    refine ih (A:=A++[Wh.enc ⟨l::rows,y⟩]) ?_ (fun w hw=>ho w (.tail _ hw)) hx1 h1 fun mu2 x2 hx2 h2 g2=>?_
    ·rw[JU,KZ,KU [Wh.enc ⟨l::rows,y⟩].length];exact hA
    ·have:=hk mu2 x2 hx2 h2 (g1.trans g2)
     rwa[Kq,KR A]at this
structure Ev.good(e:Ev):Prop where
 s0:e.subs≠[]
 sl:e.subs.length<=5
 so:∀s∈e.subs,dN s
 w0:e.whens≠[]
 wl:e.whens.length<=10
 w:∀w∈e.whens,qD e.subs w
 ol:e.other.length<=10
theorem xN{subs:List Pt}{o:List S1}{ws:List Wh}(h0:ws≠[])(h:∀w∈ws,qD subs w):ES (ws.flatMap Wh.tk++dT o)/\bM (ws.flatMap Wh.tk++dT o) 0 [65,76,83,79]=false:=by
 cases ws with
 |nil=>exact absurd rfl h0
 |cons w ws=>
  have:=(h w (.head _)).ne
  obtain⟨rows,y⟩:=w
  cases rows with
  |nil=>exact absurd rfl this
  |cons l rows=>exact⟨⟨⟨JL 4,rfl,rfl⟩,rfl,.inr ⟨rfl,rfl⟩⟩,rfl⟩
theorem AL(R:ac W)(hn:85<=n){sv:List V}(hs:sv.length<=50){x:LV}(hx:Su sv x){a:V}{A:List V}(hA:A.length<=50){o:V}(h0:ao aj T r [wd [69,78,68,45,69,86,65,76,85,65,84,69]] mu)
  (hk:∀mu',ao aj T r [] mu'->aN r mu mu'->kv (.tup [.str [101,118,97,108,117,97,116,101],.tup sv,.tup (a::A),o]) mu'):
  wP (W n) (aS (gO.drop 7) (ax kv) (aG ke) (yI r x (a::A) [] o mu)):=by
 obtain⟨p,hr,D⟩:=h0.here
 have l1:(a::A).length<=lim:=aM (JW hA) rfl
 have l2:sv.length<=lim:=aM hs rfl
 rcases hx with rfl|rfl
 all_goals
  refine ai 1 (wa l1 ?_)
  refine wl hr (wc (cT R h0 [69,78,68,45,69,86,65,76,85,65,84,69] rfl (by decide) rfl (lw hn) fun mu1 h1 g1=>?_))
  exact wa l2 (wa l1 (wk (hk mu1 h1 g1)))
theorem t97(R:ac W)(e:Ev)(g:e.good)(hn:90<=n)(h0:ao aj T r e.tk mu)(hk:∀mu',ao aj T r [] mu'->aN r mu mu'->kv e.enc mu'):W n (.fn 97) [.obj r,.fn 105] mu kv ke:=by
 obtain⟨s0,sl,so,w0,wle,w,ol⟩:=g
 obtain⟨subs,ws,o⟩:=e
 cases subs with
 |nil=>exact absurd rfl s0
 |cons s subs=>
 cases ws with
 |nil=>exact absurd rfl w0
 |cons a ws=>
 have sl:subs.length<=4:=KJ sl
 have wle:ws.length<=9:=KJ wle
 have ol:o.length<=10:=ol
 obtain⟨hE,hA⟩:=xN (o:=o) w0 w
 have h0:ao aj T r (wd [69,86,65,76,85,65,84,69]::(s.tk++(eY subs++((a::ws).flatMap Wh.tk++dT o)))) mu:=by
  have h0:ao aj T r (wd [69,86,65,76,85,65,84,69]::(bV (s::subs)++((a::ws).flatMap Wh.tk++dT o))) mu:=h0
  rwa[f8,JK]at h0
 obtain⟨p,hr,D⟩:=h0.here
 refine R.go 97 4 (lw hn) rfl ?_
 refine wl hr (wc (GL R h0 [69,86,65,76,85,65,84,69] rfl (by decide) rfl (lv hn) fun mu1 h1 g1=>?_))
 refine wc (t94 R s (so s (.head _)) (lv hn) (rW hE) h1 fun mu2 h2 g2=>?_)
 refine wr (subs.length+1) (wq (zu R (K:=kJ (ax kv) fun st=>aS (gO.drop 3) (ax kv) (aG ke) st) (lv hn) hE hA (acc:=[s.enc]) ?_ (fun s hs=>so s (.tail _ hs)) h2 fun mu3 h3 g3=>?_))
 ·rw[KU];exact JH (JW sl) (by decide)
 have g:=(g1.trans g2).trans g3
 refine wr (2+Fw (a::ws)) (wq (sD (m:=2) (K:=kJ (ax kv) fun st=>aS (gO.drop 7) (ax kv) (aG ke) st) R (lv hn) s0 (JW sl) (A:=[]) (x:=.own ([s.enc]++subs.map Pt.enc)) ?_ w (.inl rfl) h3 fun mu4 x4 hx4 h4 g4=>?_))
 ·rw[Lk,Lx];exact JH (JW wle) (by decide)
 have g:=g.trans g4
 have ls:((s::subs).map Pt.enc).length<=50:=aB (JH (JW sl) (by decide))
 have lwh:(ws.map Wh.enc).length<=50:=aB (JH wle (by decide))
 cases o with
 |nil=>
  have h4:ao aj T r [wd [69,78,68,45,69,86,65,76,85,65,84,69]] mu4:=h4
  obtain⟨p,hr,D⟩:=h4.here
  refine wl hr (wc (bP R h4 [87,72,69,78] rfl (by decide) rfl (lv hn) ?_))
  exact wq (AL (ke:=ke) R (lv hn) ls hx4 lwh (o:=.tup []) h4 fun mu5 h5 g5=>hk mu5 h5 (g.trans g5))
 |cons b o=>
  have h4:ao aj T r (wd [87,72,69,78]::wd [79,84,72,69,82]::(bh (b::o)++[wd [69,78,68,45,69,86,65,76,85,65,84,69]])) mu4:=h4
  obtain⟨p,hr,D⟩:=h4.here
  refine wl hr (wc (cT R h4 [87,72,69,78] rfl (by decide) rfl (lv hn) fun mu5 h5 g5=>?_))
  obtain⟨p,hr,D⟩:=h5.here
  refine wl hr (wc (cT R h5 [79,84,72,69,82] rfl (by decide) rfl (lv hn) fun mu6 h6 g6=>?_))
  refine wc (Gm R (b::o) (Kr b o) ol (lv hn) ⟨rfl,rfl⟩ h6 fun mu7 h7 g7=>?_)
  refine aw 1 (AL (ke:=ke) R (lv hn) ls hx4 lwh (o:=b8 (b::o)) h7 fun mu8 h8 g8=>hk mu8 h8 ((g.trans g5).trans ((g6.trans g7).trans g8))) (by kernel_rfl)
theorem Bk(s:List Nat):∀cur,(tk cur s).length<=3*s.length+2:=by
 induction s with
 |nil=>exact fun cur=>i7 cur
 |cons c s ih=>
  intro cur
  have k:3+(3*s.length+2)<=3*(s.length+1)+2:=lin [_] [] 1 (.a (.n 3) (.a (.m 3 (.v 0)) (.n 2))) (.a (.m 3 (.a (.v 0) (.n 1))) (.n 2)) rfl
  have a:∀t:Tk,(pC cur++t::tk [] s).length<=3*(s.length+1)+2:=fun t=>JH (bY (i7 cur) (JW (ih []))) (JH (by exact lin [_] [] 1 (.a (.n 2) (.a (.a (.m 3 (.v 0)) (.n 2)) (.n 1))) (.a (.n 3) (.a (.m 3 (.v 0)) (.n 2))) rfl) k)
  show(if(c==32)=true then pC cur++tk [] s else if(c==40)=true then pC cur++([115,105,103,110],[40])::tk [] s else if(c==41)=true then pC cur++([115,105,103,110],[41])::tk [] s else tk (cur++[c]) s).length<=3*(s.length+1)+2
  split
  ·exact JH (bY (i7 cur) (ih [])) (JH (J3 (by decide:2<=3) _) k)
  split
  ·exact a _
  split
  ·exact a _
  ·exact JH (ih _) (JH (JS _ 3) k)
structure im(mu mu':List aa):Prop where
 len:mu.length<=mu'.length
 at_:∀j,j < mu.length->mu'[j]? =mu[j]?
theorem t111(R:ac W){text:List Nat}{f:Nat}{v:V}(hl:text.length<=52000)(hT:tk [] text≠[])(hn:100<=n)
  (hread:∀{r:Nat} {mu:List aa} {kv:V->List aa->Prop} {ke:Nat->List aa->Prop},ao aj (tk [] text) r (tk [] text) mu->(∀mu',ao aj (tk [] text) r [] mu'->aN r mu mu'->kv v mu')->W (n - 1) (.fn f) [.obj r,.fn 105] mu kv ke)
  (hk:∀mu',im mu mu'->kv v mu'):W n (.fn 111) [.str text,.fn f] mu kv ke:=by
 obtain⟨z,rfl⟩:=J2 (lw hn rfl:3<=n)
 have lT:(tk [] text).length<=400000:=JH (Bk text []) (JH (J3 (Kh 3 hl) 2) (by decide))
 generalize hTT:tk [] text=T at hT hread lT
 refine R.go 111 2 (lw hn) rfl (wc (mu:=mu) (Hf R text hl (lv hn) ?_))
 rw[hTT]
 refine wc (mu:=mu) (R.rd (n:=z) (a:=.lst (T.map cg)) (wl (cX mu (.ins 5 [(.tokens,.lst (T.map cg)),(.at_,.int 0),(.named,.dS [])])) ?_))
 have e1:=i8 mu (.ins 5 [(.tokens,.lst (T.map cg)),(.at_,.int 0),(.named,.dS [])]) (sK aj T 0)
 generalize hm:(mu++[aa.ins 5 [(.tokens,.lst (T.map cg)),(.at_,.int 0),(.named,.dS [])]]).set mu.length (sK aj T 0)=mu2 at e1
 have h0:ao aj T mu.length T mu2:=e1▸⟨⟨0,cX _ _,rfl⟩,lT,hT⟩
 subst hm
 refine wc (hread h0 fun mu1 h1 g1=>?_)
 obtain⟨p,hr,D⟩:=h1.here
 refine wl hr (wc (t71 R h1 (lv hn) (wk (hk mu1 ?_))))
 rw[e1]at g1
 exact⟨JH (JU▸JV _ _) g1.len,fun j hj=>(g1.at_ j (vv hj _) (K0 hj)).trans (J6 hj)⟩
section
structure Bx(b k:Nat)(mu:List aa):Prop where
 here:∃(cs:List Int) (g s:Int) (p:Nat),mu[b]? =some (.lst [.lst (cs.map .int),.int g,.int s,.int p])/\cs.length<=48/\0<=g/\(0<=s/\s < 2147483647)/\p<=k
variable {k:Nat}
theorem eN{i:Int}(h0:0<=i)(h:i<=10000000000):small i:=⟨Int.lt_of_lt_of_le (by decide) h0,Lv h (by decide)⟩
theorem t99(R:ac W)(h:Bx b k mu)(hk0:k<=1000000){l:Int}(l0:0 < l)(l9:l<=100)(hn:1<=n)(hk:∀(i:Int) mu',0<=i->i < l->Bx b (k+1) mu'->aN b mu mu'->kv (.int i) mu'):W n (.fn 99) [.obj b,.int l] mu kv ke:=by
 obtain⟨cs,g,s,p,hb,hc,hg,⟨s0,s1⟩,hp⟩:=h
 have lne:l≠0:=Int.ne_of_gt l0
 have sl:small l:=eN (K5 l0) (Kz l9 (by decide))
 have hb1:(mu.set b (.lst [.lst (cs.map .int),.int g,.int s,.int ((p+1:Nat):Int)]))[b]? =_:=dj hb
 refine R.go 99 2 hn rfl (wl hb (wl hb (ai 1 (wl hb1 ?_))))
 cases h0:decide (0 < g)with
 |true=>
  have fin:kv (.int (g % l)) ((mu.set b (.lst [.lst (cs.map .int),.int g,.int s,.int ((p+1:Nat):Int)])).set b (.lst [.lst (cs.map .int),.int (g / l),.int s,.int ((p+1:Nat):Int)])):=
   hk _ _ (Int.emod_nonneg _ lne) (Int.emod_lt_of_pos _ l0) ⟨cs,g / l,s,p+1,dj hb1,hc,Int.ediv_nonneg hg (K5 l0),⟨s0,s1⟩,JW hp⟩ ((aN.set _ _ _).trans (aN.set _ _ _))
  exact wt h0 (wl hb1 (wa l0 (wl hb1 (wa (p:=0 < l/\small l) ⟨l0,sl⟩ (wl hb1 (ai 1 (wk fin)))))))
 |false=>
  have pp:small (p:Int):=eN (Lu p) (Kz (Int.ofNat_le.mpr (JH hp hk0)) (by decide))
  have ss:small s/\small 16807:=⟨eN s0 (Kz (K5 s1) (by decide)),by decide⟩
  refine wt h0 (wl hb1 (wa ss (wa (p:=small (p:Int)/\small (p:Int)) ⟨pp,pp⟩ (ai 1 (wl hb1 (ai 1 ?_))))))
  have t0:0<=(s*16807+(p:Int)*(p:Int)+29) % 2147483647:=Int.emod_nonneg _ (by decide)
  have t1:(s*16807+(p:Int)*(p:Int)+29) % 2147483647 < 2147483647:=Int.emod_lt_of_pos _ (by decide)
  have hb2:((mu.set b (.lst [.lst (cs.map .int),.int g,.int s,.int ((p+1:Nat):Int)])).set b (.lst [.lst (cs.map .int),.int g,.int ((s*16807+(p:Int)*(p:Int)+29) % 2147483647),.int ((p+1:Nat):Int)]))[b]? =_:=dj hb1
  have fin:∀i:Int,0<=i->i < l->kv (.int i) ((mu.set b (.lst [.lst (cs.map .int),.int g,.int s,.int ((p+1:Nat):Int)])).set b (.lst [.lst (cs.map .int),.int g,.int ((s*16807+(p:Int)*(p:Int)+29) % 2147483647),.int ((p+1:Nat):Int)])):=fun i a1 a2=>
   hk i _ a1 a2 ⟨cs,g,_,p+1,hb2,hc,hg,⟨t0,t1⟩,JW hp⟩ ((aN.set _ _ _).trans (aN.set _ _ _))
  have e0:decide ((p:Int) < ((cs.map V.int).length:Int))=decide (p < cs.length):=LQ.mpr (by rw[JQ];exact Int.ofNat_lt)
  refine wl hb2 (wa (p:=(cs.map V.int).length<=lim) (aM (aB hc) rfl) ?_)
  cases h2:decide (p < cs.length)with
  |true=>
   have hp2:=JN h2
   refine wt (e0.trans h2) (wl hb2 (aw 0 (t':=opt ((eE (cs.map V.int).length (p:Int)).bind ((cs.map V.int)[·]?)) fun v=>bin .mod v (.int l) fun w=>.hold (kv w ((mu.set b (.lst [.lst (cs.map .int),.int g,.int s,.int ((p+1:Nat):Int)])).set b (.lst [.lst (cs.map .int),.int g,.int ((s*16807+(p:Int)*(p:Int)+29) % 2147483647),.int ((p+1:Nat):Int)])))) ?_ (by kernel_rfl)))
   rw[dB (n:=(cs.map V.int).length) (j:=p) rfl (JQ V.int▸hp2) (aB (JH hc (by decide)))]
   show wP _ (opt ((cs.map V.int)[p]?) _)
   rw[K3,J4 hp2]
   exact wa l0 (wk (fin (cs[p] % l) (Int.emod_nonneg _ lne) (Int.emod_lt_of_pos _ l0)))
  |false=>
   generalize(s*16807+(p:Int)*(p:Int)+29) % 2147483647=s' at t0 t1 hb2 fin ⊢
   have d3:small (s' / 3):=eN (Int.ediv_nonneg t0 (by decide)) (Kz (Int.ediv_le_self _ t0) (Kz (K5 t1) (by decide)))
   exact wt (e0.trans h2) (wl hb2 (ai 1 (wa (p:=small (s' / 3)/\(0:Int)<=3/\(3:Int)<=1000) ⟨d3,by decide,by decide⟩ (wa l0 (wk (fin ((s' / 3)^(3:Int).toNat % l) (Int.emod_nonneg _ lne) (Int.emod_lt_of_pos _ l0)))))))
end
section
variable {k:Nat}
theorem bf(R:ac W)(h:Bx b k mu)(hk0:k<=1000000)(l:Nat)(l0:0 < l)(l9:l<=100)(hn:1<=n)(hk:∀(i:Nat) mu',i < l->Bx b (k+1) mu'->aN b mu mu'->kv (.int i) mu'):W n (.fn 99) [.obj b,.int l] mu kv ke:=
 t99 R h hk0 (Int.ofNat_lt.mpr l0) (Int.ofNat_le.mpr l9) hn fun i mu' h1 h2 h3 h4=>by
  obtain⟨j,rfl⟩:=Int.eq_ofNat_of_zero_le h1
  exact hk j mu' (Int.ofNat_lt.mp h2) h3 h4
theorem wn{U:Call}{t:Pg}{α:Type}{f:α->V}{k:V->Pg}(l:List α)(d:α){a:Nat}(h:a < l.length)(hl:l.length<=400000)(q:wP U (k (f (l.getD a d))))(e:sk 0 t=opt ((eE (l.map f).length (a:Int)).bind ((l.map f)[·]?)) k:=by kernel_rfl):wP U t:=by
 refine aw 0 ?_ e
 rw[dB (n:=(l.map f).length) (j:=a) rfl (JQ f▸h) (aB hl)]
 show wP _ (opt ((l.map f)[a]?) _)
 rw[K3,J4 h]
 rw[List.getD_eq_getElem?_getD,J4 h]at q
 exact q
theorem pw{P:Nat->Prop}(n:Nat)(h:All P (List.range n)){a:Nat}(ha:a < n):P a:=h.mem (List.mem_range.mpr ha)
noncomputable def CA:List i0:=[⟨[65],by decide⟩,⟨[66,45,49],by decide⟩,⟨[73,84,69,77],by decide⟩,⟨[88,57],by decide⟩]
noncomputable def iA(a:Nat):i0:=CA.getD a ⟨[65],by decide⟩
noncomputable def gL:List i0:=[⟨[71,49],by decide⟩,⟨[71,50],by decide⟩]
noncomputable def xU(q:Nat):List i0:=gL.take q
noncomputable def By:List Sub:=[.num ⟨1,0,false,[49],by decide⟩ rfl 49 rfl,.num ⟨2,0,false,[50],by decide⟩ rfl 50 rfl,.num ⟨3,0,false,[51],by decide⟩ rfl 51 rfl,.num ⟨4,0,false,[52],by decide⟩ rfl 52 rfl,.num ⟨5,0,false,[53],by decide⟩ rfl 53 rfl,.num ⟨6,0,false,[54],by decide⟩ rfl 54 rfl,.num ⟨7,0,false,[55],by decide⟩ rfl 55 rfl,.num ⟨8,0,false,[56],by decide⟩ rfl 56 rfl,.num ⟨9,0,false,[57],by decide⟩ rfl 57 rfl]
noncomputable def ug(o:Sub):List (List Sub):=[[],[o],[.I],[o,.I],[.I,o,.I],[]]
noncomputable def uY(o:Sub):List (Option (Sub×Option Sub)):=[none,some (o,none),some (.I,some o),none]
noncomputable def nG(o:Sub)(s:Nat):List Sub:=(ug o).getD s []
noncomputable def uX(o:Sub)(p:Nat):Option (Sub×Option Sub):=(uY o).getD p none
theorem jW{α:Type}{P:α->Prop}{l:List α}{d:α}(h:All P l)(hd:P d)(a:Nat):P (l.getD a d):=by
 rw[List.getD_eq_getElem?_getD]
 cases e:l[a]? with
 |none=>exact hd
 |some x=>exact h.mem (List.mem_of_getElem? e)
theorem sC(o:Sub)(s:Nat):(nG o s).length<=3:=jW (P:=fun l:List Sub=>l.length<=3) (l:=ug o) ⟨by decide,JI rfl,JI rfl,JI rfl,JI rfl,by decide,trivial⟩ (by decide) s
noncomputable def Em(a q:Nat)(o:Sub)(s p:Nat):Rf:=⟨iA a,xU q,nG o s,uX o p,JH (List.length_take_le' _ _) (by decide),sC o s⟩
theorem uF(a q:Nat)(o:Sub)(s p:Nat):(Em a q o s p).off:=jW (P:=fun g:i0=>([73,83,45,79,78]==g.s)=false) (l:=CA) ⟨rfl,rfl,rfl,rfl,trivial⟩ rfl a
theorem Hl{q:Nat}(h:q < 3):cut [V.str [71,49],V.str [71,50]] none (some (q:Int))=(xU q).map fun g=>V.str g.s:=pw (P:=fun q=>cut [V.str [71,49],V.str [71,50]] none (some (q:Int))=(xU q).map fun g=>V.str g.s) 3 ⟨rfl,rfl,rfl,trivial⟩ h
theorem EN{o:Nat}(h:o < 9):V.tup [.str [110,117,109,98,101,114],.tup [.int (1+(o:Int)),.int 0]]=(By.getD o .I).enc:=pw (P:=fun o=>V.tup [.str [110,117,109,98,101,114],.tup [.int (1+(o:Int)),.int 0]]=(By.getD o .I).enc) 9 ⟨rfl,rfl,rfl,rfl,rfl,rfl,rfl,rfl,rfl,trivial⟩ h
theorem cD{a b c:Nat}(h:k+a<=c)(e:Nat.ble b a=true):k+b<=c:=JH (JM (JI e) k) h
theorem D7(R:ac W)(h:Bx b k mu)(hk0:k+10<=1000000)(hn:2<=n)(hk:∀(f:Rf) mu',f.off->Bx b (k+5) mu'->aN b mu mu'->kv f.enc mu'):W n (.fn 100) [.obj b] mu kv ke:=by
 refine R.go 100 7 (lw hn) rfl (wq (wp_seqQ 0 (b:=xg) (kv:=kv) (ke:=aG ke) (st:=⟨[.val (.obj b),.val (.bool false),.unset,.unset,.unset,.unset,.unset,.unset,.unset],mu⟩) (fun st=>∃(a:Nat) (m:List aa),Bx b (k+1) m/\aN b mu m/\st=⟨[.val (.obj b),.val (.bool false),.val (.str (iA a).s),.unset,.unset,.unset,.unset,.unset,.unset],m⟩) ?_ fun K hK _=>?_))
 rotate_left
 ·refine wc (bf R h (cD (b:=0) hk0 rfl) 4 (by decide) (by decide) (lv hn) fun a m ha h1 g1=>?_)
  exact wn (f:=fun g:i0=>V.str g.s) (k:=fun v=>K .next ⟨[.val (.obj b),.val (.bool false),.val v,.unset,.unset,.unset,.unset,.unset,.unset],m⟩) CA ⟨[65],by decide⟩ ha (by decide) (hK _ ⟨a,m,h1,g1,rfl⟩)
 rintro _ ⟨a,m,h1,g1,rfl⟩
 refine wp_seqQ 1 (fun st=>∃(q:Nat) (m2:List aa),Bx b (k+2) m2/\aN b mu m2/\st=⟨[.val (.obj b),.val (.bool false),.val (.str (iA a).s),.val (.lst ((xU q).map fun g=>.str g.s)),.unset,.unset,.unset,.unset,.unset],m2⟩) ?_ fun K hK _=>?_
 rotate_left
 ·refine wc (bf R h1 (cD (b:=1) hk0 rfl) 3 (by decide) (by decide) (lv hn) fun q m2 hq h2 g2=>?_)
  have:=hK _ ⟨q,m2,h2,g1.trans g2,rfl⟩
  rw[←Hl hq]at this
  exact ai 1 (wq this)
 rintro _ ⟨q,m2,h2,g2,rfl⟩
 refine wc (bf R h2 (cD (b:=2) hk0 rfl) 6 (by decide) (by decide) (lv hn) fun w m3 hw h3 g3=>?_)
 refine wc (bf R h3 (cD (b:=3) hk0 rfl) 9 (by decide) (by decide) (lv hn) fun o m4 ho h4 g4=>?_)
 have eo:=EN ho
 generalize By.getD o .I=x at eo
 refine wq (cO 5 (b:=xg) (kv:=kv) (ke:=aG ke) (st:=⟨[.val (.obj b),.val (.bool false),.val (.str (iA a).s),.val (.lst ((xU q).map fun g=>.str g.s)),.val (.int w),.val (.tup [.str [110,117,109,98,101,114],.tup [.int (1+(o:Int)),.int 0]]),.val Sub.I.enc,.unset,.unset],m4⟩) (st':=⟨[.val (.obj b),.val (.bool false),.val (.str (iA a).s),.val (.lst ((xU q).map fun g=>.str g.s)),.val (.int w),.val x.enc,.val Sub.I.enc,.val (.tup ((nG x w).map Sub.enc)),.unset],m4⟩) ?_ fun K hK _=>?_)
 rotate_left
 ·rw[eo]
  exact wn (f:=fun l:List Sub=>V.tup (l.map Sub.enc)) (k:=fun v=>K .next ⟨[.val (.obj b),.val (.bool false),.val (.str (iA a).s),.val (.lst ((xU q).map fun g=>.str g.s)),.val (.int w),.val x.enc,.val Sub.I.enc,.val v,.unset],m4⟩) (ug x) [] hw (JI rfl) hK
 refine wp_seqQ 6 (fun st=>∃(p:Nat) (m5:List aa),Bx b (k+5) m5/\aN b mu m5/\st=⟨[.val (.obj b),.val (.bool false),.val (.str (iA a).s),.val (.lst ((xU q).map fun g=>.str g.s)),.val (.int w),.val x.enc,.val Sub.I.enc,.val (.tup ((nG x w).map Sub.enc)),.val (fV (uX x p))],m5⟩) ?_ fun K hK _=>?_
 rotate_left
 ·refine wc (bf R h4 (cD (b:=4) hk0 rfl) 4 (by decide) (by decide) (lv hn) fun p m5 hp h5 g5=>?_)
  exact wn (f:=fV) (k:=fun v=>K .next ⟨[.val (.obj b),.val (.bool false),.val (.str (iA a).s),.val (.lst ((xU q).map fun g=>.str g.s)),.val (.int w),.val x.enc,.val Sub.I.enc,.val (.tup ((nG x w).map Sub.enc)),.val v],m5⟩) (uY x) none hp (JI rfl) (hK _ ⟨p,m5,h5,((g2.trans g3).trans g4).trans g5,rfl⟩)
 rintro _ ⟨p,m5,h5,g5,rfl⟩
 exact wa (p:=((xU q).map fun g=>V.str g.s).length<=lim) (aM (aB (List.length_take_le' q gL)) rfl) (wk (hk (Em a q x w p) m5 (uF ..) h5 g5))
end
section
variable {k:Nat}
theorem As{a:Nat}(h:a < 2):a=0∨a=1:=pw (P:=fun a=>a=0∨a=1) 2 ⟨.inl rfl,.inr rfl,trivial⟩ h
theorem lt3{a:Nat}(h:a < 3):a=0∨a=1∨a=2:=pw (P:=fun a=>a=0∨a=1∨a=2) 3 ⟨.inl rfl,.inr (.inl rfl),.inr (.inr rfl),trivial⟩ h
theorem Gs{a:Nat}(h:a < 5):a=0∨a=1∨a=2∨a=3∨a=4:=pw (P:=fun a=>a=0∨a=1∨a=2∨a=3∨a=4) 5 ⟨.inl rfl,.inr (.inl rfl),.inr (.inr (.inl rfl)),.inr (.inr (.inr (.inl rfl))),.inr (.inr (.inr (.inr rfl))),trivial⟩ h
noncomputable def nuL:List Nu:=[⟨0,0,false,[48],by decide⟩,⟨5,0,false,[53],by decide⟩,⟨-3,0,true,[51],by decide⟩,⟨125,2,false,[49,46,50,53],by decide⟩,⟨-5,1,true,[48,46,53],by decide⟩,⟨70,0,false,[55,48],by decide⟩]
noncomputable def txL:List {t:List Nat // gS t}:=[⟨[65,66],by decide⟩,⟨[120],by decide⟩,⟨[51],by decide⟩,⟨[122,101,114,111],by decide⟩]
noncomputable def fgL:List {t:List Nat×List Nat // qC t.1 t.2}:=[⟨([90,69,82,79],[90,69,82,79]),by decide⟩,⟨([83,80,65,67,69],[83,80,65,67,69]),by decide⟩,⟨([72,73,71,72],[72,73,71,72,45,86,65,76,85,69]),by decide⟩,⟨([76,79,87],[76,79,87,45,86,65,76,85,69]),by decide⟩,⟨([81,85,79,84,69],[81,85,79,84,69]),by decide⟩]
theorem Bx.up{j:Nat}(h:Bx b j mu)(hj:j<=k):Bx b k mu:=by
 obtain⟨cs,g,s,p,h1,h2,h3,h4,h5⟩:=h
 exact⟨cs,g,s,p,h1,h2,h3,h4,JH h5 hj⟩
theorem EE(R:ac W){sv:V}(h:Bx b k mu)(hk0:k+10<=1000000)(hn:2<=n)(hk:∀(f:Rf) mu',f.off->Bx b (k+5) mu'->aN b mu mu'->kv f.enc mu'):wP (W n) (aS (xf.drop 1) (ax kv) (aG ke) ⟨[.val (.obj b),.val sv,.val (.str [114])],mu⟩):=
 wc (D7 R h hk0 hn fun f mu' a b c=>wk (hk f mu' a b c))
theorem EF(R:ac W){sv:V}(h:Bx b k mu)(hk0:k<=1000000)(hn:1<=n)(hk:∀(o:Nu) mu',Bx b (k+1) mu'->aN b mu mu'->kv o.enc mu'):wP (W n) (aS (xf.drop 1) (ax kv) (aG ke) ⟨[.val (.obj b),.val sv,.val (.str [110])],mu⟩):=
 wc (bf R h hk0 6 (by decide) (by decide) hn fun a m ha h1 g1=>wn (f:=fun n:Nu=>V.tup [.int n.u,.int n.s]) (k:=fun v=>.hold (kv (.tup [.str [110,117,109,98,101,114],v]) m)) nuL ⟨0,0,false,[48],by decide⟩ ha (by decide) (wk (hk (nuL.getD a ⟨0,0,false,[48],by decide⟩) m h1 g1)))
theorem D6(R:ac W)(h:Bx b k mu)(hk0:k+20<=1000000)(hn:3<=n)(hk:∀(o:Op) mu',o.pl->Bx b (k+6) mu'->aN b mu mu'->kv o.enc mu'):W n (.fn 101) [.obj b,.str [114,110]] mu kv ke:=by
 refine R.go 101 1 (lw hn) rfl (ai 1 (wc (bf R h (cD (b:=0) hk0 rfl) 2 (by decide) (by decide) (lv hn) fun a mu1 ha h1 g1=>?_)))
 rcases As ha with rfl|rfl
 ·exact wq (EE (kv:=kv) (ke:=ke) (sv:=.str [114,110]) R h1 (cD (b:=11) hk0 rfl) (lv hn) fun f mu2 hf h2 g2=>hk (.rf f) mu2 hf h2 (g1.trans g2))
 ·exact wq (EF (kv:=kv) (ke:=ke) (sv:=.str [114,110]) R h1 (cD (b:=1) hk0 rfl) (lv hn) fun o mu2 h2 g2=>hk (.nu o) mu2 trivial (h2.up (JM (by decide:2<=6) k)) (g1.trans g2))
theorem D5(R:ac W)(h:Bx b k mu)(hk0:k+20<=1000000)(hn:3<=n)(hk:∀(o:Op) mu',Bx b (k+6) mu'->aN b mu mu'->kv o.enc mu'):W n (.fn 101) [.obj b,.str [114,110,116,102,97]] mu kv ke:=by
 refine R.go 101 1 (lw hn) rfl (ai 1 (wc (bf R h (cD (b:=0) hk0 rfl) 5 (by decide) (by decide) (lv hn) fun a mu1 ha h1 g1=>?_)))
 have two:∀(o:Op) mu2,Bx b (k+1+1) mu2->aN b mu1 mu2->kv o.enc mu2:=fun o mu2 h2 g2=>hk o mu2 (h2.up (JM (by decide:2<=6) k)) (g1.trans g2)
 rcases Gs ha with rfl|rfl|rfl|rfl|rfl
 ·exact wq (EE (kv:=kv) (ke:=ke) (sv:=.str [114,110,116,102,97]) R h1 (cD (b:=11) hk0 rfl) (lv hn) fun f mu2 hf h2 g2=>hk (.rf f) mu2 h2 (g1.trans g2))
 ·exact wq (EF (kv:=kv) (ke:=ke) (sv:=.str [114,110,116,102,97]) R h1 (cD (b:=1) hk0 rfl) (lv hn) fun o mu2 h2 g2=>two (.nu o) mu2 h2 g2)
 ·exact wc (bf R h1 (cD (b:=1) hk0 rfl) 4 (by decide) (by decide) (lv hn) fun a m ha h2 g2=>wn (f:=fun t:{t:List Nat // gS t}=>V.bytes t.1) (k:=fun v=>.hold (kv (.tup [.str [116,101,120,116],v]) m)) txL ⟨[65,66],by decide⟩ ha (by decide) (wk (two (.tx _ (txL.getD a ⟨[65,66],by decide⟩).2) m h2 g2)))
 ·exact wc (bf R h1 (cD (b:=1) hk0 rfl) 5 (by decide) (by decide) (lv hn) fun a m ha h2 g2=>wn (f:=fun t:{t:List Nat×List Nat // qC t.1 t.2}=>V.str t.1.1) (k:=fun v=>.hold (kv (.tup [.str [102,105,103,117,114,101],v]) m)) fgL ⟨([90,69,82,79],[90,69,82,79]),by decide⟩ ha (by decide) (wk (two (.fg _ _ (fgL.getD a ⟨([90,69,82,79],[90,69,82,79]),by decide⟩).2) m h2 g2)))
 ·exact wk (hk (.al [120,121] (by decide)) mu1 (h1.up (JM (by decide:1<=6) k)) g1)
end
section
variable {k:Nat}
theorem sx(R:ac W)(h:Bx b k mu)(hk0:k+40<=1000000)(hn:4<=n)(hk:∀(e:Ex) mu',e.pl->Bx b (k+13) mu'->aN b mu mu'->kv e.enc mu'):W n (.fn 106) [.obj b] mu kv ke:=by
 refine R.go 106 2 (lw hn) rfl (wc (D6 R h (cD (b:=20) hk0 rfl) (lv hn) fun x mu1 hx h1 g1=>wc (D6 R h1 (cD (b:=26) hk0 rfl) (lv hn) fun y mu2 hy h2 g2=>wc (bf R h2 (cD (b:=12) hk0 rfl) 5 (by decide) (by decide) (lv hn) fun a m ha h3 g3=>?_))))
 exact wn (f:=Ex.enc) (k:=fun v=>.hold (kv v m)) [.op x,.op x,.add x y,.mul x,.sub x y] (.op x) ha (JI rfl) (wk (hk _ m (jW (P:=Ex.pl) (l:=[.op x,.op x,.add x y,.mul x,.sub x y]) (d:=.op x) ⟨hx,hx,trivial,trivial,trivial,trivial⟩ hx a) h3 ((g1.trans g2).trans g3)))
end
section
variable {k:Nat}
noncomputable def Es:List {s:List Nat // dO s}:=[⟨[61],by decide⟩,⟨[62],by decide⟩,⟨[60],by decide⟩,⟨[62,61],by decide⟩,⟨[60,61],by decide⟩,⟨[60,62],by decide⟩]
noncomputable def Fy:List {s:List Nat // kQ s}:=[⟨[78,85,77,69,82,73,67],by decide⟩,⟨[65,76,80,72,65,66,69,84,73,67],by decide⟩,⟨[65,76,80,72,65,66,69,84,73,67,45,76,79,87,69,82],by decide⟩]
noncomputable def Ee:List {s:List Nat // iY s}:=[⟨[80,79,83,73,84,73,86,69],by decide⟩,⟨[78,69,71,65,84,73,86,69],by decide⟩,⟨[90,69,82,79],by decide⟩]
theorem Ai(R:ac W)(h:Bx b k mu)(hk0:k+60<=1000000)(hn:5<=n)(AN:V)(w:Nat)(hw:w < 5)
  (hk:∀(x:Cd) mu',x.str=4->x.pl->Bx b (k+21) mu'->aN b mu mu'->kv x.enc mu'):
  wP (W n) (aS (xb.drop 1) (ax kv) (aG ke) ⟨[.val (.obj b),.val AN,.val (.int w)],mu⟩):=by
 have rel:∀w:Nat,w < 2->wP (W n) (aS (xb.drop 1) (ax kv) (aG ke) ⟨[.val (.obj b),.val AN,.val (.int w)],mu⟩):=fun w hw=>by
  refine wt (Kt (Int.ofNat_lt.mpr hw)) (wc (bf R h (cD (b:=0) hk0 rfl) 6 (by decide) (by decide) (lw hn) fun a mu1 ha h1 g1=>?_))
  refine wn (f:=fun s:{s:List Nat // dO s}=>V.str s.1) (k:=fun v=>.call (.fn 106) [.obj b] mu1 (fun e m=>.call (.fn 101) [.obj b,.str [114,110,116,102,97]] m (fun o m=>.hold (kv (.tup [.str [114,101,108],v,e,o]) m)) fun c m=>.hold (ke c m)) fun c m=>.hold (ke c m)) Es ⟨[61],by decide⟩ ha (by decide) ?_
  exact wc (sx R h1 (cD (b:=41) hk0 rfl) (lw hn) fun e mu2 he h2 g2=>wc (D5 R h2 (cD (b:=34) hk0 rfl) (lw hn) fun o mu3 h3 g3=>wk (hk (.rel _ (Es.getD a ⟨[61],by decide⟩).2 e o) mu3 rfl he (h3.up (JM (by decide:20<=21) k)) ((g1.trans g2).trans g3))))
 rcases Gs hw with rfl|rfl|rfl|rfl|rfl
 ·exact rel 0 (by decide)
 ·exact rel 1 (by decide)
 ·refine wc (bf R h (cD (b:=0) hk0 rfl) 3 (by decide) (by decide) (lw hn) fun a mu1 ha h1 g1=>?_)
  refine wn (f:=fun s:{s:List Nat // kQ s}=>V.str s.1) (k:=fun v=>.call (.fn 100) [.obj b] mu1 (fun f m=>.hold (kv (.tup [.str [99,108,97,115,115],v,f]) m)) fun c m=>.hold (ke c m)) Fy ⟨[78,85,77,69,82,73,67],by decide⟩ ha (by decide) ?_
  exact wc (D7 R h1 (cD (b:=11) hk0 rfl) (lw hn) fun f mu2 hf h2 g2=>wk (hk (.cls _ (Fy.getD a ⟨[78,85,77,69,82,73,67],by decide⟩).2 f) mu2 rfl hf (h2.up (JM (by decide:6<=21) k)) (g1.trans g2)))
 ·refine wc (bf R h (cD (b:=0) hk0 rfl) 3 (by decide) (by decide) (lw hn) fun a mu1 ha h1 g1=>?_)
  refine wn (f:=fun s:{s:List Nat // iY s}=>V.str s.1) (k:=fun v=>.call (.fn 106) [.obj b] mu1 (fun f m=>.hold (kv (.tup [.str [115,105,103,110],v,f]) m)) fun c m=>.hold (ke c m)) Ee ⟨[80,79,83,73,84,73,86,69],by decide⟩ ha (by decide) ?_
  exact wc (sx R h1 (cD (b:=41) hk0 rfl) (lw hn) fun f mu2 hf h2 g2=>wk (hk (.sgn _ (Ee.getD a ⟨[80,79,83,73,84,73,86,69],by decide⟩).2 f) mu2 rfl hf (h2.up (JM (by decide:14<=21) k)) (g1.trans g2)))
 ·refine wc (bf R h (cD (b:=0) hk0 rfl) 2 (by decide) (by decide) (lw hn) fun a mu1 ha h1 g1=>?_)
  rcases As ha with rfl|rfl
  ·exact ai 1 (wk (hk (.named false) mu1 rfl trivial (h1.up (JM (by decide:1<=21) k)) g1))
  ·exact ai 1 (wk (hk (.named true) mu1 rfl trivial (h1.up (JM (by decide:1<=21) k)) g1))
end
section
variable {k:Nat}
noncomputable def qm:Nat->Nat
 |0=>22
 |d+1=>qm d+qm d+1
noncomputable def Gy:Nat->Nat
 |0=>1000
 |d+1=>Gy d+Gy d+20
theorem fC(x:Cd)(h:x.str=4):x.bd=1000/\x.ht=0:=by
 cases x with
 |not c=>exact absurd (show(3:Int)=4 from h) (by decide)
 |and a b=>exact absurd (show(2:Int)=4 from h) (by decide)
 |or a b=>exact absurd (show(1:Int)=4 from h) (by decide)
 |_=>exact⟨rfl,rfl⟩
theorem wU(d:Nat):22<=qm d:=by
 induction d with
 |zero=>exact JL _
 |succ d ih=>exact J1 (JH ih (JV _ _))
theorem Dl(d:Nat):1000<=Gy d:=by
 induction d with
 |zero=>exact JL _
 |succ d ih=>exact Ke (JH ih (JV _ _))
theorem lt8{a:Nat}(h:a < 8):¬a < 5->a=5∨a=6∨a=7:=pw (P:=fun a=>¬a < 5->a=5∨a=6∨a=7) 8 ⟨fun g=>absurd (by decide) g,fun g=>absurd (by decide) g,fun g=>absurd (by decide) g,fun g=>absurd (by decide) g,fun g=>absurd (by decide) g,fun _=>.inl rfl,fun _=>.inr (.inl rfl),fun _=>.inr (.inr rfl),trivial⟩ h
def Cdr(b d k:Nat)(mu:List aa)(kv:V->List aa->Prop):Prop:=∀(x:Cd) mu',x.pl->x.ht<=d->x.bd<=Gy d->Bx b (k+qm d) mu'->aN b mu mu'->kv x.enc mu'
theorem Bv(R:ac W)(d:Nat):∀{n k:Nat} {mu:List aa} {kv:V->List aa->Prop} {ke:Nat->List aa->Prop},Bx b k mu->k+qm d+100<=1000000->6+d<=n->Cdr b d k mu kv->W n (.fn 107) [.obj b,.int d] mu kv ke:=by
 induction d with
 |zero=>
  intro n k mu kv ke h hk0 hn hk
  refine R.go 107 1 (lw hn) rfl (wc (bf R h (cD (a:=122) (b:=0) hk0 rfl) 5 (by decide) (by decide) (lv hn) fun w mu1 hw h1 g1=>?_))
  exact wq (Ai (kv:=kv) (ke:=ke) R h1 (cD (a:=122) (b:=61) hk0 rfl) (lv hn) (.int 0) w hw fun x mu2 hx hp h2 g2=>hk x mu2 hp (JZ (fC x hx).2) (JZ (fC x hx).1) h2 (g1.trans g2))
 |succ d ih=>
  intro n k mu kv ke h hk0 hn hk
  obtain⟨m,rfl⟩:=J2 (JH (JS 1 (6+d)) hn)
  have b1:=wU d
  have hm:6+d<=m:=KJ hn
  have h6:6<=m:=JH (JV 6 d) hm
  have e1:(((d+1:Nat):Int) - 1)=(d:Int):=Int.add_sub_cancel (d:Int) 1
  have I:∀{k:Nat} {mu:List aa} {kv:V->List aa->Prop} {ke:Nat->List aa->Prop},Bx b k mu->k+qm d+100<=1000000->Cdr b d k mu kv->W m (.fn 107) [.obj b,.int (((d+1:Nat):Int) - 1)] mu kv ke:=fun a c g=>by rw[e1];exact ih a c hm g
  have ck:k+(qm d+qm d+1)+100<=1000000:=hk0
  have c:k<=1000000/\k+1+60<=1000000/\k+1+qm d+100<=1000000/\k+1+qm d+qm d+100<=1000000/\k+1+qm d+qm d=k+(qm d+qm d+1):=
   ⟨JH (JH (JV _ _) (JV _ _)) ck,lin [_,_] [(1,.a (.a (.v 0) (.a (.a (.v 1) (.v 1)) (.n 1))) (.n 100),.n 1000000)] 1 (.a (.a (.v 0) (.n 1)) (.n 60)) (.n 1000000) rfl ck,lin [_,_] [(1,.a (.a (.v 0) (.a (.a (.v 1) (.v 1)) (.n 1))) (.n 100),.n 1000000)] 1 (.a (.a (.a (.v 0) (.n 1)) (.v 1)) (.n 100)) (.n 1000000) rfl ck,lin [_,_] [(1,.a (.a (.v 0) (.a (.a (.v 1) (.v 1)) (.n 1))) (.n 100),.n 1000000)] 1 (.a (.a (.a (.a (.v 0) (.n 1)) (.v 1)) (.v 1)) (.n 100)) (.n 1000000) rfl ck,Lp (lin [_,_] [] 1 (.a (.a (.a (.v 0) (.n 1)) (.v 1)) (.v 1)) (.a (.v 0) (.a (.a (.v 1) (.v 1)) (.n 1))) rfl) (lin [_,_] [] 1 (.a (.v 0) (.a (.a (.v 1) (.v 1)) (.n 1))) (.a (.a (.a (.v 0) (.n 1)) (.v 1)) (.v 1)) rfl)⟩
  refine R.go 107 1 (JS 1 m) rfl (wt (Kt (Int.ofNat_lt.mpr (Nat.zero_lt_succ d))) (wc (bf R h c.1 8 (by decide) (by decide) (lw h6) fun w mu1 hw h1 g1=>?_)))
  by_cases hw5:w < 5
  ·exact wq (Ai (kv:=kv) (ke:=ke) R h1 c.2.1 (lw h6) (.int ((d+1:Nat):Int)) w hw5 fun x mu2 hx hp h2 g2=>hk x mu2 hp (JH (JZ (fC x hx).2) (KD _)) (JH (JZ (fC x hx).1) (Dl _)) (h2.up (JM (wU (d+1)) k)) (g1.trans g2))
  have two:∀(f:Cd->Cd->Cd) (s:List Nat) {t:Pg},(∀x y,(f x y).enc=.tup [.str s,x.enc,y.enc]/\((f x y).pl=(x.pl/\y.pl))/\(f x y).ht=max x.ht y.ht+1/\(f x y).bd=x.bd+y.bd+20)->
    eF t=.call (.fn 107) [.obj b,.int (((d+1:Nat):Int) - 1)] mu1->(∀v m,eF (kc t v m)=.call (.fn 107) [.obj b,.int (((d+1:Nat):Int) - 1)] m)->(∀v m v' m',eF (kc (kc t v m) v' m')=.hold (kv (.tup [.str s,v,v']) m'))->wP (W m) t:=fun f s t hf q1 q2 q3=>by
   refine wc (I h1 c.2.2.1 fun x mu2 hp hh hb h2 g2=>wc (I h2 c.2.2.2.1 fun y mu3 hp3 hh3 hb3 h3 g3=>wk ?_ (q3 _ _ _ _)) (q2 _ _)) q1
   obtain⟨f1,f2,f3,f4⟩:=hf x y
   exact f1▸hk (f x y) mu3 (f2▸⟨hp,hp3⟩) (f3▸JW (Nat.max_le.mpr ⟨hh,hh3⟩)) (f4▸J3 (KO hb hb3) 20) (c.2.2.2.2▸h3) ((g1.trans g2).trans g3)
  rcases lt8 hw hw5 with rfl|rfl|rfl
  ·refine wc (I h1 c.2.2.1 fun x mu2 hp hh hb h2 g2=>wk (hk (.not x) mu2 hp (JW hh) (KO (JH hb (JV _ _)) (by decide)) (h2.up ?_) (g1.trans g2)))
   exact c.2.2.2.2▸JV _ _
  ·exact two .and [97,110,100] (fun x y=>⟨rfl,rfl,rfl,rfl⟩) (by kernel_rfl) (fun _ _=>(by kernel_rfl)) fun _ _ _ _=>(by kernel_rfl)
  ·exact two .or [111,114] (fun x y=>⟨rfl,rfl,rfl,rfl⟩) (by kernel_rfl) (fun _ _=>(by kernel_rfl)) fun _ _ _ _=>(by kernel_rfl)
end
section
variable {k:Nat}
theorem lt4{a:Nat}(h:a < 4):a=0∨a=1∨a=2∨a=3:=pw (P:=fun a=>a=0∨a=1∨a=2∨a=3) 4 ⟨.inl rfl,.inr (.inl rfl),.inr (.inr (.inl rfl)),.inr (.inr (.inr rfl)),trivial⟩ h
theorem Hb(R:ac W)(h:Bx b k mu)(hk0:k+300<=1000000)(hn:8<=n)(hk:∀(s:Pt) mu',dN s->s.ok->Bx b (k+50) mu'->aN b mu mu'->kv s.enc mu'):W n (.fn 108) [.obj b] mu kv ke:=by
 refine R.go 108 1 (lw hn) rfl (wc (bf R h (cD (b:=0) hk0 rfl) 4 (by decide) (by decide) (lv hn) fun w mu1 hw h1 g1=>?_))
 rcases lt4 hw with rfl|rfl|rfl|rfl
 ·exact wc (sx R h1 (cD (b:=41) hk0 rfl) (lv hn) fun e mu2 he h2 g2=>wk (hk (.worth e) mu2 he trivial (h2.up (JM (by decide:14<=50) k)) (g1.trans g2)))
 ·exact wc (Bv R 1 h1 (show k+1+45+100<=1000000 from cD (b:=146) hk0 rfl) (lv hn) fun x mu2 hp hh hb h2 g2=>wk (hk (.truth x) mu2 ⟨hp,JH hh (by decide)⟩ ⟨JH hb (by decide),JH hh (by decide)⟩ (h2.up (show k+1+45<=k+50 from JM (by decide:46<=50) k)) (g1.trans g2)))
 ·exact wk (hk .yes mu1 trivial trivial (h1.up (JM (by decide:1<=50) k)) g1)
 ·exact wk (hk .no mu1 trivial trivial (h1.up (JM (by decide:1<=50) k)) g1)
theorem yr(R:ac W)(h:Bx b k mu)(hk0:k+300<=1000000)(hn:2<=n)(hk:∀(l:List S1) mu',l≠[]->l.length<=3->Bx b (k+2) mu'->aN b mu mu'->kv (b8 l) mu'):W n (.fn 103) [.obj b] mu kv ke:=by
 refine R.go 103 0 (lw hn) rfl (wc (bf R h (cD (b:=0) hk0 rfl) 2 (by decide) (by decide) (lv hn) fun w mu1 hw h1 g1=>wc (bf R h1 (cD (b:=1) hk0 rfl) 2 (by decide) (by decide) (lv hn) fun u mu2 hu h2 g2=>?_)))
 have fin:=fun l a c=>hk l mu2 a c h2 (g1.trans g2)
 rcases As hw with rfl|rfl<;>rcases As hu with rfl|rfl
 ·exact ai 1 (wk (fin [.con,.exi] nofun (by decide)))
 ·exact ai 1 (wk (fin [.con,.exi,.con] nofun (by decide)))
 ·exact ai 1 (wk (fin [.exi] nofun (by decide)))
 ·exact ai 1 (wk (fin [.exi,.con] nofun (by decide)))
end
section
variable {k:Nat}
theorem Ha(R:ac W)(s:Pt)(hs:dN s)(h:Bx b k mu)(hk0:k+300<=1000000)(hn:8<=n)(hk:∀(p:Pt) mu',ny s p->p.ok->Bx b (k+50) mu'->aN b mu mu'->kv p.enc mu'):W n (.fn 109) [.obj b,s.enc] mu kv ke:=by
 have any:ny s .any:=by cases s<;>trivial
 by_cases hx:∃e,s=.worth e
 ·obtain⟨e,rfl⟩:=hx
  refine R.go 109 3 (lw hn) rfl (wc (bf R h (cD (b:=0) hk0 rfl) 5 (by decide) (by decide) (lv hn) fun w mu1 hw h1 g1=>?_))
  have is:∀{t:Pg},eF t=.call (.fn 99) [.obj b,.int 2] mu1->(∀u m,s4 (sk 0 (kc t (.int u) m))=.test (decide (u=1)))->(∀u m,eF (ts 0 (kc t (.int u) m) (decide (u=1)))=.call (.fn 106) [.obj b] m)->(∀u m v m',eF (kc (ts 0 (kc t (.int u) m) (decide (u=1))) v m')=.hold (kv (.tup [.str [105,115],v,.bool (decide (u=1))]) m'))->wP (W (n - 1)) t:=fun q1 q2 q3 q4=>
   wc (bf R h1 (cD (b:=1) hk0 rfl) 2 (by decide) (by decide) (lv hn) fun u mu2 hu h2 g2=>wt rfl (wc (sx R h2 (cD (b:=42) hk0 rfl) (lv hn) fun x mu3 hx h3 g3=>wk (hk (.is x (decide ((u:Int)=1))) mu3 trivial trivial (h3.up (JM (by decide:15<=50) k)) ((g1.trans g2).trans g3)) (q4 _ _ _ _)) (q3 _ _)) (q2 _ _)) q1
  have thru:∀{t:Pg},eF t=.call (.fn 99) [.obj b,.int 2] mu1->(∀u m,s4 (sk 0 (kc t (.int u) m))=.test (decide (u=1)))->(∀u m,eF (ts 0 (kc t (.int u) m) (decide (u=1)))=.call (.fn 106) [.obj b] m)->(∀u m v m',eF (kc (ts 0 (kc t (.int u) m) (decide (u=1))) v m')=.call (.fn 106) [.obj b] m')->(∀u m v m' v2 m2,eF (kc (kc (ts 0 (kc t (.int u) m) (decide (u=1))) v m') v2 m2)=.hold (kv (.tup [.str [116,104,114,117],v,v2,.bool (decide (u=1))]) m2))->wP (W (n - 1)) t:=fun q1 q2 q3 q4 q5=>
   wc (bf R h1 (cD (b:=1) hk0 rfl) 2 (by decide) (by decide) (lv hn) fun u mu2 hu h2 g2=>wt rfl (wc (sx R h2 (cD (b:=42) hk0 rfl) (lv hn) fun x mu3 hx h3 g3=>wc (sx R h3 (cD (b:=55) hk0 rfl) (lv hn) fun y mu4 hy h4 g4=>wk (hk (.thru x y (decide ((u:Int)=1))) mu4 trivial trivial (h4.up (JM (by decide:28<=50) k)) (((g1.trans g2).trans g3).trans g4)) (q5 _ _ _ _ _ _)) (q4 _ _ _ _)) (q3 _ _)) (q2 _ _)) q1
  rcases Gs hw with rfl|rfl|rfl|rfl|rfl
  ·exact wk (hk .any mu1 any trivial (h1.up (JM (by decide:1<=50) k)) g1)
  ·exact is (by kernel_rfl) (fun _ _=>(by kernel_rfl)) (fun _ _=>(by kernel_rfl)) fun _ _ _ _=>(by kernel_rfl)
  ·exact is (by kernel_rfl) (fun _ _=>(by kernel_rfl)) (fun _ _=>(by kernel_rfl)) fun _ _ _ _=>(by kernel_rfl)
  ·exact thru (by kernel_rfl) (fun _ _=>(by kernel_rfl)) (fun _ _=>(by kernel_rfl)) (fun _ _ _ _=>(by kernel_rfl)) fun _ _ _ _ _ _=>(by kernel_rfl)
  ·exact thru (by kernel_rfl) (fun _ _=>(by kernel_rfl)) (fun _ _=>(by kernel_rfl)) (fun _ _ _ _=>(by kernel_rfl)) fun _ _ _ _ _ _=>(by kernel_rfl)
 ·obtain⟨q,l,e,hq,ay,an,at_⟩:∃q l,s.enc=.tup (.str q::l)/\(q==[119,111,114,116,104])=false/\ny s .yes/\ny s .no/\∀x:Cd,x.pl->ny s (.truth x):=by
   cases s<;>first|exact False.elim hs|exact⟨_,_,rfl,rfl,trivial,trivial,fun _ h=>h⟩|exact absurd ⟨_,rfl⟩ hx
  rw[e]
  refine R.go 109 3 (lw hn) rfl (wc (bf R h (cD (b:=0) hk0 rfl) 5 (by decide) (by decide) (lv hn) fun w mu1 hw h1 g1=>?_))
  have up1:=h1.up (JM (by decide:1<=50) k)
  have tr:∀{kw:V->List aa->Prop} {ke:Nat->List aa->Prop},(∀v m,kv (.tup [.str [116,114,117,116,104],v]) m->kw v m)->W (n - 1) (.fn 107) [.obj b,.int 1] mu1 kw ke:=fun f=>
   Bv R 1 h1 (show k+1+45+100<=1000000 from cD (b:=146) hk0 rfl) (lv hn) fun x mu2 hp hh hb h2 g2=>f _ _ (hk (.truth x) mu2 (at_ x hp) ⟨JH hb (by decide),JH hh (by decide)⟩ (h2.up (show k+1+45<=k+50 from JM (by decide:46<=50) k)) (g1.trans g2))
  rcases Gs hw with rfl|rfl|rfl|rfl|rfl
  ·exact wk (hk .any mu1 any trivial up1 g1)
  ·exact dQ 1 hq (by kernel_rfl) (wc (tr fun v m h=>wk h))
  ·exact dQ 1 hq (by kernel_rfl) (wc (tr fun v m h=>wk h))
  ·exact dQ 1 hq (by kernel_rfl) (wk (hk .yes mu1 ay trivial up1 g1))
  ·exact dQ 1 hq (by kernel_rfl) (wk (hk .no mu1 an trivial up1 g1))
end
section
variable {k:Nat}
theorem add_mul{k c m:Nat}:k+c*(m+1)=k+c+c*m:=by rw[Nat.mul_succ,KU (c*m),KZ]
theorem rq{k c m d e:Nat}(h:k<=c)(g:c+m+d<=e):k+d<=e:=JH (J3 (JH h (JV _ _)) d) g
theorem Eh(R:ac W)(hn:9<=n){a1 a2 a3 a4 a5 a6:LV}{l:List Pt}:∀{acc:List V} {k:Nat} {mu:List aa} {x:LV} {K:KV},(∀s∈l,dN s)->Bx b k mu->k+50*l.length+300<=1000000->
  (∀(row:List Pt) mu' x',row.length=l.length->(∀q∈l.zip row,ny q.1 q.2/\q.2.ok)->(∀p∈row,p.ok)->Bx b (k+50*l.length) mu'->aN b mu mu'->wP (W n) (K (.lst (acc++row.map Pt.enc)) ⟨[.val (.obj b),a1,a2,a3,a4,a5,a6,x'],mu'⟩))->
  wP (W n) (bF (cF (.call (.c (.fn 109)) [(.x 0),(.x 7)]) 7 []) (l.map Pt.enc) acc K ⟨[.val (.obj b),a1,a2,a3,a4,a5,a6,x],mu⟩):=by
 induction l with
 |nil=>
  intro acc k mu x K hs h hb hk
  have:=hk [] mu x rfl (fun q hq=>absurd hq Kk) (fun q hq=>absurd hq Kk) h (aN.refl _ _)
  rw[KG,JX]at this
  exact wq this
 |cons s l ih=>
  intro acc k mu x K hs h hb hk
  rw[KC,add_mul]at hb hk
  refine wc (Ha R s (hs s (.head _)) h (rq (JV k 50) hb) (lw hn) fun p mu1 ha ho h1 g1=>ws 0 (wq (ih (K:=K) (acc:=acc++[p.enc]) (x:=.val s.enc) (fun s hs'=>hs s (.tail _ hs')) h1 hb fun row mu2 x2 r1 r2 r3 h2 g2=>?_)))
  have:=hk (p::row) mu2 x2 (congrArg Nat.succ r1) (by
   rintro q (_|hq)
   ·exact⟨ha,ho⟩
   ·exact r2 q (by assumption)) (by
   rintro q (_|hq)
   ·exact ho
   ·exact r3 q (by assumption)) h2 (g1.trans g2)
  rwa[Kq,KR]at this
end
section
variable {k:Nat}
theorem ue(R:ac W)(hn:8<=n){a1 a2 a3 a4 a6 a7:LV}{l:List V}:∀{acc:List V} {k:Nat} {mu:List aa} {x:LV} {K:KV},Bx b k mu->k+50*l.length+300<=1000000->
  (∀(row:List Pt) mu' x',row.length=l.length->(∀s∈row,dN s/\s.ok)->Bx b (k+50*l.length) mu'->aN b mu mu'->wP (W n) (K (.lst (acc++row.map Pt.enc)) ⟨[.val (.obj b),a1,a2,a3,a4,x',a6,a7],mu'⟩))->
  wP (W n) (bF (cF (.call (.c (.fn 108)) [(.x 0)]) 5 []) l acc K ⟨[.val (.obj b),a1,a2,a3,a4,x,a6,a7],mu⟩):=by
 induction l with
 |nil=>
  intro acc k mu x K h hb hk
  have:=hk [] mu x rfl (fun q hq=>absurd hq Kk) h (aN.refl _ _)
  rw[KG,JX]at this
  exact wq this
 |cons v l ih=>
  intro acc k mu x K h hb hk
  rw[KC,add_mul]at hb hk
  refine wc (Hb R h (rq (JV k 50) hb) hn fun p mu1 ha ho h1 g1=>ws 0 (wq (ih (K:=K) (acc:=acc++[p.enc]) (x:=.val v) h1 hb fun row mu2 x2 r1 r2 h2 g2=>?_)))
  have:=hk (p::row) mu2 x2 (congrArg Nat.succ r1) (by
   rintro q (_|hq)
   ·exact⟨ha,ho⟩
   ·exact r2 q (by assumption)) h2 (g1.trans g2)
  rwa[Kq,KR]at this
structure Dt(subs r:List Pt):Prop where
 len:r.length=subs.length
 ans:∀q∈subs.zip r,ny q.1 q.2/\q.2.ok
 ok:∀p∈r,p.ok
theorem uC(R:ac W)(hn:9<=n){subs:List Pt}(hs:∀s∈subs,dN s)(hl2:subs.length<=2){a2 a3 a4 a5 a7:LV}{l:List V}:∀{acc:List V} {k:Nat} {mu:List aa} {x:LV} {K:KV},Bx b k mu->k+100*l.length+400<=1000000->
  (∀(rows:List (List Pt)) mu' x',rows.length=l.length->(∀r∈rows,Dt subs r)->Bx b (k+100*l.length) mu'->aN b mu mu'->
   wP (W n) (K (.lst (acc++rows.map bL)) ⟨[.val (.obj b),.val (bL subs),a2,a3,a4,a5,x',a7],mu'⟩))->
  wP (W n) (bF (cF (.call (.c (.bi .tuple)) [(.comp (.call (.c (.fn 109)) [(.x 0),(.x 7)]) 7 (.x 1) [])]) 6 []) l acc K ⟨[.val (.obj b),.val (bL subs),a2,a3,a4,a5,x,a7],mu⟩):=by
 induction l with
 |nil=>
  intro acc k mu x K h hb hk
  have:=hk [] mu x rfl (fun q hq=>absurd hq Kk) h (aN.refl _ _)
  rw[KG,JX]at this
  exact wq this
 |cons v l ih=>
  intro acc k mu x K h hb hk
  rw[KC,add_mul]at hb hk
  have h2:k+50*subs.length<=k+100:=JM (Kh 50 hl2) k
  refine wa (p:=(subs.map Pt.enc).length<=lim) (aM (aB hl2) rfl) (aw 0 (t':=bF (cF (.call (.c (.fn 109)) [(.x 0),(.x 7)]) 7 []) (subs.map Pt.enc) [] _ ⟨[.val (.obj b),.val (bL subs),a2,a3,a4,a5,.val v,a7],mu⟩) (Eh R hn (k:=k) hs h (JH (J3 h2 300) (JH (JM (by decide:300<=400) _) (rq (JL (k+100)) hb))) fun row mu1 x1 r1 r2 r3 h1 g1=>?_) rfl)
  refine wa (p:=([]++row.map Pt.enc).length<=lim) (aM (aB (JH (JZ r1) hl2)) rfl) (ws 0 (wq (ih (K:=K) (acc:=acc++[bL row]) (x:=.val v) (h1.up h2) hb fun rows mu2 x2 q1 q2 h2 g2=>?_)))
  have:=hk (row::rows) mu2 x2 (congrArg Nat.succ q1) (by
   rintro q (_|hq)
   ·exact⟨r1,r2,r3⟩
   ·exact q2 q (by assumption)) h2 (g1.trans g2)
  rwa[Kq,KR]at this
end
section
variable {k:Nat}
noncomputable def yi:List MS:=Fi oW[2]?
theorem ye{subs:List Pt}(hl2:subs.length<=2){rows:List (List Pt)}{y:List S1}{m:Nat}(e:rows.length=m+1)(hm:m<=1)(h:∀r∈rows,Dt subs r)(y0:y≠[])(yl:y.length<=3):qD subs ⟨rows,y⟩/\Wh.ok ⟨rows,y⟩:=
 have l2:rows.length<=2:=e▸JW hm
 ⟨⟨fun z=>Lm m (e.symm.trans (congrArg List.length z)),JH l2 (by decide),y0,JH yl (by decide),fun l hl=>⟨(h l hl).len,(h l hl).ans⟩⟩,⟨fun r hr=>⟨(h r hr).ok,(h r hr).len▸hl2⟩,l2,y0,yl⟩⟩
theorem yd(R:ac W)(hn:9<=n){subs:List Pt}(hs:∀s∈subs,dN s)(hl2:subs.length<=2){x5 x6 x7:LV}{l:List V}:∀{acc:List V} {k:Nat} {mu:List aa} {x3 x4:LV} {K:KF},Bx b k mu->k+210*l.length+700<=1000000->acc.length+l.length<=50->
  (∀(ws:List Wh) mu' x3' x4',ws.length=l.length->(∀w∈ws,qD subs w/\w.ok)->Bx b (k+210*l.length) mu'->aN b mu mu'->
   wP (W n) (K .next ⟨[.val (.obj b),.val (bL subs),.own (acc++ws.map Wh.enc),x3',x4',x5,x6,x7],mu'⟩))->
  wP (W n) (fT (fun v k' st=>aS yi k' fQ (st.put 3 (.val v))) l K ⟨[.val (.obj b),.val (bL subs),.own acc,x3,x4,x5,x6,x7],mu⟩):=by
 induction l with
 |nil=>
  intro acc k mu x3 x4 K h hb ha hk
  have:=hk [] mu x3 x4 rfl (fun q hq=>absurd hq Kk) h (aN.refl _ _)
  rw[KG,JX]at this
  exact wq this
 |cons v l ih=>
  intro acc k mu x3 x4 K h hb ha hk
  rw[KC,add_mul]at hb hk
  have b7:k+210+700<=1000000:=rq (JL (k+210)) hb
  have la:acc.length < lim:=Kw (JH (JV _ _) ha) (by decide)
  refine wc (bf R h (cD (a:=910) (b:=0) b7 rfl) 2 (by decide) (by decide) (lw hn) fun u mu1 hu h1 g1=>?_)
  have cont:∀{rows:List (List Pt)} {mu2:List aa} {m:Nat},rows.length=m+1->m<=1->(∀r∈rows,Dt subs r)->Bx b (k+201) mu2->aN b mu mu2->
    wP (W n) (aS (yi.drop 1) (fun fl st'=>match fl with| .next=>fT (fun v k' st=>aS yi k' fQ (st.put 3 (.val v))) l K st'| .ret x=>K (.ret x) st') fQ ⟨[.val (.obj b),.val (bL subs),.own acc,.val v,.val (.lst (rows.map bL)),x5,x6,x7],mu2⟩):=fun{rows mu2 m} e hm r2 h2 g2=>by
   have hr:rows.length<=2:=e▸JW hm
   refine wa (p:=(rows.map bL).length<=lim) (aM (aB hr) rfl) (wc (yr R h2 (cD (a:=910) (b:=501) b7 rfl) (lw hn) fun y mu3 y0 yl h3 g3=>?_))
   have hw:=ye hl2 e hm r2 y0 yl
   refine wa la (wq (ih (K:=K) (acc:=acc++[Wh.enc ⟨rows,y⟩]) (x3:=.val v) (x4:=.val (.lst (rows.map bL))) (h3.up (JM (by decide:203<=210) k)) hb ?_ fun ws mu4 x3' x4' q1 q2 h4 g4=>?_))
   ·rw[JU,KZ,KU [Wh.enc ⟨rows,y⟩].length];exact ha
   ·have:=hk (⟨rows,y⟩::ws) mu4 x3' x4' (congrArg Nat.succ q1) (by
     rintro q (_|hq)
     ·exact hw
     ·exact q2 q (by assumption)) h4 ((g2.trans g3).trans g4)
    rwa[Kq,KR]at this
  rcases As hu with rfl|rfl
  ·refine ai 2 (aw 0 (t':=bF (cF (.call (.c (.bi .tuple)) [(.comp (.call (.c (.fn 109)) [(.x 0),(.x 7)]) 7 (.x 1) [])]) 6 []) [.int 0] [] _ ⟨[.val (.obj b),.val (bL subs),.own acc,.val v,x4,x5,x6,x7],mu1⟩) (uC R hn hs hl2 h1 (cD (a:=910) (b:=501) b7 rfl) fun rows mu2 x' r1 r2 h2 g2=>?_) rfl)
   exact wq (cont r1 (by decide) r2 (h2.up (JM (by decide:101<=201) k)) (g1.trans g2))
  ·refine ai 2 (aw 0 (t':=bF (cF (.call (.c (.bi .tuple)) [(.comp (.call (.c (.fn 109)) [(.x 0),(.x 7)]) 7 (.x 1) [])]) 6 []) [.int 0,.int 1] [] _ ⟨[.val (.obj b),.val (bL subs),.own acc,.val v,x4,x5,x6,x7],mu1⟩) (uC R hn hs hl2 h1 (cD (a:=910) (b:=601) b7 rfl) fun rows mu2 x' r1 r2 h2 g2=>?_) rfl)
   exact wq (cont r1 (by decide) r2 h2 (g1.trans g2))
end
section
variable {k:Nat}
theorem rn{α:Type}{l:List α}{m:Nat}(e:l.length=m+1):l≠[]:=fun z=>Lm m (e.symm.trans (congrArg List.length z))
theorem Db(R:ac W)(hn:9<=n){subs:List Pt}{ws:List Wh}{j m:Nat}(e1:subs.length=j+1)(hj:j<=1)(r2:∀s∈subs,dN s/\s.ok)(e2:ws.length=m+1)(hm:m<=2)(q2:∀w∈ws,qD subs w/\w.ok){x3 x4 x5 x6 x7:LV}(h:Bx b k mu)(hk0:k+400<=1000000)
  (hk:∀(e:Ev) mu',e.ok->e.good->Bx b (k+3) mu'->aN b mu mu'->kv e.enc mu'):wP (W n) (aS (oW.drop 3) (ax kv) (aG ke) ⟨[.val (.obj b),.val (bL subs),.own (ws.map Wh.enc),x3,x4,x5,x6,x7],mu⟩):=by
 have l1:subs.length<=2:=e1▸JW hj
 have l2:ws.length<=3:=e2▸JW hm
 have fin:∀(o:List S1) mu',o.length<=3->Bx b (k+3) mu'->aN b mu mu'->kv (Ev.enc ⟨subs,ws,o⟩) mu':=fun o mu' ho h5 g5=>
  hk _ mu' ⟨fun p hp=>(r2 p hp).2,l1,fun w hw=>(q2 w hw).2,l2,ho⟩ ⟨rn e1,JH l1 (by decide),fun s hs=>(r2 s hs).1,rn e2,JH l2 (by decide),fun w hw=>(q2 w hw).1,JH ho (by decide)⟩ h5 g5
 refine wa (p:=(ws.map Wh.enc).length<=lim) (aM (aB l2) rfl) (wc (bf R h (cD (b:=0) hk0 rfl) 2 (by decide) (by decide) (lw hn) fun y mu5 hy h5 g5=>?_))
 rcases As hy with rfl|rfl
 ·exact wc (yr R h5 (cD (b:=301) hk0 rfl) (lw hn) fun o mu6 o0 ol h6 g6=>wk (fin o mu6 ol h6 (g5.trans g6)))
 ·exact wk (fin [] mu5 (by decide) (h5.up (JM (by decide:1<=3) k)) g5)
theorem vr(R:ac W)(hn:9<=n){subs:List Pt}{j:Nat}(e1:subs.length=j+1)(hj:j<=1)(r2:∀s∈subs,dN s/\s.ok){x2 x3 x4 x5 x6 x7:LV}(h:Bx b k mu)(hk0:k+2000<=1000000)
  (hk:∀(e:Ev) mu',e.ok->e.good->Bx b (k+700) mu'->aN b mu mu'->kv e.enc mu'):wP (W n) (aS (oW.drop 1) (ax kv) (aG ke) ⟨[.val (.obj b),.val (bL subs),x2,x3,x4,x5,x6,x7],mu⟩):=by
 have hs:∀s∈subs,dN s:=fun s hs=>(r2 s hs).1
 have l1:subs.length<=2:=e1▸JW hj
 refine wc (bf R h (cD (b:=0) hk0 rfl) 3 (by decide) (by decide) (lw hn) fun w mu3 hw h3 g3=>?_)
 have two:∀(l3:List V) {m:Nat},l3.length=m+1->m<=2->k+1+210*l3.length+700<=1000000->k+1+210*l3.length+3<=k+700->wP (W n) (fT (fun v k' st=>aS yi k' fQ (st.put 3 (.val v))) l3 (kJ (ax kv) fun st=>aS (oW.drop 3) (ax kv) (aG ke) st) ⟨[.val (.obj b),.val (bL subs),.own [],x3,x4,x5,x6,x7],mu3⟩):=fun l3 m e hm c1 c2=>
  yd R hn hs l1 h3 c1 (by rw[e,Lk,Lx];exact JH (JW hm) (by decide)) fun ws mu4 y3 y4 q1 q2 h4 g4=>
   wq (Db (kv:=kv) (ke:=ke) (x3:=y3) (x4:=y4) (x5:=x5) (x6:=x6) (x7:=x7) R hn e1 hj r2 (q1.trans e) hm q2 h4 (JH (JM (by decide) _) c1) fun ev mu5 a b c d=>hk ev mu5 a b (c.up c2) ((g3.trans g4).trans d))
 rcases lt3 hw with rfl|rfl|rfl
 ·exact ai 1 (wq (two [.int 0] rfl (by decide) (cD (b:=911) hk0 rfl) (JM (by decide:214<=700) k)))
 ·exact ai 1 (wq (two [.int 0,.int 1] rfl (by decide) (cD (b:=1121) hk0 rfl) (JM (by decide:424<=700) k)))
 ·exact ai 1 (wq (two [.int 0,.int 1,.int 2] rfl (by decide) (cD (b:=1331) hk0 rfl) (JM (by decide:634<=700) k)))
theorem G9(R:ac W)(h:Bx b k mu)(hk0:k+5000<=1000000)(hn:10<=n)(hk:∀(e:Ev) mu',e.ok->e.good->Bx b (k+1000) mu'->aN b mu mu'->kv e.enc mu'):W n (.fn 110) [.obj b] mu kv ke:=by
 refine R.go 110 7 (lw hn) rfl (wc (bf R h (cD (b:=0) hk0 rfl) 2 (by decide) (by decide) (lv hn) fun u mu1 hu h1 g1=>?_))
 rcases As hu with rfl|rfl
 ·refine ai 2 (aw 0 (t':=bF (cF (.call (.c (.fn 108)) [(.x 0)]) 5 []) [.int 0] [] _ ⟨[.val (.obj b),.unset,.unset,.unset,.unset,.unset,.unset,.unset],mu1⟩) (ue R (lv hn) h1 (cD (b:=351) hk0 rfl) fun subs mu2 x' r1 r2 h2 g2=>?_) rfl)
  exact wa (p:=([]++subs.map Pt.enc).length<=lim) (aM (aB (JZ r1)) rfl) (wq (vr (kv:=kv) (ke:=ke) (x2:=.unset) (x3:=.unset) (x4:=.unset) (x5:=.unset) (x6:=.unset) (x7:=.unset) R (lv hn) (j:=0) r1 (by decide) r2 h2 (cD (b:=2051) hk0 rfl) fun e mu' a b c d=>hk e mu' a b (c.up (JM (by decide:751<=1000) k)) ((g1.trans g2).trans d)))
 ·refine ai 2 (aw 0 (t':=bF (cF (.call (.c (.fn 108)) [(.x 0)]) 5 []) [.int 0,.int 1] [] _ ⟨[.val (.obj b),.unset,.unset,.unset,.unset,.unset,.unset,.unset],mu1⟩) (ue R (lv hn) h1 (cD (b:=401) hk0 rfl) fun subs mu2 x' r1 r2 h2 g2=>?_) rfl)
  exact wa (p:=([]++subs.map Pt.enc).length<=lim) (aM (aB (JZ r1)) rfl) (wq (vr (kv:=kv) (ke:=ke) (x2:=.unset) (x3:=.unset) (x4:=.unset) (x5:=.unset) (x6:=.unset) (x7:=.unset) R (lv hn) (j:=1) r1 (by decide) r2 h2 (cD (b:=2101) hk0 rfl) fun e mu' a b c d=>hk e mu' a b (c.up (JM (by decide:801<=1000) k)) ((g1.trans g2).trans d)))
end
section
variable {k:Nat}
theorem CH{U:Call}{x0 x1 x2:LV}{K:KF}{x5:LV}{l:List Int}:∀{s:Int} {x4:LV},0<=s->s < 2147483647->
  (∀s' x4',0<=s'->s' < 2147483647->wP U (K .next ⟨[x0,x1,x2,.val (.int s'),x4',x5],mu⟩))->
  wP U (fT (fun v k' st=>aS [.asg 3 (.bin .mod (.bin .add (.bin .add (.bin .mul (.x 3) (.c (.int 48271))) (.bin .mod (.x 4) (.c (.int 2147483647)))) (.c (.int 593))) (.c (.int 2147483647)))] k' fQ (st.put 4 (.val v))) (l.map .int) K ⟨[x0,x1,x2,.val (.int s),x4,x5],mu⟩):=by
 induction l with
 |nil=>exact fun{s x4} h0 h1 hk=>wq (hk s x4 h0 h1)
 |cons v l ih=>exact fun{s x4} h0 h1 hk=>wa (p:=small _/\small 48271) ⟨eN h0 (Kz (K5 h1) (by decide)),by decide⟩ (ai 2 (wq (ih (s:=(s*48271+v % 2147483647+593) % 2147483647) (x4:=.val (.int v)) (Int.emod_nonneg _ (by decide)) (Int.emod_lt_of_pos _ (by decide)) hk)))
theorem zP(n:Nat):cB n 48=min 48 n:=by
 show(max 0 (min (48:Int) (n:Int))).toNat=min 48 n
 rcases Nat.le_total 48 n with h|h
 ·rw[Int.min_eq_left (show(48:Int)<=(n:Int)from Int.ofNat_le.mpr h),Nat.min_eq_left h];rfl
 ·rw[Int.min_eq_right (show(n:Int)<=(48:Int)from Int.ofNat_le.mpr h),Nat.min_eq_right h,Int.max_eq_right (Lu n)];rfl
theorem t98(R:ac W){script:List Int}(hl:script.length<=63)(hn:1<=n)(hk:∀b' mu',Bx b' 0 mu'->kv (.obj b') mu'):W n (.fn 98) [.lst (script.map .int)] mu kv ke:=by
 have ec:cut (script.map V.int) Option.none (some 48)=(script.take 48).map V.int:=by
  show((script.map V.int).drop 0).take (cB (script.map V.int).length 48)=_
  rw[zP,List.drop_zero,List.map_take]
  exact List.take_eq_take_min.symm
 have hc:(script.take 48).length<=48:=List.length_take_le 48 script
 have main:∀(cs:List Int) (g:Int),cs.length<=48->0<=g->wP (W (n - 1)) (aS (w7.drop 3) (ax kv) (aG ke) ⟨[.val (.lst (script.map .int)),.val (.lst (cs.map .int)),.val (.int g),.unset,.unset,.unset],mu⟩):=fun cs g hc hg=>
  wq (CH (mu:=mu) (x0:=.val (.lst (script.map .int))) (x1:=.val (.lst (cs.map .int))) (x2:=.val (.int g)) (l:=cs) (K:=kJ (ax kv) fun st=>aS (w7.drop 5) (ax kv) (aG ke) st) (s:=1) (x4:=.unset) (x5:=.unset) (by decide) (by decide) fun s x4 s0 s1=>wk (hk mu.length (mu++[.lst [.lst (cs.map .int),.int g,.int s,.int 0]]) ⟨cs,g,s,0,cX _ _,hc,hg,⟨s0,s1⟩,JL _⟩))
 refine R.go 98 5 hn rfl (wa (p:=(script.map V.int).length<=lim) (aM (aB hl) rfl) ?_)
 generalize script.take 48=cs at ec hc
 refine aw 0 (t':=.ask ((cut (script.map V.int) Option.none (some 48)).length<=lim) (bF (cF (.call (.c (.bi .int)) [(.x 5)]) 5 []) (cut (script.map V.int) Option.none (some 48)) [] (fun v st'=>aS (w7.drop 1) (ax kv) (aG ke) ⟨[.val (.lst (script.map .int)),.val v,.unset,.unset,.unset,.unset],st'.mu⟩) ⟨[.val (.lst (script.map .int)),.unset,.unset,.unset,.unset,.unset],mu⟩)) ?_ (by kernel_rfl)
 rw[ec]
 refine wa (p:=(cs.map V.int).length<=lim) (aM (aB hc) rfl) (wq (fM (f:=V.int) (h:=V.int) (l:=cs) (x:=5) (acc:=[]) (e:=.call (.c (.bi .int)) [(.x 5)]) (k:=fun v st'=>aS (w7.drop 1) (ax kv) (aG ke) ⟨[.val (.lst (script.map .int)),.val v,.unset,.unset,.unset,.unset],st'.mu⟩) (st:=⟨[.val (.lst (script.map .int)),.unset,.unset,.unset,.unset,.unset],mu⟩) (JI rfl) (fun a ha K hK=>wq hK) fun lv=>?_))
 cases cs with
 |nil=>exact ai 1 (aw 1 (main [] 0 (by decide) (by decide)) (by kernel_rfl))
 |cons a r=>
  have l1:((a::r).map V.int).length<=lim:=aM (aB hc) rfl
  refine wa l1 (ai 1 ?_)
  cases hg:decide ((10:Int)^15<=a.natAbs)with
  |true=>exact wt hg (ai 3 (wq (main (a::r) _ hc (Int.emod_nonneg ((a.natAbs:Int) / 2) (by decide:(10:Int)^260≠0)))))
  |false=>exact wt hg (wq (main (a::r) 0 hc (by decide)))
end
section
variable {k:Nat}
theorem lq{B N:Nat}{l:List (List Nat)}(h:∀s∈l,s.length<=B)(hN:l.length<=N):(dh l).length<=N*(B+1):=
 JH (cy _ _) (JH (cL (a:=B) fun s hs=>h s (La.mp hs).1) (KY _ (JH (List.length_filter_le (fun s:List Nat=> !s.isEmpty) l) hN)))
theorem iO.tl(f:iO)(h:f.ok):∀s∈f.texts,s.length<=5100:=by
 obtain⟨h1,h2,h3,h4,h5⟩:=h
 have q:All (fun s:List Nat=>s.length<=5100) f.texts:=⟨by decide,JH f.c.len (JH h1 (by decide)),by decide,JH (fN h4) (by decide),JH u5 (JH (JM (Kh 9 h5) 5) (by decide)),by decide,trivial⟩
 exact fun s m=>q.mem m
theorem ao.at{N:V}{T S S':List Tk}{r:Nat}(e:S=S')(h:ao N T r S mu):ao N T r S' mu:=e▸h
theorem AU(R:ac W)(e:Ev)(h:e.ok)(g:e.good)(hn:100<=n)(hk:∀mu',im mu mu'->kv e.enc mu'):W n (.fn 111) [.str (dh e.texts),.fn 97] mu kv ke:=
 t111 R (v:=e.enc) (JH (lq (Ev.tl h) (Ev.tn h)) (by decide)) (fun z=>Kr _ _ ((Ev.tk_eq e).symm.trans z)) hn (fun h0 hk=>t97 R e g (lv hn) (h0.at (Ev.tk_eq e)) hk) hk
theorem FE(R:ac W)(f:iO)(h:f.ok)(hp:f.c.pl)(hn:100<=n)(hk:∀mu',im mu mu'->kv f.enc mu'):W n (.fn 111) [.str (dh f.texts),.fn 92] mu kv ke:=
 t111 R (v:=f.enc) (JH (lq (f.tl h) (N:=6) (JL 6)) (by decide)) (fun z=>Kr _ _ ((iO.tk_eq f).symm.trans z)) hn (fun h0 hk=>t92 R f h hp (lv hn) (h0.at (iO.tk_eq f)) hk) hk
end
section
variable {k:Nat}
def PD(d:Nat)(v:V):Prop:=plain v=true/\AN v<=d
theorem PD.up{d e:Nat}{v:V}(h:PD d v)(q:d<=e):PD e v:=⟨h.1,JH h.2 q⟩
theorem PDs{d:Nat}{l:List V}(h:∀v∈l,PD d v):eR l=true/\j2 l<=d:=by
 induction l with
 |nil=>exact⟨rfl,KD _⟩
 |cons v l ih=>
  have h1:=h v (.head _)
  have h2:=ih fun w hw=>h w (.tail _ hw)
  exact⟨JP.mpr ⟨h1.1,h2.1⟩,Nat.max_le.mpr ⟨h1.2,h2.2⟩⟩
theorem PD.tup{d:Nat}{l:List V}(h:∀v∈l,PD d v):PD (d+1) (.tup l):=⟨(PDs h).1,JW (PDs h).2⟩
theorem PD.str{d:Nat}{s:List Nat}:PD d (.str s):=⟨rfl,KD _⟩
theorem PD.int{d:Nat}{s:Int}:PD d (.int s):=⟨rfl,KD _⟩
theorem PD.bool{d:Nat}{s:Bool}:PD d (.bool s):=⟨rfl,KD _⟩
theorem PD.bytes{d:Nat}{s:List Nat}:PD d (.bytes s):=⟨rfl,KD _⟩
theorem PD.none{d:Nat}:PD d .none:=⟨rfl,KD _⟩
theorem PD.one{d:Nat}{a:V}(h:PD d a):∀v∈[a],PD d v:=fun v hv=>All.mem (l:=[a]) ⟨h,trivial⟩ hv
theorem PD.two{d:Nat}{a b:V}(h:PD d a)(h2:PD d b):∀v∈[a,b],PD d v:=fun v hv=>All.mem (l:=[a,b]) ⟨h,h2,trivial⟩ hv
theorem PD.thr{d:Nat}{a b c:V}(h:PD d a)(h2:PD d b)(h3:PD d c):∀v∈[a,b,c],PD d v:=fun v hv=>All.mem (l:=[a,b,c]) ⟨h,h2,h3,trivial⟩ hv
theorem PD.fou{d:Nat}{a b c e:V}(h:PD d a)(h2:PD d b)(h3:PD d c)(h4:PD d e):∀v∈[a,b,c,e],PD d v:=fun v hv=>All.mem (l:=[a,b,c,e]) ⟨h,h2,h3,h4,trivial⟩ hv
theorem PD.fiv{d:Nat}{a b c e f:V}(h:PD d a)(h2:PD d b)(h3:PD d c)(h4:PD d e)(h5:PD d f):∀v∈[a,b,c,e,f],PD d v:=fun v hv=>All.mem (l:=[a,b,c,e,f]) ⟨h,h2,h3,h4,h5,trivial⟩ hv
theorem PD.map{α:Type}{d:Nat}{f:α->V}{l:List α}(h:∀a∈l,PD d (f a)):∀v∈l.map f,PD d v:=by
 intro v hv
 obtain⟨a,ha,rfl⟩:=J5.mp hv
 exact h a ha
theorem uR{d:Nat}{nm:List Nat}{q:List i0}{sub:List V}{part:V}(hs:∀v∈sub,PD d v)(hp:PD (d+1) part):PD (d+2) (uQ nm q sub part):=
 .tup (.fiv .str .str (.tup (.map fun _ _=>.str)) (.tup hs) hp)
theorem Nu.PD(x:Nu):PD 2 x.enc:=.tup (.two .str (.tup (.two .int .int)))
theorem Sub.PD(x:Sub):PD 2 x.enc:=by
 cases x with
 |num n _ _ _=>exact n.PD
 |I=>exact uR (fun v hv=>absurd hv Kk) .none
theorem B2:∀p,PD 3 (fV p)
 | .none=>.none
 |some (b,.none)=>.tup (.two b.PD .none)
 |some (b,some l)=>.tup (.two b.PD l.PD)
theorem Rf.PD(r:Rf):PD 4 r.enc:=uR (.map fun a _=>a.PD) (B2 _)
theorem Op.PD(o:Op):PD 4 o.enc:=by
 cases o with
 |rf r=>exact r.PD
 |nu n=>exact n.PD.up (by decide)
 |tx t _=>exact .tup (.two .str .bytes)
 |fg a _ _=>exact .tup (.two .str .str)
 |al t _=>exact .tup (.two .str .bytes)
theorem yR:PD 3 nS:=(uR (d:=0) (fun v hv=>absurd hv Kk) .none).up (by decide)
theorem Ex.PD(e:Ex):PD 6 e.enc:=by
 cases e with
 |op o=>exact o.PD.up (by decide)
 |add a b=>exact(PD.tup (.thr .str a.PD b.PD)).up (by decide)
 |mul a=>exact(PD.tup (.thr .str a.PD (.tup (.two .str yR)))).up (by decide)
 |sub a b=>exact .tup (.thr .str (a.PD.up (by decide)) (.tup (.thr .str b.PD a.PD)))
theorem Cd.PD(c:Cd):PD (7+c.ht) c.enc:=by
 induction c with
 |rel s _ a b=>exact .tup (.fou .str .str a.PD (b.PD.up (by decide)))
 |cls s _ r=>exact .tup (.thr .str .str (r.PD.up (by decide)))
 |sgn s _ a=>exact .tup (.thr .str .str a.PD)
 |named q=>exact .tup (.two .str ((bj q).PD.up (by decide)))
 |not c ih=>exact .tup (.two .str ih)
 |and a b ih jh=>exact PD.tup (d:=7+max a.ht b.ht) (.thr .str (ih.up (JM (KT _ _) 7)) (jh.up (JM (K8 _ _) 7)))
 |or a b ih jh=>exact PD.tup (d:=7+max a.ht b.ht) (.thr .str (ih.up (JM (KT _ _) 7)) (jh.up (JM (K8 _ _) 7)))
theorem Pt.PD(p:Pt)(h:p.ok):PD 11 p.enc:=by
 cases p with
 |any|yes|no=>exact .tup (.one .str)
 |truth c=>exact(PD.tup (.two .str c.PD)).up (JW (JM h.2 7))
 |worth e=>exact(PD.tup (.two .str e.PD)).up (by decide)
 |is e q=>exact(PD.tup (.thr .str e.PD .bool)).up (by decide)
 |thru a b q=>exact(PD.tup (.fou .str a.PD b.PD .bool)).up (by decide)
theorem mZ(l:List S1):PD 2 (b8 l):=.tup (.map fun s _=>by cases s<;>exact .tup (.one .str))
theorem Ev.PD(e:Ev)(h:e.ok):PD 16 e.enc:=
 .tup (.fou .str ((PD.tup (.map fun p hp=>p.PD (h.s p hp))).up (by decide)) (.tup (.map fun w hw=>.tup (.two (.tup (.map fun r hr=>.tup (.map fun p hp=>p.PD (((h.w w hw).r r hr).1 p hp)))) ((mZ _).up (by decide))))) ((mZ _).up (by decide)))
theorem iO.PD(f:iO)(h:f.ok):PD 11 f.enc:=by
 exact .tup (.fou .str (f.c.PD.up (JM h.c2 7)) ((mZ _).up (by decide)) ((mZ _).up (by decide)))
end
section
variable {k:Nat}
theorem PD.self{d:Nat}{l:List V}(h:PD d (.tup l))(hd:d<=101):l=l/\eR l=true/\j2 l<=100:=
 ⟨rfl,h.1,KJ (JH h.2 hd)⟩
theorem im.trans{a b c:List aa}(h:im a b)(g:im b c):im a c:=
 ⟨JH h.len g.len,fun j hj=>(g.at_ j (Ka hj h.len)).trans (h.at_ j hj)⟩
theorem im.add(mu:List aa)(x:aa):im mu (mu++[x]):=⟨JU▸JV _ _,fun j hj=>J6 hj⟩
theorem im.bx{mu mu':List aa}(h:im mu mu')(q:Bx b k mu):Bx b k mu':=by
 obtain⟨cs,g,s,p,h1,h2⟩:=q
 exact⟨cs,g,s,p,(h.at_ b (ib h1)).trans h1,h2⟩
noncomputable def wA:Rf:=⟨⟨[65],by decide⟩,[],[],none,by decide,by decide⟩
noncomputable def w1:Ex:=.op (.nu ⟨1,0,false,[49],by decide⟩)
noncomputable def w3:Ex:=.op (.nu ⟨-3,0,true,[51],by decide⟩)
noncomputable def wE:Ev:=⟨[.worth (.op (.rf wA)),.yes],[⟨[[.thru w1 w3 true,.any],[.is w1 true,.no]],[.exi]⟩],[.con]⟩
noncomputable def wI(s:List Nat)(h:dO s)(y e:List S1):iO:=⟨.rel s h (.op (.rf wA)) (.nu ⟨1,0,false,[49],by decide⟩),y,e⟩
theorem tQ:wE.ok:=by
 refine⟨fun p hp=>?_,by decide,fun w hw=>?_,by decide,by decide⟩
 ·exact All.mem (P:=Pt.ok) (l:=[Pt.worth (.op (.rf wA)),.yes]) ⟨trivial,trivial,trivial⟩ hp
 ·rw[Kb.mp hw]
  exact⟨fun r hr=>All.mem (P:=fun r:List Pt=>(∀p∈r,p.ok)/\r.length<=2) (l:=[[Pt.thru w1 w3 true,.any],[.is w1 true,.no]]) ⟨⟨fun p hp=>All.mem (P:=Pt.ok) (l:=[.thru w1 w3 true,.any]) ⟨trivial,trivial,trivial⟩ hp,by decide⟩,⟨fun p hp=>All.mem (P:=Pt.ok) (l:=[.is w1 true,.no]) ⟨trivial,trivial,trivial⟩ hp,by decide⟩,trivial⟩ hr,by decide,Kr _ _,by decide⟩
theorem yh:wE.good:=by
 refine⟨Kr _ _,by decide,fun s hs=>?_,Kr _ _,by decide,fun w hw=>?_,by decide⟩
 ·exact All.mem (P:=dN) (l:=[Pt.worth (.op (.rf wA)),.yes]) ⟨rfl,trivial,trivial⟩ hs
 ·rw[Kb.mp hw]
  exact⟨Kr _ _,by decide,Kr _ _,by decide,fun l hl=>All.mem (P:=fun l:List Pt=>l.length=2/\∀q∈[Pt.worth (.op (.rf wA)),.yes].zip l,ny q.1 q.2/\q.2.ok) (l:=[[Pt.thru w1 w3 true,.any],[.is w1 true,.no]]) ⟨⟨rfl,fun q hq=>All.mem (P:=fun q:Pt×Pt=>ny q.1 q.2/\q.2.ok) (l:=[(.worth (.op (.rf wA)),.thru w1 w3 true),(.yes,.any)]) ⟨⟨trivial,trivial⟩,⟨trivial,trivial⟩,trivial⟩ hq⟩,⟨rfl,fun q hq=>All.mem (P:=fun q:Pt×Pt=>ny q.1 q.2/\q.2.ok) (l:=[(.worth (.op (.rf wA)),.is w1 true),(.yes,.no)]) ⟨⟨trivial,trivial⟩,⟨trivial,trivial⟩,trivial⟩ hq⟩,trivial⟩ hl⟩
theorem GN(R:ac W)(c:Cd)(h1:c.bd<=5000)(h2:c.ht<=3)(hn:26<=n)(hk:ke 2 (mu++[.dead])):W n (.fn 63) [iO.enc ⟨c,[],[]⟩,.fn 104] mu kv ke:=
 R.go 63 1 (lw hn) rfl (ai 1 (wc (mu:=mu) (GR R c.sz c (JL _) (JH h1 (by decide)) (JH (J3 (Kh 2 h2) 18) (lv hn rfl:24<=n - 1)) (wc (mu:=mu) (GO R (lv hn) (wk hk))))))
noncomputable def Ic:List Nat:=[69,86,65,76,85,65,84,69,32,65,32,65,76,83,79,32,84,82,85,69,32,87,72,69,78,32,78,79,84,32,49,32,84,72,82,85,32,45,51,32,65,76,83,79,32,65,78,89,32,87,72,69,78,32,78,79,84,32,49,32,65,76,83,79,32,70,65,76,83,69,32,69,88,73,84,32,87,72,69,78,32,79,84,72,69,82,32,67,79,78,84,73,78,85,69,32,69,78,68,45,69,86,65,76,85,65,84,69]
theorem yg:dh wE.texts=Ic:=by decide+kernel
theorem yf:dh (wI [60,62] (by decide) [.exi] [.con]).texts=[73,70,32,65,32,78,79,84,32,61,32,49,32,84,72,69,78,32,69,88,73,84,32,69,76,83,69,32,67,79,78,84,73,78,85,69,32,69,78,68,45,73,70]:=by decide+kernel
theorem G8(R:ac W)(hn:101<=n)(hk:∀mu',im mu mu'->kv (.bool true) mu'):W n (.fn 112) [] mu kv ke:=by
 refine R.go 112 5 (lw hn) rfl (wc (mu:=mu) (t66 R wE tQ (lv hn) ?_))
 rw[yg]
 refine wc (l:=[.str (dh wE.texts),.fn 97]) (mu:=mu) (AU R wE tQ yh (lv hn) fun mu1 g1=>?_)
 refine wa ((wE.PD tQ).self (by decide)) (wc (mu:=mu1) (t63 R (wI [60,62] (by decide) [.exi] [.con]) ⟨by decide,by decide,Kr _ _,by decide,by decide⟩ (lv hn) ?_))
 rw[yf]
 exact wc (mu:=mu1) (GN R (.rel [61] (by decide) (.op (.rf wA)) (.nu ⟨1,0,false,[49],by decide⟩)) (by decide) (by decide) (lv hn) (wk (hk (mu1++[.dead]) (g1.trans (im.add _ _)))))
end
section
variable {k:Nat}
theorem G7(R:ac W){script:List Int}(hl:script.length<=63)(hn:110<=n)(hk:∀mu',kv (.bool true) mu'):W n (.fn 113) [.lst (script.map .int)] mu kv ke:=by
 refine R.go 113 3 (lw hn) rfl (wc (mu:=mu) (t98 R hl (lv hn) fun b mu1 h1=>wc (mu:=mu1) (G8 R (lv hn) fun mu2 g2=>?_)))
 have h2:=g2.bx h1
 refine wc (G9 R h2 (by decide) (lv hn) fun e mu3 ok good h3 _=>wc (mu:=mu3) (t66 R e ok (lv hn) (wc (mu:=mu3) (AU R e ok good (lv hn) fun mu4 g4=>?_))))
 have h4:=g4.bx h3
 refine wa ((e.PD ok).self (by decide)) (wc (Bv R 2 h4 (by decide) (lv hn) fun c mu5 hp hh hb h5 _=>wc (yr R h5 (by decide) (lv hn) fun y mu6 y0 yl h6 _=>wc (bf R h6 (by decide) 2 (by decide) (by decide) (lv hn) fun u mu7 hu h7 _=>?_))))
 have fin:∀(o:List S1) (mu8:List aa),o.length<=3->wP (W (n - 1)) (aS (AV.drop 5) (ax kv) (aG ke) ⟨[.val (.lst (script.map .int)),.val (.obj b),.val e.enc,.val (iO.enc ⟨c,y,o⟩)],mu8⟩):=fun o mu8 ol=>by
  have ok:iO.ok ⟨c,y,o⟩:=⟨JH hb (by decide),JH hh (by decide),y0,yl,ol⟩
  exact wc (mu:=mu8) (t63 R ⟨c,y,o⟩ ok (lv hn) (wc (mu:=mu8) (FE R ⟨c,y,o⟩ ok hp (lv hn) fun mu9 _=>wa ((iO.PD ⟨c,y,o⟩ ok).self (by decide)) (wk (hk mu9)))))
 rcases As hu with rfl|rfl
 ·exact wc (yr R h7 (by decide) (lv hn) fun o mu8 o0 ol h8 _=>wq (fin o mu8 ol))
 ·exact aw 1 (fin [] mu7 (by decide)) (by kernel_rfl)
end
end
section
open PySem PySem.Spec PySem.Calls PyProof.Rows PySem.W
section
noncomputable def dA:Nat->Mt
 |0=>295
 |1=>477
 |_=>0
theorem aF{l:List Bool}(h:eA l=true)(i:Nat){b:Bool}(e:l[i]? =some b):b=true:=Km.mp h b (List.mem_of_getElem? e)
theorem bu{l:List Bool}(h:eA l=true)(i:Nat){p:Prop}[Decidable p](e:l[i]? =some (decide p)):p:=JN (aF h i e)
theorem bG{A R:Type}{x:A->Nat}{k:Nat}{e:A}{f:x e=k->R}{r:R}(h:na x k e f=some r):∃q,f q=r:=by
 unfold na at h
 by_cases q:x e=k
 ·rw[dif_pos q]at h;cases h;exact⟨q,rfl⟩
 ·rw[dif_neg q]at h;cases h
noncomputable def Hj(s:Stmt):Option Mq:=FX 3 s fun h=>Stmt.Return.elim (motive_2:=fun _=>Option Mq) s h fun e _=>e
noncomputable def ifS(s:Stmt):Option (List Stmt):=FX 12 s fun h=>Stmt.If.elim (motive_2:=fun _=>Option (List Stmt)) s h fun _ b _ _=>some b
noncomputable def pZ(e:Mq)(h:e.ctorIdx=23):Str×Pos:=Expr.Name.elim (motive_1:=fun _=>Str×Pos) e h fun a p=>(a,p)
noncomputable def qp(e:Mq):Option (Str×Pos):=na PySem.Expr.ctorIdx 23 e (pZ e)
theorem lI{e:Mq}{r:Str×Pos}(h:qp e=some r):e=.Name r.1 r.2:=by
 obtain⟨q,rfl⟩:=bG h
 exact Expr.Name.elim (motive_1:=fun e=>∀q,e=.Name ((pZ e q).1) ((pZ e q).2)) e q (fun _ _ _=>rfl) q
theorem kj{e:Mq}{r:Const×Nat×Pos}(h:jk e=some r):e=.Constant r.1 r.2.1 r.2.2:=by
 obtain⟨q,rfl⟩:=bG h
 exact Expr.Constant.elim (motive_1:=fun e=>∀q,e=.Constant ((jg e q).1) ((jg e q).2.1) ((jg e q).2.2)) e q (fun _ _ _ _=>rfl) q
noncomputable def mP(e:Mq)(h:e.ctorIdx=20):Mq×Str×Pos:=Expr.Attribute.elim (motive_1:=fun _=>Mq×Str×Pos) e h fun a n p=>(a,n,p)
noncomputable def nc(e:Mq):Option (Mq×Str×Pos):=na PySem.Expr.ctorIdx 20 e (mP e)
theorem lK{e:Mq}{r:Mq×Str×Pos}(h:nc e=some r):e=.Attribute r.1 r.2.1 r.2.2:=by
 obtain⟨q,rfl⟩:=bG h
 exact Expr.Attribute.elim (motive_1:=fun e=>∀q,e=.Attribute ((mP e q).1) ((mP e q).2.1) ((mP e q).2.2)) e q (fun _ _ _ _=>rfl) q
noncomputable def ot(e:Mq)(h:e.ctorIdx=2):Mq×Operator×Mq×Pos:=Expr.BinOp.elim (motive_1:=fun _=>Mq×Operator×Mq×Pos) e h fun a o b p=>(a,o,b,p)
noncomputable def xt(e:Mq):Option (Mq×Operator×Mq×Pos):=na PySem.Expr.ctorIdx 2 e (ot e)
theorem o7{e:Mq}{r:Mq×Operator×Mq×Pos}(h:xt e=some r):e=.BinOp r.1 r.2.1 r.2.2.1 r.2.2.2:=by
 obtain⟨q,rfl⟩:=bG h
 exact Expr.BinOp.elim (motive_1:=fun e=>∀q,e=.BinOp ((ot e q).1) ((ot e q).2.1) ((ot e q).2.2.1) ((ot e q).2.2.2)) e q (fun _ _ _ _ _=>rfl) q
noncomputable def oq(e:Mq)(h:e.ctorIdx=15):Mq×List CmpOp×List Mq×Pos:=Expr.Compare.elim (motive_1:=fun _=>Mq×List CmpOp×List Mq×Pos) e h fun a o b p=>(a,o,b,p)
noncomputable def xr(e:Mq):Option (Mq×List CmpOp×List Mq×Pos):=na PySem.Expr.ctorIdx 15 e (oq e)
theorem oZ{e:Mq}{r:Mq×List CmpOp×List Mq×Pos}(h:xr e=some r):e=.Compare r.1 r.2.1 r.2.2.1 r.2.2.2:=by
 obtain⟨q,rfl⟩:=bG h
 exact Expr.Compare.elim (motive_1:=fun e=>∀q,e=.Compare ((oq e q).1) ((oq e q).2.1) ((oq e q).2.2.1) ((oq e q).2.2.2)) e q (fun _ _ _ _ _=>rfl) q
noncomputable def jQ(e:Mq)(h:e.ctorIdx=16):Mq×List Mq×List Keyword×Pos:=Expr.Call.elim (motive_1:=fun _=>Mq×List Mq×List Keyword×Pos) e h fun f l k p=>(f,l,k,p)
noncomputable def kl(e:Mq):Option (Mq×List Mq×List Keyword×Pos):=na PySem.Expr.ctorIdx 16 e (jQ e)
theorem lJ{e:Mq}{r:Mq×List Mq×List Keyword×Pos}(h:kl e=some r):e=.Call r.1 r.2.1 r.2.2.1 r.2.2.2:=by
 obtain⟨q,rfl⟩:=bG h
 exact Expr.Call.elim (motive_1:=fun e=>∀q,e=.Call ((jQ e q).1) ((jQ e q).2.1) ((jQ e q).2.2.1) ((jQ e q).2.2.2)) e q (fun _ _ _ _ _=>rfl) q
noncomputable def oo(e:Mq)(h:e.ctorIdx=4):Arguments×Mq×Scope×Pos:=Expr.Lambda.elim (motive_1:=fun _=>Arguments×Mq×Scope×Pos) e h fun a b s p=>(a,b,s,p)
noncomputable def xm(e:Mq):Option (Arguments×Mq×Scope×Pos):=na PySem.Expr.ctorIdx 4 e (oo e)
theorem xl{e:Mq}{r:Arguments×Mq×Scope×Pos}(h:xm e=some r):e=.Lambda r.1 r.2.1 r.2.2.1 r.2.2.2:=by
 obtain⟨q,rfl⟩:=bG h
 exact Expr.Lambda.elim (motive_1:=fun e=>∀q,e=.Lambda ((oo e q).1) ((oo e q).2.1) ((oo e q).2.2.1) ((oo e q).2.2.2)) e q (fun _ _ _ _ _=>rfl) q
noncomputable def FY(i:Nat)(e:Mq):Option Mq:=(kl e).bind fun r=>r.2.1[i]?
noncomputable def Ak(i:Nat)(b:List Stmt):Option Mq:=((b[i]?).bind ifS).bind fun b=>(b[0]?).bind Hj
noncomputable def zw:Nat->Option Mq
 |0=>(fk prog0 46 none).bind fun x=>(Ak 1 x.2.1).bind (FY 1)
 |1=>(fk prog0 65 none).bind fun x=>(Ak 0 x.2.1).bind fun e=>(kl e).bind fun r=>(nc r.1).bind fun r=>FY 1 r.1
 |_=>none
noncomputable def vE(i:Nat):Arguments×Mq×Scope×Pos:=((zw i).bind xm).getD (⟨[],[],none,[],[],none,[]⟩,.Constant .none 0 ⟨0,0,0,0⟩,⟨.function,[],false,false,[]⟩,⟨0,0,0,0⟩)
noncomputable def eZ(i:Nat):F9:=⟨(vE i).1,(vE i).2.1,(vE i).2.2.1,cE i++"<lambda>",((vE i).2.2.1.names.filter (·.2== .free)).map (·.1)⟩
noncomputable def E5(i:Nat):Pos:=(vE i).2.2.2
theorem fD{α:Type}{k:α->α->Bool}{u v:Option α}(h:pJ k u v=true):∃x y,u=some x/\v=some y/\k x y=true:=by
 cases u with
 |none=>cases h
 |some x=>cases v with
  |none=>cases h
  |some y=>exact⟨x,y,rfl,rfl,h⟩
theorem aX{a b:Bool}(h:(a&&b)=true):a=true/\b=true:=JP.mp h
noncomputable def Da(a b:Mq):Bool:=pJ (fun x y=>decide (x=y)) (qp a) (qp b)||pJ (fun x y=>decide (x=y)) (jk a) (jk b)
theorem ig{a b:Mq}(h:Da a b=true):a=b:=by
 rcases KH.mp h with h|h
 ·obtain⟨x,y,h1,h2,h3⟩:=fD h
  exact(lI h1).trans (JN h3▸(lI h2).symm)
 ·obtain⟨x,y,h1,h2,h3⟩:=fD h
  exact(kj h1).trans (JN h3▸(kj h2).symm)
noncomputable def eqA(x y:Mq×Str×Pos):Bool:=Da x.1 y.1&&decide (x.2=y.2)
noncomputable def eqB(x y:Mq×Operator×Mq×Pos):Bool:=Da x.1 y.1&&(decide (x.2.1=y.2.1)&&(Da x.2.2.1 y.2.2.1&&decide (x.2.2.2=y.2.2.2)))
noncomputable def HX(a b:Mq):Bool:=Da a b||(pJ eqA (nc a) (nc b)||pJ eqB (xt a) (xt b))
theorem wo{a b:Mq}(h:HX a b=true):a=b:=by
 rcases KH.mp h with h|h
 ·exact ig h
 rcases KH.mp h with h|h
 ·obtain⟨x,y,h1,h2,h3⟩:=fD h
  rw[lK h1,lK h2,ig (aX h3).1,JN (aX h3).2]
 ·obtain⟨x,y,h1,h2,h3⟩:=fD h
  obtain⟨h3,h4⟩:=aX h3
  obtain⟨h4,h5⟩:=aX h4
  obtain⟨h5,h6⟩:=aX h5
  rw[o7 h1,o7 h2,ig h3,JN h4,ig h5,JN h6]
theorem allZ_rec{α β:Type}{f:α->β->Bool}{P:List α->List β->Prop}(z:P [] [])(c:∀a b l m,f a b=true->P l m->P (a::l) (b::m)){l:List α}{m:List β}(h:o8 f l m=true):P l m:=by
 induction l generalizing m with
 |nil=>cases m with
  |nil=>exact z
  |cons b m=>cases h
 |cons a l ih=>cases m with
  |nil=>cases h
  |cons b m=>exact c a b l m (aX h).1 (ih (aX h).2)
theorem qc{α:Type}{f:α->α->Bool}(hf:∀{a b},f a b=true->a=b){l m:List α}(h:o8 f l m=true):l=m:=
 allZ_rec (P:=Eq) rfl (fun _ _ _ _ h i=>congr (congrArg List.cons (hf h)) i) h
noncomputable def eqC(x y:Mq×List Mq×List Keyword×Pos):Bool:=Da x.1 y.1&&(o8 HX x.2.1 y.2.1&&(x.2.2.1.isEmpty&&(y.2.2.1.isEmpty&&decide (x.2.2.2=y.2.2.2))))
noncomputable def eqM(x y:Mq×List CmpOp×List Mq×Pos):Bool:=Da x.1 y.1&&(decide (x.2.1=y.2.1)&&(o8 HX x.2.2.1 y.2.2.1&&decide (x.2.2.2=y.2.2.2)))
noncomputable def eq2(a b:Mq):Bool:=pJ eqC (kl a) (kl b)||pJ eqM (xr a) (xr b)
theorem C9{a b:Mq}(h:eq2 a b=true):a=b:=by
 rcases KH.mp h with h|h
 ·obtain⟨x,y,h1,h2,h3⟩:=fD h
  obtain⟨h3,h4⟩:=aX h3
  obtain⟨h4,h5⟩:=aX h4
  obtain⟨h5,h6⟩:=aX h5
  obtain⟨h6,h7⟩:=aX h6
  rw[lJ h1,lJ h2,ig h3,qc wo h4,Kl.mp h5,Kl.mp h6,JN h7]
 ·obtain⟨x,y,h1,h2,h3⟩:=fD h
  obtain⟨h3,h4⟩:=aX h3
  obtain⟨h4,h5⟩:=aX h4
  obtain⟨h5,h6⟩:=aX h5
  rw[oZ h1,oZ h2,ig h3,JN h4,qc wo h5,JN h6]
noncomputable def FC(n:Str)(p:Pos):Arg:=⟨n,none,p⟩
noncomputable def AK(a b:Arg):Bool:=(a.annotation.isNone&&b.annotation.isNone)&&(decide (a.arg=b.arg)&&decide (a.pos=b.pos))
theorem wm{a b:Arg}(h:AK a b=true):a=b:=by
 obtain⟨h1,h2⟩:=aX h
 obtain⟨h3,h4⟩:=aX h1
 obtain⟨h5,h6⟩:=aX h2
 obtain⟨n,o,p⟩:=a
 obtain⟨n',o',p'⟩:=b
 obtain rfl:o=none:=Option.isNone_iff_eq_none.mp h3
 obtain rfl:o'=none:=Option.isNone_iff_eq_none.mp h4
 exact congr (congrArg FC (JN h5)) (JN h6)
noncomputable def c9(a:Arguments):Bool:=eA [a.posonlyargs.isEmpty,a.vararg.isNone,a.kwonlyargs.isEmpty,a.kw_defaults.isEmpty,a.kwarg.isNone]
structure A7(a:Arguments):Prop where
 po:a.posonlyargs=[]
 va:a.vararg=none
 ko:a.kwonlyargs=[]
 kd:a.kw_defaults=[]
 kw:a.kwarg=none
theorem cN{a:Arguments}(h:c9 a=true):A7 a:=
 ⟨Kl.mp (aF h 0 rfl),Option.isNone_iff_eq_none.mp (aF h 1 rfl),Kl.mp (aF h 2 rfl),Kl.mp (aF h 3 rfl),Option.isNone_iff_eq_none.mp (aF h 4 rfl)⟩
noncomputable def mkA(l:List Arg):Arguments:=⟨[],l,none,[],[],none,[]⟩
theorem rR{a:Arguments}(h:A7 a)(d:a.defaults=[]):a=mkA a.args:=by
 obtain⟨p,l,v,ko,kd,kw,d⟩:=a
 obtain⟨rfl,rfl,rfl,rfl,rfl⟩:=h
 cases d;rfl
noncomputable def wj(a b:Arguments):Bool:=(c9 a&&c9 b)&&((a.defaults.isEmpty&&b.defaults.isEmpty)&&o8 AK a.args b.args)
theorem to{a b:Arguments}(h:wj a b=true):a=b/\a.kw_defaults=[]/\a.defaults=[]:=by
 obtain⟨h,h3⟩:=aX h
 obtain⟨h1,h2⟩:=aX h
 obtain⟨h3,h4⟩:=aX h3
 obtain⟨d1,d2⟩:=aX h3
 have e:=rR (cN h2) (Kl.mp d2)
 rw[←qc wm h4]at e
 exact⟨(rR (cN h1) (Kl.mp d1)).trans e.symm,(cN h1).kd,Kl.mp d1⟩
noncomputable def Hv(sc:Sc)(i:Nat)(caps:List Nat)(r:Arguments×Mq×Scope×Pos):List Bool:=[Nat.blt i 2,wj r.1 (eZ i).params,eq2 r.2.1 (eZ i).body,decide (r.2.2.1=(eZ i).scope),decide (r.2.2.2=E5 i),decide (sc.code=some (cG i,cE i)),
 decide (∃v∈sc.vis,v.cell=true/\caps=[v.slot]/\(eZ i).keeps=[v.name]/\r.2.2.1.names.filter (·.2== .free)=[(v.name,.free)])]
theorem aI{α:Type}{f:α->Bool}{u:Option α}(h:cV f u=true):∃x,u=some x/\f x=true:=by
 cases u with
 |none=>cases h
 |some x=>exact⟨x,rfl,h⟩
noncomputable def E6(sc:Sc)(e:Mq)(i:Nat)(caps:List Nat):Bool:=cV (fun r=>eA (Hv sc i caps r)) (xm e)
noncomputable def Gw:Ck:=⟨iD,E6⟩
noncomputable def qW(r:dm)(s:Scope):Sc:=
 ⟨r.slots.map fun x=>let c:=s.names.lookup x.1==some .cell;⟨x.1,x.2,c,c&&decide (r.npar<=x.2)⟩,(s.names.filter fun p=>s.names.lookup p.1==some .globalImplicit).map (·.1),if r.num=32 then some (cG 0,cE 0)else if r.num=55 then some (cG 1,cE 1)else none⟩
noncomputable def Hh(sc:Sc):Bool:=decide (∀x∈sc.vis,∀y∈sc.vis,(x.name=y.name∨x.slot=y.slot)->x=y)
theorem BP{sc:Sc}(h:Hh sc=true):sc.Ok:=by
 unfold Hh at h
 have:=JN h
 exact this
noncomputable def Eg(sc:Sc)(s:Scope)(ns cln:List Str):List Bool:=[decide (s.kind=.function),decide (∀x∈sc.vis,ns[x.slot]? =none∨ns[x.slot]? =some x.name),decide (∀x∈sc.vis,ns.length<=x.slot->x.name∉ns),
 decide (∀x∈ns,s.names.lookup x=some .local∨(s.names.lookup x=some .cell/\cln=[]/\((cellsFrom 0 s.names []).lookup x).isSome=true)),
 decide (∀x∈sc.vis,if x.cell then(s.names.lookup x.name=some .cell/\cln=[]/\((cellsFrom 0 s.names []).lookup x.name).isSome=true)∨(s.names.lookup x.name=some .free/\x.name∈cln/\x.mine=false)else s.names.lookup x.name=some .local),
 decide (∀x∈sc.gl,s.names.lookup x=some .globalImplicit),decide (cln=[]∨∀x∈s.names,x.2≠ .cell),decide (s.isCoroutine=false),decide (s.isGenerator=false)]
noncomputable def qT(sc:Sc)(s:Scope)(ns cln:List Str):Bool:=eA (Eg sc s ns cln)
theorem ju{sc:Sc}{s:Scope}{ns cln:List Str}(h:qT sc s ns cln=true):xB sc s ns cln:=by
 refine⟨bu h 0 rfl,fun x hx y hy=>?_,bu h 2 rfl,bu h 3 rfl,bu h 4 rfl,bu h 5 rfl,bu h 6 rfl,bu h 7 rfl,bu h 8 rfl⟩
 exact(bu h 1 rfl x hx).elim (fun e=>nomatch e.symm.trans hy) fun e=>J9 (hy.symm.trans e)
noncomputable def Ei(r:dm)(x:Arguments×List Stmt×Scope):List Bool:=[c9 x.1,decide (x.1.args.map (·.arg)).Nodup,qT (qW r x.2.2) x.2.2 (x.1.args.map (·.arg)) [],Hh (qW r x.2.2),AP Gw r.body (qW r x.2.2) x.2.1,decide ((x.1.args.map (·.arg)).length=r.npar),decide (r.dflt.length<=r.npar)]
noncomputable def Ej(r:dm):Bool:=cV (fun x=>eA (Ei r x)) (fk prog0 r.top r.sub)
theorem sH:rows.all Ej=true:=by decide+kernel
end
end
section
open PySem PySem.Spec PySem.Calls PyProof.Rows PySem.W
theorem vL{o:Obj}{t:String}(h:Gv o t=true):o={cls:=.type t,data:=o.data}:=by
 simp only[Gv,LY,Mj,Option.isNone_iff_eq_none,Array.isEmpty_iff]at h
 obtain⟨c,d,x,s⟩:=o
 obtain⟨⟨rfl,rfl⟩,rfl⟩:=h
 rfl
theorem ow{a:Mr}{r:Int}(h:ox a=some r):∃t,a=.int r t:=by
 obtain⟨q,rfl⟩:=bG h
 exact Value.int.elim (motive:=fun a=>∀q,∃t,a=.int (AF a q) t) a q (fun _ _ _=>⟨_,rfl⟩) q
theorem fe{a:Mr}{r:Str}(h:iC a=some r):∃t,a=.str r t:=by
 obtain⟨q,rfl⟩:=bG h
 exact Value.str.elim (motive:=fun a=>∀q,∃t,a=.str (AD a q) t) a q (fun _ _ _=>⟨_,rfl⟩) q
theorem jU{a:Mr}{r:Mt}(h:rx a=some r):a=.ref r:=by
 obtain⟨q,rfl⟩:=bG h
 exact Value.ref.elim (motive:=fun a=>∀q,a=.ref (AE a q)) a q (fun _ _=>rfl) q
theorem vT{a:Data}{r:Array Mr×Nat}(h:AA a=some r):a=.seq r.1 r.2:=by
 obtain⟨q,rfl⟩:=bG h
 exact Data.seq.elim (motive:=fun a=>∀q,a=.seq (vX a q).1 (vX a q).2) a q (fun _ _ _=>rfl) q
theorem th{a:Data}{r:Array DictEntry×Nat}(h:mR a=some r):a=.dict r.1 r.2:=by
 obtain⟨q,rfl⟩:=bG h
 exact Data.dict.elim (motive:=fun a=>∀q,a=.dict (p6 a q).1 (p6 a q).2) a q (fun _ _ _=>rfl) q
theorem tf{a:Data}{r:FuncData}(h:vU a=some r):a=.func r:=by
 obtain⟨q,rfl⟩:=bG h
 exact Data.func.elim (motive:=fun a=>∀q,a=.func (vY a q)) a q (fun _ _=>rfl) q
theorem vW{a:Data}{r:ClassData}(h:AB a=some r):a=.cls r:=by
 obtain⟨q,rfl⟩:=bG h
 exact Data.cls.elim (motive:=fun a=>∀q,a=.cls (AG a q)) a q (fun _ _=>rfl) q
theorem lC{a:Data}{r:Array Mr}(h:p0 a=some r):a=.fields r:=by
 obtain⟨q,rfl⟩:=bG h
 exact Data.fields.elim (motive:=fun a=>∀q,a=.fields (vZ a q)) a q (fun _ _=>rfl) q
theorem vS{a:V}{r:List V}(h:Az a=some r):a=.tup r:=by
 obtain⟨q,rfl⟩:=bG h
 exact V.tup.elim (motive_1:=fun a=>∀q,a=.tup (AC a q)) a q (fun _ _=>rfl) q
theorem ry{a:V}{r:List (List Nat×V)}(h:vV a=some r):a=.dS r:=by
 obtain⟨q,rfl⟩:=bG h
 exact V.dS.elim (motive_1:=fun a=>∀q,a=.dS (Fg a q)) a q (fun _ _=>rfl) q
theorem fu{α β:Type}{x:Option α}{f:α->Option β}{b:β}(h:x.bind f=some b):∃a,x=some a/\f a=some b:=Ku.mp h
theorem zF{g:eD}{a:Mt}{fd:FuncData}(h:qa g a=some fd):∃o,g a=some o/\o.data=.func fd:=by
 obtain⟨o,e,q⟩:=fu h
 exact⟨o,e,tf q⟩
theorem nD{g:eD}{v:Mr}{l:List Mr}(h:tV g v=some l):∃a n,v=.ref a/\g a=some {cls:=.type "tuple",data:=.seq l.toArray n}:=by
 obtain⟨o,e,q⟩:=fu h
 obtain⟨a,e1,e2⟩:=fu e
 obtain⟨r,q1,q2⟩:=fu q
 obtain⟨ht,e3⟩:=Option.ite_none_right_eq_some.mp q2
 cases e3
 have:=vL ht
 rw[vT q1]at this
 exact⟨a,r.2,jU e1,by rw[e2,this]⟩
theorem wy{g:eD}{v:Mr}{l:List DictEntry}(h:lF g v=some l):∃a n,v=.ref a/\(a==sysModules)=false/\g a=some {cls:=.type "dict",data:=.dict l.toArray n}:=by
 obtain⟨a,e1,e⟩:=fu h
 obtain⟨o,e2,q⟩:=fu e
 obtain⟨r,q1,q2⟩:=fu q
 obtain⟨hq,e3⟩:=Option.ite_none_right_eq_some.mp q2
 obtain⟨ht,hs⟩:=aX hq
 cases e3
 have:=vL ht
 rw[th q1]at this
 exact⟨a,r.2,jU e1,(Bool.not_eq_true' _).mp hs,by rw[e2,this]⟩
section
variable {X:Cx} {g:eD} (hf:X.fnA=dM) (hc:X.clsA=bt) (hg:∀a o,g a=some o->X.B.get? a=some o)
theorem xD{x:Str}{s:List Nat}(h:(x.cps.toList==s)=true):x=ST s:=AY h
include hf hc in
theorem i9{v:V}{a:Mr}(h:uL v a=true):Rep X [] (fun _=>False) X.B v a:=by
 cases v<;>first|(cases h;done)|skip
 ·rw[show a=.none from JN h];exact .none
 ·rename_i b;rw[show a=.bool b from JN h];exact .bool _
 ·obtain⟨j,e,q⟩:=aI h
  obtain⟨t,rfl⟩:=ow e
  rw[JN q];exact .int _ _
 ·obtain⟨j,e,q⟩:=aI h
  obtain⟨t,rfl⟩:=fe e
  rw[xD q];exact .str _ _
 ·rename_i i;rw[show a=.ref (dM i)from JN h, ←hf];exact .fn _
 ·rename_i i;rw[show a=.ref (bt i)from JN h, ←hc];exact .cls _
 ·rename_i i;rw[show a=fZ i from JN h];exact .bi _
include hf hc in
theorem uK{l:List V}{m:List Mr}(h:Am l m=true):ag X [] (fun _=>False) X.B l m:=
 allZ_rec (P:=ag X [] (fun _=>False) X.B) .nil (fun _ _ _ _ h i=>.cons (i9 hf hc h) i) h
inductive xI(w:World)(l:List (List Nat×V))(es:List DictEntry):Prop
 |mk (a:∀e∈es,∃k,Value.isStrOf k e.key=true/\e.hash=hashStr w k) (b:∀k,(es.find? fun e=>Value.isStrOf (ST k) e.key).map (·.val)=dJ k ((l.map (·.1)).zip (es.map (·.val)))) (c:l.length=es.length)
theorem C1{x:List Nat}{e:DictEntry}{t:Tok}(hk:e.key=.str (ST x) t)(k:List Nat):Value.isStrOf (ST k) e.key=decide (x=k):=by
 rw[hk]
 show(ST x==ST k)=decide (x=k)
 by_cases q:x=k
 ·rw[q,Kt rfl];exact beq_self_eq_true _
 ·rw[Kg q];exact KA.mpr fun z=>q (by simpa[ST]using z)
theorem sJ{w:World}{l:List (List Nat×V)}{es:List DictEntry}(h:BV l es=true):es.map (·.hash)=l.map (fun p=>hashStr w (ST p.1))->xI w l es:=by
 refine allZ_rec (P:=fun l es=>es.map (·.hash)=l.map (fun p=>hashStr w (ST p.1))->xI w l es) (fun _=>⟨fun _ m=>nm m,fun _=>rfl,rfl⟩) (fun p e l es h ih hh=>?_) h
 obtain⟨q1,q2⟩:=List.cons.inj hh
 obtain⟨i1,i2,i3⟩:=ih q2
 obtain⟨x,e1,e2⟩:=aI (aX h).1
 obtain⟨t,hk⟩:=fe e1
 rw[xD e2]at hk
 have kk:=C1 hk
 refine⟨fun e' he'=>?_,fun k=>?_,congrArg Nat.succ i3⟩
 ·rcases JY.mp he' with rfl|he'
  ·exact⟨ST p.1,by rw[kk];exact Kt rfl,q1⟩
  ·exact i1 e' he'
 ·show((e::es).find? _).map _=if p.1=k then some e.val else dJ k ((l.map (·.1)).zip (es.map (·.val)))
  rw[List.find?_cons,kk]
  by_cases q:p.1=k
  ·rw[Kt q,if_pos q];rfl
  ·rw[Kg q,if_neg q];exact i2 k
include hf hc in
theorem sI{l:List (List Nat×V)}{es:List DictEntry}(h:BV l es=true):ag X [] (fun _=>False) X.B (l.map (·.2)) (es.map (·.val)):=by
 refine allZ_rec (P:=fun(l:List (List Nat×V)) (es:List DictEntry)=>ag X [] (fun _=>False) X.B (l.map (·.2)) (es.map (·.val))) .nil ?_ h
 exact fun _ _ _ _ h i=>.cons (i9 hf hc (aX h).2) i
theorem tL{α β:Type}(l:List (α×β)):(l.map (·.1)).zip (l.map (·.2))=l:=by
 induction l with
 |nil=>rfl
 |cons a l ih=>exact congrArg (List.cons a) ih
include hf hc hg in
theorem qY{v:V}{a:Mr}(h:BW g v a=true)(hh:∀l es,v=.dS l->lF g a=some es->es.map (·.hash)=l.map (fun p=>hashStr X.w (ST p.1))):Rep X [] (fun _=>False) X.B v a:=by
 rcases KH.mp h with h|h
 ·exact i9 hf hc h
 rcases KH.mp h with h|h
 ·obtain⟨l,hl,h'⟩:=aI h
  obtain⟨vs,hv,h2⟩:=aI h'
  obtain⟨b,n,rfl,e⟩:=nD hv
  rw[vS hl]
  exact .tup ⟨n,hg _ _ e⟩ id (uK hf hc h2)
 ·obtain⟨l,hl,h'⟩:=aI h
  obtain⟨es,hv,h2⟩:=aI h'
  obtain⟨b,n,rfl,e1,e2⟩:=wy hv
  obtain⟨q1,q2,q3⟩:=sJ (w:=X.w) h2 (hh l es (ry hl) hv)
  have:=Rep.dS (X:=X) (al:=[]) (F:=fun _=>False) (h:=X.B) (a:=b) (ks:=l.map (·.1)) (vs:=es.map (·.val)) (l:=l.map (·.2))
   ⟨e1,fun k=>(es.find? fun e=>Value.isStrOf k e.key).map (·.val),⟨_,es.toArray,n,hg _ _ e2,⟨rfl,rfl,rfl⟩,rfl,fun e he=>q1 e (by simpa using he),fun k=>by simp[findBy];rfl⟩,q2⟩ id (by rw[JQ,JQ,q3]) (sI hf hc h2)
  rw[tL]at this
  exact ry hl▸this
include hf hc hg in
theorem uJ{l:List V}{m:List Mr}(h:Al g l m=true):(∀v∈l,∀k,v≠ .dS k)->ag X [] (fun _=>False) X.B l m:=by
 refine allZ_rec (P:=fun l m=>(∀v∈l,∀k:List (List Nat×V),v≠ .dS k)->ag X [] (fun _=>False) X.B l m) (fun _=>.nil) ?_ h
 exact(fun _ _ _ _ h i hd=>.cons (qY hf hc hg h fun k _ e=>absurd e (hd _ (.head _) k)) (i fun v hv=>hd v (.tail _ hv)))
end
end
section
open PySem PySem.Spec PySem.Calls PyProof.Rows PySem.W
noncomputable def vG:Obj->Obj:=fun _=>{cls:=.none,data:=.freed}
noncomputable def iV(h:Heap):Heap:=(h.update 295 vG).update 477 vG
theorem oi(h:Heap)(a:Mt):(h.update a vG).get? a=none:=by
 unfold Heap.get? Heap.update
 simp only[Array.getElem?_modify,if_true]
 cases h.objs[a]? <;>rfl
theorem fo{h:Heap}{a:Mt}(h1:a≠295)(h2:a≠477):(iV h).get? a=h.get? a:=by
 unfold iV
 rw[Mc _ _ _ _ h2,Mc _ _ _ _ h1]
theorem oH(h:Heap):(iV h).get? 295=none:=by
 unfold iV
 rw[Mc _ _ _ _ (by decide)]
 exact oi h 295
theorem oG(h:Heap):(iV h).get? 477=none:=oi _ 477
theorem wz{h:Heap}{a:Mt}{o:Obj}(e:(iV h).get? a=some o):h.get? a=some o/\a≠295/\a≠477:=by
 have h1:a≠295:=by rintro rfl;rw[oH]at e;cases e
 have h2:a≠477:=by rintro rfl;rw[oG]at e;cases e
 exact⟨by rwa[fo h1 h2]at e,h1,h2⟩
theorem gb{g:eD}:∀{l:List Mt} {a:Mt} {o:Obj},(l.filterMap fun a=>(g a).map (a,·)).lookup a=some o->g a=some o
 |[],_,_,h=>by cases h
 |b::l,a,o,h=>by
  rw[List.filterMap_cons]at h
  cases hb:g b with
  |none=>rw[hb]at h;exact gb h
  |some x=>
   rw[hb]at h
   simp only[Option.map_some,KQ]at h
   cases q:a==b with
   |true=>rw[q]at h;cases h;rw[J7.mp q];exact hb
   |false=>rw[q]at h;exact gb h
noncomputable def gX(w:World)(mg:Str->Option Mr)(h:Heap)(g:eD):Cx where
 prog:=prog0
 w:=w
 B:=iV h
 K:=DC g
 fnA:=dM
 clsA:=bt
 tabs:=[295,477]
 mg:=mg
 lams:=eZ
 glob:=fun id=>iD.lookup id
 lamTab:=dA
 lamPos:=E5
theorem fi{x:Option (Option Mr)}{v:Option Mr}(h:zE x v=true):x=some v:=JN h
theorem rj{c:Nat}(h:c=3∨c=4∨c=5):c∈ii:=by rcases h with rfl|rfl|rfl<;>decide
theorem tE{l bm:List Mr}(h:w5 l=some bm):l=.ref (bt 2)::bm:=by
 cases l with
 |nil=>cases h
 |cons v l=>obtain⟨rfl,e⟩:=Option.ite_none_right_eq_some.mp h;cases e;rfl
end
section
open PySem PySem.Spec PySem.Calls PyProof.Rows PySem.W
structure Hd(w:World)(mg:Str->Option Mr)(h:Heap)(g:eD):Prop where
 get:∀a o,g a=some o->h.get? a=some o
 ns:h.Ns mainGlobals mg
 nb:∃mb,h.Ns builtinsNs mb/\∀x:Str,x≠"__name__"->mb x=bootBuiltins x
 lim:h.NoLimit
 bmain:∃bm ob,mg "__builtins__"=some (.ref bm)/\bm≠builtinsNs/\h.get? bm=some ob/\ob.cls=.type "module"/\ob.dict=some builtinsNs/\ob.data=.plain
 ok:vR g=true
 bodies:j8 g=m6
 body0:(qa g (dM 0)).map (fun fd=>(fd.body,fd.scope,fd.params))=(fk prog0 1 (some 0)).map fun x=>(.stmts x.2.1,x.2.2,x.1)
 hashes:jT g=mQ w
 res:qX g=iR
 tab0:h.get? 295=some (tabObj #[])
 tab1:h.get? 477=some (tabObj #[])
section
variable {w:World} {mg:Str->Option Mr} {h:Heap} {g:eD} (H:Hd w mg h g)
include H
theorem Hd.getB:∀a o,g a=some o->(iV h).get? a=some o:=by
 intro a o e
 have h1:g 295=none:=Option.isNone_iff_eq_none.mp (aF H.ok 9 rfl)
 have h2:g 477=none:=Option.isNone_iff_eq_none.mp (aF H.ok 10 rfl)
 rw[fo (by rintro rfl;rw[h1]at e;cases e) (by rintro rfl;rw[h2]at e;cases e)]
 exact H.get a o e
theorem Hd.off{a:Mt}{o:Obj}(e:h.get? a=some o)(hc:o.cls≠ .none):(iV h).get? a=some o:=by
 rw[fo (by rintro rfl;rw[H.tab0]at e;cases e;exact hc rfl) (by rintro rfl;rw[H.tab1]at e;cases e;exact hc rfl)]
 exact e
theorem Hd.nsB{a:Mt}{m:Str->Option Mr}(x:h.Ns a m):(iV h).Ns a m:=by
 obtain⟨o,es,ep,e,d,r⟩:=x
 refine⟨o,es,ep,?_,d,r⟩
 rw[fo (by rintro rfl;rw[H.tab0]at e;cases e;cases d) (by rintro rfl;rw[H.tab1]at e;cases e;cases d)]
 exact e
theorem Hd.mgE(id:Str):mH g id=mg id:=by
 have hs:(g mainGlobals).isSome=true:=aF H.ok 11 rfl
 obtain⟨o,es,ep,e1,e2,e3,e4⟩:=H.ns
 obtain⟨o',q1⟩:=Option.isSome_iff_exists.mp hs
 have:=H.get _ _ q1
 rw[e1]at this;cases this
 unfold mH
 rw[q1, ←e4, ←Fast.te16335722595253787840]
 show(mR o.data).bind _=_
 rw[e2];rfl
end
end
section
open PySem PySem.Spec PySem.Calls PyProof.Rows PySem.W
theorem wG{g:eD}{h:Heap}(hg:∀a o,g a=some o->h.get? a=some o){cd:Mr}{q:Str}(x:AO g cd q=true):h.CodeRec cd q:=by
 obtain⟨o,e,x⟩:=aI x
 obtain⟨c,e1,e2⟩:=fu e
 obtain⟨vs,hd,x⟩:=aI x
 obtain⟨w,hv,x⟩:=aI x
 obtain⟨n,e3,y⟩:=aI x
 obtain⟨t,e4⟩:=fe e3
 exact⟨c,o,vs,t,jU e1,hg _ _ e2,lC hd,by rw[hv,e4,Fast.sEq_iff.mp y]⟩
theorem yJ{a:Mr}(h:(iC a).isSome=true):∃s t,a=.str s t:=(Option.isSome_iff_exists.mp h).imp fun _=>fe
theorem qR{a:Mr}(h:(ox a).isSome=true):∃s t,a=.int s t:=(Option.isSome_iff_exists.mp h).imp fun _=>ow
theorem jR{g:eD}{h:Heap}(hg:∀a o,g a=some o->h.get? a=some o){c P:Mt}(x:jS g c P=true):CodeHd h c P:=by
 obtain⟨o,ho,x⟩:=aI x
 obtain⟨vs,hd,x⟩:=aI x
 obtain⟨f1,t1,q1⟩:=yJ (aF x 3 rfl)
 obtain⟨f2,t2,q2⟩:=qR (aF x 4 rfl)
 have:∃b,vs.getD 9 .none=.bool b:=(bu x 5 rfl).elim (fun e=>⟨_,e⟩) fun e=>⟨_,e⟩
 obtain⟨f3,q3⟩:=this
 obtain⟨f4,t4,q4⟩:=qR (aF x 6 rfl)
 exact⟨o,vs,f1,t1,f2,t2,f3,f4,t4,hg _ _ ho,bu x 0 rfl,lC hd,bu x 1 rfl,bu x 2 rfl,q1,q2,q3,q4,bu x 7 rfl⟩
theorem mI{α β:Type}{f:α->Option β}{l:List α}{f':α->Option β}(h:l.map f=l.map f'){a:α}(ha:a∈l):f a=f' a:=List.map_inj_left.mp h a ha
section
variable {w:World} {mg:Str->Option Mr} {h:Heap} {g:eD} (H:Hd w mg h g)
include H
omit H in
theorem Hq(c:Nat)(h1:3<=c)(h2:c<=5):c∈ii:=(by decide:∀c,c < 6->3<=c->c∈ii) c (KI h2) h1
omit H in
theorem Hr(c:Nat)(h:c < 3):c∈([0,1,2]:List Nat):=(by decide:∀c,c < 3->c∈([0,1,2]:List Nat)) c h
omit H in
theorem EW{l:List Mt}{i:Nat}{d:Mt}(h:d∈l):(l[i]?).getD d∈l:=by
 cases e:l[i]? with
 |none=>exact h
 |some a=>exact List.mem_of_getElem? e
theorem Hd.kc{c:Nat}(h1:3<=c)(h2:c<=5):eA (kcL (DC g) c)=true:=Km.mp (aF (aF H.ok 3 rfl) 0 rfl) c (Hq c h1 h2)
theorem Hd.kd:Kd (gX w mg h g):=by
 have hk:kB (DC g)=true:=aF H.ok 3 rfl
 refine⟨fun a o e=>H.getB a o (gb e),fun c h1 h2=>aF (H.kc h1 h2) 0 rfl,fun c h1 h2=>⟨fi (aF (H.kc h1 h2) 1 rfl),aF (H.kc h1 h2) 2 rfl,aF (H.kc h1 h2) 3 rfl⟩,fun c a e=>?_,fun c a i e=>?_,fun i=>?_,fun c=>?_⟩
 ·have:=Km.mp (Km.mp (aF hk 1 rfl) c (rj (j3 e))) a (List.mem_of_getElem? (kb a))
  rw[e]at this
  exact fi this
 ·have:=Km.mp (Km.mp (aF hk 2 rfl) c (rj (n9 e))) a (List.mem_of_getElem? (kb a))
  rw[e]at this
  exact⟨fi (aX this).1,(aX this).2⟩
 ·exact Km.mp (aF hk 3 rfl) _ (EW (.head _))
 ·exact Km.mp (aF hk 4 rfl) _ (EW (.head _))
theorem Hd.md:Md (gX w mg h g):=⟨fun c h1 h2=>aF (H.kc h1 h2) 4 rfl,fun c h1 h2=>fi (aF (H.kc h1 h2) 5 rfl),fun c h1 h2=>bu (H.kc h1 h2) 6 rfl⟩
theorem Hd.ke{c:Nat}(h1:c < 3):eA (keL (DC g) c)=true:=Km.mp (aF (aF H.ok 3 rfl) 5 rfl) c (Hr c h1)
theorem Hd.xd:Xd (gX w mg h g):=⟨fun c h1=>bu (H.ke h1) 0 rfl,fun c h1=>bu (H.ke h1) 1 rfl,fun c h1=>bu (H.ke h1) 2 rfl,fun c h1=>aF (H.ke h1) 3 rfl⟩
theorem Hd.edObj:A4 (gX w mg h g):=by
 obtain⟨o,ho,x⟩:=aI (aF H.ok 6 rfl)
 obtain⟨cd,hd,x⟩:=aI x
 obtain⟨bm,hm,x⟩:=aI x
 have hb:eA (bmL bm)=true:=aF x 1 rfl
 have e1:o.cls=.type "type":=bu x 0 rfl
 have e2:cd.hasDel=false:=bu x 2 rfl
 have e3:o.slots.toList=lZ o.slots.toList:=bu x 3 rfl
 have ho:=H.getB _ _ ho
 obtain⟨c,dd,d,⟨sl⟩⟩:=o
 have hd:=vW hd
 obtain⟨nm,bs,mro,N,q,hd',sn,sub,ab,col,del⟩:=cd
 cases e1;cases hd;cases tE hm;cases e2
 have e3:sl=lZ sl:=e3
 rw[e3]at ho
 exact⟨nm,q,N,bs,bm,hd',sn,sub,ab,col,dd,_,_,_,_,_,ho,⟨aF hb 0 rfl,aF hb 1 rfl,(Bool.not_eq_true' _).mp (aF hb 2 rfl),(Bool.not_eq_true' _).mp (aF hb 3 rfl)⟩⟩
theorem Hd.ed:Ed (gX w mg h g):=by
 have hk:kB (DC g)=true:=aF H.ok 3 rfl
 obtain⟨cd,hcd,k9⟩:=aI (aF hk 8 rfl)
 refine⟨H.edObj,fi (aF hk 6 rfl),bu hk 7 rfl,⟨cd,hcd,JN k9⟩,fi (aF hk 9 rfl),fi (aF hk 10 rfl),fi (aF hk 11 rfl),?_,?_⟩
 ·have k13:=aF hk 12 rfl
  split at k13<;>try cases k13
  rename_i v hv
  rw[JN k13]at hv
  exact hv
 ·exact(H.mgE _).symm.trans (Option.isNone_iff_eq_none.mp (aF H.ok 7 rfl))
theorem Hd.gd(fb:iR=ST dk):Gd (gX w mg h g):=by
 obtain⟨mb,nb,hb⟩:=H.nb
 refine⟨H.nsB H.ns,⟨mb,H.nsB nb,hb⟩,fun id v e=>?_⟩
 have e:iD.lookup id=some v:=e
 have hm:(id,v)∈iD:=mem_of_lookup e
 rcases KH.mp (Km.mp (aF H.ok 2 rfl) _ hm)with h1|h1
 ·obtain⟨a,ea,h1⟩:=aI h1
  have ea:mH g id=some a:=ea
  refine⟨a,.inl ((H.mgE id).symm.trans ea),?_⟩
  rcases KH.mp h1 with q|q
  ·obtain⟨q,qs⟩:=aX q
   obtain rfl:id="RESERVED":=Fast.sEq_iff.mp q
   have hv:iD.lookup ("RESERVED":Str)=some gf:=by rfl
   cases hv.symm.trans e
   obtain⟨x,qx⟩:=Option.isSome_iff_exists.mp qs
   obtain⟨t,rfl⟩:=fe qx
   have:=H.res
   unfold qX at this
   rw[ea]at this
   have this:x=iR:=this
   rw[this,fb]
   exact .str _ _
  ·refine qY (X:=gX w mg h g) rfl rfl H.getB q fun l es ev ed=>?_
   have ev:v=.dS l:=ev
   subst ev
   have:=List.map_inj_left.mp H.hashes _ hm
   have this:((mH g id).bind (lF g)).elim [] (fun es=>es.map (·.hash))=l.map fun q=>hashStr w (ST q.1):=this
   rw[ea]at this
   have this:(lF g a).elim [] (fun es=>es.map (·.hash))=l.map fun q=>hashStr w (ST q.1):=this
   rw[ed]at this
   exact this
 ·obtain⟨h1,h2⟩:=aX h1
  obtain⟨a,eb,h2⟩:=aI h2
  obtain⟨h2,h3⟩:=aX h2
  exact⟨a,.inr ⟨(H.mgE id).symm.trans (Option.isNone_iff_eq_none.mp h1),eb,fun q=>by rw[Fast.sEq_iff.mpr q]at h3;cases h3⟩,i9 (X:=gX w mg h g) rfl rfl h2⟩
end
end
section
open PySem PySem.Spec PySem.Calls PyProof.Rows PySem.W
noncomputable def noDict(v:V):Bool:=(vV v).isNone
theorem nN:rows.all (fun r=>r.dflt.all noDict)=true:=by decide+kernel
inductive Jr(r:dm):Prop
 |mk (a:Arguments) (b:List Stmt) (s:Scope) (e:fk prog0 r.top r.sub=some (a,b,s)) (q:eA (Ei r (a,b,s))=true)
theorem yO{r:dm}(h:Ej r=true):Jr r:=by
 obtain⟨x,e,h⟩:=aI h
 exact⟨x.1,x.2.1,x.2.2,e,h⟩
section
variable {w:World} {mg:Str->Option Mr} {h:Heap} {g:eD} (H:Hd w mg h g)
include H
theorem Hd.fn{r:dm}{sc:Sc}{a:Arguments}{b:List Stmt}{s:Scope}(hfd:HL g r=true)(hbody:(qa g (dM r.num)).map (fun fd=>(fd.body,fd.scope,fd.params))=(fk prog0 r.top r.sub).map fun x=>(FuncBody.stmts x.2.1,x.2.2,x.1))
  (e:fk prog0 r.top r.sub=some (a,b,s)) (ha:c9 a=true) (nd:(a.args.map (·.arg)).Nodup) (hs:xB sc s (a.args.map (·.arg)) []) (hd:∀v∈r.dflt,noDict v=true)
  (hc:sc.code=none∨(r.num=32/\sc.code=some (cG 0,cE 0))∨(r.num=55/\sc.code=some (cG 1,cE 1))):nq (gX w mg h g) r.num sc b (a.args.map (·.arg)) r.dflt:=by
 obtain⟨fd,efd,hfd⟩:=aI hfd
 rw[efd,e]at hbody
 obtain⟨q1,q2⟩:=Prod.mk.inj (J9 hbody)
 obtain⟨q2,q3⟩:=Prod.mk.inj q2
 obtain⟨o,eo,ed⟩:=zF efd
 obtain⟨b1,b2,b3,b4,b5⟩:=cN ha
 have P:rT fd (a.args.map (·.arg)):=⟨by rw[q3];exact b1,by rw[q3],by rw[q3];exact b2,by rw[q3];exact b3,by rw[q3];exact b5,nd⟩
 have hcode:∀c q,sc.code=some (c,q)->fd.code=.ref c/\fd.qualname++".<locals>."=q:=fun c q hcq=>by
  rcases hc with z|⟨z1,z2⟩|⟨z1,z2⟩
  ·rw[z]at hcq;cases hcq
  ·cases z2.symm.trans hcq
   exact bu hfd 5 rfl z1
  ·cases z2.symm.trans hcq
   exact bu hfd 6 rfl z1
 have fin:∀dv,ag (gX w mg h g) [] (fun _=>False) (gX w mg h g).B r.dflt dv->((fd.defaults=.none/\dv=[])∨∃T oT n,fd.defaults=.ref T/\(gX w mg h g).B.get? T=some oT/\oT.data=.seq dv.toArray n)->nq (gX w mg h g) r.num sc b (a.args.map (·.arg)) r.dflt:=fun dv h1 h2=>
  ⟨⟨o,fd,dv,H.getB _ _ eo,ed,bu hfd 0 rfl,bu hfd 1 rfl,Kl.mp (aF hfd 2 rfl),q1,wG H.getB (aF hfd 3 rfl),P,by rw[q2];exact hs,hcode,h1,h2⟩⟩
 rcases KH.mp (aF hfd 4 rfl)with f5|f5
 ·obtain⟨f5,f6⟩:=aX f5
  refine fin [] ?_ (.inl ⟨JN f5,rfl⟩)
  rw[Kl.mp f6]
  exact .nil
 ·obtain⟨vs,hv,f5⟩:=aI f5
  obtain⟨T,n,e1,e2⟩:=nD hv
  exact fin vs (uJ (X:=gX w mg h g) rfl rfl H.getB f5 fun v hv k z=>by have:=hd v hv;rw[z]at this;cases this) (.inr ⟨T,_,n,e1,H.getB _ _ e2,rfl⟩)
theorem Hd.bl{P:Mt}(hP:h.get? P=some (tabObj #[])):(iV h).BuiltinsAt mg P:=by
 obtain⟨bm,ob,e1,e2,e3,e4,e5,e6⟩:=H.bmain
 refine⟨bm,ob,e1,e2,?_,?_,H.off e3 (by rw[e4];simp),e4,e5,e6⟩
 ·rintro rfl
  obtain⟨o,es,ep,q1,q2,_⟩:=H.ns
  rw[e3]at q1;cases q1
  rw[e6]at q2;cases q2
 ·rintro rfl
  rw[e3]at hP;cases hP;cases e4
omit H in
theorem se{i j:Nat}(hi:i < 2)(hj:dA j=dA i):j=i:=by
 have z:∀i,i < 2->∀j,j < 2->dA j=dA i->j=i:=by decide
 by_cases q:j < 2
 ·exact z i hi j q hj
 ·obtain⟨k,rfl⟩:=J2 (KW.mp q)
  have e:dA (k+2)=0:=rfl
  rw[e]at hj
  exact absurd hj ((by decide:∀i,i < 2->¬0=dA i) i hi)
theorem Hd.lamHd{i:Nat}(hi:i < 2):CodeHd (gX w mg h g).B (cG i) (dA i)/\h.get? (dA i)=some (tabObj #[])/\dA i∈([295,477]:List Mt)/\¬cG i=dA i/\mainGlobals≠dA i:=by
 rcases Nat.lt_or_ge i 1 with h|h
 ·obtain rfl:=Nat.lt_one_iff.mp h
  exact⟨jR H.getB (aF H.ok 4 rfl),H.tab0,.head _,by decide,by decide⟩
 ·obtain rfl:=Lp (LN hi) h
  exact⟨jR H.getB (aF H.ok 5 rfl),H.tab1,.tail _ (.head _),by decide,by decide⟩
theorem Hd.lamS{n:Nat}{sc:Sc}{e:Mq}{i:Nat}{caps:List Nat}(hl:E6 sc e i caps=true):ah (gX w mg h g) n sc e (.lam i caps):=by
 obtain⟨⟨ps,b,scp,pos⟩,el,hl⟩:=aI hl
 rw[xl el]
 have hi:i < 2:=JI (aF hl 0 rfl)
 obtain⟨p1,p2,p3⟩:=to (aF hl 1 rfl)
 obtain⟨v,v1,v2,v3,v4,v5⟩:=bu hl 6 rfl
 have dflt:∀env,defaultsOf ps env=([],[]):=fun env=>by
  obtain⟨_,_,_,_,kwd,_,d⟩:=ps
  cases(show kwd=[]from p2);cases(show d=[]from p3);rfl
 obtain⟨HC,ht,hm,hn,hz⟩:=H.lamHd hi
 have lam:eZ i=⟨ps,b,scp,cE i++"<lambda>",[v.name]⟩:=by
  rw[show ps=(eZ i).params from p1,show b=(eZ i).body from C9 (aF hl 2 rfl),show scp=(eZ i).scope from bu hl 3 rfl, ←v4];rfl
 rw[v3]
 exact Cg (X:=gX w mg h g) (c:=cG i) (P:=dA i) (q:=cE i) ⟨bu hl 5 rfl,HC,hm,rfl,fun j hj=>by cases se hi hj;exact⟨(bu hl 4 rfl).symm,rfl⟩,lam,dflt,v5,v1,v2,H.bl ht,hz,H.nsB H.ns⟩
theorem Hd.ck(fb:iR=ST dk)(n:Nat):gj (gX w mg h g) n Gw:=by
 refine⟨H.kd,H.gd fb,H.xd,fun id v e=>e,fun sc e i caps hl=>H.lamS hl,?_⟩
 obtain⟨o,e⟩:=Option.isSome_iff_exists.mp (aF H.ok 8 rfl)
 show(iV h).get? sysModules≠none
 rw[H.getB _ _ e]
 exact Option.some_ne_none _
end
end
section
open PySem PySem.Spec PySem.Calls PyProof.Rows PySem.W
section
theorem bX{U:Call}{a:At}{e:ME}{v:V}{c:Nat}{fs:List (At×V)}{r:List MS}{k:KF}{ke:KE}{loc:List LV}{mu:List aa}(h0:loc[0]? =some (.val (.obj mu.length)))(he:∀(k:V->St->Pg) (ke:KE) (st:St),st.loc=loc->ev e (.v k) ke st=k v st)(hd:cQ c a=true)(hl:Nat.blt fs.length 20=true)
  (h:wp U (aS r k ke ⟨loc,mu++[.ins c (kG a v fs)]⟩)):wp U (aS (.asgA (.x 0) a e::r) k ke ⟨loc,mu++[.ins c fs]⟩):=by
 show wp U (ev e (.v _) ke _)
 rw[he _ _ _ rfl]
 show wp U (mL loc[0]? _ _)
 rw[h0]
 have e:(mu++[aa.ins c fs])[mu.length]? =some (.ins c fs):=by rw[Ky (JL _),Nat.sub_self];rfl
 refine⟨.ins c fs,e,?_⟩
 show wp U (gate (cQ c a) (gate (Nat.blt fs.length 20) (aS r k ke ⟨loc,(mu++[aa.ins c fs]).set mu.length (aa.ins c (kG a v fs))⟩)))
 rw[hd,hl,List.set_append_right _ _ (JL _),Nat.sub_self]
 exact h
theorem gJ{i:Nat}{v:V}{loc:List LV}(h:loc[i]? =some (.val v))(k:V->St->Pg)(ke:KE)(st:St)(e:st.loc=loc):ev (.x i) (.v k) ke st=k v st:=by
 show mL st.loc[i]? _ _=_
 rw[e,h];rfl
noncomputable def Au:Nat->ME
 |0=>.call (.c (.fn 27)) [(.x 0),(.bin .add (.x 1) (.c (.int 1)))]
 |_=>.cmp .isIn (.x 0) (.attr (.x 2) .named)
noncomputable def fX(i:Nat):List Str:=(eZ i).params.args.map (·.arg)
noncomputable def jL:Nat->Str
 |0=>"depth"
 |_=>"reader"
noncomputable def ll(i:Nat):Sc:=⟨((fX i).zipIdx.map fun p=>⟨p.1,p.2,false,false⟩)++[⟨jL i,(fX i).length,true,false⟩],((eZ i).scope.names.filter fun p=>(eZ i).scope.names.lookup p.1==some .globalImplicit).map (·.1),none⟩
noncomputable def CW(i:Nat):List Bool:=[c9 (eZ i).params,decide (fX i).Nodup,decide ((eZ i).keeps=[jL i]),qT (ll i) (eZ i).scope (fX i) [jL i],decide (jL i∉fX i),
 decide (∀x∈(ll i).vis,x.name=jL i->x.cell=true/\x.slot=(fX i).length),decide (∀x∈(ll i).vis,x.name≠jL i->x.slot≠(fX i).length),Dg Gw (Au i) (ll i) (eZ i).body]
noncomputable def pW(i:Nat):Bool:=eA (CW i)
theorem og:pW 0=true/\pW 1=true:=by decide+kernel
theorem rr:(fX 0).length=1/\(fX 1).length=2:=by decide+kernel
theorem lm{X:Cx}{i:Nat}(hX:X.lams=eZ)(h:pW i=true):A1 X i (ll i) (fX i) (jL i)/\Dg Gw (Au i) (ll i) (X.lams i).body=true:=by
 obtain⟨b1,b2,b3,b4,b5⟩:=cN (aF h 0 rfl)
 rw[hX]
 rw[←hX]at b1 b2 b3 b5
 exact⟨⟨b1,by rw[hX];rfl,b2,b3,b5,bu h 1 rfl,hX▸bu h 2 rfl,hX▸ju (aF h 3 rfl),rfl,bu h 5 rfl,bu h 6 rfl,bu h 4 rfl⟩,aF h 7 rfl⟩
noncomputable def AI:List Str:=["self","what","at"]
noncomputable def body0:List Stmt:=ji ⟨5,8,5,17⟩ ⟨5,8,5,26⟩ ⟨5,27,5,31⟩ ⟨5,33,5,37⟩ ⟨5,8,5,38⟩ ⟨5,8,5,38⟩ ⟨6,8,6,12⟩ ⟨6,8,6,17⟩ ⟨6,20,6,24⟩ ⟨6,8,6,24⟩ ⟨7,8,7,12⟩ ⟨7,8,7,15⟩ ⟨7,18,7,20⟩ ⟨7,8,7,20⟩
theorem DQ:∃a s,fk prog0 1 (some 0)=some (a,body0,s)/\c9 a=true/\a.args.map (·.arg)=AI/\qT xT s AI []=true:=by
 refine⟨_,_,rfl,?_,?_,?_⟩
 ·decide+kernel
 ·decide+kernel
 ·decide+kernel
section
variable {w:World} {mg:Str->Option Mr} {h:Heap} {g:eD} (H:Hd w mg h g)
include H
theorem Hd.row{r:dm}(hr:r∈rows)(fb:iR=ST dk):∃sc b ns,nq (gX w mg h g) r.num sc b ns r.dflt/\ns.length=r.npar/\r.dflt.length<=r.npar/\∀n,bH (gX w mg h g) n sc b r.body:=by
 obtain⟨a,b,s,e,q⟩:=yO (Km.mp sH r hr)
 refine⟨qW r s,b,_,H.fn (Km.mp (aF H.ok 0 rfl) r hr) (mI H.bodies hr) e (aF q 0 rfl) (bu q 1 rfl) (ju (aF q 2 rfl)) (fun v hv=>Km.mp (Km.mp nN r hr) v hv) ?_,bu q 5 rfl,bu q 6 rfl,fun n=>wJ (H.ck fb n) _ _ _ (BP (aF q 3 rfl)) (aF q 4 rfl)⟩
 show(if r.num=32 then _ else _)=none∨(r.num=32/\(if r.num=32 then _ else _)=_)∨(r.num=55/\(if r.num=32 then _ else _)=_)
 by_cases q:r.num=32
 ·exact .inr (.inl ⟨q,if_pos q⟩)
 ·rw[if_neg q]
  by_cases q2:r.num=55
  ·exact .inr (.inr ⟨q2,if_pos q2⟩)
  ·exact .inl (if_neg q2)
omit H in
theorem ja{i:Nat}{r:dm}(hp:pick i=some r):r∈rows/\r.num=i:=by
 unfold Mine.pick at hp
 exact⟨List.mem_of_find?_eq_some hp,by simpa using List.find?_some hp⟩
theorem Hd.limB:(gX w mg h g).B.NoLimit:=by
 obtain⟨mc,a,b⟩:=H.lim
 exact⟨mc,H.nsB a,b⟩
theorem Hd.rules(fb:iR=ST dk):ac (Wd (gX w mg h g)):=by
 constructor
 ·intro n n' f args mu kv ke hn hw A s al F fv vals am
  exact hw A s al F fv vals (am.le hn)
 ·intro n f args mu kv kv' ke ke' hw h1 h2 A s al F fv vals am I Rf R
  exact J0 (hw A s al F fv vals am I Rf R) (fun v s' qz=>qz.casesOn fun r mu' al' F' a b b_1 b_2=>⟨r,mu',al',F',h1 _ _ a,b,b_1,b_2⟩) fun e s' qz=>qz.casesOn fun c mu' al' F' a b b_1 b_2=>⟨c,mu',al',F',h2 _ _ a,b,b_1,b_2⟩
 ·intro i r hp n k args mu kv ke hl1 hl2 hx
  obtain⟨hr,rfl⟩:=ja hp
  obtain⟨sc,b,ns,h1,h2,h3,h4⟩:=H.row hr fb
  rw[←h2]at hl1 hl2 h3 hx
  exact DI H.limB h1 (h4 n) hl1 hl2 h3 hx
 ·intro n a c mu kv ke hx
  obtain⟨q1,q2⟩:=lm (X:=gX w mg h g) rfl og.1
  exact tN (args:=[a]) H.limB q1 (rN (H.ck fb n) _ _ _ q2) (by rw[rr.1];rfl) hx
 ·intro n a b c mu kv ke hx
  obtain⟨q1,q2⟩:=lm (X:=gX w mg h g) rfl og.2
  exact tN (args:=[a,b]) H.limB q1 (rN (H.ck fb n) _ _ _ q2) (by rw[rr.2];rfl) hx
 ·intro n a b mu kv ke hk
  obtain⟨hr,_⟩:=ja (i:=11) rfl
  obtain⟨sc,bd,ns,h1,h2,h3,h4⟩:=H.row hr fb
  refine Ba (c:=3) (k:=0) H.kd H.md (by decide) (by decide) H.limB h1 (h4 n) (h2.symm▸JI rfl) (h2.symm▸JI rfl) (h2.symm▸h3) ?_ (by kernel_rfl) hk
  rw[h2]
  refine bX rfl (gJ rfl) rfl rfl (bX rfl (gJ rfl) rfl rfl (bX rfl (gJ rfl) rfl rfl (bX rfl (gJ rfl) rfl rfl ?_)))
  exact⟨rfl,rfl,rfl⟩
 ·intro n a b c mu kv ke hk
  obtain⟨hr,_⟩:=ja (i:=43) rfl
  obtain⟨sc,bd,ns,h1,h2,h3,h4⟩:=H.row hr fb
  refine pj (c:=4) (k:=0) H.kd H.md (by decide) (by decide) H.limB h1 (h4 n) (h2.symm▸JI rfl) (h2.symm▸JI rfl) (h2.symm▸h3) ?_
  rw[h2]
  refine bX rfl (gJ rfl) rfl rfl (bX rfl (gJ rfl) rfl rfl (bX rfl (gJ rfl) rfl rfl (bX rfl (fun _ _ _ _=>rfl) rfl rfl ?_)))
  exact⟨rfl,hk⟩
 ·intro n a mu kv ke hk
  obtain⟨hr,_⟩:=ja (i:=69) rfl
  obtain⟨sc,bd,ns,h1,h2,h3,h4⟩:=H.row hr fb
  refine pj (c:=5) (k:=0) H.kd H.md (by decide) (by decide) H.limB h1 (h4 n) (h2.symm▸JI rfl) (h2.symm▸JI rfl) (h2.symm▸h3) ?_
  rw[h2]
  refine bX rfl (gJ rfl) rfl rfl (bX rfl (gJ rfl) rfl rfl (bX rfl (fun _ _ _ _=>rfl) rfl rfl ?_))
  exact⟨rfl,hk⟩
 ·intro n args mu kv ke hl hk
  obtain⟨a,s,e,h1,h2,h3⟩:=DQ
  have F:=H.fn (r:=BR) (aF H.ok 1 rfl) H.body0 e h1 (by rw[h2];decide) (sc:=xT) (by rw[h2];exact ju h3) (fun v hv=>by simp[BR]at hv;subst hv;rfl) (.inl rfl)
  rw[h2]at F
  exact Bb H.kd (H.gd fb) H.ed H.limB F rfl hl hk
end
end
end
section
open PySem PySem.Spec PySem.Calls PyProof.Rows PySem.W
theorem uH:iR=Str.ofString (String.ofList (dk.map Char.ofNat)):=by kernel_rfl
theorem vm(l:List Char):Str.ofString (String.ofList l)=ST (l.map Char.toNat):=by
 rw[Str.ofString_eq_toList]
 simp[ST]
theorem uI:(dk.map Char.ofNat).map Char.toNat=dk:=by decide+kernel
theorem fb:iR=ST dk:=by rw[uH,vm,uI]
end
section
open PySem PySem.Spec PySem.Calls PyProof.Rows PySem.W
section
noncomputable abbrev eJ:OpenLaw:=PySem.Challenge.rw_pq0624_01
theorem qr{a b:Bool}(x:a=true)(y:b=true):(a&&b)=true:=by rw[x,y];rfl
theorem jG(lk:Look)(a b:List Stmt):noRoadLSs lk (a++b)=(noRoadLSs lk a&&noRoadLSs lk b):=by
 induction a with
 |nil=>rfl
 |cons s a ih=>
  show(noRoadLS lk s&&noRoadLSs lk (a++b))=((noRoadLS lk s&&noRoadLSs lk a)&&noRoadLSs lk b)
  rw[ih,Bool.and_assoc]
theorem wV(l:List Stmt):l=l.take 80++(l.drop 80).take 1++l.drop 81:=by
 have:l.take 81=l.take 80++(l.drop 80).take 1:=List.take_add (l:=l) (i:=80) (j:=1)
 rw[←this,List.take_append_drop]
noncomputable def EV(s:Bool)(b:List Str):Look:={strict:=s,foot:=none,bare:=b}
noncomputable def s0:Bool:= !(importedModules prog0.main.body).all cThrough.contains
noncomputable def b0:List Str:=(["vars","dir","locals"]:List Str).filter (readsOut prog0 prog0.main.body)
noncomputable def xW:Look:={strict:=false,foot:=none}
theorem hs0:s0=false:=by decide+kernel
theorem hb0:b0=[]:=by decide+kernel
theorem Ey:noRoadLSs xW (prog0.main.body.take 80)=true:=by decide+kernel
theorem Ew:noRoadLSs xW (prog0.main.body.drop 81)=true:=by decide+kernel
noncomputable def Jn(s:Stmt)(d:Pos):List Mq×Pos:=if h:s.ctorIdx=5 then Stmt.Assign.elim (motive_2:=fun _=>List Mq×Pos) s h fun t _ p=>(t,p)else([],d)
noncomputable def H0(e:Mq)(d:Pos):Nat×Pos:=if h:e.ctorIdx=19 then Expr.Constant.elim (motive_1:=fun _=>Nat×Pos) e h fun _ k p=>(k,p)else(0,d)
noncomputable def sO:Pos:=⟨0,0,0,0⟩
noncomputable def Gn:List Mq×Pos:=((prog0.main.body[80]?).map fun s=>Jn s sO).getD ([],sO)
noncomputable def c80:Nat×Pos:=(((prog0.main.body[80]?).bind DK).map fun e=>H0 e sO).getD (0,sO)
theorem h80:prog0.main.body[80]? =some (.Assign Gn.1 (.Constant (.str iR) c80.1 c80.2) Gn.2):=by kernel_rfl
theorem GE:(xW.stores Gn.1&&noRoadLs xW Gn.1)=true:=by decide+kernel
theorem Ep:dk.any (fun c=>c==123||c==125)=false:=by decide+kernel
theorem Eo:dk.any (fun c=>c==46)=false:=by decide+kernel
theorem En:attrL (ST dk)=true:=by decide+kernel
theorem yP{l:List Nat}(a:l.any (fun c=>c==123||c==125)=false)(b:l.any (fun c=>c==46)=false):roadStr (ST l)=false:=by
 show(l.toArray.any (fun c=>c==123||c==125)||(l.toArray.any (·==46)&& !l.toArray.any (·<=32)))=false
 rw[LW,LW,a,b];rfl
theorem Bz{x:Str}(a:attrL x=true)(b:roadStr x=false):xW.str x=true:=by
 unfold Look.str Look.word
 rw[a,b]
 simp[xW]
theorem B3:xW.str (ST dk)=true:=Bz En (yP Ep Eo)
theorem El{lk:Look}{ts:List Mq}{x:Str}{k:Nat}{p q:Pos}(h1:lk.str x=true)(h2:(lk.stores ts&&noRoadLs lk ts)=true):noRoadLSs lk (some (Stmt.Assign ts (.Constant (.str x) k p) q)).toList=true:=by
 show((lk.stores ts&&noRoadLs lk ts&&lk.str x)&&true)=true
 rw[h1,h2];rfl
theorem BS{lk:Look}{l:List Stmt}{ts:List Mq}{x:Str}{k:Nat}{p q:Pos}(h1:noRoadLSs lk (l.take 80)=true)(h2:noRoadLSs lk (l.drop 81)=true)(h3:l[80]? =some (.Assign ts (.Constant (.str x) k p) q))(h4:lk.str x=true)(h5:(lk.stores ts&&noRoadLs lk ts)=true):noRoadLSs lk l=true:=by
 have e:noRoadLSs lk l=noRoadLSs lk (l.take 80++(l.drop 80).take 1++l.drop 81):=congrArg _ (wV l)
 rw[e,jG,jG,h1,h2,List.take_one,List.head?_drop,h3,El h4 h5];rfl
theorem Ea:xW.str iR=true:=fb.symm▸B3
theorem BU:noRoadLSs xW prog0.main.body=true:=BS Ey Ew h80 Ea GE
theorem CS:EV false []=xW:=rfl
theorem Ek:noRoadLSs (EV s0 b0) prog0.main.body=true:=by
 rw[hs0,hb0,CS];exact BU
end
end
section
open PySem PySem.Spec PySem.Calls PyProof.Rows PySem.W
section
theorem CQ:sreFenced prog0.main=true:=by decide+kernel
theorem CP:((moduleNames prog0.main.body).isEmpty||lookedIntoSs (moduleNames prog0.main.body) prog0.main.body)=true:=by decide+kernel
theorem CO:namesResolve prog0=true:=by decide+kernel
theorem CN:prog0.boundNames.all (fun n=> !worldNames.contains n)=true:=by decide+kernel
theorem CM:namesMeet prog0 prog0.main.body (fun _ n=>attrL n)=true:=by decide+kernel
theorem EZ:looksOpen prog0=true:=qr (qr (qr (qr (qr CQ CP) CO) CN) Ek) CM
end
end
section
open PySem PySem.Spec PySem.Calls PyProof.Rows PySem.W
section
theorem bS{x y f c:Bool}(h:x=(f&&c)):(x&&y)=(f&&(c&&y)):=h▸Bool.and_assoc f c y
noncomputable def yW(r:OpenRow):{c // r.partSaid=(looksOpen r.prog&&c)}:=⟨_,bS (bS (bS (bS (bS (bS (bS (bS (bS (bS (bS (bS (rfl))))))))))))⟩
noncomputable def uE(r:OpenRow):{c // r.wellSaid=(looksOpen r.prog&&c)}:=⟨_,bS (bS (yW r).2)⟩
noncomputable def vD(l:OpenLaw):{c // l.wellSaid=(l.row.wellSaid&&c)}:=⟨_,bS (bS (bS (bS (bS (bS (bS (bS (bS (bS (bS (bS (bS (bS (bS (bS (bS (rfl)))))))))))))))))⟩
theorem uD:(uE eJ.row).1=true:=by decide+kernel
theorem nO:eJ.row.wellSaid=true:=(uE eJ.row).2.trans (qr EZ uD)
theorem vC:(vD eJ).1=true:=by decide+kernel
theorem vB:eJ.wellSaid=true:=(vD eJ).2.trans (qr nO vC)
end
end
section
open PySem PySem.Spec PySem.Calls PyProof.Rows PySem.W
structure JC(w:World)(h:Heap)(g:eD):Prop where
 get:∀a o,g a=some o->h.get? a=some o
 ok:vR g=true
 bodies:j8 g=m6
 body0:(qa g (dM 0)).map (fun fd=>(fd.body,fd.scope,fd.params))=(fk prog0 1 (some 0)).map fun x=>(.stmts x.2.1,x.2.2,x.1)
 hashes:jT g=mQ w
 res:qX g=iR
 tab0:h.get? 295=some (tabObj #[])
 tab1:h.get? 477=some (tabObj #[])
def YP(w:World)(h:Heap):Prop:=∃g,JC w h g
theorem YP.keeps(w:World)(h h':Heap)(y:YP w h)(k:∀b o,h.get? b=some o->h'.get? b=some o):YP w h':=by
 obtain⟨g,a,b,c,d,e,f,i,j⟩:=y
 exact⟨g,fun x o q=>k _ _ (a x o q),b,c,d,e,f,k _ _ i,k _ _ j⟩
end
section
open PySem PySem.Spec PySem.Calls PyProof.Rows PySem.W
section
theorem js{tb:String->Option Builtin}{p:Program}{w:World}{n₀:Nat}{ann:Option Mr}:∀{n:Nat} {s r:SharedT} {t:Thread},topRunT (stepOk n₀ ann) (stepT (denote tb) p w) n s t=some r->topRun tb p w n₀ ann n s.abs t=some r.abs
 |0,_,_,_,h=>by cases h
 |n+1,s,r,t,h=>by
  unfold topRunT at h
  unfold topRun
  cases h1:through t with
  |true=>rw[h1]at h;cases h;rfl
  |false=>
   rw[h1]at h
   cases h2:stepOk n₀ ann t with
   |false=>rw[h2]at h;cases h
   |true=>
    rw[h2]at h
    cases h3:stepT (denote tb) p w s t with
    |none=>rw[h3]at h;cases h
    |some x=>
     obtain⟨s',t'⟩:=x
     rw[h3]at h
     rw[stepT_spec h3]
     exact js h
theorem oy{life:Life}:∀{l:List Obj} {n:Nat} {t:BT} {r:BT×Nat},rz l n t=some r->absHeap r.1 r.2 life=⟨(absHeap t n life).objs++l.toArray,life⟩
 |[],n,t,r,h=>by cases h;simp[absHeap]
 |o::l,n,t,r,h=>by
  unfold rz at h
  cases h1:((t.ins n o).get n).isSome with
  |false=>rw[h1]at h;cases h
  |true=>
   rw[h1]at h
   rw[oy h,absHeap_ins h1]
   simp[Heap.push]
theorem qt{sT:SharedT}{a:Mt}{o:Obj}(h:FZ sT a=some o):sT.abs.heap.get? a=some o:=by
 unfold FZ at h
 cases h1:Nat.blt a sT.n with
 |false=>rw[h1]at h;cases h
 |true=>
  rw[h1]at h
  obtain⟨o',e1,e2⟩:=Ku.mp h
  show(absHeap sT.tree sT.n sT.life).get? a=some o
  rw[abs_get (JI h1) e1,e2]
theorem Fh{sT:SharedT}{a:Mt}{o:Obj}(h:gT sT a=some o):sT.abs.heap.get? a=some o:=by
 unfold gT at h
 split at h
 ·cases h
 ·exact qt h
end
end
section
open PySem PySem.Spec PySem.Calls PyProof.Rows PySem.W
section
theorem BQ(w:World)(os:OsState):(yN w os).map (lg w)=some (oz w):=by
 have e:=World.withFollow_self w "special-get-raises"
 cases hb:w.params.followText "special-get-raises"<;>rw[hb]at e
 ·have:=sG w os;rwa[e]at this
 ·have:=uB w os;rwa[e]at this
theorem zS(w:World):(boot_heap w.params).isNs mainGlobals=true:=by kernel_rfl
theorem wf(s:Ms):fenceModules? prog0 s=some s:=by kernel_rfl
theorem u6:opening prog0=plainProg prog0.main.scope.names:=by kernel_rfl
theorem ends(w:World):∃sT,openEnds treeTable prog0 w 12000=some sT.abs/\lg w sT=oz w:=by
 have hb:=boot_open (N:=12000) u6 (by decide) wf w
 obtain⟨s₀,e0,e1⟩:=Option.map_eq_some_iff.mp hb
 obtain⟨hp,gs,dr,tk,os⟩:=s₀
 simp only[Prod.mk.injEq]at e1
 obtain⟨rfl,rfl,rfl,rfl⟩:=e1
 obtain⟨sT,r1,r2⟩:=Option.map_eq_some_iff.mp (BQ w os)
 unfold yN at r1
 rw[Cq, ←Fast.te10156331382660048174, ←Fast.te11892475500146522536, ←Fast.te14364793385576792824]at r1
 obtain⟨t,g1,g2⟩:=Ku.mp r1
 refine⟨sT,?_,r2⟩
 have hs:yx w sT=true:=congrArg Prod.fst r2
 rw[yw]at hs
 unfold openEnds
 rw[e0,Option.bind_some]
 unfold topFrom
 have hn:((boot_heap w.params).isNs mainGlobals&&(Array.mk ([]:List GenState)).size==0)=true:=by rw[zS];rfl
 simp only[hn]
 have h1:=js g2
 have h2:(⟨t.1,t.2,(boot_heap w.params).life, #[],boot_drawn,boot_toks,os⟩:SharedT).abs=⟨boot_heap w.params,Array.mk [],boot_drawn,boot_toks,os⟩:=by
  show(⟨absHeap t.1 t.2 (boot_heap w.params).life, #[],boot_drawn,boot_toks,os⟩:Ms)=_
  rw[oy g1]
  simp[absHeap,BT.list]
 rw[h2]at h1
 rw[h1]
 simp only[Option.bind_some]
 have hs:(staticsOk (importedModules prog0.main.body) (boot_heap w.params) sT.abs.heap&&namesBound prog0 sT.abs.heap&&gensDone sT.abs&&laidKept (boot_heap w.params) sT.abs.heap)=true:=hs
 rw[hs]
noncomputable def tp(w:World):Option Ms:=openEnds treeTable prog0 w 12000
theorem left:LeftO prog0 qV eg (fun _=>true) (fun s=>some s) tp 12000:=fun w=>by
 obtain⟨sT,e1,e2⟩:=ends w
 have e3:=congrArg (fun x=>x.2.1) e2
 unfold lg at e3
 rw[←Fast.te4187177175401517315]at e3
 have e3:openSeen qV eg n8 (fun _=>true) true sT.abs=openGood qV eg:=e3
 unfold tp
 rw[e1]
 show some (openSeen qV eg n8 (fun _=>true) true sT.abs,some sT.abs)=_
 rw[e3]
theorem yL{w:World}{s:Ms}(y:some s=tp w):s.toks≠0/\∃g,JC w s.heap g:=by
 obtain⟨sT,e1,e2⟩:=ends w
 unfold tp at y
 rw[e1]at y
 cases y
 simp only[lg,oz,Prod.mk.injEq]at e2
 obtain⟨_,_,a1,a2,a3,a4,a5,a6,a7,a8⟩:=e2
 refine⟨fun z=>?_,gT sT,fun a o e=>Fh e,a1,a2,a3,a4,a5,qt a6,qt a7⟩
 have z:sT.toks=0:=z
 rw[z]at a8
 cases a8
end
end
section
open PySem PySem.Spec PySem.Calls PyProof.Rows PySem.W
section
theorem vN{X:Cx}{al:List (Mt×Mt)}{F:Mt->Prop}{h:Heap}{vs:List Mr}{ns:List Int}(i:IntsAre vs ns):ag X al F h (ns.map .int) vs:=by
 induction i with
 |nil=>exact .nil
 |cons n t _ ih=>exact .cons (.int n t) ih
theorem BZ{X:Cx}{al:List (Mt×Mt)}{F:Mt->Prop}{h:Heap}{i:Nat}{v:Mr}(r:Rep X al F h (.fn i) v):v=.ref (X.fnA i):=by
 cases r;rfl
theorem uP{X:Cx}{al:List (Mt×Mt)}{F:Mt->Prop}{h:Heap}{b:Bool}{v:Mr}(r:Rep X al F h (.bool b) v):v=.bool b:=by
 cases r;rfl
theorem Fd{w:World}{s₀ s₁:Ms}{R:WRecords}{mg mb:Str->Option Mr}(G:Ground qV eg R (fun _ _=>True) w s₀ mg mb s₁.heap){g:eD}(d:JC w s₁.heap g):Hd w mg s₁.heap g:=
 ⟨d.get,G.T.g,⟨mb,G.T.b,G.T.builtins⟩,G.T.nolimit,G.T.bmain,d.ok,d.bodies,d.body0,d.hashes,d.res,d.tab0,d.tab1⟩
theorem CU{w:World}{mg:Str->Option Mr}{h:Heap}{g:eD}(H:Hd w mg h g){fa:Mt}(hmg:mg "law"=some (.ref fa)):fa=dM 113:=by
 obtain⟨a,h1,h2⟩:=(H.gd fb).glob "law" (.fn 113) rfl
 have e:=BZ h2
 subst e
 rcases h1 with h1|h1
 ·have h1:mg "law"=some (.ref (dM 113)):=h1
  rw[hmg]at h1
  cases h1;rfl
 ·have h1:mg "law"=none:=h1.1
  rw[hmg]at h1;cases h1
theorem wF{w:World}{mg:Str->Option Mr}{h:Heap}{g:eD}(H:Hd w mg h g){c P:Mt}(hb:jS g c P=true):isCodeTable h P:=by
 obtain⟨o,vs,_,_,_,_,_,_,_,e,x1,hd,x2,_⟩:=jR H.get hb
 exact⟨c,o,vs,e,x1,hd,x2⟩
theorem HE{w:World}{mg:Str->Option Mr}{h:Heap}{g:eD}(H:Hd w mg h g):bT (gX w mg h g) [] [] (fun a=>a=295∨a=477) h:=by
 refine⟨fun b o e=>(wz e).1,fun a ha=>?_,.nil,fun a m=>(nomatch m),fun a m=>?_,.nil⟩
 ·rcases ha with rfl|rfl
  ·exact⟨⟨_,H.tab0⟩,oH h⟩
  ·exact⟨⟨_,H.tab1⟩,oG h⟩
 ·have t:∀P,h.get? P=some (tabObj #[])->iL (gX w mg h g) (fun a=>a=295∨a=477) h P:=fun P e=>⟨#[],e,trivial,fun i hi cv hcv=>by cases hcv⟩
  have m:a∈([295,477]:List Nat):=m
  rcases JY.mp m with rfl|m
  ·exact⟨.inl rfl,fun m=>nm m,t _ H.tab0⟩
  ·obtain rfl:=Kb.mp m
   exact⟨.inr rfl,fun m=>nm m,t _ H.tab1⟩
theorem Jo{X:Cx}{s:Ms}(h:s.toks≠0):bI X callerA 110 s:=
 ⟨h,rfl,by decide,by decide,[],rfl,fun e m=>(nomatch m)⟩
theorem Hy{w:World}{mg:Str->Option Mr}{h h':Heap}{g:eD}(H:Hd w mg h g){mu:List aa}{al:List (Mt×Mt)}{F:Mt->Prop}(I:bT (gX w mg h g) mu al F h'):OldK h h':=by
 have h0:jS g 299 295=true:=aF H.ok 4 rfl
 have h1:jS g 481 477=true:=aF H.ok 5 rfl
 have t:∀c P,jS g c P=true->h.get? P=some (tabObj #[])->P∈(gX w mg h g).tabs->∀o,h.get? P=some o->asItWas h h' P o/\∃o',h'.get? P=some o':=fun c P hb e m o eo=>by
  rw[e]at eo;cases eo
  obtain⟨ps,e',_⟩:=(I.tabs P m).2.2
  exact⟨.inr (.inl ⟨wF H hb,rfl, #[],ps,rfl,by simpa[tabObj]using e'⟩),_,e'⟩
 have all:∀b o,h.get? b=some o->asItWas h h' b o/\∃o',h'.get? b=some o':=fun b o e=>by
  by_cases b0:b=295
  ·subst b0;exact t _ _ h0 H.tab0 (.head _) o e
  ·by_cases b1:b=477
   ·subst b1;exact t _ _ h1 H.tab1 (.tail _ (.head _)) o e
   ·have:=I.stays b o ((fo b0 b1).trans e)
    exact⟨.inl this,o,this⟩
 exact⟨fun b o e=>(all b o e).1,fun b o e=>(all b o e).2⟩
theorem wS{w:World}{mg:Str->Option Mr}{s:Ms}{g:eD}(H:Hd w mg s.heap g)(ht:s.toks≠0){a:Mt}{vs:List Mr}{ns:List Int}(hn:ns.length<=63)(hi:IntsAre vs ns)(ho:s.heap.get? a=some {cls:=.type "list",data:=.seq vs.toArray}){Q E:Mr->Ms->Prop}
  (hq:∀s',OldK s.heap s'.heap->s'.os=s.os->s'.gens=s.gens->Q (.bool true) s'):wpAny (model prog0 w) callerA (call (.ref (dM 113)) [.ref a]) Q E s:=by
 have ne:¬(a=295∨a=477):=by
  rintro(rfl|rfl)
  ·rw[H.tab0]at ho;cases ho
  ·rw[H.tab1]at ho;cases ho
 have T:=G7 (H.rules fb) (script:=ns) (n:=110) (mu:=[]) (kv:=fun v _=>v=.bool true) (ke:=fun _ _=>False) hn (JL _) (fun _=>rfl)
 refine J0 (T callerA s [] _ (.ref (dM 113)) [.ref a] (Jo ht) (HE H) (.fn 113) (.cons (.lst ⟨_,ho⟩ ne (vN hi)) .nil)) (fun v s'=>?_) (fun e s'=>?_)
 ·rintro⟨r,mu',al',F',rfl,R,A,I⟩
  obtain⟨tk,e⟩:=A.rest
  rw[uP R]
  exact hq s' (Hy H I) (by rw[e]) (by rw[e])
 ·rintro⟨c,mu',al',F',f,_⟩
  exact f.elim
theorem Fe{s₁ s':Ms}{cl:Str->Option Mt}{mean:ExcName->Option Mr}{args:List WData}(k:OldK s₁.heap s'.heap)(o:s'.os=s₁.os)(b:s'.gens= #[])(hp:eJ.row.toRowW.claim.post args (.bool true) args=true):GoodWG eJ.row.toRowW.claim cl mean args s₁ (.ok (.ret (.bool true))) s':=
 ⟨.inl ⟨_,_,[],rfl,fun _=>rfl,ReadsW.bool true,hp,fun _=>⟨List.nodup_nil,fun _ hm=>nm hm⟩⟩,k,o,.of_eq b⟩
theorem GB{w:World}{s₀ s₁:Ms}{mg mb:Str->Option Mr}(G:Ground qV eg eJ.row.toRowW.records (fun _ _=>True) w s₀ mg mb s₁.heap)(Y:some s₀=tp w){fa:Mt}(hmg:mg "law"=some (.ref fa)){args:List WData}{vals:List Mr}{as:List Mt}
  (L:Laid eJ.row.toRowW.records w s₀ s₁ args vals as) (hpre:eJ.row.toRowW.claim.pre args=true) (hlay:WData.layableAll args=true) (hrd:ReadsAllW eJ.row.toRowW.records (classAt s₀.heap) s₁.heap vals args as) (hwl:WellAll w.params s₁.heap vals args) (hlo:∀a∈as,(a==sysModules)=false):
   wpAny (model eJ.row.toRowW.prog w) callerA (call (.ref fa) vals) (fun v s'=>GoodWG eJ.row.toRowW.claim (classAt s₀.heap) (ExcName.means s₀.heap) args s₁ (.ok (.ret v)) s')
    (fun e s'=>GoodWG eJ.row.toRowW.claim (classAt s₀.heap) (ExcName.means s₀.heap) args s₁ (.error e) s') s₁:=by
 obtain⟨htk,hy⟩:=yL Y
 obtain⟨g,d⟩:=YP.keeps _ _ _ hy L.keeps
 have H:=Fd G d
 have hg:=L.gens
 obtain rfl:=CU H hmg
 wrow_args hpre hlay hrd hwl hlo
 rename_i ns _ _ _ _ _ _ _ a vs _ hL _ _ _ hI _ hlen _
 have ht:=X.script_toks L rfl
 exact wS H (by omega) (by omega) hI (X.script_obj L hL) fun s' k o b=>Fe k o (b.trans hg) (by wrow_post)
theorem FD:eJ.row.toRowW.prog.bare:=⟨rfl,rfl,rfl,rfl,rfl,by decide+kernel⟩
theorem sN:eJ.row.toRowW.promised:=⟨[.list []],by decide+kernel,by decide+kernel⟩
theorem cw:eJ.Holds:=by
 refine holds_law vB fun _=>holds_openX (q:=qV) (loose:=eg) (Xt:=fun _=>true) (XP:=fun _ _=>True) (Yf:=fun s=>some s) (Ya:=tp) (N:=12000) left (fun _ _=>trivial) (fun _ _ _ _ _=>trivial) rfl rfl rfl (fun _ _=>recFacts_nil rfl) rfl nO (by decide+kernel) FD sN ?_
 intro w s₀ s₁ mg mb G Y fa o pm cd doc dV kV ho hd hcd hD hmg hg args vals as L hpre hlay hrd hwl hlo
 exact GB G Y hmg L hpre hlay hrd hwl hlo
end
end
end Mine
end
theorem PySem.Challenge.cw_pq0624_01_holds : PySem.Challenge.rw_pq0624_01.Holds :=
  Mine.cw
